import PyProof.Rows.All
import Wide.All
import OpenK.AllK
import Wide.FinOn
import HandS.ForMost
import HandS.Wide
import HandS.TupAny
import HandS.TupMul
import HandS.Gcd
import HandS.Deep
import HandS.IsInst
import HandS.SortInts
import HandS.Style
import HandS.Flow
import HandS.Conv
import HandS.Zip
import HandS.Exc
import HandS.More
import KE.GoesMore
import KE.GoesZip
import KE.GoesEnum
import HandS.SetFor
import HandS.Strs
import KE.KDictZip
import KE.KItemsList
import HandS.ExcInit
import HandS.ExcIs
import HandS.ExcField
import KE.KExcSuper
import KE.KSuper
import HandS.WordsExc
import HandS.ExcValue
import KE.KExcIs
import HandS.EndBits
import HandS.TryOnly
import PySem.Challenge.RW_bucketsalong_k54_who_is_held_and_when
set_option Elab.async false
set_option linter.all false
set_option maxRecDepth 100000
/-! RunA: plain values, a store of lists and dicts, a small syntax, and what a term of it gives. -/
namespace Bk
open PySem (Str PyData)

/-- values: tuples are plain, lists and dicts lie in the store; rol: a list that nobody changes -/
inductive Val where
  | non
  | bl (b : Bool)
  | int (i : Int)
  | str (x : Str)
  | tup (xs : List Val)
  | loc (n : Nat)
  | rol (xs : List Val)
  | exc (c : Str) (v : Val)

/-- what lies in the store: a list, a dict (t: its keys are tuples), an instance -/
inductive Ob where
  | lst (xs : List Val)
  | dct (t : Bool) (kvs : List (Val × Val))
  | ins (c : Str) (fs : List (Str × Val))

abbrev Sto := List Ob
abbrev Env := List (Option Val)

inductive Out (α : Type) where
  | ok (a : α) (s : Sto)
  | exc (c : Str) (v : Val) (s : Sto)
  | stuck

def Out.bind {α β : Type} : Out α → (α → Sto → Out β) → Out β
  | .ok a s, f => f a s
  | .exc c v s, _ => .exc c v s
  | .stuck, _ => .stuck
@[simp] theorem Out.bind_ok {α β : Type} (a : α) (s : Sto) (f : α → Sto → Out β) : (Out.ok a s).bind f = f a s := rfl
@[simp] theorem Out.bind_exc {α β : Type} (c : Str) (v : Val) (s : Sto) (f : α → Sto → Out β) : (Out.exc c v s : Out α).bind f = .exc c v s := rfl
@[simp] theorem Out.bind_stuck {α β : Type} (f : α → Sto → Out β) : (Out.stuck : Out α).bind f = .stuck := rfl

/-- what may raise stands no longer -/
def Out.nox {α : Type} : Out α → Out α
  | .exc _ _ _ => .stuck
  | o => o
@[simp] theorem Out.nox_ok {α : Type} (a : α) (s : Sto) : (Out.ok a s).nox = .ok a s := rfl
@[simp] theorem Out.nox_stuck {α : Type} : (Out.stuck : Out α).nox = .stuck := rfl

def Out.opt {α : Type} : Option α → Sto → Out α
  | some a, s => .ok a s
  | none, _ => .stuck
@[simp] theorem Out.opt_some {α : Type} (a : α) (s : Sto) : Out.opt (some a) s = .ok a s := rfl
@[simp] theorem Out.opt_none {α : Type} (s : Sto) : Out.opt (none : Option α) s = .stuck := rfl

/-! ### data: lists read through the store -/
mutual
def dataW (f : Nat → Option PyData) : Val → Option PyData
  | .non => some .none
  | .bl b => some (.bool b)
  | .int i => some (.int i)
  | .str x => some (.str x)
  | .tup xs => (dataWs f xs).map .tuple
  | .loc n => f n
  | .rol xs => (dataWs f xs).map .list
  | .exc _ _ => none
def dataWs (f : Nat → Option PyData) : List Val → Option (List PyData)
  | [] => some []
  | x :: xs => match dataW f x, dataWs f xs with
    | some d, some ds => some (d :: ds)
    | _, _ => none
end
/-- the items of a list in the store -/
def listAt (s : Sto) (n : Nat) : Option (List Val) := match s[n]? with
  | some (.lst xs) => some xs
  | _ => none
def dataL (s : Sto) : Nat → Nat → Option PyData
  | 0, _ => none
  | k + 1, n => match listAt s n with
    | some xs => (dataWs (dataL s k) xs).map .list
    | none => none
/-- the data of a value, lists in lists to a depth of six -/
def dataOf (s : Sto) (v : Val) : Option PyData := dataW (dataL s 6) v

/-! ### truth, items of a sequence -/
def truth (s : Sto) : Val → Option Bool
  | .non => some false
  | .bl b => some b
  | .int i => some (i != 0)
  | .str x => if x.length ≤ PySem.sizeLine then some (x.length != 0) else none
  | .tup xs => some (!xs.isEmpty)
  | .loc n => match s[n]? with
    | some (.lst xs) => some (!xs.isEmpty)
    | some (.dct false kvs) => some (!kvs.isEmpty)
    | _ => none
  | .rol xs => some (!xs.isEmpty)
  | .exc _ _ => none

/-- the items of a tuple or a list -/
def seqO (s : Sto) : Val → Option (List Val)
  | .tup xs => some xs
  | .loc n => listAt s n
  | .rol xs => some xs
  | _ => none
/-- the items of a list -/
def seqL (s : Sto) : Val → Option (List Val)
  | .loc n => listAt s n
  | .rol xs => some xs
  | _ => none
def intsO : List Val → Option (List Int)
  | [] => some []
  | .int i :: r => (intsO r).map (i :: ·)
  | _ => none
def boolsO : List Val → Option (List Bool)
  | [] => some []
  | .bl i :: r => (boolsO r).map (i :: ·)
  | _ => none

/-! ### operators -/
inductive Bop where | add | sub | mul | fdiv | mod | pow
  deriving DecidableEq
inductive Cop where | lt | le | gt | ge | eq | ne | is | isnot | isin | notin
  deriving DecidableEq

/-- the factors of a product: one of at most 64 bits, or both together of less than a million -/
def MulOk (i j : Int) : Prop := (-(2 ^ 64) < i ∧ i < 2 ^ 64) ∨ (-(2 ^ 64) < j ∧ j < 2 ^ 64) ∨ i.natAbs.log2 + j.natAbs.log2 < 1000000
noncomputable instance (i j : Int) : Decidable (MulOk i j) := Classical.propDecidable _
def DivOk (j : Int) : Prop := 0 < j ∧ j.natAbs.log2 < 9000
noncomputable instance (j : Int) : Decidable (DivOk j) := Classical.propDecidable _
def PowOk (i j : Int) : Prop := 0 ≤ j ∧ j ≤ 1000000 ∧ i.natAbs < 2 ^ 64
noncomputable instance (i j : Int) : Decidable (PowOk i j) := Classical.propDecidable _

def pushO (o : Ob) (s : Sto) : Out Val := .ok (.loc s.length) (s ++ [o])

noncomputable def binV : Bop → Val → Val → Sto → Out Val
  | .add, .int i, .int j, s => .ok (.int (i + j)) s
  | .add, .tup xs, .tup ys, s => if xs.length + ys.length ≤ PySem.sizeLine then .ok (.tup (xs ++ ys)) s else .stuck
  | .add, .str x, .str y, s => if x.length + y.length ≤ PySem.sizeLine then .ok (.str (x ++ y)) s else .stuck
  | .add, .loc a, .loc b, s => match s[a]?, s[b]? with
    | some (.lst xs), some (.lst ys) => if xs.length + ys.length ≤ PySem.sizeLine then pushO (.lst (xs ++ ys)) s else .stuck
    | _, _ => .stuck
  | .sub, .int i, .int j, s => .ok (.int (i - j)) s
  | .mul, .int i, .int j, s => if MulOk i j then .ok (.int (i * j)) s else .stuck
  | .mul, .tup xs, .int k, s => if xs ≠ [] ∧ xs.length ≤ 1000 ∧ -1000 ≤ k ∧ k ≤ 1000 then .ok (.tup (List.replicate k.toNat xs).flatten) s else .stuck
  | .mul, .loc a, .int k, s => match s[a]? with
    | some (.lst xs) => if xs.length ≤ 1000 ∧ -1000 ≤ k ∧ k ≤ 1000 then pushO (.lst (List.replicate k.toNat xs).flatten) s else .stuck
    | _ => .stuck
  | .fdiv, .int i, .int j, s => if DivOk j then .ok (.int (i / j)) s else .stuck
  | .mod, .int i, .int j, s => if 0 < j then .ok (.int (i % j)) s else .stuck
  | .pow, .int i, .int j, s => if PowOk i j then .ok (.int (i ^ j.toNat)) s else .stuck
  | _, _, _, _ => .stuck

def eqO (s : Sto) (x y : Val) : Option Bool := match dataOf s x, dataOf s y with
  | some d, some e => if PySem.SeqAt.shaped d = true ∧ PySem.SeqAt.shaped e = true then some (PySem.PyData.eqv d e) else none
  | _, _ => none
/-- x in xs, by == -/
def inO (s : Sto) (x y : Val) : Option Bool := match seqO s y with
  | none => none
  | some ys => match dataOf s x, dataWs (dataL s 6) ys with
    | some d, some es => if PySem.SeqAt.shaped d = true ∧ PySem.SeqAt.shaped (.list es) = true then some (es.any fun z => PySem.PyData.eqv z d) else none
    | _, _ => none

def cmpO (s : Sto) : Cop → Val → Val → Option Bool
  | .lt, .int i, .int j => some (decide (i < j))
  | .le, .int i, .int j => some (decide (i ≤ j))
  | .gt, .int i, .int j => some (decide (j < i))
  | .ge, .int i, .int j => some (decide (j ≤ i))
  | .eq, x, y => eqO s x y
  | .ne, x, y => (eqO s x y).map (!·)
  | .is, x, .non => match x with | .non => some true | _ => some false
  | .isnot, x, .non => match x with | .non => some false | _ => some true
  | .is, .bl a, .bl b => some (decide (a = b))
  | .isnot, .bl a, .bl b => some (!decide (a = b))
  | .isin, x, y => inO s x y
  | .notin, x, y => (inO s x y).map (!·)
  | _, _, _ => none
def cmpV (op : Cop) (x y : Val) (s : Sto) : Out Val := match cmpO s op x y with
  | some b => .ok (.bl b) s
  | none => .stuck

/-! ### items and slices -/
def ixN (n : Nat) (i : Int) : Option Nat := L2.ixN n i
def keyEq : Val → Val → Bool
  | .int i, .int j => decide (i = j)
  | .str x, .str y => decide (x = y)
  | .tup xs, .tup ys => go xs ys
  | _, _ => false
where go : List Val → List Val → Bool
  | [], [] => true
  | .int i :: xs, .int j :: ys => decide (i = j) && go xs ys
  | .str x :: xs, .str y :: ys => decide (x = y) && go xs ys
  | _, _ => false
def flatKey : Val → Bool
  | .int _ => true
  | .str _ => true
  | _ => false
/-- which keys a dict takes -/
def isKey : Bool → Val → Bool
  | false, k => flatKey k
  | true, .tup ks => ks.all flatKey
  | true, _ => false
def dlook (kvs : List (Val × Val)) (k : Val) : Option Val := (kvs.find? fun p => keyEq p.1 k).map (·.2)
def dput (kvs : List (Val × Val)) (k v : Val) : List (Val × Val) :=
  if kvs.any (fun p => keyEq p.1 k) then kvs.map fun p => if keyEq p.1 k then (p.1, v) else p else kvs ++ [(k, v)]

def itemV (v i : Val) (s : Sto) : Out Val := match v with
  | .tup xs => match i with
    | .int i => match L2.atI xs i with
      | some x => .ok x s
      | none => .stuck
    | _ => .stuck
  | .loc n => match s[n]? with
    | some (.dct t kvs) => if isKey t i then (match dlook kvs i with | some x => .ok x s | none => .stuck) else .stuck
    | some (.lst xs) => (match i with
      | .int i => match L2.atI xs i with
        | some x => .ok x s
        | none => .stuck
      | _ => .stuck)
    | _ => .stuck
  | .rol xs => match i with
    | .int i => match L2.atI xs i with
      | some x => .ok x s
      | none => .stuck
    | _ => .stuck
  | _ => .stuck
def cut {α : Type} (xs : List α) (lo hi : Option Int) : List α := (xs.drop (HT.sIx xs.length 0 lo)).take (HT.sIx xs.length xs.length hi - HT.sIx xs.length 0 lo)
def cutV (v : Val) (lo hi : Option Int) (s : Sto) : Out Val := match v with
  | .tup xs => .ok (.tup (cut xs lo hi)) s
  | v => match seqL s v with
    | some xs => pushO (.lst (cut xs lo hi)) s
    | none => .stuck
def revV (v : Val) (s : Sto) : Out Val := match seqL s v with
  | some xs => pushO (.lst xs.reverse) s
  | none => .stuck
/-- o[i] = v -/
def setV (o i v : Val) (s : Sto) : Out Unit := match o with
  | .loc n => match s[n]? with
    | some (.lst xs) => (match i with
      | .int k => match L2.ixN xs.length k with
        | some j => .ok () (s.set n (.lst (xs.set j v)))
        | none => .stuck
      | _ => .stuck)
    | some (.dct false kvs) => if isKey false i = true ∧ kvs.length < 1000000 then .ok () (s.set n (.dct false (dput kvs i v))) else .stuck
    | _ => .stuck
  | _ => .stuck
/-- d[i, j] = v, the key a display -/
def setKV (o : Val) (ks : List Val) (v : Val) (s : Sto) : Out Unit := match o with
  | .loc n => match s[n]? with
    | some (.dct true kvs) => if isKey true (.tup ks) = true ∧ ks.length ≤ 8 ∧ kvs.length < 1000000 then .ok () (s.set n (.dct true (dput kvs (.tup ks) v))) else .stuck
    | _ => .stuck
  | _ => .stuck

/-! ### built-in functions and methods -/
inductive Pr where | len | int | abs | max | min | gcd | tuple | list | sum | all | any | repr | sorted | isinst (ts : List String) | isex (c : Str) (cs : List Str)
inductive Me where | append | pop | insert | extend | get | index

def maxL : Int → List Int → Int
  | i, [] => i
  | i, x :: r => maxL (if x > i then x else i) r
def minL : Int → List Int → Int
  | i, [] => i
  | i, x :: r => minL (if x < i then x else i) r
/-- in its place, if it is new -/
def insS (k : Int) : List Int → List Int
  | [] => [k]
  | x :: r => if k < x then k :: x :: r else if k = x then x :: r else x :: insS k r
def sortS : List Int → List Int
  | [] => []
  | x :: r => insS x (sortS r)
def sortI (ns : List Int) : List Int := ns.mergeSort fun a b => decide (a ≤ b)
def typeName (s : Sto) : Val → Option String
  | .non => some "NoneType"
  | .bl _ => some "bool"
  | .int _ => some "int"
  | .str _ => some "str"
  | .tup _ => some "tuple"
  | .loc n => match s[n]? with
    | some (.lst _) => some "list"
    | some (.dct _ _) => some "dict"
    | _ => none
  | .rol _ => some "list"
  | .exc _ _ => none
/-- isinstance of an own error of the class c, by the own class d -/
def isaX (c d : Str) : Bool := decide (c = d) || decide (d = "BucketError")
/-- isinstance of a value of the built-in type t, by the built-in type u -/
def isaB (t u : String) : Bool := t == u || (t == "bool" && u == "int")

def primV : Pr → List Val → Sto → Out Val
  | .len, [.str x], s => if x.length ≤ PySem.sizeLine then .ok (.int x.length) s else .stuck
  | .len, [.tup xs], s => .ok (.int xs.length) s
  | .len, [.rol xs], s => .ok (.int xs.length) s
  | .len, [.loc n], s => match s[n]? with
    | some (.lst xs) => .ok (.int xs.length) s
    | some (.dct false kvs) => .ok (.int kvs.length) s
    | _ => .stuck
  | .int, [.int i], s => .ok (.int i) s
  | .int, [.bl b], s => .ok (.int (if b then 1 else 0)) s
  | .abs, [.int i], s => .ok (.int (if i < 0 then -i else i)) s
  | .max, [.int i, .int j], s => .ok (.int (if j > i then j else i)) s
  | .min, [.int i, .int j], s => .ok (.int (if j < i then j else i)) s
  | .max, [v], s => match (seqL s v).bind intsO with
    | some (i :: r) => .ok (.int (maxL i r)) s
    | _ => .stuck
  | .min, [v], s => match (seqL s v).bind intsO with
    | some (i :: r) => .ok (.int (minL i r)) s
    | _ => .stuck
  | .gcd, [.int a, .int b], s => .ok (.int (Nat.gcd a.natAbs b.natAbs : Nat)) s
  | .tuple, [v], s => match seqO s v with
    | some xs => .ok (.tup xs) s
    | none => .stuck
  | .list, [v], s => match seqO s v with
    | some xs => pushO (.lst xs) s
    | none => match v with
      | .loc n => (match s[n]? with
        | some (.dct false kvs) => pushO (.lst (kvs.map (·.1))) s
        | _ => .stuck)
      | _ => .stuck
  | .sum, [v], s => match (seqL s v).bind intsO with
    | some ns => .ok (.int ns.sum) s
    | none => .stuck
  | .all, [v], s => match (seqL s v).bind boolsO with
    | some bs => .ok (.bl (bs.all id)) s
    | none => .stuck
  | .any, [.tup xs], s => match intsO xs with
    | some ns => .ok (.bl (ns.any (· != 0))) s
    | none => .stuck
  | .any, [v], s => match (seqL s v).bind boolsO with
    | some bs => .ok (.bl (bs.any id)) s
    | none => .stuck
  | .repr, [v], s => match dataOf s v with
    | some d => if d.showable = true ∧ d.shown.length ≤ PySem.sizeLine ∧ d.depth ≤ 100 then .ok (.str d.shown) s else .stuck
    | none => .stuck
  | .sorted, [v], s => match seqL s v with
    | some xs => (match intsO xs with | some ns => pushO (.lst ((sortI ns).map .int)) s | none => .stuck)
    | none => match v with
      | .loc n => (match s[n]? with
        | some (.dct false kvs) => (match intsO (kvs.map (·.1)) with | some ns => if ns.length < 64 then pushO (.lst ((sortI ns).map .int)) s else .stuck | none => .stuck)
        | _ => .stuck)
      | _ => .stuck
  | .isinst ts, [v], s => match typeName s v with
    | some t => .ok (.bl (ts.any (isaB t))) s
    | none => .stuck
  | .isex d cs, [v], s => match v with
    | .exc c _ => if c ∈ cs then .ok (.bl (isaX c d)) s else .stuck
    | .non => .ok (.bl false) s
    | _ => .stuck
  | _, _, _ => .stuck

/-- the first place of an equal one -/
def indexO (s : Sto) (x v : Val) : Option Nat := match dataOf s x, dataOf s v with
  | some (.list ds), some d => if PySem.SeqAt.shaped (.list ds) = true ∧ PySem.SeqAt.shaped d = true ∧ ds.findIdx (fun z => PySem.PyData.eqv z d) < ds.length then some (ds.findIdx fun z => PySem.PyData.eqv z d) else none
  | _, _ => none
def methV : Me → Val → List Val → Sto → Out Val
  | .append, .loc n, [v], s => match s[n]? with
    | some (.lst xs) => if xs.length < PySem.sizeLine then .ok .non (s.set n (.lst (xs ++ [v]))) else .stuck
    | _ => .stuck
  | .pop, .loc n, [], s => match s[n]? with
    | some (.lst xs) => (match xs[xs.length - 1]? with
      | some v => .ok v (s.set n (.lst xs.dropLast))
      | none => .stuck)
    | _ => .stuck
  | .insert, .loc n, [.int i, v], s => match s[n]? with
    | some (.lst xs) => if 0 ≤ i ∧ i ≤ xs.length ∧ xs.length < PySem.sizeLine then .ok .non (s.set n (.lst (xs.take i.toNat ++ v :: xs.drop i.toNat))) else .stuck
    | _ => .stuck
  | .extend, .loc n, [.loc m], s => match s[n]?, s[m]? with
    | some (.lst xs), some (.lst ys) => if xs.length + ys.length ≤ PySem.sizeLine then .ok .non (s.set n (.lst (xs ++ ys))) else .stuck
    | _, _ => .stuck
  | .get, .loc n, [k, d], s => match s[n]? with
    | some (.dct t kvs) => if isKey t k then .ok ((dlook kvs k).getD d) s else .stuck
    | _ => .stuck
  | .index, .loc n, [v], s => match indexO s (.loc n) v with
    | some j => .ok (.int (j : Nat)) s
    | none => .stuck
  | _, _, _, _ => .stuck

/-- which receiver a method takes -/
def recvOk (m : Me) (s : Sto) : Val → Bool
  | .loc n => match m, s[n]? with
    | .get, some (.dct _ _) => true
    | .get, _ => false
    | _, some (.lst _) => true
    | _, _ => false
  | _ => false

/-! ### the syntax -/
inductive Tg where
  | nm (i : Nat)
  | pr (a b : Tg)
  | tr (a b c : Tg)
  | qd (a b c d : Tg)
  | qn (a b c d e : Tg)

mutual
inductive E where
  | var (i : Nat)
  | cst (v : Val)
  | glob (x : Str)
  | bin (o : Bop) (a b : E)
  | neg (a : E)
  | nt (a : E)
  | cmp (o : Cop) (a b : E)
  | chn (o o' : Cop) (a b c : E)
  | and (a b : E)
  | or (a b : E)
  | ife (c a b : E)
  | call (f : Str) (as : Es)
  | callK (f : Str) (as : Es) (ks : List Str) (kas : Es)
  | prim (p : Pr) (as : Es)
  | meth (m : Me) (o : E) (as : Es)
  | idx (a i : E)
  | fld (cs : List Str) (a : E)
  | slc (a : E) (lo hi : Eo)
  | rev (a : E)
  | srt (a : E)
  | lzip (a b : E)
  | tup (as : Es)
  | lst (as : Es)
  | dct (t : Bool)
  | lc (e : E) (g : Tg) (it : It) (c : Eo) (own : List Nat)
inductive Es where
  | nil
  | cons (e : E) (r : Es)
inductive Eo where
  | none
  | some (e : E)
inductive It where
  | seq (e : E)
  | rng1 (b : E)
  | rng2 (a b : E)
  | rng3 (a b c : E)
  | enum (e : E)
  | zip (a b : E)
  | zip3 (a b c : E)
end
mutual
inductive S where
  | asg (g : Tg) (e : E)
  | setI (o i e : E)
  | setK (o : E) (ks : Es) (e : E)
  | aug (i : Nat) (o : Bop) (e : E)
  | expr (e : E)
  | ife (c : E) (a b : Ss)
  | for_ (g : Tg) (it : It) (b : Ss)
  | while_ (c : E) (b : Ss)
  | ret (e : E)
  | retN
  | pass
  | brk
  | cnt
  | never
  | raise (c : Str) (e : E)
  | tryC (b : Ss) (c : Str) (cs : List Str) (i j : Nat)
inductive Ss where
  | nil
  | cons (s : S) (r : Ss)
end

/-! ### what it gives -/
structure Ctx where
  call : Str → List Val → Sto → Out Val
  params : Str → Option (List Str)
  const : Str → Option Val

/-- the arguments in the parameters' order: np by position, then by name -/
def ixK (ps : List Str) (np : Nat) (ks : List Str) : List Nat := List.range np ++ (ps.drop np).map fun p => np + (ks.findIdx fun k => decide (k = p))
def ordK {α : Type} (ix : List Nat) (xs : List α) : List α := ix.filterMap fun i => xs[i]?

def asgTs (s : Sto) : Val → Nat → Option (List Val) := fun v n => match seqO s v with
  | some xs => if xs.length = n then some xs else none
  | none => none
def asgT (s : Sto) : Tg → Val → Env → Option Env
  | .nm i, v, σ => some (σ.set i (some v))
  | .pr a b, v, σ => match asgTs s v 2 with
    | some [x, y] => (asgT s a x σ).bind (asgT s b y)
    | _ => none
  | .tr a b c, v, σ => match asgTs s v 3 with
    | some [x, y, z] => ((asgT s a x σ).bind (asgT s b y)).bind (asgT s c z)
    | _ => none
  | .qd a b c d, v, σ => match asgTs s v 4 with
    | some [x, y, z, w] => (((asgT s a x σ).bind (asgT s b y)).bind (asgT s c z)).bind (asgT s d w)
    | _ => none
  | .qn a b c d e, v, σ => match asgTs s v 5 with
    | some [x, y, z, w, u] => ((((asgT s a x σ).bind (asgT s b y)).bind (asgT s c z)).bind (asgT s d w)).bind (asgT s e u)
    | _ => none

/-- what must stay as it is while a loop goes -/
inductive Gd where
  | none
  | ro
  | lst (n : Nat) (xs : List Val)
  | both (a b : Gd)
def Gd.holds (s : Sto) : Gd → Prop
  | .none => True
  | .ro => True
  | .lst n xs => listAt s n = Option.some xs
  | .both a b => a.holds s ∧ b.holds s
/-- the items of a sequence, and what holds it -/
def seqG (s : Sto) : Val → Option (List Val × Gd)
  | .tup xs => some (xs, .none)
  | .loc n => match listAt s n with
    | some xs => some (xs, .lst n xs)
    | none => Option.none
  | .rol xs => some (xs, .ro)
  | _ => Option.none
def rangeV (a : Int) (n : Nat) : List Val := (List.range n).map fun i => .int (a + (i : Nat))
def rangeC (a c : Int) (n : Nat) : List Val := (List.range n).map fun i => .int (a + (i : Nat) * c)
def enumV (xs : List Val) : List Val := (List.range xs.length).zipWith (fun i v => .tup [.int (i : Nat), v]) xs
def zipV (xs ys : List Val) : List Val := xs.zipWith (fun u v => .tup [u, v]) ys
def zip3V (xs ys zs : List Val) : List Val := (xs.zipWith (fun u v => (u, v)) ys).zipWith (fun p w => .tup [p.1, p.2, w]) zs
def smallI (i : Int) : Prop := -(2 ^ 62) ≤ i ∧ i < 2 ^ 62
noncomputable instance (i : Int) : Decidable (smallI i) := Classical.propDecidable _

def wipe (σ : Env) : List Nat → Env
  | [] => σ
  | v :: vs => (wipe σ vs).set v none

open Classical in
/-- a comprehension's turns: the items made -/
noncomputable def lcLoop (bd : Val → Sto → Out (Option Val)) (gd : Gd) : List Val → List Val → Sto → Out (List Val)
  | [], acc, s => if gd.holds s then .ok acc s else .stuck
  | x :: xs, acc, s => if gd.holds s then (bd x s).nox.bind fun r s' => match r with
      | some y => if acc.length < PySem.sizeLine then lcLoop bd gd xs (acc ++ [y]) s' else .stuck
      | none => lcLoop bd gd xs acc s'
    else .stuck

mutual
noncomputable def evalE (G : Ctx) : E → Env → Sto → Out Val
  | .var i, σ, s => match σ[i]? with
    | some (some v) => .ok v s
    | _ => .stuck
  | .cst v, _, s => .ok v s
  | .glob x, _, s => match G.const x with
    | some v => .ok v s
    | none => .stuck
  | .bin o a b, σ, s => (evalE G a σ s).bind fun x s1 => (evalE G b σ s1).bind fun y s2 => binV o x y s2
  | .neg a, σ, s => (evalE G a σ s).bind fun x s1 => match x with
    | .int i => .ok (.int (-i)) s1
    | _ => .stuck
  | .nt a, σ, s => (evalE G a σ s).bind fun x s1 => match truth s1 x with
    | some b => .ok (.bl (!b)) s1
    | none => .stuck
  | .srt a, σ, s => (evalE G a σ s).bind fun x s1 => match seqL s1 x with
    | some xs => (match intsO xs with | some ns => if ns.length ≤ 1000 ∧ (sortS ns).length < 64 then pushO (.lst ((sortS ns).map .int)) s1 else .stuck | none => .stuck)
    | none => .stuck
  | .lzip a b, σ, s => (evalE G a σ s).bind fun x s1 => (evalE G b σ s1).bind fun y s2 => match seqL s2 x, seqL s2 y with
    | some xs, some ys => if xs.length = ys.length then pushO (.lst (zipV xs ys)) s2 else .stuck
    | _, _ => .stuck
  | .cmp o a b, σ, s => (evalE G a σ s).bind fun x s1 => (evalE G b σ s1).bind fun y s2 => cmpV o x y s2
  | .chn o o' a b c, σ, s => (evalE G a σ s).bind fun x s1 => (evalE G b σ s1).bind fun y s2 => (cmpV o x y s2).bind fun k s3 => match k with
    | .bl true => (evalE G c σ s3).bind fun z s4 => cmpV o' y z s4
    | .bl false => .ok (.bl false) s3
    | _ => .stuck
  | .and a b, σ, s => (evalE G a σ s).bind fun x s1 => match truth s1 x with
    | some true => evalE G b σ s1
    | some false => .ok x s1
    | none => .stuck
  | .or a b, σ, s => (evalE G a σ s).bind fun x s1 => match truth s1 x with
    | some true => .ok x s1
    | some false => evalE G b σ s1
    | none => .stuck
  | .ife c a b, σ, s => (evalT G c σ s).bind fun k s1 => match k with
    | true => evalE G a σ s1
    | false => evalE G b σ s1
  | .call f as, σ, s => (evalEs G as σ s).bind fun vs s1 => G.call f vs s1
  | .callK f as ks kas, σ, s => (evalEs G as σ s).bind fun vs s1 => (evalEs G kas σ s1).bind fun us s2 => match G.params f with
    | some ps => G.call f (ordK (ixK ps vs.length ks) (vs ++ us)) s2
    | none => .stuck
  | .prim p as, σ, s => (evalEs G as σ s).bind fun vs s1 => primV p vs s1
  | .meth m o as, σ, s => (evalE G o σ s).bind fun x s1 => if recvOk m s1 x = true then (evalEs G as σ s1).bind fun vs s2 => methV m x vs s2 else .stuck
  | .idx a i, σ, s => (evalE G a σ s).bind fun x s1 => (evalE G i σ s1).bind fun y s2 => itemV x y s2
  | .fld cs a, σ, s => (evalE G a σ s).bind fun x s1 => match x with
    | .exc c v => if c ∈ cs then .ok v s1 else .stuck
    | _ => .stuck
  | .slc a lo hi, σ, s => (evalE G a σ s).bind fun x s1 => (evalEo G lo σ s1).bind fun l s2 => (evalEo G hi σ s2).bind fun h s3 => cutV x l h s3
  | .rev a, σ, s => (evalE G a σ s).bind fun x s1 => revV x s1
  | .tup as, σ, s => (evalEs G as σ s).bind fun vs s1 => if vs.length ≤ PySem.sizeLine then .ok (.tup vs) s1 else .stuck
  | .lst as, σ, s => (evalEs G as σ s).bind fun vs s1 => if vs.length ≤ PySem.sizeLine then pushO (.lst vs) s1 else .stuck
  | .dct t, _, s => pushO (.dct t []) s
  | .lc e g it c own, σ, s => (evalIt G it σ s).bind fun p s1 =>
      (lcLoop (fun x s2 => match asgT s2 g x (wipe σ own) with
        | some σ2 => (evalC G c σ2 s2).bind fun k s3 => match k with
          | true => (evalE G e σ2 s3).bind fun v s4 => .ok (some v) s4
          | false => .ok none s3
        | none => .stuck) p.2 p.1 [] s1).bind fun vs s2 => pushO (.lst vs) s2
/-- as a test -/
noncomputable def evalT (G : Ctx) : E → Env → Sto → Out Bool
  | .and a b, σ, s => (evalT G a σ s).bind fun k s1 => match k with
    | true => evalT G b σ s1
    | false => .ok false s1
  | .or a b, σ, s => (evalT G a σ s).bind fun k s1 => match k with
    | true => .ok true s1
    | false => evalT G b σ s1
  | .nt a, σ, s => (evalT G a σ s).bind fun k s1 => .ok (!k) s1
  | .ife c a b, σ, s => (evalT G c σ s).bind fun k s1 => match k with
    | true => evalT G a σ s1
    | false => evalT G b σ s1
  | .cmp o a b, σ, s => (evalE G a σ s).bind fun x s1 => (evalE G b σ s1).bind fun y s2 => match cmpO s2 o x y with
    | some k => .ok k s2
    | none => .stuck
  | .chn o o' a b c, σ, s => (evalE G a σ s).bind fun x s1 => (evalE G b σ s1).bind fun y s2 => match cmpO s2 o x y with
    | some true => (evalE G c σ s2).bind fun z s4 => (match cmpO s4 o' y z with
      | some k => .ok k s4
      | none => .stuck)
    | some false => .ok false s2
    | none => .stuck
  | .var i, σ, s => match σ[i]? with
    | some (some v) => Out.opt (truth s v) s
    | _ => .stuck
  | .cst v, _, s => Out.opt (truth s v) s
  | .call f as, σ, s => (evalEs G as σ s).bind fun vs s1 => (G.call f vs s1).bind fun x s2 => Out.opt (truth s2 x) s2
  | .callK f as ks kas, σ, s => (evalEs G as σ s).bind fun vs s1 => (evalEs G kas σ s1).bind fun us s2 => match G.params f with
    | some ps => (G.call f (ordK (ixK ps vs.length ks) (vs ++ us)) s2).bind fun x s3 => Out.opt (truth s3 x) s3
    | none => .stuck
  | .bin o a b, σ, s => (evalE G a σ s).bind fun x s1 => (evalE G b σ s1).bind fun y s2 => (binV o x y s2).bind fun z s3 => Out.opt (truth s3 z) s3
  | .meth m o as, σ, s => (evalE G o σ s).bind fun x s1 => if recvOk m s1 x = true then (evalEs G as σ s1).bind fun vs s2 => (methV m x vs s2).bind fun z s3 => Out.opt (truth s3 z) s3 else .stuck
  | .glob x, _, s => match G.const x with
    | some v => Out.opt (truth s v) s
    | none => .stuck
  | .prim p as, σ, s => (evalEs G as σ s).bind fun vs s1 => (primV p vs s1).bind fun x s2 => Out.opt (truth s2 x) s2
  | .idx a i, σ, s => (evalE G a σ s).bind fun x s1 => (evalE G i σ s1).bind fun y s2 => (itemV x y s2).bind fun z s3 => Out.opt (truth s3 z) s3
  | _, _, _ => .stuck
noncomputable def evalEs (G : Ctx) : Es → Env → Sto → Out (List Val)
  | .nil, _, s => .ok [] s
  | .cons e r, σ, s => (evalE G e σ s).bind fun x s1 => (evalEs G r σ s1).bind fun xs s2 => .ok (x :: xs) s2
/-- an optional int -/
noncomputable def evalEo (G : Ctx) : Eo → Env → Sto → Out (Option Int)
  | .none, _, s => .ok none s
  | .some e, σ, s => (evalE G e σ s).bind fun x s1 => match x with
    | .int i => .ok (some i) s1
    | _ => .stuck
/-- an optional test -/
noncomputable def evalC (G : Ctx) : Eo → Env → Sto → Out Bool
  | .none, _, s => .ok true s
  | .some e, σ, s => evalT G e σ s
noncomputable def evalIt (G : Ctx) : It → Env → Sto → Out (List Val × Gd)
  | .seq e, σ, s => (evalE G e σ s).bind fun x s1 => Out.opt (seqG s1 x) s1
  | .rng1 b, σ, s => (evalE G b σ s).bind fun x s1 => match x with
    | .int j => if smallI j then .ok (rangeV 0 j.toNat, .none) s1 else .stuck
    | _ => .stuck
  | .rng2 a b, σ, s => (evalE G a σ s).bind fun x s1 => (evalE G b σ s1).bind fun y s2 => match x, y with
    | .int i, .int j => if smallI i ∧ smallI j then .ok (rangeV i (j - i).toNat, .none) s2 else .stuck
    | _, _ => .stuck
  | .rng3 a b c, σ, s => (evalE G a σ s).bind fun x s1 => (evalE G b σ s1).bind fun y s2 => (evalE G c σ s2).bind fun z s3 => match x, y, z with
    | .int i, .int j, .int (-1) => if smallI i ∧ smallI j then .ok (rangeC i (-1) (i - j).toNat, .none) s3 else .stuck
    | _, _, _ => .stuck
  | .enum e, σ, s => (evalE G e σ s).bind fun x s1 => match seqG s1 x with
    | some (xs, g) => .ok (enumV xs, g) s1
    | none => .stuck
  | .zip3 a b c, σ, s => (evalE G a σ s).bind fun x s1 => (evalE G b σ s1).bind fun y s2 => (evalE G c σ s2).bind fun z s3 => match seqG s3 x, seqG s3 y, seqG s3 z with
    | some (xs, g1), some (ys, g2), some (zs, g3) => .ok (zip3V xs ys zs, .both g1 (.both g2 g3)) s3
    | _, _, _ => .stuck
  | .zip a b, σ, s => (evalE G a σ s).bind fun x s1 => (evalE G b σ s1).bind fun y s2 => match seqG s2 x, seqG s2 y with
    | some (xs, .none), some (ys, .none) => .ok (zipV xs ys, .none) s2
    | some (xs, .none), some (ys, .lst m ws) => .ok (zipV xs ys, .lst m ws) s2
    | some (xs, .lst n us), some (ys, .lst m ws) => .ok (zipV xs ys, .both (.lst n us) (.lst m ws)) s2
    | _, _ => .stuck
end

inductive Fl where
  | nx (σ : Env)
  | rt (v : Val)
  | bk (σ : Env)
  | ct (σ : Env)

open Classical in
noncomputable def forLoop (bd : Val → Env → Sto → Out Fl) (gd : Gd) : List Val → Env → Sto → Out Fl
  | [], σ, s => if gd.holds s then .ok (.nx σ) s else .stuck
  | x :: xs, σ, s => if gd.holds s then (bd x σ s).bind fun f s' => match f with
      | .nx σ' => forLoop bd gd xs σ' s'
      | .ct σ' => forLoop bd gd xs σ' s'
      | .bk σ' => .ok (.nx σ') s'
      | .rt v => .ok (.rt v) s'
    else .stuck
def whileN (c : Env → Sto → Out Bool) (bd : Env → Sto → Out Fl) : Nat → Env → Sto → Out Fl
  | 0, _, _ => .stuck
  | n + 1, σ, s => (c σ s).bind fun k s1 => match k with
    | true => (bd σ s1).bind fun f s2 => match f with
      | .nx σ' => whileN c bd n σ' s2
      | .ct σ' => whileN c bd n σ' s2
      | .bk σ' => .ok (.nx σ') s2
      | .rt v => .ok (.rt v) s2
    | false => .ok (.nx σ) s1
open Classical in
noncomputable def whileL (c : Env → Sto → Out Bool) (bd : Env → Sto → Out Fl) (σ : Env) (s : Sto) : Out Fl :=
  if h : ∃ n, whileN c bd n σ s ≠ .stuck then whileN c bd (Classical.choose h) σ s else .stuck

mutual
noncomputable def exec (G : Ctx) : S → Env → Sto → Out Fl
  | .asg g e, σ, s => (evalE G e σ s).bind fun x s1 => match asgT s1 g x σ with
    | some σ' => .ok (.nx σ') s1
    | none => .stuck
  | .setI o i e, σ, s => (evalE G e σ s).bind fun v s1 => (evalE G o σ s1).bind fun x s2 => (evalE G i σ s2).bind fun y s3 => (setV x y v s3).bind fun _ s4 => .ok (.nx σ) s4
  | .setK o ks e, σ, s => (evalE G e σ s).bind fun v s1 => (evalE G o σ s1).bind fun x s2 => (evalEs G ks σ s2).bind fun y s3 => (setKV x y v s3).bind fun _ s4 => .ok (.nx σ) s4
  | .aug i o e, σ, s => match σ[i]? with
    | some (some (.int x)) => (evalE G e σ s).bind fun y s1 => (match o, y with
      | .add, .int j => .ok (.nx (σ.set i (some (.int (x + j))))) s1
      | .sub, .int j => .ok (.nx (σ.set i (some (.int (x - j))))) s1
      | _, _ => .stuck)
    | _ => .stuck
  | .expr e, σ, s => (evalE G e σ s).bind fun _ s1 => .ok (.nx σ) s1
  | .ife c a b, σ, s => (evalT G c σ s).bind fun k s1 => match k with
    | true => execs G a σ s1
    | false => execs G b σ s1
  | .for_ g it b, σ, s => (evalIt G it σ s).bind fun p s1 => forLoop (fun x σ2 s2 => match asgT s2 g x σ2 with
      | some σ3 => execs G b σ3 s2
      | none => .stuck) p.2 p.1 σ s1
  | .while_ c b, σ, s => whileL (evalT G c) (execs G b) σ s
  | .ret e, σ, s => (evalE G e σ s).bind fun x s1 => .ok (.rt x) s1
  | .retN, _, s => .ok (.rt .non) s
  | .pass, σ, s => .ok (.nx σ) s
  | .brk, σ, s => .ok (.bk σ) s
  | .cnt, σ, s => .ok (.ct σ) s
  | .never, _, _ => .stuck
  | .raise c e, σ, s => (evalE G e σ s).bind fun x s1 => .exc c x s1
  | .tryC b c cs i j, σ, s => match execs G b σ s with
    | .exc d v s1 => if d ∈ cs ∧ isaX d c = true then .ok (.nx ((σ.set j (some (.exc d v))).set i none)) s1 else .stuck
    | o => o
noncomputable def execs (G : Ctx) : Ss → Env → Sto → Out Fl
  | .nil, σ, s => .ok (.nx σ) s
  | .cons t r, σ, s => (exec G t σ s).bind fun f s1 => match f with
    | .nx σ' => execs G r σ' s1
    | f => .ok f s1
end

/-! ### a program -/
structure Def where
  name : Str
  ps : List Str
  n : Nat
  body : Ss
structure Prog where
  defs : List Def
  consts : List (Str × Val)
def Prog.find (P : Prog) (f : Str) : Option Def := P.defs.find? fun d => decide (d.name = f)
def startE (d : Def) (vs : List Val) : Env := vs.map some ++ List.replicate (d.n - vs.length) none
def finish : Out Fl → Out Val
  | .ok (.rt v) s => .ok v s
  | .ok (.nx _) s => .ok .non s
  | .ok _ _ => .stuck
  | .exc c v s => .exc c v s
  | .stuck => .stuck
noncomputable def ctxOf (P : Prog) (cl : Str → List Val → Sto → Out Val) : Ctx where
  call := cl
  params := fun f => (P.find f).map (·.ps)
  const := fun x => P.consts.lookup x
noncomputable def callN (P : Prog) : Nat → Str → List Val → Sto → Out Val
  | 0, _, _, _ => .stuck
  | k + 1, f, vs, s => match P.find f with
    | some d => if vs.length = d.ps.length then finish (execs (ctxOf P (callN P k)) d.body (startE d vs) s) else .stuck
    | none => .stuck
end Bk
/-! RunB: how plain values lie in the abstract heap, and that they stay. -/
namespace Bk
open PySem PySem.Spec PyProof.Rows L2

/-- a list that nobody changes -/
def Rol (K : PySem.W.Frag) (H : Hp) (a : Addr) (vs : List V) : Prop := ∀ H' : Hp, (∀ o u, H a = some (.frz o u) → H' a = some (.frz o u)) → SqL K H' a vs
theorem Rol.sq {K : PySem.W.Frag} {H : Hp} {a : Addr} {vs : List V} (h : Rol K H a vs) : SqL K H a vs := h H fun _ _ e => e

/-- an error that was raised: its class, its dict -/
def exR (a C d : Addr) : HO := .ext fun h => ∃ (oe : Obj) (vs : Array Value), h.get? a = some oe ∧ Zc (.ref C) (some d) oe ∧ oe.data = .fields vs
mutual
def Rep (K : PySem.W.Frag) (ρ : List Addr) (H : Hp) : Val → V → Prop
  | .non, v => v = V.non
  | .bl b, v => v = V.bl b
  | .int i, v => v = V.int i
  | .str x, v => v = V.str x
  | .tup xs, v => ∃ (a : Addr) (vs : List V), v = V.ref a ∧ SqT K H a vs ∧ RepL K ρ H xs vs
  | .loc n, v => ∃ a : Addr, v = V.ref a ∧ ρ[n]? = some a
  | .rol xs, v => ∃ (a : Addr) (vs : List V), v = V.ref a ∧ Rol K H a vs ∧ RepL K ρ H xs vs
  | .exc c x, w => ∃ (a d C : Addr) (y : V), w = V.ref a ∧ PySem.W.nsIn K mainGlobals c = some (some (.ref C)) ∧ H a = some (exR a C d) ∧ H d = some (.xd [("value", y)]) ∧ Rep K ρ H x y
def RepL (K : PySem.W.Frag) (ρ : List Addr) (H : Hp) : List Val → List V → Prop
  | [], vs => vs = []
  | x :: xs, vs => ∃ (v : V) (r : List V), vs = v :: r ∧ Rep K ρ H x v ∧ RepL K ρ H xs r
end

def keyOf : Val → Option Key
  | .int i => some (.inl i)
  | .str x => some (.inr x)
  | _ => none
def keysOf : List Val → Option (List Key)
  | [] => some []
  | x :: xs => match keyOf x, keysOf xs with
    | some k, some ks => some (k :: ks)
    | _, _ => none
def keyT : Val → Option (List Key)
  | .tup xs => keysOf xs
  | _ => none

def RepO (K : PySem.W.Frag) (ρ : List Addr) (H : Hp) : Ob → Addr → Prop
  | .lst xs, a => ∃ vs, H a = some (.lst vs) ∧ RepL K ρ H xs vs
  | .dct false kvs, a => ∃ kws : List (Key × V), H a = some (.dK kws) ∧ Paired (fun p q => keyOf p.1 = some q.1 ∧ Rep K ρ H p.2 q.2) kvs kws
  | .dct true kvs, a => ∃ kws : List (List Key × V), H a = some (.dT kws) ∧ Paired (fun p q => keyT p.1 = some q.1 ∧ Rep K ρ H p.2 q.2) kvs kws
  | .ins _ _, _ => False
structure RelS (K : PySem.W.Frag) (ρ : List Addr) (s : Sto) (H : Hp) : Prop where
  len : ρ.length = s.length
  obj : ∀ (n : Nat) (a : Addr) (o : Ob), ρ[n]? = some a → s[n]? = some o → RepO K ρ H o a
  inj : ∀ (n m : Nat) (a : Addr), ρ[n]? = some a → ρ[m]? = some a → n = m

def Fix : HO → Bool
  | .tup _ => true
  | .frz _ _ => true
  | .ext _ => true
  | .xd _ => true
  | _ => false
/-- what came: new places, what nobody may touch stands as it stood -/
structure Ext (ρ : List Addr) (H : Hp) (ρ' : List Addr) (H' : Hp) : Prop where
  pre : ∃ r, ρ' = ρ ++ r
  keep : ∀ (a : Addr) (o : HO), H a = some o → (Fix o = true ∨ a ∉ ρ) → H' a = some o
  new : ∀ a : Addr, a ∈ ρ' → a ∉ ρ → H a = none
/-- the weaker one -/
structure Ext0 (ρ : List Addr) (H : Hp) (ρ' : List Addr) (H' : Hp) : Prop where
  pre : ∃ r, ρ' = ρ ++ r
  fix : ∀ (a : Addr) (o : HO), H a = some o → Fix o = true → H' a = some o
theorem Ext.e0 {ρ ρ' : List Addr} {H H' : Hp} (e : Ext ρ H ρ' H') : Ext0 ρ H ρ' H' := ⟨e.pre, fun a o h f => e.keep a o h (.inl f)⟩
theorem Ext.refl (ρ : List Addr) (H : Hp) : Ext ρ H ρ H := ⟨⟨[], by simp⟩, fun _ _ h _ => h, fun _ h n => absurd h n⟩
theorem Ext.trans {ρ ρ1 ρ2 : List Addr} {H H1 H2 : Hp} (a : Ext ρ H ρ1 H1) (b : Ext ρ1 H1 ρ2 H2) : Ext ρ H ρ2 H2 := by
  obtain ⟨⟨r, e⟩, k, n⟩ := a
  obtain ⟨⟨r', e'⟩, k', n'⟩ := b
  subst e e'
  refine ⟨⟨r ++ r', by simp⟩, fun x o h c => ?_, fun x hx hn => ?_⟩
  · have h1 := k x o h c
    rcases c with c | c
    · exact k' x o h1 (.inl c)
    · refine k' x o h1 (.inr fun hm => ?_)
      rw [n x hm c] at h; cases h
  · by_cases hm : x ∈ ρ ++ r
    · exact n x hm hn
    · have h1 := n' x hx hm
      cases e : H x with
      | none => rfl
      | some o =>
        rw [k x o e (.inr hn)] at h1; cases h1
theorem Ext0.at' {ρ ρ' : List Addr} {H H' : Hp} (e : Ext0 ρ H ρ' H') {n : Nat} {a : Addr} (h : ρ[n]? = some a) : ρ'[n]? = some a := by
  obtain ⟨r, rfl⟩ := e.pre
  have := (List.getElem?_eq_some_iff.mp h).1
  rw [List.getElem?_append_left this]; exact h
theorem Ext0.sqT {K : PySem.W.Frag} {ρ ρ' : List Addr} {H H' : Hp} (e : Ext0 ρ H ρ' H') {a : Addr} {vs : List V} (h : SqT K H a vs) : SqT K H' a vs := by
  rcases h with (h | ⟨o, h⟩) | h
  · exact .inl (.inl (e.fix a _ h rfl))
  · exact .inl (.inr ⟨o, e.fix a _ h rfl⟩)
  · exact .inr h
theorem Ext0.rol {K : PySem.W.Frag} {ρ ρ' : List Addr} {H H' : Hp} (e : Ext0 ρ H ρ' H') {a : Addr} {vs : List V} (h : Rol K H a vs) : Rol K H' a vs := fun H2 k =>
  h H2 fun o u q => k o u (e.fix a _ q rfl)
theorem Ext.at' {ρ ρ' : List Addr} {H H' : Hp} (e : Ext ρ H ρ' H') {n : Nat} {a : Addr} (h : ρ[n]? = some a) : ρ'[n]? = some a := e.e0.at' h
theorem Ext.sqT {K : PySem.W.Frag} {ρ ρ' : List Addr} {H H' : Hp} (e : Ext ρ H ρ' H') {a : Addr} {vs : List V} (h : SqT K H a vs) : SqT K H' a vs := e.e0.sqT h
theorem Ext.rol {K : PySem.W.Frag} {ρ ρ' : List Addr} {H H' : Hp} (e : Ext ρ H ρ' H') {a : Addr} {vs : List V} (h : Rol K H a vs) : Rol K H' a vs := e.e0.rol h
section
variable {K : PySem.W.Frag} {ρ ρ' : List Addr} {H H' : Hp}
mutual
theorem Rep.mono0 (e : Ext0 ρ H ρ' H') : ∀ {v : Val} {w : V}, Rep K ρ H v w → Rep K ρ' H' v w
  | .non, _, h => h
  | .bl _, _, h => h
  | .int _, _, h => h
  | .str _, _, h => h
  | .tup xs, _, h => by
    obtain ⟨a, vs, e1, e2, e3⟩ := h
    exact ⟨a, vs, e1, e.sqT e2, RepL.mono0 e e3⟩
  | .loc n, _, h => by
    obtain ⟨a, e1, e2⟩ := h
    exact ⟨a, e1, e.at' e2⟩
  | .rol xs, _, h => by
    obtain ⟨a, vs, e1, e2, e3⟩ := h
    exact ⟨a, vs, e1, e.rol e2, RepL.mono0 e e3⟩
  | .exc c x, _, h => by
    obtain ⟨a, d, C, y, e1, e2, e3, e4, e5⟩ := h
    exact ⟨a, d, C, y, e1, e2, e.fix a _ e3 rfl, e.fix d _ e4 rfl, Rep.mono0 e e5⟩
theorem RepL.mono0 (e : Ext0 ρ H ρ' H') : ∀ {xs : List Val} {ws : List V}, RepL K ρ H xs ws → RepL K ρ' H' xs ws
  | [], _, h => h
  | x :: xs, _, h => by
    obtain ⟨v, r, e1, e2, e3⟩ := h
    exact ⟨v, r, e1, Rep.mono0 e e2, RepL.mono0 e e3⟩
end
theorem Rep.mono (e : Ext ρ H ρ' H') {v : Val} {w : V} (h : Rep K ρ H v w) : Rep K ρ' H' v w := h.mono0 e.e0
theorem RepL.mono (e : Ext ρ H ρ' H') {xs : List Val} {ws : List V} (h : RepL K ρ H xs ws) : RepL K ρ' H' xs ws := h.mono0 e.e0
theorem RepL.length : ∀ {xs : List Val} {ws : List V}, RepL K ρ H xs ws → xs.length = ws.length
  | [], _, h => by cases h; rfl
  | x :: xs, _, h => by
    obtain ⟨v, r, rfl, _, e3⟩ := h
    simp [RepL.length e3]
theorem RepL.append : ∀ {xs : List Val} {ws : List V} {ys : List Val} {us : List V}, RepL K ρ H xs ws → RepL K ρ H ys us → RepL K ρ H (xs ++ ys) (ws ++ us)
  | [], _, _, _, h, h' => by cases h; exact h'
  | x :: xs, _, _, _, h, h' => by
    obtain ⟨v, r, rfl, e2, e3⟩ := h
    exact ⟨v, r ++ _, rfl, e2, RepL.append e3 h'⟩
theorem RepL.get : ∀ {xs : List Val} {ws : List V} {i : Nat} {x : Val}, RepL K ρ H xs ws → xs[i]? = some x → ∃ w, ws[i]? = some w ∧ Rep K ρ H x w
  | [], _, _, _, _, e => by simp at e
  | y :: xs, _, 0, x, h, e => by
    obtain ⟨v, r, rfl, e2, e3⟩ := h
    simp at e; subst e
    exact ⟨v, rfl, e2⟩
  | y :: xs, _, i + 1, x, h, e => by
    obtain ⟨v, r, rfl, e2, e3⟩ := h
    simp at e
    obtain ⟨w, h1, h2⟩ := RepL.get e3 e
    exact ⟨w, by simpa using h1, h2⟩
theorem RepL.take : ∀ {xs : List Val} {ws : List V} (n : Nat), RepL K ρ H xs ws → RepL K ρ H (xs.take n) (ws.take n)
  | [], _, n, h => by cases h; simp [RepL]
  | x :: xs, _, 0, h => by simp [RepL]
  | x :: xs, _, n + 1, h => by
    obtain ⟨v, r, rfl, e2, e3⟩ := h
    exact ⟨v, _, rfl, e2, RepL.take n e3⟩
theorem RepL.drop : ∀ {xs : List Val} {ws : List V} (n : Nat), RepL K ρ H xs ws → RepL K ρ H (xs.drop n) (ws.drop n)
  | [], _, n, h => by cases h; simp [RepL]
  | x :: xs, _, 0, h => h
  | x :: xs, _, n + 1, h => by
    obtain ⟨v, r, rfl, e2, e3⟩ := h
    exact RepL.drop n e3
theorem RepL.set {v : Val} {u : V} (hv : Rep K ρ H v u) : ∀ {xs : List Val} {ws : List V} (n : Nat), RepL K ρ H xs ws → RepL K ρ H (xs.set n v) (ws.set n u)
  | [], _, n, h => by cases h; simp [RepL]
  | x :: xs, _, 0, h => by
    obtain ⟨v, r, rfl, e2, e3⟩ := h
    exact ⟨_, _, rfl, hv, e3⟩
  | x :: xs, _, n + 1, h => by
    obtain ⟨v, r, rfl, e2, e3⟩ := h
    exact ⟨_, _, rfl, e2, RepL.set hv n e3⟩
theorem RepL.reverse : ∀ {xs : List Val} {ws : List V}, RepL K ρ H xs ws → RepL K ρ H xs.reverse ws.reverse
  | [], _, h => by cases h; simp [RepL]
  | x :: xs, _, h => by
    obtain ⟨v, r, rfl, e2, e3⟩ := h
    rw [List.reverse_cons, List.reverse_cons]
    exact RepL.append (RepL.reverse e3) ⟨_, _, rfl, e2, rfl⟩
theorem RepL.dropLast {xs : List Val} {ws : List V} (h : RepL K ρ H xs ws) : RepL K ρ H xs.dropLast ws.dropLast := by
  rw [List.dropLast_eq_take, List.dropLast_eq_take, ← RepL.length h]
  exact RepL.take _ h
theorem RepL.rep {xs : List Val} {ws : List V} (h : RepL K ρ H xs ws) : ∀ k : Nat, RepL K ρ H (List.replicate k xs).flatten (List.replicate k ws).flatten
  | 0 => by simp [RepL]
  | k + 1 => by
    rw [List.replicate_succ, List.replicate_succ, List.flatten_cons, List.flatten_cons]
    exact RepL.append h (RepL.rep h k)
theorem RepL.ints : ∀ {xs : List Val} {ws : List V} {ns : List Int}, RepL K ρ H xs ws → intsO xs = some ns → ws = ns.map V.int
  | [], _, _, h, e => by cases h; cases e; rfl
  | x :: xs, _, ns, h, e => by
    obtain ⟨v, r, rfl, e2, e3⟩ := h
    cases x with
    | int i =>
      simp only [intsO, Option.map_eq_some_iff] at e
      obtain ⟨ms, h1, rfl⟩ := e
      have := RepL.ints e3 h1
      cases e2
      rw [this]; rfl
    | _ => cases e
theorem RepL.bools : ∀ {xs : List Val} {ws : List V} {ns : List Bool}, RepL K ρ H xs ws → boolsO xs = some ns → ws = ns.map V.bl
  | [], _, _, h, e => by cases h; cases e; rfl
  | x :: xs, _, ns, h, e => by
    obtain ⟨v, r, rfl, e2, e3⟩ := h
    cases x with
    | bl i =>
      simp only [boolsO, Option.map_eq_some_iff] at e
      obtain ⟨ms, h1, rfl⟩ := e
      have := RepL.bools e3 h1
      cases e2
      rw [this]; rfl
    | _ => cases e
theorem RepL.of_ints : ∀ (ns : List Int), RepL K ρ H (ns.map Val.int) (ns.map V.int)
  | [] => rfl
  | n :: ns => ⟨_, _, rfl, rfl, RepL.of_ints ns⟩

/-! ### the store -/
variable {s : Sto}
theorem RepO.mono0 (e : Ext0 ρ H ρ' H') {o : Ob} {a : Addr} (h : RepO K ρ H o a) (hh : H' a = H a) : RepO K ρ' H' o a := by
  cases o with
  | lst xs =>
    obtain ⟨vs, h1, h2⟩ := h
    exact ⟨vs, hh.trans h1, h2.mono0 e⟩
  | dct t kvs =>
    cases t with
    | false =>
      obtain ⟨vs, h1, h2⟩ := h
      exact ⟨vs, hh.trans h1, Paired.mapP h2 fun p q z => ⟨z.1, z.2.mono0 e⟩⟩
    | true =>
      obtain ⟨vs, h1, h2⟩ := h
      exact ⟨vs, hh.trans h1, Paired.mapP h2 fun p q z => ⟨z.1, z.2.mono0 e⟩⟩
  | ins _ _ => exact h.elim
theorem RepO.mono (e : Ext ρ H ρ' H') {o : Ob} {a : Addr} (h : RepO K ρ H o a) (hh : H' a = H a) : RepO K ρ' H' o a := h.mono0 e.e0 hh
/-- a place of the store is tracked -/
theorem RepO.hit {o : Ob} {a : Addr} (h : RepO K ρ H o a) : ∃ u, H a = some u ∧ Fix u = false := by
  cases o with
  | lst xs => obtain ⟨vs, h1, _⟩ := h; exact ⟨_, h1, rfl⟩
  | dct t kvs =>
    cases t with
    | false => obtain ⟨vs, h1, _⟩ := h; exact ⟨_, h1, rfl⟩
    | true => obtain ⟨vs, h1, _⟩ := h; exact ⟨_, h1, rfl⟩
  | ins _ _ => exact h.elim
theorem RelS.hit (R : RelS K ρ s H) {n : Nat} {a : Addr} (h : ρ[n]? = some a) : ∃ u, H a = some u ∧ Fix u = false := by
  have := (List.getElem?_eq_some_iff.mp h).1
  rw [R.len] at this
  exact (R.obj n a _ h (List.getElem?_eq_getElem this)).hit
theorem RelS.nin (R : RelS K ρ s H) {p : Addr} (hp : H p = none) : p ∉ ρ := fun h => by
  obtain ⟨n, e⟩ := List.mem_iff_getElem?.mp h
  obtain ⟨u, h1, _⟩ := R.hit e
  rw [hp] at h1; cases h1
/-- a new tuple (or another thing that the store does not hold) -/
theorem ext_new {p : Addr} {u : HO} (hp : H p = none) : Ext ρ H ρ (upd H p u) :=
  ⟨⟨[], by simp⟩, fun a o h _ => by rw [upd_ne (ne_of_none h hp)]; exact h, fun _ h n => absurd h n⟩
theorem RelS.new (R : RelS K ρ s H) {p : Addr} {u : HO} (hp : H p = none) : RelS K ρ s (upd H p u) :=
  ⟨R.len, fun n a o h1 h2 => (R.obj n a o h1 h2).mono (ext_new hp) (by
    obtain ⟨w, h3, _⟩ := R.hit h1
    rw [upd_ne (ne_of_none h3 hp)]), R.inj⟩
/-- a place that the store does not hold is written -/
theorem ext0_off {p : Addr} {u w : HO} (hw : H p = some w) (hf : Fix w = false) : Ext0 ρ H ρ (upd H p u) := by
  refine ⟨⟨[], by simp⟩, fun a o h c => ?_⟩
  have : a ≠ p := by
    rintro rfl
    rw [h] at hw; cases hw; rw [hf] at c; cases c
  rw [upd_ne this]; exact h
theorem RelS.off (R : RelS K ρ s H) {p : Addr} {u w : HO} (hn : p ∉ ρ) (hw : H p = some w) (hf : Fix w = false) : RelS K ρ s (upd H p u) :=
  ⟨R.len, fun n a o h1 h2 => (R.obj n a o h1 h2).mono0 (ext0_off hw hf) (upd_ne fun e => hn (e ▸ List.mem_of_getElem? h1)), R.inj⟩
/-- a new list or dict of the store -/
theorem ext_push {p : Addr} {u : HO} (hp : H p = none) : Ext ρ H (ρ ++ [p]) (upd H p u) :=
  ⟨⟨[p], rfl⟩, fun a o h _ => by rw [upd_ne (ne_of_none h hp)]; exact h, fun a h n => by
    rcases List.mem_append.mp h with h | h
    · exact absurd h n
    · rw [List.mem_singleton.mp h]; exact hp⟩
/-- a place comes in -/
theorem RelS.join (R : RelS K ρ s H) {p : Addr} {o : Ob} (hp : p ∉ ρ) (ho : RepO K (ρ ++ [p]) H o p) : RelS K (ρ ++ [p]) (s ++ [o]) H := by
  have e : Ext0 ρ H (ρ ++ [p]) H := ⟨⟨[p], rfl⟩, fun _ _ h _ => h⟩
  have last : ∀ (k : Nat) (a : Addr), ¬ k < ρ.length → (ρ ++ [p])[k]? = some a → k = ρ.length ∧ a = p := fun k a hk q => by
    have := (List.getElem?_eq_some_iff.mp q).1
    have hl : k = ρ.length := by simp at this; omega
    subst hl
    rw [List.getElem?_concat_length] at q
    exact ⟨rfl, (Option.some.inj q).symm⟩
  refine ⟨by simp [R.len], fun n a o' h1 h2 => ?_, fun n m a h1 h2 => ?_⟩
  · by_cases hn : n < ρ.length
    · rw [List.getElem?_append_left hn] at h1
      rw [List.getElem?_append_left (by rw [← R.len]; exact hn)] at h2
      exact (R.obj n a o' h1 h2).mono0 e rfl
    · obtain ⟨rfl, rfl⟩ := last n a hn h1
      rw [R.len, List.getElem?_concat_length] at h2
      cases h2
      exact ho
  · by_cases hn : n < ρ.length
    · by_cases hm : m < ρ.length
      · rw [List.getElem?_append_left hn] at h1
        rw [List.getElem?_append_left hm] at h2
        exact R.inj n m a h1 h2
      · obtain ⟨rfl, rfl⟩ := last m a hm h2
        rw [List.getElem?_append_left hn] at h1
        exact absurd (List.mem_of_getElem? h1) hp
    · by_cases hm : m < ρ.length
      · obtain ⟨rfl, rfl⟩ := last n a hn h1
        rw [List.getElem?_append_left hm] at h2
        exact absurd (List.mem_of_getElem? h2) hp
      · rw [(last n a hn h1).1, (last m a hm h2).1]
theorem RelS.push (R : RelS K ρ s H) {p : Addr} {u : HO} {o : Ob} (hp : H p = none) (ho : RepO K (ρ ++ [p]) (upd H p u) o p) : RelS K (ρ ++ [p]) (s ++ [o]) (upd H p u) :=
  (R.new hp).join (R.nin hp) ho
/-- a place of the store is written -/
theorem ext_write {n : Nat} {p : Addr} {u w : HO} (hn : ρ[n]? = some p) (hw : H p = some w) (hf : Fix w = false) : Ext ρ H ρ (upd H p u) := by
  refine ⟨⟨[], by simp⟩, fun a o h c => ?_, fun _ h k => absurd h k⟩
  have : a ≠ p := by
    rintro rfl
    rcases c with c | c
    · rw [h] at hw; cases hw; rw [hf] at c; cases c
    · exact c (List.mem_of_getElem? hn)
  rw [upd_ne this]; exact h
theorem RelS.write (R : RelS K ρ s H) {n : Nat} {p : Addr} {u w : HO} {o o' : Ob} (hn : ρ[n]? = some p) (hs : s[n]? = some o) (hw : H p = some w) (hf : Fix w = false)
    (ho : RepO K ρ (upd H p u) o' p) : RelS K ρ (s.set n o') (upd H p u) := by
  have e := ext_write (u := u) hn hw hf
  have hlt : n < s.length := (List.getElem?_eq_some_iff.mp hs).1
  refine ⟨by simp [R.len], fun k a q h1 h2 => ?_, R.inj⟩
  by_cases hk : k = n
  · subst hk
    rw [hn] at h1; cases h1
    rw [List.getElem?_set_self hlt] at h2; cases h2
    exact ho
  · rw [List.getElem?_set_ne (Ne.symm hk)] at h2
    refine (R.obj k a q h1 h2).mono e (upd_ne ?_)
    rintro rfl
    exact hk (R.inj k n a h1 hn)
theorem RelS.at' (R : RelS K ρ s H) {n : Nat} {o : Ob} (h : s[n]? = some o) : ∃ a, ρ[n]? = some a := by
  have := (List.getElem?_eq_some_iff.mp h).1
  rw [← R.len] at this
  exact ⟨_, List.getElem?_eq_getElem this⟩
theorem RelS.list (R : RelS K ρ s H) {n : Nat} {a : Addr} {xs : List Val} (h : listAt s n = some xs) (ha : ρ[n]? = some a) : ∃ vs, SqL K H a vs ∧ RepL K ρ H xs vs := by
  unfold listAt at h
  cases e : s[n]? with
  | none => rw [e] at h; cases h
  | some o =>
    rw [e] at h
    have := R.obj n a o ha e
    cases o with
    | lst ys => cases h; obtain ⟨vs, h1, h2⟩ := this; exact ⟨vs, SqL.of h1, h2⟩
    | dct _ _ => cases h
    | ins _ _ => cases h
/-- a value that is a list -/
theorem RelS.seqL (R : RelS K ρ s H) {v : Val} {w : V} {xs : List Val} (h : Bk.seqL s v = some xs) (r : Rep K ρ H v w) : ∃ a vs, w = .ref a ∧ SqL K H a vs ∧ RepL K ρ H xs vs := by
  cases v with
  | loc n =>
    obtain ⟨a, rfl, ha⟩ := r
    obtain ⟨vs, h1, h2⟩ := R.list h ha
    exact ⟨a, vs, rfl, h1, h2⟩
  | rol ys =>
    cases h
    obtain ⟨a, vs, rfl, h1, h2⟩ := r
    exact ⟨a, vs, rfl, h1.sq, h2⟩
  | _ => cases h
/-- a value that is a tuple or a list -/
theorem RelS.seqO (R : RelS K ρ s H) {v : Val} {w : V} {xs : List Val} (h : Bk.seqO s v = some xs) (r : Rep K ρ H v w) : ∃ a vs, w = .ref a ∧ (SqL K H a vs ∨ (SqT K H a vs ∧ v = .tup xs)) ∧ RepL K ρ H xs vs := by
  cases v with
  | tup ys =>
    cases h
    obtain ⟨a, vs, rfl, h1, h2⟩ := r
    exact ⟨a, vs, rfl, .inr ⟨h1, rfl⟩, h2⟩
  | loc n =>
    obtain ⟨a, vs, e, h1, h2⟩ := R.seqL (v := .loc n) h r
    exact ⟨a, vs, e, .inl h1, h2⟩
  | rol ys =>
    obtain ⟨a, vs, e, h1, h2⟩ := R.seqL (v := .rol ys) h r
    exact ⟨a, vs, e, .inl h1, h2⟩
  | _ => cases h

/-! ### locals -/
structure RelE (K : PySem.W.Frag) (ρ : List Addr) (H : Hp) (σ : Env) (τ : L2.St) : Prop where
  len : τ.length = σ.length
  get : ∀ (i : Nat) (v : Val), σ[i]? = some (some v) → ∃ w, τ[i]? = some (some w) ∧ Rep K ρ H v w
theorem RelE.mono {σ : Env} {τ : L2.St} (e : Ext ρ H ρ' H') (r : RelE K ρ H σ τ) : RelE K ρ' H' σ τ :=
  ⟨r.len, fun i v h => let ⟨w, h1, h2⟩ := r.get i v h; ⟨w, h1, h2.mono e⟩⟩
theorem RelE.set {σ : Env} {τ : L2.St} (r : RelE K ρ H σ τ) {v : Val} {w : V} (h : Rep K ρ H v w) (i : Nat) : RelE K ρ H (σ.set i (some v)) (τ.set i (some w)) := by
  refine ⟨by simp [r.len], fun j u e => ?_⟩
  by_cases hj : j = i
  · subst hj
    by_cases hl : j < σ.length
    · rw [List.getElem?_set_self hl] at e
      cases e
      exact ⟨w, List.getElem?_set_self (by rw [r.len]; exact hl), h⟩
    · rw [List.getElem?_eq_none (by simpa using hl)] at e
      cases e
  · rw [List.getElem?_set_ne (Ne.symm hj)] at e
    rw [List.getElem?_set_ne (Ne.symm hj)]
    exact r.get j u e
theorem RelE.unset {σ : Env} {τ : L2.St} (r : RelE K ρ H σ τ) (i : Nat) : RelE K ρ H (σ.set i none) (τ.set i none) := by
  refine ⟨by simp [r.len], fun j u e => ?_⟩
  by_cases hj : j = i
  · subst hj
    by_cases hl : j < σ.length
    · rw [List.getElem?_set_self hl] at e; cases e
    · rw [List.getElem?_eq_none (by simpa using hl)] at e; cases e
  · rw [List.getElem?_set_ne (Ne.symm hj)] at e
    rw [List.getElem?_set_ne (Ne.symm hj)]
    exact r.get j u e
theorem RelE.wipe {σ : Env} {τ : L2.St} (r : RelE K ρ H σ τ) : ∀ own : List Nat, RelE K ρ H (Bk.wipe σ own) (L2.wipe τ own)
  | [] => r
  | v :: vs => (RelE.wipe r vs).unset v

/-! ### data -/
mutual
theorem data_rep {f : Nat → Option PyData} (hf : ∀ n d a, f n = some d → ρ[n]? = some a → Dp K H (.ref a) d) : ∀ {v : Val} {w : V} {d : PyData}, dataW f v = some d → Rep K ρ H v w → Dp K H w d
  | .non, _, _, e, r => by cases e; cases r; exact .non
  | .bl _, _, _, e, r => by cases e; cases r; exact .bl _
  | .int _, _, _, e, r => by cases e; cases r; exact .int _
  | .str _, _, _, e, r => by cases e; cases r; exact .str _
  | .tup xs, _, _, e, r => by
    obtain ⟨a, vs, rfl, h1, h2⟩ := r
    simp only [dataW, Option.map_eq_some_iff] at e
    obtain ⟨ds, e1, rfl⟩ := e
    exact .tup h1 (data_repL hf e1 h2)
  | .loc n, _, _, e, r => by
    obtain ⟨a, rfl, h1⟩ := r
    exact hf n _ a e h1
  | .rol xs, _, _, e, r => by
    obtain ⟨a, vs, rfl, h1, h2⟩ := r
    simp only [dataW, Option.map_eq_some_iff] at e
    obtain ⟨ds, e1, rfl⟩ := e
    exact .lst h1.sq (data_repL hf e1 h2)
  | .exc _ _, _, _, e, r => by cases e
theorem data_repL {f : Nat → Option PyData} (hf : ∀ n d a, f n = some d → ρ[n]? = some a → Dp K H (.ref a) d) : ∀ {xs : List Val} {ws : List V} {ds : List PyData}, dataWs f xs = some ds → RepL K ρ H xs ws → DpAll K H ws ds
  | [], _, _, e, r => by cases e; cases r; exact .nil
  | x :: xs, _, ds, e, r => by
    obtain ⟨v, r, rfl, e2, e3⟩ := r
    simp only [dataWs] at e
    split at e
    · rename_i d ds' h1 h2
      cases e
      exact .cons (data_rep hf h1 e2) (data_repL hf h2 e3)
    · cases e
end
theorem dataL_rep (R : RelS K ρ s H) : ∀ (k n : Nat) (d : PyData) (a : Addr), dataL s k n = some d → ρ[n]? = some a → Dp K H (.ref a) d
  | 0, _, _, _, e, _ => by cases e
  | k + 1, n, d, a, e, ha => by
    simp only [dataL] at e
    split at e
    · rename_i xs hx
      simp only [Option.map_eq_some_iff] at e
      obtain ⟨ds, e1, rfl⟩ := e
      obtain ⟨vs, h1, h2⟩ := R.list hx ha
      exact .lst h1 (data_repL (dataL_rep R k) e1 h2)
    · cases e
theorem dataOf_rep (R : RelS K ρ s H) {v : Val} {w : V} {d : PyData} (e : dataOf s v = some d) (r : Rep K ρ H v w) : Dp K H w d := data_rep (dataL_rep R 6) e r
end
end Bk
set_option maxHeartbeats 4000000
/-! RunC1: what the operators ask is what the plain operators say. -/
namespace Bk
open PySem PySem.Spec PyProof.Rows L2

/-- what is wanted of an outcome: at every heap that bears it, the want holds -/
def Pst {α β : Type} (K : PySem.W.Frag) (R : List Addr → Hp → α → β → Prop) (ρ : List Addr) (H : Hp) (o : Out α) (Q : β → Hp → Prop) : Prop :=
  match o with
  | .ok v s => ∀ ρ' H' w, Ext ρ H ρ' H' → RelS K ρ' s H' → R ρ' H' v w → Q w H'
  | _ => False
section
variable {α β γ δ : Type} {K : PySem.W.Frag} {R : List Addr → Hp → α → β → Prop} {S : List Addr → Hp → γ → δ → Prop} {ρ ρ' : List Addr} {H H' : Hp}
theorem Pst.up {o : Out α} {Q : β → Hp → Prop} (e : Ext ρ H ρ' H') (h : Pst K R ρ H o Q) : Pst K R ρ' H' o Q := by
  cases o with
  | ok v s => exact fun ρ2 H2 w e2 r2 q => h ρ2 H2 w (e.trans e2) r2 q
  | exc _ _ _ => exact h
  | stuck => exact h
theorem Pst.mono {o : Out α} {Q Q' : β → Hp → Prop} (h : Pst K R ρ H o Q) (k : ∀ w H', Q w H' → Q' w H') : Pst K R ρ H o Q' := by
  cases o with
  | ok v s => exact fun ρ2 H2 w e2 r2 q => k _ _ (h ρ2 H2 w e2 r2 q)
  | exc _ _ _ => exact h
  | stuck => exact h
theorem Pst.bind {o : Out α} {f : α → Sto → Out γ} {Q : δ → Hp → Prop} (h : Pst K S ρ H (o.bind f) Q) :
    Pst K R ρ H o fun w H1 => ∃ ρ1 v s1, Ext ρ H ρ1 H1 ∧ RelS K ρ1 s1 H1 ∧ R ρ1 H1 v w ∧ Pst K S ρ1 H1 (f v s1) Q := by
  cases o with
  | ok v s => exact fun ρ1 H1 w e r q => ⟨ρ1, v, s, e, r, q, h.up e⟩
  | exc _ _ _ => exact h
  | stuck => exact h
theorem Pst.here {v : α} {s : Sto} {w : β} {Q : β → Hp → Prop} (h : Pst K R ρ H (.ok v s) Q) (r : RelS K ρ s H) (q : R ρ H v w) : Q w H := h ρ H w (.refl _ _) r q
end
section
variable {K : PySem.W.Frag} {ρ : List Addr} {H : Hp} {s : Sto} {Q : VK}
/-- a new list or dict -/
theorem Pst.pushed {o : Ob} {u : HO} (h : Pst K (Rep K) ρ H (pushO o s) Q) (R : RelS K ρ s H) {p : Addr} (hp : H p = none) (ho : RepO K (ρ ++ [p]) (upd H p u) o p) : Q (.ref p) (upd H p u) := by
  refine h (ρ ++ [p]) (upd H p u) (.ref p) (ext_push hp) (R.push hp ho) ⟨p, rfl, ?_⟩
  rw [← R.len, List.getElem?_concat_length]
theorem Pst.pushedL {xs : List Val} {vs : List V} (h : Pst K (Rep K) ρ H (pushO (.lst xs) s) Q) (R : RelS K ρ s H) (r : RepL K ρ H xs vs) {p : Addr} (hp : H p = none) : Q (.ref p) (upd H p (.lst vs)) :=
  h.pushed R hp ⟨vs, upd_same, r.mono (ext_push hp)⟩
/-- a new tuple -/
theorem Pst.tupled {xs : List Val} {vs : List V} (h : Pst K (Rep K) ρ H (.ok (.tup xs) s) Q) (R : RelS K ρ s H) (r : RepL K ρ H xs vs) {p : Addr} (hp : H p = none) : Q (.ref p) (upd H p (.tup vs)) :=
  h ρ (upd H p (.tup vs)) (.ref p) (ext_new hp) (R.new hp) ⟨p, vs, rfl, SqT.of upd_same, r.mono (ext_new hp)⟩
theorem RelS.lstAt (R : RelS K ρ s H) {n : Nat} {a : Addr} {xs : List Val} (h : s[n]? = some (.lst xs)) (ha : ρ[n]? = some a) : ∃ vs, H a = some (.lst vs) ∧ RepL K ρ H xs vs := R.obj n a _ ha h
end

/-! ### tuple * int: once, and not at all -/
theorem tmul_same (l : Addr) (items : Array Value) (n : Nat) (dd : Option Addr) (sl : Array (Option Value)) (x : Int) (u : Tok) (c0 : (decide (x < -(2 ^ 63)) || decide (x ≥ 2 ^ 63)) = false) (c1 : (items.isEmpty || x == 1) = true) :
    Meets (Builtin.«tuple.__mul__» ⟨[.ref l, .int x u], []⟩) (fun _ R s => s.heap.get? l = some { cls := .type "tuple", dict := dd, data := .seq items n, slots := sl } ∧ R (.ok (.ret (Value.ref l))) s) :=
  .of_wp fun prog w A R st hh => by
    obtain ⟨h0, g0, d0, t0, o0⟩ := st
    obtain ⟨hl, hr⟩ := hh
    have f1 := AutoSeq1.idx_int
    wp_walk using wpAny_loadPart' hl
    repeat (first
      | (refine wpAny_ite_false (decide_eq_false (by rw [c0]; decide)) ?_; wp_walk using wpAny_loadPart' hl)
      | (refine wpAny_ite_true (decide_eq_true c1) ?_; wp_walk using wpAny_loadPart' hl))
    exact ⟨_, rfl, hr⟩
theorem tmul_none (l : Addr) (items : Array Value) (n : Nat) (dd : Option Addr) (sl : Array (Option Value)) (x : Int) (u : Tok) (c0 : (decide (x < -(2 ^ 63)) || decide (x ≥ 2 ^ 63)) = false) (c1 : (items.isEmpty || x == 1) = false) (c2 : (decide (x ≤ 0) || items.isEmpty) = true) :
    Meets (Builtin.«tuple.__mul__» ⟨[.ref l, .int x u], []⟩) (fun _ R s => s.heap.get? l = some { cls := .type "tuple", dict := dd, data := .seq items n, slots := sl } ∧
      R (.ok (.ret (Value.ref s.heap.objs.size))) { s with heap := s.heap.push { cls := Value.type "tuple", data := Data.seq #[] }, toks := s.toks }) :=
  .of_wp fun prog w A R st hh => by
    obtain ⟨h0, g0, d0, t0, o0⟩ := st
    obtain ⟨hl, hr⟩ := hh
    have f1 := AutoSeq1.idx_int
    wp_walk using wpAny_loadPart' hl
    repeat (first
      | (refine wpAny_ite_false (decide_eq_false (by rw [c0]; decide)) ?_; wp_walk using wpAny_loadPart' hl)
      | (refine wpAny_ite_false (decide_eq_false (by rw [c1]; decide)) ?_; wp_walk using wpAny_loadPart' hl)
      | (refine wpAny_ite_true (decide_eq_true c2) ?_; wp_walk using wpAny_loadPart' hl))
    exact ⟨_, rfl, hr⟩
end Bk
set_option maxHeartbeats 4000000
/-! RunC2: binary operators. -/
namespace Bk
open PySem PySem.Spec PyProof.Rows L2

def bopOf : Bop → Operator
  | .add => .Add
  | .sub => .Sub
  | .mul => .Mult
  | .fdiv => .FloorDiv
  | .mod => .Mod
  | .pow => .Pow
def rB (K : PySem.W.Frag) (o : Bop) : R2 := fun a b H Q => ∃ ρ s x y, RelS K ρ s H ∧ Rep K ρ H x a ∧ Rep K ρ H y b ∧ Pst K (Rep K) ρ H (binV o x y s) Q
section
variable {X : Cx}
/-- tuple * int, at most 1000 times -/
theorem op_rep1 : OpR X (binaryOp .Mult) (fun x y H Q => ∃ l k xs, x = .ref l ∧ y = .int k ∧ SqT X.K H l xs ∧ xs ≠ [] ∧ -1000 ≤ k ∧ k ≤ 1 ∧ (k = 1 → Q (.ref l) H) ∧ (k ≤ 0 → ∀ p, H p = none → Q (.ref p) (upd H p (.tup [])))) := by
  intro pins s σ H x y v u Q I rx ry hh
  obtain ⟨l, k, xs, rfl, rfl, hT, hne, hlo, hhi, q1, q0⟩ := hh
  cases rx
  obtain ⟨t, rfl⟩ := ry
  obtain ⟨its, r, ⟨⟨cls, dd, data, sl⟩, ho, hc, n, hd⟩, hs⟩ := I.tuple hT
  simp only at hc hd
  subst hc hd
  have hi : its.toArray.isEmpty = false := by
    cases its with
    | nil =>
      cases r
      exact absurd rfl hne
    | cons a b => rfl
  have c0 : (decide (k < -(2 ^ 63)) || decide (k ≥ 2 ^ 63)) = false := by
    rw [decide_eq_false (by omega), decide_eq_false (by omega)] <;> rfl
  by_cases hk : k = 1
  · refine wpAny_binaryOp_repeat_ref (T := "tuple") (U := "int") (by decide) ⟨_, ho, rfl⟩ (fun s' => typeIs_int s' k t) noFill_tuple_mul F.fills_int_mul F.slot_int_rmul repeat_tuple F.slot_int_index.lookup
      (call_meets F.slot_int_rmul (typeIs_int s k t) F.entry_int_rmul (F.args_int_rmul_2 _ _) (int_rmul_tuple k t l its.toArray n dd sl)
        ⟨ho, rfl, ⟨_, ho, rfl⟩, call_meets F.slot_tuple_mul ⟨_, ho, rfl⟩ F.entry_tuple_mul (F.args_tuple_mul_2 _ _) (tmul_same l its.toArray n dd sl k t c0 (by rw [hk]; simp)) ⟨ho, ?_⟩⟩)
    exact ⟨.ref l, H, I, rfl, q1 hk⟩
  · refine wpAny_binaryOp_repeat_ref (T := "tuple") (U := "int") (by decide) ⟨_, ho, rfl⟩ (fun s' => typeIs_int s' k t) noFill_tuple_mul F.fills_int_mul F.slot_int_rmul repeat_tuple F.slot_int_index.lookup
      (call_meets F.slot_int_rmul (typeIs_int s k t) F.entry_int_rmul (F.args_int_rmul_2 _ _) (int_rmul_tuple k t l its.toArray n dd sl)
        ⟨ho, rfl, ⟨_, ho, rfl⟩, call_meets F.slot_tuple_mul ⟨_, ho, rfl⟩ F.entry_tuple_mul (F.args_tuple_mul_2 _ _) (tmul_none l its.toArray n dd sl k t c0 (by rw [hi, Bool.false_or]; exact beq_eq_false_iff_ne.mpr hk) (by rw [decide_eq_true (by omega)]; rfl)) ⟨ho, ?_⟩⟩)
    exact ⟨.ref _, _, I.laid (t' := s.toks) (o := .tup []) (fun b ob q => Heap.get?_push_of_some _ q) (Nat.le_refl _) ⟨Nat.zero_le _, [], .nil, IsTup.new _ _⟩, rfl, q0 (by omega) _ (I.hok.fresh (Nat.le_refl _))⟩

theorem op_rB (o : Bop) : OpR X (binaryOp (bopOf o)) (rB X.K o) := by
  intro pins s σ H a b v u Q I ra rb hh
  obtain ⟨ρ, st, x, y, R, rx, ry, h⟩ := hh
  cases o with
  | add =>
    cases x with
    | int i =>
      cases y with
      | int j =>
        cases rx; cases ry
        exact op_add pins s σ H _ _ v u Q I ra rb ⟨i, j, rfl, rfl, h.here R rfl⟩
      | _ => exact h.elim
    | str i =>
      cases y with
      | str j =>
        cases rx; cases ry
        simp only [binV] at h
        split at h
        · rename_i hl
          exact op_add_str pins s σ H _ _ v u Q I ra rb ⟨i, j, rfl, rfl, hl, h.here R rfl⟩
        · exact h.elim
      | _ => exact h.elim
    | tup xs =>
      cases y with
      | tup ys =>
        simp only [binV] at h
        split at h
        · rename_i hl
          obtain ⟨p, vs, rfl, h1, h2⟩ := rx
          obtain ⟨q, ws, rfl, h3, h4⟩ := ry
          have hc := h2.append h4
          refine op_catA pins s σ H _ _ v u Q I ra rb ⟨p, q, vs, ws, rfl, rfl, h1, h3, by rw [← h2.length, ← h4.length]; exact hl, fun e => ?_, fun _ e => ?_, fun _ _ l hl => h.tupled R hc hl⟩
          · refine h.here R ⟨q, ws, rfl, h3, ?_⟩
            rw [e] at hc; exact hc
          · refine h.here R ⟨p, vs, rfl, h1, ?_⟩
            rw [e, List.append_nil] at hc; exact hc
        · exact h.elim
      | _ => exact h.elim
    | loc n =>
      cases y with
      | loc m =>
        simp only [binV] at h
        split at h
        · rename_i xs ys e1 e2
          split at h
          · rename_i hl
            obtain ⟨p, rfl, h1⟩ := rx
            obtain ⟨q, rfl, h2⟩ := ry
            obtain ⟨vs, h3, h4⟩ := R.lstAt e1 h1
            obtain ⟨ws, h5, h6⟩ := R.lstAt e2 h2
            exact op_cat pins s σ H _ _ v u Q I ra rb ⟨p, q, vs, ws, rfl, rfl, h3, h5, by rw [← h4.length, ← h6.length]; exact hl, fun l hl => h.pushedL R (h4.append h6) hl⟩
          · exact h.elim
        · exact h.elim
      | _ => exact h.elim
    | _ => exact h.elim
  | sub =>
    cases x with
    | int i =>
      cases y with
      | int j =>
        cases rx; cases ry
        exact op_sub pins s σ H _ _ v u Q I ra rb ⟨i, j, rfl, rfl, h.here R rfl⟩
      | _ => exact h.elim
    | _ => exact h.elim
  | mul =>
    cases x with
    | int i =>
      cases y with
      | int j =>
        cases rx; cases ry
        simp only [binV] at h
        split at h
        · rename_i hm
          rcases hm with hm | hm | hm
          · exact op_mul pins s σ H _ _ v u Q I ra rb ⟨i, j, rfl, rfl, .inl hm, h.here R rfl⟩
          · exact op_mul pins s σ H _ _ v u Q I ra rb ⟨i, j, rfl, rfl, .inr hm, h.here R rfl⟩
          · exact op_mulW pins s σ H _ _ v u Q I ra rb ⟨i, j, rfl, rfl, hm, h.here R rfl⟩
        · exact h.elim
      | _ => exact h.elim
    | tup xs =>
      cases y with
      | int k =>
        simp only [binV] at h
        split at h
        · rename_i hm
          obtain ⟨p, vs, rfl, h1, h2⟩ := rx
          cases ry
          have hne : vs ≠ [] := fun e => by
            have := h2.length
            rw [e] at this
            exact hm.1 (List.eq_nil_of_length_eq_zero this)
          by_cases hk : 2 ≤ k
          · exact op_repT pins s σ H _ _ v u Q I ra rb ⟨p, k, vs, rfl, rfl, h1, hne, hk, hm.2.2.2, by rw [← h2.length]; exact hm.2.1, fun l hl => h.tupled R (h2.rep _) hl⟩
          · refine op_rep1 pins s σ H _ _ v u Q I ra rb ⟨p, k, vs, rfl, rfl, h1, hne, hm.2.2.1, by omega, fun e => ?_, fun e l hl => ?_⟩
            · refine h.here R ⟨p, vs, rfl, h1, ?_⟩
              rw [e]; simpa using h2
            · refine h.tupled R ?_ hl
              have : k.toNat = 0 := by omega
              rw [this]; simp [RepL]
        · exact h.elim
      | _ => exact h.elim
    | loc n =>
      cases y with
      | int k =>
        simp only [binV] at h
        split at h
        · rename_i xs e1
          split at h
          · rename_i hm
            obtain ⟨p, rfl, h1⟩ := rx
            cases ry
            obtain ⟨vs, h3, h4⟩ := R.lstAt e1 h1
            refine op_rep pins s σ H _ _ v u Q I ra rb ⟨p, k, vs, rfl, rfl, h3, by omega, by omega, ?_, fun l hl => h.pushedL R (h4.rep _) hl⟩
            rw [← h4.length, sizeLine_eq]
            have : xs.length * k.toNat ≤ 1000 * 1000 := Nat.mul_le_mul hm.1 (by omega)
            omega
          · exact h.elim
        · exact h.elim
      | _ => exact h.elim
    | _ => exact h.elim
  | fdiv =>
    cases x with
    | int i =>
      cases y with
      | int j =>
        cases rx; cases ry
        simp only [binV] at h
        split at h
        · rename_i hm
          exact op_fdivW pins s σ H _ _ v u Q I ra rb ⟨i, j, rfl, rfl, hm, h.here R rfl⟩
        · exact h.elim
      | _ => exact h.elim
    | _ => exact h.elim
  | mod =>
    cases x with
    | int i =>
      cases y with
      | int j =>
        cases rx; cases ry
        simp only [binV] at h
        split at h
        · rename_i hm
          exact op_mod pins s σ H _ _ v u Q I ra rb ⟨i, j, rfl, rfl, hm, h.here R rfl⟩
        · exact h.elim
      | _ => exact h.elim
    | _ => exact h.elim
  | pow =>
    cases x with
    | int i =>
      cases y with
      | int j =>
        cases rx; cases ry
        simp only [binV] at h
        split at h
        · rename_i hm
          exact op_pow pins s σ H _ _ v u Q I ra rb ⟨i, j, rfl, rfl, hm, h.here R rfl⟩
        · exact h.elim
      | _ => exact h.elim
    | _ => exact h.elim
end
end Bk
set_option maxHeartbeats 4000000
/-! RunC3: comparisons, truth. -/
namespace Bk
open PySem PySem.Spec PyProof.Rows L2

def copOf : Cop → CmpOp
  | .lt => .Lt
  | .le => .LtE
  | .gt => .Gt
  | .ge => .GtE
  | .eq => .Eq
  | .ne => .NotEq
  | .is => .Is
  | .isnot => .IsNot
  | .isin => .In
  | .notin => .NotIn
def rC (K : PySem.W.Frag) (o : Cop) : R2 := fun a b H Q => ∃ ρ s x y k, RelS K ρ s H ∧ Rep K ρ H x a ∧ Rep K ρ H y b ∧ cmpO s o x y = some k ∧ Q (.bl k) H
section
variable {X : Cx}
theorem is_none_of {K : PySem.W.Frag} {ρ : List Addr} {H : Hp} {x : Val} {a : V} {k : Bool} (r : Rep K ρ H x a) (e : (match x with | .non => some true | _ => some false) = some k) : k = decide (a = .non) := by
  cases x with
  | non => cases e; cases r; rfl
  | exc _ _ => cases e; obtain ⟨_, _, _, _, rfl, _⟩ := r; rfl
  | bl _ => cases e; cases r; rfl
  | int _ => cases e; cases r; rfl
  | str _ => cases e; cases r; rfl
  | tup _ => cases e; obtain ⟨_, _, rfl, _⟩ := r; rfl
  | loc _ => cases e; obtain ⟨_, rfl, _⟩ := r; rfl
  | rol _ => cases e; obtain ⟨_, _, rfl, _⟩ := r; rfl
theorem isnot_none_of {K : PySem.W.Frag} {ρ : List Addr} {H : Hp} {x : Val} {a : V} {k : Bool} (r : Rep K ρ H x a) (e : (match x with | .non => some false | _ => some true) = some k) : k = !decide (a = .non) := by
  cases x with
  | non => cases e; cases r; rfl
  | exc _ _ => cases e; obtain ⟨_, _, _, _, rfl, _⟩ := r; rfl
  | bl _ => cases e; cases r; rfl
  | int _ => cases e; cases r; rfl
  | str _ => cases e; cases r; rfl
  | tup _ => cases e; obtain ⟨_, _, rfl, _⟩ := r; rfl
  | loc _ => cases e; obtain ⟨_, rfl, _⟩ := r; rfl
  | rol _ => cases e; obtain ⟨_, _, rfl, _⟩ := r; rfl
theorem eqO_data {s : Sto} {x y : Val} {k : Bool} (e : eqO s x y = some k) : ∃ d f, dataOf s x = some d ∧ dataOf s y = some f ∧ SeqAt.shaped d = true ∧ SeqAt.shaped f = true ∧ PyData.eqv d f = k := by
  unfold eqO at e
  split at e
  · rename_i d f h1 h2
    split at e
    · rename_i h3
      cases e
      exact ⟨d, f, h1, h2, h3.1, h3.2, rfl⟩
    · cases e
  · cases e
/-- what «in» reads -/
theorem inO_data {K : PySem.W.Frag} {ρ : List Addr} {H : Hp} {s : Sto} {x y : Val} {k : Bool} {b : V} (R : RelS K ρ s H) (ry : Rep K ρ H y b) (e : inO s x y = some k) :
    ∃ d es, dataOf s x = some d ∧ SeqAt.shaped d = true ∧ SeqAt.shaped (.list es) = true ∧ (es.any fun z => PyData.eqv z d) = k ∧ (Dp K H b (.list es) ∨ Dp K H b (.tuple es)) := by
  unfold inO at e
  split at e
  · cases e
  · rename_i ys hy
    split at e
    · rename_i d es h1 h2
      split at e
      · rename_i h3
        cases e
        refine ⟨d, es, h1, h3.1, h3.2, rfl, ?_⟩
        cases y with
        | tup xs =>
          cases hy
          obtain ⟨a, vs, rfl, q1, q2⟩ := ry
          exact .inr (.tup q1 (data_repL (dataL_rep R 6) h2 q2))
        | loc n =>
          obtain ⟨a, rfl, q1⟩ := ry
          obtain ⟨vs, q2, q3⟩ := R.list hy q1
          exact .inl (.lst q2 (data_repL (dataL_rep R 6) h2 q3))
        | rol xs =>
          cases hy
          obtain ⟨a, vs, rfl, q1, q2⟩ := ry
          exact .inl (.lst q1.sq (data_repL (dataL_rep R 6) h2 q2))
        | _ => cases hy
      · cases e
    · cases e
theorem shaped_list {es : List PyData} (h : SeqAt.shaped (.list es) = true) : PyData.canLayAll0 es = true := SeqAt.canLay_of_shaped h

theorem op_isB : OpR X (compareOp .Is) (fun x y H Q => ∃ m n, x = .bl m ∧ y = .bl n ∧ Q (.bl (decide (m = n))) H) := by
  intro pins s σ H x y v u Q I rx ry h
  obtain ⟨m, n, rfl, rfl, q⟩ := h
  cases (show v = Value.bool m from rx)
  cases (show u = Value.bool n from ry)
  cases m <;> cases n
  · exact wpAny_is_self rfl ⟨.bl true, H, I, rfl, by simpa using q⟩
  · exact wpAny_is_other rfl (fun z => nomatch z) ⟨.bl false, H, I, rfl, by simpa using q⟩
  · exact wpAny_is_other rfl (fun z => nomatch z) ⟨.bl false, H, I, rfl, by simpa using q⟩
  · exact wpAny_is_self rfl ⟨.bl true, H, I, rfl, by simpa using q⟩
theorem op_isnotB : OpR X (compareOp .IsNot) (fun x y H Q => ∃ m n, x = .bl m ∧ y = .bl n ∧ Q (.bl (!decide (m = n))) H) := by
  intro pins s σ H x y v u Q I rx ry h
  obtain ⟨m, n, rfl, rfl, q⟩ := h
  cases (show v = Value.bool m from rx)
  cases (show u = Value.bool n from ry)
  cases m <;> cases n
  · exact wpAny_isNot_self rfl ⟨.bl false, H, I, rfl, by simpa using q⟩
  · exact wpAny_isNot_other rfl (fun z => nomatch z) ⟨.bl true, H, I, rfl, by simpa using q⟩
  · exact wpAny_isNot_other rfl (fun z => nomatch z) ⟨.bl true, H, I, rfl, by simpa using q⟩
  · exact wpAny_isNot_self rfl ⟨.bl false, H, I, rfl, by simpa using q⟩

theorem op_rC (hu : X.A.units + 65 < cLine) (o : Cop) : OpR X (compareOp (copOf o)) (rC X.K o) := by
  intro pins s σ H a b v u Q I ra rb hh
  obtain ⟨ρ, st, x, y, k, R, rx, ry, e, q⟩ := hh
  cases o with
  | lt =>
    cases x with
    | int i =>
      cases y with
      | int j =>
        cases rx; cases ry; cases e
        exact op_lt pins s σ H _ _ v u Q I ra rb ⟨i, j, rfl, rfl, q⟩
      | _ => cases e
    | _ => cases e
  | le =>
    cases x with
    | int i =>
      cases y with
      | int j =>
        cases rx; cases ry; cases e
        exact op_le pins s σ H _ _ v u Q I ra rb ⟨i, j, rfl, rfl, q⟩
      | _ => cases e
    | _ => cases e
  | gt =>
    cases x with
    | int i =>
      cases y with
      | int j =>
        cases rx; cases ry; cases e
        exact op_gt pins s σ H _ _ v u Q I ra rb ⟨i, j, rfl, rfl, q⟩
      | _ => cases e
    | _ => cases e
  | ge =>
    cases x with
    | int i =>
      cases y with
      | int j =>
        cases rx; cases ry; cases e
        exact op_ge pins s σ H _ _ v u Q I ra rb ⟨i, j, rfl, rfl, q⟩
      | _ => cases e
    | _ => cases e
  | eq =>
    have e' : eqO st x y = some k := by cases x <;> exact e
    obtain ⟨d, f, h1, h2, h3, h4, h5⟩ := eqO_data e'
    exact op_eqD (by omega) pins s σ H _ _ v u Q I ra rb ⟨d, f, dataOf_rep R h1 rx, dataOf_rep R h2 ry, h3, h4, by rw [h5]; exact q⟩
  | ne =>
    have e' : (eqO st x y).map (!·) = some k := by cases x <;> exact e
    rw [Option.map_eq_some_iff] at e'
    obtain ⟨k', e2, e3⟩ := e'
    obtain ⟨d, f, h1, h2, h3, h4, h5⟩ := eqO_data e2
    exact op_neD (by omega) pins s σ H _ _ v u Q I ra rb ⟨d, f, dataOf_rep R h1 rx, dataOf_rep R h2 ry, h3, h4, by rw [h5, e3]; exact q⟩
  | is =>
    cases y with
    | non =>
      cases ry
      have := is_none_of rx (by cases x <;> exact e)
      subst this
      exact op_isN pins s σ H _ _ v u Q I ra rb ⟨rfl, q⟩
    | bl n =>
      cases x with
      | bl m =>
        cases rx; cases ry; cases e
        exact op_isB pins s σ H _ _ v u Q I ra rb ⟨m, n, rfl, rfl, q⟩
      | _ => cases e
    | _ => cases x <;> cases e
  | isnot =>
    cases y with
    | non =>
      cases ry
      have := isnot_none_of rx (by cases x <;> exact e)
      subst this
      exact op_notN pins s σ H _ _ v u Q I ra rb ⟨rfl, q⟩
    | bl n =>
      cases x with
      | bl m =>
        cases rx; cases ry; cases e
        exact op_isnotB pins s σ H _ _ v u Q I ra rb ⟨m, n, rfl, rfl, q⟩
      | _ => cases e
    | _ => cases x <;> cases e
  | isin =>
    have e' : inO st x y = some k := by cases x <;> exact e
    obtain ⟨d, es, h1, h2, h3, h4, h5⟩ := inO_data R ry e'
    rcases h5 with h5 | h5
    · exact op_inD (by omega) pins s σ H _ _ v u Q I ra rb ⟨d, es, dataOf_rep R h1 rx, h5, h2, h3, by rw [h4]; exact q⟩
    · obtain ⟨as, r1⟩ := Dp.reads I d a v (dataOf_rep R h1 rx) ra
      obtain ⟨bs, r2⟩ := Dp.reads I (.tuple es) b u h5 rb
      exact SeqAt.in_tuple_reads r2 r1 (shaped_list h3) (SeqAt.canLay_of_shaped h2) (room_in_shaped h2 hu) ⟨.bl _, H, I, rfl, by rw [h4]; exact q⟩
  | notin =>
    have e' : (inO st x y).map (!·) = some k := by cases x <;> exact e
    rw [Option.map_eq_some_iff] at e'
    obtain ⟨k', e2, e3⟩ := e'
    obtain ⟨d, es, h1, h2, h3, h4, h5⟩ := inO_data R ry e2
    rcases h5 with h5 | h5
    · exact op_notInD (by omega) pins s σ H _ _ v u Q I ra rb ⟨d, es, dataOf_rep R h1 rx, h5, h2, h3, by rw [h4, e3]; exact q⟩
    · obtain ⟨as, r1⟩ := Dp.reads I d a v (dataOf_rep R h1 rx) ra
      obtain ⟨bs, r2⟩ := Dp.reads I (.tuple es) b u h5 rb
      exact SeqAt.notIn_tuple_reads r2 r1 (shaped_list h3) (SeqAt.canLay_of_shaped h2) (room_in_shaped h2 hu) ⟨.bl _, H, I, rfl, by rw [h4, e3]; exact q⟩

theorem truth_ok {K : PySem.W.Frag} {ρ : List Addr} {H : Hp} {s : Sto} {x : Val} {a : V} {k : Bool} (R : RelS K ρ s H) (r : Rep K ρ H x a) (e : truth s x = some k) : TruV K a H k := by
  cases x with
  | non => cases r; cases e; rfl
  | bl b => cases r; cases e; rfl
  | int i => cases r; cases e; rfl
  | str x =>
    cases r
    simp only [truth] at e
    split at e
    · rename_i hl
      cases e
      refine ⟨hl, ?_⟩
      cases q : x.length <;> rfl
    · cases e
  | tup xs =>
    obtain ⟨p, vs, rfl, h1, h2⟩ := r
    cases e
    refine .inr (.inl ⟨vs, h1, ?_⟩)
    have := h2.length
    cases xs <;> cases vs <;> simp_all
  | loc n =>
    obtain ⟨p, rfl, h1⟩ := r
    simp only [truth] at e
    cases q : s[n]? with
    | none => rw [q] at e; cases e
    | some o =>
      rw [q] at e
      have ho := R.obj n p o h1 q
      cases o with
      | lst xs =>
        obtain ⟨vs, h3, h4⟩ := ho
        cases e
        refine .inl ⟨vs, SqL.of h3, ?_⟩
        have := h4.length
        cases xs <;> cases vs <;> simp_all
      | dct t kvs =>
        cases t with
        | false =>
          obtain ⟨kws, h3, h4⟩ := ho
          cases e
          refine .inr (.inr ⟨kws, h3, ?_⟩)
          have := h4.length
          cases kvs <;> cases kws <;> simp_all
        | true => cases e
      | ins _ _ => exact ho.elim
  | rol xs =>
    obtain ⟨p, vs, rfl, h1, h2⟩ := r
    cases e
    refine .inl ⟨vs, h1.sq, ?_⟩
    have := h2.length
    cases xs <;> cases vs <;> simp_all
  | exc _ _ => cases e
end
end Bk
set_option maxHeartbeats 4000000
/-! RunC4: items, slices, stores. -/
namespace Bk
open PySem PySem.Spec PyProof.Rows L2

section
variable {K : PySem.W.Frag} {ρ : List Addr} {H : Hp} {s : Sto}
theorem keyOf_flat {v : Val} (h : flatKey v = true) : ∃ k, keyOf v = some k := by
  cases v <;> first | exact ⟨_, rfl⟩ | cases h
theorem keysOf_flat : ∀ {xs : List Val}, xs.all flatKey = true → ∃ ks, keysOf xs = some ks
  | [], _ => ⟨[], rfl⟩
  | x :: xs, h => by
    simp only [List.all_cons, Bool.and_eq_true] at h
    obtain ⟨k, e⟩ := keyOf_flat h.1
    obtain ⟨ks, e2⟩ := keysOf_flat h.2
    exact ⟨k :: ks, by simp [keysOf, e, e2]⟩
theorem keyOf_rep {v : Val} {w : V} {k : Key} (e : keyOf v = some k) (r : Rep K ρ H v w) : w = kV k := by
  cases v with
  | int i => cases e; cases r; rfl
  | str i => cases e; cases r; rfl
  | _ => cases e
theorem keysOf_rep : ∀ {xs : List Val} {ws : List V} {ks : List Key}, keysOf xs = some ks → RepL K ρ H xs ws → ws = ks.map kV
  | [], _, _, e, r => by cases e; cases r; rfl
  | x :: xs, _, ks, e, r => by
    obtain ⟨v, r, rfl, e2, e3⟩ := r
    simp only [keysOf] at e
    split at e
    · rename_i k ks' h1 h2
      cases e
      rw [keyOf_rep h1 e2, keysOf_rep h2 e3]; rfl
    · cases e
theorem keyEq_of {u v : Val} {k j : Key} (e : keyOf u = some k) (f : keyOf v = some j) : keyEq u v = decide (k = j) := by
  cases u with
  | int a =>
    cases e
    cases v with
    | int b => cases f; simp [keyEq]
    | str b => cases f; simp [keyEq]
    | _ => cases f
  | str a =>
    cases e
    cases v with
    | int b => cases f; simp [keyEq]
    | str b => cases f; simp [keyEq]
    | _ => cases f
  | _ => cases e
theorem keyGo_of : ∀ {xs ys : List Val} {ks js : List Key}, keysOf xs = some ks → keysOf ys = some js → keyEq.go xs ys = decide (ks = js)
  | [], [], _, _, e, f => by cases e; cases f; rfl
  | [], y :: ys, _, _, e, f => by
    cases e
    simp only [keysOf] at f
    split at f
    · cases f; rfl
    · cases f
  | x :: xs, [], _, _, e, f => by
    cases f
    simp only [keysOf] at e
    split at e
    · cases e
      cases x <;> rfl
    · cases e
  | x :: xs, y :: ys, ks, js, e, f => by
    simp only [keysOf] at e f
    split at e
    · rename_i k ks' h1 h2
      split at f
      · rename_i j js' h3 h4
        cases e; cases f
        have ih := keyGo_of h2 h4
        have a := keyEq_of h1 h3
        cases x with
        | int p =>
          cases y with
          | int q => simp only [keyEq.go, ih]; simp only [keyEq] at a; rw [a]; simp
          | str q => simp only [keyEq.go]; simp only [keyEq] at a; simp at a; simp [a]
          | _ => cases h3
        | str p =>
          cases y with
          | str q => simp only [keyEq.go, ih]; simp only [keyEq] at a; rw [a]; simp
          | int q => simp only [keyEq.go]; simp only [keyEq] at a; simp at a; simp [a]
          | _ => cases h3
        | _ => cases h1
      · cases f
    · cases e
theorem keyT_of {u v : Val} {k j : List Key} (e : keyT u = some k) (f : keyT v = some j) : keyEq u v = decide (k = j) := by
  cases u with
  | tup xs =>
    cases v with
    | tup ys => exact keyGo_of e f
    | _ => cases f
  | _ => cases e
/-- what a dict gives -/
theorem dlook_rel {κ : Type} [DecidableEq κ] {kf : Val → Option κ} (hk : ∀ u v k j, kf u = some k → kf v = some j → keyEq u v = decide (k = j)) {i : Val} {k : κ} (hi : kf i = some k) :
    ∀ {kvs : List (Val × Val)} {kws : List (κ × V)}, Paired (fun p q => kf p.1 = some q.1 ∧ Rep K ρ H p.2 q.2) kvs kws →
    (dlook kvs i = none ∧ valV kws k = none) ∨ ∃ v w, dlook kvs i = some v ∧ valV kws k = some w ∧ Rep K ρ H v w
  | _, _, .nil => .inl ⟨rfl, rfl⟩
  | _, _, .cons (a := p) (b := q) (l₁ := ps) (l₂ := qs) h t => by
    have e := hk _ _ _ _ h.1 hi
    by_cases c : q.1 = k
    · refine .inr ⟨p.2, q.2, ?_, valV_pos c, h.2⟩
      simp [dlook, List.find?_cons, e, c]
    · rcases dlook_rel hk hi t with ⟨e1, e2⟩ | ⟨v, w, e1, e2, e3⟩
      · refine .inl ⟨?_, by rw [valV_neg c]; exact e2⟩
        simp only [dlook, List.find?_cons, e, c, decide_false] at e1 ⊢
        exact e1
      · refine .inr ⟨v, w, ?_, by rw [valV_neg c]; exact e2, e3⟩
        simp only [dlook, List.find?_cons, e, c, decide_false] at e1 ⊢
        exact e1
end
end Bk
set_option maxHeartbeats 4000000
/-! RunC5: items, slices, stores by the machine. -/
namespace Bk
open PySem PySem.Spec PyProof.Rows L2

def rIt (K : PySem.W.Frag) : R2 := fun a b H Q => ∃ ρ s x y, RelS K ρ s H ∧ Rep K ρ H x a ∧ Rep K ρ H y b ∧ Pst K (Rep K) ρ H (itemV x y s) Q
section
variable {X : Cx} {pins : List (Addr × Obj)} {σ : L2.St} {H : Hp} {s : Shared}
/-- a tuple that may be read, of ints and texts, is a key -/
theorem key_at {b : Addr} {ks : List Key} (I : Inv X pins σ H s) (h : SqT X.K H b (ks.map kV)) : (tupleKind (mixKind X.prog X.w)).is s.heap ks b := by
  obtain ⟨its, r, ⟨o, h1, h2, n, h3⟩, _⟩ := I.tuple h
  exact ⟨o, its.toArray, n, h1, h2, h3, by simpa using items_are r⟩
theorem dt_item {a b : Addr} {kvs : List (List Key × V)} {ks : List Key} {v : V} {Q : Value → Shared → Prop} (hu : X.A.units + 1 < cLine) (I : Inv X pins σ H s) (e : H a = some (.dT kvs)) (eb : SqT X.K H b (ks.map kV)) (l : valV kvs ks = some v)
    (h : ∀ w' s', Inv X pins σ H s' → RelV v w' → Q w' s') : wpAny (model X.prog X.w) X.A (getItem (.ref a) (.ref b)) Q X.xe s := by
  obtain ⟨z, hd, xs, rel, dd⟩ := dt_of I.hok e
  obtain ⟨w', hw, rw'⟩ := RelO.some_of (v := v) (o := (atKey xs ks).map (·.2)) (by rw [← l]; exact rel.val ks)
  obtain ⟨p, hp, hp2⟩ := Option.map_eq_some_iff.mp hw
  refine wpAny_getItem_heap (tupleKind_room_in1 hu) (key_at I eb) dd hp ?_
  rw [hp2]
  exact h w' _ (I.tok _) rw'
theorem dt_get {a b : Addr} {kvs : List (List Key × V)} {ks : List Key} {d : V} {r : Value} {Q : Value → Shared → Prop} (hu : X.A.units + 1 < cLine) (I : Inv X pins σ H s) (e : H a = some (.dT kvs)) (eb : SqT X.K H b (ks.map kV)) (rd : RelV d r)
    (h : ∀ w' s', Inv X pins σ H s' → RelV ((valV kvs ks).getD d) w' → Q w' s') : wpAny (model X.prog X.w) X.A (call (.builtin "dict.get") [.ref a, .ref b, r]) Q X.xe s := by
  obtain ⟨z, hd, xs, rel, dd⟩ := dt_of I.hok e
  exact call_meetsIn PySem.F.slot_dict_get dd.typeIs PySem.F.entry_dict_get (PySem.F.args_dict_get_3 _ _ _) (meetsH_dict_get_default (tupleKind (mixKind X.prog X.w)) a b hd r)
    ⟨tupleKind_room_in1 hu, ks, xs, key_at I eb, dd, h _ _ (I.tok _) ((rel.val ks).getD rd)⟩

theorem ix_all (hu : X.A.units + 1 < cLine) : IxR X (rIt X.K) := by
  intro value slice pins s σ H a b v u Q I ra rb hh hs
  obtain ⟨ρ, st, x, y, R, rx, ry, h⟩ := hh
  cases x with
  | tup xs =>
    cases y with
    | int i =>
      simp only [itemV] at h
      split at h
      · rename_i z e
        obtain ⟨p, vs, rfl, h1, h2⟩ := rx
        cases ry
        obtain ⟨k, e1, e2⟩ := Option.bind_eq_some_iff.mp e
        obtain ⟨w, e3, e4⟩ := h2.get e2
        refine ix_tup value slice pins s σ H _ _ v u Q I ra rb ⟨p, vs, i, w, rfl, rfl, h1, ?_, h.here R e4⟩ hs
        unfold atI
        rw [← h2.length, e1]; exact e3
      · exact h.elim
    | _ => exact h.elim
  | loc n =>
    obtain ⟨p, rfl, h1⟩ := rx
    simp only [itemV] at h
    have lst : ∀ {xs : List Val} {vs : List V} {i : Int} {z : Val}, y = .int i → SqL X.K H p vs → RepL X.K ρ H xs vs → atI xs i = some z → Pst X.K (Rep X.K) ρ H (.ok z st) Q →
        wpAny (model X.prog X.w) X.A (subscriptTail value slice v u) (EP X pins σ Q) X.xe s := fun {xs vs i z} ey hq h2 e hfin => by
      subst ey
      cases ry
      obtain ⟨k, e1, e2⟩ := Option.bind_eq_some_iff.mp e
      obtain ⟨w, e3, e4⟩ := h2.get e2
      refine ix_list value slice pins s σ H _ _ v u Q I ra rb ⟨p, vs, i, w, rfl, rfl, hq, ?_, hfin.here R e4⟩ hs
      unfold atI
      rw [← h2.length, e1]; exact e3
    cases q : st[n]? with
    | none => rw [q] at h; exact h.elim
    | some o =>
      rw [q] at h
      have ho := R.obj n p o h1 q
      cases o with
      | lst xs =>
        obtain ⟨vs, h3, h4⟩ := ho
        cases y with
        | int i =>
          simp only at h
          split at h
          · rename_i z e
            exact lst rfl (SqL.of h3) h4 e h
          · exact h.elim
        | _ => exact h.elim
      | dct t kvs =>
        simp only at h
        split at h
        · rename_i hk
          split at h
          · rename_i z e
            cases ra
            cases t with
            | false =>
              obtain ⟨kws, h3, h4⟩ := ho
              obtain ⟨k, ek⟩ := keyOf_flat hk
              rcases dlook_rel (kf := keyOf) (fun _ _ _ _ => keyEq_of) ek h4 with ⟨e1, _⟩ | ⟨v1, w1, e1, e2, e3⟩
              · rw [e1] at e; cases e
              · rw [e1] at e; cases e
                have ey := keyOf_rep ek ry
                subst ey
                have g : DGet H p (kV k) (some w1) := by rw [← e2]; exact DGet.k h3
                exact tail_any (dict_typeIs I g) PySem.F.slot_dict_getitem.lookup (d_getItem hu I g rb fun w' s' I' r' => ⟨w1, H, I', r', h.here R e3⟩) hs
            | true =>
              obtain ⟨kws, h3, h4⟩ := ho
              cases y with
              | tup ys =>
                obtain ⟨ks, ek⟩ := keysOf_flat hk
                obtain ⟨c, vs, rfl, h5, h6⟩ := ry
                have ev := keysOf_rep ek h6
                subst ev
                cases rb
                rcases dlook_rel (kf := keyT) (fun _ _ _ _ => keyT_of) (i := .tup ys) ek h4 with ⟨e1, _⟩ | ⟨v1, w1, e1, e2, e3⟩
                · rw [e1] at e; cases e
                · rw [e1] at e; cases e
                  obtain ⟨_, _, _, _, dd⟩ := dt_of I.hok h3
                  exact tail_any dd.typeIs PySem.F.slot_dict_getitem.lookup (dt_item hu I h3 h5 e2 fun w' s' I' r' => ⟨w1, H, I', r', h.here R e3⟩) hs
              | _ => cases hk
          · exact h.elim
        · exact h.elim
      | ins _ _ => exact ho.elim
  | rol xs =>
    cases y with
    | int i =>
      simp only [itemV] at h
      split at h
      · rename_i z e
        obtain ⟨p, vs, rfl, h1, h2⟩ := rx
        cases ry
        obtain ⟨k, e1, e2⟩ := Option.bind_eq_some_iff.mp e
        obtain ⟨w, e3, e4⟩ := h2.get e2
        refine ix_list value slice pins s σ H _ _ v u Q I ra rb ⟨p, vs, i, w, rfl, rfl, h1.sq, ?_, h.here R e4⟩ hs
        unfold atI
        rw [← h2.length, e1]; exact e3
      · exact h.elim
    | _ => exact h.elim
  | _ => exact h.elim

/-! ### slices -/
def rSl (K : PySem.W.Frag) : V → Option Int → Option Int → Hp → VK → Prop := fun a lo hi H Q => ∃ ρ s x, RelS K ρ s H ∧ Rep K ρ H x a ∧ Pst K (Rep K) ρ H (Bk.cutV x lo hi s) Q
theorem sl_all : SlR X (rSl X.K) := by
  intro pins s σ H a v vl vu lo hi sl Q I ra hs pl pu hh
  obtain ⟨ρ, st, x, R, rx, h⟩ := hh
  have lst : ∀ {xs : List Val}, Bk.seqL st x = some xs → Pst X.K (Rep X.K) ρ H (pushO (.lst (cut xs lo hi)) st) Q → ∃ T id, typeLookup (.type T) "__getitem__" = pure (some (.builtin id)) ∧ s.TypeIs v T ∧ wpAny (model X.prog X.w) X.A (getItem v (.ref sl)) (EP X pins σ Q) X.xe s := fun {xs} e h => by
    obtain ⟨p, vs, rfl, h3, h4⟩ := R.seqL e rx
    refine sl_list pins s σ H _ v vl vu lo hi sl Q I ra hs pl pu ⟨p, vs, rfl, h3, fun l hl => h.pushedL R ?_ hl⟩
    unfold cut L2.cutV
    rw [h4.length]
    exact (h4.drop _).take _
  cases x with
  | tup xs =>
    obtain ⟨p, vs, rfl, h1, h2⟩ := rx
    have hl := h2.length
    refine sl_tupA pins s σ H _ v vl vu lo hi sl Q I ra hs pl pu ⟨p, vs, rfl, h1, fun hw => ?_, fun _ l hl' => ?_⟩
    · refine h.here R ⟨p, vs, rfl, h1, ?_⟩
      unfold cut
      rw [hl, hw.1, hw.2, List.drop_zero, Nat.sub_zero, ← hl, List.take_length]
      exact h2
    · refine h.tupled R ?_ hl'
      unfold cut L2.cutV
      rw [hl]
      exact (h2.drop _).take _
  | loc n =>
    simp only [Bk.cutV] at h
    split at h
    · rename_i xs e
      exact lst e h
    · exact h.elim
  | rol ys => exact lst rfl h
  | _ => exact h.elim
end
end Bk
set_option maxHeartbeats 4000000
/-! RunC6: built-in functions. -/
namespace Bk
open PySem PySem.Spec PyProof.Rows L2

theorem maxL_mem : ∀ (i : Int) (r : List Int), maxL i r ∈ i :: r
  | i, [] => by simp [maxL]
  | i, x :: r => by
    have h := maxL_mem (if x > i then x else i) r
    simp only [maxL]
    split at h <;> rename_i c
    · rw [if_pos c]; exact List.mem_cons_of_mem _ h
    · rw [if_neg c]
      rcases List.mem_cons.mp h with h | h
      · rw [h]; exact List.mem_cons_self
      · exact List.mem_cons_of_mem _ (List.mem_cons_of_mem _ h)
theorem maxL_ge : ∀ (i : Int) (r : List Int) (y : Int), y ∈ i :: r → y ≤ maxL i r
  | i, [], y, h => by simp at h; simp [maxL, h]
  | i, x :: r, y, h => by
    have ih := maxL_ge (if x > i then x else i) r
    simp only [maxL]
    rcases List.mem_cons.mp h with h | h
    · subst h
      refine Int.le_trans ?_ (ih _ List.mem_cons_self)
      split <;> omega
    · rcases List.mem_cons.mp h with h | h
      · subst h
        refine Int.le_trans ?_ (ih _ List.mem_cons_self)
        split <;> omega
      · exact ih y (List.mem_cons_of_mem _ h)
theorem minL_mem : ∀ (i : Int) (r : List Int), minL i r ∈ i :: r
  | i, [] => by simp [minL]
  | i, x :: r => by
    have h := minL_mem (if x < i then x else i) r
    simp only [minL]
    split at h <;> rename_i c
    · rw [if_pos c]; exact List.mem_cons_of_mem _ h
    · rw [if_neg c]
      rcases List.mem_cons.mp h with h | h
      · rw [h]; exact List.mem_cons_self
      · exact List.mem_cons_of_mem _ (List.mem_cons_of_mem _ h)
theorem minL_le : ∀ (i : Int) (r : List Int) (y : Int), y ∈ i :: r → minL i r ≤ y
  | i, [], y, h => by simp at h; simp [minL, h]
  | i, x :: r, y, h => by
    have ih := minL_le (if x < i then x else i) r
    simp only [minL]
    rcases List.mem_cons.mp h with h | h
    · subst h
      refine Int.le_trans (ih _ List.mem_cons_self) ?_
      split <;> omega
    · rcases List.mem_cons.mp h with h | h
      · subst h
        refine Int.le_trans (ih _ List.mem_cons_self) ?_
        split <;> omega
      · exact ih y (List.mem_cons_of_mem _ h)
theorem sortI_perm (ns : List Int) : (sortI ns).Perm ns := List.mergeSort_perm _ _
theorem sortI_pw (ns : List Int) : (sortI ns).Pairwise (· ≤ ·) := by
  have h := List.pairwise_mergeSort (le := fun a b : Int => decide (a ≤ b)) (by intro a b c h1 h2; simp at *; omega) (by intro a b; simp; omega) ns
  exact h.imp fun h => by simpa using h
theorem sorted_one : ∀ {as bs : List Int}, as.Perm bs → as.Pairwise (· ≤ ·) → bs.Pairwise (· ≤ ·) → as = bs := by
  intro as bs p h1 h2
  exact p.eq_of_pairwise (le := fun a b : Int => a ≤ b) (fun a b _ _ h h' => Int.le_antisymm h h') h1 h2
theorem sortI_is {ns ys : List Int} (p : ys.Perm ns) (h : ys.Pairwise (· ≤ ·)) : ys = sortI ns := sorted_one (p.trans (sortI_perm ns).symm) h (sortI_pw ns)

def prVal : Pr → Value
  | .len => .builtin "len"
  | .int => .type "int"
  | .abs => .builtin "abs"
  | .max => .builtin "max"
  | .min => .builtin "min"
  | .gcd => .builtin "math.gcd"
  | .tuple => .type "tuple"
  | .list => .type "list"
  | .sum => .builtin "sum"
  | .all => .builtin "all"
  | .any => .builtin "any"
  | .repr => .builtin "repr"
  | .sorted => .builtin "sorted"
  | .isinst _ => .builtin "isinstance"
  | .isex _ _ => .builtin "isinstance"
def rP (K : PySem.W.Frag) (p : Pr) : List V → Hp → VK → Prop := fun vs H Q => ∃ ρ s as, RelS K ρ s H ∧ RepL K ρ H as vs ∧ Pst K (Rep K) ρ H (primV p as s) Q
theorem any_rangeI : ∀ ns : List Int, (List.range ns.length).any (fun i => ns.getD i 0 != 0) = ns.any (· != 0)
  | [] => rfl
  | n :: ns => by
    rw [List.length_cons, List.range_succ_eq_map, List.any_cons, List.any_map, List.any_cons]
    have ih : (List.range ns.length).any ((fun i => (n :: ns).getD i 0 != 0) ∘ Nat.succ) = ns.any (· != 0) := any_rangeI ns
    rw [ih]
    rfl
theorem dkeys_rep {K : PySem.W.Frag} {ρ ρ' : List Addr} {H H' : Hp} : ∀ {kvs : List (Val × Val)} {kws : List (Key × V)}, Paired (fun p q => keyOf p.1 = some q.1 ∧ Rep K ρ H p.2 q.2) kvs kws → RepL K ρ' H' (kvs.map (·.1)) (kws.map fun kv => kV kv.1)
  | _, _, .nil => rfl
  | _, _, .cons (a := p) (b := q) h t => by
    refine ⟨_, _, rfl, ?_, dkeys_rep t⟩
    have e := h.1
    show Rep K ρ' H' p.1 (kV q.1)
    cases hp : p.1 with
    | int i => rw [hp] at e; rw [← Option.some.inj e]; rfl
    | str i => rw [hp] at e; rw [← Option.some.inj e]; rfl
    | _ => rw [hp] at e; cases e
theorem dkeys_ints {K : PySem.W.Frag} {ρ : List Addr} {H : Hp} : ∀ {kvs : List (Val × Val)} {kws : List (Key × V)} {ns : List Int}, Paired (fun p q => keyOf p.1 = some q.1 ∧ Rep K ρ H p.2 q.2) kvs kws → intsO (kvs.map (·.1)) = some ns → kws.map (·.1) = ns.map Sum.inl
  | _, _, _, .nil, e => by cases e; rfl
  | _, _, ns, .cons (a := p) (b := q) h t, e => by
    have e1 := h.1
    rw [List.map_cons] at e
    cases hp : p.1 with
    | int i =>
      rw [hp] at e1 e
      have e1 := (Option.some.inj e1).symm
      simp only [intsO, Option.map_eq_some_iff] at e
      obtain ⟨ms, h1, rfl⟩ := e
      rw [List.map_cons, List.map_cons, dkeys_ints t h1, e1]
    | _ => rw [hp] at e; cases e
mutual
theorem noDict {K : PySem.W.Frag} {H : Hp} : ∀ {v : V} {d : PyData}, Dp K H v d → d.hasDict = false
  | _, _, .non => rfl
  | _, _, .bl _ => rfl
  | _, _, .int _ => rfl
  | _, _, .str _ => rfl
  | _, _, .lst _ h => noDicts h
  | _, _, .tup _ h => noDicts h
theorem noDicts {K : PySem.W.Frag} {H : Hp} : ∀ {vs : List V} {ds : List PyData}, DpAll K H vs ds → PyData.hasDictAll ds = false
  | _, _, .nil => rfl
  | _, _, .cons h t => by
    show (PyData.hasDict _ || PyData.hasDictAll _) = false
    rw [noDict h, noDicts t]; rfl
end
theorem noDict_of {K : PySem.W.Frag} {H : Hp} {as : List Addr} {v : V} {d : PyData} (h : Dp K H v d) : d.hasDict = true → sysModules ∉ as := by
  have := noDict h
  intro e; rw [this] at e; cases e
section
variable {X : Cx}
/-- any of a tuple of ints -/
theorem cr_anyT (hc : X.calm = true) : CallR X (.builtin "any") (fun vs H Q => ∃ (a : Addr) (ns : List Int), vs = [V.ref a] ∧ SqT X.K H a (ns.map V.int) ∧ Q (.bl (ns.any (· != 0))) H) := by
  intro pins s σ H vs us Q I r hh
  obtain ⟨a, ns, rfl, hs, q⟩ := hh
  obtain ⟨its, rv, hl, _⟩ := I.tuple hs
  obtain ⟨u, rfl, ru⟩ := r.one
  cases ru
  have hi : IntsAre its ns := rv.ints
  have hlt : a < s.heap.objs.size := by obtain ⟨_, e, _⟩ := hl; exact Heap.lt_size e
  have tr : TruthOf X.prog X.w X.A.in1 (fun i v => its.toArray[i]? = some v) (fun i => ns.getD i 0 != 0) := fun i v st Q' E hv hq => by
    have hv' : its[i]? = some v := by simpa using hv
    have hlen := hi.length
    have hlt : i < ns.length := by
      have := (List.getElem?_eq_some_iff.mp hv').1
      omega
    obtain ⟨w, hw, rw'⟩ := rv.get (i := i) (x := V.int ns[i]) (by simp [hlt])
    rw [hv'] at hw
    cases hw
    obtain ⟨t, rfl⟩ := rw'
    have e : ns.getD i 0 = ns[i] := by simp [hlt]
    refine truthy_int ?_
    rw [← e]
    exact hq
  refine call_any_walk (wpAny_pyIter_tuple hl ⟨_, _, _, _, _, _, _, rfl, Walks.tuple (A := X.A.in1) (I.ok.hd hc) s.heap.objs.size a (Nat.ne_of_lt hlt) its.toArray, ⟨⟨_, Heap.get?_push_size _ rfl, rfl, rfl⟩, hl.push _⟩, tr, fun h' tk hk => ?_⟩)
  refine ⟨.bl _, H, I.kept fun b o eo => hk b o (fun hmem => ?_) (Heap.get?_push_of_some _ eo), ?_, q⟩
  · rw [List.mem_singleton.mp hmem] at eo
    exact absurd (Heap.lt_size eo) (Nat.lt_irrefl _)
  · show Value.bool _ = Value.bool _
    have hn : its.toArray.size = ns.length := by rw [List.size_toArray]; exact hi.length
    rw [hn]
    congr 1
    exact any_rangeI ns

theorem rep_ok {b : V} {d : PyData} {pins : List (Addr × Obj)} {σ : L2.St} {H : Hp} {s : Shared} {u : Value} {Q : VK} (hg : X.A.guards = some []) (hu : X.A.units + 200 < cLine) (hd : d.depth ≤ 100) (I : Inv X pins σ H s) (h : Dp X.K H b d) (ru : RelV b u)
    (h1 : d.showable = true) (h2 : d.shown.length ≤ sizeLine) (q : Q (.str d.shown) H) : wpAny (model X.prog X.w) X.A (call (.builtin "repr") [u]) (EP X pins σ Q) X.xe s := by
  cases h with
  | non => cases ru; exact P.repr_of_none ⟨.str (PyData.shown .none), H, I.tok _, ⟨_, rfl⟩, q⟩
  | bl b => cases ru; exact P.repr_of_bool ⟨.str (PyData.shown (.bool b)), H, I.tok _, ⟨_, rfl⟩, q⟩
  | int i =>
    obtain ⟨t, rfl⟩ := ru
    exact P.repr_of_int (of_decide_eq_true h1) ⟨.str (PyData.shown (.int i)), H, I.tok _, ⟨_, rfl⟩, q⟩
  | str x =>
    obtain ⟨t, rfl⟩ := ru
    exact P.repr_of_str ⟨.str (PyData.shown (.str x)), H, I.tok _, ⟨_, rfl⟩, q⟩ h2
  | lst hx ha =>
    rename_i a xs ds
    cases ru
    obtain ⟨as, hr⟩ := Dp.reads I (.list ds) (.ref a) (.ref a) (.lst hx ha) rfl
    exact repr_of_reads' hr h1 (noDict_of (.lst hx ha)) hg (by omega) (fun _ _ e => e) (fun h' u tk k => ⟨.str (PyData.list ds).shown, H, I.kept k, ⟨_, rfl⟩, q⟩) h2
  | tup hx ha =>
    rename_i a xs ds
    cases ru
    obtain ⟨as, hr⟩ := Dp.reads I (.tuple ds) (.ref a) (.ref a) (.tup hx ha) rfl
    exact repr_of_reads' hr h1 (noDict_of (.tup hx ha)) hg (by omega) (fun _ _ e => e) (fun h' u tk k => ⟨.str (PyData.tuple ds).shown, H, I.kept k, ⟨_, rfl⟩, q⟩) h2

theorem len_seqR {pins : List (Addr × Obj)} {σ : L2.St} {H : Hp} {s : Shared} {p : Addr} {vs : List V} {u : Value} {Q : VK} (I : Inv X pins σ H s) (ru : RelV (.ref p) u) (h : SqL X.K H p vs ∨ SqT X.K H p vs) (q : Q (.int vs.length) H) :
    wpAny (model X.prog X.w) X.A (call (.builtin "len") [u]) (EP X pins σ Q) X.xe s := call_len_seq pins s σ H [.ref p] [u] Q I (.cons ru .nil) ⟨p, vs, rfl, h, q⟩

theorem cr_prim (hc : X.calm = true) (hg : X.A.guards = some []) (hu : X.A.units + 200 < cLine) (p : Pr) (hp : ∀ ts, p ≠ .isinst ts) (hp2 : ∀ c cs, p ≠ .isex c cs) : CallR X (prVal p) (rP X.K p) := by
  intro pins s σ H vs us Q I r hh
  obtain ⟨ρ, st, as, R, ra, h⟩ := hh
  cases p with
  | isinst ts => exact absurd rfl (hp ts)
  | isex c cs => exact absurd rfl (hp2 c cs)
  | len =>
    cases as with
    | nil => exact h.elim
    | cons v as =>
      cases as with
      | cons _ _ => cases v <;> exact h.elim
      | nil =>
        obtain ⟨a, _, rfl, rv, rfl⟩ := ra
        obtain ⟨u, rfl, ru⟩ := r.one
        cases v with
        | str x =>
          cases rv
          simp only [primV] at h
          split at h
          · rename_i hl
            exact call_len_str pins s σ H _ _ Q I (.cons ru .nil) ⟨x, rfl, hl, h.here R rfl⟩
          · exact h.elim
        | tup xs =>
          obtain ⟨p, ws, rfl, h1, h2⟩ := rv
          exact len_seqR I ru (.inr h1) (by rw [← h2.length]; exact h.here R rfl)
        | loc n =>
          obtain ⟨p, rfl, h1⟩ := rv
          simp only [primV] at h
          cases q : st[n]? with
          | none => rw [q] at h; exact h.elim
          | some o =>
            rw [q] at h
            have ho := R.obj n p o h1 q
            cases o with
            | lst xs =>
              obtain ⟨ws, h3, h4⟩ := ho
              exact len_seqR I ru (.inl (SqL.of h3)) (by rw [← h4.length]; exact h.here R rfl)
            | dct t kvs =>
              cases t with
              | true => exact h.elim
              | false =>
                obtain ⟨kws, h3, h4⟩ := ho
                cases ru
                exact d_len I (.inl h3) fun t s' I' => ⟨.int kws.length, H, I', ⟨t, rfl⟩, by rw [← Paired.length h4]; exact h.here R rfl⟩
            | ins _ _ => exact ho.elim
        | rol xs =>
          obtain ⟨p, ws, rfl, h1, h2⟩ := rv
          exact len_seqR I ru (.inl h1.sq) (by rw [← h2.length]; exact h.here R rfl)
        | _ => exact h.elim
  | int =>
    cases as with
    | nil => exact h.elim
    | cons v as =>
      cases as with
      | cons _ _ => cases v <;> exact h.elim
      | nil =>
        obtain ⟨a, _, rfl, rv, rfl⟩ := ra
        cases v with
        | int i => cases rv; exact call_int1 pins s σ H _ _ Q I r (.inl ⟨i, rfl, h.here R rfl⟩)
        | bl b => cases rv; exact call_int1 pins s σ H _ _ Q I r (.inr ⟨b, rfl, h.here R rfl⟩)
        | _ => exact h.elim
  | abs =>
    cases as with
    | nil => exact h.elim
    | cons v as =>
      cases as with
      | cons _ _ => cases v <;> exact h.elim
      | nil =>
        obtain ⟨a, _, rfl, rv, rfl⟩ := ra
        cases v with
        | int i => cases rv; exact call_abs pins s σ H _ _ Q I r ⟨i, rfl, h.here R rfl⟩
        | _ => exact h.elim
  | max =>
    cases as with
    | nil => exact h.elim
    | cons v as =>
      cases as with
      | nil =>
        obtain ⟨a, _, rfl, rv, rfl⟩ := ra
        simp only [primV] at h
        split at h
        · rename_i i ns e
          obtain ⟨xs, e1, e2⟩ := Option.bind_eq_some_iff.mp e
          obtain ⟨p, ws, rfl, h3, h4⟩ := R.seqL e1 rv
          have e3 := h4.ints e2
          subst e3
          refine cr_max hc pins s σ H _ _ Q I r ⟨p, _, rfl, h3, by simp, fun m hm hle => ?_⟩
          have : m = maxL i ns := Int.le_antisymm (maxL_ge i ns m hm) (hle _ (maxL_mem i ns))
          rw [this]
          exact h.here R rfl
        · exact h.elim
      | cons w as =>
        cases as with
        | cons _ _ => cases v <;> cases w <;> exact h.elim
        | nil =>
          obtain ⟨a, _, rfl, rv, b, _, rfl, rw', rfl⟩ := ra
          cases v with
          | int i =>
            cases w with
            | int j => cases rv; cases rw'; exact call_max2 hc pins s σ H _ _ Q I r ⟨i, j, rfl, h.here R rfl⟩
            | _ => exact h.elim
          | _ => cases w <;> exact h.elim
  | min =>
    cases as with
    | nil => exact h.elim
    | cons v as =>
      cases as with
      | nil =>
        obtain ⟨a, _, rfl, rv, rfl⟩ := ra
        simp only [primV] at h
        split at h
        · rename_i i ns e
          obtain ⟨xs, e1, e2⟩ := Option.bind_eq_some_iff.mp e
          obtain ⟨p, ws, rfl, h3, h4⟩ := R.seqL e1 rv
          have e3 := h4.ints e2
          subst e3
          refine cr_min hc pins s σ H _ _ Q I r ⟨p, _, rfl, h3, by simp, fun m hm hle => ?_⟩
          have : m = minL i ns := Int.le_antisymm (hle _ (minL_mem i ns)) (minL_le i ns m hm)
          rw [this]
          exact h.here R rfl
        · exact h.elim
      | cons w as =>
        cases as with
        | cons _ _ => cases v <;> cases w <;> exact h.elim
        | nil =>
          obtain ⟨a, _, rfl, rv, b, _, rfl, rw', rfl⟩ := ra
          cases v with
          | int i =>
            cases w with
            | int j => cases rv; cases rw'; exact call_min2 hc pins s σ H _ _ Q I r ⟨i, j, rfl, h.here R rfl⟩
            | _ => exact h.elim
          | _ => cases w <;> exact h.elim
  | gcd =>
    cases as with
    | nil => exact h.elim
    | cons v as =>
      cases as with
      | nil => cases v <;> exact h.elim
      | cons w as =>
        cases as with
        | cons _ _ => cases v <;> cases w <;> exact h.elim
        | nil =>
          obtain ⟨a, _, rfl, rv, b, _, rfl, rw', rfl⟩ := ra
          cases v with
          | int i =>
            cases w with
            | int j => cases rv; cases rw'; exact cr_gcd pins s σ H _ _ Q I r ⟨i, j, rfl, h.here R rfl⟩
            | _ => exact h.elim
          | _ => cases w <;> exact h.elim
  | tuple =>
    cases as with
    | nil => exact h.elim
    | cons v as =>
      cases as with
      | cons _ _ => exact h.elim
      | nil =>
        obtain ⟨a, _, rfl, rv, rfl⟩ := ra
        simp only [primV] at h
        split at h
        · rename_i xs e
          obtain ⟨p, ws, rfl, h3, h4⟩ := R.seqO e rv
          rcases h3 with h3 | ⟨h3, rfl⟩
          · exact call_tuple_of pins s σ H _ _ Q I r ⟨p, ws, rfl, .inl ⟨h3, fun l hl => h.tupled R h4 hl⟩⟩
          · exact call_tuple_of pins s σ H _ _ Q I r ⟨p, ws, rfl, .inr ⟨h3, h.here R rv⟩⟩
        · exact h.elim
  | list =>
    cases as with
    | nil => exact h.elim
    | cons v as =>
      cases as with
      | cons _ _ => exact h.elim
      | nil =>
        obtain ⟨a, _, rfl, rv, rfl⟩ := ra
        simp only [primV] at h
        split at h
        · rename_i xs e
          obtain ⟨p, ws, rfl, h3, h4⟩ := R.seqO e rv
          rcases h3 with h3 | ⟨h3, _⟩
          · exact call_list_of pins s σ H _ _ Q I r ⟨p, ws, rfl, .inl h3, fun l hl => h.pushedL R h4 hl⟩
          · exact call_list_of pins s σ H _ _ Q I r ⟨p, ws, rfl, .inr h3, fun l hl => h.pushedL R h4 hl⟩
        · split at h
          · rename_i n _
            obtain ⟨p, rfl, h1⟩ := rv
            split at h
            · rename_i kvs q
              obtain ⟨kws, h3, h4⟩ := R.obj n p _ h1 q
              refine call_list_dK hc pins s σ H _ _ Q I r ⟨p, kws, rfl, h3, fun l hl => h.pushedL R ?_ hl⟩
              exact dkeys_rep h4
            · exact h.elim
          · exact h.elim
  | sum =>
    cases as with
    | nil => exact h.elim
    | cons v as =>
      cases as with
      | cons _ _ => exact h.elim
      | nil =>
        obtain ⟨a, _, rfl, rv, rfl⟩ := ra
        simp only [primV] at h
        split at h
        · rename_i ns e
          obtain ⟨xs, e1, e2⟩ := Option.bind_eq_some_iff.mp e
          obtain ⟨p, ws, rfl, h3, h4⟩ := R.seqL e1 rv
          have e3 := h4.ints e2
          subst e3
          exact cr_sum hc pins s σ H _ _ Q I r ⟨p, ns, rfl, h3, h.here R rfl⟩
        · exact h.elim
  | all =>
    cases as with
    | nil => exact h.elim
    | cons v as =>
      cases as with
      | cons _ _ => exact h.elim
      | nil =>
        obtain ⟨a, _, rfl, rv, rfl⟩ := ra
        simp only [primV] at h
        split at h
        · rename_i ns e
          obtain ⟨xs, e1, e2⟩ := Option.bind_eq_some_iff.mp e
          obtain ⟨p, ws, rfl, h3, h4⟩ := R.seqL e1 rv
          have e3 := h4.bools e2
          subst e3
          exact cr_all hc pins s σ H _ _ Q I r ⟨p, ns, rfl, h3, h.here R rfl⟩
        · exact h.elim
  | any =>
    cases as with
    | nil => exact h.elim
    | cons v as =>
      cases as with
      | cons _ _ => cases v <;> exact h.elim
      | nil =>
        obtain ⟨a, _, rfl, rv, rfl⟩ := ra
        have lst : Pst X.K (Rep X.K) ρ H (match (seqL st v).bind boolsO with | some bs => .ok (.bl (bs.any id)) st | none => .stuck) Q → wpAny (model X.prog X.w) X.A (call (.builtin "any") us) (EP X pins σ Q) X.xe s := fun h => by
          split at h
          · rename_i ns e
            obtain ⟨xs, e1, e2⟩ := Option.bind_eq_some_iff.mp e
            obtain ⟨p, ws, rfl, h3, h4⟩ := R.seqL e1 rv
            have e3 := h4.bools e2
            subst e3
            exact cr_any hc pins s σ H _ _ Q I r ⟨p, ns, rfl, h3, h.here R rfl⟩
          · exact h.elim
        cases v with
        | tup xs =>
          obtain ⟨p, ws, rfl, h1, h2⟩ := rv
          simp only [primV] at h
          split at h
          · rename_i ns e
            have e3 := h2.ints e
            subst e3
            exact cr_anyT hc pins s σ H _ _ Q I r ⟨p, ns, rfl, h1, h.here R rfl⟩
          · exact h.elim
        | _ => exact lst h
  | repr =>
    cases as with
    | nil => exact h.elim
    | cons v as =>
      cases as with
      | cons _ _ => cases v <;> exact h.elim
      | nil =>
        obtain ⟨a, _, rfl, rv, rfl⟩ := ra
        obtain ⟨u, rfl, ru⟩ := r.one
        simp only [primV] at h
        split at h
        · rename_i d e
          split at h
          · rename_i hd
            exact rep_ok hg hu hd.2.2 I (dataOf_rep R e rv) ru hd.1 hd.2.1 (h.here R rfl)
          · exact h.elim
        · exact h.elim
  | sorted =>
    cases as with
    | nil => exact h.elim
    | cons v as =>
      cases as with
      | cons _ _ => exact h.elim
      | nil =>
        obtain ⟨a, _, rfl, rv, rfl⟩ := ra
        simp only [primV] at h
        split at h
        · rename_i xs e
          obtain ⟨p, ws, rfl, h3, h4⟩ := R.seqL e rv
          split at h
          · rename_i ns e2
            have e3 := h4.ints e2
            subst e3
            exact cr_sortedI pins s σ H _ _ Q I r ⟨p, ns, rfl, h3, fun ys l p1 p2 hl => by rw [sortI_is p1 p2]; exact h.pushedL R (RepL.of_ints _) hl⟩
          · exact h.elim
        · split at h
          · rename_i n _
            obtain ⟨p, rfl, h1⟩ := rv
            split at h
            · rename_i kvs q
              obtain ⟨kws, h3, h4⟩ := R.obj n p _ h1 q
              split at h
              · rename_i ns e2
                split at h
                · rename_i hl64
                  exact call_sortedDI hc pins s σ H _ _ Q I r ⟨p, kws, ns, rfl, .inl h3, dkeys_ints h4 e2, hl64, fun ys l p1 p2 hl => by rw [sortI_is p1 p2]; exact h.pushedL R (RepL.of_ints _) hl⟩
                · exact h.elim
              · exact h.elim
            · exact h.elim
          · exact h.elim
end
end Bk
set_option maxHeartbeats 4000000
/-! RunC7: methods, stores, isinstance. -/
namespace Bk
open PySem PySem.Spec PyProof.Rows L2

def meName : Me → Str
  | .append => "append"
  | .pop => "pop"
  | .insert => "insert"
  | .extend => "extend"
  | .get => "get"
  | .index => "index"
def meId : Me → String
  | .append => "list.append"
  | .pop => "list.pop"
  | .insert => "list.insert"
  | .extend => "list.extend"
  | .get => "dict.get"
  | .index => "list.index"
def meT : Me → String
  | .get => "dict"
  | _ => "list"
def rM (K : PySem.W.Frag) (m : Me) : V → List V → Hp → VK → Prop := fun a vs H Q => ∃ ρ s x as, RelS K ρ s H ∧ Rep K ρ H x a ∧ RepL K ρ H as vs ∧ Pst K (Rep K) ρ H (methV m x as s) Q
section
variable {K : PySem.W.Frag} {ρ : List Addr} {H : Hp} {s : Sto}
/-- a list of the store is written -/
theorem Pst.wroteL {α β : Type} {R' : List Addr → Hp → α → β → Prop} {n : Nat} {p : Addr} {xs ys : List Val} {vs ws : List V} {v : α} {w : β} {Q : β → Hp → Prop} (h : Pst K R' ρ H (.ok v (s.set n (.lst ys))) Q) (R : RelS K ρ s H) (hn : ρ[n]? = some p) (hs : s[n]? = some (.lst xs))
    (hp : H p = some (.lst vs)) (r : RepL K ρ H ys ws) (rv : R' ρ (upd H p (.lst ws)) v w) : Q w (upd H p (.lst ws)) := by
  have e := ext_write (u := .lst ws) hn hp rfl
  exact h ρ _ w e (R.write hn hs hp rfl ⟨ws, upd_same, r.mono e⟩) rv
theorem dput_rel {κ : Type} [DecidableEq κ] {kf : Val → Option κ} (hk : ∀ u v k j, kf u = some k → kf v = some j → keyEq u v = decide (k = j)) {i : Val} {k : κ} (hi : kf i = some k) {v : Val} {w : V} (hv : Rep K ρ H v w)
    {kvs : List (Val × Val)} {kws : List (κ × V)} (r : Paired (fun p q => kf p.1 = some q.1 ∧ Rep K ρ H p.2 q.2) kvs kws) : Paired (fun p q => kf p.1 = some q.1 ∧ Rep K ρ H p.2 q.2) (dput kvs i v) (putK kws k w) := by
  have e : (kvs.any fun p => keyEq p.1 i) = kws.any fun p => decide (p.1 = k) := by
    induction r with
    | nil => rfl
    | cons h t ih => rw [List.any_cons, List.any_cons, ih, hk _ _ _ _ h.1 hi]
  unfold dput putK
  rw [e]
  by_cases c : (kws.any fun p => decide (p.1 = k)) = true
  · rw [if_pos c, if_pos c]
    clear e c
    induction r with
    | nil => exact .nil
    | cons h t ih =>
      refine .cons ?_ ih
      have q := hk _ _ _ _ h.1 hi
      rename_i a b l1 l2
      by_cases d : b.1 = k
      · rw [d, decide_eq_true rfl] at q
        simp only [q, d, if_true]
        exact ⟨by rw [h.1, d], hv⟩
      · rw [decide_eq_false d] at q
        simp only [q, d, if_false, Bool.false_eq_true]
        exact h
  · rw [if_neg c, if_neg c]
    clear e c
    induction r with
    | nil => exact .cons ⟨hi, hv⟩ .nil
    | cons h t ih => exact .cons h ih
end
theorem indexO_ok {s : Sto} {x v : Val} {j : Nat} (h : indexO s x v = some j) : ∃ ds d, dataOf s x = some (.list ds) ∧ dataOf s v = some d ∧ SeqAt.shaped (.list ds) = true ∧ SeqAt.shaped d = true ∧ ds.findIdx (fun z => PyData.eqv z d) < ds.length ∧ j = ds.findIdx fun z => PyData.eqv z d := by
  unfold indexO at h
  split at h
  · rename_i ds d e1 e2
    split at h
    · rename_i c
      cases h
      exact ⟨ds, d, e1, e2, c.1, c.2.1, c.2.2, rfl⟩
    · cases h
  · cases h
section
variable {X : Cx}
theorem mt_meth (hu : X.A.units + 200 < cLine) (m : Me) : MtR X (meId m) (rM X.K m) := by
  intro pins s σ H a vs v us Q I ra rs hh
  obtain ⟨ρ, st, x, as, R, rx, rl, h⟩ := hh
  cases x with
  | loc n =>
    obtain ⟨p, rfl, h1⟩ := rx
    cases m with
    | index =>
      cases as with
      | nil => exact h.elim
      | cons y as =>
        cases as with
        | cons _ _ => exact h.elim
        | nil =>
          obtain ⟨b, _, rfl, rb, rfl⟩ := rl
          simp only [methV] at h
          split at h
          · rename_i j e
            obtain ⟨ds, d, e1, e2, e3, e4, e5, rfl⟩ := indexO_ok e
            have D1 := dataOf_rep R e1 (⟨p, rfl, h1⟩ : Rep X.K ρ H (.loc n) (.ref p))
            have D2 := dataOf_rep R e2 rb
            refine mt_indexD (by omega) pins s σ H _ _ v us Q I ra rs ⟨p, b, d, ds, _, ds[ds.findIdx fun z => PyData.eqv z d], rfl, rfl, D1, D2, e3, e4, List.getElem?_eq_getElem e5, List.findIdx_getElem (xs := ds) (p := fun z => PyData.eqv z d) (w := e5), fun m z' hm hz => ?_, h.here R rfl⟩
            obtain ⟨hl, rfl⟩ := List.getElem?_eq_some_iff.mp hz
            have := List.not_of_lt_findIdx (p := fun z => PyData.eqv z d) (xs := ds) hm
            simpa using this
          · exact h.elim
    | append =>
      cases as with
      | nil => exact h.elim
      | cons y as =>
        cases as with
        | cons _ _ => exact h.elim
        | nil =>
          obtain ⟨b, _, rfl, rb, rfl⟩ := rl
          simp only [methV] at h
          split at h
          · rename_i xs e
            split at h
            · rename_i hl
              obtain ⟨ws, h3, h4⟩ := R.lstAt e h1
              exact mt_append pins s σ H _ _ v us Q I ra rs ⟨p, ws, b, rfl, rfl, h3, by rw [← h4.length]; exact hl, h.wroteL R h1 e h3 (h4.append ⟨b, [], rfl, rb, rfl⟩) rfl⟩
            · exact h.elim
          · exact h.elim
    | pop =>
      cases as with
      | cons _ _ => exact h.elim
      | nil =>
        cases rl
        simp only [methV] at h
        split at h
        · rename_i xs e
          split at h
          · rename_i y ey
            obtain ⟨ws, h3, h4⟩ := R.lstAt e h1
            obtain ⟨w, e1, e2⟩ := h4.get ey
            refine mt_pop pins s σ H _ _ v us Q I ra rs ⟨p, ws, w, rfl, rfl, h3, by rw [← h4.length]; exact e1, h.wroteL R h1 e h3 h4.dropLast ?_⟩
            exact e2.mono (ext_write h1 h3 rfl)
          · exact h.elim
        · exact h.elim
    | insert =>
      cases as with
      | nil => exact h.elim
      | cons y as =>
        cases as with
        | nil => cases y <;> exact h.elim
        | cons z as =>
          cases as with
          | cons _ _ => cases y <;> exact h.elim
          | nil =>
            obtain ⟨b, _, rfl, rb, c, _, rfl, rc, rfl⟩ := rl
            cases y with
            | int i =>
              cases rb
              simp only [methV] at h
              split at h
              · rename_i xs e
                split at h
                · rename_i hl
                  obtain ⟨ws, h3, h4⟩ := R.lstAt e h1
                  have hz := sizeLine_eq
                  refine mt_insert pins s σ H _ _ v us Q I ra rs ⟨p, ws, i, c, rfl, rfl, h3, by rw [← h4.length]; exact hl.2.2, hl.1, by omega, ?_⟩
                  rw [List.append_assoc]
                  exact h.wroteL R h1 e h3 ((h4.take _).append ⟨c, _, rfl, rc, h4.drop _⟩) rfl
                · exact h.elim
              · exact h.elim
            | _ => exact h.elim
    | extend =>
      cases as with
      | nil => exact h.elim
      | cons y as =>
        cases as with
        | cons _ _ => cases y <;> exact h.elim
        | nil =>
          obtain ⟨b, _, rfl, rb, rfl⟩ := rl
          cases y with
          | loc k =>
            obtain ⟨q, rfl, h2⟩ := rb
            simp only [methV] at h
            split at h
            · rename_i xs ys e e'
              split at h
              · rename_i hl
                obtain ⟨ws, h3, h4⟩ := R.lstAt e h1
                obtain ⟨zs, h5, h6⟩ := R.lstAt e' h2
                exact mt_extend pins s σ H _ _ v us Q I ra rs ⟨p, q, ws, zs, rfl, rfl, h3, h5, by rw [← h4.length, ← h6.length]; exact hl, h.wroteL R h1 e h3 (h4.append h6) rfl⟩
              · exact h.elim
            · exact h.elim
          | _ => exact h.elim
    | get =>
      cases as with
      | nil => exact h.elim
      | cons y as =>
        cases as with
        | nil => exact h.elim
        | cons z as =>
          cases as with
          | cons _ _ => exact h.elim
          | nil =>
            obtain ⟨b, _, rfl, rb, c, _, rfl, rc, rfl⟩ := rl
            obtain ⟨u1, u2, rfl, r1, r2⟩ := rs.two
            simp only [methV] at h
            split at h
            · rename_i t kvs e
              split at h
              · rename_i hk
                have ho := R.obj n p _ h1 e
                cases ra
                cases t with
                | false =>
                  obtain ⟨kws, h3, h4⟩ := ho
                  obtain ⟨k, ek⟩ := keyOf_flat hk
                  have ey := keyOf_rep ek rb
                  subst ey
                  refine d_get2 (by omega) I (DGet.k h3) r1 r2 fun w' s' I' r' => ⟨_, H, I', r', h.here R ?_⟩
                  rcases dlook_rel (kf := keyOf) (fun _ _ _ _ => keyEq_of) ek h4 with ⟨e1, e2⟩ | ⟨v1, w1, e1, e2, e3⟩
                  · rw [e1, e2]; exact rc
                  · rw [e1, e2]; exact e3
                | true =>
                  obtain ⟨kws, h3, h4⟩ := ho
                  cases y with
                  | tup ys =>
                    obtain ⟨ks, ek⟩ := keysOf_flat hk
                    obtain ⟨d, vs, rfl, h5, h6⟩ := rb
                    have ev := keysOf_rep ek h6
                    subst ev
                    cases r1
                    refine dt_get (by omega) I h3 h5 r2 fun w' s' I' r' => ⟨_, H, I', r', h.here R ?_⟩
                    rcases dlook_rel (kf := keyT) (fun _ _ _ _ => keyT_of) (i := .tup ys) ek h4 with ⟨e1, e2⟩ | ⟨v1, w1, e1, e2, e3⟩
                    · rw [e1, e2]; exact rc
                    · rw [e1, e2]; exact e3
                  | _ => cases hk
              · exact h.elim
            · exact h.elim
  | _ => cases m <;> exact h.elim

def RU : List Addr → Hp → Unit → Unit → Prop := fun _ _ _ _ => True
def rSet (K : PySem.W.Frag) : TSet := fun a b c H Q => ∃ ρ s x y z, RelS K ρ s H ∧ Rep K ρ H x a ∧ Rep K ρ H y b ∧ Rep K ρ H z c ∧ Pst K RU ρ H (setV x y z s) (fun _ H' => Q H')
theorem set_all (hu : X.A.units + 200 < cLine) : PSet X (rSet X.K) := by
  intro pins s σ H a b c ov iv u Q I ra rb rc hh
  obtain ⟨ρ, st, x, y, z, R, rx, ry, rz, h⟩ := hh
  cases x with
  | loc n =>
    obtain ⟨p, rfl, h1⟩ := rx
    simp only [setV] at h
    cases q : st[n]? with
    | none => rw [q] at h; exact h.elim
    | some o =>
      rw [q] at h
      have ho := R.obj n p o h1 q
      cases o with
      | lst xs =>
        obtain ⟨ws, h3, h4⟩ := ho
        cases y with
        | int k =>
          cases ry
          simp only at h
          split at h
          · rename_i j e
            exact set_list pins s σ H _ _ c ov iv u Q I ra rb rc ⟨p, ws, k, j, rfl, rfl, h3, by rw [← h4.length]; exact e, h.wroteL (w := ()) R h1 q h3 (h4.set rz j) trivial⟩
          · exact h.elim
        | _ => exact h.elim
      | dct t kvs =>
        cases t with
        | true => exact h.elim
        | false =>
          simp only at h
          split at h
          · rename_i hk
            obtain ⟨kws, h3, h4⟩ := ho
            obtain ⟨k, ek⟩ := keyOf_flat hk.1
            have ey := keyOf_rep ek ry
            subst ey
            cases ra
            have hz := sizeLine_eq
            have hl := Paired.length h4
            refine d_setItem (by omega) I (DPut.k (k := k) (v := c) h3 (by omega)) rb rc fun s' I' => ⟨_, I', ?_⟩
            have e := ext_write (u := .dK (putK kws k c)) h1 h3 rfl
            refine h ρ _ () e (R.write h1 q h3 rfl ⟨putK kws k c, upd_same, Paired.mapP (dput_rel (fun _ _ _ _ => keyEq_of) ek rz h4) fun a b r => ⟨r.1, r.2.mono e⟩⟩) trivial
          · exact h.elim
      | ins _ _ => exact ho.elim
  | _ => exact h.elim
def rSetK (K : PySem.W.Frag) : TSet := fun a b c H Q => ∃ ρ s x ys z, RelS K ρ s H ∧ Rep K ρ H x a ∧ (∃ d ws, b = .ref d ∧ H d = some (.tup ws) ∧ RepL K ρ H ys ws) ∧ Rep K ρ H z c ∧ Pst K RU ρ H (setKV x ys z s) (fun _ H' => Q H')
theorem set_key (hu : X.A.units + 200 < cLine) : PSet X (rSetK X.K) := by
  intro pins s σ H a b c ov iv u Q I ra rb rc hh
  obtain ⟨ρ, st, x, ys, z, R, rx, ⟨d, ws, rfl, hd, ry⟩, rz, h⟩ := hh
  cases x with
  | loc n =>
    obtain ⟨p, rfl, h1⟩ := rx
    simp only [setKV] at h
    split at h
    · rename_i kvs q
      split at h
      · rename_i hk
        obtain ⟨kws, h3, h4⟩ := R.obj n p _ h1 q
        obtain ⟨ks, ek⟩ := keysOf_flat hk.1
        have ey := keysOf_rep ek ry
        subst ey
        cases ra
        have hz := sizeLine_eq
        have hl := Paired.length h4
        refine d_setItem (by omega) I (DPut.t (k := ks) (v := c) h3 hd (by omega)) rb rc fun s' I' => ⟨_, I', ?_⟩
        have e := ext_write (u := .dT (putK kws ks c)) h1 h3 rfl
        refine h ρ _ () e (R.write h1 q h3 rfl ⟨putK kws ks c, upd_same, Paired.mapP (dput_rel (kf := keyT) (fun _ _ _ _ => keyT_of) (i := .tup ys) ek rz h4) fun a b r => ⟨r.1, r.2.mono e⟩⟩) trivial
      · exact h.elim
    · exact h.elim
  | _ => exact h.elim

/-! ### isinstance -/
theorem typeName_ok {K : PySem.W.Frag} {ρ : List Addr} {H : Hp} {st : Sto} {v : Val} {a : V} {t : String} (R : RelS K ρ st H) (r : Rep K ρ H v a) (e : typeName st v = some t) : TyX K H a (.type t) ∨ ∃ p, a = .ref p ∧ ∃ vs, (SqT K H p vs ∧ t = "tuple") ∨ (SqL K H p vs ∧ t = "list") := by
  cases v with
  | non => cases e; cases r; exact .inl (.base .non)
  | bl b => cases e; cases r; exact .inl (.base (.bl b))
  | int i => cases e; cases r; exact .inl (.base (.int i))
  | str x => cases e; cases r; exact .inl (.base (.str x))
  | tup xs => cases e; obtain ⟨p, vs, rfl, h1, _⟩ := r; exact .inr ⟨p, rfl, vs, .inl ⟨h1, rfl⟩⟩
  | loc n =>
    obtain ⟨p, rfl, h1⟩ := r
    simp only [typeName] at e
    cases q : st[n]? with
    | none => rw [q] at e; cases e
    | some o =>
      rw [q] at e
      have ho := R.obj n p o h1 q
      cases o with
      | lst xs => cases e; obtain ⟨vs, h3, _⟩ := ho; exact .inr ⟨p, rfl, vs, .inr ⟨SqL.of h3, rfl⟩⟩
      | dct t kvs =>
        cases e
        cases t with
        | false => obtain ⟨kws, h3, _⟩ := ho; exact .inl (.base (.dK h3))
        | true => obtain ⟨kws, h3, _⟩ := ho; exact .inl (.base (.dT h3))
      | ins _ _ => exact ho.elim
  | rol xs => cases e; obtain ⟨p, vs, rfl, h1, _⟩ := r; exact .inr ⟨p, rfl, vs, .inr ⟨h1.sq, rfl⟩⟩
  | exc _ _ => cases e
theorem tyX_of {K : PySem.W.Frag} {ρ : List Addr} {H : Hp} {st : Sto} {v : Val} {a : V} {t : String} (R : RelS K ρ st H) (r : Rep K ρ H v a) (e : typeName st v = some t) : TyX K H a (.type t) := by
  rcases typeName_ok R r e with h | ⟨p, rfl, vs, ⟨h, rfl⟩ | ⟨h, rfl⟩⟩
  · exact h
  · rcases h with (h | ⟨o, h⟩) | ⟨o, its, n, h1, h2, _⟩
    · exact .base (.tup h)
    · exact .fTuple h
    · exact .kTuple h1 h2
  · rcases h with (h | ⟨o, h⟩) | ⟨o, its, n, h1, h2, _⟩
    · exact .base (.lst h)
    · exact .base (.frz h)
    · exact .kList h1 h2
def typeNames : List String := ["NoneType", "bool", "int", "str", "tuple", "list", "dict"]
theorem typeName_in {st : Sto} {v : Val} {t : String} (e : typeName st v = some t) : t ∈ typeNames := by
  cases v with
  | loc n =>
    simp only [typeName] at e
    split at e <;> cases e <;> decide
  | exc _ _ => cases e
  | _ => cases e; decide
def askNames : List String := ["int", "bool", "str", "tuple", "list"]
theorem isaB_kit : (typeNames.all fun t => askNames.all fun u => decide (kitB t u = some (isaB t u))) = true := by decide +kernel
theorem isaB_ok {K : PySem.W.Frag} {t u : String} (ht : t ∈ typeNames) (hu : u ∈ askNames) : PySem.W.kitOne K (.type t) (.type u) = some (isaB t u) := by
  have h := List.all_eq_true.mp (List.all_eq_true.mp isaB_kit t ht) u hu
  exact kit_ty (of_decide_eq_true h)
/-- isinstance(x, T) -/
theorem call_isinst {u : String} (hu : u ∈ askNames) : CallR X (.builtin "isinstance") (fun vs H Q => ∃ ρ s v a, vs = [a, .ty u] ∧ RelS X.K ρ s H ∧ Rep X.K ρ H v a ∧ Pst X.K (Rep X.K) ρ H (primV (.isinst [u]) [v] s) Q) := by
  intro pins s σ H vs us Q I r hh
  obtain ⟨ρ, st, v, a, rfl, R, rv, h⟩ := hh
  simp only [primV] at h
  split at h
  · rename_i t e
    refine call_isi pins s σ H _ _ Q I r ⟨a, .ty u, .type t, .type u, isaB t u, rfl, .ty u, tyX_of R rv e, isaB_ok (typeName_in e) hu, ?_⟩
    have := h.here (w := V.bl ([u].any (isaB t))) R rfl
    simpa using this
  · exact h.elim
end
end Bk
set_option maxHeartbeats 4000000
/-! RunC8: what a loop walks. -/
namespace Bk
open PySem PySem.Spec PyProof.Rows L2

/-- what an iterator gives: the items xs, while gd stands -/
structure WalkV (K : PySem.W.Frag) (ρ1 : List Addr) (H1 : Hp) (xs : List Val) (gd : Gd) (J : L2.It) : Prop where
  goes : ∀ (i : Nat) (ρ : List Addr) (H : Hp) (s : Sto), i < xs.length → Ext ρ1 H1 ρ H → RelS K ρ s H → gd.holds s → J.go i H
  stops : ∀ (ρ : List Addr) (H : Hp) (s : Sto), Ext ρ1 H1 ρ H → RelS K ρ s H → gd.holds s → J.stop xs.length H
  yields : ∀ (i : Nat) (ρ : List Addr) (H : Hp) (s : Sto) (x : V) (H' : Hp), i < xs.length → Ext ρ1 H1 ρ H → RelS K ρ s H → gd.holds s → J.yld i H x H' → ∃ v, xs[i]? = some v ∧ Ext ρ H ρ H' ∧ RelS K ρ s H' ∧ Rep K ρ H' v x
/-- the relation of an iterator with what is read -/
def RI (K : PySem.W.Frag) : List Addr → Hp → List Val × Gd → L2.It → Prop := fun ρ H p J => WalkV K ρ H p.1 p.2 J

section
variable {K : PySem.W.Frag} {ρ : List Addr} {H : Hp} {s : Sto} {a : Addr} {xs : List Val}
theorem lstNow {n : Nat} {ρ' : List Addr} {H' : Hp} {s' : Sto} (h : ρ[n]? = some a) (e : Ext ρ H ρ' H') (R : RelS K ρ' s' H') (g : listAt s' n = some xs) : ∃ vs, SqL K H' a vs ∧ RepL K ρ' H' xs vs := R.list g (e.at' h)
/-- a value that is a sequence -/
theorem seqG_ok (R : RelS K ρ s H) {v : Val} {w : V} {gd : Gd} (r : Rep K ρ H v w) (e : seqG s v = some (xs, gd)) : ∃ a, w = .ref a ∧ gd.holds s ∧
    ((gd = .none ∧ ∃ vs, SqT K H a vs ∧ RepL K ρ H xs vs) ∨ (gd = .ro ∧ ∃ vs, Rol K H a vs ∧ RepL K ρ H xs vs) ∨ ∃ n vs, gd = .lst n xs ∧ ρ[n]? = some a ∧ SqL K H a vs) := by
  cases v with
  | tup ys =>
    obtain ⟨a, vs, rfl, h1, h2⟩ := r
    cases e
    exact ⟨a, rfl, trivial, .inl ⟨rfl, vs, h1, h2⟩⟩
  | loc n =>
    obtain ⟨a, rfl, h1⟩ := r
    simp only [seqG] at e
    split at e
    · rename_i ys q
      cases e
      obtain ⟨vs, h2, _⟩ := R.list q h1
      exact ⟨a, rfl, q, .inr (.inr ⟨n, vs, rfl, h1, h2⟩)⟩
    · cases e
  | rol ys =>
    obtain ⟨a, vs, rfl, h1, h2⟩ := r
    cases e
    exact ⟨a, rfl, trivial, .inr (.inl ⟨rfl, vs, h1, h2⟩)⟩
  | _ => cases e
/-- a list that stays -/
structure LstSt (K : PySem.W.Frag) (ρ : List Addr) (H : Hp) (a : Addr) (xs : List Val) (gd : Gd) : Prop where
  now : ∀ (ρ' : List Addr) (H' : Hp) (s' : Sto), Ext ρ H ρ' H' → RelS K ρ' s' H' → gd.holds s' → ∃ vs, SqL K H' a vs ∧ RepL K ρ' H' xs vs
theorem lstSt_loc {n : Nat} (h : ρ[n]? = some a) : LstSt K ρ H a xs (.lst n xs) := ⟨fun _ _ _ e R g => lstNow h e R g⟩
theorem lstSt_rol {vs : List V} (h : Rol K H a vs) (r : RepL K ρ H xs vs) : LstSt K ρ H a xs .ro := ⟨fun _ _ _ e _ _ => ⟨vs, (e.rol h).sq, r.mono e⟩⟩
theorem walkV_list {gd : Gd} (h : LstSt K ρ H a xs gd) : WalkV K ρ H xs gd (Itl K a) where
  goes := fun i ρ' H' s' hi e R g => by
    obtain ⟨vs, q, r⟩ := h.now _ _ _ e R g
    obtain ⟨w, e1, _⟩ := r.get (List.getElem?_eq_getElem hi)
    exact ⟨vs, w, q, e1⟩
  stops := fun ρ' H' s' e R g => by
    obtain ⟨vs, q, r⟩ := h.now _ _ _ e R g
    exact ⟨vs, q, by rw [← r.length]; exact Nat.le_refl _⟩
  yields := fun i ρ' H' s' x H2 hi e R g y => by
    obtain ⟨vs, q, r⟩ := h.now _ _ _ e R g
    obtain ⟨w, e1, e2⟩ := r.get (List.getElem?_eq_getElem hi)
    obtain ⟨rfl, y⟩ := y
    have := y vs q
    rw [e1] at this; cases this
    exact ⟨_, List.getElem?_eq_getElem hi, .refl _ _, R, e2⟩
theorem walkV_tup {vs : List V} (h : SqT K H a vs) (r : RepL K ρ H xs vs) : WalkV K ρ H xs .none (Itt K a) where
  goes := fun i ρ' H' s' hi e R g => by
    obtain ⟨w, e1, _⟩ := r.get (List.getElem?_eq_getElem hi)
    exact ⟨vs, w, e.sqT h, e1⟩
  stops := fun ρ' H' s' e R g => ⟨vs, e.sqT h, by rw [← r.length]; exact Nat.le_refl _⟩
  yields := fun i ρ' H' s' x H2 hi e R g y => by
    obtain ⟨w, e1, e2⟩ := (r.mono e).get (List.getElem?_eq_getElem hi)
    obtain ⟨rfl, y⟩ := y
    have := y vs (e.sqT h)
    rw [e1] at this; cases this
    exact ⟨_, List.getElem?_eq_getElem hi, .refl _ _, R, e2⟩
theorem walkV_rng {lo : Int} {n : Nat} : WalkV K ρ H (rangeV lo n) .none (Itr lo n) where
  goes := fun i ρ' H' s' hi e R g => by
    simp only [rangeV, List.length_map, List.length_range] at hi
    exact hi
  stops := fun ρ' H' s' e R g => by
    simp only [rangeV, List.length_map, List.length_range]
    exact Nat.le_refl _
  yields := fun i ρ' H' s' x H2 hi e R g y => by
    simp only [rangeV, List.length_map, List.length_range] at hi
    obtain ⟨rfl, rfl⟩ := y
    exact ⟨.int (lo + i), by simp [rangeV, hi], .refl _ _, R, rfl⟩
theorem walkV_rngC {lo c : Int} {n : Nat} : WalkV K ρ H (rangeC lo c n) .none (Itc lo c n) where
  goes := fun i ρ' H' s' hi e R g => by
    simp only [rangeC, List.length_map, List.length_range] at hi
    exact hi
  stops := fun ρ' H' s' e R g => by
    simp only [rangeC, List.length_map, List.length_range]
    exact Nat.le_refl _
  yields := fun i ρ' H' s' x H2 hi e R g y => by
    simp only [rangeC, List.length_map, List.length_range] at hi
    obtain ⟨rfl, rfl⟩ := y
    exact ⟨.int (lo + (i : Nat) * c), by simp [rangeC, hi], .refl _ _, R, rfl⟩
theorem enumV_len : (enumV xs).length = xs.length := by simp [enumV]
theorem enumV_get {i : Nat} {v : Val} (e : xs[i]? = some v) : (enumV xs)[i]? = some (.tup [.int (i : Nat), v]) := by
  have hi := (List.getElem?_eq_some_iff.mp e).1
  rw [enumV, List.getElem?_zipWith, e, List.getElem?_range hi]
/-- a new pair -/
theorem pairUp {ρ' : List Addr} {H' : Hp} {s' : Sto} {T : Addr} {x y : V} {u v : Val} (R : RelS K ρ' s' H') (hT : H' T = none) (rx : Rep K ρ' H' u x) (ry : Rep K ρ' H' v y) : Ext ρ' H' ρ' (upd H' T (.tup [x, y])) ∧ RelS K ρ' s' (upd H' T (.tup [x, y])) ∧ Rep K ρ' (upd H' T (.tup [x, y])) (.tup [u, v]) (.ref T) :=
  ⟨ext_new hT, R.new hT, T, _, rfl, SqT.of upd_same, x, _, rfl, rx.mono (ext_new hT), y, _, rfl, ry.mono (ext_new hT), rfl⟩
theorem walkV_enumL {gd : Gd} (h : LstSt K ρ H a xs gd) : WalkV K ρ H (enumV xs) gd (Ite K a) where
  goes := fun i ρ' H' s' hi e R g => by
    rw [enumV_len] at hi
    obtain ⟨vs, q, r⟩ := h.now _ _ _ e R g
    obtain ⟨w, e1, _⟩ := r.get (List.getElem?_eq_getElem hi)
    exact ⟨vs, w, q, e1⟩
  stops := fun ρ' H' s' e R g => by
    obtain ⟨vs, q, r⟩ := h.now _ _ _ e R g
    exact ⟨vs, q, by rw [enumV_len, ← r.length]; exact Nat.le_refl _⟩
  yields := fun i ρ' H' s' x H2 hi e R g y => by
    rw [enumV_len] at hi
    obtain ⟨vs, q, r⟩ := h.now _ _ _ e R g
    obtain ⟨w, e1, e2⟩ := r.get (List.getElem?_eq_getElem hi)
    obtain ⟨T, w', rfl, hT, rfl, y⟩ := y
    have := y vs q
    rw [e1] at this; cases this
    exact ⟨_, enumV_get (List.getElem?_eq_getElem hi), pairUp R hT rfl e2⟩
end

/-! ### a list or a tuple -/
section
variable {X : Cx} {tg : Expr}
def iSeq (K : PySem.W.Frag) (tl : TE) : TI := fun σ H R => tl σ H fun x H1 => ∃ a, x = .ref a ∧ ((∃ xs, SqL K H1 a xs ∧ R (Itl K a) H1) ∨ (∃ xs, SqT K H1 a xs ∧ R (Itt K a) H1))
theorem pi_seq {l : Expr} {tl : TE} (hl : PE X l tl) : PI X tg l (iSeq X.K tl) := by
  refine ⟨fun pins s σ H R I h => ?_⟩
  refine thn (hl.run pins s σ H _ I h) fun v s1 ⟨x, H1, I1, r1, q1⟩ => ?_
  obtain ⟨a, e, ⟨xs, hq, q⟩ | ⟨xs, hq, q⟩⟩ := q1
  · subst e
    cases r1
    obtain ⟨its, rv, p, hz⟩ := I1.list hq
    refine wpAny_pyIter_list p.isList ?_
    refine ⟨s1.heap.objs.size, [s1.heap.objs.size], _, _, H1, rfl, I1.kept (t' := s1.toks) fun b o e => Heap.get?_push_of_some _ e, turn_list a _, ⟨_, Heap.get?_push_size _ rfl, rfl, rfl⟩, fun b hb => ?_, q⟩
    have e : b = s1.heap.objs.size := by simpa using hb
    subst e
    exact I1.fpOk (Nat.le_refl _) (I1.hok.fresh (Nat.le_refl _))
  · subst e
    cases r1
    obtain ⟨its, rv, p, hz⟩ := I1.tuple hq
    refine wpAny_pyIter_tuple (show s1.heap.IsTuple a its.toArray from p) ?_
    refine ⟨s1.heap.objs.size, [s1.heap.objs.size], _, _, H1, rfl, I1.kept (t' := s1.toks) fun b o e => Heap.get?_push_of_some _ e, turn_tuple a _, ⟨_, Heap.get?_push_size _ rfl, rfl, rfl⟩, fun b hb => ?_, q⟩
    have e : b = s1.heap.objs.size := by simpa using hb
    subst e
    exact I1.fpOk (Nat.le_refl _) (I1.hok.fresh (Nat.le_refl _))
end

/-! ### enumerate of a tuple -/
/-- the tuple at a, each item in a new pair -/
def IteT (K : PySem.W.Frag) (a : Addr) : L2.It :=
  ⟨fun i H => ∃ (xs : List V) (x : V), SqT K H a xs ∧ xs[i]? = some x, fun i H v H' => ∃ T x, v = .ref T ∧ H T = none ∧ H' = upd H T (.tup [.int (i : Nat), x]) ∧ ∀ xs, SqT K H a xs → xs[i]? = some x, fun i H => ∃ xs : List V, SqT K H a xs ∧ xs.length = i⟩
set_option maxHeartbeats 1000000 in
theorem meets_enumT {v : Value} {o : Obj} {H : Heap → Prop} (B : Begins v o H) :
    Meets (Builtin.«enumerate.__new__» ⟨[.type "enumerate", v], []⟩) (fun _ R s => H s.heap ∧
      R (.ok (.ret (.ref (s.heap.push o).objs.size))) { s with heap := (s.heap.push o).push { cls := .type "enumerate", data := .fields #[.none, .bool false, .ref s.heap.objs.size, rawInt 0, .none, .none] } }) :=
  .of_wp fun prog w A R s h => by
    obtain ⟨hp, g, d, tk, os⟩ := s; obtain ⟨h1, h⟩ := h
    have hsub := sub_enumerate
    have q1 : ∀ {A' : Around} {E : Value → Shared → Prop} {Q : Value → Shared → Prop}, Q (.ref hp.objs.size) ⟨hp.push o, g, d, tk, os⟩ → wpAny (model prog w) A' (pyIter v) Q E ⟨hp, g, d, tk, os⟩ :=
      fun q => B.iter prog w _ _ ⟨hp, g, d, tk, os⟩ _ h1 q
    wp_walk using q1
    refine wpAny_stack_any fun st => wpAny_pure ?_
    split
    · rename_i c _ _ _ _ _
      cases (c == Value.type "enumerate")
      · wp_walk using q1
        exact ⟨_, rfl, h⟩
      · wp_walk using q1
        exact ⟨_, rfl, h⟩
    · wp_walk using q1
      exact ⟨_, rfl, h⟩
theorem call_enumT {prog : Program} {w : World} {A : Around} {E : Value → Shared → Prop} {s : Shared} {t : Addr} {items : Array Value} {Q : Value → Shared → Prop} (hT : s.heap.IsTuple t items)
    (h : ∀ h', IsEnum h' (s.heap.objs.size + 1) s.heap.objs.size 0 .none → h'.IsTupleIter s.heap.objs.size t 0 →
      (∀ b o, s.heap.get? b = some o → h'.get? b = some o) → Q (.ref (s.heap.objs.size + 1)) { s with heap := h' }) :
    wpAny (model prog w) A (call (.type "enumerate") [.ref t]) Q E s := by
  refine callType_new F.called_enumerate (by decide) (F.typeCall_enumerate_1 _) (F.newCall_enumerate_1 _) (fun obj => F.args_object_init_2 obj _) F.entry_enumerate_new
    (meets_enumT (begins_tuple t items)) ⟨hT, ?_⟩
  have hz : (s.heap.push { cls := .type "tuple_iterator", data := .fields #[.ref t, .int 0 0] }).objs.size = s.heap.objs.size + 1 := Heap.size_push ..
  show _ ∧ _
  rw [hz]
  have he : IsEnum ((s.heap.push { cls := .type "tuple_iterator", data := .fields #[.ref t, .int 0 0] }).push
      { cls := .type "enumerate", data := .fields #[.none, .bool false, .ref s.heap.objs.size, rawInt 0, .none, .none] }) (s.heap.objs.size + 1) s.heap.objs.size 0 .none := by
    have := Heap.get?_push_size (s.heap.push { cls := .type "tuple_iterator", data := .fields #[.ref t, .int 0 0] })
      (o := { cls := .type "enumerate", data := .fields #[.none, .bool false, .ref s.heap.objs.size, rawInt 0, .none, .none] }) rfl
    rw [hz] at this; exact this
  exact ⟨⟨_, he, rfl⟩, h _ he ⟨_, Heap.get?_push_of_some _ (Heap.get?_push_size _ rfl), rfl, rfl⟩ fun b o x => Heap.get?_push_of_some _ (Heap.get?_push_of_some _ x)⟩
theorem turn_enumT {P : Program} {w : World} {K : PySem.W.Frag} {elts : List Expr} {kk : Nat} {tpos : Pos} (a e it : Addr) :
    Turn P w K (.Tuple elts kk tpos) (IteT K a) [e, it] e (fun i h => (∃ old, IsEnum h e it ((i : Nat) : Int) old) ∧ h.IsTupleIter it a i ∧ e ≠ it ∧ a ≠ e ∧ a ≠ it) where
  mem := by simp
  obj := fun i h st b hb => by
    obtain ⟨⟨old, he⟩, ⟨o, ho, hc, hd⟩, _⟩ := st
    have e' : b = e ∨ b = it := by simpa using hb
    rcases e' with z | z
    · rw [z]; exact ⟨_, he, fun v q => nomatch q⟩
    · rw [z]; exact ⟨o, ho, fun v q => by rw [hd] at q; cases q⟩
  keep := fun i h h' st k => let ⟨⟨old, he⟩, hi, hne⟩ := st; ⟨⟨old, k e (by simp) _ he⟩, hi.at fun o q => k it (by simp) o q, hne⟩
  item := by
    intro X hP hw hK hc i pins s σ H E I hf st hg
    subst hP hw hK
    obtain ⟨⟨old, he⟩, hit, hne, hae, hai⟩ := st
    obtain ⟨xs, x, hq, hx⟩ := hg
    obtain ⟨its, rv, p, hz⟩ := I.tuple hq
    obtain ⟨u, hu, ru⟩ := rv.get hx
    have hel : e < s.heap.objs.size := Heap.lt_size he
    have hil : it < s.heap.objs.size := by obtain ⟨_, q, _⟩ := hit; exact Heap.lt_size q
    have hlt : i < its.toArray.size := by
      have h1 := rv.length
      have h2 := (List.getElem?_eq_some_iff.mp hx).1
      rw [List.size_toArray]; omega
    refine wpAny_pyNext_enum_itemD (Draws.tuple (A := X.A.in1) (I.ok.hd hc) it a hai its.toArray) he ⟨hit, p⟩ hlt hne (by simp; exact ⟨hne, fun q => hae q.symm⟩) fun y h' tk hy ho hst hT hsz hk => ?_
    have hyu : y = u := by
      have : its.toArray[i]? = some u := by simpa using hu
      rw [hy] at this; exact Option.some.inj this
    subst hyu
    refine ⟨_, rfl, wpAny_letOwnedTupleGo_enum (s := { s with heap := h', toks := tk + 1 }) ho fun h'' he' sb => ?_⟩
    have hT2 : h''.get? s.heap.objs.size = some { cls := .type "tuple", data := .seq #[.int i tk, y] } := (sb.2 _ (Nat.ne_of_gt hel)).trans hT
    have new : ObjOk X.prog X.w (upd H s.heap.objs.size (.tup [.int (i : Nat), x])) h'' s.heap.objs.size (.tup [.int (i : Nat), x]) :=
      ⟨by show 2 ≤ sizeLine; decide, [.int i tk, y], .cons ⟨_, rfl⟩ (.cons ru .nil), ⟨_, hT2, rfl, _, rfl⟩⟩
    have I1 : Inv X pins σ (upd H s.heap.objs.size (.tup [.int (i : Nat), x])) { s with heap := h'', toks := tk + 1 } :=
      I.turnedNew (ch := [e, it]) (fun b ob hb q => (sb.2 b (fun z => hb (by simp [z]))).trans (hk b ob (fun z => hb (by simp [z])) (fun z => hb (by simp [z])) q)) hf (Nat.le_refl _) new
    refine ⟨.ref s.heap.objs.size, _, I1, rfl, ⟨_, x, rfl, I.hok.fresh (Nat.le_refl _), rfl, fun ys hy => by rw [I.tuple_inj hy hq]; exact hx⟩, ⟨⟨y, ?_⟩, hst.1.at fun o q => (sb.2 it (Ne.symm hne)).trans q, hne, hae, hai⟩, fun b hb => ?_⟩
    · have e1 : ((i + 1 : Nat) : Int) = (i : Int) + 1 := by omega
      rw [e1]; exact he'
    · have hb' : b < s.heap.objs.size := by
        have e' : b = e ∨ b = it := by simpa using hb
        rcases e' with z | z
        · rw [z]; exact hel
        · rw [z]; exact hil
      rw [upd_ne (Nat.ne_of_lt hb')]
      exact (hf b hb).1
  done := by
    intro X hP hw hK hc i pins s σ H E I hf st hg
    subst hP hw hK
    obtain ⟨⟨old, he⟩, hit, hne, hae, hai⟩ := st
    obtain ⟨xs, hq, hx⟩ := hg
    obtain ⟨its, rv, p, hz⟩ := I.tuple hq
    obtain ⟨f0, f1, f2, f3, f4, f5⟩ := hf it (by simp)
    have hl := rv.length
    have hsz : i = its.toArray.size := by rw [List.size_toArray]; omega
    subst hsz
    refine wpAny_pyNext_enum_endD (Draws.tuple (A := X.A.in1) (I.ok.hd hc) it a hai its.toArray) he ⟨hit, p⟩ fun h' eb => ⟨rfl, I.turned (t' := s.toks) (fun b o hb q => eb b o hb q) f0 f1 f3 f4 f5⟩
  self := fun A i s Q E st h => let ⟨⟨_, he⟩, _⟩ := st; wpAny_pyIter_enum he h
theorem walkV_enumT {K : PySem.W.Frag} {ρ : List Addr} {H : Hp} {a : Addr} {xs : List Val} {vs : List V} (h : SqT K H a vs) (r : RepL K ρ H xs vs) : WalkV K ρ H (enumV xs) .none (IteT K a) where
  goes := fun i ρ' H' s' hi e R g => by
    rw [enumV_len] at hi
    obtain ⟨w, e1, _⟩ := r.get (List.getElem?_eq_getElem hi)
    exact ⟨vs, w, e.sqT h, e1⟩
  stops := fun ρ' H' s' e R g => ⟨vs, e.sqT h, by rw [enumV_len, ← r.length]⟩
  yields := fun i ρ' H' s' x H2 hi e R g y => by
    rw [enumV_len] at hi
    obtain ⟨w, e1, e2⟩ := (r.mono e).get (List.getElem?_eq_getElem hi)
    obtain ⟨T, w', rfl, hT, rfl, y⟩ := y
    have := y vs (e.sqT h)
    rw [e1] at this; cases this
    exact ⟨_, enumV_get (List.getElem?_eq_getElem hi), pairUp R hT rfl e2⟩
def iEnumA (K : PySem.W.Frag) (ta : TA) : TI := fun σ H R => ta σ H fun vs H1 => ∃ a, vs = [.ref a] ∧ ((∃ xs, SqL K H1 a xs ∧ R (Ite K a) H1) ∨ (∃ xs, SqT K H1 a xs ∧ R (IteT K a) H1))
theorem pi_enumA {X : Cx} {e : Expr} {ta : TA} {p pos tpos : Pos} {elts : List Expr} {kk : Nat} (hg : Gl X "enumerate") (hm : X.mg "enumerate" = none) (ha : PA X [e] ta) (hs : starEach [e] X.env = [(false, eval e X.env)] := by rfl) :
    PI X (.Tuple elts kk tpos) (.Call (.Name "enumerate" p) [e] [] pos) (iEnumA X.K ta) := by
  refine ⟨fun pins s σ H R I h => ?_⟩
  refine Call_ (ld_blt I hg hm boot_enumerate (PyProof.Rows.callWith_type1 (thn (ha.run pos pins s σ H _ I h) fun us s1 ⟨vs, H1, I1, r1, q1⟩ => ?_) hs rfl))
  obtain ⟨a, ex, q1⟩ := q1
  subst ex
  cases r1 with
  | cons r rr =>
    cases rr
    cases r
    have fresh2 : ∀ b, b ∈ [s1.heap.objs.size + 1, s1.heap.objs.size] → FpOk X pins H1 b := fun b hb => by
      have e' : b = s1.heap.objs.size + 1 ∨ b = s1.heap.objs.size := by simpa using hb
      have hle : s1.heap.objs.size ≤ b := by
        rcases e' with z | z
        · rw [z]; exact Nat.le_add_right _ _
        · rw [z]; exact Nat.le_refl _
      exact I1.fpOk hle (I1.hok.fresh hle)
    rcases q1 with ⟨xs, hq, q⟩ | ⟨xs, hq, q⟩
    · obtain ⟨its, rv, p', hz⟩ := I1.list hq
      refine call_enumerate_list p'.isList fun h' he hit hsz hk => wpAny_pyIter_enum he ?_
      have I2 : Inv X pins σ H1 { s1 with heap := h' } := I1.kept (t' := s1.toks) hk
      exact ⟨s1.heap.objs.size + 1, [s1.heap.objs.size + 1, s1.heap.objs.size], _, _, H1, rfl, I2, turn_enum a (s1.heap.objs.size + 1) s1.heap.objs.size, ⟨⟨.none, he⟩, hit, Nat.succ_ne_self _⟩, fresh2, q⟩
    · obtain ⟨its, rv, p', hz⟩ := I1.tuple hq
      obtain ⟨o1, ho1, _⟩ := id p'
      have la := Heap.lt_size ho1
      refine call_enumT (show s1.heap.IsTuple a its.toArray from p') fun h' he hit hk => wpAny_pyIter_enum he ?_
      have I2 : Inv X pins σ H1 { s1 with heap := h' } := I1.kept (t' := s1.toks) hk
      exact ⟨s1.heap.objs.size + 1, [s1.heap.objs.size + 1, s1.heap.objs.size], _, _, H1, rfl, I2, turn_enumT a (s1.heap.objs.size + 1) s1.heap.objs.size, ⟨⟨.none, he⟩, hit, Nat.succ_ne_self _, Nat.ne_of_lt (Nat.lt_succ_of_lt la), Nat.ne_of_lt la⟩, fresh2, q⟩

/-! ### zip -/
theorem zipV_len {xs ys : List Val} : (zipV xs ys).length = min xs.length ys.length := by simp [zipV]
theorem zipV_get {xs ys : List Val} {i : Nat} {u v : Val} (e : xs[i]? = some u) (e' : ys[i]? = some v) : (zipV xs ys)[i]? = some (.tup [u, v]) := by
  rw [zipV, List.getElem?_zipWith, e, e']
theorem walkV_zipL {K : PySem.W.Frag} {ρ : List Addr} {H : Hp} {a b : Addr} {g1 g2 gd : Gd} {xs ys : List Val} (h : LstSt K ρ H a xs g1) (h' : LstSt K ρ H b ys g2) (hg : ∀ s, gd.holds s → g1.holds s ∧ g2.holds s) : WalkV K ρ H (zipV xs ys) gd (Itz K a b) where
  goes := fun i ρ' H' s' hi e R g => by
    rw [zipV_len] at hi
    obtain ⟨vs, q, r⟩ := h.now _ _ _ e R (hg _ g).1
    obtain ⟨ws, q', r'⟩ := h'.now _ _ _ e R (hg _ g).2
    obtain ⟨w, e1, _⟩ := r.get (List.getElem?_eq_getElem (by omega : i < xs.length))
    obtain ⟨w', e1', _⟩ := r'.get (List.getElem?_eq_getElem (by omega : i < ys.length))
    exact ⟨vs, ws, w, w', q, q', e1, e1'⟩
  stops := fun ρ' H' s' e R g => by
    obtain ⟨vs, q, r⟩ := h.now _ _ _ e R (hg _ g).1
    obtain ⟨ws, q', r'⟩ := h'.now _ _ _ e R (hg _ g).2
    exact ⟨vs, ws, q, q', by rw [zipV_len, ← r.length, ← r'.length]; omega⟩
  yields := fun i ρ' H' s' x H2 hi e R g y => by
    rw [zipV_len] at hi
    obtain ⟨vs, q, r⟩ := h.now _ _ _ e R (hg _ g).1
    obtain ⟨ws, q', r'⟩ := h'.now _ _ _ e R (hg _ g).2
    obtain ⟨w, e1, e2⟩ := r.get (List.getElem?_eq_getElem (by omega : i < xs.length))
    obtain ⟨w', e1', e2'⟩ := r'.get (List.getElem?_eq_getElem (by omega : i < ys.length))
    obtain ⟨T, y1, y2, rfl, hT, rfl, f1, f2⟩ := y
    have g1 := f1 vs q
    have g2 := f2 ws q'
    rw [e1] at g1; cases g1
    rw [e1'] at g2; cases g2
    exact ⟨_, zipV_get (List.getElem?_eq_getElem _) (List.getElem?_eq_getElem _), pairUp R hT e2 e2'⟩
theorem walkV_zipT {K : PySem.W.Frag} {ρ : List Addr} {H : Hp} {a b : Addr} {xs ys : List Val} {vs ws : List V} (h : SqT K H a vs) (r0 : RepL K ρ H xs vs) (h' : SqT K H b ws) (r0' : RepL K ρ H ys ws) : WalkV K ρ H (zipV xs ys) .none (RZ.ItzT K a b) where
  goes := fun i ρ' H' s' hi e R g => by
    rw [zipV_len] at hi
    obtain ⟨w, e1, _⟩ := r0.get (List.getElem?_eq_getElem (by omega : i < xs.length))
    obtain ⟨w', e1', _⟩ := r0'.get (List.getElem?_eq_getElem (by omega : i < ys.length))
    exact ⟨vs, ws, w, w', e.sqT h, e.sqT h', e1, e1'⟩
  stops := fun ρ' H' s' e R g => ⟨vs, ws, e.sqT h, e.sqT h', by rw [zipV_len, ← r0.length, ← r0'.length]; omega⟩
  yields := fun i ρ' H' s' x H2 hi e R g y => by
    rw [zipV_len] at hi
    obtain ⟨w, e1, e2⟩ := (r0.mono e).get (List.getElem?_eq_getElem (by omega : i < xs.length))
    obtain ⟨w', e1', e2'⟩ := (r0'.mono e).get (List.getElem?_eq_getElem (by omega : i < ys.length))
    obtain ⟨T, y1, y2, rfl, hT, rfl, f1, f2⟩ := y
    have g1 := f1 vs (e.sqT h)
    have g2 := f2 ws (e.sqT h')
    rw [e1] at g1; cases g1
    rw [e1'] at g2; cases g2
    exact ⟨_, zipV_get (List.getElem?_eq_getElem _) (List.getElem?_eq_getElem _), pairUp R hT e2 e2'⟩
end Bk
set_option maxHeartbeats 4000000
/-! RunC9: zip of a tuple with a list. -/
namespace Bk
open PySem PySem.Spec PyProof.Rows L2

/-- the tuple at a and the list at b, as they stand at each turn -/
def ItzM (K : PySem.W.Frag) (a b : Addr) : L2.It where
  go := fun i H => ∃ (us ws : List V) (u w : V), SqT K H a us ∧ SqL K H b ws ∧ us[i]? = some u ∧ ws[i]? = some w
  yld := fun i H v H' => ∃ T u w, v = .ref T ∧ H T = none ∧ H' = upd H T (.tup [u, w]) ∧ (∀ us, SqT K H a us → us[i]? = some u) ∧ ∀ ws, SqL K H b ws → ws[i]? = some w
  stop := fun i H => ∃ us ws : List V, SqT K H a us ∧ SqL K H b ws ∧ i ≤ us.length ∧ i ≤ ws.length ∧ (i = us.length ∨ i = ws.length)
/-- how it stands in the machine -/
def ZipM (a b z p q j k : Addr) (i : Nat) (h : Heap) : Prop :=
  IsZip h z p q .none ∧ IsTupOf2 h p (.ref j) (.ref k) ∧ (∃ u w, IsTupOf2 h q u w) ∧ h.IsTupleIter j a i ∧ h.IsListIter k b i
theorem zipM_has {a b z p q j k : Addr} {i : Nat} {h : Heap} (st : ZipM a b z p q j k i h) : ∀ c ∈ [z, p, q, j, k], ∃ o, h.get? c = some o ∧ ∀ v, o.data ≠ .cell v := by
  obtain ⟨hz, hp, ⟨u, w, hq⟩, ⟨o1, e1, _, d1⟩, o2, e2, _, d2⟩ := st
  intro c hc
  simp only [List.mem_cons, List.not_mem_nil, or_false] at hc
  rcases hc with rfl | rfl | rfl | rfl | rfl
  · exact ⟨_, hz, fun _ x => nomatch x⟩
  · exact ⟨_, hp, fun _ x => nomatch x⟩
  · exact ⟨_, hq, fun _ x => nomatch x⟩
  · exact ⟨o1, e1, fun _ x => by rw [d1] at x; cases x⟩
  · exact ⟨o2, e2, fun _ x => by rw [d2] at x; cases x⟩
theorem turn_zipM {P : Program} {w : World} {K : PySem.W.Frag} {elts : List Expr} {kk : Nat} {tpos : Pos} {a b z p q j k : Addr} (S : ZipSep2 z p q j k [j, a] [k, b]) (ja : a ≠ j) (kb : b ≠ k) :
    Turn P w K (.Tuple elts kk tpos) (ItzM K a b) [z, p, q, j, k] z (ZipM a b z p q j k) where
  mem := List.mem_cons_self
  obj := fun _ _ st => zipM_has st
  keep := fun i h h' ⟨hz, hp, ⟨u, v, hq⟩, h1, h2⟩ f =>
    ⟨f z (by simp) _ hz, f p (by simp) _ hp, ⟨u, v, f q (by simp) _ hq⟩, h1.at fun o x => f j (by simp) o x, h2.at fun o x => f k (by simp) o x⟩
  item := by
    intro X hP hw hK hc i pins s σ H E I hf st hg
    subst hP hw hK
    have has := zipM_has st
    obtain ⟨hz, hp, ⟨u0, w0, hq⟩, h1, h2⟩ := st
    obtain ⟨us, ws, u, v, qu, qw, eu, ew⟩ := hg
    obtain ⟨its, rv, t1, _⟩ := I.tuple qu
    obtain ⟨jts, rw', t2, _⟩ := I.list qw
    obtain ⟨x, hx, rx⟩ := rv.get eu
    obtain ⟨y, hy, ry⟩ := rw'.get ew
    have lt1 := (List.getElem?_eq_some_iff.mp hx).1
    have lt2 := (List.getElem?_eq_some_iff.mp hy).1
    have hh : X.A.in1.handled = none := I.ok.hd hc
    refine wpAny_pyNext_zipD2_item S (Draws.tuple hh j a ja its.toArray) (Draws.list hh k b kb jts.toArray) hz hp hq ⟨h1, t1⟩ ⟨h2, t2.isList⟩ (by simpa using lt1) (by simpa using lt2)
      fun x1 x2 h' tk p1 p2 z' q' st1 st2 hT hs keep => ?_
    have ex1 : x1 = x := by
      have : its.toArray[i]? = some x1 := p1
      rw [List.getElem?_toArray, hx] at this
      exact (Option.some.inj this).symm
    have ex2 : x2 = y := by
      have : jts.toArray[i]? = some x2 := p2
      rw [List.getElem?_toArray, hy] at this
      exact (Option.some.inj this).symm
    subst ex1 ex2
    have zl : z < s.heap.objs.size := Heap.lt_size hz
    refine ⟨_, rfl, wpAny_letOwnedTupleGo_zip z' fun h2' z2 same => ?_⟩
    have hT2 : IsTupOf2 h2' s.heap.objs.size x1 x2 := (same.2 _ (Nat.ne_of_gt zl)).trans hT
    have new : ObjOk X.prog X.w (upd H s.heap.objs.size (.tup [u, v])) h2' s.heap.objs.size (.tup [u, v]) :=
      ⟨by show 2 ≤ sizeLine; decide, [x1, x2], .cons rx (.cons ry .nil), _, hT2, rfl, _, rfl⟩
    have I2 : Inv X pins σ (upd H s.heap.objs.size (.tup [u, v])) { s with heap := h2', toks := tk } := by
      refine I.turnedNew (ch := [z, p, q, j, k]) (fun c o hb x => ?_) hf (Nat.le_refl _) new
      simp only [List.mem_cons, List.not_mem_nil, or_false, not_or] at hb
      exact (same.2 c hb.1).trans (keep c o hb.1 hb.2.2.1 hb.2.2.2.1 hb.2.2.2.2 x)
    refine ⟨.ref s.heap.objs.size, _, I2, rfl, ⟨_, u, v, rfl, I.hok.fresh (Nat.le_refl _), rfl, fun l hl => by rw [I.tuple_inj hl qu]; exact eu, fun l hl => by rw [I.list_inj hl qw]; exact ew⟩, ⟨z2, ?_, ⟨x1, x2, ?_⟩, ?_, ?_⟩, fun c hm => ?_⟩
    · exact (same.2 _ S.TIz).trans (keep p _ S.TIz S.TITO S.TIi1 S.TIi2 hp)
    · exact (same.2 _ S.TOz).trans q'
    · exact st1.1.at fun o x => (same.2 _ (Ne.symm S.zi1)).trans x
    · exact st2.1.at fun o x => (same.2 _ (Ne.symm S.zi2)).trans x
    · obtain ⟨o, eo, _⟩ := has c hm
      rw [upd_ne (Nat.ne_of_lt (Heap.lt_size eo))]
      exact (hf c hm).1
  done := by
    intro X hP hw hK hc i pins s σ H E I hf st hg
    subst hP hw hK
    obtain ⟨hz, hp, ⟨u0, w0, hq⟩, h1, h2⟩ := st
    obtain ⟨us, ws, qu, qw, le1, le2, hend⟩ := hg
    obtain ⟨its, rv, t1, _⟩ := I.tuple qu
    obtain ⟨jts, rw', t2, _⟩ := I.list qw
    have hh : X.A.in1.handled = none := I.ok.hd hc
    have n1 : us.length = its.toArray.size := by rw [rv.length]; simp
    have n2 : ws.length = jts.toArray.size := by rw [rw'.length]; simp
    rw [n1, n2] at hend
    rw [n1] at le1
    rw [n2] at le2
    refine wpAny_pyNext_zipD2_end S (Draws.tuple hh j a ja its.toArray) (Draws.list hh k b kb jts.toArray) hz hp hq ⟨h1, t1⟩ ⟨h2, t2.isList⟩ le1 le2 hend fun h' tk keep => ⟨rfl, ?_⟩
    refine I.turnedL (ch := [z, p, q, j, k]) (fun c o hb x => ?_) hf
    simp only [List.mem_cons, List.not_mem_nil, or_false, not_or] at hb
    exact keep c o hb.1 hb.2.2.1 hb.2.2.2.1 hb.2.2.2.2 x
  self := fun A i s Q E st h => wpAny_pyIter_zip st.1 h

/-- zip of two tuples, two lists, a tuple and a list -/
def iZip3 (K : PySem.W.Frag) (ta : TA) : TI := fun σ H R => ta σ H fun vs H1 => ∃ a b us ws, vs = [.ref a, .ref b] ∧
  ((SqL K H1 a us ∧ SqL K H1 b ws ∧ R (Itz K a b) H1) ∨ (SqT K H1 a us ∧ SqT K H1 b ws ∧ R (RZ.ItzT K a b) H1) ∨ (SqT K H1 a us ∧ SqL K H1 b ws ∧ R (ItzM K a b) H1))
theorem fresh_zip {X : Cx} {pins : List (Addr × Obj)} {σ : L2.St} {H : Hp} {s : Shared} {N : Nat} (I : Inv X pins σ H s) (hN : s.heap.objs.size = N) : ∀ c ∈ [N + 4, N + 2, N + 3, N, N + 1], FpOk X pins H c := fun c hm => by
  have hle : s.heap.objs.size ≤ c := by
    rw [hN]
    simp only [List.mem_cons, List.not_mem_nil, or_false] at hm
    rcases hm with rfl | rfl | rfl | rfl | rfl
    · exact Nat.le_add_right N 4
    · exact Nat.le_add_right N 2
    · exact Nat.le_add_right N 3
    · exact Nat.le_refl _
    · exact Nat.le_succ _
  exact I.fpOk hle (I.hok.fresh hle)
theorem pi_zip3 {X : Cx} {e e2 : Expr} {ta : TA} {p pos tpos : Pos} {elts : List Expr} {kk : Nat} (hg : Gl X "zip") (hm : X.mg "zip" = none) (ha : PA X [e, e2] ta)
    (hs : starEach [e, e2] X.env = (false, eval e X.env) :: starEach [e2] X.env) (hpl : (backTo pos (starEach [e2] X.env)).any (·.1) = false) : PI X (.Tuple elts kk tpos) (.Call (.Name "zip" p) [e, e2] [] pos) (iZip3 X.K ta) := by
  refine ⟨fun pins s σ H R I h => Call_ (ld_blt I hg hm PyProof.Rows.boot_zip (PyProof.Rows.callWith_type1 (thn (ha.run pos pins s σ H _ I h) fun vals s1 hx => ?_) hs hpl))⟩
  obtain ⟨vs, H1, I1, r1, a, b, us, ws, rfl, hq⟩ := hx
  obtain ⟨va, vb, rfl, ra, rb⟩ : ∃ va vb, vals = [va, vb] ∧ RelV (.ref a) va ∧ RelV (.ref b) vb := by
    cases r1 with
    | cons r r2 => cases r2 with
      | cons r' r3 => cases r3; exact ⟨_, _, rfl, r, r'⟩
  cases ra
  cases rb
  generalize hN : s1.heap.objs.size = N
  rcases hq with ⟨qu, qw, q⟩ | ⟨qu, qw, q⟩ | ⟨qu, qw, q⟩
  · obtain ⟨its, rv, t1, _⟩ := I1.list qu
    obtain ⟨jts, rw', t2, _⟩ := I1.list qw
    have la : a < N := hN ▸ t1.lt
    have lb : b < N := hN ▸ t2.lt
    refine zip_begins2 (begins_list a its.toArray) (begins_list b jts.toArray) t1.isList t2.isList fun h' hz hp hq g1 g2 hsz keep => wpAny_pyIter_zip hz ?_
    rw [hN] at hz hp hq g1 g2 ⊢
    exact ⟨N + 4, [N + 4, N + 2, N + 3, N, N + 1], _, _, H1, rfl, I1.kept (t' := s1.toks) keep, turn_zip (PySem.W.ktu_apart N a b la lb), ⟨hz, hp, ⟨_, _, hq⟩, ⟨_, g1, rfl, rfl⟩, ⟨_, g2, rfl, rfl⟩⟩, fresh_zip I1 hN, q⟩
  · obtain ⟨its, rv, t1, _⟩ := I1.tuple qu
    obtain ⟨jts, rw', t2, _⟩ := I1.tuple qw
    have la : a < N := by obtain ⟨o, ho, _⟩ := id t1; exact hN ▸ Heap.lt_size ho
    have lb : b < N := by obtain ⟨o, ho, _⟩ := id t2; exact hN ▸ Heap.lt_size ho
    refine zip_begins2 (begins_tuple a its.toArray) (begins_tuple b jts.toArray) t1 t2 fun h' hz hp hq g1 g2 hsz keep => wpAny_pyIter_zip hz ?_
    rw [hN] at hz hp hq g1 g2 ⊢
    exact ⟨N + 4, [N + 4, N + 2, N + 3, N, N + 1], _, _, H1, rfl, I1.kept (t' := s1.toks) keep, RZ.turn_zipT (PySem.W.ktu_apart N a b la lb), ⟨hz, hp, ⟨_, _, hq⟩, ⟨_, g1, rfl, rfl⟩, ⟨_, g2, rfl, rfl⟩⟩, fresh_zip I1 hN, q⟩
  · obtain ⟨its, rv, t1, _⟩ := I1.tuple qu
    obtain ⟨jts, rw', t2, _⟩ := I1.list qw
    have la : a < N := by obtain ⟨o, ho, _⟩ := id t1; exact hN ▸ Heap.lt_size ho
    have lb : b < N := hN ▸ t2.lt
    have S : ZipSep2 (N + 4) (N + 2) (N + 3) N (N + 1) [N, a] [N + 1, b] := zip_sep2 (fun c hc => by rw [List.mem_singleton.mp hc]; exact la) (fun c hc => by rw [List.mem_singleton.mp hc]; exact lb)
    refine zip_begins2 (begins_tuple a its.toArray) (begins_list b jts.toArray) t1 t2.isList fun h' hz hp hq g1 g2 hsz keep => wpAny_pyIter_zip hz ?_
    rw [hN] at hz hp hq g1 g2 ⊢
    exact ⟨N + 4, [N + 4, N + 2, N + 3, N, N + 1], _, _, H1, rfl, I1.kept (t' := s1.toks) keep, turn_zipM S (Nat.ne_of_lt la) (Nat.ne_of_lt (Nat.lt_succ_of_lt lb)), ⟨hz, hp, ⟨_, _, hq⟩, ⟨_, g1, rfl, rfl⟩, ⟨_, g2, rfl, rfl⟩⟩, fresh_zip I1 hN, q⟩
theorem walkV_zipM {K : PySem.W.Frag} {ρ : List Addr} {H : Hp} {a b : Addr} {gd : Gd} {xs ys : List Val} {us : List V} (h : SqT K H a us) (r0 : RepL K ρ H xs us) (h' : LstSt K ρ H b ys gd) : WalkV K ρ H (zipV xs ys) gd (ItzM K a b) where
  goes := fun i ρ' H' s' hi e R g => by
    rw [zipV_len] at hi
    obtain ⟨ws, q', r'⟩ := h'.now _ _ _ e R g
    obtain ⟨w, e1, _⟩ := r0.get (List.getElem?_eq_getElem (by omega : i < xs.length))
    obtain ⟨w', e1', _⟩ := r'.get (List.getElem?_eq_getElem (by omega : i < ys.length))
    exact ⟨us, ws, w, w', e.sqT h, q', e1, e1'⟩
  stops := fun ρ' H' s' e R g => by
    obtain ⟨ws, q', r'⟩ := h'.now _ _ _ e R g
    have l1 := r0.length
    have l2 := r'.length
    refine ⟨us, ws, e.sqT h, q', ?_⟩
    rw [zipV_len]
    omega
  yields := fun i ρ' H' s' x H2 hi e R g y => by
    rw [zipV_len] at hi
    obtain ⟨ws, q', r'⟩ := h'.now _ _ _ e R g
    obtain ⟨w, e1, e2⟩ := (r0.mono e).get (List.getElem?_eq_getElem (by omega : i < xs.length))
    obtain ⟨w', e1', e2'⟩ := r'.get (List.getElem?_eq_getElem (by omega : i < ys.length))
    obtain ⟨T, y1, y2, rfl, hT, rfl, f1, f2⟩ := y
    have g1 := f1 us (e.sqT h)
    have g2 := f2 ws q'
    rw [e1] at g1; cases g1
    rw [e1'] at g2; cases g2
    exact ⟨_, zipV_get (List.getElem?_eq_getElem _) (List.getElem?_eq_getElem _), pairUp R hT e2 e2'⟩
end Bk
set_option maxHeartbeats 4000000
/-! RunC10: sorted(set(xs)) of a list of whole numbers. -/
namespace Bk
open PySem PySem.Spec PyProof.Rows L2

/-- a set as it is made -/
def nuS (w : World) : Obj := { cls := .type "set", dict := none, data := .set #[] 0 (.fresh 0 0 (!w.params.followText "set-order")) }
theorem nuS_R {w : World} {h : Heap} {a : Addr} {ns : List Int} (e : h.get? a = some (nuS w)) : SetR w h a (fun j => decide (j ∈ ns.take 0)) 0 := setR_new_at e
section
variable {P : Program} {w : World} {A : Around} {E : Value → Shared → Prop} {s : Shared}
set_option maxHeartbeats 8000000 in
theorem set_of_list {q : Addr} {us : Array Value} (ns : List Int) {Q : Value → Shared → Prop} (ah : A.handled = none) (lq : s.heap.IsList q us) (ui : IntsAre us.toList ns) (room : ns.length + 1 < scanBound)
    (k : ∀ (h2 : Heap) (u c : Nat), SetR w h2 s.heap.objs.size (fun j => decide (j ∈ ns)) c → c ≤ ns.length → (∀ b o, s.heap.get? b = some o → h2.get? b = some o) → Q (.ref s.heap.objs.size) { s with heap := h2, toks := u }) :
    wpAny (model P w) A (call (.type "set") [.ref q]) Q E s := by
  have usz : us.size = ns.length := by rw [← Array.length_toList]; exact IntsAre.length ui
  obtain ⟨k1, k2, km⟩ := F.called_set.mro
  have f1 := F.called_set.made
  have f2 := F.called_set.sub
  refine wpAny_call (codeAny_of_tree (show wpAny _ _ (callAny (.type "set") _) _ _ _ from wpAny_pure ⟨Code.quiet_builtin _ (by decide +kernel), codeAny_builtin F.entry_type_call ?_⟩))
  rw [Around.under_plain (weight_type_call_type "set" [.ref q] []) rfl]
  have f3 := F.called_set.notType
  have f4 := F.called_set.canCreate
  have f5 := F.typeCall_set_1 (.ref q)
  repeat any_goals (first | assumption | wp_step)
  generalize hN : s.heap.objs.size = N at *
  have made : (s.heap.push (nuS w)).get? N = some (nuS w) := hN ▸ Heap.get?_push_size _ rfl
  refine codeAny_mono (code_set_led1 (.ref q) (E := E) (Q₁ := fun v t => v = .ref N ∧ t = { s with heap := s.heap.push (nuS w) }) ⟨by rw [hN], rfl⟩) fun r t hr => ?_
  cases r with
  | error e => exact hr
  | ok fl =>
    cases fl with
    | ret v =>
      obtain ⟨rfl, rfl⟩ := hr
      have ty : Shared.TypeIs { s with heap := s.heap.push (nuS w) } (.ref N) "set" := ⟨_, made, rfl⟩
      have g1 := F.called_set.init.lookup
      have g2 := F.called_set.init.bind (.ref N)
      repeat any_goals (first | assumption | wp_step)
      refine codeAny_mono (codeAny_call_builtin (R := wants (fun r t => r = .none ∧ ∃ h2 u c, t = { s with heap := h2, toks := u } ∧ SetR w h2 N (fun j => decide (j ∈ ns)) c ∧ c ≤ ns.length ∧ ∀ b o, s.heap.get? b = some o → h2.get? b = some o) E) F.called_set.init.plain F.entry_set_init (check_set_init_1 ty ?_)) fun r2 t2 hr2 => ?_
      · obtain ⟨⟨oc, od, oa, os⟩, e1, e2, nl, e3⟩ := lq
        simp only at e2 e3
        subst e2 e3
        have e4 : (s.heap.push (nuS w)).get? q = some { cls := .type "list", dict := od, data := .seq us nl, slots := os } := Heap.get?_push_of_some _ e1
        have g3 := F.sub_list_set
        have g4 := F.sub_list_frozenset
        have g5 : (Value.type "list" == Value.type "dict") = false := by decide
        have lq1 : (s.heap.push (nuS w)).IsList q us := ⟨_, e4, rfl, nl, rfl⟩
        have sz1 : (s.heap.push (nuS w)).objs.size = N + 1 := by rw [Heap.size_push, hN]
        have qN : q < N := hN ▸ Heap.lt_size e1
        unfold Builtin.«set.__init__» noKeywords Builtin.Frozenset.updateFrom
        generalize hI : pyIter = I0
        wp_walk
        subst hI
        refine wpAny_pyIter_list lq1 (wpAny_bind (wpAny_runValue ?_))
        have ah3 : A.in1.in1.in1.handled = none := by simp [ah]
        rw [sz1]
        have vals : ∀ (i : Nat) (v : Value), us[i]? = some v → ∃ k t, ns[i]? = some k ∧ v = .int k t := fun i v hv => by
          have hi : i < ns.length := usz ▸ (Array.getElem?_eq_some_iff.mp hv).1
          obtain ⟨t, e⟩ := PyProof.Rows.IntsAre.int_at ui i v (by rw [Array.getElem?_toList]; exact hv)
          exact ⟨ns[i], t, List.getElem?_eq_getElem hi, by rw [e, List.getD_eq_getElem?_getD, List.getElem?_eq_getElem hi] <;> rfl⟩
        have away : N ∉ [N + 1, q] := fun m => by
          rcases List.mem_cons.mp m with e | m
          · exact Nat.ne_of_lt (Nat.lt_succ_self N) e
          · exact Nat.ne_of_gt qN (List.mem_singleton.mp m)
        refine set_update_ints ((Walks.list ah3 (N + 1) q (Nat.ne_of_lt (Nat.lt_succ_of_lt qN)) us).toS) N away ns usz room vals (us.size - 0) 0 _ (by omega) (Nat.zero_le _) ⟨⟨_, sz1 ▸ Heap.get?_push_size _ rfl, rfl, rfl⟩, lq1.push _⟩ ⟨0, Nat.le_refl 0, nuS_R (Heap.get?_push_of_some _ made)⟩ fun t3 c hm hc hS => ?_
        obtain ⟨h2, a2, a3, u, a4⟩ := t3
        have b1 : a2 = s.gens := hm.gens
        have b2 : a3 = s.drawn := hm.drawn
        have b3 : a4 = s.os := hm.os
        subst b1 b2 b3
        refine wpAny_pure (show wpAny _ _ (ret Value.none) _ _ _ from wpAny_pure ⟨rfl, h2, u, c, rfl, hS, usz ▸ hc, fun b o e => ?_⟩)
        have lb : b < N := hN ▸ Heap.lt_size e
        exact hm.heap b o (fun m => by
          rcases List.mem_cons.mp m with e | m
          · exact Nat.ne_of_lt lb e
          · exact Nat.ne_of_lt (Nat.lt_succ_of_lt lb) (List.mem_singleton.mp m)) (Heap.get?_push_of_some _ (Heap.get?_push_of_some _ e))
      · cases r2 with
        | error e => exact hr2
        | ok fl2 =>
          cases fl2 with
          | ret r =>
            obtain ⟨rfl, h2, u, c, rfl, hS, hc, hk⟩ := hr2
            repeat any_goals (first | assumption | wp_step)
            exact k _ _ _ hS hc hk
          | _ => exact hr2.elim
    | _ => exact hr.elim
end
theorem insS_mem {k y : Int} : ∀ {l : List Int}, y ∈ insS k l ↔ y = k ∨ y ∈ l
  | [] => by simp [insS]
  | x :: r => by
    unfold insS
    split
    · simp
    · split
      · rename_i h; subst h; simp
      · simp [insS_mem (l := r)]
        constructor <;> (intro h; rcases h with h | h | h <;> simp [h])
theorem insS_pw {k : Int} : ∀ {l : List Int}, l.Pairwise (· < ·) → (insS k l).Pairwise (· < ·)
  | [], _ => by simp [insS]
  | x :: r, h => by
    obtain ⟨h1, h2⟩ := List.pairwise_cons.mp h
    unfold insS
    split
    · rename_i c
      refine List.pairwise_cons.mpr ⟨fun y hy => ?_, h⟩
      rcases List.mem_cons.mp hy with rfl | hy
      · exact c
      · exact Int.lt_trans c (h1 y hy)
    · split
      · exact h
      · refine List.pairwise_cons.mpr ⟨fun y hy => ?_, insS_pw h2⟩
        rcases insS_mem.mp hy with rfl | hy
        · omega
        · exact h1 y hy
theorem sortS_pw : ∀ (l : List Int), (sortS l).Pairwise (· < ·)
  | [] => List.Pairwise.nil
  | x :: r => insS_pw (sortS_pw r)
theorem sortS_mem {y : Int} : ∀ {l : List Int}, y ∈ sortS l ↔ y ∈ l
  | [] => by simp [sortS]
  | x :: r => by rw [sortS, insS_mem, sortS_mem (l := r)]; simp
theorem pw_one : ∀ {as bs : List Int}, as.Pairwise (· < ·) → bs.Pairwise (· < ·) → (∀ k, k ∈ as ↔ k ∈ bs) → as = bs
  | [], [], _, _, _ => rfl
  | [], b :: _, _, _, h => absurd ((h b).mpr List.mem_cons_self) (by simp)
  | a :: _, [], _, _, h => absurd ((h a).mp List.mem_cons_self) (by simp)
  | a :: as, b :: bs, h1, h2, h => by
    obtain ⟨a1, a2⟩ := List.pairwise_cons.mp h1
    obtain ⟨b1, b2⟩ := List.pairwise_cons.mp h2
    have e : a = b := by
      rcases List.mem_cons.mp ((h a).mp List.mem_cons_self) with e | e
      · exact e
      · rcases List.mem_cons.mp ((h b).mpr List.mem_cons_self) with e' | e'
        · exact e'.symm
        · have := a1 b e'
          have := b1 a e
          omega
    subst e
    rw [pw_one a2 b2 fun k => ⟨fun hk => ?_, fun hk => ?_⟩]
    · rcases List.mem_cons.mp ((h k).mp (List.mem_cons_of_mem _ hk)) with e | e
      · have := a1 k hk; omega
      · exact e
    · rcases List.mem_cons.mp ((h k).mpr (List.mem_cons_of_mem _ hk)) with e | e
      · have := b1 k hk; omega
      · exact e
theorem pw_nodup {l : List Int} (h : l.Pairwise (· < ·)) : l.Nodup := h.imp fun h => by omega
/-- set(xs) -/
def rSetL (K : PySem.W.Frag) (w : World) : List V → Hp → VK → Prop := fun vs H Q => ∃ (a : Addr) (ns : List Int), vs = [.ref a] ∧ SqL K H a (ns.map V.int) ∧ ns.length ≤ 1000 ∧ ∀ (p : Addr), H p = none → Q (.ref p) (upd H p (SetO w p (fun j => decide (j ∈ ns)) (sortS ns).length))
section
variable {X : Cx}
theorem cr_setL (hc : X.calm = true) : CallR X (.type "set") (rSetL X.K X.w) := by
  intro pins s σ H xs us Q I r h
  obtain ⟨a, ns, rfl, hq, hl, q⟩ := h
  rw [Vals.ref1 r]
  obtain ⟨its, rv, pt, hz⟩ := I.list hq
  refine set_of_list ns (I.ok.hd hc) pt.isList (us := its.toArray) (ints_of_vals rv) (by unfold scanBound; omega) fun h2 u c R1 hcn k => ?_
  have ec : c = (sortS ns).length := by
    obtain ⟨o, es, ep, t, ho, hex, hdt, g, nd, hm2, hb, hf, hn, hr, hl2⟩ := id R1
    have pm : (es.toList.map L2.keyOf).Perm (sortS ns) := (List.perm_ext_iff_of_nodup nd (pw_nodup (sortS_pw ns))).mpr fun j => by
      rw [sortS_mem, ← hm2 j, decide_eq_true_eq]
    have := pm.length_eq
    simp at this
    omega
  subst ec
  exact ⟨.ref _, _, I.laid (t' := u) k (Nat.le_refl _) (setO_new R1), rfl, q _ (I.hok.fresh (Nat.le_refl _))⟩
end
end Bk
set_option maxHeartbeats 4000000
/-! RunC11: zip of three, each a tuple or a list. -/
namespace Bk
open PySem PySem.Spec PyProof.Rows L2

/-- a list (true) or a tuple (false) -/
def SqK (K : PySem.W.Frag) : Bool → Hp → Addr → List V → Prop
  | true => SqL K
  | false => SqT K
def ItK : Bool → Heap → Addr → Addr → Nat → Prop
  | true, h, j, a, i => h.IsListIter j a i
  | false, h, j, a, i => h.IsTupleIter j a i
def SeK : Bool → Heap → Addr → Array Value → Prop
  | true, h, a, xs => h.IsList a xs
  | false, h, a, xs => h.IsTuple a xs
theorem drawK {P : Program} {w : World} {A : Around} (κ : Bool) (hh : A.handled = none) (j a : Addr) (ne : a ≠ j) (xs : Array Value) :
    Draws P w A j [j, a] xs.size (fun i v => xs[i]? = some v) (fun i h => ItK κ h j a i ∧ SeK κ h a xs) := by
  cases κ
  · exact Draws.tuple hh j a ne xs
  · exact Draws.list hh j a ne xs
def itO (κ : Bool) (a : Addr) : Obj := { cls := .type (if κ then "list_iterator" else "tuple_iterator"), data := .fields #[.ref a, .int 0 0] }
theorem beginK (κ : Bool) (a : Addr) (xs : Array Value) : Begins (.ref a) (itO κ a) fun h => SeK κ h a xs := by
  cases κ
  · exact begins_tuple a xs
  · exact begins_list a xs
theorem itK_new {κ : Bool} {h : Heap} {j a : Addr} (g : h.get? j = some (itO κ a)) : ItK κ h j a 0 := by
  cases κ
  · exact ⟨_, g, rfl, rfl⟩
  · exact ⟨_, g, rfl, rfl⟩
theorem itK_ob {κ : Bool} {h : Heap} {j a : Addr} {i : Nat} (x : ItK κ h j a i) : ∃ o, h.get? j = some o ∧ ∀ v, o.data ≠ .cell v := by
  cases κ
  · obtain ⟨o, e, _, d⟩ := x
    exact ⟨o, e, fun _ y => by rw [d] at y; cases y⟩
  · obtain ⟨o, e, _, d⟩ := x
    exact ⟨o, e, fun _ y => by rw [d] at y; cases y⟩
theorem itK_at {κ : Bool} {h h' : Heap} {j a : Addr} {i : Nat} (x : ItK κ h j a i) (k : ∀ o, h.get? j = some o → h'.get? j = some o) : ItK κ h' j a i := by
  cases κ
  · obtain ⟨o, e, c⟩ := x
    exact ⟨o, k o e, c⟩
  · obtain ⟨o, e, c⟩ := x
    exact ⟨o, k o e, c⟩
section
variable {X : Cx} {pins : List (Addr × Obj)} {σ : L2.St} {H : Hp} {s : Shared}
theorem invK {κ : Bool} {a : Addr} {us : List V} (I : Inv X pins σ H s) (q : SqK X.K κ H a us) : ∃ its, Vals us its ∧ SeK κ s.heap a its.toArray ∧ a < s.heap.objs.size := by
  cases κ
  · obtain ⟨its, rv, t, _⟩ := I.tuple q
    obtain ⟨o, ho, _⟩ := id t
    exact ⟨its, rv, t, Heap.lt_size ho⟩
  · obtain ⟨its, rv, t, _⟩ := I.list q
    exact ⟨its, rv, t.isList, t.lt⟩
theorem injK {κ : Bool} {a : Addr} {us ws : List V} (I : Inv X pins σ H s) (p : SqK X.K κ H a us) (q : SqK X.K κ H a ws) : us = ws := by
  cases κ
  · exact I.tuple_inj p q
  · exact I.list_inj p q
end
/-- as they stand at each turn -/
def Itz3 (K : PySem.W.Frag) (κ1 κ2 κ3 : Bool) (a b c : Addr) : L2.It where
  go := fun i H => ∃ (us ws ys : List V) (u w y : V), SqK K κ1 H a us ∧ SqK K κ2 H b ws ∧ SqK K κ3 H c ys ∧ us[i]? = some u ∧ ws[i]? = some w ∧ ys[i]? = some y
  yld := fun i H v H' => ∃ T u w y, v = .ref T ∧ H T = none ∧ H' = upd H T (.tup [u, w, y]) ∧ (∀ us, SqK K κ1 H a us → us[i]? = some u) ∧ (∀ ws, SqK K κ2 H b ws → ws[i]? = some w) ∧ ∀ ys, SqK K κ3 H c ys → ys[i]? = some y
  stop := fun i H => ∃ us ws ys : List V, SqK K κ1 H a us ∧ SqK K κ2 H b ws ∧ SqK K κ3 H c ys ∧ i ≤ us.length ∧ i ≤ ws.length ∧ i ≤ ys.length ∧ (i = us.length ∨ i = ws.length ∨ i = ys.length)
/-- how it stands in the machine -/
def Zip3S (κ1 κ2 κ3 : Bool) (a b c z p q j k l : Addr) (i : Nat) (h : Heap) : Prop :=
  IsZip h z p q .none ∧ IsTupOf3 h p (.ref j) (.ref k) (.ref l) ∧ (∃ u w y, IsTupOf3 h q u w y) ∧ ItK κ1 h j a i ∧ ItK κ2 h k b i ∧ ItK κ3 h l c i
theorem zip3_has {κ1 κ2 κ3 : Bool} {a b c z p q j k l : Addr} {i : Nat} {h : Heap} (st : Zip3S κ1 κ2 κ3 a b c z p q j k l i h) : ∀ d ∈ [z, p, q, j, k, l], ∃ o, h.get? d = some o ∧ ∀ v, o.data ≠ .cell v := by
  obtain ⟨hz, hp, ⟨u, w, y, hq⟩, x1, x2, x3⟩ := st
  intro d hd
  simp only [List.mem_cons, List.not_mem_nil, or_false] at hd
  rcases hd with rfl | rfl | rfl | rfl | rfl | rfl
  · exact ⟨_, hz, fun _ x => nomatch x⟩
  · exact ⟨_, hp, fun _ x => nomatch x⟩
  · exact ⟨_, hq, fun _ x => nomatch x⟩
  · exact itK_ob x1
  · exact itK_ob x2
  · exact itK_ob x3
theorem turn_zip3 {P : Program} {w : World} {K : PySem.W.Frag} {elts : List Expr} {kk : Nat} {tpos : Pos} {κ1 κ2 κ3 : Bool} {a b c z p q j k l : Addr} (S : ZipSep3 z p q j k l [j, a] [k, b] [l, c]) (ja : a ≠ j) (kb : b ≠ k) (lc : c ≠ l) :
    Turn P w K (.Tuple elts kk tpos) (Itz3 K κ1 κ2 κ3 a b c) [z, p, q, j, k, l] z (Zip3S κ1 κ2 κ3 a b c z p q j k l) where
  mem := List.mem_cons_self
  obj := fun _ _ st => zip3_has st
  keep := fun i h h' ⟨hz, hp, ⟨u, v, y, hq⟩, h1, h2, h3⟩ f =>
    ⟨f z (by simp) _ hz, f p (by simp) _ hp, ⟨u, v, y, f q (by simp) _ hq⟩, itK_at h1 fun o x => f j (by simp) o x, itK_at h2 fun o x => f k (by simp) o x, itK_at h3 fun o x => f l (by simp) o x⟩
  item := by
    intro X hP hw hK hc i pins s σ H E I hf st hg
    subst hP hw hK
    have has := zip3_has st
    obtain ⟨hz, hp, ⟨u0, w0, y0, hq⟩, h1, h2, h3⟩ := st
    obtain ⟨us, ws, ys, u, v, y, qu, qw, qy, eu, ew, ey⟩ := hg
    obtain ⟨its, rv, t1, _⟩ := invK I qu
    obtain ⟨jts, rw', t2, _⟩ := invK I qw
    obtain ⟨lts, ry', t3, _⟩ := invK I qy
    obtain ⟨x, hx, rx⟩ := rv.get eu
    obtain ⟨x', hx', rx'⟩ := rw'.get ew
    obtain ⟨x'', hx'', rx''⟩ := ry'.get ey
    have lt1 := (List.getElem?_eq_some_iff.mp hx).1
    have lt2 := (List.getElem?_eq_some_iff.mp hx').1
    have lt3 := (List.getElem?_eq_some_iff.mp hx'').1
    have hh : X.A.in1.handled = none := I.ok.hd hc
    refine wpAny_pyNext_zipD3_item S (drawK κ1 hh j a ja its.toArray) (drawK κ2 hh k b kb jts.toArray) (drawK κ3 hh l c lc lts.toArray) hz hp hq ⟨h1, t1⟩ ⟨h2, t2⟩ ⟨h3, t3⟩ (by simpa using lt1) (by simpa using lt2) (by simpa using lt3)
      fun x1 x2 x3 h' tk p1 p2 p3 z' q' st1 st2 st3 hT hs keep => ?_
    have ex1 : x1 = x := by
      have : its.toArray[i]? = some x1 := p1
      rw [List.getElem?_toArray, hx] at this
      exact (Option.some.inj this).symm
    have ex2 : x2 = x' := by
      have : jts.toArray[i]? = some x2 := p2
      rw [List.getElem?_toArray, hx'] at this
      exact (Option.some.inj this).symm
    have ex3 : x3 = x'' := by
      have : lts.toArray[i]? = some x3 := p3
      rw [List.getElem?_toArray, hx''] at this
      exact (Option.some.inj this).symm
    subst ex1 ex2 ex3
    have zl : z < s.heap.objs.size := Heap.lt_size hz
    refine ⟨_, rfl, wpAny_letOwnedTupleGo_zip z' fun h2' z2 same => ?_⟩
    have hT2 : IsTupOf3 h2' s.heap.objs.size x1 x2 x3 := (same.2 _ (Nat.ne_of_gt zl)).trans hT
    have new : ObjOk X.prog X.w (upd H s.heap.objs.size (.tup [u, v, y])) h2' s.heap.objs.size (.tup [u, v, y]) :=
      ⟨by show 3 ≤ sizeLine; decide, [x1, x2, x3], .cons rx (.cons rx' (.cons rx'' .nil)), _, hT2, rfl, _, rfl⟩
    have I2 : Inv X pins σ (upd H s.heap.objs.size (.tup [u, v, y])) { s with heap := h2', toks := tk } := by
      refine I.turnedNew (ch := [z, p, q, j, k, l]) (fun d o hb x => ?_) hf (Nat.le_refl _) new
      simp only [List.mem_cons, List.not_mem_nil, or_false, not_or] at hb
      exact (same.2 d hb.1).trans (keep d o hb.1 hb.2.2.1 hb.2.2.2.1 hb.2.2.2.2.1 hb.2.2.2.2.2 x)
    refine ⟨.ref s.heap.objs.size, _, I2, rfl, ⟨_, u, v, y, rfl, I.hok.fresh (Nat.le_refl _), rfl, fun l hl => by rw [injK I hl qu]; exact eu, fun l hl => by rw [injK I hl qw]; exact ew, fun l hl => by rw [injK I hl qy]; exact ey⟩, ⟨z2, ?_, ⟨x1, x2, x3, ?_⟩, ?_, ?_, ?_⟩, fun d hm => ?_⟩
    · exact (same.2 _ S.TIz).trans (keep p _ S.TIz S.TITO S.TIi1 S.TIi2 S.TIi3 hp)
    · exact (same.2 _ S.TOz).trans q'
    · exact itK_at st1.1 fun o x => (same.2 _ (Ne.symm S.zi1)).trans x
    · exact itK_at st2.1 fun o x => (same.2 _ (Ne.symm S.zi2)).trans x
    · exact itK_at st3.1 fun o x => (same.2 _ (Ne.symm S.zi3)).trans x
    · obtain ⟨o, eo, _⟩ := has d hm
      rw [upd_ne (Nat.ne_of_lt (Heap.lt_size eo))]
      exact (hf d hm).1
  done := by
    intro X hP hw hK hc i pins s σ H E I hf st hg
    subst hP hw hK
    obtain ⟨hz, hp, ⟨u0, w0, y0, hq⟩, h1, h2, h3⟩ := st
    obtain ⟨us, ws, ys, qu, qw, qy, le1, le2, le3, hend⟩ := hg
    obtain ⟨its, rv, t1, _⟩ := invK I qu
    obtain ⟨jts, rw', t2, _⟩ := invK I qw
    obtain ⟨lts, ry', t3, _⟩ := invK I qy
    have hh : X.A.in1.handled = none := I.ok.hd hc
    have n1 : us.length = its.toArray.size := by rw [rv.length]; simp
    have n2 : ws.length = jts.toArray.size := by rw [rw'.length]; simp
    have n3 : ys.length = lts.toArray.size := by rw [ry'.length]; simp
    rw [n1, n2, n3] at hend
    rw [n1] at le1
    rw [n2] at le2
    rw [n3] at le3
    refine wpAny_pyNext_zipD3_end S (drawK κ1 hh j a ja its.toArray) (drawK κ2 hh k b kb jts.toArray) (drawK κ3 hh l c lc lts.toArray) hz hp hq ⟨h1, t1⟩ ⟨h2, t2⟩ ⟨h3, t3⟩ le1 le2 le3 hend fun h' tk keep => ⟨rfl, ?_⟩
    refine I.turnedL (ch := [z, p, q, j, k, l]) (fun d o hb x => ?_) hf
    simp only [List.mem_cons, List.not_mem_nil, or_false, not_or] at hb
    exact keep d o hb.1 hb.2.2.1 hb.2.2.2.1 hb.2.2.2.2.1 hb.2.2.2.2.2 x
  self := fun A i s Q E st h => wpAny_pyIter_zip st.1 h
/-- zip of three -/
def iZ3 (K : PySem.W.Frag) (ta : TA) : TI := fun σ H R => ta σ H fun vs H1 => ∃ κ1 κ2 κ3 a b c us ws ys, vs = [.ref a, .ref b, .ref c] ∧ SqK K κ1 H1 a us ∧ SqK K κ2 H1 b ws ∧ SqK K κ3 H1 c ys ∧ R (Itz3 K κ1 κ2 κ3 a b c) H1
theorem fresh_zip3 {X : Cx} {pins : List (Addr × Obj)} {σ : L2.St} {H : Hp} {s : Shared} {N : Nat} (I : Inv X pins σ H s) (hN : s.heap.objs.size = N) : ∀ c ∈ [N + 5, N + 3, N + 4, N, N + 1, N + 2], FpOk X pins H c := fun c hm => by
  have hle : s.heap.objs.size ≤ c := by
    rw [hN]
    simp only [List.mem_cons, List.not_mem_nil, or_false] at hm
    rcases hm with rfl | rfl | rfl | rfl | rfl | rfl
    · exact Nat.le_add_right N 5
    · exact Nat.le_add_right N 3
    · exact Nat.le_add_right N 4
    · exact Nat.le_refl _
    · exact Nat.le_succ _
    · exact Nat.le_add_right N 2
  exact I.fpOk hle (I.hok.fresh hle)
theorem pi_z3 {X : Cx} {e1 e2 e3 : Expr} {ta : TA} {p pos tpos : Pos} {elts : List Expr} {kk : Nat} (hg : Gl X "zip") (hm : X.mg "zip" = none) (ha : PA X [e1, e2, e3] ta)
    (hs : starEach [e1, e2, e3] X.env = (false, eval e1 X.env) :: starEach [e2, e3] X.env) (hpl : (backTo pos (starEach [e2, e3] X.env)).any (·.1) = false) : PI X (.Tuple elts kk tpos) (.Call (.Name "zip" p) [e1, e2, e3] [] pos) (iZ3 X.K ta) := by
  refine ⟨fun pins s σ H R I h => Call_ (ld_blt I hg hm PyProof.Rows.boot_zip (PyProof.Rows.callWith_type1 (thn (ha.run pos pins s σ H _ I h) fun vals s1 hx => ?_) hs hpl))⟩
  obtain ⟨vs, H1, I1, r1, κ1, κ2, κ3, a, b, c, us, ws, ys, rfl, qu, qw, qy, q⟩ := hx
  obtain ⟨va, vb, vc, rfl, ra, rb, rc⟩ : ∃ va vb vc, vals = [va, vb, vc] ∧ RelV (.ref a) va ∧ RelV (.ref b) vb ∧ RelV (.ref c) vc := by
    cases r1 with
    | cons r r2 => cases r2 with
      | cons r' r3 => cases r3 with
        | cons r'' r4 => cases r4; exact ⟨_, _, _, rfl, r, r', r''⟩
  cases ra
  cases rb
  cases rc
  generalize hN : s1.heap.objs.size = N
  obtain ⟨its, rv, t1, la⟩ := invK I1 qu
  obtain ⟨jts, rw', t2, lb⟩ := invK I1 qw
  obtain ⟨lts, ry', t3, lc⟩ := invK I1 qy
  rw [hN] at la lb lc
  have S : ZipSep3 (N + 5) (N + 3) (N + 4) N (N + 1) (N + 2) [N, a] [N + 1, b] [N + 2, c] := zip_sep3 (fun d hd => by rw [List.mem_singleton.mp hd]; exact la) (fun d hd => by rw [List.mem_singleton.mp hd]; exact lb) (fun d hd => by rw [List.mem_singleton.mp hd]; exact lc)
  refine zip_begins3 (beginK κ1 a its.toArray) (beginK κ2 b jts.toArray) (beginK κ3 c lts.toArray) t1 t2 t3 fun h' hz hp hq g1 g2 g3 hsz keep => wpAny_pyIter_zip hz ?_
  rw [hN] at hz hp hq g1 g2 g3 ⊢
  exact ⟨N + 5, [N + 5, N + 3, N + 4, N, N + 1, N + 2], _, _, H1, rfl, I1.kept (t' := s1.toks) keep, turn_zip3 S (Nat.ne_of_lt la) (Nat.ne_of_lt (Nat.lt_succ_of_lt lb)) (Nat.ne_of_lt (Nat.lt_succ_of_lt (Nat.lt_succ_of_lt lc))), ⟨hz, hp, ⟨_, _, _, hq⟩, itK_new g1, itK_new g2, itK_new g3⟩, fresh_zip3 I1 hN, q⟩
theorem zip3V_len {xs ys zs : List Val} : (zip3V xs ys zs).length = min (min xs.length ys.length) zs.length := by simp [zip3V]
theorem zip3V_get {xs ys zs : List Val} {i : Nat} {u v w : Val} (e : xs[i]? = some u) (e' : ys[i]? = some v) (e'' : zs[i]? = some w) : (zip3V xs ys zs)[i]? = some (.tup [u, v, w]) := by
  rw [zip3V, List.getElem?_zipWith, List.getElem?_zipWith, e, e', e'']
section
variable {K : PySem.W.Frag} {ρ : List Addr} {H : Hp}
/-- a list or a tuple that stays -/
structure SeqSt (K : PySem.W.Frag) (ρ : List Addr) (H : Hp) (κ : Bool) (a : Addr) (xs : List Val) (gd : Gd) : Prop where
  now : ∀ (ρ' : List Addr) (H' : Hp) (s' : Sto), Ext ρ H ρ' H' → RelS K ρ' s' H' → gd.holds s' → ∃ vs, SqK K κ H' a vs ∧ RepL K ρ' H' xs vs
theorem seqSt {s : Sto} {v : Val} {w : V} {gd : Gd} {xs : List Val} (R : RelS K ρ s H) (r : Rep K ρ H v w) (e : seqG s v = some (xs, gd)) : ∃ a κ, w = .ref a ∧ (∃ us, SqK K κ H a us) ∧ SeqSt K ρ H κ a xs gd := by
  obtain ⟨a, rfl, hg, hh⟩ := seqG_ok R r e
  rcases hh with ⟨rfl, vs, h2, h3⟩ | ⟨rfl, vs, h2, h3⟩ | ⟨n, vs, rfl, h2, h3⟩
  · exact ⟨a, false, rfl, ⟨vs, h2⟩, ⟨fun _ _ _ e _ _ => ⟨vs, e.sqT h2, h3.mono e⟩⟩⟩
  · exact ⟨a, true, rfl, ⟨vs, h2.sq⟩, ⟨fun _ _ _ e _ _ => ⟨vs, (e.rol h2).sq, h3.mono e⟩⟩⟩
  · exact ⟨a, true, rfl, ⟨vs, h3⟩, ⟨fun _ _ _ e R g => lstNow h2 e R g⟩⟩
theorem tripUp {ρ' : List Addr} {H' : Hp} {s' : Sto} {T : Addr} {x y z : V} {u v w : Val} (R : RelS K ρ' s' H') (hT : H' T = none) (rx : Rep K ρ' H' u x) (ry : Rep K ρ' H' v y) (rz : Rep K ρ' H' w z) : Ext ρ' H' ρ' (upd H' T (.tup [x, y, z])) ∧ RelS K ρ' s' (upd H' T (.tup [x, y, z])) ∧ Rep K ρ' (upd H' T (.tup [x, y, z])) (.tup [u, v, w]) (.ref T) :=
  ⟨ext_new hT, R.new hT, T, _, rfl, SqT.of upd_same, x, _, rfl, rx.mono (ext_new hT), y, _, rfl, ry.mono (ext_new hT), z, _, rfl, rz.mono (ext_new hT), rfl⟩
theorem walkV_zip3 {κ1 κ2 κ3 : Bool} {a b c : Addr} {xs ys zs : List Val} {g1 g2 g3 : Gd} (h1 : SeqSt K ρ H κ1 a xs g1) (h2 : SeqSt K ρ H κ2 b ys g2) (h3 : SeqSt K ρ H κ3 c zs g3) : WalkV K ρ H (zip3V xs ys zs) (.both g1 (.both g2 g3)) (Itz3 K κ1 κ2 κ3 a b c) where
  goes := fun i ρ' H' s' hi e R g => by
    rw [zip3V_len] at hi
    obtain ⟨us, q1, r1⟩ := h1.now _ _ _ e R g.1
    obtain ⟨vs, q2, r2⟩ := h2.now _ _ _ e R g.2.1
    obtain ⟨ws, q3, r3⟩ := h3.now _ _ _ e R g.2.2
    obtain ⟨u, e1, _⟩ := r1.get (List.getElem?_eq_getElem (by omega : i < xs.length))
    obtain ⟨v, e2, _⟩ := r2.get (List.getElem?_eq_getElem (by omega : i < ys.length))
    obtain ⟨w, e3, _⟩ := r3.get (List.getElem?_eq_getElem (by omega : i < zs.length))
    exact ⟨us, vs, ws, u, v, w, q1, q2, q3, e1, e2, e3⟩
  stops := fun ρ' H' s' e R g => by
    obtain ⟨us, q1, r1⟩ := h1.now _ _ _ e R g.1
    obtain ⟨vs, q2, r2⟩ := h2.now _ _ _ e R g.2.1
    obtain ⟨ws, q3, r3⟩ := h3.now _ _ _ e R g.2.2
    have l1 := r1.length
    have l2 := r2.length
    have l3 := r3.length
    refine ⟨us, vs, ws, q1, q2, q3, ?_⟩
    rw [zip3V_len]
    omega
  yields := fun i ρ' H' s' x H2 hi e R g y => by
    rw [zip3V_len] at hi
    obtain ⟨us, q1, r1⟩ := h1.now _ _ _ e R g.1
    obtain ⟨vs, q2, r2⟩ := h2.now _ _ _ e R g.2.1
    obtain ⟨ws, q3, r3⟩ := h3.now _ _ _ e R g.2.2
    obtain ⟨u, e1, p1⟩ := r1.get (List.getElem?_eq_getElem (by omega : i < xs.length))
    obtain ⟨v, e2, p2⟩ := r2.get (List.getElem?_eq_getElem (by omega : i < ys.length))
    obtain ⟨w, e3, p3⟩ := r3.get (List.getElem?_eq_getElem (by omega : i < zs.length))
    obtain ⟨T, y1, y2, y3, rfl, hT, rfl, f1, f2, f3⟩ := y
    have k1 := f1 us q1
    have k2 := f2 vs q2
    have k3 := f3 ws q3
    rw [e1] at k1; cases k1
    rw [e2] at k2; cases k2
    rw [e3] at k3; cases k3
    exact ⟨_, zip3V_get (List.getElem?_eq_getElem _) (List.getElem?_eq_getElem _) (List.getElem?_eq_getElem _), tripUp R hT p1 p2 p3⟩
end
end Bk
set_option maxHeartbeats 4000000
/-! RunC12: list(zip(xs, ys)) of two lists as long. -/
namespace Bk
open PySem PySem.Spec PyProof.Rows L2

/-- the pairs made so far -/
structure ZlG (xs ys : Array Value) (lo : Addr) (h : Heap) (as : List Addr) : Prop where
  rise : as.Pairwise (· < ·)
  above : ∀ a ∈ as, lo < a
  pairs : ∀ (j : Nat) (a : Addr), as[j]? = some a → ∃ x y, xs[j]? = some x ∧ ys[j]? = some y ∧ IsPair h a x y
theorem ZlG.there {xs ys : Array Value} {lo : Addr} {h : Heap} {as : List Addr} (g : ZlG xs ys lo h as) {a : Addr} (ha : a ∈ as) : a < h.objs.size := by
  obtain ⟨j, hj⟩ := List.mem_iff_getElem?.mp ha
  obtain ⟨_, _, _, _, e⟩ := g.pairs j a hj
  exact Heap.lt_size e
/-- how the zip stands: nothing given out yet, or what was given out is held -/
structure ZlSt (h : Heap) (z TI TO i1 i2 l1 l2 : Addr) (xs ys : Array Value) (lo : Addr) (i : Nat) : Prop where
  ti : IsPair h TI (.ref i1) (.ref i2)
  h1 : h.IsListIter i1 l1 i
  h2 : h.IsListIter i2 l2 i
  hl1 : h.IsList l1 xs
  hl2 : h.IsList l2 ys
  st : (IsZip h z TI TO .none ∧ ∃ u w, IsPair h TO u w) ∨ ∃ T f oT, IsZipHeld h z TI TO T f ∧ h.get? T = some oT ∧ lo < T
section
variable {prog : Program} {w : World} {A : Around} {E : Value → Shared → Prop} {s : Shared} {z TI TO i1 i2 l1 l2 lo : Addr} {xs ys : Array Value} {i : Nat}
theorem ZlSt.at {h h' : Heap} (x : ZlSt h z TI TO i1 i2 l1 l2 xs ys lo i) (S : Addr) (hS : S ≤ lo) (ne : ∀ c ∈ [z, TI, TO, i1, i2, l1, l2], c ≠ S) (k : ∀ b o, b ≠ S → h.get? b = some o → h'.get? b = some o) : ZlSt h' z TI TO i1 i2 l1 l2 xs ys lo i where
  ti := k TI _ (ne _ (by simp)) x.ti
  h1 := let ⟨o, e, r⟩ := x.h1; ⟨o, k i1 o (ne _ (by simp)) e, r⟩
  h2 := let ⟨o, e, r⟩ := x.h2; ⟨o, k i2 o (ne _ (by simp)) e, r⟩
  hl1 := let ⟨o, e, r⟩ := x.hl1; ⟨o, k l1 o (ne _ (by simp)) e, r⟩
  hl2 := let ⟨o, e, r⟩ := x.hl2; ⟨o, k l2 o (ne _ (by simp)) e, r⟩
  st := by
    rcases x.st with ⟨a, u, v, b⟩ | ⟨T, f, oT, a, b, c⟩
    · exact .inl ⟨k z _ (ne _ (by simp)) a, u, v, k TO _ (ne _ (by simp)) b⟩
    · exact .inr ⟨T, f, oT, k z _ (ne _ (by simp)) a, k T _ (Nat.ne_of_gt (Nat.lt_of_le_of_lt hS c)) b, c⟩
theorem zl_item {x y : Value} {Q : Option Value → Shared → Prop} (D : ZipApart z TI TO i1 i2 l1 l2) (hst : ZlSt s.heap z TI TO i1 i2 l1 l2 xs ys lo i) (hx : xs[i]? = some x) (hy : ys[i]? = some y) (hlo : lo < s.heap.objs.size)
    (hlt : ∀ c ∈ [z, TI, TO, i1, i2, l1, l2], c < lo)
    (hQ : ∀ h', ZlSt h' z TI TO i1 i2 l1 l2 xs ys lo (i + 1) → IsPair h' s.heap.objs.size x y → (∀ c o, c ≠ z → c ≠ TO → c ≠ i1 → c ≠ i2 → s.heap.get? c = some o → h'.get? c = some o) → Q (some (.ref s.heap.objs.size)) { s with heap := h' }) :
    wpAny (model prog w) A (pyNext (.ref z)) Q E s := by
  obtain ⟨hti, hh1, hh2, hl1, hl2, st⟩ := hst
  rcases st with ⟨hz, u, v, hTO⟩ | ⟨T, f, oT, hz, hT, hlT⟩
  · refine wpAny_pyNext_zip_item D hz hti hTO hh1 hh2 hl1 hl2 hx hy fun h' a1 a2 a3 a4 a5 a6 a7 => ?_
    refine hQ h' ⟨a7 TI _ D.TIz D.TITO D.TIi1 D.TIi2 hti, a3, a4, ?_, ?_, .inr ⟨s.heap.objs.size, false, _, a1, a5, hlo⟩⟩ a5 a7
    · obtain ⟨o, e, r⟩ := hl1
      exact ⟨o, a7 l1 o D.l1z D.l1TO D.l1i1 D.l1i2 e, r⟩
    · obtain ⟨o, e, r⟩ := hl2
      exact ⟨o, a7 l2 o D.l2z D.l2TO D.l2i1 D.l2i2 e, r⟩
  · refine wpAny_pyNext_zip_item_held D hz hT hti hh1 hh2 hl1 hl2 hx hy fun h' a1 a3 a4 a5 a6 a7 => ?_
    have neT : ∀ c ∈ [z, TI, TO, i1, i2, l1, l2], T ≠ c := fun c hc => Nat.ne_of_gt (Nat.lt_trans (hlt c hc) hlT)
    refine hQ h' ⟨a7 TI _ D.TIz D.TIi1 D.TIi2 hti, a3, a4, ?_, ?_, .inr ⟨T, true, oT, a1, a7 T _ (neT z (by simp)) (neT i1 (by simp)) (neT i2 (by simp)) hT, hlT⟩⟩ a5 fun c o c1 _ c3 c4 e => a7 c o c1 c3 c4 e
    · obtain ⟨o, e, r⟩ := hl1
      exact ⟨o, a7 l1 o D.l1z D.l1i1 D.l1i2 e, r⟩
    · obtain ⟨o, e, r⟩ := hl2
      exact ⟨o, a7 l2 o D.l2z D.l2i1 D.l2i2 e, r⟩
theorem zl_done {Q : Option Value → Shared → Prop} (hh : A.handled = none) (D : ZipApart z TI TO i1 i2 l1 l2) (hst : ZlSt s.heap z TI TO i1 i2 l1 l2 xs ys lo i) (hx : xs[i]? = none)
    (hQ : ∀ h', (∀ c o, c ≠ z → c ≠ TO → c ≠ i1 → c ≠ i2 → s.heap.get? c = some o → h'.get? c = some o) → Q none { s with heap := h' }) : wpAny (model prog w) A (pyNext (.ref z)) Q E s := by
  obtain ⟨hti, hh1, hh2, hl1, hl2, st⟩ := hst
  rcases st with ⟨hz, u, v, hTO⟩ | ⟨T, f, oT, hz, hT, hlT⟩
  · exact wpAny_pyNext_zip_end hh D hz hti hTO hh1 hh2 hl1 hl2 (.inl hx) hQ
  · exact wpAny_pyNext_zip_end_held hh D hz hT hti hh1 hh2 hl1 hl2 (.inl hx) fun h' k => hQ h' fun c o c1 _ c3 c4 e => k c o c1 c3 c4 e
theorem zl_loop {R : Result → Shared → Prop} {S : Addr} (hh : A.handled = none) (D : ZipApart z TI TO i1 i2 l1 l2) (hlt : ∀ c ∈ [z, TI, TO, i1, i2, l1, l2], c < S) (hsz : xs.size = ys.size) (hn : xs.size ≤ sizeLine) (res : Value) {h₁ : Heap}
    (hR : ∀ h' tk acc c as, (∀ b o, b ∉ [S, z, TO, i1, i2] → h₁.get? b = some o → h'.get? b = some o) → h'.get? S = some { cls := .type "list", dict := none, data := .seq acc c, slots := #[] } → as.length = xs.size → ZlG xs ys S h' as →
      acc.toList = as.map Value.ref → R (.ok (.ret res)) { s with heap := h', toks := tk }) :
    ∀ (k i : Nat) (h : Heap) (tk c : Nat) (acc : Array Value) (as : List Addr), xs.size - i = k → i ≤ xs.size → ZlSt h z TI TO i1 i2 l1 l2 xs ys S i → (∀ b o, b ∉ [S, z, TO, i1, i2] → h₁.get? b = some o → h.get? b = some o) →
      h.get? S = some { cls := .type "list", dict := none, data := .seq acc c, slots := #[] } → acc.toList = as.map Value.ref → as.length = i → ZlG xs ys S h as →
      codeAny (model prog w) A (.builtin "list.extend.loop" ⟨[.ref S, .ref z, res], []⟩) R { s with heap := h, toks := tk } := by
  have neS : ∀ c ∈ [z, TI, TO, i1, i2, l1, l2], c ≠ S := fun c hc => Nat.ne_of_lt (hlt c hc)
  have neSz : S ≠ z := (neS z (by simp)).symm
  have neSTO : S ≠ TO := (neS TO (by simp)).symm
  have neS1 : S ≠ i1 := (neS i1 (by simp)).symm
  have neS2 : S ≠ i2 := (neS i2 (by simp)).symm
  have up4 : ∀ a, S < a → a ≠ z ∧ a ≠ TO ∧ a ≠ i1 ∧ a ≠ i2 := fun a ha => ⟨Nat.ne_of_gt (Nat.lt_trans (hlt z (by simp)) ha), Nat.ne_of_gt (Nat.lt_trans (hlt TO (by simp)) ha), Nat.ne_of_gt (Nat.lt_trans (hlt i1 (by simp)) ha), Nat.ne_of_gt (Nat.lt_trans (hlt i2 (by simp)) ha)⟩
  intro k
  induction k with
  | zero =>
    intro i h tk c acc as hk hi hst hkeep hS hacc hal hG
    have hin : i = xs.size := by omega
    refine codeAny_builtin PySem.F.entry_extend_loop ?_
    rw [Around.under_plainId PySem.F.plain_extend_loop _]
    show wpAny _ A.in1 (pyNext (.ref z) >>= _) _ _ _
    refine wpAny_bind (zl_done (s := { s with heap := h, toks := tk }) (A := A.in1) hh D hst (by rw [hin]; simp) fun h' he => ?_)
    refine wpAny_pure (hR h' tk acc c as (fun b o hb e => ?_) (he S _ neSz neSTO neS1 neS2 hS) (by omega) ⟨hG.rise, hG.above, fun j a hj => ?_⟩ hacc)
    · simp only [List.mem_cons, List.not_mem_nil, or_false, not_or] at hb
      exact he b o hb.2.1 hb.2.2.1 hb.2.2.2.1 hb.2.2.2.2 (hkeep b o (by simp [hb]) e)
    · obtain ⟨x, y, e1, e2, e3⟩ := hG.pairs j a hj
      obtain ⟨n1, n2, n3, n4⟩ := up4 a (hG.above a (List.mem_of_getElem? hj))
      exact ⟨x, y, e1, e2, he a _ n1 n2 n3 n4 e3⟩
  | succ k ih =>
    intro i h tk c acc as hk hi hst hkeep hS hacc hal hG
    have hlt' : i < xs.size := by omega
    have hx : xs[i]? = some xs[i] := Array.getElem?_eq_getElem hlt'
    have hy : ys[i]? = some (ys[i]'(by omega)) := Array.getElem?_eq_getElem (by omega)
    have hasz : acc.size = i := by rw [← Array.length_toList, hacc, List.length_map, hal]
    have hSl : S < h.objs.size := Heap.lt_size hS
    refine codeAny_builtin PySem.F.entry_extend_loop ?_
    rw [Around.under_plainId PySem.F.plain_extend_loop _]
    show wpAny _ A.in1 (pyNext (.ref z) >>= _) _ _ _
    refine wpAny_bind (zl_item (s := { s with heap := h, toks := tk }) D hst hx hy hSl hlt fun h' hst' ht hkp => ?_)
    dsimp only at ht hkp ⊢
    have hS' := hkp S _ neSz neSTO neS1 neS2 hS
    have up : ∀ b o, b ≠ S → h'.get? b = some o → (h'.update S (Obj.mapSeq (·.push (Value.ref h.objs.size)))).get? b = some o := fun b o hb e => (Heap.get?_update_other _ _ (Ne.symm hb)).trans e
    show wpAny _ A.in1 (updateSeq S (·.push (Value.ref h.objs.size)) >>= _) _ _ _
    refine wpAny_bind ?_
    refine wpAny_updateSeq hS' rfl (wpAny_pure ⟨plainId_quiet PySem.F.plain_extend_loop _, ih (i + 1) _ tk _ (acc.push (Value.ref h.objs.size)) (as ++ [h.objs.size]) (by omega) hlt' (hst'.at S (Nat.le_refl _) neS up)
      (fun b o hb e => ?_) (Heap.get?_update_self _ hS' rfl) (by rw [Array.toList_push, hacc, List.map_append]; rfl) (by rw [List.length_append, hal]; rfl) ⟨?_, ?_, ?_⟩⟩) (by rw [hasz]; omega) (by show (acc.push (Value.ref h.objs.size)).size ≤ sizeLine + 1; rw [Array.size_push, hasz]; omega)
    · have hb' := hb
      simp only [List.mem_cons, List.not_mem_nil, or_false, not_or] at hb'
      exact up b o hb'.1 (hkp b o hb'.2.1 hb'.2.2.1 hb'.2.2.2.1 hb'.2.2.2.2 (hkeep b o hb e))
    · refine List.pairwise_append.mpr ⟨hG.rise, List.pairwise_singleton _ _, fun a ha b hb => ?_⟩
      rw [List.mem_singleton.mp hb]
      exact hG.there ha
    · intro a ha
      rcases List.mem_append.mp ha with ha | ha
      · exact hG.above a ha
      · rw [List.mem_singleton.mp ha]; exact hSl
    · intro j b hj
      rcases Nat.lt_trichotomy j as.length with h1 | h1 | h1
      · rw [List.getElem?_append_left h1] at hj
        obtain ⟨x', y', e1, e2, e3⟩ := hG.pairs j b hj
        have hb := hG.above b (List.mem_of_getElem? hj)
        obtain ⟨n1, n2, n3, n4⟩ := up4 b hb
        exact ⟨x', y', e1, e2, up b _ (Nat.ne_of_gt hb) (hkp b _ n1 n2 n3 n4 e3)⟩
      · subst h1
        have hb : h.objs.size = b := by simpa using hj
        subst hb
        exact ⟨_, _, by rw [hal]; exact hx, by rw [hal]; exact hy, up _ _ (Nat.ne_of_gt hSl) ht⟩
      · have hnone : (as ++ [h.objs.size])[j]? = none := List.getElem?_eq_none (by rw [List.length_append, List.length_singleton]; omega)
        rw [hnone] at hj; cases hj
theorem zip_no_len : typeLookup (.type "zip") "__len__" = pure none := by rw [typeLookup_type, builtinLookup_eq_fast]; kernel_rfl
theorem zip_no_hint : typeLookup (.type "zip") "__length_hint__" = pure none := by rw [typeLookup_type, builtinLookup_eq_fast]; kernel_rfl
theorem zl_extend {R : Result → Shared → Prop} (hh : A.handled = none) (D : ZipApart z TI TO i1 i2 l1 l2) {S : Addr} (hlt : ∀ c ∈ [z, TI, TO, i1, i2, l1, l2], c < S) (hsz : xs.size = ys.size) (hn : xs.size ≤ sizeLine) (res : Value)
    (hst : ZlSt s.heap z TI TO i1 i2 l1 l2 xs ys S 0) (hz : IsZip s.heap z TI TO .none) (c₀ : Nat) (hS : s.heap.get? S = some { cls := .type "list", data := .seq #[] c₀ })
    (hR : ∀ h' tk acc c as, (∀ b o, b ∉ [S, z, TO, i1, i2] → s.heap.get? b = some o → h'.get? b = some o) → h'.get? S = some { cls := .type "list", dict := none, data := .seq acc c, slots := #[] } → as.length = xs.size → ZlG xs ys S h' as →
      acc.toList = as.map Value.ref → R (.ok (.ret res)) { s with heap := h', toks := tk }) :
    wpAny (model prog w) A.in1 (Builtin.List.listExtendWith (.ref S) (.ref z) res)
      (fun fin s' => match fin with | .done f => R (.ok f) s' | .again c' => c'.quiet = true ∧ codeAny (model prog w) A c' R s') (fun e s' => R (.error e) s') s := by
  have neS : ∀ c ∈ [z, TI, TO, i1, i2, l1, l2], c ≠ S := fun c hc => Nat.ne_of_lt (hlt c hc)
  have hT : s.TypeIs (.ref z) "zip" := ⟨_, hz, rfl⟩
  have key : ∀ (h : Heap) (c₁ tk : Nat), (∀ b o, b ≠ S → s.heap.get? b = some o → h.get? b = some o) → h.get? S = some { cls := .type "list", data := .seq #[] c₁ } → codeAny (model prog w) A (.builtin "list.extend.loop" ⟨[.ref S, .ref z, res], []⟩) R { s with heap := h, toks := tk } := by
    intro h c₁ tk hk hS₁
    refine zl_loop (s := s) (h₁ := s.heap) hh D hlt hsz hn res hR xs.size 0 h tk c₁ #[] [] (Nat.sub_zero _) (Nat.zero_le _) (hst.at S (Nat.le_refl _) neS hk) (fun b o hb e => hk b o (fun q => hb (by simp [q])) e) hS₁ rfl rfl
      ⟨List.Pairwise.nil, (fun _ ha => nomatch ha), (fun j a hj => by simp at hj)⟩
  unfold Builtin.List.listExtendWith
  refine wpAny_bind (wpAny_typeOf hT ?_)
  have h1 : Builtin.List.listSameRef (.ref S) (.ref z) = false := by simp [Builtin.List.listSameRef, (neS z (by simp)).symm]
  have h2 : (Value.type "zip" == Value.type "list") = false := by decide
  have h3 : (Value.type "zip" == Value.type "tuple") = false := by decide
  simp only [h1, h2, h3, Bool.or_false, Bool.false_eq_true, if_false]
  refine wpAny_bind (wpAny_pyIter_zip hz ?_)
  refine wpAny_bind (wpAny_holding ?_)
  unfold Builtin.List.listLengthHint
  refine wpAny_bind (wpAny_specialOf hT zip_no_len ?_)
  show wpAny _ A.in1 (specialOf (Value.ref z) (Str.ofString "__length_hint__") >>= _) _ _ _
  refine wpAny_bind (wpAny_specialOf hT zip_no_hint ?_)
  refine wpAny_pure ?_
  show wpAny _ A.in1 (rule "list.extend.makes-room" >>= fun _ => Builtin.List.listTouch (.ref S) >>= fun _ => again (.builtin "list.extend.loop" ⟨[.ref S, .ref z, res], []⟩)) _ _ _
  refine wpAny_bind (wpAny_rule ?_)
  refine wpAny_bind ?_
  show wpAny _ _ (updateSeq S (·.push .none) >>= fun _ => updateSeq S (·.pop)) _ _ _
  refine wpAny_bind (wpAny_updateSeq hS rfl ?_)
  have hS₂ := Heap.get?_update_self (Obj.mapSeq (·.push Value.none)) hS rfl
  refine wpAny_updateSeq (hz := by seq_fits) hS₂ rfl ?_
  have hS₃ := Heap.get?_update_self (Obj.mapSeq (·.pop)) hS₂ rfl
  refine wpAny_pure ⟨plainId_quiet PySem.F.plain_extend_loop _, key _ _ _ (fun b o hb e => ?_) hS₃⟩
  exact (Heap.get?_update_other _ _ (Ne.symm hb)).trans ((Heap.get?_update_other _ _ (Ne.symm hb)).trans e)
theorem zl_init {R : Result → Shared → Prop} (hh : A.handled = none) (D : ZipApart z TI TO i1 i2 l1 l2) {S : Addr} (hlt : ∀ c ∈ [z, TI, TO, i1, i2, l1, l2], c < S) (hsz : xs.size = ys.size) (hn : xs.size ≤ sizeLine)
    (hst : ZlSt s.heap z TI TO i1 i2 l1 l2 xs ys S 0) (hz : IsZip s.heap z TI TO .none) (hS : s.heap.get? S = some { cls := .type "list", data := .seq #[] })
    (hR : ∀ h' tk acc c as, (∀ b o, b ∉ [S, z, TO, i1, i2] → s.heap.get? b = some o → h'.get? b = some o) → h'.get? S = some { cls := .type "list", dict := none, data := .seq acc c, slots := #[] } → as.length = xs.size → ZlG xs ys S h' as →
      acc.toList = as.map Value.ref → R (.ok (.ret .none)) { s with heap := h', toks := tk }) :
    wpAny (model prog w) A.in1 (Builtin.«list.__init__» ⟨[.ref S, .ref z], []⟩)
      (fun fin s' => match fin with | .done f => R (.ok f) s' | .again c' => c'.quiet = true ∧ codeAny (model prog w) A c' R s') (fun e s' => R (.error e) s') s := by
  have neS : ∀ c ∈ [z, TI, TO, i1, i2, l1, l2], c ≠ S := fun c hc => Nat.ne_of_lt (hlt c hc)
  show wpAny _ _ (do let old ← Builtin.List.listItems (.ref S); Builtin.List.listUpdate (.ref S) (fun _ => #[]); letGo old.toList.reverse; Builtin.List.listExtendWith (.ref S) (.ref z) .none) _ _ s
  refine wpAny_bind ?_
  unfold Builtin.List.listItems
  refine wpAny_bind (wpAny_seqItems hS rfl (wpAny_pure ?_))
  show wpAny _ _ (updateSeq S (fun _ => #[]) >>= fun _ => letGo (#[] : Array Value).toList.reverse >>= fun _ => Builtin.List.listExtendWith (.ref S) (.ref z) .none) _ _ s
  refine wpAny_bind (wpAny_updateSeq hS rfl ?_)
  have hS₂ := Heap.get?_update_self (Obj.mapSeq (fun _ => (#[] : Array Value))) hS rfl
  have oth : ∀ b o, b ≠ S → s.heap.get? b = some o → (s.heap.update S (Obj.mapSeq (fun _ => (#[] : Array Value)))).get? b = some o :=
    fun b o hb e => (Heap.get?_update_other _ _ (Ne.symm hb)).trans e
  refine wpAny_bind (wpAny_letGo ?_)
  refine zl_extend hh D hlt hsz hn .none (hst.at S (Nat.le_refl _) neS oth) (oth z _ (neS z (by simp)) hz) _ hS₂ fun h' tk acc c as hk hS' hl hG hacc => ?_
  exact hR h' tk acc c as (fun b o hb e => hk b o hb (oth b o (fun q => hb (by simp [q])) e)) hS' hl hG hacc
theorem zl_call {Q : Value → Shared → Prop} (hh : A.handled = none) (D : ZipApart z TI TO i1 i2 l1 l2) (hlt : ∀ c ∈ [z, TI, TO, i1, i2, l1, l2], c < s.heap.objs.size) (hsz : xs.size = ys.size) (hn : xs.size ≤ sizeLine)
    (hst : ∀ lo, ZlSt s.heap z TI TO i1 i2 l1 l2 xs ys lo 0) (hz : IsZip s.heap z TI TO .none)
    (hQ : ∀ h' tk acc c as, (∀ b o, b ∉ [z, TO, i1, i2] → s.heap.get? b = some o → h'.get? b = some o) → h'.get? s.heap.objs.size = some { cls := .type "list", dict := none, data := .seq acc c, slots := #[] } → as.length = xs.size → ZlG xs ys s.heap.objs.size h' as →
      acc.toList = as.map Value.ref → Q (.ref s.heap.objs.size) { s with heap := h', toks := tk }) :
    wpAny (model prog w) A (call (.type "list") [.ref z]) Q E s := by
  refine callType_codes (Q₁ := fun obj s₁ => obj = .ref s.heap.objs.size ∧ s₁ = { s with heap := s.heap.push { cls := .type "list", data := .seq #[] } }) PySem.F.called_list (PySem.F.typeCall_list_1 _) PySem.F.entry_list_init
    (code_list_new _ ⟨rfl, rfl⟩) fun obj s₁ h₁ => ?_
  obtain ⟨rfl, rfl⟩ := h₁
  have hS : (s.heap.push { cls := .type "list", data := .seq #[] }).get? s.heap.objs.size = some { cls := .type "list", data := .seq #[] } := Heap.get?_push_size _ rfl
  have neS : ∀ c ∈ [z, TI, TO, i1, i2, l1, l2], c ≠ s.heap.objs.size := fun c hc => Nat.ne_of_lt (hlt c hc)
  refine ⟨⟨_, hS, rfl⟩, PySem.F.args_list_init_2 _ _, zl_init (A := A.in1) (xs := xs) (ys := ys) hh D hlt hsz hn ((hst s.heap.objs.size).at s.heap.objs.size (Nat.le_refl _) neS fun b o _ e => Heap.get?_push_of_some _ e) (Heap.get?_push_of_some _ hz) hS fun h' tk acc c as hk hS' hl hG hacc => ?_⟩
  refine ⟨rfl, hQ h' tk acc c as (fun b o hb e => hk b o ?_ (Heap.get?_push_of_some _ e)) hS' hl hG hacc⟩
  simp only [List.mem_cons, List.not_mem_nil, or_false, not_or] at hb ⊢
  exact ⟨Nat.ne_of_lt (Heap.lt_size e), hb⟩
end
/-! ### as a rule -/
/-- the pairs, tracked -/
def trk (H : Hp) : List Addr → List V → List V → Hp
  | a :: as, u :: us, w :: ws => upd (trk H as us ws) a (.tup [u, w])
  | _, _, _ => H
theorem trk_out {H : Hp} : ∀ {as : List Addr} {us ws : List V} {b : Addr}, b ∉ as → trk H as us ws b = H b
  | [], _, _, _, _ => by simp [trk]
  | a :: as, [], _, _, _ => by simp [trk]
  | a :: as, u :: us, [], _, _ => by simp [trk]
  | a :: as, u :: us, w :: ws, b, h => by
    rw [trk, upd_ne (fun e => h (by simp [e]))]
    exact trk_out fun q => h (by simp [q])
theorem trk_in {H : Hp} : ∀ {as : List Addr} {us ws : List V} {j : Nat} {a : Addr} {u w : V}, as.Pairwise (· < ·) → as[j]? = some a → us[j]? = some u → ws[j]? = some w → trk H as us ws a = some (.tup [u, w])
  | [], _, _, _, _, _, _, _, h, _, _ => by simp at h
  | a :: as, [], _, _, _, _, _, _, _, h, _ => by simp at h
  | a :: as, u :: us, [], _, _, _, _, _, _, _, h => by simp at h
  | a :: as, u :: us, w :: ws, 0, b, u', w', p, h1, h2, h3 => by
    simp at h1 h2 h3
    subst h1 h2 h3
    rw [trk, upd_same]
  | a :: as, u :: us, w :: ws, j + 1, b, u', w', p, h1, h2, h3 => by
    simp only [List.getElem?_cons_succ] at h1 h2 h3
    obtain ⟨p1, p2⟩ := List.pairwise_cons.mp p
    have := p1 b (List.mem_of_getElem? h1)
    rw [trk, upd_ne (Nat.ne_of_gt this)]
    exact trk_in p2 h1 h2 h3
section
variable {X : Cx} {pins : List (Addr × Obj)} {σ : List (Option V)} {H H' : Hp} {s : Shared} {h' : Heap}
/-- many new objects at once -/
theorem inv_many {t' : Nat} (I : Inv X pins σ H s) (k : ∀ b u, s.heap.get? b = some u → h'.get? b = some u) (old : ∀ b, b < s.heap.objs.size → H' b = H b) (new : ∀ b o, s.heap.objs.size ≤ b → H' b = some o → ObjOk X.prog X.w H' h' b o) :
    Inv X pins σ H' { s with heap := h', toks := t' } := by
  have lt : ∀ b o, H b = some o → b < s.heap.objs.size := fun b o e => I.hok.lt e
  refine I.step (g' := s.gens) (d' := s.drawn) (ch := []) (fun _ z => nomatch z) (fun b o _ _ _ e _ => k b o e) (fun b o _ _ _ e _ => ⟨o.slots, k b o e⟩) (fun b o _ e n => ?_) (fun b o _ e => ⟨o, k b o e⟩) (fun b xs e => ?_) (fun b o u e => ?_) (fun b ps e => ⟨#[], ?_⟩) (fun m hm => ?_) (fun b u e => ?_) I.bare
  · rw [old b (Heap.lt_size e)]; exact n
  · rw [old b (lt b _ e)]; exact e
  · rw [old b (lt b _ e)]; exact e
  · rw [old b (lt b _ e), e]; simp
  · obtain ⟨o, es, ep, ho, r⟩ := hm
    exact ⟨o, es, ep, k _ o ho, r⟩
  · by_cases hb : b < s.heap.objs.size
    · rw [old b hb] at e
      exact (I.hok b u e).stay (fun c v _ q => k c v q) (fun c q => by rw [old c (lt c _ q)]; exact q) fun c xs q => by rw [old c (lt c _ q)]; exact q
    · exact new b u (Nat.le_of_not_lt hb) e
end
def tLZ (K : PySem.W.Frag) (ta : TA) : TE := fun σ H Q => ta σ H fun vs H1 => ∃ a b us ws, vs = [.ref a, .ref b] ∧ SqL K H1 a us ∧ SqL K H1 b ws ∧ us.length = ws.length ∧
  ∀ (S : Addr) (as : List Addr), as.length = us.length → as.Pairwise (· < ·) → (∀ c ∈ as, S < c ∧ H1 c = none) → H1 S = none → Q (.ref S) (upd (trk H1 as us ws) S (.lst (as.map V.ref)))
theorem vals_refs : ∀ as : List Addr, Vals (as.map V.ref) (as.map Value.ref)
  | [] => .nil
  | a :: as => .cons rfl (vals_refs as)
theorem pe_listZip {X : Cx} {e e2 : Expr} {ta : TA} {pl pz cl cz : Pos} (hcm : X.calm = true) (hgl : Gl X "list") (hml : X.mg "list" = none) (hgz : Gl X "zip") (hmz : X.mg "zip" = none) (ha : PA X [e, e2] ta)
    (hs : starEach [e, e2] X.env = (false, eval e X.env) :: starEach [e2] X.env) (hpl : (backTo cz (starEach [e2] X.env)).any (·.1) = false) :
    PE X (.Call (.Name "list" pl) [.Call (.Name "zip" pz) [e, e2] [] cz] [] cl) (tLZ X.K ta) := by
  refine ⟨fun pins s σ H Q I h => Call_ (ld_blt I hgl hml PyProof.Rows.boot_list (PyProof.Rows.callWith_type1 (args_cons ?_)))⟩
  refine Call_ (ld_blt I hgz hmz PyProof.Rows.boot_zip (PyProof.Rows.callWith_type1 (thn (ha.run cz pins s σ H _ I h) fun vals s1 hx => ?_) hs hpl))
  obtain ⟨vs, H1, I1, r1, a, b, us, ws, rfl, qu, qw, hlen, q⟩ := hx
  obtain ⟨va, vb, rfl, ra, rb⟩ : ∃ va vb, vals = [va, vb] ∧ RelV (.ref a) va ∧ RelV (.ref b) vb := by
    cases r1 with
    | cons r r2 => cases r2 with
      | cons r' r3 => cases r3; exact ⟨_, _, rfl, r, r'⟩
  cases ra
  cases rb
  generalize hN : s1.heap.objs.size = N
  obtain ⟨its, rv, t1, z1⟩ := I1.list qu
  obtain ⟨jts, rw', t2, z2⟩ := I1.list qw
  have la : a < N := hN ▸ t1.lt
  have lb : b < N := hN ▸ t2.lt
  have n1 := rv.length
  have n2 := rw'.length
  refine zip_begins2 (begins_list a its.toArray) (begins_list b jts.toArray) t1.isList t2.isList fun h' hz hp hq g1 g2 hsz keep => ?_
  rw [hN] at hz hp hq g1 g2 hsz ⊢
  refine args_nil ?_
  have D : ZipApart (N + 4) (N + 2) (N + 3) N (N + 1) a b := PySem.W.ktu_apart N a b la lb
  have hh : X.A.handled = none := I1.ok.hd hcm
  have zz : ∀ c ∈ [N + 4, N + 2, N + 3, N, N + 1, a, b], c < h'.objs.size := fun c hc => by
    rw [hsz]
    simp only [List.mem_cons, List.not_mem_nil, or_false] at hc
    rcases hc with rfl | rfl | rfl | rfl | rfl | rfl | rfl
    · exact Nat.lt_succ_self _
    · exact Nat.add_lt_add_left (by decide) N
    · exact Nat.add_lt_add_left (by decide) N
    · exact Nat.lt_add_of_pos_right (by decide)
    · exact Nat.add_lt_add_left (by decide) N
    · exact Nat.lt_trans la (Nat.lt_add_of_pos_right (by decide))
    · exact Nat.lt_trans lb (Nat.lt_add_of_pos_right (by decide))
  have hst : ∀ lo, ZlSt h' (N + 4) (N + 2) (N + 3) N (N + 1) a b its.toArray jts.toArray lo 0 := fun lo =>
    ⟨hp, ⟨_, g1, rfl, rfl⟩, ⟨_, g2, rfl, rfl⟩, (let ⟨o, e, r⟩ := t1.isList; ⟨o, keep a o e, r⟩), (let ⟨o, e, r⟩ := t2.isList; ⟨o, keep b o e, r⟩), .inl ⟨hz, _, _, hq⟩⟩
  refine zl_call (s := { s1 with heap := h' }) hh D zz (by rw [List.size_toArray, List.size_toArray, ← n1, ← n2, hlen]) (by rw [List.size_toArray, ← n1]; exact z1) hst hz fun h2 tk acc c as hk hS hl hG hacc => ?_
  dsimp only at hk hS hG ⊢
  generalize hSS : h'.objs.size = S at *
  have ltN : ∀ {b}, b < N → b < S := fun {b} hb => by rw [hsz]; exact Nat.lt_trans hb (Nat.lt_add_of_pos_right (by decide))
  have hal : as.length = us.length := by rw [hl, List.size_toArray, n1]
  have fresh : ∀ c, N ≤ c → H1 c = none := fun c hc => I1.hok.fresh (by rw [hN]; exact hc)
  have NS : N ≤ S := by rw [hsz]; exact Nat.le_add_right _ _
  have asS : ∀ c ∈ as, S < c ∧ H1 c = none := fun c hc => ⟨hG.above c hc, fresh c (Nat.le_trans NS (Nat.le_of_lt (hG.above c hc)))⟩
  refine ⟨.ref S, upd (trk H1 as us ws) S (.lst (as.map V.ref)), ?_, rfl, q S as hal hG.rise asS (fresh S NS)⟩
  refine inv_many (h' := h2) (t' := tk) I1 (fun b u e => ?_) (fun b hb => ?_) (fun b o hb e => ?_)
  · have hb : b < N := hN ▸ Heap.lt_size e
    refine hk b u ?_ (keep b u e)
    simp only [List.mem_cons, List.not_mem_nil, or_false, not_or]
    exact ⟨Nat.ne_of_lt (Nat.lt_trans hb (Nat.lt_add_of_pos_right (by decide))), Nat.ne_of_lt (Nat.lt_trans hb (Nat.lt_add_of_pos_right (by decide))), Nat.ne_of_lt hb, Nat.ne_of_lt (Nat.lt_succ_of_lt hb)⟩
  · rw [hN] at hb
    have hbS := ltN hb
    rw [upd_ne (Nat.ne_of_lt hbS)]
    exact trk_out fun hm => Nat.lt_irrefl _ (Nat.lt_trans hbS (hG.above b hm))
  · rw [hN] at hb
    by_cases eS : b = S
    · subst eS
      rw [upd_same] at e
      cases e
      refine ⟨by rw [List.length_map, hal]; exact z1, as.map Value.ref, c, vals_refs as, ?_⟩
      rw [← hacc]
      exact hS
    · rw [upd_ne eS] at e
      by_cases hm : b ∈ as
      · obtain ⟨j, hj⟩ := List.mem_iff_getElem?.mp hm
        have hjl := (List.getElem?_eq_some_iff.mp hj).1
        have e1 : us[j]? = some us[j] := List.getElem?_eq_getElem (by omega)
        have e2 : ws[j]? = some (ws[j]'(by omega)) := List.getElem?_eq_getElem (by omega)
        rw [trk_in hG.rise hj e1 e2] at e
        cases e
        obtain ⟨x, y, hx, hy, hp2⟩ := hG.pairs j b hj
        obtain ⟨x', hx', rx⟩ := rv.get e1
        obtain ⟨y', hy', ry⟩ := rw'.get e2
        rw [List.getElem?_toArray] at hx hy
        rw [hx] at hx'
        rw [hy] at hy'
        cases hx'
        cases hy'
        exact ⟨by show 2 ≤ sizeLine; decide, [x, y], .cons rx (.cons ry .nil), _, hp2, rfl, _, rfl⟩
      · rw [trk_out hm, fresh b hb] at e
        cases e
end Bk
set_option maxHeartbeats 4000000
/-! RunX1: an own error over ValueError whose __init__ says super().__init__("..") and keeps its value. -/
namespace Bk
open PySem PySem.W PySem.Calls PySem.Spec PyProof.Rows
section
variable {prog : Program} {w : World} {A : Around} {E : Value → Shared → Prop} {R : Result → Shared → Prop} {h : Heap} {g : Array GenState} {d : Drawn} {t : Nat} {os : OsState}
variable {nm q : Str} {C N : Addr} {bs bm : List Value} {hdct : Bool} {sn : List Str} {sub : List Value} {ab : Bool} {col : Option Bool} {dd : Option Addr} {k0 k1 k2 k3 k5 : Option Value}
/-- ValueError's __init__, bound to an error, called -/
theorem x_bound {u e t0 : Addr} {rest : List Value} {Q : Value → Shared → Prop}
    (hC : h.get? C = some (excClassObj nm q C N bs bm hdct sn sub ab col dd k0 k1 k2 k3 k5 "ValueError.__new__")) (he : h.get? e = some (HandSPX.excO C t0)) (hu : h.get? u = some (kxs_mw "ValueError.__init__" e)) (hl : rest.length ≤ sizeLine)
    (fin : ∀ h' t1, (∀ b o, b ≠ e → h.get? b = some o → h'.get? b = some o) → h'.get? e = some (HandSPX.excO C t1) → Q .none ⟨h', g, d, t, os⟩) :
    wpAny (model prog w) A (call (.ref u) rest) Q E ⟨h, g, d, t, os⟩ := by
  refine wpAny_call (codeAny_of_tree ?tree)
  case tree =>
    show wpAny _ A.in1 (callAny (.ref u) ⟨rest, []⟩) _ _ _
    simp only [callAny]
    refine wpAny_bind (wpAny_load hu ?_)
    have e1 : (Value.type "method-wrapper" == Value.type "method" || Value.type "method-wrapper" == Value.type "builtin_function_or_method" || Value.type "method-wrapper" == Value.type "method-wrapper") = true := by decide
    simp only [kxs_mw, e1, if_true]
    refine KFB.if_so (by decide) (wpAny_bind (check_bound_init F.excBase_ValueError.toExcCallFacts hC he rfl (wpAny_bind (wpAny_pure (wpAny_pure ?_)))))
    refine ⟨plainId_quiet F.excBase_ValueError.init.plain _, codeAny_builtin F.excBase_ValueError.initEntry ?_⟩
    exact exc_init_tree (cls := .ref C) (t0 := t0) (dv := none) (c2 := .none) (c3 := .none) (b4 := .bool false) he hl fun h' k1 k2 _ => fin h' _ k1 k2

/-! ### the text of __init__ -/
abbrev xScope : Scope := { kind := .function, names := [("self", .local), ("value", .local), ("__class__", .free), ("super", .globalImplicit)], isGenerator := false, isCoroutine := false, more := [] }
abbrev xParams (p1 p2 : Pos) : Arguments := { posonlyargs := [], args := [{ arg := "self", annotation := none, pos := p1 }, { arg := "value", annotation := none, pos := p2 }], vararg := none, kwonlyargs := [], kw_defaults := [], kwarg := none, defaults := [] }
abbrev xSup (text : Str) (a b c d e : Pos) : Expr := .Call (.Attribute (.Call (.Name "super" a) [] [] b) "__init__" c) [.Constant (.str text) 0 d] [] e
abbrev xBody (text : Str) (a b c d e f i j k l : Pos) : List Stmt := [.Expr (xSup text a b c d e) f, .Assign [.Attribute (.Name "self" i) "value" j] (.Name "value" k) l]
abbrev xFd (text : Str) (p1 p2 a b c d e f i j k l : Pos) (cc : Addr) (dV kV doc pm : Value) (an : Option Addr) (cdv ct : Value) : FuncData :=
  { name := "__init__", qualname := "BucketError.__init__", params := xParams p1 p2, body := .stmts (xBody text a b c d e f i j k l), scope := xScope, globals := mainGlobals, closure := [("__class__", cc)], defaults := dV, kwdefaults := kV, doc, pyModule := pm, annotations := an, code := cdv, closureTuple := ct, builtins := builtinsNs }
/-- what is known of the error class at D and its __init__ at fI -/
structure XBase (K : Frag) (p : Program) (D fI : Addr) : Prop where
  fn : ∃ text p1 p2 a b c d e f i j k l cc kV doc pm an cd ct oc od osl, K.lookup fI = some ⟨oc, od, .func (xFd text p1 p2 a b c d e f i j k l cc .none kV doc pm an (.ref cd) ct), osl⟩ ∧ codeIn K (.ref cd) "BucketError.__init__" = true ∧ (c.endLine == e.line) = true ∧
    (∃ o, K.lookup cc = some o ∧ o.data = .cell (some (.ref D))) ∧ ∃ oc2 vs file tf, K.lookup cd = some oc2 ∧ oc2.data = .fields vs ∧ vs[2]? = some (.str file tf) ∧ (p.main.file == file) = true
  top : (p.main.scope.names.lookup ("super" : Str)).isSome = false
  cD : (clsIn K D).isSome = true
  opq : nsIn K cStatics "thirdparty.any" = some none
/-- and of an error class at C that has this __init__ -/
structure XCls (K : Frag) (D C : Addr) : Prop where
  o : L2.OexC K C
  sup : ks_superIn K C D "__init__" = some (some (.builtin "ValueError.__init__"))
  sD : subIn K (.ref C) (.ref D) = some true
  sV : subIn K (.ref C) (.type "ValueError") = some true
  no : findIn K (.ref C) "value" = some none
theorem xpush {hh : Heap} {o : Obj} {b : Addr} {v : Obj} (e : hh.get? b = some v) : (hh.push o).get? b = some v := Heap.get?_push_of_some _ e
/-- super().__init__(text) -/
theorem x_super {K : Frag} {D fI L e t0 cc : Addr} {text : Str} {p1 p2 pa pb pc pd pe pf pi pj pk pl : Pos} {dV kV doc pm ct : Value} {an : Option Addr} {cd : Addr} {oc2 : Obj} {vs : Array Value} {file : Str} {tf : Tok} {body : List Stmt} {m mg mb : Str → Option Value} {of : Obj} {Q : Value → Shared → Prop}
    (hpos : (pc.endLine == pe.line) = true) (X : K.In h) (T : XCls K D C) (B : (clsIn K D).isSome = true) (opq : nsIn K cStatics "thirdparty.any" = some none) (he : h.get? e = some (HandSPX.excO C t0))
    (hf : h.get? fI = some of) (hfd : of.data = .func (xFd text p1 p2 pa pb pc pd pe pf pi pj pk pl cc dV kV doc pm an (.ref cd) ct)) (hcc : h.IsCell cc (some (.ref D)))
    (hcd : h.get? cd = some oc2) (hcv : oc2.data = .fields vs) (hv2 : vs[2]? = some (.str file tf)) (hfl : (prog.main.file == file) = true) (htop : (prog.main.scope.names.lookup ("super" : Str)).isSome = false)
    (hL : h.Ns L m) (hself : m "self" = some (.ref e)) (hg : h.Ns mainGlobals mg) (hmg : mg "super" = none) (hb : h.Ns builtinsNs mb) (hmb : mb "super" = some (.type "super"))
    (fin : ∀ h' t1 tk, (∀ b o, b ≠ e → h.get? b = some o → h'.get? b = some o) → h'.get? e = some (HandSPX.excO C t1) → Q .none ⟨h', g, d, tk, os⟩) :
    PySem.wpAt (model prog w) A (.func body (callEnv (xFd text p1 p2 pa pb pc pd pe pf pi pj pk pl cc dV kV doc pm an (.ref cd) ct) L fI)) (eval (xSup text pa pb pc pd pe) (callEnv (xFd text p1 p2 pa pb pc pd pe pf pi pj pk pl cc dV kV doc pm an (.ref cd) ct) L fI)) Q E ⟨h, g, d, t, os⟩ := by
  obtain ⟨cdD, hD⟩ := Option.isSome_iff_exists.mp B
  obtain ⟨nm, q, N, bs, bm, sn, sub, ab, col, dd, k0, k1, k2, k3, k5, hC, hbm⟩ := T.o.cls
  have hCh := X _ _ hC
  have hD2 : ∃ oD, h.get? D = some oD ∧ oD.data = .cls cdD := by
    unfold clsIn at hD
    split at hD
    · rename_i c0 d0 cd0 sl0 ho
      cases hD
      exact ⟨_, X _ _ ho, rfl⟩
    · cases hD
  obtain ⟨oD, hDh, hDd⟩ := hD2
  refine ks_wpAt_MethodCall (pl := do return (← importBound (.Call (.Name "super" pa) [] [] pb) (callEnv (xFd text p1 p2 pa pb pc pd pe pf pi pj pk pl cc dV kV doc pm an (.ref cd) ct) L fI)).getD true) ?_ ?_
  rotate_left
  · rw [arm_eval_Call]
    unfold methodCall
    rw [show methodCallForm ([Expr.Constant (.str text) 0 pd].length + ([] : List Keyword).length) (backTo pe (starEach [Expr.Constant (.str text) 0 pd] (callEnv (xFd text p1 p2 pa pb pc pd pe pf pi pj pk pl cc dV kV doc pm an (.ref cd) ct) L fI))) (backToKw pe (keywordEach [] (callEnv (xFd text p1 p2 pa pb pc pd pe pf pi pj pk pl cc dV kV doc pm an (.ref cd) ct) L fI))) = true from rfl]
    simp only [calleeOf, methodCallPos, hpos, Bool.not_true, Bool.false_or, if_true, pure_bind]
    rfl
  refine ks_wpAt_super_base (by rfl) (by rfl) (by rfl) (by rfl) hf hfd (by rfl) (by rfl) hcd hcv hv2 hfl htop ?_
  have n0 : ∀ Q0 : Value → Shared → Prop, Q0 (.type "super") ⟨h, g, d, t, os⟩ → wpAny (model prog w) A (loadName (callEnv (xFd text p1 p2 pa pb pc pd pe pf pi pj pk pl cc dV kV doc pm an (.ref cd) ct) L fI) "super") Q0 E ⟨h, g, d, t, os⟩ := fun Q0 q0 => by
    unfold loadName
    simp only [Env.blockKind, show (callEnv (xFd text p1 p2 pa pb pc pd pe pf pi pj pk pl cc dV kV doc pm an (.ref cd) ct) L fI).scope.kind = .function from rfl, show (callEnv (xFd text p1 p2 pa pb pc pd pe pf pi pj pk pl cc dV kV doc pm an (.ref cd) ct) L fI).kindOf "super" = some .globalImplicit from rfl, ScopeKind.isAnnotationScope, Bool.false_and, Bool.false_eq_true, if_false]
    exact loadGlobal_builtin hg hmg hb hmb q0
  refine n0 _ ⟨rfl, ?_⟩
  refine wpAny_loadName_free (c := cc) rfl rfl rfl hcc ?_
  refine wpAny_loadName_local rfl rfl hL hself ?_
  refine ks_wpAny_isType_cls hDh hDd ⟨rfl, ?_⟩
  have hsub := looks_subIn (M := model prog w) X T.sD
  refine ks_wpAny_call_super hDh hDd he rfl (fun _ z => nomatch z) hsub fun h1 so1 kp1 => ?_
  have X1 : K.In h1 := X.keeps kp1
  have he1 := kp1 _ _ he
  have I1 : InstAt h1 e (HandSPX.excO C t0) C none := ⟨he1, rfl, rfl, trivial⟩
  have hI1 : Looks (model prog w) h1 (isInstance (.ref e) (.type "ValueError")) true := I1.type.andThen (looks_subIn X1 T.sV)
  have hcC : ∃ cdC, clsIn K C = some cdC := by
    unfold clsIn
    rw [hC]
    exact ⟨_, rfl⟩
  obtain ⟨cdC, hcC⟩ := hcC
  have hs := T.sup
  unfold ks_superIn at hs
  rw [hcC] at hs
  have hmro : Looks (model prog w) h1 (mroOf (.ref C)) cdC.mro := fun A Q E s k q => wpAny_bind ((looks_clsIn X1 hcC) A _ E s k (wpAny_pure q))
  refine kxs_getMethod kxs_ValueError so1 (looks_opaque X1 opq) hmro rfl X1 hs hI1 (ks_ne X1 I1 hcC) rfl ?_
  have he2 : (h1.push (kxs_mw "ValueError.__init__" e)).get? e = some (HandSPX.excO C t0) := xpush he1
  have hC2 := xpush (o := kxs_mw "ValueError.__init__" e) (kp1 _ _ hCh)
  have hu2 : (h1.push (kxs_mw "ValueError.__init__" e)).get? h1.objs.size = some (kxs_mw "ValueError.__init__" e) := Heap.get?_push_at rfl rfl
  refine kxs_callWith (i := "ValueError.__init__") (x := e) rfl (evalArgs_plain ?_)
  refine spliced_cons (Constant_str (k := 0) (pos := pd) (spliced_nil ⟨hu2, ?_⟩))
  refine x_bound hC2 he2 hu2 (by rw [sizeLine_eq]; exact Nat.le_of_lt (by decide : 1 < 16777216)) fun h3 t1 kp3 e3 => ?_
  exact fin h3 t1 _ (fun b o hb ho => kp3 b o hb (xpush (kp1 b o ho))) e3
/-- self.value = value -/
theorem x_store {K : Frag} {D e t1 L fI cc : Addr} {text : Str} {p1 p2 pa pb pc pd pe pf pi pj pk pl : Pos} {dV kV doc pm cdv ct : Value} {an : Option Addr} {m : Str → Option Value} {v : Value} {Q : Flow → Shared → Prop}
    (X : K.In h) (T : XCls K D C) (he : h.get? e = some (HandSPX.excO C t1)) (hL : h.Ns L m) (hself : m "self" = some (.ref e)) (hval : m "value" = some v)
    (fin : ∀ h' tk dx, (∀ b o, b ≠ e → h.get? b = some o → h'.get? b = some o) → h.objs.size ≤ dx → dx ≠ e → h'.get? e = some { cls := .ref C, dict := some dx, data := .fields #[.ref t1, .none, .none, .none, .bool false, .none] } →
      h'.Ns1 dx (fun y => if y = "value" then some v else none) → Q .next ⟨h', g, d, tk, os⟩) :
    wpAny (model prog w) A (PySem.exec (.Assign [.Attribute (.Name "self" pi) "value" pj] (.Name "value" pk) pl) (callEnv (xFd text p1 p2 pa pb pc pd pe pf pi pj pk pl cc dV kV doc pm an cdv ct) L fI)) Q E ⟨h, g, d, t, os⟩ := by
  obtain ⟨nm, q, N, bs, bm, sn, sub, ab, col, dd, k0, k1, k2, k3, k5, hC, hbm⟩ := T.o.cls
  have hcl : clsIn K C = some { name := nm, bases := bs, mro := .ref C :: bm, ns := N, qualname := q, hasDict := true, slotNames := sn, subclasses := sub, abstract := ab, collection := col, hasDel := false } := by
    unfold clsIn
    rw [hC]
  refine plainObj_wpAny_Assign_Attribute ?_ (by rfl)
  refine ldc (by rfl) (by rfl) hL hval ?_
  refine ldc (by rfl) (by rfl) hL hself ?_
  have I : InstAt h e (HandSPX.excO C t1) C none := ⟨he, rfl, rfl, trivial⟩
  refine set_plain X I T.o.sa ?_
  exact HandSPX.exc_osa X he hcl (show HandSPX.refsVE (.ref C :: bm) = true from hbm) rfl T.no fin
end
section
open L2
variable {P : Program} {w : World} {K : Frag} {mg : Str → Option Value} {base : Heap} {CXT' : CXT}
/-- __init__ of an error that has no dict yet -/
def spI (K : Frag) (D : Addr) : Sp := fun vs H Q E => ∃ (a C : Addr) (y : V), vs = [.ref a, y] ∧ XCls K D C ∧ H a = some (exo a C none) ∧ ∀ dx, H dx = none → dx ≠ a → Q .non (upd (upd H dx (exd dx [("value", y)])) a (exo a C (some dx)))
theorem x_init {D fI : Addr} {k : Nat} (B : XBase K P D fI) (hsup : mg "super" = none) : ∃ fd, (∃ oc od osl, K.lookup fI = some ⟨oc, od, .func fd, osl⟩) ∧ Binds K fd ["self", "value"] [] ∧ FnOk P w K mg base CXT' (k + 1) fI fd ["self", "value"] (spI K D) := by
  obtain ⟨text, p1, p2, a, b, c, d, e, f, i, j, kk, l, cc, kV, doc, pm, an, cd, ct, oc, od, osl, lk, hci, hpos, ⟨occ, hlc, hdc⟩, oc2, vs2, file, tf, hl2, hd2, hv2, hfile⟩ := B.fn
  refine ⟨_, ⟨oc, od, osl, lk⟩, ?bnd, ⟨fun vs H Q E h => ?_, fun A outer s H args us vs Q E hr e0 hb r hsp => ?_⟩⟩
  case bnd => exact fun s us _ h => .of_eq (by
      match us, h with
      | [x, y], _ => rfl)
  · obtain ⟨_, _, _, rfl, _⟩ := h
    rfl
  obtain ⟨a0, C, y, rfl, T, ea, hfin⟩ := hsp
  obtain ⟨u2, rfl, r3⟩ : ∃ u2, us = [Value.ref a0, u2] ∧ RelV y u2 := by
    cases r with
    | @cons _ u1 _ _ r1 r2 =>
      cases r2 with
      | @cons _ u2 _ _ r3 r4 =>
        cases r4
        obtain rfl : u1 = Value.ref a0 := r1
        exact ⟨u2, rfl, r3⟩
  have KX : K.In s.heap := e0.mod.kin.keeps fun b o e => (e0.bs b o e).1
  have lim : s.heap.NoLimit := e0.mod.nolimit.keeps fun b o e => (e0.bs b o e).1
  obtain ⟨t0, ho⟩ := exo_at e0.hok ea
  obtain ⟨mb, hmb, hbo⟩ := e0.mod.blt
  obtain ⟨hp, g, dr, tk0, os⟩ := s
  dsimp only at KX lim ho
  refine ks_codeAny_call_defAt hr.depth (KX _ _ lk) rfl lim (codeRec_of KX hci) rfl hb (show ∀ x ∈ xScope.names, x.2 ≠ .cell by decide) ?loc fun h0 hns hk => ?_
  case loc =>
    intro x hx
    rcases List.mem_cons.mp hx with rfl | hx
    · rfl
    · rcases List.mem_cons.mp hx with rfl | hx
      · rfl
      · cases hx
  dsimp only at hns hk
  have ne0 : ∀ {b o}, base.get? b = some o → hp.get? b = some o := fun {b o} q => (e0.bs b o q).1
  have X0 : K.In h0 := KX.keeps hk
  have nsk : ∀ {b m}, base.Ns b m → h0.Ns b m := fun {b m} ⟨o, es, ep, q, r⟩ => ⟨o, es, ep, hk _ _ (ne0 q), r⟩
  have hLs : h0.Ns hp.objs.size (fun x => ([("self", Value.ref a0), ("value", u2)] : List (Str × Value)).reverse.lookup x) := hns
  refine ks_wpAt_execs_cons (ks_wpAt_Expr_any (x_super (L := hp.objs.size) (m := fun x => ([("self", Value.ref a0), ("value", u2)] : List (Str × Value)).reverse.lookup x) hpos X0 T B.cD B.opq (hk _ _ ho) (hk _ _ (KX _ _ lk)) rfl ⟨occ, hk _ _ (KX _ _ hlc), hdc⟩ (hk _ _ (KX _ _ hl2)) hd2 hv2 hfile B.top hLs (by rfl) (nsk e0.mod.glob) hsup (nsk hmb) ((hbo "super" (by decide)).trans (by rfl)) fun h1 t1 tk1 kp1 he1 => ?_))
  dsimp only
  have hsz : hp.objs.size ≠ a0 := Nat.ne_of_gt (Heap.lt_size ho)
  have hL1 : h1.Ns hp.objs.size (fun x => ([("self", Value.ref a0), ("value", u2)] : List (Str × Value)).reverse.lookup x) := by
    obtain ⟨o, es, ep, q, r⟩ := hLs
    exact ⟨o, es, ep, kp1 _ _ hsz q, r⟩
  have na : ∀ {b : Addr}, H b = none → b ≠ a0 := fun {b} n z => by
    rw [z, ea] at n
    cases n
  have X1 : K.In h1 := fun b o q => kp1 b o (na (e0.bs b o (e0.mod.kin b o q)).2) (X0 b o q)
  refine ks_wpAt_execs_cons (wpAt_of_wpAny (x_store (L := hp.objs.size) X1 T he1 hL1 (by rfl) (by rfl) fun h2 tk2 dx kp2 hdx hne e2 n2 => ?_))
  dsimp only
  refine wpAt_of_wpAny (wpAny_execs_nil ?_)
  have hall : ∀ {b o}, b ≠ a0 → hp.get? b = some o → h2.get? b = some o := fun {b o} n q => kp2 b o n (kp1 b o n (hk b o q))
  have hlt : ∀ {b o}, hp.get? b = some o → b ≠ dx := fun {b o} q => by
    by_cases hb : b = a0
    · rw [hb]; exact Ne.symm hne
    · exact Nat.ne_of_lt (Nat.lt_of_lt_of_le (Heap.lt_size (kp1 b o hb (hk b o q))) hdx)
  have hnd : H dx = none := e0.hok.fresh (Nat.le_of_lt (Nat.lt_of_lt_of_le hL1.lt hdx))
  refine ⟨.non, _, rfl, e0.bare, ?_, ?_, rfl, hfin dx hnd hne⟩
  · exact {
      keep := fun b o q n _ _ => hall (na n) q
      slot := fun b o q n _ _ => ⟨o.slots, hall (na n) q⟩
      free := fun b o q n _ => by rw [upd_ne (na n), upd_ne (hlt q)]; exact n
      there := fun b o q _ => by
        by_cases hb : b = a0
        · exact ⟨_, by rw [hb]; exact e2⟩
        · exact ⟨o, hall hb q⟩
      tups := fun b xs q => by rw [upd_ne (at_ne ea q exo_tup), upd_ne (ne_of_none q hnd)]; exact q
      frzs := fun b o v q => by rw [upd_ne (at_ne ea q exo_frz), upd_ne (ne_of_none q hnd)]; exact q
      tbls := fun b ps q => ⟨#[], by rw [upd_ne (at_ne ea q exo_tbl), upd_ne (ne_of_none q hnd), q]; simp⟩ }
  · intro b o q
    by_cases hb : b = a0
    · subst hb
      rw [upd_same] at q
      cases q
      exact exo_ok e2
    · rw [upd_ne hb] at q
      by_cases hd : b = dx
      · subst hd
        rw [upd_same] at q
        cases q
        exact exd_ok n2 (relO_put (fs := []) r3 fun g => True.intro)
      · rw [upd_ne hd] at q
        exact (e0.hok b o q).stay (fun c v hc z => hall (by
            rcases hc with hc | hc
            · rw [hc]
              exact hb
            · exact at_ne ea hc exo_own) z)
          (fun c hc => by rw [upd_ne (at_ne ea hc exo_own), upd_ne (ne_of_none hc hnd)]; exact hc) (fun c xs hc => by rw [upd_ne (at_ne ea hc exo_tup), upd_ne (ne_of_none hc hnd)]; exact hc)
end
end Bk
set_option maxHeartbeats 4000000
/-! RunX2: outcomes that may raise; an error made, caught, kept, looked at. -/
namespace Bk
open PySem PySem.Spec PyProof.Rows L2

/-- what is wanted of an outcome: of a value Q, of an error that leaves W -/
def Psx {α β : Type} (W : XK) (K : PySem.W.Frag) (R : List Addr → Hp → α → β → Prop) (ρ : List Addr) (H : Hp) (o : Out α) (Q : β → Hp → Prop) : Prop :=
  match o with
  | .ok v s => ∀ ρ' H' w, Ext ρ H ρ' H' → RelS K ρ' s H' → R ρ' H' v w → Q w H'
  | .exc c v s => ∀ ρ' H' (d C : Addr) (y : V), Ext ρ H ρ' H' → RelS K ρ' s H' → PySem.W.nsIn K mainGlobals c = some (some (.ref C)) → H' d = some (.xd [("value", y)]) → Rep K ρ' H' v y → W (.ref C) (some d) H'
  | .stuck => False
section
variable {α β γ δ : Type} {K : PySem.W.Frag} {W W' : XK} {R : List Addr → Hp → α → β → Prop} {S : List Addr → Hp → γ → δ → Prop} {ρ ρ' : List Addr} {H H' : Hp}
theorem Psx.up {o : Out α} {Q : β → Hp → Prop} (e : Ext ρ H ρ' H') (h : Psx W K R ρ H o Q) : Psx W K R ρ' H' o Q := by
  cases o with
  | ok v s => exact fun ρ2 H2 w e2 r2 q => h ρ2 H2 w (e.trans e2) r2 q
  | exc _ _ _ => exact fun ρ2 H2 d C y e2 => h ρ2 H2 d C y (e.trans e2)
  | stuck => exact h
theorem Psx.mono {o : Out α} {Q Q' : β → Hp → Prop} (h : Psx W K R ρ H o Q) (k : ∀ w H', Q w H' → Q' w H') : Psx W K R ρ H o Q' := by
  cases o with
  | ok v s => exact fun ρ2 H2 w e2 r2 q => k _ _ (h ρ2 H2 w e2 r2 q)
  | exc _ _ _ => exact h
  | stuck => exact h
theorem Psx.toW {o : Out α} {Q : β → Hp → Prop} (h : Psx W K R ρ H o Q) (k : ∀ c d H', W c d H' → W' c d H') : Psx W' K R ρ H o Q := by
  cases o with
  | ok v s => exact h
  | exc _ _ _ => exact fun ρ2 H2 d C y e2 r n x q => k _ _ _ (h ρ2 H2 d C y e2 r n x q)
  | stuck => exact h
theorem Psx.bind {o : Out α} {f : α → Sto → Out γ} {Q : δ → Hp → Prop} (h : Psx W K S ρ H (o.bind f) Q) :
    Psx W K R ρ H o fun w H1 => ∃ ρ1 v s1, Ext ρ H ρ1 H1 ∧ RelS K ρ1 s1 H1 ∧ R ρ1 H1 v w ∧ Psx W K S ρ1 H1 (f v s1) Q := by
  cases o with
  | ok v s => exact fun ρ1 H1 w e r q => ⟨ρ1, v, s, e, r, q, h.up e⟩
  | exc _ _ _ => exact h
  | stuck => exact h
theorem Psx.here {v : α} {s : Sto} {w : β} {Q : β → Hp → Prop} (h : Psx W K R ρ H (.ok v s) Q) (r : RelS K ρ s H) (q : R ρ H v w) : Q w H := h ρ H w (.refl _ _) r q
/-- nothing raised -/
def Out.calm : Out α → Bool
  | .exc _ _ _ => false
  | _ => true
theorem Psx.pst {o : Out α} {Q : β → Hp → Prop} (c : o.calm = true) (h : Psx W K R ρ H o Q) : Pst K R ρ H o Q := by
  cases o with
  | ok v s => exact h
  | exc _ _ _ => cases c
  | stuck => exact h
/-- what was made silent raises nothing -/
theorem Psx.nox {o : Out α} {Q : β → Hp → Prop} (h : Psx W K R ρ H o.nox Q) : Psx W' K R ρ H o Q := by
  cases o with
  | ok v s => exact h
  | exc _ _ _ => exact h.elim
  | stuck => exact h
end
section
variable {K : PySem.W.Frag} {W : XK} {ρ : List Addr} {H : Hp} {s : Sto} {Q : VK}
theorem Psx.pushed {o : Ob} {u : HO} (h : Psx W K (Rep K) ρ H (pushO o s) Q) (R : RelS K ρ s H) {p : Addr} (hp : H p = none) (ho : RepO K (ρ ++ [p]) (upd H p u) o p) : Q (.ref p) (upd H p u) := Pst.pushed (h.pst rfl) R hp ho
theorem Psx.pushedL {xs : List Val} {vs : List V} (h : Psx W K (Rep K) ρ H (pushO (.lst xs) s) Q) (R : RelS K ρ s H) (r : RepL K ρ H xs vs) {p : Addr} (hp : H p = none) : Q (.ref p) (upd H p (.lst vs)) := Pst.pushedL (h.pst rfl) R r hp
theorem Psx.tupled {xs : List Val} {vs : List V} (h : Psx W K (Rep K) ρ H (.ok (.tup xs) s) Q) (R : RelS K ρ s H) (r : RepL K ρ H xs vs) {p : Addr} (hp : H p = none) : Q (.ref p) (upd H p (.tup vs)) := Pst.tupled (h.pst rfl) R r hp
end
/-! ### the operators raise nothing -/
theorem calm_bin (o : Bop) (x y : Val) (s : Sto) : (binV o x y s).calm = true := by
  unfold binV
  repeat' split
  all_goals rfl
theorem calm_item (x y : Val) (s : Sto) : (itemV x y s).calm = true := by
  unfold itemV
  repeat' split
  all_goals rfl
theorem calm_cut (v : Val) (lo hi : Option Int) (s : Sto) : (cutV v lo hi s).calm = true := by
  unfold cutV
  repeat' split
  all_goals rfl
theorem calm_rev (v : Val) (s : Sto) : (revV v s).calm = true := by
  unfold revV
  repeat' split
  all_goals rfl
theorem calm_prim (p : Pr) (xs : List Val) (s : Sto) : (primV p xs s).calm = true := by
  unfold primV
  repeat' split
  all_goals rfl
theorem calm_meth (m : Me) (x : Val) (xs : List Val) (s : Sto) : (methV m x xs s).calm = true := by
  unfold methV
  repeat' split
  all_goals rfl
theorem calm_set (o i v : Val) (s : Sto) : (setV o i v s).calm = true := by
  unfold setV
  repeat' split
  all_goals rfl
theorem calm_setK (o v : Val) (ks : List Val) (s : Sto) : (setKV o ks v s).calm = true := by
  unfold setKV
  repeat' split
  all_goals rfl
end Bk
set_option maxHeartbeats 4000000
/-! RunD1: a def's promise where no guard stands; calls; the law's call. -/
namespace Bk
open PySem PySem.Spec PyProof.Rows L2

/-- like FnOk, where no guard stands -/
structure FnG (P : Program) (w : World) (K : PySem.W.Frag) (mg : Str → Option Value) (base : Heap) (CX : CXT) (k : Nat) (f : Addr) (fd : FuncData) (ps : List Str) (sp : Sp) : Prop where
  len : ∀ vs H Q E, sp vs H Q E → vs.length = ps.length
  run : ∀ (A : Around) (outer : List PySem.Env) (s : Shared) (H : Hp) (args : Args) (us : List Value) (vs : List V) (Q : VK) (E : XK), Room k A → A.guards = some [] → Env0 P w K mg base A outer s H → BindsTo s fd args (ps.zip us) → Vals vs us → sp vs H Q E →
    codeAny (model P w) A (.call (.ref f) args) (CR CX outer P w H s Q E) s
section
variable {P : Program} {w : World} {K : PySem.W.Frag} {mg : Str → Option Value} {base : Heap}
theorem fun_ok {CX : CXT} {x qual : Str} {st : Stmt} {f : Addr} {fd : FuncData} {N ps : List Str} {k : Nat} {sp : Sp} (F : Fun K x qual st f fd) (S : FnScope N ps (defScope st)) (len : ∀ vs H Q E, sp vs H Q E → vs.length = ps.length)
    (hbody : ∀ (cdv : Value) (A : Around) (outer : List PySem.Env) (s : Shared) (H : Hp) (vs : List V) (Q : VK) (E : XK), Room k (A.deeper (envOfC qual (defScope st) s.heap.objs.size f cdv)) → (A.deeper (envOfC qual (defScope st) s.heap.objs.size f cdv)).guards = some [] → sp vs H Q E →
      ∃ t, PSs (cxOf CX P w K mg base N qual (defScope st) f cdv A outer s H E) (defBody st) t ∧ t { nx := fun _ H' => Q .non H', rt := Q } (start N vs) H) : FnG P w K mg base CX (k + 1) f fd ps sp := by
  obtain ⟨oc, od, kV, doc, pm, an, cdv, ct, osl, rfl, lk, hcd⟩ := F.ex
  refine ⟨len, fun A outer s H args us vs Q E hr hgd e0 hb r hsp => ?_⟩
  have hl := len _ _ _ _ hsp
  have KX : K.In s.heap := e0.mod.kin.keeps fun b o e => (e0.bs b o e).1
  have lim : s.heap.NoLimit := e0.mod.nolimit.keeps fun b o e => (e0.bs b o e).1
  have hkind : ∀ y ∈ ps.zip us, (defScope st).names.lookup y.1 = some .local ∨ ((defScope st).names.lookup y.1 = some .cell ∧ ((cellsFrom (s.heap.objs.size + 1) (defScope st).names []).lookup y.1).isSome = true) := fun ⟨n, v⟩ hy => by
    rcases S.par n (List.of_mem_zip hy).1 with q | q
    · exact .inl q
    · exact .inr ⟨q, PySem.W.cellsFrom_some _ _ _ (.inl q)⟩
  refine codeAny_call_function hr.depth (KX _ _ lk) rfl S.co S.gen rfl (PySem.W.codeRec_of KX hcd) (hb _ _ _ _ ?_)
  refine wpAny_newFunctionEnv_cells S.kind hkind fun env he s1 x => ?_
  subst he
  refine ⟨lim.keeps x.toInCall.keep, codeAny_func ?_⟩
  obtain ⟨t, ht, hq⟩ := hbody cdv A outer s H vs Q E (hr.deeper _) hgd hsp
  have I : Inv (cxOf CX P w K mg base N qual (defScope st) f cdv A outer s H E) [] (start N vs) H s1 := inv_start S hr.hd e0 hl r x
  refine wpAny_mono (ht.run [] s1 (start N vs) H _ I hq) (fun fl s' hs => ?_) fun e s' hs => hs
  have fin : ∀ {σ' : L2.St} {H' : Hp} {v : V} {u : Value}, Inv (cxOf CX P w K mg base N qual (defScope st) f cdv A outer s H E) [] σ' H' s' → RelV v u → Q v H' → CE outer P w H s Q u s' :=
    fun {σ' H' v u} J rv q => ⟨v, H', J.os, J.bare, J.base, J.hok, rv, q⟩
  cases fl with
  | ret u =>
    obtain ⟨v, σ', H', J, rv, q⟩ := hs
    exact fin J rv q
  | next =>
    obtain ⟨σ', H', J, q⟩ := hs
    exact fin (v := V.non) (u := Value.none) J rfl q
  | brk =>
    obtain ⟨_, _, _, q⟩ := hs
    exact False.elim q
  | cont =>
    obtain ⟨_, _, _, q⟩ := hs
    exact False.elim q
end

/-- how a call binds: np by position, ks by name -/
structure KB (K : PySem.W.Frag) (fd : FuncData) (ps : List Str) (np : Nat) (ks : List Str) : Prop where
  to : ∀ (s : Shared) (us ws : List Value), K.In s.heap → us.length = np → ws.length = ks.length → BindsTo s fd ⟨us, ks.zip ws⟩ (ps.zip (ordK (ixK ps np ks) (us ++ ws)))
theorem vals_get : ∀ {vs : List V} {us : List Value} (i : Nat), Vals vs us → (vs[i]? = none ∧ us[i]? = none) ∨ ∃ v u, vs[i]? = some v ∧ us[i]? = some u ∧ RelV v u
  | _, _, i, .nil => .inl ⟨rfl, rfl⟩
  | _, _, 0, .cons r t => .inr ⟨_, _, rfl, rfl, r⟩
  | _, _, i + 1, .cons r t => by simpa using vals_get i t
theorem vals_ord {vs : List V} {us : List Value} (r : Vals vs us) : ∀ ix : List Nat, Vals (ordK ix vs) (ordK ix us)
  | [] => .nil
  | i :: ix => by
    unfold ordK
    rw [List.filterMap_cons, List.filterMap_cons]
    rcases vals_get i r with ⟨e1, e2⟩ | ⟨v, u, e1, e2, e3⟩
    · rw [e1, e2]; exact vals_ord r ix
    · rw [e1, e2]; exact .cons e3 (vals_ord r ix)
section
variable {X : Cx} {CX : CXT} {k : Nat} {f : Addr} {fd : FuncData} {ps ks : List Str} {np : Nat} {sp : Sp} {E : XK} {x : Str} {p pos : Pos} {e : Expr} {es : List Expr} {kws : List Keyword} {t tk : TA}
theorem run_fnG {pins : List (Addr × Obj)} {σ : L2.St} {H : Hp} {s : Shared} {Q : VK} {us ws : List Value} {vs zs : List V} (F : FnG X.prog X.w X.K X.mg X.base CX k f fd ps sp) (hr : Room k X.A) (hg : X.A.guards = some []) (hb : KB X.K fd ps np ks) (hx : Passes CX X E)
    (I : Inv X pins σ H s) (r : Vals vs us) (rz : Vals zs ws) (hn : vs.length = np) (hk : zs.length = ks.length) (h : sp (ordK (ixK ps np ks) (vs ++ zs)) H Q E) : wpAny (model X.prog X.w) X.A (call (.ref f) us (ks.zip ws)) (EP X pins σ Q) X.xe s := by
  have r2 := vals_ord (r.append rz) (ixK ps np ks)
  refine wpAny_call (codeAny_mono (F.run X.A X.stack s H ⟨us, ks.zip ws⟩ _ _ Q E hr hg I.env0 (hb.to s us ws I.kIn (by rw [← r.length]; exact hn) (by rw [← rz.length]; exact hk)) r2 h) fun r s' hq => ?_)
  cases r with
  | error e => exact hx pins σ H s e s' I hq
  | ok fl =>
    cases fl with
    | ret u => exact I.after hq
    | next => exact False.elim hq
    | brk => exact False.elim hq
    | cont => exact False.elim hq
def tCallG (sp : Sp) (ps : List Str) (np : Nat) (ks : List Str) (E : XK) (t tk : TA) : TE := fun σ H Q => t σ H fun vs H1 => tk σ H1 fun zs H2 => vs.length = np ∧ zs.length = ks.length ∧ sp (ordK (ixK ps np ks) (vs ++ zs)) H2 Q E
/-- no star among the arguments -/
def noStar : List Expr → Bool
  | [] => true
  | .Starred _ _ :: _ => false
  | _ :: r => noStar r
theorem star_cons {e : Expr} {r : List Expr} {env : PySem.Env} (h : noStar (e :: r) = true) : starEach (e :: r) env = (false, eval e env) :: starEach r env := by
  cases e <;> first | rfl | (simp [noStar] at h)
theorem noStar_tail {e : Expr} {r : List Expr} (h : noStar (e :: r) = true) : noStar r = true := by
  cases e <;> first | exact h | (simp [noStar] at h)
theorem plain_star {env : PySem.Env} : ∀ {es : List Expr}, noStar es = true → (backTo pos (starEach es env)).any (·.1) = false
  | [], _ => rfl
  | e :: r, h => by
    rw [star_cons h]
    show (false || (backTo pos (starEach r env)).any (·.1)) = false
    rw [plain_star (noStar_tail h)]; rfl
/-- all keywords have names -/
def kwNames : List Keyword → Option (List Str)
  | [] => some []
  | k :: r => match k.arg, kwNames r with
    | some n, some ns => some (n :: ns)
    | _, _ => none
theorem kw_all {env : PySem.Env} : ∀ {kws : List Keyword} {ks : List Str}, kwNames kws = some ks → (backToKw pos (keywordEach kws env)).all (·.1.isSome) = true ∧ (backToKw pos (keywordEach kws env)).filterMap (·.1) = ks ∧ (backToKw pos (keywordEach kws env)).any (·.1.isNone) = false
  | [], _, h => by cases h; exact ⟨rfl, rfl, rfl⟩
  | ⟨a, v, p⟩ :: r, ks, h => by
    simp only [kwNames] at h
    split at h
    · rename_i n ns h2
      cases h
      obtain ⟨e1, e2, e3⟩ := kw_all h2
      refine ⟨?_, ?_, ?_⟩
      · show ((some n).isSome && _) = true
        exact Bool.and_eq_true_iff.mpr ⟨rfl, e1⟩
      · show List.filterMap _ ((some n, _) :: backToKw pos (keywordEach r env)) = _
        rw [List.filterMap_cons]
        show n :: _ = _
        rw [e2]
      · show ((some n).isNone || _) = false
        exact Bool.or_eq_false_iff.mpr ⟨rfl, e3⟩
    · cases h
theorem pe_callG (F : FnG X.prog X.w X.K X.mg X.base CX k f fd ps sp) (hr : Room k X.A) (hgu : X.A.guards = some []) (hg : Gl X x) (hm : X.mg x = some (.ref f)) (hk : PySem.W.keepIn X.K (.ref f) = true) (hb : KB X.K fd ps np ks) (hx : Passes CX X E)
    (ha : PA X (e :: es) t) (hkw : PK X kws tk) (hks : kwNames kws = some ks) (hst : noStar (e :: es) = true) (hdb : (x == ("__debug__" : Str)) = false) :
    PE X (.Call (.Name x p) (e :: es) kws pos) (tCallG sp ps np ks E t tk) := by
  refine ⟨fun pins s σ H Q I h => ?_⟩
  obtain ⟨k1, k2, k3⟩ := kw_all (pos := pos) (env := X.env) hks
  refine wpAny_Call_Name_kw (ld_glob I hg hm ?_ hdb)
  refine PySem.W.callWith_KW (h₀ := X.base) I.ok.mod.kin hk k1 (thn (ha.run pos pins s σ H _ I h) fun us s1 ⟨vs, H1, I1, r, q⟩ => ?_) (by rw [plain_star hst, k3]; rfl) (star_cons hst)
  refine thn (hkw.run pos pins s1 σ H1 _ I1 q) fun ws s2 ⟨zs, H2, I2, rz, q2⟩ => ⟨I2.kIn, ?_⟩
  rw [k2]
  exact run_fnG F hr hgu hb hx I2 r rz q2.1 q2.2.1 q2.2.2
theorem pe_callG0 (F : FnG X.prog X.w X.K X.mg X.base CX k f fd ps sp) (hr : Room k X.A) (hgu : X.A.guards = some []) (hg : Gl X x) (hm : X.mg x = some (.ref f)) (hk : PySem.W.keepIn X.K (.ref f) = true) (hb : KB X.K fd ps 0 ks) (hx : Passes CX X E)
    (hkw : PK X kws tk) (hks : kwNames kws = some ks) (hdb : (x == ("__debug__" : Str)) = false) :
    PE X (.Call (.Name x p) [] kws pos) (fun σ H Q => tk σ H fun zs H2 => zs.length = ks.length ∧ sp (ordK (ixK ps 0 ks) zs) H2 Q E) := by
  refine ⟨fun pins s σ H Q I h => ?_⟩
  obtain ⟨k1, k2, k3⟩ := kw_all (pos := pos) (env := X.env) hks
  refine wpAny_Call_Name_kw (ld_glob I hg hm ?_ hdb)
  refine PySem.W.callWith_KW0 (h₀ := X.base) I.ok.mod.kin hk k1 (thn (hkw.run pos pins s σ H _ I h) fun ws s2 ⟨zs, H2, I2, rz, q2⟩ => ⟨I2.kIn, ?_⟩) (by rw [k3]; rfl)
  rw [k2]
  exact run_fnG F hr hgu hb hx I2 .nil rz rfl q2.1 q2.2
end

/-! ### the law's call -/
theorem rol_of {K : PySem.W.Frag} {H : Hp} {a : Addr} {vs : List V} (hO : Only H) (h : SqL K H a vs) : Rol K H a vs := by
  intro H' k
  rcases h with (h | ⟨o, h⟩) | h
  · rcases hO a with z | ⟨o, xs, z⟩
    · rw [h] at z; cases z
    · rw [h] at z; cases z
  · exact .inl (.inr ⟨o, k _ _ h⟩)
  · exact .inr h
theorem law_callG {P : Program} {w : World} {K : PySem.W.Frag} {mg mb : Str → Option Value} {CX : CXT} {k : Nat} {fa a : Addr} {fd : FuncData} {x : Str} {sp : Sp} {s₁ : Shared} {vs : List Value} {ns : List Int}
    (KX : K.In s₁.heap) (hns : s₁.heap.Ns mainGlobals mg) (hb : s₁.heap.Ns builtinsNs mb) (hbb : ∀ x : Str, x ≠ "__name__" → mb x = bootBuiltins x) (hlim : s₁.heap.NoLimit) (hg : s₁.gens = #[])
    (ha : s₁.heap.get? a = some { cls := .type "list", data := .seq vs.toArray }) (hi : IntsAre vs ns) (hl : ns.length ≤ sizeLine) (hr : Room k callerA)
    (F : ∀ base : Heap, K.In base → base.Ns mainGlobals mg → FnG P w K mg base CX k fa fd [x] sp) (hbind : ∀ (s : Shared) (u : Value), BindsTo s fd ⟨[u], []⟩ [(x, u)])
    (hsp : ∀ H : Hp, Only H → SqL K H a (ns.map V.int) → sp [.ref a] H (fun v _ => v = .bl true) fun _ _ _ => False)
    (hCX : ∀ H e s', CX [] H s₁ (fun _ _ _ => False) e s' → False) :
    codeAny (model P w) callerA (.call (.ref fa) ⟨[.ref a], []⟩) (fun r s' => r = .ok (.ret (.bool true)) ∧ OldK s₁.heap s'.heap ∧ s'.os = s₁.os ∧ AllBare s'.gens) s₁ := by
  have rv := vals_ints hi
  have lenV := hi.length
  have core : ∀ H : Hp, Only H → SqL K H a (ns.map V.int) → HOk P w H s₁.heap → (∀ b, H b ≠ none → b = a) → (H a ≠ none → K.lookup a = none) →
      codeAny (model P w) callerA (.call (.ref fa) ⟨[.ref a], []⟩) (fun r s' => r = .ok (.ret (.bool true)) ∧ OldK s₁.heap s'.heap ∧ s'.os = s₁.os ∧ AllBare s'.gens) s₁ := by
    intro H hO hS hok hA hK
    have base_of : ∀ {b : Addr} {o : Obj}, s₁.heap.get? b = some o → H b = none → (hidT s₁.heap H).get? b = some o := fun e n => hidT_get e n
    have noA : ∀ {b : Addr} {o : Obj} {es : Array DictEntry} {ep : Nat}, s₁.heap.get? b = some o → o.data = .dict es ep → H b = none := fun {b o es ep} e d => by
      cases q : H b with
      | none => rfl
      | some u =>
        have e' : b = a := hA b (by rw [q]; simp)
        subst e'
        rw [ha] at e; cases e
        have d' : Data.seq vs.toArray _ = Data.dict es ep := d
        cases d'
    have nsK : ∀ {b : Addr} {m : Str → Option Value}, s₁.heap.Ns b m → (hidT s₁.heap H).Ns b m := fun {b m} ⟨o, es, ep, e, d, r⟩ => ⟨o, es, ep, base_of e (noA e d), d, r⟩
    have hKb : K.In (hidT s₁.heap H) := fun b o e => base_of (KX b o e) (by
      cases q : H b with
      | none => rfl
      | some u =>
        have e' : b = a := hA b (by rw [q]; simp)
        subst e'
        rw [hK (by rw [q]; simp)] at e; cases e)
    have hM : Mod K mg (hidT s₁.heap H) := ⟨hKb, nsK hns, ⟨mb, nsK hb, hbb⟩, let ⟨mc, h1, h2⟩ := hlim; ⟨mc, nsK h1, h2⟩⟩
    have e0 : Env0 P w K mg (hidT s₁.heap H) callerA [] s₁ H := ⟨rfl, hM, fun b o e => of_hidT e, Nat.le_of_eq (hidT_size _ _), trivial, fun b hb => absurd (show b ∈ ([] : List Addr) from hb) (by simp), hok, .of_eq hg⟩
    refine codeAny_mono ((F _ hKb (nsK hns)).run callerA [] s₁ H ⟨[.ref a], []⟩ [.ref a] [.ref a] _ _ hr rfl e0 (hbind s₁ (.ref a)) (.cons rfl .nil) (hsp H hO hS)) fun r s' h => ?_
    cases r with
    | error e => exact (hCX H e s' h).elim
    | ok fl =>
      cases fl with
      | next => exact False.elim h
      | brk => exact False.elim h
      | cont => exact False.elim h
      | ret u =>
        obtain ⟨v, H', os, bare, un, hok', r', q⟩ := h
        have q' : v = .bl true := q
        subst q'
        obtain rfl : u = Value.bool true := r'
        refine ⟨rfl, OldK.of_keep fun b o e => ?_, os, bare⟩
        cases q : H b with
        | none => exact un.keep b o e q (by intro z; exact absurd (show b ∈ ([] : List Addr) from z) (by simp)) (by simp)
        | some u =>
          rcases hO b with z | ⟨ob, xs, z⟩
          · rw [q] at z; cases z
          · have z2 := un.frzs b ob _ z
            obtain ⟨e1, _⟩ := hok b _ z
            obtain ⟨e2, _⟩ := hok' b _ z2
            rw [e] at e1; cases e1
            exact e2
  cases hk : K.lookup a with
  | some o =>
    have e := KX a o hk
    rw [ha] at e
    cases e
    refine core (fun _ => none) (fun _ => .inl rfl) (.inr ⟨_, vs.toArray, _, hk, rfl, rfl, rfl, by rw [List.size_toArray, lenV]; exact hl, by simpa using rv⟩) (fun b u z => by have z' : (none : Option HO) = some u := z; cases z') (fun b z => absurd rfl z) fun z => absurd rfl z
  | none =>
    refine core (fun b => if b = a then some (.frz { cls := .type "list", data := .seq vs.toArray } (.lst (ns.map V.int))) else none) (fun b => ?_) (.inl (.inr ⟨{ cls := .type "list", data := .seq vs.toArray }, if_pos rfl⟩)) (fun b u z => ?_) (fun b z => ?_) fun _ => hk
    · by_cases hb : b = a
      · exact .inr ⟨_, _, if_pos hb⟩
      · exact .inl (if_neg hb)
    · by_cases hb : b = a
      · have z' := (if_pos hb).symm.trans z
        cases z'
        subst hb
        exact ⟨ha, by rw [List.length_map]; exact hl, vs, _, rv, ha⟩
      · have z' := (if_neg hb).symm.trans z
        cases z'
    · by_cases hb : b = a
      · exact hb
      · exact absurd (if_neg hb) z
theorem walk_ofG {l : PySem.W.OpenLaw} {n k : Nat} {q : Program} {loose : List Str} {XP : (Str → Option Value) → Heap → Prop} {YP : World → Heap → Prop} {d : DefRec} {K : Params → PySem.W.Frag} {sp : World → Sp} {x : Str}
    (hn : l.most = some n) (hn2 : n ≤ sizeLine) (hdf : d.params.defaults = []) (hr : Room k callerA)
    (hY : ∀ (w : World) (h : Heap), YP w h → (K w.params).In h)
    (F : ∀ (w : World) (mg : Str → Option Value) (fa : Addr) (h : Heap), (K w.params).In h → h.Ns mainGlobals mg → mg d.name = some (.ref fa) →
      ∃ fd : FuncData, (∀ (s : Shared) (u : Value), BindsTo s fd ⟨[u], []⟩ [(x, u)]) ∧
        ∀ base : Heap, (K w.params).In base → base.Ns mainGlobals mg → FnG l.prog w (K w.params) mg base (L2.CX l.prog w) k fa fd [x] (sp w))
    (hsp : ∀ (w : World) (H : Hp) (a : Addr) (ns : List Int), ns.length ≤ n → (∀ z ∈ ns, Builtin.Int.intBits z ≤ 1048576) → Only H → SqL (K w.params) H a (ns.map V.int) → sp w [.ref a] H (fun v _ => v = .bl true) fun _ _ _ => False) :
    PySem.W.WalkO q loose XP YP l.row.toRowW d [] (fun f vs => PySem.call f vs) := by
  refine Att.attach_callB hn hdf fun w s₀ s₁ mg mb fa o pm cd doc a vs ns G Y ho hd hcd hmg hobj hints hlen hbits hg => ?_
  have KX := hY w _ Y
  obtain ⟨fd, hb, hF⟩ := F w mg fa _ KX G.T.g hmg
  exact law_callG KX G.T.g G.T.b G.T.builtins G.T.nolimit hg hobj hints (Nat.le_trans hlen hn2) hr hF hb (fun H hO hS => hsp w H a ns hlen hbits hO hS) fun H e s' h => by
    obtain ⟨_, _, _, _, _, _, _, _, _, _, _, _, z⟩ := h
    exact z
end Bk
set_option maxHeartbeats 4000000
/-! RunX3: an error made by a call; try .. except .. as e: kept = e; the error's value, its class. -/
namespace Bk
open PySem PySem.Spec PyProof.Rows L2

/-! ### made -/
/-- what a module says of an error class x at C -/
structure XErr (K : PySem.W.Frag) (p : Program) (x : Str) (C : Addr) : Prop where
  ns : PySem.W.nsIn K mainGlobals x = some (some (.ref C))
  ex : ∃ D fI, XBase K p D fI ∧ XCls K D C ∧ PySem.W.findIn K (.ref C) "__init__" = some (some (.ref fI)) ∧ PySem.W.typeIn K (.ref fI) = some (.type "function")
/-- x(e), x an error class -/
def tMkB (C : Addr) (ta : TA) : L2.St → Hp → XK → Prop := fun σ H Q => ta σ H fun vs H1 => ∃ y, vs = [y] ∧ ∀ d, H1 d = none → Q (.ref C) (some d) (upd H1 d (.xd [("value", y)]))
section
variable {X : Cx} {x : Str} {p pos : Pos} {e : Expr} {ta : TA} {C : Addr} {k : Nat}
theorem pmk_x (E : XErr X.K X.prog x C) (hsup : X.mg "super" = none) (hr : Room (k + 2) X.A) (hg : Gl X x) (hm : X.mg x = some (.ref C)) (ha : PA X [e] ta) (hmono : ∀ σ H (P Q : List V → Hp → Prop), ta σ H P → (∀ vs H, P vs H → Q vs H) → ta σ H Q)
    (hdb : (x == ("__debug__" : Str)) = false) (hst : noStar [e] = true) : PMk X (.Call (.Name x p) [e] [] pos) (tMkB C ta) := by
  obtain ⟨D, fI, B, T, iC, tI⟩ := E.ex
  obtain ⟨fd, hfd, hb, F⟩ := x_init (P := X.prog) (w := X.w) (mg := X.mg) (base := X.base) (CXT' := fun _ _ _ _ _ _ => False) (k := k) B hsup
  have M := pmk_oex (x := x) (p := p) (pos := pos) (e := e) (es := []) T.o iC tI F hr hb (dvs := []) .nil (fun _ _ _ _ _ _ _ h => h.elim) hg hm ha hdb (star_cons hst) (plain_star (noStar_tail hst))
  intro pins s σ H Q I h
  refine M pins s σ H Q I (hmono _ _ _ _ h fun vs H1 q => ?_)
  obtain ⟨y, rfl, q⟩ := q
  refine ⟨by show (1 : Nat) ≤ 1000; decide, fun a na => ⟨a, C, y, rfl, T, upd_same, fun dx hdx hne => ⟨rfl, dx, [("value", y)], upd_same, ?_, ?_, ?_⟩⟩⟩
  · rw [upd_ne hne, upd_same]
  · rw [upd_ne hne] at hdx
    exact hdx
  · have hd1 : H1 dx = none := by
      rw [upd_ne hne] at hdx
      exact hdx
    have e1 : upd (del (upd (upd (upd H1 a (exo a C none)) dx (exd dx [("value", y)])) a (exo a C (some dx))) a) dx (.xd [("value", y)]) = upd H1 dx (.xd [("value", y)]) := by
      funext b
      by_cases hb : b = dx
      · rw [hb, upd_same, upd_same]
      · rw [upd_ne hb, upd_ne hb]
        by_cases hb2 : b = a
        · rw [hb2, del_same, na]
        · rw [del_ne hb2, upd_ne hb2, upd_ne hb, upd_ne hb2]
    rw [e1]
    exact q dx hd1
end

/-! ### what is there already, tracked from now on -/
section
variable {X : Cx} {pins : List (Addr × Obj)} {σ : L2.St} {H : Hp} {s : Shared}
theorem Inv.trackX {a : Addr} {o : HO} (I : Inv X pins σ H s) (hn : H a = none) (n0 : X.s_0.heap.get? a = none) (nL : a ≠ X.env.locals) (nC : ∀ x c, X.env.cells.lookup x = some c → c ≠ a) (nP : ∀ p ∈ X.pn ++ pins, p.1 ≠ a)
    (new : ObjOk X.prog X.w (upd H a o) s.heap a o) : Inv X pins σ (upd H a o) s where
  ok := I.ok
  os := I.os
  bare := I.bare
  base := {
    keep := I.base.keep
    slot := I.base.slot
    free := fun b u q n hx => by
      rw [upd_ne (fun z => by rw [z, n0] at q; cases q)]
      exact I.base.free b u q n hx
    there := I.base.there
    tups := fun b xs q => by
      have z := I.base.tups b xs q
      rw [upd_ne (ne_of_none z hn)]; exact z
    frzs := fun b u xs q => by
      have z := I.base.frzs b u xs q
      rw [upd_ne (ne_of_none z hn)]; exact z
    tbls := fun b ps q => by
      obtain ⟨more, z⟩ := I.base.tbls b ps q
      exact ⟨more, by rw [upd_ne (ne_of_none z hn)]; exact z⟩ }
  loc := I.loc
  cell := I.cell
  free := by rw [upd_ne (Ne.symm nL)]; exact I.free
  freeC := fun x c e => by rw [upd_ne (nC x c e)]; exact I.freeC x c e
  pin := fun p hp => by
    obtain ⟨e1, e2, e3⟩ := I.pin p hp
    exact ⟨e1, by rw [upd_ne (nP p hp)]; exact e2, e3⟩
  hok := I.hok.laidN (fun _ _ q => q) hn new
  len := I.len
end
theorem exR_ok {P : Program} {w : World} {H : Hp} {h : Heap} {a d C : Addr} {oe : Obj} {vs : Array Value} (e : h.get? a = some oe) (z : Zc (.ref C) (some d) oe) (hd : oe.data = .fields vs) : ObjOk P w H h a (exR a C d) :=
  ⟨⟨oe, vs, e, z, hd⟩, ⟨oe, e⟩, fun _ _ ⟨o, v, q, r⟩ k => ⟨o, v, k o q, r⟩⟩
theorem exR_at {P : Program} {w : World} {H : Hp} {h : Heap} {a d C : Addr} (hok : HOk P w H h) (e : H a = some (exR a C d)) : ∃ (oe : Obj) (vs : Array Value), h.get? a = some oe ∧ Zc (.ref C) (some d) oe ∧ oe.data = .fields vs := (hok a _ e).1

theorem wkSs0 {X : Cx} {sts : List Stmt} {t t' : TS} (h : PSs X sts t) (k : ∀ D σ H, t' D σ H → t D σ H) : PSs X sts t' := ⟨fun pins s σ H D I q => h.run pins s σ H D I (k D σ H q)⟩
/-! ### caught, kept -/
/-- what 'except c as i: j = i' wishes of an error of the body -/
def wKeep (K : PySem.W.Frag) (c : Value) (i j : Nat) (D : Ends) : WX := fun cls d σ H => ∃ (C dd : Addr), cls = .ref C ∧ d = some dd ∧ PySem.W.exmOne K cls c = some true ∧
  ∀ a, H a = none → D.nx (((σ.set i (some (.ref a))).set j (some (.ref a))).set i none) (upd H a (exR a C dd))
section
variable {X : Cx} {x n y : Str} {c : Value} {i j : Nat} {body : List Stmt} {np pos pos' p1 p2 p3 : Pos} {tb : WX → TS}
theorem ps_try_keep (hex : X.ex = []) (hs : X.stack = X.env :: X.outer) (hf : X.env.frame = some X.env.locals) (hN : X.N.Nodup) (hi : X.N[i]? = some n) (hj : X.N[j]? = some y) (hln : X.env.kindOf n = some .local) (hly : X.env.kindOf y = some .local) (hc : Names X x c)
    (hnd : (n == ("__debug__" : Str)) = false) (hncd : (n == ("__classdict__" : Str)) = false) (hsw : ∀ l, swapsWith (.Name n p2) (some (.Name y p1)) l X.env = pure false)
    (hb : ∀ (W : WX) (pn : List (Addr × Obj)) (xe : Value → Shared → Prop), Takes (X.tr pn xe) W → PassesOwn (model X.prog X.w) X.A X.env xe → PSs (X.tr pn xe) body (tb W)) :
    PS X (.Try body [.ExceptHandler (some (.Name x np)) (some n) [.Assign [.Name y p1] (.Name n p2) p3] pos'] [] [] pos) (fun D σ H => tb (wKeep X.K c i j D) D σ H) := by
  refine ⟨fun pins s σ H D I h => ?_⟩
  have ok := I.ok
  have hfr : X.A.frames = some (X.env :: X.outer) := by rw [ok.frames, hs]
  have hloc : Loc X.env.scope n := .inl hln
  refine wpAny_Try_except (wpAny_mono ((hb (wKeep X.K c i j D) (X.pn ++ pins) (fun e s₁ => wpAny (model X.prog X.w) X.A (noteFrame e X.env) (fun _ s₂ => wpAny (model X.prog X.w) X.A (setFlight e none) (fun _ s₃ =>
    wpAny (model X.prog X.w) X.A (handleBy e X.env [.ExceptHandler (some (.Name x np)) (some n) [.Assign [.Name y p1] (.Name n p2) p3] pos']) (SP X pins D) X.xe s₃) X.xe s₂) X.xe s₁) (fun u s' xx => ?caught) PassesOwn.looking).run [] s σ H D (I.toTry _) h) (fun f s1 hsp => ?through) (fun e s1 he => he))
  case through =>
    cases f with
    | next =>
      obtain ⟨σ', H', J', q⟩ := hsp
      exact wpAny_execs_nil ⟨σ', H', J'.ofTry ok, q⟩
    | brk =>
      obtain ⟨σ', H', J', q⟩ := hsp
      exact ⟨σ', H', J'.ofTry ok, q⟩
    | cont =>
      obtain ⟨σ', H', J', q⟩ := hsp
      exact ⟨σ', H', J'.ofTry ok, q⟩
    | ret u =>
      obtain ⟨v, σ', H', J', r, q⟩ := hsp
      exact ⟨v, σ', H', J'.ofTry ok, r, q⟩
  case caught =>
    obtain ⟨a, B, sI, pins', σ', H', cls, d, rfl, J', nb, up, sky, na, os, ag, C, dd, rfl, rfl, hb1, hyes⟩ := xx
    have J : Inv X pins σ' H' sI := J'.ofTry ok
    have sky' : Sky B (X.env :: X.outer) a (Zc (.ref C) (some dd)) X.env.locals s'.heap := by rw [← hs]; exact sky
    refine Sky.land Zc.steady hfr hf sky' fun h3 fl3 up3 => ?_
    have J3 : Inv X pins σ' H' { s' with heap := h3 } := J.landed nb fl3.1 (up.trans up3) os ag
    obtain ⟨oe3, vs3, he3, hz3, hd3⟩ := fl3.there
    have nfr : a ∉ frs (X.env :: X.outer) := fun hm => by
      obtain ⟨_, o', e', hnf⟩ := fl3.2.2.1.mem hm
      rw [he3] at e'; cases e'
      exact hnf _ hd3
    have nL : a ≠ X.env.locals := fun z => nfr (List.mem_filterMap.mpr ⟨X.env, List.mem_cons_self, by rw [hf, z]⟩)
    have nF : a ∉ X.fs := fun hm => by
      obtain ⟨e, he, q⟩ := List.mem_filterMap.mp hm
      exact nfr (List.mem_filterMap.mpr ⟨e, List.mem_cons_of_mem _ he, q⟩)
    have nI : ∀ o, sI.heap.get? a ≠ some o := fun o z => by
      have q := nb a o z (by rw [hs]; exact nfr)
      rw [fl3.2.1] at q; cases q
    have S3 := J3.suite he3 hd3 na nL nF
    refine wpAny_handleBy_cons (codeAny_handlers_test ?_) (by intro q; cases q)
    have LT : PySem.W.Looks (model X.prog X.w) h3 (typeOf (.ref a)) (.ref C) := fun A Q E s k q => wpAny_typeOf_ref (k _ _ he3) (by rw [hz3.1]; exact q)
    have LM := PySem.W.exm_one (M := model X.prog X.w) (J3.kIn) LT hb1
    have test : ∀ {Q : Value → Shared → Prop} {E : Value → Shared → Prop}, Q c { s' with heap := h3 } → wpAny (model X.prog X.w) (X.A.mark (some (.ref a))) (eval (.Name x np) X.env) Q E { s' with heap := h3 } := fun {Q E} q => by
      obtain ⟨hg, hdbg, hm | ⟨hm, hv, hnn⟩⟩ := hc
      · exact ld_glob (X := X.suite a ((a, oe3) :: (X.pn ++ pins))) S3 hg hm q hdbg
      · exact ld_blt (X := X.suite a ((a, oe3) :: (X.pn ++ pins))) S3 hg hm hv q hnn hdbg
    refine test (LM.here (codeAny_handlers_suite_as (HandSPX.lands_againZ fl3 fun h4 fl4 up4 => ?_)))
    have J4 : Inv X pins σ' H' { s' with heap := h4 } := J.landed nb fl4.1 ((up.trans up3).trans up4) os ag
    obtain ⟨oe4, vs4, he4, hz4, hd4⟩ := fl4.there
    have S4 := J4.suite he4 hd4 na nL nF
    refine store_ok (X := X.suite a ((a, oe4) :: (X.pn ++ pins))) (v := .ref a) S4 hN hi hloc rfl (fun s5 S5 => ?_) (.inr hln)
    have P1 : PSs (X.suite a ((a, oe4) :: (X.pn ++ pins))) [.Assign [.Name y p1] (.Name n p2) p3] (fun D σ H => tVar i σ H fun v H1 => D.nx (σ.set j (some v)) H1) :=
      wkSs0 (pss_cons (ps_set (X := X.suite a ((a, oe4) :: (X.pn ++ pins))) (i := j) hN hj (.inl hly) (pe_var (pos := p2) (i := i) hi (.inl hln) hnd hncd) (hsw _) (.inr hly)) pss_nil) fun _ _ _ q => q
    have hlen : i < σ'.length := by
      have := J.len
      have hi2 := (List.getElem?_eq_some_iff.mp hi).1
      omega
    refine wpAny_mono (P1.run [] s5 _ H' { nx := fun σ6 H6 => σ6 = (σ'.set i (some (.ref a))).set j (some (.ref a)) ∧ H6 = H', rt := fun _ _ => False, bk := fun _ _ => False, ct := fun _ _ => False } S5 ⟨.ref a, List.getElem?_set_self hlen, rfl, rfl⟩) (fun f s6 hsp => ?_) (fun _ _ z => False.elim z)
    cases f with
    | next =>
      obtain ⟨σ6, H6, S6, rfl, rfl⟩ := hsp
      obtain ⟨g6, _⟩ := S6.pin (a, oe4) (List.mem_append_left _ List.mem_cons_self)
      have J6 := S6.unsuite ok
      have n0 : X.s_0.heap.get? a = none := by
        cases z : X.s_0.heap.get? a with
        | none => rfl
        | some o =>
          by_cases hx : a ∈ X.ex
          · rw [hex] at hx; cases hx
          · obtain ⟨o', z2⟩ := J.base.there a o z hx
            exact absurd z2 (nI o')
      have T6 := Inv.trackX (o := exR a C dd) J6 na n0 nL (fun x c e z => by
          obtain ⟨v, o, hc1, _⟩ := J.cell x c e
          rw [z] at hc1
          exact nI o hc1) (fun p hp z => by
          obtain ⟨hp1, _⟩ := J.pin p hp
          rw [z] at hp1
          exact nI _ hp1) (exR_ok g6 hz4 hd4)
      exact gone_ok T6 hN hi hln fun s7 J7 => ⟨_, _, J7, hyes a na⟩
    | brk => obtain ⟨_, _, _, q⟩ := hsp; exact q.elim
    | cont => obtain ⟨_, _, _, q⟩ := hsp; exact q.elim
    | ret u => obtain ⟨_, _, _, _, _, q⟩ := hsp; exact q.elim
end

/-! ### e.value, isinstance(e, C) -/
/-- what a class's instances must have so that they are read -/
structure XRead (K : PySem.W.Frag) (C : Addr) : Prop where
  ga : PySem.W.findIn K (.ref C) "__getattribute__" = some (some (.builtin "BaseException.__getattribute__"))
  gg : PySem.W.findIn K (.ref C) "__getattr__" = some none
  exC : PySem.W.subIn K (.ref C) (.type "BaseException") = some true
  hdC : PySem.W.hasDictIn K C = true
  no : PySem.W.findIn K (.ref C) "value" = some none
  cl : (PySem.W.clsIn K C).isSome = true
  ha : PySem.W.findIn K (.ref C) "__class__" = some (some (.builtin "object.__class__"))
  hn : PySem.W.specialIn K (.builtin "object.__class__") "__get__" = some (some (.builtin "getset_descriptor.__get__"))
  ht : PySem.W.takesIn K (.builtin "object.__class__") = some true
  hm : PySem.W.mroIn K C (.type "object") = some true
def tFldV (K : PySem.W.Frag) (te : TE) : TE := fun σ H Q => te σ H fun x H1 => ∃ (a d C : Addr) (y : V), x = .ref a ∧ XRead K C ∧ H1 a = some (exR a C d) ∧ H1 d = some (.xd [("value", y)]) ∧ Q y H1
section
variable {X : Cx}
theorem pe_fldV {e : Expr} {te : TE} {pos : Pos} (he : PE X e te) (hb : attributeBase e "value" X.env (eval e X.env) = eval e X.env) : PE X (.Attribute e "value" pos) (tFldV X.K te) := by
  refine ⟨fun pins s σ H Q I h => attr_of hb (thn (he.run pins s σ H _ I h) fun u s1 hh => ?_)⟩
  obtain ⟨x, H1, I1, rx, a, d, C, y, rfl, T, ea, ed, q⟩ := hh
  obtain rfl : u = Value.ref a := rx
  obtain ⟨oe, vs, ho, hz, hd⟩ := exR_at I1.hok ea
  obtain ⟨mA, hns, hr⟩ := (show ObjOk X.prog X.w H1 s1.heap d (.xd [("value", y)]) from I1.hok d _ ed)
  obtain ⟨od, hod, hl⟩ := lookIn_ns hns
  have l1 : List.lookup ("value" : Str) ([("value", y)] : List (Str × V)) = some y := by rfl
  obtain ⟨u, hu, ru⟩ := RelO.some_of (v := y) (o := mA "value") (by rw [← l1]; exact hr "value")
  have J : PySem.W.InstAt s1.heap a oe C (some od) := ⟨ho, hz.1, by unfold PySem.W.notCls; rw [hd] <;> rfl, by rw [hz.2]; exact hod⟩
  exact HandSPX.exc_get I1.kIn J T.ga T.gg T.exC (PySem.W.findObj_own T.hdC T.no rfl (by rw [hl, hu])) (handed_of ru) ⟨y, H1, I1.tok _, ru, q⟩
/-- isinstance of an error, or of None, by an own class -/
def rIsX (K : PySem.W.Frag) : List V → Hp → VK → Prop := fun xs H Q => ∃ (x : V) (D : Addr) (b : Bool), xs = [x, .ref D] ∧
  ((x = .non ∧ PySem.W.kitOne K (.type "NoneType") (.ref D) = some b) ∨ ∃ a d C y, x = .ref a ∧ XRead K C ∧ H a = some (exR a C d) ∧ H d = some (.xd [("value", y)]) ∧ PySem.W.kitOne K (.ref C) (.ref D) = some b) ∧ Q (.bl b) H
theorem call_isX : CallR X (.builtin "isinstance") (rIsX X.K) := by
  intro pins s σ H xs us Q I r h
  obtain ⟨x, D, b, rfl, h, q⟩ := h
  obtain ⟨u1, u2, rfl, r1, r2⟩ := vals2 r
  obtain rfl : u2 = Value.ref D := r2
  rcases h with ⟨rfl, e⟩ | ⟨a, d, C, y, rfl, T, ea, ed, e⟩
  · obtain rfl : u1 = Value.none := r1
    exact PySem.W.kia_one PySem.W.kitx_none I.kIn True.intro e (fun z => nomatch z) fun tk => ⟨.bl b, H, I.tok tk, rfl, q⟩
  · obtain rfl : u1 = Value.ref a := r1
    obtain ⟨oe, vs, ho, hz, hd⟩ := exR_at I.hok ea
    obtain ⟨mA, hns, hr⟩ := (show ObjOk X.prog X.w H s.heap d (.xd [("value", y)]) from I.hok d _ ed)
    obtain ⟨od, es, ep, hod, _⟩ := id hns
    have J : PySem.W.InstAt s.heap a oe C (some od) := ⟨ho, hz.1, by unfold PySem.W.notCls; rw [hd] <;> rfl, by rw [hz.2]; exact hod⟩
    exact PySem.W.kia_one (PySem.W.kitx_exc (od := some od) T.cl T.ga T.gg T.exC T.ha T.hn T.ht T.hm) I.kIn J e (fun z => nomatch z) fun tk => ⟨.bl b, H, I.tok tk, rfl, q⟩
end
end Bk
set_option maxHeartbeats 4000000
/-! RunD2: what a term of the small syntax gives, as the machine's rules want it. -/
namespace Bk
open PySem PySem.Spec PyProof.Rows L2

/-- the wish for an error, at these slots -/
abbrev Wt (W : WX) (τ : L2.St) : XK := fun c d H => W c d τ H
abbrev RE (W : WX) (K : PySem.W.Frag) (G : Ctx) (m : E) : TE := fun τ H Q => ∃ ρ σ s, RelS K ρ s H ∧ RelE K ρ H σ τ ∧ Psx (Wt W τ) K (Rep K) ρ H (evalE G m σ s) Q
def RB : List Addr → Hp → Bool → Bool → Prop := fun _ _ a b => a = b
def RO : List Addr → Hp → Option Int → Option Int → Prop := fun _ _ a b => a = b
abbrev RT (W : WX) (K : PySem.W.Frag) (G : Ctx) (m : E) : TT := fun τ H Q => ∃ ρ σ s, RelS K ρ s H ∧ RelE K ρ H σ τ ∧ Psx (Wt W τ) K RB ρ H (evalT G m σ s) Q
abbrev RA (W : WX) (K : PySem.W.Frag) (G : Ctx) (m : Es) : TA := fun τ H Q => ∃ ρ σ s, RelS K ρ s H ∧ RelE K ρ H σ τ ∧ Psx (Wt W τ) K (RepL K) ρ H (evalEs G m σ s) Q
abbrev ROp (W : WX) (K : PySem.W.Frag) (G : Ctx) (m : Eo) : TO := fun τ H Q => ∃ ρ σ s, RelS K ρ s H ∧ RelE K ρ H σ τ ∧ Psx (Wt W τ) K RO ρ H (evalEo G m σ s) Q
abbrev RCn (W : WX) (K : PySem.W.Frag) (G : Ctx) (m : Eo) : TT := fun τ H Q => ∃ ρ σ s, RelS K ρ s H ∧ RelE K ρ H σ τ ∧ Psx (Wt W τ) K RB ρ H (evalC G m σ s) Q
abbrev RIt (W : WX) (K : PySem.W.Frag) (G : Ctx) (m : Bk.It) : TI := fun τ H R => ∃ ρ σ s, RelS K ρ s H ∧ RelE K ρ H σ τ ∧ Psx (Wt W τ) K (RI K) ρ H (evalIt G m σ s) R
/-- assignment to a target -/
abbrev RG (K : PySem.W.Frag) (g : Tg) : TG := fun v τ H Q => ∃ ρ σ s x σ', RelS K ρ s H ∧ RelE K ρ H σ τ ∧ Rep K ρ H x v ∧ asgT s g x σ = some σ' ∧ ∀ τ', RelE K ρ H σ' τ' → Q τ' H

section
variable {X : Cx} {e : Expr} {es : List Expr}
theorem wkE {t t' : TE} (h : PE X e t) (k : ∀ σ H Q, t' σ H Q → t σ H Q) : PE X e t' := ⟨fun pins s σ H Q I q => h.run pins s σ H Q I (k σ H Q q)⟩
theorem wkT {t t' : TT} (h : PT X e t) (k : ∀ σ H Q, t' σ H Q → t σ H Q) : PT X e t' := ⟨fun pins s σ H Q I q => h.run pins s σ H Q I (k σ H Q q)⟩
theorem wkA {t t' : TA} (h : PA X es t) (k : ∀ σ H Q, t' σ H Q → t σ H Q) : PA X es t' := ⟨fun pos pins s σ H Q I q => h.run pos pins s σ H Q I (k σ H Q q)⟩
theorem wkK {kws : List Keyword} {t t' : TA} (h : PK X kws t) (k : ∀ σ H Q, t' σ H Q → t σ H Q) : PK X kws t' := ⟨fun pos pins s σ H Q I q => h.run pos pins s σ H Q I (k σ H Q q)⟩
theorem wkI {tg : Expr} {t t' : TI} (h : PI X tg e t) (k : ∀ σ H Q, t' σ H Q → t σ H Q) : PI X tg e t' := ⟨fun pins s σ H Q I q => h.run pins s σ H Q I (k σ H Q q)⟩
theorem wkG {t t' : TG} (h : PG X e t) (k : ∀ v σ H Q, t' v σ H Q → t v σ H Q) : PG X e t' := ⟨fun pins s σ H v u Q I r q => h.run pins s σ H v u Q I r (k v σ H Q q)⟩
theorem wkO {o : Option Expr} {t t' : TO} (h : PO X o t) (k : ∀ σ H Q, t' σ H Q → t σ H Q) : PO X o t' := ⟨fun pins s σ H Q I q => h.run pins s σ H Q I (k σ H Q q)⟩
theorem wkTs {t t' : TT} (h : PTs X es t) (k : ∀ σ H Q, t' σ H Q → t σ H Q) : PTs X es t' := ⟨fun pins s σ H Q I q => h.run pins s σ H Q I (k σ H Q q)⟩
end

section
variable {W : WX} {K : PySem.W.Frag} {G : Ctx} {a b c m : E} {τ : L2.St} {H : Hp}
/-- one step: what a gives, then the rest -/
theorem stE {α β : Type} {S : List Addr → Hp → α → β → Prop} {Q : β → Hp → Prop} {ρ : List Addr} {σ : Env} {s : Sto} {f : Val → Sto → Out α} (R : RelS K ρ s H) (L : RelE K ρ H σ τ) (h : Psx (Wt W τ) K S ρ H ((evalE G a σ s).bind f) Q) {Q' : VK}
    (k : ∀ w H1 ρ1 v s1, RelS K ρ1 s1 H1 → RelE K ρ1 H1 σ τ → Rep K ρ1 H1 v w → Psx (Wt W τ) K S ρ1 H1 (f v s1) Q → Q' w H1) : RE W K G a τ H Q' :=
  ⟨ρ, σ, s, R, L, (Psx.bind h).mono fun w H1 ⟨ρ1, v, s1, e, R1, r, q⟩ => k w H1 ρ1 v s1 R1 (L.mono e) r q⟩
theorem stE' {α β : Type} {S : List Addr → Hp → α → β → Prop} {Q : β → Hp → Prop} {ρ : List Addr} {σ : Env} {s : Sto} {f : Val → Sto → Out α} (R : RelS K ρ s H) (L : RelE K ρ H σ τ) (h : Psx (Wt W τ) K S ρ H ((evalE G a σ s).bind f) Q) {Q' : VK}
    (k : ∀ w H1 ρ1 v s1, Ext ρ H ρ1 H1 → RelS K ρ1 s1 H1 → RelE K ρ1 H1 σ τ → Rep K ρ1 H1 v w → Psx (Wt W τ) K S ρ1 H1 (f v s1) Q → Q' w H1) : RE W K G a τ H Q' :=
  ⟨ρ, σ, s, R, L, (Psx.bind h).mono fun w H1 ⟨ρ1, v, s1, e, R1, r, q⟩ => k w H1 ρ1 v s1 e R1 (L.mono e) r q⟩
theorem stT {α β : Type} {S : List Addr → Hp → α → β → Prop} {Q : β → Hp → Prop} {ρ : List Addr} {σ : Env} {s : Sto} {f : Bool → Sto → Out α} (R : RelS K ρ s H) (L : RelE K ρ H σ τ) (h : Psx (Wt W τ) K S ρ H ((evalT G a σ s).bind f) Q) {Q' : Bool → Hp → Prop}
    (k : ∀ w H1 ρ1 s1, RelS K ρ1 s1 H1 → RelE K ρ1 H1 σ τ → Psx (Wt W τ) K S ρ1 H1 (f w s1) Q → Q' w H1) : RT W K G a τ H Q' :=
  ⟨ρ, σ, s, R, L, (Psx.bind h).mono fun w H1 ⟨ρ1, v, s1, e, R1, r, q⟩ => by cases r; exact k _ H1 ρ1 s1 R1 (L.mono e) q⟩
theorem stA {α β : Type} {S : List Addr → Hp → α → β → Prop} {Q : β → Hp → Prop} {ρ : List Addr} {σ : Env} {s : Sto} {as : Es} {f : List Val → Sto → Out α} (R : RelS K ρ s H) (L : RelE K ρ H σ τ) (h : Psx (Wt W τ) K S ρ H ((evalEs G as σ s).bind f) Q) {Q' : List V → Hp → Prop}
    (k : ∀ ws H1 ρ1 vs s1, Ext ρ H ρ1 H1 → RelS K ρ1 s1 H1 → RelE K ρ1 H1 σ τ → RepL K ρ1 H1 vs ws → Psx (Wt W τ) K S ρ1 H1 (f vs s1) Q → Q' ws H1) : RA W K G as τ H Q' :=
  ⟨ρ, σ, s, R, L, (Psx.bind h).mono fun w H1 ⟨ρ1, v, s1, e, R1, r, q⟩ => k w H1 ρ1 v s1 e R1 (L.mono e) r q⟩

theorem r_var {i : Nat} {Q : VK} (h : RE W K G (.var i) τ H Q) : tVar i τ H Q := by
  obtain ⟨ρ, σ, s, R, L, h⟩ := h
  simp only [evalE] at h
  split at h
  · rename_i v e
    obtain ⟨w, e1, e2⟩ := L.get i v e
    exact ⟨w, e1, h.here R e2⟩
  · exact h.elim
theorem r_cst {v : Val} {w : V} {Q : VK} (r : ∀ ρ H, Rep K ρ H v w) (h : RE W K G (.cst v) τ H Q) : tC w τ H Q := by
  obtain ⟨ρ, σ, s, R, L, h⟩ := h
  exact h.here R (r _ _)
theorem r_glob {x : Str} {v : Val} {w : V} {Q : VK} (e : G.const x = some v) (r : ∀ ρ H, Rep K ρ H v w) (h : RE W K G (.glob x) τ H Q) : tC w τ H Q := by
  obtain ⟨ρ, σ, s, R, L, h⟩ := h
  simp only [evalE, e] at h
  exact h.here R (r _ _)
theorem r_bin {o : Bop} {Q : VK} (h : RE W K G (.bin o a b) τ H Q) : tOp (rB K o) (RE W K G a) (RE W K G b) τ H Q := by
  obtain ⟨ρ, σ, s, R, L, h⟩ := h
  simp only [evalE] at h
  refine stE R L h fun w H1 ρ1 v s1 R1 L1 r1 h1 => stE' R1 L1 h1 fun w2 H2 ρ2 v2 s2 e2 R2 L2 r2 h2 => ?_
  exact ⟨ρ2, s2, v, v2, R2, r1.mono e2, r2, h2.pst (calm_bin _ _ _ _)⟩
theorem r_neg {Q : VK} (h : RE W K G (.neg a) τ H Q) : tUn (rU fun i => .int (-i)) (RE W K G a) τ H Q := by
  obtain ⟨ρ, σ, s, R, L, h⟩ := h
  simp only [evalE] at h
  refine stE R L h fun w H1 ρ1 v s1 R1 L1 r1 h1 => ?_
  cases v with
  | int i => cases r1; exact ⟨i, rfl, h1.here R1 rfl⟩
  | _ => exact h1.elim
theorem r_nt {Q : VK} (h : RE W K G (.nt a) τ H Q) : tNotT K (RE W K G a) τ H Q := by
  obtain ⟨ρ, σ, s, R, L, h⟩ := h
  simp only [evalE] at h
  refine stE R L h fun w H1 ρ1 v s1 R1 L1 r1 h1 => ?_
  split at h1
  · rename_i k e
    exact ⟨k, truth_ok R1 r1 e, h1.here R1 rfl⟩
  · exact h1.elim
theorem r_srt {w : World} {Q : VK} (h : RE W K G (.srt a) τ H Q) : tCB (rSortedSet w) (tCons (tCB (rSetL K w) (tCons (RE W K G a) tNil)) tNil) τ H Q := by
  obtain ⟨ρ, σ, s, R, L, h⟩ := h
  simp only [evalE] at h
  refine stE R L h fun w1 H1 ρ1 v s1 R1 L1 r1 h1 => ?_
  split at h1
  · rename_i xs e
    obtain ⟨p, ws, rfl, h3, h4⟩ := R1.seqL e r1
    split at h1
    · rename_i ns e2
      have e3 := h4.ints e2
      subst e3
      split at h1
      · rename_i hl
        refine ⟨p, ns, rfl, h3, hl.1, fun c hc => ⟨c, _, _, rfl, upd_same, hl.2, fun ms d pw me _ hd => ?_⟩⟩
        have e4 : ms = sortS ns := pw_one pw (sortS_pw ns) fun k => by rw [me k, decide_eq_true_eq, sortS_mem]
        rw [e4]
        exact (h1.up (ext_new hc)).pushedL (R1.new hc) (RepL.of_ints _) hd
      · exact h1.elim
    · exact h1.elim
  · exact h1.elim
theorem ext_trk {ρ : List Addr} {s : Sto} : ∀ {as : List Addr} {us ws : List V}, as.Pairwise (· < ·) → (∀ c ∈ as, H c = none) → Ext ρ H ρ (trk H as us ws) ∧ (RelS K ρ s H → RelS K ρ s (trk H as us ws))
  | [], us, ws, _, _ => by
    have e : trk H [] us ws = H := by simp [trk]
    rw [e]
    exact ⟨.refl _ _, id⟩
  | a :: as, [], ws, _, _ => by
    have e : trk H (a :: as) [] ws = H := by simp [trk]
    rw [e]
    exact ⟨.refl _ _, id⟩
  | a :: as, u :: us, [], _, _ => by
    have e : trk H (a :: as) (u :: us) [] = H := by simp [trk]
    rw [e]
    exact ⟨.refl _ _, id⟩
  | a :: as, u :: us, w :: ws, p, f => by
    obtain ⟨p1, p2⟩ := List.pairwise_cons.mp p
    obtain ⟨i1, i2⟩ := ext_trk (ρ := ρ) (s := s) (us := us) (ws := ws) p2 fun c hc => f c (List.mem_cons_of_mem _ hc)
    have hn : trk H as us ws a = none := by
      rw [trk_out fun hm => Nat.lt_irrefl _ (p1 a hm)]
      exact f a List.mem_cons_self
    rw [trk]
    exact ⟨i1.trans (ext_new hn), fun R => (i2 R).new hn⟩
theorem repL_trk {ρ : List Addr} : ∀ {as : List Addr} {us ws : List V} {xs ys : List Val}, as.Pairwise (· < ·) → (∀ c ∈ as, H c = none) → RepL K ρ H xs us → RepL K ρ H ys ws → us.length = ws.length → as.length = us.length → RepL K ρ (trk H as us ws) (zipV xs ys) (as.map V.ref)
  | [], us, ws, xs, ys, _, _, r1, r2, e1, e2 => by
    have : us = [] := by simpa using e2.symm
    subst this
    have h0 : xs.length = 0 := by rw [r1.length]; rfl
    have : xs = [] := by simpa using h0
    subst this
    exact rfl
  | a :: as, [], ws, xs, ys, _, _, _, _, _, e2 => by simp at e2
  | a :: as, u :: us, [], xs, ys, _, _, _, _, e1, _ => by simp at e1
  | a :: as, u :: us, w :: ws, [], ys, _, _, r1, _, _, _ => by cases r1
  | a :: as, u :: us, w :: ws, x :: xs, [], _, _, _, r2, _, _ => by cases r2
  | a :: as, u :: us, w :: ws, x :: xs, y :: ys, p, f, r1, r2, e1, e2 => by
    obtain ⟨p1, p2⟩ := List.pairwise_cons.mp p
    obtain ⟨_, _, q1, rx, rxs⟩ := r1
    obtain ⟨_, _, q2, ry, rys⟩ := r2
    cases q1
    cases q2
    have f2 : ∀ c ∈ as, H c = none := fun c hc => f c (List.mem_cons_of_mem _ hc)
    have hn : trk H as us ws a = none := by
      rw [trk_out fun hm => Nat.lt_irrefl _ (p1 a hm)]
      exact f a List.mem_cons_self
    have E1 := (ext_trk (K := K) (ρ := ρ) (s := []) (us := us) (ws := ws) p2 f2).1
    have E2 : Ext ρ H ρ (trk H (a :: as) (u :: us) (w :: ws)) := by rw [trk]; exact E1.trans (ext_new hn)
    have ih := repL_trk p2 f2 rxs rys (by simpa using e1) (by simpa using e2)
    refine ⟨V.ref a, as.map V.ref, rfl, ⟨a, [u, w], rfl, .inl ?_, u, [w], rfl, rx.mono E2, w, [], rfl, ry.mono E2, rfl⟩, ?_⟩
    · rw [trk]
      exact .inl upd_same
    · rw [trk]
      exact ih.mono (ext_new hn)
theorem r_lzip {Q : VK} (h : RE W K G (.lzip a b) τ H Q) : tLZ K (tCons (RE W K G a) (tCons (RE W K G b) tNil)) τ H Q := by
  obtain ⟨ρ, σ, s, RS, L, h⟩ := h
  simp only [evalE] at h
  refine stE RS L h fun w H1 ρ1 v s1 R1 L1 r1 h1 => stE' R1 L1 h1 fun w2 H2 ρ2 v2 s2 e2 R2 L2 r2 h2 => ?_
  split at h2
  · rename_i xs ys q1 q2
    split at h2
    · rename_i hl
      obtain ⟨p, us, rfl, h3, h4⟩ := R2.seqL q1 (r1.mono e2)
      obtain ⟨q, ws, rfl, h5, h6⟩ := R2.seqL q2 r2
      have hlen : us.length = ws.length := by rw [← h4.length, ← h6.length, hl]
      refine ⟨p, q, us, ws, rfl, h3, h5, hlen, fun S as hal hp hf hS => ?_⟩
      have f2 : ∀ c ∈ as, H2 c = none := fun c hc => (hf c hc).2
      obtain ⟨E, RR⟩ := ext_trk (K := K) (ρ := ρ2) (s := s2) (us := us) (ws := ws) hp f2
      have hn : trk H2 as us ws S = none := by
        rw [trk_out fun hm => Nat.lt_irrefl _ (hf S hm).1]
        exact hS
      exact (h2.up E).pushedL (RR R2) (repL_trk hp f2 h4 h6 hlen hal) hn
    · exact h2.elim
  · exact h2.elim
theorem cmpV_ok {o : Cop} {x y : Val} {s : Sto} {ρ : List Addr} {Q : VK} (h : Psx (Wt W τ) K (Rep K) ρ H (cmpV o x y s) Q) : ∃ k, cmpO s o x y = some k ∧ Psx (Wt W τ) K (Rep K) ρ H (.ok (.bl k) s) Q := by
  unfold cmpV at h
  split at h
  · rename_i k e
    exact ⟨k, e, h⟩
  · exact h.elim
theorem r_cmp {o : Cop} {Q : VK} (h : RE W K G (.cmp o a b) τ H Q) : tOp (rC K o) (RE W K G a) (RE W K G b) τ H Q := by
  obtain ⟨ρ, σ, s, R, L, h⟩ := h
  simp only [evalE] at h
  refine stE R L h fun w H1 ρ1 v s1 R1 L1 r1 h1 => stE' R1 L1 h1 fun w2 H2 ρ2 v2 s2 e2 R2 L2 r2 h2 => ?_
  obtain ⟨k, e, h3⟩ := cmpV_ok h2
  exact ⟨ρ2, s2, v, v2, k, R2, r1.mono e2, r2, e, h3.here R2 rfl⟩
theorem r_chn {o o' : Cop} {Q : VK} (h : RE W K G (.chn o o' a b c) τ H Q) : tChain (rC K o) (rC K o') (RE W K G a) (RE W K G b) (RE W K G c) τ H Q := by
  obtain ⟨ρ, σ, s, R, L, h⟩ := h
  simp only [evalE] at h
  refine stE R L h fun w H1 ρ1 v s1 R1 L1 r1 h1 => stE' R1 L1 h1 fun w2 H2 ρ2 v2 s2 e2 R2 L2 r2 h2 => ?_
  have h2' : ∃ k, cmpO s2 o v v2 = some k ∧ Psx (Wt W τ) K (Rep K) ρ2 H2 (match Val.bl k with | .bl true => (evalE G c σ s2).bind fun z s4 => cmpV o' v2 z s4 | .bl false => .ok (.bl false) s2 | _ => .stuck) Q := by
    unfold cmpV at h2
    split at h2
    · rename_i k e; exact ⟨k, e, h2⟩
    · exact h2.elim
  obtain ⟨k, e, h3⟩ := h2'
  refine ⟨ρ2, s2, v, v2, k, R2, r1.mono e2, r2, e, k, rfl, ?_⟩
  cases k with
  | false => rw [if_neg Bool.false_ne_true]; exact h3.here R2 rfl
  | true =>
    rw [if_pos rfl]
    refine stE' R2 L2 h3 fun w3 H3 ρ3 v3 s3 e3 R3 L3 r3 h4 => ?_
    obtain ⟨k', e', h5⟩ := cmpV_ok h4
    exact ⟨ρ3, s3, v2, v3, k', R3, r2.mono e3, r3, e', h5.here R3 rfl⟩
theorem r_and {Q : VK} (h : RE W K G (.and a b) τ H Q) : tAndT K (RE W K G a) (RE W K G b) τ H Q := by
  obtain ⟨ρ, σ, s, R, L, h⟩ := h
  simp only [evalE] at h
  refine stE R L h fun w H1 ρ1 v s1 R1 L1 r1 h1 => ?_
  split at h1
  · rename_i e
    exact ⟨true, truth_ok R1 r1 e, by rw [if_pos rfl]; exact ⟨ρ1, σ, s1, R1, L1, h1⟩⟩
  · rename_i e
    exact ⟨false, truth_ok R1 r1 e, by rw [if_neg Bool.false_ne_true]; exact h1.here R1 r1⟩
  · exact h1.elim
theorem r_or {Q : VK} (h : RE W K G (.or a b) τ H Q) : tOrT K (RE W K G a) (RE W K G b) τ H Q := by
  obtain ⟨ρ, σ, s, R, L, h⟩ := h
  simp only [evalE] at h
  refine stE R L h fun w H1 ρ1 v s1 R1 L1 r1 h1 => ?_
  split at h1
  · rename_i e
    exact ⟨true, truth_ok R1 r1 e, by rw [if_pos rfl]; exact h1.here R1 r1⟩
  · rename_i e
    exact ⟨false, truth_ok R1 r1 e, by rw [if_neg Bool.false_ne_true]; exact ⟨ρ1, σ, s1, R1, L1, h1⟩⟩
  · exact h1.elim
theorem r_ife {Q : VK} (h : RE W K G (.ife c a b) τ H Q) : tIf (RT W K G c) (RE W K G a) (RE W K G b) τ H Q := by
  obtain ⟨ρ, σ, s, R, L, h⟩ := h
  simp only [evalE] at h
  refine stT R L h fun w H1 ρ1 s1 R1 L1 h1 => ?_
  cases w with
  | true => rw [if_pos rfl]; exact ⟨ρ1, σ, s1, R1, L1, h1⟩
  | false => rw [if_neg Bool.false_ne_true]; exact ⟨ρ1, σ, s1, R1, L1, h1⟩
theorem r_prim {p : Pr} {as : Es} {Q : VK} (h : RE W K G (.prim p as) τ H Q) : tCB (rP K p) (RA W K G as) τ H Q := by
  obtain ⟨ρ, σ, s, R, L, h⟩ := h
  simp only [evalE] at h
  exact stA R L h fun ws H1 ρ1 vs s1 e1 R1 L1 r1 h1 => ⟨ρ1, s1, vs, R1, r1, h1.pst (calm_prim _ _ _)⟩
theorem r_idx {Q : VK} (h : RE W K G (.idx a b) τ H Q) : tOp (rIt K) (RE W K G a) (RE W K G b) τ H Q := by
  obtain ⟨ρ, σ, s, R, L, h⟩ := h
  simp only [evalE] at h
  refine stE R L h fun w H1 ρ1 v s1 R1 L1 r1 h1 => stE' R1 L1 h1 fun w2 H2 ρ2 v2 s2 e2 R2 L2 r2 h2 => ?_
  exact ⟨ρ2, s2, v, v2, R2, r1.mono e2, r2, h2.pst (calm_item _ _ _)⟩
theorem stO {α β : Type} {S : List Addr → Hp → α → β → Prop} {Q : β → Hp → Prop} {ρ : List Addr} {σ : Env} {s : Sto} {o : Eo} {f : Option Int → Sto → Out α} (R : RelS K ρ s H) (L : RelE K ρ H σ τ) (h : Psx (Wt W τ) K S ρ H ((evalEo G o σ s).bind f) Q) {Q' : Option Int → Hp → Prop}
    (k : ∀ w H1 ρ1 s1, Ext ρ H ρ1 H1 → RelS K ρ1 s1 H1 → RelE K ρ1 H1 σ τ → Psx (Wt W τ) K S ρ1 H1 (f w s1) Q → Q' w H1) : ROp W K G o τ H Q' :=
  ⟨ρ, σ, s, R, L, (Psx.bind h).mono fun w H1 ⟨ρ1, v, s1, e, R1, r, q⟩ => by cases r; exact k _ H1 ρ1 s1 e R1 (L.mono e) q⟩
theorem r_slc {lo hi : Eo} {Q : VK} (h : RE W K G (.slc a lo hi) τ H Q) : tSl (rSl K) (RE W K G a) (ROp W K G lo) (ROp W K G hi) τ H Q := by
  obtain ⟨ρ, σ, s, R, L, h⟩ := h
  simp only [evalE] at h
  refine stE R L h fun w H1 ρ1 v s1 R1 L1 r1 h1 => stO R1 L1 h1 fun l H2 ρ2 s2 e2 R2 L2 h2 => stO R2 L2 h2 fun u H3 ρ3 s3 e3 R3 L3 h3 => ?_
  exact ⟨ρ3, s3, v, R3, (r1.mono e2).mono e3, h3.pst (calm_cut _ _ _ _)⟩
theorem ro_none {Q : Option Int → Hp → Prop} (h : ROp W K G .none τ H Q) : tNoPart τ H Q := by
  obtain ⟨ρ, σ, s, R, L, h⟩ := h
  exact h.here R rfl
theorem ro_some {Q : Option Int → Hp → Prop} (h : ROp W K G (.some a) τ H Q) : tPart (RE W K G a) τ H Q := by
  obtain ⟨ρ, σ, s, R, L, h⟩ := h
  simp only [evalEo] at h
  refine stE R L h fun w H1 ρ1 v s1 R1 L1 r1 h1 => ?_
  cases v with
  | int i => cases r1; exact ⟨i, rfl, h1.here R1 rfl⟩
  | _ => exact h1.elim
theorem r_rev {Q : VK} (h : RE W K G (.rev a) τ H Q) : RE W K G a τ H (fun x H1 => ∃ ρ1 v s1, RelS K ρ1 s1 H1 ∧ Rep K ρ1 H1 v x ∧ Pst K (Rep K) ρ1 H1 (revV v s1) Q) := by
  obtain ⟨ρ, σ, s, R, L, h⟩ := h
  simp only [evalE] at h
  exact stE R L h fun w H1 ρ1 v s1 R1 L1 r1 h1 => ⟨ρ1, v, s1, R1, r1, h1.pst (calm_rev _ _)⟩
theorem r_tup {as : Es} {Q : VK} (h : RE W K G (.tup as) τ H Q) : tTup (RA W K G as) τ H Q := by
  obtain ⟨ρ, σ, s, R, L, h⟩ := h
  simp only [evalE] at h
  refine stA R L h fun ws H1 ρ1 vs s1 e1 R1 L1 r1 h1 => ?_
  split at h1
  · rename_i hl
    exact ⟨by rw [← r1.length]; exact hl, fun p hp => h1.tupled R1 r1 hp⟩
  · exact h1.elim
theorem r_lst {as : Es} {Q : VK} (h : RE W K G (.lst as) τ H Q) : tLst (RA W K G as) τ H Q := by
  obtain ⟨ρ, σ, s, R, L, h⟩ := h
  simp only [evalE] at h
  refine stA R L h fun ws H1 ρ1 vs s1 e1 R1 L1 r1 h1 => ?_
  split at h1
  · rename_i hl
    exact ⟨by rw [← r1.length]; exact hl, fun p hp => h1.pushedL R1 r1 hp⟩
  · exact h1.elim
theorem r_dctK {Q : VK} (h : RE W K G (.dct false) τ H Q) : tDNewK τ H Q := by
  obtain ⟨ρ, σ, s, R, L, h⟩ := h
  simp only [evalE] at h
  exact fun p hp => h.pushed R hp ⟨[], upd_same, .nil⟩
theorem r_dctT {Q : VK} (h : RE W K G (.dct true) τ H Q) : tDNewT τ H Q := by
  obtain ⟨ρ, σ, s, R, L, h⟩ := h
  simp only [evalE] at h
  exact fun p hp => h.pushed R hp ⟨[], upd_same, .nil⟩
theorem ra_nil {Q : List V → Hp → Prop} (h : RA W K G .nil τ H Q) : tNil τ H Q := by
  obtain ⟨ρ, σ, s, R, L, h⟩ := h
  exact h.here R rfl
theorem ra_cons {as : Es} {Q : List V → Hp → Prop} (h : RA W K G (.cons a as) τ H Q) : tCons (RE W K G a) (RA W K G as) τ H Q := by
  obtain ⟨ρ, σ, s, R, L, h⟩ := h
  simp only [evalEs] at h
  refine stE R L h fun w H1 ρ1 v s1 R1 L1 r1 h1 => stA R1 L1 h1 fun ws H2 ρ2 vs s2 e2 R2 L2 r2 h2 => ?_
  exact h2.here R2 ⟨w, ws, rfl, r1.mono e2, r2⟩
theorem recv_ty {ρ : List Addr} {s : Sto} {me : Me} {x : Val} {v : V} (R : RelS K ρ s H) (r : Rep K ρ H x v) (hr : recvOk me s x = true) : tyV K (meT me) v H := by
  cases x with
  | loc n =>
    obtain ⟨p, rfl, h1⟩ := r
    simp only [recvOk] at hr
    cases q : s[n]? with
    | none => rw [q] at hr; cases me <;> cases hr
    | some o =>
      rw [q] at hr
      have ho := R.obj n p o h1 q
      cases o with
      | lst xs =>
        obtain ⟨vs, h3, _⟩ := ho
        cases me <;> first | exact .inl ⟨rfl, vs, SqL.of h3⟩ | (cases hr)
      | dct t kvs =>
        cases t with
        | false =>
          obtain ⟨vs, h3, _⟩ := ho
          cases me <;> first | exact .inr (.inr (.inl ⟨rfl, .inl ⟨_, h3⟩⟩)) | (cases hr)
        | true =>
          obtain ⟨vs, h3, _⟩ := ho
          cases me <;> first | exact .inr (.inr (.inl ⟨rfl, .inr ⟨_, h3⟩⟩)) | (cases hr)
      | ins _ _ => exact ho.elim
  | _ => cases hr
theorem r_meth {me : Me} {as : Es} {Q : VK} (h : RE W K G (.meth me a as) τ H Q) : tBM K (meT me) (rM K me) (RE W K G a) (RA W K G as) τ H Q := by
  obtain ⟨ρ, σ, s, R, L, h⟩ := h
  simp only [evalE] at h
  refine stE R L h fun w H1 ρ1 v s1 R1 L1 r1 h1 => ?_
  split at h1
  · rename_i hr
    refine ⟨recv_ty R1 r1 hr, stA R1 L1 h1 fun ws H2 ρ2 vs s2 e2 R2 L2 r2 h2 => ?_⟩
    exact ⟨ρ2, s2, v, vs, R2, r1.mono e2, r2, h2.pst (calm_meth _ _ _ _)⟩
  · exact h1.elim
theorem r_meth0 {me : Me} {Q : VK} (h : RE W K G (.meth me a .nil) τ H Q) : tBM0 K (meT me) (rM K me) (RE W K G a) τ H Q := by
  have h2 := r_meth h
  obtain ⟨ρ, σ, s, R, L, h3⟩ := h2
  exact ⟨ρ, σ, s, R, L, h3.mono fun w H1 q => ⟨q.1, ra_nil q.2⟩⟩

/-! ### tests -/
theorem t_nt {Q : Bool → Hp → Prop} (h : RT W K G (.nt a) τ H Q) : tNot (RT W K G a) τ H Q := by
  obtain ⟨ρ, σ, s, R, L, h⟩ := h
  simp only [evalT] at h
  exact stT R L h fun w H1 ρ1 s1 R1 L1 h1 => h1.here R1 rfl
theorem t_and {Q : Bool → Hp → Prop} (h : RT W K G (.and a b) τ H Q) : tAnd (RT W K G a) (RT W K G b) τ H Q := by
  obtain ⟨ρ, σ, s, R, L, h⟩ := h
  simp only [evalT] at h
  refine stT R L h fun w H1 ρ1 s1 R1 L1 h1 => ?_
  cases w with
  | true => rw [if_pos rfl]; exact ⟨ρ1, σ, s1, R1, L1, h1⟩
  | false => rw [if_neg Bool.false_ne_true]; exact h1.here R1 rfl
theorem t_or {Q : Bool → Hp → Prop} (h : RT W K G (.or a b) τ H Q) : tOr (RT W K G a) (RT W K G b) τ H Q := by
  obtain ⟨ρ, σ, s, R, L, h⟩ := h
  simp only [evalT] at h
  refine stT R L h fun w H1 ρ1 s1 R1 L1 h1 => ?_
  cases w with
  | true => rw [if_pos rfl]; exact h1.here R1 rfl
  | false => rw [if_neg Bool.false_ne_true]; exact ⟨ρ1, σ, s1, R1, L1, h1⟩
theorem t_ife {Q : Bool → Hp → Prop} (h : RT W K G (.ife c a b) τ H Q) : (fun σ H Q => RT W K G c σ H fun k H1 => if k = true then RT W K G a σ H1 Q else RT W K G b σ H1 Q) τ H Q := by
  obtain ⟨ρ, σ, s, R, L, h⟩ := h
  simp only [evalT] at h
  refine stT R L h fun w H1 ρ1 s1 R1 L1 h1 => ?_
  cases w with
  | true => rw [if_pos rfl]; exact ⟨ρ1, σ, s1, R1, L1, h1⟩
  | false => rw [if_neg Bool.false_ne_true]; exact ⟨ρ1, σ, s1, R1, L1, h1⟩
theorem t_cmp {o : Cop} {Q : Bool → Hp → Prop} (h : RT W K G (.cmp o a b) τ H Q) : tTest (tOp (rC K o) (RE W K G a) (RE W K G b)) τ H Q := by
  obtain ⟨ρ, σ, s, R, L, h⟩ := h
  simp only [evalT] at h
  refine stE R L h fun w H1 ρ1 v s1 R1 L1 r1 h1 => stE' R1 L1 h1 fun w2 H2 ρ2 v2 s2 e2 R2 L2 r2 h2 => ?_
  split at h2
  · rename_i k e
    exact ⟨ρ2, s2, v, v2, k, R2, r1.mono e2, r2, e, k, rfl, h2.here R2 rfl⟩
  · exact h2.elim
theorem t_chn {o o' : Cop} {Q : Bool → Hp → Prop} (h : RT W K G (.chn o o' a b c) τ H Q) : tTest (tChain (rC K o) (rC K o') (RE W K G a) (RE W K G b) (RE W K G c)) τ H Q := by
  obtain ⟨ρ, σ, s, R, L, h⟩ := h
  simp only [evalT] at h
  refine stE R L h fun w H1 ρ1 v s1 R1 L1 r1 h1 => stE' R1 L1 h1 fun w2 H2 ρ2 v2 s2 e2 R2 L2 r2 h2 => ?_
  split at h2
  · rename_i e
    refine ⟨ρ2, s2, v, v2, true, R2, r1.mono e2, r2, e, true, rfl, ?_⟩
    rw [if_pos rfl]
    refine stE' R2 L2 h2 fun w3 H3 ρ3 v3 s3 e3 R3 L3 r3 h4 => ?_
    split at h4
    · rename_i k' e'
      exact ⟨ρ3, s3, v2, v3, k', R3, r2.mono e3, r3, e', k', rfl, h4.here R3 rfl⟩
    · exact h4.elim
  · rename_i e
    refine ⟨ρ2, s2, v, v2, false, R2, r1.mono e2, r2, e, false, rfl, ?_⟩
    rw [if_neg Bool.false_ne_true]
    exact ⟨false, rfl, h2.here R2 rfl⟩
  · exact h2.elim
/-- which terms are tested by their value's truth -/
def plainT : E → Bool
  | .var _ => true
  | .cst _ => true
  | .glob _ => true
  | .bin _ _ _ => true
  | .call _ _ => true
  | .callK _ _ _ _ => true
  | .prim _ _ => true
  | .meth _ _ _ => true
  | .idx _ _ => true
  | _ => false
theorem bind_assoc {α β γ : Type} (o : Out α) (f : α → Sto → Out β) (g : β → Sto → Out γ) : (o.bind f).bind g = o.bind fun a s => (f a s).bind g := by cases o <;> rfl
theorem plainT_eq (h : plainT m = true) (σ : Env) (s : Sto) : evalT G m σ s = (evalE G m σ s).bind fun x s1 => Out.opt (truth s1 x) s1 := by
  cases m with
  | var i => simp only [evalT, evalE]; split <;> rfl
  | cst v => simp only [evalT, evalE, Out.bind_ok]
  | glob x => simp only [evalT, evalE]; split <;> rfl
  | bin o a b => simp only [evalT, evalE, bind_assoc]
  | call f as => simp only [evalT, evalE, bind_assoc]
  | callK f as ks kas =>
    simp only [evalT, evalE, bind_assoc]
    congr 1; funext vs s1
    congr 1; funext us s2
    split <;> rfl
  | prim p as => simp only [evalT, evalE, bind_assoc]
  | meth m o as =>
    simp only [evalT, evalE, bind_assoc]
    congr 1; funext vs s1
    split
    · rw [bind_assoc]
    · rfl
  | idx a i => simp only [evalT, evalE, bind_assoc]
  | _ => cases h
theorem t_plain {Q : Bool → Hp → Prop} (hp : plainT m = true) (h : RT W K G m τ H Q) : (fun σ H Q => RE W K G m σ H fun x H' => ∃ k, TruV K x H' k ∧ Q k H') τ H Q := by
  obtain ⟨ρ, σ, s, R, L, h⟩ := h
  rw [plainT_eq hp] at h
  refine stE R L h fun w H1 ρ1 v s1 R1 L1 r1 h1 => ?_
  cases e : truth s1 v with
  | none => rw [e] at h1; exact h1.elim
  | some k => rw [e] at h1; exact ⟨k, truth_ok R1 r1 e, h1.here R1 rfl⟩
/-- the others -/
def testT : E → Bool
  | .nt _ => true
  | .cmp _ _ _ => true
  | .chn _ _ _ _ _ => true
  | .and _ _ => true
  | .or _ _ => true
  | .ife _ _ _ => true
  | _ => false
theorem t_other {Q : Bool → Hp → Prop} (hp : plainT m = false) (hq : testT m = false) (h : RT W K G m τ H Q) : False := by
  obtain ⟨ρ, σ, s, R, L, h⟩ := h
  cases m <;> first | (cases hp; done) | (cases hq; done) | exact h
end
end Bk
set_option maxHeartbeats 4000000
/-! RunD3: iterators, targets, comprehensions, calls. -/
namespace Bk
open PySem PySem.Spec PyProof.Rows L2

section
variable {W : WX} {K : PySem.W.Frag} {G : Ctx} {a b c m : E} {τ : L2.St} {H : Hp}
theorem ri_seq {R : L2.It → Hp → Prop} (h : RIt W K G (.seq a) τ H R) : iSeq K (RE W K G a) τ H R := by
  obtain ⟨ρ, σ, s, RS, L, h⟩ := h
  simp only [evalIt] at h
  refine stE RS L h fun w H1 ρ1 v s1 R1 L1 r1 h1 => ?_
  cases e : seqG s1 v with
  | none => rw [e] at h1; exact h1.elim
  | some p =>
    obtain ⟨xs, gd⟩ := p
    rw [e] at h1
    obtain ⟨a, rfl, hg, hh⟩ := seqG_ok R1 r1 e
    refine ⟨a, rfl, ?_⟩
    rcases hh with ⟨rfl, vs, h2, h3⟩ | ⟨rfl, vs, h2, h3⟩ | ⟨n, vs, rfl, h2, h3⟩
    · exact .inr ⟨vs, h2, h1.here R1 (walkV_tup h2 h3)⟩
    · exact .inl ⟨vs, h2.sq, h1.here R1 (walkV_list (lstSt_rol h2 h3))⟩
    · exact .inl ⟨vs, h3, h1.here R1 (walkV_list (lstSt_loc h2))⟩
theorem ri_rng1 {R : L2.It → Hp → Prop} (h : RIt W K G (.rng1 b) τ H R) : iRng1 (tCons (RE W K G b) tNil) τ H R := by
  obtain ⟨ρ, σ, s, RS, L, h⟩ := h
  simp only [evalIt] at h
  refine stE RS L h fun w H1 ρ1 v s1 R1 L1 r1 h1 => ?_
  cases v with
  | int j =>
    cases r1
    simp only at h1
    split at h1
    · rename_i hs
      exact ⟨j, rfl, hs.1, hs.2, h1.here R1 walkV_rng⟩
    · exact h1.elim
  | _ => exact h1.elim
theorem ri_rng2 {R : L2.It → Hp → Prop} (h : RIt W K G (.rng2 a b) τ H R) : iRng2 (tCons (RE W K G a) (tCons (RE W K G b) tNil)) τ H R := by
  obtain ⟨ρ, σ, s, RS, L, h⟩ := h
  simp only [evalIt] at h
  refine stE RS L h fun w H1 ρ1 v s1 R1 L1 r1 h1 => stE' R1 L1 h1 fun w2 H2 ρ2 v2 s2 e2 R2 L2 r2 h2 => ?_
  cases v with
  | int i =>
    cases v2 with
    | int j =>
      cases r1; cases r2
      simp only at h2
      split at h2
      · rename_i hs
        exact ⟨i, j, rfl, ⟨hs.1.1, hs.1.2, hs.2.1, hs.2.2⟩, h2.here R2 walkV_rng⟩
      · exact h2.elim
    | _ => exact h2.elim
  | _ => exact h2.elim
theorem ri_rng3 {R : L2.It → Hp → Prop} (h : RIt W K G (.rng3 a b c) τ H R) : iRng3 (tCons (RE W K G a) (tCons (RE W K G b) (tCons (RE W K G c) tNil))) τ H R := by
  obtain ⟨ρ, σ, s, RS, L, h⟩ := h
  simp only [evalIt] at h
  refine stE RS L h fun w H1 ρ1 v s1 R1 L1 r1 h1 => stE' R1 L1 h1 fun w2 H2 ρ2 v2 s2 e2 R2 L2 r2 h2 => stE' R2 L2 h2 fun w3 H3 ρ3 v3 s3 e3 R3 L3 r3 h3 => ?_
  split at h3
  · rename_i i j
    cases r1; cases r2; cases r3
    split at h3
    · rename_i hs
      exact ⟨i, j, -1, (i - j).toNat, rfl, RgC.neg hs.1.1 hs.1.2 hs.2.1 hs.2.2, h3.here R3 walkV_rngC⟩
    · exact h3.elim
  · exact h3.elim
theorem ri_enum {R : L2.It → Hp → Prop} (h : RIt W K G (.enum a) τ H R) : iEnumA K (tCons (RE W K G a) tNil) τ H R := by
  obtain ⟨ρ, σ, s, RS, L, h⟩ := h
  simp only [evalIt] at h
  refine stE RS L h fun w H1 ρ1 v s1 R1 L1 r1 h1 => ?_
  cases e : seqG s1 v with
  | none => rw [e] at h1; exact h1.elim
  | some p =>
    obtain ⟨xs, gd⟩ := p
    rw [e] at h1
    obtain ⟨a, rfl, hg, hh⟩ := seqG_ok R1 r1 e
    refine ⟨a, rfl, ?_⟩
    rcases hh with ⟨rfl, vs, h2, h3⟩ | ⟨rfl, vs, h2, h3⟩ | ⟨n, vs, rfl, h2, h3⟩
    · exact .inr ⟨vs, h2, h1.here R1 (walkV_enumT h2 h3)⟩
    · exact .inl ⟨vs, h2.sq, h1.here R1 (walkV_enumL (lstSt_rol h2 h3))⟩
    · exact .inl ⟨vs, h3, h1.here R1 (walkV_enumL (lstSt_loc h2))⟩
theorem seqG_tup {s : Sto} {v : Val} {xs : List Val} (e : seqG s v = some (xs, .none)) : v = .tup xs := by
  cases v with
  | tup ys => cases e; rfl
  | loc n => simp only [seqG] at e; split at e <;> cases e
  | _ => cases e
theorem seqG_lst {s : Sto} {v : Val} {xs us : List Val} {n : Nat} (e : seqG s v = some (xs, .lst n us)) : v = .loc n ∧ us = xs ∧ listAt s n = some xs := by
  cases v with
  | loc m =>
    simp only [seqG] at e
    split at e
    · rename_i ys h
      cases e
      exact ⟨rfl, rfl, h⟩
    · cases e
  | _ => cases e
theorem ri_zip {R : L2.It → Hp → Prop} (h : RIt W K G (.zip a b) τ H R) : iZip3 K (tCons (RE W K G a) (tCons (RE W K G b) tNil)) τ H R := by
  obtain ⟨ρ, σ, s, RS, L, h⟩ := h
  simp only [evalIt] at h
  refine stE RS L h fun w H1 ρ1 v s1 R1 L1 r1 h1 => stE' R1 L1 h1 fun w2 H2 ρ2 v2 s2 e2 R2 L2 r2 h2 => ?_
  split at h2
  · rename_i xs ys q1 q2
    have e1 := seqG_tup q1
    have e3 := seqG_tup q2
    subst e1 e3
    obtain ⟨p, vs, rfl, h3, h4⟩ := r1.mono e2
    obtain ⟨q, ws, rfl, h5, h6⟩ := r2
    exact ⟨p, q, vs, ws, rfl, .inr (.inl ⟨h3, h5, h2.here R2 (walkV_zipT h3 h4 h5 h6)⟩)⟩
  · rename_i xs ys m ws q1 q2
    have e1 := seqG_tup q1
    subst e1
    obtain ⟨rfl, rfl, g2⟩ := seqG_lst q2
    obtain ⟨p, vs, rfl, h3, h4⟩ := r1.mono e2
    obtain ⟨q, rfl, h5⟩ := r2
    obtain ⟨zs, h8, _⟩ := R2.list g2 h5
    exact ⟨p, q, vs, zs, rfl, .inr (.inr ⟨h3, h8, h2.here R2 (walkV_zipM h3 h4 (lstSt_loc h5))⟩)⟩
  · rename_i xs n us ys m ws q1 q2
    obtain ⟨rfl, rfl, g1⟩ := seqG_lst q1
    obtain ⟨rfl, rfl, g2⟩ := seqG_lst q2
    obtain ⟨p, rfl, h3⟩ := r1.mono e2
    obtain ⟨q, rfl, h5⟩ := r2
    obtain ⟨vs, h7, _⟩ := R2.list g1 h3
    obtain ⟨zs, h8, _⟩ := R2.list g2 h5
    exact ⟨p, q, vs, zs, rfl, .inl ⟨h7, h8, h2.here R2 (walkV_zipL (lstSt_loc h3) (lstSt_loc h5) fun _ g => ⟨g.1, g.2⟩)⟩⟩
  · exact h2.elim
theorem ri_zip3 {R : L2.It → Hp → Prop} (h : RIt W K G (.zip3 a b c) τ H R) : iZ3 K (tCons (RE W K G a) (tCons (RE W K G b) (tCons (RE W K G c) tNil))) τ H R := by
  obtain ⟨ρ, σ, s, RS, L, h⟩ := h
  simp only [evalIt] at h
  refine stE RS L h fun w H1 ρ1 v s1 R1 L1 r1 h1 => stE' R1 L1 h1 fun w2 H2 ρ2 v2 s2 e2 R2 L2 r2 h2 => stE' R2 L2 h2 fun w3 H3 ρ3 v3 s3 e3 R3 L3 r3 h3 => ?_
  split at h3
  · rename_i xs g1 ys g2 zs g3 q1 q2 q3
    obtain ⟨p, κ1, rfl, ⟨us, u1⟩, k1⟩ := seqSt R3 (r1.mono (e2.trans e3)) q1
    obtain ⟨q, κ2, rfl, ⟨vs, u2⟩, k2⟩ := seqSt R3 (r2.mono e3) q2
    obtain ⟨r, κ3, rfl, ⟨ws, u3⟩, k3⟩ := seqSt R3 r3 q3
    exact ⟨κ1, κ2, κ3, p, q, r, us, vs, ws, rfl, u1, u2, u3, h3.here R3 (walkV_zip3 k1 k2 k3)⟩
  · exact h3.elim
end

/-! ### targets -/
def tgIx : Tg → List Nat
  | .nm i => [i]
  | .pr a b => tgIx a ++ tgIx b
  | .tr a b c => tgIx a ++ tgIx b ++ tgIx c
  | .qd a b c d => tgIx a ++ tgIx b ++ tgIx c ++ tgIx d
  | .qn a b c d e => tgIx a ++ tgIx b ++ tgIx c ++ tgIx d ++ tgIx e
/-- the same but at ix -/
def Sam (ix : List Nat) (τ τ' : L2.St) : Prop := τ'.length = τ.length ∧ ∀ i, i ∉ ix → τ'[i]? = τ[i]?
theorem Sam.refl (ix : List Nat) (τ : L2.St) : Sam ix τ τ := ⟨rfl, fun _ _ => rfl⟩
theorem Sam.trans {ix : List Nat} {τ τ1 τ2 : L2.St} (a : Sam ix τ τ1) (b : Sam ix τ1 τ2) : Sam ix τ τ2 := ⟨b.1.trans a.1, fun i h => (b.2 i h).trans (a.2 i h)⟩
theorem Sam.sub {ix jx : List Nat} {τ τ1 : L2.St} (a : Sam ix τ τ1) (h : ∀ i ∈ ix, i ∈ jx) : Sam jx τ τ1 := ⟨a.1, fun i hi => a.2 i fun q => hi (h i q)⟩
theorem wipe_sam {τ τ' : L2.St} {ix : List Nat} (h : Sam ix τ τ') : L2.wipe τ' ix = L2.wipe τ ix := by
  have key : ∀ (vs : List Nat) (i : Nat), (L2.wipe τ' vs)[i]? = if i ∈ vs then (if i < τ'.length then some none else none) else τ'[i]? := fun vs i => by
    induction vs with
    | nil => simp [L2.wipe]
    | cons v vs ih =>
      unfold L2.wipe
      by_cases hv : v = i
      · subst hv
        rw [List.getElem?_set]
        simp only [if_true, List.mem_cons_self, L2.wipe_length]
      · rw [List.getElem?_set_ne hv, ih]
        simp only [List.mem_cons, Ne.symm hv, false_or]
  have key' : ∀ (vs : List Nat) (i : Nat), (L2.wipe τ vs)[i]? = if i ∈ vs then (if i < τ.length then some none else none) else τ[i]? := fun vs i => by
    induction vs with
    | nil => simp [L2.wipe]
    | cons v vs ih =>
      unfold L2.wipe
      by_cases hv : v = i
      · subst hv
        rw [List.getElem?_set]
        simp only [if_true, List.mem_cons_self, L2.wipe_length]
      · rw [List.getElem?_set_ne hv, ih]
        simp only [List.mem_cons, Ne.symm hv, false_or]
  refine List.ext_getElem? fun i => ?_
  rw [key, key', h.1]
  split
  · rfl
  · rename_i hi
    exact h.2 i hi
theorem wipe_wipe {τ : L2.St} {ix : List Nat} : L2.wipe (L2.wipe τ ix) ix = L2.wipe τ ix := by
  refine wipe_sam ⟨L2.wipe_length _ _, fun i hi => ?_⟩
  have : ∀ vs : List Nat, i ∉ vs → (L2.wipe τ vs)[i]? = τ[i]? := fun vs => by
    induction vs with
    | nil => intro _; rfl
    | cons v vs ih =>
      intro h
      unfold L2.wipe
      rw [List.getElem?_set_ne (fun (e : v = i) => h (by rw [e]; exact List.mem_cons_self))]
      exact ih fun q => h (List.mem_cons_of_mem _ q)
  exact this ix hi

/-- assignment to a target -/
abbrev RGt (K : PySem.W.Frag) (g : Tg) : TG := fun v τ H Q => ∃ ρ σ s x σ', RelS K ρ s H ∧ RelE K ρ H σ τ ∧ Rep K ρ H x v ∧ asgT s g x σ = some σ' ∧ ∀ τ', RelE K ρ H σ' τ' → Sam (tgIx g) τ τ' → Q τ' H
def asgL (s : Sto) : List Tg → List Val → Env → Option Env
  | [], [], σ => some σ
  | t :: ts, x :: xs, σ => (asgT s t x σ).bind (asgL s ts xs)
  | _, _, _ => none
def gsT (K : PySem.W.Frag) : List Tg → TGs
  | [] => gNil
  | t :: r => gCons (RGt K t) (gsT K r)
section
variable {K : PySem.W.Frag} {H : Hp} {ρ : List Addr} {s : Sto}
theorem rgs_ok (R : RelS K ρ s H) : ∀ {ts : List Tg} {xs : List Val} {vs : List V} {σ σ' : Env} {τ : L2.St} {Q : L2.St → Hp → Prop}, RelE K ρ H σ τ → RepL K ρ H xs vs → asgL s ts xs σ = some σ' → (∀ τ', RelE K ρ H σ' τ' → Sam (ts.flatMap tgIx) τ τ' → Q τ' H) → gsT K ts vs τ H Q
  | [], [], _, _, _, _, _, L, r, e, k => by cases r; cases e; exact ⟨rfl, k _ L (.refl _ _)⟩
  | [], _ :: _, _, _, _, _, _, _, _, e, _ => by cases e
  | _ :: _, [], _, _, _, _, _, _, _, e, _ => by cases e
  | t :: ts, x :: xs, _, σ, σ', τ, Q, L, r, e, k => by
    obtain ⟨v, vs, rfl, rx, rr⟩ := r
    obtain ⟨σ1, e1, e2⟩ := Option.bind_eq_some_iff.mp e
    refine ⟨v, vs, rfl, ρ, σ, s, x, σ1, R, L, rx, e1, fun τ1 L1 S1 => ?_⟩
    refine rgs_ok R L1 rr e2 fun τ2 L2 S2 => k τ2 L2 ?_
    rw [List.flatMap_cons]
    exact (S1.sub fun i h => List.mem_append_left _ h).trans (S2.sub fun i h => List.mem_append_right _ h)
theorem asgTs_ok {v : Val} {n : Nat} {xs : List Val} (e : asgTs s v n = some xs) : seqO s v = some xs ∧ xs.length = n := by
  unfold asgTs at e
  split at e
  · rename_i ys h
    split at e
    · rename_i hl; cases e; exact ⟨h, hl⟩
    · cases e
  · cases e
theorem rg_many {τ : L2.St} {Q : L2.St → Hp → Prop} {v : V} {x : Val} {σ σ' : Env} {xs : List Val} {ts : List Tg} {n : Nat} (R : RelS K ρ s H) (L : RelE K ρ H σ τ) (r : Rep K ρ H x v) (e : seqO s x = some xs) (hn : xs.length = n) (e2 : asgL s ts xs σ = some σ')
    (k : ∀ τ', RelE K ρ H σ' τ' → Sam (ts.flatMap tgIx) τ τ' → Q τ' H) : gTup K n (gsT K ts) v τ H Q ∨ gLst K n (gsT K ts) v τ H Q := by
  obtain ⟨a, vs, rfl, h1, h2⟩ := R.seqO e r
  have hl : vs.length = n := by rw [← h2.length]; exact hn
  rcases h1 with h1 | ⟨h1, _⟩
  · exact .inr ⟨a, vs, rfl, h1, hl, rgs_ok R L h2 e2 k⟩
  · exact .inl ⟨a, vs, rfl, h1, hl, rgs_ok R L h2 e2 k⟩
theorem rg_nm {i : Nat} {v : V} {τ : L2.St} {Q : L2.St → Hp → Prop} (h : RGt K (.nm i) v τ H Q) : gName i v τ H Q := by
  obtain ⟨ρ, σ, s, x, σ', R, L, r, e, k⟩ := h
  cases e
  exact k _ (L.set r i) ⟨by simp, fun j hj => List.getElem?_set_ne fun q => hj (by simp [tgIx, q])⟩
theorem rg_pr {a b : Tg} {v : V} {τ : L2.St} {Q : L2.St → Hp → Prop} (h : RGt K (.pr a b) v τ H Q) : gTup K 2 (gsT K [a, b]) v τ H Q ∨ gLst K 2 (gsT K [a, b]) v τ H Q := by
  obtain ⟨ρ, σ, s, x, σ', R, L, r, e, k⟩ := h
  simp only [asgT] at e
  split at e
  · rename_i y z h1
    obtain ⟨h2, h3⟩ := asgTs_ok h1
    refine rg_many R L r h2 h3 (σ' := σ') ?_ fun τ' L' S => k τ' L' (by simpa [tgIx] using S)
    simp only [asgL]
    rw [← e]
    cases asgT s a y σ with
    | none => rfl
    | some σ1 =>
      simp only [Option.bind_some]
      cases asgT s b z σ1 <;> rfl
  · cases e
theorem rg_tr {a b c : Tg} {v : V} {τ : L2.St} {Q : L2.St → Hp → Prop} (h : RGt K (.tr a b c) v τ H Q) : gTup K 3 (gsT K [a, b, c]) v τ H Q ∨ gLst K 3 (gsT K [a, b, c]) v τ H Q := by
  obtain ⟨ρ, σ, s, x, σ', R, L, r, e, k⟩ := h
  simp only [asgT] at e
  split at e
  · rename_i y z w h1
    obtain ⟨h2, h3⟩ := asgTs_ok h1
    refine rg_many R L r h2 h3 (σ' := σ') ?_ fun τ' L' S => k τ' L' (by simpa [tgIx, List.append_assoc] using S)
    simp only [asgL]
    rw [← e]
    cases asgT s a y σ with
    | none => rfl
    | some σ1 =>
      simp only [Option.bind_some]
      cases asgT s b z σ1 with
      | none => rfl
      | some σ2 =>
        simp only [Option.bind_some]
        cases asgT s c w σ2 <;> rfl
  · cases e
theorem rg_qd {a b c d : Tg} {v : V} {τ : L2.St} {Q : L2.St → Hp → Prop} (h : RGt K (.qd a b c d) v τ H Q) : gTup K 4 (gsT K [a, b, c, d]) v τ H Q ∨ gLst K 4 (gsT K [a, b, c, d]) v τ H Q := by
  obtain ⟨ρ, σ, s, x, σ', R, L, r, e, k⟩ := h
  simp only [asgT] at e
  split at e
  · rename_i y z w u h1
    obtain ⟨h2, h3⟩ := asgTs_ok h1
    refine rg_many R L r h2 h3 (σ' := σ') ?_ fun τ' L' S => k τ' L' (by simpa [tgIx, List.append_assoc] using S)
    simp only [asgL]
    rw [← e]
    cases asgT s a y σ with
    | none => rfl
    | some σ1 =>
      simp only [Option.bind_some]
      cases asgT s b z σ1 with
      | none => rfl
      | some σ2 =>
        simp only [Option.bind_some]
        cases asgT s c w σ2 with
        | none => rfl
        | some σ3 =>
          simp only [Option.bind_some]
          cases asgT s d u σ3 <;> rfl
  · cases e
theorem rg_qn {a b c d f : Tg} {v : V} {τ : L2.St} {Q : L2.St → Hp → Prop} (h : RGt K (.qn a b c d f) v τ H Q) : gTup K 5 (gsT K [a, b, c, d, f]) v τ H Q ∨ gLst K 5 (gsT K [a, b, c, d, f]) v τ H Q := by
  obtain ⟨ρ, σ, s, x, σ', R, L, r, e, k⟩ := h
  simp only [asgT] at e
  split at e
  · rename_i y z w u t h1
    obtain ⟨h2, h3⟩ := asgTs_ok h1
    refine rg_many R L r h2 h3 (σ' := σ') ?_ fun τ' L' S => k τ' L' (by simpa [tgIx, List.append_assoc] using S)
    simp only [asgL]
    rw [← e]
    cases asgT s a y σ with
    | none => rfl
    | some σ1 =>
      simp only [Option.bind_some]
      cases asgT s b z σ1 with
      | none => rfl
      | some σ2 =>
        simp only [Option.bind_some]
        cases asgT s c w σ2 with
        | none => rfl
        | some σ3 =>
          simp only [Option.bind_some]
          cases asgT s d u σ3 with
          | none => rfl
          | some σ4 =>
            simp only [Option.bind_some]
            cases asgT s f t σ4 <;> rfl
  · cases e
end
theorem orG {X : Cx} {e : Expr} {t t' : TG} (h : PG X e t) (h' : PG X e t') : PG X e (fun v σ H Q => t v σ H Q ∨ t' v σ H Q) :=
  ⟨fun pins s σ H v u Q I r q => q.elim (fun q => h.run pins s σ H v u Q I r q) fun q => h'.run pins s σ H v u Q I r q⟩

/-! ### comprehensions -/
/-- no error is wished for -/
abbrev W0 : WX := fun _ _ _ _ => False
section
variable {W : WX} {K : PySem.W.Frag} {G : Ctx} {m : E} {τ : L2.St} {H : Hp}
theorem r_lc {g : Tg} {it : Bk.It} {c : Eo} {own : List Nat} {Q : VK} (hown : ∀ i ∈ tgIx g, i ∈ own) (h : RE W K G (.lc m g it c own) τ H Q) : tLc (RIt W K G it) (RGt K g) (RCn W0 K G c) (RE W0 K G m) own τ H Q := by
  obtain ⟨ρ, σ, s, R, L, h⟩ := h
  simp only [evalE] at h
  refine ⟨ρ, σ, s, R, L, (Psx.bind h).mono fun J H1 ⟨ρ1, p, s1, e1, R1, wv, h1⟩ => ?_⟩
  obtain ⟨xs, gd⟩ := p
  have L1 := L.mono e1
  intro D hD
  refine ⟨fun i n H2 => n = xs.length - i ∧ i ≤ xs.length ∧ ∃ ρ2 s2 acc ws, Ext ρ1 H1 ρ2 H2 ∧ RelS K ρ2 s2 H2 ∧ D ∉ ρ2 ∧ H2 D = some (.lst ws) ∧ RepL K ρ2 H2 acc ws ∧
    Psx (Wt W τ) K (Rep K) ρ1 H1 ((lcLoop (fun x s2 => match asgT s2 g x (wipe σ own) with
        | some σ2 => (evalC G c σ2 s2).bind fun k s3 => match k with
          | true => (evalE G m σ2 s3).bind fun v s4 => .ok (some v) s4
          | false => .ok none s3
        | none => .stuck) gd (xs.drop i) acc s2).bind fun vs s2 => pushO (.lst vs) s2) Q, ⟨xs.length, rfl, Nat.zero_le _, ρ1, s1, [], [], ext_new hD, R1.new hD, R1.nin hD, upd_same, rfl, h1⟩, ?_⟩
  rintro i n H2 ⟨rfl, hi, ρ2, s2, acc, ws, e2, R2, hn, hw, ra, h2⟩
  by_cases hlt : i < xs.length
  · rw [List.drop_eq_getElem_cons hlt, lcLoop] at h2
    split at h2
    · rename_i hg
      refine .inr ⟨wv.goes i ρ2 H2 s2 hlt e2 R2 hg, fun H' => ∃ ρ3 s3 acc ws, Ext ρ1 H1 ρ3 H' ∧ RelS K ρ3 s3 H' ∧ D ∉ ρ3 ∧ H' D = some (.lst ws) ∧ RepL K ρ3 H' acc ws ∧
          Psx (Wt W τ) K (Rep K) ρ1 H1 ((lcLoop (fun x s2 => match asgT s2 g x (wipe σ own) with
        | some σ2 => (evalC G c σ2 s2).bind fun k s3 => match k with
          | true => (evalE G m σ2 s3).bind fun v s4 => .ok (some v) s4
          | false => .ok none s3
        | none => .stuck) gd (xs.drop (i + 1)) acc s3).bind fun vs s2 => pushO (.lst vs) s2) Q, fun H' q => ⟨xs.length - (i + 1), by omega, rfl, hlt, q⟩, fun x H3 y => ?_⟩
      obtain ⟨v, ev, e3, R3, rv⟩ := wv.yields i ρ2 H2 s2 x H3 hlt e2 R2 hg y
      rw [List.getElem?_eq_getElem hlt] at ev
      cases ev
      have hw3 : H3 D = some (.lst ws) := e3.keep D _ hw (.inr hn)
      have ra3 := ra.mono e3
      have e13 := e2.trans e3
      have L3 : RelE K ρ2 H3 (wipe σ own) (L2.wipe τ own) := (L1.mono e13).wipe own
      cases ea : asgT s2 g xs[i] (wipe σ own) with
      | none => rw [ea] at h2; exact h2.elim
      | some σ2 =>
        simp only [ea] at h2
        refine ⟨ρ2, wipe σ own, s2, xs[i], σ2, R3, L3, rv, ea, fun τ2 L4 S => ⟨?_, ?_⟩⟩
        · rw [wipe_sam (S.sub hown), wipe_wipe]
        · refine ⟨ρ2, σ2, s2, R3, L4, ?_⟩
          cases ec : evalC G c σ2 s2 with
          | stuck => rw [ec] at h2; exact h2.elim
          | exc _ _ _ => rw [ec] at h2; exact h2.elim
          | ok k s3 =>
            simp only [ec, Out.bind_ok, Out.nox_ok] at h2
            intro ρ4 H4 k' e4 R4 rk
            cases rk
            have hn4 : D ∉ ρ4 := fun q => by
              have := e4.new D q hn
              rw [hw3] at this; cases this
            have hw4 : H4 D = some (.lst ws) := e4.keep D _ hw3 (.inr hn)
            cases k with
            | false =>
              rw [if_neg Bool.false_ne_true]
              exact ⟨ρ4, s3, acc, ws, e13.trans e4, R4, hn4, hw4, ra3.mono e4, h2⟩
            | true =>
              rw [if_pos rfl]
              refine ⟨ρ4, σ2, s3, R4, L4.mono e4, ?_⟩
              simp only at h2
              cases ee : evalE G m σ2 s3 with
              | stuck => rw [ee] at h2; exact h2.elim
              | exc _ _ _ => rw [ee] at h2; exact h2.elim
              | ok v s4 =>
                rw [ee] at h2
                intro ρ5 H5 w e5 R5 rw5
                simp only [Out.bind_ok, Out.nox_ok] at h2
                split at h2
                · rename_i hl
                  have hn5 : D ∉ ρ5 := fun q => by
                    have := e5.new D q hn4
                    rw [hw4] at this; cases this
                  have hw5 : H5 D = some (.lst ws) := e5.keep D _ hw4 (.inr hn4)
                  have ra5 := (ra3.mono e4).mono e5
                  refine ⟨ws, hw5, by rw [← ra5.length]; exact hl, ρ5, s4, acc ++ [v], ws ++ [w], ?_, R5.off hn5 hw5 rfl, hn5, upd_same, (ra5.append (ys := [v]) (us := [w]) ⟨w, [], rfl, rw5, rfl⟩).mono0 (ext0_off hw5 rfl), h2⟩
                  have e15 := (e13.trans e4).trans e5
                  exact ⟨e15.pre, fun b o q z => by
                    rw [upd_ne (ne_of_none q hD)]; exact e15.keep b o q z, e15.new⟩
                · exact h2.elim
    · exact h2.elim
  · have : i = xs.length := by omega
    subst this
    rw [List.drop_length, lcLoop] at h2
    split at h2
    · rename_i hg
      refine .inl ⟨wv.stops ρ2 H2 s2 e2 R2 hg, ?_⟩
      have rj : RepO K (ρ2 ++ [D]) H2 (.lst acc) D := ⟨ws, hw, ra.mono0 ⟨⟨[D], rfl⟩, fun _ _ q _ => q⟩⟩
      refine h2 (ρ2 ++ [D]) H2 (.ref D) ⟨?_, e2.keep, fun b hb hb1 => ?_⟩ (R2.join hn rj) ⟨D, rfl, ?_⟩
      · obtain ⟨r, rfl⟩ := e2.pre
        exact ⟨r ++ [D], by rw [List.append_assoc]⟩
      · rcases List.mem_append.mp hb with hb | hb
        · exact e2.new b hb hb1
        · rw [List.mem_singleton.mp hb]; exact hD
      · rw [← R2.len, List.getElem?_concat_length]
    · exact h2.elim
end

/-! ### calls -/
def esLen : Es → Nat
  | .nil => 0
  | .cons _ r => esLen r + 1
theorem esLen_ok {G : Ctx} {σ : Env} : ∀ {as : Es} {s s1 : Sto} {vs : List Val}, evalEs G as σ s = .ok vs s1 → vs.length = esLen as
  | .nil, _, _, _, h => by cases h; rfl
  | .cons a r, s, s1, vs, h => by
    simp only [evalEs] at h
    cases e : evalE G a σ s with
    | stuck => rw [e] at h; cases h
    | exc _ _ _ => rw [e] at h; cases h
    | ok v s2 =>
      rw [e] at h
      simp only [Out.bind_ok] at h
      cases e2 : evalEs G r σ s2 with
      | stuck => rw [e2] at h; cases h
      | exc _ _ _ => rw [e2] at h; cases h
      | ok us s3 =>
        rw [e2] at h
        cases h
        simp [esLen, esLen_ok e2]
def spR (K : PySem.W.Frag) (P : Prog) (n : Nat) (f : Str) : Sp := fun vs H Q E => ∃ ρ s as, RelS K ρ s H ∧ RepL K ρ H as vs ∧ Psx E K (Rep K) ρ H (callN P n f as s) Q
theorem spR_len {K : PySem.W.Frag} {P : Prog} {n : Nat} {f : Str} {ps : List Str} (hp : (P.find f).map (·.ps) = some ps) (vs : List V) (H : Hp) (Q : VK) (E : XK) (h : spR K P n f vs H Q E) : vs.length = ps.length := by
  obtain ⟨ρ, s, as, R, r, h⟩ := h
  rw [← r.length]
  cases n with
  | zero => exact h.elim
  | succ n =>
    simp only [callN] at h
    cases e : P.find f with
    | none => rw [e] at h; exact h.elim
    | some d =>
      rw [e] at h hp
      simp only at h
      split at h
      · rename_i hl
        cases hp
        exact hl
      · exact h.elim
theorem ordK_range {α : Type} : ∀ (xs : List α), ordK (List.range xs.length) xs = xs
  | [] => rfl
  | x :: xs => by
    unfold ordK
    rw [List.length_cons, List.range_succ_eq_map, List.filterMap_cons]
    show x :: _ = _
    rw [List.filterMap_map]
    congr 1
    exact ordK_range xs
theorem ixK_all {ps : List Str} : ixK ps ps.length [] = List.range ps.length := by
  unfold ixK
  rw [List.drop_length]
  simp
theorem repL_ord {K : PySem.W.Frag} {ρ : List Addr} {H : Hp} {xs : List Val} {vs : List V} (r : RepL K ρ H xs vs) : ∀ ix : List Nat, RepL K ρ H (ordK ix xs) (ordK ix vs)
  | [] => rfl
  | i :: ix => by
    unfold ordK
    rw [List.filterMap_cons, List.filterMap_cons]
    cases e : xs[i]? with
    | none =>
      have hl := r.length
      have : vs[i]? = none := by
        rw [List.getElem?_eq_none_iff] at e ⊢
        omega
      rw [this]
      exact repL_ord r ix
    | some x =>
      obtain ⟨w, e1, e2⟩ := r.get e
      rw [e1]
      exact ⟨w, _, rfl, e2, repL_ord r ix⟩
/-- a call: an error that leaves it is wished for at these slots -/
def tCallX (sp : Sp) (ps : List Str) (np : Nat) (ks : List Str) (W : WX) (t tk : TA) : TE := fun σ H Q => t σ H fun vs H1 => tk σ H1 fun zs H2 => vs.length = np ∧ zs.length = ks.length ∧ sp (ordK (ixK ps np ks) (vs ++ zs)) H2 Q (Wt W σ)
section
variable {W : WX} {K : PySem.W.Frag} {P : Prog} {n : Nat} {τ : L2.St} {H : Hp} {G : Ctx}
theorem stA2 {α β : Type} {S : List Addr → Hp → α → β → Prop} {Q : β → Hp → Prop} {ρ : List Addr} {σ : Env} {s : Sto} {as : Es} {f : List Val → Sto → Out α} (R : RelS K ρ s H) (L : RelE K ρ H σ τ) (h : Psx (Wt W τ) K S ρ H ((evalEs G as σ s).bind f) Q) {Q' : List V → Hp → Prop}
    (k : ∀ ws H1 ρ1 vs s1, Ext ρ H ρ1 H1 → RelS K ρ1 s1 H1 → RelE K ρ1 H1 σ τ → RepL K ρ1 H1 vs ws → vs.length = esLen as → Psx (Wt W τ) K S ρ1 H1 (f vs s1) Q → Q' ws H1) : RA W K G as τ H Q' := by
  refine ⟨ρ, σ, s, R, L, ?_⟩
  cases e : evalEs G as σ s with
  | stuck => rw [e] at h; exact h.elim
  | exc _ _ _ => rw [e] at h; exact h
  | ok vs s1 =>
    rw [e] at h
    exact fun ρ1 H1 ws e1 R1 r1 => k ws H1 ρ1 vs s1 e1 R1 (L.mono e1) r1 (esLen_ok e) (h.up e1)
theorem r_call {f : Str} {as : Es} {ps : List Str} {Q : VK} (hp : (P.find f).map (·.ps) = some ps) (hn : esLen as = ps.length) (h : RE W K (ctxOf P (callN P n)) (.call f as) τ H Q) : tCallX (spR K P n f) ps (esLen as) [] W (RA W K (ctxOf P (callN P n)) as) tNil τ H Q := by
  obtain ⟨ρ, σ, s, R, L, h⟩ := h
  simp only [evalE] at h
  refine stA2 R L h fun ws H1 ρ1 vs s1 e1 R1 L1 r1 hl h1 => ?_
  have hw : ws.length = esLen as := by rw [← r1.length]; exact hl
  refine ⟨hw, rfl, ?_⟩
  rw [List.append_nil, hn, ixK_all, ← hn, ← hw, ordK_range]
  exact ⟨ρ1, s1, vs, R1, r1, h1⟩
theorem r_callK {f : Str} {as kas : Es} {ps ks : List Str} {Q : VK} (hp : (P.find f).map (·.ps) = some ps) (hk : esLen kas = ks.length) (h : RE W K (ctxOf P (callN P n)) (.callK f as ks kas) τ H Q) : tCallX (spR K P n f) ps (esLen as) ks W (RA W K (ctxOf P (callN P n)) as) (RA W K (ctxOf P (callN P n)) kas) τ H Q := by
  obtain ⟨ρ, σ, s, R, L, h⟩ := h
  simp only [evalE] at h
  refine stA2 R L h fun ws H1 ρ1 vs s1 e1 R1 L1 r1 hl h1 => stA2 R1 L1 h1 fun zs H2 ρ2 us s2 e2 R2 L2 r2 hl2 h2 => ?_
  have hpr : (ctxOf P (callN P n)).params f = some ps := hp
  rw [hpr] at h2
  refine ⟨by rw [← r1.length]; exact hl, by rw [← r2.length, hl2]; exact hk, ρ2, s2, _, R2, repL_ord ((r1.mono e2).append r2) _, ?_⟩
  rw [← hl]
  exact h2
end
end Bk
set_option maxHeartbeats 4000000
/-! RunD4: which expression of the text a term is. -/
namespace Bk
open PySem PySem.Spec PyProof.Rows L2

/-- a call's shape: the def's name, its parameters, how many by position, which by name -/
structure Sh where
  name : Str
  ps : List Str
  np : Nat
  ks : List Str
structure SC where
  N : List Str
  shs : List Sh
  cs : List Str
  gcd : Bool
  ers : List Str := []
/-- a scope; a comprehension's own one -/
structure Zc where
  sc : Scope
  blk : Option Scope

def okName (x : Str) : Bool := !(x == ("__debug__" : Str)) && (!(x == ("__classdict__" : Str)) && !(x == ("__name__" : Str)))
def visB (sc : Scope) (x : Str) : Bool := match sc.names.lookup x with
  | some .local => true
  | some .cell => true
  | some .free => true
  | _ => false
def glB (sc : Scope) (x : Str) : Bool := match sc.names.lookup x with
  | some .globalImplicit => true
  | _ => false
def asgB (z : Zc) (x : Str) : Bool := match z.sc.names.lookup x with
  | some .local => true
  | some .cell => (match z.blk with
    | none => true
    | some s => decide (s.names.lookup x = some .cell))
  | _ => false
def cstB : Val → Const → Bool
  | .non, .none => true
  | .bl b, .bool c => b == c
  | .int i, .int j => decide (i = j)
  | .str x, .str y => decide (x = y)
  | _, _ => false
def plainIx : Expr → Bool
  | .Slice _ _ _ _ => false
  | _ => true
def noComp : Expr → Bool
  | .ListComp _ _ _ _ => false
  | .SetComp _ _ _ _ => false
  | .DictComp _ _ _ _ _ => false
  | _ => true
def noSet : Expr → Bool
  | .Set _ _ _ => false
  | _ => true
def recvB : Expr → Bool
  | .Call _ _ _ _ => false
  | _ => true
def isTupE : Expr → Bool
  | .Tuple _ _ _ => true
  | _ => false
def prName : Pr → Str
  | .len => "len"
  | .int => "int"
  | .abs => "abs"
  | .max => "max"
  | .min => "min"
  | .gcd => "gcd"
  | .tuple => "tuple"
  | .list => "list"
  | .sum => "sum"
  | .all => "all"
  | .any => "any"
  | .repr => "repr"
  | .sorted => "sorted"
  | .isinst _ => "isinstance"
  | .isex _ _ => "isinstance"
def isInst : Pr → Bool
  | .isinst _ => true
  | .isex _ _ => true
  | _ => false
def isGcd : Pr → Bool
  | .gcd => true
  | _ => false
def isIndex : Me → Bool
  | .index => true
  | _ => false
def blNames : List Str := ["len", "int", "abs", "max", "min", "tuple", "list", "sum", "all", "any", "repr", "sorted", "isinstance", "bool", "str", "range", "enumerate", "zip", "set"]
def callB (C : SC) (f : Str) (np : Nat) (ks : List Str) (all : Bool) : Bool := C.shs.any fun h => decide (h.name = f) && (decide (h.np = np) && (decide (h.ks = ks) && (!all || decide (h.ps.length = np))))

def isTg (N : List Str) (z : Zc) : Tg → Expr → Bool
  | .nm i, e => match e with
    | .Name x _ => decide (N[i]? = some x) && asgB z x
    | _ => false
  | .pr a b, e => match e with
    | .Tuple [x, y] _ _ => isTg N z a x && isTg N z b y
    | _ => false
  | .tr a b c, e => match e with
    | .Tuple [x, y, u] _ _ => isTg N z a x && (isTg N z b y && isTg N z c u)
    | _ => false
  | .qd a b c d, e => match e with
    | .Tuple [x, y, u, v] _ _ => isTg N z a x && (isTg N z b y && (isTg N z c u && isTg N z d v))
    | _ => false
  | .qn a b c d f, e => match e with
    | .Tuple [x, y, u, v, w] _ _ => isTg N z a x && (isTg N z b y && (isTg N z c u && (isTg N z d v && isTg N z f w)))
    | _ => false

def ownP (N : List Str) (own : List Nat) : List (Str × Nat) := own.map fun i => (N.getD i "", i)
mutual
def isE (C : SC) : E → Zc → Expr → Bool
  | .var i, z, e => match e with
    | .Name x _ => decide (C.N[i]? = some x) && (visB z.sc x && okName x)
    | _ => false
  | .cst v, _, e => match e with
    | .Constant c _ _ => cstB v c
    | _ => false
  | .glob y, z, e => match e with
    | .Name x _ => decide (x = y) && (glB z.sc x && (C.cs.any (fun n => decide (n = x)) && okName x))
    | _ => false
  | .bin o a b, z, e => match e with
    | .BinOp l op r _ => decide (op = bopOf o) && (isE C a z l && isE C b z r)
    | _ => false
  | .neg a, z, e => match e with
    | .UnaryOp op x _ => decide (op = .USub) && isE C a z x
    | _ => false
  | .nt a, z, e => match e with
    | .UnaryOp op x _ => decide (op = .Not) && isE C a z x
    | _ => false
  | .srt a, z, e => match e with
    | .Call (.Name f _) [.Call (.Name u _) [x] [] _] [] _ => decide (f = "sorted") && (decide (u = "set") && (glB z.sc f && (glB z.sc u && (noStar [x] && isE C a z x))))
    | _ => false
  | .lzip a b, z, e => match e with
    | .Call (.Name f _) [.Call (.Name u _) [x, y] [] _] [] _ => decide (f = "list") && (decide (u = "zip") && (glB z.sc f && (glB z.sc u && (noStar [x, y] && (isE C a z x && isE C b z y)))))
    | _ => false
  | .cmp o a b, z, e => match e with
    | .Compare l [op] [r] _ => decide (op = copOf o) && (noSet r && (isE C a z l && isE C b z r))
    | _ => false
  | .chn o o' a b c, z, e => match e with
    | .Compare l [op, op'] [r, r'] _ => decide (op = copOf o) && (decide (op' = copOf o') && (noSet r' && (isE C a z l && (isE C b z r && isE C c z r'))))
    | _ => false
  | .and a b, z, e => match e with
    | .BoolOp op (x :: y :: rest) p => decide (op = .And) && (isE C a z x && (match rest with
      | [] => isE C b z y
      | _ :: _ => isE C b z (.BoolOp .And (y :: rest) p)))
    | _ => false
  | .or a b, z, e => match e with
    | .BoolOp op (x :: y :: rest) p => decide (op = .Or) && (isE C a z x && (match rest with
      | [] => isE C b z y
      | _ :: _ => isE C b z (.BoolOp .Or (y :: rest) p)))
    | _ => false
  | .ife c a b, z, e => match e with
    | .IfExp t x y _ => isE C c z t && (isE C a z x && isE C b z y)
    | _ => false
  | .call f as, z, e => match e with
    | .Call (.Name x _) args [] _ => decide (x = f) && (glB z.sc x && (okName x && (noStar args && (callB C f args.length [] true && isEs C as z args))))
    | _ => false
  | .callK f as ks kas, z, e => match e with
    | .Call (.Name x _) args kws _ => decide (x = f) && (glB z.sc x && (okName x && (noStar args && (decide (kwNames kws = some ks) && (callB C f args.length ks false && (isEs C as z args && isEs C kas z (kws.map (·.value))))))))
    | _ => false
  | .prim p as, z, e => match e with
    | .Call (.Name x _) args [] _ => decide (x = prName p) && (glB z.sc x && (noStar args && (match p with
      | .isinst ts => (match as with
        | .cons a .nil => (match args with
          | [v, .Name t _] => glB z.sc t && (askNames.any (fun u => decide (t = Str.ofString u) && decide (ts = [u])) && isE C a z v)
          | _ => false)
        | _ => false)
      | .isex d cs => (match as with
        | .cons a .nil => (match args with
          | [v, .Name t _] => glB z.sc t && (decide (t = d) && (okName t && (C.ers.any (fun c => decide (c = d)) && (cs.all (fun c => C.ers.any (fun u => decide (u = c))) && isE C a z v))))
          | _ => false)
        | _ => false)
      | _ => (!isGcd p || C.gcd) && (!args.isEmpty && isEs C as z args))))
    | _ => false
  | .meth m o as, z, e => match e with
    | .Call (.Attribute q nm apos) args [] cpos => decide (nm = meName m) && (true && (recvB q && (noStar args && (decide (args.length < 28) && ((apos.endLine == cpos.line) && (isE C o z q && isEs C as z args))))))
    | _ => false
  | .idx a i, z, e => match e with
    | .Subscript x y _ => plainIx y && (isE C a z x && isE C i z y)
    | _ => false
  | .fld cs a, z, e => match e with
    | .Attribute q nm _ => decide (nm = "value") && (recvB q && (cs.all (fun c => C.ers.any (fun u => decide (u = c))) && isE C a z q))
    | _ => false
  | .slc a lo hi, z, e => match e with
    | .Subscript x (.Slice l h none _) _ => isE C a z x && (isEo C lo z l && isEo C hi z h)
    | _ => false
  | .rev a, z, e => match e with
    | .Subscript x (.Slice none none (some (.UnaryOp .USub (.Constant (.int i) _ _) _)) _) _ => decide (i = 1) && isE C a z x
    | _ => false
  | .tup as, z, e => match e with
    | .Tuple es _ _ => noStar es && isEs C as z es
    | _ => false
  | .lst as, z, e => match e with
    | .List es _ => noStar es && isEs C as z es
    | _ => false
  | .dct _, _, e => match e with
    | .Dict [] [] _ => true
    | _ => false
  | .lc m g it c own, z, e => match e with
    | .ListComp elt [⟨tg, iter, ifs, as⟩] scope _ => decide (as = 0) && (isIt C it z tg iter && (noSet iter && (blkC C.N z.sc scope (ownP C.N own) && ((tgIx g).all (fun i => decide (i ∈ own)) && (isTg C.N ⟨relS scope z.sc, some scope⟩ g tg &&
        ((match ifs with
          | [] => isNoneO c
          | [t] => isEo C c ⟨relS scope z.sc, some scope⟩ (some t)
          | _ => false) && isE C m ⟨relS scope z.sc, some scope⟩ elt))))))
    | _ => false
def isEs (C : SC) : Es → Zc → List Expr → Bool
  | .nil, _, es => match es with
    | [] => true
    | _ => false
  | .cons m r, z, es => match es with
    | e :: es => isE C m z e && isEs C r z es
    | _ => false
def isEo (C : SC) : Eo → Zc → Option Expr → Bool
  | .none, _, o => match o with
    | none => true
    | _ => false
  | .some m, z, o => match o with
    | some e => isE C m z e
    | _ => false
def isNoneO : Eo → Bool
  | .none => true
  | .some _ => false
def isIt (C : SC) : Bk.It → Zc → Expr → Expr → Bool
  | .seq m, z, _, e => isE C m z e
  | .rng1 b, z, _, e => match e with
    | .Call (.Name x _) [y] [] _ => decide (x = "range") && (glB z.sc x && (noStar [y] && isE C b z y))
    | _ => false
  | .rng2 a b, z, _, e => match e with
    | .Call (.Name x _) [y, u] [] _ => decide (x = "range") && (glB z.sc x && (noStar [y, u] && (isE C a z y && isE C b z u)))
    | _ => false
  | .rng3 a b c, z, _, e => match e with
    | .Call (.Name x _) [y, u, v] [] _ => decide (x = "range") && (glB z.sc x && (noStar [y, u, v] && (isE C a z y && (isE C b z u && isE C c z v))))
    | _ => false
  | .enum m, z, tg, e => match e with
    | .Call (.Name x _) [y] [] _ => decide (x = "enumerate") && (isTupE tg && (glB z.sc x && (noStar [y] && isE C m z y)))
    | _ => false
  | .zip3 a b c, z, tg, e => match e with
    | .Call (.Name x _) [y, u, v] [] _ => decide (x = "zip") && (isTupE tg && (glB z.sc x && (noStar [y, u, v] && (isE C a z y && (isE C b z u && isE C c z v)))))
    | _ => false
  | .zip a b, z, tg, e => match e with
    | .Call (.Name x _) [y, u] [] _ => decide (x = "zip") && (isTupE tg && (glB z.sc x && (noStar [y, u] && (isE C a z y && isE C b z u))))
    | _ => false
end

/-- what a module says of its error classes -/
structure Errs (K : PySem.W.Frag) (mg : Str → Option Value) (p : Program) (cs : List Str) : Prop where
  cls : ∀ c ∈ cs, ∃ C, mg c = some (.ref C) ∧ XErr K p c C ∧ XRead K C
  kit : ∀ c ∈ cs, ∀ d ∈ cs, ∀ C D, PySem.W.nsIn K mainGlobals c = some (some (.ref C)) → PySem.W.nsIn K mainGlobals d = some (some (.ref D)) → PySem.W.kitOne K (.ref C) (.ref D) = some (isaX c d) ∧ PySem.W.exmOne K (.ref C) (.ref D) = some (isaX c d)
  non : ∀ d ∈ cs, ∀ D, PySem.W.nsIn K mainGlobals d = some (some (.ref D)) → PySem.W.kitOne K (.type "NoneType") (.ref D) = some false
  sup : cs ≠ [] → mg "super" = none
theorem errs_nil {K : PySem.W.Frag} {mg : Str → Option Value} {p : Program} {cs : List Str} (h : cs = []) : Errs K mg p cs := by
  subst h
  exact ⟨fun c hc => (by cases hc), fun c hc => (by cases hc), fun c hc => (by cases hc), fun z => absurd rfl z⟩
/-- what is known of a context -/
structure GoodX (P : Prog) (C : SC) (n : Nat) (z : Zc) (X : Cx) (W : WX) : Prop where
  tk : Takes X W
  ers : Errs X.K X.mg X.prog C.ers
  N : X.N = C.N
  sc : X.env.scope = z.sc
  nd : C.N.Nodup
  calm : X.calm = true
  gu : X.A.guards = some []
  room : Room (n + 2) X.A
  bl : ∀ x ∈ blNames, X.mg x = none
  gcd : C.gcd = true → X.mg "gcd" = some (.builtin "math.gcd")
  cs : ∀ x ∈ C.cs, ∃ v u w, P.consts.lookup x = some v ∧ X.mg x = some u ∧ RelV w u ∧ ∀ ρ H, Rep X.K ρ H v w
  fns : ∀ h ∈ C.shs, ∃ a fd, X.mg h.name = some (.ref a) ∧ PySem.W.keepIn X.K (.ref a) = true ∧ FnG X.prog X.w X.K X.mg X.base (L2.CX X.prog X.w) (n + 2) a fd h.ps (spR X.K P n h.name) ∧ KB X.K fd h.ps h.np h.ks ∧ (P.find h.name).map (·.ps) = some h.ps
  fn : ∀ x, asgB z x = true → Loc z.sc x ∧ (X.fn x = true ∨ z.sc.names.lookup x = some .local)
section
variable {P : Prog} {C : SC} {n : Nat} {z : Zc} {X : Cx} {W : WX}
theorem GoodX.vis (g : GoodX P C n z X W) {x : Str} (h : visB z.sc x = true) : Vis X.env.scope x := by
  rw [g.sc]
  unfold visB at h
  split at h
  · exact .inl (by assumption)
  · exact .inr (.inl (by assumption))
  · exact .inr (.inr (by assumption))
  · cases h
theorem GoodX.gl (g : GoodX P C n z X W) {x : Str} (h : glB z.sc x = true) : Gl X x := by
  show X.env.scope.names.lookup x = some .globalImplicit
  rw [g.sc]
  unfold glB at h
  split at h
  · assumption
  · cases h
theorem ok_name {x : Str} (h : okName x = true) : (x == ("__debug__" : Str)) = false ∧ (x == ("__classdict__" : Str)) = false ∧ (x == ("__name__" : Str)) = false := by
  unfold okName at h
  simp only [Bool.and_eq_true, Bool.not_eq_true'] at h
  exact h
theorem GoodX.un (g : GoodX P C n z X W) : X.A.units + 200 < cLine := by have := g.room.un; omega
end
end Bk
set_option maxHeartbeats 4000000
/-! RunD5: the text's expressions run as the terms say. -/
namespace Bk
open PySem PySem.Spec PyProof.Rows L2

section
variable {W : WX} {X : Cx} {e : Expr} {m : E} {G : Ctx}
theorem pt_of_pe (h : PE X e (RE W X.K G m)) (hq : testT m = false) (he : ∀ whole, isTrue e X.env whole = (do let v ← whole; standAt e.pos; holding [v] (truthy v))) : PT X e (RT W X.K G m) := by
  cases hp : plainT m with
  | true => exact wkT (pt_truth h he) fun _ _ _ q => t_plain hp q
  | false => exact ⟨fun _ _ _ _ _ _ q => (t_other hp hq q).elim⟩
theorem pw_of {op : BoolOp} {es : List Expr} {pos : Pos} {t : TT} (h : PT X (.BoolOp op es pos) t) : PW X (.BoolOp op es pos) t := ⟨fun _ pins s σ H Q I q => h.run pins s σ H Q I q⟩
theorem pt_ife {c a b : Expr} {pos : Pos} {tc ta tb : TT} (hc : PT X c tc) (ha : PT X a ta) (hb : PT X b tb) : PT X (.IfExp c a b pos) (fun σ H Q => tc σ H fun k H1 => if k = true then ta σ H1 Q else tb σ H1 Q) := by
  refine ⟨fun pins s σ H Q I h => ?_⟩
  refine PyProof.Rows.isTrue_IfExp (thn (hc.run pins s σ H _ I h) fun d s1 ⟨H1, I1, q1⟩ => ?_)
  cases d with
  | true => exact ha.run pins s1 σ H1 Q I1 q1
  | false => exact hb.run pins s1 σ H1 Q I1 q1
theorem nomark' {op : CmpOp} {r : Expr} (h : noSet r = true) : behindInMarks op r = false := by
  cases r <;> first | rfl | (cases h)
theorem lastMarks' {op op' : CmpOp} {r r' : Expr} (h : noSet r' = true) : lastMarks [op, op'] [r, r'] = false := nomark' h
theorem plain_ix {b : Expr} (h : plainIx b = true) : PlainIx b := by
  intro o i
  cases b <;> first | rfl | (cases h)
theorem noFold {it : Expr} {env : PySem.Env} (h : noSet it = true) : ∀ x, foldedSetIterable it env x = pure x := by
  intro x
  cases it <;> first | rfl | (cases h)
theorem base_ok {o : Expr} {nm : Str} {env : PySem.Env} {whole : Sem Value} (h : recvB o = true) : attributeBase o nm env whole = whole := by
  cases o <;> first | rfl | (cases h)
theorem boot_pr : ∀ (p : Pr), isInst p = false → isGcd p = false → bootBuiltins (prName p) = some (prVal p)
  | .len, _, _ => by rfl
  | .int, _, _ => by rfl
  | .abs, _, _ => by rfl
  | .max, _, _ => by rfl
  | .min, _, _ => by rfl
  | .gcd, _, h => by cases h
  | .tuple, _, _ => by rfl
  | .list, _, _ => by rfl
  | .sum, _, _ => by rfl
  | .all, _, _ => by rfl
  | .any, _, _ => by rfl
  | .repr, _, _ => by rfl
  | .sorted, _, _ => by rfl
  | .isinst _, h, _ => by cases h
  | .isex _ _, h, _ => by cases h
theorem pr_bl : ∀ (p : Pr), isInst p = false → isGcd p = false → prName p ∈ blNames ∧ prName p ≠ "__name__" ∧ (prName p == ("__debug__" : Str)) = false := by
  intro p h0 h
  cases p <;> first | (cases h; done) | (cases h0; done) | decide +kernel
theorem pe_prim {es : List Expr} {q pos : Pos} {t : TA} (p : Pr) (hi : isInst p = false) (hgc : isGcd p = true → X.mg "gcd" = some (.builtin "math.gcd")) (hbl : ∀ x ∈ blNames, X.mg x = none) (hg : Gl X (prName p)) (hr : CallR X (prVal p) (rP X.K p)) (ha : PA X (e :: es) t) (hst : noStar (e :: es) = true) :
    PE X (.Call (.Name (prName p) q) (e :: es) [] pos) (tCB (rP X.K p) t) := by
  have he := star_cons (env := X.env) hst
  have hpl := plain_star (pos := pos) (env := X.env) (noStar_tail hst)
  cases hgd : isGcd p with
  | true =>
    cases p <;> first | (cases hgd; done) | exact pe_callBfun hr hg (hgc rfl) ha (by decide +kernel) he hpl
  | false =>
    have hb := boot_pr p hi hgd
    obtain ⟨h1, h2, h3⟩ := pr_bl p hi hgd
    have hm := hbl _ h1
    cases p <;> first | (cases hgd; done) | (cases hi; done) | exact pe_callB hr hg hm hb ha h2 h3 he hpl | exact pe_callTy hr hg hm hb ha h2 h3 he hpl
end

/-! ### calls that may raise -/
section
variable {X : Cx} {W : WX} {k : Nat} {f : Addr} {fd : FuncData} {ps ks : List Str} {np : Nat} {sp : Sp} {x : Str} {p pos : Pos} {e : Expr} {es : List Expr} {kws : List Keyword} {t tk : TA}
theorem run_fnX {pins : List (Addr × Obj)} {σ : L2.St} {H : Hp} {s : Shared} {Q : VK} {us ws : List Value} {vs zs : List V} (F : FnG X.prog X.w X.K X.mg X.base (L2.CX X.prog X.w) k f fd ps sp) (hr : Room k X.A) (hg : X.A.guards = some []) (hb : KB X.K fd ps np ks) (hx : Takes X W)
    (I : Inv X pins σ H s) (r : Vals vs us) (rz : Vals zs ws) (hn : vs.length = np) (hk : zs.length = ks.length) (h : sp (ordK (ixK ps np ks) (vs ++ zs)) H Q (Wt W σ)) : wpAny (model X.prog X.w) X.A (call (.ref f) us (ks.zip ws)) (EP X pins σ Q) X.xe s := by
  have r2 := vals_ord (r.append rz) (ixK ps np ks)
  refine wpAny_call (codeAny_mono (F.run X.A X.stack s H ⟨us, ks.zip ws⟩ _ _ Q (Wt W σ) hr hg I.env0 (hb.to s us ws I.kIn (by rw [← r.length]; exact hn) (by rw [← rz.length]; exact hk)) r2 h) fun r s' hq => ?_)
  cases r with
  | error e => exact hx _ _ (XE.of_call I (fun _ _ _ q => q) hq)
  | ok fl =>
    cases fl with
    | ret u => exact I.after hq
    | next => exact False.elim hq
    | brk => exact False.elim hq
    | cont => exact False.elim hq
theorem pe_callX (F : FnG X.prog X.w X.K X.mg X.base (L2.CX X.prog X.w) k f fd ps sp) (hr : Room k X.A) (hgu : X.A.guards = some []) (hg : Gl X x) (hm : X.mg x = some (.ref f)) (hk : PySem.W.keepIn X.K (.ref f) = true) (hb : KB X.K fd ps np ks) (hx : Takes X W)
    (ha : PA X (e :: es) t) (hkw : PK X kws tk) (hks : kwNames kws = some ks) (hst : noStar (e :: es) = true) (hdb : (x == ("__debug__" : Str)) = false) :
    PE X (.Call (.Name x p) (e :: es) kws pos) (tCallX sp ps np ks W t tk) := by
  refine ⟨fun pins s σ H Q I h => ?_⟩
  obtain ⟨k1, k2, k3⟩ := kw_all (pos := pos) (env := X.env) hks
  refine wpAny_Call_Name_kw (ld_glob I hg hm ?_ hdb)
  refine PySem.W.callWith_KW (h₀ := X.base) I.ok.mod.kin hk k1 (thn (ha.run pos pins s σ H _ I h) fun us s1 ⟨vs, H1, I1, r, q⟩ => ?_) (by rw [plain_star hst, k3]; rfl) (star_cons hst)
  refine thn (hkw.run pos pins s1 σ H1 _ I1 q) fun ws s2 ⟨zs, H2, I2, rz, q2⟩ => ⟨I2.kIn, ?_⟩
  rw [k2]
  exact run_fnX F hr hgu hb hx I2 r rz q2.1 q2.2.1 q2.2.2
theorem pe_callX0 (F : FnG X.prog X.w X.K X.mg X.base (L2.CX X.prog X.w) k f fd ps sp) (hr : Room k X.A) (hgu : X.A.guards = some []) (hg : Gl X x) (hm : X.mg x = some (.ref f)) (hk : PySem.W.keepIn X.K (.ref f) = true) (hb : KB X.K fd ps 0 ks) (hx : Takes X W)
    (hkw : PK X kws tk) (hks : kwNames kws = some ks) (hdb : (x == ("__debug__" : Str)) = false) :
    PE X (.Call (.Name x p) [] kws pos) (fun σ H Q => tk σ H fun zs H2 => zs.length = ks.length ∧ sp (ordK (ixK ps 0 ks) zs) H2 Q (Wt W σ)) := by
  refine ⟨fun pins s σ H Q I h => ?_⟩
  obtain ⟨k1, k2, k3⟩ := kw_all (pos := pos) (env := X.env) hks
  refine wpAny_Call_Name_kw (ld_glob I hg hm ?_ hdb)
  refine PySem.W.callWith_KW0 (h₀ := X.base) I.ok.mod.kin hk k1 (thn (hkw.run pos pins s σ H _ I h) fun ws s2 ⟨zs, H2, I2, rz, q2⟩ => ⟨I2.kIn, ?_⟩) (by rw [k3]; rfl)
  rw [k2]
  exact run_fnX F hr hgu hb hx I2 .nil rz rfl q2.1 q2.2
end

/-! ### targets -/
section
variable {P : Prog} {C : SC} {n : Nat} {z : Zc} {X : Cx} {W : WX}
theorem tg_star {N : List Str} : ∀ {g : Tg} {e : Expr}, isTg N z g e = true → ∀ (es : List Expr) (env : PySem.Env), assignEach (e :: es) env = (false, assign e env) :: assignEach es env
  | .nm i, e, h => by
    simp only [isTg] at h
    split at h
    · intro es env; rfl
    · cases h
  | .pr a b, e, h => by
    simp only [isTg] at h
    split at h
    · intro es env; rfl
    · cases h
  | .tr a b c, e, h => by
    simp only [isTg] at h
    split at h
    · intro es env; rfl
    · cases h
  | .qd a b c d, e, h => by
    simp only [isTg] at h
    split at h
    · intro es env; rfl
    · cases h
  | .qn a b c d f, e, h => by
    simp only [isTg] at h
    split at h
    · intro es env; rfl
    · cases h
theorem pgs1 {e : Expr} {es : List Expr} {t : TG} {u : TGs} (h1 : PG X e t) (h2 : PGs X es u) (h : assignEach (e :: es) X.env = (false, assign e X.env) :: assignEach es X.env) : PGs X (e :: es) (gCons t u) := pgs_cons h1 h2 (by rw [h]; rfl)
theorem ok_Tg (g : GoodX P C n z X W) : ∀ {m : Tg} {e : Expr}, isTg C.N z m e = true → PG X e (RGt X.K m)
  | .nm i, e, h => by
    simp only [isTg] at h
    split at h
    · rename_i x p
      simp only [Bool.and_eq_true, decide_eq_true_eq] at h
      obtain ⟨h1, h2⟩ := g.fn x h.2
      exact wkG (pg_name (i := i) (by rw [g.N]; exact g.nd) (by rw [g.N]; exact h.1) (by rw [g.sc]; exact h1) (by rw [g.sc]; exact h2)) fun _ _ _ _ q => rg_nm q
    · cases h
  | .pr a b, e, h => by
    simp only [isTg] at h
    split at h
    · rename_i x y k p
      simp only [Bool.and_eq_true] at h
      have A := pgs1 (ok_Tg g h.1) (pgs1 (ok_Tg g h.2) pgs_nil (tg_star h.2 [] _)) (tg_star h.1 [y] _)
      have hn : assignEach [x, y] X.env = [(false, assign x X.env), (false, assign y X.env)] := by rw [tg_star h.1, tg_star h.2]; rfl
      exact wkG (orG (pg_tup g.calm A (by simp [hn]) (by simp [hn])) (pg_lst g.calm A (by simp [hn]) (by simp [hn]))) fun _ _ _ _ q => rg_pr q
    · cases h
  | .tr a b c, e, h => by
    simp only [isTg] at h
    split at h
    · rename_i x y u k p
      simp only [Bool.and_eq_true] at h
      have A := pgs1 (ok_Tg g h.1) (pgs1 (ok_Tg g h.2.1) (pgs1 (ok_Tg g h.2.2) pgs_nil (tg_star h.2.2 [] _)) (tg_star h.2.1 [u] _)) (tg_star h.1 [y, u] _)
      have hn : assignEach [x, y, u] X.env = [(false, assign x X.env), (false, assign y X.env), (false, assign u X.env)] := by rw [tg_star h.1, tg_star h.2.1, tg_star h.2.2]; rfl
      exact wkG (orG (pg_tup g.calm A (by simp [hn]) (by simp [hn])) (pg_lst g.calm A (by simp [hn]) (by simp [hn]))) fun _ _ _ _ q => rg_tr q
    · cases h
  | .qd a b c d, e, h => by
    simp only [isTg] at h
    split at h
    · rename_i x y u v k p
      simp only [Bool.and_eq_true] at h
      have A := pgs1 (ok_Tg g h.1) (pgs1 (ok_Tg g h.2.1) (pgs1 (ok_Tg g h.2.2.1) (pgs1 (ok_Tg g h.2.2.2) pgs_nil (tg_star h.2.2.2 [] _)) (tg_star h.2.2.1 [v] _)) (tg_star h.2.1 [u, v] _)) (tg_star h.1 [y, u, v] _)
      have hn : assignEach [x, y, u, v] X.env = [(false, assign x X.env), (false, assign y X.env), (false, assign u X.env), (false, assign v X.env)] := by rw [tg_star h.1, tg_star h.2.1, tg_star h.2.2.1, tg_star h.2.2.2]; rfl
      exact wkG (orG (pg_tup g.calm A (by simp [hn]) (by simp [hn])) (pg_lst g.calm A (by simp [hn]) (by simp [hn]))) fun _ _ _ _ q => rg_qd q
    · cases h
  | .qn a b c d f, e, h => by
    simp only [isTg] at h
    split at h
    · rename_i x y u v w k p
      simp only [Bool.and_eq_true] at h
      have A := pgs1 (ok_Tg g h.1) (pgs1 (ok_Tg g h.2.1) (pgs1 (ok_Tg g h.2.2.1) (pgs1 (ok_Tg g h.2.2.2.1) (pgs1 (ok_Tg g h.2.2.2.2) pgs_nil (tg_star h.2.2.2.2 [] _)) (tg_star h.2.2.2.1 [w] _)) (tg_star h.2.2.1 [v, w] _)) (tg_star h.2.1 [u, v, w] _)) (tg_star h.1 [y, u, v, w] _)
      have hn : assignEach [x, y, u, v, w] X.env = [(false, assign x X.env), (false, assign y X.env), (false, assign u X.env), (false, assign v X.env), (false, assign w X.env)] := by rw [tg_star h.1, tg_star h.2.1, tg_star h.2.2.1, tg_star h.2.2.2.1, tg_star h.2.2.2.2]; rfl
      exact wkG (orG (pg_tup g.calm A (by simp [hn]) (by simp [hn])) (pg_lst g.calm A (by simp [hn]) (by simp [hn]))) fun _ _ _ _ q => rg_qn q
    · cases h
theorem GoodX.block (g : GoodX P C n z X W) (s : Shared) (H : Hp) (scope : Scope) (cl : List (Str × Addr)) (A : Addr) (fp : List Addr) : GoodX P C n ⟨relS scope z.sc, some scope⟩ (X.blk s H scope (compEnvC scope cl A X.env) fp) W0 where
  tk := takes0
  ers := g.ers
  N := g.N
  sc := by show relS scope X.env.scope = _; rw [g.sc]
  nd := g.nd
  calm := g.calm
  gu := g.gu
  room := g.room
  bl := g.bl
  gcd := g.gcd
  cs := g.cs
  fns := g.fns
  fn := fun x h => by
    unfold asgB at h
    split at h
    · rename_i e
      exact ⟨.inl e, .inr e⟩
    · rename_i e
      exact ⟨.inr e, .inl (by
        have h' : scope.names.lookup x = some .cell := of_decide_eq_true h
        show (scope.names.lookup x == some .cell) = true
        rw [h']; rfl)⟩
    · cases h
theorem callB_ok {f : Str} {np : Nat} {ks : List Str} {all : Bool} (g : GoodX P C n z X W) (h : callB C f np ks all = true) : ∃ (a : Addr) (fd : FuncData) (ps : List Str), X.mg f = some (.ref a) ∧ PySem.W.keepIn X.K (.ref a) = true ∧
    FnG X.prog X.w X.K X.mg X.base (L2.CX X.prog X.w) (n + 2) a fd ps (spR X.K P n f) ∧ KB X.K fd ps np ks ∧ (P.find f).map (·.ps) = some ps ∧ (all = true → ps.length = np) := by
  unfold callB at h
  rw [List.any_eq_true] at h
  obtain ⟨sh, hm, h⟩ := h
  simp only [Bool.and_eq_true, decide_eq_true_eq, Bool.or_eq_true, Bool.not_eq_true'] at h
  obtain ⟨rfl, rfl, rfl, h4⟩ := h
  obtain ⟨a, fd, h1, h2, h3, h5, h6⟩ := g.fns sh hm
  exact ⟨a, fd, sh.ps, h1, h2, h3, h5, h6, fun e => h4.resolve_left (by rw [e]; decide)⟩
theorem isEs_len : ∀ {as : Es} {es : List Expr}, isEs C as z es = true → esLen as = es.length
  | .nil, [], _ => rfl
  | .nil, _ :: _, h => by cases h
  | .cons m r, [], h => by cases h
  | .cons m r, e :: es, h => by
    simp only [isEs, Bool.and_eq_true] at h
    simp [esLen, isEs_len h.2]
end
end Bk
set_option maxHeartbeats 8000000
/-! RunD6: the same, all forms. -/
namespace Bk
open PySem PySem.Spec PyProof.Rows L2

section
variable {P : Prog} {C : SC} {n : Nat}
noncomputable abbrev Gx (P : Prog) (n : Nat) : Ctx := ctxOf P (callN P n)
theorem mkE (P : Prog) (n : Nat) {W : WX} {X : Cx} {e : Expr} {t : TE} (m : E) (h : PE X e t) (k : ∀ τ H Q, RE W X.K (Gx P n) m τ H Q → t τ H Q) : PE X e (RE W X.K (Gx P n) m) := wkE h k
theorem mkT (P : Prog) (n : Nat) {W : WX} {X : Cx} {e : Expr} {t : TT} (m : E) (h : PT X e t) (k : ∀ τ H Q, RT W X.K (Gx P n) m τ H Q → t τ H Q) : PT X e (RT W X.K (Gx P n) m) := wkT h k
theorem cstB_ok {v : Val} {c : Const} (h : cstB v c = true) : (v = .non ∧ c = .none) ∨ (∃ b, v = .bl b ∧ c = .bool b) ∨ (∃ i, v = .int i ∧ c = .int i) ∨ (∃ x, v = .str x ∧ c = .str x) := by
  unfold cstB at h
  split at h
  · exact .inl ⟨rfl, rfl⟩
  · exact .inr (.inl ⟨_, rfl, by rw [eq_of_beq h]⟩)
  · exact .inr (.inr (.inl ⟨_, rfl, by rw [of_decide_eq_true h]⟩))
  · exact .inr (.inr (.inr ⟨_, rfl, by rw [of_decide_eq_true h]⟩))
  · cases h
theorem copOf_op {o : Cop} {op : CmpOp} (h : op = copOf o) : copOf o = op := h.symm
theorem boot_ask {u : String} (hu : u ∈ askNames) : bootBuiltins (Str.ofString u) = some (.type u) ∧ Str.ofString u ∈ blNames ∧ Str.ofString u ≠ "__name__" ∧ (Str.ofString u == ("__debug__" : Str)) = false := by
  simp only [askNames, List.mem_cons, List.not_mem_nil, or_false] at hu
  rcases hu with rfl | rfl | rfl | rfl | rfl <;> exact ⟨by rfl, by decide +kernel⟩
theorem kwNames_len : ∀ {kws : List Keyword} {ks : List Str}, kwNames kws = some ks → ks.length = kws.length
  | [], _, h => by cases h; rfl
  | k :: r, ks, h => by
    simp only [kwNames] at h
    split at h
    · rename_i nn ns e1 e2
      cases h
      simp [kwNames_len e2]
    · cases h
theorem lc_fin {z : Zc} {X : Cx} {W : WX} {m : E} {tg : Tg} {it : Bk.It} {c : Eo} {own : List Nat} {elt t iter : Expr} {ifs : List Expr} {scope : Scope} {p : Pos} (g : GoodX P C n z X W) (hit : PI X t iter (RIt W X.K (Gx P n) it)) (hset : noSet iter = true) (hblk : blkC C.N z.sc scope (ownP C.N own) = true)
    (hown : (tgIx tg).all (fun i => decide (i ∈ own)) = true) (htg : isTg C.N ⟨relS scope z.sc, some scope⟩ tg t = true)
    (ht : ∀ (s : Shared) (H : Hp) (A : Addr) (cl : List (Str × Addr)) (fp : List Addr), PTs (X.blk s H scope (compEnvC scope cl A X.env) fp) ifs (RCn W0 X.K (Gx P n) c)) (he : ∀ (s : Shared) (H : Hp) (A : Addr) (cl : List (Str × Addr)) (fp : List Addr), PE (X.blk s H scope (compEnvC scope cl A X.env) fp) elt (RE W0 X.K (Gx P n) m)) :
    PE X (.ListComp elt [⟨t, iter, ifs, 0⟩] scope p) (RE W X.K (Gx P n) (.lc m tg it c own)) := by
  have hok : BlkOk X.N X.env.scope scope (ownP C.N own) := by rw [g.N, g.sc]; exact blkOk_by hblk
  have hm : (ownP C.N own).map (·.2) = own := by simp [ownP, List.map_map, Function.comp_def]
  refine wkE (pe_lc (g := RGt X.K tg) (tt := RCn W0 X.K (Gx P n) c) (te := RE W0 X.K (Gx P n) m) g.calm (by rw [g.N]; exact g.nd) hit hok (fun s H A cl fp => ok_Tg (g.block s H scope cl A fp) htg) ht he (noFold hset)) fun τ H Q q => ?_
  rw [hm]
  exact r_lc (fun i hi => of_decide_eq_true (List.all_eq_true.mp hown i hi)) q
theorem rc_none {W : WX} {K : PySem.W.Frag} {G : Ctx} {τ : L2.St} {H : Hp} {Q : Bool → Hp → Prop} (h : RCn W K G .none τ H Q) : tYes τ H Q := by
  obtain ⟨ρ, σ, s, R, L, h⟩ := h
  exact h.here R rfl
mutual
theorem ok_E : ∀ (m : E) {z : Zc} {X : Cx} {W : WX} {e : Expr}, GoodX P C n z X W → isE C m z e = true → PE X e (RE W X.K (Gx P n) m) ∧ PT X e (RT W X.K (Gx P n) m)
  | .var i, z, X, W, e, g, h => by
    simp only [isE] at h
    split at h
    · rename_i x p
      simp only [Bool.and_eq_true, decide_eq_true_eq] at h
      obtain ⟨h1, h2, h3⟩ := h
      obtain ⟨k1, k2, k3⟩ := ok_name h3
      have A := mkE P n (W := W) (.var i) (pe_var (pos := p) (i := i) (by rw [g.N]; exact h1) (g.vis h2) k1 k2) fun _ _ _ q => r_var (G := Gx P n) q
      exact ⟨A, pt_of_pe A rfl fun _ => rfl⟩
    · cases h
  | .cst v, z, X, W, e, g, h => by
    simp only [isE] at h
    split at h
    · rename_i c k p
      have A : PE X (.Constant c k p) (RE W X.K (Gx P n) (.cst v)) := by
        rcases cstB_ok h with ⟨rfl, rfl⟩ | ⟨b, rfl, rfl⟩ | ⟨b, rfl, rfl⟩ | ⟨b, rfl, rfl⟩
        · exact mkE P n (W := W) (.cst .non) pe_non fun _ _ _ q => r_cst (v := .non) (w := .non) (fun _ _ => rfl) q
        · exact mkE P n (W := W) (.cst (.bl b)) pe_bl fun _ _ _ q => r_cst (v := .bl b) (w := .bl b) (fun _ _ => rfl) q
        · exact mkE P n (W := W) (.cst (.int b)) pe_int fun _ _ _ q => r_cst (v := .int b) (w := .int b) (fun _ _ => rfl) q
        · exact mkE P n (W := W) (.cst (.str b)) pe_str fun _ _ _ q => r_cst (v := .str b) (w := .str b) (fun _ _ => rfl) q
      exact ⟨A, pt_of_pe A rfl fun _ => rfl⟩
    · cases h
  | .glob y, z, X, W, e, g, h => by
    simp only [isE] at h
    split at h
    · rename_i x p
      simp only [Bool.and_eq_true, decide_eq_true_eq, List.any_eq_true] at h
      obtain ⟨rfl, h2, ⟨x', hm, rfl⟩, h3⟩ := h
      obtain ⟨k1, k2, k3⟩ := ok_name h3
      obtain ⟨v, u, w, c1, c2, c3, c4⟩ := g.cs _ hm
      have A := mkE P n (W := W) (.glob _) (pe_glob (pos := p) (g.gl h2) c2 c3 k1) fun _ _ _ q => r_glob (G := Gx P n) c1 c4 q
      exact ⟨A, pt_of_pe A rfl fun _ => rfl⟩
    · cases h
  | .bin o a b, z, X, W, e, g, h => by
    simp only [isE] at h
    split at h
    · rename_i l op r p
      simp only [Bool.and_eq_true, decide_eq_true_eq] at h
      obtain ⟨rfl, h1, h2⟩ := h
      have A := mkE P n (W := W) (.bin o a b) (pe_op (pos := p) (op_rB o) (ok_E a g h1).1 (ok_E b g h2).1) fun _ _ _ q => r_bin q
      exact ⟨A, pt_of_pe A rfl fun _ => rfl⟩
    · cases h
  | .neg a, z, X, W, e, g, h => by
    simp only [isE] at h
    split at h
    · rename_i op x p
      simp only [Bool.and_eq_true, decide_eq_true_eq] at h
      obtain ⟨rfl, h1⟩ := h
      have A := mkE P n (W := W) (.neg a) (pe_un (pos := p) un_neg (ok_E a g h1).1) fun _ _ _ q => r_neg q
      exact ⟨A, pt_of_pe A rfl fun _ => rfl⟩
    · cases h
  | .nt a, z, X, W, e, g, h => by
    simp only [isE] at h
    split at h
    · rename_i op x p
      simp only [Bool.and_eq_true, decide_eq_true_eq] at h
      obtain ⟨rfl, h1⟩ := h
      have B := ok_E a g h1
      exact ⟨mkE P n (W := W) (.nt a) (pe_notT B.1) fun _ _ _ q => r_nt q, mkT P n (W := W) (.nt a) (pt_not B.2) fun _ _ _ q => t_nt q⟩
    · cases h
  | .srt a, z, X, W, e, g, h => by
    simp only [isE] at h
    split at h
    · rename_i f q1 u q2 x q3 q4
      simp only [Bool.and_eq_true, decide_eq_true_eq] at h
      obtain ⟨rfl, rfl, h1, h2, h3, h4⟩ := h
      have B := (ok_E a g h4).1
      have D1 := pe_callTy (p := q2) (pos := q3) (cr_setL g.calm) (g.gl h2) (g.bl "set" (by decide +kernel)) boot_set (pa_cons B pa_nil (star_cons h3)) (show ("set" : Str) ≠ "__name__" by decide +kernel) (show (("set" : Str) == ("__debug__" : Str)) = false by decide +kernel) (star_cons h3) (plain_star (noStar_tail h3))
      have h5 : noStar [Expr.Call (.Name "set" q2) [x] [] q3] = true := by rfl
      have D2 := pe_callB (p := q1) (pos := q4) (cr_sortedSet g.calm) (g.gl h1) (g.bl "sorted" (by decide +kernel)) (by rfl) (pa_cons D1 pa_nil (star_cons h5)) (show ("sorted" : Str) ≠ "__name__" by decide +kernel) (show (("sorted" : Str) == ("__debug__" : Str)) = false by decide +kernel) (star_cons h5) (plain_star (noStar_tail h5))
      have D := mkE P n (W := W) (.srt a) D2 fun _ _ _ q => r_srt q
      exact ⟨D, pt_of_pe D rfl fun _ => rfl⟩
    · cases h
  | .lzip a b, z, X, W, e, g, h => by
    simp only [isE] at h
    split at h
    · rename_i f q1 u q2 x y q3 q4
      simp only [Bool.and_eq_true, decide_eq_true_eq] at h
      obtain ⟨rfl, rfl, h1, h2, h3, h4, h5⟩ := h
      have s1 := star_cons (env := X.env) h3
      have s2 := star_cons (env := X.env) (noStar_tail h3)
      have B := pa_cons (ok_E a g h4).1 (pa_cons (ok_E b g h5).1 pa_nil s2) s1
      have D1 := pe_listZip (pl := q1) (pz := q2) (cz := q3) (cl := q4) g.calm (g.gl h1) (g.bl "list" (by decide +kernel)) (g.gl h2) (g.bl "zip" (by decide +kernel)) B s1 (plain_star (noStar_tail h3))
      have D := mkE P n (W := W) (.lzip a b) D1 fun _ _ _ q => r_lzip q
      exact ⟨D, pt_of_pe D rfl fun _ => rfl⟩
    · cases h
  | .cmp o a b, z, X, W, e, g, h => by
    simp only [isE] at h
    split at h
    · rename_i l op r p
      simp only [Bool.and_eq_true, decide_eq_true_eq] at h
      obtain ⟨rfl, h0, h1, h2⟩ := h
      have A := (ok_E a g h1).1
      have B := (ok_E b g h2).1
      have o1 := op_rC (X := X) (by have := g.un; omega) o
      exact ⟨mkE P n (W := W) (.cmp o a b) (pe_cmpR o1 A B (nomark' h0)) fun _ _ _ q => r_cmp q, mkT P n (W := W) (.cmp o a b) (pt_cmpR o1 A B (nomark' h0)) fun _ _ _ q => t_cmp q⟩
    · cases h
  | .chn o o' a b c, z, X, W, e, g, h => by
    simp only [isE] at h
    split at h
    · rename_i l op op' r r' p
      simp only [Bool.and_eq_true, decide_eq_true_eq] at h
      obtain ⟨rfl, rfl, h0, h1, h2, h3⟩ := h
      have A := (ok_E a g h1).1
      have B := (ok_E b g h2).1
      have D := (ok_E c g h3).1
      have o1 := op_rC (X := X) (by have := g.un; omega) o
      have o2 := op_rC (X := X) (by have := g.un; omega) o'
      exact ⟨mkE P n (W := W) (.chn o o' a b c) (pe_chain o1 o2 A B D (lastMarks' h0)) fun _ _ _ q => r_chn q, mkT P n (W := W) (.chn o o' a b c) (pt_chain o1 o2 A B D (lastMarks' h0)) fun _ _ _ q => t_chn q⟩
    · cases h
  | .and a b, z, X, W, e, g, h => by
    simp only [isE] at h
    split at h
    · rename_i op x y rest p
      simp only [Bool.and_eq_true, decide_eq_true_eq] at h
      obtain ⟨rfl, h1, h2⟩ := h
      have A := ok_E a g h1
      have B : PE X (.BoolOp .And (y :: rest) p) (RE W X.K (Gx P n) b) ∧ PW X (.BoolOp .And (y :: rest) p) (RT W X.K (Gx P n) b) := by
        cases rest with
        | nil => exact ⟨pe_one (ok_E b g h2).1, pw_and1 (ok_E b g h2).2⟩
        | cons u r => exact ⟨(ok_E b g h2).1, pw_of (ok_E b g h2).2⟩
      exact ⟨mkE P n (W := W) (.and a b) (pe_andT A.1 B.1) fun _ _ _ q => r_and q, mkT P n (W := W) (.and a b) (pw_and A.2 B.2).pt fun _ _ _ q => t_and q⟩
    · cases h
  | .or a b, z, X, W, e, g, h => by
    simp only [isE] at h
    split at h
    · rename_i op x y rest p
      simp only [Bool.and_eq_true, decide_eq_true_eq] at h
      obtain ⟨rfl, h1, h2⟩ := h
      have A := ok_E a g h1
      have B : PE X (.BoolOp .Or (y :: rest) p) (RE W X.K (Gx P n) b) ∧ PW X (.BoolOp .Or (y :: rest) p) (RT W X.K (Gx P n) b) := by
        cases rest with
        | nil => exact ⟨pe_one (ok_E b g h2).1, pw_or1 (ok_E b g h2).2⟩
        | cons u r => exact ⟨(ok_E b g h2).1, pw_of (ok_E b g h2).2⟩
      exact ⟨mkE P n (W := W) (.or a b) (pe_orT A.1 B.1) fun _ _ _ q => r_or q, mkT P n (W := W) (.or a b) (pw_or A.2 B.2).pt fun _ _ _ q => t_or q⟩
    · cases h
  | .ife c a b, z, X, W, e, g, h => by
    simp only [isE] at h
    split at h
    · rename_i t x y p
      simp only [Bool.and_eq_true] at h
      obtain ⟨h0, h1, h2⟩ := h
      have D := ok_E c g h0
      have A := ok_E a g h1
      have B := ok_E b g h2
      exact ⟨mkE P n (W := W) (.ife c a b) (pe_ifExp D.2 A.1 B.1) fun _ _ _ q => r_ife q, mkT P n (W := W) (.ife c a b) (pt_ife D.2 A.2 B.2) fun _ _ _ q => t_ife q⟩
    · cases h
  | .call f as, z, X, W, e, g, h => by
    simp only [isE] at h
    split at h
    · rename_i x p args pos
      simp only [Bool.and_eq_true, decide_eq_true_eq] at h
      obtain ⟨rfl, h1, h2, h3, h4, h5⟩ := h
      obtain ⟨k1, k2, k3⟩ := ok_name h2
      obtain ⟨a, fd, ps, c1, c2, c3, c4, c5, c6⟩ := callB_ok g h4
      have hl := isEs_len h5
      have B := ok_Es as g h3 h5
      have A : PE X (.Call (.Name x p) args [] pos) (RE W X.K (Gx P n) (.call x as)) := by
        cases args with
        | nil =>
          refine wkE (pe_callX0 c3 g.room g.gu (g.gl h1) c1 c2 c4 g.tk pk_nil rfl k1) fun τ H Q q => ?_
          have q2 := r_call c5 (by rw [hl]; exact (c6 rfl).symm) q
          cases as with
          | cons _ _ => cases h5
          | nil =>
            obtain ⟨_, _, q4⟩ := ra_nil q2
            exact ⟨rfl, q4⟩
        | cons y ys =>
          refine wkE (pe_callX c3 g.room g.gu (g.gl h1) c1 c2 c4 g.tk B pk_nil rfl h3 k1) fun τ H Q q => ?_
          have q2 := r_call c5 (by rw [hl]; exact (c6 rfl).symm) q
          rw [hl] at q2
          exact q2
      exact ⟨A, pt_of_pe A rfl fun _ => rfl⟩
    · cases h
  | .callK f as ks kas, z, X, W, e, g, h => by
    simp only [isE] at h
    split at h
    · rename_i x p args kws pos
      simp only [Bool.and_eq_true, decide_eq_true_eq] at h
      obtain ⟨rfl, h1, h2, h3, h3', h4, h5, h6⟩ := h
      obtain ⟨k1, k2, k3⟩ := ok_name h2
      obtain ⟨a, fd, ps, c1, c2, c3, c4, c5, c6⟩ := callB_ok g h4
      have hl := isEs_len h5
      have B := ok_Es as g h3 h5
      have D := ok_Ks kas g h6
      have hk : esLen kas = ks.length := by
        rw [isEs_len h6, List.length_map]
        exact (kwNames_len h3').symm
      have A : PE X (.Call (.Name x p) args kws pos) (RE W X.K (Gx P n) (.callK x as ks kas)) := by
        cases args with
        | nil =>
          refine wkE (pe_callX0 c3 g.room g.gu (g.gl h1) c1 c2 c4 g.tk D h3' k1) fun τ H Q q => ?_
          have q2 := r_callK c5 hk q
          cases as with
          | cons _ _ => cases h5
          | nil =>
            have q3 := ra_nil q2
            obtain ⟨ρ, σ, s, R, L, q4⟩ := q3
            exact ⟨ρ, σ, s, R, L, q4.mono fun w H1 q5 => ⟨q5.2.1, q5.2.2⟩⟩
        | cons y ys =>
          refine wkE (pe_callX c3 g.room g.gu (g.gl h1) c1 c2 c4 g.tk B D h3' h3 k1) fun τ H Q q => ?_
          have q2 := r_callK c5 hk q
          rw [hl] at q2
          exact q2
      exact ⟨A, pt_of_pe A rfl fun _ => rfl⟩
    · cases h
  | .prim p as, z, X, W, e, g, h => by
    unfold isE at h
    split at h
    · rename_i x q args pos
      simp only [Bool.and_eq_true, decide_eq_true_eq] at h
      obtain ⟨rfl, h1, h2, h3⟩ := h
      have A : PE X (.Call (.Name (prName p) q) args [] pos) (RE W X.K (Gx P n) (.prim p as)) := by
        cases hi : isInst p with
        | true =>
          cases p with
          | isinst ts =>
            simp only at h3
            split at h3
            · rename_i a
              split at h3
              · rename_i v t pt
                simp only [Bool.and_eq_true, List.any_eq_true, decide_eq_true_eq] at h3
                obtain ⟨h4, ⟨u, hu, rfl, rfl⟩, h5⟩ := h3
                have B := (ok_E a g h5).1
                obtain ⟨b1, b2, b3, b4⟩ := boot_ask hu
                have T : PE X (.Name (Str.ofString u) pt) (tC (.ty u)) := pe_bltn (g.gl h4) (g.bl _ b2) b1 rfl b3 b4
                refine wkE (pe_callB (call_isinst hu) (g.gl h1) (g.bl "isinstance" (by decide +kernel)) (by rfl) (pa_cons B (pa_cons T pa_nil) (star_cons h2)) (show ("isinstance" : Str) ≠ "__name__" by decide +kernel) (show (("isinstance" : Str) == ("__debug__" : Str)) = false by decide +kernel) (star_cons h2) (plain_star (noStar_tail h2))) fun τ H Q q => ?_
                obtain ⟨ρ, σ, s, R, L, q⟩ := q
                simp only [evalE, evalEs, bind_assoc, Out.bind_ok] at q
                exact stE R L q fun w H1 ρ1 v s1 R1 L1 r1 q1 => ⟨ρ1, s1, v, w, rfl, R1, r1, q1.pst (calm_prim _ _ _)⟩
              · cases h3
            · cases h3
          | isex d cs =>
            simp only at h3
            split at h3
            · rename_i a
              split at h3
              · rename_i v t pt
                simp only [Bool.and_eq_true, List.any_eq_true, decide_eq_true_eq, List.all_eq_true] at h3
                obtain ⟨h4, rfl, h6, ⟨c0, hc0, rfl⟩, h8, h5⟩ := h3
                have B := (ok_E a g h5).1
                obtain ⟨k1, k2, k3⟩ := ok_name h6
                obtain ⟨D, hm, hE, hR⟩ := g.ers.cls _ hc0
                have T : PE X (.Name c0 pt) (tC (.ref D)) := pe_glob (g.gl h4) hm rfl k1
                refine wkE (pe_callB call_isX (g.gl h1) (g.bl "isinstance" (by decide +kernel)) (by rfl) (pa_cons B (pa_cons T pa_nil) (star_cons h2)) (show ("isinstance" : Str) ≠ "__name__" by decide +kernel) (show (("isinstance" : Str) == ("__debug__" : Str)) = false by decide +kernel) (star_cons h2) (plain_star (noStar_tail h2))) fun τ H Q q => ?_
                obtain ⟨ρ, σ, s, R, L, q⟩ := q
                simp only [evalE, evalEs, bind_assoc, Out.bind_ok] at q
                refine stE R L q fun w H1 ρ1 v s1 R1 L1 r1 q1 => ?_
                simp only [primV] at q1
                cases v with
                | non =>
                  cases r1
                  exact ⟨.non, D, false, rfl, .inl ⟨rfl, g.ers.non _ hc0 D hE.ns⟩, q1.here R1 rfl⟩
                | exc c x =>
                  obtain ⟨a', d', C', y, rfl, e1, e2, e3, e4⟩ := r1
                  simp only at q1
                  split at q1
                  · rename_i hc
                    obtain ⟨u, hu, rfl⟩ := h8 c hc
                    obtain ⟨C2, hm2, hE2, hR2⟩ := g.ers.cls _ hu
                    have ec := e1.symm.trans hE2.ns
                    cases ec
                    exact ⟨.ref a', D, isaX u c0, rfl, .inr ⟨a', d', C', y, rfl, hR2, e2, e3, (g.ers.kit u hu c0 hc0 C' D e1 hE.ns).1⟩, q1.here R1 rfl⟩
                  · exact q1.elim
                | _ => exact q1.elim
              · cases h3
            · cases h3
          | _ => cases hi
        | false =>
          have h4 : (!isGcd p || C.gcd) = true ∧ (!args.isEmpty) = true ∧ isEs C as z args = true := by
            cases p <;> first | (cases hi; done) | exact (by simpa only [Bool.and_eq_true] using h3)
          obtain ⟨h5, h6, h7⟩ := h4
          have B := ok_Es as g h2 h7
          cases args with
          | nil => cases h6
          | cons y ys =>
            refine wkE (pe_prim p hi (fun e => g.gcd (by rw [e] at h5; exact h5)) g.bl (g.gl h1) (cr_prim g.calm g.gu g.un p (fun ts e => by subst e; cases hi) (fun c cs e => by subst e; cases hi)) B h2) fun _ _ _ q => r_prim q
      exact ⟨A, pt_of_pe A rfl fun _ => rfl⟩
    · cases h
  | .meth m o as, z, X, W, e, g, h => by
    simp only [isE] at h
    split at h
    · rename_i q nm apos args cpos
      simp only [Bool.and_eq_true, decide_eq_true_eq, Bool.not_eq_true'] at h
      obtain ⟨rfl, _, h1, h2, h3, h4, h5, h6⟩ := h
      have A := (ok_E o g h5).1
      have B := ok_Es as g h2 h6
      have M := mt_meth (X := X) g.un m
      have D : PE X (.Call (.Attribute q (meName m) apos) args [] cpos) (RE W X.K (Gx P n) (.meth m o as)) := by
        cases args with
        | nil =>
          cases as with
          | cons _ _ => cases h6
          | nil =>
            refine wkE (t := tBM0 X.K (meT m) (rM X.K m) (RE W X.K (Gx P n) o)) ?_ fun _ _ _ q => r_meth0 q
            cases m <;> first
              | exact pe_bm0 PySem.F.plainAttrs_list PySem.F.slot_list_index PySem.F.type_list_index M A (base_ok h1) h4
              | exact pe_bm0 PySem.F.plainAttrs_list PySem.F.slot_list_append PySem.F.type_list_append M A (base_ok h1) h4
              | exact pe_bm0 PySem.F.plainAttrs_list PySem.F.slot_list_pop PySem.F.type_list_pop M A (base_ok h1) h4
              | exact pe_bm0 PySem.F.plainAttrs_list PySem.F.slot_list_insert PySem.F.type_list_insert M A (base_ok h1) h4
              | exact pe_bm0 PySem.F.plainAttrs_list PySem.F.slot_list_extend PySem.F.type_list_extend M A (base_ok h1) h4
              | exact pe_bm0 PySem.F.plainAttrs_dict PySem.F.slot_dict_get PySem.F.type_dict_get M A (base_ok h1) h4
        | cons y ys =>
          have hs := star_cons (env := X.env) h2
          have hp := plain_star (pos := cpos) (env := X.env) (noStar_tail h2)
          have hfew : ((backTo cpos (starEach (y :: ys) X.env)).all (fun x => !x.1) && (backToKw cpos (keywordEach [] X.env)).all (fun x => x.1.isSome)
            && decide ((y :: ys).length + ([] : List Keyword).length + (if ([] : List Keyword).isEmpty then 0 else 1) < 30)) = true := by
            have e1 := plain_star (pos := cpos) (env := X.env) h2
            rw [List.any_eq_false] at e1
            rw [Bool.and_eq_true, Bool.and_eq_true]
            refine ⟨⟨List.all_eq_true.mpr fun x hx => by have := e1 x hx; simpa using this, rfl⟩, decide_eq_true ?_⟩
            show (y :: ys).length + 0 + 0 < 30
            omega
          refine wkE (t := tBM X.K (meT m) (rM X.K m) (RE W X.K (Gx P n) o) (RA W X.K (Gx P n) as)) ?_ fun _ _ _ q => r_meth q
          cases m <;> first
            | exact pe_bm PySem.F.plainAttrs_list PySem.F.slot_list_index PySem.F.type_list_index M A B (base_ok h1) hfew h4 hs hp
            | exact pe_bm PySem.F.plainAttrs_list PySem.F.slot_list_append PySem.F.type_list_append M A B (base_ok h1) hfew h4 hs hp
            | exact pe_bm PySem.F.plainAttrs_list PySem.F.slot_list_pop PySem.F.type_list_pop M A B (base_ok h1) hfew h4 hs hp
            | exact pe_bm PySem.F.plainAttrs_list PySem.F.slot_list_insert PySem.F.type_list_insert M A B (base_ok h1) hfew h4 hs hp
            | exact pe_bm PySem.F.plainAttrs_list PySem.F.slot_list_extend PySem.F.type_list_extend M A B (base_ok h1) hfew h4 hs hp
            | exact pe_bm PySem.F.plainAttrs_dict PySem.F.slot_dict_get PySem.F.type_dict_get M A B (base_ok h1) hfew h4 hs hp
      exact ⟨D, pt_of_pe D rfl fun _ => rfl⟩
    · cases h
  | .idx a i, z, X, W, e, g, h => by
    simp only [isE] at h
    split at h
    · rename_i x y p
      simp only [Bool.and_eq_true] at h
      obtain ⟨h0, h1, h2⟩ := h
      have A := mkE P n (W := W) (.idx a i) (pe_ix (pos := p) (ix_all (by have := g.un; omega)) (ok_E a g h1).1 (ok_E i g h2).1 (plain_ix h0)) fun _ _ _ q => r_idx q
      exact ⟨A, pt_of_pe A rfl fun _ => rfl⟩
    · cases h
  | .fld cs a, z, X, W, e, g, h => by
    simp only [isE] at h
    split at h
    · rename_i q nm p
      simp only [Bool.and_eq_true, decide_eq_true_eq, List.all_eq_true, List.any_eq_true] at h
      obtain ⟨rfl, h1, h2, h3⟩ := h
      have B := (ok_E a g h3).1
      have A : PE X (.Attribute q "value" p) (RE W X.K (Gx P n) (.fld cs a)) := by
        refine wkE (pe_fldV B (base_ok h1)) fun τ H Q q => ?_
        obtain ⟨ρ, σ, s, R, L, q⟩ := q
        simp only [evalE] at q
        refine stE R L q fun w H1 ρ1 v s1 R1 L1 r1 q1 => ?_
        cases v with
        | exc c x =>
          obtain ⟨a', d', C', y, rfl, e1, e2, e3, e4⟩ := r1
          simp only at q1
          split at q1
          · rename_i hc
            obtain ⟨u, hu, rfl⟩ := h2 c hc
            obtain ⟨C2, hm2, hE2, hR2⟩ := g.ers.cls _ hu
            have ec := e1.symm.trans hE2.ns
            cases ec
            exact ⟨a', d', C', y, rfl, hR2, e2, e3, q1.here R1 e4⟩
          · exact q1.elim
        | _ => exact q1.elim
      exact ⟨A, pt_of_pe A rfl fun _ => rfl⟩
    · cases h
  | .slc a lo hi, z, X, W, e, g, h => by
    simp only [isE] at h
    split at h
    · rename_i x l u p p2
      simp only [Bool.and_eq_true] at h
      obtain ⟨h0, h1, h2⟩ := h
      have A := mkE P n (W := W) (.slc a lo hi) (pe_slice (p2 := p) (pos := p2) sl_all (ok_E a g h0).1 (ok_Eo lo g h1) (ok_Eo hi g h2)) fun _ _ _ q => r_slc q
      exact ⟨A, pt_of_pe A rfl fun _ => rfl⟩
    · cases h
  | .rev a, z, X, W, e, g, h => by
    simp only [isE] at h
    split at h
    · rename_i x i k p1 p2 p3 p4
      simp only [Bool.and_eq_true, decide_eq_true_eq] at h
      obtain ⟨rfl, h1⟩ := h
      have A : PE X (.Subscript x (.Slice none none (some (.UnaryOp .USub (.Constant (.int 1) k p1) p2)) p3) p4) (RE W X.K (Gx P n) (.rev a)) := by
        refine wkE (pe_revL (ok_E a g h1).1) fun τ H Q q => ?_
        obtain ⟨ρ, σ, s, R, L, q⟩ := r_rev q
        refine ⟨ρ, σ, s, R, L, q.mono fun w H1 ⟨ρ1, v, s1, R1, r1, q1⟩ => ?_⟩
        unfold revV at q1
        split at q1
        · rename_i xs ex
          obtain ⟨p, vs, rfl, h3, h4⟩ := R1.seqL ex r1
          exact ⟨p, vs, rfl, h3, fun D hD => q1.pushedL R1 h4.reverse hD⟩
        · exact q1.elim
      exact ⟨A, pt_of_pe A rfl fun _ => rfl⟩
    · cases h
  | .tup as, z, X, W, e, g, h => by
    simp only [isE] at h
    split at h
    · rename_i es k p
      simp only [Bool.and_eq_true] at h
      have A := mkE P n (W := W) (.tup as) (pe_tup (pos := p) (x1 := k) (ok_Es as g h.1 h.2)) fun _ _ _ q => r_tup q
      exact ⟨A, pt_of_pe A rfl fun _ => rfl⟩
    · cases h
  | .lst as, z, X, W, e, g, h => by
    simp only [isE] at h
    split at h
    · rename_i es p
      simp only [Bool.and_eq_true] at h
      have A := mkE P n (W := W) (.lst as) (pe_lst (pos := p) (ok_Es as g h.1 h.2)) fun _ _ _ q => r_lst q
      exact ⟨A, pt_of_pe A rfl fun _ => rfl⟩
    · cases h
  | .dct t, z, X, W, e, g, h => by
    simp only [isE] at h
    split at h
    · rename_i p
      have A : PE X (.Dict [] [] p) (RE W X.K (Gx P n) (.dct t)) := by
        cases t with
        | false => exact wkE pe_dnewK fun _ _ _ q => r_dctK q
        | true => exact wkE pe_dnewT fun _ _ _ q => r_dctT q
      exact ⟨A, pt_of_pe A rfl fun _ => rfl⟩
    · cases h
  | .lc m tg it .none own, z, X, W, e, g, h => by
    simp only [isE] at h
    split at h
    · rename_i elt t iter ifs as scope p
      simp only [Bool.and_eq_true, decide_eq_true_eq] at h
      obtain ⟨rfl, h1, h2, h3, h4, h5, h6, h7⟩ := h
      have A := lc_fin (p := p) (ifs := ifs) g (ok_It it g h1) h2 h3 h4 h5 (fun s H A cl fp => by
        cases ifs with
        | nil => exact wkTs pts_nil fun _ _ _ q => rc_none (G := Gx P n) q
        | cons t r => cases r <;> cases h6) (fun s H A cl fp => (ok_E m (g.block s H scope cl A fp) h7).1)
      exact ⟨A, pt_of_pe A rfl fun _ => rfl⟩
    · cases h
  | .lc m tg it (.some c) own, z, X, W, e, g, h => by
    simp only [isE] at h
    split at h
    · rename_i elt t iter ifs as scope p
      simp only [Bool.and_eq_true, decide_eq_true_eq] at h
      obtain ⟨rfl, h1, h2, h3, h4, h5, h6, h7⟩ := h
      have A := lc_fin (p := p) (ifs := ifs) (c := .some c) g (ok_It it g h1) h2 h3 h4 h5 (fun s H A cl fp => by
        cases ifs with
        | nil => cases h6
        | cons t r =>
          cases r with
          | cons _ _ => cases h6
          | nil => exact wkTs (pts_one (ok_E c (g.block s H scope cl A fp) h6).2) fun _ _ _ q => q) (fun s H A cl fp => (ok_E m (g.block s H scope cl A fp) h7).1)
      exact ⟨A, pt_of_pe A rfl fun _ => rfl⟩
    · cases h
theorem ok_Es : ∀ (m : Es) {z : Zc} {X : Cx} {W : WX} {es : List Expr}, GoodX P C n z X W → noStar es = true → isEs C m z es = true → PA X es (RA W X.K (Gx P n) m)
  | .nil, z, X, W, es, g, hs, h => by
    cases es with
    | nil => exact wkA pa_nil fun _ _ _ q => ra_nil q
    | cons _ _ => cases h
  | .cons m r, z, X, W, es, g, hs, h => by
    cases es with
    | nil => cases h
    | cons e es =>
      simp only [isEs, Bool.and_eq_true] at h
      exact wkA (pa_cons (ok_E m g h.1).1 (ok_Es r g (noStar_tail hs) h.2) (star_cons hs)) fun _ _ _ q => ra_cons q
theorem ok_Ks : ∀ (m : Es) {z : Zc} {X : Cx} {W : WX} {kws : List Keyword}, GoodX P C n z X W → isEs C m z (kws.map (·.value)) = true → PK X kws (RA W X.K (Gx P n) m)
  | .nil, z, X, W, es, g, h => by
    cases es with
    | nil => exact wkK pk_nil fun _ _ _ q => ra_nil q
    | cons _ _ => cases h
  | .cons m r, z, X, W, es, g, h => by
    cases es with
    | nil => cases h
    | cons e es =>
      simp only [List.map_cons, isEs, Bool.and_eq_true] at h
      obtain ⟨a, v, p⟩ := e
      exact wkK (pk_cons (ok_E m g h.1).1 (ok_Ks r g h.2)) fun _ _ _ q => ra_cons q
theorem ok_Eo : ∀ (m : Eo) {z : Zc} {X : Cx} {W : WX} {o : Option Expr}, GoodX P C n z X W → isEo C m z o = true → PO X o (ROp W X.K (Gx P n) m)
  | .none, z, X, W, o, g, h => by
    cases o with
    | none => exact wkO po_none fun _ _ _ q => ro_none q
    | some _ => cases h
  | .some m, z, X, W, o, g, h => by
    cases o with
    | none => cases h
    | some e => exact wkO (po_some (ok_E m g h).1) fun _ _ _ q => ro_some q
theorem ok_It : ∀ (m : Bk.It) {z : Zc} {X : Cx} {W : WX} {tg e : Expr}, GoodX P C n z X W → isIt C m z tg e = true → PI X tg e (RIt W X.K (Gx P n) m)
  | .seq m, z, X, W, tg, e, g, h => wkI (pi_seq (ok_E m g h).1) fun _ _ _ q => ri_seq q
  | .rng1 b, z, X, W, tg, e, g, h => by
    simp only [isIt] at h
    split at h
    · rename_i x p y pos
      simp only [Bool.and_eq_true, decide_eq_true_eq] at h
      obtain ⟨rfl, h1, h2, h3⟩ := h
      exact wkI (pi_range1 (g.gl h1) (g.bl _ (by decide +kernel)) (pa_cons (ok_E b g h3).1 pa_nil (star_cons h2)) (star_cons h2)) fun _ _ _ q => ri_rng1 q
    · cases h
  | .rng2 a b, z, X, W, tg, e, g, h => by
    simp only [isIt] at h
    split at h
    · rename_i x p y u pos
      simp only [Bool.and_eq_true, decide_eq_true_eq] at h
      obtain ⟨rfl, h1, h2, h3, h4⟩ := h
      have s1 := star_cons (env := X.env) h2
      have s2 := star_cons (env := X.env) (noStar_tail h2)
      exact wkI (pi_range2 (g.gl h1) (g.bl _ (by decide +kernel)) (pa_cons (ok_E a g h3).1 (pa_cons (ok_E b g h4).1 pa_nil s2) s1) (by rw [s1, s2]; rfl) (by rw [s2]; rfl)) fun _ _ _ q => ri_rng2 q
    · cases h
  | .rng3 a b c, z, X, W, tg, e, g, h => by
    simp only [isIt] at h
    split at h
    · rename_i x p y u v pos
      simp only [Bool.and_eq_true, decide_eq_true_eq] at h
      obtain ⟨rfl, h1, h2, h3, h4, h5⟩ := h
      have s1 := star_cons (env := X.env) h2
      have s2 := star_cons (env := X.env) (noStar_tail h2)
      have s3 := star_cons (env := X.env) (noStar_tail (noStar_tail h2))
      exact wkI (pi_range3 (g.gl h1) (g.bl _ (by decide +kernel)) (pa_cons (ok_E a g h3).1 (pa_cons (ok_E b g h4).1 (pa_cons (ok_E c g h5).1 pa_nil s3) s2) s1) s1 (plain_star (noStar_tail h2))) fun _ _ _ q => ri_rng3 q
    · cases h
  | .enum m, z, X, W, tg, e, g, h => by
    simp only [isIt] at h
    split at h
    · rename_i x p y pos
      simp only [Bool.and_eq_true, decide_eq_true_eq] at h
      obtain ⟨rfl, h0, h1, h2, h3⟩ := h
      cases tg <;> first
        | (cases h0; done)
        | exact wkI (pi_enumA (g.gl h1) (g.bl _ (by decide +kernel)) (pa_cons (ok_E m g h3).1 pa_nil (star_cons h2)) (star_cons h2)) fun _ _ _ q => ri_enum q
    · cases h
  | .zip3 a b c, z, X, W, tg, e, g, h => by
    simp only [isIt] at h
    split at h
    · rename_i x p y u v pos
      simp only [Bool.and_eq_true, decide_eq_true_eq] at h
      obtain ⟨rfl, h0, h1, h2, h3, h4, h5⟩ := h
      have s1 := star_cons (env := X.env) h2
      have s2 := star_cons (env := X.env) (noStar_tail h2)
      have s3 := star_cons (env := X.env) (noStar_tail (noStar_tail h2))
      cases tg <;> first
        | (cases h0; done)
        | exact wkI (pi_z3 (g.gl h1) (g.bl _ (by decide +kernel)) (pa_cons (ok_E a g h3).1 (pa_cons (ok_E b g h4).1 (pa_cons (ok_E c g h5).1 pa_nil s3) s2) s1) s1 (plain_star (noStar_tail h2))) fun _ _ _ q => ri_zip3 q
    · cases h
  | .zip a b, z, X, W, tg, e, g, h => by
    simp only [isIt] at h
    split at h
    · rename_i x p y u pos
      simp only [Bool.and_eq_true, decide_eq_true_eq] at h
      obtain ⟨rfl, h0, h1, h2, h3, h4⟩ := h
      have s1 := star_cons (env := X.env) h2
      have s2 := star_cons (env := X.env) (noStar_tail h2)
      cases tg <;> first
        | (cases h0; done)
        | exact wkI (pi_zip3 (g.gl h1) (g.bl _ (by decide +kernel)) (pa_cons (ok_E a g h3).1 (pa_cons (ok_E b g h4).1 pa_nil s2) s1) s1 (plain_star (noStar_tail h2))) fun _ _ _ q => ri_zip q
    · cases h
end
end
end Bk
set_option maxHeartbeats 8000000
/-! RunD7: what a statement gives, as the machine's rules want it. -/
namespace Bk
open PySem PySem.Spec PyProof.Rows L2

inductive FlV where
  | nx (τ : L2.St)
  | rt (v : V)
  | bk (τ : L2.St)
  | ct (τ : L2.St)
def RFl (K : PySem.W.Frag) : List Addr → Hp → Fl → FlV → Prop := fun ρ H f w => match f, w with
  | .nx σ, .nx τ => RelE K ρ H σ τ
  | .rt x, .rt v => Rep K ρ H x v
  | .bk σ, .bk τ => RelE K ρ H σ τ
  | .ct σ, .ct τ => RelE K ρ H σ τ
  | _, _ => False
def endQ (D : Ends) : FlV → Hp → Prop := fun f H => match f with
  | .nx τ => D.nx τ H
  | .rt v => D.rt v H
  | .bk τ => D.bk τ H
  | .ct τ => D.ct τ H
/-- the wish for an error, whatever the slots are then -/
abbrev WA (W : WX) : XK := fun c d H => ∀ τ, W c d τ H
abbrev RS (W : WX) (K : PySem.W.Frag) (G : Ctx) (m : S) : TS := fun D τ H => ∃ ρ σ s, RelS K ρ s H ∧ RelE K ρ H σ τ ∧ Psx (WA W) K (RFl K) ρ H (exec G m σ s) (endQ D)
abbrev RSs (W : WX) (K : PySem.W.Frag) (G : Ctx) (m : Ss) : TS := fun D τ H => ∃ ρ σ s, RelS K ρ s H ∧ RelE K ρ H σ τ ∧ Psx (WA W) K (RFl K) ρ H (execs G m σ s) (endQ D)
section
variable {W : WX} {K : PySem.W.Frag} {G : Ctx} {a : E} {τ : L2.St} {H : Hp}
/-- one step of a statement: what a gives, then the rest -/
theorem stS {α β : Type} {S : List Addr → Hp → α → β → Prop} {Q : β → Hp → Prop} {ρ : List Addr} {σ : Env} {s : Sto} {f : Val → Sto → Out α} (R : RelS K ρ s H) (L : RelE K ρ H σ τ) (h : Psx (WA W) K S ρ H ((evalE G a σ s).bind f) Q) {Q' : VK}
    (k : ∀ w H1 ρ1 v s1, RelS K ρ1 s1 H1 → RelE K ρ1 H1 σ τ → Rep K ρ1 H1 v w → Psx (WA W) K S ρ1 H1 (f v s1) Q → Q' w H1) : RE W K G a τ H Q' :=
  ⟨ρ, σ, s, R, L, ((Psx.bind h).mono fun w H1 ⟨ρ1, v, s1, e, R1, r, q⟩ => k w H1 ρ1 v s1 R1 (L.mono e) r q).toW fun _ _ _ q => q τ⟩
theorem stS' {α β : Type} {S : List Addr → Hp → α → β → Prop} {Q : β → Hp → Prop} {ρ : List Addr} {σ : Env} {s : Sto} {f : Val → Sto → Out α} (R : RelS K ρ s H) (L : RelE K ρ H σ τ) (h : Psx (WA W) K S ρ H ((evalE G a σ s).bind f) Q) {Q' : VK}
    (k : ∀ w H1 ρ1 v s1, Ext ρ H ρ1 H1 → RelS K ρ1 s1 H1 → RelE K ρ1 H1 σ τ → Rep K ρ1 H1 v w → Psx (WA W) K S ρ1 H1 (f v s1) Q → Q' w H1) : RE W K G a τ H Q' :=
  ⟨ρ, σ, s, R, L, ((Psx.bind h).mono fun w H1 ⟨ρ1, v, s1, e, R1, r, q⟩ => k w H1 ρ1 v s1 e R1 (L.mono e) r q).toW fun _ _ _ q => q τ⟩
theorem stST {α β : Type} {S : List Addr → Hp → α → β → Prop} {Q : β → Hp → Prop} {ρ : List Addr} {σ : Env} {s : Sto} {f : Bool → Sto → Out α} (R : RelS K ρ s H) (L : RelE K ρ H σ τ) (h : Psx (WA W) K S ρ H ((evalT G a σ s).bind f) Q) {Q' : Bool → Hp → Prop}
    (k : ∀ w H1 ρ1 s1, RelS K ρ1 s1 H1 → RelE K ρ1 H1 σ τ → Psx (WA W) K S ρ1 H1 (f w s1) Q → Q' w H1) : RT W K G a τ H Q' :=
  ⟨ρ, σ, s, R, L, ((Psx.bind h).mono fun w H1 ⟨ρ1, v, s1, e, R1, r, q⟩ => by cases r; exact k _ H1 ρ1 s1 R1 (L.mono e) q).toW fun _ _ _ q => q τ⟩
theorem stSA {α β : Type} {S : List Addr → Hp → α → β → Prop} {Q : β → Hp → Prop} {ρ : List Addr} {σ : Env} {s : Sto} {as : Es} {f : List Val → Sto → Out α} (R : RelS K ρ s H) (L : RelE K ρ H σ τ) (h : Psx (WA W) K S ρ H ((evalEs G as σ s).bind f) Q) {Q' : List V → Hp → Prop}
    (k : ∀ ws H1 ρ1 vs s1, Ext ρ H ρ1 H1 → RelS K ρ1 s1 H1 → RelE K ρ1 H1 σ τ → RepL K ρ1 H1 vs ws → Psx (WA W) K S ρ1 H1 (f vs s1) Q → Q' ws H1) : RA W K G as τ H Q' :=
  ⟨ρ, σ, s, R, L, ((Psx.bind h).mono fun w H1 ⟨ρ1, v, s1, e, R1, r, q⟩ => k w H1 ρ1 v s1 e R1 (L.mono e) r q).toW fun _ _ _ q => q τ⟩
end
section
variable {X : Cx} {st : Stmt} {sts : List Stmt}
theorem wkS {t t' : TS} (h : PS X st t) (k : ∀ D σ H, t' D σ H → t D σ H) : PS X st t' := ⟨fun pins s σ H D I q => h.run pins s σ H D I (k D σ H q)⟩
theorem wkSs {t t' : TS} (h : PSs X sts t) (k : ∀ D σ H, t' D σ H → t D σ H) : PSs X sts t' := ⟨fun pins s σ H D I q => h.run pins s σ H D I (k D σ H q)⟩
end
section
variable {W : WX} {K : PySem.W.Frag} {G : Ctx} {τ : L2.St} {H : Hp} {D : Ends}
theorem nx_here {WW : XK} {ρ : List Addr} {s : Sto} {σ : Env} (h : Psx WW K (RFl K) ρ H (.ok (.nx σ) s) (endQ D)) (R : RelS K ρ s H) (L : RelE K ρ H σ τ) : D.nx τ H := h.here (w := FlV.nx τ) R L
theorem s_asg {g : Tg} {e : E} (h : RS W K G (.asg g e) D τ H) : tAsg (RE W K G e) (RGt K g) D τ H := by
  obtain ⟨ρ, σ, s, R, L, h⟩ := h
  simp only [exec] at h
  refine stS R L h fun w H1 ρ1 v s1 R1 L1 r1 h1 => ?_
  split at h1
  · rename_i σ' e1
    exact ⟨ρ1, σ, s1, v, σ', R1, L1, r1, e1, fun τ' L' _ => nx_here h1 R1 L'⟩
  · exact h1.elim
theorem s_asgN {i : Nat} {e : E} (h : RS W K G (.asg (.nm i) e) D τ H) : tAsg (RE W K G e) (gName i) D τ H := by
  obtain ⟨ρ, σ, s, R, L, h⟩ := h
  simp only [exec] at h
  exact stS R L h fun w H1 ρ1 v s1 R1 L1 r1 h1 => nx_here h1 R1 (L1.set r1 i)
theorem s_par {i j : Nat} {as : Es} (h : RS W K G (.asg (.pr (.nm i) (.nm j)) (.tup as)) D τ H) : tPar i j (RA W K G as) D τ H := by
  obtain ⟨ρ, σ, s, R, L, h⟩ := h
  simp only [exec, evalE, bind_assoc] at h
  refine stSA R L h fun ws H1 ρ1 vs s1 e1 R1 L1 r1 h1 => ?_
  split at h1
  · simp only [Out.bind_ok, asgT, asgTs, seqO] at h1
    match vs, r1, h1 with
    | [x, y], r1, h1 =>
      obtain ⟨v, _, rfl, rx, w, _, rfl, ry, rfl⟩ := r1
      exact ⟨v, w, rfl, nx_here h1 R1 ((L1.set rx i).set ry j)⟩
    | [], _, h1 => exact h1.elim
    | [_], _, h1 => exact h1.elim
    | _ :: _ :: _ :: _, _, h1 =>
      rw [if_neg (by simp)] at h1
      exact h1.elim
  · exact h1.elim
theorem s_par3 {i j l : Nat} {as : Es} (h : RS W K G (.asg (.tr (.nm i) (.nm j) (.nm l)) (.tup as)) D τ H) : tPar3 i j l (RA W K G as) D τ H := by
  obtain ⟨ρ, σ, s, R, L, h⟩ := h
  simp only [exec, evalE, bind_assoc] at h
  refine stSA R L h fun ws H1 ρ1 vs s1 e1 R1 L1 r1 h1 => ?_
  split at h1
  · simp only [Out.bind_ok, asgT, asgTs, seqO] at h1
    match vs, r1, h1 with
    | [x, y, z], r1, h1 =>
      obtain ⟨v, _, rfl, rx, w, _, rfl, ry, u, _, rfl, rz, rfl⟩ := r1
      exact ⟨v, w, u, rfl, nx_here h1 R1 (((L1.set rx i).set ry j).set rz l)⟩
    | [], _, h1 => exact h1.elim
    | [_], _, h1 => exact h1.elim
    | [_, _], _, h1 => exact h1.elim
    | _ :: _ :: _ :: _ :: _, _, h1 =>
      rw [if_neg (by simp)] at h1
      exact h1.elim
  · exact h1.elim
theorem s_setI {o i e : E} (h : RS W K G (.setI o i e) D τ H) : tAsg (RE W K G e) (gSub (RE W K G o) (RE W K G i) (rSet K)) D τ H := by
  obtain ⟨ρ, σ, s, R, L, h⟩ := h
  simp only [exec] at h
  refine stS R L h fun w H1 ρ1 v s1 R1 L1 r1 h1 => stS' R1 L1 h1 fun w2 H2 ρ2 v2 s2 e2 R2 L2 r2 h2 => stS' R2 L2 h2 fun w3 H3 ρ3 v3 s3 e3 R3 L3 r3 h3 => ?_
  refine ⟨ρ3, s3, v2, v3, v, R3, r2.mono e3, r3, (r1.mono e2).mono e3, ((Psx.bind (R := RU) h3).mono fun _ H4 ⟨ρ4, _, s4, e4, R4, _, h4⟩ => nx_here h4 R4 (L3.mono e4)).pst (calm_set _ _ _ _)⟩
theorem s_setK {o e : E} {ks : Es} (h : RS W K G (.setK o ks e) D τ H) : tAsg (RE W K G e) (gSub (RE W K G o) (tTup (RA W K G ks)) (rSetK K)) D τ H := by
  obtain ⟨ρ, σ, s, R, L, h⟩ := h
  simp only [exec] at h
  refine stS R L h fun w H1 ρ1 v s1 R1 L1 r1 h1 => stS' R1 L1 h1 fun w2 H2 ρ2 v2 s2 e2 R2 L2 r2 h2 => stSA R2 L2 h2 fun ws H3 ρ3 vs s3 e3 R3 L3 r3 h3 => ?_
  have hl : vs.length ≤ sizeLine := by
    unfold setKV at h3
    split at h3
    · split at h3
      · split at h3
        · rename_i q; have := sizeLine_eq; omega
        · exact h3.elim
      · exact h3.elim
    · exact h3.elim
  refine ⟨by rw [← r3.length]; exact hl, fun p hp => ?_⟩
  have e5 : Ext ρ3 H3 ρ3 (upd H3 p (.tup ws)) := ext_new hp
  refine ⟨ρ3, s3, v2, vs, v, R3.new hp, (r2.mono e3).mono e5, ⟨p, ws, rfl, upd_same, r3.mono e5⟩, ((r1.mono e2).mono e3).mono e5, ((Psx.bind (R := RU) (h3.up e5)).mono fun _ H4 ⟨ρ4, _, s4, e4, R4, _, h4⟩ => nx_here h4 R4 ((L3.mono e5).mono e4)).pst (calm_setK _ _ _ _)⟩
theorem s_add {i : Nat} {e : E} (h : RS W K G (.aug i .add e) D τ H) : tAug i (RE W K G e) (ipI fun i j => i + j) D τ H := by
  obtain ⟨ρ, σ, s, R, L, h⟩ := h
  simp only [exec] at h
  split at h
  · rename_i x ex
    obtain ⟨w0, h0, r0⟩ := L.get i _ ex
    cases r0
    refine ⟨_, h0, stS R L h fun w H1 ρ1 v s1 R1 L1 r1 h1 => ?_⟩
    cases v with
    | int j => cases r1; exact ⟨x, j, rfl, rfl, nx_here h1 R1 (L1.set (v := .int (x + j)) rfl i)⟩
    | _ => exact h1.elim
  · exact h.elim
theorem s_sub {i : Nat} {e : E} (h : RS W K G (.aug i .sub e) D τ H) : tAug i (RE W K G e) (ipI fun i j => i - j) D τ H := by
  obtain ⟨ρ, σ, s, R, L, h⟩ := h
  simp only [exec] at h
  split at h
  · rename_i x ex
    obtain ⟨w0, h0, r0⟩ := L.get i _ ex
    cases r0
    refine ⟨_, h0, stS R L h fun w H1 ρ1 v s1 R1 L1 r1 h1 => ?_⟩
    cases v with
    | int j => cases r1; exact ⟨x, j, rfl, rfl, nx_here h1 R1 (L1.set (v := .int (x - j)) rfl i)⟩
    | _ => exact h1.elim
  · exact h.elim
theorem s_expr {e : E} (h : RS W K G (.expr e) D τ H) : tDrop (RE W K G e) D τ H := by
  obtain ⟨ρ, σ, s, R, L, h⟩ := h
  simp only [exec] at h
  exact stS R L h fun w H1 ρ1 v s1 R1 L1 r1 h1 => nx_here h1 R1 L1
theorem s_ife {c : E} {a b : Ss} (h : RS W K G (.ife c a b) D τ H) : tIfS (RT W K G c) (RSs W K G a) (RSs W K G b) D τ H := by
  obtain ⟨ρ, σ, s, R, L, h⟩ := h
  simp only [exec] at h
  refine stST R L h fun w H1 ρ1 s1 R1 L1 h1 => ?_
  cases w with
  | true => rw [if_pos rfl]; exact ⟨ρ1, σ, s1, R1, L1, h1⟩
  | false => rw [if_neg Bool.false_ne_true]; exact ⟨ρ1, σ, s1, R1, L1, h1⟩
theorem s_ret {e : E} (h : RS W K G (.ret e) D τ H) : tRet (RE W K G e) D τ H := by
  obtain ⟨ρ, σ, s, R, L, h⟩ := h
  simp only [exec] at h
  exact stS R L h fun w H1 ρ1 v s1 R1 L1 r1 h1 => h1.here (w := FlV.rt w) R1 r1
theorem s_retN (h : RS W K G .retN D τ H) : tRetN D τ H := by
  obtain ⟨ρ, σ, s, R, L, h⟩ := h
  exact h.here (w := FlV.rt .non) R rfl
theorem s_pass (h : RS W K G .pass D τ H) : tNext D τ H := by
  obtain ⟨ρ, σ, s, R, L, h⟩ := h
  exact nx_here h R L
theorem s_brk (h : RS W K G .brk D τ H) : tBreak D τ H := by
  obtain ⟨ρ, σ, s, R, L, h⟩ := h
  exact h.here (w := FlV.bk τ) R L
theorem s_cnt (h : RS W K G .cnt D τ H) : tCont D τ H := by
  obtain ⟨ρ, σ, s, R, L, h⟩ := h
  exact h.here (w := FlV.ct τ) R L
theorem s_never (h : RS W K G .never D τ H) : tNever D τ H := by
  obtain ⟨ρ, σ, s, R, L, h⟩ := h
  exact h.elim
theorem ss_nil (h : RSs W K G .nil D τ H) : tNext D τ H := by
  obtain ⟨ρ, σ, s, R, L, h⟩ := h
  exact nx_here h R L
theorem ss_cons {t : S} {r : Ss} (h : RSs W K G (.cons t r) D τ H) : tSeq (RS W K G t) (RSs W K G r) D τ H := by
  obtain ⟨ρ, σ, s, R, L, h⟩ := h
  simp only [execs] at h
  refine ⟨ρ, σ, s, R, L, (Psx.bind h).mono fun f H1 ⟨ρ1, fl, s1, e1, R1, rf, h1⟩ => ?_⟩
  cases fl with
  | nx σ' =>
    cases f with
    | nx τ' => exact ⟨ρ1, σ', s1, R1, rf, h1⟩
    | _ => exact rf.elim
  | rt x =>
    cases f with
    | rt v => exact h1.here (w := FlV.rt v) R1 rf
    | _ => exact rf.elim
  | bk x =>
    cases f with
    | bk v => exact h1.here (w := FlV.bk v) R1 rf
    | _ => exact rf.elim
  | ct x =>
    cases f with
    | ct v => exact h1.here (w := FlV.ct v) R1 rf
    | _ => exact rf.elim

/-! ### loops -/
theorem s_for {g : Tg} {it : Bk.It} {b : Ss} (h : RS W K G (.for_ g it b) D τ H) : tFor (RIt W K G it) (RGt K g) (RSs W K G b) D τ H := by
  obtain ⟨ρ, σ, s, R, L, h⟩ := h
  simp only [exec] at h
  refine ⟨ρ, σ, s, R, L, ((Psx.bind h).mono fun J H1 ⟨ρ1, p, s1, e1, R1, wv, h1⟩ => ?_).toW fun _ _ _ q => q τ⟩
  obtain ⟨xs, gd⟩ := p
  have L1 := L.mono e1
  refine ⟨fun i n τ2 H2 => n = xs.length - i ∧ i ≤ xs.length ∧ ∃ ρ2 σ2 s2, Ext ρ1 H1 ρ2 H2 ∧ RelS K ρ2 s2 H2 ∧ RelE K ρ2 H2 σ2 τ2 ∧
    Psx (WA W) K (RFl K) ρ2 H2 (forLoop (fun x σ2 s2 => match asgT s2 g x σ2 with
      | some σ3 => execs G b σ3 s2
      | none => .stuck) gd (xs.drop i) σ2 s2) (endQ D), ⟨xs.length, rfl, Nat.zero_le _, ρ1, σ, s1, .refl _ _, R1, L1, h1⟩, ?_⟩
  rintro i n τ2 H2 ⟨rfl, hi, ρ2, σ2, s2, e2, R2, L2, h2⟩
  by_cases hlt : i < xs.length
  · rw [List.drop_eq_getElem_cons hlt, forLoop] at h2
    split at h2
    · rename_i hg
      refine .inr ⟨wv.goes i ρ2 H2 s2 hlt e2 R2 hg, fun τ3 H3 => ∃ ρ3 σ3 s3, Ext ρ1 H1 ρ3 H3 ∧ RelS K ρ3 s3 H3 ∧ RelE K ρ3 H3 σ3 τ3 ∧
        Psx (WA W) K (RFl K) ρ3 H3 (forLoop (fun x σ2 s2 => match asgT s2 g x σ2 with
          | some σ3 => execs G b σ3 s2
          | none => .stuck) gd (xs.drop (i + 1)) σ3 s3) (endQ D), fun τ3 H3 q => ⟨xs.length - (i + 1), by omega, rfl, hlt, q⟩, fun x H3 y => ?_⟩
      obtain ⟨v, ev, e3, R3, rv⟩ := wv.yields i ρ2 H2 s2 x H3 hlt e2 R2 hg y
      rw [List.getElem?_eq_getElem hlt] at ev
      cases ev
      have h3 := h2.up e3
      have L3 := L2.mono e3
      cases ea : asgT s2 g xs[i] σ2 with
      | none => simp only [ea] at h3; exact h3.elim
      | some σ3 =>
        simp only [ea] at h3
        refine ⟨ρ2, σ2, s2, xs[i], σ3, R3, L3, rv, ea, fun τ4 L4 _ => ?_⟩
        refine ⟨ρ2, σ3, s2, R3, L4, (Psx.bind h3).mono fun f H4 ⟨ρ4, fl, s4, e4, R4, rf, h4⟩ => ?_⟩
        have e14 := (e2.trans e3).trans e4
        cases fl with
        | nx σ' =>
          cases f with
          | nx τ' => exact ⟨ρ4, σ', s4, e14, R4, rf, h4⟩
          | _ => exact rf.elim
        | ct σ' =>
          cases f with
          | ct τ' => exact ⟨ρ4, σ', s4, e14, R4, rf, h4⟩
          | _ => exact rf.elim
        | bk σ' =>
          cases f with
          | bk τ' => exact nx_here h4 R4 rf
          | _ => exact rf.elim
        | rt x =>
          cases f with
          | rt v => exact h4.here (w := FlV.rt v) R4 rf
          | _ => exact rf.elim
    · exact h2.elim
  · have : i = xs.length := by omega
    subst this
    rw [List.drop_length, forLoop] at h2
    split at h2
    · rename_i hg
      exact .inl ⟨wv.stops ρ2 H2 s2 e2 R2 hg, nx_here h2 R2 L2⟩
    · exact h2.elim
theorem s_while {c : E} {b : Ss} (h : RS W K G (.while_ c b) D τ H) : tWhile (RT W K G c) (RSs W K G b) D τ H := by
  obtain ⟨ρ, σ, s, R, L, h⟩ := h
  simp only [exec, whileL] at h
  split at h
  · rename_i hx
    refine ⟨fun n τ2 H2 => ∃ ρ2 σ2 s2, RelS K ρ2 s2 H2 ∧ RelE K ρ2 H2 σ2 τ2 ∧ Psx (WA W) K (RFl K) ρ2 H2 (whileN (evalT G c) (execs G b) n σ2 s2) (endQ D), ⟨_, ρ, σ, s, R, L, h⟩, ?_⟩
    rintro n τ2 H2 ⟨ρ2, σ2, s2, R2, L2, h2⟩
    cases n with
    | zero => exact h2.elim
    | succ n =>
      simp only [whileN] at h2
      refine stST R2 L2 h2 fun w H3 ρ3 s3 R3 L3 h3 => ?_
      cases w with
      | false => rw [if_neg Bool.false_ne_true]; exact nx_here h3 R3 L3
      | true =>
        rw [if_pos rfl]
        refine ⟨fun τ' H' => ∃ ρ2 σ2 s2, RelS K ρ2 s2 H' ∧ RelE K ρ2 H' σ2 τ' ∧ Psx (WA W) K (RFl K) ρ2 H' (whileN (evalT G c) (execs G b) n σ2 s2) (endQ D), fun τ' H' q => ⟨n, Nat.lt_succ_self _, q⟩, ?_⟩
        refine ⟨ρ3, σ2, s3, R3, L3, (Psx.bind h3).mono fun f H4 ⟨ρ4, fl, s4, e4, R4, rf, h4⟩ => ?_⟩
        cases fl with
        | nx σ' =>
          cases f with
          | nx τ' => exact ⟨ρ4, σ', s4, R4, rf, h4⟩
          | _ => exact rf.elim
        | ct σ' =>
          cases f with
          | ct τ' => exact ⟨ρ4, σ', s4, R4, rf, h4⟩
          | _ => exact rf.elim
        | bk σ' =>
          cases f with
          | bk τ' => exact nx_here h4 R4 rf
          | _ => exact rf.elim
        | rt x =>
          cases f with
          | rt v => exact h4.here (w := FlV.rt v) R4 rf
          | _ => exact rf.elim
  · exact h.elim
/-! ### raise, try -/
theorem s_raise {e : E} {c : Str} {C : Addr} (ns : PySem.W.nsIn K mainGlobals c = some (some (.ref C))) (h : RS W K G (.raise c e) D τ H) : tMkB C (RA W K G (.cons e .nil)) τ H fun cls d H' => W cls d τ H' := by
  obtain ⟨ρ, σ, s, R, L, h⟩ := h
  simp only [exec] at h
  refine ⟨ρ, σ, s, R, L, ?_⟩
  simp only [evalEs, Out.bind_ok]
  cases ev : evalE G e σ s with
  | stuck => rw [ev] at h; exact h.elim
  | exc c2 v s1 =>
    rw [ev] at h
    exact fun ρ' H' d C y e2 r n x q => h ρ' H' d C y e2 r n x q τ
  | ok v s1 =>
    rw [ev] at h
    intro ρ1 H1 ws e1 R1 r1
    obtain ⟨w, _, rfl, rw1, rfl⟩ := r1
    refine ⟨w, rfl, fun d hd => ?_⟩
    exact h ρ1 (upd H1 d (.xd [("value", w)])) d C w (e1.trans (ext_new hd)) (R1.new hd) ns upd_same (rw1.mono (ext_new hd)) τ
/-- a try's body: no local is stored there -/
def tryB : Ss → Bool
  | .nil => true
  | .cons t r => match t with
    | .expr _ => tryB r
    | .pass => tryB r
    | .ife _ a b => tryB a && (tryB b && (match r with
      | .nil => true
      | _ => false))
    | _ => false
/-- the body's reading: what raises, raises at the slots of the entry -/
abbrev RY (W : WX) (K : PySem.W.Frag) (G : Ctx) (m : Ss) : TS := fun D τ H => ∃ ρ σ s, RelS K ρ s H ∧ RelE K ρ H σ τ ∧ Psx (Wt W τ) K (RFl K) ρ H (execs G m σ s) (endQ D)
theorem y_nil (h : RY W K G .nil D τ H) : tNext D τ H := by
  obtain ⟨ρ, σ, s, R, L, h⟩ := h
  exact nx_here h R L
theorem y_expr {e : E} {r : Ss} (h : RY W K G (.cons (.expr e) r) D τ H) : tSeq (tDrop (RE W K G e)) (RY W K G r) D τ H := by
  obtain ⟨ρ, σ, s, R, L, h⟩ := h
  simp only [execs, exec, bind_assoc, Out.bind_ok] at h
  exact stE R L h fun w H1 ρ1 v s1 R1 L1 r1 h1 => ⟨ρ1, σ, s1, R1, L1, h1⟩
theorem y_pass {r : Ss} (h : RY W K G (.cons .pass r) D τ H) : tSeq tNext (RY W K G r) D τ H := by
  obtain ⟨ρ, σ, s, R, L, h⟩ := h
  simp only [execs, exec, Out.bind_ok] at h
  exact ⟨ρ, σ, s, R, L, h⟩
theorem seq_nil (t : S) (σ : Env) (s : Sto) : execs G (.cons t .nil) σ s = exec G t σ s := by
  simp only [execs]
  cases exec G t σ s with
  | ok f s => cases f <;> rfl
  | _ => rfl
theorem y_ife {c : E} {a b : Ss} (h : RY W K G (.cons (.ife c a b) .nil) D τ H) : tSeq (tIfS (RT W K G c) (RY W K G a) (RY W K G b)) tNext D τ H := by
  obtain ⟨ρ, σ, s, R, L, h⟩ := h
  rw [seq_nil] at h
  simp only [exec] at h
  refine stT R L h fun w H1 ρ1 s1 R1 L1 h1 => ?_
  cases w with
  | true => rw [if_pos rfl]; exact ⟨ρ1, σ, s1, R1, L1, h1⟩
  | false => rw [if_neg Bool.false_ne_true]; exact ⟨ρ1, σ, s1, R1, L1, h1⟩
theorem set_two {i j : Nat} (h : i ≠ j) (τ : L2.St) (r : Option V) : ((τ.set i r).set j r).set i none = (τ.set j r).set i none := by
  rw [List.set_comm _ _ h, List.set_set]
theorem s_try {b : Ss} {c : Str} {cs : List Str} {i j : Nat} {C : Addr} (hij : i ≠ j) (hC : ∀ d ∈ cs, ∀ D, PySem.W.nsIn K mainGlobals d = some (some (.ref D)) → PySem.W.exmOne K (.ref D) (.ref C) = some (isaX d c))
    (h : RS W K G (.tryC b c cs i j) D τ H) : RY (wKeep K (.ref C) i j D) K G b D τ H := by
  obtain ⟨ρ, σ, s, R, L, h⟩ := h
  simp only [exec] at h
  refine ⟨ρ, σ, s, R, L, ?_⟩
  cases ev : execs G b σ s with
  | stuck => rw [ev] at h; exact h.elim
  | ok f s1 => rw [ev] at h; exact h
  | exc d v s1 =>
    rw [ev] at h
    simp only at h
    split at h
    · rename_i hd
      intro ρ' H' dd C2 y e1 R1 ns ed ry
      refine ⟨C2, dd, rfl, rfl, by rw [hC d hd.1 C2 ns, hd.2], fun a na => ?_⟩
      have hne : dd ≠ a := fun z => by rw [z, na] at ed; cases ed
      have e2 : Ext ρ' H' ρ' (upd H' a (exR a C2 dd)) := ext_new na
      have L2' := (L.mono e1).mono e2
      have rx : Rep K ρ' (upd H' a (exR a C2 dd)) (.exc d v) (V.ref a) := ⟨a, dd, C2, y, rfl, ns, upd_same, by rw [upd_ne hne]; exact ed, ry.mono e2⟩
      have := h ρ' (upd H' a (exR a C2 dd)) (FlV.nx ((τ.set j (some (.ref a))).set i none)) (e1.trans e2) (R1.new na) ((L2'.set rx j).unset i)
      rw [set_two hij]
      exact this
    · exact h.elim
end
end Bk
set_option maxHeartbeats 8000000
/-! RunD8: the text's statements run as the terms say; a def. -/
namespace Bk
open PySem PySem.Spec PyProof.Rows L2

/-! ### how an assignment stores -/
def isStar : Expr → Bool
  | .Starred _ _ => true
  | _ => false
def nameAt (sc : Scope) (line : Nat) : Expr → Option Str
  | .Name id pos => if sc.names.lookup id == some .local && pos.line == line then some id else none
  | _ => none
/-- the names that are stored from the right; none: not told -/
def swN (sc : Scope) (ts vs : List Expr) : Option (Option (List Str)) :=
  if !(ts.length == 2 || ts.length == 3) || vs.length != ts.length then some none
  else if vs.any isStar then some none
  else
    let line := (ts.head?.map (·.pos.line)).getD 0
    let names := ts.filterMap (nameAt sc line)
    if names.length != ts.length || names.eraseDups.length != names.length then some none
    else if vs.all (foldedForSure 8) then some none
    else if vs.all (constantsAlone 8) then none
    else some (some names)
theorem sw_ok {env : PySem.Env} {ts vs : List Expr} {k k2 : Nat} {p p2 : Pos} {r : Option (List Str)} (hk : env.scope.kind = .function) (h : swN env.scope ts vs = some r) : swappedStores [.Tuple ts k p] (.Tuple vs k2 p2) env = pure r := by
  have hb : env.blockKind = .function := by unfold Env.blockKind; rw [hk]; rfl
  unfold swappedStores
  simp only [hb]
  unfold swN at h
  simp only [] at h
  split at h
  · rename_i c
    cases h
    exact if_pos (by simpa using c)
  · rename_i c
    refine (if_neg (by simpa using c)).trans ?_
    split at h
    · rename_i c2
      cases h
      exact if_pos c2
    · rename_i c2
      refine (if_neg c2).trans ?_
      split at h
      · rename_i c3
        cases h
        exact if_pos c3
      · rename_i c3
        refine (if_neg c3).trans ?_
        split at h
        · rename_i c4
          cases h
          exact if_pos c4
        · rename_i c4
          refine (if_neg c4).trans ?_
          split at h
          · cases h
          · rename_i c5
            cases h
            exact if_neg c5
def swapB (sc : Scope) (t : Str) (line : Nat) : Expr → Bool
  | .ListComp _ _ s pos => sc.names.lookup t == some .local && line == pos.line && !(s.names.any fun (n, k) => n == t && (k == .local || k == .cell))
  | _ => false
theorem swap_ok {env : PySem.Env} {v : Expr} {t : Str} {p : Pos} {l : Nat} (hk : env.scope.kind = .function) (hv : noComp v = true ∨ ∃ a b c d, v = .ListComp a b c d) : swapsWith v (some (.Name t p)) l env = pure (swapB env.scope t p.line v) := by
  have hb : env.blockKind = .function := by unfold Env.blockKind; rw [hk]; rfl
  rcases hv with hv | ⟨a, b, c, d, rfl⟩
  · cases v <;> first | rfl | (cases hv; done)
  · unfold swapsWith swapB
    simp only [hb]
    rfl
theorem swapT_ok {env : PySem.Env} {v : Expr} {ts : List Expr} {k : Nat} {p : Pos} {l : Nat} : swapsWithSole [.Tuple ts k p] v l env = pure false := by
  show swapsWith v (some (.Tuple ts k p)) l env = pure false
  cases v <;> rfl
theorem swapS_ok {env : PySem.Env} {v a b : Expr} {p : Pos} {l : Nat} : swapsWithSole [.Subscript a b p] v l env = pure false := by
  show swapsWith v (some (.Subscript a b p)) l env = pure false
  cases v <;> rfl
theorem swN_none {env : PySem.Env} {v : Expr} {ts : List Expr} {k : Nat} {p : Pos} (h : isTupE v = false) : swappedStores [.Tuple ts k p] v env = pure none := by
  cases v <;> first | rfl | (cases h; done)
theorem swS_none {env : PySem.Env} {v a b : Expr} {p : Pos} : swappedStores [.Subscript a b p] v env = pure none := by
  cases v <;> rfl
theorem noSwap {v : Expr} {l : Nat} {env : PySem.Env} (h : noComp v = true) : swapsWith v none l env = pure false := by
  cases v <;> first | rfl | (cases h; done)

/-! ### the checker -/
def lcB : Expr → Bool
  | .ListComp _ _ _ _ => true
  | _ => false
def isLoc (sc : Scope) (x : Str) : Bool := decide (sc.names.lookup x = some .local)
def parB (C : SC) (z : Zc) (g : Tg) (e : E) (ts vs : List Expr) (names : List Str) : Bool := match g, e, ts, vs with
  | .pr (.nm i) (.nm j), .tup as, [.Name x _, .Name y _], [a, b] => decide (names = [x, y]) && (decide (i ≠ j) && (decide (C.N[i]? = some x) && (decide (C.N[j]? = some y) && (isLoc z.sc x && (isLoc z.sc y && (noStar [a, b] && isEs C as z [a, b]))))))
  | .tr (.nm i) (.nm j) (.nm l), .tup as, [.Name x _, .Name y _, .Name w _], [a, b, c] => decide (names = [x, y, w]) && (decide (i ≠ j ∧ i ≠ l ∧ j ≠ l) && (decide (C.N[i]? = some x) && (decide (C.N[j]? = some y) && (decide (C.N[l]? = some w) && (isLoc z.sc x && (isLoc z.sc y && (isLoc z.sc w && (noStar [a, b, c] && isEs C as z [a, b, c]))))))))
  | _, _, _, _ => false
def isAsg (C : SC) (z : Zc) (g : Tg) (e : E) (tg v : Expr) : Bool := match tg with
  | .Name x p => isTg C.N z g tg && (isE C e z v && ((noComp v || lcB v) && (!swapB z.sc x p.line v || isLoc z.sc x)))
  | .Tuple ts _ _ => (match v with
    | .Tuple vs _ _ => (match swN z.sc ts vs with
      | some none => isTg C.N z g tg && isE C e z v
      | some (some names) => parB C z g e ts vs names
      | none => false)
    | _ => isTg C.N z g tg && isE C e z v)
  | _ => false
mutual
def isS (C : SC) (z : Zc) : S → Stmt → Bool
  | .asg g e, st => match st with
    | .Assign [tg] v _ => isAsg C z g e tg v
    | _ => false
  | .setI o i e, st => match st with
    | .Assign [.Subscript x y _] v _ => !isTupE y && (plainIx y && (isE C e z v && (isE C o z x && isE C i z y)))
    | _ => false
  | .setK o ks e, st => match st with
    | .Assign [.Subscript x (.Tuple ys _ _) _] v _ => noStar ys && (isE C e z v && (isE C o z x && isEs C ks z ys))
    | _ => false
  | .aug i o e, st => match st with
    | .AugAssign (.Name x _) op v _ => decide (C.N[i]? = some x) && (asgB z x && (decide ((o = .add ∧ op = .Add) ∨ (o = .sub ∧ op = .Sub)) && isE C e z v))
    | _ => false
  | .expr e, st => match st with
    | .Expr v _ => noComp v && isE C e z v
    | _ => false
  | .ife c a b, st => match st with
    | .If t p q _ => isE C c z t && (isSs C z a p && isSs C z b q)
    | _ => false
  | .for_ g it b, st => match st with
    | .For tg iter body [] _ => isTg C.N z g tg && (isIt C it z tg iter && (noSet iter && isSs C z b body))
    | _ => false
  | .while_ c b, st => match st with
    | .While t body [] _ => isE C c z t && isSs C z b body
    | _ => false
  | .ret e, st => match st with
    | .Return (some v) _ => isE C e z v
    | _ => false
  | .retN, st => match st with
    | .Return none _ => true
    | _ => false
  | .pass, st => match st with
    | .Pass _ => true
    | _ => false
  | .brk, st => match st with
    | .Break _ => true
    | _ => false
  | .cnt, st => match st with
    | .Continue _ => true
    | _ => false
  | .never, _ => true
  | .raise c e, st => match st with
    | .Raise (some (.Call (.Name x _) [v] [] _)) none _ => decide (x = c) && (glB z.sc x && (okName x && (C.ers.any (fun u => decide (u = x)) && (noStar [v] && isE C e z v))))
    | _ => false
  | .tryC b c cs i j, st => match st with
    | .Try body [.ExceptHandler (some (.Name x _)) (some n) [.Assign [.Name y _] (.Name n2 _) _] _] [] [] _ => decide (x = c) && (decide (n2 = n) && (decide (C.N[i]? = some n) && (decide (C.N[j]? = some y) && (decide (i ≠ j) && (isLoc z.sc n && (isLoc z.sc y && (glB z.sc x && (okName x && (okName n &&
        (C.ers.any (fun u => decide (u = x)) && (cs.all (fun d => C.ers.any (fun u => decide (u = d))) && (tryB b && isSs C z b body))))))))))))
    | _ => false
def isSs (C : SC) (z : Zc) : Ss → List Stmt → Bool
  | .nil, sts => match sts with
    | [] => true
    | _ => false
  | .cons m r, sts => match sts with
    | st :: sts => isS C z m st && isSs C z r sts
    | _ => false
end

section
variable {P : Prog} {C : SC} {n : Nat}
theorem loc_of {z : Zc} {X : Cx} {W : WX} {x : Str} (g : GoodX P C n z X W) (h : isLoc z.sc x = true) : X.env.scope.names.lookup x = some .local := by
  rw [g.sc]; exact of_decide_eq_true h
theorem ok_setLc {z : Zc} {X : Cx} {W : WX} {e : E} {v : Expr} {i : Nat} {x : Str} {px pos : Pos} (g : GoodX P C n z X W) (hk : z.sc.kind = .function) (hv : isE C e z v = true) (hl : lcB v = true) (hN : C.N[i]? = some x) (hx : isLoc z.sc x = true) (hs : swapB z.sc x px.line v = true) :
    PS X (.Assign [.Name x px] v pos) (tAsg (RE W X.K (Gx P n) e) (gName i)) := by
  have hN' : X.N.Nodup := by rw [g.N]; exact g.nd
  have hN2 : X.N[i]? = some x := by rw [g.N]; exact hN
  have hsw : ∀ l, swapsWith v (some (.Name x px)) l X.env = pure true := fun l => by
    rw [swap_ok (by rw [g.sc]; exact hk) (by cases v <;> first | (cases hl; done) | exact .inr ⟨_, _, _, _, rfl⟩), g.sc, hs]
  cases v with
  | ListComp elt gens scope p =>
    cases e with
    | lc m tg it c own =>
      simp only [isE] at hv
      split at hv
      · rename_i elt' t iter ifs as scope' p' he
        cases he
        simp only [Bool.and_eq_true, decide_eq_true_eq] at hv
        obtain ⟨rfl, h1, h2, h3, h4, h5, h6, h7⟩ := hv
        have hok : BlkOk X.N X.env.scope scope (ownP C.N own) := by rw [g.N, g.sc]; exact blkOk_by h3
        have hm : (ownP C.N own).map (·.2) = own := by simp [ownP, List.map_map, Function.comp_def]
        have ht : ∀ (s : Shared) (H : Hp) (A : Addr) (cl : List (Str × Addr)) (fp : List Addr), PTs (X.blk s H scope (compEnvC scope cl A X.env) fp) ifs (RCn W0 X.K (Gx P n) c) := fun s H A cl fp => by
          cases c with
          | none =>
            cases ifs with
            | nil => exact wkTs pts_nil fun _ _ _ q => rc_none (G := Gx P n) q
            | cons t r => cases r <;> cases h6
          | some c =>
            cases ifs with
            | nil => cases h6
            | cons t r =>
              cases r with
              | cons _ _ => cases h6
              | nil => exact wkTs (pts_one (ok_E c (g.block s H scope cl A fp) h6).2) fun _ _ _ q => q
        refine wkS (ps_setLc (g := RGt X.K tg) (tt := RCn W0 X.K (Gx P n) c) (te := RE W0 X.K (Gx P n) m) g.calm hN' hN2 (loc_of g hx) (hsw _) (ok_It it g h1) hok (fun s H A cl fp => ok_Tg (g.block s H scope cl A fp) h5) ht (fun s H A cl fp => (ok_E m (g.block s H scope cl A fp) h7).1) (noFold h2)) fun D τ H q => ?_
        rw [hm]
        exact r_lc (fun i hi => of_decide_eq_true (List.all_eq_true.mp h4 i hi)) q
      · cases hv
    | _ => simp [isE] at hv
  | _ => cases hl
theorem ok_par {z : Zc} {X : Cx} {W : WX} {g' : Tg} {e : E} {ts vs : List Expr} {names : List Str} {k k2 : Nat} {p p2 pos : Pos} (g : GoodX P C n z X W) (hk : z.sc.kind = .function) (hs : swN z.sc ts vs = some (some names)) (h : parB C z g' e ts vs names = true) :
    PS X (.Assign [.Tuple ts k p] (.Tuple vs k2 p2) pos) (RS W X.K (Gx P n) (.asg g' e)) := by
  have hN' : X.N.Nodup := by rw [g.N]; exact g.nd
  have hw := sw_ok (k := k) (k2 := k2) (p := p) (p2 := p2) (env := X.env) (ts := ts) (vs := vs) (r := some names) (by rw [g.sc]; exact hk) (by rw [g.sc]; exact hs)
  unfold parB at h
  split at h
  · rename_i i j as x px y py a b
    simp only [Bool.and_eq_true, decide_eq_true_eq] at h
    obtain ⟨rfl, h1, h2, h3, h4, h5, h6, h7⟩ := h
    exact wkS (ps_par g.calm hN' (by rw [g.N]; exact h2) (by rw [g.N]; exact h3) h1 (loc_of g h4) (loc_of g h5) (ok_Es as g h6 h7) hw) fun _ _ _ q => s_par q
  · rename_i i j l as x px y py w pw a b c
    simp only [Bool.and_eq_true, decide_eq_true_eq] at h
    obtain ⟨rfl, ⟨h1, h1', h1''⟩, h2, h3, h3', h4, h5, h5', h6, h7⟩ := h
    exact wkS (ps_par3 g.calm hN' (by rw [g.N]; exact h2) (by rw [g.N]; exact h3) (by rw [g.N]; exact h3') h1 h1' h1'' (loc_of g h4) (loc_of g h5) (loc_of g h5') (ok_Es as g h6 h7) hw) fun _ _ _ q => s_par3 q
  · cases h
theorem ok_asg {z : Zc} {X : Cx} {W : WX} {g' : Tg} {e : E} {tg v : Expr} {pos : Pos} (g : GoodX P C n z X W) (hk : z.sc.kind = .function) (h : isAsg C z g' e tg v = true) : PS X (.Assign [tg] v pos) (RS W X.K (Gx P n) (.asg g' e)) := by
  have hk' : X.env.scope.kind = .function := by rw [g.sc]; exact hk
  unfold isAsg at h
  split at h
  · rename_i x p
    simp only [Bool.and_eq_true] at h
    obtain ⟨h1, h2, h3, h4⟩ := h
    have hv : noComp v = true ∨ ∃ a b c d, v = .ListComp a b c d := by
      simp only [Bool.or_eq_true] at h3
      rcases h3 with h3 | h3
      · exact .inl h3
      · cases v <;> first | (cases h3; done) | exact .inr ⟨_, _, _, _, rfl⟩
    have hw : ∀ l, swapsWith v (some (.Name x p)) l X.env = pure (swapB z.sc x p.line v) := fun l => by rw [swap_ok hk' hv, g.sc]
    cases g' with
    | nm i =>
      have h1' := h1
      simp only [isTg, Bool.and_eq_true, decide_eq_true_eq] at h1
      cases hb : swapB z.sc x p.line v with
      | false =>
        obtain ⟨f1, f2⟩ := g.fn x h1.2
        exact wkS (ps_set (i := i) (by rw [g.N]; exact g.nd) (by rw [g.N]; exact h1.1) (by rw [g.sc]; exact f1) (ok_E e g h2).1 (by rw [hw, hb]) (by rw [g.sc]; exact f2)) fun _ _ _ q => s_asgN q
      | true =>
        rw [hb] at h4
        have hl : lcB v = true := by cases v <;> first | rfl | (cases hb; done)
        exact wkS (ok_setLc g hk h2 hl h1.1 h4 hb) fun _ _ _ q => s_asgN q
    | _ => simp [isTg] at h1
  · rename_i ts k p
    have plain : isTg C.N z g' (.Tuple ts k p) = true → isE C e z v = true → swappedStores [.Tuple ts k p] v X.env = pure none → PS X (.Assign [.Tuple ts k p] v pos) (RS W X.K (Gx P n) (.asg g' e)) := fun h1 h2 h3 =>
      wkS (ps_asg (ok_E e g h2).1 (ok_Tg g h1) swapT_ok h3 (by rw [tg_star h1]; rfl)) fun _ _ _ q => s_asg q
    split at h
    · rename_i vs k2 p2
      split at h
      · rename_i hs
        simp only [Bool.and_eq_true] at h
        exact plain h.1 h.2 (sw_ok hk' (by rw [g.sc]; exact hs))
      · rename_i names hs
        exact ok_par g hk hs h
      · cases h
    · rename_i hv
      simp only [Bool.and_eq_true] at h
      exact plain h.1 h.2 (swN_none (by cases v <;> first | rfl | exact absurd rfl (hv _ _ _)))
  · cases h
/-- a def's own context -/
structure FunX (X : Cx) : Prop where
  ex : X.ex = []
  stk : X.stack = X.env :: X.outer
  fr : X.env.frame = some X.env.locals
theorem GoodX.tr {z : Zc} {X : Cx} {W W' : WX} {pn : List (Addr × Obj)} {xe : Value → Shared → Prop} (g : GoodX P C n z X W) (tk : Takes (X.tr pn xe) W') : GoodX P C n z (X.tr pn xe) W' where
  tk := tk
  ers := g.ers
  N := g.N
  sc := g.sc
  nd := g.nd
  calm := g.calm
  gu := g.gu
  room := g.room
  bl := g.bl
  gcd := g.gcd
  cs := g.cs
  fns := g.fns
  fn := g.fn
theorem ok_Y : ∀ (m : Ss) {z : Zc} {X : Cx} {W : WX} {sts : List Stmt}, GoodX P C n z X W → tryB m = true → isSs C z m sts = true → PSs X sts (RY W X.K (Gx P n) m)
  | .nil, z, X, W, sts, g, ht, h => by
    cases sts with
    | nil => exact wkSs pss_nil fun _ _ _ q => y_nil q
    | cons _ _ => cases h
  | .cons m r, z, X, W, sts, g, ht, h => by
    cases sts with
    | nil => cases h
    | cons st sts =>
      simp only [isSs, Bool.and_eq_true] at h
      obtain ⟨h1, h2⟩ := h
      cases m with
      | expr e =>
        simp only [isS] at h1
        split at h1
        · simp only [Bool.and_eq_true] at h1
          exact wkSs (pss_cons (ps_expr (ok_E e g h1.2).1 (noSwap h1.1)) (ok_Y r g ht h2)) fun _ _ _ q => y_expr q
        · cases h1
      | pass =>
        simp only [isS] at h1
        split at h1
        · exact wkSs (pss_cons ps_pass (ok_Y r g ht h2)) fun _ _ _ q => y_pass q
        · cases h1
      | ife c a b =>
        simp only [tryB, Bool.and_eq_true] at ht
        obtain ⟨t1, t2, t3⟩ := ht
        simp only [isS] at h1
        split at h1
        · simp only [Bool.and_eq_true] at h1
          cases r with
          | cons _ _ => cases t3
          | nil =>
            cases sts with
            | cons _ _ => cases h2
            | nil => exact wkSs (pss_cons (ps_if (ok_E c g h1.1).2 (ok_Y a g t1 h1.2.1) (ok_Y b g t2 h1.2.2)) pss_nil) fun _ _ _ q => y_ife q
        · cases h1
      | _ => cases ht
mutual
theorem ok_S : ∀ (m : S) {z : Zc} {X : Cx} {W : WX} {st : Stmt}, GoodX P C n z X W → FunX X → z.sc.kind = .function → PassesOwn (model X.prog X.w) X.A X.env X.xe → isS C z m st = true → PS X st (RS W X.K (Gx P n) m)
  | .asg g' e, z, X, W, st, g, hf, hk, hp, h => by
    simp only [isS] at h
    split at h
    · exact ok_asg g hk h
    · cases h
  | .setI o i e, z, X, W, st, g, hf, hk, hp, h => by
    simp only [isS] at h
    split at h
    · rename_i x y py v pos
      simp only [Bool.and_eq_true] at h
      obtain ⟨h0, h1, h2, h3, h4⟩ := h
      refine wkS (ps_asg (ok_E e g h2).1 (pg_sub (ok_E o g h3).1 (ok_E i g h4).1 (set_all g.un) ?_) swapS_ok swS_none rfl) fun _ _ _ q => s_setI q
      intro w
      cases y <;> first | rfl | (cases h1; done)
    · cases h
  | .setK o ks e, z, X, W, st, g, hf, hk, hp, h => by
    simp only [isS] at h
    split at h
    · rename_i x ys k1 py p2 v pos
      simp only [Bool.and_eq_true] at h
      obtain ⟨h1, h2, h3, h4⟩ := h
      exact wkS (ps_asg (ok_E e g h2).1 (pg_sub (ok_E o g h3).1 (pe_tup (ok_Es ks g h1 h4)) (set_key g.un) (fun _ => rfl)) swapS_ok swS_none rfl) fun _ _ _ q => s_setK q
    · cases h
  | .aug i o e, z, X, W, st, g, hf, hk, hp, h => by
    simp only [isS] at h
    split at h
    · rename_i x px op v pos
      simp only [Bool.and_eq_true, decide_eq_true_eq] at h
      obtain ⟨h1, h2, h3, h4⟩ := h
      obtain ⟨f1, f2⟩ := g.fn x h2
      rcases h3 with ⟨rfl, rfl⟩ | ⟨rfl, rfl⟩
      · exact wkS (ps_aug (i := i) (by rw [g.N]; exact g.nd) (by rw [g.N]; exact h1) (by rw [g.sc]; exact f1) (ok_E e g h4).1 ip_add (by rw [g.sc]; exact f2)) fun _ _ _ q => s_add q
      · exact wkS (ps_aug (i := i) (by rw [g.N]; exact g.nd) (by rw [g.N]; exact h1) (by rw [g.sc]; exact f1) (ok_E e g h4).1 ip_sub (by rw [g.sc]; exact f2)) fun _ _ _ q => s_sub q
    · cases h
  | .expr e, z, X, W, st, g, hf, hk, hp, h => by
    simp only [isS] at h
    split at h
    · simp only [Bool.and_eq_true] at h
      exact wkS (ps_expr (ok_E e g h.2).1 (noSwap h.1)) fun _ _ _ q => s_expr q
    · cases h
  | .ife c a b, z, X, W, st, g, hf, hk, hp, h => by
    simp only [isS] at h
    split at h
    · simp only [Bool.and_eq_true] at h
      exact wkS (ps_if (ok_E c g h.1).2 (ok_Ss a g hf hk hp h.2.1) (ok_Ss b g hf hk hp h.2.2)) fun _ _ _ q => s_ife q
    · cases h
  | .for_ t it b, z, X, W, st, g, hf, hk, hp, h => by
    simp only [isS] at h
    split at h
    · simp only [Bool.and_eq_true] at h
      obtain ⟨h1, h2, h3, h4⟩ := h
      exact wkS (ps_for hp g.calm (ok_It it g h2) (ok_Tg g h1) (ok_Ss b g hf hk hp h4) (noFold h3)) fun _ _ _ q => s_for q
    · cases h
  | .while_ c b, z, X, W, st, g, hf, hk, hp, h => by
    simp only [isS] at h
    split at h
    · simp only [Bool.and_eq_true] at h
      exact wkS (ps_while hp (ok_E c g h.1).2 (ok_Ss b g hf hk hp h.2)) fun _ _ _ q => s_while q
    · cases h
  | .ret e, z, X, W, st, g, hf, hk, hp, h => by
    simp only [isS] at h
    split at h
    · exact wkS (ps_ret (ok_E e g h).1) fun _ _ _ q => s_ret q
    · cases h
  | .retN, z, X, W, st, g, hf, hk, hp, h => by
    simp only [isS] at h
    split at h
    · exact wkS ps_retN fun _ _ _ q => s_retN q
    · cases h
  | .pass, z, X, W, st, g, hf, hk, hp, h => by
    simp only [isS] at h
    split at h
    · exact wkS ps_pass fun _ _ _ q => s_pass q
    · cases h
  | .brk, z, X, W, st, g, hf, hk, hp, h => by
    simp only [isS] at h
    split at h
    · exact wkS ps_break fun _ _ _ q => s_brk q
    · cases h
  | .cnt, z, X, W, st, g, hf, hk, hp, h => by
    simp only [isS] at h
    split at h
    · exact wkS ps_continue fun _ _ _ q => s_cnt q
    · cases h
  | .never, z, X, W, st, g, hf, hk, hp, h => wkS ps_never fun _ _ _ q => s_never q
  | .raise c e, z, X, W, st, g, hf, hk, hp, h => by
    simp only [isS] at h
    split at h
    · rename_i x px v pc pr
      simp only [Bool.and_eq_true, decide_eq_true_eq, List.any_eq_true] at h
      obtain ⟨rfl, h1, h2, ⟨u, hu, rfl⟩, h4, h5⟩ := h
      obtain ⟨k1, k2, k3⟩ := ok_name h2
      obtain ⟨D, hm, hE, hR⟩ := g.ers.cls _ hu
      have A : PA X [v] (RA W X.K (Gx P n) (.cons e .nil)) := wkA (pa_cons (ok_E e g h5).1 pa_nil (star_cons h4)) fun _ _ _ q => by
        obtain ⟨ρ, σ, s, R, L, q3⟩ := ra_cons q
        exact ⟨ρ, σ, s, R, L, q3.mono fun w H1 q4 => ra_nil q4⟩
      have M := pmk_x (k := 0) (p := px) (pos := pc) hE (g.ers.sup fun z => by rw [z] at hu; cases hu) (g.room.mono (by omega)) (g.gl h1) hm A (fun σ H P Q q k => by
        obtain ⟨ρ, σ, s, R, L, q⟩ := q
        exact ⟨ρ, σ, s, R, L, q.mono k⟩) k1 h4
      exact wkS (ps_raise g.calm g.tk M) fun _ _ _ q => s_raise hE.ns q
    · cases h
  | .tryC b c cs i j, z, X, W, st, g, hf, hk, hp, h => by
    simp only [isS] at h
    split at h
    · rename_i body x px n' y py n2 p2 p3 p4 p5
      simp only [Bool.and_eq_true, decide_eq_true_eq, List.any_eq_true, List.all_eq_true] at h
      obtain ⟨rfl, rfl, h1, h2, h3, h4, h5, h6, h7, h8, ⟨u, hu, rfl⟩, h9, h10, h11⟩ := h
      obtain ⟨k1, k2, k3⟩ := ok_name h7
      obtain ⟨l1, l2, l3⟩ := ok_name h8
      obtain ⟨D, hm, hE, hR⟩ := g.ers.cls _ hu
      have hk' : X.env.scope.kind = .function := by rw [g.sc]; exact hk
      refine wkS (ps_try_keep (i := i) (j := j) hf.ex hf.stk hf.fr (by rw [g.N]; exact g.nd) (by rw [g.N]; exact h1) (by rw [g.N]; exact h2) (loc_of g h4) (loc_of g h5) ⟨g.gl h6, k1, .inl hm⟩ l1 l2 (fun l => by rw [swap_ok hk' (.inl rfl)]; rfl)
        (tb := fun W' => RY W' X.K (Gx P n) b) fun W' pn xe tk' hp' => ok_Y b (g.tr tk') h10 h11) fun D' τ H q => ?_
      exact s_try h3 (fun d hd D2 ns => by
        obtain ⟨u2, hu2, rfl⟩ := h9 d hd
        exact (g.ers.kit _ hu2 _ hu D2 D ns hE.ns).2) q
    · cases h
theorem ok_Ss : ∀ (m : Ss) {z : Zc} {X : Cx} {W : WX} {sts : List Stmt}, GoodX P C n z X W → FunX X → z.sc.kind = .function → PassesOwn (model X.prog X.w) X.A X.env X.xe → isSs C z m sts = true → PSs X sts (RSs W X.K (Gx P n) m)
  | .nil, z, X, W, sts, g, hf, hk, hp, h => by
    cases sts with
    | nil => exact wkSs pss_nil fun _ _ _ q => ss_nil q
    | cons _ _ => cases h
  | .cons m r, z, X, W, sts, g, hf, hk, hp, h => by
    cases sts with
    | nil => cases h
    | cons st sts =>
      simp only [isSs, Bool.and_eq_true] at h
      exact wkSs (pss_cons (ok_S m g hf hk hp h.1) (ok_Ss r g hf hk hp h.2)) fun _ _ _ q => ss_cons q
end
end

/-! ### a def -/
/-- what is known of the module, behind the top -/
structure Base (P : Prog) (C : SC) (p : Program) (K : PySem.W.Frag) (mg : Str → Option Value) : Prop where
  bl : ∀ x ∈ blNames, mg x = none
  gcd : C.gcd = true → mg "gcd" = some (.builtin "math.gcd")
  cs : ∀ x ∈ C.cs, ∃ v u w, P.consts.lookup x = some v ∧ mg x = some u ∧ RelV w u ∧ ∀ ρ H, Rep K ρ H v w
  ers : C.ers = [] ∨ Errs K mg p C.ers
/-- the same names for all defs -/
def SC.at (C : SC) (N : List Str) : SC := { C with N := N }
def Calls (P : Prog) (C : SC) (p : Program) (w : World) (K : PySem.W.Frag) (mg : Str → Option Value) (base : Heap) (n : Nat) : Prop :=
  ∀ h ∈ C.shs, ∃ a fd, mg h.name = some (.ref a) ∧ PySem.W.keepIn K (.ref a) = true ∧ FnG p w K mg base (L2.CX p w) (n + 2) a fd h.ps (spR K P n h.name) ∧ KB K fd h.ps h.np h.ks ∧ (P.find h.name).map (·.ps) = some h.ps
theorem startE_rel {K : PySem.W.Frag} {ρ : List Addr} {H : Hp} {d : Def} {as : List Val} {vs : List V} {N : List Str} (r : RepL K ρ H as vs) (hN : N.length = d.n) : RelE K ρ H (startE d as) (L2.start N vs) := by
  have hl := r.length
  refine ⟨by simp [startE, L2.start, hN, hl], fun i v h => ?_⟩
  unfold startE at h
  by_cases hi : i < as.length
  · rw [List.getElem?_append_left (by simpa using hi), List.getElem?_map] at h
    cases e : as[i]? with
    | none => rw [e] at h; cases h
    | some x =>
      rw [e] at h
      cases h
      obtain ⟨w, e1, e2⟩ := r.get e
      refine ⟨w, ?_, e2⟩
      unfold L2.start
      rw [List.getElem?_append_left (by rw [List.length_map, ← hl]; exact hi), List.getElem?_map, e1]
      rfl
  · rw [List.getElem?_append_right (by simpa using hi), List.getElem?_replicate] at h
    split at h <;> cases h
theorem fnG_zero {P : Prog} {p : Program} {w : World} {K : PySem.W.Frag} {mg : Str → Option Value} {base : Heap} {a : Addr} {fd : FuncData} {ps : List Str} {f : Str} : FnG p w K mg base (L2.CX p w) 2 a fd ps (spR K P 0 f) :=
  ⟨fun vs H Q E h => by obtain ⟨_, _, _, _, _, h⟩ := h; exact h.elim, fun A outer s H args us vs Q E _ _ _ _ _ h => by obtain ⟨_, _, _, _, _, h⟩ := h; exact h.elim⟩
theorem ok_def {P : Prog} {C : SC} {p : Program} {w : World} {K : PySem.W.Frag} {mg : Str → Option Value} {base : Heap} {n : Nat} {qual : Str} {st : Stmt} {a : Addr} {fd : FuncData} {N : List Str} {d : Def} (B : Base P C p K mg) (F : Fun K d.name qual st a fd) (S : FnScope N d.ps (defScope st))
    (hf : P.find d.name = some d) (hN : N.length = d.n) (hb : isSs (C.at N) ⟨defScope st, none⟩ d.body (defBody st) = true) (hc : Calls P C p w K mg base n) : FnG p w K mg base (L2.CX p w) (n + 1 + 2) a fd d.ps (spR K P (n + 1) d.name) := by
  have hps : (P.find d.name).map (·.ps) = some d.ps := by rw [hf]; rfl
  refine fun_ok (k := n + 2) F S (fun vs H Q E h => spR_len hps vs H Q E h) fun cdv A outer s H vs Q E hr hg h => ?_
  obtain ⟨ρ, st', as, R, r, h⟩ := h
  have G : GoodX P (C.at N) n ⟨defScope st, none⟩ (cxOf (L2.CX p w) p w K mg base N qual (defScope st) a cdv A outer s H E) (fun c d _ H' => E c d H') := {
    tk := takes_of rfl rfl rfl rfl
    ers := B.ers.elim (fun z => errs_nil z) id
    N := rfl
    sc := rfl
    nd := S.nd
    calm := rfl
    gu := hg
    room := hr
    bl := B.bl
    gcd := B.gcd
    cs := B.cs
    fns := hc
    fn := fun x h => by
      unfold asgB at h
      split at h
      · rename_i e; exact ⟨.inl e, .inr e⟩
      · rename_i e; exact ⟨.inr e, .inl rfl⟩
      · cases h }
  have T := ok_Ss d.body G ⟨rfl, rfl, rfl⟩ S.kind (passes_of rfl) hb
  refine ⟨_, T, ρ, startE d as, st', R, startE_rel r hN, ?_⟩
  simp only [callN, hf] at h
  split at h
  · show Psx (WA fun c d _ H' => E c d H') K (RFl K) ρ H (execs (ctxOf P (callN P n)) d.body (startE d as) st') _
    revert h
    cases execs (ctxOf P (callN P n)) d.body (startE d as) st' with
    | stuck => intro h; exact h
    | exc _ _ _ => intro h; exact fun ρ' H' d C y e r n x q τ => h ρ' H' d C y e r n x q
    | ok f s1 =>
      cases f with
      | rt v =>
        intro h ρ1 H1 w1 e1 R1 r1
        cases w1 with
        | rt u => exact h ρ1 H1 u e1 R1 r1
        | _ => exact r1.elim
      | nx σ =>
        intro h ρ1 H1 w1 e1 R1 r1
        cases w1 with
        | nx u => exact h ρ1 H1 .non e1 R1 rfl
        | _ => exact r1.elim
      | bk σ => intro h; exact h.elim
      | ct σ => intro h; exact h.elim
  · exact h.elim
end Bk
set_option maxHeartbeats 8000000
/-! RunD9: the defs of a module together. -/
namespace Bk
open PySem PySem.Spec PyProof.Rows L2

structure Ent (K : PySem.W.Frag) (mg : Str → Option Value) (x : Str) (st : Stmt) : Prop where
  ex : ∃ a fd, mg x = some (.ref a) ∧ PySem.W.keepIn K (.ref a) = true ∧ Fun K x x st a fd
theorem ent_mk {K : PySem.W.Frag} {h : Heap} {mg : Str → Option Value} {x : Str} {st : Stmt} {f : Addr} {oc : Value} {od an : Option Addr} {osl : Array (Option Value)} {kV doc pm cdv ct : Value} (X : K.In h) (G : h.Ns mainGlobals mg)
    (a : PySem.W.nsIn K mainGlobals x = some (some (.ref f))) (l : K.lookup f = some ⟨oc, od, .func (PySem.W.fnOf x x (defArgs st) (defBody st) (defScope st) .none kV doc pm an cdv ct), osl⟩)
    (c : PySem.W.codeIn K cdv x = true) (k : PySem.W.keepIn K (.ref f) = true) : Ent K mg x st := ⟨f, _, PySem.W.mg_of X G a, k, fun_mk l c k⟩
/-- how a def's call binds -/
def KBs (x : Str) (st : Stmt) (ps : List Str) (np : Nat) (ks : List Str) : Prop := ∀ (kV doc pm : Value) (an : Option Addr) (cdv ct : Value) (us ws : List Value), us.length = np → ws.length = ks.length →
  bindArgs (PySem.W.fnOf x x (defArgs st) (defBody st) (defScope st) .none kV doc pm an cdv ct) ⟨us, ks.zip ws⟩ = pure (ps.zip (ordK (ixK ps np ks) (us ++ ws)))
theorem kb_of {K : PySem.W.Frag} {x : Str} {st : Stmt} {a : Addr} {fd : FuncData} {ps ks : List Str} {np : Nat} (F : Fun K x x st a fd) (h : KBs x st ps np ks) : KB K fd ps np ks := by
  obtain ⟨oc, od, kV, doc, pm, an, cdv, ct, osl, rfl, lk, hcd⟩ := F.ex
  exact ⟨fun s us ws _ h1 h2 => .of_eq (h kV doc pm an cdv ct us ws h1 h2)⟩
def Has (P : Prog) (p : Program) (w : World) (K : PySem.W.Frag) (mg : Str → Option Value) (base : Heap) (n : Nat) (h : Sh) : Prop :=
  ∃ a fd, mg h.name = some (.ref a) ∧ PySem.W.keepIn K (.ref a) = true ∧ FnG p w K mg base (L2.CX p w) (n + 2) a fd h.ps (spR K P n h.name) ∧ KB K fd h.ps h.np h.ks ∧ (P.find h.name).map (·.ps) = some h.ps
def HasL (P : Prog) (p : Program) (w : World) (K : PySem.W.Frag) (mg : Str → Option Value) (base : Heap) (n : Nat) : List Sh → Prop
  | [] => True
  | h :: r => Has P p w K mg base n h ∧ HasL P p w K mg base n r
section
variable {P : Prog} {C : SC} {p : Program} {w : World} {K : PySem.W.Frag} {mg : Str → Option Value} {base : Heap} {n : Nat}
theorem hasL_mem : ∀ {l : List Sh}, HasL P p w K mg base n l → ∀ h ∈ l, Has P p w K mg base n h
  | [], _, _, hm => by cases hm
  | a :: r, hl, h, hm => by
    rcases List.mem_cons.mp hm with rfl | hm
    · exact hl.1
    · exact hasL_mem hl.2 h hm
/-- one def: at each level -/
theorem has_mk {d : Def} {st : Stmt} {N ks : List Str} {np : Nat} (B : Base P C p K mg) (e : Ent K mg d.name st) (hk : KBs d.name st d.ps np ks) (S : FnScope N d.ps (defScope st)) (hf : P.find d.name = some d) (hN : N.length = d.n) (hb : isSs (C.at N) ⟨defScope st, none⟩ d.body (defBody st) = true)
    (ih : ∀ m, n = m + 1 → HasL P p w K mg base m C.shs) : Has P p w K mg base n ⟨d.name, d.ps, np, ks⟩ := by
  obtain ⟨a, fd, h1, h2, F⟩ := e.ex
  refine ⟨a, fd, h1, h2, ?_, kb_of F hk, by rw [hf]; rfl⟩
  cases n with
  | zero => exact fnG_zero
  | succ m => exact ok_def B F S hf hN hb (hasL_mem (ih m rfl))
theorem hasL_all (h : ∀ n, (∀ m, n = m + 1 → HasL P p w K mg base m C.shs) → HasL P p w K mg base n C.shs) : ∀ n, HasL P p w K mg base n C.shs
  | 0 => h 0 fun m e => by cases e
  | n + 1 => h (n + 1) fun m e => by cases e; exact hasL_all h n
end

/-- the goal that the head leaves, from the law's value by the runner -/
theorem walk_run {l : PySem.W.OpenLaw} {n k : Nat} {q : Program} {loose : List Str} {XP : (Str → Option Value) → Heap → Prop} {YP : World → Heap → Prop} {d : DefRec} {K : Params → PySem.W.Frag} {P : Prog} {C : SC} {dl : Def} {stl : Stmt} {N : List Str}
    (hn : l.most = some n) (hn2 : n ≤ sizeLine) (hdf : d.params.defaults = []) (hr : Room (k + 3) callerA) (hd : d.name = "law")
    (hY : ∀ (w : World) (h : Heap), YP w h → (K w.params).In h)
    (hln : dl.name = "law") (hlp : dl.ps = [("script" : Str)]) (hlb : ∀ (kV doc pm : Value) (an : Option Addr) (cdv ct u : Value), bindArgs (PySem.W.fnOf "law" "law" (defArgs stl) (defBody stl) (defScope stl) .none kV doc pm an cdv ct) ⟨[u], []⟩ = pure [(("script" : Str), u)])
    (S : FnScope N dl.ps (defScope stl)) (hf : P.find dl.name = some dl) (hN : N.length = dl.n) (hb : isSs (C.at N) ⟨defScope stl, none⟩ dl.body (defBody stl) = true)
    (F : ∀ (w : World) (mg : Str → Option Value) (h : Heap), (K w.params).In h → h.Ns mainGlobals mg → Base P C l.prog (K w.params) mg ∧ Ent (K w.params) mg "law" stl ∧ ∀ base : Heap, HasL P l.prog w (K w.params) mg base k C.shs)
    (hlaw : ∀ ns : List Int, ns.length ≤ n → (∀ z ∈ ns, Builtin.Int.intBits z ≤ 1048576) → ∃ s, callN P (k + 1) "law" [.rol (ns.map .int)] [] = .ok (.bl true) s) :
    PySem.W.WalkO q loose XP YP l.row.toRowW d [] (fun f vs => PySem.call f vs) := by
  refine walk_ofG (n := n) (k := k + 3) (x := "script") (sp := fun w => spR (K w.params) P (k + 1) "law") hn hn2 hdf hr hY (fun w mg fa h KX G hmg => ?_) fun w H a ns hl hb hO hS => ?_
  · obtain ⟨B, ⟨a, fd, h1, h2, F1⟩, HL⟩ := F w mg h KX G
    have ha : a = fa := by
      rw [hd] at hmg
      have := h1.symm.trans hmg
      cases this; rfl
    subst ha
    refine ⟨fd, fun s u => ?_, fun base _ _ => ?_⟩
    · obtain ⟨oc, od, kV, doc, pm, an, cdv, ct, osl, rfl, lk, hcd⟩ := F1.ex
      exact .of_eq (hlb kV doc pm an cdv ct u)
    · have F2 : Fun (K w.params) dl.name "law" stl a fd := by rw [hln]; exact F1
      have := ok_def B F2 S hf hN hb (hasL_mem (HL base))
      rw [hln, hlp] at this
      exact this
  · obtain ⟨s, e⟩ := hlaw ns hl hb
    refine ⟨[], [], [.rol (ns.map .int)], ⟨rfl, fun n a o h _ => (by cases h), fun n m a h _ => (by cases h)⟩, ⟨_, _, rfl, ⟨a, _, rfl, rol_of hO hS, RepL.of_ints ns⟩, rfl⟩, ?_⟩
    rw [e]
    intro ρ' H' v _ _ r
    exact r
end Bk
set_option maxHeartbeats 8000000
/-! RunE1: reckoning with the evaluator. -/
namespace Bk
open PySem (Str)

@[simp] theorem ctxOf_call (P : Prog) (cl : Str → List Val → Sto → Out Val) : (ctxOf P cl).call = cl := rfl
@[simp] theorem ctxOf_const (P : Prog) (cl : Str → List Val → Sto → Out Val) (x : Str) : (ctxOf P cl).const x = P.consts.lookup x := rfl
@[simp] theorem ctxOf_params (P : Prog) (cl : Str → List Val → Sto → Out Val) (x : Str) : (ctxOf P cl).params x = (P.find x).map (·.ps) := rfl
theorem callN_def {P : Prog} {f : Str} {d : Def} (h : P.find f = some d) (k : Nat) (vs : List Val) (s : Sto) : callN P (k + 1) f vs s = if vs.length = d.ps.length then finish (execs (ctxOf P (callN P k)) d.body (startE d vs) s) else .stuck := by
  rw [callN, h]

theorem forLoop_inv {bd : Val → Env → Sto → Out Fl} {gd : Gd} {xs : List Val} (I : Nat → Env → Sto → Prop) {σ : Env} {s : Sto} (h0 : I 0 σ s) (hg : ∀ i σ s, i ≤ xs.length → I i σ s → gd.holds s)
    (hs : ∀ i (hi : i < xs.length) σ s, I i σ s → ∃ σ' s', (bd xs[i] σ s = .ok (.nx σ') s' ∨ bd xs[i] σ s = .ok (.ct σ') s') ∧ I (i + 1) σ' s') : ∃ σ' s', forLoop bd gd xs σ s = .ok (.nx σ') s' ∧ I xs.length σ' s' := by
  have key : ∀ n i σ s, n + i = xs.length → I i σ s → ∃ σ' s', forLoop bd gd (xs.drop i) σ s = .ok (.nx σ') s' ∧ I xs.length σ' s' := fun n => by
    induction n with
    | zero =>
      intro i σ s e h
      have hi : i = xs.length := by omega
      subst hi
      rw [List.drop_length, forLoop, if_pos (hg _ σ s (Nat.le_refl _) h)]
      exact ⟨σ, s, rfl, h⟩
    | succ n ih =>
      intro i σ s e h
      have hi : i < xs.length := by omega
      rw [List.drop_eq_getElem_cons hi, forLoop, if_pos (hg _ σ s (Nat.le_of_lt hi) h)]
      obtain ⟨σ', s', h1, h2⟩ := hs i hi σ s h
      obtain ⟨σ2, s2, h3, h4⟩ := ih (i + 1) σ' s' (by omega) h2
      rcases h1 with h1 | h1
      · rw [h1]; exact ⟨σ2, s2, h3, h4⟩
      · rw [h1]; exact ⟨σ2, s2, h3, h4⟩
  exact key xs.length 0 σ s rfl h0
theorem lcLoop_inv {bd : Val → Sto → Out (Option Val)} {gd : Gd} {xs : List Val} (I : Nat → List Val → Sto → Prop) {s : Sto} (h0 : I 0 [] s) (hg : ∀ i ys s, i ≤ xs.length → I i ys s → gd.holds s) (hl : xs.length ≤ PySem.sizeLine)
    (hs : ∀ i (hi : i < xs.length) ys s, I i ys s → ∃ y s', bd xs[i] s = .ok (some y) s' ∧ I (i + 1) (ys ++ [y]) s') : ∃ ys s', lcLoop bd gd xs [] s = .ok ys s' ∧ ys.length = xs.length ∧ I xs.length ys s' := by
  have key : ∀ n i ys s, n + i = xs.length → ys.length = i → I i ys s → ∃ zs s', lcLoop bd gd (xs.drop i) ys s = .ok zs s' ∧ zs.length = xs.length ∧ I xs.length zs s' := fun n => by
    induction n with
    | zero =>
      intro i ys s e e2 h
      have hi : i = xs.length := by omega
      subst hi
      rw [List.drop_length, lcLoop, if_pos (hg _ ys s (Nat.le_refl _) h)]
      exact ⟨ys, s, rfl, e2, h⟩
    | succ n ih =>
      intro i ys s e e2 h
      have hi : i < xs.length := by omega
      rw [List.drop_eq_getElem_cons hi, lcLoop, if_pos (hg _ ys s (Nat.le_of_lt hi) h)]
      obtain ⟨y, s', h1, h2⟩ := hs i hi ys s h
      rw [h1]
      simp only [Out.nox_ok, Out.bind_ok]
      rw [if_pos (by omega)]
      exact ih (i + 1) (ys ++ [y]) s' (by omega) (by simp [e2]) h2
  exact key xs.length 0 [] s rfl rfl h0
/-- a comprehension whose items change nothing -/
theorem lcLoop_pure {bd : Val → Sto → Out (Option Val)} {gd : Gd} {xs : List Val} {s : Sto} (f : Val → Val) (hg : gd.holds s) (hl : xs.length ≤ PySem.sizeLine) (hs : ∀ x ∈ xs, bd x s = .ok (some (f x)) s) : lcLoop bd gd xs [] s = .ok (xs.map f) s := by
  obtain ⟨ys, s', h1, h2, h3, h4⟩ := lcLoop_inv (bd := bd) (gd := gd) (xs := xs) (fun i ys s' => s' = s ∧ ys = (xs.take i).map f) (s := s) ⟨rfl, by simp⟩ (fun i ys s' _ h => by rw [h.1]; exact hg) hl (fun i hi ys s' h => by
    obtain ⟨rfl, rfl⟩ := h
    refine ⟨f xs[i], _, hs _ (List.getElem_mem hi), rfl, ?_⟩
    rw [List.take_add_one, List.getElem?_eq_getElem hi, List.map_append]
    rfl)
  rw [h1, h3, h4, List.take_length]
theorem whileN_mono {c : Env → Sto → Out Bool} {bd : Env → Sto → Out Fl} : ∀ {n : Nat} {σ : Env} {s : Sto}, whileN c bd n σ s ≠ .stuck → ∀ m, n ≤ m → whileN c bd m σ s = whileN c bd n σ s
  | 0, _, _, h, _, _ => absurd rfl h
  | n + 1, σ, s, h, m, hm => by
    obtain ⟨m, rfl⟩ : ∃ k, m = k + 1 := ⟨m - 1, by omega⟩
    simp only [whileN] at h ⊢
    cases e : c σ s with
    | stuck => rfl
    | exc _ _ _ => rfl
    | ok k s1 =>
      rw [e] at h
      simp only [Out.bind_ok] at h ⊢
      cases k with
      | false => rfl
      | true =>
        simp only at h ⊢
        cases e2 : bd σ s1 with
        | stuck => rfl
        | exc _ _ _ => rfl
        | ok f s2 =>
          rw [e2] at h
          simp only [Out.bind_ok] at h ⊢
          cases f with
          | nx σ' => exact whileN_mono h m (by omega)
          | ct σ' => exact whileN_mono h m (by omega)
          | bk σ' => rfl
          | rt v => rfl
theorem whileL_of {c : Env → Sto → Out Bool} {bd : Env → Sto → Out Fl} {n : Nat} {σ : Env} {s : Sto} (h : whileN c bd n σ s ≠ .stuck) : whileL c bd σ s = whileN c bd n σ s := by
  unfold whileL
  have hx : ∃ n, whileN c bd n σ s ≠ .stuck := ⟨n, h⟩
  rw [dif_pos hx]
  have h2 := Classical.choose_spec hx
  rcases Nat.le_total n (Classical.choose hx) with hl | hl
  · exact whileN_mono h _ hl
  · exact (whileN_mono h2 _ hl).symm
end Bk
namespace Bk
theorem listAt_push (s : Sto) (xs : List Val) : listAt (s ++ [.lst xs]) s.length = some xs := by simp [listAt]
theorem boolsO_map (bs : List Bool) : boolsO (bs.map .bl) = some bs := by
  induction bs with
  | nil => rfl
  | cons b bs ih => simp [boolsO, ih]
theorem intsO_map (bs : List Int) : intsO (bs.map .int) = some bs := by
  induction bs with
  | nil => rfl
  | cons b bs ih => simp [intsO, ih]
end Bk
namespace Bk
@[simp] theorem truth_bl (s : Sto) (b : Bool) : truth s (.bl b) = some b := rfl
@[simp] theorem truth_non (s : Sto) : truth s .non = some false := rfl
@[simp] theorem truth_int (s : Sto) (i : Int) : truth s (.int i) = some (i != 0) := rfl
@[simp] theorem truth_tup (s : Sto) (xs : List Val) : truth s (.tup xs) = some (!xs.isEmpty) := rfl
@[simp] theorem holds_none (s : Sto) : Gd.holds s .none := trivial
@[simp] theorem holds_ro (s : Sto) : Gd.holds s .ro := trivial
end Bk
set_option maxHeartbeats 8000000
/-! RunE2: the built-ins, by cases. -/
namespace Bk
open PySem (Str)
section
variable {s : Sto} {n : Nat} {xs : List Val} {v : Val}
@[simp] theorem seqL_rol : seqL s (.rol xs) = some xs := rfl
@[simp] theorem seqL_loc : seqL s (.loc n) = listAt s n := rfl
@[simp] theorem seqO_tup : seqO s (.tup xs) = some xs := rfl
@[simp] theorem seqO_rol : seqO s (.rol xs) = some xs := rfl
@[simp] theorem seqO_loc : seqO s (.loc n) = listAt s n := rfl
@[simp] theorem seqG_tup' : seqG s (.tup xs) = some (xs, .none) := rfl
@[simp] theorem seqG_rol : seqG s (.rol xs) = some (xs, .ro) := rfl
theorem seqG_loc (h : listAt s n = some xs) : seqG s (.loc n) = some (xs, .lst n xs) := by simp [seqG, h]
@[simp] theorem listAt_end : listAt (s ++ [.lst xs]) s.length = some xs := by simp [listAt]
theorem listAt_of (h : s[n]? = some (.lst xs)) : listAt s n = some xs := by simp [listAt, h]
theorem listAt_some (h : listAt s n = some xs) : s[n]? = some (.lst xs) := by
  unfold listAt at h
  split at h
  · rename_i q; cases h; exact q
  · cases h
@[simp] theorem prim_len_tup : primV .len [.tup xs] s = .ok (.int xs.length) s := rfl
@[simp] theorem prim_len_rol : primV .len [.rol xs] s = .ok (.int xs.length) s := rfl
theorem prim_len_loc (h : listAt s n = some xs) : primV .len [.loc n] s = .ok (.int xs.length) s := by simp [primV, listAt_some h]
@[simp] theorem prim_int_int {i : Int} : primV .int [.int i] s = .ok (.int i) s := rfl
@[simp] theorem prim_int_bl {b : Bool} : primV .int [.bl b] s = .ok (.int (if b then 1 else 0)) s := rfl
@[simp] theorem prim_abs {i : Int} : primV .abs [.int i] s = .ok (.int (if i < 0 then -i else i)) s := rfl
@[simp] theorem prim_max2 {i j : Int} : primV .max [.int i, .int j] s = .ok (.int (if j > i then j else i)) s := rfl
@[simp] theorem prim_min2 {i j : Int} : primV .min [.int i, .int j] s = .ok (.int (if j < i then j else i)) s := rfl
theorem prim_max1 {i : Int} {r : List Int} (h : (seqL s v).bind intsO = some (i :: r)) : primV .max [v] s = .ok (.int (maxL i r)) s := by
  simp [primV, h]
theorem prim_min1 {i : Int} {r : List Int} (h : (seqL s v).bind intsO = some (i :: r)) : primV .min [v] s = .ok (.int (minL i r)) s := by
  simp [primV, h]
@[simp] theorem prim_gcd {i j : Int} : primV .gcd [.int i, .int j] s = .ok (.int (Nat.gcd i.natAbs j.natAbs : Nat)) s := rfl
theorem prim_tuple (h : seqO s v = some xs) : primV .tuple [v] s = .ok (.tup xs) s := by simp [primV, h]
theorem prim_list (h : seqO s v = some xs) : primV .list [v] s = .ok (.loc s.length) (s ++ [.lst xs]) := by simp [primV, h, pushO]
theorem prim_sum {ns : List Int} (h : (seqL s v).bind intsO = some ns) : primV .sum [v] s = .ok (.int ns.sum) s := by simp [primV, h]
theorem prim_all {bs : List Bool} (h : (seqL s v).bind boolsO = some bs) : primV .all [v] s = .ok (.bl (bs.all id)) s := by simp [primV, h]
theorem prim_any_tup {ns : List Int} (h : intsO xs = some ns) : primV .any [.tup xs] s = .ok (.bl (ns.any (· != 0))) s := by simp [primV, h]
theorem prim_any_loc {bs : List Bool} (h : (listAt s n).bind boolsO = some bs) : primV .any [.loc n] s = .ok (.bl (bs.any id)) s := by
  have : (seqL s (.loc n)).bind boolsO = some bs := h
  simp [primV, seqL, h]
theorem prim_repr {d : PySem.PyData} (h : dataOf s v = some d) (h1 : d.showable = true) (h2 : d.shown.length ≤ PySem.sizeLine) (h3 : d.depth ≤ 100) : primV .repr [v] s = .ok (.str d.shown) s := by simp [primV, h, h1, h2, h3]
theorem prim_isinst {ts : List String} {t : String} (h : typeName s v = some t) : primV (.isinst ts) [v] s = .ok (.bl (ts.any (isaB t))) s := by simp [primV, h]
@[simp] theorem tn_tup : typeName s (.tup xs) = some "tuple" := rfl
@[simp] theorem tn_rol : typeName s (.rol xs) = some "list" := rfl
@[simp] theorem tn_int {i : Int} : typeName s (.int i) = some "int" := rfl
@[simp] theorem tn_bl {i : Bool} : typeName s (.bl i) = some "bool" := rfl
@[simp] theorem tn_non : typeName s .non = some "NoneType" := rfl
theorem tn_loc (h : listAt s n = some xs) : typeName s (.loc n) = some "list" := by simp [typeName, listAt_some h]
@[simp] theorem isa_ii : isaB "int" "int" = true := by decide
@[simp] theorem isa_tt : isaB "tuple" "tuple" = true := by decide
@[simp] theorem isa_ib : isaB "int" "bool" = false := by decide
@[simp] theorem isa_it : isaB "int" "tuple" = false := by decide
@[simp] theorem isa_il : isaB "int" "list" = false := by decide
@[simp] theorem isa_tl : isaB "tuple" "list" = false := by decide
@[simp] theorem isa_ti : isaB "tuple" "int" = false := by decide
@[simp] theorem isa_bi : isaB "bool" "int" = true := by decide
@[simp] theorem isa_bb : isaB "bool" "bool" = true := by decide
@[simp] theorem bin_add {i j : Int} : binV .add (.int i) (.int j) s = .ok (.int (i + j)) s := rfl
@[simp] theorem bin_sub {i j : Int} : binV .sub (.int i) (.int j) s = .ok (.int (i - j)) s := rfl
theorem bin_mul {i j : Int} (h : MulOk i j) : binV .mul (.int i) (.int j) s = .ok (.int (i * j)) s := by simp [binV, h]
theorem bin_mod {i j : Int} (h : 0 < j) : binV .mod (.int i) (.int j) s = .ok (.int (i % j)) s := by simp [binV, h]
theorem bin_fdiv {i j : Int} (h : DivOk j) : binV .fdiv (.int i) (.int j) s = .ok (.int (i / j)) s := by simp [binV, h]
theorem bin_pow {i j : Int} (h : PowOk i j) : binV .pow (.int i) (.int j) s = .ok (.int (i ^ j.toNat)) s := by simp [binV, h]
theorem bin_cat {xs ys : List Val} (h : xs.length + ys.length ≤ PySem.sizeLine) : binV .add (.tup xs) (.tup ys) s = .ok (.tup (xs ++ ys)) s := by simp [binV, h]
@[simp] theorem cmp_lt {i j : Int} : cmpV .lt (.int i) (.int j) s = .ok (.bl (decide (i < j))) s := rfl
@[simp] theorem cmp_le {i j : Int} : cmpV .le (.int i) (.int j) s = .ok (.bl (decide (i ≤ j))) s := rfl
@[simp] theorem cmp_gt {i j : Int} : cmpV .gt (.int i) (.int j) s = .ok (.bl (decide (j < i))) s := rfl
@[simp] theorem cmp_ge {i j : Int} : cmpV .ge (.int i) (.int j) s = .ok (.bl (decide (j ≤ i))) s := rfl
@[simp] theorem cmpO_lt {i j : Int} : cmpO s .lt (.int i) (.int j) = some (decide (i < j)) := rfl
@[simp] theorem cmpO_le {i j : Int} : cmpO s .le (.int i) (.int j) = some (decide (i ≤ j)) := rfl
@[simp] theorem cmpO_gt {i j : Int} : cmpO s .gt (.int i) (.int j) = some (decide (j < i)) := rfl
@[simp] theorem cmpO_ge {i j : Int} : cmpO s .ge (.int i) (.int j) = some (decide (j ≤ i)) := rfl
@[simp] theorem cmpO_isnot_int {i : Int} : cmpO s .isnot (.int i) .non = some true := rfl
@[simp] theorem cmpO_is_bl {a b : Bool} : cmpO s .is (.bl a) (.bl b) = some (decide (a = b)) := rfl
@[simp] theorem cmpO_isnot_bl {a b : Bool} : cmpO s .isnot (.bl a) (.bl b) = some (!decide (a = b)) := rfl
@[simp] theorem cmpO_isnot_non : cmpO s .isnot .non .non = some false := rfl
@[simp] theorem cmpO_is_int {i : Int} : cmpO s .is (.int i) .non = some false := rfl
@[simp] theorem cmpO_is_non : cmpO s .is .non .non = some true := rfl
@[simp] theorem cmpO_is_tup : cmpO s .is (.tup xs) .non = some false := rfl
theorem cmpO_eq {x y : Val} : cmpO s .eq x y = eqO s x y := by cases x <;> cases y <;> rfl
theorem cmpO_ne {x y : Val} : cmpO s .ne x y = (eqO s x y).map (!·) := by cases x <;> cases y <;> rfl
theorem cmpV_eq {x y : Val} {b : Bool} (h : eqO s x y = some b) : cmpV .eq x y s = .ok (.bl b) s := by simp [cmpV, cmpO_eq, h]
theorem cmpV_ne {x y : Val} {b : Bool} (h : eqO s x y = some b) : cmpV .ne x y s = .ok (.bl (!b)) s := by simp [cmpV, cmpO_ne, h]
@[simp] theorem eqO_int {i j : Int} : eqO s (.int i) (.int j) = some (decide (i = j)) := by
  have h : ∀ k : Int, PySem.SeqAt.shaped (.int k) = true := fun k => by
    have h1 : (PySem.PyData.int k).canLay0 = true := rfl
    have h2 : (PySem.PyData.int k).depth ≤ 64 := by show 0 ≤ 64 <;> omega
    simp [PySem.SeqAt.shaped, h1, h2]
  have e : PySem.PyData.eqv (.int i) (.int j) = (i == j) := rfl
  simp only [eqO, dataOf, dataW, h, e, and_self, if_true]
  rfl
theorem item_tup {i : Int} {x : Val} (h : L2.atI xs i = some x) : itemV (.tup xs) (.int i) s = .ok x s := by simp [itemV, h]
theorem item_rol {i : Int} {x : Val} (h : L2.atI xs i = some x) : itemV (.rol xs) (.int i) s = .ok x s := by simp [itemV, h]
theorem item_loc {i : Int} {x : Val} (h0 : listAt s n = some xs) (h : L2.atI xs i = some x) : itemV (.loc n) (.int i) s = .ok x s := by simp [itemV, listAt_some h0, h]
theorem atI_nat {α : Type} {xs : List α} {k : Nat} {x : α} (h : xs[k]? = some x) : L2.atI xs (k : Int) = some x := by
  have hk := (List.getElem?_eq_some_iff.mp h).1
  unfold L2.atI L2.ixN
  rw [if_pos (by omega), if_pos (by omega)]
  simpa using h
theorem meth_append {v : Val} (h : listAt s n = some xs) (hl : xs.length < PySem.sizeLine) : methV .append (.loc n) [v] s = .ok .non (s.set n (.lst (xs ++ [v]))) := by simp [methV, listAt_some h, hl]
theorem recv_append (h : listAt s n = some xs) : recvOk .append s (.loc n) = true := by simp [recvOk, listAt_some h]
theorem set_loc {k : Int} {j : Nat} {v : Val} (h : listAt s n = some xs) (hk : L2.ixN xs.length k = some j) : setV (.loc n) (.int k) v s = .ok () (s.set n (.lst (xs.set j v))) := by simp [setV, listAt_some h, hk]
end
end Bk
namespace Bk
/-- a comprehension whose items only add to the store -/
theorem lcLoop_grow {bd : Val → Sto → Out (Option Val)} {gd : Gd} {xs : List Val} {s : Sto} (f : Val → Val) (hg : ∀ t, gd.holds (s ++ t)) (hl : xs.length ≤ PySem.sizeLine) (hs : ∀ x ∈ xs, ∀ t, ∃ u, bd x (s ++ t) = .ok (some (f x)) ((s ++ t) ++ u)) : ∃ t, lcLoop bd gd xs [] s = .ok (xs.map f) (s ++ t) := by
  obtain ⟨ys, s', h1, h2, ⟨t, h3⟩, h4⟩ := lcLoop_inv (bd := bd) (gd := gd) (xs := xs) (fun i ys s' => (∃ t, s' = s ++ t) ∧ ys = (xs.take i).map f) (s := s) ⟨⟨[], by simp⟩, by simp⟩ (fun i ys s' _ h => by obtain ⟨t, e⟩ := h.1; rw [e]; exact hg t) hl (fun i hi ys s' h => by
    obtain ⟨⟨t, rfl⟩, rfl⟩ := h
    obtain ⟨u, hu⟩ := hs _ (List.getElem_mem hi) t
    refine ⟨f xs[i], _, hu, ⟨t ++ u, by rw [List.append_assoc]⟩, ?_⟩
    rw [List.take_add_one, List.getElem?_eq_getElem hi, List.map_append]
    rfl)
  refine ⟨t, ?_⟩
  rw [h1, h3, h4, List.take_length]
end Bk
namespace Bk
section
variable {s : Sto} {n : Nat} {xs : List Val}
@[simp] theorem atI_cast {α : Type} (xs : List α) (k : Nat) : L2.atI xs (k : Int) = xs[k]? := by
  unfold L2.atI L2.ixN
  by_cases h : k < xs.length
  · rw [if_pos (by omega), if_pos (by omega)]; simp
  · rw [if_pos (by omega), if_neg (by omega), List.getElem?_eq_none (by omega)]; rfl
@[simp] theorem atI_0 {α : Type} (xs : List α) : L2.atI xs 0 = xs[0]? := atI_cast xs 0
@[simp] theorem atI_1 {α : Type} (xs : List α) : L2.atI xs 1 = xs[1]? := atI_cast xs 1
@[simp] theorem atI_2 {α : Type} (xs : List α) : L2.atI xs 2 = xs[2]? := atI_cast xs 2
@[simp] theorem atI_3 {α : Type} (xs : List α) : L2.atI xs 3 = xs[3]? := atI_cast xs 3
@[simp] theorem atI_last {α : Type} (xs : List α) : L2.atI xs (-1) = xs.getLast? := by
  unfold L2.atI L2.ixN
  cases xs with
  | nil => simp
  | cons a r =>
    rw [if_neg (by decide), if_pos (by simp only [List.length_cons]; omega)]
    rw [List.getLast?_eq_getElem?]
    simp only [Option.bind_some]
    congr 1
    simp only [List.length_cons]
    omega
@[simp] theorem item_tup' {i : Int} : itemV (.tup xs) (.int i) s = (L2.atI xs i).elim .stuck fun x => .ok x s := by
  simp only [itemV]; cases L2.atI xs i <;> rfl
@[simp] theorem item_rol' {i : Int} : itemV (.rol xs) (.int i) s = (L2.atI xs i).elim .stuck fun x => .ok x s := by
  simp only [itemV]; cases L2.atI xs i <;> rfl
theorem item_loc' {i : Int} (h : listAt s n = some xs) : itemV (.loc n) (.int i) s = (L2.atI xs i).elim .stuck fun x => .ok x s := by
  simp only [itemV, listAt_some h]; cases L2.atI xs i <;> rfl
end
end Bk
set_option maxHeartbeats 8000000
/-! RunE3: what is wanted behind a term. -/
namespace Bk
open PySem (Str)
def Out.wp {α : Type} (o : Out α) (Q : α → Sto → Prop) : Prop := match o with
  | .ok a s => Q a s
  | _ => False
section
variable {α β : Type} {Q Q' : α → Sto → Prop} {s : Sto}
@[simp] theorem wp_ok (a : α) (s : Sto) (Q : α → Sto → Prop) : (Out.ok a s).wp Q = Q a s := rfl
@[simp] theorem wp_stuck (Q : α → Sto → Prop) : (Out.stuck : Out α).wp Q = False := rfl
@[simp] theorem wp_exc (c : Str) (v : Val) (s : Sto) (Q : α → Sto → Prop) : (Out.exc c v s : Out α).wp Q = False := rfl
@[simp] theorem wp_bind (o : Out α) (f : α → Sto → Out β) (Q : β → Sto → Prop) : (o.bind f).wp Q = o.wp fun a s => (f a s).wp Q := by cases o <;> rfl
@[simp] theorem wp_nox (o : Out α) (Q : α → Sto → Prop) : o.nox.wp Q = o.wp Q := by cases o <;> rfl
theorem wp_mono {o : Out α} (h : o.wp Q) (k : ∀ a s, Q a s → Q' a s) : o.wp Q' := by
  cases o with
  | ok a s => exact k a s h
  | _ => exact h
theorem wp_of {o : Out α} {a : α} {s : Sto} (e : o = .ok a s) (h : Q a s) : o.wp Q := by rw [e]; exact h
theorem wp_get {o : Out α} (h : o.wp Q) : ∃ a s, o = .ok a s ∧ Q a s := by
  cases o with
  | ok a s => exact ⟨a, s, rfl, h⟩
  | _ => exact h.elim
@[simp] theorem wp_opt (o : Option α) (s : Sto) (Q : α → Sto → Prop) : (Out.opt o s).wp Q = o.elim False fun a => Q a s := by cases o <;> rfl
@[simp] theorem wp_elim {γ : Type} (o : Option γ) (f : γ → Out α) (Q : α → Sto → Prop) : (o.elim .stuck f : Out α).wp Q = o.elim False fun a => (f a).wp Q := by cases o <;> rfl
@[simp] theorem wp_finish (o : Out Fl) (Q : Val → Sto → Prop) : (finish o).wp Q = o.wp fun f s => match f with
    | .rt v => Q v s
    | .nx _ => Q .non s
    | _ => False := by
  cases o with
  | ok f s => cases f <;> rfl
  | _ => rfl
theorem wp_ite {c : Prop} [Decidable c] {a b : Out α} (h1 : c → a.wp Q) (h2 : ¬ c → b.wp Q) : (if c then a else b).wp Q := by
  split
  · exact h1 (by assumption)
  · exact h2 (by assumption)
theorem wp_if {c : Prop} [Decidable c] {a b : Out α} (hc : c) (h : a.wp Q) : (if c then a else b).wp Q := by rw [if_pos hc]; exact h
end
section
variable {bd : Val → Env → Sto → Out Fl} {gd : Gd} {xs : List Val} {σ : Env} {s : Sto} {Q : Fl → Sto → Prop}
/-- a loop, by a word of the turn -/
theorem wp_for (I : Nat → Env → Sto → Prop) (h0 : I 0 σ s) (hg : ∀ i σ s, i ≤ xs.length → I i σ s → gd.holds s)
    (hs : ∀ i (hi : i < xs.length) σ s, I i σ s → (bd xs[i] σ s).wp fun f s' => match f with
      | .nx σ' => I (i + 1) σ' s'
      | .ct σ' => I (i + 1) σ' s'
      | .bk σ' => Q (.nx σ') s'
      | .rt v => Q (.rt v) s') (hQ : ∀ σ s, I xs.length σ s → Q (.nx σ) s) : (forLoop bd gd xs σ s).wp Q := by
  have key : ∀ n i σ s, n + i = xs.length → I i σ s → (forLoop bd gd (xs.drop i) σ s).wp Q := fun n => by
    induction n with
    | zero =>
      intro i σ s e h
      have hi : i = xs.length := by omega
      subst hi
      rw [List.drop_length, forLoop, if_pos (hg _ σ s (Nat.le_refl _) h)]
      exact hQ σ s h
    | succ n ih =>
      intro i σ s e h
      have hi : i < xs.length := by omega
      rw [List.drop_eq_getElem_cons hi, forLoop, if_pos (hg _ σ s (Nat.le_of_lt hi) h), wp_bind]
      refine wp_mono (hs i hi σ s h) fun f s' q => ?_
      cases f with
      | nx σ' => exact ih (i + 1) σ' s' (by omega) q
      | ct σ' => exact ih (i + 1) σ' s' (by omega) q
      | bk σ' => exact q
      | rt v => exact q
  exact key xs.length 0 σ s rfl h0
theorem wp_lc {bd : Val → Sto → Out (Option Val)} {Q : List Val → Sto → Prop} (I : Nat → List Val → Sto → Prop) (h0 : I 0 [] s) (hg : ∀ i ys s, i ≤ xs.length → I i ys s → gd.holds s) (hl : xs.length ≤ PySem.sizeLine)
    (hs : ∀ i (hi : i < xs.length) ys s, I i ys s → (bd xs[i] s).wp fun r s' => match r with
      | some y => I (i + 1) (ys ++ [y]) s'
      | none => I (i + 1) ys s') (hQ : ∀ ys s, I xs.length ys s → Q ys s) : (lcLoop bd gd xs [] s).wp Q := by
  have key : ∀ n i ys s, n + i = xs.length → ys.length ≤ i → I i ys s → (lcLoop bd gd (xs.drop i) ys s).wp Q := fun n => by
    induction n with
    | zero =>
      intro i ys s e e2 h
      have hi : i = xs.length := by omega
      subst hi
      rw [List.drop_length, lcLoop, if_pos (hg _ ys s (Nat.le_refl _) h)]
      exact hQ ys s h
    | succ n ih =>
      intro i ys s e e2 h
      have hi : i < xs.length := by omega
      rw [List.drop_eq_getElem_cons hi, lcLoop, if_pos (hg _ ys s (Nat.le_of_lt hi) h), wp_bind, wp_nox]
      refine wp_mono (hs i hi ys s h) fun r s' q => ?_
      cases r with
      | some y =>
        simp only
        rw [if_pos (by omega)]
        exact ih (i + 1) (ys ++ [y]) s' (by omega) (by simp; omega) q
      | none => exact ih (i + 1) ys s' (by omega) (by omega) q
  exact key xs.length 0 [] s rfl (Nat.le_refl _) h0
/-- items that are told by f and change nothing -/
theorem wp_lc_pure {bd : Val → Sto → Out (Option Val)} {Q : List Val → Sto → Prop} (f : Val → Val) (hg : gd.holds s) (hl : xs.length ≤ PySem.sizeLine) (hs : ∀ x ∈ xs, (bd x s).wp fun r s' => r = some (f x) ∧ s' = s) (hQ : Q (xs.map f) s) : (lcLoop bd gd xs [] s).wp Q := by
  refine wp_lc (fun i ys s' => s' = s ∧ ys = (xs.take i).map f) ⟨rfl, by simp⟩ (fun i ys s' _ h => by rw [h.1]; exact hg) hl (fun i hi ys s' h => ?_) fun ys s' h => by rw [h.1, h.2, List.take_length]; exact hQ
  obtain ⟨rfl, rfl⟩ := h
  refine wp_mono (hs _ (List.getElem_mem hi)) fun r s' q => ?_
  obtain ⟨rfl, rfl⟩ := q
  refine ⟨rfl, ?_⟩
  rw [List.take_add_one, List.getElem?_eq_getElem hi, List.map_append]
  rfl
/-- items that are told by f and only add to the store -/
theorem wp_lc_grow {bd : Val → Sto → Out (Option Val)} {Q : List Val → Sto → Prop} (f : Val → Val) (hg : ∀ t, gd.holds (s ++ t)) (hl : xs.length ≤ PySem.sizeLine) (hs : ∀ x ∈ xs, ∀ t, (bd x (s ++ t)).wp fun r s' => r = some (f x) ∧ ∃ u, s' = (s ++ t) ++ u) (hQ : ∀ t, Q (xs.map f) (s ++ t)) : (lcLoop bd gd xs [] s).wp Q := by
  refine wp_lc (fun i ys s' => (∃ t, s' = s ++ t) ∧ ys = (xs.take i).map f) ⟨⟨[], by simp⟩, by simp⟩ (fun i ys s' _ h => by obtain ⟨t, e⟩ := h.1; rw [e]; exact hg t) hl (fun i hi ys s' h => ?_) fun ys s' h => by obtain ⟨⟨t, rfl⟩, rfl⟩ := h; rw [List.take_length]; exact hQ t
  obtain ⟨⟨t, rfl⟩, rfl⟩ := h
  refine wp_mono (hs _ (List.getElem_mem hi) t) fun r s' q => ?_
  obtain ⟨rfl, u, rfl⟩ := q
  refine ⟨⟨t ++ u, by rw [List.append_assoc]⟩, ?_⟩
  rw [List.take_add_one, List.getElem?_eq_getElem hi, List.map_append]
  rfl
end
theorem wp_while {c : Env → Sto → Out Bool} {bd : Env → Sto → Out Fl} {σ : Env} {s : Sto} {Q : Fl → Sto → Prop} (I : Nat → Env → Sto → Prop) (m : Nat) (h0 : I m σ s)
    (hs : ∀ m σ s, I m σ s → (c σ s).wp fun k s1 => match k with
      | true => (bd σ s1).wp fun f s2 => match f with
        | .nx σ' => ∃ m', m' < m ∧ I m' σ' s2
        | .ct σ' => ∃ m', m' < m ∧ I m' σ' s2
        | .bk σ' => Q (.nx σ') s2
        | .rt v => Q (.rt v) s2
      | false => Q (.nx σ) s1) : (whileL c bd σ s).wp Q := by
  have key : ∀ m σ s, I m σ s → (whileN c bd (m + 1) σ s).wp Q := fun m => by
    induction m using Nat.strongRecOn with
    | ind m ih =>
      intro σ s h
      simp only [whileN, wp_bind]
      refine wp_mono (hs m σ s h) fun k s1 q => ?_
      cases k with
      | false => exact q
      | true =>
        simp only at q ⊢
        rw [wp_bind]
        have up : ∀ m' σ' s2, m' < m → I m' σ' s2 → (whileN c bd m σ' s2).wp Q := fun m' σ' s2 hm q2 => by
          have h1 := ih m' hm σ' s2 q2
          have hne : whileN c bd (m' + 1) σ' s2 ≠ .stuck := fun e => by rw [e] at h1; exact h1
          rw [whileN_mono hne m hm]; exact h1
        refine wp_mono q fun f s2 q2 => ?_
        cases f with
        | nx σ' => obtain ⟨m', hm, q2⟩ := q2; exact up m' σ' s2 hm q2
        | ct σ' => obtain ⟨m', hm, q2⟩ := q2; exact up m' σ' s2 hm q2
        | bk σ' => exact q2
        | rt v => exact q2
  have h1 := key m σ s h0
  have hne : whileN c bd (m + 1) σ s ≠ .stuck := fun e => by rw [e] at h1; exact h1
  rw [whileL_of hne]; exact h1
end Bk
namespace Bk
/-! ### the store by places -/
section
variable {s t : Sto} {n m : Nat} {xs : List Val} {o : Ob}
theorem listAt_app (h : n < s.length) : listAt (s ++ t) n = listAt s n := by
  unfold listAt; rw [List.getElem?_append_left h]
theorem listAt_new : listAt (s ++ (.lst xs :: t)) s.length = some xs := by
  unfold listAt; rw [List.getElem?_append_right (Nat.le_refl _)]; simp
theorem listAt_set (h : n < s.length) : listAt (s.set n (.lst xs)) n = some xs := by
  unfold listAt; rw [List.getElem?_set_self h]
theorem listAt_set_ne (h : n ≠ m) : listAt (s.set n o) m = listAt s m := by
  unfold listAt; rw [List.getElem?_set_ne h]
theorem listAt_lt (h : listAt s n = some xs) : n < s.length := (List.getElem?_eq_some_iff.mp (listAt_some h)).1
theorem enumV_at {i : Nat} (h : i < (enumV xs).length) : (enumV xs)[i] = .tup [.int (i : Nat), xs[i]'(by simpa [enumV] using h)] := by
  simp [enumV]
theorem enumV_len' : (enumV xs).length = xs.length := by simp [enumV]
theorem rangeV_at {a : Int} {n i : Nat} (h : i < (rangeV a n).length) : (rangeV a n)[i] = .int (a + (i : Nat)) := by
  simp [rangeV]
theorem rangeV_len {a : Int} {n : Nat} : (rangeV a n).length = n := by simp [rangeV]
/-- what stood below is as it was -/
def Sub (s s' : Sto) : Prop := s.length ≤ s'.length ∧ ∀ n, n < s.length → s'[n]? = s[n]?
theorem Sub.refl (s : Sto) : Sub s s := ⟨Nat.le_refl _, fun _ _ => rfl⟩
theorem Sub.trans {s1 s2 s3 : Sto} (a : Sub s1 s2) (b : Sub s2 s3) : Sub s1 s3 := ⟨Nat.le_trans a.1 b.1, fun n h => (b.2 n (Nat.lt_of_lt_of_le h a.1)).trans (a.2 n h)⟩
theorem Sub.app (s t : Sto) : Sub s (s ++ t) := ⟨by simp, fun n h => List.getElem?_append_left h⟩
theorem Sub.set {s0 : Sto} (h : Sub s0 s) (hn : s0.length ≤ n) : Sub s0 (s.set n o) := ⟨by rw [List.length_set]; exact h.1, fun k hk => by rw [List.getElem?_set_ne (by omega)]; exact h.2 k hk⟩
theorem Sub.list {s0 : Sto} (h : Sub s0 s) (hl : listAt s0 n = some xs) : listAt s n = some xs := by
  have := listAt_lt hl
  unfold listAt at hl ⊢
  rw [h.2 n this]; exact hl
end
end Bk
namespace Bk
theorem two62 : (2 : Int) ^ 62 = 4611686018427387904 := by decide +kernel
theorem smallI_of {i : Int} (h : -1000000000 ≤ i) (h2 : i ≤ 1000000000) : smallI i := by
  unfold smallI
  rw [two62]
  omega
end Bk
namespace Bk
theorem atI_map {α β : Type} (f : α → β) (xs : List α) (i : Int) : L2.atI (xs.map f) i = (L2.atI xs i).map f := by
  unfold L2.atI
  rw [List.length_map]
  cases L2.ixN xs.length i with
  | none => rfl
  | some j => simp
end Bk
namespace Bk
/-! ### dicts whose keys are pairs of ints -/
def key2 (a b : Int) : Val := .tup [.int a, .int b]
theorem keyEq2 (a b c d : Int) : keyEq (key2 a b) (key2 c d) = (decide (a = c) && decide (b = d)) := by
  simp [key2, keyEq, keyEq.go]
def Keys2 (kvs : List (Val × Val)) : Prop := ∀ p ∈ kvs, ∃ a b, p.1 = key2 a b
theorem dput2_new {kvs : List (Val × Val)} {a b : Int} {v : Val} (h : dlook kvs (key2 a b) = none) : dput kvs (key2 a b) v = kvs ++ [(key2 a b, v)] := by
  unfold dput
  rw [if_neg]
  intro q
  rw [List.any_eq_true] at q
  obtain ⟨p, hp, hq⟩ := q
  unfold dlook at h
  rw [Option.map_eq_none_iff, List.find?_eq_none] at h
  exact h p hp hq
theorem dlook2_app {kvs : List (Val × Val)} {a b c d : Int} {v : Val} : dlook (kvs ++ [(key2 a b, v)]) (key2 c d) = match dlook kvs (key2 c d) with
    | some x => some x
    | none => if a = c ∧ b = d then some v else none := by
  unfold dlook
  rw [List.find?_append]
  cases e : kvs.find? fun p => keyEq p.1 (key2 c d) with
  | some x => simp
  | none =>
    by_cases h : a = c ∧ b = d
    · simp [List.find?, keyEq2, h]
    · have : (decide (a = c) && decide (b = d)) = false := by
        simp only [Bool.and_eq_false_iff, decide_eq_false_iff_not]
        by_cases h1 : a = c
        · exact .inr fun h2 => h ⟨h1, h2⟩
        · exact .inl h1
      simp only [Option.map_none, if_neg h, Option.none_or]
      rw [List.find?_cons_of_neg (by rw [keyEq2, this]; exact Bool.false_ne_true)]
      rfl
theorem isKey2 {a b : Int} : isKey true (key2 a b) = true := by simp [key2, isKey, flatKey]
theorem get2 {s : Sto} {n : Nat} {kvs : List (Val × Val)} {a b : Int} {v : Val} (h : s[n]? = some (.dct true kvs)) : methV .get (.loc n) [.tup [.int a, .int b], v] s = .ok ((dlook kvs (key2 a b)).getD v) s := by
  simp only [methV, h]
  exact if_pos (isKey2 (a := a) (b := b))
theorem recv_get2 {s : Sto} {n : Nat} {kvs : List (Val × Val)} (h : s[n]? = some (.dct true kvs)) : recvOk .get s (.loc n) = true := by simp [recvOk, h]
theorem item2 {s : Sto} {n : Nat} {kvs : List (Val × Val)} {a b : Int} {v : Val} (h : s[n]? = some (.dct true kvs)) (hv : dlook kvs (key2 a b) = some v) : itemV (.loc n) (.tup [.int a, .int b]) s = .ok v s := by
  have hk : isKey true (.tup [.int a, .int b]) = true := isKey2
  have hv' : dlook kvs (.tup [.int a, .int b]) = some v := hv
  simp [itemV, h, hk, hv']
theorem set2 {s : Sto} {n : Nat} {kvs : List (Val × Val)} {a b : Int} {v : Val} (h : s[n]? = some (.dct true kvs)) (hl : kvs.length < 1000000) : setKV (.loc n) [.int a, .int b] v s = .ok () (s.set n (.dct true (dput kvs (key2 a b) v))) := by
  have hk : isKey true (.tup [.int a, .int b]) = true := isKey2
  simp [setKV, h, hk, hl, key2]
end Bk
namespace Bk
theorem mulOk_r {i j : Int} (h1 : -1000000000000000000 < j) (h2 : j < 1000000000000000000) : MulOk i j := by
  refine .inr (.inl ⟨?_, ?_⟩)
  · have : (-(2 ^ 64) : Int) = -18446744073709551616 := by decide +kernel
    omega
  · have : ((2 : Int) ^ 64) = 18446744073709551616 := by decide +kernel
    omega
theorem mulOk_l {i j : Int} (h1 : -1000000000000000000 < i) (h2 : i < 1000000000000000000) : MulOk i j := by
  refine .inl ⟨?_, ?_⟩
  · have : (-(2 ^ 64) : Int) = -18446744073709551616 := by decide +kernel
    omega
  · have : ((2 : Int) ^ 64) = 18446744073709551616 := by decide +kernel
    omega
theorem log_lt {i : Int} {n : Nat} (h : i.natAbs < 2 ^ n) : i.natAbs.log2 ≤ n := by
  by_cases h0 : i.natAbs = 0
  · rw [h0]; simp
  · exact Nat.le_of_lt ((Nat.log2_lt h0).mpr h)
theorem mulOk_b {i j : Int} {n m : Nat} (hi : i.natAbs < 2 ^ n) (hj : j.natAbs < 2 ^ m) (h : n + m < 1000000) : MulOk i j := by
  refine .inr (.inr ?_)
  have := log_lt hi
  have := log_lt hj
  omega
theorem divOk_of {j : Int} {n : Nat} (h0 : 0 < j) (h : j.natAbs < 2 ^ n) (hn : n < 9000) : DivOk j := ⟨h0, by have := log_lt h; omega⟩
theorem powOk_of {i j : Int} (h0 : 0 ≤ j) (h : j ≤ 1000000) (hi : i.natAbs < 1000000000000000000) : PowOk i j := by
  refine ⟨h0, h, ?_⟩
  have : (2 : Nat) ^ 64 = 18446744073709551616 := by decide +kernel
  omega
@[simp] theorem pow10 {s : Sto} (n : Nat) (h : n ≤ 1000) : binV .pow (.int 10) (.int n) s = .ok (.int (10 ^ n)) s := by
  rw [bin_pow (powOk_of (by omega) (by omega) (by decide))]
  simp

/-! ### with errors -/
def Out.wpx {α : Type} (o : Out α) (Q : α → Sto → Prop) (E : PySem.Str → Val → Sto → Prop) : Prop := match o with
  | .ok a s => Q a s
  | .exc c v s => E c v s
  | .stuck => False
section
variable {α β : Type} {Q Q' : α → Sto → Prop} {E E' : PySem.Str → Val → Sto → Prop} {s : Sto}
@[simp] theorem wpx_ok (a : α) (s : Sto) (Q : α → Sto → Prop) (E : PySem.Str → Val → Sto → Prop) : (Out.ok a s).wpx Q E = Q a s := rfl
@[simp] theorem wpx_stuck (Q : α → Sto → Prop) (E : PySem.Str → Val → Sto → Prop) : (Out.stuck : Out α).wpx Q E = False := rfl
@[simp] theorem wpx_exc (c : PySem.Str) (v : Val) (s : Sto) (Q : α → Sto → Prop) (E : PySem.Str → Val → Sto → Prop) : (Out.exc c v s : Out α).wpx Q E = E c v s := rfl
@[simp] theorem wpx_bind (o : Out α) (f : α → Sto → Out β) (Q : β → Sto → Prop) (E : PySem.Str → Val → Sto → Prop) : (o.bind f).wpx Q E = o.wpx (fun a s => (f a s).wpx Q E) E := by cases o <;> rfl
theorem wpx_mono {o : Out α} (h : o.wpx Q E) (k : ∀ a s, Q a s → Q' a s) (j : ∀ c v s, E c v s → E' c v s) : o.wpx Q' E' := by
  cases o with
  | ok a s => exact k a s h
  | exc c v s => exact j c v s h
  | stuck => exact h
/-- what raises nothing -/
theorem wpx_wp {o : Out α} (h : o.wp Q) : o.wpx Q E := by
  cases o with
  | ok a s => exact h
  | _ => exact h.elim
theorem wp_wpx {o : Out α} (h : o.wpx Q fun _ _ _ => False) : o.wp Q := by
  cases o with
  | ok a s => exact h
  | _ => exact h.elim
@[simp] theorem wpx_opt (o : Option α) (s : Sto) (Q : α → Sto → Prop) (E : PySem.Str → Val → Sto → Prop) : (Out.opt o s).wpx Q E = o.elim False fun a => Q a s := by cases o <;> rfl
@[simp] theorem wpx_elim {γ : Type} (o : Option γ) (f : γ → Out α) (Q : α → Sto → Prop) (E : PySem.Str → Val → Sto → Prop) : (o.elim .stuck f : Out α).wpx Q E = o.elim False fun a => (f a).wpx Q E := by cases o <;> rfl
@[simp] theorem wpx_finish (o : Out Fl) (Q : Val → Sto → Prop) (E : PySem.Str → Val → Sto → Prop) : (finish o).wpx Q E = o.wpx (fun f s => match f with
    | .rt v => Q v s
    | .nx _ => Q .non s
    | _ => False) E := by
  cases o with
  | ok f s => cases f <;> rfl
  | _ => rfl
theorem wp_try {G : Ctx} {b : Ss} {c : PySem.Str} {cs : List PySem.Str} {i j : Nat} {σ : Env} {Q : Fl → Sto → Prop} (h : (execs G b σ s).wpx Q fun d v s' => d ∈ cs ∧ isaX d c = true ∧ Q (.nx ((σ.set j (some (.exc d v))).set i none)) s') : (exec G (.tryC b c cs i j) σ s).wp Q := by
  simp only [exec]
  cases e : execs G b σ s with
  | ok f s' => rw [e] at h; exact h
  | exc d v s' =>
    rw [e] at h
    simp only
    rw [if_pos ⟨h.1, h.2.1⟩]
    exact h.2.2
  | stuck => rw [e] at h; exact h.elim
end
end Bk
set_option maxHeartbeats 8000000
/-! RunE4: constants that are tuples of whole numbers. -/
namespace Bk
open PySem PySem.Spec PyProof.Rows L2
theorem cst_tup {K : PySem.W.Frag} {a : Addr} {dd : Option Addr} {its : List Value} {n : Nat} {sl : Array (Option Value)} {xs : List Val} {ws : List V} (h : K.lookup a = some ⟨.type "tuple", dd, .seq its.toArray n, sl⟩)
    (hl : its.length ≤ 8) (hv : Vals ws its) (r : ∀ ρ H, RepL K ρ H xs ws) : ∀ ρ H, Rep K ρ H (.tup xs) (.ref a) := fun ρ H =>
  ⟨a, ws, rfl, .inr ⟨_, its.toArray, n, h, rfl, rfl, by have := sizeLine_eq; simp; omega, by simpa using hv⟩, r ρ H⟩
end Bk
set_option maxHeartbeats 4000000
/-! RunX5: the error classes of a module, from what is written of it. -/
namespace Bk
open PySem PySem.W PySem.Spec PyProof.Rows L2
theorem xbase_mk {K : Frag} {p : Program} {D fI cc cd : Addr} {text : Str} {p1 p2 a b c d e f i j k l : Pos} {kV doc pm ct oc oc3 oc4 : Value} {an od od3 od4 : Option Addr} {osl osl3 osl4 : Array (Option Value)} {vs : Array Value} {file : Str} {tf : Tok} {cdt : ClassData}
    (h1 : K.lookup fI = some ⟨oc, od, .func (xFd text p1 p2 a b c d e f i j k l cc .none kV doc pm an (.ref cd) ct), osl⟩) (h2 : codeIn K (.ref cd) "BucketError.__init__" = true) (h3 : K.lookup cc = some ⟨oc3, od3, .cell (some (.ref D)), osl3⟩)
    (h4 : K.lookup cd = some ⟨oc4, od4, .fields vs, osl4⟩) (h5 : clsIn K D = some cdt) (h6 : nsIn K cStatics "thirdparty.any" = some none) (hp : (c.endLine == e.line) = true) (hv : vs[2]? = some (.str file tf)) (hf : (p.main.file == file) = true) (ht : (p.main.scope.names.lookup ("super" : Str)).isSome = false) : XBase K p D fI where
  fn := ⟨text, p1, p2, a, b, c, d, e, f, i, j, k, l, cc, kV, doc, pm, an, cd, ct, oc, od, osl, h1, h2, hp, ⟨_, h3, rfl⟩, _, vs, file, tf, h4, rfl, hv, hf⟩
  top := ht
  cD := by rw [h5]; rfl
  opq := h6
theorem xcls_mk {K : Frag} {D C N : Addr} {nm q : Str} {bs bm sub : List Value} {sn : List Str} {ab : Bool} {col : Option Bool} {dd : Option Addr} {k0 k1 k2 k3 k5 : Option Value}
    (h1 : K.lookup C = some (excClassObj nm q C N bs bm true sn sub ab col dd k0 k1 k2 k3 k5 "ValueError.__new__")) (h2 : findIn K (.ref C) "__setattr__" = some (some (.builtin "object.__setattr__"))) (h3 : subIn K (.ref C) (.type "BaseException") = some true)
    (h4 : typeIn K (.ref C) = some (.type "type")) (h5 : keepIn K (.ref C) = true) (h6 : ks_superIn K C D "__init__" = some (some (.builtin "ValueError.__init__"))) (h7 : subIn K (.ref C) (.ref D) = some true) (h8 : subIn K (.ref C) (.type "ValueError") = some true)
    (h9 : findIn K (.ref C) "value" = some none) (hr : HandSPX.refsVE bm = true) : XCls K D C where
  o := ⟨⟨nm, q, N, bs, bm, sn, sub, ab, col, dd, k0, k1, k2, k3, k5, h1, hr⟩, h2, h3, h4, h5⟩
  sup := h6
  sD := h7
  sV := h8
  no := h9
theorem xread_mk {K : Frag} {C : Addr} {cdt : ClassData} (h1 : findIn K (.ref C) "__getattribute__" = some (some (.builtin "BaseException.__getattribute__"))) (h2 : findIn K (.ref C) "__getattr__" = some none) (h3 : subIn K (.ref C) (.type "BaseException") = some true) (h4 : hasDictIn K C = true)
    (h5 : findIn K (.ref C) "value" = some none) (h6 : clsIn K C = some cdt) (h7 : findIn K (.ref C) "__class__" = some (some (.builtin "object.__class__"))) (h8 : specialIn K (.builtin "object.__class__") "__get__" = some (some (.builtin "getset_descriptor.__get__")))
    (h9 : takesIn K (.builtin "object.__class__") = some true) (h10 : mroIn K C (.type "object") = some true) : XRead K C := ⟨h1, h2, h3, h4, h5, by rw [h6]; rfl, h7, h8, h9, h10⟩
/-- one class -/
structure XOne (K : Frag) (mg : Str → Option Value) (p : Program) (c : Str) (C : Addr) : Prop where
  mg : mg c = some (.ref C)
  er : XErr K p c C
  rd : XRead K C
  non : kitOne K (.type "NoneType") (.ref C) = some false
theorem kit_sub {K : Frag} {C D : Addr} {b : Bool} {cdt : ClassData} (h1 : clsIn K D = some cdt) (h2 : typeIn K (.ref D) = some (.type "type")) (h3 : subIn K (.ref C) (.ref D) = some b) (hb : C = D → b = true) : kitOne K (.ref C) (.ref D) = some b := by
  unfold kitOne
  by_cases h : C = D
  · rw [if_pos (by rw [h]; exact beq_self_eq_true _), hb h]
  · rw [if_neg (by simpa using h)]
    unfold kitCls
    simp only
    rw [h1, h2]
    exact h3
theorem kit_none {K : Frag} {D : Addr} {cdt : ClassData} (h1 : clsIn K D = some cdt) (h2 : typeIn K (.ref D) = some (.type "type")) (h3 : subIn K (.type "NoneType") (.ref D) = some false) : kitOne K (.type "NoneType") (.ref D) = some false := by
  unfold kitOne
  rw [if_neg (by simp)]
  unfold kitCls
  simp only
  rw [h1, h2]
  exact h3
theorem xone_mk {K : Frag} {h : Heap} {mg : Str → Option Value} {p : Program} {c : Str} {C D fI : Addr} {cdt : ClassData} (X : K.In h) (G : h.Ns mainGlobals mg) (B : XBase K p D fI) (n : nsIn K mainGlobals c = some (some (.ref C))) (T : XCls K D C) (R : XRead K C)
    (i : findIn K (.ref C) "__init__" = some (some (.ref fI))) (t : typeIn K (.ref fI) = some (.type "function")) (h1 : clsIn K C = some cdt) (h2 : typeIn K (.ref C) = some (.type "type")) (h3 : subIn K (.type "NoneType") (.ref C) = some false) : XOne K mg p c C :=
  ⟨mg_of X G n, ⟨n, D, fI, B, T, i, t⟩, R, kit_none h1 h2 h3⟩
/-- two classes -/
structure XTwo (K : Frag) (c d : Str) (C D : Addr) : Prop where
  sub : subIn K (.ref C) (.ref D) = some (isaX c d)
  same : C = D → isaX c d = true
theorem xtwo_mk {K : Frag} {c d : Str} {C D : Addr} {b : Bool} (h : subIn K (.ref C) (.ref D) = some b) (e : b = isaX c d) (hb : (!decide (C = D) || b) = true) : XTwo K c d C D := by
  subst e
  refine ⟨h, fun z => ?_⟩
  rw [z] at hb
  simpa using hb
/-- all classes: each with its address -/
def AllOne (K : Frag) (mg : Str → Option Value) (p : Program) : List (Str × Addr) → Prop
  | [] => True
  | x :: r => XOne K mg p x.1 x.2 ∧ AllOne K mg p r
def RowTwo (K : Frag) (x : Str × Addr) : List (Str × Addr) → Prop
  | [] => True
  | y :: r => XTwo K x.1 y.1 x.2 y.2 ∧ RowTwo K x r
def AllTwo (K : Frag) (l : List (Str × Addr)) : List (Str × Addr) → Prop
  | [] => True
  | x :: r => RowTwo K x l ∧ AllTwo K l r
theorem allOne_mem {K : Frag} {mg : Str → Option Value} {p : Program} : ∀ {l : List (Str × Addr)}, AllOne K mg p l → ∀ x ∈ l, XOne K mg p x.1 x.2
  | y :: r, h, x, hx => by
    rcases List.mem_cons.mp hx with rfl | hx
    · exact h.1
    · exact allOne_mem h.2 x hx
theorem rowTwo_mem {K : Frag} {x : Str × Addr} : ∀ {l : List (Str × Addr)}, RowTwo K x l → ∀ y ∈ l, XTwo K x.1 y.1 x.2 y.2
  | z :: r, h, y, hy => by
    rcases List.mem_cons.mp hy with rfl | hy
    · exact h.1
    · exact rowTwo_mem h.2 y hy
theorem allTwo_mem {K : Frag} {l : List (Str × Addr)} : ∀ {m : List (Str × Addr)}, AllTwo K l m → ∀ x ∈ m, ∀ y ∈ l, XTwo K x.1 y.1 x.2 y.2
  | z :: r, h, x, hx, y, hy => by
    rcases List.mem_cons.mp hx with rfl | hx
    · exact rowTwo_mem h.1 y hy
    · exact allTwo_mem h.2 x hx y hy
theorem errs_mk {K : Frag} {mg : Str → Option Value} {p : Program} {cs : List Str} (l : List (Str × Addr)) (hl : l.map (·.1) = cs) (h1 : AllOne K mg p l) (h2 : AllTwo K l l) (hs : mg "super" = none) : Errs K mg p cs := by
  subst hl
  have mem : ∀ c ∈ l.map (·.1), ∃ C, (c, C) ∈ l := fun c hc => by
    obtain ⟨⟨c', C⟩, h, rfl⟩ := List.mem_map.mp hc
    exact ⟨C, h⟩
  refine ⟨fun c hc => ?_, fun c hc d hd C D n1 n2 => ?_, fun d hd D n => ?_, fun _ => hs⟩
  · obtain ⟨C, h⟩ := mem c hc
    have := allOne_mem h1 _ h
    exact ⟨C, this.mg, this.er, this.rd⟩
  · obtain ⟨C', h⟩ := mem c hc
    obtain ⟨D', h'⟩ := mem d hd
    have e1 := n1.symm.trans (allOne_mem h1 _ h).er.ns
    have e2 := n2.symm.trans (allOne_mem h1 _ h').er.ns
    cases e1
    cases e2
    have := allTwo_mem h2 _ h _ h'
    have hD := allOne_mem h1 _ h'
    obtain ⟨cdt, hcl⟩ := Option.isSome_iff_exists.mp hD.rd.cl
    obtain ⟨_, _, _, T, _⟩ := hD.er.ex
    exact ⟨kit_sub hcl T.o.tyC this.sub this.same, exm_ref hD.rd.exC hD.rd.hdC T.o.tyC this.sub⟩
  · obtain ⟨D', h'⟩ := mem d hd
    have e2 := n.symm.trans (allOne_mem h1 _ h').er.ns
    cases e2
    exact (allOne_mem h1 _ h').non
end Bk
set_option maxHeartbeats 8000000
/-! WT: the terms of the defs that many laws reach (printed by gen.py from a law's text). -/
namespace WT
open PySem L2 Bk
def l__law_pool_0 : Ss :=
(.cons (.ife (.cmp .gt (.var 5) (.cst (.int 0)))
(.cons (.expr (.meth .append (.var 2) (.cons (.bin .mod (.prim .int (.cons (.var 5) .nil)) (.cst (.int 1000))) .nil)))
(.cons (.asg (.nm 5) (.bin .fdiv (.var 5) (.cst (.int 1000))))
.nil))
.nil)
.nil)
def l__law_pool_1 : Ss :=
(.cons (.asg (.nm 5) (.prim .abs (.cons (.prim .int (.cons (.var 4) .nil)) .nil)))
(.cons (.asg (.nm 3) (.bin .mod (.bin .add (.bin .add (.bin .add (.bin .mul (.var 3) (.cst (.int 48271))) (.bin .mod (.prim .int (.cons (.var 5) .nil)) (.cst (.int 2147483629)))) (.bin .mul (.cst (.int 7)) (.prim .len (.cons (.var 2) .nil)))) (.prim .int (.cons (.cmp .lt (.var 4) (.cst (.int 0))) .nil))) (.cst (.int 2147483647))))
(.cons (.ife (.cmp .ge (.var 5) (.bin .pow (.cst (.int 10)) (.cst (.int 18))))
(.cons (.for_ (.nm 6) (.rng1 (.cst (.int 60))) l__law_pool_0)
.nil)
.nil)
.nil)))
def l__law_pool_2 : Ss :=
(.cons (.asg (.nm 3) (.bin .mod (.bin .add (.bin .add (.bin .mul (.var 3) (.cst (.int 69621))) (.cst (.int 12347))) (.var 6)) (.cst (.int 2147483647))))
(.cons (.expr (.meth .append (.var 2) (.cons (.bin .mod (.bin .fdiv (.bin .mod (.prim .int (.cons (.bin .mul (.var 3) (.bin .add (.bin .add (.var 3) (.bin .mul (.cst (.int 2)) (.var 6))) (.cst (.int 1)))) .nil)) (.cst (.int 2147483629))) (.cst (.int 1009))) (.cst (.int 1000))) .nil)))
.nil))
def d__law_pool (seed : Int) : Def := { name := "_law_pool", ps := ["script", "many"], n := 7, body :=
(.cons (.asg (.nm 2) (.lst .nil))
(.cons (.asg (.nm 3) (.cst (.int seed)))
(.cons (.for_ (.nm 4) (.seq (.slc (.var 0) .none (.some (.cst (.int 63))))) l__law_pool_1)
(.cons (.for_ (.nm 6) (.rng1 (.var 1)) l__law_pool_2)
(.cons (.ret (.rev (.var 2)))
.nil))))) }
def l__law_timetable_0 : Ss :=
(.cons (.expr (.meth .append (.var 2) (.cons (.tup (.cons (.var 3) (.cons (.call "_law_brigade" (.cons (.var 0) (.cons (.cst (.int 1)) (.cons (.cst (.int 4)) (.cons (.cst (.int 1)) .nil))))) .nil))) .nil)))
(.cons (.asg (.nm 3) (.bin .add (.bin .add (.var 3) (.cst (.int 1))) (.call "_law_take" (.cons (.var 0) (.cons (.cst (.int 3)) .nil)))))
.nil))
def d__law_timetable : Def := { name := "_law_timetable", ps := ["pool", "entries"], n := 5, body :=
(.cons (.asg (.pr (.nm 2) (.nm 3)) (.tup (.cons (.lst .nil) (.cons (.cst (.int 0)) .nil))))
(.cons (.for_ (.nm 4) (.rng1 (.bin .add (.cst (.int 1)) (.call "_law_take" (.cons (.var 0) (.cons (.var 1) .nil))))) l__law_timetable_0)
(.cons (.ret (.prim .tuple (.cons (.var 2) .nil)))
.nil))) }
def d__law_places : Def := { name := "_law_places", ps := ["pool", "many"], n := 5, body :=
(.cons (.asg (.nm 3) (.prim .sorted (.cons (.lc (.call "_law_take" (.cons (.var 0) (.cons (.cst (.int 13)) .nil))) (.nm 2) (.rng1 (.var 1)) .none [2]) .nil)))
(.cons (.ret (.prim .tuple (.cons (.lc (.call "_law_make" (.cons (.var 4) (.cons (.cst (.int 12)) .nil))) (.nm 4) (.seq (.var 3)) .none [4]) .nil)))
.nil)) }
def d__law_take : Def := { name := "_law_take", ps := ["pool", "limit"], n := 2, body :=
(.cons (.ife (.cmp .eq (.var 0) (.lst .nil))
(.cons (.ret (.cst (.int 0)))
.nil)
.nil)
(.cons (.ret (.bin .mod (.prim .int (.cons (.meth .pop (.var 0) .nil) .nil)) (.var 1)))
.nil)) }
def l__law_steps_0 : Ss :=
(.cons (.asg (.nm 7) (.idx (.lc (.var 6) (.pr (.nm 5) (.nm 6)) (.seq (.var 0)) (.some (.cmp .le (.var 5) (.var 4))) [5, 6]) (.neg (.cst (.int 1)))))
(.cons (.asg (.nm 8) (.call "_law_step" (.cons (.var 7) (.cons (.call "_law_fit" (.cons (.var 1) (.cons (.prim .len (.cons (.idx (.var 7) (.cst (.int 1))) .nil)) .nil))) .nil))))
(.cons (.expr (.meth .append (.var 3) (.cons (.var 8) .nil)))
(.cons (.asg (.nm 1) (.idx (.var 8) (.cst (.int 1))))
.nil))))
def d__law_steps : Def := { name := "_law_steps", ps := ["timetable", "places", "many"], n := 9, body :=
(.cons (.asg (.nm 3) (.lst .nil))
(.cons (.for_ (.nm 4) (.rng1 (.var 2)) l__law_steps_0)
(.cons (.ret (.var 3))
.nil))) }
def l_run_by_0 : Ss :=
(.cons (.asg (.nm 5) (.call "next_step" (.cons (.var 0) (.cons (.var 4) (.cons (.var 1) .nil)))))
(.cons (.expr (.meth .append (.var 3) (.cons (.var 5) .nil)))
(.cons (.asg (.nm 1) (.idx (.var 5) (.cst (.int 1))))
.nil)))
def d_run_by : Def := { name := "run_by", ps := ["timetable", "places", "many"], n := 6, body :=
(.cons (.expr (.call "need_timetable" (.cons (.var 0) .nil)))
(.cons (.expr (.call "need_places" (.cons (.idx (.idx (.var 0) (.cst (.int 0))) (.cst (.int 1))) (.cons (.var 1) .nil))))
(.cons (.expr (.call "need_number" (.cons (.var 2) (.cons (.cst (.int 0)) (.cons (.glob "MOST_STEPS_timetables") .nil)))))
(.cons (.asg (.nm 3) (.lst .nil))
(.cons (.for_ (.nm 4) (.rng1 (.var 2)) l_run_by_0)
(.cons (.ret (.var 3))
.nil)))))) }
def d__law_add : Def := { name := "_law_add", ps := ["x", "y"], n := 2, body :=
(.cons (.ret (.call "_law_make" (.cons (.bin .add (.bin .mul (.idx (.var 0) (.cst (.int 0))) (.idx (.var 1) (.cst (.int 1)))) (.bin .mul (.idx (.var 1) (.cst (.int 0))) (.idx (.var 0) (.cst (.int 1))))) (.cons (.bin .mul (.idx (.var 0) (.cst (.int 1))) (.idx (.var 1) (.cst (.int 1)))) .nil))))
.nil) }
def d__law_mul : Def := { name := "_law_mul", ps := ["x", "y"], n := 2, body :=
(.cons (.ret (.call "_law_make" (.cons (.bin .mul (.idx (.var 0) (.cst (.int 0))) (.idx (.var 1) (.cst (.int 0)))) (.cons (.bin .mul (.idx (.var 0) (.cst (.int 1))) (.idx (.var 1) (.cst (.int 1)))) .nil))))
.nil) }
def d__law_less : Def := { name := "_law_less", ps := ["x", "y"], n := 2, body :=
(.cons (.ret (.cmp .lt (.bin .mul (.idx (.var 0) (.cst (.int 0))) (.idx (.var 1) (.cst (.int 1)))) (.bin .mul (.idx (.var 1) (.cst (.int 0))) (.idx (.var 0) (.cst (.int 1))))))
.nil) }
def l_out_by_0 : Ss :=
(.cons (.asg (.pr (.nm 5) (.nm 1)) (.call "next_step" (.cons (.var 0) (.cons (.var 3) (.cons (.var 1) .nil)))))
(.cons (.asg (.nm 4) (.call "plus" (.cons (.var 4) (.cons (.var 5) .nil))))
(.cons (.ife (.call "is_below" (.cons (.var 2) (.cons (.var 4) .nil)))
(.cons (.ret (.var 3))
.nil)
.nil)
(.cons (.aug 3 .add (.cst (.int 1)))
.nil))))
def d_out_by : Def := { name := "out_by", ps := ["timetable", "places", "time"], n := 6, body :=
(.cons (.expr (.call "need_timetable" (.cons (.var 0) .nil)))
(.cons (.expr (.call "need_places" (.cons (.idx (.idx (.var 0) (.cst (.int 0))) (.cst (.int 1))) (.cons (.var 1) .nil))))
(.cons (.expr (.call "need_time" (.cons (.var 2) .nil)))
(.cons (.asg (.pr (.nm 3) (.nm 4)) (.tup (.cons (.cst (.int 0)) (.cons (.glob "ZERO") .nil))))
(.cons (.while_ (.cst (.bl true)) l_out_by_0)
.nil))))) }
def l_steps_0 : Ss :=
(.cons (.expr (.meth .append (.var 3) (.cons (.idx (.call "step_of" (.cons (.var 0) (.cons (.idx (.var 3) (.neg (.cst (.int 1)))) .nil))) (.cst (.int 1))) .nil)))
.nil)
def d_steps : Def := { name := "steps", ps := ["brigade", "places", "k"], n := 5, body :=
(.cons (.expr (.call "need_places" (.cons (.var 0) (.cons (.var 1) .nil))))
(.cons (.expr (.call "need_number" (.cons (.var 2) (.cons (.cst (.int 0)) (.cons (.glob "MOST_STEPS_brigades") .nil)))))
(.cons (.asg (.nm 3) (.lst (.cons (.var 1) .nil)))
(.cons (.for_ (.nm 4) (.rng1 (.var 2)) l_steps_0)
(.cons (.ret (.var 3))
.nil))))) }
def d__law_brigade : Def := { name := "_law_brigade", ps := ["pool", "least", "most", "cuts"], n := 8, body :=
(.cons (.asg (.nm 4) (.call "_law_twelfths" (.cons (.var 0) (.cons (.var 3) (.cons (.cst (.int 1)) (.cons (.cst (.int 11)) .nil))))))
(.cons (.asg (.nm 5) (.bin .add (.var 1) (.call "_law_take" (.cons (.var 0) (.cons (.bin .add (.bin .sub (.var 2) (.var 1)) (.cst (.int 1))) .nil)))))
(.cons (.ret (.tup (.cons (.var 4) (.cons (.prim .tuple (.cons (.lc (.prim .tuple (.cons (.lc (.call "_law_speed" (.cons (.var 0) .nil)) (.nm 7) (.rng1 (.bin .add (.prim .len (.cons (.var 4) .nil)) (.cst (.int 1)))) .none [7]) .nil)) (.nm 6) (.rng1 (.var 5)) .none [6]) .nil)) .nil))))
.nil))) }
def l__law_make_0 : Ss :=
(.cons (.asg (.pr (.nm 2) (.nm 3)) (.tup (.cons (.var 3) (.cons (.bin .mod (.prim .int (.cons (.var 2) .nil)) (.var 3)) .nil))))
.nil)
def d__law_make : Def := { name := "_law_make", ps := ["above", "below"], n := 4, body :=
(.cons (.ife (.cmp .lt (.var 1) (.cst (.int 0)))
(.cons (.asg (.pr (.nm 0) (.nm 1)) (.tup (.cons (.neg (.var 0)) (.cons (.neg (.var 1)) .nil))))
.nil)
.nil)
(.cons (.asg (.pr (.nm 2) (.nm 3)) (.tup (.cons (.prim .abs (.cons (.var 0) .nil)) (.cons (.var 1) .nil))))
(.cons (.while_ (.cmp .ne (.var 3) (.cst (.int 0))) l__law_make_0)
(.cons (.ret (.tup (.cons (.bin .fdiv (.var 0) (.var 2)) (.cons (.bin .fdiv (.var 1) (.var 2)) .nil))))
.nil)))) }
def d__law_step : Def := { name := "_law_step", ps := ["brigade", "places"], n := 4, body :=
(.cons (.asg (.pr (.nm 2) (.nm 3)) (.call "_law_spans" (.cons (.var 0) (.cons (.var 1) .nil))))
(.cons (.ret (.tup (.cons (.ife (.cmp .ne (.var 2) (.lst .nil)) (.idx (.idx (.var 2) (.neg (.cst (.int 1)))) (.cst (.int 1))) (.tup (.cons (.cst (.int 0)) (.cons (.cst (.int 1)) .nil)))) (.cons (.bin .add (.tup (.cons (.tup (.cons (.cst (.int 0)) (.cons (.cst (.int 1)) .nil))) .nil)) (.slc (.var 3) .none (.some (.neg (.cst (.int 1)))))) .nil))))
.nil)) }
def d__law_fit : Def := { name := "_law_fit", ps := ["places", "many"], n := 2, body :=
(.cons (.ret (.bin .add (.bin .mul (.tup (.cons (.tup (.cons (.cst (.int 0)) (.cons (.cst (.int 1)) .nil))) .nil)) (.prim .max (.cons (.cst (.int 0)) (.cons (.bin .sub (.var 1) (.prim .len (.cons (.var 0) .nil))) .nil)))) (.slc (.var 0) (.some (.prim .max (.cons (.cst (.int 0)) (.cons (.bin .sub (.prim .len (.cons (.var 0) .nil)) (.var 1)) .nil)))) .none)))
.nil) }
def d_need_timetable : Def := { name := "need_timetable", ps := ["timetable"], n := 1, body :=
(.cons (.ife (.nt (.call "is_timetable" (.cons (.var 0) .nil)))
(.cons (.raise "InvalidTimetable" (.call "anew" (.cons (.var 0) .nil)))
.nil)
.nil)
.nil) }
def d_need_places : Def := { name := "need_places", ps := ["brigade", "places"], n := 2, body :=
(.cons (.expr (.call "need_brigade" (.cons (.var 0) .nil)))
(.cons (.ife (.nt (.call "are_places_of" (.cons (.var 1) (.cons (.prim .len (.cons (.idx (.var 0) (.cst (.int 1))) .nil)) .nil))))
(.cons (.raise "InvalidPlaces" (.call "anew" (.cons (.var 1) .nil)))
.nil)
.nil)
.nil)) }
def d_need_number : Def := { name := "need_number", ps := ["number", "low", "high"], n := 3, body :=
(.cons (.ife (.or (.cmp .lt (.var 0) (.var 1)) (.and (.cmp .isnot (.var 2) (.cst .non)) (.cmp .gt (.var 0) (.var 2))))
(.cons (.raise "InvalidNumber" (.var 0))
.nil)
.nil)
.nil) }
def d_next_step : Def := { name := "next_step", ps := ["timetable", "k", "places"], n := 6, body :=
(.cons (.asg (.nm 3) (.call "brigade_for" (.cons (.var 0) (.cons (.var 1) .nil))))
(.cons (.asg (.pr (.nm 4) (.nm 5)) (.call "stepped" (.cons (.var 3) (.cons (.call "fit_for" (.cons (.var 2) (.cons (.prim .len (.cons (.idx (.var 3) (.cst (.int 1))) .nil)) .nil))) .nil))))
(.cons (.ret (.tup (.cons (.var 4) (.cons (.call "handed" (.cons (.var 5) .nil)) .nil))))
.nil))) }
def d_need_time : Def := { name := "need_time", ps := ["time"], n := 1, body :=
(.cons (.ife (.or (.nt (.call "is_fraction" (.cons (.var 0) .nil))) (.call "is_below" (.cons (.var 0) (.cons (.glob "ZERO") .nil))))
(.cons (.raise "InvalidTime" (.call "anew" (.cons (.var 0) .nil)))
.nil)
.nil)
.nil) }
def d_plus : Def := { name := "plus", ps := ["one", "other"], n := 2, body :=
(.cons (.ret (.call "make" (.cons (.bin .add (.bin .mul (.idx (.var 0) (.cst (.int 0))) (.idx (.var 1) (.cst (.int 1)))) (.bin .mul (.idx (.var 1) (.cst (.int 0))) (.idx (.var 0) (.cst (.int 1))))) (.cons (.bin .mul (.idx (.var 0) (.cst (.int 1))) (.idx (.var 1) (.cst (.int 1)))) .nil))))
.nil) }
def d_is_below : Def := { name := "is_below", ps := ["one", "other"], n := 2, body :=
(.cons (.ret (.cmp .lt (.bin .mul (.idx (.var 0) (.cst (.int 0))) (.idx (.var 1) (.cst (.int 1)))) (.bin .mul (.idx (.var 1) (.cst (.int 0))) (.idx (.var 0) (.cst (.int 1))))))
.nil) }
def d_step_of : Def := { name := "step_of", ps := ["brigade", "places"], n := 4, body :=
(.cons (.asg (.pr (.nm 2) (.nm 3)) (.call "stepped" (.cons (.var 0) (.cons (.var 1) .nil))))
(.cons (.ret (.tup (.cons (.var 2) (.cons (.call "handed" (.cons (.var 3) .nil)) .nil))))
.nil)) }
def l__law_twelfths_0 : Ss :=
(.cons (.setI (.var 4) (.bin .add (.var 2) (.call "_law_take" (.cons (.var 0) (.cons (.bin .add (.bin .sub (.var 3) (.var 2)) (.cst (.int 1))) .nil)))) (.cst (.bl true)))
.nil)
def d__law_twelfths : Def := { name := "_law_twelfths", ps := ["pool", "most", "low", "high"], n := 7, body :=
(.cons (.asg (.nm 4) (.dct false))
(.cons (.for_ (.nm 5) (.rng1 (.call "_law_take" (.cons (.var 0) (.cons (.bin .add (.var 1) (.cst (.int 1))) .nil)))) l__law_twelfths_0)
(.cons (.ret (.prim .tuple (.cons (.lc (.call "_law_make" (.cons (.var 6) (.cons (.cst (.int 12)) .nil))) (.nm 6) (.seq (.prim .sorted (.cons (.var 4) .nil))) .none [6]) .nil)))
.nil))) }
def d__law_speed : Def := { name := "_law_speed", ps := ["pool"], n := 1, body :=
(.cons (.ret (.call "_law_make" (.cons (.bin .add (.cst (.int 1)) (.call "_law_take" (.cons (.var 0) (.cons (.cst (.int 6)) .nil)))) (.cons (.bin .add (.cst (.int 1)) (.call "_law_take" (.cons (.var 0) (.cons (.cst (.int 3)) .nil)))) .nil))))
.nil) }
def l__law_spans_0 : Ss :=
(.cons (.asg (.pr (.nm 4) (.nm 5)) (.call "_law_moment" (.cons (.var 0) (.cons (.var 1) .nil))))
(.cons (.asg (.nm 6) (.call "_law_add" (.cons (.var 2) (.cons (.var 4) .nil))))
(.cons (.expr (.meth .append (.var 3) (.cons (.tup (.cons (.var 2) (.cons (.var 6) (.cons (.var 1) (.cons (.var 5) (.cons (.lc (.var 7) (.pr (.nm 7) (.nm 8)) (.seq (.call "_law_speeds" (.cons (.var 0) (.cons (.var 1) .nil)))) .none [7, 8]) .nil)))))) .nil)))
(.cons (.asg (.pr (.nm 1) (.nm 2)) (.tup (.cons (.call "_law_moved" (.cons (.var 1) (.cons (.var 5) (.cons (.var 4) .nil)))) (.cons (.var 6) .nil))))
.nil))))
def d__law_spans : Def := { name := "_law_spans", ps := ["brigade", "places"], n := 9, body :=
(.cons (.asg (.pr (.nm 2) (.nm 3)) (.tup (.cons (.tup (.cons (.cst (.int 0)) (.cons (.cst (.int 1)) .nil))) (.cons (.lst .nil) .nil))))
(.cons (.while_ (.cmp .ne (.idx (.var 1) (.neg (.cst (.int 1)))) (.tup (.cons (.cst (.int 1)) (.cons (.cst (.int 1)) .nil)))) l__law_spans_0)
(.cons (.ret (.tup (.cons (.var 3) (.cons (.var 1) .nil))))
.nil))) }
def d_is_timetable : Def := { name := "is_timetable", ps := ["value"], n := 6, body :=
(.cons (.ife (.or (.nt (.call "is_tuple" (.cons (.var 0) (.cons (.cst (.int 1)) (.cons (.glob "MOST_ENTRIES") .nil))))) (.nt (.prim .all (.cons (.lc (.call "is_tuple" (.cons (.var 1) (.cons (.cst (.int 2)) (.cons (.cst (.int 2)) .nil)))) (.nm 1) (.seq (.var 0)) .none [1]) .nil))))
(.cons (.ret (.cst (.bl false)))
.nil)
.nil)
(.cons (.ife (.or (.nt (.prim .all (.cons (.lc (.and (.call "is_integer" (.cons (.var 2) .nil)) (.call "is_a_brigade" (.cons (.var 3) .nil))) (.pr (.nm 2) (.nm 3)) (.seq (.var 0)) .none [2, 3]) .nil))) (.cmp .ne (.idx (.idx (.var 0) (.cst (.int 0))) (.cst (.int 0))) (.cst (.int 0))))
(.cons (.ret (.cst (.bl false)))
.nil)
.nil)
(.cons (.ret (.prim .all (.cons (.lc (.cmp .lt (.idx (.var 4) (.cst (.int 0))) (.idx (.var 5) (.cst (.int 0)))) (.pr (.nm 4) (.nm 5)) (.zip (.var 0) (.slc (.var 0) (.some (.cst (.int 1))) .none)) .none [4, 5]) .nil)))
.nil))) }
def d_need_brigade : Def := { name := "need_brigade", ps := ["brigade"], n := 1, body :=
(.cons (.ife (.nt (.call "is_a_brigade" (.cons (.var 0) .nil)))
(.cons (.raise "InvalidBrigade" (.call "anew" (.cons (.var 0) .nil)))
.nil)
.nil)
.nil) }
def d_are_places_of : Def := { name := "are_places_of", ps := ["value", "many"], n := 3, body :=
(.cons (.ife (.or (.nt (.call "is_tuple" (.cons (.var 0) (.cons (.var 1) (.cons (.var 1) .nil))))) (.nt (.prim .all (.cons (.lc (.call "is_between" (.cons (.var 2) (.cons (.glob "ZERO") (.cons (.glob "ONE") .nil)))) (.nm 2) (.seq (.var 0)) .none [2]) .nil))))
(.cons (.ret (.cst (.bl false)))
.nil)
.nil)
(.cons (.ret (.call "are_not_falling" (.cons (.var 0) .nil)))
.nil)) }
def d_brigade_for : Def := { name := "brigade_for", ps := ["timetable", "k"], n := 4, body :=
(.cons (.ret (.idx (.lc (.var 3) (.pr (.nm 2) (.nm 3)) (.seq (.var 0)) (.some (.cmp .le (.var 2) (.var 1))) [2, 3]) (.neg (.cst (.int 1)))))
.nil) }
def l_stepped_0 : Ss :=
(.cons (.asg (.pr (.nm 3) (.nm 4)) (.call "next_moment" (.cons (.var 0) (.cons (.var 1) .nil))))
(.cons (.asg (.pr (.nm 1) (.nm 2)) (.tup (.cons (.call "moved" (.cons (.var 1) (.cons (.var 4) (.cons (.var 3) .nil)))) (.cons (.call "plus" (.cons (.var 2) (.cons (.var 3) .nil))) .nil))))
.nil))
def d_stepped : Def := { name := "stepped", ps := ["brigade", "places"], n := 5, body :=
(.cons (.asg (.nm 2) (.glob "ZERO"))
(.cons (.while_ (.cmp .ne (.idx (.var 1) (.neg (.cst (.int 1)))) (.glob "ONE")) l_stepped_0)
(.cons (.ret (.tup (.cons (.var 2) (.cons (.var 1) .nil))))
.nil))) }
def d_fit_for : Def := { name := "fit_for", ps := ["places", "many"], n := 2, body :=
(.cons (.ife (.cmp .lt (.var 1) (.prim .len (.cons (.var 0) .nil)))
(.cons (.ret (.slc (.var 0) (.some (.bin .sub (.prim .len (.cons (.var 0) .nil)) (.var 1))) .none))
.nil)
.nil)
(.cons (.ret (.bin .add (.bin .mul (.tup (.cons (.glob "ZERO") .nil)) (.bin .sub (.var 1) (.prim .len (.cons (.var 0) .nil)))) (.var 0)))
.nil)) }
def d_handed : Def := { name := "handed", ps := ["places"], n := 1, body :=
(.cons (.ret (.bin .add (.tup (.cons (.glob "ZERO") .nil)) (.prim .tuple (.cons (.slc (.var 0) .none (.some (.neg (.cst (.int 1))))) .nil))))
.nil) }
def d_is_fraction : Def := { name := "is_fraction", ps := ["value"], n := 1, body :=
(.cons (.ife (.or (.nt (.call "is_tuple" (.cons (.var 0) (.cons (.cst (.int 2)) (.cons (.cst (.int 2)) .nil))))) (.or (.nt (.call "is_integer" (.cons (.idx (.var 0) (.cst (.int 0))) .nil))) (.nt (.call "is_integer" (.cons (.idx (.var 0) (.cst (.int 1))) .nil)))))
(.cons (.ret (.cst (.bl false)))
.nil)
.nil)
(.cons (.ret (.and (.cmp .ge (.idx (.var 0) (.cst (.int 1))) (.cst (.int 1))) (.cmp .eq (.prim .gcd (.cons (.idx (.var 0) (.cst (.int 0))) (.cons (.idx (.var 0) (.cst (.int 1))) .nil))) (.cst (.int 1)))))
.nil)) }
def d_make : Def := { name := "make", ps := ["above", "below"], n := 3, body :=
(.cons (.ife (.cmp .lt (.var 1) (.cst (.int 0)))
(.cons (.asg (.pr (.nm 0) (.nm 1)) (.tup (.cons (.neg (.var 0)) (.cons (.neg (.var 1)) .nil))))
.nil)
.nil)
(.cons (.asg (.nm 2) (.prim .gcd (.cons (.var 0) (.cons (.var 1) .nil))))
(.cons (.ret (.tup (.cons (.bin .fdiv (.var 0) (.var 2)) (.cons (.bin .fdiv (.var 1) (.var 2)) .nil))))
.nil))) }
def l__law_moment_0 : Ss :=
(.cons (.asg (.nm 10) (.bin .add (.lc (.var 9) (.nm 9) (.seq (.var 2)) (.some (.call "_law_less" (.cons (.var 8) (.cons (.var 9) .nil)))) [9]) (.lst (.cons (.tup (.cons (.cst (.int 1)) (.cons (.cst (.int 1)) .nil))) .nil))))
(.cons (.ife (.cmp .ne (.var 8) (.tup (.cons (.cst (.int 1)) (.cons (.cst (.int 1)) .nil))))
(.cons (.expr (.meth .append (.var 3) (.cons (.call "_law_div" (.cons (.call "_law_sub" (.cons (.idx (.var 10) (.cst (.int 0))) (.cons (.var 8) .nil))) (.cons (.idx (.var 6) (.var 7)) .nil))) .nil)))
.nil)
.nil)
(.cons (.ife (.and (.cmp .lt (.bin .add (.var 7) (.cst (.int 1))) (.prim .len (.cons (.var 1) .nil))) (.and (.call "_law_less" (.cons (.var 8) (.cons (.idx (.var 1) (.bin .add (.var 7) (.cst (.int 1)))) .nil))) (.call "_law_less" (.cons (.idx (.var 6) (.bin .add (.var 7) (.cst (.int 1)))) (.cons (.idx (.var 6) (.var 7)) .nil)))))
(.cons (.expr (.meth .append (.var 3) (.cons (.call "_law_div" (.cons (.call "_law_sub" (.cons (.idx (.var 1) (.bin .add (.var 7) (.cst (.int 1)))) (.cons (.var 8) .nil))) (.cons (.call "_law_sub" (.cons (.idx (.var 6) (.var 7)) (.cons (.idx (.var 6) (.bin .add (.var 7) (.cst (.int 1)))) .nil))) .nil))) .nil)))
.nil)
.nil)
.nil)))
def d__law_moment : Def := { name := "_law_moment", ps := ["brigade", "places"], n := 11, body :=
(.cons (.asg (.pr (.nm 2) (.nm 3)) (.tup (.cons (.idx (.var 0) (.cst (.int 0))) (.cons (.lst .nil) .nil))))
(.cons (.asg (.nm 6) (.lc (.var 5) (.pr (.nm 4) (.nm 5)) (.seq (.call "_law_speeds" (.cons (.var 0) (.cons (.var 1) .nil)))) .none [4, 5]))
(.cons (.for_ (.pr (.nm 7) (.nm 8)) (.enum (.var 1)) l__law_moment_0)
(.cons (.ret (.tup (.cons (.call "_law_least" (.cons (.var 3) .nil)) (.cons (.var 6) .nil))))
.nil)))) }
def l__law_speeds_0 : Ss :=
(.cons (.asg (.nm 6) (.idx (.idx (.var 3) (.var 5)) (.call "_law_piece" (.cons (.var 2) (.cons (.idx (.var 1) (.var 5)) .nil)))))
(.cons (.asg (.nm 7) (.var 6))
(.cons (.ife (.and (.cmp .ne (.var 4) (.lst .nil)) (.cmp .eq (.idx (.var 1) (.var 5)) (.idx (.var 1) (.bin .add (.var 5) (.cst (.int 1))))))
(.cons (.asg (.nm 7) (.call "_law_least" (.cons (.lst (.cons (.var 6) (.cons (.idx (.idx (.var 4) (.cst (.int 0))) (.cst (.int 1))) .nil))) .nil)))
.nil)
.nil)
(.cons (.asg (.nm 4) (.bin .add (.lst (.cons (.tup (.cons (.var 6) (.cons (.var 7) .nil))) .nil)) (.var 4)))
.nil))))
def d__law_speeds : Def := { name := "_law_speeds", ps := ["brigade", "places"], n := 8, body :=
(.cons (.asg (.pr (.nm 2) (.nm 3)) (.var 0))
(.cons (.asg (.nm 4) (.lst .nil))
(.cons (.for_ (.nm 5) (.rng3 (.bin .sub (.prim .len (.cons (.var 1) .nil)) (.cst (.int 1))) (.neg (.cst (.int 1))) (.neg (.cst (.int 1)))) l__law_speeds_0)
(.cons (.ret (.var 4))
.nil)))) }
def d__law_moved : Def := { name := "_law_moved", ps := ["places", "speeds", "time"], n := 5, body :=
(.cons (.ret (.prim .tuple (.cons (.lc (.call "_law_add" (.cons (.var 3) (.cons (.call "_law_mul" (.cons (.var 4) (.cons (.var 2) .nil))) .nil))) (.pr (.nm 3) (.nm 4)) (.zip (.var 0) (.var 1)) .none [3, 4]) .nil)))
.nil) }
def d_is_tuple : Def := { name := "is_tuple", ps := ["value", "low", "high"], n := 3, body :=
(.cons (.ret (.and (.prim (.isinst ["tuple"]) (.cons (.var 0) .nil)) (.chn .le .le (.var 1) (.prim .len (.cons (.var 0) .nil)) (.var 2))))
.nil) }
def d_is_integer : Def := { name := "is_integer", ps := ["value"], n := 1, body :=
(.cons (.ret (.and (.prim (.isinst ["int"]) (.cons (.var 0) .nil)) (.nt (.prim (.isinst ["bool"]) (.cons (.var 0) .nil)))))
.nil) }
def d_is_a_brigade (mp : Str) : Def := { name := "is_a_brigade", ps := ["value"], n := 2, body :=
(.cons (.ife (.or (.nt (.call "is_tuple" (.cons (.var 0) (.cons (.cst (.int 2)) (.cons (.cst (.int 2)) .nil))))) (.or (.nt (.call "are_cuts" (.cons (.idx (.var 0) (.cst (.int 0))) .nil))) (.nt (.call "is_tuple" (.cons (.idx (.var 0) (.cst (.int 1))) (.cons (.cst (.int 1)) (.cons (.glob mp) .nil)))))))
(.cons (.ret (.cst (.bl false)))
.nil)
.nil)
(.cons (.ret (.prim .all (.cons (.lc (.call "are_speeds" (.cons (.var 1) (.cons (.bin .add (.prim .len (.cons (.idx (.var 0) (.cst (.int 0))) .nil)) (.cst (.int 1))) .nil))) (.nm 1) (.seq (.idx (.var 0) (.cst (.int 1)))) .none [1]) .nil)))
.nil)) }
def d_is_between : Def := { name := "is_between", ps := ["value", "low", "high"], n := 3, body :=
(.cons (.ret (.and (.call "is_fraction" (.cons (.var 0) .nil)) (.and (.call "is_at_most" (.cons (.var 1) (.cons (.var 0) .nil))) (.call "is_at_most" (.cons (.var 0) (.cons (.var 2) .nil))))))
.nil) }
def d_are_not_falling : Def := { name := "are_not_falling", ps := ["fractions"], n := 3, body :=
(.cons (.ret (.prim .all (.cons (.lc (.call "is_at_most" (.cons (.var 1) (.cons (.var 2) .nil))) (.pr (.nm 1) (.nm 2)) (.zip (.var 0) (.slc (.var 0) (.some (.cst (.int 1))) .none)) .none [1, 2]) .nil)))
.nil) }
def l_next_moment_0 : Ss :=
(.cons (.ife (.cmp .ne (.var 5) (.glob "ONE"))
(.cons (.expr (.meth .append (.var 3) (.cons (.call "over" (.cons (.call "less" (.cons (.call "next_mark" (.cons (.idx (.var 0) (.cst (.int 0))) (.cons (.var 5) .nil))) (.cons (.var 5) .nil))) (.cons (.idx (.var 2) (.var 4)) .nil))) .nil)))
.nil)
.nil)
(.cons (.ife (.and (.cmp .lt (.bin .add (.var 4) (.cst (.int 1))) (.prim .len (.cons (.var 1) .nil))) (.call "is_below" (.cons (.idx (.var 2) (.bin .add (.var 4) (.cst (.int 1)))) (.cons (.idx (.var 2) (.var 4)) .nil))))
(.cons (.asg (.nm 6) (.call "less" (.cons (.idx (.var 1) (.bin .add (.var 4) (.cst (.int 1)))) (.cons (.var 5) .nil))))
(.cons (.ife (.cmp .ne (.var 6) (.glob "ZERO"))
(.cons (.expr (.meth .append (.var 3) (.cons (.call "over" (.cons (.var 6) (.cons (.call "less" (.cons (.idx (.var 2) (.var 4)) (.cons (.idx (.var 2) (.bin .add (.var 4) (.cst (.int 1)))) .nil))) .nil))) .nil)))
.nil)
.nil)
.nil))
.nil)
.nil))
def d_next_moment : Def := { name := "next_moment", ps := ["brigade", "places"], n := 7, body :=
(.cons (.asg (.pr (.nm 2) (.nm 3)) (.tup (.cons (.call "real_speeds" (.cons (.var 0) (.cons (.var 1) .nil))) (.cons (.lst .nil) .nil))))
(.cons (.for_ (.pr (.nm 4) (.nm 5)) (.enum (.var 1)) l_next_moment_0)
(.cons (.ret (.tup (.cons (.call "least_of" (.cons (.var 3) .nil)) (.cons (.var 2) .nil))))
.nil))) }
def d_moved : Def := { name := "moved", ps := ["places", "speeds", "time"], n := 5, body :=
(.cons (.ret (.prim .tuple (.cons (.lc (.call "plus" (.cons (.var 3) (.cons (.call "times" (.cons (.var 4) (.cons (.var 2) .nil))) .nil))) (.pr (.nm 3) (.nm 4)) (.zip (.var 0) (.var 1)) .none [3, 4]) .nil)))
.nil) }
def d__law_div : Def := { name := "_law_div", ps := ["x", "y"], n := 2, body :=
(.cons (.ret (.call "_law_make" (.cons (.bin .mul (.idx (.var 0) (.cst (.int 0))) (.idx (.var 1) (.cst (.int 1)))) (.cons (.bin .mul (.idx (.var 0) (.cst (.int 1))) (.idx (.var 1) (.cst (.int 0)))) .nil))))
.nil) }
def d__law_sub : Def := { name := "_law_sub", ps := ["x", "y"], n := 2, body :=
(.cons (.ret (.call "_law_make" (.cons (.bin .sub (.bin .mul (.idx (.var 0) (.cst (.int 0))) (.idx (.var 1) (.cst (.int 1)))) (.bin .mul (.idx (.var 1) (.cst (.int 0))) (.idx (.var 0) (.cst (.int 1))))) (.cons (.bin .mul (.idx (.var 0) (.cst (.int 1))) (.idx (.var 1) (.cst (.int 1)))) .nil))))
.nil) }
def l__law_least_0 : Ss :=
(.cons (.ife (.call "_law_less" (.cons (.var 2) (.cons (.var 1) .nil)))
(.cons (.asg (.nm 1) (.var 2))
.nil)
.nil)
.nil)
def d__law_least : Def := { name := "_law_least", ps := ["fractions"], n := 3, body :=
(.cons (.asg (.nm 1) (.idx (.var 0) (.cst (.int 0))))
(.cons (.for_ (.nm 2) (.seq (.slc (.var 0) (.some (.cst (.int 1))) .none)) l__law_least_0)
(.cons (.ret (.var 1))
.nil))) }
def d__law_piece : Def := { name := "_law_piece", ps := ["cuts", "place"], n := 3, body :=
(.cons (.ret (.prim .len (.cons (.lc (.var 2) (.nm 2) (.seq (.var 0)) (.some (.nt (.call "_law_less" (.cons (.var 1) (.cons (.var 2) .nil))))) [2]) .nil)))
.nil) }
def d_are_cuts : Def := { name := "are_cuts", ps := ["value"], n := 2, body :=
(.cons (.ife (.or (.nt (.call "is_tuple" (.cons (.var 0) (.cons (.cst (.int 0)) (.cons (.glob "MOST_CUTS") .nil))))) (.nt (.prim .all (.cons (.lc (.call "is_fraction" (.cons (.var 1) .nil)) (.nm 1) (.seq (.var 0)) .none [1]) .nil))))
(.cons (.ret (.cst (.bl false)))
.nil)
.nil)
(.cons (.ret (.and (.call "are_growing" (.cons (.var 0) .nil)) (.prim .all (.cons (.lc (.and (.call "is_below" (.cons (.glob "ZERO") (.cons (.var 1) .nil))) (.call "is_below" (.cons (.var 1) (.cons (.glob "ONE") .nil)))) (.nm 1) (.seq (.var 0)) .none [1]) .nil))))
.nil)) }
def d_are_speeds : Def := { name := "are_speeds", ps := ["value", "many"], n := 3, body :=
(.cons (.ret (.and (.call "is_tuple" (.cons (.var 0) (.cons (.var 1) (.cons (.var 1) .nil)))) (.prim .all (.cons (.lc (.call "is_positive" (.cons (.var 2) .nil)) (.nm 2) (.seq (.var 0)) .none [2]) .nil))))
.nil) }
def d_is_at_most : Def := { name := "is_at_most", ps := ["one", "other"], n := 2, body :=
(.cons (.ret (.cmp .le (.bin .mul (.idx (.var 0) (.cst (.int 0))) (.idx (.var 1) (.cst (.int 1)))) (.bin .mul (.idx (.var 1) (.cst (.int 0))) (.idx (.var 0) (.cst (.int 1))))))
.nil) }
def l_real_speeds_0 : Ss :=
(.cons (.asg (.nm 5) (.and (.cmp .eq (.idx (.var 1) (.var 4)) (.idx (.var 1) (.bin .add (.var 4) (.cst (.int 1))))) (.call "is_below" (.cons (.idx (.var 3) (.cst (.int 0))) (.cons (.idx (.var 2) (.var 4)) .nil)))))
(.cons (.asg (.nm 3) (.bin .add (.lst (.cons (.ife (.var 5) (.idx (.var 3) (.cst (.int 0))) (.idx (.var 2) (.var 4))) .nil)) (.var 3)))
.nil))
def d_real_speeds : Def := { name := "real_speeds", ps := ["brigade", "places"], n := 6, body :=
(.cons (.asg (.nm 2) (.call "own_speeds" (.cons (.var 0) (.cons (.var 1) .nil))))
(.cons (.asg (.nm 3) (.lst (.cons (.idx (.var 2) (.neg (.cst (.int 1)))) .nil)))
(.cons (.for_ (.nm 4) (.rng3 (.bin .sub (.prim .len (.cons (.var 2) .nil)) (.cst (.int 2))) (.neg (.cst (.int 1))) (.neg (.cst (.int 1)))) l_real_speeds_0)
(.cons (.ret (.var 3))
.nil)))) }
def d_over : Def := { name := "over", ps := ["one", "other"], n := 2, body :=
(.cons (.ret (.call "make" (.cons (.bin .mul (.idx (.var 0) (.cst (.int 0))) (.idx (.var 1) (.cst (.int 1)))) (.cons (.bin .mul (.idx (.var 0) (.cst (.int 1))) (.idx (.var 1) (.cst (.int 0)))) .nil))))
.nil) }
def d_less : Def := { name := "less", ps := ["one", "other"], n := 2, body :=
(.cons (.ret (.call "make" (.cons (.bin .sub (.bin .mul (.idx (.var 0) (.cst (.int 0))) (.idx (.var 1) (.cst (.int 1)))) (.bin .mul (.idx (.var 1) (.cst (.int 0))) (.idx (.var 0) (.cst (.int 1))))) (.cons (.bin .mul (.idx (.var 0) (.cst (.int 1))) (.idx (.var 1) (.cst (.int 1)))) .nil))))
.nil) }
def d_next_mark : Def := { name := "next_mark", ps := ["cuts", "place"], n := 4, body :=
(.cons (.asg (.nm 3) (.lc (.var 2) (.nm 2) (.seq (.var 0)) (.some (.call "is_below" (.cons (.var 1) (.cons (.var 2) .nil)))) [2]))
(.cons (.ret (.ife (.cmp .ne (.var 3) (.lst .nil)) (.idx (.var 3) (.cst (.int 0))) (.glob "ONE")))
.nil)) }
def l_least_of_0 : Ss :=
(.cons (.ife (.call "is_below" (.cons (.var 2) (.cons (.var 1) .nil)))
(.cons (.asg (.nm 1) (.var 2))
.nil)
.nil)
.nil)
def d_least_of : Def := { name := "least_of", ps := ["fractions"], n := 3, body :=
(.cons (.asg (.nm 1) (.idx (.var 0) (.cst (.int 0))))
(.cons (.for_ (.nm 2) (.seq (.slc (.var 0) (.some (.cst (.int 1))) .none)) l_least_of_0)
(.cons (.ret (.var 1))
.nil))) }
def d_times : Def := { name := "times", ps := ["one", "other"], n := 2, body :=
(.cons (.ret (.call "make" (.cons (.bin .mul (.idx (.var 0) (.cst (.int 0))) (.idx (.var 1) (.cst (.int 0)))) (.cons (.bin .mul (.idx (.var 0) (.cst (.int 1))) (.idx (.var 1) (.cst (.int 1)))) .nil))))
.nil) }
def d_are_growing : Def := { name := "are_growing", ps := ["fractions"], n := 3, body :=
(.cons (.ret (.prim .all (.cons (.lc (.call "is_below" (.cons (.var 1) (.cons (.var 2) .nil))) (.pr (.nm 1) (.nm 2)) (.zip (.var 0) (.slc (.var 0) (.some (.cst (.int 1))) .none)) .none [1, 2]) .nil)))
.nil) }
def d_is_positive : Def := { name := "is_positive", ps := ["value"], n := 1, body :=
(.cons (.ret (.and (.call "is_fraction" (.cons (.var 0) .nil)) (.cmp .gt (.idx (.var 0) (.cst (.int 0))) (.cst (.int 0)))))
.nil) }
def d_own_speeds : Def := { name := "own_speeds", ps := ["brigade", "places"], n := 6, body :=
(.cons (.asg (.pr (.nm 2) (.nm 3)) (.var 0))
(.cons (.ret (.lc (.idx (.var 4) (.call "piece_at" (.cons (.var 2) (.cons (.var 5) .nil)))) (.pr (.nm 4) (.nm 5)) (.zip (.var 3) (.var 1)) .none [4, 5]))
.nil)) }
def d_piece_at : Def := { name := "piece_at", ps := ["cuts", "place"], n := 3, body :=
(.cons (.ret (.prim .len (.cons (.lc (.var 2) (.nm 2) (.seq (.var 0)) (.some (.nt (.call "is_below" (.cons (.var 1) (.cons (.var 2) .nil))))) [2]) .nil)))
.nil) }
def d_anew : Def := { name := "anew", ps := ["value"], n := 2, body :=
(.cons (.ife (.prim (.isinst ["list"]) (.cons (.var 0) .nil))
(.cons (.ret (.lc (.call "anew" (.cons (.var 1) .nil)) (.nm 1) (.seq (.var 0)) .none [1]))
.nil)
.nil)
(.cons (.ife (.prim (.isinst ["tuple"]) (.cons (.var 0) .nil))
(.cons (.ret (.prim .tuple (.cons (.lc (.call "anew" (.cons (.var 1) .nil)) (.nm 1) (.seq (.var 0)) .none [1]) .nil)))
.nil)
.nil)
(.cons (.ret (.var 0))
.nil))) }
end WT
set_option maxHeartbeats 8000000
/-! W1: fractions as rational numbers; make and what rests on it. -/
namespace Wk
open PySem (Str)
open Bk
open scoped Rat
def frV (q : Rat) : Val := .tup [.int q.num, .int q.den]
def Sm (q : Rat) : Prop := q.num.natAbs < 2 ^ 4000 ∧ q.den < 2 ^ 4000
theorem ok_of_wp {α : Type} {o : Out α} {v : α} {s : Sto} (h : o.wp fun a s' => a = v ∧ s' = s) : o = .ok v s := by
  obtain ⟨a, s', e, rfl, rfl⟩ := wp_get h
  exact e
theorem wp_rw {α : Type} {o : Out α} {v : α} {s : Sto} {Q : α → Sto → Prop} (e : o = .ok v s) (h : Q v s) : o.wp Q := by rw [e]; exact h
theorem nd_div {a b : Int} (hb : 0 < b) : (a /. b).num = a / (Nat.gcd a.natAbs b.natAbs : Nat) ∧ ((a /. b).den : Int) = b / (Nat.gcd a.natAbs b.natAbs : Nat) := by
  have e : b.gcd a = Nat.gcd a.natAbs b.natAbs := by rw [Int.gcd, Nat.gcd_comm]
  refine ⟨?_, ?_⟩
  · rw [Rat.num_divInt, Int.sign_eq_one_of_pos hb, Int.one_mul, e]
  · rw [Rat.den_divInt, if_neg (by omega), e]
    have : (b.natAbs : Int) = b := by omega
    rw [Int.natCast_ediv, this]
theorem nd_bd {a b : Int} {n : Nat} (hb : 0 < b) (h1 : a.natAbs < n) (h2 : b.natAbs < n) : (a /. b).num.natAbs < n ∧ (a /. b).den < n := by
  obtain ⟨e1, e2⟩ := nd_div (a := a) hb
  have g1 : 0 < Nat.gcd a.natAbs b.natAbs := Nat.gcd_pos_of_pos_right _ (by omega)
  refine ⟨?_, ?_⟩
  · rw [e1]
    refine Nat.lt_of_le_of_lt ?_ h1
    exact Int.natAbs_ediv_le_natAbs _ _
  · have h3 : ((a /. b).den : Int).natAbs ≤ b.natAbs := by rw [e2]; exact Int.natAbs_ediv_le_natAbs _ _
    omega
theorem bd_le {m n : Nat} (x : Nat) (h : x < 2 ^ m) (hm : m ≤ n) : x < 2 ^ n := Nat.lt_of_lt_of_le h (Nat.pow_le_pow_right (by decide) hm)
theorem bd_mul {x y : Int} {m n : Nat} (hx : x.natAbs < 2 ^ m) (hy : y.natAbs < 2 ^ n) : (x * y).natAbs < 2 ^ (m + n) := by
  rw [Int.natAbs_mul, Nat.pow_add]
  exact Nat.mul_lt_mul'' hx hy
theorem bd_add {x y : Int} {m : Nat} (hx : x.natAbs < 2 ^ m) (hy : y.natAbs < 2 ^ m) : (x + y).natAbs < 2 ^ (m + 1) := by
  have := Int.natAbs_add_le x y
  rw [Nat.pow_succ]; omega
theorem bd_sub {x y : Int} {m : Nat} (hx : x.natAbs < 2 ^ m) (hy : y.natAbs < 2 ^ m) : (x - y).natAbs < 2 ^ (m + 1) := by
  have := Int.natAbs_sub_le x y
  rw [Nat.pow_succ]; omega
theorem fr_inj {x y : Rat} (h : frV x = frV y) : x = y := by
  simp only [frV, Val.tup.injEq, List.cons.injEq, Val.int.injEq, and_true] at h
  exact Rat.ext h.1 (by omega)
theorem den_pos' (q : Rat) : (0 : Int) < q.den := by have := q.den_pos; omega
/-- the defs that make fractions, as they stand in the program -/
structure FP (P : Prog) : Prop where
  make : P.find "make" = some WT.d_make
  plus : P.find "plus" = some WT.d_plus
  less : P.find "less" = some WT.d_less
  times : P.find "times" = some WT.d_times
  over : P.find "over" = some WT.d_over
  is_below : P.find "is_below" = some WT.d_is_below
  is_at_most : P.find "is_at_most" = some WT.d_is_at_most
  zero : P.consts.lookup ("ZERO" : Str) = some (.tup [.int 0, .int 1])
  one : P.consts.lookup ("ONE" : Str) = some (.tup [.int 1, .int 1])
/-- of these alone -/
structure FB (P : Prog) : Prop where
  is_below : P.find "is_below" = some WT.d_is_below
  zero : P.consts.lookup ("ZERO" : Str) = some (.tup [.int 0, .int 1])
  one : P.consts.lookup ("ONE" : Str) = some (.tup [.int 1, .int 1])
theorem FP.fb {P : Prog} (F : FP P) : FB P := ⟨F.is_below, F.zero, F.one⟩
theorem fr0 : frV 0 = .tup [.int 0, .int 1] := rfl
theorem fr1 : frV 1 = .tup [.int 1, .int 1] := rfl
section
variable {P : Prog} (F : FP P) {k : Nat} {s : Sto} {x y : Rat}
include F
theorem w_make {a b : Int} (hb : 0 < b) (h2 : b.natAbs < 2 ^ 8500) : callN P (k + 1) "make" [.int a, .int b] s = .ok (frV (a /. b)) s := by
  have g1 : 0 < Nat.gcd a.natAbs b.natAbs := Nat.gcd_pos_of_pos_right _ (by omega)
  have g2 : Nat.gcd a.natAbs b.natAbs ≤ b.natAbs := Nat.gcd_le_right _ (by omega)
  have dv : DivOk ((Nat.gcd a.natAbs b.natAbs : Nat) : Int) := divOk_of (n := 8500) (by omega) (by rw [Int.natAbs_natCast]; exact Nat.lt_of_le_of_lt g2 h2) (by decide)
  obtain ⟨e1, e2⟩ := nd_div (a := a) hb
  have nb : ¬ b < 0 := by omega
  rw [callN_def F.make]
  simp [WT.d_make, startE, execs, exec, evalE, evalEs, evalT, asgT, nb, bin_fdiv dv, finish]
  rw [if_pos (by decide)]
  simp [frV, e1, e2]
theorem w_plus (hx : Sm x) (hy : Sm y) : callN P (k + 2) "plus" [frV x, frV y] s = .ok (frV (x + y)) s := by
  have m1 : MulOk x.num y.den := mulOk_b hx.1 (by simpa using hy.2) (by decide)
  have m2 : MulOk y.num x.den := mulOk_b hy.1 (by simpa using hx.2) (by decide)
  have m3 : MulOk (x.den : Int) y.den := mulOk_b (by simpa using hx.2) (by simpa using hy.2) (by decide)
  have b1 : (0 : Int) < (x.den : Int) * y.den := Int.mul_pos (den_pos' x) (den_pos' y)
  have b2 : ((x.den : Int) * y.den).natAbs < 2 ^ 8500 := bd_le _ (bd_mul (m := 4000) (n := 4000) (by simpa using hx.2) (by simpa using hy.2)) (by decide)
  rw [callN_def F.plus]
  simp [WT.d_plus, startE, execs, exec, evalE, evalEs, frV, bin_mul m1, bin_mul m2, bin_mul m3, finish, w_make F b1 b2]
  have e : (x.num * y.den + y.num * x.den) /. ((x.den : Int) * y.den) = x + y := by
    rw [Rat.add_def', ← Rat.divInt_ofNat, Int.natCast_mul]
  rw [e]
  exact ⟨rfl, rfl⟩
theorem w_less (hx : Sm x) (hy : Sm y) : callN P (k + 2) "less" [frV x, frV y] s = .ok (frV (x - y)) s := by
  have m1 : MulOk x.num y.den := mulOk_b hx.1 (by simpa using hy.2) (by decide)
  have m2 : MulOk y.num x.den := mulOk_b hy.1 (by simpa using hx.2) (by decide)
  have m3 : MulOk (x.den : Int) y.den := mulOk_b (by simpa using hx.2) (by simpa using hy.2) (by decide)
  have b1 : (0 : Int) < (x.den : Int) * y.den := Int.mul_pos (den_pos' x) (den_pos' y)
  have b2 : ((x.den : Int) * y.den).natAbs < 2 ^ 8500 := bd_le _ (bd_mul (m := 4000) (n := 4000) (by simpa using hx.2) (by simpa using hy.2)) (by decide)
  rw [callN_def F.less]
  simp [WT.d_less, startE, execs, exec, evalE, evalEs, frV, bin_mul m1, bin_mul m2, bin_mul m3, finish, w_make F b1 b2]
  have e : (x.num * y.den - y.num * x.den) /. ((x.den : Int) * y.den) = x - y := by
    rw [Rat.sub_def', ← Rat.divInt_ofNat, Int.natCast_mul]
  rw [e]
  exact ⟨rfl, rfl⟩
theorem w_times (hx : Sm x) (hy : Sm y) : callN P (k + 2) "times" [frV x, frV y] s = .ok (frV (x * y)) s := by
  have m1 : MulOk x.num y.num := mulOk_b hx.1 hy.1 (by decide)
  have m3 : MulOk (x.den : Int) y.den := mulOk_b (by simpa using hx.2) (by simpa using hy.2) (by decide)
  have b1 : (0 : Int) < (x.den : Int) * y.den := Int.mul_pos (den_pos' x) (den_pos' y)
  have b2 : ((x.den : Int) * y.den).natAbs < 2 ^ 8500 := bd_le _ (bd_mul (m := 4000) (n := 4000) (by simpa using hx.2) (by simpa using hy.2)) (by decide)
  rw [callN_def F.times]
  simp [WT.d_times, startE, execs, exec, evalE, evalEs, frV, bin_mul m1, bin_mul m3, finish, w_make F b1 b2]
  have e : (x.num * y.num) /. ((x.den : Int) * y.den) = x * y := by
    rw [Rat.mul_def', ← Rat.divInt_ofNat, Int.natCast_mul]
  rw [e]
  exact ⟨rfl, rfl⟩
theorem div_rat (hy : 0 < y) : (x.num * y.den) /. ((x.den : Int) * y.num) = x / y := by
  rw [Rat.div_def, Rat.inv_def, ← Rat.num_divInt_den x, Rat.divInt_mul_divInt, Rat.num_divInt_den]
theorem w_over (hx : Sm x) (hy : Sm y) (y0 : 0 < y) : callN P (k + 2) "over" [frV x, frV y] s = .ok (frV (x / y)) s := by
  have yn : 0 < y.num := by
    have := (Rat.lt_iff 0 y).mp y0
    simpa using this
  have m1 : MulOk x.num y.den := mulOk_b hx.1 (by simpa using hy.2) (by decide)
  have m3 : MulOk (x.den : Int) y.num := mulOk_b (by simpa using hx.2) hy.1 (by decide)
  have b1 : (0 : Int) < (x.den : Int) * y.num := Int.mul_pos (den_pos' x) yn
  have b2 : ((x.den : Int) * y.num).natAbs < 2 ^ 8500 := bd_le _ (bd_mul (m := 4000) (n := 4000) (by simpa using hx.2) hy.1) (by decide)
  rw [callN_def F.over]
  simp [WT.d_over, startE, execs, exec, evalE, evalEs, frV, bin_mul m1, bin_mul m3, finish, w_make F b1 b2]
  rw [div_rat F y0]
  exact ⟨rfl, rfl⟩
theorem w_is_below (hx : Sm x) (hy : Sm y) : callN P (k + 1) "is_below" [frV x, frV y] s = .ok (.bl (decide (x < y))) s := by
  have m1 : MulOk x.num y.den := mulOk_b hx.1 (by simpa using hy.2) (by decide)
  have m2 : MulOk y.num x.den := mulOk_b hy.1 (by simpa using hx.2) (by decide)
  rw [callN_def F.is_below]
  simp [WT.d_is_below, startE, execs, exec, evalE, evalEs, frV, bin_mul m1, bin_mul m2, finish, Rat.lt_iff x y]
theorem w_is_at_most (hx : Sm x) (hy : Sm y) : callN P (k + 1) "is_at_most" [frV x, frV y] s = .ok (.bl (decide (x ≤ y))) s := by
  have m1 : MulOk x.num y.den := mulOk_b hx.1 (by simpa using hy.2) (by decide)
  have m2 : MulOk y.num x.den := mulOk_b hy.1 (by simpa using hx.2) (by decide)
  rw [callN_def F.is_at_most]
  simp [WT.d_is_at_most, startE, execs, exec, evalE, evalEs, frV, bin_mul m1, bin_mul m2, finish, Rat.le_iff x y]
end
theorem w_is_belowB {P : Prog} (F : FB P) {k : Nat} {s : Sto} {x y : Rat} (hx : Sm x) (hy : Sm y) : callN P (k + 1) "is_below" [frV x, frV y] s = .ok (.bl (decide (x < y))) s := by
  have m1 : MulOk x.num y.den := mulOk_b hx.1 (by simpa using hy.2) (by decide)
  have m2 : MulOk y.num x.den := mulOk_b hy.1 (by simpa using hx.2) (by decide)
  rw [callN_def F.is_below]
  simp [WT.d_is_below, startE, execs, exec, evalE, evalEs, frV, bin_mul m1, bin_mul m2, finish, Rat.lt_iff x y]
end Wk
set_option maxHeartbeats 8000000
/-! W2: equality of fractions; a law's own fractions (the third family). -/
namespace Wk
open PySem (Str PyData)
open Bk
open scoped Rat
theorem eqO_fr {s : Sto} {x y : Rat} : eqO s (frV x) (frV y) = some (decide (x = y)) := by
  have h : ∀ q : Rat, PySem.SeqAt.shaped (.tuple [.int q.num, .int q.den]) = true := fun q => by
    simp [PySem.SeqAt.shaped, PyData.canLay0, PyData.canLayAll0, PyData.depth, PyData.depthAll]
  have d : ∀ q : Rat, dataOf s (frV q) = some (.tuple [.int q.num, .int q.den]) := fun q => by
    simp [frV, dataOf, dataW, dataWs]
  have e : PyData.eqv (.tuple [.int x.num, .int x.den]) (.tuple [.int y.num, .int y.den]) = decide (x = y) := by
    by_cases hxy : x = y
    · subst hxy; simp [PyData.eqv, PyData.eqvAll]
    · have : ¬ (x.num = y.num ∧ x.den = y.den) := fun ⟨a, b⟩ => hxy (Rat.ext a b)
      simp only [hxy, decide_false]
      simp [PyData.eqv, PyData.eqvAll]
      intro a b
      exact this ⟨a, by omega⟩
  simp only [eqO, d, h, and_self, if_true, e]
/-- a law's own fractions -/
structure FM (P : Prog) : Prop where
  make : P.find "_law_make" = some WT.d__law_make
structure FL (P : Prog) : Prop where
  make : P.find "_law_make" = some WT.d__law_make
  add : P.find "_law_add" = some WT.d__law_add
  sub : P.find "_law_sub" = some WT.d__law_sub
  mul : P.find "_law_mul" = some WT.d__law_mul
  div : P.find "_law_div" = some WT.d__law_div
  less : P.find "_law_less" = some WT.d__law_less
theorem FL.fm {P : Prog} (F : FL P) : FM P := ⟨F.make⟩
section
variable {P : Prog} (F : FM P) {k : Nat} {s : Sto} {x y : Rat}
include F
theorem l_makeM {a b : Int} (hb : 0 < b) (h2 : b.natAbs < 2 ^ 8500) : callN P (k + 1) "_law_make" [.int a, .int b] s = .ok (frV (a /. b)) s := by
  refine ok_of_wp ?_
  have nb : ¬ b < 0 := by omega
  rw [callN_def F.make]
  simp [WT.d__law_make, startE, execs, exec, evalE, evalEs, evalT, asgT, asgTs, nb]
  rw [if_pos (by decide)]
  simp only [Out.bind_ok, wp_ok, asgT, seqO, List.set_cons_succ, List.set_cons_zero, asgTs, List.length_cons, List.length_nil, if_true, Option.bind_some]
  simp
  have ea : (if a < 0 then -a else a) = ((a.natAbs : Nat) : Int) := by split <;> omega
  have eb : (some (Val.int b)) = some (Val.int ((b.natAbs : Nat) : Int)) := by
    rw [show ((b.natAbs : Nat) : Int) = b by omega]
  rw [ea]
  refine wp_while (fun m σ s' => ∃ u : Nat, s' = s ∧ σ = [some (.int a), some (.int b), some (.int u), some (.int m)] ∧ Nat.gcd u m = Nat.gcd a.natAbs b.natAbs) b.natAbs
    ⟨a.natAbs, rfl, by rw [← eb], rfl⟩ ?_
  rintro m σ s' ⟨u, rfl, rfl, hg⟩
  by_cases hv : m = 0
  · subst hv
    have hu : u = Nat.gcd a.natAbs b.natAbs := by simpa using hg
    have g1 : 0 < Nat.gcd a.natAbs b.natAbs := Nat.gcd_pos_of_pos_right _ (by omega)
    have g2 : Nat.gcd a.natAbs b.natAbs ≤ b.natAbs := Nat.gcd_le_right _ (by omega)
    have dv : DivOk ((Nat.gcd a.natAbs b.natAbs : Nat) : Int) := divOk_of (n := 8500) (by omega) (by rw [Int.natAbs_natCast]; exact Nat.lt_of_le_of_lt g2 h2) (by decide)
    obtain ⟨e1, e2⟩ := nd_div (a := a) hb
    simp [evalT, evalE, cmpO_ne, execs, exec, evalEs]
    rw [hu]
    simp [bin_fdiv dv]
    rw [if_pos (by decide)]
    simp [frV, e1, e2]
  · have v0 : (0 : Int) < m := by omega
    simp [evalT, evalE, cmpO_ne, hv, WT.l__law_make_0, execs, exec, evalEs, bin_mod v0]
    rw [if_pos (by decide)]
    simp [asgT, asgTs]
    exact ⟨u % m, Nat.mod_lt _ (by omega), m, ⟨rfl, by simp⟩, by rw [← hg, Nat.gcd_comm m, ← Nat.gcd_rec, Nat.gcd_comm]⟩
end
section
variable {P : Prog} (F : FL P) {k : Nat} {s : Sto} {x y : Rat}
include F
theorem l_make {a b : Int} (hb : 0 < b) (h2 : b.natAbs < 2 ^ 8500) : callN P (k + 1) "_law_make" [.int a, .int b] s = .ok (frV (a /. b)) s := l_makeM F.fm hb h2
theorem l_add (hx : Sm x) (hy : Sm y) : callN P (k + 2) "_law_add" [frV x, frV y] s = .ok (frV (x + y)) s := by
  have m1 : MulOk x.num y.den := mulOk_b hx.1 (by simpa using hy.2) (by decide)
  have m2 : MulOk y.num x.den := mulOk_b hy.1 (by simpa using hx.2) (by decide)
  have m3 : MulOk (x.den : Int) y.den := mulOk_b (by simpa using hx.2) (by simpa using hy.2) (by decide)
  have b1 : (0 : Int) < (x.den : Int) * y.den := Int.mul_pos (den_pos' x) (den_pos' y)
  have b2 : ((x.den : Int) * y.den).natAbs < 2 ^ 8500 := bd_le _ (bd_mul (m := 4000) (n := 4000) (by simpa using hx.2) (by simpa using hy.2)) (by decide)
  rw [callN_def F.add]
  simp [WT.d__law_add, startE, execs, exec, evalE, evalEs, frV, bin_mul m1, bin_mul m2, bin_mul m3, finish, l_make F b1 b2]
  have e : (x.num * y.den + y.num * x.den) /. ((x.den : Int) * y.den) = x + y := by
    rw [Rat.add_def', ← Rat.divInt_ofNat, Int.natCast_mul]
  rw [e]
  exact ⟨rfl, rfl⟩
theorem l_sub (hx : Sm x) (hy : Sm y) : callN P (k + 2) "_law_sub" [frV x, frV y] s = .ok (frV (x - y)) s := by
  have m1 : MulOk x.num y.den := mulOk_b hx.1 (by simpa using hy.2) (by decide)
  have m2 : MulOk y.num x.den := mulOk_b hy.1 (by simpa using hx.2) (by decide)
  have m3 : MulOk (x.den : Int) y.den := mulOk_b (by simpa using hx.2) (by simpa using hy.2) (by decide)
  have b1 : (0 : Int) < (x.den : Int) * y.den := Int.mul_pos (den_pos' x) (den_pos' y)
  have b2 : ((x.den : Int) * y.den).natAbs < 2 ^ 8500 := bd_le _ (bd_mul (m := 4000) (n := 4000) (by simpa using hx.2) (by simpa using hy.2)) (by decide)
  rw [callN_def F.sub]
  simp [WT.d__law_sub, startE, execs, exec, evalE, evalEs, frV, bin_mul m1, bin_mul m2, bin_mul m3, finish, l_make F b1 b2]
  have e : (x.num * y.den - y.num * x.den) /. ((x.den : Int) * y.den) = x - y := by
    rw [Rat.sub_def', ← Rat.divInt_ofNat, Int.natCast_mul]
  rw [e]
  exact ⟨rfl, rfl⟩
theorem l_mul (hx : Sm x) (hy : Sm y) : callN P (k + 2) "_law_mul" [frV x, frV y] s = .ok (frV (x * y)) s := by
  have m1 : MulOk x.num y.num := mulOk_b hx.1 hy.1 (by decide)
  have m3 : MulOk (x.den : Int) y.den := mulOk_b (by simpa using hx.2) (by simpa using hy.2) (by decide)
  have b1 : (0 : Int) < (x.den : Int) * y.den := Int.mul_pos (den_pos' x) (den_pos' y)
  have b2 : ((x.den : Int) * y.den).natAbs < 2 ^ 8500 := bd_le _ (bd_mul (m := 4000) (n := 4000) (by simpa using hx.2) (by simpa using hy.2)) (by decide)
  rw [callN_def F.mul]
  simp [WT.d__law_mul, startE, execs, exec, evalE, evalEs, frV, bin_mul m1, bin_mul m3, finish, l_make F b1 b2]
  have e : (x.num * y.num) /. ((x.den : Int) * y.den) = x * y := by
    rw [Rat.mul_def', ← Rat.divInt_ofNat, Int.natCast_mul]
  rw [e]
  exact ⟨rfl, rfl⟩
theorem l_div (hx : Sm x) (hy : Sm y) (y0 : 0 < y) : callN P (k + 2) "_law_div" [frV x, frV y] s = .ok (frV (x / y)) s := by
  have yn : 0 < y.num := by
    have := (Rat.lt_iff 0 y).mp y0
    simpa using this
  have m1 : MulOk x.num y.den := mulOk_b hx.1 (by simpa using hy.2) (by decide)
  have m3 : MulOk (x.den : Int) y.num := mulOk_b (by simpa using hx.2) hy.1 (by decide)
  have b1 : (0 : Int) < (x.den : Int) * y.num := Int.mul_pos (den_pos' x) yn
  have b2 : ((x.den : Int) * y.num).natAbs < 2 ^ 8500 := bd_le _ (bd_mul (m := 4000) (n := 4000) (by simpa using hx.2) hy.1) (by decide)
  rw [callN_def F.div]
  simp [WT.d__law_div, startE, execs, exec, evalE, evalEs, frV, bin_mul m1, bin_mul m3, finish, l_make F b1 b2]
  have e : (x.num * y.den) /. ((x.den : Int) * y.num) = x / y := by
    rw [Rat.div_def, Rat.inv_def, ← Rat.num_divInt_den x, Rat.divInt_mul_divInt, Rat.num_divInt_den]
  rw [e]
  exact ⟨rfl, rfl⟩
theorem l_less (hx : Sm x) (hy : Sm y) : callN P (k + 1) "_law_less" [frV x, frV y] s = .ok (.bl (decide (x < y))) s := by
  have m1 : MulOk x.num y.den := mulOk_b hx.1 (by simpa using hy.2) (by decide)
  have m2 : MulOk y.num x.den := mulOk_b hy.1 (by simpa using hx.2) (by decide)
  rw [callN_def F.less]
  simp [WT.d__law_less, startE, execs, exec, evalE, evalEs, frV, bin_mul m1, bin_mul m2, finish, Rat.lt_iff x y]
end
end Wk
set_option maxHeartbeats 8000000
/-! W3: sizes; comprehensions by index; pieces, marks, own and real speeds. -/
namespace Wk
open PySem (Str)
open Bk
/-- sizes of a fraction -/
def Sb (m : Nat) (q : Rat) : Prop := q.num.natAbs < 2 ^ m ∧ q.den < 2 ^ m
theorem Sb.sm {m : Nat} {q : Rat} (h : Sb m q) (hm : m ≤ 4000) : Sm q := ⟨bd_le _ h.1 hm, bd_le _ h.2 hm⟩
theorem Sb.up {m n : Nat} {q : Rat} (h : Sb m q) (hm : m ≤ n) : Sb n q := ⟨bd_le _ h.1 hm, bd_le _ h.2 hm⟩
theorem sb_div {a b : Int} {m : Nat} (hb : 0 < b) (h1 : a.natAbs < 2 ^ m) (h2 : b.natAbs < 2 ^ m) : Sb m (Rat.divInt a b) := nd_bd hb h1 h2
theorem Sb.denI {m : Nat} {q : Rat} (h : Sb m q) : ((q.den : Nat) : Int).natAbs < 2 ^ m := by simpa using h.2
theorem Sb.add {m n : Nat} {x y : Rat} (hx : Sb m x) (hy : Sb n y) : Sb (m + n + 1) (x + y) := by
  have e : x + y = Rat.divInt (x.num * y.den + y.num * x.den) ((x.den : Int) * y.den) := by rw [Rat.add_def', ← Rat.divInt_ofNat, Int.natCast_mul]
  have h1 := bd_mul hx.1 hy.denI
  have h2 := bd_mul hy.1 hx.denI
  rw [Nat.add_comm n m] at h2
  rw [e]
  exact sb_div (Int.mul_pos (den_pos' x) (den_pos' y)) (bd_add h1 h2) (bd_le _ (bd_mul hx.denI hy.denI) (by omega))
theorem Sb.sub {m n : Nat} {x y : Rat} (hx : Sb m x) (hy : Sb n y) : Sb (m + n + 1) (x - y) := by
  have e : x - y = Rat.divInt (x.num * y.den - y.num * x.den) ((x.den : Int) * y.den) := by rw [Rat.sub_def', ← Rat.divInt_ofNat, Int.natCast_mul]
  have h1 := bd_mul hx.1 hy.denI
  have h2 := bd_mul hy.1 hx.denI
  rw [Nat.add_comm n m] at h2
  rw [e]
  exact sb_div (Int.mul_pos (den_pos' x) (den_pos' y)) (bd_sub h1 h2) (bd_le _ (bd_mul hx.denI hy.denI) (by omega))
theorem Sb.mul {m n : Nat} {x y : Rat} (hx : Sb m x) (hy : Sb n y) : Sb (m + n) (x * y) := by
  have e : x * y = Rat.divInt (x.num * y.num) ((x.den : Int) * y.den) := by rw [Rat.mul_def', ← Rat.divInt_ofNat, Int.natCast_mul]
  rw [e]
  exact sb_div (Int.mul_pos (den_pos' x) (den_pos' y)) (bd_mul hx.1 hy.1) (bd_mul hx.denI hy.denI)
theorem num_pos' {y : Rat} (h : 0 < y) : 0 < y.num := by simpa using (Rat.lt_iff 0 y).mp h
theorem Sb.div {m n : Nat} {x y : Rat} (hx : Sb m x) (hy : Sb n y) (y0 : 0 < y) : Sb (m + n) (x / y) := by
  have e : Rat.divInt (x.num * y.den) ((x.den : Int) * y.num) = x / y := by
    rw [Rat.div_def, Rat.inv_def, ← Rat.num_divInt_den x, Rat.divInt_mul_divInt, Rat.num_divInt_den]
  rw [← e]
  exact sb_div (Int.mul_pos (den_pos' x) (num_pos' y0)) (bd_mul hx.1 hy.denI) (bd_mul hx.denI hy.1)
theorem sb0 {m : Nat} (h : 1 ≤ m) : Sb m 0 := ⟨by simp [Nat.two_pow_pos], by
  show 1 < 2 ^ m
  exact Nat.one_lt_two_pow (by omega)⟩
theorem sb1 {m : Nat} (h : 1 ≤ m) : Sb m 1 := ⟨by simp; omega, by
  show 1 < 2 ^ m
  exact Nat.one_lt_two_pow (by omega)⟩

/-- n fractions -/
def fvs (n : Nat) (p : Nat → Rat) : List Val := (List.range n).map fun i => frV (p i)
def fv (n : Nat) (p : Nat → Rat) : Val := .tup (fvs n p)
theorem fvs_len {n : Nat} {p : Nat → Rat} : (fvs n p).length = n := by simp [fvs]
theorem fvs_at {n i : Nat} {p : Nat → Rat} (h : i < n) : (fvs n p)[i]? = some (frV (p i)) := by simp [fvs, h]
def cutsV (C : List Rat) : Val := .tup (C.map frV)
def peopleV (n c : Nat) (v : Nat → Nat → Rat) : Val := .tup ((List.range n).map fun i => fv (c + 1) (v i))
def brV (n : Nat) (C : List Rat) (v : Nat → Nat → Rat) : Val := .tup [cutsV C, peopleV n C.length v]
/-- what is asked of a brigade's numbers -/
structure Br (n : Nat) (C : List Rat) (v : Nat → Nat → Rat) : Prop where
  n1 : 1 ≤ n
  n5 : n ≤ 5
  c5 : C.length ≤ 5
  cS : ∀ c ∈ C, Sb 10 c
  vS : ∀ i j, Sb 10 (v i j)
  vP : ∀ i j, 0 < v i j
def piece (C : List Rat) (x : Rat) : Nat := (C.filter fun c => decide (c ≤ x)).length
def mark (C : List Rat) (x : Rat) : Rat := ((C.filter fun c => decide (x < c)).head?).getD 1
theorem piece_le {C : List Rat} {x : Rat} : piece C x ≤ C.length := List.length_filter_le ..
section
variable {bd : Val → Sto → Out (Option Val)} {gd : Gd} {xs : List Val} {s : Sto} {Q : List Val → Sto → Prop}
theorem wp_lc_filter (f : Val → Option Val) (hg : gd.holds s) (hl : xs.length ≤ PySem.sizeLine) (hs : ∀ x ∈ xs, (bd x s).wp fun r s' => r = f x ∧ s' = s) (hQ : Q (xs.filterMap f) s) : (lcLoop bd gd xs [] s).wp Q := by
  refine wp_lc (fun i ys s' => s' = s ∧ ys = (xs.take i).filterMap f) ⟨rfl, by simp⟩ (fun i ys s' _ h => by rw [h.1]; exact hg) hl (fun i hi ys s' h => ?_) fun ys s' h => by rw [h.1, h.2, List.take_length]; exact hQ
  obtain ⟨rfl, rfl⟩ := h
  refine wp_mono (hs _ (List.getElem_mem hi)) fun r s' q => ?_
  obtain ⟨rfl, rfl⟩ := q
  have e : (xs.take (i + 1)).filterMap f = (xs.take i).filterMap f ++ (f xs[i]).toList := by
    rw [List.take_add_one, List.getElem?_eq_getElem hi, List.filterMap_append]
    cases e : f xs[i] <;> simp [e]
  cases e2 : f xs[i] with
  | none => exact ⟨rfl, by rw [e, e2]; simp⟩
  | some y => exact ⟨rfl, by rw [e, e2]; rfl⟩
/-- items told by their index; the store only grows -/
theorem wp_lc_ix (g : Nat → Val) (hg : ∀ t, gd.holds (s ++ t)) (hl : xs.length ≤ PySem.sizeLine) (hs : ∀ i (hi : i < xs.length) t, (bd xs[i] (s ++ t)).wp fun r s' => r = some (g i) ∧ ∃ u, s' = (s ++ t) ++ u)
    (hQ : ∀ t, Q ((List.range xs.length).map g) (s ++ t)) : (lcLoop bd gd xs [] s).wp Q := by
  refine wp_lc (fun i ys s' => (∃ t, s' = s ++ t) ∧ ys = (List.range i).map g) ⟨⟨[], by simp⟩, by simp⟩ (fun i ys s' _ h => by obtain ⟨t, e⟩ := h.1; rw [e]; exact hg t) hl (fun i hi ys s' h => ?_) fun ys s' h => by obtain ⟨⟨t, rfl⟩, rfl⟩ := h; exact hQ t
  obtain ⟨⟨t, rfl⟩, rfl⟩ := h
  refine wp_mono (hs i hi t) fun r s' q => ?_
  obtain ⟨rfl, u, rfl⟩ := q
  exact ⟨⟨t ++ u, by rw [List.append_assoc]⟩, by rw [List.range_succ, List.map_append]; rfl⟩
end
theorem smallN {n : Nat} (h : n ≤ 100000) : n ≤ PySem.sizeLine := by have := PySem.sizeLine_eq; omega
def unF (f : Rat → Bool) : Val → Option Val := fun x => if (match x with | .tup [.int a, .int b] => f (Rat.divInt a b) | _ => false) = true then some x else none
theorem unF_fr (f : Rat → Bool) (c : Rat) : unF f (frV c) = if f c = true then some (frV c) else none := by
  have e : Rat.divInt c.num c.den = c := Rat.num_divInt_den c
  simp only [unF, frV, e]
theorem filterMap_frV (C : List Rat) (f : Rat → Bool) : (C.map frV).filterMap (unF f) = (C.filter f).map frV := by
  induction C with
  | nil => rfl
  | cons c C ih =>
    simp only [List.map_cons, List.filterMap_cons, ih, unF_fr, List.filter_cons]
    by_cases h : f c = true <;> simp [h]
/-! ### data of fractions, of lists of them -/
def frD (q : Rat) : PySem.PyData := .tuple [.int q.num, .int q.den]
theorem dataW_fr (f : Nat → Option PySem.PyData) (q : Rat) : dataW f (frV q) = some (frD q) := by simp [frV, frD, dataW, dataWs]
theorem dataWs_frs (f : Nat → Option PySem.PyData) : ∀ L : List Rat, dataWs f (L.map frV) = some (L.map frD)
  | [] => by simp [dataWs]
  | q :: L => by simp [dataWs, dataW_fr, dataWs_frs f L]
theorem lay_frs : ∀ L : List Rat, PySem.PyData.canLayAll0 (L.map frD) = true
  | [] => rfl
  | q :: L => by simp [PySem.PyData.canLayAll0, frD, PySem.PyData.canLay0]; exact lay_frs L
theorem dep_fr (q : Rat) : (frD q).depth ≤ 2 := by
  have h1 : (PySem.PyData.int q.num).depth = 0 := rfl
  simp [frD, PySem.PyData.depth, PySem.PyData.depthAll]
theorem dep_frs : ∀ L : List Rat, PySem.PyData.depthAll (L.map frD) ≤ 2
  | [] => by simp [PySem.PyData.depthAll]
  | q :: L => by
    have h1 := dep_frs L
    have h2 := dep_fr q
    simp only [List.map_cons, PySem.PyData.depthAll]
    omega
theorem shaped_frs (L : List Rat) : PySem.SeqAt.shaped (.list (L.map frD)) = true := by
  have h1 := lay_frs L
  have h2 := dep_frs L
  simp only [PySem.SeqAt.shaped, PySem.PyData.canLay0, PySem.PyData.depth, h1, Bool.true_and]
  exact decide_eq_true (by omega)
theorem eqO_nil {s : Sto} {a b : Nat} {L : List Rat} (ha : listAt s a = some (L.map frV)) (hb : listAt s b = some []) : eqO s (.loc a) (.loc b) = some (decide (L = [])) := by
  have d1 : dataOf s (.loc a) = some (.list (L.map frD)) := by simp [dataOf, dataW, dataL, ha, dataWs_frs]
  have d2 : dataOf s (.loc b) = some (.list []) := by simp [dataOf, dataW, dataL, hb, dataWs]
  have e2 : PySem.SeqAt.shaped (.list []) = true := shaped_frs []
  simp only [eqO, d1, d2, shaped_frs, e2, and_self, if_true]
  cases L <;> simp [PySem.PyData.eqv, PySem.PyData.eqvAll]
/-- what a moment asks -/
structure MP (P : Prog) : Prop where
  piece_at : P.find "piece_at" = some WT.d_piece_at
  own_speeds : P.find "own_speeds" = some WT.d_own_speeds
  real_speeds : P.find "real_speeds" = some WT.d_real_speeds
  next_mark : P.find "next_mark" = some WT.d_next_mark
  least_of : P.find "least_of" = some WT.d_least_of
  next_moment : P.find "next_moment" = some WT.d_next_moment
  moved : P.find "moved" = some WT.d_moved
  handed : P.find "handed" = some WT.d_handed
  stepped : P.find "stepped" = some WT.d_stepped
/-- .. without the handing over -/
structure MB (P : Prog) : Prop where
  piece_at : P.find "piece_at" = some WT.d_piece_at
  own_speeds : P.find "own_speeds" = some WT.d_own_speeds
  real_speeds : P.find "real_speeds" = some WT.d_real_speeds
  next_mark : P.find "next_mark" = some WT.d_next_mark
  least_of : P.find "least_of" = some WT.d_least_of
  next_moment : P.find "next_moment" = some WT.d_next_moment
  moved : P.find "moved" = some WT.d_moved
  stepped : P.find "stepped" = some WT.d_stepped
theorem MP.mb {P : Prog} (M : MP P) : MB P := ⟨M.piece_at, M.own_speeds, M.real_speeds, M.next_mark, M.least_of, M.next_moment, M.moved, M.stepped⟩
instance {P : Prog} : Coe (MP P) (MB P) := ⟨MP.mb⟩
section
variable {P : Prog} (F : FP P) (M : MB P) {k : Nat} {s : Sto} {C : List Rat} {x : Rat} {Q : Val → Sto → Prop}
include F M
theorem w_piece_at (hC : ∀ c ∈ C, Sm c) (hl : C.length ≤ 5) (hx : Sm x) (hQ : ∀ t, Q (.int (piece C x : Nat)) (s ++ t)) : (callN P (k + 2) "piece_at" [cutsV C, frV x] s).wp Q := by
  rw [callN_def M.piece_at]
  simp [WT.d_piece_at, startE, execs, exec, evalE, evalEs, evalIt, evalC, cutsV, asgT]
  refine wp_lc_filter (unF fun c => decide (c ≤ x)) trivial (by simp; exact smallN (by omega)) (fun y hy => ?_) ?_
  · obtain ⟨c, hc, rfl⟩ := List.mem_map.mp hy
    simp [asgT, wipe, evalC, evalT, evalE, evalEs, w_is_below F hx (hC c hc), unF_fr]
    by_cases h : x < c
    · have : ¬ c ≤ x := Rat.not_le.mpr h
      simp [h, this]
    · have : c ≤ x := Rat.not_lt.mp h
      simp [h, this]
  · rw [filterMap_frV]
    simp [pushO, primV, piece]
    have := hQ [.lst (List.map frV (List.filter (fun c => decide (c ≤ x)) C))]
    simpa [piece] using this
theorem w_next_mark (hC : ∀ c ∈ C, Sm c) (hl : C.length ≤ 5) (hx : Sm x) (hQ : ∀ t, Q (frV (mark C x)) (s ++ t)) : (callN P (k + 2) "next_mark" [cutsV C, frV x] s).wp Q := by
  rw [callN_def M.next_mark]
  simp [WT.d_next_mark, startE, execs, exec, evalE, evalEs, evalIt, evalC, cutsV, asgT]
  refine wp_lc_filter (unF fun c => decide (x < c)) trivial (by simp; exact smallN (by omega)) (fun y hy => ?_) ?_
  · obtain ⟨c, hc, rfl⟩ := List.mem_map.mp hy
    simp [asgT, wipe, evalC, evalT, evalE, evalEs, w_is_below F hx (hC c hc), unF_fr]
    by_cases h : x < c <;> simp [h]
  · rw [filterMap_frV]
    generalize hL : C.filter (fun c => decide (x < c)) = L
    have hm : mark C x = L.head?.getD 1 := by unfold mark; rw [hL]
    have l1 : listAt (s ++ ([.lst (L.map frV)] ++ [.lst []])) s.length = some (L.map frV) := listAt_new (t := [.lst []])
    have l2 : listAt (s ++ ([.lst (L.map frV)] ++ [.lst []])) (s.length + 1) = some [] := by
      have := listAt_push (s ++ [.lst (L.map frV)]) []
      simpa using this
    have e := eqO_nil l1 l2
    simp [pushO, evalT, evalE, evalEs] at e ⊢
    simp only [cmpO_ne, e]
    cases L with
    | nil =>
      simp [F.one]
      rw [hm] at hQ
      exact hQ _
    | cons c L =>
      rw [hm] at hQ
      simp at l1
      simp [item_loc' l1]
      exact hQ _
end
end Wk
set_option maxHeartbeats 8000000
/-! W4: own and real speeds, as the program finds them. -/
namespace Wk
open PySem (Str)
open Bk
def ownS (C : List Rat) (v : Nat → Nat → Rat) (p : Nat → Rat) (i : Nat) : Rat := v i (piece C (p i))
/-- the real speed of the m-th from behind the last one on -/
def rkN (own p : Nat → Rat) (n : Nat) : Nat → Rat
  | 0 => own (n - 1)
  | m + 1 => if p (n - 2 - m) = p (n - 2 - m + 1) ∧ rkN own p n m < own (n - 2 - m) then rkN own p n m else own (n - 2 - m)
def realS (own p : Nat → Rat) (n i : Nat) : Rat := rkN own p n (n - 1 - i)
theorem real_last {own p : Nat → Rat} {n : Nat} : realS own p n (n - 1) = own (n - 1) := by
  unfold realS
  rw [Nat.sub_self]; rfl
theorem real_up {own p : Nat → Rat} {n i : Nat} (h : i + 1 < n) : realS own p n i = if p i = p (i + 1) ∧ realS own p n (i + 1) < own i then realS own p n (i + 1) else own i := by
  unfold realS
  have e : n - 1 - i = (n - 1 - (i + 1)) + 1 := by omega
  have e2 : n - 2 - (n - 1 - (i + 1)) = i := by omega
  rw [e, rkN, e2]
theorem zipV_range {n : Nat} {f g : Nat → Val} : zipV ((List.range n).map f) ((List.range n).map g) = (List.range n).map fun i => .tup [f i, g i] := by
  apply List.ext_getElem
  · simp [zipV]
  · intro i h1 h2
    simp [zipV]
theorem sm_own {n : Nat} {C : List Rat} {v : Nat → Nat → Rat} (B : Br n C v) (p : Nat → Rat) (i : Nat) : Sb 10 (ownS C v p i) := B.vS _ _
theorem sb_rk {own p : Nat → Rat} {n m : Nat} (h : ∀ i, Sb m (own i)) : ∀ k, Sb m (rkN own p n k)
  | 0 => h _
  | k + 1 => by
    unfold rkN
    split
    · exact sb_rk h k
    · exact h _
theorem sb_real {own p : Nat → Rat} {n m : Nat} (h : ∀ i, Sb m (own i)) (i : Nat) : Sb m (realS own p n i) := sb_rk h _
theorem rk_pos {own p : Nat → Rat} {n : Nat} (h : ∀ i, 0 < own i) : ∀ k, 0 < rkN own p n k
  | 0 => h _
  | k + 1 => by
    unfold rkN
    split
    · exact rk_pos h k
    · exact h _
theorem real_pos {own p : Nat → Rat} {n : Nat} (h : ∀ i, 0 < own i) (i : Nat) : 0 < realS own p n i := rk_pos h _
theorem atI_succ {α : Type} (xs : List α) (k : Nat) : L2.atI xs ((k : Int) + 1) = xs[k + 1]? := by
  rw [show ((k : Int) + 1) = ((k + 1 : Nat) : Int) by omega, atI_cast]
theorem rangeC_at {a : Int} {n i : Nat} {c : Int} (h : i < (rangeC a c n).length) : (rangeC a c n)[i] = .int (a + (i : Nat) * c) := by simp [rangeC]
theorem rangeC_len {a c : Int} {n : Nat} : (rangeC a c n).length = n := by simp [rangeC]
theorem bin_addL {s : Sto} {a b : Nat} {xs ys : List Val} (ha : listAt s a = some xs) (hb : listAt s b = some ys) (h : xs.length + ys.length ≤ PySem.sizeLine) : binV .add (.loc a) (.loc b) s = .ok (.loc s.length) (s ++ [.lst (xs ++ ys)]) := by
  simp [binV, listAt_some ha, listAt_some hb, h, pushO]
theorem evalE_bin (G : Ctx) (o : Bop) (a b : E) (σ : Env) (s : Sto) : evalE G (.bin o a b) σ s = (evalE G a σ s).bind fun x s1 => (evalE G b σ s1).bind fun y s2 => binV o x y s2 := by rw [evalE]
theorem evalE_lst1 (G : Ctx) (a : E) (σ : Env) (s : Sto) : evalE G (.lst (.cons a .nil)) σ s = (evalE G a σ s).bind fun x s1 => pushO (.lst [x]) s1 := by
  simp only [evalE, evalEs]
  cases evalE G a σ s with
  | ok x s1 => simp only [Out.bind_ok]; rw [if_pos (smallN (by simp))]
  | _ => rfl
def rs1 : S := (.asg (.nm 5) (.and (.cmp .eq (.idx (.var 1) (.var 4)) (.idx (.var 1) (.bin .add (.var 4) (.cst (.int 1))))) (.call "is_below" (.cons (.idx (.var 3) (.cst (.int 0))) (.cons (.idx (.var 2) (.var 4)) .nil)))))
def rs2 : S := (.asg (.nm 3) (.bin .add (.lst (.cons (.ife (.var 5) (.idx (.var 3) (.cst (.int 0))) (.idx (.var 2) (.var 4))) .nil)) (.var 3)))
theorem app3 {s t u : Sto} : (s ++ t) ++ u = s ++ (t ++ u) := List.append_assoc ..
section
variable {P : Prog} (F : FP P) (M : MB P) {k n : Nat} {s : Sto} {C : List Rat} {v : Nat → Nat → Rat} {p : Nat → Rat} {Q : Val → Sto → Prop}
include F M
theorem w_own_speeds (B : Br n C v) (hp : ∀ i, i < n → Sm (p i)) (hQ : ∀ t a, listAt (s ++ t) a = some (fvs n (ownS C v p)) → Q (.loc a) (s ++ t)) : (callN P (k + 3) "own_speeds" [brV n C v, fv n p] s).wp Q := by
  rw [callN_def M.own_speeds]
  simp [WT.d_own_speeds, startE, execs, exec, evalE, evalEs, evalIt, evalC, brV, peopleV, fv, asgT, asgTs, fvs, zipV_range]
  refine wp_lc_ix (fun i => frV (ownS C v p i)) (fun _ => trivial) (by simp; exact smallN (by have := B.n5; omega)) (fun i hi t => ?_) fun t => ?_
  · simp at hi
    simp [asgT, asgTs, wipe, evalC, evalE, evalEs]
    refine w_piece_at F M (fun c hc => (B.cS c hc).sm (by decide)) B.c5 (hp i hi) fun u => ?_
    have e : (List.range (C.length + 1))[piece C (p i)]? = some (piece C (p i)) := List.getElem?_range (by have := @piece_le C (p i); omega)
    simp [e, ownS]
  · simp [pushO]
    have := hQ (t ++ [.lst (fvs n (ownS C v p))]) (s ++ t).length (by rw [← List.append_assoc]; exact listAt_push _ _)
    simpa [fvs] using this
theorem w_real_speeds (B : Br n C v) (hp : ∀ i, i < n → Sm (p i)) (hQ : ∀ t a, listAt (s ++ t) a = some (fvs n (realS (ownS C v p) p n)) → Q (.loc a) (s ++ t)) : (callN P (k + 4) "real_speeds" [brV n C v, fv n p] s).wp Q := by
  have n1 := B.n1
  have n5 := B.n5
  rw [callN_def M.real_speeds]
  simp [WT.d_real_speeds, startE, execs, exec, evalE, evalEs]
  refine w_own_speeds F M B hp fun t a ha => ?_
  have hlast : (fvs n (ownS C v p)).getLast? = some (frV (ownS C v p (n - 1))) := by
    rw [List.getLast?_eq_getElem?, fvs_len, fvs_at (by omega)]
  simp [asgT, item_loc' ha, hlast, pushO]
  rw [if_pos (smallN (by decide))]
  simp [evalIt, evalE, evalEs]
  have ha2 : listAt (s ++ (t ++ [.lst [frV (ownS C v p (n - 1))]])) a = some (fvs n (ownS C v p)) := by
    rw [← List.append_assoc, listAt_app (listAt_lt ha)]; exact ha
  simp [prim_len_loc ha2, fvs_len]
  rw [if_pos ⟨smallI_of (by omega) (by omega), smallI_of (by decide) (by decide)⟩]
  simp only [wp_ok]
  have h0 : listAt (s ++ (t ++ [.lst [frV (ownS C v p (n - 1))]])) (s.length + t.length) = some [frV (ownS C v p (n - 1))] := by
    have := listAt_push (s ++ t) [frV (ownS C v p (n - 1))]
    simpa using this
  have rS : ∀ i, Sm (realS (ownS C v p) p n i) := fun i => (sb_real (sm_own B p) i).sm (by decide)
  have oS : ∀ i, Sm (ownS C v p i) := fun i => (sm_own B p i).sm (by decide)
  refine wp_for (fun m σ s' => ∃ t b x4 x5, s' = s ++ t ∧ listAt s' a = some (fvs n (ownS C v p)) ∧ listAt s' b = some ((List.range (m + 1)).map fun q => frV (realS (ownS C v p) p n (n - 1 - m + q))) ∧
    σ = [some (brV n C v), some (fv n p), some (.loc a), some (.loc b), x4, x5]) ⟨_, _, _, _, rfl, ha2, by simpa [real_last] using h0, rfl⟩ (fun _ _ _ _ _ => trivial) (fun m hm σ s' h => ?_) (fun σ s' h => ?_)
  · obtain ⟨t, b, x4, x5, rfl, h1, h2, rfl⟩ := h
    rw [rangeC_at hm]
    rw [rangeC_len] at hm
    obtain ⟨i, hi, hmi⟩ : ∃ i : Nat, i + 1 < n ∧ m = n - 2 - i := ⟨n - 2 - m, by omega, by omega⟩
    have ei : (n : Int) - 2 + (m : Nat) * -1 = (i : Nat) := by omega
    rw [ei]
    have i1 : n - 1 - m = i + 1 := by omega
    rw [i1] at h2
    have e1 := @fvs_at n i p (by omega)
    have e2 := @fvs_at n (i + 1) p hi
    have e3 := @fvs_at n i (ownS C v p) (by omega)
    have hr := real_up (own := ownS C v p) (p := p) hi
    have d0 : ((List.range (m + 1)).map fun q => frV (realS (ownS C v p) p n (i + 1 + q)))[0]? = some (frV (realS (ownS C v p) p n (i + 1))) := by simp
    have i2 : n - 1 - (m + 1) = i := by omega
    have cont : ∀ h : Bool, (if h = true then realS (ownS C v p) p n (i + 1) else ownS C v p i) = realS (ownS C v p) p n i →
        (exec (ctxOf P (callN P (k + 3))) rs2 [some (brV n C v), some (fv n p), some (.loc a), some (.loc b), some (.int i), some (.bl h)] (s ++ t)).wp fun f s' => ∃ σ', f = .nx σ' ∧ ∃ t b x4 x5, s' = s ++ t ∧ listAt s' a = some (fvs n (ownS C v p)) ∧
          listAt s' b = some ((List.range (m + 1 + 1)).map fun q => frV (realS (ownS C v p) p n (n - 1 - (m + 1) + q))) ∧ σ' = [some (brV n C v), some (fv n p), some (.loc a), some (.loc b), x4, x5] := by
      intro h hx
      have ex : evalE (ctxOf P (callN P (k + 3))) (.ife (.var 5) (.idx (.var 3) (.cst (.int 0))) (.idx (.var 2) (.var 4))) [some (brV n C v), some (fv n p), some (.loc a), some (.loc b), some (.int i), some (.bl h)] (s ++ t) = .ok (frV (realS (ownS C v p) p n i)) (s ++ t) := by
        rw [← hx]
        cases h
        · simp [evalE, evalT, item_loc' h1, e3]
        · simp [evalE, evalT, item_loc' h2]
      have l1 : listAt (s ++ t ++ [Ob.lst [frV (realS (ownS C v p) p n i)]]) (s ++ t).length = some [frV (realS (ownS C v p) p n i)] := listAt_push _ _
      have l2 := h2
      rw [← listAt_app (t := [Ob.lst [frV (realS (ownS C v p) p n i)]]) (listAt_lt h2)] at l2
      have l3 : ∀ ys, listAt (s ++ t ++ [Ob.lst [frV (realS (ownS C v p) p n i)]] ++ [Ob.lst ys]) (s ++ t ++ [Ob.lst [frV (realS (ownS C v p) p n i)]]).length = some ys := fun ys => listAt_push _ _
      simp only [rs2, exec, evalE_bin, evalE_lst1, ex, Out.bind_ok, pushO]
      simp only [evalE, List.getElem?_cons_succ, List.getElem?_cons_zero, Out.bind_ok]
      rw [bin_addL l1 l2 (by simp; exact smallN (by omega))]
      simp only [Out.bind_ok, asgT, List.set_cons_succ, List.set_cons_zero, wp_ok]
      refine ⟨_, rfl, _, _, _, _, by rw [app3, app3], ?_, ?_, rfl⟩
      · rw [app3, listAt_app (listAt_lt h1)]; exact h1
      · rw [l3, List.range_succ_eq_map (n := m + 1), i2]
        simp [Function.comp_def]
        intro q hq
        congr 2
        omega
    have body : WT.l_real_speeds_0 = .cons rs1 (.cons rs2 .nil) := rfl
    have e5 : evalE (ctxOf P (callN P (k + 3))) (.and (.cmp .eq (.idx (.var 1) (.var 4)) (.idx (.var 1) (.bin .add (.var 4) (.cst (.int 1))))) (.call "is_below" (.cons (.idx (.var 3) (.cst (.int 0))) (.cons (.idx (.var 2) (.var 4)) .nil))))
        [some (brV n C v), some (fv n p), some (.loc a), some (.loc b), some (.int i), x5] (s ++ t) = .ok (.bl (decide (p i = p (i + 1) ∧ realS (ownS C v p) p n (i + 1) < ownS C v p i))) (s ++ t) := by
      by_cases hA : p i = p (i + 1)
      · simp [evalE, evalEs, fv, atI_succ, e1, e2, e3, cmpV, cmpO_eq, eqO_fr, hA, item_loc' h1, item_loc' h2, w_is_below F (rS _) (oS _)]
      · simp [evalE, evalEs, fv, atI_succ, e1, e2, e3, cmpV, cmpO_eq, eqO_fr, hA, item_loc' h1, item_loc' h2]
    rw [body]
    simp only [execs, wp_bind, asgT, List.set_cons_succ, List.set_cons_zero]
    rw [show exec (ctxOf P (callN P (k + 3))) rs1 [some (brV n C v), some (fv n p), some (.loc a), some (.loc b), some (.int i), x5] (s ++ t) = .ok (.nx [some (brV n C v), some (fv n p), some (.loc a), some (.loc b), some (.int i), some (.bl (decide (p i = p (i + 1) ∧ realS (ownS C v p) p n (i + 1) < ownS C v p i)))]) (s ++ t) by
      simp only [rs1, exec, e5, Out.bind_ok, asgT, List.set_cons_succ, List.set_cons_zero]]
    simp only [wp_ok, wp_bind]
    refine wp_mono (cont _ ?_) fun f s' q => ?_
    · rw [hr]; simp
    · obtain ⟨σ', rfl, q⟩ := q
      exact q
  · obtain ⟨t, b, x4, x5, rfl, h1, h2, rfl⟩ := h
    rw [rangeC_len] at h2
    simp
    refine hQ t b ?_
    rw [h2]
    have : ((n : Int) - 2 + 1).toNat + 1 = n := by omega
    rw [this]
    have e2 : n - 1 - ((n : Int) - 2 + 1).toNat = 0 := by omega
    simp [e2, fvs]
end
end Wk
set_option maxHeartbeats 8000000
/-! W5: the least of fractions; the next moment, as the program finds it. -/
namespace Wk
open PySem (Str)
open Bk
def leastR : Rat → List Rat → Rat
  | m, [] => m
  | m, x :: r => leastR (if x < m then x else m) r
theorem leastR_app : ∀ (L : List Rat) (m y : Rat), leastR m (L ++ [y]) = if y < leastR m L then y else leastR m L
  | [], m, y => rfl
  | x :: L, m, y => leastR_app L _ y
theorem leastR_mem : ∀ (L : List Rat) (m : Rat), leastR m L = m ∨ leastR m L ∈ L
  | [], m => .inl rfl
  | x :: L, m => by
    rcases leastR_mem L (if x < m then x else m) with h | h
    · rw [leastR, h]
      split
      · exact .inr List.mem_cons_self
      · exact .inl rfl
    · exact .inr (List.mem_cons_of_mem _ h)
theorem leastR_le0 : ∀ (L : List Rat) (m : Rat), leastR m L ≤ m
  | [], m => Rat.le_refl
  | x :: L, m => by
    have h := leastR_le0 L (if x < m then x else m)
    rw [leastR]
    split at h
    · rename_i hx
      rw [if_pos hx]
      exact Rat.le_trans h (Rat.le_of_lt hx)
    · rename_i hx
      rw [if_neg hx]
      exact h
theorem leastR_le : ∀ (L : List Rat) (m : Rat), ∀ x ∈ L, leastR m L ≤ x
  | [], _, _, h => by cases h
  | y :: L, m, x, h => by
    rw [leastR]
    rcases List.mem_cons.mp h with rfl | h
    · refine Rat.le_trans (leastR_le0 L _) ?_
      split
      · exact Rat.le_refl
      · exact Rat.not_lt.mp (by assumption)
    · exact leastR_le L _ x h
theorem sub_app {s s' : Sto} (h : Sub s s') : ∃ t, s' = s ++ t := by
  refine ⟨s'.drop s.length, ?_⟩
  apply List.ext_getElem?
  intro i
  by_cases hi : i < s.length
  · rw [List.getElem?_append_left hi]; exact h.2 i hi
  · rw [List.getElem?_append_right (by omega), List.getElem?_drop]
    congr 1
    omega
/-- the least of fractions, whatever tells which of two is below -/
def leastB0 (f : Str) : Ss := .cons (.ife (.call f (.cons (.var 2) (.cons (.var 1) .nil))) (.cons (.asg (.nm 1) (.var 2)) .nil) .nil) .nil
def leastB (f : Str) : Ss := .cons (.asg (.nm 1) (.idx (.var 0) (.cst (.int 0)))) (.cons (.for_ (.nm 2) (.seq (.slc (.var 0) (.some (.cst (.int 1))) .none)) (leastB0 f)) (.cons (.ret (.var 1)) .nil))
theorem cut_tail {α : Type} (x : α) (L : List α) : cut (x :: L) (some 1) none = L := by
  simp [cut, HT.sIx]
theorem w_leastB {P : Prog} {G : Ctx} {f : Str} {s : Sto} {a : Nat} {x : Rat} {L : List Rat} {Q : Fl → Sto → Prop} (hb : ∀ x y s, Sm x → Sm y → G.call f [frV x, frV y] s = .ok (.bl (decide (x < y))) s)
    (ha : listAt s a = some ((x :: L).map frV)) (hx : Sm x) (hL : ∀ y ∈ L, Sm y) (hQ : ∀ t, Q (.rt (frV (leastR x L))) (s ++ t)) : (execs G (leastB f) [some (.loc a), none, none] s).wp Q := by
  simp [leastB, execs, exec, evalE, evalIt, evalEo, item_loc' ha, asgT, cutV, ha, cut_tail, pushO]
  rw [seqG_loc listAt_end]
  simp only [Option.elim_some]
  refine wp_for (fun i σ s' => s' = s ++ [.lst (L.map frV)] ∧ ∃ x2, σ = [some (.loc a), some (frV (leastR x (L.take i))), x2]) ⟨rfl, _, rfl⟩ (fun i σ s' _ h => by rw [h.1]; exact listAt_end) (fun i hi σ s' h => ?_) (fun σ s' h => ?_)
  · obtain ⟨rfl, x2, rfl⟩ := h
    have hi' : i < L.length := by simpa using hi
    have e : (L.map frV)[i] = frV L[i] := by simp
    have s1 : Sm L[i] := hL _ (List.getElem_mem hi')
    have s2 : Sm (leastR x (L.take i)) := by
      rcases leastR_mem (L.take i) x with h | h
      · rw [h]; exact hx
      · exact hL _ (List.mem_of_mem_take h)
    have e2 : L.take (i + 1) = L.take i ++ [L[i]] := by rw [List.take_add_one, List.getElem?_eq_getElem hi']; rfl
    rw [e, e2, leastR_app]
    simp [leastB0, execs, exec, evalT, evalE, evalEs, hb _ _ _ s1 s2]
    by_cases h : L[i] < leastR x (L.take i) <;> simp [h, asgT, execs, exec, evalE]
  · obtain ⟨rfl, x2, rfl⟩ := h
    simp
    exact hQ _
section
variable {P : Prog} (F : FP P) (M : MB P) {k n : Nat} {s : Sto} {C : List Rat} {v : Nat → Nat → Rat} {p : Nat → Rat} {Q : Val → Sto → Prop}
include F M
theorem w_least_of {a : Nat} {x : Rat} {L : List Rat} (ha : listAt s a = some ((x :: L).map frV)) (hx : Sm x) (hL : ∀ y ∈ L, Sm y) (hQ : ∀ t, Q (frV (leastR x L)) (s ++ t)) : (callN P (k + 2) "least_of" [.loc a] s).wp Q := by
  rw [callN_def M.least_of]
  have body : WT.d_least_of.body = leastB "is_below" := rfl
  rw [body]
  simp [WT.d_least_of, startE]
  refine w_leastB (P := P) (fun x y s h1 h2 => w_is_below F h1 h2) ha hx hL fun t => ?_
  exact hQ t
end
/-- the waits that a person tells -/
def waitsAt (n : Nat) (C : List Rat) (r p : Nat → Rat) (i : Nat) : List Rat :=
  (if p i = 1 then [] else [(mark C (p i) - p i) / r i]) ++ (if i + 1 < n ∧ r (i + 1) < r i ∧ p (i + 1) ≠ p i then [(p (i + 1) - p i) / (r i - r (i + 1))] else [])
def waits (n : Nat) (C : List Rat) (r p : Nat → Rat) : Nat → List Rat
  | 0 => []
  | m + 1 => waits n C r p m ++ waitsAt n C r p m
theorem mem_waits {n : Nat} {C : List Rat} {r p : Nat → Rat} {x : Rat} : ∀ m, x ∈ waits n C r p m ↔ ∃ i, i < m ∧ x ∈ waitsAt n C r p i
  | 0 => by simp [waits]
  | m + 1 => by
    simp only [waits, List.mem_append, mem_waits m]
    constructor
    · rintro (⟨i, h1, h2⟩ | h)
      · exact ⟨i, by omega, h2⟩
      · exact ⟨m, by omega, h⟩
    · rintro ⟨i, h1, h2⟩
      by_cases e : i = m
      · subst e; exact .inr h2
      · exact .inl ⟨i, by omega, h2⟩
theorem sb_mark {C : List Rat} {x : Rat} {m : Nat} (h : ∀ c ∈ C, Sb m c) (hm : 1 ≤ m) : Sb m (mark C x) := by
  unfold mark
  cases e : C.filter fun c => decide (x < c) with
  | nil => exact sb1 hm
  | cons c r =>
    have : c ∈ C.filter fun c => decide (x < c) := by rw [e]; exact List.mem_cons_self
    exact h c (List.mem_filter.mp this).1
theorem sb_waits {n : Nat} {C : List Rat} {r p : Nat → Rat} (hC : ∀ c ∈ C, Sb 10 c) (hr : ∀ i, Sb 10 (r i)) (r0 : ∀ i, 0 < r i) (hp : ∀ i, i < n → Sb 1900 (p i)) (m : Nat) (hm : m ≤ n) : ∀ x ∈ waits n C r p m, Sb 3830 x := by
  intro x hx
  obtain ⟨i, hi, h⟩ := (mem_waits m).mp hx
  simp only [waitsAt, List.mem_append] at h
  rcases h with h | h
  · split at h
    · cases h
    · rw [List.mem_singleton.mp h]
      exact (((sb_mark hC (by decide)).sub (hp i (by omega))).div (hr i) (r0 i)).up (by decide)
  · split at h
    · rename_i q
      rw [List.mem_singleton.mp h]
      exact (((hp _ q.1).sub (hp i (by omega))).div ((hr i).sub (hr (i + 1))) (by have := q.2.1; grind)).up (by decide)
    · cases h

/-! ### the next moment -/
structure NM (n : Nat) (r : Nat → Rat) (s s' : Sto) (a w : Nat) (L : List Rat) : Prop where
  sub : Sub s s'
  low : s.length ≤ w
  ne : a ≠ w
  la : listAt s' a = some (fvs n r)
  lw : listAt s' w = some (L.map frV)
theorem NM.app {n : Nat} {r : Nat → Rat} {s s' : Sto} {a w : Nat} {L : List Rat} (h : NM n r s s' a w L) (t : Sto) : NM n r s (s' ++ t) a w L :=
  ⟨h.sub.trans (Sub.app _ _), h.low, h.ne, by rw [listAt_app (listAt_lt h.la)]; exact h.la, by rw [listAt_app (listAt_lt h.lw)]; exact h.lw⟩
theorem NM.put {n : Nat} {r : Nat → Rat} {s s' : Sto} {a w : Nat} {L : List Rat} (h : NM n r s s' a w L) (x : Rat) : NM n r s (s'.set w (.lst (L.map frV ++ [frV x]))) a w (L ++ [x]) :=
  ⟨h.sub.set h.low, h.low, h.ne, by rw [listAt_set_ne (Ne.symm h.ne)]; exact h.la, by rw [listAt_set (listAt_lt h.lw)]; simp⟩
def nm1 : S := (.ife (.cmp .ne (.var 5) (.glob "ONE")) (.cons (.expr (.meth .append (.var 3) (.cons (.call "over" (.cons (.call "less" (.cons (.call "next_mark" (.cons (.idx (.var 0) (.cst (.int 0))) (.cons (.var 5) .nil))) (.cons (.var 5) .nil))) (.cons (.idx (.var 2) (.var 4)) .nil))) .nil))) .nil) .nil)
def nm2 : S := (.ife (.and (.cmp .lt (.bin .add (.var 4) (.cst (.int 1))) (.prim .len (.cons (.var 1) .nil))) (.call "is_below" (.cons (.idx (.var 2) (.bin .add (.var 4) (.cst (.int 1)))) (.cons (.idx (.var 2) (.var 4)) .nil))))
  (.cons (.asg (.nm 6) (.call "less" (.cons (.idx (.var 1) (.bin .add (.var 4) (.cst (.int 1)))) (.cons (.var 5) .nil))))
  (.cons (.ife (.cmp .ne (.var 6) (.glob "ZERO")) (.cons (.expr (.meth .append (.var 3) (.cons (.call "over" (.cons (.var 6) (.cons (.call "less" (.cons (.idx (.var 2) (.var 4)) (.cons (.idx (.var 2) (.bin .add (.var 4) (.cst (.int 1)))) .nil))) .nil))) .nil))) .nil) .nil) .nil)) .nil)
section
variable {P : Prog} (F : FP P) (M : MB P) {k n : Nat} {s s' : Sto} {C : List Rat} {v : Nat → Nat → Rat} {r p : Nat → Rat} {a w i : Nat} {L : List Rat}
include F M
theorem w_nm1 (B : Br n C v) (hr : ∀ i, Sb 10 (r i)) (r0 : ∀ i, 0 < r i) (hp : ∀ i, i < n → Sb 1900 (p i)) (hi : i < n) (h : NM n r s s' a w L) (hL : L.length ≤ 100) (x6 : Option Val) :
    (exec (ctxOf P (callN P (k + 4))) nm1 [some (brV n C v), some (fv n p), some (.loc a), some (.loc w), some (.int i), some (frV (p i)), x6] s').wp fun f s2 => f = .nx [some (brV n C v), some (fv n p), some (.loc a), some (.loc w), some (.int i), some (frV (p i)), x6] ∧
      NM n r s s2 a w (L ++ if p i = 1 then [] else [(mark C (p i) - p i) / r i]) := by
  have sp := (hp i hi).sm (by decide)
  have sk := (sb_mark (x := p i) B.cS (by decide)).sm (by decide)
  have sd := ((sb_mark (x := p i) B.cS (by decide)).sub (hp i hi)).sm (by decide)
  simp [nm1, exec, evalT, evalE, evalEs, F.one, ← fr1, cmpO_ne, eqO_fr]
  by_cases h1 : p i = 1
  · simp [h1, execs]
    exact h
  · simp [h1, execs, exec, evalE, evalEs, recv_append h.lw, brV]
    refine w_next_mark F M (fun c hc => (B.cS c hc).sm (by decide)) B.c5 sp fun t => ?_
    have h2 := h.app t
    simp [w_less F sk sp, item_loc' h2.la, fvs_at hi, w_over F sd ((hr i).sm (by decide)) (r0 i), meth_append h2.lw (by simp; have := PySem.sizeLine_eq; omega)]
    exact h2.put _
theorem w_nm2 (hr : ∀ i, Sb 10 (r i)) (hp : ∀ i, i < n → Sb 1900 (p i)) (hi : i < n) (h : NM n r s s' a w L) (hL : L.length ≤ 100) (b : Val) (x6 : Option Val) :
    (exec (ctxOf P (callN P (k + 4))) nm2 [some b, some (fv n p), some (.loc a), some (.loc w), some (.int i), some (frV (p i)), x6] s').wp fun f s2 => ∃ x6, f = .nx [some b, some (fv n p), some (.loc a), some (.loc w), some (.int i), some (frV (p i)), x6] ∧
      NM n r s s2 a w (L ++ if i + 1 < n ∧ r (i + 1) < r i ∧ p (i + 1) ≠ p i then [(p (i + 1) - p i) / (r i - r (i + 1))] else []) := by
  have sr : ∀ i, Sm (r i) := fun i => (hr i).sm (by decide)
  have sp := (hp i hi).sm (by decide)
  by_cases h1 : i + 1 < n
  · have e1 := @fvs_at n (i + 1) r h1
    have e2 := @fvs_at n (i + 1) p h1
    have sp2 := (hp (i + 1) h1).sm (by decide)
    have sd := ((hp (i + 1) h1).sub (hp i hi)).sm (by decide)
    have c1 : ((i : Int) + 1 < n) = True := by simp; omega
    by_cases h2 : r (i + 1) < r i
    · have g0 : 0 < r i - r (i + 1) := by grind
      simp [nm2, exec, evalT, evalE, evalEs, fv, fvs_len, c1, item_loc' h.la, atI_succ, e1, fvs_at hi, w_is_below F (sr (i + 1)) (sr i), h2, execs, e2, w_less F sp2 sp, asgT, F.zero, ← fr0, cmpO_ne, eqO_fr]
      have z : p (i + 1) - p i = 0 ↔ p (i + 1) = p i := by constructor <;> intro h <;> grind
      by_cases h3 : p (i + 1) = p i
      · simp [h3, execs]
        rw [show p i - p i = (0 : Rat) by grind]
        simp [execs]
        exact h
      · have z2 : ¬ (p (i + 1) - p i = 0) := fun q => h3 (z.mp q)
        simp [z2, execs, exec, evalE, evalEs, recv_append h.lw, item_loc' h.la, atI_succ, e1, fvs_at hi, w_less F (sr i) (sr (i + 1)), w_over F sd (((hr i).sub (hr (i + 1))).sm (by decide)) g0, meth_append h.lw (show (L.map frV).length < _ by simp; have := PySem.sizeLine_eq; omega)]
        rw [if_pos ⟨h1, h3⟩]
        exact h.put _
    · simp [nm2, exec, evalT, evalE, evalEs, fv, fvs_len, c1, item_loc' h.la, atI_succ, e1, fvs_at hi, w_is_below F (sr (i + 1)) (sr i), h2, execs]
      exact h
  · have c1 : ((i : Int) + 1 < n) = False := by simp; omega
    simp [nm2, exec, evalT, evalE, evalEs, fv, fvs_len, c1, execs, h1]
    exact h
theorem w_next_moment (B : Br n C v) (hp : ∀ i, i < n → Sb 1900 (p i)) {x : Rat} {W : List Rat} (hW : waits n C (realS (ownS C v p) p n) p n = x :: W) {Q : Val → Sto → Prop}
    (hQ : ∀ s' a, Sub s s' → listAt s' a = some (fvs n (realS (ownS C v p) p n)) → Q (.tup [frV (leastR x W), .loc a]) s') : (callN P (k + 5) "next_moment" [brV n C v, fv n p] s).wp Q := by
  have n5 := B.n5
  have hr : ∀ i, Sb 10 (realS (ownS C v p) p n i) := sb_real (sm_own B p)
  have r0 : ∀ i, 0 < realS (ownS C v p) p n i := real_pos fun i => B.vP _ _
  rw [callN_def M.next_moment]
  simp [WT.d_next_moment, startE, execs, exec, evalE, evalEs]
  refine w_real_speeds F M B (fun i hi => (hp i hi).sm (by decide)) fun t a ha => ?_
  simp [pushO]
  rw [if_pos (smallN (by decide))]
  simp [asgT, asgTs, evalIt, evalE]
  have h0 : NM n (realS (ownS C v p) p n) s (s ++ (t ++ [.lst []])) a (s.length + t.length) [] := by
    have hlt := listAt_lt ha
    refine ⟨Sub.app _ _, by omega, by simp at hlt; omega, ?_, ?_⟩
    · rw [← app3, listAt_app hlt]; exact ha
    · have := listAt_push (s ++ t) []
      simpa using this
  rw [show seqG (s ++ (t ++ [Ob.lst []])) (fv n p) = some (fvs n p, .none) from rfl]
  simp only [wp_ok]
  refine wp_for (fun i σ s' => ∃ x4 x5 x6, σ = [some (brV n C v), some (fv n p), some (.loc a), some (.loc (s.length + t.length)), x4, x5, x6] ∧ NM n (realS (ownS C v p) p n) s s' a (s.length + t.length) (waits n C (realS (ownS C v p) p n) p i))
    ⟨_, _, _, rfl, h0⟩ (fun _ _ _ _ _ => trivial) (fun i hi σ s' h => ?_) (fun σ s' h => ?_)
  · obtain ⟨x4, x5, x6, rfl, h⟩ := h
    have hi2 : i < n := by simpa [enumV, fvs_len] using hi
    rw [enumV_at hi]
    have e1 : (fvs n p)[i]'(by rw [fvs_len]; exact hi2) = frV (p i) := by simp [fvs]
    rw [e1]
    have hL : ∀ m, m ≤ 5 → (waits n C (realS (ownS C v p) p n) p m).length ≤ 2 * m := by
      intro m hm
      induction m with
      | zero => simp [waits]
      | succ m ih =>
        have := ih (by omega)
        simp only [waits, List.length_append, waitsAt]
        split <;> split <;> simp <;> omega
    have hl := hL i (by omega)
    have body : WT.l_next_moment_0 = .cons nm1 (.cons nm2 .nil) := rfl
    simp [asgT, asgTs, body, execs]
    refine wp_mono (w_nm1 F M B hr r0 hp hi2 h (by omega) _) fun f s2 q => ?_
    obtain ⟨rfl, q⟩ := q
    simp
    refine wp_mono (w_nm2 F M hr hp hi2 q (by simp; split <;> simp <;> omega) _ _) fun f s2 q => ?_
    obtain ⟨x6, rfl, q⟩ := q
    simp
    rw [waits, waitsAt, ← List.append_assoc]
    exact q
  · obtain ⟨x4, x5, x6, rfl, h⟩ := h
    rw [show (enumV (fvs n p)).length = n by rw [enumV_len', fvs_len], hW] at h
    simp
    have hb := sb_waits (n := n) B.cS hr r0 hp n (Nat.le_refl _)
    rw [hW] at hb
    refine w_least_of F M h.lw ((hb x List.mem_cons_self).sm (by decide)) (fun y hy => (hb y (List.mem_cons_of_mem _ hy)).sm (by decide)) fun u => ?_
    rw [if_pos (smallN (by decide))]
    have h2 := h.app u
    exact hQ _ _ h2.sub h2.la
end
end Wk
set_option maxHeartbeats 4000000
/-! W6: what a moment does, in plain words. -/
namespace Wk
theorem le_div {a b w : Rat} (hb : 0 < b) : w ≤ a / b ↔ w * b ≤ a := by
  rw [← Rat.not_lt, ← Rat.not_lt, Rat.div_lt_iff hb]
theorem div_pos' {a b : Rat} (ha : 0 < a) (hb : 0 < b) : 0 < a / b := by
  rw [Rat.lt_div_iff hb]; grind
theorem div_mul' {a b : Rat} (hb : 0 < b) : a / b * b = a := Rat.div_mul_cancel (Rat.ne_of_gt hb)
/-- cuts that rise, between 0 and 1 -/
structure Cu (C : List Rat) : Prop where
  srt : C.Pairwise (· < ·)
  in01 : ∀ c ∈ C, 0 < c ∧ c < 1
structure Pl (n : Nat) (p : Nat → Rat) : Prop where
  mono : ∀ i, i + 1 < n → p i ≤ p (i + 1)
  lo : ∀ i, i < n → 0 ≤ p i
  hi : ∀ i, i < n → p i ≤ 1
theorem Pl.last {n : Nat} {p : Nat → Rat} (h : Pl n p) : ∀ d i, i + d + 1 = n → p i ≤ p (n - 1)
  | 0, i, e => by
    have : n - 1 = i := by omega
    rw [this]; exact Rat.le_refl
  | d + 1, i, e => Rat.le_trans (h.mono i (by omega)) (h.last d (i + 1) (by omega))
section
variable {C : List Rat} {x y : Rat}
theorem mark_cases (K : Cu C) : (mark C x = 1 ∧ ∀ c ∈ C, c ≤ x) ∨ (mark C x ∈ C ∧ x < mark C x) := by
  unfold mark
  cases e : C.filter fun c => decide (x < c) with
  | nil =>
    refine .inl ⟨rfl, fun c hc => ?_⟩
    have := List.filter_eq_nil_iff.mp e c hc
    simpa [Rat.not_lt] using this
  | cons c r =>
    have hm : c ∈ C.filter fun c => decide (x < c) := by rw [e]; exact List.mem_cons_self
    have := List.mem_filter.mp hm
    exact .inr ⟨this.1, by simpa using this.2⟩
theorem mark_le (K : Cu C) : mark C x ≤ 1 := by
  rcases mark_cases (x := x) K with h | h
  · rw [h.1]; exact Rat.le_refl
  · exact Rat.le_of_lt (K.in01 _ h.1).2
theorem mark_gt (K : Cu C) (h : x < 1) : x < mark C x := by
  rcases mark_cases (x := x) K with e | e
  · rw [e.1]; exact h
  · exact e.2
/-- nothing lies between -/
theorem mark_least (K : Cu C) {c : Rat} (hc : c ∈ C) (h : x < c) : mark C x ≤ c := by
  unfold mark
  cases e : C.filter fun c => decide (x < c) with
  | nil =>
    have := List.filter_eq_nil_iff.mp e c hc
    exact absurd (decide_eq_true h) this
  | cons d r =>
    have hm : c ∈ d :: r := by rw [← e]; exact List.mem_filter.mpr ⟨hc, by simpa using h⟩
    have hs : (d :: r).Pairwise (· < ·) := by rw [← e]; exact K.srt.filter _
    rcases List.mem_cons.mp hm with rfl | hm
    · exact Rat.le_refl
    · exact Rat.le_of_lt ((List.pairwise_cons.mp hs).1 c hm)
theorem piece_same (K : Cu C) (h1 : x ≤ y) (h2 : y < mark C x) : piece C y = piece C x := by
  unfold piece
  congr 1
  apply List.filter_congr
  intro c hc
  by_cases h : c ≤ x
  · have : c ≤ y := Rat.le_trans h h1
    simp [h, this]
  · have h3 := mark_least K hc (Rat.not_le.mp h)
    have : ¬ c ≤ y := by
      rw [Rat.not_le]
      grind
    simp [h, this]
/-- the marks ahead -/
def ahead (C : List Rat) (x : Rat) : Nat := (C.filter fun c => decide (x < c)).length + if x < 1 then 1 else 0
theorem ahead_le_all : ahead C x ≤ C.length + 1 := by
  have := List.length_filter_le (fun c => decide (x < c)) C
  unfold ahead; split <;> omega
theorem filt_le {f g : Rat → Bool} : ∀ {C : List Rat}, (∀ c ∈ C, g c = true → f c = true) → (C.filter g).length ≤ (C.filter f).length
  | [], _ => by simp
  | c :: C, h => by
    have ih := filt_le (C := C) (f := f) (g := g) fun d hd => h d (List.mem_cons_of_mem _ hd)
    by_cases hg : g c = true
    · have hf := h c List.mem_cons_self hg
      simp [List.filter_cons, hg, hf]; exact ih
    · by_cases hf : f c = true
      · simp [List.filter_cons, hg, hf]; omega
      · simp [List.filter_cons, hg, hf]; exact ih
theorem filt_lt {f g : Rat → Bool} {d : Rat} (hf : f d = true) (hg : g d = false) : ∀ {C : List Rat}, d ∈ C → (∀ c ∈ C, g c = true → f c = true) → (C.filter g).length < (C.filter f).length
  | [], hd, _ => by cases hd
  | c :: C, hd, h => by
    have hl := filt_le (C := C) (f := f) (g := g) fun d hd => h d (List.mem_cons_of_mem _ hd)
    rcases List.mem_cons.mp hd with rfl | hd
    · simp [List.filter_cons, hg, hf]; omega
    · have ih := filt_lt hf hg hd fun d hd => h d (List.mem_cons_of_mem _ hd)
      by_cases hgc : g c = true
      · have hfc := h c List.mem_cons_self hgc
        simp [List.filter_cons, hgc, hfc]; exact ih
      · by_cases hfc : f c = true
        · simp [List.filter_cons, hgc, hfc]; omega
        · simp [List.filter_cons, hgc, hfc]; exact ih
theorem ahead_le (h : x ≤ y) : ahead C y ≤ ahead C x := by
  have h1 := filt_le (C := C) (f := fun c => decide (x < c)) (g := fun c => decide (y < c)) fun c _ hc => by
    have hc : y < c := by simpa using hc
    have : x < c := by grind
    simpa using this
  unfold ahead
  by_cases h2 : y < 1
  · have : x < 1 := by grind
    rw [if_pos h2, if_pos this]; omega
  · rw [if_neg h2]; omega
theorem ahead_lt (K : Cu C) (hx : x < 1) (h : mark C x ≤ y) : ahead C y < ahead C x := by
  have hxy : x ≤ y := by have := mark_gt K hx; grind
  rcases mark_cases (x := x) K with e | e
  · have y1 : ¬ y < 1 := by rw [e.1] at h; exact Rat.not_lt.mpr h
    have h1 := filt_le (C := C) (f := fun c => decide (x < c)) (g := fun c => decide (y < c)) fun c _ hc => by
      have hc : y < c := by simpa using hc
      have : x < c := by grind
      simpa using this
    unfold ahead
    simp [hx, y1]; omega
  · have h1 := filt_lt (C := C) (d := mark C x) (f := fun c => decide (x < c)) (g := fun c => decide (y < c)) (by simpa using e.2) (by simpa [Rat.not_lt] using h) e.1 fun c _ hc => by
      have hc : y < c := by simpa using hc
      have : x < c := by grind
      simpa using this
    unfold ahead
    rw [if_pos hx]
    split <;> omega
end
/-! ### real speeds -/
section
variable {own p : Nat → Rat} {n i : Nat}
theorem real_le (h : i < n) : realS own p n i ≤ own i := by
  by_cases h1 : i + 1 < n
  · rw [real_up h1]
    split
    · rename_i q; exact Rat.le_of_lt q.2
    · exact Rat.le_refl
  · have : i = n - 1 := by omega
    subst this
    rw [real_last]; exact Rat.le_refl
theorem real_held (h : i + 1 < n) (hne : realS own p n i ≠ own i) : p i = p (i + 1) ∧ realS own p n i = realS own p n (i + 1) := by
  rw [real_up h] at hne ⊢
  split at hne
  · rename_i q
    exact ⟨q.1, by rw [if_pos q]⟩
  · exact absurd rfl hne
theorem real_same (h : i + 1 < n) (e : p i = p (i + 1)) : realS own p n i ≤ realS own p n (i + 1) := by
  rw [real_up h]
  split
  · exact Rat.le_refl
  · rename_i q
    by_cases h2 : realS own p n (i + 1) < own i
    · exact absurd ⟨e, h2⟩ q
    · exact Rat.not_lt.mp h2
end
end Wk
set_option maxHeartbeats 4000000
/-! W7: a moment leads nearer: the number of marks ahead and of neighbours that do not stick together falls. -/
namespace Wk
def waitT (n : Nat) (C : List Rat) (r p : Nat → Rat) : Rat := match waits n C r p n with
  | [] => 0
  | x :: W => leastR x W
section
variable {n : Nat} {C : List Rat} {r p : Nat → Rat}
theorem waits_ne (n1 : 1 ≤ n) (h : p 0 ≠ 1) : ∃ x W, waits n C r p n = x :: W := by
  have : (mark C (p 0) - p 0) / r 0 ∈ waits n C r p n := (mem_waits n).mpr ⟨0, by omega, by simp [waitsAt, h]⟩
  cases e : waits n C r p n with
  | nil => rw [e] at this; cases this
  | cons x W => exact ⟨x, W, rfl⟩
theorem waitT_mem (h : ∃ x W, waits n C r p n = x :: W) : waitT n C r p ∈ waits n C r p n := by
  obtain ⟨x, W, e⟩ := h
  unfold waitT
  rw [e]
  rcases leastR_mem W x with h | h
  · simp only [h]; exact List.mem_cons_self
  · exact List.mem_cons_of_mem _ h
theorem waitT_le {y : Rat} (h : y ∈ waits n C r p n) : waitT n C r p ≤ y := by
  unfold waitT
  cases e : waits n C r p n with
  | nil => rw [e] at h; cases h
  | cons x W =>
    rw [e] at h
    rcases List.mem_cons.mp h with rfl | h
    · exact leastR_le0 _ _
    · exact leastR_le _ _ _ h
end
/-- where all are behind the moment -/
def nextP (n : Nat) (C : List Rat) (r p : Nat → Rat) (i : Nat) : Rat := p i + r i * waitT n C r p
section
variable {n : Nat} {C : List Rat} {v : Nat → Nat → Rat} {p : Nat → Rat}
/-- all that a moment needs -/
structure Go (n : Nat) (C : List Rat) (own p : Nat → Rat) : Prop where
  n1 : 1 ≤ n
  cu : Cu C
  pl : Pl n p
  pos : ∀ i, 0 < own i
  run : p (n - 1) ≠ 1
variable {own : Nat → Rat}
theorem Go.lt1 (G : Go n C own p) {i : Nat} (h : i < n) : p i < 1 := by
  have h1 := G.pl.last (n - 1 - i) i (by omega)
  have h2 := G.pl.hi (n - 1) (by have := G.n1; omega)
  have h3 := G.run
  grind
theorem Go.ne (G : Go n C own p) : ∃ x W, waits n C (realS own p n) p n = x :: W := waits_ne G.n1 (by have := G.lt1 (i := 0) (by have := G.n1; omega); grind)
theorem Go.rp (G : Go n C own p) (i : Nat) : 0 < (realS own p n) i := real_pos G.pos i
theorem Go.w_mark (G : Go n C own p) {i : Nat} (h : i < n) : (realS own p n) i * (waitT n C (realS own p n) p) ≤ mark C (p i) - p i := by
  have h1 := G.lt1 h
  have : (mark C (p i) - p i) / (realS own p n) i ∈ waits n C (realS own p n) p n := (mem_waits n).mpr ⟨i, h, by simp [waitsAt]; left; grind⟩
  have h2 := (le_div (G.rp i)).mp (waitT_le this)
  grind
theorem Go.w_next (G : Go n C own p) {i : Nat} (h : i + 1 < n) (h2 : (realS own p n) (i + 1) < (realS own p n) i) (h3 : p (i + 1) ≠ p i) : ((realS own p n) i - (realS own p n) (i + 1)) * (waitT n C (realS own p n) p) ≤ p (i + 1) - p i := by
  have : (p (i + 1) - p i) / ((realS own p n) i - (realS own p n) (i + 1)) ∈ waits n C (realS own p n) p n := (mem_waits n).mpr ⟨i, by omega, by
    simp only [waitsAt, List.mem_append]
    right
    rw [if_pos ⟨h, h2, h3⟩]
    exact List.mem_singleton.mpr rfl⟩
  have h2 := (le_div (by grind)).mp (waitT_le this)
  grind
/-- which wait it is -/
theorem Go.w_is (G : Go n C own p) : (∃ i, i < n ∧ (waitT n C (realS own p n) p) = (mark C (p i) - p i) / (realS own p n) i) ∨ ∃ i, i + 1 < n ∧ (realS own p n) (i + 1) < (realS own p n) i ∧ p (i + 1) ≠ p i ∧ (waitT n C (realS own p n) p) = (p (i + 1) - p i) / ((realS own p n) i - (realS own p n) (i + 1)) := by
  obtain ⟨i, hi, h⟩ := (mem_waits n).mp (waitT_mem G.ne)
  simp only [waitsAt, List.mem_append] at h
  rcases h with h | h
  · split at h
    · cases h
    · exact .inl ⟨i, hi, List.mem_singleton.mp h⟩
  · split at h
    · rename_i q
      exact .inr ⟨i, q.1, q.2.1, q.2.2, List.mem_singleton.mp h⟩
    · cases h
theorem Go.w_pos (G : Go n C own p) : 0 < (waitT n C (realS own p n) p) := by
  rcases G.w_is with ⟨i, hi, e⟩ | ⟨i, hi, h1, h2, e⟩
  · rw [e]
    have := mark_gt G.cu (G.lt1 hi)
    exact div_pos' (by grind) (G.rp i)
  · rw [e]
    have := G.pl.mono i hi
    exact div_pos' (by grind) (by grind)
theorem Go.rw_pos (G : Go n C own p) (i : Nat) : 0 < (realS own p n) i * (waitT n C (realS own p n) p) := Rat.mul_pos (G.rp i) G.w_pos
theorem Go.up (G : Go n C own p) (i : Nat) : p i < (nextP n C (realS own p n) p) i := by
  have := G.rw_pos i
  unfold nextP
  grind
theorem Go.le_mark (G : Go n C own p) {i : Nat} (h : i < n) : (nextP n C (realS own p n) p) i ≤ mark C (p i) := by
  have := G.w_mark h
  unfold nextP
  grind
theorem Go.pl' (G : Go n C own p) : Pl n (nextP n C (realS own p n) p) where
  lo := fun i h => by
    have := G.up i
    have := G.pl.lo i h
    grind
  hi := fun i h => by
    have h1 := G.le_mark h
    have h2 := mark_le (x := p i) G.cu
    grind
  mono := fun i h => by
    have h1 := G.pl.mono i h
    have h2 := G.w_pos
    unfold nextP
    by_cases h3 : (realS own p n) (i + 1) < (realS own p n) i
    · by_cases h4 : p (i + 1) = p i
      · have := real_same (own := own) h h4.symm
        grind
      · have := G.w_next h h3 h4
        grind
    · have := Rat.mul_le_mul_of_nonneg_right (Rat.not_lt.mp h3) (Rat.le_of_lt h2)
      grind
theorem same_move {i : Nat} (e : p i = p (i + 1)) (e2 : (realS own p n) i = (realS own p n) (i + 1)) : (nextP n C (realS own p n) p) i = (nextP n C (realS own p n) p) (i + 1) := by
  unfold nextP
  rw [e, e2]
/-- who comes to no mark has the same own speed, and its real speed does not grow -/
theorem Go.slow (G : Go n (C) (ownS C v p) p) : ∀ d i, i + d + 1 = n → nextP n C (realS (ownS C v p) p n) p i < mark C (p i) → realS (ownS C v (nextP n C (realS (ownS C v p) p n) p)) (nextP n C (realS (ownS C v p) p n) p) n i ≤ realS (ownS C v p) p n i := by
  intro d
  have same : ∀ i, nextP n C (realS (ownS C v p) p n) p i < mark C (p i) → ownS C v (nextP n C (realS (ownS C v p) p n) p) i = ownS C v p i := fun i h => by
    show v i (piece C (nextP n C (realS (ownS C v p) p n) p i)) = v i (piece C (p i))
    rw [piece_same G.cu (Rat.le_of_lt (G.up i)) h]
  induction d with
  | zero =>
    intro i e h
    have : i = n - 1 := by omega
    subst this
    rw [real_last, real_last, same _ h]
    exact Rat.le_refl
  | succ d ih =>
    intro i e h
    have hi : i + 1 < n := by omega
    generalize hq : nextP n C (realS (ownS C v p) p n) p = q at *
    by_cases hne : realS (ownS C v p) p n i = ownS C v p i
    · rw [hne, ← same i h]
      exact real_le (by omega)
    · obtain ⟨e1, e2⟩ := real_held hi hne
      have e3 : q i = q (i + 1) := by rw [← hq]; exact same_move e1 e2
      have h2 := ih (i + 1) (by omega) (by rw [← e3, ← e1]; exact h)
      exact Rat.le_trans (real_same hi e3) (by rw [e2]; exact h2)
/-- where all are behind the moment, of a brigade -/
def goP (n : Nat) (C : List Rat) (v : Nat → Nat → Rat) (p : Nat → Rat) : Nat → Rat := nextP n C (realS (ownS C v p) p n) p
def pot (n : Nat) (C : List Rat) (v : Nat → Nat → Rat) (p : Nat → Rat) (i : Nat) : Nat :=
  ahead C (p i) + if i + 1 < n ∧ ¬ (p i = p (i + 1) ∧ realS (ownS C v p) p n i = realS (ownS C v p) p n (i + 1)) then 1 else 0
def sumN (f : Nat → Nat) : Nat → Nat
  | 0 => 0
  | m + 1 => sumN f m + f m
theorem sumN_le {f g : Nat → Nat} : ∀ m, (∀ i, i < m → f i ≤ g i) → sumN f m ≤ sumN g m
  | 0, _ => Nat.le_refl _
  | m + 1, h => by
    have := sumN_le m fun i hi => h i (by omega)
    have := h m (by omega)
    simp only [sumN]; omega
theorem sumN_lt {f g : Nat → Nat} : ∀ m, (∀ i, i < m → f i ≤ g i) → (∃ i, i < m ∧ f i < g i) → sumN f m < sumN g m
  | 0, _, ⟨i, h, _⟩ => absurd h (by omega)
  | m + 1, h, ⟨i, hi, hl⟩ => by
    have h1 := sumN_le m fun i hi => h i (by omega)
    have h2 := h m (by omega)
    simp only [sumN]
    by_cases e : i = m
    · subst e; omega
    · have := sumN_lt m (fun i hi => h i (by omega)) ⟨i, by omega, hl⟩
      omega
theorem sumN_bd {f : Nat → Nat} {b : Nat} : ∀ m, (∀ i, i < m → f i ≤ b) → sumN f m ≤ m * b
  | 0, _ => by simp [sumN]
  | m + 1, h => by
    have := sumN_bd m fun i hi => h i (by omega)
    have := h m (by omega)
    simp only [sumN, Nat.succ_mul]; omega
theorem max_ex {Q : Nat → Prop} : ∀ m, (∃ i, i < m ∧ Q i) → ∃ i, i < m ∧ Q i ∧ ∀ j, i < j → j < m → ¬ Q j
  | 0, ⟨i, h, _⟩ => absurd h (by omega)
  | m + 1, ⟨i, hi, h⟩ => by
    by_cases q : Q m
    · exact ⟨m, by omega, q, fun j h1 h2 => absurd h1 (by omega)⟩
    · have hm : i < m := by
        by_cases e : i = m
        · subst e; exact absurd h q
        · omega
      obtain ⟨k, h1, h2, h3⟩ := max_ex m ⟨i, hm, h⟩
      refine ⟨k, by omega, h2, fun j h4 h5 => ?_⟩
      by_cases e : j = m
      · subst e; exact q
      · exact h3 j h4 (by omega)
theorem pot_bd {i : Nat} : pot n C v p i ≤ C.length + 2 := by
  have := @ahead_le_all C (p i)
  unfold pot
  split <;> omega
theorem own_same (G : Go n C (ownS C v p) p) {i : Nat} (h : goP n C v p i < mark C (p i)) : ownS C v (goP n C v p) i = ownS C v p i := by
  show v i (piece C (goP n C v p i)) = v i (piece C (p i))
  have e := piece_same G.cu (y := goP n C v p i) (Rat.le_of_lt (G.up i)) h
  rw [e]
theorem stick (G : Go n C (ownS C v p) p) {i : Nat} (hi : i + 1 < n) (h1 : goP n C v p i < mark C (p i)) (h2 : goP n C v p (i + 1) < mark C (p (i + 1))) (e : goP n C v p i = goP n C v p (i + 1)) (hr : realS (ownS C v p) p n (i + 1) ≤ realS (ownS C v p) p n i) :
    realS (ownS C v (goP n C v p)) (goP n C v p) n i = realS (ownS C v (goP n C v p)) (goP n C v p) n (i + 1) := by
  have s1 := G.slow (n - 1 - (i + 1)) (i + 1) (by omega) h2
  have s2 : realS (ownS C v (goP n C v p)) (goP n C v p) n (i + 1) ≤ realS (ownS C v p) p n (i + 1) := s1
  have s3 := own_same G h1
  have s4 : realS (ownS C v p) p n i ≤ ownS C v p i := real_le (by omega)
  have up := real_up (own := ownS C v (goP n C v p)) (p := goP n C v p) hi
  rw [up]
  by_cases h : goP n C v p i = goP n C v p (i + 1) ∧ realS (ownS C v (goP n C v p)) (goP n C v p) n (i + 1) < ownS C v (goP n C v p) i
  · rw [if_pos h]
  · rw [if_neg h]
    have : ¬ realS (ownS C v (goP n C v p)) (goP n C v p) n (i + 1) < ownS C v (goP n C v p) i := fun q => h ⟨e, q⟩
    grind
theorem pot_dec (G : Go n C (ownS C v p) p) : sumN (pot n C v (goP n C v p)) n < sumN (pot n C v p) n := by
  have hup : ∀ i, p i ≤ goP n C v p i := fun i => Rat.le_of_lt (G.up i)
  have hmv : ∀ i, p i = p (i + 1) → realS (ownS C v p) p n i = realS (ownS C v p) p n (i + 1) → goP n C v p i = goP n C v p (i + 1) := fun i => same_move
  have hal : ∀ i, ahead C (goP n C v p i) ≤ ahead C (p i) := fun i => ahead_le (hup i)
  have hcr : ∀ i, i < n → mark C (p i) ≤ goP n C v p i → ahead C (goP n C v p i) < ahead C (p i) := fun i hi h => ahead_lt G.cu (G.lt1 hi) h
  refine sumN_lt n (fun i hi => ?_) ?_
  · by_cases h : mark C (p i) ≤ goP n C v p i
    · have := hcr i hi h
      unfold pot
      split <;> split <;> omega
    · have h1 := hal i
      have hn := Rat.not_le.mp h
      unfold pot
      by_cases h2 : i + 1 < n ∧ ¬ (p i = p (i + 1) ∧ realS (ownS C v p) p n i = realS (ownS C v p) p n (i + 1))
      · rw [if_pos h2]
        split <;> omega
      · rw [if_neg h2, if_neg]
        · omega
        · rintro ⟨h3, h4⟩
          have h5 : p i = p (i + 1) ∧ realS (ownS C v p) p n i = realS (ownS C v p) p n (i + 1) := Decidable.not_not.mp fun q => h2 ⟨h3, q⟩
          have e := hmv i h5.1 h5.2
          refine h4 ⟨e, stick G h3 hn (by rw [← e, ← h5.1]; exact hn) e (by rw [h5.2]; exact Rat.le_refl)⟩
  · by_cases hx : ∃ i, i < n ∧ mark C (p i) ≤ goP n C v p i
    · obtain ⟨i, hi, h1, h2⟩ := max_ex n hx
      refine ⟨i, hi, ?_⟩
      have h3 := hcr i hi h1
      unfold pot
      by_cases h4 : i + 1 < n
      · have h5 : ¬ (p i = p (i + 1) ∧ realS (ownS C v p) p n i = realS (ownS C v p) p n (i + 1)) := by
          rintro ⟨e1, e2⟩
          exact h2 (i + 1) (by omega) h4 (by rw [← hmv i e1 e2, ← e1]; exact h1)
        rw [if_pos (show i + 1 < n ∧ ¬ (p i = p (i + 1) ∧ realS (ownS C v p) p n i = realS (ownS C v p) p n (i + 1)) from ⟨h4, h5⟩)]
        split <;> omega
      · rw [if_neg fun q => h4 q.1, if_neg fun q => h4 q.1]
        omega
    · have hno : ∀ i, i < n → goP n C v p i < mark C (p i) := fun i hi => Rat.not_le.mp fun q => hx ⟨i, hi, q⟩
      rcases G.w_is with ⟨i, hi, e⟩ | ⟨i, hi, h1, h2, e⟩
      · exfalso
        have h3 := hno i hi
        have h4 := div_mul' (a := mark C (p i) - p i) (G.rp i)
        rw [← e] at h4
        have : goP n C v p i = p i + realS (ownS C v p) p n i * waitT n C (realS (ownS C v p) p n) p := rfl
        grind
      · refine ⟨i, by omega, ?_⟩
        have h4 := div_mul' (a := p (i + 1) - p i) (b := realS (ownS C v p) p n i - realS (ownS C v p) p n (i + 1)) (by grind)
        rw [← e] at h4
        have g1 : goP n C v p i = p i + realS (ownS C v p) p n i * waitT n C (realS (ownS C v p) p n) p := rfl
        have g2 : goP n C v p (i + 1) = p (i + 1) + realS (ownS C v p) p n (i + 1) * waitT n C (realS (ownS C v p) p n) p := rfl
        have eq : goP n C v p i = goP n C v p (i + 1) := by rw [g1, g2]; grind
        have st := stick G hi (hno i (by omega)) (hno (i + 1) hi) eq (Rat.le_of_lt h1)
        have := hal i
        unfold pot
        rw [if_neg (fun q => q.2 ⟨eq, st⟩), if_pos ⟨hi, fun q => h2 q.1.symm⟩]
        omega
theorem pot_bound : sumN (pot n C v p) n ≤ n * (C.length + 2) := sumN_bd n fun _ _ => pot_bd
end
end Wk
set_option maxHeartbeats 4000000
/-! W8: how the denominators grow. -/
namespace Wk
/-- a multiple of 1 / D -/
def In (D : Int) (q : Rat) : Prop := ∃ z : Int, q * (D : Rat) = (z : Rat)
theorem In.sb {D : Int} {q : Rat} {m : Nat} {b : Int} (h : In D q) (hD : 0 < D) (q0 : 0 ≤ q) (hq : q ≤ (b : Rat)) (h1 : D < 2 ^ m) (h2 : b * D < 2 ^ m) : Sb m q := by
  obtain ⟨z, hz⟩ := h
  have Dr : (0 : Rat) < (D : Rat) := Rat.intCast_pos.mpr hD
  have e : q = Rat.divInt z D := by
    rw [Rat.divInt_eq_div, ← hz, Rat.mul_div_cancel (Rat.ne_of_gt Dr)]
  have z0 : 0 ≤ z := by
    have : (0 : Rat) ≤ (z : Rat) := by rw [← hz]; exact Rat.mul_nonneg q0 (Rat.le_of_lt Dr)
    exact Rat.intCast_nonneg.mp this
  have z1 : z ≤ b * D := by
    have : (z : Rat) ≤ ((b * D : Int) : Rat) := by
      rw [← hz, Rat.intCast_mul]
      exact Rat.mul_le_mul_of_nonneg_right hq (Rat.le_of_lt Dr)
    exact Rat.intCast_le_intCast.mp this
  have p2 : ((2 : Int) ^ m) = ((2 ^ m : Nat) : Int) := by simp
  rw [e]
  rw [p2] at h1 h2
  exact sb_div hD (by omega) (by omega)
theorem In.mulD {D : Int} {q : Rat} (A : Int) (h : In D q) : In (A * D) q := by
  obtain ⟨z, hz⟩ := h
  refine ⟨A * z, ?_⟩
  rw [Rat.intCast_mul, Rat.intCast_mul, ← hz]
  grind
theorem In.add {D : Int} {q r : Rat} (h : In D q) (h' : In D r) : In D (q + r) := by
  obtain ⟨z, hz⟩ := h
  obtain ⟨y, hy⟩ := h'
  refine ⟨z + y, ?_⟩
  rw [Rat.intCast_add, ← hz, ← hy]
  grind
theorem In.sub {D : Int} {q r : Rat} (h : In D q) (h' : In D r) : In D (q - r) := by
  obtain ⟨z, hz⟩ := h
  obtain ⟨y, hy⟩ := h'
  refine ⟨z - y, ?_⟩
  rw [Rat.intCast_sub, ← hz, ← hy]
  grind
theorem in_one (D : Int) : In D 1 := ⟨D, by grind⟩
theorem in_zero (D : Int) : In D 0 := ⟨0, by simp⟩
theorem in_scale {D z6 zg : Int} {w g ρ x : Rat} (hw : w * ρ = g) (h6 : ρ * 6 = (z6 : Rat)) (hg : g * (D : Rat) = (zg : Rat)) : w * ((z6 * D : Int) : Rat) = ((6 * zg : Int) : Rat) := by
  rw [Rat.intCast_mul, ← h6, Rat.intCast_mul, ← hg, ← hw]
  grind
section
variable {n : Nat} {C : List Rat} {v : Nat → Nat → Rat} {p : Nat → Rat} {D : Int}
/-- speeds that are sixths, at most 10 -/
structure V6 (v : Nat → Nat → Rat) : Prop where
  in6 : ∀ i j, In 6 (v i j)
  pos : ∀ i j, 0 < v i j
  le6 : ∀ i j, v i j ≤ 10
theorem rk6 {own : Nat → Rat} (h : ∀ i, In 6 (own i) ∧ own i ≤ 10) : ∀ k, In 6 (rkN own p n k) ∧ rkN own p n k ≤ 10
  | 0 => h _
  | k + 1 => by
    unfold rkN
    split
    · exact rk6 h k
    · exact h _
theorem mark_in (hC : ∀ c ∈ C, In D c) {x : Rat} : In D (mark C x) := by
  unfold mark
  cases e : C.filter fun c => decide (x < c) with
  | nil => exact in_one D
  | cons c r =>
    have : c ∈ C.filter fun c => decide (x < c) := by rw [e]; exact List.mem_cons_self
    exact hC c (List.mem_filter.mp this).1
theorem moment_in (S : V6 v) (G : Go n C (ownS C v p) p) (hC : ∀ c ∈ C, In D c) (hp : ∀ i, i < n → In D (p i)) :
    ∃ A : Int, 1 ≤ A ∧ A ≤ 60 ∧ In (A * D) (waitT n C (realS (ownS C v p) p n) p) ∧ ∀ i, i < n → In (A * D) (goP n C v p i) := by
  have r6 : ∀ i, In 6 (realS (ownS C v p) p n i) ∧ realS (ownS C v p) p n i ≤ 10 := fun i => rk6 (fun i => ⟨S.in6 _ _, S.le6 _ _⟩) _
  have key : ∀ (ρ g : Rat), waitT n C (realS (ownS C v p) p n) p * ρ = g → In 6 ρ → 0 < ρ → ρ ≤ 10 → In D g → ∃ A : Int, 1 ≤ A ∧ A ≤ 60 ∧ In (A * D) (waitT n C (realS (ownS C v p) p n) p) ∧ ∀ i, i < n → In (A * D) (goP n C v p i) := by
    intro ρ g hw hρ ρ0 ρ6 ⟨zg, hg⟩
    obtain ⟨z6, h6⟩ := hρ
    have h6' : ρ * 6 = (z6 : Rat) := h6
    have z0 : 0 < z6 := by
      have : (0 : Rat) < (z6 : Rat) := by rw [← h6']; grind
      exact Rat.intCast_pos.mp this
    have z36 : z6 ≤ 60 := by
      have : (z6 : Rat) ≤ ((60 : Int) : Rat) := by
        rw [← h6']
        show ρ * 6 ≤ 60
        grind
      exact Rat.intCast_le_intCast.mp this
    have sc := in_scale (x := 0) hw h6' hg
    refine ⟨z6, by omega, z36, ⟨_, sc⟩, fun i hi => ?_⟩
    show In (z6 * D) (p i + realS (ownS C v p) p n i * waitT n C (realS (ownS C v p) p n) p)
    refine ((hp i hi).mulD z6).add ?_
    obtain ⟨zr, hr⟩ := (r6 i).1
    have hr' : realS (ownS C v p) p n i * 6 = (zr : Rat) := hr
    refine ⟨zr * zg, ?_⟩
    rw [Rat.mul_assoc, sc, Rat.intCast_mul, Rat.intCast_mul, ← hr']
    show _ * ((6 : Rat) * _) = _
    grind
  rcases G.w_is with ⟨i, hi, e⟩ | ⟨i, hi, h1, h2, e⟩
  · refine key _ (mark C (p i) - p i) ?_ (r6 i).1 (G.rp i) (r6 i).2 ((mark_in hC).sub (hp i hi))
    rw [e]; exact div_mul' (G.rp i)
  · have h0 : 0 < realS (ownS C v p) p n i - realS (ownS C v p) p n (i + 1) := by grind
    refine key _ (p (i + 1) - p i) ?_ ((r6 i).1.sub (r6 (i + 1)).1) h0 ?_ ((hp (i + 1) hi).sub (hp i (by omega)))
    · rw [e]; exact div_mul' h0
    · have := (r6 i).2
      have := G.rp (i + 1)
      grind
/-- a wait is at most 6 -/
theorem wait_le (S : V6 v) (G : Go n C (ownS C v p) p) : waitT n C (realS (ownS C v p) p n) p ≤ 6 := by
  have n1 := G.n1
  have h1 := G.w_mark (i := 0) (by omega)
  have h2 := mark_le (x := p 0) G.cu
  have h3 := G.pl.lo 0 (by omega)
  obtain ⟨zr, hr⟩ := (rk6 (n := n) (p := p) (own := ownS C v p) (fun i => ⟨S.in6 _ _, S.le6 _ _⟩) (n - 1 - 0)).1
  have hr' : realS (ownS C v p) p n 0 * 6 = (zr : Rat) := hr
  have z1 : 1 ≤ zr := by
    have : (0 : Rat) < (zr : Rat) := by
      rw [← hr']
      have := G.rp 0
      grind
    have := Rat.intCast_pos.mp this
    omega
  have h4 : (1 : Rat) ≤ realS (ownS C v p) p n 0 * 6 := by
    rw [hr']
    exact Rat.intCast_le_intCast.mpr z1
  have h5 := Rat.mul_le_mul_of_nonneg_right h4 (Rat.le_of_lt G.w_pos)
  grind
end
end Wk
set_option maxHeartbeats 8000000
/-! W9: moved, handed, stepped, as the program walks them. -/
namespace Wk
open PySem (Str)
open Bk
@[simp] theorem listAt_end2 {s t : Sto} {xs : List Val} : listAt (s ++ (t ++ [.lst xs])) (s.length + t.length) = some xs := by
  have := listAt_push (s ++ t) xs
  simpa using this
/-- all fractions moved by speed times time -/
def movedB (fa fm : Str) : Ss := .cons (.ret (.prim .tuple (.cons (.lc (.call fa (.cons (.var 3) (.cons (.call fm (.cons (.var 4) (.cons (.var 2) .nil))) .nil))) (.pr (.nm 3) (.nm 4)) (.zip (.var 0) (.var 1)) .none [3, 4]) .nil))) .nil
theorem w_movedB {G : Ctx} {fa fm : Str} {n a : Nat} {s : Sto} {p r : Nat → Rat} {w : Rat} {Q : Fl → Sto → Prop} (ha : ∀ x y s, Sm x → Sm y → G.call fa [frV x, frV y] s = .ok (frV (x + y)) s) (hm : ∀ x y s, Sm x → Sm y → G.call fm [frV x, frV y] s = .ok (frV (x * y)) s)
    (hl : listAt s a = some (fvs n r)) (n5 : n ≤ 5) (hp : ∀ i, i < n → Sm (p i)) (hr : ∀ i, Sm (r i)) (hw : Sm w) (hrw : ∀ i, i < n → Sm (r i * w)) (hQ : ∀ t, Q (.rt (fv n fun i => p i + r i * w)) (s ++ t)) :
    (execs G (movedB fa fm) [some (fv n p), some (.loc a), some (frV w), none, none] s).wp Q := by
  simp [movedB, execs, exec, evalE, evalEs, evalIt]
  rw [show seqG s (fv n p) = some (fvs n p, .none) from rfl, seqG_loc hl]
  simp only [wp_ok]
  have hz : zipV (fvs n p) (fvs n r) = (List.range n).map fun i => .tup [frV (p i), frV (r i)] := zipV_range
  rw [hz]
  refine wp_lc_ix (fun i => frV (p i + r i * w)) (fun t => ?_) (by simp; exact smallN (by omega)) (fun i hi t => ?_) fun t => ?_
  · show listAt (s ++ t) a = _
    rw [listAt_app (listAt_lt hl)]; exact hl
  · simp at hi
    simp [asgT, asgTs, wipe, evalC, evalE, evalEs, hm _ _ _ (hr i) hw, ha _ _ _ (hp i hi) (hrw i hi)]
  · simp [pushO, primV]
    have := hQ (t ++ [.lst (fvs n fun i => p i + r i * w)])
    simpa [fv, fvs] using this
def handP (p : Nat → Rat) : Nat → Rat
  | 0 => 0
  | i + 1 => p i
theorem cut_init {α : Type} (xs : List α) : cut xs none (some (-1)) = xs.dropLast := by
  unfold cut
  rw [List.dropLast_eq_take]
  cases xs with
  | nil => simp
  | cons x r =>
    have e : HT.sIx (x :: r).length (x :: r).length (some (-1)) = (x :: r).length - 1 := by
      simp only [HT.sIx, List.length_cons]
      split <;> omega
    have e2 : HT.sIx (x :: r).length 0 none = 0 := rfl
    rw [e, e2]
    simp
theorem fvs_init {n : Nat} {p : Nat → Rat} : (fvs n p).dropLast = fvs (n - 1) p := by
  rw [List.dropLast_eq_take, fvs_len]
  unfold fvs
  rw [← List.map_take, List.take_range]
  congr 2
  omega
theorem fvs_hand {n : Nat} {p : Nat → Rat} (h : 1 ≤ n) : frV 0 :: fvs (n - 1) p = fvs n (handP p) := by
  obtain ⟨m, rfl⟩ : ∃ m, n = m + 1 := ⟨n - 1, by omega⟩
  unfold fvs
  rw [List.range_succ_eq_map, Nat.add_sub_cancel]
  simp [handP, Function.comp_def]
section
variable {P : Prog} (F : FP P) (M : MB P) {k n : Nat} {s : Sto} {C : List Rat} {v : Nat → Nat → Rat} {p : Nat → Rat} {Q : Val → Sto → Prop}
include F M
theorem w_moved {a : Nat} {r : Nat → Rat} {w : Rat} (hl : listAt s a = some (fvs n r)) (n5 : n ≤ 5) (hp : ∀ i, i < n → Sm (p i)) (hr : ∀ i, Sm (r i)) (hw : Sm w) (hrw : ∀ i, i < n → Sm (r i * w)) (hQ : ∀ t, Q (fv n fun i => p i + r i * w) (s ++ t)) :
    (callN P (k + 3) "moved" [fv n p, .loc a, frV w] s).wp Q := by
  rw [callN_def M.moved]
  have body : WT.d_moved.body = movedB "plus" "times" := rfl
  rw [body]
  simp [WT.d_moved, startE]
  exact w_movedB (fun x y s h1 h2 => w_plus F h1 h2) (fun x y s h1 h2 => w_times F h1 h2) hl n5 hp hr hw hrw fun t => hQ t
end
section
variable {P : Prog} (F : FP P) (M : MP P) {k n : Nat} {s : Sto} {C : List Rat} {v : Nat → Nat → Rat} {p : Nat → Rat} {Q : Val → Sto → Prop}
include F M
theorem w_handed (n1 : 1 ≤ n) (n5 : n ≤ 5) (hQ : Q (fv n (handP p)) s) : (callN P (k + 1) "handed" [fv n p] s).wp Q := by
  rw [callN_def M.handed]
  simp [WT.d_handed, startE, execs, exec, evalE, evalEs, evalEo, F.zero, fv, cutV, cut_init, fvs_init, primV]
  rw [if_pos (smallN (by decide))]
  simp only [wp_ok]
  rw [bin_cat (by simp [fvs_len]; exact smallN (by omega))]
  simp
  rw [← fr0, fvs_hand n1]
  exact hQ
end
/-! ### the whole way -/
/-- moment by moment, f moments at most -/
def walk (n : Nat) (C : List Rat) (v : Nat → Nat → Rat) : Nat → (Nat → Rat) → Rat → Rat × (Nat → Rat)
  | 0, p, t => (t, p)
  | f + 1, p, t => if p (n - 1) = 1 then (t, p) else walk n C v f (goP n C v p) (t + waitT n C (realS (ownS C v p) p n) p)
def most (n : Nat) (C : List Rat) : Nat := n * (C.length + 2)
/-- the whole step: its time, and where all are at its end -/
def stepW (n : Nat) (C : List Rat) (v : Nat → Nat → Rat) (p : Nat → Rat) : Rat × (Nat → Rat) := walk n C v (most n C + 1) p 0
/-- what stands at each moment: Z bounds the denominators, Y the time -/
structure Ok (n : Nat) (C : List Rat) (v : Nat → Nat → Rat) (X : List Rat) (Z Y : Int) (m : Nat) (p : Nat → Rat) (t : Rat) : Prop where
  pl : Pl n p
  den : ∃ D B : Int, D = B * 27720 ∧ 0 < D ∧ (∀ x ∈ X, In D x) ∧ (∀ i, i < n → In D (p i)) ∧ In D t ∧ D * 64 ^ m ≤ Z
  t0 : 0 ≤ t
  tY : ∃ b : Int, t ≤ (b : Rat) ∧ b + 6 * m ≤ Y
  pot : sumN (pot n C v p) n ≤ m
structure Sys (n : Nat) (C : List Rat) (v : Nat → Nat → Rat) : Prop where
  br : Br n C v
  v6 : V6 v
  cu : Cu C
  cB : ∀ c ∈ C, In 27720 c
theorem Sys.go {n : Nat} {C : List Rat} {v : Nat → Nat → Rat} {p : Nat → Rat} (S : Sys n C v) (h : Pl n p) (hr : p (n - 1) ≠ 1) : Go n C (ownS C v p) p := ⟨S.br.n1, S.cu, h, fun i => S.br.vP _ _, hr⟩
theorem Ok.next {n : Nat} {C : List Rat} {v : Nat → Nat → Rat} {p : Nat → Rat} {X : List Rat} {Z Y : Int} {m : Nat} {t : Rat} (S : Sys n C v) (h : Ok n C v X Z Y m p t) (hr : p (n - 1) ≠ 1) :
    ∃ m', m = m' + 1 ∧ Ok n C v X Z Y m' (goP n C v p) (t + waitT n C (realS (ownS C v p) p n) p) := by
  have G := S.go h.pl hr
  have hd := pot_dec G
  have h2 := h.pot
  refine ⟨m - 1, by omega, G.pl', ?_, ?_, ?_, by omega⟩
  · obtain ⟨D, B, rfl, d0, dX, dp, dt, dZ⟩ := h.den
    obtain ⟨A, a1, a36, aw, ap⟩ := moment_in S.v6 G (fun c hc => (S.cB c hc).mulD B) dp
    generalize hD : B * 27720 = D at *
    refine ⟨A * D, A * B, by rw [← hD, Int.mul_assoc], Int.mul_pos (by omega) d0, fun c hc => (dX c hc).mulD A, ap, (dt.mulD A).add aw, ?_⟩
    obtain ⟨k, rfl⟩ : ∃ k, m = k + 1 := ⟨m - 1, by omega⟩
    rw [Nat.add_sub_cancel]
    refine Int.le_trans ?_ dZ
    have e : D * 64 ^ (k + 1) = 64 * (D * 64 ^ k) := by rw [Int.pow_succ]; grind
    rw [e, Int.mul_assoc]
    exact Int.mul_le_mul_of_nonneg_right (by omega) (Int.mul_nonneg (by omega) (Int.pow_nonneg (by decide)))
  · have := G.w_pos
    have := h.t0
    grind
  · obtain ⟨b, hb, hY⟩ := h.tY
    refine ⟨b + 6, ?_, by omega⟩
    have := wait_le S.v6 G
    rw [Rat.intCast_add]
    show _ ≤ (b : Rat) + 6
    grind
theorem pow64_pos (m : Nat) : (1 : Int) ≤ 64 ^ m := by
  have : (0 : Int) < 64 ^ m := Int.pow_pos (by decide)
  omega
/-- the numbers are small -/
theorem Ok.small {n : Nat} {C : List Rat} {v : Nat → Nat → Rat} {p : Nat → Rat} {X : List Rat} {Z Y : Int} {m : Nat} {t : Rat} (h : Ok n C v X Z Y m p t) (hZ : Z < 2 ^ 1800) (hY : Y ≤ 1000000) : (∀ i, i < n → Sb 1820 (p i)) ∧ Sb 1820 t := by
  obtain ⟨D, B, _, d0, dX, dp, dt, dZ⟩ := h.den
  have hD : D ≤ Z := by
    have := Int.mul_le_mul_of_nonneg_left (pow64_pos m) (Int.le_of_lt d0)
    omega
  have e20 : (2 : Int) ^ 1820 = 2 ^ 1800 * 1048576 := by
    rw [show 1820 = 1800 + 20 by rfl, Int.pow_add]
    rfl
  have z0 : (0 : Int) ≤ 2 ^ 1800 := Int.pow_nonneg (by decide)
  refine ⟨fun i hi => ?_, ?_⟩
  · refine (dp i hi).sb (b := 1) d0 (h.pl.lo i hi) (h.pl.hi i hi) (by omega) (by omega)
  · obtain ⟨b, hb, hbY⟩ := h.tY
    refine dt.sb d0 h.t0 hb (by omega) ?_
    have b1 : b * D ≤ 1000000 * D := Int.mul_le_mul_of_nonneg_right (by omega) (Int.le_of_lt d0)
    omega
end Wk
set_option maxHeartbeats 8000000
/-! W10: stepped, as the program walks it. -/
namespace Wk
open PySem (Str)
open Bk
section
variable {n : Nat} {C : List Rat} {v : Nat → Nat → Rat} {X : List Rat} {Z Y : Int}
theorem walk_ok (S : Sys n C v) : ∀ m p t, Ok n C v X Z Y m p t → ∃ m', Ok n C v X Z Y m' (walk n C v (m + 1) p t).2 (walk n C v (m + 1) p t).1 ∧ (walk n C v (m + 1) p t).2 (n - 1) = 1
  | 0, p, t, h => by
    by_cases hr : p (n - 1) = 1
    · rw [walk, if_pos hr]; exact ⟨0, h, hr⟩
    · obtain ⟨m', e, _⟩ := h.next S hr
      omega
  | m + 1, p, t, h => by
    by_cases hr : p (n - 1) = 1
    · rw [walk, if_pos hr]; exact ⟨m + 1, h, hr⟩
    · obtain ⟨m', e, h2⟩ := h.next S hr
      have : m' = m := by omega
      subst this
      have := walk_ok S m' _ _ h2
      rw [walk, if_neg hr]
      exact this
theorem Go.sb (S : Sys n C v) {p : Nat → Rat} (G : Go n C (ownS C v p) p) (hp : ∀ i, i < n → Sb 1900 (p i)) : Sb 3830 (waitT n C (realS (ownS C v p) p n) p) :=
  sb_waits S.br.cS (sb_real (sm_own S.br p)) (real_pos fun i => S.br.vP _ _) hp n (Nat.le_refl _) _ (waitT_mem G.ne)
end
section
variable {P : Prog} (F : FP P) (M : MB P) {k n : Nat} {s : Sto} {C : List Rat} {v : Nat → Nat → Rat} {p : Nat → Rat} {X : List Rat} {Z Y : Int} {Q : Val → Sto → Prop}
include F M
theorem w_stepped (S : Sys n C v) (hZ : Z < 2 ^ 1800) (hY : Y ≤ 1000000) (h : Ok n C v X Z Y (most n C) p 0) (hQ : ∀ s', Sub s s' → Q (.tup [frV (stepW n C v p).1, fv n (stepW n C v p).2]) s') : (callN P (k + 6) "stepped" [brV n C v, fv n p] s).wp Q := by
  have n1 := S.br.n1
  have n5 := S.br.n5
  rw [callN_def M.stepped]
  simp [WT.d_stepped, startE, execs, exec, evalE, F.zero, asgT]
  refine wp_while (fun m σ s' => ∃ q t x3 x4, σ = [some (brV n C v), some (fv n q), some (frV t), x3, x4] ∧ Sub s s' ∧ Ok n C v X Z Y m q t ∧ walk n C v (m + 1) q t = stepW n C v p) (most n C) ⟨p, 0, none, none, rfl, .refl _, h, rfl⟩ ?_
  rintro m σ s' ⟨q, t, x3, x4, rfl, hs, hk, hw⟩
  have hlast : (fvs n q).getLast? = some (frV (q (n - 1))) := by
    rw [List.getLast?_eq_getElem?, fvs_len, fvs_at (by omega)]
  have sm := hk.small hZ hY
  by_cases hr : q (n - 1) = 1
  · simp [evalT, evalE, fv, hlast, F.one, ← fr1, cmpO_ne, eqO_fr, hr, execs, exec, evalEs]
    rw [if_pos (smallN (by decide))]
    have e : stepW n C v p = (t, q) := by rw [← hw, walk, if_pos hr]
    rw [e] at hQ
    exact hQ _ hs
  · simp [evalT, evalE, fv, hlast, F.one, ← fr1, cmpO_ne, eqO_fr, hr]
    obtain ⟨m', rfl, hk2⟩ := hk.next S hr
    have G := S.go hk.pl hr
    obtain ⟨x, W, hxW⟩ := G.ne
    have ew : leastR x W = waitT n C (realS (ownS C v q) q n) q := by unfold waitT; rw [hxW]
    have hp19 : ∀ i, i < n → Sb 1900 (q i) := fun i hi => (sm.1 i hi).up (by decide)
    have sw := G.sb S hp19
    have srr : ∀ i, Sb 10 (realS (ownS C v q) q n i) := sb_real (sm_own S.br q)
    simp [WT.l_stepped_0, execs, exec, evalE, evalEs]
    rw [show Val.tup (fvs n q) = fv n q from rfl]
    refine w_next_moment F M S.br hp19 hxW fun s2 a hs2 ha => ?_
    rw [ew]
    simp [asgT, asgTs]
    refine w_moved F M ha n5 (fun i hi => (hp19 i hi).sm (by decide)) (fun i => (srr i).sm (by decide)) (sw.sm (by decide)) (fun i hi => ((srr i).mul sw).sm (by decide)) fun u => ?_
    simp [w_plus F (sm.2.sm (by decide)) (sw.sm (by decide))]
    rw [if_pos (smallN (by decide))]
    simp [asgT, asgTs]
    refine ⟨m', by omega, _, _, ⟨rfl, rfl⟩, (hs.trans hs2).trans (Sub.app _ _), hk2, ?_⟩
    have e : walk n C v (m' + 1 + 1) q t = walk n C v (m' + 1) (goP n C v q) (t + waitT n C (realS (ownS C v q) q n) q) := by rw [walk, if_neg hr]
    rw [← hw, e]
    rfl
end
end Wk
set_option maxHeartbeats 8000000
/-! W11: the law's own speeds. -/
namespace Wk
open PySem (Str PyData)
open Bk
/-- the law's own walk -/
structure LP (P : Prog) : Prop where
  piece : P.find "_law_piece" = some WT.d__law_piece
  least : P.find "_law_least" = some WT.d__law_least
  speeds : P.find "_law_speeds" = some WT.d__law_speeds
  moment : P.find "_law_moment" = some WT.d__law_moment
  moved : P.find "_law_moved" = some WT.d__law_moved
  spans : P.find "_law_spans" = some WT.d__law_spans
  step : P.find "_law_step" = some WT.d__law_step
/-- .. without the step -/
structure LB (P : Prog) : Prop where
  piece : P.find "_law_piece" = some WT.d__law_piece
  least : P.find "_law_least" = some WT.d__law_least
  speeds : P.find "_law_speeds" = some WT.d__law_speeds
  moment : P.find "_law_moment" = some WT.d__law_moment
  moved : P.find "_law_moved" = some WT.d__law_moved
  spans : P.find "_law_spans" = some WT.d__law_spans
theorem LP.lb {P : Prog} (M : LP P) : LB P := ⟨M.piece, M.least, M.speeds, M.moment, M.moved, M.spans⟩
instance {P : Prog} : Coe (LP P) (LB P) := ⟨LP.lb⟩
/-- a list against the empty one -/
theorem dataWs_all {f : Nat → Option PyData} : ∀ {xs : List Val}, (∀ x ∈ xs, ∃ d, dataW f x = some d ∧ d.canLay0 = true ∧ d.depth ≤ 60) → ∃ ds, dataWs f xs = some ds ∧ PyData.canLayAll0 ds = true ∧ PyData.depthAll ds ≤ 60 ∧ (ds = [] ↔ xs = [])
  | [], _ => ⟨[], by simp [dataWs], rfl, by simp [PyData.depthAll], by simp⟩
  | x :: xs, h => by
    obtain ⟨d, h1, h2, h3⟩ := h x List.mem_cons_self
    obtain ⟨ds, h4, h5, h6, _⟩ := dataWs_all fun y hy => h y (List.mem_cons_of_mem _ hy)
    refine ⟨d :: ds, by simp [dataWs, h1, h4], by simp [PyData.canLayAll0, h2, h5], ?_, by simp⟩
    simp only [PyData.depthAll]
    omega
theorem eqO_nil' {s : Sto} {a b : Nat} {xs : List Val} (ha : listAt s a = some xs) (hx : ∀ x ∈ xs, ∃ d, dataW (dataL s 5) x = some d ∧ d.canLay0 = true ∧ d.depth ≤ 60) (hb : listAt s b = some []) : eqO s (.loc a) (.loc b) = some (decide (xs = [])) := by
  obtain ⟨ds, h1, h2, h3, h4⟩ := dataWs_all hx
  have dl : ∀ a, dataOf s (.loc a) = match listAt s a with | some xs => (dataWs (dataL s 5) xs).map .list | none => none := fun a => by
    show dataW (dataL s 6) (.loc a) = _
    (rw [dataW, dataL]) <;> rfl
  have d1 : dataOf s (.loc a) = some (.list ds) := by rw [dl, ha]; simp only [h1, Option.map_some]
  have d2 : dataOf s (.loc b) = some (.list []) := by rw [dl, hb]; simp only [dataWs, Option.map_some]
  have e1 : PySem.SeqAt.shaped (.list ds) = true := by
    simp only [PySem.SeqAt.shaped, PyData.canLay0, PyData.depth, h2, Bool.true_and]
    exact decide_eq_true (by omega)
  have e2 : PySem.SeqAt.shaped (.list []) = true := shaped_frs []
  simp only [eqO, d1, d2, e1, e2, and_self, if_true]
  cases ds with
  | nil => simp [PyData.eqv, PyData.eqvAll, h4.mp rfl]
  | cons d ds =>
    have : xs ≠ [] := fun q => by have := h4.mpr q; cases this
    simp [PyData.eqv, PyData.eqvAll, this]
def pair2 (x y : Rat) : Val := .tup [frV x, frV y]
theorem data_pair2 (f : Nat → Option PyData) (x y : Rat) : ∃ d, dataW f (pair2 x y) = some d ∧ d.canLay0 = true ∧ d.depth ≤ 60 := by
  refine ⟨.tuple [frD x, frD y], by simp [pair2, dataW, dataWs, dataW_fr], ?_, ?_⟩
  · have := lay_frs [x, y]
    simpa [PyData.canLay0] using this
  · have := dep_frs [x, y]
    simp only [List.map_cons, List.map_nil] at this
    simp only [PyData.depth]
    omega
theorem item_fv {n i : Nat} {p : Nat → Rat} {s : Sto} (h : i < n) : itemV (fv n p) (.int i) s = .ok (frV (p i)) s := by
  simp [fv, fvs_at h]
theorem item_fv1 {n i : Nat} {p : Nat → Rat} {s : Sto} (h : i + 1 < n) : itemV (fv n p) (.int ((i : Int) + 1)) s = .ok (frV (p (i + 1))) s := by
  simp [fv, atI_succ, fvs_at h]
theorem item_fvL {n : Nat} {p : Nat → Rat} {s : Sto} (h : 1 ≤ n) : itemV (fv n p) (.int (-1)) s = .ok (frV (p (n - 1))) s := by
  have hlast : (fvs n p).getLast? = some (frV (p (n - 1))) := by
    rw [List.getLast?_eq_getElem?, fvs_len, fvs_at (by omega)]
  simp [fv, hlast]
/-- own and real speeds -/
def sp2 (own r : Nat → Rat) (i m : Nat) : List Val := (List.range m).map fun q => pair2 (own (i + q)) (r (i + q))
theorem listAt_end3 {s t u : Sto} {o : Ob} {xs : List Val} : listAt (s ++ (t ++ (u ++ [o, .lst xs]))) (s.length + (t.length + (u.length + 1))) = some xs := by
  have := listAt_push (s ++ t ++ u ++ [o]) xs
  simpa [Nat.add_assoc] using this
def ls4 : S := (.asg (.nm 4) (.bin .add (.lst (.cons (.tup (.cons (.var 6) (.cons (.var 7) .nil))) .nil)) (.var 4)))
theorem sp2_cons {own r : Nat → Rat} {i m : Nat} : sp2 own r i (m + 1) = pair2 (own i) (r i) :: sp2 own r (i + 1) m := by
  unfold sp2
  rw [List.range_succ_eq_map]
  simp [Function.comp_def]
  intro q hq
  congr 2 <;> omega
theorem w_ls4 {G : Ctx} {σ0 σ1 σ2 σ3 : Option Val} {own r : Nat → Rat} {i m b : Nat} {s' : Sto} {Q : Fl → Sto → Prop} {x6 x7 : Rat} (h6 : x6 = own i) (h7 : x7 = r i) (hb : listAt s' b = some (sp2 own r (i + 1) m)) (hm : m ≤ 10) {x5 : Option Val}
    (hQ : ∀ t c, listAt (s' ++ t) c = some (sp2 own r i (m + 1)) → Q (.nx [σ0, σ1, σ2, σ3, some (.loc c), x5, some (frV (own i)), some (frV (r i))]) (s' ++ t)) :
    (exec G ls4 [σ0, σ1, σ2, σ3, some (.loc b), x5, some (frV x6), some (frV x7)] s').wp Q := by
  subst h6 h7
  have l1 : listAt (s' ++ [Ob.lst [pair2 (own i) (r i)]]) s'.length = some [pair2 (own i) (r i)] := listAt_push _ _
  have l2 : listAt (s' ++ [Ob.lst [pair2 (own i) (r i)]]) b = some (sp2 own r (i + 1) m) := by rw [listAt_app (listAt_lt hb)]; exact hb
  have ex : evalE G (.tup (.cons (.var 6) (.cons (.var 7) .nil))) [σ0, σ1, σ2, σ3, some (.loc b), x5, some (frV (own i)), some (frV (r i))] s' = .ok (pair2 (own i) (r i)) s' := by
    simp [evalE, evalEs]
    rw [if_pos (smallN (by decide))]
    rfl
  simp only [ls4, exec, evalE_bin, evalE_lst1, ex, Out.bind_ok, pushO]
  simp only [evalE, List.getElem?_cons_succ, List.getElem?_cons_zero, Out.bind_ok]
  rw [bin_addL l1 l2 (by simp [sp2]; exact smallN (by omega))]
  simp only [Out.bind_ok, asgT, List.set_cons_succ, List.set_cons_zero, wp_ok]
  rw [app3]
  refine hQ _ _ ?_
  rw [← app3, listAt_push, sp2_cons]
  rfl
section
variable {P : Prog} (F : FL P) (M : LB P) {k n : Nat} {s : Sto} {C : List Rat} {v : Nat → Nat → Rat} {p : Nat → Rat} {x : Rat} {Q : Val → Sto → Prop}
include F M
theorem l_piece (hC : ∀ c ∈ C, Sm c) (hl : C.length ≤ 5) (hx : Sm x) (hQ : ∀ t, Q (.int (piece C x : Nat)) (s ++ t)) : (callN P (k + 2) "_law_piece" [cutsV C, frV x] s).wp Q := by
  rw [callN_def M.piece]
  simp [WT.d__law_piece, startE, execs, exec, evalE, evalEs, evalIt, evalC, cutsV, asgT]
  refine wp_lc_filter (unF fun c => decide (c ≤ x)) trivial (by simp; exact smallN (by omega)) (fun y hy => ?_) ?_
  · obtain ⟨c, hc, rfl⟩ := List.mem_map.mp hy
    simp [asgT, wipe, evalC, evalT, evalE, evalEs, l_less F hx (hC c hc), unF_fr]
    by_cases h : x < c
    · have : ¬ c ≤ x := Rat.not_le.mpr h
      simp [h, this]
    · have : c ≤ x := Rat.not_lt.mp h
      simp [h, this]
  · rw [filterMap_frV]
    simp [pushO, primV, piece]
    have := hQ [.lst (List.map frV (List.filter (fun c => decide (c ≤ x)) C))]
    simpa [piece] using this
theorem l_least {a : Nat} {x : Rat} {L : List Rat} (ha : listAt s a = some ((x :: L).map frV)) (hx : Sm x) (hL : ∀ y ∈ L, Sm y) (hQ : ∀ t, Q (frV (leastR x L)) (s ++ t)) : (callN P (k + 2) "_law_least" [.loc a] s).wp Q := by
  rw [callN_def M.least]
  have body : WT.d__law_least.body = leastB "_law_less" := rfl
  rw [body]
  simp [WT.d__law_least, startE]
  refine w_leastB (P := P) (fun x y s h1 h2 => l_less F h1 h2) ha hx hL fun t => ?_
  exact hQ t
theorem l_moved {a : Nat} {r : Nat → Rat} {w : Rat} (hl : listAt s a = some (fvs n r)) (n5 : n ≤ 5) (hp : ∀ i, i < n → Sm (p i)) (hr : ∀ i, Sm (r i)) (hw : Sm w) (hrw : ∀ i, i < n → Sm (r i * w)) (hQ : ∀ t, Q (fv n fun i => p i + r i * w) (s ++ t)) :
    (callN P (k + 3) "_law_moved" [fv n p, .loc a, frV w] s).wp Q := by
  rw [callN_def M.moved]
  have body : WT.d__law_moved.body = movedB "_law_add" "_law_mul" := rfl
  rw [body]
  simp [WT.d__law_moved, startE]
  exact w_movedB (fun x y s h1 h2 => l_add F h1 h2) (fun x y s h1 h2 => l_mul F h1 h2) hl n5 hp hr hw hrw fun t => hQ t
theorem l_speeds (B : Br n C v) (hp : ∀ i, i < n → Sm (p i)) (hQ : ∀ t a, listAt (s ++ t) a = some (sp2 (ownS C v p) (realS (ownS C v p) p n) 0 n) → Q (.loc a) (s ++ t)) : (callN P (k + 4) "_law_speeds" [brV n C v, fv n p] s).wp Q := by
  have n1 := B.n1
  have n5 := B.n5
  have oS : ∀ i, Sm (ownS C v p i) := fun i => (sm_own B p i).sm (by decide)
  have rS : ∀ i, Sm (realS (ownS C v p) p n i) := fun i => (sb_real (sm_own B p) i).sm (by decide)
  rw [callN_def M.speeds]
  simp [WT.d__law_speeds, startE, execs, exec, evalE, evalEs, brV, asgT, asgTs, pushO, evalIt, fv, fvs_len]
  rw [if_pos ⟨smallI_of (by omega) (by omega), smallI_of (by decide) (by decide)⟩]
  simp only [wp_ok]
  rw [show Val.tup (fvs n p) = fv n p from rfl]
  refine wp_for (fun m σ s' => ∃ t b x5 x6 x7, s' = s ++ t ∧ listAt s' b = some (sp2 (ownS C v p) (realS (ownS C v p) p n) (n - m) m) ∧ σ = [some (brV n C v), some (fv n p), some (cutsV C), some (peopleV n C.length v), some (.loc b), x5, x6, x7])
    ⟨_, _, _, _, _, rfl, by simp [sp2], rfl⟩ (fun _ _ _ _ _ => trivial) (fun m hm σ s' h => ?_) (fun σ s' h => ?_)
  · obtain ⟨t, b, x5, x6, x7, rfl, h2, rfl⟩ := h
    rw [rangeC_at hm]
    rw [rangeC_len] at hm
    obtain ⟨i, hi, hmi⟩ : ∃ i : Nat, i < n ∧ m = n - 1 - i := ⟨n - 1 - m, by omega, by omega⟩
    have ei : (n : Int) - 1 + (m : Nat) * -1 = (i : Nat) := by omega
    rw [ei]
    have i1 : n - m = i + 1 := by omega
    rw [i1] at h2
    have e1 := @fvs_at n i p hi
    have ep : ((List.range n).map fun i => fv (C.length + 1) (v i))[i]? = some (fv (C.length + 1) (v i)) := by simp [hi]
    have hr : i + 1 < n → realS (ownS C v p) p n i = if p i = p (i + 1) then leastR (ownS C v p i) [realS (ownS C v p) p n (i + 1)] else ownS C v p i := fun h => by
      rw [real_up h]
      by_cases hA : p i = p (i + 1)
      · rw [if_pos hA]
        simp only [leastR, hA, true_and]
      · rw [if_neg hA, if_neg fun q => hA q.1]
    have body : WT.l__law_speeds_0 = .cons (.asg (.nm 6) (.idx (.idx (.var 3) (.var 5)) (.call "_law_piece" (.cons (.var 2) (.cons (.idx (.var 1) (.var 5)) .nil))))) (.cons (.asg (.nm 7) (.var 6))
      (.cons (.ife (.and (.cmp .ne (.var 4) (.lst .nil)) (.cmp .eq (.idx (.var 1) (.var 5)) (.idx (.var 1) (.bin .add (.var 5) (.cst (.int 1))))))
        (.cons (.asg (.nm 7) (.call "_law_least" (.cons (.lst (.cons (.var 6) (.cons (.idx (.idx (.var 4) (.cst (.int 0))) (.cst (.int 1))) .nil))) .nil))) .nil) .nil) (.cons ls4 .nil))) := rfl
    rw [body]
    simp [execs, exec, evalE, evalEs, peopleV, ep, item_fv hi]
    refine l_piece F M (fun c hc => (B.cS c hc).sm (by decide)) B.c5 (hp i hi) fun u => ?_
    have hpc : piece C (p i) < C.length + 1 := by have := @piece_le C (p i); omega
    simp [item_fv hpc, asgT]
    rw [show v i (piece C (p i)) = ownS C v p i from rfl, show Val.tup ((List.range n).map fun i => fv (C.length + 1) (v i)) = peopleV n C.length v from rfl]
    have h3 : listAt (s ++ (t ++ u) ++ [Ob.lst []]) b = some (sp2 (ownS C v p) (realS (ownS C v p) p n) (i + 1) m) := by
      rw [listAt_app (by have := listAt_lt h2; simp at this ⊢; omega), ← app3, listAt_app (listAt_lt h2)]; exact h2
    have h4 : listAt (s ++ (t ++ u) ++ [Ob.lst []]) (s ++ (t ++ u)).length = some [] := listAt_push _ _
    have hq := eqO_nil' h3 (fun y hy => by
      simp only [sp2, List.mem_map] at hy
      obtain ⟨q, _, rfl⟩ := hy
      exact data_pair2 _ _ _) h4
    have hsz : (sp2 (ownS C v p) (realS (ownS C v p) p n) (i + 1) m = []) ↔ m = 0 := by cases m <;> simp [sp2]
    simp [evalT, evalE, evalEs, pushO]
    simp at hq
    simp only [cmpO_ne, hq]
    have hb : ∀ y, listAt (s ++ (t ++ y)) b = some (sp2 (ownS C v p) (realS (ownS C v p) p n) (i + 1) m) := fun y => by rw [← app3, listAt_app (listAt_lt h2)]; exact h2
    simp at h3
    by_cases hl : i + 1 < n
    · obtain ⟨m', rfl⟩ : ∃ m', m = m' + 1 := ⟨m - 1, by omega⟩
      have hne : ¬ sp2 (ownS C v p) (realS (ownS C v p) p n) (i + 1) (m' + 1) = [] := by rw [hsz]; omega
      have hr := hr hl
      have h0 : (sp2 (ownS C v p) (realS (ownS C v p) p n) (i + 1) (m' + 1))[0]? = some (pair2 (ownS C v p (i + 1)) (realS (ownS C v p) p n (i + 1))) := by rw [sp2_cons]; rfl
      simp [hne, item_fv hi, item_fv1 hl, cmpO_eq, eqO_fr]
      by_cases hA : p i = p (i + 1)
      · rw [if_pos hA] at hr
        simp [hA, execs, exec, evalE, evalEs, item_loc' h3, h0, pair2]
        rw [if_pos (smallN (by decide))]
        simp [pushO]
        refine l_least F M (x := ownS C v p i) (L := [realS (ownS C v p) p n (i + 1)]) listAt_end3 (oS i) (fun y hy => by rw [List.mem_singleton.mp hy]; exact rS _) fun w => ?_
        refine w_ls4 (i := i) (m := m' + 1) (r := realS (ownS C v p) p n) (own := ownS C v p) rfl hr.symm (by rw [app3, app3]; exact hb _) (by omega) fun y c hc => ?_
        simp
        rw [show n - (m' + 1 + 1) = i by omega]
        simpa using hc
      · rw [if_neg hA] at hr
        simp [hA, execs]
        refine w_ls4 (i := i) (m := m' + 1) (r := realS (ownS C v p) p n) (own := ownS C v p) rfl hr.symm (hb _) (by omega) fun y c hc => ?_
        simp
        rw [show n - (m' + 1 + 1) = i by omega]
        simpa using hc
    · have hm0 : m = 0 := by omega
      subst hm0
      have hl1 : i = n - 1 := by omega
      simp [sp2, execs]
      refine w_ls4 (i := i) (m := 0) (r := realS (ownS C v p) p n) (own := ownS C v p) rfl (by rw [hl1]; exact real_last.symm) (hb _) (by omega) fun y c hc => ?_
      simp
      rw [show n - 1 = i by omega]
      simpa [sp2] using hc
  · obtain ⟨t, b, x5, x6, x7, rfl, h2, rfl⟩ := h
    rw [rangeC_len] at h2
    simp
    rw [Nat.sub_self] at h2
    exact hQ t b h2
end
end Wk
set_option maxHeartbeats 8000000
/-! W12: the law's own moment. -/
namespace Wk
open PySem (Str PyData)
open Bk
/-- a list of one half of the pairs -/
theorem lc_real {n : Nat} {own r : Nat → Rat} : (sp2 own r 0 n).length = n := by simp [sp2]
def lm1 : S := (.asg (.nm 10) (.bin .add (.lc (.var 9) (.nm 9) (.seq (.var 2)) (.some (.call "_law_less" (.cons (.var 8) (.cons (.var 9) .nil)))) [9]) (.lst (.cons (.tup (.cons (.cst (.int 1)) (.cons (.cst (.int 1)) .nil))) .nil))))
def lm2 : S := (.ife (.cmp .ne (.var 8) (.tup (.cons (.cst (.int 1)) (.cons (.cst (.int 1)) .nil))))
  (.cons (.expr (.meth .append (.var 3) (.cons (.call "_law_div" (.cons (.call "_law_sub" (.cons (.idx (.var 10) (.cst (.int 0))) (.cons (.var 8) .nil))) (.cons (.idx (.var 6) (.var 7)) .nil))) .nil))) .nil) .nil)
def lm3 : S := (.ife (.and (.cmp .lt (.bin .add (.var 7) (.cst (.int 1))) (.prim .len (.cons (.var 1) .nil))) (.and (.call "_law_less" (.cons (.var 8) (.cons (.idx (.var 1) (.bin .add (.var 7) (.cst (.int 1)))) .nil))) (.call "_law_less" (.cons (.idx (.var 6) (.bin .add (.var 7) (.cst (.int 1)))) (.cons (.idx (.var 6) (.var 7)) .nil)))))
  (.cons (.expr (.meth .append (.var 3) (.cons (.call "_law_div" (.cons (.call "_law_sub" (.cons (.idx (.var 1) (.bin .add (.var 7) (.cst (.int 1)))) (.cons (.var 8) .nil))) (.cons (.call "_law_sub" (.cons (.idx (.var 6) (.var 7)) (.cons (.idx (.var 6) (.bin .add (.var 7) (.cst (.int 1)))) .nil))) .nil))) .nil))) .nil) .nil)
theorem NM.of_sub {n : Nat} {r : Nat → Rat} {s s' : Sto} {a w : Nat} {L : List Rat} (h : NM n r s s' a w L) {s2 : Sto} (h2 : Sub s' s2) : NM n r s s2 a w L := by
  obtain ⟨t, rfl⟩ := sub_app h2
  exact h.app t
section
variable {P : Prog} (F : FL P) (M : LB P) {k n : Nat} {s s' : Sto} {C : List Rat} {v : Nat → Nat → Rat} {r p : Nat → Rat} {a w i : Nat} {L : List Rat}
include F M
theorem w_lm1 (hC : ∀ c ∈ C, Sm c) (c5 : C.length ≤ 5) (hp : Sm (p i)) (h : NM n r s s' a w L) {σ0 σ1 σ4 σ5 σ7 σ9 σ10 : Option Val} {Q : Fl → Sto → Prop}
    (hQ : ∀ s2 b, NM n r s s2 a w L → (∃ l, listAt s2 b = some (frV (mark C (p i)) :: l)) → ∀ x9, Q (.nx [σ0, σ1, some (cutsV C), some (.loc w), σ4, σ5, some (.loc a), σ7, some (frV (p i)), x9, some (.loc b)]) s2) :
    (exec (ctxOf P (callN P (k + 4))) lm1 [σ0, σ1, some (cutsV C), some (.loc w), σ4, σ5, some (.loc a), σ7, some (frV (p i)), σ9, σ10] s').wp Q := by
  simp only [lm1, exec, evalE_bin]
  simp [evalE, evalIt, cutsV]
  refine wp_lc_filter (unF fun c => decide (p i < c)) trivial (by simp; exact smallN (by omega)) (fun y hy => ?_) ?_
  · obtain ⟨c, hc, rfl⟩ := List.mem_map.mp hy
    simp [asgT, wipe, evalC, evalT, evalE, evalEs, l_less F hp (hC c hc), unF_fr]
    by_cases h : p i < c <;> simp [h]
  · rw [filterMap_frV]
    generalize hL : C.filter (fun c => decide (p i < c)) = L'
    have hLl : L'.length ≤ 5 := by rw [← hL]; exact Nat.le_trans (List.length_filter_le ..) c5
    simp [pushO, evalEs, evalE]
    rw [if_pos (smallN (by decide))]
    simp
    rw [if_pos (smallN (by decide))]
    simp
    rw [← fr1]
    have l1 : listAt (s' ++ [Ob.lst (L'.map frV), Ob.lst [frV 1]]) s'.length = some (L'.map frV) := listAt_new (t := [Ob.lst [frV 1]])
    have l2 : listAt (s' ++ [Ob.lst (L'.map frV), Ob.lst [frV 1]]) (s'.length + 1) = some [frV 1] := by
      have := listAt_push (s' ++ [Ob.lst (L'.map frV)]) [frV 1]
      simpa using this
    rw [bin_addL l1 l2 (by simp; exact smallN (by omega))]
    simp [asgT]
    have hx : ∃ l, L'.map frV ++ [frV 1] = frV (mark C (p i)) :: l := by
      have e : mark C (p i) = L'.head?.getD 1 := by unfold mark; rw [hL]
      rw [e]
      cases L' with
      | nil => exact ⟨[], rfl⟩
      | cons c l => exact ⟨l.map frV ++ [frV 1], rfl⟩
    obtain ⟨l, hl⟩ := hx
    have h3 := listAt_push (s' ++ [Ob.lst (L'.map frV), Ob.lst [frV 1]]) (L'.map frV ++ [frV 1])
    refine hQ _ _ (h.of_sub ⟨by simp, fun m hm => by rw [List.getElem?_append_left hm]⟩) ⟨l, ?_⟩ _
    rw [← hl]
    simpa using h3
theorem w_lm2 (hC : ∀ c ∈ C, Sb 10 c) (hr : ∀ i, Sb 10 (r i)) (r0 : ∀ i, 0 < r i) (hp : ∀ i, i < n → Sb 1900 (p i)) (hi : i < n) (h : NM n r s s' a w L) (hL : L.length ≤ 100) {b : Nat} (hb : ∃ l, listAt s' b = some (frV (mark C (p i)) :: l)) {σ0 σ1 σ2 σ4 σ5 σ9 : Option Val} :
    (exec (ctxOf P (callN P (k + 4))) lm2 [σ0, σ1, σ2, some (.loc w), σ4, σ5, some (.loc a), some (.int i), some (frV (p i)), σ9, some (.loc b)] s').wp fun f s2 => f = .nx [σ0, σ1, σ2, some (.loc w), σ4, σ5, some (.loc a), some (.int i), some (frV (p i)), σ9, some (.loc b)] ∧
      NM n r s s2 a w (L ++ if p i = 1 then [] else [(mark C (p i) - p i) / r i]) := by
  obtain ⟨l, hb⟩ := hb
  have sp := (hp i hi).sm (by decide)
  have sk := (sb_mark (x := p i) hC (by decide)).sm (by decide)
  have sd := ((sb_mark (x := p i) hC (by decide)).sub (hp i hi)).sm (by decide)
  simp [lm2, exec, evalT, evalE, evalEs]
  rw [if_pos (smallN (by decide))]
  simp [← fr1, cmpO_ne, eqO_fr]
  by_cases h1 : p i = 1
  · simp [h1, execs]
    exact h
  · simp [h1, execs, exec, evalE, evalEs, recv_append h.lw, item_loc' hb, l_sub F sk sp, item_loc' h.la, fvs_at hi, l_div F sd ((hr i).sm (by decide)) (r0 i), meth_append h.lw (show (L.map frV).length < _ by simp; have := PySem.sizeLine_eq; omega)]
    exact h.put _
theorem w_lm3 (hr : ∀ i, Sb 10 (r i)) (hp : ∀ i, i < n → Sb 1900 (p i)) (mono : ∀ i, i + 1 < n → p i ≤ p (i + 1)) (hi : i < n) (h : NM n r s s' a w L) (hL : L.length ≤ 100) {σ0 σ2 σ4 σ5 σ9 σ10 : Option Val} :
    (exec (ctxOf P (callN P (k + 4))) lm3 [σ0, some (fv n p), σ2, some (.loc w), σ4, σ5, some (.loc a), some (.int i), some (frV (p i)), σ9, σ10] s').wp fun f s2 => f = .nx [σ0, some (fv n p), σ2, some (.loc w), σ4, σ5, some (.loc a), some (.int i), some (frV (p i)), σ9, σ10] ∧
      NM n r s s2 a w (L ++ if i + 1 < n ∧ r (i + 1) < r i ∧ p (i + 1) ≠ p i then [(p (i + 1) - p i) / (r i - r (i + 1))] else []) := by
  have sr : ∀ i, Sm (r i) := fun i => (hr i).sm (by decide)
  have sp := (hp i hi).sm (by decide)
  by_cases h1 : i + 1 < n
  · have e1 := @fvs_at n (i + 1) r h1
    have sp2 := (hp (i + 1) h1).sm (by decide)
    have sd := ((hp (i + 1) h1).sub (hp i hi)).sm (by decide)
    have c1 : ((i : Int) + 1 < n) = True := by simp; omega
    have hm := mono i h1
    by_cases h3 : p (i + 1) = p i
    · have h4 : ¬ p i < p (i + 1) := by grind
      simp [lm3, exec, evalT, evalE, evalEs, c1, item_fv1 h1, l_less F sp sp2, h4, execs, show primV .len [fv n p] s' = .ok (.int n) s' by simp [fv, fvs_len]]
      rw [if_neg fun q => q.2.2 h3]
      simpa using h
    · have h4 : p i < p (i + 1) := by grind
      by_cases h2 : r (i + 1) < r i
      · have g0 : 0 < r i - r (i + 1) := by grind
        simp [lm3, exec, evalT, evalE, evalEs, c1, item_fv1 h1, l_less F sp sp2, h4, execs, show primV .len [fv n p] s' = .ok (.int n) s' by simp [fv, fvs_len], item_loc' h.la, atI_succ, e1, fvs_at hi, l_less F (sr (i + 1)) (sr i), h2, recv_append h.lw,
          l_sub F sp2 sp, l_sub F (sr i) (sr (i + 1)), l_div F sd (((hr i).sub (hr (i + 1))).sm (by decide)) g0, meth_append h.lw (show (L.map frV).length < _ by simp; have := PySem.sizeLine_eq; omega)]
        rw [if_pos ⟨h1, h3⟩]
        exact h.put _
      · simp [lm3, exec, evalT, evalE, evalEs, c1, item_fv1 h1, l_less F sp sp2, h4, execs, show primV .len [fv n p] s' = .ok (.int n) s' by simp [fv, fvs_len], item_loc' h.la, atI_succ, e1, fvs_at hi, l_less F (sr (i + 1)) (sr i), h2]
        exact h
  · have c1 : ((i : Int) + 1 < n) = False := by simp; omega
    simp [lm3, exec, evalT, evalE, evalEs, c1, execs, h1, show primV .len [fv n p] s' = .ok (.int n) s' by simp [fv, fvs_len]]
    exact h
theorem l_reals (B : Br n C v) (hp : ∀ i, i < n → Sm (p i)) {i1 i2 : Nat} (h12 : i1 ≠ i2) (b : Bool) {σ : Env} (hl1 : i1 < σ.length) (hl2 : i2 < σ.length) (h0 : σ[0]? = some (some (brV n C v))) (h1 : σ[1]? = some (some (fv n p))) {Q : Val → Sto → Prop}
    (hQ : ∀ t a, listAt (s ++ t) a = some (fvs n (if b then realS (ownS C v p) p n else ownS C v p)) → Q (.loc a) (s ++ t)) :
    (evalE (ctxOf P (callN P (k + 4))) (.lc (.var (if b then i2 else i1)) (.pr (.nm i1) (.nm i2)) (.seq (.call "_law_speeds" (.cons (.var 0) (.cons (.var 1) .nil)))) .none [i1, i2]) σ s).wp Q := by
  have n5 := B.n5
  simp [evalE, evalIt, evalEs, h0, h1]
  refine l_speeds F M B hp fun t a ha => ?_
  rw [seqG_loc ha]
  simp only [Option.elim_some]
  refine wp_lc_ix (fun i => frV ((if b then realS (ownS C v p) p n else ownS C v p) i)) (fun u => ?_) (by simp [sp2]; exact smallN (by omega)) (fun i hi u => ?_) fun u => ?_
  · show listAt (s ++ t ++ u) a = _
    rw [listAt_app (listAt_lt ha)]; exact ha
  · have e : (sp2 (ownS C v p) (realS (ownS C v p) p n) 0 n)[i] = pair2 (ownS C v p i) (realS (ownS C v p) p n i) := by simp [sp2]
    rw [e]
    cases b
    · simp [pair2, asgT, asgTs, wipe, evalC, evalE, hl1, hl2, h12, Ne.symm h12]
    · simp [pair2, asgT, asgTs, wipe, evalC, evalE, hl1, hl2, h12]
  · simp [pushO, lc_real]
    have := hQ (t ++ (u ++ [.lst (fvs n (if b then realS (ownS C v p) p n else ownS C v p))])) (s ++ t ++ u).length (by
      rw [← app3, ← app3]; exact listAt_push _ _)
    simpa [fvs] using this
theorem l_moment (B : Br n C v) (hp : ∀ i, i < n → Sb 1900 (p i)) (mono : ∀ i, i + 1 < n → p i ≤ p (i + 1)) {x : Rat} {W : List Rat} (hW : waits n C (realS (ownS C v p) p n) p n = x :: W) {Q : Val → Sto → Prop}
    (hQ : ∀ s' a, Sub s s' → listAt s' a = some (fvs n (realS (ownS C v p) p n)) → Q (.tup [frV (leastR x W), .loc a]) s') : (callN P (k + 5) "_law_moment" [brV n C v, fv n p] s).wp Q := by
  have n5 := B.n5
  have hr : ∀ i, Sb 10 (realS (ownS C v p) p n i) := sb_real (sm_own B p)
  have r0 : ∀ i, 0 < realS (ownS C v p) p n i := real_pos fun i => B.vP _ _
  rw [callN_def M.moment]
  have body : WT.d__law_moment.body = .cons (.asg (.pr (.nm 2) (.nm 3)) (.tup (.cons (.idx (.var 0) (.cst (.int 0))) (.cons (.lst .nil) .nil))))
    (.cons (.asg (.nm 6) (.lc (.var (if true then 5 else 4)) (.pr (.nm 4) (.nm 5)) (.seq (.call "_law_speeds" (.cons (.var 0) (.cons (.var 1) .nil)))) .none [4, 5]))
    (.cons (.for_ (.pr (.nm 7) (.nm 8)) (.enum (.var 1)) WT.l__law_moment_0) (.cons (.ret (.tup (.cons (.call "_law_least" (.cons (.var 3) .nil)) (.cons (.var 6) .nil)))) .nil))) := rfl
  rw [body]
  rw [if_pos (by rfl)]
  simp only [wp_finish, startE, WT.d__law_moment]
  simp only [execs, exec, wp_bind]
  have e1 : evalE (ctxOf P (callN P (k + 4))) (.tup (.cons (.idx (.var 0) (.cst (.int 0))) (.cons (.lst .nil) .nil))) (List.map some [brV n C v, fv n p] ++ List.replicate (11 - [brV n C v, fv n p].length) none) s = .ok (.tup [cutsV C, .loc s.length]) (s ++ [.lst []]) := by
    simp [evalE, evalEs, brV, pushO]
    exact smallN (by decide)
  rw [e1]
  simp [asgT, asgTs]
  refine l_reals F M B (fun i hi => (hp i hi).sm (by decide)) (i1 := 4) (i2 := 5) (by decide) true (by simp) (by simp) (by simp) (by simp) fun t a ha => ?_
  simp [evalIt, evalE]
  rw [show ∀ s, seqG s (fv n p) = some (fvs n p, .none) from fun _ => rfl]
  simp only [wp_ok]
  have h0 : NM n (realS (ownS C v p) p n) s (s ++ [Ob.lst []] ++ t) a s.length [] := by
    refine ⟨by rw [app3]; exact Sub.app _ _, Nat.le_refl _, ?_, by simpa using ha, ?_⟩
    · intro e
      rw [e, listAt_app (by simp), listAt_push] at ha
      have := congrArg (Option.map List.length) ha
      simp [fvs_len] at this
      have := B.n1
      omega
    · rw [listAt_app (by simp), listAt_push]; rfl
  simp only [app3] at h0
  refine wp_for (fun i σ s' => ∃ x4 x5 x7 x8 x9 x10, σ = [some (brV n C v), some (fv n p), some (cutsV C), some (.loc s.length), x4, x5, some (.loc a), x7, x8, x9, x10] ∧ NM n (realS (ownS C v p) p n) s s' a s.length (waits n C (realS (ownS C v p) p n) p i))
    ⟨_, _, _, _, _, _, rfl, by simpa [waits] using h0⟩ (fun _ _ _ _ _ => trivial) (fun i hi σ s' h => ?_) (fun σ s' h => ?_)
  · obtain ⟨x4, x5, x7, x8, x9, x10, rfl, h⟩ := h
    have hi2 : i < n := by simpa [enumV, fvs_len] using hi
    rw [enumV_at hi]
    have e1 : (fvs n p)[i]'(by rw [fvs_len]; exact hi2) = frV (p i) := by simp [fvs]
    rw [e1]
    have hL : ∀ m, m ≤ 5 → (waits n C (realS (ownS C v p) p n) p m).length ≤ 2 * m := by
      intro m hm
      induction m with
      | zero => simp [waits]
      | succ m ih =>
        have := ih (by omega)
        simp only [waits, List.length_append, waitsAt]
        split <;> split <;> simp <;> omega
    have hl := hL i (by omega)
    have body : WT.l__law_moment_0 = .cons lm1 (.cons lm2 (.cons lm3 .nil)) := rfl
    simp [asgT, asgTs, body, execs]
    refine w_lm1 F M (fun c hc => (B.cS c hc).sm (by decide)) B.c5 ((hp i hi2).sm (by decide)) h fun s2 b h2 hb x9 => ?_
    simp
    refine wp_mono (w_lm2 F M B.cS hr r0 hp hi2 h2 (by omega) hb) fun f s3 q => ?_
    obtain ⟨rfl, q⟩ := q
    simp
    refine wp_mono (w_lm3 F M hr hp mono hi2 q (by simp; split <;> simp <;> omega)) fun f s4 q => ?_
    obtain ⟨rfl, q⟩ := q
    simp
    rw [waits, waitsAt, ← List.append_assoc]
    exact q
  · obtain ⟨x4, x5, x7, x8, x9, x10, rfl, h⟩ := h
    rw [show (enumV (fvs n p)).length = n by rw [enumV_len', fvs_len], hW] at h
    simp [evalE, evalEs]
    have hb := sb_waits (n := n) B.cS hr r0 hp n (Nat.le_refl _)
    rw [hW] at hb
    refine l_least F M h.lw ((hb x List.mem_cons_self).sm (by decide)) (fun y hy => (hb y (List.mem_cons_of_mem _ hy)).sm (by decide)) fun u => ?_
    rw [if_pos (smallN (by decide))]
    have h2 := h.app u
    exact hQ _ _ h2.sub h2.la
end
end Wk
set_option maxHeartbeats 8000000
/-! W13: the law's own spans and steps. -/
namespace Wk
open PySem (Str PyData)
open Bk
def SpanOk (n : Nat) (s : Sto) (w : Nat) (x : Val) : Prop := ∃ t1 t2 q a b A B, x = .tup [frV t1, frV t2, fv n q, .loc a, .loc b] ∧ a ≠ w ∧ b ≠ w ∧ listAt s a = some (fvs n A) ∧ listAt s b = some (fvs n B)
theorem SpanOk.app {n : Nat} {s : Sto} {w : Nat} {x : Val} (h : SpanOk n s w x) (t : Sto) : SpanOk n (s ++ t) w x := by
  obtain ⟨t1, t2, q, a, b, A, B, e, h1, h2, h3, h4⟩ := h
  exact ⟨t1, t2, q, a, b, A, B, e, h1, h2, by rw [listAt_app (listAt_lt h3)]; exact h3, by rw [listAt_app (listAt_lt h4)]; exact h4⟩
theorem SpanOk.set {n : Nat} {s : Sto} {w : Nat} {x : Val} (h : SpanOk n s w x) (o : Ob) : SpanOk n (s.set w o) w x := by
  obtain ⟨t1, t2, q, a, b, A, B, e, h1, h2, h3, h4⟩ := h
  exact ⟨t1, t2, q, a, b, A, B, e, h1, h2, by rw [listAt_set_ne (Ne.symm h1)]; exact h3, by rw [listAt_set_ne (Ne.symm h2)]; exact h4⟩
theorem fvs_map {n : Nat} {p : Nat → Rat} : fvs n p = ((List.range n).map p).map frV := by simp [fvs]
theorem SpanOk.data {n : Nat} {s : Sto} {w : Nat} {x : Val} (h : SpanOk n s w x) : ∃ d, dataW (dataL s 5) x = some d ∧ d.canLay0 = true ∧ d.depth ≤ 60 := by
  obtain ⟨t1, t2, q, a, b, A, B, rfl, h1, h2, h3, h4⟩ := h
  have da : dataW (dataL s 5) (.loc a) = some (.list (((List.range n).map A).map frD)) := by
    rw [dataW, dataL, h3, fvs_map]
    simp only [dataWs_frs, Option.map_some]
  have db : dataW (dataL s 5) (.loc b) = some (.list (((List.range n).map B).map frD)) := by
    rw [dataW, dataL, h4, fvs_map]
    simp only [dataWs_frs, Option.map_some]
  have dq : dataW (dataL s 5) (fv n q) = some (.tuple (((List.range n).map q).map frD)) := by
    rw [fv, dataW, fvs_map]
    simp only [dataWs_frs, Option.map_some]
  refine ⟨.tuple [frD t1, frD t2, .tuple (((List.range n).map q).map frD), .list (((List.range n).map A).map frD), .list (((List.range n).map B).map frD)], ?_, ?_, ?_⟩
  · rw [dataW]
    simp only [dataWs, dataW_fr, dq, da, db, Option.map_some]
  · have l1 := lay_frs [t1, t2]
    simp only [List.map_cons, List.map_nil, PyData.canLayAll0, Bool.and_true, Bool.and_eq_true] at l1
    simp only [PyData.canLay0, PyData.canLayAll0, lay_frs, l1, Bool.and_true]
  · have d1 := dep_fr t1
    have d2 := dep_fr t2
    have d3 := dep_frs ((List.range n).map q)
    have d4 := dep_frs ((List.range n).map A)
    have d5 := dep_frs ((List.range n).map B)
    simp only [PyData.depth, PyData.depthAll]
    omega
def lcOwn : E := .lc (.var (if false then 8 else 7)) (.pr (.nm 7) (.nm 8)) (.seq (.call "_law_speeds" (.cons (.var 0) (.cons (.var 1) .nil)))) .none [7, 8]
/-- what stands in the law's loop -/
structure LS (n : Nat) (s s' : Sto) (w : Nat) (xs : List Val) (t : Rat) : Prop where
  sub : Sub s s'
  low : s.length ≤ w
  lw : listAt s' w = some xs
  ok : ∀ x ∈ xs, SpanOk n s' w x
  e0 : xs = [] → t = 0
  last : xs ≠ [] → ∃ A B C D, xs.getLast? = some (.tup [A, frV t, B, C, D])
theorem LS.app {n : Nat} {s s' : Sto} {w : Nat} {xs : List Val} {t : Rat} (h : LS n s s' w xs t) (u : Sto) : LS n s (s' ++ u) w xs t :=
  ⟨h.sub.trans (Sub.app _ _), h.low, by rw [listAt_app (listAt_lt h.lw)]; exact h.lw, fun x hx => (h.ok x hx).app u, h.e0, h.last⟩
theorem LS.of_sub {n : Nat} {s s' : Sto} {w : Nat} {xs : List Val} {t : Rat} (h : LS n s s' w xs t) {s2 : Sto} (h2 : Sub s' s2) : LS n s s2 w xs t := by
  obtain ⟨u, rfl⟩ := sub_app h2
  exact h.app u
theorem LS.put {n : Nat} {s s' : Sto} {w : Nat} {xs : List Val} {t : Rat} (h : LS n s s' w xs t) {t2 : Rat} {q : Nat → Rat} {a b : Nat} {A B : Nat → Rat} (ha : a ≠ w) (hb : b ≠ w) (h1 : listAt s' a = some (fvs n A)) (h2 : listAt s' b = some (fvs n B)) :
    LS n s (s'.set w (.lst (xs ++ [.tup [frV t, frV t2, fv n q, .loc a, .loc b]]))) w (xs ++ [.tup [frV t, frV t2, fv n q, .loc a, .loc b]]) t2 := by
  refine ⟨h.sub.set h.low, h.low, listAt_set (listAt_lt h.lw), fun x hx => ?_, fun e => by simp at e, fun _ => ⟨frV t, fv n q, .loc a, .loc b, by simp⟩⟩
  rcases List.mem_append.mp hx with hx | hx
  · exact (h.ok x hx).set _
  · rw [List.mem_singleton.mp hx]
    have : SpanOk n s' w (.tup [frV t, frV t2, fv n q, .loc a, .loc b]) := ⟨_, _, _, _, _, A, B, rfl, ha, hb, h1, h2⟩
    exact this.set _
theorem LS.ne {n : Nat} {s s' : Sto} {w a : Nat} {xs : List Val} {t : Rat} {A : Nat → Rat} (h : LS n s s' w xs t) (n1 : 1 ≤ n) (ha : listAt s' a = some (fvs n A)) : a ≠ w := by
  intro e
  rw [e, h.lw] at ha
  have hx : xs = fvs n A := Option.some.inj ha
  have hm : frV (A 0) ∈ xs := by
    rw [hx]
    exact List.mem_map.mpr ⟨0, by simp; omega, rfl⟩
  obtain ⟨_, _, _, _, _, _, _, e2, _⟩ := h.ok _ hm
  simp [frV] at e2
theorem most_le {n : Nat} {C : List Rat} {v : Nat → Nat → Rat} (B : Br n C v) : most n C ≤ 35 := by
  have h1 := B.n5
  have h2 := B.c5
  unfold most
  calc n * (C.length + 2) ≤ 5 * 7 := Nat.mul_le_mul h1 (by omega)
    _ = 35 := by rfl
section
variable {P : Prog} (F : FL P) (M : LB P) {k n : Nat} {s : Sto} {C : List Rat} {v : Nat → Nat → Rat} {p : Nat → Rat} {X : List Rat} {Z Y : Int} {Q : Val → Sto → Prop}
include F M
theorem l_spans (S : Sys n C v) (hZ : Z < 2 ^ 1800) (hY : Y ≤ 1000000) (h : Ok n C v X Z Y (most n C) p 0) (hQ : ∀ s' w xs, LS n s s' w xs (stepW n C v p).1 → Q (.tup [.loc w, fv n (stepW n C v p).2]) s') : (callN P (k + 6) "_law_spans" [brV n C v, fv n p] s).wp Q := by
  have n1 := S.br.n1
  have n5 := S.br.n5
  rw [callN_def M.spans]
  simp [WT.d__law_spans, startE, execs, exec, evalE, evalEs, pushO]
  rw [if_pos (smallN (by decide))]
  simp
  rw [if_pos (smallN (by decide))]
  simp [asgT, asgTs]
  refine wp_while (fun m σ s' => ∃ q t w xs x4 x5 x6 x7 x8, σ = [some (brV n C v), some (fv n q), some (frV t), some (.loc w), x4, x5, x6, x7, x8] ∧ LS n s s' w xs t ∧ xs.length + m ≤ most n C ∧ Ok n C v X Z Y m q t ∧ walk n C v (m + 1) q t = stepW n C v p) (most n C)
    ⟨p, 0, s.length, [], none, none, none, none, none, rfl, ⟨Sub.app _ _, Nat.le_refl _, listAt_push _ _, fun x hx => (by cases hx), fun _ => rfl, fun h => absurd rfl h⟩, by simp, h, rfl⟩ ?_
  rintro m σ s' ⟨q, t, w, xs, x4, x5, x6, x7, x8, rfl, hs, hlen, hk, hw⟩
  have sm := hk.small hZ hY
  by_cases hr : q (n - 1) = 1
  · simp [evalT, evalE, evalEs, item_fvL n1]
    rw [if_pos (smallN (by decide))]
    simp [← fr1, cmpO_ne, eqO_fr, hr]
    rw [if_pos (smallN (by decide))]
    have e : stepW n C v p = (t, q) := by rw [← hw, walk, if_pos hr]
    rw [e] at hQ
    exact hQ _ _ _ hs
  · simp [evalT, evalE, evalEs, item_fvL n1]
    rw [if_pos (smallN (by decide))]
    simp [← fr1, cmpO_ne, eqO_fr, hr]
    obtain ⟨m', rfl, hk2⟩ := hk.next S hr
    have G := S.go hk.pl hr
    obtain ⟨x, W, hxW⟩ := G.ne
    have ew : leastR x W = waitT n C (realS (ownS C v q) q n) q := by unfold waitT; rw [hxW]
    have hp19 : ∀ i, i < n → Sb 1900 (q i) := fun i hi => (sm.1 i hi).up (by decide)
    have sw := G.sb S hp19
    have srr : ∀ i, Sb 10 (realS (ownS C v q) q n i) := sb_real (sm_own S.br q)
    have body : WT.l__law_spans_0 = (.cons (.asg (.pr (.nm 4) (.nm 5)) (.call "_law_moment" (.cons (.var 0) (.cons (.var 1) .nil)))) (.cons (.asg (.nm 6) (.call "_law_add" (.cons (.var 2) (.cons (.var 4) .nil))))
      (.cons (.expr (.meth .append (.var 3) (.cons (.tup (.cons (.var 2) (.cons (.var 6) (.cons (.var 1) (.cons (.var 5) (.cons lcOwn .nil)))))) .nil)))
      (.cons (.asg (.pr (.nm 1) (.nm 2)) (.tup (.cons (.call "_law_moved" (.cons (.var 1) (.cons (.var 5) (.cons (.var 4) .nil)))) (.cons (.var 6) .nil)))) .nil)))) := rfl
    rw [body]
    simp only [execs, exec, wp_bind]
    have e0 : ∀ σ s, σ[0]? = some (some (brV n C v)) → σ[1]? = some (some (fv n q)) → evalE (ctxOf P (callN P (k + 5))) (.call "_law_moment" (.cons (.var 0) (.cons (.var 1) .nil))) σ s = callN P (k + 5) "_law_moment" [brV n C v, fv n q] s := by
      intro σ s h0 h1
      simp [evalE, evalEs, h0, h1]
    rw [e0 _ _ rfl rfl]
    refine l_moment F M S.br hp19 hk.pl.mono hxW fun s2 a hs2 ha => ?_
    rw [ew]
    simp [asgT, asgTs, evalE, evalEs, l_add F (sm.2.sm (by decide)) (sw.sm (by decide))]
    have h2 := hs.of_sub hs2
    rw [recv_append h2.lw]
    simp
    refine l_reals F M S.br (fun i hi => (hp19 i hi).sm (by decide)) (i1 := 7) (i2 := 8) (by decide) false ?h1 ?h2 ?h3 ?h4 fun u b hb => ?_
    case h1 => simp
    case h2 => simp
    case h3 => rfl
    case h4 => rfl
    simp at hb
    rw [if_pos (smallN (by decide))]
    have h3 := h2.app u
    have ha3 : listAt (s2 ++ u) a = some (fvs n (realS (ownS C v q) q n)) := by rw [listAt_app (listAt_lt ha)]; exact ha
    have aw := h3.ne n1 ha3
    have bw := h3.ne n1 hb
    have hm := most_le S.br
    have h4 := h3.put (t2 := t + waitT n C (realS (ownS C v q) q n) q) (q := q) aw bw ha3 hb
    have ha4 : listAt ((s2 ++ u).set w (.lst (xs ++ [.tup [frV t, frV (t + waitT n C (realS (ownS C v q) q n) q), fv n q, .loc a, .loc b]]))) a = some (fvs n (realS (ownS C v q) q n)) := by rw [listAt_set_ne (Ne.symm aw)]; exact ha3
    simp only [wp_ok]
    rw [meth_append h3.lw (by have := PySem.sizeLine_eq; omega)]
    simp only [wp_ok]
    refine l_moved F M ha4 n5 (fun i hi => (hp19 i hi).sm (by decide)) (fun i => (srr i).sm (by decide)) (sw.sm (by decide)) (fun i hi => ((srr i).mul sw).sm (by decide)) fun y => ?_
    rw [if_pos (smallN (by decide))]
    simp
    have e : walk n C v (m' + 1 + 1) q t = walk n C v (m' + 1) (goP n C v q) (t + waitT n C (realS (ownS C v q) q n) q) := by rw [walk, if_neg hr]
    refine ⟨m', by omega, _, _, _, ⟨rfl, rfl, rfl⟩, _, h4.app y, by simp; omega, hk2, ?_⟩
    rw [← hw, e]
    rfl
end
section
variable {P : Prog} (F : FL P) (M : LP P) {k n : Nat} {s : Sto} {C : List Rat} {v : Nat → Nat → Rat} {p : Nat → Rat} {X : List Rat} {Z Y : Int} {Q : Val → Sto → Prop}
include F M
theorem l_step (S : Sys n C v) (hZ : Z < 2 ^ 1800) (hY : Y ≤ 1000000) (h : Ok n C v X Z Y (most n C) p 0) (hQ : ∀ s', Sub s s' → Q (.tup [frV (stepW n C v p).1, fv n (handP (stepW n C v p).2)]) s') : (callN P (k + 7) "_law_step" [brV n C v, fv n p] s).wp Q := by
  have n1 := S.br.n1
  have n5 := S.br.n5
  rw [callN_def M.step]
  simp [WT.d__law_step, startE, execs, exec, evalE, evalEs]
  refine l_spans F M S hZ hY h fun s' w xs hs => ?_
  have l2 : listAt (s' ++ [Ob.lst []]) s'.length = some [] := listAt_push _ _
  have h2 := hs.app [Ob.lst []]
  have hq := eqO_nil' h2.lw (fun x hx => (h2.ok x hx).data) l2
  have fin : ∀ s2 x, Sub s s2 → x = frV (stepW n C v p).1 → ((binV Bop.add (.tup [.tup [.int 0, .int 1]]) (.tup (cut (fvs n (stepW n C v p).2) none (some (-1)))) s2).wp fun a s3 => (if 2 ≤ PySem.sizeLine then Out.ok (Val.tup [x, a]) s3 else .stuck).wp fun a s4 => Q a s4) := by
    intro s2 x hs2 hx
    rw [cut_init, fvs_init, bin_cat (by simp [fvs_len]; exact smallN (by omega))]
    simp only [wp_ok]
    rw [if_pos (smallN (by decide)), ← fr0, List.singleton_append, fvs_hand n1, hx]
    exact hQ _ hs2
  simp [asgT, asgTs, evalT, evalE, evalEs, pushO, cmpO_ne, hq]
  by_cases hx : xs = []
  · have e0 := hs.e0 hx
    simp [hx]
    rw [if_pos (smallN (by decide))]
    simp
    rw [if_pos (smallN (by decide))]
    simp
    rw [if_pos (smallN (by decide))]
    simp [evalEo, evalE, cutV, fv]
    exact fin _ _ (by simpa using h2.sub) (by rw [e0]; rfl)
  · obtain ⟨A, B', C', D, hl⟩ := hs.last hx
    simp [hx, item_loc' h2.lw, hl]
    rw [if_pos (smallN (by decide))]
    simp
    rw [if_pos (smallN (by decide))]
    simp [evalEo, evalE, cutV, fv]
    exact fin _ _ (by simpa using h2.sub) rfl
end
end Wk
set_option maxHeartbeats 8000000
/-! W14: the pool of drawn numbers. -/
namespace Wk
open PySem (Str PyData)
open Bk
def Pool (s : Sto) (n : Nat) : Prop := ∃ ns : List Int, listAt s n = some (ns.map .int) ∧ ns.length ≤ 10000
/-- only the pool was written, and new places came -/
structure Pk (n : Nat) (s s' : Sto) : Prop where
  len : s.length ≤ s'.length
  keep : ∀ k, k < s.length → k ≠ n → s'[k]? = s[k]?
  pool : Pool s' n
theorem Pk.trans {n : Nat} {s s1 s2 : Sto} (a : Pk n s s1) (b : Pk n s1 s2) : Pk n s s2 := ⟨Nat.le_trans a.len b.len, fun k h h2 => (b.keep k (Nat.lt_of_lt_of_le h a.len) h2).trans (a.keep k h h2), b.pool⟩
theorem Pk.list {n k : Nat} {s s' : Sto} {xs : List Val} (a : Pk n s s') (h : listAt s k = some xs) (hk : k ≠ n) : listAt s' k = some xs := by
  have := listAt_lt h
  unfold listAt at h ⊢
  rw [a.keep k this hk]; exact h
theorem Pk.ob {n k : Nat} {s s' : Sto} {o : Ob} (a : Pk n s s') (h : s[k]? = some o) (hk : k ≠ n) : s'[k]? = some o := by
  rw [a.keep k (List.getElem?_eq_some_iff.mp h).1 hk]; exact h
theorem Pool.refl {n : Nat} {s : Sto} (h : Pool s n) : Pk n s s := ⟨Nat.le_refl _, fun _ _ _ => rfl, h⟩
theorem Pool.lt {n : Nat} {s : Sto} (h : Pool s n) : n < s.length := by obtain ⟨ns, h, _⟩ := h; exact listAt_lt h
theorem Pool.app {n : Nat} {s : Sto} (h : Pool s n) (t : Sto) : Pool (s ++ t) n := by
  obtain ⟨ns, h1, h2⟩ := h
  exact ⟨ns, by rw [listAt_app (listAt_lt h1)]; exact h1, h2⟩
theorem Pk.app {n : Nat} {s s' : Sto} (a : Pk n s s') (t : Sto) : Pk n s (s' ++ t) := ⟨by have := a.len; simp; omega, fun k h h2 => by rw [List.getElem?_append_left (Nat.lt_of_lt_of_le h a.len)]; exact a.keep k h h2, a.pool.app t⟩
theorem Pk.sub {n : Nat} {s s' s2 : Sto} (a : Pk n s s') (h : Sub s' s2) : Pk n s s2 := by
  obtain ⟨t, rfl⟩ := sub_app h
  exact a.app t
/-- another place that is new is written -/
theorem Pk.set {n m : Nat} {s s' : Sto} (a : Pk n s s') (hm : s.length ≤ m) (hn : m ≠ n) (o : Ob) : Pk n s (s'.set m o) :=
  ⟨by rw [List.length_set]; exact a.len, fun k h h2 => by rw [List.getElem?_set_ne (by omega)]; exact a.keep k h h2, by
    obtain ⟨ns, h1, h2⟩ := a.pool
    exact ⟨ns, by rw [listAt_set_ne hn]; exact h1, h2⟩⟩
structure DP (P : Prog) : Prop where
  take : P.find "_law_take" = some WT.d__law_take
  twelfths : P.find "_law_twelfths" = some WT.d__law_twelfths
  places : P.find "_law_places" = some WT.d__law_places
  speed : P.find "_law_speed" = some WT.d__law_speed
  brigade : P.find "_law_brigade" = some WT.d__law_brigade
section
variable {P : Prog} (M : DP P) {k n : Nat} {s : Sto} {Q : Val → Sto → Prop}
include M
theorem l_take {m : Int} (hp : Pool s n) (m0 : 0 < m) (hQ : ∀ d s', 0 ≤ d → d < m → Pk n s s' → Q (.int d) s') : (callN P (k + 1) "_law_take" [.loc n, .int m] s).wp Q := by
  obtain ⟨ns, hl, hn⟩ := hp
  have hlt := listAt_lt hl
  have l2 : listAt (s ++ [Ob.lst []]) s.length = some [] := listAt_push _ _
  have l1 : listAt (s ++ [Ob.lst []]) n = some (ns.map .int) := by rw [listAt_app hlt]; exact hl
  have hq := eqO_nil' l1 (fun x hx => by
    obtain ⟨i, _, rfl⟩ := List.mem_map.mp hx
    exact ⟨.int i, by rw [dataW], rfl, by show 0 ≤ 60; omega⟩) l2
  rw [callN_def M.take]
  simp [WT.d__law_take, startE, execs, exec, evalT, evalE, evalEs, pushO, cmpO_eq, hq]
  by_cases he : ns = []
  · subst he
    simp [execs, exec, evalE]
    exact hQ _ _ (Int.le_refl _) m0 ((Pool.refl ⟨[], hl, by simp⟩).app _)
  · simp [he, execs, exec, evalE, evalEs]
    have hlast : (ns.map Val.int)[(ns.map Val.int).length - 1]? = some (.int (ns.getLast he)) := by
      rw [← List.getLast?_eq_getElem?, List.getLast?_map, List.getLast?_eq_some_getLast he]; rfl
    have hr : recvOk .pop (s ++ [Ob.lst []]) (.loc n) = true := by simp [recvOk, listAt_some l1]
    have hm : methV .pop (.loc n) [] (s ++ [Ob.lst []]) = .ok (.int (ns.getLast he)) ((s ++ [Ob.lst []]).set n (.lst (ns.map Val.int).dropLast)) := by
      simp only [methV, listAt_some l1, hlast]
    simp [hr, hm, bin_mod m0]
    refine hQ _ _ (Int.emod_nonneg _ (by omega)) (Int.emod_lt_of_pos _ m0) ⟨by simp, fun j h1 h2 => ?_, ns.dropLast, ?_, ?_⟩
    · rw [List.getElem?_set_ne (Ne.symm h2), List.getElem?_append_left h1]
    · rw [listAt_set (by simp; omega)]; simp [List.map_dropLast]
    · simp; omega
end
def Frs (n : Nat) : Prop := True
section
variable {P : Prog} {k : Nat} {s : Sto} {Q : Val → Sto → Prop}
def px1 : E := (.bin .mod (.bin .add (.bin .add (.bin .add (.bin .mul (.var 3) (.cst (.int 48271))) (.bin .mod (.prim .int (.cons (.var 5) .nil)) (.cst (.int 2147483629)))) (.bin .mul (.cst (.int 7)) (.prim .len (.cons (.var 2) .nil)))) (.prim .int (.cons (.cmp .lt (.var 4) (.cst (.int 0))) .nil))) (.cst (.int 2147483647)))
def px2 : E := (.bin .mod (.bin .add (.bin .add (.bin .mul (.var 3) (.cst (.int 69621))) (.cst (.int 12347))) (.var 6)) (.cst (.int 2147483647)))
def px3 : E := (.bin .mod (.bin .fdiv (.bin .mod (.prim .int (.cons (.bin .mul (.var 3) (.bin .add (.bin .add (.var 3) (.bin .mul (.cst (.int 2)) (.var 6))) (.cst (.int 1)))) .nil)) (.cst (.int 2147483629))) (.cst (.int 1009))) (.cst (.int 1000)))
theorem bin_mulR {i j : Int} {s : Sto} (h1 : -1000000000000000000 < j) (h2 : j < 1000000000000000000) : binV .mul (.int i) (.int j) s = .ok (.int (i * j)) s := bin_mul (mulOk_r h1 h2)
theorem bin_mulL {i j : Int} {s : Sto} (h1 : -1000000000000000000 < i) (h2 : i < 1000000000000000000) : binV .mul (.int i) (.int j) s = .ok (.int (i * j)) s := bin_mul (mulOk_l h1 h2)
theorem px1_ok {G : Ctx} {σ0 σ1 σ6 : Option Val} {w : Nat} {seed cell left : Int} {xs : List Val} (hw : listAt s w = some xs) : ∃ y, 0 ≤ y ∧ y < 2147483647 ∧ evalE G px1 [σ0, σ1, some (.loc w), some (.int seed), some (.int cell), some (.int left), σ6] s = .ok (.int y) s := by
  have p1 : (0 : Int) < 2147483629 := by decide
  have p2 : (0 : Int) < 2147483647 := by decide
  refine ⟨(seed * 48271 + left % 2147483629 + 7 * (xs.length : Int) + (if decide (cell < 0) = true then 1 else 0)) % 2147483647, Int.emod_nonneg _ (Int.ne_of_gt p2), Int.emod_lt_of_pos _ p2, ?_⟩
  simp only [px1, evalE, evalEs, List.getElem?_cons_zero, List.getElem?_cons_succ, Out.bind_ok, bin_add, prim_int_int, bin_mod p1, prim_len_loc hw, cmp_lt, prim_int_bl]
  rw [bin_mulR (by decide) (by decide)]
  simp only [Out.bind_ok, bin_add]
  rw [prim_len_loc hw]
  simp only [Out.bind_ok]
  rw [bin_mulL (by decide) (by decide)]
  simp only [Out.bind_ok, bin_add]
  rw [bin_mod p2]
theorem px2_ok {G : Ctx} {σ0 σ1 σ2 σ4 σ5 : Option Val} {seed kk : Int} : ∃ y, 0 ≤ y ∧ y < 2147483647 ∧ evalE G px2 [σ0, σ1, σ2, some (.int seed), σ4, σ5, some (.int kk)] s = .ok (.int y) s := by
  have p2 : (0 : Int) < 2147483647 := by decide
  refine ⟨(seed * 69621 + 12347 + kk) % 2147483647, Int.emod_nonneg _ (Int.ne_of_gt p2), Int.emod_lt_of_pos _ p2, ?_⟩
  simp only [px2, evalE, evalEs, List.getElem?_cons_zero, List.getElem?_cons_succ, Out.bind_ok, bin_add]
  rw [bin_mulR (by decide) (by decide)]
  simp only [Out.bind_ok, bin_add]
  rw [bin_mod p2]
theorem px3_ok {G : Ctx} {σ0 σ1 σ2 σ4 σ5 : Option Val} {seed kk : Int} (h1 : 0 ≤ seed) (h2 : seed < 2147483647) : ∃ y, evalE G px3 [σ0, σ1, σ2, some (.int seed), σ4, σ5, some (.int kk)] s = .ok (.int y) s := by
  have p1 : (0 : Int) < 2147483629 := by decide
  have p3 : (0 : Int) < 1000 := by decide
  have d : DivOk 1009 := divOk_of (n := 20) (by decide) (by decide) (by decide)
  refine ⟨seed * (seed + 2 * kk + 1) % 2147483629 / 1009 % 1000, ?_⟩
  simp only [px3, evalE, evalEs, List.getElem?_cons_zero, List.getElem?_cons_succ, Out.bind_ok, bin_add]
  rw [bin_mulL (by decide) (by decide)]
  simp only [Out.bind_ok, bin_add]
  rw [bin_mulL (by omega) (by omega)]
  simp only [Out.bind_ok, prim_int_int]
  rw [bin_mod p1]
  simp only [Out.bind_ok]
  rw [bin_fdiv d]
  simp only [Out.bind_ok]
  rw [bin_mod p3]
theorem l_pool {seed : Int} (hf : P.find "_law_pool" = some (WT.d__law_pool seed)) {ns : List Int} {many : Nat} (sd : 0 ≤ seed ∧ seed < 2147483647) (hm : many ≤ 1000) (hn : ns.length ≤ 63) (hQ : ∀ s' n, Sub s s' → s.length ≤ n → Pool s' n → Q (.loc n) s') : (callN P (k + 1) "_law_pool" [.rol (ns.map .int), .int many] s).wp Q := by
  have sl := PySem.sizeLine_eq
  rw [callN_def hf]
  simp [WT.d__law_pool, startE, execs, exec, evalE, evalEs, pushO, asgT, evalIt, evalEo, cutV]
  rw [seqG_loc (by
    have := listAt_push (s ++ [Ob.lst []]) (cut (ns.map Val.int) none (some 63))
    simpa using this)]
  simp only [Option.elim_some]
  have hcut : ∀ x ∈ cut (ns.map Val.int) none (some 63), ∃ i : Int, x = .int i := fun x hx => by
    unfold cut at hx
    have := List.mem_of_mem_drop (List.mem_of_mem_take hx)
    obtain ⟨i, _, e⟩ := List.mem_map.mp this
    exact ⟨i, e.symm⟩
  have hcl : (cut (ns.map Val.int) none (some 63)).length ≤ 63 := by
    unfold cut
    have := List.length_take_le (HT.sIx (ns.map Val.int).length (ns.map Val.int).length (some 63) - HT.sIx (ns.map Val.int).length 0 none) ((ns.map Val.int).drop (HT.sIx (ns.map Val.int).length 0 none))
    simp at this ⊢
    omega
  generalize hc : cut (ns.map Val.int) none (some 63) = cs at hcut hcl
  have d1000 : DivOk 1000 := divOk_of (n := 20) (by decide) (by decide) (by decide)
  have m1000 : (0 : Int) < 1000 := by decide
  refine wp_for (fun i σ s' => ∃ seed x4 x5 x6, ∃ L : List Int, 0 ≤ seed ∧ seed < 2147483647 ∧ σ = [some (.rol (ns.map .int)), some (.int many), some (.loc s.length), some (.int seed), x4, x5, x6] ∧ listAt s' s.length = some (L.map .int) ∧ L.length ≤ 60 * i ∧ Sub s s' ∧ listAt s' (s.length + 1) = some cs)
    ⟨seed, none, none, none, [], sd.1, sd.2, rfl, listAt_new, by simp, Sub.app _ _, by
      have := listAt_push (s ++ [Ob.lst []]) cs
      simpa using this⟩ (fun i σ s' _ h => by obtain ⟨_, _, _, _, _, _, _, _, _, _, _, h⟩ := h; exact h) (fun i hi σ s' h => ?_) (fun σ s' h => ?_)
  · obtain ⟨seed, x4, x5, x6, L, s0, s1, rfl, hL, hlen, hsub, hcs⟩ := h
    obtain ⟨cell, ecell⟩ := hcut _ (List.getElem_mem hi)
    rw [ecell]
    have body : WT.l__law_pool_1 = .cons (.asg (.nm 5) (.prim .abs (.cons (.prim .int (.cons (.var 4) .nil)) .nil))) (.cons (.asg (.nm 3) px1) (.cons (.ife (.cmp .ge (.var 5) (.bin .pow (.cst (.int 10)) (.cst (.int 18)))) (.cons (.for_ (.nm 6) (.rng1 (.cst (.int 60))) WT.l__law_pool_0) .nil) .nil) .nil)) := rfl
    rw [body]
    obtain ⟨y, y0, y1, ey⟩ := px1_ok (G := ctxOf P (callN P k)) (σ0 := some (.rol (ns.map .int))) (σ1 := some (.int many)) (σ6 := x6) (seed := seed) (cell := cell) (left := if cell < 0 then -cell else cell) hL
    simp only [execs, exec, asgT, wp_bind, List.set_cons_succ, List.set_cons_zero]
    have e5 : evalE (ctxOf P (callN P k)) (.prim .abs (.cons (.prim .int (.cons (.var 4) .nil)) .nil)) [some (.rol (ns.map .int)), some (.int many), some (.loc s.length), some (.int seed), some (.int cell), x5, x6] s' = .ok (.int (if cell < 0 then -cell else cell)) s' := by
      simp [evalE, evalEs]
    rw [e5]
    simp only [wp_ok, ey, wp_bind, Out.bind_ok, List.set_cons_succ, List.set_cons_zero]
    have e18 : evalT (ctxOf P (callN P k)) (.cmp .ge (.var 5) (.bin .pow (.cst (.int 10)) (.cst (.int 18)))) [some (.rol (ns.map .int)), some (.int many), some (.loc s.length), some (.int y), some (.int cell), some (.int (if cell < 0 then -cell else cell)), x6] s' = .ok (decide (10 ^ 18 ≤ (if cell < 0 then -cell else cell))) s' := by
      have := pow10 (s := s') 18 (by decide)
      simp only [evalT, evalE, List.getElem?_cons_zero, List.getElem?_cons_succ, Out.bind_ok]
      have h2 : binV .pow (.int 10) (.int 18) s' = .ok (.int (10 ^ 18)) s' := this
      rw [h2]
      simp
    rw [e18]
    simp only [wp_ok]
    by_cases hg : 10 ^ 18 ≤ (if cell < 0 then -cell else cell)
    · simp only [hg, decide_true, execs, exec, evalIt, evalE, wp_bind]
      simp only [wp_ok]
      rw [if_pos (smallI_of (by decide) (by decide))]
      simp only [wp_ok]
      refine wp_for (fun j σ s2 => ∃ left x6, ∃ L2 : List Int, σ = [some (.rol (ns.map .int)), some (.int many), some (.loc s.length), some (.int y), some (.int cell), some (.int left), x6] ∧ listAt s2 s.length = some (L2.map .int) ∧ L2.length ≤ 60 * i + j ∧ Sub s s2 ∧ listAt s2 (s.length + 1) = some cs)
        ⟨_, _, L, rfl, hL, by omega, hsub, hcs⟩ (fun _ _ _ _ _ => trivial) (fun j hj σ s2 h => ?_) (fun σ s2 h => ?_)
      · obtain ⟨left, x6, L2, rfl, hL2, hlen2, hsub2, hcs2⟩ := h
        rw [rangeV_at hj]
        rw [rangeV_len] at hj
        simp only [asgT]
        by_cases hp : 0 < left
        · have hap := meth_append (v := .int (left % 1000)) hL2 (by simp; have : (60 : Int).toNat = 60 := rfl; omega)
          simp [WT.l__law_pool_0, execs, exec, evalT, evalE, evalEs, hp, recv_append hL2, bin_mod m1000, hap, bin_fdiv d1000, asgT]
          refine ⟨L2 ++ [left % 1000], ?_, by simp; omega, hsub2.set (Nat.le_refl _), by rw [listAt_set_ne (by omega)]; exact hcs2⟩
          rw [listAt_set (listAt_lt hL2)]; simp
        · simp [WT.l__law_pool_0, execs, exec, evalT, evalE, evalEs, hp]
          exact ⟨L2, hL2, by omega, hsub2, hcs2⟩
      · obtain ⟨left, x6, L2, rfl, hL2, hlen2, hsub2, hcs2⟩ := h
        rw [rangeV_len] at hlen2
        simp only [wp_ok]
        exact ⟨y, _, _, _, L2, y0, y1, rfl, hL2, by have : (60 : Int).toNat = 60 := rfl; omega, hsub2, hcs2⟩
    · simp only [hg, decide_false, execs, wp_ok]
      exact ⟨y, _, _, _, L, y0, y1, rfl, hL, by omega, hsub, hcs⟩
  · obtain ⟨seed, x4, x5, x6, L, s0, s1, rfl, hL, hlen, hsub, hcs⟩ := h
    simp only [wp_ok, wp_bind, evalIt, evalE, List.getElem?_cons_zero, List.getElem?_cons_succ]
    rw [if_pos (smallI_of (by omega) (by omega))]
    simp only [wp_ok]
    refine wp_for (fun i σ s' => ∃ seed x6, ∃ L : List Int, 0 ≤ seed ∧ seed < 2147483647 ∧ σ = [some (.rol (ns.map .int)), some (.int many), some (.loc s.length), some (.int seed), x4, x5, x6] ∧ listAt s' s.length = some (L.map .int) ∧ L.length ≤ 60 * 63 + i ∧ Sub s s')
      ⟨seed, _, L, s0, s1, rfl, hL, by omega, hsub⟩ (fun _ _ _ _ _ => trivial) (fun i hi σ s' h => ?_) (fun σ s' h => ?_)
    · obtain ⟨seed, x6, L, s0, s1, rfl, hL, hlen, hsub⟩ := h
      rw [rangeV_at hi]
      rw [rangeV_len] at hi
      have body : WT.l__law_pool_2 = .cons (.asg (.nm 3) px2) (.cons (.expr (.meth .append (.var 2) (.cons px3 .nil))) .nil) := rfl
      rw [body]
      obtain ⟨y, y0, y1, ey⟩ := px2_ok (s := s') (G := ctxOf P (callN P k)) (σ0 := some (.rol (ns.map .int))) (σ1 := some (.int many)) (σ2 := some (.loc s.length)) (σ4 := x4) (σ5 := x5) (seed := seed) (kk := 0 + (i : Nat))
      obtain ⟨z, ez⟩ := px3_ok (s := s') (G := ctxOf P (callN P k)) (σ0 := some (.rol (ns.map .int))) (σ1 := some (.int many)) (σ2 := some (.loc s.length)) (σ4 := x4) (σ5 := x5) (seed := y) (kk := 0 + (i : Nat)) y0 y1
      have hap := meth_append (v := .int z) hL (by simp; omega)
      simp only [asgT, execs, exec, wp_bind, List.set_cons_succ, List.set_cons_zero, ey, wp_ok]
      simp only [evalE, evalEs, List.getElem?_cons_zero, List.getElem?_cons_succ, Out.bind_ok, recv_append hL, ez]
      simp only [if_true, wp_bind, wp_ok, hap]
      refine ⟨y, _, L ++ [z], y0, y1, rfl, ?_, by simp; omega, hsub.set (Nat.le_refl _)⟩
      rw [listAt_set (listAt_lt hL)]; simp
    · obtain ⟨seed, x6, L, s0, s1, rfl, hL, hlen, hsub⟩ := h
      rw [rangeV_len] at hlen
      simp [revV, hL, pushO]
      refine hQ _ _ (hsub.trans (Sub.app _ _)) (by have := hsub.1; omega) ⟨L.reverse, ?_, by simp; omega⟩
      rw [listAt_push, List.map_reverse]
end
end Wk
set_option maxHeartbeats 8000000
/-! W15: drawn speeds, cuts, places, brigades. -/
namespace Wk
open PySem (Str PyData)
open Bk
def Spd (q : Rat) : Prop := In 6 q ∧ 0 < q ∧ q ≤ 10 ∧ Sb 10 q
theorem spd_div {a b : Int} (a1 : 1 ≤ a) (a6 : a ≤ 6) (b1 : 1 ≤ b) (b3 : b ≤ 3) : Spd (Rat.divInt a b) := by
  have br : (0 : Rat) < (b : Rat) := Rat.intCast_pos.mpr (by omega)
  have ar : (1 : Rat) ≤ (a : Rat) := Rat.intCast_le_intCast.mpr a1
  have ar6 : (a : Rat) ≤ 6 := Rat.intCast_le_intCast.mpr a6
  have br1 : (1 : Rat) ≤ (b : Rat) := Rat.intCast_le_intCast.mpr b1
  have e : Rat.divInt a b * (b : Rat) = (a : Rat) := by rw [Rat.divInt_eq_div]; exact div_mul' br
  have pos : 0 < Rat.divInt a b := by rw [Rat.divInt_eq_div]; exact div_pos' (by grind) br
  refine ⟨?_, pos, ?_, sb_div (by omega) (by omega) (by omega)⟩
  · have hb : b = 1 ∨ b = 2 ∨ b = 3 := by omega
    rcases hb with rfl | rfl | rfl
    · refine ⟨6 * a, ?_⟩
      rw [Rat.intCast_mul, ← e]
      show _ * (6 : Rat) = (6 : Rat) * (_ * (1 : Rat))
      grind
    · refine ⟨3 * a, ?_⟩
      rw [Rat.intCast_mul, ← e]
      show _ * (6 : Rat) = (3 : Rat) * (_ * (2 : Rat))
      grind
    · refine ⟨2 * a, ?_⟩
      rw [Rat.intCast_mul, ← e]
      show _ * (6 : Rat) = (2 : Rat) * (_ * (3 : Rat))
      grind
  · have := Rat.mul_le_mul_of_nonneg_left br1 (Rat.le_of_lt pos)
    grind
/-- k twelfths -/
def tw (k : Int) : Rat := Rat.divInt k 12
theorem tw_mul (k : Int) : tw k * 12 = (k : Rat) := by
  have h : (0 : Rat) < ((12 : Int) : Rat) := Rat.intCast_pos.mpr (by decide)
  have := div_mul' (a := (k : Rat)) h
  unfold tw
  rw [Rat.divInt_eq_div]
  exact this
theorem tw_lt {k l : Int} (h : k < l) : tw k < tw l := by
  have h1 := tw_mul k
  have h2 := tw_mul l
  have h3 : (k : Rat) < (l : Rat) := Rat.intCast_lt_intCast.mpr h
  grind
theorem tw_le {k l : Int} (h : k ≤ l) : tw k ≤ tw l := by
  have h1 := tw_mul k
  have h2 := tw_mul l
  have h3 : (k : Rat) ≤ (l : Rat) := Rat.intCast_le_intCast.mpr h
  grind
theorem tw0 : tw 0 = 0 := by have := tw_mul 0; simp at this; grind
theorem tw12 : tw 12 = 1 := by
  have := tw_mul 12
  have h : ((12 : Int) : Rat) = 12 := rfl
  grind
theorem tw_in (k : Int) : In 12 (tw k) := ⟨k, tw_mul k⟩
theorem tw_sb {k : Int} (h0 : 0 ≤ k) (h : k ≤ 100) : Sb 10 (tw k) := sb_div (by decide) (by omega) (by decide)
theorem sortI_perm (ns : List Int) : (sortI ns).Perm ns := List.mergeSort_perm _ _
theorem sortI_le (ns : List Int) : (sortI ns).Pairwise (· ≤ ·) := by
  have h := List.pairwise_mergeSort (le := fun a b : Int => decide (a ≤ b)) (fun a b c h1 h2 => by simp at *; omega) (fun a b => by simp; omega) ns
  exact h.imp fun h => by simpa using h
theorem sortI_lt {ns : List Int} (hn : ns.Nodup) : (sortI ns).Pairwise (· < ·) := by
  have h1 := sortI_le ns
  have h2 : (sortI ns).Nodup := (sortI_perm ns).nodup_iff.mpr hn
  have := h1.and h2
  exact this.imp fun h => by omega
def twV : Val → Val
  | .int q => frV (tw q)
  | _ => .non
theorem map_twV (ks : List Int) : (ks.map Val.int).map twV = (ks.map tw).map frV := by simp [twV]
/-- the dict of found numbers -/
def kvT (ks : List Int) : List (Val × Val) := ks.map fun k => (.int k, .bl true)
theorem dput_T (ks : List Int) (k : Int) : dput (kvT ks) (.int k) (.bl true) = kvT (if k ∈ ks then ks else ks ++ [k]) := by
  have key : ∀ i j : Int, keyEq (.int i) (.int j) = decide (i = j) := fun _ _ => by rw [keyEq]
  unfold dput kvT
  by_cases h : k ∈ ks
  · rw [if_pos (by simp [key]; exact h), if_pos h]
    rw [List.map_map]
    apply List.map_congr_left
    intro a ha
    simp [key]
  · rw [if_neg (by
      simp [key]
      exact h), if_neg h]
    simp
section
variable {P : Prog} (F : FM P) (M : DP P) {k n : Nat} {s : Sto} {Q : Val → Sto → Prop}
include F M
theorem l_speed (hp : Pool s n) (hQ : ∀ q s', Spd q → Pk n s s' → Q (frV q) s') : (callN P (k + 2) "_law_speed" [.loc n] s).wp Q := by
  rw [callN_def M.speed]
  simp [WT.d__law_speed, startE, execs, exec, evalE, evalEs]
  refine l_take M hp (by decide) fun a s1 a0 a1 h1 => ?_
  simp
  refine l_take M h1.pool (by decide) fun b s2 b0 b1 h2 => ?_
  have hs : Spd (Rat.divInt (1 + a) (1 + b)) := spd_div (by omega) (by omega) (by omega) (by omega)
  simp [l_makeM F (show (0 : Int) < 1 + b by omega) (bd_le (m := 10) (1 + b).natAbs (by omega) (by decide))]
  exact hQ _ _ hs (h1.trans h2)
theorem l_twelfths (hp : Pool s n) {most : Nat} (hm : most ≤ 5) (hQ : ∀ C s', Cu C → (∀ c ∈ C, In 12 c ∧ Sb 10 c) → C.length ≤ most → Pk n s s' → Q (cutsV C) s') : (callN P (k + 2) "_law_twelfths" [.loc n, .int most, .int 1, .int 11] s).wp Q := by
  rw [callN_def M.twelfths]
  have hn := hp.lt
  simp [WT.d__law_twelfths, startE, execs, exec, evalE, evalEs, evalIt, pushO, asgT]
  refine l_take M (hp.app [Ob.dct false []]) (by omega) fun d s1 d0 d1 h1 => ?_
  simp
  rw [if_pos (smallI_of (by omega) (by omega))]
  simp only [wp_ok]
  have hw : s1[s.length]? = some (.dct false (kvT [])) := h1.ob (by simp [kvT]) (by omega)
  have hPk : Pk n s s1 := ⟨by have := h1.len; simp at this; omega, fun k hk h2 => by rw [h1.keep k (by simp; omega) h2, List.getElem?_append_left hk], h1.pool⟩
  refine wp_for (fun i σ s' => ∃ x5, ∃ ks : List Int, σ = [some (.loc n), some (.int most), some (.int 1), some (.int 11), some (.loc s.length), x5, none] ∧ s'[s.length]? = some (.dct false (kvT ks)) ∧ ks.Nodup ∧ ks.length ≤ i ∧ (∀ q ∈ ks, 1 ≤ q ∧ q ≤ 11) ∧ Pk n s s')
    ⟨_, [], rfl, hw, List.nodup_nil, by simp, by simp, hPk⟩ (fun _ _ _ _ _ => trivial) (fun i hi σ s' h => ?_) (fun σ s' h => ?_)
  · obtain ⟨x5, ks, rfl, hk, hnd, hlen, hb, hP⟩ := h
    rw [rangeV_len] at hi
    simp [WT.l__law_twelfths_0, execs, exec, evalE, evalEs]
    refine l_take M hP.pool (by decide) fun q s2 q0 q1 h2 => ?_
    have hk2 : s2[s.length]? = some (.dct false (kvT ks)) := h2.ob hk (by omega)
    have hP2 := hP.trans h2
    have hs : setV (.loc s.length) (.int (1 + q)) (.bl true) s2 = .ok () (s2.set s.length (.dct false (kvT (if 1 + q ∈ ks then ks else ks ++ [1 + q])))) := by
      simp only [setV, hk2, isKey, flatKey]
      rw [if_pos ⟨by first | trivial | rfl, by simp [kvT]; omega⟩, dput_T]
    simp [hs]
    have hlt := (List.getElem?_eq_some_iff.mp hk2).1
    refine ⟨_, List.getElem?_set_self hlt, ?_, ?_, ?_, hP2.set (Nat.le_refl _) (by omega) _⟩
    · split
      · exact hnd
      · rename_i hq
        exact List.nodup_append.mpr ⟨hnd, by simp, fun a ha b hb => by rw [List.mem_singleton.mp hb]; intro e; subst e; exact hq ha⟩
    · split
      · omega
      · simp; omega
    · intro y hy
      split at hy
      · exact hb y hy
      · rcases List.mem_append.mp hy with hy | hy
        · exact hb y hy
        · rw [List.mem_singleton.mp hy]; omega
  · obtain ⟨x5, ks, rfl, hk, hnd, hlen, hb, hP⟩ := h
    rw [rangeV_len] at hlen
    have hints : intsO ((kvT ks).map (·.1)) = some ks := by
      have : (kvT ks).map (·.1) = ks.map .int := by simp [kvT]
      rw [this, intsO_map]
    have hsrt : primV .sorted [.loc s.length] s' = .ok (.loc s'.length) (s' ++ [.lst ((sortI ks).map .int)]) := by
      have hl : listAt s' s.length = none := by simp [listAt, hk]
      simp only [primV, seqL, hl, hk, hints]
      rw [if_pos (by omega)]
      rfl
    have hlst : listAt (s' ++ [Ob.lst ((sortI ks).map .int)]) s'.length = some ((sortI ks).map .int) := listAt_push _ _
    simp [hsrt]
    rw [seqG_loc hlst]
    simp only [Option.elim_some]
    refine wp_lc_pure twV hlst (by simp; have := (sortI_perm ks).length_eq; exact smallN (by omega)) (fun x hx => ?_) ?_
    · obtain ⟨q, hq, rfl⟩ := List.mem_map.mp hx
      simp [asgT, wipe, evalC, evalE, evalEs, l_makeM F (show (0 : Int) < 12 by decide) (show (12 : Int).natAbs < 2 ^ 8500 from bd_le (m := 10) 12 (by decide) (by decide))]
      rfl
    · rw [map_twV]
      have l3 : listAt (s' ++ [Ob.lst ((sortI ks).map .int)] ++ [Ob.lst (((sortI ks).map tw).map frV)]) (s' ++ [Ob.lst ((sortI ks).map .int)]).length = some (((sortI ks).map tw).map frV) := listAt_push _ _
      simp only [pushO, wp_ok, primV, seqO_loc, l3]
      refine hQ ((sortI ks).map tw) _ ?_ ?_ ?_ ?_
      · refine ⟨?_, ?_⟩
        · rw [List.pairwise_map]
          exact (sortI_lt hnd).imp fun h => tw_lt h
        · intro c hc
          obtain ⟨q, hq, rfl⟩ := List.mem_map.mp hc
          have := hb q ((sortI_perm ks).mem_iff.mp hq)
          rw [← tw0, ← tw12]
          exact ⟨tw_lt (by omega), tw_lt (by omega)⟩
      · intro c hc
        obtain ⟨q, hq, rfl⟩ := List.mem_map.mp hc
        have := hb q ((sortI_perm ks).mem_iff.mp hq)
        exact ⟨tw_in q, tw_sb (by omega) (by omega)⟩
      · simp
        have := (sortI_perm ks).length_eq
        omega
      · exact (hP.app _).app _
end
end Wk
set_option maxHeartbeats 8000000
/-! W16: drawn places and brigades. -/
namespace Wk
open PySem (Str PyData)
open Bk
/-- places: multiples of a twelfth -/
structure Pl12 (n : Nat) (p : Nat → Rat) : Prop where
  pl : Pl n p
  in12 : ∀ i, i < n → In 12 (p i)
def nthP (ms : List Int) (i : Nat) : Rat := tw (ms[i]?.getD 0)
theorem fv_nth {ms : List Int} : (ms.map tw).map frV = fvs ms.length (nthP ms) := by
  unfold fvs nthP
  apply List.ext_getElem
  · simp
  · intro i h1 h2
    simp at h1
    simp [h1]
theorem pl_nth {ms : List Int} (hs : ms.Pairwise (· ≤ ·)) (hb : ∀ q ∈ ms, 0 ≤ q ∧ q ≤ 12) : Pl12 ms.length (nthP ms) where
  in12 := fun i _ => tw_in _
  pl := {
    mono := fun i h => by
      unfold nthP
      rw [List.getElem?_eq_getElem h, List.getElem?_eq_getElem (by omega : i < ms.length)]
      exact tw_le (List.pairwise_iff_getElem.mp hs i (i + 1) (by omega) h (by omega))
    lo := fun i h => by
      unfold nthP
      rw [List.getElem?_eq_getElem h, ← tw0]
      exact tw_le (hb _ (List.getElem_mem h)).1
    hi := fun i h => by
      unfold nthP
      rw [List.getElem?_eq_getElem h, ← tw12]
      exact tw_le (hb _ (List.getElem_mem h)).2 }
def rowsV (R : List (List Rat)) (i j : Nat) : Rat := ((R[i]?.getD [])[j]?).getD 1
theorem spd1 : Spd 1 := ⟨⟨6, by show (1 : Rat) * 6 = 6; grind⟩, by decide, by decide, sb1 (by decide)⟩
theorem rows_spd {R : List (List Rat)} (h : ∀ L ∈ R, ∀ q ∈ L, Spd q) (i j : Nat) : Spd (rowsV R i j) := by
  unfold rowsV
  cases e : R[i]? with
  | none => simp; exact spd1
  | some L =>
    have hL : L ∈ R := List.mem_of_getElem? e
    simp only [Option.getD_some]
    cases e2 : L[j]? with
    | none => simp; exact spd1
    | some q => exact h L hL q (List.mem_of_getElem? e2)
theorem people_rows {R : List (List Rat)} {c : Nat} (h : ∀ L ∈ R, L.length = c + 1) : Val.tup (R.map fun L => Val.tup (L.map frV)) = peopleV R.length c (rowsV R) := by
  unfold peopleV
  congr 1
  apply List.ext_getElem
  · simp
  · intro i h1 h2
    simp at h1
    simp only [List.getElem_map, List.getElem_range, fv]
    congr 1
    have hl := h _ (List.getElem_mem h1)
    unfold fvs
    apply List.ext_getElem
    · simp [hl]
    · intro j h3 h4
      simp at h3
      simp [rowsV, h1, h3]
section
variable {P : Prog} (F : FM P) (M : DP P) {k n : Nat} {s : Sto} {Q : Val → Sto → Prop}
include F M
theorem l_places (hp : Pool s n) {many : Nat} (hm : many ≤ 5) (hQ : ∀ p s', Pl12 many p → Pk n s s' → Q (fv many p) s') : (callN P (k + 2) "_law_places" [.loc n, .int many] s).wp Q := by
  rw [callN_def M.places]
  have hn := hp.lt
  simp [WT.d__law_places, startE, execs, exec, evalE, evalEs, evalIt]
  rw [if_pos (smallI_of (by omega) (by omega))]
  simp only [wp_ok]
  refine wp_lc (fun i ys s' => ∃ L : List Int, ys = L.map .int ∧ L.length = i ∧ (∀ q ∈ L, 0 ≤ q ∧ q ≤ 12) ∧ Pk n s s') ⟨[], rfl, rfl, by simp, hp.refl⟩ (fun _ _ _ _ _ => trivial) (by rw [rangeV_len]; exact smallN (by omega)) (fun i hi ys s' h => ?_) (fun ys s' h => ?_)
  · obtain ⟨L, rfl, hl, hb, hP⟩ := h
    simp [asgT, wipe, evalC, evalE, evalEs]
    refine l_take M hP.pool (by decide) fun d s2 d0 d1 h2 => ?_
    refine ⟨L ++ [d], by simp, by simp [hl], ?_, hP.trans h2⟩
    intro q hq
    rcases List.mem_append.mp hq with hq | hq
    · exact hb q hq
    · rw [List.mem_singleton.mp hq]; omega
  · obtain ⟨L, rfl, hl, hb, hP⟩ := h
    rw [rangeV_len] at hl
    have hsrt : primV .sorted [.loc s'.length] (s' ++ [.lst (L.map .int)]) = .ok (.loc (s'.length + 1)) (s' ++ [.lst (L.map .int)] ++ [.lst ((sortI L).map .int)]) := by
      have hl : listAt (s' ++ [Ob.lst (L.map .int)]) s'.length = some (L.map .int) := listAt_push _ _
      simp [primV, seqL, hl, intsO_map, pushO]
    have hlst : listAt (s' ++ [Ob.lst (L.map .int)] ++ [Ob.lst ((sortI L).map .int)]) (s'.length + 1) = some ((sortI L).map .int) := by
      have := listAt_push (s' ++ [Ob.lst (L.map .int)]) ((sortI L).map .int)
      simpa using this
    have hlen : (sortI L).length = many := by
      have := (sortI_perm L).length_eq
      omega
    simp only [pushO, wp_ok, hsrt, asgT, List.set_cons_succ, List.set_cons_zero, List.getElem?_cons_zero, List.getElem?_cons_succ, wp_bind, Out.bind_ok]
    rw [seqG_loc hlst]
    simp only [wp_opt, Option.elim_some]
    refine wp_lc_pure twV hlst (by simp; exact smallN (by omega)) (fun x hx => ?_) ?_
    · obtain ⟨q, hq, rfl⟩ := List.mem_map.mp hx
      simp [asgT, wipe, evalC, evalE, evalEs, l_makeM F (show (0 : Int) < 12 by decide) (show (12 : Int).natAbs < 2 ^ 8500 from bd_le (m := 10) 12 (by decide) (by decide))]
      rfl
    · rw [map_twV, fv_nth, hlen]
      have l3 : listAt (s' ++ [Ob.lst (L.map .int)] ++ [Ob.lst ((sortI L).map .int)] ++ [Ob.lst (fvs many (nthP (sortI L)))]) (s' ++ [Ob.lst (L.map .int)] ++ [Ob.lst ((sortI L).map .int)]).length = some (fvs many (nthP (sortI L))) := listAt_push _ _
      simp only [pushO, wp_ok, primV, seqO_loc, l3]
      refine hQ (nthP (sortI L)) _ ?_ (((hP.app _).app _).app _)
      rw [← hlen]
      exact pl_nth (sortI_le L) fun q hq => hb q ((sortI_perm L).mem_iff.mp hq)
theorem l_brigade (hp : Pool s n) {mx cuts : Nat} (hx : mx ≤ 5) (hx1 : 1 ≤ mx) (hc : cuts ≤ 5) (hQ : ∀ m C v s', Sys m C v → m ≤ mx → C.length ≤ cuts → (∀ c ∈ C, In 12 c) → Pk n s s' → Q (brV m C v) s') : (callN P (k + 3) "_law_brigade" [.loc n, .int 1, .int mx, .int cuts] s).wp Q := by
  rw [callN_def M.brigade]
  have hn := hp.lt
  simp [WT.d__law_brigade, startE, execs, exec, evalE, evalEs]
  refine l_twelfths F M hp hc fun C s1 hC hC2 hCl h1 => ?_
  simp [asgT]
  refine l_take M h1.pool (by omega) fun d s2 d0 d1 h2 => ?_
  simp [evalIt, evalE]
  rw [if_pos (smallI_of (by omega) (by omega))]
  simp only [wp_ok]
  have h12 := h1.trans h2
  refine wp_lc (fun i ys s' => ∃ R : List (List Rat), ys = R.map (fun L => Val.tup (L.map frV)) ∧ R.length = i ∧ (∀ L ∈ R, L.length = C.length + 1) ∧ (∀ L ∈ R, ∀ q ∈ L, Spd q) ∧ Pk n s s') ⟨[], rfl, rfl, by simp, by simp, h12⟩ (fun _ _ _ _ _ => trivial) (by rw [rangeV_len]; exact smallN (by omega)) (fun i hi ys s' h => ?_) (fun ys s' h => ?_)
  · obtain ⟨R, rfl, hl, hb, hs, hP⟩ := h
    simp [asgT, wipe, evalC, evalE, evalEs, evalIt, cutsV]
    rw [if_pos (smallI_of (by omega) (by omega))]
    simp only [wp_ok]
    refine wp_lc (fun i ys s' => ∃ L : List Rat, ys = L.map frV ∧ L.length = i ∧ (∀ q ∈ L, Spd q) ∧ Pk n s s') ⟨[], rfl, rfl, by simp, hP⟩ (fun _ _ _ _ _ => trivial) (by rw [rangeV_len]; exact smallN (by omega)) (fun j hj ys s3 h => ?_) (fun ys s3 h => ?_)
    · obtain ⟨L, rfl, hl2, hb2, hP2⟩ := h
      simp [asgT, wipe, evalC, evalE, evalEs]
      refine l_speed F M hP2.pool fun q s4 hq h4 => ?_
      refine ⟨L ++ [q], by simp, by simp [hl2], ?_, hP2.trans h4⟩
      intro y hy
      rcases List.mem_append.mp hy with hy | hy
      · exact hb2 y hy
      · rw [List.mem_singleton.mp hy]; exact hq
    · obtain ⟨L, rfl, hl2, hb2, hP2⟩ := h
      rw [rangeV_len] at hl2
      have l3 : listAt (s3 ++ [Ob.lst (L.map frV)]) s3.length = some (L.map frV) := listAt_push _ _
      simp only [pushO, wp_ok, primV, seqO_loc, l3]
      refine ⟨R ++ [L], by simp, by simp [hl], ?_, ?_, hP2.app _⟩
      · intro y hy
        rcases List.mem_append.mp hy with hy | hy
        · exact hb y hy
        · rw [List.mem_singleton.mp hy]; omega
      · intro y hy
        rcases List.mem_append.mp hy with hy | hy
        · exact hs y hy
        · rw [List.mem_singleton.mp hy]; exact hb2
  · obtain ⟨R, rfl, hl, hb, hs, hP⟩ := h
    rw [rangeV_len] at hl
    have l3 : listAt (s' ++ [Ob.lst (R.map fun L => Val.tup (L.map frV))]) s'.length = some (R.map fun L => Val.tup (L.map frV)) := listAt_push _ _
    simp only [pushO, wp_ok, primV, seqO_loc, l3]
    rw [if_pos (smallN (by decide))]
    simp only [wp_ok]
    rw [people_rows hb]
    have sp := rows_spd hs
    exact hQ R.length C (rowsV R) _ ⟨⟨by omega, by omega, by omega, fun c hc => (hC2 c hc).2, fun i j => (sp i j).2.2.2, fun i j => (sp i j).2.1⟩, ⟨fun i j => (sp i j).1, fun i j => (sp i j).2.1, fun i j => (sp i j).2.2.1⟩, hC, fun c hc => (hC2 c hc).1.mulD 2310⟩ (by omega) hCl (fun c hc => (hC2 c hc).1) (hP.app _)
end
end Wk
set_option maxHeartbeats 8000000
/-! W17: brigades and places are taken. -/
namespace Wk
open PySem (Str PyData)
open Bk
structure BP (P : Prog) : Prop where
  is_integer : P.find "is_integer" = some WT.d_is_integer
  is_tuple : P.find "is_tuple" = some WT.d_is_tuple
  is_fraction : P.find "is_fraction" = some WT.d_is_fraction
  is_between : P.find "is_between" = some WT.d_is_between
  is_positive : P.find "is_positive" = some WT.d_is_positive
  are_growing : P.find "are_growing" = some WT.d_are_growing
  are_not_falling : P.find "are_not_falling" = some WT.d_are_not_falling
  are_cuts : P.find "are_cuts" = some WT.d_are_cuts
  are_speeds : P.find "are_speeds" = some WT.d_are_speeds
  is_a_brigade : ∃ mp, P.find "is_a_brigade" = some (WT.d_is_a_brigade mp) ∧ P.consts.lookup mp = some (.int 5)
  need_brigade : P.find "need_brigade" = some WT.d_need_brigade
  are_places_of : P.find "are_places_of" = some WT.d_are_places_of
  need_places : P.find "need_places" = some WT.d_need_places
  cuts : P.consts.lookup ("MOST_CUTS" : Str) = some (.int 5)
/-- of brigades alone -/
structure BB (P : Prog) : Prop where
  is_integer : P.find "is_integer" = some WT.d_is_integer
  is_tuple : P.find "is_tuple" = some WT.d_is_tuple
  is_fraction : P.find "is_fraction" = some WT.d_is_fraction
  is_positive : P.find "is_positive" = some WT.d_is_positive
  are_growing : P.find "are_growing" = some WT.d_are_growing
  are_cuts : P.find "are_cuts" = some WT.d_are_cuts
  are_speeds : P.find "are_speeds" = some WT.d_are_speeds
  is_a_brigade : ∃ mp, P.find "is_a_brigade" = some (WT.d_is_a_brigade mp) ∧ P.consts.lookup mp = some (.int 5)
  need_brigade : P.find "need_brigade" = some WT.d_need_brigade
  cuts : P.consts.lookup ("MOST_CUTS" : Str) = some (.int 5)
theorem BP.bb {P : Prog} (M : BP P) : BB P := ⟨M.is_integer, M.is_tuple, M.is_fraction, M.is_positive, M.are_growing, M.are_cuts, M.are_speeds, M.is_a_brigade, M.need_brigade, M.cuts⟩
theorem all_true {s : Sto} {m : Nat} : primV .all [.loc s.length] (s ++ [Ob.lst ((List.range m).map fun _ => .bl true)]) = .ok (.bl true) (s ++ [Ob.lst ((List.range m).map fun _ => .bl true)]) := by
  have hl := listAt_push s ((List.range m).map fun _ => Val.bl true)
  have hb : boolsO ((List.range m).map fun _ => Val.bl true) = some ((List.range m).map fun _ => true) := by
    have := boolsO_map ((List.range m).map fun _ => true)
    rw [List.map_map] at this
    exact this
  have h := prim_all (s := s ++ [Ob.lst ((List.range m).map fun _ => .bl true)]) (v := .loc s.length) (bs := (List.range m).map fun _ => true) (by rw [seqL_loc, hl]; exact hb)
  rw [h]
  have : ((List.range m).map fun _ => true).all id = true := by simp
  rw [this]
section
variable {P : Prog} (F : FB P) (M : BB P) {k n : Nat} {s : Sto} {q : Rat} {Q : Val → Sto → Prop}
include M
theorem c_is_tuple {xs : List Val} {lo hi : Int} (h1 : lo ≤ xs.length) (h2 : (xs.length : Int) ≤ hi) : callN P (k + 1) "is_tuple" [.tup xs, .int lo, .int hi] s = .ok (.bl true) s := by
  rw [callN_def M.is_tuple]
  simp [WT.d_is_tuple, startE, execs, exec, evalE, evalEs, prim_isinst, h1, h2, finish]
theorem c_is_integer {i : Int} : callN P (k + 1) "is_integer" [.int i] s = .ok (.bl true) s := by
  rw [callN_def M.is_integer]
  simp [WT.d_is_integer, startE, execs, exec, evalE, evalEs, prim_isinst, finish]
theorem c_is_fraction : callN P (k + 2) "is_fraction" [frV q] s = .ok (.bl true) s := by
  rw [callN_def M.is_fraction]
  have h1 : (1 : Int) ≤ q.den := by have := q.den_pos; omega
  have h2 : Nat.gcd q.num.natAbs q.den = 1 := q.reduced
  have t : callN P (k + 1) "is_tuple" [frV q, .int 2, .int 2] s = .ok (.bl true) s := c_is_tuple M (by simp) (by simp)
  simp [WT.d_is_fraction, startE, execs, exec, evalE, evalEs, evalT, t]
  simp [frV, c_is_integer M, execs, exec, evalE, evalEs, h1, h2, cmpV, cmpO_eq, finish]
theorem c_is_positive (h0 : 0 < q) : callN P (k + 3) "is_positive" [frV q] s = .ok (.bl true) s := by
  have hn := num_pos' h0
  rw [callN_def M.is_positive]
  simp [WT.d_is_positive, startE, execs, exec, evalE, evalEs, c_is_fraction M]
  simp [frV, hn, finish]
include F
theorem w_are_growing {C : List Rat} (hS : ∀ c ∈ C, Sm c) (h5 : C.length ≤ 5) (hC : C.Pairwise (· < ·)) (hQ : ∀ t, Q (.bl true) (s ++ t)) : (callN P (k + 2) "are_growing" [cutsV C] s).wp Q := by
  rw [callN_def M.are_growing]
  simp [WT.d_are_growing, startE, execs, exec, evalE, evalEs, evalIt, evalEo, cutsV, cutV]
  have hcut : cut (C.map frV) (some 1) none = C.tail.map frV := by
    cases C with
    | nil => simp [cut]
    | cons c C => rw [List.map_cons, cut_tail]; rfl
  rw [hcut]
  have hz : (zipV (C.map frV) (C.tail.map frV)).length = C.length - 1 := by simp [zipV]
  refine wp_lc_ix (fun _ => .bl true) (fun _ => trivial) (by rw [hz]; exact smallN (by omega)) (fun i hi t => ?_) fun t => ?_
  · rw [hz] at hi
    have e : (zipV (C.map frV) (C.tail.map frV))[i]'(by rw [hz]; exact hi) = .tup [frV (C[i]'(by omega)), frV (C[i + 1]'(by omega))] := by simp [zipV]
    have hlt := List.pairwise_iff_getElem.mp hC i (i + 1) (by omega) (by omega) (by omega)
    rw [e]
    simp [asgT, asgTs, wipe, evalC, evalE, evalEs, w_is_belowB F (hS _ (List.getElem_mem _)) (hS _ (List.getElem_mem _)), hlt]
  · simp only [pushO, wp_ok, all_true]
    rw [app3]
    exact hQ _
theorem w_are_cuts {C : List Rat} (hS : ∀ c ∈ C, Sb 10 c) (h5 : C.length ≤ 5) (hC : Cu C) (hQ : ∀ t, Q (.bl true) (s ++ t)) : (callN P (k + 3) "are_cuts" [cutsV C] s).wp Q := by
  have s0 : Sm 0 := (sb0 (m := 10) (by decide)).sm (by decide)
  have s1 : Sm 1 := (sb1 (m := 10) (by decide)).sm (by decide)
  have sm : ∀ c ∈ C, Sm c := fun c hc => (hS c hc).sm (by decide)
  rw [callN_def M.are_cuts]
  have t : callN P (k + 2) "is_tuple" [cutsV C, .int 0, .int 5] s = .ok (.bl true) s := c_is_tuple M (by simp) (by simp; omega)
  simp [WT.d_are_cuts, startE, execs, exec, evalE, evalEs, evalT, M.cuts, t, evalIt]
  rw [show ∀ s, seqG s (cutsV C) = some (C.map frV, .none) from fun _ => rfl]
  simp only [Option.elim_some]
  refine wp_lc_ix (fun _ => .bl true) (fun _ => trivial) (by simp; exact smallN (by omega)) (fun i hi t => ?_) fun t => ?_
  · simp [asgT, wipe, evalC, evalE, evalEs, c_is_fraction M]
  · simp only [pushO, wp_ok, all_true]
    simp [execs, exec, evalE, evalEs, evalIt]
    refine w_are_growing F M sm h5 hC.srt fun u => ?_
    simp
    rw [show ∀ s, seqG s (cutsV C) = some (C.map frV, .none) from fun _ => rfl]
    simp only [Option.elim_some]
    refine wp_lc_ix (fun _ => .bl true) (fun _ => trivial) (by simp; exact smallN (by omega)) (fun i hi t => ?_) fun t => ?_
    · have hi2 : i < C.length := by simpa using hi
      have hc := hC.in01 _ (List.getElem_mem hi2)
      have hm := sm _ (List.getElem_mem hi2)
      simp [asgT, wipe, evalC, evalE, evalEs, F.zero, F.one, ← fr0, ← fr1, w_is_belowB F s0 hm, w_is_belowB F hm s1, hc]
    · simp only [pushO, wp_ok, all_true]
      simp only [app3]
      exact hQ _
theorem w_are_speeds {c : Nat} {r : Nat → Rat} (h5 : c ≤ 10) (hr : ∀ i, 0 < r i) (hQ : ∀ t, Q (.bl true) (s ++ t)) : (callN P (k + 4) "are_speeds" [fv c r, .int c] s).wp Q := by
  rw [callN_def M.are_speeds]
  have t : callN P (k + 3) "is_tuple" [fv c r, .int c, .int c] s = .ok (.bl true) s := c_is_tuple M (by simp [fvs_len]) (by simp [fvs_len])
  simp [WT.d_are_speeds, startE, execs, exec, evalE, evalEs, t, evalIt]
  rw [show ∀ s, seqG s (fv c r) = some (fvs c r, .none) from fun _ => rfl]
  simp only [Option.elim_some]
  refine wp_lc_ix (fun _ => .bl true) (fun _ => trivial) (by rw [fvs_len]; exact smallN (by omega)) (fun i hi t => ?_) fun t => ?_
  · have e : (fvs c r)[i] = frV (r i) := by simp [fvs]
    rw [e]
    simp [asgT, wipe, evalC, evalE, evalEs, c_is_positive M (hr i)]
  · simp only [pushO, wp_ok, all_true]
    simp only [app3]
    exact hQ _
theorem w_is_a_brigadeB {C : List Rat} {v : Nat → Nat → Rat} (S : Sys n C v) (hQ : ∀ t, Q (.bl true) (s ++ t)) : (callN P (k + 5) "is_a_brigade" [brV n C v] s).wp Q := by
  have n1 := S.br.n1
  have n5 := S.br.n5
  have c5 := S.br.c5
  obtain ⟨mp, hmp, hm5⟩ := M.is_a_brigade
  rw [callN_def hmp]
  have t : callN P (k + 4) "is_tuple" [brV n C v, .int 2, .int 2] s = .ok (.bl true) s := c_is_tuple M (by simp) (by simp)
  have t2 : ∀ s, callN P (k + 4) "is_tuple" [peopleV n C.length v, .int 1, .int 5] s = .ok (.bl true) s := fun s => c_is_tuple M (by simp; omega) (by simp; omega)
  simp [WT.d_is_a_brigade, startE, execs, exec, evalE, evalEs, evalT, hm5, t, evalIt]
  simp only [brV, item_tup', atI_0, atI_1, List.getElem?_cons_zero, List.getElem?_cons_succ, Option.elim_some, wp_ok]
  refine w_are_cuts F M S.br.cS c5 S.cu fun u => ?_
  simp [t2, execs, exec, evalE, evalEs, evalIt]
  rw [show ∀ s, seqG s (peopleV n C.length v) = some ((List.range n).map fun i => fv (C.length + 1) (v i), .none) from fun _ => rfl]
  simp only [Option.elim_some]
  refine wp_lc_ix (fun _ => .bl true) (fun _ => trivial) (by simp; exact smallN (by omega)) (fun i hi t => ?_) fun t => ?_
  · have hlen : ∀ s, primV .len [cutsV C] s = .ok (.int C.length) s := fun s => by simp [cutsV]
    simp [asgT, wipe, evalC, evalE, evalEs, hlen]
    rw [show ((C.length : Int) + 1) = ((C.length + 1 : Nat) : Int) by omega]
    refine w_are_speeds F M (by omega) (S.br.vP i) fun u => ?_
    simp
  · simp only [pushO, wp_ok, all_true]
    simp only [app3]
    exact hQ _
theorem w_need_brigadeB {C : List Rat} {v : Nat → Nat → Rat} (S : Sys n C v) (hQ : ∀ t, Q .non (s ++ t)) : (callN P (k + 6) "need_brigade" [brV n C v] s).wp Q := by
  rw [callN_def M.need_brigade]
  simp [WT.d_need_brigade, startE, execs, exec, evalT, evalE, evalEs]
  refine w_is_a_brigadeB F M S fun t => ?_
  simp [execs]
  exact hQ t
end
section
variable {P : Prog} (F : FP P) (M : BP P) {k n : Nat} {s : Sto} {q : Rat} {Q : Val → Sto → Prop}
include F M
theorem c_is_between (hq : Sm q) (h0 : 0 ≤ q) (h1 : q ≤ 1) : callN P (k + 3) "is_between" [frV q, frV 0, frV 1] s = .ok (.bl true) s := by
  have s0 : Sm 0 := (sb0 (m := 10) (by decide)).sm (by decide)
  have s1 : Sm 1 := (sb1 (m := 10) (by decide)).sm (by decide)
  rw [callN_def M.is_between]
  simp [WT.d_is_between, startE, execs, exec, evalE, evalEs, c_is_fraction M.bb, w_is_at_most F s0 hq, w_is_at_most F hq s1, h0, h1, finish]
theorem w_are_not_falling {p : Nat → Rat} (n5 : n ≤ 5) (hS : ∀ i, i < n → Sm (p i)) (mono : ∀ i, i + 1 < n → p i ≤ p (i + 1)) (hQ : ∀ t, Q (.bl true) (s ++ t)) : (callN P (k + 2) "are_not_falling" [fv n p] s).wp Q := by
  rw [callN_def M.are_not_falling]
  simp [WT.d_are_not_falling, startE, execs, exec, evalE, evalEs, evalIt, evalEo, fv, cutV]
  have hcut : cut (fvs n p) (some 1) none = (fvs n p).tail := by
    cases e : fvs n p with
    | nil => simp [cut]
    | cons c C => rw [cut_tail]; rfl
  rw [hcut]
  have hz : (zipV (fvs n p) (fvs n p).tail).length = n - 1 := by simp [zipV, fvs_len]
  refine wp_lc_ix (fun _ => .bl true) (fun _ => trivial) (by rw [hz]; exact smallN (by omega)) (fun i hi t => ?_) fun t => ?_
  · rw [hz] at hi
    have e : (zipV (fvs n p) (fvs n p).tail)[i]'(by rw [hz]; exact hi) = .tup [frV (p i), frV (p (i + 1))] := by simp [zipV, fvs]
    rw [e]
    simp [asgT, asgTs, wipe, evalC, evalE, evalEs, w_is_at_most F (hS i (by omega)) (hS (i + 1) (by omega)), mono i (by omega)]
  · simp only [pushO, wp_ok, all_true]
    rw [app3]
    exact hQ _
theorem w_are_places_of {p : Nat → Rat} (n5 : n ≤ 5) (h : Pl n p) (hS : ∀ i, i < n → Sm (p i)) (hQ : ∀ t, Q (.bl true) (s ++ t)) : (callN P (k + 4) "are_places_of" [fv n p, .int n] s).wp Q := by
  rw [callN_def M.are_places_of]
  have t : callN P (k + 3) "is_tuple" [fv n p, .int n, .int n] s = .ok (.bl true) s := c_is_tuple M.bb (by simp [fvs_len]) (by simp [fvs_len])
  simp [WT.d_are_places_of, startE, execs, exec, evalE, evalEs, evalT, t, evalIt]
  rw [show ∀ s, seqG s (fv n p) = some (fvs n p, .none) from fun _ => rfl]
  simp only [Option.elim_some]
  refine wp_lc_ix (fun _ => .bl true) (fun _ => trivial) (by rw [fvs_len]; exact smallN (by omega)) (fun i hi t => ?_) fun t => ?_
  · have e : (fvs n p)[i] = frV (p i) := by simp [fvs]
    rw [fvs_len] at hi
    rw [e]
    simp [asgT, wipe, evalC, evalE, evalEs, F.zero, F.one, ← fr0, ← fr1, c_is_between F M (hS i hi) (h.lo i hi) (h.hi i hi)]
  · simp only [pushO, wp_ok, all_true]
    simp [execs, exec, evalE, evalEs]
    refine w_are_not_falling F M n5 hS h.mono fun u => ?_
    simp
    have := hQ (t ++ (Ob.lst ((List.range (fvs n p).length).map fun _ => .bl true) :: u))
    simpa using this
theorem w_need_brigade {C : List Rat} {v : Nat → Nat → Rat} (S : Sys n C v) (hQ : ∀ t, Q .non (s ++ t)) : (callN P (k + 6) "need_brigade" [brV n C v] s).wp Q := w_need_brigadeB F.fb M.bb S hQ
theorem w_need_places {C : List Rat} {v : Nat → Nat → Rat} {p : Nat → Rat} (S : Sys n C v) (h : Pl n p) (hS : ∀ i, i < n → Sm (p i)) (hQ : ∀ t, Q .non (s ++ t)) : (callN P (k + 7) "need_places" [brV n C v, fv n p] s).wp Q := by
  rw [callN_def M.need_places]
  simp [WT.d_need_places, startE, execs, exec, evalT, evalE, evalEs]
  refine w_need_brigade F M S fun t => ?_
  have hlen : ∀ s, primV .len [peopleV n C.length v] s = .ok (.int n) s := fun s => by simp [peopleV]
  simp [brV, hlen]
  refine w_are_places_of F M S.br.n5 h hS fun u => ?_
  simp [execs]
  have := hQ (t ++ u)
  simpa using this
end
end Wk
set_option maxHeartbeats 8000000
/-! W18: places fitted; a step; what is shown. -/
namespace Wk
open PySem (Str PyData)
open Bk
def fitP (n m : Nat) (p : Nat → Rat) (i : Nat) : Rat := if m < n then p (i + (n - m)) else if i < m - n then 0 else p (i - (m - n))
theorem fvs_congr {n : Nat} {p q : Nat → Rat} (h : ∀ i, i < n → p i = q i) : fvs n p = fvs n q := by
  unfold fvs
  apply List.map_congr_left
  intro i hi
  rw [h i (List.mem_range.mp hi)]
theorem fvs_drop {n d : Nat} {p : Nat → Rat} : (fvs n p).drop d = fvs (n - d) fun i => p (i + d) := by
  unfold fvs
  apply List.ext_getElem
  · simp
  · intro i h1 h2
    simp [Nat.add_comm]
theorem fvs_pad {n d : Nat} {p : Nat → Rat} : List.replicate d (frV 0) ++ fvs n p = fvs (d + n) fun i => if i < d then 0 else p (i - d) := by
  unfold fvs
  apply List.ext_getElem
  · simp
  · intro i h1 h2
    simp at h2
    by_cases h : i < d
    · rw [List.getElem_append_left (by simpa using h)]
      simp [h]
    · rw [List.getElem_append_right (by simpa using h)]
      simp [h]
theorem fit_drop {n m : Nat} {p : Nat → Rat} (h : m < n) : (fvs n p).drop (n - m) = fvs m (fitP n m p) := by
  rw [fvs_drop, show n - (n - m) = m by omega]
  exact fvs_congr fun i _ => by unfold fitP; rw [if_pos h]
theorem fit_pad {n m : Nat} {p : Nat → Rat} (h : ¬ m < n) : List.replicate (m - n) (frV 0) ++ fvs n p = fvs m (fitP n m p) := by
  rw [fvs_pad, show m - n + n = m by omega]
  exact fvs_congr fun i _ => by unfold fitP; rw [if_neg h]
theorem cut_from {α : Type} (xs : List α) (k : Nat) (h : k ≤ xs.length) : cut xs (some (k : Int)) none = xs.drop k := by
  unfold cut
  have e : HT.sIx xs.length 0 (some (k : Int)) = k := by
    simp only [HT.sIx]
    rw [if_neg (by omega)]
    simp; omega
  have e2 : HT.sIx xs.length xs.length none = xs.length := rfl
  rw [e, e2, List.take_of_length_le]
  simp
theorem flat_rep {x : Val} (k : Nat) : (List.replicate k [x]).flatten = List.replicate k x := by
  induction k with
  | zero => rfl
  | succ k ih => rw [List.replicate_succ, List.flatten_cons, ih, List.replicate_succ]; rfl
theorem bin_rep {x : Val} {k : Int} {s : Sto} (h1 : -1000 ≤ k) (h2 : k ≤ 1000) : binV .mul (.tup [x]) (.int k) s = .ok (.tup (List.replicate k.toNat x)) s := by
  simp [binV, h1, h2, flat_rep]
section
variable {P : Prog} {k n m : Nat} {s : Sto} {p : Nat → Rat}
theorem c_fit_for (hf : P.find "fit_for" = some WT.d_fit_for) (F : FP P) (hn : n ≤ 5) (hm : m ≤ 5) : callN P (k + 1) "fit_for" [fv n p, .int m] s = .ok (fv m (fitP n m p)) s := by
  have hl : ∀ s, primV .len [fv n p] s = .ok (.int n) s := fun s => by simp [fv, fvs_len]
  rw [callN_def hf]
  by_cases h : m < n
  · have e : (n : Int) - m = ((n - m : Nat) : Int) := by omega
    simp [WT.d_fit_for, startE, execs, exec, evalT, evalE, evalEs, evalEo, hl, h, finish, cutV]
    simp only [fv, e, cut_from (fvs n p) (n - m) (by rw [fvs_len]; omega), fit_drop h]
    rfl
  · have e : ((m : Int) - n).toNat = m - n := by omega
    simp [WT.d_fit_for, startE, execs, exec, evalT, evalE, evalEs, hl, h, finish, F.zero]
    rw [if_pos (smallN (by decide))]
    simp only [Out.bind_ok]
    rw [bin_rep (by omega) (by omega), e]
    simp only [Out.bind_ok, fv]
    rw [bin_cat (by simp [fvs_len]; exact smallN (by omega)), ← fr0, fit_pad h]
    rfl
theorem c_law_fit (hf : P.find "_law_fit" = some WT.d__law_fit) (hn : n ≤ 5) (hm : m ≤ 5) : callN P (k + 1) "_law_fit" [fv n p, .int m] s = .ok (fv m (fitP n m p)) s := by
  have hl : ∀ s, primV .len [fv n p] s = .ok (.int n) s := fun s => by simp [fv, fvs_len]
  have e1 : (if (m : Int) - n > 0 then (m : Int) - n else 0) = ((m - n : Nat) : Int) := by split <;> omega
  have e2 : (if (n : Int) - m > 0 then (n : Int) - m else 0) = ((n - m : Nat) : Int) := by split <;> omega
  rw [callN_def hf]
  simp only [WT.d__law_fit, startE, execs, exec, evalE, evalEs, evalEo, List.map_cons, List.map_nil, List.cons_append, List.nil_append, List.getElem?_cons_zero, List.getElem?_cons_succ, Out.bind_ok, hl, bin_sub, prim_max2, List.length_cons, List.length_nil, if_true]
  rw [if_pos (smallN (by decide))]
  simp only [Out.bind_ok]
  rw [if_pos (smallN (by decide))]
  simp only [Out.bind_ok, e1, e2]
  rw [bin_rep (by omega) (by omega), Int.toNat_natCast]
  simp only [Out.bind_ok, cutV, fv, cut_from (fvs n p) (n - m) (by rw [fvs_len]; omega)]
  rw [bin_cat (by simp [fvs_len]; exact smallN (by omega)), ← fr0]
  simp only [Out.bind_ok, finish]
  by_cases h : m < n
  · rw [show m - n = 0 by omega, List.replicate_zero, List.nil_append, fit_drop h]
  · rw [show n - m = 0 by omega, List.drop_zero, fit_pad h]
end
/-! ### what is shown -/
structure Rp (d : PyData) (b e : Nat) : Prop where
  sh : d.showable = true
  lf : d.leavesShort 600 = true
  bk : d.bulk ≤ b
  dp : d.depth ≤ e
  ly : d.canLay0 = true
  fr : ∀ k, 200 ≤ k → k ∉ d.shown.cps.toList
theorem rp_int {i : Int} (h : i.natAbs < 2 ^ 1820) : Rp (.int i) 0 0 where
  sh := by
    simp only [PyData.showable, decide_eq_true_eq]
    have := log_lt h
    omega
  lf := by
    simp only [PyData.leavesShort, decide_eq_true_eq]
    have h10 : i.natAbs < 10 ^ 550 := Nat.lt_of_lt_of_le h (by decide +kernel)
    have e := PySem.int_text_length_le10 (k := 550) (by decide) h10
    show (Str.ofString (toString i)).length ≤ 600
    rw [PySem.ofString_length]
    omega
  bk := Nat.le_refl _
  dp := Nat.le_refl _
  ly := rfl
  fr := fun k hk => PyProof.Rows.shown_int_free' (by omega) i
theorem rp_all {b e : Nat} : ∀ {xs : List PyData}, (∀ x ∈ xs, Rp x b e) → PyData.showableAll xs = true ∧ PyData.leavesShortAll 600 xs = true ∧ PyData.bulkAll xs ≤ xs.length * (b + 1) ∧ PyData.depthAll xs ≤ e ∧ PyData.canLayAll0 xs = true
  | [], _ => ⟨rfl, rfl, by simp [PyData.bulkAll], by simp [PyData.depthAll], rfl⟩
  | x :: xs, h => by
    obtain ⟨h1, h2, h3, h4, h5⟩ := rp_all fun y hy => h y (List.mem_cons_of_mem _ hy)
    have hx := h x List.mem_cons_self
    refine ⟨by simp [PyData.showableAll, hx.sh, h1], by simp [PyData.leavesShortAll, hx.lf, h2], ?_, ?_, by simp [PyData.canLayAll0, hx.ly, h5]⟩
    · have := hx.bk
      simp only [PyData.bulkAll, List.length_cons, Nat.succ_mul]
      omega
    · have := hx.dp
      simp only [PyData.depthAll]
      omega
open PyProof.Rows in
theorem rp_list {b e : Nat} {xs : List PyData} (h : ∀ x ∈ xs, Rp x b e) : Rp (.list xs) (xs.length * (b + 1)) (e + 1) where
  sh := by simp only [PyData.showable]; exact (rp_all h).1
  lf := by simp only [PyData.leavesShort]; exact (rp_all h).2.1
  bk := by simp only [PyData.bulk]; exact (rp_all h).2.2.1
  dp := by simp only [PyData.depth]; have := (rp_all h).2.2.2.1; omega
  ly := by simp only [PyData.canLay0]; exact (rp_all h).2.2.2.2
  fr := fun k hk => by
    have e1 : (("[" : String) : Str).cps.toList = [91] := by decide
    have e2 : (("]" : String) : Str).cps.toList = [93] := by decide
    have e3 : ((", " : String) : Str).cps.toList = [44, 32] := by decide
    rw [PyData.shown_list, mem_cps_append, mem_cps_append, e1, e2, mem_join, e3]
    rintro ((hm | (⟨t, ht, hc⟩ | ⟨hl, hm⟩)) | hm)
    · simp at hm; omega
    · exact shownAll_free (fun x hx => (h x hx).fr k hk) t ht hc
    · simp at hm; omega
    · simp at hm; omega
open PyProof.Rows in
theorem rp_tup {b e : Nat} {xs : List PyData} (h : ∀ x ∈ xs, Rp x b e) : Rp (.tuple xs) (xs.length * (b + 1)) (e + 1) where
  sh := by simp only [PyData.showable]; exact (rp_all h).1
  lf := by simp only [PyData.leavesShort]; exact (rp_all h).2.1
  bk := by simp only [PyData.bulk]; exact (rp_all h).2.2.1
  dp := by simp only [PyData.depth]; have := (rp_all h).2.2.2.1; omega
  ly := by simp only [PyData.canLay0]; exact (rp_all h).2.2.2.2
  fr := fun k hk => by
    have e1 : (("(" : String) : Str).cps.toList = [40] := by decide
    have e2 : ((",)" : String) : Str).cps.toList = [44, 41] := by decide
    have e4 : ((")" : String) : Str).cps.toList = [41] := by decide
    have e3 : ((", " : String) : Str).cps.toList = [44, 32] := by decide
    rw [PyData.shown_tuple, mem_cps_append, mem_cps_append, e1, mem_join, e3]
    rintro ((hm | (⟨t, ht, hc⟩ | ⟨hl, hm⟩)) | hm)
    · simp at hm; omega
    · exact shownAll_free (fun x hx => (h x hx).fr k hk) t ht hc
    · simp at hm; omega
    · split at hm
      · rw [e2] at hm; simp at hm; omega
      · rw [e4] at hm; simp at hm; omega
theorem Rp.up {d : PyData} {b e b' e' : Nat} (h : Rp d b e) (hb : b ≤ b') (he : e ≤ e') : Rp d b' e' := ⟨h.sh, h.lf, Nat.le_trans h.bk hb, Nat.le_trans h.dp he, h.ly, h.fr⟩
theorem rp_fr {q : Rat} (h : Sb 1820 q) : Rp (frD q) 2 1 := rp_tup (xs := [.int q.num, .int q.den]) (b := 0) (e := 0) fun x hx => by
  simp only [List.mem_cons, List.not_mem_nil, or_false] at hx
  rcases hx with rfl | rfl
  · exact rp_int h.1
  · exact rp_int (by simpa using h.2)
theorem repr_rp {s : Sto} {v : Val} {d : PyData} {b e : Nat} (hd : dataOf s v = some d) (h : Rp d b e) (hb : b ≤ 20000) (he : e ≤ 60) : primV .repr [v] s = .ok (.str d.shown) s := by
  refine prim_repr hd h.sh ?_ (by have := h.dp; omega)
  have h1 := PyData.shown_le_bulk 600 (by decide) d h.lf
  have h2 := h.bk
  have h3 : 602 * d.bulk ≤ 602 * 20000 := Nat.mul_le_mul_left _ (by omega)
  rw [PySem.sizeLine_eq]
  omega
theorem strOk_of' {x : Str} (h : ∀ k, 200 ≤ k → k ∉ x.cps.toList) : PyData.strOk x = true := by
  simp only [PyData.strOk, Array.all_eq_true_iff_forall_mem, decide_eq_true_eq]
  intro k hk
  by_cases h1 : k < 0x110000
  · exact h1
  · exact absurd (Array.mem_toList_iff.2 hk) (h k (by omega))
theorem ne_str {s : Sto} {d : PyData} {b e : Nat} (h : Rp d b e) : cmpO s .ne (.str d.shown) (.str d.shown) = some false := by
  have hok := strOk_of' h.fr
  have hs : PySem.SeqAt.shaped (.str d.shown) = true := by simp [PySem.SeqAt.shaped, PyData.canLay0, PyData.depth, hok]
  simp [cmpO, eqO, Bk.dataOf, dataW, hs, PyData.eqv]
end Wk
set_option maxHeartbeats 8000000
/-! R1: the readings of the program, told for all data; lists built anew. -/
namespace Rf
open PySem (Str PyData)
open Bk Wk
/-! ### data -/
def tyD : PyData → String
  | .none => "NoneType"
  | .bool _ => "bool"
  | .int _ => "int"
  | .str _ => "str"
  | .list _ => "list"
  | .tuple _ => "tuple"
  | .dict _ => "dict"
/-- a value's data, lists in lists to a depth -/
def Dt (s : Sto) (m : Nat) (v : Val) (d : PyData) : Prop := dataW (dataL s m) v = some d
def Dts (s : Sto) (m : Nat) (vs : List Val) (ds : List PyData) : Prop := dataWs (dataL s m) vs = some ds
theorem dts_cons {s : Sto} {m : Nat} {v : Val} {vs : List Val} {ds : List PyData} (h : Dts s m (v :: vs) ds) : ∃ d r, ds = d :: r ∧ Dt s m v d ∧ Dts s m vs r := by
  unfold Dts at h
  simp only [dataWs] at h
  split at h
  · rename_i d r h1 h2
    cases h
    exact ⟨d, r, rfl, h1, h2⟩
  · cases h
theorem dts_nil {s : Sto} {m : Nat} {ds : List PyData} (h : Dts s m [] ds) : ds = [] := by
  unfold Dts at h
  simp only [dataWs] at h
  cases h; rfl
theorem dts_mk {s : Sto} {m : Nat} {v : Val} {vs : List Val} {d : PyData} {r : List PyData} (h1 : Dt s m v d) (h2 : Dts s m vs r) : Dts s m (v :: vs) (d :: r) := by
  unfold Dt at h1
  unfold Dts at h2 ⊢
  simp only [dataWs, h1, h2]
theorem dts_len {s : Sto} {m : Nat} : ∀ {vs : List Val} {ds : List PyData}, Dts s m vs ds → vs.length = ds.length
  | [], ds, h => by rw [dts_nil h]; rfl
  | v :: vs, ds, h => by
    obtain ⟨d, r, rfl, _, h2⟩ := dts_cons h
    simp [dts_len h2]
theorem dts_at {s : Sto} {m : Nat} : ∀ {vs : List Val} {ds : List PyData} (i : Nat) (h : i < vs.length) (h' : i < ds.length), Dts s m vs ds → Dt s m vs[i] ds[i]
  | v :: vs, ds, 0, h, h', e => by
    obtain ⟨d, r, rfl, h1, h2⟩ := dts_cons e
    exact h1
  | v :: vs, ds, i + 1, h, h', e => by
    obtain ⟨d, r, rfl, h1, h2⟩ := dts_cons e
    exact dts_at i (by simpa using h) (by simpa using h') h2
theorem dts_app {s : Sto} {m : Nat} : ∀ {vs us : List Val} {ds es : List PyData}, Dts s m vs ds → Dts s m us es → Dts s m (vs ++ us) (ds ++ es)
  | [], us, ds, es, h, h' => by rw [dts_nil h]; exact h'
  | v :: vs, us, ds, es, h, h' => by
    obtain ⟨d, r, rfl, h1, h2⟩ := dts_cons h
    exact dts_mk h1 (dts_app h2 h')
theorem dt_tup {s : Sto} {m : Nat} {v : Val} {ds : List PyData} (h : Dt s m v (.tuple ds)) : ∃ xs, v = .tup xs ∧ Dts s m xs ds := by
  unfold Dt at h
  cases v with
  | tup xs =>
    simp only [dataW, Option.map_eq_some_iff] at h
    obtain ⟨e, h1, h2⟩ := h
    cases h2
    exact ⟨xs, rfl, h1⟩
  | loc n =>
    simp only [dataW] at h
    cases m with
    | zero => simp [dataL] at h
    | succ m =>
      simp only [dataL] at h
      split at h
      · simp at h
      · cases h
  | rol xs => simp [dataW] at h
  | _ => simp [dataW] at h
theorem dt_mktup {s : Sto} {m : Nat} {xs : List Val} {ds : List PyData} (h : Dts s m xs ds) : Dt s m (.tup xs) (.tuple ds) := by
  unfold Dts at h
  simp [Dt, dataW, h]
theorem dt_list {s : Sto} {m : Nat} {v : Val} {ds : List PyData} (h : Dt s m v (.list ds)) : (∃ n xs k, v = .loc n ∧ listAt s n = some xs ∧ m = k + 1 ∧ Dts s k xs ds) ∨ ∃ xs, v = .rol xs ∧ Dts s m xs ds := by
  unfold Dt at h
  cases v with
  | tup xs => simp [dataW] at h
  | loc n =>
    simp only [dataW] at h
    cases m with
    | zero => simp [dataL] at h
    | succ m =>
      simp only [dataL] at h
      split at h
      · rename_i xs hx
        simp only [Option.map_eq_some_iff] at h
        obtain ⟨e, h1, h2⟩ := h
        cases h2
        exact .inl ⟨n, xs, m, rfl, hx, rfl, h1⟩
      · cases h
  | rol xs =>
    simp only [dataW, Option.map_eq_some_iff] at h
    obtain ⟨e, h1, h2⟩ := h
    cases h2
    exact .inr ⟨xs, rfl, h1⟩
  | _ => simp [dataW] at h
theorem dt_mkloc {s : Sto} {m n : Nat} {xs : List Val} {ds : List PyData} (h : listAt s n = some xs) (hd : Dts s m xs ds) : Dt s (m + 1) (.loc n) (.list ds) := by
  unfold Dts at hd
  simp [Dt, dataW, dataL, h, hd]
mutual
theorem dt_up {f g : Nat → Option PyData} (hf : ∀ n d, f n = some d → g n = some d) : ∀ {v : Val} {d : PyData}, dataW f v = some d → dataW g v = some d
  | .non, _, h => h
  | .bl _, _, h => h
  | .int _, _, h => h
  | .str _, _, h => h
  | .tup xs, _, h => by
    simp only [dataW, Option.map_eq_some_iff] at h ⊢
    obtain ⟨e, h1, h2⟩ := h
    exact ⟨e, dts_up hf h1, h2⟩
  | .loc n, _, h => hf n _ h
  | .rol xs, _, h => by
    simp only [dataW, Option.map_eq_some_iff] at h ⊢
    obtain ⟨e, h1, h2⟩ := h
    exact ⟨e, dts_up hf h1, h2⟩
  | .exc _ _, _, h => by simp [dataW] at h
theorem dts_up {f g : Nat → Option PyData} (hf : ∀ n d, f n = some d → g n = some d) : ∀ {vs : List Val} {ds : List PyData}, dataWs f vs = some ds → dataWs g vs = some ds
  | [], _, h => h
  | v :: vs, _, h => by
    simp only [dataWs] at h ⊢
    split at h
    · rename_i d r h1 h2
      rw [dt_up hf h1, dts_up hf h2]
      exact h
    · cases h
end
theorem dataL_up {s s' : Sto} (hs : Sub s s') : ∀ {m m' : Nat}, m ≤ m' → ∀ n d, dataL s m n = some d → dataL s' m' n = some d
  | 0, _, _, n, d, h => by simp [dataL] at h
  | m + 1, 0, hm, n, d, h => by omega
  | m + 1, m' + 1, hm, n, d, h => by
    simp only [dataL] at h ⊢
    split at h
    · rename_i xs hx
      rw [hs.list hx]
      simp only [Option.map_eq_some_iff] at h ⊢
      obtain ⟨e, h1, h2⟩ := h
      exact ⟨e, dts_up (dataL_up hs (by omega)) h1, h2⟩
    · cases h
theorem Dt.up {s s' : Sto} {m m' : Nat} {v : Val} {d : PyData} (h : Dt s m v d) (hs : Sub s s') (hm : m ≤ m') : Dt s' m' v d := dt_up (dataL_up hs hm) h
theorem Dts.up {s s' : Sto} {m m' : Nat} {v : List Val} {d : List PyData} (h : Dts s m v d) (hs : Sub s s') (hm : m ≤ m') : Dts s' m' v d := dts_up (dataL_up hs hm) h
theorem dt_fr {s : Sto} {m : Nat} {q : Rat} : Dt s m (frV q) (frD q) := dataW_fr _ q
theorem ty_data {s : Sto} {m : Nat} {v : Val} {d : PyData} (h : Dt s m v d) : typeName s v = some (tyD d) := by
  cases d with
  | tuple ds =>
    obtain ⟨xs, rfl, _⟩ := dt_tup h
    rfl
  | list ds =>
    rcases dt_list h with ⟨n, xs, k, rfl, hn, _⟩ | ⟨xs, rfl, _⟩
    · have := listAt_some hn
      simp [typeName, this, tyD]
    · rfl
  | _ =>
    unfold Dt at h
    cases v with
    | loc n =>
      simp only [dataW] at h
      cases m with
      | zero => simp [dataL] at h
      | succ m =>
        simp only [dataL] at h
        split at h
        · simp at h
        · cases h
    | tup xs => simp [dataW] at h
    | rol xs => simp [dataW] at h
    | exc _ _ => simp [dataW] at h
    | _ => simp only [dataW, Option.some.injEq, reduceCtorEq] at h <;> first | rfl | (cases h; rfl)
end Rf
set_option maxHeartbeats 8000000
/-! R2: fractions read. -/
namespace Rf
open PySem (Str PyData)
open Bk Wk
def isTupD (lo hi : Int) : PyData → Bool
  | .tuple ds => decide (lo ≤ ds.length ∧ (ds.length : Int) ≤ hi)
  | _ => false
def isIntD : PyData → Bool
  | .int _ => true
  | _ => false
def isFracD : PyData → Bool
  | .tuple [.int a, .int b] => decide (1 ≤ b) && decide (Nat.gcd a.natAbs b.natAbs = 1)
  | _ => false
def aboveD : PyData → Int
  | .tuple [.int a, .int _] => a
  | _ => 0
def belowD : PyData → PyData → Bool
  | .tuple [.int a, .int b], .tuple [.int c, .int e] => decide (a * e < c * b)
  | _, _ => false
def posD (d : PyData) : Bool := isFracD d && decide (0 < aboveD d)
/-- its integers are no giants -/
def smD : PyData → Prop
  | .tuple [.int a, .int b] => a.natAbs < 2 ^ 4000 ∧ b.natAbs < 2 ^ 4000
  | _ => True
theorem dt_pair {s : Sto} {m : Nat} {v : Val} {d : PyData} (h : Dt s m v d) (hc : isTupD 2 2 d = true) : ∃ x y a b, v = .tup [x, y] ∧ d = .tuple [a, b] ∧ Dt s m x a ∧ Dt s m y b := by
  cases d with
  | tuple ds =>
    obtain ⟨xs, rfl, hx⟩ := dt_tup h
    have hl := dts_len hx
    simp only [isTupD, decide_eq_true_eq] at hc
    have h2 : ds.length = 2 := by omega
    match xs, ds, hl, h2, hx with
    | [x, y], [a, b], _, _, hx =>
      obtain ⟨_, _, e1, h3, h4⟩ := dts_cons hx
      cases e1
      obtain ⟨_, _, e2, h5, h6⟩ := dts_cons h4
      cases e2
      exact ⟨x, y, _, _, rfl, rfl, h3, h5⟩
    | [x, y], [_], hl, _, _ => simp at hl
    | [x, y], [], hl, _, _ => simp at hl
    | [x, y], _ :: _ :: _ :: _, hl, _, _ => simp at hl
    | [], _, hl, h2, _ => simp at hl; omega
    | [_], _, hl, h2, _ => simp at hl; omega
    | _ :: _ :: _ :: _, _, hl, h2, _ => simp at hl; omega
  | _ => simp [isTupD] at hc
theorem dt_int {s : Sto} {m : Nat} {v : Val} {d : PyData} (h : Dt s m v d) (hc : isIntD d = true) : ∃ i, v = .int i ∧ d = .int i := by
  cases d with
  | int i =>
    unfold Dt at h
    cases v with
    | int j => simp [dataW] at h; exact ⟨i, by rw [h], rfl⟩
    | loc n =>
      simp only [dataW] at h
      cases m with
      | zero => simp [dataL] at h
      | succ m =>
        simp only [dataL] at h
        split at h
        · simp at h
        · cases h
    | tup xs => simp [dataW] at h
    | rol xs => simp [dataW] at h
    | _ => simp [dataW] at h
  | _ => simp [isIntD] at hc
theorem dt_mkint {s : Sto} {m : Nat} {i : Int} : Dt s m (.int i) (.int i) := by simp [Dt, dataW]
section
variable {P : Prog} (M : BB P) {k m : Nat} {s : Sto} {v w : Val} {d e : PyData}
include M
theorem d_is_tuple (h : Dt s m v d) {lo hi : Int} : callN P (k + 1) "is_tuple" [v, .int lo, .int hi] s = .ok (.bl (isTupD lo hi d)) s := by
  rw [callN_def M.is_tuple]
  have ht := ty_data h
  cases d with
  | tuple ds =>
    obtain ⟨xs, rfl, hx⟩ := dt_tup h
    have hl := dts_len hx
    simp [WT.d_is_tuple, startE, execs, exec, evalE, evalEs, prim_isinst ht, isaB, tyD, truth, finish, isTupD, cmpV, hl]
    by_cases h1 : lo ≤ ds.length
    · simp [h1, finish]
    · simp [h1, finish]
  | _ => simp [WT.d_is_tuple, startE, execs, exec, evalE, evalEs, prim_isinst ht, isaB, tyD, truth, finish, isTupD]
theorem d_is_integer (h : Dt s m v d) : callN P (k + 1) "is_integer" [v] s = .ok (.bl (isIntD d)) s := by
  rw [callN_def M.is_integer]
  have ht := ty_data h
  cases d <;> simp [WT.d_is_integer, startE, execs, exec, evalE, evalEs, evalT, prim_isinst ht, isaB, tyD, truth, finish, isIntD]
theorem d_is_fraction (h : Dt s m v d) : callN P (k + 2) "is_fraction" [v] s = .ok (.bl (isFracD d)) s := by
  rw [callN_def M.is_fraction]
  have t := d_is_tuple M (k := k) h (lo := 2) (hi := 2)
  by_cases hc : isTupD 2 2 d = true
  · obtain ⟨x, y, a, b, rfl, rfl, h1, h2⟩ := dt_pair h hc
    rw [hc] at t
    have t1 := d_is_integer M (k := k) h1
    have t2 := d_is_integer M (k := k) h2
    by_cases i1 : isIntD a = true
    · by_cases i2 : isIntD b = true
      · obtain ⟨i, rfl, rfl⟩ := dt_int h1 i1
        obtain ⟨j, rfl, rfl⟩ := dt_int h2 i2
        simp [WT.d_is_fraction, startE, execs, exec, evalE, evalEs, evalT, t, t1, t2, isIntD, truth, finish, isFracD]
        by_cases h3 : 1 ≤ j
        · simp [h3, finish, cmpV, cmpO_eq]
          omega
        · simp [h3, finish]
      · have i2' : isIntD b = false := by simpa using i2
        rw [i2'] at t2
        simp [WT.d_is_fraction, startE, execs, exec, evalE, evalEs, evalT, t, t1, t2, i1, truth, finish]
        cases a <;> cases b <;> first | rfl | simp [isIntD] at i2
    · have i1' : isIntD a = false := by simpa using i1
      rw [i1'] at t1
      simp [WT.d_is_fraction, startE, execs, exec, evalE, evalEs, evalT, t, t1, truth, finish]
      cases a <;> first | rfl | simp [isIntD] at i1
  · have hf : isTupD 2 2 d = false := by simpa using hc
    rw [hf] at t
    simp [WT.d_is_fraction, startE, execs, exec, evalE, evalEs, evalT, t, finish]
    cases d with
    | tuple ds =>
      match ds, hf with
      | [a, b], hf => simp [isTupD] at hf
      | [], _ => simp [isFracD]
      | [_], _ => simp [isFracD]
      | _ :: _ :: _ :: _, _ => simp [isFracD]
    | _ => rfl
omit M in
theorem frac_pair (h : isFracD d = true) : ∃ i j : Int, d = .tuple [.int i, .int j] ∧ 1 ≤ j := by
  unfold isFracD at h
  split at h
  · rename_i a b
    simp at h
    exact ⟨a, b, rfl, h.1⟩
  · cases h
omit M in
theorem dt_frac (h : Dt s m v d) (hf : isFracD d = true) : ∃ i j : Int, v = .tup [.int i, .int j] ∧ d = .tuple [.int i, .int j] ∧ 1 ≤ j := by
  obtain ⟨i, j, rfl, hj⟩ := frac_pair hf
  obtain ⟨x, y, a, b, rfl, e, h1, h2⟩ := dt_pair h (by simp [isTupD])
  cases e
  obtain ⟨_, rfl, e1⟩ := dt_int h1 rfl
  obtain ⟨_, rfl, e2⟩ := dt_int h2 rfl
  cases e1
  cases e2
  exact ⟨i, j, rfl, rfl, hj⟩
theorem d_is_positive (h : Dt s m v d) : callN P (k + 3) "is_positive" [v] s = .ok (.bl (posD d)) s := by
  rw [callN_def M.is_positive]
  have t := d_is_fraction M (k := k) h
  by_cases hf : isFracD d = true
  · obtain ⟨i, j, rfl, rfl, hj⟩ := dt_frac h hf
    rw [hf] at t
    simp [WT.d_is_positive, startE, execs, exec, evalE, evalEs, t, truth, posD, hf, aboveD, cmpV, finish]
    exact decide_eq_decide.mpr Iff.rfl
  · have hf' : isFracD d = false := by simpa using hf
    rw [hf'] at t
    simp [WT.d_is_positive, startE, execs, exec, evalE, evalEs, t, truth, posD, hf', finish]
omit M in
theorem d_is_below (F : FB P) (h : Dt s m v d) (h' : Dt s m w e) (hf : isFracD d = true) (hf' : isFracD e = true) (sd : smD d) (se : smD e) : callN P (k + 1) "is_below" [v, w] s = .ok (.bl (belowD d e)) s := by
  obtain ⟨a, b, rfl, rfl, hb⟩ := dt_frac h hf
  obtain ⟨c, f, rfl, rfl, hc⟩ := dt_frac h' hf'
  simp only [smD] at sd se
  have m1 : MulOk a f := mulOk_b sd.1 se.2 (by decide)
  have m2 : MulOk c b := mulOk_b se.1 sd.2 (by decide)
  rw [callN_def F.is_below]
  simp [WT.d_is_below, startE, execs, exec, evalE, evalEs, bin_mul m1, bin_mul m2, belowD, cmpV, finish]
end
end Rf
set_option maxHeartbeats 8000000
/-! R3: lists built anew; numbers; what is refused. -/
namespace Rf
open PySem (Str PyData)
open Bk Wk
/-- how deep, and how wide -/
def lvl : Nat → PyData → Bool
  | _, .dict _ => false
  | 0, .tuple _ => false
  | 0, .list _ => false
  | n + 1, .tuple xs => decide (xs.length ≤ 1000) && xs.all (lvl n)
  | n + 1, .list xs => decide (xs.length ≤ 1000) && xs.all (lvl n)
  | _, .none => true
  | _, .bool _ => true
  | _, .int _ => true
  | _, .str _ => true
theorem dts_up' {s s' : Sto} {m : Nat} {vs : List Val} {ds : List PyData} (h : Dts s m vs ds) (hs : Sub s s') : Dts s' m vs ds := h.up hs (Nat.le_refl _)
theorem seqG_data {s : Sto} {m : Nat} {v : Val} {d : PyData} {ds : List PyData} (h : Dt s m v d) (hd : d = .tuple ds ∨ d = .list ds) : ∃ xs gd k, seqG s v = some (xs, gd) ∧ Dts s k xs ds ∧ ∀ s', Sub s s' → gd.holds s' := by
  rcases hd with rfl | rfl
  · obtain ⟨xs, rfl, hx⟩ := dt_tup h
    exact ⟨xs, .none, m, rfl, hx, fun _ _ => trivial⟩
  · rcases dt_list h with ⟨n, xs, k, rfl, hn, rfl, hx⟩ | ⟨xs, rfl, hx⟩
    · exact ⟨xs, .lst n xs, k, seqG_loc hn, hx, fun s' hs => hs.list hn⟩
    · exact ⟨xs, .ro, m, rfl, hx, fun _ _ => trivial⟩
section
variable {P : Prog} (A : P.find "anew" = some WT.d_anew)
include A
theorem w_anew : ∀ (n : Nat) {k m : Nat} {s : Sto} {v : Val} {d : PyData} {Q : Val → Sto → Prop}, Dt s m v d → lvl n d = true → (∀ v' s', Sub s s' → Dt s' n v' d → Q v' s') → (callN P (k + n + 1) "anew" [v] s).wp Q
  | n, k, m, s, v, d, Q, h, hl, hQ => by
    rw [callN_def A]
    have ht := ty_data h
    have flat : ∀ d0, d = d0 → (∀ ds, d0 ≠ .tuple ds) → (∀ ds, d0 ≠ .list ds) → Dt s n v d := by
      rintro d0 rfl h1 h2
      unfold Dt at h ⊢
      cases v with
      | loc j =>
        simp only [dataW] at h
        cases m with
        | zero => simp [dataL] at h
        | succ m =>
          simp only [dataL] at h
          split at h
          · simp only [Option.map_eq_some_iff] at h
            obtain ⟨e, _, e2⟩ := h
            exact absurd e2.symm (h2 _)
          · cases h
      | tup xs =>
        simp only [dataW, Option.map_eq_some_iff] at h
        obtain ⟨e, _, e2⟩ := h
        exact absurd e2.symm (h1 _)
      | rol xs =>
        simp only [dataW, Option.map_eq_some_iff] at h
        obtain ⟨e, _, e2⟩ := h
        exact absurd e2.symm (h2 _)
      | _ => exact h
    have items : ∀ {ds : List PyData} {n' : Nat}, n = n' + 1 → (d = .tuple ds ∨ d = .list ds) → (decide (ds.length ≤ 1000) && ds.all (lvl n')) = true → ∀ {Q' : List Val → Sto → Prop}, (∀ ys s', Sub s s' → Dts s' n' ys ds → Q' ys s') → ∃ xs gd, seqG s v = some (xs, gd) ∧ (lcLoop (fun x s2 => match asgT s2 (.nm 1) x (wipe [some v, none] [1]) with
        | some σ2 => (evalC (ctxOf P (callN P (k + n))) .none σ2 s2).bind fun b s3 => match b with
          | true => (evalE (ctxOf P (callN P (k + n))) (.call "anew" (.cons (.var 1) .nil)) σ2 s3).bind fun v s4 => .ok (some v) s4
          | false => .ok none s3
        | none => .stuck) gd xs [] s).wp Q' := by
      rintro ds n' rfl hd hw Q' hQ'
      simp only [Bool.and_eq_true, decide_eq_true_eq, List.all_eq_true] at hw
      obtain ⟨xs, gd, j, e1, e2, e3⟩ := seqG_data h hd
      have hlen := dts_len e2
      refine ⟨xs, gd, e1, ?_⟩
      refine wp_lc (fun i ys s' => Sub s s' ∧ Dts s' n' ys (ds.take i)) ⟨.refl _, by simp [Dts, dataWs]⟩ (fun i ys s' _ hI => e3 s' hI.1) (by rw [hlen]; exact smallN (Nat.le_trans hw.1 (by decide))) (fun i hi ys s' hI => ?_) (fun ys s' hI => ?_)
      · obtain ⟨hs, hy⟩ := hI
        have hi2 : i < ds.length := by omega
        have hx := (dts_at i hi hi2 e2).up hs (Nat.le_refl _)
        simp [asgT, wipe, evalC, evalE, evalEs]
        refine w_anew n' (k := k) hx (hw.2 _ (List.getElem_mem hi2)) fun v' s2 h2 h3 => ?_
        refine ⟨hs.trans h2, ?_⟩
        rw [List.take_add_one, List.getElem?_eq_getElem hi2]
        exact dts_app (dts_up' hy h2) (dts_mk h3 (by simp [Dts, dataWs]))
      · obtain ⟨hs, hy⟩ := hI
        rw [hlen, List.take_length] at hy
        exact hQ' _ _ hs hy
    cases d with
    | tuple ds =>
      cases n with
      | zero => cases hl
      | succ n =>
        obtain ⟨xs, gd, e1, e2⟩ := items rfl (.inl rfl) hl (Q' := fun ys s' => (pushO (.lst ys) s').wp fun a s2 => (primV .tuple [a] s2).wp Q) fun ys s' hs hy => by
          simp only [pushO, wp_ok]
          rw [prim_tuple (s := s' ++ [Ob.lst ys]) (v := .loc s'.length) (xs := ys) (listAt_push _ _)]
          exact hQ _ _ (hs.trans (Sub.app _ _)) (dt_mktup (hy.up (Sub.app _ _) (by omega)))
        simp [WT.d_anew, startE, execs, exec, evalT, evalE, evalEs, prim_isinst ht, isaB, tyD, truth, evalIt, e1]
        exact e2
    | list ds =>
      cases n with
      | zero => cases hl
      | succ n =>
        obtain ⟨xs, gd, e1, e2⟩ := items rfl (.inr rfl) hl (Q' := fun ys s' => (pushO (.lst ys) s').wp Q) fun ys s' hs hy => by
          simp only [pushO, wp_ok]
          exact hQ _ _ (hs.trans (Sub.app _ _)) (dt_mkloc (listAt_push _ _) (hy.up (Sub.app _ _) (Nat.le_refl _)))
        simp [WT.d_anew, startE, execs, exec, evalT, evalE, evalEs, prim_isinst ht, isaB, tyD, truth, evalIt, e1]
        exact e2
    | dict _ => cases n <;> cases hl
    | _ =>
      simp [WT.d_anew, startE, execs, exec, evalT, evalE, evalEs, prim_isinst ht, isaB, tyD, truth]
      exact hQ _ _ (.refl _) (flat _ rfl (by intro _ e; cases e) (by intro _ e; cases e))
end
end Rf
set_option maxHeartbeats 8000000
/-! R4: small rules that the laws of refusals share. -/
namespace Rf
open PySem (Str PyData)
open Bk Wk
theorem isFrac_fr (q : Rat) : isFracD (frD q) = true := by
  have h1 : (1 : Int) ≤ q.den := by have := q.den_pos; omega
  have h2 : Nat.gcd q.num.natAbs q.den = 1 := q.reduced
  simp [isFracD, frD, h1, h2]
theorem posD_fr {q : Rat} (h : 0 < q) : posD (frD q) = true := by
  simp [posD, isFrac_fr]
  exact num_pos' h
theorem smD_fr {q : Rat} (h : Sm q) : smD (frD q) := ⟨h.1, by simpa using h.2⟩
theorem belowD_fr {q r : Rat} : belowD (frD q) (frD r) = decide (q < r) := by
  simp only [belowD, frD]
  exact decide_eq_decide.mpr (by rw [Rat.lt_iff])
theorem eq_same {s : Sto} {x y : Val} {d : PyData} {b e : Nat} (hx : dataOf s x = some d) (hy : dataOf s y = some d) (h : Rp d b e) (he : e ≤ 60) : eqO s x y = some true := by
  have hs : PySem.SeqAt.shaped d = true := by
    have h1 := h.dp
    simp only [PySem.SeqAt.shaped, h.ly, Bool.true_and]
    exact decide_eq_true (by omega)
  simp only [eqO, hx, hy, hs, and_self, if_true]
  rw [PySem.SeqAt.eqv_refl d h.ly]
theorem ne_same {s : Sto} {x y : Val} {d : PyData} {b e : Nat} (hx : dataOf s x = some d) (hy : dataOf s y = some d) (h : Rp d b e) (he : e ≤ 60) : cmpO s .ne x y = some false := by
  rw [cmpO_ne, eq_same hx hy h he]; rfl
theorem rp_str {x : Str} (h : ∀ k, 200 ≤ k → k ∉ x.cps.toList) : PySem.SeqAt.shaped (.str x) = true := by
  simp [PySem.SeqAt.shaped, PyData.canLay0, PyData.depth, strOk_of' h]
theorem eq_pair {s : Sto} {j : Int} {x : Str} (h : ∀ k, 200 ≤ k → k ∉ x.cps.toList) : eqO s (.tup [.int j, .str x]) (.tup [.int j, .str x]) = some true := by
  have hd : dataOf s (.tup [.int j, .str x]) = some (.tuple [.int j, .str x]) := by simp [dataOf, dataW, dataWs]
  have h1 := rp_str h
  have hc : PyData.canLay0 (.tuple [.int j, .str x]) = true := by
    simp only [PySem.SeqAt.shaped, Bool.and_eq_true] at h1
    simp [PyData.canLay0, PyData.canLayAll0]
    exact h1.1
  have hs : PySem.SeqAt.shaped (.tuple [.int j, .str x]) = true := by
    simp only [PySem.SeqAt.shaped, hc, Bool.true_and]
    simp [PyData.depth, PyData.depthAll]
  simp only [eqO, hd, hs, and_self, if_true]
  rw [PySem.SeqAt.eqv_refl _ hc]
theorem rp_none : Rp .none 0 0 where
  sh := rfl
  lf := by decide
  bk := Nat.le_refl _
  dp := Nat.le_refl _
  ly := rfl
  fr := fun k hk => by
    have e : (PyData.none.shown).cps.toList = [78, 111, 110, 101] := by decide
    rw [e]
    intro h
    simp at h
    omega
theorem shown_none : PyData.none.shown = ("None" : Str) := by decide
theorem cut_to {α : Type} (xs : List α) (k : Nat) (h : k ≤ xs.length) : cut xs none (some (k : Int)) = xs.take k := by
  unfold cut
  rw [HT.sIx_none, HT.sIx_nat, List.drop_zero]
  congr 1
  omega
theorem cut_last {α : Type} (xs : List α) : cut xs none (some (-1)) = xs.dropLast := by
  unfold cut
  rw [HT.sIx_none, List.drop_zero, List.dropLast_eq_take]
  congr 1
  simp only [HT.sIx]
  rw [if_pos (by decide)]
  omega
def zeroD : PyData := .tuple [.int 0, .int 1]
def oneD : PyData := .tuple [.int 1, .int 1]
theorem dt_zero {s : Sto} {m : Nat} : Dt s m (.tup [.int 0, .int 1]) zeroD := by simp [Dt, dataW, dataWs, zeroD]
theorem dt_one {s : Sto} {m : Nat} : Dt s m (.tup [.int 1, .int 1]) oneD := by simp [Dt, dataW, dataWs, oneD]
theorem sm_zero : smD zeroD := ⟨by decide, by decide⟩
theorem sm_one : smD oneD := ⟨by decide, by decide⟩
theorem all_mapI {s : Sto} {n : Nat} {f : Nat → Bool} : primV .all [.loc s.length] (s ++ [Ob.lst ((List.range n).map fun i => Val.bl (f i))]) = .ok (.bl ((List.range n).all f)) (s ++ [Ob.lst ((List.range n).map fun i => Val.bl (f i))]) := by
  have hl2 : listAt (s ++ [Ob.lst ((List.range n).map fun i => Val.bl (f i))]) s.length = some ((List.range n).map fun i => Val.bl (f i)) := listAt_push _ _
  have hb : boolsO ((List.range n).map fun i => Val.bl (f i)) = some ((List.range n).map f) := by
    have := boolsO_map ((List.range n).map f)
    rw [List.map_map] at this
    exact this
  rw [prim_all (bs := (List.range n).map f) (by rw [seqL_loc, hl2]; exact hb)]
  simp [List.all_map]
theorem any_mapI {s : Sto} {n : Nat} {f : Nat → Bool} : primV .any [.loc s.length] (s ++ [Ob.lst ((List.range n).map fun i => Val.bl (f i))]) = .ok (.bl ((List.range n).any f)) (s ++ [Ob.lst ((List.range n).map fun i => Val.bl (f i))]) := by
  have hl2 : listAt (s ++ [Ob.lst ((List.range n).map fun i => Val.bl (f i))]) s.length = some ((List.range n).map fun i => Val.bl (f i)) := listAt_push _ _
  have hb : boolsO ((List.range n).map fun i => Val.bl (f i)) = some ((List.range n).map f) := by
    have := boolsO_map ((List.range n).map f)
    rw [List.map_map] at this
    exact this
  rw [prim_any_loc (bs := (List.range n).map f) (by rw [hl2]; exact hb)]
  simp [List.any_map]
theorem zipV_at {xs : List Val} {i : Nat} (h : i + 1 < xs.length) (h2 : i < (zipV xs (cut xs (some 1) none)).length) : (zipV xs (cut xs (some 1) none))[i] = .tup [xs[i], xs[i + 1]] := by
  have e : cut xs (some 1) none = xs.tail := by
    cases xs with
    | nil => simp at h
    | cons x xs => rw [cut_tail]; rfl
  simp [zipV, e]
theorem zipV_len {xs : List Val} (h : 0 < xs.length) : (zipV xs (cut xs (some 1) none)).length = xs.length - 1 := by
  have e : cut xs (some 1) none = xs.tail := by
    cases xs with
    | nil => simp at h
    | cons x xs => rw [cut_tail]; rfl
  simp [zipV, e]
def fvD (n : Nat) (p : Nat → Rat) : PyData := .tuple ((List.range n).map fun i => frD (p i))
theorem dt_fv {s : Sto} {m n : Nat} {p : Nat → Rat} : Dt s m (fv n p) (fvD n p) := by
  refine dt_mktup ?_
  unfold Dts fvs
  have := dataWs_frs (dataL s m) ((List.range n).map p)
  rw [List.map_map, List.map_map] at this
  exact this
theorem sm_fv {n : Nat} {p : Nat → Rat} (hS : ∀ i, i < n → Sm (p i)) : ∀ ds, fvD n p = .tuple ds → ∀ x ∈ ds, smD x := by
  intro ds e x hx
  cases e
  obtain ⟨i, hi, rfl⟩ := List.mem_map.mp hx
  exact smD_fr (hS i (List.mem_range.mp hi))
theorem zero_fr : zeroD = frD 0 := rfl
theorem one_fr : oneD = frD 1 := rfl
theorem prim_isexK {csL : List Str} {s : Sto} {c d : Str} {v : Val} (h : c ∈ csL) : primV (.isex d csL) [.exc c v] s = .ok (.bl (isaX c d)) s := by
  simp [primV, h]
theorem dt_non {s : Sto} {q : Nat} : Dt s q .non .none := by simp [Dt, dataW]
def ssTake : Ss → Nat → Ss
  | _, 0 => .nil
  | .nil, _ => .nil
  | .cons t r, n + 1 => .cons t (ssTake r n)
def ssTail : Ss → Nat → Ss
  | ss, 0 => ss
  | .nil, _ => .nil
  | .cons _ r, n + 1 => ssTail r n
theorem wp_split {G : Ctx} : ∀ (n : Nat) (ss : Ss) {σ : Env} {s : Sto} {Q : Fl → Sto → Prop}, ((execs G (ssTake ss n) σ s).wp fun f s' => match f with
    | .nx σ' => (execs G (ssTail ss n) σ' s').wp Q
    | f => Q f s') → (execs G ss σ s).wp Q
  | 0, ss, σ, s, Q, h => by
    simp only [ssTake, ssTail, execs, wp_ok] at h
    exact h
  | n + 1, .nil, σ, s, Q, h => by
    simp only [ssTake, ssTail, execs, wp_ok] at h
    simpa only [execs, wp_ok] using h
  | n + 1, .cons t r, σ, s, Q, h => by
    simp only [ssTake, ssTail, execs, wp_bind] at h ⊢
    refine wp_mono h fun f s' q => ?_
    cases f with
    | nx σ' => exact wp_split n r q
    | bk σ' => exact q
    | ct σ' => exact q
    | rt v => exact q
structure It (d : PyData) : Prop where
  rp : Rp d 2 1
  lv : lvl 1 d = true
theorem it_fr {q : Rat} (h : Sb 1820 q) : It (frD q) := ⟨rp_fr h, by simp [frD, lvl]⟩
theorem it_22 : It (.tuple [.int 2, .int 2]) := ⟨rp_tup (b := 0) (e := 0) (xs := [.int 2, .int 2]) fun x hx => by
  simp only [List.mem_cons, List.not_mem_nil, or_false] at hx
  rcases hx with rfl | rfl <;> exact rp_int (Nat.lt_of_lt_of_le (by decide : (2 : Int).natAbs < 4) (by decide +kernel)), by simp [lvl]⟩
theorem lvl_all {ds : List PyData} (h : ∀ x ∈ ds, It x) (hl : ds.length ≤ 10) : (decide (ds.length ≤ 1000) && ds.all (lvl 1)) = true := by
  simp only [Bool.and_eq_true, decide_eq_true_eq, List.all_eq_true]
  exact ⟨by omega, fun x hx => (h x hx).lv⟩
theorem dts_frs {s : Sto} {m : Nat} (L : List Rat) : Dts s m (L.map frV) (L.map frD) := dataWs_frs _ L
theorem dts_one {s : Sto} {m : Nat} {v : Val} {d : PyData} (h : Dt s m v d) : Dts s m [v] [d] := dts_mk h (by simp [Dts, dataWs])
theorem it_map {L : List Rat} (h : ∀ q ∈ L, Sb 1820 q) : ∀ x ∈ L.map frD, It x := by
  intro x hx
  obtain ⟨q, hq, rfl⟩ := List.mem_map.mp hx
  exact it_fr (h q hq)
theorem it_app {ds : List PyData} {d : PyData} (h : ∀ x ∈ ds, It x) (hd : It d) : ∀ x ∈ ds ++ [d], It x := by
  intro x hx
  rcases List.mem_append.mp hx with hx | hx
  · exact h x hx
  · rw [List.mem_singleton.mp hx]; exact hd
def oneV : Val := .tup [.int 1, .int 1]
def zeroV : Val := .tup [.int 0, .int 1]
def twoV : Val := .tup [.int 2, .int 2]
theorem wp_cons {G : Ctx} {t : S} {r : Ss} {σ : Env} {s : Sto} {Q : Fl → Sto → Prop} (h : (exec G t σ s).wp fun f s' => match f with
    | .nx σ' => (execs G r σ' s').wp Q
    | f => Q f s') : (execs G (.cons t r) σ s).wp Q := by
  simp only [execs, wp_bind]
  refine wp_mono h fun f s' q => ?_
  cases f <;> exact q
theorem wp_asg {G : Ctx} {g : Tg} {e : E} {σ : Env} {s : Sto} {Q : Fl → Sto → Prop} (h : (evalE G e σ s).wp fun v s' => ∃ σ', asgT s' g v σ = some σ' ∧ Q (.nx σ') s') : (exec G (.asg g e) σ s).wp Q := by
  simp only [exec, wp_bind]
  refine wp_mono h fun v s' q => ?_
  obtain ⟨σ', e, q⟩ := q
  rw [e]; exact q
theorem dataWs_map {α : Type} {f : Nat → Option PyData} {g : α → Val} {h : α → PyData} (e : ∀ x, dataW f (g x) = some (h x)) : ∀ L : List α, dataWs f (L.map g) = some (L.map h)
  | [] => by simp [dataWs]
  | x :: L => by simp [dataWs, e, dataWs_map e L]
theorem dt_two {s : Sto} {q n : Nat} {x : Val} {d : PyData} (h : listAt s n = some [x, x]) (hd : Dt s q x d) : Dt s (q + 1) (.loc n) (.list [d, d]) := dt_mkloc h (dts_mk hd (dts_one hd))
theorem rp_two {d : PyData} {b e : Nat} (h : Rp d b e) : Rp (.list [d, d]) (2 * (b + 1)) (e + 1) := rp_list (xs := [d, d]) fun x hx => by
  simp only [List.mem_cons, List.not_mem_nil, or_false] at hx
  rcases hx with rfl | rfl <;> exact h
theorem wp_ife {G : Ctx} {c : E} {a b : Ss} {σ : Env} {s : Sto} {Q : Fl → Sto → Prop} (h : (evalT G c σ s).wp fun k s' => match k with
    | true => (execs G a σ s').wp Q
    | false => (execs G b σ s').wp Q) : (exec G (.ife c a b) σ s).wp Q := by
  simp only [exec, wp_bind]
  refine wp_mono h fun k s' q => ?_
  cases k <;> exact q
theorem wp_or {G : Ctx} {a b : E} {σ : Env} {s : Sto} {Q : Bool → Sto → Prop} (h : (evalT G a σ s).wp fun k s' => match k with
    | true => Q true s'
    | false => (evalT G b σ s').wp Q) : (evalT G (.or a b) σ s).wp Q := by
  simp only [evalT, wp_bind]
  refine wp_mono h fun k s' q => ?_
  cases k <;> exact q
theorem wp_ne {G : Ctx} {a b : E} {σ : Env} {s : Sto} {Q : Bool → Sto → Prop} (h : (evalE G a σ s).wp fun x s' => ∃ y s2, evalE G b σ s' = .ok y s2 ∧ cmpO s2 .ne x y = some false ∧ Q false s2) : (evalT G (.cmp .ne a b) σ s).wp Q := by
  simp only [evalT, wp_bind]
  refine wp_mono h fun x s' q => ?_
  obtain ⟨y, s2, e1, e2, q⟩ := q
  rw [e1]
  simp only [wp_ok, e2]
  exact q
theorem ne_pair {s : Sto} {j : Int} {d : PyData} {b e : Nat} (h : Rp d b e) : cmpO s .ne (.tup [.int j, .str d.shown]) (.tup [.int j, .str d.shown]) = some false := by
  rw [cmpO_ne, eq_pair h.fr]; rfl
theorem ne_none {s : Sto} {j : Int} : cmpO s .ne (.tup [.int j, .str "None"]) (.tup [.int j, .str "None"]) = some false := by
  have := ne_pair (s := s) (j := j) rp_none
  rwa [shown_none] at this
theorem two_le : (2 : Nat) ≤ PySem.sizeLine := smallN (by decide)
theorem ten20 : (10 : Int) ^ 20 = 100000000000000000000 := by decide +kernel
theorem wp_repr {G : Ctx} {e : E} {σ : Env} {s s' : Sto} {x : Val} {d : PyData} {b c : Nat} (h : evalE G e σ s = .ok x s') (hd : Dt s' 6 x d) (hR : Rp d b c) (hb : b ≤ 20000) (hc : c ≤ 60) : evalE G (.prim .repr (.cons e .nil)) σ s = .ok (.str d.shown) s' := by
  simp only [evalE, evalEs, h, Out.bind_ok]
  exact repr_rp hd hR hb hc
theorem wp_ret {G : Ctx} {e : E} {σ : Env} {s : Sto} {Q : Fl → Sto → Prop} (h : (evalE G e σ s).wp fun v s' => Q (.rt v) s') : (exec G (.ret e) σ s).wp Q := by
  simp only [exec, wp_bind]
  exact h
theorem wp_eqE {G : Ctx} {a b : E} {σ : Env} {s : Sto} {Q : Val → Sto → Prop} (h : (evalE G a σ s).wp fun x s' => ∃ y s2, evalE G b σ s' = .ok y s2 ∧ eqO s2 x y = some true ∧ Q (.bl true) s2) : (evalE G (.cmp .eq a b) σ s).wp Q := by
  simp only [evalE, wp_bind]
  refine wp_mono h fun x s' q => ?_
  obtain ⟨y, s2, e1, e2, q⟩ := q
  rw [e1]
  simp only [wp_ok, cmpV_eq e2]
  exact q
theorem eq_pairD {s : Sto} {j : Int} {d : PyData} {b e : Nat} (h : Rp d b e) : eqO s (.tup [.int j, .str d.shown]) (.tup [.int j, .str d.shown]) = some true := eq_pair h.fr
theorem eq_none {s : Sto} {j : Int} : eqO s (.tup [.int j, .str "None"]) (.tup [.int j, .str "None"]) = some true := by
  have := eq_pairD (s := s) (j := j) rp_none
  rwa [shown_none] at this
theorem wp_nt {G : Ctx} {a : E} {σ : Env} {s : Sto} {Q : Bool → Sto → Prop} (h : (evalT G a σ s).wp fun k s' => Q (!k) s') : (evalT G (.nt a) σ s).wp Q := by
  simp only [evalT, wp_bind]
  exact wp_mono h fun k s' q => q
theorem wp_nil {G : Ctx} {σ : Env} {s : Sto} {Q : Fl → Sto → Prop} (h : Q (.nx σ) s) : (execs G .nil σ s).wp Q := by
  simp only [execs, wp_ok]; exact h
theorem rp_small {i : Int} (h : i.natAbs < 8) : Rp (.int i) 0 0 := rp_int (bd_le (m := 3) _ h (by decide))
theorem it_ab {a b : Int} (ha : a.natAbs < 8) (hb : b.natAbs < 8) : It (.tuple [.int a, .int b]) ∧ smD (.tuple [.int a, .int b]) := by
  refine ⟨⟨(rp_tup (b := 0) (e := 0) (xs := [.int a, .int b]) fun x hx => ?_).up (by simp) (by decide), by simp [lvl]⟩, bd_le (m := 3) _ ha (by decide), bd_le (m := 3) _ hb (by decide)⟩
  simp only [List.mem_cons, List.not_mem_nil, or_false] at hx
  rcases hx with rfl | rfl
  · exact rp_small ha
  · exact rp_small hb
theorem pl12_sb {n : Nat} {p : Nat → Rat} (h : Pl12 n p) {i : Nat} (hi : i < n) : Sb 10 (p i) := (h.in12 i hi).sb (b := 1) (by decide) (h.pl.lo i hi) (by have := h.pl.hi i hi; simpa using this) (by decide) (by decide)
end Rf
set_option maxHeartbeats 4000000
/-! M1: going on by a part of a wait, then on, ends the same. -/
namespace Wk
section
variable {C : List Rat} {x y : Rat}
theorem mark_same (K : Cu C) (h1 : x ≤ y) (h2 : y < mark C x) : mark C y = mark C x := by
  have e : C.filter (fun c => decide (y < c)) = C.filter (fun c => decide (x < c)) := by
    apply List.filter_congr
    intro c hc
    by_cases h : x < c
    · have h3 := mark_least K hc h
      have : y < c := by grind
      simp [h, this]
    · have : ¬ y < c := fun q => h (by grind)
      simp [h, this]
  unfold mark
  rw [e]
theorem sub_div' {g r w : Rat} (h : 0 < r) : (g - r * w) / r = g / r - w := by
  have h1 := div_mul' (a := g - r * w) h
  have h2 := div_mul' (a := g) h
  have h3 : ((g - r * w) / r - (g / r - w)) * r = 0 := by grind
  rcases Rat.mul_eq_zero.mp h3 with h4 | h4
  · grind
  · grind
theorem leastR_sub {w : Rat} : ∀ (L : List Rat) (m : Rat), leastR (m - w) (L.map fun x => x - w) = leastR m L - w
  | [], m => rfl
  | x :: L, m => by
    simp only [List.map_cons, leastR]
    rw [← leastR_sub L]
    congr 1
    by_cases h : x < m
    · rw [if_pos h, if_pos (by grind)]
    · rw [if_neg h, if_neg (by grind)]
end
/-- where all are behind a part of a wait -/
def part (n : Nat) (C : List Rat) (v : Nat → Nat → Rat) (p : Nat → Rat) (w : Rat) (i : Nat) : Rat := p i + realS (ownS C v p) p n i * w
section
variable {n : Nat} {C : List Rat} {v : Nat → Nat → Rat} {p : Nat → Rat} {w : Rat}
theorem goP_part : goP n C v p = part n C v p (waitT n C (realS (ownS C v p) p n) p) := rfl
theorem Go.part_lt (G : Go n C (ownS C v p) p) (hw : w < waitT n C (realS (ownS C v p) p n) p) {i : Nat} (hi : i < n) : part n C v p w i < mark C (p i) := by
  have h1 := G.w_mark hi
  have h2 := Rat.mul_lt_mul_of_pos_left hw (G.rp i)
  unfold part
  grind
theorem Go.part_ge (G : Go n C (ownS C v p) p) (w0 : 0 ≤ w) (i : Nat) : p i ≤ part n C v p w i := by
  have := Rat.mul_nonneg (Rat.le_of_lt (G.rp i)) w0
  unfold part
  grind
theorem Go.own_part (G : Go n C (ownS C v p) p) (w0 : 0 ≤ w) (hw : w < waitT n C (realS (ownS C v p) p n) p) {i : Nat} (hi : i < n) : ownS C v (part n C v p w) i = ownS C v p i := by
  show v i (piece C (part n C v p w i)) = v i (piece C (p i))
  rw [piece_same G.cu (G.part_ge w0 i) (G.part_lt hw hi)]
theorem Go.part_pair (G : Go n C (ownS C v p) p) (w0 : 0 ≤ w) (hw : w < waitT n C (realS (ownS C v p) p n) p) {i : Nat} (hi : i + 1 < n) (h : p (i + 1) ≠ p i) : part n C v p w i < part n C v p w (i + 1) := by
  have h1 := G.pl.mono i hi
  unfold part
  by_cases h3 : realS (ownS C v p) p n (i + 1) < realS (ownS C v p) p n i
  · have h4 := G.w_next hi h3 h
    have h5 := Rat.mul_lt_mul_of_pos_left hw (show 0 < realS (ownS C v p) p n i - realS (ownS C v p) p n (i + 1) by grind)
    grind
  · have := Rat.mul_le_mul_of_nonneg_right (Rat.not_lt.mp h3) w0
    grind
theorem Go.part_same (G : Go n C (ownS C v p) p) {i : Nat} (e : p i = p (i + 1)) (e2 : realS (ownS C v p) p n i = realS (ownS C v p) p n (i + 1)) : part n C v p w i = part n C v p w (i + 1) := by
  unfold part
  rw [e, e2]
theorem Go.real_part0 (G : Go n C (ownS C v p) p) (w0 : 0 ≤ w) (hw : w < waitT n C (realS (ownS C v p) p n) p) : ∀ d i, i + d + 1 = n → realS (ownS C v (part n C v p w)) (part n C v p w) n i = realS (ownS C v p) p n i
  | 0, i, e => by
    have : i = n - 1 := by omega
    subst this
    rw [real_last, real_last, G.own_part w0 hw (by omega)]
  | d + 1, i, e => by
    have ih := G.real_part0 w0 hw d (i + 1) (by omega)
    have hi : i + 1 < n := by omega
    rw [real_up hi, ih, G.own_part w0 hw (by omega)]
    by_cases h : p i = p (i + 1) ∧ realS (ownS C v p) p n (i + 1) < ownS C v p i
    · have h2 : realS (ownS C v p) p n i = realS (ownS C v p) p n (i + 1) := by rw [real_up hi, if_pos h]
      rw [if_pos ⟨G.part_same h.1 h2, h.2⟩, h2]
    · have h2 : realS (ownS C v p) p n i = ownS C v p i := by rw [real_up hi, if_neg h]
      rw [if_neg, h2]
      rintro ⟨h3, h4⟩
      have h5 : p (i + 1) ≠ p i := fun q => h ⟨q.symm, h4⟩
      have := G.part_pair w0 hw hi h5
      rw [h3] at this
      exact Rat.lt_irrefl this
theorem real_far {own : Nat → Rat} {i : Nat} (h : n ≤ i) : realS own p n i = realS own p n (n - 1) := by
  unfold realS
  rw [show n - 1 - i = 0 by omega, show n - 1 - (n - 1) = 0 by omega]
theorem Go.real_part (G : Go n C (ownS C v p) p) (w0 : 0 ≤ w) (hw : w < waitT n C (realS (ownS C v p) p n) p) : realS (ownS C v (part n C v p w)) (part n C v p w) n = realS (ownS C v p) p n := by
  funext i
  have n1 := G.n1
  by_cases hi : i < n
  · exact G.real_part0 w0 hw (n - 1 - i) i (by omega)
  · have h : n ≤ i := by omega
    exact (real_far h).trans ((G.real_part0 w0 hw 0 (n - 1) (by omega)).trans (real_far h).symm)
theorem Go.part_pl (G : Go n C (ownS C v p) p) (w0 : 0 ≤ w) (hw : w < waitT n C (realS (ownS C v p) p n) p) : Pl n (part n C v p w) where
  lo := fun i h => Rat.le_trans (G.pl.lo i h) (G.part_ge w0 i)
  hi := fun i h => Rat.le_trans (Rat.le_of_lt (G.part_lt hw h)) (mark_le G.cu)
  mono := fun i h => by
    by_cases e : p (i + 1) = p i
    · have h1 := real_same (own := ownS C v p) (p := p) h e.symm
      have h2 := Rat.mul_le_mul_of_nonneg_right h1 w0
      unfold part
      grind
    · exact Rat.le_of_lt (G.part_pair w0 hw h e)
theorem Go.part_run (G : Go n C (ownS C v p) p) (hw : w < waitT n C (realS (ownS C v p) p n) p) : part n C v p w (n - 1) ≠ 1 := by
  have n1 := G.n1
  have h1 := G.part_lt hw (show n - 1 < n by omega)
  have h2 := mark_le (x := p (n - 1)) G.cu
  intro q
  grind
theorem Go.part_go (G : Go n C (ownS C v p) p) (w0 : 0 ≤ w) (hw : w < waitT n C (realS (ownS C v p) p n) p) (vP : ∀ i j, 0 < v i j) : Go n C (ownS C v (part n C v p w)) (part n C v p w) :=
  ⟨G.n1, G.cu, G.part_pl w0 hw, fun i => vP _ _, G.part_run hw⟩
theorem Go.waits_part (G : Go n C (ownS C v p) p) (w0 : 0 ≤ w) (hw : w < waitT n C (realS (ownS C v p) p n) p) : ∀ m, m ≤ n → waits n C (realS (ownS C v p) p n) (part n C v p w) m = (waits n C (realS (ownS C v p) p n) p m).map fun x => x - w
  | 0, _ => rfl
  | m + 1, h => by
    simp only [waits, List.map_append, G.waits_part w0 hw m (by omega)]
    congr 1
    have hm : m < n := by omega
    have h1 := G.lt1 hm
    have h2 := G.part_lt hw hm
    have h3 := mark_le (x := p m) G.cu
    unfold waitsAt
    rw [if_neg (show ¬ part n C v p w m = 1 by grind), if_neg (show ¬ p m = 1 by grind), mark_same G.cu (G.part_ge w0 m) h2, List.map_append]
    congr 1
    · simp only [List.map_cons, List.map_nil]
      rw [← sub_div' (G.rp m)]
      congr 2
      unfold part
      grind
    · by_cases c : m + 1 < n ∧ realS (ownS C v p) p n (m + 1) < realS (ownS C v p) p n m
      · have c2 : p (m + 1) ≠ p m := fun q => by
          have := real_same (own := ownS C v p) (p := p) c.1 q.symm
          grind
        have c3 := G.part_pair w0 hw c.1 c2
        rw [if_pos (show m + 1 < n ∧ realS (ownS C v p) p n (m + 1) < realS (ownS C v p) p n m ∧ part n C v p w (m + 1) ≠ part n C v p w m from ⟨c.1, c.2, by grind⟩), if_pos ⟨c.1, c.2, c2⟩]
        simp only [List.map_cons, List.map_nil]
        rw [← sub_div' (show 0 < realS (ownS C v p) p n m - realS (ownS C v p) p n (m + 1) by grind)]
        congr 2
        unfold part
        grind
      · rw [if_neg fun q => c ⟨q.1, q.2.1⟩, if_neg fun q => c ⟨q.1, q.2.1⟩]
        rfl
theorem Go.wait_part (G : Go n C (ownS C v p) p) (w0 : 0 ≤ w) (hw : w < waitT n C (realS (ownS C v p) p n) p) :
    waitT n C (realS (ownS C v (part n C v p w)) (part n C v p w) n) (part n C v p w) = waitT n C (realS (ownS C v p) p n) p - w := by
  rw [G.real_part w0 hw]
  obtain ⟨x, W, e⟩ := G.ne
  unfold waitT
  rw [G.waits_part w0 hw n (Nat.le_refl _), e]
  exact leastR_sub W x
theorem Go.goP_of_part (G : Go n C (ownS C v p) p) (w0 : 0 ≤ w) (hw : w < waitT n C (realS (ownS C v p) p n) p) : goP n C v (part n C v p w) = goP n C v p := by
  funext i
  show part n C v p w i + realS (ownS C v (part n C v p w)) (part n C v p w) n i * waitT n C (realS (ownS C v (part n C v p w)) (part n C v p w) n) (part n C v p w) = p i + realS (ownS C v p) p n i * waitT n C (realS (ownS C v p) p n) p
  rw [G.wait_part w0 hw, G.real_part w0 hw]
  unfold part
  grind
theorem Go.pot_part (G : Go n C (ownS C v p) p) (w0 : 0 ≤ w) (hw : w < waitT n C (realS (ownS C v p) p n) p) : sumN (pot n C v (part n C v p w)) n ≤ sumN (pot n C v p) n := by
  refine sumN_le n fun i hi => ?_
  have h1 : ahead C (part n C v p w i) ≤ ahead C (p i) := ahead_le (G.part_ge w0 i)
  unfold pot
  rw [G.real_part w0 hw]
  by_cases h2 : i + 1 < n ∧ ¬ (p i = p (i + 1) ∧ realS (ownS C v p) p n i = realS (ownS C v p) p n (i + 1))
  · rw [if_pos h2]
    split <;> omega
  · rw [if_neg h2, if_neg]
    · omega
    · rintro ⟨h3, h4⟩
      have h5 : p i = p (i + 1) ∧ realS (ownS C v p) p n i = realS (ownS C v p) p n (i + 1) := Decidable.not_not.mp fun q => h2 ⟨h3, q⟩
      exact h4 ⟨G.part_same h5.1 h5.2, h5.2⟩
end
/-! ### the way to the end of a step -/
inductive Way (n : Nat) (C : List Rat) (v : Nat → Nat → Rat) : (Nat → Rat) → Rat → (Nat → Rat) → Prop where
  | done {p : Nat → Rat} (h : p (n - 1) = 1) : Way n C v p 0 p
  | go {p q : Nat → Rat} {t : Rat} (h : p (n - 1) ≠ 1) (r : Way n C v (goP n C v p) t q) : Way n C v p (waitT n C (realS (ownS C v p) p n) p + t) q
section
variable {n : Nat} {C : List Rat} {v : Nat → Nat → Rat} {p q : Nat → Rat} {t w : Rat}
theorem Way.inv (h : Way n C v p t q) : (p (n - 1) = 1 ∧ t = 0 ∧ q = p) ∨ (p (n - 1) ≠ 1 ∧ ∃ t', t = waitT n C (realS (ownS C v p) p n) p + t' ∧ Way n C v (goP n C v p) t' q) := by
  cases h with
  | done h => exact .inl ⟨h, rfl, rfl⟩
  | go h r => exact .inr ⟨h, _, rfl, r⟩
/-- what a brigade must be -/
structure Bri (n : Nat) (C : List Rat) (v : Nat → Nat → Rat) : Prop where
  n1 : 1 ≤ n
  cu : Cu C
  pos : ∀ i j, 0 < v i j
theorem Sys.bri (S : Sys n C v) : Bri n C v := ⟨S.br.n1, S.cu, S.br.vP⟩
theorem Bri.go (B : Bri n C v) (h : Pl n p) (hr : p (n - 1) ≠ 1) : Go n C (ownS C v p) p := ⟨B.n1, B.cu, h, fun i => B.pos _ _, hr⟩
theorem Way.facts (B : Bri n C v) (h : Way n C v p t q) (hp : Pl n p) : 0 ≤ t ∧ Pl n q ∧ q (n - 1) = 1 ∧ ∀ i, i < n → p i ≤ q i := by
  induction h with
  | done h => exact ⟨Rat.le_refl, hp, h, fun i hi => Rat.le_refl⟩
  | go h r ih =>
    have G := B.go hp h
    obtain ⟨h1, h2, h3, h4⟩ := ih G.pl'
    have := G.w_pos
    exact ⟨by grind, h2, h3, fun i hi => Rat.le_trans (Rat.le_of_lt (G.up i)) (h4 i hi)⟩
/-- the way of the walk -/
theorem way_walk (B : Bri n C v) : ∀ m p t, Pl n p → sumN (pot n C v p) n ≤ m → Way n C v p ((walk n C v (m + 1) p t).1 - t) (walk n C v (m + 1) p t).2
  | 0, p, t, hp, hm => by
    by_cases hr : p (n - 1) = 1
    · rw [walk, if_pos hr]
      show Way n C v p (t - t) p
      rw [show t - t = 0 by grind]
      exact .done hr
    · have := pot_dec (B.go hp hr)
      omega
  | m + 1, p, t, hp, hm => by
    by_cases hr : p (n - 1) = 1
    · rw [walk, if_pos hr]
      show Way n C v p (t - t) p
      rw [show t - t = 0 by grind]
      exact .done hr
    · have h1 := pot_dec (B.go hp hr)
      have h2 := way_walk B m (goP n C v p) (t + waitT n C (realS (ownS C v p) p n) p) (B.go hp hr).pl' (by omega)
      rw [walk, if_neg hr]
      have h3 := Way.go hr h2
      generalize hW : walk n C v (m + 1) (goP n C v p) (t + waitT n C (realS (ownS C v p) p n) p) = X at *
      rw [show X.1 - t = waitT n C (realS (ownS C v p) p n) p + (X.1 - (t + waitT n C (realS (ownS C v p) p n) p)) by grind]
      exact h3
theorem way_step (B : Bri n C v) (hp : Pl n p) : Way n C v p (stepW n C v p).1 (stepW n C v p).2 := by
  have := way_walk B (most n C) p 0 hp pot_bound
  rw [show (walk n C v (most n C + 1) p 0).1 - 0 = (stepW n C v p).1 by show _ = (walk n C v (most n C + 1) p 0).1; grind] at this
  exact this
theorem Way.same {t' : Rat} {q' : Nat → Rat} (h : Way n C v p t q) (h' : Way n C v p t' q') : t = t' ∧ q = q' := by
  induction h generalizing t' with
  | done h =>
    rcases h'.inv with ⟨_, rfl, rfl⟩ | ⟨h2, _⟩
    · exact ⟨rfl, rfl⟩
    · exact absurd h h2
  | go h r ih =>
    rcases h'.inv with ⟨h2, _, _⟩ | ⟨_, t2, rfl, r2⟩
    · exact absurd h2 h
    · obtain ⟨e1, e2⟩ := ih r2
      exact ⟨by rw [e1], e2⟩
/-- going on by a part of the wait -/
theorem Way.part (B : Bri n C v) (h : Way n C v p t q) (hp : Pl n p) (hr : p (n - 1) ≠ 1) (w0 : 0 ≤ w) (hw : w ≤ waitT n C (realS (ownS C v p) p n) p) :
    Way n C v (part n C v p w) (t - w) q ∧ Pl n (Wk.part n C v p w) ∧ sumN (pot n C v (Wk.part n C v p w)) n ≤ sumN (pot n C v p) n ∧ (w = waitT n C (realS (ownS C v p) p n) p → sumN (pot n C v (Wk.part n C v p w)) n < sumN (pot n C v p) n) := by
  have G := B.go hp hr
  rcases h.inv with ⟨h2, _⟩ | ⟨_, t', rfl, r⟩
  · exact absurd h2 hr
  · by_cases e : w = waitT n C (realS (ownS C v p) p n) p
    · subst e
      have hd := pot_dec G
      rw [show waitT n C (realS (ownS C v p) p n) p + t' - waitT n C (realS (ownS C v p) p n) p = t' by grind]
      exact ⟨r, G.pl', Nat.le_of_lt hd, fun _ => hd⟩
    · have hw' : w < waitT n C (realS (ownS C v p) p n) p := by grind
      refine ⟨?_, G.part_pl w0 hw', G.pot_part w0 hw', fun q => absurd q e⟩
      have h3 := Way.go (n := n) (C := C) (v := v) (q := q) (t := t') (G.part_run hw') (by rw [G.goP_of_part w0 hw']; exact r)
      rw [G.wait_part w0 hw'] at h3
      rw [show waitT n C (realS (ownS C v p) p n) p + t' - w = waitT n C (realS (ownS C v p) p n) p - w + t' by grind]
      exact h3
end
end Wk
set_option maxHeartbeats 4000000
/-! M2: a faster brigade is never later. -/
namespace Wk
/-- S beside F: F has e people more at its begin; D bounds how many buckets F may be ahead -/
structure Two (n m e D : Nat) (C C' : List Rat) (v v' : Nat → Nat → Rat) : Prop where
  b : Bri n C v
  b' : Bri m C' v'
  nm : n + e = m
  up : ∀ d, d < D → ∀ i, i < n → i + e + d < m → ∀ x, v i (piece C x) ≤ v' (i + e + d) (piece C' x)
/-- F is further on, its buckets by their numbers -/
def Far (n m s : Nat) (x y : Nat → Rat) : Prop := ∀ i, i < n → i + s < m → x i ≤ y (i + s)
section
variable {n m e D d : Nat} {C C' : List Rat} {v v' : Nat → Nat → Rat} {x y : Nat → Rat} {t w : Rat}
theorem Two.touch (T : Two n m e D C C' v v') (hd : d < D) (hx : Pl n x) (hy : Pl m y) (R : Far n m (e + d) x y) : ∀ k i, i + (e + d) + k + 1 = m → x i = y (i + (e + d)) → realS (ownS C v x) x n i ≤ realS (ownS C' v' y) y m (i + (e + d)) := by
  intro k
  have nm := T.nm
  have own : ∀ i, i + (e + d) < m → x i = y (i + (e + d)) → realS (ownS C v x) x n i ≤ ownS C' v' y (i + (e + d)) := fun i hi he => by
    have h1 := real_le (own := ownS C v x) (p := x) (n := n) (i := i) (by omega)
    have h2 := T.up d hd i (by omega) (by omega) (x i)
    refine Rat.le_trans h1 ?_
    show v i (piece C (x i)) ≤ v' (i + (e + d)) (piece C' (y (i + (e + d))))
    rw [← he, show i + (e + d) = i + e + d by omega]
    exact h2
  induction k with
  | zero =>
    intro i hi he
    have h3 : i + (e + d) = m - 1 := by omega
    have h4 := own i (by omega) he
    rw [h3] at h4 ⊢
    rw [real_last]
    exact h4
  | succ k ih =>
    intro i hi he
    by_cases hne : realS (ownS C' v' y) y m (i + (e + d)) = ownS C' v' y (i + (e + d))
    · rw [hne]
      exact own i (by omega) he
    · obtain ⟨e1, e2⟩ := real_held (show i + (e + d) + 1 < m by omega) hne
      have a1 := hx.mono i (by omega)
      have a2 := R (i + 1) (by omega) (by omega)
      have e3 : i + 1 + (e + d) = i + (e + d) + 1 := by omega
      rw [e3] at a2
      have e4 : x i = x (i + 1) := by grind
      have e5 : x (i + 1) = y (i + 1 + (e + d)) := by rw [e3]; grind
      have h5 := ih (i + 1) (by omega) e5
      have h6 := real_same (own := ownS C v x) (p := x) (n := n) (i := i) (by omega) e4
      rw [e2]
      rw [e3] at h5
      exact Rat.le_trans h6 h5
theorem min_ex {f : Nat → Rat} {Q : Nat → Prop} : ∀ m, (∃ i, i < m ∧ Q i) → ∃ i, i < m ∧ Q i ∧ ∀ j, j < m → Q j → f i ≤ f j
  | 0, ⟨i, h, _⟩ => absurd h (by omega)
  | m + 1, ⟨i, hi, h⟩ => by
    by_cases q : ∃ i, i < m ∧ Q i
    · obtain ⟨a, h1, h2, h3⟩ := min_ex (f := f) m q
      by_cases c : Q m ∧ f m < f a
      · refine ⟨m, by omega, c.1, fun j hj hq => ?_⟩
        by_cases e : j = m
        · subst e; exact Rat.le_refl
        · have := h3 j (by omega) hq
          have := c.2
          grind
      · refine ⟨a, by omega, h2, fun j hj hq => ?_⟩
        by_cases e : j = m
        · subst e
          exact Rat.not_lt.mp fun r => c ⟨hq, r⟩
        · exact h3 j (by omega) hq
    · have e : i = m := by
        by_cases e : i = m
        · exact e
        · exact absurd ⟨i, by omega, h⟩ q
      subst e
      refine ⟨i, by omega, h, fun j hj hq => ?_⟩
      by_cases e : j = i
      · subst e; exact Rat.le_refl
      · exact absurd ⟨j, by omega, hq⟩ q
/-- while nothing changes F stays further on -/
theorem Two.keep (T : Two n m e D C C' v v') (hd : d < D) (hx : Pl n x) (hy : Pl m y) (rx : x (n - 1) ≠ 1) (ry : y (m - 1) ≠ 1) (R : Far n m (e + d) x y)
    (w0 : 0 ≤ w) (hw : w ≤ waitT n C (realS (ownS C v x) x n) x) (hw' : w ≤ waitT m C' (realS (ownS C' v' y) y m) y) : Far n m (e + d) (part n C v x w) (part m C' v' y w) := by
  intro i hi hj
  refine Rat.not_lt.mp fun hlt => ?_
  have G := T.b.go hx rx
  have G' := T.b'.go hy ry
  obtain ⟨a, ⟨ha, ha1, ha2⟩, hmin⟩ : ∃ a, (a < n ∧ a + (e + d) < m ∧ part m C' v' y w (a + (e + d)) < part n C v x w a) ∧ ∀ j, j < n → j + (e + d) < m → part m C' v' y w (j + (e + d)) < part n C v x w j →
      (y (a + (e + d)) - x a) / (realS (ownS C v x) x n a - realS (ownS C' v' y) y m (a + (e + d))) ≤ (y (j + (e + d)) - x j) / (realS (ownS C v x) x n j - realS (ownS C' v' y) y m (j + (e + d))) := by
    obtain ⟨a, h1, h2, h3⟩ := min_ex (f := fun j => (y (j + (e + d)) - x j) / (realS (ownS C v x) x n j - realS (ownS C' v' y) y m (j + (e + d)))) (Q := fun j => j + (e + d) < m ∧ part m C' v' y w (j + (e + d)) < part n C v x w j) n ⟨i, hi, hj, hlt⟩
    exact ⟨a, ⟨h1, h2.1, h2.2⟩, fun j q1 q2 q3 => h3 j q1 ⟨q2, q3⟩⟩
  have fast : ∀ j, j < n → j + (e + d) < m → part m C' v' y w (j + (e + d)) < part n C v x w j → realS (ownS C' v' y) y m (j + (e + d)) < realS (ownS C v x) x n j := fun j q1 q2 q3 => by
    refine Rat.not_le.mp fun q4 => ?_
    have h1 := R j q1 q2
    have h2 := Rat.mul_le_mul_of_nonneg_right q4 w0
    unfold part at q3
    grind
  have fa := fast a ha ha1 ha2
  have ra := R a ha ha1
  generalize hrr : realS (ownS C v x) x n = r at *
  generalize hss : realS (ownS C' v' y) y m = s at *
  have pa : 0 < r a - s (a + (e + d)) := by grind
  generalize hz : (y (a + (e + d)) - x a) / (r a - s (a + (e + d))) = z at *
  have hzm : z * (r a - s (a + (e + d))) = y (a + (e + d)) - x a := by rw [← hz]; exact div_mul' pa
  have pt : ∀ u i, part n C v x u i = x i + r i * u := fun u i => by unfold part; rw [hrr]
  have pt' : ∀ u i, part m C' v' y u i = y i + s i * u := fun u i => by unfold part; rw [hss]
  have z0 : 0 ≤ z := by
    rw [← hz]
    by_cases q : y (a + (e + d)) - x a = 0
    · rw [q, Rat.div_def, Rat.zero_mul]; exact Rat.le_refl
    · exact Rat.le_of_lt (div_pos' (by grind) pa)
  have zw : z < w := by
    refine Rat.not_le.mp fun q => ?_
    have h1 := Rat.mul_le_mul_of_nonneg_right q (Rat.le_of_lt pa)
    rw [pt, pt'] at ha2
    grind
  have zx : z < waitT n C r x := by grind
  have zy : z < waitT m C' s y := by grind
  have R2 : Far n m (e + d) (part n C v x z) (part m C' v' y z) := fun j q1 q2 => by
    refine Rat.not_lt.mp fun q3 => ?_
    rw [pt, pt'] at q3
    have r1 := R j q1 q2
    have f1 : s (j + (e + d)) < r j := by
      refine Rat.not_le.mp fun q4 => ?_
      have h2 := Rat.mul_le_mul_of_nonneg_right q4 z0
      grind
    have pj : 0 < r j - s (j + (e + d)) := by grind
    have h3 : part m C' v' y w (j + (e + d)) < part n C v x w j := by
      rw [pt, pt']
      have := Rat.mul_lt_mul_of_pos_left (show z < w from zw) pj
      grind
    have h4 := hmin j q1 q2 h3
    have h5 := (le_div pj).mp h4
    grind
  have m1 : part n C v x z a = part m C' v' y z (a + (e + d)) := by
    rw [pt, pt']
    grind
  have h6 := T.touch hd (G.part_pl z0 (by rw [hrr]; exact zx)) (G'.part_pl z0 (by rw [hss]; exact zy)) R2 (m - 1 - (a + (e + d))) a (by omega) m1
  rw [G.real_part z0 (by rw [hrr]; exact zx), G'.real_part z0 (by rw [hss]; exact zy), hrr, hss] at h6
  grind
/-! ### many steps -/
/-- k steps: their time, and the places behind them -/
inductive Runs (n : Nat) (C : List Rat) (v : Nat → Nat → Rat) : (Nat → Rat) → Nat → Rat → (Nat → Rat) → Prop where
  | z {p : Nat → Rat} : Runs n C v p 0 0 p
  | s {p q f : Nat → Rat} {k : Nat} {t T : Rat} (w : Way n C v p t q) (r : Runs n C v (handP q) k T f) : Runs n C v p (k + 1) (t + T) f
theorem Runs.inv {k : Nat} {T : Rat} {f : Nat → Rat} (h : Runs n C v x (k + 1) T f) : ∃ t T' q, T = t + T' ∧ Way n C v x t q ∧ Runs n C v (handP q) k T' f := by
  cases h with
  | s w r => exact ⟨_, _, _, rfl, w, r⟩
theorem Runs.inv0 {T : Rat} {f : Nat → Rat} (h : Runs n C v x 0 T f) : T = 0 := by
  cases h with
  | z => rfl
theorem Runs.snoc {k : Nat} {T : Rat} {f q : Nat → Rat} (h : Runs n C v x k T f) (w : Way n C v f t q) : Runs n C v x (k + 1) (T + t) (handP q) := by
  induction h with
  | z =>
    rw [show (0 : Rat) + t = t + 0 by grind]
    exact .s w .z
  | s w' r ih =>
    have := Runs.s w' (ih w)
    rw [← Rat.add_assoc] at this
    exact this
theorem handP_pl (h : Pl n x) : Pl n (handP x) where
  mono := fun i hi => by
    cases i with
    | zero => exact h.lo 0 (by omega)
    | succ i => exact h.mono i (by omega)
  lo := fun i hi => by
    cases i with
    | zero => exact Rat.le_refl
    | succ i => exact h.lo i (by omega)
  hi := fun i hi => by
    cases i with
    | zero => show (0 : Rat) ≤ 1; decide
    | succ i => exact h.hi i (by omega)
theorem Runs.nonneg {k : Nat} {T : Rat} {f : Nat → Rat} (B : Bri n C v) (h : Runs n C v x k T f) (hp : Pl n x) : 0 ≤ T := by
  induction h with
  | z => exact Rat.le_refl
  | s w r ih =>
    obtain ⟨h1, h2, _⟩ := w.facts B hp
    have := ih (handP_pl h2)
    grind
/-- on by a part of the wait -/
theorem Runs.adv {k : Nat} {T : Rat} {f : Nat → Rat} (B : Bri n C v) (h : Runs n C v x (k + 1) T f) (hp : Pl n x) (hr : x (n - 1) ≠ 1) (w0 : 0 ≤ w) (hw : w ≤ waitT n C (realS (ownS C v x) x n) x) :
    Runs n C v (part n C v x w) (k + 1) (T - w) f ∧ Pl n (part n C v x w) ∧ sumN (pot n C v (part n C v x w)) n ≤ sumN (pot n C v x) n ∧ (w = waitT n C (realS (ownS C v x) x n) x → sumN (pot n C v (part n C v x w)) n < sumN (pot n C v x) n) := by
  obtain ⟨t, T', q, rfl, hway, r⟩ := h.inv
  obtain ⟨h1, h2⟩ := hway.part B hp hr w0 hw
  refine ⟨?_, h2⟩
  rw [show t + T' - w = t - w + T' by grind]
  exact .s h1 r
theorem Two.never (T : Two n m e D C C' v v') : ∀ N P k d x y TS TF f g, 2 * k + d ≤ N → sumN (pot n C v x) n + sumN (pot m C' v' y) m ≤ P → k + d ≤ D → Pl n x → Pl m y → Far n m (e + d) x y →
    Runs n C v x (k + d) TS f → Runs m C' v' y k TF g → TF ≤ TS := by
  intro N
  have nm := T.nm
  have n1 := T.b.n1
  induction N with
  | zero =>
    intro P k d x y TS TF f g hN _ _ hx _ _ hS hF
    obtain ⟨rfl, rfl⟩ : k = 0 ∧ d = 0 := ⟨by omega, by omega⟩
    rw [hF.inv0, hS.inv0]; exact Rat.le_refl
  | succ N ihN =>
    intro P
    induction P with
    | zero =>
      intro k d x y TS TF f g hN hP hD hx hy R hS hF
      cases k with
      | zero => rw [hF.inv0]; exact hS.nonneg T.b hx
      | succ k =>
        by_cases ry : y (m - 1) = 1
        · obtain ⟨t, T', q, rfl, hway, r⟩ := hF.inv
          rcases hway.inv with ⟨_, rfl, rfl⟩ | ⟨h2, _⟩
          · rw [Rat.zero_add]
            refine ihN _ k (d + 1) x (handP q) TS T' f g (by omega) (Nat.le_refl _) (by omega) hx (handP_pl hy) (fun i hi hj => ?_) (by rw [show k + (d + 1) = k + 1 + d by omega]; exact hS) r
            rw [show i + (e + (d + 1)) = i + (e + d) + 1 by omega]
            exact R i hi (by omega)
          · exact absurd ry h2
        · have := pot_dec (T.b'.go hy ry)
          omega
    | succ P ihP =>
      intro k d x y TS TF f g hN hP hD hx hy R hS hF
      cases k with
      | zero => rw [hF.inv0]; exact hS.nonneg T.b hx
      | succ k =>
        by_cases ry : y (m - 1) = 1
        · obtain ⟨t, T', q, rfl, hway, r⟩ := hF.inv
          rcases hway.inv with ⟨_, rfl, rfl⟩ | ⟨h2, _⟩
          · rw [Rat.zero_add]
            refine ihN _ k (d + 1) x (handP q) TS T' f g (by omega) (Nat.le_refl _) (by omega) hx (handP_pl hy) (fun i hi hj => ?_) (by rw [show k + (d + 1) = k + 1 + d by omega]; exact hS) r
            rw [show i + (e + (d + 1)) = i + (e + d) + 1 by omega]
            exact R i hi (by omega)
          · exact absurd ry h2
        · by_cases rx : x (n - 1) = 1
          · cases d with
            | zero =>
              exfalso
              have h1 := R (n - 1) (by omega) (by omega)
              rw [show n - 1 + (e + 0) = m - 1 by omega, rx] at h1
              have h2 := hy.hi (m - 1) (by omega)
              grind
            | succ d =>
              obtain ⟨t, T', q, rfl, hway, r⟩ := Runs.inv (k := k + 1 + d) hS
              rcases hway.inv with ⟨_, rfl, rfl⟩ | ⟨h2, _⟩
              · rw [Rat.zero_add]
                refine ihN _ (k + 1) d (handP q) y T' TF f g (by omega) (Nat.le_refl _) (by omega) (handP_pl hx) hy (fun i hi hj => ?_) r hF
                cases i with
                | zero => exact hy.lo _ (by omega)
                | succ i =>
                  have := R i (by omega) (by omega)
                  rw [show i + 1 + (e + d) = i + (e + (d + 1)) by omega]
                  exact this
              · exact absurd rx h2
          · have G := T.b.go hx rx
            have G' := T.b'.go hy ry
            have hS' : Runs n C v x (k + d + 1) TS f := by rw [show k + d + 1 = k + 1 + d by omega]; exact hS
            by_cases c : waitT n C (realS (ownS C v x) x n) x ≤ waitT m C' (realS (ownS C' v' y) y m) y
            · have w0 := Rat.le_of_lt G.w_pos
              obtain ⟨s1, s2, s3, s4⟩ := hS'.adv T.b hx rx w0 Rat.le_refl
              obtain ⟨f1, f2, f3, f4⟩ := hF.adv T.b' hy ry w0 c
              have s5 := s4 rfl
              have h1 := ihP (k + 1) d _ _ _ _ f g hN (by omega) hD s2 f2 (T.keep (by omega) hx hy rx ry R w0 Rat.le_refl c) (by rw [show k + 1 + d = k + d + 1 by omega]; exact s1) f1
              grind
            · have c' : waitT m C' (realS (ownS C' v' y) y m) y ≤ waitT n C (realS (ownS C v x) x n) x := by grind
              have w0 := Rat.le_of_lt G'.w_pos
              obtain ⟨s1, s2, s3, s4⟩ := hS'.adv T.b hx rx w0 c'
              obtain ⟨f1, f2, f3, f4⟩ := hF.adv T.b' hy ry w0 Rat.le_refl
              have f5 := f4 rfl
              have h1 := ihP (k + 1) d _ _ _ _ f g hN (by omega) hD s2 f2 (T.keep (by omega) hx hy rx ry R w0 c' Rat.le_refl) (by rw [show k + 1 + d = k + d + 1 by omega]; exact s1) f1
              grind
end
end Wk
set_option maxHeartbeats 4000000
/-! M3: the moments of a step, one behind the other; who is held, when, what is lost. -/
namespace Wk
/-- a moment: its begin, its end, the places at its begin -/
structure Mo where
  b : Rat
  e : Rat
  q : Nat → Rat
def momL (n : Nat) (C : List Rat) (v : Nat → Nat → Rat) : Nat → (Nat → Rat) → Rat → List Mo
  | 0, _, _ => []
  | f + 1, p, t => if p (n - 1) = 1 then [] else ⟨t, t + waitT n C (realS (ownS C v p) p n) p, p⟩ :: momL n C v f (goP n C v p) (t + waitT n C (realS (ownS C v p) p n) p)
def moms (n : Nat) (C : List Rat) (v : Nat → Nat → Rat) (p : Nat → Rat) : List Mo := momL n C v (most n C + 1) p 0
section
variable {n : Nat} {C : List Rat} {v : Nat → Nat → Rat}
theorem momL_len : ∀ f p t, (momL n C v f p t).length ≤ f
  | 0, _, _ => Nat.le_refl _
  | f + 1, p, t => by
    unfold momL
    split
    · exact Nat.zero_le _
    · have := momL_len f (goP n C v p) (t + waitT n C (realS (ownS C v p) p n) p)
      simp only [List.length_cons]
      omega
/-- what is true of each moment -/
structure MoOk (n : Nat) (D : Int) (Y : Rat) (x : Mo) : Prop where
  ib : In D x.b
  ie : In D x.e
  iq : ∀ i, i < n → In D (x.q i)
  b0 : 0 ≤ x.b
  be : x.b ≤ x.e
  eY : x.e ≤ Y
  pl : Pl n x.q
  run : x.q (n - 1) ≠ 1
theorem mom_ok (S : Sys n C v) {Z : Int} {Y : Rat} : ∀ m p t (D : Int), (∃ B : Int, D = B * 27720) → 0 < D → Pl n p → sumN (pot n C v p) n ≤ m → (∀ i, i < n → In D (p i)) → In D t → 0 ≤ t → t + 6 * ((m : Int) : Rat) ≤ Y → D * 64 ^ m ≤ Z →
    ∃ A : Int, 1 ≤ A ∧ A * D ≤ Z ∧ ∀ x ∈ momL n C v (m + 1) p t, MoOk n (A * D) Y x
  | 0, p, t, D, hB, d0, hp, hm, ip, it, t0, tY, dZ => by
    by_cases hr : p (n - 1) = 1
    · refine ⟨1, by decide, by simpa using dZ, fun x hx => ?_⟩
      rw [momL, if_pos hr] at hx
      cases hx
    · have := pot_dec (S.go hp hr)
      omega
  | m + 1, p, t, D, hB, d0, hp, hm, ip, it, t0, tY, dZ => by
    have p64 := pow64_pos (m + 1)
    by_cases hr : p (n - 1) = 1
    · refine ⟨1, by decide, ?_, fun x hx => ?_⟩
      · have := Int.mul_le_mul_of_nonneg_left p64 (Int.le_of_lt d0)
        omega
      · rw [momL, if_pos hr] at hx
        cases hx
    · have G := S.go hp hr
      have hd := pot_dec G
      obtain ⟨B, hB⟩ := hB
      obtain ⟨A1, a1, a60, aw, ap⟩ := moment_in S.v6 G (fun c hc => by rw [hB]; exact (S.cB c hc).mulD B) ip
      have w0 := G.w_pos
      have w6 := wait_le S.v6 G
      have e1 : ((m + 1 : Nat) : Int) = (m : Int) + 1 := by omega
      have tY' : t + waitT n C (realS (ownS C v p) p n) p + 6 * ((m : Int) : Rat) ≤ Y := by
        rw [e1, Rat.intCast_add] at tY
        have : (((1 : Int)) : Rat) = 1 := rfl
        rw [this] at tY
        grind
      have m0 : (0 : Rat) ≤ ((m : Int) : Rat) := Rat.intCast_nonneg.mpr (by omega)
      have D1 : A1 * D * 64 ^ m ≤ Z := by
        refine Int.le_trans ?_ dZ
        have e : D * 64 ^ (m + 1) = 64 * (D * 64 ^ m) := by rw [Int.pow_succ]; grind
        rw [e, Int.mul_assoc]
        exact Int.mul_le_mul_of_nonneg_right (by omega) (Int.mul_nonneg (by omega) (Int.pow_nonneg (by decide)))
      obtain ⟨A2, a2, aZ, hA⟩ := mom_ok S m (goP n C v p) (t + waitT n C (realS (ownS C v p) p n) p) (A1 * D) ⟨A1 * B, by rw [hB, Int.mul_assoc]⟩ (Int.mul_pos (by omega) d0) G.pl' (by show sumN (pot n C v (goP n C v p)) n ≤ m; omega) ap ((it.mulD A1).add aw) (by grind) tY' D1
      refine ⟨A2 * A1, ?_, by rw [Int.mul_assoc]; exact aZ, fun x hx => ?_⟩
      · have := Int.mul_le_mul a2 a1 (by decide) (by omega)
        omega
      · rw [Int.mul_assoc]
        rw [momL, if_neg hr] at hx
        rcases List.mem_cons.mp hx with rfl | hx
        · exact ⟨(it.mulD A1).mulD A2, ((it.mulD A1).add aw).mulD A2, fun i hi => ((ip i hi).mulD A1).mulD A2, t0, by show t ≤ t + _; grind, by show t + _ ≤ Y; grind, hp, hr⟩
        · exact hA x hx
/-! ### held spans -/
def heldB (n : Nat) (C : List Rat) (v : Nat → Nat → Rat) (i : Nat) (q : Nat → Rat) : Bool := decide (realS (ownS C v q) q n i < ownS C v q i)
def spStep (fs : List (Rat × Rat)) (b e : Rat) : List (Rat × Rat) := match fs.getLast? with
  | some l => if l.2 = b then fs.dropLast ++ [(l.1, e)] else fs ++ [(b, e)]
  | none => [(b, e)]
def spL (n : Nat) (C : List Rat) (v : Nat → Nat → Rat) (i : Nat) : List Mo → List (Rat × Rat) → List (Rat × Rat)
  | [], fs => fs
  | m :: r, fs => spL n C v i r (if heldB n C v i m.q = true then spStep fs m.b m.e else fs)
theorem spL_app {i : Nat} : ∀ (L : List Mo) (m : Mo) (fs : List (Rat × Rat)), spL n C v i (L ++ [m]) fs = if heldB n C v i m.q = true then spStep (spL n C v i L fs) m.b m.e else spL n C v i L fs
  | [], m, fs => rfl
  | x :: L, m, fs => spL_app L m _
structure SpOk (D : Int) (Y : Rat) (x : Rat × Rat) : Prop where
  ib : In D x.1
  ie : In D x.2
  b0 : 0 ≤ x.1
  be : x.1 ≤ x.2
  eY : x.2 ≤ Y
theorem spStep_ok {D : Int} {Y : Rat} {fs : List (Rat × Rat)} {b e : Rat} (h : ∀ x ∈ fs, SpOk D Y x) (hx : SpOk D Y (b, e)) : (∀ x ∈ spStep fs b e, SpOk D Y x) ∧ (spStep fs b e).length ≤ fs.length + 1 := by
  unfold spStep
  cases hl : fs.getLast? with
  | none => exact ⟨fun x hm => by rw [List.mem_singleton.mp hm]; exact hx, by simp⟩
  | some l =>
    have hm := List.mem_of_getLast? hl
    have hlo := h l hm
    simp only
    split
    · rename_i he
      refine ⟨fun x hx' => ?_, by simp⟩
      rcases List.mem_append.mp hx' with hx' | hx'
      · exact h x (List.dropLast_subset fs hx')
      · rw [List.mem_singleton.mp hx']
        refine ⟨hlo.ib, hx.ie, hlo.b0, ?_, hx.eY⟩
        have := hlo.be
        have := hx.be
        show l.1 ≤ e
        have : b ≤ e := hx.be
        grind
    · refine ⟨fun x hx' => ?_, by simp⟩
      rcases List.mem_append.mp hx' with hx' | hx'
      · exact h x hx'
      · rw [List.mem_singleton.mp hx']; exact hx
theorem spL_ok {D : Int} {Y : Rat} {i : Nat} : ∀ (L : List Mo) (fs : List (Rat × Rat)), (∀ m ∈ L, MoOk n D Y m) → (∀ x ∈ fs, SpOk D Y x) → (∀ x ∈ spL n C v i L fs, SpOk D Y x) ∧ (spL n C v i L fs).length ≤ fs.length + L.length
  | [], fs, _, h => ⟨h, by simp [spL]⟩
  | m :: L, fs, hL, h => by
    have hm := hL m List.mem_cons_self
    obtain ⟨s1, s2⟩ := spStep_ok (b := m.b) (e := m.e) h ⟨hm.ib, hm.ie, hm.b0, hm.be, hm.eY⟩
    have hL2 : ∀ m ∈ L, MoOk n D Y m := fun x hx => hL x (List.mem_cons_of_mem _ hx)
    unfold spL
    split
    · obtain ⟨i1, i2⟩ := spL_ok (i := i) L _ hL2 s1
      refine ⟨i1, ?_⟩
      simp only [List.length_cons]
      omega
    · obtain ⟨i1, i2⟩ := spL_ok (i := i) L fs hL2 h
      refine ⟨i1, ?_⟩
      simp only [List.length_cons]
      omega
/-- in a rising brigade all go as alone -/
theorem rising_real {p : Nat → Rat} (hR : ∀ i, i + 1 < n → ∀ j, j < C.length + 1 → v i j ≤ v (i + 1) j) : ∀ d i, i + d + 1 = n → realS (ownS C v p) p n i = ownS C v p i
  | 0, i, e => by
    have : i = n - 1 := by omega
    subst this
    exact real_last
  | d + 1, i, e => by
    have ih := rising_real (p := p) hR d (i + 1) (by omega)
    rw [real_up (by omega), if_neg]
    rintro ⟨h1, h2⟩
    rw [ih] at h2
    have h3 := hR i (by omega) (piece C (p i)) (by have := @piece_le C (p i); omega)
    have h4 : ownS C v p (i + 1) = v (i + 1) (piece C (p i)) := by unfold ownS; rw [← h1]
    rw [h4] at h2
    exact Rat.not_lt.mpr h3 h2
theorem rising_sp {i : Nat} (hi : i < n) (hR : ∀ i, i + 1 < n → ∀ j, j < C.length + 1 → v i j ≤ v (i + 1) j) : ∀ L : List Mo, spL n C v i L [] = []
  | [] => rfl
  | m :: L => by
    have h : heldB n C v i m.q = false := by
      unfold heldB
      rw [rising_real hR (n - 1 - i) i (by omega)]
      exact decide_eq_false Rat.lt_irrefl
    unfold spL
    rw [h]
    exact rising_sp hi hR L
/-! ### what is lost -/
def lossL (n : Nat) (C : List Rat) (v : Nat → Nat → Rat) (i : Nat) : List Mo → Rat
  | [] => 0
  | m :: r => (ownS C v m.q i - realS (ownS C v m.q) m.q n i) * (m.e - m.b) + lossL n C v i r
theorem lossL_app {i : Nat} : ∀ (L : List Mo) (m : Mo), lossL n C v i (L ++ [m]) = lossL n C v i L + (ownS C v m.q i - realS (ownS C v m.q) m.q n i) * (m.e - m.b)
  | [], m => by simp only [List.nil_append, lossL]; grind
  | x :: L, m => by
    have := lossL_app (i := i) L m
    simp only [List.cons_append, lossL, this]
    grind
theorem loss_walk {i : Nat} : ∀ f p t, lossL n [] v i (momL n [] v f p t) = v i 0 * ((walk n [] v f p t).1 - t) - ((walk n [] v f p t).2 i - p i)
  | 0, p, t => by
    simp only [momL, walk, lossL]
    grind
  | f + 1, p, t => by
    by_cases hr : p (n - 1) = 1
    · rw [momL, walk, if_pos hr, if_pos hr]
      simp only [lossL]
      grind
    · rw [momL, walk, if_neg hr, if_neg hr]
      have ih := loss_walk (i := i) f (goP n [] v p) (t + waitT n [] (realS (ownS [] v p) p n) p)
      generalize walk n [] v f (goP n [] v p) (t + waitT n [] (realS (ownS [] v p) p n) p) = W at *
      simp only [lossL, ih]
      have e1 : ownS [] v p i = v i 0 := rfl
      have e2 : goP n [] v p i = p i + realS (ownS [] v p) p n i * waitT n [] (realS (ownS [] v p) p n) p := rfl
      rw [e1, e2]
      grind
end
end Wk
set_option maxHeartbeats 8000000
/-! K54: the defs that the law reaches, as terms -/
namespace K54
open PySem L2 Bk
def top (i : Nat) : Stmt := PySem.Challenge.pw_bucketsalong_k54_who_is_held_and_when.main.body.getD i (.Pass ⟨0, 0, 0, 0⟩)
def N_law : List Str := ["script", "pool", "turn", "brigade", "many", "places", "text", "spans", "i", "due", "own", "long", "away", "begin", "end", "where", "speeds", "owns"]
def l_law_0 : Ss :=
(.cons (.setI (.var 12) (.var 8) (.call "_law_add" (.cons (.idx (.var 12) (.var 8)) (.cons (.call "_law_mul" (.cons (.call "_law_sub" (.cons (.idx (.var 17) (.var 8)) (.cons (.idx (.var 16) (.var 8)) .nil))) (.cons (.call "_law_sub" (.cons (.var 14) (.cons (.var 13) .nil))) .nil))) .nil))))
.nil)
def l_law_1 : Ss :=
(.cons (.for_ (.nm 8) (.rng1 (.var 4)) l_law_0)
.nil)
def l_law_2 : Ss :=
(.cons (.asg (.nm 3) (.call "_law_brigade" (.cons (.var 1) (.cons (.cst (.int 1)) (.cons (.cst (.int 5)) (.cons (.idx (.lst (.cons (.cst (.int 0)) (.cons (.cst (.int 2)) (.cons (.cst (.int 2)) (.cons (.cst (.int 1)) (.cons (.cst (.int 0)) .nil)))))) (.var 2)) .nil))))))
(.cons (.asg (.nm 4) (.prim .len (.cons (.idx (.var 3) (.cst (.int 1))) .nil)))
(.cons (.asg (.nm 5) (.call "_law_places" (.cons (.var 1) (.cons (.var 4) .nil))))
(.cons (.asg (.pr (.nm 6) (.nm 7)) (.tup (.cons (.prim .repr (.cons (.lst (.cons (.var 3) (.cons (.var 5) .nil))) .nil)) (.cons (.idx (.call "_law_spans" (.cons (.var 3) (.cons (.var 5) .nil))) (.cst (.int 0))) .nil))))
(.cons (.asg (.nm 9) (.prim .tuple (.cons (.lc (.call "_law_held" (.cons (.var 7) (.cons (.var 8) .nil))) (.nm 8) (.rng1 (.var 4)) .none [8]) .nil)))
(.cons (.ife (.cmp .ne (.prim .repr (.cons (.lst (.cons (.call "held_spans" (.cons (.var 3) (.cons (.var 5) .nil))) (.cons (.callK "held_spans" .nil ["places", "brigade"] (.cons (.var 5) (.cons (.var 3) .nil))) .nil))) .nil)) (.prim .repr (.cons (.lst (.cons (.var 9) (.cons (.var 9) .nil))) .nil)))
(.cons (.ret (.cst (.bl false)))
.nil)
.nil)
(.cons (.asg (.nm 11) (.prim .tuple (.cons (.lc (.call "_law_long" (.cons (.var 10) .nil)) (.nm 10) (.seq (.var 9)) .none [10]) .nil)))
(.cons (.ife (.cmp .ne (.prim .repr (.cons (.lst (.cons (.call "waited" (.cons (.var 3) (.cons (.var 5) .nil))) (.cons (.callK "waited" .nil ["places", "brigade"] (.cons (.var 5) (.cons (.var 3) .nil))) .nil))) .nil)) (.prim .repr (.cons (.lst (.cons (.var 11) (.cons (.var 11) .nil))) .nil)))
(.cons (.ret (.cst (.bl false)))
.nil)
.nil)
(.cons (.ife (.and (.call "is_rising" (.cons (.var 3) .nil)) (.cmp .ne (.lc (.var 10) (.nm 10) (.seq (.var 9)) (.some (.cmp .ne (.var 10) (.tup .nil))) [10]) (.lst .nil)))
(.cons (.ret (.cst (.bl false)))
.nil)
.nil)
(.cons (.ife (.cmp .eq (.idx (.var 3) (.cst (.int 0))) (.tup .nil))
(.cons (.asg (.nm 12) (.bin .mul (.lst (.cons (.tup (.cons (.cst (.int 0)) (.cons (.cst (.int 1)) .nil))) .nil)) (.var 4)))
(.cons (.for_ (.qn (.nm 13) (.nm 14) (.nm 15) (.nm 16) (.nm 17)) (.seq (.var 7)) l_law_1)
(.cons (.ife (.cmp .ne (.call "lost" (.cons (.var 3) (.cons (.var 5) .nil))) (.prim .tuple (.cons (.var 12) .nil)))
(.cons (.ret (.cst (.bl false)))
.nil)
.nil)
.nil)))
.nil)
(.cons (.ife (.cmp .ne (.prim .repr (.cons (.lst (.cons (.var 3) (.cons (.var 5) .nil))) .nil)) (.var 6))
(.cons (.ret (.cst (.bl false)))
.nil)
.nil)
.nil)))))))))))
def d_law : Def := { name := "law", ps := ["script"], n := 18, body :=
(.cons (.asg (.nm 1) (.call "_law_pool" (.cons (.var 0) (.cons (.cst (.int 300)) .nil))))
(.cons (.for_ (.nm 2) (.rng1 (.cst (.int 5))) l_law_2)
(.cons (.ret (.cst (.bl true)))
.nil))) }
def N__law_pool : List Str := ["script", "many", "pool", "seed", "cell", "left", "k"]
def l__law_pool_0 : Ss :=
(.cons (.ife (.cmp .gt (.var 5) (.cst (.int 0)))
(.cons (.expr (.meth .append (.var 2) (.cons (.bin .mod (.prim .int (.cons (.var 5) .nil)) (.cst (.int 1000))) .nil)))
(.cons (.asg (.nm 5) (.bin .fdiv (.var 5) (.cst (.int 1000))))
.nil))
.nil)
.nil)
def l__law_pool_1 : Ss :=
(.cons (.asg (.nm 5) (.prim .abs (.cons (.prim .int (.cons (.var 4) .nil)) .nil)))
(.cons (.asg (.nm 3) (.bin .mod (.bin .add (.bin .add (.bin .add (.bin .mul (.var 3) (.cst (.int 48271))) (.bin .mod (.prim .int (.cons (.var 5) .nil)) (.cst (.int 2147483629)))) (.bin .mul (.cst (.int 7)) (.prim .len (.cons (.var 2) .nil)))) (.prim .int (.cons (.cmp .lt (.var 4) (.cst (.int 0))) .nil))) (.cst (.int 2147483647))))
(.cons (.ife (.cmp .ge (.var 5) (.bin .pow (.cst (.int 10)) (.cst (.int 18))))
(.cons (.for_ (.nm 6) (.rng1 (.cst (.int 60))) l__law_pool_0)
.nil)
.nil)
.nil)))
def l__law_pool_2 : Ss :=
(.cons (.asg (.nm 3) (.bin .mod (.bin .add (.bin .add (.bin .mul (.var 3) (.cst (.int 69621))) (.cst (.int 12347))) (.var 6)) (.cst (.int 2147483647))))
(.cons (.expr (.meth .append (.var 2) (.cons (.bin .mod (.bin .fdiv (.bin .mod (.prim .int (.cons (.bin .mul (.var 3) (.bin .add (.bin .add (.var 3) (.bin .mul (.cst (.int 2)) (.var 6))) (.cst (.int 1)))) .nil)) (.cst (.int 2147483629))) (.cst (.int 1009))) (.cst (.int 1000))) .nil)))
.nil))
def d__law_pool : Def := { name := "_law_pool", ps := ["script", "many"], n := 7, body :=
(.cons (.asg (.nm 2) (.lst .nil))
(.cons (.asg (.nm 3) (.cst (.int 32214)))
(.cons (.for_ (.nm 4) (.seq (.slc (.var 0) .none (.some (.cst (.int 63))))) l__law_pool_1)
(.cons (.for_ (.nm 6) (.rng1 (.var 1)) l__law_pool_2)
(.cons (.ret (.rev (.var 2)))
.nil))))) }
def N__law_brigade : List Str := ["pool", "least", "most", "cuts", "own", "many", "person", "piece"]
def d__law_brigade : Def := { name := "_law_brigade", ps := ["pool", "least", "most", "cuts"], n := 8, body :=
(.cons (.asg (.nm 4) (.call "_law_twelfths" (.cons (.var 0) (.cons (.var 3) (.cons (.cst (.int 1)) (.cons (.cst (.int 11)) .nil))))))
(.cons (.asg (.nm 5) (.bin .add (.var 1) (.call "_law_take" (.cons (.var 0) (.cons (.bin .add (.bin .sub (.var 2) (.var 1)) (.cst (.int 1))) .nil)))))
(.cons (.ret (.tup (.cons (.var 4) (.cons (.prim .tuple (.cons (.lc (.prim .tuple (.cons (.lc (.call "_law_speed" (.cons (.var 0) .nil)) (.nm 7) (.rng1 (.bin .add (.prim .len (.cons (.var 4) .nil)) (.cst (.int 1)))) .none [7]) .nil)) (.nm 6) (.rng1 (.var 5)) .none [6]) .nil)) .nil))))
.nil))) }
def N__law_places : List Str := ["pool", "many", "k", "numbers", "number"]
def d__law_places : Def := { name := "_law_places", ps := ["pool", "many"], n := 5, body :=
(.cons (.asg (.nm 3) (.prim .sorted (.cons (.lc (.call "_law_take" (.cons (.var 0) (.cons (.cst (.int 13)) .nil))) (.nm 2) (.rng1 (.var 1)) .none [2]) .nil)))
(.cons (.ret (.prim .tuple (.cons (.lc (.call "_law_make" (.cons (.var 4) (.cons (.cst (.int 12)) .nil))) (.nm 4) (.seq (.var 3)) .none [4]) .nil)))
.nil)) }
def N__law_spans : List Str := ["brigade", "places", "time", "found", "wait", "speeds", "end", "own", "real"]
def l__law_spans_0 : Ss :=
(.cons (.asg (.pr (.nm 4) (.nm 5)) (.call "_law_moment" (.cons (.var 0) (.cons (.var 1) .nil))))
(.cons (.asg (.nm 6) (.call "_law_add" (.cons (.var 2) (.cons (.var 4) .nil))))
(.cons (.expr (.meth .append (.var 3) (.cons (.tup (.cons (.var 2) (.cons (.var 6) (.cons (.var 1) (.cons (.var 5) (.cons (.lc (.var 7) (.pr (.nm 7) (.nm 8)) (.seq (.call "_law_speeds" (.cons (.var 0) (.cons (.var 1) .nil)))) .none [7, 8]) .nil)))))) .nil)))
(.cons (.asg (.pr (.nm 1) (.nm 2)) (.tup (.cons (.call "_law_moved" (.cons (.var 1) (.cons (.var 5) (.cons (.var 4) .nil)))) (.cons (.var 6) .nil))))
.nil))))
def d__law_spans : Def := { name := "_law_spans", ps := ["brigade", "places"], n := 9, body :=
(.cons (.asg (.pr (.nm 2) (.nm 3)) (.tup (.cons (.tup (.cons (.cst (.int 0)) (.cons (.cst (.int 1)) .nil))) (.cons (.lst .nil) .nil))))
(.cons (.while_ (.cmp .ne (.idx (.var 1) (.neg (.cst (.int 1)))) (.tup (.cons (.cst (.int 1)) (.cons (.cst (.int 1)) .nil)))) l__law_spans_0)
(.cons (.ret (.tup (.cons (.var 3) (.cons (.var 1) .nil))))
.nil))) }
def N__law_held : List Str := ["spans", "i", "found", "begin", "end", "places", "speeds", "owns"]
def l__law_held_0 : Ss :=
(.cons (.ife (.call "_law_less" (.cons (.idx (.var 6) (.var 1)) (.cons (.idx (.var 7) (.var 1)) .nil)))
(.cons (.ife (.and (.cmp .ne (.var 2) (.lst .nil)) (.cmp .eq (.idx (.idx (.var 2) (.neg (.cst (.int 1)))) (.cst (.int 1))) (.var 3)))
(.cons (.setI (.var 2) (.neg (.cst (.int 1))) (.tup (.cons (.idx (.idx (.var 2) (.neg (.cst (.int 1)))) (.cst (.int 0))) (.cons (.var 4) .nil))))
.nil)
(.cons (.expr (.meth .append (.var 2) (.cons (.tup (.cons (.var 3) (.cons (.var 4) .nil))) .nil)))
.nil))
.nil)
.nil)
.nil)
def d__law_held : Def := { name := "_law_held", ps := ["spans", "i"], n := 8, body :=
(.cons (.asg (.nm 2) (.lst .nil))
(.cons (.for_ (.qn (.nm 3) (.nm 4) (.nm 5) (.nm 6) (.nm 7)) (.seq (.var 0)) l__law_held_0)
(.cons (.ret (.prim .tuple (.cons (.var 2) .nil)))
.nil))) }
def N_held_spans : List Str := ["brigade", "places", "moments", "index"]
def d_held_spans : Def := { name := "held_spans", ps := ["brigade", "places"], n := 4, body :=
(.cons (.expr (.call "need_both" (.cons (.var 0) (.cons (.var 1) .nil))))
(.cons (.asg (.nm 2) (.call "moments_of" (.cons (.var 0) (.cons (.var 1) .nil))))
(.cons (.ret (.prim .tuple (.cons (.lc (.call "spans_of" (.cons (.var 2) (.cons (.var 3) .nil))) (.nm 3) (.rng1 (.prim .len (.cons (.var 1) .nil))) .none [3]) .nil)))
.nil))) }
def N__law_long : List Str := ["spans", "found", "begin", "end"]
def l__law_long_0 : Ss :=
(.cons (.asg (.nm 1) (.call "_law_add" (.cons (.var 1) (.cons (.call "_law_sub" (.cons (.var 3) (.cons (.var 2) .nil))) .nil))))
.nil)
def d__law_long : Def := { name := "_law_long", ps := ["spans"], n := 4, body :=
(.cons (.asg (.nm 1) (.tup (.cons (.cst (.int 0)) (.cons (.cst (.int 1)) .nil))))
(.cons (.for_ (.pr (.nm 2) (.nm 3)) (.seq (.var 0)) l__law_long_0)
(.cons (.ret (.var 1))
.nil))) }
def N_waited : List Str := ["brigade", "places", "found", "spans", "whole", "begin", "end"]
def l_waited_0 : Ss :=
(.cons (.asg (.nm 4) (.call "plus" (.cons (.var 4) (.cons (.call "less" (.cons (.var 6) (.cons (.var 5) .nil))) .nil))))
.nil)
def l_waited_1 : Ss :=
(.cons (.asg (.nm 4) (.glob "ZERO"))
(.cons (.for_ (.pr (.nm 5) (.nm 6)) (.seq (.var 3)) l_waited_0)
(.cons (.expr (.meth .append (.var 2) (.cons (.var 4) .nil)))
.nil)))
def d_waited : Def := { name := "waited", ps := ["brigade", "places"], n := 7, body :=
(.cons (.asg (.nm 2) (.lst .nil))
(.cons (.for_ (.nm 3) (.seq (.call "held_spans" (.cons (.var 0) (.cons (.var 1) .nil)))) l_waited_1)
(.cons (.ret (.prim .tuple (.cons (.var 2) .nil)))
.nil))) }
def N_is_rising : List Str := ["brigade"]
def d_is_rising : Def := { name := "is_rising", ps := ["brigade"], n := 1, body :=
(.cons (.expr (.call "need_brigade" (.cons (.var 0) .nil)))
(.cons (.ret (.call "goes_rising" (.cons (.idx (.var 0) (.cst (.int 1))) .nil)))
.nil)) }
def N__law_add : List Str := ["x", "y"]
def d__law_add : Def := { name := "_law_add", ps := ["x", "y"], n := 2, body :=
(.cons (.ret (.call "_law_make" (.cons (.bin .add (.bin .mul (.idx (.var 0) (.cst (.int 0))) (.idx (.var 1) (.cst (.int 1)))) (.bin .mul (.idx (.var 1) (.cst (.int 0))) (.idx (.var 0) (.cst (.int 1))))) (.cons (.bin .mul (.idx (.var 0) (.cst (.int 1))) (.idx (.var 1) (.cst (.int 1)))) .nil))))
.nil) }
def N__law_mul : List Str := ["x", "y"]
def d__law_mul : Def := { name := "_law_mul", ps := ["x", "y"], n := 2, body :=
(.cons (.ret (.call "_law_make" (.cons (.bin .mul (.idx (.var 0) (.cst (.int 0))) (.idx (.var 1) (.cst (.int 0)))) (.cons (.bin .mul (.idx (.var 0) (.cst (.int 1))) (.idx (.var 1) (.cst (.int 1)))) .nil))))
.nil) }
def N__law_sub : List Str := ["x", "y"]
def d__law_sub : Def := { name := "_law_sub", ps := ["x", "y"], n := 2, body :=
(.cons (.ret (.call "_law_make" (.cons (.bin .sub (.bin .mul (.idx (.var 0) (.cst (.int 0))) (.idx (.var 1) (.cst (.int 1)))) (.bin .mul (.idx (.var 1) (.cst (.int 0))) (.idx (.var 0) (.cst (.int 1))))) (.cons (.bin .mul (.idx (.var 0) (.cst (.int 1))) (.idx (.var 1) (.cst (.int 1)))) .nil))))
.nil) }
def N_lost : List Str := ["brigade", "places", "time", "ends", "found", "speeds", "place", "end"]
def l_lost_0 : Ss :=
(.cons (.expr (.meth .append (.var 4) (.cons (.call "less" (.cons (.call "times" (.cons (.idx (.var 5) (.cst (.int 0))) (.cons (.var 2) .nil))) (.cons (.call "less" (.cons (.var 7) (.cons (.var 6) .nil))) .nil))) .nil)))
.nil)
def d_lost : Def := { name := "lost", ps := ["brigade", "places"], n := 8, body :=
(.cons (.expr (.call "need_brigade" (.cons (.var 0) .nil)))
(.cons (.ife (.cmp .ne (.idx (.var 0) (.cst (.int 0))) (.tup .nil))
(.cons (.raise "InvalidBrigade" (.call "anew" (.cons (.var 0) .nil)))
.nil)
.nil)
(.cons (.expr (.call "need_places" (.cons (.var 0) (.cons (.var 1) .nil))))
(.cons (.asg (.pr (.nm 2) (.nm 3)) (.call "stepped" (.cons (.var 0) (.cons (.var 1) .nil))))
(.cons (.asg (.nm 4) (.lst .nil))
(.cons (.for_ (.tr (.nm 5) (.nm 6) (.nm 7)) (.zip3 (.idx (.var 0) (.cst (.int 1))) (.var 1) (.var 3)) l_lost_0)
(.cons (.ret (.prim .tuple (.cons (.var 4) .nil)))
.nil))))))) }
def N__law_twelfths : List Str := ["pool", "most", "low", "high", "found", "k", "number"]
def l__law_twelfths_0 : Ss :=
(.cons (.setI (.var 4) (.bin .add (.var 2) (.call "_law_take" (.cons (.var 0) (.cons (.bin .add (.bin .sub (.var 3) (.var 2)) (.cst (.int 1))) .nil)))) (.cst (.bl true)))
.nil)
def d__law_twelfths : Def := { name := "_law_twelfths", ps := ["pool", "most", "low", "high"], n := 7, body :=
(.cons (.asg (.nm 4) (.dct false))
(.cons (.for_ (.nm 5) (.rng1 (.call "_law_take" (.cons (.var 0) (.cons (.bin .add (.var 1) (.cst (.int 1))) .nil)))) l__law_twelfths_0)
(.cons (.ret (.prim .tuple (.cons (.lc (.call "_law_make" (.cons (.var 6) (.cons (.cst (.int 12)) .nil))) (.nm 6) (.seq (.prim .sorted (.cons (.var 4) .nil))) .none [6]) .nil)))
.nil))) }
def N__law_take : List Str := ["pool", "limit"]
def d__law_take : Def := { name := "_law_take", ps := ["pool", "limit"], n := 2, body :=
(.cons (.ife (.cmp .eq (.var 0) (.lst .nil))
(.cons (.ret (.cst (.int 0)))
.nil)
.nil)
(.cons (.ret (.bin .mod (.prim .int (.cons (.meth .pop (.var 0) .nil) .nil)) (.var 1)))
.nil)) }
def N__law_speed : List Str := ["pool"]
def d__law_speed : Def := { name := "_law_speed", ps := ["pool"], n := 1, body :=
(.cons (.ret (.call "_law_make" (.cons (.bin .add (.cst (.int 1)) (.call "_law_take" (.cons (.var 0) (.cons (.cst (.int 6)) .nil)))) (.cons (.bin .add (.cst (.int 1)) (.call "_law_take" (.cons (.var 0) (.cons (.cst (.int 3)) .nil)))) .nil))))
.nil) }
def N__law_make : List Str := ["above", "below", "one", "other"]
def l__law_make_0 : Ss :=
(.cons (.asg (.pr (.nm 2) (.nm 3)) (.tup (.cons (.var 3) (.cons (.bin .mod (.prim .int (.cons (.var 2) .nil)) (.var 3)) .nil))))
.nil)
def d__law_make : Def := { name := "_law_make", ps := ["above", "below"], n := 4, body :=
(.cons (.ife (.cmp .lt (.var 1) (.cst (.int 0)))
(.cons (.asg (.pr (.nm 0) (.nm 1)) (.tup (.cons (.neg (.var 0)) (.cons (.neg (.var 1)) .nil))))
.nil)
.nil)
(.cons (.asg (.pr (.nm 2) (.nm 3)) (.tup (.cons (.prim .abs (.cons (.var 0) .nil)) (.cons (.var 1) .nil))))
(.cons (.while_ (.cmp .ne (.var 3) (.cst (.int 0))) l__law_make_0)
(.cons (.ret (.tup (.cons (.bin .fdiv (.var 0) (.var 2)) (.cons (.bin .fdiv (.var 1) (.var 2)) .nil))))
.nil)))) }
def N__law_moment : List Str := ["brigade", "places", "cuts", "found", "own", "real", "speeds", "i", "place", "cut", "ends"]
def l__law_moment_0 : Ss :=
(.cons (.asg (.nm 10) (.bin .add (.lc (.var 9) (.nm 9) (.seq (.var 2)) (.some (.call "_law_less" (.cons (.var 8) (.cons (.var 9) .nil)))) [9]) (.lst (.cons (.tup (.cons (.cst (.int 1)) (.cons (.cst (.int 1)) .nil))) .nil))))
(.cons (.ife (.cmp .ne (.var 8) (.tup (.cons (.cst (.int 1)) (.cons (.cst (.int 1)) .nil))))
(.cons (.expr (.meth .append (.var 3) (.cons (.call "_law_div" (.cons (.call "_law_sub" (.cons (.idx (.var 10) (.cst (.int 0))) (.cons (.var 8) .nil))) (.cons (.idx (.var 6) (.var 7)) .nil))) .nil)))
.nil)
.nil)
(.cons (.ife (.and (.cmp .lt (.bin .add (.var 7) (.cst (.int 1))) (.prim .len (.cons (.var 1) .nil))) (.and (.call "_law_less" (.cons (.var 8) (.cons (.idx (.var 1) (.bin .add (.var 7) (.cst (.int 1)))) .nil))) (.call "_law_less" (.cons (.idx (.var 6) (.bin .add (.var 7) (.cst (.int 1)))) (.cons (.idx (.var 6) (.var 7)) .nil)))))
(.cons (.expr (.meth .append (.var 3) (.cons (.call "_law_div" (.cons (.call "_law_sub" (.cons (.idx (.var 1) (.bin .add (.var 7) (.cst (.int 1)))) (.cons (.var 8) .nil))) (.cons (.call "_law_sub" (.cons (.idx (.var 6) (.var 7)) (.cons (.idx (.var 6) (.bin .add (.var 7) (.cst (.int 1)))) .nil))) .nil))) .nil)))
.nil)
.nil)
.nil)))
def d__law_moment : Def := { name := "_law_moment", ps := ["brigade", "places"], n := 11, body :=
(.cons (.asg (.pr (.nm 2) (.nm 3)) (.tup (.cons (.idx (.var 0) (.cst (.int 0))) (.cons (.lst .nil) .nil))))
(.cons (.asg (.nm 6) (.lc (.var 5) (.pr (.nm 4) (.nm 5)) (.seq (.call "_law_speeds" (.cons (.var 0) (.cons (.var 1) .nil)))) .none [4, 5]))
(.cons (.for_ (.pr (.nm 7) (.nm 8)) (.enum (.var 1)) l__law_moment_0)
(.cons (.ret (.tup (.cons (.call "_law_least" (.cons (.var 3) .nil)) (.cons (.var 6) .nil))))
.nil)))) }
def N__law_speeds : List Str := ["brigade", "places", "cuts", "people", "found", "i", "own", "real"]
def l__law_speeds_0 : Ss :=
(.cons (.asg (.nm 6) (.idx (.idx (.var 3) (.var 5)) (.call "_law_piece" (.cons (.var 2) (.cons (.idx (.var 1) (.var 5)) .nil)))))
(.cons (.asg (.nm 7) (.var 6))
(.cons (.ife (.and (.cmp .ne (.var 4) (.lst .nil)) (.cmp .eq (.idx (.var 1) (.var 5)) (.idx (.var 1) (.bin .add (.var 5) (.cst (.int 1))))))
(.cons (.asg (.nm 7) (.call "_law_least" (.cons (.lst (.cons (.var 6) (.cons (.idx (.idx (.var 4) (.cst (.int 0))) (.cst (.int 1))) .nil))) .nil)))
.nil)
.nil)
(.cons (.asg (.nm 4) (.bin .add (.lst (.cons (.tup (.cons (.var 6) (.cons (.var 7) .nil))) .nil)) (.var 4)))
.nil))))
def d__law_speeds : Def := { name := "_law_speeds", ps := ["brigade", "places"], n := 8, body :=
(.cons (.asg (.pr (.nm 2) (.nm 3)) (.var 0))
(.cons (.asg (.nm 4) (.lst .nil))
(.cons (.for_ (.nm 5) (.rng3 (.bin .sub (.prim .len (.cons (.var 1) .nil)) (.cst (.int 1))) (.neg (.cst (.int 1))) (.neg (.cst (.int 1)))) l__law_speeds_0)
(.cons (.ret (.var 4))
.nil)))) }
def N__law_moved : List Str := ["places", "speeds", "time", "place", "speed"]
def d__law_moved : Def := { name := "_law_moved", ps := ["places", "speeds", "time"], n := 5, body :=
(.cons (.ret (.prim .tuple (.cons (.lc (.call "_law_add" (.cons (.var 3) (.cons (.call "_law_mul" (.cons (.var 4) (.cons (.var 2) .nil))) .nil))) (.pr (.nm 3) (.nm 4)) (.zip (.var 0) (.var 1)) .none [3, 4]) .nil)))
.nil) }
def N__law_less : List Str := ["x", "y"]
def d__law_less : Def := { name := "_law_less", ps := ["x", "y"], n := 2, body :=
(.cons (.ret (.cmp .lt (.bin .mul (.idx (.var 0) (.cst (.int 0))) (.idx (.var 1) (.cst (.int 1)))) (.bin .mul (.idx (.var 1) (.cst (.int 0))) (.idx (.var 0) (.cst (.int 1))))))
.nil) }
def N_need_both : List Str := ["brigade", "places"]
def d_need_both : Def := { name := "need_both", ps := ["brigade", "places"], n := 2, body :=
(.cons (.expr (.call "need_brigade" (.cons (.var 0) .nil)))
(.cons (.expr (.call "need_places" (.cons (.var 0) (.cons (.var 1) .nil))))
.nil)) }
def N_moments_of : List Str := ["brigade", "places", "time", "found", "wait", "speeds", "end"]
def l_moments_of_0 : Ss :=
(.cons (.asg (.pr (.nm 4) (.nm 5)) (.call "next_moment" (.cons (.var 0) (.cons (.var 1) .nil))))
(.cons (.asg (.nm 6) (.call "plus" (.cons (.var 2) (.cons (.var 4) .nil))))
(.cons (.expr (.meth .append (.var 3) (.cons (.tup (.cons (.var 2) (.cons (.var 6) (.cons (.var 1) (.cons (.var 5) (.cons (.call "held_now" (.cons (.var 0) (.cons (.var 1) .nil))) .nil)))))) .nil)))
(.cons (.asg (.pr (.nm 1) (.nm 2)) (.tup (.cons (.call "moved" (.cons (.var 1) (.cons (.var 5) (.cons (.var 4) .nil)))) (.cons (.var 6) .nil))))
.nil))))
def d_moments_of : Def := { name := "moments_of", ps := ["brigade", "places"], n := 7, body :=
(.cons (.asg (.pr (.nm 2) (.nm 3)) (.tup (.cons (.glob "ZERO") (.cons (.lst .nil) .nil))))
(.cons (.while_ (.cmp .ne (.idx (.var 1) (.neg (.cst (.int 1)))) (.glob "ONE")) l_moments_of_0)
(.cons (.ret (.var 3))
.nil))) }
def N_spans_of : List Str := ["moments", "index", "found", "begin", "end", "places", "speeds", "held"]
def l_spans_of_0 : Ss :=
(.cons (.ife (.and (.cmp .isin (.var 1) (.var 7)) (.and (.cmp .ne (.var 2) (.lst .nil)) (.cmp .eq (.idx (.idx (.var 2) (.neg (.cst (.int 1)))) (.cst (.int 1))) (.var 3))))
(.cons (.setI (.var 2) (.neg (.cst (.int 1))) (.tup (.cons (.idx (.idx (.var 2) (.neg (.cst (.int 1)))) (.cst (.int 0))) (.cons (.var 4) .nil))))
.nil)
(.cons (.ife (.cmp .isin (.var 1) (.var 7))
(.cons (.expr (.meth .append (.var 2) (.cons (.tup (.cons (.var 3) (.cons (.var 4) .nil))) .nil)))
.nil)
.nil)
.nil))
.nil)
def d_spans_of : Def := { name := "spans_of", ps := ["moments", "index"], n := 8, body :=
(.cons (.asg (.nm 2) (.lst .nil))
(.cons (.for_ (.qn (.nm 3) (.nm 4) (.nm 5) (.nm 6) (.nm 7)) (.seq (.var 0)) l_spans_of_0)
(.cons (.ret (.prim .tuple (.cons (.var 2) .nil)))
.nil))) }
def N_plus : List Str := ["one", "other"]
def d_plus : Def := { name := "plus", ps := ["one", "other"], n := 2, body :=
(.cons (.ret (.call "make" (.cons (.bin .add (.bin .mul (.idx (.var 0) (.cst (.int 0))) (.idx (.var 1) (.cst (.int 1)))) (.bin .mul (.idx (.var 1) (.cst (.int 0))) (.idx (.var 0) (.cst (.int 1))))) (.cons (.bin .mul (.idx (.var 0) (.cst (.int 1))) (.idx (.var 1) (.cst (.int 1)))) .nil))))
.nil) }
def N_less : List Str := ["one", "other"]
def d_less : Def := { name := "less", ps := ["one", "other"], n := 2, body :=
(.cons (.ret (.call "make" (.cons (.bin .sub (.bin .mul (.idx (.var 0) (.cst (.int 0))) (.idx (.var 1) (.cst (.int 1)))) (.bin .mul (.idx (.var 1) (.cst (.int 0))) (.idx (.var 0) (.cst (.int 1))))) (.cons (.bin .mul (.idx (.var 0) (.cst (.int 1))) (.idx (.var 1) (.cst (.int 1)))) .nil))))
.nil) }
def N_need_brigade : List Str := ["brigade"]
def d_need_brigade : Def := { name := "need_brigade", ps := ["brigade"], n := 1, body :=
(.cons (.ife (.nt (.call "is_a_brigade" (.cons (.var 0) .nil)))
(.cons (.raise "InvalidBrigade" (.call "anew" (.cons (.var 0) .nil)))
.nil)
.nil)
.nil) }
def N_goes_rising : List Str := ["people", "one", "other", "mine", "yours"]
def l_goes_rising_0 : Ss :=
(.cons (.ife (.nt (.prim .all (.cons (.lc (.call "is_at_most" (.cons (.var 3) (.cons (.var 4) .nil))) (.pr (.nm 3) (.nm 4)) (.zip (.var 1) (.var 2)) .none [3, 4]) .nil)))
(.cons (.ret (.cst (.bl false)))
.nil)
.nil)
.nil)
def d_goes_rising : Def := { name := "goes_rising", ps := ["people"], n := 5, body :=
(.cons (.for_ (.pr (.nm 1) (.nm 2)) (.zip (.var 0) (.slc (.var 0) (.some (.cst (.int 1))) .none)) l_goes_rising_0)
(.cons (.ret (.cst (.bl true)))
.nil)) }
def N_anew : List Str := ["value", "part"]
def d_anew : Def := { name := "anew", ps := ["value"], n := 2, body :=
(.cons (.ife (.prim (.isinst ["list"]) (.cons (.var 0) .nil))
(.cons (.ret (.lc (.call "anew" (.cons (.var 1) .nil)) (.nm 1) (.seq (.var 0)) .none [1]))
.nil)
.nil)
(.cons (.ife (.prim (.isinst ["tuple"]) (.cons (.var 0) .nil))
(.cons (.ret (.prim .tuple (.cons (.lc (.call "anew" (.cons (.var 1) .nil)) (.nm 1) (.seq (.var 0)) .none [1]) .nil)))
.nil)
.nil)
(.cons (.ret (.var 0))
.nil))) }
def N_need_places : List Str := ["brigade", "places"]
def d_need_places : Def := { name := "need_places", ps := ["brigade", "places"], n := 2, body :=
(.cons (.expr (.call "need_brigade" (.cons (.var 0) .nil)))
(.cons (.ife (.nt (.call "are_places_of" (.cons (.var 1) (.cons (.prim .len (.cons (.idx (.var 0) (.cst (.int 1))) .nil)) .nil))))
(.cons (.raise "InvalidPlaces" (.call "anew" (.cons (.var 1) .nil)))
.nil)
.nil)
.nil)) }
def N_stepped : List Str := ["brigade", "places", "time", "wait", "speeds"]
def l_stepped_0 : Ss :=
(.cons (.asg (.pr (.nm 3) (.nm 4)) (.call "next_moment" (.cons (.var 0) (.cons (.var 1) .nil))))
(.cons (.asg (.pr (.nm 1) (.nm 2)) (.tup (.cons (.call "moved" (.cons (.var 1) (.cons (.var 4) (.cons (.var 3) .nil)))) (.cons (.call "plus" (.cons (.var 2) (.cons (.var 3) .nil))) .nil))))
.nil))
def d_stepped : Def := { name := "stepped", ps := ["brigade", "places"], n := 5, body :=
(.cons (.asg (.nm 2) (.glob "ZERO"))
(.cons (.while_ (.cmp .ne (.idx (.var 1) (.neg (.cst (.int 1)))) (.glob "ONE")) l_stepped_0)
(.cons (.ret (.tup (.cons (.var 2) (.cons (.var 1) .nil))))
.nil))) }
def N_times : List Str := ["one", "other"]
def d_times : Def := { name := "times", ps := ["one", "other"], n := 2, body :=
(.cons (.ret (.call "make" (.cons (.bin .mul (.idx (.var 0) (.cst (.int 0))) (.idx (.var 1) (.cst (.int 0)))) (.cons (.bin .mul (.idx (.var 0) (.cst (.int 1))) (.idx (.var 1) (.cst (.int 1)))) .nil))))
.nil) }
def N__law_div : List Str := ["x", "y"]
def d__law_div : Def := { name := "_law_div", ps := ["x", "y"], n := 2, body :=
(.cons (.ret (.call "_law_make" (.cons (.bin .mul (.idx (.var 0) (.cst (.int 0))) (.idx (.var 1) (.cst (.int 1)))) (.cons (.bin .mul (.idx (.var 0) (.cst (.int 1))) (.idx (.var 1) (.cst (.int 0)))) .nil))))
.nil) }
def N__law_least : List Str := ["fractions", "found", "own"]
def l__law_least_0 : Ss :=
(.cons (.ife (.call "_law_less" (.cons (.var 2) (.cons (.var 1) .nil)))
(.cons (.asg (.nm 1) (.var 2))
.nil)
.nil)
.nil)
def d__law_least : Def := { name := "_law_least", ps := ["fractions"], n := 3, body :=
(.cons (.asg (.nm 1) (.idx (.var 0) (.cst (.int 0))))
(.cons (.for_ (.nm 2) (.seq (.slc (.var 0) (.some (.cst (.int 1))) .none)) l__law_least_0)
(.cons (.ret (.var 1))
.nil))) }
def N__law_piece : List Str := ["cuts", "place", "cut"]
def d__law_piece : Def := { name := "_law_piece", ps := ["cuts", "place"], n := 3, body :=
(.cons (.ret (.prim .len (.cons (.lc (.var 2) (.nm 2) (.seq (.var 0)) (.some (.nt (.call "_law_less" (.cons (.var 1) (.cons (.var 2) .nil))))) [2]) .nil)))
.nil) }
def N_next_moment : List Str := ["brigade", "places", "speeds", "waits", "index", "place", "gap"]
def l_next_moment_0 : Ss :=
(.cons (.ife (.cmp .ne (.var 5) (.glob "ONE"))
(.cons (.expr (.meth .append (.var 3) (.cons (.call "over" (.cons (.call "less" (.cons (.call "next_mark" (.cons (.idx (.var 0) (.cst (.int 0))) (.cons (.var 5) .nil))) (.cons (.var 5) .nil))) (.cons (.idx (.var 2) (.var 4)) .nil))) .nil)))
.nil)
.nil)
(.cons (.ife (.and (.cmp .lt (.bin .add (.var 4) (.cst (.int 1))) (.prim .len (.cons (.var 1) .nil))) (.call "is_below" (.cons (.idx (.var 2) (.bin .add (.var 4) (.cst (.int 1)))) (.cons (.idx (.var 2) (.var 4)) .nil))))
(.cons (.asg (.nm 6) (.call "less" (.cons (.idx (.var 1) (.bin .add (.var 4) (.cst (.int 1)))) (.cons (.var 5) .nil))))
(.cons (.ife (.cmp .ne (.var 6) (.glob "ZERO"))
(.cons (.expr (.meth .append (.var 3) (.cons (.call "over" (.cons (.var 6) (.cons (.call "less" (.cons (.idx (.var 2) (.var 4)) (.cons (.idx (.var 2) (.bin .add (.var 4) (.cst (.int 1)))) .nil))) .nil))) .nil)))
.nil)
.nil)
.nil))
.nil)
.nil))
def d_next_moment : Def := { name := "next_moment", ps := ["brigade", "places"], n := 7, body :=
(.cons (.asg (.pr (.nm 2) (.nm 3)) (.tup (.cons (.call "real_speeds" (.cons (.var 0) (.cons (.var 1) .nil))) (.cons (.lst .nil) .nil))))
(.cons (.for_ (.pr (.nm 4) (.nm 5)) (.enum (.var 1)) l_next_moment_0)
(.cons (.ret (.tup (.cons (.call "least_of" (.cons (.var 3) .nil)) (.cons (.var 2) .nil))))
.nil))) }
def N_held_now : List Str := ["brigade", "places", "pairs", "index", "own", "real"]
def d_held_now : Def := { name := "held_now", ps := ["brigade", "places"], n := 6, body :=
(.cons (.asg (.nm 2) (.lzip (.call "own_speeds" (.cons (.var 0) (.cons (.var 1) .nil))) (.call "real_speeds" (.cons (.var 0) (.cons (.var 1) .nil)))))
(.cons (.ret (.prim .tuple (.cons (.lc (.var 3) (.pr (.nm 3) (.pr (.nm 4) (.nm 5))) (.enum (.var 2)) (.some (.cmp .ne (.var 4) (.var 5))) [3, 4, 5]) .nil)))
.nil)) }
def N_moved : List Str := ["places", "speeds", "time", "place", "speed"]
def d_moved : Def := { name := "moved", ps := ["places", "speeds", "time"], n := 5, body :=
(.cons (.ret (.prim .tuple (.cons (.lc (.call "plus" (.cons (.var 3) (.cons (.call "times" (.cons (.var 4) (.cons (.var 2) .nil))) .nil))) (.pr (.nm 3) (.nm 4)) (.zip (.var 0) (.var 1)) .none [3, 4]) .nil)))
.nil) }
def N_make : List Str := ["above", "below", "common"]
def d_make : Def := { name := "make", ps := ["above", "below"], n := 3, body :=
(.cons (.ife (.cmp .lt (.var 1) (.cst (.int 0)))
(.cons (.asg (.pr (.nm 0) (.nm 1)) (.tup (.cons (.neg (.var 0)) (.cons (.neg (.var 1)) .nil))))
.nil)
.nil)
(.cons (.asg (.nm 2) (.prim .gcd (.cons (.var 0) (.cons (.var 1) .nil))))
(.cons (.ret (.tup (.cons (.bin .fdiv (.var 0) (.var 2)) (.cons (.bin .fdiv (.var 1) (.var 2)) .nil))))
.nil))) }
def N_is_a_brigade : List Str := ["value", "speeds"]
def d_is_a_brigade : Def := { name := "is_a_brigade", ps := ["value"], n := 2, body :=
(.cons (.ife (.or (.nt (.call "is_tuple" (.cons (.var 0) (.cons (.cst (.int 2)) (.cons (.cst (.int 2)) .nil))))) (.or (.nt (.call "are_cuts" (.cons (.idx (.var 0) (.cst (.int 0))) .nil))) (.nt (.call "is_tuple" (.cons (.idx (.var 0) (.cst (.int 1))) (.cons (.cst (.int 1)) (.cons (.glob "MOST_PEOPLE") .nil)))))))
(.cons (.ret (.cst (.bl false)))
.nil)
.nil)
(.cons (.ret (.prim .all (.cons (.lc (.call "are_speeds" (.cons (.var 1) (.cons (.bin .add (.prim .len (.cons (.idx (.var 0) (.cst (.int 0))) .nil)) (.cst (.int 1))) .nil))) (.nm 1) (.seq (.idx (.var 0) (.cst (.int 1)))) .none [1]) .nil)))
.nil)) }
def N_is_at_most : List Str := ["one", "other"]
def d_is_at_most : Def := { name := "is_at_most", ps := ["one", "other"], n := 2, body :=
(.cons (.ret (.cmp .le (.bin .mul (.idx (.var 0) (.cst (.int 0))) (.idx (.var 1) (.cst (.int 1)))) (.bin .mul (.idx (.var 1) (.cst (.int 0))) (.idx (.var 0) (.cst (.int 1))))))
.nil) }
def N_are_places_of : List Str := ["value", "many", "place"]
def d_are_places_of : Def := { name := "are_places_of", ps := ["value", "many"], n := 3, body :=
(.cons (.ife (.or (.nt (.call "is_tuple" (.cons (.var 0) (.cons (.var 1) (.cons (.var 1) .nil))))) (.nt (.prim .all (.cons (.lc (.call "is_between" (.cons (.var 2) (.cons (.glob "ZERO") (.cons (.glob "ONE") .nil)))) (.nm 2) (.seq (.var 0)) .none [2]) .nil))))
(.cons (.ret (.cst (.bl false)))
.nil)
.nil)
(.cons (.ret (.call "are_not_falling" (.cons (.var 0) .nil)))
.nil)) }
def N_real_speeds : List Str := ["brigade", "places", "own", "found", "index", "is_held"]
def l_real_speeds_0 : Ss :=
(.cons (.asg (.nm 5) (.and (.cmp .eq (.idx (.var 1) (.var 4)) (.idx (.var 1) (.bin .add (.var 4) (.cst (.int 1))))) (.call "is_below" (.cons (.idx (.var 3) (.cst (.int 0))) (.cons (.idx (.var 2) (.var 4)) .nil)))))
(.cons (.asg (.nm 3) (.bin .add (.lst (.cons (.ife (.var 5) (.idx (.var 3) (.cst (.int 0))) (.idx (.var 2) (.var 4))) .nil)) (.var 3)))
.nil))
def d_real_speeds : Def := { name := "real_speeds", ps := ["brigade", "places"], n := 6, body :=
(.cons (.asg (.nm 2) (.call "own_speeds" (.cons (.var 0) (.cons (.var 1) .nil))))
(.cons (.asg (.nm 3) (.lst (.cons (.idx (.var 2) (.neg (.cst (.int 1)))) .nil)))
(.cons (.for_ (.nm 4) (.rng3 (.bin .sub (.prim .len (.cons (.var 2) .nil)) (.cst (.int 2))) (.neg (.cst (.int 1))) (.neg (.cst (.int 1)))) l_real_speeds_0)
(.cons (.ret (.var 3))
.nil)))) }
def N_over : List Str := ["one", "other"]
def d_over : Def := { name := "over", ps := ["one", "other"], n := 2, body :=
(.cons (.ret (.call "make" (.cons (.bin .mul (.idx (.var 0) (.cst (.int 0))) (.idx (.var 1) (.cst (.int 1)))) (.cons (.bin .mul (.idx (.var 0) (.cst (.int 1))) (.idx (.var 1) (.cst (.int 0)))) .nil))))
.nil) }
def N_next_mark : List Str := ["cuts", "place", "cut", "further"]
def d_next_mark : Def := { name := "next_mark", ps := ["cuts", "place"], n := 4, body :=
(.cons (.asg (.nm 3) (.lc (.var 2) (.nm 2) (.seq (.var 0)) (.some (.call "is_below" (.cons (.var 1) (.cons (.var 2) .nil)))) [2]))
(.cons (.ret (.ife (.cmp .ne (.var 3) (.lst .nil)) (.idx (.var 3) (.cst (.int 0))) (.glob "ONE")))
.nil)) }
def N_is_below : List Str := ["one", "other"]
def d_is_below : Def := { name := "is_below", ps := ["one", "other"], n := 2, body :=
(.cons (.ret (.cmp .lt (.bin .mul (.idx (.var 0) (.cst (.int 0))) (.idx (.var 1) (.cst (.int 1)))) (.bin .mul (.idx (.var 1) (.cst (.int 0))) (.idx (.var 0) (.cst (.int 1))))))
.nil) }
def N_least_of : List Str := ["fractions", "found", "own"]
def l_least_of_0 : Ss :=
(.cons (.ife (.call "is_below" (.cons (.var 2) (.cons (.var 1) .nil)))
(.cons (.asg (.nm 1) (.var 2))
.nil)
.nil)
.nil)
def d_least_of : Def := { name := "least_of", ps := ["fractions"], n := 3, body :=
(.cons (.asg (.nm 1) (.idx (.var 0) (.cst (.int 0))))
(.cons (.for_ (.nm 2) (.seq (.slc (.var 0) (.some (.cst (.int 1))) .none)) l_least_of_0)
(.cons (.ret (.var 1))
.nil))) }
def N_own_speeds : List Str := ["brigade", "places", "cuts", "people", "speeds", "place"]
def d_own_speeds : Def := { name := "own_speeds", ps := ["brigade", "places"], n := 6, body :=
(.cons (.asg (.pr (.nm 2) (.nm 3)) (.var 0))
(.cons (.ret (.lc (.idx (.var 4) (.call "piece_at" (.cons (.var 2) (.cons (.var 5) .nil)))) (.pr (.nm 4) (.nm 5)) (.zip (.var 3) (.var 1)) .none [4, 5]))
.nil)) }
def N_is_tuple : List Str := ["value", "low", "high"]
def d_is_tuple : Def := { name := "is_tuple", ps := ["value", "low", "high"], n := 3, body :=
(.cons (.ret (.and (.prim (.isinst ["tuple"]) (.cons (.var 0) .nil)) (.chn .le .le (.var 1) (.prim .len (.cons (.var 0) .nil)) (.var 2))))
.nil) }
def N_are_cuts : List Str := ["value", "cut"]
def d_are_cuts : Def := { name := "are_cuts", ps := ["value"], n := 2, body :=
(.cons (.ife (.or (.nt (.call "is_tuple" (.cons (.var 0) (.cons (.cst (.int 0)) (.cons (.glob "MOST_CUTS") .nil))))) (.nt (.prim .all (.cons (.lc (.call "is_fraction" (.cons (.var 1) .nil)) (.nm 1) (.seq (.var 0)) .none [1]) .nil))))
(.cons (.ret (.cst (.bl false)))
.nil)
.nil)
(.cons (.ret (.and (.call "are_growing" (.cons (.var 0) .nil)) (.prim .all (.cons (.lc (.and (.call "is_below" (.cons (.glob "ZERO") (.cons (.var 1) .nil))) (.call "is_below" (.cons (.var 1) (.cons (.glob "ONE") .nil)))) (.nm 1) (.seq (.var 0)) .none [1]) .nil))))
.nil)) }
def N_are_speeds : List Str := ["value", "many", "speed"]
def d_are_speeds : Def := { name := "are_speeds", ps := ["value", "many"], n := 3, body :=
(.cons (.ret (.and (.call "is_tuple" (.cons (.var 0) (.cons (.var 1) (.cons (.var 1) .nil)))) (.prim .all (.cons (.lc (.call "is_positive" (.cons (.var 2) .nil)) (.nm 2) (.seq (.var 0)) .none [2]) .nil))))
.nil) }
def N_is_between : List Str := ["value", "low", "high"]
def d_is_between : Def := { name := "is_between", ps := ["value", "low", "high"], n := 3, body :=
(.cons (.ret (.and (.call "is_fraction" (.cons (.var 0) .nil)) (.and (.call "is_at_most" (.cons (.var 1) (.cons (.var 0) .nil))) (.call "is_at_most" (.cons (.var 0) (.cons (.var 2) .nil))))))
.nil) }
def N_are_not_falling : List Str := ["fractions", "one", "other"]
def d_are_not_falling : Def := { name := "are_not_falling", ps := ["fractions"], n := 3, body :=
(.cons (.ret (.prim .all (.cons (.lc (.call "is_at_most" (.cons (.var 1) (.cons (.var 2) .nil))) (.pr (.nm 1) (.nm 2)) (.zip (.var 0) (.slc (.var 0) (.some (.cst (.int 1))) .none)) .none [1, 2]) .nil)))
.nil) }
def N_piece_at : List Str := ["cuts", "place", "cut"]
def d_piece_at : Def := { name := "piece_at", ps := ["cuts", "place"], n := 3, body :=
(.cons (.ret (.prim .len (.cons (.lc (.var 2) (.nm 2) (.seq (.var 0)) (.some (.nt (.call "is_below" (.cons (.var 1) (.cons (.var 2) .nil))))) [2]) .nil)))
.nil) }
def N_is_fraction : List Str := ["value"]
def d_is_fraction : Def := { name := "is_fraction", ps := ["value"], n := 1, body :=
(.cons (.ife (.or (.nt (.call "is_tuple" (.cons (.var 0) (.cons (.cst (.int 2)) (.cons (.cst (.int 2)) .nil))))) (.or (.nt (.call "is_integer" (.cons (.idx (.var 0) (.cst (.int 0))) .nil))) (.nt (.call "is_integer" (.cons (.idx (.var 0) (.cst (.int 1))) .nil)))))
(.cons (.ret (.cst (.bl false)))
.nil)
.nil)
(.cons (.ret (.and (.cmp .ge (.idx (.var 0) (.cst (.int 1))) (.cst (.int 1))) (.cmp .eq (.prim .gcd (.cons (.idx (.var 0) (.cst (.int 0))) (.cons (.idx (.var 0) (.cst (.int 1))) .nil))) (.cst (.int 1)))))
.nil)) }
def N_are_growing : List Str := ["fractions", "one", "other"]
def d_are_growing : Def := { name := "are_growing", ps := ["fractions"], n := 3, body :=
(.cons (.ret (.prim .all (.cons (.lc (.call "is_below" (.cons (.var 1) (.cons (.var 2) .nil))) (.pr (.nm 1) (.nm 2)) (.zip (.var 0) (.slc (.var 0) (.some (.cst (.int 1))) .none)) .none [1, 2]) .nil)))
.nil) }
def N_is_positive : List Str := ["value"]
def d_is_positive : Def := { name := "is_positive", ps := ["value"], n := 1, body :=
(.cons (.ret (.and (.call "is_fraction" (.cons (.var 0) .nil)) (.cmp .gt (.idx (.var 0) (.cst (.int 0))) (.cst (.int 0)))))
.nil) }
def N_is_integer : List Str := ["value"]
def d_is_integer : Def := { name := "is_integer", ps := ["value"], n := 1, body :=
(.cons (.ret (.and (.prim (.isinst ["int"]) (.cons (.var 0) .nil)) (.nt (.prim (.isinst ["bool"]) (.cons (.var 0) .nil)))))
.nil) }
def prog : Prog := { defs := [d_law, d__law_pool, d__law_brigade, d__law_places, d__law_spans, d__law_held, d_held_spans, d__law_long, d_waited, d_is_rising, d__law_add, d__law_mul, d__law_sub, d_lost, d__law_twelfths, d__law_take, d__law_speed, d__law_make, d__law_moment, d__law_speeds, d__law_moved, d__law_less, d_need_both, d_moments_of, d_spans_of, d_plus, d_less, d_need_brigade, d_goes_rising, d_anew, d_need_places, d_stepped, d_times, d__law_div, d__law_least, d__law_piece, d_next_moment, d_held_now, d_moved, d_make, d_is_a_brigade, d_is_at_most, d_are_places_of, d_real_speeds, d_over, d_next_mark, d_is_below, d_least_of, d_own_speeds, d_is_tuple, d_are_cuts, d_are_speeds, d_is_between, d_are_not_falling, d_piece_at, d_is_fraction, d_are_growing, d_is_positive, d_is_integer], consts := [("ZERO", (.tup [(.int 0), (.int 1)])), ("ONE", (.tup [(.int 1), (.int 1)])), ("MOST_PEOPLE", (.int 5)), ("MOST_CUTS", (.int 5))] }
theorem g_ZERO : prog.consts.lookup ("ZERO" : Str) = some (.tup [(.int 0), (.int 1)]) := by rfl
theorem g_ONE : prog.consts.lookup ("ONE" : Str) = some (.tup [(.int 1), (.int 1)]) := by rfl
theorem g_MOST_PEOPLE : prog.consts.lookup ("MOST_PEOPLE" : Str) = some (.int 5) := by rfl
theorem g_MOST_CUTS : prog.consts.lookup ("MOST_CUTS" : Str) = some (.int 5) := by rfl
def sc : SC := { N := [], shs := [⟨"_law_pool", ["script", "many"], 2, []⟩,
  ⟨"_law_brigade", ["pool", "least", "most", "cuts"], 4, []⟩,
  ⟨"_law_places", ["pool", "many"], 2, []⟩,
  ⟨"_law_spans", ["brigade", "places"], 2, []⟩,
  ⟨"_law_held", ["spans", "i"], 2, []⟩,
  ⟨"held_spans", ["brigade", "places"], 2, []⟩,
  ⟨"held_spans", ["brigade", "places"], 0, ["places", "brigade"]⟩,
  ⟨"_law_long", ["spans"], 1, []⟩,
  ⟨"waited", ["brigade", "places"], 2, []⟩,
  ⟨"waited", ["brigade", "places"], 0, ["places", "brigade"]⟩,
  ⟨"is_rising", ["brigade"], 1, []⟩,
  ⟨"_law_add", ["x", "y"], 2, []⟩,
  ⟨"_law_mul", ["x", "y"], 2, []⟩,
  ⟨"_law_sub", ["x", "y"], 2, []⟩,
  ⟨"lost", ["brigade", "places"], 2, []⟩,
  ⟨"_law_twelfths", ["pool", "most", "low", "high"], 4, []⟩,
  ⟨"_law_take", ["pool", "limit"], 2, []⟩,
  ⟨"_law_speed", ["pool"], 1, []⟩,
  ⟨"_law_make", ["above", "below"], 2, []⟩,
  ⟨"_law_moment", ["brigade", "places"], 2, []⟩,
  ⟨"_law_speeds", ["brigade", "places"], 2, []⟩,
  ⟨"_law_moved", ["places", "speeds", "time"], 3, []⟩,
  ⟨"_law_less", ["x", "y"], 2, []⟩,
  ⟨"need_both", ["brigade", "places"], 2, []⟩,
  ⟨"moments_of", ["brigade", "places"], 2, []⟩,
  ⟨"spans_of", ["moments", "index"], 2, []⟩,
  ⟨"plus", ["one", "other"], 2, []⟩,
  ⟨"less", ["one", "other"], 2, []⟩,
  ⟨"need_brigade", ["brigade"], 1, []⟩,
  ⟨"goes_rising", ["people"], 1, []⟩,
  ⟨"anew", ["value"], 1, []⟩,
  ⟨"need_places", ["brigade", "places"], 2, []⟩,
  ⟨"stepped", ["brigade", "places"], 2, []⟩,
  ⟨"times", ["one", "other"], 2, []⟩,
  ⟨"_law_div", ["x", "y"], 2, []⟩,
  ⟨"_law_least", ["fractions"], 1, []⟩,
  ⟨"_law_piece", ["cuts", "place"], 2, []⟩,
  ⟨"next_moment", ["brigade", "places"], 2, []⟩,
  ⟨"held_now", ["brigade", "places"], 2, []⟩,
  ⟨"moved", ["places", "speeds", "time"], 3, []⟩,
  ⟨"make", ["above", "below"], 2, []⟩,
  ⟨"is_a_brigade", ["value"], 1, []⟩,
  ⟨"is_at_most", ["one", "other"], 2, []⟩,
  ⟨"are_places_of", ["value", "many"], 2, []⟩,
  ⟨"real_speeds", ["brigade", "places"], 2, []⟩,
  ⟨"over", ["one", "other"], 2, []⟩,
  ⟨"next_mark", ["cuts", "place"], 2, []⟩,
  ⟨"is_below", ["one", "other"], 2, []⟩,
  ⟨"least_of", ["fractions"], 1, []⟩,
  ⟨"own_speeds", ["brigade", "places"], 2, []⟩,
  ⟨"is_tuple", ["value", "low", "high"], 3, []⟩,
  ⟨"are_cuts", ["value"], 1, []⟩,
  ⟨"are_speeds", ["value", "many"], 2, []⟩,
  ⟨"is_between", ["value", "low", "high"], 3, []⟩,
  ⟨"are_not_falling", ["fractions"], 1, []⟩,
  ⟨"piece_at", ["cuts", "place"], 2, []⟩,
  ⟨"is_fraction", ["value"], 1, []⟩,
  ⟨"are_growing", ["fractions"], 1, []⟩,
  ⟨"is_positive", ["value"], 1, []⟩,
  ⟨"is_integer", ["value"], 1, []⟩,
  ⟨"law", ["script"], 1, []⟩], cs := ["ZERO", "ONE", "MOST_PEOPLE", "MOST_CUTS"], gcd := true, ers := ["InvalidBrigade", "InvalidPlaces"] }
theorem b_law : isSs (sc.at N_law) ⟨defScope (top 74), none⟩ d_law.body (defBody (top 74)) = true := by decide +kernel
theorem s_law : FnScope N_law d_law.ps (defScope (top 74)) := ⟨rfl, rfl, rfl, by decide +kernel, rfl, by decide +kernel, by decide +kernel⟩
theorem f_law : prog.find d_law.name = some d_law := by rfl
theorem c_law (k : Nat) (vs : List Val) (s : Sto) : callN prog (k + 1) "law" vs s = if vs.length = 1 then finish (execs (ctxOf prog (callN prog k)) d_law.body (startE d_law vs) s) else .stuck := callN_def f_law k vs s
theorem b__law_pool : isSs (sc.at N__law_pool) ⟨defScope (top 54), none⟩ d__law_pool.body (defBody (top 54)) = true := by decide +kernel
theorem s__law_pool : FnScope N__law_pool d__law_pool.ps (defScope (top 54)) := ⟨rfl, rfl, rfl, by decide +kernel, rfl, by decide +kernel, by decide +kernel⟩
theorem f__law_pool : prog.find d__law_pool.name = some d__law_pool := by rfl
theorem c__law_pool (k : Nat) (vs : List Val) (s : Sto) : callN prog (k + 1) "_law_pool" vs s = if vs.length = 2 then finish (execs (ctxOf prog (callN prog k)) d__law_pool.body (startE d__law_pool vs) s) else .stuck := callN_def f__law_pool k vs s
theorem b__law_brigade : isSs (sc.at N__law_brigade) ⟨defScope (top 65), none⟩ d__law_brigade.body (defBody (top 65)) = true := by decide +kernel
theorem s__law_brigade : FnScope N__law_brigade d__law_brigade.ps (defScope (top 65)) := ⟨rfl, rfl, rfl, by decide +kernel, rfl, by decide +kernel, by decide +kernel⟩
theorem f__law_brigade : prog.find d__law_brigade.name = some d__law_brigade := by rfl
theorem c__law_brigade (k : Nat) (vs : List Val) (s : Sto) : callN prog (k + 1) "_law_brigade" vs s = if vs.length = 4 then finish (execs (ctxOf prog (callN prog k)) d__law_brigade.body (startE d__law_brigade vs) s) else .stuck := callN_def f__law_brigade k vs s
theorem b__law_places : isSs (sc.at N__law_places) ⟨defScope (top 63), none⟩ d__law_places.body (defBody (top 63)) = true := by decide +kernel
theorem s__law_places : FnScope N__law_places d__law_places.ps (defScope (top 63)) := ⟨rfl, rfl, rfl, by decide +kernel, rfl, by decide +kernel, by decide +kernel⟩
theorem f__law_places : prog.find d__law_places.name = some d__law_places := by rfl
theorem c__law_places (k : Nat) (vs : List Val) (s : Sto) : callN prog (k + 1) "_law_places" vs s = if vs.length = 2 then finish (execs (ctxOf prog (callN prog k)) d__law_places.body (startE d__law_places vs) s) else .stuck := callN_def f__law_places k vs s
theorem b__law_spans : isSs (sc.at N__law_spans) ⟨defScope (top 71), none⟩ d__law_spans.body (defBody (top 71)) = true := by decide +kernel
theorem s__law_spans : FnScope N__law_spans d__law_spans.ps (defScope (top 71)) := ⟨rfl, rfl, rfl, by decide +kernel, rfl, by decide +kernel, by decide +kernel⟩
theorem f__law_spans : prog.find d__law_spans.name = some d__law_spans := by rfl
theorem c__law_spans (k : Nat) (vs : List Val) (s : Sto) : callN prog (k + 1) "_law_spans" vs s = if vs.length = 2 then finish (execs (ctxOf prog (callN prog k)) d__law_spans.body (startE d__law_spans vs) s) else .stuck := callN_def f__law_spans k vs s
theorem b__law_held : isSs (sc.at N__law_held) ⟨defScope (top 72), none⟩ d__law_held.body (defBody (top 72)) = true := by decide +kernel
theorem s__law_held : FnScope N__law_held d__law_held.ps (defScope (top 72)) := ⟨rfl, rfl, rfl, by decide +kernel, rfl, by decide +kernel, by decide +kernel⟩
theorem f__law_held : prog.find d__law_held.name = some d__law_held := by rfl
theorem c__law_held (k : Nat) (vs : List Val) (s : Sto) : callN prog (k + 1) "_law_held" vs s = if vs.length = 2 then finish (execs (ctxOf prog (callN prog k)) d__law_held.body (startE d__law_held vs) s) else .stuck := callN_def f__law_held k vs s
theorem b_held_spans : isSs (sc.at N_held_spans) ⟨defScope (top 49), none⟩ d_held_spans.body (defBody (top 49)) = true := by decide +kernel
theorem s_held_spans : FnScope N_held_spans d_held_spans.ps (defScope (top 49)) := ⟨rfl, rfl, rfl, by decide +kernel, rfl, by decide +kernel, by decide +kernel⟩
theorem f_held_spans : prog.find d_held_spans.name = some d_held_spans := by rfl
theorem c_held_spans (k : Nat) (vs : List Val) (s : Sto) : callN prog (k + 1) "held_spans" vs s = if vs.length = 2 then finish (execs (ctxOf prog (callN prog k)) d_held_spans.body (startE d_held_spans vs) s) else .stuck := callN_def f_held_spans k vs s
theorem b__law_long : isSs (sc.at N__law_long) ⟨defScope (top 73), none⟩ d__law_long.body (defBody (top 73)) = true := by decide +kernel
theorem s__law_long : FnScope N__law_long d__law_long.ps (defScope (top 73)) := ⟨rfl, rfl, rfl, by decide +kernel, rfl, by decide +kernel, by decide +kernel⟩
theorem f__law_long : prog.find d__law_long.name = some d__law_long := by rfl
theorem c__law_long (k : Nat) (vs : List Val) (s : Sto) : callN prog (k + 1) "_law_long" vs s = if vs.length = 1 then finish (execs (ctxOf prog (callN prog k)) d__law_long.body (startE d__law_long vs) s) else .stuck := callN_def f__law_long k vs s
theorem b_waited : isSs (sc.at N_waited) ⟨defScope (top 50), none⟩ d_waited.body (defBody (top 50)) = true := by decide +kernel
theorem s_waited : FnScope N_waited d_waited.ps (defScope (top 50)) := ⟨rfl, rfl, rfl, by decide +kernel, rfl, by decide +kernel, by decide +kernel⟩
theorem f_waited : prog.find d_waited.name = some d_waited := by rfl
theorem c_waited (k : Nat) (vs : List Val) (s : Sto) : callN prog (k + 1) "waited" vs s = if vs.length = 2 then finish (execs (ctxOf prog (callN prog k)) d_waited.body (startE d_waited vs) s) else .stuck := callN_def f_waited k vs s
theorem b_is_rising : isSs (sc.at N_is_rising) ⟨defScope (top 44), none⟩ d_is_rising.body (defBody (top 44)) = true := by decide +kernel
theorem s_is_rising : FnScope N_is_rising d_is_rising.ps (defScope (top 44)) := ⟨rfl, rfl, rfl, by decide +kernel, rfl, by decide +kernel, by decide +kernel⟩
theorem f_is_rising : prog.find d_is_rising.name = some d_is_rising := by rfl
theorem c_is_rising (k : Nat) (vs : List Val) (s : Sto) : callN prog (k + 1) "is_rising" vs s = if vs.length = 1 then finish (execs (ctxOf prog (callN prog k)) d_is_rising.body (startE d_is_rising vs) s) else .stuck := callN_def f_is_rising k vs s
theorem b__law_add : isSs (sc.at N__law_add) ⟨defScope (top 57), none⟩ d__law_add.body (defBody (top 57)) = true := by decide +kernel
theorem s__law_add : FnScope N__law_add d__law_add.ps (defScope (top 57)) := ⟨rfl, rfl, rfl, by decide +kernel, rfl, by decide +kernel, by decide +kernel⟩
theorem f__law_add : prog.find d__law_add.name = some d__law_add := by rfl
theorem c__law_add (k : Nat) (vs : List Val) (s : Sto) : callN prog (k + 1) "_law_add" vs s = if vs.length = 2 then finish (execs (ctxOf prog (callN prog k)) d__law_add.body (startE d__law_add vs) s) else .stuck := callN_def f__law_add k vs s
theorem b__law_mul : isSs (sc.at N__law_mul) ⟨defScope (top 59), none⟩ d__law_mul.body (defBody (top 59)) = true := by decide +kernel
theorem s__law_mul : FnScope N__law_mul d__law_mul.ps (defScope (top 59)) := ⟨rfl, rfl, rfl, by decide +kernel, rfl, by decide +kernel, by decide +kernel⟩
theorem f__law_mul : prog.find d__law_mul.name = some d__law_mul := by rfl
theorem c__law_mul (k : Nat) (vs : List Val) (s : Sto) : callN prog (k + 1) "_law_mul" vs s = if vs.length = 2 then finish (execs (ctxOf prog (callN prog k)) d__law_mul.body (startE d__law_mul vs) s) else .stuck := callN_def f__law_mul k vs s
theorem b__law_sub : isSs (sc.at N__law_sub) ⟨defScope (top 58), none⟩ d__law_sub.body (defBody (top 58)) = true := by decide +kernel
theorem s__law_sub : FnScope N__law_sub d__law_sub.ps (defScope (top 58)) := ⟨rfl, rfl, rfl, by decide +kernel, rfl, by decide +kernel, by decide +kernel⟩
theorem f__law_sub : prog.find d__law_sub.name = some d__law_sub := by rfl
theorem c__law_sub (k : Nat) (vs : List Val) (s : Sto) : callN prog (k + 1) "_law_sub" vs s = if vs.length = 2 then finish (execs (ctxOf prog (callN prog k)) d__law_sub.body (startE d__law_sub vs) s) else .stuck := callN_def f__law_sub k vs s
theorem b_lost : isSs (sc.at N_lost) ⟨defScope (top 52), none⟩ d_lost.body (defBody (top 52)) = true := by decide +kernel
theorem s_lost : FnScope N_lost d_lost.ps (defScope (top 52)) := ⟨rfl, rfl, rfl, by decide +kernel, rfl, by decide +kernel, by decide +kernel⟩
theorem f_lost : prog.find d_lost.name = some d_lost := by rfl
theorem c_lost (k : Nat) (vs : List Val) (s : Sto) : callN prog (k + 1) "lost" vs s = if vs.length = 2 then finish (execs (ctxOf prog (callN prog k)) d_lost.body (startE d_lost vs) s) else .stuck := callN_def f_lost k vs s
theorem b__law_twelfths : isSs (sc.at N__law_twelfths) ⟨defScope (top 62), none⟩ d__law_twelfths.body (defBody (top 62)) = true := by decide +kernel
theorem s__law_twelfths : FnScope N__law_twelfths d__law_twelfths.ps (defScope (top 62)) := ⟨rfl, rfl, rfl, by decide +kernel, rfl, by decide +kernel, by decide +kernel⟩
theorem f__law_twelfths : prog.find d__law_twelfths.name = some d__law_twelfths := by rfl
theorem c__law_twelfths (k : Nat) (vs : List Val) (s : Sto) : callN prog (k + 1) "_law_twelfths" vs s = if vs.length = 4 then finish (execs (ctxOf prog (callN prog k)) d__law_twelfths.body (startE d__law_twelfths vs) s) else .stuck := callN_def f__law_twelfths k vs s
theorem b__law_take : isSs (sc.at N__law_take) ⟨defScope (top 55), none⟩ d__law_take.body (defBody (top 55)) = true := by decide +kernel
theorem s__law_take : FnScope N__law_take d__law_take.ps (defScope (top 55)) := ⟨rfl, rfl, rfl, by decide +kernel, rfl, by decide +kernel, by decide +kernel⟩
theorem f__law_take : prog.find d__law_take.name = some d__law_take := by rfl
theorem c__law_take (k : Nat) (vs : List Val) (s : Sto) : callN prog (k + 1) "_law_take" vs s = if vs.length = 2 then finish (execs (ctxOf prog (callN prog k)) d__law_take.body (startE d__law_take vs) s) else .stuck := callN_def f__law_take k vs s
theorem b__law_speed : isSs (sc.at N__law_speed) ⟨defScope (top 64), none⟩ d__law_speed.body (defBody (top 64)) = true := by decide +kernel
theorem s__law_speed : FnScope N__law_speed d__law_speed.ps (defScope (top 64)) := ⟨rfl, rfl, rfl, by decide +kernel, rfl, by decide +kernel, by decide +kernel⟩
theorem f__law_speed : prog.find d__law_speed.name = some d__law_speed := by rfl
theorem c__law_speed (k : Nat) (vs : List Val) (s : Sto) : callN prog (k + 1) "_law_speed" vs s = if vs.length = 1 then finish (execs (ctxOf prog (callN prog k)) d__law_speed.body (startE d__law_speed vs) s) else .stuck := callN_def f__law_speed k vs s
theorem b__law_make : isSs (sc.at N__law_make) ⟨defScope (top 56), none⟩ d__law_make.body (defBody (top 56)) = true := by decide +kernel
theorem s__law_make : FnScope N__law_make d__law_make.ps (defScope (top 56)) := ⟨rfl, rfl, rfl, by decide +kernel, rfl, by decide +kernel, by decide +kernel⟩
theorem f__law_make : prog.find d__law_make.name = some d__law_make := by rfl
theorem c__law_make (k : Nat) (vs : List Val) (s : Sto) : callN prog (k + 1) "_law_make" vs s = if vs.length = 2 then finish (execs (ctxOf prog (callN prog k)) d__law_make.body (startE d__law_make vs) s) else .stuck := callN_def f__law_make k vs s
theorem b__law_moment : isSs (sc.at N__law_moment) ⟨defScope (top 69), none⟩ d__law_moment.body (defBody (top 69)) = true := by decide +kernel
theorem s__law_moment : FnScope N__law_moment d__law_moment.ps (defScope (top 69)) := ⟨rfl, rfl, rfl, by decide +kernel, rfl, by decide +kernel, by decide +kernel⟩
theorem f__law_moment : prog.find d__law_moment.name = some d__law_moment := by rfl
theorem c__law_moment (k : Nat) (vs : List Val) (s : Sto) : callN prog (k + 1) "_law_moment" vs s = if vs.length = 2 then finish (execs (ctxOf prog (callN prog k)) d__law_moment.body (startE d__law_moment vs) s) else .stuck := callN_def f__law_moment k vs s
theorem b__law_speeds : isSs (sc.at N__law_speeds) ⟨defScope (top 68), none⟩ d__law_speeds.body (defBody (top 68)) = true := by decide +kernel
theorem s__law_speeds : FnScope N__law_speeds d__law_speeds.ps (defScope (top 68)) := ⟨rfl, rfl, rfl, by decide +kernel, rfl, by decide +kernel, by decide +kernel⟩
theorem f__law_speeds : prog.find d__law_speeds.name = some d__law_speeds := by rfl
theorem c__law_speeds (k : Nat) (vs : List Val) (s : Sto) : callN prog (k + 1) "_law_speeds" vs s = if vs.length = 2 then finish (execs (ctxOf prog (callN prog k)) d__law_speeds.body (startE d__law_speeds vs) s) else .stuck := callN_def f__law_speeds k vs s
theorem b__law_moved : isSs (sc.at N__law_moved) ⟨defScope (top 70), none⟩ d__law_moved.body (defBody (top 70)) = true := by decide +kernel
theorem s__law_moved : FnScope N__law_moved d__law_moved.ps (defScope (top 70)) := ⟨rfl, rfl, rfl, by decide +kernel, rfl, by decide +kernel, by decide +kernel⟩
theorem f__law_moved : prog.find d__law_moved.name = some d__law_moved := by rfl
theorem c__law_moved (k : Nat) (vs : List Val) (s : Sto) : callN prog (k + 1) "_law_moved" vs s = if vs.length = 3 then finish (execs (ctxOf prog (callN prog k)) d__law_moved.body (startE d__law_moved vs) s) else .stuck := callN_def f__law_moved k vs s
theorem b__law_less : isSs (sc.at N__law_less) ⟨defScope (top 61), none⟩ d__law_less.body (defBody (top 61)) = true := by decide +kernel
theorem s__law_less : FnScope N__law_less d__law_less.ps (defScope (top 61)) := ⟨rfl, rfl, rfl, by decide +kernel, rfl, by decide +kernel, by decide +kernel⟩
theorem f__law_less : prog.find d__law_less.name = some d__law_less := by rfl
theorem c__law_less (k : Nat) (vs : List Val) (s : Sto) : callN prog (k + 1) "_law_less" vs s = if vs.length = 2 then finish (execs (ctxOf prog (callN prog k)) d__law_less.body (startE d__law_less vs) s) else .stuck := callN_def f__law_less k vs s
theorem b_need_both : isSs (sc.at N_need_both) ⟨defScope (top 46), none⟩ d_need_both.body (defBody (top 46)) = true := by decide +kernel
theorem s_need_both : FnScope N_need_both d_need_both.ps (defScope (top 46)) := ⟨rfl, rfl, rfl, by decide +kernel, rfl, by decide +kernel, by decide +kernel⟩
theorem f_need_both : prog.find d_need_both.name = some d_need_both := by rfl
theorem c_need_both (k : Nat) (vs : List Val) (s : Sto) : callN prog (k + 1) "need_both" vs s = if vs.length = 2 then finish (execs (ctxOf prog (callN prog k)) d_need_both.body (startE d_need_both vs) s) else .stuck := callN_def f_need_both k vs s
theorem b_moments_of : isSs (sc.at N_moments_of) ⟨defScope (top 47), none⟩ d_moments_of.body (defBody (top 47)) = true := by decide +kernel
theorem s_moments_of : FnScope N_moments_of d_moments_of.ps (defScope (top 47)) := ⟨rfl, rfl, rfl, by decide +kernel, rfl, by decide +kernel, by decide +kernel⟩
theorem f_moments_of : prog.find d_moments_of.name = some d_moments_of := by rfl
theorem c_moments_of (k : Nat) (vs : List Val) (s : Sto) : callN prog (k + 1) "moments_of" vs s = if vs.length = 2 then finish (execs (ctxOf prog (callN prog k)) d_moments_of.body (startE d_moments_of vs) s) else .stuck := callN_def f_moments_of k vs s
theorem b_spans_of : isSs (sc.at N_spans_of) ⟨defScope (top 48), none⟩ d_spans_of.body (defBody (top 48)) = true := by decide +kernel
theorem s_spans_of : FnScope N_spans_of d_spans_of.ps (defScope (top 48)) := ⟨rfl, rfl, rfl, by decide +kernel, rfl, by decide +kernel, by decide +kernel⟩
theorem f_spans_of : prog.find d_spans_of.name = some d_spans_of := by rfl
theorem c_spans_of (k : Nat) (vs : List Val) (s : Sto) : callN prog (k + 1) "spans_of" vs s = if vs.length = 2 then finish (execs (ctxOf prog (callN prog k)) d_spans_of.body (startE d_spans_of vs) s) else .stuck := callN_def f_spans_of k vs s
theorem b_plus : isSs (sc.at N_plus) ⟨defScope (top 13), none⟩ d_plus.body (defBody (top 13)) = true := by decide +kernel
theorem s_plus : FnScope N_plus d_plus.ps (defScope (top 13)) := ⟨rfl, rfl, rfl, by decide +kernel, rfl, by decide +kernel, by decide +kernel⟩
theorem f_plus : prog.find d_plus.name = some d_plus := by rfl
theorem c_plus (k : Nat) (vs : List Val) (s : Sto) : callN prog (k + 1) "plus" vs s = if vs.length = 2 then finish (execs (ctxOf prog (callN prog k)) d_plus.body (startE d_plus vs) s) else .stuck := callN_def f_plus k vs s
theorem b_less : isSs (sc.at N_less) ⟨defScope (top 14), none⟩ d_less.body (defBody (top 14)) = true := by decide +kernel
theorem s_less : FnScope N_less d_less.ps (defScope (top 14)) := ⟨rfl, rfl, rfl, by decide +kernel, rfl, by decide +kernel, by decide +kernel⟩
theorem f_less : prog.find d_less.name = some d_less := by rfl
theorem c_less (k : Nat) (vs : List Val) (s : Sto) : callN prog (k + 1) "less" vs s = if vs.length = 2 then finish (execs (ctxOf prog (callN prog k)) d_less.body (startE d_less vs) s) else .stuck := callN_def f_less k vs s
theorem b_need_brigade : isSs (sc.at N_need_brigade) ⟨defScope (top 40), none⟩ d_need_brigade.body (defBody (top 40)) = true := by decide +kernel
theorem s_need_brigade : FnScope N_need_brigade d_need_brigade.ps (defScope (top 40)) := ⟨rfl, rfl, rfl, by decide +kernel, rfl, by decide +kernel, by decide +kernel⟩
theorem f_need_brigade : prog.find d_need_brigade.name = some d_need_brigade := by rfl
theorem c_need_brigade (k : Nat) (vs : List Val) (s : Sto) : callN prog (k + 1) "need_brigade" vs s = if vs.length = 1 then finish (execs (ctxOf prog (callN prog k)) d_need_brigade.body (startE d_need_brigade vs) s) else .stuck := callN_def f_need_brigade k vs s
theorem b_goes_rising : isSs (sc.at N_goes_rising) ⟨defScope (top 43), none⟩ d_goes_rising.body (defBody (top 43)) = true := by decide +kernel
theorem s_goes_rising : FnScope N_goes_rising d_goes_rising.ps (defScope (top 43)) := ⟨rfl, rfl, rfl, by decide +kernel, rfl, by decide +kernel, by decide +kernel⟩
theorem f_goes_rising : prog.find d_goes_rising.name = some d_goes_rising := by rfl
theorem c_goes_rising (k : Nat) (vs : List Val) (s : Sto) : callN prog (k + 1) "goes_rising" vs s = if vs.length = 1 then finish (execs (ctxOf prog (callN prog k)) d_goes_rising.body (startE d_goes_rising vs) s) else .stuck := callN_def f_goes_rising k vs s
theorem b_anew : isSs (sc.at N_anew) ⟨defScope (top 8), none⟩ d_anew.body (defBody (top 8)) = true := by decide +kernel
theorem s_anew : FnScope N_anew d_anew.ps (defScope (top 8)) := ⟨rfl, rfl, rfl, by decide +kernel, rfl, by decide +kernel, by decide +kernel⟩
theorem f_anew : prog.find d_anew.name = some d_anew := by rfl
theorem c_anew (k : Nat) (vs : List Val) (s : Sto) : callN prog (k + 1) "anew" vs s = if vs.length = 1 then finish (execs (ctxOf prog (callN prog k)) d_anew.body (startE d_anew vs) s) else .stuck := callN_def f_anew k vs s
theorem b_need_places : isSs (sc.at N_need_places) ⟨defScope (top 42), none⟩ d_need_places.body (defBody (top 42)) = true := by decide +kernel
theorem s_need_places : FnScope N_need_places d_need_places.ps (defScope (top 42)) := ⟨rfl, rfl, rfl, by decide +kernel, rfl, by decide +kernel, by decide +kernel⟩
theorem f_need_places : prog.find d_need_places.name = some d_need_places := by rfl
theorem c_need_places (k : Nat) (vs : List Val) (s : Sto) : callN prog (k + 1) "need_places" vs s = if vs.length = 2 then finish (execs (ctxOf prog (callN prog k)) d_need_places.body (startE d_need_places vs) s) else .stuck := callN_def f_need_places k vs s
theorem b_stepped : isSs (sc.at N_stepped) ⟨defScope (top 33), none⟩ d_stepped.body (defBody (top 33)) = true := by decide +kernel
theorem s_stepped : FnScope N_stepped d_stepped.ps (defScope (top 33)) := ⟨rfl, rfl, rfl, by decide +kernel, rfl, by decide +kernel, by decide +kernel⟩
theorem f_stepped : prog.find d_stepped.name = some d_stepped := by rfl
theorem c_stepped (k : Nat) (vs : List Val) (s : Sto) : callN prog (k + 1) "stepped" vs s = if vs.length = 2 then finish (execs (ctxOf prog (callN prog k)) d_stepped.body (startE d_stepped vs) s) else .stuck := callN_def f_stepped k vs s
theorem b_times : isSs (sc.at N_times) ⟨defScope (top 15), none⟩ d_times.body (defBody (top 15)) = true := by decide +kernel
theorem s_times : FnScope N_times d_times.ps (defScope (top 15)) := ⟨rfl, rfl, rfl, by decide +kernel, rfl, by decide +kernel, by decide +kernel⟩
theorem f_times : prog.find d_times.name = some d_times := by rfl
theorem c_times (k : Nat) (vs : List Val) (s : Sto) : callN prog (k + 1) "times" vs s = if vs.length = 2 then finish (execs (ctxOf prog (callN prog k)) d_times.body (startE d_times vs) s) else .stuck := callN_def f_times k vs s
theorem b__law_div : isSs (sc.at N__law_div) ⟨defScope (top 60), none⟩ d__law_div.body (defBody (top 60)) = true := by decide +kernel
theorem s__law_div : FnScope N__law_div d__law_div.ps (defScope (top 60)) := ⟨rfl, rfl, rfl, by decide +kernel, rfl, by decide +kernel, by decide +kernel⟩
theorem f__law_div : prog.find d__law_div.name = some d__law_div := by rfl
theorem c__law_div (k : Nat) (vs : List Val) (s : Sto) : callN prog (k + 1) "_law_div" vs s = if vs.length = 2 then finish (execs (ctxOf prog (callN prog k)) d__law_div.body (startE d__law_div vs) s) else .stuck := callN_def f__law_div k vs s
theorem b__law_least : isSs (sc.at N__law_least) ⟨defScope (top 67), none⟩ d__law_least.body (defBody (top 67)) = true := by decide +kernel
theorem s__law_least : FnScope N__law_least d__law_least.ps (defScope (top 67)) := ⟨rfl, rfl, rfl, by decide +kernel, rfl, by decide +kernel, by decide +kernel⟩
theorem f__law_least : prog.find d__law_least.name = some d__law_least := by rfl
theorem c__law_least (k : Nat) (vs : List Val) (s : Sto) : callN prog (k + 1) "_law_least" vs s = if vs.length = 1 then finish (execs (ctxOf prog (callN prog k)) d__law_least.body (startE d__law_least vs) s) else .stuck := callN_def f__law_least k vs s
theorem b__law_piece : isSs (sc.at N__law_piece) ⟨defScope (top 66), none⟩ d__law_piece.body (defBody (top 66)) = true := by decide +kernel
theorem s__law_piece : FnScope N__law_piece d__law_piece.ps (defScope (top 66)) := ⟨rfl, rfl, rfl, by decide +kernel, rfl, by decide +kernel, by decide +kernel⟩
theorem f__law_piece : prog.find d__law_piece.name = some d__law_piece := by rfl
theorem c__law_piece (k : Nat) (vs : List Val) (s : Sto) : callN prog (k + 1) "_law_piece" vs s = if vs.length = 2 then finish (execs (ctxOf prog (callN prog k)) d__law_piece.body (startE d__law_piece vs) s) else .stuck := callN_def f__law_piece k vs s
theorem b_next_moment : isSs (sc.at N_next_moment) ⟨defScope (top 31), none⟩ d_next_moment.body (defBody (top 31)) = true := by decide +kernel
theorem s_next_moment : FnScope N_next_moment d_next_moment.ps (defScope (top 31)) := ⟨rfl, rfl, rfl, by decide +kernel, rfl, by decide +kernel, by decide +kernel⟩
theorem f_next_moment : prog.find d_next_moment.name = some d_next_moment := by rfl
theorem c_next_moment (k : Nat) (vs : List Val) (s : Sto) : callN prog (k + 1) "next_moment" vs s = if vs.length = 2 then finish (execs (ctxOf prog (callN prog k)) d_next_moment.body (startE d_next_moment vs) s) else .stuck := callN_def f_next_moment k vs s
theorem b_held_now : isSs (sc.at N_held_now) ⟨defScope (top 28), none⟩ d_held_now.body (defBody (top 28)) = true := by decide +kernel
theorem s_held_now : FnScope N_held_now d_held_now.ps (defScope (top 28)) := ⟨rfl, rfl, rfl, by decide +kernel, rfl, by decide +kernel, by decide +kernel⟩
theorem f_held_now : prog.find d_held_now.name = some d_held_now := by rfl
theorem c_held_now (k : Nat) (vs : List Val) (s : Sto) : callN prog (k + 1) "held_now" vs s = if vs.length = 2 then finish (execs (ctxOf prog (callN prog k)) d_held_now.body (startE d_held_now vs) s) else .stuck := callN_def f_held_now k vs s
theorem b_moved : isSs (sc.at N_moved) ⟨defScope (top 32), none⟩ d_moved.body (defBody (top 32)) = true := by decide +kernel
theorem s_moved : FnScope N_moved d_moved.ps (defScope (top 32)) := ⟨rfl, rfl, rfl, by decide +kernel, rfl, by decide +kernel, by decide +kernel⟩
theorem f_moved : prog.find d_moved.name = some d_moved := by rfl
theorem c_moved (k : Nat) (vs : List Val) (s : Sto) : callN prog (k + 1) "moved" vs s = if vs.length = 3 then finish (execs (ctxOf prog (callN prog k)) d_moved.body (startE d_moved vs) s) else .stuck := callN_def f_moved k vs s
theorem b_make : isSs (sc.at N_make) ⟨defScope (top 12), none⟩ d_make.body (defBody (top 12)) = true := by decide +kernel
theorem s_make : FnScope N_make d_make.ps (defScope (top 12)) := ⟨rfl, rfl, rfl, by decide +kernel, rfl, by decide +kernel, by decide +kernel⟩
theorem f_make : prog.find d_make.name = some d_make := by rfl
theorem c_make (k : Nat) (vs : List Val) (s : Sto) : callN prog (k + 1) "make" vs s = if vs.length = 2 then finish (execs (ctxOf prog (callN prog k)) d_make.body (startE d_make vs) s) else .stuck := callN_def f_make k vs s
theorem b_is_a_brigade : isSs (sc.at N_is_a_brigade) ⟨defScope (top 39), none⟩ d_is_a_brigade.body (defBody (top 39)) = true := by decide +kernel
theorem s_is_a_brigade : FnScope N_is_a_brigade d_is_a_brigade.ps (defScope (top 39)) := ⟨rfl, rfl, rfl, by decide +kernel, rfl, by decide +kernel, by decide +kernel⟩
theorem f_is_a_brigade : prog.find d_is_a_brigade.name = some d_is_a_brigade := by rfl
theorem c_is_a_brigade (k : Nat) (vs : List Val) (s : Sto) : callN prog (k + 1) "is_a_brigade" vs s = if vs.length = 1 then finish (execs (ctxOf prog (callN prog k)) d_is_a_brigade.body (startE d_is_a_brigade vs) s) else .stuck := callN_def f_is_a_brigade k vs s
theorem b_is_at_most : isSs (sc.at N_is_at_most) ⟨defScope (top 19), none⟩ d_is_at_most.body (defBody (top 19)) = true := by decide +kernel
theorem s_is_at_most : FnScope N_is_at_most d_is_at_most.ps (defScope (top 19)) := ⟨rfl, rfl, rfl, by decide +kernel, rfl, by decide +kernel, by decide +kernel⟩
theorem f_is_at_most : prog.find d_is_at_most.name = some d_is_at_most := by rfl
theorem c_is_at_most (k : Nat) (vs : List Val) (s : Sto) : callN prog (k + 1) "is_at_most" vs s = if vs.length = 2 then finish (execs (ctxOf prog (callN prog k)) d_is_at_most.body (startE d_is_at_most vs) s) else .stuck := callN_def f_is_at_most k vs s
theorem b_are_places_of : isSs (sc.at N_are_places_of) ⟨defScope (top 41), none⟩ d_are_places_of.body (defBody (top 41)) = true := by decide +kernel
theorem s_are_places_of : FnScope N_are_places_of d_are_places_of.ps (defScope (top 41)) := ⟨rfl, rfl, rfl, by decide +kernel, rfl, by decide +kernel, by decide +kernel⟩
theorem f_are_places_of : prog.find d_are_places_of.name = some d_are_places_of := by rfl
theorem c_are_places_of (k : Nat) (vs : List Val) (s : Sto) : callN prog (k + 1) "are_places_of" vs s = if vs.length = 2 then finish (execs (ctxOf prog (callN prog k)) d_are_places_of.body (startE d_are_places_of vs) s) else .stuck := callN_def f_are_places_of k vs s
theorem b_real_speeds : isSs (sc.at N_real_speeds) ⟨defScope (top 27), none⟩ d_real_speeds.body (defBody (top 27)) = true := by decide +kernel
theorem s_real_speeds : FnScope N_real_speeds d_real_speeds.ps (defScope (top 27)) := ⟨rfl, rfl, rfl, by decide +kernel, rfl, by decide +kernel, by decide +kernel⟩
theorem f_real_speeds : prog.find d_real_speeds.name = some d_real_speeds := by rfl
theorem c_real_speeds (k : Nat) (vs : List Val) (s : Sto) : callN prog (k + 1) "real_speeds" vs s = if vs.length = 2 then finish (execs (ctxOf prog (callN prog k)) d_real_speeds.body (startE d_real_speeds vs) s) else .stuck := callN_def f_real_speeds k vs s
theorem b_over : isSs (sc.at N_over) ⟨defScope (top 16), none⟩ d_over.body (defBody (top 16)) = true := by decide +kernel
theorem s_over : FnScope N_over d_over.ps (defScope (top 16)) := ⟨rfl, rfl, rfl, by decide +kernel, rfl, by decide +kernel, by decide +kernel⟩
theorem f_over : prog.find d_over.name = some d_over := by rfl
theorem c_over (k : Nat) (vs : List Val) (s : Sto) : callN prog (k + 1) "over" vs s = if vs.length = 2 then finish (execs (ctxOf prog (callN prog k)) d_over.body (startE d_over vs) s) else .stuck := callN_def f_over k vs s
theorem b_next_mark : isSs (sc.at N_next_mark) ⟨defScope (top 29), none⟩ d_next_mark.body (defBody (top 29)) = true := by decide +kernel
theorem s_next_mark : FnScope N_next_mark d_next_mark.ps (defScope (top 29)) := ⟨rfl, rfl, rfl, by decide +kernel, rfl, by decide +kernel, by decide +kernel⟩
theorem f_next_mark : prog.find d_next_mark.name = some d_next_mark := by rfl
theorem c_next_mark (k : Nat) (vs : List Val) (s : Sto) : callN prog (k + 1) "next_mark" vs s = if vs.length = 2 then finish (execs (ctxOf prog (callN prog k)) d_next_mark.body (startE d_next_mark vs) s) else .stuck := callN_def f_next_mark k vs s
theorem b_is_below : isSs (sc.at N_is_below) ⟨defScope (top 18), none⟩ d_is_below.body (defBody (top 18)) = true := by decide +kernel
theorem s_is_below : FnScope N_is_below d_is_below.ps (defScope (top 18)) := ⟨rfl, rfl, rfl, by decide +kernel, rfl, by decide +kernel, by decide +kernel⟩
theorem f_is_below : prog.find d_is_below.name = some d_is_below := by rfl
theorem c_is_below (k : Nat) (vs : List Val) (s : Sto) : callN prog (k + 1) "is_below" vs s = if vs.length = 2 then finish (execs (ctxOf prog (callN prog k)) d_is_below.body (startE d_is_below vs) s) else .stuck := callN_def f_is_below k vs s
theorem b_least_of : isSs (sc.at N_least_of) ⟨defScope (top 30), none⟩ d_least_of.body (defBody (top 30)) = true := by decide +kernel
theorem s_least_of : FnScope N_least_of d_least_of.ps (defScope (top 30)) := ⟨rfl, rfl, rfl, by decide +kernel, rfl, by decide +kernel, by decide +kernel⟩
theorem f_least_of : prog.find d_least_of.name = some d_least_of := by rfl
theorem c_least_of (k : Nat) (vs : List Val) (s : Sto) : callN prog (k + 1) "least_of" vs s = if vs.length = 1 then finish (execs (ctxOf prog (callN prog k)) d_least_of.body (startE d_least_of vs) s) else .stuck := callN_def f_least_of k vs s
theorem b_own_speeds : isSs (sc.at N_own_speeds) ⟨defScope (top 26), none⟩ d_own_speeds.body (defBody (top 26)) = true := by decide +kernel
theorem s_own_speeds : FnScope N_own_speeds d_own_speeds.ps (defScope (top 26)) := ⟨rfl, rfl, rfl, by decide +kernel, rfl, by decide +kernel, by decide +kernel⟩
theorem f_own_speeds : prog.find d_own_speeds.name = some d_own_speeds := by rfl
theorem c_own_speeds (k : Nat) (vs : List Val) (s : Sto) : callN prog (k + 1) "own_speeds" vs s = if vs.length = 2 then finish (execs (ctxOf prog (callN prog k)) d_own_speeds.body (startE d_own_speeds vs) s) else .stuck := callN_def f_own_speeds k vs s
theorem b_is_tuple : isSs (sc.at N_is_tuple) ⟨defScope (top 7), none⟩ d_is_tuple.body (defBody (top 7)) = true := by decide +kernel
theorem s_is_tuple : FnScope N_is_tuple d_is_tuple.ps (defScope (top 7)) := ⟨rfl, rfl, rfl, by decide +kernel, rfl, by decide +kernel, by decide +kernel⟩
theorem f_is_tuple : prog.find d_is_tuple.name = some d_is_tuple := by rfl
theorem c_is_tuple (k : Nat) (vs : List Val) (s : Sto) : callN prog (k + 1) "is_tuple" vs s = if vs.length = 3 then finish (execs (ctxOf prog (callN prog k)) d_is_tuple.body (startE d_is_tuple vs) s) else .stuck := callN_def f_is_tuple k vs s
theorem b_are_cuts : isSs (sc.at N_are_cuts) ⟨defScope (top 37), none⟩ d_are_cuts.body (defBody (top 37)) = true := by decide +kernel
theorem s_are_cuts : FnScope N_are_cuts d_are_cuts.ps (defScope (top 37)) := ⟨rfl, rfl, rfl, by decide +kernel, rfl, by decide +kernel, by decide +kernel⟩
theorem f_are_cuts : prog.find d_are_cuts.name = some d_are_cuts := by rfl
theorem c_are_cuts (k : Nat) (vs : List Val) (s : Sto) : callN prog (k + 1) "are_cuts" vs s = if vs.length = 1 then finish (execs (ctxOf prog (callN prog k)) d_are_cuts.body (startE d_are_cuts vs) s) else .stuck := callN_def f_are_cuts k vs s
theorem b_are_speeds : isSs (sc.at N_are_speeds) ⟨defScope (top 38), none⟩ d_are_speeds.body (defBody (top 38)) = true := by decide +kernel
theorem s_are_speeds : FnScope N_are_speeds d_are_speeds.ps (defScope (top 38)) := ⟨rfl, rfl, rfl, by decide +kernel, rfl, by decide +kernel, by decide +kernel⟩
theorem f_are_speeds : prog.find d_are_speeds.name = some d_are_speeds := by rfl
theorem c_are_speeds (k : Nat) (vs : List Val) (s : Sto) : callN prog (k + 1) "are_speeds" vs s = if vs.length = 2 then finish (execs (ctxOf prog (callN prog k)) d_are_speeds.body (startE d_are_speeds vs) s) else .stuck := callN_def f_are_speeds k vs s
theorem b_is_between : isSs (sc.at N_is_between) ⟨defScope (top 20), none⟩ d_is_between.body (defBody (top 20)) = true := by decide +kernel
theorem s_is_between : FnScope N_is_between d_is_between.ps (defScope (top 20)) := ⟨rfl, rfl, rfl, by decide +kernel, rfl, by decide +kernel, by decide +kernel⟩
theorem f_is_between : prog.find d_is_between.name = some d_is_between := by rfl
theorem c_is_between (k : Nat) (vs : List Val) (s : Sto) : callN prog (k + 1) "is_between" vs s = if vs.length = 3 then finish (execs (ctxOf prog (callN prog k)) d_is_between.body (startE d_is_between vs) s) else .stuck := callN_def f_is_between k vs s
theorem b_are_not_falling : isSs (sc.at N_are_not_falling) ⟨defScope (top 23), none⟩ d_are_not_falling.body (defBody (top 23)) = true := by decide +kernel
theorem s_are_not_falling : FnScope N_are_not_falling d_are_not_falling.ps (defScope (top 23)) := ⟨rfl, rfl, rfl, by decide +kernel, rfl, by decide +kernel, by decide +kernel⟩
theorem f_are_not_falling : prog.find d_are_not_falling.name = some d_are_not_falling := by rfl
theorem c_are_not_falling (k : Nat) (vs : List Val) (s : Sto) : callN prog (k + 1) "are_not_falling" vs s = if vs.length = 1 then finish (execs (ctxOf prog (callN prog k)) d_are_not_falling.body (startE d_are_not_falling vs) s) else .stuck := callN_def f_are_not_falling k vs s
theorem b_piece_at : isSs (sc.at N_piece_at) ⟨defScope (top 25), none⟩ d_piece_at.body (defBody (top 25)) = true := by decide +kernel
theorem s_piece_at : FnScope N_piece_at d_piece_at.ps (defScope (top 25)) := ⟨rfl, rfl, rfl, by decide +kernel, rfl, by decide +kernel, by decide +kernel⟩
theorem f_piece_at : prog.find d_piece_at.name = some d_piece_at := by rfl
theorem c_piece_at (k : Nat) (vs : List Val) (s : Sto) : callN prog (k + 1) "piece_at" vs s = if vs.length = 2 then finish (execs (ctxOf prog (callN prog k)) d_piece_at.body (startE d_piece_at vs) s) else .stuck := callN_def f_piece_at k vs s
theorem b_is_fraction : isSs (sc.at N_is_fraction) ⟨defScope (top 17), none⟩ d_is_fraction.body (defBody (top 17)) = true := by decide +kernel
theorem s_is_fraction : FnScope N_is_fraction d_is_fraction.ps (defScope (top 17)) := ⟨rfl, rfl, rfl, by decide +kernel, rfl, by decide +kernel, by decide +kernel⟩
theorem f_is_fraction : prog.find d_is_fraction.name = some d_is_fraction := by rfl
theorem c_is_fraction (k : Nat) (vs : List Val) (s : Sto) : callN prog (k + 1) "is_fraction" vs s = if vs.length = 1 then finish (execs (ctxOf prog (callN prog k)) d_is_fraction.body (startE d_is_fraction vs) s) else .stuck := callN_def f_is_fraction k vs s
theorem b_are_growing : isSs (sc.at N_are_growing) ⟨defScope (top 22), none⟩ d_are_growing.body (defBody (top 22)) = true := by decide +kernel
theorem s_are_growing : FnScope N_are_growing d_are_growing.ps (defScope (top 22)) := ⟨rfl, rfl, rfl, by decide +kernel, rfl, by decide +kernel, by decide +kernel⟩
theorem f_are_growing : prog.find d_are_growing.name = some d_are_growing := by rfl
theorem c_are_growing (k : Nat) (vs : List Val) (s : Sto) : callN prog (k + 1) "are_growing" vs s = if vs.length = 1 then finish (execs (ctxOf prog (callN prog k)) d_are_growing.body (startE d_are_growing vs) s) else .stuck := callN_def f_are_growing k vs s
theorem b_is_positive : isSs (sc.at N_is_positive) ⟨defScope (top 21), none⟩ d_is_positive.body (defBody (top 21)) = true := by decide +kernel
theorem s_is_positive : FnScope N_is_positive d_is_positive.ps (defScope (top 21)) := ⟨rfl, rfl, rfl, by decide +kernel, rfl, by decide +kernel, by decide +kernel⟩
theorem f_is_positive : prog.find d_is_positive.name = some d_is_positive := by rfl
theorem c_is_positive (k : Nat) (vs : List Val) (s : Sto) : callN prog (k + 1) "is_positive" vs s = if vs.length = 1 then finish (execs (ctxOf prog (callN prog k)) d_is_positive.body (startE d_is_positive vs) s) else .stuck := callN_def f_is_positive k vs s
theorem b_is_integer : isSs (sc.at N_is_integer) ⟨defScope (top 6), none⟩ d_is_integer.body (defBody (top 6)) = true := by decide +kernel
theorem s_is_integer : FnScope N_is_integer d_is_integer.ps (defScope (top 6)) := ⟨rfl, rfl, rfl, by decide +kernel, rfl, by decide +kernel, by decide +kernel⟩
theorem f_is_integer : prog.find d_is_integer.name = some d_is_integer := by rfl
theorem c_is_integer (k : Nat) (vs : List Val) (s : Sto) : callN prog (k + 1) "is_integer" vs s = if vs.length = 1 then finish (execs (ctxOf prog (callN prog k)) d_is_integer.body (startE d_is_integer vs) s) else .stuck := callN_def f_is_integer k vs s
theorem kb_0 : KBs d__law_pool.name (top 54) d__law_pool.ps 2 [] := fun _ _ _ _ _ _ us ws h1 h2 => match us, ws, h1, h2 with | [_, _], [], _, _ => rfl
theorem kb_1 : KBs d__law_brigade.name (top 65) d__law_brigade.ps 4 [] := fun _ _ _ _ _ _ us ws h1 h2 => match us, ws, h1, h2 with | [_, _, _, _], [], _, _ => rfl
theorem kb_2 : KBs d__law_places.name (top 63) d__law_places.ps 2 [] := fun _ _ _ _ _ _ us ws h1 h2 => match us, ws, h1, h2 with | [_, _], [], _, _ => rfl
theorem kb_3 : KBs d__law_spans.name (top 71) d__law_spans.ps 2 [] := fun _ _ _ _ _ _ us ws h1 h2 => match us, ws, h1, h2 with | [_, _], [], _, _ => rfl
theorem kb_4 : KBs d__law_held.name (top 72) d__law_held.ps 2 [] := fun _ _ _ _ _ _ us ws h1 h2 => match us, ws, h1, h2 with | [_, _], [], _, _ => rfl
theorem kb_5 : KBs d_held_spans.name (top 49) d_held_spans.ps 2 [] := fun _ _ _ _ _ _ us ws h1 h2 => match us, ws, h1, h2 with | [_, _], [], _, _ => rfl
theorem kb_6 : KBs d_held_spans.name (top 49) d_held_spans.ps 0 ["places", "brigade"] := fun _ _ _ _ _ _ us ws h1 h2 => match us, ws, h1, h2 with | [], [_, _], _, _ => rfl
theorem kb_7 : KBs d__law_long.name (top 73) d__law_long.ps 1 [] := fun _ _ _ _ _ _ us ws h1 h2 => match us, ws, h1, h2 with | [_], [], _, _ => rfl
theorem kb_8 : KBs d_waited.name (top 50) d_waited.ps 2 [] := fun _ _ _ _ _ _ us ws h1 h2 => match us, ws, h1, h2 with | [_, _], [], _, _ => rfl
theorem kb_9 : KBs d_waited.name (top 50) d_waited.ps 0 ["places", "brigade"] := fun _ _ _ _ _ _ us ws h1 h2 => match us, ws, h1, h2 with | [], [_, _], _, _ => rfl
theorem kb_10 : KBs d_is_rising.name (top 44) d_is_rising.ps 1 [] := fun _ _ _ _ _ _ us ws h1 h2 => match us, ws, h1, h2 with | [_], [], _, _ => rfl
theorem kb_11 : KBs d__law_add.name (top 57) d__law_add.ps 2 [] := fun _ _ _ _ _ _ us ws h1 h2 => match us, ws, h1, h2 with | [_, _], [], _, _ => rfl
theorem kb_12 : KBs d__law_mul.name (top 59) d__law_mul.ps 2 [] := fun _ _ _ _ _ _ us ws h1 h2 => match us, ws, h1, h2 with | [_, _], [], _, _ => rfl
theorem kb_13 : KBs d__law_sub.name (top 58) d__law_sub.ps 2 [] := fun _ _ _ _ _ _ us ws h1 h2 => match us, ws, h1, h2 with | [_, _], [], _, _ => rfl
theorem kb_14 : KBs d_lost.name (top 52) d_lost.ps 2 [] := fun _ _ _ _ _ _ us ws h1 h2 => match us, ws, h1, h2 with | [_, _], [], _, _ => rfl
theorem kb_15 : KBs d__law_twelfths.name (top 62) d__law_twelfths.ps 4 [] := fun _ _ _ _ _ _ us ws h1 h2 => match us, ws, h1, h2 with | [_, _, _, _], [], _, _ => rfl
theorem kb_16 : KBs d__law_take.name (top 55) d__law_take.ps 2 [] := fun _ _ _ _ _ _ us ws h1 h2 => match us, ws, h1, h2 with | [_, _], [], _, _ => rfl
theorem kb_17 : KBs d__law_speed.name (top 64) d__law_speed.ps 1 [] := fun _ _ _ _ _ _ us ws h1 h2 => match us, ws, h1, h2 with | [_], [], _, _ => rfl
theorem kb_18 : KBs d__law_make.name (top 56) d__law_make.ps 2 [] := fun _ _ _ _ _ _ us ws h1 h2 => match us, ws, h1, h2 with | [_, _], [], _, _ => rfl
theorem kb_19 : KBs d__law_moment.name (top 69) d__law_moment.ps 2 [] := fun _ _ _ _ _ _ us ws h1 h2 => match us, ws, h1, h2 with | [_, _], [], _, _ => rfl
theorem kb_20 : KBs d__law_speeds.name (top 68) d__law_speeds.ps 2 [] := fun _ _ _ _ _ _ us ws h1 h2 => match us, ws, h1, h2 with | [_, _], [], _, _ => rfl
theorem kb_21 : KBs d__law_moved.name (top 70) d__law_moved.ps 3 [] := fun _ _ _ _ _ _ us ws h1 h2 => match us, ws, h1, h2 with | [_, _, _], [], _, _ => rfl
theorem kb_22 : KBs d__law_less.name (top 61) d__law_less.ps 2 [] := fun _ _ _ _ _ _ us ws h1 h2 => match us, ws, h1, h2 with | [_, _], [], _, _ => rfl
theorem kb_23 : KBs d_need_both.name (top 46) d_need_both.ps 2 [] := fun _ _ _ _ _ _ us ws h1 h2 => match us, ws, h1, h2 with | [_, _], [], _, _ => rfl
theorem kb_24 : KBs d_moments_of.name (top 47) d_moments_of.ps 2 [] := fun _ _ _ _ _ _ us ws h1 h2 => match us, ws, h1, h2 with | [_, _], [], _, _ => rfl
theorem kb_25 : KBs d_spans_of.name (top 48) d_spans_of.ps 2 [] := fun _ _ _ _ _ _ us ws h1 h2 => match us, ws, h1, h2 with | [_, _], [], _, _ => rfl
theorem kb_26 : KBs d_plus.name (top 13) d_plus.ps 2 [] := fun _ _ _ _ _ _ us ws h1 h2 => match us, ws, h1, h2 with | [_, _], [], _, _ => rfl
theorem kb_27 : KBs d_less.name (top 14) d_less.ps 2 [] := fun _ _ _ _ _ _ us ws h1 h2 => match us, ws, h1, h2 with | [_, _], [], _, _ => rfl
theorem kb_28 : KBs d_need_brigade.name (top 40) d_need_brigade.ps 1 [] := fun _ _ _ _ _ _ us ws h1 h2 => match us, ws, h1, h2 with | [_], [], _, _ => rfl
theorem kb_29 : KBs d_goes_rising.name (top 43) d_goes_rising.ps 1 [] := fun _ _ _ _ _ _ us ws h1 h2 => match us, ws, h1, h2 with | [_], [], _, _ => rfl
theorem kb_30 : KBs d_anew.name (top 8) d_anew.ps 1 [] := fun _ _ _ _ _ _ us ws h1 h2 => match us, ws, h1, h2 with | [_], [], _, _ => rfl
theorem kb_31 : KBs d_need_places.name (top 42) d_need_places.ps 2 [] := fun _ _ _ _ _ _ us ws h1 h2 => match us, ws, h1, h2 with | [_, _], [], _, _ => rfl
theorem kb_32 : KBs d_stepped.name (top 33) d_stepped.ps 2 [] := fun _ _ _ _ _ _ us ws h1 h2 => match us, ws, h1, h2 with | [_, _], [], _, _ => rfl
theorem kb_33 : KBs d_times.name (top 15) d_times.ps 2 [] := fun _ _ _ _ _ _ us ws h1 h2 => match us, ws, h1, h2 with | [_, _], [], _, _ => rfl
theorem kb_34 : KBs d__law_div.name (top 60) d__law_div.ps 2 [] := fun _ _ _ _ _ _ us ws h1 h2 => match us, ws, h1, h2 with | [_, _], [], _, _ => rfl
theorem kb_35 : KBs d__law_least.name (top 67) d__law_least.ps 1 [] := fun _ _ _ _ _ _ us ws h1 h2 => match us, ws, h1, h2 with | [_], [], _, _ => rfl
theorem kb_36 : KBs d__law_piece.name (top 66) d__law_piece.ps 2 [] := fun _ _ _ _ _ _ us ws h1 h2 => match us, ws, h1, h2 with | [_, _], [], _, _ => rfl
theorem kb_37 : KBs d_next_moment.name (top 31) d_next_moment.ps 2 [] := fun _ _ _ _ _ _ us ws h1 h2 => match us, ws, h1, h2 with | [_, _], [], _, _ => rfl
theorem kb_38 : KBs d_held_now.name (top 28) d_held_now.ps 2 [] := fun _ _ _ _ _ _ us ws h1 h2 => match us, ws, h1, h2 with | [_, _], [], _, _ => rfl
theorem kb_39 : KBs d_moved.name (top 32) d_moved.ps 3 [] := fun _ _ _ _ _ _ us ws h1 h2 => match us, ws, h1, h2 with | [_, _, _], [], _, _ => rfl
theorem kb_40 : KBs d_make.name (top 12) d_make.ps 2 [] := fun _ _ _ _ _ _ us ws h1 h2 => match us, ws, h1, h2 with | [_, _], [], _, _ => rfl
theorem kb_41 : KBs d_is_a_brigade.name (top 39) d_is_a_brigade.ps 1 [] := fun _ _ _ _ _ _ us ws h1 h2 => match us, ws, h1, h2 with | [_], [], _, _ => rfl
theorem kb_42 : KBs d_is_at_most.name (top 19) d_is_at_most.ps 2 [] := fun _ _ _ _ _ _ us ws h1 h2 => match us, ws, h1, h2 with | [_, _], [], _, _ => rfl
theorem kb_43 : KBs d_are_places_of.name (top 41) d_are_places_of.ps 2 [] := fun _ _ _ _ _ _ us ws h1 h2 => match us, ws, h1, h2 with | [_, _], [], _, _ => rfl
theorem kb_44 : KBs d_real_speeds.name (top 27) d_real_speeds.ps 2 [] := fun _ _ _ _ _ _ us ws h1 h2 => match us, ws, h1, h2 with | [_, _], [], _, _ => rfl
theorem kb_45 : KBs d_over.name (top 16) d_over.ps 2 [] := fun _ _ _ _ _ _ us ws h1 h2 => match us, ws, h1, h2 with | [_, _], [], _, _ => rfl
theorem kb_46 : KBs d_next_mark.name (top 29) d_next_mark.ps 2 [] := fun _ _ _ _ _ _ us ws h1 h2 => match us, ws, h1, h2 with | [_, _], [], _, _ => rfl
theorem kb_47 : KBs d_is_below.name (top 18) d_is_below.ps 2 [] := fun _ _ _ _ _ _ us ws h1 h2 => match us, ws, h1, h2 with | [_, _], [], _, _ => rfl
theorem kb_48 : KBs d_least_of.name (top 30) d_least_of.ps 1 [] := fun _ _ _ _ _ _ us ws h1 h2 => match us, ws, h1, h2 with | [_], [], _, _ => rfl
theorem kb_49 : KBs d_own_speeds.name (top 26) d_own_speeds.ps 2 [] := fun _ _ _ _ _ _ us ws h1 h2 => match us, ws, h1, h2 with | [_, _], [], _, _ => rfl
theorem kb_50 : KBs d_is_tuple.name (top 7) d_is_tuple.ps 3 [] := fun _ _ _ _ _ _ us ws h1 h2 => match us, ws, h1, h2 with | [_, _, _], [], _, _ => rfl
theorem kb_51 : KBs d_are_cuts.name (top 37) d_are_cuts.ps 1 [] := fun _ _ _ _ _ _ us ws h1 h2 => match us, ws, h1, h2 with | [_], [], _, _ => rfl
theorem kb_52 : KBs d_are_speeds.name (top 38) d_are_speeds.ps 2 [] := fun _ _ _ _ _ _ us ws h1 h2 => match us, ws, h1, h2 with | [_, _], [], _, _ => rfl
theorem kb_53 : KBs d_is_between.name (top 20) d_is_between.ps 3 [] := fun _ _ _ _ _ _ us ws h1 h2 => match us, ws, h1, h2 with | [_, _, _], [], _, _ => rfl
theorem kb_54 : KBs d_are_not_falling.name (top 23) d_are_not_falling.ps 1 [] := fun _ _ _ _ _ _ us ws h1 h2 => match us, ws, h1, h2 with | [_], [], _, _ => rfl
theorem kb_55 : KBs d_piece_at.name (top 25) d_piece_at.ps 2 [] := fun _ _ _ _ _ _ us ws h1 h2 => match us, ws, h1, h2 with | [_, _], [], _, _ => rfl
theorem kb_56 : KBs d_is_fraction.name (top 17) d_is_fraction.ps 1 [] := fun _ _ _ _ _ _ us ws h1 h2 => match us, ws, h1, h2 with | [_], [], _, _ => rfl
theorem kb_57 : KBs d_are_growing.name (top 22) d_are_growing.ps 1 [] := fun _ _ _ _ _ _ us ws h1 h2 => match us, ws, h1, h2 with | [_], [], _, _ => rfl
theorem kb_58 : KBs d_is_positive.name (top 21) d_is_positive.ps 1 [] := fun _ _ _ _ _ _ us ws h1 h2 => match us, ws, h1, h2 with | [_], [], _, _ => rfl
theorem kb_59 : KBs d_is_integer.name (top 6) d_is_integer.ps 1 [] := fun _ _ _ _ _ _ us ws h1 h2 => match us, ws, h1, h2 with | [_], [], _, _ => rfl
theorem kb_60 : KBs d_law.name (top 74) d_law.ps 1 [] := fun _ _ _ _ _ _ us ws h1 h2 => match us, ws, h1, h2 with | [_], [], _, _ => rfl
theorem hasL {K : PySem.W.Frag} {mg : Str → Option Value} {p : Program} {w : World} {base : Heap} (B : Base prog sc p K mg) (e_law : Ent K mg "law" (top 74)) (e__law_pool : Ent K mg "_law_pool" (top 54)) (e__law_brigade : Ent K mg "_law_brigade" (top 65)) (e__law_places : Ent K mg "_law_places" (top 63)) (e__law_spans : Ent K mg "_law_spans" (top 71)) (e__law_held : Ent K mg "_law_held" (top 72)) (e_held_spans : Ent K mg "held_spans" (top 49)) (e__law_long : Ent K mg "_law_long" (top 73)) (e_waited : Ent K mg "waited" (top 50)) (e_is_rising : Ent K mg "is_rising" (top 44)) (e__law_add : Ent K mg "_law_add" (top 57)) (e__law_mul : Ent K mg "_law_mul" (top 59)) (e__law_sub : Ent K mg "_law_sub" (top 58)) (e_lost : Ent K mg "lost" (top 52)) (e__law_twelfths : Ent K mg "_law_twelfths" (top 62)) (e__law_take : Ent K mg "_law_take" (top 55)) (e__law_speed : Ent K mg "_law_speed" (top 64)) (e__law_make : Ent K mg "_law_make" (top 56)) (e__law_moment : Ent K mg "_law_moment" (top 69)) (e__law_speeds : Ent K mg "_law_speeds" (top 68)) (e__law_moved : Ent K mg "_law_moved" (top 70)) (e__law_less : Ent K mg "_law_less" (top 61)) (e_need_both : Ent K mg "need_both" (top 46)) (e_moments_of : Ent K mg "moments_of" (top 47)) (e_spans_of : Ent K mg "spans_of" (top 48)) (e_plus : Ent K mg "plus" (top 13)) (e_less : Ent K mg "less" (top 14)) (e_need_brigade : Ent K mg "need_brigade" (top 40)) (e_goes_rising : Ent K mg "goes_rising" (top 43)) (e_anew : Ent K mg "anew" (top 8)) (e_need_places : Ent K mg "need_places" (top 42)) (e_stepped : Ent K mg "stepped" (top 33)) (e_times : Ent K mg "times" (top 15)) (e__law_div : Ent K mg "_law_div" (top 60)) (e__law_least : Ent K mg "_law_least" (top 67)) (e__law_piece : Ent K mg "_law_piece" (top 66)) (e_next_moment : Ent K mg "next_moment" (top 31)) (e_held_now : Ent K mg "held_now" (top 28)) (e_moved : Ent K mg "moved" (top 32)) (e_make : Ent K mg "make" (top 12)) (e_is_a_brigade : Ent K mg "is_a_brigade" (top 39)) (e_is_at_most : Ent K mg "is_at_most" (top 19)) (e_are_places_of : Ent K mg "are_places_of" (top 41)) (e_real_speeds : Ent K mg "real_speeds" (top 27)) (e_over : Ent K mg "over" (top 16)) (e_next_mark : Ent K mg "next_mark" (top 29)) (e_is_below : Ent K mg "is_below" (top 18)) (e_least_of : Ent K mg "least_of" (top 30)) (e_own_speeds : Ent K mg "own_speeds" (top 26)) (e_is_tuple : Ent K mg "is_tuple" (top 7)) (e_are_cuts : Ent K mg "are_cuts" (top 37)) (e_are_speeds : Ent K mg "are_speeds" (top 38)) (e_is_between : Ent K mg "is_between" (top 20)) (e_are_not_falling : Ent K mg "are_not_falling" (top 23)) (e_piece_at : Ent K mg "piece_at" (top 25)) (e_is_fraction : Ent K mg "is_fraction" (top 17)) (e_are_growing : Ent K mg "are_growing" (top 22)) (e_is_positive : Ent K mg "is_positive" (top 21)) (e_is_integer : Ent K mg "is_integer" (top 6)) : ∀ n, HasL prog p w K mg base n sc.shs :=
  hasL_all fun n ih => ⟨has_mk B e__law_pool kb_0 s__law_pool f__law_pool rfl b__law_pool ih,
    has_mk B e__law_brigade kb_1 s__law_brigade f__law_brigade rfl b__law_brigade ih,
    has_mk B e__law_places kb_2 s__law_places f__law_places rfl b__law_places ih,
    has_mk B e__law_spans kb_3 s__law_spans f__law_spans rfl b__law_spans ih,
    has_mk B e__law_held kb_4 s__law_held f__law_held rfl b__law_held ih,
    has_mk B e_held_spans kb_5 s_held_spans f_held_spans rfl b_held_spans ih,
    has_mk B e_held_spans kb_6 s_held_spans f_held_spans rfl b_held_spans ih,
    has_mk B e__law_long kb_7 s__law_long f__law_long rfl b__law_long ih,
    has_mk B e_waited kb_8 s_waited f_waited rfl b_waited ih,
    has_mk B e_waited kb_9 s_waited f_waited rfl b_waited ih,
    has_mk B e_is_rising kb_10 s_is_rising f_is_rising rfl b_is_rising ih,
    has_mk B e__law_add kb_11 s__law_add f__law_add rfl b__law_add ih,
    has_mk B e__law_mul kb_12 s__law_mul f__law_mul rfl b__law_mul ih,
    has_mk B e__law_sub kb_13 s__law_sub f__law_sub rfl b__law_sub ih,
    has_mk B e_lost kb_14 s_lost f_lost rfl b_lost ih,
    has_mk B e__law_twelfths kb_15 s__law_twelfths f__law_twelfths rfl b__law_twelfths ih,
    has_mk B e__law_take kb_16 s__law_take f__law_take rfl b__law_take ih,
    has_mk B e__law_speed kb_17 s__law_speed f__law_speed rfl b__law_speed ih,
    has_mk B e__law_make kb_18 s__law_make f__law_make rfl b__law_make ih,
    has_mk B e__law_moment kb_19 s__law_moment f__law_moment rfl b__law_moment ih,
    has_mk B e__law_speeds kb_20 s__law_speeds f__law_speeds rfl b__law_speeds ih,
    has_mk B e__law_moved kb_21 s__law_moved f__law_moved rfl b__law_moved ih,
    has_mk B e__law_less kb_22 s__law_less f__law_less rfl b__law_less ih,
    has_mk B e_need_both kb_23 s_need_both f_need_both rfl b_need_both ih,
    has_mk B e_moments_of kb_24 s_moments_of f_moments_of rfl b_moments_of ih,
    has_mk B e_spans_of kb_25 s_spans_of f_spans_of rfl b_spans_of ih,
    has_mk B e_plus kb_26 s_plus f_plus rfl b_plus ih,
    has_mk B e_less kb_27 s_less f_less rfl b_less ih,
    has_mk B e_need_brigade kb_28 s_need_brigade f_need_brigade rfl b_need_brigade ih,
    has_mk B e_goes_rising kb_29 s_goes_rising f_goes_rising rfl b_goes_rising ih,
    has_mk B e_anew kb_30 s_anew f_anew rfl b_anew ih,
    has_mk B e_need_places kb_31 s_need_places f_need_places rfl b_need_places ih,
    has_mk B e_stepped kb_32 s_stepped f_stepped rfl b_stepped ih,
    has_mk B e_times kb_33 s_times f_times rfl b_times ih,
    has_mk B e__law_div kb_34 s__law_div f__law_div rfl b__law_div ih,
    has_mk B e__law_least kb_35 s__law_least f__law_least rfl b__law_least ih,
    has_mk B e__law_piece kb_36 s__law_piece f__law_piece rfl b__law_piece ih,
    has_mk B e_next_moment kb_37 s_next_moment f_next_moment rfl b_next_moment ih,
    has_mk B e_held_now kb_38 s_held_now f_held_now rfl b_held_now ih,
    has_mk B e_moved kb_39 s_moved f_moved rfl b_moved ih,
    has_mk B e_make kb_40 s_make f_make rfl b_make ih,
    has_mk B e_is_a_brigade kb_41 s_is_a_brigade f_is_a_brigade rfl b_is_a_brigade ih,
    has_mk B e_is_at_most kb_42 s_is_at_most f_is_at_most rfl b_is_at_most ih,
    has_mk B e_are_places_of kb_43 s_are_places_of f_are_places_of rfl b_are_places_of ih,
    has_mk B e_real_speeds kb_44 s_real_speeds f_real_speeds rfl b_real_speeds ih,
    has_mk B e_over kb_45 s_over f_over rfl b_over ih,
    has_mk B e_next_mark kb_46 s_next_mark f_next_mark rfl b_next_mark ih,
    has_mk B e_is_below kb_47 s_is_below f_is_below rfl b_is_below ih,
    has_mk B e_least_of kb_48 s_least_of f_least_of rfl b_least_of ih,
    has_mk B e_own_speeds kb_49 s_own_speeds f_own_speeds rfl b_own_speeds ih,
    has_mk B e_is_tuple kb_50 s_is_tuple f_is_tuple rfl b_is_tuple ih,
    has_mk B e_are_cuts kb_51 s_are_cuts f_are_cuts rfl b_are_cuts ih,
    has_mk B e_are_speeds kb_52 s_are_speeds f_are_speeds rfl b_are_speeds ih,
    has_mk B e_is_between kb_53 s_is_between f_is_between rfl b_is_between ih,
    has_mk B e_are_not_falling kb_54 s_are_not_falling f_are_not_falling rfl b_are_not_falling ih,
    has_mk B e_piece_at kb_55 s_piece_at f_piece_at rfl b_piece_at ih,
    has_mk B e_is_fraction kb_56 s_is_fraction f_is_fraction rfl b_is_fraction ih,
    has_mk B e_are_growing kb_57 s_are_growing f_are_growing rfl b_are_growing ih,
    has_mk B e_is_positive kb_58 s_is_positive f_is_positive rfl b_is_positive ih,
    has_mk B e_is_integer kb_59 s_is_integer f_is_integer rfl b_is_integer ih,
    has_mk B e_law kb_60 s_law f_law rfl b_law ih, trivial⟩
theorem base_mk {p : Program} {K : PySem.W.Frag} {h : Heap} {mg : Str → Option Value} (er : sc.ers = [] ∨ Errs K mg p sc.ers) (X : K.In h) (G : h.Ns mainGlobals mg) (z0 : PySem.W.nsIn K mainGlobals "len" = some none) (z1 : PySem.W.nsIn K mainGlobals "int" = some none) (z2 : PySem.W.nsIn K mainGlobals "abs" = some none) (z3 : PySem.W.nsIn K mainGlobals "max" = some none) (z4 : PySem.W.nsIn K mainGlobals "min" = some none) (z5 : PySem.W.nsIn K mainGlobals "tuple" = some none) (z6 : PySem.W.nsIn K mainGlobals "list" = some none) (z7 : PySem.W.nsIn K mainGlobals "sum" = some none) (z8 : PySem.W.nsIn K mainGlobals "all" = some none) (z9 : PySem.W.nsIn K mainGlobals "any" = some none) (z10 : PySem.W.nsIn K mainGlobals "repr" = some none) (z11 : PySem.W.nsIn K mainGlobals "sorted" = some none) (z12 : PySem.W.nsIn K mainGlobals "isinstance" = some none) (z13 : PySem.W.nsIn K mainGlobals "bool" = some none) (z14 : PySem.W.nsIn K mainGlobals "str" = some none) (z15 : PySem.W.nsIn K mainGlobals "range" = some none) (z16 : PySem.W.nsIn K mainGlobals "enumerate" = some none) (z17 : PySem.W.nsIn K mainGlobals "zip" = some none) (z18 : PySem.W.nsIn K mainGlobals "set" = some none) {a0 : Addr} {dd0 : Option Addr} {sl0 : Array (Option Value)} {n0 : Nat} {t0_0 t0_1 : Tok} (c0 : PySem.W.nsIn K mainGlobals "ZERO" = some (some (.ref a0))) (d0 : K.lookup a0 = some ⟨.type "tuple", dd0, .seq #[.int 0 t0_0, .int 1 t0_1] n0, sl0⟩) {a1 : Addr} {dd1 : Option Addr} {sl1 : Array (Option Value)} {n1 : Nat} {t1_0 t1_1 : Tok} (c1 : PySem.W.nsIn K mainGlobals "ONE" = some (some (.ref a1))) (d1 : K.lookup a1 = some ⟨.type "tuple", dd1, .seq #[.int 1 t1_0, .int 1 t1_1] n1, sl1⟩) {t2 : Tok} (c2 : PySem.W.nsIn K mainGlobals "MOST_PEOPLE" = some (some (.int 5 t2))) {t3 : Tok} (c3 : PySem.W.nsIn K mainGlobals "MOST_CUTS" = some (some (.int 5 t3))) (gc : PySem.W.nsIn K mainGlobals "gcd" = some (some (.builtin "math.gcd"))) : Base prog sc p K mg where
  ers := er
  bl := fun x hx => by
    simp only [blNames, List.mem_cons, List.not_mem_nil, or_false] at hx
    rcases hx with rfl | rfl | rfl | rfl | rfl | rfl | rfl | rfl | rfl | rfl | rfl | rfl | rfl | rfl | rfl | rfl | rfl | rfl | rfl
    · exact PySem.W.mg_none_of X G z0
    · exact PySem.W.mg_none_of X G z1
    · exact PySem.W.mg_none_of X G z2
    · exact PySem.W.mg_none_of X G z3
    · exact PySem.W.mg_none_of X G z4
    · exact PySem.W.mg_none_of X G z5
    · exact PySem.W.mg_none_of X G z6
    · exact PySem.W.mg_none_of X G z7
    · exact PySem.W.mg_none_of X G z8
    · exact PySem.W.mg_none_of X G z9
    · exact PySem.W.mg_none_of X G z10
    · exact PySem.W.mg_none_of X G z11
    · exact PySem.W.mg_none_of X G z12
    · exact PySem.W.mg_none_of X G z13
    · exact PySem.W.mg_none_of X G z14
    · exact PySem.W.mg_none_of X G z15
    · exact PySem.W.mg_none_of X G z16
    · exact PySem.W.mg_none_of X G z17
    · exact PySem.W.mg_none_of X G z18
  gcd := fun _ => PySem.W.mg_of X G gc
  cs := fun x hx => by
    simp only [sc, List.mem_cons, List.not_mem_nil, or_false] at hx
    rcases hx with rfl | rfl | rfl | rfl
    · exact ⟨.tup [.int 0, .int 1], .ref a0, .ref a0, rfl, PySem.W.mg_of X G c0, rfl, cst_tup (ws := [V.int 0, V.int 1]) d0 (by simp) (.cons ⟨t0_0, rfl⟩ (.cons ⟨t0_1, rfl⟩ .nil)) (fun _ _ => ⟨_, _, rfl, rfl, ⟨_, _, rfl, rfl, rfl⟩⟩)⟩
    · exact ⟨.tup [.int 1, .int 1], .ref a1, .ref a1, rfl, PySem.W.mg_of X G c1, rfl, cst_tup (ws := [V.int 1, V.int 1]) d1 (by simp) (.cons ⟨t1_0, rfl⟩ (.cons ⟨t1_1, rfl⟩ .nil)) (fun _ _ => ⟨_, _, rfl, rfl, ⟨_, _, rfl, rfl, rfl⟩⟩)⟩
    · exact ⟨.int 5, .int 5 t2, .int 5, rfl, PySem.W.mg_of X G c2, ⟨t2, rfl⟩, fun _ _ => rfl⟩
    · exact ⟨.int 5, .int 5 t3, .int 5, rfl, PySem.W.mg_of X G c3, ⟨t3, rfl⟩, fun _ _ => rfl⟩
theorem fin {K : PySem.W.Frag} {mg : Str → Option Value} {p : Program} {w : World} (e_law : Ent K mg "law" (top 74)) (e__law_pool : Ent K mg "_law_pool" (top 54)) (e__law_brigade : Ent K mg "_law_brigade" (top 65)) (e__law_places : Ent K mg "_law_places" (top 63)) (e__law_spans : Ent K mg "_law_spans" (top 71)) (e__law_held : Ent K mg "_law_held" (top 72)) (e_held_spans : Ent K mg "held_spans" (top 49)) (e__law_long : Ent K mg "_law_long" (top 73)) (e_waited : Ent K mg "waited" (top 50)) (e_is_rising : Ent K mg "is_rising" (top 44)) (e__law_add : Ent K mg "_law_add" (top 57)) (e__law_mul : Ent K mg "_law_mul" (top 59)) (e__law_sub : Ent K mg "_law_sub" (top 58)) (e_lost : Ent K mg "lost" (top 52)) (e__law_twelfths : Ent K mg "_law_twelfths" (top 62)) (e__law_take : Ent K mg "_law_take" (top 55)) (e__law_speed : Ent K mg "_law_speed" (top 64)) (e__law_make : Ent K mg "_law_make" (top 56)) (e__law_moment : Ent K mg "_law_moment" (top 69)) (e__law_speeds : Ent K mg "_law_speeds" (top 68)) (e__law_moved : Ent K mg "_law_moved" (top 70)) (e__law_less : Ent K mg "_law_less" (top 61)) (e_need_both : Ent K mg "need_both" (top 46)) (e_moments_of : Ent K mg "moments_of" (top 47)) (e_spans_of : Ent K mg "spans_of" (top 48)) (e_plus : Ent K mg "plus" (top 13)) (e_less : Ent K mg "less" (top 14)) (e_need_brigade : Ent K mg "need_brigade" (top 40)) (e_goes_rising : Ent K mg "goes_rising" (top 43)) (e_anew : Ent K mg "anew" (top 8)) (e_need_places : Ent K mg "need_places" (top 42)) (e_stepped : Ent K mg "stepped" (top 33)) (e_times : Ent K mg "times" (top 15)) (e__law_div : Ent K mg "_law_div" (top 60)) (e__law_least : Ent K mg "_law_least" (top 67)) (e__law_piece : Ent K mg "_law_piece" (top 66)) (e_next_moment : Ent K mg "next_moment" (top 31)) (e_held_now : Ent K mg "held_now" (top 28)) (e_moved : Ent K mg "moved" (top 32)) (e_make : Ent K mg "make" (top 12)) (e_is_a_brigade : Ent K mg "is_a_brigade" (top 39)) (e_is_at_most : Ent K mg "is_at_most" (top 19)) (e_are_places_of : Ent K mg "are_places_of" (top 41)) (e_real_speeds : Ent K mg "real_speeds" (top 27)) (e_over : Ent K mg "over" (top 16)) (e_next_mark : Ent K mg "next_mark" (top 29)) (e_is_below : Ent K mg "is_below" (top 18)) (e_least_of : Ent K mg "least_of" (top 30)) (e_own_speeds : Ent K mg "own_speeds" (top 26)) (e_is_tuple : Ent K mg "is_tuple" (top 7)) (e_are_cuts : Ent K mg "are_cuts" (top 37)) (e_are_speeds : Ent K mg "are_speeds" (top 38)) (e_is_between : Ent K mg "is_between" (top 20)) (e_are_not_falling : Ent K mg "are_not_falling" (top 23)) (e_piece_at : Ent K mg "piece_at" (top 25)) (e_is_fraction : Ent K mg "is_fraction" (top 17)) (e_are_growing : Ent K mg "are_growing" (top 22)) (e_is_positive : Ent K mg "is_positive" (top 21)) (e_is_integer : Ent K mg "is_integer" (top 6)) (B : Base prog sc p K mg) : Base prog sc p K mg ∧ Ent K mg "law" (top 74) ∧ ∀ base : Heap, HasL prog p w K mg base 60 sc.shs := ⟨B, e_law, fun base => hasL B e_law e__law_pool e__law_brigade e__law_places e__law_spans e__law_held e_held_spans e__law_long e_waited e_is_rising e__law_add e__law_mul e__law_sub e_lost e__law_twelfths e__law_take e__law_speed e__law_make e__law_moment e__law_speeds e__law_moved e__law_less e_need_both e_moments_of e_spans_of e_plus e_less e_need_brigade e_goes_rising e_anew e_need_places e_stepped e_times e__law_div e__law_least e__law_piece e_next_moment e_held_now e_moved e_make e_is_a_brigade e_is_at_most e_are_places_of e_real_speeds e_over e_next_mark e_is_below e_least_of e_own_speeds e_is_tuple e_are_cuts e_are_speeds e_is_between e_are_not_falling e_piece_at e_is_fraction e_are_growing e_is_positive e_is_integer 60⟩
theorem errs_of {K : PySem.W.Frag} {mg : Str → Option Value} {p : Program} {C0 C1 : Addr} (o0 : XOne K mg p "InvalidBrigade" C0) (o1 : XOne K mg p "InvalidPlaces" C1) (t0_0 : XTwo K "InvalidBrigade" "InvalidBrigade" C0 C0) (t0_1 : XTwo K "InvalidBrigade" "InvalidPlaces" C0 C1) (t1_0 : XTwo K "InvalidPlaces" "InvalidBrigade" C1 C0) (t1_1 : XTwo K "InvalidPlaces" "InvalidPlaces" C1 C1) (sup : mg "super" = none) : Errs K mg p sc.ers :=
  errs_mk [("InvalidBrigade", C0), ("InvalidPlaces", C1)] rfl ⟨o0, o1, trivial⟩ ⟨⟨t0_0, t0_1, trivial⟩, ⟨t1_0, t1_1, trivial⟩, trivial⟩ sup
end K54
set_option maxHeartbeats 8000000
/-! K54A: is_rising, whatever it tells. -/
namespace K54
open PySem (Str PyData)
open Bk Wk Rf
theorem fp : FP prog := ⟨rfl, rfl, rfl, rfl, rfl, rfl, rfl, rfl, rfl⟩
theorem fl : FL prog := ⟨rfl, rfl, rfl, rfl, rfl, rfl⟩
theorem lp : LB prog := ⟨rfl, rfl, rfl, rfl, rfl, rfl⟩
theorem mp : MB prog := ⟨rfl, rfl, rfl, rfl, rfl, rfl, rfl, rfl⟩
theorem dp : DP prog := ⟨rfl, rfl, rfl, rfl, rfl⟩
theorem bp : BP prog := ⟨rfl, rfl, rfl, rfl, rfl, rfl, rfl, rfl, rfl, ⟨_, rfl, rfl⟩, rfl, rfl, rfl, rfl⟩
theorem tr_true {s : Sto} {b : Bool} : truth s (.bl b) = some b := rfl
/-- on each piece no person is faster than the next one -/
def Ris (n c : Nat) (v : Nat → Nat → Rat) : Prop := ∀ i, i + 1 < n → ∀ j, j < c + 1 → v i j ≤ v (i + 1) j
noncomputable def ris (n c : Nat) (v : Nat → Nat → Rat) : Bool := @decide (Ris n c v) (Classical.propDecidable _)
section
variable {k n m : Nat} {s : Sto} {Q : Val → Sto → Prop} {C : List Rat} {v : Nat → Nat → Rat} {r : Nat → Rat}
theorem br_0 {s : Sto} : itemV (brV n C v) (.int 0) s = .ok (cutsV C) s := by simp [brV]
theorem br_1 {s : Sto} : itemV (brV n C v) (.int 1) s = .ok (peopleV n C.length v) s := by simp [brV]
theorem len_people {c : Nat} {s : Sto} : primV .len [peopleV n c v] s = .ok (.int n) s := by simp [peopleV]
theorem fv_at {c i : Nat} {r : Nat → Rat} {s : Sto} (h : i < c) : itemV (fv c r) (.int i) s = .ok (frV (r i)) s := by
  simp only [fv, item_tup', atI_cast, fvs_at h]
  rfl
theorem w_is_rising (S : Sys n C v) (hQ : ∀ s', Sub s s' → Q (.bl (ris n C.length v)) s') : (callN prog (k + 7) "is_rising" [brV n C v] s).wp Q := by
  have n5 := S.br.n5
  have n1 := S.br.n1
  have c5 := S.br.c5
  have oS : ∀ i j, Sm (v i j) := fun i j => (S.br.vS i j).sm (by decide)
  rw [c_is_rising]
  simp only [d_is_rising, startE]
  rw [if_pos (by rfl)]
  simp only [wp_finish]
  refine wp_cons ?_
  simp only [exec, evalE, evalEs, wp_bind, List.map_cons, List.map_nil, List.cons_append, List.getElem?_cons_zero, Out.bind_ok, ctxOf_call, wp_ok]
  refine w_need_brigade fp bp S fun t => wp_cons (wp_ret ?_)
  simp only [evalE, evalEs, wp_bind, List.getElem?_cons_zero, Out.bind_ok, ctxOf_call, wp_ok, br_1]
  rw [c_goes_rising]
  simp only [d_goes_rising, startE]
  rw [if_pos (by rfl)]
  simp only [wp_finish]
  refine wp_cons ?_
  have hcut : ∀ s, cutV (peopleV n C.length v) (some 1) none s = .ok (.tup (cut ((List.range n).map fun i => fv (C.length + 1) (v i)) (some 1) none)) s := fun s => rfl
  simp only [exec, evalIt, evalE, evalEs, evalEo, wp_bind, List.map_cons, List.map_nil, List.cons_append, List.getElem?_cons_zero, Out.bind_ok, wp_ok, hcut]
  rw [show ∀ s, seqG s (peopleV n C.length v) = some ((List.range n).map fun i => fv (C.length + 1) (v i), .none) from fun _ => rfl]
  simp only [seqG_tup', wp_ok]
  have hz := zipV_len (xs := (List.range n).map fun i => fv (C.length + 1) (v i)) (by simp; omega)
  have hz2 : (zipV ((List.range n).map fun i => fv (C.length + 1) (v i)) (cut ((List.range n).map fun i => fv (C.length + 1) (v i)) (some 1) none)).length = n - 1 := by rw [hz]; simp
  refine wp_for (fun i σ s' => ∃ y1 y2 y3 y4, σ = [some (peopleV n C.length v), y1, y2, y3, y4] ∧ Sub (s ++ t) s' ∧ ∀ a, a < i → ∀ j, j < C.length + 1 → v a j ≤ v (a + 1) j) ⟨_, _, _, _, rfl, Sub.refl _, fun a ha => absurd ha (by omega)⟩ (fun _ _ _ _ _ => trivial) (fun i hi σ s' h => ?_) (fun σ s' h => ?_)
  · obtain ⟨y1, y2, y3, y4, rfl, hs, hall⟩ := h
    have hi' : i + 1 < n := by rw [hz2] at hi; omega
    have e : (zipV ((List.range n).map fun i => fv (C.length + 1) (v i)) (cut ((List.range n).map fun i => fv (C.length + 1) (v i)) (some 1) none))[i] = .tup [fv (C.length + 1) (v i), fv (C.length + 1) (v (i + 1))] := by
      rw [zipV_at (by simp; omega) hi]
      simp
    rw [e]
    simp only [asgT, asgTs, seqO, List.length_cons, List.length_nil, Option.bind_some, List.set_cons_succ, List.set_cons_zero, if_true, Nat.zero_add, Nat.reduceAdd]
    refine wp_cons (wp_ife (wp_nt ?_))
    simp only [evalT, evalE, evalEs, evalIt, wp_bind, List.getElem?_cons_zero, List.getElem?_cons_succ, Out.bind_ok, ctxOf_call, wp_ok]
    rw [show ∀ s, seqG s (fv (C.length + 1) (v i)) = some (fvs (C.length + 1) (v i), .none) from fun _ => rfl, show ∀ s, seqG s (fv (C.length + 1) (v (i + 1))) = some (fvs (C.length + 1) (v (i + 1)), .none) from fun _ => rfl]
    have hzz : zipV (fvs (C.length + 1) (v i)) (fvs (C.length + 1) (v (i + 1))) = (List.range (C.length + 1)).map fun j => .tup [frV (v i j), frV (v (i + 1) j)] := zipV_range
    simp only [hzz, wp_ok]
    refine wp_lc_ix (fun j => .bl (decide (v i j ≤ v (i + 1) j))) (fun _ => trivial) (by simp; exact smallN (by omega)) (fun j hj t2 => ?_) fun t2 => ?_
    · have hj' : j < C.length + 1 := by simpa using hj
      simp [asgT, asgTs, wipe, evalC, evalE, evalEs, w_is_at_most fp (oS i j) (oS (i + 1) j)]
    · have e2 : ((List.range (C.length + 1)).map fun j => Val.tup [frV (v i j), frV (v (i + 1) j)]).length = C.length + 1 := by simp
      rw [e2]
      simp only [pushO, wp_ok, Out.bind_ok]
      rw [all_mapI]
      simp only [wp_ok, tr_true, Out.opt_some, wp_opt, Option.elim_some]
      by_cases hh : ∀ j, j < C.length + 1 → v i j ≤ v (i + 1) j
      · have ea : ((List.range (C.length + 1)).all fun j => decide (v i j ≤ v (i + 1) j)) = true := by
          rw [List.all_eq_true]
          intro j hj
          exact decide_eq_true (hh j (List.mem_range.mp hj))
        rw [ea]
        refine wp_nil (wp_nil ⟨_, _, _, _, rfl, hs.trans ((Sub.app _ _).trans (Sub.app _ _)), fun a ha => ?_⟩)
        by_cases e3 : a = i
        · rw [e3]; exact hh
        · exact hall a (by omega)
      · have ea : ((List.range (C.length + 1)).all fun j => decide (v i j ≤ v (i + 1) j)) = false := by
          rw [List.all_eq_false]
          obtain ⟨j, hj⟩ := Classical.not_forall.mp hh
          have hj2 := Classical.not_imp.mp hj
          exact ⟨j, List.mem_range.mpr hj2.1, by simpa using hj2.2⟩
        rw [ea]
        refine wp_cons (wp_ret ?_)
        simp only [evalE, wp_ok]
        have er : ris n C.length v = false := @decide_eq_false _ (Classical.propDecidable _) fun hR => hh (hR i hi')
        have := hQ (s' ++ t2 ++ [Ob.lst ((List.range (C.length + 1)).map fun j => Val.bl (decide (v i j ≤ v (i + 1) j)))]) ((Sub.app _ _).trans (hs.trans ((Sub.app _ _).trans (Sub.app _ _))))
        rw [er] at this
        exact this
  · obtain ⟨y1, y2, y3, y4, rfl, hs, hall⟩ := h
    refine wp_cons (wp_ret ?_)
    simp only [evalE, wp_ok]
    have er : ris n C.length v = true := @decide_eq_true _ (Classical.propDecidable _) fun i hi => hall i (by rw [hz2]; omega)
    have := hQ s' ((Sub.app _ _).trans hs)
    rw [er] at this
    exact this
end
end K54
set_option maxHeartbeats 8000000
/-! K54B: who is held now; the moments, as the program lists them. -/
namespace K54
open PySem (Str PyData)
open Bk Wk Rf
def heldL (n : Nat) (C : List Rat) (v : Nat → Nat → Rat) (q : Nat → Rat) : List Nat := (List.range n).filter fun i => heldB n C v i q
def ixV (L : List Nat) : List Val := L.map fun i => .int (i : Nat)
theorem held_ne {n : Nat} {C : List Rat} {v : Nat → Nat → Rat} {q : Nat → Rat} {i : Nat} (h : i < n) : heldB n C v i q = !decide (ownS C v q i = realS (ownS C v q) q n i) := by
  have := real_le (own := ownS C v q) (p := q) h
  unfold heldB
  by_cases e : ownS C v q i = realS (ownS C v q) q n i
  · simp [e]
  · have : realS (ownS C v q) q n i < ownS C v q i := by grind
    simp [e, this]
section
variable {k n : Nat} {s : Sto} {Q : Val → Sto → Prop} {C : List Rat} {v : Nat → Nat → Rat} {q : Nat → Rat}
theorem w_held_now (B : Br n C v) (hp : ∀ i, i < n → Sm (q i)) (hQ : ∀ s', Sub s s' → Q (.tup (ixV (heldL n C v q))) s') : (callN prog (k + 5) "held_now" [brV n C v, fv n q] s).wp Q := by
  have n5 := B.n5
  rw [c_held_now]
  simp only [d_held_now, startE]
  rw [if_pos (by rfl)]
  simp only [wp_finish]
  refine wp_cons (wp_asg ?_)
  simp only [evalE, evalEs, wp_bind, List.map_cons, List.map_nil, List.cons_append, List.getElem?_cons_zero, List.getElem?_cons_succ, Out.bind_ok, ctxOf_call, wp_ok]
  refine w_own_speeds fp mp (k := k + 1) B hp fun t a ha => ?_
  refine w_real_speeds fp mp B hp fun u b hb => ?_
  have ha2 : listAt (s ++ t ++ u) a = some (fvs n (ownS C v q)) := by rw [listAt_app (listAt_lt ha)]; exact ha
  simp only [seqL_loc, ha2, hb, fvs_len, if_true, pushO, wp_ok]
  have hs := (Sub.app s t).trans (Sub.app (s ++ t) u)
  generalize s ++ t ++ u = s2 at *
  have hz : zipV (fvs n (ownS C v q)) (fvs n (realS (ownS C v q) q n)) = (List.range n).map fun i => .tup [frV (ownS C v q i), frV (realS (ownS C v q) q n i)] := zipV_range
  rw [hz]
  have hl := listAt_push s2 ((List.range n).map fun i => Val.tup [frV (ownS C v q i), frV (realS (ownS C v q) q n i)])
  have hs3 := hs.trans (Sub.app s2 [Ob.lst ((List.range n).map fun i => Val.tup [frV (ownS C v q i), frV (realS (ownS C v q) q n i)])])
  generalize s2.length = w at *
  generalize s2 ++ [Ob.lst ((List.range n).map fun i => Val.tup [frV (ownS C v q i), frV (realS (ownS C v q) q n i)])] = s3 at *
  refine ⟨[some (brV n C v), some (fv n q), some (.loc w), none, none, none], rfl, ?_⟩
  refine wp_cons (wp_ret ?_)
  simp only [evalE, evalEs, evalIt, wp_bind, List.getElem?_cons_zero, List.getElem?_cons_succ, Out.bind_ok, wp_ok]
  rw [seqG_loc hl]
  simp only [wp_ok]
  refine wp_lc (fun i ys s' => s' = s3 ∧ ys = ixV ((List.range i).filter fun i => heldB n C v i q)) ⟨rfl, rfl⟩ (fun i ys s' _ h => by rw [h.1]; exact hl) (by rw [enumV_len']; simp; exact smallN (by omega)) (fun i hi ys s' h => ?_) (fun ys s' h => ?_)
  · obtain ⟨rfl, rfl⟩ := h
    have hi' : i < n := by rw [enumV_len'] at hi; simpa using hi
    rw [enumV_at hi]
    have e : ((List.range n).map fun i => Val.tup [frV (ownS C v q i), frV (realS (ownS C v q) q n i)])[i]'(by simpa using hi') = .tup [frV (ownS C v q i), frV (realS (ownS C v q) q n i)] := by simp
    rw [e]
    have hh := held_ne (n := n) (C := C) (v := v) (q := q) hi'
    have hr : (List.range (i + 1)).filter (fun i => heldB n C v i q) = (List.range i).filter (fun i => heldB n C v i q) ++ if heldB n C v i q = true then [i] else [] := by
      rw [List.range_succ, List.filter_append]
      congr 1
      by_cases h : heldB n C v i q = true <;> simp [h]
    by_cases h : ownS C v q i = realS (ownS C v q) q n i
    · rw [decide_eq_true h] at hh
      simp [asgT, asgTs, wipe, evalC, evalT, evalE, cmpO_ne, eqO_fr, h]
      rw [hr, hh]
      simp
    · rw [decide_eq_false h] at hh
      simp [asgT, asgTs, wipe, evalC, evalT, evalE, cmpO_ne, eqO_fr, h]
      rw [hr, hh]
      simp [ixV]
  · obtain ⟨rfl, rfl⟩ := h
    rw [enumV_len', List.length_map, List.length_range]
    have l3 := listAt_push s' (ixV ((List.range n).filter fun i => heldB n C v i q))
    simp only [pushO, wp_ok, primV, seqO_loc, l3]
    exact hQ _ (hs3.trans (Sub.app _ _))
/-! ### the list of moments -/
def MoV (n : Nat) (C : List Rat) (v : Nat → Nat → Rat) (s : Sto) (w : Nat) (x : Val) (m : Mo) : Prop :=
  ∃ a, x = .tup [frV m.b, frV m.e, fv n m.q, .loc a, .tup (ixV (heldL n C v m.q))] ∧ listAt s a = some (fvs n (realS (ownS C v m.q) m.q n)) ∧ a ≠ w
structure MS (n : Nat) (C : List Rat) (v : Nat → Nat → Rat) (s s' : Sto) (w : Nat) (xs : List Val) (L : List Mo) : Prop where
  sub : Sub s s'
  low : s.length ≤ w
  lw : listAt s' w = some xs
  len : xs.length = L.length
  at_ : ∀ i (h : i < xs.length) (h' : i < L.length), MoV n C v s' w xs[i] L[i]
theorem MS.of_sub {s s' s2 : Sto} {w : Nat} {xs : List Val} {L : List Mo} (h : MS n C v s s' w xs L) (hs : Sub s' s2) : MS n C v s s2 w xs L :=
  ⟨h.sub.trans hs, h.low, hs.list h.lw, h.len, fun i a b => by
    obtain ⟨c, e, l, ne⟩ := h.at_ i a b
    exact ⟨c, e, hs.list l, ne⟩⟩
theorem MS.put {s s' : Sto} {w : Nat} {xs : List Val} {L : List Mo} {m : Mo} {x : Val} (h : MS n C v s s' w xs L) (hx : MoV n C v s' w x m) : MS n C v s (s'.set w (.lst (xs ++ [x]))) w (xs ++ [x]) (L ++ [m]) := by
  have st : ∀ {y : Val} {m : Mo}, MoV n C v s' w y m → MoV n C v (s'.set w (.lst (xs ++ [x]))) w y m := fun ⟨a, e, l, ne⟩ => ⟨a, e, by rw [listAt_set_ne (Ne.symm ne)]; exact l, ne⟩
  refine ⟨h.sub.set h.low, h.low, listAt_set (listAt_lt h.lw), by simp [h.len], fun i a b => ?_⟩
  by_cases e : i < xs.length
  · have e' : i < L.length := by rw [← h.len]; exact e
    rw [List.getElem_append_left e, List.getElem_append_left e']
    exact st (h.at_ i e e')
  · have e1 : i = xs.length := by simp at a; omega
    subst e1
    have g1 : (xs ++ [x])[xs.length]'a = x := by simp
    have g2 : (L ++ [m])[xs.length]'b = m := by simp [h.len]
    rw [g1, g2]
    exact st hx
theorem w_moments_of (S : Sys n C v) {X : List Rat} {Z Y : Int} (hZ : Z < 2 ^ 1800) (hY : Y ≤ 1000000) {p : Nat → Rat} (h : Ok n C v X Z Y (most n C) p 0) (hQ : ∀ s' w xs, MS n C v s s' w xs (moms n C v p) → Q (.loc w) s') : (callN prog (k + 7) "moments_of" [brV n C v, fv n p] s).wp Q := by
  have n1 := S.br.n1
  have n5 := S.br.n5
  have c5 := S.br.c5
  have hmost : most n C ≤ 35 := most_le S.br
  rw [c_moments_of]
  simp only [d_moments_of, startE]
  rw [if_pos (by rfl)]
  simp only [wp_finish]
  refine wp_cons (wp_asg ?_)
  simp only [evalE, evalEs, wp_bind, g_ZERO, ctxOf_const, Out.bind_ok, wp_ok]
  rw [if_pos (smallN (by simp))]
  simp only [pushO, wp_ok]
  rw [if_pos (smallN (by simp))]
  simp only [wp_ok]
  refine ⟨[some (brV n C v), some (fv n p), some (frV 0), some (.loc s.length), none, none, none], by rw [fr0]; rfl, ?_⟩
  have hw := listAt_push s []
  refine wp_cons ?_
  simp only [exec]
  refine wp_while (fun m σ s' => ∃ q t xs y4 y5 y6 L, σ = [some (brV n C v), some (fv n q), some (frV t), some (.loc s.length), y4, y5, y6] ∧ MS n C v s s' s.length xs L ∧ Ok n C v X Z Y m q t ∧ L ++ momL n C v (m + 1) q t = moms n C v p ∧ L.length + m ≤ most n C) (most n C)
    ⟨p, 0, [], none, none, none, [], rfl, ⟨Sub.app _ _, Nat.le_refl _, hw, rfl, fun i a => absurd a (by simp)⟩, h, rfl, by simp⟩ ?_
  rintro m σ s' ⟨q, t, xs, y4, y5, y6, L, rfl, hMS, hk, hL, hlen⟩
  have hlast : (fvs n q).getLast? = some (frV (q (n - 1))) := by
    rw [List.getLast?_eq_getElem?, fvs_len, fvs_at (by omega)]
  have sm := hk.small hZ hY
  by_cases hr : q (n - 1) = 1
  · simp [evalT, evalE, fv, hlast, fp.one, ← fr1, cmpO_ne, eqO_fr, hr, execs, exec, evalEs]
    rw [momL, if_pos hr, List.append_nil] at hL
    subst hL
    exact hQ _ _ _ hMS
  · simp [evalT, evalE, fv, hlast, fp.one, ← fr1, cmpO_ne, eqO_fr, hr]
    obtain ⟨m', rfl, hk2⟩ := hk.next S hr
    have G := S.go hk.pl hr
    obtain ⟨x, W, hxW⟩ := G.ne
    have ew : leastR x W = waitT n C (realS (ownS C v q) q n) q := by unfold waitT; rw [hxW]
    have hp19 : ∀ i, i < n → Sb 1900 (q i) := fun i hi => (sm.1 i hi).up (by decide)
    have sw := G.sb S hp19
    have srr : ∀ i, Sb 10 (realS (ownS C v q) q n i) := sb_real (sm_own S.br q)
    simp only [l_moments_of_0]
    refine wp_cons (wp_asg ?_)
    simp only [evalE, evalEs, wp_bind, List.getElem?_cons_zero, List.getElem?_cons_succ, Out.bind_ok, ctxOf_call, wp_ok]
    rw [show Val.tup (fvs n q) = fv n q from rfl]
    refine w_next_moment fp mp S.br hp19 hxW fun s2 a hs2 ha => ?_
    rw [ew]
    generalize hwt : waitT n C (realS (ownS C v q) q n) q = wt at *
    refine ⟨[some (brV n C v), some (fv n q), some (frV t), some (.loc s.length), some (frV wt), some (.loc a), y6], rfl, ?_⟩
    refine wp_cons (wp_asg ?_)
    simp only [evalE, evalEs, wp_bind, List.getElem?_cons_zero, List.getElem?_cons_succ, Out.bind_ok, ctxOf_call, wp_ok, w_plus fp (sm.2.sm (by decide)) (sw.sm (by decide))]
    refine ⟨[some (brV n C v), some (fv n q), some (frV t), some (.loc s.length), some (frV wt), some (.loc a), some (frV (t + wt))], rfl, ?_⟩
    have h2 := hMS.of_sub hs2
    have ane : a ≠ s.length := by
      intro e
      rw [e] at ha
      have hx2 := h2.lw
      rw [ha] at hx2
      have hx3 : fvs n (realS (ownS C v q) q n) = xs := Option.some.inj hx2
      have h0 : 0 < xs.length := by rw [← hx3, fvs_len]; omega
      obtain ⟨c, e2, _⟩ := h2.at_ 0 h0 (by rw [← h2.len]; exact h0)
      have h4 : xs[0] = frV (realS (ownS C v q) q n 0) := by
        have : xs[0]? = some (frV (realS (ownS C v q) q n 0)) := by rw [← hx3]; exact fvs_at (by omega)
        rw [List.getElem?_eq_getElem h0] at this
        exact Option.some.inj this
      rw [h4] at e2
      simp [frV] at e2
    refine wp_cons ?_
    simp only [exec, evalE, evalEs, wp_bind, List.getElem?_cons_zero, List.getElem?_cons_succ, Out.bind_ok, ctxOf_call, recv_append h2.lw, if_true, wp_ok]
    refine w_held_now (k := k + 1) S.br (fun i hi => (hp19 i hi).sm (by decide)) fun s3 hs3 => ?_
    rw [if_pos (smallN (by simp))]
    simp only [wp_ok]
    have h3 := h2.of_sub hs3
    have ha3 := hs3.list ha
    rw [meth_append h3.lw (by rw [h3.len]; have := PySem.sizeLine_eq; omega)]
    simp only [wp_ok]
    have h4 := h3.put (m := ⟨t, t + wt, q⟩) (x := .tup [frV t, frV (t + wt), fv n q, .loc a, .tup (ixV (heldL n C v q))]) ⟨a, rfl, ha3, ane⟩
    have ha4 : listAt (s3.set s.length (.lst (xs ++ [.tup [frV t, frV (t + wt), fv n q, .loc a, .tup (ixV (heldL n C v q))]]))) a = some (fvs n (realS (ownS C v q) q n)) := by rw [listAt_set_ne (Ne.symm ane)]; exact ha3
    generalize s3.set s.length (.lst (xs ++ [.tup [frV t, frV (t + wt), fv n q, .loc a, .tup (ixV (heldL n C v q))]])) = s4 at *
    refine wp_cons (wp_asg ?_)
    simp only [evalE, evalEs, wp_bind, List.getElem?_cons_zero, List.getElem?_cons_succ, Out.bind_ok, ctxOf_call, wp_ok]
    refine w_moved fp mp ha4 n5 (fun i hi => (hp19 i hi).sm (by decide)) (fun i => (srr i).sm (by decide)) (sw.sm (by decide)) (fun i hi => ((srr i).mul sw).sm (by decide)) fun u => ?_
    rw [if_pos (smallN (by simp))]
    simp only [wp_ok]
    refine ⟨[some (brV n C v), some (fv n fun i => q i + realS (ownS C v q) q n i * wt), some (frV (t + wt)), some (.loc s.length), some (frV wt), some (.loc a), some (frV (t + wt))], rfl, wp_nil ?_⟩
    refine ⟨m', by omega, _, _, ⟨_, _, _, rfl⟩, _, _, h4.of_sub (Sub.app _ _), ?_, ?_, by simp; omega⟩
    · have e1 : (fun i => q i + realS (ownS C v q) q n i * wt) = goP n C v q := by funext i; rw [← hwt]; rfl
      rw [e1]
      exact hk2
    · have e1 : (fun i => q i + realS (ownS C v q) q n i * wt) = goP n C v q := by funext i; rw [← hwt]; rfl
      rw [e1]
      rw [momL, if_neg hr, hwt] at hL
      rw [List.append_assoc]
      exact hL
end
end K54
set_option maxHeartbeats 8000000
/-! K54C: the moments, as the law lists them. -/
namespace K54
open PySem (Str PyData)
open Bk Wk Rf
def MoW (n : Nat) (C : List Rat) (v : Nat → Nat → Rat) (s : Sto) (w : Nat) (x : Val) (m : Mo) : Prop :=
  ∃ a b, x = .tup [frV m.b, frV m.e, fv n m.q, .loc a, .loc b] ∧ listAt s a = some (fvs n (realS (ownS C v m.q) m.q n)) ∧ listAt s b = some (fvs n (ownS C v m.q)) ∧ a ≠ w ∧ b ≠ w
structure MW (n : Nat) (C : List Rat) (v : Nat → Nat → Rat) (s s' : Sto) (w : Nat) (xs : List Val) (L : List Mo) : Prop where
  sub : Sub s s'
  low : s.length ≤ w
  lw : listAt s' w = some xs
  len : xs.length = L.length
  at_ : ∀ i (h : i < xs.length) (h' : i < L.length), MoW n C v s' w xs[i] L[i]
section
variable {k n : Nat} {s : Sto} {Q : Val → Sto → Prop} {C : List Rat} {v : Nat → Nat → Rat} {q : Nat → Rat}
theorem MW.of_sub {s s' s2 : Sto} {w : Nat} {xs : List Val} {L : List Mo} (h : MW n C v s s' w xs L) (hs : Sub s' s2) : MW n C v s s2 w xs L :=
  ⟨h.sub.trans hs, h.low, hs.list h.lw, h.len, fun i a b => by
    obtain ⟨c, d, e, l, l2, ne⟩ := h.at_ i a b
    exact ⟨c, d, e, hs.list l, hs.list l2, ne⟩⟩
theorem MW.put {s s' : Sto} {w : Nat} {xs : List Val} {L : List Mo} {m : Mo} {x : Val} (h : MW n C v s s' w xs L) (hx : MoW n C v s' w x m) : MW n C v s (s'.set w (.lst (xs ++ [x]))) w (xs ++ [x]) (L ++ [m]) := by
  have st : ∀ {y : Val} {m : Mo}, MoW n C v s' w y m → MoW n C v (s'.set w (.lst (xs ++ [x]))) w y m := fun ⟨a, b, e, l, l2, ne, ne2⟩ => ⟨a, b, e, by rw [listAt_set_ne (Ne.symm ne)]; exact l, by rw [listAt_set_ne (Ne.symm ne2)]; exact l2, ne, ne2⟩
  refine ⟨h.sub.set h.low, h.low, listAt_set (listAt_lt h.lw), by simp [h.len], fun i a b => ?_⟩
  by_cases e : i < xs.length
  · have e' : i < L.length := by rw [← h.len]; exact e
    rw [List.getElem_append_left e, List.getElem_append_left e']
    exact st (h.at_ i e e')
  · have e1 : i = xs.length := by simp at a; omega
    subst e1
    have g1 : (xs ++ [x])[xs.length]'a = x := by simp
    have g2 : (L ++ [m])[xs.length]'b = m := by simp [h.len]
    rw [g1, g2]
    exact st hx
theorem MW.ne {s s' : Sto} {w a : Nat} {xs : List Val} {L : List Mo} {A : Nat → Rat} (h : MW n C v s s' w xs L) (n1 : 1 ≤ n) (ha : listAt s' a = some (fvs n A)) : a ≠ w := by
  intro e
  rw [e, h.lw] at ha
  have hx : xs = fvs n A := Option.some.inj ha
  have h0 : 0 < xs.length := by rw [hx, fvs_len]; omega
  obtain ⟨c, d, e2, _⟩ := h.at_ 0 h0 (by rw [← h.len]; exact h0)
  have h4 : xs[0] = frV (A 0) := by
    have : xs[0]? = some (frV (A 0)) := by rw [hx]; exact fvs_at (by omega)
    rw [List.getElem?_eq_getElem h0] at this
    exact Option.some.inj this
  rw [h4] at e2
  simp [frV] at e2
theorem w_law_spans (S : Sys n C v) {X : List Rat} {Z Y : Int} (hZ : Z < 2 ^ 1800) (hY : Y ≤ 1000000) {p : Nat → Rat} (h : Ok n C v X Z Y (most n C) p 0) (hQ : ∀ s' w xs, MW n C v s s' w xs (moms n C v p) → Q (.tup [.loc w, fv n (stepW n C v p).2]) s') : (callN prog (k + 6) "_law_spans" [brV n C v, fv n p] s).wp Q := by
  have n1 := S.br.n1
  have n5 := S.br.n5
  have hmost : most n C ≤ 35 := most_le S.br
  rw [c__law_spans]
  simp only [d__law_spans, startE]
  rw [if_pos (by rfl)]
  simp only [wp_finish]
  refine wp_cons (wp_asg ?_)
  simp only [evalE, evalEs, wp_bind, Out.bind_ok, wp_ok]
  rw [if_pos (smallN (by simp))]
  simp only [wp_ok]
  rw [if_pos (smallN (by simp))]
  simp only [pushO, wp_ok]
  rw [if_pos (smallN (by simp))]
  simp only [wp_ok]
  refine ⟨[some (brV n C v), some (fv n p), some (frV 0), some (.loc s.length), none, none, none, none, none], by rw [fr0]; rfl, ?_⟩
  have hw := listAt_push s []
  refine wp_cons ?_
  simp only [exec]
  refine wp_while (fun m σ s' => ∃ q t xs y4 y5 y6 y7 y8 L, σ = [some (brV n C v), some (fv n q), some (frV t), some (.loc s.length), y4, y5, y6, y7, y8] ∧ MW n C v s s' s.length xs L ∧ Ok n C v X Z Y m q t ∧ L ++ momL n C v (m + 1) q t = moms n C v p ∧ L.length + m ≤ most n C ∧ walk n C v (m + 1) q t = stepW n C v p) (most n C)
    ⟨p, 0, [], none, none, none, none, none, [], rfl, ⟨Sub.app _ _, Nat.le_refl _, hw, rfl, fun i a => absurd a (by simp)⟩, h, rfl, by simp, rfl⟩ ?_
  rintro m σ s' ⟨q, t, xs, y4, y5, y6, y7, y8, L, rfl, hMS, hk, hL, hlen, hwk⟩
  have sm := hk.small hZ hY
  by_cases hr : q (n - 1) = 1
  · simp [evalT, evalE, evalEs, item_fvL n1]
    rw [if_pos (smallN (by decide))]
    simp [← fr1, cmpO_ne, eqO_fr, hr, execs, exec, evalE, evalEs]
    rw [if_pos (smallN (by decide))]
    rw [momL, if_pos hr, List.append_nil] at hL
    subst hL
    have e : stepW n C v p = (t, q) := by rw [← hwk, walk, if_pos hr]
    rw [e] at hQ
    exact hQ _ _ _ hMS
  · simp [evalT, evalE, evalEs, item_fvL n1]
    rw [if_pos (smallN (by decide))]
    simp [← fr1, cmpO_ne, eqO_fr, hr]
    obtain ⟨m', rfl, hk2⟩ := hk.next S hr
    have G := S.go hk.pl hr
    obtain ⟨x, W, hxW⟩ := G.ne
    have ew : leastR x W = waitT n C (realS (ownS C v q) q n) q := by unfold waitT; rw [hxW]
    have hp19 : ∀ i, i < n → Sb 1900 (q i) := fun i hi => (sm.1 i hi).up (by decide)
    have sw := G.sb S hp19
    have srr : ∀ i, Sb 10 (realS (ownS C v q) q n i) := sb_real (sm_own S.br q)
    have body : l__law_spans_0 = (.cons (.asg (.pr (.nm 4) (.nm 5)) (.call "_law_moment" (.cons (.var 0) (.cons (.var 1) .nil)))) (.cons (.asg (.nm 6) (.call "_law_add" (.cons (.var 2) (.cons (.var 4) .nil))))
      (.cons (.expr (.meth .append (.var 3) (.cons (.tup (.cons (.var 2) (.cons (.var 6) (.cons (.var 1) (.cons (.var 5) (.cons lcOwn .nil)))))) .nil)))
      (.cons (.asg (.pr (.nm 1) (.nm 2)) (.tup (.cons (.call "_law_moved" (.cons (.var 1) (.cons (.var 5) (.cons (.var 4) .nil)))) (.cons (.var 6) .nil)))) .nil)))) := rfl
    rw [body]
    refine wp_cons (wp_asg ?_)
    simp only [evalE, evalEs, wp_bind, List.getElem?_cons_zero, List.getElem?_cons_succ, Out.bind_ok, ctxOf_call, wp_ok]
    refine l_moment fl lp S.br hp19 hk.pl.mono hxW fun s2 a hs2 ha => ?_
    rw [ew]
    generalize hwt : waitT n C (realS (ownS C v q) q n) q = wt at *
    refine ⟨[some (brV n C v), some (fv n q), some (frV t), some (.loc s.length), some (frV wt), some (.loc a), y6, y7, y8], rfl, ?_⟩
    refine wp_cons (wp_asg ?_)
    simp only [evalE, evalEs, wp_bind, List.getElem?_cons_zero, List.getElem?_cons_succ, Out.bind_ok, ctxOf_call, wp_ok, l_add fl (sm.2.sm (by decide)) (sw.sm (by decide))]
    refine ⟨[some (brV n C v), some (fv n q), some (frV t), some (.loc s.length), some (frV wt), some (.loc a), some (frV (t + wt)), y7, y8], rfl, ?_⟩
    have h2 := hMS.of_sub hs2
    refine wp_cons ?_
    simp only [exec, evalE, evalEs, wp_bind, List.getElem?_cons_zero, List.getElem?_cons_succ, Out.bind_ok, recv_append h2.lw, if_true, wp_ok]
    refine l_reals fl lp S.br (fun i hi => (hp19 i hi).sm (by decide)) (i1 := 7) (i2 := 8) (by decide) false ?h1 ?h2 ?h3 ?h4 fun u b hb => ?_
    case h1 => simp
    case h2 => simp
    case h3 => rfl
    case h4 => rfl
    simp at hb
    rw [if_pos (smallN (by simp))]
    simp only [wp_ok]
    have h3 := h2.of_sub (Sub.app s2 u)
    have ha3 : listAt (s2 ++ u) a = some (fvs n (realS (ownS C v q) q n)) := by rw [listAt_app (listAt_lt ha)]; exact ha
    have aw := h3.ne n1 ha3
    have bw := h3.ne n1 hb
    rw [meth_append h3.lw (by rw [h3.len]; have := PySem.sizeLine_eq; omega)]
    simp only [wp_ok]
    have h4 := h3.put (m := ⟨t, t + wt, q⟩) (x := .tup [frV t, frV (t + wt), fv n q, .loc a, .loc b]) ⟨a, b, rfl, ha3, hb, aw, bw⟩
    have ha4 : listAt ((s2 ++ u).set s.length (.lst (xs ++ [.tup [frV t, frV (t + wt), fv n q, .loc a, .loc b]]))) a = some (fvs n (realS (ownS C v q) q n)) := by rw [listAt_set_ne (Ne.symm aw)]; exact ha3
    generalize (s2 ++ u).set s.length (.lst (xs ++ [.tup [frV t, frV (t + wt), fv n q, .loc a, .loc b]])) = s4 at *
    refine wp_cons (wp_asg ?_)
    simp only [evalE, evalEs, wp_bind, List.getElem?_cons_zero, List.getElem?_cons_succ, Out.bind_ok, ctxOf_call, wp_ok]
    refine l_moved fl lp ha4 n5 (fun i hi => (hp19 i hi).sm (by decide)) (fun i => (srr i).sm (by decide)) (sw.sm (by decide)) (fun i hi => ((srr i).mul sw).sm (by decide)) fun y => ?_
    rw [if_pos (smallN (by simp))]
    simp only [wp_ok]
    refine ⟨[some (brV n C v), some (fv n fun i => q i + realS (ownS C v q) q n i * wt), some (frV (t + wt)), some (.loc s.length), some (frV wt), some (.loc a), some (frV (t + wt)), y7, y8], rfl, wp_nil ?_⟩
    have e1 : (fun i => q i + realS (ownS C v q) q n i * wt) = goP n C v q := by funext i; rw [← hwt]; rfl
    rw [e1]
    refine ⟨m', by omega, _, _, ⟨_, _, _, _, _, rfl⟩, _, _, h4.of_sub (Sub.app _ _), hk2, ?_, by simp; omega, ?_⟩
    · rw [momL, if_neg hr, hwt] at hL
      rw [List.append_assoc]
      exact hL
    · have e : walk n C v (m' + 1 + 1) q t = walk n C v (m' + 1) (goP n C v q) (t + waitT n C (realS (ownS C v q) q n) q) := by rw [walk, if_neg hr]
      rw [← hwk, e, hwt]
end
end K54
set_option maxHeartbeats 8000000
/-! K54D: the greatest spans, of the program and of the law. -/
namespace K54
open PySem (Str PyData)
open Bk Wk Rf
theorem wp_and {G : Ctx} {a b : E} {σ : Env} {s : Sto} {Q : Bool → Sto → Prop} (h : (evalT G a σ s).wp fun k s' => match k with
    | true => (evalT G b σ s').wp Q
    | false => Q false s') : (evalT G (.and a b) σ s).wp Q := by
  simp only [evalT, wp_bind]
  refine wp_mono h fun k s' q => ?_
  cases k <;> exact q
theorem wp_forS {G : Ctx} {g : Tg} {it : It} {b : Ss} {σ : Env} {s : Sto} {Q : Fl → Sto → Prop} (h : (evalIt G it σ s).wp fun p s1 => (forLoop (fun x σ2 s2 => match asgT s2 g x σ2 with
      | some σ3 => execs G b σ3 s2
      | none => .stuck) p.2 p.1 σ s1).wp Q) : (exec G (.for_ g it b) σ s).wp Q := by
  simp only [exec, wp_bind]
  exact h
theorem data_ix {s : Sto} : ∀ L : List Nat, dataWs (dataL s 6) (ixV L) = some (L.map fun j : Nat => PyData.int (j : Int))
  | [] => by simp [ixV, dataWs]
  | x :: L => by
    have := data_ix (s := s) L
    simp only [ixV, List.map_cons, dataWs, dataW] at this ⊢
    rw [this]
theorem lay_ix : ∀ L : List Nat, PyData.canLayAll0 (L.map fun j : Nat => PyData.int (j : Int)) = true ∧ PyData.depthAll (L.map fun j : Nat => PyData.int (j : Int)) ≤ 0
  | [] => ⟨rfl, Nat.le_refl _⟩
  | x :: L => by
    have h1 : (PyData.int (x : Int)).depth = 0 := rfl
    have h2 : (PyData.int (x : Int)).canLay0 = true := rfl
    simp [PyData.canLayAll0, PyData.depthAll, (lay_ix L).1, h1, h2]
    have := (lay_ix L).2
    simpa using this
theorem in_ix {s : Sto} {i : Nat} {L : List Nat} : cmpO s .isin (.int (i : Int)) (.tup (ixV L)) = some (decide (i ∈ L)) := by
  have d1 : dataOf s (.int (i : Int)) = some (.int (i : Int)) := by simp [dataOf, dataW]
  have s1 : PySem.SeqAt.shaped (.int (i : Int)) = true := by
    have h1 : (PyData.int (i : Int)).depth = 0 := rfl
    have h2 : (PyData.int (i : Int)).canLay0 = true := rfl
    simp only [PySem.SeqAt.shaped, h1, h2, Bool.true_and]
    exact decide_eq_true (by omega)
  have s2 : PySem.SeqAt.shaped (.list (L.map fun j : Nat => PyData.int (j : Int))) = true := by
    obtain ⟨h1, h2⟩ := lay_ix L
    simp only [PySem.SeqAt.shaped, PyData.canLay0, PyData.depth, h1, Bool.true_and]
    exact decide_eq_true (by omega)
  have ea : ((L.map fun j : Nat => PyData.int (j : Int)).any fun z => PyData.eqv z (.int (i : Int))) = decide (i ∈ L) := by
    rw [List.any_map]
    by_cases h : i ∈ L
    · rw [decide_eq_true h, List.any_eq_true]
      exact ⟨i, h, by simp [PyData.eqv]⟩
    · rw [decide_eq_false h, List.any_eq_false]
      intro j hj
      simp [PyData.eqv]
      intro e
      apply h
      have : j = i := by omega
      rw [← this]; exact hj
  have e0 : cmpO s .isin (.int (i : Int)) (.tup (ixV L)) = inO s (.int (i : Int)) (.tup (ixV L)) := by simp only [cmpO]
  rw [e0]
  unfold inO
  simp only [seqO, d1, data_ix, s1, s2, and_self, if_true, ea]
theorem mem_held {n : Nat} {C : List Rat} {v : Nat → Nat → Rat} {q : Nat → Rat} {i : Nat} (h : i < n) : decide (i ∈ heldL n C v q) = heldB n C v i q := by
  unfold heldL
  by_cases hb : heldB n C v i q = true
  · rw [hb]
    exact decide_eq_true (List.mem_filter.mpr ⟨List.mem_range.mpr h, hb⟩)
  · rw [Bool.not_eq_true] at hb
    rw [hb]
    refine decide_eq_false fun hm => ?_
    have := (List.mem_filter.mp hm).2
    rw [hb] at this
    cases this
def prV (x : Rat × Rat) : Val := .tup [frV x.1, frV x.2]
def lastIs (fs : List (Rat × Rat)) (b : Rat) : Bool := match fs.getLast? with
  | some l => decide (l.2 = b)
  | none => false
def condE : E := .and (.cmp .ne (.var 2) (.lst .nil)) (.cmp .eq (.idx (.idx (.var 2) (.neg (.cst (.int 1)))) (.cst (.int 1))) (.var 3))
def setS : S := .setI (.var 2) (.neg (.cst (.int 1))) (.tup (.cons (.idx (.idx (.var 2) (.neg (.cst (.int 1)))) (.cst (.int 0))) (.cons (.var 4) .nil)))
def appS : S := .expr (.meth .append (.var 2) (.cons (.tup (.cons (.var 3) (.cons (.var 4) .nil))) .nil))
section
variable {G : Ctx} {σ : Env} {s : Sto} {w : Nat} {b e : Rat} {fs : List (Rat × Rat)}
theorem last_map : (fs.map prV).getLast? = fs.getLast?.map prV := by rw [List.getLast?_map]
theorem w_cond {Q : Bool → Sto → Prop} (e2 : σ[2]? = some (some (.loc w))) (e3 : σ[3]? = some (some (frV b))) (hl : listAt s w = some (fs.map prV)) (hQ : ∀ t, Q (lastIs fs b) (s ++ t)) : (evalT G condE σ s).wp Q := by
  have hl2 : listAt (s ++ [Ob.lst []]) w = some (fs.map prV) := by rw [listAt_app (listAt_lt hl)]; exact hl
  have hq := eqO_nil' hl2 (fun x hx => by obtain ⟨y, _, rfl⟩ := List.mem_map.mp hx; exact data_pair2 _ y.1 y.2) (listAt_push s [])
  refine wp_and ?_
  simp only [evalT, evalE, evalEs, e2, Out.bind_ok]
  rw [if_pos (smallN (by simp))]
  simp only [pushO, Out.bind_ok, cmpO_ne, hq, Option.map_some]
  cases hlast : fs.getLast? with
  | none =>
    have hf : fs = [] := List.getLast?_eq_none_iff.mp hlast
    subst hf
    simp only [List.map_nil, decide_true, Bool.not_true, wp_ok]
    have := hQ [Ob.lst []]
    simpa [lastIs] using this
  | some l =>
    have hf : fs.map prV ≠ [] := by
      intro q
      have : fs = [] := by simpa using q
      rw [this] at hlast
      cases hlast
    have hlm : (fs.map prV).getLast? = some (prV l) := by rw [last_map, hlast]; rfl
    simp only [hf, decide_false, Bool.not_false, wp_ok, Out.bind_ok, item_loc' hl2, atI_last, hlm, Option.elim_some, e3]
    have hp : ∀ s, itemV (prV l) (.int 1) s = .ok (frV l.2) s := fun s => by simp [prV]
    simp only [hp, Out.bind_ok, cmpO_eq, eqO_fr]
    have := hQ [Ob.lst []]
    unfold lastIs at this
    rw [hlast] at this
    exact this
theorem set_lastL {α : Type} : ∀ (xs : List α) (y : α), xs ≠ [] → xs.set (xs.length - 1) y = xs.dropLast ++ [y]
  | [], _, h => absurd rfl h
  | [x], y, _ => rfl
  | x :: x' :: xs, y, _ => by
    have := set_lastL (x' :: xs) y (by simp)
    simp only [List.length_cons, Nat.add_sub_cancel] at this ⊢
    simp only [List.set_cons_succ, List.dropLast_cons₂, List.cons_append]
    rw [this]
theorem ixN_last {n : Nat} (h : 1 ≤ n) : L2.ixN n (-1) = some (n - 1) := by
  unfold L2.ixN
  simp
  omega
theorem w_set {l : Rat × Rat} {Q : Fl → Sto → Prop} (e2 : σ[2]? = some (some (.loc w))) (e4 : σ[4]? = some (some (frV e))) (hl : listAt s w = some (fs.map prV)) (hlast : fs.getLast? = some l) (hQ : Q (.nx σ) (s.set w (.lst ((fs.dropLast ++ [(l.1, e)]).map prV)))) : (exec G setS σ s).wp Q := by
  have hne : fs ≠ [] := by intro q; rw [q] at hlast; cases hlast
  have hlm : (fs.map prV).getLast? = some (prV l) := by rw [last_map, hlast]; rfl
  have hp : ∀ s, itemV (prV l) (.int 0) s = .ok (frV l.1) s := fun s => by simp [prV]
  have h1 : 1 ≤ (fs.map prV).length := by
    rw [List.length_map]
    exact List.length_pos_iff.mpr hne
  have es : (fs.map prV).set ((fs.map prV).length - 1) (prV (l.1, e)) = (fs.dropLast ++ [(l.1, e)]).map prV := by
    rw [set_lastL _ _ (by simpa using hne)]
    simp
  simp only [setS, exec, evalE, evalEs, e2, e4, Out.bind_ok, item_loc' hl, atI_last, hlm, Option.elim_some, hp]
  rw [if_pos (smallN (by simp))]
  simp only [Out.bind_ok, setV, listAt_some hl, show (-1 : Int) = -1 from rfl, ixN_last h1, wp_ok]
  rw [show Val.tup [frV l.1, frV e] = prV (l.1, e) from rfl, es]
  exact hQ
theorem w_app {Q : Fl → Sto → Prop} (e2 : σ[2]? = some (some (.loc w))) (e3 : σ[3]? = some (some (frV b))) (e4 : σ[4]? = some (some (frV e))) (hl : listAt s w = some (fs.map prV)) (hlen : fs.length ≤ 100) (hQ : Q (.nx σ) (s.set w (.lst ((fs ++ [(b, e)]).map prV)))) : (exec G appS σ s).wp Q := by
  simp only [appS, exec, evalE, evalEs, e2, e3, e4, Out.bind_ok, recv_append hl, if_true]
  rw [if_pos (smallN (by simp))]
  simp only [Out.bind_ok]
  rw [meth_append hl (by rw [List.length_map]; have := PySem.sizeLine_eq; omega)]
  simp only [Out.bind_ok, wp_ok]
  have : fs.map prV ++ [Val.tup [frV b, frV e]] = (fs ++ [(b, e)]).map prV := by simp [prV]
  rw [this]
  exact hQ
end
theorem spStep_set {fs : List (Rat × Rat)} {b e : Rat} (h : lastIs fs b = true) : ∃ l, fs.getLast? = some l ∧ spStep fs b e = fs.dropLast ++ [(l.1, e)] := by
  unfold lastIs at h
  cases hl : fs.getLast? with
  | none => rw [hl] at h; cases h
  | some l =>
    rw [hl] at h
    refine ⟨l, rfl, ?_⟩
    unfold spStep
    rw [hl]
    simp only
    rw [if_pos (of_decide_eq_true h)]
theorem spStep_app {fs : List (Rat × Rat)} {b e : Rat} (h : lastIs fs b = false) : spStep fs b e = fs ++ [(b, e)] := by
  unfold lastIs at h
  unfold spStep
  cases hl : fs.getLast? with
  | none =>
    have : fs = [] := List.getLast?_eq_none_iff.mp hl
    rw [this]; rfl
  | some l =>
    rw [hl] at h
    simp only
    rw [if_neg (of_decide_eq_false h)]
/-! ### the loops -/
section
variable {k n : Nat} {s : Sto} {Q : Val → Sto → Prop} {C : List Rat} {v : Nat → Nat → Rat}
theorem spL_take {i j : Nat} {L : List Mo} (h : j < L.length) : spL n C v i (L.take (j + 1)) [] = if heldB n C v i L[j].q = true then spStep (spL n C v i (L.take j) []) L[j].b L[j].e else spL n C v i (L.take j) [] := by
  have e : L.take (j + 1) = L.take j ++ [L[j]] := by rw [List.take_add_one, List.getElem?_eq_getElem h]; rfl
  rw [e, spL_app]
theorem spL_len {i : Nat} : ∀ (L : List Mo) (fs : List (Rat × Rat)), (spL n C v i L fs).length ≤ fs.length + L.length
  | [], fs => by simp [spL]
  | m :: L, fs => by
    have h1 := spL_len (i := i) L (spStep fs m.b m.e)
    have h2 := spL_len (i := i) L fs
    have h3 : (spStep fs m.b m.e).length ≤ fs.length + 1 := by
      unfold spStep
      split
      · split <;> simp
      · simp
    unfold spL
    simp only [List.length_cons]
    split <;> omega
theorem w_spans_of {i w : Nat} (hi : i < n) {s0 : Sto} {xs : List Val} {L : List Mo} (hMS : MS n C v s0 s w xs L) (hL : L.length ≤ 40) (hQ : ∀ s', Sub s s' → Q (.tup ((spL n C v i L []).map prV)) s') : (callN prog (k + 1) "spans_of" [.loc w, .int i] s).wp Q := by
  rw [c_spans_of]
  simp only [d_spans_of, startE]
  rw [if_pos (by rfl)]
  simp only [wp_finish]
  refine wp_cons (wp_asg ?_)
  simp only [evalE, evalEs, Out.bind_ok]
  rw [if_pos (smallN (by simp))]
  simp only [pushO, wp_ok]
  refine ⟨[some (.loc w), some (.int i), some (.loc s.length), none, none, none, none, none], rfl, ?_⟩
  have hw := listAt_push s []
  have hM0 := hMS.of_sub (Sub.app s [Ob.lst []])
  have hwlt := listAt_lt hMS.lw
  have hlt0 := listAt_lt hw
  refine wp_cons (wp_forS ?_)
  simp only [evalIt, evalE, wp_bind, List.getElem?_cons_zero, Out.bind_ok]
  rw [seqG_loc hM0.lw]
  simp only [wp_opt, Option.elim_some]
  refine wp_for (fun j σ s' => ∃ y3 y4 y5 y6 y7, σ = [some (.loc w), some (.int i), some (.loc s.length), y3, y4, y5, y6, y7] ∧ Sub s s' ∧ listAt s' s.length = some ((spL n C v i (L.take j) []).map prV))
    ⟨_, _, _, _, _, rfl, Sub.app _ _, hw⟩ (fun j σ s' _ h => by obtain ⟨_, _, _, _, _, _, hs, _⟩ := h; exact hs.list hMS.lw) (fun j hj σ s' h => ?_) (fun σ s' h => ?_)
  · obtain ⟨y3, y4, y5, y6, y7, rfl, hs, hf⟩ := h
    have hjL : j < L.length := by rw [← hMS.len]; exact hj
    obtain ⟨a, e, _, _⟩ := hMS.at_ j hj hjL
    rw [e, spL_take hjL]
    generalize hm : L[j] = m at *
    have hfl : (spL n C v i (L.take j) []).length ≤ 100 := by
      have := spL_len (n := n) (C := C) (v := v) (i := i) (L.take j) []
      simp at this
      omega
    generalize spL n C v i (L.take j) [] = fs at *
    have body : l_spans_of_0 = .cons (.ife (.and (.cmp .isin (.var 1) (.var 7)) condE) (.cons setS .nil) (.cons (.ife (.cmp .isin (.var 1) (.var 7)) (.cons appS .nil) .nil) .nil)) .nil := rfl
    rw [body]
    simp only [asgT, asgTs, seqO, List.length_cons, List.length_nil, Option.bind_some, List.set_cons_succ, List.set_cons_zero, if_true, Nat.zero_add, Nat.reduceAdd]
    have isin : ∀ (G : Ctx) s, evalT G (.cmp .isin (.var 1) (.var 7)) [some (.loc w), some (.int i), some (.loc s.length), some (frV m.b), some (frV m.e), some (fv n m.q), some (.loc a), some (.tup (ixV (heldL n C v m.q)))] s = .ok (heldB n C v i m.q) s := fun G s => by
      simp only [evalT, evalE, List.getElem?_cons_zero, List.getElem?_cons_succ, Out.bind_ok, in_ix, mem_held hi]
    have isin' : ∀ (G : Ctx) (l : Nat) s, evalT G (.cmp .isin (.var 1) (.var 7)) [some (.loc w), some (.int i), some (.loc l), some (frV m.b), some (frV m.e), some (fv n m.q), some (.loc a), some (.tup (ixV (heldL n C v m.q)))] s = .ok (heldB n C v i m.q) s := fun G l s => by
      simp only [evalT, evalE, List.getElem?_cons_zero, List.getElem?_cons_succ, Out.bind_ok, in_ix, mem_held hi]
    refine wp_cons (wp_ife (wp_and ?_))
    rw [isin']
    by_cases hb : heldB n C v i m.q = true
    · rw [hb]
      simp only [wp_ok, if_true]
      refine w_cond (by rfl) (by rfl) hf fun t => ?_
      have hft : listAt (s' ++ t) s.length = some (fs.map prV) := by rw [listAt_app (listAt_lt hf)]; exact hf
      have hst := hs.trans (Sub.app s' t)
      cases hc : lastIs fs m.b with
      | true =>
        obtain ⟨l, hl1, hl2⟩ := spStep_set (e := m.e) hc
        refine wp_cons (w_set (by rfl) (by rfl) hft hl1 (wp_nil (wp_nil ?_)))
        rw [hl2]
        exact ⟨_, _, _, _, _, rfl, hst.set (Nat.le_refl _), listAt_set (listAt_lt hft)⟩
      | false =>
        refine wp_cons (wp_ife ?_)
        rw [isin', hb]
        simp only [wp_ok]
        refine wp_cons (w_app (by rfl) (by rfl) (by rfl) hft hfl (wp_nil (wp_nil (wp_nil ?_))))
        rw [spStep_app hc]
        exact ⟨_, _, _, _, _, rfl, hst.set (Nat.le_refl _), listAt_set (listAt_lt hft)⟩
    · rw [Bool.not_eq_true] at hb
      rw [hb]
      simp only [wp_ok, Bool.false_eq_true, if_false]
      refine wp_cons (wp_ife ?_)
      rw [isin', hb]
      simp only [wp_ok]
      exact wp_nil (wp_nil (wp_nil ⟨_, _, _, _, _, rfl, hs, hf⟩))
  · obtain ⟨y3, y4, y5, y6, y7, rfl, hs, hf⟩ := h
    rw [hMS.len, List.take_length] at hf
    refine wp_cons (wp_ret ?_)
    simp only [evalE, evalEs, wp_bind, List.getElem?_cons_zero, List.getElem?_cons_succ, Out.bind_ok, primV, seqO_loc, hf, wp_ok]
    exact hQ _ hs
theorem w_law_held {i w : Nat} (hi : i < n) (B : Br n C v) {s0 : Sto} {xs : List Val} {L : List Mo} (hMS : MW n C v s0 s w xs L) (hL : L.length ≤ 40) (hQ : ∀ s', Sub s s' → Q (.tup ((spL n C v i L []).map prV)) s') : (callN prog (k + 2) "_law_held" [.loc w, .int i] s).wp Q := by
  rw [c__law_held]
  simp only [d__law_held, startE]
  rw [if_pos (by rfl)]
  simp only [wp_finish]
  refine wp_cons (wp_asg ?_)
  simp only [evalE, evalEs, Out.bind_ok]
  rw [if_pos (smallN (by simp))]
  simp only [pushO, wp_ok]
  refine ⟨[some (.loc w), some (.int i), some (.loc s.length), none, none, none, none, none], rfl, ?_⟩
  have hw := listAt_push s []
  have hM0 := hMS.of_sub (Sub.app s [Ob.lst []])
  have hwlt := listAt_lt hMS.lw
  have hlt0 := listAt_lt hw
  refine wp_cons (wp_forS ?_)
  simp only [evalIt, evalE, wp_bind, List.getElem?_cons_zero, Out.bind_ok]
  rw [seqG_loc hM0.lw]
  simp only [wp_opt, Option.elim_some]
  refine wp_for (fun j σ s' => ∃ y3 y4 y5 y6 y7, σ = [some (.loc w), some (.int i), some (.loc s.length), y3, y4, y5, y6, y7] ∧ Sub s s' ∧ listAt s' s.length = some ((spL n C v i (L.take j) []).map prV))
    ⟨_, _, _, _, _, rfl, Sub.app _ _, hw⟩ (fun j σ s' _ h => by obtain ⟨_, _, _, _, _, _, hs, _⟩ := h; exact hs.list hMS.lw) (fun j hj σ s' h => ?_) (fun σ s' h => ?_)
  · obtain ⟨y3, y4, y5, y6, y7, rfl, hs, hf⟩ := h
    have hjL : j < L.length := by rw [← hMS.len]; exact hj
    obtain ⟨a, b, e, la, lb, _, _⟩ := hMS.at_ j hj hjL
    rw [e, spL_take hjL]
    generalize hm : L[j] = m at *
    have hfl : (spL n C v i (L.take j) []).length ≤ 100 := by
      have := spL_len (n := n) (C := C) (v := v) (i := i) (L.take j) []
      simp at this
      omega
    generalize spL n C v i (L.take j) [] = fs at *
    have body : l__law_held_0 = .cons (.ife (.call "_law_less" (.cons (.idx (.var 6) (.var 1)) (.cons (.idx (.var 7) (.var 1)) .nil))) (.cons (.ife condE (.cons setS .nil) (.cons appS .nil)) .nil) .nil) .nil := rfl
    rw [body]
    simp only [asgT, asgTs, seqO, List.length_cons, List.length_nil, Option.bind_some, List.set_cons_succ, List.set_cons_zero, if_true, Nat.zero_add, Nat.reduceAdd]
    have la' := hs.list la
    have lb' := hs.list lb
    have oS : ∀ i, Sm (ownS C v m.q i) := fun i => (sm_own B m.q i).sm (by decide)
    have rS : ∀ i, Sm (realS (ownS C v m.q) m.q n i) := fun i => (sb_real (sm_own B m.q) i).sm (by decide)
    refine wp_cons (wp_ife ?_)
    simp only [evalT, evalE, evalEs, List.getElem?_cons_zero, List.getElem?_cons_succ, Out.bind_ok, item_loc' la', item_loc' lb', atI_cast, fvs_at hi, Option.elim_some, ctxOf_call, l_less fl (rS i) (oS i), tr_true, Out.opt_some, wp_ok]
    rw [show decide (realS (ownS C v m.q) m.q n i < ownS C v m.q i) = heldB n C v i m.q from rfl]
    by_cases hb : heldB n C v i m.q = true
    · rw [hb]
      simp only [if_true]
      refine wp_cons (wp_ife (w_cond (by rfl) (by rfl) hf fun t => ?_))
      have hft : listAt (s' ++ t) s.length = some (fs.map prV) := by rw [listAt_app (listAt_lt hf)]; exact hf
      have hst := hs.trans (Sub.app s' t)
      cases hc : lastIs fs m.b with
      | true =>
        obtain ⟨l, hl1, hl2⟩ := spStep_set (e := m.e) hc
        refine wp_cons (w_set (by rfl) (by rfl) hft hl1 (wp_nil (wp_nil (wp_nil ?_))))
        rw [hl2]
        exact ⟨_, _, _, _, _, rfl, hst.set (Nat.le_refl _), listAt_set (listAt_lt hft)⟩
      | false =>
        refine wp_cons (w_app (by rfl) (by rfl) (by rfl) hft hfl (wp_nil (wp_nil (wp_nil ?_))))
        rw [spStep_app hc]
        exact ⟨_, _, _, _, _, rfl, hst.set (Nat.le_refl _), listAt_set (listAt_lt hft)⟩
    · rw [Bool.not_eq_true] at hb
      rw [hb]
      simp only [Bool.false_eq_true, if_false]
      exact wp_nil (wp_nil ⟨_, _, _, _, _, rfl, hs, hf⟩)
  · obtain ⟨y3, y4, y5, y6, y7, rfl, hs, hf⟩ := h
    rw [hMS.len, List.take_length] at hf
    refine wp_cons (wp_ret ?_)
    simp only [evalE, evalEs, wp_bind, List.getElem?_cons_zero, List.getElem?_cons_succ, Out.bind_ok, primV, seqO_loc, hf, wp_ok]
    exact hQ _ hs
end
end K54
set_option maxHeartbeats 8000000
/-! K54E: held_spans, waited. -/
namespace K54
open PySem (Str PyData)
open Bk Wk Rf
def ZZ : Int := 27720 * 64 ^ 35
theorem zz_small : ZZ < 2 ^ 1000 := by unfold ZZ; decide +kernel
theorem zz_le {m : Nat} (h : m ≤ 35) : 27720 * 64 ^ m ≤ ZZ := by
  unfold ZZ
  have e : (64 : Int) ^ 35 = 64 ^ m * 64 ^ (35 - m) := by rw [← Int.pow_add]; congr 1; omega
  rw [e, ← Int.mul_assoc]
  have p1 := pow64_pos m
  have p2 := pow64_pos (35 - m)
  have := Int.mul_le_mul_of_nonneg_left p2 (show (0 : Int) ≤ 27720 * 64 ^ m by omega)
  omega
theorem two1000 : (2 : Int) ^ 1000 * 1048576 = 2 ^ 1020 := by
  rw [show (1020 : Nat) = 1000 + 20 by rfl, Int.pow_add]
  rfl
/-- numbers of small denominators are small -/
theorem in_sb {D : Int} {q : Rat} (h : In D q) (d0 : 0 < D) (dZ : D < 2 ^ 1000) (q0 : 0 ≤ q) (hq : q ≤ ((1000000 : Int) : Rat)) : Sb 1020 q := by
  have e := two1000
  refine h.sb (b := 1000000) d0 q0 hq ?_ ?_
  · omega
  · omega
section
variable {n : Nat} {C : List Rat} {v : Nat → Nat → Rat} {p : Nat → Rat}
theorem ok12 (S : Sys n C v) (h : Pl12 n p) : Ok n C v [] ZZ 210 (most n C) p 0 where
  pl := h.pl
  den := ⟨27720, 1, rfl, by decide, fun x hx => (nomatch hx), fun i hi => (h.in12 i hi).mulD 2310, in_zero _, zz_le (most_le S.br)⟩
  t0 := Rat.le_refl
  tY := ⟨0, Rat.le_refl, by have := most_le S.br; omega⟩
  pot := pot_bound
theorem mom_all (S : Sys n C v) (h : Pl12 n p) : ∃ D : Int, 0 < D ∧ D ≤ ZZ ∧ ∀ x ∈ moms n C v p, MoOk n D 210 x := by
  have hm := most_le S.br
  have hY : (0 : Rat) + 6 * ((most n C : Int) : Rat) ≤ 210 := by
    have : ((most n C : Int) : Rat) ≤ ((35 : Int) : Rat) := Rat.intCast_le_intCast.mpr (by omega)
    have e : ((35 : Int) : Rat) = 35 := rfl
    rw [e] at this
    grind
  obtain ⟨A, a1, aZ, hA⟩ := mom_ok S (Z := ZZ) (Y := 210) (most n C) p 0 27720 ⟨1, rfl⟩ (by decide) h.pl pot_bound (fun i hi => (h.in12 i hi).mulD 2310) (in_zero _) Rat.le_refl hY (zz_le hm)
  exact ⟨A * 27720, by omega, aZ, hA⟩
theorem moms_len (S : Sys n C v) : (moms n C v p).length ≤ 36 := by
  have := most_le S.br
  have := momL_len (n := n) (C := C) (v := v) (most n C + 1) p 0
  unfold moms
  omega
def longR : List (Rat × Rat) → Rat
  | [] => 0
  | x :: r => (x.2 - x.1) + longR r
theorem longR_app : ∀ (L : List (Rat × Rat)) (x : Rat × Rat), longR (L ++ [x]) = longR L + (x.2 - x.1)
  | [], x => by simp only [List.nil_append, longR]; grind
  | y :: L, x => by
    have := longR_app L x
    simp only [List.cons_append, longR, this]
    grind
theorem longR_ok {D : Int} : ∀ (L : List (Rat × Rat)), (∀ x ∈ L, SpOk D 210 x) → In D (longR L) ∧ 0 ≤ longR L ∧ longR L ≤ 210 * ((L.length : Int) : Rat)
  | [], _ => ⟨in_zero D, Rat.le_refl, by simp [longR]⟩
  | x :: L, h => by
    obtain ⟨i1, i2, i3⟩ := longR_ok L fun y hy => h y (List.mem_cons_of_mem _ hy)
    have hx := h x List.mem_cons_self
    have h1 := hx.b0
    have h2 := hx.be
    have h3 := hx.eY
    have e : (((x :: L).length : Int) : Rat) = ((L.length : Int) : Rat) + 1 := by
      rw [show (((x :: L).length : Nat) : Int) = (L.length : Int) + 1 by simp, Rat.intCast_add]
      rfl
    refine ⟨(hx.ie.sub hx.ib).add i1, ?_, ?_⟩
    · show 0 ≤ (x.2 - x.1) + longR L; grind
    · rw [e]
      show (x.2 - x.1) + longR L ≤ _
      grind
theorem long_sb {D : Int} (d0 : 0 < D) (dZ : D ≤ ZZ) {L : List (Rat × Rat)} (h : ∀ x ∈ L, SpOk D 210 x) (hl : L.length ≤ 100) : Sb 1020 (longR L) := by
  obtain ⟨h1, h2, h3⟩ := longR_ok L h
  have zs := zz_small
  refine in_sb h1 d0 (by omega) h2 ?_
  have : ((L.length : Int) : Rat) ≤ ((100 : Int) : Rat) := Rat.intCast_le_intCast.mpr (by omega)
  have e1 : ((100 : Int) : Rat) = 100 := rfl
  have e2 : ((1000000 : Int) : Rat) = 1000000 := rfl
  rw [e1] at this
  rw [e2]
  grind
theorem sp_sb {D : Int} (d0 : 0 < D) (dZ : D ≤ ZZ) {x : Rat × Rat} (h : SpOk D 210 x) : Sb 1020 x.1 ∧ Sb 1020 x.2 ∧ Sb 1020 (x.2 - x.1) := by
  have zs := zz_small
  have e2 : ((1000000 : Int) : Rat) = 1000000 := rfl
  have h1 := h.b0
  have h2 := h.be
  have h3 := h.eY
  exact ⟨in_sb h.ib d0 (by omega) h1 (by rw [e2]; grind), in_sb h.ie d0 (by omega) (by grind) (by rw [e2]; grind), in_sb (h.ie.sub h.ib) d0 (by omega) (by grind) (by rw [e2]; grind)⟩
end
/-- the greatest spans of all people -/
def spA (n : Nat) (C : List Rat) (v : Nat → Nat → Rat) (p : Nat → Rat) (i : Nat) : List (Rat × Rat) := spL n C v i (moms n C v p) []
def spV (L : List (Rat × Rat)) : Val := .tup (L.map prV)
def heldV (n : Nat) (C : List Rat) (v : Nat → Nat → Rat) (p : Nat → Rat) : Val := .tup ((List.range n).map fun i => spV (spA n C v p i))
section
variable {k n : Nat} {s : Sto} {Q : Val → Sto → Prop} {C : List Rat} {v : Nat → Nat → Rat} {p : Nat → Rat}
theorem len_fv {s : Sto} : primV .len [fv n p] s = .ok (.int n) s := by simp [fv, fvs_len]
theorem w_held_spans (S : Sys n C v) (h : Pl12 n p) (hQ : ∀ s', Sub s s' → Q (heldV n C v p) s') : (callN prog (k + 9) "held_spans" [brV n C v, fv n p] s).wp Q := by
  have n5 := S.br.n5
  have hz : ZZ < 2 ^ 1800 := Int.lt_of_lt_of_le zz_small (by decide +kernel)
  have smp : ∀ i, i < n → Sm (p i) := fun i hi => (pl12_sb h hi).sm (by decide)
  rw [c_held_spans]
  simp only [d_held_spans, startE]
  rw [if_pos (by rfl)]
  simp only [wp_finish]
  refine wp_cons ?_
  simp only [exec, evalE, evalEs, wp_bind, List.map_cons, List.map_nil, List.cons_append, List.getElem?_cons_zero, List.getElem?_cons_succ, Out.bind_ok, ctxOf_call, wp_ok]
  rw [c_need_both]
  simp only [d_need_both, startE]
  rw [if_pos (by rfl)]
  simp only [wp_finish]
  refine wp_cons ?_
  simp only [exec, evalE, evalEs, wp_bind, List.map_cons, List.map_nil, List.cons_append, List.getElem?_cons_zero, List.getElem?_cons_succ, Out.bind_ok, ctxOf_call, wp_ok]
  refine w_need_brigade fp bp S fun t1 => wp_cons ?_
  simp only [exec, evalE, evalEs, wp_bind, List.map_cons, List.map_nil, List.cons_append, List.getElem?_cons_zero, List.getElem?_cons_succ, Out.bind_ok, ctxOf_call, wp_ok]
  refine w_need_places fp bp S h.pl smp fun t2 => wp_nil ?_
  refine wp_cons (wp_asg ?_)
  simp only [evalE, evalEs, wp_bind, List.map_cons, List.map_nil, List.cons_append, List.getElem?_cons_zero, List.getElem?_cons_succ, Out.bind_ok, ctxOf_call, wp_ok]
  refine w_moments_of (k := k + 1) S hz (by decide) (ok12 S h) fun s2 w xs hMS => ?_
  have hs2 : Sub s s2 := ((Sub.app _ _).trans (Sub.app _ _)).trans hMS.sub
  have hml := moms_len (p := p) S
  generalize hm : moms n C v p = M at *
  refine ⟨[some (brV n C v), some (fv n p), some (.loc w), none], rfl, ?_⟩
  refine wp_cons (wp_ret ?_)
  simp only [evalE, evalEs, evalIt, wp_bind, List.getElem?_cons_zero, List.getElem?_cons_succ, Out.bind_ok, len_fv, wp_ok]
  rw [if_pos (smallI_of (by omega) (by omega))]
  simp only [wp_ok, Int.toNat_natCast]
  refine wp_lc_ix (fun i => spV (spL n C v i M [])) (fun _ => trivial) (by rw [rangeV_len]; exact smallN (by omega)) (fun i hi t => ?_) fun t => ?_
  · rw [rangeV_at hi]
    rw [rangeV_len] at hi
    simp only [asgT, wipe, List.set_cons_succ, List.set_cons_zero, Int.zero_add, evalC, evalE, evalEs, wp_bind, List.getElem?_cons_zero, List.getElem?_cons_succ, Out.bind_ok, wp_ok, ctxOf_call]
    refine w_spans_of (k := k + 7) hi (hMS.of_sub (Sub.app s2 t)) (by omega) fun s3 h3 => ?_
    obtain ⟨u, rfl⟩ := sub_app h3
    exact ⟨rfl, u, rfl⟩
  · rw [rangeV_len]
    have l3 := listAt_push (s2 ++ t) ((List.range n).map fun i => spV (spL n C v i M []))
    simp only [pushO, wp_ok, primV, seqO_loc, l3]
    have e : heldV n C v p = .tup ((List.range n).map fun i => spV (spL n C v i M [])) := by unfold heldV spA; rw [hm]
    rw [← e]
    exact hQ _ ((hs2.trans (Sub.app _ _)).trans (Sub.app _ _))
theorem spA_ok (S : Sys n C v) (h : Pl12 n p) : ∃ D : Int, 0 < D ∧ D ≤ ZZ ∧ (∀ x ∈ moms n C v p, MoOk n D 210 x) ∧ ∀ i, (∀ x ∈ spA n C v p i, SpOk D 210 x) ∧ (spA n C v p i).length ≤ 36 := by
  obtain ⟨D, d0, dZ, hD⟩ := mom_all S h
  refine ⟨D, d0, dZ, hD, fun i => ?_⟩
  obtain ⟨h1, h2⟩ := spL_ok (i := i) (moms n C v p) [] hD (fun x hx => (nomatch hx))
  have := moms_len (p := p) S
  exact ⟨h1, by unfold spA; simp at h2; omega⟩
/-- all waits -/
def waitV (n : Nat) (C : List Rat) (v : Nat → Nat → Rat) (p : Nat → Rat) : Val := fv n fun i => longR (spA n C v p i)
theorem longR_take {L : List (Rat × Rat)} {j : Nat} (h : j < L.length) : longR (L.take (j + 1)) = longR (L.take j) + (L[j].2 - L[j].1) := by
  have e : L.take (j + 1) = L.take j ++ [L[j]] := by rw [List.take_add_one, List.getElem?_eq_getElem h]; rfl
  rw [e, longR_app]
theorem w_waited (S : Sys n C v) (h : Pl12 n p) (hQ : ∀ s', Sub s s' → Q (waitV n C v p) s') : (callN prog (k + 10) "waited" [brV n C v, fv n p] s).wp Q := by
  have n5 := S.br.n5
  obtain ⟨D, d0, dZ, _, hA⟩ := spA_ok S h
  rw [c_waited]
  simp only [d_waited, startE]
  rw [if_pos (by rfl)]
  simp only [wp_finish]
  refine wp_cons (wp_asg ?_)
  simp only [evalE, evalEs, Out.bind_ok]
  rw [if_pos (smallN (by simp))]
  simp only [pushO, wp_ok]
  refine ⟨[some (brV n C v), some (fv n p), some (.loc s.length), none, none, none, none], rfl, ?_⟩
  have hw := listAt_push s []
  have hs0 := Sub.app s [Ob.lst []]
  generalize s ++ [Ob.lst []] = s0 at *
  refine wp_cons (wp_forS ?_)
  simp only [evalIt, evalE, evalEs, wp_bind, List.getElem?_cons_zero, List.getElem?_cons_succ, Out.bind_ok, ctxOf_call]
  refine w_held_spans (k := k) S h fun s1 h1 => ?_
  have hw1 := h1.list hw
  have hs1 := hs0.trans h1
  rw [show seqG s1 (heldV n C v p) = some ((List.range n).map fun i => spV (spA n C v p i), .none) from rfl]
  simp only [wp_opt, Option.elim_some]
  refine wp_for (fun i σ s' => ∃ y3 y4 y5 y6, σ = [some (brV n C v), some (fv n p), some (.loc s.length), y3, y4, y5, y6] ∧ Sub s s' ∧ listAt s' s.length = some (fvs i fun i => longR (spA n C v p i)))
    ⟨_, _, _, _, rfl, hs1, hw1⟩ (fun _ _ _ _ _ => trivial) (fun i hi σ s' hI => ?_) (fun σ s' hI => ?_)
  · obtain ⟨y3, y4, y5, y6, rfl, hs, hl⟩ := hI
    have hi' : i < n := by simpa using hi
    have e : ((List.range n).map fun i => spV (spA n C v p i))[i] = spV (spA n C v p i) := by simp
    rw [e]
    obtain ⟨hok, hlen⟩ := hA i
    generalize hLL : spA n C v p i = L at *
    simp only [asgT, List.set_cons_succ, List.set_cons_zero, l_waited_1]
    refine wp_cons (wp_asg ?_)
    simp only [evalE, ctxOf_const, g_ZERO, wp_ok]
    refine ⟨[some (brV n C v), some (fv n p), some (.loc s.length), some (spV L), some (frV 0), y5, y6], by rw [fr0]; rfl, ?_⟩
    refine wp_cons (wp_forS ?_)
    simp only [evalIt, evalE, wp_bind, List.getElem?_cons_zero, List.getElem?_cons_succ, Out.bind_ok]
    rw [show seqG s' (spV L) = some (L.map prV, .none) from rfl]
    simp only [wp_opt, Option.elim_some]
    refine wp_for (fun j σ s2 => s2 = s' ∧ ∃ y5 y6, σ = [some (brV n C v), some (fv n p), some (.loc s.length), some (spV L), some (frV (longR (L.take j))), y5, y6]) ⟨rfl, _, _, rfl⟩ (fun _ _ _ _ _ => trivial) (fun j hj σ s2 hI => ?_) (fun σ s2 hI => ?_)
    · obtain ⟨rfl, z5, z6, rfl⟩ := hI
      have hj' : j < L.length := by simpa using hj
      have ej : (L.map prV)[j] = .tup [frV L[j].1, frV L[j].2] := by simp [prV]
      have hx := hok _ (List.getElem_mem hj')
      obtain ⟨s1', s2', s3'⟩ := sp_sb d0 dZ hx
      have sl := long_sb d0 dZ (L := L.take j) (fun x hx => hok x (List.mem_of_mem_take hx)) (by simp; omega)
      have lt := longR_take hj'
      rw [ej]
      generalize L[j] = x at *
      simp only [asgT, asgTs, seqO, List.length_cons, List.length_nil, Option.bind_some, List.set_cons_succ, List.set_cons_zero, if_true, Nat.zero_add, Nat.reduceAdd, l_waited_0]
      refine wp_cons (wp_asg ?_)
      simp only [evalE, evalEs, wp_bind, List.getElem?_cons_zero, List.getElem?_cons_succ, Out.bind_ok, ctxOf_call, w_less fp (s2'.sm (by decide)) (s1'.sm (by decide)), wp_ok, w_plus fp (sl.sm (by decide)) (s3'.sm (by decide))]
      rw [lt]
      exact ⟨_, rfl, wp_nil ⟨rfl, _, _, rfl⟩⟩
    · obtain ⟨rfl, z5, z6, rfl⟩ := hI
      rw [List.length_map, List.take_length]
      refine wp_cons ?_
      simp only [exec, evalE, evalEs, List.getElem?_cons_zero, List.getElem?_cons_succ, Out.bind_ok, recv_append hl, if_true, wp_bind]
      rw [meth_append hl (by rw [fvs_len]; have := PySem.sizeLine_eq; omega)]
      simp only [wp_ok]
      refine wp_nil ⟨_, _, _, _, rfl, hs.set (Nat.le_refl _), ?_⟩
      rw [listAt_set (listAt_lt hl)]
      congr 1
      simp [fvs, List.range_succ, hLL]
  · obtain ⟨y3, y4, y5, y6, rfl, hs, hl⟩ := hI
    rw [show ((List.range n).map fun i => spV (spA n C v p i)).length = n by simp] at hl
    refine wp_cons (wp_ret ?_)
    simp only [evalE, evalEs, wp_bind, List.getElem?_cons_zero, List.getElem?_cons_succ, Out.bind_ok, primV, seqO_loc, hl, wp_ok]
    exact hQ _ hs
theorem w_law_long {D : Int} (d0 : 0 < D) (dZ : D ≤ ZZ) {L : List (Rat × Rat)} (hok : ∀ x ∈ L, SpOk D 210 x) (hlen : L.length ≤ 36) (hQ : Q (frV (longR L)) s) : (callN prog (k + 3) "_law_long" [spV L] s).wp Q := by
  rw [c__law_long]
  simp only [d__law_long, startE]
  rw [if_pos (by rfl)]
  simp only [wp_finish]
  refine wp_cons (wp_asg ?_)
  simp only [evalE, evalEs, Out.bind_ok]
  rw [if_pos (smallN (by simp))]
  simp only [wp_ok]
  refine ⟨[some (spV L), some (frV 0), none, none], by rw [fr0]; rfl, ?_⟩
  refine wp_cons (wp_forS ?_)
  simp only [evalIt, evalE, wp_bind, List.getElem?_cons_zero, List.getElem?_cons_succ, Out.bind_ok]
  rw [show seqG s (spV L) = some (L.map prV, .none) from rfl]
  simp only [wp_opt, Option.elim_some]
  refine wp_for (fun j σ s2 => s2 = s ∧ ∃ y2 y3, σ = [some (spV L), some (frV (longR (L.take j))), y2, y3]) ⟨rfl, _, _, rfl⟩ (fun _ _ _ _ _ => trivial) (fun j hj σ s2 hI => ?_) (fun σ s2 hI => ?_)
  · obtain ⟨rfl, z5, z6, rfl⟩ := hI
    have hj' : j < L.length := by simpa using hj
    have ej : (L.map prV)[j] = .tup [frV L[j].1, frV L[j].2] := by simp [prV]
    have hx := hok _ (List.getElem_mem hj')
    obtain ⟨s1', s2', s3'⟩ := sp_sb d0 dZ hx
    have sl := long_sb d0 dZ (L := L.take j) (fun x hx => hok x (List.mem_of_mem_take hx)) (by simp; omega)
    have lt := longR_take hj'
    rw [ej]
    generalize L[j] = x at *
    simp only [asgT, asgTs, seqO, List.length_cons, List.length_nil, Option.bind_some, List.set_cons_succ, List.set_cons_zero, if_true, Nat.zero_add, Nat.reduceAdd, l__law_long_0]
    refine wp_cons (wp_asg ?_)
    simp only [evalE, evalEs, wp_bind, List.getElem?_cons_zero, List.getElem?_cons_succ, Out.bind_ok, ctxOf_call, l_sub fl (s2'.sm (by decide)) (s1'.sm (by decide)), wp_ok, l_add fl (sl.sm (by decide)) (s3'.sm (by decide))]
    rw [lt]
    exact ⟨_, rfl, wp_nil ⟨rfl, _, _, rfl⟩⟩
  · obtain ⟨rfl, z5, z6, rfl⟩ := hI
    rw [List.length_map, List.take_length]
    refine wp_cons (wp_ret ?_)
    simp only [evalE, List.getElem?_cons_zero, List.getElem?_cons_succ, wp_ok]
    exact hQ
end
end K54
set_option maxHeartbeats 8000000
/-! K54F: what is lost. -/
namespace K54
open PySem (Str PyData)
open Bk Wk Rf
theorem zz6_small : 6 * ZZ < 2 ^ 1000 := by unfold ZZ; decide +kernel
theorem zip3_range {n : Nat} {f g h : Nat → Val} : zip3V ((List.range n).map f) ((List.range n).map g) ((List.range n).map h) = (List.range n).map fun i => .tup [f i, g i, h i] := by
  apply List.ext_getElem
  · simp [zip3V]
  · intro i h1 h2
    simp [zip3V]
section
variable {n : Nat} {C : List Rat} {v : Nat → Nat → Rat} {p : Nat → Rat}
theorem loss_ok (S : Sys n C v) {D : Int} {i : Nat} (hi : i < n) : ∀ (L : List Mo), (∀ x ∈ L, MoOk n D 210 x) → In (6 * D) (lossL n C v i L) ∧ 0 ≤ lossL n C v i L ∧ lossL n C v i L ≤ 2100 * ((L.length : Int) : Rat)
  | [], _ => ⟨in_zero _, Rat.le_refl, by simp [lossL]⟩
  | m :: L, h => by
    obtain ⟨i1, i2, i3⟩ := loss_ok S hi L fun y hy => h y (List.mem_cons_of_mem _ hy)
    have hm := h m List.mem_cons_self
    have e : (((m :: L).length : Int) : Rat) = ((L.length : Int) : Rat) + 1 := by
      rw [show (((m :: L).length : Nat) : Int) = (L.length : Int) + 1 by simp, Rat.intCast_add]
      rfl
    have r6 : ∀ i, In 6 (realS (ownS C v m.q) m.q n i) ∧ realS (ownS C v m.q) m.q n i ≤ 10 := fun i => rk6 (fun i => ⟨S.v6.in6 _ _, S.v6.le6 _ _⟩) _
    have o6 : In 6 (ownS C v m.q i) := S.v6.in6 _ _
    have o10 : ownS C v m.q i ≤ 10 := S.v6.le6 _ _
    have rp := real_pos (p := m.q) (n := n) (own := ownS C v m.q) (fun i => S.br.vP _ _) i
    have rle := real_le (own := ownS C v m.q) (p := m.q) hi
    obtain ⟨zx, hx⟩ := o6.sub (r6 i).1
    obtain ⟨zy, hy⟩ := hm.ie.sub hm.ib
    have h1 := hm.b0
    have h2 := hm.be
    have h3 := hm.eY
    have x0 : 0 ≤ ownS C v m.q i - realS (ownS C v m.q) m.q n i := by grind
    have x10 : ownS C v m.q i - realS (ownS C v m.q) m.q n i ≤ 10 := by grind
    have y0 : 0 ≤ m.e - m.b := by grind
    have y210 : m.e - m.b ≤ 210 := by grind
    have el : lossL n C v i (m :: L) = (ownS C v m.q i - realS (ownS C v m.q) m.q n i) * (m.e - m.b) + lossL n C v i L := rfl
    rw [el]
    generalize ownS C v m.q i - realS (ownS C v m.q) m.q n i = x at *
    generalize m.e - m.b = y at *
    have xy0 : 0 ≤ x * y := Rat.mul_nonneg x0 y0
    have xy : x * y ≤ 2100 := by
      have q1 := Rat.mul_le_mul_of_nonneg_right x10 y0
      grind
    have hin : In (6 * D) (x * y) := ⟨zx * zy, by
      rw [Rat.intCast_mul, Rat.intCast_mul, ← hx, ← hy]
      grind⟩
    refine ⟨hin.add i1, ?_, ?_⟩
    · grind
    · rw [e]
      grind
theorem loss_sb (S : Sys n C v) {D : Int} (d0 : 0 < D) (dZ : D ≤ ZZ) {i : Nat} (hi : i < n) {L : List Mo} (h : ∀ x ∈ L, MoOk n D 210 x) (hl : L.length ≤ 100) : Sb 1020 (lossL n C v i L) := by
  obtain ⟨h1, h2, h3⟩ := loss_ok S hi L h
  have zs := zz6_small
  refine in_sb h1 (by omega) (by omega) h2 ?_
  have : ((L.length : Int) : Rat) ≤ ((100 : Int) : Rat) := Rat.intCast_le_intCast.mpr (by omega)
  have e1 : ((100 : Int) : Rat) = 100 := rfl
  have e2 : ((1000000 : Int) : Rat) = 1000000 := rfl
  rw [e1] at this
  rw [e2]
  grind
theorem mo_sb {D : Int} (d0 : 0 < D) (dZ : D ≤ ZZ) {x : Mo} (h : MoOk n D 210 x) : Sb 1020 x.b ∧ Sb 1020 x.e ∧ Sb 1020 (x.e - x.b) := sp_sb d0 dZ (x := (x.b, x.e)) ⟨h.ib, h.ie, h.b0, h.be, h.eY⟩
theorem lossL_take {i j : Nat} {L : List Mo} (h : j < L.length) : lossL n C v i (L.take (j + 1)) = lossL n C v i (L.take j) + (ownS C v L[j].q i - realS (ownS C v L[j].q) L[j].q n i) * (L[j].e - L[j].b) := by
  have e : L.take (j + 1) = L.take j ++ [L[j]] := by rw [List.take_add_one, List.getElem?_eq_getElem h]; rfl
  rw [e, lossL_app]
end
section
variable {k n : Nat} {s : Sto} {Q : Val → Sto → Prop} {v : Nat → Nat → Rat} {p : Nat → Rat}
theorem w_lost (S : Sys n [] v) (h : Pl12 n p) (hQ : ∀ s', Sub s s' → Q (fv n fun i => lossL n [] v i (moms n [] v p)) s') : (callN prog (k + 8) "lost" [brV n [] v, fv n p] s).wp Q := by
  have n5 := S.br.n5
  have hz : ZZ < 2 ^ 1800 := Int.lt_of_lt_of_le zz_small (by decide +kernel)
  have smp : ∀ i, i < n → Sm (p i) := fun i hi => (pl12_sb h hi).sm (by decide)
  obtain ⟨m', ok', _⟩ := walk_ok S _ _ _ (ok12 S h)
  have sm' := ok'.small hz (by decide)
  rw [c_lost]
  simp only [d_lost, startE]
  rw [if_pos (by rfl)]
  simp only [wp_finish]
  refine wp_cons ?_
  simp only [exec, evalE, evalEs, wp_bind, List.map_cons, List.map_nil, List.cons_append, List.getElem?_cons_zero, List.getElem?_cons_succ, Out.bind_ok, ctxOf_call, wp_ok]
  refine w_need_brigade fp bp S fun t1 => wp_cons (wp_ife ?_)
  have e0 : ∀ s, eqO s (cutsV []) (.tup []) = some true := fun s => eq_same (d := .tuple []) (b := 0) (e := 1) (by simp [cutsV, dataOf, dataW, dataWs]) (by simp [dataOf, dataW, dataWs]) ((rp_tup (b := 0) (e := 0) (xs := []) (fun x hx => (nomatch hx))).up (by decide) (by decide)) (by decide)
  simp only [evalT, evalE, evalEs, List.map_cons, List.map_nil, List.cons_append, List.getElem?_cons_zero, List.getElem?_cons_succ, Out.bind_ok, br_0]
  rw [if_pos (smallN (by simp))]
  simp only [Out.bind_ok, cmpO_ne, e0, Option.map_some, Bool.not_true, wp_ok]
  refine wp_nil (wp_cons ?_)
  simp only [exec, evalE, evalEs, wp_bind, List.map_cons, List.map_nil, List.cons_append, List.getElem?_cons_zero, List.getElem?_cons_succ, Out.bind_ok, ctxOf_call, wp_ok]
  refine w_need_places fp bp S h.pl smp fun t2 => wp_cons (wp_asg ?_)
  simp only [evalE, evalEs, wp_bind, List.map_cons, List.map_nil, List.cons_append, List.getElem?_cons_zero, List.getElem?_cons_succ, Out.bind_ok, ctxOf_call, wp_ok]
  refine w_stepped fp mp (k := k + 1) S hz (by decide) (ok12 S h) fun s2 h2 => ?_
  have hs2 : Sub s s2 := ((Sub.app _ _).trans (Sub.app _ _)).trans h2
  have hW : walk n [] v (most n [] + 1) p 0 = stepW n [] v p := rfl
  have hloss : ∀ i, lossL n [] v i (moms n [] v p) = v i 0 * (stepW n [] v p).1 - ((stepW n [] v p).2 i - p i) := fun i => by
    have := loss_walk (n := n) (v := v) (i := i) (most n [] + 1) p 0
    rw [hW] at this
    unfold moms
    rw [this]
    grind
  rw [hW] at sm'
  generalize hT : stepW n [] v p = W at *
  refine ⟨[some (brV n [] v), some (fv n p), some (frV W.1), some (fv n W.2), none, none, none, none], rfl, ?_⟩
  refine wp_cons (wp_asg ?_)
  simp only [evalE, evalEs, Out.bind_ok]
  rw [if_pos (smallN (by simp))]
  simp only [pushO, wp_ok]
  refine ⟨[some (brV n [] v), some (fv n p), some (frV W.1), some (fv n W.2), some (.loc s2.length), none, none, none], rfl, ?_⟩
  have hw := listAt_push s2 []
  have hs3 := hs2.trans (Sub.app s2 [Ob.lst []])
  have hge := hs2.1
  generalize s2.length = w at *
  generalize s2 ++ [Ob.lst []] = s3 at *
  refine wp_cons (wp_forS ?_)
  simp only [evalIt, evalE, wp_bind, List.getElem?_cons_zero, List.getElem?_cons_succ, Out.bind_ok, br_1, wp_ok]
  rw [show seqG s3 (peopleV n ([] : List Rat).length v) = some ((List.range n).map fun i => fv 1 (v i), .none) from rfl, show seqG s3 (fv n p) = some (fvs n p, .none) from rfl, show seqG s3 (fv n W.2) = some (fvs n W.2, .none) from rfl]
  have hz3 : zip3V ((List.range n).map fun i => fv 1 (v i)) (fvs n p) (fvs n W.2) = (List.range n).map fun i => .tup [fv 1 (v i), frV (p i), frV (W.2 i)] := zip3_range
  simp only [hz3, wp_ok]
  refine wp_for (fun i σ s' => ∃ y5 y6 y7, σ = [some (brV n [] v), some (fv n p), some (frV W.1), some (fv n W.2), some (.loc w), y5, y6, y7] ∧ Sub s s' ∧ listAt s' w = some (fvs i fun i => lossL n [] v i (moms n [] v p)))
    ⟨_, _, _, rfl, hs3, hw⟩ (fun _ _ _ _ _ => ⟨trivial, trivial, trivial⟩) (fun i hi σ s' hI => ?_) (fun σ s' hI => ?_)
  · obtain ⟨y5, y6, y7, rfl, hs, hl⟩ := hI
    have hi' : i < n := by simpa using hi
    have e : ((List.range n).map fun i => Val.tup [fv 1 (v i), frV (p i), frV (W.2 i)])[i] = .tup [fv 1 (v i), frV (p i), frV (W.2 i)] := by simp
    rw [e]
    have s1 : Sb 10 (v i 0) := S.br.vS i 0
    have s2' : Sb 1820 W.1 := sm'.2
    have s3' : Sb 1820 (W.2 i) := sm'.1 i hi'
    have s4 : Sb 10 (p i) := pl12_sb h hi'
    have it0 : ∀ s, itemV (fv 1 (v i)) (.int 0) s = .ok (frV (v i 0)) s := fun s => by simp [fv, fvs]
    simp only [asgT, asgTs, seqO, List.length_cons, List.length_nil, Option.bind_some, List.set_cons_succ, List.set_cons_zero, if_true, Nat.zero_add, Nat.reduceAdd, l_lost_0]
    refine wp_cons ?_
    simp only [exec, evalE, evalEs, List.getElem?_cons_zero, List.getElem?_cons_succ, Out.bind_ok, recv_append hl, if_true, wp_bind, it0, ctxOf_call, w_times fp (s1.sm (by decide)) (s2'.sm (by decide)), w_less fp (s3'.sm (by decide)) (s4.sm (by decide)), w_less fp ((s1.mul s2').sm (by decide)) ((s3'.sub s4).sm (by decide)), wp_ok]
    rw [meth_append hl (by rw [fvs_len]; have := PySem.sizeLine_eq; omega)]
    simp only [wp_ok]
    refine wp_nil ⟨_, _, _, rfl, hs.set hge, ?_⟩
    rw [listAt_set (listAt_lt hl), ← hloss i]
    congr 1
    simp [fvs, List.range_succ]
  · obtain ⟨y5, y6, y7, rfl, hs, hl⟩ := hI
    rw [show ((List.range n).map fun i => Val.tup [fv 1 (v i), frV (p i), frV (W.2 i)]).length = n by simp] at hl
    refine wp_cons (wp_ret ?_)
    simp only [evalE, evalEs, wp_bind, List.getElem?_cons_zero, List.getElem?_cons_succ, Out.bind_ok, primV, seqO_loc, hl, wp_ok]
    exact hQ _ hs
/-- the law's own sums -/
theorem ixN_nat {n i : Nat} (h : i < n) : L2.ixN n (i : Int) = some i := by
  unfold L2.ixN
  simp
  omega
theorem fvs_set {n i : Nat} {f : Nat → Rat} {y : Rat} (h : i < n) : (fvs n f).set i (frV y) = fvs n fun a => if a = i then y else f a := by
  apply List.ext_getElem
  · simp [fvs]
  · intro j h1 h2
    simp [fvs] at h1 ⊢
    by_cases e : i = j
    · subst e; simp
    · have : ¬ j = i := fun q => e q.symm
      simp [List.getElem_set, e, this]
theorem w_away {C : List Rat} (S : Sys n C v) {D : Int} (d0 : 0 < D) (dZ : D ≤ ZZ) {s0 s1 : Sto} {w aw : Nat} {xs : List Val} {L : List Mo} (hMS : MW n C v s0 s1 w xs L) (hok : ∀ x ∈ L, MoOk n D 210 x) (hL : L.length ≤ 36) (hs1 : Sub s1 s) (haw : s1.length ≤ aw) (hl0 : listAt s aw = some (fvs n fun _ => 0))
    {x0 x1 x2 x3 x5 x6 x7 x8 x9 x10 x11 x13 x14 x15 x16 x17 : Option Val} {Q : Fl → Sto → Prop} (hQ : ∀ y8 y13 y14 y15 y16 y17 s', Sub s1 s' → listAt s' aw = some (fvs n fun i => lossL n C v i L) → Q (.nx [x0, x1, x2, x3, some (.int n), x5, x6, x7, y8, x9, x10, x11, some (.loc aw), y13, y14, y15, y16, y17]) s') :
    (forLoop (fun x σ2 s2 => match asgT s2 (.qn (.nm 13) (.nm 14) (.nm 15) (.nm 16) (.nm 17)) x σ2 with
      | some σ3 => execs (ctxOf prog (callN prog (k + 5))) l_law_1 σ3 s2
      | none => .stuck) (.lst w xs) xs [x0, x1, x2, x3, some (.int n), x5, x6, x7, x8, x9, x10, x11, some (.loc aw), x13, x14, x15, x16, x17] s).wp Q := by
  have n5 := S.br.n5
  refine wp_for (fun j σ s' => ∃ y8 y13 y14 y15 y16 y17, σ = [x0, x1, x2, x3, some (.int n), x5, x6, x7, y8, x9, x10, x11, some (.loc aw), y13, y14, y15, y16, y17] ∧ Sub s1 s' ∧ listAt s' aw = some (fvs n fun i => lossL n C v i (L.take j)))
    ⟨_, _, _, _, _, _, rfl, hs1, by simpa [lossL] using hl0⟩ (fun j σ s' _ h => by obtain ⟨_, _, _, _, _, _, _, hs, _⟩ := h; exact hs.list hMS.lw) (fun j hj σ s' h => ?_) (fun σ s' h => ?_)
  · obtain ⟨y8, y13, y14, y15, y16, y17, rfl, hs, hl⟩ := h
    have hjL : j < L.length := by rw [← hMS.len]; exact hj
    obtain ⟨a, b, e, la, lb, _, _⟩ := hMS.at_ j hj hjL
    have hmo := hok _ (List.getElem_mem hjL)
    have hsb : ∀ i, i < n → Sb 1020 (lossL n C v i (L.take j)) := fun i hi => loss_sb S d0 dZ hi (fun x hx => hok x (List.mem_of_mem_take hx)) (by simp; omega)
    have htk : ∀ i, lossL n C v i (L.take (j + 1)) = lossL n C v i (L.take j) + (ownS C v L[j].q i - realS (ownS C v L[j].q) L[j].q n i) * (L[j].e - L[j].b) := fun i => lossL_take hjL
    rw [e]
    generalize hm : L[j] = m at *
    obtain ⟨sb, se, sd⟩ := mo_sb d0 dZ hmo
    simp only [asgT, asgTs, seqO, List.length_cons, List.length_nil, Option.bind_some, List.set_cons_succ, List.set_cons_zero, if_true, Nat.zero_add, Nat.reduceAdd, l_law_1]
    refine wp_cons (wp_forS ?_)
    simp only [evalIt, evalE, wp_bind, List.getElem?_cons_zero, List.getElem?_cons_succ, Out.bind_ok]
    rw [if_pos (smallI_of (by omega) (by omega))]
    simp only [wp_ok, Int.toNat_natCast]
    refine wp_for (fun i σ s' => ∃ y8, σ = [x0, x1, x2, x3, some (.int n), x5, x6, x7, y8, x9, x10, x11, some (.loc aw), some (frV m.b), some (frV m.e), some (fv n m.q), some (.loc a), some (.loc b)] ∧ Sub s1 s' ∧ listAt s' aw = some (fvs n fun c => if c < i then lossL n C v c (L.take (j + 1)) else lossL n C v c (L.take j)))
      ⟨_, rfl, hs, by simpa using hl⟩ (fun _ _ _ _ _ => trivial) (fun i hi σ s' h => ?_) (fun σ s' h => ?_)
    · obtain ⟨y8, rfl, hs, hl⟩ := h
      rw [rangeV_at hi]
      rw [rangeV_len] at hi
      have la' := hs.list la
      have lb' := hs.list lb
      have so : Sb 10 (ownS C v m.q i) := sm_own S.br m.q i
      have sr : Sb 10 (realS (ownS C v m.q) m.q n i) := sb_real (sm_own S.br m.q) i
      have sl := hsb i hi
      have hcur : (fvs n fun c => if c < i then lossL n C v c (L.take (j + 1)) else lossL n C v c (L.take j))[i]? = some (frV (lossL n C v i (L.take j))) := by
        rw [fvs_at hi]
        simp
      simp only [asgT, List.set_cons_succ, List.set_cons_zero, Int.zero_add, l_law_0]
      refine wp_cons ?_
      simp only [exec, evalE, evalEs, List.getElem?_cons_zero, List.getElem?_cons_succ, Out.bind_ok, item_loc' hl, item_loc' la', item_loc' lb', atI_cast, hcur, fvs_at hi, Option.elim_some, ctxOf_call, l_sub fl (so.sm (by decide)) (sr.sm (by decide)), l_sub fl (se.sm (by decide)) (sb.sm (by decide)), l_mul fl ((so.sub sr).sm (by decide)) (sd.sm (by decide)), l_add fl (sl.sm (by decide)) (((so.sub sr).mul sd).sm (by decide)), wp_bind]
      simp only [setV, listAt_some hl, fvs_len, ixN_nat hi, wp_ok]
      refine wp_nil ⟨_, rfl, hs.set haw, ?_⟩
      rw [listAt_set (listAt_lt hl), fvs_set hi]
      congr 1
      refine fvs_congr fun c hc => ?_
      by_cases e1 : c = i
      · subst e1
        rw [if_pos rfl, if_pos (by omega), htk]
      · rw [if_neg e1]
        by_cases e2 : c < i
        · rw [if_pos e2, if_pos (by omega)]
        · rw [if_neg e2, if_neg (by omega)]
    · obtain ⟨y8, rfl, hs, hl⟩ := h
      rw [rangeV_len] at hl
      refine wp_nil ⟨_, _, _, _, _, _, rfl, hs, ?_⟩
      rw [hl]
      congr 1
      exact fvs_congr fun c hc => by rw [if_pos hc]
  · obtain ⟨y8, y13, y14, y15, y16, y17, rfl, hs, hl⟩ := h
    rw [hMS.len, List.take_length] at hl
    exact hQ _ _ _ _ _ _ _ hs hl
end
end K54
set_option maxHeartbeats 8000000
/-! K54G: one turn of the law. -/
namespace K54
open PySem (Str PyData)
open Bk Wk Rf
theorem wp_lst2 {G : Ctx} {a b : E} {σ : Env} {s : Sto} {Q : Val → Sto → Prop} (h : (evalE G a σ s).wp fun x s1 => (evalE G b σ s1).wp fun y s2 => Q (.loc s2.length) (s2 ++ [.lst [x, y]])) : (evalE G (.lst (.cons a (.cons b .nil))) σ s).wp Q := by
  simp only [evalE, evalEs, wp_bind]
  refine wp_mono h fun x s1 h1 => wp_mono h1 fun y s2 h2 => ?_
  simp only [wp_ok, List.length_cons, List.length_nil, Nat.zero_add, Nat.reduceAdd, two_le, if_true, pushO]
  exact h2
theorem wp_prim1 {G : Ctx} {p : Pr} {e : E} {σ : Env} {s : Sto} {Q : Val → Sto → Prop} (h : (evalE G e σ s).wp fun x s' => (primV p [x] s').wp Q) : (evalE G (.prim p (.cons e .nil)) σ s).wp Q := by
  simp only [evalE, evalEs, wp_bind]
  refine wp_mono h fun x s1 h1 => ?_
  simp only [wp_ok]
  exact h1
def brD (n : Nat) (C : List Rat) (v : Nat → Nat → Rat) : PyData := .tuple [.tuple (C.map frD), .tuple ((List.range n).map fun i => fvD (C.length + 1) (v i))]
theorem data_br {s : Sto} {q n : Nat} {C : List Rat} {v : Nat → Nat → Rat} : Dt s q (brV n C v) (brD n C v) := by
  refine dt_mktup (dts_mk (dt_mktup (dts_frs C)) (dts_one (dt_mktup ?_)))
  exact dataWs_map (fun i => dt_fv) _
theorem rp_fvD {n : Nat} {p : Nat → Rat} (hn : n ≤ 6) (h : ∀ i, i < n → Sb 1820 (p i)) : Rp (fvD n p) 18 2 :=
  (rp_tup (b := 2) (e := 1) fun x hx => by
    simp only [List.mem_map, List.mem_range] at hx
    obtain ⟨i, hi, rfl⟩ := hx
    exact rp_fr (h i hi)).up (by simp; omega) (Nat.le_refl _)
theorem rp_br {n : Nat} {C : List Rat} {v : Nat → Nat → Rat} (S : Sys n C v) : Rp (brD n C v) 192 4 :=
  (rp_tup (b := 95) (e := 3) fun x hx => by
    have c5 := S.br.c5
    have n5 := S.br.n5
    simp only [List.mem_cons, List.not_mem_nil, or_false] at hx
    rcases hx with rfl | rfl
    · exact (rp_tup (b := 2) (e := 1) fun x hx => by
        obtain ⟨c, hc, rfl⟩ := List.mem_map.mp hx
        exact rp_fr ((S.br.cS c hc).up (by decide))).up (by simp; omega) (by omega)
    · exact (rp_tup (b := 18) (e := 2) fun x hx => by
        obtain ⟨i, hi, rfl⟩ := List.mem_map.mp hx
        exact rp_fvD (by omega) fun j _ => (S.br.vS i j).up (by decide)).up (by simp; omega) (Nat.le_refl _)).up (by simp) (Nat.le_refl _)
def prD (x : Rat × Rat) : PyData := .tuple [frD x.1, frD x.2]
theorem dt_pr {s : Sto} {q : Nat} {x : Rat × Rat} : Dt s q (prV x) (prD x) := dt_mktup (dts_mk dt_fr (dts_one dt_fr))
def spD (L : List (Rat × Rat)) : PyData := .tuple (L.map prD)
theorem dt_sp {s : Sto} {q : Nat} {L : List (Rat × Rat)} : Dt s q (spV L) (spD L) := dt_mktup (dataWs_map (fun x => dt_pr) L)
def heldD (n : Nat) (C : List Rat) (v : Nat → Nat → Rat) (p : Nat → Rat) : PyData := .tuple ((List.range n).map fun i => spD (spA n C v p i))
theorem dt_held {s : Sto} {q n : Nat} {C : List Rat} {v : Nat → Nat → Rat} {p : Nat → Rat} : Dt s q (heldV n C v p) (heldD n C v p) := dt_mktup (dataWs_map (fun i => dt_sp) _)
section
variable {n : Nat} {C : List Rat} {v : Nat → Nat → Rat} {p : Nat → Rat}
theorem rp_held (S : Sys n C v) (h : Pl12 n p) : Rp (heldD n C v p) 1265 4 := by
  have n5 := S.br.n5
  obtain ⟨D, d0, dZ, _, hA⟩ := spA_ok S h
  refine (rp_tup (b := 252) (e := 3) fun x hx => ?_).up (by simp; omega) (Nat.le_refl _)
  obtain ⟨i, hi, rfl⟩ := List.mem_map.mp hx
  obtain ⟨hok, hl⟩ := hA i
  refine (rp_tup (b := 6) (e := 2) fun y hy => ?_).up (by simp; omega) (Nat.le_refl _)
  obtain ⟨z, hz, rfl⟩ := List.mem_map.mp hy
  obtain ⟨s1, s2, _⟩ := sp_sb d0 dZ (hok z hz)
  refine (rp_tup (b := 2) (e := 1) fun u hu => ?_).up (by simp) (Nat.le_refl _)
  simp only [List.mem_cons, List.not_mem_nil, or_false] at hu
  rcases hu with rfl | rfl
  · exact rp_fr (s1.up (by decide))
  · exact rp_fr (s2.up (by decide))
theorem rp_wait (S : Sys n C v) (h : Pl12 n p) : Rp (fvD n fun i => longR (spA n C v p i)) 18 2 := by
  have n5 := S.br.n5
  obtain ⟨D, d0, dZ, _, hA⟩ := spA_ok S h
  exact rp_fvD (by omega) fun i hi => (long_sb d0 dZ (hA i).1 (by have := (hA i).2; omega)).up (by decide)
theorem rp_text (S : Sys n C v) (h : Pl12 n p) : Rp (.list [brD n C v, fvD n p]) 386 5 :=
  (rp_list (b := 192) (e := 4) (xs := [brD n C v, fvD n p]) fun x hx => by
    have n5 := S.br.n5
    simp only [List.mem_cons, List.not_mem_nil, or_false] at hx
    rcases hx with rfl | rfl
    · exact rp_br S
    · exact (rp_fvD (by omega) fun i hi => (pl12_sb h hi).up (by decide)).up (by decide) (by decide)).up (by simp) (Nat.le_refl _)
theorem dt_text {s : Sto} {a : Nat} (h : listAt s a = some [brV n C v, fv n p]) : Dt s 6 (.loc a) (.list [brD n C v, fvD n p]) := dt_mkloc h (dts_mk data_br (dts_one dt_fv))
end
theorem dt_twoV {s : Sto} {a : Nat} {x : Val} {d : PyData} (h : listAt s a = some [x, x]) (hd : Dt s 5 x d) : Dt s 6 (.loc a) (.list [d, d]) := dt_two h hd
theorem eq_cuts {s : Sto} {C : List Rat} (c5 : C.length ≤ 5) (cS : ∀ c ∈ C, Sb 10 c) : eqO s (cutsV C) (.tup []) = some (decide (C = [])) := by
  have hr : Rp (.tuple (C.map frD)) 15 2 := (rp_tup (b := 2) (e := 1) fun x hx => by
    obtain ⟨c, hc, rfl⟩ := List.mem_map.mp hx
    exact rp_fr ((cS c hc).up (by decide))).up (by simp; omega) (Nat.le_refl _)
  have hr0 : Rp (.tuple []) 0 1 := (rp_tup (b := 0) (e := 0) (xs := []) (fun x hx => (nomatch hx))).up (by decide) (by decide)
  have d1 : dataOf s (cutsV C) = some (.tuple (C.map frD)) := by simp [cutsV, dataOf, dataW, dataWs_frs]
  have d2 : dataOf s (.tup []) = some (.tuple []) := by simp [dataOf, dataW, dataWs]
  have sh : ∀ {d : PyData} {b e : Nat}, Rp d b e → e ≤ 60 → PySem.SeqAt.shaped d = true := fun {d b e} h he => by
    have h1 := h.dp
    simp only [PySem.SeqAt.shaped, h.ly, Bool.true_and]
    exact decide_eq_true (by omega)
  simp only [eqO, d1, d2, sh hr (by decide), sh hr0 (by decide), and_self, if_true]
  cases C <;> simp [PyData.eqv, PyData.eqvAll]
theorem ixkH : ixK d_held_spans.ps 0 ["places", "brigade"] = [1, 0] := by decide +kernel
theorem ordkH (a b : Val) : ordK (ixK d_held_spans.ps 0 ["places", "brigade"]) [a, b] = [b, a] := by rw [ixkH]; rfl
theorem pH : (prog.find "held_spans").map (·.ps) = some d_held_spans.ps := rfl
theorem ixkW : ixK d_waited.ps 0 ["places", "brigade"] = [1, 0] := by decide +kernel
theorem ordkW (a b : Val) : ordK (ixK d_waited.ps 0 ["places", "brigade"]) [a, b] = [b, a] := by rw [ixkW]; rfl
theorem pW : (prog.find "waited").map (·.ps) = some d_waited.ps := rfl
section
variable {k n pl : Nat} {s : Sto} {C : List Rat} {v : Nat → Nat → Rat} {p : Nat → Rat}
theorem w_heldE {σ : Env} {Q : Val → Sto → Prop} (S : Sys n C v) (h : Pl12 n p) (e3 : σ[3]? = some (some (brV n C v))) (e5 : σ[5]? = some (some (fv n p))) (hQ : ∀ s', Sub s s' → Q (heldV n C v p) s') :
    (evalE (ctxOf prog (callN prog (k + 9))) (.call "held_spans" (.cons (.var 3) (.cons (.var 5) .nil))) σ s).wp Q := by
  simp only [evalE, evalEs, e3, e5, Out.bind_ok, ctxOf_call]
  exact w_held_spans S h hQ
theorem w_waitE {σ : Env} {Q : Val → Sto → Prop} (S : Sys n C v) (h : Pl12 n p) (e3 : σ[3]? = some (some (brV n C v))) (e5 : σ[5]? = some (some (fv n p))) (hQ : ∀ s', Sub s s' → Q (waitV n C v p) s') :
    (evalE (ctxOf prog (callN prog (k + 10))) (.call "waited" (.cons (.var 3) (.cons (.var 5) .nil))) σ s).wp Q := by
  simp only [evalE, evalEs, e3, e5, Out.bind_ok, ctxOf_call]
  exact w_waited S h hQ
theorem w_heldK {σ : Env} {Q : Val → Sto → Prop} (S : Sys n C v) (h : Pl12 n p) (e3 : σ[3]? = some (some (brV n C v))) (e5 : σ[5]? = some (some (fv n p))) (hQ : ∀ s', Sub s s' → Q (heldV n C v p) s') :
    (evalE (ctxOf prog (callN prog (k + 9))) (.callK "held_spans" .nil ["places", "brigade"] (.cons (.var 5) (.cons (.var 3) .nil))) σ s).wp Q := by
  simp only [evalE, evalEs, e3, e5, Out.bind_ok, ctxOf, List.length_nil, List.nil_append]
  rw [pH]
  simp only [ordkH]
  exact w_held_spans S h hQ
theorem w_waitK {σ : Env} {Q : Val → Sto → Prop} (S : Sys n C v) (h : Pl12 n p) (e3 : σ[3]? = some (some (brV n C v))) (e5 : σ[5]? = some (some (fv n p))) (hQ : ∀ s', Sub s s' → Q (waitV n C v p) s') :
    (evalE (ctxOf prog (callN prog (k + 10))) (.callK "waited" .nil ["places", "brigade"] (.cons (.var 5) (.cons (.var 3) .nil))) σ s).wp Q := by
  simp only [evalE, evalEs, e3, e5, Out.bind_ok, ctxOf, List.length_nil, List.nil_append]
  rw [pW]
  simp only [ordkW]
  exact w_waited S h hQ
theorem w_turn {i : Nat} (hi : i < 5) {x0 x3 x4 x5 x6 x7 x8 x9 x10 x11 x12 x13 x14 x15 x16 x17 : Option Val} {Q : Fl → Sto → Prop} (hp : Pool s pl) (hQ : ∀ y3 y4 y5 y6 y7 y8 y9 y10 y11 y12 y13 y14 y15 y16 y17 s', Pool s' pl → Q (.nx [x0, some (.loc pl), some (.int i), y3, y4, y5, y6, y7, y8, y9, y10, y11, y12, y13, y14, y15, y16, y17]) s') :
    (execs (ctxOf prog (callN prog (k + 20))) l_law_2 [x0, some (.loc pl), some (.int i), x3, x4, x5, x6, x7, x8, x9, x10, x11, x12, x13, x14, x15, x16, x17] s).wp Q := by
  have five : (5 : Nat) ≤ PySem.sizeLine := smallN (by decide)
  have hz : ZZ < 2 ^ 1800 := Int.lt_of_lt_of_le zz_small (by decide +kernel)
  simp only [l_law_2]
  -- the brigade
  refine wp_cons (wp_asg ?_)
  simp only [evalE, evalEs, wp_bind, List.getElem?_cons_zero, List.getElem?_cons_succ, Out.bind_ok, ctxOf_call, wp_ok, List.length_cons, List.length_nil, Nat.zero_add, Nat.reduceAdd, five, if_true, pushO]
  have l0 := listAt_push s [Val.int 0, .int 2, .int 2, .int 1, .int 0]
  have hc : ∃ c : Nat, c ≤ 2 ∧ [Val.int 0, Val.int 2, .int 2, .int 1, .int 0][i]? = some (.int c) := by
    have : i = 0 ∨ i = 1 ∨ i = 2 ∨ i = 3 ∨ i = 4 := by omega
    rcases this with rfl | rfl | rfl | rfl | rfl
    · exact ⟨0, by decide, rfl⟩
    · exact ⟨2, by decide, rfl⟩
    · exact ⟨2, by decide, rfl⟩
    · exact ⟨1, by decide, rfl⟩
    · exact ⟨0, by decide, rfl⟩
  obtain ⟨c, hc2, ec⟩ := hc
  rw [item_loc' l0, atI_cast, ec]
  simp only [Option.elim_some, Out.bind_ok, wp_ok]
  have hp0 := hp.app [Ob.lst [Val.int 0, .int 2, .int 2, .int 1, .int 0]]
  generalize s ++ [Ob.lst [Val.int 0, .int 2, .int 2, .int 1, .int 0]] = s0 at *
  refine l_brigade (k := k + 17) (mx := 5) (cuts := c) fl.fm dp hp0 (by decide) (by decide) (by omega) fun n C v s1 S n5 cl cI h1 => ?_
  refine ⟨[x0, some (.loc pl), some (.int i), some (brV n C v), x4, x5, x6, x7, x8, x9, x10, x11, x12, x13, x14, x15, x16, x17], rfl, ?_⟩
  refine wp_cons (wp_asg ?_)
  simp only [evalE, evalEs, wp_bind, List.getElem?_cons_zero, List.getElem?_cons_succ, Out.bind_ok, wp_ok, br_1, len_people]
  refine ⟨[x0, some (.loc pl), some (.int i), some (brV n C v), some (.int n), x5, x6, x7, x8, x9, x10, x11, x12, x13, x14, x15, x16, x17], rfl, ?_⟩
  -- places
  refine wp_cons (wp_asg ?_)
  simp only [evalE, evalEs, wp_bind, List.getElem?_cons_zero, List.getElem?_cons_succ, Out.bind_ok, ctxOf_call, wp_ok]
  refine l_places (k := k + 18) fl.fm dp h1.pool n5 fun p s2 hpl h2 => ?_
  have hpool := h2.pool
  refine ⟨[x0, some (.loc pl), some (.int i), some (brV n C v), some (.int n), some (fv n p), x6, x7, x8, x9, x10, x11, x12, x13, x14, x15, x16, x17], rfl, ?_⟩
  have base : ∀ s', Sub s2 s' → Pool s' pl := fun s' hs => (hpool.refl.sub hs).pool
  -- the text, the law's moments
  refine wp_cons (wp_asg ?_)
  simp only [evalE, evalEs, wp_bind, List.getElem?_cons_zero, List.getElem?_cons_succ, Out.bind_ok, ctxOf_call, wp_ok, List.length_cons, List.length_nil, Nat.zero_add, Nat.reduceAdd, two_le, if_true, pushO]
  have lt1 := listAt_push s2 [brV n C v, fv n p]
  rw [repr_rp (dt_text lt1) (rp_text S hpl) (by decide) (by decide)]
  simp only [wp_ok]
  have hs3 := Sub.app s2 [Ob.lst [brV n C v, fv n p]]
  generalize s2 ++ [Ob.lst [brV n C v, fv n p]] = s3 at *
  refine w_law_spans (k := k + 14) S hz (by decide) (ok12 S hpl) fun s4 w xs hMW => ?_
  have hs4 := hs3.trans hMW.sub
  have it0 : ∀ s, itemV (.tup [.loc w, fv n (stepW n C v p).2]) (.int 0) s = .ok (.loc w) s := fun s => by simp
  simp only [it0, Out.bind_ok, wp_ok]
  generalize htx : PyData.shown (.list [brD n C v, fvD n p]) = tx at *
  refine ⟨[x0, some (.loc pl), some (.int i), some (brV n C v), some (.int n), some (fv n p), some (.str tx), some (.loc w), x8, x9, x10, x11, x12, x13, x14, x15, x16, x17], rfl, ?_⟩
  have hml := moms_len (p := p) S
  obtain ⟨D, d0, dZ, hMo, hA⟩ := spA_ok S hpl
  -- due
  refine wp_cons (wp_asg ?_)
  simp only [evalE, evalEs, evalIt, wp_bind, List.getElem?_cons_zero, List.getElem?_cons_succ, Out.bind_ok, wp_ok]
  rw [if_pos (smallI_of (by omega) (by omega))]
  simp only [wp_ok, Int.toNat_natCast]
  refine wp_lc_ix (fun i => spV (spA n C v p i)) (fun _ => trivial) (by rw [rangeV_len]; exact smallN (by omega)) (fun j hj t => ?_) fun t => ?_
  · rw [rangeV_at hj]
    rw [rangeV_len] at hj
    simp only [asgT, wipe, List.set_cons_succ, List.set_cons_zero, Int.zero_add, evalC, evalE, evalEs, wp_bind, List.getElem?_cons_zero, List.getElem?_cons_succ, Out.bind_ok, wp_ok, ctxOf_call]
    refine w_law_held (k := k + 18) hj S.br (hMW.of_sub (Sub.app s4 t)) (by omega) fun s5 h5 => ?_
    obtain ⟨u, rfl⟩ := sub_app h5
    exact ⟨rfl, u, rfl⟩
  rw [rangeV_len]
  have l3 := listAt_push (s4 ++ t) ((List.range n).map fun i => spV (spA n C v p i))
  simp only [pushO, wp_ok, primV, seqO_loc, l3]
  have hMW5 := hMW.of_sub ((Sub.app s4 t).trans (Sub.app (s4 ++ t) [Ob.lst ((List.range n).map fun i => spV (spA n C v p i))]))
  have hs5 := hs4.trans ((Sub.app s4 t).trans (Sub.app (s4 ++ t) [Ob.lst ((List.range n).map fun i => spV (spA n C v p i))]))
  generalize s4 ++ t ++ [Ob.lst ((List.range n).map fun i => spV (spA n C v p i))] = s5 at *
  refine ⟨[x0, some (.loc pl), some (.int i), some (brV n C v), some (.int n), some (fv n p), some (.str tx), some (.loc w), x8, some (heldV n C v p), x10, x11, x12, x13, x14, x15, x16, x17], rfl, ?_⟩
  have hRH := rp_two (rp_held S hpl)
  -- held_spans
  refine wp_cons (wp_ife (wp_ne (wp_prim1 (wp_lst2 ?_))))
  refine w_heldE (k := k + 11) S hpl (by rfl) (by rfl) fun s6 h6 => ?_
  refine w_heldK (k := k + 11) S hpl (by rfl) (by rfl) fun s7 h7 => ?_
  have l7 := listAt_push s7 [heldV n C v p, heldV n C v p]
  rw [repr_rp (dt_twoV l7 dt_held) hRH (by decide) (by decide)]
  simp only [wp_ok]
  have hs8 := (h6.trans h7).trans (Sub.app s7 [Ob.lst [heldV n C v p, heldV n C v p]])
  generalize s7 ++ [Ob.lst [heldV n C v p, heldV n C v p]] = s8 at *
  have l8 := listAt_push s8 [heldV n C v p, heldV n C v p]
  refine ⟨.str (PyData.list [heldD n C v p, heldD n C v p]).shown, s8 ++ [Ob.lst [heldV n C v p, heldV n C v p]], ?_, ne_str hRH, wp_nil ?_⟩
  · simp only [evalE, evalEs, List.getElem?_cons_zero, List.getElem?_cons_succ, Out.bind_ok, List.length_cons, List.length_nil, Nat.zero_add, Nat.reduceAdd, two_le, if_true, pushO]
    exact repr_rp (dt_twoV l8 dt_held) hRH (by decide) (by decide)
  have hs9 := hs8.trans (Sub.app s8 [Ob.lst [heldV n C v p, heldV n C v p]])
  have hMW9 := hMW5.of_sub hs9
  have hs9' := hs5.trans hs9
  generalize s8 ++ [Ob.lst [heldV n C v p, heldV n C v p]] = s9 at *
  -- long
  refine wp_cons (wp_asg ?_)
  simp only [evalE, evalEs, evalIt, wp_bind, List.getElem?_cons_zero, List.getElem?_cons_succ, Out.bind_ok, wp_ok]
  rw [show seqG s9 (heldV n C v p) = some ((List.range n).map fun i => spV (spA n C v p i), .none) from rfl]
  simp only [wp_opt, Option.elim_some]
  refine wp_lc_ix (fun i => frV (longR (spA n C v p i))) (fun _ => trivial) (by simp; exact smallN (by omega)) (fun j hj t => ?_) fun t => ?_
  · have hj' : j < n := by simpa using hj
    have e : ((List.range n).map fun i => spV (spA n C v p i))[j] = spV (spA n C v p j) := by simp
    rw [e]
    simp only [asgT, wipe, List.set_cons_succ, List.set_cons_zero, evalC, evalE, evalEs, wp_bind, List.getElem?_cons_zero, List.getElem?_cons_succ, Out.bind_ok, wp_ok, ctxOf_call]
    exact w_law_long (k := k + 17) d0 dZ (hA j).1 (hA j).2 ⟨rfl, [], by simp⟩
  rw [show ((List.range n).map fun i => spV (spA n C v p i)).length = n by simp]
  have l10 := listAt_push (s9 ++ t) ((List.range n).map fun i => frV (longR (spA n C v p i)))
  simp only [pushO, wp_ok, primV, seqO_loc, l10]
  have hsx := (Sub.app s9 t).trans (Sub.app (s9 ++ t) [Ob.lst ((List.range n).map fun i => frV (longR (spA n C v p i)))])
  have hMW10 := hMW9.of_sub hsx
  have hs10 := hs9'.trans hsx
  generalize s9 ++ t ++ [Ob.lst ((List.range n).map fun i => frV (longR (spA n C v p i)))] = s10 at *
  refine ⟨[x0, some (.loc pl), some (.int i), some (brV n C v), some (.int n), some (fv n p), some (.str tx), some (.loc w), x8, some (heldV n C v p), x10, some (waitV n C v p), x12, x13, x14, x15, x16, x17], rfl, ?_⟩
  have hRW := rp_two (rp_wait S hpl)
  refine wp_cons (wp_ife (wp_ne (wp_prim1 (wp_lst2 ?_))))
  refine w_waitE (k := k + 10) S hpl (by rfl) (by rfl) fun s11 h11 => ?_
  refine w_waitK (k := k + 10) S hpl (by rfl) (by rfl) fun s12 h12 => ?_
  have l12 := listAt_push s12 [waitV n C v p, waitV n C v p]
  rw [repr_rp (dt_twoV l12 dt_fv) hRW (by decide) (by decide)]
  simp only [wp_ok]
  have hs13 := (h11.trans h12).trans (Sub.app s12 [Ob.lst [waitV n C v p, waitV n C v p]])
  generalize s12 ++ [Ob.lst [waitV n C v p, waitV n C v p]] = s13 at *
  have l13 := listAt_push s13 [waitV n C v p, waitV n C v p]
  refine ⟨.str (PyData.list [fvD n (fun i => longR (spA n C v p i)), fvD n (fun i => longR (spA n C v p i))]).shown, s13 ++ [Ob.lst [waitV n C v p, waitV n C v p]], ?_, ne_str hRW, wp_nil ?_⟩
  · simp only [evalE, evalEs, List.getElem?_cons_zero, List.getElem?_cons_succ, Out.bind_ok, List.length_cons, List.length_nil, Nat.zero_add, Nat.reduceAdd, two_le, if_true, pushO]
    exact repr_rp (dt_twoV l13 dt_fv) hRW (by decide) (by decide)
  have hs14 := hs13.trans (Sub.app s13 [Ob.lst [waitV n C v p, waitV n C v p]])
  have hMW14 := hMW10.of_sub hs14
  have hs14' := hs10.trans hs14
  generalize s13 ++ [Ob.lst [waitV n C v p, waitV n C v p]] = s14 at *
  -- rising: nobody
  refine wp_cons (wp_ife (wp_and ?_))
  simp only [evalT, evalE, evalEs, wp_bind, List.getElem?_cons_zero, List.getElem?_cons_succ, Out.bind_ok, ctxOf_call, wp_ok]
  refine w_is_rising (k := k + 13) S fun s15 h15 => ?_
  have hs15 := hs14'.trans h15
  have hMW15 := hMW14.of_sub h15
  simp only [tr_true, Out.opt_some, wp_ok]
  have rest : ∀ s', Sub s15 s' → (execs (ctxOf prog (callN prog (k + 20))) (.cons (.ife (.cmp .eq (.idx (.var 3) (.cst (.int 0))) (.tup .nil))
      (.cons (.asg (.nm 12) (.bin .mul (.lst (.cons (.tup (.cons (.cst (.int 0)) (.cons (.cst (.int 1)) .nil))) .nil)) (.var 4)))
      (.cons (.for_ (.qn (.nm 13) (.nm 14) (.nm 15) (.nm 16) (.nm 17)) (.seq (.var 7)) l_law_1)
      (.cons (.ife (.cmp .ne (.call "lost" (.cons (.var 3) (.cons (.var 5) .nil))) (.prim .tuple (.cons (.var 12) .nil))) (.cons (.ret (.cst (.bl false))) .nil) .nil) .nil))) .nil)
      (.cons (.ife (.cmp .ne (.prim .repr (.cons (.lst (.cons (.var 3) (.cons (.var 5) .nil))) .nil)) (.var 6)) (.cons (.ret (.cst (.bl false))) .nil) .nil) .nil))
      [x0, some (.loc pl), some (.int i), some (brV n C v), some (.int n), some (fv n p), some (.str tx), some (.loc w), x8, some (heldV n C v p), x10, some (waitV n C v p), x12, x13, x14, x15, x16, x17] s').wp Q := by
    intro s16 h16
    have hs16 := hs15.trans h16
    have hMW16 := hMW15.of_sub h16
    have fin : ∀ y8 y12 y13 y14 y15 y16 y17 s', Sub s2 s' → (execs (ctxOf prog (callN prog (k + 20))) (.cons (.ife (.cmp .ne (.prim .repr (.cons (.lst (.cons (.var 3) (.cons (.var 5) .nil))) .nil)) (.var 6)) (.cons (.ret (.cst (.bl false))) .nil) .nil) .nil)
        [x0, some (.loc pl), some (.int i), some (brV n C v), some (.int n), some (fv n p), some (.str tx), some (.loc w), y8, some (heldV n C v p), x10, some (waitV n C v p), y12, y13, y14, y15, y16, y17] s').wp Q := by
      intro y8 y12 y13 y14 y15 y16 y17 s' hs
      refine wp_cons (wp_ife (wp_ne (wp_prim1 (wp_lst2 ?_))))
      simp only [evalE, List.getElem?_cons_zero, List.getElem?_cons_succ, wp_ok]
      have lx := listAt_push s' [brV n C v, fv n p]
      rw [repr_rp (dt_text lx) (rp_text S hpl) (by decide) (by decide)]
      simp only [wp_ok]
      refine ⟨.str tx, s' ++ [Ob.lst [brV n C v, fv n p]], rfl, by rw [← htx]; exact ne_str (rp_text S hpl), wp_nil (wp_nil ?_)⟩
      exact hQ _ _ _ _ _ _ _ _ _ _ _ _ _ _ _ _ (base _ (hs.trans (Sub.app _ _)))
    refine wp_cons (wp_ife ?_)
    simp only [evalT, evalE, evalEs, List.getElem?_cons_zero, List.getElem?_cons_succ, Out.bind_ok, br_0]
    rw [if_pos (smallN (by simp))]
    simp only [Out.bind_ok, cmpO_eq, eq_cuts S.br.c5 S.br.cS, wp_ok]
    by_cases hC : C = []
    · subst hC
      simp only [decide_true]
      refine wp_cons (wp_asg ?_)
      have oneL : (1 : Nat) ≤ PySem.sizeLine := smallN (by decide)
      simp only [evalE, evalEs, List.getElem?_cons_zero, List.getElem?_cons_succ, Out.bind_ok, List.length_cons, List.length_nil, Nat.zero_add, Nat.reduceAdd, two_le, oneL, if_true, pushO]
      have la := listAt_push s16 [Val.tup [.int 0, .int 1]]
      have hmul : ∀ s a, listAt s a = some [Val.tup [.int 0, .int 1]] → binV .mul (.loc a) (.int n) s = .ok (.loc s.length) (s ++ [.lst (fvs n fun _ => 0)]) := fun s a ha => by
        simp only [binV, listAt_some ha]
        rw [if_pos ⟨by simp, by omega, by omega⟩, Int.toNat_natCast, flat_rep, ← fr0]
        have : List.replicate n (frV 0) = fvs n fun _ => 0 := by
          unfold fvs
          apply List.ext_getElem
          · simp
          · intro a b c; simp
        rw [this]
        rfl
      rw [hmul _ _ la]
      simp only [wp_ok]
      have hs17 : Sub s16 (s16 ++ [Ob.lst [Val.tup [.int 0, .int 1]]] ++ [Ob.lst (fvs n fun _ => 0)]) := (Sub.app _ _).trans (Sub.app _ _)
      have laa := listAt_push (s16 ++ [Ob.lst [Val.tup [.int 0, .int 1]]]) (fvs n fun _ => 0)
      have hge : s16.length ≤ (s16 ++ [Ob.lst [Val.tup [.int 0, .int 1]]]).length := by simp
      generalize (s16 ++ [Ob.lst [Val.tup [.int 0, .int 1]]]).length = aw at *
      generalize s16 ++ [Ob.lst [Val.tup [.int 0, .int 1]]] ++ [Ob.lst (fvs n fun _ => 0)] = s17 at *
      refine ⟨[x0, some (.loc pl), some (.int i), some (brV n [] v), some (.int n), some (fv n p), some (.str tx), some (.loc w), x8, some (heldV n [] v p), x10, some (waitV n [] v p), some (.loc aw), x13, x14, x15, x16, x17], rfl, ?_⟩
      refine wp_cons (wp_forS ?_)
      simp only [evalIt, evalE, wp_bind, List.getElem?_cons_zero, List.getElem?_cons_succ, Out.bind_ok]
      rw [seqG_loc (hs17.list hMW16.lw)]
      simp only [wp_opt, Option.elim_some]
      refine w_away (k := k + 15) S d0 dZ hMW16 hMo (by omega) hs17 hge laa fun y8 y13 y14 y15 y16 y17 s18 h18 l18 => ?_
      have hs18 := hs16.trans h18
      refine wp_cons (wp_ife (wp_ne ?_))
      simp only [evalE, evalEs, wp_bind, List.getElem?_cons_zero, List.getElem?_cons_succ, Out.bind_ok, ctxOf_call, wp_ok]
      refine w_lost (k := k + 12) S hpl fun s19 h19 => ?_
      have l19 := h19.list l18
      refine ⟨fv n fun i => lossL n [] v i (moms n [] v p), s19, ?_, ?_, wp_nil (wp_nil ?_)⟩
      · simp only [primV, seqO_loc, l19]
        rfl
      · exact ne_same (d := fvD n fun i => lossL n [] v i (moms n [] v p)) dt_fv dt_fv (rp_fvD (by omega) fun i hi => (loss_sb S d0 dZ hi hMo (by omega)).up (by decide)) (by decide)
      · exact fin _ _ _ _ _ _ _ _ (hs18.trans h19)
    · simp only [hC, decide_false]
      exact wp_nil (fin _ _ _ _ _ _ _ _ hs16)
  cases hr : ris n C.length v with
  | false => exact wp_nil (rest s15 (.refl _))
  | true =>
    have hR : Ris n C.length v := @of_decide_eq_true _ (Classical.propDecidable _) hr
    have hnil : ∀ j, j < n → spV (spA n C v p j) = .tup [] := fun j hj => by
      unfold spA
      rw [rising_sp hj hR]
      rfl
    have e0 : ∀ s, cmpO s .ne (.tup []) (.tup []) = some false := fun s => ne_same (d := .tuple []) (b := 0) (e := 1) (by simp [dataOf, dataW, dataWs]) (by simp [dataOf, dataW, dataWs]) ((rp_tup (b := 0) (e := 0) (xs := []) (fun x hx => (nomatch hx))).up (by decide) (by decide)) (by decide)
    simp only [evalE, evalIt, wp_bind, List.getElem?_cons_zero, List.getElem?_cons_succ, Out.bind_ok]
    rw [show seqG s15 (heldV n C v p) = some ((List.range n).map fun i => spV (spA n C v p i), .none) from rfl]
    simp only [wp_opt, Option.elim_some]
    refine wp_lc (fun j ys s' => s' = s15 ∧ ys = []) ⟨rfl, rfl⟩ (fun _ _ _ _ _ => trivial) (by simp; exact smallN (by omega)) (fun j hj ys s' h => ?_) (fun ys s' h => ?_)
    · obtain ⟨rfl, rfl⟩ := h
      have hj' : j < n := by simpa using hj
      have e : ((List.range n).map fun i => spV (spA n C v p i))[j] = .tup [] := by simp [hnil j hj']
      rw [e]
      simp only [asgT, wipe, List.set_cons_succ, List.set_cons_zero, evalC, evalT, evalE, evalEs, List.getElem?_cons_zero, List.getElem?_cons_succ, Out.bind_ok]
      rw [if_pos (smallN (by simp))]
      simp only [Out.bind_ok, e0, wp_ok]
      exact ⟨trivial, trivial⟩
    · obtain ⟨rfl, rfl⟩ := h
      simp only [pushO, wp_ok]
      have la := listAt_push s' []
      have hs16 := Sub.app s' [Ob.lst []]
      have la2 : listAt (s' ++ [Ob.lst []] ++ [Ob.lst []]) s'.length = some [] := (Sub.app (s' ++ [Ob.lst []]) [Ob.lst []]).list la
      have lb2 := listAt_push (s' ++ [Ob.lst []]) []
      have hq := eqO_nil' la2 (fun x hx => (nomatch hx)) lb2
      rw [if_pos (smallN (by simp))]
      simp only [wp_ok]
      rw [cmpO_ne, hq]
      simp only [Option.map_some, decide_true, Bool.not_true, wp_ok]
      exact wp_nil (rest _ (hs16.trans (Sub.app _ _)))
end
theorem main : ∀ ns : List Int, ns.length ≤ 63 → (∀ z ∈ ns, PySem.Builtin.Int.intBits z ≤ 1048576) → ∃ s, callN prog 61 "law" [.rol (ns.map .int)] [] = .ok (.bl true) s := by
  intro ns hn _
  have key : (callN prog (60 + 1) "law" [.rol (ns.map .int)] []).wp fun v _ => v = .bl true := by
    rw [c_law]
    simp [d_law, startE, execs, exec, evalE, evalEs]
    refine l_pool (P := prog) (many := 300) rfl ⟨by decide, by decide⟩ (by decide) hn fun s1 pl h1 h2 hp => ?_
    simp [asgT, evalIt, evalE]
    rw [if_pos (smallI_of (by decide) (by decide))]
    simp only [wp_ok]
    refine wp_for (fun i σ s' => ∃ x2 x3 x4 x5 x6 x7 x8 x9 x10 x11 x12 x13 x14 x15 x16 x17, σ = [some (.rol (ns.map .int)), some (.loc pl), x2, x3, x4, x5, x6, x7, x8, x9, x10, x11, x12, x13, x14, x15, x16, x17] ∧ Pool s' pl)
      ⟨_, _, _, _, _, _, _, _, _, _, _, _, _, _, _, _, rfl, hp⟩ (fun _ _ _ _ _ => trivial) (fun i hi σ s' h => ?_) (fun σ s' h => ?_)
    · obtain ⟨x2, x3, x4, x5, x6, x7, x8, x9, x10, x11, x12, x13, x14, x15, x16, x17, rfl, hP⟩ := h
      rw [rangeV_at hi, Int.zero_add]
      rw [rangeV_len] at hi
      simp only [asgT, List.set_cons_succ, List.set_cons_zero]
      refine w_turn (k := 40) hi hP fun y3 y4 y5 y6 y7 y8 y9 y10 y11 y12 y13 y14 y15 y16 y17 s2 hP2 => ?_
      exact ⟨_, _, _, _, _, _, _, _, _, _, _, _, _, _, _, _, rfl, hP2⟩
    · obtain ⟨x2, x3, x4, x5, x6, x7, x8, x9, x10, x11, x12, x13, x14, x15, x16, x17, rfl, hP⟩ := h
      simp
  obtain ⟨v, s, e, rfl⟩ := wp_get key
  exact ⟨s, e⟩
end K54

open PySem PySem.W PyProof.Rows in
set_option maxRecDepth 100000 in
set_option maxHeartbeats 0 in
theorem PySem.Challenge.cw_bucketsalong_k54_who_is_held_and_when_holds : PySem.Challenge.rw_bucketsalong_k54_who_is_held_and_when.Holds := by
  w_on; o_law; k_head; (case hw => w_witness2)
  k_fill
  refine Bk.walk_run (l := PySem.Challenge.rw_bucketsalong_k54_who_is_held_and_when) (P := K54.prog) (C := K54.sc) (dl := K54.d_law) (stl := K54.top 74) (N := K54.N_law) (k := 60) rfl (by decide) rfl ⟨rfl, by decide, by decide⟩ rfl (fun w h Y => PySem.W.kIn_of Y) rfl rfl (fun _ _ _ _ _ _ _ => rfl) K54.s_law K54.f_law rfl K54.b_law ?F K54.main
  case F =>
    intro w mg h KX G
    refine' K54.fin ?e_law ?e__law_pool ?e__law_brigade ?e__law_places ?e__law_spans ?e__law_held ?e_held_spans ?e__law_long ?e_waited ?e_is_rising ?e__law_add ?e__law_mul ?e__law_sub ?e_lost ?e__law_twelfths ?e__law_take ?e__law_speed ?e__law_make ?e__law_moment ?e__law_speeds ?e__law_moved ?e__law_less ?e_need_both ?e_moments_of ?e_spans_of ?e_plus ?e_less ?e_need_brigade ?e_goes_rising ?e_anew ?e_need_places ?e_stepped ?e_times ?e__law_div ?e__law_least ?e__law_piece ?e_next_moment ?e_held_now ?e_moved ?e_make ?e_is_a_brigade ?e_is_at_most ?e_are_places_of ?e_real_speeds ?e_over ?e_next_mark ?e_is_below ?e_least_of ?e_own_speeds ?e_is_tuple ?e_are_cuts ?e_are_speeds ?e_is_between ?e_are_not_falling ?e_piece_at ?e_is_fraction ?e_are_growing ?e_is_positive ?e_is_integer ?B
    case e_law => refine' Bk.ent_mk KX G ?a ?l ?c ?k; (case a => k_is); (case l => k_is); (case c => k_is); (case k => k_is)
    case e__law_pool => refine' Bk.ent_mk KX G ?a ?l ?c ?k; (case a => k_is); (case l => k_is); (case c => k_is); (case k => k_is)
    case e__law_brigade => refine' Bk.ent_mk KX G ?a ?l ?c ?k; (case a => k_is); (case l => k_is); (case c => k_is); (case k => k_is)
    case e__law_places => refine' Bk.ent_mk KX G ?a ?l ?c ?k; (case a => k_is); (case l => k_is); (case c => k_is); (case k => k_is)
    case e__law_spans => refine' Bk.ent_mk KX G ?a ?l ?c ?k; (case a => k_is); (case l => k_is); (case c => k_is); (case k => k_is)
    case e__law_held => refine' Bk.ent_mk KX G ?a ?l ?c ?k; (case a => k_is); (case l => k_is); (case c => k_is); (case k => k_is)
    case e_held_spans => refine' Bk.ent_mk KX G ?a ?l ?c ?k; (case a => k_is); (case l => k_is); (case c => k_is); (case k => k_is)
    case e__law_long => refine' Bk.ent_mk KX G ?a ?l ?c ?k; (case a => k_is); (case l => k_is); (case c => k_is); (case k => k_is)
    case e_waited => refine' Bk.ent_mk KX G ?a ?l ?c ?k; (case a => k_is); (case l => k_is); (case c => k_is); (case k => k_is)
    case e_is_rising => refine' Bk.ent_mk KX G ?a ?l ?c ?k; (case a => k_is); (case l => k_is); (case c => k_is); (case k => k_is)
    case e__law_add => refine' Bk.ent_mk KX G ?a ?l ?c ?k; (case a => k_is); (case l => k_is); (case c => k_is); (case k => k_is)
    case e__law_mul => refine' Bk.ent_mk KX G ?a ?l ?c ?k; (case a => k_is); (case l => k_is); (case c => k_is); (case k => k_is)
    case e__law_sub => refine' Bk.ent_mk KX G ?a ?l ?c ?k; (case a => k_is); (case l => k_is); (case c => k_is); (case k => k_is)
    case e_lost => refine' Bk.ent_mk KX G ?a ?l ?c ?k; (case a => k_is); (case l => k_is); (case c => k_is); (case k => k_is)
    case e__law_twelfths => refine' Bk.ent_mk KX G ?a ?l ?c ?k; (case a => k_is); (case l => k_is); (case c => k_is); (case k => k_is)
    case e__law_take => refine' Bk.ent_mk KX G ?a ?l ?c ?k; (case a => k_is); (case l => k_is); (case c => k_is); (case k => k_is)
    case e__law_speed => refine' Bk.ent_mk KX G ?a ?l ?c ?k; (case a => k_is); (case l => k_is); (case c => k_is); (case k => k_is)
    case e__law_make => refine' Bk.ent_mk KX G ?a ?l ?c ?k; (case a => k_is); (case l => k_is); (case c => k_is); (case k => k_is)
    case e__law_moment => refine' Bk.ent_mk KX G ?a ?l ?c ?k; (case a => k_is); (case l => k_is); (case c => k_is); (case k => k_is)
    case e__law_speeds => refine' Bk.ent_mk KX G ?a ?l ?c ?k; (case a => k_is); (case l => k_is); (case c => k_is); (case k => k_is)
    case e__law_moved => refine' Bk.ent_mk KX G ?a ?l ?c ?k; (case a => k_is); (case l => k_is); (case c => k_is); (case k => k_is)
    case e__law_less => refine' Bk.ent_mk KX G ?a ?l ?c ?k; (case a => k_is); (case l => k_is); (case c => k_is); (case k => k_is)
    case e_need_both => refine' Bk.ent_mk KX G ?a ?l ?c ?k; (case a => k_is); (case l => k_is); (case c => k_is); (case k => k_is)
    case e_moments_of => refine' Bk.ent_mk KX G ?a ?l ?c ?k; (case a => k_is); (case l => k_is); (case c => k_is); (case k => k_is)
    case e_spans_of => refine' Bk.ent_mk KX G ?a ?l ?c ?k; (case a => k_is); (case l => k_is); (case c => k_is); (case k => k_is)
    case e_plus => refine' Bk.ent_mk KX G ?a ?l ?c ?k; (case a => k_is); (case l => k_is); (case c => k_is); (case k => k_is)
    case e_less => refine' Bk.ent_mk KX G ?a ?l ?c ?k; (case a => k_is); (case l => k_is); (case c => k_is); (case k => k_is)
    case e_need_brigade => refine' Bk.ent_mk KX G ?a ?l ?c ?k; (case a => k_is); (case l => k_is); (case c => k_is); (case k => k_is)
    case e_goes_rising => refine' Bk.ent_mk KX G ?a ?l ?c ?k; (case a => k_is); (case l => k_is); (case c => k_is); (case k => k_is)
    case e_anew => refine' Bk.ent_mk KX G ?a ?l ?c ?k; (case a => k_is); (case l => k_is); (case c => k_is); (case k => k_is)
    case e_need_places => refine' Bk.ent_mk KX G ?a ?l ?c ?k; (case a => k_is); (case l => k_is); (case c => k_is); (case k => k_is)
    case e_stepped => refine' Bk.ent_mk KX G ?a ?l ?c ?k; (case a => k_is); (case l => k_is); (case c => k_is); (case k => k_is)
    case e_times => refine' Bk.ent_mk KX G ?a ?l ?c ?k; (case a => k_is); (case l => k_is); (case c => k_is); (case k => k_is)
    case e__law_div => refine' Bk.ent_mk KX G ?a ?l ?c ?k; (case a => k_is); (case l => k_is); (case c => k_is); (case k => k_is)
    case e__law_least => refine' Bk.ent_mk KX G ?a ?l ?c ?k; (case a => k_is); (case l => k_is); (case c => k_is); (case k => k_is)
    case e__law_piece => refine' Bk.ent_mk KX G ?a ?l ?c ?k; (case a => k_is); (case l => k_is); (case c => k_is); (case k => k_is)
    case e_next_moment => refine' Bk.ent_mk KX G ?a ?l ?c ?k; (case a => k_is); (case l => k_is); (case c => k_is); (case k => k_is)
    case e_held_now => refine' Bk.ent_mk KX G ?a ?l ?c ?k; (case a => k_is); (case l => k_is); (case c => k_is); (case k => k_is)
    case e_moved => refine' Bk.ent_mk KX G ?a ?l ?c ?k; (case a => k_is); (case l => k_is); (case c => k_is); (case k => k_is)
    case e_make => refine' Bk.ent_mk KX G ?a ?l ?c ?k; (case a => k_is); (case l => k_is); (case c => k_is); (case k => k_is)
    case e_is_a_brigade => refine' Bk.ent_mk KX G ?a ?l ?c ?k; (case a => k_is); (case l => k_is); (case c => k_is); (case k => k_is)
    case e_is_at_most => refine' Bk.ent_mk KX G ?a ?l ?c ?k; (case a => k_is); (case l => k_is); (case c => k_is); (case k => k_is)
    case e_are_places_of => refine' Bk.ent_mk KX G ?a ?l ?c ?k; (case a => k_is); (case l => k_is); (case c => k_is); (case k => k_is)
    case e_real_speeds => refine' Bk.ent_mk KX G ?a ?l ?c ?k; (case a => k_is); (case l => k_is); (case c => k_is); (case k => k_is)
    case e_over => refine' Bk.ent_mk KX G ?a ?l ?c ?k; (case a => k_is); (case l => k_is); (case c => k_is); (case k => k_is)
    case e_next_mark => refine' Bk.ent_mk KX G ?a ?l ?c ?k; (case a => k_is); (case l => k_is); (case c => k_is); (case k => k_is)
    case e_is_below => refine' Bk.ent_mk KX G ?a ?l ?c ?k; (case a => k_is); (case l => k_is); (case c => k_is); (case k => k_is)
    case e_least_of => refine' Bk.ent_mk KX G ?a ?l ?c ?k; (case a => k_is); (case l => k_is); (case c => k_is); (case k => k_is)
    case e_own_speeds => refine' Bk.ent_mk KX G ?a ?l ?c ?k; (case a => k_is); (case l => k_is); (case c => k_is); (case k => k_is)
    case e_is_tuple => refine' Bk.ent_mk KX G ?a ?l ?c ?k; (case a => k_is); (case l => k_is); (case c => k_is); (case k => k_is)
    case e_are_cuts => refine' Bk.ent_mk KX G ?a ?l ?c ?k; (case a => k_is); (case l => k_is); (case c => k_is); (case k => k_is)
    case e_are_speeds => refine' Bk.ent_mk KX G ?a ?l ?c ?k; (case a => k_is); (case l => k_is); (case c => k_is); (case k => k_is)
    case e_is_between => refine' Bk.ent_mk KX G ?a ?l ?c ?k; (case a => k_is); (case l => k_is); (case c => k_is); (case k => k_is)
    case e_are_not_falling => refine' Bk.ent_mk KX G ?a ?l ?c ?k; (case a => k_is); (case l => k_is); (case c => k_is); (case k => k_is)
    case e_piece_at => refine' Bk.ent_mk KX G ?a ?l ?c ?k; (case a => k_is); (case l => k_is); (case c => k_is); (case k => k_is)
    case e_is_fraction => refine' Bk.ent_mk KX G ?a ?l ?c ?k; (case a => k_is); (case l => k_is); (case c => k_is); (case k => k_is)
    case e_are_growing => refine' Bk.ent_mk KX G ?a ?l ?c ?k; (case a => k_is); (case l => k_is); (case c => k_is); (case k => k_is)
    case e_is_positive => refine' Bk.ent_mk KX G ?a ?l ?c ?k; (case a => k_is); (case l => k_is); (case c => k_is); (case k => k_is)
    case e_is_integer => refine' Bk.ent_mk KX G ?a ?l ?c ?k; (case a => k_is); (case l => k_is); (case c => k_is); (case k => k_is)
    case B =>
      refine' K54.base_mk ?er KX G ?z0 ?z1 ?z2 ?z3 ?z4 ?z5 ?z6 ?z7 ?z8 ?z9 ?z10 ?z11 ?z12 ?z13 ?z14 ?z15 ?z16 ?z17 ?z18 ?c0 ?d0 ?c1 ?d1 ?c2 ?c3 ?gc; (case z0 => k_is); (case z1 => k_is); (case z2 => k_is); (case z3 => k_is); (case z4 => k_is); (case z5 => k_is); (case z6 => k_is); (case z7 => k_is); (case z8 => k_is); (case z9 => k_is); (case z10 => k_is); (case z11 => k_is); (case z12 => k_is); (case z13 => k_is); (case z14 => k_is); (case z15 => k_is); (case z16 => k_is); (case z17 => k_is); (case z18 => k_is); (case c0 => k_is); (case d0 => k_is); (case c1 => k_is); (case d1 => k_is); (case c2 => k_is); (case c3 => k_is); (case gc => k_is)
      case er =>
        refine' Or.inr (K54.errs_of ?o0 ?o1 ?t0_0 ?t0_1 ?t1_0 ?t1_1 (PySem.W.mg_none_of KX G ?sup))
        case o0 => refine' Bk.xone_mk KX G ?B ?n ?T ?R ?i ?t ?h1 ?h2 ?h3; (case n => k_is); (case i => k_is); (case t => k_is); (case h1 => k_is); (case h2 => k_is); (case h3 => k_is); (case B => (refine' Bk.xbase_mk ?b1 ?b2 ?b3 ?b4 ?b5 ?b6 ?b7 ?b8 ?b9 ?b10; (case b1 => k_is); (case b2 => k_is); (case b3 => k_is); (case b4 => k_is); (case b5 => k_is); (case b6 => k_is); (case b7 => rfl); (case b8 => rfl); (case b9 => rfl); (case b10 => rfl))); (case T => (refine' Bk.xcls_mk ?c1 ?c2 ?c3 ?c4 ?c5 ?c6 ?c7 ?c8 ?c9 ?c10; (case c1 => k_is); (case c2 => k_is); (case c3 => k_is); (case c4 => k_is); (case c5 => k_is); (case c6 => ks_is); (case c7 => k_is); (case c8 => k_is); (case c9 => k_is); (case c10 => rfl))); (case R => (refine' Bk.xread_mk ?d1 ?d2 ?d3 ?d4 ?d5 ?d6 ?d7 ?d8 ?d9 ?d10; (case d1 => k_is); (case d2 => k_is); (case d3 => k_is); (case d4 => k_is); (case d5 => k_is); (case d6 => k_is); (case d7 => k_is); (case d8 => k_is); (case d9 => k_is); (case d10 => k_is)))
        case o1 => refine' Bk.xone_mk KX G ?B ?n ?T ?R ?i ?t ?h1 ?h2 ?h3; (case n => k_is); (case i => k_is); (case t => k_is); (case h1 => k_is); (case h2 => k_is); (case h3 => k_is); (case B => (refine' Bk.xbase_mk ?b1 ?b2 ?b3 ?b4 ?b5 ?b6 ?b7 ?b8 ?b9 ?b10; (case b1 => k_is); (case b2 => k_is); (case b3 => k_is); (case b4 => k_is); (case b5 => k_is); (case b6 => k_is); (case b7 => rfl); (case b8 => rfl); (case b9 => rfl); (case b10 => rfl))); (case T => (refine' Bk.xcls_mk ?c1 ?c2 ?c3 ?c4 ?c5 ?c6 ?c7 ?c8 ?c9 ?c10; (case c1 => k_is); (case c2 => k_is); (case c3 => k_is); (case c4 => k_is); (case c5 => k_is); (case c6 => ks_is); (case c7 => k_is); (case c8 => k_is); (case c9 => k_is); (case c10 => rfl))); (case R => (refine' Bk.xread_mk ?d1 ?d2 ?d3 ?d4 ?d5 ?d6 ?d7 ?d8 ?d9 ?d10; (case d1 => k_is); (case d2 => k_is); (case d3 => k_is); (case d4 => k_is); (case d5 => k_is); (case d6 => k_is); (case d7 => k_is); (case d8 => k_is); (case d9 => k_is); (case d10 => k_is)))
        case t0_0 => refine' Bk.xtwo_mk ?xh ?xe ?xb; (case xh => k_is); (case xe => decide +kernel); (case xb => decide +kernel)
        case t0_1 => refine' Bk.xtwo_mk ?xh ?xe ?xb; (case xh => k_is); (case xe => decide +kernel); (case xb => decide +kernel)
        case t1_0 => refine' Bk.xtwo_mk ?xh ?xe ?xb; (case xh => k_is); (case xe => decide +kernel); (case xb => decide +kernel)
        case t1_1 => refine' Bk.xtwo_mk ?xh ?xe ?xb; (case xh => k_is); (case xe => decide +kernel); (case xb => decide +kernel)
        case sup => k_is

