import PyProof.Rows.All
import Wide.All
import OpenK.AllK
import Wide.FinOn
import HandS.ForMost
import HandS.Exc
import HandS.Rev
import HandS.TupAny
import PyProof.ListNew
import HandS.TupMul
import HandS.TupLe
import HandS.Conv
import PyProof.Rows.SeqMore
import KE.SortData
import HandS.IsInst
import HandS.More
import HandS.Dict
import HandS.Defaults
import HandS.Comp
import HandS.ExcInit
import HandS.ExcField
import HandS.TryOnly
import HandS.TryMany
import HandS.ExcOwn
import HandS.CallSlots
import HandS.Zip
import HandS.NoneIn
import HandS.Style
import HandS.Small
import HandS.ClsMeth
import HandS.HeadHook1
import HandS.HeadHook2
import HandS.Head0
import HandS.Head1
import HandS.Head2
import HandS.HeadEnd
import PySem.Challenge.RW_openrows_k13_samples_one_by_one
set_option Elab.async false
set_option linter.all false
set_option maxRecDepth 100000
/-! Mi, part 1: data as values, a small language over them, what it computes. -/
namespace Mi
open PySem
abbrev Key := L2.Key

inductive D where
  | non | bl (b : Bool) | int (i : Int) | str (x : Str)
  | tup (xs : List D) | lst (xs : List D)
  | dct (kvs : List (Key × D))
  | ref (n : Nat)
  deriving Inhabited

/-- the content of a list, a dict that may change -/
inductive Ct where
  | lst (xs : List D) | dct (kvs : List (Key × D))
def Ct.d : Ct → D
  | .lst xs => .lst xs
  | .dct kvs => .dct kvs
/-- an object that may change -/
inductive MO where
  | cell (c : Ct)
  | ins (cls : Str) (fs : List (Str × D))
abbrev MS := List MO
/-- a slot: a value, or a list, a dict that nobody else holds -/
inductive Sl where
  | val (d : D) | own (c : Ct)
abbrev Sg := List (Option Sl)
structure Ex where
  cls : Str
  fs : List (Str × D)

inductive Rs (α : Type) where
  | ok (a : α) (M : MS)
  | exc (x : Ex) (M : MS)
  | bad
def Rs.bind {α β : Type} : Rs α → (α → MS → Rs β) → Rs β
  | .ok a M, f => f a M
  | .exc x M, _ => .exc x M
  | .bad, _ => .bad
@[simp] theorem Rs.bind_ok {α β : Type} (a : α) (M : MS) (f : α → MS → Rs β) : (Rs.ok a M).bind f = f a M := rfl
@[simp] theorem Rs.bind_exc {α β : Type} (x : Ex) (M : MS) (f : α → MS → Rs β) : (Rs.exc x M : Rs α).bind f = .exc x M := rfl
@[simp] theorem Rs.bind_bad {α β : Type} (f : α → MS → Rs β) : (Rs.bad : Rs α).bind f = .bad := rfl
def Rs.of {α : Type} (o : Option α) (M : MS) : Rs α := match o with
  | some a => .ok a M
  | none => .bad
@[simp] theorem Rs.of_some {α : Type} (a : α) (M : MS) : Rs.of (some a) M = .ok a M := rfl
@[simp] theorem Rs.of_none {α : Type} (M : MS) : Rs.of (none : Option α) M = .bad := rfl

/-! ### equality -/
mutual
def D.py : D → PyData
  | .non => .none
  | .bl b => .bool b
  | .int i => .int i
  | .str x => .str x
  | .tup xs => .tuple (D.pys xs)
  | .lst xs => .list (D.pys xs)
  | .dct _ => .none
  | .ref _ => .none
def D.pys : List D → List PyData
  | [] => []
  | x :: xs => x.py :: D.pys xs
end
mutual
/-- no dict, no object that may change within -/
def D.plain : D → Bool
  | .tup xs => D.plains xs
  | .lst xs => D.plains xs
  | .dct _ => false
  | .ref _ => false
  | .str x => PyData.strOk x
  | _ => true
def D.plains : List D → Bool
  | [] => true
  | x :: xs => x.plain && D.plains xs
end
def D.eqb (d e : D) : Bool := PyData.eqv d.py e.py
/-- how deep a comparison may go: room for it on the stack -/
def deepOk (n : Nat) (d e : D) : Bool := decide (min d.py.depth e.py.depth ≤ 16 * n + 150)
def eqO (n : Nat) (d e : D) : Option Bool := if d.plain = true ∧ e.plain = true ∧ deepOk n d e = true then some (d.eqb e) else none
def inO (n : Nat) (d : D) (xs : List D) : Option Bool :=
  if D.plains xs = true ∧ d.plain = true ∧ decide (min (PyData.depthAll (D.pys xs)) d.py.depth ≤ 16 * n + 150) = true then some (xs.any fun x => x.eqb d) else none

/-! ### dicts -/
def keyO : D → Option Key
  | .int i => some (.inl i)
  | .str x => some (.inr x)
  | _ => none
def keyD : Key → D
  | .inl i => .int i
  | .inr x => .str x
def getD {α : Type} (kvs : List (Key × α)) (k : Key) : Option α := (kvs.find? fun kv => decide (kv.1 = k)).map (·.2)
def putD {α : Type} (kvs : List (Key × α)) (k : Key) (v : α) : List (Key × α) :=
  if (kvs.any fun kv => decide (kv.1 = k)) = true then kvs.map (fun kv => if kv.1 = k then (kv.1, v) else kv) else kvs ++ [(k, v)]
def mergeD {α : Type} (kvs more : List (Key × α)) : List (Key × α) := more.foldl (fun acc kv => putD acc kv.1 kv.2) kvs
def pairsO : List D → Option (List (Key × D))
  | [] => some []
  | .tup [k, v] :: r => match keyO k, pairsO r with
    | some k, some r => some ((k, v) :: r)
    | _, _ => none
  | _ :: _ => none

/-! ### sorting -/
def leK : Key → Key → Bool
  | .inl a, .inl b => decide (a ≤ b)
  | .inr a, .inr b => decide (a.cps.toList ≤ b.cps.toList)
  | .inl _, .inr _ => true
  | .inr _, .inl _ => false
def sortK (ks : List Key) : List Key := ks.mergeSort leK
def keysO : List D → Option (List Key)
  | [] => some []
  | d :: r => match keyO d, keysO r with
    | some k, some ks => some (k :: ks)
    | _, _ => none
def sameKind (ks : List Key) : Bool := ks.all (·.isLeft) || ks.all (·.isRight)
/-- tuples whose first items are keys -/
def headsO : List D → Option (List (Key × D))
  | [] => some []
  | .tup (k :: t) :: r => match keyO k, headsO r with
    | some k', some ks => some ((k', .tup (k :: t)) :: ks)
    | _, _ => none
  | _ :: _ => none
def srtO (xs : List D) : Option (List D) := match keysO xs with
  | some ks => if sameKind ks = true then some ((sortK ks).map keyD) else none
  | none => match headsO xs with
    | some ks => if sameKind (ks.map (·.1)) = true ∧ (ks.map (·.1)).Nodup then some ((ks.mergeSort fun a b => leK a.1 b.1).map (·.2)) else none
    | none => none

/-! ### primitives -/
inductive Ty1 where
  | tTup | tStr | tInt | tBool | tLst | tDct
  deriving DecidableEq
def isiD : Ty1 → D → Option Bool
  | .tTup, .tup _ => some true
  | .tStr, .str _ => some true
  | .tInt, .int _ => some true
  | .tInt, .bl _ => some true
  | .tBool, .bl _ => some true
  | .tLst, .lst _ => some true
  | .tDct, .dct _ => some true
  | _, .ref _ => none
  | _, _ => some false

inductive P where
  | add | sub | mul | fdiv | mod | pow | neg
  | eq | ne | lt | le | gt | ge | isn | isnn | isB (b : Bool) | isnB (b : Bool) | inn | nin
  | item
  | len | tupleOf | listOf | sorted | sortedSet | lenSet | dictOf
  | min2 | max2 | intOf | isi (t : Ty1) | all | any | sum | rev
  deriving DecidableEq
def limit : Nat := 16777216
def cut {α : Type} (xs : List α) (lo hi : Option Int) : List α := (xs.drop (HT.sIx xs.length 0 lo)).take (HT.sIx xs.length xs.length hi - HT.sIx xs.length 0 lo)
def cutO (d : D) (lo hi : Option Int) : Option D := match d with
  | .lst xs => some (.lst (cut xs lo hi))
  | .tup xs => some (.tup (cut xs lo hi))
  | _ => none
def mulOk (a b : Int) : Bool := decide (Builtin.Int.intBits a + Builtin.Int.intBits b ≤ 134217728) || decide (Builtin.Int.intBits a ≤ 64) || decide (Builtin.Int.intBits b ≤ 64)
def divOk (_ b : Int) : Bool := decide (0 < b) && decide (b.natAbs.log2 < 9000)
def boolsO : List D → Option (List Bool)
  | [] => some []
  | .bl b :: r => (boolsO r).map (b :: ·)
  | _ :: _ => none
def intsO : List D → Option (List Int)
  | [] => some []
  | .int b :: r => (intsO r).map (b :: ·)
  | _ :: _ => none
def b2i (b : Bool) : Int := if b = true then 1 else 0
def dedupK : List Key → List Key
  | [] => []
  | k :: r => k :: (dedupK r).filter fun j => decide (j ≠ k)

/-- texts, sorted -/
def leS (a b : Str) : Bool := !Spec.ltCps b.cps.toList a.cps.toList
def srtS (ks : List Str) : List Str := ks.mergeSort leS
def strsO : List D → Option (List Str)
  | [] => some []
  | .str b :: r => (strsO r).map (b :: ·)
  | _ :: _ => none
def strK : List (Key × D) → Option (List Str)
  | [] => some []
  | (.inr b, _) :: r => (strK r).map (b :: ·)
  | _ :: _ => none
def pr (n : Nat) : P → List D → Option D
  | .add, [.int a, .int b] => some (.int (a + b))
  | .add, [.int a, .bl b] => some (.int (a + b2i b))
  | .add, [.str a, .str b] => if a.length + b.length ≤ limit then some (.str (a ++ b)) else none
  | .add, [.lst a, .lst b] => if a.length + b.length ≤ limit then some (.lst (a ++ b)) else none
  | .add, [.tup a, .tup b] => if a.length + b.length ≤ limit then some (.tup (a ++ b)) else none
  | .sub, [.int a, .int b] => some (.int (a - b))
  | .mul, [.int a, .int b] => if mulOk a b = true then some (.int (a * b)) else none
  | .fdiv, [.int a, .int b] => if divOk a b = true then some (.int (a / b)) else none
  | .mod, [.int a, .int b] => if 0 < b then some (.int (a % b)) else none
  | .mul, [.tup xs, .int k] => if k = 0 then some (.tup []) else if k = 1 then some (.tup xs) else none
  | .pow, [.int a, .int b] => if 0 ≤ b ∧ b ≤ 1000 ∧ a.natAbs < 2 ^ 64 then some (.int (a ^ b.toNat)) else none
  | .neg, [.int a] => some (.int (-a))
  | .eq, [a, b] => (eqO n a b).map .bl
  | .ne, [a, b] => (eqO n a b).map fun x => .bl (!x)
  | .lt, [.int a, .int b] => some (.bl (decide (a < b)))
  | .le, [.int a, .int b] => some (.bl (decide (a ≤ b)))
  | .gt, [.int a, .int b] => some (.bl (decide (b < a)))
  | .ge, [.int a, .int b] => some (.bl (decide (b ≤ a)))
  | .isn, [.non] => some (.bl true)
  | .isn, [_] => some (.bl false)
  | .isnn, [.non] => some (.bl false)
  | .isnn, [_] => some (.bl true)
  | .isB b, [.bl a] => some (.bl (decide (a = b)))
  | .isnB b, [.bl a] => some (.bl (!decide (a = b)))
  | .inn, [a, .lst xs] => (inO n a xs).map .bl
  | .inn, [a, .tup xs] => (inO n a xs).map .bl
  | .inn, [a, .dct kvs] => (keyO a).map fun k => .bl (getD kvs k).isSome
  | .nin, [a, .lst xs] => (inO n a xs).map fun x => .bl (!x)
  | .nin, [a, .tup xs] => (inO n a xs).map fun x => .bl (!x)
  | .nin, [a, .dct kvs] => (keyO a).map fun k => .bl (!(getD kvs k).isSome)
  | .item, [.lst xs, .int i] => L2.atI xs i
  | .item, [.tup xs, .int i] => L2.atI xs i
  | .item, [.dct kvs, k] => (keyO k).bind (getD kvs)
  | .len, [.lst xs] => some (.int xs.length)
  | .len, [.tup xs] => some (.int xs.length)
  | .len, [.dct xs] => some (.int xs.length)
  | .tupleOf, [.lst xs] => some (.tup xs)
  | .tupleOf, [.tup xs] => some (.tup xs)
  | .listOf, [.lst xs] => some (.lst xs)
  | .listOf, [.tup xs] => some (.lst xs)
  | .listOf, [.dct kvs] => some (.lst (kvs.map fun kv => keyD kv.1))
  | .sorted, [.lst xs] => (strsO xs).bind fun ks => if ks.length < 64 then some (.lst ((srtS ks).map .str)) else none
  | .sorted, [.dct kvs] => (strK kvs).bind fun ks => if ks.length < 64 then some (.lst ((srtS ks).map .str)) else none
  | .sortedSet, [.lst xs] => (keysO xs).bind fun ks => if sameKind ks = true ∧ ks.length < 64 then some (.lst ((sortK (dedupK ks)).map keyD)) else none
  | .sortedSet, [.tup xs] => (keysO xs).bind fun ks => if sameKind ks = true ∧ ks.length < 64 then some (.lst ((sortK (dedupK ks)).map keyD)) else none
  | .lenSet, [.lst xs] => (keysO xs).bind fun ks => if sameKind ks = true ∧ ks.length < 64 then some (.int (dedupK ks).length) else none
  | .lenSet, [.tup xs] => (keysO xs).bind fun ks => if sameKind ks = true ∧ ks.length < 64 then some (.int (dedupK ks).length) else none
  | .dictOf, [.dct kvs] => some (.dct kvs)
  | .dictOf, [.lst xs] => (pairsO xs).map fun kvs => .dct (mergeD [] kvs)
  | .dictOf, [.tup xs] => (pairsO xs).map fun kvs => .dct (mergeD [] kvs)
  | .min2, [.int a, .int b] => some (.int (min a b))
  | .max2, [.int a, .int b] => some (.int (max a b))
  | .intOf, [.int a] => some (.int a)
  | .intOf, [.bl a] => some (.int (b2i a))
  | .isi t, [d] => (isiD t d).map .bl
  | .rev, [.tup xs] => some (.lst xs.reverse)
  | .all, [.lst xs] => (boolsO xs).map fun bs => .bl (bs.all id)
  | .any, [.lst xs] => (boolsO xs).map fun bs => .bl (bs.any id)
  | _, _ => none
end Mi
set_option Elab.async false
set_option linter.all false
set_option maxRecDepth 100000
/-! Mi, part 2: the small language and its evaluator. -/
namespace Mi
open PySem

inductive T where
  | nm (i : Nat) | tup (ts : List T)

/-- what an except suite hands back: a constant, a field of the exception; one, or a list of them -/
inductive SE where
  | con (d : D) | fld (f : Str)
inductive HA where
  | ret (e : SE) | retL (es : List SE)
mutual
inductive E where
  | con (d : D)
  | glb (x : Str) (d : D)
  | var (i : Nat)
  | bor (i : Nat)
  | tup (es : List E)
  | lst (es : List E)
  | dct (es : List E)
  | prim (p : P) (as : List E)
  | call (f : Nat) (as : List E)
  | and (es : List E) | or (es : List E) | not (a : E)
  | ifx (c a b : E)
  | chain (p q : P) (a b c : E)
  | comp (own : List Nat) (t : T) (it : It) (cs : List E) (elt : E)
  | new (e : E)
  | slc (a : E) (lo hi : List E)
  | get1 (o k : E) | get2 (o k x : E)
inductive It where
  | seq (e : E) | rng1 (e : E) | rng2 (a b : E) | enum (e : E) | zip (a b : E) | items (e : E)
end

/-- what is changed: a slot's own list or dict; an object -/
inductive Tg where
  | sl (i : Nat) | rf (i : Nat)
inductive Mu where
  | app | ext | popK
  deriving DecidableEq
inductive S where
  | set (t : T) (e : E)
  | own (i : Nat) (e : E)
  | par (is : List Nat) (ows : List Bool) (es : List E)
  | sto (tg : Tg) (k v : E)
  | mth (m : Mu) (tg : Tg) (e : E)
  | popS (t : T) (tg : Tg)
  | aug (i : Nat) (p : P) (e : E)
  | ite (c : E) (a b : List S)
  | loop (t : T) (it : It) (body : List S) (clr : List Nat)
  | whl (c : E) (body : List S) (clr : List Nat)
  | ret (e : E) | retn | expr (e : E)
  | raise (c : Str) (as : List E)
  | tryc (body : List S) (hs : List (Str × HA))
  | nev
  | pass | brk | cnt
  | frz (is : List Nat) (s : S)

inductive Fl where
  | nxt (σ : Sg) | ret (d : D) | brk (σ : Sg) | cnt (σ : Sg) | exc (x : Ex) (σ : Sg)

abbrev Fn := Nat → List D → MS → Rs D

/-- an operand: what changes is read where the operation is done -/
def deref (M : MS) : D → D
  | .ref n => match M[n]? with
    | some (.cell c) => c.d
    | _ => .ref n
  | d => d

mutual
def asgT : T → D → Sg → Option Sg
  | .nm i, d, σ => some (σ.set i (some (.val d)))
  | .tup ts, .tup ds, σ => asgTs ts ds σ
  | .tup ts, .lst ds, σ => asgTs ts ds σ
  | .tup _, _, _ => none
def asgTs : List T → List D → Sg → Option Sg
  | [], [], σ => some σ
  | t :: ts, d :: ds, σ => (asgT t d σ).bind (asgTs ts ds)
  | _, _, _ => none
end
mutual
def T.slots : T → List Nat
  | .nm i => [i]
  | .tup ts => T.slotss ts
def T.slotss : List T → List Nat
  | [] => []
  | t :: ts => t.slots ++ T.slotss ts
end

def wipeG (σ : Sg) : List Nat → Sg
  | [] => σ
  | i :: is => (wipeG σ is).set i none

def rngO (a b : Int) : Option (List D) := if -(2 ^ 62) ≤ a ∧ a < 2 ^ 62 ∧ -(2 ^ 62) ≤ b ∧ b < 2 ^ 62 then some ((List.range (b - a).toNat).map fun (k : Nat) => .int (a + (k : Int))) else none
def enumD : Nat → List D → List D
  | _, [] => []
  | k, x :: xs => .tup [.int k, x] :: enumD (k + 1) xs
def seqO : D → Option (List D)
  | .lst xs => some xs
  | .tup xs => some xs
  | _ => none
def itO (n : Nat) : It → List D → Option (List D)
  | .seq _, [d] => seqO d
  | .rng1 _, [.int b] => rngO 0 b
  | .rng2 _ _, [.int a, .int b] => rngO a b
  | .enum _, [.lst xs] => some (enumD 0 xs)
  | .zip _ _, [a, b] => (match seqO a, seqO b with
    | some xs, some ys => some (List.zipWith (fun x y => .tup [x, y]) xs ys)
    | _, _ => none)
  | _, _ => none

/-- the items of a comprehension's list, from the left -/
def compL (step : D → MS → Rs (Option D)) : List D → MS → Rs (List D)
  | [], M => .ok [] M
  | x :: xs, M => (step x M).bind fun o M1 => (compL step xs M1).bind fun r M2 => .ok (match o with | some y => y :: r | none => r) M2

/-- no exception may leave it -/
def Rs.nox {α : Type} : Rs α → Rs α
  | .exc _ _ => .bad
  | r => r
theorem nox_bind {α β : Type} (r : Rs α) (f : α → MS → Rs β) : (r.bind f).nox = r.nox.bind fun a M => (f a M).nox := by cases r <;> rfl
theorem bind_bind {α β γ : Type} (r : Rs α) (f : α → MS → Rs β) (g : β → MS → Rs γ) : (r.bind f).bind g = r.bind fun a M => (f a M).bind g := by cases r <;> rfl

def testO : D → Option Bool
  | .bl b => some b
  | _ => none
/-- keys and values in turn -/
def kvO : List D → Option (List (Key × D))
  | [] => some []
  | k :: v :: r => match keyO k, kvO r with
    | some k, some r => some ((k, v) :: r)
    | _, _ => none
  | [_] => none
def dctO (ds : List D) : Option D := match kvO ds with
  | some kvs => if kvs.length ≤ 15 then some (.dct (mergeD [] kvs)) else none
  | none => none

def ownO : D → Option Ct
  | .lst xs => some (.lst xs)
  | .dct kvs => some (.dct kvs)
  | _ => none

mutual
def evE (Φ : Fn) (n : Nat) (σ : Sg) : E → MS → Rs D
  | .con d, M => .ok d M
  | .glb _ d, M => .ok d M
  | .var i, M => match σ[i]? with
    | some (some (.val d)) => .ok d M
    | _ => .bad
  | .bor i, M => match σ[i]? with
    | some (some (.own c)) => .ok c.d M
    | _ => .bad
  | .tup es, M => (evEs Φ n σ es M).bind fun ds M => .ok (.tup ds) M
  | .lst es, M => (evEs Φ n σ es M).bind fun ds M => .ok (.lst ds) M
  | .dct es, M => (evEs Φ n σ es M).bind fun ds M => .of (dctO ds) M
  | .prim p as, M => (evEs Φ n σ as M).bind fun ds M => .of (pr n p (ds.map (deref M))) M
  | .call f as, M => (evEs Φ n σ as M).bind fun ds M => Φ f ds M
  | .and es, M => evAnd Φ n σ es M
  | .or es, M => evOr Φ n σ es M
  | .not a, M => (evE Φ n σ a M).bind fun d M => match testO d with
    | some b => .ok (.bl (!b)) M
    | none => .bad
  | .ifx c a b, M => (evE Φ n σ c M).bind fun d M => match testO d with
    | some true => evE Φ n σ a M
    | some false => evE Φ n σ b M
    | none => .bad
  | .chain p q a b c, M => (evE Φ n σ a M).bind fun x M => (evE Φ n σ b M).bind fun y M => match (pr n p [x, y]).bind testO with
    | some true => (evE Φ n σ c M).bind fun z M => .of (pr n q [y, z]) M
    | some false => .ok (.bl false) M
    | none => .bad
  | .slc a lo hi, M => (evE Φ n σ a M).bind fun d M => (evPart Φ n σ lo M).bind fun l M => (evPart Φ n σ hi M).bind fun h M => .of (cutO (deref M d) l h) M
  | .get1 o k, M => (evE Φ n σ o M).bind fun d M => match d with
    | .dct kvs => (evE Φ n σ k M).bind fun k M => .of ((keyO k).map fun k => (getD kvs k).getD .non) M
    | _ => .bad
  | .get2 o k x, M => (evE Φ n σ o M).bind fun d M => match d with
    | .dct kvs => (evE Φ n σ k M).bind fun k M => (evE Φ n σ x M).bind fun z M => .of ((keyO k).map fun k => (getD kvs k).getD z) M
    | _ => .bad
  | .new e, M => (evE Φ n σ e M).bind fun d M => match ownO d with
    | some c => .ok (.ref M.length) (M ++ [.cell c])
    | none => .bad
  | .comp own t it cs elt, M => (evIt Φ n σ it M).bind fun ds M => if ds.length ≤ limit then ((compL (fun d M =>
      match asgT t d (wipeG σ own) with
      | some σ1 => (evTs Φ n σ1 cs M).bind fun b M => match b with
        | true => (evE Φ n σ1 elt M).bind fun y M => .ok (some y) M
        | false => .ok none M
      | none => .bad) ds M).nox.bind fun ys M => .ok (.lst ys) M) else .bad
def evEs (Φ : Fn) (n : Nat) (σ : Sg) : List E → MS → Rs (List D)
  | [], M => .ok [] M
  | e :: es, M => (evE Φ n σ e M).bind fun d M => (evEs Φ n σ es M).bind fun ds M => .ok (d :: ds) M
def evPart (Φ : Fn) (n : Nat) (σ : Sg) : List E → MS → Rs (Option Int)
  | [], M => .ok none M
  | e :: _, M => (evE Φ n σ e M).bind fun d M => match d with
    | .int i => .ok (some i) M
    | _ => .bad
def evAnd (Φ : Fn) (n : Nat) (σ : Sg) : List E → MS → Rs D
  | [], _ => .bad
  | c :: cs, M => (evE Φ n σ c M).bind fun d M => match testO d with
    | some true => (match cs with
      | [] => .ok (.bl true) M
      | _ :: _ => evAnd Φ n σ cs M)
    | some false => .ok (.bl false) M
    | none => .bad
def evOr (Φ : Fn) (n : Nat) (σ : Sg) : List E → MS → Rs D
  | [], _ => .bad
  | c :: cs, M => (evE Φ n σ c M).bind fun d M => match testO d with
    | some false => (match cs with
      | [] => .ok (.bl false) M
      | _ :: _ => evOr Φ n σ cs M)
    | some true => .ok (.bl true) M
    | none => .bad
def evTs (Φ : Fn) (n : Nat) (σ : Sg) : List E → MS → Rs Bool
  | [], M => .ok true M
  | c :: cs, M => (evE Φ n σ c M).bind fun d M => match testO d with
    | some true => evTs Φ n σ cs M
    | some false => .ok false M
    | none => .bad
def evIt (Φ : Fn) (n : Nat) (σ : Sg) : It → MS → Rs (List D)
  | .seq e, M => (evE Φ n σ e M).bind fun d M => .of (seqO d) M
  | .rng1 e, M => (evE Φ n σ e M).bind fun d M => .of (itO n (.rng1 e) [d]) M
  | .rng2 a b, M => (evE Φ n σ a M).bind fun x M => (evE Φ n σ b M).bind fun y M => .of (itO n (.rng2 a b) [x, y]) M
  | .enum e, M => (evE Φ n σ e M).bind fun d M => .of (itO n (.enum e) [d]) M
  | .zip a b, M => (evE Φ n σ a M).bind fun x M => (evE Φ n σ b M).bind fun y M => .of (itO n (.zip a b) [x, y]) M
  | .items e, M => (evE Φ n σ e M).bind fun d M => .of (itO n (.items e) [d]) M
end

/-- a for loop: the body's flow for each item -/
def loopL (step : D → Sg → MS → Rs Fl) : List D → Sg → MS → Rs Fl
  | [], σ, M => .ok (.nxt σ) M
  | x :: xs, σ, M => (step x σ M).bind fun f M => match f with
    | .nxt σ => loopL step xs σ M
    | .cnt σ => loopL step xs σ M
    | .brk σ => .ok (.nxt σ) M
    | .ret d => .ok (.ret d) M
    | .exc x σ => .ok (.exc x σ) M

/-- so many turns of a while loop -/
def whileN (step : Sg → MS → Rs (Option Fl)) : Nat → Sg → MS → Option (Rs Fl)
  | 0, _, _ => none
  | k + 1, σ, M => match step σ M with
    | .ok none M => some (.ok (.nxt σ) M)
    | .ok (some (.nxt σ)) M => whileN step k σ M
    | .ok (some (.cnt σ)) M => whileN step k σ M
    | .ok (some (.brk σ)) M => some (.ok (.nxt σ) M)
    | .ok (some (.ret d)) M => some (.ok (.ret d) M)
    | .ok (some (.exc x σ)) M => some (.ok (.exc x σ) M)
    | .exc x M => some (.exc x M)
    | .bad => some .bad
open Classical in
noncomputable def whileL (step : Sg → MS → Rs (Option Fl)) (σ : Sg) (M : MS) : Rs Fl :=
  if h : ∃ k r, whileN step k σ M = some r then Classical.choose (Classical.choose_spec h) else .bad

theorem whileN_mono {step : Sg → MS → Rs (Option Fl)} : ∀ {k j : Nat} {σ : Sg} {M : MS} {r : Rs Fl}, whileN step k σ M = some r → k ≤ j → whileN step j σ M = some r
  | 0, _, _, _, _, h, _ => by cases h
  | k + 1, 0, _, _, _, _, hj => absurd hj (Nat.not_succ_le_zero _)
  | k + 1, j + 1, σ, M, r, h, hj => by
    unfold whileN at h ⊢
    cases e : step σ M with
    | ok o M1 =>
      rw [e] at h
      cases o with
      | none => exact h
      | some f => cases f with
        | nxt σ1 => exact whileN_mono h (Nat.le_of_succ_le_succ hj)
        | cnt σ1 => exact whileN_mono h (Nat.le_of_succ_le_succ hj)
        | brk σ1 => exact h
        | ret d => exact h
        | exc x σ1 => exact h
    | exc x M1 => rw [e] at h; exact h
    | bad => rw [e] at h; exact h
theorem whileL_of {step : Sg → MS → Rs (Option Fl)} {k : Nat} {σ : Sg} {M : MS} {r : Rs Fl} (h : whileN step k σ M = some r) : whileL step σ M = r := by
  have hx : ∃ k r, whileN step k σ M = some r := ⟨k, r, h⟩
  unfold whileL
  rw [dif_pos hx]
  have q := Classical.choose_spec (Classical.choose_spec hx)
  have a := whileN_mono q (Nat.le_max_left (Classical.choose hx) k)
  have b := whileN_mono h (Nat.le_max_right (Classical.choose hx) k)
  rw [a] at b
  exact Option.some.inj b
theorem whileL_ok {step : Sg → MS → Rs (Option Fl)} {σ : Sg} {M : MS} (h : whileL step σ M ≠ .bad) : ∃ k, whileN step k σ M = some (whileL step σ M) := by
  unfold whileL at h ⊢
  by_cases hx : ∃ k r, whileN step k σ M = some r
  · rw [dif_pos hx] at h ⊢
    exact ⟨_, Classical.choose_spec (Classical.choose_spec hx)⟩
  · rw [dif_neg hx] at h
    exact absurd rfl h
/-- one turn -/
theorem whileL_step {step : Sg → MS → Rs (Option Fl)} {σ : Sg} {M : MS} : whileL step σ M = (step σ M).bind fun o M => match o with
    | none => .ok (.nxt σ) M
    | some (.nxt σ) => whileL step σ M
    | some (.cnt σ) => whileL step σ M
    | some (.brk σ) => .ok (.nxt σ) M
    | some (.ret d) => .ok (.ret d) M
    | some (.exc x σ) => .ok (.exc x σ) M := by
  have again : ∀ σ1 M1, (∀ k, whileN step (k + 1) σ M = whileN step k σ1 M1) → whileL step σ M = whileL step σ1 M1 := fun σ1 M1 q => by
    by_cases hx : ∃ k r, whileN step k σ1 M1 = some r
    · obtain ⟨k, r, e⟩ := hx
      rw [whileL_of e, whileL_of ((q k).trans e)]
    · have hy : ¬ ∃ k r, whileN step k σ M = some r := fun ⟨k, r, e⟩ => by
        cases k with
        | zero => cases e
        | succ k => exact hx ⟨k, r, (q k).symm.trans e⟩
      unfold whileL
      rw [dif_neg hx, dif_neg hy]
  cases e : step σ M with
  | ok o M1 =>
    cases o with
    | none => exact whileL_of (k := 1) (by unfold whileN; rw [e]; rfl)
    | some f => cases f with
      | nxt σ1 => exact again σ1 M1 fun k => by conv => lhs; unfold whileN; rw [e]
      | cnt σ1 => exact again σ1 M1 fun k => by conv => lhs; unfold whileN; rw [e]
      | brk σ1 => exact whileL_of (k := 1) (by unfold whileN; rw [e]; rfl)
      | ret d => exact whileL_of (k := 1) (by unfold whileN; rw [e]; rfl)
      | exc x σ1 => exact whileL_of (k := 1) (by unfold whileN; rw [e]; rfl)
  | exc x M1 => exact whileL_of (k := 1) (by unfold whileN; rw [e]; rfl)
  | bad => exact whileL_of (k := 1) (by unfold whileN; rw [e]; rfl)

/-- slots that nobody changes any more -/
def frzG (σ : Sg) : List Nat → Option Sg
  | [] => some σ
  | i :: is => match σ[i]? with
    | some (some (.own c)) => frzG (σ.set i (some (.val c.d))) is
    | some (some (.val _)) => frzG σ is
    | _ => none
def parG : List Nat → List Bool → List D → Sg → Option Sg
  | [], [], [], σ => some σ
  | i :: is, true :: os, d :: ds, σ => (ownO d).bind fun c => parG is os ds (σ.set i (some (.own c)))
  | i :: is, false :: os, d :: ds, σ => parG is os ds (σ.set i (some (.val d)))
  | _, _, _, _ => none
/-- o[k] = v -/
def setO : Ct → D → D → Option Ct
  | .lst xs, .int i, v => (L2.ixN xs.length i).map fun j => .lst (xs.set j v)
  | .dct kvs, k, v => if kvs.length < limit then (keyO k).map fun k => .dct (putD kvs k v) else none
  | _, _, _ => none
def appO : Ct → D → Option Ct
  | .lst xs, v => if xs.length < limit then some (.lst (xs ++ [v])) else none
  | _, _ => none
def extO : Ct → D → Option Ct
  | .lst xs, .lst ys => if xs.length + ys.length ≤ limit then some (.lst (xs ++ ys)) else none
  | .lst xs, .tup ys => if xs.length + ys.length ≤ limit then some (.lst (xs ++ ys)) else none
  | _, _ => none
def popO : Ct → Option (Ct × D)
  | .lst xs => xs.getLast?.map fun d => (.lst xs.dropLast, d)
  | _ => none
def popKO : Ct → D → Option Ct
  | .dct kvs, k => (keyO k).bind fun k => if (getD kvs k).isSome = true then some (.dct (kvs.filter fun kv => decide (kv.1 ≠ k))) else none
  | _, _ => none
def muO : Mu → Ct → D → Option Ct
  | .app => appO
  | .ext => extO
  | .popK => popKO
/-- change the object that stands there -/
def upT (σ : Sg) (M : MS) (f : Ct → Option Ct) : Nat ⊕ D → Rs Fl
  | .inl i => match σ[i]? with
    | some (some (.own c)) => .of ((f c).map fun c => .nxt (σ.set i (some (.own c)))) M
    | _ => .bad
  | .inr (.ref j) => match M[j]? with
    | some (.cell c) => (match f c with
      | some c => .ok (.nxt σ) (M.set j (.cell c))
      | none => .bad)
    | _ => .bad
  | .inr _ => .bad
def evTg (σ : Sg) : Tg → Option (Nat ⊕ D)
  | .sl i => match σ[i]? with
    | some (some (.own _)) => some (.inl i)
    | _ => none
  | .rf i => match σ[i]? with
    | some (some (.val d)) => some (.inr d)
    | _ => none
/-- a list stands there -/
def lstT (σ : Sg) (M : MS) : Nat ⊕ D → Bool
  | .inl i => match σ[i]? with
    | some (some (.own (.lst _))) => true
    | _ => false
  | .inr (.ref j) => match M[j]? with
    | some (.cell (.lst _)) => true
    | _ => false
  | .inr _ => false
/-- the end of an expression within a statement -/
def Rs.st {α : Type} (σ : Sg) (r : Rs α) (f : α → MS → Rs Fl) : Rs Fl := match r with
  | .ok a M => f a M
  | .exc x M => .ok (.exc x σ) M
  | .bad => .bad
/-- the slots that a turn leaves behind are forgotten -/
def Fl.clr (is : List Nat) : Fl → Fl
  | .nxt σ => .nxt (wipeG σ is)
  | .cnt σ => .nxt (wipeG σ is)
  | .brk σ => .brk (wipeG σ is)
  | f => f
/-- the classes of exceptions: which is caught by which name -/
abbrev Cls := List (Str × Str × Bool)
def catches (C : Cls) (x c : Str) : Option Bool := (C.find? fun t => decide (t.1 = x ∧ t.2.1 = c)).map (·.2.2)
/-- the fields that an exception of a class gets from its arguments -/
abbrev Mks := List (Str × List Str)
def mkEx (K : Mks) (c : Str) (ds : List D) : Option Ex := match K.lookup c with
  | some fs => if fs.length = ds.length then some ⟨c, (fs.zip ds).reverse⟩ else none
  | none => none
def seO (K : Mks) (x : Ex) : SE → Option D
  | .con d => some d
  | .fld f => match K.lookup x.cls with
    | some fs => if f ∈ fs then x.fs.lookup f else none
    | none => none
def sesO (K : Mks) (x : Ex) : List SE → Option (List D)
  | [] => some []
  | e :: es => (seO K x e).bind fun d => (sesO K x es).map fun ds => d :: ds
def haO (K : Mks) (x : Ex) : HA → Option D
  | .ret e => seO K x e
  | .retL es => (sesO K x es).map .lst
/-- a op= b -/
def augO : P → D → D → Option D
  | .add, .int a, .int b => some (.int (a + b))
  | .sub, .int a, .int b => some (.int (a - b))
  | .mul, .int a, .int b => if mulOk a b = true then some (.int (a * b)) else none
  | _, _, _ => none

structure Genv where
  cls : Cls
  mks : Mks
/-- the except clauses, one after the other -/
def evHs (G : Genv) (x : Ex) : List (Str × HA) → Sg → MS → Rs Fl
  | [], σ, M => .ok (.exc x σ) M
  | (c, a) :: hs, σ, M => match catches G.cls x.cls c with
    | some true => .of ((haO G.mks x a).map .ret) M
    | some false => evHs G x hs σ M
    | none => .bad

mutual
noncomputable def evS (G : Genv) (Φ : Fn) (n : Nat) : S → Sg → MS → Rs Fl
  | .set t e, σ, M => (evE Φ n σ e M).st σ fun d M => .of ((asgT t d σ).map .nxt) M
  | .own i e, σ, M => (evE Φ n σ e M).st σ fun d M => .of ((ownO d).map fun c => .nxt (σ.set i (some (.own c)))) M
  | .par is os es, σ, M => (evEs Φ n σ es M).st σ fun ds M => .of ((parG is os ds σ).map .nxt) M
  | .sto tg k v, σ, M => (evE Φ n σ v M).st σ fun v M => match evTg σ tg with
    | some o => (evE Φ n σ k M).st σ fun k M => upT σ M (fun c => setO c k v) o
    | none => .bad
  | .mth m tg e, σ, M => match evTg σ tg with
    | some o => if lstT σ M o = true then (evE Φ n σ e M).st σ fun d M => upT σ M (fun c => muO m c d) o else .bad
    | none => .bad
  | .popS t tg, σ, M => match evTg σ tg with
    | some (.inl i) => (match σ[i]? with
      | some (some (.own c)) => (match popO c with
        | some (c, d) => .of ((asgT t d (σ.set i (some (.own c)))).map .nxt) M
        | none => .bad)
      | _ => .bad)
    | some (.inr (.ref j)) => (match M[j]? with
      | some (.cell c) => (match popO c with
        | some (c, d) => .of ((asgT t d σ).map .nxt) (M.set j (.cell c))
        | none => .bad)
      | _ => .bad)
    | _ => .bad
  | .aug i p e, σ, M => match σ[i]? with
    | some (some (.val a)) => (evE Φ n σ e M).st σ fun d M => .of ((augO p a d).map fun z => .nxt (σ.set i (some (.val z)))) M
    | _ => .bad
  | .ite c a b, σ, M => (evE Φ n σ c M).st σ fun d M => match testO d with
    | some true => evSs G Φ n a σ M
    | some false => evSs G Φ n b σ M
    | none => .bad
  | .loop t it body clr, σ, M => (evIt Φ n σ it M).st σ fun ds M => loopL (fun d σ M => match asgT t d σ with
      | some σ => (evSs G Φ n body σ M).bind fun f M => .ok (f.clr clr) M
      | none => .bad) ds (wipeG σ clr) M
  | .whl c body clr, σ, M => whileL (fun σ M => match evE Φ n σ c M with
      | .ok d M => (match testO d with
        | some true => (evSs G Φ n body σ M).bind fun f M => .ok (some (f.clr clr)) M
        | some false => .ok none M
        | none => .bad)
      | .exc x M => .ok (some (.exc x σ)) M
      | .bad => .bad) (wipeG σ clr) M
  | .ret e, σ, M => (evE Φ n σ e M).st σ fun d M => .ok (.ret d) M
  | .retn, _, M => .ok (.ret .non) M
  | .expr e, σ, M => (evE Φ n σ e M).st σ fun _ M => .ok (.nxt σ) M
  | .raise c as, σ, M => if 2 ≤ n then (evEs Φ n σ as M).st σ fun ds M => match mkEx G.mks c ds with
    | some x => .ok (.exc x σ) M
    | none => .bad
    else .bad
  | .tryc body hs, σ, M => (evSs G Φ n body σ M).bind fun f M => match f with
    | .exc x σ => evHs G x hs σ M
    | f => .ok f M
  | .nev, _, _ => .bad
  | .pass, σ, M => .ok (.nxt σ) M
  | .brk, σ, M => .ok (.brk σ) M
  | .cnt, σ, M => .ok (.cnt σ) M
  | .frz is s, σ, M => match frzG σ is with
    | some σ => evS G Φ n s σ M
    | none => .bad
noncomputable def evSs (G : Genv) (Φ : Fn) (n : Nat) : List S → Sg → MS → Rs Fl
  | [], σ, M => .ok (.nxt σ) M
  | s :: ss, σ, M => (evS G Φ n s σ M).bind fun f M => match f with
    | .nxt σ => evSs G Φ n ss σ M
    | f => .ok f M
end

/-! ### defs -/
structure Df where
  /-- how many parameters, the values of the last ones -/
  np : Nat
  dfl : List D
  /-- the names by slot -/
  N : List Str
  body : List S
  /-- the objects that it makes are left behind -/
  drp : Bool := false
mutual
def D.under (n : Nat) : D → Bool
  | .tup xs => D.unders n xs
  | .lst xs => D.unders n xs
  | .dct kvs => D.underk n kvs
  | .ref k => decide (k < n)
  | _ => true
def D.unders (n : Nat) : List D → Bool
  | [] => true
  | x :: xs => x.under n && D.unders n xs
def D.underk (n : Nat) : List (Key × D) → Bool
  | [] => true
  | (_, x) :: xs => x.under n && D.underk n xs
end
def leave (b : Bool) (n : Nat) (d : D) (M : MS) : Rs D := match b with
  | false => .ok d M
  | true => if d.under n = true then .ok d (M.take n) else .bad
def leaveX (b : Bool) (n : Nat) (x : Ex) (M : MS) : Rs D := match b with
  | false => .exc x M
  | true => if D.unders n (x.fs.map (·.2)) = true then .exc x (M.take n) else .bad
def startG (N : List Str) (ds : List D) : Sg := ds.map (fun d => some (.val d)) ++ List.replicate (N.length - ds.length) none
noncomputable def Phi (G : Genv) (tbl : List Df) : Nat → Fn
  | 0, _, _, _ => .bad
  | n + 1, f, ds, M0 => match tbl[f]? with
    | none => .bad
    | some df =>
      let ds := ds ++ df.dfl.drop (ds.length + df.dfl.length - df.np)
      if ds.length = df.np then (evSs G (Phi G tbl n) n df.body (startG df.N ds) M0).nox.bind fun f M => match f with
        | .nxt _ => leave df.drp M0.length .non M
        | .ret d => leave df.drp M0.length d M
        | .exc x _ => leaveX df.drp M0.length x M
        | _ => .bad
      else .bad
end Mi
set_option Elab.async false
set_option linter.all false
set_option maxRecDepth 100000
/-! Mi, part 3: how data stand in the heap. -/
namespace Mi
open PySem PySem.Spec PyProof.Rows L2

mutual
/-- v stands for d, all of it among the objects F that nobody changes; ρ: where the objects that change stand -/
inductive Rep (K : PySem.W.Frag) (F : Hp) (ρ : List Addr) : V → D → Prop
  | non : Rep K F ρ .non .non
  | bl (b : Bool) : Rep K F ρ (.bl b) (.bl b)
  | int (i : Int) : Rep K F ρ (.int i) (.int i)
  | str (x : Str) : Rep K F ρ (.str x) (.str x)
  | tup {a : Addr} {vs : List V} {ds : List D} : SqT K F a vs → Reps K F ρ vs ds → Rep K F ρ (.ref a) (.tup ds)
  | lst {a : Addr} {vs : List V} {ds : List D} : SqL K F a vs → Reps K F ρ vs ds → Rep K F ρ (.ref a) (.lst ds)
  | dct {a : Addr} {kvs : List (Key × V)} {ds : List (Key × D)} : F a = some (.dK kvs) → RepK K F ρ kvs ds → Rep K F ρ (.ref a) (.dct ds)
  | ref {a : Addr} {n : Nat} : ρ[n]? = some a → Rep K F ρ (.ref a) (.ref n)
inductive Reps (K : PySem.W.Frag) (F : Hp) (ρ : List Addr) : List V → List D → Prop
  | nil : Reps K F ρ [] []
  | cons {v : V} {vs : List V} {d : D} {ds : List D} : Rep K F ρ v d → Reps K F ρ vs ds → Reps K F ρ (v :: vs) (d :: ds)
inductive RepK (K : PySem.W.Frag) (F : Hp) (ρ : List Addr) : List (Key × V) → List (Key × D) → Prop
  | nil : RepK K F ρ [] []
  | cons {k : Key} {v : V} {vs : List (Key × V)} {d : D} {ds : List (Key × D)} : Rep K F ρ v d → RepK K F ρ vs ds → RepK K F ρ ((k, v) :: vs) ((k, d) :: ds)
end

/-- what an object that changes holds -/
inductive CtR (K : PySem.W.Frag) (F : Hp) (ρ : List Addr) : HO → Ct → Prop
  | lst {vs : List V} {ds : List D} : Reps K F ρ vs ds → CtR K F ρ (.lst vs) (.lst ds)
  | dct {kvs : List (Key × V)} {ds : List (Key × D)} : RepK K F ρ kvs ds → CtR K F ρ (.dK kvs) (.dct ds)
inductive MOR (K : PySem.W.Frag) (F : Hp) (ρ : List Addr) (H : Hp) (a : Addr) : MO → Prop
  | cell {o : HO} {c : Ct} : H a = some o → CtR K F ρ o c → MOR K F ρ H a (.cell c)

structure SimM (K : PySem.W.Frag) (F : Hp) (ρ : List Addr) (M : MS) (H : Hp) : Prop where
  sub : ∀ a o, F a = some o → H a = some o
  len : ρ.length = M.length
  nd : ρ.Nodup
  off : ∀ a ∈ ρ, F a = none
  obj : ∀ (j : Nat) (a : Addr) (mo : MO), ρ[j]? = some a → M[j]? = some mo → MOR K F ρ H a mo
structure SimS (K : PySem.W.Frag) (F : Hp) (ρ : List Addr) (σ : Sg) (σR : L2.St) (H : Hp) : Prop where
  len : σ.length = σR.length
  val : ∀ (i : Nat) (d : D), σ[i]? = some (some (.val d)) → ∃ v, σR[i]? = some (some v) ∧ Rep K F ρ v d
  own : ∀ (i : Nat) (c : Ct), σ[i]? = some (some (.own c)) → ∃ a o, σR[i]? = some (some (.ref a)) ∧ H a = some o ∧ CtR K F ρ o c ∧ F a = none ∧ a ∉ ρ
  dis : ∀ (i j : Nat) (c c' : Ct) (a : Addr), σ[i]? = some (some (.own c)) → σ[j]? = some (some (.own c')) → σR[i]? = some (some (.ref a)) → σR[j]? = some (some (.ref a)) → i = j
/-- what an evaluation leaves as it was -/
structure Stp (F : Hp) (ρ : List Addr) (H F' : Hp) (ρ' : List Addr) (H' : Hp) : Prop where
  mono : ∀ a o, F a = some o → F' a = some o
  pre : ρ <+: ρ'
  keep : ∀ b o, H b = some o → b ∉ ρ → H' b = some o ∧ F' b = F b
  new : ∀ b ∈ ρ', b ∉ ρ → H b = none

section
variable {K : PySem.W.Frag} {F F' F1 F2 : Hp} {ρ ρ' ρ1 ρ2 : List Addr} {H H' H1 H2 : Hp} {M M' M1 M2 : MS} {σ : Sg} {σR : L2.St}

theorem sqT_mono {a : Addr} {vs : List V} (h : SqT K F a vs) (m : ∀ a o, F a = some o → F' a = some o) : SqT K F' a vs := by
  rcases h with (h | ⟨o, h⟩) | h
  · exact .inl (.inl (m _ _ h))
  · exact .inl (.inr ⟨o, m _ _ h⟩)
  · exact .inr h
theorem sqL_mono {a : Addr} {vs : List V} (h : SqL K F a vs) (m : ∀ a o, F a = some o → F' a = some o) : SqL K F' a vs := by
  rcases h with (h | ⟨o, h⟩) | h
  · exact .inl (.inl (m _ _ h))
  · exact .inl (.inr ⟨o, m _ _ h⟩)
  · exact .inr h
theorem pre_get {n : Nat} {a : Addr} (p : ρ <+: ρ') (h : ρ[n]? = some a) : ρ'[n]? = some a := by
  obtain ⟨t, rfl⟩ := p
  rw [List.getElem?_append_left (List.getElem?_eq_some_iff.mp h).1]
  exact h
mutual
theorem Rep.mono (m : ∀ a o, F a = some o → F' a = some o) (p : ρ <+: ρ') : ∀ {v : V} {d : D}, Rep K F ρ v d → Rep K F' ρ' v d
  | _, _, .non => .non
  | _, _, .bl b => .bl b
  | _, _, .int i => .int i
  | _, _, .str x => .str x
  | _, _, .tup h r => .tup (sqT_mono h m) (Reps.mono m p r)
  | _, _, .lst h r => .lst (sqL_mono h m) (Reps.mono m p r)
  | _, _, .dct h r => .dct (m _ _ h) (RepK.mono m p r)
  | _, _, .ref h => .ref (pre_get p h)
theorem Reps.mono (m : ∀ a o, F a = some o → F' a = some o) (p : ρ <+: ρ') : ∀ {vs : List V} {ds : List D}, Reps K F ρ vs ds → Reps K F' ρ' vs ds
  | _, _, .nil => .nil
  | _, _, .cons a b => .cons (Rep.mono m p a) (Reps.mono m p b)
theorem RepK.mono (m : ∀ a o, F a = some o → F' a = some o) (p : ρ <+: ρ') : ∀ {vs : List (Key × V)} {ds : List (Key × D)}, RepK K F ρ vs ds → RepK K F' ρ' vs ds
  | _, _, .nil => .nil
  | _, _, .cons a b => .cons (Rep.mono m p a) (RepK.mono m p b)
end
theorem CtR.mono (m : ∀ a o, F a = some o → F' a = some o) (p : ρ <+: ρ') {o : HO} {c : Ct} : CtR K F ρ o c → CtR K F' ρ' o c
  | .lst r => .lst (r.mono m p)
  | .dct r => .dct (r.mono m p)

theorem Reps.length : ∀ {vs : List V} {ds : List D}, Reps K F ρ vs ds → vs.length = ds.length
  | _, _, .nil => rfl
  | _, _, .cons _ b => congrArg Nat.succ b.length
theorem Reps.get : ∀ {vs : List V} {ds : List D} {i : Nat} {d : D}, Reps K F ρ vs ds → ds[i]? = some d → ∃ v, vs[i]? = some v ∧ Rep K F ρ v d
  | _, _, 0, _, .cons a _, e => ⟨_, rfl, by cases e; exact a⟩
  | _, _, i + 1, _, .cons _ b, e => Reps.get (i := i) b e
  | _, _, _, _, .nil, e => by simp at e
theorem Reps.get' : ∀ {vs : List V} {ds : List D} {i : Nat} {v : V}, Reps K F ρ vs ds → vs[i]? = some v → ∃ d, ds[i]? = some d ∧ Rep K F ρ v d
  | _, _, 0, _, .cons a _, e => ⟨_, rfl, by cases e; exact a⟩
  | _, _, i + 1, _, .cons _ b, e => Reps.get' (i := i) b e
  | _, _, _, _, .nil, e => by simp at e
theorem Reps.append : ∀ {vs ws : List V} {ds es : List D}, Reps K F ρ vs ds → Reps K F ρ ws es → Reps K F ρ (vs ++ ws) (ds ++ es)
  | _, _, _, _, .nil, s => s
  | _, _, _, _, .cons a b, s => .cons a (b.append s)
theorem Reps.take : ∀ {vs : List V} {ds : List D} (n : Nat), Reps K F ρ vs ds → Reps K F ρ (vs.take n) (ds.take n)
  | _, _, 0, _ => .nil
  | _, _, _ + 1, .nil => .nil
  | _, _, n + 1, .cons a b => .cons a (b.take n)
theorem Reps.drop : ∀ {vs : List V} {ds : List D} (n : Nat), Reps K F ρ vs ds → Reps K F ρ (vs.drop n) (ds.drop n)
  | _, _, 0, r => r
  | _, _, _ + 1, .nil => .nil
  | _, _, n + 1, .cons _ b => b.drop n
theorem Reps.set {v : V} {d : D} (r : Rep K F ρ v d) : ∀ {vs : List V} {ds : List D} (n : Nat), Reps K F ρ vs ds → Reps K F ρ (vs.set n v) (ds.set n d)
  | _, _, _, .nil => .nil
  | _, _, 0, .cons _ b => .cons r b
  | _, _, n + 1, .cons a b => .cons a (Reps.set r n b)
theorem Reps.reverse : ∀ {vs : List V} {ds : List D}, Reps K F ρ vs ds → Reps K F ρ vs.reverse ds.reverse
  | _, _, .nil => .nil
  | _, _, .cons a b => by
    rw [List.reverse_cons, List.reverse_cons]
    exact b.reverse.append (.cons a .nil)
theorem Reps.dropLast {vs : List V} {ds : List D} (r : Reps K F ρ vs ds) : Reps K F ρ vs.dropLast ds.dropLast := by
  rw [List.dropLast_eq_take, List.dropLast_eq_take, r.length]
  exact r.take _
theorem RepK.length : ∀ {vs : List (Key × V)} {ds : List (Key × D)}, RepK K F ρ vs ds → vs.length = ds.length
  | _, _, .nil => rfl
  | _, _, .cons _ b => congrArg Nat.succ b.length
theorem RepK.keys : ∀ {vs : List (Key × V)} {ds : List (Key × D)}, RepK K F ρ vs ds → vs.map (·.1) = ds.map (·.1)
  | _, _, .nil => rfl
  | _, _, .cons _ b => congrArg (_ :: ·) b.keys
theorem RepK.find : ∀ {vs : List (Key × V)} {ds : List (Key × D)} (k : Key), RepK K F ρ vs ds → (getD ds k = none ∧ valV vs k = none) ∨ ∃ v d, getD ds k = some d ∧ valV vs k = some v ∧ Rep K F ρ v d
  | _, _, k, .nil => .inl ⟨rfl, rfl⟩
  | _, _, k, .cons (k := j) (v := v) (d := d) a b => by
    by_cases e : j = k
    · exact .inr ⟨v, d, by simp [getD, List.find?_cons, e], by simp [valV, List.find?_cons, e], a⟩
    · rcases b.find k with ⟨h1, h2⟩ | ⟨w, d', h1, h2, h3⟩
      · exact .inl ⟨by simpa [getD, List.find?_cons, e] using h1, by simpa [valV, List.find?_cons, e] using h2⟩
      · exact .inr ⟨w, d', by simpa [getD, List.find?_cons, e] using h1, by simpa [valV, List.find?_cons, e] using h2, h3⟩
theorem RepK.any (k : Key) : ∀ {vs : List (Key × V)} {ds : List (Key × D)}, RepK K F ρ vs ds → (vs.any fun kv => decide (kv.1 = k)) = ds.any fun kv => decide (kv.1 = k)
  | _, _, .nil => rfl
  | _, _, .cons a b => by rw [List.any_cons, List.any_cons, b.any k]
theorem RepK.map {v : V} {d : D} (k : Key) (r : Rep K F ρ v d) : ∀ {vs : List (Key × V)} {ds : List (Key × D)}, RepK K F ρ vs ds →
    RepK K F ρ (vs.map fun kv => if kv.1 = k then (kv.1, v) else kv) (ds.map fun kv => if kv.1 = k then (kv.1, d) else kv)
  | _, _, .nil => .nil
  | _, _, .cons (k := j) a b => by
    rw [List.map_cons, List.map_cons]
    by_cases e : j = k
    · rw [if_pos e, if_pos e]
      exact .cons r (b.map k r)
    · rw [if_neg e, if_neg e]
      exact .cons a (b.map k r)
theorem RepK.append : ∀ {vs ws : List (Key × V)} {ds es : List (Key × D)}, RepK K F ρ vs ds → RepK K F ρ ws es → RepK K F ρ (vs ++ ws) (ds ++ es)
  | _, _, _, _, .nil, s => s
  | _, _, _, _, .cons a b, s => .cons a (b.append s)
theorem RepK.put {v : V} {d : D} (k : Key) (r : Rep K F ρ v d) {vs : List (Key × V)} {ds : List (Key × D)} (h : RepK K F ρ vs ds) : RepK K F ρ (putK vs k v) (putD ds k d) := by
  unfold putK putD
  rw [h.any k]
  split
  · exact h.map k r
  · exact h.append (.cons r .nil)
theorem RepK.drop (k : Key) : ∀ {vs : List (Key × V)} {ds : List (Key × D)}, RepK K F ρ vs ds → RepK K F ρ (dropK vs k) (ds.filter fun kv => decide (kv.1 ≠ k))
  | _, _, .nil => .nil
  | _, _, .cons (k := j) a b => by
    unfold dropK
    rw [List.filter_cons, List.filter_cons]
    by_cases e : j = k
    · simp only [e, ne_eq, not_true_eq_false, decide_false, Bool.false_eq_true, if_false]
      exact b.drop k
    · simp only [e, ne_eq, not_false_eq_true, decide_true, if_true]
      exact .cons a (b.drop k)
theorem RepK.merge : ∀ {ws : List (Key × V)} {es : List (Key × D)}, RepK K F ρ ws es → ∀ {vs : List (Key × V)} {ds : List (Key × D)}, RepK K F ρ vs ds → RepK K F ρ (mergeK vs ws) (mergeD ds es)
  | _, _, .nil => fun h => h
  | _, _, .cons a b => fun h => b.merge (h.put _ a)

/-! ### steps -/
theorem Stp.refl : Stp F ρ H F ρ H := ⟨fun _ _ h => h, List.prefix_refl _, fun _ _ h _ => ⟨h, rfl⟩, fun b h n => absurd h n⟩
theorem Stp.sub {a : Addr} (s : Stp F ρ H F' ρ' H') (h : a ∈ ρ) : a ∈ ρ' := by
  obtain ⟨t, rfl⟩ := s.pre
  exact List.mem_append_left _ h
theorem Stp.trans (a : Stp F ρ H F1 ρ1 H1) (b : Stp F1 ρ1 H1 F2 ρ2 H2) : Stp F ρ H F2 ρ2 H2 := by
  refine ⟨fun c o h => b.mono c o (a.mono c o h), a.pre.trans b.pre, fun c o h n => ?_, fun c hc n => ?_⟩
  · obtain ⟨h1, f1⟩ := a.keep c o h n
    have n1 : c ∉ ρ1 := fun z => by
      have q := a.new c z n
      rw [h] at q
      cases q
    obtain ⟨h2, f2⟩ := b.keep c o h1 n1
    exact ⟨h2, f2.trans f1⟩
  · by_cases h1 : c ∈ ρ1
    · exact a.new c h1 n
    · have q := b.new c hc h1
      cases e : H c with
      | none => rfl
      | some o =>
        rw [(a.keep c o e n).1] at q
        cases q
theorem Stp.rep (s : Stp F ρ H F' ρ' H') {v : V} {d : D} (r : Rep K F ρ v d) : Rep K F' ρ' v d := r.mono s.mono s.pre
theorem Stp.reps (s : Stp F ρ H F' ρ' H') {v : List V} {d : List D} (r : Reps K F ρ v d) : Reps K F' ρ' v d := r.mono s.mono s.pre
theorem SimS.step (h : SimS K F ρ σ σR H) (s : Stp F ρ H F' ρ' H') : SimS K F' ρ' σ σR H' := by
  refine ⟨h.len, fun i d e => ?_, fun i c e => ?_, h.dis⟩
  · obtain ⟨v, e1, r⟩ := h.val i d e
    exact ⟨v, e1, s.rep r⟩
  · obtain ⟨a, o, e1, e2, r, f, n⟩ := h.own i c e
    obtain ⟨k1, k2⟩ := s.keep a o e2 n
    exact ⟨a, o, e1, k1, r.mono s.mono s.pre, k2.trans f, fun z => by
      have q := s.new a z n
      rw [e2] at q
      cases q⟩
/-- a new object that nobody will change -/
theorem SimM.alloc {p : Addr} {o : HO} (h : SimM K F ρ M H) (hp : H p = none) : SimM K (upd F p o) ρ M (upd H p o) ∧ Stp F ρ H (upd F p o) ρ (upd H p o) := by
  have hF : F p = none := by
    cases e : F p with
    | none => rfl
    | some u =>
      rw [h.sub p u e] at hp
      cases hp
  have m : ∀ a u, F a = some u → upd F p o a = some u := fun a u e => by rw [upd_ne (ne_of_none e hF)]; exact e
  have nρ : ∀ (j : Nat) (a : Addr), ρ[j]? = some a → a ≠ p := fun j a e => by
    obtain ⟨hj, _⟩ := List.getElem?_eq_some_iff.mp e
    have hj' : j < M.length := by rw [← h.len]; exact hj
    have q := h.obj j a M[j] e (List.getElem?_eq_getElem hj')
    intro z
    subst z
    cases q' : M[j] with
    | cell c =>
      rw [q'] at q
      cases q with
      | cell e1 _ => rw [hp] at e1; cases e1
    | ins c fs =>
      rw [q'] at q
      cases q
  have nm : ∀ a ∈ ρ, a ≠ p := fun a ha => by
    obtain ⟨j, e⟩ := List.mem_iff_getElem?.mp ha
    exact nρ j a e
  refine ⟨⟨fun a u e => ?_, h.len, h.nd, fun a ha => by rw [upd_ne (nm a ha)]; exact h.off a ha, fun j a mo e1 e2 => ?_⟩, ⟨m, List.prefix_refl _, fun b u e _ => ?_, fun b hb n => absurd hb n⟩⟩
  · by_cases z : a = p
    · subst z; rw [upd_same] at e ⊢; exact e
    · rw [upd_ne z] at e ⊢; exact h.sub a u e
  · cases h.obj j a mo e1 e2 with
    | cell g1 g2 => exact .cell (by rw [upd_ne (nρ j a e1)]; exact g1) (g2.mono m (List.prefix_refl _))
  · have z : b ≠ p := ne_of_none e hp
    exact ⟨by rw [upd_ne z]; exact e, by rw [upd_ne z]⟩
/-- a new object that may be changed -/
theorem SimM.push {p : Addr} {o : HO} {c : Ct} (h : SimM K F ρ M H) (hp : H p = none) (r : CtR K F ρ o c) : SimM K F (ρ ++ [p]) (M ++ [.cell c]) (upd H p o) ∧ Stp F ρ H F (ρ ++ [p]) (upd H p o) := by
  have hF : F p = none := by
    cases e : F p with
    | none => rfl
    | some u =>
      rw [h.sub p u e] at hp
      cases hp
  have nρ : ∀ (j : Nat) (a : Addr), ρ[j]? = some a → a ≠ p := fun j a e => by
    obtain ⟨hj, _⟩ := List.getElem?_eq_some_iff.mp e
    have hj' : j < M.length := by rw [← h.len]; exact hj
    have q := h.obj j a M[j] e (List.getElem?_eq_getElem hj')
    intro z
    subst z
    cases q' : M[j] with
    | cell c =>
      rw [q'] at q
      cases q with
      | cell e1 _ => rw [hp] at e1; cases e1
    | ins c fs =>
      rw [q'] at q
      cases q
  have nm : ∀ a ∈ ρ, a ≠ p := fun a ha => by
    obtain ⟨j, e⟩ := List.mem_iff_getElem?.mp ha
    exact nρ j a e
  have px : ρ <+: ρ ++ [p] := List.prefix_append _ _
  have mm : ∀ a u, F a = some u → F a = some u := fun _ _ e => e
  refine ⟨⟨fun a u e => ?_, by simp [h.len], ?_, fun a ha => ?_, fun j a mo e1 e2 => ?_⟩, ⟨mm, px, fun b u e _ => ⟨by rw [upd_ne (ne_of_none e hp)]; exact e, rfl⟩, fun b hb n => ?_⟩⟩
  · rw [upd_ne (ne_of_none e hF)]; exact h.sub a u e
  · rw [List.nodup_append]
    exact ⟨h.nd, by simp, fun a ha b hb => by
      have e : b = p := by simpa using hb
      rw [e]
      exact nm a ha⟩
  · rcases List.mem_append.mp ha with q | q
    · exact h.off a q
    · have e : a = p := by simpa using q
      rw [e]; exact hF
  · by_cases hj : j < ρ.length
    · rw [List.getElem?_append_left hj] at e1
      rw [List.getElem?_append_left (by rw [← h.len]; exact hj)] at e2
      cases h.obj j a mo e1 e2 with
      | cell g1 g2 => exact .cell (by rw [upd_ne (nρ j a e1)]; exact g1) (g2.mono mm px)
    · have hj1 : j = ρ.length := by
        have := (List.getElem?_eq_some_iff.mp e1).1
        simp at this
        omega
      subst hj1
      rw [List.getElem?_append_right (Nat.le_refl _)] at e1
      rw [h.len, List.getElem?_append_right (Nat.le_refl _)] at e2
      simp at e1 e2
      subst e1 e2
      exact .cell upd_same (r.mono mm px)
  · rcases List.mem_append.mp hb with q | q
    · exact absurd q n
    · have e : b = p := by simpa using q
      rw [e]; exact hp
/-- an object is changed -/
theorem SimM.set {j : Nat} {a : Addr} {o : HO} {c : Ct} (h : SimM K F ρ M H) (e : ρ[j]? = some a) (r : CtR K F ρ o c) : SimM K F ρ (M.set j (.cell c)) (upd H a o) ∧ Stp F ρ H F ρ (upd H a o) := by
  have ha : a ∈ ρ := List.mem_of_getElem? e
  have hF := h.off a ha
  refine ⟨⟨fun b u q => ?_, by simp [h.len], h.nd, h.off, fun i b mo e1 e2 => ?_⟩, ⟨fun _ _ q => q, List.prefix_refl _, fun b u q n => ?_, fun b hb n => absurd hb n⟩⟩
  · rw [upd_ne (ne_of_none q hF)]; exact h.sub b u q
  · by_cases z : i = j
    · subst z
      rw [e] at e1; cases e1
      have hl : i < M.length := by rw [← h.len]; exact (List.getElem?_eq_some_iff.mp e).1
      rw [List.getElem?_set_self hl] at e2
      cases e2
      exact .cell upd_same r
    · rw [List.getElem?_set_ne (Ne.symm z)] at e2
      have nb : b ≠ a := fun q => by
        subst q
        obtain ⟨h1, g1⟩ := List.getElem?_eq_some_iff.mp e
        obtain ⟨h2, g2⟩ := List.getElem?_eq_some_iff.mp e1
        exact z ((List.getElem_inj h.nd).mp (g2.trans g1.symm))
      cases h.obj i b mo e1 e2 with
      | cell g1 g2 => exact .cell (by rw [upd_ne nb]; exact g1) g2
  · have nb : b ≠ a := fun z => n (by rw [z]; exact ha)
    exact ⟨by rw [upd_ne nb]; exact q, rfl⟩

/-! ### operands -/
/-- what an operand's value is when it is looked at -/
inductive Lk (K : PySem.W.Frag) (F : Hp) (ρ : List Addr) (H : Hp) : V → D → Prop
  | rep {v : V} {d : D} : Rep K F ρ v d → Lk K F ρ H v d
  | ct {a : Addr} {o : HO} {c : Ct} : H a = some o → CtR K F ρ o c → Lk K F ρ H (.ref a) c.d
/-- an operand: a value, or an own list or dict of a slot -/
def Opn (K : PySem.W.Frag) (F : Hp) (ρ : List Addr) (σ : Sg) (σR : L2.St) (v : V) (d : D) : Prop :=
  Rep K F ρ v d ∨ ∃ (i : Nat) (c : Ct), σ[i]? = some (some (.own c)) ∧ σR[i]? = some (some v) ∧ d = c.d
theorem Opn.mono {v : V} {d : D} (h : Opn K F ρ σ σR v d) (s : Stp F ρ H F' ρ' H') : Opn K F' ρ' σ σR v d := by
  rcases h with h | h
  · exact .inl (s.rep h)
  · exact .inr h
theorem Opn.look {v : V} {d : D} (h : Opn K F ρ σ σR v d) (sm : SimM K F ρ M H) (ss : SimS K F ρ σ σR H) : Lk K F ρ H v (deref M d) := by
  rcases h with h | ⟨i, c, e1, e2, rfl⟩
  · cases h with
    | @ref a n e =>
      cases q : M[n]? with
      | none => simp only [deref, q]; exact .rep (.ref e)
      | some mo =>
        have z := sm.obj n a mo e q
        cases z with
        | cell g1 g2 => simp only [deref, q]; exact .ct g1 g2
    | non => exact .rep .non
    | bl b => exact .rep (.bl b)
    | int i => exact .rep (.int i)
    | str x => exact .rep (.str x)
    | tup a b => exact .rep (.tup a b)
    | lst a b => exact .rep (.lst a b)
    | dct a b => exact .rep (.dct a b)
  · obtain ⟨a, o, g1, g2, g3, _, _⟩ := ss.own i c e1
    rw [e2] at g1
    cases g1
    cases c <;> exact .ct g2 g3
theorem Lk.lst {v : V} {ds : List D} (h : Lk K F ρ H v (.lst ds)) (sm : SimM K F ρ M H) : ∃ a vs, v = .ref a ∧ SqL K H a vs ∧ Reps K F ρ vs ds := by
  generalize e : D.lst ds = d at h
  cases h with
  | rep r =>
    subst e
    cases r with
    | lst q r => exact ⟨_, _, rfl, sqL_mono q sm.sub, r⟩
  | @ct a o c g1 g2 =>
    cases g2 with
    | lst r =>
      have e' : ds = _ := D.lst.inj e
      subst e'
      exact ⟨_, _, rfl, .inl (.inl g1), r⟩
    | dct r => cases e
theorem Lk.tup {v : V} {ds : List D} (h : Lk K F ρ H v (.tup ds)) (sm : SimM K F ρ M H) : ∃ a vs, v = .ref a ∧ SqT K H a vs ∧ Reps K F ρ vs ds := by
  generalize e : D.tup ds = d at h
  cases h with
  | rep r =>
    subst e
    cases r with
    | tup q r => exact ⟨_, _, rfl, sqT_mono q sm.sub, r⟩
  | @ct a o c g1 g2 => cases c <;> cases e
theorem Lk.dct {v : V} {ds : List (Key × D)} (h : Lk K F ρ H v (.dct ds)) (sm : SimM K F ρ M H) : ∃ a kvs, v = .ref a ∧ H a = some (.dK kvs) ∧ RepK K F ρ kvs ds := by
  generalize e : D.dct ds = d at h
  cases h with
  | rep r =>
    subst e
    cases r with
    | dct q r => exact ⟨_, _, rfl, sm.sub _ _ q, r⟩
  | @ct a o c g1 g2 =>
    cases g2 with
    | lst r => cases e
    | dct r =>
      have e' : ds = _ := D.dct.inj e
      subst e'
      exact ⟨_, _, rfl, g1, r⟩
theorem Lk.int {v : V} {i : Int} (h : Lk K F ρ H v (.int i)) : v = .int i := by
  generalize e : D.int i = d at h
  cases h with
  | rep r => subst e; cases r; rfl
  | @ct a o c g1 g2 => cases c <;> cases e
theorem Lk.str {v : V} {i : Str} (h : Lk K F ρ H v (.str i)) : v = .str i := by
  generalize e : D.str i = d at h
  cases h with
  | rep r => subst e; cases r; rfl
  | @ct a o c g1 g2 => cases c <;> cases e
theorem Lk.bl {v : V} {i : Bool} (h : Lk K F ρ H v (.bl i)) : v = .bl i := by
  generalize e : D.bl i = d at h
  cases h with
  | rep r => subst e; cases r; rfl
  | @ct a o c g1 g2 => cases c <;> cases e
theorem Lk.non {v : V} (h : Lk K F ρ H v .non) : v = .non := by
  generalize e : D.non = d at h
  cases h with
  | rep r => subst e; cases r; rfl
  | @ct a o c g1 g2 => cases c <;> cases e
/-- what is no list and no dict is a value -/
theorem Lk.value {v : V} {d : D} (h : Lk K F ρ H v d) (e : ownO d = none) : Rep K F ρ v d := by
  cases h with
  | rep r => exact r
  | @ct a o c g1 g2 => cases c <;> cases e
theorem Lk.key {v : V} {d : D} {k : Key} (h : Lk K F ρ H v d) (e : keyO d = some k) : v = kV k := by
  cases d with
  | int i => cases e; exact h.int
  | str x => cases e; exact h.str
  | _ => cases e
/-- the frozen value of a looked-at operand that is not an object -/
theorem Reps.ints : ∀ {vs : List V} {ds : List D} {ns : List Int}, Reps K F ρ vs ds → intsO ds = some ns → vs = ns.map V.int
  | _, _, ns, .nil, e => by cases e; rfl
  | _, _, ns, .cons (d := d) a b, e => by
    cases d with
    | int i =>
      cases a
      simp only [intsO, Option.map_eq_some_iff] at e
      obtain ⟨r, e1, rfl⟩ := e
      rw [b.ints e1]
      rfl
    | _ => cases e
theorem Reps.bools : ∀ {vs : List V} {ds : List D} {ns : List Bool}, Reps K F ρ vs ds → boolsO ds = some ns → vs = ns.map V.bl
  | _, _, ns, .nil, e => by cases e; rfl
  | _, _, ns, .cons (d := d) a b, e => by
    cases d with
    | bl i =>
      cases a
      simp only [boolsO, Option.map_eq_some_iff] at e
      obtain ⟨r, e1, rfl⟩ := e
      rw [b.bools e1]
      rfl
    | _ => cases e
theorem Reps.keys : ∀ {vs : List V} {ds : List D} {ks : List Key}, Reps K F ρ vs ds → keysO ds = some ks → vs = ks.map kV
  | _, _, ks, .nil, e => by cases e; rfl
  | _, _, ks, .cons (d := d) (ds := ds) a b, e => by
    unfold keysO at e
    cases h1 : keyO d with
    | none => rw [h1] at e; cases e
    | some k =>
      cases h2 : keysO ds with
      | none => rw [h1, h2] at e; cases e
      | some r =>
        rw [h1, h2] at e
        cases e
        rw [b.keys h2, (Lk.rep (H := fun _ => none) a).key h1]
        rfl
theorem rep_key (k : Key) : Rep K F ρ (kV k) (keyD k) := by
  cases k with
  | inl i => exact .int i
  | inr x => exact .str x
theorem reps_keys : ∀ ks : List Key, Reps K F ρ (ks.map kV) (ks.map keyD)
  | [] => .nil
  | k :: ks => .cons (rep_key k) (reps_keys ks)
end
end Mi
set_option Elab.async false
set_option linter.all false
set_option maxRecDepth 100000
set_option maxHeartbeats 2000000
/-! Mi, part 3b: list(reversed(a tuple)). -/
namespace Mi
open PySem PySem.Spec PyProof.Rows
open RT (IsRt next_rt_item next_rt_end iter_rt rtObj call_reversed_tup get_tuple)
theorem rt_nolen : typeLookup (.type "reversed") "__len__" = pure none := by rw [typeLookup_type, builtinLookup_eq_fast]; kernel_rfl
theorem rt_hint : Slot "reversed" "__length_hint__" "reversed.__length_hint__" :=
  .of (owner := "reversed") (n := "__length_hint__") (by rw [typeLookup_type, builtinLookup_eq_fast]; kernel_rfl) (by decide +kernel) (by decide +kernel) (by decide +kernel)
    (by first | exact .inl (by decide +kernel) | exact .inr (by decide +kernel)) (by rw [isSubtype_type]; kernel_rfl)
theorem rt_hint_entry : entryFor table "reversed.__length_hint__" = some Builtin.«reversed.__length_hint__» := entryFor_of_tree (by kernel_rfl)
theorem rt_hint_args (a : Value) : argsOk "reversed.__length_hint__" ⟨[a], []⟩ := by
  unfold argsOk; rw [signature?_of (id := "reversed.__length_hint__") (n := "__length_hint__".toList.reverse) (o := "reversed".toList.reverse) (by kernel_rfl) RT.owner_rt]; kernel_rfl
section
variable {prog : Program} {w : World} {A : Around} {E : Value → Shared → Prop} {s : Shared}
theorem walks_rt (hh : A.handled = none) {it t : Addr} {items : Array Value} (hn : t ≠ it) (hz : items.size ≤ sizeLine) :
    Walks prog w A it [it, t] [it] items.size (fun i v => items[items.size - 1 - i]? = some v) (fun i h => i ≤ items.size ∧ IsRt h it t ((items.size : Int) - 1 - (i : Nat)) ∧ IsTup h t items) where
  sub := by simp
  frame := fun i h h' st k => by
    obtain ⟨q1, q2, q3⟩ := st
    obtain ⟨o, ho, r⟩ := q3
    exact ⟨q1, q2.at fun o e => k it (by simp) o e, o, k t (by simp) _ ho, r⟩
  item := by
    intro i s Q E hi st hQ
    obtain ⟨q1, q2, q3⟩ := st
    have e1 : (items.size : Int) - 1 - ((i : Nat) : Int) = ((items.size - 1 - i : Nat) : Int) := by omega
    rw [e1] at q2
    have hj : items.size - 1 - i < items.size := by omega
    refine next_rt_item q2 q3 (x := items[items.size - 1 - i]) (by simp [hj]) hz fun h' r sb => hQ _ _ _ (by simp [hj]) ⟨hi, ?_, ?_⟩ fun b o nb e => ?_
    · have e2 : (items.size : Int) - 1 - ((i + 1 : Nat) : Int) = ((items.size - 1 - i : Nat) : Int) - 1 := by omega
      rw [e2]; exact r
    · obtain ⟨o, ho, r⟩ := q3
      exact ⟨o, (sb.2 t hn).trans ho, r⟩
    · exact (sb.2 b (by simpa using nb)).trans e
  done := by
    intro s Q E st hQ
    obtain ⟨q1, q2, q3⟩ := st
    have e1 : (items.size : Int) - 1 - ((items.size : Nat) : Int) = -1 := by omega
    rw [e1] at q2
    exact next_rt_end hh q2 fun h' eb => hQ _ _ fun b o nb e => eb b o (by simpa using nb) e
  self := fun i s Q E st h => iter_rt st.2.1 h
/-- how long it is -/
theorem hint_rt {it t : Addr} {items : Array Value} {Q : Bool → Shared → Prop} (q2 : IsRt s.heap it t ((items.size : Int) - 1)) (q3 : IsTup s.heap t items) (hz : items.size ≤ sizeLine)
    (h : ∀ b tk, s.toks ≤ tk → Q b { s with toks := tk }) : wpAny (model prog w) A (Builtin.List.listLengthHint (.ref it)) Q E s := by
  have hl : (items.size : Int) < 2 ^ 63 := by rw [sizeLine_eq] at hz; omega
  have ty := q2.typeIs
  obtain ⟨o, ho, hc, hd⟩ := id q2
  unfold Builtin.List.listLengthHint
  refine wpAny_bind (wpAny_specialOf ty rt_nolen ?_)
  show wpAny _ _ (specialOf (Value.ref it) (Str.ofString "__length_hint__") >>= _) _ _ _
  refine wpAny_bind (wpAny_specialOf ty rt_hint.lookup ?_)
  dsimp only
  rw [show splitId "reversed.__length_hint__" = some ("reversed", "__length_hint__") from by decide +kernel]
  dsimp only
  refine wpAny_bind (wpAny_isInstance (T := "reversed") (U := "reversed") (b := true) ty F.sub_reversed_self ?_)
  rw [if_neg (by decide), if_neg (by decide +kernel)]
  refine wpAny_bind (wpAny_rule (wpAny_bind (wpAny_of_eq (rt_hint.bind _) ?_)))
  dsimp only
  refine wpAny_bind (wpAny_attempt (wpAny_call_entry rt_hint ty rt_hint_entry ?_ (rt_hint_args _)))
  unfold Builtin.«reversed.__length_hint__»
  refine wpAny_bind (wpAny_of_eq (a := Value.ref it) rfl ?_)
  dsimp only
  refine wpAny_bind (wpAny_field ho hd (x := .ref t) rfl ?_)
  show wpAny _ _ (if (Value.ref t == Value.none) = true then _ else _) _ _ s
  rw [if_neg (show ¬ ((Value.ref t == Value.none) = true) from Bool.false_ne_true)]
  refine wpAny_bind (len_tuple q3 hl ?_)
  refine wpAny_bind (wpAny_of_eq (a := some ((items.size : Nat) : Int)) rfl ?_)
  dsimp only
  refine wpAny_bind (wpAny_field (s := { s with toks := s.toks + 1 + 1 }) ho hd (x := rawInt ((items.size : Int) - 1)) rfl ?_)
  show wpAny _ _ (if (items.size : Int) < (items.size : Int) - 1 + 1 then _ else _) _ _ _
  rw [if_neg (by omega)]
  have fin : ((items.size : Int) - 1 + 1) = ((items.size : Nat) : Int) := by omega
  rw [fin]
  show wpAny _ _ (mkInt _ >>= _) _ _ _
  refine wpAny_bind (wpAny_mkInt (wpAny_pure ⟨_, rfl, ?_⟩))
  dsimp only
  have e1 : ∀ (n : Int) (k : Nat), asInt? (Value.int n k) = pure (some n) := fun n k => rfl
  rw [e1, pure_bind]
  dsimp only
  have g1 : Builtin.List.listFitsIndex ((items.size : Nat) : Int) = true := by
    unfold Builtin.List.listFitsIndex
    simp only [Bool.and_eq_true, decide_eq_true_eq]
    omega
  have g2 : Builtin.List.listTooLong (((items.size : Nat) : Int).toNat) = false := L2.notLongL (by simpa using hz)
  rw [if_neg (fun z => by rw [g1] at z; cases z), if_neg (by omega), if_neg (fun z => by rw [g2] at z; cases z)]
  exact wpAny_pure (h _ _ (by omega))
theorem ext_rt (hh : A.handled = none) {it t S : Addr} {items : Array Value} {res : Value} {R : Result → Shared → Prop} {c0 : Nat} (q2 : IsRt s.heap it t ((items.size : Int) - 1)) (q3 : IsTup s.heap t items) (hz : items.size ≤ sizeLine) (n1 : t ≠ it) (n2 : S ≠ it) (n3 : S ≠ t)
    (hS : s.heap.get? S = some { cls := .type "list", data := .seq #[] c0 })
    (hR : ∀ s' acc c, Moved [S, it] (fun a b => b = a) s s' → s'.heap.get? S = some { cls := .type "list", data := .seq acc c } → ItemsOf (fun i v => items[items.size - 1 - i]? = some v) acc items.size → R (.ok (.ret res)) s') :
    wpAny (model prog w) A.in1 (Builtin.List.listExtendWith (.ref S) (.ref it) res) (fun fin s' => match fin with | .done f => R (.ok f) s' | .again c' => c'.quiet = true ∧ codeAny (model prog w) A c' R s') (fun e s' => R (.error e) s') s := by
  have ty := q2.typeIs
  have W := (walks_rt (prog := prog) (w := w) (A := A.in1) hh n1 hz).toS
  have loop : ∀ (s' : Shared) (c : Nat), Moved [S, it] (fun a b => b = a) s s' → s'.heap.get? S = some { cls := .type "list", data := .seq #[] c } → IsRt s'.heap it t ((items.size : Int) - 1) → IsTup s'.heap t items →
      codeAny (model prog w) A (.builtin "list.extend.loop" ⟨[.ref S, .ref it, res], []⟩) R s' := fun s' c mv hS' r2 r3 => by
    refine codeAny_extend_loopS W hz S (by simp [n2, n3]) res items.size 0 s' #[] c rfl (Nat.zero_le _) ⟨Nat.zero_le _, by simpa using r2, r3⟩ hS' (ItemsOf.nil _) fun s2 acc c2 mv2 hS2 hi => hR s2 acc c2 (Moved.trans (fun _ _ _ a b => b.trans a) mv mv2) hS2 hi
  unfold Builtin.List.listExtendWith
  refine wpAny_bind (wpAny_typeOf ty ?_)
  have h1 : Builtin.List.listSameRef (.ref S) (.ref it) = false := by simp [Builtin.List.listSameRef, n2]
  have h2 : (Value.type "reversed" == Value.type "list") = false := by decide
  have h3 : (Value.type "reversed" == Value.type "tuple") = false := by decide
  simp only [h1, h2, h3, Bool.or_false, Bool.false_eq_true, if_false]
  refine wpAny_bind (iter_rt q2 (wpAny_bind (wpAny_holding (hint_rt q2 q3 hz fun b tk htk => ?_))))
  have mvr : Moved [S, it] (fun a b => b = a) s s := Moved.refl fun _ => rfl
  have mv0 : Moved [S, it] (fun a b => b = a) s { s with toks := tk } := mvr.then_heap htk fun b o _ e => e
  cases b with
  | false =>
    rw [if_neg (by decide +kernel)]
    exact wpAny_pure ⟨plainId_quiet F.plain_extend_loop _, loop _ c0 mv0 hS q2 q3⟩
  | true =>
    rw [if_pos (by rfl)]
    refine wpAny_bind (wpAny_rule (wpAny_bind ?_))
    show wpAny _ A.in1 (updateSeq S (·.push .none) >>= fun _ => updateSeq S (·.pop)) _ _ _
    refine wpAny_bind (wpAny_updateSeq hS rfl ?_)
    have g1 := Heap.get?_update_self (Obj.mapSeq (·.push Value.none)) hS rfl
    refine wpAny_updateSeq (hz := by seq_fits) g1 rfl ?_
    have g2 := Heap.get?_update_self (Obj.mapSeq (·.pop)) g1 rfl
    have oth : ∀ b o, b ≠ S → s.heap.get? b = some o → ((s.heap.update S (Obj.mapSeq (·.push Value.none))).update S (Obj.mapSeq (·.pop))).get? b = some o :=
      fun b o hb e => (Heap.get?_update_other _ _ (Ne.symm hb)).trans ((Heap.get?_update_other _ _ (Ne.symm hb)).trans e)
    obtain ⟨ot, hot, rt⟩ := q3
    exact wpAny_pure ⟨plainId_quiet F.plain_extend_loop _, loop _ _ (mvr.then_heap htk fun b o nb e => oth b o (fun z => nb (by simp [z])) e) g2 (q2.at fun o e => oth it o (Ne.symm n2) e) ⟨ot, oth t ot (Ne.symm n3) hot, rt⟩⟩
theorem call_list_rt (hh : A.handled = none) {it t : Addr} {items : Array Value} {Q : Value → Shared → Prop} (q2 : IsRt s.heap it t ((items.size : Int) - 1)) (q3 : IsTup s.heap t items) (hz : items.size ≤ sizeLine) (n1 : t ≠ it)
    (hQ : ∀ s' acc c, Moved [s.heap.objs.size, it] (fun a b => b = a) { s with heap := s.heap.push { cls := .type "list", data := .seq #[] } } s' → s'.heap.get? s.heap.objs.size = some { cls := .type "list", data := .seq acc c } →
      ItemsOf (fun i v => items[items.size - 1 - i]? = some v) acc items.size → Q (.ref s.heap.objs.size) s') : wpAny (model prog w) A (call (.type "list") [.ref it]) Q E s := by
  have l1 : it < s.heap.objs.size := by obtain ⟨o, e, _⟩ := q2; exact Heap.lt_size e
  have l2 : t < s.heap.objs.size := by obtain ⟨o, e, _⟩ := q3; exact Heap.lt_size e
  have n2 : s.heap.objs.size ≠ it := Nat.ne_of_gt l1
  have n3 : s.heap.objs.size ≠ t := Nat.ne_of_gt l2
  refine callType_codes (Q₁ := fun obj s₁ => obj = .ref s.heap.objs.size ∧ s₁ = { s with heap := s.heap.push { cls := .type "list", data := .seq #[] } }) F.called_list (F.typeCall_list_1 _) F.entry_list_init (code_list_new _ ⟨rfl, rfl⟩) fun obj s₁ h₁ => ?_
  obtain ⟨rfl, rfl⟩ := h₁
  have hS : (s.heap.push { cls := .type "list", data := .seq #[] }).get? s.heap.objs.size = some { cls := .type "list", data := .seq #[] } := Heap.get?_push_size _ rfl
  refine ⟨⟨_, hS, rfl⟩, F.args_list_init_2 _ _, ?_⟩
  show wpAny _ A.in1.in1 (do let old ← Builtin.List.listItems (.ref s.heap.objs.size); Builtin.List.listUpdate (.ref s.heap.objs.size) (fun _ => #[]); letGo old.toList.reverse; Builtin.List.listExtendWith (.ref s.heap.objs.size) (.ref it) .none) _ _ _
  refine wpAny_bind ?_
  unfold Builtin.List.listItems
  refine wpAny_bind (wpAny_seqItems hS rfl (wpAny_pure ?_))
  show wpAny _ A.in1.in1 (updateSeq s.heap.objs.size (fun _ => #[]) >>= fun _ => letGo (#[] : Array Value).toList.reverse >>= fun _ => Builtin.List.listExtendWith (.ref s.heap.objs.size) (.ref it) .none) _ _ _
  refine wpAny_bind (wpAny_updateSeq hS rfl ?_)
  have g2 := Heap.get?_update_self (Obj.mapSeq (fun _ => (#[] : Array Value))) hS rfl
  have oth : ∀ b o, b ≠ s.heap.objs.size → (s.heap.push { cls := .type "list", data := .seq #[] }).get? b = some o → ((s.heap.push { cls := .type "list", data := .seq #[] }).update s.heap.objs.size (Obj.mapSeq (fun _ => (#[] : Array Value)))).get? b = some o :=
    fun b o hb e => (Heap.get?_update_other _ _ (Ne.symm hb)).trans e
  refine wpAny_bind (wpAny_letGo ?_)
  obtain ⟨ot, hot, rt⟩ := q3
  have mvr : Moved [s.heap.objs.size, it] (fun a b => b = a) { s with heap := s.heap.push { cls := .type "list", data := .seq #[] } } { s with heap := s.heap.push { cls := .type "list", data := .seq #[] } } := Moved.refl fun _ => rfl
  exact ext_rt (A := A.in1) hh (q2.at fun o e => oth it o (Ne.symm n2) (Heap.get?_push_of_some _ e)) ⟨ot, oth t ot (Ne.symm n3) (Heap.get?_push_of_some _ hot), rt⟩ hz n1 n2 n3 g2 fun s' acc c mv hS' hi =>
    ⟨rfl, hQ s' acc c (Moved.trans (fun _ _ _ a b => b.trans a) (mvr.then_heap (Nat.le_refl _) fun b o nb e => oth b o (fun z => nb (by simp [z])) e) mv) hS' hi⟩
end
section
open L2
variable {X : Cx}
/-- list(reversed(x)), x a tuple: a new list -/
def tListRev (K : PySem.W.Frag) (te : TE) : TE := fun σ H Q => te σ H fun v H1 => ∃ (a : Addr) (xs : List V), v = .ref a ∧ SqT K H1 a xs ∧ ∀ q, H1 q = none → Q (.ref q) (upd H1 q (.lst xs.reverse))
theorem pe_listRev {e : Expr} {te : TE} {p p2 pos pos2 : Pos} (hc : X.calm = true) (hg : Gl X "list") (hm : X.mg "list" = none) (hg2 : Gl X "reversed") (hm2 : X.mg "reversed" = none) (he : PE X e te)
    (hs : starEach [e] X.env = (false, eval e X.env) :: starEach [] X.env) : PE X (.Call (.Name "list" p) [.Call (.Name "reversed" p2) [e] [] pos2] [] pos) (tListRev X.K te) := by
  have hs2 : starEach [.Call (.Name "reversed" p2) [e] [] pos2] X.env = (false, eval (.Call (.Name "reversed" p2) [e] [] pos2) X.env) :: starEach [] X.env := rfl
  have hbl : bootBuiltins "list" = some (.type "list") := by decide +kernel
  refine ⟨fun pins s σ H Q I h => ?_⟩
  refine Call_ (ld_blt I hg hm hbl (PyProof.Rows.callWith_type1 (args_cons (Call_ (ld_blt I hg2 hm2 PyProof.Rows.boot_reversed (PyProof.Rows.callWith_type1 (args_cons (thn (he.run pins s σ H _ I h) fun u s1 ⟨v, H1, I1, r1, q1⟩ => args_nil ?_) hs) hs rfl))) hs2) hs2 rfl))
  obtain ⟨a, xs, ev, hq, q⟩ := q1
  subst ev
  obtain rfl : u = Value.ref a := r1
  obtain ⟨its, rv, p', hz⟩ := I1.tuple hq
  have hn := line63
  have hl := rv.length
  have hsz : its.toArray.size ≤ sizeLine := by rw [List.size_toArray]; omega
  refine call_reversed_tup p' (fun A E Q k => len_tuple p' (by simp only [List.size_toArray]; omega) k) (args_nil ?_)
  obtain ⟨ot, hot, rt⟩ := id p'
  have hlt : a < s1.heap.objs.size := Heap.lt_size hot
  have fp := I1.fpOk (H' := H1) (b := s1.heap.objs.size) (Nat.le_refl _) (I1.hok.fresh (Nat.le_refl _))
  have sz : (s1.heap.push (rtObj a ((its.toArray.size : Int) - 1))).objs.size = s1.heap.objs.size + 1 := Heap.size_push ..
  refine call_list_rt (s := { s1 with heap := s1.heap.push (rtObj a ((its.toArray.size : Int) - 1)), toks := s1.toks + 1 + 1 }) (I1.ok.hd hc) ⟨_, Heap.get?_push_size _ rfl, rfl, rfl⟩ ⟨ot, Heap.get?_push_of_some _ hot, rt⟩ hsz (Nat.ne_of_lt hlt) fun s' acc c mv hS hi => ?_
  obtain ⟨hp, g, d, tk, os⟩ := s'
  have e1 : g = s1.gens := mv.gens
  have e2 : d = s1.drawn := mv.drawn
  have e3 : os = s1.os := mv.os
  subst e1 e2 e3
  have hS : hp.get? (s1.heap.push (rtObj a ((its.toArray.size : Int) - 1))).objs.size = some { cls := .type "list", data := .seq acc c } := hS
  have keep : ∀ b o, s1.heap.get? b = some o → hp.get? b = some o := fun b o e => by
    have lt := Heap.lt_size e
    refine mv.heap b o ?_ (Heap.get?_push_of_some _ (Heap.get?_push_of_some _ e))
    simp only [List.mem_cons, List.not_mem_nil, or_false, not_or]
    exact ⟨fun z => by
      have z : b = (s1.heap.push (rtObj a ((its.toArray.size : Int) - 1))).objs.size := z
      rw [sz] at z
      rw [z] at lt
      exact Nat.lt_irrefl _ (Nat.lt_of_succ_lt lt), Nat.ne_of_lt lt⟩
  have big : s1.heap.objs.size ≤ (s1.heap.push (rtObj a ((its.toArray.size : Int) - 1))).objs.size := by rw [sz]; omega
  refine ⟨.ref _, upd H1 (s1.heap.push (rtObj a ((its.toArray.size : Int) - 1))).objs.size (.lst xs.reverse), I1.laid (t' := tk) keep big ⟨by rw [List.length_reverse]; exact hz, acc.toList, c, RT.vals_rev rv hi, ?_⟩, rfl, q _ (I1.hok.fresh big)⟩
  rw [hS]
end
end Mi
set_option Elab.async false
set_option linter.all false
set_option maxRecDepth 100000
set_option maxHeartbeats 4000000
/-! Mi, part 3c: a tuple times an int, none of it or the same. -/
namespace Mi
open PySem PySem.Spec PyProof.Rows L2
/-- the same tuple -/
theorem tmul_same (l : Addr) (items : Array Value) (n : Nat) (sl : Array (Option Value)) (dd : Option Addr) (x : Int) (u : Tok) (c0 : (decide (x < -(2 ^ 63)) || decide (x ≥ 2 ^ 63)) = false) (c1 : (items.isEmpty || x == 1) = true) :
    Meets (Builtin.«tuple.__mul__» ⟨[.ref l, .int x u], []⟩) (fun _ R s => s.heap.get? l = some { cls := .type "tuple", dict := dd, data := .seq items n, slots := sl } ∧ R (.ok (.ret (Value.ref l))) s) :=
  .of_wp fun prog w A R s h => by
    obtain ⟨hp, g, d, tk, os⟩ := s
    obtain ⟨hl, h⟩ := h
    have f1 := AutoSeq1.idx_int
    wp_walk using AutoSeq1.wpAny_loadPart' hl
    repeat (first
      | (refine wpAny_ite_false (decide_eq_false (by rw [c0]; exact Bool.false_ne_true)) ?_; wp_walk using AutoSeq1.wpAny_loadPart' hl)
      | (refine wpAny_ite_true (decide_eq_true c1) ?_; wp_walk using AutoSeq1.wpAny_loadPart' hl))
    exact ⟨_, rfl, h⟩
theorem tmul_none (l : Addr) (items : Array Value) (n : Nat) (sl : Array (Option Value)) (dd : Option Addr) (x : Int) (u : Tok) (c0 : (decide (x < -(2 ^ 63)) || decide (x ≥ 2 ^ 63)) = false) (c1 : (items.isEmpty || x == 1) = false) (c2 : (decide (x ≤ 0) || items.isEmpty) = true) :
    Meets (Builtin.«tuple.__mul__» ⟨[.ref l, .int x u], []⟩) (fun _ R s => s.heap.get? l = some { cls := .type "tuple", dict := dd, data := .seq items n, slots := sl } ∧
      R (.ok (.ret (Value.ref s.heap.objs.size))) { s with heap := s.heap.push { cls := Value.type "tuple", data := Data.seq #[] } }) :=
  .of_wp fun prog w A R s h => by
    obtain ⟨hp, g, d, tk, os⟩ := s
    obtain ⟨hl, h⟩ := h
    have f1 := AutoSeq1.idx_int
    wp_walk using AutoSeq1.wpAny_loadPart' hl
    repeat (first
      | (refine wpAny_ite_false (decide_eq_false (by rw [c0]; exact Bool.false_ne_true)) ?_; wp_walk using AutoSeq1.wpAny_loadPart' hl)
      | (refine wpAny_ite_false (decide_eq_false (by rw [c1]; exact Bool.false_ne_true)) ?_; wp_walk using AutoSeq1.wpAny_loadPart' hl)
      | (refine wpAny_ite_true (decide_eq_true c2) ?_; wp_walk using AutoSeq1.wpAny_loadPart' hl))
    exact ⟨_, rfl, h⟩
section
variable {X : Cx}
/-- tuple * k: k = 1, or none of it -/
def rMulT (K : PySem.W.Frag) : R2 := fun x y H Q => ∃ l k xs, x = .ref l ∧ y = .int k ∧ SqT K H l xs ∧ -(2 ^ 62) ≤ k ∧ ((k = 1 ∧ Q (.ref l) H) ∨ (k ≤ 0 ∧ (xs = [] → Q (.ref l) H) ∧ ∀ p, H p = none → Q (.ref p) (upd H p (.tup []))))
theorem op_mulT : OpR X (binaryOp .Mult) (rMulT X.K) := by
  intro pins s σ H x y v u Q I rx ry h
  obtain ⟨l, k, xs, rfl, rfl, hT, h0, q⟩ := h
  cases rx
  obtain ⟨t, rfl⟩ := ry
  obtain ⟨its, r, ⟨⟨cls, dd, data, sl⟩, ho, hc, n, hd⟩, hs⟩ := I.tuple hT
  simp only at hc hd
  subst hc hd
  have hk : k ≤ 1 := by rcases q with ⟨e, _⟩ | ⟨e, _⟩ <;> omega
  have c0 : (decide (k < -(2 ^ 63)) || decide (k ≥ 2 ^ 63)) = false := by
    rw [decide_eq_false (by omega), decide_eq_false (by omega)] <;> rfl
  have road : ∀ {Q' : Value → Shared → Prop}, (wpAny (model X.prog X.w) X.A (call (.builtin "tuple.__mul__") [.ref l, .int k t]) Q' X.xe s) → wpAny (model X.prog X.w) X.A (binaryOp .Mult (.ref l) (.int k t)) Q' X.xe s := fun {Q'} z =>
    wpAny_binaryOp_repeat_ref (T := "tuple") (U := "int") (by decide) ⟨_, ho, rfl⟩ (fun s' => typeIs_int s' k t) noFill_tuple_mul F.fills_int_mul F.slot_int_rmul repeat_tuple F.slot_int_index.lookup
      (call_meets F.slot_int_rmul (typeIs_int s k t) F.entry_int_rmul (F.args_int_rmul_2 _ _) (int_rmul_tuple k t l its.toArray n dd sl) ⟨ho, rfl, ⟨_, ho, rfl⟩, z⟩)
  by_cases c1 : (its.toArray.isEmpty || k == 1) = true
  · refine road (call_meets F.slot_tuple_mul ⟨_, ho, rfl⟩ F.entry_tuple_mul (F.args_tuple_mul_2 _ _) (tmul_same l its.toArray n sl dd k t c0 c1) ⟨ho, ?_⟩)
    refine ⟨.ref l, H, I, rfl, ?_⟩
    rcases q with ⟨_, q⟩ | ⟨e, q, _⟩
    · exact q
    · have n1 : (k == 1) = false := beq_eq_false_iff_ne.mpr (by omega)
      rw [n1, Bool.or_false] at c1
      refine q (List.eq_nil_of_length_eq_zero ?_)
      rw [r.length]
      simpa using c1
  · have c1 : (its.toArray.isEmpty || k == 1) = false := by simpa using c1
    have n1 : (k == 1) = false := (Bool.or_eq_false_iff.mp c1).2
    rcases q with ⟨e, _⟩ | ⟨e, _, q⟩
    · exact absurd e (beq_eq_false_iff_ne.mp n1)
    · refine road (call_meets F.slot_tuple_mul ⟨_, ho, rfl⟩ F.entry_tuple_mul (F.args_tuple_mul_2 _ _) (tmul_none l its.toArray n sl dd k t c0 c1 (by rw [decide_eq_true e]; rfl)) ⟨ho, ?_⟩)
      exact ⟨.ref s.heap.objs.size, _, I.laid (t' := s.toks) (o := .tup []) (fun b ob q => Heap.get?_push_of_some _ q) (Nat.le_refl _) ⟨Nat.zero_le _, [], .nil, IsTup.new _ _⟩, rfl, q _ (I.hok.fresh (Nat.le_refl _))⟩
end
end Mi
set_option Elab.async false
set_option linter.all false
set_option maxRecDepth 100000
set_option maxHeartbeats 2000000
/-! Mi, part 4: the primitives, by the layer's rules. -/
namespace Mi
open PySem PySem.Spec PyProof.Rows L2
section
variable (K : PySem.W.Frag) (F : Hp) (ρ : List Addr) (M : MS) (H : Hp)
/-- a value comes out -/
def OutP (o : Option D) (Q : VK) : Prop := match o with
  | some d => ∀ v F' ρ' H', Stp F ρ H F' ρ' H' → SimM K F' ρ' M H' → Rep K F' ρ' v d → Q v H'
  | none => False
/-- a new object comes out, which nobody else holds -/
def OutF (c : Ct) (Q : VK) : Prop := ∀ p o F' ρ' H', Stp F ρ H F' ρ' H' → SimM K F' ρ' M H' → H' p = some o → CtR K F' ρ' o c → F' p = none → p ∉ ρ' → H p = none → Q (.ref p) H'
def OutFO (o : Option D) (Q : VK) : Prop := match o.bind ownO with
  | some c => OutF K F ρ M H c Q
  | none => False
end
section
variable {K : PySem.W.Frag} {F F' : Hp} {ρ ρ' : List Addr} {M : MS} {H H' : Hp} {Q : VK}
theorem ownO_d {d : D} {c : Ct} (h : ownO d = some c) : d = c.d := by
  cases d <;> cases h <;> rfl
theorem SimM.frz {p : Addr} {o : HO} (h : SimM K F ρ M H) (e : H p = some o) (f : F p = none) (n : p ∉ ρ) : SimM K (upd F p o) ρ M H := by
  have m : ∀ a u, F a = some u → upd F p o a = some u := fun a u e => by rw [upd_ne (ne_of_none e f)]; exact e
  refine ⟨fun a u q => ?_, h.len, h.nd, fun a ha => ?_, fun j a mo e1 e2 => ?_⟩
  · by_cases z : a = p
    · subst z; rw [upd_same] at q; rw [e]; exact q
    · rw [upd_ne z] at q; exact h.sub a u q
  · rw [upd_ne (fun z => n (by rw [← z]; exact ha))]; exact h.off a ha
  · cases h.obj j a mo e1 e2 with
    | cell g1 g2 => exact .cell g1 (g2.mono m (List.prefix_refl _))
theorem Stp.frz {p : Addr} {o : HO} (h : Stp F ρ H F' ρ' H') (f : F' p = none) (n : H p = none) : Stp F ρ H (upd F' p o) ρ' H' :=
  ⟨fun a u e => by rw [upd_ne (ne_of_none (h.mono a u e) f)]; exact h.mono a u e, h.pre, fun b u e nb => ⟨(h.keep b u e nb).1, by rw [upd_ne (ne_of_none e n)]; exact (h.keep b u e nb).2⟩, h.new⟩
theorem CtR.rep {p : Addr} {o : HO} {c : Ct} (r : CtR K F ρ o c) (f : F p = none) : Rep K (upd F p o) ρ (.ref p) c.d := by
  have m : ∀ a u, F a = some u → upd F p o a = some u := fun a u e => by rw [upd_ne (ne_of_none e f)]; exact e
  cases r with
  | lst r => exact .lst (.inl (.inl upd_same)) (r.mono m (List.prefix_refl _))
  | dct r => exact .dct upd_same (r.mono m (List.prefix_refl _))
/-- what is new may be left as it is -/
theorem OutP.fresh {o : Option D} (h : OutP K F ρ M H o Q) : ∀ c, o.bind ownO = some c → OutF K F ρ M H c Q := by
  intro c hc p ob F' ρ' H' st sm e r f n hn
  cases o with
  | none => cases hc
  | some d =>
    have ed := ownO_d (show ownO d = some c from hc)
    subst ed
    exact h (.ref p) (upd F' p ob) ρ' H' (st.frz f hn) (sm.frz e f n) (r.rep f)
/-- the simplest way: one object is laid -/
theorem OutF.laid {c : Ct} {o : HO} (h : OutF K F ρ M H c Q) (sm : SimM K F ρ M H) (r : CtR K F ρ o c) : ∀ p, H p = none → Q (.ref p) (upd H p o) := by
  intro p hp
  have hF : F p = none := by
    cases e : F p with
    | none => rfl
    | some u =>
      have := sm.sub p u e
      rw [hp] at this; cases this
  obtain ⟨s1, s2⟩ := sm.alloc (o := o) hp
  have nρ : p ∉ ρ := fun z => by
    obtain ⟨j, e⟩ := List.mem_iff_getElem?.mp z
    obtain ⟨hj, _⟩ := List.getElem?_eq_some_iff.mp e
    have hj' : j < M.length := by rw [← sm.len]; exact hj
    have q := sm.obj j p M[j] e (List.getElem?_eq_getElem hj')
    cases q' : M[j] with
    | cell c => rw [q'] at q; cases q with | cell e1 _ => rw [hp] at e1; cases e1
    | ins c fs => rw [q'] at q; cases q
  refine h p o F ρ (upd H p o) ⟨fun _ _ q => q, List.prefix_refl _, fun b u q _ => ⟨by rw [upd_ne (ne_of_none q hp)]; exact q, rfl⟩, fun b hb n => absurd hb n⟩ ⟨fun a u q => ?_, sm.len, sm.nd, sm.off, fun j a mo e1 e2 => ?_⟩ upd_same r hF nρ hp
  · rw [upd_ne (ne_of_none q hF)]; exact sm.sub a u q
  · cases sm.obj j a mo e1 e2 with
    | cell g1 g2 => exact .cell (by rw [upd_ne (ne_of_none g1 hp)]; exact g1) g2
/-- a value that is there already -/
theorem OutP.here {v : V} {d : D} (h : OutP K F ρ M H (some d) Q) (sm : SimM K F ρ M H) (r : Rep K F ρ v d) : Q v H := h v F ρ H .refl sm r
/-- a new tuple -/
theorem OutP.tup {vs : List V} {ds : List D} (h : OutP K F ρ M H (some (.tup ds)) Q) (sm : SimM K F ρ M H) (r : Reps K F ρ vs ds) : ∀ p, H p = none → Q (.ref p) (upd H p (.tup vs)) := by
  intro p hp
  obtain ⟨s1, s2⟩ := sm.alloc (o := .tup vs) hp
  exact h _ _ _ _ s2 s1 (.tup (.inl (.inl upd_same)) (s2.reps r))
theorem OutP.lst {vs : List V} {ds : List D} (h : OutP K F ρ M H (some (.lst ds)) Q) (sm : SimM K F ρ M H) (r : Reps K F ρ vs ds) : ∀ p, H p = none → Q (.ref p) (upd H p (.lst vs)) :=
  OutF.laid (h.fresh (.lst ds) rfl) sm (.lst r)
end

/-! ### values: what a rule asks -/
section
variable (K : PySem.W.Frag) (n : Nat) (p : P)
def rP1 : V → Hp → VK → Prop := fun x H Q => ∃ F ρ M d, SimM K F ρ M H ∧ Lk K F ρ H x d ∧ OutP K F ρ M H (pr n p [d]) Q
def rP2 : R2 := fun x y H Q => ∃ F ρ M d e, SimM K F ρ M H ∧ Lk K F ρ H x d ∧ Lk K F ρ H y e ∧ OutP K F ρ M H (pr n p [d, e]) Q
/-- a primitive that makes a new object -/
def rF1 : V → Hp → VK → Prop := fun x H Q => ∃ F ρ M d, SimM K F ρ M H ∧ Lk K F ρ H x d ∧ OutFO K F ρ M H (pr n p [d]) Q
def rF2 : R2 := fun x y H Q => ∃ F ρ M d e, SimM K F ρ M H ∧ Lk K F ρ H x d ∧ Lk K F ρ H y e ∧ OutFO K F ρ M H (pr n p [d, e]) Q
end
theorem limit_eq : limit = sizeLine := by
  rw [sizeLine_eq]
  rfl
section
variable {X : Cx} {n : Nat}
/-- list + list, of any kind -/
def rCatL (K : PySem.W.Frag) : R2 := fun x y H Q => ∃ l b xs zs, x = .ref l ∧ y = .ref b ∧ SqL K H l xs ∧ SqL K H b zs ∧ xs.length + zs.length ≤ sizeLine ∧ ∀ p, H p = none → Q (.ref p) (upd H p (.lst (xs ++ zs)))
theorem op_catL : OpR X (binaryOp .Add) (rCatL X.K) := by
  intro pins s σ H x y v u Q I rx ry h
  obtain ⟨l, b, xs, zs, rfl, rfl, hH, hB, hz, q⟩ := h
  cases rx
  cases ry
  obtain ⟨its, r, ⟨⟨c1, dd1, dt1, sl1⟩, n1, e1, k1, k2, k3⟩, _⟩ := I.list hH
  obtain ⟨its2, r2, ⟨⟨c2, dd2, dt2, sl2⟩, n2, e2, j1, j2, j3⟩, _⟩ := I.list hB
  simp only at k1 k2 k3 j1 j2 j3
  subst k1 k2 k3 j1 j2 j3
  have h1 := r.length
  have h2 := r2.length
  have ea : its.toArray ++ its2.toArray = (its ++ its2).toArray := by simp
  refine concat_meets ⟨_, e1, rfl⟩ ⟨_, e2, rfl⟩ noFill_list_add seq_list_add PySem.F.slot_list_add PySem.F.entry_list_add (PySem.F.args_list_add_2 _ _)
    (list_addW l b its.toArray its2.toArray n1 n2 none none sl1 sl2 (by rw [List.size_toArray, List.size_toArray]; omega)) ⟨e1, e2, ?_⟩
  rw [ea]
  exact ⟨.ref _, _, I.lnew (t' := s.toks) (r.append r2) (by rw [List.length_append]; omega), rfl, q _ I.fresh⟩

theorem add_ok : OpR X (binaryOp .Add) (rP2 X.K n .add) := by
  intro pins s σ H x y v u Q I rx ry h
  obtain ⟨F, ρ, M, d, e, sm, lx, ly, o⟩ := h
  cases d <;> cases e <;> first
    | exact (show False from o).elim
    | skip
  · cases lx.int; cases ly.bl
    exact op_add_ib pins s σ H _ _ v u Q I rx ry ⟨_, _, rfl, rfl, o.here sm (.int _)⟩
  · cases lx.int; cases ly.int
    exact op_add pins s σ H _ _ v u Q I rx ry ⟨_, _, rfl, rfl, o.here sm (.int _)⟩
  · cases lx.str; cases ly.str
    rename_i a b
    by_cases z : a.length + b.length ≤ limit
    · have o : OutP X.K F ρ M H (some (.str (a ++ b))) Q := by simpa only [pr, if_pos z] using o
      exact op_add_str pins s σ H _ _ v u Q I rx ry ⟨_, _, rfl, rfl, by rw [← limit_eq]; exact z, o.here sm (.str _)⟩
    · have o : OutP X.K F ρ M H none Q := by simpa only [pr, if_neg z] using o
      exact (show False from o).elim
  · rename_i a b
    by_cases z : a.length + b.length ≤ limit
    · have o : OutP X.K F ρ M H (some (.tup (a ++ b))) Q := by simpa only [pr, if_pos z] using o
      obtain ⟨t, vs, rfl, q1, r1⟩ := lx.tup sm
      obtain ⟨t2, ws, rfl, q2, r2⟩ := ly.tup sm
      refine op_catA pins s σ H _ _ v u Q I rx ry ⟨t, t2, vs, ws, rfl, rfl, q1, q2, by rw [r1.length, r2.length, ← limit_eq]; exact z, fun e => ?_, fun _ e => ?_, fun _ _ => o.tup sm (r1.append r2)⟩
      · subst e
        cases r1
        exact o.here sm (ly.value rfl)
      · subst e
        cases r2
        rw [List.append_nil] at o
        exact o.here sm (lx.value rfl)
    · have o : OutP X.K F ρ M H none Q := by simpa only [pr, if_neg z] using o
      exact (show False from o).elim
  · rename_i a b
    by_cases z : a.length + b.length ≤ limit
    · have o : OutP X.K F ρ M H (some (.lst (a ++ b))) Q := by simpa only [pr, if_pos z] using o
      obtain ⟨t, vs, rfl, q1, r1⟩ := lx.lst sm
      obtain ⟨t2, ws, rfl, q2, r2⟩ := ly.lst sm
      exact op_catL pins s σ H _ _ v u Q I rx ry ⟨t, t2, vs, ws, rfl, rfl, q1, q2, by rw [r1.length, r2.length, ← limit_eq]; exact z, o.lst sm (r1.append r2)⟩
    · have o : OutP X.K F ρ M H none Q := by simpa only [pr, if_neg z] using o
      exact (show False from o).elim

theorem sub_ok : OpR X (binaryOp .Sub) (rP2 X.K n .sub) := by
  intro pins s σ H x y v u Q I rx ry h
  obtain ⟨F, ρ, M, d, e, sm, lx, ly, o⟩ := h
  cases d <;> cases e <;> first
    | exact (show False from o).elim
    | skip
  cases lx.int; cases ly.int
  exact op_sub pins s σ H _ _ v u Q I rx ry ⟨_, _, rfl, rfl, o.here sm (.int _)⟩
theorem bitsLine_eq : bitsLine = 134217728 := by decide
theorem mulOk_ok {a b : Int} (h : mulOk a b = true) : IntMulOk a b := by
  unfold mulOk at h
  simp only [Bool.or_eq_true, decide_eq_true_eq] at h
  rcases h with (h | h) | h
  · unfold IntMulOk
    intro z
    rw [Bool.and_eq_true] at z
    have z2 := z.2
    unfold Builtin.Int.intTooBig at z2
    have z3 := of_decide_eq_true z2
    rw [bitsLine_eq] at z3
    omega
  · exact .of_left h
  · exact .of_right h
theorem mul_ok : OpR X (binaryOp .Mult) (rP2 X.K n .mul) := by
  intro pins s σ H x y v u Q I rx ry h
  obtain ⟨F, ρ, M, d, e, sm, lx, ly, o⟩ := h
  cases d <;> cases e <;> first
    | exact (show False from o).elim
    | skip
  · rename_i a b
    cases lx.int; cases ly.int
    obtain ⟨t, rfl⟩ := rx
    obtain ⟨t', rfl⟩ := ry
    by_cases z : mulOk a b = true
    · have o : OutP X.K F ρ M H (some (.int (a * b))) Q := by simpa only [pr, if_pos z] using o
      exact PyProof.Rows.mul_int ⟨.int (a * b), H, I.tok _, ⟨_, rfl⟩, o.here sm (.int _)⟩ (mulOk_ok z)
    · have o : OutP X.K F ρ M H none Q := by simpa only [pr, if_neg z] using o
      exact (show False from o).elim
  · rename_i ds k
    obtain ⟨a, vs, rfl, h1, h2⟩ := lx.tup sm
    cases ly.int
    have o : OutP X.K F ρ M H (if k = 0 then some (.tup []) else if k = 1 then some (.tup ds) else none) Q := o
    refine op_mulT pins s σ H _ _ v u Q I rx ry ⟨a, k, vs, rfl, rfl, h1, ?_, ?_⟩
    · by_cases z : k = 0
      · omega
      · by_cases z1 : k = 1
        · omega
        · simp only [if_neg z, if_neg z1] at o
          exact (show False from o).elim
    · by_cases z : k = 0
      · simp only [if_pos z] at o
        refine .inr ⟨by omega, fun e => ?_, o.tup sm .nil⟩
        have ed : ds = [] := by
          have := h2.length
          rw [e] at this
          exact List.eq_nil_of_length_eq_zero this.symm
        exact o.here sm (ed ▸ lx.value rfl)
      · by_cases z1 : k = 1
        · simp only [if_neg z, if_pos z1] at o
          exact .inl ⟨z1, o.here sm (lx.value rfl)⟩
        · simp only [if_neg z, if_neg z1] at o
          exact (show False from o).elim
theorem fdiv_ok : OpR X (binaryOp .FloorDiv) (rP2 X.K n .fdiv) := by
  intro pins s σ H x y v u Q I rx ry h
  obtain ⟨F, ρ, M, d, e, sm, lx, ly, o⟩ := h
  cases d <;> cases e <;> first
    | exact (show False from o).elim
    | skip
  rename_i a b
  cases lx.int; cases ly.int
  obtain ⟨t, rfl⟩ := rx
  obtain ⟨t', rfl⟩ := ry
  by_cases z : divOk a b = true
  · have o : OutP X.K F ρ M H (some (.int (a / b))) Q := by simpa only [pr, if_pos z] using o
    unfold divOk at z
    simp only [Bool.and_eq_true, decide_eq_true_eq] at z
    refine floordiv_int (by omega) ?_ (.inl (PyProof.noPylong_of_log2 z.2))
    rw [Int.fdiv_eq_ediv_of_nonneg a (by omega)]
    exact ⟨.int (a / b), H, I.tok _, ⟨_, rfl⟩, o.here sm (.int _)⟩
  · have o : OutP X.K F ρ M H none Q := by simpa only [pr, if_neg z] using o
    exact (show False from o).elim
theorem mod_ok : OpR X (binaryOp .Mod) (rP2 X.K n .mod) := by
  intro pins s σ H x y v u Q I rx ry h
  obtain ⟨F, ρ, M, d, e, sm, lx, ly, o⟩ := h
  cases d <;> cases e <;> first
    | exact (show False from o).elim
    | skip
  rename_i a b
  cases lx.int; cases ly.int
  by_cases z : 0 < b
  · have o : OutP X.K F ρ M H (some (.int (a % b))) Q := by simpa only [pr, if_pos z] using o
    exact op_mod pins s σ H _ _ v u Q I rx ry ⟨_, _, rfl, rfl, z, o.here sm (.int _)⟩
  · have o : OutP X.K F ρ M H none Q := by simpa only [pr, if_neg z] using o
    exact (show False from o).elim
theorem pow_ok : OpR X (binaryOp .Pow) (rP2 X.K n .pow) := by
  intro pins s σ H x y v u Q I rx ry h
  obtain ⟨F, ρ, M, d, e, sm, lx, ly, o⟩ := h
  cases d <;> cases e <;> first
    | exact (show False from o).elim
    | skip
  rename_i a b
  cases lx.int; cases ly.int
  by_cases z : 0 ≤ b ∧ b ≤ 1000 ∧ a.natAbs < 2 ^ 64
  · have o : OutP X.K F ρ M H (some (.int (a ^ b.toNat))) Q := by simpa only [pr, if_pos z] using o
    exact op_pow pins s σ H _ _ v u Q I rx ry ⟨_, _, rfl, rfl, ⟨z.1, by omega, z.2.2⟩, o.here sm (.int _)⟩
  · have o : OutP X.K F ρ M H none Q := by simpa only [pr, if_neg z] using o
    exact (show False from o).elim
theorem neg_ok : UnR X (unaryOp .USub) (rP1 X.K n .neg) := by
  intro pins s σ H x v Q I rx h
  obtain ⟨F, ρ, M, d, sm, lx, o⟩ := h
  cases d <;> first
    | exact (show False from o).elim
    | skip
  cases lx.int
  exact un_neg pins s σ H _ v Q I rx ⟨_, rfl, o.here sm (.int _)⟩

/-! ### equality -/
mutual
theorem Rep.dp {K : PySem.W.Frag} {F : Hp} {ρ : List Addr} {H : Hp} (m : ∀ a o, F a = some o → H a = some o) : ∀ {d : D} {v : V}, d.plain = true → Rep K F ρ v d → Dp K H v d.py
  | .non, _, _, r => by cases r; exact .non
  | .bl b, _, _, r => by cases r; exact .bl b
  | .int i, _, _, r => by cases r; exact .int i
  | .str x, _, _, r => by cases r; exact .str x
  | .tup ds, _, h, r => by cases r with | tup q r => exact .tup (sqT_mono q m) (Reps.dp m h r)
  | .lst ds, _, h, r => by cases r with | lst q r => exact .lst (sqL_mono q m) (Reps.dp m h r)
  | .dct _, _, h, _ => by cases h
  | .ref _, _, h, _ => by cases h
theorem Reps.dp {K : PySem.W.Frag} {F : Hp} {ρ : List Addr} {H : Hp} (m : ∀ a o, F a = some o → H a = some o) : ∀ {ds : List D} {vs : List V}, D.plains ds = true → Reps K F ρ vs ds → DpAll K H vs (D.pys ds)
  | [], _, _, r => by cases r; exact .nil
  | d :: ds, _, h, r => by
    cases r with
    | cons a b =>
      have h2 := Bool.and_eq_true_iff.mp (show (d.plain && D.plains ds) = true from h)
      exact .cons (Rep.dp m h2.1 a) (Reps.dp m h2.2 b)
end
theorem Lk.dp {K : PySem.W.Frag} {F : Hp} {ρ : List Addr} {M : MS} {H : Hp} {v : V} {d : D} (l : Lk K F ρ H v d) (sm : SimM K F ρ M H) (h : d.plain = true) : Dp K H v d.py := by
  cases l with
  | rep r => exact r.dp sm.sub h
  | @ct a o c g1 g2 =>
    cases g2 with
    | lst r => exact .lst (.inl (.inl g1)) (Reps.dp sm.sub h r)
    | dct r => cases h
mutual
theorem canLay_py : ∀ d : D, d.plain = true → d.py.canLay0 = true
  | .non, _ => rfl
  | .bl _, _ => rfl
  | .int _, _ => rfl
  | .str _, h => h
  | .tup ds, h => by show PyData.canLay0 (.tuple (D.pys ds)) = true; simp only [PyData.canLay0]; exact canLays_py ds h
  | .lst ds, h => by show PyData.canLay0 (.list (D.pys ds)) = true; simp only [PyData.canLay0]; exact canLays_py ds h
  | .dct _, h => nomatch h
  | .ref _, h => nomatch h
theorem canLays_py : ∀ ds : List D, D.plains ds = true → PyData.canLayAll0 (D.pys ds) = true
  | [], _ => rfl
  | d :: ds, h => by
    have h2 := Bool.and_eq_true_iff.mp (show (d.plain && D.plains ds) = true from h)
    show PyData.canLayAll0 (d.py :: D.pys ds) = true
    simp only [PyData.canLayAll0, canLay_py d h2.1, canLays_py ds h2.2]
    rfl
end
section
variable {X : Cx} {n : Nat}
theorem eq_ok (room : X.A.units + 16 * n + 152 < cLine) : OpR X (compareOp .Eq) (rP2 X.K n .eq) := by
  intro pins s σ H x y v u Q I rx ry h
  obtain ⟨F, ρ, M, d, e, sm, lx, ly, o⟩ := h
  have o : OutP X.K F ρ M H ((eqO n d e).map .bl) Q := o
  unfold eqO at o
  split at o
  · rename_i c
    obtain ⟨c1, c2, c3⟩ := c
    obtain ⟨as, r1⟩ := Dp.reads I d.py x v (lx.dp sm c1) rx
    obtain ⟨bs, r2⟩ := Dp.reads I e.py y u (ly.dp sm c2) ry
    have c3 := of_decide_eq_true (show decide (min d.py.depth e.py.depth ≤ 16 * n + 150) = true from c3)
    exact SeqAt.compareEq_reads r1 r2 (canLay_py d c1) (canLay_py e c2) (by omega) ⟨.bl _, H, I, rfl, o.here sm (.bl _)⟩
  · exact (show False from o).elim
theorem ne_ok (room : X.A.units + 16 * n + 152 < cLine) : OpR X (compareOp .NotEq) (rP2 X.K n .ne) := by
  intro pins s σ H x y v u Q I rx ry h
  obtain ⟨F, ρ, M, d, e, sm, lx, ly, o⟩ := h
  have o : OutP X.K F ρ M H ((eqO n d e).map fun x => .bl (!x)) Q := o
  unfold eqO at o
  split at o
  · rename_i c
    obtain ⟨c1, c2, c3⟩ := c
    obtain ⟨as, r1⟩ := Dp.reads I d.py x v (lx.dp sm c1) rx
    obtain ⟨bs, r2⟩ := Dp.reads I e.py y u (ly.dp sm c2) ry
    have c3 := of_decide_eq_true (show decide (min d.py.depth e.py.depth ≤ 16 * n + 150) = true from c3)
    exact SeqAt.compareNe_reads r1 r2 (canLay_py d c1) (canLay_py e c2) (by omega) ⟨.bl _, H, I, rfl, o.here sm (.bl _)⟩
  · exact (show False from o).elim
theorem any_py (d : D) : ∀ xs : List D, ((D.pys xs).any fun y => PyData.eqv y d.py) = xs.any fun x => x.eqb d
  | [] => rfl
  | x :: xs => by
    show ((x.py :: D.pys xs).any fun y => PyData.eqv y d.py) = _
    rw [List.any_cons, List.any_cons, any_py d xs]
    rfl
theorem Lk.dps {K : PySem.W.Frag} {F : Hp} {ρ : List Addr} {M : MS} {H : Hp} {v : V} {d : List D} (l : Lk K F ρ H v (.lst d)) (sm : SimM K F ρ M H) (h : D.plains d = true) : Dp K H v (.list (D.pys d)) := l.dp sm h
theorem Lk.dpt {K : PySem.W.Frag} {F : Hp} {ρ : List Addr} {M : MS} {H : Hp} {v : V} {d : List D} (l : Lk K F ρ H v (.tup d)) (sm : SimM K F ρ M H) (h : D.plains d = true) : Dp K H v (.tuple (D.pys d)) := l.dp sm h
theorem in_ok (room : X.A.units + 16 * n + 152 < cLine) : OpR X (compareOp .In) (rP2 X.K n .inn) := by
  intro pins s σ H x y v u Q I rx ry h
  obtain ⟨F, ρ, M, d, e, sm, lx, ly, o⟩ := h
  cases e with
  | lst es =>
    have o : OutP X.K F ρ M H ((inO n d es).map .bl) Q := o
    unfold inO at o
    split at o
    · rename_i c
      obtain ⟨c1, c2, c3⟩ := c
      obtain ⟨as, r1⟩ := Dp.reads I d.py x v (lx.dp sm c2) rx
      obtain ⟨bs, r2⟩ := Dp.reads I (.list (D.pys es)) y u (ly.dps sm c1) ry
      have c3 := of_decide_eq_true c3
      refine SeqAt.in_list_reads r2 r1 (canLays_py es c1) (canLay_py d c2) (by omega) ⟨.bl _, H, I, rfl, ?_⟩
      rw [any_py]
      exact o.here sm (.bl _)
    · exact (show False from o).elim
  | tup es =>
    have o : OutP X.K F ρ M H ((inO n d es).map .bl) Q := o
    unfold inO at o
    split at o
    · rename_i c
      obtain ⟨c1, c2, c3⟩ := c
      obtain ⟨as, r1⟩ := Dp.reads I d.py x v (lx.dp sm c2) rx
      obtain ⟨bs, r2⟩ := Dp.reads I (.tuple (D.pys es)) y u (ly.dpt sm c1) ry
      have c3 := of_decide_eq_true c3
      refine SeqAt.in_tuple_reads r2 r1 (canLays_py es c1) (canLay_py d c2) (by omega) ⟨.bl _, H, I, rfl, ?_⟩
      rw [any_py]
      exact o.here sm (.bl _)
    · exact (show False from o).elim
  | dct kvs =>
    have o : OutP X.K F ρ M H ((keyO d).map fun k => .bl (getD kvs k).isSome) Q := o
    cases hk : keyO d with
    | none => rw [hk] at o; exact (show False from o).elim
    | some k =>
      rw [hk] at o
      have e1 := lx.key hk
      subst e1
      obtain ⟨a, ks, rfl, g, r⟩ := ly.dct sm
      cases ry
      refine d_in (by omega) I (DGet.k g) rx fun s' I' => ⟨.bl _, H, I', rfl, ?_⟩
      have e2 : (valV ks k).isSome = (getD kvs k).isSome := by
        rcases r.find k with ⟨h1, h2⟩ | ⟨_, _, h1, h2, _⟩ <;> rw [h1, h2] <;> rfl
      rw [e2]
      exact o.here sm (.bl _)
  | _ => exact (show False from by cases d <;> exact o).elim
theorem nin_ok (room : X.A.units + 16 * n + 152 < cLine) : OpR X (compareOp .NotIn) (rP2 X.K n .nin) := by
  intro pins s σ H x y v u Q I rx ry h
  obtain ⟨F, ρ, M, d, e, sm, lx, ly, o⟩ := h
  cases e with
  | lst es =>
    have o : OutP X.K F ρ M H ((inO n d es).map fun x => .bl (!x)) Q := o
    unfold inO at o
    split at o
    · rename_i c
      obtain ⟨c1, c2, c3⟩ := c
      obtain ⟨as, r1⟩ := Dp.reads I d.py x v (lx.dp sm c2) rx
      obtain ⟨bs, r2⟩ := Dp.reads I (.list (D.pys es)) y u (ly.dps sm c1) ry
      have c3 := of_decide_eq_true c3
      refine SeqAt.notIn_list_reads r2 r1 (canLays_py es c1) (canLay_py d c2) (by omega) ⟨.bl _, H, I, rfl, ?_⟩
      rw [any_py]
      exact o.here sm (.bl _)
    · exact (show False from o).elim
  | tup es =>
    have o : OutP X.K F ρ M H ((inO n d es).map fun x => .bl (!x)) Q := o
    unfold inO at o
    split at o
    · rename_i c
      obtain ⟨c1, c2, c3⟩ := c
      obtain ⟨as, r1⟩ := Dp.reads I d.py x v (lx.dp sm c2) rx
      obtain ⟨bs, r2⟩ := Dp.reads I (.tuple (D.pys es)) y u (ly.dpt sm c1) ry
      have c3 := of_decide_eq_true c3
      refine SeqAt.notIn_tuple_reads r2 r1 (canLays_py es c1) (canLay_py d c2) (by omega) ⟨.bl _, H, I, rfl, ?_⟩
      rw [any_py]
      exact o.here sm (.bl _)
    · exact (show False from o).elim
  | dct kvs =>
    have o : OutP X.K F ρ M H ((keyO d).map fun k => .bl (!(getD kvs k).isSome)) Q := o
    cases hk : keyO d with
    | none => rw [hk] at o; exact (show False from o).elim
    | some k =>
      rw [hk] at o
      have e1 := lx.key hk
      subst e1
      obtain ⟨a, ks, rfl, g, r⟩ := ly.dct sm
      cases ry
      refine d_notIn (by omega) I (DGet.k g) rx fun s' I' => ⟨.bl _, H, I', rfl, ?_⟩
      have e2 : (valV ks k).isSome = (getD kvs k).isSome := by
        rcases r.find k with ⟨h1, h2⟩ | ⟨_, _, h1, h2, _⟩ <;> rw [h1, h2] <;> rfl
      rw [e2]
      exact o.here sm (.bl _)
  | _ => exact (show False from by cases d <;> exact o).elim

/-! ### order, is -/
theorem ord_ok {op : CmpOp} {p : P} {g : Int → Int → Bool} (h0 : OpR X (compareOp op) (rI0 fun i j => .bl (g i j))) (h1 : ∀ a b, pr n p [.int a, .int b] = some (.bl (g a b)))
    (h2 : ∀ d e, (∀ a b, ¬ (d = .int a ∧ e = .int b)) → pr n p [d, e] = none) : OpR X (compareOp op) (rP2 X.K n p) := by
  intro pins s σ H x y v u Q I rx ry h
  obtain ⟨F, ρ, M, d, e, sm, lx, ly, o⟩ := h
  by_cases z : ∃ a b, d = .int a ∧ e = .int b
  · obtain ⟨a, b, rfl, rfl⟩ := z
    rw [h1] at o
    cases lx.int; cases ly.int
    exact h0 pins s σ H _ _ v u Q I rx ry ⟨_, _, rfl, rfl, o.here sm (.bl _)⟩
  · rw [h2 d e fun a b c => z ⟨a, b, c⟩] at o
    exact (show False from o).elim
theorem lt_ok : OpR X (compareOp .Lt) (rP2 X.K n .lt) := ord_ok op_lt (fun _ _ => rfl) fun d e h => by
  cases d <;> cases e <;> first | rfl | exact absurd ⟨rfl, rfl⟩ (h _ _)
theorem le_ok : OpR X (compareOp .LtE) (rP2 X.K n .le) := ord_ok op_le (fun _ _ => rfl) fun d e h => by
  cases d <;> cases e <;> first | rfl | exact absurd ⟨rfl, rfl⟩ (h _ _)
theorem gt_ok : OpR X (compareOp .Gt) (rP2 X.K n .gt) := ord_ok op_gt (fun _ _ => rfl) fun d e h => by
  cases d <;> cases e <;> first | rfl | exact absurd ⟨rfl, rfl⟩ (h _ _)
theorem ge_ok : OpR X (compareOp .GtE) (rP2 X.K n .ge) := ord_ok op_ge (fun _ _ => rfl) fun d e h => by
  cases d <;> cases e <;> first | rfl | exact absurd ⟨rfl, rfl⟩ (h _ _)
theorem Lk.non_iff {K : PySem.W.Frag} {F : Hp} {ρ : List Addr} {H : Hp} {v : V} {d : D} (l : Lk K F ρ H v d) : decide (v = .non) = match d with | .non => true | _ => false := by
  cases l with
  | rep r => cases r <;> rfl
  | @ct a o c g1 g2 => cases c <;> rfl
theorem isn_ok : OpR X (compareOp .Is) (fun x y H Q => y = .non ∧ rP1 X.K n .isn x H Q) := by
  intro pins s σ H x y v u Q I rx ry h
  obtain ⟨rfl, F, ρ, M, d, sm, lx, o⟩ := h
  refine op_isN pins s σ H x _ v u Q I rx ry ⟨rfl, ?_⟩
  rw [lx.non_iff]
  cases d <;> exact o.here sm (.bl _)
theorem isnn_ok : OpR X (compareOp .IsNot) (fun x y H Q => y = .non ∧ rP1 X.K n .isnn x H Q) := by
  intro pins s σ H x y v u Q I rx ry h
  obtain ⟨rfl, F, ρ, M, d, sm, lx, o⟩ := h
  refine op_notN pins s σ H x _ v u Q I rx ry ⟨rfl, ?_⟩
  rw [lx.non_iff]
  cases d <;> exact o.here sm (.bl _)
theorem isB_ok : OpR X (compareOp .Is) (fun x y H Q => ∃ b, y = .bl b ∧ rP1 X.K n (.isB b) x H Q) := by
  intro pins s σ H x y v u Q I rx ry h
  obtain ⟨b, rfl, F, ρ, M, d, sm, lx, o⟩ := h
  cases d <;> first
    | exact (show False from o).elim
    | skip
  cases lx.bl
  exact op_is_bl pins s σ H _ _ v u Q I rx ry ⟨_, _, rfl, rfl, o.here sm (.bl _)⟩
theorem isnB_ok : OpR X (compareOp .IsNot) (fun x y H Q => ∃ b, y = .bl b ∧ rP1 X.K n (.isnB b) x H Q) := by
  intro pins s σ H x y v u Q I rx ry h
  obtain ⟨b, rfl, F, ρ, M, d, sm, lx, o⟩ := h
  cases d <;> first
    | exact (show False from o).elim
    | skip
  cases lx.bl
  exact op_isnot_bl pins s σ H _ _ v u Q I rx ry ⟨_, _, rfl, rfl, o.here sm (.bl _)⟩
end
end
end Mi
set_option Elab.async false
set_option linter.all false
set_option maxRecDepth 100000
set_option maxHeartbeats 2000000
/-! Mi, part 5: subscripts, slices, built-in functions. -/
namespace Mi
open PySem PySem.Spec PyProof.Rows L2
section
variable {X : Cx} {n : Nat}
theorem atI_map {K : PySem.W.Frag} {F : Hp} {ρ : List Addr} {vs : List V} {ds : List D} {i : Int} {d : D} (r : Reps K F ρ vs ds) (h : atI ds i = some d) : ∃ v, atI vs i = some v ∧ Rep K F ρ v d := by
  unfold atI at h ⊢
  rw [r.length]
  cases e : ixN ds.length i with
  | none => rw [e] at h; cases h
  | some j =>
    rw [e] at h
    obtain ⟨v, h1, h2⟩ := r.get (show ds[j]? = some d from h)
    exact ⟨v, h1, h2⟩
theorem item_ok (room : X.A.units + 152 < cLine) : IxR X (rP2 X.K n .item) := by
  intro value slice pins s σ H x y v u Q I rx ry h hs
  obtain ⟨F, ρ, M, d, e, sm, lx, ly, o⟩ := h
  cases d with
  | lst ds =>
    cases e with
    | int i =>
      cases ly.int
      have o : OutP X.K F ρ M H (atI ds i) Q := o
      obtain ⟨a, vs, rfl, q, r⟩ := lx.lst sm
      cases e1 : atI ds i with
      | none => rw [e1] at o; exact (show False from o).elim
      | some d =>
        rw [e1] at o
        obtain ⟨z, e2, r2⟩ := atI_map r e1
        exact ix_list value slice pins s σ H _ _ v u Q I rx ry ⟨a, vs, i, z, rfl, rfl, q, e2, o.here sm r2⟩ hs
    | _ => exact (show False from o).elim
  | tup ds =>
    cases e with
    | int i =>
      cases ly.int
      have o : OutP X.K F ρ M H (atI ds i) Q := o
      obtain ⟨a, vs, rfl, q, r⟩ := lx.tup sm
      cases e1 : atI ds i with
      | none => rw [e1] at o; exact (show False from o).elim
      | some d =>
        rw [e1] at o
        obtain ⟨z, e2, r2⟩ := atI_map r e1
        exact ix_tup value slice pins s σ H _ _ v u Q I rx ry ⟨a, vs, i, z, rfl, rfl, q, e2, o.here sm r2⟩ hs
    | _ => exact (show False from o).elim
  | dct kvs =>
    have o : OutP X.K F ρ M H ((keyO e).bind (getD kvs)) Q := o
    cases hk : keyO e with
    | none => rw [hk] at o; exact (show False from o).elim
    | some k =>
      rw [hk] at o
      have e1 := ly.key hk
      subst e1
      obtain ⟨a, ks, rfl, g, r⟩ := lx.dct sm
      cases rx
      rcases r.find k with ⟨h1, h2⟩ | ⟨z, d, h1, h2, h3⟩
      · rw [show (some k).bind (getD kvs) = none from h1] at o
        exact (show False from o).elim
      · rw [show (some k).bind (getD kvs) = some d from h1] at o
        have g' : DGet H a (kV k) (some z) := by rw [← h2]; exact DGet.k g
        exact tail_any (ops := [.ref a, u]) (dict_typeIs I g') PySem.F.slot_dict_getitem.lookup (d_getItem (by omega) I g' ry fun w' s' I' rw' => ⟨z, H, I', rw', o.here sm h3⟩) hs
  | _ => exact (show False from by cases e <;> exact o).elim

theorem reps_cut {K : PySem.W.Frag} {F : Hp} {ρ : List Addr} {vs : List V} {ds : List D} (r : Reps K F ρ vs ds) (lo hi : Option Int) : Reps K F ρ (cutV vs lo hi) (cut ds lo hi) := by
  unfold cutV cut
  rw [r.length]
  exact (r.drop _).take _
theorem cut_whole {ds : List D} {lo hi : Option Int} (h : HT.sIx ds.length 0 lo = 0 ∧ HT.sIx ds.length ds.length hi = ds.length) : cut ds lo hi = ds := by
  unfold cut
  rw [h.1, h.2]
  simp
/-- x[lo:hi] -/
def rSl (K : PySem.W.Frag) : V → Option Int → Option Int → Hp → VK → Prop := fun x lo hi H Q => ∃ F ρ M d, SimM K F ρ M H ∧ Lk K F ρ H x d ∧ OutP K F ρ M H (cutO d lo hi) Q
theorem slice_ok : SlR X (rSl X.K) := by
  intro pins s σ H x v vl vu lo hi sl Q I rx hs pl pu h
  obtain ⟨F, ρ, M, d, sm, lx, o⟩ := h
  cases d with
  | lst ds =>
    obtain ⟨a, vs, rfl, q, r⟩ := lx.lst sm
    exact sl_list pins s σ H _ v vl vu lo hi sl Q I rx hs pl pu ⟨a, vs, rfl, q, OutP.lst o sm (reps_cut r lo hi)⟩
  | tup ds =>
    obtain ⟨a, vs, rfl, q, r⟩ := lx.tup sm
    refine sl_tupA pins s σ H _ v vl vu lo hi sl Q I rx hs pl pu ⟨a, vs, rfl, q, fun hw => ?_, fun _ => OutP.tup o sm (reps_cut r lo hi)⟩
    rw [r.length] at hw
    have o : OutP X.K F ρ M H (some (.tup (cut ds lo hi))) Q := o
    rw [cut_whole hw] at o
    exact o.here sm (lx.value rfl)
  | _ => exact (show False from o).elim

/-! ### built-in functions: of a list of looked-at operands -/
inductive Lks (K : PySem.W.Frag) (F : Hp) (ρ : List Addr) (H : Hp) : List V → List D → Prop
  | nil : Lks K F ρ H [] []
  | cons {v : V} {vs : List V} {d : D} {ds : List D} : Lk K F ρ H v d → Lks K F ρ H vs ds → Lks K F ρ H (v :: vs) (d :: ds)
def rPn (K : PySem.W.Frag) (n : Nat) (p : P) : List V → Hp → VK → Prop := fun xs H Q => ∃ F ρ M ds, SimM K F ρ M H ∧ Lks K F ρ H xs ds ∧ OutP K F ρ M H (pr n p ds) Q
theorem len_ok : CallR X (.builtin "len") (rPn X.K n .len) := by
  intro pins s σ H xs us Q I rs h
  obtain ⟨F, ρ, M, ds, sm, ls, o⟩ := h
  cases ls with
  | nil => exact (show False from o).elim
  | @cons v vs d ds l ls =>
    cases ls with
    | cons l2 ls2 => exact (show False from by cases d <;> exact o).elim
    | nil =>
      cases d with
      | lst ds =>
        obtain ⟨a, vs, rfl, q, r⟩ := l.lst sm
        exact call_len_seq pins s σ H _ us Q I rs ⟨a, vs, rfl, .inl q, by rw [r.length]; exact OutP.here o sm (.int _)⟩
      | tup ds =>
        obtain ⟨a, vs, rfl, q, r⟩ := l.tup sm
        exact call_len_seq pins s σ H _ us Q I rs ⟨a, vs, rfl, .inr q, by rw [r.length]; exact OutP.here o sm (.int _)⟩
      | dct kvs =>
        obtain ⟨a, ks, rfl, g, r⟩ := l.dct sm
        obtain ⟨u, rfl, rx⟩ := vals1 rs
        cases rx
        exact d_len I (.inl g) fun t s' I' => ⟨.int kvs.length, H, I', ⟨t, by rw [r.length]⟩, OutP.here o sm (.int _)⟩
      | _ => exact (show False from o).elim
theorem tuple_ok : CallR X (.type "tuple") (rPn X.K n .tupleOf) := by
  intro pins s σ H xs us Q I rs h
  obtain ⟨F, ρ, M, ds, sm, ls, o⟩ := h
  cases ls with
  | nil => exact (show False from o).elim
  | @cons v vs d ds l ls =>
    cases ls with
    | cons l2 ls2 => exact (show False from by cases d <;> exact o).elim
    | nil =>
      cases d with
      | lst ds =>
        obtain ⟨a, vs, rfl, q, r⟩ := l.lst sm
        exact call_tuple_of pins s σ H _ us Q I rs ⟨a, vs, rfl, .inl ⟨q, OutP.tup o sm r⟩⟩
      | tup ds =>
        have lv := l.value rfl
        obtain ⟨a, vs, rfl, q, r⟩ := l.tup sm
        exact call_tuple_of pins s σ H _ us Q I rs ⟨a, vs, rfl, .inr ⟨q, OutP.here o sm lv⟩⟩
      | _ => exact (show False from o).elim
theorem list_ok (hc : X.calm = true) : CallR X (.type "list") (rPn X.K n .listOf) := by
  intro pins s σ H xs us Q I rs h
  obtain ⟨F, ρ, M, ds, sm, ls, o⟩ := h
  cases ls with
  | nil => exact (show False from o).elim
  | @cons v vs d ds l ls =>
    cases ls with
    | cons l2 ls2 => exact (show False from by cases d <;> exact o).elim
    | nil =>
      cases d with
      | lst ds =>
        obtain ⟨a, vs, rfl, q, r⟩ := l.lst sm
        exact call_list_of pins s σ H _ us Q I rs ⟨a, vs, rfl, .inl q, OutP.lst o sm r⟩
      | tup ds =>
        obtain ⟨a, vs, rfl, q, r⟩ := l.tup sm
        exact call_list_of pins s σ H _ us Q I rs ⟨a, vs, rfl, .inr q, OutP.lst o sm r⟩
      | dct kvs =>
        obtain ⟨a, ks, rfl, g, r⟩ := l.dct sm
        refine call_list_dK hc pins s σ H _ us Q I rs ⟨a, ks, rfl, g, OutP.lst o sm ?_⟩
        have e1 : (ks.map fun kv => kV kv.1) = (kvs.map (·.1)).map kV := by rw [← r.keys, List.map_map]; rfl
        have e2 : (kvs.map fun kv => keyD kv.1) = (kvs.map (·.1)).map keyD := by rw [List.map_map]; rfl
        rw [e1, e2]
        exact reps_keys _
      | _ => exact (show False from o).elim
theorem rev_list_ok : CallR X (.type "list") (fun xs H Q => False) := fun _ _ _ _ _ _ _ _ _ h => h.elim
theorem all_ok (hc : X.calm = true) : CallR X (.builtin "all") (rPn X.K n .all) := by
  intro pins s σ H xs us Q I rs h
  obtain ⟨F, ρ, M, ds, sm, ls, o⟩ := h
  cases ls with
  | nil => exact (show False from o).elim
  | @cons v vs d ds l ls =>
    cases ls with
    | cons l2 ls2 => exact (show False from by cases d <;> exact o).elim
    | nil =>
      cases d with
      | lst ds =>
        obtain ⟨a, vs, rfl, q, r⟩ := l.lst sm
        have o : OutP X.K F ρ M H ((boolsO ds).map fun bs => .bl (bs.all id)) Q := o
        cases e : boolsO ds with
        | none => rw [e] at o; exact (show False from o).elim
        | some bs =>
          rw [e] at o
          have e2 := r.bools e
          subst e2
          exact cr_all hc pins s σ H _ us Q I rs ⟨a, bs, rfl, q, OutP.here o sm (.bl _)⟩
      | _ => exact (show False from o).elim
theorem any_ok (hc : X.calm = true) : CallR X (.builtin "any") (rPn X.K n .any) := by
  intro pins s σ H xs us Q I rs h
  obtain ⟨F, ρ, M, ds, sm, ls, o⟩ := h
  cases ls with
  | nil => exact (show False from o).elim
  | @cons v vs d ds l ls =>
    cases ls with
    | cons l2 ls2 => exact (show False from by cases d <;> exact o).elim
    | nil =>
      cases d with
      | lst ds =>
        obtain ⟨a, vs, rfl, q, r⟩ := l.lst sm
        have o : OutP X.K F ρ M H ((boolsO ds).map fun bs => .bl (bs.any id)) Q := o
        cases e : boolsO ds with
        | none => rw [e] at o; exact (show False from o).elim
        | some bs =>
          rw [e] at o
          have e2 := r.bools e
          subst e2
          exact cr_any hc pins s σ H _ us Q I rs ⟨a, bs, rfl, q, OutP.here o sm (.bl _)⟩
      | _ => exact (show False from o).elim
end
end Mi
set_option Elab.async false
set_option linter.all false
set_option maxRecDepth 100000
set_option maxHeartbeats 2000000
/-! Mi, part 4c: more primitives. -/
namespace Mi
open PySem PySem.Spec PyProof.Rows L2
/-! ### texts in order -/
theorem lt_irr : ∀ a : List Nat, ltCps a a = false
  | [] => rfl
  | a :: r => by simp [ltCps, lt_irr r]
theorem lt_asym : ∀ a b : List Nat, ltCps a b = true → ltCps b a = false
  | [], [], h => by cases h
  | [], _ :: _, _ => rfl
  | _ :: _, [], h => by cases h
  | a :: r, b :: t, h => by
    simp only [ltCps, Bool.or_eq_true, decide_eq_true_eq, Bool.and_eq_true, beq_iff_eq] at h
    rcases h with h | ⟨rfl, h⟩
    · have n1 : ¬ b < a := by omega
      have n2 : (b == a) = false := by simp; omega
      simp [ltCps, n1, n2]
    · simp [ltCps, lt_asym r t h]
theorem le_anti : ∀ a b : List Nat, ltCps a b = false → ltCps b a = false → a = b
  | [], [], _, _ => rfl
  | [], _ :: _, h, _ => by cases h
  | _ :: _, [], _, h => by cases h
  | a :: r, b :: t, h1, h2 => by
    simp only [ltCps, Bool.or_eq_false_iff, decide_eq_false_iff_not, Bool.and_eq_false_iff] at h1 h2
    have e : a = b := by omega
    subst e
    have g1 := h1.2
    have g2 := h2.2
    simp at g1 g2
    rw [le_anti r t g1 g2]
theorem lt_trans' : ∀ a b c : List Nat, ltCps a b = true → ltCps b c = true → ltCps a c = true
  | [], [], _, h, _ => by cases h
  | [], _ :: _, [], _, h => by cases h
  | [], _ :: _, _ :: _, _, _ => rfl
  | _ :: _, [], _, h, _ => by cases h
  | _ :: _, _ :: _, [], _, h => by cases h
  | a :: r, b :: t, c :: u, h1, h2 => by
    simp only [ltCps, Bool.or_eq_true, decide_eq_true_eq, Bool.and_eq_true, beq_iff_eq] at h1 h2 ⊢
    rcases h1 with h1 | ⟨rfl, h1⟩ <;> rcases h2 with h2 | ⟨rfl, h2⟩
    · exact .inl (by omega)
    · exact .inl h1
    · exact .inl h2
    · exact .inr ⟨rfl, lt_trans' r t u h1 h2⟩
theorem le_trans' (a b c : List Nat) (h1 : ltCps b a = false) (h2 : ltCps c b = false) : ltCps c a = false := by
  cases h : ltCps c a with
  | false => rfl
  | true =>
    cases e : ltCps a b with
    | true => rw [lt_trans' c a b h e] at h2; cases h2
    | false =>
      have := le_anti a b e h1
      subst this
      rw [h2] at h; cases h
theorem leS_trans (a b c : Str) (h1 : leS a b = true) (h2 : leS b c = true) : leS a c = true := by
  simp only [leS, Bool.not_eq_true'] at h1 h2 ⊢
  exact le_trans' _ _ _ h1 h2
theorem leS_total (a b : Str) : (leS a b || leS b a) = true := by
  simp only [leS, Bool.or_eq_true, Bool.not_eq_true']
  cases h : ltCps b.cps.toList a.cps.toList with
  | false => exact .inl rfl
  | true => exact .inr (lt_asym _ _ h)
theorem leS_anti {a b : Str} (h1 : leS a b = true) (h2 : leS b a = true) : a = b := by
  simp only [leS, Bool.not_eq_true'] at h1 h2
  have := le_anti _ _ h2 h1
  cases a
  cases b
  simp only [Str.mk.injEq]
  exact Array.toList_inj.mp this
theorem sorted_pw : ∀ {ys : List Str}, sortedS ys = true → ys.Pairwise fun a b => leS a b = true
  | [], _ => .nil
  | x :: r, h => go x r h
where go : ∀ (p : Str) (l : List Str), risingS p l = true → (p :: l).Pairwise fun a b => leS a b = true
  | p, [], _ => List.pairwise_cons.mpr ⟨(fun _ h => nomatch h), List.Pairwise.nil⟩
  | p, x :: r, h => by
    have h := Bool.and_eq_true_iff.mp (show (!ltCps x.cps.toList p.cps.toList && risingS x r) = true from h)
    have ih := go x r h.2
    refine List.pairwise_cons.mpr ⟨fun y hy => ?_, ih⟩
    rcases List.mem_cons.mp hy with e | e
    · rw [e]; exact h.1
    · exact leS_trans p x y h.1 (List.rel_of_pairwise_cons ih e)
theorem pw_eq : ∀ {xs ys : List Str}, xs.Perm ys → xs.Pairwise (fun a b => leS a b = true) → ys.Pairwise (fun a b => leS a b = true) → xs = ys
  | [], ys, p, _, _ => (List.nil_perm.mp p).symm ▸ rfl
  | x :: xs, ys, p, h1, h2 => by
    cases ys with
    | nil => exact absurd (List.perm_nil.mp p) (by simp)
    | cons y ys =>
      have e : x = y := by
        have m1 : x ∈ y :: ys := p.subset (List.mem_cons_self ..)
        have m2 : y ∈ x :: xs := p.symm.subset (List.mem_cons_self ..)
        rcases List.mem_cons.mp m1 with e | m1
        · exact e
        · rcases List.mem_cons.mp m2 with e | m2
          · exact e.symm
          · exact leS_anti (List.rel_of_pairwise_cons h1 m2) (List.rel_of_pairwise_cons h2 m1)
      subst e
      rw [pw_eq (List.Perm.cons_inv p) (List.pairwise_cons.mp h1).2 (List.pairwise_cons.mp h2).2]
theorem srtS_eq {ks ys : List Str} (p : ys.Perm ks) (h : sortedS ys = true) : ys = srtS ks := by
  refine pw_eq (p.trans (List.mergeSort_perm ks leS).symm) (sorted_pw h) ?_
  exact List.pairwise_mergeSort leS_trans leS_total ks
section
variable {K : PySem.W.Frag} {F : Hp} {ρ : List Addr}
theorem Reps.strs : ∀ {vs : List V} {ds : List D} {ns : List Str}, Reps K F ρ vs ds → strsO ds = some ns → vs = ns.map V.str
  | _, _, ns, .nil, e => by cases e; rfl
  | _, _, ns, .cons (d := d) a b, e => by
    cases d with
    | str i =>
      cases a
      simp only [strsO, Option.map_eq_some_iff] at e
      obtain ⟨r, e1, rfl⟩ := e
      rw [b.strs e1]
      rfl
    | _ => cases e
theorem strK_keys : ∀ {kvs : List (Key × D)} {ks : List Str}, strK kvs = some ks → kvs.map (·.1) = ks.map Sum.inr
  | [], ks, h => by cases h; rfl
  | (.inr b, _) :: r, ks, h => by
    simp only [strK, Option.map_eq_some_iff] at h
    obtain ⟨r', e1, rfl⟩ := h
    rw [List.map_cons, strK_keys e1]
    rfl
  | (.inl b, _) :: r, ks, h => by cases h
theorem reps_strs : ∀ ns : List Str, Reps K F ρ (ns.map V.str) (ns.map D.str)
  | [] => .nil
  | n :: ns => .cons (.str n) (reps_strs ns)
end
section
variable {X : Cx} {n : Nat}
theorem Lks.one {K : PySem.W.Frag} {F : Hp} {ρ : List Addr} {H : Hp} {xs : List V} {d : D} (h : Lks K F ρ H xs [d]) : ∃ x, xs = [x] ∧ Lk K F ρ H x d := by
  cases h with
  | cons a b => cases b; exact ⟨_, rfl, a⟩
theorem Lks.two {K : PySem.W.Frag} {F : Hp} {ρ : List Addr} {H : Hp} {xs : List V} {d e : D} (h : Lks K F ρ H xs [d, e]) : ∃ x y, xs = [x, y] ∧ Lk K F ρ H x d ∧ Lk K F ρ H y e := by
  cases h with
  | cons a b => cases b with
    | cons c d => cases d; exact ⟨_, _, rfl, a, c⟩
theorem max_ok (hc : X.calm = true) : CallR X (.builtin "max") (rPn X.K n .max2) := by
  intro pins s σ H xs us Q I r ⟨F, ρ, M, ds, sm, lk, o⟩
  match ds, lk, o with
  | [.int a, .int b], lk, o =>
    obtain ⟨x, y, rfl, l1, l2⟩ := lk.two
    cases l1.int
    cases l2.int
    refine call_max2 hc pins s σ H _ us Q I r ⟨a, b, rfl, ?_⟩
    have e : (if b > a then b else a) = max a b := by split <;> omega
    rw [e]
    exact OutP.here (show OutP X.K F ρ M H (some (.int (max a b))) Q from o) sm (.int _)
theorem min_ok (hc : X.calm = true) : CallR X (.builtin "min") (rPn X.K n .min2) := by
  intro pins s σ H xs us Q I r ⟨F, ρ, M, ds, sm, lk, o⟩
  match ds, lk, o with
  | [.int a, .int b], lk, o =>
    obtain ⟨x, y, rfl, l1, l2⟩ := lk.two
    cases l1.int
    cases l2.int
    refine call_min2 hc pins s σ H _ us Q I r ⟨a, b, rfl, ?_⟩
    have e : (if b < a then b else a) = min a b := by split <;> omega
    rw [e]
    exact OutP.here (show OutP X.K F ρ M H (some (.int (min a b))) Q from o) sm (.int _)
theorem int_ok : CallR X (.type "int") (rPn X.K n .intOf) := by
  intro pins s σ H xs us Q I r ⟨F, ρ, M, ds, sm, lk, o⟩
  match ds, lk, o with
  | [.int a], lk, o =>
    obtain ⟨x, rfl, l1⟩ := lk.one
    cases l1.int
    exact call_int1 pins s σ H _ us Q I r (.inl ⟨a, rfl, OutP.here (show OutP X.K F ρ M H (some (.int a)) Q from o) sm (.int _)⟩)
  | [.bl a], lk, o =>
    obtain ⟨x, rfl, l1⟩ := lk.one
    cases l1.bl
    exact call_int1 pins s σ H _ us Q I r (.inr ⟨a, rfl, OutP.here (show OutP X.K F ρ M H (some (.int (b2i a))) Q from o) sm (.int _)⟩)
theorem sorted_ok (hc : X.calm = true) : CallR X (.builtin "sorted") (rPn X.K n .sorted) := by
  intro pins s σ H xs us Q I r ⟨F, ρ, M, ds, sm, lk, o⟩
  match ds, lk, o with
  | [.lst ds], lk, o =>
    obtain ⟨x, rfl, l1⟩ := lk.one
    obtain ⟨a, vs, rfl, h1, h2⟩ := l1.lst sm
    have o : OutP X.K F ρ M H ((strsO ds).bind fun ks => if ks.length < 64 then some (.lst ((srtS ks).map .str)) else none) Q := o
    cases e : strsO ds with
    | none => rw [e] at o; exact (show False from o).elim
    | some ks =>
      rw [e] at o
      by_cases hl : ks.length < 64
      · simp only [Option.bind_some, if_pos hl] at o
        rw [h2.strs e] at h1
        exact cr_sortedS pins s σ H _ us Q I r ⟨a, ks, rfl, h1, hl, fun ys p hp hs hn => by
          rw [srtS_eq hp hs]
          exact o.lst sm (reps_strs _) p hn⟩
      · simp only [Option.bind_some, if_neg hl] at o
        exact (show False from o).elim
  | [.dct ds], lk, o =>
    obtain ⟨x, rfl, l1⟩ := lk.one
    obtain ⟨a, kvs, rfl, h1, h2⟩ := l1.dct sm
    have o : OutP X.K F ρ M H ((strK ds).bind fun ks => if ks.length < 64 then some (.lst ((srtS ks).map .str)) else none) Q := o
    cases e : strK ds with
    | none => rw [e] at o; exact (show False from o).elim
    | some ks =>
      rw [e] at o
      by_cases hl : ks.length < 64
      · simp only [Option.bind_some, if_pos hl] at o
        exact call_sortedD hc pins s σ H _ us Q I r ⟨a, kvs, ks, rfl, .inl h1, by rw [h2.keys]; exact strK_keys e, hl, fun ys p hp hs hn => by
          rw [srtS_eq hp hs]
          exact o.lst sm (reps_strs _) p hn⟩
      · simp only [Option.bind_some, if_neg hl] at o
        exact (show False from o).elim
end
end Mi
set_option Elab.async false
set_option linter.all false
set_option maxRecDepth 100000
set_option maxHeartbeats 2000000
/-! Mi, part 6: readings of the small language, what is looked at in the program's text. -/
namespace Mi
open PySem PySem.Spec PyProof.Rows L2

/-- an exception as it lies: its class by name, its fields -/
structure ExR (K : PySem.W.Frag) (mg : Str → Option Value) (F : Hp) (ρ : List Addr) (H : Hp) (x : Ex) (cls : Value) (dx : Option Addr) : Prop where
  cls : mg x.cls = some cls
  fs : (x.fs = [] ∧ dx = none) ∨ ∃ d gs, dx = some d ∧ H d = some (.xd gs) ∧ gs.map (·.1) = x.fs.map (·.1) ∧ Reps K F ρ (gs.map (·.2)) (x.fs.map (·.2))
section
variable (K : PySem.W.Frag) (mg : Str → Option Value) (W : WX) (F : Hp) (ρ : List Addr) (H : Hp) (σR : L2.St)
/-- how an evaluation ends; R: how its result stands -/
def OutR {α β : Type} (R : Hp → List Addr → Hp → β → α → Prop) (r : Rs α) (Q : β → Hp → Prop) : Prop := match r with
  | .ok d M' => ∀ v F' ρ' H', Stp F ρ H F' ρ' H' → SimM K F' ρ' M' H' → R F' ρ' H' v d → Q v H'
  | .exc x M' => ∀ cls dx F' ρ' H', Stp F ρ H F' ρ' H' → SimM K F' ρ' M' H' → ExR K mg F' ρ' H' x cls dx → W cls dx σR H'
  | .bad => False
end
/-- results: a value; an operand; several; a truth -/
abbrev RV (K : PySem.W.Frag) : Hp → List Addr → Hp → V → D → Prop := fun F ρ _ v d => Rep K F ρ v d
abbrev RO (K : PySem.W.Frag) (σ : Sg) (σR : L2.St) : Hp → List Addr → Hp → V → D → Prop := fun F ρ _ v d => Opn K F ρ σ σR v d
abbrev RVs (K : PySem.W.Frag) : Hp → List Addr → Hp → List V → List D → Prop := fun F ρ _ v d => Reps K F ρ v d
inductive Opns (K : PySem.W.Frag) (F : Hp) (ρ : List Addr) (σ : Sg) (σR : L2.St) : List V → List D → Prop
  | nil : Opns K F ρ σ σR [] []
  | cons {v : V} {vs : List V} {d : D} {ds : List D} : Opn K F ρ σ σR v d → Opns K F ρ σ σR vs ds → Opns K F ρ σ σR (v :: vs) (d :: ds)
abbrev ROs (K : PySem.W.Frag) (σ : Sg) (σR : L2.St) : Hp → List Addr → Hp → List V → List D → Prop := fun F ρ _ v d => Opns K F ρ σ σR v d
abbrev RB : Hp → List Addr → Hp → Bool → D → Prop := fun _ _ _ b d => d = .bl b
abbrev RBB : Hp → List Addr → Hp → Bool → Bool → Prop := fun _ _ _ b d => d = b
/-- readings -/
def Tev {α β : Type} (K : PySem.W.Frag) (mg : Str → Option Value) (W : WX) (R : Sg → L2.St → Hp → List Addr → Hp → β → α → Prop) (ev : Sg → MS → Rs α) : L2.St → Hp → (β → Hp → Prop) → Prop :=
  fun σR H Q => ∃ F ρ σ M, SimM K F ρ M H ∧ SimS K F ρ σ σR H ∧ OutR K mg W F ρ H σR (R σ σR) (ev σ M) Q
section
variable {K : PySem.W.Frag} {mg : Str → Option Value} {W : WX} {F F' : Hp} {ρ ρ' : List Addr} {H H' : Hp} {σR : L2.St} {σ : Sg} {M : MS} {α β γ δ : Type}
theorem OutR.mono {R R' : Hp → List Addr → Hp → β → α → Prop} {r : Rs α} {Q Q' : β → Hp → Prop} (h : OutR K mg W F ρ H σR R r Q) (hR : ∀ F' ρ' H' v d, R' F' ρ' H' v d → R F' ρ' H' v d) (hQ : ∀ v H', Q v H' → Q' v H') : OutR K mg W F ρ H σR R' r Q' := by
  cases r with
  | ok d M' => exact fun v F' ρ' H' st sm r => hQ _ _ (h v F' ρ' H' st sm (hR _ _ _ _ _ r))
  | exc x M' => exact h
  | bad => exact h
/-- later -/
theorem OutR.after {R : Hp → List Addr → Hp → β → α → Prop} {r : Rs α} {Q : β → Hp → Prop} (st : Stp F ρ H F' ρ' H') (h : OutR K mg W F ρ H σR R r Q) : OutR K mg W F' ρ' H' σR R r Q := by
  cases r with
  | ok d M' => exact fun v F2 ρ2 H2 s2 sm r => h v F2 ρ2 H2 (st.trans s2) sm r
  | exc x M' => exact fun c dx F2 ρ2 H2 s2 sm r => h c dx F2 ρ2 H2 (st.trans s2) sm r
  | bad => exact h
/-- one evaluation, then another -/
theorem OutR.bind {R : Hp → List Addr → Hp → β → α → Prop} {R' : Hp → List Addr → Hp → δ → γ → Prop} {r : Rs α} {f : α → MS → Rs γ} {Q : δ → Hp → Prop} {Q' : β → Hp → Prop} (h : OutR K mg W F ρ H σR R' (r.bind f) Q)
    (next : ∀ v d M' F' ρ' H', Stp F ρ H F' ρ' H' → SimM K F' ρ' M' H' → R F' ρ' H' v d → OutR K mg W F' ρ' H' σR R' (f d M') Q → Q' v H') : OutR K mg W F ρ H σR R r Q' := by
  cases r with
  | ok d M' => exact fun v F' ρ' H' st sm r => next v d M' F' ρ' H' st sm r (OutR.after st h)
  | exc x M' => exact h
  | bad => exact h
theorem OutR.ok {R : Hp → List Addr → Hp → β → α → Prop} {d : α} {Q : β → Hp → Prop} {v : β} (h : OutR K mg W F ρ H σR R (.ok d M) Q) (sm : SimM K F ρ M H) (r : R F ρ H v d) : Q v H := h v F ρ H .refl sm r
theorem OutR.of {o : Option D} {Q : VK} (h : OutR K mg W F ρ H σR (RV K) (.of o M) Q) : OutP K F ρ M H o Q := by
  cases o with
  | some d => exact h
  | none => exact h
/-- the reading of one evaluation leads into another's -/
theorem Tev.bind {R : Sg → L2.St → Hp → List Addr → Hp → β → α → Prop} {R' : Sg → L2.St → Hp → List Addr → Hp → δ → γ → Prop} {ev : Sg → MS → Rs α} {ev' : Sg → MS → Rs γ} {f : Sg → α → MS → Rs γ} {Q : δ → Hp → Prop} {Q' : β → Hp → Prop}
    (h : Tev K mg W R' ev' σR H Q) (e : ∀ σ M, ev' σ M = (ev σ M).bind (f σ))
    (next : ∀ v d M' σ F' ρ' H', SimM K F' ρ' M' H' → SimS K F' ρ' σ σR H' → R σ σR F' ρ' H' v d → OutR K mg W F' ρ' H' σR (R' σ σR) (f σ d M') Q → Q' v H') : Tev K mg W R ev σR H Q' := by
  obtain ⟨F, ρ, σ, M, sm, ss, o⟩ := h
  rw [e] at o
  exact ⟨F, ρ, σ, M, sm, ss, o.bind fun v d M' F' ρ' H' st sm' r o' => next v d M' σ F' ρ' H' sm' (ss.step st) r o'⟩
/-- the same evaluation, its result weakened -/
theorem Tev.mono {R R' : Sg → L2.St → Hp → List Addr → Hp → β → α → Prop} {ev : Sg → MS → Rs α} {Q Q' : β → Hp → Prop} (h : Tev K mg W R ev σR H Q) (hR : ∀ σ F' ρ' H' v d, R' σ σR F' ρ' H' v d → R σ σR F' ρ' H' v d) (hQ : ∀ v H', Q v H' → Q' v H') : Tev K mg W R' ev σR H Q' := by
  obtain ⟨F, ρ, σ, M, sm, ss, o⟩ := h
  exact ⟨F, ρ, σ, M, sm, ss, o.mono (hR σ) hQ⟩
end
/-- judgements by evaluation -/
abbrev TE1 (X : Cx) (W : WX) (ev : Sg → MS → Rs D) : TE := Tev X.K X.mg W (fun _ _ => RV X.K) ev
abbrev TO1 (X : Cx) (W : WX) (ev : Sg → MS → Rs D) : TE := Tev X.K X.mg W (fun σ σR => RO X.K σ σR) ev
abbrev TEs (X : Cx) (W : WX) (ev : Sg → MS → Rs (List D)) : TA := Tev X.K X.mg W (fun _ _ => RVs X.K) ev
abbrev TOs (X : Cx) (W : WX) (ev : Sg → MS → Rs (List D)) : TA := Tev X.K X.mg W (fun σ σR => ROs X.K σ σR) ev
abbrev TT1 (X : Cx) (W : WX) (ev : Sg → MS → Rs D) : TT := Tev X.K X.mg W (fun _ _ => RB) ev
theorem pe_imp {X : Cx} {e : Expr} {t t' : TE} (h : PE X e t) (i : ∀ σ H Q, t' σ H Q → t σ H Q) : PE X e t' := ⟨fun pins s σ H Q I q => h.run pins s σ H Q I (i σ H Q q)⟩
theorem pt_imp {X : Cx} {e : Expr} {t t' : TT} (h : PT X e t) (i : ∀ σ H Q, t' σ H Q → t σ H Q) : PT X e t' := ⟨fun pins s σ H Q I q => h.run pins s σ H Q I (i σ H Q q)⟩
theorem pa_imp {X : Cx} {e : List Expr} {t t' : TA} (h : PA X e t) (i : ∀ σ H Q, t' σ H Q → t σ H Q) : PA X e t' := ⟨fun pos pins s σ H Q I q => h.run pos pins s σ H Q I (i σ H Q q)⟩

/-! ### what is looked at in the text -/
def notStar : Expr → Bool
  | .Starred .. => false
  | _ => true
theorem star_cons {e : Expr} {es : List Expr} {env : Env} (h : notStar e = true) : starEach (e :: es) env = (false, eval e env) :: starEach es env := by
  cases e <;> first | rfl | cases h
theorem star_any {es : List Expr} {env : Env} {pos : Pos} (h : es.all notStar = true) : (backTo pos (starEach es env)).any (·.1) = false := by
  induction es with
  | nil => rfl
  | cons e es ih =>
    have h2 := Bool.and_eq_true_iff.mp (show (notStar e && es.all notStar) = true from h)
    rw [star_cons h2.1]
    exact ih h2.2
def visB (sc : Scope) (x : Str) : Bool := match sc.names.lookup x with
  | some .local => true
  | some .cell => true
  | some .free => true
  | _ => false
def glB (sc : Scope) (x : Str) : Bool := match sc.names.lookup x with
  | some .globalImplicit => true
  | _ => false
def locB (sc : Scope) (fx : Str → Bool) (x : Str) : Bool := match sc.names.lookup x with
  | some .local => true
  | some .cell => fx x
  | _ => false
theorem visB_ok {sc : Scope} {x : Str} (h : visB sc x = true) : Vis sc x := by
  unfold visB at h
  unfold Vis
  cases e : sc.names.lookup x with
  | none => rw [e] at h; cases h
  | some k => cases k <;> rw [e] at h <;> simp_all
theorem glB_ok {sc : Scope} {x : Str} (h : glB sc x = true) : sc.names.lookup x = some .globalImplicit := by
  unfold glB at h
  cases e : sc.names.lookup x with
  | none => rw [e] at h; cases h
  | some k => cases k <;> rw [e] at h <;> simp_all
theorem locB_ok {sc : Scope} {fx : Str → Bool} {x : Str} (h : locB sc fx x = true) : L2.Loc sc x ∧ (fx x = true ∨ sc.names.lookup x = some .local) := by
  unfold locB at h
  unfold L2.Loc
  cases e : sc.names.lookup x with
  | none => rw [e] at h; cases h
  | some k => cases k <;> rw [e] at h <;> simp_all
def okName (x : Str) : Bool := !(x == ("__debug__" : Str)) && !(x == ("__classdict__" : Str)) && !(x == ("__name__" : Str))
theorem okName_ok {x : Str} (h : okName x = true) : (x == ("__debug__" : Str)) = false ∧ (x == ("__classdict__" : Str)) = false ∧ x ≠ "__name__" := by
  unfold okName at h
  simp only [Bool.and_eq_true, Bool.not_eq_true'] at h
  refine ⟨h.1.1, h.1.2, fun e => ?_⟩
  have := h.2
  rw [e] at this
  simp at this

/-- the tables: defs, constants of the module -/
structure Tab where
  /-- name, parameters, defaults -/
  funs : List (Str × Nat × Nat)
  consts : List (Str × D)
  /-- classes of exceptions with the fields that their arguments become -/
  excs : List (Str × List Str) := []
  /-- which is caught by which name -/
  cls : List (Str × Str × Bool) := []
def conB : D → Const → Bool
  | .non, .none => true
  | .bl b, .bool c => b == c
  | .int i, .int j => decide (i = j)
  | .str x, .str y => decide (x = y)
  | _, _ => false
def Tab.fn (T : Tab) (f : Nat) (x : Str) (k : Nat) : Bool := match T.funs[f]? with
  | some (y, np, nd) => decide (x = y) && decide (np - nd ≤ k) && decide (k ≤ np)
  | none => false
def nameB (e : Expr) (x : Str) : Bool := match e with
  | .Name y _ => decide (x = y)
  | _ => false
/-- the built-in functions and types that primitives call -/
def fnOfP : P → Option (Str × Bool)
  | .len => some ("len", true)
  | .tupleOf => some ("tuple", false)
  | .listOf => some ("list", false)
  | .all => some ("all", true)
  | .any => some ("any", true)
  | .max2 => some ("max", true)
  | .min2 => some ("min", true)
  | .intOf => some ("int", false)
  | .sorted => some ("sorted", true)
  | _ => none
def opOfP : P → Option Operator
  | .add => some .Add
  | .sub => some .Sub
  | .mul => some .Mult
  | .fdiv => some .FloorDiv
  | .mod => some .Mod
  | .pow => some .Pow
  | _ => none
def cmpOfP : P → Option CmpOp
  | .eq => some .Eq
  | .ne => some .NotEq
  | .lt => some .Lt
  | .le => some .LtE
  | .gt => some .Gt
  | .ge => some .GtE
  | .inn => some .In
  | .nin => some .NotIn
  | _ => none
def noSet : Expr → Bool
  | .Set .. => false
  | _ => true
def noSlice : Expr → Bool
  | .Slice .. => false
  | _ => true
/-- plain as a test -/
def plainT : Expr → Bool
  | .UnaryOp .Not _ _ => false
  | .BoolOp .. => false
  | .IfExp .. => false
  | .Compare .. => false
  | _ => true
end Mi
set_option Elab.async false
set_option linter.all false
set_option maxRecDepth 100000
set_option maxHeartbeats 2000000
/-! Mi, part 7: the look at expressions. -/
namespace Mi
open PySem PySem.Spec PyProof.Rows L2

/-- the name in slot i -/
def varB (N : List Str) (sc : Scope) (i : Nat) : Expr → Bool
  | .Name x _ => decide (N[i]? = some x) && visB sc x && okName x
  | _ => false
def isNone : Expr → Bool
  | .Constant .none _ _ => true
  | _ => false
def isBool (b : Bool) : Expr → Bool
  | .Constant (.bool c) _ _ => b == c
  | _ => false
def cmpEs (p : P) (a : Expr) (op : CmpOp) (b : Expr) : Option (List Expr) :=
  if cmpOfP p = some op ∧ noSet b = true then some [a, b] else match p, op with
    | .isn, .Is => if isNone b = true then some [a] else none
    | .isnn, .IsNot => if isNone b = true then some [a] else none
    | .isB k, .Is => if isBool k b = true then some [a] else none
    | .isnB k, .IsNot => if isBool k b = true then some [a] else none
    | _, _ => none
def tyN : Ty1 → String
  | .tTup => "tuple"
  | .tStr => "str"
  | .tInt => "int"
  | .tBool => "bool"
  | .tLst => "list"
  | .tDct => "dict"
def isiEs (sc : Scope) (t : Ty1) (x : Str) : List Expr → Option (List Expr)
  | [a, .Name y _] => if x = "isinstance" ∧ glB sc x = true ∧ y = Str.ofString (tyN t) ∧ glB sc y = true ∧ notStar a = true then some [a] else none
  | _ => none
def revEs (sc : Scope) (x : Str) : List Expr → Option (List Expr)
  | [.Call (.Name y _) [a] [] _] => if x = "list" ∧ glB sc x = true ∧ y = "reversed" ∧ glB sc y = true ∧ notStar a = true then some [a] else none
  | _ => none
/-- no call of super -/
def baseB : Expr → Bool
  | .Call .. => false
  | _ => true
/-- the operands of a primitive, as they stand -/
def primEs (sc : Scope) (p : P) : Expr → Option (List Expr)
  | .BinOp a op b _ => if opOfP p = some op then some [a, b] else none
  | .UnaryOp .USub a _ => if p = .neg then some [a] else none
  | .Compare a [op] [b] _ => cmpEs p a op b
  | .Subscript a b _ => if p = .item ∧ noSlice b = true then some [a, b] else none
  | .Call (.Name x _) (a :: as) [] _ => match p with
    | .isi t => isiEs sc t x (a :: as)
    | .rev => revEs sc x (a :: as)
    | _ => match fnOfP p with
      | some (y, _) => if x = y ∧ glB sc x = true ∧ (a :: as).all notStar = true then some (a :: as) else none
      | none => none
  | _ => none
def isCmp : Expr → Bool
  | .Compare _ [_] [_] _ => true
  | _ => false
mutual
def sameD : D → D → Bool
  | .non, .non => true
  | .bl a, .bl b => a == b
  | .int a, .int b => decide (a = b)
  | .str a, .str b => decide (a = b)
  | .tup a, .tup b => sameDs a b
  | _, _ => false
def sameDs : List D → List D → Bool
  | [], [] => true
  | x :: xs, y :: ys => sameD x y && sameDs xs ys
  | _, _ => false
end
def conIn (x : Str) (d : D) (cs : List (Str × D)) : Bool := cs.any fun p => decide (p.1 = x) && sameD p.2 d
def borB (N : List Str) (sc : Scope) : E → Expr → Bool
  | .bor i, e => varB N sc i e
  | _, _ => false
mutual
def chkG (N : List Str) (fx : Str → Bool) (sc : Scope) : T → Expr → Bool
  | .nm i, e => match e with
    | .Name x _ => decide (N[i]? = some x) && locB sc fx x
    | _ => false
  | .tup ts, e => match e with
    | .Tuple es _ _ => chkGs N fx sc ts es
    | _ => false
def chkGs (N : List Str) (fx : Str → Bool) (sc : Scope) : List T → List Expr → Bool
  | [], [] => true
  | t :: ts, e :: es => notStar e && chkG N fx sc t e && chkGs N fx sc ts es
  | _, _ => false
end
/-- results that nobody else holds -/
def isFr : E → Bool
  | .lst _ => true
  | .dct _ => true
  | .comp .. => true
  | _ => false
def ownP (N : List Str) (own : List Nat) : List (Str × Nat) := own.filterMap fun i => (N[i]?).map fun x => (x, i)
def compB (N : List Str) (sc scope : Scope) (own : List Nat) (t : T) (iter : Expr) : Bool :=
  decide ((ownP N own).map (·.2) = own) && L2.blkC N sc scope (ownP N own) && t.slots.all (fun i => decide (i ∈ own)) && noSet iter
def isTupE : Expr → Bool
  | .Tuple .. => true
  | _ => false
def blkF (scope : Scope) : Str → Bool := fun x => scope.names.lookup x == some .cell
mutual
def chkE (T : Tab) (N : List Str) : (Str → Bool) → Scope → E → Expr → Bool
  | fx, sc, .con d, e => match e with
    | .Constant c _ _ => conB d c
    | _ => false
  | fx, sc, .glb x d, e => match e with
    | .Name y _ => decide (x = y) && glB sc x && okName x && conIn x d T.consts
    | _ => false
  | fx, sc, .var i, e => varB N sc i e
  | fx, sc, .bor _, _ => false
  | fx, sc, .tup es, e => match e with
    | .Tuple xs _ _ => chkEs T N fx sc es xs && decide (es.length ≤ limit)
    | _ => false
  | fx, sc, .lst es, e => match e with
    | .List xs _ => chkEs T N fx sc es xs && decide (es.length ≤ limit)
    | _ => false
  | fx, sc, .dct es, e => match e with
    | .Dict ks vs _ => chkD T N fx sc es ks vs && decide (ks.length ≤ 15)
    | _ => false
  | fx, sc, .prim p as, e => match primEs sc p e with
    | some es => chkOs T N fx sc as es
    | none => false
  | fx, sc, .call f as, e => match e with
    | .Call (.Name x _) (a :: r) [] _ => T.fn f x (r.length + 1) && glB sc x && okName x && chkEs T N fx sc as (a :: r)
    | _ => false
  | fx, sc, .and es, e => match e with
    | .BoolOp .And (x :: r) _ => chkEs T N fx sc es (x :: r)
    | _ => false
  | fx, sc, .or es, e => match e with
    | .BoolOp .Or (x :: r) _ => chkEs T N fx sc es (x :: r)
    | _ => false
  | fx, sc, .not a, e => match e with
    | .UnaryOp .Not x _ => chkE T N fx sc a x
    | _ => false
  | fx, sc, .ifx c a b, e => match e with
    | .IfExp x y z _ => chkT T N fx sc c x && chkE T N fx sc a y && chkE T N fx sc b z
    | _ => false
  | fx, sc, .chain p q a b c, e => match e with
    | .Compare x [o1, o2] [y, z] _ => decide (cmpOfP p = some o1) && decide (cmpOfP q = some o2) && !lastMarks [o1, o2] [y, z] && chkE T N fx sc a x && chkE T N fx sc b y && chkE T N fx sc c z
    | _ => false
  | fx, sc, .comp own t it cs elt, e => match e with
    | .ListComp el [⟨tg, iter, ifs, 0⟩] scope _ => chkI T N fx sc it tg iter && compB N sc scope own t iter && chkG N (blkF scope) (L2.relS scope sc) t tg && decide (ifs.length ≤ 1) && chkTs T N (blkF scope) (L2.relS scope sc) cs ifs && chkE T N (blkF scope) (L2.relS scope sc) elt el
    | _ => false
  | fx, sc, .new a, e => isFr a && chkE T N fx sc a e
  | fx, sc, .get1 o k, e => match e with
    | .Call (.Attribute x nm ap) [y] [] cp => decide (nm = "get") && (ap.endLine == cp.line) && baseB x && notStar y && (chkE T N fx sc o x || borB N sc o x) && chkE T N fx sc k y
    | _ => false
  | fx, sc, .get2 o k z, e => match e with
    | .Call (.Attribute x nm ap) [y, w] [] cp => decide (nm = "get") && (ap.endLine == cp.line) && baseB x && notStar y && notStar w && (chkE T N fx sc o x || borB N sc o x) && chkE T N fx sc k y && chkE T N fx sc z w
    | _ => false
  | fx, sc, .slc a lo hi, e => match e with
    | .Subscript x (.Slice l h none _) _ => (chkE T N fx sc a x || borB N sc a x) && chkP T N fx sc lo l && chkP T N fx sc hi h
    | _ => false
/-- as tests -/
def chkT (T : Tab) (N : List Str) : (Str → Bool) → Scope → E → Expr → Bool
  | fx, sc, .not a, e => match e with
    | .UnaryOp .Not x _ => chkT T N fx sc a x
    | _ => false
  | fx, sc, .and es, e => match e with
    | .BoolOp .And (x :: r) _ => chkTs T N fx sc es (x :: r)
    | _ => false
  | fx, sc, .or es, e => match e with
    | .BoolOp .Or (x :: r) _ => chkTs T N fx sc es (x :: r)
    | _ => false
  | fx, sc, .prim p as, e => match primEs sc p e with
    | some es => (plainT e || isCmp e) && chkOs T N fx sc as es
    | none => false
  | fx, sc, .con d, e => plainT e && (match e with
    | .Constant c _ _ => conB d c
    | _ => false)
  | fx, sc, .var i, e => varB N sc i e
  | fx, sc, .call f as, e => match e with
    | .Call (.Name x _) (a :: r) [] _ => T.fn f x (r.length + 1) && glB sc x && okName x && chkEs T N fx sc as (a :: r)
    | _ => false
  | fx, sc, .chain p q a b c, e => match e with
    | .Compare x [o1, o2] [y, z] _ => decide (cmpOfP p = some o1) && decide (cmpOfP q = some o2) && !lastMarks [o1, o2] [y, z] && chkE T N fx sc a x && chkE T N fx sc b y && chkE T N fx sc c z
    | _ => false
  | _, _, _, _ => false
/-- what is walked -/
def chkI (T : Tab) (N : List Str) : (Str → Bool) → Scope → It → Expr → Expr → Bool
  | fx, sc, .seq c, _, e => chkE T N fx sc c e
  | fx, sc, .rng1 c, _, e => match e with
    | .Call (.Name x _) [a] [] _ => decide (x = "range") && glB sc x && notStar a && chkE T N fx sc c a
    | _ => false
  | fx, sc, .rng2 c d, _, e => match e with
    | .Call (.Name x _) [a, b] [] _ => decide (x = "range") && glB sc x && notStar a && notStar b && chkE T N fx sc c a && chkE T N fx sc d b
    | _ => false
  | fx, sc, .enum c, tg, e => match e with
    | .Call (.Name x _) [a] [] _ => isTupE tg && decide (x = "enumerate") && glB sc x && notStar a && chkE T N fx sc c a
    | _ => false
  | fx, sc, .zip c d, tg, e => match e with
    | .Call (.Name x _) [a, b] [] _ => isTupE tg && decide (x = "zip") && glB sc x && notStar a && notStar b && chkE T N fx sc c a && chkE T N fx sc d b
    | _ => false
  | _, _, .items _, _, _ => false
def chkEs (T : Tab) (N : List Str) : (Str → Bool) → Scope → List E → List Expr → Bool
  | fx, sc, [], [] => true
  | fx, sc, c :: cs, e :: es => notStar e && chkE T N fx sc c e && chkEs T N fx sc cs es
  | fx, sc, _, _ => false
def chkTs (T : Tab) (N : List Str) : (Str → Bool) → Scope → List E → List Expr → Bool
  | fx, sc, [], [] => true
  | fx, sc, c :: cs, e :: es => chkT T N fx sc c e && chkTs T N fx sc cs es
  | fx, sc, _, _ => false
def chkP (T : Tab) (N : List Str) : (Str → Bool) → Scope → List E → Option Expr → Bool
  | fx, sc, [], none => true
  | fx, sc, [c], some e => chkE T N fx sc c e
  | fx, sc, _, _ => false
/-- operands -/
def chkOs (T : Tab) (N : List Str) : (Str → Bool) → Scope → List E → List Expr → Bool
  | fx, sc, [], [] => true
  | fx, sc, c :: cs, e :: es => (chkE T N fx sc c e || borB N sc c e) && chkOs T N fx sc cs es
  | fx, sc, _, _ => false
/-- keys and values in turn -/
def chkD (T : Tab) (N : List Str) : (Str → Bool) → Scope → List E → List (Option Expr) → List Expr → Bool
  | _, _, [], [], [] => true
  | fx, sc, k :: v :: r, some x :: ks, y :: vs => chkE T N fx sc k x && chkE T N fx sc v y && chkD T N fx sc r ks vs
  | _, _, _, _, _ => false
end
end Mi

set_option Elab.async false
set_option linter.all false
set_option maxRecDepth 100000
set_option maxHeartbeats 2000000
/-! Mi, part 8: expressions are as they are evaluated. -/
namespace Mi
open PySem PySem.Spec PyProof.Rows L2

/-- what a def promises: what the evaluator says -/
def spF (K : PySem.W.Frag) (mg : Str → Option Value) (Φ : Fn) (f np : Nat) : Sp := fun vs H Q E => vs.length = np ∧ ∃ F ρ M ds, SimM K F ρ M H ∧ Reps K F ρ vs ds ∧
  OutR K mg (fun c d _ H => E c d H) F ρ H [] (RV K) (Φ f ds M) Q
/-- the names of built-in functions that are used -/
def blts : List Str := ["len", "tuple", "list", "all", "any", "range", "zip", "enumerate", "reversed", "sorted", "set", "dict", "min", "max", "int", "isinstance", "sum", "str", "bool", "float"]
/-- an exception class with an __init__ of its own, as the head tells it -/
def ExcI (X : Cx) (c : Str) (fs : List Str) : Prop := ∃ (C fI : Addr) (fd : FuncData) (ps : List Str) (sp : Sp), X.mg c = some (.ref C) ∧ OexC X.K C ∧ PySem.W.findIn X.K (.ref C) "__init__" = some (some (.ref fI)) ∧ PySem.W.typeIn X.K (.ref fI) = some (.type "function") ∧
  FnOk X.prog X.w X.K X.mg X.base (CX X.prog X.w) 1 fI fd ps sp ∧ Binds X.K fd ps [] ∧
  (∀ (a : Addr) (vs : List V) (H : Hp) (Q : VK) (E : XK), vs.length = fs.length → H a = some (exo a C none) → (∀ (d : Addr) (gs : List (Str × V)), H d = none → gs.map (·.1) = fs.reverse → gs.map (·.2) = vs.reverse → Q .non (upd (upd H d (exd d gs)) a (exo a C (some d)))) → sp (.ref a :: vs) H Q E) ∧
  XfC X.K C ∧ ∀ f ∈ fs, PySem.W.findIn X.K (.ref C) f = some none
structure Bse (T : Tab) (Φ : Fn) (n : Nat) (X : Cx) : Prop where
  rm : Room n X.A
  free : ∀ y, y ∈ blts → X.mg y = none
  consts : ∀ x d, conIn x d T.consts = true → ∃ u v, X.mg x = some u ∧ RelV v u ∧ Rep X.K (fun _ => none) [] v d
  funs : ∀ f x np nd k, T.funs[f]? = some (x, np, nd) → np - nd ≤ k → k ≤ np → ∃ fa fd ps dvs ds dds, X.mg x = some (.ref fa) ∧ PySem.W.keepIn X.K (.ref fa) = true ∧
    FnOk X.prog X.w X.K X.mg X.base (CX X.prog X.w) n fa fd ps (spF X.K X.mg Φ f np) ∧ Binds X.K fd ps ds ∧ Vals dvs ds ∧ Reps X.K (fun _ => none) [] dvs dds ∧ dds.length + k = np ∧
    ∀ es M, es.length = k → Φ f es M = Φ f (es ++ dds) M
  excs : ∀ c fs, T.excs.lookup c = some fs → fs ≠ [] → ExcI X c fs
  cls : ∀ x c b, catches T.cls x c = some b → ∃ C D, X.mg x = some C ∧ X.mg c = some D ∧ PySem.W.exmOne X.K C D = some b
structure Good (T : Tab) (Φ : Fn) (n : Nat) (N : List Str) (fx : Str → Bool) (sc : Scope) (X : Cx) (W : WX) : Prop where
  hN : X.N = N
  nd : N.Nodup
  hsc : X.env.scope = sc
  hfx : X.fn = fx
  calm : X.calm = true
  tk : Takes X W
  bse : Bse T Φ n X
section
variable {T : Tab} {Φ : Fn} {n : Nat} {N : List Str} {fx : Str → Bool} {sc : Scope} {X : Cx} {W : WX}
theorem Bse.units (b : Bse T Φ n X) : X.A.units + 16 * n + 152 < cLine := by
  have := b.rm.un
  omega
abbrev ev1 (Φ : Fn) (n : Nat) (c : E) : Sg → MS → Rs D := fun σ M => evE Φ n σ c M
abbrev evs (Φ : Fn) (n : Nat) (cs : List E) : Sg → MS → Rs (List D) := fun σ M => evEs Φ n σ cs M
section
variable {σR : L2.St} {H : Hp} {Q : VK}
/-- an operand's reading from a value's -/
theorem to_of (h : TO1 X W ev σR H Q) : TE1 X W ev σR H Q := h.mono (fun _ _ _ _ _ _ r => .inl r) fun _ _ q => q
theorem Opns.look {K : PySem.W.Frag} {F : Hp} {ρ : List Addr} {M : MS} {σ : Sg} {σR : L2.St} {H : Hp} (sm : SimM K F ρ M H) (ss : SimS K F ρ σ σR H) : ∀ {vs : List V} {ds : List D}, Opns K F ρ σ σR vs ds → Lks K F ρ H vs (ds.map (deref M))
  | _, _, .nil => .nil
  | _, _, .cons a b => .cons (a.look sm ss) (Opns.look sm ss b)
theorem one {p : P} {a : E} (h : TE1 X W (ev1 Φ n (.prim p [a])) σR H Q) : TO1 X W (ev1 Φ n a) σR H fun x H1 => rP1 X.K n p x H1 Q := by
  refine Tev.bind (f := fun σ d M => .of (pr n p [deref M d]) M) h (fun σ M => ?_) fun v d M' σ F' ρ' H' sm ss r o => ⟨F', ρ', M', _, sm, r.look sm ss, o.of⟩
  simp only [ev1, evE, evEs]
  cases evE Φ n σ a M <;> rfl
theorem two {p : P} {a b : E} (h : TE1 X W (ev1 Φ n (.prim p [a, b])) σR H Q) : TO1 X W (ev1 Φ n a) σR H fun x H1 => TO1 X W (ev1 Φ n b) σR H1 fun y H2 => rP2 X.K n p x y H2 Q := by
  refine Tev.bind (f := fun σ d M => (evE Φ n σ b M).bind fun e M => .of (pr n p [deref M d, deref M e]) M) h (fun σ M => ?_) fun v d M' σ F' ρ' H' sm ss r o => ?_
  · simp only [ev1, evE, evEs]
    cases evE Φ n σ a M with
    | ok d M1 => 
      simp only [Rs.bind_ok]
      cases evE Φ n σ b M1 <;> rfl
    | exc x M1 => rfl
    | bad => rfl
  · exact ⟨F', ρ', σ, M', sm, ss, OutR.bind o fun w e M2 F2 ρ2 H2 st sm2 r2 o2 => ⟨F2, ρ2, M2, _, _, sm2, (r.mono st).look sm2 (ss.step st), r2.look sm2 (ss.step st), o2.of⟩⟩
theorem three {p : P} {a b c : E} (h : TE1 X W (ev1 Φ n (.prim p [a, b, c])) σR H Q) : TO1 X W (ev1 Φ n a) σR H fun x H1 => TO1 X W (ev1 Φ n b) σR H1 fun y H2 => TO1 X W (ev1 Φ n c) σR H2 fun z H3 =>
    ∃ F ρ M d e f, SimM X.K F ρ M H3 ∧ Lk X.K F ρ H3 x d ∧ Lk X.K F ρ H3 y e ∧ Lk X.K F ρ H3 z f ∧ OutP X.K F ρ M H3 (pr n p [d, e, f]) Q := by
  refine Tev.bind (f := fun σ d M => (evE Φ n σ b M).bind fun e M => (evE Φ n σ c M).bind fun f M => .of (pr n p [deref M d, deref M e, deref M f]) M) h (fun σ M => ?_) fun v d M' σ F' ρ' H' sm ss r o => ?_
  · simp only [ev1, evE, evEs]
    cases evE Φ n σ a M with
    | ok d M1 => 
      simp only [Rs.bind_ok]
      cases evE Φ n σ b M1 with
      | ok e M2 =>
        simp only [Rs.bind_ok]
        cases evE Φ n σ c M2 <;> rfl
      | exc x M1 => rfl
      | bad => rfl
    | exc x M1 => rfl
    | bad => rfl
  · refine ⟨F', ρ', σ, M', sm, ss, OutR.bind o fun w e M2 F2 ρ2 H2 st sm2 r2 o2 => ?_⟩
    exact ⟨F2, ρ2, σ, M2, sm2, ss.step st, OutR.bind o2 fun z f M3 F3 ρ3 H3 st2 sm3 r3 o3 => ⟨F3, ρ3, M3, _, _, _, sm3, (r.mono (st.trans st2)).look sm3 (ss.step (st.trans st2)), (r2.mono st2).look sm3 (ss.step (st.trans st2)), r3.look sm3 (ss.step (st.trans st2)), o3.of⟩⟩
theorem many {p : P} {as : List E} (h : TE1 X W (ev1 Φ n (.prim p as)) σR H Q) : TOs X W (evs Φ n as) σR H fun xs H1 => rPn X.K n p xs H1 Q := by
  refine Tev.bind (f := fun σ ds M => .of (pr n p (ds.map (deref M))) M) h (fun σ M => ?_) fun v d M' σ F' ρ' H' sm ss r o => ⟨F', ρ', M', _, sm, Opns.look sm ss r, o.of⟩
  simp only [ev1, evE]
end
/-- constants -/
theorem conB_ok {d : D} {c : Const} {j : Nat} {pos : Pos} (h : conB d c = true) : PE X (.Constant c j pos) (TE1 X W (ev1 Φ n (.con d))) := by
  cases d <;> cases c <;> first
    | cases h
    | skip
  · exact pe_imp pe_non fun σ H Q ⟨F, ρ, σ', M, sm, ss, o⟩ => OutR.ok o sm .non
  · cases (by simpa [conB] using h : _ = _)
    exact pe_imp pe_bl fun σ H Q ⟨F, ρ, σ', M, sm, ss, o⟩ => OutR.ok o sm (.bl _)
  · cases (by simpa [conB] using h : _ = _)
    exact pe_imp pe_int fun σ H Q ⟨F, ρ, σ', M, sm, ss, o⟩ => OutR.ok o sm (.int _)
  · cases (by simpa [conB] using h : _ = _)
    exact pe_imp pe_str fun σ H Q ⟨F, ρ, σ', M, sm, ss, o⟩ => OutR.ok o sm (.str _)
theorem var_shape {i : Nat} {e : Expr} (h : varB N sc i e = true) : ∃ x pos, e = .Name x pos ∧ N[i]? = some x ∧ Vis sc x ∧ (x == ("__debug__" : Str)) = false ∧ (x == ("__classdict__" : Str)) = false := by
  cases e <;> first
    | cases h
    | skip
  rename_i x pos
  simp only [varB, Bool.and_eq_true, decide_eq_true_eq] at h
  obtain ⟨d1, d2, _⟩ := okName_ok h.2
  exact ⟨x, pos, rfl, h.1.1, visB_ok h.1.2, d1, d2⟩
theorem var_ok (g : Good T Φ n N fx sc X W) {i : Nat} {e : Expr} (h : varB N sc i e = true) : PE X e (TE1 X W (ev1 Φ n (.var i))) := by
  obtain ⟨x, pos, rfl, h1, h2, h3, h4⟩ := var_shape h
  refine pe_imp (pe_var (by rw [g.hN]; exact h1) (by rw [g.hsc]; exact h2) h3 h4) fun σ H Q ⟨F, ρ, σ', M, sm, ss, o⟩ => ?_
  have o : OutR X.K X.mg W F ρ H σ (RV X.K) (evE Φ n σ' (.var i) M) Q := o
  unfold evE at o
  split at o
  · rename_i d e1
    obtain ⟨v, e2, r⟩ := ss.val i d e1
    exact ⟨v, e2, OutR.ok o sm r⟩
  · exact (show False from o).elim
theorem bor_ok (g : Good T Φ n N fx sc X W) {i : Nat} {e : Expr} (h : varB N sc i e = true) : PE X e (TO1 X W (ev1 Φ n (.bor i))) := by
  obtain ⟨x, pos, rfl, h1, h2, h3, h4⟩ := var_shape h
  refine pe_imp (pe_var (by rw [g.hN]; exact h1) (by rw [g.hsc]; exact h2) h3 h4) fun σ H Q ⟨F, ρ, σ', M, sm, ss, o⟩ => ?_
  have o : OutR X.K X.mg W F ρ H σ (RO X.K σ' σ) (evE Φ n σ' (.bor i) M) Q := o
  unfold evE at o
  split at o
  · rename_i c e1
    obtain ⟨a, ob, e2, _⟩ := ss.own i c e1
    exact ⟨.ref a, e2, OutR.ok o sm (.inr ⟨i, c, e1, e2, rfl⟩)⟩
  · exact (show False from o).elim
end
end Mi
set_option Elab.async false
set_option linter.all false
set_option maxRecDepth 100000
set_option maxHeartbeats 2000000
/-! Mi, part 9: primitives in the text. -/
namespace Mi
open PySem PySem.Spec PyProof.Rows L2
section
variable {T : Tab} {Φ : Fn} {n : Nat} {N : List Str} {fx : Str → Bool} {sc : Scope} {X : Cx} {W : WX}
/-- operands in the text -/
inductive OpL (Φ : Fn) (n : Nat) (X : Cx) (W : WX) : List E → List Expr → Prop
  | nil : OpL Φ n X W [] []
  | cons {c : E} {cs : List E} {e : Expr} {es : List Expr} : PE X e (TO1 X W (ev1 Φ n c)) → OpL Φ n X W cs es → OpL Φ n X W (c :: cs) (e :: es)
theorem OpL.one {as : List E} {x : Expr} (h : OpL Φ n X W as [x]) : ∃ a, as = [a] ∧ PE X x (TO1 X W (ev1 Φ n a)) := by
  cases h with
  | cons a r => cases r; exact ⟨_, rfl, a⟩
theorem OpL.two {as : List E} {x y : Expr} (h : OpL Φ n X W as [x, y]) : ∃ a b, as = [a, b] ∧ PE X x (TO1 X W (ev1 Φ n a)) ∧ PE X y (TO1 X W (ev1 Φ n b)) := by
  cases h with
  | cons a r =>
    obtain ⟨b, rfl, q⟩ := r.one
    exact ⟨_, b, rfl, a, q⟩
theorem OpL.three {as : List E} {x y z : Expr} (h : OpL Φ n X W as [x, y, z]) : ∃ a b c, as = [a, b, c] ∧ PE X x (TO1 X W (ev1 Φ n a)) ∧ PE X y (TO1 X W (ev1 Φ n b)) ∧ PE X z (TO1 X W (ev1 Φ n c)) := by
  cases h with
  | cons a r =>
    obtain ⟨b, c, rfl, q⟩ := r.two
    exact ⟨_, b, c, rfl, a, q⟩
theorem OpL.pa {as : List E} {es : List Expr} (h : OpL Φ n X W as es) : es.all notStar = true → PA X es (TOs X W (evs Φ n as)) := by
  induction h with
  | nil => exact fun _ => pa_imp pa_nil fun σ H Q ⟨F, ρ, σ', M, sm, ss, o⟩ => OutR.ok (show OutR X.K X.mg W F ρ H σ (ROs X.K σ' σ) (.ok [] M) Q from o) sm .nil
  | @cons c cs e es a r ih =>
    intro hs
    have h2 := Bool.and_eq_true_iff.mp (show (notStar e && es.all notStar) = true from hs)
    refine pa_imp (pa_cons a (ih h2.2) (star_cons h2.1)) fun σ H Q q => ?_
    refine Tev.bind (f := fun σ d M => (evEs Φ n σ cs M).bind fun ds M => .ok (d :: ds) M) q (fun σ M => by simp only [evs, ev1, evEs]) fun v d M' σ' F' ρ' H' sm ss r o => ?_
    exact ⟨F', ρ', σ', M', sm, ss, OutR.bind o fun w ds M2 F2 ρ2 H2 st sm2 r2 o2 => OutR.ok (show OutR X.K X.mg W F2 ρ2 H2 σ (ROs X.K σ' σ) (.ok (d :: ds) M2) Q from o2) sm2 (.cons (r.mono st) r2)⟩
theorem TE1.tC {t : TE} {e : Expr} (h : PE X e t) (i : ∀ σ H Q, TE1 X W ev σ H Q → t σ H Q) : PE X e (TE1 X W ev) := pe_imp h i

/-- a binary operator -/
theorem opP_ok {op : Operator} {p : P} (h : opOfP p = some op) : OpR X (binaryOp op) (rP2 X.K n p) := by
  cases p <;> cases h
  · exact add_ok
  · exact sub_ok
  · exact mul_ok
  · exact fdiv_ok
  · exact mod_ok
  · exact pow_ok
theorem cmpP_ok (u : X.A.units + 16 * n + 152 < cLine) {op : CmpOp} {p : P} (h : cmpOfP p = some op) : OpR X (compareOp op) (rP2 X.K n p) := by
  cases p <;> cases h
  · exact eq_ok u
  · exact ne_ok u
  · exact lt_ok
  · exact le_ok
  · exact gt_ok
  · exact ge_ok
  · exact in_ok u
  · exact nin_ok u
theorem noSet_mark {b : Expr} {op : CmpOp} (h : noSet b = true) : behindInMarks op b = false := by
  cases b <;> first | rfl | cases h
theorem isNone_shape {b : Expr} (h : isNone b = true) : ∃ j pos, b = .Constant .none j pos := by
  cases b <;> first
    | cases h
    | skip
  rename_i c j pos
  cases c <;> first
    | exact ⟨j, pos, rfl⟩
    | cases h
theorem isBool_shape {k : Bool} {b : Expr} (h : isBool k b = true) : ∃ j pos, b = .Constant (.bool k) j pos := by
  cases b <;> first
    | cases h
    | skip
  rename_i c j pos
  cases c <;> first
    | cases h
    | skip
  rename_i c
  have e : k = c := by simpa [isBool] using h
  subst e
  exact ⟨_, _, rfl⟩
/-- a comparison: as a value by a reading t -/
theorem cmp_shape (g : Good T Φ n N fx sc X W) {p : P} {a b : Expr} {op : CmpOp} {pos : Pos} {es : List Expr} {as : List E} (h : primEs sc p (.Compare a [op] [b] pos) = some es) (ho : OpL Φ n X W as es) :
    ∃ r tb ta, OpR X (compareOp op) r ∧ PE X a ta ∧ PE X b tb ∧ behindInMarks op b = false ∧ ∀ σ H Q, TE1 X W (ev1 Φ n (.prim p as)) σ H Q → tOp r ta tb σ H Q := by
  have u := g.bse.units
  have h : cmpEs p a op b = some es := h
  unfold cmpEs at h
  split at h
  · rename_i c
    cases h
    obtain ⟨c1, c2, rfl, q1, q2⟩ := ho.two
    exact ⟨_, _, _, cmpP_ok u c.1, q1, q2, noSet_mark c.2, fun σ H Q q => Mi.two q⟩
  · split at h
    · split at h
      · rename_i c
        cases h
        obtain ⟨j, p2, rfl⟩ := isNone_shape c
        obtain ⟨c1, rfl, q1⟩ := ho.one
        refine ⟨_, _, _, isn_ok (n := n), q1, pe_non, rfl, fun σ H Q q => ?_⟩
        exact (Mi.one q).mono (fun _ _ _ _ _ _ r => r) fun v H' z => ⟨rfl, z⟩
      · cases h
    · split at h
      · rename_i c
        cases h
        obtain ⟨j, p2, rfl⟩ := isNone_shape c
        obtain ⟨c1, rfl, q1⟩ := ho.one
        refine ⟨_, _, _, isnn_ok (n := n), q1, pe_non, rfl, fun σ H Q q => ?_⟩
        exact (Mi.one q).mono (fun _ _ _ _ _ _ r => r) fun v H' z => ⟨rfl, z⟩
      · cases h
    · split at h
      · rename_i k c
        cases h
        obtain ⟨j, p2, rfl⟩ := isBool_shape c
        obtain ⟨c1, rfl, q1⟩ := ho.one
        refine ⟨_, _, _, isB_ok (n := n), q1, pe_bl, rfl, fun σ H Q q => ?_⟩
        exact (Mi.one q).mono (fun _ _ _ _ _ _ r => r) fun v H' z => ⟨_, rfl, z⟩
      · cases h
    · split at h
      · rename_i k c
        cases h
        obtain ⟨j, p2, rfl⟩ := isBool_shape c
        obtain ⟨c1, rfl, q1⟩ := ho.one
        refine ⟨_, _, _, isnB_ok (n := n), q1, pe_bl, rfl, fun σ H Q q => ?_⟩
        exact (Mi.one q).mono (fun _ _ _ _ _ _ r => r) fun v H' z => ⟨_, rfl, z⟩
      · cases h
    · cases h
theorem noSlice_ix {b : Expr} (h : noSlice b = true) : PlainIx b := by
  intro o i
  cases b <;> first | rfl | cases h
/-- a built-in function that a primitive calls -/
theorem fnP_ok (g : Good T Φ n N fx sc X W) {p : P} {y : Str} {b : Bool} (h : fnOfP p = some (y, b)) : X.mg y = none ∧ y ≠ "__name__" ∧ (y == ("__debug__" : Str)) = false ∧
    ((∃ id, bootBuiltins y = some (.builtin id) ∧ CallR X (.builtin id) (rPn X.K n p)) ∨ ∃ t, bootBuiltins y = some (.type t) ∧ CallR X (.type t) (rPn X.K n p)) := by
  have hc := g.calm
  cases p <;> cases h <;> refine ⟨g.bse.free _ (by decide +kernel), by decide +kernel, by decide +kernel, ?_⟩
  · exact .inl ⟨_, boot_len, len_ok⟩
  · exact .inr ⟨_, by decide +kernel, tuple_ok⟩
  · exact .inr ⟨_, by decide +kernel, list_ok hc⟩
  · exact .inl ⟨_, by decide +kernel, sorted_ok hc⟩
  · exact .inl ⟨_, by decide +kernel, min_ok hc⟩
  · exact .inl ⟨_, by decide +kernel, max_ok hc⟩
  · exact .inr ⟨_, by decide +kernel, int_ok⟩
  · exact .inl ⟨_, by decide +kernel, all_ok hc⟩
  · exact .inl ⟨_, by decide +kernel, any_ok hc⟩
/-- a value's type -/
def tyD : D → String
  | .non => "NoneType"
  | .bl _ => "bool"
  | .int _ => "int"
  | .str _ => "str"
  | .tup _ => "tuple"
  | .lst _ => "list"
  | .dct _ => "dict"
  | .ref _ => "object"
theorem ty_of {K : PySem.W.Frag} {F : Hp} {ρ : List Addr} {M : MS} {H : Hp} {x : V} {d : D} {t : Ty1} {b : Bool} (lk : Lk K F ρ H x d) (sm : SimM K F ρ M H) (h : isiD t d = some b) : L2.TyX K H x (.type (tyD d)) ∧ PySem.W.kitOne K (.type (tyD d)) (.type (tyN t)) = some b := by
  cases d with
  | non => cases lk.non; exact ⟨.base .non, by cases t <;> cases h <;> rfl⟩
  | bl c => cases lk.bl; exact ⟨.base (.bl c), by cases t <;> cases h <;> rfl⟩
  | int c => cases lk.int; exact ⟨.base (.int c), by cases t <;> cases h <;> rfl⟩
  | str c => cases lk.str; exact ⟨.base (.str c), by cases t <;> cases h <;> rfl⟩
  | tup ds =>
    obtain ⟨a, vs, rfl, h1, _⟩ := lk.tup sm
    refine ⟨?_, by cases t <;> cases h <;> rfl⟩
    rcases h1 with (e | ⟨o, e⟩) | ⟨o, its, m, e, c, _⟩
    · exact .base (.tup e)
    · exact .fTuple e
    · exact .kTuple e c
  | lst ds =>
    obtain ⟨a, vs, rfl, h1, _⟩ := lk.lst sm
    refine ⟨?_, by cases t <;> cases h <;> rfl⟩
    rcases h1 with (e | ⟨o, e⟩) | ⟨o, its, m, e, c, _⟩
    · exact .base (.lst e)
    · exact .base (.frz e)
    · exact .kList e c
  | dct ds =>
    obtain ⟨a, vs, rfl, h1, _⟩ := lk.dct sm
    exact ⟨.base (.dK h1), by cases t <;> cases h <;> rfl⟩
  | ref j => cases t <;> cases h
theorem boot_ty (t : Ty1) : bootBuiltins (Str.ofString (tyN t)) = some (.type (tyN t)) := by cases t <;> decide +kernel
theorem ty_free (t : Ty1) : Str.ofString (tyN t) ∈ blts ∧ Str.ofString (tyN t) ≠ "__name__" ∧ (Str.ofString (tyN t) == ("__debug__" : Str)) = false := by cases t <;> decide +kernel
theorem gl_of (g : Good T Φ n N fx sc X W) {x : Str} (h : glB sc x = true) : Gl X x := by
  show X.env.scope.names.lookup x = _
  rw [g.hsc]
  exact glB_ok h
theorem prim_ok (g : Good T Φ n N fx sc X W) {p : P} {as : List E} {e : Expr} {es : List Expr} (h : primEs sc p e = some es) (ho : OpL Φ n X W as es) : PE X e (TE1 X W (ev1 Φ n (.prim p as))) := by
  have u := g.bse.units
  have h' := h
  unfold primEs at h
  split at h
  · split at h
    · rename_i c
      cases h
      obtain ⟨c1, c2, rfl, q1, q2⟩ := ho.two
      exact pe_imp (pe_op (opP_ok c) q1 q2) fun σ H Q q => Mi.two q
    · cases h
  · split at h
    · rename_i c
      cases h
      subst c
      obtain ⟨c1, rfl, q1⟩ := ho.one
      exact pe_imp (pe_un neg_ok q1) fun σ H Q q => Mi.one q
    · cases h
  · obtain ⟨r, tb, ta, o1, o2, o3, o4, o5⟩ := cmp_shape g h' ho
    exact pe_imp (pe_cmpR o1 o2 o3 o4) o5
  · split at h
    · rename_i c
      cases h
      obtain ⟨c0, c'⟩ := c
      subst c0
      obtain ⟨c1, c2, rfl, q1, q2⟩ := ho.two
      exact pe_imp (pe_ix (item_ok (by omega)) q1 q2 (noSlice_ix c')) fun σ H Q q => Mi.two q
    · cases h
  · rename_i xn pp aa as' pos
    split at h
    · rename_i t
      unfold isiEs at h
      split at h
      · rename_i a y py heq
        cases heq
        split at h
        · rename_i c
          cases h
          obtain ⟨rfl, c1, rfl, c2, c3⟩ := c
          obtain ⟨c0, rfl, q⟩ := ho.one
          obtain ⟨f1, f2, f3⟩ := ty_free t
          have pty : PE X (.Name (Str.ofString (tyN t)) py) (tC (.ty (tyN t))) := pe_bltn (gl_of g c2) (g.bse.free _ f1) (boot_ty t) rfl f2 f3
          refine pe_imp (pe_callB L2.call_isi (gl_of g c1) (g.bse.free _ (by decide +kernel)) (by decide +kernel) (pa_cons q (pa_cons pty pa_nil) (star_cons c3)) (by decide +kernel) (by decide +kernel) (star_cons c3) (star_any rfl)) fun σ H Q z => ?_
          refine (Mi.one z).mono (fun _ _ _ _ _ _ r => r) fun v H' ⟨F, ρ, M, d, sm, lk, o⟩ => ?_
          have o : OutP X.K F ρ M H' ((isiD t d).map .bl) Q := o
          cases hb : isiD t d with
          | none => rw [hb] at o; exact (show False from o).elim
          | some b =>
            rw [hb] at o
            obtain ⟨k1, k2⟩ := ty_of lk sm hb
            exact ⟨v, .ty (tyN t), _, _, b, rfl, .ty _, k1, k2, OutP.here (show OutP X.K F ρ M H' (some (.bl b)) Q from o) sm (.bl _)⟩
        · cases h
      · cases h
    · unfold revEs at h
      split at h
      · rename_i y py a py2 heq
        cases heq
        split at h
        · rename_i c
          cases h
          obtain ⟨rfl, c1, rfl, c2, c3⟩ := c
          obtain ⟨c0, rfl, q⟩ := ho.one
          refine pe_imp (pe_listRev g.calm (gl_of g c1) (g.bse.free _ (by decide +kernel)) (gl_of g c2) (g.bse.free _ (by decide +kernel)) q (star_cons c3)) fun σ H Q z => ?_
          refine (Mi.one z).mono (fun _ _ _ _ _ _ r => r) fun v H' ⟨F, ρ, M, d, sm, lk, o⟩ => ?_
          cases d with
          | tup ds =>
            obtain ⟨b, vs, rfl, h1, h2⟩ := lk.tup sm
            exact ⟨b, vs, rfl, h1, OutP.lst (show OutP X.K F ρ M H' (some (.lst ds.reverse)) Q from o) sm h2.reverse⟩
          | _ => exact (show False from o).elim
        · cases h
      · cases h
    · split at h
      · rename_i y b c
        split at h
        · rename_i d
          cases h
          obtain ⟨d1, d2, d3⟩ := d
          subst d1
          have d4 := Bool.and_eq_true_iff.mp (show (notStar _ && List.all _ notStar) = true from d3)
          have pa := ho.pa d3
          obtain ⟨m1, m2, m3, m4⟩ := fnP_ok g c
          rcases m4 with ⟨id, b1, b2⟩ | ⟨t, b1, b2⟩
          · exact pe_imp (pe_callB b2 (gl_of g d2) m1 b1 pa m2 m3 (star_cons d4.1) (star_any d4.2)) fun σ H Q q => Mi.many q
          · exact pe_imp (pe_callTy b2 (gl_of g d2) m1 b1 pa m2 m3 (star_cons d4.1) (star_any d4.2)) fun σ H Q q => Mi.many q
        · cases h
      · cases h
  · cases h
/-! ### d.get(k), d.get(k, x) -/
theorem base_of {o : Expr} {m : Str} {env : Env} (h : baseB o = true) : attributeBase o m env (eval o env) = eval o env := by
  cases o <;> first | rfl | cases h
theorem m1_of {o e : Expr} {ap cp : Pos} (h1 : baseB o = true) (h2 : notStar e = true) (h3 : (ap.endLine == cp.line) = true) : M1 X o "get" ap e cp :=
  ⟨base_of h1, by rw [star_cons h2]; rfl, h3, by rw [star_cons h2]; rfl⟩
theorem m2_of {o e f : Expr} {ap cp : Pos} (h1 : baseB o = true) (h2 : notStar e = true) (h3 : notStar f = true) (h4 : (ap.endLine == cp.line) = true) : M2 X o "get" ap e f cp :=
  ⟨base_of h1, by rw [star_cons h2, star_cons h3]; rfl, h4, by rw [star_cons h2, star_cons h3]; rfl⟩
/-- a dict among operands -/
theorem dct_opn {K : PySem.W.Frag} {F : Hp} {ρ : List Addr} {M : MS} {σ : Sg} {σR : L2.St} {H : Hp} {v : V} {ds : List (Key × D)} (h : Opn K F ρ σ σR v (.dct ds)) (sm : SimM K F ρ M H) (ss : SimS K F ρ σ σR H) : ∃ a kvs, v = .ref a ∧ H a = some (.dK kvs) ∧ RepK K F ρ kvs ds :=
  Lk.dct (h.look sm ss) sm
theorem find_rd {K : PySem.W.Frag} {F : Hp} {ρ : List Addr} {kvs : List (Key × V)} {ds : List (Key × D)} (r : RepK K F ρ kvs ds) (k : Key) {z : V} {zd : D} (rz : Rep K F ρ z zd) : Rep K F ρ ((valV kvs k).getD z) ((getD ds k).getD zd) := by
  rcases r.find k with ⟨h1, h2⟩ | ⟨v, d, h1, h2, h3⟩
  · rw [h1, h2]; exact rz
  · rw [h1, h2]; exact h3
theorem get1_ok (g : Good T Φ n N fx sc X W) {o k : E} {x y : Expr} {ap cp : Pos} (ho : PE X x (TO1 X W (ev1 Φ n o))) (hk : PE X y (TE1 X W (ev1 Φ n k))) (h1 : baseB x = true) (h2 : notStar y = true) (h3 : (ap.endLine == cp.line) = true) :
    PE X (.Call (.Attribute x "get" ap) [y] [] cp) (TE1 X W (ev1 Φ n (.get1 o k))) := by
  have u := g.bse.units
  refine pe_imp (pe_dget1 (by omega) ho hk (m1_of h1 h2 h3)) fun σR H Q q => ?_
  unfold tDGet1
  refine Tev.bind (ev := ev1 Φ n o) (f := fun σ d M => match d with
    | .dct kvs => (evE Φ n σ k M).bind fun k M => .of ((keyO k).map fun k => (getD kvs k).getD .non) M
    | _ => .bad) q (fun σ M => by simp only [ev1, evE] <;> rfl) fun v d M1 σ F1 ρ1 H1 sm1 ss1 r1 o1 => ?_
  cases d with
  | dct ds =>
    obtain ⟨a, kvs, rfl, h1, r⟩ := dct_opn r1 sm1 ss1
    refine ⟨a, rfl, .inl ⟨kvs, .inl h1⟩, F1, ρ1, σ, M1, sm1, ss1, OutR.bind o1 fun w kd M2 F2 ρ2 H2 st2 sm2 r2 o2 => ?_⟩
    obtain ⟨a', kvs2, e2, h2, rr⟩ := dct_opn (r1.mono st2) sm2 (ss1.step st2)
    cases e2
    cases hk : keyO kd with
    | none => rw [hk] at o2; exact (show False from o2).elim
    | some kk =>
      rw [hk] at o2
      have ek := (Lk.rep (H := H2) r2).key hk
      subst ek
      exact ⟨_, DGet.k h2, OutR.ok (show OutR X.K X.mg W F2 ρ2 H2 σR (RV X.K) (.ok ((getD ds kk).getD .non) M2) Q from o2) sm2 (find_rd rr kk .non)⟩
  | _ => exact (show False from o1).elim
theorem get2_ok (g : Good T Φ n N fx sc X W) {o k z : E} {x y w : Expr} {ap cp : Pos} (ho : PE X x (TO1 X W (ev1 Φ n o))) (hk : PE X y (TE1 X W (ev1 Φ n k))) (hz : PE X w (TE1 X W (ev1 Φ n z))) (h1 : baseB x = true) (h2 : notStar y = true) (h4 : notStar w = true) (h3 : (ap.endLine == cp.line) = true) :
    PE X (.Call (.Attribute x "get" ap) [y, w] [] cp) (TE1 X W (ev1 Φ n (.get2 o k z))) := by
  have u := g.bse.units
  refine pe_imp (pe_dget2 (by omega) ho hk hz (m2_of h1 h2 h4 h3)) fun σR H Q q => ?_
  unfold tDGet2
  refine Tev.bind (ev := ev1 Φ n o) (f := fun σ d M => match d with
    | .dct kvs => (evE Φ n σ k M).bind fun k M => (evE Φ n σ z M).bind fun z M => .of ((keyO k).map fun k => (getD kvs k).getD z) M
    | _ => .bad) q (fun σ M => by simp only [ev1, evE] <;> rfl) fun v d M1 σ F1 ρ1 H1 sm1 ss1 r1 o1 => ?_
  cases d with
  | dct ds =>
    obtain ⟨a, kvs, rfl, h1, r⟩ := dct_opn r1 sm1 ss1
    refine ⟨a, rfl, .inl ⟨kvs, .inl h1⟩, F1, ρ1, σ, M1, sm1, ss1, OutR.bind o1 fun u kd M2 F2 ρ2 H2 st2 sm2 r2 o2 => ?_⟩
    refine ⟨F2, ρ2, σ, M2, sm2, ss1.step st2, OutR.bind o2 fun t td M3 F3 ρ3 H3 st3 sm3 r3 o3 => ?_⟩
    have stT := st2.trans st3
    obtain ⟨a', kvs2, e2, h2, rr⟩ := dct_opn (r1.mono stT) sm3 (ss1.step stT)
    cases e2
    cases hk : keyO kd with
    | none => rw [hk] at o3; exact (show False from o3).elim
    | some kk =>
      rw [hk] at o3
      have ek := (Lk.rep (H := H2) r2).key hk
      subst ek
      exact ⟨_, DGet.k h2, OutR.ok (show OutR X.K X.mg W F3 ρ3 H3 σR (RV X.K) (.ok ((getD ds kk).getD td) M3) Q from o3) sm3 (find_rd rr kk r3)⟩
  | _ => exact (show False from o1).elim
end
end Mi
set_option Elab.async false
set_option linter.all false
set_option maxRecDepth 100000
set_option maxHeartbeats 2000000
/-! Mi, part 10: every expression that passes the look is as it is evaluated. -/
namespace Mi
open PySem PySem.Spec PyProof.Rows L2
section
variable {T : Tab} {Φ : Fn} {n : Nat} {N : List Str} {fx : Str → Bool} {sc : Scope} {X : Cx} {W : WX}
/-- as a test: the truth is a bool -/
abbrev TTv (X : Cx) (W : WX) (ev : Sg → MS → Rs D) : TT := fun σR H Q => TE1 X W ev σR H fun v H' => ∃ b, v = .bl b ∧ Q b H'
theorem glb_ok (g : Good T Φ n N fx sc X W) {x : Str} {d : D} {pos : Pos} (h1 : glB sc x = true) (h2 : okName x = true) (h3 : conIn x d T.consts = true) : PE X (.Name x pos) (TE1 X W (ev1 Φ n (.glb x d))) := by
  obtain ⟨u, v, e1, r1, r2⟩ := g.bse.consts x d h3
  refine pe_imp (pe_glob (gl_of g h1) e1 r1 (okName_ok h2).1) fun σ H Q ⟨F, ρ, σ', M, sm, ss, o⟩ => OutR.ok (show OutR X.K X.mg W F ρ H σ (RV X.K) (.ok d M) Q from o) sm (r2.mono (fun a ob z => by cases z) (List.nil_prefix))
theorem evEs_len {σ : Sg} : ∀ {es : List E} {M M' : MS} {ds : List D}, evEs Φ n σ es M = .ok ds M' → ds.length = es.length
  | [], M, M', ds, h => by
    simp only [evEs, Rs.ok.injEq] at h
    rw [← h.1]
    rfl
  | e :: es, M, M', ds, h => by
    simp only [evEs] at h
    cases h1 : evE Φ n σ e M with
    | ok d M1 =>
      rw [h1] at h
      simp only [Rs.bind_ok] at h
      cases h2 : evEs Φ n σ es M1 with
      | ok ds2 M2 =>
        rw [h2] at h
        simp only [Rs.bind_ok, Rs.ok.injEq] at h
        rw [← h.1, List.length_cons, List.length_cons, evEs_len h2]
      | exc x M2 => rw [h2] at h; cases h
      | bad => rw [h2] at h; cases h
    | exc x M2 => rw [h1] at h; cases h
    | bad => rw [h1] at h; cases h
theorem tup_ok {es : List E} {xs : List Expr} {k : Nat} {pos : Pos} (h : PA X xs (TEs X W (evs Φ n es))) (hz : es.length ≤ limit) : PE X (.Tuple xs k pos) (TE1 X W (ev1 Φ n (.tup es))) := by
  refine pe_imp (pe_tup h) fun σR H Q ⟨F, ρ, σ, M, sm, ss, o⟩ => ⟨F, ρ, σ, M, sm, ss, ?_⟩
  have o : OutR X.K X.mg W F ρ H σR (RV X.K) (evE Φ n σ (.tup es) M) Q := o
  simp only [evE] at o
  show OutR X.K X.mg W F ρ H σR (RVs X.K) (evEs Φ n σ es M) _
  cases e : evEs Φ n σ es M with
  | ok ds M1 =>
    rw [e] at o
    intro vs F' ρ' H' st sm' r
    refine ⟨by rw [← limit_eq, r.length, evEs_len e]; exact hz, OutP.tup (OutR.of (o := some (.tup ds)) (OutR.after st o)) sm' r⟩
  | exc x M1 => rw [e] at o; exact o
  | bad => rw [e] at o; exact o
/-- a call of a def -/
theorem call_ok (g : Good T Φ n N fx sc X W) {f : Nat} {as : List E} {x : Str} {p pos : Pos} {a : Expr} {r : List Expr} (hf : T.fn f x (r.length + 1) = true) (hg : glB sc x = true) (hn : okName x = true) (ha : PA X (a :: r) (TEs X W (evs Φ n as))) (hl : as.length = r.length + 1)
    (hs : (a :: r).all notStar = true) : PE X (.Call (.Name x p) (a :: r) [] pos) (TE1 X W (ev1 Φ n (.call f as))) := by
  unfold Tab.fn at hf
  cases e : T.funs[f]? with
  | none => rw [e] at hf; cases hf
  | some q =>
    obtain ⟨y, np, nd⟩ := q
    rw [e] at hf
    simp only [Bool.and_eq_true, decide_eq_true_eq] at hf
    obtain ⟨⟨rfl, h1⟩, h2⟩ := hf
    obtain ⟨fa, fd, ps, dvs, ds, dds, m1, m2, fo, bi, vd, rd, hlen, eqΦ⟩ := g.bse.funs f x np nd (r.length + 1) e h1 h2
    have s2 := Bool.and_eq_true_iff.mp (show (notStar a && r.all notStar) = true from hs)
    refine pe_imp (pe_callSD (E := WE W) fo g.bse.rm (gl_of g hg) m1 m2 bi vd (fun σ => passAt g.tk σ) ha (okName_ok hn).1 (star_cons s2.1) (star_any s2.2)) fun σR H Q ⟨F, ρ, σ, M, sm, ss, o⟩ => ⟨F, ρ, σ, M, sm, ss, ?_⟩
    have o : OutR X.K X.mg W F ρ H σR (RV X.K) (evE Φ n σ (.call f as) M) Q := o
    simp only [evE] at o
    show OutR X.K X.mg W F ρ H σR (RVs X.K) (evEs Φ n σ as M) _
    cases e : evEs Φ n σ as M with
    | ok es M1 =>
      rw [e] at o
      intro vs F' ρ' H' st sm' r
      have o : OutR X.K X.mg W F ρ H σR (RV X.K) (Φ f es M1) Q := o
      have le := evEs_len e
      refine ⟨?_, F', ρ', M1, es ++ dds, sm', r.append (rd.mono (fun a ob z => by cases z) List.nil_prefix), ?_⟩
      · rw [List.length_append, r.length, rd.length]
        omega
      · rw [← eqΦ es M1 (by omega)]
        have o := OutR.after st o
        cases q : Φ f es M1 with
        | ok d M2 => rw [q] at o; exact o
        | exc x M2 => rw [q] at o; exact o
        | bad => rw [q] at o; exact o
    | exc x M1 => rw [e] at o; exact o
    | bad => rw [e] at o; exact o

/-! ### and, or, not, if -/
theorem testO_ok {d : D} {b : Bool} (h : testO d = some b) : d = .bl b := by
  cases d <;> cases h
  rfl
/-- a test's reading from the evaluation: what follows a bool -/
theorem Tev.test {σR : L2.St} {H : Hp} {Q : VK} {Q' : V → Hp → Prop} {ev ev' : Sg → MS → Rs D} {f : Sg → Bool → MS → Rs D} (h : TE1 X W ev' σR H Q) (e : ∀ σ M, ev' σ M = (ev σ M).bind fun d M => match testO d with | some b => f σ b M | none => .bad)
    (next : ∀ b M' σ F' ρ' H', SimM X.K F' ρ' M' H' → SimS X.K F' ρ' σ σR H' → OutR X.K X.mg W F' ρ' H' σR (RV X.K) (f σ b M') Q → Q' (.bl b) H') : TE1 X W ev σR H Q' := by
  refine Tev.bind h e fun v d M' σ F' ρ' H' sm ss r o => ?_
  cases q : testO d with
  | none => rw [q] at o; exact (show False from o).elim
  | some b =>
    rw [q] at o
    have ed := testO_ok q
    subst ed
    cases r
    exact next b M' σ F' ρ' H' sm ss o
theorem not_ok {a : E} {x : Expr} {pos : Pos} (h : PE X x (TE1 X W (ev1 Φ n a))) : PE X (.UnaryOp .Not x pos) (TE1 X W (ev1 Φ n (.not a))) := by
  refine pe_imp (pe_not h) fun σR H Q q => ?_
  refine Tev.test (f := fun σ b M => .ok (.bl (!b)) M) q (fun σ M => by simp only [ev1, evE] <;> rfl) fun b M' σ F' ρ' H' sm ss o => ⟨b, rfl, OutR.ok o sm (.bl _)⟩
theorem notT_ok {a : E} {x : Expr} {pos : Pos} (h : PT X x (TTv X W (ev1 Φ n a))) : PT X (.UnaryOp .Not x pos) (TTv X W (ev1 Φ n (.not a))) := by
  refine pt_imp (pt_not h) fun σR H Q q => ?_
  refine Tev.test (f := fun σ b M => .ok (.bl (!b)) M) q (fun σ M => by simp only [ev1, evE] <;> rfl) fun b M' σ F' ρ' H' sm ss o => ⟨b, rfl, ?_⟩
  obtain ⟨c, e, q⟩ := OutR.ok o sm (.bl _)
  cases e
  exact q
theorem ifx_ok {c a b : E} {x y z : Expr} {pos : Pos} (hc : PT X x (TTv X W (ev1 Φ n c))) (ha : PE X y (TE1 X W (ev1 Φ n a))) (hb : PE X z (TE1 X W (ev1 Φ n b))) : PE X (.IfExp x y z pos) (TE1 X W (ev1 Φ n (.ifx c a b))) := by
  refine pe_imp (pe_ifExp hc ha hb) fun σR H Q q => ?_
  refine Tev.test (f := fun σ k M => match k with | true => evE Φ n σ a M | false => evE Φ n σ b M) q (fun σ M => ?_) fun k M' σ F' ρ' H' sm ss o => ⟨k, rfl, ?_⟩
  · simp only [ev1, evE]
    congr 1
    funext d M
    cases testO d with
    | none => rfl
    | some k => cases k <;> rfl
  · cases k with
    | true => exact ⟨F', ρ', σ, M', sm, ss, o⟩
    | false => exact ⟨F', ρ', σ, M', sm, ss, o⟩
theorem and_ok {pos : Pos} : ∀ {cs : List E} {xs : List Expr}, Paired (fun (c : E) (x : Expr) => PE X x (TE1 X W (ev1 Φ n c))) cs xs → cs ≠ [] → PE X (.BoolOp .And xs pos) (TE1 X W (ev1 Φ n (.and cs)))
  | [], _, _, h => absurd rfl h
  | [c], [x], .cons a .nil, _ => by
    refine pe_imp (pe_one a) fun σR H Q q => ?_
    refine Tev.test (f := fun σ b M => .ok (.bl b) M) q (fun σ M => ?_) fun b M' σ F' ρ' H' sm ss o => OutR.ok o sm (.bl _)
    simp only [ev1, evE, evAnd]
    congr 1
    funext d M
    cases testO d with
    | none => rfl
    | some k => cases k <;> rfl
  | c :: c2 :: cs, x :: y :: r, .cons a b, _ => by
    refine pe_imp (pe_and a (and_ok b (by simp))) fun σR H Q q => ?_
    refine Tev.test (f := fun σ k M => match k with | true => evE Φ n σ (.and (c2 :: cs)) M | false => .ok (.bl false) M) q (fun σ M => ?_) fun k M' σ F' ρ' H' sm ss o => ⟨k, rfl, ?_⟩
    · simp only [ev1, evE, evAnd]
      congr 1
      funext d M
      cases testO d with
      | none => rfl
      | some k => cases k <;> rfl
    · cases k with
      | true => exact ⟨F', ρ', σ, M', sm, ss, o⟩
      | false => exact OutR.ok o sm (.bl _)
theorem or_ok {pos : Pos} : ∀ {cs : List E} {xs : List Expr}, Paired (fun (c : E) (x : Expr) => PE X x (TE1 X W (ev1 Φ n c))) cs xs → cs ≠ [] → PE X (.BoolOp .Or xs pos) (TE1 X W (ev1 Φ n (.or cs)))
  | [], _, _, h => absurd rfl h
  | [c], [x], .cons a .nil, _ => by
    refine pe_imp (pe_one a) fun σR H Q q => ?_
    refine Tev.test (f := fun σ b M => .ok (.bl b) M) q (fun σ M => ?_) fun b M' σ F' ρ' H' sm ss o => OutR.ok o sm (.bl _)
    simp only [ev1, evE, evOr]
    congr 1
    funext d M
    cases testO d with
    | none => rfl
    | some k => cases k <;> rfl
  | c :: c2 :: cs, x :: y :: r, .cons a b, _ => by
    refine pe_imp (pe_or a (or_ok b (by simp))) fun σR H Q q => ?_
    refine Tev.test (f := fun σ k M => match k with | true => .ok (.bl true) M | false => evE Φ n σ (.or (c2 :: cs)) M) q (fun σ M => ?_) fun k M' σ F' ρ' H' sm ss o => ⟨k, rfl, ?_⟩
    · simp only [ev1, evE, evOr]
      congr 1
      funext d M
      cases testO d with
      | none => rfl
      | some k => cases k <;> rfl
    · cases k with
      | true => exact OutR.ok o sm (.bl _)
      | false => exact ⟨F', ρ', σ, M', sm, ss, o⟩
end
end Mi
set_option Elab.async false
set_option linter.all false
set_option maxRecDepth 100000
set_option maxHeartbeats 2000000
/-! Mi, part 11: what is walked; targets; comprehensions. -/
namespace Mi
open PySem PySem.Spec PyProof.Rows L2
abbrev LIt := L2.It
/-- an iterator that gives these -/
structure ItOk (K : PySem.W.Frag) (F : Hp) (ρ : List Addr) (J : LIt) (ds : List D) : Prop where
  go : ∀ F' ρ' M' H' i, (∀ a o, F a = some o → F' a = some o) → ρ <+: ρ' → SimM K F' ρ' M' H' → i < ds.length → J.go i H'
  stop : ∀ F' ρ' M' H', (∀ a o, F a = some o → F' a = some o) → ρ <+: ρ' → SimM K F' ρ' M' H' → J.stop ds.length H'
  yld : ∀ F' ρ' M' H' i d x H'', (∀ a o, F a = some o → F' a = some o) → ρ <+: ρ' → SimM K F' ρ' M' H' → ds[i]? = some d → J.yld i H' x H'' → ∃ F'', Stp F' ρ' H' F'' ρ' H'' ∧ SimM K F'' ρ' M' H'' ∧ Rep K F'' ρ' x d
section
variable {K : PySem.W.Frag} {F : Hp} {ρ : List Addr}
theorem itl_ok {a : Addr} {vs : List V} {ds : List D} (h : SqL K F a vs) (r : Reps K F ρ vs ds) : ItOk K F ρ (L2.Itl K a) ds := by
  have len := r.length
  refine ⟨fun F' ρ' M' H' i m p sm hi => ?_, fun F' ρ' M' H' m p sm => ?_, fun F' ρ' M' H' i d x H'' m p sm hd hy => ?_⟩
  · have hi' : i < vs.length := by omega
    exact ⟨vs, vs[i], sqL_mono (sqL_mono h m) sm.sub, List.getElem?_eq_getElem hi'⟩
  · exact ⟨vs, sqL_mono (sqL_mono h m) sm.sub, by omega⟩
  · obtain ⟨rfl, hy⟩ := hy
    obtain ⟨v, e, rv⟩ := r.get hd
    have e2 := hy vs (sqL_mono (sqL_mono h m) sm.sub)
    rw [e] at e2
    cases e2
    exact ⟨F', .refl, sm, rv.mono m p⟩
theorem itt_ok {a : Addr} {vs : List V} {ds : List D} (h : SqT K F a vs) (r : Reps K F ρ vs ds) : ItOk K F ρ (L2.Itt K a) ds := by
  have len := r.length
  refine ⟨fun F' ρ' M' H' i m p sm hi => ?_, fun F' ρ' M' H' m p sm => ?_, fun F' ρ' M' H' i d x H'' m p sm hd hy => ?_⟩
  · have hi' : i < vs.length := by omega
    exact ⟨vs, vs[i], sqT_mono (sqT_mono h m) sm.sub, List.getElem?_eq_getElem hi'⟩
  · exact ⟨vs, sqT_mono (sqT_mono h m) sm.sub, by omega⟩
  · obtain ⟨rfl, hy⟩ := hy
    obtain ⟨v, e, rv⟩ := r.get hd
    have e2 := hy vs (sqT_mono (sqT_mono h m) sm.sub)
    rw [e] at e2
    cases e2
    exact ⟨F', .refl, sm, rv.mono m p⟩
theorem itr_ok (lo : Int) (k : Nat) : ItOk K F ρ (L2.Itr lo k) ((List.range k).map fun (j : Nat) => D.int (lo + (j : Int))) := by
  refine ⟨fun F' ρ' M' H' i m p sm hi => ?_, fun F' ρ' M' H' m p sm => ?_, fun F' ρ' M' H' i d x H'' m p sm hd hy => ?_⟩
  · show i < k
    simpa using hi
  · show k ≤ _
    simp
  · obtain ⟨rfl, rfl⟩ := hy
    rw [List.getElem?_map, Option.map_eq_some_iff] at hd
    obtain ⟨j, hj, rfl⟩ := hd
    obtain ⟨_, e⟩ := List.getElem?_eq_some_iff.mp hj
    rw [List.getElem_range] at e
    subst e
    exact ⟨F', .refl, sm, .int _⟩
/-- a pair is laid -/
theorem pair_laid {F' : Hp} {ρ' : List Addr} {M' : MS} {H' : Hp} {p : Addr} {vs : List V} {ds : List D} (sm : SimM K F' ρ' M' H') (hp : H' p = none) (r : Reps K F' ρ' vs ds) : ∃ F'', Stp F' ρ' H' F'' ρ' (upd H' p (.tup vs)) ∧ SimM K F'' ρ' M' (upd H' p (.tup vs)) ∧ Rep K F'' ρ' (.ref p) (.tup ds) := by
  obtain ⟨s1, s2⟩ := sm.alloc (o := .tup vs) hp
  exact ⟨_, s2, s1, .tup (.inl (.inl upd_same)) (s2.reps r)⟩
theorem enumD_length : ∀ (k : Nat) (ds : List D), (enumD k ds).length = ds.length
  | _, [] => rfl
  | k, _ :: ds => by rw [enumD, List.length_cons, List.length_cons, enumD_length]
theorem enumD_get : ∀ (k : Nat) (ds : List D) (i : Nat) (d : D), (enumD k ds)[i]? = some d → ∃ e, ds[i]? = some e ∧ d = .tup [.int (k + i : Nat), e]
  | _, [], i, d, h => by simp [enumD] at h
  | k, x :: ds, 0, d, h => by
    simp [enumD] at h
    exact ⟨x, rfl, by rw [← h]; simp⟩
  | k, x :: ds, i + 1, d, h => by
    obtain ⟨e, h1, h2⟩ := enumD_get (k + 1) ds i d (by simpa [enumD] using h)
    exact ⟨e, by simpa using h1, by rw [h2]; congr 3; omega⟩
theorem ite_ok {a : Addr} {vs : List V} {ds : List D} (h : SqL K F a vs) (r : Reps K F ρ vs ds) : ItOk K F ρ (L2.Ite K a) (enumD 0 ds) := by
  have len := r.length
  refine ⟨fun F' ρ' M' H' i m p sm hi => ?_, fun F' ρ' M' H' m p sm => ?_, fun F' ρ' M' H' i d x H'' m p sm hd hy => ?_⟩
  · rw [enumD_length] at hi
    have hi' : i < vs.length := by omega
    exact ⟨vs, vs[i], sqL_mono (sqL_mono h m) sm.sub, List.getElem?_eq_getElem hi'⟩
  · exact ⟨vs, sqL_mono (sqL_mono h m) sm.sub, by rw [enumD_length]; omega⟩
  · obtain ⟨T, y, rfl, hT, rfl, hy⟩ := hy
    obtain ⟨e, h1, rfl⟩ := enumD_get 0 ds i d hd
    obtain ⟨v, e1, rv⟩ := r.get h1
    have e2 := hy vs (sqL_mono (sqL_mono h m) sm.sub)
    rw [e1] at e2
    cases e2
    refine pair_laid sm hT (.cons ?_ (.cons (rv.mono m p) .nil))
    rw [Nat.zero_add]
    exact .int _
theorem zip_get {α β γ : Type} {f : α → β → γ} : ∀ (xs : List α) (ys : List β) (i : Nat) (d : γ), (List.zipWith f xs ys)[i]? = some d → ∃ x y, xs[i]? = some x ∧ ys[i]? = some y ∧ d = f x y
  | [], _, i, d, h => by simp at h
  | _ :: _, [], i, d, h => by simp at h
  | x :: xs, y :: ys, 0, d, h => by
    simp at h
    exact ⟨x, y, rfl, rfl, h.symm⟩
  | x :: xs, y :: ys, i + 1, d, h => by
    obtain ⟨x', y', h1, h2, h3⟩ := zip_get xs ys i d (by simpa using h)
    exact ⟨x', y', by simpa using h1, by simpa using h2, h3⟩
end
section
variable {X : Cx} {W : WX} {Φ : Fn} {n : Nat}
abbrev TI1 (X : Cx) (W : WX) (ev : Sg → MS → Rs (List D)) : TI := Tev X.K X.mg W (fun _ _ F ρ _ (J : LIt) ds => ItOk X.K F ρ J ds) ev
theorem pi_imp {X : Cx} {tg e : Expr} {t t' : TI} (h : PI X tg e t) (i : ∀ σ H Q, t' σ H Q → t σ H Q) : PI X tg e t' := ⟨fun pins s σ H Q I q => h.run pins s σ H Q I (i σ H Q q)⟩
/-- a list or a tuple is walked -/
theorem pi_seq {tg l : Expr} {tl : TE} (hl : PE X l tl) : PI X tg l (fun σ H R => tl σ H fun x H1 => ∃ a, x = .ref a ∧ (((∃ xs, SqL X.K H1 a xs) ∧ R (L2.Itl X.K a) H1) ∨ ((∃ xs, SqT X.K H1 a xs) ∧ R (L2.Itt X.K a) H1))) := by
  refine ⟨fun pins s σ H R I h => L2.thn (hl.run pins s σ H _ I h) fun v s1 ⟨x, H1, I1, r1, a, e, q⟩ => ?_⟩
  subst e
  cases r1
  have me : ∀ b ∈ [s1.heap.objs.size], L2.FpOk X pins H1 b := fun b hb => by
    cases List.mem_singleton.mp hb
    exact I1.fpOk (Nat.le_refl _) (I1.hok.fresh (Nat.le_refl _))
  rcases q with ⟨⟨xs, hq⟩, q⟩ | ⟨⟨xs, hq⟩, q⟩
  · obtain ⟨its, rv, p, hz⟩ := I1.list hq
    exact wpAny_pyIter_list p.isList ⟨_, [s1.heap.objs.size], _, _, H1, rfl, I1.kept (t' := s1.toks) fun b o e => Heap.get?_push_of_some _ e, L2.turn_list a _, ⟨_, Heap.get?_push_size _ rfl, rfl, rfl⟩, me, q⟩
  · obtain ⟨its, rv, p, hz⟩ := I1.tuple hq
    exact wpAny_pyIter_tuple (show s1.heap.IsTuple a its.toArray from p) ⟨_, [s1.heap.objs.size], _, _, H1, rfl, I1.kept (t' := s1.toks) fun b o e => Heap.get?_push_of_some _ e, L2.turn_tuple a _, ⟨_, Heap.get?_push_size _ rfl, rfl, rfl⟩, me, q⟩
theorem seq_it {K : PySem.W.Frag} {F : Hp} {ρ : List Addr} {M : MS} {H : Hp} {v : V} {d : D} {ds : List D} {R : LIt → Hp → Prop} (h : seqO d = some ds) (sm : SimM K F ρ M H) (r : Rep K F ρ v d) (o : OutR K mg W F ρ H σR (fun F ρ _ J ds => ItOk K F ρ J ds) (.ok ds M) R) :
    ∃ a, v = .ref a ∧ (((∃ xs, SqL K H a xs) ∧ R (L2.Itl K a) H) ∨ ((∃ xs, SqT K H a xs) ∧ R (L2.Itt K a) H)) := by
  cases r with
  | lst h1 h2 =>
    cases h
    exact ⟨_, rfl, .inl ⟨⟨_, sqL_mono h1 sm.sub⟩, OutR.ok o sm (itl_ok h1 h2)⟩⟩
  | tup h1 h2 =>
    cases h
    exact ⟨_, rfl, .inr ⟨⟨_, sqT_mono h1 sm.sub⟩, OutR.ok o sm (itt_ok h1 h2)⟩⟩
  | _ => cases h
theorem itSeq_ok {tg e : Expr} {c : E} (h : PE X e (TE1 X W (ev1 Φ n c))) : PI X tg e (TI1 X W fun σ M => evIt Φ n σ (.seq c) M) := by
  refine pi_imp (pi_seq h) fun σR H R q => ?_
  refine Tev.bind (ev := ev1 Φ n c) (f := fun σ d M => .of (seqO d) M) q (fun σ M => by simp only [ev1, evIt]) fun v d M' σ F' ρ' H' sm ss r o => ?_
  cases z : seqO d with
  | none => rw [z] at o; exact (show False from o).elim
  | some ds =>
    rw [z] at o
    exact seq_it z sm r o
theorem itRng1_ok {tg a : Expr} {c : E} {p pos : Pos} (hg : L2.Gl X "range") (hm : X.mg "range" = none) (ha : L2.PA X [a] (TEs X W (evs Φ n [c]))) (hs : notStar a = true) : PI X tg (.Call (.Name "range" p) [a] [] pos) (TI1 X W fun σ M => evIt Φ n σ (.rng1 c) M) := by
  refine pi_imp (L2.pi_range1 hg hm ha (star_cons hs)) fun σR H R q => ?_
  unfold iRng1
  refine Tev.bind (ev := evs Φ n [c]) (f := fun σ ds M => .of (itO n (.rng1 c) ds) M) q (fun σ M => ?_) fun vs ds M' σ F' ρ' H' sm ss r o => ?_
  · simp only [evs, evIt, evEs]
    cases evE Φ n σ c M <;> rfl
  · cases r with
    | nil => exact (show False from o).elim
    | cons r rr =>
      rename_i v vs d ds
      cases rr with
      | cons r2 rr => exact (show False from (by cases r <;> exact o)).elim
      | nil =>
        cases r with
        | int b =>
          by_cases hb : -(2 ^ 62) ≤ b ∧ b < 2 ^ 62
          · have hb2 : -(2 ^ 62) ≤ (0 : Int) ∧ (0 : Int) < 2 ^ 62 ∧ -(2 ^ 62) ≤ b ∧ b < 2 ^ 62 := ⟨by omega, by omega, hb⟩
            simp only [itO, rngO, if_pos hb2, Rs.of] at o
            refine ⟨b, rfl, hb.1, hb.2, OutR.ok o sm ?_⟩
            have e := itr_ok (K := X.K) (F := F') (ρ := ρ') 0 b.toNat
            simpa using e
          · have hb2 : ¬ (-(2 ^ 62) ≤ (0 : Int) ∧ (0 : Int) < 2 ^ 62 ∧ -(2 ^ 62) ≤ b ∧ b < 2 ^ 62) := fun h => hb h.2.2
            simp only [itO, rngO, if_neg hb2, Rs.of] at o
            exact (show False from o).elim
        | _ => exact (show False from o).elim
theorem itRng2_ok {tg a b : Expr} {c e : E} {p pos : Pos} (hg : L2.Gl X "range") (hm : X.mg "range" = none) (ha : L2.PA X [a, b] (TEs X W (evs Φ n [c, e]))) (hs : notStar a = true) (hs2 : notStar b = true) : PI X tg (.Call (.Name "range" p) [a, b] [] pos) (TI1 X W fun σ M => evIt Φ n σ (.rng2 c e) M) := by
  refine pi_imp (L2.pi_range2 hg hm ha (by rw [star_cons hs, star_cons hs2]; rfl) (by rw [star_cons hs2]; rfl)) fun σR H R q => ?_
  unfold iRng2
  refine Tev.bind (ev := evs Φ n [c, e]) (f := fun σ ds M => .of (itO n (.rng2 c e) ds) M) q (fun σ M => ?_) fun vs ds M' σ F' ρ' H' sm ss r o => ?_
  · simp only [evs, evIt, evEs]
    cases evE Φ n σ c M with
    | ok d M1 =>
      simp only [Rs.bind_ok]
      cases evE Φ n σ e M1 <;> rfl
    | exc x M1 => rfl
    | bad => rfl
  · cases r with
    | nil => exact (show False from o).elim
    | cons r rr =>
      cases rr with
      | nil => exact (show False from (by cases r <;> exact o)).elim
      | cons r2 rr =>
        cases rr with
        | cons r3 rr => exact (show False from (by cases r <;> cases r2 <;> exact o)).elim
        | nil =>
          cases r with
          | int b =>
            cases r2 with
            | int k =>
              by_cases hb : -(2 ^ 62) ≤ b ∧ b < 2 ^ 62 ∧ -(2 ^ 62) ≤ k ∧ k < 2 ^ 62
              · simp only [itO, rngO, if_pos hb, Rs.of] at o
                exact ⟨b, k, rfl, hb, OutR.ok o sm (itr_ok b (k - b).toNat)⟩
              · simp only [itO, rngO, if_neg hb, Rs.of] at o
                exact (show False from o).elim
            | _ => exact (show False from o).elim
          | _ => exact (show False from (by cases r2 <;> exact o)).elim
theorem itEnum_ok {e : Expr} {c : E} {p pos tpos : Pos} {elts : List Expr} {kk : Nat} (hg : L2.Gl X "enumerate") (hm : X.mg "enumerate" = none) (ha : L2.PA X [e] (TEs X W (evs Φ n [c]))) (hs : notStar e = true) :
    PI X (.Tuple elts kk tpos) (.Call (.Name "enumerate" p) [e] [] pos) (TI1 X W fun σ M => evIt Φ n σ (.enum c) M) := by
  refine pi_imp (L2.pi_enum hg hm ha (star_cons hs)) fun σR H R q => ?_
  unfold iEnum
  refine Tev.bind (ev := evs Φ n [c]) (f := fun σ ds M => .of (itO n (.enum c) ds) M) q (fun σ M => ?_) fun vs ds M' σ F' ρ' H' sm ss r o => ?_
  · simp only [evs, evIt, evEs]
    cases evE Φ n σ c M <;> rfl
  · cases r with
    | nil => exact (show False from o).elim
    | cons r rr =>
      cases rr with
      | cons r2 rr => exact (show False from (by cases r <;> exact o)).elim
      | nil =>
        cases r with
        | lst h1 h2 => exact ⟨_, _, rfl, sqL_mono h1 sm.sub, OutR.ok o sm (ite_ok h1 h2)⟩
        | _ => exact (show False from o).elim
end
end Mi
set_option Elab.async false
set_option linter.all false
set_option maxRecDepth 100000
set_option maxHeartbeats 2000000
/-! Mi, part 12: targets; comprehensions. -/
namespace Mi
open PySem PySem.Spec PyProof.Rows L2
section
variable {K : PySem.W.Frag} {F F' : Hp} {ρ ρ' : List Addr} {H H' : Hp} {M : MS} {σ : Sg} {σR : L2.St}
theorem SimS.set {v : V} {d : D} (ss : SimS K F ρ σ σR H) (r : Rep K F ρ v d) (i : Nat) : SimS K F ρ (σ.set i (some (.val d))) (σR.set i (some v)) H := by
  refine ⟨by rw [List.length_set, List.length_set, ss.len], fun j d' e => ?_, fun j c e => ?_, fun j k c c' a e1 e2 e3 e4 => ?_⟩
  · rw [List.getElem?_set] at e ⊢
    by_cases z : i = j
    · rw [if_pos z] at e ⊢
      by_cases hl : i < σ.length
      · rw [if_pos hl] at e
        cases e
        exact ⟨v, by rw [if_pos (by rw [← ss.len]; exact hl)], r⟩
      · rw [if_neg hl] at e; cases e
    · rw [if_neg z] at e ⊢
      exact ss.val j d' e
  · rw [List.getElem?_set] at e ⊢
    by_cases z : i = j
    · rw [if_pos z] at e
      by_cases hl : i < σ.length
      · rw [if_pos hl] at e; cases e
      · rw [if_neg hl] at e; cases e
    · rw [if_neg z] at e ⊢
      exact ss.own j c e
  · rw [List.getElem?_set] at e1 e2 e3 e4
    have n1 : i ≠ j := fun z => by
      rw [if_pos z] at e1
      split at e1 <;> cases e1
    have n2 : i ≠ k := fun z => by
      rw [if_pos z] at e2
      split at e2 <;> cases e2
    rw [if_neg n1] at e1 e3
    rw [if_neg n2] at e2 e4
    exact ss.dis j k c c' a e1 e2 e3 e4
theorem wipeG_length (σ : Sg) : ∀ is : List Nat, (wipeG σ is).length = σ.length
  | [] => rfl
  | i :: is => by unfold wipeG; rw [List.length_set, wipeG_length σ is]
theorem wipeG_some {s : Sl} {j : Nat} : ∀ {is : List Nat}, (wipeG σ is)[j]? = some (some s) → σ[j]? = some (some s) ∧ j ∉ is
  | [], h => ⟨h, by simp⟩
  | i :: is, h => by
    unfold wipeG at h
    rw [List.getElem?_set] at h
    by_cases z : i = j
    · rw [if_pos z] at h
      split at h <;> cases h
    · rw [if_neg z] at h
      obtain ⟨h1, h2⟩ := wipeG_some h
      exact ⟨h1, by simp only [List.mem_cons, not_or]; exact ⟨fun e => z e.symm, h2⟩⟩
theorem wipe_ne {j : Nat} : ∀ {is : List Nat}, j ∉ is → (wipe σR is)[j]? = σR[j]?
  | [], _ => rfl
  | i :: is, h => by
    simp only [List.mem_cons, not_or] at h
    unfold wipe
    rw [List.getElem?_set_ne (Ne.symm h.1), wipe_ne h.2]
/-- fewer slots are known -/
theorem SimS.less {σ' : Sg} (ss : SimS K F ρ σ σR H) (hl : σ'.length = σ.length) (h : ∀ (j : Nat) (s : Sl), σ'[j]? = some (some s) → σ[j]? = some (some s)) : SimS K F ρ σ' σR H :=
  ⟨hl.trans ss.len, fun j d e => ss.val j d (h j _ e), fun j c e => ss.own j c (h j _ e), fun i j c c' a e1 e2 => ss.dis i j c c' a (h i _ e1) (h j _ e2)⟩
theorem SimS.wipe (ss : SimS K F ρ σ σR H) (is : List Nat) : SimS K F ρ (wipeG σ is) (L2.wipe σR is) H := by
  refine ⟨by rw [wipeG_length, wipe_length, ss.len], fun j d e => ?_, fun j c e => ?_, fun i j c c' a e1 e2 e3 e4 => ?_⟩
  · obtain ⟨h1, h2⟩ := wipeG_some e
    rw [wipe_ne h2]
    exact ss.val j d h1
  · obtain ⟨h1, h2⟩ := wipeG_some e
    rw [wipe_ne h2]
    exact ss.own j c h1
  · obtain ⟨h1, h2⟩ := wipeG_some e1
    obtain ⟨h3, h4⟩ := wipeG_some e2
    rw [wipe_ne h2] at e3
    rw [wipe_ne h4] at e4
    exact ss.dis i j c c' a h1 h3 e3 e4
theorem wipe_eq {σ1 σ2 : L2.St} : ∀ {is : List Nat}, σ1.length = σ2.length → (∀ i, i ∉ is → σ1[i]? = σ2[i]?) → L2.wipe σ1 is = L2.wipe σ2 is := by
  intro is hl h
  refine List.ext_getElem? fun i => ?_
  by_cases z : i ∈ is
  · have none_of : ∀ σ : L2.St, (L2.wipe σ is)[i]? = some none ∨ (L2.wipe σ is)[i]? = none := fun σ => by
      cases e : (L2.wipe σ is)[i]? with
      | none => exact .inr rfl
      | some o => cases o with
        | none => exact .inl rfl
        | some v => exact absurd z (wipe_some e).2
    have len : ∀ σ : L2.St, (L2.wipe σ is)[i]? = none ↔ σ.length ≤ i := fun σ => by rw [List.getElem?_eq_none_iff, wipe_length]
    rcases none_of σ1 with e1 | e1 <;> rcases none_of σ2 with e2 | e2
    · rw [e1, e2]
    · have := (len σ2).mp e2
      rw [← hl] at this
      rw [(len σ1).mpr this] at e1; cases e1
    · have := (len σ1).mp e1
      rw [hl] at this
      rw [(len σ2).mpr this] at e2; cases e2
    · rw [e1, e2]
  · rw [wipe_ne z, wipe_ne z, h i z]
/-- an object that nobody tracks is written -/
theorem SimM.aside {p : Addr} {o : HO} (sm : SimM K F ρ M H) (f : F p = none) (n : p ∉ ρ) : SimM K F ρ M (upd H p o) := by
  refine ⟨fun a u q => ?_, sm.len, sm.nd, sm.off, fun j a mo e1 e2 => ?_⟩
  · rw [upd_ne (ne_of_none q f)]; exact sm.sub a u q
  · have na : a ≠ p := fun z => n (by rw [← z]; exact List.mem_of_getElem? e1)
    cases sm.obj j a mo e1 e2 with
    | cell g1 g2 => exact .cell (by rw [upd_ne na]; exact g1) g2
theorem Stp.aside {p : Addr} {o : HO} (st : Stp F ρ H F' ρ' H') (n : H p = none) : Stp F ρ H F' ρ' (upd H' p o) :=
  ⟨st.mono, st.pre, fun b u e nb => ⟨by rw [upd_ne (ne_of_none e n)]; exact (st.keep b u e nb).1, (st.keep b u e nb).2⟩, st.new⟩
end

/-! ### targets -/
section
variable {N : List Str} {fx : Str → Bool} {sc : Scope} {X : Cx} {W : WX}
def TGt (X : Cx) (t : T) : TG := fun v σR H Q => ∃ F ρ σ M d, SimM X.K F ρ M H ∧ SimS X.K F ρ σ σR H ∧ Rep X.K F ρ v d ∧ ∃ σ', asgT t d σ = some σ' ∧
  ∀ σR' : L2.St, σR'.length = σR.length → (∀ i, i ∉ t.slots → σR'[i]? = σR[i]?) → SimS X.K F ρ σ' σR' H → Q σR' H
def TGts (X : Cx) (ts : List T) : TGs := fun vs σR H Q => ∃ F ρ σ M ds, SimM X.K F ρ M H ∧ SimS X.K F ρ σ σR H ∧ Reps X.K F ρ vs ds ∧ ∃ σ', asgTs ts ds σ = some σ' ∧
  ∀ σR' : L2.St, σR'.length = σR.length → (∀ i, i ∉ T.slotss ts → σR'[i]? = σR[i]?) → SimS X.K F ρ σ' σR' H → Q σR' H
theorem asg_cons {e : Expr} {es : List Expr} {env : Env} (h : notStar e = true) : assignEach (e :: es) env = (false, assign e env) :: assignEach es env := by
  cases e <;> first | rfl | cases h
theorem asgTs_length : ∀ {ts : List T} {ds : List D} {σ σ' : Sg}, asgTs ts ds σ = some σ' → ds.length = ts.length
  | [], [], _, _, _ => rfl
  | t :: ts, d :: ds, σ, σ', h => by
    unfold asgTs at h
    cases e : asgT t d σ with
    | none => rw [e] at h; cases h
    | some σ1 =>
      rw [e] at h
      rw [List.length_cons, List.length_cons, asgTs_length (ts := ts) (ds := ds) (σ := σ1) h]
  | [], _ :: _, _, _, h => by unfold asgTs at h; cases h
  | _ :: _, [], _, _, h => by unfold asgTs at h; cases h
mutual
theorem pg_ok (hN : X.N = N) (nd : N.Nodup) (hsc : X.env.scope = sc) (hfx : X.fn = fx) (hc : X.calm = true) : ∀ (t : T) (e : Expr), chkG N fx sc t e = true → PG X e (TGt X t)
  | .nm i, e, h => by
    unfold chkG at h
    split at h
    · simp only [Bool.and_eq_true, decide_eq_true_eq] at h
      obtain ⟨h1, h2⟩ := locB_ok h.2
      refine ⟨fun pins s σ H v u Q I r ⟨F, ρ, σ', M, d, sm, ss, rd, σ2, e2, q⟩ => (pg_name (by rw [hN]; exact nd) (by rw [hN]; exact h.1) (by rw [hsc]; exact h1) (by rw [hsc, hfx]; exact h2)).run pins s σ H v u Q I r ?_⟩
      cases e2
      refine q (σ.set i (some v)) (by rw [List.length_set]) (fun j hj => ?_) (ss.set rd i)
      have : i ≠ j := fun z => hj (by rw [z]; simp [T.slots])
      rw [List.getElem?_set_ne this]
    · cases h
  | .tup ts, e, h => by
    unfold chkG at h
    split at h
    · obtain ⟨h1, h2, h3⟩ := pgs_ok hN nd hsc hfx hc ts _ h
      refine ⟨fun pins s σ H v u Q I r ⟨F, ρ, σ', M, d, sm, ss, rd, σ2, e2, q⟩ => ?_⟩
      cases rd with
      | tup hs rs =>
        have e3 : asgTs ts _ σ' = some σ2 := e2
        exact (pg_tup hc h1 h2 h3).run pins s σ H _ u Q I r ⟨_, _, rfl, sqT_mono hs sm.sub, by rw [rs.length, asgTs_length e3], F, ρ, σ', M, _, sm, ss, rs, σ2, e3, q⟩
      | lst hs rs =>
        have e3 : asgTs ts _ σ' = some σ2 := e2
        exact (pg_unl hc h1 h2 h3).run pins s σ H _ u Q I r ⟨_, _, rfl, sqL_mono hs sm.sub, by rw [rs.length, asgTs_length e3], F, ρ, σ', M, _, sm, ss, rs, σ2, e3, q⟩
      | _ => cases e2
    · cases h
theorem pgs_ok (hN : X.N = N) (nd : N.Nodup) (hsc : X.env.scope = sc) (hfx : X.fn = fx) (hc : X.calm = true) : ∀ (ts : List T) (es : List Expr), chkGs N fx sc ts es = true → PGs X es (TGts X ts) ∧ (assignEach es X.env).length = ts.length ∧ (assignEach es X.env).findIdx? (·.1) = none
  | [], [], _ => by
    refine ⟨⟨fun pins s σ H vs us Q I r ⟨F, ρ, σ', M, ds, sm, ss, rd, σ2, e2, q⟩ => pgs_nil.run pins s σ H vs us Q I r ?_⟩, rfl, rfl⟩
    cases rd with
    | nil => cases e2; exact ⟨rfl, q σ rfl (fun _ _ => rfl) ss⟩
    | cons a b => cases e2
  | t :: ts, e :: es, h => by
    unfold chkGs at h
    simp only [Bool.and_eq_true] at h
    obtain ⟨⟨hs, h1⟩, h2⟩ := h
    obtain ⟨g1, g2, g3⟩ := pgs_ok hN nd hsc hfx hc ts es h2
    refine ⟨⟨fun pins s σ H vs us Q I r ⟨F, ρ, σ', M, ds, sm, ss, rd, σ2, e2, q⟩ => (pgs_cons (pg_ok hN nd hsc hfx hc t e h1) g1 (by rw [asg_cons hs]; rfl)).run pins s σ H vs us Q I r ?_⟩, by rw [asg_cons hs, List.length_cons, List.length_cons, g2], ?_⟩
    · cases rd with
      | nil => cases e2
      | @cons v vs d ds r1 rr =>
        have e2 : (asgT t d σ').bind (asgTs ts ds) = some σ2 := e2
        cases ea : asgT t d σ' with
        | none => rw [ea] at e2; cases e2
        | some σa =>
          rw [ea] at e2
          refine ⟨_, _, rfl, F, ρ, σ', M, _, sm, ss, r1, σa, ea, fun σR1 l1 k1 ss1 => ?_⟩
          refine ⟨F, ρ, σa, M, _, sm, ss1, rr, σ2, e2, fun σR2 l2 k2 ss2 => q σR2 (l2.trans l1) (fun i hi => ?_) ss2⟩
          simp only [T.slotss, List.mem_append, not_or] at hi
          rw [k2 i hi.2, k1 i hi.1]
    · rw [asg_cons hs, List.findIdx?_cons]
      simp [g3]
  | [], _ :: _, h => by unfold chkGs at h; cases h
  | _ :: _, [], h => by unfold chkGs at h; cases h
end
end

/-! ### results that nobody else holds -/
section
variable {X : Cx} {W : WX}
abbrev RF (K : PySem.W.Frag) (H0 : Hp) : Hp → List Addr → Hp → V → D → Prop := fun F ρ H v d => ∃ p o c, ownO d = some c ∧ v = .ref p ∧ H p = some o ∧ CtR K F ρ o c ∧ F p = none ∧ p ∉ ρ ∧ H0 p = none
def TF1 (X : Cx) (W : WX) (ev : Sg → MS → Rs D) : TE := fun σR H Q => ∃ F ρ σ M, SimM X.K F ρ M H ∧ SimS X.K F ρ σ σR H ∧ OutR X.K X.mg W F ρ H σR (RF X.K H) (ev σ M) Q
theorem SimM.at {K : PySem.W.Frag} {F : Hp} {ρ : List Addr} {M : MS} {H : Hp} (sm : SimM K F ρ M H) {p : Addr} (h : p ∈ ρ) : ∃ o, H p = some o := by
  obtain ⟨j, e⟩ := List.mem_iff_getElem?.mp h
  have hj : j < M.length := by rw [← sm.len]; exact (List.getElem?_eq_some_iff.mp e).1
  have q := sm.obj j p M[j] e (List.getElem?_eq_getElem hj)
  cases q' : M[j] with
  | cell c => rw [q'] at q; cases q with | cell e1 _ => exact ⟨_, e1⟩
  | ins c fs => rw [q'] at q; cases q
theorem Stp.back {K : PySem.W.Frag} {F F' : Hp} {ρ ρ' : List Addr} {M' : MS} {H H' : Hp} (st : Stp F ρ H F' ρ' H') (sm : SimM K F' ρ' M' H') {p : Addr} (h : H' p = none) : H p = none := by
  cases e : H p with
  | none => rfl
  | some o =>
    by_cases z : p ∈ ρ
    · obtain ⟨o', q⟩ := sm.at (st.sub z)
      rw [h] at q; cases q
    · rw [(st.keep p o e z).1] at h; cases h
theorem to_fr {ev : Sg → MS → Rs D} {σR : L2.St} {H : Hp} {Q : VK} (h : TE1 X W ev σR H Q) : TF1 X W ev σR H Q := by
  obtain ⟨F, ρ, σ, M, sm, ss, o⟩ := h
  refine ⟨F, ρ, σ, M, sm, ss, ?_⟩
  cases e : ev σ M with
  | ok d M' =>
    rw [e] at o
    intro v F' ρ' H' st sm' ⟨p, ob, c, h1, h2, h3, h4, h5, h6, h7⟩
    subst h2
    refine o (.ref p) (upd F' p ob) ρ' H' (st.frz h5 h7) (sm'.frz h3 h5 h6) ?_
    rw [ownO_d h1]
    exact h4.rep h5
  | exc x M' => rw [e] at o; exact o
  | bad => rw [e] at o; exact o
/-- an evaluation, then what makes the new object -/
theorem TF1.bind {α β : Type} {R : Sg → L2.St → Hp → List Addr → Hp → β → α → Prop} {ev : Sg → MS → Rs α} {ev' : Sg → MS → Rs D} {f : Sg → α → MS → Rs D} {σR : L2.St} {H : Hp} {Q : VK} {Q' : β → Hp → Prop}
    (h : TF1 X W ev' σR H Q) (e : ∀ σ M, ev' σ M = (ev σ M).bind (f σ))
    (next : ∀ v d M' σ F' ρ' H', SimM X.K F' ρ' M' H' → SimS X.K F' ρ' σ σR H' → R σ σR F' ρ' H' v d → OutR X.K X.mg W F' ρ' H' σR (RF X.K H') (f σ d M') Q → Q' v H') : Tev X.K X.mg W R ev σR H Q' := by
  obtain ⟨F, ρ, σ, M, sm, ss, o⟩ := h
  rw [e] at o
  refine ⟨F, ρ, σ, M, sm, ss, o.bind fun v d M' F' ρ' H' st sm' r o' => next v d M' σ F' ρ' H' sm' (ss.step st) r (o'.mono (fun F2 ρ2 H2 v2 d2 ⟨p, ob, c, h1, h2, h3, h4, h5, h6, h7⟩ => ⟨p, ob, c, h1, h2, h3, h4, h5, h6, st.back sm' h7⟩) fun _ _ q => q)⟩
/-- the new object is laid -/
theorem OutR.lay {K : PySem.W.Frag} {mg : Str → Option Value} {F : Hp} {ρ : List Addr} {H : Hp} {σR : L2.St} {M : MS} {d : D} {c : Ct} {o : HO} {Q : VK} (h : OutR K mg W F ρ H σR (RF K H) (.ok d M) Q) (sm : SimM K F ρ M H) (hd : ownO d = some c) (r : CtR K F ρ o c) : ∀ p, H p = none → Q (.ref p) (upd H p o) := by
  intro p hp
  have hF : F p = none := by
    cases e : F p with
    | none => rfl
    | some u => rw [sm.sub p u e] at hp; cases hp
  have nρ : p ∉ ρ := fun z => by
    obtain ⟨o, e⟩ := sm.at z
    rw [hp] at e; cases e
  exact h (.ref p) F ρ (upd H p o) (Stp.refl.aside hp) (sm.aside hF nρ) ⟨p, o, c, hd, rfl, upd_same, r, hF, nρ, hp⟩
end

/-! ### comprehensions -/
section
variable {T : Tab} {Φ : Fn} {n : Nat} {X : Cx} {W : WX}
/-- nobody takes an exception -/
abbrev W0 : WX := fun _ _ _ _ => False
theorem OutR.nox {K : PySem.W.Frag} {mg : Str → Option Value} {W : WX} {F : Hp} {ρ : List Addr} {H : Hp} {σR σR' : L2.St} {α β γ δ : Type} {R : Hp → List Addr → Hp → β → α → Prop} {R' : Hp → List Addr → Hp → δ → γ → Prop} {r : Rs α} {f : α → MS → Rs γ} {F0 : Hp} {ρ0 : List Addr} {H0 : Hp} {Q : δ → Hp → Prop} {Q' : β → Hp → Prop} (h : OutR K mg W F0 ρ0 H0 σR R' (r.nox.bind f) Q)
    (next : ∀ v d M' F' ρ' H', Stp F ρ H F' ρ' H' → SimM K F' ρ' M' H' → R F' ρ' H' v d → OutR K mg W F0 ρ0 H0 σR R' (f d M') Q → Q' v H') : OutR K mg W0 F ρ H σR' R r Q' := by
  cases r with
  | ok d M' => exact fun v F' ρ' H' st sm r => next v d M' F' ρ' H' st sm r h
  | exc x M' => exact (show False from h).elim
  | bad => exact h
def compS (Φ : Fn) (n : Nat) (σ : Sg) (own : List Nat) (t : Mi.T) (cs : List E) (elt : E) : D → MS → Rs (Option D) := fun d M =>
  match asgT t d (wipeG σ own) with
  | some σ1 => (evTs Φ n σ1 cs M).bind fun b M => match b with
    | true => (evE Φ n σ1 elt M).bind fun y M => .ok (some y) M
    | false => .ok none M
  | none => .bad
theorem evComp {σ : Sg} {own : List Nat} {t : Mi.T} {it : It} {cs : List E} {elt : E} {M : MS} : evE Φ n σ (.comp own t it cs elt) M = (evIt Φ n σ it M).bind fun ds M => if ds.length ≤ limit then (compL (compS Φ n σ own t cs elt) ds M).nox.bind fun ys M => .ok (.lst ys) M else .bad := by
  simp only [evE]
  rfl
abbrev TTs (X : Cx) (Φ : Fn) (n : Nat) (cs : List E) : TT := Tev X.K X.mg W0 (fun _ _ => RBB) fun σ M => evTs Φ n σ cs M
theorem comp_imp {own : List (Str × Nat)} {t : Mi.T} {it : It} {cs : List E} {ec : E} (sub : ∀ i ∈ t.slots, i ∈ own.map (·.2)) (σR : L2.St) (H : Hp) (Q : VK) (q : TF1 X W (ev1 Φ n (.comp (own.map (·.2)) t it cs ec)) σR H Q) :
    tLc (TI1 X W fun σ M => evIt Φ n σ it M) (TGt X t) (TTs X Φ n cs) (TE1 X W0 (ev1 Φ n ec)) (own.map (·.2)) σR H Q := by
  unfold tLc
  generalize hvs : own.map (·.2) = vs at q sub
  refine TF1.bind (ev := fun σ M => evIt Φ n σ it M) (f := fun σ ds M => if ds.length ≤ limit then (compL (compS Φ n σ vs t cs ec) ds M).nox.bind fun ys M => .ok (.lst ys) M else .bad) q (fun σ M => evComp) fun J ds M1 σ F1 ρ1 H1 sm1 ss1 jk o D hD => ?_
  by_cases hlim : ds.length ≤ limit
  · simp only [if_pos hlim] at o
    have fD : F1 D = none := by
      cases e : F1 D with
      | none => rfl
      | some u => rw [sm1.sub D u e] at hD; cases hD
    have nD : D ∉ ρ1 := fun z => by
      obtain ⟨o, e⟩ := sm1.at z
      rw [hD] at e; cases e
    refine ⟨fun i m H => i ≤ ds.length ∧ m = ds.length - i ∧ ∃ F ρ M accV accD, SimM X.K F ρ M H ∧ Stp F1 ρ1 H1 F ρ H ∧ H D = some (.lst accV) ∧ Reps X.K F ρ accV accD ∧ accD.length ≤ i ∧ F D = none ∧ D ∉ ρ ∧
      OutR X.K X.mg W F1 ρ1 H1 σR (RF X.K H1) ((compL (compS Φ n σ vs t cs ec) (ds.drop i) M).nox.bind fun ys M => .ok (.lst (accD ++ ys)) M) Q, ⟨ds.length, Nat.zero_le _, rfl, F1, ρ1, M1, [], [], sm1.aside fD nD, Stp.refl.aside hD, upd_same, .nil, Nat.le_refl _, fD, nD, ?_⟩, ?_⟩
    · simpa using o
    · rintro i m H2 ⟨hi, rfl, F2, ρ2, M2, accV, accD, sm2, st2, e2, r2, hl2, f2, n2, o2⟩
      have ss2 := (ss1.step st2).wipe vs
      by_cases hlt : i < ds.length
      · refine .inr ⟨jk.go F2 ρ2 M2 H2 i st2.mono st2.pre sm2 hlt, fun H' => i + 1 ≤ ds.length ∧ ∃ F ρ M accV accD, SimM X.K F ρ M H' ∧ Stp F1 ρ1 H1 F ρ H' ∧ H' D = some (.lst accV) ∧ Reps X.K F ρ accV accD ∧ accD.length ≤ i + 1 ∧ F D = none ∧ D ∉ ρ ∧
          OutR X.K X.mg W F1 ρ1 H1 σR (RF X.K H1) ((compL (compS Φ n σ vs t cs ec) (ds.drop (i + 1)) M).nox.bind fun ys M => .ok (.lst (accD ++ ys)) M) Q, fun H' h => ⟨ds.length - (i + 1), by omega, h.1, rfl, h.2⟩, fun x H3 hy => ?_⟩
        have hd : ds[i]? = some ds[i] := List.getElem?_eq_getElem hlt
        obtain ⟨F3, st3, sm3, rx⟩ := jk.yld F2 ρ2 M2 H2 i _ x H3 st2.mono st2.pre sm2 hd hy
        have ss3 := ss2.step st3
        rw [List.drop_eq_getElem_cons hlt] at o2
        have keepD : ∀ {F' ρ' H'}, Stp F2 ρ2 H2 F' ρ' H' → H' D = some (.lst accV) ∧ F' D = none ∧ D ∉ ρ' := fun {F' ρ' H'} st => ⟨(st.keep D _ e2 n2).1, (st.keep D _ e2 n2).2.trans f2, fun z => by
          have := st.new D z n2
          rw [e2] at this; cases this⟩
        unfold compL at o2
        rw [nox_bind, bind_bind] at o2
        generalize hst : compS Φ n σ vs t cs ec ds[i] M2 = stp at o2
        unfold compS at hst
        cases ha : asgT t ds[i] (wipeG σ vs) with
        | none =>
          rw [ha] at hst
          subst hst
          exact (show False from o2).elim
        | some σ1 =>
          rw [ha] at hst
          simp only at hst
          subst hst
          rw [nox_bind, bind_bind] at o2
          refine ⟨F3, ρ2, wipeG σ vs, M2, ds[i], sm3, ss3, rx, σ1, ha, fun σR1 hl1 hk1 ss4 => ?_⟩
          refine ⟨?_, F3, ρ2, σ1, M2, sm3, ss4, OutR.nox o2 fun b b' M5 F5 ρ5 H5 st5 sm5 eb o5 => ?_⟩
          · refine wipe_eq (hl1.trans (wipe_length _ _)) fun j hj => (hk1 j fun z => hj (sub j z)).trans (wipe_ne hj)
          · cases eb
            have ss5 := ss4.step st5
            have st25 := st3.trans st5
            cases b with
            | false =>
              simp only [Bool.false_eq_true, if_false]
              obtain ⟨k1, k2, k3⟩ := keepD st25
              refine ⟨hlt, F5, ρ5, M5, accV, accD, sm5, st2.trans st25, k1, r2.mono st25.mono st25.pre, by omega, k2, k3, ?_⟩
              have o5 : OutR X.K X.mg W F1 ρ1 H1 σR (RF X.K H1) ((((compL (compS Φ n σ vs t cs ec) (ds.drop (i + 1)) M5).bind fun r M2 => .ok r M2).nox).bind fun ys M => .ok (.lst (accD ++ ys)) M) Q := o5
              cases ec2 : compL (compS Φ n σ vs t cs ec) (ds.drop (i + 1)) M5 with
              | ok a b => rw [ec2] at o5; exact o5
              | exc a b => rw [ec2] at o5; exact o5
              | bad => rw [ec2] at o5; exact o5
            | true =>
              simp only [if_true]
              simp only at o5
              rw [nox_bind, bind_bind] at o5
              refine ⟨F5, ρ5, σ1, M5, sm5, ss5, OutR.nox o5 fun y d M6 F6 ρ6 H6 st6 sm6 ry o6 => ?_⟩
              have st26 := st25.trans st6
              obtain ⟨k1, k2, k3⟩ := keepD st26
              have rr := r2.mono (K := X.K) st26.mono st26.pre
              refine ⟨accV, k1, ?_, hlt, F6, ρ6, M6, accV ++ [y], accD ++ [d], sm6.aside k2 k3, (st2.trans st26).aside hD, upd_same, rr.append (.cons ry .nil), by rw [List.length_append]; simp; omega, k2, k3, ?_⟩
              · rw [r2.length, ← limit_eq]; omega
              · have o6 : OutR X.K X.mg W F1 ρ1 H1 σR (RF X.K H1) ((((compL (compS Φ n σ vs t cs ec) (ds.drop (i + 1)) M6).bind fun r M2 => .ok (d :: r) M2).nox).bind fun ys M => .ok (.lst (accD ++ ys)) M) Q := o6
                cases ec2 : compL (compS Φ n σ vs t cs ec) (ds.drop (i + 1)) M6 with
                | ok a b =>
                  rw [ec2] at o6
                  have o6 : OutR X.K X.mg W F1 ρ1 H1 σR (RF X.K H1) (.ok (.lst (accD ++ d :: a)) b) Q := o6
                  show OutR X.K X.mg W F1 ρ1 H1 σR (RF X.K H1) (.ok (.lst (accD ++ [d] ++ a)) b) Q
                  rw [List.append_assoc]
                  exact o6
                | exc a b => rw [ec2] at o6; exact o6
                | bad => rw [ec2] at o6; exact o6
      · have hi2 : i = ds.length := by omega
        subst hi2
        refine .inl ⟨jk.stop F2 ρ2 M2 H2 st2.mono st2.pre sm2, ?_⟩
        rw [List.drop_length] at o2
        have o2 : OutR X.K X.mg W F1 ρ1 H1 σR (RF X.K H1) (.ok (.lst (accD ++ [])) M2) Q := o2
        rw [List.append_nil] at o2
        exact o2 (.ref D) F2 ρ2 H2 st2 sm2 ⟨D, .lst accV, .lst accD, rfl, rfl, e2, .lst r2, f2, n2, hD⟩
  · simp only [if_neg hlim] at o
    exact (show False from o).elim
theorem comp_ok {elt tg iter : Expr} {ifs : List Expr} {scope : Scope} {own : List (Str × Nat)} {pos : Pos} {t : Mi.T} {it : It} {cs : List E} {ec : E} (hc : X.calm = true) (hN : X.N.Nodup) (hi : PI X tg iter (TI1 X W fun σ M => evIt Φ n σ it M)) (ok : BlkOk X.N X.env.scope scope own)
    (hg : ∀ (s : Shared) (H : Hp) (C : Addr) (cl : List (Str × Addr)) (fp : List Addr), PG (X.blk s H scope (compEnvC scope cl C X.env) fp) tg (TGt X t)) (ht : ∀ (s : Shared) (H : Hp) (C : Addr) (cl : List (Str × Addr)) (fp : List Addr), PTs (X.blk s H scope (compEnvC scope cl C X.env) fp) ifs (TTs X Φ n cs))
    (he : ∀ (s : Shared) (H : Hp) (C : Addr) (cl : List (Str × Addr)) (fp : List Addr), PE (X.blk s H scope (compEnvC scope cl C X.env) fp) elt (TE1 X W0 (ev1 Φ n ec))) (hs : ∀ x, foldedSetIterable iter X.env x = pure x) (sub : ∀ i ∈ t.slots, i ∈ own.map (·.2)) :
    PE X (.ListComp elt [⟨tg, iter, ifs, 0⟩] scope pos) (TF1 X W (ev1 Φ n (.comp (own.map (·.2)) t it cs ec))) := pe_imp (pe_lc hc hN hi ok hg ht he hs) fun σR H Q q => comp_imp sub σR H Q q
end
end Mi
set_option Elab.async false
set_option linter.all false
set_option maxRecDepth 100000
set_option maxHeartbeats 2000000
/-! Mi, part 13: tests; displays; the whole of expressions. -/
namespace Mi
open PySem PySem.Spec PyProof.Rows L2
section
variable {T : Tab} {Φ : Fn} {n : Nat} {N : List Str} {fx : Str → Bool} {sc : Scope} {X : Cx} {W : WX}
theorem pw_imp {X : Cx} {e : Expr} {t t' : TT} (h : PW X e t) (i : ∀ σ H Q, t' σ H Q → t σ H Q) : PW X e t' := ⟨fun wh pins s σ H Q I q => h.run wh pins s σ H Q I (i σ H Q q)⟩
theorem andW_ok {pos : Pos} : ∀ {cs : List E} {xs : List Expr}, Paired (fun (c : E) (x : Expr) => PT X x (TTv X W (ev1 Φ n c))) cs xs → cs ≠ [] → PW X (.BoolOp .And xs pos) (TTv X W (ev1 Φ n (.and cs)))
  | [], _, _, h => absurd rfl h
  | [c], [x], .cons a .nil, _ => by
    refine pw_imp (pw_and1 a) fun σR H Q q => ?_
    refine Tev.test (f := fun σ b M => .ok (.bl b) M) q (fun σ M => ?_) fun b M' σ F' ρ' H' sm ss o => ?_
    · simp only [ev1, evE, evAnd]
      congr 1
      funext d M
      cases testO d with
      | none => rfl
      | some k => cases k <;> rfl
    · exact OutR.ok o sm (.bl _)
  | c :: c2 :: cs, x :: y :: r, .cons a b, _ => by
    refine pw_imp (pw_and a (andW_ok b (by simp))) fun σR H Q q => ?_
    refine Tev.test (f := fun σ k M => match k with | true => evE Φ n σ (.and (c2 :: cs)) M | false => .ok (.bl false) M) q (fun σ M => ?_) fun k M' σ F' ρ' H' sm ss o => ⟨k, rfl, ?_⟩
    · simp only [ev1, evE, evAnd]
      congr 1
      funext d M
      cases testO d with
      | none => rfl
      | some k => cases k <;> rfl
    · cases k with
      | true => exact ⟨F', ρ', σ, M', sm, ss, o⟩
      | false =>
        obtain ⟨c, e, q⟩ := OutR.ok o sm (.bl _)
        cases e
        exact q
theorem orW_ok {pos : Pos} : ∀ {cs : List E} {xs : List Expr}, Paired (fun (c : E) (x : Expr) => PT X x (TTv X W (ev1 Φ n c))) cs xs → cs ≠ [] → PW X (.BoolOp .Or xs pos) (TTv X W (ev1 Φ n (.or cs)))
  | [], _, _, h => absurd rfl h
  | [c], [x], .cons a .nil, _ => by
    refine pw_imp (pw_or1 a) fun σR H Q q => ?_
    refine Tev.test (f := fun σ b M => .ok (.bl b) M) q (fun σ M => ?_) fun b M' σ F' ρ' H' sm ss o => ?_
    · simp only [ev1, evE, evOr]
      congr 1
      funext d M
      cases testO d with
      | none => rfl
      | some k => cases k <;> rfl
    · exact OutR.ok o sm (.bl _)
  | c :: c2 :: cs, x :: y :: r, .cons a b, _ => by
    refine pw_imp (pw_or a (orW_ok b (by simp))) fun σR H Q q => ?_
    refine Tev.test (f := fun σ k M => match k with | true => .ok (.bl true) M | false => evE Φ n σ (.or (c2 :: cs)) M) q (fun σ M => ?_) fun k M' σ F' ρ' H' sm ss o => ⟨k, rfl, ?_⟩
    · simp only [ev1, evE, evOr]
      congr 1
      funext d M
      cases testO d with
      | none => rfl
      | some k => cases k <;> rfl
    · cases k with
      | true =>
        obtain ⟨c, e, q⟩ := OutR.ok o sm (.bl _)
        cases e
        exact q
      | false => exact ⟨F', ρ', σ, M', sm, ss, o⟩
theorem plainT_ok {e : Expr} (h : plainT e = true) {env : Env} (whole : Sem Value) : isTrue e env whole = (do let v ← whole; standAt e.pos; holding [v] (truthy v)) := by
  cases e <;> first
    | rfl
    | cases h
    | skip
  rename_i op x pos
  cases op <;> first
    | rfl
    | cases h
theorem ptv {e : Expr} {ev : Sg → MS → Rs D} (h : PE X e (TE1 X W ev)) (hp : plainT e = true) : PT X e (TTv X W ev) := pt_imp (pt_val h fun whole => plainT_ok hp whole) fun σ H Q q => q
/-- a comparison as a test -/
theorem cmpT_ok (g : Good T Φ n N fx sc X W) {p : P} {as : List E} {a b : Expr} {op : CmpOp} {pos : Pos} {es : List Expr} (h : primEs sc p (.Compare a [op] [b] pos) = some es) (ho : OpL Φ n X W as es) : PT X (.Compare a [op] [b] pos) (TTv X W (ev1 Φ n (.prim p as))) := by
  obtain ⟨r, tb, ta, o1, o2, o3, o4, o5⟩ := cmp_shape g h ho
  exact pt_imp (pt_cmpR o1 o2 o3 o4) fun σ H Q q => o5 σ H _ q
/-- x[lo:hi] -/
theorem part_ok {lo : List E} {l : Option Expr} (h : (lo = [] ∧ l = none) ∨ ∃ c e, lo = [c] ∧ l = some e ∧ PE X e (TE1 X W (ev1 Φ n c))) :
    PO X l (Tev X.K X.mg W (fun _ _ _ _ _ (v d : Option Int) => v = d) fun σ M => evPart Φ n σ lo M) := by
  rcases h with ⟨rfl, rfl⟩ | ⟨c, e, rfl, rfl, h⟩
  · refine ⟨fun pins s σ H Q I q => po_none.run pins s σ H Q I ?_⟩
    obtain ⟨F, ρ, σ', M, sm, ss, o⟩ := q
    exact OutR.ok (show OutR X.K X.mg W F ρ H σ _ (.ok none M) Q from o) sm rfl
  · refine ⟨fun pins s σ H Q I q => (po_some h).run pins s σ H Q I ?_⟩
    unfold tPart
    refine Tev.bind (ev := ev1 Φ n c) (f := fun (σ : Sg) (d : D) (M : MS) => (match d with | .int i => .ok (some i) M | _ => .bad : Rs (Option Int))) q (fun σ M => by simp only [ev1, evPart] <;> rfl) fun v d M' σ F' ρ' H' sm ss r o => ?_
    cases d with
    | int i => cases r; exact ⟨i, rfl, OutR.ok (show OutR X.K X.mg W F' ρ' H' _ _ (.ok (some i) M') Q from o) sm rfl⟩
    | _ => exact (show False from o).elim
theorem slc_ok {a : E} {lo hi : List E} {x : Expr} {l h : Option Expr} {p1 p2 : Pos} (ha : PE X x (TO1 X W (ev1 Φ n a))) (hl : (lo = [] ∧ l = none) ∨ ∃ c e, lo = [c] ∧ l = some e ∧ PE X e (TE1 X W (ev1 Φ n c))) (hh : (hi = [] ∧ h = none) ∨ ∃ c e, hi = [c] ∧ h = some e ∧ PE X e (TE1 X W (ev1 Φ n c))) :
    PE X (.Subscript x (.Slice l h none p1) p2) (TE1 X W (ev1 Φ n (.slc a lo hi))) := by
  refine pe_imp (pe_slice slice_ok ha (part_ok hl) (part_ok hh)) fun σR H Q q => ?_
  refine Tev.bind (f := fun σ d M => (evPart Φ n σ lo M).bind fun l M => (evPart Φ n σ hi M).bind fun h M => .of (cutO (deref M d) l h) M) q (fun σ M => by simp only [ev1, evE]) fun v d M' σ F' ρ' H' sm ss r o => ?_
  refine ⟨F', ρ', σ, M', sm, ss, OutR.bind o fun i i' M2 F2 ρ2 H2 st sm2 r2 o2 => ?_⟩
  subst r2
  refine ⟨F2, ρ2, σ, M2, sm2, ss.step st, OutR.bind o2 fun j j' M3 F3 ρ3 H3 st3 sm3 r3 o3 => ?_⟩
  subst r3
  exact ⟨F3, ρ3, M3, _, sm3, (r.mono (st.trans st3)).look sm3 (ss.step (st.trans st3)), o3.of⟩

/-! ### displays -/
theorem lst_fr {es : List E} {xs : List Expr} {pos : Pos} (h : PA X xs (TEs X W (evs Φ n es))) (hz : es.length ≤ limit) : PE X (.List xs pos) (TF1 X W (ev1 Φ n (.lst es))) := by
  refine pe_imp (pe_lst h) fun σR H Q q => ?_
  unfold tLst
  obtain ⟨F, ρ, σ, M, sm, ss, o⟩ := q
  refine ⟨F, ρ, σ, M, sm, ss, ?_⟩
  have o : OutR X.K X.mg W F ρ H σR (RF X.K H) (evE Φ n σ (.lst es) M) Q := o
  simp only [evE] at o
  show OutR X.K X.mg W F ρ H σR (RVs X.K) (evEs Φ n σ es M) _
  cases e : evEs Φ n σ es M with
  | ok ds M1 =>
    rw [e] at o
    intro vs F' ρ' H' st sm' r
    refine ⟨by rw [← limit_eq, r.length, evEs_len e]; exact hz, OutR.lay (d := .lst ds) (c := .lst ds) ((OutR.after st o).mono (fun F2 ρ2 H2 v2 d2 ⟨p, ob, c, h1, h2, h3, h4, h5, h6, h7⟩ => ⟨p, ob, c, h1, h2, h3, h4, h5, h6, st.back sm' h7⟩) fun _ _ q => q) sm' rfl (.lst r)⟩
  | exc x M1 => rw [e] at o; exact o
  | bad => rw [e] at o; exact o
def trsOf (X : Cx) (W : WX) (Φ : Fn) (n : Nat) : List E → List (TE × TE)
  | k :: v :: r => (TE1 X W (ev1 Φ n k), TE1 X W (ev1 Φ n v)) :: trsOf X W Φ n r
  | _ => []
def evenL {α : Type} : List α → Bool
  | [] => true
  | [_] => false
  | _ :: _ :: r => evenL r
def flatP : List (V × V) → List V
  | [] => []
  | (x, y) :: r => x :: y :: flatP r
def pairsV : List V → List (V × V)
  | x :: y :: r => (x, y) :: pairsV r
  | _ => []
theorem pairsV_flat : ∀ ps : List (V × V), pairsV (flatP ps) = ps
  | [] => rfl
  | (x, y) :: r => by rw [flatP, pairsV, pairsV_flat r]
theorem evenL_iff {α : Type} : ∀ xs : List α, evenL xs = decide (xs.length % 2 = 0)
  | [] => rfl
  | [_] => rfl
  | _ :: _ :: r => by
    rw [evenL, evenL_iff r, List.length_cons, List.length_cons]
    rw [decide_eq_decide]
    omega
theorem flat_pairsV : ∀ {ws : List V}, (decide (ws.length % 2 = 0)) = true → flatP (pairsV ws) = ws
  | [], _ => rfl
  | [_], h => by cases h
  | x :: y :: r, h => by
    rw [pairsV, flatP, flat_pairsV]
    simp only [List.length_cons, decide_eq_true_eq] at h ⊢
    omega
theorem pairs_of : ∀ (es : List E) (σR : L2.St) (H : Hp) (Q : List V → Hp → Prop), evenL es = true → TEs X W (evs Φ n es) σR H Q → tPairs (trsOf X W Φ n es) σR H fun ps H' => Q (flatP ps) H'
  | [], σR, H, Q, _, ⟨F, ρ, σ, M, sm, ss, o⟩ => OutR.ok (show OutR X.K X.mg W F ρ H σR (RVs X.K) (.ok [] M) Q from o) sm .nil
  | [_], _, _, _, h, _ => by cases h
  | k :: v :: r, σR, H, Q, hev, q => by
    unfold trsOf tPairs
    refine Tev.bind (ev := ev1 Φ n k) (f := fun σ d M => (evE Φ n σ v M).bind fun e M => (evEs Φ n σ r M).bind fun ds M => .ok (d :: e :: ds) M) q (fun σ M => ?_) fun x d M' σ F' ρ' H' sm ss rx o => ?_
    · simp only [evs, ev1, evEs]
      cases evE Φ n σ k M with
      | ok d M1 =>
        simp only [Rs.bind_ok]
        cases evE Φ n σ v M1 with
        | ok e M2 =>
          simp only [Rs.bind_ok]
          cases evEs Φ n σ r M2 <;> rfl
        | exc x M1 => rfl
        | bad => rfl
      | exc x M1 => rfl
      | bad => rfl
    · refine ⟨F', ρ', σ, M', sm, ss, OutR.bind o fun y e M2 F2 ρ2 H2 st sm2 ry o2 => ?_⟩
      refine pairs_of r σR H2 (fun ws H => Q (x :: y :: ws) H) hev ⟨F2, ρ2, σ, M2, sm2, ss.step st, OutR.bind o2 fun ws ds M3 F3 ρ3 H3 st3 sm3 rs o3 => ?_⟩
      exact OutR.ok (show OutR X.K X.mg W F3 ρ3 H3 σR (RVs X.K) (.ok (d :: e :: ds) M3) Q from o3) sm3 (.cons ((st.trans st3).rep rx) (.cons (st3.rep ry) rs))
theorem kv_reps {K : PySem.W.Frag} {F : Hp} {ρ : List Addr} : ∀ {ps : List (V × V)} {ds : List D} {kvs : List (Key × D)}, Reps K F ρ (flatP ps) ds → kvO ds = some kvs → ∃ ws : List (Key × V), ps = ws.map (fun kv => (kV kv.1, kv.2)) ∧ RepK K F ρ ws kvs ∧ ws.length = kvs.length
  | [], ds, kvs, r, h => by
    cases r
    cases h
    exact ⟨[], rfl, .nil, rfl⟩
  | (x, y) :: ps, ds, kvs, r, h => by
    cases r with
    | @cons _ _ k _ rk rr =>
      cases rr with
      | @cons _ _ v ds rv rr =>
        unfold kvO at h
        cases h1 : keyO k with
        | none => rw [h1] at h; cases h
        | some k' =>
          cases h2 : kvO ds with
          | none => rw [h1, h2] at h; cases h
          | some r' =>
            rw [h1, h2] at h
            cases h
            obtain ⟨ws, e, q, l⟩ := kv_reps rr h2
            refine ⟨(k', y) :: ws, ?_, .cons rv q, by rw [List.length_cons, List.length_cons, l]⟩
            rw [List.map_cons, ← e, (Lk.rep (H := fun _ => none) rk).key h1]
theorem dct_fr {es : List E} {ks : List (Option Expr)} {vs : List Expr} {pos : Pos} (h : PPs X pos ks vs (trsOf X W Φ n es)) (h1 : ks.all (·.isSome) = true) (h2 : ks.length = vs.length) (h3 : ks.length ≤ 15) (h4 : evenL es = true) (h5 : ks.length = 0 → es = []) :
    PE X (.Dict ks vs pos) (TF1 X W (ev1 Φ n (.dct es))) := by
  by_cases z : ks = []
  · subst z
    have e1 := h5 rfl
    subst e1
    have e2 : vs = [] := by
      cases vs with
      | nil => rfl
      | cons a b => cases h2
    subst e2
    refine pe_imp pe_dnewK fun σR H Q ⟨F, ρ, σ, M, sm, ss, o⟩ => ?_
    have o : OutR X.K X.mg W F ρ H σR (RF X.K H) (.ok (.dct []) M) Q := by
      have o : OutR X.K X.mg W F ρ H σR (RF X.K H) (evE Φ n σ (.dct []) M) Q := o
      simpa [evE, evEs, dctO, kvO, mergeD] using o
    exact OutR.lay (d := .dct []) (c := .dct []) o sm rfl (.dct .nil)
  · refine pe_imp (pe_disp h h1 h2 z h3) fun σR H Q ⟨F, ρ, σ, M, sm, ss, o⟩ => ?_
    have o : OutR X.K X.mg W F ρ H σR (RF X.K H) (evE Φ n σ (.dct es) M) Q := o
    intro p hp
    have hF : F p = none := by
      cases e : F p with
      | none => rfl
      | some u => rw [sm.sub p u e] at hp; cases hp
    have nρ : p ∉ ρ := fun z => by
      obtain ⟨o, e⟩ := sm.at z
      rw [hp] at e; cases e
    have st1 : Stp F ρ H F ρ (upd H p (.dK [])) := Stp.refl.aside hp
    have sm1 : SimM X.K F ρ M (upd H p (.dK [])) := sm.aside hF nρ
    let Qp : List (V × V) → Hp → Prop := fun ps H2 => H2 p = some (.dK []) ∧ ∃ kvs : List (Key × V), ps = kvs.map (fun kv => (kV kv.1, kv.2)) ∧ kvs.length ≤ 15 ∧ Q (.ref p) (upd H2 p (.dK (L2.mergeK [] kvs)))
    have eQ : (fun ps H' => Qp (pairsV (flatP ps)) H') = Qp := by
      funext ps H'
      rw [pairsV_flat]
    show tPairs (trsOf X W Φ n es) σR (upd H p (.dK [])) Qp
    rw [← eQ]
    refine pairs_of es σR _ (fun ws H' => Qp (pairsV ws) H') h4 ⟨F, ρ, σ, M, sm1, ss.step st1, ?_⟩
    simp only [evE] at o
    show OutR X.K X.mg W F ρ (upd H p (.dK [])) σR (RVs X.K) (evEs Φ n σ es M) _
    cases e : evEs Φ n σ es M with
    | ok ds M1 =>
      rw [e] at o
      have o : OutR X.K X.mg W F ρ H σR (RF X.K H) (.of (dctO ds) M1) Q := o
      intro ws F' ρ' H' st sm' r
      have stT := st1.trans st
      obtain ⟨k1, k2⟩ := st.keep p _ upd_same nρ
      have k3 : p ∉ ρ' := fun z => by
        have q := st.new p z nρ
        rw [upd_same] at q; cases q
      unfold dctO at o
      cases hk : kvO ds with
      | none => rw [hk] at o; exact (show False from o).elim
      | some kvs =>
        rw [hk] at o
        by_cases h15 : kvs.length ≤ 15
        · simp only [if_pos h15] at o
          have o : OutR X.K X.mg W F ρ H σR (RF X.K H) (.ok (.dct (mergeD [] kvs)) M1) Q := o
          have hfl : flatP (pairsV ws) = ws := flat_pairsV (by rw [r.length, evEs_len e, ← evenL_iff]; exact h4)
          obtain ⟨wk, e1, rk, el⟩ := kv_reps (ps := pairsV ws) (by rw [hfl]; exact r) hk
          refine ⟨k1, wk, e1, by omega, o (.ref p) F' ρ' _ (stT.aside hp) (sm'.aside (k2.trans hF) k3) ⟨p, _, .dct (mergeD [] kvs), rfl, rfl, upd_same, .dct (rk.merge .nil), k2.trans hF, k3, hp⟩⟩
        · simp only [if_neg h15] at o
          exact (show False from o).elim
    | exc x M1 => rw [e] at o; exact fun c dx F2 ρ2 H2 s2 sm2 xr => (show OutR X.K X.mg W F ρ H σR (RF X.K H) (.exc x M1) Q from o) c dx F2 ρ2 H2 (st1.trans s2) sm2 xr
    | bad => rw [e] at o; exact o
end
end Mi
set_option Elab.async false
set_option linter.all false
set_option maxRecDepth 100000
set_option maxHeartbeats 2000000
/-! Mi, part 11b: zip of two sequences, each a list or a tuple. -/
namespace Mi
open PySem PySem.Spec PyProof.Rows L2
/-- a walker's place in a list, a tuple -/
def Wk (t : Bool) (h : Heap) (i l : Addr) (k : Nat) (xs : Array Value) : Prop := match t with
  | true => h.IsTupleIter i l k ∧ h.IsTuple l xs
  | false => h.IsListIter i l k ∧ h.IsList l xs
def wkTy (t : Bool) : String := match t with
  | true => "tuple_iterator"
  | false => "list_iterator"
section
variable {prog : Program} {w : World} {A : Around} {E : Value → Shared → Prop} {s : Shared} {t : Bool} {h h' : Heap} {i l c : Addr} {k : Nat} {xs : Array Value}
theorem Wk.ext (q : Wk t h i l k xs) (e : Heap.ExtBut c h h') (n1 : i ≠ c) (n2 : l ≠ c) : Wk t h' i l k xs := by
  cases t with
  | true => exact ⟨q.1.extBut e n1, q.2.extBut e n2⟩
  | false => exact ⟨q.1.extBut e n1, q.2.extBut e n2⟩
theorem Wk.objs (q : Wk t h i l k xs) : (∃ o, h.get? i = some o ∧ ∀ v, o.data ≠ .cell v) ∧ ∃ o, h.get? l = some o := by
  cases t with
  | true =>
    obtain ⟨⟨o, e, _, d⟩, ⟨o2, e2, _⟩⟩ := q
    exact ⟨⟨o, e, fun v z => by rw [d] at z; cases z⟩, o2, e2⟩
  | false =>
    obtain ⟨⟨o, e, _, d⟩, ⟨o2, e2, _⟩⟩ := q
    exact ⟨⟨o, e, fun v z => by rw [d] at z; cases z⟩, o2, e2⟩
theorem Wk.to (q : Wk t h i l k xs) (n : ∀ b, b = i ∨ b = l → ∀ o, h.get? b = some o → h'.get? b = some o) : Wk t h' i l k xs := by
  cases t with
  | true =>
    obtain ⟨⟨o, e, d⟩, ⟨o2, e2, d2⟩⟩ := q
    exact ⟨⟨o, n i (.inl rfl) o e, d⟩, ⟨o2, n l (.inr rfl) o2 e2, d2⟩⟩
  | false =>
    obtain ⟨⟨o, e, d⟩, ⟨o2, e2, d2⟩⟩ := q
    exact ⟨⟨o, n i (.inl rfl) o e, d⟩, ⟨o2, n l (.inr rfl) o2 e2, d2⟩⟩
theorem Wk.next {x : Value} {Q : Value → Shared → Prop} (q : Wk t s.heap i l k xs) (n : l ≠ i) (hx : xs[k]? = some x) (z : ∀ h', Wk t h' i l (k + 1) xs → Heap.SameBut i s.heap h' → Q x { s with heap := h' }) :
    wpAny (model prog w) A (Builtin.SmallTypes.nextOf (.ref i)) Q E s := by
  cases t with
  | true => exact RZ.nextOf_tuple_item q.1 q.2 hx fun h' a b => z h' ⟨a, q.2.extBut b.extBut n⟩ b
  | false => exact wpAny_nextOf_list_item q.1 q.2 hx fun h' a b => z h' ⟨a, q.2.extBut b.extBut n⟩ b
theorem Wk.over {Q : Value → Shared → Prop} (hh : A.handled = none) (q : Wk t s.heap i l k xs) (hx : xs[k]? = none) (z : ∀ h' e, Heap.ExtBut i s.heap h' → (∃ o, h'.get? e = some o ∧ o.cls = .type "StopIteration") → E (.ref e) { s with heap := h' }) :
    wpAny (model prog w) A (Builtin.SmallTypes.nextOf (.ref i)) Q E s := by
  cases t with
  | true => exact RZ.nextOf_tuple_end hh q.1 q.2 hx z
  | false => exact wpAny_nextOf_list_end hh q.1 q.2 hx z
end
section
variable {prog : Program} {w : World} {A : Around} {E : Value → Shared → Prop} {s : Shared} {t1 t2 : Bool} {z TI TO i1 i2 l1 l2 : Addr} {k : Nat} {xs ys : Array Value} {a b : Value}
/-- one turn: a pair, or the end -/
theorem zipX_body {Q : Fin → Shared → Prop} (hh : A.handled = none) (D : ZipApart z TI TO i1 i2 l1 l2) (hz : IsZip s.heap z TI TO .none) (hTI : IsPair s.heap TI (.ref i1) (.ref i2)) (hTO : IsPair s.heap TO a b) (h1 : Wk t1 s.heap i1 l1 k xs) (h2 : Wk t2 s.heap i2 l2 k ys)
    (yes : ∀ x y, xs[k]? = some x → ys[k]? = some y → ∀ h', IsZip h' z TI TO (rawInt s.heap.objs.size) → IsPair h' TO x y → Wk t1 h' i1 l1 (k + 1) xs → Wk t2 h' i2 l2 (k + 1) ys → IsPair h' s.heap.objs.size x y →
      (∀ c o, c ≠ z → c ≠ TO → c ≠ i1 → c ≠ i2 → s.heap.get? c = some o → h'.get? c = some o) → Q (.done (.ret (.ref s.heap.objs.size))) { s with heap := h' })
    (no : (xs[k]? = none ∨ ys[k]? = none) → ∀ h' e, (∀ c o, c ≠ z → c ≠ TO → c ≠ i1 → c ≠ i2 → s.heap.get? c = some o → h'.get? c = some o) → (∃ o, h'.get? e = some o ∧ o.cls = .type "StopIteration") → E (.ref e) { s with heap := h' }) :
    wpAny (model prog w) A (Builtin.«zip.__next__» ⟨[.ref z], []⟩) Q E s := by
  show wpAny _ _ (field (.ref z) 2 >>= _) _ _ _
  refine wpAny_bind (wpAny_field hz rfl (x := .bool false) rfl ?_)
  show wpAny _ _ (field (.ref z) 3 >>= _) _ _ _
  refine wpAny_bind (wpAny_field hz rfl (x := .ref TI) rfl (wpAny_bind (wpAny_seqItems hTI rfl ?_)))
  show wpAny _ _ (Builtin.SmallTypes.ownedTupleIsFree (.ref z) >>= _) _ _ _
  refine wpAny_bind ?_
  unfold Builtin.SmallTypes.ownedTupleIsFree
  refine wpAny_bind (wpAny_field hz rfl (x := .none) rfl (wpAny_pure ?_))
  simp only [if_true]
  refine wpAny_bind (wpAny_rule (wpAny_bind (wpAny_field hz rfl (x := .ref TO) rfl (wpAny_bind (wpAny_setField_rec hz (by simp) fun ha za sa => ?_)))))
  replace za : IsZip ha z TI TO .ellipsis := za
  refine wpAny_bind ?_
  simp only [List.zipIdx_cons, List.zipIdx_nil, List.forIn_cons, List.forIn_nil]
  have ea := sa.extBut
  refine wpAny_bind (wpAny_bind (wpAny_onRaise ?_))
  show wpAny _ _ (Builtin.SmallTypes.nextOf (.ref i1) >>= _) _ _ _
  cases hx : xs[k]? with
  | none =>
    refine wpAny_bind ((h1.ext ea D.i1z D.l1z).over hh hx fun hb e eb he => ?_)
    obtain ⟨oe, g1, g2⟩ := he
    have zb : IsZip hb z TI TO .ellipsis := eb _ _ D.i1z.symm za
    have ne : e ≠ z := fun q => by
      rw [q] at g1
      have := zb.symm.trans g1
      cases this
      simp at g2
    exact wpAny_setField_rec zb (by simp) fun hc _ sc => no (.inl hx) hc e (fun c o n1 _ n3 _ q => sc.extBut _ _ n1 (eb _ _ n3 (ea _ _ n1 q))) ⟨oe, sc.extBut _ _ ne g1, g2⟩
  | some x =>
    refine wpAny_bind ((h1.ext ea D.i1z D.l1z).next D.l1i1 hx fun hb w1 sb => wpAny_pure ?_)
    have eb := sb.extBut
    have Tb : IsPair hb TO a b := eb _ _ D.TOi1 (ea _ _ D.TOz hTO)
    refine wpAny_bind (wpAny_seqItems Tb rfl (wpAny_bind (wpAny_updateSeq_pair Tb fun hc Tc sc => ?_)))
    replace Tc : IsPair hc TO x b := Tc
    have ec := sc.extBut
    refine wpAny_bind (wpAny_letGo (wpAny_pure ?_))
    refine wpAny_bind (wpAny_bind (wpAny_onRaise ?_))
    show wpAny _ _ (Builtin.SmallTypes.nextOf (.ref i2) >>= _) _ _ _
    have w2 : Wk t2 hc i2 l2 k ys := ((h2.ext ea D.i2z D.l2z).ext eb D.i12.symm D.l2i1).ext ec D.TOi2.symm D.l2TO
    have zc : IsZip hc z TI TO .ellipsis := ec _ _ D.TOz.symm (eb _ _ D.i1z.symm za)
    cases hy : ys[k]? with
    | none =>
      refine wpAny_bind (w2.over hh hy fun hd e ed he => ?_)
      obtain ⟨oe, g1, g2⟩ := he
      have zd : IsZip hd z TI TO .ellipsis := ed _ _ D.i2z.symm zc
      have ne : e ≠ z := fun q => by
        rw [q] at g1
        have := zd.symm.trans g1
        cases this
        simp at g2
      exact wpAny_setField_rec zd (by simp) fun hf _ sf => no (.inr hy) hf e (fun c o n1 n2 n3 n4 q => sf.extBut _ _ n1 (ed _ _ n4 (ec _ _ n2 (eb _ _ n3 (ea _ _ n1 q))))) ⟨oe, sf.extBut _ _ ne g1, g2⟩
    | some y =>
      refine wpAny_bind (w2.next D.l2i2 hy fun hd w3 sd => wpAny_pure ?_)
      have ed := sd.extBut
      have Td : IsPair hd TO x b := ed _ _ D.TOi2 Tc
      refine wpAny_bind (wpAny_seqItems Td rfl (wpAny_bind (wpAny_updateSeq_pair Td fun he Te se => ?_)))
      replace Te : IsPair he TO x y := Te
      have ee := se.extBut
      refine wpAny_bind (wpAny_letGo (wpAny_pure (wpAny_pure ?_)))
      refine wpAny_bind (wpAny_seqItems Te rfl (wpAny_bind (wpAny_newTuple ?_)))
      have size : he.objs.size = s.heap.objs.size := by rw [se.1, sd.1, sc.1, sb.1, sa.1]
      have ze : IsZip he z TI TO .ellipsis := ee _ _ D.TOz.symm (ed _ _ D.i2z.symm zc)
      have keep : ∀ c o, c ≠ z → c ≠ TO → c ≠ i1 → c ≠ i2 → s.heap.get? c = some o → he.get? c = some o := fun c o n1 n2 n3 n4 q => ee _ _ n2 (ed _ _ n4 (ec _ _ n2 (eb _ _ n3 (ea _ _ n1 q))))
      have f1 : Wk t1 he i1 l1 (k + 1) xs := ((w1.ext ec D.TOi1.symm D.l1TO).ext ed D.i12 D.l1i2).ext ee D.TOi1.symm D.l1TO
      have f2 : Wk t2 he i2 l2 (k + 1) ys := w3.ext ee D.TOi2.symm D.l2TO
      have zlt : z < he.objs.size := Heap.lt_size ze
      show wpAny _ _ (Builtin.SmallTypes.ownedTupleHandOut (.ref z) (.ref he.objs.size) >>= _) _ _ _
      refine wpAny_bind ?_
      unfold Builtin.SmallTypes.ownedTupleHandOut
      have zf : IsZip (he.push { cls := .type "tuple", data := .seq #[x, y] }) z TI TO .ellipsis := Heap.get?_push_of_some _ ze
      refine wpAny_bind (wpAny_setField_rec zf (by simp) fun hf zg sf => ?_)
      replace zg : IsZip hf z TI TO (rawInt he.objs.size) := zg
      refine wpAny_setField_rec zg (by simp) fun hg zh sg => wpAny_pure ?_
      replace zh : IsZip hg z TI TO (rawInt he.objs.size) := zh
      have up : ∀ c o, c ≠ z → he.get? c = some o → hg.get? c = some o := fun c o n q => sg.extBut _ _ n (sf.extBut _ _ n (Heap.get?_push_of_some _ q))
      have new : IsPair hg he.objs.size x y := sg.extBut _ _ (Nat.ne_of_gt zlt) (sf.extBut _ _ (Nat.ne_of_gt zlt) (Heap.get?_push_size _ rfl))
      rw [size] at zh new
      show Q (.done (.ret (.ref he.objs.size))) _
      rw [size]
      refine yes x y hx hy hg zh (up _ _ D.TOz Te) (f1.to fun c hc o q => up c o ?_ q) (f2.to fun c hc o q => up c o ?_ q) new fun c o n1 n2 n3 n4 q => up c o n1 (keep c o n1 n2 n3 n4 q)
      · rcases hc with hc | hc
        · rw [hc]; exact D.i1z
        · rw [hc]; exact D.l1z
      · rcases hc with hc | hc
        · rw [hc]; exact D.i2z
        · rw [hc]; exact D.l2z
theorem zipX_next {Q : Option Value → Shared → Prop} (hh : A.handled = none) (D : ZipApart z TI TO i1 i2 l1 l2) (hz : IsZip s.heap z TI TO .none) (hTI : IsPair s.heap TI (.ref i1) (.ref i2)) (hTO : IsPair s.heap TO a b) (h1 : Wk t1 s.heap i1 l1 k xs) (h2 : Wk t2 s.heap i2 l2 k ys)
    (yes : ∀ x y, xs[k]? = some x → ys[k]? = some y → ∀ h', IsZip h' z TI TO (rawInt s.heap.objs.size) → IsPair h' TO x y → Wk t1 h' i1 l1 (k + 1) xs → Wk t2 h' i2 l2 (k + 1) ys → IsPair h' s.heap.objs.size x y →
      (∀ c o, c ≠ z → c ≠ TO → c ≠ i1 → c ≠ i2 → s.heap.get? c = some o → h'.get? c = some o) → Q (some (.ref s.heap.objs.size)) { s with heap := h' })
    (no : (xs[k]? = none ∨ ys[k]? = none) → ∀ h', (∀ c o, c ≠ z → c ≠ TO → c ≠ i1 → c ≠ i2 → s.heap.get? c = some o → h'.get? c = some o) → Q none { s with heap := h' }) :
    wpAny (model prog w) A (pyNext (.ref z)) Q E s := by
  have ty : s.TypeIs (.ref z) "zip" := ⟨_, hz, rfl⟩
  unfold pyNext
  refine wpAny_bind (wpAny_attempt (wpAny_callSpecial?_slot (name := Str.ofString "__next__") ty F.slot_zip_next (wpAny_call_entry F.slot_zip_next ty F.entry_zip_next
    (zipX_body hh D hz hTI hTO h1 h2 (fun x y hx hy h' a1 a2 a3 a4 a5 a6 => ?_) fun hn h' e kp he => ?_) (F.args_zip_next_1 _))))
  · exact ⟨_, rfl, wpAny_pure (yes x y hx hy h' a1 a2 a3 a4 a5 a6)⟩
  · obtain ⟨o, ho, hc⟩ := he
    exact wpAny_bind (wpAny_isInstance (T := "StopIteration") (b := true) ⟨o, ho, hc⟩ isSubtype_stop (wpAny_pure (no hn _ kp)))
end

/-- the walker alone -/
def Wi (t : Bool) (h : Heap) (i l : Addr) (k : Nat) : Prop := match t with
  | true => h.IsTupleIter i l k
  | false => h.IsListIter i l k
def Sx (t : Bool) (K : PySem.W.Frag) (H : Hp) (a : Addr) (xs : List V) : Prop := match t with
  | true => SqT K H a xs
  | false => SqL K H a xs
section
variable {X : Cx} {pins : List (Addr × Obj)} {σ : L2.St} {H : Hp} {s : Shared} {t : Bool} {h h' : Heap} {i l a : Addr} {k : Nat} {xs ys : List V}
theorem Wi.to (q : Wi t h i l k) (n : ∀ o, h.get? i = some o → h'.get? i = some o) : Wi t h' i l k := by
  cases t with
  | true => obtain ⟨o, e, d⟩ := q; exact ⟨o, n o e, d⟩
  | false => obtain ⟨o, e, d⟩ := q; exact ⟨o, n o e, d⟩
theorem Wi.obj (q : Wi t h i l k) : ∃ o, h.get? i = some o ∧ ∀ v, o.data ≠ .cell v := by
  cases t with
  | true => obtain ⟨o, e, _, d⟩ := q; exact ⟨o, e, fun v z => by rw [d] at z; cases z⟩
  | false => obtain ⟨o, e, _, d⟩ := q; exact ⟨o, e, fun v z => by rw [d] at z; cases z⟩
theorem Wk.wi {zs : Array Value} (q : Wk t h i l k zs) : Wi t h i l k := by
  cases t with
  | true => exact q.1
  | false => exact q.1
theorem Sx.get (I : Inv X pins σ H s) (q : Sx t X.K H a xs) : ∃ its : List Value, L2.Vals xs its ∧ (∀ i k, Wi t s.heap i a k → Wk t s.heap i a k its.toArray) ∧ a < s.heap.objs.size := by
  cases t with
  | true =>
    obtain ⟨its, rv, p, _⟩ := I.tuple q
    have p' : s.heap.IsTuple a its.toArray := p
    obtain ⟨o, ho, _⟩ := id p
    exact ⟨its, rv, fun i k w => ⟨w, p'⟩, Heap.lt_size ho⟩
  | false =>
    obtain ⟨its, rv, p, _⟩ := I.list q
    exact ⟨its, rv, fun i k w => ⟨w, p.isList⟩, p.lt⟩
theorem Sx.inj (I : Inv X pins σ H s) (q : Sx t X.K H a xs) (q' : Sx t X.K H a ys) : xs = ys := by
  cases t with
  | true => exact I.tuple_inj q q'
  | false => exact I.list_inj q q'
end
/-- pairs from two sequences -/
def Itx (t1 t2 : Bool) (K : PySem.W.Frag) (a b : Addr) : L2.It :=
  ⟨fun i H => ∃ xs ys x y, Sx t1 K H a xs ∧ Sx t2 K H b ys ∧ xs[i]? = some x ∧ ys[i]? = some y,
   fun i H v H' => ∃ p x y, v = V.ref p ∧ H p = none ∧ H' = upd H p (.tup [x, y]) ∧ (∀ xs, Sx t1 K H a xs → xs[i]? = some x) ∧ ∀ ys, Sx t2 K H b ys → ys[i]? = some y,
   fun i H => ∃ xs ys, Sx t1 K H a xs ∧ Sx t2 K H b ys ∧ (xs.length ≤ i ∨ ys.length ≤ i)⟩
theorem five {c z TI TO i1 i2 : Addr} (h : c ∈ [z, TI, TO, i1, i2]) : c = z ∨ c = TI ∨ c = TO ∨ c = i1 ∨ c = i2 := by simpa using h
theorem turn_x {P : Program} {w : World} {K : PySem.W.Frag} {es : List Expr} {j : Nat} {tp : Pos} {t1 t2 : Bool} {a b z TI TO i1 i2 : Addr} (D : ZipApart z TI TO i1 i2 a b) :
    Turn P w K (.Tuple es j tp) (Itx t1 t2 K a b) [z, TI, TO, i1, i2] z (fun i h => IsZip h z TI TO .none ∧ IsPair h TI (.ref i1) (.ref i2) ∧ (∃ x y, IsPair h TO x y) ∧ Wi t1 h i1 a i ∧ Wi t2 h i2 b i) := by
  have objs : ∀ i h, (IsZip h z TI TO .none ∧ IsPair h TI (.ref i1) (.ref i2) ∧ (∃ x y, IsPair h TO x y) ∧ Wi t1 h i1 a i ∧ Wi t2 h i2 b i) → ∀ c ∈ [z, TI, TO, i1, i2], ∃ o, h.get? c = some o ∧ ∀ v, o.data ≠ .cell v := by
    rintro i h ⟨hz, hI, ⟨x, y, hO⟩, w1, w2⟩ c hc
    rcases five hc with rfl | rfl | rfl | rfl | rfl
    · exact ⟨_, hz, fun v q => nomatch q⟩
    · exact ⟨_, hI, fun v q => nomatch q⟩
    · exact ⟨_, hO, fun v q => nomatch q⟩
    · exact w1.obj
    · exact w2.obj
  refine ⟨by simp, objs, ?_, ?_, ?_, ?_⟩
  · rintro i h h' ⟨hz, hI, ⟨x, y, hO⟩, w1, w2⟩ k
    exact ⟨k z (by simp) _ hz, k TI (by simp) _ hI, ⟨x, y, k TO (by simp) _ hO⟩, w1.to (k i1 (by simp)), w2.to (k i2 (by simp))⟩
  · intro X hP hw hK hc i pins s σ H E I hf st hg
    subst hP hw hK
    have st0 := st
    obtain ⟨hz, hI, ⟨x0, y0, hO⟩, w1, w2⟩ := st
    obtain ⟨xs, ys, x, y, qx, qy, hx, hy⟩ := hg
    obtain ⟨us, rx, k1, _⟩ := qx.get I
    obtain ⟨vs, ry, k2, _⟩ := qy.get I
    obtain ⟨u, hu, ru⟩ := rx.get hx
    obtain ⟨v, hv, rv⟩ := ry.get hy
    refine zipX_next (I.ok.hd hc) D hz hI hO (k1 _ _ w1) (k2 _ _ w2) (fun u' v' hu' hv' h' z' O' w1' w2' new kp => ?_) fun hn h' kp => ?_
    · have e1 : u' = u := by
        have : us[i]? = some u' := by simpa using hu'
        rw [hu] at this
        exact (Option.some.inj this).symm
      have e2 : v' = v := by
        have : vs[i]? = some v' := by simpa using hv'
        rw [hv] at this
        exact (Option.some.inj this).symm
      subst e1 e2
      have zl : z < s.heap.objs.size := Heap.lt_size hz
      refine ⟨_, rfl, wpAny_letOwnedTupleGo_zip (s := { s with heap := h' }) z' fun h'' z'' sb => ?_⟩
      have new2 : IsPair h'' s.heap.objs.size u' v' := (sb.2 _ (Nat.ne_of_gt zl)).trans new
      have obj : ObjOk X.prog X.w (upd H s.heap.objs.size (.tup [x, y])) h'' s.heap.objs.size (.tup [x, y]) :=
        ⟨by show 2 ≤ sizeLine; decide, [u', v'], .cons ru (.cons rv .nil), ⟨_, new2, rfl, _, rfl⟩⟩
      have I1 : Inv X pins σ (upd H s.heap.objs.size (.tup [x, y])) { s with heap := h'' } :=
        I.turnedNew (t' := s.toks) (ch := [z, TI, TO, i1, i2]) (fun c o nc q => by
          simp only [List.mem_cons, List.not_mem_nil, or_false, not_or] at nc
          exact (sb.2 c nc.1).trans (kp c o nc.1 nc.2.2.1 nc.2.2.2.1 nc.2.2.2.2 q)) hf (Nat.le_refl _) obj
      refine ⟨.ref s.heap.objs.size, _, I1, rfl, ⟨_, x, y, rfl, I.hok.fresh (Nat.le_refl _), rfl, fun zs hs => by rw [hs.inj I qx]; exact hx, fun zs hs => by rw [hs.inj I qy]; exact hy⟩, ⟨z'', ?_, ⟨u', v', (sb.2 _ D.TOz).trans O'⟩, w1'.wi.to fun o q => (sb.2 _ D.i1z).trans q, w2'.wi.to fun o q => (sb.2 _ D.i2z).trans q⟩, fun c hcm => ?_⟩
      · exact (sb.2 _ D.TIz).trans (kp _ _ D.TIz D.TITO D.TIi1 D.TIi2 hI)
      · obtain ⟨o, e, _⟩ := objs i s.heap st0 c hcm
        rw [upd_ne (Nat.ne_of_lt (Heap.lt_size e))]
        exact (hf c hcm).1
    · exfalso
      rcases hn with hn | hn
      · have : us[i]? = none := by simpa using hn
        rw [hu] at this; cases this
      · have : vs[i]? = none := by simpa using hn
        rw [hv] at this; cases this
  · intro X hP hw hK hc i pins s σ H E I hf st hg
    subst hP hw hK
    obtain ⟨hz, hI, ⟨x0, y0, hO⟩, w1, w2⟩ := st
    obtain ⟨xs, ys, qx, qy, hend⟩ := hg
    obtain ⟨us, rx, k1, _⟩ := qx.get I
    obtain ⟨vs, ry, k2, _⟩ := qy.get I
    have l1 := rx.length
    have l2 := ry.length
    refine zipX_next (I.ok.hd hc) D hz hI hO (k1 _ _ w1) (k2 _ _ w2) (fun u' v' hu' hv' h' z' O' w1' w2' new kp => ?_) fun hn h' kp => ⟨rfl, I.turnedL (t' := s.toks) (ch := [z, TI, TO, i1, i2]) (fun c o nc q => by
      simp only [List.mem_cons, List.not_mem_nil, or_false, not_or] at nc
      exact kp c o nc.1 nc.2.2.1 nc.2.2.2.1 nc.2.2.2.2 q) hf⟩
    exfalso
    have a1 : i < us.length := by
      have : us[i]? = some u' := by simpa using hu'
      exact (List.getElem?_eq_some_iff.mp this).1
    have a2 : i < vs.length := by
      have : vs[i]? = some v' := by simpa using hv'
      exact (List.getElem?_eq_some_iff.mp this).1
    omega
  · exact fun A i s Q E st h => wpAny_pyIter_zip st.1 h
/-- the walkers and the pairs of a new zip -/
def xH1 (t : Bool) (h : Heap) (l : Addr) : Heap := h.push { cls := .type (wkTy t), data := .fields #[.ref l, .int 0 0] }
abbrev xH2 (t1 t2 : Bool) (h : Heap) (a b : Addr) : Heap := xH1 t2 (xH1 t1 h a) b
abbrev xH3 (t1 t2 : Bool) (h : Heap) (a b : Addr) : Heap := (xH2 t1 t2 h a b).push { cls := .type "tuple", data := .seq #[.ref h.objs.size, .ref (xH1 t1 h a).objs.size] }
abbrev xH4 (t1 t2 : Bool) (h : Heap) (a b : Addr) : Heap := (xH3 t1 t2 h a b).push { cls := .type "tuple", data := .seq #[.none, .none] }
abbrev xH5 (t1 t2 : Bool) (h : Heap) (a b : Addr) : Heap := (xH4 t1 t2 h a b).push { cls := .type "zip", data := .fields #[.none, .bool false, .bool false, .ref (xH2 t1 t2 h a b).objs.size, .ref (xH3 t1 t2 h a b).objs.size] }
def Sh (t : Bool) (h : Heap) (l : Addr) (xs : Array Value) : Prop := match t with
  | true => h.IsTuple l xs
  | false => h.IsList l xs
theorem meets_zipX (t1 t2 : Bool) (a b : Addr) (xs ys : Array Value) :
    Meets (Builtin.«zip.__new__» ⟨[.type "zip", .ref a, .ref b], []⟩) (fun _ R s => Sh t1 s.heap a xs ∧ Sh t2 s.heap b ys ∧ R (.ok (.ret (.ref (xH4 t1 t2 s.heap a b).objs.size))) { s with heap := xH5 t1 t2 s.heap a b }) :=
  .of_wp fun prog w A R s h => by
    obtain ⟨hp, g, d, tk, os⟩ := s
    obtain ⟨q1, q2, h⟩ := h
    have hsub := sub_zip
    cases t1 with
    | true =>
      have e1 : Heap.IsTuple (Shared.heap ⟨hp, g, d, tk, os⟩) a xs := q1
      cases t2 with
      | true =>
        have e2 : Heap.IsTuple (Shared.heap ⟨hp.push { cls := .type "tuple_iterator", data := .fields #[.ref a, .int 0 0] }, g, d, tk, os⟩) b ys := Heap.IsTuple.push q2 _
        wp_walk using wpAny_pyIter_tuple e1, wpAny_pyIter_tuple e2
        exact ⟨_, rfl, h⟩
      | false =>
        have e2 : Heap.IsList (Shared.heap ⟨hp.push { cls := .type "tuple_iterator", data := .fields #[.ref a, .int 0 0] }, g, d, tk, os⟩) b ys := Heap.IsList.push q2 _
        wp_walk using wpAny_pyIter_tuple e1, wpAny_pyIter_list e2
        exact ⟨_, rfl, h⟩
    | false =>
      have e1 : Heap.IsList (Shared.heap ⟨hp, g, d, tk, os⟩) a xs := q1
      cases t2 with
      | true =>
        have e2 : Heap.IsTuple (Shared.heap ⟨hp.push { cls := .type "list_iterator", data := .fields #[.ref a, .int 0 0] }, g, d, tk, os⟩) b ys := Heap.IsTuple.push q2 _
        wp_walk using wpAny_pyIter_list e1, wpAny_pyIter_tuple e2
        exact ⟨_, rfl, h⟩
      | false =>
        have e2 : Heap.IsList (Shared.heap ⟨hp.push { cls := .type "list_iterator", data := .fields #[.ref a, .int 0 0] }, g, d, tk, os⟩) b ys := Heap.IsList.push q2 _
        wp_walk using wpAny_pyIter_list e1, wpAny_pyIter_list e2
        exact ⟨_, rfl, h⟩
section
variable {prog : Program} {w : World} {A : Around} {E : Value → Shared → Prop} {s : Shared}
theorem wi_new (t : Bool) (h : Heap) (l : Addr) : Wi t (xH1 t h l) h.objs.size l 0 := by
  cases t with
  | true => exact ⟨_, Heap.get?_push_size _ rfl, rfl, rfl⟩
  | false => exact ⟨_, Heap.get?_push_size _ rfl, rfl, rfl⟩
theorem call_zipX {t1 t2 : Bool} {a b : Addr} {xs ys : Array Value} {Q : Value → Shared → Prop} (q1 : Sh t1 s.heap a xs) (q2 : Sh t2 s.heap b ys)
    (h : ∀ h', IsZip h' (s.heap.objs.size + 4) (s.heap.objs.size + 2) (s.heap.objs.size + 3) .none → IsPair h' (s.heap.objs.size + 2) (.ref s.heap.objs.size) (.ref (s.heap.objs.size + 1)) → IsPair h' (s.heap.objs.size + 3) .none .none →
      Wi t1 h' s.heap.objs.size a 0 → Wi t2 h' (s.heap.objs.size + 1) b 0 → (∀ c o, s.heap.get? c = some o → h'.get? c = some o) → Q (.ref (s.heap.objs.size + 4)) { s with heap := h' }) :
    wpAny (model prog w) A (call (.type "zip") [.ref a, .ref b]) Q E s := by
  refine callType_new F.called_zip (by decide) (F.typeCall_zip_2 _ _) (F.newCall_zip_2 _ _) (fun obj => F.args_object_init_3 obj _ _) F.entry_zip_new (meets_zipX t1 t2 a b xs ys) ⟨q1, q2, ?_⟩
  have n1 : (xH1 t1 s.heap a).objs.size = s.heap.objs.size + 1 := Heap.size_push ..
  have n2 : (xH2 t1 t2 s.heap a b).objs.size = s.heap.objs.size + 2 := (Heap.size_push ..).trans (by rw [n1])
  have n3 : (xH3 t1 t2 s.heap a b).objs.size = s.heap.objs.size + 3 := (Heap.size_push ..).trans (by rw [n2])
  have n4 : (xH4 t1 t2 s.heap a b).objs.size = s.heap.objs.size + 4 := (Heap.size_push ..).trans (by rw [n3])
  have g5 : (xH5 t1 t2 s.heap a b).get? (xH4 t1 t2 s.heap a b).objs.size = some _ := Heap.get?_push_size _ rfl
  have g4 : (xH5 t1 t2 s.heap a b).get? (xH3 t1 t2 s.heap a b).objs.size = some _ := Heap.get?_push_of_some _ (Heap.get?_push_size _ rfl)
  have g3 : (xH5 t1 t2 s.heap a b).get? (xH2 t1 t2 s.heap a b).objs.size = some _ := Heap.get?_push_of_some _ (Heap.get?_push_of_some _ (Heap.get?_push_size _ rfl))
  have up3 : ∀ c o, (xH2 t1 t2 s.heap a b).get? c = some o → (xH5 t1 t2 s.heap a b).get? c = some o := fun c o q => Heap.get?_push_of_some _ (Heap.get?_push_of_some _ (Heap.get?_push_of_some _ q))
  have up2 : ∀ c o, (xH1 t1 s.heap a).get? c = some o → (xH5 t1 t2 s.heap a b).get? c = some o := fun c o q => up3 c o (Heap.get?_push_of_some _ q)
  have w1 : Wi t1 (xH5 t1 t2 s.heap a b) s.heap.objs.size a 0 := (wi_new t1 s.heap a).to (up2 _)
  have w2 : Wi t2 (xH5 t1 t2 s.heap a b) (xH1 t1 s.heap a).objs.size b 0 := (wi_new t2 (xH1 t1 s.heap a) b).to (up3 _)
  show _ ∧ _
  rw [n2, n3, n4] at g5
  rw [n1, n2] at g3
  rw [n3] at g4
  rw [n1] at w2
  rw [n4]
  exact ⟨⟨_, g5, rfl⟩, h _ g5 g3 g4 w1 w2 fun c o q => up2 c o (Heap.get?_push_of_some _ q)⟩
end
section
variable {X : Cx} {W : WX} {Φ : Fn} {n : Nat}
def iZipX (K : PySem.W.Frag) (ta : TA) : TI := fun σ H R => ta σ H fun vs H1 => ∃ t1 t2 a b xs ys, vs = [.ref a, .ref b] ∧ Sx t1 K H1 a xs ∧ Sx t2 K H1 b ys ∧ R (Itx t1 t2 K a b) H1
theorem Sx.sh {pins : List (Addr × Obj)} {σ : L2.St} {H : Hp} {s : Shared} {t : Bool} {a : Addr} {xs : List V} (I : Inv X pins σ H s) (q : Sx t X.K H a xs) : ∃ its, Sh t s.heap a its ∧ a < s.heap.objs.size := by
  cases t with
  | true =>
    obtain ⟨its, rv, p, _⟩ := I.tuple q
    obtain ⟨o, ho, _⟩ := id p
    exact ⟨_, (show s.heap.IsTuple a its.toArray from p), Heap.lt_size ho⟩
  | false =>
    obtain ⟨its, rv, p, _⟩ := I.list q
    exact ⟨_, p.isList, p.lt⟩
theorem pi_zipX {e e2 : Expr} {ta : TA} {p pos tp : Pos} {es : List Expr} {j : Nat} (hg : L2.Gl X "zip") (hm : X.mg "zip" = none) (ha : L2.PA X [e, e2] ta) (hs : notStar e = true) (hs2 : notStar e2 = true) :
    PI X (.Tuple es j tp) (.Call (.Name "zip" p) [e, e2] [] pos) (iZipX X.K ta) := by
  refine ⟨fun pins s σ H R I h => Call_ (ld_blt I hg hm PyProof.Rows.boot_zip (PyProof.Rows.callWith_type1 (thn (ha.run pos pins s σ H _ I h) fun us s1 ⟨vs, H1, I1, r1, t1, t2, a, b, xs, ys, ex, qx, qy, q⟩ => ?_) (star_cons hs) (star_any (by simp [hs2]))))⟩
  subst ex
  obtain ⟨u1, u2, rfl, r1, r2⟩ : ∃ u1 u2, us = [u1, u2] ∧ RelV (V.ref a) u1 ∧ RelV (V.ref b) u2 := by
    cases r1 with
    | cons r rr =>
      cases rr with
      | cons r' rr => cases rr; exact ⟨_, _, rfl, r, r'⟩
  cases r1
  cases r2
  obtain ⟨_, s1', la⟩ := qx.sh I1
  obtain ⟨_, s2', lb⟩ := qy.sh I1
  refine call_zipX s1' s2' fun h' hz hI hO w1 w2 kp => wpAny_pyIter_zip hz ?_
  refine ⟨s1.heap.objs.size + 4, [s1.heap.objs.size + 4, s1.heap.objs.size + 2, s1.heap.objs.size + 3, s1.heap.objs.size, s1.heap.objs.size + 1], _, _, H1, rfl, I1.kept (t' := s1.toks) kp, turn_x (PySem.W.ktu_apart s1.heap.objs.size a b la lb), ⟨hz, hI, ⟨_, _, hO⟩, w1, w2⟩, fun c hc => ?_, q⟩
  have le : s1.heap.objs.size ≤ c := by
    rcases five hc with z | z | z | z | z <;> rw [z] <;> first | exact Nat.le_add_right _ _ | exact Nat.le_refl _
  exact I1.fpOk le (I1.hok.fresh le)
theorem sx_of {K : PySem.W.Frag} {F : Hp} {ρ : List Addr} {M : MS} {H : Hp} {v : V} {d : D} {ds : List D} (h : seqO d = some ds) (sm : SimM K F ρ M H) (r : Rep K F ρ v d) : ∃ t a vs, v = .ref a ∧ Sx t K F a vs ∧ Reps K F ρ vs ds := by
  cases r with
  | lst h1 h2 => cases h; exact ⟨false, _, _, rfl, h1, h2⟩
  | tup h1 h2 => cases h; exact ⟨true, _, _, rfl, h1, h2⟩
  | _ => cases h
theorem Sx.mono {K : PySem.W.Frag} {F F' : Hp} {t : Bool} {a : Addr} {vs : List V} (h : Sx t K F a vs) (m : ∀ a o, F a = some o → F' a = some o) : Sx t K F' a vs := by
  cases t with
  | true => exact sqT_mono h m
  | false => exact sqL_mono h m
theorem itx_ok {K : PySem.W.Frag} {F : Hp} {ρ : List Addr} {t1 t2 : Bool} {a b : Addr} {vs ws : List V} {ds es : List D} (h1 : Sx t1 K F a vs) (r1 : Reps K F ρ vs ds) (h2 : Sx t2 K F b ws) (r2 : Reps K F ρ ws es) :
    ItOk K F ρ (Itx t1 t2 K a b) (List.zipWith (fun x y => .tup [x, y]) ds es) := by
  have n1 := r1.length
  have n2 := r2.length
  refine ⟨fun F' ρ' M' H' i m p sm hi => ?_, fun F' ρ' M' H' m p sm => ?_, fun F' ρ' M' H' i d x H'' m p sm hd hy => ?_⟩
  · rw [List.length_zipWith] at hi
    have i1 : i < vs.length := by omega
    have i2 : i < ws.length := by omega
    exact ⟨vs, ws, vs[i], ws[i], (h1.mono m).mono sm.sub, (h2.mono m).mono sm.sub, List.getElem?_eq_getElem i1, List.getElem?_eq_getElem i2⟩
  · refine ⟨vs, ws, (h1.mono m).mono sm.sub, (h2.mono m).mono sm.sub, ?_⟩
    rw [List.length_zipWith]
    omega
  · obtain ⟨T, y, z, rfl, hT, rfl, hy, hz⟩ := hy
    obtain ⟨d1, d2, e1, e2, rfl⟩ := zip_get ds es i d hd
    obtain ⟨v1, g1, q1⟩ := r1.get e1
    obtain ⟨v2, g2, q2⟩ := r2.get e2
    have k1 := hy vs ((h1.mono m).mono sm.sub)
    have k2 := hz ws ((h2.mono m).mono sm.sub)
    rw [g1] at k1
    rw [g2] at k2
    cases k1
    cases k2
    exact pair_laid sm hT (.cons (q1.mono m p) (.cons (q2.mono m p) .nil))
theorem itZip_ok {e e2 : Expr} {c c2 : E} {p pos tp : Pos} {elts : List Expr} {j : Nat} (hg : L2.Gl X "zip") (hm : X.mg "zip" = none) (ha : L2.PA X [e, e2] (TEs X W (evs Φ n [c, c2]))) (hs : notStar e = true) (hs2 : notStar e2 = true) :
    PI X (.Tuple elts j tp) (.Call (.Name "zip" p) [e, e2] [] pos) (TI1 X W fun σ M => evIt Φ n σ (.zip c c2) M) := by
  refine pi_imp (pi_zipX hg hm ha hs hs2) fun σR H R q => ?_
  unfold iZipX
  refine Tev.bind (ev := evs Φ n [c, c2]) (f := fun σ ds M => .of (itO n (.zip c c2) ds) M) q (fun σ M => ?_) fun vs ds M' σ F' ρ' H' sm ss r o => ?_
  · simp only [evs, evIt, evEs]
    cases evE Φ n σ c M with
    | ok d M1 =>
      simp only [Rs.bind_ok]
      cases evE Φ n σ c2 M1 <;> rfl
    | exc x M1 => rfl
    | bad => rfl
  · cases r with
    | nil => exact (show False from o).elim
    | cons r rr =>
      cases rr with
      | nil => exact (show False from (by cases r <;> exact o)).elim
      | cons r2 rr =>
        cases rr with
        | cons r3 rr => exact (show False from (by cases r <;> cases r2 <;> exact o)).elim
        | nil =>
          simp only [itO] at o
          split at o
          · rename_i xs ys e1 e2
            obtain ⟨t1, a, vs, rfl, q1, q2⟩ := sx_of e1 sm r
            obtain ⟨t2, b, ws, rfl, q3, q4⟩ := sx_of e2 sm r2
            exact ⟨t1, t2, a, b, vs, ws, rfl, q1.mono sm.sub, q3.mono sm.sub, OutR.ok o sm (itx_ok q1 q2 q3 q4)⟩
          · exact (show False from o).elim
end
end Mi
set_option Elab.async false
set_option linter.all false
set_option maxRecDepth 100000
set_option maxHeartbeats 2000000
/-! Mi, part 14: every expression that passes the look is as it is evaluated. -/
namespace Mi
open PySem PySem.Spec PyProof.Rows L2
section
variable {T : Tab} {Φ : Fn} {n : Nat} {N : List Str} {fx : Str → Bool} {sc : Scope} {X : Cx} {W : WX}
/-- in a comprehension's block -/
theorem Good.blk (g : Good T Φ n N fx sc X W) (s : Shared) (H : Hp) (scope : Scope) (C : Addr) (cl : List (Str × Addr)) (fp : List Addr) : Good T Φ n N (blkF scope) (relS scope sc) (X.blk s H scope (compEnvC scope cl C X.env) fp) W0 :=
  ⟨g.hN, g.nd, by
    have e := g.hsc
    subst e
    rfl, rfl, g.calm, fun u s' ⟨_, _, _, _, _, _, _, _, _, _, _, _, _, _, _, _, w⟩ => False.elim w, ⟨g.bse.rm, g.bse.free, g.bse.consts, g.bse.funs, g.bse.excs, g.bse.cls⟩⟩
theorem chain_ok (u : X.A.units + 16 * n + 152 < cLine) {p q : P} {o1 o2 : CmpOp} {a b c : E} {x y z : Expr} (h1 : cmpOfP p = some o1) (h2 : cmpOfP q = some o2) (hm : lastMarks [o1, o2] [y, z] = false) (ha : PE X x (TE1 X W (ev1 Φ n a))) (hb : PE X y (TE1 X W (ev1 Φ n b))) (hc : PE X z (TE1 X W (ev1 Φ n c))) :
    ∀ (σR : L2.St) (H : Hp) (Q : VK), TE1 X W (ev1 Φ n (.chain p q a b c)) σR H Q → tChain (rP2 X.K n p) (rP2 X.K n q) (TE1 X W (ev1 Φ n a)) (TE1 X W (ev1 Φ n b)) (TE1 X W (ev1 Φ n c)) σR H Q := by
  intro σR H Q h
  unfold tChain
  refine Tev.bind (ev := ev1 Φ n a) (f := fun σ x M => (evE Φ n σ b M).bind fun y M => match (pr n p [x, y]).bind testO with
    | some true => (evE Φ n σ c M).bind fun z M => .of (pr n q [y, z]) M
    | some false => .ok (.bl false) M
    | none => .bad) h (fun σ M => by simp only [ev1, evE] <;> rfl) fun v d M1 σ F1 ρ1 H1 sm1 ss1 r1 o1 => ?_
  refine ⟨F1, ρ1, σ, M1, sm1, ss1, OutR.bind o1 fun w e M2 F2 ρ2 H2 st2 sm2 r2 o2 => ?_⟩
  refine ⟨F2, ρ2, M2, d, e, sm2, .rep (st2.rep r1), .rep r2, ?_⟩
  cases hp : pr n p [d, e] with
  | none => rw [hp] at o2; exact (show False from o2).elim
  | some k =>
    rw [hp] at o2
    cases ht : testO k with
    | none => simp only [Option.bind_some, ht] at o2; exact (show False from o2).elim
    | some b =>
      have ek := testO_ok ht
      subst ek
      intro v3 F3 ρ3 H3 st3 sm3 r3
      cases r3
      cases b with
      | false =>
        simp only [Option.bind_some, ht] at o2
        exact ⟨false, rfl, by
          rw [if_neg (by decide)]
          exact (OutR.after st3 o2) (.bl false) F3 ρ3 H3 .refl sm3 (.bl _)⟩
      | true =>
        simp only [Option.bind_some, ht] at o2
        refine ⟨true, rfl, ?_⟩
        rw [if_pos rfl]
        exact ⟨F3, ρ3, σ, M2, sm3, (ss1.step st2).step st3, OutR.bind (OutR.after st3 o2) fun v4 d4 M4 F4 ρ4 H4 st4 sm4 r4 o4 => ⟨F4, ρ4, M4, e, d4, sm4, .rep (st4.rep (st3.rep r2)), .rep r4, o4.of⟩⟩
theorem hnt_of {c : D} {ev : Sg → MS → Rs D} {e : Expr} (h : PE X e (TF1 X W ev)) : PE X e (TE1 X W ev) := pe_imp h fun _ _ _ q => to_fr q
/-- a new object that is kept among those that change -/
theorem new_ok {c : E} {e : Expr} (h : PE X e (TF1 X W (ev1 Φ n c))) : PE X e (TE1 X W (ev1 Φ n (.new c))) := by
  refine pe_imp h fun σR H Q ⟨F, ρ, σ, M, sm, ss, o⟩ => ⟨F, ρ, σ, M, sm, ss, ?_⟩
  have o : OutR X.K X.mg W F ρ H σR (RV X.K) (evE Φ n σ (.new c) M) Q := o
  simp only [evE] at o
  show OutR X.K X.mg W F ρ H σR (RF X.K H) (evE Φ n σ c M) Q
  cases e1 : evE Φ n σ c M with
  | ok d M1 =>
    rw [e1] at o
    intro v F' ρ' H' st sm' ⟨p, ob, ct, h1, h2, h3, h4, h5, h6, h7⟩
    subst h2
    simp only [Rs.bind_ok, h1] at o
    have o : OutR X.K X.mg W F ρ H σR (RV X.K) (.ok (.ref M1.length) (M1 ++ [.cell ct])) Q := o
    have px : ρ' <+: ρ' ++ [p] := List.prefix_append _ _
    have mm : ∀ a u, F' a = some u → F' a = some u := fun _ _ e => e
    refine o (.ref p) F' (ρ' ++ [p]) H' ⟨st.mono, st.pre.trans px, st.keep, fun b hb n => ?_⟩ ⟨sm'.sub, by simp [sm'.len], ?_, fun a ha => ?_, fun j a mo q1 q2 => ?_⟩ ?_
    · rcases List.mem_append.mp hb with q | q
      · exact st.new b q n
      · have e : b = p := by simpa using q
        rw [e]; exact h7
    · rw [List.nodup_append]
      exact ⟨sm'.nd, by simp, fun a ha b hb z => by
        have e : b = p := by simpa using hb
        rw [z, e] at ha
        exact h6 ha⟩
    · rcases List.mem_append.mp ha with q | q
      · exact sm'.off a q
      · have e : a = p := by simpa using q
        rw [e]; exact h5
    · by_cases hj : j < ρ'.length
      · rw [List.getElem?_append_left hj] at q1
        rw [List.getElem?_append_left (by rw [← sm'.len]; exact hj)] at q2
        cases sm'.obj j a mo q1 q2 with
        | cell g1 g2 => exact .cell g1 (g2.mono mm px)
      · have hj1 : j = ρ'.length := by
          have := (List.getElem?_eq_some_iff.mp q1).1
          simp at this
          omega
        subst hj1
        rw [List.getElem?_append_right (Nat.le_refl _)] at q1
        rw [sm'.len, List.getElem?_append_right (Nat.le_refl _)] at q2
        simp at q1 q2
        subst q1 q2
        exact .cell h3 (h4.mono mm px)
    · refine .ref ?_
      rw [← sm'.len, List.getElem?_append_right (Nat.le_refl _)]
      simp
  | exc x M1 => rw [e1] at o; exact o
  | bad => rw [e1] at o; exact o
theorem tests_ok {cs : List E} {ifs : List Expr} (hl : ifs.length ≤ 1) (h : Paired (fun (c : E) (x : Expr) => PT X x (TTv X W0 (ev1 Φ n c))) cs ifs) : PTs X ifs (TTs X Φ n cs) := by
  cases h with
  | nil => exact ⟨fun pins s σ H Q I ⟨F, ρ, σ', M, sm, ss, o⟩ => pts_nil.run pins s σ H Q I (OutR.ok (show OutR X.K X.mg W0 F ρ H σ RBB (.ok true M) Q from o) sm rfl)⟩
  | cons a b =>
    rename_i c x cs xs
    cases b with
    | cons a' b' => simp at hl
    | nil =>
      refine ⟨fun pins s σ H Q I q => (pts_one a).run pins s σ H Q I ?_⟩
      refine Tev.bind (ev := ev1 Φ n c) (f := fun σ d M => match testO d with
        | some true => .ok true M
        | some false => .ok false M
        | none => .bad) q (fun σ M => by
          simp only [ev1, evTs] <;> congr 1) fun v d M' σ' F' ρ' H' sm ss r o => ?_
      cases ht : testO d with
      | none => simp only [ht] at o; exact (show False from o).elim
      | some b =>
        have ed := testO_ok ht
        subst ed
        cases r
        cases b with
        | true => simp only [ht] at o; exact ⟨true, rfl, OutR.ok o sm rfl⟩
        | false => simp only [ht] at o; exact ⟨false, rfl, OutR.ok o sm rfl⟩
theorem noSet_fold {e : Expr} (h : noSet e = true) (env : Env) (x : Value) : foldedSetIterable e env x = pure x := by
  cases e <;> first | rfl | cases h
end
section
variable {Φ : Fn} {n : Nat} {X : Cx} {W : WX}
theorem sndNil : PA X [] (TEs X W (evs Φ n [])) := pa_imp pa_nil fun σ H Q ⟨F, ρ, σ', M, sm, ss, o⟩ => OutR.ok (show OutR X.K X.mg W F ρ H σ (RVs X.K) (.ok [] M) Q from o) sm .nil
theorem sndCons {c : E} {cs : List E} {e : Expr} {es : List Expr} (a : PE X e (TE1 X W (ev1 Φ n c))) (b : PA X es (TEs X W (evs Φ n cs))) (h : notStar e = true) : PA X (e :: es) (TEs X W (evs Φ n (c :: cs))) := by
  refine pa_imp (pa_cons a b (star_cons h)) fun σ H Q q => ?_
  unfold tCons
  refine Tev.bind (ev := ev1 Φ n c) (f := fun σ d M => (evEs Φ n σ cs M).bind fun ds M => .ok (d :: ds) M) q (fun σ M => by simp only [evs, ev1, evEs]) fun v d M' σ' F' ρ' H' sm ss r o => ?_
  exact ⟨F', ρ', σ', M', sm, ss, OutR.bind o fun w ds M2 F2 ρ2 H2 st sm2 r2 o2 => OutR.ok (show OutR X.K X.mg W F2 ρ2 H2 σ (RVs X.K) (.ok (d :: ds) M2) Q from o2) sm2 (.cons (st.rep r) r2)⟩
theorem sndOne {c : E} {e : Expr} (a : PE X e (TE1 X W (ev1 Φ n c))) (h : notStar e = true) : PA X [e] (TEs X W (evs Φ n [c])) := sndCons a sndNil h
theorem sndTwo {c d : E} {e f : Expr} (a : PE X e (TE1 X W (ev1 Φ n c))) (b : PE X f (TE1 X W (ev1 Φ n d))) (h : notStar e = true) (h2 : notStar f = true) : PA X [e, f] (TEs X W (evs Φ n [c, d])) := sndCons a (sndOne b h2) h
end
theorem isFr_no {c : E} {Pp : Prop} (h : isFr c = false) : isFr c = true → Pp := fun z => by rw [h] at z; cases z
mutual
theorem sndE {T : Tab} {Φ : Fn} {n : Nat} {N : List Str} : ∀ (fx : Str → Bool) (sc : Scope) (X : Cx) (W : WX) (_ : Good T Φ n N fx sc X W) (c : E) (e : Expr), chkE T N fx sc c e = true → PE X e (TE1 X W (ev1 Φ n c)) ∧ (isFr c = true → PE X e (TF1 X W (ev1 Φ n c)))
  | fx, sc, X, W, g, .con d, e, h => by
    refine ⟨?_, isFr_no rfl⟩
    unfold chkE at h
    split at h
    · exact conB_ok h
    · cases h
  | fx, sc, X, W, g, .glb x d, e, h => by
    refine ⟨?_, isFr_no rfl⟩
    unfold chkE at h
    split at h
    · simp only [Bool.and_eq_true, decide_eq_true_eq] at h
      obtain ⟨⟨⟨rfl, h1⟩, h2⟩, h3⟩ := h
      exact glb_ok g h1 h2 h3
    · cases h
  | fx, sc, X, W, g, .var i, e, h => ⟨var_ok g (by unfold chkE at h; exact h), isFr_no rfl⟩
  | fx, sc, X, W, g, .bor i, e, h => by unfold chkE at h; cases h
  | fx, sc, X, W, g, .tup es, e, h => by
    refine ⟨?_, isFr_no rfl⟩
    unfold chkE at h
    split at h
    · simp only [Bool.and_eq_true, decide_eq_true_eq] at h
      exact tup_ok (sndEs fx sc X W g es _ h.1).1 h.2
    · cases h
  | fx, sc, X, W, g, .lst es, e, h => by
    unfold chkE at h
    split at h
    · simp only [Bool.and_eq_true, decide_eq_true_eq] at h
      have q := lst_fr (pos := by assumption) (sndEs fx sc X W g es _ h.1).1 h.2
      exact ⟨hnt_of (c := .non) q, fun _ => q⟩
    · cases h
  | fx, sc, X, W, g, .dct es, e, h => by
    unfold chkE at h
    split at h
    · rename_i ks vs pos
      simp only [Bool.and_eq_true, decide_eq_true_eq] at h
      obtain ⟨q1, q2, q3, q4, q5⟩ := sndD fx sc X W g es _ _ h.1
      have q := dct_fr (pos := pos) (q1 pos) q2 q3 h.2 q4 q5
      exact ⟨hnt_of (c := .non) q, fun _ => q⟩
    · cases h
  | fx, sc, X, W, g, .prim p as, e, h => by
    refine ⟨?_, isFr_no rfl⟩
    unfold chkE at h
    split at h
    · rename_i es q
      exact prim_ok g q (sndOs fx sc X W g as es h)
    · cases h
  | fx, sc, X, W, g, .call f as, e, h => by
    refine ⟨?_, isFr_no rfl⟩
    unfold chkE at h
    split at h
    · simp only [Bool.and_eq_true] at h
      obtain ⟨⟨⟨h1, h2⟩, h3⟩, h4⟩ := h
      obtain ⟨a, b, c⟩ := sndEs fx sc X W g as _ h4
      exact call_ok g h1 h2 h3 a (by rw [b.length]; rfl) c
    · cases h
  | fx, sc, X, W, g, .and es, e, h => by
    refine ⟨?_, isFr_no rfl⟩
    unfold chkE at h
    split at h
    · have q := (sndEs fx sc X W g es _ h).2.1
      exact and_ok q (by intro z; subst z; cases q)
    · cases h
  | fx, sc, X, W, g, .or es, e, h => by
    refine ⟨?_, isFr_no rfl⟩
    unfold chkE at h
    split at h
    · have q := (sndEs fx sc X W g es _ h).2.1
      exact or_ok q (by intro z; subst z; cases q)
    · cases h
  | fx, sc, X, W, g, .not a, e, h => by
    refine ⟨?_, isFr_no rfl⟩
    unfold chkE at h
    split at h
    · exact not_ok (sndE fx sc X W g a _ h).1
    · cases h
  | fx, sc, X, W, g, .ifx c a b, e, h => by
    refine ⟨?_, isFr_no rfl⟩
    unfold chkE at h
    split at h
    · simp only [Bool.and_eq_true] at h
      exact ifx_ok (sndT fx sc X W g c _ h.1.1) (sndE fx sc X W g a _ h.1.2).1 (sndE fx sc X W g b _ h.2).1
    · cases h
  | fx, sc, X, W, g, .chain p q a b c, e, h => by
    refine ⟨?_, isFr_no rfl⟩
    unfold chkE at h
    split at h
    · simp only [Bool.and_eq_true, decide_eq_true_eq, Bool.not_eq_true'] at h
      obtain ⟨⟨⟨⟨⟨h1, h2⟩, h3⟩, h4⟩, h5⟩, h6⟩ := h
      have u := g.bse.units
      have q1 := (sndE fx sc X W g a _ h4).1
      have q2 := (sndE fx sc X W g b _ h5).1
      have q3 := (sndE fx sc X W g c _ h6).1
      exact pe_imp (pe_chain (cmpP_ok u h1) (cmpP_ok u h2) q1 q2 q3 h3) (chain_ok u h1 h2 h3 q1 q2 q3)
    · cases h
  | fx, sc, X, W, g, .comp own t it cs elt, e, h => by
    unfold chkE at h
    split at h
    · rename_i el tg iter ifs scope pos
      simp only [Bool.and_eq_true, decide_eq_true_eq] at h
      obtain ⟨⟨⟨⟨⟨h1, h2⟩, h3⟩, h4⟩, h5⟩, h6⟩ := h
      unfold compB at h2
      simp only [Bool.and_eq_true, decide_eq_true_eq, List.all_eq_true] at h2
      obtain ⟨⟨⟨b1, b2⟩, b3⟩, b4⟩ := h2
      have gb := fun s H C cl fp => g.blk s H scope C cl fp
      have ok := blkOk_by b2
      rw [← g.hN, ← g.hsc] at ok
      have q := comp_ok (W := W) (pos := pos) g.calm (by rw [g.hN]; exact g.nd) (sndI fx sc X W g it tg iter h1) ok
        (fun s H C cl fp => pg_ok (gb s H C cl fp).hN (gb s H C cl fp).nd (gb s H C cl fp).hsc (gb s H C cl fp).hfx (gb s H C cl fp).calm t tg h3)
        (fun s H C cl fp => tests_ok h4 (sndTs _ _ _ _ (gb s H C cl fp) cs ifs h5))
        (fun s H C cl fp => (sndE _ _ _ _ (gb s H C cl fp) elt el h6).1) (noSet_fold b4 X.env) (fun i hi => by rw [g.hN, b1]; exact b3 i hi)
      rw [g.hN, b1] at q
      exact ⟨hnt_of (c := .non) q, fun _ => q⟩
    · cases h
  | fx, sc, X, W, g, .new a, e, h => by
    refine ⟨?_, isFr_no rfl⟩
    unfold chkE at h
    simp only [Bool.and_eq_true] at h
    exact new_ok ((sndE fx sc X W g a e h.2).2 h.1)
  | fx, sc, X, W, g, .get1 o k, e, h => by
    refine ⟨?_, isFr_no rfl⟩
    unfold chkE at h
    split at h
    · simp only [Bool.and_eq_true, Bool.or_eq_true, decide_eq_true_eq] at h
      obtain ⟨⟨⟨⟨⟨rfl, h2⟩, h3⟩, h4⟩, h5⟩, h6⟩ := h
      refine get1_ok g ?_ (sndE fx sc X W g k _ h6).1 h3 h4 h2
      rcases h5 with h5 | h5
      · exact pe_imp (sndE fx sc X W g o _ h5).1 fun σ H Q q => to_of q
      · cases o <;> first
          | exact bor_ok g h5
          | cases h5
    · cases h
  | fx, sc, X, W, g, .get2 o k z, e, h => by
    refine ⟨?_, isFr_no rfl⟩
    unfold chkE at h
    split at h
    · simp only [Bool.and_eq_true, Bool.or_eq_true, decide_eq_true_eq] at h
      obtain ⟨⟨⟨⟨⟨⟨⟨rfl, h2⟩, h3⟩, h4⟩, h4'⟩, h5⟩, h6⟩, h7⟩ := h
      refine get2_ok g ?_ (sndE fx sc X W g k _ h6).1 (sndE fx sc X W g z _ h7).1 h3 h4 h4' h2
      rcases h5 with h5 | h5
      · exact pe_imp (sndE fx sc X W g o _ h5).1 fun σ H Q q => to_of q
      · cases o <;> first
          | exact bor_ok g h5
          | cases h5
    · cases h
  | fx, sc, X, W, g, .slc a lo hi, e, h => by
    refine ⟨?_, isFr_no rfl⟩
    unfold chkE at h
    split at h
    · simp only [Bool.and_eq_true, Bool.or_eq_true] at h
      obtain ⟨⟨h1, h2⟩, h3⟩ := h
      refine slc_ok ?_ (sndP fx sc X W g lo _ h2) (sndP fx sc X W g hi _ h3)
      rcases h1 with h1 | h1
      · exact pe_imp (sndE fx sc X W g a _ h1).1 fun σ H Q q => to_of q
      · cases a <;> first
          | exact bor_ok g h1
          | cases h1
    · cases h
theorem sndT {T : Tab} {Φ : Fn} {n : Nat} {N : List Str} : ∀ (fx : Str → Bool) (sc : Scope) (X : Cx) (W : WX) (_ : Good T Φ n N fx sc X W) (c : E) (e : Expr), chkT T N fx sc c e = true → PT X e (TTv X W (ev1 Φ n c))
  | fx, sc, X, W, g, .not a, e, h => by
    unfold chkT at h
    split at h
    · exact notT_ok (sndT fx sc X W g a _ h)
    · cases h
  | fx, sc, X, W, g, .and es, e, h => by
    unfold chkT at h
    split at h
    · have q := sndTs fx sc X W g es _ h
      exact (andW_ok q (by intro z; subst z; cases q)).pt
    · cases h
  | fx, sc, X, W, g, .or es, e, h => by
    unfold chkT at h
    split at h
    · have q := sndTs fx sc X W g es _ h
      exact (orW_ok q (by intro z; subst z; cases q)).pt
    · cases h
  | fx, sc, X, W, g, .prim p as, e, h => by
    unfold chkT at h
    split at h
    · rename_i es q
      simp only [Bool.and_eq_true, Bool.or_eq_true] at h
      rcases h.1 with h1 | h1
      · exact ptv (prim_ok g q (sndOs fx sc X W g as es h.2)) h1
      · unfold isCmp at h1
        split at h1
        · exact cmpT_ok g q (sndOs fx sc X W g as es h.2)
        · cases h1
    · cases h
  | fx, sc, X, W, g, .con d, e, h => by
    unfold chkT at h
    simp only [Bool.and_eq_true] at h
    have h2 := h.2
    split at h2
    · exact ptv (conB_ok h2) h.1
    · cases h2
  | fx, sc, X, W, g, .var i, e, h => by
    have h : varB N sc i e = true := by unfold chkT at h; exact h
    refine ptv (var_ok g h) ?_
    obtain ⟨x, pos, rfl, _⟩ := var_shape h
    rfl
  | fx, sc, X, W, g, .call f as, e, h => by
    unfold chkT at h
    split at h
    · simp only [Bool.and_eq_true] at h
      obtain ⟨⟨⟨h1, h2⟩, h3⟩, h4⟩ := h
      obtain ⟨a, b, c⟩ := sndEs fx sc X W g as _ h4
      exact ptv (call_ok g h1 h2 h3 a (by rw [b.length]; rfl) c) rfl
    · cases h
  | fx, sc, X, W, g, .chain p q a b c, e, h => by
    unfold chkT at h
    split at h
    · simp only [Bool.and_eq_true, decide_eq_true_eq, Bool.not_eq_true'] at h
      obtain ⟨⟨⟨⟨⟨h1, h2⟩, h3⟩, h4⟩, h5⟩, h6⟩ := h
      have u := g.bse.units
      have q1 := (sndE fx sc X W g a _ h4).1
      have q2 := (sndE fx sc X W g b _ h5).1
      have q3 := (sndE fx sc X W g c _ h6).1
      exact pt_imp (pt_chain (cmpP_ok u h1) (cmpP_ok u h2) q1 q2 q3 h3) fun σ H Q => chain_ok u h1 h2 h3 q1 q2 q3 σ H _
    · cases h
  | _, _, _, _, _, .glb _ _, _, h | _, _, _, _, _, .bor _, _, h | _, _, _, _, _, .tup _, _, h | _, _, _, _, _, .lst _, _, h | _, _, _, _, _, .dct _, _, h | _, _, _, _, _, .ifx _ _ _, _, h | _, _, _, _, _, .comp _ _ _ _ _, _, h | _, _, _, _, _, .new _, _, h | _, _, _, _, _, .get1 _ _, _, h | _, _, _, _, _, .get2 _ _ _, _, h | _, _, _, _, _, .slc _ _ _, _, h => by
    unfold chkT at h
    cases h
theorem sndI {T : Tab} {Φ : Fn} {n : Nat} {N : List Str} : ∀ (fx : Str → Bool) (sc : Scope) (X : Cx) (W : WX) (_ : Good T Φ n N fx sc X W) (c : It) (tg e : Expr), chkI T N fx sc c tg e = true → PI X tg e (TI1 X W fun σ M => evIt Φ n σ c M)
  | fx, sc, X, W, g, .seq c, tg, e, h => itSeq_ok (sndE fx sc X W g c e (by unfold chkI at h; exact h)).1
  | fx, sc, X, W, g, .rng1 c, tg, e, h => by
    unfold chkI at h
    split at h
    · simp only [Bool.and_eq_true, decide_eq_true_eq] at h
      obtain ⟨⟨⟨rfl, h1⟩, h2⟩, h3⟩ := h
      exact itRng1_ok (gl_of g h1) (g.bse.free _ (by decide +kernel)) (sndOne (sndE fx sc X W g c _ h3).1 h2) h2
    · cases h
  | fx, sc, X, W, g, .rng2 c d, tg, e, h => by
    unfold chkI at h
    split at h
    · simp only [Bool.and_eq_true, decide_eq_true_eq] at h
      obtain ⟨⟨⟨⟨⟨rfl, h1⟩, h2⟩, h3⟩, h4⟩, h5⟩ := h
      exact itRng2_ok (gl_of g h1) (g.bse.free _ (by decide +kernel)) (sndTwo (sndE fx sc X W g c _ h4).1 (sndE fx sc X W g d _ h5).1 h2 h3) h2 h3
    · cases h
  | fx, sc, X, W, g, .enum c, tg, e, h => by
    unfold chkI at h
    split at h
    · simp only [Bool.and_eq_true, decide_eq_true_eq] at h
      obtain ⟨⟨⟨⟨ht, rfl⟩, h1⟩, h2⟩, h3⟩ := h
      unfold isTupE at ht
      split at ht
      · exact itEnum_ok (gl_of g h1) (g.bse.free _ (by decide +kernel)) (sndOne (sndE fx sc X W g c _ h3).1 h2) h2
      · cases ht
    · cases h
  | fx, sc, X, W, g, .zip c d, tg, e, h => by
    unfold chkI at h
    split at h
    · simp only [Bool.and_eq_true, decide_eq_true_eq] at h
      obtain ⟨⟨⟨⟨⟨⟨ht, rfl⟩, h1⟩, h2⟩, h3⟩, h4⟩, h5⟩ := h
      unfold isTupE at ht
      split at ht
      · exact itZip_ok (gl_of g h1) (g.bse.free _ (by decide +kernel)) (sndTwo (sndE fx sc X W g c _ h4).1 (sndE fx sc X W g d _ h5).1 h2 h3) h2 h3
      · cases ht
    · cases h
  | fx, sc, X, W, g, .items _, tg, e, h => by unfold chkI at h; cases h
theorem sndEs {T : Tab} {Φ : Fn} {n : Nat} {N : List Str} : ∀ (fx : Str → Bool) (sc : Scope) (X : Cx) (W : WX) (_ : Good T Φ n N fx sc X W) (cs : List E) (es : List Expr), chkEs T N fx sc cs es = true → PA X es (TEs X W (evs Φ n cs)) ∧ Paired (fun (c : E) (x : Expr) => PE X x (TE1 X W (ev1 Φ n c))) cs es ∧ es.all notStar = true
  | fx, sc, X, W, g, [], [], _ => ⟨sndNil, .nil, rfl⟩
  | fx, sc, X, W, g, c :: cs, e :: es, h => by
    unfold chkEs at h
    simp only [Bool.and_eq_true] at h
    obtain ⟨⟨h1, h2⟩, h3⟩ := h
    have a := (sndE fx sc X W g c e h2).1
    obtain ⟨b1, b2, b3⟩ := sndEs fx sc X W g cs es h3
    exact ⟨sndCons a b1 h1, .cons a b2, by rw [List.all_cons, h1, b3]; rfl⟩
  | fx, sc, X, W, g, [], _ :: _, h => by unfold chkEs at h; cases h
  | fx, sc, X, W, g, _ :: _, [], h => by unfold chkEs at h; cases h
theorem sndTs {T : Tab} {Φ : Fn} {n : Nat} {N : List Str} : ∀ (fx : Str → Bool) (sc : Scope) (X : Cx) (W : WX) (_ : Good T Φ n N fx sc X W) (cs : List E) (es : List Expr), chkTs T N fx sc cs es = true → Paired (fun (c : E) (x : Expr) => PT X x (TTv X W (ev1 Φ n c))) cs es
  | fx, sc, X, W, g, [], [], _ => .nil
  | fx, sc, X, W, g, c :: cs, e :: es, h => by
    unfold chkTs at h
    simp only [Bool.and_eq_true] at h
    exact .cons (sndT fx sc X W g c e h.1) (sndTs fx sc X W g cs es h.2)
  | fx, sc, X, W, g, [], _ :: _, h => by unfold chkTs at h; cases h
  | fx, sc, X, W, g, _ :: _, [], h => by unfold chkTs at h; cases h
theorem sndOs {T : Tab} {Φ : Fn} {n : Nat} {N : List Str} : ∀ (fx : Str → Bool) (sc : Scope) (X : Cx) (W : WX) (_ : Good T Φ n N fx sc X W) (cs : List E) (es : List Expr), chkOs T N fx sc cs es = true → OpL Φ n X W cs es
  | fx, sc, X, W, g, [], [], _ => .nil
  | fx, sc, X, W, g, c :: cs, e :: es, h => by
    unfold chkOs at h
    simp only [Bool.and_eq_true, Bool.or_eq_true] at h
    refine .cons ?_ (sndOs fx sc X W g cs es h.2)
    rcases h.1 with h1 | h1
    · exact pe_imp (sndE fx sc X W g c e h1).1 fun σ H Q q => to_of q
    · cases c <;> first
        | exact bor_ok g h1
        | cases h1
  | fx, sc, X, W, g, [], _ :: _, h => by unfold chkOs at h; cases h
  | fx, sc, X, W, g, _ :: _, [], h => by unfold chkOs at h; cases h
theorem sndP {T : Tab} {Φ : Fn} {n : Nat} {N : List Str} : ∀ (fx : Str → Bool) (sc : Scope) (X : Cx) (W : WX) (_ : Good T Φ n N fx sc X W) (cs : List E) (l : Option Expr), chkP T N fx sc cs l = true → (cs = [] ∧ l = none) ∨ ∃ c e, cs = [c] ∧ l = some e ∧ PE X e (TE1 X W (ev1 Φ n c))
  | fx, sc, X, W, g, [], none, _ => .inl ⟨rfl, rfl⟩
  | fx, sc, X, W, g, [c], some e, h => .inr ⟨c, e, rfl, rfl, (sndE fx sc X W g c e (by unfold chkP at h; exact h)).1⟩
  | fx, sc, X, W, g, [], some _, h => by unfold chkP at h; cases h
  | fx, sc, X, W, g, [_], none, h => by unfold chkP at h; cases h
  | fx, sc, X, W, g, _ :: _ :: _, _, h => by unfold chkP at h; cases h
theorem sndD {T : Tab} {Φ : Fn} {n : Nat} {N : List Str} : ∀ (fx : Str → Bool) (sc : Scope) (X : Cx) (W : WX) (_ : Good T Φ n N fx sc X W) (cs : List E) (ks : List (Option Expr)) (vs : List Expr), chkD T N fx sc cs ks vs = true → (∀ pos, PPs X pos ks vs (trsOf X W Φ n cs)) ∧ ks.all (·.isSome) = true ∧ ks.length = vs.length ∧ evenL cs = true ∧ (ks.length = 0 → cs = [])
  | fx, sc, X, W, g, [], [], [], _ => ⟨fun pos => pps_nil, rfl, rfl, rfl, fun _ => rfl⟩
  | fx, sc, X, W, g, k :: v :: r, some x :: ks, y :: vs, h => by
    unfold chkD at h
    simp only [Bool.and_eq_true] at h
    obtain ⟨⟨h1, h2⟩, h3⟩ := h
    obtain ⟨q1, q2, q3, q4, q5⟩ := sndD fx sc X W g r ks vs h3
    refine ⟨fun pos => pps_cons (sndE fx sc X W g k x h1).1 (sndE fx sc X W g v y h2).1 (q1 pos), by rw [List.all_cons, q2]; rfl, by rw [List.length_cons, List.length_cons, q3], q4, fun z => by rw [List.length_cons] at z; omega⟩
  | fx, sc, X, W, g, [], _ :: _, _, h => by unfold chkD at h; cases h
  | fx, sc, X, W, g, [], [], _ :: _, h => by unfold chkD at h; cases h
  | fx, sc, X, W, g, [_], _, _, h => by unfold chkD at h; cases h
  | fx, sc, X, W, g, _ :: _ :: _, [], _, h => by unfold chkD at h; cases h
  | fx, sc, X, W, g, _ :: _ :: _, none :: _, _, h => by unfold chkD at h; cases h
  | fx, sc, X, W, g, _ :: _ :: _, some _ :: _, [], h => by unfold chkD at h; cases h
end
end Mi
set_option Elab.async false
set_option linter.all false
set_option maxRecDepth 100000
set_option maxHeartbeats 2000000
/-! Mi, part 15: statements: what stands between them. -/
namespace Mi
open PySem PySem.Spec PyProof.Rows L2
/-- where a def began -/
structure Bs where
  F : Hp
  ρ : List Addr
  H : Hp
structure Cfg (K : PySem.W.Frag) (B : Bs) (F : Hp) (ρ : List Addr) (σ : Sg) (M : MS) (σR : L2.St) (H : Hp) : Prop where
  sm : SimM K F ρ M H
  ss : SimS K F ρ σ σR H
  st : Stp B.F B.ρ B.H F ρ H
  own : ∀ (i : Nat) (c : Ct) (a : Addr), σ[i]? = some (some (.own c)) → σR[i]? = some (some (.ref a)) → B.H a = none
section
variable (K : PySem.W.Frag) (mg : Str → Option Value) (W : WX) (B : Bs)
def OutS (r : Rs Fl) (De : Ends) : Prop := match r with
  | .ok (.nxt σ') M' => ∀ σR' F' ρ' H', Cfg K B F' ρ' σ' M' σR' H' → De.nx σR' H'
  | .ok (.brk σ') M' => ∀ σR' F' ρ' H', Cfg K B F' ρ' σ' M' σR' H' → De.bk σR' H'
  | .ok (.cnt σ') M' => ∀ σR' F' ρ' H', Cfg K B F' ρ' σ' M' σR' H' → De.ct σR' H'
  | .ok (.ret d) M' => ∀ v F' ρ' H', Stp B.F B.ρ B.H F' ρ' H' → SimM K F' ρ' M' H' → Rep K F' ρ' v d → De.rt v H'
  | .ok (.exc x σ') M' => ∀ cls dx σR' F' ρ' H', Cfg K B F' ρ' σ' M' σR' H' → ExR K mg F' ρ' H' x cls dx → W cls dx σR' H'
  | _ => False
end
def TS1 (X : Cx) (W : WX) (ev : Sg → MS → Rs Fl) : TS := fun De σR H => ∃ B F ρ σ M, Cfg X.K B F ρ σ M σR H ∧ OutS X.K X.mg W B (ev σ M) De
section
variable {K : PySem.W.Frag} {mg : Str → Option Value} {W : WX} {B : Bs} {F F' : Hp} {ρ ρ' : List Addr} {H H' : Hp} {σ σ' : Sg} {M M' : MS} {σR σR' : L2.St} {De : Ends}
theorem Cfg.step (c : Cfg K B F ρ σ M σR H) (st : Stp F ρ H F' ρ' H') (sm : SimM K F' ρ' M' H') : Cfg K B F' ρ' σ M' σR H' := ⟨sm, c.ss.step st, c.st.trans st, c.own⟩
/-- what was new behind the start is new behind the def's -/
theorem Cfg.new (c : Cfg K B F ρ σ M σR H) {p : Addr} (h : H p = none) : B.H p = none := c.st.back c.sm h
theorem OutS.expr {α β : Type} {R : Hp → List Addr → Hp → β → α → Prop} {r : Rs α} {f : α → MS → Rs Fl} {Q : β → Hp → Prop} (c : Cfg K B F ρ σ M σR H) (o : OutS K mg W B (r.st σ f) De)
    (next : ∀ v d M' F' ρ' H', Stp F ρ H F' ρ' H' → SimM K F' ρ' M' H' → R F' ρ' H' v d → OutS K mg W B (f d M') De → Q v H') : OutR K mg W F ρ H σR R r Q := by
  cases r with
  | ok d M' => exact fun v F' ρ' H' st sm r => next v d M' F' ρ' H' st sm r o
  | exc x M' => exact fun cls dx F' ρ' H' st sm xr => o cls dx σR F' ρ' H' (c.step st sm) xr
  | bad => exact (show False from o)
theorem asgTs_own {j : Nat} {c : Ct} : ∀ {ts : List T} {ds : List D} {σ σ' : Sg}, (∀ t ∈ ts, ∀ (d : D) (σ σ' : Sg), asgT t d σ = some σ' → σ'[j]? = some (some (.own c)) → σ[j]? = some (some (.own c)) ∧ j ∉ t.slots) → asgTs ts ds σ = some σ' → σ'[j]? = some (some (.own c)) → σ[j]? = some (some (.own c)) ∧ j ∉ T.slotss ts
  | [], [], σ, σ', _, h, e => by cases h; exact ⟨e, by simp [T.slotss]⟩
  | t :: ts, d :: ds, σ, σ', q, h, e => by
    have h : (asgT t d σ).bind (asgTs ts ds) = some σ' := h
    cases ea : asgT t d σ with
    | none => rw [ea] at h; cases h
    | some σ1 =>
      rw [ea] at h
      obtain ⟨a1, a2⟩ := asgTs_own (ts := ts) (ds := ds) (σ := σ1) (fun t ht => q t (List.mem_cons_of_mem _ ht)) h e
      obtain ⟨b1, b2⟩ := q t (List.mem_cons_self ..) d σ σ1 ea a1
      exact ⟨b1, by simp only [T.slotss, List.mem_append, not_or]; exact ⟨b2, a2⟩⟩
  | [], _ :: _, _, _, _, h, _ => by cases h
  | _ :: _, [], _, _, _, h, _ => by cases h
mutual
theorem asgT_own {j : Nat} {c : Ct} : ∀ (t : T) (d : D) (σ σ' : Sg), asgT t d σ = some σ' → σ'[j]? = some (some (.own c)) → σ[j]? = some (some (.own c)) ∧ j ∉ t.slots
  | .nm i, d, σ, σ', h, e => by
    cases h
    rw [List.getElem?_set] at e
    by_cases z : i = j
    · rw [if_pos z] at e
      split at e <;> cases e
    · rw [if_neg z] at e
      exact ⟨e, by simp only [T.slots, List.mem_singleton]; exact fun q => z q.symm⟩
  | .tup ts, d, σ, σ', h, e => by
    cases d with
    | tup ds => exact asgTs_own (asgT_owns ts) (show asgTs ts ds σ = some σ' from h) e
    | lst ds => exact asgTs_own (asgT_owns ts) (show asgTs ts ds σ = some σ' from h) e
    | _ => cases h
theorem asgT_owns {j : Nat} {c : Ct} : ∀ (ts : List T), ∀ t ∈ ts, ∀ (d : D) (σ σ' : Sg), asgT t d σ = some σ' → σ'[j]? = some (some (.own c)) → σ[j]? = some (some (.own c)) ∧ j ∉ t.slots
  | [], t, h => by cases h
  | t :: ts, t', h => by
    rcases List.mem_cons.mp h with e | e
    · exact e ▸ asgT_own t
    · exact asgT_owns ts t' e
end
theorem Cfg.asg {t : T} {d : D} (c : Cfg K B F ρ σ M σR H) (ha : asgT t d σ = some σ') (hk : ∀ i, i ∉ t.slots → σR'[i]? = σR[i]?) (ss : SimS K F ρ σ' σR' H) : Cfg K B F ρ σ' M σR' H :=
  ⟨c.sm, ss, c.st, fun i ct a e1 e2 => by
    obtain ⟨h1, h2⟩ := asgT_own t d σ σ' ha e1
    exact c.own i ct a h1 (by rw [← hk i h2]; exact e2)⟩
theorem Cfg.less (c : Cfg K B F ρ σ M σR H) (is : List Nat) : Cfg K B F ρ (wipeG σ is) M σR H :=
  ⟨c.sm, c.ss.less (wipeG_length σ is) fun j s e => (wipeG_some e).1, c.st, fun i ct a e1 e2 => c.own i ct a (wipeG_some e1).1 e2⟩
/-- a slot gets a new object of its own -/
theorem SimS.setOwn {p : Addr} {o : HO} {c : Ct} (ss : SimS K F ρ σ σR H) (i : Nat) (h1 : H p = some o) (h2 : CtR K F ρ o c) (h3 : F p = none) (h4 : p ∉ ρ) (h5 : ∀ (j : Nat) (c : Ct), σ[j]? = some (some (.own c)) → σR[j]? ≠ some (some (.ref p))) :
    SimS K F ρ (σ.set i (some (.own c))) (σR.set i (some (.ref p))) H := by
  have key : ∀ (j : Nat) (c' : Ct), (σ.set i (some (.own c)))[j]? = some (some (.own c')) → (j = i ∧ i < σ.length ∧ c' = c) ∨ (i ≠ j ∧ σ[j]? = some (some (.own c'))) := fun j c' e => by
    rw [List.getElem?_set] at e
    by_cases z : i = j
    · rw [if_pos z] at e
      by_cases hl : i < σ.length
      · rw [if_pos hl] at e
        cases e
        exact .inl ⟨z.symm, hl, rfl⟩
      · rw [if_neg hl] at e; cases e
    · rw [if_neg z] at e
      exact .inr ⟨z, e⟩
  have at_i : i < σ.length → (σR.set i (some (.ref p)))[i]? = some (some (.ref p)) := fun hl => List.getElem?_set_self (by rw [← ss.len]; exact hl)
  refine ⟨by rw [List.length_set, List.length_set, ss.len], fun j d e => ?_, fun j c' e => ?_, fun j k c1 c2 a e1 e2 e3 e4 => ?_⟩
  · rw [List.getElem?_set] at e
    by_cases z : i = j
    · rw [if_pos z] at e
      split at e <;> cases e
    · rw [if_neg z] at e
      rw [List.getElem?_set_ne z]
      exact ss.val j d e
  · rcases key j c' e with ⟨rfl, hl, rfl⟩ | ⟨z, e⟩
    · exact ⟨p, o, at_i hl, h1, h2, h3, h4⟩
    · rw [List.getElem?_set_ne z]
      exact ss.own j c' e
  · rcases key j c1 e1 with ⟨f1, hl, _⟩ | ⟨z, f1⟩ <;> rcases key k c2 e2 with ⟨f2, hl2, _⟩ | ⟨z2, f2⟩
    · rw [f1, f2]
    · rw [f1, at_i hl] at e3
      cases e3
      rw [List.getElem?_set_ne z2] at e4
      exact absurd e4 (h5 k c2 f2)
    · rw [f2, at_i hl2] at e4
      cases e4
      rw [List.getElem?_set_ne z] at e3
      exact absurd e3 (h5 j c1 f1)
    · rw [List.getElem?_set_ne z] at e3
      rw [List.getElem?_set_ne z2] at e4
      exact ss.dis j k c1 c2 a f1 f2 e3 e4
/-- the own object of a slot is written -/
theorem SimS.updOwn {p : Addr} {o : HO} {c c' : Ct} {i : Nat} (ss : SimS K F ρ σ σR H) (e1 : σ[i]? = some (some (.own c))) (e2 : σR[i]? = some (some (.ref p))) (h2 : CtR K F ρ o c') : SimS K F ρ (σ.set i (some (.own c'))) σR (upd H p o) := by
  obtain ⟨a, ob, g1, g2, g3, g4, g5⟩ := ss.own i c e1
  rw [e2] at g1
  cases g1
  have hl : i < σ.length := (List.getElem?_eq_some_iff.mp e1).1
  have key : ∀ (j : Nat) (s : Sl), (σ.set i (some (.own c')))[j]? = some (some s) → (j = i ∧ s = .own c') ∨ (i ≠ j ∧ σ[j]? = some (some s)) := fun j s e => by
    rw [List.getElem?_set] at e
    by_cases z : i = j
    · rw [if_pos z, if_pos hl] at e
      cases e
      exact .inl ⟨z.symm, rfl⟩
    · rw [if_neg z] at e
      exact .inr ⟨z, e⟩
  refine ⟨by rw [List.length_set, ss.len], fun j d e => ?_, fun j c2 e => ?_, fun j k c1 c2 a e1' e2' e3 e4 => ?_⟩
  · rcases key j _ e with ⟨_, h⟩ | ⟨_, e⟩
    · cases h
    · exact ss.val j d e
  · rcases key j _ e with ⟨rfl, h⟩ | ⟨z, e⟩
    · cases h
      exact ⟨p, o, e2, upd_same, h2, g4, g5⟩
    · obtain ⟨b, ob2, k1, k2, k3, k4, k5⟩ := ss.own j c2 e
      have nb : b ≠ p := fun q => by
        subst q
        exact z (ss.dis i j c c2 b e1 e e2 k1)
      exact ⟨b, ob2, k1, by rw [upd_ne nb]; exact k2, k3, k4, k5⟩
  · have at1 : ∃ c, σ[j]? = some (some (.own c)) := by
      rcases key j _ e1' with ⟨rfl, _⟩ | ⟨_, e⟩
      · exact ⟨_, e1⟩
      · exact ⟨_, e⟩
    have at2 : ∃ c, σ[k]? = some (some (.own c)) := by
      rcases key k _ e2' with ⟨rfl, _⟩ | ⟨_, e⟩
      · exact ⟨_, e1⟩
      · exact ⟨_, e⟩
    obtain ⟨_, at1⟩ := at1
    obtain ⟨_, at2⟩ := at2
    exact ss.dis j k _ _ a at1 at2 e3 e4
/-- own objects are frozen -/
theorem Cfg.frz : ∀ {is : List Nat} {F : Hp} {σ σ' : Sg}, Cfg K B F ρ σ M σR H → frzG σ is = some σ' → ∃ F', Cfg K B F' ρ σ' M σR H
  | [], F, σ, σ', c, h => by cases h; exact ⟨F, c⟩
  | i :: is, F, σ, σ', c, h => by
    unfold frzG at h
    split at h
    · rename_i ct e1
      obtain ⟨a, o, g1, g2, g3, g4, g5⟩ := c.ss.own i ct e1
      have m : ∀ b u, F b = some u → upd F a o b = some u := fun b u e => by rw [upd_ne (ne_of_none e g4)]; exact e
      have hl : i < σ.length := (List.getElem?_eq_some_iff.mp e1).1
      refine Cfg.frz (F := upd F a o) ⟨c.sm.frz g2 g4 g5, ⟨by rw [List.length_set, c.ss.len], fun j d e => ?_, fun j c2 e => ?_, fun j k c1 c2 a e1' e2' e3 e4 => ?_⟩, c.st.frz g4 (c.own i ct a e1 g1), fun j c2 a2 e1' e2' => ?_⟩ h
      · rw [List.getElem?_set] at e
        by_cases z : i = j
        · rw [if_pos z, if_pos hl] at e
          cases e
          exact ⟨.ref a, by rw [← z]; exact g1, g3.rep g4⟩
        · rw [if_neg z] at e
          obtain ⟨v, k1, k2⟩ := c.ss.val j d e
          exact ⟨v, k1, k2.mono m (List.prefix_refl _)⟩
      · rw [List.getElem?_set] at e
        by_cases z : i = j
        · rw [if_pos z, if_pos hl] at e
          cases e
        · rw [if_neg z] at e
          obtain ⟨b, ob2, k1, k2, k3, k4, k5⟩ := c.ss.own j c2 e
          have nb : b ≠ a := fun q => by
            subst q
            exact z (c.ss.dis i j ct c2 b e1 e g1 k1)
          exact ⟨b, ob2, k1, k2, k3.mono m (List.prefix_refl _), by rw [upd_ne nb]; exact k4, k5⟩
      · have to : ∀ (j : Nat) (c1 : Ct), (σ.set i (some (.val ct.d)))[j]? = some (some (.own c1)) → σ[j]? = some (some (.own c1)) := fun j c1 e => by
          rw [List.getElem?_set] at e
          by_cases z : i = j
          · rw [if_pos z, if_pos hl] at e; cases e
          · rw [if_neg z] at e; exact e
        exact c.ss.dis j k c1 c2 a (to j c1 e1') (to k c2 e2') e3 e4
      · rw [List.getElem?_set] at e1'
        by_cases z : i = j
        · rw [if_pos z, if_pos hl] at e1'; cases e1'
        · rw [if_neg z] at e1'; exact c.own j c2 a2 e1' e2'
    · exact Cfg.frz c h
    · cases h
/-- what is changed: read, then written -/
theorem upT_ok {tg : Tg} {i : Nat} {v : V} {o : Nat ⊕ D} {f : Ct → Option Ct} (c : Cfg K B F ρ σ M σR H) (hi : tg = .sl i ∨ tg = .rf i) (hv : σR[i]? = some (some v)) (ho : evTg σ tg = some o) (q : OutS K mg W B (upT σ M f o) De) :
    ∃ a ob ct ct', v = .ref a ∧ H a = some ob ∧ CtR K F ρ ob ct ∧ f ct = some ct' ∧ ∀ ob', CtR K F ρ ob' ct' → De.nx σR (upd H a ob') := by
  rcases hi with rfl | rfl
  · have ho : (match σ[i]? with
      | some (some (.own _)) => some (.inl i)
      | _ => none) = some o := ho
    split at ho
    case h_2 => cases ho
    cases ho
    have q : OutS K mg W B (match σ[i]? with
      | some (some (.own c)) => .of ((f c).map fun c => .nxt (σ.set i (some (.own c)))) M
      | _ => .bad) De := q
    split at q
    · rename_i ct e1
      obtain ⟨a, ob, g1, g2, g3, g4, g5⟩ := c.ss.own i ct e1
      rw [hv] at g1
      cases g1
      cases hf : f ct with
      | none => rw [hf] at q; exact (show False from q).elim
      | some ct' =>
        rw [hf] at q
        refine ⟨a, ob, ct, ct', rfl, g2, g3, hf, fun ob' r => q σR F ρ _ ⟨c.sm.aside g4 g5, c.ss.updOwn e1 hv r, c.st.aside (c.own i ct a e1 hv), fun j c2 a2 e1' e2' => ?_⟩⟩
        have hl : i < σ.length := (List.getElem?_eq_some_iff.mp e1).1
        rw [List.getElem?_set] at e1'
        by_cases z : i = j
        · subst z
          exact c.own i ct a2 e1 e2'
        · rw [if_neg z] at e1'; exact c.own j c2 a2 e1' e2'
    · exact (show False from q).elim
  · have ho : (match σ[i]? with
      | some (some (.val d)) => some (.inr d)
      | _ => none) = some o := ho
    split at ho
    · rename_i d e1
      cases ho
      obtain ⟨v', k1, k2⟩ := c.ss.val i d e1
      rw [hv] at k1
      cases k1
      cases d with
      | ref j =>
        cases k2 with
        | ref k2 =>
          rename_i a
          have q : OutS K mg W B (match M[j]? with
            | some (.cell c) => (match f c with
              | some c => .ok (.nxt σ) (M.set j (.cell c))
              | none => .bad)
            | _ => .bad) De := q
          split at q
          · rename_i ct e2
            cases c.sm.obj j a _ k2 e2 with
            | cell g1 g2 =>
              split at q
              · rename_i ct' hf
                refine ⟨a, _, ct, ct', rfl, g1, g2, hf, fun ob' r => ?_⟩
                obtain ⟨s1, s2⟩ := c.sm.set k2 r
                exact q σR F ρ _ (c.step s2 s1)
              · exact (show False from q).elim
          · exact (show False from q).elim
      | _ => exact (show False from q).elim
    · cases ho
end
end Mi
set_option Elab.async false
set_option linter.all false
set_option maxRecDepth 100000
set_option maxHeartbeats 2000000
/-! Mi, part 16: small statements. -/
namespace Mi
open PySem PySem.Spec PyProof.Rows L2
def noComp : Expr → Bool
  | .ListComp .. => false
  | .SetComp .. => false
  | .DictComp .. => false
  | _ => true
def noTup : Expr → Bool
  | .Tuple .. => false
  | _ => true
theorem sw_no {e : Expr} (h : noComp e = true) (t : Option Expr) (l : Nat) (env : Env) : swapsWith e t l env = pure false := by
  cases e <;> first | rfl | cases h
theorem sws_no {e tg : Expr} (h : noTup e = true) (env : Env) : swappedStores [tg] e env = pure none := by
  cases e <;> first | (cases tg <;> rfl) | cases h
theorem asg_one {tg : Expr} {env : Env} (h : notStar tg = true) : (assignEach [tg] env).map (·.2) = [assign tg env] := by
  rw [asg_cons h]
  rfl
def swB (sc : Scope) (y : Str) (py : Pos) (scope : Scope) (pos : Pos) : Bool := (sc.names.lookup y == some .local) && (py.line == pos.line) && !(scope.names.any fun (n, k) => n == y && (k == .local || k == .cell))
theorem sw_eq {sc : Scope} {elt : Expr} {gs : List Comprehension} {scope : Scope} {pos py : Pos} {y : Str} {l : Nat} {env : Env} (h : env.scope = sc) (hk : sc.kind = .function) : swapsWith (.ListComp elt gs scope pos) (some (.Name y py)) l env = pure (swB sc y py scope pos) := by
  have hb : env.blockKind = .function := by unfold Env.blockKind; rw [h, hk]; rfl
  have ky : env.kindOf y = sc.names.lookup y := by rw [← h]; rfl
  unfold swapsWith swB
  simp only [hb, ky, Expr.pos]
  rfl

/-! ### several at once -/
def MixR (K : PySem.W.Frag) (H0 : Hp) : List Bool → Hp → List Addr → Hp → List V → List D → Prop
  | [], _, _, _, vs, ds => vs = [] ∧ ds = []
  | true :: os, F, ρ, H, vs, ds => ∃ v vr d dr, vs = v :: vr ∧ ds = d :: dr ∧ RF K H0 F ρ H v d ∧ v ∉ ownVs os vr ∧ MixR K H0 os F ρ H vr dr
  | false :: os, F, ρ, H, vs, ds => ∃ v vr d dr, vs = v :: vr ∧ ds = d :: dr ∧ Rep K F ρ v d ∧ MixR K H0 os F ρ H vr dr
where ownVs : List Bool → List V → List V
  | true :: os, v :: vs => v :: ownVs os vs
  | false :: os, _ :: vs => ownVs os vs
  | _, _ => []
abbrev ownVs := MixR.ownVs
section
variable {K : PySem.W.Frag} {mg : Str → Option Value} {W : WX} {B : Bs} {F F' : Hp} {ρ ρ' : List Addr} {H H' H0 H1 : Hp} {σ σ' : Sg} {M M' : MS} {σR σR' : L2.St} {De : Ends}
theorem MixR.weak (h : ∀ p, H1 p = none → H0 p = none) : ∀ {os : List Bool} {vs : List V} {ds : List D}, MixR K H1 os F ρ H vs ds → MixR K H0 os F ρ H vs ds
  | [], _, _, q => q
  | true :: os, _, _, ⟨v, vr, d, dr, e1, e2, ⟨p, o, c, h1, h2, h3, h4, h5, h6, h7⟩, n, r⟩ => ⟨v, vr, d, dr, e1, e2, ⟨p, o, c, h1, h2, h3, h4, h5, h6, h p h7⟩, n, r.weak h⟩
  | false :: os, _, _, ⟨v, vr, d, dr, e1, e2, q, r⟩ => ⟨v, vr, d, dr, e1, e2, q, r.weak h⟩
theorem MixR.fresh : ∀ {os : List Bool} {vs : List V} {ds : List D}, MixR K H0 os F ρ H vs ds → ∀ p, V.ref p ∈ ownVs os vs → H0 p = none
  | [], _, _, _, p, hp => by cases hp
  | true :: os, _, _, ⟨v, vr, d, dr, e1, e2, ⟨p', o, c, h1, h2, h3, h4, h5, h6, h7⟩, n, r⟩, p, hp => by
    subst e1
    rcases List.mem_cons.mp (show V.ref p ∈ v :: ownVs os vr from hp) with z | z
    · rw [h2] at z
      cases z
      exact h7
    · exact r.fresh p z
  | false :: os, _, _, ⟨v, vr, d, dr, e1, e2, q, r⟩, p, hp => by
    subst e1
    exact r.fresh p hp
theorem MixR.length : ∀ {os : List Bool} {vs : List V} {ds : List D}, MixR K H0 os F ρ H vs ds → vs.length = os.length
  | [], _, _, ⟨e1, _⟩ => by rw [e1]; rfl
  | true :: os, _, _, ⟨v, vr, d, dr, e1, e2, _, n, r⟩ => by rw [e1, List.length_cons, List.length_cons, r.length]
  | false :: os, _, _, ⟨v, vr, d, dr, e1, e2, q, r⟩ => by rw [e1, List.length_cons, List.length_cons, r.length]
theorem RF.step {v : V} {d : D} (r : RF K H0 F ρ H v d) (st : Stp F ρ H F' ρ' H') : RF K H0 F' ρ' H' v d := by
  obtain ⟨p, o, c, h1, h2, h3, h4, h5, h6, h7⟩ := r
  obtain ⟨k1, k2⟩ := st.keep p o h3 h6
  have k3 : p ∉ ρ' := fun z => by
    have q := st.new p z h6
    rw [h3] at q
    cases q
  exact ⟨p, o, c, h1, h2, k1, h4.mono st.mono st.pre, k2.trans h5, k3, h7⟩
def setsV : List Nat → List V → L2.St → L2.St
  | i :: is, v :: vs, σ => setsV is vs (σ.set i (some v))
  | _, _, σ => σ
theorem Cfg.par (hb : ∀ p, H0 p = none → B.H p = none) : ∀ {is : List Nat} {os : List Bool} {vs : List V} {ds : List D} {σ σ' : Sg} {σR : L2.St}, Cfg K B F ρ σ M σR H → MixR K H0 os F ρ H vs ds →
    (∀ p, V.ref p ∈ ownVs os vs → ∀ (j : Nat) (c : Ct), σ[j]? = some (some (.own c)) → σR[j]? ≠ some (some (.ref p))) → parG is os ds σ = some σ' → Cfg K B F ρ σ' M (setsV is vs σR) H
  | [], [], vs, ds, σ, σ', σR, c, r, n, h => by
    obtain ⟨rfl, rfl⟩ := r
    cases h
    exact c
  | i :: is, true :: os, vs, ds, σ, σ', σR, c, r, n, h => by
    obtain ⟨v, vr, d, dr, rfl, rfl, ⟨p, o, ct, h1, h2, h3, h4, h5, h6, h7⟩, nv, r⟩ := r
    have h : (ownO d).bind (fun c => parG is os dr (σ.set i (some (.own c)))) = some σ' := h
    rw [h1] at h
    subst h2
    have np := n p (List.mem_cons_self ..)
    refine Cfg.par hb (is := is) (os := os) ⟨c.sm, c.ss.setOwn i h3 h4 h5 h6 np, c.st, fun j c2 a e1 e2 => ?_⟩ r (fun q hq j c2 e1 e2 => ?_) h
    · rw [List.getElem?_set] at e1 e2
      by_cases z : i = j
      · rw [if_pos z] at e1 e2
        split at e2
        · cases e2; exact hb _ h7
        · cases e2
      · rw [if_neg z] at e1 e2
        exact c.own j c2 a e1 e2
    · rw [List.getElem?_set] at e1 e2
      by_cases z : i = j
      · rw [if_pos z] at e1 e2
        split at e2
        · cases e2; exact nv hq
        · cases e2
      · rw [if_neg z] at e1 e2
        exact n q (List.mem_cons_of_mem _ hq) j c2 e1 e2
  | i :: is, false :: os, vs, ds, σ, σ', σR, c, r, n, h => by
    obtain ⟨v, vr, d, dr, rfl, rfl, rd, r⟩ := r
    have old : ∀ (j : Nat) (c2 : Ct) (a : Addr), (σ.set i (some (.val d)))[j]? = some (some (.own c2)) → (σR.set i (some v))[j]? = some (some (.ref a)) → σ[j]? = some (some (.own c2)) ∧ σR[j]? = some (some (.ref a)) := fun j c2 a e1 e2 => by
      rw [List.getElem?_set] at e1 e2
      by_cases z : i = j
      · rw [if_pos z] at e1
        split at e1 <;> cases e1
      · rw [if_neg z] at e1 e2
        exact ⟨e1, e2⟩
    refine Cfg.par hb (is := is) (os := os) ⟨c.sm, c.ss.set rd i, c.st, fun j c2 a e1 e2 => ?_⟩ r (fun q hq j c2 e1 e2 => ?_) h
    · obtain ⟨g1, g2⟩ := old j c2 a e1 e2
      exact c.own j c2 a g1 g2
    · obtain ⟨g1, g2⟩ := old j c2 q e1 e2
      exact n q hq j c2 g1 g2
  | [], _ :: _, _, _, _, _, _, _, _, _, h => by cases h
  | _ :: _, [], _, _, _, _, _, _, _, _, h => by cases h
end
section
variable {T : Tab} {Φ : Fn} {n : Nat} {N : List Str} {fx : Str → Bool} {sc : Scope} {X : Cx} {W : WX} {G : Genv}
def TMix (X : Cx) (W : WX) (os : List Bool) (ev : Sg → MS → Rs (List D)) : TA := fun σR H Q => ∃ F ρ σ M, SimM X.K F ρ M H ∧ SimS X.K F ρ σ σR H ∧ OutR X.K X.mg W F ρ H σR (MixR X.K H os) (ev σ M) Q
theorem mix_nil : PA X [] (TMix X W [] (evs Φ n [])) := pa_imp pa_nil fun σ H Q ⟨F, ρ, σ', M, sm, ss, o⟩ => OutR.ok (show OutR X.K X.mg W F ρ H σ (MixR X.K H []) (.ok [] M) Q from o) sm ⟨rfl, rfl⟩
theorem mix_own {c : E} {cs : List E} {e : Expr} {es : List Expr} {os : List Bool} (a : PE X e (TF1 X W (ev1 Φ n c))) (b : PA X es (TMix X W os (evs Φ n cs))) (h : notStar e = true) : PA X (e :: es) (TMix X W (true :: os) (evs Φ n (c :: cs))) := by
  refine pa_imp (pa_cons a b (star_cons h)) fun σR H Q ⟨F, ρ, σ, M, sm, ss, o⟩ => ?_
  have o : OutR X.K X.mg W F ρ H σR (MixR X.K H (true :: os)) ((evE Φ n σ c M).bind fun d M => (evEs Φ n σ cs M).bind fun ds M => .ok (d :: ds) M) Q := by simpa only [evs, evEs] using o
  refine ⟨F, ρ, σ, M, sm, ss, OutR.bind o fun v d M1 F1 ρ1 H1 st1 sm1 r1 o1 => ?_⟩
  refine ⟨F1, ρ1, σ, M1, sm1, ss.step st1, OutR.bind o1 fun ws ds M2 F2 ρ2 H2 st2 sm2 r2 o2 => ?_⟩
  refine OutR.ok (show OutR X.K X.mg W F2 ρ2 H2 σR (MixR X.K H (true :: os)) (.ok (d :: ds) M2) Q from o2) sm2 ⟨v, ws, d, ds, rfl, rfl, RF.step r1 st2, fun z => ?_, r2.weak fun p hp => st1.back sm1 hp⟩
  obtain ⟨p, ob, ct, h1, h2, h3, _⟩ := r1
  subst h2
  have := r2.fresh p z
  rw [h3] at this; cases this
theorem mix_val {c : E} {cs : List E} {e : Expr} {es : List Expr} {os : List Bool} (a : PE X e (TE1 X W (ev1 Φ n c))) (b : PA X es (TMix X W os (evs Φ n cs))) (h : notStar e = true) : PA X (e :: es) (TMix X W (false :: os) (evs Φ n (c :: cs))) := by
  refine pa_imp (pa_cons a b (star_cons h)) fun σR H Q ⟨F, ρ, σ, M, sm, ss, o⟩ => ?_
  have o : OutR X.K X.mg W F ρ H σR (MixR X.K H (false :: os)) ((evE Φ n σ c M).bind fun d M => (evEs Φ n σ cs M).bind fun ds M => .ok (d :: ds) M) Q := by simpa only [evs, evEs] using o
  refine ⟨F, ρ, σ, M, sm, ss, OutR.bind o fun v d M1 F1 ρ1 H1 st1 sm1 r1 o1 => ?_⟩
  refine ⟨F1, ρ1, σ, M1, sm1, ss.step st1, OutR.bind o1 fun ws ds M2 F2 ρ2 H2 st2 sm2 r2 o2 => ?_⟩
  exact OutR.ok (show OutR X.K X.mg W F2 ρ2 H2 σR (MixR X.K H (false :: os)) (.ok (d :: ds) M2) Q from o2) sm2 ⟨v, ws, d, ds, rfl, rfl, st2.rep r1, r2.weak fun p hp => st1.back sm1 hp⟩
def chkMix (T : Tab) (N : List Str) (fx : Str → Bool) (sc : Scope) : List Bool → List E → List Expr → Bool
  | [], [], [] => true
  | o :: os, c :: cs, e :: es => notStar e && chkE T N fx sc c e && (!o || isFr c) && chkMix T N fx sc os cs es
  | _, _, _ => false
theorem mix_ok (g : Good T Φ n N fx sc X W) : ∀ {os : List Bool} {cs : List E} {es : List Expr}, chkMix T N fx sc os cs es = true → PA X es (TMix X W os (evs Φ n cs)) ∧ os.length = cs.length ∧ cs.length = es.length
  | [], [], [], _ => ⟨mix_nil, rfl, rfl⟩
  | o :: os, c :: cs, e :: es, h => by
    simp only [chkMix, Bool.and_eq_true, Bool.or_eq_true, Bool.not_eq_true'] at h
    obtain ⟨⟨⟨h1, h2⟩, h3⟩, h4⟩ := h
    obtain ⟨q1, q2, q3⟩ := mix_ok g h4
    obtain ⟨a1, a2⟩ := sndE fx sc X W g c e h2
    refine ⟨?_, by rw [List.length_cons, List.length_cons, q2], by rw [List.length_cons, List.length_cons, q3]⟩
    cases o with
    | false => exact mix_val a1 q1 h1
    | true => exact mix_own (a2 (by rcases h3 with h3 | h3; exact absurd h3 (by decide); exact h3)) q1 h1
  | [], _ :: _, _, h => by cases h
  | [], [], _ :: _, h => by cases h
  | _ :: _, [], _, h => by cases h
  | _ :: _, _ :: _, [], h => by cases h
/-- the plain rule of assignments, on readings -/
theorem TS1.expr {α β : Type} {R : Hp → List Addr → Hp → β → α → Prop} {ev' : Sg → MS → Rs Fl} {ev : Sg → MS → Rs α} {f : Sg → α → MS → Rs Fl} {De : Ends} {σR : L2.St} {H : Hp} {Q : β → Hp → Prop} (h : TS1 X W ev' De σR H) (e : ∀ σ M, ev' σ M = (ev σ M).st σ (f σ))
    (next : ∀ v d B σ M' F' ρ' H', Cfg X.K B F' ρ' σ M' σR H' → R F' ρ' H' v d → OutS X.K X.mg W B (f σ d M') De → Q v H') : Tev X.K X.mg W (fun _ _ => R) ev σR H Q := by
  obtain ⟨B, F, ρ, σ, M, c, o⟩ := h
  rw [e] at o
  exact ⟨F, ρ, σ, M, c.sm, c.ss, OutS.expr c o fun v d M' F' ρ' H' st sm r o => next v d B σ M' F' ρ' H' (c.step st sm) r o⟩
theorem set_imp {t : Mi.T} {e : E} {De : Ends} {σR : L2.St} {H : Hp} (h : TS1 X W (fun σ M => evS G Φ n (.set t e) σ M) De σR H) : tAsg (TE1 X W (ev1 Φ n e)) (TGt X t) De σR H := by
  refine TS1.expr (ev := ev1 Φ n e) (f := fun σ d M => .of ((asgT t d σ).map .nxt) M) h (fun σ M => by simp only [evS]) fun v d B σ M' F' ρ' H' c r o => ?_
  cases ha : asgT t d σ with
  | none => rw [ha] at o; exact (show False from o).elim
  | some σ1 =>
    rw [ha] at o
    exact ⟨F', ρ', σ, M', d, c.sm, c.ss, r, σ1, ha, fun σR' hl hk ss => o σR' F' ρ' H' (c.asg ha hk ss)⟩
theorem set_imp_nm {i : Nat} {e : E} {De : Ends} {σR : L2.St} {H : Hp} (h : TS1 X W (fun σ M => evS G Φ n (.set (.nm i) e) σ M) De σR H) : tAsg (TE1 X W (ev1 Φ n e)) (gName i) De σR H := by
  refine TS1.expr (ev := ev1 Φ n e) (f := fun σ d M => .of ((asgT (.nm i) d σ).map .nxt) M) h (fun σ M => by simp only [evS]) fun v d B σ M' F' ρ' H' c r o => ?_
  have o : OutS X.K X.mg W B (.ok (.nxt (σ.set i (some (.val d)))) M') De := o
  refine o _ F' ρ' H' (c.asg (t := .nm i) (d := d) rfl (fun j hj => ?_) (c.ss.set r i))
  have : i ≠ j := fun z => hj (by rw [z]; simp [T.slots])
  rw [List.getElem?_set_ne this]
theorem own_imp {i : Nat} {e : E} {De : Ends} {σR : L2.St} {H : Hp} (h : TS1 X W (fun σ M => evS G Φ n (.own i e) σ M) De σR H) : tAsg (TF1 X W (ev1 Φ n e)) (gName i) De σR H := by
  obtain ⟨B, F, ρ, σ, M, c, o⟩ := h
  have o : OutS X.K X.mg W B ((evE Φ n σ e M).st σ fun d M => .of ((ownO d).map fun c => .nxt (σ.set i (some (.own c)))) M) De := by simpa only [evS] using o
  refine ⟨F, ρ, σ, M, c.sm, c.ss, OutS.expr c o fun v d M' F' ρ' H' st sm ⟨p, ob, ct, h1, h2, h3, h4, h5, h6, h7⟩ o => ?_⟩
  subst h2
  rw [h1] at o
  have o : OutS X.K X.mg W B (.ok (.nxt (σ.set i (some (.own ct)))) M') De := o
  have c' := c.step st sm
  refine o _ F' ρ' H' ⟨sm, c'.ss.setOwn i h3 h4 h5 h6 fun j c2 e1 e2 => ?_, c'.st, fun j c2 a e1 e2 => ?_⟩
  · obtain ⟨a, o2, g1, g2, _⟩ := c.ss.own j c2 e1
    rw [e2] at g1
    cases g1
    rw [h7] at g2; cases g2
  · rw [List.getElem?_set] at e1 e2
    by_cases z : i = j
    · rw [if_pos z] at e1 e2
      split at e2
      · cases e2; exact c.new h7
      · cases e2
    · rw [if_neg z] at e1 e2
      exact c.own j c2 a e1 e2
/-- name = [..] -/
theorem comp_pieces (g : Good T Φ n N fx sc X W) {own : List Nat} {t : Mi.T} {it : It} {cs : List E} {elt : E} {el tg iter : Expr} {ifs : List Expr} {scope : Scope} {pos : Pos} (h : chkE T N fx sc (.comp own t it cs elt) (.ListComp el [⟨tg, iter, ifs, 0⟩] scope pos) = true) :
    ∃ own' : List (Str × Nat), own'.map (·.2) = own ∧ PI X tg iter (TI1 X W fun σ M => evIt Φ n σ it M) ∧ BlkOk X.N X.env.scope scope own' ∧ (∀ (s : Shared) (H : Hp) (C : Addr) (cl : List (Str × Addr)) (fp : List Addr), PG (X.blk s H scope (compEnvC scope cl C X.env) fp) tg (TGt X t)) ∧
      (∀ (s : Shared) (H : Hp) (C : Addr) (cl : List (Str × Addr)) (fp : List Addr), PTs (X.blk s H scope (compEnvC scope cl C X.env) fp) ifs (TTs X Φ n cs)) ∧
      (∀ (s : Shared) (H : Hp) (C : Addr) (cl : List (Str × Addr)) (fp : List Addr), PE (X.blk s H scope (compEnvC scope cl C X.env) fp) el (TE1 X W0 (ev1 Φ n elt))) ∧ (∀ x, foldedSetIterable iter X.env x = pure x) ∧ ∀ i ∈ t.slots, i ∈ own'.map (·.2) := by
  unfold chkE at h
  simp only [Bool.and_eq_true, decide_eq_true_eq] at h
  obtain ⟨⟨⟨⟨⟨h1, h2⟩, h3⟩, h4⟩, h5⟩, h6⟩ := h
  unfold compB at h2
  simp only [Bool.and_eq_true, decide_eq_true_eq, List.all_eq_true] at h2
  obtain ⟨⟨⟨b1, b2⟩, b3⟩, b4⟩ := h2
  have gb := fun s H C cl fp => g.blk s H scope C cl fp
  have ok := blkOk_by b2
  rw [← g.hN, ← g.hsc] at ok
  exact ⟨_, by rw [g.hN]; exact b1, sndI fx sc X W g it tg iter h1, ok,
    (fun s H C cl fp => pg_ok (gb s H C cl fp).hN (gb s H C cl fp).nd (gb s H C cl fp).hsc (gb s H C cl fp).hfx (gb s H C cl fp).calm t tg h3),
    (fun s H C cl fp => tests_ok h4 (sndTs _ _ _ _ (gb s H C cl fp) cs ifs h5)),
    (fun s H C cl fp => (sndE _ _ _ _ (gb s H C cl fp) elt el h6).1), noSet_fold b4 X.env, fun i hi => by rw [g.hN, b1]; exact b3 i hi⟩
def isComp : E → Bool
  | .comp .. => true
  | _ => false
theorem lc_shape {own : List Nat} {t : Mi.T} {it : It} {cs : List E} {elt : E} {e : Expr} (h : chkE T N fx sc (.comp own t it cs elt) e = true) : ∃ el tg iter ifs scope pos, e = .ListComp el [⟨tg, iter, ifs, 0⟩] scope pos := by
  unfold chkE at h
  split at h
  · exact ⟨_, _, _, _, _, _, rfl⟩
  · cases h
/-- an assignment of a comprehension to a name -/
theorem setLc_ok (g : Good T Φ n N fx sc X W) (hk : sc.kind = .function) {i : Nat} {x : Str} {py spos : Pos} {e : Expr} {c : E} (hi : N[i]? = some x) (hl : locB sc fx x = true) (hc : isComp c = true) (h : chkE T N fx sc c e = true) {u : TS}
    (himp : ∀ De σR H, u De σR H → tAsg (TF1 X W (ev1 Φ n c)) (gName i) De σR H) : PS X (.Assign [.Name x py] e spos) u := by
  cases c with
  | comp own t it cs elt =>
    obtain ⟨el, tg, iter, ifs, scope, pos, rfl⟩ := lc_shape h
    obtain ⟨l1, l2⟩ := locB_ok hl
    have sw : swapsWith (.ListComp el [⟨tg, iter, ifs, 0⟩] scope pos) (some (.Name x py)) spos.line X.env = pure (swB sc x py scope pos) := sw_eq g.hsc hk
    cases hsw : swB sc x py scope pos with
    | true =>
      rw [hsw] at sw
      obtain ⟨own', e1, p1, p2, p3, p4, p5, p6, p7⟩ := comp_pieces g h
      subst e1
      have loc : X.env.scope.names.lookup x = some .local := by
        rw [g.hsc]
        unfold swB at hsw
        simp only [Bool.and_eq_true, beq_iff_eq] at hsw
        exact hsw.1.1
      refine ⟨fun pins s σ H De I q => (ps_setLc g.calm (by rw [g.hN]; exact g.nd) (by rw [g.hN]; exact hi) loc sw p1 p2 p3 p4 p5 p6).run pins s σ H De I (comp_imp p7 σ H _ (himp De σ H q))⟩
    | false =>
      rw [hsw] at sw
      refine ⟨fun pins s σ H De I q => (ps_set (by rw [g.hN]; exact g.nd) (by rw [g.hN]; exact hi) (by rw [g.hsc]; exact l1) ((sndE fx sc X W g _ _ h).2 rfl) sw (by rw [g.hsc, g.hfx]; exact l2)).run pins s σ H De I (himp De σ H q)⟩
  | _ => cases hc
end
end Mi
set_option Elab.async false
set_option linter.all false
set_option maxRecDepth 100000
set_option maxHeartbeats 2000000
/-! Mi, part 17: several names at once. -/
namespace Mi
open PySem PySem.Spec PyProof.Rows L2
def locN (sc : Scope) (l : Nat) : Expr → Option Str
  | .Name x p => if (sc.names.lookup x == some .local && p.line == l) = true then some x else none
  | _ => none
def lineOf (ts : List Expr) : Nat := (ts.head?.map (·.pos.line)).getD 0
def namesL (sc : Scope) (ts : List Expr) : List Str := ts.filterMap (locN sc (lineOf ts))
/-- the names are stored from the right -/
def parA (sc : Scope) (ts vs : List Expr) : Bool := (ts.length == 2 || ts.length == 3) && vs.length == ts.length && vs.all notStar && (namesL sc ts).length == ts.length && (namesL sc ts).eraseDups.length == (namesL sc ts).length && !(vs.all (foldedForSure 8)) && !(vs.all (constantsAlone 8))
/-- the tuple is made and taken apart -/
def parB (sc : Scope) (ts vs : List Expr) : Bool := !(ts.length == 2 || ts.length == 3) || (namesL sc ts).length != ts.length || vs.all (foldedForSure 8)
section
variable {sc : Scope} {env : Env}
theorem names_eq (h : env.scope = sc) (ts : List Expr) : (ts.filterMap fun
    | .Name id pos => if env.kindOf id == some .local && pos.line == lineOf ts then some id else none
    | _ => none) = namesL sc ts := by
  subst h
  unfold namesL
  congr 1
theorem any_star : ∀ (vs : List Expr), vs.all notStar = true → (vs.any fun | .Starred .. => true | _ => false) = false
  | [], _ => rfl
  | e :: es, h => by
    have h := Bool.and_eq_true_iff.mp (show (notStar e && es.all notStar) = true from h)
    rw [List.any_cons, any_star es h.2, Bool.or_false]
    cases e <;> first | rfl | cases h.1
theorem sws_a (h : env.scope = sc) (hk : sc.kind = .function) {ts vs : List Expr} {kt k2 : Nat} {pt pt2 : Pos} (q : parA sc ts vs = true) : swappedStores [.Tuple ts kt pt] (.Tuple vs k2 pt2) env = pure (some (namesL sc ts)) := by
  have hb : env.blockKind = .function := by unfold Env.blockKind; rw [h, hk]; rfl
  unfold parA at q
  simp only [Bool.and_eq_true, beq_iff_eq, Bool.not_eq_true'] at q
  obtain ⟨⟨⟨⟨⟨⟨q1, q2⟩, q3⟩, q4⟩, q5⟩, q6⟩, q7⟩ := q
  have e := names_eq h ts
  unfold swappedStores
  simp only [hb]
  rw [if_neg (by simp [q1, q2])]
  split
  · rename_i z
    exact absurd ((any_star vs q3).symm.trans z) Bool.false_ne_true
  generalize hg : List.filterMap _ ts = nm
  have en : nm = namesL sc ts := hg.symm.trans e
  subst en
  rw [if_neg (by simp [q4, q5]), if_neg (by rw [q6]; decide), if_neg (by rw [q7]; decide)]
theorem sws_b (h : env.scope = sc) {ts vs : List Expr} {kt k2 : Nat} {pt pt2 : Pos} (q : parB sc ts vs = true) : swappedStores [.Tuple ts kt pt] (.Tuple vs k2 pt2) env = pure none := by
  have e := names_eq h ts
  unfold parB at q
  unfold swappedStores
  simp only
  split
  · rfl
  · rename_i z
    split
    · rfl
    · generalize hg : List.filterMap _ ts = nm
      have en : nm = namesL sc ts := hg.symm.trans e
      subst en
      by_cases hf : vs.all (foldedForSure 8) = true
      · split
        · rfl
        · rfl
      rw [if_pos]
      simp only [Bool.or_eq_true, Bool.not_eq_true', bne_iff_ne, ne_eq] at q z ⊢
      rcases q with (q | q) | q
      · exact absurd (.inl (.inl q)) z
      · exact .inl q
      · exact absurd q hf
end
section
variable {T : Tab} {Φ : Fn} {n : Nat} {N : List Str} {fx : Str → Bool} {sc : Scope} {X : Cx} {W : WX} {G : Genv}
def chkNm (N : List Str) (fx : Str → Bool) (sc : Scope) : List Nat → List Expr → Bool
  | [], [] => true
  | i :: is, t :: ts => chkG N fx sc (.nm i) t && chkNm N fx sc is ts
  | _, _ => false
theorem nm_shape {i : Nat} {t : Expr} (h : chkG N fx sc (.nm i) t = true) : ∃ x p, t = .Name x p ∧ N[i]? = some x ∧ locB sc fx x = true := by
  unfold chkG at h
  split at h
  · simp only [Bool.and_eq_true, decide_eq_true_eq] at h
    exact ⟨_, _, rfl, h.1, h.2⟩
  · cases h
theorem locN_some {l : Nat} {x : Str} {p : Pos} (h : (locN sc l (.Name x p)).isSome = true) : sc.names.lookup x = some .local ∧ locN sc l (.Name x p) = some x := by
  have h : (if (sc.names.lookup x == some .local && p.line == l) = true then some x else none : Option Str).isSome = true := h
  show _ ∧ (if (sc.names.lookup x == some .local && p.line == l) = true then some x else none : Option Str) = some x
  by_cases z : (sc.names.lookup x == some .local && p.line == l) = true
  · rw [if_pos z]
    simp only [Bool.and_eq_true, beq_iff_eq] at z
    exact ⟨z.1, rfl⟩
  · rw [if_neg z] at h
    cases h
theorem fm_len {α β : Type} {f : α → Option β} : ∀ {xs : List α}, (xs.filterMap f).length = xs.length → ∀ x ∈ xs, (f x).isSome = true
  | [], _, x, hx => by cases hx
  | y :: xs, h, x, hx => by
    rw [List.filterMap_cons] at h
    have le : (xs.filterMap f).length ≤ xs.length := List.length_filterMap_le ..
    cases e : f y with
    | none =>
      rw [e] at h
      simp only [List.length_cons] at h
      omega
    | some b =>
      rw [e] at h
      simp only [List.length_cons] at h
      rcases List.mem_cons.mp hx with z | z
      · rw [z, e]; rfl
      · exact fm_len (by omega) x z
theorem MixR.step {K : PySem.W.Frag} {H0 : Hp} {F F' : Hp} {ρ ρ' : List Addr} {H H' : Hp} (st : Stp F ρ H F' ρ' H') : ∀ {os : List Bool} {vs : List V} {ds : List D}, MixR K H0 os F ρ H vs ds → MixR K H0 os F' ρ' H' vs ds
  | [], _, _, q => q
  | true :: os, _, _, ⟨v, vr, d, dr, e1, e2, q, n, r⟩ => ⟨v, vr, d, dr, e1, e2, RF.step q st, n, r.step st⟩
  | false :: os, _, _, ⟨v, vr, d, dr, e1, e2, q, r⟩ => ⟨v, vr, d, dr, e1, e2, st.rep q, r.step st⟩
theorem par_imp {is : List Nat} {os : List Bool} {es : List E} {De : Ends} {σR : L2.St} {H : Hp} (h : TS1 X W (fun σ M => evS G Φ n (.par is os es) σ M) De σR H) :
    TMix X W os (evs Φ n es) σR H fun vs H1 => vs.length = os.length ∧ De.nx (setsV is vs σR) H1 ∧ ∀ p, H1 p = none → De.nx (setsV is vs σR) (upd H1 p (.tup vs)) := by
  obtain ⟨B, F, ρ, σ, M, c, o⟩ := h
  have o : OutS X.K X.mg W B ((evEs Φ n σ es M).st σ fun ds M => .of ((parG is os ds σ).map .nxt) M) De := by simpa only [evS] using o
  refine ⟨F, ρ, σ, M, c.sm, c.ss, OutS.expr c o fun vs ds M' F' ρ' H' st sm r o => ?_⟩
  cases hp : parG is os ds σ with
  | none => rw [hp] at o; exact (show False from o).elim
  | some σ1 =>
    rw [hp] at o
    have o : OutS X.K X.mg W B (.ok (.nxt σ1) M') De := o
    have c' := c.step st sm
    have nw : ∀ p, H p = none → B.H p = none := fun p q => c.new q
    have fr : ∀ p, V.ref p ∈ ownVs os vs → ∀ (j : Nat) (ct : Ct), σ[j]? = some (some (.own ct)) → σR[j]? ≠ some (some (.ref p)) := fun p hp j ct e1 e2 => by
      obtain ⟨a, ob, g1, g2, _⟩ := c.ss.own j ct e1
      rw [e2] at g1
      cases g1
      have := r.fresh p hp
      rw [g2] at this; cases this
    refine ⟨r.length, o _ F' ρ' H' (Cfg.par nw c' r fr hp), fun p hp2 => ?_⟩
    have hF : F' p = none := by
      cases e : F' p with
      | none => rfl
      | some u => rw [sm.sub p u e] at hp2; cases hp2
    have nρ : p ∉ ρ' := fun z => by
      obtain ⟨ob, e⟩ := sm.at z
      rw [hp2] at e; cases e
    have st2 : Stp F' ρ' H' F' ρ' (upd H' p (.tup vs)) := Stp.refl.aside hp2
    exact o _ F' ρ' _ (Cfg.par nw (c'.step st2 (sm.aside hF nρ)) (r.step st2) fr hp)
def gSlots (is : List Nat) : TGs := fun vs σ H Q => vs.length = is.length ∧ Q (setsV is vs σ) H
theorem pgs_slots (g : Good T Φ n N fx sc X W) : ∀ {is : List Nat} {ts : List Expr}, chkNm N fx sc is ts = true → PGs X ts (gSlots is) ∧ (assignEach ts X.env).length = is.length ∧ (assignEach ts X.env).findIdx? (·.1) = none ∧ ts.length = is.length
  | [], [], _ => by
    refine ⟨⟨fun pins s σ H vs us Q I r ⟨h1, h2⟩ => pgs_nil.run pins s σ H vs us Q I r ?_⟩, rfl, rfl, rfl⟩
    have e : vs = [] := List.eq_nil_of_length_eq_zero h1
    subst e
    exact ⟨rfl, h2⟩
  | i :: is, t :: ts, h => by
    have h := Bool.and_eq_true_iff.mp (show (chkG N fx sc (.nm i) t && chkNm N fx sc is ts) = true from h)
    obtain ⟨x, p, rfl, hx, hl⟩ := nm_shape h.1
    obtain ⟨l1, l2⟩ := locB_ok hl
    obtain ⟨q1, q2, q3, q4⟩ := pgs_slots g h.2
    have e0 : assignEach (Expr.Name x p :: ts) X.env = (false, assign (.Name x p) X.env) :: assignEach ts X.env := asg_cons rfl
    refine ⟨⟨fun pins s σ H vs us Q I r ⟨h1, h2⟩ => (pgs_cons (pg_name (by rw [g.hN]; exact g.nd) (by rw [g.hN]; exact hx) (by rw [g.hsc]; exact l1) (by rw [g.hsc, g.hfx]; exact l2)) q1 (by rw [e0]; rfl)).run pins s σ H vs us Q I r ?_⟩, by rw [e0, List.length_cons, List.length_cons, q2], ?_, by rw [List.length_cons, List.length_cons, q4]⟩
    · cases vs with
      | nil => cases h1
      | cons v vr => exact ⟨v, vr, rfl, by simpa using h1, h2⟩
    · rw [e0, List.findIdx?_cons]
      simp [q3]
  | [], _ :: _, h => by cases h
  | _ :: _, [], h => by cases h
def chkPar (T : Tab) (N : List Str) (fx : Str → Bool) (sc : Scope) (is : List Nat) (os : List Bool) (es : List E) (ts vs : List Expr) : Bool :=
  chkNm N fx sc is ts && chkMix T N fx sc os es vs && decide (is.Nodup) && decide (is.length = os.length) && decide (vs.length ≤ 64) && (parA sc ts vs || parB sc ts vs)
theorem par_ok (g : Good T Φ n N fx sc X W) (hk : sc.kind = .function) {is : List Nat} {os : List Bool} {es : List E} {ts vs : List Expr} {kt k2 : Nat} {pt pt2 pos : Pos} (h : chkPar T N fx sc is os es ts vs = true) :
    PS X (.Assign [.Tuple ts kt pt] (.Tuple vs k2 pt2) pos) (TS1 X W fun σ M => evS G Φ n (.par is os es) σ M) := by
  unfold chkPar at h
  simp only [Bool.and_eq_true, Bool.or_eq_true, decide_eq_true_eq] at h
  obtain ⟨⟨⟨⟨⟨h1, h2⟩, h3⟩, h4⟩, h5⟩, h6⟩ := h
  obtain ⟨m1, m2, m3⟩ := mix_ok g h2
  have hNd : X.N.Nodup := by rw [g.hN]; exact g.nd
  by_cases hb : parB sc ts vs = true
  · obtain ⟨q1, q2, q3, q4⟩ := pgs_slots g h1
    refine ⟨fun pins s σ H De I q => (ps_asg (pe_tup m1) (pg_tup g.calm q1 q2 q3) rfl (sws_b g.hsc hb) (asg_one rfl)).run pins s σ H De I ?_⟩
    obtain ⟨F, ρ, σ', M, sm, ss, o⟩ := par_imp q
    refine ⟨F, ρ, σ', M, sm, ss, o.mono (fun _ _ _ _ _ z => z) fun xs H1 ⟨z1, z2, z3⟩ => ⟨?_, fun p hp => ⟨p, xs, rfl, .inl (.inl upd_same), by rw [z1, h4], by rw [z1, h4], z3 p hp⟩⟩⟩
    rw [z1, m2, m3, sizeLine_eq]
    omega
  · have ha : parA sc ts vs = true := by
      rcases h6 with h6 | h6
      · exact h6
      · exact absurd h6 hb
    have sw := sws_a (kt := kt) (k2 := k2) (pt := pt) (pt2 := pt2) g.hsc hk ha
    unfold parA at ha
    simp only [Bool.and_eq_true, beq_iff_eq, Bool.not_eq_true', Bool.or_eq_true] at ha
    obtain ⟨⟨⟨⟨⟨⟨a1, a2⟩, a3⟩, a4⟩, a5⟩, a6⟩, a7⟩ := ha
    have loc := fm_len (f := locN sc (lineOf ts)) (xs := ts) a4
    have nmE : namesL sc ts = ts.filterMap (locN sc (lineOf ts)) := rfl
    generalize lineOf ts = ln at loc nmE
    have pl := (pgs_slots g h1).2.2.2
    rcases a1 with a1 | a1
    · obtain ⟨t1, t2, rfl⟩ : ∃ t1 t2, ts = [t1, t2] := by
        match ts, a1 with
        | [t1, t2], _ => exact ⟨t1, t2, rfl⟩
      obtain ⟨v1, v2, rfl⟩ : ∃ v1 v2, vs = [v1, v2] := by
        match vs, a2.trans a1 with
        | [t1, t2], _ => exact ⟨t1, t2, rfl⟩
      obtain ⟨i, j, rfl⟩ : ∃ i j, is = [i, j] := by
        match is, pl.symm.trans a1 with
        | [t1, t2], _ => exact ⟨t1, t2, rfl⟩
      have c1 := Bool.and_eq_true_iff.mp (show (chkG N fx sc (.nm i) t1 && chkNm N fx sc [j] [t2]) = true from h1)
      have c2 := Bool.and_eq_true_iff.mp (show (chkG N fx sc (.nm j) t2 && chkNm N fx sc [] []) = true from c1.2)
      obtain ⟨x, px, rfl, hx, lx⟩ := nm_shape c1.1
      obtain ⟨y, py, rfl, hy, ly⟩ := nm_shape c2.1
      obtain ⟨k1, e1⟩ := locN_some (loc (.Name x px) (by simp))
      obtain ⟨k2', e2⟩ := locN_some (loc (.Name y py) (by simp))
      have nm : namesL sc [.Name x px, .Name y py] = [x, y] := by rw [nmE, List.filterMap_cons, e1, List.filterMap_cons, e2]; rfl
      rw [nm] at sw
      refine ⟨fun pins s σ H De I q => (ps_par g.calm hNd (by rw [g.hN]; exact hx) (by rw [g.hN]; exact hy) (by simpa using h3) (by rw [g.hsc]; exact k1) (by rw [g.hsc]; exact k2') m1 sw rfl).run pins s σ H De I ?_⟩
      obtain ⟨F, ρ, σ', M, sm, ss, o⟩ := par_imp q
      refine ⟨F, ρ, σ', M, sm, ss, o.mono (fun _ _ _ _ _ z => z) fun xs H1 ⟨z1, z2, z3⟩ => ?_⟩
      have zl : xs.length = 2 := by rw [z1, ← h4]; rfl
      match xs, zl with
      | [u, v], _ => exact ⟨u, v, rfl, z2⟩
    · obtain ⟨t1, t2, t3, rfl⟩ : ∃ t1 t2 t3, ts = [t1, t2, t3] := by
        match ts, a1 with
        | [t1, t2, t3], _ => exact ⟨t1, t2, t3, rfl⟩
      obtain ⟨v1, v2, v3, rfl⟩ : ∃ v1 v2 v3, vs = [v1, v2, v3] := by
        match vs, a2.trans a1 with
        | [t1, t2, t3], _ => exact ⟨t1, t2, t3, rfl⟩
      obtain ⟨i, j, l, rfl⟩ : ∃ i j l, is = [i, j, l] := by
        match is, pl.symm.trans a1 with
        | [t1, t2, t3], _ => exact ⟨t1, t2, t3, rfl⟩
      have c1 := Bool.and_eq_true_iff.mp (show (chkG N fx sc (.nm i) t1 && chkNm N fx sc [j, l] [t2, t3]) = true from h1)
      have c2 := Bool.and_eq_true_iff.mp (show (chkG N fx sc (.nm j) t2 && chkNm N fx sc [l] [t3]) = true from c1.2)
      have c3 := Bool.and_eq_true_iff.mp (show (chkG N fx sc (.nm l) t3 && chkNm N fx sc [] []) = true from c2.2)
      obtain ⟨x, px, rfl, hx, lx⟩ := nm_shape c1.1
      obtain ⟨y, py, rfl, hy, ly⟩ := nm_shape c2.1
      obtain ⟨z, pz, rfl, hz, lz⟩ := nm_shape c3.1
      obtain ⟨k1, e1⟩ := locN_some (loc (.Name x px) (by simp))
      obtain ⟨k2', e2⟩ := locN_some (loc (.Name y py) (by simp))
      obtain ⟨k3, e3⟩ := locN_some (loc (.Name z pz) (by simp))
      have nm : namesL sc [.Name x px, .Name y py, .Name z pz] = [x, y, z] := by rw [nmE, List.filterMap_cons, e1, List.filterMap_cons, e2, List.filterMap_cons, e3]; rfl
      rw [nm] at sw
      simp only [List.nodup_cons, List.mem_cons, List.not_mem_nil, or_false, not_or] at h3
      refine ⟨fun pins s σ H De I q => (ps_par3 g.calm hNd (by rw [g.hN]; exact hx) (by rw [g.hN]; exact hy) (by rw [g.hN]; exact hz) h3.1.1 h3.1.2 h3.2.1 (by rw [g.hsc]; exact k1) (by rw [g.hsc]; exact k2') (by rw [g.hsc]; exact k3) m1 sw rfl).run pins s σ H De I ?_⟩
      obtain ⟨F, ρ, σ', M, sm, ss, o⟩ := par_imp q
      refine ⟨F, ρ, σ', M, sm, ss, o.mono (fun _ _ _ _ _ z => z) fun xs H1 ⟨z1, z2, z3⟩ => ?_⟩
      have zl : xs.length = 3 := by rw [z1, ← h4]; rfl
      match xs, zl with
      | [u, v, w], _ => exact ⟨u, v, w, rfl, z2⟩
end
end Mi
set_option Elab.async false
set_option linter.all false
set_option maxRecDepth 100000
set_option maxHeartbeats 2000000
/-! Mi, part 18: what changes a list, a dict. -/
namespace Mi
open PySem PySem.Spec PyProof.Rows L2
/-! ### xs.extend(ys): a list, a tuple of any kind -/
theorem meets_ext (t : Bool) (l : Addr) (xs : Array Value) (n : Nat) (b : Addr) (ys : Array Value) (n2 : Nat) (dd : Option Addr) (sl : Array (Option Value)) (h0 : ¬(!xs.isEmpty && Builtin.List.listTooLong (xs.size + ys.size)) = true) (h1 : xs.size ≤ sizeLine) (h2 : xs.size + ys.size ≤ sizeLine + 1) :
    Meets (Builtin.«list.extend» ⟨[.ref l, .ref b], []⟩) (fun _ R s => s.heap.get? l = some { cls := .type "list", data := .seq xs n } ∧ s.heap.get? b = some { cls := .type (if t = true then "tuple" else "list"), dict := dd, data := .seq ys n2, slots := sl } ∧
      R (.ok (.ret Value.none)) { s with heap := s.heap.update l (Obj.mapSeq fun x => x ++ ys) }) :=
  .of_wp fun prog w A R s h => by
    obtain ⟨hp, g, d, tk, os⟩ := s
    obtain ⟨q1, q2, h⟩ := h
    have f1 := AutoSeq1.idx_int
    have f2 := AutoSeq1.sub_tuple_tuple
    have f3 := AutoSeq1.sub_list_list
    have f4 := AutoSeq1.sub_tuple_list
    have f5 := AutoSeq1.sub_list_tuple
    have zz : (xs ++ ys).size ≤ sizeLine + 1 := by rw [Array.size_append]; exact h2
    cases t with
    | true =>
      wp_walk using (wpAny_updateSeq q1 rfl (hz := h1) (_hz' := zz)), AutoSeq1.wpAny_loadPart' q1, AutoSeq1.wpAny_loadPart' q2
      exact ⟨_, rfl, h⟩
    | false =>
      wp_walk using (wpAny_updateSeq q1 rfl (hz := h1) (_hz' := zz)), AutoSeq1.wpAny_loadPart' q1, AutoSeq1.wpAny_loadPart' q2
      exact ⟨_, rfl, h⟩
def rExt (K : PySem.W.Frag) : V → List V → Hp → VK → Prop := fun x vs H Q => ∃ l b xs zs, x = .ref l ∧ vs = [.ref b] ∧ H l = some (.lst xs) ∧ (SqL K H b zs ∨ SqT K H b zs) ∧ xs.length + zs.length ≤ sizeLine ∧ Q .non (upd H l (.lst (xs ++ zs)))
section
variable {X : Cx}
theorem ext_ok : MtR X "list.extend" (rExt X.K) := by
  intro pins s σ H x vs v us Q I rx rv h
  obtain ⟨l, b, xs, zs, rfl, rfl, hH, hB, hz, q⟩ := h
  cases rx
  obtain ⟨u, rfl, ru⟩ := rv.one
  cases ru
  obtain ⟨z, its, n, r, hl, e⟩ := I.lstM hH
  have go : ∀ (t : Bool) (its2 : List Value) (n2 : Nat) (dd : Option Addr) (sl : Array (Option Value)), Vals zs its2 → s.heap.get? b = some { cls := .type (if t = true then "tuple" else "list"), dict := dd, data := .seq its2.toArray n2, slots := sl } →
      wpAny (model X.prog X.w) X.A (call (.builtin "list.extend") [.ref l, .ref b]) (EP X pins σ Q) X.xe s := fun t its2 n2 dd sl r2 e2 => by
    have hl2 := r2.length
    have hsz : its.toArray.size + its2.toArray.size ≤ sizeLine := by rw [List.size_toArray, List.size_toArray]; omega
    refine call_meets F.slot_list_extend ⟨_, e, rfl⟩ F.entry_list_extend (F.args_list_extend_2 _ _)
      (meets_ext t l its.toArray n b its2.toArray n2 dd sl (by rw [notLongL hsz, Bool.and_false]; exact Bool.false_ne_true) (by rw [List.size_toArray]; omega) (by omega)) ⟨e, e2, ?_⟩
    refine ⟨.non, _, I.lset (t' := s.toks) (its' := its ++ its2) hH e (by simp) (r.append r2) ?_, rfl, q⟩
    rw [List.length_append]
    omega
  rcases hB with hB | hB
  · obtain ⟨its2, r2, ⟨⟨c1, dd1, dt1, sl1⟩, n1, e1, k1, k2, k3⟩, _⟩ := I.list hB
    simp only at k1 k2 k3
    subst k1 k2 k3
    exact go false its2 n1 none sl1 r2 e1
  · obtain ⟨its2, r2, ⟨⟨c1, dd1, dt1, sl1⟩, e1, k1, n1, k2⟩, _⟩ := I.tuple hB
    simp only at k1 k2
    subst k1 k2
    exact go true its2 n1 dd1 sl1 r2 e1
end
/-! ### by readings -/
section
variable {T : Tab} {Φ : Fn} {n : Nat} {N : List Str} {fx : Str → Bool} {sc : Scope} {X : Cx} {W : WX} {G : Genv}
def tgI : Tg → Nat
  | .sl i => i
  | .rf i => i
def tVr (i : Nat) : TE := fun σ H Q => ∃ v, σ[i]? = some (some v) ∧ Q v H
theorem vr_ok (g : Good T Φ n N fx sc X W) {i : Nat} {e : Expr} (h : varB N sc i e = true) : PE X e (tVr i) := by
  obtain ⟨x, pos, rfl, h1, h2, h3, h4⟩ := var_shape h
  exact pe_var (by rw [g.hN]; exact h1) (by rw [g.hsc]; exact h2) h3 h4
/-- where a target stands -/
theorem tg_at {K : PySem.W.Frag} {B : Bs} {F : Hp} {ρ : List Addr} {σ : Sg} {M : MS} {σR : L2.St} {H : Hp} (c : Cfg K B F ρ σ M σR H) {tg : Tg} {o : Nat ⊕ D} (h : evTg σ tg = some o) : ∃ v, σR[tgI tg]? = some (some v) := by
  cases tg with
  | sl i =>
    have h : (match σ[i]? with
      | some (some (.own _)) => some (.inl i)
      | _ => none) = some o := h
    split at h
    · rename_i ct e
      obtain ⟨a, ob, g1, _⟩ := c.ss.own i ct e
      exact ⟨_, g1⟩
    · cases h
  | rf i =>
    have h : (match σ[i]? with
      | some (some (.val d)) => some (.inr d)
      | _ => none) = some o := h
    split at h
    · rename_i d e1
      obtain ⟨v, k1, _⟩ := c.ss.val i d e1
      exact ⟨v, k1⟩
    · cases h
theorem tg_or (tg : Tg) : tg = .sl (tgI tg) ∨ tg = .rf (tgI tg) := by cases tg <;> simp [tgI]
theorem ixN_len {a b : Nat} (h : a = b) (i : Int) : ixN a i = ixN b i := by rw [h]
theorem setO_rd {K : PySem.W.Frag} {F : Hp} {ρ : List Addr} {H : Hp} {ob : HO} {ct ct' : Ct} {a : Addr} {k v : V} {kd vd : D} {Q : Hp → Prop} (ha : H a = some ob) (r : CtR K F ρ ob ct) (h : setO ct kd vd = some ct') (rk : Rep K F ρ k kd) (rv : Rep K F ρ v vd) (q : ∀ ob', CtR K F ρ ob' ct' → Q (upd H a ob')) :
    rSetL (.ref a) k v H Q ∨ rSetD (.ref a) k v H Q := by
  cases r with
  | @lst vs ds r =>
    cases kd with
    | int i =>
      cases rk
      have h : ((ixN ds.length i).map fun j => Ct.lst (ds.set j vd)) = some ct' := h
      rw [Option.map_eq_some_iff] at h
      obtain ⟨j, hj, rfl⟩ := h
      exact .inl ⟨a, vs, i, j, rfl, rfl, ha, by rw [ixN_len r.length]; exact hj, q _ (.lst (r.set rv j))⟩
    | _ => cases h
  | @dct kvs ds r =>
    have h : (if ds.length < limit then (keyO kd).map fun k => Ct.dct (putD ds k vd) else none) = some ct' := h
    by_cases z : ds.length < limit
    · rw [if_pos z, Option.map_eq_some_iff] at h
      obtain ⟨k', hk, rfl⟩ := h
      have ek := (Lk.rep (H := fun _ => none) rk).key hk
      subst ek
      exact .inr ⟨a, _, rfl, DPut.k ha (by rw [r.length, ← limit_eq]; exact z), q _ (.dct (r.put k' rv))⟩
    · rw [if_neg z] at h; cases h
theorem set_any (hu : X.A.units + 1 < cLine) : PSet X (fun o i v H Q => rSetL o i v H Q ∨ rSetD o i v H Q) := by
  intro pins s σ H o i v ov iv u Q I ro ri rv h
  rcases h with h | h
  · exact set_list pins s σ H o i v ov iv u Q I ro ri rv h
  · exact set_dict hu pins s σ H o i v ov iv u Q I ro ri rv h
theorem noSlice_asg {o i : Expr} {pos : Pos} {env : Env} (h : noSlice i = true) : ∀ v, assign (.Subscript o i pos) env v = (do
      let ov ← holding [v] (eval o env)
      let iv ← holding [v, ov] (eval i env)
      standAt pos
      holding [v, ov, iv] (setItem ov iv v)
      release [v, ov, iv] []) := by
  intro v
  cases i <;> first | rfl | cases h
theorem sole {t v : Expr} {l : Nat} {env : Env} (h : noComp v = true) : swapsWithSole [t] v l env = pure false := by
  rw [swapsWithSole]
  exact sw_no h _ _ _
theorem sto_ok (g : Good T Φ n N fx sc X W) {tg : Tg} {k v : E} {o i e : Expr} {p pos : Pos} (ho : varB N sc (tgI tg) o = true) (hi : PE X i (TE1 X W (ev1 Φ n k))) (he : PE X e (TE1 X W (ev1 Φ n v))) (h1 : noSlice i = true) (h2 : noComp e = true) (h3 : noTup e = true) :
    PS X (.Assign [.Subscript o i p] e pos) (TS1 X W fun σ M => evS G Φ n (.sto tg k v) σ M) := by
  have u := g.bse.units
  refine ⟨fun pins s σ H De I q => (ps_asg he (pg_sub (vr_ok g ho) hi (set_any (by omega)) (noSlice_asg h1)) (sole h2) (sws_no h3 _) (asg_one rfl)).run pins s σ H De I ?_⟩
  refine TS1.expr (ev := ev1 Φ n v) (f := fun σ vd M => match evTg σ tg with
    | some o => (evE Φ n σ k M).st σ fun k M => upT σ M (fun c => setO c k vd) o
    | none => .bad) q (fun σ M => by simp only [evS] <;> rfl) fun x xd B σ1 M1 F1 ρ1 H1 c1 r1 o1 => ?_
  cases ht : evTg σ1 tg with
  | none => simp only [ht] at o1; exact (show False from o1).elim
  | some ot =>
    simp only [ht] at o1
    obtain ⟨v0, hv⟩ := tg_at c1 ht
    refine ⟨v0, hv, F1, ρ1, σ1, M1, c1.sm, c1.ss, OutS.expr c1 o1 fun y yd M2 F2 ρ2 H2 st2 sm2 r2 o2 => ?_⟩
    obtain ⟨a, ob, ct, ct', rfl, e2, e3, e4, q2⟩ := upT_ok (c1.step st2 sm2) (tg_or tg) hv ht o2
    exact setO_rd e2 e3 e4 r2 (st2.rep r1) q2
/-! ### append, extend, pop -/
def muN : Mu → Option Str
  | .app => some "append"
  | .ext => some "extend"
  | .popK => none
theorem few1 {e : Expr} {env : Env} {cpos : Pos} (h : notStar e = true) : ((backTo cpos (starEach [e] env)).all (fun x => !x.1) && (backToKw cpos (keywordEach [] env)).all (fun x => x.1.isSome) && decide (([e] : List Expr).length + ([] : List Keyword).length + (if ([] : List Keyword).isEmpty then 0 else 1) < 30)) = true := by
  rw [star_cons h]
  rfl
theorem base_name {x : Str} {p : Pos} {m : Str} {env : Env} : attributeBase (.Name x p) m env (eval (.Name x p) env) = eval (.Name x p) env := rfl
theorem base_var {i : Nat} {o : Expr} {m : Str} {env : Env} (h : varB N sc i o = true) : attributeBase o m env (eval o env) = eval o env := by
  obtain ⟨x, pos, rfl, _⟩ := var_shape h
  rfl
/-- a list stands there -/
theorem lst_at {K : PySem.W.Frag} {B : Bs} {F : Hp} {ρ : List Addr} {σ : Sg} {M : MS} {σR : L2.St} {H : Hp} (c : Cfg K B F ρ σ M σR H) {tg : Tg} {o : Nat ⊕ D} {v : V} (h : evTg σ tg = some o) (hv : σR[tgI tg]? = some (some v)) (ok : lstT σ M o = true) : ∃ a vs, v = .ref a ∧ H a = some (.lst vs) := by
  cases tg with
  | sl i =>
    have h : (match σ[i]? with
      | some (some (.own _)) => some (.inl i)
      | _ => none) = some o := h
    split at h
    case h_2 => cases h
    cases h
    have ok : (match σ[i]? with
      | some (some (.own (.lst _))) => true
      | _ => false) = true := ok
    split at ok
    case h_2 => cases ok
    rename_i xs e1
    obtain ⟨a, ob, g1, g2, g3, _⟩ := c.ss.own i _ e1
    rw [show σR[i]? = _ from hv] at g1
    cases g1
    cases g3
    exact ⟨a, _, rfl, g2⟩
  | rf i =>
    have h : (match σ[i]? with
      | some (some (.val d)) => some (.inr d)
      | _ => none) = some o := h
    split at h
    case h_2 => cases h
    rename_i d e1
    cases h
    obtain ⟨v', k1, k2⟩ := c.ss.val i d e1
    rw [show σR[i]? = _ from hv] at k1
    cases k1
    cases d with
    | ref j =>
      cases k2 with
      | ref k2 =>
        rename_i a
        have ok : (match M[j]? with
          | some (.cell (.lst _)) => true
          | _ => false) = true := ok
        split at ok
        case h_2 => cases ok
        rename_i xs e2
        cases c.sm.obj j a _ k2 e2 with
        | cell g1 g2 => cases g2; exact ⟨a, _, rfl, g1⟩
    | _ => cases ok
theorem app_rd {K : PySem.W.Frag} {F : Hp} {ρ : List Addr} {H : Hp} {ob : HO} {ct ct' : Ct} {a : Addr} {v : V} {vd : D} {Q : Hp → Prop} (ha : H a = some ob) (r : CtR K F ρ ob ct) (h : appO ct vd = some ct') (rv : Rep K F ρ v vd) (q : ∀ ob', CtR K F ρ ob' ct' → Q (upd H a ob')) :
    rAppend (.ref a) [v] H fun _ H' => Q H' := by
  cases r with
  | @lst vs ds r =>
    have h : (if ds.length < limit then some (Ct.lst (ds ++ [vd])) else none) = some ct' := h
    by_cases z : ds.length < limit
    · rw [if_pos z] at h
      cases h
      exact ⟨a, vs, v, rfl, rfl, ha, by rw [r.length, ← limit_eq]; exact z, q _ (.lst (r.append (.cons rv .nil)))⟩
    · rw [if_neg z] at h; cases h
  | @dct kvs ds r => cases h
theorem ext_rd {K : PySem.W.Frag} {F : Hp} {ρ : List Addr} {M : MS} {H : Hp} {ob : HO} {ct ct' : Ct} {a : Addr} {v : V} {vd : D} {Q : Hp → Prop} (sm : SimM K F ρ M H) (ha : H a = some ob) (r : CtR K F ρ ob ct) (h : extO ct vd = some ct') (rv : Rep K F ρ v vd) (q : ∀ ob', CtR K F ρ ob' ct' → Q (upd H a ob')) :
    rExt K (.ref a) [v] H fun _ H' => Q H' := by
  cases r with
  | @lst vs ds r =>
    cases rv with
    | @lst b ws es h1 h2 =>
      have h : (if ds.length + es.length ≤ limit then some (Ct.lst (ds ++ es)) else none) = some ct' := h
      by_cases z : ds.length + es.length ≤ limit
      · rw [if_pos z] at h
        cases h
        exact ⟨a, b, vs, ws, rfl, rfl, ha, .inl (sqL_mono h1 sm.sub), by rw [r.length, h2.length, ← limit_eq]; exact z, q _ (.lst (r.append h2))⟩
      · rw [if_neg z] at h; cases h
    | @tup b ws es h1 h2 =>
      have h : (if ds.length + es.length ≤ limit then some (Ct.lst (ds ++ es)) else none) = some ct' := h
      by_cases z : ds.length + es.length ≤ limit
      · rw [if_pos z] at h
        cases h
        exact ⟨a, b, vs, ws, rfl, rfl, ha, .inr (sqT_mono h1 sm.sub), by rw [r.length, h2.length, ← limit_eq]; exact z, q _ (.lst (r.append h2))⟩
      · rw [if_neg z] at h; cases h
    | _ => cases h
  | @dct kvs ds r => cases h
theorem mth_ok (g : Good T Φ n N fx sc X W) {tg : Tg} {c : E} {m : Mu} {o e : Expr} {name : Str} {ap cp pos : Pos} (ho : varB N sc (tgI tg) o = true) (he : PE X e (TE1 X W (ev1 Φ n c))) (hs : notStar e = true) (hl : (ap.endLine == cp.line) = true) (hm : muN m = some name) :
    PS X (.Expr (.Call (.Attribute o name ap) [e] [] cp) pos) (TS1 X W fun σ M => evS G Φ n (.mth m tg c) σ M) := by
  have arg : PA X [e] (TEs X W (evs Φ n [c])) := sndOne he hs
  have key : ∀ {id : String} {r : V → List V → Hp → VK → Prop} (slot : Slot "list" name id) (hty : typeOf (.builtin id) = pure (.type "method_descriptor")) (hr : MtR X id r)
      (rd : ∀ {F ρ M H ob ct ct' a v vd} {Q : Hp → Prop}, SimM X.K F ρ M H → H a = some ob → CtR X.K F ρ ob ct → muO m ct vd = some ct' → Rep X.K F ρ v vd → (∀ ob', CtR X.K F ρ ob' ct' → Q (upd H a ob')) → r (.ref a) [v] H fun _ H' => Q H'),
      PS X (.Expr (.Call (.Attribute o name ap) [e] [] cp) pos) (TS1 X W fun σ M => evS G Φ n (.mth m tg c) σ M) := by
    intro id r slot hty hr rd
    refine ⟨fun pins s σ H De I q => (ps_expr (pe_bm F.plainAttrs_list slot hty hr (vr_ok g ho) arg (base_var ho) (few1 hs) hl (star_cons hs) rfl) rfl).run pins s σ H De I ?_⟩
    obtain ⟨B, F, ρ, σ1, M, cf, o1⟩ := q
    have o1 : OutS X.K X.mg W B (match evTg σ1 tg with
      | some o => if lstT σ1 M o = true then (evE Φ n σ1 c M).st σ1 fun d M => upT σ1 M (fun c => muO m c d) o else .bad
      | none => .bad) De := by
      simp only [evS] at o1
      exact o1
    cases ht : evTg σ1 tg with
    | none => simp only [ht] at o1; exact (show False from o1).elim
    | some ot =>
      simp only [ht] at o1
      by_cases hlt : lstT σ1 M ot = true
      · rw [if_pos hlt] at o1
        obtain ⟨v0, hv⟩ := tg_at cf ht
        obtain ⟨a0, vs0, rfl, ha0⟩ := lst_at cf ht hv hlt
        refine ⟨.ref a0, hv, .inl ⟨rfl, vs0, .inl (.inl ha0)⟩, ?_⟩
        refine ⟨F, ρ, σ1, M, cf.sm, cf.ss, ?_⟩
        have e1 : evs Φ n [c] σ1 M = (evE Φ n σ1 c M).bind fun d M => .ok [d] M := by
          simp only [evs, evEs]
          cases evE Φ n σ1 c M <;> rfl
        rw [e1]
        have main : OutR X.K X.mg W F ρ H σ (RV X.K) (evE Φ n σ1 c M) fun v H' => r (.ref a0) [v] H' fun _ H2 => De.nx σ H2 := OutS.expr cf o1 fun v d M2 F2 ρ2 H2 st2 sm2 r2 o2 => by
          obtain ⟨a, ob, ct, ct', ea, g1, g2, g3, g4⟩ := upT_ok (cf.step st2 sm2) (tg_or tg) hv ht o2
          cases ea
          exact rd sm2 g1 g2 g3 r2 g4
        cases ek : evE Φ n σ1 c M with
        | ok d M2 =>
          rw [ek] at main
          intro vs F2 ρ2 H2 st2 sm2 r2
          cases r2 with
          | cons ra rb =>
            cases rb
            exact main _ F2 ρ2 H2 st2 sm2 ra
        | exc x M2 => rw [ek] at main; exact main
        | bad => rw [ek] at main; exact main
      · rw [if_neg hlt] at o1
        exact (show False from o1).elim
  cases m <;> cases hm
  · exact key F.slot_list_append F.type_list_append mt_append fun _ ha r h rv q => app_rd ha r h rv q
  · exact key F.slot_list_extend F.type_list_extend ext_ok fun sm ha r h rv q => ext_rd sm ha r h rv q
theorem last_get {α : Type} (xs : List α) : xs[xs.length - 1]? = xs.getLast? := by rw [List.getLast?_eq_getElem?]
theorem popS_ok (g : Good T Φ n N fx sc X W) {tg : Tg} {t : Mi.T} {tgt o : Expr} {ap cp pos : Pos} (ho : varB N sc (tgI tg) o = true) (ht : chkG N fx sc t tgt = true) (hs : notStar tgt = true) (hl : (ap.endLine == cp.line) = true) :
    PS X (.Assign [tgt] (.Call (.Attribute o "pop" ap) [] [] cp) pos) (TS1 X W fun σ M => evS G Φ n (.popS t tg) σ M) := by
  refine ⟨fun pins s σ H De I q => (ps_asg (pe_bm0 F.plainAttrs_list F.slot_list_pop F.type_list_pop mt_pop (vr_ok g ho) (base_var ho) hl) (pg_ok g.hN g.nd g.hsc g.hfx g.calm t tgt ht) (sole rfl) (sws_no rfl _) (asg_one hs)).run pins s σ H De I ?_⟩
  obtain ⟨B, F, ρ, σ1, M, cf, o1⟩ := q
  cases tg with
  | sl i =>
    have o1 : OutS X.K X.mg W B (match evTg σ1 (.sl i) with
      | some (.inl i) => (match σ1[i]? with
        | some (some (.own c)) => (match popO c with
          | some (c, d) => .of ((asgT t d (σ1.set i (some (.own c)))).map .nxt) M
          | none => .bad)
        | _ => .bad)
      | some (.inr (.ref j)) => (match M[j]? with
        | some (.cell c) => (match popO c with
          | some (c, d) => .of ((asgT t d σ1).map .nxt) (M.set j (.cell c))
          | none => .bad)
        | _ => .bad)
      | _ => .bad) De := by
      simp only [evS] at o1
      exact o1
    cases e1 : σ1[i]? with
    | none => simp only [evTg, e1] at o1; exact (show False from o1).elim
    | some sl =>
      cases sl with
      | none => simp only [evTg, e1] at o1; exact (show False from o1).elim
      | some sl =>
        cases sl with
        | val d => simp only [evTg, e1] at o1; exact (show False from o1).elim
        | own ct =>
          simp only [evTg, e1] at o1
          obtain ⟨a, ob, g1, g2, g3, g4, g5⟩ := cf.ss.own i ct e1
          cases g3 with
          | dct r => exact (show False from o1).elim
          | @lst vs ds r =>
            cases hd : ds.getLast? with
            | none => simp only [popO, hd, Option.map_none] at o1; exact (show False from o1).elim
            | some d =>
              simp only [popO, hd, Option.map_some] at o1
              obtain ⟨v, hv, rv⟩ := r.get (i := ds.length - 1) (by rw [last_get]; exact hd)
              refine ⟨.ref a, g1, .inl ⟨rfl, vs, .inl (.inl g2)⟩, a, vs, v, rfl, rfl, g2, by rw [r.length]; exact hv, ?_⟩
              have c2 : Cfg X.K B F ρ (σ1.set i (some (.own (.lst ds.dropLast)))) M σ (upd H a (.lst vs.dropLast)) := ⟨cf.sm.aside g4 g5, cf.ss.updOwn e1 g1 (.lst r.dropLast), cf.st.aside (cf.own i _ a e1 g1), fun j c2 a2 e1' e2' => by
                have hl : i < σ1.length := (List.getElem?_eq_some_iff.mp e1).1
                rw [List.getElem?_set] at e1'
                by_cases z : i = j
                · subst z
                  exact cf.own i _ a2 e1 e2'
                · rw [if_neg z] at e1'; exact cf.own j c2 a2 e1' e2'⟩
              cases ha : asgT t d (σ1.set i (some (.own (.lst ds.dropLast)))) with
              | none => rw [ha] at o1; exact (show False from o1).elim
              | some σ2 =>
                rw [ha] at o1
                exact ⟨F, ρ, _, M, d, c2.sm, c2.ss, rv, σ2, ha, fun σR' hl hk ss => o1 σR' F ρ _ (c2.asg ha hk ss)⟩
  | rf i =>
    have o1 : OutS X.K X.mg W B (match evTg σ1 (.rf i) with
      | some (.inl i) => (match σ1[i]? with
        | some (some (.own c)) => (match popO c with
          | some (c, d) => .of ((asgT t d (σ1.set i (some (.own c)))).map .nxt) M
          | none => .bad)
        | _ => .bad)
      | some (.inr (.ref j)) => (match M[j]? with
        | some (.cell c) => (match popO c with
          | some (c, d) => .of ((asgT t d σ1).map .nxt) (M.set j (.cell c))
          | none => .bad)
        | _ => .bad)
      | _ => .bad) De := by
      simp only [evS] at o1
      exact o1
    cases e1 : σ1[i]? with
    | none => simp only [evTg, e1] at o1; exact (show False from o1).elim
    | some sl =>
      cases sl with
      | none => simp only [evTg, e1] at o1; exact (show False from o1).elim
      | some sl =>
        cases sl with
        | own d => simp only [evTg, e1] at o1; exact (show False from o1).elim
        | val d0 =>
          simp only [evTg, e1] at o1
          obtain ⟨v0, k1, k2⟩ := cf.ss.val i d0 e1
          cases d0 with
          | ref j =>
            cases k2 with
            | ref k2 =>
              rename_i a
              cases e2 : M[j]? with
              | none => simp only [e2] at o1; exact (show False from o1).elim
              | some mo =>
                cases cf.sm.obj j a mo k2 e2 with
                | cell g2 g3 =>
                  simp only [e2] at o1
                  cases g3 with
                  | dct r => exact (show False from o1).elim
                  | @lst vs ds r =>
                    cases hd : ds.getLast? with
                    | none => simp only [popO, hd, Option.map_none] at o1; exact (show False from o1).elim
                    | some d =>
                      simp only [popO, hd, Option.map_some] at o1
                      obtain ⟨v, hv, rv⟩ := r.get (i := ds.length - 1) (by rw [last_get]; exact hd)
                      refine ⟨.ref a, k1, .inl ⟨rfl, vs, .inl (.inl g2)⟩, a, vs, v, rfl, rfl, g2, by rw [r.length]; exact hv, ?_⟩
                      obtain ⟨s1, s2⟩ := cf.sm.set k2 (CtR.lst r.dropLast)
                      have c2 := cf.step s2 s1
                      cases ha : asgT t d σ1 with
                      | none => rw [ha] at o1; exact (show False from o1).elim
                      | some σ2 =>
                        rw [ha] at o1
                        exact ⟨F, ρ, _, _, d, c2.sm, c2.ss, rv, σ2, ha, fun σR' hl hk ss => o1 σR' F ρ _ (c2.asg ha hk ss)⟩
          | _ => exact (show False from o1).elim
end
end Mi
set_option Elab.async false
set_option linter.all false
set_option maxRecDepth 100000
set_option maxHeartbeats 2000000
/-! Mi, part 18b: raise, except suites, a op= b. -/
namespace Mi
open PySem PySem.Spec PyProof.Rows L2
section
variable {T : Tab} {Φ : Fn} {n : Nat} {N : List Str} {fx : Str → Bool} {sc : Scope} {X : Cx} {W : WX} {G : Genv}
theorem ps_to {X : Cx} {st : Stmt} {t t' : TS} (h : PS X st t) (i : ∀ De σ H, t' De σ H → t De σ H) : PS X st t' := ⟨fun pins s σ H De I q => h.run pins s σ H De I (i De σ H q)⟩
def excB (T : Tab) (c : Str) (k : Nat) : Bool := match T.excs.lookup c with
  | some fs => decide (fs.length = k) && decide (k ≠ 0) && decide (k ≤ 1000)
  | none => false
/-! ### raise -/
theorem raise_ok (g : Good T Φ n N fx sc X W) (hG : G = ⟨T.cls, T.excs⟩) {c : Str} {as : List E} {a : Expr} {r : List Expr} {p pos pos' : Pos} (hx : excB T c as.length = true) (hg : glB sc c = true) (hn : okName c = true)
    (ha : PA X (a :: r) (TEs X W (evs Φ n as))) (hs : (a :: r).all notStar = true) :
    PS X (.Raise (some (.Call (.Name c p) (a :: r) [] pos)) none pos') (TS1 X W fun σ M => evS G Φ n (.raise c as) σ M) := by
  subst hG
  unfold excB at hx
  cases hl : T.excs.lookup c with
  | none => rw [hl] at hx; cases hx
  | some fs =>
    rw [hl] at hx
    simp only [Bool.and_eq_true, decide_eq_true_eq] at hx
    obtain ⟨⟨h1, h2⟩, h3⟩ := hx
    obtain ⟨C, fI, fd, ps, sp, m1, TC, iC, tI, fo, bi, hsp, _, _⟩ := g.bse.excs c fs hl (fun z => h2 (by rw [← h1, z]; rfl))
    have s2 := Bool.and_eq_true_iff.mp (show (notStar a && r.all notStar) = true from hs)
    by_cases h2n : 2 ≤ n
    · refine ps_to (ps_raise g.calm g.tk (pmk_oex (sp := sp) TC iC tI fo (g.bse.rm.mono h2n) bi .nil (passes_call g.tk fun _ _ _ _ z => z.elim) (gl_of g hg) m1 ha (okName_ok hn).1 (star_cons s2.1) (star_any s2.2))) fun De σR H q => ?_
      obtain ⟨B, F, ρ, σ, M, cf, o⟩ := q
      have o : OutS X.K X.mg W B ((evEs Φ n σ as M).st σ fun ds M => match mkEx T.excs c ds with
        | some x => .ok (.exc x σ) M
        | none => .bad) De := by
        simp only [evS, if_pos h2n] at o
        exact o
      refine ⟨F, ρ, σ, M, cf.sm, cf.ss, OutS.expr cf o fun vs ds M' F' ρ' H' st sm rv o => ?_⟩
      unfold mkEx at o
      rw [hl] at o
      by_cases hle : fs.length = ds.length
      · simp only [if_pos hle] at o
        have hv : vs.length = fs.length := by rw [rv.length, hle]
        refine ⟨by rw [hv, h1]; exact h3, fun q hq => ?_⟩
        rw [List.append_nil]
        refine hsp q vs _ _ _ hv upd_same fun d gs hd e1 e2 => ?_
        have ndq : d ≠ q := fun z => by
          rw [z, upd_same] at hd
          cases hd
        have hd1 : H' d = none := by rw [upd_ne ndq] at hd; exact hd
        refine ⟨rfl, d, gs, upd_same, ?_, hd1, ?_⟩
        · rw [upd_ne ndq]
          exact upd_same
        · have eH : upd (del (upd (upd (upd H' q (exo q C none)) d (exd d gs)) q (exo q C (some d))) q) d (.xd gs) = upd H' d (.xd gs) := by
            funext b
            by_cases hbd : b = d
            · subst hbd
              rw [upd_same, upd_same]
            · rw [upd_ne hbd, upd_ne hbd]
              by_cases hbq : b = q
              · subst hbq
                rw [del_same, hq]
              · rw [del_ne hbq, upd_ne hbq, upd_ne hbd, upd_ne hbq]
          rw [eH]
          have cf' := cf.step st sm
          have hF : F' d = none := by
            cases e : F' d with
            | none => rfl
            | some u => rw [sm.sub d u e] at hd1; cases hd1
          have nρ : d ∉ ρ' := fun z => by
            obtain ⟨ob, e⟩ := sm.at z
            rw [hd1] at e; cases e
          have st2 : Stp F' ρ' H' F' ρ' (upd H' d (.xd gs)) := Stp.refl.aside hd1
          refine (show ∀ cls dx σR' F' ρ' H', Cfg X.K B F' ρ' σ M' σR' H' → ExR X.K X.mg F' ρ' H' _ cls dx → W cls dx σR' H' from o) (.ref C) (some d) σR F' ρ' _ (cf'.step st2 (sm.aside hF nρ)) ⟨m1, .inr ⟨d, gs, rfl, upd_same, ?_, ?_⟩⟩
          · rw [e1, List.map_reverse, List.map_fst_zip (by omega)]
          · rw [e2, List.map_reverse, List.map_snd_zip (by omega)]
            exact rv.reverse
      · simp only [if_neg hle] at o
        exact (show False from o).elim
    · refine ps_to ps_never fun De σR H q => ?_
      obtain ⟨B, F, ρ, σ, M, cf, o⟩ := q
      simp only [evS, if_neg h2n] at o
      exact (show False from o)

/-! ### a op= b -/
theorem ip_mul : PIp X .Mult (fun x y H Q => ∃ i j, x = .int i ∧ y = .int j ∧ mulOk i j = true ∧ Q (.int (i * j)) H) := by
  intro pins s σ H x y v u Q I r1 r2 h
  obtain ⟨i, j, e1, e2, z, q⟩ := h
  subst e1; subst e2
  obtain ⟨t, rfl⟩ := r1
  obtain ⟨t', rfl⟩ := r2
  exact PyProof.Rows.imul_int ⟨.int _, H, I.tok _, ⟨_, rfl⟩, q⟩ (mulOk_ok z)
def augOp : P → Option Operator
  | .add => some .Add
  | .sub => some .Sub
  | .mul => some .Mult
  | _ => none
/-- what a op= b asks -/
def rAug (p : P) : TIp := fun x y H Q => ∃ i j z, x = .int i ∧ y = .int j ∧ augO p (.int i) (.int j) = some (.int z) ∧ Q (.int z) H
theorem aug_pip {p : P} {op : Operator} (h : augOp p = some op) : PIp X op (rAug p) := by
  intro pins s σ H x y v u Q I r1 r2 q
  obtain ⟨i, j, z, e1, e2, e3, q⟩ := q
  cases p <;> cases h
  · cases e3
    exact ip_add pins s σ H x y v u Q I r1 r2 ⟨i, j, e1, e2, q⟩
  · cases e3
    exact ip_sub pins s σ H x y v u Q I r1 r2 ⟨i, j, e1, e2, q⟩
  · have e3 : (if mulOk i j = true then some (D.int (i * j)) else none) = some (D.int z) := e3
    by_cases m : mulOk i j = true
    · rw [if_pos m] at e3
      cases e3
      exact ip_mul pins s σ H x y v u Q I r1 r2 ⟨i, j, e1, e2, m, q⟩
    · rw [if_neg m] at e3
      cases e3
theorem augO_ints {p : P} {a d z : D} (h : augO p a d = some z) : ∃ i j k, a = .int i ∧ d = .int j ∧ z = .int k := by
  unfold augO at h
  split at h
  · cases h; exact ⟨_, _, _, rfl, rfl, rfl⟩
  · cases h; exact ⟨_, _, _, rfl, rfl, rfl⟩
  · split at h
    · cases h; exact ⟨_, _, _, rfl, rfl, rfl⟩
    · cases h
  · cases h
theorem aug_ok (g : Good T Φ n N fx sc X W) {i : Nat} {p : P} {op : Operator} {c : E} {x : Str} {e : Expr} {pos pos' : Pos} (hp : augOp p = some op) (hi : N[i]? = some x) (hl : locB sc fx x = true) (he : PE X e (TE1 X W (ev1 Φ n c))) :
    PS X (.AugAssign (.Name x pos') op e pos) (TS1 X W fun σ M => evS G Φ n (.aug i p c) σ M) := by
  obtain ⟨l1, l2⟩ := locB_ok hl
  refine ps_to (ps_aug (by rw [g.hN]; exact g.nd) (by rw [g.hN]; exact hi) (by rw [g.hsc]; exact l1) he (aug_pip hp) (by rw [g.hsc, g.hfx]; exact l2)) fun De σR H q => ?_
  obtain ⟨B, F, ρ, σ, M, cf, o⟩ := q
  simp only [evS] at o
  split at o
  · rename_i a e1
    obtain ⟨v, k1, k2⟩ := cf.ss.val i a e1
    refine ⟨v, k1, F, ρ, σ, M, cf.sm, cf.ss, OutS.expr cf o fun w d M' F' ρ' H' st sm rv o => ?_⟩
    cases hz : augO p a d with
    | none => rw [hz] at o; exact (show False from o).elim
    | some z =>
      rw [hz] at o
      obtain ⟨i1, j1, k, rfl, rfl, rfl⟩ := augO_ints hz
      cases k2
      cases rv
      refine ⟨i1, j1, k, rfl, rfl, hz, ?_⟩
      have o : OutS X.K X.mg W B (.ok (.nxt (σ.set i (some (.val (.int k))))) M') De := o
      have c' := cf.step st sm
      have ha : asgT (.nm i) (.int k) σ = some (σ.set i (some (.val (.int k)))) := rfl
      exact o _ F' ρ' H' (c'.asg ha (fun j hj => by
        rw [List.getElem?_set_ne]
        intro z
        exact hj (by simp [Mi.T.slots, z])) (c'.ss.set (.int k) i))
  · exact (show False from o).elim
/-! ### an except suite -/
/-- what is known where the suite begins -/
def tHA (X : Cx) (mks : Mks) (i : Option Nat) (ha : HA) (a : Addr) (cls : Value) (d : Option Addr) : TS := fun De σR H => ∃ F ρ M x dv, SimM X.K F ρ M H ∧ ExR X.K X.mg F ρ H x cls d ∧ (∀ j, i = some j → j < σR.length → σR[j]? = some (some (.ref a))) ∧ haO mks x ha = some dv ∧
  ∀ v F' ρ' H', Stp F ρ H F' ρ' H' → SimM X.K F' ρ' M H' → Rep X.K F' ρ' v dv → De.rt v H'
def tSE (X : Cx) (mks : Mks) (i : Option Nat) (a : Addr) (cls : Value) (d : Option Addr) (e : SE) : TE := fun σR H Q => ∃ F ρ M x dv, SimM X.K F ρ M H ∧ ExR X.K X.mg F ρ H x cls d ∧ (∀ j, i = some j → j < σR.length → σR[j]? = some (some (.ref a))) ∧ seO mks x e = some dv ∧
  ∀ v, Rep X.K F ρ v dv → Q v H
def tSEs (X : Cx) (mks : Mks) (i : Option Nat) (a : Addr) (cls : Value) (d : Option Addr) (es : List SE) : TA := fun σR H Q => ∃ F ρ M x dvs, SimM X.K F ρ M H ∧ ExR X.K X.mg F ρ H x cls d ∧ (∀ j, i = some j → j < σR.length → σR[j]? = some (some (.ref a))) ∧ sesO mks x es = some dvs ∧
  ∀ vs, Reps X.K F ρ vs dvs → Q vs H
def chkSE (nm : Option Str) : SE → Expr → Bool
  | .con d, e => match e with
    | .Constant c _ _ => conB d c
    | _ => false
  | .fld f, e => match e with
    | .Attribute (.Name y _) f' _ => decide (nm = some y) && decide (f = f') && okName y
    | _ => false
def chkSEs (nm : Option Str) : List SE → List Expr → Bool
  | [], [] => true
  | c :: cs, e :: es => notStar e && chkSE nm c e && chkSEs nm cs es
  | _, _ => false
def chkHA (nm : Option Str) : HA → List Stmt → Bool
  | .ret c, ss => match ss with
    | [.Return (some e) _] => chkSE nm c e
    | _ => false
  | .retL cs, ss => match ss with
    | [.Return (some (.List es _)) _] => chkSEs nm cs es && decide (cs.length ≤ 64)
    | _ => false
theorem lookup_zip {α β : Type} [DecidableEq α] {f : α} {gs : List (α × β)} : ∀ {ps : List (α × D)} {z : D} {K : PySem.W.Frag} {F : Hp} {ρ : List Addr} {gs : List (α × V)}, gs.map (·.1) = ps.map (·.1) → Reps K F ρ (gs.map (·.2)) (ps.map (·.2)) → ps.lookup f = some z → ∃ v, gs.lookup f = some v ∧ Rep K F ρ v z
  | [], _, _, _, _, _, _, _, h => by cases h
  | (k, y) :: ps, z, K, F, ρ, [], e, r, h => by cases e
  | (k, y) :: ps, z, K, F, ρ, (k', v) :: gs, e, r, h => by
    simp only [List.map_cons, List.cons.injEq] at e
    obtain ⟨rfl, e⟩ := e
    cases r with
    | cons r1 r2 =>
      by_cases q : f = k'
      · subst q
        simp only [List.lookup, beq_self_eq_true, Option.some.injEq] at h ⊢
        subst h
        exact ⟨v, rfl, r1⟩
      · have q' : (f == k') = false := by simpa using q
        simp only [List.lookup, q'] at h ⊢
        exact lookup_zip (gs := gs) e r2 h
theorem se_ok (g : Good T Φ n N fx sc X W) {nm : Option Str} {i : Option Nat} (hi : ∀ y, nm = some y → ∃ j, i = some j ∧ X.N[j]? = some y ∧ Vis X.env.scope y) {a : Addr} {oe : Obj} {cls : Value} {d : Option Addr} {pn : List (Addr × Obj)} (hz : Zc cls d oe) (hf : ∃ vs, oe.data = .fields vs)
    {c : SE} {e : Expr} (h : chkSE nm c e = true) : PE (X.suite a ((a, oe) :: pn)) e (tSE X T.excs i a cls d c) := by
  cases c with
  | con dd =>
    cases e <;> first
      | (cases h; done)
      | skip
    · rename_i cc jj pp
      have h : conB dd cc = true := h
      cases dd <;> cases cc <;> first
        | (cases h; done)
        | skip
      · exact pe_imp pe_non fun σ H Q ⟨F, ρ, M, x, dv, sm, ex, _, e1, q⟩ => by cases e1; exact q _ .non
      · cases (by simpa [conB] using h : _ = _)
        exact pe_imp pe_bl fun σ H Q ⟨F, ρ, M, x, dv, sm, ex, _, e1, q⟩ => by cases e1; exact q _ (.bl _)
      · cases (by simpa [conB] using h : _ = _)
        exact pe_imp pe_int fun σ H Q ⟨F, ρ, M, x, dv, sm, ex, _, e1, q⟩ => by cases e1; exact q _ (.int _)
      · cases (by simpa [conB] using h : _ = _)
        exact pe_imp pe_str fun σ H Q ⟨F, ρ, M, x, dv, sm, ex, _, e1, q⟩ => by cases e1; exact q _ (.str _)
  | fld f =>
    simp only [chkSE] at h
    split at h
    · simp only [Bool.and_eq_true, decide_eq_true_eq] at h
      obtain ⟨⟨h1, rfl⟩, h2⟩ := h
      obtain ⟨j, rfl, hj, hv⟩ := hi _ h1
      obtain ⟨d1, d2, _⟩ := okName_ok h2
      refine ⟨fun pins s σ H Q I ⟨F, ρ, M, x, dv, sm, ex, sl, e1, q⟩ => ?_⟩
      have hj2 := sl j rfl (by rw [I.len]; exact (List.getElem?_eq_some_iff.mp hj).1)
      simp only [seO] at e1
      split at e1
      · rename_i fs hl
        split at e1
        · rename_i hm
          obtain ⟨C, fI, fd, ps, sp, m1, TC, _, _, _, _, _, xf, nof⟩ := g.bse.excs _ fs hl (List.ne_nil_of_mem hm)
          have ec : cls = .ref C := Option.some.inj (ex.cls.symm.trans m1)
          rcases ex.fs with ⟨en, _⟩ | ⟨dx, gs, ed, hd, en, rp⟩
          · rw [en] at e1; cases e1
          · obtain ⟨v, lv, rv⟩ := lookup_zip (gs := gs) en rp e1
            exact (pe_xf xf (nof _ hm) hz hf (pe_var (X := X.suite a ((a, oe) :: pn)) hj hv d1 d2)).run pins s σ H Q I ⟨.ref a, hj2, rfl, ec, dx, gs, v, ed, hd, lv, q v rv⟩
        · cases e1
      · cases e1
    · cases h
theorem ses_ok (g : Good T Φ n N fx sc X W) {nm : Option Str} {i : Option Nat} (hi : ∀ y, nm = some y → ∃ j, i = some j ∧ X.N[j]? = some y ∧ Vis X.env.scope y) {a : Addr} {oe : Obj} {cls : Value} {d : Option Addr} {pn : List (Addr × Obj)} (hz : Zc cls d oe) (hf : ∃ vs, oe.data = .fields vs) :
    ∀ {cs : List SE} {es : List Expr}, chkSEs nm cs es = true → PA (X.suite a ((a, oe) :: pn)) es (tSEs X T.excs i a cls d cs)
  | [], [], _ => pa_imp pa_nil fun σ H Q ⟨F, ρ, M, x, dvs, sm, ex, _, e1, q⟩ => by cases e1; exact q [] .nil
  | c :: cs, e :: es, h => by
    unfold chkSEs at h
    simp only [Bool.and_eq_true] at h
    refine pa_imp (pa_cons (se_ok g hi hz hf h.1.2) (ses_ok g hi hz hf h.2) (star_cons h.1.1)) fun σ H Q ⟨F, ρ, M, x, dvs, sm, ex, sl, e1, q⟩ => ?_
    unfold sesO at e1
    cases h1 : seO T.excs x c with
    | none => rw [h1] at e1; cases e1
    | some dv =>
      cases h2 : sesO T.excs x cs with
      | none => rw [h1, h2] at e1; cases e1
      | some dr =>
        rw [h1, h2] at e1
        cases e1
        exact ⟨F, ρ, M, x, dv, sm, ex, sl, h1, fun v rv => ⟨F, ρ, M, x, dr, sm, ex, sl, h2, fun vs rvs => q (v :: vs) (.cons rv rvs)⟩⟩
  | [], _ :: _, h => by unfold chkSEs at h; cases h
  | _ :: _, [], h => by unfold chkSEs at h; cases h
theorem sesO_len {K : Mks} {x : Ex} : ∀ {es : List SE} {ds : List D}, sesO K x es = some ds → ds.length = es.length
  | [], _, h => by cases h; rfl
  | c :: cs, ds, h => by
    unfold sesO at h
    cases h1 : seO K x c with
    | none => rw [h1] at h; cases h
    | some dv =>
      cases h2 : sesO K x cs with
      | none => rw [h1, h2] at h; cases h
      | some dr =>
        rw [h1, h2] at h
        cases h
        simp [sesO_len h2]
theorem ha_ok (g : Good T Φ n N fx sc X W) {nm : Option Str} {i : Option Nat} (hi : ∀ y, nm = some y → ∃ j, i = some j ∧ X.N[j]? = some y ∧ Vis X.env.scope y) {a : Addr} {oe : Obj} {cls : Value} {d : Option Addr} {pn : List (Addr × Obj)} (hz : Zc cls d oe) (hf : ∃ vs, oe.data = .fields vs)
    {c : HA} {ss : List Stmt} (h : chkHA nm c ss = true) : PSs (X.suite a ((a, oe) :: pn)) ss (tHA X T.excs i c a cls d) := by
  have one : ∀ {st : Stmt}, PS (X.suite a ((a, oe) :: pn)) st (tHA X T.excs i c a cls d) → PSs (X.suite a ((a, oe) :: pn)) [st] (tHA X T.excs i c a cls d) := fun {st} k => by
    refine ⟨fun pins s σ H De I q => (pss_cons (u := fun _ _ _ => False) k ⟨fun _ _ _ _ _ _ z => z.elim⟩).run pins s σ H De I ?_⟩
    obtain ⟨F, ρ, M, x, dv, sm, ex, sl, e1, q⟩ := q
    exact ⟨F, ρ, M, x, dv, sm, ex, sl, e1, q⟩
  cases c with
  | ret c =>
    simp only [chkHA] at h
    split at h
    · refine one (ps_to (ps_ret (se_ok g hi hz hf h)) fun De σ H ⟨F, ρ, M, x, dv, sm, ex, sl, e1, q⟩ => ?_)
      exact ⟨F, ρ, M, x, dv, sm, ex, sl, e1, fun v rv => q v F ρ H .refl sm rv⟩
    · cases h
  | retL cs =>
    simp only [chkHA] at h
    split at h
    · simp only [Bool.and_eq_true, decide_eq_true_eq] at h
      refine one (ps_to (ps_ret (pe_lst (ses_ok g hi hz hf h.1))) fun De σ H ⟨F, ρ, M, x, dv, sm, ex, sl, e1, q⟩ => ?_)
      obtain ⟨dvs, e2, rfl⟩ := Option.map_eq_some_iff.mp (show (sesO T.excs x cs).map D.lst = some dv from e1)
      refine ⟨F, ρ, M, x, dvs, sm, ex, sl, e2, fun vs rvs => ⟨?_, fun p hp => ?_⟩⟩
      · rw [rvs.length, sesO_len e2, sizeLine_eq]
        omega
      · have hF : F p = none := by
          cases e : F p with
          | none => rfl
          | some u => rw [sm.sub p u e] at hp; cases hp
        have nρ : p ∉ ρ := fun z => by
          obtain ⟨ob, e⟩ := sm.at z
          rw [hp] at e; cases e
        have r : CtR X.K F ρ (.lst vs) (.lst dvs) := .lst rvs
        exact q (.ref p) (upd F p (.lst vs)) ρ _ ((Stp.refl.aside hp).frz hF hp) ((sm.aside hF nρ).frz upd_same hF nρ) (r.rep hF)
    · cases h
/-! ### try -/
theorem names_of (g : Good T Φ n N fx sc X W) {x : Str} {c : Value} (hg : glB sc x = true) (hn : okName x = true) (hm : X.mg x = some c) : Names X x c := ⟨gl_of g hg, (okName_ok hn).1, .inl hm⟩
/-- what the body's evaluation says to the clauses -/
theorem try_out {B : Bs} {De : Ends} {body : List S} {hs : List (Str × HA)} {σ : Sg} {M : MS} {W' : WX} (o : OutS X.K X.mg W B (evS G Φ n (.tryc body hs) σ M) De)
    (hx : ∀ x σ' M' cls dx σR' F' ρ' H', OutS X.K X.mg W B (evHs G x hs σ' M') De → Cfg X.K B F' ρ' σ' M' σR' H' → ExR X.K X.mg F' ρ' H' x cls dx → W' cls dx σR' H') : OutS X.K X.mg W' B (evSs G Φ n body σ M) De := by
  simp only [evS] at o
  cases e : evSs G Φ n body σ M with
  | ok f M1 =>
    rw [e] at o
    cases f with
    | exc x σ1 => exact fun cls dx σR' F' ρ' H' c r => hx x σ1 M1 cls dx σR' F' ρ' H' o c r
    | nxt σ1 => exact o
    | brk σ1 => exact o
    | cnt σ1 => exact o
    | ret d => exact o
  | exc x M1 => rw [e] at o; exact (show False from o).elim
  | bad => rw [e] at o; exact (show False from o).elim
/-- the suite's wish, from what the evaluator says -/
theorem ha_out {B : Bs} {De De' : Ends} {c : HA} {x : Ex} {i : Option Nat} {a : Addr} {cls : Value} {dx : Option Addr} {F : Hp} {ρ : List Addr} {σ : Sg} {M : MS} {σR σR2 : L2.St} {H : Hp} {mks : Mks} (hrt : De'.rt = De.rt)
    (o : OutS X.K X.mg W B (.of ((haO mks x c).map .ret) M) De) (cf : Cfg X.K B F ρ σ M σR H) (r : ExR X.K X.mg F ρ H x cls dx) (sl : ∀ j, i = some j → j < σR2.length → σR2[j]? = some (some (.ref a))) : tHA X mks i c a cls dx De' σR2 H := by
  cases e : haO mks x c with
  | none => rw [e] at o; exact (show False from o).elim
  | some dv =>
    rw [e] at o
    refine ⟨F, ρ, M, x, dv, cf.sm, r, sl, e, fun v F' ρ' H' st sm rv => ?_⟩
    rw [hrt]
    exact (show ∀ v F' ρ' H', Stp B.F B.ρ B.H F' ρ' H' → SimM X.K F' ρ' M H' → Rep X.K F' ρ' v dv → De.rt v H' from o) v F' ρ' H' (cf.st.trans st) sm rv
theorem tryAs_ok (g : Good T Φ n N fx sc X W) (hG : G = ⟨T.cls, T.excs⟩) (stk : X.stack = X.env :: X.outer) (frm : X.env.frame = some X.env.locals) {body : List S} {bs suite : List Stmt} {b₀ : Stmt} {x nm : Str} {i : Nat} {ha : HA} {np pos pos' : Pos}
    (hi : N[i]? = some nm) (hln : sc.names.lookup nm = some .local) (hg : glB sc x = true) (hn : okName x = true) (hm : ∃ c, X.mg x = some c) (hh : chkHA (some nm) ha (b₀ :: suite) = true)
    (hb : ∀ (W' : WX) (pn : List (Addr × Obj)) (xe : Value → Shared → Prop), Takes (X.tr pn xe) W' → PassesOwn (model X.prog X.w) X.A X.env xe → PSs (X.tr pn xe) bs (TS1 X W' fun σ M => evSs G Φ n body σ M)) :
    PS X (.Try bs [.ExceptHandler (some (.Name x np)) (some nm) (b₀ :: suite) pos'] [] [] pos) (TS1 X W fun σ M => evS G Φ n (.tryc body [(x, ha)]) σ M) := by
  subst hG
  obtain ⟨c, hm⟩ := hm
  have hkl : X.env.kindOf nm = some .local := by
    show X.env.scope.names.lookup nm = _
    rw [g.hsc]; exact hln
  refine ps_to (ps_try_as (i := i) (ts := tHA X T.excs (some i) ha) stk frm (by rw [g.hN]; exact g.nd) (by rw [g.hN]; exact hi) hkl (names_of g hg hn hm) g.tk hb
    (fun a oe cls d pn hz hf => ha_ok g (i := some i) (fun y e => ⟨i, rfl, by cases e; rw [g.hN]; exact hi, by cases e; exact .inl hkl⟩) hz hf hh)) fun De σR H ⟨B, F, ρ, σ, M, cf, o⟩ => ?_
  refine ⟨B, F, ρ, σ, M, cf, try_out o fun x1 σ' M' cls dx σR' F' ρ' H' o2 cf2 r => ?_⟩
  unfold evHs at o2
  cases hc : catches T.cls x1.cls x with
  | none => simp only [hc] at o2; exact (show False from o2).elim
  | some b =>
    simp only [hc] at o2
    obtain ⟨C, D', m1, m2, ex⟩ := g.bse.cls _ _ _ hc
    have e1 : C = cls := Option.some.inj (m1.symm.trans r.cls)
    have e2 : D' = c := Option.some.inj (m2.symm.trans hm)
    subst e1 e2
    refine ⟨b, ex, fun hbt a ha0 => ?_, fun hbf => ?_⟩
    · subst hbt
      exact ha_out (De := De) rfl o2 cf2 r fun j hj hl => by
        cases hj
        rw [List.length_set] at hl
        exact List.getElem?_set_self hl
    · subst hbf
      exact (show ∀ cls dx σR' F' ρ' H', Cfg X.K B F' ρ' σ' M' σR' H' → ExR X.K X.mg F' ρ' H' x1 cls dx → W cls dx σR' H' from o2) _ dx σR' F' ρ' H' cf2 r
def chkHs (sc : Scope) : List (Str × HA) → List ExceptHandler → Bool
  | [], [] => true
  | (x, c) :: hs, .ExceptHandler (some (.Name y _)) none (b :: ss) _ :: es => decide (x = y) && glB sc x && okName x && chkHA none c (b :: ss) && chkHs sc hs es
  | _, _ => false
/-- the clauses with what their suites ask -/
inductive Hl (X : Cx) (mks : Mks) : List (Str × HA) → List (Value × (Addr → Value → Option Addr → TS)) → Prop
  | nil : Hl X mks [] []
  | cons {x : Str} {c : HA} {v : Value} {hs : List (Str × HA)} {l : List (Value × (Addr → Value → Option Addr → TS))} : X.mg x = some v → Hl X mks hs l → Hl X mks ((x, c) :: hs) ((v, tHA X mks none c) :: l)
theorem hds_ok (g : Good T Φ n N fx sc X W) : ∀ {hs : List (Str × HA)} {es : List ExceptHandler}, chkHs sc hs es = true → (∀ h ∈ hs, ∃ c, X.mg h.1 = some c) → ∃ l, HdsOk X es l ∧ Hl X T.excs hs l
  | [], [], _, _ => ⟨[], .nil, .nil⟩
  | (x, c) :: hs, e :: es, h, hm => by
    unfold chkHs at h
    split at h
    · rename_i e1 e2
      cases e1
    · rename_i e1 e2
      cases e1; cases e2
      simp only [Bool.and_eq_true, decide_eq_true_eq] at h
      obtain ⟨⟨⟨⟨rfl, h2⟩, h3⟩, h4⟩, h5⟩ := h
      obtain ⟨v, hv⟩ := hm _ (List.mem_cons_self ..)
      obtain ⟨l, k1, k2⟩ := hds_ok g h5 fun h hh => hm h (List.mem_cons_of_mem _ hh)
      exact ⟨_, .cons (names_of g h2 h3 hv) (fun a oe cls d pn hz hf => ha_ok g (i := none) (nm := none) (fun y e => nomatch e) hz hf h4) k1, .cons hv k2⟩
    · cases h
  | [], _ :: _, h, _ => by unfold chkHs at h; cases h
  | _ :: _, [], h, _ => by unfold chkHs at h; cases h
theorem many_out (g : Good T Φ n N fx sc X W) {B : Bs} {De : Ends} {x1 : Ex} {σ' : Sg} {M' : MS} {cls : Value} {dx : Option Addr} {σR' : L2.St} {F' : Hp} {ρ' : List Addr} {H' : Hp} (cf2 : Cfg X.K B F' ρ' σ' M' σR' H') (r : ExR X.K X.mg F' ρ' H' x1 cls dx) :
    ∀ {hs : List (Str × HA)} {l : List (Value × (Addr → Value → Option Addr → TS))}, Hl X T.excs hs l → OutS X.K X.mg W B (evHs ⟨T.cls, T.excs⟩ x1 hs σ' M') De → wMany X.K W De l cls dx σR' H' := by
  intro hs l q
  induction q with
  | nil => exact fun o2 => (show ∀ cls dx σR' F' ρ' H', Cfg X.K B F' ρ' σ' M' σR' H' → ExR X.K X.mg F' ρ' H' x1 cls dx → W cls dx σR' H' from o2) _ dx σR' F' ρ' H' cf2 r
  | @cons x c v hs l hm q ih =>
    intro o2
    unfold evHs at o2
    cases hc : catches T.cls x1.cls x with
    | none => simp only [hc] at o2; exact (show False from o2).elim
    | some b =>
      simp only [hc] at o2
      obtain ⟨C, D', m1, m2, ex⟩ := g.bse.cls _ _ _ hc
      have e1 : C = cls := Option.some.inj (m1.symm.trans r.cls)
      have e2 : D' = v := Option.some.inj (m2.symm.trans hm)
      subst e1 e2
      refine ⟨b, ex, fun hbt a ha0 => ?_, fun hbf => ?_⟩
      · subst hbt
        exact ha_out rfl o2 cf2 r fun j hj hl => nomatch hj
      · subst hbf
        exact ih o2
theorem tryMany_ok (g : Good T Φ n N fx sc X W) (hG : G = ⟨T.cls, T.excs⟩) (stk : X.stack = X.env :: X.outer) (frm : X.env.frame = some X.env.locals) {body : List S} {bs : List Stmt} {h₀ : ExceptHandler} {hds : List ExceptHandler} {hs : List (Str × HA)} {pos : Pos}
    (hm : ∀ h ∈ hs, ∃ c, X.mg h.1 = some c) (hh : chkHs sc hs (h₀ :: hds) = true)
    (hb : ∀ (W' : WX) (pn : List (Addr × Obj)) (xe : Value → Shared → Prop), Takes (X.tr pn xe) W' → PassesOwn (model X.prog X.w) X.A X.env xe → PSs (X.tr pn xe) bs (TS1 X W' fun σ M => evSs G Φ n body σ M)) :
    PS X (.Try bs (h₀ :: hds) [] [] pos) (TS1 X W fun σ M => evS G Φ n (.tryc body hs) σ M) := by
  subst hG
  obtain ⟨l, k1, k2⟩ := hds_ok g hh hm
  refine ps_to (ps_try_many stk frm g.tk hb k1) fun De σR H ⟨B, F, ρ, σ, M, cf, o⟩ => ?_
  exact ⟨B, F, ρ, σ, M, cf, try_out o fun x1 σ' M' cls dx σR' F' ρ' H' o2 cf2 r => many_out g cf2 r k2 o2⟩
end
end Mi
set_option Elab.async false
set_option linter.all false
set_option maxRecDepth 100000
set_option maxHeartbeats 2000000
/-! Mi, part 19: loops; the whole of statements. -/
namespace Mi
open PySem PySem.Spec PyProof.Rows L2
/-- the except clauses: one with a name, or any without -/
def asH (N : List Str) (sc : Scope) : List (Str × HA) → List ExceptHandler → Option (Str × Str × Nat)
  | [(x, ha)], [.ExceptHandler (some (.Name y _)) (some nm) (b :: suite) _] => if x = y ∧ sc.names.lookup nm = some .local ∧ N[N.idxOf nm]? = some nm ∧ glB sc x = true ∧ okName x = true ∧ chkHA (some nm) ha (b :: suite) = true then some (x, nm, N.idxOf nm) else none
  | _, _ => none
def chkH (T : Tab) (N : List Str) (sc : Scope) (hs : List (Str × HA)) (es : List ExceptHandler) : Bool := hs.all (fun h => T.cls.any fun t => decide (t.2.1 = h.1)) && ((asH N sc hs es).isSome || chkHs sc hs es)
mutual
def chkS (T : Tab) (N : List Str) (fx : Str → Bool) (sc : Scope) : S → Stmt → Bool
  | .set t e, st => match st with
    | .Assign [tg] ex _ => notStar tg && chkG N fx sc t tg && chkE T N fx sc e ex && (match t with
      | .nm _ => (noComp ex || isComp e)
      | .tup _ => noComp ex && noTup ex)
    | _ => false
  | .own i e, st => match st with
    | .Assign [tg] ex _ => chkG N fx sc (.nm i) tg && isFr e && chkE T N fx sc e ex && (noComp ex || isComp e)
    | _ => false
  | .par is os es, st => match st with
    | .Assign [.Tuple ts _ _] (.Tuple vs _ _) _ => chkPar T N fx sc is os es ts vs
    | _ => false
  | .sto tg k v, st => match st with
    | .Assign [.Subscript o i _] e _ => varB N sc (tgI tg) o && chkE T N fx sc k i && chkE T N fx sc v e && noSlice i && noComp e && noTup e
    | _ => false
  | .mth m tg e, st => match st with
    | .Expr (.Call (.Attribute o name ap) [x] [] cp) _ => varB N sc (tgI tg) o && chkE T N fx sc e x && notStar x && (ap.endLine == cp.line) && decide (muN m = some name)
    | _ => false
  | .popS t tg, st => match st with
    | .Assign [g] (.Call (.Attribute o name ap) [] [] cp) _ => varB N sc (tgI tg) o && chkG N fx sc t g && notStar g && (ap.endLine == cp.line) && decide (name = "pop")
    | _ => false
  | .aug i p e, st => match st with
    | .AugAssign (.Name x _) op ex _ => decide (augOp p = some op) && decide (N[i]? = some x) && locB sc fx x && chkE T N fx sc e ex
    | _ => false
  | .ite c a b, st => match st with
    | .If ce as bs _ => chkT T N fx sc c ce && chkSs T N fx sc a as && chkSs T N fx sc b bs
    | _ => false
  | .loop t it body _, st => match st with
    | .For tg iter bs [] _ => chkI T N fx sc it tg iter && noSet iter && chkG N fx sc t tg && chkSs T N fx sc body bs
    | _ => false
  | .whl c body _, st => match st with
    | .While ce bs [] _ => chkT T N fx sc c ce && chkSs T N fx sc body bs
    | _ => false
  | .ret e, st => match st with
    | .Return (some x) _ => chkE T N fx sc e x
    | _ => false
  | .retn, st => match st with
    | .Return none _ => true
    | _ => false
  | .expr e, st => match st with
    | .Expr x _ => chkE T N fx sc e x && noComp x
    | _ => false
  | .raise c as, st => match st with
    | .Raise (some (.Call (.Name x _) (a :: r) [] _)) none _ => decide (x = c) && excB T c as.length && glB sc c && okName c && chkEs T N fx sc as (a :: r)
    | _ => false
  | .tryc body hs, st => match st with
    | .Try bs (h₀ :: hds) [] [] _ => chkSs T N fx sc body bs && chkH T N sc hs (h₀ :: hds)
    | _ => false
  | .nev, _ => true
  | .pass, st => match st with
    | .Pass _ => true
    | _ => false
  | .brk, st => match st with
    | .Break _ => true
    | _ => false
  | .cnt, st => match st with
    | .Continue _ => true
    | _ => false
  | .frz _ s, st => chkS T N fx sc s st
def chkSs (T : Tab) (N : List Str) (fx : Str → Bool) (sc : Scope) : List S → List Stmt → Bool
  | [], [] => true
  | s :: ss, st :: sts => chkS T N fx sc s st && chkSs T N fx sc ss sts
  | _, _ => false
end
section
variable {T : Tab} {Φ : Fn} {n : Nat} {N : List Str} {fx : Str → Bool} {sc : Scope} {X : Cx} {W : WX} {G : Genv}
noncomputable abbrev evB (G : Genv) (Φ : Fn) (n : Nat) (s : S) : Sg → MS → Rs Fl := fun σ M => evS G Φ n s σ M
noncomputable abbrev evBs (G : Genv) (Φ : Fn) (n : Nat) (s : List S) : Sg → MS → Rs Fl := fun σ M => evSs G Φ n s σ M
theorem ps_imp {X : Cx} {st : Stmt} {t t' : TS} (h : PS X st t) (i : ∀ De σ H, t' De σ H → t De σ H) : PS X st t' := ⟨fun pins s σ H De I q => h.run pins s σ H De I (i De σ H q)⟩
theorem pss_imp {X : Cx} {st : List Stmt} {t t' : TS} (h : PSs X st t) (i : ∀ De σ H, t' De σ H → t De σ H) : PSs X st t' := ⟨fun pins s σ H De I q => h.run pins s σ H De I (i De σ H q)⟩
theorem OutS.next {K : PySem.W.Frag} {mg : Str → Option Value} {B : Bs} {r : Rs Fl} {f : Sg → MS → Rs Fl} {De : Ends} {nx : L2.St → Hp → Prop} (o : OutS K mg W B (r.bind fun fl M => match fl with | .nxt σ => f σ M | fl => .ok fl M) De)
    (h : ∀ σ' M' σR' F' ρ' H', Cfg K B F' ρ' σ' M' σR' H' → OutS K mg W B (f σ' M') De → nx σR' H') : OutS K mg W B r { De with nx := nx } := by
  cases r with
  | ok fl M =>
    cases fl with
    | nxt σ => exact fun σR' F' ρ' H' c => h σ M σR' F' ρ' H' c o
    | ret d => exact o
    | brk σ => exact o
    | cnt σ => exact o
    | exc x σ => exact o
  | exc x M => exact o
  | bad => exact o
theorem seq_ok {s : S} {ss : List S} {st : Stmt} {sts : List Stmt} (h1 : PS X st (TS1 X W (evB G Φ n s))) (h2 : PSs X sts (TS1 X W (evBs G Φ n ss))) : PSs X (st :: sts) (TS1 X W (evBs G Φ n (s :: ss))) := by
  refine pss_imp (pss_cons h1 h2) fun De σR H ⟨B, F, ρ, σ, M, c, o⟩ => ?_
  have o : OutS X.K X.mg W B ((evS G Φ n s σ M).bind fun fl M => match fl with | .nxt σ => evSs G Φ n ss σ M | fl => .ok fl M) De := by
    have o : OutS X.K X.mg W B (evSs G Φ n (s :: ss) σ M) De := o
    simp only [evSs] at o
    exact o
  exact ⟨B, F, ρ, σ, M, c, o.next fun σ' M' σR' F' ρ' H' c' o' => ⟨B, F', ρ', σ', M', c', o'⟩⟩
/-- a test in a statement -/
theorem TS1.test {ev' : Sg → MS → Rs Fl} {e : E} {f : Sg → Bool → MS → Rs Fl} {De : Ends} {σR : L2.St} {H : Hp} {Q : Bool → Hp → Prop} (h : TS1 X W ev' De σR H) (q : ∀ σ M, ev' σ M = (evE Φ n σ e M).st σ fun d M => match testO d with | some b => f σ b M | none => .bad)
    (next : ∀ b B σ M' F' ρ' H', Cfg X.K B F' ρ' σ M' σR H' → OutS X.K X.mg W B (f σ b M') De → Q b H') : TTv X W (ev1 Φ n e) σR H Q := by
  refine TS1.expr (ev := ev1 Φ n e) (f := fun σ d M => match testO d with | some b => f σ b M | none => .bad) h q fun v d B σ M' F' ρ' H' c r o => ?_
  cases ht : testO d with
  | none => simp only [ht] at o; exact (show False from o).elim
  | some b =>
    simp only [ht] at o
    have ed := testO_ok ht
    subst ed
    cases r
    exact ⟨b, rfl, next b B σ M' F' ρ' H' c o⟩
theorem to_frA {e : E} {i : Nat} {De : Ends} {σR : L2.St} {H : Hp} (h : tAsg (TE1 X W (ev1 Φ n e)) (gName i) De σR H) : tAsg (TF1 X W (ev1 Φ n e)) (gName i) De σR H := to_fr h
theorem ite_ok2 {c : E} {a b : List S} {ce : Expr} {as bs : List Stmt} {pos : Pos} (h1 : PT X ce (TTv X W (ev1 Φ n c))) (h2 : PSs X as (TS1 X W (evBs G Φ n a))) (h3 : PSs X bs (TS1 X W (evBs G Φ n b))) : PS X (.If ce as bs pos) (TS1 X W (evB G Φ n (.ite c a b))) := by
  refine ps_imp (ps_if h1 h2 h3) fun De σR H q => ?_
  refine TS1.test (f := fun σ k M => match k with | true => evSs G Φ n a σ M | false => evSs G Φ n b σ M) q (fun σ M => ?_) fun k B σ M' F' ρ' H' cf o => ?_
  · simp only [evB, evS]
    congr 1
    funext d M
    cases testO d with
    | none => rfl
    | some k => cases k <;> rfl
  · cases k with
    | true => rw [if_pos rfl]; exact ⟨B, F', ρ', σ, M', cf, o⟩
    | false => rw [if_neg (by decide)]; exact ⟨B, F', ρ', σ, M', cf, o⟩
theorem ret_ok {e : E} {x : Expr} {pos : Pos} (h : PE X x (TE1 X W (ev1 Φ n e))) : PS X (.Return (some x) pos) (TS1 X W (evB G Φ n (.ret e))) := by
  refine ps_imp (ps_ret h) fun De σR H ⟨B, F, ρ, σ, M, c, o⟩ => ⟨F, ρ, σ, M, c.sm, c.ss, ?_⟩
  have o : OutS X.K X.mg W B ((evE Φ n σ e M).st σ fun d M => .ok (.ret d) M) De := by
    have o : OutS X.K X.mg W B (evS G Φ n (.ret e) σ M) De := o
    simp only [evS] at o
    exact o
  exact OutS.expr c o fun v d M' F' ρ' H' st sm r o => (show ∀ v F' ρ' H', Stp B.F B.ρ B.H F' ρ' H' → SimM X.K F' ρ' M' H' → Rep X.K F' ρ' v d → De.rt v H' from o) v F' ρ' H' (c.st.trans st) sm r
theorem retn_ok {pos : Pos} : PS X (.Return none pos) (TS1 X W (evB G Φ n .retn)) := ps_imp ps_retN fun De σR H ⟨B, F, ρ, σ, M, c, o⟩ => by
  have o : OutS X.K X.mg W B (evS G Φ n .retn σ M) De := o
  simp only [evS] at o
  exact (show ∀ v F' ρ' H', Stp B.F B.ρ B.H F' ρ' H' → SimM X.K F' ρ' M H' → Rep X.K F' ρ' v .non → De.rt v H' from o) .non F ρ H c.st c.sm .non
theorem expr_ok {e : E} {x : Expr} {pos : Pos} (h : PE X x (TE1 X W (ev1 Φ n e))) (hs : noComp x = true) : PS X (.Expr x pos) (TS1 X W (evB G Φ n (.expr e))) := by
  refine ps_imp (ps_expr h (sw_no hs _ _ _)) fun De σR H ⟨B, F, ρ, σ, M, c, o⟩ => ⟨F, ρ, σ, M, c.sm, c.ss, ?_⟩
  have o : OutS X.K X.mg W B ((evE Φ n σ e M).st σ fun d M => .ok (.nxt σ) M) De := by
    have o : OutS X.K X.mg W B (evS G Φ n (.expr e) σ M) De := o
    simp only [evS] at o
    exact o
  exact OutS.expr c o fun v d M' F' ρ' H' st sm r o => (show ∀ σR' F' ρ' H', Cfg X.K B F' ρ' σ M' σR' H' → De.nx σR' H' from o) σR F' ρ' H' (c.step st sm)
/-- the same, seen from a later place -/
def Bs.at (B : Bs) (F : Hp) (ρ : List Addr) : Bs := ⟨F, ρ, B.H⟩
section
variable {K : PySem.W.Frag} {mg : Str → Option Value} {B : Bs} {F F' : Hp} {ρ ρ' : List Addr} {H H' : Hp} {σ σ' : Sg} {M M' : MS} {σR σR' : L2.St} {De : Ends}
theorem Stp.rebase (c : Stp B.F B.ρ B.H F ρ H) (d : Stp F ρ B.H F' ρ' H') : Stp B.F B.ρ B.H F' ρ' H' := by
  refine ⟨fun a o e => d.mono a o (c.mono a o e), c.pre.trans d.pre, fun b o e nb => ?_, fun b hb nb => ?_⟩
  · have n1 : b ∉ ρ := fun z => by
      have := c.new b z nb
      rw [e] at this; cases this
    exact ⟨(d.keep b o e n1).1, (d.keep b o e n1).2.trans (c.keep b o e nb).2⟩
  · by_cases z : b ∈ ρ
    · exact c.new b z nb
    · exact d.new b hb z
theorem Cfg.to (c : Cfg K B F ρ σ M σR H) : Cfg K (B.at F ρ) F ρ σ M σR H :=
  ⟨c.sm, c.ss, ⟨fun _ _ e => e, List.prefix_refl _, fun b o e nb => ⟨(c.st.keep b o e fun z => nb (c.st.sub z)).1, rfl⟩, fun b hb nb => absurd hb nb⟩, c.own⟩
theorem Cfg.of (c : Stp B.F B.ρ B.H F ρ H) (d : Cfg K (B.at F ρ) F' ρ' σ' M' σR' H') : Cfg K B F' ρ' σ' M' σR' H' := ⟨d.sm, d.ss, c.rebase d.st, d.own⟩
theorem OutS.to {r : Rs Fl} (c : Stp B.F B.ρ B.H F ρ H) (o : OutS K mg W B r De) : OutS K mg W (B.at F ρ) r De := by
  cases r with
  | ok f M =>
    cases f with
    | nxt σ => exact fun σR' F' ρ' H' d => o σR' F' ρ' H' (.of c d)
    | brk σ => exact fun σR' F' ρ' H' d => o σR' F' ρ' H' (.of c d)
    | cnt σ => exact fun σR' F' ρ' H' d => o σR' F' ρ' H' (.of c d)
    | ret d => exact fun v F' ρ' H' st => o v F' ρ' H' (c.rebase st)
    | exc x σ => exact fun cls dx σR' F' ρ' H' d => o cls dx σR' F' ρ' H' (.of c d)
  | exc x M => exact o
  | bad => exact o
end
/-- a for loop -/
noncomputable def loopS (G : Genv) (Φ : Fn) (n : Nat) (t : Mi.T) (body : List S) (clr : List Nat) : D → Sg → MS → Rs Fl := fun d σ M => match asgT t d σ with
  | some σ => (evSs G Φ n body σ M).bind fun f M => .ok (f.clr clr) M
  | none => .bad
theorem loop_turn {B : Bs} {t : Mi.T} {body : List S} {clr : List Nat} {d : D} {ds : List D} {σ σ1 : Sg} {M : MS} {De : Ends} {Nx : L2.St → Hp → Prop} (ha : asgT t d σ = some σ1) (o : OutS X.K X.mg W B (loopL (loopS G Φ n t body clr) (d :: ds) σ M) De)
    (hN : ∀ σ' M' σR' F' ρ' H', Cfg X.K B F' ρ' σ' M' σR' H' → OutS X.K X.mg W B (loopL (loopS G Φ n t body clr) ds σ' M') De → Nx σR' H') : OutS X.K X.mg W B (evSs G Φ n body σ1 M) { De with nx := Nx, ct := Nx, bk := De.nx } := by
  unfold loopL at o
  unfold loopS at o
  simp only [ha] at o
  cases e : evSs G Φ n body σ1 M with
  | ok f M1 =>
    rw [e] at o
    cases f with
    | nxt σ2 => exact fun σR' F' ρ' H' c => hN _ M1 σR' F' ρ' H' (c.less clr) o
    | cnt σ2 => exact fun σR' F' ρ' H' c => hN _ M1 σR' F' ρ' H' (c.less clr) o
    | brk σ2 => exact fun σR' F' ρ' H' c => (show ∀ σR' F' ρ' H', Cfg X.K B F' ρ' (wipeG σ2 clr) M1 σR' H' → De.nx σR' H' from o) σR' F' ρ' H' (c.less clr)
    | ret d => exact o
    | exc x σ2 => exact o
  | exc x M1 => rw [e] at o; exact o
  | bad => rw [e] at o; exact o
theorem loop_ok {t : Mi.T} {it : It} {body : List S} {clr : List Nat} {tg iter : Expr} {bs : List Stmt} {pos : Pos} (hp : PassesOwn (model X.prog X.w) X.A X.env X.xe) (hc : X.calm = true) (hi : PI X tg iter (TI1 X W fun σ M => evIt Φ n σ it M)) (hg : PG X tg (TGt X t)) (hb : PSs X bs (TS1 X W (evBs G Φ n body)))
    (hs : ∀ x, foldedSetIterable iter X.env x = pure x) : PS X (.For tg iter bs [] pos) (TS1 X W (evB G Φ n (.loop t it body clr))) := by
  refine ps_imp (ps_for hp hc hi hg hb hs) fun De σR H q => ?_
  unfold tFor
  refine TS1.expr (ev := fun σ M => evIt Φ n σ it M) (R := fun F ρ _ (J : LIt) ds => ItOk X.K F ρ J ds) (f := fun σ ds M => loopL (loopS G Φ n t body clr) ds (wipeG σ clr) M) q (fun σ M => by
    simp only [evB, evS]
    rfl) fun J ds B0 σ M1 F1 ρ1 H1 c0 jk o0 => ?_
  have c1 := c0.to
  have o1 := OutS.to c0.st o0
  generalize hB : B0.at F1 ρ1 = B at c1 o1
  have lo : ∀ {F ρ H}, Stp B.F B.ρ B.H F ρ H → (∀ a o, F1 a = some o → F a = some o) ∧ ρ1 <+: ρ := fun {F ρ H} st => by
    subst hB
    exact ⟨st.mono, st.pre⟩
  refine ⟨fun i m σR H => i ≤ ds.length ∧ m = ds.length - i ∧ ∃ F ρ σ M, Cfg X.K B F ρ σ M σR H ∧ OutS X.K X.mg W B (loopL (loopS G Φ n t body clr) (ds.drop i) σ M) De,
    ⟨ds.length, Nat.zero_le _, rfl, F1, ρ1, wipeG σ clr, M1, c1.less clr, o1⟩, ?_⟩
  rintro i m σR2 H2 ⟨hi2, rfl, F2, ρ2, σ2, M2, c2, o2⟩
  obtain ⟨m2, p2⟩ := lo c2.st
  by_cases hlt : i < ds.length
  · refine .inr ⟨jk.go F2 ρ2 M2 H2 i m2 p2 c2.sm hlt, fun σR H => i + 1 ≤ ds.length ∧ ∃ F ρ σ M, Cfg X.K B F ρ σ M σR H ∧ OutS X.K X.mg W B (loopL (loopS G Φ n t body clr) (ds.drop (i + 1)) σ M) De,
      fun σ' H' h => ⟨ds.length - (i + 1), by omega, h.1, rfl, h.2⟩, fun x H3 hy => ?_⟩
    obtain ⟨F3, st3, sm3, rx⟩ := jk.yld F2 ρ2 M2 H2 i _ x H3 m2 p2 c2.sm (List.getElem?_eq_getElem hlt) hy
    have c3 := c2.step st3 sm3
    rw [List.drop_eq_getElem_cons hlt] at o2
    cases ha : asgT t ds[i] σ2 with
    | none =>
      unfold loopL at o2
      unfold loopS at o2
      simp only [ha] at o2
      exact (show False from o2).elim
    | some σ4 =>
      exact ⟨F3, ρ2, σ2, M2, ds[i], sm3, c3.ss, rx, σ4, ha, fun σR4 hl hk ss4 => ⟨B, F3, ρ2, σ4, M2, c3.asg ha hk ss4, loop_turn ha o2 fun σ' M' σR' F' ρ' H' c' o' => ⟨hlt, F', ρ', σ', M', c', o'⟩⟩⟩
  · have hi3 : i = ds.length := by omega
    subst hi3
    rw [List.drop_length] at o2
    exact .inl ⟨jk.stop F2 ρ2 M2 H2 m2 p2 c2.sm, (show ∀ σR' F' ρ' H', Cfg X.K B F' ρ' σ2 M2 σR' H' → De.nx σR' H' from o2) σR2 F2 ρ2 H2 c2⟩
/-- a while loop -/
noncomputable def whlS (G : Genv) (Φ : Fn) (n : Nat) (c : E) (body : List S) (clr : List Nat) : Sg → MS → Rs (Option Fl) := fun σ M => match evE Φ n σ c M with
  | .ok d M => (match testO d with
    | some true => (evSs G Φ n body σ M).bind fun f M => .ok (some (f.clr clr)) M
    | some false => .ok none M
    | none => .bad)
  | .exc x M => .ok (some (.exc x σ)) M
  | .bad => .bad
theorem whl_ok {c : E} {body : List S} {clr : List Nat} {ce : Expr} {bs : List Stmt} {pos : Pos} (hp : PassesOwn (model X.prog X.w) X.A X.env X.xe) (hc : PT X ce (TTv X W (ev1 Φ n c))) (hb : PSs X bs (TS1 X W (evBs G Φ n body))) : PS X (.While ce bs [] pos) (TS1 X W (evB G Φ n (.whl c body clr))) := by
  refine ps_imp (ps_while hp hc hb) fun De σR H ⟨B, F, ρ, σ, M, c0, o0⟩ => ?_
  have o0 : OutS X.K X.mg W B (whileL (whlS G Φ n c body clr) (wipeG σ clr) M) De := by
    have o0 : OutS X.K X.mg W B (evS G Φ n (.whl c body clr) σ M) De := o0
    simp only [evS] at o0
    exact o0
  have nb : whileL (whlS G Φ n c body clr) (wipeG σ clr) M ≠ .bad := fun z => by rw [z] at o0; exact o0
  obtain ⟨k0, hk0⟩ := whileL_ok nb
  generalize whileL (whlS G Φ n c body clr) (wipeG σ clr) M = r at o0 hk0
  refine ⟨fun m σR H => ∃ F ρ σ M, Cfg X.K B F ρ σ M σR H ∧ whileN (whlS G Φ n c body clr) m σ M = some r, ⟨k0, F, ρ, _, M, c0.less clr, hk0⟩, ?_⟩
  rintro m σR1 H1 ⟨F1, ρ1, σ1, M1, c1, hk⟩
  cases m with
  | zero => cases hk
  | succ m =>
    refine ⟨F1, ρ1, σ1, M1, c1.sm, c1.ss, ?_⟩
    unfold whileN at hk
    show OutR X.K X.mg W F1 ρ1 H1 σR1 (RV X.K) (evE Φ n σ1 c M1) _
    cases hs : evE Φ n σ1 c M1 with
    | bad =>
      simp only [whlS, hs] at hk
      cases hk
      exact o0.elim
    | exc x M2 =>
      simp only [whlS, hs] at hk
      cases hk
      exact fun cls dx F' ρ' H' st sm xr => (show ∀ cls dx σR' F' ρ' H', Cfg X.K B F' ρ' σ1 M2 σR' H' → ExR X.K X.mg F' ρ' H' x cls dx → W cls dx σR' H' from o0) cls dx σR1 F' ρ' H' (c1.step st sm) xr
    | ok d M2 =>
      intro v F2 ρ2 H2 st2 sm2 r2
      have c2 := c1.step st2 sm2
      cases ht : testO d with
      | none =>
        simp only [whlS, hs, ht] at hk
        cases hk
        exact o0.elim
      | some b =>
        have ed := testO_ok ht
        subst ed
        cases r2
        refine ⟨b, rfl, ?_⟩
        cases b with
        | false =>
          simp only [whlS, hs, ht] at hk
          cases hk
          rw [if_neg (by decide)]
          exact (show ∀ σR' F' ρ' H', Cfg X.K B F' ρ' σ1 M2 σR' H' → De.nx σR' H' from o0) σR1 F2 ρ2 H2 c2
        | true =>
          rw [if_pos rfl]
          simp only [whlS, hs, ht] at hk
          refine ⟨fun σR H => ∃ F ρ σ M, Cfg X.K B F ρ σ M σR H ∧ whileN (whlS G Φ n c body clr) m σ M = some r, fun σ' H' h => ⟨m, Nat.lt_succ_self _, h⟩, B, F2, ρ2, σ1, M2, c2, ?_⟩
          show OutS X.K X.mg W B (evSs G Φ n body σ1 M2) _
          cases hb : evSs G Φ n body σ1 M2 with
          | bad => rw [hb] at hk; cases hk; exact o0
          | exc x M3 => rw [hb] at hk; cases hk; exact o0
          | ok f M3 =>
            rw [hb] at hk
            cases f with
            | nxt σ3 => exact fun σR' F' ρ' H' c' => ⟨F', ρ', _, M3, c'.less clr, hk⟩
            | cnt σ3 => exact fun σR' F' ρ' H' c' => ⟨F', ρ', _, M3, c'.less clr, hk⟩
            | brk σ3 =>
              cases hk
              exact fun σR' F' ρ' H' c' => (show ∀ σR' F' ρ' H', Cfg X.K B F' ρ' (wipeG σ3 clr) M3 σR' H' → De.nx σR' H' from o0) σR' F' ρ' H' (c'.less clr)
            | ret d => cases hk; exact o0
            | exc x σ3 => cases hk; exact o0
end
/-- what holds where a statement stands -/
structure GoodS (T : Tab) (Φ : Fn) (n : Nat) (N : List Str) (fx : Str → Bool) (sc : Scope) (G : Genv) (X : Cx) (W : WX) : Prop where
  good : Good T Φ n N fx sc X W
  genv : G = ⟨T.cls, T.excs⟩
  stk : X.stack = X.env :: X.outer
  frm : X.env.frame = some X.env.locals
  pass : PassesOwn (model X.prog X.w) X.A X.env X.xe
  kind : sc.kind = .function
section
variable {T : Tab} {Φ : Fn} {n : Nat} {N : List Str} {fx : Str → Bool} {sc : Scope} {X : Cx} {W : WX} {G : Genv}
theorem cls_mg (g : GoodS T Φ n N fx sc G X W) {x : Str} (h : (T.cls.any fun t => decide (t.2.1 = x)) = true) : ∃ c, X.mg x = some c := by
  obtain ⟨t, ht, e⟩ := List.any_eq_true.mp h
  have e := of_decide_eq_true e
  have : ∃ b, catches T.cls t.1 x = some b := by
    unfold catches
    cases q : T.cls.find? fun u => decide (u.1 = t.1 ∧ u.2.1 = x) with
    | some u => exact ⟨_, rfl⟩
    | none => exact absurd (decide_eq_true (⟨rfl, e⟩ : t.1 = t.1 ∧ t.2.1 = x)) (by simpa using List.find?_eq_none.mp q t ht)
  obtain ⟨b, hb⟩ := this
  obtain ⟨C, D, _, m, _⟩ := g.good.bse.cls _ _ _ hb
  exact ⟨D, m⟩
theorem tryc_ok (g : GoodS T Φ n N fx sc G X W) {body : List S} {bs : List Stmt} {h₀ : ExceptHandler} {hds : List ExceptHandler} {hs : List (Str × HA)} {pos : Pos} (h : chkH T N sc hs (h₀ :: hds) = true)
    (hb : ∀ (W' : WX) (pn : List (Addr × Obj)) (xe : Value → Shared → Prop), Takes (X.tr pn xe) W' → PassesOwn (model X.prog X.w) X.A X.env xe → PSs (X.tr pn xe) bs (TS1 X W' fun σ M => evSs G Φ n body σ M)) :
    PS X (.Try bs (h₀ :: hds) [] [] pos) (TS1 X W fun σ M => evS G Φ n (.tryc body hs) σ M) := by
  unfold chkH at h
  simp only [Bool.and_eq_true, Bool.or_eq_true, List.all_eq_true] at h
  obtain ⟨h1, h2⟩ := h
  rcases h2 with h2 | h2
  · unfold asH at h2
    split at h2
    · rename_i e1
      split at h2
      · rename_i c
        obtain ⟨rfl, c1, c2, c3, c4, c5⟩ := c
        cases e1
        exact tryAs_ok g.good g.genv g.stk g.frm c2 c1 c3 c4 (cls_mg g (h1 _ (List.mem_cons_self ..))) c5 hb
      · cases h2
    · cases h2
  · exact tryMany_ok g.good g.genv g.stk g.frm (fun h hh => cls_mg g (h1 h hh)) h2 hb
end
theorem comp_or {c : E} {e : Expr} (h : noComp e = true ∨ isComp c = true) : isComp c = true ∨ noComp e = true := h.symm
mutual
theorem sndS {T : Tab} {Φ : Fn} {n : Nat} {N : List Str} {fx : Str → Bool} {sc : Scope} {G : Genv} : ∀ (X : Cx) (W : WX) (_ : GoodS T Φ n N fx sc G X W) (c : S) (st : Stmt), chkS T N fx sc c st = true → PS X st (TS1 X W (evB G Φ n c))
  | X, W, g, .set t e, st, h => by
    unfold chkS at h
    split at h
    · simp only [Bool.and_eq_true] at h
      obtain ⟨⟨⟨h1, h2⟩, h3⟩, h4⟩ := h
      cases t with
      | nm i =>
        simp only [Bool.or_eq_true] at h4
        obtain ⟨x, p, rfl, hx, hl⟩ := nm_shape h2
        obtain ⟨l1, l2⟩ := locB_ok hl
        rcases h4 with h4 | h4
        · exact ps_imp (ps_set (by rw [g.good.hN]; exact g.good.nd) (by rw [g.good.hN]; exact hx) (by rw [g.good.hsc]; exact l1) (sndE fx sc X W g.good e _ h3).1 (sw_no h4 _ _ _) (by rw [g.good.hsc, g.good.hfx]; exact l2)) fun De σ H q => set_imp_nm q
        · exact setLc_ok g.good g.kind hx hl h4 h3 fun De σ H q => to_frA (set_imp_nm q)
      | tup ts =>
        simp only [Bool.and_eq_true] at h4
        exact ps_imp (ps_asg (sndE fx sc X W g.good e _ h3).1 (pg_ok g.good.hN g.good.nd g.good.hsc g.good.hfx g.good.calm (.tup ts) _ h2) (sole h4.1) (sws_no h4.2 _) (asg_one h1)) fun De σ H q => set_imp q
    · cases h
  | X, W, g, .own i e, st, h => by
    unfold chkS at h
    split at h
    · simp only [Bool.and_eq_true, Bool.or_eq_true] at h
      obtain ⟨⟨⟨h1, h2⟩, h3⟩, h4⟩ := h
      obtain ⟨x, p, rfl, hx, hl⟩ := nm_shape h1
      obtain ⟨l1, l2⟩ := locB_ok hl
      rcases h4 with h4 | h4
      · exact ps_imp (ps_set (by rw [g.good.hN]; exact g.good.nd) (by rw [g.good.hN]; exact hx) (by rw [g.good.hsc]; exact l1) ((sndE fx sc X W g.good e _ h3).2 h2) (sw_no h4 _ _ _) (by rw [g.good.hsc, g.good.hfx]; exact l2)) fun De σ H q => own_imp q
      · exact setLc_ok g.good g.kind hx hl h4 h3 fun De σ H q => own_imp q
    · cases h
  | X, W, g, .par is os es, st, h => by
    unfold chkS at h
    split at h
    · exact par_ok g.good g.kind h
    · cases h
  | X, W, g, .sto tg k v, st, h => by
    unfold chkS at h
    split at h
    · simp only [Bool.and_eq_true] at h
      obtain ⟨⟨⟨⟨⟨h1, h2⟩, h3⟩, h4⟩, h5⟩, h6⟩ := h
      exact sto_ok g.good h1 (sndE fx sc X W g.good k _ h2).1 (sndE fx sc X W g.good v _ h3).1 h4 h5 h6
    · cases h
  | X, W, g, .mth m tg e, st, h => by
    unfold chkS at h
    split at h
    · simp only [Bool.and_eq_true, decide_eq_true_eq] at h
      obtain ⟨⟨⟨⟨h1, h2⟩, h3⟩, h4⟩, h5⟩ := h
      exact mth_ok g.good h1 (sndE fx sc X W g.good e _ h2).1 h3 h4 h5
    · cases h
  | X, W, g, .popS t tg, st, h => by
    unfold chkS at h
    split at h
    · simp only [Bool.and_eq_true, decide_eq_true_eq] at h
      obtain ⟨⟨⟨⟨h1, h2⟩, h3⟩, h4⟩, rfl⟩ := h
      exact popS_ok g.good h1 h2 h3 h4
    · cases h
  | X, W, g, .aug i p e, st, h => by
    unfold chkS at h
    split at h
    · simp only [Bool.and_eq_true, decide_eq_true_eq] at h
      obtain ⟨⟨⟨h1, h2⟩, h3⟩, h4⟩ := h
      exact aug_ok g.good h1 h2 h3 (sndE fx sc X W g.good e _ h4).1
    · cases h
  | X, W, g, .ite c a b, st, h => by
    unfold chkS at h
    split at h
    · simp only [Bool.and_eq_true] at h
      exact ite_ok2 (sndT fx sc X W g.good c _ h.1.1) (sndSs X W g a _ h.1.2) (sndSs X W g b _ h.2)
    · cases h
  | X, W, g, .loop t it body clr, st, h => by
    unfold chkS at h
    split at h
    · simp only [Bool.and_eq_true] at h
      obtain ⟨⟨⟨h1, h2⟩, h3⟩, h4⟩ := h
      exact loop_ok g.pass g.good.calm (sndI fx sc X W g.good it _ _ h1) (pg_ok g.good.hN g.good.nd g.good.hsc g.good.hfx g.good.calm t _ h3) (sndSs X W g body _ h4) (noSet_fold h2 X.env)
    · cases h
  | X, W, g, .whl c body clr, st, h => by
    unfold chkS at h
    split at h
    · simp only [Bool.and_eq_true] at h
      exact whl_ok g.pass (sndT fx sc X W g.good c _ h.1) (sndSs X W g body _ h.2)
    · cases h
  | X, W, g, .ret e, st, h => by
    unfold chkS at h
    split at h
    · exact ret_ok (sndE fx sc X W g.good e _ h).1
    · cases h
  | X, W, g, .retn, st, h => by
    unfold chkS at h
    split at h
    · exact retn_ok
    · cases h
  | X, W, g, .expr e, st, h => by
    unfold chkS at h
    split at h
    · simp only [Bool.and_eq_true] at h
      exact expr_ok (sndE fx sc X W g.good e _ h.1).1 h.2
    · cases h
  | X, W, g, .raise c as, st, h => by
    unfold chkS at h
    split at h
    · simp only [Bool.and_eq_true, decide_eq_true_eq] at h
      obtain ⟨⟨⟨⟨rfl, h2⟩, h3⟩, h4⟩, h5⟩ := h
      exact raise_ok g.good g.genv h2 h3 h4 (sndEs fx sc X W g.good as _ h5).1 (sndEs fx sc X W g.good as _ h5).2.2
    · cases h
  | X, W, g, .tryc body hs, st, h => by
    unfold chkS at h
    split at h
    · rename_i bs h₀ hds pos
      simp only [Bool.and_eq_true] at h
      have hb : ∀ (W' : WX) (pn : List (Addr × Obj)) (xe : Value → Shared → Prop), Takes (X.tr pn xe) W' → PassesOwn (model X.prog X.w) X.A X.env xe → PSs (X.tr pn xe) bs (TS1 X W' fun σ M => evSs G Φ n body σ M) := fun W' pn xe tk ps =>
        sndSs (G := G) (X.tr pn xe) W' ⟨⟨g.good.hN, g.good.nd, g.good.hsc, g.good.hfx, g.good.calm, tk, ⟨g.good.bse.rm, g.good.bse.free, g.good.bse.consts, g.good.bse.funs, g.good.bse.excs, g.good.bse.cls⟩⟩, g.genv, g.stk, g.frm, ps, g.kind⟩ body bs h.1
      exact tryc_ok g h.2 hb
    · cases h
  | X, W, g, .nev, st, h => ps_to ps_never fun De σR H ⟨B, F, ρ, σ, M, cf, o⟩ => by
    have o : OutS X.K X.mg W B (evS G Φ n .nev σ M) De := o
    simp only [evS] at o
    exact o
  | X, W, g, .pass, st, h => by
    unfold chkS at h
    split at h
    · exact ps_imp ps_pass fun De σR H ⟨B, F, ρ, σ, M, c, o⟩ => by
        have o : OutS X.K X.mg W B (evS G Φ n .pass σ M) De := o
        simp only [evS] at o
        exact (show ∀ σR' F' ρ' H', Cfg X.K B F' ρ' σ M σR' H' → De.nx σR' H' from o) σR F ρ H c
    · cases h
  | X, W, g, .brk, st, h => by
    unfold chkS at h
    split at h
    · exact ps_imp ps_break fun De σR H ⟨B, F, ρ, σ, M, c, o⟩ => by
        have o : OutS X.K X.mg W B (evS G Φ n .brk σ M) De := o
        simp only [evS] at o
        exact (show ∀ σR' F' ρ' H', Cfg X.K B F' ρ' σ M σR' H' → De.bk σR' H' from o) σR F ρ H c
    · cases h
  | X, W, g, .cnt, st, h => by
    unfold chkS at h
    split at h
    · exact ps_imp ps_continue fun De σR H ⟨B, F, ρ, σ, M, c, o⟩ => by
        have o : OutS X.K X.mg W B (evS G Φ n .cnt σ M) De := o
        simp only [evS] at o
        exact (show ∀ σR' F' ρ' H', Cfg X.K B F' ρ' σ M σR' H' → De.ct σR' H' from o) σR F ρ H c
    · cases h
  | X, W, g, .frz is s, st, h => by
    refine ps_imp (sndS (G := G) X W g s st (by unfold chkS at h; exact h)) fun De σR H ⟨B, F, ρ, σ, M, c, o⟩ => ?_
    have o : OutS X.K X.mg W B (match frzG σ is with
      | some σ => evS G Φ n s σ M
      | none => .bad) De := by
      have o : OutS X.K X.mg W B (evS G Φ n (.frz is s) σ M) De := o
      simp only [evS] at o
      exact o
    cases hf : frzG σ is with
    | none => simp only [hf] at o; exact (show False from o).elim
    | some σ1 =>
      simp only [hf] at o
      obtain ⟨F', c'⟩ := c.frz hf
      exact ⟨B, F', ρ, σ1, M, c', o⟩
theorem sndSs {T : Tab} {Φ : Fn} {n : Nat} {N : List Str} {fx : Str → Bool} {sc : Scope} {G : Genv} : ∀ (X : Cx) (W : WX) (_ : GoodS T Φ n N fx sc G X W) (cs : List S) (sts : List Stmt), chkSs T N fx sc cs sts = true → PSs X sts (TS1 X W (evBs G Φ n cs))
  | X, W, g, [], [], _ => pss_imp pss_nil fun De σR H ⟨B, F, ρ, σ, M, c, o⟩ => by
    have o : OutS X.K X.mg W B (evSs G Φ n [] σ M) De := o
    simp only [evSs] at o
    exact (show ∀ σR' F' ρ' H', Cfg X.K B F' ρ' σ M σR' H' → De.nx σR' H' from o) σR F ρ H c
  | X, W, g, c :: cs, st :: sts, h => by
    unfold chkSs at h
    simp only [Bool.and_eq_true] at h
    exact seq_ok (sndS X W g c st h.1) (sndSs X W g cs sts h.2)
  | X, W, g, [], _ :: _, h => by unfold chkSs at h; cases h
  | X, W, g, _ :: _, [], h => by unfold chkSs at h; cases h
end
end Mi
set_option Elab.async false
set_option linter.all false
set_option maxRecDepth 100000
set_option maxHeartbeats 2000000
/-! Mi, part 19b: the __init__ of an exception class. -/
namespace Mi
open PySem PySem.Spec PyProof.Rows L2
section
variable {X : Cx} {e : Expr} {es : List Expr} {ta : TA} {p1 p2 pos : Pos}
/-- B.__init__(self, ..), B a class of the program that has ValueError's -/
theorem pe_reinit {pl : Sem Bool} {B : Str} {R : Addr} {mc : Value} (hg : Gl X B) (hm : X.mg B = some (.ref R)) (hdb : (B == ("__debug__" : Str)) = false) (r : ClX.CRead X.K R mc)
    (vV : PySem.W.findCls X.K (.ref R) mc "__init__" = some (.val (.builtin "ValueError.__init__"))) (ha : PA X (e :: es) ta) (he : starEach (e :: es) X.env = (false, eval e X.env) :: starEach es X.env) (hpl : (backTo pos (starEach es X.env)).any (·.1) = false)
    (hc : eval (.Call (.Attribute (.Name B p1) "__init__" p2) (e :: es) [] pos) X.env = (do
      let ov ← eval (.Name B p1) X.env
      standAt p2.atName
      let (f, first) ← holding [ov] (getMethod ov "__init__" pl)
      callWith pos f first (backTo pos (starEach (e :: es) X.env)) (backToKw pos (keywordEach [] X.env))) := by rfl) :
    PE X (.Call (.Attribute (.Name B p1) "__init__" p2) (e :: es) [] pos) (tVeI X.K ta) := by
  refine ⟨fun pins s σ H Q I h => ?_⟩
  refine PySem.W.methodCall_KW (ld_glob I hg hm ?_ hdb) hc
  refine PySem.W.method_cls I.kIn r.ga (PySem.W.cls_value I.kIn r.rd vV (by decide +kernel) ?_)
  show wpAny _ _ (callWith pos (Value.builtin "ValueError.__init__") [] (backTo pos (starEach (e :: es) X.env)) []) _ _ _
  refine PyProof.Rows.callWith_method1 (thn (ha.run pos pins _ σ H _ (I.tok _) h) fun us s1 ⟨vs, H1, I1, r1, a, C, ws, ev, hl, TC, ea, q⟩ => ?_) he hpl
  subst ev
  cases r1 with
  | @cons _ u0 _ ur ra rw' =>
    obtain rfl : u0 = Value.ref a := ra
    have hlen : ur.length ≤ sizeLine := by
      rw [← Paired.length rw', sizeLine_eq]
      omega
    exact oinit_ok TC I1 ea hlen fun s' J => ⟨.non, H1, J, rfl, q⟩
end
theorem call_form {o : Expr} {name : Str} {apos pos : Pos} {args : List Expr} {env : Env} (hbase : attributeBase o name env (eval o env) = eval o env) (hform : methodCallForm (args.length + ([] : List Keyword).length) (backTo pos (starEach args env)) (backToKw pos (keywordEach [] env)) = true)
    (hl : (apos.endLine == pos.line) = true) : eval (.Call (.Attribute o name apos) args [] pos) env = (do
      let ov ← eval o env
      standAt apos.atName
      let (f, first) ← holding [ov] (getMethod ov name (do return (← importBound o env).getD true))
      callWith pos f first (backTo pos (starEach args env)) (backToKw pos (keywordEach [] env))) := by
  have hpos : methodCallPos true o env apos pos = pure pos := by unfold methodCallPos; simp [hl]
  rw [arm_eval_Call, hbase]
  unfold methodCall
  rw [hform, hpos]
  rfl
/-- what an __init__ with one field promises -/
def spI (K : PySem.W.Frag) (C : Addr) (fs : List Str) : Sp := fun vs H Q _ => ∃ (a : Addr) (ws : List V), vs = .ref a :: ws ∧ ws.length = fs.length ∧ H a = some (exo a C none) ∧
  ∀ (d : Addr) (gs : List (Str × V)), H d = none → gs.map (·.1) = fs.reverse → gs.map (·.2) = ws.reverse → Q .non (upd (upd H d (exd d gs)) a (exo a C (some d)))
def iniB (B s w f : Str) (sc : Scope) : List Stmt → Bool
  | [.Expr (.Call (.Attribute (.Name b _) m ap) [.Name s' _, .Constant (.str _) _ _] [] cp) _, .Assign [.Attribute (.Name s2 _) f' _] (.Name w' _) _] =>
    decide (b = B) && decide (m = "__init__") && decide (s' = s) && decide (s2 = s) && decide (w' = w) && decide (f' = f) && glB sc B && okName B && visB sc s && okName s && visB sc w && okName w && (ap.endLine == cp.line)
  | _ => false
theorem init1_ok {P : Program} {w : World} {K : PySem.W.Frag} {mg : Str → Option Value} {base : Heap} {x qual : Str} {params : Arguments} {body : List Stmt} {sc : Scope} {fa : Addr} {fd : FuncData} {B sf wh fld : Str} {R C : Addr} {mc : Value}
    (FD : FunD K x qual params body sc [] [] fa fd) (S : FnScope [sf, wh] [sf, wh] sc) (hb : iniB B sf wh fld sc body = true) (mB : mg B = some (.ref R)) (r : ClX.CRead K R mc)
    (vV : PySem.W.findCls K (.ref R) mc "__init__" = some (.val (.builtin "ValueError.__init__"))) (TC : OexC K C) (hno : PySem.W.findIn K (.ref C) fld = some none) : FnOk P w K mg base (CX P w) 1 fa fd [sf, wh] (spI K C [fld]) := by
  refine FD.ok (k := 0) S (fun vs H Q E q => ?_) fun cdv A outer s H vs Q E hr q => ?_
  · obtain ⟨a, ws, rfl, hl, _⟩ := q
    simp only [List.length_cons, hl]
  · obtain ⟨a, ws, rfl, hl, ea, q⟩ := q
    obtain ⟨w0, rfl⟩ : ∃ w0, ws = [w0] := by
      match ws, hl with
      | [w0], _ => exact ⟨w0, rfl⟩
    unfold iniB at hb
    split at hb
    · simp only [Bool.and_eq_true, decide_eq_true_eq] at hb
      obtain ⟨⟨⟨⟨⟨⟨⟨⟨⟨⟨⟨⟨rfl, rfl⟩, rfl⟩, rfl⟩, rfl⟩, rfl⟩, h1⟩, h2⟩, h3⟩, h4⟩, h5⟩, h6⟩, h7⟩ := hb
      obtain ⟨b1, b2, _⟩ := okName_ok h2
      obtain ⟨s1, s2, _⟩ := okName_ok h4
      obtain ⟨w1, w2, _⟩ := okName_ok h6
      refine ⟨_, pss_cons (ps_expr (pe_reinit (glB_ok h1) mB b1 r vV (pa_cons (pe_var (i := 0) rfl (visB_ok h3) s1 s2) (pa_cons pe_str pa_nil rfl) rfl) rfl rfl (call_form rfl rfl h7)) rfl) (pss_cons (ps_ost (pe_var (i := 0) rfl (visB_ok h3) s1 s2) (pe_var (i := 1) rfl (visB_ok h5) w1 w2) rfl) pss_nil), ?_⟩
      refine ⟨.ref a, rfl, a, C, _, rfl, by simp, TC, ea, ?_⟩
      refine ⟨w0, rfl, .ref a, rfl, a, C, rfl, TC, hno, .inl ⟨ea, fun dx hdx hne => ?_⟩⟩
      exact q dx [(_, w0)] hdx rfl rfl
    · cases hb
end Mi
set_option Elab.async false
set_option linter.all false
set_option maxRecDepth 100000
set_option maxHeartbeats 2000000
/-! Mi, part 19c: what the head tells of exception classes; a Hook with one more Bool. -/
namespace Mi
open PySem PySem.Spec PyProof.Rows L2
/-- the class at C is over ValueError, with a dict -/
def oexIn (K : PySem.W.Frag) (C : Addr) : Bool := match K.lookup C with
  | some ⟨.type "type", _, .cls cd, sl⟩ => (match cd.mro, sl.toList with
    | .ref C' :: bm, [_, _, _, _, some (.builtin n), _] => C' == C && n == "ValueError.__new__" && !cd.hasDel && PySem.HandSPX.refsVE bm && cd.hasDict
    | _, _ => false)
  | _ => false
theorem oexIn_ok {K : PySem.W.Frag} {C : Addr} (q : oexIn K C = true) : ∃ nm q N bs bm sn sub ab col dd k0 k1 k2 k3 k5, K.lookup C = some (excClassObj nm q C N bs bm true sn sub ab col dd k0 k1 k2 k3 k5 "ValueError.__new__") ∧ PySem.HandSPX.refsVE bm = true := by
  unfold oexIn at q
  split at q
  · rename_i dd cd sl ho
    split at q
    · rename_i C' bm k0 k1 k2 k3 n k5 hm hs
      simp only [Bool.and_eq_true, beq_iff_eq, Bool.not_eq_true'] at q
      obtain ⟨⟨⟨⟨rfl, rfl⟩, hdel⟩, ht⟩, hd2⟩ := q
      obtain ⟨nm, bs, mro, ns, qn, hd, sn, sub, ab, col, del⟩ := cd
      dsimp only at hm hdel hd2
      subst hm hdel hd2
      have hsl : sl = #[k0, k1, k2, k3, some (.builtin "ValueError.__new__"), k5] := by
        obtain ⟨l⟩ := sl
        simp only at hs
        rw [hs]
      subst hsl
      exact ⟨nm, qn, ns, bs, bm, sn, sub, ab, col, dd, k0, k1, k2, k3, k5, ho, ht⟩
    · cases q
  · cases q
def eqV (a b : Option (Option Value)) : Bool := decide (a = b)
def oexB (K : PySem.W.Frag) (C : Addr) : Bool := oexIn K C && (He.eqO (PySem.W.findIn K (.ref C) "__setattr__") (some (some (.builtin "object.__setattr__"))) && (decide (PySem.W.subIn K (.ref C) (.type "BaseException") = some true) && (decide (PySem.W.typeIn K (.ref C) = some (.type "type")) && PySem.W.keepIn K (.ref C))))
theorem oexB_ok {K : PySem.W.Frag} {C : Addr} (h : oexB K C = true) : OexC K C := by
  unfold oexB at h
  simp only [Bool.and_eq_true, decide_eq_true_eq] at h
  exact ⟨oexIn_ok h.1, He.eqO_ok h.2.1, h.2.2.1, h.2.2.2.1, h.2.2.2.2⟩
/-- what is told of a class c with one field, its __init__ calling B's -/
structure XcD where
  c : Str
  B : Str
  fld : Str
  q : Str
def valIs (v : Option PySem.W.CFound) : Bool := match v with
  | some (.val (.builtin id)) => decide (id = "ValueError.__init__")
  | _ => false
theorem valIs_ok {v : Option PySem.W.CFound} (h : valIs v = true) : v = some (.val (.builtin "ValueError.__init__")) := by
  unfold valIs at h
  split at h
  · rw [of_decide_eq_true h]
  · cases h
def XcD.ok (K : PySem.W.Frag) (d : XcD) : Bool :=
  let C := He.ga K d.c
  let R := He.ga K d.B
  He.eqO (PySem.W.nsIn K mainGlobals d.c) (some (some (.ref C))) && (He.eqO (PySem.W.nsIn K mainGlobals d.B) (some (some (.ref R))) && (oexB K C && (L2.xfB K C && (He.eqO (PySem.W.findIn K (.ref C) d.fld) (some none) &&
    (PySem.W.readsIn K R (.type "type") && (He.eqO (PySem.W.specialIn K (.ref R) "__getattribute__") (some (some (.builtin "type.__getattribute__"))) && (valIs (PySem.W.findCls K (.ref R) (.type "type") "__init__") &&
    (He.eqO (PySem.W.findIn K (.ref C) "__init__") (some (some (.ref (He.fAd K (d.c, some "__init__"))))) && decide (PySem.W.typeIn K (.ref (He.fAd K (d.c, some "__init__"))) = some (.type "function"))))))))))
/-! ### constants of the module -/
mutual
def conV (K : PySem.W.Frag) : D → Value → Bool
  | .non, .none => true
  | .bl b, .bool c => b == c
  | .int i, .int j _ => decide (i = j)
  | .str x, .str y _ => decide (x = y)
  | .tup ds, .ref a => (match K.lookup a with
    | some ⟨.type c, _, .seq its _, _⟩ => decide (c = "tuple") && (decide (its.size ≤ sizeLine) && conVs K ds its.toList)
    | _ => false)
  | _, _ => false
def conVs (K : PySem.W.Frag) : List D → List Value → Bool
  | [], [] => true
  | d :: ds, v :: vs => conV K d v && conVs K ds vs
  | _, _ => false
end
mutual
theorem conV_ok {K : PySem.W.Frag} : ∀ (d : D) (u : Value), conV K d u = true → ∃ v, RelV v u ∧ Rep K (fun _ => none) [] v d
  | .non, u, h => by
    cases u <;> first
      | exact ⟨.non, rfl, .non⟩
      | (unfold conV at h; cases h)
  | .bl b, u, h => by
    cases u <;> first
      | (unfold conV at h; cases h; done)
      | skip
    rename_i c
    have h : (b == c) = true := by unfold conV at h; exact h
    rw [beq_iff_eq.mp h]
    exact ⟨.bl c, rfl, .bl c⟩
  | .int i, u, h => by
    cases u <;> first
      | (unfold conV at h; cases h; done)
      | skip
    rename_i c t
    have h : decide (i = c) = true := by unfold conV at h; exact h
    rw [of_decide_eq_true h]
    exact ⟨.int c, ⟨_, rfl⟩, .int c⟩
  | .str i, u, h => by
    cases u <;> first
      | (unfold conV at h; cases h; done)
      | skip
    rename_i c t
    have h : decide (i = c) = true := by unfold conV at h; exact h
    rw [of_decide_eq_true h]
    exact ⟨.str c, ⟨_, rfl⟩, .str c⟩
  | .tup ds, u, h => by
    cases u <;> first
      | (unfold conV at h; cases h; done)
      | skip
    rename_i a
    unfold conV at h
    split at h
    · rename_i c od its n sl q
      simp only [Bool.and_eq_true, decide_eq_true_eq] at h
      obtain ⟨rfl, h2, h3⟩ := h
      obtain ⟨vs, r1, r2⟩ := conVs_ok ds its.toList h3
      exact ⟨.ref a, rfl, .tup (.inr ⟨_, its, n, q, rfl, rfl, h2, r1⟩) r2⟩
    · cases h
  | .lst _, u, h => by unfold conV at h; cases u <;> cases h
  | .dct _, u, h => by unfold conV at h; cases u <;> cases h
  | .ref _, u, h => by unfold conV at h; cases u <;> cases h
theorem conVs_ok {K : PySem.W.Frag} : ∀ (ds : List D) (us : List Value), conVs K ds us = true → ∃ vs, Vals vs us ∧ Reps K (fun _ => none) [] vs ds
  | [], [], _ => ⟨[], .nil, .nil⟩
  | d :: ds, u :: us, h => by
    unfold conVs at h
    simp only [Bool.and_eq_true] at h
    obtain ⟨v, r1, r2⟩ := conV_ok d u h.1
    obtain ⟨vs, s1, s2⟩ := conVs_ok ds us h.2
    exact ⟨v :: vs, .cons r1 s1, .cons r2 s2⟩
  | [], _ :: _, h => by unfold conVs at h; cases h
  | _ :: _, [], h => by unfold conVs at h; cases h
end
/-- the module's constant x is d -/
def conOk (K : PySem.W.Frag) (p : Str × D) : Bool := match PySem.W.nsIn K mainGlobals p.1 with
  | some (some u) => conV K p.2 u
  | _ => false
theorem conOk_ok {K : PySem.W.Frag} {h : Heap} {mg : Str → Option Value} {p : Str × D} (X : K.In h) (G : h.Ns mainGlobals mg) (c : conOk K p = true) : ∃ u v, mg p.1 = some u ∧ RelV v u ∧ Rep K (fun _ => none) [] v p.2 := by
  unfold conOk at c
  split at c
  · rename_i u e
    obtain ⟨v, r1, r2⟩ := conV_ok _ _ c
    exact ⟨u, v, PySem.W.mg_of X G e, r1, r2⟩
  · cases c
/-! ### a Hook with one more Bool -/
def asE (g : Addr → Option Obj) (n : Nat) : List Addr := cStatics :: He.asD g n
def obsE (n : Nat) (fa : List He.Fa) (fn : List He.DefD) (ex : PySem.W.Frag → Bool) (g : Addr → Option Obj) : He.AlD × Bool := (He.obsD fa fn (He.frG g (asE g n)), ex (He.frG g (asE g n)))
def hookE (n : Nat) (fa : List He.Fa) (fn : List He.DefD) (ex : PySem.W.Frag → Bool) : PySem.W.Hook where
  α := He.AlD × Bool
  obs := fun s => obsE n fa fn ex s.heap.get?
  val := fun _ => (He.valD fn, true)
  says := fun _ h => ∃ K : PySem.W.Frag, K.In h ∧ He.SaysD fa fn K ∧ ex K = true
  of := fun w s e => ⟨He.frG s.heap.get? (asE s.heap.get? n), He.frG_in, congrArg (fun z : He.AlD × Bool => z.1) e, congrArg (fun z : He.AlD × Bool => z.2) e⟩
  keeps := fun _ _ _ ⟨K, hK, c⟩ k => ⟨K, PySem.W.Frag.In.keeps hK k, c⟩
theorem obsE_eq {n : Nat} {fa : List He.Fa} {fn : List He.DefD} {ex : PySem.W.Frag → Bool} {g : Addr → Option Obj} {s : Shared} (h : ∀ a, g a = s.heap.get? a) : obsE n fa fn ex g = (hookE n fa fn ex).obs s := by
  have e : g = s.heap.get? := funext h
  rw [e] <;> rfl
end Mi
set_option Elab.async false
set_option linter.all false
set_option maxRecDepth 100000
set_option maxHeartbeats 2000000
/-! Mi, part 20: the whole of a program. -/
namespace Mi
open PySem PySem.Spec PyProof.Rows L2
def topOf (b : List Stmt) (i : Nat) : Stmt := b.getD i (.Pass ⟨0, 0, 0, 0⟩)
/-- a def of the program: its name, its text, what it is here -/
structure Dd where
  x : Str
  st : Stmt
  df : Df
def Dd.ps (d : Dd) : List Str := d.df.N.take d.df.np
def Dd.defD (d : Dd) : He.DefD := ⟨(d.x, none), d.x, d.x, defArgs d.st, defBody d.st, defScope d.st, [], []⟩
def scopeB (N ps : List Str) (sc : Scope) : Bool := (match sc.kind with
    | .function => true
    | _ => false) && !sc.isCoroutine && !sc.isGenerator && decide N.Nodup && ps.all (fun x => match sc.names.lookup x with
    | some .local => true
    | some .cell => true
    | _ => false) && sc.names.all (fun y => match y.2 with
    | .free => false
    | _ => true)
theorem scopeB_ok {N ps : List Str} {sc : Scope} (h : scopeB N ps sc = true) (hp : N.take ps.length = ps) : FnScope N ps sc := by
  unfold scopeB at h
  simp only [Bool.and_eq_true, Bool.not_eq_true', decide_eq_true_eq, List.all_eq_true] at h
  obtain ⟨⟨⟨⟨⟨h1, h2⟩, h3⟩, h4⟩, h5⟩, h6⟩ := h
  refine ⟨?_, h2, h3, h4, hp, fun x hx => ?_, fun y hy e => ?_⟩
  · split at h1
    · assumption
    · cases h1
  · have q := h5 x hx
    split at q
    · exact .inl (by assumption)
    · exact .inr (by assumption)
    · cases q
  · have q := h6 y hy
    rw [e] at q
    cases q
def chkDef (T : Tab) (d : Dd) : Bool := chkSs T d.df.N (fun _ => true) (defScope d.st) d.df.body (defBody d.st) && scopeB d.df.N d.ps (defScope d.st) && decide (d.df.np ≤ d.df.N.length) && !d.df.drp && d.df.dfl.isEmpty
def BindP (d : Dd) : Prop := ∀ (kV doc pm : Value) (an : Option Addr) (cdv ct : Value) (us : List Value), us.length = d.ps.length →
  bindArgs (PySem.W.fnOf d.x d.x (defArgs d.st) (defBody d.st) (defScope d.st) .none kV doc pm an cdv ct) ⟨us, []⟩ = pure (d.ps.zip us)
section
variable {K : PySem.W.Frag} {F : Hp} {ρ : List Addr} {H : Hp}
theorem startG_val {N : List Str} {ds : List D} {i : Nat} {s : Sl} (h : (startG N ds)[i]? = some (some s)) : ∃ d, ds[i]? = some d ∧ s = .val d := by
  unfold startG at h
  by_cases hi : i < ds.length
  · rw [List.getElem?_append_left (by simpa using hi), List.getElem?_map, Option.map_eq_some_iff] at h
    obtain ⟨d, h1, h2⟩ := h
    cases h2
    exact ⟨d, h1, rfl⟩
  · rw [List.getElem?_append_right (by simpa using hi)] at h
    have := List.mem_of_getElem? h
    rw [List.mem_replicate] at this
    cases this.2
theorem simS_start {N : List Str} {vs : List V} {ds : List D} (r : Reps K F ρ vs ds) (hl : ds.length ≤ N.length) : SimS K F ρ (startG N ds) (L2.start N vs) H := by
  have len := r.length
  refine ⟨by unfold startG L2.start; simp; omega, fun i d e => ?_, fun i c e => ?_, fun i j c c' a e1 => ?_⟩
  · obtain ⟨d', h1, h2⟩ := startG_val e
    cases h2
    obtain ⟨v, hv, rv⟩ := r.get h1
    refine ⟨v, ?_, rv⟩
    unfold L2.start
    rw [List.getElem?_append_left (by simpa using (List.getElem?_eq_some_iff.mp hv).1), List.getElem?_map, hv]
    rfl
  · obtain ⟨d', h1, h2⟩ := startG_val e
    cases h2
  · obtain ⟨d', h1, h2⟩ := startG_val e1
    cases h2
end
section
variable {P : Program} {w : World} {K : PySem.W.Frag} {mg : Str → Option Value} {base : Heap} {T : Tab} {G : Genv} {dds : List Dd}
mutual
theorem sameD_eq : ∀ (a b : D), sameD a b = true → a = b
  | .non, b, h => by cases b <;> first | rfl | (unfold sameD at h; cases h)
  | .bl a, b, h => by
    cases b <;> first
      | (unfold sameD at h; cases h; done)
      | (unfold sameD at h; rw [beq_iff_eq.mp h])
  | .int a, b, h => by
    cases b <;> first
      | (unfold sameD at h; cases h; done)
      | (unfold sameD at h; rw [of_decide_eq_true h])
  | .str a, b, h => by
    cases b <;> first
      | (unfold sameD at h; cases h; done)
      | (unfold sameD at h; rw [of_decide_eq_true h])
  | .tup a, b, h => by
    cases b <;> first
      | (unfold sameD at h; cases h; done)
      | (unfold sameD at h; rw [sameDs_eq _ _ h])
  | .lst _, b, h => by unfold sameD at h; cases b <;> cases h
  | .dct _, b, h => by unfold sameD at h; cases b <;> cases h
  | .ref _, b, h => by unfold sameD at h; cases b <;> cases h
theorem sameDs_eq : ∀ (a b : List D), sameDs a b = true → a = b
  | [], [], _ => rfl
  | x :: xs, y :: ys, h => by
    unfold sameDs at h
    simp only [Bool.and_eq_true] at h
    rw [sameD_eq x y h.1, sameDs_eq xs ys h.2]
  | [], _ :: _, h => by unfold sameDs at h; cases h
  | _ :: _, [], h => by unfold sameDs at h; cases h
end
/-- an exception class c whose __init__ stores its one argument -/
def ExcT (K : PySem.W.Frag) (mg : Str → Option Value) (c : Str) (fs : List Str) : Prop := ∃ (C R fI : Addr) (fd : FuncData) (x qual : Str) (params : Arguments) (body : List Stmt) (sc : Scope) (B sf wh fld : Str) (mc : Value), fs = [fld] ∧ mg c = some (.ref C) ∧ mg B = some (.ref R) ∧ OexC K C ∧
  PySem.W.findIn K (.ref C) "__init__" = some (some (.ref fI)) ∧ PySem.W.typeIn K (.ref fI) = some (.type "function") ∧ FunD K x qual params body sc [] [] fI fd ∧ FnScope [sf, wh] [sf, wh] sc ∧ iniB B sf wh fld sc body = true ∧ ClX.CRead K R mc ∧
  PySem.W.findCls K (.ref R) mc "__init__" = some (.val (.builtin "ValueError.__init__")) ∧ Binds K fd [sf, wh] [] ∧ XfC K C ∧ PySem.W.findIn K (.ref C) fld = some none
/-- what the head must tell -/
structure Told (K : PySem.W.Frag) (mg : Str → Option Value) (T : Tab) (G : Genv) (dds : List Dd) : Prop where
  genv : G = ⟨T.cls, T.excs⟩
  excs : ∀ c fs, T.excs.lookup c = some fs → fs ≠ [] → ExcT K mg c fs
  cls : ∀ x c b, catches T.cls x c = some b → ∃ C D, mg x = some C ∧ mg c = some D ∧ PySem.W.exmOne K C D = some b
  funs : T.funs = dds.map fun d => (d.x, d.df.np, 0)
  chk : dds.all (chkDef T) = true
  bind : ∀ d ∈ dds, BindP d
  free : ∀ y, y ∈ blts → mg y = none
  consts : ∀ x d, conIn x d T.consts = true → ∃ u v, mg x = some u ∧ RelV v u ∧ Rep K (fun _ => none) [] v d
  defs : ∀ d ∈ dds, ∃ fa fd, mg d.x = some (.ref fa) ∧ FunD K d.x d.x (defArgs d.st) (defBody d.st) (defScope d.st) [] [] fa fd
theorem ExcT.exc {c : Str} {fs : List Str} (h : ExcT K mg c fs) {X : Cx} (e1 : X.K = K) (e2 : X.mg = mg) : ExcI X c fs := by
  subst e1 e2
  obtain ⟨C, R, fI, fd, x, qual, params, body, sc, B, sf, wh, fld, mc, rfl, m1, mB, TC, iC, tI, FD, S, ib, cr, vV, bi, xf, nof⟩ := h
  refine ⟨C, fI, fd, _, _, m1, TC, iC, tI, init1_ok FD S ib mB cr vV TC nof, bi, fun a vs H Q E hl ea q => ⟨a, vs, rfl, hl, ea, q⟩, xf, fun f hf => ?_⟩
  rw [List.mem_singleton.mp hf]
  exact nof
theorem prog_ok (t : Told K mg T G dds) : ∀ (n f : Nat) (d : Dd) (fa : Addr) (fd : FuncData), dds[f]? = some d → FunD K d.x d.x (defArgs d.st) (defBody d.st) (defScope d.st) [] [] fa fd →
    FnOk P w K mg base (CX P w) n fa fd d.ps (spF K mg (Phi G (dds.map (·.df)) n) f d.df.np)
  | 0, f, d, fa, fd, h, FD => by
    have hm := List.mem_of_getElem? h
    have c := List.all_eq_true.mp t.chk d hm
    unfold chkDef at c
    simp only [Bool.and_eq_true, decide_eq_true_eq] at c
    have lp : d.ps.length = d.df.np := by unfold Dd.ps; rw [List.length_take]; omega
    refine ⟨fun vs H Q E q => by rw [lp]; exact q.1, fun A outer s H args us vs Q E _ _ _ _ q => ?_⟩
    obtain ⟨_, F, ρ, M, ds, sm, r, o⟩ := q
    exact (show False from o).elim
  | n + 1, f, d, fa, fd, h, FD => by
    have hm := List.mem_of_getElem? h
    have c := List.all_eq_true.mp t.chk d hm
    unfold chkDef at c
    simp only [Bool.and_eq_true, decide_eq_true_eq, Bool.not_eq_true', List.isEmpty_iff] at c
    obtain ⟨⟨⟨⟨c1, c2⟩, c3⟩, c4⟩, c5⟩ := c
    have lp : d.ps.length = d.df.np := by unfold Dd.ps; rw [List.length_take]; omega
    have S : FnScope d.df.N d.ps (defScope d.st) := scopeB_ok c2 (by rw [lp]; rfl)
    refine FD.ok S (fun vs H Q E q => by rw [lp]; exact q.1) fun cdv A outer s H vs Q E hr q => ?_
    obtain ⟨hl, F, ρ, M, ds, sm, r, o⟩ := q
    have rl := r.length
    let Xc : Cx := cxOf (CX P w) P w K mg base d.df.N d.x (defScope d.st) fa cdv A outer s H E
    have bse : Bse T (Phi G (dds.map (·.df)) n) n Xc := by
      refine ⟨hr, t.free, t.consts, fun f' x np nd k hf h1 h2 => ?_, fun c fs hl hn => (t.excs c fs hl hn).exc rfl rfl, t.cls⟩
      rw [t.funs, List.getElem?_map, Option.map_eq_some_iff] at hf
      obtain ⟨d', hd, e⟩ := hf
      cases e
      obtain ⟨fa', fd', m1, FD'⟩ := t.defs d' (List.mem_of_getElem? hd)
      have ck : k = d'.df.np := by omega
      subst ck
      refine ⟨fa', fd', d'.ps, [], [], [], m1, FD'.kp, prog_ok t n f' d' fa' fd' hd FD', FD'.bindsN (t.bind d' (List.mem_of_getElem? hd)), .nil, .nil, by simp, fun es M he => by rw [List.append_nil]⟩
    have gs : GoodS T (Phi G (dds.map (·.df)) n) n d.df.N (fun _ => true) (defScope d.st) G Xc (fun cls dx _ H => E cls dx H) :=
      ⟨⟨rfl, S.nd, rfl, rfl, rfl, takes_of rfl rfl rfl rfl, bse⟩, t.genv, rfl, rfl, passes_of rfl, S.kind⟩
    refine ⟨_, sndSs (G := G) Xc _ gs d.df.body (defBody d.st) c1, ?_⟩
    refine ⟨⟨F, ρ, H⟩, F, ρ, startG d.df.N ds, M, ⟨sm, simS_start r (by omega), .refl, fun i ct a e1 => ?_⟩, ?_⟩
    · obtain ⟨d', h1, h2⟩ := startG_val e1
      cases h2
    · have e1 : (dds.map (·.df))[f]? = some d.df := by rw [List.getElem?_map, h]; rfl
      have e2 : Phi G (dds.map (·.df)) (n + 1) f ds M = (evSs G (Phi G (dds.map (·.df)) n) n d.df.body (startG d.df.N ds) M).nox.bind fun fl M' => match fl with
        | .nxt _ => leave d.df.drp M.length .non M'
        | .ret v => leave d.df.drp M.length v M'
        | .exc x _ => leaveX d.df.drp M.length x M'
        | _ => .bad := by
        have l1 : ds.length = d.df.np := by omega
        unfold Phi
        simp only [e1, c5, List.drop_nil, List.append_nil, if_pos l1] <;> rfl
      rw [e2, c4] at o
      show OutS K mg _ _ (evSs G (Phi G (dds.map (·.df)) n) n d.df.body (startG d.df.N ds) M) _
      cases e3 : evSs G (Phi G (dds.map (·.df)) n) n d.df.body (startG d.df.N ds) M with
      | ok fl M' =>
        rw [e3] at o
        cases fl with
        | nxt σ => exact fun σR' F' ρ' H' cf => (show OutR K mg (fun c d _ H => E c d H) F ρ H [] (RV K) (.ok .non M') Q from o) .non F' ρ' H' cf.st cf.sm .non
        | ret v => exact fun u F' ρ' H' st sm' rv => (show OutR K mg (fun c d _ H => E c d H) F ρ H [] (RV K) (.ok v M') Q from o) u F' ρ' H' st sm' rv
        | brk σ => exact (show False from o).elim
        | cnt σ => exact (show False from o).elim
        | exc x σ => exact fun cls dx σR' F' ρ' H' cf xr => (show OutR K mg (fun c d _ H => E c d H) F ρ H [] (RV K) (.exc x M') Q from o) cls dx F' ρ' H' cf.st cf.sm xr
      | exc x M' => rw [e3] at o; exact o
      | bad => rw [e3] at o; exact o
/-- nothing leaves -/
def CXn : CXT := fun _ _ _ _ _ _ => False
theorem noexc {k : Nat} {fa : Addr} {fd : FuncData} {ps : List Str} {sp : Sp} (h : FnOk P w K mg base (CX P w) k fa fd ps sp) : FnOk P w K mg base CXn k fa fd ps (fun vs H Q _ => sp vs H Q fun _ _ _ => False) := by
  refine ⟨fun vs H Q E q => h.len vs H Q _ q, fun A outer s H args us vs Q E a1 a2 a3 a4 q => codeAny_mono (h.run A outer s H args us vs Q _ a1 a2 a3 a4 q) fun r s' z => ?_⟩
  cases r with
  | ok fin => cases fin <;> exact z
  | error e =>
    obtain ⟨_, _, _, _, _, _, _, _, _, _, _, _, z⟩ := z
    exact z.elim
theorem reps_ints (F : Hp) (ρ : List Addr) : ∀ ns : List Int, Reps K F ρ (ns.map V.int) (ns.map D.int)
  | [] => .nil
  | n :: ns => .cons (.int n) (reps_ints F ρ ns)
theorem np_of (t : Told K mg T G dds) {f : Nat} {d : Dd} {x : Str} (hd : dds[f]? = some d) (hp : d.ps = [x]) : d.df.np = 1 := by
  have c := List.all_eq_true.mp t.chk d (List.mem_of_getElem? hd)
  unfold chkDef at c
  simp only [Bool.and_eq_true, decide_eq_true_eq] at c
  have lp : d.ps.length = d.df.np := by unfold Dd.ps; rw [List.length_take]; omega
  rw [← lp, hp]
  rfl
/-- the law's promise, from what the evaluator says -/
theorem law_sp (t : Told K mg T G dds) {k f : Nat} {d : Dd} {fa : Addr} {fd : FuncData} {x : Str} (hd : dds[f]? = some d) (FD : FunD K d.x d.x (defArgs d.st) (defBody d.st) (defScope d.st) [] [] fa fd) (hp : d.ps = [x]) {n : Nat}
    (math : ∀ ns : List Int, ns.length ≤ n → ∃ M, Phi G (dds.map (·.df)) k f [.lst (ns.map .int)] [] = .ok (.bl true) M) (H : Hp) (a : Addr) (ns : List Int) (hl : ns.length ≤ n) (hS : SqL K H a (ns.map V.int)) :
    spF K mg (Phi G (dds.map (·.df)) k) f d.df.np [.ref a] H (fun v _ => v = .bl true) fun _ _ _ => False := by
  have np1 := np_of t hd hp
  obtain ⟨M, e⟩ := math ns hl
  refine ⟨by rw [np1]; rfl, H, [], [], [.lst (ns.map .int)], ⟨fun _ _ e => e, rfl, List.nodup_nil, (fun a ha => nomatch ha), (fun j a mo e => by simp at e)⟩, .cons (.lst hS (reps_ints H [] ns)) .nil, ?_⟩
  rw [e]
  intro v F' ρ' H' st sm r
  cases r
  rfl
end
end Mi
set_option Elab.async false
set_option linter.all false
set_option maxRecDepth 100000
set_option maxHeartbeats 2000000
/-! Mi, part 21: from the head's Bools to what is told. -/
namespace Mi
open PySem PySem.Spec PyProof.Rows L2
def clsBody : Stmt → List Stmt
  | .ClassDef _ _ _ b _ _ _ _ _ _ _ => b
  | _ => []
/-- an exception class: its facts, its __init__, the parameters -/
structure Xd where
  d : XcD
  st : Stmt
  sf : Str
  wh : Str
def Xd.defD (x : Xd) : He.DefD := ⟨(x.d.c, some "__init__"), "__init__", x.d.q, defArgs x.st, defBody x.st, defScope x.st, [], []⟩
def Xd.chk (x : Xd) : Bool := scopeB [x.sf, x.wh] [x.sf, x.wh] (defScope x.st) && iniB x.d.B x.sf x.wh x.d.fld (defScope x.st) (defBody x.st)
def BindX (x : Xd) : Prop := ∀ (kV doc pm : Value) (an : Option Addr) (cdv ct : Value) (us : List Value), us.length = [x.sf, x.wh].length →
  bindArgs (PySem.W.fnOf "__init__" x.d.q (defArgs x.st) (defBody x.st) (defScope x.st) .none kV doc pm an cdv ct) ⟨us, []⟩ = pure ([x.sf, x.wh].zip us)
theorem xcd_ok {K : PySem.W.Frag} {h : Heap} {mg : Str → Option Value} {x : Xd} {fd : FuncData} (X : K.In h) (G : h.Ns mainGlobals mg) (c : x.d.ok K = true) (ck : x.chk = true) (bx : BindX x)
    (FD : FunD K "__init__" x.d.q (defArgs x.st) (defBody x.st) (defScope x.st) [] [] (He.fAd K (x.d.c, some "__init__")) fd) : ExcT K mg x.d.c [x.d.fld] := by
  unfold XcD.ok at c
  simp only [Bool.and_eq_true, decide_eq_true_eq] at c
  obtain ⟨c1, c2, c3, c4, c5, c6, c7, c8, c9, c10⟩ := c
  unfold Xd.chk at ck
  simp only [Bool.and_eq_true] at ck
  exact ⟨He.ga K x.d.c, He.ga K x.d.B, _, fd, _, _, _, _, _, x.d.B, x.sf, x.wh, x.d.fld, .type "type", rfl, PySem.W.mg_of X G (He.eqO_ok c1), PySem.W.mg_of X G (He.eqO_ok c2), oexB_ok c3, He.eqO_ok c9, c10, FD, scopeB_ok ck.1 rfl, ck.2, ⟨c6, He.eqO_ok c7⟩, valIs_ok c8, FD.bindsN bx, xfB_ok c4, He.eqO_ok c5⟩
/-- which exception is caught by which name -/
def xmOk (K : PySem.W.Frag) (t : Str × Str × Bool) : Bool := He.eqO (PySem.W.nsIn K mainGlobals t.1) (some (some (.ref (He.ga K t.1)))) && (He.eqO (PySem.W.nsIn K mainGlobals t.2.1) (some (some (.ref (He.ga K t.2.1)))) && decide (PySem.W.exmOne K (.ref (He.ga K t.1)) (.ref (He.ga K t.2.1)) = some t.2.2))
theorem xms_ok {K : PySem.W.Frag} {h : Heap} {mg : Str → Option Value} {l : Cls} (X : K.In h) (G : h.Ns mainGlobals mg) (c : l.all (xmOk K) = true) (x n : Str) (b : Bool) (hc : catches l x n = some b) : ∃ C D, mg x = some C ∧ mg n = some D ∧ PySem.W.exmOne K C D = some b := by
  unfold catches at hc
  obtain ⟨t, ht, rfl⟩ := Option.map_eq_some_iff.mp hc
  have hm := List.mem_of_find?_eq_some ht
  have hp := List.find?_some ht
  simp only [decide_eq_true_eq] at hp
  obtain ⟨rfl, rfl⟩ := hp
  have k := List.all_eq_true.mp c t hm
  unfold xmOk at k
  simp only [Bool.and_eq_true, decide_eq_true_eq] at k
  exact ⟨_, _, PySem.W.mg_of X G (He.eqO_ok k.1), PySem.W.mg_of X G (He.eqO_ok k.2.1), k.2.2⟩
theorem cons_ok {K : PySem.W.Frag} {h : Heap} {mg : Str → Option Value} {l : List (Str × D)} (X : K.In h) (G : h.Ns mainGlobals mg) (c : l.all (conOk K) = true) (x : Str) (d : D) (hx : conIn x d l = true) : ∃ u v, mg x = some u ∧ RelV v u ∧ Rep K (fun _ => none) [] v d := by
  unfold conIn at hx
  obtain ⟨p, hp, e⟩ := List.any_eq_true.mp hx
  simp only [Bool.and_eq_true, decide_eq_true_eq] at e
  have k := conOk_ok X G (List.all_eq_true.mp c p hp)
  rw [e.1, sameD_eq _ _ e.2] at k
  exact k
/-- the Bool of the head -/
def exB (xds : List Xd) (cls : Cls) (cons : List (Str × D)) (K : PySem.W.Frag) : Bool := xds.all (fun x => x.d.ok K) && (cls.all (xmOk K) && cons.all (conOk K))
end Mi
set_option Elab.async false
set_option linter.all false
set_option maxRecDepth 100000
/-! Mi, part 23: head-first evaluation by simp: what comes behind is kept closed until its value is there. -/
namespace Mi
open PySem
theorem bind_ext {α β : Type} {r : Rs α} {f g : α → MS → Rs β} (h : ∀ a M, f a M = g a M) : r.bind f = r.bind g := by
  cases r <;> simp [h]
@[simp] theorem st_ok {α : Type} (σ : Sg) (a : α) (M : MS) (f : α → MS → Rs Fl) : Rs.st σ (.ok a M) f = f a M := rfl
@[simp] theorem st_exc {α : Type} (σ : Sg) (x : Ex) (M : MS) (f : α → MS → Rs Fl) : Rs.st σ (.exc x M : Rs α) f = .ok (.exc x σ) M := rfl
@[simp] theorem ite_bind {α β : Type} (p : Prop) [Decidable p] (x y : Rs α) (f : α → MS → Rs β) : (if p then x else y).bind f = if p then x.bind f else y.bind f := by split <;> rfl
@[simp] theorem ite_st {α : Type} (σ : Sg) (p : Prop) [Decidable p] (x y : Rs α) (f : α → MS → Rs Fl) : Rs.st σ (if p then x else y) f = if p then Rs.st σ x f else Rs.st σ y f := by split <;> rfl
theorem st_ext {α : Type} {σ : Sg} {r : Rs α} {f g : α → MS → Rs Fl} (h : ∀ a M, f a M = g a M) : r.st σ f = r.st σ g := by
  cases r <;> simp [h, Rs.st]
/-- by a truth value -/
def tb {α : Type} (d : D) (x y : Rs α) : Rs α := match testO d with
  | some true => x
  | some false => y
  | none => .bad
/-- what stands in a slot -/
def vO (o : Option (Option Sl)) (M : MS) : Rs D := match o with
  | some (some (.val d)) => .ok d M
  | _ => .bad
@[simp] theorem vO_val (d : D) (M : MS) : vO (some (some (.val d))) M = .ok d M := rfl
def bO (o : Option (Option Sl)) (M : MS) : Rs D := match o with
  | some (some (.own c)) => .ok c.d M
  | _ => .bad
@[simp] theorem bO_own (c : Ct) (M : MS) : bO (some (some (.own c))) M = .ok c.d M := rfl
@[simp] theorem Ct.d_lst (xs : List D) : (Ct.lst xs).d = .lst xs := rfl
@[simp] theorem Ct.d_dct (xs : List (Key × D)) : (Ct.dct xs).d = .dct xs := rfl
/-! ### expressions -/
section
variable {G : Genv} {Φ : Fn} {n : Nat} {σ : Sg} {M : MS}
@[simp] theorem sE_con (d : D) : evE Φ n σ (.con d) M = .ok d M := rfl
@[simp] theorem sE_glb (x : Str) (d : D) : evE Φ n σ (.glb x d) M = .ok d M := rfl
@[simp] theorem sE_var (i : Nat) : evE Φ n σ (.var i) M = vO σ[i]? M := rfl
@[simp] theorem sE_bor (i : Nat) : evE Φ n σ (.bor i) M = bO σ[i]? M := rfl
def tupK (ds : List D) (M : MS) : Rs D := .ok (.tup ds) M
@[simp] theorem tupK_eq (ds : List D) : tupK ds M = .ok (.tup ds) M := rfl
@[simp] theorem sE_tup (es : List E) : evE Φ n σ (.tup es) M = (evEs Φ n σ es M).bind tupK := rfl
def lstK (ds : List D) (M : MS) : Rs D := .ok (.lst ds) M
@[simp] theorem lstK_eq (ds : List D) : lstK ds M = .ok (.lst ds) M := rfl
@[simp] theorem sE_lst (es : List E) : evE Φ n σ (.lst es) M = (evEs Φ n σ es M).bind lstK := rfl
def dctK (ds : List D) (M : MS) : Rs D := .of (dctO ds) M
@[simp] theorem dctK_eq (ds : List D) : dctK ds M = .of (dctO ds) M := rfl
@[simp] theorem sE_dct (es : List E) : evE Φ n σ (.dct es) M = (evEs Φ n σ es M).bind dctK := rfl
def p1K (n : Nat) (p : P) (x : D) (M : MS) : Rs D := .of (pr n p [deref M x]) M
@[simp] theorem p1K_eq (p : P) (x : D) : p1K n p x M = .of (pr n p [deref M x]) M := rfl
@[simp] theorem sE_prim1 (p : P) (a : E) : evE Φ n σ (.prim p [a]) M = (evE Φ n σ a M).bind (p1K n p) := by
  show ((evE Φ n σ a M).bind fun d M => (Rs.ok [] M).bind fun ds M => .ok (d :: ds) M).bind _ = _
  cases evE Φ n σ a M <;> rfl
def p2L (n : Nat) (p : P) (x y : D) (M : MS) : Rs D := .of (pr n p [deref M x, deref M y]) M
@[simp] theorem p2L_eq (p : P) (x y : D) : p2L n p x y M = .of (pr n p [deref M x, deref M y]) M := rfl
def p2K (Φ : Fn) (n : Nat) (σ : Sg) (p : P) (b : E) (x : D) (M : MS) : Rs D := (evE Φ n σ b M).bind (p2L n p x)
@[simp] theorem p2K_eq (p : P) (b : E) (x : D) : p2K Φ n σ p b x M = (evE Φ n σ b M).bind (p2L n p x) := rfl
@[simp] theorem sE_prim2 (p : P) (a b : E) : evE Φ n σ (.prim p [a, b]) M = (evE Φ n σ a M).bind (p2K Φ n σ p b) := by
  show ((evE Φ n σ a M).bind fun d M => ((evE Φ n σ b M).bind fun e M => (Rs.ok [] M).bind fun ds M => .ok (e :: ds) M).bind fun ds M => .ok (d :: ds) M).bind _ = _
  cases evE Φ n σ a M with
  | ok d M1 =>
    simp only [Rs.bind_ok, p2K]
    cases evE Φ n σ b M1 <;> rfl
  | exc x M1 => rfl
  | bad => rfl
@[simp] theorem sE_call (f : Nat) (as : List E) : evE Φ n σ (.call f as) M = (evEs Φ n σ as M).bind (Φ f) := rfl
def notK (d : D) (M : MS) : Rs D := match testO d with
  | some b => .ok (.bl (!b)) M
  | none => .bad
@[simp] theorem notK_bl (b : Bool) : notK (.bl b) M = .ok (.bl (!b)) M := rfl
@[simp] theorem sE_not (a : E) : evE Φ n σ (.not a) M = (evE Φ n σ a M).bind notK := rfl
def ifxK (Φ : Fn) (n : Nat) (σ : Sg) (a b : E) (d : D) (M : MS) : Rs D := match testO d with
  | some true => evE Φ n σ a M
  | some false => evE Φ n σ b M
  | none => .bad
@[simp] theorem ifxK_t (a b : E) : ifxK Φ n σ a b (.bl true) M = evE Φ n σ a M := rfl
@[simp] theorem ifxK_f (a b : E) : ifxK Φ n σ a b (.bl false) M = evE Φ n σ b M := rfl
theorem ifxK_bl (a b : E) (c : Bool) : ifxK Φ n σ a b (.bl c) M = if c = true then evE Φ n σ a M else evE Φ n σ b M := by cases c <;> rfl
@[simp] theorem ifxK_dec (a b : E) (p : Prop) [Decidable p] : ifxK Φ n σ a b (.bl (decide p)) M = if p then evE Φ n σ a M else evE Φ n σ b M := by by_cases h : p <;> simp [h]
@[simp] theorem ifxK_not (a b : E) (c : Bool) : ifxK Φ n σ a b (.bl (!c)) M = ifxK Φ n σ b a (.bl c) M := by cases c <;> rfl
@[simp] theorem sE_ifx (c a b : E) : evE Φ n σ (.ifx c a b) M = (evE Φ n σ c M).bind (ifxK Φ n σ a b) := rfl
def and1K (d : D) (M : MS) : Rs D := match testO d with
  | some b => .ok (.bl b) M
  | none => .bad
@[simp] theorem and1K_bl (b : Bool) : and1K (.bl b) M = .ok (.bl b) M := rfl
@[simp] theorem sE_and1 (c : E) : evE Φ n σ (.and [c]) M = (evE Φ n σ c M).bind and1K := by
  show (evE Φ n σ c M).bind _ = _
  exact bind_ext fun d M => by
    unfold and1K
    cases testO d with
    | none => rfl
    | some b => cases b <;> rfl
def andK (Φ : Fn) (n : Nat) (σ : Sg) (cs : List E) (d : D) (M : MS) : Rs D := match testO d with
  | some true => evE Φ n σ (.and cs) M
  | some false => .ok (.bl false) M
  | none => .bad
@[simp] theorem andK_t (cs : List E) : andK Φ n σ cs (.bl true) M = evE Φ n σ (.and cs) M := rfl
@[simp] theorem andK_f (cs : List E) : andK Φ n σ cs (.bl false) M = .ok (.bl false) M := rfl
theorem andK_bl (cs : List E) (c : Bool) : andK Φ n σ cs (.bl c) M = if c = true then evE Φ n σ (.and cs) M else .ok (.bl false) M := by cases c <;> rfl
@[simp] theorem andK_dec (cs : List E) (p : Prop) [Decidable p] : andK Φ n σ cs (.bl (decide p)) M = if p then evE Φ n σ (.and cs) M else .ok (.bl false) M := by by_cases h : p <;> simp [h]
@[simp] theorem andK_not (cs : List E) (p : Prop) [Decidable p] : andK Φ n σ cs (.bl (!decide p)) M = if p then .ok (.bl false) M else evE Φ n σ (.and cs) M := by by_cases h : p <;> simp [h]
@[simp] theorem sE_and (c d : E) (cs : List E) : evE Φ n σ (.and (c :: d :: cs)) M = (evE Φ n σ c M).bind (andK Φ n σ (d :: cs)) := rfl
def orK (Φ : Fn) (n : Nat) (σ : Sg) (cs : List E) (d : D) (M : MS) : Rs D := match testO d with
  | some true => .ok (.bl true) M
  | some false => evE Φ n σ (.or cs) M
  | none => .bad
@[simp] theorem orK_t (cs : List E) : orK Φ n σ cs (.bl true) M = .ok (.bl true) M := rfl
@[simp] theorem orK_f (cs : List E) : orK Φ n σ cs (.bl false) M = evE Φ n σ (.or cs) M := rfl
theorem orK_bl (cs : List E) (c : Bool) : orK Φ n σ cs (.bl c) M = if c = true then .ok (.bl true) M else evE Φ n σ (.or cs) M := by cases c <;> rfl
@[simp] theorem orK_dec (cs : List E) (p : Prop) [Decidable p] : orK Φ n σ cs (.bl (decide p)) M = if p then .ok (.bl true) M else evE Φ n σ (.or cs) M := by by_cases h : p <;> simp [h]
@[simp] theorem orK_not (cs : List E) (p : Prop) [Decidable p] : orK Φ n σ cs (.bl (!decide p)) M = if p then evE Φ n σ (.or cs) M else .ok (.bl true) M := by by_cases h : p <;> simp [h]
@[simp] theorem sE_or1 (c : E) : evE Φ n σ (.or [c]) M = (evE Φ n σ c M).bind and1K := by
  show (evE Φ n σ c M).bind _ = _
  exact bind_ext fun d M => by
    unfold and1K
    cases testO d with
    | none => rfl
    | some b => cases b <;> rfl
@[simp] theorem sE_or (c d : E) (cs : List E) : evE Φ n σ (.or (c :: d :: cs)) M = (evE Φ n σ c M).bind (orK Φ n σ (d :: cs)) := by
  show (evE Φ n σ c M).bind _ = _
  exact bind_ext fun d M => by
    unfold orK
    cases testO d with
    | none => rfl
    | some b => cases b <;> rfl
def chO (n : Nat) (q : P) (y z : D) (M : MS) : Rs D := .of (pr n q [y, z]) M
@[simp] theorem chO_eq (q : P) (y z : D) : chO n q y z M = .of (pr n q [y, z]) M := rfl
def chN (Φ : Fn) (n : Nat) (σ : Sg) (q : P) (c : E) (y : D) (o : Option Bool) (M : MS) : Rs D := match o with
  | some true => (evE Φ n σ c M).bind (chO n q y)
  | some false => .ok (.bl false) M
  | none => .bad
@[simp] theorem chN_t (q : P) (c : E) (y : D) : chN Φ n σ q c y (some true) M = (evE Φ n σ c M).bind (chO n q y) := rfl
@[simp] theorem chN_f (q : P) (c : E) (y : D) : chN Φ n σ q c y (some false) M = .ok (.bl false) M := rfl
@[simp] theorem chN_dec (q : P) (c : E) (y : D) (p : Prop) [Decidable p] : chN Φ n σ q c y (some (decide p)) M = if p then (evE Φ n σ c M).bind (chO n q y) else .ok (.bl false) M := by by_cases h : p <;> simp [h]
@[simp] theorem testO_bl (b : Bool) : testO (.bl b) = some b := rfl
def chL (Φ : Fn) (n : Nat) (σ : Sg) (p q : P) (c : E) (x y : D) (M : MS) : Rs D := chN Φ n σ q c y ((pr n p [x, y]).bind testO) M
@[simp] theorem chL_eq (p q : P) (c : E) (x y : D) : chL Φ n σ p q c x y M = chN Φ n σ q c y ((pr n p [x, y]).bind testO) M := rfl
def chK (Φ : Fn) (n : Nat) (σ : Sg) (p q : P) (b c : E) (x : D) (M : MS) : Rs D := (evE Φ n σ b M).bind (chL Φ n σ p q c x)
@[simp] theorem chK_eq (p q : P) (b c : E) (x : D) : chK Φ n σ p q b c x M = (evE Φ n σ b M).bind (chL Φ n σ p q c x) := rfl
@[simp] theorem sE_chain (p q : P) (a b c : E) : evE Φ n σ (.chain p q a b c) M = (evE Φ n σ a M).bind (chK Φ n σ p q b c) := by
  show (evE Φ n σ a M).bind _ = _
  exact bind_ext fun x M => bind_ext fun y M => by
    unfold chL chN
    rfl
def ptK (d : D) (M : MS) : Rs (Option Int) := match d with
  | .int i => .ok (some i) M
  | _ => .bad
@[simp] theorem ptK_int (i : Int) : ptK (.int i) M = .ok (some i) M := rfl
@[simp] theorem evPart_nil : evPart Φ n σ [] M = .ok none M := rfl
@[simp] theorem evPart_cons (e : E) (es : List E) : evPart Φ n σ (e :: es) M = (evE Φ n σ e M).bind ptK := by
  show (evE Φ n σ e M).bind _ = _
  exact bind_ext fun d M => by cases d <;> rfl
def slM (d : D) (l h : Option Int) (M : MS) : Rs D := .of (cutO (deref M d) l h) M
@[simp] theorem slM_eq (d : D) (l h : Option Int) : slM d l h M = .of (cutO (deref M d) l h) M := rfl
def slL (Φ : Fn) (n : Nat) (σ : Sg) (hi : List E) (d : D) (l : Option Int) (M : MS) : Rs D := (evPart Φ n σ hi M).bind (slM d l)
@[simp] theorem slL_eq (hi : List E) (d : D) (l : Option Int) : slL Φ n σ hi d l M = (evPart Φ n σ hi M).bind (slM d l) := rfl
def slK (Φ : Fn) (n : Nat) (σ : Sg) (lo hi : List E) (d : D) (M : MS) : Rs D := (evPart Φ n σ lo M).bind (slL Φ n σ hi d)
@[simp] theorem slK_eq (lo hi : List E) (d : D) : slK Φ n σ lo hi d M = (evPart Φ n σ lo M).bind (slL Φ n σ hi d) := rfl
@[simp] theorem sE_slc (a : E) (lo hi : List E) : evE Φ n σ (.slc a lo hi) M = (evE Φ n σ a M).bind (slK Φ n σ lo hi) := rfl
def g1L (kvs : List (Key × D)) (k : D) (M : MS) : Rs D := .of ((keyO k).map fun k => (getD kvs k).getD .non) M
@[simp] theorem g1L_eq (kvs : List (Key × D)) (k : D) : g1L kvs k M = .of ((keyO k).map fun k => (getD kvs k).getD .non) M := rfl
def g1K (Φ : Fn) (n : Nat) (σ : Sg) (k : E) (d : D) (M : MS) : Rs D := match d with
  | .dct kvs => (evE Φ n σ k M).bind (g1L kvs)
  | _ => .bad
@[simp] theorem g1K_dct (k : E) (kvs : List (Key × D)) : g1K Φ n σ k (.dct kvs) M = (evE Φ n σ k M).bind (g1L kvs) := rfl
@[simp] theorem sE_get1 (o k : E) : evE Φ n σ (.get1 o k) M = (evE Φ n σ o M).bind (g1K Φ n σ k) := by
  show (evE Φ n σ o M).bind _ = _
  exact bind_ext fun d M => by cases d <;> rfl
def g2M (kvs : List (Key × D)) (k z : D) (M : MS) : Rs D := .of ((keyO k).map fun k => (getD kvs k).getD z) M
@[simp] theorem g2M_eq (kvs : List (Key × D)) (k z : D) : g2M kvs k z M = .of ((keyO k).map fun k => (getD kvs k).getD z) M := rfl
def g2L (Φ : Fn) (n : Nat) (σ : Sg) (x : E) (kvs : List (Key × D)) (k : D) (M : MS) : Rs D := (evE Φ n σ x M).bind (g2M kvs k)
@[simp] theorem g2L_eq (x : E) (kvs : List (Key × D)) (k : D) : g2L Φ n σ x kvs k M = (evE Φ n σ x M).bind (g2M kvs k) := rfl
def g2K (Φ : Fn) (n : Nat) (σ : Sg) (k x : E) (d : D) (M : MS) : Rs D := match d with
  | .dct kvs => (evE Φ n σ k M).bind (g2L Φ n σ x kvs)
  | _ => .bad
@[simp] theorem g2K_dct (k x : E) (kvs : List (Key × D)) : g2K Φ n σ k x (.dct kvs) M = (evE Φ n σ k M).bind (g2L Φ n σ x kvs) := rfl
@[simp] theorem sE_get2 (o k x : E) : evE Φ n σ (.get2 o k x) M = (evE Φ n σ o M).bind (g2K Φ n σ k x) := by
  show (evE Φ n σ o M).bind _ = _
  exact bind_ext fun d M => by cases d <;> rfl
def nwK (d : D) (M : MS) : Rs D := match ownO d with
  | some c => .ok (.ref M.length) (M ++ [.cell c])
  | none => .bad
@[simp] theorem nwK_lst (xs : List D) : nwK (.lst xs) M = .ok (.ref M.length) (M ++ [.cell (.lst xs)]) := rfl
@[simp] theorem nwK_dct (xs : List (Key × D)) : nwK (.dct xs) M = .ok (.ref M.length) (M ++ [.cell (.dct xs)]) := rfl
@[simp] theorem sE_new (e : E) : evE Φ n σ (.new e) M = (evE Φ n σ e M).bind nwK := rfl
@[simp] theorem evEs_nil : evEs Φ n σ [] M = .ok [] M := rfl
def esL (d : D) (ds : List D) (M : MS) : Rs (List D) := .ok (d :: ds) M
@[simp] theorem esL_eq (d : D) (ds : List D) : esL d ds M = .ok (d :: ds) M := rfl
def esK (Φ : Fn) (n : Nat) (σ : Sg) (es : List E) (d : D) (M : MS) : Rs (List D) := (evEs Φ n σ es M).bind (esL d)
@[simp] theorem esK_eq (es : List E) (d : D) : esK Φ n σ es d M = (evEs Φ n σ es M).bind (esL d) := rfl
@[simp] theorem evEs_cons (e : E) (es : List E) : evEs Φ n σ (e :: es) M = (evE Φ n σ e M).bind (esK Φ n σ es) := rfl
@[simp] theorem evTs_nil : evTs Φ n σ [] M = .ok true M := rfl
def tsK (Φ : Fn) (n : Nat) (σ : Sg) (es : List E) (d : D) (M : MS) : Rs Bool := match testO d with
  | some true => evTs Φ n σ es M
  | some false => .ok false M
  | none => .bad
@[simp] theorem tsK_t (es : List E) : tsK Φ n σ es (.bl true) M = evTs Φ n σ es M := rfl
@[simp] theorem tsK_f (es : List E) : tsK Φ n σ es (.bl false) M = .ok false M := rfl
@[simp] theorem tsK_dec (es : List E) (p : Prop) [Decidable p] : tsK Φ n σ es (.bl (decide p)) M = if p then evTs Φ n σ es M else .ok false M := by by_cases h : p <;> simp [h]
@[simp] theorem tsK_not (es : List E) (p : Prop) [Decidable p] : tsK Φ n σ es (.bl (!decide p)) M = if p then .ok false M else evTs Φ n σ es M := by by_cases h : p <;> simp [h]
theorem tsK_bl (es : List E) (c : Bool) : tsK Φ n σ es (.bl c) M = if c = true then evTs Φ n σ es M else .ok false M := by cases c <;> rfl
@[simp] theorem evTs_cons (e : E) (es : List E) : evTs Φ n σ (e :: es) M = (evE Φ n σ e M).bind (tsK Φ n σ es) := rfl
/-- a turn of a comprehension -/
def ctL (y : D) (M : MS) : Rs (Option D) := .ok (some y) M
@[simp] theorem ctL_eq (y : D) : ctL y M = .ok (some y) M := rfl
def ctK (Φ : Fn) (n : Nat) (σ : Sg) (elt : E) (b : Bool) (M : MS) : Rs (Option D) := match b with
  | true => (evE Φ n σ elt M).bind ctL
  | false => .ok none M
@[simp] theorem ctK_t (elt : E) : ctK Φ n σ elt true M = (evE Φ n σ elt M).bind ctL := rfl
@[simp] theorem ctK_f (elt : E) : ctK Φ n σ elt false M = .ok none M := rfl
def csA (Φ : Fn) (n : Nat) (cs : List E) (elt : E) (o : Option Sg) (M : MS) : Rs (Option D) := match o with
  | some σ1 => (evTs Φ n σ1 cs M).bind (ctK Φ n σ1 elt)
  | none => .bad
@[simp] theorem csA_some (cs : List E) (elt : E) (σ1 : Sg) : csA Φ n cs elt (some σ1) M = (evTs Φ n σ1 cs M).bind (ctK Φ n σ1 elt) := rfl
def cstep (Φ : Fn) (n : Nat) (σ : Sg) (own : List Nat) (t : T) (cs : List E) (elt : E) (d : D) (M : MS) : Rs (Option D) := csA Φ n cs elt (asgT t d (wipeG σ own)) M
def lim (k : Nat) (r : Rs D) : Rs D := if k ≤ limit then r else .bad
theorem lim_le {k : Nat} {r : Rs D} (h : k ≤ limit) : lim k r = r := if_pos h
def cmK (Φ : Fn) (n : Nat) (σ : Sg) (own : List Nat) (t : T) (cs : List E) (elt : E) (ds : List D) (M : MS) : Rs D := lim ds.length ((compL (cstep Φ n σ own t cs elt) ds M).nox.bind lstK)
@[simp] theorem cmK_eq (own : List Nat) (t : T) (cs : List E) (elt : E) (ds : List D) : cmK Φ n σ own t cs elt ds M = lim ds.length ((compL (cstep Φ n σ own t cs elt) ds M).nox.bind lstK) := rfl
@[simp] theorem sE_comp (own : List Nat) (t : T) (it : It) (cs : List E) (elt : E) : evE Φ n σ (.comp own t it cs elt) M = (evIt Φ n σ it M).bind (cmK Φ n σ own t cs elt) := by
  show (evIt Φ n σ it M).bind _ = _
  exact bind_ext fun ds M => by
    show (if ds.length ≤ limit then _ else _) = lim _ _
    unfold lim
    split
    · refine congrArg (fun s => (compL s ds M).nox.bind lstK) (funext fun d => funext fun M => ?_)
      unfold cstep csA
      cases asgT t d (wipeG σ own) with
      | none => rfl
      | some σ1 => exact bind_ext fun b M => by cases b <;> rfl
    · rfl
def sqK (d : D) (M : MS) : Rs (List D) := .of (seqO d) M
@[simp] theorem sqK_eq (d : D) : sqK d M = .of (seqO d) M := rfl
@[simp] theorem evIt_seq (e : E) : evIt Φ n σ (.seq e) M = (evE Φ n σ e M).bind sqK := rfl
def r1O (d : D) : Option (List D) := match d with
  | .int b => rngO 0 b
  | _ => none
@[simp] theorem r1O_int (b : Int) : r1O (.int b) = rngO 0 b := rfl
def r1K (d : D) (M : MS) : Rs (List D) := .of (r1O d) M
@[simp] theorem r1K_eq (d : D) : r1K d M = .of (r1O d) M := rfl
@[simp] theorem evIt_rng1 (e : E) : evIt Φ n σ (.rng1 e) M = (evE Φ n σ e M).bind r1K := by
  show (evE Φ n σ e M).bind _ = _
  exact bind_ext fun d M => by cases d <;> rfl
def r2O (d e : D) : Option (List D) := match d, e with
  | .int a, .int b => rngO a b
  | _, _ => none
@[simp] theorem r2O_int (a b : Int) : r2O (.int a) (.int b) = rngO a b := rfl
def r2L (d e : D) (M : MS) : Rs (List D) := .of (r2O d e) M
@[simp] theorem r2L_eq (d e : D) : r2L d e M = .of (r2O d e) M := rfl
def r2K (Φ : Fn) (n : Nat) (σ : Sg) (b : E) (d : D) (M : MS) : Rs (List D) := (evE Φ n σ b M).bind (r2L d)
@[simp] theorem r2K_eq (b : E) (d : D) : r2K Φ n σ b d M = (evE Φ n σ b M).bind (r2L d) := rfl
@[simp] theorem evIt_rng2 (a b : E) : evIt Φ n σ (.rng2 a b) M = (evE Φ n σ a M).bind (r2K Φ n σ b) := by
  show (evE Φ n σ a M).bind _ = _
  exact bind_ext fun d M => bind_ext fun e M => by cases d <;> cases e <;> rfl
def enO (d : D) : Option (List D) := match d with
  | .lst xs => some (enumD 0 xs)
  | _ => none
@[simp] theorem enO_lst (xs : List D) : enO (.lst xs) = some (enumD 0 xs) := rfl
def enK (d : D) (M : MS) : Rs (List D) := .of (enO d) M
@[simp] theorem enK_eq (d : D) : enK d M = .of (enO d) M := rfl
@[simp] theorem evIt_enum (e : E) : evIt Φ n σ (.enum e) M = (evE Φ n σ e M).bind enK := by
  show (evE Φ n σ e M).bind _ = _
  exact bind_ext fun d M => by cases d <;> rfl
def zipO (a b : D) : Option (List D) := match seqO a, seqO b with
  | some xs, some ys => some (List.zipWith (fun x y => .tup [x, y]) xs ys)
  | _, _ => none
def zpL (d e : D) (M : MS) : Rs (List D) := .of (zipO d e) M
@[simp] theorem zpL_eq (d e : D) : zpL d e M = .of (zipO d e) M := rfl
def zpK (Φ : Fn) (n : Nat) (σ : Sg) (b : E) (d : D) (M : MS) : Rs (List D) := (evE Φ n σ b M).bind (zpL d)
@[simp] theorem zpK_eq (b : E) (d : D) : zpK Φ n σ b d M = (evE Φ n σ b M).bind (zpL d) := rfl
@[simp] theorem evIt_zip (a b : E) : evIt Φ n σ (.zip a b) M = (evE Φ n σ a M).bind (zpK Φ n σ b) := rfl
@[simp] theorem zipO_tt (xs ys : List D) : zipO (.tup xs) (.tup ys) = some (List.zipWith (fun x y => .tup [x, y]) xs ys) := rfl
@[simp] theorem zipO_tl (xs ys : List D) : zipO (.tup xs) (.lst ys) = some (List.zipWith (fun x y => .tup [x, y]) xs ys) := rfl
@[simp] theorem zipO_lt (xs ys : List D) : zipO (.lst xs) (.tup ys) = some (List.zipWith (fun x y => .tup [x, y]) xs ys) := rfl
@[simp] theorem zipO_ll (xs ys : List D) : zipO (.lst xs) (.lst ys) = some (List.zipWith (fun x y => .tup [x, y]) xs ys) := rfl
@[simp] theorem seqO_lst (xs : List D) : seqO (.lst xs) = some xs := rfl
@[simp] theorem seqO_tup (xs : List D) : seqO (.tup xs) = some xs := rfl
/-! ### statements -/
@[simp] theorem evSs_nil : evSs G Φ n [] σ M = .ok (.nxt σ) M := rfl
noncomputable def nxK (G : Genv) (Φ : Fn) (n : Nat) (ss : List S) (f : Fl) (M : MS) : Rs Fl := match f with
  | .nxt σ => evSs G Φ n ss σ M
  | f => .ok f M
@[simp] theorem nxK_nxt (ss : List S) : nxK G Φ n ss (.nxt σ) M = evSs G Φ n ss σ M := rfl
@[simp] theorem nxK_ret (ss : List S) (d : D) : nxK G Φ n ss (.ret d) M = .ok (.ret d) M := rfl
@[simp] theorem nxK_brk (ss : List S) : nxK G Φ n ss (.brk σ) M = .ok (.brk σ) M := rfl
@[simp] theorem nxK_cnt (ss : List S) : nxK G Φ n ss (.cnt σ) M = .ok (.cnt σ) M := rfl
@[simp] theorem nxK_exc (ss : List S) (x : Ex) : nxK G Φ n ss (.exc x σ) M = .ok (.exc x σ) M := rfl
@[simp] theorem evSs_cons (s : S) (ss : List S) : evSs G Φ n (s :: ss) σ M = (evS G Φ n s σ M).bind (nxK G Φ n ss) := by
  show (evS G Φ n s σ M).bind _ = _
  exact bind_ext fun f M => by cases f <;> rfl
def setK (t : T) (σ : Sg) (d : D) (M : MS) : Rs Fl := .of ((asgT t d σ).map .nxt) M
@[simp] theorem setK_eq (t : T) (d : D) : setK t σ d M = .of ((asgT t d σ).map .nxt) M := rfl
@[simp] theorem sS_set (t : T) (e : E) : evS G Φ n (.set t e) σ M = (evE Φ n σ e M).st σ (setK t σ) := rfl
def ownK (i : Nat) (σ : Sg) (d : D) (M : MS) : Rs Fl := .of ((ownO d).map fun c => .nxt (σ.set i (some (.own c)))) M
@[simp] theorem ownK_eq (i : Nat) (d : D) : ownK i σ d M = .of ((ownO d).map fun c => .nxt (σ.set i (some (.own c)))) M := rfl
@[simp] theorem sS_own (i : Nat) (e : E) : evS G Φ n (.own i e) σ M = (evE Φ n σ e M).st σ (ownK i σ) := rfl
def parK (is : List Nat) (os : List Bool) (σ : Sg) (ds : List D) (M : MS) : Rs Fl := .of ((parG is os ds σ).map .nxt) M
@[simp] theorem parK_eq (is : List Nat) (os : List Bool) (ds : List D) : parK is os σ ds M = .of ((parG is os ds σ).map .nxt) M := rfl
@[simp] theorem sS_par (is : List Nat) (os : List Bool) (es : List E) : evS G Φ n (.par is os es) σ M = (evEs Φ n σ es M).st σ (parK is os σ) := rfl
def setF (k v : D) (c : Ct) : Option Ct := setO c k v
@[simp] theorem setF_eq (k v : D) (c : Ct) : setF k v c = setO c k v := rfl
def stM (σ : Sg) (v : D) (o : Nat ⊕ D) (k : D) (M : MS) : Rs Fl := upT σ M (setF k v) o
@[simp] theorem stM_eq (v : D) (o : Nat ⊕ D) (k : D) : stM σ v o k M = upT σ M (setF k v) o := rfl
def stL (Φ : Fn) (n : Nat) (σ : Sg) (k : E) (v : D) (o : Option (Nat ⊕ D)) (M : MS) : Rs Fl := match o with
  | some o => (evE Φ n σ k M).st σ (stM σ v o)
  | none => .bad
@[simp] theorem stL_some (k : E) (v : D) (o : Nat ⊕ D) : stL Φ n σ k v (some o) M = (evE Φ n σ k M).st σ (stM σ v o) := rfl
def stK (Φ : Fn) (n : Nat) (σ : Sg) (tg : Tg) (k : E) (v : D) (M : MS) : Rs Fl := stL Φ n σ k v (evTg σ tg) M
@[simp] theorem stK_eq (tg : Tg) (k : E) (v : D) : stK Φ n σ tg k v M = stL Φ n σ k v (evTg σ tg) M := rfl
@[simp] theorem sS_sto (tg : Tg) (k v : E) : evS G Φ n (.sto tg k v) σ M = (evE Φ n σ v M).st σ (stK Φ n σ tg k) := by
  show (evE Φ n σ v M).st σ _ = _
  exact st_ext fun d M => by
    unfold stK stL
    cases evTg σ tg <;> rfl
def muF (m : Mu) (d : D) (c : Ct) : Option Ct := muO m c d
@[simp] theorem muF_eq (m : Mu) (d : D) (c : Ct) : muF m d c = muO m c d := rfl
def mtM (σ : Sg) (m : Mu) (o : Nat ⊕ D) (d : D) (M : MS) : Rs Fl := upT σ M (muF m d) o
@[simp] theorem mtM_eq (m : Mu) (o : Nat ⊕ D) (d : D) : mtM σ m o d M = upT σ M (muF m d) o := rfl
def mtL (Φ : Fn) (n : Nat) (σ : Sg) (m : Mu) (e : E) (o : Nat ⊕ D) (b : Bool) (M : MS) : Rs Fl := if b = true then (evE Φ n σ e M).st σ (mtM σ m o) else .bad
@[simp] theorem mtL_t (m : Mu) (e : E) (o : Nat ⊕ D) : mtL Φ n σ m e o true M = (evE Φ n σ e M).st σ (mtM σ m o) := rfl
def mtK (Φ : Fn) (n : Nat) (σ : Sg) (m : Mu) (e : E) (o : Option (Nat ⊕ D)) (M : MS) : Rs Fl := match o with
  | some o => mtL Φ n σ m e o (lstT σ M o) M
  | none => .bad
@[simp] theorem mtK_some (m : Mu) (e : E) (o : Nat ⊕ D) : mtK Φ n σ m e (some o) M = mtL Φ n σ m e o (lstT σ M o) M := rfl
@[simp] theorem sS_mth (m : Mu) (tg : Tg) (e : E) : evS G Φ n (.mth m tg e) σ M = mtK Φ n σ m e (evTg σ tg) M := by
  show (match evTg σ tg with
    | some o => if lstT σ M o = true then _ else _
    | none => _) = _
  cases evTg σ tg <;> rfl
def auL (i : Nat) (p : P) (a : D) (σ : Sg) (d : D) (M : MS) : Rs Fl := .of ((augO p a d).map fun z => .nxt (σ.set i (some (.val z)))) M
@[simp] theorem auL_eq (i : Nat) (p : P) (a d : D) : auL i p a σ d M = .of ((augO p a d).map fun z => .nxt (σ.set i (some (.val z)))) M := rfl
def auK (Φ : Fn) (n : Nat) (σ : Sg) (i : Nat) (p : P) (e : E) (o : Option (Option Sl)) (M : MS) : Rs Fl := match o with
  | some (some (.val a)) => (evE Φ n σ e M).st σ (auL i p a σ)
  | _ => .bad
@[simp] theorem auK_val (i : Nat) (p : P) (e : E) (a : D) : auK Φ n σ i p e (some (some (.val a))) M = (evE Φ n σ e M).st σ (auL i p a σ) := rfl
@[simp] theorem sS_aug (i : Nat) (p : P) (e : E) : evS G Φ n (.aug i p e) σ M = auK Φ n σ i p e σ[i]? M := by
  show (match σ[i]? with
    | some (some (.val a)) => _
    | _ => _) = _
  unfold auK
  rcases σ[i]? with _ | _ | c
  · rfl
  · rfl
  · cases c <;> rfl
noncomputable def iteK (G : Genv) (Φ : Fn) (n : Nat) (σ : Sg) (a b : List S) (d : D) (M : MS) : Rs Fl := match testO d with
  | some true => evSs G Φ n a σ M
  | some false => evSs G Φ n b σ M
  | none => .bad
@[simp] theorem iteK_t (a b : List S) : iteK G Φ n σ a b (.bl true) M = evSs G Φ n a σ M := rfl
@[simp] theorem iteK_f (a b : List S) : iteK G Φ n σ a b (.bl false) M = evSs G Φ n b σ M := rfl
theorem iteK_bl (a b : List S) (c : Bool) : iteK G Φ n σ a b (.bl c) M = if c = true then evSs G Φ n a σ M else evSs G Φ n b σ M := by cases c <;> rfl
@[simp] theorem iteK_dec (a b : List S) (p : Prop) [Decidable p] : iteK G Φ n σ a b (.bl (decide p)) M = if p then evSs G Φ n a σ M else evSs G Φ n b σ M := by by_cases h : p <;> simp [h]
@[simp] theorem iteK_not (a b : List S) (c : Bool) : iteK G Φ n σ a b (.bl (!c)) M = iteK G Φ n σ b a (.bl c) M := by cases c <;> rfl
@[simp] theorem sS_ite (c : E) (a b : List S) : evS G Φ n (.ite c a b) σ M = (evE Φ n σ c M).st σ (iteK G Φ n σ a b) := rfl
/-- a turn of a loop -/
def clK (clr : List Nat) (f : Fl) (M : MS) : Rs Fl := .ok (f.clr clr) M
@[simp] theorem clK_eq (clr : List Nat) (f : Fl) : clK clr f M = .ok (f.clr clr) M := rfl
noncomputable def lsA (G : Genv) (Φ : Fn) (n : Nat) (body : List S) (clr : List Nat) (o : Option Sg) (M : MS) : Rs Fl := match o with
  | some σ => (evSs G Φ n body σ M).bind (clK clr)
  | none => .bad
@[simp] theorem lsA_some (body : List S) (clr : List Nat) : lsA G Φ n body clr (some σ) M = (evSs G Φ n body σ M).bind (clK clr) := rfl
noncomputable def lstep (G : Genv) (Φ : Fn) (n : Nat) (t : T) (body : List S) (clr : List Nat) (d : D) (σ : Sg) (M : MS) : Rs Fl := lsA G Φ n body clr (asgT t d σ) M
noncomputable def lpK (G : Genv) (Φ : Fn) (n : Nat) (σ : Sg) (t : T) (body : List S) (clr : List Nat) (ds : List D) (M : MS) : Rs Fl := loopL (lstep G Φ n t body clr) ds (wipeG σ clr) M
@[simp] theorem lpK_eq (t : T) (body : List S) (clr : List Nat) (ds : List D) : lpK G Φ n σ t body clr ds M = loopL (lstep G Φ n t body clr) ds (wipeG σ clr) M := rfl
@[simp] theorem sS_loop (t : T) (it : It) (body : List S) (clr : List Nat) : evS G Φ n (.loop t it body clr) σ M = (evIt Φ n σ it M).st σ (lpK G Φ n σ t body clr) := rfl
/-- a turn of a while loop -/
noncomputable def wK (G : Genv) (Φ : Fn) (n : Nat) (body : List S) (clr : List Nat) (σ : Sg) (r : Rs D) : Rs (Option Fl) := match r with
  | .ok d M => (match testO d with
    | some true => (evSs G Φ n body σ M).bind fun f M => .ok (some (f.clr clr)) M
    | some false => .ok none M
    | none => .bad)
  | .exc x M => .ok (some (.exc x σ)) M
  | .bad => .bad
def woK (clr : List Nat) (f : Fl) (M : MS) : Rs (Option Fl) := .ok (some (f.clr clr)) M
@[simp] theorem woK_eq (clr : List Nat) (f : Fl) : woK clr f M = .ok (some (f.clr clr)) M := rfl
@[simp] theorem wK_t (body : List S) (clr : List Nat) : wK G Φ n body clr σ (.ok (.bl true) M) = (evSs G Φ n body σ M).bind (woK clr) := rfl
@[simp] theorem wK_f (body : List S) (clr : List Nat) : wK G Φ n body clr σ (.ok (.bl false) M) = .ok none M := rfl
noncomputable def wstep (G : Genv) (Φ : Fn) (n : Nat) (c : E) (body : List S) (clr : List Nat) (σ : Sg) (M : MS) : Rs (Option Fl) := wK G Φ n body clr σ (evE Φ n σ c M)
@[simp] theorem sS_whl (c : E) (body : List S) (clr : List Nat) : evS G Φ n (.whl c body clr) σ M = whileL (wstep G Φ n c body clr) (wipeG σ clr) M := rfl
@[simp] theorem evTg_sl (i : Nat) : evTg σ (.sl i) = match σ[i]? with
  | some (some (.own _)) => some (.inl i)
  | _ => none := rfl
@[simp] theorem evTg_rf (i : Nat) : evTg σ (.rf i) = match σ[i]? with
  | some (some (.val d)) => some (.inr d)
  | _ => none := rfl
def retK (d : D) (M : MS) : Rs Fl := .ok (.ret d) M
@[simp] theorem retK_eq (d : D) : retK d M = .ok (.ret d) M := rfl
@[simp] theorem sS_ret (e : E) : evS G Φ n (.ret e) σ M = (evE Φ n σ e M).st σ retK := rfl
@[simp] theorem sS_retn : evS G Φ n .retn σ M = .ok (.ret .non) M := rfl
def expK (σ : Sg) (d : D) (M : MS) : Rs Fl := .ok (.nxt σ) M
@[simp] theorem expK_eq (d : D) : expK σ d M = .ok (.nxt σ) M := rfl
@[simp] theorem sS_expr (e : E) : evS G Φ n (.expr e) σ M = (evE Φ n σ e M).st σ (expK σ) := rfl
def mx (n : Nat) (r : Rs Fl) : Rs Fl := if 2 ≤ n then r else .bad
@[simp] theorem mx_two (n : Nat) (r : Rs Fl) : mx (n + 2) r = r := if_pos (by omega)
theorem mx_le {n : Nat} (h : 2 ≤ n) (r : Rs Fl) : mx n r = r := if_pos h
def mk1 (o : Option Ex) (σ : Sg) (M : MS) : Rs Fl := match o with
  | some x => .ok (.exc x σ) M
  | none => .bad
@[simp] theorem mk1_some (x : Ex) (σ : Sg) (M : MS) : mk1 (some x) σ M = .ok (.exc x σ) M := rfl
def raK (G : Genv) (c : Str) (σ : Sg) (ds : List D) (M : MS) : Rs Fl := mk1 (mkEx G.mks c ds) σ M
@[simp] theorem raK_eq (c : Str) (ds : List D) : raK G c σ ds M = mk1 (mkEx G.mks c ds) σ M := rfl
@[simp] theorem sS_raise (c : Str) (as : List E) : evS G Φ n (.raise c as) σ M = mx n ((evEs Φ n σ as M).st σ (raK G c σ)) := rfl
def hxK (G : Genv) (hs : List (Str × HA)) (f : Fl) (M : MS) : Rs Fl := match f with
  | .exc x σ => evHs G x hs σ M
  | f => .ok f M
@[simp] theorem hxK_exc (hs : List (Str × HA)) (x : Ex) (σ : Sg) : hxK G hs (.exc x σ) M = evHs G x hs σ M := rfl
@[simp] theorem hxK_ret (hs : List (Str × HA)) (d : D) : hxK G hs (.ret d) M = .ok (.ret d) M := rfl
@[simp] theorem hxK_nxt (hs : List (Str × HA)) (σ : Sg) : hxK G hs (.nxt σ) M = .ok (.nxt σ) M := rfl
@[simp] theorem sS_try (body : List S) (hs : List (Str × HA)) : evS G Φ n (.tryc body hs) σ M = (evSs G Φ n body σ M).bind (hxK G hs) := by
  show (evSs G Φ n body σ M).bind _ = _
  exact bind_ext fun f M => by cases f <;> rfl
def hc1 (o : Option Bool) (x y : Rs Fl) : Rs Fl := match o with
  | some true => x
  | some false => y
  | none => .bad
@[simp] theorem hc1_t (x y : Rs Fl) : hc1 (some true) x y = x := rfl
@[simp] theorem hc1_f (x y : Rs Fl) : hc1 (some false) x y = y := rfl
@[simp] theorem evHs_nil (x : Ex) : evHs G x [] σ M = .ok (.exc x σ) M := rfl
@[simp] theorem evHs_cons (x : Ex) (c : Str) (a : HA) (hs : List (Str × HA)) : evHs G x ((c, a) :: hs) σ M = hc1 (catches G.cls x.cls c) (.of ((haO G.mks x a).map .ret) M) (evHs G x hs σ M) := rfl
@[simp] theorem sS_pass : evS G Φ n .pass σ M = .ok (.nxt σ) M := rfl
@[simp] theorem sS_brk : evS G Φ n .brk σ M = .ok (.brk σ) M := rfl
@[simp] theorem sS_cnt : evS G Φ n .cnt σ M = .ok (.cnt σ) M := rfl
noncomputable def fzK (G : Genv) (Φ : Fn) (n : Nat) (s : S) (o : Option Sg) (M : MS) : Rs Fl := match o with
  | some σ => evS G Φ n s σ M
  | none => .bad
@[simp] theorem fzK_some (s : S) (σ : Sg) : fzK G Φ n s (some σ) M = evS G Φ n s σ M := rfl
@[simp] theorem sS_frz (is : List Nat) (s : S) : evS G Φ n (.frz is s) σ M = fzK G Φ n s (frzG σ is) M := by
  show (match frzG σ is with
    | some σ => _
    | none => _) = _
  cases frzG σ is <;> rfl
end
/-! ### slots -/
@[simp] theorem asgT_nm (i : Nat) (d : D) (σ : Sg) : asgT (.nm i) d σ = some (σ.set i (some (.val d))) := rfl
@[simp] theorem asgT_tup (ts : List T) (ds : List D) (σ : Sg) : asgT (.tup ts) (.tup ds) σ = asgTs ts ds σ := rfl
@[simp] theorem asgT_lst (ts : List T) (ds : List D) (σ : Sg) : asgT (.tup ts) (.lst ds) σ = asgTs ts ds σ := rfl
@[simp] theorem asgTs_nil (σ : Sg) : asgTs [] [] σ = some σ := rfl
@[simp] theorem asgTs_cons (t : T) (ts : List T) (d : D) (ds : List D) (σ : Sg) : asgTs (t :: ts) (d :: ds) σ = (asgT t d σ).bind (asgTs ts ds) := rfl
@[simp] theorem ownO_lst (xs : List D) : ownO (.lst xs) = some (.lst xs) := rfl
@[simp] theorem ownO_dct (xs : List (Key × D)) : ownO (.dct xs) = some (.dct xs) := rfl
@[simp] theorem wipeG_nil (σ : Sg) : wipeG σ [] = σ := rfl
@[simp] theorem wipeG_cons (σ : Sg) (i : Nat) (is : List Nat) : wipeG σ (i :: is) = (wipeG σ is).set i none := rfl
@[simp] theorem clr_nxt (is : List Nat) (σ : Sg) : (Fl.nxt σ).clr is = .nxt (wipeG σ is) := rfl
@[simp] theorem clr_cnt (is : List Nat) (σ : Sg) : (Fl.cnt σ).clr is = .nxt (wipeG σ is) := rfl
@[simp] theorem clr_brk (is : List Nat) (σ : Sg) : (Fl.brk σ).clr is = .brk (wipeG σ is) := rfl
@[simp] theorem clr_ret (is : List Nat) (d : D) : (Fl.ret d).clr is = .ret d := rfl
@[simp] theorem clr_exc (is : List Nat) (x : Ex) (σ : Sg) : (Fl.exc x σ).clr is = .exc x σ := rfl
@[simp] theorem frzG_nil (σ : Sg) : frzG σ [] = some σ := rfl
/-! ### loops -/
section
variable {step : D → Sg → MS → Rs Fl}
@[simp] theorem loopL_nil (σ : Sg) (M : MS) : loopL step [] σ M = .ok (.nxt σ) M := rfl
def lcK (step : D → Sg → MS → Rs Fl) (ds : List D) (f : Fl) (M : MS) : Rs Fl := match f with
  | .nxt σ => loopL step ds σ M
  | .cnt σ => loopL step ds σ M
  | .brk σ => .ok (.nxt σ) M
  | .ret d => .ok (.ret d) M
  | .exc x σ => .ok (.exc x σ) M
@[simp] theorem lcK_nxt (ds : List D) (σ : Sg) (M : MS) : lcK step ds (.nxt σ) M = loopL step ds σ M := rfl
@[simp] theorem lcK_cnt (ds : List D) (σ : Sg) (M : MS) : lcK step ds (.cnt σ) M = loopL step ds σ M := rfl
@[simp] theorem lcK_brk (ds : List D) (σ : Sg) (M : MS) : lcK step ds (.brk σ) M = .ok (.nxt σ) M := rfl
@[simp] theorem lcK_ret (ds : List D) (d : D) (M : MS) : lcK step ds (.ret d) M = .ok (.ret d) M := rfl
@[simp] theorem lcK_exc (ds : List D) (x : Ex) (σ : Sg) (M : MS) : lcK step ds (.exc x σ) M = .ok (.exc x σ) M := rfl
@[simp] theorem loopL_cons (d : D) (ds : List D) (σ : Sg) (M : MS) : loopL step (d :: ds) σ M = (step d σ M).bind (lcK step ds) := by
  show (step d σ M).bind _ = _
  exact bind_ext fun f M => by cases f <;> rfl
end
section
variable {step : Sg → MS → Rs (Option Fl)}
noncomputable def wlK (step : Sg → MS → Rs (Option Fl)) (σ : Sg) (o : Option Fl) (M : MS) : Rs Fl := match o with
  | none => .ok (.nxt σ) M
  | some (.nxt σ) => whileL step σ M
  | some (.cnt σ) => whileL step σ M
  | some (.brk σ) => .ok (.nxt σ) M
  | some (.ret d) => .ok (.ret d) M
  | some (.exc x σ) => .ok (.exc x σ) M
@[simp] theorem wlK_none (σ : Sg) (M : MS) : wlK step σ none M = .ok (.nxt σ) M := rfl
@[simp] theorem wlK_nxt (τ σ : Sg) (M : MS) : wlK step τ (some (.nxt σ)) M = whileL step σ M := rfl
@[simp] theorem wlK_cnt (τ σ : Sg) (M : MS) : wlK step τ (some (.cnt σ)) M = whileL step σ M := rfl
@[simp] theorem wlK_brk (τ σ : Sg) (M : MS) : wlK step τ (some (.brk σ)) M = .ok (.nxt σ) M := rfl
@[simp] theorem wlK_ret (τ : Sg) (d : D) (M : MS) : wlK step τ (some (.ret d)) M = .ok (.ret d) M := rfl
@[simp] theorem wlK_exc (τ σ : Sg) (x : Ex) (M : MS) : wlK step τ (some (.exc x σ)) M = .ok (.exc x σ) M := rfl
theorem whileL_eq (σ : Sg) (M : MS) : whileL step σ M = (step σ M).bind (wlK step σ) := by
  rw [whileL_step]
  exact bind_ext fun o M => by
    rcases o with _ | f
    · rfl
    · cases f <;> rfl
end
end Mi
set_option Elab.async false
set_option linter.all false
set_option maxRecDepth 100000
/-! Mi, part 24: primitives and texts for simp. -/
namespace Mi
open PySem
/-- a text from a Lean text -/
abbrev D.s (x : String) : D := .str (.ofString x)
theorem map_toNat_inj : ∀ {a b : List Char}, a.map Char.toNat = b.map Char.toNat → a = b
  | [], [], _ => rfl
  | [], _ :: _, h => by cases h
  | _ :: _, [], h => by cases h
  | x :: a, y :: b, h => by
    simp only [List.map_cons, List.cons.injEq] at h
    have : x = y := by
      have h1 := h.1
      apply Char.ext
      apply UInt32.toNat_inj.mp
      exact h1
    rw [this, map_toNat_inj h.2]
@[simp] theorem ofString_inj {a b : String} : Str.ofString a = Str.ofString b ↔ a = b := by
  constructor
  · intro h
    rw [Str.ofString_eq_toList, Str.ofString_eq_toList] at h
    have h1 := map_toNat_inj (by simpa using congrArg (fun s => s.cps.toList) h)
    exact String.toList_inj.mp h1
  · rintro rfl; rfl
theorem char_lt (c : Char) : c.toNat < 0x110000 := by
  have := c.valid
  show c.val.toNat < _
  rcases this with h | ⟨_, h⟩ <;> omega
@[simp] theorem strOk_of (s : String) : PyData.strOk (.ofString s) = true := by
  rw [Str.ofString_eq_toList]
  unfold PyData.strOk
  rw [← Array.all_toList]
  simp only [List.all_map, List.all_eq_true]
  intro c _
  simpa using char_lt c
/-! ### depth, plain -/
def D.dp (d : D) : Nat := d.py.depth
def D.dps (ds : List D) : Nat := PyData.depthAll (D.pys ds)
section
variable {M : MS} {n : Nat}
@[simp] theorem deref_non : deref M .non = .non := rfl
@[simp] theorem deref_bl (b : Bool) : deref M (.bl b) = .bl b := rfl
@[simp] theorem deref_int (b : Int) : deref M (.int b) = .int b := rfl
@[simp] theorem deref_str (b : Str) : deref M (.str b) = .str b := rfl
@[simp] theorem deref_tup (b : List D) : deref M (.tup b) = .tup b := rfl
@[simp] theorem deref_lst (b : List D) : deref M (.lst b) = .lst b := rfl
@[simp] theorem deref_dct (b : List (Key × D)) : deref M (.dct b) = .dct b := rfl
theorem deref_ref (j : Nat) : deref M (.ref j) = match M[j]? with
    | some (.cell c) => c.d
    | _ => .ref j := rfl
end
/-! ### primitives -/
section
variable {n : Nat}
@[simp] theorem pr_add (a b : Int) : pr n .add [.int a, .int b] = some (.int (a + b)) := rfl
@[simp] theorem pr_sub (a b : Int) : pr n .sub [.int a, .int b] = some (.int (a - b)) := rfl
theorem pr_mul (a b : Int) : pr n .mul [.int a, .int b] = if mulOk a b = true then some (.int (a * b)) else none := rfl
theorem pr_fdiv (a b : Int) : pr n .fdiv [.int a, .int b] = if divOk a b = true then some (.int (a / b)) else none := rfl
theorem pr_mod (a b : Int) : pr n .mod [.int a, .int b] = if 0 < b then some (.int (a % b)) else none := rfl
@[simp] theorem pr_neg (a : Int) : pr n .neg [.int a] = some (.int (-a)) := rfl
theorem pr_adds (a b : Str) : pr n .add [.str a, .str b] = if a.length + b.length ≤ limit then some (.str (a ++ b)) else none := rfl
theorem pr_addl (a b : List D) : pr n .add [.lst a, .lst b] = if a.length + b.length ≤ limit then some (.lst (a ++ b)) else none := rfl
theorem pr_addt (a b : List D) : pr n .add [.tup a, .tup b] = if a.length + b.length ≤ limit then some (.tup (a ++ b)) else none := rfl
theorem pr_eq (a b : D) : pr n .eq [a, b] = (eqO n a b).map .bl := by cases a <;> cases b <;> rfl
theorem pr_ne (a b : D) : pr n .ne [a, b] = (eqO n a b).map fun x => .bl (!x) := by cases a <;> cases b <;> rfl
@[simp] theorem pr_lt (a b : Int) : pr n .lt [.int a, .int b] = some (.bl (decide (a < b))) := rfl
@[simp] theorem pr_le (a b : Int) : pr n .le [.int a, .int b] = some (.bl (decide (a ≤ b))) := rfl
@[simp] theorem pr_gt (a b : Int) : pr n .gt [.int a, .int b] = some (.bl (decide (b < a))) := rfl
@[simp] theorem pr_ge (a b : Int) : pr n .ge [.int a, .int b] = some (.bl (decide (b ≤ a))) := rfl
@[simp] theorem pr_isn0 : pr n .isn [.non] = some (.bl true) := rfl
@[simp] theorem pr_isnn0 : pr n .isnn [.non] = some (.bl false) := rfl
@[simp] theorem pr_isn_int (a : Int) : pr n .isn [.int a] = some (.bl false) := rfl
@[simp] theorem pr_isn_str (a : Str) : pr n .isn [.str a] = some (.bl false) := rfl
@[simp] theorem pr_isn_tup (a : List D) : pr n .isn [.tup a] = some (.bl false) := rfl
@[simp] theorem pr_isn_lst (a : List D) : pr n .isn [.lst a] = some (.bl false) := rfl
@[simp] theorem pr_isn_dct (a : List (Key × D)) : pr n .isn [.dct a] = some (.bl false) := rfl
@[simp] theorem pr_isnn_int (a : Int) : pr n .isnn [.int a] = some (.bl true) := rfl
@[simp] theorem pr_isnn_str (a : Str) : pr n .isnn [.str a] = some (.bl true) := rfl
@[simp] theorem pr_isnn_tup (a : List D) : pr n .isnn [.tup a] = some (.bl true) := rfl
@[simp] theorem pr_isnn_lst (a : List D) : pr n .isnn [.lst a] = some (.bl true) := rfl
@[simp] theorem pr_isnn_dct (a : List (Key × D)) : pr n .isnn [.dct a] = some (.bl true) := rfl
@[simp] theorem pr_isB (b a : Bool) : pr n (.isB b) [.bl a] = some (.bl (decide (a = b))) := rfl
@[simp] theorem pr_isnB (b a : Bool) : pr n (.isnB b) [.bl a] = some (.bl (!decide (a = b))) := rfl
theorem pr_innl (a : D) (xs : List D) : pr n .inn [a, .lst xs] = (inO n a xs).map .bl := by cases a <;> rfl
theorem pr_innt (a : D) (xs : List D) : pr n .inn [a, .tup xs] = (inO n a xs).map .bl := by cases a <;> rfl
theorem pr_innd (a : D) (kvs : List (Key × D)) : pr n .inn [a, .dct kvs] = (keyO a).map fun k => .bl (getD kvs k).isSome := by cases a <;> rfl
theorem pr_ninl (a : D) (xs : List D) : pr n .nin [a, .lst xs] = (inO n a xs).map fun x => .bl (!x) := by cases a <;> rfl
theorem pr_nint (a : D) (xs : List D) : pr n .nin [a, .tup xs] = (inO n a xs).map fun x => .bl (!x) := by cases a <;> rfl
theorem pr_nind (a : D) (kvs : List (Key × D)) : pr n .nin [a, .dct kvs] = (keyO a).map fun k => .bl (!(getD kvs k).isSome) := by cases a <;> rfl
theorem pr_iteml (xs : List D) (i : Int) : pr n .item [.lst xs, .int i] = L2.atI xs i := rfl
theorem pr_itemt (xs : List D) (i : Int) : pr n .item [.tup xs, .int i] = L2.atI xs i := rfl
theorem pr_itemd (kvs : List (Key × D)) (k : D) : pr n .item [.dct kvs, k] = (keyO k).bind (getD kvs) := by cases k <;> rfl
@[simp] theorem pr_lenl (xs : List D) : pr n .len [.lst xs] = some (.int xs.length) := rfl
@[simp] theorem pr_lent (xs : List D) : pr n .len [.tup xs] = some (.int xs.length) := rfl
@[simp] theorem pr_lend (xs : List (Key × D)) : pr n .len [.dct xs] = some (.int xs.length) := rfl
@[simp] theorem pr_tupl (xs : List D) : pr n .tupleOf [.lst xs] = some (.tup xs) := rfl
@[simp] theorem pr_tupt (xs : List D) : pr n .tupleOf [.tup xs] = some (.tup xs) := rfl
@[simp] theorem pr_lstl (xs : List D) : pr n .listOf [.lst xs] = some (.lst xs) := rfl
@[simp] theorem pr_lstt (xs : List D) : pr n .listOf [.tup xs] = some (.lst xs) := rfl
@[simp] theorem pr_lstd (kvs : List (Key × D)) : pr n .listOf [.dct kvs] = some (.lst (kvs.map fun kv => keyD kv.1)) := rfl
@[simp] theorem pr_dictd (kvs : List (Key × D)) : pr n .dictOf [.dct kvs] = some (.dct kvs) := rfl
@[simp] theorem pr_dictl (xs : List D) : pr n .dictOf [.lst xs] = (pairsO xs).map fun kvs => .dct (mergeD [] kvs) := rfl
@[simp] theorem pr_dictt (xs : List D) : pr n .dictOf [.tup xs] = (pairsO xs).map fun kvs => .dct (mergeD [] kvs) := rfl
@[simp] theorem pr_min (a b : Int) : pr n .min2 [.int a, .int b] = some (.int (min a b)) := rfl
@[simp] theorem pr_max (a b : Int) : pr n .max2 [.int a, .int b] = some (.int (max a b)) := rfl
@[simp] theorem pr_int (a : Int) : pr n .intOf [.int a] = some (.int a) := rfl
@[simp] theorem pr_intb (a : Bool) : pr n .intOf [.bl a] = some (.int (b2i a)) := rfl
theorem pr_isi (t : Ty1) (d : D) : pr n (.isi t) [d] = (isiD t d).map .bl := by cases d <;> rfl
@[simp] theorem pr_rev (xs : List D) : pr n .rev [.tup xs] = some (.lst xs.reverse) := rfl
@[simp] theorem pr_all (xs : List D) : pr n .all [.lst xs] = (boolsO xs).map fun bs => .bl (bs.all id) := rfl
@[simp] theorem pr_any (xs : List D) : pr n .any [.lst xs] = (boolsO xs).map fun bs => .bl (bs.any id) := rfl
@[simp] theorem isi_tt (xs : List D) : isiD .tTup (.tup xs) = some true := rfl
@[simp] theorem isi_ts (x : Str) : isiD .tTup (.str x) = some false := rfl
@[simp] theorem isi_ti (x : Int) : isiD .tTup (.int x) = some false := rfl
@[simp] theorem isi_bb (x : Bool) : isiD .tBool (.bl x) = some true := rfl
/-! ### equality -/
@[simp] theorem eqO_s (a b : String) : eqO n (.str (.ofString a)) (.str (.ofString b)) = some (decide (a = b)) := by
  unfold eqO
  rw [if_pos]
  · congr 1
    show (PyData.eqv (.str _) (.str _)) = _
    unfold PyData.eqv
    show decide (Str.ofString a = Str.ofString b) = _
    exact decide_eq_decide.mpr ofString_inj
  · refine ⟨by simp [D.plain], by simp [D.plain], ?_⟩
    unfold deepOk
    simp [D.py, PyData.depth]
@[simp] theorem eqO_i (a b : Int) : eqO n (.int a) (.int b) = some (decide (a = b)) := by
  unfold eqO
  rw [if_pos]
  · congr 1
  · refine ⟨rfl, rfl, ?_⟩
    unfold deepOk
    simp [D.py, PyData.depth]
/-- data of a kind: their comparison -/
theorem eqO_of {d e : D} {b : Bool} (h1 : d.plain = true) (h2 : e.plain = true) (h3 : min d.dp e.dp ≤ 16 * n + 150) (h : d.eqb e = b) : eqO n d e = some b := by
  unfold eqO
  rw [if_pos ⟨h1, h2, by unfold deepOk; exact decide_eq_true h3⟩, h]
end
/-! ### items -/
@[simp] theorem atI_lit {α : Type} (xs : List α) (k : Nat) : L2.atI xs (OfNat.ofNat k : Int) = xs[k]? := by
  unfold L2.atI L2.ixN
  have h0 : (0 : Int) ≤ (OfNat.ofNat k : Int) := Int.natCast_nonneg k
  rw [if_pos h0]
  have e : (OfNat.ofNat k : Int) = (k : Int) := rfl
  rw [e]
  by_cases h : k < xs.length
  · rw [if_pos (by omega)]
    simp
  · rw [if_neg (by omega)]
    simp [List.getElem?_eq_none (Nat.le_of_not_lt h)]
@[simp] theorem atI_0 {α : Type} (xs : List α) : L2.atI xs 0 = xs[0]? := atI_lit xs 0
@[simp] theorem atI_1 {α : Type} (xs : List α) : L2.atI xs 1 = xs[1]? := atI_lit xs 1
@[simp] theorem atI_2 {α : Type} (xs : List α) : L2.atI xs 2 = xs[2]? := atI_lit xs 2
@[simp] theorem atI_3 {α : Type} (xs : List α) : L2.atI xs 3 = xs[3]? := atI_lit xs 3
@[simp] theorem atI_4 {α : Type} (xs : List α) : L2.atI xs 4 = xs[4]? := atI_lit xs 4
@[simp] theorem atI_5 {α : Type} (xs : List α) : L2.atI xs 5 = xs[5]? := atI_lit xs 5
@[simp] theorem atI_6 {α : Type} (xs : List α) : L2.atI xs 6 = xs[6]? := atI_lit xs 6
@[simp] theorem atI_7 {α : Type} (xs : List α) : L2.atI xs 7 = xs[7]? := atI_lit xs 7
theorem atI_nat {α : Type} (xs : List α) (k : Nat) : L2.atI xs (k : Int) = xs[k]? := atI_lit xs k
/-! ### calls -/
/-- the end of a call -/
def fin (r : Rs Fl) : Rs D := match r with
  | .ok (.nxt _) M => .ok .non M
  | .ok (.ret d) M => .ok d M
  | .ok (.exc x _) M => .exc x M
  | _ => .bad
@[simp] theorem fin_nxt (σ : Sg) (M : MS) : fin (.ok (.nxt σ) M) = .ok .non M := rfl
@[simp] theorem fin_ret (d : D) (M : MS) : fin (.ok (.ret d) M) = .ok d M := rfl
@[simp] theorem fin_exc (x : Ex) (σ : Sg) (M : MS) : fin (.ok (.exc x σ) M) = .exc x M := rfl
@[simp] theorem fin_ite (p : Prop) [Decidable p] (x y : Rs Fl) : fin (if p then x else y) = if p then fin x else fin y := by split <;> rfl
section
variable {G : Genv} {tbl : List Df} {n f : Nat}
/-- a call of a def without defaults that leaves its objects -/
theorem phi_s {df : Df} (h : tbl[f]? = some df) (hd : df.dfl = []) (hp : df.drp = false) {ds : List D} (hl : ds.length = df.np) {M : MS} : Phi G tbl (n + 1) f ds M = fin (evSs G (Phi G tbl n) n df.body (startG df.N ds) M) := by
  unfold Phi
  simp only [h, hd, List.drop_nil, List.append_nil, if_pos hl, hp]
  cases evSs G (Phi G tbl n) n df.body (startG df.N ds) M with
  | ok f M => cases f <;> rfl
  | exc x M => rfl
  | bad => rfl
end
@[simp] theorem nox_ok {α : Type} (a : α) (M : MS) : (Rs.ok a M).nox = .ok a M := rfl

/-! ### comprehensions -/
section
variable {α : Type} {step : D → MS → Rs (Option D)} {M : MS}
@[simp] theorem compL_nil : compL step [] M = .ok [] M := rfl
theorem compL_map (f g : α → D) : ∀ (xs : List α) (M : MS), (∀ x ∈ xs, ∀ M, step (f x) M = .ok (some (g x)) M) → compL step (xs.map f) M = .ok (xs.map g) M
  | [], M, _ => rfl
  | x :: xs, M, h => by
    have e := h x (List.mem_cons_self ..) M
    have r := compL_map f g xs M fun y hy => h y (List.mem_cons_of_mem _ hy)
    simp [compL, e, r]
theorem compL_filter (f g : α → D) (p : α → Bool) : ∀ (xs : List α) (M : MS), (∀ x ∈ xs, ∀ M, step (f x) M = .ok (if p x = true then some (g x) else none) M) → compL step (xs.map f) M = .ok ((xs.filter p).map g) M
  | [], M, _ => rfl
  | x :: xs, M, h => by
    have e := h x (List.mem_cons_self ..) M
    have r := compL_filter f g p xs M fun y hy => h y (List.mem_cons_of_mem _ hy)
    cases q : p x <;> simp [compL, e, r, q]
end
@[simp] theorem boolsO_map {α : Type} (p : α → Bool) : ∀ xs : List α, boolsO (xs.map fun x => .bl (p x)) = some (xs.map p)
  | [] => rfl
  | x :: xs => by
    show (boolsO (xs.map fun x => .bl (p x))).map _ = _
    rw [boolsO_map p xs]; rfl
section
variable {n : Nat}
theorem min_one (a : Nat) : min a 1 ≤ 16 * n + 150 := by omega
@[simp] theorem inO_s_nil (a : String) : inO n (.str (.ofString a)) [] = some false := by
  unfold inO
  rw [if_pos ⟨rfl, by simp [D.plain], by simp [D.py, PyData.depth, min_one]⟩]; rfl
@[simp] theorem inO_s_cons (a b : String) (xs : List D) : inO n (.str (.ofString a)) (.str (.ofString b) :: xs) = (inO n (.str (.ofString a)) xs).map fun r => decide (a = b) || r := by
  unfold inO
  by_cases h : D.plains xs = true
  · rw [if_pos ⟨by simp [D.plains, D.plain, h], by simp [D.plain], by simp [D.py, PyData.depth, min_one]⟩, if_pos ⟨h, by simp [D.plain], by simp [D.py, PyData.depth, min_one]⟩]
    simp only [List.any_cons, Option.map_some, Option.some.injEq]
    congr 1
    show decide (Str.ofString b = Str.ofString a) = _
    exact decide_eq_decide.mpr (ofString_inj.trans eq_comm)
  · rw [if_neg (fun z => h (by simpa [D.plains, D.plain] using z.1)), if_neg (fun z => h z.1)]; rfl
@[simp] theorem inO_i_nil (a : Int) : inO n (.int a) [] = some false := by
  unfold inO
  rw [if_pos ⟨rfl, rfl, by simp [D.py, PyData.depth, min_one]⟩]; rfl
@[simp] theorem inO_i_cons (a b : Int) (xs : List D) : inO n (.int a) (.int b :: xs) = (inO n (.int a) xs).map fun r => decide (a = b) || r := by
  unfold inO
  by_cases h : D.plains xs = true
  · rw [if_pos ⟨by simp [D.plains, D.plain, h], rfl, by simp [D.py, PyData.depth, min_one]⟩, if_pos ⟨h, rfl, by simp [D.py, PyData.depth, min_one]⟩]
    simp only [List.any_cons, Option.map_some, Option.some.injEq]
    congr 1
    show decide (b = a) = _
    exact decide_eq_decide.mpr eq_comm
  · rw [if_neg (fun z => h (by simpa [D.plains, D.plain] using z.1)), if_neg (fun z => h z.1)]; rfl
@[simp] theorem inO_b_nil (a : Bool) : inO n (.bl a) [] = some false := by
  unfold inO
  rw [if_pos ⟨rfl, rfl, by simp [D.py, PyData.depth, min_one]⟩]; rfl
@[simp] theorem inO_b_cons (a b : Bool) (xs : List D) : inO n (.bl a) (.bl b :: xs) = (inO n (.bl a) xs).map fun r => decide (a = b) || r := by
  unfold inO
  by_cases h : D.plains xs = true
  · rw [if_pos ⟨by simp [D.plains, D.plain, h], rfl, by simp [D.py, PyData.depth, min_one]⟩, if_pos ⟨h, rfl, by simp [D.py, PyData.depth, min_one]⟩]
    simp only [List.any_cons, Option.map_some, Option.some.injEq]
    congr 1
    show decide (b = a) = _
    exact decide_eq_decide.mpr eq_comm
  · rw [if_neg (fun z => h (by simpa [D.plains, D.plain] using z.1)), if_neg (fun z => h z.1)]; rfl
theorem inO_s_map (a : String) : ∀ xs : List String, inO n (.str (.ofString a)) (xs.map D.s) = some (decide (a ∈ xs))
  | [] => by simp
  | b :: xs => by
    rw [List.map_cons, inO_s_cons, inO_s_map a xs]
    simp
theorem inO_b_map {α : Type} (p : α → Bool) (a : Bool) : ∀ xs : List α, inO n (.bl a) (xs.map fun x => .bl (p x)) = some (xs.any fun x => decide (a = p x))
  | [] => by simp
  | b :: xs => by
    rw [List.map_cons, inO_b_cons, inO_b_map p a xs]
    simp
end

/-! ### plain data -/
@[simp] theorem plain_tup (xs : List D) : (D.tup xs).plain = D.plains xs := by rw [D.plain]
@[simp] theorem plain_lst (xs : List D) : (D.lst xs).plain = D.plains xs := by rw [D.plain]
@[simp] theorem plain_s (x : String) : (D.str (.ofString x)).plain = true := by simp [D.plain]
@[simp] theorem plain_i (x : Int) : (D.int x).plain = true := by simp [D.plain]
@[simp] theorem plain_b (x : Bool) : (D.bl x).plain = true := by simp [D.plain]
@[simp] theorem plain_non : D.non.plain = true := by simp [D.plain]
@[simp] theorem plains_nil : D.plains [] = true := by rw [D.plains]
@[simp] theorem plains_cons (x : D) (xs : List D) : D.plains (x :: xs) = (x.plain && D.plains xs) := by rw [D.plains]
@[simp] theorem plains_app : ∀ xs ys : List D, D.plains (xs ++ ys) = (D.plains xs && D.plains ys)
  | [], ys => by simp
  | x :: xs, ys => by simp [plains_app xs ys, Bool.and_assoc]
theorem plains_tail : ∀ xs : List D, D.plains xs = true → D.plains xs.tail = true
  | [], _ => by simp
  | x :: xs, h => by simp at h; exact h.2
theorem eqO_nil {n : Nat} {xs : List D} (h : D.plains xs = true) : eqO n (.tup xs) (.tup []) = some (decide (xs = [])) := by
  refine eqO_of (by simp [h]) (by simp) ?_ ?_
  · have : (D.tup []).dp = 1 := by decide
    omega
  · cases xs <;> simp [D.eqb, D.py, D.pys, PyData.eqv, PyData.eqvAll]
/-! ### parts of a list -/
theorem cut_from {α : Type} (xs : List α) (k : Nat) : cut xs (some (k : Int)) none = xs.drop k := by
  unfold cut
  rw [HT.sIx_nat, HT.sIx_none]
  by_cases h : k ≤ xs.length
  · rw [Nat.min_eq_left h, List.take_of_length_le (by simp)]
  · rw [Nat.min_eq_right (by omega), List.drop_eq_nil_of_le (Nat.le_refl _), List.drop_eq_nil_of_le (by omega)]; simp
theorem cut_to {α : Type} (xs : List α) (k : Nat) : cut xs none (some (k : Int)) = xs.take k := by
  unfold cut
  rw [HT.sIx_nat, HT.sIx_none]
  by_cases h : k ≤ xs.length
  · rw [Nat.min_eq_left h]; simp
  · rw [Nat.min_eq_right (by omega), List.take_of_length_le (by simp), List.take_of_length_le (by omega)]; simp
theorem cut_1 {α : Type} (xs : List α) : cut xs (some 1) none = xs.tail := by
  have := cut_from xs 1
  rw [List.drop_one] at this
  exact this
theorem cut_ft {α : Type} (xs : List α) (j k : Nat) : cut xs (some (j : Int)) (some (k : Int)) = (xs.drop j).take (k - j) := by
  unfold cut
  rw [HT.sIx_nat, HT.sIx_nat]
  by_cases h : j ≤ xs.length
  · rw [Nat.min_eq_left h]
    by_cases h2 : k ≤ xs.length
    · rw [Nat.min_eq_left h2]
    · rw [Nat.min_eq_right (show xs.length ≤ k by omega), List.take_of_length_le (by simp), List.take_of_length_le (by simp; omega)]
  · rw [Nat.min_eq_right (show xs.length ≤ j by omega), List.drop_eq_nil_of_le (Nat.le_refl _), List.drop_eq_nil_of_le (by omega)]; simp

/-! ### the same -/
mutual
theorem eqv_same : ∀ d : D, PyData.eqv d.py d.py = true
  | .non => rfl
  | .bl b => by simp [D.py, PyData.eqv]
  | .int i => by simp [D.py, PyData.eqv]
  | .str x => by simp [D.py, PyData.eqv]
  | .tup xs => by simp [D.py, PyData.eqv, eqv_sames xs]
  | .lst xs => by simp [D.py, PyData.eqv, eqv_sames xs]
  | .dct _ => rfl
  | .ref _ => rfl
theorem eqv_sames : ∀ ds : List D, PyData.eqvAll (D.pys ds) (D.pys ds) = true
  | [] => rfl
  | d :: ds => by simp [D.pys, PyData.eqvAll, eqv_same d, eqv_sames ds]
end
theorem eqO_same {n : Nat} {d : D} (h : d.plain = true) (l : d.dp ≤ 16 * n + 150) : eqO n d d = some true :=
  eqO_of h h (by omega) (eqv_same d)
theorem dp_tup (xs : List D) : (D.tup xs).dp = D.dps xs + 1 := rfl
theorem dp_lst (xs : List D) : (D.lst xs).dp = D.dps xs + 1 := rfl
theorem dps_nil : D.dps [] = 0 := rfl
theorem dps_cons (x : D) (xs : List D) : D.dps (x :: xs) = max x.dp (D.dps xs) := rfl
theorem dp_int (x : Int) : (D.int x).dp = 0 := rfl
theorem dp_str (x : Str) : (D.str x).dp = 0 := rfl
theorem dp_bl (x : Bool) : (D.bl x).dp = 0 := rfl
theorem dp_non : D.non.dp = 0 := rfl
theorem dps_le {k : Nat} : ∀ {xs : List D}, (∀ x ∈ xs, x.dp ≤ k) → D.dps xs ≤ k
  | [], _ => Nat.zero_le _
  | x :: xs, h => by
    rw [dps_cons]
    exact Nat.max_le.mpr ⟨h x (List.mem_cons_self ..), dps_le fun y hy => h y (List.mem_cons_of_mem _ hy)⟩
theorem plains_all : ∀ {xs : List D}, (∀ x ∈ xs, x.plain = true) → D.plains xs = true
  | [], _ => by simp
  | x :: xs, h => by simp [h x (List.mem_cons_self ..), plains_all fun y hy => h y (List.mem_cons_of_mem _ hy)]
end Mi
set_option Elab.async false
set_option linter.all false
set_option maxRecDepth 100000
/-! Mi, part 22: plain laws: the tape. -/
namespace Mi
open PySem
/-- the tape as it stands -/
def tapeO (cs : List Int) (k v mix : Int) : MO := .cell (.lst [.lst (cs.map .int), .int k, .int v, .int mix])
def Tp (M : MS) : Prop := ∃ cs k v mix, M = [tapeO cs k v mix] ∧ 0 ≤ k ∧ 0 ≤ v ∧ 0 ≤ mix
def bDraw : List S :=
  [.ite (.prim .lt [(.prim .item [(.var 0), (.con (.int 2))]), (.var 1)])
    [.set (.nm 2) (.prim .item [(.var 0), (.con (.int 0))]),
      .set (.nm 3) (.prim .item [(.var 0), (.con (.int 1))]),
      .set (.nm 4) (.ifx (.prim .lt [(.var 3), (.prim .len [(.var 2)])]) (.prim .item [(.var 2), (.var 3)]) (.prim .item [(.var 0), (.con (.int 3))])),
      .ite (.prim .lt [(.var 4), (.con (.int 0))])
      [.set (.nm 4) (.prim .sub [(.prim .mul [(.prim .neg [(.con (.int 2))]), (.var 4)]), (.con (.int 1))])]
      [],
      .ite (.or [(.prim .lt [(.var 4), (.prim .pow [(.con (.int 10)), (.con (.int 9))])]), (.prim .ge [(.var 3), (.prim .len [(.var 2)])])])
      [.set (.nm 4) (.prim .mod [(.prim .intOf [(.prim .add [(.prim .add [(.prim .mul [(.var 4), (.con (.int 48271))]), (.prim .mul [(.var 3), (.con (.int 69621))])]), (.con (.int 12345))])]), (.con (.int 2147483647))]),
        .set (.nm 4) (.prim .mod [(.prim .intOf [(.prim .add [(.prim .add [(.prim .mul [(.var 4), (.var 4)]), (.prim .mul [(.var 3), (.con (.int 39373))])]), (.con (.int 6789))])]), (.con (.int 2147483629))])]
      [],
      .sto (.rf 0) (.con (.int 1)) (.prim .add [(.var 3), (.con (.int 1))]),
      .sto (.rf 0) (.con (.int 2)) (.var 4)]
    [],
  .set (.nm 5) (.prim .mod [(.prim .intOf [(.prim .item [(.var 0), (.con (.int 2))])]), (.var 1)]),
  .sto (.rf 0) (.con (.int 2)) (.prim .fdiv [(.prim .item [(.var 0), (.con (.int 2))]), (.var 1)]),
  .ret (.var 5)]
def dDraw : Df := { np := 2, dfl := [], N := ["tape", "many", "cells", "k", "cell", "digit"], body := bDraw }
section
variable {G : Genv} {tbl : List Df} {n f : Nat}
theorem mulL {a b : Int} (h : Builtin.Int.intBits b ≤ 64) : mulOk a b = true := by
  unfold mulOk; simp [h]
theorem mulR {a b : Int} (h : Builtin.Int.intBits a ≤ 64) : mulOk a b = true := by
  unfold mulOk; simp [h]

theorem bits_small {a : Int} (h : a.natAbs < 2 ^ 64) : Builtin.Int.intBits a ≤ 64 := by
  unfold Builtin.Int.intBits
  split
  · exact Nat.zero_le _
  · rename_i z
    have hz : a.natAbs ≠ 0 := fun e => z (by simp [Int.natAbs_eq_zero.mp e])
    have := (Nat.log2_lt hz).mpr h
    omega
theorem pr_mulL {a b : Int} (h : a.natAbs < 2 ^ 64) : pr n .mul [.int a, .int b] = some (.int (a * b)) := by
  rw [pr_mul, if_pos (mulR (bits_small h))]
theorem pr_mulR {a b : Int} (h : b.natAbs < 2 ^ 64) : pr n .mul [.int a, .int b] = some (.int (a * b)) := by
  rw [pr_mul, if_pos (mulL (bits_small h))]
theorem pr_modP {a b : Int} (h : 0 < b) : pr n .mod [.int a, .int b] = some (.int (a % b)) := by
  rw [pr_mod, if_pos h]
theorem pr_divP {a b : Int} (h : 0 < b) (l : b.natAbs.log2 < 9000) : pr n .fdiv [.int a, .int b] = some (.int (a / b)) := by
  rw [pr_fdiv, if_pos (by unfold divOk; simp [h, l])]
theorem log2_small {b : Int} (h : b.natAbs < 2 ^ 64) : b.natAbs.log2 < 9000 := by
  by_cases hz : b.natAbs = 0
  · rw [hz]; decide
  · have := (Nat.log2_lt hz).mpr h
    omega
theorem tp_len {M : MS} (h : Tp M) : M.length = 1 := by
  obtain ⟨_, _, _, _, rfl, _⟩ := h; rfl
theorem draw_ok (h : tbl[f]? = some dDraw) {M : MS} (hM : Tp M) {m : Int} (hm : 0 < m) (hl : m.natAbs.log2 < 9000) : ∃ i M', Tp M' ∧ 0 ≤ i ∧ i < m ∧ Phi G tbl (n + 1) f [.ref 0, .int m] M = .ok (.int i) M' := by
  obtain ⟨cs, k, v, mix, rfl, hk, hv, hx⟩ := hM
  rw [phi_s h rfl rfl rfl]
  by_cases h1 : v < m
  · have main : ∀ c : Int, (if k < cs.length then L2.atI (cs.map D.int) k else some (D.int mix)) = some (D.int c) → ∃ i M', Tp M' ∧ 0 ≤ i ∧ i < m ∧ fin (evSs G (Phi G tbl n) n dDraw.body (startG dDraw.N [.ref 0, .int m]) [tapeO cs k v mix]) = .ok (.int i) M' := by
      intro c hc
      have go : ∀ c1 : Int, 0 ≤ c1 → c1 = (if c < 0 then -2 * c - 1 else c) → ∀ c2 : Int, 0 ≤ c2 → c2 = (if c1 < 1000000000 ∨ ¬ k < cs.length then ((c1 * 48271 + k * 69621 + 12345) % 2147483647 * ((c1 * 48271 + k * 69621 + 12345) % 2147483647) + k * 39373 + 6789) % 2147483629 else c1) → ∃ i M', Tp M' ∧ 0 ≤ i ∧ i < m ∧ fin (evSs G (Phi G tbl n) n dDraw.body (startG dDraw.N [.ref 0, .int m]) [tapeO cs k v mix]) = .ok (.int i) M' := by
        intro c1 hc1 e1 c2 hc2 e2
        refine ⟨c2 % m, [tapeO cs (k + 1) (c2 / m) mix], ⟨cs, k + 1, c2 / m, mix, rfl, by omega, Int.ediv_nonneg hc2 (by omega), hx⟩, Int.emod_nonneg _ (by omega), Int.emod_lt_of_pos _ hm, ?_⟩
        have q : ((c1 * 48271 + k * 69621 + 12345) % 2147483647).natAbs < 2 ^ 64 := by
          have a1 := Int.emod_nonneg (c1 * 48271 + k * 69621 + 12345) (b := 2147483647) (by decide)
          have a2 := Int.emod_lt_of_pos (c1 * 48271 + k * 69621 + 12345) (b := 2147483647) (by decide)
          omega
        have p9 : pr n .pow [.int 10, .int 9] = some (.int (1000000000)) := rfl
        have t1 : ∀ a : Int, pr n .mul [.int a, .int 48271] = some (.int (a * 48271)) := fun a => pr_mulR (by decide)
        have t2 : ∀ a : Int, pr n .mul [.int a, .int 69621] = some (.int (a * 69621)) := fun a => pr_mulR (by decide)
        have t3 : ∀ a : Int, pr n .mul [.int a, .int 39373] = some (.int (a * 39373)) := fun a => pr_mulR (by decide)
        have t4 : ∀ a : Int, pr n .mul [.int (-2), .int a] = some (.int (-2 * a)) := fun a => pr_mulL (by decide)
        have t5 : ∀ a : Int, pr n .mod [.int a, .int 2147483647] = some (.int (a % 2147483647)) := fun a => pr_modP (by decide)
        have t6 : ∀ a : Int, pr n .mod [.int a, .int 2147483629] = some (.int (a % 2147483629)) := fun a => pr_modP (by decide)
        have t7 := pr_mulL (n := n) (a := (c1 * 48271 + k * 69621 + 12345) % 2147483647) (b := (c1 * 48271 + k * 69621 + 12345) % 2147483647) q
        have nn : ∀ {a : Int}, ¬ a < 1000000000 → 1000000000 ≤ a := fun h => by omega
        by_cases hk2 : k < cs.length
        · rw [if_pos hk2] at hc
          have hk3 : ¬ (cs.length : Int) ≤ k := by omega
          by_cases h3 : c < 0
          · rw [if_pos h3] at e1
            by_cases h4 : c1 < 1000000000
            · rw [if_pos (.inl h4)] at e2
              simp [dDraw, bDraw, startG, deref_ref, tapeO, pr_iteml, h1, hk2, hk3, hc, h3, t4, ← e1, h4, p9, t1, t2, t3, t5, t6, t7, ← e2, pr_modP hm, pr_divP hm hl, evTg, upT, setO, L2.ixN]
            · rw [if_neg (fun z => z.elim h4 (fun w => w hk2))] at e2
              simp [dDraw, bDraw, startG, deref_ref, tapeO, pr_iteml, h1, hk2, hk3, hc, h3, t4, ← e1, h4, p9, t1, t2, t3, t5, t6, t7, e2, pr_modP hm, pr_divP hm hl, evTg, upT, setO, L2.ixN]
          · rw [if_neg h3] at e1
            subst e1
            by_cases h4 : c1 < 1000000000
            · rw [if_pos (.inl h4)] at e2
              simp [dDraw, bDraw, startG, deref_ref, tapeO, pr_iteml, h1, hk2, hk3, hc, h3, t4, h4, p9, t1, t2, t3, t5, t6, t7, ← e2, pr_modP hm, pr_divP hm hl, evTg, upT, setO, L2.ixN]
            · rw [if_neg (fun z => z.elim h4 (fun w => w hk2))] at e2
              simp [dDraw, bDraw, startG, deref_ref, tapeO, pr_iteml, h1, hk2, hk3, hc, h3, t4, h4, p9, t1, t2, t3, t5, t6, t7, e2, pr_modP hm, pr_divP hm hl, evTg, upT, setO, L2.ixN]
        · rw [if_neg hk2] at hc
          have hk3 : (cs.length : Int) ≤ k := by omega
          by_cases h3 : c < 0
          · rw [if_pos h3] at e1
            rw [if_pos (.inr hk2)] at e2
            by_cases h4 : c1 < 1000000000
            · simp [dDraw, bDraw, startG, deref_ref, tapeO, pr_iteml, h1, hk2, hk3, hc, h3, t4, ← e1, h4, p9, t1, t2, t3, t5, t6, t7, ← e2, pr_modP hm, pr_divP hm hl, evTg, upT, setO, L2.ixN]
            · simp [dDraw, bDraw, startG, deref_ref, tapeO, pr_iteml, h1, hk2, hk3, hc, h3, t4, ← e1, h4, p9, t1, t2, t3, t5, t6, t7, ← e2, pr_modP hm, pr_divP hm hl, evTg, upT, setO, L2.ixN]
          · rw [if_neg h3] at e1
            subst e1
            rw [if_pos (.inr hk2)] at e2
            by_cases h4 : c1 < 1000000000
            · simp [dDraw, bDraw, startG, deref_ref, tapeO, pr_iteml, h1, hk2, hk3, hc, h3, t4, h4, p9, t1, t2, t3, t5, t6, t7, ← e2, pr_modP hm, pr_divP hm hl, evTg, upT, setO, L2.ixN]
            · simp [dDraw, bDraw, startG, deref_ref, tapeO, pr_iteml, h1, hk2, hk3, hc, h3, t4, h4, p9, t1, t2, t3, t5, t6, t7, ← e2, pr_modP hm, pr_divP hm hl, evTg, upT, setO, L2.ixN]
      have z1 : 0 ≤ (if c < 0 then -2 * c - 1 else c) := by split <;> omega
      refine go _ z1 rfl _ ?_ rfl
      generalize (if c < 0 then -2 * c - 1 else c) = c1 at z1 ⊢
      split
      · exact Int.emod_nonneg _ (by decide)
      · exact z1
    by_cases h2 : k < cs.length
    · obtain ⟨j, rfl⟩ := Int.eq_ofNat_of_zero_le hk
      have hj : j < cs.length := by omega
      exact main cs[j] (by rw [if_pos h2, atI_nat]; simp [hj])
    · exact main mix (by rw [if_neg h2])
  · refine ⟨v % m, [tapeO cs k (v / m) mix], ⟨cs, k, v / m, mix, rfl, hk, Int.ediv_nonneg hv (by omega), hx⟩, Int.emod_nonneg _ (by omega), Int.emod_lt_of_pos _ hm, ?_⟩
    simp [dDraw, bDraw, startG, deref_ref, tapeO, pr_iteml, h1, pr_modP hm, pr_divP hm hl, evTg, upT, setO, L2.ixN]

def bTape : List S :=
  [.set (.nm 1) (.prim .len [(.var 0)]),
  .loop (.nm 2) (.seq (.var 0))
    [.set (.nm 1) (.prim .mod [(.prim .intOf [(.prim .add [(.prim .add [(.prim .mul [(.var 1), (.con (.int 48271))]), (.prim .mul [(.var 2), (.con (.int 16807))])]), (.con (.int 7))])]), (.con (.int 1000000007))])] [2],
  .ret (.new (.lst [(.prim .listOf [(.var 0)]), (.con (.int 0)), (.con (.int 0)), (.var 1)]))]
def dTape : Df := { np := 1, dfl := [], N := ["script", "mix", "cell"], body := bTape }
theorem tape_loop (ns : List Int) : ∀ (cs : List Int) (m : Int) (M : MS), 0 ≤ m → ∃ m', 0 ≤ m' ∧ loopL (lstep G (Phi G tbl n) n (.nm 2) [.set (.nm 1) (.prim .mod [(.prim .intOf [(.prim .add [(.prim .add [(.prim .mul [(.var 1), (.con (.int 48271))]), (.prim .mul [(.var 2), (.con (.int 16807))])]), (.con (.int 7))])]), (.con (.int 1000000007))])] [2]) (cs.map D.int) [some (.val (.lst (ns.map D.int))), some (.val (.int m)), none] M = .ok (.nxt [some (.val (.lst (ns.map D.int))), some (.val (.int m')), none]) M
  | [], m, M, h => ⟨m, h, rfl⟩
  | c :: cs, m, M, h => by
    have t1 : ∀ a : Int, pr n .mul [.int a, .int 48271] = some (.int (a * 48271)) := fun a => pr_mulR (by decide)
    have t2 : ∀ a : Int, pr n .mul [.int a, .int 16807] = some (.int (a * 16807)) := fun a => pr_mulR (by decide)
    have t3 : ∀ a : Int, pr n .mod [.int a, .int 1000000007] = some (.int (a % 1000000007)) := fun a => pr_modP (by decide)
    obtain ⟨m', h', e⟩ := tape_loop ns cs ((m * 48271 + c * 16807 + 7) % 1000000007) M (Int.emod_nonneg _ (by decide))
    refine ⟨m', h', ?_⟩
    rw [← e, List.map_cons, loopL_cons]
    simp [lstep, t1, t2, t3]
theorem tape_ok (h : tbl[f]? = some dTape) (ns : List Int) : ∃ M', Tp M' ∧ Phi G tbl (n + 1) f [.lst (ns.map .int)] [] = .ok (.ref 0) M' := by
  rw [phi_s h rfl rfl rfl]
  obtain ⟨m, hm, e⟩ := tape_loop (G := G) (tbl := tbl) (n := n) ns ns ns.length [] (Int.natCast_nonneg _)
  refine ⟨[tapeO ns 0 0 m], ⟨ns, 0, 0, m, rfl, Int.le_refl _, Int.le_refl _, hm⟩, ?_⟩
  simp [dTape, bTape, startG, e, tapeO]
def bPick (fd : Nat) : List S := [.ret (.prim .item [(.var 1), (.call fd [(.var 0), (.prim .len [(.var 1)])])])]
def dPick (fd : Nat) : Df := { np := 2, dfl := [], N := ["tape", "rows"], body := bPick fd }
theorem pick_ok {fd : Nat} (h : tbl[f]? = some (dPick fd)) (hd : tbl[fd]? = some dDraw) {M : MS} (hM : Tp M) {rows : List D} (h0 : rows ≠ []) (h1 : rows.length < 2 ^ 63) : ∃ d M', Tp M' ∧ d ∈ rows ∧ Phi G tbl (n + 2) f [.ref 0, .lst rows] M = .ok d M' := by
  have hp : 0 < rows.length := List.length_pos_iff.mpr h0
  obtain ⟨i, M', hT, i0, i1, e⟩ := draw_ok (G := G) (tbl := tbl) (n := n) hd hM (m := rows.length) (by omega) (log2_small (by omega))
  obtain ⟨j, rfl⟩ := Int.eq_ofNat_of_zero_le i0
  have hj : j < rows.length := by omega
  refine ⟨rows[j], M', hT, List.getElem_mem hj, ?_⟩
  rw [phi_s h rfl rfl rfl]
  simp [dPick, bPick, startG, e, pr_iteml, atI_nat, hj]

/-- a comprehension that draws: what it keeps, in order -/
theorem compL_draw {α β : Type} {step : D → MS → Rs (Option D)} (f : α → D) (g : α → β → D) (R : α → β → Prop) : ∀ (xs : List α), (∀ x ∈ xs, ∀ M, Tp M → ∃ o M', Tp M' ∧ step (f x) M = .ok o M' ∧ (o = none ∨ ∃ b, o = some (g x b) ∧ R x b)) → ∀ M, Tp M → ∃ (ps : List (α × β)) (M' : MS), Tp M' ∧ (ps.map (·.1)).Sublist xs ∧ (∀ p ∈ ps, R p.1 p.2) ∧ compL step (xs.map f) M = .ok (ps.map fun p => g p.1 p.2) M'
  | [], _, M, hM => ⟨[], M, hM, List.Sublist.refl _, by simp, rfl⟩
  | x :: xs, h, M, hM => by
    obtain ⟨o, M1, h1, e1, ho⟩ := h x (List.mem_cons_self ..) M hM
    obtain ⟨ps, M2, h2, sl, hp, e2⟩ := compL_draw f g R xs (fun y hy => h y (List.mem_cons_of_mem _ hy)) M1 h1
    rcases ho with rfl | ⟨b, rfl, hb⟩
    · exact ⟨ps, M2, h2, sl.cons _, hp, by simp [compL, e1, e2]⟩
    · refine ⟨(x, b) :: ps, M2, h2, by simpa using sl.cons_cons x, ?_, by simp [compL, e1, e2]⟩
      intro p hp'
      rcases List.mem_cons.mp hp' with rfl | hm
      · exact hb
      · exact hp p hm
theorem compL_all {α β : Type} {step : D → MS → Rs (Option D)} (f : α → D) (g : α → β → D) (R : α → β → Prop) : ∀ (xs : List α), (∀ x ∈ xs, ∀ M, Tp M → ∃ b M', Tp M' ∧ step (f x) M = .ok (some (g x b)) M' ∧ R x b) → ∀ M, Tp M → ∃ (ps : List (α × β)) (M' : MS), Tp M' ∧ ps.map (·.1) = xs ∧ (∀ p ∈ ps, R p.1 p.2) ∧ compL step (xs.map f) M = .ok (ps.map fun p => g p.1 p.2) M'
  | [], _, M, hM => ⟨[], M, hM, rfl, by simp, rfl⟩
  | x :: xs, h, M, hM => by
    obtain ⟨b, M1, h1, e1, hb⟩ := h x (List.mem_cons_self ..) M hM
    obtain ⟨ps, M2, h2, sl, hp, e2⟩ := compL_all f g R xs (fun y hy => h y (List.mem_cons_of_mem _ hy)) M1 h1
    refine ⟨(x, b) :: ps, M2, h2, by simp [sl], ?_, by simp [compL, e1, e2]⟩
    intro p hp'
    rcases List.mem_cons.mp hp' with rfl | hm
    · exact hb
    · exact hp p hm

/-- a loop whose turns leave the slots as they were -/
theorem loopL_inv {step : D → Sg → MS → Rs Fl} (σ : Sg) (P : MS → Prop) : ∀ (xs : List D), (∀ x ∈ xs, ∀ M, P M → ∃ M', P M' ∧ step x σ M = .ok (.nxt σ) M') → ∀ M, P M → ∃ M', P M' ∧ loopL step xs σ M = .ok (.nxt σ) M'
  | [], _, M, hM => ⟨M, hM, rfl⟩
  | x :: xs, h, M, hM => by
    obtain ⟨M1, h1, e1⟩ := h x (List.mem_cons_self ..) M hM
    obtain ⟨M2, h2, e2⟩ := loopL_inv σ P xs (fun y hy => h y (List.mem_cons_of_mem _ hy)) M1 h1
    exact ⟨M2, h2, by simp [loopL_cons, e1, e2]⟩
theorem rngO_nat (k : Nat) (h : k < 2 ^ 62) : rngO 0 (k : Int) = some ((List.range k).map fun j => .int (j : Int)) := by
  unfold rngO
  rw [if_pos (by omega)]
  simp
end
end Mi
set_option Elab.async false
set_option linter.all false
set_option maxRecDepth 100000
set_option maxHeartbeats 0
namespace K13
open Mi PySem PySem.Spec PyProof.Rows L2
-- printed by mkast.py
def b_has_value : List S :=
  [.ite (.prim .eq [(.prim .item [(.var 0), (.con (.int 0))]), (.con (.str "record"))])
    [.ret (.prim .all [(.comp [1, 2] (.tup [(.nm 1), (.nm 2)]) (.seq (.prim .item [(.var 0), (.con (.int 1))])) [] (.call 0 [(.var 2)]))])]
    [],
  .ite (.prim .eq [(.prim .item [(.var 0), (.con (.int 0))]), (.con (.str "case"))])
    [.ret (.prim .any [(.comp [2, 3] (.tup [(.nm 3), (.nm 2)]) (.seq (.prim .item [(.var 0), (.con (.int 1))])) [] (.call 0 [(.var 2)]))])]
    [],
  .ret (.prim .inn [(.prim .item [(.var 0), (.con (.int 0))]), (.tup [(.con (.str "int")), (.con (.str "fn"))])])]
def n_has_value : List Str := ["told", "label", "inner", "tag"]
def d_has_value : Df := { np := 1, dfl := [], N := n_has_value, body := b_has_value }
def b_many_samples : List S :=
  [.ite (.prim .eq [(.prim .item [(.var 0), (.con (.int 0))]), (.con (.str "int"))])
    [.ret (.glb "SMALL_MOST" (.int 5))]
    [],
  .ite (.prim .eq [(.prim .item [(.var 0), (.con (.int 0))]), (.con (.str "fn"))])
    [.ret (.prim .add [(.con (.int 1)), (.call 1 [(.prim .item [(.var 0), (.con (.int 2))])])])]
    [],
  .set (.nm 1) (.ifx (.prim .eq [(.prim .item [(.var 0), (.con (.int 0))]), (.con (.str "record"))]) (.con (.int 1)) (.con (.int 0))),
  .loop (.tup [(.nm 2), (.nm 3)]) (.seq (.prim .item [(.var 0), (.con (.int 1))]))
    [.set (.nm 1) (.ifx (.prim .eq [(.prim .item [(.var 0), (.con (.int 0))]), (.con (.str "record"))]) (.prim .mul [(.var 1), (.call 1 [(.var 3)])]) (.prim .add [(.var 1), (.call 1 [(.var 3)])]))] [2, 3],
  .ret (.var 1)]
def n_many_samples : List Str := ["told", "many", "label", "inner"]
def d_many_samples : Df := { np := 1, dfl := [], N := n_many_samples, body := b_many_samples }
def b_sample : List S :=
  [.ite (.not (.chain .le .lt (.con (.int 0)) (.var 1) (.call 1 [(.var 0)])))
    [.raise "NoSuch" [(.var 1)]]
    [],
  .ite (.prim .eq [(.prim .item [(.var 0), (.con (.int 0))]), (.con (.str "int"))])
    [.ret (.tup [(.con (.str "int")), (.prim .sub [(.var 1), (.con (.int 1))])])]
    [],
  .ite (.prim .eq [(.prim .item [(.var 0), (.con (.int 0))]), (.con (.str "fn"))])
    [.ite (.prim .eq [(.var 1), (.con (.int 0))])
      [.ret (.glb "ENDLESS" (.tup [(.str "fix"), (.str "f"), (.str "x"), (.tup [(.str "call"), (.tup [(.str "name"), (.str "f")]), (.tup [(.str "name"), (.str "x")])])]))]
      [],
      .ret (.tup [(.con (.str "fn")), (.con (.str "x")), (.call 2 [(.prim .item [(.var 0), (.con (.int 2))]), (.prim .sub [(.var 1), (.con (.int 1))])])])]
    [],
  .ite (.prim .eq [(.prim .item [(.var 0), (.con (.int 0))]), (.con (.str "record"))])
    [.own 2 (.lst []),
      .loop (.tup [(.nm 3), (.nm 4)]) (.seq (.prim .item [(.var 0), (.con (.int 1))]))
      [.set (.nm 5) (.call 1 [(.var 4)]),
        .mth .app (.sl 2) (.tup [(.var 3), (.call 2 [(.var 4), (.prim .mod [(.var 1), (.var 5)])])]),
        .set (.nm 1) (.prim .fdiv [(.var 1), (.var 5)])] [3, 4, 5],
      .ret (.tup [(.con (.str "record")), (.prim .tupleOf [(.bor 2)])])]
    [],
  .loop (.tup [(.nm 6), (.nm 4)]) (.seq (.prim .item [(.var 0), (.con (.int 1))]))
    [.set (.nm 5) (.call 1 [(.var 4)]),
      .ite (.prim .lt [(.var 1), (.var 5)])
      [.ret (.tup [(.con (.str "tag")), (.var 6), (.call 2 [(.var 4), (.var 1)])])]
      [],
      .aug 1 .sub (.var 5)] [4, 5, 6],
  .raise "NoSuch" [(.var 1)]]
def n_sample : List Str := ["told", "number", "fields", "label", "inner", "many", "tag"]
def d_sample : Df := { np := 2, dfl := [], N := n_sample, body := b_sample }
def b_number_of : List S :=
  [.ite (.and [(.prim .eq [(.prim .item [(.var 0), (.con (.int 0))]), (.con (.str "int"))]), (.prim .eq [(.prim .item [(.var 1), (.con (.int 0))]), (.con (.str "int"))]), (.chain .le .lt (.prim .neg [(.con (.int 1))]) (.prim .item [(.var 1), (.con (.int 1))]) (.prim .sub [(.glb "SMALL_MOST" (.int 5)), (.con (.int 1))]))])
    [.ret (.prim .add [(.prim .item [(.var 1), (.con (.int 1))]), (.con (.int 1))])]
    [],
  .ite (.and [(.prim .eq [(.prim .item [(.var 0), (.con (.int 0))]), (.con (.str "fn"))]), (.prim .eq [(.var 1), (.glb "ENDLESS" (.tup [(.str "fix"), (.str "f"), (.str "x"), (.tup [(.str "call"), (.tup [(.str "name"), (.str "f")]), (.tup [(.str "name"), (.str "x")])])]))])])
    [.ret (.con (.int 0))]
    [],
  .ite (.and [(.prim .eq [(.prim .item [(.var 0), (.con (.int 0))]), (.con (.str "fn"))]), (.prim .eq [(.prim .item [(.var 1), (.con (.int 0))]), (.con (.str "fn"))]), (.prim .eq [(.prim .item [(.var 1), (.con (.int 1))]), (.con (.str "x"))])])
    [.ret (.prim .add [(.con (.int 1)), (.call 3 [(.prim .item [(.var 0), (.con (.int 2))]), (.prim .item [(.var 1), (.con (.int 2))])])])]
    [],
  .ite (.and [(.prim .eq [(.prim .item [(.var 0), (.con (.int 0))]), (.con (.str "record"))]), (.prim .eq [(.prim .item [(.var 1), (.con (.int 0))]), (.con (.str "record"))]), (.prim .eq [(.prim .len [(.prim .item [(.var 1), (.con (.int 1))])]), (.prim .len [(.prim .item [(.var 0), (.con (.int 1))])])])])
    [.par [2, 3] [false, false] [(.con (.int 0)), (.con (.int 1))],
      .loop (.tup [(.tup [(.nm 4), (.nm 5)]), (.tup [(.nm 6), (.nm 7)])]) (.zip (.prim .item [(.var 0), (.con (.int 1))]) (.prim .item [(.var 1), (.con (.int 1))]))
      [.ite (.prim .ne [(.var 4), (.var 6)])
        [.raise "NoSuch" [(.con (.str "sample"))]]
        [],
        .aug 2 .add (.prim .mul [(.var 3), (.call 3 [(.var 5), (.var 7)])]),
        .aug 3 .mul (.call 1 [(.var 5)])] [4, 5, 6, 7],
      .ret (.var 2)]
    [],
  .ite (.and [(.prim .eq [(.prim .item [(.var 0), (.con (.int 0))]), (.con (.str "case"))]), (.prim .eq [(.prim .item [(.var 1), (.con (.int 0))]), (.con (.str "tag"))])])
    [.set (.nm 2) (.con (.int 0)),
      .loop (.tup [(.nm 8), (.nm 5)]) (.seq (.prim .item [(.var 0), (.con (.int 1))]))
      [.ite (.prim .eq [(.var 8), (.prim .item [(.var 1), (.con (.int 1))])])
        [.ret (.prim .add [(.var 2), (.call 3 [(.var 5), (.prim .item [(.var 1), (.con (.int 2))])])])]
        [],
        .aug 2 .add (.call 1 [(.var 5)])] [5, 8]]
    [],
  .raise "NoSuch" [(.con (.str "sample"))]]
def n_number_of : List Str := ["told", "value", "number", "unit", "label", "inner", "other", "one", "tag"]
def d_number_of : Df := { np := 2, dfl := [], N := n_number_of, body := b_number_of }
def b_samples : List S :=
  [.ret (.comp [2] (.nm 2) (.rng1 (.prim .min2 [(.var 1), (.call 1 [(.var 0)])])) [] (.call 2 [(.var 0), (.var 2)]))]
def n_samples : List Str := ["told", "most", "number"]
def d_samples : Df := { np := 2, dfl := [], N := n_samples, body := b_samples }
def b__law_same : List S :=
  [.ret (.and [(.prim (.isi .tBool) [(.var 0)]), (.prim .eq [(.var 0), (.var 1)])])]
def n__law_same : List Str := ["told", "due"]
def d__law_same : Df := { np := 2, dfl := [], N := n__law_same, body := b__law_same }
def b__law_draw : List S :=
  [.ite (.prim .lt [(.prim .item [(.var 0), (.con (.int 2))]), (.var 1)])
    [.set (.nm 2) (.prim .item [(.var 0), (.con (.int 0))]),
      .set (.nm 3) (.prim .item [(.var 0), (.con (.int 1))]),
      .set (.nm 4) (.ifx (.prim .lt [(.var 3), (.prim .len [(.var 2)])]) (.prim .item [(.var 2), (.var 3)]) (.prim .item [(.var 0), (.con (.int 3))])),
      .ite (.prim .lt [(.var 4), (.con (.int 0))])
      [.set (.nm 4) (.prim .sub [(.prim .mul [(.prim .neg [(.con (.int 2))]), (.var 4)]), (.con (.int 1))])]
      [],
      .ite (.or [(.prim .lt [(.var 4), (.prim .pow [(.con (.int 10)), (.con (.int 9))])]), (.prim .ge [(.var 3), (.prim .len [(.var 2)])])])
      [.set (.nm 4) (.prim .mod [(.prim .intOf [(.prim .add [(.prim .add [(.prim .mul [(.var 4), (.con (.int 48271))]), (.prim .mul [(.var 3), (.con (.int 69621))])]), (.con (.int 12345))])]), (.con (.int 2147483647))]),
        .set (.nm 4) (.prim .mod [(.prim .intOf [(.prim .add [(.prim .add [(.prim .mul [(.var 4), (.var 4)]), (.prim .mul [(.var 3), (.con (.int 39373))])]), (.con (.int 6789))])]), (.con (.int 2147483629))])]
      [],
      .sto (.rf 0) (.con (.int 1)) (.prim .add [(.var 3), (.con (.int 1))]),
      .sto (.rf 0) (.con (.int 2)) (.var 4)]
    [],
  .set (.nm 5) (.prim .mod [(.prim .intOf [(.prim .item [(.var 0), (.con (.int 2))])]), (.var 1)]),
  .sto (.rf 0) (.con (.int 2)) (.prim .fdiv [(.prim .item [(.var 0), (.con (.int 2))]), (.var 1)]),
  .ret (.var 5)]
def n__law_draw : List Str := ["tape", "many", "cells", "k", "cell", "digit"]
def d__law_draw : Df := { np := 2, dfl := [], N := n__law_draw, body := b__law_draw }
def b__law_tape : List S :=
  [.set (.nm 1) (.prim .len [(.var 0)]),
  .loop (.nm 2) (.seq (.var 0))
    [.set (.nm 1) (.prim .mod [(.prim .intOf [(.prim .add [(.prim .add [(.prim .mul [(.var 1), (.con (.int 48271))]), (.prim .mul [(.var 2), (.con (.int 16807))])]), (.con (.int 7))])]), (.con (.int 1000000007))])] [2],
  .ret (.new (.lst [(.prim .listOf [(.var 0)]), (.con (.int 0)), (.con (.int 0)), (.var 1)]))]
def n__law_tape : List Str := ["script", "mix", "cell"]
def d__law_tape : Df := { np := 1, dfl := [], N := n__law_tape, body := b__law_tape }
def b__law_pick : List S :=
  [.ret (.prim .item [(.var 1), (.call 6 [(.var 0), (.prim .len [(.var 1)])])])]
def n__law_pick : List Str := ["tape", "rows"]
def d__law_pick : Df := { np := 2, dfl := [], N := n__law_pick, body := b__law_pick }
def b__law_closed_type : List S :=
  [.set (.nm 2) (.ifx (.prim .gt [(.var 1), (.con (.int 0))]) (.call 6 [(.var 0), (.con (.int 7))]) (.con (.int 0))),
  .ite (.prim .lt [(.var 2), (.con (.int 2))])
    [.ret (.tup [(.con (.str "int"))])]
    [],
  .ite (.prim .eq [(.var 2), (.con (.int 2))])
    [.ret (.tup [(.con (.str "fn")), (.call 9 [(.var 0), (.prim .sub [(.var 1), (.con (.int 1))])]), (.call 9 [(.var 0), (.prim .sub [(.var 1), (.con (.int 1))])])])]
    [],
  .set (.nm 3) (.ifx (.prim .lt [(.var 2), (.con (.int 5))]) (.lst [(.con (.str "a")), (.con (.str "b")), (.con (.str "c"))]) (.lst [(.con (.str "A")), (.con (.str "B")), (.con (.str "C"))])),
  .ret (.tup [(.ifx (.prim .lt [(.var 2), (.con (.int 5))]) (.con (.str "record")) (.con (.str "case"))), (.prim .tupleOf [(.comp [4] (.nm 4) (.seq (.var 3)) [(.prim .eq [(.call 6 [(.var 0), (.con (.int 2))]), (.con (.int 0))])] (.tup [(.var 4), (.call 9 [(.var 0), (.prim .sub [(.var 1), (.con (.int 1))])])]))]), (.con .non)])]
def n__law_closed_type : List Str := ["tape", "deep", "way", "pool", "label"]
def d__law_closed_type : Df := { np := 2, dfl := [], N := n__law_closed_type, body := b__law_closed_type }
def b__law_count : List S :=
  [.ite (.prim .eq [(.prim .item [(.var 0), (.con (.int 0))]), (.con (.str "int"))])
    [.ret (.con (.int 5))]
    [],
  .ite (.prim .eq [(.prim .item [(.var 0), (.con (.int 0))]), (.con (.str "fn"))])
    [.ret (.prim .add [(.con (.int 1)), (.call 10 [(.prim .item [(.var 0), (.con (.int 2))])])])]
    [],
  .set (.nm 1) (.prim .intOf [(.prim .eq [(.prim .item [(.var 0), (.con (.int 0))]), (.con (.str "record"))])]),
  .loop (.tup [(.nm 2), (.nm 3)]) (.seq (.prim .item [(.var 0), (.con (.int 1))]))
    [.set (.nm 1) (.ifx (.prim .eq [(.prim .item [(.var 0), (.con (.int 0))]), (.con (.str "record"))]) (.prim .mul [(.var 1), (.call 10 [(.var 3)])]) (.prim .add [(.var 1), (.call 10 [(.var 3)])]))] [2, 3],
  .ret (.var 1)]
def n__law_count : List Str := ["told", "many", "label", "inner"]
def d__law_count : Df := { np := 1, dfl := [], N := n__law_count, body := b__law_count }
def b__law_sample : List S :=
  [.ite (.prim .eq [(.prim .item [(.var 0), (.con (.int 0))]), (.con (.str "int"))])
    [.ret (.tup [(.con (.str "int")), (.prim .sub [(.var 1), (.con (.int 1))])])]
    [],
  .ite (.prim .eq [(.prim .item [(.var 0), (.con (.int 0))]), (.con (.str "fn"))])
    [.ret (.ifx (.prim .eq [(.var 1), (.con (.int 0))]) (.tup [(.con (.str "fix")), (.con (.str "f")), (.con (.str "x")), (.tup [(.con (.str "call")), (.tup [(.con (.str "name")), (.con (.str "f"))]), (.tup [(.con (.str "name")), (.con (.str "x"))])])]) (.tup [(.con (.str "fn")), (.con (.str "x")), (.call 11 [(.prim .item [(.var 0), (.con (.int 2))]), (.prim .sub [(.var 1), (.con (.int 1))])])]))]
    [],
  .own 2 (.lst []),
  .loop (.tup [(.nm 3), (.nm 4)]) (.seq (.prim .item [(.var 0), (.con (.int 1))]))
    [.set (.nm 5) (.call 10 [(.var 4)]),
      .ite (.and [(.prim .eq [(.prim .item [(.var 0), (.con (.int 0))]), (.con (.str "case"))]), (.prim .lt [(.var 1), (.var 5)])])
      [.ret (.tup [(.con (.str "tag")), (.var 3), (.call 11 [(.var 4), (.var 1)])])]
      [],
      .ite (.prim .eq [(.prim .item [(.var 0), (.con (.int 0))]), (.con (.str "record"))])
      [.mth .app (.sl 2) (.tup [(.var 3), (.call 11 [(.var 4), (.prim .mod [(.prim .intOf [(.var 1)]), (.var 5)])])]),
        .set (.nm 1) (.prim .fdiv [(.var 1), (.var 5)])]
      [.set (.nm 1) (.prim .sub [(.var 1), (.var 5)])]] [3, 4, 5],
  .ret (.tup [(.con (.str "record")), (.prim .tupleOf [(.bor 2)])])]
def n__law_sample : List Str := ["told", "number", "fields", "label", "inner", "many"]
def d__law_sample : Df := { np := 2, dfl := [], N := n__law_sample, body := b__law_sample }
def b__law_has : List S :=
  [.ite (.prim .inn [(.prim .item [(.var 0), (.con (.int 0))]), (.lst [(.con (.str "int")), (.con (.str "fn"))])])
    [.ret (.con (.bl true))]
    [],
  .set (.nm 1) (.comp [2, 3] (.tup [(.nm 2), (.nm 3)]) (.seq (.prim .item [(.var 0), (.con (.int 1))])) [] (.call 12 [(.var 3)])),
  .ret (.ifx (.prim .eq [(.prim .item [(.var 0), (.con (.int 0))]), (.con (.str "record"))]) (.prim .nin [(.con (.bl false)), (.var 1)]) (.prim .inn [(.con (.bl true)), (.var 1)]))]
def n__law_has : List Str := ["told", "rows", "label", "inner"]
def d__law_has : Df := { np := 1, dfl := [], N := n__law_has, body := b__law_has }
def b__law_told : List S :=
  [.tryc [.ret (.ifx (.prim .eq [(.var 0), (.con (.int 0))]) (.call 2 [(.var 1), (.var 2)]) (.call 3 [(.var 1), (.var 2)]))] [("NoSuch", .retL [.con (.str "no"), .fld "what"])]]
def n__law_told : List Str := ["way", "told", "one", "e"]
def d__law_told : Df := { np := 3, dfl := [], N := n__law_told, body := b__law_told }
def b__law_near : List S :=
  [.ite (.prim .eq [(.prim .item [(.var 1), (.con (.int 0))]), (.con (.str "int"))])
    [.ret (.tup [(.con (.str "int")), (.prim .item [(.lst [(.con (.int 9)), (.con (.int 4)), (.prim .sub [(.con (.int 0)), (.con (.int 2))])]), (.call 6 [(.var 0), (.con (.int 3))])])])]
    [],
  .ite (.prim .eq [(.prim .item [(.var 1), (.con (.int 0))]), (.con (.str "tag"))])
    [.ret (.call 8 [(.var 0), (.lst [(.tup [(.con (.str "tag")), (.con (.str "Zz")), (.prim .item [(.var 1), (.con (.int 2))])]), (.tup [(.con (.str "tag")), (.prim .item [(.var 1), (.con (.int 1))]), (.call 14 [(.var 0), (.prim .item [(.var 1), (.con (.int 2))])])]), (.tup [(.con (.str "int")), (.con (.int 0))])])])]
    [],
  .ite (.prim .eq [(.prim .item [(.var 1), (.con (.int 0))]), (.con (.str "record"))])
    [.set (.nm 2) (.ifx (.prim .ne [(.prim .item [(.var 1), (.con (.int 1))]), (.tup [])]) (.call 6 [(.var 0), (.prim .len [(.prim .item [(.var 1), (.con (.int 1))])])]) (.con (.int 0))),
      .own 3 (.lst [(.tup [(.con (.str "record")), (.prim .add [(.prim .item [(.var 1), (.con (.int 1))]), (.tup [(.tup [(.con (.str "z")), (.tup [(.con (.str "int")), (.con (.int 0))])])])])]), (.tup [(.con (.str "record")), (.prim .add [(.slc (.prim .item [(.var 1), (.con (.int 1))]) [(.con (.int 1))] []), (.tup [(.tup [(.con (.str "z")), (.tup [(.con (.str "int")), (.con (.int 0))])])])])])]),
      .ite (.prim .ne [(.prim .item [(.var 1), (.con (.int 1))]), (.tup [])])
      [.mth .app (.sl 3) (.tup [(.con (.str "record")), (.prim .add [(.prim .add [(.slc (.prim .item [(.var 1), (.con (.int 1))]) [] [(.var 2)]), (.tup [(.tup [(.prim .item [(.prim .item [(.prim .item [(.var 1), (.con (.int 1))]), (.var 2)]), (.con (.int 0))]), (.call 14 [(.var 0), (.prim .item [(.prim .item [(.prim .item [(.var 1), (.con (.int 1))]), (.var 2)]), (.con (.int 1))])])])])]), (.slc (.prim .item [(.var 1), (.con (.int 1))]) [(.prim .add [(.var 2), (.con (.int 1))])] [])])])]
      [],
      .frz [3] (.ret (.call 8 [(.var 0), (.var 3)]))]
    [],
  .ite (.prim .eq [(.prim .item [(.var 1), (.con (.int 0))]), (.con (.str "fn"))])
    [.ret (.call 8 [(.var 0), (.lst [(.tup [(.con (.str "fn")), (.con (.str "y")), (.prim .item [(.var 1), (.con (.int 2))])]), (.tup [(.con (.str "fn")), (.con (.str "x")), (.call 14 [(.var 0), (.prim .item [(.var 1), (.con (.int 2))])])])])])]
    [],
  .ret (.call 8 [(.var 0), (.lst [(.tup [(.con (.str "fix")), (.con (.str "g")), (.con (.str "x")), (.prim .item [(.var 1), (.con (.int 3))])]), (.tup [(.con (.str "fix")), (.con (.str "f")), (.con (.str "x")), (.tup [(.con (.str "name")), (.con (.str "x"))])])])])]
def n__law_near : List Str := ["tape", "value", "k", "other"]
def d__law_near : Df := { np := 2, dfl := [], N := n__law_near, body := b__law_near }
def b_law : List S :=
  [.set (.nm 1) (.call 7 [(.var 0)]),
  .loop (.nm 2) (.rng1 (.con (.int 2)))
    [.set (.nm 3) (.call 9 [(.var 1), (.con (.int 3))]),
      .set (.nm 4) (.call 10 [(.var 3)]),
      .ite (.or [(.prim .ne [(.call 1 [(.var 3)]), (.var 4)]), (.not (.call 5 [(.call 0 [(.var 3)]), (.call 12 [(.var 3)])]))])
      [.ret (.con (.bl false))]
      [],
      .ite (.or [(.prim .ne [(.call 13 [(.con (.int 0)), (.var 3), (.var 4)]), (.lst [(.con (.str "no")), (.var 4)])]), (.prim .ne [(.call 13 [(.con (.int 0)), (.var 3), (.prim .sub [(.con (.int 0)), (.con (.int 1))])]), (.lst [(.con (.str "no")), (.prim .sub [(.con (.int 0)), (.con (.int 1))])])])])
      [.ret (.con (.bl false))]
      [],
      .loop (.nm 5) (.rng1 (.prim .min2 [(.var 4), (.con (.int 6))]))
      [.set (.nm 6) (.call 6 [(.var 1), (.var 4)]),
        .set (.nm 7) (.call 11 [(.var 3), (.var 6)]),
        .ite (.or [(.prim .ne [(.call 13 [(.con (.int 0)), (.var 3), (.var 6)]), (.var 7)]), (.prim .ne [(.call 13 [(.con (.int 1)), (.var 3), (.var 7)]), (.var 6)])])
        [.ret (.con (.bl false))]
        [],
        .ite (.prim .ne [(.call 13 [(.con (.int 1)), (.var 3), (.call 14 [(.var 1), (.var 7)])]), (.lst [(.con (.str "no")), (.con (.str "sample"))])])
        [.ret (.con (.bl false))]
        []] [5, 6, 7],
      .set (.nm 8) (.call 6 [(.var 1), (.con (.int 9))]),
      .ite (.prim .ne [(.call 4 [(.var 3), (.var 8)]), (.comp [6] (.nm 6) (.rng1 (.prim .min2 [(.var 8), (.var 4)])) [] (.call 11 [(.var 3), (.var 6)]))])
      [.ret (.con (.bl false))]
      []] [2, 3, 4, 5, 6, 7, 8],
  .ret (.con (.bl true))]
def n_law : List Str := ["script", "tape", "turn", "told", "many", "k", "number", "value", "few"]
def d_law : Df := { np := 1, dfl := [], N := n_law, body := b_law }
def dds : List Dd := [⟨"has_value", topOf PySem.Challenge.pw_openrows_k13_samples_one_by_one.main.body 6, d_has_value⟩,
  ⟨"many_samples", topOf PySem.Challenge.pw_openrows_k13_samples_one_by_one.main.body 7, d_many_samples⟩,
  ⟨"sample", topOf PySem.Challenge.pw_openrows_k13_samples_one_by_one.main.body 8, d_sample⟩,
  ⟨"number_of", topOf PySem.Challenge.pw_openrows_k13_samples_one_by_one.main.body 9, d_number_of⟩,
  ⟨"samples", topOf PySem.Challenge.pw_openrows_k13_samples_one_by_one.main.body 10, d_samples⟩,
  ⟨"_law_same", topOf PySem.Challenge.pw_openrows_k13_samples_one_by_one.main.body 12, d__law_same⟩,
  ⟨"_law_draw", topOf PySem.Challenge.pw_openrows_k13_samples_one_by_one.main.body 13, d__law_draw⟩,
  ⟨"_law_tape", topOf PySem.Challenge.pw_openrows_k13_samples_one_by_one.main.body 14, d__law_tape⟩,
  ⟨"_law_pick", topOf PySem.Challenge.pw_openrows_k13_samples_one_by_one.main.body 15, d__law_pick⟩,
  ⟨"_law_closed_type", topOf PySem.Challenge.pw_openrows_k13_samples_one_by_one.main.body 16, d__law_closed_type⟩,
  ⟨"_law_count", topOf PySem.Challenge.pw_openrows_k13_samples_one_by_one.main.body 17, d__law_count⟩,
  ⟨"_law_sample", topOf PySem.Challenge.pw_openrows_k13_samples_one_by_one.main.body 18, d__law_sample⟩,
  ⟨"_law_has", topOf PySem.Challenge.pw_openrows_k13_samples_one_by_one.main.body 19, d__law_has⟩,
  ⟨"_law_told", topOf PySem.Challenge.pw_openrows_k13_samples_one_by_one.main.body 20, d__law_told⟩,
  ⟨"_law_near", topOf PySem.Challenge.pw_openrows_k13_samples_one_by_one.main.body 21, d__law_near⟩,
  ⟨"law", topOf PySem.Challenge.pw_openrows_k13_samples_one_by_one.main.body 22, d_law⟩]

/-! ### the head -/
def xds : List Xd := [⟨⟨"NoSuch", "RowError", "what", "NoSuch.__init__"⟩, topOf (clsBody (topOf PySem.Challenge.pw_openrows_k13_samples_one_by_one.main.body 2)) 0, "self", "what"⟩]
def xms : List (Str × Str × Bool) := [("NoSuch", "NoSuch", true)]
def cons : List (Str × D) := [("ENDLESS", (.tup [(.str "fix"), (.str "f"), (.str "x"), (.tup [(.str "call"), (.tup [(.str "name"), (.str "f")]), (.tup [(.str "name"), (.str "x")])])])), ("SMALL_MOST", (.int (5)))]
def tab : Tab := ⟨dds.map fun d => (d.x, d.df.np, 0), cons, xds.map fun x => (x.d.c, [x.d.fld]), xms⟩
abbrev genv : Genv := ⟨tab.cls, tab.excs⟩
theorem c_has_value : chkDef tab ⟨"has_value", topOf PySem.Challenge.pw_openrows_k13_samples_one_by_one.main.body 6, d_has_value⟩ = true := by decide +kernel
theorem c_many_samples : chkDef tab ⟨"many_samples", topOf PySem.Challenge.pw_openrows_k13_samples_one_by_one.main.body 7, d_many_samples⟩ = true := by decide +kernel
theorem c_sample : chkDef tab ⟨"sample", topOf PySem.Challenge.pw_openrows_k13_samples_one_by_one.main.body 8, d_sample⟩ = true := by decide +kernel
theorem c_number_of : chkDef tab ⟨"number_of", topOf PySem.Challenge.pw_openrows_k13_samples_one_by_one.main.body 9, d_number_of⟩ = true := by decide +kernel
theorem c_samples : chkDef tab ⟨"samples", topOf PySem.Challenge.pw_openrows_k13_samples_one_by_one.main.body 10, d_samples⟩ = true := by decide +kernel
theorem c__law_same : chkDef tab ⟨"_law_same", topOf PySem.Challenge.pw_openrows_k13_samples_one_by_one.main.body 12, d__law_same⟩ = true := by decide +kernel
theorem c__law_draw : chkDef tab ⟨"_law_draw", topOf PySem.Challenge.pw_openrows_k13_samples_one_by_one.main.body 13, d__law_draw⟩ = true := by decide +kernel
theorem c__law_tape : chkDef tab ⟨"_law_tape", topOf PySem.Challenge.pw_openrows_k13_samples_one_by_one.main.body 14, d__law_tape⟩ = true := by decide +kernel
theorem c__law_pick : chkDef tab ⟨"_law_pick", topOf PySem.Challenge.pw_openrows_k13_samples_one_by_one.main.body 15, d__law_pick⟩ = true := by decide +kernel
theorem c__law_closed_type : chkDef tab ⟨"_law_closed_type", topOf PySem.Challenge.pw_openrows_k13_samples_one_by_one.main.body 16, d__law_closed_type⟩ = true := by decide +kernel
theorem c__law_count : chkDef tab ⟨"_law_count", topOf PySem.Challenge.pw_openrows_k13_samples_one_by_one.main.body 17, d__law_count⟩ = true := by decide +kernel
theorem c__law_sample : chkDef tab ⟨"_law_sample", topOf PySem.Challenge.pw_openrows_k13_samples_one_by_one.main.body 18, d__law_sample⟩ = true := by decide +kernel
theorem c__law_has : chkDef tab ⟨"_law_has", topOf PySem.Challenge.pw_openrows_k13_samples_one_by_one.main.body 19, d__law_has⟩ = true := by decide +kernel
theorem c__law_told : chkDef tab ⟨"_law_told", topOf PySem.Challenge.pw_openrows_k13_samples_one_by_one.main.body 20, d__law_told⟩ = true := by decide +kernel
theorem c__law_near : chkDef tab ⟨"_law_near", topOf PySem.Challenge.pw_openrows_k13_samples_one_by_one.main.body 21, d__law_near⟩ = true := by decide +kernel
theorem c_law : chkDef tab ⟨"law", topOf PySem.Challenge.pw_openrows_k13_samples_one_by_one.main.body 22, d_law⟩ = true := by decide +kernel
theorem chk_all : dds.all (chkDef tab) = true := by
  unfold dds
  simp only [List.all_cons, List.all_nil, c_has_value, c_many_samples, c_sample, c_number_of, c_samples, c__law_same, c__law_draw, c__law_tape, c__law_pick, c__law_closed_type, c__law_count, c__law_sample, c__law_has, c__law_told, c__law_near, c_law, Bool.and_self]
def AllB : List Dd → Prop
  | [] => True
  | d :: ds => BindP d ∧ AllB ds
theorem AllB.at : ∀ {ds : List Dd}, AllB ds → ∀ d ∈ ds, BindP d
  | [], _, d, h => by cases h
  | e :: ds, h, d, hd => by
    rcases List.mem_cons.mp hd with z | z
    · rw [z]; exact h.1
    · exact AllB.at h.2 d z
theorem bd_has_value : BindP ⟨"has_value", topOf PySem.Challenge.pw_openrows_k13_samples_one_by_one.main.body 6, d_has_value⟩ := by
  intro _ _ _ _ _ _ us hl
  have hl : us.length = 1 := hl
  match us, hl with | [_], _ => rfl
theorem bd_many_samples : BindP ⟨"many_samples", topOf PySem.Challenge.pw_openrows_k13_samples_one_by_one.main.body 7, d_many_samples⟩ := by
  intro _ _ _ _ _ _ us hl
  have hl : us.length = 1 := hl
  match us, hl with | [_], _ => rfl
theorem bd_sample : BindP ⟨"sample", topOf PySem.Challenge.pw_openrows_k13_samples_one_by_one.main.body 8, d_sample⟩ := by
  intro _ _ _ _ _ _ us hl
  have hl : us.length = 2 := hl
  match us, hl with | [_, _], _ => rfl
theorem bd_number_of : BindP ⟨"number_of", topOf PySem.Challenge.pw_openrows_k13_samples_one_by_one.main.body 9, d_number_of⟩ := by
  intro _ _ _ _ _ _ us hl
  have hl : us.length = 2 := hl
  match us, hl with | [_, _], _ => rfl
theorem bd_samples : BindP ⟨"samples", topOf PySem.Challenge.pw_openrows_k13_samples_one_by_one.main.body 10, d_samples⟩ := by
  intro _ _ _ _ _ _ us hl
  have hl : us.length = 2 := hl
  match us, hl with | [_, _], _ => rfl
theorem bd__law_same : BindP ⟨"_law_same", topOf PySem.Challenge.pw_openrows_k13_samples_one_by_one.main.body 12, d__law_same⟩ := by
  intro _ _ _ _ _ _ us hl
  have hl : us.length = 2 := hl
  match us, hl with | [_, _], _ => rfl
theorem bd__law_draw : BindP ⟨"_law_draw", topOf PySem.Challenge.pw_openrows_k13_samples_one_by_one.main.body 13, d__law_draw⟩ := by
  intro _ _ _ _ _ _ us hl
  have hl : us.length = 2 := hl
  match us, hl with | [_, _], _ => rfl
theorem bd__law_tape : BindP ⟨"_law_tape", topOf PySem.Challenge.pw_openrows_k13_samples_one_by_one.main.body 14, d__law_tape⟩ := by
  intro _ _ _ _ _ _ us hl
  have hl : us.length = 1 := hl
  match us, hl with | [_], _ => rfl
theorem bd__law_pick : BindP ⟨"_law_pick", topOf PySem.Challenge.pw_openrows_k13_samples_one_by_one.main.body 15, d__law_pick⟩ := by
  intro _ _ _ _ _ _ us hl
  have hl : us.length = 2 := hl
  match us, hl with | [_, _], _ => rfl
theorem bd__law_closed_type : BindP ⟨"_law_closed_type", topOf PySem.Challenge.pw_openrows_k13_samples_one_by_one.main.body 16, d__law_closed_type⟩ := by
  intro _ _ _ _ _ _ us hl
  have hl : us.length = 2 := hl
  match us, hl with | [_, _], _ => rfl
theorem bd__law_count : BindP ⟨"_law_count", topOf PySem.Challenge.pw_openrows_k13_samples_one_by_one.main.body 17, d__law_count⟩ := by
  intro _ _ _ _ _ _ us hl
  have hl : us.length = 1 := hl
  match us, hl with | [_], _ => rfl
theorem bd__law_sample : BindP ⟨"_law_sample", topOf PySem.Challenge.pw_openrows_k13_samples_one_by_one.main.body 18, d__law_sample⟩ := by
  intro _ _ _ _ _ _ us hl
  have hl : us.length = 2 := hl
  match us, hl with | [_, _], _ => rfl
theorem bd__law_has : BindP ⟨"_law_has", topOf PySem.Challenge.pw_openrows_k13_samples_one_by_one.main.body 19, d__law_has⟩ := by
  intro _ _ _ _ _ _ us hl
  have hl : us.length = 1 := hl
  match us, hl with | [_], _ => rfl
theorem bd__law_told : BindP ⟨"_law_told", topOf PySem.Challenge.pw_openrows_k13_samples_one_by_one.main.body 20, d__law_told⟩ := by
  intro _ _ _ _ _ _ us hl
  have hl : us.length = 3 := hl
  match us, hl with | [_, _, _], _ => rfl
theorem bd__law_near : BindP ⟨"_law_near", topOf PySem.Challenge.pw_openrows_k13_samples_one_by_one.main.body 21, d__law_near⟩ := by
  intro _ _ _ _ _ _ us hl
  have hl : us.length = 2 := hl
  match us, hl with | [_, _], _ => rfl
theorem bd_law : BindP ⟨"law", topOf PySem.Challenge.pw_openrows_k13_samples_one_by_one.main.body 22, d_law⟩ := by
  intro _ _ _ _ _ _ us hl
  have hl : us.length = 1 := hl
  match us, hl with | [_], _ => rfl
theorem binds : AllB dds := ⟨bd_has_value, bd_many_samples, bd_sample, bd_number_of, bd_samples, bd__law_same, bd__law_draw, bd__law_tape, bd__law_pick, bd__law_closed_type, bd__law_count, bd__law_sample, bd__law_has, bd__law_told, bd__law_near, bd_law, True.intro⟩
theorem xchk : xds.all Xd.chk = true := by decide +kernel
theorem xbind : ∀ x ∈ xds, BindX x := by
  intro x hx
  simp only [xds, List.mem_cons, List.not_mem_nil, or_false] at hx
  rcases hx with rfl
  · intro _ _ _ _ _ _ us hl
    match us, hl with | [_, _], _ => rfl
def hfn : List He.DefD := dds.map Dd.defD ++ xds.map Xd.defD
def hex : PySem.W.Frag → Bool := exB xds xms cons
def hfa : List He.Fa := (dds.map fun d => .glo d.x) ++ (blts.map fun y => .free y)
abbrev R : PySem.W.OpenRow := PySem.W.OpenLaw.row PySem.Challenge.rw_openrows_k13_samples_one_by_one
abbrev hk : PySem.W.Hook := hookE 4 hfa hfn hex
def ob (s : PySem.W.SharedT) : He.AlD × Bool := obsE 4 hfa hfn hex (HandSHeadRun.getT s)
theorem ob_eq (s : PySem.W.SharedT) : ob s = hk.obs s.abs := obsE_eq (HandSHeadRun.getT_eq s)
def loose0 : List Str := ["has_value", "many_samples", "sample", "number_of", "samples", "_law_same", "_law_draw", "_law_tape", "_law_pick", "_law_closed_type", "_law_count", "_law_sample", "_law_has", "_law_told", "_law_near", "ENDLESS", "SMALL_MOST", "RowError", "NoSuch"]
def loose : List Str := loose0
theorem run (w : World) : HandSHeadRun.RunEq R (PySem.W.view R.prog [22]) hk ob 2000 loose w := by
  intro os
  kernel_rfl
def lawD : Dd := ⟨"law", topOf PySem.Challenge.pw_openrows_k13_samples_one_by_one.main.body 22, d_law⟩
theorem law_at : dds[15]? = some lawD := rfl
theorem told {K : PySem.W.Frag} {h : Heap} {mg : Str → Option Value} (X : K.In h) (g : h.Ns mainGlobals mg) (c : He.SaysD hfa hfn K) (cx : hex K = true) : Told K mg tab genv dds := by
  have nl : (dds.map fun d => He.Fa.glo d.x).length = dds.length := List.length_map ..
  unfold hex exB at cx
  simp only [Bool.and_eq_true] at cx
  obtain ⟨x1, x2, x3⟩ := cx
  have nd : (dds.map Dd.defD).length = dds.length := List.length_map ..
  have key : ∀ (l : List Xd) (c : Str) (fs : List Str), (l.map fun x => (x.d.c, [x.d.fld])).lookup c = some fs → ∃ x ∈ l, x.d.c = c ∧ fs = [x.d.fld] := by
    intro l
    induction l with
    | nil => intro c fs h; cases h
    | cons x l ih =>
      intro c fs h
      simp only [List.map_cons, List.lookup] at h
      split at h
      · rename_i z
        cases h
        exact ⟨x, List.mem_cons_self .., (beq_iff_eq.mp z).symm, rfl⟩
      · obtain ⟨y, hy, e⟩ := ih c fs h
        exact ⟨y, List.mem_cons_of_mem _ hy, e⟩
  refine ⟨rfl, fun cn fs hl _ => ?_, fun x n b hc => xms_ok X g x2 x n b hc, rfl, chk_all, binds.at, fun y hy => ?_, fun x d hx => cons_ok X g x3 x d hx, fun d hd => ?_⟩
  · obtain ⟨x, hx, rfl, rfl⟩ := key xds cn fs hl
    obtain ⟨j, hj, e⟩ := List.getElem_of_mem hx
    have e2 : hfn[dds.length + j]? = some x.defD := by
      unfold hfn
      rw [List.getElem?_append_right (by rw [nd]; exact Nat.le_add_right _ _), nd, Nat.add_sub_cancel_left, List.getElem?_map, List.getElem?_eq_getElem hj, e]
      rfl
    obtain ⟨fd, F⟩ := c.def_ _ e2
    exact xcd_ok X g (List.all_eq_true.mp x1 x hx) (List.all_eq_true.mp xchk x hx) (xbind x hx) F
  · obtain ⟨j, hj, e⟩ := List.getElem_of_mem hy
    have e1 : hfa[dds.length + j]? = some (He.Fa.free y) := by
      unfold hfa
      rw [List.getElem?_append_right (by rw [nl]; exact Nat.le_add_right _ _), nl, Nat.add_sub_cancel_left, List.getElem?_map, List.getElem?_eq_getElem hj, e]
      rfl
    exact He.free_ok X g (c.fact _ e1)
  · obtain ⟨j, hj, e⟩ := List.getElem_of_mem hd
    have e0 : dds[j]? = some d := by rw [List.getElem?_eq_getElem hj, e]
    have e1 : hfa[j]? = some (He.Fa.glo d.x) := by
      unfold hfa
      rw [List.getElem?_append_left (by rw [nl]; exact hj), List.getElem?_map, e0]
      rfl
    have e2 : hfn[j]? = some d.defD := by
      unfold hfn
      rw [List.getElem?_append_left (by rw [nd]; exact hj), List.getElem?_map, e0]
      rfl
    obtain ⟨fd, F⟩ := c.def_ j e2
    exact ⟨_, fd, He.glo_ok X g (c.fact j e1), F⟩
theorem law_facts {P : Program} {w : World} {K : PySem.W.Frag} {h : Heap} {mg : Str → Option Value} {f : Addr} (X : K.In h) (g : h.Ns mainGlobals mg) (hfa' : mg ("law" : Str) = some (.ref f)) (c : He.SaysD hfa hfn K) (cx : hex K = true) {k : Nat}
    (math : ∀ ns : List Int, ns.length ≤ 63 → ∃ M, Phi genv (dds.map (·.df)) k 15 [.lst (ns.map .int)] [] = .ok (.bl true) M) :
    ∃ (fd : FuncData) (sp : Sp), (∀ (s : Shared) (v : Value), BindsTo s fd ⟨[v], []⟩ [("script", v)]) ∧ (∀ (H : Hp) (a : Addr) (ns : List Int), ns.length ≤ 63 → SqL K H a (ns.map V.int) → sp [.ref a] H (fun v _ => v = .bl true) fun _ _ _ => False) ∧
      ∀ base : Heap, K.In base → base.Ns mainGlobals mg → FnOk P w K mg base CXn k f fd ["script"] sp := by
  have t := told X g c cx
  obtain ⟨fa, fd, m1, F⟩ := t.defs lawD (List.mem_of_getElem? law_at)
  have e := hfa'.symm.trans m1
  cases e
  have hp : lawD.ps = (["script"] : List Str) := rfl
  have b := FunD.bindsA (ps := ["script"]) F (bd_law)
  refine ⟨fd, _, fun s v => b s [v] rfl, ?_, fun base _ _ => noexc (by rw [← hp]; exact prog_ok (G := genv) t k 15 lawD _ fd law_at F)⟩
  exact fun H a ns hl hS => law_sp t law_at F hp math H a ns hl hS
theorem holds {k : Nat} (hk1 : Room k callerA) (math : ∀ ns : List Int, ns.length ≤ 63 → ∃ M, Phi genv (dds.map (·.df)) k 15 [.lst (ns.map .int)] [] = .ok (.bl true) M) : PySem.Challenge.rw_openrows_k13_samples_one_by_one.Holds := by
  open PySem.W in
  w_on; o_law
  refine HandSHeadRun.head_any (r := OpenLaw.row PySem.Challenge.rw_openrows_k13_samples_one_by_one) (q := view (OpenLaw.row PySem.Challenge.rw_openrows_k13_samples_one_by_one).prog [22]) (H := hk) (ob := ob) (M := 2000) (loose := loose) (d := HandSHeadRun.topDef (OpenLaw.row PySem.Challenge.rw_openrows_k13_samples_one_by_one).prog 22) (kwd := []) ob_eq
    (by kernel_rfl) (fun s => by kernel_rfl) run (by kernel_rfl) (by kernel_rfl) (by kernel_rfl) (by rfl) (by first | assumption | decide +kernel) (by decide +kernel) ⟨rfl, rfl, rfl, rfl, rfl, by decide +kernel⟩ ?hw ?hc
  case hw => w_witness2
  case hc =>
    refine L2.walk_ofE (l := PySem.Challenge.rw_openrows_k13_samples_one_by_one) (n := 63) (k := k) (x := "script") (CX := CXn) rfl (by decide) (by kernel_rfl) hk1 ?F (fun _ _ _ _ z => z)
    intro w mg fa h Y G hmg0
    obtain ⟨K, KX, c, cx⟩ := Y
    have hmg : mg ("law" : PySem.Str) = some (.ref fa) := by
      have e : (HandSHeadRun.topDef (OpenLaw.row PySem.Challenge.rw_openrows_k13_samples_one_by_one).prog 22).name = ("law" : PySem.Str) := by kernel_rfl
      rw [← e]
      exact hmg0
    obtain ⟨fd, sp, hb, hsp, hF⟩ := law_facts (P := (PySem.Challenge.rw_openrows_k13_samples_one_by_one).prog) (w := w) KX G hmg c cx math
    exact ⟨K, fd, sp, KX, hb, fun H a ns hl _ hS => hsp H a ns hl hS, hF⟩
end K13
set_option Elab.async false
set_option linter.all false
set_option maxRecDepth 100000
namespace K13
open Mi PySem
inductive Ty where
  | int | fn (a b : Ty) | row (k : Bool) (fs : List (String × Ty))
def kw (k : Bool) : String := if k = true then "record" else "case"
mutual
def Ty.d : Ty → D
  | .int => .tup [.s "int"]
  | .fn a b => .tup [.s "fn", a.d, b.d]
  | .row k fs => .tup [.s (kw k), .tup (Ty.ds fs), .non]
def Ty.ds : List (String × Ty) → List D
  | [] => []
  | (l, t) :: r => .tup [.s l, t.d] :: Ty.ds r
end
mutual
def count : Ty → Int
  | .int => 5
  | .fn a b => 1 + count b
  | .row k fs => counts k fs (if k = true then 1 else 0)
def counts (k : Bool) : List (String × Ty) → Int → Int
  | [], a => a
  | (l, t) :: r, a => counts k r (if k = true then a * count t else a + count t)
end
def pool (k : Bool) : List String := if k = true then ["a", "b", "c"] else ["A", "B", "C"]
/-- the types that the law draws -/
inductive Ok : Nat → Ty → Prop where
  | int {h} : Ok (h + 1) .int
  | fn {h a b} : Ok h a → Ok h b → Ok (h + 1) (.fn a b)
  | row {h k fs} : (∀ p ∈ fs, Ok h p.2) → (fs.map (·.1)).Sublist (pool k) → Ok (h + 1) (.row k fs)
theorem Ok.mono : ∀ {h t}, Ok h t → ∀ {j}, h ≤ j → Ok j t
  | _, _, .int, j, hj => by cases j with | zero => omega | succ j => exact .int
  | _, _, .fn a b, j, hj => by cases j with | zero => omega | succ j => exact .fn (a.mono (by omega)) (b.mono (by omega))
  | _, _, .row a b, j, hj => by cases j with | zero => omega | succ j => exact .row (fun p hp => (a p hp).mono (by omega)) b
theorem Ok.pos {h t} (o : Ok h t) : 0 < h := by cases o <;> omega
theorem pool_len {k : Bool} {fs : List (String × Ty)} (h : (fs.map (·.1)).Sublist (pool k)) : fs.length ≤ 3 := by
  have := h.length_le
  cases k <;> simpa [pool] using this
/-! ### how many -/
def B : Nat → Int
  | 0 => 1
  | h + 1 => B h * B h * B h + 3 * B h + 5
theorem B_pos : ∀ h, 1 ≤ B h
  | 0 => by decide
  | h + 1 => by
    have := B_pos h
    have h2 : 0 ≤ B h * B h * B h := Int.mul_nonneg (Int.mul_nonneg (by omega) (by omega)) (by omega)
    show 1 ≤ B h * B h * B h + 3 * B h + 5
    omega
theorem mul_le' {a b x y : Int} (h0 : 0 ≤ a) (h1 : a ≤ x) (h2 : 0 ≤ b) (h3 : b ≤ y) : 0 ≤ a * b ∧ a * b ≤ x * y :=
  ⟨Int.mul_nonneg h0 h2, Int.mul_le_mul h1 h3 h2 (by omega)⟩
theorem counts_bound {h : Nat} (ih : ∀ t, Ok h t → 0 ≤ count t ∧ count t ≤ B h) (k : Bool) : ∀ (fs : List (String × Ty)) (a X : Int), (∀ p ∈ fs, Ok h p.2) → 0 ≤ a → a ≤ X → 1 ≤ X → 0 ≤ counts k fs a ∧ counts k fs a ≤ (if k = true then X * B h ^ fs.length else X + fs.length * B h)
  | [], a, X, _, h0, h1, hX => by
    refine ⟨h0, ?_⟩
    show a ≤ _
    cases k <;> simp [h1]
  | (l, t) :: r, a, X, hp, h0, h1, hX => by
    have q := ih t (hp (l, t) (List.mem_cons_self ..))
    have hB := B_pos h
    cases k with
    | true =>
      have m := mul_le' h0 h1 q.1 q.2
      have := counts_bound ih true r (a * count t) (X * B h) (fun p hp' => hp p (List.mem_cons_of_mem _ hp')) m.1 m.2 (by
        have := (mul_le' (by omega : (0:Int) ≤ 1) hX (by omega : (0:Int) ≤ 1) hB).2
        omega)
      simp only [counts, if_true, List.length_cons] at this ⊢
      refine ⟨this.1, ?_⟩
      rw [Int.pow_succ, Int.mul_comm (B h ^ r.length), ← Int.mul_assoc]
      exact this.2
    | false =>
      have := counts_bound ih false r (a + count t) (X + B h) (fun p hp' => hp p (List.mem_cons_of_mem _ hp')) (by omega) (by omega) (by omega)
      simp only [counts, List.length_cons] at this ⊢
      refine ⟨this.1, ?_⟩
      have e : X + ((r.length + 1 : Nat) : Int) * B h = X + B h + r.length * B h := by
        rw [Int.natCast_add, Int.add_mul]; simp; omega
      simp only [Bool.false_eq_true, if_false] at this ⊢
      rw [e]
      exact this.2
theorem count_bound : ∀ {h t}, Ok h t → 0 ≤ count t ∧ count t ≤ B h
  | _, _, .int (h := h) => by
    have := B_pos h
    have h2 : 0 ≤ B h * B h * B h := Int.mul_nonneg (Int.mul_nonneg (by omega) (by omega)) (by omega)
    refine ⟨by simp [count], ?_⟩
    show 5 ≤ B h * B h * B h + 3 * B h + 5
    omega
  | _, _, .fn (h := h) (b := b) oa ob => by
    have q := count_bound ob
    have hB := B_pos h
    have h2 := (mul_le' (mul_le' (by omega : (0:Int) ≤ 1) hB (by omega : (0:Int) ≤ 1) hB).1 (mul_le' (by omega : (0:Int) ≤ 1) hB (by omega : (0:Int) ≤ 1) hB).2 (by omega : (0 : Int) ≤ B h) (Int.le_refl _)).2
    refine ⟨by simp only [count]; omega, ?_⟩
    show 1 + count b ≤ B h * B h * B h + 3 * B h + 5
    omega
  | _, _, .row (h := h) (k := k) (fs := fs) of hs => by
    have hl := pool_len hs
    have hB := B_pos h
    have q := counts_bound (h := h) (fun t o => count_bound o) k fs (if k = true then 1 else 0) 1 of (by cases k <;> decide) (by cases k <;> decide) (by decide)
    refine ⟨q.1, Int.le_trans q.2 ?_⟩
    show _ ≤ B h * B h * B h + 3 * B h + 5
    have b2 := mul_le' (by omega : (0:Int) ≤ 1) hB (by omega : (0:Int) ≤ 1) hB
    have b3 := mul_le' b2.1 b2.2 (by omega : (0:Int) ≤ 1) hB
    have b5 := mul_le' (by have := b2.2; omega : (0:Int) ≤ B h * B h) (Int.le_refl (B h * B h)) (by omega : (0:Int) ≤ 1) hB
    have b4 := mul_le' (by omega : (0:Int) ≤ B h) (by have := mul_le' (by omega : (0:Int) ≤ B h) (Int.le_refl (B h)) (by omega : (0:Int) ≤ 1) hB; omega : B h ≤ B h * B h) (by omega : (0:Int) ≤ 1) hB
    rcases (by omega : fs.length = 0 ∨ fs.length = 1 ∨ fs.length = 2 ∨ fs.length = 3) with e | e | e | e <;> rw [e] <;> cases k <;> simp [Int.pow_succ] <;> omega
end K13
set_option Elab.async false
set_option linter.all false
set_option maxRecDepth 100000
namespace K13
open Mi PySem
noncomputable abbrev tbl : List Df := dds.map (·.df)
theorem B3 : B 3 < 2 ^ 64 := by decide
theorem small {h t} (o : Ok h t) (l : h ≤ 3) : (count t).natAbs < 2 ^ 64 := by
  have := count_bound (o.mono l)
  have := B3
  omega
@[simp] theorem Ty.d_int : Ty.int.d = .tup [.s "int"] := by rw [Ty.d]
@[simp] theorem Ty.d_fn (a b : Ty) : (Ty.fn a b).d = .tup [.s "fn", a.d, b.d] := by rw [Ty.d]
@[simp] theorem Ty.d_row (k : Bool) (fs : List (String × Ty)) : (Ty.row k fs).d = .tup [.s (kw k), .tup (Ty.ds fs), .non] := by rw [Ty.d]
@[simp] theorem Ty.ds_nil : Ty.ds [] = [] := by rw [Ty.ds]
@[simp] theorem Ty.ds_cons (l : String) (t : Ty) (r : List (String × Ty)) : Ty.ds ((l, t) :: r) = .tup [.s l, t.d] :: Ty.ds r := by rw [Ty.ds]
@[simp] theorem kw_int (k : Bool) : (kw k = "int") = False := by cases k <;> simp [kw]
@[simp] theorem kw_fn (k : Bool) : (kw k = "fn") = False := by cases k <;> simp [kw]
@[simp] theorem kw_rec (k : Bool) : (kw k = "record") = (k = true) := by cases k <;> simp [kw]
@[simp] theorem kw_case (k : Bool) : (kw k = "case") = (k = false) := by cases k <;> simp [kw]
@[simp] theorem deref_ty (M : MS) (t : Ty) : deref M t.d = t.d := by cases t <;> simp
section
variable {n : Nat} {M : MS}
/-! ### how many, by the law and by the program -/
theorem count_loop (k : Bool) (x : D) (hx : pr n .item [x, .int 0] = some (.s (kw k))) (hd : ∀ M, deref M x = x) : ∀ (fs : List (String × Ty)) (a : Int) (M : MS), (∀ p ∈ fs, (count p.2).natAbs < 2 ^ 64 ∧ ∀ M, Phi genv tbl n 10 [p.2.d] M = .ok (.int (count p.2)) M) →
    loopL (lstep genv (Phi genv tbl n) n (.tup [(.nm 2), (.nm 3)]) [.set (.nm 1) (.ifx (.prim .eq [(.prim .item [(.var 0), (.con (.int 0))]), (.con (.str "record"))]) (.prim .mul [(.var 1), (.call 10 [(.var 3)])]) (.prim .add [(.var 1), (.call 10 [(.var 3)])]))] [2, 3]) (Ty.ds fs) [some (.val x), some (.val (.int a)), none, none] M = .ok (.nxt [some (.val x), some (.val (.int (counts k fs a))), none, none]) M
  | [], a, M, _ => by simp [counts]
  | (l, t) :: r, a, M, hp => by
    have q := hp (l, t) (List.mem_cons_self ..)
    have ih := count_loop k x hx hd r (if k = true then a * count t else a + count t) M fun p h => hp p (List.mem_cons_of_mem _ h)
    rw [Ty.ds_cons, loopL_cons, counts, ← ih]
    cases k <;> simp [lstep, hx, hd, pr_eq, q.2, pr_mulR q.1]
theorem count_ok : ∀ {h t}, Ok h t → h ≤ 4 → ∀ M, Phi genv tbl (n + h) 10 [t.d] M = .ok (.int (count t)) M
  | _, _, .int (h := h), _, M => by
    rw [← Nat.add_assoc, phi_s (df := d__law_count) rfl rfl rfl rfl]
    simp [d__law_count, b__law_count, n__law_count, startG, pr_eq, pr_itemt, count]
  | _, _, .fn (h := h) (b := b) oa ob, l, M => by
    have ih := count_ok ob (by omega)
    rw [← Nat.add_assoc, phi_s (df := d__law_count) rfl rfl rfl rfl]
    simp [d__law_count, b__law_count, n__law_count, startG, pr_eq, pr_itemt, count, ih]
  | _, _, .row (h := h) (k := k) (fs := fs) of hs, l, M => by
    have ih : ∀ p ∈ fs, (count p.2).natAbs < 2 ^ 64 ∧ ∀ M, Phi genv tbl (n + h) 10 [p.2.d] M = .ok (.int (count p.2)) M := fun p hp => ⟨small (of p hp) (by omega), count_ok (of p hp) (by omega)⟩
    rw [← Nat.add_assoc, phi_s (df := d__law_count) rfl rfl rfl rfl]
    have L := fun a M => count_loop (n := n + h) k (Ty.row k fs).d (by simp [pr_itemt]) (by simp) fs a M ih
    simp only [Ty.d_row] at L
    cases k <;> simp [d__law_count, b__law_count, n__law_count, startG, pr_eq, pr_itemt, count, L, b2i]

theorem many_loop (k : Bool) (x : D) (hx : pr n .item [x, .int 0] = some (.s (kw k))) (hd : ∀ M, deref M x = x) : ∀ (fs : List (String × Ty)) (a : Int) (M : MS), (∀ p ∈ fs, (count p.2).natAbs < 2 ^ 64 ∧ ∀ M, Phi genv tbl n 1 [p.2.d] M = .ok (.int (count p.2)) M) →
    loopL (lstep genv (Phi genv tbl n) n (.tup [(.nm 2), (.nm 3)]) [.set (.nm 1) (.ifx (.prim .eq [(.prim .item [(.var 0), (.con (.int 0))]), (.con (.str "record"))]) (.prim .mul [(.var 1), (.call 1 [(.var 3)])]) (.prim .add [(.var 1), (.call 1 [(.var 3)])]))] [2, 3]) (Ty.ds fs) [some (.val x), some (.val (.int a)), none, none] M = .ok (.nxt [some (.val x), some (.val (.int (counts k fs a))), none, none]) M
  | [], a, M, _ => by simp [counts]
  | (l, t) :: r, a, M, hp => by
    have q := hp (l, t) (List.mem_cons_self ..)
    have ih := many_loop k x hx hd r (if k = true then a * count t else a + count t) M fun p h => hp p (List.mem_cons_of_mem _ h)
    rw [Ty.ds_cons, loopL_cons, counts, ← ih]
    cases k <;> simp [lstep, hx, hd, pr_eq, q.2, pr_mulR q.1]
theorem many_ok : ∀ {h t}, Ok h t → h ≤ 4 → ∀ M, Phi genv tbl (n + h) 1 [t.d] M = .ok (.int (count t)) M
  | _, _, .int (h := h), _, M => by
    rw [← Nat.add_assoc, phi_s (df := d_many_samples) rfl rfl rfl rfl]
    simp [d_many_samples, b_many_samples, n_many_samples, startG, pr_eq, pr_itemt, count]
  | _, _, .fn (h := h) (b := b) oa ob, l, M => by
    have ih := many_ok ob (by omega)
    rw [← Nat.add_assoc, phi_s (df := d_many_samples) rfl rfl rfl rfl]
    simp [d_many_samples, b_many_samples, n_many_samples, startG, pr_eq, pr_itemt, count, ih]
  | _, _, .row (h := h) (k := k) (fs := fs) of hs, l, M => by
    have ih : ∀ p ∈ fs, (count p.2).natAbs < 2 ^ 64 ∧ ∀ M, Phi genv tbl (n + h) 1 [p.2.d] M = .ok (.int (count p.2)) M := fun p hp => ⟨small (of p hp) (by omega), many_ok (of p hp) (by omega)⟩
    rw [← Nat.add_assoc, phi_s (df := d_many_samples) rfl rfl rfl rfl]
    have L := fun a M => many_loop (n := n + h) k (Ty.row k fs).d (by simp [pr_itemt]) (by simp) fs a M ih
    simp only [Ty.d_row] at L
    cases k <;> simp [d_many_samples, b_many_samples, n_many_samples, startG, pr_eq, pr_itemt, count, L]
/-! ### whether there is a value -/
mutual
def has : Ty → Bool
  | .int => true
  | .fn _ _ => true
  | .row k fs => if k = true then hasAll fs else hasAny fs
def hasAll : List (String × Ty) → Bool
  | [] => true
  | (_, t) :: r => has t && hasAll r
def hasAny : List (String × Ty) → Bool
  | [] => false
  | (_, t) :: r => has t || hasAny r
end
theorem hasAll_eq : ∀ fs, hasAll fs = (fs.map fun p => has p.2).all id
  | [] => by simp [hasAll]
  | (l, t) :: r => by simp [hasAll, hasAll_eq r]
theorem hasAny_eq : ∀ fs, hasAny fs = (fs.map fun p => has p.2).any id
  | [] => by simp [hasAny]
  | (l, t) :: r => by simp [hasAny, hasAny_eq r]
def pd (p : String × Ty) : D := .tup [.s p.1, p.2.d]
theorem ds_map : ∀ fs, Ty.ds fs = fs.map pd
  | [] => by simp
  | (l, t) :: r => by simp [ds_map r, pd]
theorem has_comp {f : Nat} {own : List Nat} {t : T} {elt : E} {σ : Sg} (fs : List (String × Ty)) (h : ∀ p ∈ fs, ∀ M, cstep (Phi genv tbl n) n σ own t [] elt (pd p) M = .ok (some (.bl (has p.2))) M) (M : MS) : compL (cstep (Phi genv tbl n) n σ own t [] elt) (Ty.ds fs) M = .ok (fs.map fun p => .bl (has p.2)) M := by
  rw [ds_map]
  exact compL_map pd (fun p => .bl (has p.2)) fs M h
theorem has_ok : ∀ {h t}, Ok h t → ∀ M, Phi genv tbl (n + h) 0 [t.d] M = .ok (.bl (has t)) M
  | _, _, .int (h := h), M => by
    rw [← Nat.add_assoc, phi_s (df := d_has_value) rfl rfl rfl rfl]
    simp [d_has_value, b_has_value, n_has_value, startG, pr_eq, pr_itemt, pr_innt, has]
  | _, _, .fn (h := h) (b := b) oa ob, M => by
    rw [← Nat.add_assoc, phi_s (df := d_has_value) rfl rfl rfl rfl]
    simp [d_has_value, b_has_value, n_has_value, startG, pr_eq, pr_itemt, pr_innt, has]
  | _, _, .row (h := h) (k := k) (fs := fs) of hs, M => by
    have ih : ∀ p ∈ fs, ∀ M, Phi genv tbl (n + h) 0 [p.2.d] M = .ok (.bl (has p.2)) M := fun p hp => has_ok (of p hp)
    rw [← Nat.add_assoc, phi_s (df := d_has_value) rfl rfl rfl rfl]
    have hl : fs.length ≤ limit := by have := pool_len hs; unfold limit; omega
    have C1 := fun M => has_comp (n := n + h) (f := 0) (own := [1, 2]) (t := .tup [.nm 1, .nm 2]) (elt := .call 0 [.var 2]) (σ := [some (.val (Ty.row k fs).d), none, none, none]) fs (fun p hp M => by simp [cstep, pd, ih p hp]) M
    have C2 := fun M => has_comp (n := n + h) (f := 0) (own := [2, 3]) (t := .tup [.nm 3, .nm 2]) (elt := .call 0 [.var 2]) (σ := [some (.val (Ty.row k fs).d), none, none, none]) fs (fun p hp M => by simp [cstep, pd, ih p hp]) M
    simp only [Ty.d_row] at C1 C2
    have e : (Ty.ds fs).length = fs.length := by rw [ds_map, List.length_map]
    cases k <;> simp [d_has_value, b_has_value, n_has_value, startG, pr_eq, pr_itemt, pr_innt, has, lim_le, e, hl, C1, C2, hasAll_eq, hasAny_eq]
theorem any_not {α : Type} (p : α → Bool) : ∀ l : List α, (l.any fun x => !p x) = !l.all p
  | [] => rfl
  | x :: l => by simp [any_not p l]
theorem lhas_ok : ∀ {h t}, Ok h t → ∀ M, Phi genv tbl (n + h) 12 [t.d] M = .ok (.bl (has t)) M
  | _, _, .int (h := h), M => by
    rw [← Nat.add_assoc, phi_s (df := d__law_has) rfl rfl rfl rfl]
    simp [d__law_has, b__law_has, n__law_has, startG, pr_eq, pr_itemt, pr_innl, has]
  | _, _, .fn (h := h) (b := b) oa ob, M => by
    rw [← Nat.add_assoc, phi_s (df := d__law_has) rfl rfl rfl rfl]
    simp [d__law_has, b__law_has, n__law_has, startG, pr_eq, pr_itemt, pr_innl, has]
  | _, _, .row (h := h) (k := k) (fs := fs) of hs, M => by
    have ih : ∀ p ∈ fs, ∀ M, Phi genv tbl (n + h) 12 [p.2.d] M = .ok (.bl (has p.2)) M := fun p hp => lhas_ok (of p hp)
    rw [← Nat.add_assoc, phi_s (df := d__law_has) rfl rfl rfl rfl]
    have hl : fs.length ≤ limit := by have := pool_len hs; unfold limit; omega
    have C1 := fun M => has_comp (n := n + h) (f := 0) (own := [2, 3]) (t := .tup [.nm 2, .nm 3]) (elt := .call 12 [.var 3]) (σ := [some (.val (Ty.row k fs).d), none, none, none]) fs (fun p hp M => by simp [cstep, pd, ih p hp]) M
    simp only [Ty.d_row] at C1
    have e : (Ty.ds fs).length = fs.length := by rw [ds_map, List.length_map]
    cases k <;> simp [d__law_has, b__law_has, n__law_has, startG, pr_eq, pr_itemt, pr_innl, pr_ninl, has, lim_le, e, hl, C1, hasAll_eq, hasAny_eq, inO_b_map]
    exact any_not _ fs
end
end K13
set_option Elab.async false
set_option linter.all false
set_option maxRecDepth 100000
namespace K13
open Mi PySem
inductive V where
  | int (i : Int) | endless | fn (v : V) | tag (l : String) (v : V) | row (fs : List (String × V))
def endD : D := .tup [.s "fix", .s "f", .s "x", .tup [.s "call", .tup [.s "name", .s "f"], .tup [.s "name", .s "x"]]]
mutual
def V.d : V → D
  | .int i => .tup [.s "int", .int i]
  | .endless => endD
  | .fn v => .tup [.s "fn", .s "x", v.d]
  | .tag l v => .tup [.s "tag", .s l, v.d]
  | .row fs => .tup [.s "record", .tup (V.ds fs)]
def V.ds : List (String × V) → List D
  | [] => []
  | (l, v) :: r => .tup [.s l, v.d] :: V.ds r
end
@[simp] theorem V.d_int (i : Int) : (V.int i).d = .tup [.s "int", .int i] := by rw [V.d]
@[simp] theorem V.d_end : V.endless.d = endD := by rw [V.d]
@[simp] theorem V.d_fn (v : V) : (V.fn v).d = .tup [.s "fn", .s "x", v.d] := by rw [V.d]
@[simp] theorem V.d_tag (l : String) (v : V) : (V.tag l v).d = .tup [.s "tag", .s l, v.d] := by rw [V.d]
@[simp] theorem V.d_row (fs : List (String × V)) : (V.row fs).d = .tup [.s "record", .tup (V.ds fs)] := by rw [V.d]
@[simp] theorem V.ds_nil : V.ds [] = [] := by rw [V.ds]
@[simp] theorem V.ds_cons (l : String) (v : V) (r : List (String × V)) : V.ds ((l, v) :: r) = .tup [.s l, v.d] :: V.ds r := by rw [V.ds]
@[simp] theorem deref_v (M : MS) (v : V) : deref M v.d = v.d := by cases v <;> simp [endD]
mutual
def samp : Ty → Int → V
  | .int, i => .int (i - 1)
  | .fn _ b, i => if i = 0 then .endless else .fn (samp b (i - 1))
  | .row k fs, i => if k = true then .row (sampR fs i) else sampC fs i
def sampR : List (String × Ty) → Int → List (String × V)
  | [], _ => []
  | (l, t) :: r, i => (l, samp t (i % count t)) :: sampR r (i / count t)
def sampC : List (String × Ty) → Int → V
  | [], _ => .endless
  | (l, t) :: r, i => if i < count t then .tag l (samp t i) else sampC r (i - count t)
end
def divs : List (String × Ty) → Int → Int
  | [], i => i
  | (_, t) :: r, i => divs r (i / count t)
def prod : List (String × Ty) → Int
  | [] => 1
  | (_, t) :: r => count t * prod r
def sum : List (String × Ty) → Int
  | [] => 0
  | (_, t) :: r => count t + sum r
theorem counts_prod : ∀ (fs : List (String × Ty)) (a : Int), counts true fs a = a * prod fs
  | [], a => by simp [counts, prod]
  | (l, t) :: r, a => by simp [counts, prod, counts_prod r, Int.mul_assoc]
theorem counts_sum : ∀ (fs : List (String × Ty)) (a : Int), counts false fs a = a + sum fs
  | [], a => by simp [counts, sum]
  | (l, t) :: r, a => by simp [counts, sum, counts_sum r, Int.add_assoc]
theorem in_prod {c p i : Int} (hc : 0 ≤ c) (h0 : 0 ≤ i) (h1 : i < c * p) : 0 < c ∧ 0 ≤ i % c ∧ i % c < c ∧ 0 ≤ i / c ∧ i / c < p := by
  have hc2 : c ≠ 0 := by rintro rfl; simp at h1; omega
  have hc3 : 0 < c := by omega
  exact ⟨hc3, Int.emod_nonneg _ hc2, Int.emod_lt_of_pos _ hc3, Int.ediv_nonneg h0 hc, Int.ediv_lt_of_lt_mul hc3 (by rw [Int.mul_comm]; exact h1)⟩
section
variable {n : Nat} {M : MS}
@[simp] theorem genv_no (d : D) : mkEx tab.excs "NoSuch" [d] = some ⟨"NoSuch", [("what", d)]⟩ := rfl
abbrev no (d : D) : Ex := ⟨"NoSuch", [("what", d)]⟩
theorem sampR_loop (x : D) (y : Option Sl) : ∀ (fs : List (String × Ty)) (i : Int) (acc : List D) (M : MS), acc.length + fs.length ≤ 3 → (∀ p ∈ fs, 0 ≤ count p.2 ∧ (count p.2).natAbs < 2 ^ 64 ∧ (∀ M, Phi genv tbl n 1 [p.2.d] M = .ok (.int (count p.2)) M) ∧ ∀ j M, 0 ≤ j → j < count p.2 → Phi genv tbl n 2 [p.2.d, .int j] M = .ok (samp p.2 j).d M) → 0 ≤ i → i < prod fs →
    loopL (lstep genv (Phi genv tbl n) n (.tup [(.nm 3), (.nm 4)]) [.set (.nm 5) (.call 1 [(.var 4)]), .mth .app (.sl 2) (.tup [(.var 3), (.call 2 [(.var 4), (.prim .mod [(.var 1), (.var 5)])])]), .set (.nm 1) (.prim .fdiv [(.var 1), (.var 5)])] [3, 4, 5]) (Ty.ds fs) [some (.val x), some (.val (.int i)), some (.own (.lst acc)), none, none, none, y] M = .ok (.nxt [some (.val x), some (.val (.int (divs fs i))), some (.own (.lst (acc ++ V.ds (sampR fs i)))), none, none, none, y]) M
  | [], i, acc, M, _, _, _, _ => by simp [divs, sampR]
  | (l, t) :: r, i, acc, M, hl, hp, h0, h1 => by
    obtain ⟨q0, q1, q2, q3⟩ := hp (l, t) (List.mem_cons_self ..)
    obtain ⟨c0, m0, m1, d0, d1⟩ := in_prod q0 h0 h1
    simp only [List.length_cons] at hl
    have ih := sampR_loop x y r (i / count t) (acc ++ [.tup [.s l, (samp t (i % count t)).d]]) M (by simp; omega) (fun p h => hp p (List.mem_cons_of_mem _ h)) d0 d1
    have e1 : (∀ a, pr n .mod [.int a, .int (count t)] = some (.int (a % count t))) := fun a => pr_modP c0
    have e2 : (∀ a, pr n .fdiv [.int a, .int (count t)] = some (.int (a / count t))) := fun a => pr_divP c0 (log2_small q1)
    have e3 := q3 _ M m0 m1
    have e4 : acc.length < limit := by unfold limit; omega
    rw [Ty.ds_cons, loopL_cons, divs, sampR, V.ds_cons]
    simp [lstep, q2, e1, e2, e3, evTg, upT, muO, appO, lstT, e4, ih]

theorem sampC_loop (x : D) (y z : Option Sl) : ∀ (fs : List (String × Ty)) (i : Int) (M : MS), (∀ p ∈ fs, 0 ≤ count p.2 ∧ (∀ M, Phi genv tbl n 1 [p.2.d] M = .ok (.int (count p.2)) M) ∧ ∀ j M, 0 ≤ j → j < count p.2 → Phi genv tbl n 2 [p.2.d, .int j] M = .ok (samp p.2 j).d M) → 0 ≤ i → i < sum fs →
    loopL (lstep genv (Phi genv tbl n) n (.tup [(.nm 6), (.nm 4)]) [.set (.nm 5) (.call 1 [(.var 4)]),
      .ite (.prim .lt [(.var 1), (.var 5)])
      [.ret (.tup [(.con (.str "tag")), (.var 6), (.call 2 [(.var 4), (.var 1)])])]
      [],
      .aug 1 .sub (.var 5)] [4, 5, 6]) (Ty.ds fs) [some (.val x), some (.val (.int i)), y, z, none, none, none] M = .ok (.ret (sampC fs i).d) M
  | [], i, M, _, h0, h1 => by simp [sum] at h1; omega
  | (l, t) :: r, i, M, hp, h0, h1 => by
    obtain ⟨q0, q2, q3⟩ := hp (l, t) (List.mem_cons_self ..)
    simp only [sum] at h1
    rw [Ty.ds_cons, loopL_cons, sampC]
    by_cases c : i < count t
    · have e3 := q3 _ M h0 c
      simp [lstep, q2, c, e3]
    · have ih := sampC_loop x y z r (i - count t) M (fun p h => hp p (List.mem_cons_of_mem _ h)) (by omega) (by omega)
      simp [lstep, q2, c, ih, augO]
/-- what `sample` does -/
theorem sample_bad {h t} (o : Ok h t) (l : h ≤ 4) {i : Int} (hi : ¬ (0 ≤ i ∧ i < count t)) (M : MS) : Phi genv tbl (n + h + 3) 2 [t.d, .int i] M = .exc (no (.int i)) M := by
  have e : ∀ M, Phi genv tbl (n + h + 2) 1 [t.d] M = .ok (.int (count t)) M := fun M => by
    have := many_ok (n := n + 2) o l M
    rw [← this]; congr 1; omega
  rw [phi_s (df := d_sample) rfl rfl rfl rfl]
  by_cases h0 : 0 ≤ i
  · have h1 : ¬ i < count t := fun z => hi ⟨h0, z⟩
    simp [d_sample, b_sample, n_sample, startG, e, h0, h1]
  · simp [d_sample, b_sample, n_sample, startG, e, h0]
theorem sample_ok : ∀ {h t}, Ok h t → h ≤ 4 → ∀ i M, 0 ≤ i → i < count t → Phi genv tbl (n + h + 3) 2 [t.d, .int i] M = .ok (samp t i).d M
  | _, _, .int (h := h), l, i, M, h0, h1 => by
    have e : ∀ M, Phi genv tbl (n + h + 3) 1 [Ty.int.d] M = .ok (.int (count .int)) M := fun M => by
      have := many_ok (n := n + 2) (.int (h := h)) l M
      rw [← this]; congr 1; omega
    rw [show n + (h + 1) + 3 = n + h + 3 + 1 by omega, phi_s (df := d_sample) rfl rfl rfl rfl]
    simp only [Ty.d_int] at e
    simp [d_sample, b_sample, n_sample, startG, e, h0, h1, pr_eq, pr_itemt, samp]
  | _, _, .fn (h := h) (a := a) (b := b) oa ob, l, i, M, h0, h1 => by
    have e : ∀ M, Phi genv tbl (n + h + 3) 1 [(Ty.fn a b).d] M = .ok (.int (count (.fn a b))) M := fun M => by
      have := many_ok (n := n + 2) (.fn oa ob) l M
      rw [← this]; congr 1; omega
    simp only [Ty.d_fn] at e
    have h1' : i < 1 + count b := by simpa [count] using h1
    rw [show n + (h + 1) + 3 = n + h + 3 + 1 by omega, phi_s (df := d_sample) rfl rfl rfl rfl]
    by_cases z : i = 0
    · subst z
      simp [d_sample, b_sample, n_sample, startG, e, h1, pr_eq, pr_itemt, samp, endD]
    · have ih := sample_ok ob (by omega) (i - 1) M (by omega) (by omega)
      simp [d_sample, b_sample, n_sample, startG, e, h0, h1, pr_eq, pr_itemt, samp, z, ih]
  | _, _, .row (h := h) (k := k) (fs := fs) of hs, l, i, M, h0, h1 => by
    have e : ∀ M, Phi genv tbl (n + h + 3) 1 [(Ty.row k fs).d] M = .ok (.int (count (.row k fs))) M := fun M => by
      have := many_ok (n := n + 2) (.row of hs) l M
      rw [← this]; congr 1; omega
    simp only [Ty.d_row] at e
    have hl := pool_len hs
    have ih : ∀ p ∈ fs, 0 ≤ count p.2 ∧ (count p.2).natAbs < 2 ^ 64 ∧ (∀ M, Phi genv tbl (n + h + 3) 1 [p.2.d] M = .ok (.int (count p.2)) M) ∧ ∀ j M, 0 ≤ j → j < count p.2 → Phi genv tbl (n + h + 3) 2 [p.2.d, .int j] M = .ok (samp p.2 j).d M := fun p hp => ⟨(count_bound (of p hp)).1, small (of p hp) (by omega), fun M => by
      have := many_ok (n := n + 3) (of p hp) (by omega) M
      rw [← this]; congr 1; omega, fun j M j0 j1 => sample_ok (of p hp) (by omega) j M j0 j1⟩
    rw [show n + (h + 1) + 3 = n + h + 3 + 1 by omega, phi_s (df := d_sample) rfl rfl rfl rfl]
    cases k with
    | true =>
      have h1' : i < prod fs := by simpa [count, counts_prod] using h1
      have L := sampR_loop (n := n + h + 3) (Ty.row true fs).d none fs i [] M (by simpa using hl) ih h0 h1'
      simp only [Ty.d_row] at L
      simp [d_sample, b_sample, n_sample, startG, e, h0, h1, pr_eq, pr_itemt, samp, L]
    | false =>
      have h1' : i < sum fs := by simpa [count, counts_sum] using h1
      have L := sampC_loop (n := n + h + 3) (Ty.row false fs).d none none fs i M (fun p hp => ⟨(ih p hp).1, (ih p hp).2.2⟩) h0 h1'
      simp only [Ty.d_row] at L
      simp [d_sample, b_sample, n_sample, startG, e, h0, h1, pr_eq, pr_itemt, samp, L]
end
end K13
set_option Elab.async false
set_option linter.all false
set_option maxRecDepth 100000
namespace K13
open Mi PySem
section
variable {n : Nat}
abbrev lsBody : List S := [.set (.nm 5) (.call 10 [(.var 4)]),
      .ite (.and [(.prim .eq [(.prim .item [(.var 0), (.con (.int 0))]), (.con (.str "case"))]), (.prim .lt [(.var 1), (.var 5)])])
      [.ret (.tup [(.con (.str "tag")), (.var 3), (.call 11 [(.var 4), (.var 1)])])]
      [],
      .ite (.prim .eq [(.prim .item [(.var 0), (.con (.int 0))]), (.con (.str "record"))])
      [.mth .app (.sl 2) (.tup [(.var 3), (.call 11 [(.var 4), (.prim .mod [(.prim .intOf [(.var 1)]), (.var 5)])])]),
        .set (.nm 1) (.prim .fdiv [(.var 1), (.var 5)])]
      [.set (.nm 1) (.prim .sub [(.var 1), (.var 5)])]]
theorem lsR_loop (x : D) (hx : pr n .item [x, .int 0] = some (.s (kw true))) (hd : ∀ M, deref M x = x) : ∀ (fs : List (String × Ty)) (i : Int) (acc : List D) (M : MS), acc.length + fs.length ≤ 3 → (∀ p ∈ fs, 0 ≤ count p.2 ∧ (count p.2).natAbs < 2 ^ 64 ∧ (∀ M, Phi genv tbl n 10 [p.2.d] M = .ok (.int (count p.2)) M) ∧ ∀ j M, 0 ≤ j → j < count p.2 → Phi genv tbl n 11 [p.2.d, .int j] M = .ok (samp p.2 j).d M) → 0 ≤ i → i < prod fs →
    loopL (lstep genv (Phi genv tbl n) n (.tup [(.nm 3), (.nm 4)]) lsBody [3, 4, 5]) (Ty.ds fs) [some (.val x), some (.val (.int i)), some (.own (.lst acc)), none, none, none] M = .ok (.nxt [some (.val x), some (.val (.int (divs fs i))), some (.own (.lst (acc ++ V.ds (sampR fs i)))), none, none, none]) M
  | [], i, acc, M, _, _, _, _ => by simp [divs, sampR]
  | (l, t) :: r, i, acc, M, hl, hp, h0, h1 => by
    obtain ⟨q0, q1, q2, q3⟩ := hp (l, t) (List.mem_cons_self ..)
    obtain ⟨c0, m0, m1, d0, d1⟩ := in_prod q0 h0 h1
    simp only [List.length_cons] at hl
    have ih := lsR_loop x hx hd r (i / count t) (acc ++ [.tup [.s l, (samp t (i % count t)).d]]) M (by simp; omega) (fun p h => hp p (List.mem_cons_of_mem _ h)) d0 d1
    have e1 : (∀ a, pr n .mod [.int a, .int (count t)] = some (.int (a % count t))) := fun a => pr_modP c0
    have e2 : (∀ a, pr n .fdiv [.int a, .int (count t)] = some (.int (a / count t))) := fun a => pr_divP c0 (log2_small q1)
    have e3 := q3 _ M m0 m1
    have e4 : acc.length < limit := by unfold limit; omega
    rw [Ty.ds_cons, loopL_cons, divs, sampR, V.ds_cons]
    simp [lstep, q2, e1, e2, e3, evTg, upT, muO, appO, lstT, e4, ih, hx, hd, pr_eq]
theorem lsC_loop (x : D) (hx : pr n .item [x, .int 0] = some (.s (kw false))) (hd : ∀ M, deref M x = x) : ∀ (fs : List (String × Ty)) (i : Int) (y : Option Sl) (M : MS), (∀ p ∈ fs, 0 ≤ count p.2 ∧ (∀ M, Phi genv tbl n 10 [p.2.d] M = .ok (.int (count p.2)) M) ∧ ∀ j M, 0 ≤ j → j < count p.2 → Phi genv tbl n 11 [p.2.d, .int j] M = .ok (samp p.2 j).d M) → 0 ≤ i → i < sum fs →
    loopL (lstep genv (Phi genv tbl n) n (.tup [(.nm 3), (.nm 4)]) lsBody [3, 4, 5]) (Ty.ds fs) [some (.val x), some (.val (.int i)), y, none, none, none] M = .ok (.ret (sampC fs i).d) M
  | [], i, y, M, _, h0, h1 => by simp [sum] at h1; omega
  | (l, t) :: r, i, y, M, hp, h0, h1 => by
    obtain ⟨q0, q2, q3⟩ := hp (l, t) (List.mem_cons_self ..)
    simp only [sum] at h1
    rw [Ty.ds_cons, loopL_cons, sampC]
    by_cases c : i < count t
    · have e3 := q3 _ M h0 c
      simp [lstep, q2, c, e3, hx, hd, pr_eq]
    · have ih := lsC_loop x hx hd r (i - count t) y M (fun p h => hp p (List.mem_cons_of_mem _ h)) (by omega) (by omega)
      simp [lstep, q2, c, ih, hx, hd, pr_eq]
theorem lsample_ok : ∀ {h t}, Ok h t → h ≤ 4 → ∀ i M, 0 ≤ i → i < count t → Phi genv tbl (n + h + 1) 11 [t.d, .int i] M = .ok (samp t i).d M
  | _, _, .int (h := h), l, i, M, h0, h1 => by
    rw [phi_s (df := d__law_sample) rfl rfl rfl rfl]
    simp [d__law_sample, b__law_sample, n__law_sample, startG, pr_eq, pr_itemt, samp]
  | _, _, .fn (h := h) (a := a) (b := b) oa ob, l, i, M, h0, h1 => by
    have h1' : i < 1 + count b := by simpa [count] using h1
    rw [show n + (h + 1) + 1 = n + h + 1 + 1 by omega, phi_s (df := d__law_sample) rfl rfl rfl rfl]
    by_cases z : i = 0
    · subst z
      simp [d__law_sample, b__law_sample, n__law_sample, startG, pr_eq, pr_itemt, samp, endD]
    · have ih := lsample_ok ob (by omega) (i - 1) M (by omega) (by omega)
      simp [d__law_sample, b__law_sample, n__law_sample, startG, pr_eq, pr_itemt, samp, z, ih]
  | _, _, .row (h := h) (k := k) (fs := fs) of hs, l, i, M, h0, h1 => by
    have hl := pool_len hs
    have ih : ∀ p ∈ fs, 0 ≤ count p.2 ∧ (count p.2).natAbs < 2 ^ 64 ∧ (∀ M, Phi genv tbl (n + h + 1) 10 [p.2.d] M = .ok (.int (count p.2)) M) ∧ ∀ j M, 0 ≤ j → j < count p.2 → Phi genv tbl (n + h + 1) 11 [p.2.d, .int j] M = .ok (samp p.2 j).d M := fun p hp => ⟨(count_bound (of p hp)).1, small (of p hp) (by omega), fun M => by
      have := count_ok (n := n + 1) (of p hp) (by omega) M
      rw [← this]; congr 1; omega, fun j M j0 j1 => lsample_ok (of p hp) (by omega) j M j0 j1⟩
    rw [show n + (h + 1) + 1 = n + h + 1 + 1 by omega, phi_s (df := d__law_sample) rfl rfl rfl rfl]
    cases k with
    | true =>
      have h1' : i < prod fs := by simpa [count, counts_prod] using h1
      have L := lsR_loop (n := n + h + 1) (Ty.row true fs).d (by simp [pr_itemt]) (by simp) fs i [] M (by simpa using hl) ih h0 h1'
      simp only [Ty.d_row] at L
      simp [d__law_sample, b__law_sample, n__law_sample, startG, pr_eq, pr_itemt, samp, L]
    | false =>
      have h1' : i < sum fs := by simpa [count, counts_sum] using h1
      have L := lsC_loop (n := n + h + 1) (Ty.row false fs).d (by simp [pr_itemt]) (by simp) fs i (some (.own (.lst []))) M (fun p hp => ⟨(ih p hp).1, (ih p hp).2.2⟩) h0 h1'
      simp only [Ty.d_row] at L
      simp [d__law_sample, b__law_sample, n__law_sample, startG, pr_eq, pr_itemt, samp, L]
end
end K13
set_option Elab.async false
set_option linter.all false
set_option maxRecDepth 100000
namespace K13
open Mi PySem
def zD : D := .tup [.s "z", .tup [.s "int", .int 0]]
def xD : D := .tup [.s "call", .tup [.s "name", .s "f"], .tup [.s "name", .s "x"]]
/-- what is near a sample and none -/
inductive Nr : V → D → Prop where
  | int {i j : Int} : (j = 9 ∨ j = 4 ∨ j = -2) → Nr (.int i) (.tup [.s "int", .int j])
  | tagZ {l v} : Nr (.tag l v) (.tup [.s "tag", .s "Zz", v.d])
  | tagN {l v d} : Nr v d → Nr (.tag l v) (.tup [.s "tag", .s l, d])
  | tagI {l v} : Nr (.tag l v) (.tup [.s "int", .int 0])
  | rowZ {fs} : Nr (.row fs) (.tup [.s "record", .tup (V.ds fs ++ [zD])])
  | rowT {fs} : Nr (.row fs) (.tup [.s "record", .tup ((V.ds fs).tail ++ [zD])])
  | rowN {fs gs l v d} : Nr v d → Nr (.row (fs ++ (l, v) :: gs)) (.tup [.s "record", .tup (V.ds fs ++ .tup [.s l, d] :: V.ds gs)])
  | fnY {v} : Nr (.fn v) (.tup [.s "fn", .s "y", v.d])
  | fnN {v d} : Nr v d → Nr (.fn v) (.tup [.s "fn", .s "x", d])
  | endG : Nr .endless (.tup [.s "fix", .s "g", .s "x", xD])
  | endN : Nr .endless (.tup [.s "fix", .s "f", .s "x", .tup [.s "name", .s "x"]])
mutual
theorem V.plain : ∀ v : V, v.d.plain = true
  | .int i => by simp
  | .endless => by simp [endD]
  | .fn v => by simp [V.plain v]
  | .tag l v => by simp [V.plain v]
  | .row fs => by simp [V.plains fs]
theorem V.plains : ∀ fs : List (String × V), D.plains (V.ds fs) = true
  | [] => by simp
  | (l, v) :: r => by simp [V.plain v, V.plains r]
end
theorem Nr.plain {v d} (h : Nr v d) : d.plain = true := by
  induction h with
  | int h => simp
  | tagZ => simp [V.plain]
  | tagN h ih => simp [ih]
  | tagI => simp
  | rowZ => simp [V.plains, zD]
  | rowT => simp [plains_tail _ (V.plains _), zD]
  | rowN h ih => simp [V.plains, ih]
  | fnY => simp [V.plain]
  | fnN h ih => simp [ih]
  | endG => simp [xD]
  | endN => simp
section
variable {n : Nat} {M : MS}
theorem end_dp : endD.dp ≤ 10 := by decide
/-- is it the endless one -/
theorem eq_end {d : D} (h : d.plain = true) (b : Bool) (e : d.eqb endD = b) : eqO n d endD = some b :=
  eqO_of h (by simp [endD]) (by have := end_dp; omega) e
@[simp] theorem eq_end_fn (x : String) (d : D) (h : d.plain = true) : eqO n (.tup [.s "fn", .s x, d]) endD = some false :=
  eq_end (by simp [h]) _ (by simp [D.eqb, endD, D.py, D.pys, PyData.eqv, PyData.eqvAll])
@[simp] theorem eq_end_end : eqO n endD endD = some true := eq_end (by simp [endD]) _ (by simp [D.eqb, endD, D.py, D.pys, PyData.eqv, PyData.eqvAll])
theorem eq_end_g : eqO n (.tup [.s "fix", .s "g", .s "x", xD]) endD = some false := eq_end (by simp [xD]) _ (by simp [D.eqb, endD, xD, D.py, D.pys, PyData.eqv, PyData.eqvAll])
theorem eq_end_n : eqO n (.tup [.s "fix", .s "f", .s "x", .tup [.s "name", .s "x"]]) endD = some false := eq_end (by simp) _ (by simp [D.eqb, endD, D.py, D.pys, PyData.eqv, PyData.eqvAll])

@[simp] theorem augO_add (a b : Int) : augO .add (.int a) (.int b) = some (.int (a + b)) := rfl
@[simp] theorem augO_sub (a b : Int) : augO .sub (.int a) (.int b) = some (.int (a - b)) := rfl
theorem augO_mulR {a b : Int} (h : b.natAbs < 2 ^ 64) : augO .mul (.int a) (.int b) = some (.int (a * b)) := by
  show (if mulOk a b = true then _ else _) = _
  rw [if_pos (mulL (bits_small h))]
abbrev noS (W : String) : Ex := no (.s W)
abbrev nbBody : List S := [.ite (.prim .ne [(.var 4), (.var 6)])
        [.raise "NoSuch" [(.con (.str "sample"))]]
        [],
        .aug 2 .add (.prim .mul [(.var 3), (.call 3 [(.var 5), (.var 7)])]),
        .aug 3 .mul (.call 1 [(.var 5)])]
theorem samp_len : ∀ fs i, (V.ds (sampR fs i)).length = fs.length
  | [], i => by simp [sampR]
  | (l, t) :: r, i => by simp [sampR, samp_len r]
theorem small_of {x c : Int} (h0 : 0 ≤ x) (h1 : x < c) (h : c.natAbs < 2 ^ 64) : x.natAbs < 2 ^ 64 := by omega
def zip2 (x y : D) : D := .tup [x, y]
theorem numR_loop (x y : D) (z : Option Sl) : ∀ (fs : List (String × Ty)) (a u i : Int) (M : MS), (∀ p ∈ fs, 0 ≤ count p.2 ∧ (count p.2).natAbs < 2 ^ 64 ∧ (∀ M, Phi genv tbl (n + 2) 1 [p.2.d] M = .ok (.int (count p.2)) M) ∧ ∀ j M, 0 ≤ j → j < count p.2 → Phi genv tbl (n + 2) 3 [p.2.d, (samp p.2 j).d] M = .ok (.int j) M) → 0 ≤ i → i < prod fs →
    loopL (lstep genv (Phi genv tbl (n + 2)) (n + 2) (.tup [(.tup [(.nm 4), (.nm 5)]), (.tup [(.nm 6), (.nm 7)])]) nbBody [4, 5, 6, 7]) (List.zipWith (fun x y => D.tup [x, y]) (Ty.ds fs) (V.ds (sampR fs i))) [some (.val x), some (.val y), some (.val (.int a)), some (.val (.int u)), none, none, none, none, z] M = .ok (.nxt [some (.val x), some (.val y), some (.val (.int (a + u * i))), some (.val (.int (u * prod fs))), none, none, none, none, z]) M
  | [], a, u, i, M, _, h0, h1 => by
    have : i = 0 := by simp [prod] at h1; omega
    subst this
    simp [prod, sampR]
  | (l, t) :: r, a, u, i, M, hp, h0, h1 => by
    obtain ⟨q0, q1, q2, q3⟩ := hp (l, t) (List.mem_cons_self ..)
    obtain ⟨c0, m0, m1, d0, d1⟩ := in_prod q0 h0 h1
    have ih := numR_loop x y z r (a + u * (i % count t)) (u * count t) (i / count t) M (fun p h => hp p (List.mem_cons_of_mem _ h)) d0 d1
    have e3 := q3 _ M m0 m1
    have e4 : a + u * (i % count t) + u * count t * (i / count t) = a + u * i := by
      rw [Int.mul_assoc, Int.add_assoc, ← Int.mul_add, Int.emod_add_mul_ediv]
    rw [e4] at ih
    rw [Ty.ds_cons, sampR, V.ds_cons, List.zipWith_cons_cons, loopL_cons, prod, ← Int.mul_assoc, ← ih]
    simp [lstep, q2, e3, pr_ne, pr_mulR (small_of m0 m1 q1), augO_mulR q1]
theorem numR_bad (x y : D) (z : Option Sl) : ∀ (fs : List (String × Ty)) (gs : List (String × V)) (l : String) (v : V) (rest : List (String × V)) (d : D) (a u i : Int) (M : MS), sampR fs i = gs ++ (l, v) :: rest → Nr v d → (∀ p ∈ fs, 0 ≤ count p.2 ∧ (count p.2).natAbs < 2 ^ 64 ∧ (∀ M, Phi genv tbl (n + 2) 1 [p.2.d] M = .ok (.int (count p.2)) M) ∧ (∀ j M, 0 ≤ j → j < count p.2 → Phi genv tbl (n + 2) 3 [p.2.d, (samp p.2 j).d] M = .ok (.int j) M) ∧ ∀ j d M, 0 ≤ j → j < count p.2 → Nr (samp p.2 j) d → Phi genv tbl (n + 2) 3 [p.2.d, d] M = .exc (noS "sample") M) → 0 ≤ i → i < prod fs →
    ∃ σ, loopL (lstep genv (Phi genv tbl (n + 2)) (n + 2) (.tup [(.tup [(.nm 4), (.nm 5)]), (.tup [(.nm 6), (.nm 7)])]) nbBody [4, 5, 6, 7]) (List.zipWith (fun x y => D.tup [x, y]) (Ty.ds fs) (V.ds gs ++ .tup [.s l, d] :: V.ds rest)) [some (.val x), some (.val y), some (.val (.int a)), some (.val (.int u)), none, none, none, none, z] M = .ok (.exc (noS "sample") σ) M
  | [], gs, l, v, rest, d, a, u, i, M, e, _, _, _, _ => by
    simp [sampR] at e
  | (l', t) :: r, gs, l, v, rest, d, a, u, i, M, e, hn, hp, h0, h1 => by
    obtain ⟨q0, q1, q2, q3, q4⟩ := hp (l', t) (List.mem_cons_self ..)
    obtain ⟨c0, m0, m1, d0, d1⟩ := in_prod q0 h0 h1
    rw [sampR] at e
    cases gs with
    | nil =>
      simp only [List.nil_append, List.cons.injEq, Prod.mk.injEq] at e
      obtain ⟨⟨rfl, rfl⟩, _⟩ := e
      have e3 := q4 _ d M m0 m1 hn
      rw [Ty.ds_cons, V.ds_nil, List.nil_append, List.zipWith_cons_cons, loopL_cons]
      simp [lstep, q2, e3, pr_ne]
    | cons g gs =>
      simp only [List.cons_append, List.cons.injEq] at e
      obtain ⟨rfl, e⟩ := e
      have e3 := q3 _ M m0 m1
      obtain ⟨σ, ih⟩ := numR_bad x y z r gs l v rest d (a + u * (i % count t)) (u * count t) (i / count t) M e hn (fun p h => hp p (List.mem_cons_of_mem _ h)) d0 d1
      refine ⟨σ, ?_⟩
      rw [Ty.ds_cons, V.ds_cons, List.cons_append, List.zipWith_cons_cons, loopL_cons, ← ih]
      simp [lstep, q2, e3, pr_ne, pr_mulR (small_of m0 m1 q1), augO_mulR q1]
end
end K13
set_option Elab.async false
set_option linter.all false
set_option maxRecDepth 100000
namespace K13
open Mi PySem
section
variable {n : Nat} {M : MS}
abbrev ncBody : List S := [.ite (.prim .eq [(.var 8), (.prim .item [(.var 1), (.con (.int 1))])])
        [.ret (.prim .add [(.var 2), (.call 3 [(.var 5), (.prim .item [(.var 1), (.con (.int 2))])])])]
        [],
        .aug 2 .add (.call 1 [(.var 5)])]
theorem sampC_mem : ∀ (fs : List (String × Ty)) (i : Int) (l : String) (v : V), sampC fs i = .tag l v → l ∈ fs.map (·.1)
  | [], i, l, v, h => by simp [sampC] at h
  | (l', t) :: r, i, l, v, h => by
    rw [sampC] at h
    split at h
    · simp only [V.tag.injEq] at h
      simp [h.1]
    · exact List.mem_cons_of_mem _ (sampC_mem r _ l v h)
theorem sampC_tag : ∀ (fs : List (String × Ty)) (i : Int), 0 ≤ i → i < sum fs → ∃ l v, sampC fs i = .tag l v
  | [], i, h0, h1 => by simp [sum] at h1; omega
  | (l, t) :: r, i, h0, h1 => by
    rw [sampC]
    simp only [sum] at h1
    split
    · exact ⟨_, _, rfl⟩
    · exact sampC_tag r _ (by omega) (by omega)
theorem numC_loop (x y : D) (s3 s4 s6 s7 : Option Sl) (hd : ∀ M, deref M y = y) : ∀ (fs : List (String × Ty)) (a i : Int) (l : String) (v : V) (M : MS), sampC fs i = .tag l v → pr n .item [y, .int 1] = some (.s l) → pr n .item [y, .int 2] = some v.d → (fs.map (·.1)).Nodup → (∀ p ∈ fs, (∀ M, Phi genv tbl n 1 [p.2.d] M = .ok (.int (count p.2)) M) ∧ ∀ j M, 0 ≤ j → j < count p.2 → Phi genv tbl n 3 [p.2.d, (samp p.2 j).d] M = .ok (.int j) M) → 0 ≤ i → i < sum fs →
    loopL (lstep genv (Phi genv tbl n) n (.tup [(.nm 8), (.nm 5)]) ncBody [5, 8]) (Ty.ds fs) [some (.val x), some (.val y), some (.val (.int a)), s3, s4, none, s6, s7, none] M = .ok (.ret (.int (a + i))) M
  | [], a, i, l, v, M, e, _, _, _, _, h0, h1 => by simp [sum] at h1; omega
  | (l', t) :: r, a, i, l, v, M, e, y1, y2, nd, hp, h0, h1 => by
    obtain ⟨q2, q3⟩ := hp (l', t) (List.mem_cons_self ..)
    simp only [sum] at h1
    rw [Ty.ds_cons, loopL_cons]
    rw [sampC] at e
    by_cases c : i < count t
    · rw [if_pos c] at e
      simp only [V.tag.injEq] at e
      obtain ⟨rfl, rfl⟩ := e
      have e3 := q3 _ M h0 c
      simp [lstep, e3, hd, y1, y2, pr_eq]
    · rw [if_neg c] at e
      have ne : ¬ l' = l := by
        rintro rfl
        exact (List.nodup_cons.mp nd).1 (sampC_mem r _ _ _ e)
      have ih := numC_loop x y s3 s4 s6 s7 hd r (a + count t) (i - count t) l v M e y1 y2 (List.nodup_cons.mp nd).2 (fun p h => hp p (List.mem_cons_of_mem _ h)) (by omega) (by omega)
      rw [show a + count t + (i - count t) = a + i by omega] at ih
      simp [lstep, q2, hd, y1, pr_eq, ne, ih]
theorem numC_bad (x y d : D) (s3 s4 s6 s7 : Option Sl) (hd : ∀ M, deref M y = y) : ∀ (fs : List (String × Ty)) (a i : Int) (l : String) (v : V) (M : MS), sampC fs i = .tag l v → Nr v d → pr n .item [y, .int 1] = some (.s l) → pr n .item [y, .int 2] = some d → (fs.map (·.1)).Nodup → (∀ p ∈ fs, (∀ M, Phi genv tbl n 1 [p.2.d] M = .ok (.int (count p.2)) M) ∧ ∀ j d M, 0 ≤ j → j < count p.2 → Nr (samp p.2 j) d → Phi genv tbl n 3 [p.2.d, d] M = .exc (noS "sample") M) → 0 ≤ i → i < sum fs →
    ∃ σ, loopL (lstep genv (Phi genv tbl n) n (.tup [(.nm 8), (.nm 5)]) ncBody [5, 8]) (Ty.ds fs) [some (.val x), some (.val y), some (.val (.int a)), s3, s4, none, s6, s7, none] M = .ok (.exc (noS "sample") σ) M
  | [], a, i, l, v, M, e, _, _, _, _, _, h0, h1 => by simp [sum] at h1; omega
  | (l', t) :: r, a, i, l, v, M, e, hn, y1, y2, nd, hp, h0, h1 => by
    obtain ⟨q2, q3⟩ := hp (l', t) (List.mem_cons_self ..)
    simp only [sum] at h1
    rw [Ty.ds_cons, loopL_cons]
    rw [sampC] at e
    by_cases c : i < count t
    · rw [if_pos c] at e
      simp only [V.tag.injEq] at e
      obtain ⟨rfl, rfl⟩ := e
      have e3 := q3 _ d M h0 c hn
      simp [lstep, e3, hd, y1, y2, pr_eq]
    · rw [if_neg c] at e
      have ne : ¬ l' = l := by
        rintro rfl
        exact (List.nodup_cons.mp nd).1 (sampC_mem r _ _ _ e)
      obtain ⟨σ, ih⟩ := numC_bad x y d s3 s4 s6 s7 hd r (a + count t) (i - count t) l v M e hn y1 y2 (List.nodup_cons.mp nd).2 (fun p h => hp p (List.mem_cons_of_mem _ h)) (by omega) (by omega)
      refine ⟨σ, ?_⟩
      simp [lstep, q2, hd, y1, pr_eq, ne, ih]
theorem numC_none (x y : D) (w : String) (s3 s4 s6 s7 : Option Sl) (hd : ∀ M, deref M y = y) (y1 : pr n .item [y, .int 1] = some (.s w)) : ∀ (fs : List (String × Ty)) (a : Int) (M : MS), w ∉ fs.map (·.1) → (∀ p ∈ fs, ∀ M, Phi genv tbl n 1 [p.2.d] M = .ok (.int (count p.2)) M) →
    loopL (lstep genv (Phi genv tbl n) n (.tup [(.nm 8), (.nm 5)]) ncBody [5, 8]) (Ty.ds fs) [some (.val x), some (.val y), some (.val (.int a)), s3, s4, none, s6, s7, none] M = .ok (.nxt [some (.val x), some (.val y), some (.val (.int (a + sum fs))), s3, s4, none, s6, s7, none]) M
  | [], a, M, _, _ => by simp [sum]
  | (l', t) :: r, a, M, hw, hp => by
    have q2 := hp (l', t) (List.mem_cons_self ..)
    simp only [List.map_cons, List.mem_cons, not_or] at hw
    have ne : ¬ l' = w := fun z => hw.1 z.symm
    have ih := numC_none x y w s3 s4 s6 s7 hd y1 r (a + count t) M hw.2 fun p h => hp p (List.mem_cons_of_mem _ h)
    rw [Ty.ds_cons, loopL_cons, sum, ← Int.add_assoc, ← ih]
    simp [lstep, q2, hd, y1, pr_eq, ne]
theorem pool_nodup {k : Bool} {fs : List (String × Ty)} (h : (fs.map (·.1)).Sublist (pool k)) : (fs.map (·.1)).Nodup := by
  refine h.nodup ?_
  cases k <;> decide
@[simp] theorem deref_end (M : MS) : deref M endD = endD := by simp [endD]
theorem glb_end : (D.tup [D.s "fix", D.s "f", D.s "x", D.tup [D.s "call", D.tup [D.s "name", D.s "f"], D.tup [D.s "name", D.s "x"]]]) = endD := rfl
theorem num_ok : ∀ {h t}, Ok h t → h ≤ 4 → ∀ i M, 0 ≤ i → i < count t → Phi genv tbl (n + h + 3) 3 [t.d, (samp t i).d] M = .ok (.int i) M
  | _, _, .int (h := h), l, i, M, h0, h1 => by
    simp only [count] at h1
    rw [phi_s (df := d_number_of) rfl rfl rfl rfl]
    have e1 : -1 ≤ i - 1 := by omega
    have e2 : i - 1 < 4 := by omega
    simp [d_number_of, b_number_of, n_number_of, startG, pr_eq, pr_itemt, samp, e1, e2]
  | _, _, .fn (h := h) (a := a) (b := b) oa ob, l, i, M, h0, h1 => by
    have h1' : i < 1 + count b := by simpa [count] using h1
    rw [show n + (h + 1) + 3 = n + h + 3 + 1 by omega, phi_s (df := d_number_of) rfl rfl rfl rfl]
    by_cases z : i = 0
    · subst z
      simp [d_number_of, b_number_of, n_number_of, startG, pr_eq, pr_itemt, samp, glb_end]
    · have ih := num_ok ob (by omega) (i - 1) M (by omega) (by omega)
      have e : 1 + (i - 1) = i := by omega
      simp [d_number_of, b_number_of, n_number_of, startG, pr_eq, pr_itemt, samp, glb_end, z, ih, V.plain, e]
  | _, _, .row (h := h) (k := k) (fs := fs) of hs, l, i, M, h0, h1 => by
    have hl := pool_len hs
    have ih : ∀ p ∈ fs, 0 ≤ count p.2 ∧ (count p.2).natAbs < 2 ^ 64 ∧ (∀ M, Phi genv tbl (n + h + 3) 1 [p.2.d] M = .ok (.int (count p.2)) M) ∧ ∀ j M, 0 ≤ j → j < count p.2 → Phi genv tbl (n + h + 3) 3 [p.2.d, (samp p.2 j).d] M = .ok (.int j) M := fun p hp => ⟨(count_bound (of p hp)).1, small (of p hp) (by omega), fun M => by
      have := many_ok (n := n + 3) (of p hp) (by omega) M
      rw [← this]; congr 1; omega, fun j M j0 j1 => num_ok (of p hp) (by omega) j M j0 j1⟩
    rw [show n + (h + 1) + 3 = n + h + 3 + 1 by omega, phi_s (df := d_number_of) rfl rfl rfl rfl]
    cases k with
    | true =>
      have h1' : i < prod fs := by simpa [count, counts_prod] using h1
      have L := numR_loop (n := n + h + 1) (Ty.row true fs).d (V.row (sampR fs i)).d none fs 0 1 i M ih h0 h1'
      have e1 : (Ty.ds fs).length = fs.length := by rw [ds_map, List.length_map]
      have e2 := samp_len fs i
      simp only [Ty.d_row, V.d_row, Int.zero_add, Int.one_mul] at L
      simp [d_number_of, b_number_of, n_number_of, startG, pr_eq, pr_itemt, samp, e1, e2, parG, L]
    | false =>
      have h1' : i < sum fs := by simpa [count, counts_sum] using h1
      obtain ⟨lb, v, e⟩ := sampC_tag fs i h0 h1'
      have L := numC_loop (n := n + h + 3) (Ty.row false fs).d (V.tag lb v).d none none none none (by simp) fs 0 i lb v M e (by simp [pr_itemt]) (by simp [pr_itemt]) (pool_nodup hs) (fun p hp => (ih p hp).2.2) h0 h1'
      simp only [Ty.d_row, V.d_tag, Int.zero_add] at L
      simp [d_number_of, b_number_of, n_number_of, startG, pr_eq, pr_itemt, samp, e, L]
end
end K13
set_option Elab.async false
set_option linter.all false
set_option maxRecDepth 100000
namespace K13
open Mi PySem
section
variable {n : Nat} {M : MS}
theorem ds_len (fs : List (String × Ty)) : (Ty.ds fs).length = fs.length := by rw [ds_map, List.length_map]
theorem num_bad : ∀ {h t}, Ok h t → h ≤ 4 → ∀ i d M, 0 ≤ i → i < count t → Nr (samp t i) d → Phi genv tbl (n + h + 3) 3 [t.d, d] M = .exc (noS "sample") M
  | _, _, .int (h := h), l, i, d, M, h0, h1, hn => by
    simp only [samp] at hn
    rw [phi_s (df := d_number_of) rfl rfl rfl rfl]
    cases hn with
    | int hj => rcases hj with rfl | rfl | rfl <;> simp [d_number_of, b_number_of, n_number_of, startG, pr_eq, pr_itemt]
  | _, _, .fn (h := h) (a := a) (b := b) oa ob, l, i, d, M, h0, h1, hn => by
    have h1' : i < 1 + count b := by simpa [count] using h1
    rw [show n + (h + 1) + 3 = n + h + 3 + 1 by omega, phi_s (df := d_number_of) rfl rfl rfl rfl]
    by_cases z : i = 0
    · subst z
      simp only [samp, if_true] at hn
      cases hn with
      | endG => simp [d_number_of, b_number_of, n_number_of, startG, pr_eq, pr_itemt, glb_end, eq_end_g]
      | endN => simp [d_number_of, b_number_of, n_number_of, startG, pr_eq, pr_itemt, glb_end, eq_end_n]
    · simp only [samp, if_neg z] at hn
      generalize hv : samp b (i - 1) = v at hn
      cases hn with
      | fnY => simp [d_number_of, b_number_of, n_number_of, startG, pr_eq, pr_itemt, glb_end, V.plain]
      | fnN hn =>
        rename_i d
        have ih := num_bad ob (by omega) (i - 1) d M (by omega) (by omega) (hv ▸ hn)
        have hp := hn.plain
        simp [d_number_of, b_number_of, n_number_of, startG, pr_eq, pr_itemt, glb_end, ih, hp]
  | _, _, .row (h := h) (k := k) (fs := fs) of hs, l, i, d, M, h0, h1, hn => by
    have hl := pool_len hs
    have nd := pool_nodup hs
    have ih : ∀ p ∈ fs, 0 ≤ count p.2 ∧ (count p.2).natAbs < 2 ^ 64 ∧ (∀ M, Phi genv tbl (n + h + 3) 1 [p.2.d] M = .ok (.int (count p.2)) M) ∧ (∀ j M, 0 ≤ j → j < count p.2 → Phi genv tbl (n + h + 3) 3 [p.2.d, (samp p.2 j).d] M = .ok (.int j) M) ∧ ∀ j d M, 0 ≤ j → j < count p.2 → Nr (samp p.2 j) d → Phi genv tbl (n + h + 3) 3 [p.2.d, d] M = .exc (noS "sample") M := fun p hp => ⟨(count_bound (of p hp)).1, small (of p hp) (by omega), fun M => by
      have := many_ok (n := n + 3) (of p hp) (by omega) M
      rw [← this]; congr 1; omega, fun j M j0 j1 => num_ok (of p hp) (by omega) j M j0 j1, fun j d M j0 j1 hn => num_bad (of p hp) (by omega) j d M j0 j1 hn⟩
    have e1 : (Ty.ds fs).length = fs.length := by rw [ds_map, List.length_map]
    have e2 := samp_len fs i
    rw [show n + (h + 1) + 3 = n + h + 3 + 1 by omega, phi_s (df := d_number_of) rfl rfl rfl rfl]
    cases k with
    | true =>
      have h1' : i < prod fs := by simpa [count, counts_prod] using h1
      simp only [samp, if_true] at hn
      generalize hv : sampR fs i = gs at hn
      rw [hv] at e2
      cases hn with
      | rowZ =>
        have nn : ¬ (fs.length : Int) + 1 = fs.length := by omega
        simp [d_number_of, b_number_of, n_number_of, startG, pr_eq, pr_itemt, e1, e2, nn]
      | rowT =>
        cases fs with
        | nil =>
          simp only [sampR] at hv
          subst hv
          simp [d_number_of, b_number_of, n_number_of, startG, pr_eq, pr_itemt]
        | cons p r =>
          obtain ⟨lb, t⟩ := p
          simp only [sampR] at hv
          subst hv
          cases r with
          | nil =>
            have lz : ¬ lb = "z" := by
              rintro rfl
              have := hs.subset (List.mem_cons_self ..)
              simp [pool] at this
            simp [d_number_of, b_number_of, n_number_of, startG, pr_eq, pr_ne, pr_itemt, sampR, parG, zD, lstep, lz]
          | cons q r =>
            obtain ⟨lc, u⟩ := q
            have lz : ¬ lb = lc := by
              rintro rfl
              simp at nd
            simp [d_number_of, b_number_of, n_number_of, startG, pr_eq, pr_ne, pr_itemt, sampR, parG, zD, lstep, lz, samp_len, ds_len]
      | rowN hn =>
        rename_i gs rest lb v d
        obtain ⟨σ, L⟩ := numR_bad (n := n + h + 1) (Ty.row true fs).d (.tup [.s "record", .tup (V.ds gs ++ .tup [.s lb, d] :: V.ds rest)]) none fs gs lb v rest d 0 1 i M hv hn ih h0 h1'
        have e3 : (V.ds gs).length + ((V.ds rest).length + 1) = fs.length := by
          rw [← e2]
          have : ∀ l : List (String × V), (V.ds l).length = l.length := by
            intro l
            induction l with
            | nil => simp
            | cons p l ih =>
              obtain ⟨a, b⟩ := p
              simp [ih]
          simp [this]
        simp only [Ty.d_row] at L
        simp [d_number_of, b_number_of, n_number_of, startG, pr_eq, pr_itemt, samp, e1, ← e3, parG, L]
    | false =>
      have h1' : i < sum fs := by simpa [count, counts_sum] using h1
      obtain ⟨lb, v, e⟩ := sampC_tag fs i h0 h1'
      simp only [samp, Bool.false_eq_true, if_false, e] at hn
      cases hn with
      | tagZ =>
        have hz : "Zz" ∉ fs.map (·.1) := fun z => by
          have := hs.subset z
          simp [pool] at this
        have L := numC_none (n := n + h + 3) (Ty.row false fs).d (.tup [.s "tag", .s "Zz", v.d]) "Zz" none none none none (by simp) (by simp [pr_itemt]) fs 0 M hz (fun p hp => (ih p hp).2.2.1)
        simp only [Ty.d_row] at L
        simp [d_number_of, b_number_of, n_number_of, startG, pr_eq, pr_itemt, L]
      | tagN hn =>
        rename_i d
        obtain ⟨σ, L⟩ := numC_bad (n := n + h + 3) (Ty.row false fs).d (.tup [.s "tag", .s lb, d]) d none none none none (by simp) fs 0 i lb v M e hn (by simp [pr_itemt]) (by simp [pr_itemt]) nd (fun p hp => ⟨(ih p hp).2.2.1, (ih p hp).2.2.2.2⟩) h0 h1'
        simp only [Ty.d_row] at L
        simp [d_number_of, b_number_of, n_number_of, startG, pr_eq, pr_itemt, L]
      | tagI => simp [d_number_of, b_number_of, n_number_of, startG, pr_eq, pr_itemt]
end
end K13
set_option Elab.async false
set_option linter.all false
set_option maxRecDepth 100000
namespace K13
open Mi PySem
theorem t_draw : tbl[6]? = some dDraw := rfl
theorem t_pick : tbl[8]? = some (dPick 6) := rfl
theorem t_tape : tbl[7]? = some dTape := rfl
section
variable {n : Nat}
theorem closed_ok : ∀ (deep : Nat) (M : MS), Tp M → ∃ t M', Tp M' ∧ Ok (deep + 1) t ∧ Phi genv tbl (n + deep + 2) 9 [.ref 0, .int deep] M = .ok t.d M'
  | 0, M, hM => by
    refine ⟨.int, M, hM, .int, ?_⟩
    rw [phi_s (df := d__law_closed_type) rfl rfl rfl rfl]
    simp [d__law_closed_type, b__law_closed_type, n__law_closed_type, startG]
  | deep + 1, M, hM => by
    have ih := closed_ok deep
    obtain ⟨w, M1, h1, w0, w1, e1⟩ := draw_ok (G := genv) (tbl := tbl) (n := n + deep + 1) t_draw hM (m := 7) (by decide) (by decide)
    have dp : (0 : Int) < (deep : Int) + 1 := by omega
    have l3 : ∀ r, lim 3 r = r := fun r => lim_le (by decide)
    have eqd : (deep : Int) + 1 - 1 = deep := by omega
    rw [show n + (deep + 1) + 2 = n + deep + 2 + 1 by omega, phi_s (df := d__law_closed_type) rfl rfl rfl rfl]
    by_cases c2 : w < 2
    · refine ⟨.int, M1, h1, .int, ?_⟩
      simp [d__law_closed_type, b__law_closed_type, n__law_closed_type, startG, dp, e1, c2]
    · by_cases c3 : w = 2
      · subst c3
        obtain ⟨a, M2, h2, oa, ea⟩ := ih M1 h1
        obtain ⟨b, M3, h3, ob, eb⟩ := ih M2 h2
        refine ⟨.fn a b, M3, h3, .fn oa ob, ?_⟩
        simp [d__law_closed_type, b__law_closed_type, n__law_closed_type, startG, dp, e1, pr_eq, eqd, ea, eb]
      · have C : ∀ (k : Bool) (σ : Sg), σ = [some (.val (.ref 0)), some (.val (.int (deep + 1))), some (.val (.int w)), some (.val (.lst ((pool k).map D.s))), none] → ∃ (ps : List (String × Ty)) (M' : MS), Tp M' ∧ (ps.map (·.1)).Sublist (pool k) ∧ (∀ p ∈ ps, Ok (deep + 1) p.2) ∧ compL (cstep (Phi genv tbl (n + deep + 2)) (n + deep + 2) σ [4] (.nm 4) [(.prim .eq [(.call 6 [(.var 0), (.con (.int 2))]), (.con (.int 0))])] (.tup [(.var 4), (.call 9 [(.var 0), (.prim .sub [(.var 1), (.con (.int 1))])])])) ((pool k).map D.s) M1 = .ok (ps.map pd) M' := by
          intro k σ hσ
          subst hσ
          refine compL_draw (step := _) D.s (fun l t => pd (l, t)) (fun _ t => Ok (deep + 1) t) (pool k) ?_ M1 h1
          intro l _ M2 h2
          obtain ⟨i, M3, h3, i0, i1, e3⟩ := draw_ok (G := genv) (tbl := tbl) (n := n + deep + 1) t_draw h2 (m := 2) (by decide) (by decide)
          obtain ⟨t, M4, h4, ot, e4⟩ := ih M3 h3
          by_cases z : i = 0
          · subst z
            exact ⟨_, M4, h4, by simp [cstep, e3, pr_eq, eqd, e4]; rfl, .inr ⟨t, rfl, ot⟩⟩
          · exact ⟨none, M3, h3, by simp [cstep, e3, pr_eq, z], .inl rfl⟩
        by_cases c5 : w < 5
        · obtain ⟨ps, M2, h2, sl, ok, e2⟩ := C true _ rfl
          refine ⟨.row true ps, M2, h2, .row ok sl, ?_⟩
          simp [pool] at e2
          simp [d__law_closed_type, b__law_closed_type, n__law_closed_type, startG, dp, e1, pr_eq, c2, c3, c5, l3, e2, ds_map, kw]
        · obtain ⟨ps, M2, h2, sl, ok, e2⟩ := C false _ rfl
          refine ⟨.row false ps, M2, h2, .row ok sl, ?_⟩
          simp [pool] at e2
          simp [d__law_closed_type, b__law_closed_type, n__law_closed_type, startG, dp, e1, pr_eq, c2, c3, c5, l3, e2, ds_map, kw]
end
end K13
set_option Elab.async false
set_option linter.all false
set_option maxRecDepth 100000
namespace K13
open Mi PySem
inductive VOk : Nat → V → Prop where
  | int {h i} : VOk (h + 1) (.int i)
  | endl {h} : VOk (h + 1) .endless
  | fn {h v} : VOk h v → VOk (h + 1) (.fn v)
  | tag {h l v} : VOk h v → VOk (h + 1) (.tag l v)
  | row {h fs} : fs.length ≤ 3 → (∀ p ∈ fs, VOk h p.2) → VOk (h + 1) (.row fs)
theorem VOk.mono : ∀ {h v}, VOk h v → ∀ {j}, h ≤ j → VOk j v
  | _, _, .int, j, hj => by cases j with | zero => omega | succ j => exact .int
  | _, _, .endl, j, hj => by cases j with | zero => omega | succ j => exact .endl
  | _, _, .fn a, j, hj => by cases j with | zero => omega | succ j => exact .fn (a.mono (by omega))
  | _, _, .tag a, j, hj => by cases j with | zero => omega | succ j => exact .tag (a.mono (by omega))
  | _, _, .row l a, j, hj => by cases j with | zero => omega | succ j => exact .row l fun p hp => (a p hp).mono (by omega)
theorem sampR_ok {h : Nat} (ih : ∀ t, Ok h t → ∀ i, VOk h (samp t i)) : ∀ fs i, (∀ p ∈ fs, Ok h p.2) → ∀ q ∈ sampR fs i, VOk h q.2
  | [], i, _, q, hq => by simp [sampR] at hq
  | (l, t) :: r, i, hp, q, hq => by
    rw [sampR] at hq
    rcases List.mem_cons.mp hq with rfl | hq
    · exact ih t (hp (l, t) (List.mem_cons_self ..)) _
    · exact sampR_ok ih r _ (fun p h => hp p (List.mem_cons_of_mem _ h)) q hq
theorem sampC_ok {h : Nat} (ih : ∀ t, Ok h t → ∀ i, VOk h (samp t i)) : ∀ fs i, (∀ p ∈ fs, Ok h p.2) → VOk (h + 1) (sampC fs i)
  | [], i, _ => by rw [sampC]; exact .endl
  | (l, t) :: r, i, hp => by
    rw [sampC]
    split
    · exact .tag (ih t (hp (l, t) (List.mem_cons_self ..)) _)
    · exact sampC_ok ih r _ fun p h => hp p (List.mem_cons_of_mem _ h)
theorem sampR_len : ∀ fs i, (sampR fs i).length = fs.length
  | [], i => by simp [sampR]
  | (l, t) :: r, i => by simp [sampR, sampR_len r]
theorem samp_vok : ∀ {h t}, Ok h t → ∀ i, VOk h (samp t i)
  | _, _, .int, i => by rw [samp]; exact .int
  | _, _, .fn a b, i => by
    rw [samp]
    split
    · exact .endl
    · exact .fn (samp_vok b _)
  | _, _, .row (k := k) (fs := fs) of hs, i => by
    cases k with
    | true => rw [samp, if_pos rfl]; exact .row (by rw [sampR_len]; exact pool_len hs) (sampR_ok (fun t o i => samp_vok o i) fs i of)
    | false => rw [samp, if_neg (by decide)]; exact sampC_ok (fun t o i => samp_vok o i) fs i of
theorem vds_len : ∀ l : List (String × V), (V.ds l).length = l.length
  | [] => by simp
  | (a, b) :: l => by simp [vds_len l]
theorem vds_app : ∀ l r : List (String × V), V.ds (l ++ r) = V.ds l ++ V.ds r
  | [], r => by simp
  | (a, b) :: l, r => by simp [vds_app l r]
section
variable {n : Nat}
theorem near_ok : ∀ {h v}, VOk h v → ∀ M, Tp M → ∃ d M', Tp M' ∧ Nr v d ∧ Phi genv tbl (n + h + 2) 14 [.ref 0, v.d] M = .ok d M'
  | _, _, .int (h := h) (i := i), M, hM => by
    obtain ⟨w, M1, h1, w0, w1, e1⟩ := draw_ok (G := genv) (tbl := tbl) (n := n + h + 1) t_draw hM (m := 3) (by decide) (by decide)
    rw [show n + (h + 1) + 2 = n + h + 2 + 1 by omega, phi_s (df := d__law_near) rfl rfl rfl rfl]
    rcases (by omega : w = 0 ∨ w = 1 ∨ w = 2) with rfl | rfl | rfl
    · exact ⟨_, M1, h1, .int (j := 9) (by decide), by simp [d__law_near, b__law_near, n__law_near, startG, pr_eq, pr_itemt, pr_iteml, e1]⟩
    · exact ⟨_, M1, h1, .int (j := 4) (by decide), by simp [d__law_near, b__law_near, n__law_near, startG, pr_eq, pr_itemt, pr_iteml, e1]⟩
    · exact ⟨_, M1, h1, .int (j := -2) (by decide), by simp [d__law_near, b__law_near, n__law_near, startG, pr_eq, pr_itemt, pr_iteml, e1]⟩
  | _, _, .endl (h := h), M, hM => by
    obtain ⟨d, M1, h1, hd, e1⟩ := pick_ok (G := genv) (tbl := tbl) (n := n + h) t_pick t_draw hM (rows := [.tup [.s "fix", .s "g", .s "x", xD], .tup [.s "fix", .s "f", .s "x", .tup [.s "name", .s "x"]]]) (by simp) (by simp)
    simp only [xD] at e1
    refine ⟨d, M1, h1, ?_, ?_⟩
    · simp only [List.mem_cons, List.not_mem_nil, or_false] at hd
      rcases hd with rfl | rfl
      · exact .endG
      · exact .endN
    · rw [show n + (h + 1) + 2 = n + h + 2 + 1 by omega, phi_s (df := d__law_near) rfl rfl rfl rfl]
      simp [d__law_near, b__law_near, n__law_near, startG, pr_eq, pr_itemt, pr_iteml, endD, e1]
  | _, _, .fn (h := h) (v := v) o, M, hM => by
    obtain ⟨d', M0, h0, hn, e0⟩ := near_ok o M hM
    obtain ⟨d, M1, h1, hd, e1⟩ := pick_ok (G := genv) (tbl := tbl) (n := n + h) t_pick t_draw h0 (rows := [.tup [.s "fn", .s "y", v.d], .tup [.s "fn", .s "x", d']]) (by simp) (by simp)
    refine ⟨d, M1, h1, ?_, ?_⟩
    · simp only [List.mem_cons, List.not_mem_nil, or_false] at hd
      rcases hd with rfl | rfl
      · exact .fnY
      · exact .fnN hn
    · rw [show n + (h + 1) + 2 = n + h + 2 + 1 by omega, phi_s (df := d__law_near) rfl rfl rfl rfl]
      simp [d__law_near, b__law_near, n__law_near, startG, pr_eq, pr_itemt, pr_iteml, e0, e1]
  | _, _, .tag (h := h) (l := l) (v := v) o, M, hM => by
    obtain ⟨d', M0, h0, hn, e0⟩ := near_ok o M hM
    obtain ⟨d, M1, h1, hd, e1⟩ := pick_ok (G := genv) (tbl := tbl) (n := n + h) t_pick t_draw h0 (rows := [.tup [.s "tag", .s "Zz", v.d], .tup [.s "tag", .s l, d'], .tup [.s "int", .int 0]]) (by simp) (by simp)
    refine ⟨d, M1, h1, ?_, ?_⟩
    · simp only [List.mem_cons, List.not_mem_nil, or_false] at hd
      rcases hd with rfl | rfl | rfl
      · exact .tagZ
      · exact .tagN hn
      · exact .tagI
    · rw [show n + (h + 1) + 2 = n + h + 2 + 1 by omega, phi_s (df := d__law_near) rfl rfl rfl rfl]
      simp [d__law_near, b__law_near, n__law_near, startG, pr_eq, pr_itemt, pr_iteml, e0, e1]
  | _, _, .row (h := h) (fs := fs) hl o, M, hM => by
    rw [show n + (h + 1) + 2 = n + h + 2 + 1 by omega, phi_s (df := d__law_near) rfl rfl rfl rfl]
    have lz : ∀ k, k ≤ 20 → k ≤ limit := fun k hk => by unfold limit; omega
    cases hf : fs with
    | nil =>
      obtain ⟨d, M1, h1, hd, e1⟩ := pick_ok (G := genv) (tbl := tbl) (n := n + h) t_pick t_draw hM (rows := [.tup [.s "record", .tup [zD]], .tup [.s "record", .tup [zD]]]) (by simp) (by simp)
      simp only [zD] at e1
      refine ⟨d, M1, h1, ?_, ?_⟩
      · simp only [List.mem_cons, List.not_mem_nil, or_false, or_self] at hd
        subst hd
        exact .rowZ (fs := [])
      · simp [d__law_near, b__law_near, n__law_near, startG, pr_eq, pr_ne, pr_itemt, pr_iteml, pr_addt, eqO_nil, cutO, cut_1, limit, frzG, e1]
    | cons p r =>
      rw [← hf]
      have hl0 : 0 < fs.length := by rw [hf]; simp
      have hne : V.ds fs ≠ [] := by rw [hf]; obtain ⟨a, b⟩ := p; simp
      obtain ⟨w, M1, h1, w0, w1, e1⟩ := draw_ok (G := genv) (tbl := tbl) (n := n + h + 1) t_draw hM (m := fs.length) (by omega) (log2_small (by omega))
      obtain ⟨k, rfl⟩ := Int.eq_ofNat_of_zero_le w0
      have hk : k < fs.length := by omega
      obtain ⟨gs, l, v, rest, dec, hg⟩ : ∃ gs l v rest, fs = gs ++ (l, v) :: rest ∧ gs.length = k := ⟨fs.take k, fs[k].1, fs[k].2, fs.drop (k + 1), by rw [List.getElem_cons_drop, List.take_append_drop], by simp; omega⟩
      obtain ⟨d', M2, h2, hn, e2⟩ := near_ok (o (l, v) (by rw [dec]; simp)) M1 h1
      obtain ⟨d, M3, h3, hd, e3⟩ := pick_ok (G := genv) (tbl := tbl) (n := n + h) t_pick t_draw h2 (rows := [.tup [.s "record", .tup (V.ds fs ++ [zD])], .tup [.s "record", .tup ((V.ds fs).tail ++ [zD])], .tup [.s "record", .tup (V.ds gs ++ .tup [.s l, d'] :: V.ds rest)]]) (by simp) (by simp)
      refine ⟨d, M3, h3, ?_, ?_⟩
      · simp only [List.mem_cons, List.not_mem_nil, or_false] at hd
        rcases hd with rfl | rfl | rfl
        · exact .rowZ
        · exact .rowT
        · rw [dec]; exact .rowN hn
      · have ga : (V.ds gs).length = k := by rw [vds_len, hg]
        have eds : V.ds fs = V.ds gs ++ .tup [.s l, v.d] :: V.ds rest := by rw [dec, vds_app, V.ds_cons]
        have c1 : cut (V.ds fs) none (some (k : Int)) = V.ds gs := by rw [cut_to, eds, ← ga, List.take_left']; rfl
        have c2 : cut (V.ds fs) (some ((k : Int) + 1)) none = V.ds rest := by
          have := cut_from (V.ds fs) (k + 1)
          rw [show ((k : Int) + 1) = ((k + 1 : Nat) : Int) by omega, this, eds, ← ga]
          simp [List.drop_append]
        have c3 : L2.atI (V.ds fs) (k : Int) = some (.tup [.s l, v.d]) := by
          rw [atI_nat, eds, ← ga]; simp
        have c4 : (V.ds fs).length = fs.length := vds_len fs
        have c5 := V.plains fs
        have c6 : ∀ k, k ≤ 20 → k ≤ limit := fun k hk => by unfold limit; omega
        have c7 : (V.ds gs).length + 1 ≤ limit := c6 _ (by rw [ga]; omega)
        have c8 : (V.ds gs).length + 1 + (V.ds rest).length ≤ limit := c6 _ (by
          have : (V.ds fs).length ≤ 3 := by rw [c4]; exact hl
          rw [eds] at this; simp at this; omega)
        have c9 : (V.ds fs).length + 1 ≤ limit := c6 _ (by rw [c4]; omega)
        have c10 : (V.ds fs).tail.length + 1 ≤ limit := c6 _ (by rw [List.length_tail, c4]; omega)
        have c11 : 2 < limit := by decide
        rw [c4] at c9
        rw [List.length_tail, c4] at c10
        simp only [zD] at e3
        simp [d__law_near, b__law_near, n__law_near, startG, pr_eq, pr_ne, pr_itemt, pr_iteml, pr_addt, eqO_nil c5, hne, cutO, cut_1, frzG, e1, e2, e3, c1, c2, c3, c4, c7, c8, c9, c10, c11, evTg, lstT, upT, muO, appO]

end
end K13
set_option Elab.async false
set_option linter.all false
set_option maxRecDepth 100000
namespace K13
open Mi PySem
theorem VOk.dp : ∀ {h v}, VOk h v → v.d.dp ≤ 3 * h + 3
  | _, _, .int => by simp only [V.d_int, dp_tup, dps_cons, dps_nil, dp_int, dp_str]; omega
  | _, _, .endl => by
    have : endD.dp ≤ 6 := by decide
    simp only [V.d_end]; omega
  | _, _, .fn a => by have := a.dp; simp only [V.d_fn, dp_tup, dps_cons, dps_nil, dp_int, dp_str]; omega
  | _, _, .tag a => by have := a.dp; simp only [V.d_tag, dp_tup, dps_cons, dps_nil, dp_int, dp_str]; omega
  | _, _, .row (h := h) (fs := fs) l a => by
    have : ∀ fs : List (String × V), (∀ p ∈ fs, p.2.d.dp ≤ 3 * h + 3) → D.dps (V.ds fs) ≤ 3 * h + 4 := by
      intro fs
      induction fs with
      | nil => intro _; simp [dps_nil]
      | cons p r ih =>
        intro hp
        obtain ⟨a, b⟩ := p
        have h1 := hp (a, b) (List.mem_cons_self ..)
        have h2 := ih fun p h => hp p (List.mem_cons_of_mem _ h)
        simp only [V.ds_cons, dps_cons, dp_tup, dps_nil, dp_str] at h1 ⊢
        omega
    have := this fs fun p hp => (a p hp).dp
    simp only [V.d_row, dp_tup, dps_cons, dps_nil, dp_int, dp_str]; omega
section
variable {n : Nat}
theorem catch_no (d : D) (σ : Sg) (M : MS) : evHs genv (no d) [("NoSuch", .retL [.con (.str "no"), .fld "what"])] σ M = .ok (.ret (.lst [.s "no", d])) M := rfl
theorem told0_ok {h t} (o : Ok h t) (l : h ≤ 4) (i : Int) (M : MS) (h0 : 0 ≤ i) (h1 : i < count t) : Phi genv tbl (n + h + 4) 13 [.int 0, t.d, .int i] M = .ok (samp t i).d M := by
  have e := sample_ok (n := n) o l i M h0 h1
  rw [phi_s (df := d__law_told) rfl rfl rfl rfl]
  simp [d__law_told, b__law_told, n__law_told, startG, pr_eq, e]
theorem told0_bad {h t} (o : Ok h t) (l : h ≤ 4) (i : Int) (M : MS) (hi : ¬ (0 ≤ i ∧ i < count t)) : Phi genv tbl (n + h + 4) 13 [.int 0, t.d, .int i] M = .ok (.lst [.s "no", .int i]) M := by
  have e := sample_bad (n := n) o l hi M
  rw [phi_s (df := d__law_told) rfl rfl rfl rfl]
  simp [d__law_told, b__law_told, n__law_told, startG, pr_eq, e, catch_no, -evHs_cons]
theorem told1_ok {h t} (o : Ok h t) (l : h ≤ 4) (i : Int) (M : MS) (h0 : 0 ≤ i) (h1 : i < count t) : Phi genv tbl (n + h + 4) 13 [.int 1, t.d, (samp t i).d] M = .ok (.int i) M := by
  have e := num_ok (n := n) o l i M h0 h1
  rw [phi_s (df := d__law_told) rfl rfl rfl rfl]
  simp [d__law_told, b__law_told, n__law_told, startG, pr_eq, e]
theorem told1_bad {h t} (o : Ok h t) (l : h ≤ 4) (i : Int) (d : D) (M : MS) (h0 : 0 ≤ i) (h1 : i < count t) (hn : Nr (samp t i) d) : Phi genv tbl (n + h + 4) 13 [.int 1, t.d, d] M = .ok (.lst [.s "no", .s "sample"]) M := by
  have e := num_bad (n := n) o l i d M h0 h1 hn
  rw [phi_s (df := d__law_told) rfl rfl rfl rfl]
  simp [d__law_told, b__law_told, n__law_told, startG, pr_eq, e, catch_no, -evHs_cons]
@[simp] theorem eqO_b (a b : Bool) : eqO n (.bl a) (.bl b) = some (decide (a = b)) := by
  refine eqO_of (by simp) (by simp) (by rw [dp_bl]; omega) ?_
  cases a <;> cases b <;> rfl
theorem same_ok (a b : Bool) (M : MS) : Phi genv tbl (n + 1) 5 [.bl a, .bl b] M = .ok (.bl (decide (a = b))) M := by
  rw [phi_s (df := d__law_same) rfl rfl rfl rfl]
  simp [d__law_same, b__law_same, n__law_same, startG, pr_eq, pr_isi]
def firsts (t : Ty) (k : Nat) : List D := (List.range k).map fun (j : Nat) => (samp t j).d
theorem samples_ok {h t} (o : Ok h t) (l : h ≤ 4) (few : Int) (f0 : 0 ≤ few) (f1 : few < 9) (M : MS) : Phi genv tbl (n + h + 4) 4 [t.d, .int few] M = .ok (.lst (firsts t (min few (count t)).toNat)) M := by
  have e1 : ∀ M, Phi genv tbl (n + h + 3) 1 [t.d] M = .ok (.int (count t)) M := fun M => by
    have := many_ok (n := n + 3) o l M
    rw [← this]; congr 1; omega
  have c0 := (count_bound o).1
  obtain ⟨k, hk⟩ := Int.eq_ofNat_of_zero_le (show 0 ≤ min few (count t) by omega)
  have r := rngO_nat k (by omega)
  rw [← hk] at r
  have C := fun M => compL_map (step := cstep (Phi genv tbl (n + h + 3)) (n + h + 3) [some (.val t.d), some (.val (.int few)), none] [2] (.nm 2) [] (.call 2 [(.var 0), (.var 2)])) (fun j : Nat => D.int j) (fun j : Nat => (samp t j).d) (List.range k) M (fun j hj M => by
    have : j < k := List.mem_range.mp hj
    have e := sample_ok (n := n) o l j M (by omega) (by omega)
    simp [cstep, e])
  have c1 : (k : Nat) ≤ limit := by unfold limit; omega
  rw [phi_s (df := d_samples) rfl rfl rfl rfl]
  have e2 : firsts t (min few (count t)).toNat = (List.range k).map (fun j : Nat => (samp t j).d) := by rw [hk]; rfl
  rw [e2]
  simp [d_samples, b_samples, n_samples, startG, e1, r, C, lim_le, c1]

/-- a turn of the law's inner loop -/
abbrev inBody : List S := [.set (.nm 6) (.call 6 [(.var 1), (.var 4)]),
        .set (.nm 7) (.call 11 [(.var 3), (.var 6)]),
        .ite (.or [(.prim .ne [(.call 13 [(.con (.int 0)), (.var 3), (.var 6)]), (.var 7)]), (.prim .ne [(.call 13 [(.con (.int 1)), (.var 3), (.var 7)]), (.var 6)])])
        [.ret (.con (.bl false))]
        [],
        .ite (.prim .ne [(.call 13 [(.con (.int 1)), (.var 3), (.call 14 [(.var 1), (.var 7)])]), (.lst [(.con (.str "no")), (.con (.str "sample"))])])
        [.ret (.con (.bl false))]
        []]
set_option exponentiation.threshold 10000 in
theorem log2_big {b : Int} (h : b.natAbs < 2 ^ 9000) : b.natAbs.log2 < 9000 := by
  by_cases hz : b.natAbs = 0
  · rw [hz]; decide
  · exact (Nat.log2_lt hz).mpr h
theorem no_same (d : D) (h : d.plain = true) (l : d.dp ≤ 3) : eqO n (.lst [.s "no", d]) (.lst [.s "no", d]) = some true :=
  eqO_same (by simp [h]) (by simp only [dp_lst, dps_cons, dps_nil, dp_str]; omega)
theorem inner_ok {t : Ty} (o : Ok 4 t) (x y : D) (j : Int) (M : MS) (hM : Tp M) (hc : 0 < count t) : ∃ M', Tp M' ∧ lstep genv (Phi genv tbl (n + 8)) (n + 8) (.nm 5) inBody [5, 6, 7] (.int j) [some (.val x), some (.val (.ref 0)), some (.val y), some (.val t.d), some (.val (.int (count t))), none, none, none, none] M = .ok (.nxt [some (.val x), some (.val (.ref 0)), some (.val y), some (.val t.d), some (.val (.int (count t))), none, none, none, none]) M' := by
  have cb := (count_bound o).2
  have cB : B 4 < 2 ^ 100 := by decide
  have c2 : (count t).natAbs.log2 < 9000 := log2_big (Nat.lt_of_lt_of_le (by omega : (count t).natAbs < 2 ^ 100) (Nat.pow_le_pow_right (by decide) (by decide)))
  obtain ⟨i, M1, h1, i0, i1, e1⟩ := draw_ok (G := genv) (tbl := tbl) (n := n + 7) t_draw hM hc c2
  have vo := samp_vok o i
  have e2 : ∀ M, Phi genv tbl (n + 8) 11 [t.d, .int i] M = .ok (samp t i).d M := fun M => by
    have := lsample_ok (n := n + 3) o (by omega) i M i0 i1
    rw [← this]
  have e3 : ∀ M, Phi genv tbl (n + 8) 13 [.int 0, t.d, .int i] M = .ok (samp t i).d M := fun M => told0_ok o (by omega) i M i0 i1
  have e4 : ∀ M, Phi genv tbl (n + 8) 13 [.int 1, t.d, (samp t i).d] M = .ok (.int i) M := fun M => told1_ok o (by omega) i M i0 i1
  obtain ⟨d, M2, h2, hn, e5⟩ := near_ok (n := n + 2) vo M1 h1
  have e5' : Phi genv tbl (n + 8) 14 [.ref 0, (samp t i).d] M1 = .ok d M2 := e5
  have e6 : ∀ M, Phi genv tbl (n + 8) 13 [.int 1, t.d, d] M = .ok (.lst [.s "no", .s "sample"]) M := fun M => told1_bad o (by omega) i d M i0 i1 hn
  have q1 : eqO (n + 8) (samp t i).d (samp t i).d = some true := eqO_same (V.plain _) (by have := vo.dp; omega)
  have q2 := no_same (n := n + 8) (.s "sample") (by simp) (by simp [dp_str])
  refine ⟨M2, h2, ?_⟩
  simp [lstep, e1, e2, e3, e4, e5', e6, pr_ne, q1, q2]
/-- a turn of the law -/
theorem turn_ok (x : D) (j : Int) (M : MS) (hM : Tp M) : ∃ M', Tp M' ∧ lstep genv (Phi genv tbl (n + 8)) (n + 8) (.nm 2)
    [.set (.nm 3) (.call 9 [(.var 1), (.con (.int 3))]),
      .set (.nm 4) (.call 10 [(.var 3)]),
      .ite (.or [(.prim .ne [(.call 1 [(.var 3)]), (.var 4)]), (.not (.call 5 [(.call 0 [(.var 3)]), (.call 12 [(.var 3)])]))])
      [.ret (.con (.bl false))]
      [],
      .ite (.or [(.prim .ne [(.call 13 [(.con (.int 0)), (.var 3), (.var 4)]), (.lst [(.con (.str "no")), (.var 4)])]), (.prim .ne [(.call 13 [(.con (.int 0)), (.var 3), (.prim .sub [(.con (.int 0)), (.con (.int 1))])]), (.lst [(.con (.str "no")), (.prim .sub [(.con (.int 0)), (.con (.int 1))])])])])
      [.ret (.con (.bl false))]
      [],
      .loop (.nm 5) (.rng1 (.prim .min2 [(.var 4), (.con (.int 6))])) inBody [5, 6, 7],
      .set (.nm 8) (.call 6 [(.var 1), (.con (.int 9))]),
      .ite (.prim .ne [(.call 4 [(.var 3), (.var 8)]), (.comp [6] (.nm 6) (.rng1 (.prim .min2 [(.var 8), (.var 4)])) [] (.call 11 [(.var 3), (.var 6)]))])
      [.ret (.con (.bl false))]
      []] [2, 3, 4, 5, 6, 7, 8] (.int j) [some (.val x), some (.val (.ref 0)), none, none, none, none, none, none, none] M = .ok (.nxt [some (.val x), some (.val (.ref 0)), none, none, none, none, none, none, none]) M' := by
  obtain ⟨t, M1, h1, o, e1⟩ := closed_ok (n := n + 3) 3 M hM
  have e1' : Phi genv tbl (n + 8) 9 [.ref 0, .int 3] M = .ok t.d M1 := e1
  have o : Ok 4 t := o
  have cb := count_bound o
  have e2 : ∀ M, Phi genv tbl (n + 8) 10 [t.d] M = .ok (.int (count t)) M := fun M => count_ok (n := n + 4) o (by omega) M
  have e3 : ∀ M, Phi genv tbl (n + 8) 1 [t.d] M = .ok (.int (count t)) M := fun M => many_ok (n := n + 4) o (by omega) M
  have e4 : ∀ M, Phi genv tbl (n + 8) 0 [t.d] M = .ok (.bl (has t)) M := fun M => has_ok (n := n + 4) o M
  have e5 : ∀ M, Phi genv tbl (n + 8) 12 [t.d] M = .ok (.bl (has t)) M := fun M => lhas_ok (n := n + 4) o M
  have e6 : ∀ M, Phi genv tbl (n + 8) 13 [.int 0, t.d, .int (count t)] M = .ok (.lst [.s "no", .int (count t)]) M := fun M => told0_bad o (by omega) _ M (by omega)
  have e7 : ∀ M, Phi genv tbl (n + 8) 13 [.int 0, t.d, .int (-1)] M = .ok (.lst [.s "no", .int (-1)]) M := fun M => told0_bad o (by omega) _ M (by omega)
  have q : ∀ i : Int, eqO (n + 8) (.lst [.s "no", .int i]) (.lst [.s "no", .int i]) = some true := fun i => no_same (.int i) (by simp) (by simp [dp_int])
  have s : ∀ a b M, Phi genv tbl (n + 8) 5 [.bl a, .bl b] M = .ok (.bl (decide (a = b))) M := fun a b M => same_ok a b M
  -- the inner loop
  obtain ⟨k, hk⟩ := Int.eq_ofNat_of_zero_le (show 0 ≤ min (count t) 6 by omega)
  have r := rngO_nat k (by omega)
  rw [← hk] at r
  obtain ⟨M2, h2, e8⟩ := loopL_inv (step := lstep genv (Phi genv tbl (n + 8)) (n + 8) (.nm 5) inBody [5, 6, 7]) [some (.val x), some (.val (.ref 0)), some (.val (.int j)), some (.val t.d), some (.val (.int (count t))), none, none, none, none] Tp ((List.range k).map fun j : Nat => D.int j) (by
    intro y hy M hM
    obtain ⟨i, hi, rfl⟩ := List.mem_map.mp hy
    have := List.mem_range.mp hi
    exact inner_ok o x (.int j) i M hM (by omega)) M1 h1
  obtain ⟨few, M3, h3, f0, f1, e9⟩ := draw_ok (G := genv) (tbl := tbl) (n := n + 7) t_draw h2 (m := 9) (by decide) (by decide)
  have e10 : ∀ M, Phi genv tbl (n + 8) 4 [t.d, .int few] M = .ok (.lst (firsts t (min few (count t)).toNat)) M := fun M => samples_ok o (by omega) few f0 f1 M
  obtain ⟨c, hc⟩ := Int.eq_ofNat_of_zero_le (show 0 ≤ min few (count t) by omega)
  have r2 := rngO_nat c (by omega)
  rw [← hc] at r2
  have C := fun M => compL_map (step := cstep (Phi genv tbl (n + 8)) (n + 8) [some (.val x), some (.val (.ref 0)), some (.val (.int j)), some (.val t.d), some (.val (.int (count t))), none, none, none, some (.val (.int few))] [6] (.nm 6) [] (.call 11 [(.var 3), (.var 6)])) (fun j : Nat => D.int j) (fun j : Nat => (samp t j).d) (List.range c) M (fun j hj M => by
    have : j < c := List.mem_range.mp hj
    have e := lsample_ok (n := n + 3) o (by omega) j M (by omega) (by omega)
    have e' : Phi genv tbl (n + 8) 11 [t.d, .int (j : Int)] M = .ok (samp t j).d M := e
    simp [cstep, e'])
  have c1 : (c : Nat) ≤ limit := by unfold limit; omega
  have e11 : firsts t (min few (count t)).toNat = (List.range c).map (fun j : Nat => (samp t j).d) := by rw [hc]; rfl
  have q2 : eqO (n + 8) (.lst ((List.range c).map (fun j : Nat => (samp t j).d))) (.lst ((List.range c).map (fun j : Nat => (samp t j).d))) = some true := by
    refine eqO_same ?_ ?_
    · rw [plain_lst]
      refine plains_all fun d hd => ?_
      obtain ⟨i, _, rfl⟩ := List.mem_map.mp hd
      exact V.plain _
    · rw [dp_lst]
      have : D.dps ((List.range c).map (fun j : Nat => (samp t j).d)) ≤ 15 := dps_le fun d hd => by
        obtain ⟨i, _, rfl⟩ := List.mem_map.mp hd
        exact (samp_vok o i).dp
      omega
  rw [e11] at e10
  refine ⟨M3, h3, ?_⟩
  rw [lstep]
  simp [e1', e2, e3, e4, e5, e6, e7, s, pr_ne, q, r, e8, e9, e10, r2, C, lim_le, c1, q2]
theorem math (ns : List Int) : ∃ M, Phi genv (dds.map (·.df)) (n + 9) 15 [.lst (ns.map .int)] [] = .ok (.bl true) M := by
  obtain ⟨M1, h1, e1⟩ := tape_ok (G := genv) (tbl := tbl) (n := n + 7) t_tape ns
  have e1' : Phi genv tbl (n + 8) 7 [.lst (ns.map .int)] [] = .ok (.ref 0) M1 := e1
  have r := rngO_nat 2 (by decide)
  obtain ⟨M2, h2, e2⟩ := loopL_inv (step := _) [some (.val (.lst (ns.map .int))), some (.val (.ref 0)), none, none, none, none, none, none, none] Tp ((List.range 2).map fun j : Nat => D.int j) (by
    intro y hy M hM
    obtain ⟨i, hi, rfl⟩ := List.mem_map.mp hy
    exact turn_ok (n := n) (.lst (ns.map .int)) i M hM) M1 h1
  refine ⟨M2, ?_⟩
  rw [phi_s (df := d_law) rfl rfl rfl rfl]
  have r' : rngO 0 2 = some ((List.range 2).map fun j : Nat => D.int j) := r
  simp [d_law, b_law, n_law, startG, e1', r', e2, -List.map_map]
end
end K13

theorem PySem.Challenge.cw_openrows_k13_samples_one_by_one_holds : PySem.Challenge.rw_openrows_k13_samples_one_by_one.Holds := by
  exact K13.holds (k := 20) ⟨rfl, by decide, by decide⟩ (fun ns _ => K13.math (n := 11) ns)
