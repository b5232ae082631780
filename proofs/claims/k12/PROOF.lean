import PyProof.Rows.All
import Wide.All
import OpenK.AllK
import Wide.FinOn
import HandS.ForMost
import HandS.Wide
import HandS.Flow
import HandS.Style
import HandS.IsInst
import HandS.TryOnly
import HandS.TupAny
import HandS.TupMul
import HandS.Deep
import HandS.Zip
import HandS.Rev
import HandS.RevRange
import HandS.DictTup
import KE.GoesEnum
import KE.GoesRev
import KE.SortData
import KE.LtData
import KE.KDictKeyed
import KE.GoesNew
import HandS.RaiseMore
import HandS.FStrTup
import KE.KDictSum
import KE.KDictCopyH
import HandS.Text
import KE.GoesMore
import KE.GoesZip
import HandS.Small
import HandS.Head0
import HandS.Head1
import HandS.Head2
import HandS.HeadEnd
import HandS.HeadHook1
import HandS.HeadHook2
import HandS.Ends
import HandS.Defaults
import PySem.Challenge.RW_mouthlamps_k12_who_can_go
set_option autoImplicit false
/-! MoCore: a small language of our own, its values as trees, what a run of it comes to (weakest preconditions). -/
namespace Mo

abbrev Sg := List Nat

inductive T where
  | non
  | bl (b : Bool)
  | int (i : Int)
  | str (s : Sg)
  | tup (ts : List T)
  | lst (ts : List T)
  | dct (b : Bool) (ks vs : List T)
  | ref (a : Nat)
  | fn (i : Nat)
  | scr
  deriving Inhabited

/-- what stands at an address -/
inductive O where
  | lst (ts : List T)
  | dct (b : Bool) (kvs : List (T × T))
  | deck

abbrev St := Nat → Option O
abbrev Env := List (Option T)
structure Ex where
  cls : Nat
  fs : List T

def upd (st : St) (a : Nat) (o : O) : St := fun b => if b = a then some o else st b
theorem upd_same (st : St) (a : Nat) (o : O) : upd st a o a = some o := by simp [upd]
theorem upd_ne {st : St} {a b : Nat} {o : O} (h : b ≠ a) : upd st a o b = st b := by simp [upd, h]
theorem upd_none {st : St} {a b : Nat} {o : O} (h : upd st a o b = none) : b ≠ a ∧ st b = none := by
  unfold upd at h
  split at h
  · cases h
  · exact ⟨by assumption, h⟩
theorem upd_upd (st : St) (a : Nat) (o u : O) : upd (upd st a o) a u = upd st a u := by
  funext b; unfold upd; split <;> rfl

/-- fewer things -/
def Sub (s t : St) : Prop := ∀ a o, s a = some o → t a = some o
theorem Sub.refl (s : St) : Sub s s := fun _ _ h => h
theorem Sub.trans {s t u : St} (a : Sub s t) (b : Sub t u) : Sub s u := fun x o h => b x o (a x o h)
theorem Sub.upd {s t : St} {a : Nat} {o : O} (h : Sub s t) (n : s a = none) : Sub s (upd t a o) := fun b u e => by
  have : b ≠ a := fun z => by rw [z, n] at e; cases e
  rw [upd_ne this]; exact h b u e
/-- fewer known names -/
def Ewk : Env → Env → Prop
  | [], [] => True
  | none :: a, _ :: b => Ewk a b
  | some x :: a, some y :: b => x = y ∧ Ewk a b
  | _, _ => False
theorem Ewk.refl : ∀ e : Env, Ewk e e
  | [] => trivial
  | none :: a => Ewk.refl a
  | some _ :: a => ⟨rfl, Ewk.refl a⟩

mutual
def eqT : T → T → Bool
  | .non, .non => true
  | .bl a, .bl b => a == b
  | .bl a, .int j => (if a then 1 else 0) == j
  | .int i, .bl b => i == (if b then 1 else 0)
  | .int i, .int j => i == j
  | .str x, .str y => x == y
  | .lst xs, .lst ys => eqTs xs ys
  | .tup xs, .tup ys => eqTs xs ys
  | _, _ => false
def eqTs : List T → List T → Bool
  | [], [] => true
  | x :: xs, y :: ys => eqT x y && eqTs xs ys
  | _, _ => false
end

mutual
def depT : T → Nat
  | .tup ts => depTs ts + 1
  | .lst ts => depTs ts + 1
  | _ => 0
def depTs : List T → Nat
  | [] => 0
  | t :: ts => max (depT t) (depTs ts)
end

mutual
/-- made of none, truths, numbers, texts, tuples -/
def pureT : T → Bool
  | .non | .bl _ | .int _ | .str _ => true
  | .tup ts => pureTs ts
  | _ => false
def pureTs : List T → Bool
  | [] => true
  | t :: ts => pureT t && pureTs ts
end

mutual
/-- x < y for numbers, texts, tuples of such -/
def ltT : T → T → Bool
  | .int i, .int j => decide (i < j)
  | .str x, .str y => decide (x < y)
  | .tup xs, .tup ys => ltTs xs ys
  | _, _ => false
def ltTs : List T → List T → Bool
  | [], _ :: _ => true
  | x :: xs, y :: ys => if eqT x y then ltTs xs ys else ltT x y
  | _, _ => false
end

mutual
/-- one can be told below the other, place by place -/
def alk : T → T → Bool
  | .int _, .int _ => true
  | .str _, .str _ => true
  | .tup xs, .tup ys => alks xs ys
  | _, _ => false
def alks : List T → List T → Bool
  | x :: xs, y :: ys => alk x y && alks xs ys
  | _, _ => true
end

mutual
/-- a thing seen through and through -/
inductive Dp (st : St) : T → T → Prop
  | non : Dp st .non .non
  | bl (b : Bool) : Dp st (.bl b) (.bl b)
  | int (i : Int) : Dp st (.int i) (.int i)
  | str (s : Sg) : Dp st (.str s) (.str s)
  | tup {ts ds : List T} : Dps st ts ds → Dp st (.tup ts) (.tup ds)
  | ref {a : Nat} {ts ds : List T} : st a = some (.lst ts) → Dps st ts ds → Dp st (.ref a) (.lst ds)
inductive Dps (st : St) : List T → List T → Prop
  | nil : Dps st [] []
  | cons {t d : T} {ts ds : List T} : Dp st t d → Dps st ts ds → Dps st (t :: ts) (d :: ds)
end
mutual
theorem Dp.pure (st : St) : ∀ t : T, pureT t = true → Dp st t t
  | .non, _ => .non
  | .bl b, _ => .bl b
  | .int i, _ => .int i
  | .str s, _ => .str s
  | .tup ts, h => .tup (Dps.pure st ts (by simpa [pureT] using h))
  | .lst _, h => by simp [pureT] at h
  | .ref _, h => by simp [pureT] at h
  | .fn _, h => by simp [pureT] at h
  | .scr, h => by simp [pureT] at h
theorem Dps.pure (st : St) : ∀ ts : List T, pureTs ts = true → Dps st ts ts
  | [], _ => .nil
  | t :: ts, h => by
    simp only [pureTs, Bool.and_eq_true] at h
    exact .cons (Dp.pure st t h.1) (Dps.pure st ts h.2)
end

def SZ : Nat := 16777216
mutual
/-- its texts are texts -/
def chT : T → Bool
  | .str s => s.all fun c => decide (c < 1114112)
  | .tup ts => chTs ts
  | .lst ts => chTs ts
  | _ => true
def chTs : List T → Bool
  | [] => true
  | t :: ts => chT t && chTs ts
end
def okD (d : T) : Bool := decide (depT d ≤ 60) && chT d
def okDs (ds : List T) : Bool := decide (depTs ds ≤ 60) && chTs ds

def atomT : T → Bool
  | .int _ => true
  | .str _ => true
  | _ => false
/-- a key of a dict of that kind: numbers and texts; tuples of such -/
def keyOk : Bool → T → Bool
  | false, t => atomT t
  | true, .tup ts => ts.all atomT
  | true, _ => false
/-- put a value at a key -/
def putK (k v : T) (kvs : List (T × T)) : List (T × T) :=
  if (kvs.any fun p => eqT p.1 k) = true then kvs.map fun p => if eqT p.1 k = true then (p.1, v) else p else kvs ++ [(k, v)]
def lookK (k : T) : List (T × T) → Option T
  | [] => none
  | (q, w) :: r => if eqT q k then some w else lookK k r

inductive Op | add | sub | mul | fdiv | mod | pow
  deriving DecidableEq
inductive Co | eq | ne | lt | le | gt | ge | is | isnot | isin | notin
inductive Ty | int | bool | str | tuple
/-- built-ins of values -/
inductive Bi | len | abs | int | str | repr | max2 | min2 | divmod
  deriving DecidableEq
/-- built-ins of things gone through -/
inductive Li | tuple | list | sum | all | any | max | min | len | dict
  deriving DecidableEq
/-- methods -/
inductive Me | append | pop | index | get | get2 | items | insert | remove | count
inductive Tg
  | name (i : Nat)
  | tup (ts : List Tg)

mutual
inductive X where
  | var (i : Nat)
  | int (i : Int)
  | str (s : Sg)
  | bl (b : Bool)
  | non
  | glob (i : Nat)
  | fnv (i : Nat)
  | bin (o : Op) (a b : X)
  | neg (a : X)
  | not (a : X)
  | and (a b : X)
  | or (a b : X)
  | ite (c a b : X)
  | cmp (o : Co) (a b : X)
  | chain (o p : Co) (a b c : X)
  | tup (es : List X)
  | new (l : L)
  | idx (a i : X)
  | slc (a : X) (lo hi : Option X)
  | rev (a : X)
  | call (f : Nat) (es : List X)
  | callv (i : Nat) (es : List X)
  | bi (f : Bi) (es : List X)
  | isi (a : X) (ty : Ty)
  | li (f : Li) (l : L)
  | join (a : X) (l : L)
  | me (m : Me) (o : X) (es : List X)
  | dct (kvs : List (X × X))
  | dnew (b : Bool)
/-- a sequence that is gone through at once -/
inductive L where
  | ex (e : X)
  | lst (es : List X)
  | comp (elt : X) (ifs : List X) (tg : Tg) (own : List Nat) (src : Sr)
  | comp2 (elt : X) (ifs1 ifs2 : List X) (tg1 tg2 : Tg) (own : List Nat) (src1 src2 : Sr)
  | srt (l : L)
  | srtE (e : X)
  | items (e : X)
/-- what a loop goes through -/
inductive Sr where
  | seq (l : L)
  | range (es : List X)
  | enum (l : L)
  | zip (ls : List L)
  | rrange (es : List X)
end

inductive Sm where
  | set (g : Tg) (e : X)
  | par (is : List Nat) (es : List X)
  | sub (o i e : X)
  | aug (i : Nat) (o : Op) (e : X)
  | augs (o i : X) (op : Op) (e : X)
  | ex (e : X)
  | ret (e : Option X)
  | cond (c : X) (a b : List Sm)
  | loop (g : Tg) (s : Sr) (b : List Sm)
  | whl (c : X) (b : List Sm)
  | pass
/-! ### what a run comes to -/
abbrev EK := Ex → St → Prop
abbrev TK := T → St → Prop
abbrev LK := List T → (St → Prop) → St → Prop
structure Cxt where
  call : Nat → List T → St → EK → TK → Prop
  nf : Nat
  glob : Nat → Option T
  rp : T → Sg
structure Po where
  nx : Env → St → Prop
  rt : TK
  ex : EK
def noE : EK := fun _ _ => False

def MulOk (i j : Int) : Prop := i.natAbs < 2 ^ 400000 ∧ j.natAbs < 2 ^ 400000
def rep (k : Nat) (ts : List T) : List T := (List.replicate k ts).flatten
def sIx (n d : Nat) : Option Int → Nat
  | none => d
  | some i => if i < 0 then (i + (n : Int)).toNat else min i.toNat n
def cutT {α : Type} (xs : List α) (lo hi : Option Int) : List α :=
  (xs.drop (sIx xs.length 0 lo)).take (sIx xs.length xs.length hi - sIx xs.length 0 lo)
def atT {α : Type} (xs : List α) (i : Int) : Option α :=
  if 0 ≤ i then xs[i.toNat]? else if -(xs.length : Int) ≤ i then xs[(i + xs.length).toNat]? else none

def binSem (o : Op) (x y : T) (st : St) (Q : TK) : Prop :=
  match o, x, y with
  | .add, .int i, .int j => Q (.int (i + j)) st
  | .sub, .int i, .int j => Q (.int (i - j)) st
  | .mul, .int i, .int j => MulOk i j ∧ Q (.int (i * j)) st
  | .fdiv, .int i, .int j => (0 < j ∧ j < 2 ^ 1000) ∧ Q (.int (i / j)) st
  | .mod, .int i, .int j => 0 < j ∧ Q (.int (i % j)) st
  | .pow, .int i, .int j => (0 ≤ j ∧ j ≤ 1000 ∧ i.natAbs < 2 ^ 64) ∧ Q (.int (i ^ j.toNat)) st
  | .add, .str a, .str b => a.length + b.length ≤ SZ ∧ Q (.str (a ++ b)) st
  | .add, .tup a, .tup b => a.length + b.length ≤ SZ ∧ Q (.tup (a ++ b)) st
  | .mul, .tup a, .int j => (a ≠ [] ∧ 1 ≤ j ∧ j ≤ 1000 ∧ a.length ≤ 1000) ∧ Q (.tup (rep j.toNat a)) st
  | .add, .ref a, .ref b => ∃ xs ys, st a = some (.lst xs) ∧ st b = some (.lst ys) ∧ xs.length + ys.length ≤ SZ ∧ ∀ p, st p = none → Q (.ref p) (upd st p (.lst (xs ++ ys)))
  | .mul, .ref a, .int j => ∃ xs, st a = some (.lst xs) ∧ (0 ≤ j ∧ j ≤ 1000 ∧ xs.length ≤ 1000) ∧ ∀ p, st p = none → Q (.ref p) (upd st p (.lst (rep j.toNat xs)))
  | _, _, _ => False

/-- x op= y, numbers -/
def augSem (o : Op) (x y : T) (Q : T → Prop) : Prop :=
  match o, x, y with
  | .add, .int i, .int j => Q (.int (i + j))
  | .sub, .int i, .int j => Q (.int (i - j))
  | .mul, .int i, .int j => ((-(2 ^ 64) < i ∧ i < 2 ^ 64) ∨ (-(2 ^ 64) < j ∧ j < 2 ^ 64)) ∧ Q (.int (i * j))
  | _, _, _ => False

def truSem (x : T) (st : St) (Q : Bool → Prop) : Prop :=
  match x with
  | .non => Q false
  | .bl b => Q b
  | .int i => Q (i != 0)
  | .str s => s.length ≤ SZ ∧ Q (!s.isEmpty)
  | .tup ts => Q (!ts.isEmpty)
  | .ref a => ∃ ts, st a = some (.lst ts) ∧ Q (!ts.isEmpty)
  | _ => False

def eqSem (x y : T) (st : St) (Q : Bool → Prop) : Prop :=
  ∃ d e, Dp st x d ∧ Dp st y e ∧ okD d = true ∧ okD e = true ∧ Q (eqT d e)
def inSem (x y : T) (st : St) (Q : Bool → Prop) : Prop :=
  match y with
  | .tup ts => ∃ d ds, Dp st x d ∧ Dps st ts ds ∧ okD d = true ∧ okDs ds = true ∧ Q (ds.any fun e => eqT e d)
  | .ref a => (∃ ts d ds, st a = some (.lst ts) ∧ Dp st x d ∧ Dps st ts ds ∧ okD d = true ∧ okDs ds = true ∧ Q (ds.any fun e => eqT e d)) ∨
      (∃ b kvs, st a = some (.dct b kvs) ∧ keyOk b x = true ∧ Q (lookK x kvs).isSome)
  | .str s => ∃ c, x = .str [c] ∧ Q (decide (c ∈ s))
  | _ => False
def ltSem (x y : T) (Q : Bool → Prop) : Prop :=
  match x, y with
  | .int i, .int j => Q (decide (i < j))
  | .str i, .str j => Q (decide (i < j))
  | .tup a, .tup b => pureTs a = true ∧ pureTs b = true ∧ alks a b = true ∧ okDs a = true ∧ okDs b = true ∧ Q (ltTs a b)
  | _, _ => False
def leSem (x y : T) (Q : Bool → Prop) : Prop :=
  match x, y with
  | .int i, .int j => Q (decide (i ≤ j))
  | .str i, .str j => Q (!decide (j < i))
  | _, _ => False
def gtSem (x y : T) (Q : Bool → Prop) : Prop :=
  match x, y with
  | .int i, .int j => Q (decide (j < i))
  | _, _ => False
def geSem (x y : T) (Q : Bool → Prop) : Prop :=
  match x, y with
  | .int i, .int j => Q (decide (j ≤ i))
  | _, _ => False
def isNon : T → Bool
  | .non => true
  | _ => false
def cmpSem (o : Co) (x y : T) (st : St) (Q : Bool → Prop) : Prop :=
  match o with
  | .eq => eqSem x y st Q
  | .ne => eqSem x y st fun b => Q (!b)
  | .lt => ltSem x y Q
  | .gt => gtSem x y Q
  | .le => leSem x y Q
  | .ge => geSem x y Q
  | .is => y = .non ∧ Q (isNon x)
  | .isnot => y = .non ∧ Q (!isNon x)
  | .isin => inSem x y st Q
  | .notin => inSem x y st fun b => Q (!b)

def idxSem (x i : T) (st : St) (Q : TK) : Prop :=
  match x, i with
  | .tup ts, .int k => ∃ v, atT ts k = some v ∧ Q v st
  | .str s, .int k => ∃ c, atT s k = some c ∧ s.length ≤ SZ ∧ Q (.str [c]) st
  | .ref a, k => (∃ ts j v, k = .int j ∧ st a = some (.lst ts) ∧ atT ts j = some v ∧ Q v st) ∨
      (∃ b kvs v, st a = some (.dct b kvs) ∧ keyOk b k = true ∧ lookK k kvs = some v ∧ Q v st)
  | _, _ => False
def slcSem (x : T) (lo hi : Option Int) (st : St) (Q : TK) : Prop :=
  match x with
  | .tup ts => Q (.tup (cutT ts lo hi)) st
  | .str s => s.length ≤ SZ ∧ Q (.str (cutT s lo hi)) st
  | .ref a => ∃ ts, st a = some (.lst ts) ∧ ∀ p, st p = none → Q (.ref p) (upd st p (.lst (cutT ts lo hi)))
  | _ => False
def revSem (x : T) (st : St) (Q : TK) : Prop :=
  match x with
  | .tup ts => Q (.tup ts.reverse) st
  | .ref a => ∃ ts, st a = some (.lst ts) ∧ ∀ p, st p = none → Q (.ref p) (upd st p (.lst ts.reverse))
  | _ => False
def isiSem (x : T) (ty : Ty) (st : St) (Q : Bool → Prop) : Prop :=
  match x with
  | .non => Q false
  | .bl _ => Q (match ty with | .int | .bool => true | _ => false)
  | .int _ => Q (match ty with | .int => true | _ => false)
  | .str _ => Q (match ty with | .str => true | _ => false)
  | .tup _ => Q (match ty with | .tuple => true | _ => false)
  | .ref a => ∃ ts, st a = some (.lst ts) ∧ Q false
  | _ => False

mutual
/-- how long its repr is at most -/
def szT : T → Nat
  | .tup ts => szTs ts + 2
  | .lst ts => szTs ts + 2
  | .str s => 10 * s.length + 2
  | .int _ => 600
  | _ => 5
def szTs : List T → Nat
  | [] => 0
  | t :: ts => szT t + 2 + szTs ts
/-- its numbers are small -/
def smlT : T → Bool
  | .tup ts => smlTs ts
  | .lst ts => smlTs ts
  | .int i => decide (i.natAbs < 2 ^ 1900)
  | _ => true
def smlTs : List T → Bool
  | [] => true
  | t :: ts => smlT t && smlTs ts
end

def reprSem (rp : T → Sg) (x : T) (st : St) (Q : TK) : Prop :=
  ∃ d, Dp st x d ∧ okD d = true ∧ smlT d = true ∧ szT d ≤ SZ ∧ Q (.str (rp d)) st
def lenSem (x : T) (st : St) (Q : TK) : Prop :=
  match x with
  | .str s => s.length ≤ SZ ∧ Q (.int s.length) st
  | .tup ts => Q (.int ts.length) st
  | .ref a => ∃ ts, st a = some (.lst ts) ∧ Q (.int ts.length) st
  | _ => False
def biSem (rp : T → Sg) (f : Bi) (vs : List T) (st : St) (Q : TK) : Prop :=
  match f, vs with
  | .len, [x] => lenSem x st Q
  | .abs, [.int i] => Q (.int (if i < 0 then -i else i)) st
  | .int, [.int i] => Q (.int i) st
  | .int, [.bl b] => Q (.int (if b then 1 else 0)) st
  | .repr, [x] => reprSem rp x st Q
  | .max2, [.int i, .int j] => Q (.int (if j > i then j else i)) st
  | .min2, [.int i, .int j] => Q (.int (if j < i then j else i)) st
  | .divmod, [.int i, .int j] => (0 < j ∧ j < 1073741824) ∧ Q (.tup [.int (i / j), .int (i % j)]) st
  | _, _ => False

def liSem (f : Li) (ts : List T) (st : St) (Q : TK) : Prop :=
  match f with
  | .tuple => Q (.tup ts) st
  | .list => ∀ p, st p = none → Q (.ref p) (upd st p (.lst ts))
  | .sum => ∃ ns : List Int, ts = ns.map .int ∧ Q (.int ns.sum) st
  | .all => ∃ bs : List Bool, ts = bs.map .bl ∧ Q (.bl (bs.all id)) st
  | .any => ∃ bs : List Bool, ts = bs.map .bl ∧ Q (.bl (bs.any id)) st
  | .len => Q (.int ts.length) st
  | .max => ∃ ns : List Int, ts = ns.map .int ∧ ns ≠ [] ∧ ∀ m, m ∈ ns → (∀ y, y ∈ ns → y ≤ m) → Q (.int m) st
  | .min => ∃ ns : List Int, ts = ns.map .int ∧ ns ≠ [] ∧ ∀ m, m ∈ ns → (∀ y, y ∈ ns → m ≤ y) → Q (.int m) st
  | .dict => False

def meSem (m : Me) (o : T) (vs : List T) (st : St) (Q : TK) : Prop :=
  match m, o, vs with
  | .append, .ref a, [y] => ∃ xs, st a = some (.lst xs) ∧ xs.length < SZ ∧ Q .non (upd st a (.lst (xs ++ [y])))
  | .pop, .ref a, [] => ∃ xs y, st a = some (.lst (xs ++ [y])) ∧ Q y (upd st a (.lst xs))
  | .pop, .ref a, [.int i] => i = 0 ∧ ∃ xs y, st a = some (.lst (y :: xs)) ∧ Q y (upd st a (.lst xs))
  | .get2, .ref a, [k, d] => ∃ b kvs, st a = some (.dct b kvs) ∧ keyOk b k = true ∧ Q ((lookK k kvs).getD d) st
  | _, _, _ => False
/-- the method is there -/
def meOk (m : Me) (x : T) (st : St) : Prop := match m with
  | .append => ∃ a ts, x = .ref a ∧ st a = some (.lst ts)
  | .pop => ∃ a ts, x = .ref a ∧ st a = some (.lst ts)
  | .get2 => ∃ a b kvs, x = .ref a ∧ st a = some (.dct b kvs)
  | _ => False
def subSem (o i v : T) (st : St) (Q : St → Prop) : Prop :=
  match o, i with
  | .ref a, k => (∃ ts j, k = .int (Int.ofNat j) ∧ st a = some (.lst ts) ∧ j < ts.length ∧ Q (upd st a (.lst (ts.set j v)))) ∨
      (∃ b kvs, st a = some (.dct b kvs) ∧ keyOk b k = true ∧ kvs.length < 1000 ∧ Q (upd st a (.dct b (putK k v kvs))))
  | _, _ => False

def seqSem (v : T) (st : St) (Q : List T → (St → Prop) → Prop) : Prop :=
  match v with
  | .tup ts => Q ts fun _ => True
  | .ref a => ∃ ts, st a = some (.lst ts) ∧ Q ts fun s => s a = some (.lst ts)
  | .scr => ∀ ns : List Int, ns.length ≤ 1000 → Q (ns.map .int) fun _ => True
  | _ => False

def msort (ts : List T) : List T := ts.mergeSort fun x y => !ltT y x
def isTup1 : T → Bool
  | .tup (_ :: _) => true
  | _ => false
def noTup : T → Bool
  | .tup _ => false
  | _ => true
/-- they can be told in order, each below another or not -/
def srtOk (ts : List T) : Bool := pureTs ts && okDs ts && (ts.all fun x => ts.all fun y => alk x y) && (ts.all isTup1 || ts.all noTup)
def srtSem (ts : List T) (Q : List T → Prop) : Prop := srtOk ts = true ∧ Q (msort ts)
mutual
def asgT : Tg → T → St → Env → (Env → Prop) → Prop
  | .name i, v, _, env, Q => Q (env.set i (some v))
  | .tup gs, v, st, env, Q => match v with
    | .tup ts => asgTs gs ts st env Q
    | .ref a => ∃ ts, st a = some (.lst ts) ∧ asgTs gs ts st env Q
    | _ => False
def asgTs : List Tg → List T → St → Env → (Env → Prop) → Prop
  | [], [], _, env, Q => Q env
  | g :: gs, t :: ts, st, env, Q => asgT g t st env fun e => asgTs gs ts st e Q
  | _, _, _, _, _ => False
end
def wipe (env : Env) (own : List Nat) : Env := own.foldl (fun e i => e.set i none) env

def itl (chk : St → Prop) (turn : T → List T → St → (List T → St → Prop) → Prop) : List T → List T → St → (List T → St → Prop) → Prop
  | [], acc, s, Q => chk s ∧ Q acc s
  | x :: xs, acc, s, Q => chk s ∧ turn x acc s fun acc' s' => ∃ s2, Sub s2 s' ∧ itl chk turn xs acc' s2 Q
def itf (chk : St → Prop) (turn : T → Env → St → (Env → St → Prop) → Prop) : List T → Env → St → (Env → St → Prop) → Prop
  | [], env, s, Q => chk s ∧ Q env s
  | x :: xs, env, s, Q => chk s ∧ turn x env s fun e1 s1 => ∃ e2 s2, Ewk e2 e1 ∧ Sub s2 s1 ∧ itf chk turn xs e2 s2 Q
def itw (test : Env → St → (Bool → St → Prop) → Prop) (body : Env → St → (Env → St → Prop) → Prop) : Nat → Env → St → (Env → St → Prop) → Prop
  | 0, _, _, _ => False
  | n + 1, env, s, Q => test env s fun b s1 => if b = true then body env s1 (fun e1 s2 => ∃ e2 s3, Ewk e2 e1 ∧ Sub s3 s2 ∧ itw test body n e2 s3 Q) else Q env s1

def zipT : List (List T) → List T
  | [xs, ys] => List.zipWith (fun x y => .tup [x, y]) xs ys
  | [xs, ys, zs] => List.zipWith (fun x yz => .tup (x :: yz)) xs (List.zipWith (fun y z => [y, z]) ys zs)
  | _ => []
def enumT (ts : List T) : List T := (List.range ts.length).zipWith (fun i x => .tup [.int (Int.ofNat i), x]) ts
def rangeT (lo hi : Int) : List T := (List.range (hi - lo).toNat).map fun i => .int (lo + Int.ofNat i)
def rangeSem (vs : List T) (Q : List T → Prop) : Prop :=
  match vs with
  | [.int n] => (-1000000 ≤ n ∧ n ≤ SZ) ∧ Q (rangeT 0 n)
  | [.int m, .int n] => (-1000000 ≤ m ∧ m ≤ SZ ∧ -1000000 ≤ n ∧ n ≤ SZ) ∧ Q (rangeT m n)
  | _ => False

mutual
def wpE (C : Cxt) : X → Env → St → EK → TK → Prop
  | .var i, env, st, _, Q => match env.getD i none with
    | some v => Q v st
    | none => False
  | .int i, _, st, _, Q => Q (.int i) st
  | .str s, _, st, _, Q => Q (.str s) st
  | .bl b, _, st, _, Q => Q (.bl b) st
  | .non, _, st, _, Q => Q .non st
  | .glob i, _, st, _, Q => match C.glob i with
    | some v => Q v st
    | none => False
  | .fnv i, _, st, _, Q => Q (.fn i) st
  | .bin o a b, env, st, E, Q => wpE C a env st E fun x s1 => wpE C b env s1 E fun y s2 => binSem o x y s2 Q
  | .neg a, env, st, E, Q => wpE C a env st E fun x s1 => match x with
    | .int i => Q (.int (-i)) s1
    | _ => False
  | .not a, env, st, E, Q => wpE C a env st E fun x s1 => truSem x s1 fun b => Q (.bl (!b)) s1
  | .and a b, env, st, E, Q => wpE C a env st E fun x s1 => truSem x s1 fun t => if t = true then wpE C b env s1 E Q else Q x s1
  | .or a b, env, st, E, Q => wpE C a env st E fun x s1 => truSem x s1 fun t => if t = true then Q x s1 else wpE C b env s1 E Q
  | .ite c a b, env, st, E, Q => wpT C c env st E fun t s1 => if t = true then wpE C a env s1 E Q else wpE C b env s1 E Q
  | .cmp o a b, env, st, E, Q => wpE C a env st E fun x s1 => wpE C b env s1 E fun y s2 => cmpSem o x y s2 fun t => Q (.bl t) s2
  | .chain o p a b c, env, st, E, Q => wpE C a env st E fun x s1 => wpE C b env s1 E fun y s2 => cmpSem o x y s2 fun t =>
      if t = true then wpE C c env s2 E fun z s3 => cmpSem p y z s3 fun u => Q (.bl u) s3 else Q (.bl false) s2
  | .tup es, env, st, E, Q => wpEs C es env st E fun vs s1 => Q (.tup vs) s1
  | .new l, env, st, E, Q => wpL C l env st E fun ts _ s1 => ∀ p, s1 p = none → Q (.ref p) (upd s1 p (.lst ts))
  | .idx a i, env, st, E, Q => wpE C a env st E fun x s1 => wpE C i env s1 E fun y s2 => idxSem x y s2 Q
  | .slc a lo hi, env, st, E, Q => wpE C a env st E fun x s1 => wpO C lo env s1 E fun l s2 => wpO C hi env s2 E fun h s3 => slcSem x l h s3 Q
  | .rev a, env, st, E, Q => wpE C a env st E fun x s1 => revSem x s1 Q
  | .call f es, env, st, E, Q => wpEs C es env st E fun vs s1 => C.call f vs s1 E Q
  | .callv i es, env, st, E, Q => match env.getD i none with
    | some (.fn f) => f < C.nf ∧ wpEs C es env st E fun vs s1 => C.call f vs s1 E Q
    | _ => False
  | .bi f es, env, st, E, Q => wpEs C es env st E fun vs s1 => biSem C.rp f vs s1 Q
  | .isi a ty, env, st, E, Q => wpE C a env st E fun x s1 => isiSem x ty s1 fun b => Q (.bl b) s1
  | .li f l, env, st, E, Q => wpL C l env st E fun ts _ s1 => liSem f ts s1 Q
  | .join a l, env, st, E, Q => wpE C a env st E fun x s1 => (∃ y, x = .str y) ∧ wpL C l env s1 E fun ts _ s2 => match x with
    | .str sep => ∃ ss : List Sg, ts = ss.map .str ∧ (ss.map (·.length)).sum + ss.length * sep.length ≤ SZ ∧ Q (.str (List.intercalate sep ss)) s2
    | _ => False
  | .me m o es, env, st, E, Q => wpE C o env st E fun x s1 => meOk m x s1 ∧ wpEs C es env s1 E fun vs s2 => meSem m x vs s2 Q
  | .dct _, _, _, _, _ => False
  | .dnew b, _, st, _, Q => ∀ p, st p = none → Q (.ref p) (upd st p (.dct b []))
def wpT (C : Cxt) : X → Env → St → EK → (Bool → St → Prop) → Prop
  | .not a, env, st, E, Q => wpT C a env st E fun t s1 => Q (!t) s1
  | .and a b, env, st, E, Q => wpT C a env st E fun t s1 => if t = true then wpT C b env s1 E Q else Q false s1
  | .or a b, env, st, E, Q => wpT C a env st E fun t s1 => if t = true then Q true s1 else wpT C b env s1 E Q
  | .ite c a b, env, st, E, Q => wpT C c env st E fun t s1 => if t = true then wpT C a env s1 E Q else wpT C b env s1 E Q
  | e, env, st, E, Q => wpE C e env st E fun x s1 => truSem x s1 fun t => Q t s1
def wpEs (C : Cxt) : List X → Env → St → EK → (List T → St → Prop) → Prop
  | [], _, st, _, Q => Q [] st
  | e :: es, env, st, E, Q => wpE C e env st E fun v s1 => wpEs C es env s1 E fun vs s2 => Q (v :: vs) s2
def wpO (C : Cxt) : Option X → Env → St → EK → (Option Int → St → Prop) → Prop
  | none, _, st, _, Q => Q none st
  | some e, env, st, E, Q => wpE C e env st E fun v s1 => match v with
    | .int i => Q (some i) s1
    | _ => False
def wpL (C : Cxt) : L → Env → St → EK → LK → Prop
  | .ex e, env, st, E, Q => wpE C e env st E fun v s1 => seqSem v s1 fun ts chk => ts.length ≤ SZ → Q ts chk s1
  | .lst es, env, st, E, Q => wpEs C es env st E fun vs s1 => Q vs (fun _ => True) s1
  | .comp elt ifs tg own src, env, st, E, Q => wpR C src env st E fun ts chk s1 =>
      itl chk (fun x acc s k => asgT tg x s (wipe env own) fun e2 => wpIf C ifs e2 s fun b s2 =>
        if b = true then wpE C elt e2 s2 noE fun v s3 => acc.length < SZ ∧ k (acc ++ [v]) s3 else k acc s2) ts [] s1 fun acc s2 => Q acc (fun _ => True) s2
  | .comp2 .., _, _, _, _ => False
  | .srt l, env, st, E, Q => wpL C l env st E fun ts _ s1 => srtSem ts fun us => Q us (fun _ => True) s1
  | .srtE e, env, st, E, Q => wpE C e env st E fun v s1 => ∃ a ts, v = .ref a ∧ (s1 a = some (.lst ts) ∨ ∃ kvs, s1 a = some (.dct true kvs) ∧ ts = kvs.map (·.1)) ∧ srtSem ts fun us => Q us (fun _ => True) s1
  | .items e, env, st, E, Q => wpE C e env st E fun v s1 => ∃ a kvs, v = .ref a ∧ s1 a = some (.dct true kvs) ∧ srtSem (kvs.map fun kv => .tup [kv.1, kv.2]) fun us => Q us (fun _ => True) s1
def wpLs (C : Cxt) : List L → Env → St → EK → (List (List T) → (St → Prop) → St → Prop) → Prop
  | [], _, st, _, Q => Q [] (fun _ => True) st
  | l :: ls, env, st, E, Q => wpL C l env st E fun ts chk s1 => wpLs C ls env s1 E fun tss chk2 s2 => Q (ts :: tss) (fun s => chk s ∧ chk2 s) s2
def wpR (C : Cxt) : Sr → Env → St → EK → LK → Prop
  | .seq l, env, st, E, Q => wpL C l env st E Q
  | .range es, env, st, E, Q => wpEs C es env st E fun vs s1 => rangeSem vs fun ts => Q ts (fun _ => True) s1
  | .enum l, env, st, E, Q => wpL C l env st E fun ts chk s1 => Q (enumT ts) chk s1
  | .zip ls, env, st, E, Q => wpLs C ls env st E fun tss chk s1 => chk s1 ∧ Q (zipT tss) chk s1
  | .rrange es, env, st, E, Q => wpEs C es env st E fun vs s1 => rangeSem vs fun ts => Q ts.reverse (fun _ => True) s1
/-- tests of a clause -/
def wpIf (C : Cxt) : List X → Env → St → (Bool → St → Prop) → Prop
  | [], _, st, Q => Q true st
  | c :: cs, env, st, Q => wpT C c env st noE fun t s1 => if t = true then wpIf C cs env s1 Q else Q false s1
end

mutual
def wpS (C : Cxt) : Sm → Env → St → Po → Prop
  | .set g e, env, st, P => wpE C e env st P.ex fun v s1 => asgT g v s1 env fun e2 => P.nx e2 s1
  | .par is es, env, st, P => wpEs C es env st P.ex fun vs s1 => vs.length = is.length ∧ P.nx ((is.zip vs).foldl (fun e p => e.set p.1 (some p.2)) env) s1
  | .sub o i e, env, st, P => wpE C e env st P.ex fun v s1 => wpE C o env s1 P.ex fun x s2 => wpE C i env s2 P.ex fun y s3 => subSem x y v s3 fun s4 => P.nx env s4
  | .aug i o e, env, st, P => match env.getD i none with
    | some x => wpE C e env st P.ex fun y s1 => augSem o x y fun v => P.nx (env.set i (some v)) s1
    | none => False
  | .augs .., _, _, _ => False
  | .ex e, env, st, P => wpE C e env st P.ex fun _ s1 => P.nx env s1
  | .ret none, _, st, P => P.rt .non st
  | .ret (some e), env, st, P => wpE C e env st P.ex P.rt
  | .cond c a b, env, st, P => wpT C c env st P.ex fun t s1 => if t = true then wpSs C a env s1 P else wpSs C b env s1 P
  | .loop g s b, env, st, P => wpR C s env st P.ex fun ts chk s1 =>
      itf chk (fun x e s k => asgT g x s e fun e2 => wpSs C b e2 s { nx := k, rt := P.rt, ex := P.ex }) ts env s1 P.nx
  | .whl c b, env, st, P => ∃ N, N ≤ 2 ^ 62 ∧ itw (fun e s k => wpT C c e s P.ex k) (fun e s k => wpSs C b e s { nx := k, rt := P.rt, ex := P.ex }) N env st P.nx
  | .pass, env, st, P => P.nx env st
def wpSs (C : Cxt) : List Sm → Env → St → Po → Prop
  | [], env, st, P => P.nx env st
  | s :: ss, env, st, P => wpS C s env st { P with nx := fun e2 s2 => wpSs C ss e2 s2 P }
end

inductive Fn where
  | code (np nl : Nat) (body : List Sm)
  | mk
  | next
structure Pg where
  fns : List Fn
  glob : List T
  rp : T → Sg

def start (nl : Nat) (vs : List T) : Env := vs.map some ++ List.replicate (nl - vs.length) none
def wpCall (P : Pg) : Nat → Nat → List T → St → EK → TK → Prop
  | 0, _, _, _, _, _ => False
  | k + 1, f, vs, st, E, Q => match P.fns[f]? with
    | some (.code np nl body) => vs.length = np ∧ wpSs ⟨wpCall P k, P.fns.length, fun i => P.glob[i]?, P.rp⟩ body (start nl vs) st
        { nx := fun _ s => ∃ s2, Sub s2 s ∧ Q .non s2, rt := fun v s => ∃ s2, Sub s2 s ∧ Q v s2, ex := fun x s => ∃ s2, Sub s2 s ∧ E x s2 }
    | some .mk => vs = [.scr] ∧ (∀ b, st b ≠ some .deck) ∧ ∀ p, st p = none → Q (.ref p) (upd st p .deck)
    | some .next => ∃ a m, vs = [.ref a, .int m] ∧ st a = some .deck ∧ 1 ≤ m ∧ m < 2 ^ 1000 ∧ ∀ r, 0 ≤ r → r < m → Q (.int r) st
    | none => False

/-! ### at most how many draws -/
def LN : Nat := 2 ^ 62
mutual
def cE (cc : Nat → Nat) : X → Nat
  | .bin _ a b => cE cc a + cE cc b
  | .neg a => cE cc a
  | .not a => cE cc a
  | .and a b => cE cc a + cE cc b
  | .or a b => cE cc a + cE cc b
  | .ite c a b => cE cc c + (cE cc a + cE cc b)
  | .cmp _ a b => cE cc a + cE cc b
  | .chain _ _ a b c => cE cc a + (cE cc b + cE cc c)
  | .tup es => cEs cc es
  | .new l => cL cc l
  | .idx a i => cE cc a + cE cc i
  | .slc a lo hi => cE cc a + (cO cc lo + cO cc hi)
  | .rev a => cE cc a
  | .call f es => cEs cc es + cc f
  | .callv _ es => cEs cc es + cc 1000000
  | .bi _ es => cEs cc es
  | .isi a _ => cE cc a
  | .li _ l => cL cc l
  | .join a l => cE cc a + cL cc l
  | .me _ o es => cE cc o + cEs cc es
  | .dct _ => 0
  | .dnew _ => 0
  | .var _ | .int _ | .str _ | .bl _ | .non | .glob _ | .fnv _ => 0
def cEs (cc : Nat → Nat) : List X → Nat
  | [] => 0
  | e :: es => cE cc e + cEs cc es
def cO (cc : Nat → Nat) : Option X → Nat
  | none => 0
  | some e => cE cc e
def cL (cc : Nat → Nat) : L → Nat
  | .ex e => cE cc e
  | .lst es => cEs cc es
  | .comp elt ifs _ _ src => cR cc src + LN * (cEs cc ifs + cE cc elt)
  | .comp2 .. => 0
  | .srt l => cL cc l
  | .srtE e => cE cc e
  | .items e => cE cc e
def cLs (cc : Nat → Nat) : List L → Nat
  | [] => 0
  | l :: ls => cL cc l + cLs cc ls
def cR (cc : Nat → Nat) : Sr → Nat
  | .seq l => cL cc l
  | .range es => cEs cc es
  | .enum l => cL cc l
  | .zip ls => cLs cc ls
  | .rrange es => cEs cc es
end
mutual
def cS (cc : Nat → Nat) : Sm → Nat
  | .set _ e => cE cc e
  | .par _ es => cEs cc es
  | .sub o i e => cE cc e + (cE cc o + cE cc i)
  | .aug _ _ e => cE cc e
  | .augs o i _ e => cE cc o + (cE cc i + cE cc e)
  | .ex e => cE cc e
  | .ret none => 0
  | .ret (some e) => cE cc e
  | .cond c a b => cE cc c + (cSs cc a + cSs cc b)
  | .loop _ s b => cR cc s + LN * cSs cc b
  | .whl c b => LN * (cE cc c + cSs cc b)
  | .pass => 0
def cSs (cc : Nat → Nat) : List Sm → Nat
  | [] => 0
  | s :: ss => cS cc s + cSs cc ss
end
def cFn (cc : Nat → Nat) : Fn → Nat
  | .code _ _ b => cSs cc b
  | .mk => 0
  | .next => 1
def ccOf (t : List Nat) (f : Nat) : Nat := match t[f]? with
  | some c => c
  | none => t.foldl max 0
/-- by the depth of calls: the list of all functions' -/
def cTab (fs : List Fn) : Nat → List Nat
  | 0 => []
  | k + 1 => let t := cTab fs k; fs.map (cFn (ccOf t))
end Mo

set_option Elab.async false
set_option linter.all false
set_option maxRecDepth 100000
set_option autoImplicit false
namespace Mo
open PySem PyProof.Rows

/-- what stays the same through the whole run -/
structure Wd where
  K : PySem.W.Frag
  fa : Nat → Addr

def cpsS (s : Sg) : Str := ⟨s.toArray⟩
/-- a list that nobody changes -/
def SqF (K : PySem.W.Frag) (F : L2.Hp) (a : Addr) (xs : List L2.V) : Prop :=
  (∃ o, F a = some (.frz o (.lst xs))) ∨
    ∃ (o : Obj) (its : Array Value) (n : Nat), K.lookup a = some o ∧ o.cls = .type "list" ∧ o.dict = none ∧ o.data = .seq its n ∧ its.size ≤ sizeLine ∧ L2.Vals xs its.toList
theorem SqF.sqL {K : PySem.W.Frag} {F : L2.Hp} {a : Addr} {xs : List L2.V} (h : SqF K F a xs) : L2.SqL K F a xs := h.elim (fun h => .inl (.inr h)) .inr
/-- all but lists stays -/
def Keep (F F' : L2.Hp) : Prop := ∀ a o, F a = some o → (∀ xs, o ≠ .lst xs) → F' a = some o
theorem Keep.of {F F' : L2.Hp} (h : L2.Same F F') : Keep F F' := fun a o e _ => h a o e
theorem Keep.trans {F G I : L2.Hp} (h : Keep F G) (k : Keep G I) : Keep F I := fun a o e n => k a o (h a o e n) n

mutual
def RepV (D : Wd) (F : L2.Hp) : T → L2.V → Prop
  | .non, v => v = .non
  | .bl b, v => v = .bl b
  | .int i, v => v = .int i
  | .str s, v => v = .str (cpsS s)
  | .tup ts, v => ∃ a xs, v = .ref a ∧ F a = some (.tup xs) ∧ RepVs D F ts xs
  | .lst _, _ => False
  | .dct _ _ _, _ => False
  | .ref a, v => v = .ref a
  | .fn i, v => v = .ref (D.fa i)
  | .scr, v => ∃ a, ∃ ns : List Int, v = .ref a ∧ SqF D.K F a (ns.map .int) ∧ ns.length ≤ 1000
def RepVs (D : Wd) (F : L2.Hp) : List T → List L2.V → Prop
  | [], vs => vs = []
  | t :: ts, vs => ∃ v ws, vs = v :: ws ∧ RepV D F t v ∧ RepVs D F ts ws
end

theorem rd_keep {F F' : L2.Hp} {a : Addr} {xs : List L2.V} (h : Keep F F') (r : L2.Rd F a (.tup xs)) : L2.Rd F' a (.tup xs) := by
  rcases r with r | ⟨o, r⟩
  · exact .inl (h _ _ r fun _ z => by cases z)
  · exact .inr ⟨o, h _ _ r fun _ z => by cases z⟩
theorem rd_mono {F F' : L2.Hp} {a : Addr} {u : L2.HO} (h : L2.Same F F') (r : L2.Rd F a u) : L2.Rd F' a u := by
  rcases r with r | ⟨o, r⟩
  · exact .inl (h _ _ r)
  · exact .inr ⟨o, h _ _ r⟩
theorem sqT_keep {K : PySem.W.Frag} {F F' : L2.Hp} {a : Addr} {xs : List L2.V} (h : Keep F F') (r : L2.SqT K F a xs) : L2.SqT K F' a xs := by
  rcases r with r | r
  · exact .inl (rd_keep h r)
  · exact .inr r
theorem sqF_keep {K : PySem.W.Frag} {F F' : L2.Hp} {a : Addr} {xs : List L2.V} (h : Keep F F') (r : SqF K F a xs) : SqF K F' a xs := by
  rcases r with ⟨o, r⟩ | r
  · exact .inl ⟨o, h _ _ r fun _ z => by cases z⟩
  · exact .inr r
theorem sqT_mono {K : PySem.W.Frag} {F F' : L2.Hp} {a : Addr} {xs : List L2.V} (h : L2.Same F F') (r : L2.SqT K F a xs) : L2.SqT K F' a xs := by
  rcases r with r | r
  · exact .inl (rd_mono h r)
  · exact .inr r
theorem sqL_mono {K : PySem.W.Frag} {F F' : L2.Hp} {a : Addr} {xs : List L2.V} (h : L2.Same F F') (r : L2.SqL K F a xs) : L2.SqL K F' a xs := by
  rcases r with r | r
  · exact .inl (rd_mono h r)
  · exact .inr r
mutual
theorem RepV.keep {D : Wd} {F F' : L2.Hp} (h : Keep F F') : ∀ (t : T) (v : L2.V), RepV D F t v → RepV D F' t v
  | .non, _, r => r
  | .bl _, _, r => r
  | .int _, _, r => r
  | .str _, _, r => r
  | .tup ts, _, r => by
    obtain ⟨a, xs, e, s, q⟩ := r
    exact ⟨a, xs, e, h _ _ s (fun _ z => by cases z), RepVs.keep h ts xs q⟩
  | .lst _, _, r => r
  | .dct _ _ _, _, r => r
  | .ref _, _, r => r
  | .fn _, _, r => r
  | .scr, _, r => by
    obtain ⟨a, ns, e, s, l⟩ := r
    exact ⟨a, ns, e, sqF_keep h s, l⟩
theorem RepVs.keep {D : Wd} {F F' : L2.Hp} (h : Keep F F') : ∀ (ts : List T) (vs : List L2.V), RepVs D F ts vs → RepVs D F' ts vs
  | [], _, r => r
  | t :: ts, _, r => by
    obtain ⟨v, ws, e, r1, r2⟩ := r
    exact ⟨v, ws, e, RepV.keep h t v r1, RepVs.keep h ts ws r2⟩
end
theorem RepV.mono {D : Wd} {F F' : L2.Hp} (h : L2.Same F F') (t : T) (v : L2.V) (r : RepV D F t v) : RepV D F' t v := r.keep (.of h)
theorem RepVs.mono {D : Wd} {F F' : L2.Hp} (h : L2.Same F F') (ts : List T) (vs : List L2.V) (r : RepVs D F ts vs) : RepVs D F' ts vs := r.keep (.of h)
section
variable {D : Wd} {F : L2.Hp}
theorem RepVs.length : ∀ {ts : List T} {vs : List L2.V}, RepVs D F ts vs → ts.length = vs.length
  | [], _, r => by rw [show _ = [] from r]; rfl
  | t :: ts, _, r => by
    obtain ⟨v, ws, e, _, r2⟩ := r
    rw [e, List.length_cons, List.length_cons, RepVs.length r2]
theorem RepVs.get : ∀ {ts : List T} {vs : List L2.V} {i : Nat} {t : T}, RepVs D F ts vs → ts[i]? = some t → ∃ v, vs[i]? = some v ∧ RepV D F t v
  | [], _, _, _, _, e => by simp at e
  | t :: ts, _, 0, u, r, e => by
    obtain ⟨v, ws, rfl, r1, _⟩ := r
    simp at e; subst e
    exact ⟨v, rfl, r1⟩
  | t :: ts, _, i + 1, u, r, e => by
    obtain ⟨v, ws, rfl, _, r2⟩ := r
    obtain ⟨x, h1, h2⟩ := RepVs.get (i := i) (t := u) r2 (by simpa using e)
    exact ⟨x, by simpa using h1, h2⟩
theorem RepVs.append : ∀ {ts us : List T} {vs ws : List L2.V}, RepVs D F ts vs → RepVs D F us ws → RepVs D F (ts ++ us) (vs ++ ws)
  | [], _, _, _, r, q => by rw [show _ = [] from r]; exact q
  | t :: ts, us, _, ws, r, q => by
    obtain ⟨v, xs, rfl, r1, r2⟩ := r
    exact ⟨v, xs ++ ws, rfl, r1, RepVs.append r2 q⟩
theorem RepVs.set : ∀ {ts : List T} {vs : List L2.V} {t : T} {v : L2.V} (i : Nat), RepVs D F ts vs → RepV D F t v → RepVs D F (ts.set i t) (vs.set i v)
  | [], _, _, _, _, r, _ => by rw [show _ = [] from r]; exact rfl
  | t :: ts, _, _, _, 0, r, q => by
    obtain ⟨v, xs, rfl, r1, r2⟩ := r
    exact ⟨_, xs, rfl, q, r2⟩
  | t :: ts, _, _, _, i + 1, r, q => by
    obtain ⟨v, xs, rfl, r1, r2⟩ := r
    exact ⟨v, _, rfl, r1, RepVs.set i r2 q⟩
theorem RepVs.take : ∀ {ts : List T} {vs : List L2.V} (n : Nat), RepVs D F ts vs → RepVs D F (ts.take n) (vs.take n)
  | [], _, _, r => by rw [show _ = [] from r]; simp [RepVs]
  | t :: ts, _, 0, r => by simp [RepVs]
  | t :: ts, _, n + 1, r => by
    obtain ⟨v, xs, rfl, r1, r2⟩ := r
    exact ⟨v, _, rfl, r1, RepVs.take n r2⟩
theorem RepVs.drop : ∀ {ts : List T} {vs : List L2.V} (n : Nat), RepVs D F ts vs → RepVs D F (ts.drop n) (vs.drop n)
  | [], _, _, r => by rw [show _ = [] from r]; simp [RepVs]
  | t :: ts, _, 0, r => by simpa using r
  | t :: ts, _, n + 1, r => by
    obtain ⟨v, xs, rfl, r1, r2⟩ := r
    simpa using RepVs.drop n r2
theorem RepVs.reverse : ∀ {ts : List T} {vs : List L2.V}, RepVs D F ts vs → RepVs D F ts.reverse vs.reverse
  | [], _, r => by rw [show _ = [] from r]; simp [RepVs]
  | t :: ts, _, r => by
    obtain ⟨v, xs, rfl, r1, r2⟩ := r
    rw [List.reverse_cons, List.reverse_cons]
    exact (RepVs.reverse r2).append ⟨v, [], rfl, r1, rfl⟩
theorem RepVs.rep {ts : List T} {vs : List L2.V} (r : RepVs D F ts vs) : ∀ k : Nat, RepVs D F (rep k ts) (List.replicate k vs).flatten
  | 0 => by simp [Mo.rep, RepVs]
  | k + 1 => by
    unfold Mo.rep
    rw [List.replicate_succ, List.flatten_cons, List.replicate_succ, List.flatten_cons]
    exact r.append (RepVs.rep r k)
theorem RepVs.ints : ∀ {ns : List Int} {vs : List L2.V}, RepVs D F (ns.map .int) vs → vs = ns.map .int
  | [], _, r => r
  | n :: ns, _, r => by
    obtain ⟨v, xs, rfl, r1, r2⟩ := r
    rw [RepVs.ints r2, show v = _ from r1]; rfl
theorem RepVs.of_ints : ∀ {ns : List Int}, RepVs D F (ns.map .int) (ns.map .int)
  | [] => rfl
  | n :: ns => ⟨_, _, rfl, rfl, RepVs.of_ints⟩
theorem RepVs.bls : ∀ {ns : List Bool} {vs : List L2.V}, RepVs D F (ns.map .bl) vs → vs = ns.map .bl
  | [], _, r => r
  | n :: ns, _, r => by
    obtain ⟨v, xs, rfl, r1, r2⟩ := r
    rw [RepVs.bls r2, show v = _ from r1]; rfl
theorem RepVs.strs : ∀ {ns : List Sg} {vs : List L2.V}, RepVs D F (ns.map .str) vs → vs = ns.map fun s => .str (cpsS s)
  | [], _, r => r
  | n :: ns, _, r => by
    obtain ⟨v, xs, rfl, r1, r2⟩ := r
    rw [RepVs.strs r2, show v = _ from r1]; rfl
end

/-- the law's drawn numbers, at a -/
def DeckAt (B : Nat) (H F : L2.Hp) (st : St) (a : Addr) : Prop :=
  ∃ (b c : Addr) (k : Int) (ns ms : List Int), H a = some (.lst [.ref b, .ref c, .int k]) ∧ H b = some (.lst (ns.map .int)) ∧ H c = some (.lst (ms.map .int)) ∧
    (ms ≠ [] ∧ ns.length ≤ 1000) ∧ 0 ≤ k ∧ k ≤ B ∧ (∀ n ∈ ns, 0 ≤ n) ∧ (∀ m ∈ ms, 0 ≤ m) ∧ b ≠ c ∧ st b = none ∧ st c = none ∧ F b = none ∧ F c = none
def keyV : T → Option L2.Key
  | .int i => some (.inl i)
  | .str s => some (.inr (cpsS s))
  | _ => none
def keysV : List T → Option (List L2.Key)
  | [] => some []
  | t :: ts => match keyV t with
    | some k => match keysV ts with
      | some ks => some (k :: ks)
      | none => none
    | none => none
def keyT : T → Option (List L2.Key)
  | .tup ts => keysV ts
  | _ => none
/-- a dict's rows -/
def KvR {κ : Type} (D : Wd) (F : L2.Hp) (kf : T → Option κ) : List (T × T) → List (κ × L2.V) → Prop
  | [], ks => ks = []
  | p :: ps, ks => ∃ k v r, ks = (k, v) :: r ∧ kf p.1 = some k ∧ RepV D F p.2 v ∧ KvR D F kf ps r
theorem KvR.keep {κ : Type} {D : Wd} {F F' : L2.Hp} {kf : T → Option κ} (h : Keep F F') : ∀ {ps : List (T × T)} {ks : List (κ × L2.V)}, KvR D F kf ps ks → KvR D F' kf ps ks
  | [], _, r => r
  | p :: ps, _, r => by
    obtain ⟨k, v, r', e, h1, h2, h3⟩ := r
    exact ⟨k, v, r', e, h1, h2.keep h, KvR.keep h h3⟩
/-- a dict of that kind at its object -/
def KvO (D : Wd) (F : L2.Hp) : Bool → List (T × T) → L2.HO → Prop
  | false, kvs, u => ∃ ks, u = .dK ks ∧ KvR D F keyV kvs ks
  | true, kvs, u => ∃ ks, u = .dT ks ∧ KvR D F keyT kvs ks
theorem KvO.keep {D : Wd} {F F' : L2.Hp} (h : Keep F F') : ∀ {b : Bool} {kvs : List (T × T)} {u : L2.HO}, KvO D F b kvs u → KvO D F' b kvs u
  | false, _, _, ⟨ks, e, r⟩ => ⟨ks, e, r.keep h⟩
  | true, _, _, ⟨ks, e, r⟩ => ⟨ks, e, r.keep h⟩
theorem KvO.mono {D : Wd} {F F' : L2.Hp} (h : L2.Same F F') {b : Bool} {kvs : List (T × T)} {u : L2.HO} (r : KvO D F b kvs u) : KvO D F' b kvs u := r.keep (.of h)
def ORep (D : Wd) (B : Nat) (H F : L2.Hp) (st : St) (a : Addr) : O → Prop
  | .lst ts => ∃ xs, H a = some (.lst xs) ∧ RepVs D F ts xs
  | .dct b kvs => ∃ u, H a = some u ∧ KvO D F b kvs u
  | .deck => DeckAt B H F st a
structure Sim (D : Wd) (B : Nat) (H F : L2.Hp) (st : St) : Prop where
  fr : ∀ a o, F a = some o → H a = some o
  ob : ∀ a o, st a = some o → F a = none ∧ ORep D B H F st a o
  dk : ∀ a b, st a = some .deck → st b = some .deck → a = b

def EnvR (D : Wd) (F : L2.Hp) (env : Env) (σ : L2.St) : Prop :=
  env.length = σ.length ∧ ∀ (i : Nat) (t : T), env[i]? = some (some t) → ∃ v, σ[i]? = some (some v) ∧ RepV D F t v

section
variable {D : Wd} {B B' : Nat} {H F F' : L2.Hp} {st st' : St} {a : Addr}
theorem EnvR.keep {env : Env} {σ : L2.St} (r : EnvR D F env σ) (h : Keep F F') : EnvR D F' env σ :=
  ⟨r.1, fun i t e => let ⟨v, e1, r1⟩ := r.2 i t e; ⟨v, e1, r1.keep h⟩⟩
theorem EnvR.mono {env : Env} {σ : L2.St} (r : EnvR D F env σ) (h : L2.Same F F') : EnvR D F' env σ :=
  ⟨r.1, fun i t e => let ⟨v, e1, r1⟩ := r.2 i t e; ⟨v, e1, r1.mono h⟩⟩
theorem EnvR.wk {env env' : Env} {σ : L2.St} (r : EnvR D F env σ) (h : Ewk env' env) : EnvR D F env' σ := by
  have key : ∀ (e' e : Env), Ewk e' e → e'.length = e.length ∧ ∀ (i : Nat) (t : T), e'[i]? = some (some t) → e[i]? = some (some t) := by
    intro e'
    induction e' with
    | nil => intro e h; cases e with
      | nil => exact ⟨rfl, fun i t q => by simp at q⟩
      | cons _ _ => exact h.elim
    | cons x e' ih =>
      intro e h
      cases e with
      | nil => cases x <;> exact h.elim
      | cons y e =>
        cases x with
        | none =>
          obtain ⟨h1, h2⟩ := ih e h
          refine ⟨by simp [h1], fun i t q => ?_⟩
          cases i with
          | zero => simp at q
          | succ i => simpa using h2 i t (by simpa using q)
        | some x =>
          cases y with
          | none => exact h.elim
          | some y =>
            obtain ⟨e1, h⟩ := h
            subst e1
            obtain ⟨h1, h2⟩ := ih e h
            refine ⟨by simp [h1], fun i t q => ?_⟩
            cases i with
            | zero => simpa using q
            | succ i => simpa using h2 i t (by simpa using q)
  obtain ⟨h1, h2⟩ := key _ _ h
  exact ⟨h1.trans r.1, fun i t e => r.2 i t (h2 i t e)⟩
theorem EnvR.set {env : Env} {σ : L2.St} {i : Nat} {t : T} {v : L2.V} (r : EnvR D F env σ) (q : RepV D F t v) : EnvR D F (env.set i (some t)) (σ.set i (some v)) := by
  refine ⟨by rw [List.length_set, List.length_set]; exact r.1, fun j u e => ?_⟩
  by_cases hj : i = j
  · subst hj
    by_cases hl : i < env.length
    · rw [List.getElem?_set_self hl] at e
      cases e
      exact ⟨v, by rw [List.getElem?_set_self (by rw [← r.1]; exact hl)], q⟩
    · rw [List.getElem?_eq_none (by rw [List.length_set]; omega)] at e; cases e
  · rw [List.getElem?_set_ne hj] at e ⊢
    exact r.2 j u e
theorem EnvR.get {env : Env} {σ : L2.St} {i : Nat} {t : T} (r : EnvR D F env σ) (e : env.getD i none = some t) : ∃ v, σ[i]? = some (some v) ∧ RepV D F t v := by
  refine r.2 i t ?_
  rw [List.getD_eq_getElem?_getD] at e
  cases h : env[i]? with
  | none => rw [h] at e; simp at e
  | some o => rw [h] at e; simp at e; rw [e]
theorem EnvR.wipe {env : Env} {σ : L2.St} {own : List Nat} (r : EnvR D F env σ) : EnvR D F (Mo.wipe env own) (L2.wipe σ own) := by
  have key : ∀ (own : List Nat) (env : Env), (Mo.wipe env own).length = env.length ∧ ∀ (i : Nat) (t : T), (Mo.wipe env own)[i]? = some (some t) → env[i]? = some (some t) ∧ i ∉ own := by
    intro own
    induction own with
    | nil => intro env; exact ⟨rfl, fun i t e => ⟨e, by simp⟩⟩
    | cons x own ih =>
      intro env
      obtain ⟨h1, h2⟩ := ih (env.set x none)
      refine ⟨by unfold Mo.wipe at h1 ⊢; rw [List.foldl_cons, h1, List.length_set], fun i t e => ?_⟩
      obtain ⟨e1, n1⟩ := h2 i t (by unfold Mo.wipe at e ⊢; rw [List.foldl_cons] at e; exact e)
      by_cases hx : x = i
      · subst hx
        by_cases hl : x < env.length
        · rw [List.getElem?_set_self hl] at e1; cases e1
        · rw [List.getElem?_eq_none (by rw [List.length_set]; omega)] at e1; cases e1
      · rw [List.getElem?_set_ne hx] at e1
        exact ⟨e1, by simp only [List.mem_cons, not_or]; exact ⟨fun z => hx z.symm, n1⟩⟩
  have key2 : ∀ (own : List Nat) (σ : L2.St) (i : Nat), i ∉ own → (L2.wipe σ own)[i]? = σ[i]? := by
    intro own
    induction own with
    | nil => intro σ i _; rfl
    | cons x own ih =>
      intro σ i hi
      simp only [List.mem_cons, not_or] at hi
      show ((L2.wipe σ own).set x none)[i]? = _
      rw [List.getElem?_set_ne (fun z => hi.1 z.symm)]
      exact ih σ i hi.2
  obtain ⟨h1, h2⟩ := key own env
  refine ⟨h1.trans (r.1.trans (L2.wipe_length σ own).symm), fun i t e => ?_⟩
  obtain ⟨e1, n1⟩ := h2 i t e
  rw [key2 own σ i n1]
  exact r.2 i t e1
theorem DeckAt.mono (d : DeckAt B H F st a) (h : B ≤ B') : DeckAt B' H F st a := by
  obtain ⟨b, c, k, ns, ms, h1, h2, h3, h4, h5, h6, h7⟩ := d
  exact ⟨b, c, k, ns, ms, h1, h2, h3, h4, h5, by omega, h7⟩
theorem Sim.more (s : Sim D B H F st) (h : B ≤ B') : Sim D B' H F st :=
  ⟨s.fr, fun a o e => ⟨(s.ob a o e).1, by
    have q := (s.ob a o e).2
    cases o with
    | lst ts => exact q
    | dct b kvs => exact q
    | deck => exact DeckAt.mono q h⟩, s.dk⟩
theorem Sim.sub (s : Sim D B H F st) (h : Sub st' st) : Sim D B H F st' :=
  ⟨s.fr, fun a o e => ⟨(s.ob a o (h a o e)).1, by
    have q := (s.ob a o (h a o e)).2
    cases o with
    | lst ts => exact q
    | dct b kvs => exact q
    | deck =>
      obtain ⟨b, c, k, ns, ms, h1, h2, h3, h4, h5, h6, h7, h8, h9, h10, h11, h12⟩ := q
      have sn : ∀ x, st x = none → st' x = none := fun x e => by
        cases z : st' x with
        | none => rfl
        | some o => rw [h x o z] at e; cases e
      exact ⟨b, c, k, ns, ms, h1, h2, h3, h4, h5, h6, h7, h8, h9, sn b h10, sn c h11, h12⟩⟩, fun a b x y => s.dk a b (h _ _ x) (h _ _ y)⟩
theorem Sim.noF (s : Sim D B H F st) (h : H a = none) : F a = none := by
  cases e : F a with
  | none => rfl
  | some o => rw [s.fr a o e] at h; cases h

theorem Sim.alloc (s : Sim D B H F st) {p : Addr} (o : L2.HO) (hp : H p = none) : Sim D B (L2.upd H p o) F st := by
  have ne : ∀ b u, H b = some u → L2.upd H p o b = some u := fun b u e => by
    rw [L2.upd_ne (fun z => by rw [z, hp] at e; cases e)]; exact e
  refine ⟨fun a u e => ne a u (s.fr a u e), fun a u e => ⟨(s.ob a u e).1, ?_⟩, s.dk⟩
  have q := (s.ob a u e).2
  cases u with
  | lst ts =>
    obtain ⟨xs, h1, h2⟩ := q
    exact ⟨xs, ne _ _ h1, h2⟩
  | dct b kvs =>
    obtain ⟨xs, h1, h2⟩ := q
    exact ⟨xs, ne _ _ h1, h2⟩
  | deck =>
    obtain ⟨b, c, k, ns, ms, h1, h2, h3, h4⟩ := q
    exact ⟨b, c, k, ns, ms, ne _ _ h1, ne _ _ h2, ne _ _ h3, h4⟩
theorem same_upd {F : L2.Hp} {p : Addr} {o : L2.HO} (h : F p = none) : L2.Same F (L2.upd F p o) := fun b x e => by
  rw [L2.upd_ne (fun z => by rw [z, h] at e; cases e)]; exact e
theorem upd_apart {H : L2.Hp} {p b : Addr} {u : L2.HO} (hp : H p = none) (hb : H b = some u) : b ≠ p := fun z => by rw [z, hp] at hb; cases hb
theorem Sim.there (s : Sim D B H F st) {a : Addr} {o : O} (e : st a = some o) : ∃ u, H a = some u := by
  have q := (s.ob a o e).2
  cases o with
  | lst ts => obtain ⟨xs, h1, _⟩ := q; exact ⟨_, h1⟩
  | dct b kvs => obtain ⟨xs, h1, _⟩ := q; exact ⟨_, h1⟩
  | deck => obtain ⟨b, c, k, ns, ms, h1, _⟩ := q; exact ⟨_, h1⟩
theorem Sim.stNone (s : Sim D B H F st) {p : Addr} (hp : H p = none) : st p = none := by
  cases e : st p with
  | none => rfl
  | some o => obtain ⟨u, z⟩ := s.there e; rw [hp] at z; cases z
/-- a new thing that stays as it is -/
theorem Sim.know (s : Sim D B H F st) {p : Addr} (o : L2.HO) (hp : H p = none) : Sim D B (L2.upd H p o) (L2.upd F p o) st := by
  have s1 := s.alloc o hp
  have hF := s.noF hp
  have sm : L2.Same F (L2.upd F p o) := same_upd hF
  have np := s.stNone hp
  refine ⟨fun a u e => ?_, fun a u e => ?_, s.dk⟩
  · by_cases z : a = p
    · subst z; rw [L2.upd_same] at e ⊢; exact e
    · rw [L2.upd_ne z] at e; exact s1.fr a u e
  · have za : a ≠ p := fun z => by rw [z, np] at e; cases e
    obtain ⟨f, q⟩ := s1.ob a u e
    refine ⟨by rw [L2.upd_ne za]; exact f, ?_⟩
    cases u with
    | lst ts =>
      obtain ⟨xs, h1, h2⟩ := q
      exact ⟨xs, h1, h2.mono sm _ _⟩
    | dct b kvs =>
      obtain ⟨xs, h1, h2⟩ := q
      exact ⟨xs, h1, h2.mono sm⟩
    | deck =>
      obtain ⟨_, q0⟩ := s.ob a _ e
      obtain ⟨b0, c0, k0, ns0, ms0, g1, g2, g3, _⟩ := q0
      obtain ⟨b, c, k, ns, ms, h1, h2, h3, h4, h5, h6, h7, h8, h9, h10, h11, h12, h13⟩ := q
      have e0 : H a = L2.upd H p o a := (L2.upd_ne za).symm
      rw [g1, h1] at e0
      have e1 : b0 = b ∧ c0 = c := by
        simp only [Option.some.injEq, L2.HO.lst.injEq, List.cons.injEq, L2.V.ref.injEq] at e0
        exact ⟨e0.1, e0.2.1⟩
      obtain ⟨rfl, rfl⟩ := e1
      exact ⟨b0, c0, k, ns, ms, h1, h2, h3, h4, h5, h6, h7, h8, h9, h10, h11, by rw [L2.upd_ne (upd_apart hp g2)]; exact h12, by rw [L2.upd_ne (upd_apart hp g3)]; exact h13⟩
/-- a new list that may change -/
theorem Sim.newL (s : Sim D B H F st) {p : Addr} {xs : List L2.V} {ts : List T} (hp : H p = none) (r : RepVs D F ts xs) : Sim D B (L2.upd H p (.lst xs)) F (upd st p (.lst ts)) := by
  have s1 := s.alloc (.lst xs) hp
  have hF := s.noF hp
  have np := s.stNone hp
  refine ⟨s1.fr, fun a u e => ?_, fun a b x y => ?_⟩
  · by_cases z : a = p
    · subst z
      rw [upd_same] at e; cases e
      exact ⟨hF, xs, L2.upd_same, r⟩
    · rw [upd_ne z] at e
      obtain ⟨f, q⟩ := s1.ob a u e
      refine ⟨f, ?_⟩
      cases u with
      | lst ts => exact q
      | dct b kvs => exact q
      | deck =>
        obtain ⟨_, q0⟩ := s.ob a _ e
        obtain ⟨b0, c0, k0, ns0, ms0, g1, g2, g3, _⟩ := q0
        obtain ⟨b, c, k, ns, ms, h1, h2, h3, h4, h5, h6, h7, h8, h9, h10, h11, h12, h13⟩ := q
        have e0 : H a = L2.upd H p (.lst xs) a := (L2.upd_ne z).symm
        rw [g1, h1] at e0
        have e1 : b0 = b ∧ c0 = c := by
          simp only [Option.some.injEq, L2.HO.lst.injEq, List.cons.injEq, L2.V.ref.injEq] at e0
          exact ⟨e0.1, e0.2.1⟩
        obtain ⟨rfl, rfl⟩ := e1
        exact ⟨b0, c0, k, ns, ms, h1, h2, h3, h4, h5, h6, h7, h8, h9, by rw [upd_ne (upd_apart hp g2)]; exact h10, by rw [upd_ne (upd_apart hp g3)]; exact h11, h12, h13⟩
  · have za : a ≠ p := fun z => by subst z; rw [upd_same] at x; cases x
    have zb : b ≠ p := fun z => by subst z; rw [upd_same] at y; cases y
    rw [upd_ne za] at x
    rw [upd_ne zb] at y
    exact s.dk a b x y
/-- a list changes -/
theorem Sim.setL (s : Sim D B H F st) {p : Addr} {us : List T} {xs : List L2.V} {ts : List T} (hp : st p = some (.lst us)) (r : RepVs D F ts xs) : Sim D B (L2.upd H p (.lst xs)) F (upd st p (.lst ts)) := by
  obtain ⟨fp, ys, hH, _⟩ := s.ob p _ hp
  refine ⟨fun a u e => ?_, fun a u e => ?_, fun a b x y => ?_⟩
  · have z : a ≠ p := fun z => by rw [z, fp] at e; cases e
    rw [L2.upd_ne z]; exact s.fr a u e
  · by_cases z : a = p
    · subst z
      rw [upd_same] at e; cases e
      exact ⟨fp, xs, L2.upd_same, r⟩
    · rw [upd_ne z] at e
      obtain ⟨f, q⟩ := s.ob a u e
      refine ⟨f, ?_⟩
      cases u with
      | lst ts =>
        obtain ⟨zs, h1, h2⟩ := q
        exact ⟨zs, by rw [L2.upd_ne z]; exact h1, h2⟩
      | dct b kvs =>
        obtain ⟨zs, h1, h2⟩ := q
        exact ⟨zs, by rw [L2.upd_ne z]; exact h1, h2⟩
      | deck =>
        obtain ⟨b, c, k, ns, ms, h1, h2, h3, h4, h5, h6, h7, h8, h9, h10, h11, h12, h13⟩ := q
        have zb : b ≠ p := fun q => by rw [q, hp] at h10; cases h10
        have zc : c ≠ p := fun q => by rw [q, hp] at h11; cases h11
        exact ⟨b, c, k, ns, ms, by rw [L2.upd_ne z]; exact h1, by rw [L2.upd_ne zb]; exact h2, by rw [L2.upd_ne zc]; exact h3, h4, h5, h6, h7, h8, h9, by rw [upd_ne zb]; exact h10, by rw [upd_ne zc]; exact h11, h12, h13⟩
  · have za : a ≠ p := fun z => by subst z; rw [upd_same] at x; cases x
    have zb : b ≠ p := fun z => by subst z; rw [upd_same] at y; cases y
    rw [upd_ne za] at x
    rw [upd_ne zb] at y
    exact s.dk a b x y
/-- a new dict -/
theorem Sim.newD (s : Sim D B H F st) {p : Addr} {b0 : Bool} {kvs0 : List (T × T)} {u0 : L2.HO} (hp : H p = none) (r : KvO D F b0 kvs0 u0) : Sim D B (L2.upd H p u0) F (upd st p (.dct b0 kvs0)) := by
  have s1 := s.alloc u0 hp
  have hF := s.noF hp
  have np := s.stNone hp
  refine ⟨s1.fr, fun a u e => ?_, fun a b x y => ?_⟩
  · by_cases z : a = p
    · subst z
      rw [upd_same] at e; cases e
      exact ⟨hF, u0, L2.upd_same, r⟩
    · rw [upd_ne z] at e
      obtain ⟨f, q⟩ := s1.ob a u e
      refine ⟨f, ?_⟩
      cases u with
      | lst ts => exact q
      | dct b kvs => exact q
      | deck =>
        obtain ⟨_, q0⟩ := s.ob a _ e
        obtain ⟨b9, c0, k0, ns0, ms0, g1, g2, g3, _⟩ := q0
        obtain ⟨b, c, k, ns, ms, h1, h2, h3, h4, h5, h6, h7, h8, h9, h10, h11, h12, h13⟩ := q
        have e0 : H a = L2.upd H p u0 a := (L2.upd_ne z).symm
        rw [g1, h1] at e0
        have e1 : b9 = b ∧ c0 = c := by
          simp only [Option.some.injEq, L2.HO.lst.injEq, List.cons.injEq, L2.V.ref.injEq] at e0
          exact ⟨e0.1, e0.2.1⟩
        obtain ⟨rfl, rfl⟩ := e1
        exact ⟨b9, c0, k, ns, ms, h1, h2, h3, h4, h5, h6, h7, h8, h9, by rw [upd_ne (upd_apart hp g2)]; exact h10, by rw [upd_ne (upd_apart hp g3)]; exact h11, h12, h13⟩
  · have za : a ≠ p := fun z => by subst z; rw [upd_same] at x; cases x
    have zb : b ≠ p := fun z => by subst z; rw [upd_same] at y; cases y
    rw [upd_ne za] at x
    rw [upd_ne zb] at y
    exact s.dk a b x y
theorem Sim.setD (s : Sim D B H F st) {p : Addr} {bb : Bool} {us : List (T × T)} {b0 : Bool} {kvs0 : List (T × T)} {u0 : L2.HO} (hp : st p = some (.dct bb us)) (r : KvO D F b0 kvs0 u0) : Sim D B (L2.upd H p u0) F (upd st p (.dct b0 kvs0)) := by
  obtain ⟨fp, ys, hH, _⟩ := s.ob p _ hp
  refine ⟨fun a u e => ?_, fun a u e => ?_, fun a b x y => ?_⟩
  · have z : a ≠ p := fun z => by rw [z, fp] at e; cases e
    rw [L2.upd_ne z]; exact s.fr a u e
  · by_cases z : a = p
    · subst z
      rw [upd_same] at e; cases e
      exact ⟨fp, u0, L2.upd_same, r⟩
    · rw [upd_ne z] at e
      obtain ⟨f, q⟩ := s.ob a u e
      refine ⟨f, ?_⟩
      cases u with
      | lst ts =>
        obtain ⟨zs, h1, h2⟩ := q
        exact ⟨zs, by rw [L2.upd_ne z]; exact h1, h2⟩
      | dct b kvs =>
        obtain ⟨zs, h1, h2⟩ := q
        exact ⟨zs, by rw [L2.upd_ne z]; exact h1, h2⟩
      | deck =>
        obtain ⟨b, c, k, ns, ms, h1, h2, h3, h4, h5, h6, h7, h8, h9, h10, h11, h12, h13⟩ := q
        have zb : b ≠ p := fun q => by rw [q, hp] at h10; cases h10
        have zc : c ≠ p := fun q => by rw [q, hp] at h11; cases h11
        exact ⟨b, c, k, ns, ms, by rw [L2.upd_ne z]; exact h1, by rw [L2.upd_ne zb]; exact h2, by rw [L2.upd_ne zc]; exact h3, h4, h5, h6, h7, h8, h9, by rw [upd_ne zb]; exact h10, by rw [upd_ne zc]; exact h11, h12, h13⟩
  · have za : a ≠ p := fun z => by subst z; rw [upd_same] at x; cases x
    have zb : b ≠ p := fun z => by subst z; rw [upd_same] at y; cases y
    rw [upd_ne za] at x
    rw [upd_ne zb] at y
    exact s.dk a b x y
theorem Sim.lst (s : Sim D B H F st) {a : Addr} {ts : List T} (e : st a = some (.lst ts)) : ∃ xs, H a = some (.lst xs) ∧ RepVs D F ts xs := (s.ob a _ e).2
theorem keep_updL {F : L2.Hp} {p : Addr} {xs : List L2.V} {o : L2.HO} (h : F p = some (.lst xs)) : Keep F (L2.upd F p o) := fun b x e n => by
  by_cases z : b = p
  · subst z; rw [h] at e; cases e; exact absurd rfl (n xs)
  · rw [L2.upd_ne z]; exact e
/-- F without p -/
def cut (F : L2.Hp) (p : Addr) : L2.Hp := fun b => if b = p then none else F b
theorem cut_same {F : L2.Hp} {p : Addr} : cut F p p = none := by simp [cut]
theorem cut_ne {F : L2.Hp} {p b : Addr} (h : b ≠ p) : cut F p b = F b := by simp [cut, h]
theorem keep_cut {F : L2.Hp} {p : Addr} {xs : List L2.V} (h : F p = some (.lst xs)) : Keep F (cut F p) := fun b x e n => by
  by_cases z : b = p
  · subst z; rw [h] at e; cases e; exact absurd rfl (n xs)
  · rw [cut_ne z]; exact e
theorem Sim.stF (s : Sim D B H F st) {p : Addr} {o : L2.HO} (h : F p = some o) : st p = none := by
  cases e : st p with
  | none => rfl
  | some u => rw [(s.ob p u e).1] at h; cases h
/-- a known list changes -/
theorem Sim.setF (s : Sim D B H F st) {p : Addr} {xs ys : List L2.V} (h : F p = some (.lst xs)) : Sim D B (L2.upd H p (.lst ys)) (L2.upd F p (.lst ys)) st := by
  have np := s.stF h
  have sm : Keep F (L2.upd F p (.lst ys)) := keep_updL h
  refine ⟨fun a u e => ?_, fun a u e => ?_, s.dk⟩
  · by_cases z : a = p
    · subst z; rw [L2.upd_same] at e ⊢; exact e
    · rw [L2.upd_ne z] at e ⊢; exact s.fr a u e
  · have za : a ≠ p := fun z => by rw [z, np] at e; cases e
    obtain ⟨f, q⟩ := s.ob a u e
    refine ⟨by rw [L2.upd_ne za]; exact f, ?_⟩
    cases u with
    | lst ts =>
      obtain ⟨xs, h1, h2⟩ := q
      exact ⟨xs, by rw [L2.upd_ne za]; exact h1, h2.keep sm⟩
    | dct b kvs =>
      obtain ⟨xs, h1, h2⟩ := q
      exact ⟨xs, by rw [L2.upd_ne za]; exact h1, h2.keep sm⟩
    | deck =>
      obtain ⟨b, c, k, ns, ms, h1, h2, h3, h4, h5, h6, h7, h8, h9, h10, h11, h12, h13⟩ := q
      have zb : b ≠ p := fun z => by rw [z, h] at h12; cases h12
      have zc : c ≠ p := fun z => by rw [z, h] at h13; cases h13
      exact ⟨b, c, k, ns, ms, by rw [L2.upd_ne za]; exact h1, by rw [L2.upd_ne zb]; exact h2, by rw [L2.upd_ne zc]; exact h3, h4, h5, h6, h7, h8, h9, h10, h11, by rw [L2.upd_ne zb]; exact h12, by rw [L2.upd_ne zc]; exact h13⟩
/-- a known list becomes one that may change -/
theorem Sim.free (s : Sim D B H F st) {p : Addr} {xs : List L2.V} {ts : List T} (h : F p = some (.lst xs)) (r : RepVs D F ts xs) : Sim D B H (cut F p) (upd st p (.lst ts)) := by
  have np := s.stF h
  have sm : Keep F (cut F p) := keep_cut h
  refine ⟨fun a u e => ?_, fun a u e => ?_, fun a b x y => ?_⟩
  · have z : a ≠ p := fun z => by rw [z, cut_same] at e; cases e
    rw [cut_ne z] at e; exact s.fr a u e
  · by_cases z : a = p
    · subst z
      rw [upd_same] at e; cases e
      exact ⟨cut_same, xs, s.fr _ _ h, r.keep sm⟩
    · rw [upd_ne z] at e
      obtain ⟨f, q⟩ := s.ob a u e
      refine ⟨by rw [cut_ne z]; exact f, ?_⟩
      cases u with
      | lst ts =>
        obtain ⟨xs, h1, h2⟩ := q
        exact ⟨xs, h1, h2.keep sm⟩
      | dct b kvs =>
        obtain ⟨xs, h1, h2⟩ := q
        exact ⟨xs, h1, h2.keep sm⟩
      | deck =>
        obtain ⟨b, c, k, ns, ms, h1, h2, h3, h4, h5, h6, h7, h8, h9, h10, h11, h12, h13⟩ := q
        have zb : b ≠ p := fun z => by rw [z, h] at h12; cases h12
        have zc : c ≠ p := fun z => by rw [z, h] at h13; cases h13
        exact ⟨b, c, k, ns, ms, h1, h2, h3, h4, h5, h6, h7, h8, h9, by rw [upd_ne zb]; exact h10, by rw [upd_ne zc]; exact h11, by rw [cut_ne zb]; exact h12, by rw [cut_ne zc]; exact h13⟩
  · have za : a ≠ p := fun z => by subst z; rw [upd_same] at x; cases x
    have zb : b ≠ p := fun z => by subst z; rw [upd_same] at y; cases y
    rw [upd_ne za] at x
    rw [upd_ne zb] at y
    exact s.dk a b x y
theorem same_cut {F0 F : L2.Hp} {p : Addr} (h : L2.Same F0 F) (n : F0 p = none) : L2.Same F0 (cut F p) := fun b x e => by
  rw [cut_ne (fun z => by rw [z, n] at e; cases e)]; exact h b x e
theorem same_updN {F0 F : L2.Hp} {p : Addr} {o : L2.HO} (h : L2.Same F0 F) (n : F0 p = none) : L2.Same F0 (L2.upd F p o) := fun b x e => by
  rw [L2.upd_ne (fun z => by rw [z, n] at e; cases e)]; exact h b x e
theorem Sim.same (s : Sim D B H F st) : L2.Same F H := s.fr
end
end Mo

set_option Elab.async false
set_option linter.all false
set_option maxRecDepth 100000
set_option autoImplicit false
namespace Mo
open PySem PyProof.Rows

/-- the text's own names -/
structure SE where
  fns : List Str
  cons : List Str
  blt : List Str
  dk : List Str := []

def mapO {α β : Type} (f : α → Option β) : List α → Option (List β)
  | [] => some []
  | x :: xs => match f x with
    | some y => match mapO f xs with
      | some ys => some (y :: ys)
      | none => none
    | none => none

def isV (sc : Scope) (x : Str) : Bool := match sc.names.lookup x with
  | some .local => true
  | some .cell => true
  | some .free => true
  | _ => false
def isG (sc : Scope) (x : Str) : Bool := match sc.names.lookup x with
  | some .globalImplicit => true
  | _ => false
def isL (sc : Scope) (x : Str) : Bool := match sc.names.lookup x with
  | some .local => true
  | some .cell => true
  | _ => false
def okN (x : Str) : Bool := !(x == ("__debug__" : Str)) && !(x == ("__classdict__" : Str))
def slot (N : List Str) (x : Str) : Option Nat := N.idxOf? x

def opO : Operator → Option Op
  | .Add => some .add
  | .Sub => some .sub
  | .Mult => some .mul
  | .FloorDiv => some .fdiv
  | .Mod => some .mod
  | .Pow => some .pow
  | _ => none
def coO : CmpOp → Option Co
  | .Eq => some .eq
  | .NotEq => some .ne
  | .Lt => some .lt
  | .LtE => some .le
  | .Gt => some .gt
  | .GtE => some .ge
  | .Is => some .is
  | .IsNot => some .isnot
  | .In => some .isin
  | .NotIn => some .notin
def tyO (x : Str) : Option Ty :=
  if x == ("int" : Str) then some .int else if x == ("bool" : Str) then some .bool else if x == ("str" : Str) then some .str else if x == ("tuple" : Str) then some .tuple else none

inductive BK | bi (f : Bi) | li (f : Li) | mm (f : Bi) (g : Li) | srt | isi | no
  deriving DecidableEq
/-- a built-in by its name -/
def bkO (x : Str) : BK :=
  if x == ("len" : Str) then .mm .len .len
  else if x == ("tuple" : Str) then .li .tuple
  else if x == ("int" : Str) then .bi .int
  else if x == ("isinstance" : Str) then .isi
  else if x == ("max" : Str) then .mm .max2 .max
  else if x == ("min" : Str) then .mm .min2 .min
  else if x == ("sum" : Str) then .li .sum
  else if x == ("all" : Str) then .li .all
  else if x == ("any" : Str) then .li .any
  else if x == ("abs" : Str) then .bi .abs
  else if x == ("repr" : Str) then .bi .repr
  else if x == ("list" : Str) then .li .list
  else if x == ("sorted" : Str) then .srt
  else if x == ("divmod" : Str) then .bi .divmod
  else .no
def meO (x : Str) (n : Nat) : Option Me :=
  if x == ("append" : Str) && n == 1 then some .append
  else if x == ("pop" : Str) && n ≤ 1 then some .pop
  else if x == ("get" : Str) && n == 2 then some .get2
  else none

/-- a target: names as the scope stores them -/
def stripT (N : List Str) (sc : Scope) : Nat → Expr → Option Tg
  | 0, _ => none
  | n + 1, .Name x _ => if isL sc x then (slot N x).map .name else none
  | n + 1, .Tuple es _ _ => (mapO (stripT N sc n) es).map .tup
  | _ + 1, _ => none

def ownO (N : List Str) (scope : Scope) : List (Str × Nat) :=
  scope.names.filterMap fun y => match y.2 with
    | .local => (slot N y.1).map fun i => (y.1, i)
    | .cell => (slot N y.1).map fun i => (y.1, i)
    | _ => none

def isComp : Expr → Bool
  | .ListComp .. => true
  | .List .. => true
  | _ => false

mutual
/-- the places a target fills -/
def slots : Tg → List Nat
  | .name i => [i]
  | .tup ts => slotss ts
def slotss : List Tg → List Nat
  | [] => []
  | t :: ts => slots t ++ slotss ts
end
def nameE (g : SE) (N : List Str) (sc : Scope) (x : Str) : Option X :=
  if okN x then
    if isV sc x then (slot N x).map .var
    else if isG sc x then match g.cons.idxOf? x with
      | some i => some (.glob i)
      | none => (g.fns.idxOf? x).map .fnv
    else none
  else none
def bltN (g : SE) (sc : Scope) (x : Str) : Bool := okN x && isG sc x && g.blt.contains x
def isBI (o : Expr) : Bool := match o with
  | .Call (.Name _ _) [] [] _ => true
  | _ => false
/-- o.items() -/
def itemsE : Expr → Option Expr
  | .Call (.Attribute o m ap) [] [] pos => if m == ("items" : Str) && ap.endLine == pos.line && !isBI o then some o else none
  | _ => none
/-- a built-in called by name -/
def callB (g : SE) (sc : Scope) (rE : Expr → Option X) (rL : Expr → Option L) (x : Str) (es : List Expr) : Option X :=
  match bkO x, es with
  | .bi f, [e] => (mapO rE [e]).map (.bi f)
  | .bi f, [e, e2] => (mapO rE [e, e2]).map (.bi f)
  | .li f, [e] => if isComp e || (match f with | .tuple => true | .list => true | _ => false) then (rL e).map (.li f) else none
  | .mm f l, [e] => if isComp e then (rL e).map (.li l) else (match l with
    | .len => (rE e).map fun x => .bi f [x]
    | _ => none)
  | .mm f l, [e, e2] => (mapO rE [e, e2]).map (.bi f)
  | .srt, [e] => if isComp e then (rL e).map fun l => .new (.srt l) else match itemsE e with
    | some o => (rE o).map fun x => .new (.items x)
    | none => (rE e).map fun x => .new (.srtE x)
  | .isi, [e, .Name t _] => match tyO t, rE e with
    | some ty, some x => if bltN g sc t then some (.isi x ty) else none
    | _, _ => none
  | _, _ => none
def callN (g : SE) (N : List Str) (sc : Scope) (rE : Expr → Option X) (rL : Expr → Option L) (x : Str) (es : List Expr) : Option X :=
  if okN x then
    if isV sc x then (if es.isEmpty then none else match slot N x, mapO rE es with
      | some i, some xs => some (.callv i xs)
      | _, _ => none)
    else if isG sc x then match g.fns.idxOf? x with
      | some i => (mapO rE es).map (.call i)
      | none => if bltN g sc x then callB g sc rE rL x es else none
    else none
  else none
/-- a method called -/
def callM (rE : Expr → Option X) (rL : Expr → Option L) (o : Expr) (m : Str) (ap pos : Pos) (es : List Expr) : Option X :=
  if ap.endLine == pos.line && es.length < 20 && !isBI o then
    if m == ("join" : Str) then match es with
      | [e] => match rE o, rL e with
        | some x, some l => some (.join x l)
        | _, _ => none
      | _ => none
    else match meO m es.length, rE o, mapO rE es with
      | some k, some x, some xs => some (.me k x xs)
      | _, _, _ => none
  else none
def subE (rE : Expr → Option X) (rO : Option Expr → Option (Option X)) (a i : Expr) : Option X :=
  match i with
  | .Slice lo hi st _ => match st with
    | none => match rE a, rO lo, rO hi with
      | some x, some l, some h => some (.slc x l h)
      | _, _, _ => none
    | some (.UnaryOp .USub (.Constant (.int 1) _ _) _) => match lo, hi, rE a with
      | none, none, some x => some (.rev x)
      | _, _, _ => none
    | _ => none
  | i => match rE a, rE i with
    | some x, some y => some (.idx x y)
    | _, _ => none
/-- what a loop goes through -/
def srcR (g : SE) (sc : Scope) (rE : Expr → Option X) (rL : Expr → Option L) (tg e : Expr) : Option Sr :=
  match e with
  | .Call (.Name x _) es [] _ =>
    if bltN g sc x && (x == ("range" : Str) || x == ("enumerate" : Str) || x == ("zip" : Str)) then
      if x == ("range" : Str) then (match es with
        | [_] => (mapO rE es).map .range
        | [_, _] => (mapO rE es).map .range
        | _ => none)
      else match tg with
      | .Tuple _ _ _ =>
        if x == ("enumerate" : Str) then match es with
          | [a] => (rL a).map .enum
          | _ => none
        else (match es with
          | [_, _] => (mapO rL es).map .zip
          | [_, _, _] => (mapO rL es).map .zip
          | _ => none)
      | _ => none
    else (rL e).map .seq
  | .Set _ _ _ => none
  | e => (rL e).map .seq
mutual
def stripE (g : SE) (N : List Str) : Nat → Scope → Expr → Option X
  | 0, _, _ => none
  | n + 1, sc, e => match e with
    | .Constant c _ _ => match c with
      | .int i => some (.int i)
      | .str s => some (.str s.cps.toList)
      | .bool b => some (.bl b)
      | .none => some .non
      | _ => none
    | .Name x _ => nameE g N sc x
    | .BinOp a op b _ => match opO op, stripE g N n sc a, stripE g N n sc b with
      | some o, some x, some y => some (.bin o x y)
      | _, _, _ => none
    | .UnaryOp op a _ => match op, stripE g N n sc a with
      | .Not, some x => some (.not x)
      | .USub, some x => some (.neg x)
      | _, _ => none
    | .BoolOp op vs _ => stripB g N n sc op vs
    | .IfExp c a b _ => match stripE g N n sc c, stripE g N n sc a, stripE g N n sc b with
      | some z, some x, some y => some (.ite z x y)
      | _, _, _ => none
    | .Compare a ops bs _ => match ops, bs with
      | [op], [b] => match coO op, stripE g N n sc a, stripE g N n sc b with
        | some o, some x, some y => some (.cmp o x y)
        | _, _, _ => none
      | [op, op2], [b, c] => match coO op, coO op2, stripE g N n sc a, stripE g N n sc b, stripE g N n sc c with
        | some o, some p, some x, some y, some z => some (.chain o p x y z)
        | _, _, _, _, _ => none
      | _, _ => none
    | .Tuple es _ _ => if es.length ≤ 1000 then (mapO (stripE g N n sc) es).map .tup else none
    | .List es _ => if es.length ≤ 1000 then (mapO (stripE g N n sc) es).map fun xs => .new (.lst xs) else none
    | .ListComp elt gens scope _ => (stripC g N n sc elt gens scope).map .new
    | .Subscript a i _ => subE (stripE g N n sc) (stripO g N n sc) a i
    | .Call f es kw pos => match kw with
      | [] => match f with
        | .Name x _ => callN g N sc (stripE g N n sc) (stripL g N n sc) x es
        | .Attribute o m ap => callM (stripE g N n sc) (stripL g N n sc) o m ap pos es
        | _ => none
      | _ => none
    | _ => none
def stripB (g : SE) (N : List Str) : Nat → Scope → BoolOp → List Expr → Option X
  | 0, _, _, _ => none
  | n + 1, sc, op, [e] => stripE g N n sc e
  | n + 1, sc, op, e :: es => match stripE g N n sc e, stripB g N n sc op es with
    | some x, some y => some (match op with | .And => .and x y | .Or => .or x y)
    | _, _ => none
  | _ + 1, _, _, [] => none
def stripO (g : SE) (N : List Str) : Nat → Scope → Option Expr → Option (Option X)
  | 0, _, _ => none
  | _ + 1, _, none => some none
  | n + 1, sc, some e => (stripE g N n sc e).map some
def stripL (g : SE) (N : List Str) : Nat → Scope → Expr → Option L
  | 0, _, _ => none
  | n + 1, sc, e => match e with
    | .ListComp elt gens scope _ => stripC g N n sc elt gens scope
    | .List es _ => if es.length ≤ 1000 then (mapO (stripE g N n sc) es).map .lst else none
    | e => (stripE g N n sc e).map .ex
def stripC (g : SE) (N : List Str) : Nat → Scope → Expr → List Comprehension → Scope → Option L
  | 0, _, _, _, _ => none
  | n + 1, sc, elt, gens, scope => match gens with
    | [⟨tg, iter, ifs, a⟩] =>
      if a = 0 ∧ L2.blkC N sc scope (ownO N scope) = true then
        match stripR g N n sc tg iter, stripT N scope n tg, mapO (stripE g N n (L2.relS scope sc)) ifs, stripE g N n (L2.relS scope sc) elt with
        | some src, some t, some cs, some x => if cs.length ≤ 1 && (slots t).all (fun i => ((ownO N scope).map (·.2)).contains i) then some (.comp x cs t ((ownO N scope).map (·.2)) src) else none
        | _, _, _, _ => none
      else none
    | _ => none
def stripR (g : SE) (N : List Str) : Nat → Scope → Expr → Expr → Option Sr
  | 0, _, _, _ => none
  | n + 1, sc, tg, e => srcR g sc (stripE g N n sc) (stripL g N n sc) tg e
end

/-- the stores of a, b = x, y -/
def parO (N : List Str) (sc : Scope) : List Expr → Option (List Nat)
  | [] => some []
  | .Name x _ :: es => match sc.names.lookup x, slot N x, parO N sc es with
    | some .local, some i, some is => some (i :: is)
    | _, _, _ => none
  | _ :: _ => none
/-- target = value -/
def isD0 : Expr → Bool
  | .Dict [] [] _ => true
  | _ => false
def asgO (dk : List Str) (N : List Str) (sc : Scope) (n : Nat) (rE : Expr → Option X) (t e : Expr) : Option Sm :=
  match t with
  | .Name y _ => if isL sc y then (if isD0 e then (slot N y).map fun i => .set (.name i) (.dnew (!dk.contains y)) else match slot N y, rE e with
      | some i, some x => some (.set (.name i) x)
      | _, _ => none)
    else none
  | .Tuple ts k tp => match e with
    | .Tuple es _ _ => match ts, es with
      | [.Name x px, .Name y py], [a, b] => match parO N sc ts, mapO rE [a, b] with
        | some [i, j], some xs => if decide (i ≠ j) && !([a, b].all (foldedForSure 8)) && !([a, b].all (constantsAlone 8)) && py.line == px.line then some (.par [i, j] xs) else none
        | _, _ => none
      | _, _ => none
    | e => match stripT N sc n (.Tuple ts k tp), rE e with
      | some t, some x => some (.set t x)
      | _, _ => none
  | .Subscript o i _ => match rE o, rE i, rE e with
    | some x, some y, some z => some (.sub x y z)
    | _, _, _ => none
  | _ => none
mutual
def stripS (g : SE) (N : List Str) (sc : Scope) : Nat → Stmt → Option Sm
  | 0, _ => none
  | n + 1, s => match s with
    | .Return e _ => match e with
      | none => some (.ret none)
      | some e => (stripE g N n sc e).map fun x => .ret (some x)
    | .Assign ts e pos => match ts with
      | [t] => asgO g.dk N sc n (stripE g N n sc) t e
      | _ => none
    | .AugAssign t op e _ => match t with
      | .Name y _ => if isL sc y then match slot N y, opO op, stripE g N n sc e with
        | some i, some o, some x => if (o = .add ∨ o = .sub) ∨ o = .mul then some (.aug i o x) else none
        | _, _, _ => none
        else none
      | _ => none
    | .Expr e _ => if isComp e then none else (stripE g N n sc e).map .ex
    | .If c a b _ => match stripE g N n sc c, stripSs g N sc n a, stripSs g N sc n b with
      | some x, some y, some z => some (.cond x y z)
      | _, _, _ => none
    | .For t i b els _ => match els with
      | [] => match stripT N sc n t, stripR g N n sc t i, stripSs g N sc n b with
        | some x, some y, some z => some (.loop x y z)
        | _, _, _ => none
      | _ => none
    | .While c b els _ => match els with
      | [] => match stripE g N n sc c, stripSs g N sc n b with
        | some x, some y => some (.whl x y)
        | _, _ => none
      | _ => none
    | .Pass _ => some .pass
    | _ => none
def stripSs (g : SE) (N : List Str) (sc : Scope) : Nat → List Stmt → Option (List Sm)
  | 0, _ => none
  | n + 1, ss => match ss with
    | [] => some []
    | s :: ss => match stripS g N sc n s, stripSs g N sc n ss with
      | some x, some xs => some (x :: xs)
      | _, _ => none
end
end Mo

set_option Elab.async false
set_option linter.all false
set_option maxRecDepth 100000
set_option autoImplicit false
namespace Mo
open PySem PyProof.Rows
open L2 (Inv EP RelV Vals OpR UnR CallR VK R2)

/-- what is wanted behind, of the model, where R is wanted of ours -/
def End (D : Wd) (B : Nat) (F : L2.Hp) (R : TK) (Q : VK) : Prop :=
  ∀ t st, R t st → ∀ v H' F', L2.Same F F' → Sim D B H' F' st → RepV D F' t v → Q v H'
def r2 (D : Wd) (w : T → T → St → TK → Prop) : R2 := fun x y H Q =>
  ∃ t u st B F R, RepV D F t x ∧ RepV D F u y ∧ Sim D B H F st ∧ w t u st R ∧ End D B F R Q

variable {D : Wd} {X : L2.Cx}

theorem End.here {B : Nat} {F H : L2.Hp} {R : TK} {Q : VK} {t : T} {st : St} {v : L2.V} (e : End D B F R Q) (r : R t st) (s : Sim D B H F st) (q : RepV D F t v) : Q v H :=
  e t st r v H F (L2.Same.refl F) s q
theorem End.tup {B : Nat} {F H : L2.Hp} {R : TK} {Q : VK} {ts : List T} {st : St} {xs : List L2.V} {p : Addr} (e : End D B F R Q) (r : R (.tup ts) st) (s : Sim D B H F st) (hp : H p = none) (q : RepVs D F ts xs) : Q (.ref p) (L2.upd H p (.tup xs)) :=
  e _ st r _ _ (L2.upd F p (.tup xs)) (same_upd (s.noF hp)) (s.know _ hp) ⟨p, xs, rfl, L2.upd_same, q.mono (same_upd (s.noF hp)) _ _⟩
theorem End.lst {B : Nat} {F H : L2.Hp} {R : TK} {Q : VK} {ts : List T} {st : St} {xs : List L2.V} {p : Addr} (e : End D B F R Q) (r : ∀ p, st p = none → R (.ref p) (upd st p (.lst ts))) (s : Sim D B H F st) (hp : H p = none) (q : RepVs D F ts xs) : Q (.ref p) (L2.upd H p (.lst xs)) :=
  e _ _ (r p (s.stNone hp)) _ _ F (L2.Same.refl F) (s.newL hp q) rfl
theorem Sim.sqL {B : Nat} {H F : L2.Hp} {st : St} {K : PySem.W.Frag} {a : Addr} {ts : List T} (s : Sim D B H F st) (e : st a = some (.lst ts)) : ∃ xs, H a = some (.lst xs) ∧ L2.SqL K H a xs ∧ RepVs D F ts xs := by
  obtain ⟨xs, h, r⟩ := s.lst e
  exact ⟨xs, h, .inl (.inl h), r⟩
theorem Sim.sqT {B : Nat} {H F : L2.Hp} {st : St} {K : PySem.W.Frag} {a : Addr} {xs : List L2.V} (s : Sim D B H F st) (e : F a = some (.tup xs)) : L2.SqT K H a xs := .inl (.inl (s.fr _ _ e))

/-! dicts -/
theorem key_eq {q k : T} {a b : L2.Key} (h : keyV q = some a) (h2 : keyV k = some b) : eqT q k = decide (a = b) := by
  cases q <;> simp only [keyV] at h <;> cases h <;> cases k <;> simp only [keyV] at h2 <;> cases h2
  · simp [eqT]
    rfl
  · simp [eqT]
  · simp [eqT]
  · rename_i x y
    simp only [eqT, Sum.inr.injEq]
    by_cases z : x = y
    · subst z; simp
    · have : ¬ cpsS x = cpsS y := fun q => z (by
        have := congrArg (fun s => s.cps.toList) q
        simpa [cpsS] using this)
      simp [z, this]
theorem keys_eq : ∀ {xs ys : List T} {a b : List L2.Key}, keysV xs = some a → keysV ys = some b → eqTs xs ys = decide (a = b)
  | [], [], a, b, h, h2 => by cases h; cases h2; simp [eqTs]
  | [], y :: ys, a, b, h, h2 => by
    cases h
    simp only [keysV] at h2
    split at h2
    · split at h2
      · cases h2; simp [eqTs]
      · cases h2
    · cases h2
  | x :: xs, [], a, b, h, h2 => by
    cases h2
    simp only [keysV] at h
    split at h
    · split at h
      · cases h; simp [eqTs]
      · cases h
    · cases h
  | x :: xs, y :: ys, a, b, h, h2 => by
    simp only [keysV] at h h2
    split at h
    · rename_i k hk
      split at h
      · rename_i ks hks
        cases h
        split at h2
        · rename_i l hl
          split at h2
          · rename_i ls hls
            cases h2
            simp only [eqTs, key_eq hk hl, keys_eq hks hls, List.cons.injEq, Bool.decide_and]
          · cases h2
        · cases h2
      · cases h
    · cases h
theorem keyT_eq {q k : T} {a b : List L2.Key} (h : keyT q = some a) (h2 : keyT k = some b) : eqT q k = decide (a = b) := by
  cases q <;> simp only [keyT] at h <;> try (cases h; done)
  cases k <;> simp only [keyT] at h2 <;> try (cases h2; done)
  simp only [eqT]
  exact keys_eq h h2
section
variable {κ : Type} [DecidableEq κ] {kf : T → Option κ} (hk : ∀ {q k : T} {a b : κ}, kf q = some a → kf k = some b → eqT q k = decide (a = b))
include hk
def RelO (D : Wd) (F : L2.Hp) : Option T → Option L2.V → Prop
  | none, none => True
  | some t, some v => RepV D F t v
  | _, _ => False
theorem KvR.look {F : L2.Hp} {k : T} {b : κ} (e : kf k = some b) : ∀ {kvs : List (T × T)} {ks : List (κ × L2.V)}, KvR D F kf kvs ks → RelO D F (lookK k kvs) (L2.valV ks b)
  | [], _, r => by rw [show _ = [] from r]; trivial
  | p :: ps, _, r => by
    obtain ⟨q, v, r', rfl, h1, h2, h3⟩ := r
    obtain ⟨p1, p2⟩ := p
    simp only [lookK, hk h1 e]
    by_cases z : q = b
    · rw [L2.valV_pos (p := (q, v)) z, decide_eq_true z]; exact h2
    · rw [L2.valV_neg (p := (q, v)) z, decide_eq_false z]; exact KvR.look e h3
theorem KvR.put {F : L2.Hp} {k t : T} {b : κ} {v : L2.V} (e : kf k = some b) (rv : RepV D F t v) {kvs : List (T × T)} {ks : List (κ × L2.V)} (r : KvR D F kf kvs ks) : KvR D F kf (putK k t kvs) (L2.putK ks b v) := by
  have any : ∀ {kvs : List (T × T)} {ks : List (κ × L2.V)}, KvR D F kf kvs ks → (kvs.any fun p => eqT p.1 k) = ks.any fun p => decide (p.1 = b) := by
    intro kvs
    induction kvs with
    | nil => intro ks r; rw [show ks = [] from r]; rfl
    | cons p ps ih =>
      intro ks r
      obtain ⟨q, v, r', rfl, h1, h2, h3⟩ := r
      simp only [List.any_cons, hk h1 e, ih h3]
  have map : ∀ {kvs : List (T × T)} {ks : List (κ × L2.V)}, KvR D F kf kvs ks → KvR D F kf (kvs.map fun p => if eqT p.1 k = true then (p.1, t) else p) (ks.map fun p => if p.1 = b then (p.1, v) else p) := by
    intro kvs
    induction kvs with
    | nil => intro ks r; rw [show ks = [] from r]; exact rfl
    | cons p ps ih =>
      intro ks r
      obtain ⟨q, u, r', rfl, h1, h2, h3⟩ := r
      rw [List.map_cons, List.map_cons, hk h1 e]
      by_cases z : q = b
      · rw [if_pos (decide_eq_true z), if_pos z]; exact ⟨_, _, _, rfl, h1, rv, ih h3⟩
      · rw [if_neg (by simpa using z), if_neg z]; exact ⟨_, _, _, rfl, h1, h2, ih h3⟩
  have snoc : ∀ {kvs : List (T × T)} {ks : List (κ × L2.V)}, KvR D F kf kvs ks → KvR D F kf (kvs ++ [(k, t)]) (ks ++ [(b, v)]) := by
    intro kvs
    induction kvs with
    | nil => intro ks r; rw [show ks = [] from r]; exact ⟨_, _, _, rfl, e, rv, rfl⟩
    | cons p ps ih =>
      intro ks r
      obtain ⟨q, u, r', rfl, h1, h2, h3⟩ := r
      exact ⟨_, _, _, rfl, h1, h2, ih h3⟩
  unfold putK L2.putK
  rw [any r]
  split
  · exact map r
  · exact snoc r
end
theorem KvR.len {κ : Type} {F : L2.Hp} {kf : T → Option κ} : ∀ {kvs : List (T × T)} {ks : List (κ × L2.V)}, KvR D F kf kvs ks → kvs.length = ks.length
  | [], _, r => by rw [show _ = [] from r]; rfl
  | p :: ps, _, r => by
    obtain ⟨q, v, r', rfl, h1, h2, h3⟩ := r
    rw [List.length_cons, List.length_cons, KvR.len h3]
theorem atom_key {t : T} (h : atomT t = true) : ∃ k, keyV t = some k ∧ ∀ {D : Wd} {F : L2.Hp} {v : L2.V}, RepV D F t v → v = L2.kV k := by
  cases t <;> simp [atomT] at h
  · exact ⟨_, rfl, fun r => r⟩
  · exact ⟨_, rfl, fun r => r⟩
theorem atoms_key : ∀ {ts : List T}, ts.all atomT = true → ∃ ks, keysV ts = some ks ∧ ∀ {D : Wd} {F : L2.Hp} {vs : List L2.V}, RepVs D F ts vs → vs = ks.map L2.kV
  | [], _ => ⟨[], rfl, fun r => r⟩
  | t :: ts, h => by
    simp only [List.all_cons, Bool.and_eq_true] at h
    obtain ⟨k, h1, h2⟩ := atom_key h.1
    obtain ⟨ks, h3, h4⟩ := atoms_key h.2
    refine ⟨k :: ks, by simp only [keysV, h1, h3], fun {D F vs} r => ?_⟩
    obtain ⟨v, ws, rfl, r1, r2⟩ := r
    rw [h2 r1, h4 r2]; rfl
/-- what a dict tells at a key -/
theorem dget_of {B : Nat} {H F : L2.Hp} {st : St} {b : Bool} {kvs : List (T × T)} {a : Addr} {k : T} {y : L2.V} (sm : Sim D B H F st) (e : st a = some (.dct b kvs)) (ok : keyOk b k = true) (rk : RepV D F k y) : ∃ o, L2.DGet H a y o ∧ RelO D F (lookK k kvs) o := by
  obtain ⟨_, u, hu, q⟩ := sm.ob a _ e
  cases b with
  | false =>
    obtain ⟨ks, rfl, r⟩ := q
    obtain ⟨kk, h1, h2⟩ := atom_key ok
    rw [h2 rk]
    exact ⟨_, .k hu, r.look key_eq h1⟩
  | true =>
    obtain ⟨ks, rfl, r⟩ := q
    cases k <;> simp only [keyOk] at ok <;> try (cases ok; done)
    obtain ⟨kk, h1, h2⟩ := atoms_key ok
    obtain ⟨c, xs, rfl, hF, rx⟩ := rk
    rw [h2 rx] at hF
    exact ⟨_, .t hu (sm.fr _ _ hF), r.look keyT_eq (show keyT (.tup _) = _ from h1)⟩
theorem dput_of {B : Nat} {H F : L2.Hp} {st : St} {b : Bool} {kvs : List (T × T)} {a : Addr} {k t : T} {y v : L2.V} (sm : Sim D B H F st) (e : st a = some (.dct b kvs)) (ok : keyOk b k = true) (hl : kvs.length < 1000) (rk : RepV D F k y) (rv : RepV D F t v) :
    ∃ H', L2.DPut H a y v H' ∧ Sim D B H' F (upd st a (.dct b (putK k t kvs))) := by
  obtain ⟨_, u, hu, q⟩ := sm.ob a _ e
  have sz : ∀ {n : Nat}, n = kvs.length → n < sizeLine := fun h => by rw [sizeLine_eq]; omega
  cases b with
  | false =>
    obtain ⟨ks, rfl, r⟩ := q
    obtain ⟨kk, h1, h2⟩ := atom_key ok
    rw [h2 rk]
    exact ⟨_, .k hu (sz r.len.symm), sm.setD e ⟨_, rfl, r.put key_eq h1 rv⟩⟩
  | true =>
    obtain ⟨ks, rfl, r⟩ := q
    cases k <;> simp only [keyOk] at ok <;> try (cases ok; done)
    obtain ⟨kk, h1, h2⟩ := atoms_key ok
    obtain ⟨c, xs, rfl, hF, rx⟩ := rk
    rw [h2 rx] at hF
    exact ⟨_, .t hu (sm.fr _ _ hF) (sz r.len.symm), sm.setD e ⟨_, rfl, r.put keyT_eq (show keyT (.tup _) = _ from h1) rv⟩⟩
theorem RelO.is {D : Wd} {F : L2.Hp} {a : Option T} {b : Option L2.V} (h : RelO D F a b) : b.isSome = a.isSome := by
  cases a <;> cases b <;> first | rfl | exact h.elim
theorem size_eq : SZ = sizeLine := by rw [sizeLine_eq]; rfl

theorem op_same_empty {ts : List T} {F : L2.Hp} {a : Addr} {xs : List L2.V} (h : F a = some (.tup xs)) (r : RepVs D F ts xs) : RepV D F (.tup ts) (.ref a) := ⟨a, xs, rfl, h, r⟩

theorem len_append_sz {D : Wd} {F : L2.Hp} {a b : List T} {xs ys : List L2.V} (r1 : RepVs D F a xs) (r2 : RepVs D F b ys) (h : a.length + b.length ≤ SZ) : xs.length + ys.length ≤ sizeLine := by
  rw [← r1.length, ← r2.length, ← size_eq]; exact h

theorem mulOk_w {i j : Int} (h : MulOk i j) : L2.CMulW i j := L2.wide_mul h.1 h.2 (by decide) (by decide) (by decide)

theorem tuple_mul1 (l : Addr) (items : Array Value) (n : Nat) (dd : Option Addr) (sl : Array (Option Value)) (u : Tok) :
    Meets (Builtin.«tuple.__mul__» ⟨[.ref l, .int 1 u], []⟩) (fun _ R s => s.heap.get? l = some { cls := .type "tuple", dict := dd, data := .seq items n, slots := sl } ∧ R (.ok (.ret (Value.ref l))) s) :=
  .of_wp fun prog w A R s h => by
    obtain ⟨hp, g, d, tk, os⟩ := s
    obtain ⟨hl, h⟩ := h
    have f1 := AutoSeq1.idx_int
    wp_walk using wpAny_loadPart' hl
    repeat (first
      | (refine wpAny_ite_false (by decide) ?_; wp_walk using wpAny_loadPart' hl)
      | (refine wpAny_ite_true (by simp) ?_; wp_walk using wpAny_loadPart' hl))
    exact ⟨_, rfl, h⟩
theorem op_rep1 : OpR X (binaryOp .Mult) (fun x y H Q => ∃ l xs, x = .ref l ∧ y = .int 1 ∧ L2.SqT X.K H l xs ∧ xs ≠ [] ∧ Q (.ref l) H) := by
  intro pins s σ H x y v u Q I rx ry h
  obtain ⟨l, xs, rfl, rfl, hT, hne, q⟩ := h
  cases rx
  obtain ⟨t, rfl⟩ := ry
  obtain ⟨its, r, ⟨⟨cls, dd, data, sl⟩, ho, hc, n, hd⟩, hs⟩ := I.tuple hT
  simp only at hc hd
  subst hc hd
  exact wpAny_binaryOp_repeat_ref (T := "tuple") (U := "int") (by decide) ⟨_, ho, rfl⟩ (fun s' => typeIs_int s' 1 t) L2.noFill_tuple_mul F.fills_int_mul F.slot_int_rmul L2.repeat_tuple F.slot_int_index.lookup
    (call_meets F.slot_int_rmul (typeIs_int s 1 t) F.entry_int_rmul (F.args_int_rmul_2 _ _) (L2.int_rmul_tuple 1 t l its.toArray n dd sl)
      ⟨ho, rfl, ⟨_, ho, rfl⟩, call_meets F.slot_tuple_mul ⟨_, ho, rfl⟩ F.entry_tuple_mul (F.args_tuple_mul_2 _ _) (tuple_mul1 l its.toArray n dd sl t) ⟨ho, ⟨.ref l, H, I, rfl, q⟩⟩⟩)

def opX : Op → Operator
  | .add => .Add
  | .sub => .Sub
  | .mul => .Mult
  | .fdiv => .FloorDiv
  | .mod => .Mod
  | .pow => .Pow
theorem opO_eq {op : Operator} {o : Op} (h : opO op = some o) : op = opX o := by
  cases op <;> simp [opO] at h <;> subst h <;> rfl
/-- 0 and 1 times a tuple are not laid anew; told apart below -/
theorem op_bin (hD : D.K = X.K) (o : Op) : OpR X (binaryOp (opX o)) (r2 D fun x y st Q => binSem o x y st Q) := by
  intro pins s σ H x y v u Q I rx ry h
  obtain ⟨t, t', st, B, F, R, q1, q2, sm, w, en⟩ := h
  unfold binSem at w
  split at w
  · cases q1; cases q2
    exact L2.op_add pins s σ H _ _ v u Q I rx ry ⟨_, _, rfl, rfl, en.here w sm rfl⟩
  · cases q1; cases q2
    exact L2.op_sub pins s σ H _ _ v u Q I rx ry ⟨_, _, rfl, rfl, en.here w sm rfl⟩
  · cases q1; cases q2
    exact L2.op_mulW pins s σ H _ _ v u Q I rx ry ⟨_, _, rfl, rfl, mulOk_w w.1, en.here w.2 sm rfl⟩
  · cases q1; cases q2
    obtain ⟨⟨h0, h1⟩, w⟩ := w
    exact L2.op_fdivW pins s σ H _ _ v u Q I rx ry ⟨_, _, rfl, rfl, L2.wide_div (b := 1000) h0 (by omega) (by decide) (by decide), en.here w sm rfl⟩
  · cases q1; cases q2
    exact L2.op_mod pins s σ H _ _ v u Q I rx ry ⟨_, _, rfl, rfl, w.1, en.here w.2 sm rfl⟩
  · cases q1; cases q2
    obtain ⟨⟨h0, h1, h2⟩, w⟩ := w
    exact L2.op_pow pins s σ H _ _ v u Q I rx ry ⟨_, _, rfl, rfl, ⟨h0, by omega, h2⟩, en.here w sm rfl⟩
  · rename_i a b
    cases q1; cases q2
    obtain ⟨hz, w⟩ := w
    have hl : ∀ s : Sg, (cpsS s).length = s.length := fun s => by simp [cpsS, Str.length]
    refine L2.op_add_str pins s σ H _ _ v u Q I rx ry ⟨_, _, rfl, rfl, by rw [hl, hl, ← size_eq]; exact hz, ?_⟩
    have e : cpsS a ++ cpsS b = cpsS (a ++ b) := by
      show Str.mk _ = Str.mk _
      simp [cpsS]
    rw [e]
    exact en.here w sm rfl
  · obtain ⟨a, xs, rfl, sa, ra⟩ := q1
    obtain ⟨b, ys, rfl, sb, rb⟩ := q2
    obtain ⟨hz, w⟩ := w
    rename_i a' b'
    refine L2.op_catA pins s σ H _ _ v u Q I rx ry ⟨a, b, xs, ys, rfl, rfl, sm.sqT sa, sm.sqT sb, len_append_sz ra rb hz, fun e => ?_, fun _ e => ?_, fun _ _ p hp => en.tup w sm hp (ra.append rb)⟩
    · subst e
      cases a' with
      | nil => exact en.here w sm ⟨b, ys, rfl, sb, rb⟩
      | cons _ _ => have z := ra.length; simp at z
    · subst e
      cases b' with
      | nil => exact en.here w sm ⟨a, xs, rfl, sa, by simpa using ra⟩
      | cons _ _ => have z := rb.length; simp at z
  · rename_i a' j
    obtain ⟨a, xs, rfl, sa, ra⟩ := q1
    cases q2
    obtain ⟨⟨hn, h0, h1, h2⟩, w⟩ := w
    by_cases hj : j = 1
    · subst hj
      have e : rep (Int.toNat 1) a' = a' := by simp [rep]
      rw [e] at w
      exact op_rep1 pins s σ H _ _ v u Q I rx ry ⟨a, xs, rfl, rfl, sm.sqT sa, fun z => hn (by have := ra.length; rw [z] at this; exact List.eq_nil_of_length_eq_zero this), en.here w sm ⟨a, xs, rfl, sa, ra⟩⟩
    · exact L2.op_repT pins s σ H _ _ v u Q I rx ry ⟨a, _, xs, rfl, rfl, sm.sqT sa, fun z => hn (by have := ra.length; rw [z] at this; exact List.eq_nil_of_length_eq_zero this), by omega, h1, by rw [← ra.length]; exact h2, fun p hp => en.tup w sm hp (ra.rep _)⟩
  · cases q1; cases q2
    obtain ⟨xs, ys, e1, e2, hz, w⟩ := w
    obtain ⟨us, h1, _, r1⟩ := sm.sqL (K := X.K) e1
    obtain ⟨ws, h2, _, r2⟩ := sm.sqL (K := X.K) e2
    exact L2.op_cat pins s σ H _ _ v u Q I rx ry ⟨_, _, us, ws, rfl, rfl, h1, h2, len_append_sz r1 r2 hz, fun p hp => en.lst w sm hp (r1.append r2)⟩
  · rename_i j
    cases q1; cases q2
    obtain ⟨xs, e1, ⟨h0, h1, h2⟩, w⟩ := w
    obtain ⟨us, g1, _, r1⟩ := sm.sqL (K := X.K) e1
    refine L2.op_rep pins s σ H _ _ v u Q I rx ry ⟨_, _, us, rfl, rfl, g1, by omega, by omega, ?_, fun p hp => en.lst w sm hp (r1.rep _)⟩
    rw [sizeLine_eq, ← r1.length]
    have : xs.length * j.toNat ≤ 1000 * 1000 := Nat.mul_le_mul h2 (by omega)
    omega
  · exact w.elim
end Mo

set_option Elab.async false
set_option linter.all false
set_option maxRecDepth 100000
set_option autoImplicit false
namespace Mo
open PySem PyProof.Rows
open L2 (Inv EP RelV Vals OpR UnR CallR VK R2)
variable {D : Wd} {X : L2.Cx}

mutual
def toD : T → PyData
  | .non => .none
  | .bl b => .bool b
  | .int i => .int i
  | .str s => .str (cpsS s)
  | .tup ts => .tuple (toDs ts)
  | .lst ts => .list (toDs ts)
  | .dct _ _ _ => .none
  | .ref _ => .none
  | .fn _ => .none
  | .scr => .none
def toDs : List T → List PyData
  | [] => []
  | t :: ts => toD t :: toDs ts
end
mutual
/-- all data -/
def isD : T → Bool
  | .tup ts => isDs ts
  | .lst ts => isDs ts
  | .ref _ => false
  | .fn _ => false
  | .scr => false
  | .dct _ _ _ => false
  | _ => true
def isDs : List T → Bool
  | [] => true
  | t :: ts => isD t && isDs ts
end
theorem cps_inj {x y : Sg} : cpsS x = cpsS y ↔ x = y := by
  constructor
  · intro h
    have := congrArg (fun s => s.cps.toList) h
    simpa [cpsS] using this
  · rintro rfl; rfl
theorem cps_beq (x y : Sg) : (cpsS x == cpsS y) = (x == y) := by
  rw [Bool.eq_iff_iff, beq_iff_eq, beq_iff_eq, cps_inj]
mutual
theorem eqT_eqv : ∀ x y : T, isD x = true → isD y = true → eqT x y = PyData.eqv (toD x) (toD y)
  | .non, y, hx, hy => by cases y <;> first | rfl | simp [isD] at hy
  | .bl a, y, hx, hy => by cases y <;> first | rfl | simp [isD] at hy
  | .int a, y, hx, hy => by cases y <;> first | rfl | simp [isD] at hy
  | .str a, y, hx, hy => by
    cases y with
    | str b => simp [eqT, toD, PyData.eqv, cps_beq]
    | _ => first | rfl | simp [isD] at hy
  | .tup xs, y, hx, hy => by
    cases y with
    | tup ys =>
      simp only [eqT, toD, PyData.eqv]
      exact eqTs_eqv xs ys (by simpa [isD] using hx) (by simpa [isD] using hy)
    | _ => first | rfl | simp [isD] at hy
  | .lst xs, y, hx, hy => by
    cases y with
    | lst ys =>
      simp only [eqT, toD, PyData.eqv]
      exact eqTs_eqv xs ys (by simpa [isD] using hx) (by simpa [isD] using hy)
    | _ => first | rfl | simp [isD] at hy
  | .ref _, _, hx, _ => by simp [isD] at hx
  | .fn _, _, hx, _ => by simp [isD] at hx
  | .scr, _, hx, _ => by simp [isD] at hx
  | .dct _ _ _, _, hx, _ => by simp [isD] at hx
theorem eqTs_eqv : ∀ xs ys : List T, isDs xs = true → isDs ys = true → eqTs xs ys = PyData.eqvAll (toDs xs) (toDs ys)
  | [], [], _, _ => by simp [eqTs, toDs, PyData.eqvAll]
  | [], _ :: _, _, _ => by simp [eqTs, toDs, PyData.eqvAll]
  | _ :: _, [], _, _ => by simp [eqTs, toDs, PyData.eqvAll]
  | x :: xs, y :: ys, hx, hy => by
    simp only [isDs, Bool.and_eq_true] at hx hy
    simp only [eqTs, toDs, PyData.eqvAll]
    rw [eqT_eqv x y hx.1 hy.1, eqTs_eqv xs ys hx.2 hy.2]
end
mutual
theorem dep_toD : ∀ x : T, (toD x).depth = depT x
  | .non => rfl
  | .bl _ => rfl
  | .int _ => rfl
  | .str _ => rfl
  | .tup ts => by simp only [toD, PyData.depth, depT, dep_toDs ts]
  | .lst ts => by simp only [toD, PyData.depth, depT, dep_toDs ts]
  | .ref _ => rfl
  | .fn _ => rfl
  | .scr => rfl
  | .dct _ _ _ => rfl
theorem dep_toDs : ∀ xs : List T, PyData.depthAll (toDs xs) = depTs xs
  | [] => by simp [toDs, PyData.depthAll, depTs]
  | x :: xs => by simp only [toDs, PyData.depthAll, depTs, dep_toD x, dep_toDs xs]
end
mutual
theorem lay_toD : ∀ x : T, chT x = true → (toD x).canLay0 = true
  | .non, _ => rfl
  | .bl _, _ => rfl
  | .int _, _ => rfl
  | .str s, h => by
    simp only [toD, PyData.canLay0]
    simp only [chT, List.all_eq_true, decide_eq_true_eq] at h
    show ((⟨s.toArray⟩ : Str).cps.all fun c => decide (c < 0x110000)) = true
    simp only [List.all_toArray, List.all_eq_true, decide_eq_true_eq]
    exact h
  | .tup ts, h => by simp only [toD, PyData.canLay0]; exact lay_toDs ts (by simpa [chT] using h)
  | .lst ts, h => by simp only [toD, PyData.canLay0]; exact lay_toDs ts (by simpa [chT] using h)
  | .ref _, _ => rfl
  | .fn _, _ => rfl
  | .scr, _ => rfl
  | .dct _ _ _, _ => rfl
theorem lay_toDs : ∀ xs : List T, chTs xs = true → PyData.canLayAll0 (toDs xs) = true
  | [], _ => by simp [toDs, PyData.canLayAll0]
  | x :: xs, h => by
    simp only [chTs, Bool.and_eq_true] at h
    simp only [toDs, PyData.canLayAll0, lay_toD x h.1, lay_toDs xs h.2, Bool.and_self]
end
theorem shaped_of {d : T} (h : okD d = true) : SeqAt.shaped (toD d) = true := by
  simp only [okD, Bool.and_eq_true, decide_eq_true_eq] at h
  simp only [SeqAt.shaped, Bool.and_eq_true, decide_eq_true_eq]
  exact ⟨lay_toD d h.2, by rw [dep_toD]; omega⟩
theorem shaped_list {ds : List T} (h : okDs ds = true) : SeqAt.shaped (.list (toDs ds)) = true ∧ SeqAt.shaped (.tuple (toDs ds)) = true := by
  simp only [okDs, Bool.and_eq_true, decide_eq_true_eq] at h
  have hd := dep_toDs ds
  have h1 : (PyData.list (toDs ds)).depth ≤ 64 := by simp only [PyData.depth]; omega
  have h2 : (PyData.tuple (toDs ds)).depth ≤ 64 := by simp only [PyData.depth]; omega
  simp only [SeqAt.shaped, Bool.and_eq_true, decide_eq_true_eq]
  exact ⟨⟨by simp only [PyData.canLay0]; exact lay_toDs ds h.2, h1⟩, ⟨by simp only [PyData.canLay0]; exact lay_toDs ds h.2, h2⟩⟩
mutual
theorem Dp.isD {st : St} : ∀ {t d : T}, Dp st t d → isD d = true
  | _, _, .non => rfl
  | _, _, .bl _ => rfl
  | _, _, .int _ => rfl
  | _, _, .str _ => rfl
  | _, _, .tup h => by simp only [Mo.isD]; exact h.isDs
  | _, _, .ref _ h => by simp only [Mo.isD]; exact h.isDs
theorem Dps.isDs {st : St} : ∀ {ts ds : List T}, Dps st ts ds → isDs ds = true
  | _, _, .nil => rfl
  | _, _, .cons h1 h2 => by simp only [Mo.isDs, Bool.and_eq_true]; exact ⟨h1.isD, h2.isDs⟩
end
mutual
theorem Dp.to {st : St} {B : Nat} {H F : L2.Hp} {K : PySem.W.Frag} (hK : D.K = K) (sm : Sim D B H F st) : ∀ {t d : T} {v : L2.V}, Dp st t d → RepV D F t v → L2.Dp K H v (toD d)
  | _, _, _, .non, r => by cases r; exact .non
  | _, _, _, .bl b, r => by cases r; exact .bl b
  | _, _, _, .int b, r => by cases r; exact .int b
  | _, _, _, .str b, r => by cases r; exact .str _
  | _, _, _, .tup h, r => by
    obtain ⟨a, xs, rfl, s, q⟩ := r
    simp only [toD]
    exact .tup (sm.sqT s) (Dps.to hK sm h q)
  | _, _, _, .ref e h, r => by
    cases r
    obtain ⟨xs, _, s, q⟩ := sm.sqL (K := K) e
    simp only [toD]
    exact .lst s (Dps.to hK sm h q)
theorem Dps.to {st : St} {B : Nat} {H F : L2.Hp} {K : PySem.W.Frag} (hK : D.K = K) (sm : Sim D B H F st) : ∀ {ts ds : List T} {vs : List L2.V}, Dps st ts ds → RepVs D F ts vs → L2.DpAll K H vs (toDs ds)
  | _, _, _, .nil, r => by rw [show _ = [] from r]; exact .nil
  | _, _, _, .cons h1 h2, r => by
    obtain ⟨v, ws, rfl, r1, r2⟩ := r
    simp only [toDs]
    exact .cons (Dp.to hK sm h1 r1) (Dps.to hK sm h2 r2)
end
theorem any_toDs {d : T} (hd : isD d = true) : ∀ ds : List T, isDs ds = true → (ds.any fun e => eqT e d) = ((toDs ds).any fun z => PyData.eqv z (toD d))
  | [], _ => by simp [toDs]
  | x :: xs, h => by
    simp only [isDs, Bool.and_eq_true] at h
    simp only [toDs, List.any_cons, any_toDs hd xs h.2, eqT_eqv x d h.1 hd]

/-- a comparison: a truth -/
def r2B (D : Wd) (w : T → T → St → (Bool → Prop) → Prop) : R2 := fun x y H Q =>
  ∃ t u st B F R, RepV D F t x ∧ RepV D F u y ∧ Sim D B H F st ∧ w t u st R ∧ ∀ b, R b → Q (.bl b) H
theorem op_eq (hD : D.K = X.K) (hu : X.A.units + 64 < cLine) : OpR X (compareOp .Eq) (r2B D eqSem) := by
  intro pins s σ H x y v u Q I rx ry h
  obtain ⟨t, t', st, B, F, R, q1, q2, sm, ⟨d, e, hd, he, o1, o2, w⟩, en⟩ := h
  refine L2.op_eqD hu pins s σ H _ _ v u Q I rx ry ⟨toD d, toD e, hd.to hD sm q1, he.to hD sm q2, shaped_of o1, shaped_of o2, ?_⟩
  rw [← eqT_eqv d e hd.isD he.isD]
  exact en _ w
theorem op_ne (hD : D.K = X.K) (hu : X.A.units + 64 < cLine) : OpR X (compareOp .NotEq) (r2B D fun x y st Q => eqSem x y st fun b => Q (!b)) := by
  intro pins s σ H x y v u Q I rx ry h
  obtain ⟨t, t', st, B, F, R, q1, q2, sm, ⟨d, e, hd, he, o1, o2, w⟩, en⟩ := h
  refine L2.op_neD hu pins s σ H _ _ v u Q I rx ry ⟨toD d, toD e, hd.to hD sm q1, he.to hD sm q2, shaped_of o1, shaped_of o2, ?_⟩
  rw [← eqT_eqv d e hd.isD he.isD]
  exact en _ w
theorem op_is : OpR X (compareOp .Is) (r2B D fun x y st Q => y = .non ∧ Q (isNon x)) := by
  intro pins s σ H x y v u Q I rx ry h
  obtain ⟨t, t', st, B, F, R, q1, q2, sm, ⟨rfl, w⟩, en⟩ := h
  cases q2
  refine L2.op_isN pins s σ H _ _ v u Q I rx ry ⟨rfl, ?_⟩
  have e : decide (x = .non) = isNon t := by
    cases t with
    | non => cases q1; rfl
    | bl _ => cases q1; rfl
    | int _ => cases q1; rfl
    | str _ => cases q1; rfl
    | tup _ => obtain ⟨_, _, rfl, _⟩ := q1; rfl
    | lst _ => exact q1.elim
    | dct _ _ _ => exact q1.elim
    | ref _ => cases q1; rfl
    | fn _ => cases q1; rfl
    | scr => obtain ⟨_, _, rfl, _⟩ := q1; rfl
  rw [e]; exact en _ w
theorem op_isnot : OpR X (compareOp .IsNot) (r2B D fun x y st Q => y = .non ∧ Q (!isNon x)) := by
  intro pins s σ H x y v u Q I rx ry h
  obtain ⟨t, t', st, B, F, R, q1, q2, sm, ⟨rfl, w⟩, en⟩ := h
  cases q2
  refine L2.op_notN pins s σ H _ _ v u Q I rx ry ⟨rfl, ?_⟩
  have e : (!decide (x = .non)) = (!isNon t) := by
    cases t with
    | non => cases q1; rfl
    | bl _ => cases q1; rfl
    | int _ => cases q1; rfl
    | str _ => cases q1; rfl
    | tup _ => obtain ⟨_, _, rfl, _⟩ := q1; rfl
    | lst _ => exact q1.elim
    | dct _ _ _ => exact q1.elim
    | ref _ => cases q1; rfl
    | fn _ => cases q1; rfl
    | scr => obtain ⟨_, _, rfl, _⟩ := q1; rfl
  rw [e]; exact en _ w
mutual
theorem alk_to : ∀ x y : T, alk x y = true → PySem.W.alike (toD x) (toD y) = true
  | .int _, y, h => by cases y <;> simp [alk] at h; simp [toD, PySem.W.alike]
  | .str _, y, h => by cases y <;> simp [alk] at h; simp [toD, PySem.W.alike]
  | .tup xs, y, h => by
    cases y <;> simp [alk] at h
    simp only [toD, PySem.W.alike]
    exact alks_to _ _ h
  | .non, y, h => by cases y <;> simp [alk] at h
  | .bl _, y, h => by cases y <;> simp [alk] at h
  | .lst _, y, h => by cases y <;> simp [alk] at h
  | .dct _ _ _, y, h => by cases y <;> simp [alk] at h
  | .ref _, y, h => by cases y <;> simp [alk] at h
  | .fn _, y, h => by cases y <;> simp [alk] at h
  | .scr, y, h => by cases y <;> simp [alk] at h
theorem alks_to : ∀ xs ys : List T, alks xs ys = true → PySem.W.alikeAll (toDs xs) (toDs ys) = true
  | [], _, _ => by simp [toDs, PySem.W.alikeAll]
  | _ :: _, [], _ => by simp [toDs, PySem.W.alikeAll]
  | x :: xs, y :: ys, h => by
    simp only [alks, Bool.and_eq_true] at h
    simp only [toDs, PySem.W.alikeAll, alk_to x y h.1, alks_to xs ys h.2, Bool.and_self]
end
mutual
theorem pure_isD : ∀ x : T, pureT x = true → isD x = true
  | .non, _ => rfl
  | .bl _, _ => rfl
  | .int _, _ => rfl
  | .str _, _ => rfl
  | .tup ts, h => by simp only [isD]; exact pures_isD ts (by simpa [pureT] using h)
  | .lst _, h => by simp [pureT] at h
  | .dct _ _ _, h => by simp [pureT] at h
  | .ref _, h => by simp [pureT] at h
  | .fn _, h => by simp [pureT] at h
  | .scr, h => by simp [pureT] at h
theorem pures_isD : ∀ xs : List T, pureTs xs = true → isDs xs = true
  | [], _ => rfl
  | x :: xs, h => by
    simp only [pureTs, Bool.and_eq_true] at h
    simp only [isDs, pure_isD x h.1, pures_isD xs h.2, Bool.and_self]
end
mutual
theorem lt_to : ∀ x y : T, alk x y = true → isD x = true → isD y = true → ltT x y = PySem.W.dataLt (toD x) (toD y)
  | .int _, y, h, _, _ => by cases y <;> simp [alk] at h; simp [toD, ltT, PySem.W.dataLt_int]
  | .str _, y, h, _, _ => by
    cases y <;> simp [alk] at h
    simp only [toD, ltT, PySem.W.dataLt_str]
    rw [Bool.eq_iff_iff]
    exact ⟨fun h => decide_eq_true (by simpa [cpsS] using of_decide_eq_true h), fun h => decide_eq_true (by simpa [cpsS] using of_decide_eq_true h)⟩
  | .tup xs, y, h, hx, hy => by
    cases y <;> simp [alk] at h
    simp only [toD, ltT, PySem.W.dataLt_tuple]
    exact lts_to _ _ h (by simpa [isD] using hx) (by simpa [isD] using hy)
  | .non, y, h, _, _ => by cases y <;> simp [alk] at h
  | .bl _, y, h, _, _ => by cases y <;> simp [alk] at h
  | .lst _, y, h, _, _ => by cases y <;> simp [alk] at h
  | .dct _ _ _, y, h, _, _ => by cases y <;> simp [alk] at h
  | .ref _, y, h, _, _ => by cases y <;> simp [alk] at h
  | .fn _, y, h, _, _ => by cases y <;> simp [alk] at h
  | .scr, y, h, _, _ => by cases y <;> simp [alk] at h
theorem lts_to : ∀ xs ys : List T, alks xs ys = true → isDs xs = true → isDs ys = true → ltTs xs ys = PyProof.Rows.lexLt PyProof.Rows.itemOrd (PySem.W.keyToksAll (toDs xs)) (PySem.W.keyToksAll (toDs ys))
  | [], [], _, _, _ => by simp only [toDs, ltTs, PySem.W.keyToksAll]; exact (PyProof.Rows.lex_irrefl (O := PyProof.Rows.itemOrd) _).symm
  | [], y :: ys, _, _, _ => by
    simp only [toDs, ltTs, PySem.W.keyToksAll]
    exact (PyProof.Rows.lex_diff (O := PyProof.Rows.itemOrd) (x := Sum.inl 0) (y := Sum.inl 1) (by simp)).symm
  | x :: xs, [], _, _, _ => by
    simp only [toDs, ltTs, PySem.W.keyToksAll]
    exact (PyProof.Rows.lex_diff (O := PyProof.Rows.itemOrd) (x := Sum.inl 1) (y := Sum.inl 0) (by simp)).symm
  | x :: xs, y :: ys, h, hx, hy => by
    simp only [alks, Bool.and_eq_true] at h
    simp only [isDs, Bool.and_eq_true] at hx hy
    simp only [toDs, ltTs]
    have al := alk_to x y h.1
    cases e : eqT x y with
    | true =>
      rw [if_pos rfl, PySem.W.dataLt_all_yes al (by rw [← eqT_eqv x y hx.1 hy.1]; exact e)]
      exact lts_to xs ys h.2 hx.2 hy.2
    | false =>
      rw [if_neg Bool.false_ne_true, PySem.W.dataLt_all_no al (by rw [← eqT_eqv x y hx.1 hy.1]; exact e)]
      exact lt_to x y h.1 hx.1 hy.1
end
theorem op_lt (hD : D.K = X.K) (hu : X.A.units + 64 < cLine) : OpR X (compareOp .Lt) (r2B D fun x y st Q => ltSem x y Q) := by
  intro pins s σ H x y v u Q I rx ry h
  obtain ⟨t, t', st, B, F, R, q1, q2, sm, w, en⟩ := h
  unfold ltSem at w
  split at w
  · cases q1; cases q2
    exact L2.op_lt pins s σ H _ _ v u Q I rx ry ⟨_, _, rfl, rfl, en _ w⟩
  · cases q1; cases q2
    refine L2.op_lt_str pins s σ H _ _ v u Q I rx ry ⟨_, _, rfl, rfl, ?_⟩
    simp only [cpsS]
    exact en _ w
  · rename_i xs ys
    obtain ⟨p1, p2, al, o1, o2, w⟩ := w
    have d1 : Mo.Dp st (.tup xs) (.tup xs) := .pure st _ (by simpa [pureT] using p1)
    have d2 : Mo.Dp st (.tup ys) (.tup ys) := .pure st _ (by simpa [pureT] using p2)
    have e1 := d1.to hD sm q1
    have e2 := d2.to hD sm q2
    obtain ⟨as, r1⟩ := L2.Dp.reads I _ _ _ e1 rx
    obtain ⟨bs, r2⟩ := L2.Dp.reads I _ _ _ e2 ry
    have h1 := dep_toDs xs
    have al' : alk (.tup xs) (.tup ys) = true := by simpa [alk] using al
    have i1 : isD (.tup xs) = true := pure_isD _ (by simpa [pureT] using p1)
    have i2 : isD (.tup ys) = true := pure_isD _ (by simpa [pureT] using p2)
    have dp : (toD (.tup xs)).depth ≤ 61 := by
      simp only [okDs, Bool.and_eq_true, decide_eq_true_eq] at o1
      rw [dep_toD]; simp only [depT]; omega
    have key := PySem.W.rcLt_alike (toD (.tup xs)) (toD (.tup ys)) X.A s v u as bs r1 r2 (alk_to _ _ al') (by simp [toD]) (by have := Nat.min_le_left (toD (.tup xs)).depth (toD (.tup ys)).depth; omega)
    refine key X.prog X.w X.xe _ ?_
    rw [← lt_to _ _ al' i1 i2]
    simp only [ltT]
    exact ⟨.bl _, H, I, rfl, en _ w⟩
  · exact w.elim
theorem op_le : OpR X (compareOp .LtE) (r2B D fun x y st Q => leSem x y Q) := by
  intro pins s σ H x y v u Q I rx ry h
  obtain ⟨t, t', st, B, F, R, q1, q2, sm, w, en⟩ := h
  unfold leSem at w
  split at w
  · cases q1; cases q2
    exact L2.op_le pins s σ H _ _ v u Q I rx ry ⟨_, _, rfl, rfl, en _ w⟩
  · cases q1; cases q2
    refine L2.op_le_str pins s σ H _ _ v u Q I rx ry ⟨_, _, rfl, rfl, ?_⟩
    simp only [cpsS]
    exact en _ w
  · exact w.elim
theorem op_gt : OpR X (compareOp .Gt) (r2B D fun x y st Q => gtSem x y Q) := by
  intro pins s σ H x y v u Q I rx ry h
  obtain ⟨t, t', st, B, F, R, q1, q2, sm, w, en⟩ := h
  unfold gtSem at w
  split at w
  · cases q1; cases q2
    exact L2.op_gt pins s σ H _ _ v u Q I rx ry ⟨_, _, rfl, rfl, en _ w⟩
  · exact w.elim
theorem op_ge : OpR X (compareOp .GtE) (r2B D fun x y st Q => geSem x y Q) := by
  intro pins s σ H x y v u Q I rx ry h
  obtain ⟨t, t', st, B, F, R, q1, q2, sm, w, en⟩ := h
  unfold geSem at w
  split at w
  · cases q1; cases q2
    exact L2.op_ge pins s σ H _ _ v u Q I rx ry ⟨_, _, rfl, rfl, en _ w⟩
  · exact w.elim
theorem op_in (hD : D.K = X.K) (hu : X.A.units + 65 < cLine) : OpR X (compareOp .In) (r2B D inSem) := by
  intro pins s σ H x y v u Q I rx ry h
  obtain ⟨t, t', st, B, F, R, q1, q2, sm, w, en⟩ := h
  unfold inSem at w
  split at w
  · rename_i ts
    obtain ⟨d, ds, h1, h2, o1, o2, w⟩ := w
    have e1 := h1.to hD sm q1
    have e2 : L2.Dp X.K H y (.tuple (toDs ds)) := by simpa [toD] using (Mo.Dp.tup h2).to hD sm q2
    obtain ⟨as, r1⟩ := L2.Dp.reads I _ _ _ e1 rx
    obtain ⟨bs, r2⟩ := L2.Dp.reads I _ _ _ e2 ry
    refine SeqAt.in_tuple_reads r2 r1 (SeqAt.canLay_of_shaped (shaped_list o2).2) (SeqAt.canLay_of_shaped (shaped_of o1)) (PyProof.Rows.room_in_shaped (shaped_of o1) hu) ⟨.bl _, H, I, rfl, ?_⟩
    rw [← any_toDs h1.isD ds h2.isDs]
    exact en _ w
  · rcases w with ⟨ts, d, ds, e, h1, h2, o1, o2, w⟩ | ⟨b, kvs, e, ok, w⟩
    · refine L2.op_inD hu pins s σ H _ _ v u Q I rx ry ⟨toD d, toDs ds, h1.to hD sm q1, ?_, shaped_of o1, (shaped_list o2).1, ?_⟩
      · simpa [toD] using (Mo.Dp.ref e h2).to hD sm q2
      · rw [← any_toDs h1.isD ds h2.isDs]
        exact en _ w
    · cases q2
      obtain ⟨o, g, ro⟩ := dget_of sm e ok q1
      cases (show u = Value.ref _ from ry)
      refine L2.d_in (by omega) I g rx fun s' I' => ⟨.bl o.isSome, H, I', rfl, ?_⟩
      rw [ro.is]; exact en _ w
  · rename_i str
    obtain ⟨c, rfl, w⟩ := w
    cases q1; cases q2
    exact L2.op_in_sign pins s σ H _ _ v u Q I rx ry ⟨c, _, rfl, rfl, by rw [show decide (c ∈ (cpsS str).cps.toList) = decide (c ∈ str) from decide_eq_decide.mpr (by simp only [cpsS])]; exact en _ w⟩
  · exact w.elim
theorem op_notin (hD : D.K = X.K) (hu : X.A.units + 65 < cLine) : OpR X (compareOp .NotIn) (r2B D fun x y st Q => inSem x y st fun b => Q (!b)) := by
  intro pins s σ H x y v u Q I rx ry h
  obtain ⟨t, t', st, B, F, R, q1, q2, sm, w, en⟩ := h
  unfold inSem at w
  split at w
  · rename_i ts
    obtain ⟨d, ds, h1, h2, o1, o2, w⟩ := w
    have e1 := h1.to hD sm q1
    have e2 : L2.Dp X.K H y (.tuple (toDs ds)) := by simpa [toD] using (Mo.Dp.tup h2).to hD sm q2
    obtain ⟨as, r1⟩ := L2.Dp.reads I _ _ _ e1 rx
    obtain ⟨bs, r2⟩ := L2.Dp.reads I _ _ _ e2 ry
    refine SeqAt.notIn_tuple_reads r2 r1 (SeqAt.canLay_of_shaped (shaped_list o2).2) (SeqAt.canLay_of_shaped (shaped_of o1)) (PyProof.Rows.room_in_shaped (shaped_of o1) hu) ⟨.bl _, H, I, rfl, ?_⟩
    rw [← any_toDs h1.isD ds h2.isDs]
    exact en _ w
  · rcases w with ⟨ts, d, ds, e, h1, h2, o1, o2, w⟩ | ⟨b, kvs, e, ok, w⟩
    · refine L2.op_notInD hu pins s σ H _ _ v u Q I rx ry ⟨toD d, toDs ds, h1.to hD sm q1, ?_, shaped_of o1, (shaped_list o2).1, ?_⟩
      · simpa [toD] using (Mo.Dp.ref e h2).to hD sm q2
      · rw [← any_toDs h1.isD ds h2.isDs]
        exact en _ w
    · cases q2
      obtain ⟨o, g, ro⟩ := dget_of sm e ok q1
      cases (show u = Value.ref _ from ry)
      refine L2.d_notIn (by omega) I g rx fun s' I' => ⟨.bl (!o.isSome), H, I', rfl, ?_⟩
      rw [ro.is]; exact en _ w
  · rename_i str
    obtain ⟨c, rfl, w⟩ := w
    cases q1; cases q2
    exact L2.op_notIn_sign pins s σ H _ _ v u Q I rx ry ⟨c, _, rfl, rfl, by rw [show decide (c ∈ (cpsS str).cps.toList) = decide (c ∈ str) from decide_eq_decide.mpr (by simp only [cpsS])]; exact en _ w⟩
  · exact w.elim
def coX : Co → CmpOp
  | .eq => .Eq
  | .ne => .NotEq
  | .lt => .Lt
  | .le => .LtE
  | .gt => .Gt
  | .ge => .GtE
  | .is => .Is
  | .isnot => .IsNot
  | .isin => .In
  | .notin => .NotIn
theorem op_cmp (hD : D.K = X.K) (hu : X.A.units + 65 < cLine) : ∀ o : Co, OpR X (compareOp (coX o)) (r2B D (cmpSem o))
  | .eq => op_eq hD (by omega)
  | .ne => op_ne hD (by omega)
  | .lt => op_lt hD (by omega)
  | .le => op_le
  | .gt => op_gt
  | .ge => op_ge
  | .is => op_is
  | .isnot => op_isnot
  | .isin => op_in hD hu
  | .notin => op_notin hD hu
theorem coO_eq {op : CmpOp} {o : Co} (h : coO op = some o) : op = coX o := by
  cases op <;> simp [coO] at h <;> subst h <;> rfl
/-- truth -/
theorem tru_of {t : T} {v : L2.V} {st : St} {B : Nat} {H F : L2.Hp} {Q : Bool → Prop} (hD : D.K = X.K) (r : RepV D F t v) (sm : Sim D B H F st) (w : truSem t st Q) : ∃ k, L2.TruV X.K v H k ∧ Q k := by
  unfold truSem at w
  split at w
  · cases r; exact ⟨_, rfl, w⟩
  · cases r; exact ⟨_, rfl, w⟩
  · cases r; exact ⟨_, rfl, w⟩
  · rename_i s
    cases r
    obtain ⟨sz, w⟩ := w
    refine ⟨_, ⟨?_, rfl⟩, ?_⟩
    · rw [← size_eq]; simpa [cpsS, Str.length] using sz
    · have e : (((cpsS s).length : Int) != 0) = !s.isEmpty := by
        cases s with
        | nil => rfl
        | cons a b => simp [cpsS, Str.length]; omega
      rw [e]; exact w
  · rename_i ts
    obtain ⟨a, xs, rfl, s, q⟩ := r
    refine ⟨_, .inr (.inl ⟨xs, sm.sqT s, rfl⟩), ?_⟩
    have e : xs.isEmpty = ts.isEmpty := by
      have := q.length
      cases xs <;> cases ts <;> simp_all
    rw [e]; exact w
  · rename_i a
    cases r
    obtain ⟨ts, e, w⟩ := w
    · obtain ⟨xs, _, s, q⟩ := sm.sqL (K := X.K) e
      refine ⟨_, .inl ⟨xs, s, rfl⟩, ?_⟩
      have e : xs.isEmpty = ts.isEmpty := by
        have := q.length
        cases xs <;> cases ts <;> simp_all
      rw [e]; exact w
  · exact w.elim
end Mo

set_option Elab.async false
set_option linter.all false
set_option maxRecDepth 100000
set_option autoImplicit false
namespace Mo
open PySem PyProof.Rows
open L2 (Inv EP RelV Vals OpR UnR CallR VK R2)
variable {D : Wd} {X : L2.Cx}

theorem atI_eq {α : Type} (xs : List α) (i : Int) : L2.atI xs i = atT xs i := by
  unfold L2.atI L2.ixN atT
  by_cases h : 0 ≤ i
  · rw [if_pos h, if_pos h]
    by_cases h2 : i < xs.length
    · rw [if_pos h2]; rfl
    · rw [if_neg h2, List.getElem?_eq_none (by omega)]; rfl
  · rw [if_neg h, if_neg h]
    by_cases h2 : -(xs.length : Int) ≤ i
    · rw [if_pos h2, if_pos h2]; rfl
    · rw [if_neg h2, if_neg h2]; rfl
theorem atT_rep {F : L2.Hp} {ts : List T} {xs : List L2.V} {i : Int} {t : T} (r : RepVs D F ts xs) (h : atT ts i = some t) : ∃ v, L2.atI xs i = some v ∧ RepV D F t v := by
  rw [atI_eq]
  unfold atT at h ⊢
  rw [← r.length]
  by_cases h1 : 0 ≤ i
  · rw [if_pos h1] at h ⊢; exact r.get h
  · rw [if_neg h1] at h ⊢
    by_cases h2 : -(ts.length : Int) ≤ i
    · rw [if_pos h2] at h ⊢; exact r.get h
    · rw [if_neg h2] at h; cases h
/-- d[k] -/
theorem ix_dict (hu : X.A.units + 65 < cLine) : L2.IxR X (fun x y H Q => ∃ a v, x = .ref a ∧ L2.DGet H a y (some v) ∧ Q v H) := by
  intro value slice pins s σ H x y v u Q I rx ry h hs
  obtain ⟨a, z, rfl, g, q⟩ := h
  cases (show v = Value.ref a from rx)
  unfold subscriptTail
  refine wpAny_bind ?_
  have hT := L2.dict_typeIs I g
  rw [getitemInPython_of_ne hT.not_modules]
  refine wpAny_bind (wpAny_specialOf hT PySem.F.slot_dict_getitem.lookup ?_)
  have fin : wpAny (model X.prog X.w) X.A (subscripted slice false (.ref a) u) (fun r s₃ => wpAny (model X.prog X.w) X.A (letTemporaryGo value (.ref a) r >>= fun _ => pure r) (EP X pins σ Q) X.xe s₃) X.xe s := by
    rw [hs]
    exact wpAny_operating (L2.d_getItem (by omega) I g ry fun w' s3 I3 rw' => wpAny_bind (wpAny_letTemporaryGo (wpAny_pure ⟨z, H, I3, rw', q⟩)))
  first
    | exact wpAny_pure (wpAny_bind fin)
    | exact wpAny_bind (wpAny_pure (wpAny_bind fin))
    | exact wpAny_bind fin
theorem ix_sem (hu : X.A.units + 65 < cLine) (hD : D.K = X.K) : L2.IxR X (r2 D idxSem) := by
  have base := L2.ix_seq (X := X)
  intro value slice pins s σ H x y v u Q I rx ry h hs
  obtain ⟨t, t', st, B, F, R, q1, q2, sm, w, en⟩ := h
  unfold idxSem at w
  split at w
  · obtain ⟨a, xs, rfl, sa, ra⟩ := q1
    cases q2
    obtain ⟨r, e, w⟩ := w
    obtain ⟨z, e2, rz⟩ := atT_rep ra e
    exact base value slice pins s σ H _ _ v u Q I rx ry (.inr (.inl ⟨a, xs, _, z, rfl, rfl, sm.sqT sa, e2, en.here w sm rz⟩)) hs
  · rename_i str k
    cases q1; cases q2
    obtain ⟨c, e, hz, w⟩ := w
    refine base value slice pins s σ H _ _ v u Q I rx ry (.inr (.inr ⟨_, _, c, rfl, rfl, ?_, ?_, en.here w sm rfl⟩)) hs
    · rw [← size_eq]; simpa [cpsS, Str.length] using hz
    · rw [atI_eq]; simpa [cpsS] using e
  · cases q1
    rcases w with ⟨ts, j, r, rfl, e1, e, w⟩ | ⟨b, kvs, r, e, ok, hl, w⟩
    · cases q2
      obtain ⟨xs, _, sq, ra⟩ := sm.sqL (K := X.K) e1
      obtain ⟨z, e2, rz⟩ := atT_rep ra e
      exact base value slice pins s σ H _ _ v u Q I rx ry (.inl ⟨_, xs, _, z, rfl, rfl, sq, e2, en.here w sm rz⟩) hs
    · obtain ⟨o, g, ro⟩ := dget_of sm e ok q2
      rw [hl] at ro
      cases o with
      | none => exact ro.elim
      | some z => exact ix_dict hu value slice pins s σ H _ _ v u Q I rx ry ⟨_, z, rfl, g, en.here w sm ro⟩ hs
  · exact w.elim
theorem sIx_eq (n d : Nat) (o : Option Int) : HT.sIx n d o = sIx n d o := by
  cases o with
  | none => rfl
  | some v => rfl
theorem cut_rep {F : L2.Hp} {ts : List T} {xs : List L2.V} (r : RepVs D F ts xs) (lo hi : Option Int) : RepVs D F (cutT ts lo hi) (L2.cutV xs lo hi) := by
  unfold cutT L2.cutV
  rw [← r.length, sIx_eq, sIx_eq]
  exact (r.drop _).take _
def rSl (D : Wd) (w : T → Option Int → Option Int → St → TK → Prop) : L2.V → Option Int → Option Int → L2.Hp → VK → Prop := fun x lo hi H Q =>
  ∃ t st B F R, RepV D F t x ∧ Sim D B H F st ∧ w t lo hi st R ∧ End D B F R Q
theorem sl_sem (hD : D.K = X.K) : L2.SlR X (rSl D slcSem) := by
  intro pins s σ H x v vl vu lo hi sl Q I rx hs pl pu h
  obtain ⟨t, st, B, F, R, q1, sm, w, en⟩ := h
  unfold slcSem at w
  split at w
  · rename_i ts
    obtain ⟨a, xs, rfl, sa, ra⟩ := q1
    refine L2.sl_tupA pins s σ H _ v vl vu lo hi sl Q I rx hs pl pu ⟨a, xs, rfl, sm.sqT sa, fun z => ?_, fun _ p hp => en.tup w sm hp (cut_rep ra lo hi)⟩
    have e : cutT ts lo hi = ts := by
      unfold cutT
      rw [sIx_eq, sIx_eq, ← ra.length] at z
      rw [z.1, z.2]
      simp
    rw [e] at w
    exact en.here w sm ⟨a, xs, rfl, sa, ra⟩
  · rename_i str
    cases q1
    obtain ⟨hz, w⟩ := w
    refine L2.sl_str pins s σ H _ v vl vu lo hi sl Q I rx hs pl pu ⟨_, rfl, by rw [← size_eq]; simpa [cpsS, Str.length] using hz, ?_⟩
    have e : L2.cutS (cpsS str) lo hi = cpsS (cutT str lo hi) := by
      unfold L2.cutS cutT cpsS
      simp only [sIx_eq, Str.length, List.size_toArray]
    rw [e]
    exact en.here w sm rfl
  · cases q1
    obtain ⟨ts, e, w⟩ := w
    obtain ⟨xs, _, sq, ra⟩ := sm.sqL (K := X.K) e
    exact L2.sl_list pins s σ H _ v vl vu lo hi sl Q I rx hs pl pu ⟨_, xs, rfl, sq, fun p hp => en.lst w sm hp (cut_rep ra lo hi)⟩
  · exact w.elim
end Mo

set_option Elab.async false
set_option linter.all false
set_option maxRecDepth 100000
set_option autoImplicit false
namespace Mo
open PySem PyProof.Rows
open L2 (Inv EP RelV Vals OpR UnR CallR VK R2)
variable {D : Wd} {X : L2.Cx}

/-- repr's own text of a thing -/
def rpT (d : T) : Sg := (toD d).shown.cps.toList
theorem cps_toList (x : Str) : cpsS x.cps.toList = x := by
  cases x; simp [cpsS]
mutual
theorem showable_of : ∀ d : T, smlT d = true → (toD d).showable = true
  | .non, _ => rfl
  | .bl _, _ => rfl
  | .int i, h => by
    simp only [smlT, decide_eq_true_eq] at h
    simp only [toD, PyData.showable, decide_eq_true_eq]
    exact Nat.lt_of_lt_of_le (PySem.Flt.log2_lt_of (by decide) h) (by decide)
  | .str _, _ => rfl
  | .tup ts, h => by simp only [toD, PyData.showable]; exact showables_of ts (by simpa [smlT] using h)
  | .lst ts, h => by simp only [toD, PyData.showable]; exact showables_of ts (by simpa [smlT] using h)
  | .ref _, _ => rfl
  | .fn _, _ => rfl
  | .scr, _ => rfl
  | .dct _ _ _, _ => rfl
theorem showables_of : ∀ ds : List T, smlTs ds = true → PyData.showableAll (toDs ds) = true
  | [], _ => by simp [toDs, PyData.showableAll]
  | d :: ds, h => by
    simp only [smlTs, Bool.and_eq_true] at h
    simp only [toDs, PyData.showableAll, showable_of d h.1, showables_of ds h.2, Bool.and_self]
end
theorem list_text (ts : List Str) : (listText ts).length ≤ piled ts + 2 := by
  unfold listText
  rw [strLen_append]
  have e1 : ((("]" : String) : Str)).length = 1 := rfl
  have e2 : ((("[" : String) : Str)).length = 1 := rfl
  cases ts with
  | nil => decide
  | cons t r =>
    have h := textFrom_length_pos r 1 (("[" : Str) ++ (if (0 : Nat) > 0 then ", " else "" : String) ++ t) (Nat.succ_pos 0)
    have e : ((("[" : Str) ++ (if (0 : Nat) > 0 then ", " else "" : String) ++ t)).length = 1 + t.length := by
      rw [strLen_append, strLen_append]; rfl
    have e3 : textFrom 0 "[" (t :: r) = textFrom 1 (("[" : Str) ++ (if (0 : Nat) > 0 then ", " else "" : String) ++ t) r := rfl
    rw [e3, h, e, e1, piled_cons]
    omega
mutual
theorem shown_len : ∀ d : T, smlT d = true → chT d = true → (toD d).shown.length ≤ szT d
  | .non, _, _ => by decide
  | .bl b, _, _ => by cases b <;> decide
  | .int i, h, _ => by
    simp only [smlT, decide_eq_true_eq] at h
    have h10 : i.natAbs < 10 ^ 580 := Nat.lt_of_lt_of_le h (by decide)
    have := int_text_length_le10 (by decide) h10
    have e : (toD (.int i)).shown.length = (toString i).length := PySem.ofString_length _
    rw [e]
    show _ ≤ 600
    omega
  | .str s, _, h => by
    simp only [chT, List.all_eq_true, decide_eq_true_eq] at h
    have := StrLaws.reprText_len (cpsS s) (fun c hc => Nat.lt_of_lt_of_le (h c (by simpa [cpsS] using hc)) (by decide))
    have e : (cpsS s).length = s.length := by simp [cpsS, Str.length]
    rw [e] at this
    exact this
  | .tup ts, h, h2 => by
    have h1 := fmt_text (PyData.shownAll (toDs ts))
    have h3 := shown_lens ts (by simpa [smlT] using h) (by simpa [chT] using h2)
    show (tupleText (PyData.shownAll (toDs ts))).length ≤ szTs ts + 2
    omega
  | .lst ts, h, h2 => by
    have h1 := list_text (PyData.shownAll (toDs ts))
    have h3 := shown_lens ts (by simpa [smlT] using h) (by simpa [chT] using h2)
    show (listText (PyData.shownAll (toDs ts))).length ≤ szTs ts + 2
    omega
  | .ref _, _, _ => by show ("None" : Str).length ≤ 5; decide
  | .fn _, _, _ => by show ("None" : Str).length ≤ 5; decide
  | .scr, _, _ => by decide
  | .dct _ _ _, _, _ => by show ("None" : Str).length ≤ 5; decide
theorem shown_lens : ∀ ds : List T, smlTs ds = true → chTs ds = true → piled (PyData.shownAll (toDs ds)) ≤ szTs ds
  | [], _, _ => by simp [toDs, PyData.shownAll, piled]
  | d :: ds, h, h2 => by
    simp only [smlTs, Bool.and_eq_true] at h
    simp only [chTs, Bool.and_eq_true] at h2
    have h3 := shown_len d h.1 h2.1
    have h4 := shown_lens ds h.2 h2.2
    simp only [toDs, PyData.shownAll, piled_cons, szTs]
    omega
end
mutual
theorem noDict_of : ∀ d : T, (toD d).hasDict = false
  | .non => rfl
  | .bl _ => rfl
  | .int _ => rfl
  | .str _ => rfl
  | .tup ts => by simp only [toD, PyData.hasDict]; exact noDicts_of ts
  | .lst ts => by simp only [toD, PyData.hasDict]; exact noDicts_of ts
  | .ref _ => rfl
  | .fn _ => rfl
  | .scr => rfl
  | .dct _ _ _ => rfl
theorem noDicts_of : ∀ ds : List T, PyData.hasDictAll (toDs ds) = false
  | [] => by simp [toDs, PyData.hasDictAll]
  | d :: ds => by simp only [toDs, PyData.hasDictAll, noDict_of d, noDicts_of ds, Bool.or_self]
end
/-- values in, a value out -/
def rV (D : Wd) (w : List T → St → TK → Prop) : List L2.V → L2.Hp → VK → Prop := fun xs H Q =>
  ∃ ts st B F R, RepVs D F ts xs ∧ Sim D B H F st ∧ w ts st R ∧ End D B F R Q
theorem rep1 {F : L2.Hp} {t : T} {xs : List L2.V} (r : RepVs D F [t] xs) : ∃ x, xs = [x] ∧ RepV D F t x := by
  obtain ⟨v, ws, rfl, r1, r2⟩ := r
  exact ⟨v, by rw [show ws = [] from r2], r1⟩
theorem rep2 {F : L2.Hp} {t u : T} {xs : List L2.V} (r : RepVs D F [t, u] xs) : ∃ x y, xs = [x, y] ∧ RepV D F t x ∧ RepV D F u y := by
  obtain ⟨v, ws, rfl, r1, r2⟩ := r
  obtain ⟨y, rfl, r3⟩ := rep1 r2
  exact ⟨v, y, rfl, r1, r3⟩
theorem len_of {t : T} {x : L2.V} {st : St} {B : Nat} {H F : L2.Hp} {R : TK} (hD : D.K = X.K) (sm : Sim D B H F st) (q : RepV D F t x) (w : lenSem t st R) : ∃ n : Nat, L2.LenV X.K x H n ∧ R (.int n) st := by
  cases t with
  | str str =>
    cases q
    obtain ⟨hz, w⟩ := w
    refine ⟨str.length, ⟨?_, ?_⟩, w⟩
    · rw [← size_eq]; simpa [cpsS, Str.length] using hz
    · simp [cpsS, Str.length]
  | tup ts =>
    obtain ⟨a, ys, rfl, sa, ra⟩ := q
    exact ⟨ts.length, .inr ⟨ys, sm.sqT sa, ra.length⟩, w⟩
  | ref a =>
    cases q
    obtain ⟨ts, e, w⟩ := w
    · obtain ⟨ys, _, sq, ra⟩ := sm.sqL (K := X.K) e
      exact ⟨ts.length, .inl ⟨ys, sq, ra.length⟩, w⟩
  | _ => exact w.elim
theorem cr_len (hD : D.K = X.K) : CallR X (.builtin "len") (rV D (biSem rpT .len)) := by
  intro pins s σ H xs us Q I r h
  obtain ⟨ts, st, B, F, R, q, sm, w, en⟩ := h
  unfold biSem at w
  split at w <;> rename_i h1 <;> try (cases h1)
  · obtain ⟨x, rfl, q1⟩ := rep1 q
    obtain ⟨n, hl, w⟩ := len_of hD sm q1 w
    exact L2.call_len pins s σ H _ us Q I r ⟨_, n, rfl, hl, en.here w sm rfl⟩
  · exact w.elim
theorem cr_abs : CallR X (.builtin "abs") (rV D (biSem rpT .abs)) := by
  intro pins s σ H xs us Q I r h
  obtain ⟨ts, st, B, F, R, q, sm, w, en⟩ := h
  unfold biSem at w
  split at w <;> rename_i h1 <;> try (cases h1)
  · obtain ⟨x, rfl, q1⟩ := rep1 q
    cases q1
    exact L2.call_abs pins s σ H _ us Q I r ⟨_, rfl, en.here w sm rfl⟩
  · exact w.elim
theorem cr_int : CallR X (.type "int") (rV D (biSem rpT .int)) := by
  intro pins s σ H xs us Q I r h
  obtain ⟨ts, st, B, F, R, q, sm, w, en⟩ := h
  unfold biSem at w
  split at w <;> rename_i h1 <;> try (cases h1)
  · obtain ⟨x, rfl, q1⟩ := rep1 q
    cases q1
    exact L2.call_int1 pins s σ H _ us Q I r (.inl ⟨_, rfl, en.here w sm rfl⟩)
  · obtain ⟨x, rfl, q1⟩ := rep1 q
    cases q1
    exact L2.call_int1 pins s σ H _ us Q I r (.inr ⟨_, rfl, en.here w sm rfl⟩)
  · exact w.elim
theorem cr_max2 (hc : X.calm = true) : CallR X (.builtin "max") (rV D (biSem rpT .max2)) := by
  intro pins s σ H xs us Q I r h
  obtain ⟨ts, st, B, F, R, q, sm, w, en⟩ := h
  unfold biSem at w
  split at w <;> rename_i h1 <;> try (cases h1)
  · obtain ⟨x, y, rfl, q1, q2⟩ := rep2 q
    cases q1; cases q2
    exact L2.call_max2 hc pins s σ H _ us Q I r ⟨_, _, rfl, en.here w sm rfl⟩
  · exact w.elim
theorem cr_min2 (hc : X.calm = true) : CallR X (.builtin "min") (rV D (biSem rpT .min2)) := by
  intro pins s σ H xs us Q I r h
  obtain ⟨ts, st, B, F, R, q, sm, w, en⟩ := h
  unfold biSem at w
  split at w <;> rename_i h1 <;> try (cases h1)
  · obtain ⟨x, y, rfl, q1, q2⟩ := rep2 q
    cases q1; cases q2
    exact L2.call_min2 hc pins s σ H _ us Q I r ⟨_, _, rfl, en.here w sm rfl⟩
  · exact w.elim
theorem cr_divmod : CallR X (.builtin "divmod") (rV D (biSem rpT .divmod)) := by
  intro pins s σ H xs us Q I r h
  obtain ⟨ts, st, B, F, R, q, sm, w, en⟩ := h
  unfold biSem at w
  split at w <;> rename_i h1 <;> try (cases h1)
  · obtain ⟨x, y, rfl, q1, q2⟩ := rep2 q
    cases q1; cases q2
    exact L2.call_divmod pins s σ H _ us Q I r ⟨_, _, rfl, w.1, fun p hp => en.tup w.2 sm hp ⟨_, _, rfl, rfl, _, _, rfl, rfl, rfl⟩⟩
  · exact w.elim
theorem cr_repr (hD : D.K = X.K) (hg : X.A.guards = some []) (hu : X.A.units + 64 < cLine) : CallR X (.builtin "repr") (rV D (biSem rpT .repr)) := by
  intro pins s σ H xs us Q I r h
  obtain ⟨ts, st, B, F, R, q, sm, w, en⟩ := h
  unfold biSem at w
  split at w <;> rename_i h1 <;> try (cases h1)
  · rename_i t _
    obtain ⟨x, rfl, q1⟩ := rep1 q
    obtain ⟨d, hd, ok, sml, sz, w⟩ := w
    have ok' := ok
    simp only [okD, Bool.and_eq_true, decide_eq_true_eq] at ok'
    have hl := shown_len d sml ok'.2
    have hle : (toD d).shown.length ≤ sizeLine := by rw [← size_eq]; omega
    obtain ⟨u, rfl, ru⟩ := L2.vals1 r
    obtain ⟨as, rd⟩ := L2.Dp.reads I _ _ _ (hd.to hD sm q1) ru
    have fin : ∀ (h' : Heap) (u : Tok) (tk : Nat), (∀ b o, s.heap.get? b = some o → h'.get? b = some o) → EP X pins σ Q (.str (toD d).shown u) { s with heap := h', toks := tk } := fun h' u tk k =>
      ⟨.str (toD d).shown, H, I.kept k, ⟨_, rfl⟩, en.here w sm (by show L2.V.str _ = L2.V.str _; rw [rpT, cps_toList])⟩
    have sh := showable_of d sml
    have dep := dep_toD d
    cases hd with
    | non => cases rd; exact P.repr_of_none (fin s.heap _ _ fun _ _ e => e)
    | bl b => cases rd; exact P.repr_of_bool (fin s.heap _ _ fun _ _ e => e)
    | int i => cases rd; exact P.repr_of_int (by simpa [toD, PyData.showable] using sh) (fin s.heap _ _ fun _ _ e => e)
    | str i => cases rd; exact P.repr_of_str (fin s.heap _ _ fun _ _ e => e) (hsz := hle)
    | tup hh =>
      have rd0 := rd
      simp only [toD] at rd0
      cases rd0 with
      | tuple h1 h2 h3 h4 => exact repr_of_reads' rd sh (PyData.noDict_hsm (noDict_of _)) hg (by omega) (fun _ _ e => e) (fun h' u tk k => fin h' u tk k) (hsz := hle)
    | ref e hh =>
      have rd0 := rd
      simp only [toD] at rd0
      cases rd0 with
      | list h1 h2 h3 h4 => exact repr_of_reads' rd sh (PyData.noDict_hsm (noDict_of _)) hg (by omega) (fun _ _ e => e) (fun h' u tk k => fin h' u tk k) (hsz := hle)
  · exact w.elim
end Mo

set_option Elab.async false
set_option linter.all false
set_option maxRecDepth 100000
set_option autoImplicit false
namespace Mo
open PySem PyProof.Rows PySem.W
open L2 (Inv EP RelV Vals OpR UnR CallR VK R2)
variable {D : Wd} {X : L2.Cx}
def rSrt (D : Wd) : List L2.V → L2.Hp → VK → Prop := fun xs H Q => ∃ a vs ts B F st, xs = [.ref a] ∧ L2.SqL D.K H a vs ∧ RepVs D F ts vs ∧ Sim D B H F st ∧ srtOk ts = true ∧
  ∀ p ws, H p = none → RepVs D F (msort ts) ws → (msort ts).length ≤ SZ → Q (.ref p) (L2.upd H p (.lst ws))
theorem pureTs_mem : ∀ {ts : List T}, pureTs ts = true → ∀ t ∈ ts, pureT t = true
  | [], _, _, h => by cases h
  | x :: xs, h, t, ht => by
    simp only [pureTs, Bool.and_eq_true] at h
    rcases List.mem_cons.mp ht with rfl | ht
    · exact h.1
    · exact pureTs_mem h.2 t ht
theorem depTs_mem : ∀ {ts : List T} {n : Nat}, depTs ts ≤ n → ∀ t ∈ ts, depT t ≤ n
  | [], _, _, _, h => by cases h
  | x :: xs, n, h, t, ht => by
    simp only [depTs] at h
    rcases List.mem_cons.mp ht with rfl | ht
    · omega
    · exact depTs_mem (n := n) (by omega) t ht
/-- in pairs -/
theorem zip_rep {F : L2.Hp} : ∀ {ts : List T} {vs : List L2.V}, RepVs D F ts vs → (∀ p ∈ ts.zip vs, RepV D F p.1 p.2) ∧ (ts.zip vs).map (·.1) = ts ∧ (ts.zip vs).map (·.2) = vs
  | [], _, r => by rw [show _ = [] from r]; simp
  | t :: ts, _, r => by
    obtain ⟨v, ws, rfl, r1, r2⟩ := r
    obtain ⟨h1, h2, h3⟩ := zip_rep r2
    refine ⟨fun p hp => ?_, by simp [h2], by simp [h3]⟩
    rw [List.zip_cons_cons] at hp
    rcases List.mem_cons.mp hp with rfl | hp
    · exact r1
    · exact h1 p hp
theorem rep_of_pairs {F : L2.Hp} : ∀ {ps : List (T × L2.V)}, (∀ p ∈ ps, RepV D F p.1 p.2) → RepVs D F (ps.map (·.1)) (ps.map (·.2))
  | [], _ => rfl
  | p :: ps, h => ⟨p.2, _, rfl, h p (by simp), rep_of_pairs fun q hq => h q (by simp [hq])⟩
theorem vals_each {H : L2.Hp} : ∀ {ts : List T} {vs : List L2.V} {us : List Value}, ts.length = vs.length → Vals vs us → EachIs (fun u (p : T × L2.V) => RelV p.2 u) us (ts.zip vs)
  | [], [], _, _, .nil => .nil
  | t :: ts, v :: vs, _, h, .cons r rs => .cons r (vals_each (H := H) (by simpa using h) rs)
theorem each_vals : ∀ {ps : List (T × L2.V)} {us : List Value}, EachIs (fun u (p : T × L2.V) => RelV p.2 u) us ps → Vals (ps.map (·.2)) us
  | [], _, .nil => .nil
  | p :: ps, _, .cons r rs => .cons r (each_vals rs)
theorem each_reads {pins : List (Addr × Obj)} {s : Shared} {σ : L2.St} {H F : L2.Hp} {st : St} {B : Nat} (hD : D.K = X.K) (I : Inv X pins σ H s) (sm : Sim D B H F st) : ∀ {ts : List T} {vs : List L2.V} {us : List Value}, RepVs D F ts vs → Vals vs us → pureTs ts = true → EachIs (fun u (p : T × L2.V) => ∃ as, Reads s.heap u (toD p.1) as) us (ts.zip vs)
  | [], _, _, r, hv, _ => by
    rw [show _ = [] from r] at hv ⊢
    cases hv
    exact .nil
  | t :: ts, _, _, r, hv, hp => by
    obtain ⟨v, ws, rfl, r1, r2⟩ := r
    cases hv with
    | cons rv rvs =>
      simp only [pureTs, Bool.and_eq_true] at hp
      rw [List.zip_cons_cons]
      exact .cons (L2.Dp.reads I _ _ _ ((Dp.pure st t hp.1).to hD sm r1) rv) (each_reads hD I sm r2 rvs hp.2)
theorem cr_srt (hD : D.K = X.K) (hu : X.A.units + 65 < cLine) : CallR X (.builtin "sorted") (rSrt D) := by
  intro pins s σ H xs us Q I r h
  obtain ⟨a, vs, ts, B, F, st, rfl, hS, ra, sm, ok, q⟩ := h
  obtain ⟨its, rv, hl, hz⟩ := I.list (hD ▸ hS)
  rw [L2.Vals.ref1 r]
  simp only [srtOk, Bool.and_eq_true, List.all_eq_true, Bool.or_eq_true] at ok
  obtain ⟨⟨⟨hp, ho⟩, hal⟩, hk⟩ := ok
  have ho' := ho
  simp only [okDs, Bool.and_eq_true, decide_eq_true_eq] at ho'
  obtain ⟨z1, z2, z3⟩ := zip_rep ra
  have mem1 : ∀ p ∈ ts.zip vs, p.1 ∈ ts := fun p hp => by
    have : p.1 ∈ (ts.zip vs).map (·.1) := List.mem_map.mpr ⟨p, hp, rfl⟩
    rw [z2] at this; exact this
  have al : PySem.W.AllAlike ((ts.zip vs).map fun p => toD p.1) := by
    intro d hd d' hd'
    obtain ⟨p, hp, rfl⟩ := List.mem_map.mp hd
    obtain ⟨p', hp', rfl⟩ := List.mem_map.mp hd'
    exact alk_to _ _ (hal _ (mem1 p hp) _ (mem1 p' hp'))
  have sk : PySem.W.Sortable ((ts.zip vs).map fun p => toD p.1) := by
    rcases hk with hk | hk
    · refine .inl fun d hd => ?_
      obtain ⟨p, hp, rfl⟩ := List.mem_map.mp hd
      have := hk _ (mem1 p hp)
      generalize p.1 = t at this ⊢
      cases t <;> simp [isTup1] at this
      rename_i l
      cases l <;> simp at this
      exact ⟨_, _, rfl⟩
    · refine .inr fun d hd => ?_
      obtain ⟨p, hp, rfl⟩ := List.mem_map.mp hd
      have h1 := hk _ (mem1 p hp)
      have h2 := hal _ (mem1 p hp) _ (mem1 p hp)
      generalize p.1 = t at h1 h2 ⊢
      cases t <;> simp [noTup, alk] at h1 h2 <;> simp [toD]
  have lz : (ts.zip vs).length = ts.length := by rw [List.length_zip, ra.length, Nat.min_self]
  refine PySem.W.sorted_data (R := fun u (p : T × L2.V) => RelV p.2 u) (enc := fun p => toD p.1) hl.isList (vals_each (H := H) ra.length rv) (each_reads hD I sm ra rv hp) al sk (by rw [lz, ra.length]; exact hz) (fun p hp => ?_) fun out hlen he => ?_
  · have h1 := depTs_mem ho'.1 _ (mem1 p hp)
    rw [dep_toD]; omega
  have le_eq : ∀ x ∈ ts.zip vs, ∀ y ∈ ts.zip vs, PySem.W.dataLe false (fun p : T × L2.V => toD p.1) x y = (fun x y => !ltT y x) x.1 y.1 := fun x hx y hy => by
    rw [PySem.W.dataLe_eq]
    show (!PySem.W.dataLt (toD y.1) (toD x.1)) = _
    rw [← lt_to _ _ (hal _ (mem1 y hy) _ (mem1 x hx)) (pure_isD _ (pureTs_mem hp _ (mem1 y hy))) (pure_isD _ (pureTs_mem hp _ (mem1 x hx)))]
  have mt : ((ts.zip vs).mergeSort (PySem.W.dataLe false fun p : T × L2.V => toD p.1)).map (·.1) = msort ts := by
    rw [List.map_mergeSort (s := fun x y => !ltT y x) le_eq, z2]
    rfl
  have rp := rep_of_pairs (D := D) (F := F) (ps := (ts.zip vs).mergeSort (PySem.W.dataLe false fun p : T × L2.V => toD p.1)) fun p hp => z1 p ((List.mergeSort_perm _ _).mem_iff.mp hp)
  rw [mt] at rp
  have hlm : (msort ts).length = ts.length := by unfold msort; exact List.length_mergeSort ..
  obtain ⟨ep, he'⟩ := PyProof.Rows.sortedAll_at s.heap its out.toArray
  have hsz : (((ts.zip vs).mergeSort (PySem.W.dataLe false fun p : T × L2.V => toD p.1)).map (·.2)).length ≤ sizeLine := by
    rw [List.length_map, List.length_mergeSort, lz, ra.length]; exact hz
  exact ⟨.ref _, L2.upd H (s.heap.objs.size + 1) (.lst _), I.laid (t' := s.toks) (fun _ _ => PyProof.Rows.sortedAll_old) (Nat.le_succ _) ⟨hsz, out, ep, each_vals he, he'⟩, rfl,
    q _ _ (I.hok.fresh (Nat.le_succ _)) rp (by rw [hlm, ra.length, size_eq]; exact hz)⟩
end Mo

set_option Elab.async false
set_option linter.all false
set_option maxRecDepth 100000
set_option autoImplicit false
namespace Mo
open PySem PyProof.Rows
open L2 (Inv EP TP AP SP RelV Vals OpR UnR CallR VK R2 PE PT PW PA PO PS PSs Gl Vis Loc)

/-- far above all draws -/
@[irreducible] def BIG : Nat := 2 ^ 300000

theorem End.mono {D : Wd} {B B' : Nat} {F F' : L2.Hp} {R : TK} {Q : VK} (e : End D B F R Q) (h : L2.Same F F') (hb : B = B') : End D B' F' R Q := by
  subst hb
  exact fun t st r v H' F2 f s q => e t st r v H' F2 (h.trans f) s q

def EndB (D : Wd) (B : Nat) (F : L2.Hp) (R : Bool → St → Prop) (Q : Bool → L2.Hp → Prop) : Prop :=
  ∀ b st, R b st → ∀ H' F', L2.Same F F' → Sim D B H' F' st → Q b H'
def EndA (D : Wd) (B n : Nat) (F : L2.Hp) (R : List T → St → Prop) (Q : List L2.V → L2.Hp → Prop) : Prop :=
  ∀ ts st, R ts st → ts.length = n → ∀ vs H' F', L2.Same F F' → Sim D B H' F' st → RepVs D F' ts vs → Q vs H'
def EndO (D : Wd) (B : Nat) (F : L2.Hp) (R : Option Int → St → Prop) (Q : Option Int → L2.Hp → Prop) : Prop :=
  ∀ o st, R o st → ∀ H' F', L2.Same F F' → Sim D B H' F' st → Q o H'

def liftE (D : Wd) (c : Nat) (w : Env → St → TK → Prop) : L2.TE := fun σ H Q =>
  ∃ env st B F R, EnvR D F env σ ∧ Sim D B H F st ∧ B + c ≤ BIG ∧ w env st R ∧ End D (B + c) F R Q
def liftT (D : Wd) (c : Nat) (w : Env → St → (Bool → St → Prop) → Prop) : L2.TT := fun σ H Q =>
  ∃ env st B F R, EnvR D F env σ ∧ Sim D B H F st ∧ B + c ≤ BIG ∧ w env st R ∧ EndB D (B + c) F R Q
def liftA (D : Wd) (c n : Nat) (w : Env → St → (List T → St → Prop) → Prop) : L2.TA := fun σ H Q =>
  ∃ env st B F R, EnvR D F env σ ∧ Sim D B H F st ∧ B + c ≤ BIG ∧ w env st R ∧ EndA D (B + c) n F R Q
def liftO (D : Wd) (c : Nat) (w : Env → St → (Option Int → St → Prop) → Prop) : L2.TO := fun σ H Q =>
  ∃ env st B F R, EnvR D F env σ ∧ Sim D B H F st ∧ B + c ≤ BIG ∧ w env st R ∧ EndO D (B + c) F R Q
section
variable {D : Wd} {c : Nat} {env : Env} {σ : L2.St} {st : St} {B : Nat} {F H : L2.Hp}
theorem lE {w : Env → St → TK → Prop} {R : TK} {Q : VK} (er : EnvR D F env σ) (sm : Sim D B H F st) (hb : B + c ≤ BIG) (h : w env st R)
    (k : ∀ t st1 v H1 F1, R t st1 → L2.Same F F1 → Sim D (B + c) H1 F1 st1 → RepV D F1 t v → EnvR D F1 env σ → Q v H1) : liftE D c w σ H Q :=
  ⟨env, st, B, F, R, er, sm, hb, h, fun t st1 r v H1 F1 f s q => k t st1 v H1 F1 r f s q (er.mono f)⟩
theorem lT {w : Env → St → (Bool → St → Prop) → Prop} {R : Bool → St → Prop} {Q : Bool → L2.Hp → Prop} (er : EnvR D F env σ) (sm : Sim D B H F st) (hb : B + c ≤ BIG) (h : w env st R)
    (k : ∀ b st1 H1 F1, R b st1 → L2.Same F F1 → Sim D (B + c) H1 F1 st1 → EnvR D F1 env σ → Q b H1) : liftT D c w σ H Q :=
  ⟨env, st, B, F, R, er, sm, hb, h, fun t st1 r H1 F1 f s => k t st1 H1 F1 r f s (er.mono f)⟩
theorem lA {n : Nat} {w : Env → St → (List T → St → Prop) → Prop} {R : List T → St → Prop} {Q : List L2.V → L2.Hp → Prop} (er : EnvR D F env σ) (sm : Sim D B H F st) (hb : B + c ≤ BIG) (h : w env st R)
    (k : ∀ ts st1 vs H1 F1, R ts st1 → ts.length = n → L2.Same F F1 → Sim D (B + c) H1 F1 st1 → RepVs D F1 ts vs → EnvR D F1 env σ → Q vs H1) : liftA D c n w σ H Q :=
  ⟨env, st, B, F, R, er, sm, hb, h, fun t st1 r l v H1 F1 f s q => k t st1 v H1 F1 r l f s q (er.mono f)⟩
theorem lO {w : Env → St → (Option Int → St → Prop) → Prop} {R : Option Int → St → Prop} {Q : Option Int → L2.Hp → Prop} (er : EnvR D F env σ) (sm : Sim D B H F st) (hb : B + c ≤ BIG) (h : w env st R)
    (k : ∀ o st1 H1 F1, R o st1 → L2.Same F F1 → Sim D (B + c) H1 F1 st1 → EnvR D F1 env σ → Q o H1) : liftO D c w σ H Q :=
  ⟨env, st, B, F, R, er, sm, hb, h, fun t st1 r H1 F1 f s => k t st1 H1 F1 r f s (er.mono f)⟩
end

/-- a def's promise -/
def spG (D : Wd) (c : Nat) (call : List T → St → EK → TK → Prop) : List L2.V → L2.Hp → VK → Prop := fun vs H Q =>
  ∃ ts st B F R, RepVs D F ts vs ∧ Sim D B H F st ∧ B + c ≤ BIG ∧ call ts st noE R ∧ End D (B + c) F R Q
structure FnG (P : Program) (w : World) (K : PySem.W.Frag) (mg : Str → Option Value) (base : Heap) (k : Nat) (f : Addr) (sp : List L2.V → L2.Hp → VK → Prop) : Prop where
  kp : PySem.W.keepIn K (.ref f) = true
  run : ∀ (A : Around) (outer : List PySem.Env) (s : Shared) (H : L2.Hp) (us : List Value) (vs : List L2.V) (Q : VK), L2.Room k A → A.guards = some [] → L2.Env0 P w K mg base A outer s H → Vals vs us → sp vs H Q →
    codeAny (model P w) A (.call (.ref f) ⟨us, []⟩) (fun r s' => ∃ u, r = .ok (.ret u) ∧ L2.CE outer P w H s Q u s') s

section
variable {X : L2.Cx} {k : Nat} {f : Addr} {sp : List L2.V → L2.Hp → VK → Prop} {x : Str} {e : Expr} {es : List Expr} {t : L2.TA} {p pos : Pos}
theorem FnG.call {pins : List (Addr × Obj)} {σ : L2.St} {H : L2.Hp} {s : Shared} {Q : VK} {us : List Value} {vs : List L2.V} (F : FnG X.prog X.w X.K X.mg X.base k f sp) (hr : L2.Room k X.A) (hg : X.A.guards = some [])
    (I : Inv X pins σ H s) (r : Vals vs us) (h : sp vs H Q) : wpAny (model X.prog X.w) X.A (PySem.call (.ref f) us) (EP X pins σ Q) X.xe s :=
  wpAny_call (codeAny_mono (F.run X.A X.stack s H us vs Q hr hg I.env0 r h) fun r s' hq => by
    obtain ⟨u, rfl, hc⟩ := hq
    exact I.after hc)
def tCallG (sp : List L2.V → L2.Hp → VK → Prop) (t : L2.TA) : L2.TE := fun σ H Q => t σ H fun vs H1 => sp vs H1 Q
theorem pe_callG (F : FnG X.prog X.w X.K X.mg X.base k f sp) (hr : L2.Room k X.A) (hgd : X.A.guards = some []) (hg : Gl X x) (hm : X.mg x = some (.ref f)) (ha : PA X (e :: es) t) (hdb : (x == ("__debug__" : Str)) = false)
    (he : starEach (e :: es) X.env = (false, eval e X.env) :: starEach es X.env) (hpl : (backTo pos (starEach es X.env)).any (·.1) = false) : PE X (.Call (.Name x p) (e :: es) [] pos) (tCallG sp t) := by
  refine ⟨fun pins s σ H Q I h => ?_⟩
  refine wpAny_Call_Name_kw (L2.ld_glob I hg hm ?_ hdb)
  exact PySem.W.callWith_K (h₀ := X.base) I.ok.mod.kin F.kp (L2.thn (ha.run pos pins s σ H _ I h) fun us s1 ⟨vs, H1, I1, r, q⟩ => ⟨I1.kIn, F.call hr hgd I1 r q⟩) he hpl
theorem pe_callG0 (F : FnG X.prog X.w X.K X.mg X.base k f sp) (hr : L2.Room k X.A) (hgd : X.A.guards = some []) (hg : Gl X x) (hm : X.mg x = some (.ref f)) (hdb : (x == ("__debug__" : Str)) = false) :
    PE X (.Call (.Name x p) [] [] pos) (fun σ H Q => sp [] H Q) := by
  refine ⟨fun pins s σ H Q I h => ?_⟩
  refine wpAny_Call_Name_kw (L2.ld_glob I hg hm ?_ hdb)
  exact PySem.W.callWith_K0 I.kIn F.kp (F.call (us := []) hr hgd I .nil h)
/-- the def is in a slot -/
theorem pe_callGL {i : Nat} {S : Addr → (List L2.V → L2.Hp → VK → Prop) → Prop} (F : ∀ f sp, S f sp → FnG X.prog X.w X.K X.mg X.base k f sp) (hr : L2.Room k X.A) (hgd : X.A.guards = some []) (hN : X.N[i]? = some x) (hv : Vis X.env.scope x) (ha : PA X (e :: es) t) (hdb : (x == ("__debug__" : Str)) = false) (hcd : (x == ("__classdict__" : Str)) = false)
    (he : starEach (e :: es) X.env = (false, eval e X.env) :: starEach es X.env) (hpl : (backTo pos (starEach es X.env)).any (·.1) = false) :
    PE X (.Call (.Name x p) (e :: es) [] pos) (fun σ H Q => ∃ f sp, σ[i]? = some (some (.ref f)) ∧ S f sp ∧ t σ H fun vs H1 => sp vs H1 Q) := by
  refine ⟨fun pins s σ H Q I h => ?_⟩
  obtain ⟨f, sp, hs, hS, ht⟩ := h
  refine wpAny_Call_Name_kw (L2.thn ((L2.pe_var (pos := p) hN hv hdb hcd).run pins s σ H (fun v H1 => v = .ref f ∧ H1 = H) I ⟨.ref f, hs, rfl, rfl⟩) fun u s1 ⟨v, H1, I1, r1, q1⟩ => ?_)
  obtain ⟨rfl, rfl⟩ := q1
  cases r1
  exact PySem.W.callWith_K (h₀ := X.base) I.ok.mod.kin (F f sp hS).kp (L2.thn (ha.run pos pins s1 σ _ _ I1 ht) fun us s2 ⟨vs, H2, I2, r, q⟩ => ⟨I2.kIn, (F f sp hS).call hr hgd I2 r q⟩) he hpl
end
end Mo

set_option Elab.async false
set_option linter.all false
set_option maxRecDepth 100000
set_option autoImplicit false
set_option maxHeartbeats 4000000
/-! MoTr: xs[::-1] of a list or of a tuple. -/
namespace Mo
open PySem PySem.Spec PyProof.Rows
section
variable {prog : Program} {w : World} {A : Around} {E : Value → Shared → Prop} {s : Shared}
theorem places_back (n : Nat) : Builtin.Slice.slicePlaces ((n : Int) - 1) (-1) (-1) = n := by
  have h1 : ¬ ((-1 : Int) > 0) := by decide
  simp only [Builtin.Slice.slicePlaces, if_neg h1, Int.neg_neg, Int.ediv_one]
  by_cases h : (n : Int) - 1 > -1
  · rw [if_pos h]; omega
  · rw [if_neg h]; omega
theorem adjust_back (n : Nat) : Builtin.Slice.sliceAdjust none none (-1) (n : Int) = ((n : Int) - 1, -1) := rfl
/-- [::-1]: where it begins, its step, how many -/
theorem applied_back {z : Addr} {vk : Value} {n : Nat} {R : Int × Int × Nat → Shared → Prop} (hz : s.heap.IsSliceOf z .none .none vk) (pk : IsPart vk (some (-1)))
    (q : R ((n : Int) - 1, -1, n) s) : wpAny (model prog w) A (Builtin.Slice.sliceApplied (.ref z) (pure (n : Int))) R E s := by
  obtain ⟨o1, g1, c1, f1⟩ := id hz
  simp only [Builtin.Slice.sliceApplied, Builtin.Slice.sliceFields]
  refine wpAny_bind (wpAny_bind (wpAny_field g1 f1 (x := .none) rfl ?_))
  refine wpAny_bind (wpAny_field g1 f1 (x := .none) rfl ?_)
  refine wpAny_bind (wpAny_field g1 f1 (x := vk) rfl (wpAny_pure ?_))
  refine wpAny_bind (HT.slicePart_ pk ?_)
  show wpAny _ _ (if ((-1 : Int) == 0) = true then _ else _) _ _ s
  rw [if_neg (show ¬ (((-1 : Int) == 0) = true) by decide)]
  refine wpAny_bind (HT.slicePart_ .none (wpAny_bind (HT.slicePart_ .none ?_)))
  refine wpAny_bind (wpAny_pure ?_)
  show wpAny _ _ (match Builtin.Slice.sliceAdjust none none (-1) (n : Int) with | (a, b) => pure (a, (-1 : Int), Builtin.Slice.slicePlaces a b (-1))) _ _ s
  rw [adjust_back]
  show wpAny _ _ (pure ((n : Int) - 1, (-1 : Int), Builtin.Slice.slicePlaces ((n : Int) - 1) (-1) (-1))) _ _ s
  rw [places_back]
  exact wpAny_pure q
theorem fm_congr {α β : Type} {f g : α → Option β} : ∀ {l : List α}, (∀ a ∈ l, f a = g a) → l.filterMap f = l.filterMap g
  | [], _ => rfl
  | a :: l, h => by rw [List.filterMap_cons, List.filterMap_cons, h a (.head _), fm_congr fun b hb => h b (.tail _ hb)]
theorem pick_back (xs : Array Value) : ((List.range xs.size).filterMap fun (m : Nat) => xs[((xs.size : Int) - 1 + (m : Int) * -1).toNat]?).toArray = xs.toList.reverse.toArray := by
  have e : ((List.range xs.size).filterMap fun (m : Nat) => xs[((xs.size : Int) - 1 + (m : Int) * -1).toNat]?) = ((List.range xs.size).map fun k => xs.size - 1 - k).filterMap (xs[·]?) := by
    rw [List.filterMap_map]
    refine fm_congr fun m hm => ?_
    have := List.mem_range.mp hm
    show xs[((xs.size : Int) - 1 + (m : Int) * -1).toNat]? = xs[xs.size - 1 - m]?
    rw [show ((xs.size : Int) - 1 + (m : Int) * -1).toNat = xs.size - 1 - m by omega]
  rw [e, PySem.W.krv_range, List.filterMap_reverse, PySem.W.krv_all]
theorem item_back {t z : Addr} {xs : Array Value} {vk : Value} {R : Value → Shared → Prop} (ht : IsTup s.heap t xs) (hz : s.heap.IsSliceOf z .none .none vk) (pk : IsPart vk (some (-1)))
    (q : R (.ref s.heap.objs.size) { s with heap := s.heap.push { cls := .type "tuple", data := .seq xs.toList.reverse.toArray } }) (hl : xs.size ≤ sizeLine) :
    wpAny (model prog w) A (getItem (.ref t) (.ref z)) R E s := by
  have fits : sizeOk (.seq xs.toList.reverse.toArray) := by
    show xs.toList.reverse.toArray.size ≤ sizeLine
    rw [List.size_toArray, List.length_reverse]; exact hl
  obtain ⟨o1, g1, c1, f1⟩ := id hz
  have isS : s.TypeIs (.ref z) "slice" := ⟨o1, g1, c1⟩
  simp only [getItem]
  try (with_reducible refine wpAny_holding ?_)
  first
    | refine wpAny_bind (wpAny_pure ?_)
    | skip
  refine wpAny_bind (wpAny_sequenceKey ht.typeIs (by decide) (wpAny_bind (wpAny_callSpecial?_slot (name := Str.ofString "__getitem__") ht.typeIs slot_tuple_getitem ?_)))
  refine wpAny_call_entry slot_tuple_getitem ht.typeIs entry_tuple_getitem ?_ (args_tuple_getitem _ _)
  show wpAny _ _ (Builtin.Tuple.tupleItemsOf (.ref t) >>= fun _ => _) _ _ s
  refine wpAny_bind (tupleItemsOf_ ht (wpAny_bind (wpAny_typeOf isS ?_)))
  rw [if_pos (by decide)]
  refine wpAny_bind (applied_back hz pk ?_)
  have no : ¬ ((((xs.size : Int) - 1) == 0 && (-1 : Int) == 1 && xs.size == xs.size) = true) := by
    rw [show (((-1 : Int) == 1)) = false from rfl, Bool.and_false, Bool.false_and]; decide
  show wpAny _ _ (if (((xs.size : Int) - 1) == 0 && (-1 : Int) == 1 && xs.size == xs.size) = true then _ else _) _ _ s
  rw [if_neg no, pick_back]
  refine wpAny_bind (m := Builtin.Tuple.tupleExact _) (wpAny_newObj_type ?_ fits)
  exact wpAny_pure ⟨_, rfl, wpAny_pure q⟩
end
section
open L2 (Inv EP RelV Vals VK SqL SqT PE PO TE)
variable {X : L2.Cx}
/-- xs[::-1]: of a list, of a tuple -/
def tBack (K : PySem.W.Frag) (te : TE) : TE := fun σ H Q => te σ H fun x H1 => ∃ a, x = .ref a ∧
  ((∃ xs, SqL K H1 a xs ∧ ∀ p, H1 p = none → Q (.ref p) (L2.upd H1 p (.lst xs.reverse))) ∨ ∃ xs, SqT K H1 a xs ∧ ∀ p, H1 p = none → Q (.ref p) (L2.upd H1 p (.tup xs.reverse)))
theorem pe_back {e : Expr} {te : TE} {k : Nat} {p1 p2 p3 pos : Pos} (he : PE X e te) : PE X (.Subscript e (.Slice none none (some (.UnaryOp .USub (.Constant (.int 1) k p1) p2)) p3) pos) (tBack X.K te) := by
  constructor
  intro pins s σ H Q I h
  refine Subscript_ (L2.thn (he.run pins s σ H _ I h) ?_)
  rintro v s1 ⟨x, H1, I1, r1, a, rfl, q1⟩
  cases r1
  have minus : PO X (some (.UnaryOp .USub (.Constant (.int 1) k p1) p2)) (L2.tPart (L2.tUn (L2.rU fun i => .int (-i)) (L2.tC (.int 1)))) := L2.po_some (L2.pe_un L2.un_neg L2.pe_int)
  have none1 : ∀ {s : Shared} {H : L2.Hp}, Inv X pins σ H s → _ := fun {s H} I => L2.po_none.run (X := X) pins s σ H (fun o H2 => o = none ∧ H2 = H) I ⟨rfl, rfl⟩
  refine wpAny_Slice (L2.thn (none1 I1) ?_)
  rintro vl s2 ⟨l, H2, I2, pl, rfl, rfl⟩
  refine L2.thn (none1 I2) ?_
  rintro vu s3 ⟨u, H3, I3, pu, rfl, rfl⟩
  refine L2.thn (minus.run pins s3 σ H3 (fun o H4 => o = some (-1) ∧ H4 = H3) I3 ⟨1, rfl, -1, rfl, rfl, rfl⟩) ?_
  rintro vs s4 ⟨o, H4, I4, ps, rfl, rfl⟩
  cases pl
  cases pu
  generalize hs5 : ({ s4 with heap := s4.heap.push { cls := .type "slice", data := .fields #[.none, .none, vs] } } : Shared) = s5
  have I5 : Inv X pins σ H4 s5 := by
    subst hs5
    exact I4.kept (t' := s4.toks) fun _ _ q => Heap.get?_push_of_some _ q
  have sl5 : s5.heap.IsSliceOf s4.heap.objs.size .none .none vs := by
    subst hs5
    exact Heap.IsSliceOf.new _ _ _ _
  show wpAny (model X.prog X.w) X.A (subscriptTail e _ (.ref a) (.ref s4.heap.objs.size)) (EP X pins σ Q) X.xe s5
  rcases q1 with ⟨xs, sq, q⟩ | ⟨xs, sq, q⟩
  · obtain ⟨its, r, il, hz⟩ := I5.list sq
    have hlen := r.length
    refine tail_any (ops := [.ref a, .ref s4.heap.objs.size]) il.isList.typeIs (PySem.slot_list_getitem.lookup) ?_ (by with_unfolding_all rfl)
    refine wpAny_getItem_list_slice il.isList sl5 .none .none ps (by decide) ?_ (by rw [List.size_toArray]; omega)
    rw [PySem.W.krv_pick]
    refine ⟨.ref _, _, I5.laid (t' := s5.toks) (o := .lst xs.reverse) (fun _ _ q => Heap.get?_push_of_some _ q) (Nat.le_refl _) ?_, rfl, ?_⟩
    · exact ⟨by rw [List.length_reverse]; exact hz, _, 0, r.reverse, Heap.get?_push_size _ rfl⟩
    · exact q _ (I5.hok.fresh (Nat.le_refl _))
  · obtain ⟨its, r, it, hz⟩ := I5.tuple sq
    have hlen := r.length
    refine tail_any (ops := [.ref a, .ref s4.heap.objs.size]) it.typeIs (slot_tuple_getitem.lookup) ?_ (by with_unfolding_all rfl)
    refine item_back it sl5 ps ?_ (by rw [List.size_toArray]; omega)
    refine ⟨.ref _, _, I5.laid (t' := s5.toks) (o := .tup xs.reverse) (fun _ _ q => Heap.get?_push_of_some _ q) (Nat.le_refl _) ?_, rfl, ?_⟩
    · exact ⟨by rw [List.length_reverse]; exact hz, _, r.reverse, IsTup.new _ _⟩
    · exact q _ (I5.hok.fresh (Nat.le_refl _))
end
end Mo

set_option Elab.async false
set_option linter.all false
set_option maxRecDepth 100000
set_option autoImplicit false
namespace Mo
open PySem PyProof.Rows
open L2 (Inv EP TP AP SP RelV Vals OpR UnR CallR VK R2 PE PT PW PA PO PS PSs Gl Vis Loc)

/-- all that a def's body knows -/
structure Lv where
  D : Wd
  P : Program
  w : World
  mg : Str → Option Value
  base : Heap
  g : SE
  C : Cxt
  cc : Nat → Nat
  lev : Nat
structure Lv.Ok (V : Lv) : Prop where
  fns : ∀ i x, V.g.fns[i]? = some x → V.mg x = some (.ref (V.D.fa i)) ∧ FnG V.P V.w V.D.K V.mg V.base V.lev (V.D.fa i) (spG V.D (V.cc i) (V.C.call i)) ∧ V.cc i ≤ V.cc 1000000
  nf : V.C.nf = V.g.fns.length
  cons : ∀ i x t, V.g.cons[i]? = some x → V.C.glob i = some t → ∃ u v, V.mg x = some u ∧ RelV v u ∧ RepV V.D (fun _ => none) t v
  blt : ∀ x, V.g.blt.contains x = true → V.mg x = none
  rp : V.C.rp = rpT
structure GX (V : Lv) (Y : L2.Cx) (N : List Str) (sc : Scope) : Prop where
  prog : Y.prog = V.P
  w : Y.w = V.w
  K : V.D.K = Y.K
  mg : Y.mg = V.mg
  base : Y.base = V.base
  nn : Y.N = N
  nd : N.Nodup
  sce : Y.env.scope = sc
  kd : sc.kind = .function
  calm : Y.calm = true
  gd : Y.A.guards = some []
  room : L2.Room V.lev Y.A
  ok : V.Ok

theorem PE.imp {Y : L2.Cx} {e : Expr} {t t' : L2.TE} (h : PE Y e t) (k : ∀ σ H Q, t' σ H Q → t σ H Q) : PE Y e t' := ⟨fun pins s σ H Q I q => h.run pins s σ H Q I (k _ _ _ q)⟩
theorem PT.imp {Y : L2.Cx} {e : Expr} {t t' : L2.TT} (h : PT Y e t) (k : ∀ σ H Q, t' σ H Q → t σ H Q) : PT Y e t' := ⟨fun pins s σ H Q I q => h.run pins s σ H Q I (k _ _ _ q)⟩
theorem PW.imp {Y : L2.Cx} {e : Expr} {t t' : L2.TT} (h : PW Y e t) (k : ∀ σ H Q, t' σ H Q → t σ H Q) : PW Y e t' := ⟨fun wh pins s σ H Q I q => h.run wh pins s σ H Q I (k _ _ _ q)⟩
theorem PA.imp {Y : L2.Cx} {e : List Expr} {t t' : L2.TA} (h : PA Y e t) (k : ∀ σ H Q, t' σ H Q → t σ H Q) : PA Y e t' := ⟨fun p pins s σ H Q I q => h.run p pins s σ H Q I (k _ _ _ q)⟩

abbrev LE (V : Lv) (x : X) : L2.TE := liftE V.D (cE V.cc x) fun env st R => wpE V.C x env st noE R
abbrev LT (V : Lv) (x : X) : L2.TT := liftT V.D (cE V.cc x) fun env st R => wpT V.C x env st noE R
abbrev LA (V : Lv) (xs : List X) : L2.TA := liftA V.D (cEs V.cc xs) xs.length fun env st R => wpEs V.C xs env st noE R
abbrev LO (V : Lv) (x : Option X) : L2.TO := liftO V.D (cO V.cc x) fun env st R => wpO V.C x env st noE R

theorem FnG.at {V : Lv} {Y : L2.Cx} {N : List Str} {sc : Scope} (G : GX V Y N sc) {i : Nat} {x : Str} (h : V.g.fns[i]? = some x) : Y.mg x = some (.ref (V.D.fa i)) ∧ FnG Y.prog Y.w Y.K Y.mg Y.base V.lev (V.D.fa i) (spG V.D (V.cc i) (V.C.call i)) := by
  obtain ⟨h1, h2, _⟩ := G.ok.fns i x h
  rw [G.prog, G.w, ← G.K, G.mg, G.base]
  exact ⟨h1, h2⟩

theorem visOf {sc : Scope} {x : Str} (h : isV sc x = true) : Vis sc x := by
  unfold isV at h
  split at h <;> first | exact .inl (by assumption) | exact .inr (.inl (by assumption)) | exact .inr (.inr (by assumption)) | cases h
theorem globOf {sc : Scope} {x : Str} (h : isG sc x = true) : sc.names.lookup x = some .globalImplicit := by
  unfold isG at h
  split at h <;> first | assumption | cases h
theorem okN1 {x : Str} (h : okN x = true) : (x == ("__debug__" : Str)) = false ∧ (x == ("__classdict__" : Str)) = false := by
  unfold okN at h
  simp only [Bool.and_eq_true, Bool.not_eq_true'] at h
  exact h
theorem slotOf {N : List Str} {x : Str} {i : Nat} (h : slot N x = some i) : N[i]? = some x := by
  unfold slot at h
  exact List.getElem?_eq_some_iff.mpr ⟨(List.idxOf?_eq_some_iff.mp h).1, by
    have := (List.idxOf?_eq_some_iff.mp h).2.1
    simpa using this⟩
theorem mapO_cons {α β : Type} {f : α → Option β} {x : α} {xs : List α} {r : List β} (h : mapO f (x :: xs) = some r) : ∃ y ys, r = y :: ys ∧ f x = some y ∧ mapO f xs = some ys := by
  unfold mapO at h
  split at h
  · rename_i y e
    split at h
    · rename_i ys e2
      cases h
      exact ⟨y, ys, rfl, e, e2⟩
    · cases h
  · cases h
theorem mapO_nil {α β : Type} {f : α → Option β} {r : List β} (h : mapO f [] = some r) : r = [] := by
  cases h; rfl

section
variable {V : Lv} {Y : L2.Cx} {N : List Str} {sc : Scope} (G : GX V Y N sc)
include G
theorem s_var {i : Nat} {y : Str} {pos : Pos} (ho : okN y = true) (hv : isV sc y = true) (hi : slot N y = some i) : PE Y (.Name y pos) (LE V (.var i)) := by
  obtain ⟨d1, d2⟩ := okN1 ho
  refine PE.imp (L2.pe_var (i := i) (by rw [G.nn]; exact slotOf hi) (by rw [G.sce]; exact visOf hv) d1 d2) fun σ H Q h => ?_
  obtain ⟨env, st, B, F, R, er, sm, hb, w, en⟩ := h
  simp only [wpE] at w
  simp only [cE] at hb en
  split at w
  · rename_i v e
    obtain ⟨u, e1, r1⟩ := er.get e
    exact ⟨u, e1, en.here w sm r1⟩
  · exact w.elim
theorem s_cons {i : Nat} {y : Str} {pos : Pos} (ho : okN y = true) (hg : isG sc y = true) (hi : V.g.cons.idxOf? y = some i) : PE Y (.Name y pos) (LE V (.glob i)) := by
  refine ⟨fun pins s σ H Q I h => ?_⟩
  obtain ⟨env, st, B, F, R, er, sm, hb, w, en⟩ := h
  simp only [wpE] at w
  simp only [cE] at hb en
  split at w
  · rename_i t e
    obtain ⟨u, v, h1, h2, h3⟩ := G.ok.cons i y t (slotOf (N := V.g.cons) hi) e
    exact L2.ld_glob I (show Y.env.scope.names.lookup y = _ by rw [G.sce]; exact globOf hg) (by rw [G.mg]; exact h1) ⟨v, H, I, h2, en.here w sm (h3.mono (fun _ _ z => by cases z))⟩ (okN1 ho).1
  · exact w.elim
theorem s_fnv {i : Nat} {y : Str} {pos : Pos} (ho : okN y = true) (hg : isG sc y = true) (hi : V.g.fns.idxOf? y = some i) : PE Y (.Name y pos) (LE V (.fnv i)) := by
  refine PE.imp (L2.pe_glob (v := .ref (V.D.fa i)) (show Y.env.scope.names.lookup y = _ by rw [G.sce]; exact globOf hg) (FnG.at G (slotOf (N := V.g.fns) hi)).1 rfl (okN1 ho).1) fun σ H Q h => ?_
  obtain ⟨env, st, B, F, R, er, sm, hb, w, en⟩ := h
  simp only [wpE] at w
  simp only [cE] at hb en
  exact en.here w sm rfl
variable {a b c : Expr} {x y z : X} {pos : Pos}
theorem s_bin {op : Operator} {o : Op} (ho : opO op = some o) (ha : PE Y a (LE V x)) (hb : PE Y b (LE V y)) : PE Y (.BinOp a op b pos) (LE V (.bin o x y)) := by
  have hop := op_bin (D := V.D) (X := Y) G.K o
  rw [← opO_eq ho] at hop
  refine PE.imp (L2.pe_op hop ha hb) fun σ H Q h => ?_
  obtain ⟨env, st, B, F, R, er, sm, hb, w, en⟩ := h
  simp only [wpE] at w
  simp only [cE] at hb en
  refine lE er sm (by omega) w fun t st1 v H1 F1 r1 f1 sm1 q1 e1 => ?_
  refine lE e1 sm1 (by omega) r1 fun u st2 v2 H2 F2 r2 f2 sm2 q2 e2 => ?_
  exact ⟨t, u, st2, _, F2, R, q1.mono f2, q2, sm2, r2, en.mono (f1.trans f2) (by omega)⟩
theorem s_cmp {op : CmpOp} {o : Co} (ho : coO op = some o) (ha : PE Y a (LE V x)) (hb : PE Y b (LE V y)) (hm : behindInMarks op b = false) : PE Y (.Compare a [op] [b] pos) (LE V (.cmp o x y)) := by
  have hop := op_cmp (D := V.D) (X := Y) G.K (by have := G.room.un; omega) o
  rw [← coO_eq ho] at hop
  refine PE.imp (L2.pe_cmpR hop ha hb hm) fun σ H Q h => ?_
  obtain ⟨env, st, B, F, R, er, sm, hb, w, en⟩ := h
  simp only [wpE] at w
  simp only [cE] at hb en
  refine lE er sm (by omega) w fun t st1 v H1 F1 r1 f1 sm1 q1 e1 => ?_
  refine lE e1 sm1 (by omega) r1 fun u st2 v2 H2 F2 r2 f2 sm2 q2 e2 => ?_
  exact ⟨t, u, st2, _, F2, fun k => R (.bl k) st2, q1.mono f2, q2, sm2, r2, fun k hk => (en.mono (f1.trans f2) (B' := B + cE V.cc x + cE V.cc y) (by omega)).here hk sm2 rfl⟩

omit G in
theorem s_int {i : Int} {j} : PE Y (.Constant (.int i) j pos) (LE V (.int i)) := PE.imp L2.pe_int fun σ H Q h => by
  obtain ⟨env, st, B, F, R, er, sm, hb, w, en⟩ := h
  simp only [wpE] at w
  simp only [cE] at hb en
  exact en.here w sm rfl
omit G in
theorem s_str {s : Str} {j} : PE Y (.Constant (.str s) j pos) (LE V (.str s.cps.toList)) := PE.imp L2.pe_str fun σ H Q h => by
  obtain ⟨env, st, B, F, R, er, sm, hb, w, en⟩ := h
  simp only [wpE] at w
  simp only [cE] at hb en
  exact en.here w sm (by show L2.V.str s = .str (cpsS s.cps.toList); rw [cps_toList])
omit G in
theorem s_bl {b : Bool} {j} : PE Y (.Constant (.bool b) j pos) (LE V (.bl b)) := PE.imp L2.pe_bl fun σ H Q h => by
  obtain ⟨env, st, B, F, R, er, sm, hb, w, en⟩ := h
  simp only [wpE] at w
  simp only [cE] at hb en
  exact en.here w sm rfl
omit G in
theorem s_non {j} : PE Y (.Constant .none j pos) (LE V .non) := PE.imp L2.pe_non fun σ H Q h => by
  obtain ⟨env, st, B, F, R, er, sm, hb, w, en⟩ := h
  simp only [wpE] at w
  simp only [cE] at hb en
  exact en.here w sm rfl
omit G in
theorem s_neg (ha : PE Y a (LE V x)) : PE Y (.UnaryOp .USub a pos) (LE V (.neg x)) := PE.imp (L2.pe_un L2.un_neg ha) fun σ H Q h => by
  obtain ⟨env, st, B, F, R, er, sm, hb, w, en⟩ := h
  simp only [wpE] at w
  simp only [cE] at hb en
  refine lE er sm (by omega) w fun t st1 v H1 F1 r1 f1 sm1 q1 e1 => ?_
  cases t <;> simp only at r1
  cases q1
  exact ⟨_, rfl, (en.mono f1 rfl).here r1 sm1 rfl⟩
theorem s_not (ha : PE Y a (LE V x)) : PE Y (.UnaryOp .Not a pos) (LE V (.not x)) := PE.imp (L2.pe_notT ha) fun σ H Q h => by
  obtain ⟨env, st, B, F, R, er, sm, hb, w, en⟩ := h
  simp only [wpE] at w
  simp only [cE] at hb en
  refine lE er sm (by omega) w fun t st1 v H1 F1 r1 f1 sm1 q1 e1 => ?_
  obtain ⟨k, hk, r2⟩ := tru_of G.K q1 sm1 r1
  exact ⟨k, hk, (en.mono f1 rfl).here r2 sm1 rfl⟩
theorem s_and {rest : List Expr} (ha : PE Y a (LE V x)) (hb : PE Y (.BoolOp .And (b :: rest) pos) (LE V y)) : PE Y (.BoolOp .And (a :: b :: rest) pos) (LE V (.and x y)) := PE.imp (L2.pe_andT ha hb) fun σ H Q h => by
  obtain ⟨env, st, B, F, R, er, sm, hb, w, en⟩ := h
  simp only [wpE] at w
  simp only [cE] at hb en
  refine lE er sm (by omega) w fun t st1 v H1 F1 r1 f1 sm1 q1 e1 => ?_
  obtain ⟨k, hk, r2⟩ := tru_of G.K q1 sm1 r1
  refine ⟨k, hk, ?_⟩
  by_cases z : k = true
  · rw [if_pos z] at r2 ⊢
    exact lE e1 sm1 (by omega) r2 fun u st2 v2 H2 F2 r2 f2 sm2 q2 e2 => (en.mono (f1.trans f2) (by omega)).here r2 sm2 q2
  · rw [if_neg z] at r2 ⊢
    exact (en.mono f1 rfl).here r2 (sm1.more (by omega)) q1
theorem s_or {rest : List Expr} (ha : PE Y a (LE V x)) (hb : PE Y (.BoolOp .Or (b :: rest) pos) (LE V y)) : PE Y (.BoolOp .Or (a :: b :: rest) pos) (LE V (.or x y)) := PE.imp (L2.pe_orT ha hb) fun σ H Q h => by
  obtain ⟨env, st, B, F, R, er, sm, hb, w, en⟩ := h
  simp only [wpE] at w
  simp only [cE] at hb en
  refine lE er sm (by omega) w fun t st1 v H1 F1 r1 f1 sm1 q1 e1 => ?_
  obtain ⟨k, hk, r2⟩ := tru_of G.K q1 sm1 r1
  refine ⟨k, hk, ?_⟩
  by_cases z : k = true
  · rw [if_pos z] at r2 ⊢
    exact (en.mono f1 rfl).here r2 (sm1.more (by omega)) q1
  · rw [if_neg z] at r2 ⊢
    exact lE e1 sm1 (by omega) r2 fun u st2 v2 H2 F2 r2 f2 sm2 q2 e2 => (en.mono (f1.trans f2) (by omega)).here r2 sm2 q2
omit G in
theorem EndB.mono {D : Wd} {B B' : Nat} {F F' : L2.Hp} {R : Bool → St → Prop} {Q : Bool → L2.Hp → Prop} (e : EndB D B F R Q) (h : L2.Same F F') (hb : B = B') : EndB D B' F' R Q := by
  subst hb
  exact fun t st r H' F2 f s => e t st r H' F2 (h.trans f) s
omit G in
theorem EndB.here {D : Wd} {B : Nat} {F H : L2.Hp} {R : Bool → St → Prop} {Q : Bool → L2.Hp → Prop} {b : Bool} {st : St} (e : EndB D B F R Q) (r : R b st) (s : Sim D B H F st) : Q b H := e b st r H F (L2.Same.refl F) s
omit G in
theorem s_ite (hc : PT Y c (LT V z)) (ha : PE Y a (LE V x)) (hb : PE Y b (LE V y)) : PE Y (.IfExp c a b pos) (LE V (.ite z x y)) := PE.imp (L2.pe_ifExp hc ha hb) fun σ H Q h => by
  obtain ⟨env, st, B, F, R, er, sm, hb, w, en⟩ := h
  simp only [wpE] at w
  simp only [cE] at hb en
  refine lT er sm (by omega) w fun t st1 H1 F1 r1 f1 sm1 e1 => ?_
  by_cases z : t = true
  · rw [if_pos z] at r1 ⊢
    exact lE e1 sm1 (by omega) r1 fun u st2 v2 H2 F2 r2 f2 sm2 q2 e2 => (en.mono (f1.trans f2) rfl).here r2 (sm2.more (by omega)) q2
  · rw [if_neg z] at r1 ⊢
    exact lE e1 sm1 (by omega) r1 fun u st2 v2 H2 F2 r2 f2 sm2 q2 e2 => (en.mono (f1.trans f2) rfl).here r2 (sm2.more (by omega)) q2
theorem s_chain {op op2 : CmpOp} {o p : Co} (ho : coO op = some o) (ho2 : coO op2 = some p) (ha : PE Y a (LE V x)) (hb : PE Y b (LE V y)) (hc : PE Y c (LE V z)) (hm : lastMarks [op, op2] [b, c] = false) :
    PE Y (.Compare a [op, op2] [b, c] pos) (LE V (.chain o p x y z)) := by
  have hop := op_cmp (D := V.D) (X := Y) G.K (by have := G.room.un; omega) o
  rw [← coO_eq ho] at hop
  have hop2 := op_cmp (D := V.D) (X := Y) G.K (by have := G.room.un; omega) p
  rw [← coO_eq ho2] at hop2
  refine PE.imp (L2.pe_chain hop hop2 ha hb hc hm) fun σ H Q h => ?_
  obtain ⟨env, st, B, F, R, er, sm, hb, w, en⟩ := h
  simp only [wpE] at w
  simp only [cE] at hb en
  refine lE er sm (by omega) w fun t st1 v H1 F1 r1 f1 sm1 q1 e1 => ?_
  refine lE e1 sm1 (by omega) r1 fun u st2 v2 H2 F2 r2 f2 sm2 q2 e2 => ?_
  refine ⟨t, u, st2, _, F2, _, q1.mono f2, q2, sm2, r2, fun k hk => ⟨k, rfl, ?_⟩⟩
  by_cases z : k = true
  · rw [if_pos z] at hk ⊢
    refine lE e2 sm2 (by omega) hk fun t3 st3 v3 H3 F3 r3 f3 sm3 q3 e3 => ?_
    exact ⟨u, t3, st3, _, F3, fun k => R (.bl k) st3, q2.mono f3, q3, sm3, r3, fun k hk => (en.mono (f1.trans (f2.trans f3)) (B' := B + cE V.cc x + cE V.cc y + cE V.cc _) (by omega)).here hk sm3 rfl⟩
  · rw [if_neg z] at hk ⊢
    exact (en.mono (f1.trans f2) rfl).here hk (sm2.more (by omega)) rfl
/-! tests -/
omit G in
theorem t_not (ha : PT Y a (LT V x)) : PT Y (.UnaryOp .Not a pos) (LT V (.not x)) := PT.imp (L2.pt_not ha) fun σ H Q h => by
  obtain ⟨env, st, B, F, R, er, sm, hb, w, en⟩ := h
  simp only [wpT] at w
  simp only [cE] at hb en
  exact lT er sm (by omega) w fun t st1 H1 F1 r1 f1 sm1 e1 => (en.mono f1 rfl).here r1 sm1
omit G in
theorem w_and {rest : List Expr} (ha : PT Y a (LT V x)) (hb : PW Y (.BoolOp .And (b :: rest) pos) (LT V y)) : PW Y (.BoolOp .And (a :: b :: rest) pos) (LT V (.and x y)) := PW.imp (L2.pw_and ha hb) fun σ H Q h => by
  obtain ⟨env, st, B, F, R, er, sm, hb, w, en⟩ := h
  simp only [wpT] at w
  simp only [cE] at hb en
  refine lT er sm (by omega) w fun t st1 H1 F1 r1 f1 sm1 e1 => ?_
  by_cases z : t = true
  · rw [if_pos z] at r1 ⊢
    exact lT e1 sm1 (by omega) r1 fun t st2 H2 F2 r2 f2 sm2 e2 => (en.mono (f1.trans f2) (by omega)).here r2 sm2
  · rw [if_neg z] at r1 ⊢
    exact (en.mono f1 rfl).here r1 (sm1.more (by omega))
omit G in
theorem w_or {rest : List Expr} (ha : PT Y a (LT V x)) (hb : PW Y (.BoolOp .Or (b :: rest) pos) (LT V y)) : PW Y (.BoolOp .Or (a :: b :: rest) pos) (LT V (.or x y)) := PW.imp (L2.pw_or ha hb) fun σ H Q h => by
  obtain ⟨env, st, B, F, R, er, sm, hb, w, en⟩ := h
  simp only [wpT] at w
  simp only [cE] at hb en
  refine lT er sm (by omega) w fun t st1 H1 F1 r1 f1 sm1 e1 => ?_
  by_cases z : t = true
  · rw [if_pos z] at r1 ⊢
    exact (en.mono f1 rfl).here r1 (sm1.more (by omega))
  · rw [if_neg z] at r1 ⊢
    exact lT e1 sm1 (by omega) r1 fun t st2 H2 F2 r2 f2 sm2 e2 => (en.mono (f1.trans f2) (by omega)).here r2 sm2
omit G in
theorem t_ite (hc : PT Y c (LT V z)) (ha : PT Y a (LT V x)) (hb : PT Y b (LT V y)) : PT Y (.IfExp c a b pos) (LT V (.ite z x y)) := by
  refine ⟨fun pins s σ H Q I h => ?_⟩
  obtain ⟨env, st, B, F, R, er, sm, hb', w, en⟩ := h
  simp only [wpT] at w
  simp only [cE] at hb' en
  refine isTrue_IfExp (L2.thn (hc.run pins s σ H (fun t H1 => if t = true then LT V x σ H1 Q else LT V y σ H1 Q) I (lT er sm (by omega) w fun t st1 H1 F1 r1 f1 sm1 e1 => ?_)) fun t s1 ⟨H1, I1, q1⟩ => ?_)
  · by_cases z : t = true
    · rw [if_pos z] at r1 ⊢
      exact lT e1 sm1 (by omega) r1 fun t st2 H2 F2 r2 f2 sm2 e2 => (en.mono (f1.trans f2) rfl).here r2 (sm2.more (by omega))
    · rw [if_neg z] at r1 ⊢
      exact lT e1 sm1 (by omega) r1 fun t st2 H2 F2 r2 f2 sm2 e2 => (en.mono (f1.trans f2) rfl).here r2 (sm2.more (by omega))
  · cases t with
    | true => exact ha.run pins s1 σ H1 Q I1 q1
    | false => exact hb.run pins s1 σ H1 Q I1 q1
omit G in
theorem wpT_cmp {C : Cxt} {o : Co} {x y : X} {env : Env} {st : St} {E : EK} {Q : Bool → St → Prop} (h : wpT C (.cmp o x y) env st E Q) : wpE C x env st E fun t s1 => wpE C y env s1 E fun u s2 => cmpSem o t u s2 fun b => Q b s2 := by
  simp only [wpT, wpE, truSem] at h
  exact h
theorem t_cmp {op : CmpOp} {o : Co} (ho : coO op = some o) (ha : PE Y a (LE V x)) (hb : PE Y b (LE V y)) (hm : behindInMarks op b = false) : PT Y (.Compare a [op] [b] pos) (LT V (.cmp o x y)) := by
  have hop := op_cmp (D := V.D) (X := Y) G.K (by have := G.room.un; omega) o
  rw [← coO_eq ho] at hop
  refine PT.imp (L2.pt_cmpR hop ha hb hm) fun σ H Q h => ?_
  obtain ⟨env, st, B, F, R, er, sm, hb, w, en⟩ := h
  have w := wpT_cmp w
  simp only [cE] at hb en
  refine lE er sm (by omega) w fun t st1 v H1 F1 r1 f1 sm1 q1 e1 => ?_
  refine lE e1 sm1 (by omega) r1 fun u st2 v2 H2 F2 r2 f2 sm2 q2 e2 => ?_
  exact ⟨t, u, st2, _, F2, fun k => R k st2, q1.mono f2, q2, sm2, r2, fun k hk => ⟨k, rfl, (en.mono (f1.trans f2) (B' := B + cE V.cc x + cE V.cc y) (by omega)).here hk sm2⟩⟩
theorem t_chain {op op2 : CmpOp} {o p : Co} (ho : coO op = some o) (ho2 : coO op2 = some p) (ha : PE Y a (LE V x)) (hb : PE Y b (LE V y)) (hc : PE Y c (LE V z)) (hm : lastMarks [op, op2] [b, c] = false) :
    PT Y (.Compare a [op, op2] [b, c] pos) (LT V (.chain o p x y z)) := by
  have hop := op_cmp (D := V.D) (X := Y) G.K (by have := G.room.un; omega) o
  rw [← coO_eq ho] at hop
  have hop2 := op_cmp (D := V.D) (X := Y) G.K (by have := G.room.un; omega) p
  rw [← coO_eq ho2] at hop2
  refine PT.imp (L2.pt_chain hop hop2 ha hb hc hm) fun σ H Q h => ?_
  obtain ⟨env, st, B, F, R, er, sm, hb, w, en⟩ := h
  simp only [wpT, wpE, truSem] at w
  simp only [cE] at hb en
  refine lE er sm (by omega) w fun t st1 v H1 F1 r1 f1 sm1 q1 e1 => ?_
  refine lE e1 sm1 (by omega) r1 fun u st2 v2 H2 F2 r2 f2 sm2 q2 e2 => ?_
  refine ⟨t, u, st2, _, F2, _, q1.mono f2, q2, sm2, r2, fun k hk => ⟨k, rfl, ?_⟩⟩
  by_cases z : k = true
  · rw [if_pos z] at hk ⊢
    refine lE e2 sm2 (by omega) hk fun t3 st3 v3 H3 F3 r3 f3 sm3 q3 e3 => ?_
    exact ⟨u, t3, st3, _, F3, fun k => R k st3, q2.mono f3, q3, sm3, r3, fun k hk => ⟨k, rfl, (en.mono (f1.trans (f2.trans f3)) (B' := B + cE V.cc x + cE V.cc y + cE V.cc _) (by omega)).here hk sm3⟩⟩
  · rw [if_neg z] at hk ⊢
    exact ⟨false, rfl, (en.mono (f1.trans f2) rfl).here hk (sm2.more (by omega))⟩
omit G in
def plT : X → Bool
  | .not _ => false
  | .and _ _ => false
  | .or _ _ => false
  | .ite _ _ _ => false
  | _ => true
omit G in
theorem wpT_pl {C : Cxt} {x : X} {env : Env} {st : St} {E : EK} {Q : Bool → St → Prop} (hx : plT x = true) (h : wpT C x env st E Q) : wpE C x env st E fun t s1 => truSem t s1 fun b => Q b s1 := by
  cases x <;> first | (simp only [wpT] at h; exact h) | (simp [plT] at hx)
theorem t_val (ha : PE Y a (LE V x)) (hx : plT x = true) (he : ∀ whole, isTrue a Y.env whole = (do let v ← whole; standAt a.pos; holding [v] (truthy v))) : PT Y a (LT V x) := PT.imp (L2.pt_truth ha he) fun σ H Q h => by
  obtain ⟨env, st, B, F, R, er, sm, hb, w, en⟩ := h
  refine lE er sm hb (wpT_pl hx w) fun t st1 v H1 F1 r1 f1 sm1 q1 e1 => ?_
  obtain ⟨k, hk, r2⟩ := tru_of G.K q1 sm1 r1
  exact ⟨k, hk, (en.mono f1 rfl).here r2 sm1⟩

/-! argument lists -/
omit G in
theorem s_nil : PA Y [] (LA V []) := PA.imp L2.pa_nil fun σ H Q h => by
  obtain ⟨env, st, B, F, R, er, sm, hb, w, en⟩ := h
  simp only [wpEs] at w
  simp only [cEs] at hb en
  exact en [] st w rfl [] H F (L2.Same.refl F) sm rfl
omit G in
theorem s_args {es : List Expr} {xs : List X} (ha : PE Y a (LE V x)) (hr : PA Y es (LA V xs)) (hs : starEach (a :: es) Y.env = (false, eval a Y.env) :: starEach es Y.env) : PA Y (a :: es) (LA V (x :: xs)) := PA.imp (L2.pa_cons ha hr hs) fun σ H Q h => by
  obtain ⟨env, st, B, F, R, er, sm, hb, w, en⟩ := h
  simp only [wpEs] at w
  simp only [cEs] at hb en
  refine lE er sm (by omega) w fun t st1 v H1 F1 r1 f1 sm1 q1 e1 => ?_
  refine lA e1 sm1 (by omega) r1 fun ts st2 vs H2 F2 r2 l2 f2 sm2 q2 e2 => ?_
  exact en (t :: ts) st2 r2 (by simp [l2]) (v :: vs) H2 F2 (f1.trans f2) (sm2.more (by omega)) ⟨v, vs, rfl, q1.mono f2, q2⟩
variable {es : List Expr} {xs : List X}
omit G in
theorem le_size {n : Nat} (h : n ≤ 1000) : n ≤ sizeLine := by rw [sizeLine_eq]; omega
omit G in
theorem s_tup {k} (hl : xs.length ≤ 1000) (ha : PA Y es (LA V xs)) : PE Y (.Tuple es k pos) (LE V (.tup xs)) := PE.imp (L2.pe_tup ha) fun σ H Q h => by
  obtain ⟨env, st, B, F, R, er, sm, hb, w, en⟩ := h
  simp only [wpE] at w
  simp only [cE] at hb en
  refine lA er sm (by omega) w fun ts st2 vs H2 F2 r2 l2 f2 sm2 q2 e2 => ?_
  exact ⟨by rw [← q2.length, l2]; exact le_size hl, fun p hp => (en.mono f2 rfl).tup r2 sm2 hp q2⟩
theorem s_idx (ha : PE Y a (LE V x)) (hb : PE Y b (LE V y)) (hs : L2.PlainIx b) : PE Y (.Subscript a b pos) (LE V (.idx x y)) := PE.imp (L2.pe_ix (ix_sem (by have := G.room.un; omega) G.K) ha hb hs) fun σ H Q h => by
  obtain ⟨env, st, B, F, R, er, sm, hb, w, en⟩ := h
  simp only [wpE] at w
  simp only [cE] at hb en
  refine lE er sm (by omega) w fun t st1 v H1 F1 r1 f1 sm1 q1 e1 => ?_
  refine lE e1 sm1 (by omega) r1 fun u st2 v2 H2 F2 r2 f2 sm2 q2 e2 => ?_
  exact ⟨t, u, st2, _, F2, R, q1.mono f2, q2, sm2, r2, en.mono (f1.trans f2) (by omega)⟩
omit G in
theorem s_o0 : PO Y none (LO V none) := ⟨fun pins s σ H Q I h => by
  obtain ⟨env, st, B, F, R, er, sm, hb, w, en⟩ := h
  simp only [wpO] at w
  simp only [cO] at hb en
  exact L2.po_none.run pins s σ H Q I (en none st w H F (L2.Same.refl F) sm)⟩
omit G in
theorem s_o1 (ha : PE Y a (LE V x)) : PO Y (some a) (LO V (some x)) := ⟨fun pins s σ H Q I h => by
  obtain ⟨env, st, B, F, R, er, sm, hb, w, en⟩ := h
  simp only [wpO] at w
  simp only [cO] at hb en
  refine (L2.po_some ha).run pins s σ H Q I (lE er sm (by omega) w fun t st1 v H1 F1 r1 f1 sm1 q1 e1 => ?_)
  cases t <;> simp only at r1
  cases q1
  exact ⟨_, rfl, en _ st1 r1 H1 F1 f1 sm1⟩⟩
theorem s_slc {lo hi : Option Expr} {l h : Option X} {p2} (ha : PE Y a (LE V x)) (hl : PO Y lo (LO V l)) (hh : PO Y hi (LO V h)) : PE Y (.Subscript a (.Slice lo hi none p2) pos) (LE V (.slc x l h)) := PE.imp (L2.pe_slice (sl_sem G.K) ha hl hh) fun σ H Q h => by
  obtain ⟨env, st, B, F, R, er, sm, hb, w, en⟩ := h
  simp only [wpE] at w
  simp only [cE] at hb en
  refine lE er sm (by omega) w fun t st1 v H1 F1 r1 f1 sm1 q1 e1 => ?_
  refine lO e1 sm1 (by omega) r1 fun u st2 H2 F2 r2 f2 sm2 e2 => ?_
  refine lO e2 sm2 (by omega) r2 fun u3 st3 H3 F3 r3 f3 sm3 e3 => ?_
  exact ⟨t, st3, _, F3, R, q1.mono (f2.trans f3), sm3, r3, en.mono (f1.trans (f2.trans f3)) (by omega)⟩
theorem s_rev {k p1 p2 p3} (ha : PE Y a (LE V x)) : PE Y (.Subscript a (.Slice none none (some (.UnaryOp .USub (.Constant (.int 1) k p1) p2)) p3) pos) (LE V (.rev x)) := PE.imp (pe_back ha) fun σ H Q h => by
  obtain ⟨env, st, B, F, R, er, sm, hb, w, en⟩ := h
  simp only [wpE] at w
  simp only [cE] at hb en
  refine lE er sm (by omega) w fun t st1 v H1 F1 r1 f1 sm1 q1 e1 => ?_
  cases t <;> try exact r1.elim
  · obtain ⟨a, xs, rfl, sa, ra⟩ := q1
    exact ⟨a, rfl, .inr ⟨xs, sm1.sqT sa, fun p hp => (en.mono f1 rfl).tup r1 sm1 hp ra.reverse⟩⟩
  · cases q1
    obtain ⟨ts, e, r1⟩ := r1
    obtain ⟨ys, _, sq, ra⟩ := sm1.sqL (K := Y.K) e
    exact ⟨_, rfl, .inl ⟨ys, sq, fun p hp => (en.mono f1 rfl).lst r1 sm1 hp ra.reverse⟩⟩
omit G in
theorem nokey {x : Str} (ho : okN x = true) : (x == ("__debug__" : Str)) = false := (okN1 ho).1
theorem s_call0 {i : Nat} {f : Str} {p : Pos} (ho : okN f = true) (hg : isG sc f = true) (hi : V.g.fns.idxOf? f = some i) : PE Y (.Call (.Name f p) [] [] pos) (LE V (.call i [])) := by
  obtain ⟨h1, h2⟩ := FnG.at G (slotOf (N := V.g.fns) hi)
  refine PE.imp (pe_callG0 h2 G.room G.gd (show Y.env.scope.names.lookup f = _ by rw [G.sce]; exact globOf hg) h1 (okN1 ho).1) fun σ H Q h => ?_
  obtain ⟨env, st, B, F, R, er, sm, hb, w, en⟩ := h
  simp only [wpE, wpEs] at w
  simp only [cE, cEs] at hb en
  exact ⟨[], st, B, F, R, rfl, sm, by omega, w, en.mono (L2.Same.refl F) (by omega)⟩
theorem s_call {i : Nat} {f : Str} {p : Pos} (ho : okN f = true) (hg : isG sc f = true) (hi : V.g.fns.idxOf? f = some i) (ha : PA Y (a :: es) (LA V xs))
    (he : starEach (a :: es) Y.env = (false, eval a Y.env) :: starEach es Y.env) (hpl : (backTo pos (starEach es Y.env)).any (·.1) = false) : PE Y (.Call (.Name f p) (a :: es) [] pos) (LE V (.call i xs)) := by
  obtain ⟨h1, h2⟩ := FnG.at G (slotOf (N := V.g.fns) hi)
  refine PE.imp (pe_callG h2 G.room G.gd (show Y.env.scope.names.lookup f = _ by rw [G.sce]; exact globOf hg) h1 ha (okN1 ho).1 he hpl) fun σ H Q h => ?_
  obtain ⟨env, st, B, F, R, er, sm, hb, w, en⟩ := h
  simp only [wpE] at w
  simp only [cE] at hb en
  refine lA er sm (by omega) w fun ts st2 vs H2 F2 r2 l2 f2 sm2 q2 e2 => ?_
  exact ⟨ts, st2, _, F2, R, q2, sm2, by omega, r2, en.mono f2 (by omega)⟩
theorem s_callv {i : Nat} {f : Str} {p : Pos} (ho : okN f = true) (hv : isV sc f = true) (hi : slot N f = some i) (ha : PA Y (a :: es) (LA V xs))
    (he : starEach (a :: es) Y.env = (false, eval a Y.env) :: starEach es Y.env) (hpl : (backTo pos (starEach es Y.env)).any (·.1) = false) : PE Y (.Call (.Name f p) (a :: es) [] pos) (LE V (.callv i xs)) := by
  refine PE.imp (pe_callGL (k := V.lev) (i := i) (S := fun f sp => ∃ j, j < V.g.fns.length ∧ f = V.D.fa j ∧ sp = spG V.D (V.cc j) (V.C.call j)) (fun f sp hS => ?_) G.room G.gd (by rw [G.nn]; exact slotOf hi) (by rw [G.sce]; exact visOf hv) ha (okN1 ho).1 (okN1 ho).2 he hpl) fun σ H Q h => ?_
  · obtain ⟨j, hj, rfl, rfl⟩ := hS
    exact (FnG.at G (List.getElem?_eq_getElem hj)).2
  obtain ⟨env, st, B, F, R, er, sm, hb, w, en⟩ := h
  simp only [wpE] at w
  simp only [cE] at hb en
  split at w
  · rename_i j e
    obtain ⟨hj, w⟩ := w
    rw [G.ok.nf] at hj
    obtain ⟨u, e1, r1⟩ := er.get e
    have r1' : u = .ref (V.D.fa j) := r1
    have hc := (G.ok.fns j _ (List.getElem?_eq_getElem hj)).2.2
    refine ⟨V.D.fa j, _, by rw [e1, r1'], ⟨j, hj, rfl, rfl⟩, ?_⟩
    refine lA er sm (by omega) w fun ts st2 vs H2 F2 r2 l2 f2 sm2 q2 e2 => ?_
    refine ⟨ts, st2, _, F2, R, q2, sm2, by omega, r2, fun t st' r v H' F' ff s q => ?_⟩
    exact en t st' r v H' F' (f2.trans ff) (s.more (by omega)) q
  · exact w.elim
theorem s_bi {f : Bi} {e : Expr} (h : PE Y e (L2.tCB (rV V.D (biSem rpT f)) (LA V xs))) : PE Y e (LE V (.bi f xs)) := PE.imp h fun σ H Q h => by
  obtain ⟨env, st, B, F, R, er, sm, hb, w, en⟩ := h
  simp only [wpE] at w
  rw [G.ok.rp] at w
  simp only [cE] at hb en
  refine lA er sm (by omega) w fun ts st2 vs H2 F2 r2 l2 f2 sm2 q2 e2 => ?_
  exact ⟨ts, st2, _, F2, R, q2, sm2, r2, en.mono f2 rfl⟩
theorem gl_of {f : Str} (hg : isG sc f = true) : Gl Y f := show Y.env.scope.names.lookup f = _ by rw [G.sce]; exact globOf hg
theorem mg_of {f : Str} (hf : V.g.blt.contains f = true) : Y.mg f = none := by rw [G.mg]; exact G.ok.blt f hf
/-! isinstance -/
def tyS : Ty → String
  | .int => "int"
  | .bool => "bool"
  | .str => "str"
  | .tuple => "tuple"
omit G in
theorem kit_all {K : PySem.W.Frag} : ∀ ty : Ty, (PySem.W.kitOne K (.type "NoneType") (.type (tyS ty)) = some false) ∧ (PySem.W.kitOne K (.type "bool") (.type (tyS ty)) = some (match ty with | .int | .bool => true | _ => false)) ∧
    (PySem.W.kitOne K (.type "int") (.type (tyS ty)) = some (match ty with | .int => true | _ => false)) ∧ (PySem.W.kitOne K (.type "str") (.type (tyS ty)) = some (match ty with | .str => true | _ => false)) ∧
    (PySem.W.kitOne K (.type "tuple") (.type (tyS ty)) = some (match ty with | .tuple => true | _ => false)) ∧ (PySem.W.kitOne K (.type "list") (.type (tyS ty)) = some false) := fun ty => by
  cases ty <;> exact ⟨L2.kit_ty (by decide +kernel), L2.kit_ty (by decide +kernel), L2.kit_ty (by decide +kernel), L2.kit_ty (by decide +kernel), L2.kit_ty (by decide +kernel), L2.kit_ty (by decide +kernel)⟩

omit G in
theorem isi_of {ty : Ty} {t : T} {v : L2.V} {st : St} {B : Nat} {H F : L2.Hp} {Q : Bool → Prop} (hK : V.D.K = Y.K) (sm : Sim V.D B H F st) (r : RepV V.D F t v) (w : isiSem t ty st Q) :
    ∃ (u : Value) (k : Bool), L2.TyX Y.K H v u ∧ PySem.W.kitOne Y.K u (.type (tyS ty)) = some k ∧ Q k := by
  obtain ⟨k1, k2, k3, k4, k5, k6⟩ := kit_all (K := Y.K) ty
  cases t with
  | non => cases r; exact ⟨_, _, .base .non, k1, w⟩
  | bl b => cases r; exact ⟨_, _, .base (.bl b), k2, w⟩
  | int i => cases r; exact ⟨_, _, .base (.int i), k3, w⟩
  | str s => cases r; exact ⟨_, _, .base (.str _), k4, w⟩
  | tup ts =>
    obtain ⟨a, xs, rfl, sa, _⟩ := r
    rcases sm.sqT sa with (h | ⟨o, h⟩) | ⟨o, its, n, h1, h2, _⟩
    · exact ⟨_, _, .base (.tup h), k5, w⟩
    · exact ⟨_, _, .fTuple h, k5, w⟩
    · exact ⟨_, _, .kTuple (hK ▸ h1) h2, k5, w⟩
  | ref a =>
    cases r
    obtain ⟨ts, e, w⟩ := w
    · obtain ⟨xs, h, _⟩ := sm.lst e
      exact ⟨_, _, .base (.lst h), k6, w⟩
  | _ => exact w.elim
theorem boot_isi : bootBuiltins ("isinstance" : Str) = some (.builtin "isinstance") := by decide +kernel
theorem boot_ty : ∀ ty : Ty, bootBuiltins (Str.ofString (tyS ty)) = some (.type (tyS ty)) := fun ty => by cases ty <;> decide +kernel
theorem tyO_eq {t : Str} {ty : Ty} (h : tyO t = some ty) : t = Str.ofString (tyS ty) := by
  unfold tyO at h
  repeat (split at h; rename_i e; cases h; exact eq_of_beq e)
  cases h
theorem s_isi {p q : Pos} {t f : Str} {ty : Ty} (hf : f = ("isinstance" : Str)) (hg : isG sc f = true) (h1 : V.g.blt.contains f = true) (ht : tyO t = some ty) (hg2 : isG sc t = true) (h3 : V.g.blt.contains t = true)
    (ha : PE Y a (LE V x)) (he : starEach (a :: [.Name t q]) Y.env = (false, eval a Y.env) :: starEach [.Name t q] Y.env) : PE Y (.Call (.Name f p) [a, .Name t q] [] pos) (LE V (.isi x ty)) := by
  subst hf
  have et := tyO_eq G ht
  have hn : PE Y (.Name t q) (L2.tC (.ty (tyS ty))) := by
    refine L2.pe_bltn (gl_of G hg2) (mg_of G h3) (by rw [et]; exact boot_ty G ty) rfl ?_ ?_
    · rw [et]; cases ty <;> decide
    · rw [et]; cases ty <;> decide
  have hA : PA Y [a, .Name t q] (L2.tCons (LE V x) (L2.tCons (L2.tC (.ty (tyS ty))) L2.tNil)) := L2.pa_cons ha (L2.pa_cons hn L2.pa_nil) he
  refine PE.imp (L2.pe_callB L2.call_isi (gl_of G hg) (mg_of G h1) (boot_isi G) hA (he := he)) fun σ H Q h => ?_
  obtain ⟨env, st, B, F, R, er, sm, hb, w, en⟩ := h
  simp only [wpE] at w
  simp only [cE] at hb en
  refine lE er sm (by omega) w fun t st1 v H1 F1 r1 f1 sm1 q1 e1 => ?_
  obtain ⟨u, k, h1, h2, h3⟩ := isi_of G.K sm1 q1 r1
  exact ⟨v, .ty (tyS ty), u, _, k, rfl, .ty _, h1, h2, (en.mono f1 rfl).here h3 sm1 rfl⟩
end
end Mo

set_option Elab.async false
set_option linter.all false
set_option maxRecDepth 100000
set_option autoImplicit false
namespace Mo
open PySem PyProof.Rows PySem.W
open L2 (Inv EP RelV Vals OpR UnR CallR VK R2)
variable {D : Wd} {X : L2.Cx}
/-- what stands there may be known -/
theorem Sim.learn {B : Nat} {H F : L2.Hp} {st : St} (s : Sim D B H F st) {a : Addr} {xs : List L2.V} (h : H a = some (.tup xs)) : ∃ F', L2.Same F F' ∧ Sim D B H F' st ∧ F' a = some (.tup xs) := by
  cases e : F a with
  | some u =>
    have := s.fr a u e
    rw [h] at this; cases this
    exact ⟨F, L2.Same.refl F, s, e⟩
  | none =>
    have sm : L2.Same F (L2.upd F a (.tup xs)) := same_upd e
    refine ⟨_, sm, ⟨fun b u e2 => ?_, fun b o e2 => ?_, s.dk⟩, L2.upd_same⟩
    · by_cases z : b = a
      · subst z; rw [L2.upd_same] at e2; cases e2; exact h
      · rw [L2.upd_ne z] at e2; exact s.fr b u e2
    · obtain ⟨f, q⟩ := s.ob b o e2
      cases o with
      | lst ts =>
        obtain ⟨ys, h1, h2⟩ := q
        have z : b ≠ a := fun z => by rw [z, h] at h1; cases h1
        exact ⟨by rw [L2.upd_ne z]; exact f, ys, h1, h2.mono sm _ _⟩
      | dct bb kvs =>
        obtain ⟨u, h1, h2⟩ := q
        have z : b ≠ a := fun z => by
          rw [z, h] at h1; cases h1
          cases bb <;> obtain ⟨_, z, _⟩ := h2 <;> cases z
        exact ⟨by rw [L2.upd_ne z]; exact f, u, h1, h2.mono sm⟩
      | deck =>
        obtain ⟨b', c', k, ns, ms, h1, h2, h3, h4, h5, h6, h7, h8, h9, h10, h11, h12, h13⟩ := q
        have z : b ≠ a := fun z => by rw [z, h] at h1; cases h1
        have z2 : b' ≠ a := fun z => by rw [z, h] at h2; cases h2
        have z3 : c' ≠ a := fun z => by rw [z, h] at h3; cases h3
        exact ⟨by rw [L2.upd_ne z]; exact f, b', c', k, ns, ms, h1, h2, h3, h4, h5, h6, h7, h8, h9, h10, h11, by rw [L2.upd_ne z2]; exact h12, by rw [L2.upd_ne z3]; exact h13⟩
theorem keys_rep {F : L2.Hp} : ∀ {ts : List T} {ks : List L2.Key}, keysV ts = some ks → RepVs D F ts (ks.map L2.kV)
  | [], _, h => by cases h; exact rfl
  | t :: ts, ks, h => by
    simp only [keysV] at h
    split at h
    · rename_i k hk
      split at h
      · rename_i ks' hks
        cases h
        refine ⟨_, _, rfl, ?_, keys_rep hks⟩
        cases t <;> simp only [keyV] at hk <;> cases hk <;> rfl
      · cases h
    · cases h
/-- a dict's keys, known -/
theorem keys_known {B : Nat} {H : L2.Hp} {st : St} : ∀ {kvs : List (T × T)} {ks : List (List L2.Key × L2.V)} {xs : List (List L2.Key × Addr × Value)} {F : L2.Hp}, KvR D F keyT kvs ks → L2.KT H ks xs → Sim D B H F st →
    ∃ F', L2.Same F F' ∧ Sim D B H F' st ∧ RepVs D F' (kvs.map (·.1)) (xs.map fun x => .ref x.2.1)
  | [], _, _, F, r, p, s => by
    rw [show _ = [] from r] at p
    cases p
    exact ⟨F, L2.Same.refl F, s, rfl⟩
  | kv :: kvs, _, _, F, r, p, s => by
    obtain ⟨k, v, r', rfl, h1, h2, h3⟩ := r
    cases p with
    | cons hp ps =>
      obtain ⟨e1, e2, e3⟩ := hp
      obtain ⟨F1, f1, s1, k1⟩ := s.learn e2
      obtain ⟨F2, f2, s2, k2⟩ := keys_known (h3.keep (.of f1)) ps s1
      refine ⟨F2, f1.trans f2, s2, _, _, rfl, ?_, k2⟩
      obtain ⟨kt, _⟩ := kv
      cases kt <;> simp only [keyT] at h1 <;> try (cases h1; done)
      exact ⟨_, _, rfl, f2 _ _ k1, keys_rep h1⟩
def rSrtD (D : Wd) : List L2.V → L2.Hp → VK → Prop := fun xs H Q => ∃ a kvs B F st, xs = [.ref a] ∧ Sim D B H F st ∧ st a = some (.dct true kvs) ∧ srtOk (kvs.map (·.1)) = true ∧
  ∀ p ws F', L2.Same F F' → Sim D B H F' st → H p = none → RepVs D F' (msort (kvs.map (·.1))) ws → (msort (kvs.map (·.1))).length ≤ SZ → Q (.ref p) (L2.upd H p (.lst ws))
/-- things that can be sorted -/
theorem srt_al {ts : List T} (ok : srtOk ts = true) {vs : List L2.V} (hl : ts.length = vs.length) : (pureTs ts = true ∧ depTs ts ≤ 60) ∧ PySem.W.AllAlike ((ts.zip vs).map fun p => toD p.1) ∧ PySem.W.Sortable ((ts.zip vs).map fun p => toD p.1) ∧
    ((ts.zip vs).mergeSort (PySem.W.dataLe false fun p : T × L2.V => toD p.1)).map (·.1) = msort ts ∧ ∀ p ∈ ts.zip vs, p.1 ∈ ts := by
  simp only [srtOk, Bool.and_eq_true, List.all_eq_true, Bool.or_eq_true] at ok
  obtain ⟨⟨⟨hp, ho⟩, hal⟩, hk⟩ := ok
  simp only [okDs, Bool.and_eq_true, decide_eq_true_eq] at ho
  have z2 : (ts.zip vs).map (·.1) = ts := List.map_fst_zip (by omega)
  have mem1 : ∀ p ∈ ts.zip vs, p.1 ∈ ts := fun p hp => by
    have : p.1 ∈ (ts.zip vs).map (·.1) := List.mem_map.mpr ⟨p, hp, rfl⟩
    rw [z2] at this; exact this
  refine ⟨⟨hp, ho.1⟩, fun d hd d' hd' => ?_, ?_, ?_, mem1⟩
  · obtain ⟨p, hp, rfl⟩ := List.mem_map.mp hd
    obtain ⟨p', hp', rfl⟩ := List.mem_map.mp hd'
    exact alk_to _ _ (hal _ (mem1 p hp) _ (mem1 p' hp'))
  · rcases hk with hk | hk
    · refine .inl fun d hd => ?_
      obtain ⟨p, hp, rfl⟩ := List.mem_map.mp hd
      have := hk _ (mem1 p hp)
      generalize p.1 = t at this ⊢
      cases t <;> simp [isTup1] at this
      rename_i l
      cases l <;> simp at this
      exact ⟨_, _, rfl⟩
    · refine .inr fun d hd => ?_
      obtain ⟨p, hp, rfl⟩ := List.mem_map.mp hd
      have h1 := hk _ (mem1 p hp)
      have h2 := hal _ (mem1 p hp) _ (mem1 p hp)
      generalize p.1 = t at h1 h2 ⊢
      cases t <;> simp [noTup, alk] at h1 h2 <;> simp [toD]
  · have le_eq : ∀ x ∈ ts.zip vs, ∀ y ∈ ts.zip vs, PySem.W.dataLe false (fun p : T × L2.V => toD p.1) x y = (fun x y => !ltT y x) x.1 y.1 := fun x hx y hy => by
      rw [PySem.W.dataLe_eq]
      show (!PySem.W.dataLt (toD y.1) (toD x.1)) = _
      rw [← lt_to _ _ (hal _ (mem1 y hy) _ (mem1 x hx)) (pure_isD _ (pureTs_mem hp _ (mem1 y hy))) (pure_isD _ (pureTs_mem hp _ (mem1 x hx)))]
    rw [List.map_mergeSort (s := fun x y => !ltT y x) le_eq, z2]
    rfl
theorem each_imp {α β : Type} {R S : α → β → Prop} (h : ∀ a b, R a b → S a b) : ∀ {xs : List α} {ys : List β}, EachIs R xs ys → EachIs S xs ys
  | _, _, .nil => .nil
  | _, _, .cons a b => .cons (h _ _ a) (each_imp h b)
theorem cr_srtD (hD : D.K = X.K) (hc : X.calm = true) (hu : X.A.units + 66 < cLine) : CallR X (.builtin "sorted") (rSrtD D) := by
  intro pins s σ H xs us Q I r h
  obtain ⟨a, kvs, B, F, st, rfl, sm, e, ok, q⟩ := h
  rw [L2.Vals.ref1 r]
  obtain ⟨_, u, hu', ks, rfl, rk⟩ := sm.ob a _ e
  obtain ⟨z, hd, xs', rel, o, es, ep, ho, hx, hdat, hes, his, hn⟩ := L2.dt_of I.hok hu'
  have hh : X.A.handled = none := I.ok.hd hc
  obtain ⟨F', f', sm', rp⟩ := keys_known rk rel sm
  have hl : (kvs.map (·.1)).length = (xs'.map fun x => L2.V.ref x.2.1).length := rp.length
  have hxs : xs'.length = ks.length := (Paired.length rel).symm
  have hes2 : es.size = xs'.length := by
    have := congrArg List.length hes
    simpa using this
  obtain ⟨⟨hp, hdep⟩, al, sk, mt, mem1⟩ := srt_al ok hl
  have hz : es.size ≤ sizeLine := by omega
  have big : wpAny (model X.prog X.w) X.A.in1 (Builtin.«sorted» ⟨[.ref a], []⟩) (fun fin s' => ∃ v, fin = .done (.ret v) ∧ EP X pins σ Q v s') X.xe s := ?_
  · exact PySem.Calls.call_function_entry kind_sorted plain_sorted entry_sorted (args_sorted1 _) big
  unfold Builtin.«sorted»
  refine wpAny_bind (m := checkCount "sorted" 1 1 _) (wpAny_pure ?_)
  refine wpAny_bind (kdu_collect (A := X.A.in1) (KdlSrc.rawDict (es := es) (ep := ep) hd) hh ⟨o, ho, hx, hdat⟩ hz fun h' tk acc hk hI => ?_)
  have hacc : acc.toList = xs'.map fun x => Value.ref x.2.1 := by
    apply List.ext_getElem?
    intro j
    rw [List.getElem?_map, Array.getElem?_toList]
    cases hj : acc[j]? with
    | none =>
      have : acc.size ≤ j := by simpa using hj
      rw [hI.1] at this
      rw [List.getElem?_eq_none (by omega)]; rfl
    | some v =>
      obtain ⟨hi, hv⟩ := hI.2 j v hj
      have e1 : es.toList[j]? = some es[j] := by simp [hi]
      rw [hes, List.getElem?_map] at e1
      obtain ⟨x, hx1, hx2⟩ := Option.map_eq_some_iff.mp e1
      rw [hx1, hv, ← hx2]
      rfl
  have vals : Vals (xs'.map fun x => L2.V.ref x.2.1) acc.toList := by
    rw [hacc]
    clear hacc hI hz hes2 hxs hl rp rel hes his hn mt mem1 al sk
    induction xs' with
    | nil => exact .nil
    | cons x xs ih => exact .cons rfl ih
  refine wpAny_bind (wpAny_newList ?_ (by rw [← vals.length, List.length_map]; omega))
  have rd := each_reads hD I sm' rp vals hp
  have ea := vals_each (H := H) hl vals
  generalize hh2 : h'.push { cls := .type "list", data := .seq acc.toList.toArray } = h2
  have hob : h2.get? h'.objs.size = some (seqObj "list" acc.toList.toArray 0) := by rw [← hh2]; exact Heap.get?_push_size _ rfl
  have ka : ∀ b o, s.heap.get? b = some o → h2.get? b = some o := fun b o e => by rw [← hh2]; exact Heap.get?_push_of_some _ (hk b o e)
  have lt0 : ∀ b o, s.heap.get? b = some o → b < h'.objs.size := fun b o e => Heap.lt_size (hk b o e)
  have I1 : L2.Inv X pins σ H { s with heap := h', toks := tk } := I.kept hk
  have kb : ∀ b o, h'.get? b = some o → h2.get? b = some o := fun b o e => by rw [← hh2]; exact Heap.get?_push_of_some _ e
  have fin : wpAny (model X.prog X.w) X.A.in1 (call (.builtin "list.sort") [.ref h'.objs.size]) (fun _ s' => EP X pins σ Q (.ref h'.objs.size) s') X.xe { s with heap := h2, toks := tk } := by
    refine PySem.W.list_sort_data (s := { s with heap := h2, toks := tk }) (R := fun u (p : T × L2.V) => RelV p.2 u) (enc := fun p => toD p.1) hob ea (each_imp (fun v b h => h.elim fun as hr => ⟨as, PyProof.Rows.Reads.keeps ka hr, fun ha => (PyProof.On.reads_mem_get hr _ ha).elim fun o' ho' => Nat.lt_irrefl _ (lt0 _ _ ho')⟩) rd) al sk (by rw [List.length_zip, hl, List.length_map]; omega) (fun p hp => ?_) fun out hlen he => ?_
    · have h1 := depTs_mem hdep _ (mem1 p hp)
      show X.A.units + 1 + 1 + _ < _
      rw [dep_toD]; omega
    · have rp2 := rep_of_pairs (D := D) (F := F') (ps := (((kvs.map (·.1)).zip (xs'.map fun x => L2.V.ref x.2.1)).mergeSort (PySem.W.dataLe false fun p : T × L2.V => toD p.1))) fun p hp => (zip_rep rp).1 p ((List.mergeSort_perm _ _).mem_iff.mp hp)
      rw [mt] at rp2
      have hlm : (msort (kvs.map (·.1))).length = (kvs.map (·.1)).length := by unfold msort; exact List.length_mergeSort ..
      have hsz : ((((kvs.map (·.1)).zip (xs'.map fun x => L2.V.ref x.2.1)).mergeSort (PySem.W.dataLe false fun p : T × L2.V => toD p.1)).map (·.2)).length ≤ sizeLine := by
        rw [List.length_map, List.length_mergeSort, List.length_zip, hl, List.length_map]; omega
      obtain ⟨ep', he'⟩ := PyProof.Rows.sortedHeap_at (out := out.toArray) hob
      exact ⟨.ref _, L2.upd H h'.objs.size (.lst _), I1.laid (t' := tk) (fun b u hb => by
          rw [PyProof.Rows.sortedHeap_old (Nat.ne_of_lt (Heap.lt_size hb)) (Heap.lt_size (kb b u hb))]; exact kb b u hb) (Nat.le_refl _) ⟨hsz, out, ep', each_vals he, he'⟩, rfl,
        q _ _ F' f' sm' (I1.hok.fresh (Nat.le_refl _)) rp2 (by rw [hlm, hl, List.length_map, size_eq]; omega)⟩
  refine wpAny_bind (wpAny_holding (wpAny_mono fin (fun _ s' x => ?_) fun _ _ e => e))
  exact wpAny_pure ⟨_, rfl, x⟩
end Mo
namespace Mo
open PySem PyProof.Rows PySem.W
open L2 (Inv EP RelV Vals OpR UnR CallR VK R2)
variable {D : Wd} {X : L2.Cx}
theorem Sim.up {B : Nat} {H H' F : L2.Hp} {st : St} (s : Sim D B H F st) (k : ∀ b o, H b = some o → H' b = some o) : Sim D B H' F st := by
  refine ⟨fun a o e => k _ _ (s.fr a o e), fun a o e => ⟨(s.ob a o e).1, ?_⟩, s.dk⟩
  have q := (s.ob a o e).2
  cases o with
  | lst ts => obtain ⟨ys, h1, h2⟩ := q; exact ⟨ys, k _ _ h1, h2⟩
  | dct b kvs => obtain ⟨ys, h1, h2⟩ := q; exact ⟨ys, k _ _ h1, h2⟩
  | deck =>
    obtain ⟨b', c', n, ns, ms, h1, h2, h3, h4⟩ := q
    exact ⟨b', c', n, ns, ms, k _ _ h1, k _ _ h2, k _ _ h3, h4⟩
/-- the pairs of a dict, known -/
theorem pairs_known {B : Nat} {H : L2.Hp} {st : St} : ∀ {kvs : List (T × T)} {ks : List (List L2.Key × L2.V)} {xs : List (List L2.Key × Addr × Value)} {as : List Addr} {F : L2.Hp}, KvR D F keyT kvs ks → L2.KT H ks xs → Sim D B H F st → as.length = ks.length →
    (∀ (j : Nat) (a : Addr) (p : List L2.Key × L2.V) (x : List L2.Key × Addr × Value), as[j]? = some a → ks[j]? = some p → xs[j]? = some x → H a = some (.tup [.ref x.2.1, p.2])) →
    ∃ F', L2.Same F F' ∧ Sim D B H F' st ∧ RepVs D F' (kvs.map fun kv => .tup [kv.1, kv.2]) (as.map fun a => .ref a)
  | [], _, _, as, F, r, p, s, hl, _ => by
    rw [show _ = [] from r] at hl
    cases as with
    | nil => exact ⟨F, L2.Same.refl F, s, rfl⟩
    | cons _ _ => simp at hl
  | kv :: kvs, _, _, as, F, r, p, s, hl, ha => by
    obtain ⟨k, v, r', rfl, h1, h2, h3⟩ := r
    cases as with
    | nil => simp at hl
    | cons a as =>
      cases p with
      | cons hp ps =>
        obtain ⟨e1, e2, e3⟩ := hp
        obtain ⟨F1, f1, s1, k1⟩ := s.learn e2
        obtain ⟨F2, f2, s2, k2⟩ := s1.learn (ha 0 a _ _ rfl rfl rfl)
        obtain ⟨F3, f3, s3, k3⟩ := pairs_known (as := as) (h3.keep (.of (f1.trans f2))) ps s2 (by simpa using hl) fun j a p x q1 q2 q3 => ha (j + 1) a p x (by simpa using q1) (by simpa using q2) (by simpa using q3)
        refine ⟨F3, f1.trans (f2.trans f3), s3, _, _, rfl, ⟨a, _, rfl, f3 _ _ k2, _, _, rfl, ?_, _, _, rfl, h2.mono (f1.trans (f2.trans f3)), rfl⟩, k3⟩
        obtain ⟨kt, _⟩ := kv
        cases kt <;> simp only [keyT] at h1 <;> try (cases h1; done)
        exact ⟨_, _, rfl, f3 _ _ (f2 _ _ k1), keys_rep h1⟩
def rSrtI (D : Wd) : List L2.V → L2.Hp → VK → Prop := fun xs H Q => ∃ p a kvs B F st, xs = [.ref p] ∧ H p = some (L2.DX.itemsO p a) ∧ Sim D B H F st ∧ st a = some (.dct true kvs) ∧ srtOk (kvs.map fun kv => .tup [kv.1, kv.2]) = true ∧
  ∀ l ws H' F', L2.Same F F' → Sim D B H' F' st → H' l = none → RepVs D F' (msort (kvs.map fun kv => .tup [kv.1, kv.2])) ws → (msort (kvs.map fun kv => .tup [kv.1, kv.2])).length ≤ SZ → Q (.ref l) (L2.upd H' l (.lst ws))
theorem cr_srtI (hD : D.K = X.K) (hc : X.calm = true) (hu : X.A.units + 66 < cLine) : CallR X (.builtin "sorted") (rSrtI D) := by
  intro pins s σ H xs us Q I r h
  obtain ⟨p0, a, kvs, B, F, st, rfl, hp0, sm, e, ok, q⟩ := h
  rw [L2.Vals.ref1 r]
  obtain ⟨_, u, hu', ks, rfl, rk⟩ := sm.ob a _ e
  have view : s.heap.IsItemsView p0 a := (show L2.ObjOk X.prog X.w H s.heap p0 (L2.DX.itemsO p0 a) from I.hok p0 _ hp0).1
  obtain ⟨z, hd, xs', rel, o, es, ep, ho, hx, hdat, hes, his, hn⟩ := L2.dt_of I.hok hu'
  have hh : X.A.handled = none := I.ok.hd hc
  have hxs : xs'.length = ks.length := (Paired.length rel).symm
  have hks := rk.len
  have hes2 : es.size = xs'.length := by
    have := congrArg List.length hes
    simpa using this
  have hz : es.size ≤ sizeLine := by omega
  have big : wpAny (model X.prog X.w) X.A.in1 (Builtin.«sorted» ⟨[.ref p0], []⟩) (fun fin s' => ∃ v, fin = .done (.ret v) ∧ EP X pins σ Q v s') X.xe s := ?_
  · exact PySem.Calls.call_function_entry kind_sorted plain_sorted entry_sorted (args_sorted1 _) big
  unfold Builtin.«sorted»
  refine wpAny_bind (m := checkCount "sorted" 1 1 _) (wpAny_pure ?_)
  refine wpAny_bind (DT.collectI (A := X.A.in1) (es := es) (ep := ep) hh view ⟨o, ho, hx, hdat⟩ hz fun h' tk as hk hlt hla hG => ?_)
  have I0 : L2.Inv X pins σ H { s with heap := h', toks := tk } := I.kept hk
  have nd : as.Nodup := List.Pairwise.imp (fun h => Nat.ne_of_lt h) hG.rise
  have at_ : ∀ (j : Nat) (b : Addr) (p : List L2.Key × L2.V) (x : List L2.Key × Addr × Value), as[j]? = some b → ks[j]? = some p → xs'[j]? = some x → h'.get? b = some { cls := .type "tuple", data := .seq #[Value.ref x.2.1, x.2.2] } := by
    intro j b p x h1 h2 h3
    obtain ⟨en, he, hg⟩ := hG.pairs j b h1
    have e1 : es.toList[j]? = some en := by rw [Array.getElem?_toList]; exact he
    rw [hes, List.getElem?_map, h3] at e1
    cases e1
    exact hg
  have idx : ∀ b ∈ as, ∃ (j : Nat) (p : List L2.Key × L2.V) (x : List L2.Key × Addr × Value), as[j]? = some b ∧ ks[j]? = some p ∧ xs'[j]? = some x := by
    intro b hb
    obtain ⟨j, hj⟩ := List.getElem?_of_mem hb
    have hlj := (List.getElem?_eq_some_iff.mp hj).1
    exact ⟨j, _, _, hj, List.getElem?_eq_getElem (by omega), List.getElem?_eq_getElem (by omega)⟩
  have relAt : ∀ (j : Nat) (p : List L2.Key × L2.V) (x : List L2.Key × Addr × Value), ks[j]? = some p → xs'[j]? = some x → p.1 = x.1 ∧ H x.2.1 = some (.tup (p.1.map L2.kV)) ∧ RelV p.2 x.2.2 := by
    intro j p x h1 h2
    obtain ⟨y, h3, h4⟩ := L2.DX.pget rel h2
    rw [h1] at h3; cases h3
    exact h4
  obtain ⟨H2, I2, up, tr⟩ := L2.DX.takeT (P := fun b vs => ∃ (j : Nat) (p : List L2.Key × L2.V) (x : List L2.Key × Addr × Value), as[j]? = some b ∧ ks[j]? = some p ∧ xs'[j]? = some x ∧ vs = [.ref x.2.1, p.2]) I as H I0 nd fun b hb => by
    have ab : s.heap.objs.size ≤ b := Nat.le_of_lt (hG.above b hb)
    obtain ⟨j, p, x, h1, h2, h3⟩ := idx b hb
    obtain ⟨_, _, r3⟩ := relAt j p x h2 h3
    exact ⟨ab, I.hok.fresh ab, _, ⟨j, p, x, h1, h2, h3, rfl⟩, fun H2 => ⟨by rw [sizeLine_eq]; simp, [Value.ref x.2.1, x.2.2], .cons rfl (.cons r3 .nil), _, at_ j b p x h1 h2 h3, rfl, _, rfl⟩⟩
  have nodupIx : ∀ {i j : Nat} {b : Addr}, as[i]? = some b → as[j]? = some b → i = j := fun {i j b} h1 h2 => by
    have l1 := (List.getElem?_eq_some_iff.mp h1).1
    have l2 := (List.getElem?_eq_some_iff.mp h2).1
    exact (List.getElem?_inj l1 nd).mp (h1.trans h2.symm)
  obtain ⟨F', f', sm', rp⟩ := pairs_known (as := as) rk (Paired.mono (fun p x h => ⟨h.1, up _ _ h.2.1, h.2.2⟩) rel) (sm.up up) (by omega) fun j b p x h1 h2 h3 => by
    obtain ⟨vs, ⟨j', p', x', g1, g2, g3, rfl⟩, hH⟩ := tr b (List.mem_of_getElem? h1)
    have := nodupIx h1 g1
    subst this
    rw [h2] at g2; cases g2
    rw [h3] at g3; cases g3
    exact hH
  have hl := rp.length
  obtain ⟨⟨hp, hdep⟩, al, sk, mt, mem1⟩ := srt_al ok hl
  rw [List.length_map, List.length_map] at hl
  have vals : Vals (as.map fun b => L2.V.ref b) (as.map Value.ref) := by
    clear hG idx relAt tr nodupIx rp nd at_ mem1 mt sk al hl
    clear hla
    induction as with
    | nil => exact .nil
    | cons x xs ih => exact .cons rfl ih
  refine wpAny_bind (wpAny_newList ?_ (by rw [List.length_map]; omega))
  have rd := each_reads hD I2 sm' rp vals hp
  have ea := vals_each (H := H2) rp.length vals
  generalize hh2 : h'.push { cls := .type "list", data := .seq (as.map Value.ref).toArray } = h2
  have hob : h2.get? h'.objs.size = some (seqObj "list" (as.map Value.ref).toArray 0) := by rw [← hh2]; exact Heap.get?_push_size _ rfl
  have kb : ∀ b o, h'.get? b = some o → h2.get? b = some o := fun b o e => by rw [← hh2]; exact Heap.get?_push_of_some _ e
  have fin : wpAny (model X.prog X.w) X.A.in1 (call (.builtin "list.sort") [.ref h'.objs.size]) (fun _ s' => EP X pins σ Q (.ref h'.objs.size) s') X.xe { s with heap := h2, toks := tk } := by
    refine PySem.W.list_sort_data (s := { s with heap := h2, toks := tk }) (R := fun u (p : T × L2.V) => RelV p.2 u) (enc := fun p => toD p.1) hob ea (each_imp (fun v b h => h.elim fun as hr => ⟨as, PyProof.Rows.Reads.keeps kb hr, fun ha => (PyProof.On.reads_mem_get hr _ ha).elim fun o' ho' => Nat.lt_irrefl _ (Heap.lt_size ho')⟩) rd) al sk (by rw [List.length_zip, List.length_map, List.length_map]; omega) (fun p hp => ?_) fun out hlen he => ?_
    · have h1 := depTs_mem hdep _ (mem1 p hp)
      show X.A.units + 1 + 1 + _ < _
      rw [dep_toD]; omega
    · have rp2 := rep_of_pairs (D := D) (F := F') (ps := (((kvs.map fun kv => T.tup [kv.1, kv.2]).zip (as.map fun b => L2.V.ref b)).mergeSort (PySem.W.dataLe false fun p : T × L2.V => toD p.1))) fun p hp => (zip_rep rp).1 p ((List.mergeSort_perm _ _).mem_iff.mp hp)
      rw [mt] at rp2
      have hlm : (msort (kvs.map fun kv => T.tup [kv.1, kv.2])).length = kvs.length := by unfold msort; rw [List.length_mergeSort, List.length_map]
      have hsz : ((((kvs.map fun kv => T.tup [kv.1, kv.2]).zip (as.map fun b => L2.V.ref b)).mergeSort (PySem.W.dataLe false fun p : T × L2.V => toD p.1)).map (·.2)).length ≤ sizeLine := by
        rw [List.length_map, List.length_mergeSort, List.length_zip, List.length_map, List.length_map]; omega
      obtain ⟨ep', he'⟩ := PyProof.Rows.sortedHeap_at (out := out.toArray) hob
      exact ⟨.ref _, L2.upd H2 h'.objs.size (.lst _), I2.laid (t' := tk) (fun b u hb => by
          rw [PyProof.Rows.sortedHeap_old (Nat.ne_of_lt (Heap.lt_size hb)) (Heap.lt_size (kb b u hb))]; exact kb b u hb) (Nat.le_refl _) ⟨hsz, out, ep', each_vals he, he'⟩, rfl,
        q _ _ H2 F' f' sm' (I2.hok.fresh (Nat.le_refl _)) rp2 (by rw [hlm, size_eq]; omega)⟩
  refine wpAny_bind (wpAny_holding (wpAny_mono fin (fun _ s' x => ?_) fun _ _ e => e))
  exact wpAny_pure ⟨_, rfl, x⟩
end Mo

set_option Elab.async false
set_option linter.all false
set_option maxRecDepth 100000
set_option autoImplicit false
namespace Mo
open PySem PyProof.Rows
open L2 (Inv EP TP AP SP RelV Vals OpR UnR CallR VK R2 PE PT PW PA PO PS PSs Gl Vis Loc)

/-- a new list that nobody else holds -/
def EndN (D : Wd) (B : Nat) (F : L2.Hp) (R : List T → St → Prop) (Q : VK) : Prop :=
  ∀ ts st, R ts st → ∀ a xs H' F', L2.Same F F' → F a = none → Sim D B H' F' st → F' a = some (.lst xs) → RepVs D F' ts xs → ts.length ≤ SZ → Q (.ref a) H'
def liftN (D : Wd) (c : Nat) (w : Env → St → (List T → St → Prop) → Prop) : L2.TE := fun σ H Q =>
  ∃ env st B F R, EnvR D F env σ ∧ Sim D B H F st ∧ B + c ≤ BIG ∧ w env st R ∧ EndN D (B + c) F R Q
/-- a sequence as it lies -/
def SeqV (D : Wd) (F : L2.Hp) (v : L2.V) (ts : List T) (chk : St → Prop) : Prop :=
  (∃ a xs, v = .ref a ∧ F a = some (.tup xs) ∧ RepVs D F ts xs) ∨ (∃ a, v = .ref a ∧ ∀ s, chk s → s a = some (.lst ts)) ∨ (∃ a xs, v = .ref a ∧ F a = some (.lst xs) ∧ RepVs D F ts xs) ∨ ∃ a, ∃ ns : List Int, v = .ref a ∧ SqF D.K F a (ns.map .int) ∧ ts = ns.map .int
def EndL (D : Wd) (B : Nat) (F : L2.Hp) (R : List T → (St → Prop) → St → Prop) (Q : VK) : Prop :=
  ∀ ts chk st, R ts chk st → ts.length ≤ SZ → ∀ v H' F', L2.Same F F' → Sim D B H' F' st → SeqV D F' v ts chk → chk st → Q v H'
def liftL (D : Wd) (c : Nat) (w : Env → St → LK → Prop) : L2.TE := fun σ H Q =>
  ∃ env st B F R, EnvR D F env σ ∧ Sim D B H F st ∧ B + c ≤ BIG ∧ w env st R ∧ EndL D (B + c) F R Q
abbrev LF (V : Lv) (l : L) : L2.TE := liftN V.D (cL V.cc l) fun env st R => wpL V.C l env st noE fun ts _ s => R ts s
abbrev LL (V : Lv) (l : L) : L2.TE := liftL V.D (cL V.cc l) fun env st R => wpL V.C l env st noE R
theorem lL {D : Wd} {c : Nat} {env : Env} {σ : L2.St} {st : St} {B : Nat} {F H : L2.Hp} {w : Env → St → LK → Prop} {R : List T → (St → Prop) → St → Prop} {Q : VK} (er : EnvR D F env σ) (sm : Sim D B H F st) (hb : B + c ≤ BIG) (h : w env st R)
    (k : ∀ ts chk st1 v H1 F1, R ts chk st1 → ts.length ≤ SZ → L2.Same F F1 → Sim D (B + c) H1 F1 st1 → SeqV D F1 v ts chk → chk st1 → EnvR D F1 env σ → Q v H1) : liftL D c w σ H Q :=
  ⟨env, st, B, F, R, er, sm, hb, h, fun ts chk st1 r l v H1 F1 f s q c => k ts chk st1 v H1 F1 r l f s q c (er.mono f)⟩
theorem lN {D : Wd} {c : Nat} {env : Env} {σ : L2.St} {st : St} {B : Nat} {F H : L2.Hp} {w : Env → St → (List T → St → Prop) → Prop} {R : List T → St → Prop} {Q : VK} (er : EnvR D F env σ) (sm : Sim D B H F st) (hb : B + c ≤ BIG) (h : w env st R)
    (k : ∀ ts st1 a xs H1 F1, R ts st1 → L2.Same F F1 → F a = none → Sim D (B + c) H1 F1 st1 → F1 a = some (.lst xs) → RepVs D F1 ts xs → ts.length ≤ SZ → EnvR D F1 env σ → Q (.ref a) H1) : liftN D c w σ H Q :=
  ⟨env, st, B, F, R, er, sm, hb, h, fun ts st1 r a xs H1 F1 f n s q rp l => k ts st1 a xs H1 F1 r f n s q rp l (er.mono f)⟩

theorem sqF_L {D : Wd} {B : Nat} {H F : L2.Hp} {st : St} {K : PySem.W.Frag} {a : Addr} {xs : List L2.V} (h : SqF K F a xs) (sm : Sim D B H F st) : L2.SqL K H a xs := sqL_mono sm.fr h.sqL
/-- not an expression's own value -/
def newL : L → Bool
  | .lst _ => true
  | .comp .. => true
  | .srt .. => true
  | .srtE .. => true
  | _ => false
theorem wpL_new {C : Cxt} {l : L} {env : Env} {st : St} {E : EK} {R : List T → (St → Prop) → St → Prop} (hn : newL l = true) (h : wpL C l env st E R) : wpL C l env st E fun ts _ s => R ts (fun _ => True) s := by
  cases l <;> first | (simp only [wpL] at h ⊢; exact h) | (simp [newL] at hn)

section
variable {V : Lv} {Y : L2.Cx} {N : List Str} {sc : Scope} (G : GX V Y N sc) {a b c : Expr} {x y z : X} {pos : Pos} {es : List Expr} {xs : List X} {l : L} {e : Expr}
/-- a list of its own: may change from now on -/
theorem s_new (h : PE Y e (LF V l)) : PE Y e (LE V (.new l)) := PE.imp h fun σ H Q h => by
  obtain ⟨env, st, B, F, R, er, sm, hb, w, en⟩ := h
  simp only [wpE] at w
  simp only [cE] at hb en
  exact lN er sm hb w fun ts st1 p xs H1 F1 r f n s q rp l _ => en (.ref p) _ (r p (s.stF q)) (.ref p) H1 (cut F1 p) (same_cut f n) (s.free q rp) rfl
theorem s_l_new (hn : newL l = true) (h : PE Y e (LF V l)) : PE Y e (LL V l) := PE.imp h fun σ H Q h => by
  obtain ⟨env, st, B, F, R, er, sm, hb, w, en⟩ := h
  exact lN er sm hb (wpL_new hn w) fun ts st1 p xs H1 F1 r f n s q rp l _ => en ts (fun _ => True) st1 r l (.ref p) H1 F1 f s (.inr (.inr (.inl ⟨p, xs, rfl, q, rp⟩))) trivial
theorem s_l_lst (hl : xs.length ≤ 1000) (ha : PA Y es (LA V xs)) : PE Y (.List es pos) (LF V (.lst xs)) := PE.imp (L2.pe_lst ha) fun σ H Q h => by
  obtain ⟨env, st, B, F, R, er, sm, hb, w, en⟩ := h
  simp only [wpL] at w
  simp only [cL] at hb en
  refine lA er sm hb w fun ts st2 vs H2 F2 r2 l2 f2 sm2 q2 e2 => ⟨by rw [← q2.length, l2]; exact le_size hl, fun p hp => ?_⟩
  have np := sm2.noF hp
  have nF : F p = none := by
    cases z : F p with
    | none => rfl
    | some o => rw [f2 p o z] at np; cases np
  exact en ts st2 r2 p vs _ (L2.upd F2 p (.lst vs)) (same_updN f2 nF) nF (sm2.know _ hp) L2.upd_same (q2.mono (same_upd np)) (by rw [l2]; unfold SZ; omega)
include G in
theorem s_l_ex (ha : PE Y e (LE V x)) : PE Y e (LL V (.ex x)) := ⟨fun pins s σ H Q I h => by
  obtain ⟨env, st, B, F, R, er, sm, hb, w, en⟩ := h
  simp only [wpL] at w
  simp only [cL] at hb en
  refine L2.thn (ha.run pins s σ H (fun v H1 => ∃ t st1 F1, L2.Same F F1 ∧ Sim V.D (B + cE V.cc x) H1 F1 st1 ∧ RepV V.D F1 t v ∧ seqSem t st1 fun ts chk => ts.length ≤ SZ → R ts chk st1) I
    (lE er sm hb w fun t st1 v H1 F1 r1 f1 sm1 q1 e1 => ⟨t, st1, F1, f1, sm1, q1, r1⟩)) fun u s1 ⟨v, H1, I1, rv, t, st1, F1, f1, sm1, q1, r1⟩ => ⟨v, H1, I1, rv, ?_⟩
  cases t with
  | tup ts =>
    obtain ⟨a, ys, rfl, sa, ra⟩ := q1
    obtain ⟨its, _, _, hz⟩ := I1.tuple (sm1.sqT sa)
    have hl : ts.length ≤ SZ := by rw [ra.length, size_eq]; exact hz
    exact en ts _ st1 (r1 hl) hl _ H1 F1 f1 sm1 (.inl ⟨a, ys, rfl, sa, ra⟩) trivial
  | ref a =>
    cases q1
    obtain ⟨ts, e, r1⟩ := r1
    obtain ⟨ys, _, sq, ra⟩ := sm1.sqL (K := Y.K) e
    obtain ⟨its, _, _, hz⟩ := I1.list sq
    have hl : ts.length ≤ SZ := by rw [ra.length, size_eq]; exact hz
    exact en ts _ st1 (r1 hl) hl _ H1 F1 f1 sm1 (.inr (.inl ⟨a, rfl, fun _ h => h⟩)) e
  | scr =>
    obtain ⟨a, ns, rfl, sf, hl1⟩ := q1
    have hl : (ns.map T.int).length ≤ SZ := by rw [List.length_map]; unfold SZ; omega
    exact en _ _ st1 (r1 ns hl1 hl) hl _ H1 F1 f1 sm1 (.inr (.inr (.inr ⟨a, ns, rfl, sf, rfl⟩))) trivial
  | _ => exact r1.elim⟩
/-- a list or a tuple, by HandS' words -/
theorem SeqV.sq {D : Wd} {B : Nat} {H F : L2.Hp} {st : St} {v : L2.V} {ts : List T} {chk : St → Prop} {K : PySem.W.Frag} (hK : D.K = K) (sm : Sim D B H F st) (q : SeqV D F v ts chk) (hc : chk st) :
    ∃ a xs, v = .ref a ∧ RepVs D F ts xs ∧ (L2.SqL K H a xs ∨ (L2.SqT K H a xs ∧ F a = some (.tup xs))) := by
  rcases q with ⟨a, xs, rfl, h, r⟩ | ⟨a, rfl, h⟩ | ⟨a, xs, rfl, h, r⟩ | ⟨a, ns, rfl, h, rfl⟩
  · exact ⟨a, xs, rfl, r, .inr ⟨sm.sqT h, h⟩⟩
  · obtain ⟨xs, _, sq, r⟩ := sm.sqL (K := K) (h st hc)
    exact ⟨a, xs, rfl, r, .inl sq⟩
  · exact ⟨a, xs, rfl, r, .inl (.of (sm.fr _ _ h))⟩
  · exact ⟨a, _, rfl, RepVs.of_ints, .inl (sqF_L (hK ▸ h) sm)⟩
def one (t : L2.TE) : L2.TA := fun σ H Q => t σ H fun x H1 => Q [x] H1
theorem pa_one {t : L2.TE} (h : PE Y a t) (hs : starEach [a] Y.env = (false, eval a Y.env) :: starEach [] Y.env) : PA Y [a] (one t) := PA.imp (L2.pa_cons h L2.pa_nil hs) fun σ H Q h => h
include G in
theorem s_tuple (h : PE Y e (L2.tCB (fun xs H Q => ∃ p ys, xs = [.ref p] ∧ ((L2.SqL Y.K H p ys ∧ ∀ l, H l = none → Q (.ref l) (L2.upd H l (.tup ys))) ∨ (L2.SqT Y.K H p ys ∧ Q (.ref p) H))) (one (LL V l)))) : PE Y e (LE V (.li .tuple l)) := PE.imp h fun σ H Q h => by
  obtain ⟨env, st, B, F, R, er, sm, hb, w, en⟩ := h
  simp only [wpE, liSem] at w
  simp only [cE] at hb en
  refine lL er sm hb w fun ts chk st1 v H1 F1 r1 l1 f1 sm1 q1 c1 e1 => ?_
  obtain ⟨p, ys, rfl, ra, q | ⟨q, q2⟩⟩ := q1.sq G.K sm1 c1
  · exact ⟨p, ys, rfl, .inl ⟨q, fun l hl => (en.mono f1 rfl).tup r1 sm1 hl ra⟩⟩
  · exact ⟨p, ys, rfl, .inr ⟨q, (en.mono f1 rfl).here r1 sm1 ⟨p, ys, rfl, q2, ra⟩⟩⟩
include G in
theorem s_list (h : PE Y e (L2.tCB (fun xs H Q => ∃ p ys, xs = [.ref p] ∧ (L2.SqL Y.K H p ys ∨ L2.SqT Y.K H p ys) ∧ ∀ l, H l = none → Q (.ref l) (L2.upd H l (.lst ys))) (one (LL V l)))) : PE Y e (LE V (.li .list l)) := PE.imp h fun σ H Q h => by
  obtain ⟨env, st, B, F, R, er, sm, hb, w, en⟩ := h
  simp only [wpE, liSem] at w
  simp only [cE] at hb en
  refine lL er sm hb w fun ts chk st1 v H1 F1 r1 l1 f1 sm1 q1 c1 e1 => ?_
  obtain ⟨p, ys, rfl, ra, q | ⟨q, q2⟩⟩ := q1.sq G.K sm1 c1
  · exact ⟨p, ys, rfl, .inl q, fun l hl => (en.mono f1 rfl).lst r1 sm1 hl ra⟩
  · exact ⟨p, ys, rfl, .inr q, fun l hl => (en.mono f1 rfl).lst r1 sm1 hl ra⟩
/-- a new list handed to a built-in -/
theorem s_fresh {f : Li} {r : List L2.V → L2.Hp → VK → Prop} (h : PE Y e (L2.tCB r (one (LF V l))))
    (hr : ∀ ts xs a B H F st R Q, liSem f ts st R → RepVs V.D F ts xs → L2.SqL Y.K H a xs → Sim V.D B H F st → End V.D B F R Q → r [.ref a] H Q) : PE Y e (LE V (.li f l)) := PE.imp h fun σ H Q h => by
  obtain ⟨env, st, B, F, R, er, sm, hb, w, en⟩ := h
  simp only [wpE] at w
  simp only [cE] at hb en
  exact lN er sm hb w fun ts st1 p xs H1 F1 r f n s q rp l _ => hr ts xs p _ H1 F1 st1 R Q r rp (.of (s.fr _ _ q)) s (en.mono f rfl)
theorem s_len {r} (h : PE Y e (L2.tCB (fun xs H Q => ∃ x n, xs = [x] ∧ L2.LenV Y.K x H n ∧ Q (.int n) H) r)) (hr : r = one (LF V l)) : PE Y e (LE V (.li .len l)) := by
  subst hr
  exact s_fresh h fun ts xs a B H F st R Q w ra sq sm en => ⟨_, ts.length, rfl, .inl ⟨xs, sq, ra.length⟩, en.here w sm rfl⟩
theorem s_sum (h : PE Y e (L2.tCB (L2.rSum Y.K) (one (LF V l)))) : PE Y e (LE V (.li .sum l)) :=
  s_fresh h fun ts xs a B H F st R Q w ra sq sm en => by
    obtain ⟨ns, rfl, w⟩ := w
    rw [ra.ints] at sq
    exact ⟨a, ns, rfl, sq, en.here w sm rfl⟩
theorem s_all (h : PE Y e (L2.tCB (L2.rAll Y.K) (one (LF V l)))) : PE Y e (LE V (.li .all l)) :=
  s_fresh h fun ts xs a B H F st R Q w ra sq sm en => by
    obtain ⟨ns, rfl, w⟩ := w
    rw [ra.bls] at sq
    exact ⟨a, ns, rfl, sq, en.here w sm rfl⟩
theorem s_any (h : PE Y e (L2.tCB (L2.rAny Y.K) (one (LF V l)))) : PE Y e (LE V (.li .any l)) :=
  s_fresh h fun ts xs a B H F st R Q w ra sq sm en => by
    obtain ⟨ns, rfl, w⟩ := w
    rw [ra.bls] at sq
    exact ⟨a, ns, rfl, sq, en.here w sm rfl⟩
theorem s_max (h : PE Y e (L2.tCB (L2.rMax Y.K) (one (LF V l)))) : PE Y e (LE V (.li .max l)) :=
  s_fresh h fun ts xs a B H F st R Q w ra sq sm en => by
    obtain ⟨ns, rfl, h0, w⟩ := w
    rw [ra.ints] at sq
    exact ⟨a, ns, rfl, sq, List.length_pos_iff.mpr h0, fun m h1 h2 => en.here (w m h1 h2) sm rfl⟩
theorem s_min (h : PE Y e (L2.tCB (L2.rMin Y.K) (one (LF V l)))) : PE Y e (LE V (.li .min l)) :=
  s_fresh h fun ts xs a B H F st R Q w ra sq sm en => by
    obtain ⟨ns, rfl, h0, w⟩ := w
    rw [ra.ints] at sq
    exact ⟨a, ns, rfl, sq, List.length_pos_iff.mpr h0, fun m h1 h2 => en.here (w m h1 h2) sm rfl⟩
theorem newK {D : Wd} {B : Nat} {H F : L2.Hp} {st : St} {p : Addr} {ts : List T} {ws : List L2.V} {F0 : L2.Hp} {R : List T → St → Prop} {Q : VK} (en : EndN D B F0 R Q) (f : L2.Same F0 F) (sm : Sim D B H F st) (hp : H p = none) (r : RepVs D F ts ws) (hl : ts.length ≤ SZ) (w : R ts st) : Q (.ref p) (L2.upd H p (.lst ws)) := by
  have np := sm.noF hp
  have nF : F0 p = none := by
    cases z : F0 p with
    | none => rfl
    | some o => rw [f p o z] at np; cases np
  exact en ts st w p ws _ (L2.upd F p (.lst ws)) (same_updN f nF) nF (sm.know _ hp) L2.upd_same (r.mono (same_upd np)) hl
theorem s_srt (h : PE Y e (L2.tCB (rSrt V.D) (one (LF V l)))) : PE Y e (LF V (.srt l)) := PE.imp h fun σ H Q h => by
  obtain ⟨env, st, B, F, R, er, sm, hb, w, en⟩ := h
  simp only [wpL, srtSem] at w
  simp only [cL] at hb en
  exact lN er sm hb w fun ts st1 p xs H1 F1 r f n s q rp l _ => ⟨p, xs, ts, _, F1, st1, rfl, .of (s.fr _ _ q), rp, s, r.1, fun p' ws hp' rw' hl => newK en f s hp' rw' hl r.2⟩
theorem s_srtE (h : PE Y e (L2.tCB (fun xs H Q => rSrt V.D xs H Q ∨ rSrtD V.D xs H Q) (one (LE V x)))) : PE Y e (LF V (.srtE x)) := PE.imp h fun σ H Q h => by
  obtain ⟨env, st, B, F, R, er, sm, hb, w, en⟩ := h
  simp only [wpL, srtSem] at w
  simp only [cL] at hb en
  refine lE er sm hb w fun t st1 v H1 F1 r1 f1 sm1 q1 e1 => ?_
  obtain ⟨a, ts, rfl, e, r1⟩ := r1
  cases q1
  rcases e with e | ⟨kvs, e, rfl⟩
  · obtain ⟨ys, _, sq, ra⟩ := sm1.sqL (K := V.D.K) e
    exact .inl ⟨a, ys, ts, _, F1, st1, rfl, sq, ra, sm1, r1.1, fun p' ws hp' rw' hl => newK en f1 sm1 hp' rw' hl r1.2⟩
  · exact .inr ⟨a, kvs, _, F1, st1, rfl, sm1, e, r1.1, fun p' ws F' f' sm' hp' rw' hl => newK en (f1.trans f') sm' hp' rw' hl r1.2⟩
def tItems (V : Lv) (x : X) : L2.TE := L2.tBM0 V.D.K "dict" L2.DX.rItemsT (LE V x)
theorem s_items (h : PE Y e (L2.tCB (rSrtI V.D) (one (tItems V x)))) (hK : V.D.K = Y.K) : PE Y e (LF V (.items x)) := PE.imp h fun σ H Q h => by
  obtain ⟨env, st, B, F, R, er, sm, hb, w, en⟩ := h
  simp only [wpL, srtSem] at w
  simp only [cL] at hb en
  refine lE er sm hb w fun t st1 v H1 F1 r1 f1 sm1 q1 e1 => ?_
  obtain ⟨a, kvs, rfl, e, r1⟩ := r1
  cases q1
  obtain ⟨_, u, hu', ks, rfl, rk⟩ := sm1.ob a _ e
  refine ⟨.inr (.inr (.inl ⟨rfl, .inr ⟨_, hu'⟩⟩)), a, ks, rfl, rfl, hu', fun p hp => ?_⟩
  exact ⟨p, a, kvs, _, F1, st1, rfl, L2.upd_same, sm1.alloc _ hp, e, r1.1, fun l ws H' F' f' sm' hl rw' hz => newK en (f1.trans f') sm' hl rw' hz r1.2⟩
end
end Mo

set_option Elab.async false
set_option linter.all false
set_option maxRecDepth 100000
set_option maxHeartbeats 2000000
set_option autoImplicit false
/-! a list (k = false) or a tuple (k = true) gone through: alone, numbered, by twos, by threes -/
namespace Mo
open PySem PySem.Spec PyProof.Rows
open L2 (Inv EP TP AP SP RelV Vals OpR UnR CallR VK R2 PE PT PW PA PO PS PSs Gl Vis Loc It Turn TI PI PIE FpOk V HO Hp)

def SqB (K : PySem.W.Frag) (k : Bool) (H : Hp) (a : Addr) (xs : List V) : Prop := match k with
  | true => L2.SqT K H a xs
  | false => L2.SqL K H a xs
def ItB (k : Bool) (h : Heap) (it a : Addr) (i : Nat) : Prop := match k with
  | true => h.IsTupleIter it a i
  | false => h.IsListIter it a i
def SeqB (k : Bool) (h : Heap) (a : Addr) (its : Array Value) : Prop := match k with
  | true => h.IsTuple a its
  | false => h.IsList a its
def objB (k : Bool) (a : Addr) : Obj := match k with
  | true => { cls := .type "tuple_iterator", data := .fields #[.ref a, .int 0 0] }
  | false => { cls := .type "list_iterator", data := .fields #[.ref a, .int 0 0] }
theorem begB (k : Bool) (a : Addr) (its : Array Value) : Begins (.ref a) (objB k a) fun h => SeqB k h a its := by
  cases k
  · exact begins_list a its
  · exact begins_tuple a its
theorem ItB.of {k : Bool} {h : Heap} {it a : Addr} (e : h.get? it = some (objB k a)) : ItB k h it a 0 := by
  cases k
  · exact ⟨_, e, rfl, rfl⟩
  · exact ⟨_, e, rfl, rfl⟩
theorem ItB.at {k : Bool} {h h' : Heap} {it a : Addr} {i : Nat} (q : ItB k h it a i) (e : ∀ o, h.get? it = some o → h'.get? it = some o) : ItB k h' it a i := by
  cases k
  · exact Heap.IsListIter.at q e
  · exact Heap.IsTupleIter.at q e
theorem ItB.obj {k : Bool} {h : Heap} {it a : Addr} {i : Nat} (q : ItB k h it a i) : ∃ o, h.get? it = some o ∧ ∀ v, o.data ≠ .cell v := by
  cases k <;> (obtain ⟨o, e, _, d⟩ := q; exact ⟨o, e, fun v z => by rw [d] at z; cases z⟩)
theorem drB {prog : Program} {w : World} {A : Around} (k : Bool) (hh : A.handled = none) (it a : Addr) (hne : a ≠ it) (its : Array Value) :
    Draws prog w A it [it, a] its.size (fun i v => its[i]? = some v) (fun i h => ItB k h it a i ∧ SeqB k h a its) := by
  cases k
  · exact Draws.list hh it a hne its
  · exact Draws.tuple hh it a hne its
section
variable {X : L2.Cx} {pins : List (Addr × Obj)} {σ : L2.St} {H : Hp} {s : Shared} {k : Bool} {a : Addr} {xs ys : List V}
theorem sqB_its (I : Inv X pins σ H s) (h : SqB X.K k H a xs) : ∃ its : List Value, Vals xs its ∧ SeqB k s.heap a its.toArray ∧ a < s.heap.objs.size := by
  cases k
  · obtain ⟨its, r, p, _⟩ := I.list h
    exact ⟨its, r, p.isList, p.lt⟩
  · obtain ⟨its, r, p, _⟩ := I.tuple h
    obtain ⟨o, e, _⟩ := id p
    exact ⟨its, r, p, Heap.lt_size e⟩
theorem sqB_inj (I : Inv X pins σ H s) (h : SqB X.K k H a xs) (h' : SqB X.K k H a ys) : xs = ys := by
  cases k
  · exact I.list_inj h h'
  · exact I.tuple_inj h h'
end

/-! alone -/
def ItA (K : PySem.W.Frag) (k : Bool) (a : Addr) : It := match k with
  | true => L2.Itt K a
  | false => L2.Itl K a
/-- one of the two -/
def iSq (K : PySem.W.Frag) (tl : L2.TE) : TI := fun σ H R => tl σ H fun x H1 => ∃ a xs k, x = .ref a ∧ SqB K k H1 a xs ∧ R (ItA K k a) H1
theorem pi_sq {X : L2.Cx} {tg l : Expr} {tl : L2.TE} (hl : PE X l tl) : PI X tg l (iSq X.K tl) := by
  refine ⟨fun pins s σ H R I h => ?_⟩
  refine L2.thn (hl.run pins s σ H _ I h) fun v s1 ⟨x, H1, I1, r1, q1⟩ => ?_
  obtain ⟨a, xs, k, e, hq, q⟩ := q1
  subst e
  cases r1
  cases k
  · obtain ⟨its, rv, p, hz⟩ := I1.list hq
    refine wpAny_pyIter_list p.isList ?_
    refine ⟨s1.heap.objs.size, [s1.heap.objs.size], _, _, H1, rfl, I1.kept (t' := s1.toks) fun b o e => Heap.get?_push_of_some _ e, L2.turn_list a _, ⟨_, Heap.get?_push_size _ rfl, rfl, rfl⟩, fun b hb => ?_, q⟩
    have e : b = s1.heap.objs.size := by simpa using hb
    subst e
    exact I1.fpOk (Nat.le_refl _) (I1.hok.fresh (Nat.le_refl _))
  · obtain ⟨its, rv, p, hz⟩ := I1.tuple hq
    refine wpAny_pyIter_tuple (show s1.heap.IsTuple a its.toArray from p) ?_
    refine ⟨s1.heap.objs.size, [s1.heap.objs.size], _, _, H1, rfl, I1.kept (t' := s1.toks) fun b o e => Heap.get?_push_of_some _ e, L2.turn_tuple a _, ⟨_, Heap.get?_push_size _ rfl, rfl, rfl⟩, fun b hb => ?_, q⟩
    have e : b = s1.heap.objs.size := by simpa using hb
    subst e
    exact I1.fpOk (Nat.le_refl _) (I1.hok.fresh (Nat.le_refl _))

/-! numbered -/
def ItE (K : PySem.W.Frag) (k : Bool) (a : Addr) : It :=
  ⟨fun i H => ∃ (xs : List V) (x : V), SqB K k H a xs ∧ xs[i]? = some x, fun i H v H' => ∃ T x, v = .ref T ∧ H T = none ∧ H' = L2.upd H T (.tup [.int (i : Nat), x]) ∧ ∀ xs, SqB K k H a xs → xs[i]? = some x, fun i H => ∃ xs : List V, SqB K k H a xs ∧ xs.length = i⟩
theorem turn_en {P : Program} {w : World} {K : PySem.W.Frag} {elts : List Expr} {kk : Nat} {tpos : Pos} (k : Bool) (a e it : Addr) (hna : a ≠ e) (hni : a ≠ it) :
    Turn P w K (.Tuple elts kk tpos) (ItE K k a) [e, it] e (fun i h => (∃ old, IsEnum h e it ((i : Nat) : Int) old) ∧ ItB k h it a i ∧ e ≠ it) where
  mem := by simp
  obj := fun i h st b hb => by
    obtain ⟨⟨old, he⟩, hi, _⟩ := st
    have e' : b = e ∨ b = it := by simpa using hb
    rcases e' with z | z
    · rw [z]; exact ⟨_, he, fun v q => nomatch q⟩
    · rw [z]; exact hi.obj
  keep := fun i h h' st k => let ⟨⟨old, he⟩, hi, hne⟩ := st; ⟨⟨old, k e (by simp) _ he⟩, hi.at fun o q => k it (by simp) o q, hne⟩
  item := by
    intro X hP hw hK hc i pins s σ H E I hf st hg
    subst hP hw hK
    obtain ⟨⟨old, he⟩, hit, hne⟩ := st
    obtain ⟨xs, x, hq, hx⟩ := hg
    obtain ⟨its, rv, p, hz⟩ := sqB_its I hq
    obtain ⟨u, hu, ru⟩ := rv.get hx
    have hel : e < s.heap.objs.size := Heap.lt_size he
    have hil : it < s.heap.objs.size := by obtain ⟨_, q, _⟩ := hit.obj; exact Heap.lt_size q
    refine wpAny_pyNext_enum_itemD (drB (A := X.A.in1) k (I.ok.hd hc) it a hni its.toArray) he ⟨hit, p⟩ (by rw [List.size_toArray, ← rv.length]; exact (List.getElem?_eq_some_iff.mp hx).1) hne (by simp only [List.mem_cons, List.not_mem_nil, or_false, not_or]; exact ⟨hne, Ne.symm hna⟩) fun y h' tk hP ho hit' hT hsz hk => ?_
    have ey : y = u := by simpa [hu] using hP.symm
    subst ey
    refine ⟨_, rfl, wpAny_letOwnedTupleGo_enum (s := { s with heap := h', toks := tk + 1 }) ho fun h'' he' sb => ?_⟩
    have hT2 : h''.get? s.heap.objs.size = some { cls := .type "tuple", data := .seq #[.int i tk, y] } := (sb.2 _ (Nat.ne_of_gt hel)).trans hT
    have new : L2.ObjOk X.prog X.w (L2.upd H s.heap.objs.size (.tup [.int (i : Nat), x])) h'' s.heap.objs.size (.tup [.int (i : Nat), x]) :=
      ⟨by show 2 ≤ sizeLine; decide, [.int i tk, y], .cons ⟨_, rfl⟩ (.cons ru .nil), ⟨_, hT2, rfl, _, rfl⟩⟩
    have I1 : Inv X pins σ (L2.upd H s.heap.objs.size (.tup [.int (i : Nat), x])) { s with heap := h'', toks := tk + 1 } :=
      I.turnedNew (ch := [e, it]) (fun b ob hb q => (sb.2 b (fun z => hb (by simp [z]))).trans (hk b ob (fun z => hb (by simp [z])) (fun z => hb (by simp [z])) q)) hf (Nat.le_refl _) new
    refine ⟨.ref s.heap.objs.size, _, I1, rfl, ⟨_, x, rfl, I.hok.fresh (Nat.le_refl _), rfl, fun ys hy => by rw [sqB_inj I hy hq]; exact hx⟩, ⟨⟨y, ?_⟩, hit'.1.at fun o q => (sb.2 it (Ne.symm hne)).trans q, hne⟩, fun b hb => ?_⟩
    · have e1 : ((i + 1 : Nat) : Int) = (i : Int) + 1 := by omega
      rw [e1]; exact he'
    · have hb' : b < s.heap.objs.size := by
        have e' : b = e ∨ b = it := by simpa using hb
        rcases e' with z | z
        · rw [z]; exact hel
        · rw [z]; exact hil
      rw [L2.upd_ne (Nat.ne_of_lt hb')]
      exact (hf b hb).1
  done := by
    intro X hP hw hK hc i pins s σ H E I hf st hg
    subst hP hw hK
    obtain ⟨⟨old, he⟩, hit, hne⟩ := st
    obtain ⟨xs, hq, hx⟩ := hg
    obtain ⟨its, rv, p, hz⟩ := sqB_its I hq
    obtain ⟨f0, f1, f2, f3, f4, f5⟩ := hf it (by simp)
    have hl := rv.length
    have ei : i = its.toArray.size := by rw [List.size_toArray]; omega
    refine wpAny_pyNext_enum_endD (drB (A := X.A.in1) k (I.ok.hd hc) it a hni its.toArray) he (ei ▸ ⟨hit, p⟩) fun h' eb => ⟨rfl, I.turned (t' := s.toks) (fun b o hb q => eb b o hb q) f0 f1 f3 f4 f5⟩
  self := fun A i s Q E st h => let ⟨⟨_, he⟩, _⟩ := st; wpAny_pyIter_enum he h
set_option maxHeartbeats 4000000 in
theorem meets_en_newB {v : Value} {o : Obj} {H : Heap → Prop} (B : Begins v o H) :
    Meets (Builtin.«enumerate.__new__» ⟨[.type "enumerate", v], []⟩) (fun _ R s => H s.heap ∧
      R (.ok (.ret (.ref (s.heap.push o).objs.size))) { s with heap := (s.heap.push o).push { cls := .type "enumerate", data := .fields #[.none, .bool false, .ref s.heap.objs.size, rawInt 0, .none, .none] } }) :=
  .of_wp fun prog w A R s h => by
    obtain ⟨hp, g, d, tk, os⟩ := s; obtain ⟨h1, h⟩ := h
    have hsub := sub_enumerate
    have q1 : ∀ {A' : Around} {E : Value → Shared → Prop} {Q : Value → Shared → Prop}, Q (.ref hp.objs.size) ⟨hp.push o, g, d, tk, os⟩ → wpAny (model prog w) A' (pyIter v) Q E ⟨hp, g, d, tk, os⟩ :=
      fun q => B.iter prog w _ _ ⟨hp, g, d, tk, os⟩ _ h1 q
    wp_walk using q1
    refine wpAny_stack_any fun st => wpAny_pure ?_
    split
    · rename_i c _ _ _ _ _
      cases (c == Value.type "enumerate")
      · wp_walk using q1
        exact ⟨_, rfl, h⟩
      · wp_walk using q1
        exact ⟨_, rfl, h⟩
    · wp_walk using q1
      exact ⟨_, rfl, h⟩
theorem en_begins {prog : Program} {w : World} {A : Around} {E : Value → Shared → Prop} {s : Shared} {v : Value} {o : Obj} {H : Heap → Prop} {Q : Value → Shared → Prop} (B : Begins v o H) (h1 : H s.heap)
    (h : ∀ h', IsEnum h' (s.heap.objs.size + 1) s.heap.objs.size 0 .none → h'.get? s.heap.objs.size = some o → h'.objs.size = s.heap.objs.size + 2 →
      (∀ b o, s.heap.get? b = some o → h'.get? b = some o) → Q (.ref (s.heap.objs.size + 1)) { s with heap := h' }) :
    wpAny (model prog w) A (PySem.call (.type "enumerate") [v]) Q E s := by
  refine callType_new F.called_enumerate (by decide) (F.typeCall_enumerate_1 _) (F.newCall_enumerate_1 _) (fun obj => F.args_object_init_2 obj _) F.entry_enumerate_new
    (meets_en_newB B) ⟨h1, ?_⟩
  have hz : (s.heap.push o).objs.size = s.heap.objs.size + 1 := Heap.size_push ..
  show _ ∧ _
  rw [hz]
  have he : IsEnum ((s.heap.push o).push { cls := .type "enumerate", data := .fields #[.none, .bool false, .ref s.heap.objs.size, rawInt 0, .none, .none] }) (s.heap.objs.size + 1) s.heap.objs.size 0 .none := by
    have := Heap.get?_push_size (s.heap.push o) (o := { cls := .type "enumerate", data := .fields #[.none, .bool false, .ref s.heap.objs.size, rawInt 0, .none, .none] }) rfl
    rw [hz] at this; exact this
  refine ⟨⟨_, he, rfl⟩, h _ he (Heap.get?_push_of_some _ (Heap.get?_push_size _ B.free)) (by rw [Heap.size_push, hz]) fun b o x => Heap.get?_push_of_some _ (Heap.get?_push_of_some _ x)⟩
def iEn (K : PySem.W.Frag) (ta : L2.TA) : TI := fun σ H R => ta σ H fun vs H1 => ∃ a xs k, vs = [.ref a] ∧ SqB K k H1 a xs ∧ R (ItE K k a) H1
theorem pi_en {X : L2.Cx} {e : Expr} {ta : L2.TA} {p pos tpos : Pos} {elts : List Expr} {kk : Nat} (hg : Gl X "enumerate") (hm : X.mg "enumerate" = none) (ha : PA X [e] ta) (hs : starEach [e] X.env = [(false, eval e X.env)]) :
    PI X (.Tuple elts kk tpos) (.Call (.Name "enumerate" p) [e] [] pos) (iEn X.K ta) := by
  refine ⟨fun pins s σ H R I h => ?_⟩
  refine Call_ (L2.ld_blt I hg hm boot_enumerate (PyProof.Rows.callWith_type1 (L2.thn (ha.run pos pins s σ H _ I h) fun us s1 ⟨vs, H1, I1, r1, q1⟩ => ?_) hs rfl))
  obtain ⟨a, xs, k, ex, hq, q⟩ := q1
  subst ex
  cases r1 with
  | cons r rr =>
    cases rr
    cases r
    obtain ⟨its, rv, p', hz⟩ := sqB_its I1 hq
    refine en_begins (begB k a its.toArray) p' fun h' he hit hsz hk => wpAny_pyIter_enum he ?_
    have I2 : Inv X pins σ H1 { s1 with heap := h' } := I1.kept (t' := s1.toks) hk
    refine ⟨s1.heap.objs.size + 1, [s1.heap.objs.size + 1, s1.heap.objs.size], _, _, H1, rfl, I2, turn_en k a (s1.heap.objs.size + 1) s1.heap.objs.size (Nat.ne_of_lt (Nat.lt_succ_of_lt hz)) (Nat.ne_of_lt hz), ⟨⟨.none, he⟩, .of hit, Nat.succ_ne_self _⟩, fun b hb => ?_, q⟩
    have e' : b = s1.heap.objs.size + 1 ∨ b = s1.heap.objs.size := by simpa using hb
    have hle : s1.heap.objs.size ≤ b := by
      rcases e' with z | z
      · rw [z]; exact Nat.le_add_right _ _
      · rw [z]; exact Nat.le_refl _
    exact I1.fpOk hle (I1.hok.fresh hle)

/-! by 2 -/
def ItZ2 (K : PySem.W.Frag) (k1 k2 : Bool) (l1 l2 : Addr) : It :=
  ⟨fun i H => ∃ (xs1 xs2 : List V) (x1 x2 : V), SqB K k1 H l1 xs1 ∧ xs1[i]? = some x1 ∧ SqB K k2 H l2 xs2 ∧ xs2[i]? = some x2,
    fun i H v H' => ∃ T x1 x2, v = .ref T ∧ H T = none ∧ H' = L2.upd H T (.tup [x1, x2]) ∧ (∀ xs, SqB K k1 H l1 xs → xs[i]? = some x1) ∧ (∀ xs, SqB K k2 H l2 xs → xs[i]? = some x2),
    fun i H => ∃ xs1 xs2 : List V, SqB K k1 H l1 xs1 ∧ SqB K k2 H l2 xs2 ∧ i ≤ xs1.length ∧ i ≤ xs2.length ∧ (i = xs1.length ∨ i = xs2.length)⟩
theorem turn_z2 {P : Program} {w : World} {K : PySem.W.Frag} {elts : List Expr} {kk : Nat} {tpos : Pos} {k1 k2 : Bool} {l1 l2 z TI TO i1 i2 : Addr} (S : ZipSep2 z TI TO i1 i2 [i1, l1] [i2, l2]) (hl1 : l1 ≠ i1) (hl2 : l2 ≠ i2) :
    Turn P w K (.Tuple elts kk tpos) (ItZ2 K k1 k2 l1 l2) [z, TI, TO, i1, i2] z (fun i h => IsZip h z TI TO .none ∧ IsTupOf2 h TI (.ref i1) (.ref i2) ∧ (∃ a1 a2, IsTupOf2 h TO a1 a2) ∧ ItB k1 h i1 l1 i ∧ ItB k2 h i2 l2 i) where
  mem := by simp
  obj := fun i h st c hc => by
    obtain ⟨hz, hTI, ⟨a1, a2, hTO⟩, h1, h2⟩ := st
    have e' : c = z ∨ c = TI ∨ c = TO ∨ c = i1 ∨ c = i2 := by simpa using hc
    rcases e' with q | q | q | q | q
    · rw [q]; exact ⟨_, hz, fun v q => nomatch q⟩
    · rw [q]; exact ⟨_, hTI, fun v q => nomatch q⟩
    · rw [q]; exact ⟨_, hTO, fun v q => nomatch q⟩
    · rw [q]; exact h1.obj
    · rw [q]; exact h2.obj
  keep := fun i h h' st k => by
    obtain ⟨hz, hTI, ⟨a1, a2, hTO⟩, h1, h2⟩ := st
    exact ⟨k z (by simp) _ hz, k TI (by simp) _ hTI, ⟨a1, a2, k TO (by simp) _ hTO⟩, h1.at fun o q => k i1 (by simp) o q, h2.at fun o q => k i2 (by simp) o q⟩
  item := by
    intro X hP hw hK hc i pins s σ H E I hf st hg
    subst hP hw hK
    obtain ⟨hz, hTI, ⟨a1, a2, hTO⟩, h1, h2⟩ := st
    obtain ⟨xs1, xs2, x1, x2, hq1, hx1, hq2, hx2⟩ := hg
    obtain ⟨its1, rv1, p1, _⟩ := sqB_its I hq1
    obtain ⟨u1, hu1, ru1⟩ := rv1.get hx1
    have hi1 : i1 < s.heap.objs.size := by obtain ⟨_, q, _⟩ := h1.obj; exact Heap.lt_size q
    obtain ⟨its2, rv2, p2, _⟩ := sqB_its I hq2
    obtain ⟨u2, hu2, ru2⟩ := rv2.get hx2
    have hi2 : i2 < s.heap.objs.size := by obtain ⟨_, q, _⟩ := h2.obj; exact Heap.lt_size q
    have hzl : z < s.heap.objs.size := Heap.lt_size hz
    refine wpAny_pyNext_zipD2_item S (drB (A := X.A.in1) k1 (I.ok.hd hc) i1 l1 hl1 its1.toArray) (drB (A := X.A.in1) k2 (I.ok.hd hc) i2 l2 hl2 its2.toArray) hz hTI hTO ⟨h1, p1⟩ ⟨h2, p2⟩ (by rw [List.size_toArray, ← rv1.length]; exact (List.getElem?_eq_some_iff.mp hx1).1) (by rw [List.size_toArray, ← rv2.length]; exact (List.getElem?_eq_some_iff.mp hx2).1) fun y1 y2 h' tk hy1 hy2 z' TO' h1' h2' hT hsz hk => ?_
    have ey1 : y1 = u1 := by simpa [hu1] using hy1.symm
    subst ey1
    have ey2 : y2 = u2 := by simpa [hu2] using hy2.symm
    subst ey2
    refine ⟨_, rfl, wpAny_letOwnedTupleGo_zip (s := { s with heap := h', toks := tk }) z' fun h'' z'' sb => ?_⟩
    have hT2 : h''.get? s.heap.objs.size = some { cls := .type "tuple", data := .seq #[y1, y2] } := (sb.2 _ (Nat.ne_of_gt hzl)).trans hT
    have new : L2.ObjOk X.prog X.w (L2.upd H s.heap.objs.size (.tup [x1, x2])) h'' s.heap.objs.size (.tup [x1, x2]) :=
      ⟨by show 2 ≤ sizeLine; decide, [y1, y2], .cons ru1 ( .cons ru2 ( .nil )), ⟨_, hT2, rfl, _, rfl⟩⟩
    have I1 : Inv X pins σ (L2.upd H s.heap.objs.size (.tup [x1, x2])) { s with heap := h'', toks := tk } :=
      I.turnedNew (ch := [z, TI, TO, i1, i2]) (fun c o hb q => (sb.2 c (fun q' => hb (by simp [q']))).trans (hk c o (fun q' => hb (by simp [q'])) (fun q' => hb (by simp [q'])) (fun q' => hb (by simp [q'])) (fun q' => hb (by simp [q'])) q)) hf (Nat.le_refl _) new
    refine ⟨.ref s.heap.objs.size, _, I1, rfl, ⟨_, x1, x2, rfl, I.hok.fresh (Nat.le_refl _), rfl, fun l hl => by rw [sqB_inj I hl hq1]; exact hx1, fun l hl => by rw [sqB_inj I hl hq2]; exact hx2⟩, ⟨z'', ?_, ⟨y1, y2, ?_⟩, ?_, ?_⟩, fun c hcm => ?_⟩
    · exact (sb.2 _ S.TIz).trans (hk _ _ S.TIz S.TITO S.TIi1 S.TIi2 hTI)
    · exact (sb.2 _ S.TOz).trans TO'
    · exact h1'.1.at fun o q => (sb.2 _ (Ne.symm S.zi1)).trans q
    · exact h2'.1.at fun o q => (sb.2 _ (Ne.symm S.zi2)).trans q
    · have hlt : c < s.heap.objs.size := by
        have e' : c = z ∨ c = TI ∨ c = TO ∨ c = i1 ∨ c = i2 := by simpa using hcm
        rcases e' with q | q | q | q | q
        · rw [q]; exact hzl
        · rw [q]; exact Heap.lt_size hTI
        · rw [q]; exact Heap.lt_size hTO
        · rw [q]; exact hi1
        · rw [q]; exact hi2
      rw [L2.upd_ne (Nat.ne_of_lt hlt)]
      exact (hf c hcm).1
  done := by
    intro X hP hw hK hc i pins s σ H E I hf st hg
    subst hP hw hK
    obtain ⟨hz, hTI, ⟨a1, a2, hTO⟩, h1, h2⟩ := st
    obtain ⟨xs1, xs2, hq1, hq2, le1, le2, hend⟩ := hg
    obtain ⟨its1, rv1, p1, _⟩ := sqB_its I hq1
    have n1 := rv1.length
    obtain ⟨its2, rv2, p2, _⟩ := sqB_its I hq2
    have n2 := rv2.length
    exact wpAny_pyNext_zipD2_end S (drB (A := X.A.in1) k1 (I.ok.hd hc) i1 l1 hl1 its1.toArray) (drB (A := X.A.in1) k2 (I.ok.hd hc) i2 l2 hl2 its2.toArray) hz hTI hTO ⟨h1, p1⟩ ⟨h2, p2⟩ (by rw [List.size_toArray]; omega) (by rw [List.size_toArray]; omega) (by simp only [List.size_toArray]; omega) fun h' tk hk => ⟨rfl, I.turnedL (ch := [z, TI, TO, i1, i2]) (fun c o hb q =>
      hk c o (fun q' => hb (by simp [q'])) (fun q' => hb (by simp [q'])) (fun q' => hb (by simp [q'])) (fun q' => hb (by simp [q'])) q) hf⟩
  self := fun A i s Q E st h => wpAny_pyIter_zip st.1 h

def iZ2 (K : PySem.W.Frag) (ta : L2.TA) : TI := fun σ H R => ta σ H fun vs H1 => ∃ l1 l2 xs1 xs2 k1 k2, vs = [.ref l1, .ref l2] ∧ SqB K k1 H1 l1 xs1 ∧ SqB K k2 H1 l2 xs2 ∧ R (ItZ2 K k1 k2 l1 l2) H1
theorem pi_z2 {X : L2.Cx} {e : Expr} {es : List Expr} {ta : L2.TA} {p pos tpos : Pos} {elts : List Expr} {kk : Nat} (hg : Gl X "zip") (hm : X.mg "zip" = none) (ha : PA X (e :: es) ta)
    (hs : starEach (e :: es) X.env = (false, eval e X.env) :: starEach es X.env) (hpl : (backTo pos (starEach es X.env)).any (·.1) = false) :
    PI X (.Tuple elts kk tpos) (.Call (.Name "zip" p) (e :: es) [] pos) (iZ2 X.K ta) := by
  refine ⟨fun pins s σ H R I h => ?_⟩
  refine Call_ (L2.ld_blt I hg hm PyProof.Rows.boot_zip (PyProof.Rows.callWith_type1 (L2.thn (ha.run pos pins s σ H _ I h) fun us s1 ⟨vs, H1, I1, r1, q1⟩ => ?_) hs hpl))
  obtain ⟨l1, l2, xs1, xs2, k1, k2, ex, hq1, hq2, q⟩ := q1
  subst ex
  cases r1 with
  | cons q1 r2 =>
    cases r2 with
    | cons q2 r3 =>
      cases r3
      cases q1
      cases q2
      obtain ⟨its1, rv1, p1, z1⟩ := sqB_its I1 hq1
      obtain ⟨its2, rv2, p2, z2⟩ := sqB_its I1 hq2
      have fresh : ∀ c, c ∈ [s1.heap.objs.size + 4, s1.heap.objs.size + 2, s1.heap.objs.size + 3, s1.heap.objs.size, s1.heap.objs.size + 1] → FpOk X pins H1 c := fun c hcm => by
        have hle : s1.heap.objs.size ≤ c := by
          have e' : c = s1.heap.objs.size + 4 ∨ c = s1.heap.objs.size + 2 ∨ c = s1.heap.objs.size + 3 ∨ c = s1.heap.objs.size ∨ c = s1.heap.objs.size + 1 := by simpa using hcm
          rcases e' with z | z | z | z | z <;> rw [z] <;> first | exact Nat.le_refl _ | exact Nat.le_add_right _ _
        exact I1.fpOk hle (I1.hok.fresh hle)
      refine zip_begins2 (begB k1 l1 its1.toArray) (begB k2 l2 its2.toArray) p1 p2 fun h' hz hTI hTO g1 g2 hsz hk => wpAny_pyIter_zip hz ?_
      have I2 : Inv X pins σ H1 { s1 with heap := h' } := I1.kept (t' := s1.toks) hk
      generalize hS : s1.heap.objs.size = S at *
      have w1 : l1 < S := z1
      have w2 : l2 < S := z2
      have sep : ZipSep2 (S + 4) (S + 2) (S + 3) S (S + 1) [S, l1] [S + 1, l2] := by
        constructor <;> first | (simp only [List.mem_cons, List.not_mem_nil, or_false, not_or, ne_eq, true_or]; done) | (simp only [List.mem_cons, List.not_mem_nil, or_false, not_or, ne_eq]; (try constructor) <;> (intro e; have e' : (_ : Nat) = _ := e; simp only [Addr] at *; omega)) | (intro e; simp only [Addr] at *; omega)
      exact ⟨S + 4, [S + 4, S + 2, S + 3, S, S + 1], _, _, H1, rfl, I2, turn_z2 sep (fun e => by simp only [Addr] at *; omega) (fun e => by simp only [Addr] at *; omega), ⟨hz, hTI, ⟨_, _, hTO⟩, .of g1, .of g2⟩, fresh, q⟩

/-! by 3 -/
def ItZ3 (K : PySem.W.Frag) (k1 k2 k3 : Bool) (l1 l2 l3 : Addr) : It :=
  ⟨fun i H => ∃ (xs1 xs2 xs3 : List V) (x1 x2 x3 : V), SqB K k1 H l1 xs1 ∧ xs1[i]? = some x1 ∧ SqB K k2 H l2 xs2 ∧ xs2[i]? = some x2 ∧ SqB K k3 H l3 xs3 ∧ xs3[i]? = some x3,
    fun i H v H' => ∃ T x1 x2 x3, v = .ref T ∧ H T = none ∧ H' = L2.upd H T (.tup [x1, x2, x3]) ∧ (∀ xs, SqB K k1 H l1 xs → xs[i]? = some x1) ∧ (∀ xs, SqB K k2 H l2 xs → xs[i]? = some x2) ∧ (∀ xs, SqB K k3 H l3 xs → xs[i]? = some x3),
    fun i H => ∃ xs1 xs2 xs3 : List V, SqB K k1 H l1 xs1 ∧ SqB K k2 H l2 xs2 ∧ SqB K k3 H l3 xs3 ∧ i ≤ xs1.length ∧ i ≤ xs2.length ∧ i ≤ xs3.length ∧ (i = xs1.length ∨ i = xs2.length ∨ i = xs3.length)⟩
theorem turn_z3 {P : Program} {w : World} {K : PySem.W.Frag} {elts : List Expr} {kk : Nat} {tpos : Pos} {k1 k2 k3 : Bool} {l1 l2 l3 z TI TO i1 i2 i3 : Addr} (S : ZipSep3 z TI TO i1 i2 i3 [i1, l1] [i2, l2] [i3, l3]) (hl1 : l1 ≠ i1) (hl2 : l2 ≠ i2) (hl3 : l3 ≠ i3) :
    Turn P w K (.Tuple elts kk tpos) (ItZ3 K k1 k2 k3 l1 l2 l3) [z, TI, TO, i1, i2, i3] z (fun i h => IsZip h z TI TO .none ∧ IsTupOf3 h TI (.ref i1) (.ref i2) (.ref i3) ∧ (∃ a1 a2 a3, IsTupOf3 h TO a1 a2 a3) ∧ ItB k1 h i1 l1 i ∧ ItB k2 h i2 l2 i ∧ ItB k3 h i3 l3 i) where
  mem := by simp
  obj := fun i h st c hc => by
    obtain ⟨hz, hTI, ⟨a1, a2, a3, hTO⟩, h1, h2, h3⟩ := st
    have e' : c = z ∨ c = TI ∨ c = TO ∨ c = i1 ∨ c = i2 ∨ c = i3 := by simpa using hc
    rcases e' with q | q | q | q | q | q
    · rw [q]; exact ⟨_, hz, fun v q => nomatch q⟩
    · rw [q]; exact ⟨_, hTI, fun v q => nomatch q⟩
    · rw [q]; exact ⟨_, hTO, fun v q => nomatch q⟩
    · rw [q]; exact h1.obj
    · rw [q]; exact h2.obj
    · rw [q]; exact h3.obj
  keep := fun i h h' st k => by
    obtain ⟨hz, hTI, ⟨a1, a2, a3, hTO⟩, h1, h2, h3⟩ := st
    exact ⟨k z (by simp) _ hz, k TI (by simp) _ hTI, ⟨a1, a2, a3, k TO (by simp) _ hTO⟩, h1.at fun o q => k i1 (by simp) o q, h2.at fun o q => k i2 (by simp) o q, h3.at fun o q => k i3 (by simp) o q⟩
  item := by
    intro X hP hw hK hc i pins s σ H E I hf st hg
    subst hP hw hK
    obtain ⟨hz, hTI, ⟨a1, a2, a3, hTO⟩, h1, h2, h3⟩ := st
    obtain ⟨xs1, xs2, xs3, x1, x2, x3, hq1, hx1, hq2, hx2, hq3, hx3⟩ := hg
    obtain ⟨its1, rv1, p1, _⟩ := sqB_its I hq1
    obtain ⟨u1, hu1, ru1⟩ := rv1.get hx1
    have hi1 : i1 < s.heap.objs.size := by obtain ⟨_, q, _⟩ := h1.obj; exact Heap.lt_size q
    obtain ⟨its2, rv2, p2, _⟩ := sqB_its I hq2
    obtain ⟨u2, hu2, ru2⟩ := rv2.get hx2
    have hi2 : i2 < s.heap.objs.size := by obtain ⟨_, q, _⟩ := h2.obj; exact Heap.lt_size q
    obtain ⟨its3, rv3, p3, _⟩ := sqB_its I hq3
    obtain ⟨u3, hu3, ru3⟩ := rv3.get hx3
    have hi3 : i3 < s.heap.objs.size := by obtain ⟨_, q, _⟩ := h3.obj; exact Heap.lt_size q
    have hzl : z < s.heap.objs.size := Heap.lt_size hz
    refine wpAny_pyNext_zipD3_item S (drB (A := X.A.in1) k1 (I.ok.hd hc) i1 l1 hl1 its1.toArray) (drB (A := X.A.in1) k2 (I.ok.hd hc) i2 l2 hl2 its2.toArray) (drB (A := X.A.in1) k3 (I.ok.hd hc) i3 l3 hl3 its3.toArray) hz hTI hTO ⟨h1, p1⟩ ⟨h2, p2⟩ ⟨h3, p3⟩ (by rw [List.size_toArray, ← rv1.length]; exact (List.getElem?_eq_some_iff.mp hx1).1) (by rw [List.size_toArray, ← rv2.length]; exact (List.getElem?_eq_some_iff.mp hx2).1) (by rw [List.size_toArray, ← rv3.length]; exact (List.getElem?_eq_some_iff.mp hx3).1) fun y1 y2 y3 h' tk hy1 hy2 hy3 z' TO' h1' h2' h3' hT hsz hk => ?_
    have ey1 : y1 = u1 := by simpa [hu1] using hy1.symm
    subst ey1
    have ey2 : y2 = u2 := by simpa [hu2] using hy2.symm
    subst ey2
    have ey3 : y3 = u3 := by simpa [hu3] using hy3.symm
    subst ey3
    refine ⟨_, rfl, wpAny_letOwnedTupleGo_zip (s := { s with heap := h', toks := tk }) z' fun h'' z'' sb => ?_⟩
    have hT2 : h''.get? s.heap.objs.size = some { cls := .type "tuple", data := .seq #[y1, y2, y3] } := (sb.2 _ (Nat.ne_of_gt hzl)).trans hT
    have new : L2.ObjOk X.prog X.w (L2.upd H s.heap.objs.size (.tup [x1, x2, x3])) h'' s.heap.objs.size (.tup [x1, x2, x3]) :=
      ⟨by show 3 ≤ sizeLine; decide, [y1, y2, y3], .cons ru1 ( .cons ru2 ( .cons ru3 ( .nil ))), ⟨_, hT2, rfl, _, rfl⟩⟩
    have I1 : Inv X pins σ (L2.upd H s.heap.objs.size (.tup [x1, x2, x3])) { s with heap := h'', toks := tk } :=
      I.turnedNew (ch := [z, TI, TO, i1, i2, i3]) (fun c o hb q => (sb.2 c (fun q' => hb (by simp [q']))).trans (hk c o (fun q' => hb (by simp [q'])) (fun q' => hb (by simp [q'])) (fun q' => hb (by simp [q'])) (fun q' => hb (by simp [q'])) (fun q' => hb (by simp [q'])) q)) hf (Nat.le_refl _) new
    refine ⟨.ref s.heap.objs.size, _, I1, rfl, ⟨_, x1, x2, x3, rfl, I.hok.fresh (Nat.le_refl _), rfl, fun l hl => by rw [sqB_inj I hl hq1]; exact hx1, fun l hl => by rw [sqB_inj I hl hq2]; exact hx2, fun l hl => by rw [sqB_inj I hl hq3]; exact hx3⟩, ⟨z'', ?_, ⟨y1, y2, y3, ?_⟩, ?_, ?_, ?_⟩, fun c hcm => ?_⟩
    · exact (sb.2 _ S.TIz).trans (hk _ _ S.TIz S.TITO S.TIi1 S.TIi2 S.TIi3 hTI)
    · exact (sb.2 _ S.TOz).trans TO'
    · exact h1'.1.at fun o q => (sb.2 _ (Ne.symm S.zi1)).trans q
    · exact h2'.1.at fun o q => (sb.2 _ (Ne.symm S.zi2)).trans q
    · exact h3'.1.at fun o q => (sb.2 _ (Ne.symm S.zi3)).trans q
    · have hlt : c < s.heap.objs.size := by
        have e' : c = z ∨ c = TI ∨ c = TO ∨ c = i1 ∨ c = i2 ∨ c = i3 := by simpa using hcm
        rcases e' with q | q | q | q | q | q
        · rw [q]; exact hzl
        · rw [q]; exact Heap.lt_size hTI
        · rw [q]; exact Heap.lt_size hTO
        · rw [q]; exact hi1
        · rw [q]; exact hi2
        · rw [q]; exact hi3
      rw [L2.upd_ne (Nat.ne_of_lt hlt)]
      exact (hf c hcm).1
  done := by
    intro X hP hw hK hc i pins s σ H E I hf st hg
    subst hP hw hK
    obtain ⟨hz, hTI, ⟨a1, a2, a3, hTO⟩, h1, h2, h3⟩ := st
    obtain ⟨xs1, xs2, xs3, hq1, hq2, hq3, le1, le2, le3, hend⟩ := hg
    obtain ⟨its1, rv1, p1, _⟩ := sqB_its I hq1
    have n1 := rv1.length
    obtain ⟨its2, rv2, p2, _⟩ := sqB_its I hq2
    have n2 := rv2.length
    obtain ⟨its3, rv3, p3, _⟩ := sqB_its I hq3
    have n3 := rv3.length
    exact wpAny_pyNext_zipD3_end S (drB (A := X.A.in1) k1 (I.ok.hd hc) i1 l1 hl1 its1.toArray) (drB (A := X.A.in1) k2 (I.ok.hd hc) i2 l2 hl2 its2.toArray) (drB (A := X.A.in1) k3 (I.ok.hd hc) i3 l3 hl3 its3.toArray) hz hTI hTO ⟨h1, p1⟩ ⟨h2, p2⟩ ⟨h3, p3⟩ (by rw [List.size_toArray]; omega) (by rw [List.size_toArray]; omega) (by rw [List.size_toArray]; omega) (by simp only [List.size_toArray]; omega) fun h' tk hk => ⟨rfl, I.turnedL (ch := [z, TI, TO, i1, i2, i3]) (fun c o hb q =>
      hk c o (fun q' => hb (by simp [q'])) (fun q' => hb (by simp [q'])) (fun q' => hb (by simp [q'])) (fun q' => hb (by simp [q'])) (fun q' => hb (by simp [q'])) q) hf⟩
  self := fun A i s Q E st h => wpAny_pyIter_zip st.1 h

def iZ3 (K : PySem.W.Frag) (ta : L2.TA) : TI := fun σ H R => ta σ H fun vs H1 => ∃ l1 l2 l3 xs1 xs2 xs3 k1 k2 k3, vs = [.ref l1, .ref l2, .ref l3] ∧ SqB K k1 H1 l1 xs1 ∧ SqB K k2 H1 l2 xs2 ∧ SqB K k3 H1 l3 xs3 ∧ R (ItZ3 K k1 k2 k3 l1 l2 l3) H1
theorem pi_z3 {X : L2.Cx} {e : Expr} {es : List Expr} {ta : L2.TA} {p pos tpos : Pos} {elts : List Expr} {kk : Nat} (hg : Gl X "zip") (hm : X.mg "zip" = none) (ha : PA X (e :: es) ta)
    (hs : starEach (e :: es) X.env = (false, eval e X.env) :: starEach es X.env) (hpl : (backTo pos (starEach es X.env)).any (·.1) = false) :
    PI X (.Tuple elts kk tpos) (.Call (.Name "zip" p) (e :: es) [] pos) (iZ3 X.K ta) := by
  refine ⟨fun pins s σ H R I h => ?_⟩
  refine Call_ (L2.ld_blt I hg hm PyProof.Rows.boot_zip (PyProof.Rows.callWith_type1 (L2.thn (ha.run pos pins s σ H _ I h) fun us s1 ⟨vs, H1, I1, r1, q1⟩ => ?_) hs hpl))
  obtain ⟨l1, l2, l3, xs1, xs2, xs3, k1, k2, k3, ex, hq1, hq2, hq3, q⟩ := q1
  subst ex
  cases r1 with
  | cons q1 r2 =>
    cases r2 with
    | cons q2 r3 =>
      cases r3 with
      | cons q3 r4 =>
        cases r4
        cases q1
        cases q2
        cases q3
        obtain ⟨its1, rv1, p1, z1⟩ := sqB_its I1 hq1
        obtain ⟨its2, rv2, p2, z2⟩ := sqB_its I1 hq2
        obtain ⟨its3, rv3, p3, z3⟩ := sqB_its I1 hq3
        have fresh : ∀ c, c ∈ [s1.heap.objs.size + 5, s1.heap.objs.size + 3, s1.heap.objs.size + 4, s1.heap.objs.size, s1.heap.objs.size + 1, s1.heap.objs.size + 2] → FpOk X pins H1 c := fun c hcm => by
          have hle : s1.heap.objs.size ≤ c := by
            have e' : c = s1.heap.objs.size + 5 ∨ c = s1.heap.objs.size + 3 ∨ c = s1.heap.objs.size + 4 ∨ c = s1.heap.objs.size ∨ c = s1.heap.objs.size + 1 ∨ c = s1.heap.objs.size + 2 := by simpa using hcm
            rcases e' with z | z | z | z | z | z <;> rw [z] <;> first | exact Nat.le_refl _ | exact Nat.le_add_right _ _
          exact I1.fpOk hle (I1.hok.fresh hle)
        refine zip_begins3 (begB k1 l1 its1.toArray) (begB k2 l2 its2.toArray) (begB k3 l3 its3.toArray) p1 p2 p3 fun h' hz hTI hTO g1 g2 g3 hsz hk => wpAny_pyIter_zip hz ?_
        have I2 : Inv X pins σ H1 { s1 with heap := h' } := I1.kept (t' := s1.toks) hk
        generalize hS : s1.heap.objs.size = S at *
        have w1 : l1 < S := z1
        have w2 : l2 < S := z2
        have w3 : l3 < S := z3
        have sep : ZipSep3 (S + 5) (S + 3) (S + 4) S (S + 1) (S + 2) [S, l1] [S + 1, l2] [S + 2, l3] := by
          constructor <;> first | (simp only [List.mem_cons, List.not_mem_nil, or_false, not_or, ne_eq, true_or]; done) | (simp only [List.mem_cons, List.not_mem_nil, or_false, not_or, ne_eq]; (try constructor) <;> (intro e; have e' : (_ : Nat) = _ := e; simp only [Addr] at *; omega)) | (intro e; simp only [Addr] at *; omega)
        exact ⟨S + 5, [S + 5, S + 3, S + 4, S, S + 1, S + 2], _, _, H1, rfl, I2, turn_z3 sep (fun e => by simp only [Addr] at *; omega) (fun e => by simp only [Addr] at *; omega) (fun e => by simp only [Addr] at *; omega), ⟨hz, hTI, ⟨_, _, _, hTO⟩, .of g1, .of g2, .of g3⟩, fresh, q⟩
end Mo

set_option Elab.async false
set_option linter.all false
set_option maxRecDepth 100000
set_option autoImplicit false
namespace Mo
open PySem PyProof.Rows
open L2 (Inv EP TP AP SP RelV Vals OpR UnR CallR VK R2 PE PT PW PA PO PS PSs Gl Vis Loc It Turn TI PI)

/-- it yields these -/
structure ItOk (D : Wd) (F : L2.Hp) (ts : List T) (chk : St → Prop) (J : It) : Prop where
  go : ∀ i t B H F' st, L2.Same F F' → Sim D B H F' st → chk st → ts[i]? = some t → J.go i H ∧ ∀ x H', J.yld i H x H' → ∃ F'', L2.Same F' F'' ∧ (∀ a, F' a ≠ none → F'' a = F' a) ∧ Sim D B H' F'' st ∧ RepV D F'' t x
  stop : ∀ B H F' st, L2.Same F F' → Sim D B H F' st → chk st → J.stop ts.length H
def EndR (D : Wd) (B : Nat) (F : L2.Hp) (R : List T → (St → Prop) → St → Prop) (Q : It → L2.Hp → Prop) : Prop :=
  ∀ ts chk st, R ts chk st → ts.length ≤ LN → ∀ J H' F', L2.Same F F' → Sim D B H' F' st → ItOk D F' ts chk J → Q J H'
def liftR (D : Wd) (c : Nat) (w : Env → St → LK → Prop) : TI := fun σ H Q =>
  ∃ env st B F R, EnvR D F env σ ∧ Sim D B H F st ∧ B + c ≤ BIG ∧ w env st R ∧ EndR D (B + c) F R Q
abbrev LR (V : Lv) (s : Sr) : TI := liftR V.D (cR V.cc s) fun env st R => wpR V.C s env st noE R
theorem PI.imp {X : L2.Cx} {tg e : Expr} {t t' : TI} (h : PI X tg e t) (k : ∀ σ H Q, t' σ H Q → t σ H Q) : PI X tg e t' := ⟨fun pins s σ H Q I q => h.run pins s σ H Q I (k _ _ _ q)⟩
theorem SZ_LN : SZ ≤ LN := by unfold SZ LN; decide
theorem sz_ln {n : Nat} (h : n ≤ SZ) : n ≤ LN := Nat.le_trans h SZ_LN

/-- a sequence's place: k tells a tuple -/
theorem seqB {D : Wd} {F : L2.Hp} {v : L2.V} {ts : List T} {chk : St → Prop} {K : PySem.W.Frag} (hK : D.K = K) (q : SeqV D F v ts chk) :
    ∃ a k, v = .ref a ∧ ∀ B H F' st, L2.Same F F' → Sim D B H F' st → chk st → ∃ xs, RepVs D F' ts xs ∧ SqB K k H a xs := by
  rcases q with ⟨a, xs, rfl, h, r⟩ | ⟨a, rfl, h⟩ | ⟨a, xs, rfl, h, r⟩ | ⟨a, ns, rfl, h, rfl⟩
  · exact ⟨a, true, rfl, fun B H F' st f sm c => ⟨xs, r.mono f, sm.sqT (f _ _ h)⟩⟩
  · exact ⟨a, false, rfl, fun B H F' st f sm c => let ⟨xs, _, sq, r⟩ := sm.sqL (K := K) (h st c); ⟨xs, r, sq⟩⟩
  · exact ⟨a, false, rfl, fun B H F' st f sm c => ⟨xs, r.mono f, .of (sm.fr _ _ (f _ _ h))⟩⟩
  · exact ⟨a, false, rfl, fun B H F' st f sm c => ⟨_, RepVs.of_ints, sqF_L (hK ▸ sqF_keep (.of f) h) sm⟩⟩
theorem RepVs.at {D : Wd} {F : L2.Hp} {ts : List T} {xs : List L2.V} {i : Nat} {t : T} {x : L2.V} (r : RepVs D F ts xs) (h : ts[i]? = some t) (hx : xs[i]? = some x) : RepV D F t x := by
  obtain ⟨v, e, r1⟩ := r.get h
  rw [hx] at e; cases e
  exact r1
theorem same_refl (F : L2.Hp) : L2.Same F F := L2.Same.refl F
theorem newT {D : Wd} {B : Nat} {H F : L2.Hp} {st : St} {p : Addr} {ts : List T} {xs : List L2.V} (sm : Sim D B H F st) (hp : H p = none) (r : RepVs D F ts xs) :
    L2.Same F (L2.upd F p (.tup xs)) ∧ (∀ a, F a ≠ none → L2.upd F p (.tup xs) a = F a) ∧ Sim D B (L2.upd H p (.tup xs)) (L2.upd F p (.tup xs)) st ∧ RepV D (L2.upd F p (.tup xs)) (.tup ts) (.ref p) := by
  have n := sm.noF hp
  exact ⟨same_upd n, fun a h => L2.upd_ne (fun z => h (by rw [z, n])), sm.know _ hp, ⟨p, xs, rfl, L2.upd_same, r.mono (same_upd n)⟩⟩

theorem itOk_seq {D : Wd} {F : L2.Hp} {ts : List T} {chk : St → Prop} {K : PySem.W.Frag} {k : Bool} {a : Addr}
    (q : ∀ B H F' st, L2.Same F F' → Sim D B H F' st → chk st → ∃ xs, RepVs D F' ts xs ∧ SqB K k H a xs) : ItOk D F ts chk (ItA K k a) := by
  cases k
  · refine ⟨fun i t B H F' st f sm c h => ?_, fun B H F' st f sm c => ?_⟩
    · obtain ⟨xs, r, sq⟩ := q B H F' st f sm c
      obtain ⟨x, e, _⟩ := r.get h
      refine ⟨⟨xs, x, sq, e⟩, fun y H' hy => ?_⟩
      obtain ⟨e1, e2⟩ := hy
      subst e1
      exact ⟨F', same_refl F', fun _ _ => rfl, sm, r.at h (e2 xs sq)⟩
    · obtain ⟨xs, r, sq⟩ := q B H F' st f sm c
      exact ⟨xs, sq, Nat.le_of_eq r.length.symm⟩
  · refine ⟨fun i t B H F' st f sm c h => ?_, fun B H F' st f sm c => ?_⟩
    · obtain ⟨xs, r, sq⟩ := q B H F' st f sm c
      obtain ⟨x, e, _⟩ := r.get h
      refine ⟨⟨xs, x, sq, e⟩, fun y H' hy => ?_⟩
      obtain ⟨e1, e2⟩ := hy
      subst e1
      exact ⟨F', same_refl F', fun _ _ => rfl, sm, r.at h (e2 xs sq)⟩
    · obtain ⟨xs, r, sq⟩ := q B H F' st f sm c
      exact ⟨xs, sq, Nat.le_of_eq r.length.symm⟩
theorem itOk_range {D : Wd} {F : L2.Hp} {lo hi : Int} : ItOk D F (rangeT lo hi) (fun _ => True) (L2.Itr lo (hi - lo).toNat) := by
  refine ⟨fun i t B H F' st f sm c h => ?_, fun B H F' st f sm c => ?_⟩
  · unfold rangeT at h
    rw [List.getElem?_map] at h
    have hl : i < (hi - lo).toNat := by
      by_cases z : i < (hi - lo).toNat
      · exact z
      · rw [List.getElem?_eq_none (by simpa using z)] at h; cases h
    rw [List.getElem?_range hl] at h
    cases h
    refine ⟨hl, fun x H' hy => ?_⟩
    obtain ⟨e1, e2⟩ := hy
    subst e1 e2
    exact ⟨F', same_refl F', fun _ _ => rfl, sm, rfl⟩
  · show (hi - lo).toNat ≤ (rangeT lo hi).length
    simp [rangeT]
theorem itOk_enum {D : Wd} {F : L2.Hp} {ts : List T} {chk : St → Prop} {K : PySem.W.Frag} {k : Bool} {a : Addr}
    (q : ∀ B H F' st, L2.Same F F' → Sim D B H F' st → chk st → ∃ xs, RepVs D F' ts xs ∧ SqB K k H a xs) : ItOk D F (enumT ts) chk (ItE K k a) := by
  refine ⟨fun i t B H F' st f sm c h => ?_, fun B H F' st f sm c => ?_⟩
  · obtain ⟨xs, r, sq⟩ := q B H F' st f sm c
    unfold enumT at h
    rw [List.getElem?_zipWith] at h
    by_cases hl : i < ts.length
    · rw [List.getElem?_range hl, List.getElem?_eq_getElem hl] at h
      simp at h
      subst h
      obtain ⟨x, e, r1⟩ := r.get (List.getElem?_eq_getElem hl)
      refine ⟨⟨xs, x, sq, e⟩, fun y H' hy => ?_⟩
      obtain ⟨p, x', e1, hp, e2, e3⟩ := hy
      subst e1 e2
      have e4 := e3 xs sq
      rw [e] at e4; cases e4
      obtain ⟨f1, f2, s1, r2⟩ := newT (ts := [.int i, ts[i]]) (xs := [.int i, x]) sm hp ⟨_, _, rfl, rfl, _, _, rfl, r1, rfl⟩
      exact ⟨_, f1, f2, s1, r2⟩
    · rw [List.getElem?_eq_none (l := ts) (by omega)] at h
      simp at h
  · obtain ⟨xs, r, sq⟩ := q B H F' st f sm c
    exact ⟨xs, sq, by rw [← r.length]; simp [enumT]⟩
theorem itOk_zip2 {D : Wd} {F : L2.Hp} {ts us : List T} {chk : St → Prop} {K : PySem.W.Frag} {k l : Bool} {a b : Addr}
    (q : ∀ B H F' st, L2.Same F F' → Sim D B H F' st → chk st → ∃ xs, RepVs D F' ts xs ∧ SqB K k H a xs)
    (p : ∀ B H F' st, L2.Same F F' → Sim D B H F' st → chk st → ∃ xs, RepVs D F' us xs ∧ SqB K l H b xs) : ItOk D F (zipT [ts, us]) chk (ItZ2 K k l a b) := by
  refine ⟨fun i t B H F' st f sm c h => ?_, fun B H F' st f sm c => ?_⟩
  · obtain ⟨xs, r, sq⟩ := q B H F' st f sm c
    obtain ⟨ys, r', sq'⟩ := p B H F' st f sm c
    simp only [zipT, List.getElem?_zipWith] at h
    split at h
    · rename_i t1 t2 h1 h2
      cases h
      obtain ⟨x, e, r1⟩ := r.get h1
      obtain ⟨y, e', r1'⟩ := r'.get h2
      refine ⟨⟨xs, ys, x, y, sq, e, sq', e'⟩, fun z H' hy => ?_⟩
      obtain ⟨p, x', y', e1, hp, e2, e3, e4⟩ := hy
      subst e1 e2
      have e5 := e3 xs sq
      have e6 := e4 ys sq'
      rw [e] at e5; cases e5
      rw [e'] at e6; cases e6
      obtain ⟨f1, f2, s1, r2⟩ := newT (ts := [t1, t2]) (xs := [x, y]) sm hp ⟨_, _, rfl, r1, _, _, rfl, r1', rfl⟩
      exact ⟨_, f1, f2, s1, r2⟩
    · cases h
  · obtain ⟨xs, r, sq⟩ := q B H F' st f sm c
    obtain ⟨ys, r', sq'⟩ := p B H F' st f sm c
    have h1 := r.length
    have h2 := r'.length
    refine ⟨xs, ys, sq, sq', ?_, ?_, ?_⟩ <;> simp only [zipT, List.length_zipWith] <;> omega
theorem itOk_zip3 {D : Wd} {F : L2.Hp} {ts us ws : List T} {chk : St → Prop} {K : PySem.W.Frag} {k l m : Bool} {a b d : Addr}
    (q : ∀ B H F' st, L2.Same F F' → Sim D B H F' st → chk st → ∃ xs, RepVs D F' ts xs ∧ SqB K k H a xs)
    (p : ∀ B H F' st, L2.Same F F' → Sim D B H F' st → chk st → ∃ xs, RepVs D F' us xs ∧ SqB K l H b xs)
    (o : ∀ B H F' st, L2.Same F F' → Sim D B H F' st → chk st → ∃ xs, RepVs D F' ws xs ∧ SqB K m H d xs) : ItOk D F (zipT [ts, us, ws]) chk (ItZ3 K k l m a b d) := by
  refine ⟨fun i t B H F' st f sm c h => ?_, fun B H F' st f sm c => ?_⟩
  · obtain ⟨xs, r, sq⟩ := q B H F' st f sm c
    obtain ⟨ys, r', sq'⟩ := p B H F' st f sm c
    obtain ⟨zs, r'', sq''⟩ := o B H F' st f sm c
    simp only [zipT, List.getElem?_zipWith] at h
    split at h
    · rename_i t1 t2 h1 h2
      cases h
      split at h2
      · rename_i t3 t4 h3 h4
        cases h2
        obtain ⟨x, e, r1⟩ := r.get h1
        obtain ⟨y, e', r1'⟩ := r'.get h3
        obtain ⟨z, e'', r1''⟩ := r''.get h4
        refine ⟨⟨xs, ys, zs, x, y, z, sq, e, sq', e', sq'', e''⟩, fun z H' hy => ?_⟩
        obtain ⟨p, x', y', z', e1, hp, e2, e3, e4, e9⟩ := hy
        subst e1 e2
        have e5 := e3 xs sq
        have e6 := e4 ys sq'
        have e7 := e9 zs sq''
        rw [e] at e5; cases e5
        rw [e'] at e6; cases e6
        rw [e''] at e7; cases e7
        obtain ⟨f1, f2, s1, r2⟩ := newT (ts := [t1, t3, t4]) (xs := [x, y, _]) sm hp ⟨_, _, rfl, r1, _, _, rfl, r1', _, _, rfl, r1'', rfl⟩
        exact ⟨_, f1, f2, s1, r2⟩
      · cases h2
    · cases h
  · obtain ⟨xs, r, sq⟩ := q B H F' st f sm c
    obtain ⟨ys, r', sq'⟩ := p B H F' st f sm c
    obtain ⟨zs, r'', sq''⟩ := o B H F' st f sm c
    have h1 := r.length
    have h2 := r'.length
    have h3 := r''.length
    refine ⟨xs, ys, zs, sq, sq', sq'', ?_, ?_, ?_, ?_⟩ <;> simp only [zipT, List.length_zipWith] <;> omega
end Mo

set_option Elab.async false
set_option linter.all false
set_option maxRecDepth 100000
set_option autoImplicit false
namespace Mo
open PySem PyProof.Rows
open L2 (Inv EP TP AP SP RelV Vals OpR UnR CallR VK R2 PE PT PW PA PO PS PSs Gl Vis Loc It Turn TI PI PG PGs TG TGs)

/-- several sequences -/
def SeqVs (D : Wd) (F : L2.Hp) : List L2.V → List (List T) → (St → Prop) → Prop
  | [], [], _ => True
  | v :: vs, ts :: tss, chk => SeqV D F v ts chk ∧ SeqVs D F vs tss chk
  | _, _, _ => False
theorem SeqV.mono {D : Wd} {F F' : L2.Hp} {v : L2.V} {ts : List T} {chk chk' : St → Prop} (q : SeqV D F v ts chk) (f : L2.Same F F') (h : ∀ s, chk' s → chk s) : SeqV D F' v ts chk' := by
  rcases q with ⟨a, xs, rfl, h1, r⟩ | ⟨a, rfl, h1⟩ | ⟨a, xs, rfl, h1, r⟩ | ⟨a, ns, rfl, h1, rfl⟩
  · exact .inl ⟨a, xs, rfl, f _ _ h1, r.mono f⟩
  · exact .inr (.inl ⟨a, rfl, fun s c => h1 s (h s c)⟩)
  · exact .inr (.inr (.inl ⟨a, xs, rfl, f _ _ h1, r.mono f⟩))
  · exact .inr (.inr (.inr ⟨a, ns, rfl, sqF_keep (.of f) h1, rfl⟩))
theorem SeqVs.mono {D : Wd} {F F' : L2.Hp} {chk chk' : St → Prop} (f : L2.Same F F') (h : ∀ s, chk' s → chk s) : ∀ {vs : List L2.V} {tss : List (List T)}, SeqVs D F vs tss chk → SeqVs D F' vs tss chk'
  | [], [], _ => trivial
  | _ :: _, _ :: _, q => ⟨q.1.mono f h, SeqVs.mono f h q.2⟩
def EndLs (D : Wd) (B n : Nat) (F : L2.Hp) (R : List (List T) → (St → Prop) → St → Prop) (Q : List L2.V → L2.Hp → Prop) : Prop :=
  ∀ tss chk st, R tss chk st → tss.length = n → (∀ ts ∈ tss, ts.length ≤ SZ) → ∀ vs H' F', L2.Same F F' → Sim D B H' F' st → SeqVs D F' vs tss chk → Q vs H'
def liftLs (D : Wd) (c n : Nat) (w : Env → St → (List (List T) → (St → Prop) → St → Prop) → Prop) : L2.TA := fun σ H Q =>
  ∃ env st B F R, EnvR D F env σ ∧ Sim D B H F st ∧ B + c ≤ BIG ∧ w env st R ∧ EndLs D (B + c) n F R Q
abbrev LLs (V : Lv) (ls : List L) : L2.TA := liftLs V.D (cLs V.cc ls) ls.length fun env st R => wpLs V.C ls env st noE R
section
variable {V : Lv} {Y : L2.Cx} {N : List Str} {sc : Scope} (G : GX V Y N sc) {a b c e tg : Expr} {x y z : X} {pos : Pos} {es : List Expr} {xs : List X} {l : L}
theorem sl_nil : PA Y [] (LLs V []) := PA.imp L2.pa_nil fun σ H Q h => by
  obtain ⟨env, st, B, F, R, er, sm, hb, w, en⟩ := h
  simp only [wpLs] at w
  simp only [cLs] at hb en
  exact en [] _ st w rfl (fun _ h => by cases h) [] H F (L2.Same.refl F) sm trivial
theorem sl_cons {ls : List L} (ha : PE Y a (LL V l)) (hr : PA Y es (LLs V ls)) (hs : starEach (a :: es) Y.env = (false, eval a Y.env) :: starEach es Y.env) : PA Y (a :: es) (LLs V (l :: ls)) := PA.imp (L2.pa_cons ha hr hs) fun σ H Q h => by
  obtain ⟨env, st, B, F, R, er, sm, hb, w, en⟩ := h
  simp only [wpLs] at w
  simp only [cLs] at hb en
  refine lL er sm (by omega) w fun ts chk st1 v H1 F1 r1 l1 f1 sm1 q1 c1 e1 => ?_
  refine ⟨env, st1, _, F1, _, e1, sm1, by omega, r1, fun tss chk2 st2 r2 l2 h2 vs H2 F2 f2 sm2 q2 => ?_⟩
  exact en (ts :: tss) _ st2 r2 (by simp [l2]) (fun t ht => by rcases List.mem_cons.mp ht with rfl | ht; exact l1; exact h2 t ht) (v :: vs) H2 F2 (f1.trans f2) (sm2.more (by omega))
    ⟨q1.mono f2 fun s c => c.1, q2.mono (same_refl F2) fun s c => c.2⟩

/-! sources -/
include G in
theorem r_seq (h : PE Y e (LL V l)) : PI Y tg e (LR V (.seq l)) := PI.imp (pi_sq h) fun σ H Q h => by
  obtain ⟨env, st, B, F, R, er, sm, hb, w, en⟩ := h
  simp only [wpR] at w
  simp only [cR] at hb en
  refine lL er sm (by omega) w fun ts chk st1 v H1 F1 r1 l1 f1 sm1 q1 c1 e1 => ?_
  obtain ⟨a, k, rfl, q⟩ := seqB G.K q1
  obtain ⟨ys, _, sq⟩ := q _ H1 F1 st1 (same_refl F1) sm1 c1
  exact ⟨a, ys, k, rfl, sq, en ts chk st1 r1 (sz_ln l1) _ H1 F1 f1 sm1 (itOk_seq q)⟩
theorem range_len (lo hi : Int) : (rangeT lo hi).length = (hi - lo).toNat := by simp [rangeT]
theorem range_ln {lo hi : Int} (h : -1000000 ≤ lo) (h2 : hi ≤ SZ) : (rangeT lo hi).length ≤ LN := by
  rw [range_len]; unfold LN; unfold SZ at h2; omega
theorem range1 {p : Pos} (hg : Gl Y "range") (hm : Y.mg "range" = none) (ha : PA Y [a] (LA V xs)) (hl : xs.length = 1) (hs : starEach [a] Y.env = [(false, eval a Y.env)]) : PI Y tg (.Call (.Name "range" p) [a] [] pos) (LR V (.range xs)) :=
  PI.imp (L2.pi_range1 hg hm ha hs) fun σ H Q h => by
    obtain ⟨env, st, B, F, R, er, sm, hb, w, en⟩ := h
    simp only [wpR] at w
    simp only [cR] at hb en
    refine lA er sm (by omega) w fun ts st1 vs H1 F1 r1 l1 f1 sm1 q1 e1 => ?_
    unfold rangeSem at r1
    split at r1
    · rename_i n
      obtain ⟨x, rfl, q⟩ := rep1 q1
      cases q
      obtain ⟨⟨h1, h2⟩, r1⟩ := r1
      unfold SZ at h2
      refine ⟨n, rfl, by omega, by omega, ?_⟩
      have := en _ _ st1 r1 (range_ln (by omega) (by unfold SZ; omega)) _ H1 F1 f1 sm1 itOk_range
      simpa using this
    · simp at l1; omega
    · exact r1.elim
theorem range2 {p : Pos} (hg : Gl Y "range") (hm : Y.mg "range" = none) (ha : PA Y [a, b] (LA V xs)) (hl : xs.length = 2) (hs : starEach [a, b] Y.env = [(false, eval a Y.env), (false, eval b Y.env)]) (hs2 : starEach [b] Y.env = [(false, eval b Y.env)]) : PI Y tg (.Call (.Name "range" p) [a, b] [] pos) (LR V (.range xs)) :=
  PI.imp (L2.pi_range2 hg hm ha hs hs2) fun σ H Q h => by
    obtain ⟨env, st, B, F, R, er, sm, hb, w, en⟩ := h
    simp only [wpR] at w
    simp only [cR] at hb en
    refine lA er sm (by omega) w fun ts st1 vs H1 F1 r1 l1 f1 sm1 q1 e1 => ?_
    unfold rangeSem at r1
    split at r1
    · simp at l1; omega
    · rename_i m n
      obtain ⟨x, y, rfl, q, q'⟩ := rep2 q1
      cases q; cases q'
      obtain ⟨⟨h1, h2, h3, h4⟩, r1⟩ := r1
      unfold SZ at h2 h4
      refine ⟨m, n, rfl, ⟨by omega, by omega, by omega, by omega⟩, ?_⟩
      exact en _ _ st1 r1 (range_ln (by omega) (by unfold SZ; omega)) _ H1 F1 f1 sm1 itOk_range
    · exact r1.elim
include G in
theorem r_enum {p tpos : Pos} {elts : List Expr} {kk : Nat} (hg : Gl Y "enumerate") (hm : Y.mg "enumerate" = none) (h : PE Y e (LL V l)) (hs : starEach [e] Y.env = [(false, eval e Y.env)]) : PI Y (.Tuple elts kk tpos) (.Call (.Name "enumerate" p) [e] [] pos) (LR V (.enum l)) :=
  PI.imp (pi_en hg hm (pa_one h hs) hs) fun σ H Q h => by
    obtain ⟨env, st, B, F, R, er, sm, hb, w, en⟩ := h
    simp only [wpR] at w
    simp only [cR] at hb en
    refine lL er sm (by omega) w fun ts chk st1 v H1 F1 r1 l1 f1 sm1 q1 c1 e1 => ?_
    obtain ⟨a, k, rfl, q⟩ := seqB G.K q1
    obtain ⟨ys, _, sq⟩ := q _ H1 F1 st1 (same_refl F1) sm1 c1
    exact ⟨a, ys, k, rfl, sq, en _ chk st1 r1 (by have := sz_ln l1; simp only [enumT, List.length_zipWith, List.length_range]; omega) _ H1 F1 f1 sm1 (itOk_enum q)⟩
theorem len2 {α : Type} {l : List α} (h : l.length = 2) : ∃ a b, l = [a, b] := by
  cases l with
  | nil => cases h
  | cons a l => cases l with
    | nil => cases h
    | cons b l => cases l with
      | nil => exact ⟨a, b, rfl⟩
      | cons c l => simp at h
theorem len3 {α : Type} {l : List α} (h : l.length = 3) : ∃ a b c, l = [a, b, c] := by
  cases l with
  | nil => cases h
  | cons a l => obtain ⟨b, c, rfl⟩ := len2 (l := l) (by simpa using h); exact ⟨a, b, c, rfl⟩
theorem seqVs1 {D : Wd} {F : L2.Hp} {vs : List L2.V} {ts : List T} {tss : List (List T)} {chk : St → Prop} (q : SeqVs D F vs (ts :: tss) chk) : ∃ v ws, vs = v :: ws ∧ SeqV D F v ts chk ∧ SeqVs D F ws tss chk := by
  cases vs with
  | nil => exact q.elim
  | cons v ws => exact ⟨v, ws, rfl, q.1, q.2⟩
theorem seqVs0 {D : Wd} {F : L2.Hp} {vs : List L2.V} {chk : St → Prop} (q : SeqVs D F vs [] chk) : vs = [] := by
  cases vs with
  | nil => rfl
  | cons v ws => exact q.elim
theorem seqVs2 {D : Wd} {F : L2.Hp} {vs : List L2.V} {ts us : List T} {chk : St → Prop} (q : SeqVs D F vs [ts, us] chk) : ∃ v u, vs = [v, u] ∧ SeqV D F v ts chk ∧ SeqV D F u us chk := by
  obtain ⟨v, ws, rfl, q1, q⟩ := seqVs1 q
  obtain ⟨u, ws, rfl, q2, q⟩ := seqVs1 q
  obtain rfl := seqVs0 q
  exact ⟨v, u, rfl, q1, q2⟩
theorem seqVs3 {D : Wd} {F : L2.Hp} {vs : List L2.V} {ts us ws : List T} {chk : St → Prop} (q : SeqVs D F vs [ts, us, ws] chk) : ∃ v u w, vs = [v, u, w] ∧ SeqV D F v ts chk ∧ SeqV D F u us chk ∧ SeqV D F w ws chk := by
  obtain ⟨v, ws, rfl, q1, q⟩ := seqVs1 q
  obtain ⟨u, w, rfl, q2, q3⟩ := seqVs2 q
  exact ⟨v, u, w, rfl, q1, q2, q3⟩
include G in
theorem r_zip2 {p tpos : Pos} {elts : List Expr} {kk : Nat} {ls : List L} (hl : ls.length = 2) (hg : Gl Y "zip") (hm : Y.mg "zip" = none) (h : PA Y (a :: es) (LLs V ls)) (hs : starEach (a :: es) Y.env = (false, eval a Y.env) :: starEach es Y.env) (hpl : (backTo pos (starEach es Y.env)).any (·.1) = false) :
    PI Y (.Tuple elts kk tpos) (.Call (.Name "zip" p) (a :: es) [] pos) (LR V (.zip ls)) :=
  PI.imp (pi_z2 hg hm h hs hpl) fun σ H Q h => by
    obtain ⟨env, st, B, F, R, er, sm, hb, w, en⟩ := h
    simp only [wpR] at w
    simp only [cR] at hb en
    refine ⟨env, st, B, F, _, er, sm, hb, w, fun tss chk st2 r2 l2 h2 vs H2 F2 f2 sm2 q2 => ?_⟩
    rw [hl] at l2
    obtain ⟨ts, us, rfl⟩ := len2 l2
    obtain ⟨v, u, rfl, q, q'⟩ := seqVs2 q2
    · obtain ⟨a1, k1, rfl, p1⟩ := seqB G.K q
      obtain ⟨a2, k2, rfl, p2⟩ := seqB G.K q'
      obtain ⟨y1, _, s1⟩ := p1 _ H2 F2 st2 (same_refl F2) sm2 r2.1
      obtain ⟨y2, _, s2⟩ := p2 _ H2 F2 st2 (same_refl F2) sm2 r2.1
      exact ⟨a1, a2, y1, y2, k1, k2, rfl, s1, s2, en _ chk st2 r2.2 (by have := sz_ln (h2 ts (by simp)); simp only [zipT, List.length_zipWith]; omega) _ H2 F2 f2 sm2 (itOk_zip2 p1 p2)⟩
include G in
theorem r_zip3 {p tpos : Pos} {elts : List Expr} {kk : Nat} {ls : List L} (hl : ls.length = 3) (hg : Gl Y "zip") (hm : Y.mg "zip" = none) (h : PA Y (a :: es) (LLs V ls)) (hs : starEach (a :: es) Y.env = (false, eval a Y.env) :: starEach es Y.env) (hpl : (backTo pos (starEach es Y.env)).any (·.1) = false) :
    PI Y (.Tuple elts kk tpos) (.Call (.Name "zip" p) (a :: es) [] pos) (LR V (.zip ls)) :=
  PI.imp (pi_z3 hg hm h hs hpl) fun σ H Q h => by
    obtain ⟨env, st, B, F, R, er, sm, hb, w, en⟩ := h
    simp only [wpR] at w
    simp only [cR] at hb en
    refine ⟨env, st, B, F, _, er, sm, hb, w, fun tss chk st2 r2 l2 h2 vs H2 F2 f2 sm2 q2 => ?_⟩
    rw [hl] at l2
    obtain ⟨ts, us, ws, rfl⟩ := len3 l2
    obtain ⟨v, u, o, rfl, q, q', q''⟩ := seqVs3 q2
    · obtain ⟨a1, k1, rfl, p1⟩ := seqB G.K q
      obtain ⟨a2, k2, rfl, p2⟩ := seqB G.K q'
      obtain ⟨a3, k3, rfl, p3⟩ := seqB G.K q''
      obtain ⟨y1, _, s1⟩ := p1 _ H2 F2 st2 (same_refl F2) sm2 r2.1
      obtain ⟨y2, _, s2⟩ := p2 _ H2 F2 st2 (same_refl F2) sm2 r2.1
      obtain ⟨y3, _, s3⟩ := p3 _ H2 F2 st2 (same_refl F2) sm2 r2.1
      exact ⟨a1, a2, a3, y1, y2, y3, k1, k2, k3, rfl, s1, s2, s3, en _ chk st2 r2.2 (by have := sz_ln (h2 ts (by simp)); simp only [zipT, List.length_zipWith]; omega) _ H2 F2 f2 sm2 (itOk_zip3 p1 p2 p3)⟩
end

/-! targets -/
def Off (S : List Nat) (σ σ' : L2.St) : Prop := σ'.length = σ.length ∧ ∀ i, i ∉ S → σ'[i]? = σ[i]?
theorem Off.refl (σ : L2.St) : Off [] σ σ := ⟨rfl, fun _ _ => rfl⟩
theorem Off.trans {S S' : List Nat} {σ τ υ : L2.St} (h : Off S σ τ) (k : Off S' τ υ) : Off (S ++ S') σ υ :=
  ⟨k.1.trans h.1, fun i hi => by
    simp only [List.mem_append, not_or] at hi
    rw [k.2 i hi.2, h.2 i hi.1]⟩
theorem wipe_at (σ : L2.St) : ∀ (vs : List Nat) (i : Nat), (L2.wipe σ vs)[i]? = if i ∈ vs then (if i < σ.length then some none else none) else σ[i]?
  | [], i => by simp [L2.wipe]
  | v :: vs, i => by
    have ih := wipe_at σ vs i
    have hl : (L2.wipe σ vs).length = σ.length := L2.wipe_length σ vs
    unfold L2.wipe
    by_cases h : v = i
    · subst h
      simp only [List.mem_cons, true_or, if_true]
      by_cases hv : v < σ.length
      · rw [if_pos hv, List.getElem?_set_self (by rw [hl]; exact hv)]
      · rw [if_neg hv, List.getElem?_eq_none (by rw [List.length_set, hl]; omega)]
    · rw [List.getElem?_set_ne h, ih]
      have : (i ∈ v :: vs) ↔ i ∈ vs := ⟨fun q => (List.mem_cons.mp q).resolve_left fun e => h e.symm, List.mem_cons_of_mem _⟩
      simp only [this]
theorem wipe_off {S vs : List Nat} {σ τ : L2.St} (h : Off S (L2.wipe σ vs) τ) (hS : ∀ i ∈ S, i ∈ vs) : L2.wipe τ vs = L2.wipe σ vs := by
  have hl : τ.length = σ.length := h.1.trans (L2.wipe_length σ vs)
  apply List.ext_getElem?
  intro i
  rw [wipe_at, wipe_at, hl]
  by_cases z : i ∈ vs
  · rw [if_pos z, if_pos z]
  · rw [if_neg z, if_neg z, h.2 i (fun q => z (hS i q)), wipe_at, if_neg z]
def liftG (D : Wd) (t : Tg) : TG := fun v σ H Q => ∃ tv env st B F R, RepV D F tv v ∧ EnvR D F env σ ∧ Sim D B H F st ∧ asgT t tv st env R ∧ ∀ env', R env' → ∀ σ', EnvR D F env' σ' → Off (slots t) σ σ' → Q σ' H
def liftGs (D : Wd) (ts : List Tg) : TGs := fun vs σ H Q => ∃ tvs env st B F R, RepVs D F tvs vs ∧ EnvR D F env σ ∧ Sim D B H F st ∧ asgTs ts tvs st env R ∧ ∀ env', R env' → ∀ σ', EnvR D F env' σ' → Off (slotss ts) σ σ' → Q σ' H
theorem PG.imp {X : L2.Cx} {e : Expr} {t t' : TG} (h : PG X e t) (k : ∀ v σ H Q, t' v σ H Q → t v σ H Q) : PG X e t' := ⟨fun pins s σ H v u Q I r q => h.run pins s σ H v u Q I r (k _ _ _ _ q)⟩
theorem PGs.imp {X : L2.Cx} {e : List Expr} {t t' : TGs} (h : PGs X e t) (k : ∀ v σ H Q, t' v σ H Q → t v σ H Q) : PGs X e t' := ⟨fun pins s σ H v u Q I r q => h.run pins s σ H v u Q I r (k _ _ _ _ q)⟩
theorem PG.or {X : L2.Cx} {e : Expr} {t t' : TG} (h : PG X e t) (h' : PG X e t') : PG X e (fun v σ H Q => t v σ H Q ∨ t' v σ H Q) := ⟨fun pins s σ H v u Q I r q => q.elim (h.run pins s σ H v u Q I r) (h'.run pins s σ H v u Q I r)⟩
mutual
theorem asgT_ex : ∀ {t : Tg} {v : T} {st : St} {env : Env} {Q : Env → Prop}, asgT t v st env Q → ∃ e, Q e
  | .name i, v, st, env, Q, h => ⟨_, by simpa only [asgT] using h⟩
  | .tup gs, v, st, env, Q, h => by
    cases v <;> simp only [asgT] at h
    · exact asgTs_ex h
    · obtain ⟨ts, _, h⟩ := h
      exact asgTs_ex h
theorem asgTs_ex : ∀ {t : List Tg} {v : List T} {st : St} {env : Env} {Q : Env → Prop}, asgTs t v st env Q → ∃ e, Q e
  | [], [], _, _, _, h => ⟨_, by simpa only [asgTs] using h⟩
  | g :: gs, t :: ts, st, env, Q, h => by
    simp only [asgTs] at h
    obtain ⟨e, h⟩ := asgT_ex h
    exact asgTs_ex h
  | [], _ :: _, _, _, _, h => by simp only [asgTs] at h
  | _ :: _, [], _, _, _, h => by simp only [asgTs] at h
end
theorem asgTs_len : ∀ {t : List Tg} {v : List T} {st : St} {env : Env} {Q : Env → Prop}, asgTs t v st env Q → v.length = t.length
  | [], [], _, _, _, h => rfl
  | g :: gs, t :: ts, st, env, Q, h => by
    simp only [asgTs] at h
    obtain ⟨e, h⟩ := asgT_ex h
    simp [asgTs_len h]
  | [], _ :: _, _, _, _, h => by simp only [asgTs] at h
  | _ :: _, [], _, _, _, h => by simp only [asgTs] at h
/-- where targets of a scope's own names may be stored -/
def GT (Y : L2.Cx) (sc : Scope) : Prop := ∀ x, isL sc x = true → Loc Y.env.scope x ∧ (Y.fn x = true ∨ Y.env.scope.names.lookup x = some .local)
theorem stripT_ns {N : List Str} {sc : Scope} : ∀ {n : Nat} {e : Expr} {t : Tg}, stripT N sc n e = some t → ∀ v p, e ≠ .Starred v p
  | 0, _, _, h => by simp [stripT] at h
  | n + 1, e, _, h => by
    intro v p z
    subst z
    simp [stripT] at h
theorem asg_ns {e : Expr} {es : List Expr} {env : PySem.Env} (h : ∀ v p, e ≠ .Starred v p) : assignEach (e :: es) env = (false, assign e env) :: assignEach es env := by
  cases e <;> first | rfl | exact absurd rfl (h _ _)
theorem g_all {V : Lv} {Y : L2.Cx} {N : List Str} {sc tsc : Scope} (G : GX V Y N sc) (gt : GT Y tsc) : ∀ (n : Nat),
    (∀ e t, stripT N tsc n e = some t → PG Y e (liftG V.D t)) ∧ (∀ es ts, mapO (stripT N tsc n) es = some ts → PGs Y es (liftGs V.D ts) ∧ (assignEach es Y.env).length = ts.length ∧ (assignEach es Y.env).findIdx? (·.1) = none) := by
  have lists : ∀ n, (∀ e t, stripT N tsc n e = some t → PG Y e (liftG V.D t)) → ∀ es ts, mapO (stripT N tsc n) es = some ts → PGs Y es (liftGs V.D ts) ∧ (assignEach es Y.env).length = ts.length ∧ (assignEach es Y.env).findIdx? (·.1) = none := by
    intro n ih es
    induction es with
    | nil =>
      intro ts h
      obtain rfl := mapO_nil h
      refine ⟨PGs.imp L2.pgs_nil fun vs σ H Q h => ?_, rfl, rfl⟩
      obtain ⟨tvs, env, st, B, F, R, r, er, sm, w, k⟩ := h
      cases tvs with
      | nil =>
        simp only [asgTs] at w
        exact ⟨r, k env w σ er (Off.refl σ)⟩
      | cons _ _ => simp only [asgTs] at w
    | cons e es ih2 =>
      intro ts h
      obtain ⟨t, ts', rfl, h1, h2⟩ := mapO_cons h
      obtain ⟨g2, l2, f2⟩ := ih2 ts' h2
      have ns := asg_ns (es := es) (env := Y.env) (stripT_ns h1)
      refine ⟨PGs.imp (L2.pgs_cons (ih e t h1) g2 (by rw [ns]; rfl)) fun vs σ H Q h => ?_, by rw [ns, List.length_cons, l2, List.length_cons], by
        rw [ns, List.findIdx?_cons]
        show (if false = true then _ else _) = _
        rw [if_neg (by decide), f2]
        rfl⟩
      obtain ⟨tvs, env, st, B, F, R, r, er, sm, w, k⟩ := h
      cases tvs with
      | nil => simp only [asgTs] at w
      | cons tv tvs =>
        simp only [asgTs] at w
        obtain ⟨v, ws, rfl, r1, r2⟩ := r
        refine ⟨v, ws, rfl, tv, env, st, B, F, _, r1, er, sm, w, fun env' w' σ' er' o => ?_⟩
        exact ⟨tvs, env', st, B, F, R, r2, er', sm, w', fun env2 w2 σ2 er2 o2 => k env2 w2 σ2 er2 (o.trans o2)⟩
  intro n
  induction n with
  | zero =>
    have h0 : ∀ e t, stripT N tsc 0 e = some t → PG Y e (liftG V.D t) := fun e t h => by simp [stripT] at h
    exact ⟨h0, lists 0 h0⟩
  | succ n ih =>
    have h1 : ∀ e t, stripT N tsc (n + 1) e = some t → PG Y e (liftG V.D t) := by
      intro e t h
      unfold stripT at h
      split at h
      · rename_i h0; exact absurd h0 (by omega)
      · rename_i h0
        cases h0
        split at h
        · rename_i hx
          cases hs : slot N _ with
          | none => rw [hs] at h; cases h
          | some i =>
            rw [hs] at h
            cases h
            obtain ⟨g1, g2⟩ := gt _ hx
            refine PG.imp (L2.pg_name (i := i) (by rw [G.nn]; exact G.nd) (by rw [G.nn]; exact slotOf hs) g1 g2) fun v σ H Q h => ?_
            obtain ⟨tv, env, st, B, F, R, r, er, sm, w, k⟩ := h
            simp only [asgT] at w
            refine k _ w _ (er.set r) ⟨by simp, fun j hj => ?_⟩
            simp only [slots, List.mem_singleton] at hj
            rw [List.getElem?_set_ne (fun z => hj z.symm)]
        · cases h
      · rename_i h0
        cases h0
        cases hm : mapO (stripT N tsc n) _ with
        | none => rw [hm] at h; cases h
        | some gs =>
          rw [hm] at h
          cases h
          obtain ⟨p1, p2, p3⟩ := ih.2 _ _ hm
          refine PG.imp (PG.or (L2.pg_tup G.calm p1 p2 p3) (L2.pg_lst G.calm p1 p2 p3)) fun v σ H Q h => ?_
          obtain ⟨tv, env, st, B, F, R, r, er, sm, w, k⟩ := h
          cases tv <;> simp only [asgT] at w
          · rename_i ts
            obtain ⟨a, ys, rfl, sa, ra⟩ := r
            exact .inl ⟨a, ys, rfl, sm.sqT sa, by rw [← ra.length, asgTs_len w], ts, env, st, B, F, R, ra, er, sm, w, k⟩
          · cases r
            obtain ⟨ts, e, w⟩ := w
            obtain ⟨ys, _, sq, ra⟩ := sm.sqL (K := Y.K) e
            exact .inr ⟨_, ys, rfl, sq, by rw [← ra.length, asgTs_len w], ts, env, st, B, F, R, ra, er, sm, w, k⟩
      · cases h
    exact ⟨h1, lists (n + 1) h1⟩
end Mo

set_option Elab.async false
set_option linter.all false
set_option maxRecDepth 100000
set_option autoImplicit false
namespace Mo
open PySem PyProof.Rows
open L2 (Inv EP TP AP SP RelV Vals OpR UnR CallR VK R2 PE PT PW PA PO PS PSs Gl Vis Loc It Turn TI PI PG PGs TG TGs PTs Ends)

abbrev LI (V : Lv) (cs : List X) : L2.TT := liftT V.D (cEs V.cc cs) fun env st R => wpIf V.C cs env st R
section
variable {V : Lv} {Y : L2.Cx}
theorem PTs.imp {X : L2.Cx} {e : List Expr} {t t' : L2.TT} (h : PTs X e t) (k : ∀ σ H Q, t' σ H Q → t σ H Q) : PTs X e t' := ⟨fun pins s σ H Q I q => h.run pins s σ H Q I (k _ _ _ q)⟩
theorem i_nil : PTs Y [] (LI V []) := PTs.imp L2.pts_nil fun σ H Q h => by
  obtain ⟨env, st, B, F, R, er, sm, hb, w, en⟩ := h
  simp only [wpIf] at w
  exact en.here w (sm.more (by omega))
theorem i_one {c : Expr} {x : X} (h : PT Y c (LT V x)) : PTs Y [c] (LI V [x]) := PTs.imp (L2.pts_one h) fun σ H Q h => by
  obtain ⟨env, st, B, F, R, er, sm, hb, w, en⟩ := h
  simp only [wpIf] at w
  simp only [cEs] at hb en
  refine lT er sm (by omega) w fun t st1 H1 F1 r1 f1 sm1 e1 => ?_
  cases t
  · exact (en.mono f1 rfl).here r1 (sm1.more (by omega))
  · exact (en.mono f1 rfl).here r1 (sm1.more (by omega))

theorem nat_step {i c n B X : Nat} (hi : i < n) (hn : n ≤ LN) (h : B + LN * c ≤ X) : B + i * c + c ≤ X := by
  have h1 : (i + 1) * c ≤ LN * c := Nat.mul_le_mul_right c (by omega)
  rw [Nat.succ_mul] at h1
  omega
theorem drop_cons {α : Type} {ts : List α} {i : Nat} (h : i < ts.length) : ∃ t, ts[i]? = some t ∧ ts.drop i = t :: ts.drop (i + 1) :=
  ⟨ts[i], List.getElem?_eq_getElem h, List.drop_eq_getElem_cons h⟩

/-- the comprehension's reading -/
theorem lc_of {elt : X} {cs : List X} {t : Tg} {own : List Nat} {src : Sr} (hS : ∀ i ∈ slots t, i ∈ own) {σ : L2.St} {H : L2.Hp} {Q : VK}
    (h : liftN V.D (cL V.cc (.comp elt cs t own src)) (fun env st R => wpL V.C (.comp elt cs t own src) env st noE fun ts _ s => R ts s) σ H Q) :
    L2.tLc (LR V src) (liftG V.D t) (LI V cs) (LE V elt) own σ H Q := by
  obtain ⟨env, st, B, F, R, er, sm, hb, w, en⟩ := h
  simp only [wpL] at w
  simp only [cL] at hb en
  refine ⟨env, st, B, F, _, er, sm, by omega, w, fun ts chk st1 r1 l1 J H1 F1 f1 sm1 ok Dd hD => ?_⟩
  have nF1 : F1 Dd = none := sm1.noF hD
  have nF : F Dd = none := by
    cases z : F Dd with
    | none => rfl
    | some o => rw [f1 Dd o z] at nF1; cases nF1
  generalize hc : cEs V.cc cs + cE V.cc elt = c1 at hb en
  refine ⟨fun i m H => m = ts.length - i ∧ i ≤ ts.length ∧ ∃ acc xs F2 s, L2.Same F1 F2 ∧ F2 Dd = some (.lst xs) ∧ Sim V.D (B + cR V.cc src + i * c1) H F2 s ∧ RepVs V.D F2 acc xs ∧ acc.length ≤ SZ ∧ itl chk _ (ts.drop i) acc s (fun acc s2 => R acc s2),
    ⟨_, rfl, Nat.zero_le _, [], [], L2.upd F1 Dd (.lst []), st1, same_upd nF1, L2.upd_same, by rw [Nat.zero_mul]; exact (sm1.know _ hD), rfl, Nat.zero_le _, r1⟩, ?_⟩
  rintro i m H ⟨rfl, hi, acc, xs, F2, s, f2, hF, sm2, ra, la, w2⟩
  by_cases hlt : i < ts.length
  · obtain ⟨tv, ht, hd⟩ := drop_cons hlt
    rw [hd] at w2
    simp only [itl] at w2
    obtain ⟨hk, w2⟩ := w2
    obtain ⟨g1, g2⟩ := ok.go i tv _ H F2 s f2 sm2 hk ht
    have hbb := nat_step (B := B + cR V.cc src) (c := c1) hlt l1 (by omega) (X := BIG)
    refine .inr ⟨g1, fun H' => ∃ m', m' < ts.length - i ∧ _, fun H' h => h, fun x H' hy => ?_⟩
    obtain ⟨F3, f3, _, sm3, rt⟩ := g2 x H' hy
    have er3 : EnvR V.D F3 env σ := er.mono (f1.trans (f2.trans f3))
    refine ⟨tv, Mo.wipe env own, s, _, F3, _, rt, er3.wipe, sm3, w2, fun env2 w3 σ2 er2 off => ⟨wipe_off off hS, ?_⟩⟩
    refine lT er2 sm3 (by omega) w3 fun b st4 H4 F4 r4 f4 sm4 e4 => ?_
    cases b with
    | false =>
      rw [if_neg Bool.false_ne_true] at r4 ⊢
      obtain ⟨s5, sub, w5⟩ := r4
      refine ⟨ts.length - (i + 1), by omega, rfl, by omega, acc, xs, F4, s5, f2.trans (f3.trans f4), f4 _ _ (f3 _ _ hF), (sm4.sub sub).more ?_, ra.mono (f3.trans f4), la, w5⟩
      rw [Nat.succ_mul]; omega
    | true =>
      rw [if_pos rfl] at r4 ⊢
      refine lE e4 sm4 (by omega) r4 fun u st5 v5 H5 F5 r5 f5 sm5 q5 e5 => ?_
      obtain ⟨hz, s6, sub, w6⟩ := r5
      have hF5 : F5 Dd = some (.lst xs) := f5 _ _ (f4 _ _ (f3 _ _ hF))
      refine ⟨xs, sm5.fr _ _ hF5, by rw [← ra.length, ← size_eq]; exact hz, ?_⟩
      refine ⟨ts.length - (i + 1), by omega, rfl, by omega, acc ++ [u], xs ++ [v5], L2.upd F5 Dd (.lst (xs ++ [v5])), s6, same_updN (f2.trans (f3.trans (f4.trans f5))) nF1, L2.upd_same, ((sm5.setF hF5).sub sub).more ?_, ?_, ?_, w6⟩
      · rw [Nat.succ_mul]; omega
      · exact (RepVs.append (us := [u]) (ws := [v5]) (ra.mono (f3.trans (f4.trans f5))) (show RepVs V.D F5 [u] [v5] from ⟨v5, [], rfl, q5, rfl⟩)).keep (keep_updL hF5)
      · rw [List.length_append, List.length_singleton]; omega
  · have e : i = ts.length := by omega
    subst e
    rw [List.drop_length] at w2
    simp only [itl] at w2
    refine .inl ⟨ok.stop _ H F2 s f2 sm2 w2.1, en acc s w2.2 Dd xs H F2 (f1.trans f2) nF (sm2.more ?_) hF ra la⟩
    have : ts.length * c1 ≤ LN * c1 := Nat.mul_le_mul_right c1 l1
    omega
end
/-! within the block -/
theorem GX.blk {V : Lv} {Y : L2.Cx} {N : List Str} {sc : Scope} (G : GX V Y N sc) {scope : Scope} (hk : scope.kind = .function) (s : Shared) (H : L2.Hp) (C : Addr) (cl : List (Str × Addr)) (fp : List Addr) :
    GX V (Y.blk s H scope (compEnvC scope cl C Y.env) fp) N (L2.relS scope sc) :=
  ⟨G.prog, G.w, G.K, G.mg, G.base, G.nn, G.nd, by show L2.relS scope Y.env.scope = _; rw [G.sce], hk, G.calm, G.gd, G.room, G.ok⟩
theorem isL_of {sc : Scope} {x : Str} (h : isL sc x = true) : sc.names.lookup x = some .local ∨ sc.names.lookup x = some .cell := by
  unfold isL at h
  split at h <;> first | exact .inl (by assumption) | exact .inr (by assumption) | cases h
theorem GT.blk {Y : L2.Cx} {scope : Scope} (s : Shared) (H : L2.Hp) (C : Addr) (cl : List (Str × Addr)) (fp : List Addr) : GT (Y.blk s H scope (compEnvC scope cl C Y.env) fp) scope := fun x hx => by
  rcases isL_of hx with h | h
  · have k : (L2.relS scope Y.env.scope).names.lookup x = some .local := L2.lookup_relS_keep (sc := Y.env.scope) (by decide) h
    exact ⟨.inl k, .inr k⟩
  · have k : (L2.relS scope Y.env.scope).names.lookup x = some .cell := L2.lookup_relS_keep (sc := Y.env.scope) (by decide) h
    exact ⟨.inr k, .inl (by show (scope.names.lookup x == some .cell) = true; rw [h]; rfl)⟩
section
variable {V : Lv} {Y : L2.Cx} {N : List Str} {sc : Scope} (G : GX V Y N sc)
include G
theorem s_comp {elt tg iter : Expr} {ifs : List Expr} {scope : Scope} {own : List (Str × Nat)} {pos : Pos} {x : X} {cs : List X} {t : Tg} {src : Sr} (ok : L2.BlkOk N sc scope own) (hS : ∀ i ∈ slots t, i ∈ own.map (·.2))
    (hi : PI Y tg iter (LR V src)) (hg : ∀ X', GX V X' N (L2.relS scope sc) → GT X' scope → PG X' tg (liftG V.D t)) (ht : ∀ X', GX V X' N (L2.relS scope sc) → PTs X' ifs (LI V cs)) (he : ∀ X', GX V X' N (L2.relS scope sc) → PE X' elt (LE V x))
    (hs : ∀ y, foldedSetIterable iter Y.env y = pure y) : PE Y (.ListComp elt [⟨tg, iter, ifs, 0⟩] scope pos) (LF V (.comp x cs t (own.map (·.2)) src)) := by
  have ok' : L2.BlkOk Y.N Y.env.scope scope own := by rw [G.nn, G.sce]; exact ok
  have nd : Y.N.Nodup := by rw [G.nn]; exact G.nd
  exact PE.imp (L2.pe_lc G.calm nd hi ok' (fun s H C cl fp => hg _ (G.blk ok.kind s H C cl fp) (GT.blk s H C cl fp)) (fun s H C cl fp => ht _ (G.blk ok.kind s H C cl fp)) (fun s H C cl fp => he _ (G.blk ok.kind s H C cl fp)) hs) fun σ H Q h => lc_of hS h
end

/-! ### statements -/
def EndS (D : Wd) (B : Nat) (F : L2.Hp) (P : Po) (E : Ends) : Prop :=
  P.ex = noE ∧ (∀ env' st', P.nx env' st' → ∀ σ' H' F', L2.Same F F' → Sim D B H' F' st' → EnvR D F' env' σ' → E.nx σ' H') ∧
    ∀ t st', P.rt t st' → ∀ v H' F', L2.Same F F' → Sim D B H' F' st' → RepV D F' t v → E.rt v H'
def liftS (D : Wd) (c : Nat) (w : Env → St → Po → Prop) : L2.TS := fun E σ H =>
  ∃ env st B F P, EnvR D F env σ ∧ Sim D B H F st ∧ B + c ≤ BIG ∧ w env st P ∧ EndS D (B + c) F P E
abbrev LS (V : Lv) (x : Sm) : L2.TS := liftS V.D (cS V.cc x) fun env st P => wpS V.C x env st P
abbrev LSs (V : Lv) (xs : List Sm) : L2.TS := liftS V.D (cSs V.cc xs) fun env st P => wpSs V.C xs env st P
theorem PS.imp {X : L2.Cx} {e : Stmt} {t t' : L2.TS} (h : PS X e t) (k : ∀ E σ H, t' E σ H → t E σ H) : PS X e t' := ⟨fun pins s σ H E I q => h.run pins s σ H E I (k _ _ _ q)⟩
theorem PSs.imp {X : L2.Cx} {e : List Stmt} {t t' : L2.TS} (h : PSs X e t) (k : ∀ E σ H, t' E σ H → t E σ H) : PSs X e t' := ⟨fun pins s σ H E I q => h.run pins s σ H E I (k _ _ _ q)⟩
theorem EndS.mono {D : Wd} {B B' : Nat} {F F' : L2.Hp} {P : Po} {E : Ends} (e : EndS D B F P E) (h : L2.Same F F') (hb : B' ≤ B) : EndS D B' F' P E :=
  ⟨e.1, fun env' st' w σ' H' F2 f s r => e.2.1 env' st' w σ' H' F2 (h.trans f) (s.more hb) r, fun t st' w v H' F2 f s r => e.2.2 t st' w v H' F2 (h.trans f) (s.more hb) r⟩
theorem EndS.nx {D : Wd} {B : Nat} {F H : L2.Hp} {P : Po} {E : Ends} {env : Env} {st : St} {σ : L2.St} (e : EndS D B F P E) (w : P.nx env st) (s : Sim D B H F st) (r : EnvR D F env σ) : E.nx σ H := e.2.1 env st w σ H F (same_refl F) s r
theorem EndS.rt {D : Wd} {B : Nat} {F H : L2.Hp} {P : Po} {E : Ends} {t : T} {v : L2.V} {st : St} (e : EndS D B F P E) (w : P.rt t st) (s : Sim D B H F st) (r : RepV D F t v) : E.rt v H := e.2.2 t st w v H F (same_refl F) s r
section
variable {V : Lv} {Y : L2.Cx} {N : List Str} {sc : Scope} (G : GX V Y N sc) {a b c e : Expr} {x y z : X} {pos : Pos} {es : List Expr} {xs : List X} {s : Stmt} {ss : List Stmt} {m : Sm} {ms : List Sm}
theorem ss_nil : PSs Y [] (LSs V []) := PSs.imp L2.pss_nil fun E σ H h => by
  obtain ⟨env, st, B, F, P, er, sm, hb, w, en⟩ := h
  simp only [wpSs] at w
  exact en.nx w (sm.more (by omega)) er
theorem ss_cons (h : PS Y s (LS V m)) (hs : PSs Y ss (LSs V ms)) : PSs Y (s :: ss) (LSs V (m :: ms)) := PSs.imp (L2.pss_cons h hs) fun E σ H h => by
  obtain ⟨env, st, B, F, P, er, sm, hb, w, en⟩ := h
  simp only [wpSs] at w
  simp only [cSs] at hb en
  refine ⟨env, st, B, F, _, er, sm, by omega, w, en.1, fun env' st' w' σ' H' F' f s r => ?_, fun t st' w' v H' F' f s r => (en.mono f (B' := B + cS V.cc m) (by omega)).rt w' s r⟩
  exact ⟨env', st', _, F', P, r, s, by omega, w', en.mono f (by omega)⟩
theorem st_ret0 : PS Y (.Return none pos) (LS V (.ret none)) := PS.imp L2.ps_retN fun E σ H h => by
  obtain ⟨env, st, B, F, P, er, sm, hb, w, en⟩ := h
  simp only [wpS] at w
  exact en.rt w (sm.more (by omega)) rfl
theorem st_ret (h : PE Y e (LE V x)) : PS Y (.Return (some e) pos) (LS V (.ret (some x))) := PS.imp (L2.ps_ret h) fun E σ H h => by
  obtain ⟨env, st, B, F, P, er, sm, hb, w, en⟩ := h
  simp only [wpS, en.1] at w
  simp only [cS] at hb en
  exact lE er sm hb w fun t st1 v H1 F1 r1 f1 sm1 q1 e1 => (en.mono f1 (Nat.le_refl _)).rt r1 sm1 q1
theorem st_ex (h : PE Y e (LE V x)) (hp : PS Y (.Expr e pos) (L2.tDrop (LE V x))) : PS Y (.Expr e pos) (LS V (.ex x)) := PS.imp hp fun E σ H h => by
  obtain ⟨env, st, B, F, P, er, sm, hb, w, en⟩ := h
  simp only [wpS, en.1] at w
  simp only [cS] at hb en
  exact lE er sm hb w fun t st1 v H1 F1 r1 f1 sm1 q1 e1 => (en.mono f1 (Nat.le_refl _)).nx r1 sm1 e1
theorem st_pass (hp : PS Y (.Pass pos) L2.tNext) : PS Y (.Pass pos) (LS V .pass) := PS.imp hp fun E σ H h => by
  obtain ⟨env, st, B, F, P, er, sm, hb, w, en⟩ := h
  simp only [wpS] at w
  exact en.nx w (sm.more (by omega)) er
theorem st_if {aa bb : List Stmt} {ma mb : List Sm} (hc : PT Y c (LT V z)) (ha : PSs Y aa (LSs V ma)) (hb : PSs Y bb (LSs V mb)) : PS Y (.If c aa bb pos) (LS V (.cond z ma mb)) := PS.imp (L2.ps_if hc ha hb) fun E σ H h => by
  obtain ⟨env, st, B, F, P, er, sm, hb, w, en⟩ := h
  simp only [wpS, en.1] at w
  simp only [cS] at hb en
  refine lT er sm (by omega) w fun t st1 H1 F1 r1 f1 sm1 e1 => ?_
  by_cases z : t = true
  · rw [if_pos z] at r1 ⊢
    exact ⟨env, st1, _, F1, P, e1, sm1, by omega, r1, en.mono f1 (by omega)⟩
  · rw [if_neg z] at r1 ⊢
    exact ⟨env, st1, _, F1, P, e1, sm1, by omega, r1, en.mono f1 (by omega)⟩
/-- target = value -/
theorem st_set {tgt : Expr} {t : Tg} (hp : PS Y s (L2.tAsg (LE V x) (liftG V.D t))) : PS Y s (LS V (.set t x)) := PS.imp hp fun E σ H h => by
  obtain ⟨env, st, B, F, P, er, sm, hb, w, en⟩ := h
  simp only [wpS, en.1] at w
  simp only [cS] at hb en
  exact lE er sm hb w fun tv st1 v H1 F1 r1 f1 sm1 q1 e1 => ⟨tv, env, st1, _, F1, _, q1, e1, sm1, r1, fun env' w' σ' er' _ => (en.mono f1 (Nat.le_refl _)).nx w' sm1 er'⟩
theorem st_name {i : Nat} {te : L2.TE} (hp : PS Y s (L2.tAsg te (L2.gName i))) (hte : ∀ σ H Q, LE V x σ H Q → te σ H Q) : PS Y s (LS V (.set (.name i) x)) := PS.imp hp fun E σ H h => by
  obtain ⟨env, st, B, F, P, er, sm, hb, w, en⟩ := h
  simp only [wpS, en.1] at w
  simp only [cS] at hb en
  refine hte σ H _ (lE er sm hb w fun tv st1 v H1 F1 r1 f1 sm1 q1 e1 => ?_)
  simp only [asgT] at r1
  exact (en.mono f1 (Nat.le_refl _)).nx r1 sm1 (e1.set q1)
theorem st_par {i j : Nat} (hp : PS Y s (L2.tPar i j (LA V xs))) : PS Y s (LS V (.par [i, j] xs)) := PS.imp hp fun E σ H h => by
  obtain ⟨env, st, B, F, P, er, sm, hb, w, en⟩ := h
  simp only [wpS, en.1] at w
  simp only [cS] at hb en
  refine lA er sm hb w fun ts st1 vs H1 F1 r1 l1 f1 sm1 q1 e1 => ?_
  obtain ⟨hl, r1⟩ := r1
  obtain ⟨t, u, rfl⟩ := len2 (l := ts) (by simpa using hl)
  obtain ⟨v, w, rfl, q, q'⟩ := rep2 q1
  exact ⟨v, w, rfl, (en.mono f1 (Nat.le_refl _)).nx r1 sm1 ((e1.set q).set q')⟩
def rAug (D : Wd) (o : Op) : L2.TIp := fun x y H Q => ∃ t u B F st R, RepV D F t x ∧ RepV D F u y ∧ Sim D B H F st ∧ augSem o t u R ∧ ∀ v, R v → ∀ z, RepV D F v z → Q z H
theorem st_aug {i : Nat} {o : Op} (hp : PS Y s (L2.tAug i (LE V x) (rAug V.D o))) : PS Y s (LS V (.aug i o x)) := PS.imp hp fun E σ H h => by
  obtain ⟨env, st, B, F, P, er, sm, hb, w, en⟩ := h
  simp only [wpS, en.1] at w
  simp only [cS] at hb en
  split at w
  · rename_i t e
    obtain ⟨v, hv, rv⟩ := er.get e
    refine ⟨v, hv, lE er sm hb w fun u st1 v1 H1 F1 r1 f1 sm1 q1 e1 => ?_⟩
    exact ⟨t, u, _, F1, st1, _, rv.mono f1, q1, sm1, r1, fun v2 r2 z q2 => (en.mono f1 (Nat.le_refl _)).nx r2 sm1 (e1.set q2)⟩
  · exact w.elim
theorem st_for {wi : Sr} {t : Tg} (hp : PS Y s (L2.tFor (LR V wi) (liftG V.D t) (LSs V ms))) : PS Y s (LS V (.loop t wi ms)) := PS.imp hp fun E σ H h => by
  obtain ⟨env, st, B, F, P, er, sm, hb, w, en⟩ := h
  simp only [wpS, en.1] at w
  simp only [cS] at hb en
  refine ⟨env, st, B, F, _, er, sm, by omega, w, fun ts chk st1 r1 l1 J H1 F1 f1 sm1 ok => ?_⟩
  generalize hc : cSs V.cc ms = c1 at hb en
  refine ⟨fun i m σ H => m = ts.length - i ∧ i ≤ ts.length ∧ ∃ env2 F2 s, L2.Same F1 F2 ∧ EnvR V.D F2 env2 σ ∧ Sim V.D (B + cR V.cc wi + i * c1) H F2 s ∧ itf chk _ (ts.drop i) env2 s P.nx,
    ⟨_, rfl, Nat.zero_le _, env, F1, st1, same_refl F1, er.mono f1, by rw [Nat.zero_mul]; exact sm1, r1⟩, ?_⟩
  rintro i m σ H ⟨rfl, hi, env2, F2, s, f2, er2, sm2, w2⟩
  by_cases hlt : i < ts.length
  · obtain ⟨tv, ht, hd⟩ := drop_cons hlt
    rw [hd] at w2
    simp only [itf] at w2
    obtain ⟨hk, w2⟩ := w2
    obtain ⟨g1, g2⟩ := ok.go i tv _ H F2 s f2 sm2 hk ht
    have hbb := nat_step (B := B + cR V.cc wi) (c := c1) hlt l1 (by omega) (X := BIG)
    refine .inr ⟨g1, fun σ' H' => ∃ m', m' < ts.length - i ∧ _, fun σ' H' h => h, fun x H' hy => ?_⟩
    obtain ⟨F3, f3, _, sm3, rt⟩ := g2 x H' hy
    refine ⟨tv, env2, s, _, F3, _, rt, er2.mono f3, sm3, w2, fun env3 w3 σ3 er3 _ => ?_⟩
    refine ⟨env3, s, _, F3, _, er3, sm3, by omega, w3, rfl, fun env4 st4 w4 σ4 H4 F4 f4 s4 r4 => ?_, fun t st4 w4 v H4 F4 f4 s4 r4 => ?_⟩
    · obtain ⟨env5, s5, ew, sub, w5⟩ := w4
      refine ⟨ts.length - (i + 1), by omega, rfl, by omega, env5, F4, s5, f2.trans (f3.trans f4), r4.wk ew, (s4.sub sub).more ?_, w5⟩
      rw [Nat.succ_mul]; omega
    · refine (en.mono (f1.trans (f2.trans (f3.trans f4))) (B' := B + cR V.cc wi + i * c1 + c1) ?_).rt w4 (s4.more (by omega)) r4
      have h1 : (i + 1) * c1 ≤ LN * c1 := Nat.mul_le_mul_right c1 (by omega)
      rw [Nat.succ_mul] at h1
      omega
  · have e : i = ts.length := by omega
    subst e
    rw [List.drop_length] at w2
    simp only [itf] at w2
    refine .inl ⟨ok.stop _ H F2 s f2 sm2 w2.1, (en.mono (f1.trans f2) (Nat.le_refl _)).nx w2.2 (sm2.more ?_) er2⟩
    have : ts.length * c1 ≤ LN * c1 := Nat.mul_le_mul_right c1 l1
    omega
theorem st_whl (hp : PS Y s (L2.tWhile (LT V z) (LSs V ms))) : PS Y s (LS V (.whl z ms)) := PS.imp hp fun E σ H h => by
  obtain ⟨env, st, B, F, P, er, sm, hb, w, en⟩ := h
  simp only [wpS, en.1] at w
  simp only [cS] at hb en
  obtain ⟨n, hn, w⟩ := w
  generalize hc : cE V.cc z + cSs V.cc ms = c1 at hb en
  refine ⟨fun m σ H => m ≤ n ∧ ∃ env2 F2 s, L2.Same F F2 ∧ EnvR V.D F2 env2 σ ∧ Sim V.D (B + (n - m) * c1) H F2 s ∧ itw _ _ m env2 s P.nx,
    ⟨n, Nat.le_refl _, env, F, st, same_refl F, er, by rw [Nat.sub_self, Nat.zero_mul]; exact sm, w⟩, ?_⟩
  rintro m σ H ⟨hm, env2, F2, s, f2, er2, sm2, w2⟩
  cases m with
  | zero => exact w2.elim
  | succ m =>
    simp only [itw] at w2
    have hbb := nat_step (B := B) (c := c1) (i := n - (m + 1)) (n := n) (by omega) hn hb
    have hmul : (n - m) * c1 = (n - (m + 1)) * c1 + c1 := by
      have : n - m = (n - (m + 1)) + 1 := by omega
      rw [this, Nat.succ_mul]
    refine lT er2 sm2 (by omega) w2 fun t st3 H3 F3 r3 f3 sm3 e3 => ?_
    by_cases zt : t = true
    · rw [if_pos zt] at r3 ⊢
      refine ⟨fun σ' H' => ∃ m', m' < m + 1 ∧ _, fun σ' H' h => h, ?_⟩
      refine ⟨env2, st3, _, F3, _, e3, sm3, by omega, r3, rfl, fun env4 st4 w4 σ4 H4 F4 f4 s4 r4 => ?_, fun t st4 w4 v H4 F4 f4 s4 r4 => ?_⟩
      · obtain ⟨env5, s5, ew, sub, w5⟩ := w4
        exact ⟨m, by omega, by omega, env5, F4, s5, f2.trans (f3.trans f4), r4.wk ew, (s4.sub sub).more (by omega), w5⟩
      · refine (en.mono (f2.trans (f3.trans f4)) (B' := B + (n - (m + 1)) * c1 + c1) ?_).rt w4 (s4.more (by omega)) r4
        have h1 : (n - m) * c1 ≤ LN * c1 := Nat.mul_le_mul_right c1 (by unfold LN; omega)
        omega
    · rw [if_neg zt] at r3 ⊢
      refine (en.mono (f2.trans f3) (Nat.le_refl _)).nx r3 (sm3.more ?_) e3
      have h1 : (n - m) * c1 ≤ LN * c1 := Nat.mul_le_mul_right c1 (by unfold LN; omega)
      omega
end
end Mo

set_option Elab.async false
set_option linter.all false
set_option maxRecDepth 100000
set_option autoImplicit false
namespace Mo
open PySem PyProof.Rows
open L2 (Inv EP TP AP SP RelV Vals OpR UnR CallR VK R2 PE PT PW PA PO PS PSs Gl Vis Loc It Turn TI PI PG PGs TG TGs PTs Ends)

structure Snd (V : Lv) (N : List Str) (n : Nat) : Prop where
  e : ∀ (Y : L2.Cx) (sc : Scope), GX V Y N sc → ∀ e x, stripE V.g N n sc e = some x → PE Y e (LE V x)
  t : ∀ (Y : L2.Cx) (sc : Scope), GX V Y N sc → ∀ e x, stripE V.g N n sc e = some x → PT Y e (LT V x)
  b : ∀ (Y : L2.Cx) (sc : Scope), GX V Y N sc → ∀ op es x pos, stripB V.g N n sc op es = some x → PE Y (.BoolOp op es pos) (LE V x) ∧ PW Y (.BoolOp op es pos) (LT V x)
  o : ∀ (Y : L2.Cx) (sc : Scope), GX V Y N sc → ∀ e x, stripO V.g N n sc e = some x → PO Y e (LO V x)
  l : ∀ (Y : L2.Cx) (sc : Scope), GX V Y N sc → ∀ e x, stripL V.g N n sc e = some x → PE Y e (LL V x)
  f : ∀ (Y : L2.Cx) (sc : Scope), GX V Y N sc → ∀ e x, stripL V.g N n sc e = some x → isComp e = true → PE Y e (LF V x) ∧ newL x = true
  c : ∀ (Y : L2.Cx) (sc : Scope), GX V Y N sc → ∀ elt gens scope pos x, stripC V.g N n sc elt gens scope = some x → PE Y (.ListComp elt gens scope pos) (LF V x) ∧ newL x = true
  r : ∀ (Y : L2.Cx) (sc : Scope), GX V Y N sc → ∀ tg e x, stripR V.g N n sc tg e = some x → PI Y tg e (LR V x) ∧ ∀ y, foldedSetIterable e Y.env y = pure y

theorem star_ns {e : Expr} {es : List Expr} {env : PySem.Env} (h : ∀ v p, e ≠ .Starred v p) : starEach (e :: es) env = (false, eval e env) :: starEach es env := by
  cases e <;> first | rfl | exact absurd rfl (h _ _)
theorem starE {g : SE} {N : List Str} {n : Nat} {sc : Scope} {e : Expr} {x : X} (h : stripE g N n sc e = some x) : ∀ v p, e ≠ .Starred v p := by
  intro v p z
  subst z
  cases n <;> simp [stripE] at h
theorem starL {g : SE} {N : List Str} {n : Nat} {sc : Scope} {e : Expr} {x : L} (h : stripL g N n sc e = some x) : ∀ v p, e ≠ .Starred v p := by
  intro v p z
  subst z
  cases n with
  | zero => simp [stripL] at h
  | succ n => cases n <;> simp [stripL, stripE] at h
theorem plain_of {env : PySem.Env} {pos : Pos} : ∀ {es : List Expr}, (∀ e ∈ es, ∀ v p, e ≠ .Starred v p) → (backTo pos (starEach es env)).any (·.1) = false
  | [], _ => rfl
  | e :: es, h => by
    rw [star_ns (h e (by simp))]
    show (false || (backTo pos (starEach es env)).any (·.1)) = false
    rw [plain_of fun e he => h e (by simp [he])]
    rfl
theorem mapO_mem {α β : Type} {f : α → Option β} : ∀ {xs : List α} {ys : List β}, mapO f xs = some ys → ∀ x ∈ xs, ∃ y, f x = some y
  | [], _, _, _, h => by cases h
  | x :: xs, ys, h, z, hz => by
    obtain ⟨y, ys', rfl, h1, h2⟩ := mapO_cons h
    rcases List.mem_cons.mp hz with rfl | hz
    · exact ⟨y, h1⟩
    · exact mapO_mem h2 z hz
theorem mapO_len {α β : Type} {f : α → Option β} : ∀ {xs : List α} {ys : List β}, mapO f xs = some ys → ys.length = xs.length
  | [], _, h => by rw [mapO_nil h]; rfl
  | x :: xs, ys, h => by
    obtain ⟨y, ys', rfl, h1, h2⟩ := mapO_cons h
    simp [mapO_len h2]

section
variable {V : Lv} {N : List Str} {n : Nat} (S : Snd V N n) {Y : L2.Cx} {sc : Scope} (G : GX V Y N sc)
include S G
theorem args_of : ∀ {es : List Expr} {xs : List X}, mapO (stripE V.g N n sc) es = some xs → PA Y es (LA V xs)
  | [], _, h => by rw [mapO_nil h]; exact s_nil
  | e :: es, xs, h => by
    obtain ⟨y, ys, rfl, h1, h2⟩ := mapO_cons h
    exact s_args (S.e Y sc G e y h1) (args_of h2) (star_ns (starE h1))
theorem argsL_of : ∀ {es : List Expr} {xs : List L}, mapO (stripL V.g N n sc) es = some xs → PA Y es (LLs V xs)
  | [], _, h => by rw [mapO_nil h]; exact sl_nil
  | e :: es, xs, h => by
    obtain ⟨y, ys, rfl, h1, h2⟩ := mapO_cons h
    exact sl_cons (S.l Y sc G e y h1) (argsL_of h2) (star_ns (starL h1))
omit S in
theorem name_ok {x : Str} {p : Pos} {r : X} (h : nameE V.g N sc x = some r) : PE Y (.Name x p) (LE V r) := by
  unfold nameE at h
  split at h
  · rename_i ho
    split at h
    · rename_i hv
      cases hs : slot N x with
      | none => rw [hs] at h; cases h
      | some i => rw [hs] at h; cases h; exact s_var G ho hv hs
    · split at h
      · rename_i hg
        split at h
        · rename_i i hi
          cases h
          exact s_cons G ho hg hi
        · cases hs : V.g.fns.idxOf? x with
          | none => rw [hs] at h; cases h
          | some i => rw [hs] at h; cases h; exact s_fnv G ho hg hs
      · cases h
  · cases h
omit S in
theorem blt_of {x : Str} (h : bltN V.g sc x = true) : okN x = true ∧ isG sc x = true ∧ V.g.blt.contains x = true := by
  unfold bltN at h
  simp only [Bool.and_eq_true] at h
  exact ⟨h.1.1, h.1.2, h.2⟩
theorem bi_ok {f : Bi} {x : Str} {u : Value} {es : List Expr} {xs : List X} {p pos : Pos} (hb : bltN V.g sc x = true) (hu : bootBuiltins x = some u) (ht : (∃ id, u = .builtin id) ∨ ∃ T, u = .type T) (hn : x ≠ "__name__") (hc : CallR Y u (rV V.D (biSem rpT f)))
    (hne : es ≠ []) (h : mapO (stripE V.g N n sc) es = some xs) : PE Y (.Call (.Name x p) es [] pos) (LE V (.bi f xs)) := by
  obtain ⟨h1, h2, h3⟩ := blt_of G hb
  cases es with
  | nil => exact absurd rfl hne
  | cons e r =>
    have ha := args_of S G h
    have hs := star_ns (es := r) (env := Y.env) (starE (mapO_cons h).choose_spec.choose_spec.2.1)
    have hp : (backTo pos (starEach r Y.env)).any (·.1) = false := plain_of fun e he => by
      obtain ⟨y, hy⟩ := mapO_mem h e (by simp [he])
      exact starE hy
    refine s_bi G ?_
    rcases ht with ⟨id, rfl⟩ | ⟨T, rfl⟩
    · exact L2.pe_callB hc (gl_of G h2) (mg_of G h3) hu ha hn (okN1 h1).1 hs hp
    · exact L2.pe_callTy hc (gl_of G h2) (mg_of G h3) hu ha hn (okN1 h1).1 hs hp
theorem li_ok {f : Li} {x : Str} {u : Value} {e : Expr} {l : L} {p pos : Pos} {r : List L2.V → L2.Hp → VK → Prop} {t : L2.TE} (hb : bltN V.g sc x = true) (hu : bootBuiltins x = some u) (ht : (∃ id, u = .builtin id) ∨ ∃ T, u = .type T) (hn : x ≠ "__name__") (hc : CallR Y u r)
    (hs : ∀ v p, e ≠ .Starred v p) (h : PE Y e t) : PE Y (.Call (.Name x p) [e] [] pos) (L2.tCB r (one t)) := by
  obtain ⟨h1, h2, h3⟩ := blt_of G hb
  have ha := pa_one h (star_ns hs)
  rcases ht with ⟨id, rfl⟩ | ⟨T, rfl⟩
  · exact L2.pe_callB hc (gl_of G h2) (mg_of G h3) hu ha hn (okN1 h1).1 (star_ns hs) rfl
  · exact L2.pe_callTy hc (gl_of G h2) (mg_of G h3) hu ha hn (okN1 h1).1 (star_ns hs) rfl
end
theorem boots : bootBuiltins ("len" : Str) = some (.builtin "len") ∧ bootBuiltins ("tuple" : Str) = some (.type "tuple") ∧ bootBuiltins ("int" : Str) = some (.type "int") ∧ bootBuiltins ("max" : Str) = some (.builtin "max") ∧ bootBuiltins ("min" : Str) = some (.builtin "min") ∧
    bootBuiltins ("sum" : Str) = some (.builtin "sum") ∧ bootBuiltins ("all" : Str) = some (.builtin "all") ∧ bootBuiltins ("any" : Str) = some (.builtin "any") ∧ bootBuiltins ("abs" : Str) = some (.builtin "abs") ∧ bootBuiltins ("repr" : Str) = some (.builtin "repr") ∧
    bootBuiltins ("sorted" : Str) = some (.builtin "sorted") ∧ bootBuiltins ("list" : Str) = some (.type "list") ∧ bootBuiltins ("divmod" : Str) = some (.builtin "divmod") ∧ bootBuiltins ("range" : Str) = some (.type "range") ∧ bootBuiltins ("enumerate" : Str) = some (.type "enumerate") ∧ bootBuiltins ("zip" : Str) = some (.type "zip") := by
  refine ⟨?_, ?_, ?_, ?_, ?_, ?_, ?_, ?_, ?_, ?_, ?_, ?_, ?_, ?_, ?_, ?_⟩ <;> decide +kernel
theorem bk_all (x : Str) : (x = "len" ∧ bkO x = .mm .len .len) ∨ (x = "tuple" ∧ bkO x = .li .tuple) ∨ (x = "int" ∧ bkO x = .bi .int) ∨ (x = "isinstance" ∧ bkO x = .isi) ∨ (x = "max" ∧ bkO x = .mm .max2 .max) ∨ (x = "min" ∧ bkO x = .mm .min2 .min) ∨
    (x = "sum" ∧ bkO x = .li .sum) ∨ (x = "all" ∧ bkO x = .li .all) ∨ (x = "any" ∧ bkO x = .li .any) ∨ (x = "abs" ∧ bkO x = .bi .abs) ∨ (x = "repr" ∧ bkO x = .bi .repr) ∨ (x = "list" ∧ bkO x = .li .list) ∨ (x = "sorted" ∧ bkO x = .srt) ∨ (x = "divmod" ∧ bkO x = .bi .divmod) ∨ bkO x = .no := by
  by_cases h0 : x = ("len" : Str)
  · subst h0
    exact .inl ⟨rfl, by decide +kernel⟩
  by_cases h1 : x = ("tuple" : Str)
  · subst h1
    exact .inr (.inl ⟨rfl, by decide +kernel⟩)
  by_cases h2 : x = ("int" : Str)
  · subst h2
    exact .inr (.inr (.inl ⟨rfl, by decide +kernel⟩))
  by_cases h3 : x = ("isinstance" : Str)
  · subst h3
    exact .inr (.inr (.inr (.inl ⟨rfl, by decide +kernel⟩)))
  by_cases h4 : x = ("max" : Str)
  · subst h4
    exact .inr (.inr (.inr (.inr (.inl ⟨rfl, by decide +kernel⟩))))
  by_cases h5 : x = ("min" : Str)
  · subst h5
    exact .inr (.inr (.inr (.inr (.inr (.inl ⟨rfl, by decide +kernel⟩)))))
  by_cases h6 : x = ("sum" : Str)
  · subst h6
    exact .inr (.inr (.inr (.inr (.inr (.inr (.inl ⟨rfl, by decide +kernel⟩))))))
  by_cases h7 : x = ("all" : Str)
  · subst h7
    exact .inr (.inr (.inr (.inr (.inr (.inr (.inr (.inl ⟨rfl, by decide +kernel⟩)))))))
  by_cases h8 : x = ("any" : Str)
  · subst h8
    exact .inr (.inr (.inr (.inr (.inr (.inr (.inr (.inr (.inl ⟨rfl, by decide +kernel⟩))))))))
  by_cases h9 : x = ("abs" : Str)
  · subst h9
    exact .inr (.inr (.inr (.inr (.inr (.inr (.inr (.inr (.inr (.inl ⟨rfl, by decide +kernel⟩)))))))))
  by_cases h10 : x = ("repr" : Str)
  · subst h10
    exact .inr (.inr (.inr (.inr (.inr (.inr (.inr (.inr (.inr (.inr (.inl ⟨rfl, by decide +kernel⟩))))))))))
  by_cases h11 : x = ("list" : Str)
  · subst h11
    exact .inr (.inr (.inr (.inr (.inr (.inr (.inr (.inr (.inr (.inr (.inr (.inl ⟨rfl, by decide +kernel⟩)))))))))))
  by_cases h12 : x = ("sorted" : Str)
  · subst h12
    exact .inr (.inr (.inr (.inr (.inr (.inr (.inr (.inr (.inr (.inr (.inr (.inr (.inl ⟨rfl, by decide +kernel⟩))))))))))))
  by_cases h13 : x = ("divmod" : Str)
  · subst h13
    exact .inr (.inr (.inr (.inr (.inr (.inr (.inr (.inr (.inr (.inr (.inr (.inr (.inr (.inl ⟨rfl, by decide +kernel⟩)))))))))))))
  have e : ∀ s : Str, x ≠ s → (x == s) = false := fun s h => beq_eq_false_iff_ne.mpr h
  refine .inr (.inr (.inr (.inr (.inr (.inr (.inr (.inr (.inr (.inr (.inr (.inr (.inr (.inr ?_)))))))))))))
  unfold bkO
  rw [e _ h0, e _ h1, e _ h2, e _ h3, e _ h4, e _ h5, e _ h6, e _ h7, e _ h8, e _ h9, e _ h10, e _ h11, e _ h12, e _ h13]
  rfl
section
variable {V : Lv} {N : List Str} {n : Nat} (S : Snd V N n) {Y : L2.Cx} {sc : Scope} (G : GX V Y N sc)
include S G
theorem u64 : Y.A.units + 64 < cLine := G.room.units
omit S G in
theorem base_of {o : Expr} {m : Str} {env : PySem.Env} {w : Sem Value} (h : isBI o = false) : attributeBase o m env w = w := by
  cases o <;> first
    | rfl
    | (rename_i f es kw pos
       cases f <;> first
         | rfl
         | (cases es <;> cases kw <;> first | rfl | (simp [isBI] at h)))
omit S G in
theorem itemsE_eq {e o : Expr} (h : itemsE e = some o) : ∃ m ap pos, e = .Call (.Attribute o m ap) [] [] pos ∧ m = ("items" : Str) ∧ (ap.endLine == pos.line) = true ∧ isBI o = false := by
  unfold itemsE at h
  split at h
  · rename_i o' m ap pos
    by_cases hc : (m == ("items" : Str) && ap.endLine == pos.line && !isBI o') = true
    · rw [if_pos hc] at h
      cases h
      simp only [Bool.and_eq_true, Bool.not_eq_true'] at hc
      exact ⟨_, _, _, rfl, eq_of_beq hc.1.1, hc.1.2, hc.2⟩
    · rw [if_neg hc] at h
      cases h
  · cases h
theorem callB_ok {x : Str} {es : List Expr} {r : X} {p pos : Pos} (hb : bltN V.g sc x = true) (h : callB V.g sc (stripE V.g N n sc) (stripL V.g N n sc) x es = some r) : PE Y (.Call (.Name x p) es [] pos) (LE V r) := by
  obtain ⟨b1, b2, b3, b4, b5, b6, b7, b8, b9, b10, b13, b11, b12, _⟩ := boots
  have bi : ∀ {f : Bi} {u : Value}, bootBuiltins x = some u → ((∃ id, u = .builtin id) ∨ ∃ T, u = .type T) → x ≠ "__name__" → CallR Y u (rV V.D (biSem rpT f)) → ∀ {es : List Expr}, es ≠ [] → ∀ {r : X}, (mapO (stripE V.g N n sc) es).map (X.bi f) = some r → PE Y (.Call (.Name x p) es [] pos) (LE V r) := by
    intro f u h1 h2 h3 h4 es h5 r h
    cases hm : mapO (stripE V.g N n sc) es with
    | none => rw [hm] at h; cases h
    | some xs => rw [hm] at h; cases h; exact bi_ok S G hb h1 h2 h3 h4 h5 hm
  unfold callB at h
  rcases bk_all x with ⟨hx, hk⟩ | ⟨hx, hk⟩ | ⟨hx, hk⟩ | ⟨hx, hk⟩ | ⟨hx, hk⟩ | ⟨hx, hk⟩ | ⟨hx, hk⟩ | ⟨hx, hk⟩ | ⟨hx, hk⟩ | ⟨hx, hk⟩ | ⟨hx, hk⟩ | ⟨hx, hk⟩ | ⟨hx, hk⟩ | ⟨hx, hk⟩ | hk <;> rw [hk] at h
  · subst hx
    match es, h with
    | [e], h =>
      simp only at h
      split at h
      · rename_i hc
        cases hl : stripL V.g N n sc e with
        | none => rw [hl] at h; cases h
        | some l =>
          rw [hl] at h; cases h
          exact s_len (li_ok S G (l := l) (f := .len) hb b1 (.inl ⟨_, rfl⟩) (by decide) L2.call_len (starL hl) (S.f Y sc G e l hl hc).1) rfl
      · cases hl : stripE V.g N n sc e with
        | none => rw [hl] at h; cases h
        | some y =>
          rw [hl] at h; cases h
          exact bi_ok S G hb b1 (.inl ⟨_, rfl⟩) (by decide) (cr_len G.K) (by simp) (by unfold mapO; rw [hl]; rfl)
    | [e, e2], h => exact bi (f := .len) b1 (.inl ⟨_, rfl⟩) (by decide) (cr_len G.K) (by simp) h
  · subst hx
    match es, h with
    | [e], h =>
      simp only [Bool.or_true, if_true] at h
      cases hl : stripL V.g N n sc e with
      | none => rw [hl] at h; cases h
      | some l =>
        rw [hl] at h; cases h
        exact s_tuple G (li_ok S G (l := l) (f := .tuple) hb b2 (.inr ⟨_, rfl⟩) (by decide) L2.call_tuple_of (starL hl) (S.l Y sc G e l hl))
  · subst hx
    match es, h with
    | [e], h => exact bi (f := .int) b3 (.inr ⟨_, rfl⟩) (by decide) cr_int (by simp) h
    | [e, e2], h => exact bi (f := .int) b3 (.inr ⟨_, rfl⟩) (by decide) cr_int (by simp) h
  · subst hx
    match es, h with
    | [e, .Name t q], h =>
      simp only at h
      split at h
      · rename_i ty y ht he
        split at h
        · rename_i hb2
          cases h
          obtain ⟨h1, h2, h3⟩ := blt_of G hb
          obtain ⟨g1, g2, g3⟩ := blt_of G hb2
          exact s_isi G rfl h2 h3 ht g2 g3 (S.e Y sc G e y he) (star_ns (starE he))
        · cases h
      · cases h
  · subst hx
    match es, h with
    | [e], h =>
      simp only at h
      split at h
      · rename_i hc
        cases hl : stripL V.g N n sc e with
        | none => rw [hl] at h; cases h
        | some l =>
          rw [hl] at h; cases h
          exact s_max (li_ok S G (l := l) (f := .max) hb b4 (.inl ⟨_, rfl⟩) (by decide) (L2.cr_max G.calm) (starL hl) (S.f Y sc G e l hl hc).1)
      · cases h
    | [e, e2], h => exact bi (f := .max2) b4 (.inl ⟨_, rfl⟩) (by decide) (cr_max2 G.calm) (by simp) h
  · subst hx
    match es, h with
    | [e], h =>
      simp only at h
      split at h
      · rename_i hc
        cases hl : stripL V.g N n sc e with
        | none => rw [hl] at h; cases h
        | some l =>
          rw [hl] at h; cases h
          exact s_min (li_ok S G (l := l) (f := .min) hb b5 (.inl ⟨_, rfl⟩) (by decide) (L2.cr_min G.calm) (starL hl) (S.f Y sc G e l hl hc).1)
      · cases h
    | [e, e2], h => exact bi (f := .min2) b5 (.inl ⟨_, rfl⟩) (by decide) (cr_min2 G.calm) (by simp) h
  · subst hx
    match es, h with
    | [e], h =>
      simp only [Bool.or_false] at h
      split at h
      · rename_i hc
        cases hl : stripL V.g N n sc e with
        | none => rw [hl] at h; cases h
        | some l =>
          rw [hl] at h; cases h
          exact s_sum (li_ok S G (l := l) (f := .sum) hb b6 (.inl ⟨_, rfl⟩) (by decide) (L2.cr_sum G.calm) (starL hl) (S.f Y sc G e l hl hc).1)
      · cases h
  · subst hx
    match es, h with
    | [e], h =>
      simp only [Bool.or_false] at h
      split at h
      · rename_i hc
        cases hl : stripL V.g N n sc e with
        | none => rw [hl] at h; cases h
        | some l =>
          rw [hl] at h; cases h
          exact s_all (li_ok S G (l := l) (f := .all) hb b7 (.inl ⟨_, rfl⟩) (by decide) (L2.cr_all G.calm) (starL hl) (S.f Y sc G e l hl hc).1)
      · cases h
  · subst hx
    match es, h with
    | [e], h =>
      simp only [Bool.or_false] at h
      split at h
      · rename_i hc
        cases hl : stripL V.g N n sc e with
        | none => rw [hl] at h; cases h
        | some l =>
          rw [hl] at h; cases h
          exact s_any (li_ok S G (l := l) (f := .any) hb b8 (.inl ⟨_, rfl⟩) (by decide) (L2.cr_any G.calm) (starL hl) (S.f Y sc G e l hl hc).1)
      · cases h
  · subst hx
    match es, h with
    | [e], h => exact bi (f := .abs) b9 (.inl ⟨_, rfl⟩) (by decide) cr_abs (by simp) h
    | [e, e2], h => exact bi (f := .abs) b9 (.inl ⟨_, rfl⟩) (by decide) cr_abs (by simp) h
  · subst hx
    match es, h with
    | [e], h => exact bi (f := .repr) b10 (.inl ⟨_, rfl⟩) (by decide) (cr_repr G.K G.gd (G.room.units)) (by simp) h
    | [e, e2], h => exact bi (f := .repr) b10 (.inl ⟨_, rfl⟩) (by decide) (cr_repr G.K G.gd (G.room.units)) (by simp) h
  · subst hx
    match es, h with
    | [e], h =>
      simp only [Bool.or_true, if_true] at h
      cases hl : stripL V.g N n sc e with
      | none => rw [hl] at h; cases h
      | some l =>
        rw [hl] at h; cases h
        exact s_list G (li_ok S G (l := l) (f := .list) hb b11 (.inr ⟨_, rfl⟩) (by decide) L2.call_list_of (starL hl) (S.l Y sc G e l hl))
  · subst hx
    match es, h with
    | [e], h =>
      simp only at h
      split at h
      · rename_i hc
        cases hl : stripL V.g N n sc e with
        | none => rw [hl] at h; cases h
        | some l =>
          rw [hl] at h; cases h
          exact s_new (s_srt (li_ok S G (l := l) (f := .len) hb b13 (.inl ⟨_, rfl⟩) (by decide) (cr_srt G.K (by have := G.room.un; omega)) (starL hl) (S.f Y sc G e l hl hc).1))
      · split at h
        · rename_i o hio
          cases hl : stripE V.g N n sc o with
          | none => rw [hl] at h; cases h
          | some y =>
            rw [hl] at h; cases h
            obtain ⟨m, ap, pos', rfl, hm, hlin, hbi⟩ := itemsE_eq hio
            subst hm
            have he := L2.pe_bm0 (apos := ap) (cpos := pos') PySem.F.plainAttrs_dict PySem.F.slot_dict_items PySem.F.type_dict_items L2.DX.mt_itemsT (S.e Y sc G o y hl) (base_of hbi) hlin
            rw [← G.K] at he
            exact s_new (s_items (li_ok S G (l := .ex y) (f := .len) hb b13 (.inl ⟨_, rfl⟩) (by decide) (cr_srtI G.K G.calm (by have := G.room.un; omega)) (fun _ _ z => by cases z) he) G.K)
        · cases hl : stripE V.g N n sc e with
          | none => rw [hl] at h; cases h
          | some y =>
            rw [hl] at h; cases h
            exact s_new (s_srtE (li_ok S G (l := .ex y) (f := .len) hb b13 (.inl ⟨_, rfl⟩) (by decide) (L2.CallR.or (cr_srt G.K (by have := G.room.un; omega)) (cr_srtD G.K G.calm (by have := G.room.un; omega))) (starE hl) (S.e Y sc G e y hl)))
  · subst hx
    match es, h with
    | [e], h => exact bi (f := .divmod) b12 (.inl ⟨_, rfl⟩) (by decide) cr_divmod (by simp) h
    | [e, e2], h => exact bi (f := .divmod) b12 (.inl ⟨_, rfl⟩) (by decide) cr_divmod (by simp) h
  · cases h

theorem callN_ok {x : Str} {es : List Expr} {r : X} {p pos : Pos} (h : callN V.g N sc (stripE V.g N n sc) (stripL V.g N n sc) x es = some r) : PE Y (.Call (.Name x p) es [] pos) (LE V r) := by
  unfold callN at h
  split at h
  · rename_i ho
    split at h
    · rename_i hv
      split at h
      · cases h
      · rename_i hne
        split at h
        · rename_i i xs hs hm
          cases h
          cases es with
          | nil => exact absurd rfl hne
          | cons e es =>
            exact s_callv G ho hv hs (args_of S G hm) (star_ns (starE (mapO_cons hm).choose_spec.choose_spec.2.1)) (plain_of fun e he => by
              obtain ⟨y, hy⟩ := mapO_mem hm e (by simp [he])
              exact starE hy)
        · cases h
    · split at h
      · rename_i hg
        split at h
        · rename_i i hi
          cases hm : mapO (stripE V.g N n sc) es with
          | none => rw [hm] at h; cases h
          | some xs =>
            rw [hm] at h; cases h
            cases es with
            | nil => rw [mapO_nil hm]; exact s_call0 G ho hg hi
            | cons e es =>
              exact s_call G ho hg hi (args_of S G hm) (star_ns (starE (mapO_cons hm).choose_spec.choose_spec.2.1)) (plain_of fun e he => by
                obtain ⟨y, hy⟩ := mapO_mem hm e (by simp [he])
                exact starE hy)
        · split at h
          · rename_i hb
            exact callB_ok S G hb h
          · cases h
      · cases h
  · cases h
omit S G in
theorem few_of {env : PySem.Env} {pos : Pos} {es : List Expr} (h : ∀ e ∈ es, ∀ v p, e ≠ .Starred v p) (hl : es.length < 20) : ((backTo pos (starEach es env)).all (fun x => !x.1) && (backToKw pos (keywordEach [] env)).all (fun x => x.1.isSome)
      && decide (es.length + ([] : List Keyword).length + (if ([] : List Keyword).isEmpty then 0 else 1) < 30)) = true := by
  have h1 := plain_of (env := env) (pos := pos) h
  have h2 : (backTo pos (starEach es env)).all (fun x => !x.1) = true := by
    rw [List.any_eq_false] at h1
    rw [List.all_eq_true]
    intro x hx
    have := h1 x hx
    simpa using this
  rw [h2]
  show (true && true && decide _) = true
  simp only [Bool.and_self, Bool.true_and, decide_eq_true_eq, List.length_nil, List.isEmpty_nil, if_true]
  omega
omit S in
theorem s_append {o e : Expr} {x y : X} {m : Str} {ap pos : Pos} (hm : m = ("append" : Str)) (hb : isBI o = false) (hl : (ap.endLine == pos.line) = true) (ho : PE Y o (LE V x)) (ha : PA Y [e] (LA V [y])) (hs : ∀ v p, e ≠ .Starred v p) : PE Y (.Call (.Attribute o m ap) [e] [] pos) (LE V (.me .append x [y])) := by
  subst hm
  refine PE.imp (L2.pe_bm PySem.F.plainAttrs_list PySem.F.slot_list_append PySem.F.type_list_append L2.mt_append ho ha (base_of hb) (few_of (fun e' he' => by rw [List.mem_singleton.mp he']; exact hs) (by simp)) hl (star_ns hs) rfl) fun σ H Q h => ?_
  obtain ⟨env, st, B, F, R, er, sm, hb, w, en⟩ := h
  simp only [wpE] at w
  simp only [cE] at hb en
  refine lE er sm (by omega) w fun t st1 v H1 F1 r1 f1 sm1 q1 e1 => ?_
  obtain ⟨⟨a, ts, rfl, e⟩, r1⟩ := r1
  cases q1
  obtain ⟨ys, _, sq, _⟩ := sm1.sqL (K := Y.K) e
  refine ⟨.inl ⟨rfl, ys, sq⟩, lA e1 sm1 (by omega) r1 fun us st2 vs H2 F2 r2 l2 f2 sm2 q2 e2 => ?_⟩
  obtain ⟨u, rfl⟩ : ∃ u, us = [u] := by
    cases us with
    | nil => simp at l2
    | cons u us => cases us with
      | nil => exact ⟨u, rfl⟩
      | cons _ _ => simp at l2
  obtain ⟨v, rfl, rv⟩ := rep1 q2
  simp only [meSem] at r2
  obtain ⟨zs, e3, hz, r2⟩ := r2
  obtain ⟨ws, hH, rw'⟩ := sm2.lst e3
  refine ⟨a, ws, v, rfl, rfl, hH, by rw [← rw'.length, ← size_eq]; exact hz, ?_⟩
  exact (en.mono (f1.trans f2) (B' := B + cE V.cc x + cEs V.cc [y]) (by omega)).here r2 (sm2.setL e3 (RepVs.append (us := [u]) (ws := [v]) rw' (show RepVs V.D F2 [u] [v] from ⟨v, [], rfl, rv, rfl⟩))) rfl
omit S G in
theorem mt_get2 (hu : Y.A.units + 1 < cLine) : L2.MtR Y "dict.get" (fun x xs H Q => ∃ a y d o, x = .ref a ∧ xs = [y, d] ∧ L2.DGet H a y o ∧ Q (o.getD d) H) := by
  intro pins s σ H x xs v us Q I rx rs h
  obtain ⟨a, y, d, o, rfl, rfl, g, q⟩ := h
  cases (show v = Value.ref a from rx)
  cases rs with
  | cons r1 r2 => cases r2 with
    | cons r2 r3 =>
      cases r3
      exact L2.d_get2 hu I g r1 r2 fun w' s' I' rw' => ⟨_, H, I', rw', q⟩
omit S in
theorem s_get2 {o e f : Expr} {x y z : X} {m : Str} {ap pos : Pos} (hm : m = ("get" : Str)) (hb : isBI o = false) (hl : (ap.endLine == pos.line) = true) (ho : PE Y o (LE V x)) (ha : PA Y [e, f] (LA V [y, z])) (hs : ∀ e' ∈ [e, f], ∀ v p, e' ≠ .Starred v p) : PE Y (.Call (.Attribute o m ap) [e, f] [] pos) (LE V (.me .get2 x [y, z])) := by
  subst hm
  refine PE.imp (L2.pe_bm PySem.F.plainAttrs_dict PySem.F.slot_dict_get PySem.F.type_dict_get (mt_get2 (by have := G.room.un; omega)) ho ha (base_of hb) (few_of hs (by simp)) hl (star_ns (hs e (by simp))) (plain_of fun e' he' => hs e' (by simp only [List.mem_cons] at he' ⊢; exact .inr he'))) fun σ H Q h => ?_
  obtain ⟨env, st, B, F, R, er, sm, hb, w, en⟩ := h
  simp only [wpE] at w
  simp only [cE] at hb en
  refine lE er sm (by omega) w fun t st1 v H1 F1 r1 f1 sm1 q1 e1 => ?_
  obtain ⟨⟨a, b, kvs, rfl, e9⟩, r1⟩ := r1
  cases q1
  obtain ⟨_, u, hu', rk⟩ := sm1.ob a _ e9
  have ty : L2.tyV Y.K "dict" (.ref a) H1 := .inr (.inr (.inl ⟨rfl, by
    cases b with
    | false => obtain ⟨ks, rfl, _⟩ := rk; exact .inl ⟨_, hu'⟩
    | true => obtain ⟨ks, rfl, _⟩ := rk; exact .inr ⟨_, hu'⟩⟩))
  refine ⟨ty, lA e1 sm1 (by omega) r1 fun us st2 vs H2 F2 r2 l2 f2 sm2 q2 e2 => ?_⟩
  obtain ⟨u1, u2, rfl⟩ : ∃ u1 u2, us = [u1, u2] := by
    cases us with
    | nil => simp at l2
    | cons u1 us => cases us with
      | nil => simp at l2
      | cons u2 us => cases us with
        | nil => exact ⟨u1, u2, rfl⟩
        | cons _ _ => simp at l2
  obtain ⟨v1, v2, rfl, rv1, rv2⟩ := rep2 q2
  simp only [meSem] at r2
  obtain ⟨b', kvs', e3, ok, r2⟩ := r2
  obtain ⟨o', g, ro⟩ := dget_of sm2 e3 ok rv1
  refine ⟨a, v1, v2, o', rfl, rfl, g, ?_⟩
  refine (en.mono (f1.trans f2) (B' := B + cE V.cc x + cEs V.cc [y, z]) (by omega)).here r2 sm2 ?_
  generalize lookK u1 kvs' = l at ro
  cases l <;> cases o' <;> first | exact ro.elim | exact rv2 | exact ro
omit S in
theorem s_pop0 {o : Expr} {x : X} {m : Str} {ap pos : Pos} (hm : m = ("pop" : Str)) (hb : isBI o = false) (hl : (ap.endLine == pos.line) = true) (ho : PE Y o (LE V x)) : PE Y (.Call (.Attribute o m ap) [] [] pos) (LE V (.me .pop x [])) := by
  subst hm
  refine PE.imp (L2.pe_bm0 PySem.F.plainAttrs_list PySem.F.slot_list_pop PySem.F.type_list_pop L2.mt_pop ho (base_of hb) hl) fun σ H Q h => ?_
  obtain ⟨env, st, B, F, R, er, sm, hb, w, en⟩ := h
  simp only [wpE, wpEs] at w
  simp only [cE, cEs] at hb en
  refine lE er sm (by omega) w fun t st1 v H1 F1 r1 f1 sm1 q1 e1 => ?_
  obtain ⟨⟨a, ts, rfl, e⟩, r1⟩ := r1
  cases q1
  obtain ⟨ys, _, sq, _⟩ := sm1.sqL (K := Y.K) e
  refine ⟨.inl ⟨rfl, ys, sq⟩, ?_⟩
  simp only [meSem] at r1
  obtain ⟨zs, y, e3, r2⟩ := r1
  obtain ⟨ws, hH, rw'⟩ := sm1.lst e3
  have hlen := rw'.length
  rw [List.length_append, List.length_singleton] at hlen
  have hget : (zs ++ [y])[zs.length]? = some y := by simp
  obtain ⟨v, hv, rv⟩ := rw'.get hget
  refine ⟨a, ws, v, rfl, rfl, hH, by rw [← hv]; congr 1; omega, ?_⟩
  have r3 : RepVs V.D F1 zs ws.dropLast := by
    have := rw'.take zs.length
    rw [List.take_append_of_le_length (Nat.le_refl _), List.take_length] at this
    rw [List.dropLast_eq_take]
    have e9 : ws.length - 1 = zs.length := by omega
    rw [e9]; exact this
  exact (en.mono f1 (B' := B + cE V.cc x) (by omega)).here r2 (sm1.setL e3 r3) rv
omit S in
theorem s_pop1 {o e : Expr} {x y : X} {m : Str} {ap pos : Pos} (hm : m = ("pop" : Str)) (hb : isBI o = false) (hl : (ap.endLine == pos.line) = true) (ho : PE Y o (LE V x)) (ha : PA Y [e] (LA V [y])) (hs : ∀ v p, e ≠ .Starred v p) : PE Y (.Call (.Attribute o m ap) [e] [] pos) (LE V (.me .pop x [y])) := by
  subst hm
  refine PE.imp (L2.pe_bm PySem.F.plainAttrs_list PySem.F.slot_list_pop PySem.F.type_list_pop L2.mt_popAt ho ha (base_of hb) (few_of (fun e' he' => by rw [List.mem_singleton.mp he']; exact hs) (by simp)) hl (star_ns hs) rfl) fun σ H Q h => ?_
  obtain ⟨env, st, B, F, R, er, sm, hb, w, en⟩ := h
  simp only [wpE] at w
  simp only [cE] at hb en
  refine lE er sm (by omega) w fun t st1 v H1 F1 r1 f1 sm1 q1 e1 => ?_
  obtain ⟨⟨a, ts, rfl, e⟩, r1⟩ := r1
  cases q1
  obtain ⟨ys, _, sq, _⟩ := sm1.sqL (K := Y.K) e
  refine ⟨.inl ⟨rfl, ys, sq⟩, lA e1 sm1 (by omega) r1 fun us st2 vs H2 F2 r2 l2 f2 sm2 q2 e2 => ?_⟩
  obtain ⟨u, rfl⟩ : ∃ u, us = [u] := by
    cases us with
    | nil => simp at l2
    | cons u us => cases us with
      | nil => exact ⟨u, rfl⟩
      | cons _ _ => simp at l2
  obtain ⟨v, rfl, rv⟩ := rep1 q2
  cases u <;> simp only [meSem] at r2
  obtain ⟨rfl, zs, y', e3, r2⟩ := r2
  cases rv
  obtain ⟨ws, hH, rw'⟩ := sm2.lst e3
  obtain ⟨v', ws', rfl, r5, r6⟩ := rw'
  exact ⟨_, v' :: ws', 0, 0, v', rfl, rfl, hH, by decide, by decide, by simp [seqIndex?], rfl, (en.mono (f1.trans f2) (B' := B + cE V.cc x + cEs V.cc [y]) (by omega)).here r2 (sm2.setL e3 r6) r5⟩
omit S G in
theorem inter_cons (a : Sg) : ∀ (x : Sg) (rest : List Sg), List.intercalate a (x :: rest) = x ++ (rest.map (a ++ ·)).flatten
  | x, [] => by simp [List.intercalate]
  | x, y :: r => by
    have ih := inter_cons a y r
    simp only [List.intercalate, List.intersperse, List.flatten_cons] at ih ⊢
    rw [ih]
    simp [List.append_assoc]
omit S G in
theorem fold_eq (a : Sg) : ∀ (rest : List Sg) (acc : Array Nat), ((rest.map cpsS).foldl (fun acc p => acc ++ (cpsS a).cps ++ p.cps) acc).toList = acc.toList ++ (rest.map (a ++ ·)).flatten
  | [], acc => by simp
  | y :: r, acc => by
    rw [List.map_cons, List.foldl_cons, fold_eq a r]
    simp [cpsS, List.append_assoc]
omit S G in
theorem join_eq (a : Sg) : ∀ ss : List Sg, Txt.join (cpsS a) (ss.map cpsS) = cpsS (List.intercalate a ss)
  | [] => rfl
  | x :: r => by
    have e := fold_eq a r (cpsS x).cps
    rw [inter_cons]
    show (⟨(r.map cpsS).foldl (fun acc p => acc ++ (cpsS a).cps ++ p.cps) (cpsS x).cps⟩ : Str) = ⟨_⟩
    congr 1
    apply Array.toList_inj.mp
    rw [e]
    simp [cpsS]
omit S in
theorem s_join {o e : Expr} {x : X} {l : L} {m : Str} {ap pos : Pos} (hm : m = ("join" : Str)) (hb : isBI o = false) (hl : (ap.endLine == pos.line) = true) (ho : PE Y o (LE V x)) (ha : PE Y e (LL V l)) (hs : ∀ v p, e ≠ .Starred v p) : PE Y (.Call (.Attribute o m ap) [e] [] pos) (LE V (.join x l)) := by
  subst hm
  refine PE.imp (L2.pe_bm PySem.F.plainAttrs_str PySem.F.slot_str_join PySem.F.type_str_join L2.mt_join ho (pa_one ha (star_ns hs)) (base_of hb) (few_of (fun e' he' => by rw [List.mem_singleton.mp he']; exact hs) (by simp)) hl (star_ns hs) rfl) fun σ H Q h => ?_
  obtain ⟨env, st, B, F, R, er, sm, hb, w, en⟩ := h
  simp only [wpE] at w
  simp only [cE] at hb en
  refine lE er sm (by omega) w fun t st1 v H1 F1 r1 f1 sm1 q1 e1 => ?_
  obtain ⟨⟨y, rfl⟩, r1⟩ := r1
  cases q1
  refine ⟨rfl, lL e1 sm1 (by omega) r1 fun ts chk st2 v H2 F2 r2 l2 f2 sm2 q2 c2 e2 => ?_⟩
  obtain ⟨ss, rfl, hz, r2⟩ := r2
  obtain ⟨p, ys, rfl, ra, q⟩ := q2.sq G.K sm2 c2
  rw [ra.strs] at q
  have em : ss.map (fun s => L2.V.str (cpsS s)) = (ss.map cpsS).map L2.V.str := by rw [List.map_map]; rfl
  rw [em] at q
  refine ⟨cpsS y, p, ss.map cpsS, rfl, rfl, q.imp id (·.1), ?_, ?_⟩
  · have e1 : (ss.map cpsS).map (·.length) = ss.map (·.length) := by
      rw [List.map_map]
      exact List.map_congr_left fun s _ => by simp [cpsS, Str.length]
    rw [e1, List.length_map]
    have e2 : (cpsS y).length = y.length := by simp [cpsS, Str.length]
    rw [e2]
    exact hz
  · rw [join_eq]
    exact (en.mono (f1.trans f2) (B' := B + cE V.cc x + cL V.cc l) (by omega)).here r2 sm2 rfl
theorem callM_ok {o : Expr} {m : Str} {ap pos : Pos} {es : List Expr} {r : X} (h : callM (stripE V.g N n sc) (stripL V.g N n sc) o m ap pos es = some r) : PE Y (.Call (.Attribute o m ap) es [] pos) (LE V r) := by
  unfold callM at h
  split at h
  · rename_i hc
    simp only [Bool.and_eq_true, Bool.not_eq_true', decide_eq_true_eq] at hc
    obtain ⟨⟨hl, h20⟩, hb⟩ := hc
    split at h
    · rename_i hj
      split at h
      · rename_i e
        split at h
        · rename_i x l hx hl'
          cases h
          exact s_join G (eq_of_beq hj) hb hl (S.e Y sc G _ _ hx) (S.l Y sc G _ _ hl') (starL hl')
        · cases h
      · cases h
    · split at h
      · rename_i k x xs hk hx hm
        cases h
        unfold meO at hk
        split at hk
        · rename_i h1
          simp only [Bool.and_eq_true, beq_iff_eq] at h1
          cases hk
          match es, h1.2, hm with
          | [e], _, hm =>
            obtain ⟨y, ys, rfl, g1, g2⟩ := mapO_cons hm
            have := mapO_nil g2
            subst this
            exact s_append G h1.1 hb hl (S.e Y sc G _ _ hx) (args_of S G hm) (starE g1)
        · split at hk
          · rename_i h1
            simp only [Bool.and_eq_true, beq_iff_eq, decide_eq_true_eq] at h1
            cases hk
            match es, h1.2, hm with
            | [], _, hm =>
              rw [mapO_nil hm]
              exact s_pop0 G h1.1 hb hl (S.e Y sc G _ _ hx)
            | [e], _, hm =>
              obtain ⟨y, ys, rfl, g1, g2⟩ := mapO_cons hm
              have := mapO_nil g2
              subst this
              exact s_pop1 G h1.1 hb hl (S.e Y sc G _ _ hx) (args_of S G hm) (starE g1)
            | _ :: _ :: _, h2, _ => simp at h2
          · split at hk
            · rename_i h1
              simp only [Bool.and_eq_true, beq_iff_eq] at h1
              cases hk
              match es, h1.2, hm with
              | [e, f], _, hm =>
                obtain ⟨y, ys, rfl, g1, g2⟩ := mapO_cons hm
                obtain ⟨z, zs, rfl, g3, g4⟩ := mapO_cons g2
                have := mapO_nil g4
                subst this
                exact s_get2 G h1.1 hb hl (S.e Y sc G _ _ hx) (args_of S G hm) (fun e' he' => by
                  simp only [List.mem_cons, List.mem_singleton, List.not_mem_nil, or_false] at he'
                  rcases he' with rfl | rfl
                  · exact starE g1
                  · exact starE g3)
            · cases hk
      · cases h
  · cases h
end
end Mo

set_option Elab.async false
set_option linter.all false
set_option maxRecDepth 100000
set_option autoImplicit false
namespace Mo
open PySem PyProof.Rows
open L2 (Inv EP TP AP SP RelV Vals OpR UnR CallR VK R2 PE PT PW PA PO PS PSs Gl Vis Loc It Turn TI PI PG PGs TG TGs PTs Ends)
theorem fold_ns {e : Expr} {env : PySem.Env} (h : ∀ a b c, e ≠ .Set a b c) : ∀ y, foldedSetIterable e env y = pure y := by
  intro y
  cases e <;> first | rfl | exact absurd rfl (h _ _ _)
theorem mark_ns {e : Expr} {op : CmpOp} (h : ∀ a b c, e ≠ .Set a b c) : behindInMarks op e = false := by
  cases e <;> first | rfl | exact absurd rfl (h _ _ _)
theorem setE {g : SE} {N : List Str} {n : Nat} {sc : Scope} {e : Expr} {x : X} (h : stripE g N n sc e = some x) : ∀ a b c, e ≠ .Set a b c := by
  intro a b c z
  subst z
  cases n <;> simp [stripE] at h
theorem plainIx {b : Expr} (h : ∀ lo hi st p, b ≠ .Slice lo hi st p) : L2.PlainIx b := by
  intro o i
  cases b <;> first | rfl | exact absurd rfl (h _ _ _ _)
theorem sliceE {g : SE} {N : List Str} {n : Nat} {sc : Scope} {e : Expr} {x : X} (h : stripE g N n sc e = some x) : ∀ lo hi st p, e ≠ .Slice lo hi st p := by
  intro a b c d z
  subst z
  cases n <;> simp [stripE] at h
section
variable {V : Lv} {N : List Str} {n : Nat} (S : Snd V N n) {Y : L2.Cx} {sc : Scope} (G : GX V Y N sc)
include S G
theorem subE_ok {a i : Expr} {r : X} {pos : Pos} (h : subE (stripE V.g N n sc) (stripO V.g N n sc) a i = some r) : PE Y (.Subscript a i pos) (LE V r) := by
  have plain : (match stripE V.g N n sc a, stripE V.g N n sc i with | some x, some y => some (X.idx x y) | _, _ => none) = some r → PE Y (.Subscript a i pos) (LE V r) := by
    intro h
    split at h
    · rename_i x y hx hy
      cases h
      exact s_idx G (S.e Y sc G _ _ hx) (S.e Y sc G _ _ hy) (plainIx (sliceE hy))
    · cases h
  cases i
  case Slice lo hi st p =>
    simp only [subE] at h
    split at h
    · split at h
      · rename_i x l h' hx hl hh
        cases h
        exact s_slc G (S.e Y sc G _ _ hx) (S.o Y sc G _ _ hl) (S.o Y sc G _ _ hh)
      · cases h
    · split at h
      · rename_i x hx
        cases h
        exact s_rev G (S.e Y sc G _ _ hx)
      · cases h
    · cases h
  all_goals (simp only [subE] at h; exact plain h)
omit S in
theorem gl_mg {x : Str} {u : Value} (hb : bltN V.g sc x = true) (hu : bootBuiltins x = some u) : Gl Y x ∧ Y.mg x = none := by
  obtain ⟨h1, h2, h3⟩ := blt_of G hb
  exact ⟨gl_of G h2, mg_of G h3⟩
theorem srcR_ok {tg e : Expr} {r : Sr} (h : srcR V.g sc (stripE V.g N n sc) (stripL V.g N n sc) tg e = some r) : PI Y tg e (LR V r) ∧ ∀ y, foldedSetIterable e Y.env y = pure y := by
  obtain ⟨_, _, _, _, _, _, _, _, _, _, _, _, _, br, be, bz⟩ := boots
  have plain : (∀ a b c, e ≠ .Set a b c) → (stripL V.g N n sc e).map Sr.seq = some r → PI Y tg e (LR V r) ∧ ∀ y, foldedSetIterable e Y.env y = pure y := by
    intro hns h
    cases hl : stripL V.g N n sc e with
    | none => rw [hl] at h; cases h
    | some l =>
      rw [hl] at h; cases h
      exact ⟨r_seq G (S.l Y sc G _ _ hl), fold_ns hns⟩
  cases e
  case Set => simp [srcR] at h
  case Call f es kw pos =>
    cases f
    case Name x p =>
      cases kw with
      | cons k kw => simp only [srcR] at h; exact plain (by intros; simp) h
      | nil =>
        simp only [srcR] at h
        refine ⟨?_, fold_ns (by intros; simp)⟩
        split at h
        · rename_i hc
          simp only [Bool.and_eq_true, Bool.or_eq_true] at hc
          obtain ⟨hb, hx⟩ := hc
          split at h
          · rename_i hr
            have := eq_of_beq hr
            subst this
            obtain ⟨g1, g2⟩ := gl_mg G hb br
            match es, h with
            | [a], h =>
              simp only at h
              cases hm : mapO (stripE V.g N n sc) [a] with
              | none => rw [hm] at h; cases h
              | some xs =>
                rw [hm] at h; cases h
                exact range1 g1 g2 (args_of S G hm) (by rw [mapO_len hm]; rfl) (star_ns (starE (mapO_cons hm).choose_spec.choose_spec.2.1))
            | [a, b], h =>
              simp only at h
              cases hm : mapO (stripE V.g N n sc) [a, b] with
              | none => rw [hm] at h; cases h
              | some xs =>
                rw [hm] at h; cases h
                obtain ⟨y, ys, _, k1, k2⟩ := mapO_cons hm
                obtain ⟨y', ys', _, k3, k4⟩ := mapO_cons k2
                have sb : starEach [b] Y.env = [(false, eval b Y.env)] := star_ns (starE k3)
                exact range2 g1 g2 (args_of S G hm) (by rw [mapO_len hm]; rfl) (by rw [star_ns (starE k1), sb]) sb
          · rename_i hnr
            split at h
            · rename_i ts k tp
              split at h
              · rename_i hr
                have := eq_of_beq hr
                subst this
                obtain ⟨g1, g2⟩ := gl_mg G hb be
                match es, h with
                | [a], h =>
                  simp only at h
                  cases hm : stripL V.g N n sc a with
                  | none => rw [hm] at h; cases h
                  | some l =>
                    rw [hm] at h; cases h
                    exact r_enum G g1 g2 (S.l Y sc G _ _ hm) (star_ns (starL hm))
              · rename_i hne
                have hz : x = ("zip" : Str) := by
                  rcases hx with (q | q) | q
                  · exact absurd q hnr
                  · exact absurd q hne
                  · exact eq_of_beq q
                subst hz
                obtain ⟨g1, g2⟩ := gl_mg G hb bz
                have pl : ∀ {a : Expr} {es : List Expr} {ls : List L}, mapO (stripL V.g N n sc) (a :: es) = some ls → (backTo pos (starEach es Y.env)).any (·.1) = false := fun {a es ls} hm => plain_of fun e he => by
                  obtain ⟨y, hy⟩ := mapO_mem hm e (by simp [he])
                  exact starL hy
                match es, h with
                | [a, b], h =>
                  simp only at h
                  cases hm : mapO (stripL V.g N n sc) [a, b] with
                  | none => rw [hm] at h; cases h
                  | some ls =>
                    rw [hm] at h; cases h
                    exact r_zip2 G (by rw [mapO_len hm]; rfl) g1 g2 (argsL_of S G hm) (star_ns (starL (mapO_cons hm).choose_spec.choose_spec.2.1)) (pl hm)
                | [a, b, c], h =>
                  simp only at h
                  cases hm : mapO (stripL V.g N n sc) [a, b, c] with
                  | none => rw [hm] at h; cases h
                  | some ls =>
                    rw [hm] at h; cases h
                    exact r_zip3 G (by rw [mapO_len hm]; rfl) g1 g2 (argsL_of S G hm) (star_ns (starL (mapO_cons hm).choose_spec.choose_spec.2.1)) (pl hm)
            · cases h
        · exact (plain (by intros; simp) h).1
    all_goals (simp only [srcR] at h; exact plain (by intros; simp) h)
  all_goals (simp only [srcR] at h; exact plain (by intros; simp) h)
end

/-! what strip tells is no test of its own -/
theorem map_some {α β : Type} {o : Option α} {f : α → β} {b : β} (h : o.map f = some b) : ∃ a, o = some a ∧ f a = b := by
  cases o with
  | none => cases h
  | some a => exact ⟨a, rfl, by simpa using h⟩
theorem nameE_pl {g : SE} {N : List Str} {sc : Scope} {x : Str} {r : X} (h : nameE g N sc x = some r) : plT r = true := by
  unfold nameE at h
  split at h
  · split at h
    · obtain ⟨i, _, rfl⟩ := map_some h; rfl
    · split at h
      · split at h
        · cases h; rfl
        · obtain ⟨i, _, rfl⟩ := map_some h; rfl
      · cases h
  · cases h
theorem callB_pl {g : SE} {sc : Scope} {rE : Expr → Option X} {rL : Expr → Option L} {x : Str} {es : List Expr} {r : X} (h : callB g sc rE rL x es = some r) : plT r = true := by
  unfold callB at h
  repeat' (first | (obtain ⟨i, _, rfl⟩ := map_some h; rfl) | (cases h; done) | (cases h; rfl) | split at h)
theorem callN_pl {g : SE} {N : List Str} {sc : Scope} {rE : Expr → Option X} {rL : Expr → Option L} {x : Str} {es : List Expr} {r : X} (h : callN g N sc rE rL x es = some r) : plT r = true := by
  unfold callN at h
  split at h
  · split at h
    · split at h
      · cases h
      · split at h
        · cases h; rfl
        · cases h
    · split at h
      · split at h
        · obtain ⟨i, _, rfl⟩ := map_some h; rfl
        · split at h
          · exact callB_pl h
          · cases h
      · cases h
  · cases h
theorem callM_pl {rE : Expr → Option X} {rL : Expr → Option L} {o : Expr} {m : Str} {ap pos : Pos} {es : List Expr} {r : X} (h : callM rE rL o m ap pos es = some r) : plT r = true := by
  unfold callM at h
  split at h
  · split at h
    · split at h
      · split at h
        · cases h; rfl
        · cases h
      · cases h
    · split at h
      · cases h; rfl
      · cases h
  · cases h
theorem subE_pl {rE : Expr → Option X} {rO : Option Expr → Option (Option X)} {a i : Expr} {r : X} (h : subE rE rO a i = some r) : plT r = true := by
  unfold subE at h
  split at h
  · split at h
    · split at h
      · cases h; rfl
      · cases h
    · split at h
      · cases h; rfl
      · cases h
    · cases h
  · split at h
    · cases h; rfl
    · cases h
theorem snd_all (V : Lv) (N : List Str) : ∀ n, Snd V N n := by
  intro n
  induction n with
  | zero =>
    exact ⟨fun _ _ _ _ _ h => by simp [stripE] at h, fun _ _ _ _ _ h => by simp [stripE] at h, fun _ _ _ _ _ _ _ h => by simp [stripB] at h, fun _ _ _ _ _ h => by simp [stripO] at h, fun _ _ _ _ _ h => by simp [stripL] at h, fun _ _ _ _ _ h => by simp [stripL] at h,
      fun _ _ _ _ _ _ _ _ h => by simp [stripC] at h, fun _ _ _ _ _ _ h => by simp [stripR] at h⟩
  | succ n S =>
    have he : ∀ (Y : L2.Cx) (sc : Scope), GX V Y N sc → ∀ e x, stripE V.g N (n + 1) sc e = some x → PE Y e (LE V x) := by
      intro Y sc G e x h
      cases e
      case Constant c k pos =>
        simp only [stripE] at h
        cases c <;> simp only at h
        case int i => cases h; exact s_int
        case str s => cases h; exact s_str
        case bool b => cases h; exact s_bl
        case none => cases h; exact s_non
        all_goals cases h
      case Name y pos =>
        simp only [stripE] at h
        exact name_ok G h
      case BinOp a op b pos =>
        simp only [stripE] at h
        split at h
        · rename_i o x y h1 h2 h3
          cases h
          exact s_bin G h1 (S.e Y sc G _ _ h2) (S.e Y sc G _ _ h3)
        · cases h
      case UnaryOp op a pos =>
        simp only [stripE] at h
        split at h
        · rename_i x h1
          cases h
          exact s_not G (S.e Y sc G _ _ h1)
        · rename_i x h1
          cases h
          exact s_neg (S.e Y sc G _ _ h1)
        · cases h
      case BoolOp op es pos =>
        simp only [stripE] at h
        exact (S.b Y sc G _ _ _ pos h).1
      case IfExp c a b pos =>
        simp only [stripE] at h
        split at h
        · rename_i z x y h1 h2 h3
          cases h
          exact s_ite (S.t Y sc G _ _ h1) (S.e Y sc G _ _ h2) (S.e Y sc G _ _ h3)
        · cases h
      case Compare a ops bs pos =>
        simp only [stripE] at h
        split at h
        · split at h
          · rename_i op b _ o x y h1 h2 h3
            cases h
            exact s_cmp G h1 (S.e Y sc G _ _ h2) (S.e Y sc G _ _ h3) (mark_ns (setE h3))
          · cases h
        · split at h
          · rename_i op op2 b c _ o p x y z h1 h2 h3 h4 h5
            cases h
            exact s_chain G h1 h2 (S.e Y sc G _ _ h3) (S.e Y sc G _ _ h4) (S.e Y sc G _ _ h5) (mark_ns (setE h5))
          · cases h
        · cases h
      case Tuple es k pos =>
        simp only [stripE] at h
        split at h
        · rename_i hl
          obtain ⟨xs, hm, rfl⟩ := map_some h
          exact s_tup (by rw [mapO_len hm]; exact hl) (args_of S G hm)
        · cases h
      case List es pos =>
        simp only [stripE] at h
        split at h
        · rename_i hl
          obtain ⟨xs, hm, rfl⟩ := map_some h
          exact s_new (s_l_lst (by rw [mapO_len hm]; exact hl) (args_of S G hm))
        · cases h
      case ListComp elt gens scope pos =>
        simp only [stripE] at h
        obtain ⟨l, hm, rfl⟩ := map_some h
        exact s_new (S.c Y sc G _ _ _ pos _ hm).1
      case Subscript a i pos =>
        simp only [stripE] at h
        exact subE_ok S G h
      case Call f es kw pos =>
        simp only [stripE] at h
        split at h
        · split at h
          · exact callN_ok S G h
          · exact callM_ok S G h
          · cases h
        · cases h
      all_goals (simp [stripE] at h)
    have hf : ∀ (Y : L2.Cx) (sc : Scope), GX V Y N sc → ∀ e x, stripL V.g N (n + 1) sc e = some x → isComp e = true → PE Y e (LF V x) ∧ newL x = true := by
      intro Y sc G e x h hc
      cases e
      case ListComp elt gens scope pos =>
        simp only [stripL] at h
        exact S.c Y sc G _ _ _ pos _ h
      case List es pos =>
        simp only [stripL] at h
        split at h
        · rename_i hl
          obtain ⟨xs, hm, rfl⟩ := map_some h
          exact ⟨s_l_lst (by rw [mapO_len hm]; exact hl) (args_of S G hm), rfl⟩
        · cases h
      all_goals (simp [isComp] at hc)
    refine ⟨he, ?_, ?_, ?_, ?_, hf, ?_, ?_⟩
    · intro Y sc G e x h
      cases e
      case UnaryOp op a pos =>
        have h0 := h
        simp only [stripE] at h
        split at h
        · rename_i x h1
          cases h
          exact t_not (S.t Y sc G _ _ h1)
        · rename_i x h1
          cases h
          exact t_val G (he Y sc G _ _ h0) rfl (fun _ => rfl)
        · cases h
      case BoolOp op es pos =>
        simp only [stripE] at h
        exact (S.b Y sc G _ _ _ pos h).2.pt
      case IfExp c a b pos =>
        simp only [stripE] at h
        split at h
        · rename_i z x y h1 h2 h3
          cases h
          exact t_ite (S.t Y sc G _ _ h1) (S.t Y sc G _ _ h2) (S.t Y sc G _ _ h3)
        · cases h
      case Compare a ops bs pos =>
        simp only [stripE] at h
        split at h
        · split at h
          · rename_i op b _ o x y h1 h2 h3
            cases h
            exact t_cmp G h1 (S.e Y sc G _ _ h2) (S.e Y sc G _ _ h3) (mark_ns (setE h3))
          · cases h
        · split at h
          · rename_i op op2 b c _ o p x y z h1 h2 h3 h4 h5
            cases h
            exact t_chain G h1 h2 (S.e Y sc G _ _ h3) (S.e Y sc G _ _ h4) (S.e Y sc G _ _ h5) (mark_ns (setE h5))
          · cases h
        · cases h
      case Constant c k pos =>
        refine t_val G (he Y sc G _ _ h) ?_ (fun _ => rfl)
        simp only [stripE] at h
        cases c <;> simp only at h <;> cases h <;> rfl
      case Name y pos =>
        refine t_val G (he Y sc G _ _ h) ?_ (fun _ => rfl)
        simp only [stripE] at h
        exact nameE_pl h
      case BinOp a op b pos =>
        refine t_val G (he Y sc G _ _ h) ?_ (fun _ => rfl)
        simp only [stripE] at h
        split at h
        · cases h; rfl
        · cases h
      case Tuple es k pos =>
        refine t_val G (he Y sc G _ _ h) ?_ (fun _ => rfl)
        simp only [stripE] at h
        split at h
        · obtain ⟨xs, hm, rfl⟩ := map_some h; rfl
        · cases h
      case List es pos =>
        refine t_val G (he Y sc G _ _ h) ?_ (fun _ => rfl)
        simp only [stripE] at h
        split at h
        · obtain ⟨xs, hm, rfl⟩ := map_some h; rfl
        · cases h
      case ListComp elt gens scope pos =>
        refine t_val G (he Y sc G _ _ h) ?_ (fun _ => rfl)
        simp only [stripE] at h
        obtain ⟨xs, hm, rfl⟩ := map_some h; rfl
      case Subscript a i pos =>
        refine t_val G (he Y sc G _ _ h) ?_ (fun _ => rfl)
        simp only [stripE] at h
        exact subE_pl h
      case Call f es kw pos =>
        refine t_val G (he Y sc G _ _ h) ?_ (fun _ => rfl)
        simp only [stripE] at h
        split at h
        · split at h
          · exact callN_pl h
          · exact callM_pl h
          · cases h
        · cases h
      all_goals (simp [stripE] at h)
    · intro Y sc G op es x pos h
      cases es with
      | nil => simp [stripB] at h
      | cons e es =>
        cases es with
        | nil =>
          simp only [stripB] at h
          refine ⟨L2.pe_one (S.e Y sc G _ _ h), ?_⟩
          cases op
          · exact L2.pw_and1 (S.t Y sc G _ _ h)
          · exact L2.pw_or1 (S.t Y sc G _ _ h)
        | cons e2 es =>
          simp only [stripB] at h
          split at h
          · rename_i x y h1 h2
            obtain ⟨p1, p2⟩ := S.b Y sc G _ _ _ pos h2
            cases op <;> cases h
            · exact ⟨s_and G (S.e Y sc G _ _ h1) p1, w_and (S.t Y sc G _ _ h1) p2⟩
            · exact ⟨s_or G (S.e Y sc G _ _ h1) p1, w_or (S.t Y sc G _ _ h1) p2⟩
          · cases h
    · intro Y sc G o x h
      cases o with
      | none => simp only [stripO] at h; cases h; exact s_o0
      | some e =>
        simp only [stripO] at h
        obtain ⟨y, hy, rfl⟩ := map_some h
        exact s_o1 (S.e Y sc G _ _ hy)
    · intro Y sc G e x h
      by_cases hc : isComp e = true
      · obtain ⟨p1, p2⟩ := hf Y sc G e x h hc
        exact s_l_new p2 p1
      · cases e
        case ListComp => simp [isComp] at hc
        case List => simp [isComp] at hc
        all_goals (simp only [stripL] at h; obtain ⟨y, hy, rfl⟩ := map_some h; exact s_l_ex G (S.e Y sc G _ _ hy))
    · intro Y sc G elt gens scope pos x h
      simp only [stripC] at h
      split at h
      · rename_i tg iter ifs a
        split at h
        · rename_i hb
          obtain ⟨rfl, hb⟩ := hb
          split at h
          · rename_i src t cs y h1 h2 h3 h4
            split at h
            · rename_i hc
              cases h
              simp only [Bool.and_eq_true, decide_eq_true_eq, List.all_eq_true, List.contains_iff_mem] at hc
              obtain ⟨p1, p2⟩ := S.r Y sc G tg iter src h1
              refine ⟨s_comp G (L2.blkOk_by hb) hc.2 p1 (fun X' G' gt => (g_all G' gt n).1 tg t h2) (fun X' G' => ?_) (fun X' G' => S.e X' _ G' _ _ h4) p2, rfl⟩
              cases ifs with
              | nil => rw [mapO_nil h3]; exact i_nil
              | cons c cs' =>
                obtain ⟨y1, ys, rfl, k1, k2⟩ := mapO_cons h3
                have hl := hc.1
                rw [List.length_cons] at hl
                have : ys = [] := List.eq_nil_of_length_eq_zero (by omega)
                subst this
                have hl2 := mapO_len k2
                have : cs' = [] := List.eq_nil_of_length_eq_zero hl2.symm
                subst this
                exact i_one (S.t X' _ G' _ _ k1)
            · cases h
          · cases h
        · cases h
      · cases h
    · intro Y sc G tg e x h
      simp only [stripR] at h
      exact srcR_ok S G h
end Mo

set_option Elab.async false
set_option linter.all false
set_option maxRecDepth 100000
set_option autoImplicit false
namespace Mo
open PySem PyProof.Rows
open L2 (Inv EP TP AP SP RelV Vals OpR UnR CallR VK R2 PE PT PW PA PO PS PSs Gl Vis Loc It Turn TI PI PG PGs TG TGs PTs Ends)

def swB (sc scope : Scope) (y : Str) (py pos : Pos) : Bool :=
  (sc.names.lookup y == some .local) && py.line == pos.line && !(scope.names.any fun (n, k) => n == y && (k == .local || k == .cell))
theorem sw_eq {elt : Expr} {gs : List Comprehension} {scope : Scope} {pos py : Pos} {y : Str} {l : Nat} {env : PySem.Env} (hk : env.scope.kind = .function) : swapsWith (.ListComp elt gs scope pos) (some (.Name y py)) l env = pure (swB env.scope scope y py pos) := by
  have hb : env.blockKind = .function := by unfold Env.blockKind; rw [hk]; rfl
  unfold swapsWith swB
  simp only [hb, Expr.pos, Env.kindOf]
  rfl
theorem sw_no {e : Expr} {t : Option Expr} {l : Nat} {env : PySem.Env} (h : ∀ a b c d, e ≠ .ListComp a b c d) (h2 : ∀ a b c d, e ≠ .SetComp a b c d) (h3 : ∀ a b c d x, e ≠ .DictComp a b c d x) : swapsWith e t l env = pure false := by
  cases e <;> first | rfl | exact absurd rfl (h _ _ _ _) | exact absurd rfl (h2 _ _ _ _) | exact absurd rfl (h3 _ _ _ _ _)
theorem compE {g : SE} {N : List Str} {n : Nat} {sc : Scope} {e : Expr} {x : X} (h : stripE g N n sc e = some x) : (∀ a b c d, e ≠ .SetComp a b c d) ∧ ∀ a b c d x, e ≠ .DictComp a b c d x := by
  constructor
  · intro a b c d z; subst z; cases n <;> simp [stripE] at h
  · intro a b c d x z; subst z; cases n <;> simp [stripE] at h
theorem ip_add (D : Wd) {Y : L2.Cx} : L2.PIp Y .Add (rAug D .add) := by
  intro pins s σ H x y v u Q I rx ry h
  obtain ⟨t, t', B, F, st, R, q1, q2, sm, w, k⟩ := h
  unfold augSem at w
  split at w <;> rename_i h1 <;> try (cases h1)
  · cases q1; cases q2
    exact L2.ip_add pins s σ H _ _ v u Q I rx ry ⟨_, _, rfl, rfl, k _ w _ rfl⟩
  · exact w.elim
theorem ip_sub (D : Wd) {Y : L2.Cx} : L2.PIp Y .Sub (rAug D .sub) := by
  intro pins s σ H x y v u Q I rx ry h
  obtain ⟨t, t', B, F, st, R, q1, q2, sm, w, k⟩ := h
  unfold augSem at w
  split at w <;> rename_i h1 <;> try (cases h1)
  · cases q1; cases q2
    exact L2.ip_sub pins s σ H _ _ v u Q I rx ry ⟨_, _, rfl, rfl, k _ w _ rfl⟩
  · exact w.elim
theorem ip_mul (D : Wd) {Y : L2.Cx} : L2.PIp Y .Mult (rAug D .mul) := by
  intro pins s σ H x y v u Q I rx ry h
  obtain ⟨t, t', B, F, st, R, q1, q2, sm, w, k⟩ := h
  unfold augSem at w
  split at w <;> rename_i h1 <;> try (cases h1)
  · cases q1; cases q2
    exact L2.iop_mul pins s σ H _ _ v u Q I rx ry ⟨_, _, rfl, rfl, w.1, k _ w.2 _ rfl⟩
  · exact w.elim
theorem ip_all (D : Wd) {Y : L2.Cx} {op : Operator} {o : Op} (h : opO op = some o) (h2 : (o = .add ∨ o = .sub) ∨ o = .mul) : L2.PIp Y op (rAug D o) := by
  rw [opO_eq h]
  rcases h2 with (rfl | rfl) | rfl
  · exact ip_add D
  · exact ip_sub D
  · exact ip_mul D
/-! o[i] = v -/
def rSub (D : Wd) : L2.TSet := fun o i v H Q => ∃ to ti tv st B F R, RepV D F to o ∧ RepV D F ti i ∧ RepV D F tv v ∧ Sim D B H F st ∧ subSem to ti tv st R ∧ ∀ st', R st' → ∀ H', Sim D B H' F st' → Q H'
theorem set_sub (D : Wd) {Y : L2.Cx} (hu : Y.A.units + 1 < cLine) : L2.PSet Y (rSub D) := by
  intro pins s σ H o i v ov iv u Q I ro ri rv h
  obtain ⟨to, ti, tv, st, B, F, R, q1, q2, q3, sm, w, k⟩ := h
  cases to <;> simp only [subSem] at w
  rename_i a
  cases q1
  rcases w with ⟨ts, j, rfl, e, hj, w⟩ | ⟨b, kvs, e, ok, hl, w⟩
  · cases q2
    obtain ⟨xs, hH, ra⟩ := sm.lst e
    refine L2.set_list pins s σ H _ _ v ov iv u Q I ro ri rv ⟨a, xs, _, j, rfl, rfl, hH, ?_, ?_⟩
    · unfold L2.ixN
      rw [← ra.length, if_pos (by exact Int.natCast_nonneg j), if_pos (by exact Int.ofNat_lt.mpr hj)]
      rfl
    · exact k _ w _ (sm.setL e (RepVs.set j ra q3))
  · obtain ⟨H', g, s'⟩ := dput_of sm e ok hl q2 q3
    exact L2.set_dict hu pins s σ H _ _ v ov iv u Q I ro ri rv ⟨_, H', rfl, g, k _ w _ s'⟩
section
variable {V : Lv} {Y : L2.Cx} {N : List Str} {sc : Scope} (G : GX V Y N sc) {a b c e : Expr} {x y z : X} {pos : Pos} {s : Stmt}
theorem st_sub (hp : PS Y s (L2.tAsg (LE V z) (L2.gSub (LE V x) (LE V y) (rSub V.D)))) : PS Y s (LS V (.sub x y z)) := PS.imp hp fun E σ H h => by
  obtain ⟨env, st, B, F, P, er, sm, hb, w, en⟩ := h
  simp only [wpS, en.1] at w
  simp only [cS] at hb en
  refine lE er sm (by omega) w fun t st1 v H1 F1 r1 f1 sm1 q1 e1 => ?_
  refine lE e1 sm1 (by omega) r1 fun t2 st2 v2 H2 F2 r2 f2 sm2 q2 e2 => ?_
  refine lE e2 sm2 (by omega) r2 fun t3 st3 v3 H3 F3 r3 f3 sm3 q3 e3 => ?_
  exact ⟨t2, t3, t, st3, _, F3, _, q2.mono f3, q3, q1.mono (f2.trans f3), sm3, r3, fun st' w' H' s' => (en.mono (f1.trans (f2.trans f3)) (by omega)).nx w' s' e3⟩
end
theorem par_sw {x y : Str} {px py pt : Pos} {a b : Expr} {kt k2} {pt2 : Pos} {env : PySem.Env} (hk : env.scope.kind = .function) (hx : env.scope.names.lookup x = some .local) (hy : env.scope.names.lookup y = some .local) (hne : x ≠ y)
    (hsa : ∀ v p, a ≠ .Starred v p) (hsb : ∀ v p, b ≠ .Starred v p) (hf : ([a, b].all (foldedForSure 8)) = false) (hc : ([a, b].all (constantsAlone 8)) = false) (hl : (py.line == px.line) = true) :
    swappedStores [.Tuple [.Name x px, .Name y py] kt pt] (.Tuple [a, b] k2 pt2) env = pure (some [x, y]) := by
  have hb : env.blockKind = .function := by unfold Env.blockKind; rw [hk]; rfl
  have kx : env.kindOf x = some .local := hx
  have ky : env.kindOf y = some .local := hy
  have hs : ([a, b].any fun | .Starred .. => true | _ => false) = false := by
    have h1 : (match a with | .Starred .. => true | _ => false) = false := by cases a <;> first | rfl | exact absurd rfl (hsa _ _)
    have h2 : (match b with | .Starred .. => true | _ => false) = false := by cases b <;> first | rfl | exact absurd rfl (hsb _ _)
    simp only [List.any_cons, List.any_nil, h1, h2, Bool.or_false]
  have hd : ([x, y] : List Str).eraseDups.length = 2 := by
    have : (y == x) = false := beq_eq_false_iff_ne.mpr (Ne.symm hne)
    simp [List.eraseDups_cons, this]
  have hl' : py.line = px.line := eq_of_beq hl
  unfold swappedStores
  simp only [hb, hf, hc, hs, kx, ky, hd, Expr.pos, List.head?_cons, Option.map_some, Option.getD_some, List.filterMap_cons, List.filterMap_nil, hl', List.length_cons, List.length_nil, beq_self_eq_true, Bool.and_self, if_true, pure_bind, hx, hy]
  simp [hs, hd, hf, hc]
end Mo

set_option Elab.async false
set_option linter.all false
set_option maxRecDepth 100000
set_option autoImplicit false
namespace Mo
open PySem PyProof.Rows
open L2 (Inv EP TP AP SP RelV Vals OpR UnR CallR VK R2 PE PT PW PA PO PS PSs Gl Vis Loc It Turn TI PI PG PGs TG TGs PTs Ends)
theorem s_dnew {V : Lv} {Y : L2.Cx} {b : Bool} {pos : Pos} : PE Y (.Dict [] [] pos) (LE V (.dnew b)) := by
  cases b with
  | false =>
    refine PE.imp L2.pe_dnewK fun σ H Q h => ?_
    obtain ⟨env, st, B, F, R, er, sm, hb, w, en⟩ := h
    simp only [wpE] at w
    simp only [cE] at hb en
    exact fun p hp => en _ _ (w p (sm.stNone hp)) _ _ F (L2.Same.refl F) (sm.newD hp ⟨[], rfl, rfl⟩) rfl
  | true =>
    refine PE.imp L2.pe_dnewT fun σ H Q h => ?_
    obtain ⟨env, st, B, F, R, er, sm, hb, w, en⟩ := h
    simp only [wpE] at w
    simp only [cE] at hb en
    exact fun p hp => en _ _ (w p (sm.stNone hp)) _ _ F (L2.Same.refl F) (sm.newD hp ⟨[], rfl, rfl⟩) rfl
theorem parO2 {N : List Str} {sc : Scope} {x y : Str} {px py : Pos} {i j : Nat} (h : parO N sc [.Name x px, .Name y py] = some [i, j]) : sc.names.lookup x = some .local ∧ sc.names.lookup y = some .local ∧ slot N x = some i ∧ slot N y = some j := by
  simp only [parO] at h
  split at h
  · rename_i i' js h1 h2 h3
    split at h3
    · rename_i j' ks h4 h5 h6
      cases h6
      cases h3
      cases h
      exact ⟨h1, h4, h2, h5⟩
    · cases h3
  · cases h
section
variable {V : Lv} {N : List Str} {Y : L2.Cx} {sc : Scope} (G : GX V Y N sc) (gt : GT Y sc) (hp : PassesOwn (model Y.prog Y.w) Y.A Y.env Y.xe)
include G gt
theorem kdY : Y.env.scope.kind = .function := by rw [G.sce]; exact G.kd
theorem asg_ok {n : Nat} {t e : Expr} {m : Sm} {pos : Pos} (h : asgO V.g.dk N sc n (stripE V.g N n sc) t e = some m) : PS Y (.Assign [t] e pos) (LS V m) := by
  have S := snd_all V N n
  have nd : Y.N.Nodup := by rw [G.nn]; exact G.nd
  cases t
  case Name y py =>
    simp only [asgO] at h
    split at h
    · rename_i hy
      obtain ⟨g1, g2⟩ := gt y hy
      by_cases hd0 : isD0 e = true
      · rw [if_pos hd0] at h
        obtain ⟨i, hs, rfl⟩ := map_some h
        obtain ⟨dp, rfl⟩ : ∃ dp, e = .Dict [] [] dp := by
          unfold isD0 at hd0
          split at hd0
          · exact ⟨_, rfl⟩
          · cases hd0
        have hN : Y.N[i]? = some y := by rw [G.nn]; exact slotOf hs
        exact st_name (L2.ps_set nd hN g1 (s_dnew (b := !V.g.dk.contains y)) rfl g2) fun σ H Q h => h
      rw [if_neg hd0] at h
      split at h
      · rename_i i x hs hx
        cases h
        have hN : Y.N[i]? = some y := by rw [G.nn]; exact slotOf hs
        have he := S.e Y sc G e x hx
        have plain : swapsWith e (some (.Name y py)) pos.line Y.env = pure false → PS Y (.Assign [.Name y py] e pos) (LS V (.set (.name i) x)) := fun hsw =>
          st_name (L2.ps_set nd hN g1 he hsw g2) fun σ H Q h => h
        by_cases hc : ∃ a b c d, e = .ListComp a b c d
        · obtain ⟨elt, gs, scope, cp, rfl⟩ := hc
          have hsw := sw_eq (elt := elt) (gs := gs) (scope := scope) (pos := cp) (py := py) (y := y) (l := pos.line) (kdY G gt)
          cases hb : swB Y.env.scope scope y py cp with
          | false => rw [hb] at hsw; exact plain hsw
          | true =>
            rw [hb] at hsw
            have hloc : Y.env.scope.names.lookup y = some .local := by
              unfold swB at hb
              simp only [Bool.and_eq_true, beq_iff_eq] at hb
              exact hb.1.1
            cases n with
            | zero => simp [stripE] at hx
            | succ n =>
              simp only [stripE] at hx
              obtain ⟨l, hl, rfl⟩ := map_some hx
              have S := snd_all V N n
              cases n with
              | zero => simp [stripC] at hl
              | succ n =>
                have S := snd_all V N n
                simp only [stripC] at hl
                split at hl
                · rename_i tg iter ifs a
                  split at hl
                  · rename_i hbk
                    obtain ⟨rfl, hbk⟩ := hbk
                    split at hl
                    · rename_i src t cs x1 h1 h2 h3 h4
                      split at hl
                      · rename_i hcc
                        cases hl
                        simp only [Bool.and_eq_true, decide_eq_true_eq, List.all_eq_true, List.contains_iff_mem] at hcc
                        obtain ⟨p1, p2⟩ := S.r Y sc G tg iter src h1
                        have ok := L2.blkOk_by hbk
                        have ok' : L2.BlkOk Y.N Y.env.scope scope (ownO N scope) := by rw [G.nn, G.sce]; exact ok
                        have ht : ∀ X', GX V X' N (L2.relS scope sc) → PTs X' ifs (LI V cs) := fun X' G' => by
                          cases ifs with
                          | nil => rw [mapO_nil h3]; exact i_nil
                          | cons c cs' =>
                            obtain ⟨y1, ys, rfl, k1, k2⟩ := mapO_cons h3
                            have hl := hcc.1
                            rw [List.length_cons] at hl
                            have : ys = [] := List.eq_nil_of_length_eq_zero (by omega)
                            subst this
                            have hl2 := mapO_len k2
                            have : cs' = [] := List.eq_nil_of_length_eq_zero hl2.symm
                            subst this
                            exact i_one (S.t X' _ G' _ _ k1)
                        refine st_name (L2.ps_setLc G.calm nd hN hloc hsw p1 ok' (fun s H C cl fp => (g_all (G.blk ok.kind s H C cl fp) (GT.blk s H C cl fp) n).1 tg t h2) (fun s H C cl fp => ht _ (G.blk ok.kind s H C cl fp)) (fun s H C cl fp => S.e _ _ (G.blk ok.kind s H C cl fp) _ _ h4) p2) fun σ H Q h => lc_of hcc.2 ?_
                        obtain ⟨env, st, B, F, R, er, sm, hb, w, en⟩ := h
                        simp only [wpE] at w
                        simp only [cE] at hb en
                        exact lN er sm hb w fun ts st1 p xs H1 F1 r f n s q rp l _ => en (.ref p) _ (r p (s.stF q)) (.ref p) H1 (cut F1 p) (same_cut f n) (s.free q rp) rfl
                      · cases hl
                    · cases hl
                  · cases hl
                · cases hl
        · exact plain (sw_no (fun a b c d z => hc ⟨a, b, c, d, z⟩) (compE hx).1 (compE hx).2)
      · cases h
    · cases h
  case Tuple ts k tp =>
    have plain : (∀ a b c, e ≠ .Tuple a b c) → (match stripT N sc n (.Tuple ts k tp), stripE V.g N n sc e with | some t, some x => some (Sm.set t x) | _, _ => none) = some m → PS Y (.Assign [.Tuple ts k tp] e pos) (LS V m) := by
      intro hnt h
      split at h
      · rename_i t x ht hx
        cases h
        refine st_set (tgt := .Tuple ts k tp) (L2.ps_asg (S.e Y sc G e x hx) ((g_all G gt n).1 _ _ ht) ?_ ?_)
        · show swapsWith e (some (.Tuple ts k tp)) pos.line Y.env = pure false
          cases e <;> rfl
        · cases e <;> first | rfl | exact absurd rfl (hnt _ _ _)
      · cases h
    cases e
    case Tuple es k2 ep =>
      simp only [asgO] at h
      split at h
      · rename_i x px y py a b
        split at h
        · rename_i i j xs h1 h2
          split at h
          · rename_i hc
            cases h
            simp only [Bool.and_eq_true, decide_eq_true_eq, Bool.not_eq_true'] at hc
            obtain ⟨⟨⟨hij, hf⟩, hcon⟩, hl⟩ := hc
            obtain ⟨k1, k2, k3, k4⟩ := parO2 h1
            obtain ⟨u, us, rfl, m1, m2⟩ := mapO_cons h2
            obtain ⟨u2, us2, rfl, m3, m4⟩ := mapO_cons m2
            have hxy : x ≠ y := fun z => by subst z; rw [k3] at k4; cases k4; exact hij rfl
            exact st_par (L2.ps_par G.calm nd (by rw [G.nn]; exact slotOf k3) (by rw [G.nn]; exact slotOf k4) hij (by rw [G.sce]; exact k1) (by rw [G.sce]; exact k2) (args_of S G h2)
              (par_sw (kdY G gt) (by rw [G.sce]; exact k1) (by rw [G.sce]; exact k2) hxy (starE m1) (starE m3) hf hcon hl))
          · cases h
        · cases h
      · cases h
    all_goals (simp only [asgO] at h; exact plain (by intros; simp) h)
  case Subscript o i sp =>
    simp only [asgO] at h
    split at h
    · rename_i x y z hx hy hz
      cases h
      refine st_sub (L2.ps_asg (S.e Y sc G _ _ hz) (L2.pg_sub (S.e Y sc G _ _ hx) (S.e Y sc G _ _ hy) (set_sub V.D (by have := G.room.un; omega)) ?_) ?_ ?_)
      · intro v
        cases i <;> first | rfl | exact absurd rfl (sliceE hy _ _ _ _)
      · show swapsWith e (some (.Subscript o i sp)) pos.line Y.env = pure false
        cases e <;> rfl
      · cases e <;> rfl
    · cases h
  all_goals (simp [asgO] at h)
include hp
theorem ss_all : ∀ n : Nat, (∀ s m, stripS V.g N sc n s = some m → PS Y s (LS V m)) ∧ ∀ ss ms, stripSs V.g N sc n ss = some ms → PSs Y ss (LSs V ms) := by
  intro n
  induction n with
  | zero => exact ⟨fun _ _ h => by simp [stripS] at h, fun _ _ h => by simp [stripSs] at h⟩
  | succ n ih =>
    have S := snd_all V N n
    have nd : Y.N.Nodup := by rw [G.nn]; exact G.nd
    refine ⟨fun s m h => ?_, fun ss ms h => ?_⟩
    · cases s
      case Return e pos =>
        simp only [stripS] at h
        cases e with
        | none => simp only at h; cases h; exact st_ret0
        | some e =>
          simp only at h
          obtain ⟨x, hx, rfl⟩ := map_some h
          exact st_ret (S.e Y sc G _ _ hx)
      case Assign ts e pos =>
        simp only [stripS] at h
        split at h
        · exact asg_ok G gt h
        · cases h
      case AugAssign t op e pos =>
        simp only [stripS] at h
        split at h
        · split at h
          · rename_i y py hy
            obtain ⟨g1, g2⟩ := gt y hy
            split at h
            · rename_i i o x hs ho hx
              split at h
              · rename_i hoo
                cases h
                exact st_aug (L2.ps_aug nd (by rw [G.nn]; exact slotOf hs) g1 (S.e Y sc G _ _ hx) (ip_all V.D ho hoo) g2)
              · cases h
            · cases h
          · cases h
        · cases h
      case Expr e pos =>
        simp only [stripS] at h
        split at h
        · cases h
        · rename_i hc
          obtain ⟨x, hx, rfl⟩ := map_some h
          exact st_ex (S.e Y sc G _ _ hx) (L2.ps_expr (S.e Y sc G _ _ hx) (sw_no (fun a b c d z => hc (by rw [z]; rfl)) (compE hx).1 (compE hx).2))
      case If c a b pos =>
        simp only [stripS] at h
        split at h
        · rename_i x y z hx hy hz
          cases h
          exact st_if (S.t Y sc G _ _ hx) (ih.2 _ _ hy) (ih.2 _ _ hz)
        · cases h
      case For t i b els pos =>
        simp only [stripS] at h
        split at h
        · split at h
          · rename_i x y z hx hy hz
            cases h
            obtain ⟨p1, p2⟩ := S.r Y sc G _ _ _ hy
            exact st_for (L2.ps_for hp G.calm p1 ((g_all G gt n).1 _ _ hx) (ih.2 _ _ hz) p2)
          · cases h
        · cases h
      case While c b els pos =>
        simp only [stripS] at h
        split at h
        · split at h
          · rename_i x y hx hy
            cases h
            exact st_whl (L2.ps_while hp (S.t Y sc G _ _ hx) (ih.2 _ _ hy))
          · cases h
        · cases h
      case Pass pos =>
        simp only [stripS] at h
        cases h
        exact st_pass L2.ps_pass
      all_goals (simp [stripS] at h)
    · simp only [stripSs] at h
      split at h
      · cases h; exact ss_nil
      · split at h
        · rename_i s ss x xs h1 h2
          cases h
          exact ss_cons (ih.1 _ _ h1) (ih.2 _ _ h2)
        · cases h
end
end Mo

set_option Elab.async false
set_option linter.all false
set_option maxRecDepth 100000
set_option autoImplicit false
namespace Mo
section
variable {C : Cxt} {env : Env} {st : St} {E : EK} {Q : TK} {a b c : X} {es : List X} {i : Nat} {v : T}
theorem e_var (h : env.getD i none = some v) (q : Q v st) : wpE C (.var i) env st E Q := by simp only [wpE, h]; exact q
theorem e_int {j : Int} (q : Q (.int j) st) : wpE C (.int j) env st E Q := by simp only [wpE]; exact q
theorem e_str {j : Sg} (q : Q (.str j) st) : wpE C (.str j) env st E Q := by simp only [wpE]; exact q
theorem e_bl {j : Bool} (q : Q (.bl j) st) : wpE C (.bl j) env st E Q := by simp only [wpE]; exact q
theorem e_non (q : Q .non st) : wpE C .non env st E Q := by simp only [wpE]; exact q
theorem e_glob (h : C.glob i = some v) (q : Q v st) : wpE C (.glob i) env st E Q := by simp only [wpE, h]; exact q
theorem e_fnv (q : Q (.fn i) st) : wpE C (.fnv i) env st E Q := by simp only [wpE]; exact q
theorem e_bin {o : Op} (h : wpE C a env st E fun x s1 => wpE C b env s1 E fun y s2 => binSem o x y s2 Q) : wpE C (.bin o a b) env st E Q := by simp only [wpE]; exact h
theorem e_neg (h : wpE C a env st E fun x s1 => match x with | .int i => Q (.int (-i)) s1 | _ => False) : wpE C (.neg a) env st E Q := by simp only [wpE]; exact h
theorem e_not (h : wpE C a env st E fun x s1 => truSem x s1 fun b => Q (.bl (!b)) s1) : wpE C (.not a) env st E Q := by simp only [wpE]; exact h
theorem e_and (h : wpE C a env st E fun x s1 => truSem x s1 fun t => if t = true then wpE C b env s1 E Q else Q x s1) : wpE C (.and a b) env st E Q := by simp only [wpE]; exact h
theorem e_or (h : wpE C a env st E fun x s1 => truSem x s1 fun t => if t = true then Q x s1 else wpE C b env s1 E Q) : wpE C (.or a b) env st E Q := by simp only [wpE]; exact h
theorem e_ite (h : wpT C c env st E fun t s1 => if t = true then wpE C a env s1 E Q else wpE C b env s1 E Q) : wpE C (.ite c a b) env st E Q := by simp only [wpE]; exact h
theorem e_cmp {o : Co} (h : wpE C a env st E fun x s1 => wpE C b env s1 E fun y s2 => cmpSem o x y s2 fun t => Q (.bl t) s2) : wpE C (.cmp o a b) env st E Q := by simp only [wpE]; exact h
theorem e_chain {o p : Co} (h : wpE C a env st E fun x s1 => wpE C b env s1 E fun y s2 => cmpSem o x y s2 fun t => if t = true then wpE C c env s2 E fun z s3 => cmpSem p y z s3 fun u => Q (.bl u) s3 else Q (.bl false) s2) : wpE C (.chain o p a b c) env st E Q := by simp only [wpE]; exact h
theorem e_tup (h : wpEs C es env st E fun vs s1 => Q (.tup vs) s1) : wpE C (.tup es) env st E Q := by simp only [wpE]; exact h
theorem e_new {l : L} (h : wpL C l env st E fun ts _ s1 => ∀ p, s1 p = none → Q (.ref p) (upd s1 p (.lst ts))) : wpE C (.new l) env st E Q := by simp only [wpE]; exact h
theorem e_idx (h : wpE C a env st E fun x s1 => wpE C b env s1 E fun y s2 => idxSem x y s2 Q) : wpE C (.idx a b) env st E Q := by simp only [wpE]; exact h
theorem e_slc {lo hi : Option X} (h : wpE C a env st E fun x s1 => wpO C lo env s1 E fun l s2 => wpO C hi env s2 E fun h s3 => slcSem x l h s3 Q) : wpE C (.slc a lo hi) env st E Q := by simp only [wpE]; exact h
theorem e_rev (h : wpE C a env st E fun x s1 => revSem x s1 Q) : wpE C (.rev a) env st E Q := by simp only [wpE]; exact h
theorem e_call {f : Nat} (h : wpEs C es env st E fun vs s1 => C.call f vs s1 E Q) : wpE C (.call f es) env st E Q := by simp only [wpE]; exact h
theorem e_bi {f : Bi} (h : wpEs C es env st E fun vs s1 => biSem C.rp f vs s1 Q) : wpE C (.bi f es) env st E Q := by simp only [wpE]; exact h
theorem e_isi {ty : Ty} (h : wpE C a env st E fun x s1 => isiSem x ty s1 fun b => Q (.bl b) s1) : wpE C (.isi a ty) env st E Q := by simp only [wpE]; exact h
theorem e_li {f : Li} {l : L} (h : wpL C l env st E fun ts _ s1 => liSem f ts s1 Q) : wpE C (.li f l) env st E Q := by simp only [wpE]; exact h
theorem e_join {l : L} (h : wpE C a env st E fun x s1 => (∃ y, x = .str y) ∧ wpL C l env s1 E fun ts _ s2 => match x with | .str sep => ∃ ss : List Sg, ts = ss.map .str ∧ (ss.map (·.length)).sum + ss.length * sep.length ≤ SZ ∧ Q (.str (List.intercalate sep ss)) s2 | _ => False) : wpE C (.join a l) env st E Q := by simp only [wpE]; exact h
theorem e_me {m : Me} (h : wpE C a env st E fun x s1 => meOk m x s1 ∧ wpEs C es env s1 E fun vs s2 => meSem m x vs s2 Q) : wpE C (.me m a es) env st E Q := by simp only [wpE]; exact h
theorem es_nil {Q : List T → St → Prop} (h : Q [] st) : wpEs C [] env st E Q := by simp only [wpEs]; exact h
theorem es_cons {Q : List T → St → Prop} (h : wpE C a env st E fun v s1 => wpEs C es env s1 E fun vs s2 => Q (v :: vs) s2) : wpEs C (a :: es) env st E Q := by simp only [wpEs]; exact h
theorem o_none {Q : Option Int → St → Prop} (h : Q none st) : wpO C none env st E Q := by simp only [wpO]; exact h
theorem o_some {Q : Option Int → St → Prop} (h : wpE C a env st E fun v s1 => match v with | .int i => Q (some i) s1 | _ => False) : wpO C (some a) env st E Q := by simp only [wpO]; exact h
/-! tests -/
variable {T' : Bool → St → Prop}
theorem t_not' (h : wpT C a env st E fun t s1 => T' (!t) s1) : wpT C (.not a) env st E T' := by simp only [wpT]; exact h
theorem t_and' (h : wpT C a env st E fun t s1 => if t = true then wpT C b env s1 E T' else T' false s1) : wpT C (.and a b) env st E T' := by simp only [wpT]; exact h
theorem t_or' (h : wpT C a env st E fun t s1 => if t = true then T' true s1 else wpT C b env s1 E T') : wpT C (.or a b) env st E T' := by simp only [wpT]; exact h
theorem t_cmp' {o : Co} (h : wpE C a env st E fun x s1 => wpE C b env s1 E fun y s2 => cmpSem o x y s2 fun t => T' t s2) : wpT C (.cmp o a b) env st E T' := by simp only [wpT, wpE, truSem]; exact h
theorem t_isi' {ty : Ty} (h : wpE C a env st E fun x s1 => isiSem x ty s1 fun t => T' t s1) : wpT C (.isi a ty) env st E T' := by simp only [wpT, wpE, truSem]; exact h
theorem t_call' {f : Nat} (h : wpEs C es env st E fun vs s1 => C.call f vs s1 E fun x s1 => truSem x s1 fun t => T' t s1) : wpT C (.call f es) env st E T' := by simp only [wpT, wpE]; exact h
/-! values -/
theorem b_add {i j : Int} (h : Q (.int (i + j)) st) : binSem .add (.int i) (.int j) st Q := h
theorem b_sub {i j : Int} (h : Q (.int (i - j)) st) : binSem .sub (.int i) (.int j) st Q := h
theorem b_mul {i j : Int} (m : MulOk i j) (h : Q (.int (i * j)) st) : binSem .mul (.int i) (.int j) st Q := ⟨m, h⟩
theorem b_div {i j : Int} (m : 0 < j ∧ j < 2 ^ 1000) (h : Q (.int (i / j)) st) : binSem .fdiv (.int i) (.int j) st Q := ⟨m, h⟩
theorem b_mod {i j : Int} (m : 0 < j) (h : Q (.int (i % j)) st) : binSem .mod (.int i) (.int j) st Q := ⟨m, h⟩
theorem b_pow {i j : Int} (m : 0 ≤ j ∧ j ≤ 1000 ∧ i.natAbs < 2 ^ 64) (h : Q (.int (i ^ j.toNat)) st) : binSem .pow (.int i) (.int j) st Q := ⟨m, h⟩
theorem b_str {x y : Sg} (m : x.length + y.length ≤ SZ) (h : Q (.str (x ++ y)) st) : binSem .add (.str x) (.str y) st Q := ⟨m, h⟩
theorem b_tup {x y : List T} (m : x.length + y.length ≤ SZ) (h : Q (.tup (x ++ y)) st) : binSem .add (.tup x) (.tup y) st Q := ⟨m, h⟩
theorem i_tup {ts : List T} {j : Int} (e : atT ts j = some v) (q : Q v st) : idxSem (.tup ts) (.int j) st Q := ⟨v, e, q⟩
theorem i_lst {p : Nat} {ts : List T} {j : Int} (h : st p = some (.lst ts)) (e : atT ts j = some v) (q : Q v st) : idxSem (.ref p) (.int j) st Q := .inl ⟨ts, j, v, rfl, h, e, q⟩
theorem i_str {s : Sg} {j : Int} {c : Nat} (hz : s.length ≤ SZ) (e : atT s j = some c) (q : Q (.str [c]) st) : idxSem (.str s) (.int j) st Q := ⟨c, e, hz, q⟩
theorem n_tup {rp : T → Sg} {ts : List T} (q : Q (.int ts.length) st) : biSem rp .len [.tup ts] st Q := q
theorem n_lst {rp : T → Sg} {p : Nat} {ts : List T} (h : st p = some (.lst ts)) (q : Q (.int ts.length) st) : biSem rp .len [.ref p] st Q := ⟨ts, h, q⟩
theorem n_int {rp : T → Sg} {j : Int} (q : Q (.int j) st) : biSem rp .int [.int j] st Q := q
theorem n_intb {rp : T → Sg} {j : Bool} (q : Q (.int (if j then 1 else 0)) st) : biSem rp .int [.bl j] st Q := q
end
/-! statements -/
section
variable {C : Cxt} {env : Env} {st : St} {P : Po} {e c : X} {ss aa bb : List Sm} {s : Sm} {i : Nat}
theorem p_nil (h : P.nx env st) : wpSs C [] env st P := by simp only [wpSs]; exact h
theorem p_cons (h : wpS C s env st { P with nx := fun e2 s2 => wpSs C ss e2 s2 P }) : wpSs C (s :: ss) env st P := by simp only [wpSs]; exact h
theorem p_name (h : wpE C e env st P.ex fun v s1 => P.nx (env.set i (some v)) s1) : wpS C (.set (.name i) e) env st P := by simp only [wpS, asgT]; exact h
theorem p_set {g : Tg} (h : wpE C e env st P.ex fun v s1 => asgT g v s1 env fun e2 => P.nx e2 s1) : wpS C (.set g e) env st P := by simp only [wpS]; exact h
theorem p_ret (h : wpE C e env st P.ex P.rt) : wpS C (.ret (some e)) env st P := by simp only [wpS]; exact h
theorem p_ex (h : wpE C e env st P.ex fun _ s1 => P.nx env s1) : wpS C (.ex e) env st P := by simp only [wpS]; exact h
theorem p_if (h : wpT C c env st P.ex fun t s1 => if t = true then wpSs C aa env s1 P else wpSs C bb env s1 P) : wpS C (.cond c aa bb) env st P := by simp only [wpS]; exact h
theorem p_for {g : Tg} {r : Sr} (h : wpR C r env st P.ex fun ts chk s1 => itf chk (fun x e s k => asgT g x s e fun e2 => wpSs C aa e2 s { nx := k, rt := P.rt, ex := P.ex }) ts env s1 P.nx) : wpS C (.loop g r aa) env st P := by simp only [wpS]; exact h
theorem p_sub {o j : X} (h : wpE C e env st P.ex fun v s1 => wpE C o env s1 P.ex fun x s2 => wpE C j env s2 P.ex fun y s3 => subSem x y v s3 fun s4 => P.nx env s4) : wpS C (.sub o j e) env st P := by simp only [wpS]; exact h
theorem p_par {is : List Nat} {es : List X} (h : wpEs C es env st P.ex fun vs s1 => vs.length = is.length ∧ P.nx ((is.zip vs).foldl (fun e p => e.set p.1 (some p.2)) env) s1) : wpS C (.par is es) env st P := by simp only [wpS]; exact h
end
end Mo

set_option Elab.async false
set_option linter.all false
set_option maxRecDepth 100000
set_option autoImplicit false
namespace Mo
open PySem PyProof.Rows
/-! the two defs that tell numbers -/
def mkB : List Sm := [.set (.name 1) (.new (.comp (.bi .abs [(.var 3)]) [] (.name 3) [2, 3] (.seq (.ex (.var 0))))), .ret (some (.new (.lst [(.new (.comp (.var 3) [(.cmp .ge (.var 3) (.bin .pow (.int 10) (.int 18)))] (.name 3) [2, 3] (.seq (.ex (.var 1))))), (.bin .add (.var 1) (.new (.lst [(.bin .add (.bi .len [(.var 1)]) (.int 3))]))), (.int 0)])))]
def nextB : List Sm := [.whl (.cmp .ne (.idx (.var 0) (.int 0)) (.new (.lst []))) [.set (.name 2) (.idx (.idx (.var 0) (.int 0)) (.int 0)), .cond (.cmp .gt (.var 2) (.int 0)) [.sub (.idx (.var 0) (.int 0)) (.int 0) (.bin .fdiv (.var 2) (.var 1)), .ret (some (.bin .mod (.var 2) (.var 1)))] [], .ex (.me .pop (.idx (.var 0) (.int 0)) [(.int 0)])], .sub (.var 0) (.int 2) (.bin .add (.idx (.var 0) (.int 2)) (.int 1)), .set (.name 3) (.bin .mod (.idx (.idx (.var 0) (.int 1)) (.bin .mod (.idx (.var 0) (.int 2)) (.bi .len [(.idx (.var 0) (.int 1))]))) (.int 2147483647)), .set (.name 4) (.bin .add (.bin .add (.bin .mul (.var 3) (.bin .add (.int 48271) (.bin .mul (.int 69621) (.idx (.var 0) (.int 2))))) (.bin .mul (.bin .mul (.int 40692) (.idx (.var 0) (.int 2))) (.idx (.var 0) (.int 2)))) (.int 11)), .set (.name 4) (.bin .mod (.var 4) (.int 2147483629)), .ret (some (.bin .mod (.bin .fdiv (.bin .mod (.bin .mul (.var 4) (.var 4)) (.int 2147483587)) (.int 16)) (.var 1)))]

/-! from drawn numbers to lists and back -/
section
variable {D : Wd} {B : Nat} {H F : L2.Hp} {st st0 : St} {p a b c : Addr} {k : Int} {ns ms : List Int}
theorem Sim.toDeck (s : Sim D B H F st) (hp : st p = some (.lst [.ref b, .ref c, .int k])) (hb : st b = some (.lst (ns.map .int))) (hc : st c = some (.lst (ms.map .int))) (bc : b ≠ c) (hm : ms ≠ [] ∧ ns.length ≤ 1000) (k0 : 0 ≤ k) (kB : k ≤ B) (n0 : ∀ n ∈ ns, 0 ≤ n) (m0 : ∀ m ∈ ms, 0 ≤ m)
    (sub : Sub st0 st) (sb : st0 b = none) (sc : st0 c = none) (sd : ∀ x, st0 x ≠ some .deck) (pb : b ≠ p) (pc : c ≠ p) : Sim D B H F (upd st0 p .deck) := by
  refine ⟨s.fr, fun x o e => ?_, fun x y ex ey => ?_⟩
  · by_cases hx : x = p
    · subst hx
      rw [upd_same] at e; cases e
      obtain ⟨f1, xs, h1, r1⟩ := s.ob x _ hp
      obtain ⟨f2, ys, h2, r2⟩ := s.ob b _ hb
      obtain ⟨f3, zs, h3, r3⟩ := s.ob c _ hc
      obtain ⟨v1, w1, rfl, q1, r1⟩ := r1
      obtain ⟨v2, w2, rfl, q2, r1⟩ := r1
      obtain ⟨v3, w3, rfl, q3, r1⟩ := r1
      cases q1; cases q2; cases q3
      rw [show w3 = [] from r1] at h1
      refine ⟨f1, b, c, k, ns, ms, h1, by rw [← r2.ints]; exact h2, by rw [← r3.ints]; exact h3, hm, k0, kB, n0, m0, bc, by rw [upd_ne pb]; exact sb, by rw [upd_ne pc]; exact sc, f2, f3⟩
    · rw [upd_ne hx] at e
      obtain ⟨f, q⟩ := s.ob x o (sub x o e)
      cases o with
      | lst ts => exact ⟨f, q⟩
      | dct _ _ => exact ⟨f, q⟩
      | deck => exact absurd e (sd x)
  · by_cases hx : x = p
    · by_cases hy : y = p
      · rw [hx, hy]
      · rw [upd_ne hy] at ey; exact absurd ey (sd y)
    · rw [upd_ne hx] at ex; exact absurd ex (sd x)
theorem Sim.ofDeck (s : Sim D B H F st) (ha : st a = some .deck) : ∃ (b c : Addr) (k : Int) (ns ms : List Int), Sim D B H F (upd (upd (upd st a (.lst [.ref b, .ref c, .int k])) b (.lst (ns.map .int))) c (.lst (ms.map .int))) ∧ b ≠ c ∧ (ms ≠ [] ∧ ns.length ≤ 1000) ∧ 0 ≤ k ∧ k ≤ B ∧ (∀ n ∈ ns, 0 ≤ n) ∧ (∀ m ∈ ms, 0 ≤ m) ∧ st b = none ∧ st c = none := by
  obtain ⟨f, b, c, k, ns, ms, h1, h2, h3, hm, k0, kB, n0, m0, bc, sb, sc, fb, fc⟩ := s.ob a _ ha
  refine ⟨b, c, k, ns, ms, ⟨s.fr, fun x o e => ?_, fun x y ex ey => ?_⟩, bc, hm, k0, kB, n0, m0, sb, sc⟩
  · by_cases hc : x = c
    · subst hc
      rw [upd_same] at e; cases e
      exact ⟨fc, _, h3, RepVs.of_ints⟩
    · rw [upd_ne hc] at e
      by_cases hb : x = b
      · subst hb
        rw [upd_same] at e; cases e
        exact ⟨fb, _, h2, RepVs.of_ints⟩
      · rw [upd_ne hb] at e
        by_cases hx : x = a
        · subst hx
          rw [upd_same] at e; cases e
          exact ⟨f, _, h1, _, _, rfl, rfl, _, _, rfl, rfl, _, _, rfl, rfl, rfl⟩
        · rw [upd_ne hx] at e
          obtain ⟨f', q⟩ := s.ob x o e
          cases o with
          | lst ts => exact ⟨f', q⟩
          | dct _ _ => exact ⟨f', q⟩
          | deck => exact absurd (s.dk x a e ha) hx
  · have nd : ∀ z, upd (upd (upd st a (.lst [.ref b, .ref c, .int k])) b (.lst (ns.map .int))) c (.lst (ms.map .int)) z ≠ some .deck := by
      intro z e
      by_cases hc : z = c
      · subst hc; rw [upd_same] at e; cases e
      · rw [upd_ne hc] at e
        by_cases hb : z = b
        · subst hb; rw [upd_same] at e; cases e
        · rw [upd_ne hb] at e
          by_cases hx : z = a
          · subst hx; rw [upd_same] at e; cases e
          · rw [upd_ne hx] at e
            exact hx (s.dk z a e ha)
    exact absurd ex (nd x)
end
/-- a list made by turns, the store as it was -/
theorem itl_inv {C : St → Prop} {turn : T → List T → St → (List T → St → Prop) → Prop} {Q : List T → St → Prop} (I : Nat → List T → Prop) {s : St} (c : C s) :
    ∀ (xs : List T) (n : Nat) (acc : List T), I n acc → (∀ i x acc (k : List T → St → Prop), xs[i]? = some x → I (n + i) acc → (∀ acc' s', Sub s s' → I (n + i + 1) acc' → k acc' s') → turn x acc s k) → (∀ acc, I (n + xs.length) acc → Q acc s) → itl C turn xs acc s Q
  | [], n, acc, h, _, hq => by simp only [itl]; exact ⟨c, hq acc (by simpa using h)⟩
  | x :: xs, n, acc, h, ht, hq => by
    simp only [itl]
    refine ⟨c, ht 0 x acc _ rfl (by simpa using h) fun acc' s' sub i1 => ⟨s, sub, ?_⟩⟩
    refine itl_inv I c xs (n + 1) acc' (by simpa using i1) (fun i y acc k hy hi hk => ht (i + 1) y acc k (by simpa using hy) (by rw [show n + (i + 1) = n + 1 + i by omega]; exact hi) (by rw [show n + (i + 1) = n + 1 + i by omega]; exact hk)) fun acc ha => hq acc (by rw [List.length_cons, show n + (xs.length + 1) = n + 1 + xs.length by omega]; exact ha)
/-- a loop -/
theorem itf_inv {C : St → Prop} {turn : T → Env → St → (Env → St → Prop) → Prop} {Q : Env → St → Prop} (I : Nat → Env → St → Prop) (hc : ∀ i e s, I i e s → C s) :
    ∀ (xs : List T) (n : Nat) (e : Env) (s : St), I n e s → (∀ i x e s (k : Env → St → Prop), xs[i]? = some x → I (n + i) e s → (∀ e' s', (∃ e2 s2, Ewk e2 e' ∧ Sub s2 s' ∧ I (n + i + 1) e2 s2) → k e' s') → turn x e s k) → (∀ e s, I (n + xs.length) e s → Q e s) → itf C turn xs e s Q
  | [], n, e, s, h, _, hq => by simp only [itf]; exact ⟨hc _ _ _ h, hq e s (by simpa using h)⟩
  | x :: xs, n, e, s, h, ht, hq => by
    simp only [itf]
    refine ⟨hc _ _ _ h, ht 0 x e s _ rfl (by simpa using h) fun e' s' ⟨e2, s2, h1, h2, i1⟩ => ⟨e2, s2, h1, h2, ?_⟩⟩
    refine itf_inv I hc xs (n + 1) e2 s2 (by simpa using i1) (fun i y e s k hy hi hk => ht (i + 1) y e s k (by simpa using hy) (by rw [show n + (i + 1) = n + 1 + i by omega]; exact hi) (by rw [show n + (i + 1) = n + 1 + i by omega]; exact hk)) fun e s ha => hq e s (by rw [List.length_cons, show n + (xs.length + 1) = n + 1 + xs.length by omega]; exact ha)
theorem sub_add {s : St} {p : Nat} {o : O} (h : s p = none) : Sub s (Mo.upd s p o) := fun a u e => by
  rw [upd_ne (fun z => by rw [z, h] at e; cases e)]; exact e
def absI (i : Int) : Int := if i < 0 then -i else i
theorem absI_nn (i : Int) : 0 ≤ absI i := by unfold absI; split <;> omega
theorem mk_wp {C : Cxt} {st : St} {P : Po} (nd : ∀ b, st b ≠ some .deck)
    (h : ∀ (p b c : Addr) (st' : St) (ns ms : List Int), st p = none → st b = none → st c = none → b ≠ c → b ≠ p → c ≠ p → (ms ≠ [] ∧ ns.length ≤ 1000) → (∀ n ∈ ns, 0 ≤ n) → (∀ m ∈ ms, 0 ≤ m) → Sub st st' →
      st' p = some (.lst [.ref b, .ref c, .int 0]) → st' b = some (.lst (ns.map .int)) → st' c = some (.lst (ms.map .int)) → P.rt (.ref p) st') : wpSs C mkB (start 4 [.scr]) st P := by
  unfold mkB start
  simp only [wpSs, wpS, wpE, wpL, wpR, seqSem, List.map_cons, List.map_nil, List.length_cons, List.length_nil, List.replicate, List.cons_append, List.nil_append, List.getD_cons_zero]
  intro ns hl0 hl
  rw [List.length_map] at hl
  refine itl_inv (fun i acc => acc = (ns.take i).map fun n => .int (absI n)) trivial _ 0 [] (by simp) (fun i x acc k hx hi hk => ?_) fun acc ha => ?_
  · rw [List.getElem?_map] at hx
    obtain ⟨n, hn, rfl⟩ := Option.map_eq_some_iff.mp hx
    have hin := (List.getElem?_eq_some_iff.mp hn).1
    simp only [asgT, wpIf, wipe, List.foldl, wpE, wpEs, biSem, List.set, List.getD_cons_succ, List.getD_cons_zero, if_true]
    rw [Nat.zero_add] at hi hk
    refine ⟨by rw [hi, List.length_map, List.length_take]; omega, hk _ _ (.refl _) ?_⟩
    rw [hi, List.take_add_one, hn]
    simp [absI]
  · rw [Nat.zero_add, List.length_map, List.take_length] at ha
    subst ha
    intro c0 hc0
    simp only [asgT, List.set, wpEs, wpE, wpL, wpR, seqSem, List.getD_cons_succ, List.getD_cons_zero]
    refine ⟨_, upd_same _ _ _, fun hl2 => ?_⟩
    refine itl_inv (fun i acc => ∃ bs : List Int, acc = bs.map .int ∧ bs.length ≤ i ∧ ∀ b ∈ bs, 0 ≤ b) (upd_same _ _ _) _ 0 [] ⟨[], rfl, Nat.le_refl _, fun _ h => by cases h⟩ (fun i x acc k hx hi hk => ?_) fun acc ha => ?_
    · rw [List.getElem?_map] at hx
      obtain ⟨n, hn, rfl⟩ := Option.map_eq_some_iff.mp hx
      have hin := (List.getElem?_eq_some_iff.mp hn).1
      obtain ⟨bs, rfl, hbl, hb0⟩ := hi
      simp only [asgT, wpIf, wpT, wipe, List.foldl, wpE, wpEs, List.set, List.getD_cons_succ, List.getD_cons_zero, binSem, cmpSem, geSem, truSem]
      refine ⟨⟨by omega, by omega, by decide⟩, ?_⟩
      rw [Nat.zero_add] at hbl hk
      split
      · simp only [if_true]
        refine ⟨by rw [List.length_map]; omega, hk _ _ (.refl _) ⟨bs ++ [absI n], by simp, by simp; omega, fun b hb => ?_⟩⟩
        rcases List.mem_append.mp hb with hb | hb
        · exact hb0 b hb
        · rw [List.mem_singleton.mp hb]; exact absI_nn n
      · simp only [Bool.false_eq_true, if_false]
        exact hk _ _ (.refl _) ⟨bs, rfl, by omega, hb0⟩
    · obtain ⟨bs, rfl, hbl, hb0⟩ := ha
      intro b0 hb0'
      simp only [wpEs, wpE, wpL, biSem, lenSem, binSem, List.getD_cons_succ, List.getD_cons_zero]
      obtain ⟨n1, f1⟩ := upd_none hb0'
      refine ⟨_, by rw [upd_ne (Ne.symm n1), upd_same], fun p1 hp1 => ?_⟩
      obtain ⟨n2, hp1⟩ := upd_none hp1
      obtain ⟨n3, f2⟩ := upd_none hp1
      refine ⟨_, _, by rw [upd_ne (Ne.symm n3), upd_ne (Ne.symm n1), upd_same], upd_same _ _ _, by simp only [List.length_map, List.length_cons, List.length_nil]; unfold SZ; omega, fun p2 hp2 p3 hp3 => ?_⟩
      obtain ⟨n4, hp2⟩ := upd_none hp2
      obtain ⟨n5, hp2⟩ := upd_none hp2
      obtain ⟨n6, f3⟩ := upd_none hp2
      obtain ⟨n7, hp3⟩ := upd_none hp3
      obtain ⟨n8, hp3⟩ := upd_none hp3
      obtain ⟨n9, hp3⟩ := upd_none hp3
      obtain ⟨n10, f4⟩ := upd_none hp3
      refine h p3 b0 p2 _ bs (ns.map absI ++ [((ns.map absI).length : Int) + 3]) f4 f1 f3 (Ne.symm n5) (Ne.symm n9) (Ne.symm n7) ⟨by simp, by rw [List.length_map] at hbl; omega⟩ hb0 (fun m hm => ?_) ?_ (upd_same _ _ _) ?_ ?_
      · rcases List.mem_append.mp hm with hm | hm
        · obtain ⟨z, _, rfl⟩ := List.mem_map.mp hm
          exact absI_nn z
        · rw [List.mem_singleton.mp hm]; omega
      · exact (((((Sub.refl st).upd hc0).upd f1).upd f2).upd f3).upd f4
      · rw [upd_ne (Ne.symm n9), upd_ne (Ne.symm n5), upd_ne (Ne.symm n2), upd_same]
      · rw [upd_ne (Ne.symm n7), upd_same]
        simp [Function.comp_def]

/-- how the deck lies open -/
structure Open (a b c : Nat) (k : Int) (ns ms : List Int) (st : St) : Prop where
  ha : st a = some (.lst [.ref b, .ref c, .int k])
  hb : st b = some (.lst (ns.map .int))
  hc : st c = some (.lst (ms.map .int))
  ab : a ≠ b
  ac : a ≠ c
  bc : b ≠ c
  hl : ns.length ≤ 1000
/-- all else as it was -/
def Rest (a b c : Nat) (st st' : St) : Prop := ∀ x, x ≠ a → x ≠ b → x ≠ c → ∀ o, st x = some o → st' x = some o
theorem eqTs_nil : ∀ ns : List T, eqTs ns [] = ns.isEmpty
  | [] => rfl
  | _ :: _ => rfl
theorem dps_ints {st : St} : ∀ ns : List Int, Dps st (ns.map .int) (ns.map .int)
  | [] => .nil
  | n :: ns => .cons (.int n) (dps_ints ns)
theorem dep_ints : ∀ ns : List Int, depTs (ns.map .int) = 0
  | [] => rfl
  | n :: ns => by simp [depTs, depT, dep_ints ns]
theorem ch_ints : ∀ ns : List Int, chTs (ns.map .int) = true
  | [] => rfl
  | n :: ns => by simp [chTs, chT, ch_ints ns]
theorem itw_step {test : Env → St → (Bool → St → Prop) → Prop} {body : Env → St → (Env → St → Prop) → Prop} {n : Nat} {env : Env} {s : St} {Q : Env → St → Prop}
    (h : ∀ K : Env → St → Prop, (∀ e s', (∃ e2 s3, Ewk e2 e ∧ Sub s3 s' ∧ itw test body n e2 s3 Q) → K e s') → test env s fun b s1 => if b = true then body env s1 K else Q env s1) : itw test body (n + 1) env s Q := h _ fun _ _ z => z
theorem next_loop {C : Cxt} {a b c : Nat} {k m : Int} {ms : List Int} {P : Po} {R : TK} (m1 : 1 ≤ m) (m2 : m < 2 ^ 1000) (st0 : St)
    (h : ∀ r st' ns', 0 ≤ r → r < m → (∀ n ∈ ns', 0 ≤ n) → Open a b c k ns' ms st' → Rest a b c st0 st' → R (.int r) st')
    (hq : ∀ o st', Open a b c k [] ms st' → Rest a b c st0 st' → P.nx [some (.ref a), some (.int m), o, none, none] st') :
    ∀ (ns : List Int) (st : St) (o : Option T), (∀ n ∈ ns, 0 ≤ n) → Open a b c k ns ms st → Rest a b c st0 st →
      itw (fun e s q => wpT C (.cmp .ne (.idx (.var 0) (.int 0)) (.new (.lst []))) e s P.ex q)
        (fun e s q => wpSs C [.set (.name 2) (.idx (.idx (.var 0) (.int 0)) (.int 0)), .cond (.cmp .gt (.var 2) (.int 0)) [.sub (.idx (.var 0) (.int 0)) (.int 0) (.bin .fdiv (.var 2) (.var 1)), .ret (some (.bin .mod (.var 2) (.var 1)))] [], .ex (.me .pop (.idx (.var 0) (.int 0)) [(.int 0)])] e s { nx := q, rt := R, ex := P.ex })
        (ns.length + 1) [some (.ref a), some (.int m), o, none, none] st P.nx := by
  have a0 : ∀ ns : List Int, atT (α := T) [T.ref b, T.ref c, T.int k] 0 = some (T.ref b) := fun _ => rfl
  intro ns
  induction ns with
  | nil =>
    intro st o n0 O hr
    refine itw_step fun K hK => ?_
    simp only [List.length_nil, wpT, wpE, wpL, wpEs, List.getD_cons_zero, idxSem, cmpSem, eqSem, truSem]
    refine .inl ⟨_, _, _, rfl, O.ha, a0 [], fun p hp => ?_⟩
    have hb : p ≠ b := fun z => by rw [z, O.hb] at hp; cases hp
    have ha : p ≠ a := fun z => by rw [z, O.ha] at hp; cases hp
    have hc : p ≠ c := fun z => by rw [z, O.hc] at hp; cases hp
    refine ⟨.lst [], .lst [], .ref (by rw [upd_ne (Ne.symm hb)]; exact O.hb) .nil, .ref (upd_same _ _ _) .nil, by decide, by decide, ?_⟩
    simp only [eqT, eqTs, Bool.not_true, Bool.false_eq_true, if_false]
    refine hq o _ ⟨by rw [upd_ne (Ne.symm ha)]; exact O.ha, by rw [upd_ne (Ne.symm hb)]; exact O.hb, by rw [upd_ne (Ne.symm hc)]; exact O.hc, O.ab, O.ac, O.bc, O.hl⟩ fun x x1 x2 x3 u hu => ?_
    have := hr x x1 x2 x3 u hu
    rw [upd_ne (fun z => by rw [z, hp] at this; cases this)]; exact this
  | cons n ns ih =>
    intro st o n0 O hr
    refine itw_step fun K hK => ?_
    simp only [List.length_cons, wpT, wpE, wpL, wpEs, List.getD_cons_zero, idxSem, cmpSem, eqSem, truSem]
    refine .inl ⟨_, _, _, rfl, O.ha, a0 [], fun p hp => ?_⟩
    have hb : p ≠ b := fun z => by rw [z, O.hb] at hp; cases hp
    have ha : p ≠ a := fun z => by rw [z, O.ha] at hp; cases hp
    have hc : p ≠ c := fun z => by rw [z, O.hc] at hp; cases hp
    refine ⟨.lst ((n :: ns).map .int), .lst [], .ref (by rw [upd_ne (Ne.symm hb)]; exact O.hb) (dps_ints _), .ref (upd_same _ _ _) .nil, by have h1 := dep_ints (n :: ns); have h2 := ch_ints (n :: ns); simp only [okD, depT, chT, h1, h2]; decide, by decide, ?_⟩
    simp only [eqT, eqTs, List.map_cons, Bool.not_false, if_true]
    have O2 : Open a b c k (n :: ns) ms (upd st p (.lst [])) := ⟨by rw [upd_ne (Ne.symm ha)]; exact O.ha, by rw [upd_ne (Ne.symm hb)]; exact O.hb, by rw [upd_ne (Ne.symm hc)]; exact O.hc, O.ab, O.ac, O.bc, O.hl⟩
    have hr2 : Rest a b c st0 (upd st p (.lst [])) := fun x x1 x2 x3 u hu => by
      have := hr x x1 x2 x3 u hu
      rw [upd_ne (fun z => by rw [z, hp] at this; cases this)]; exact this
    generalize upd st p (.lst []) = s2 at O2 hr2
    have n1 := n0 n (by simp)
    rw [wpSs, wpS, wpE, wpE, wpE]
    simp only [wpE, idxSem, List.getD_cons_zero]
    refine .inl ⟨_, _, _, rfl, O2.ha, a0 [], .inl ⟨_, _, _, rfl, O2.hb, rfl, ?_⟩⟩
    rw [asgT, wpSs, wpS]
    simp only [wpT, wpE, cmpSem, gtSem, truSem, List.set, List.getD_cons_zero, List.getD_cons_succ]
    split
    · rename_i hpos
      simp only [decide_eq_true_eq] at hpos
      simp only [wpSs, wpS, wpE, wpT, wpEs, idxSem, asgT, List.getD_cons_zero, List.getD_cons_succ, List.set, binSem, subSem]
      refine ⟨⟨by omega, m2⟩, .inl ⟨_, _, _, rfl, O2.ha, a0 [], .inl ⟨_, 0, rfl, O2.hb, by simp, by omega, ?_⟩⟩⟩
      refine h _ _ (n / m :: ns) (Int.emod_nonneg _ (by omega)) (Int.emod_lt_of_pos _ (by omega)) (fun z hz => ?_) ⟨by rw [upd_ne O2.ab]; exact O2.ha, by rw [upd_same]; rfl, by rw [upd_ne (Ne.symm O2.bc)]; exact O2.hc, O2.ab, O2.ac, O2.bc, by have := O2.hl; simpa using this⟩ fun x x1 x2 x3 u hu => by rw [upd_ne x2]; exact hr2 x x1 x2 x3 u hu
      rcases List.mem_cons.mp hz with rfl | hz
      · exact Int.ediv_nonneg (by omega) (by omega)
      · exact n0 z (by simp [hz])
    · simp only [wpSs, wpS, wpE, wpT, wpEs, idxSem, asgT, List.getD_cons_zero, List.getD_cons_succ, List.set, meOk, meSem]
      refine .inl ⟨_, _, _, rfl, O2.ha, a0 [], ⟨_, _, rfl, O2.hb⟩, by rfl, _, _, by rw [O2.hb]; rfl, ?_⟩
      refine hK _ _ ⟨_, _, Ewk.refl _, Sub.refl _, ih _ _ (fun z hz => n0 z (by simp [hz])) ⟨by rw [upd_ne O2.ab]; exact O2.ha, by rw [upd_same], by rw [upd_ne (Ne.symm O2.bc)]; exact O2.hc, O2.ab, O2.ac, O2.bc, by have := O2.hl; simp at this; omega⟩ fun x x1 x2 x3 u hu => by rw [upd_ne x2]; exact hr2 x x1 x2 x3 u hu⟩

@[irreducible] def BK2 : Int := 2 ^ 300001
theorem mul_small {i j : Int} (hi : i.natAbs < 2 ^ 350000) (hj : j.natAbs < 2 ^ 350000) : MulOk i j :=
  ⟨Nat.lt_of_lt_of_le hi (by decide +kernel), Nat.lt_of_lt_of_le hj (by decide +kernel)⟩
theorem small_of {i : Int} (h0 : 0 ≤ i) (h1 : i ≤ 100000 * BK2) : i.natAbs < 2 ^ 350000 := by
  have h2 : (100000 * BK2).natAbs < 2 ^ 350000 := by unfold BK2; decide +kernel
  omega
set_option maxHeartbeats 4000000 in
theorem next_wp {C : Cxt} {a b c : Nat} {k m : Int} {ns ms : List Int} {P : Po} {st : St} (m1 : 1 ≤ m) (m2 : m < 2 ^ 1000) (k0 : 0 ≤ k) (k1 : k + 1 ≤ BK2) (hm : ms ≠ []) (n0 : ∀ n ∈ ns, 0 ≤ n) (m0 : ∀ n ∈ ms, 0 ≤ n) (O : Open a b c k ns ms st)
    (h : ∀ r st' ns' k', 0 ≤ r → r < m → k ≤ k' → k' ≤ k + 1 → (∀ n ∈ ns', 0 ≤ n) → Open a b c k' ns' ms st' → Rest a b c st st' → P.rt (.int r) st') : wpSs C nextB (start 5 [.ref a, .int m]) st P := by
  unfold nextB start
  rw [wpSs, wpS]
  refine ⟨ns.length + 1, by have := O.hl; omega, next_loop (P := { P with nx := _ }) m1 m2 st (fun r st' ns' h0 h1 h2 h3 h4 => h r st' ns' k h0 h1 (Int.le_refl _) (by omega) h2 h3 h4) (fun o st' O1 hr => ?_) ns st none n0 O fun x _ _ _ o h => h⟩
  have a0 : atT (α := T) [T.ref b, T.ref c, T.int k] 0 = some (T.ref b) := rfl
  have a2 : atT (α := T) [T.ref b, T.ref c, T.int k] 2 = some (T.int k) := rfl
  change wpSs C (_ :: _) _ _ _
  rw [wpSs, wpS]
  simp only [wpE, idxSem, List.getD_cons_zero, binSem, subSem]
  refine .inl ⟨_, _, _, rfl, O1.ha, a2, .inl ⟨_, 2, rfl, O1.ha, by simp, ?_⟩⟩
  have O2 : Open a b c (k + 1) [] ms (upd st' a (.lst [.ref b, .ref c, .int (k + 1)])) := ⟨upd_same _ _ _, by rw [upd_ne (Ne.symm O1.ab)]; exact O1.hb, by rw [upd_ne (Ne.symm O1.ac)]; exact O1.hc, O1.ab, O1.ac, O1.bc, by simp⟩
  have hr2 : Rest a b c st (upd st' a (.lst [.ref b, .ref c, .int (k + 1)])) := fun x x1 x2 x3 u hu => by rw [upd_ne x1]; exact hr x x1 x2 x3 u hu
  show wpSs C _ _ (upd st' a (.lst [.ref b, .ref c, .int (k + 1)])) _
  generalize upd st' a (.lst [.ref b, .ref c, .int (k + 1)]) = s2 at O2 hr2
  have b1 : atT (α := T) [T.ref b, T.ref c, T.int (k + 1)] 1 = some (T.ref c) := rfl
  have b2 : atT (α := T) [T.ref b, T.ref c, T.int (k + 1)] 2 = some (T.int (k + 1)) := rfl
  have hml : 0 < ms.length := List.length_pos_iff.mpr hm
  have hix : (((k + 1) % (ms.length : Int)).toNat) < ms.length := by
    have h1 := Int.emod_lt_of_pos (k + 1) (show (0 : Int) < ms.length by omega)
    have h2 := Int.emod_nonneg (k + 1) (show (ms.length : Int) ≠ 0 by omega)
    omega
  have hc2 : atT (ms.map T.int) ((k + 1) % ((ms.map T.int).length : Int)) = some (.int ms[((k + 1) % (ms.length : Int)).toNat]) := by
    unfold atT
    rw [List.length_map, if_pos (Int.emod_nonneg (k + 1) (show (ms.length : Int) ≠ 0 by omega)), List.getElem?_map, List.getElem?_eq_getElem hix]
    rfl
  have hx0 := m0 _ (List.getElem_mem hix)
  generalize ms[((k + 1) % (ms.length : Int)).toNat] = x at hc2 hx0
  repeat (first | with_reducible refine p_cons ?_ | with_reducible refine p_nil ?_ | with_reducible refine p_name ?_ | with_reducible refine p_set ?_ | with_reducible refine p_ret ?_ | with_reducible refine p_ex ?_ | with_reducible refine p_if ?_ | with_reducible refine p_sub ?_ | with_reducible refine p_par ?_ | ((with_reducible apply e_var); rfl) | with_reducible refine e_int ?_ | with_reducible refine e_str ?_ | with_reducible refine e_bl ?_ | with_reducible refine e_non ?_ | ((with_reducible apply e_glob); rfl) | with_reducible refine e_bin ?_ | with_reducible refine e_neg ?_ | with_reducible refine e_not ?_ | with_reducible refine e_and ?_ | with_reducible refine e_or ?_ | with_reducible refine e_ite ?_ | with_reducible refine e_cmp ?_ | with_reducible refine e_chain ?_ | with_reducible refine e_tup ?_ | with_reducible refine e_new ?_ | with_reducible refine e_idx ?_ | with_reducible refine e_slc ?_ | with_reducible refine e_rev ?_ | with_reducible refine e_callc ?_ | with_reducible refine e_bi ?_ | with_reducible refine e_isi ?_ | with_reducible refine e_li ?_ | with_reducible refine e_join ?_ | with_reducible refine e_me ?_ | with_reducible refine es_nil ?_ | with_reducible refine es_cons ?_ | with_reducible refine o_none ?_ | with_reducible refine o_some ?_ | with_reducible refine t_not' ?_ | with_reducible refine t_and' ?_ | with_reducible refine t_or' ?_ | with_reducible refine t_cmp' ?_ | with_reducible refine t_isi' ?_ | with_reducible refine t_callc ?_ | with_reducible refine b_add ?_ | with_reducible refine b_sub ?_ | ((with_reducible apply i_tup); rfl) | with_reducible refine n_tup ?_ | with_reducible refine n_int ?_ | with_reducible refine n_intb ?_ | with_reducible refine l_ex ?_ | with_reducible refine l_lst ?_ | with_reducible refine l_comp ?_ | with_reducible refine r_sq ?_ | with_reducible refine r_rng ?_ | with_reducible refine r_enm ?_ | with_reducible refine r_zp ?_ | with_reducible refine ls_nil ?_ | with_reducible refine ls_cons ?_ | with_reducible refine if_nil ?_ | with_reducible refine if_one ?_ | with_reducible refine q_tup ?_ | with_reducible refine a_name ?_ | with_reducible refine a_tup ?_ | with_reducible refine as_nil ?_ | with_reducible refine as_cons ?_ | with_reducible refine c_le ?_ | with_reducible refine c_lt ?_ | with_reducible refine c_ge ?_ | with_reducible refine c_gt ?_ | with_reducible refine c_eq ?_ | with_reducible refine c_ne ?_ | with_reducible refine f_tup ?_ | with_reducible refine f_len ?_ | with_reducible refine p_forS ?_ | ((with_reducible apply y_is); rfl) | with_reducible refine u_bl ?_ | with_reducible refine u_int ?_ | ((with_reducible apply ite_t); rfl) | ((with_reducible apply ite_f); rfl) | with_reducible refine c_is ?_ | with_reducible refine c_isnot ?_)
  refine i_lst O2.ha b1 ?_
  repeat (first | with_reducible refine p_cons ?_ | with_reducible refine p_nil ?_ | with_reducible refine p_name ?_ | with_reducible refine p_set ?_ | with_reducible refine p_ret ?_ | with_reducible refine p_ex ?_ | with_reducible refine p_if ?_ | with_reducible refine p_sub ?_ | with_reducible refine p_par ?_ | ((with_reducible apply e_var); rfl) | with_reducible refine e_int ?_ | with_reducible refine e_str ?_ | with_reducible refine e_bl ?_ | with_reducible refine e_non ?_ | ((with_reducible apply e_glob); rfl) | with_reducible refine e_bin ?_ | with_reducible refine e_neg ?_ | with_reducible refine e_not ?_ | with_reducible refine e_and ?_ | with_reducible refine e_or ?_ | with_reducible refine e_ite ?_ | with_reducible refine e_cmp ?_ | with_reducible refine e_chain ?_ | with_reducible refine e_tup ?_ | with_reducible refine e_new ?_ | with_reducible refine e_idx ?_ | with_reducible refine e_slc ?_ | with_reducible refine e_rev ?_ | with_reducible refine e_callc ?_ | with_reducible refine e_bi ?_ | with_reducible refine e_isi ?_ | with_reducible refine e_li ?_ | with_reducible refine e_join ?_ | with_reducible refine e_me ?_ | with_reducible refine es_nil ?_ | with_reducible refine es_cons ?_ | with_reducible refine o_none ?_ | with_reducible refine o_some ?_ | with_reducible refine t_not' ?_ | with_reducible refine t_and' ?_ | with_reducible refine t_or' ?_ | with_reducible refine t_cmp' ?_ | with_reducible refine t_isi' ?_ | with_reducible refine t_callc ?_ | with_reducible refine b_add ?_ | with_reducible refine b_sub ?_ | ((with_reducible apply i_tup); rfl) | with_reducible refine n_tup ?_ | with_reducible refine n_int ?_ | with_reducible refine n_intb ?_ | with_reducible refine l_ex ?_ | with_reducible refine l_lst ?_ | with_reducible refine l_comp ?_ | with_reducible refine r_sq ?_ | with_reducible refine r_rng ?_ | with_reducible refine r_enm ?_ | with_reducible refine r_zp ?_ | with_reducible refine ls_nil ?_ | with_reducible refine ls_cons ?_ | with_reducible refine if_nil ?_ | with_reducible refine if_one ?_ | with_reducible refine q_tup ?_ | with_reducible refine a_name ?_ | with_reducible refine a_tup ?_ | with_reducible refine as_nil ?_ | with_reducible refine as_cons ?_ | with_reducible refine c_le ?_ | with_reducible refine c_lt ?_ | with_reducible refine c_ge ?_ | with_reducible refine c_gt ?_ | with_reducible refine c_eq ?_ | with_reducible refine c_ne ?_ | with_reducible refine f_tup ?_ | with_reducible refine f_len ?_ | with_reducible refine p_forS ?_ | ((with_reducible apply y_is); rfl) | with_reducible refine u_bl ?_ | with_reducible refine u_int ?_ | ((with_reducible apply ite_t); rfl) | ((with_reducible apply ite_f); rfl) | with_reducible refine c_is ?_ | with_reducible refine c_isnot ?_)
  refine i_lst O2.ha b2 ?_
  repeat (first | with_reducible refine p_cons ?_ | with_reducible refine p_nil ?_ | with_reducible refine p_name ?_ | with_reducible refine p_set ?_ | with_reducible refine p_ret ?_ | with_reducible refine p_ex ?_ | with_reducible refine p_if ?_ | with_reducible refine p_sub ?_ | with_reducible refine p_par ?_ | ((with_reducible apply e_var); rfl) | with_reducible refine e_int ?_ | with_reducible refine e_str ?_ | with_reducible refine e_bl ?_ | with_reducible refine e_non ?_ | ((with_reducible apply e_glob); rfl) | with_reducible refine e_bin ?_ | with_reducible refine e_neg ?_ | with_reducible refine e_not ?_ | with_reducible refine e_and ?_ | with_reducible refine e_or ?_ | with_reducible refine e_ite ?_ | with_reducible refine e_cmp ?_ | with_reducible refine e_chain ?_ | with_reducible refine e_tup ?_ | with_reducible refine e_new ?_ | with_reducible refine e_idx ?_ | with_reducible refine e_slc ?_ | with_reducible refine e_rev ?_ | with_reducible refine e_callc ?_ | with_reducible refine e_bi ?_ | with_reducible refine e_isi ?_ | with_reducible refine e_li ?_ | with_reducible refine e_join ?_ | with_reducible refine e_me ?_ | with_reducible refine es_nil ?_ | with_reducible refine es_cons ?_ | with_reducible refine o_none ?_ | with_reducible refine o_some ?_ | with_reducible refine t_not' ?_ | with_reducible refine t_and' ?_ | with_reducible refine t_or' ?_ | with_reducible refine t_cmp' ?_ | with_reducible refine t_isi' ?_ | with_reducible refine t_callc ?_ | with_reducible refine b_add ?_ | with_reducible refine b_sub ?_ | ((with_reducible apply i_tup); rfl) | with_reducible refine n_tup ?_ | with_reducible refine n_int ?_ | with_reducible refine n_intb ?_ | with_reducible refine l_ex ?_ | with_reducible refine l_lst ?_ | with_reducible refine l_comp ?_ | with_reducible refine r_sq ?_ | with_reducible refine r_rng ?_ | with_reducible refine r_enm ?_ | with_reducible refine r_zp ?_ | with_reducible refine ls_nil ?_ | with_reducible refine ls_cons ?_ | with_reducible refine if_nil ?_ | with_reducible refine if_one ?_ | with_reducible refine q_tup ?_ | with_reducible refine a_name ?_ | with_reducible refine a_tup ?_ | with_reducible refine as_nil ?_ | with_reducible refine as_cons ?_ | with_reducible refine c_le ?_ | with_reducible refine c_lt ?_ | with_reducible refine c_ge ?_ | with_reducible refine c_gt ?_ | with_reducible refine c_eq ?_ | with_reducible refine c_ne ?_ | with_reducible refine f_tup ?_ | with_reducible refine f_len ?_ | with_reducible refine p_forS ?_ | ((with_reducible apply y_is); rfl) | with_reducible refine u_bl ?_ | with_reducible refine u_int ?_ | ((with_reducible apply ite_t); rfl) | ((with_reducible apply ite_f); rfl) | with_reducible refine c_is ?_ | with_reducible refine c_isnot ?_)
  refine i_lst O2.ha b1 ?_
  repeat (first | with_reducible refine p_cons ?_ | with_reducible refine p_nil ?_ | with_reducible refine p_name ?_ | with_reducible refine p_set ?_ | with_reducible refine p_ret ?_ | with_reducible refine p_ex ?_ | with_reducible refine p_if ?_ | with_reducible refine p_sub ?_ | with_reducible refine p_par ?_ | ((with_reducible apply e_var); rfl) | with_reducible refine e_int ?_ | with_reducible refine e_str ?_ | with_reducible refine e_bl ?_ | with_reducible refine e_non ?_ | ((with_reducible apply e_glob); rfl) | with_reducible refine e_bin ?_ | with_reducible refine e_neg ?_ | with_reducible refine e_not ?_ | with_reducible refine e_and ?_ | with_reducible refine e_or ?_ | with_reducible refine e_ite ?_ | with_reducible refine e_cmp ?_ | with_reducible refine e_chain ?_ | with_reducible refine e_tup ?_ | with_reducible refine e_new ?_ | with_reducible refine e_idx ?_ | with_reducible refine e_slc ?_ | with_reducible refine e_rev ?_ | with_reducible refine e_callc ?_ | with_reducible refine e_bi ?_ | with_reducible refine e_isi ?_ | with_reducible refine e_li ?_ | with_reducible refine e_join ?_ | with_reducible refine e_me ?_ | with_reducible refine es_nil ?_ | with_reducible refine es_cons ?_ | with_reducible refine o_none ?_ | with_reducible refine o_some ?_ | with_reducible refine t_not' ?_ | with_reducible refine t_and' ?_ | with_reducible refine t_or' ?_ | with_reducible refine t_cmp' ?_ | with_reducible refine t_isi' ?_ | with_reducible refine t_callc ?_ | with_reducible refine b_add ?_ | with_reducible refine b_sub ?_ | ((with_reducible apply i_tup); rfl) | with_reducible refine n_tup ?_ | with_reducible refine n_int ?_ | with_reducible refine n_intb ?_ | with_reducible refine l_ex ?_ | with_reducible refine l_lst ?_ | with_reducible refine l_comp ?_ | with_reducible refine r_sq ?_ | with_reducible refine r_rng ?_ | with_reducible refine r_enm ?_ | with_reducible refine r_zp ?_ | with_reducible refine ls_nil ?_ | with_reducible refine ls_cons ?_ | with_reducible refine if_nil ?_ | with_reducible refine if_one ?_ | with_reducible refine q_tup ?_ | with_reducible refine a_name ?_ | with_reducible refine a_tup ?_ | with_reducible refine as_nil ?_ | with_reducible refine as_cons ?_ | with_reducible refine c_le ?_ | with_reducible refine c_lt ?_ | with_reducible refine c_ge ?_ | with_reducible refine c_gt ?_ | with_reducible refine c_eq ?_ | with_reducible refine c_ne ?_ | with_reducible refine f_tup ?_ | with_reducible refine f_len ?_ | with_reducible refine p_forS ?_ | ((with_reducible apply y_is); rfl) | with_reducible refine u_bl ?_ | with_reducible refine u_int ?_ | ((with_reducible apply ite_t); rfl) | ((with_reducible apply ite_f); rfl) | with_reducible refine c_is ?_ | with_reducible refine c_isnot ?_)
  refine n_lst O2.hc (b_mod (by rw [List.length_map]; omega) (i_lst O2.hc hc2 ?_))
  repeat (first | with_reducible refine p_cons ?_ | with_reducible refine p_nil ?_ | with_reducible refine p_name ?_ | with_reducible refine p_set ?_ | with_reducible refine p_ret ?_ | with_reducible refine p_ex ?_ | with_reducible refine p_if ?_ | with_reducible refine p_sub ?_ | with_reducible refine p_par ?_ | ((with_reducible apply e_var); rfl) | with_reducible refine e_int ?_ | with_reducible refine e_str ?_ | with_reducible refine e_bl ?_ | with_reducible refine e_non ?_ | ((with_reducible apply e_glob); rfl) | with_reducible refine e_bin ?_ | with_reducible refine e_neg ?_ | with_reducible refine e_not ?_ | with_reducible refine e_and ?_ | with_reducible refine e_or ?_ | with_reducible refine e_ite ?_ | with_reducible refine e_cmp ?_ | with_reducible refine e_chain ?_ | with_reducible refine e_tup ?_ | with_reducible refine e_new ?_ | with_reducible refine e_idx ?_ | with_reducible refine e_slc ?_ | with_reducible refine e_rev ?_ | with_reducible refine e_callc ?_ | with_reducible refine e_bi ?_ | with_reducible refine e_isi ?_ | with_reducible refine e_li ?_ | with_reducible refine e_join ?_ | with_reducible refine e_me ?_ | with_reducible refine es_nil ?_ | with_reducible refine es_cons ?_ | with_reducible refine o_none ?_ | with_reducible refine o_some ?_ | with_reducible refine t_not' ?_ | with_reducible refine t_and' ?_ | with_reducible refine t_or' ?_ | with_reducible refine t_cmp' ?_ | with_reducible refine t_isi' ?_ | with_reducible refine t_callc ?_ | with_reducible refine b_add ?_ | with_reducible refine b_sub ?_ | ((with_reducible apply i_tup); rfl) | with_reducible refine n_tup ?_ | with_reducible refine n_int ?_ | with_reducible refine n_intb ?_ | with_reducible refine l_ex ?_ | with_reducible refine l_lst ?_ | with_reducible refine l_comp ?_ | with_reducible refine r_sq ?_ | with_reducible refine r_rng ?_ | with_reducible refine r_enm ?_ | with_reducible refine r_zp ?_ | with_reducible refine ls_nil ?_ | with_reducible refine ls_cons ?_ | with_reducible refine if_nil ?_ | with_reducible refine if_one ?_ | with_reducible refine q_tup ?_ | with_reducible refine a_name ?_ | with_reducible refine a_tup ?_ | with_reducible refine as_nil ?_ | with_reducible refine as_cons ?_ | with_reducible refine c_le ?_ | with_reducible refine c_lt ?_ | with_reducible refine c_ge ?_ | with_reducible refine c_gt ?_ | with_reducible refine c_eq ?_ | with_reducible refine c_ne ?_ | with_reducible refine f_tup ?_ | with_reducible refine f_len ?_ | with_reducible refine p_forS ?_ | ((with_reducible apply y_is); rfl) | with_reducible refine u_bl ?_ | with_reducible refine u_int ?_ | ((with_reducible apply ite_t); rfl) | ((with_reducible apply ite_f); rfl) | with_reducible refine c_is ?_ | with_reducible refine c_isnot ?_)
  refine b_mod (by decide) ?_
  have y0 := Int.emod_nonneg x (show (2147483647 : Int) ≠ 0 by decide)
  have y1 := Int.emod_lt_of_pos x (show (0 : Int) < 2147483647 by decide)
  generalize x % 2147483647 = y at y0 y1
  have kb : (0 : Int) ≤ k + 1 := by omega
  have kk : k + 1 ≤ 100000 * BK2 := by omega
  have hb0 : (100000 : Int) ≤ BK2 := by unfold BK2; decide +kernel
  repeat (first | with_reducible refine p_cons ?_ | with_reducible refine p_nil ?_ | with_reducible refine p_name ?_ | with_reducible refine p_set ?_ | with_reducible refine p_ret ?_ | with_reducible refine p_ex ?_ | with_reducible refine p_if ?_ | with_reducible refine p_sub ?_ | with_reducible refine p_par ?_ | ((with_reducible apply e_var); rfl) | with_reducible refine e_int ?_ | with_reducible refine e_str ?_ | with_reducible refine e_bl ?_ | with_reducible refine e_non ?_ | ((with_reducible apply e_glob); rfl) | with_reducible refine e_bin ?_ | with_reducible refine e_neg ?_ | with_reducible refine e_not ?_ | with_reducible refine e_and ?_ | with_reducible refine e_or ?_ | with_reducible refine e_ite ?_ | with_reducible refine e_cmp ?_ | with_reducible refine e_chain ?_ | with_reducible refine e_tup ?_ | with_reducible refine e_new ?_ | with_reducible refine e_idx ?_ | with_reducible refine e_slc ?_ | with_reducible refine e_rev ?_ | with_reducible refine e_callc ?_ | with_reducible refine e_bi ?_ | with_reducible refine e_isi ?_ | with_reducible refine e_li ?_ | with_reducible refine e_join ?_ | with_reducible refine e_me ?_ | with_reducible refine es_nil ?_ | with_reducible refine es_cons ?_ | with_reducible refine o_none ?_ | with_reducible refine o_some ?_ | with_reducible refine t_not' ?_ | with_reducible refine t_and' ?_ | with_reducible refine t_or' ?_ | with_reducible refine t_cmp' ?_ | with_reducible refine t_isi' ?_ | with_reducible refine t_callc ?_ | with_reducible refine b_add ?_ | with_reducible refine b_sub ?_ | ((with_reducible apply i_tup); rfl) | with_reducible refine n_tup ?_ | with_reducible refine n_int ?_ | with_reducible refine n_intb ?_ | with_reducible refine l_ex ?_ | with_reducible refine l_lst ?_ | with_reducible refine l_comp ?_ | with_reducible refine r_sq ?_ | with_reducible refine r_rng ?_ | with_reducible refine r_enm ?_ | with_reducible refine r_zp ?_ | with_reducible refine ls_nil ?_ | with_reducible refine ls_cons ?_ | with_reducible refine if_nil ?_ | with_reducible refine if_one ?_ | with_reducible refine q_tup ?_ | with_reducible refine a_name ?_ | with_reducible refine a_tup ?_ | with_reducible refine as_nil ?_ | with_reducible refine as_cons ?_ | with_reducible refine c_le ?_ | with_reducible refine c_lt ?_ | with_reducible refine c_ge ?_ | with_reducible refine c_gt ?_ | with_reducible refine c_eq ?_ | with_reducible refine c_ne ?_ | with_reducible refine f_tup ?_ | with_reducible refine f_len ?_ | with_reducible refine p_forS ?_ | ((with_reducible apply y_is); rfl) | with_reducible refine u_bl ?_ | with_reducible refine u_int ?_ | ((with_reducible apply ite_t); rfl) | ((with_reducible apply ite_f); rfl) | with_reducible refine c_is ?_ | with_reducible refine c_isnot ?_)
  refine i_lst O2.ha b2 (b_mul (mul_small (by decide +kernel) (small_of kb kk)) ?_)
  repeat (first | with_reducible refine p_cons ?_ | with_reducible refine p_nil ?_ | with_reducible refine p_name ?_ | with_reducible refine p_set ?_ | with_reducible refine p_ret ?_ | with_reducible refine p_ex ?_ | with_reducible refine p_if ?_ | with_reducible refine p_sub ?_ | with_reducible refine p_par ?_ | ((with_reducible apply e_var); rfl) | with_reducible refine e_int ?_ | with_reducible refine e_str ?_ | with_reducible refine e_bl ?_ | with_reducible refine e_non ?_ | ((with_reducible apply e_glob); rfl) | with_reducible refine e_bin ?_ | with_reducible refine e_neg ?_ | with_reducible refine e_not ?_ | with_reducible refine e_and ?_ | with_reducible refine e_or ?_ | with_reducible refine e_ite ?_ | with_reducible refine e_cmp ?_ | with_reducible refine e_chain ?_ | with_reducible refine e_tup ?_ | with_reducible refine e_new ?_ | with_reducible refine e_idx ?_ | with_reducible refine e_slc ?_ | with_reducible refine e_rev ?_ | with_reducible refine e_callc ?_ | with_reducible refine e_bi ?_ | with_reducible refine e_isi ?_ | with_reducible refine e_li ?_ | with_reducible refine e_join ?_ | with_reducible refine e_me ?_ | with_reducible refine es_nil ?_ | with_reducible refine es_cons ?_ | with_reducible refine o_none ?_ | with_reducible refine o_some ?_ | with_reducible refine t_not' ?_ | with_reducible refine t_and' ?_ | with_reducible refine t_or' ?_ | with_reducible refine t_cmp' ?_ | with_reducible refine t_isi' ?_ | with_reducible refine t_callc ?_ | with_reducible refine b_add ?_ | with_reducible refine b_sub ?_ | ((with_reducible apply i_tup); rfl) | with_reducible refine n_tup ?_ | with_reducible refine n_int ?_ | with_reducible refine n_intb ?_ | with_reducible refine l_ex ?_ | with_reducible refine l_lst ?_ | with_reducible refine l_comp ?_ | with_reducible refine r_sq ?_ | with_reducible refine r_rng ?_ | with_reducible refine r_enm ?_ | with_reducible refine r_zp ?_ | with_reducible refine ls_nil ?_ | with_reducible refine ls_cons ?_ | with_reducible refine if_nil ?_ | with_reducible refine if_one ?_ | with_reducible refine q_tup ?_ | with_reducible refine a_name ?_ | with_reducible refine a_tup ?_ | with_reducible refine as_nil ?_ | with_reducible refine as_cons ?_ | with_reducible refine c_le ?_ | with_reducible refine c_lt ?_ | with_reducible refine c_ge ?_ | with_reducible refine c_gt ?_ | with_reducible refine c_eq ?_ | with_reducible refine c_ne ?_ | with_reducible refine f_tup ?_ | with_reducible refine f_len ?_ | with_reducible refine p_forS ?_ | ((with_reducible apply y_is); rfl) | with_reducible refine u_bl ?_ | with_reducible refine u_int ?_ | ((with_reducible apply ite_t); rfl) | ((with_reducible apply ite_f); rfl) | with_reducible refine c_is ?_ | with_reducible refine c_isnot ?_)
  refine b_mul (mul_small (small_of y0 (by omega)) (small_of (by omega) (by omega))) ?_
  repeat (first | with_reducible refine p_cons ?_ | with_reducible refine p_nil ?_ | with_reducible refine p_name ?_ | with_reducible refine p_set ?_ | with_reducible refine p_ret ?_ | with_reducible refine p_ex ?_ | with_reducible refine p_if ?_ | with_reducible refine p_sub ?_ | with_reducible refine p_par ?_ | ((with_reducible apply e_var); rfl) | with_reducible refine e_int ?_ | with_reducible refine e_str ?_ | with_reducible refine e_bl ?_ | with_reducible refine e_non ?_ | ((with_reducible apply e_glob); rfl) | with_reducible refine e_bin ?_ | with_reducible refine e_neg ?_ | with_reducible refine e_not ?_ | with_reducible refine e_and ?_ | with_reducible refine e_or ?_ | with_reducible refine e_ite ?_ | with_reducible refine e_cmp ?_ | with_reducible refine e_chain ?_ | with_reducible refine e_tup ?_ | with_reducible refine e_new ?_ | with_reducible refine e_idx ?_ | with_reducible refine e_slc ?_ | with_reducible refine e_rev ?_ | with_reducible refine e_callc ?_ | with_reducible refine e_bi ?_ | with_reducible refine e_isi ?_ | with_reducible refine e_li ?_ | with_reducible refine e_join ?_ | with_reducible refine e_me ?_ | with_reducible refine es_nil ?_ | with_reducible refine es_cons ?_ | with_reducible refine o_none ?_ | with_reducible refine o_some ?_ | with_reducible refine t_not' ?_ | with_reducible refine t_and' ?_ | with_reducible refine t_or' ?_ | with_reducible refine t_cmp' ?_ | with_reducible refine t_isi' ?_ | with_reducible refine t_callc ?_ | with_reducible refine b_add ?_ | with_reducible refine b_sub ?_ | ((with_reducible apply i_tup); rfl) | with_reducible refine n_tup ?_ | with_reducible refine n_int ?_ | with_reducible refine n_intb ?_ | with_reducible refine l_ex ?_ | with_reducible refine l_lst ?_ | with_reducible refine l_comp ?_ | with_reducible refine r_sq ?_ | with_reducible refine r_rng ?_ | with_reducible refine r_enm ?_ | with_reducible refine r_zp ?_ | with_reducible refine ls_nil ?_ | with_reducible refine ls_cons ?_ | with_reducible refine if_nil ?_ | with_reducible refine if_one ?_ | with_reducible refine q_tup ?_ | with_reducible refine a_name ?_ | with_reducible refine a_tup ?_ | with_reducible refine as_nil ?_ | with_reducible refine as_cons ?_ | with_reducible refine c_le ?_ | with_reducible refine c_lt ?_ | with_reducible refine c_ge ?_ | with_reducible refine c_gt ?_ | with_reducible refine c_eq ?_ | with_reducible refine c_ne ?_ | with_reducible refine f_tup ?_ | with_reducible refine f_len ?_ | with_reducible refine p_forS ?_ | ((with_reducible apply y_is); rfl) | with_reducible refine u_bl ?_ | with_reducible refine u_int ?_ | ((with_reducible apply ite_t); rfl) | ((with_reducible apply ite_f); rfl) | with_reducible refine c_is ?_ | with_reducible refine c_isnot ?_)
  refine i_lst O2.ha b2 (b_mul (mul_small (by decide +kernel) (small_of kb kk)) ?_)
  repeat (first | with_reducible refine p_cons ?_ | with_reducible refine p_nil ?_ | with_reducible refine p_name ?_ | with_reducible refine p_set ?_ | with_reducible refine p_ret ?_ | with_reducible refine p_ex ?_ | with_reducible refine p_if ?_ | with_reducible refine p_sub ?_ | with_reducible refine p_par ?_ | ((with_reducible apply e_var); rfl) | with_reducible refine e_int ?_ | with_reducible refine e_str ?_ | with_reducible refine e_bl ?_ | with_reducible refine e_non ?_ | ((with_reducible apply e_glob); rfl) | with_reducible refine e_bin ?_ | with_reducible refine e_neg ?_ | with_reducible refine e_not ?_ | with_reducible refine e_and ?_ | with_reducible refine e_or ?_ | with_reducible refine e_ite ?_ | with_reducible refine e_cmp ?_ | with_reducible refine e_chain ?_ | with_reducible refine e_tup ?_ | with_reducible refine e_new ?_ | with_reducible refine e_idx ?_ | with_reducible refine e_slc ?_ | with_reducible refine e_rev ?_ | with_reducible refine e_callc ?_ | with_reducible refine e_bi ?_ | with_reducible refine e_isi ?_ | with_reducible refine e_li ?_ | with_reducible refine e_join ?_ | with_reducible refine e_me ?_ | with_reducible refine es_nil ?_ | with_reducible refine es_cons ?_ | with_reducible refine o_none ?_ | with_reducible refine o_some ?_ | with_reducible refine t_not' ?_ | with_reducible refine t_and' ?_ | with_reducible refine t_or' ?_ | with_reducible refine t_cmp' ?_ | with_reducible refine t_isi' ?_ | with_reducible refine t_callc ?_ | with_reducible refine b_add ?_ | with_reducible refine b_sub ?_ | ((with_reducible apply i_tup); rfl) | with_reducible refine n_tup ?_ | with_reducible refine n_int ?_ | with_reducible refine n_intb ?_ | with_reducible refine l_ex ?_ | with_reducible refine l_lst ?_ | with_reducible refine l_comp ?_ | with_reducible refine r_sq ?_ | with_reducible refine r_rng ?_ | with_reducible refine r_enm ?_ | with_reducible refine r_zp ?_ | with_reducible refine ls_nil ?_ | with_reducible refine ls_cons ?_ | with_reducible refine if_nil ?_ | with_reducible refine if_one ?_ | with_reducible refine q_tup ?_ | with_reducible refine a_name ?_ | with_reducible refine a_tup ?_ | with_reducible refine as_nil ?_ | with_reducible refine as_cons ?_ | with_reducible refine c_le ?_ | with_reducible refine c_lt ?_ | with_reducible refine c_ge ?_ | with_reducible refine c_gt ?_ | with_reducible refine c_eq ?_ | with_reducible refine c_ne ?_ | with_reducible refine f_tup ?_ | with_reducible refine f_len ?_ | with_reducible refine p_forS ?_ | ((with_reducible apply y_is); rfl) | with_reducible refine u_bl ?_ | with_reducible refine u_int ?_ | ((with_reducible apply ite_t); rfl) | ((with_reducible apply ite_f); rfl) | with_reducible refine c_is ?_ | with_reducible refine c_isnot ?_)
  refine i_lst O2.ha b2 (b_mul (mul_small (small_of (by omega) (by omega)) (small_of kb kk)) ?_)
  repeat (first | with_reducible refine p_cons ?_ | with_reducible refine p_nil ?_ | with_reducible refine p_name ?_ | with_reducible refine p_set ?_ | with_reducible refine p_ret ?_ | with_reducible refine p_ex ?_ | with_reducible refine p_if ?_ | with_reducible refine p_sub ?_ | with_reducible refine p_par ?_ | ((with_reducible apply e_var); rfl) | with_reducible refine e_int ?_ | with_reducible refine e_str ?_ | with_reducible refine e_bl ?_ | with_reducible refine e_non ?_ | ((with_reducible apply e_glob); rfl) | with_reducible refine e_bin ?_ | with_reducible refine e_neg ?_ | with_reducible refine e_not ?_ | with_reducible refine e_and ?_ | with_reducible refine e_or ?_ | with_reducible refine e_ite ?_ | with_reducible refine e_cmp ?_ | with_reducible refine e_chain ?_ | with_reducible refine e_tup ?_ | with_reducible refine e_new ?_ | with_reducible refine e_idx ?_ | with_reducible refine e_slc ?_ | with_reducible refine e_rev ?_ | with_reducible refine e_callc ?_ | with_reducible refine e_bi ?_ | with_reducible refine e_isi ?_ | with_reducible refine e_li ?_ | with_reducible refine e_join ?_ | with_reducible refine e_me ?_ | with_reducible refine es_nil ?_ | with_reducible refine es_cons ?_ | with_reducible refine o_none ?_ | with_reducible refine o_some ?_ | with_reducible refine t_not' ?_ | with_reducible refine t_and' ?_ | with_reducible refine t_or' ?_ | with_reducible refine t_cmp' ?_ | with_reducible refine t_isi' ?_ | with_reducible refine t_callc ?_ | with_reducible refine b_add ?_ | with_reducible refine b_sub ?_ | ((with_reducible apply i_tup); rfl) | with_reducible refine n_tup ?_ | with_reducible refine n_int ?_ | with_reducible refine n_intb ?_ | with_reducible refine l_ex ?_ | with_reducible refine l_lst ?_ | with_reducible refine l_comp ?_ | with_reducible refine r_sq ?_ | with_reducible refine r_rng ?_ | with_reducible refine r_enm ?_ | with_reducible refine r_zp ?_ | with_reducible refine ls_nil ?_ | with_reducible refine ls_cons ?_ | with_reducible refine if_nil ?_ | with_reducible refine if_one ?_ | with_reducible refine q_tup ?_ | with_reducible refine a_name ?_ | with_reducible refine a_tup ?_ | with_reducible refine as_nil ?_ | with_reducible refine as_cons ?_ | with_reducible refine c_le ?_ | with_reducible refine c_lt ?_ | with_reducible refine c_ge ?_ | with_reducible refine c_gt ?_ | with_reducible refine c_eq ?_ | with_reducible refine c_ne ?_ | with_reducible refine f_tup ?_ | with_reducible refine f_len ?_ | with_reducible refine p_forS ?_ | ((with_reducible apply y_is); rfl) | with_reducible refine u_bl ?_ | with_reducible refine u_int ?_ | ((with_reducible apply ite_t); rfl) | ((with_reducible apply ite_f); rfl) | with_reducible refine c_is ?_ | with_reducible refine c_isnot ?_)
  generalize y * (48271 + 69621 * (k + 1)) + 40692 * (k + 1) * (k + 1) + 11 = z
  repeat (first | with_reducible refine p_cons ?_ | with_reducible refine p_nil ?_ | with_reducible refine p_name ?_ | with_reducible refine p_set ?_ | with_reducible refine p_ret ?_ | with_reducible refine p_ex ?_ | with_reducible refine p_if ?_ | with_reducible refine p_sub ?_ | with_reducible refine p_par ?_ | ((with_reducible apply e_var); rfl) | with_reducible refine e_int ?_ | with_reducible refine e_str ?_ | with_reducible refine e_bl ?_ | with_reducible refine e_non ?_ | ((with_reducible apply e_glob); rfl) | with_reducible refine e_bin ?_ | with_reducible refine e_neg ?_ | with_reducible refine e_not ?_ | with_reducible refine e_and ?_ | with_reducible refine e_or ?_ | with_reducible refine e_ite ?_ | with_reducible refine e_cmp ?_ | with_reducible refine e_chain ?_ | with_reducible refine e_tup ?_ | with_reducible refine e_new ?_ | with_reducible refine e_idx ?_ | with_reducible refine e_slc ?_ | with_reducible refine e_rev ?_ | with_reducible refine e_callc ?_ | with_reducible refine e_bi ?_ | with_reducible refine e_isi ?_ | with_reducible refine e_li ?_ | with_reducible refine e_join ?_ | with_reducible refine e_me ?_ | with_reducible refine es_nil ?_ | with_reducible refine es_cons ?_ | with_reducible refine o_none ?_ | with_reducible refine o_some ?_ | with_reducible refine t_not' ?_ | with_reducible refine t_and' ?_ | with_reducible refine t_or' ?_ | with_reducible refine t_cmp' ?_ | with_reducible refine t_isi' ?_ | with_reducible refine t_callc ?_ | with_reducible refine b_add ?_ | with_reducible refine b_sub ?_ | ((with_reducible apply i_tup); rfl) | with_reducible refine n_tup ?_ | with_reducible refine n_int ?_ | with_reducible refine n_intb ?_ | with_reducible refine l_ex ?_ | with_reducible refine l_lst ?_ | with_reducible refine l_comp ?_ | with_reducible refine r_sq ?_ | with_reducible refine r_rng ?_ | with_reducible refine r_enm ?_ | with_reducible refine r_zp ?_ | with_reducible refine ls_nil ?_ | with_reducible refine ls_cons ?_ | with_reducible refine if_nil ?_ | with_reducible refine if_one ?_ | with_reducible refine q_tup ?_ | with_reducible refine a_name ?_ | with_reducible refine a_tup ?_ | with_reducible refine as_nil ?_ | with_reducible refine as_cons ?_ | with_reducible refine c_le ?_ | with_reducible refine c_lt ?_ | with_reducible refine c_ge ?_ | with_reducible refine c_gt ?_ | with_reducible refine c_eq ?_ | with_reducible refine c_ne ?_ | with_reducible refine f_tup ?_ | with_reducible refine f_len ?_ | with_reducible refine p_forS ?_ | ((with_reducible apply y_is); rfl) | with_reducible refine u_bl ?_ | with_reducible refine u_int ?_ | ((with_reducible apply ite_t); rfl) | ((with_reducible apply ite_f); rfl) | with_reducible refine c_is ?_ | with_reducible refine c_isnot ?_)
  refine b_mod (by decide) ?_
  have z0 := Int.emod_nonneg z (show (2147483629 : Int) ≠ 0 by decide)
  have z1 := Int.emod_lt_of_pos z (show (0 : Int) < 2147483629 by decide)
  generalize z % 2147483629 = q at z0 z1
  repeat (first | with_reducible refine p_cons ?_ | with_reducible refine p_nil ?_ | with_reducible refine p_name ?_ | with_reducible refine p_set ?_ | with_reducible refine p_ret ?_ | with_reducible refine p_ex ?_ | with_reducible refine p_if ?_ | with_reducible refine p_sub ?_ | with_reducible refine p_par ?_ | ((with_reducible apply e_var); rfl) | with_reducible refine e_int ?_ | with_reducible refine e_str ?_ | with_reducible refine e_bl ?_ | with_reducible refine e_non ?_ | ((with_reducible apply e_glob); rfl) | with_reducible refine e_bin ?_ | with_reducible refine e_neg ?_ | with_reducible refine e_not ?_ | with_reducible refine e_and ?_ | with_reducible refine e_or ?_ | with_reducible refine e_ite ?_ | with_reducible refine e_cmp ?_ | with_reducible refine e_chain ?_ | with_reducible refine e_tup ?_ | with_reducible refine e_new ?_ | with_reducible refine e_idx ?_ | with_reducible refine e_slc ?_ | with_reducible refine e_rev ?_ | with_reducible refine e_callc ?_ | with_reducible refine e_bi ?_ | with_reducible refine e_isi ?_ | with_reducible refine e_li ?_ | with_reducible refine e_join ?_ | with_reducible refine e_me ?_ | with_reducible refine es_nil ?_ | with_reducible refine es_cons ?_ | with_reducible refine o_none ?_ | with_reducible refine o_some ?_ | with_reducible refine t_not' ?_ | with_reducible refine t_and' ?_ | with_reducible refine t_or' ?_ | with_reducible refine t_cmp' ?_ | with_reducible refine t_isi' ?_ | with_reducible refine t_callc ?_ | with_reducible refine b_add ?_ | with_reducible refine b_sub ?_ | ((with_reducible apply i_tup); rfl) | with_reducible refine n_tup ?_ | with_reducible refine n_int ?_ | with_reducible refine n_intb ?_ | with_reducible refine l_ex ?_ | with_reducible refine l_lst ?_ | with_reducible refine l_comp ?_ | with_reducible refine r_sq ?_ | with_reducible refine r_rng ?_ | with_reducible refine r_enm ?_ | with_reducible refine r_zp ?_ | with_reducible refine ls_nil ?_ | with_reducible refine ls_cons ?_ | with_reducible refine if_nil ?_ | with_reducible refine if_one ?_ | with_reducible refine q_tup ?_ | with_reducible refine a_name ?_ | with_reducible refine a_tup ?_ | with_reducible refine as_nil ?_ | with_reducible refine as_cons ?_ | with_reducible refine c_le ?_ | with_reducible refine c_lt ?_ | with_reducible refine c_ge ?_ | with_reducible refine c_gt ?_ | with_reducible refine c_eq ?_ | with_reducible refine c_ne ?_ | with_reducible refine f_tup ?_ | with_reducible refine f_len ?_ | with_reducible refine p_forS ?_ | ((with_reducible apply y_is); rfl) | with_reducible refine u_bl ?_ | with_reducible refine u_int ?_ | ((with_reducible apply ite_t); rfl) | ((with_reducible apply ite_f); rfl) | with_reducible refine c_is ?_ | with_reducible refine c_isnot ?_)
  refine b_mul (mul_small (small_of z0 (by omega)) (small_of z0 (by omega))) ?_
  repeat (first | with_reducible refine p_cons ?_ | with_reducible refine p_nil ?_ | with_reducible refine p_name ?_ | with_reducible refine p_set ?_ | with_reducible refine p_ret ?_ | with_reducible refine p_ex ?_ | with_reducible refine p_if ?_ | with_reducible refine p_sub ?_ | with_reducible refine p_par ?_ | ((with_reducible apply e_var); rfl) | with_reducible refine e_int ?_ | with_reducible refine e_str ?_ | with_reducible refine e_bl ?_ | with_reducible refine e_non ?_ | ((with_reducible apply e_glob); rfl) | with_reducible refine e_bin ?_ | with_reducible refine e_neg ?_ | with_reducible refine e_not ?_ | with_reducible refine e_and ?_ | with_reducible refine e_or ?_ | with_reducible refine e_ite ?_ | with_reducible refine e_cmp ?_ | with_reducible refine e_chain ?_ | with_reducible refine e_tup ?_ | with_reducible refine e_new ?_ | with_reducible refine e_idx ?_ | with_reducible refine e_slc ?_ | with_reducible refine e_rev ?_ | with_reducible refine e_callc ?_ | with_reducible refine e_bi ?_ | with_reducible refine e_isi ?_ | with_reducible refine e_li ?_ | with_reducible refine e_join ?_ | with_reducible refine e_me ?_ | with_reducible refine es_nil ?_ | with_reducible refine es_cons ?_ | with_reducible refine o_none ?_ | with_reducible refine o_some ?_ | with_reducible refine t_not' ?_ | with_reducible refine t_and' ?_ | with_reducible refine t_or' ?_ | with_reducible refine t_cmp' ?_ | with_reducible refine t_isi' ?_ | with_reducible refine t_callc ?_ | with_reducible refine b_add ?_ | with_reducible refine b_sub ?_ | ((with_reducible apply i_tup); rfl) | with_reducible refine n_tup ?_ | with_reducible refine n_int ?_ | with_reducible refine n_intb ?_ | with_reducible refine l_ex ?_ | with_reducible refine l_lst ?_ | with_reducible refine l_comp ?_ | with_reducible refine r_sq ?_ | with_reducible refine r_rng ?_ | with_reducible refine r_enm ?_ | with_reducible refine r_zp ?_ | with_reducible refine ls_nil ?_ | with_reducible refine ls_cons ?_ | with_reducible refine if_nil ?_ | with_reducible refine if_one ?_ | with_reducible refine q_tup ?_ | with_reducible refine a_name ?_ | with_reducible refine a_tup ?_ | with_reducible refine as_nil ?_ | with_reducible refine as_cons ?_ | with_reducible refine c_le ?_ | with_reducible refine c_lt ?_ | with_reducible refine c_ge ?_ | with_reducible refine c_gt ?_ | with_reducible refine c_eq ?_ | with_reducible refine c_ne ?_ | with_reducible refine f_tup ?_ | with_reducible refine f_len ?_ | with_reducible refine p_forS ?_ | ((with_reducible apply y_is); rfl) | with_reducible refine u_bl ?_ | with_reducible refine u_int ?_ | ((with_reducible apply ite_t); rfl) | ((with_reducible apply ite_f); rfl) | with_reducible refine c_is ?_ | with_reducible refine c_isnot ?_)
  refine b_mod (by decide) ?_
  repeat (first | with_reducible refine p_cons ?_ | with_reducible refine p_nil ?_ | with_reducible refine p_name ?_ | with_reducible refine p_set ?_ | with_reducible refine p_ret ?_ | with_reducible refine p_ex ?_ | with_reducible refine p_if ?_ | with_reducible refine p_sub ?_ | with_reducible refine p_par ?_ | ((with_reducible apply e_var); rfl) | with_reducible refine e_int ?_ | with_reducible refine e_str ?_ | with_reducible refine e_bl ?_ | with_reducible refine e_non ?_ | ((with_reducible apply e_glob); rfl) | with_reducible refine e_bin ?_ | with_reducible refine e_neg ?_ | with_reducible refine e_not ?_ | with_reducible refine e_and ?_ | with_reducible refine e_or ?_ | with_reducible refine e_ite ?_ | with_reducible refine e_cmp ?_ | with_reducible refine e_chain ?_ | with_reducible refine e_tup ?_ | with_reducible refine e_new ?_ | with_reducible refine e_idx ?_ | with_reducible refine e_slc ?_ | with_reducible refine e_rev ?_ | with_reducible refine e_callc ?_ | with_reducible refine e_bi ?_ | with_reducible refine e_isi ?_ | with_reducible refine e_li ?_ | with_reducible refine e_join ?_ | with_reducible refine e_me ?_ | with_reducible refine es_nil ?_ | with_reducible refine es_cons ?_ | with_reducible refine o_none ?_ | with_reducible refine o_some ?_ | with_reducible refine t_not' ?_ | with_reducible refine t_and' ?_ | with_reducible refine t_or' ?_ | with_reducible refine t_cmp' ?_ | with_reducible refine t_isi' ?_ | with_reducible refine t_callc ?_ | with_reducible refine b_add ?_ | with_reducible refine b_sub ?_ | ((with_reducible apply i_tup); rfl) | with_reducible refine n_tup ?_ | with_reducible refine n_int ?_ | with_reducible refine n_intb ?_ | with_reducible refine l_ex ?_ | with_reducible refine l_lst ?_ | with_reducible refine l_comp ?_ | with_reducible refine r_sq ?_ | with_reducible refine r_rng ?_ | with_reducible refine r_enm ?_ | with_reducible refine r_zp ?_ | with_reducible refine ls_nil ?_ | with_reducible refine ls_cons ?_ | with_reducible refine if_nil ?_ | with_reducible refine if_one ?_ | with_reducible refine q_tup ?_ | with_reducible refine a_name ?_ | with_reducible refine a_tup ?_ | with_reducible refine as_nil ?_ | with_reducible refine as_cons ?_ | with_reducible refine c_le ?_ | with_reducible refine c_lt ?_ | with_reducible refine c_ge ?_ | with_reducible refine c_gt ?_ | with_reducible refine c_eq ?_ | with_reducible refine c_ne ?_ | with_reducible refine f_tup ?_ | with_reducible refine f_len ?_ | with_reducible refine p_forS ?_ | ((with_reducible apply y_is); rfl) | with_reducible refine u_bl ?_ | with_reducible refine u_int ?_ | ((with_reducible apply ite_t); rfl) | ((with_reducible apply ite_f); rfl) | with_reducible refine c_is ?_ | with_reducible refine c_isnot ?_)
  refine b_div ⟨by decide, by decide⟩ ?_
  repeat (first | with_reducible refine p_cons ?_ | with_reducible refine p_nil ?_ | with_reducible refine p_name ?_ | with_reducible refine p_set ?_ | with_reducible refine p_ret ?_ | with_reducible refine p_ex ?_ | with_reducible refine p_if ?_ | with_reducible refine p_sub ?_ | with_reducible refine p_par ?_ | ((with_reducible apply e_var); rfl) | with_reducible refine e_int ?_ | with_reducible refine e_str ?_ | with_reducible refine e_bl ?_ | with_reducible refine e_non ?_ | ((with_reducible apply e_glob); rfl) | with_reducible refine e_bin ?_ | with_reducible refine e_neg ?_ | with_reducible refine e_not ?_ | with_reducible refine e_and ?_ | with_reducible refine e_or ?_ | with_reducible refine e_ite ?_ | with_reducible refine e_cmp ?_ | with_reducible refine e_chain ?_ | with_reducible refine e_tup ?_ | with_reducible refine e_new ?_ | with_reducible refine e_idx ?_ | with_reducible refine e_slc ?_ | with_reducible refine e_rev ?_ | with_reducible refine e_callc ?_ | with_reducible refine e_bi ?_ | with_reducible refine e_isi ?_ | with_reducible refine e_li ?_ | with_reducible refine e_join ?_ | with_reducible refine e_me ?_ | with_reducible refine es_nil ?_ | with_reducible refine es_cons ?_ | with_reducible refine o_none ?_ | with_reducible refine o_some ?_ | with_reducible refine t_not' ?_ | with_reducible refine t_and' ?_ | with_reducible refine t_or' ?_ | with_reducible refine t_cmp' ?_ | with_reducible refine t_isi' ?_ | with_reducible refine t_callc ?_ | with_reducible refine b_add ?_ | with_reducible refine b_sub ?_ | ((with_reducible apply i_tup); rfl) | with_reducible refine n_tup ?_ | with_reducible refine n_int ?_ | with_reducible refine n_intb ?_ | with_reducible refine l_ex ?_ | with_reducible refine l_lst ?_ | with_reducible refine l_comp ?_ | with_reducible refine r_sq ?_ | with_reducible refine r_rng ?_ | with_reducible refine r_enm ?_ | with_reducible refine r_zp ?_ | with_reducible refine ls_nil ?_ | with_reducible refine ls_cons ?_ | with_reducible refine if_nil ?_ | with_reducible refine if_one ?_ | with_reducible refine q_tup ?_ | with_reducible refine a_name ?_ | with_reducible refine a_tup ?_ | with_reducible refine as_nil ?_ | with_reducible refine as_cons ?_ | with_reducible refine c_le ?_ | with_reducible refine c_lt ?_ | with_reducible refine c_ge ?_ | with_reducible refine c_gt ?_ | with_reducible refine c_eq ?_ | with_reducible refine c_ne ?_ | with_reducible refine f_tup ?_ | with_reducible refine f_len ?_ | with_reducible refine p_forS ?_ | ((with_reducible apply y_is); rfl) | with_reducible refine u_bl ?_ | with_reducible refine u_int ?_ | ((with_reducible apply ite_t); rfl) | ((with_reducible apply ite_f); rfl) | with_reducible refine c_is ?_ | with_reducible refine c_isnot ?_)
  refine b_mod (by omega) ?_
  exact h _ _ [] (k + 1) (Int.emod_nonneg _ (by omega)) (Int.emod_lt_of_pos _ (by omega)) (by omega) (Int.le_refl _) (fun _ h => by cases h) O2 hr2
end Mo

set_option Elab.async false
set_option linter.all false
set_option maxRecDepth 100000
set_option autoImplicit false
namespace Mo
open PySem PyProof.Rows
open L2 (Inv EP TP AP SP RelV Vals OpR UnR CallR VK R2 PE PT PW PA PO PS PSs Gl Vis Loc It Turn TI PI PG PGs TG TGs PTs Ends FnScope Room Env0 CE)

abbrev CX0 : L2.CXT := fun _ _ _ _ _ _ => False
abbrev XK0 : L2.XK := fun _ _ _ => False
abbrev cx (P : Program) (w : World) (K : PySem.W.Frag) (mg : Str → Option Value) (base : Heap) (N : List Str) (qual : Str) (scope : Scope) (f : Addr) (cdv : Value) (A : Around) (outer : List PySem.Env) (s : Shared) (H : L2.Hp) : L2.Cx :=
  L2.cxOf CX0 P w K mg base N qual scope f cdv A outer s H XK0
/-- a def by its body: its promise needs what stands around (guards) too -/
theorem fnG_of {P : Program} {w : World} {K : PySem.W.Frag} {mg : Str → Option Value} {base : Heap} {k : Nat} {f : Addr} {fd : FuncData} {x qual : Str} {params : Arguments} {body : List Stmt} {scope : Scope} {N ps : List Str} {sp : List L2.V → L2.Hp → VK → Prop}
    (Fd : L2.FunD K x qual params body scope [] [] f fd) (S : FnScope N ps scope) (hb : ∀ (s : Shared) (us : List Value), us.length = ps.length → BindsTo s fd ⟨us, []⟩ (ps.zip us)) (len : ∀ vs H Q, sp vs H Q → vs.length = ps.length)
    (hbody : ∀ (cdv : Value) (A : Around) (outer : List PySem.Env) (s : Shared) (H : L2.Hp) (vs : List L2.V) (Q : VK), Room k (A.deeper (envOfC qual scope s.heap.objs.size f cdv)) → A.guards = some [] → sp vs H Q →
      ∃ t, PSs (cx P w K mg base N qual scope f cdv A outer s H) body t ∧ t { nx := fun _ H' => Q .non H', rt := Q } (L2.start N vs) H) : FnG P w K mg base (k + 1) f sp := by
  refine ⟨Fd.kp, fun A outer s H us vs Q hr hg e0 r hsp => ?_⟩
  obtain ⟨oc, od, dV, kV, doc, pm, an, cdv, ct, osl, rfl, lk, hcd, _, _⟩ := Fd.ex
  have hl := len _ _ _ hsp
  have KX : K.In s.heap := e0.mod.kin.keeps fun b o e => (e0.bs b o e).1
  have lim : s.heap.NoLimit := e0.mod.nolimit.keeps fun b o e => (e0.bs b o e).1
  have hkind : ∀ y ∈ ps.zip us, scope.names.lookup y.1 = some .local ∨ (scope.names.lookup y.1 = some .cell ∧ ((cellsFrom (s.heap.objs.size + 1) scope.names []).lookup y.1).isSome = true) := fun ⟨n, v⟩ hy => by
    rcases S.par n (List.of_mem_zip hy).1 with q | q
    · exact .inl q
    · exact .inr ⟨q, PySem.W.cellsFrom_some _ _ _ (.inl q)⟩
  refine codeAny_call_function hr.depth (KX _ _ lk) rfl S.co S.gen rfl (PySem.W.codeRec_of KX hcd) (hb s us (by rw [← r.length]; exact hl) _ _ _ _ ?_)
  refine wpAny_newFunctionEnv_cells S.kind hkind fun env he s1 z => ?_
  subst he
  refine ⟨lim.keeps z.toInCall.keep, codeAny_func ?_⟩
  obtain ⟨t, ht, hq⟩ := hbody cdv A outer s H vs Q (hr.deeper _) hg hsp
  have I : Inv (cx P w K mg base N qual scope f cdv A outer s H) [] (L2.start N vs) H s1 := L2.inv_start S hr.hd e0 hl r z
  refine wpAny_mono (ht.run [] s1 (L2.start N vs) H _ I hq) (fun fl s' hs => ?_) fun e s' hs => wpAny_mono hs (fun _ _ z => z.elim) fun _ _ z => z.elim
  have fin : ∀ {σ' : L2.St} {H' : L2.Hp} {v : L2.V} {u : Value}, Inv (cx P w K mg base N qual scope f cdv A outer s H) [] σ' H' s' → RelV v u → Q v H' → CE outer P w H s Q u s' :=
    fun {σ' H' v u} J rv q => ⟨v, H', J.os, J.bare, J.base, J.hok, rv, q⟩
  cases fl with
  | ret u =>
    obtain ⟨v, σ', H', J, rv, q⟩ := hs
    exact ⟨u, rfl, fin J rv q⟩
  | next =>
    obtain ⟨σ', H', J, q⟩ := hs
    exact ⟨_, rfl, fin (v := L2.V.non) (u := Value.none) J rfl q⟩
  | brk =>
    obtain ⟨_, _, _, q⟩ := hs
    exact False.elim q
  | cont =>
    obtain ⟨_, _, _, q⟩ := hs
    exact False.elim q

structure Df where
  d : He.DefD
  N : List Str
  ps : List Str
  fn : Fn
structure Good (g : SE) (df : Df) : Prop where
  at_ : df.d.at_.2 = none
  fs : FnScope df.N df.ps df.d.scope
  bd : ∀ (kV doc pm : Value) (an : Option Addr) (cdv ct : Value) (us : List Value), us.length = df.ps.length → bindArgs (PySem.W.fnOf df.d.name df.d.qual df.d.params df.d.body df.d.scope .none kV doc pm an cdv ct) ⟨us, []⟩ = pure (df.ps.zip us)
  df0 : df.d.dfl = [] ∧ df.d.kwd = []
  code : match df.fn with
    | .code np nl body => np = df.ps.length ∧ nl = df.N.length ∧ stripSs g df.N df.d.scope 200 df.d.body = some body
    | .mk => df.ps.length = 1 ∧ df.N.length = 4 ∧ stripSs g df.N df.d.scope 200 df.d.body = some mkB
    | .next => df.ps.length = 2 ∧ df.N.length = 5 ∧ stripSs g df.N df.d.scope 200 df.d.body = some nextB
def faOf (K : PySem.W.Frag) (dfs : List Df) : Nat → Addr := fun i => match dfs[i]? with
  | some df => He.fAd K df.d.at_
  | none => 0
structure Wired (K : PySem.W.Frag) (mg : Str → Option Value) (dfs : List Df) (g : SE) (Γ : Pg) : Prop where
  fnsN : g.fns = dfs.map fun df => df.d.at_.1
  fnsG : Γ.fns = dfs.map (·.fn)
  at_ : ∀ (i : Nat) (df : Df), dfs[i]? = some df → mg df.d.at_.1 = some (.ref (He.fAd K df.d.at_)) ∧ (∃ fd, L2.FunD K df.d.name df.d.qual df.d.params df.d.body df.d.scope [] [] (He.fAd K df.d.at_) fd) ∧ Good g df
  cons : ∀ (i : Nat) (x : Str) (t : T), g.cons[i]? = some x → Γ.glob[i]? = some t → ∃ u v, mg x = some u ∧ RelV v u ∧ RepV ⟨K, faOf K dfs⟩ (fun _ => none) t v
  blt : ∀ x, g.blt.contains x = true → mg x = none
  rp : Γ.rp = rpT
  few : dfs.length ≤ 1000000
def lvl (K : PySem.W.Frag) (dfs : List Df) (P : Program) (w : World) (mg : Str → Option Value) (base : Heap) (g : SE) (Γ : Pg) (k : Nat) : Lv :=
  ⟨⟨K, faOf K dfs⟩, P, w, mg, base, g, ⟨wpCall Γ k, Γ.fns.length, fun i => Γ.glob[i]?, Γ.rp⟩, ccOf (cTab Γ.fns k), k⟩
theorem body_ok {V : Lv} (ok : V.Ok) {N ps : List Str} {scope : Scope} (fs : FnScope N ps scope) {qual : Str} {f : Addr} {cdv : Value} {A : Around} {outer : List PySem.Env} {s : Shared} {H : L2.Hp} (hr : Room V.lev (A.deeper (envOfC qual scope s.heap.objs.size f cdv))) (hg : A.guards = some [])
    {n : Nat} {body : List Stmt} {ms : List Sm} (hs : stripSs V.g N scope n body = some ms) : PSs (cx V.P V.w V.D.K V.mg V.base N qual scope f cdv A outer s H) body (LSs V ms) := by
  have G : GX V (cx V.P V.w V.D.K V.mg V.base N qual scope f cdv A outer s H) N scope := ⟨rfl, rfl, rfl, rfl, rfl, rfl, fs.nd, rfl, fs.kind, rfl, hg, hr, ok⟩
  have gt : GT (cx V.P V.w V.D.K V.mg V.base N qual scope f cdv A outer s H) scope := fun x hx => ⟨isL_of hx, .inl rfl⟩
  exact (ss_all G gt PassesOwn.leaving n).2 body ms hs
theorem start_rep {D : Wd} {F : L2.Hp} {ts : List T} {vs : List L2.V} {N : List Str} (r : RepVs D F ts vs) : EnvR D F (Mo.start N.length ts) (L2.start N vs) := by
  have hl := r.length
  refine ⟨by unfold Mo.start L2.start; simp [hl], fun i t e => ?_⟩
  unfold Mo.start at e
  by_cases hi : i < ts.length
  · rw [List.getElem?_append_left (by simpa using hi), List.getElem?_map] at e
    obtain ⟨u, hu, hu2⟩ := Option.map_eq_some_iff.mp e
    cases hu2
    obtain ⟨v, hv, rv⟩ := r.get hu
    refine ⟨v, ?_, rv⟩
    unfold L2.start
    rw [List.getElem?_append_left (by rw [List.length_map, ← hl]; exact hi), List.getElem?_map, hv]
    rfl
  · rw [List.getElem?_append_right (by simpa using hi), List.getElem?_replicate] at e
    split at e <;> cases e
theorem foldl_max (l : List Nat) : ∀ (m : Nat), m ≤ l.foldl max m ∧ ∀ x ∈ l, x ≤ l.foldl max m := by
  induction l with
  | nil => intro m; exact ⟨Nat.le_refl _, fun _ h => by cases h⟩
  | cons y l ih =>
    intro m
    rw [List.foldl_cons]
    obtain ⟨h1, h2⟩ := ih (max m y)
    refine ⟨by omega, fun x hx => ?_⟩
    rcases List.mem_cons.mp hx with rfl | hx
    · omega
    · exact h2 x hx
theorem ccOf_le {t : List Nat} (hl : t.length ≤ 1000000) (i : Nat) : ccOf t i ≤ ccOf t 1000000 := by
  have e : ccOf t 1000000 = t.foldl max 0 := by unfold ccOf; rw [List.getElem?_eq_none hl]
  rw [e]
  unfold ccOf
  split
  · rename_i c hc
    exact (foldl_max t 0).2 c (List.mem_of_getElem? hc)
  · exact Nat.le_refl _
theorem cTab_len (fs : List Fn) : ∀ k, (cTab fs k).length ≤ fs.length
  | 0 => Nat.zero_le _
  | k + 1 => by simp [cTab]
theorem noEx : (fun (x : Ex) (s : St) => ∃ s2, Sub s2 s ∧ noE x s2) = noE := by
  funext x s
  exact propext ⟨fun ⟨_, _, h⟩ => h, fun h => h.elim⟩
theorem cost_mk (cc : Nat → Nat) : cSs cc mkB = 0 := by simp [mkB, cSs, cS, cE, cEs, cL, cR]
theorem cost_next (cc : Nat → Nat) : cSs cc nextB = 0 := by simp [nextB, cSs, cS, cE, cEs, cL, cR]
theorem big_small : (BIG : Int) + 1 ≤ BK2 := by unfold BIG BK2; decide +kernel
section
variable {K : PySem.W.Frag} {mg : Str → Option Value} {dfs : List Df} {g : SE} {Γ : Pg} {P : Program} {W0 : World} {base : Heap}
theorem mk_ok {D : Wd} {k : Nat} {V : Lv} (ok : V.Ok) {B : Nat} {F H : L2.Hp} {st : St} {R : TK} {Q : VK} {vs : List L2.V} {N : List Str} (hN : N.length = 4) (r : RepVs V.D F [.scr] vs) (sm : Sim V.D B H F st) (hb : B ≤ BIG) (nd : ∀ b, st b ≠ some .deck) (w : ∀ p, st p = none → R (.ref p) (upd st p .deck)) (en : End V.D B F R Q) :
    LSs V mkB { nx := fun _ H' => Q .non H', rt := Q } (L2.start N vs) H := by
  have sr := start_rep (N := N) r
  rw [hN] at sr
  refine ⟨_, st, B, F, { nx := fun _ _ => False, rt := fun v st' => ∃ (p b c : Addr) (ns ms : List Int), v = .ref p ∧ st p = none ∧ st b = none ∧ st c = none ∧ b ≠ c ∧ b ≠ p ∧ c ≠ p ∧ (ms ≠ [] ∧ ns.length ≤ 1000) ∧ (∀ n ∈ ns, 0 ≤ n) ∧ (∀ m ∈ ms, 0 ≤ m) ∧ Sub st st' ∧ st' p = some (.lst [.ref b, .ref c, .int 0]) ∧ st' b = some (.lst (ns.map .int)) ∧ st' c = some (.lst (ms.map .int)), ex := noE }, sr, sm, by rw [cost_mk]; exact hb,
    mk_wp nd fun p b c st' ns ms h1 h2 h3 h4 h5 h6 h7 h8 h9 h10 h11 h12 h13 => ⟨p, b, c, ns, ms, rfl, h1, h2, h3, h4, h5, h6, h7, h8, h9, h10, h11, h12, h13⟩, rfl, fun _ _ z => z.elim, fun t st' wt v H' F' f sm' rv => ?_⟩
  obtain ⟨p, b, c, ns, ms, rfl, h1, h2, h3, h4, h5, h6, h7, h8, h9, h10, h11, h12, h13⟩ := wt
  rw [cost_mk] at sm'
  exact en _ _ (w p h1) v H' F' f (sm'.toDeck h11 h12 h13 h4 h7 (Int.le_refl _) (by omega) h8 h9 h10 h2 h3 nd h5 h6) rv
theorem next_ok {V : Lv} (ok : V.Ok) {B : Nat} {F H : L2.Hp} {st : St} {R : TK} {Q : VK} {vs : List L2.V} {N : List Str} {a : Nat} {m : Int} (hN : N.length = 5) (r : RepVs V.D F [.ref a, .int m] vs) (sm : Sim V.D B H F st) (hb : B + 1 ≤ BIG) (hd : st a = some .deck) (m1 : 1 ≤ m) (m2 : m < 2 ^ 1000)
    (w : ∀ r, 0 ≤ r → r < m → R (.int r) st) (en : End V.D (B + 1) F R Q) :
    LSs V nextB { nx := fun _ H' => Q .non H', rt := Q } (L2.start N vs) H := by
  have sr := start_rep (N := N) r
  rw [hN] at sr
  obtain ⟨b, c, k, ns, ms, s1, bc, hm, k0, kB, n0, m0, sb, sc⟩ := sm.ofDeck hd
  have ab : a ≠ b := fun z => by rw [z, sb] at hd; cases hd
  have ac : a ≠ c := fun z => by rw [z, sc] at hd; cases hd
  have O : Open a b c k ns ms (upd (upd (upd st a (.lst [.ref b, .ref c, .int k])) b (.lst (ns.map .int))) c (.lst (ms.map .int))) :=
    ⟨by rw [upd_ne ac, upd_ne ab, upd_same], by rw [upd_ne bc, upd_same], upd_same _ _ _, ab, ac, bc, hm.2⟩
  have kk : k + 1 ≤ BK2 := by have := big_small; omega
  have hst : ∀ x, x ≠ a → x ≠ b → x ≠ c → ∀ o, st x = some o → (upd (upd (upd st a (.lst [.ref b, .ref c, .int k])) b (.lst (ns.map .int))) c (.lst (ms.map .int))) x = some o := fun x x1 x2 x3 o h => by
    rw [upd_ne x3, upd_ne x2, upd_ne x1]; exact h
  generalize upd (upd (upd st a (.lst [.ref b, .ref c, .int k])) b (.lst (ns.map .int))) c (.lst (ms.map .int)) = st1 at s1 O hst
  refine ⟨_, st1, B, F, { nx := fun _ _ => False, rt := fun v st' => ∃ (r : Int) (ns' : List Int) (k' : Int), v = .int r ∧ 0 ≤ r ∧ r < m ∧ k ≤ k' ∧ k' ≤ k + 1 ∧ (∀ n ∈ ns', 0 ≤ n) ∧ Open a b c k' ns' ms st' ∧ Rest a b c st1 st', ex := noE }, sr, s1, by rw [cost_next]; omega,
    next_wp m1 m2 k0 kk hm.1 n0 m0 O fun r st' ns' k' h1 h2 h3 h4 h5 h6 h7 => ⟨r, ns', k', rfl, h1, h2, h3, h4, h5, h6, h7⟩, rfl, fun _ _ z => z.elim, fun t st' wt v H' F' f sm' rv => ?_⟩
  obtain ⟨r, ns', k', rfl, h1, h2, h3, h4, h5, h6, h7⟩ := wt
  rw [cost_next] at sm'
  have e : upd (fun x => if x = a then none else st x) a .deck = st := by
    funext x
    unfold upd
    by_cases hx : x = a
    · rw [if_pos hx, hx, hd]
    · rw [if_neg hx]
      show (if x = a then none else st x) = st x
      rw [if_neg hx]
  have q := (sm'.more (B' := B + 1) (by omega)).toDeck (st0 := fun x => if x = a then none else st x) h6.ha h6.hb h6.hc bc ⟨hm.1, h6.hl⟩ (by omega) (by omega) h5 m0 (fun x o hx => ?_) ?_ ?_ (fun x hx => ?_) (Ne.symm ab) (Ne.symm ac)
  · rw [e] at q
    exact en _ _ (w r h1 h2) v H' F' f q rv
  · have hx : (if x = a then none else st x) = some o := hx
    by_cases xa : x = a
    · rw [if_pos xa] at hx; cases hx
    · rw [if_neg xa] at hx
      have xb : x ≠ b := fun z => by rw [z, sb] at hx; cases hx
      have xc : x ≠ c := fun z => by rw [z, sc] at hx; cases hx
      exact h7 x xa xb xc o (hst x xa xb xc o hx)
  · show (if b = a then none else st b) = none
    rw [if_neg (Ne.symm ab)]; exact sb
  · show (if c = a then none else st c) = none
    rw [if_neg (Ne.symm ac)]; exact sc
  · have hx : (if x = a then none else st x) = some .deck := hx
    by_cases xa : x = a
    · rw [if_pos xa] at hx; cases hx
    · rw [if_neg xa] at hx; exact xa (sm.dk x a hx hd)
theorem lvl_ok (Wi : Wired K mg dfs g Γ) : ∀ k, (lvl K dfs P W0 mg base g Γ k).Ok := by
  have base_ok : ∀ k, (∀ i df, dfs[i]? = some df → FnG P W0 K mg base k (He.fAd K df.d.at_) (spG ⟨K, faOf K dfs⟩ (ccOf (cTab Γ.fns k) i) (wpCall Γ k i))) → (lvl K dfs P W0 mg base g Γ k).Ok := by
    intro k hf
    refine ⟨fun i x hx => ?_, ?_, fun i x t h1 h2 => Wi.cons i x t h1 h2, fun x hx => Wi.blt x hx, Wi.rp⟩
    · have hx : g.fns[i]? = some x := hx
      rw [Wi.fnsN, List.getElem?_map] at hx
      obtain ⟨df, hdf, rfl⟩ := Option.map_eq_some_iff.mp hx
      obtain ⟨h1, h2, h3⟩ := Wi.at_ i df hdf
      have efa : faOf K dfs i = He.fAd K df.d.at_ := by unfold faOf; rw [hdf]
      refine ⟨by show mg _ = some (.ref (faOf K dfs i)); rw [efa]; exact h1, ?_, ccOf_le (Nat.le_trans (cTab_len _ _) (by rw [Wi.fnsG, List.length_map]; exact Wi.few)) i⟩
      show FnG P W0 K mg base k (faOf K dfs i) _
      rw [efa]
      exact hf i df hdf
    · show Γ.fns.length = g.fns.length
      rw [Wi.fnsG, Wi.fnsN, List.length_map, List.length_map]
  intro k
  induction k with
  | zero =>
    refine base_ok 0 fun i df hdf => ?_
    obtain ⟨h1, ⟨fd, h2⟩, h3⟩ := Wi.at_ i df hdf
    refine ⟨h2.kp, fun A outer s H us vs Q _ _ _ _ hs => ?_⟩
    obtain ⟨ts, st, B, F, R, _, _, _, w, _⟩ := hs
    exact w.elim
  | succ k ih =>
    refine base_ok (k + 1) fun i df hdf => ?_
    obtain ⟨h1, ⟨fd, h2⟩, h3⟩ := Wi.at_ i df hdf
    have hfn : Γ.fns[i]? = some df.fn := by rw [Wi.fnsG, List.getElem?_map, hdf]; rfl
    have hcc : ccOf (cTab Γ.fns (k + 1)) i = cFn (ccOf (cTab Γ.fns k)) df.fn := by
      have e : (cTab Γ.fns (k + 1))[i]? = some (cFn (ccOf (cTab Γ.fns k)) df.fn) := by
        show (Γ.fns.map (cFn (ccOf (cTab Γ.fns k))))[i]? = _
        rw [List.getElem?_map, hfn]
        rfl
      show (match (cTab Γ.fns (k + 1))[i]? with | some c => c | none => _) = _
      rw [e]
    rw [hcc]
    have code := h3.code
    refine fnG_of h2 h3.fs (fun s us hl => h2.bindsA h3.bd s us hl) (fun vs H Q hs => ?_) fun cdv A outer s H vs Q hr hg hs => ?_
    · obtain ⟨ts, st, B, F, R, r, _, _, w, _⟩ := hs
      rw [← r.length]
      simp only [wpCall, hfn] at w
      cases hf : df.fn with
      | code np nl body =>
        rw [hf] at w code
        exact w.1.trans code.1
      | mk =>
        rw [hf] at w code
        rw [w.1, code.1]; rfl
      | next =>
        rw [hf] at w code
        obtain ⟨a, m, w, _⟩ := w
        rw [w, code.1]; rfl
    · obtain ⟨ts, st, B, F, R, r, sm, hb, w, en⟩ := hs
      simp only [wpCall, hfn] at w
      cases hf : df.fn with
      | code np nl body =>
        rw [hf] at w code hb en
        obtain ⟨c1, c2, c3⟩ := code
        refine ⟨LSs (lvl K dfs P W0 mg base g Γ k) body, body_ok (V := lvl K dfs P W0 mg base g Γ k) ih h3.fs hr hg c3, ?_⟩
        have sr := start_rep (N := df.N) r
        rw [← c2] at sr
        refine ⟨_, st, B, F, _, sr, sm, hb, w.2, noEx, fun env' st' w' σ' H' F' f s' r' => ?_, fun t st' w' v H' F' f s' r' => ?_⟩
        · obtain ⟨s2, sub, w'⟩ := w'
          exact en .non s2 w' .non H' F' f (s'.sub sub) rfl
        · obtain ⟨s2, sub, w'⟩ := w'
          exact en t s2 w' v H' F' f (s'.sub sub) r'
      | mk =>
        rw [hf] at w code hb en
        obtain ⟨c1, c2, c3⟩ := code
        obtain ⟨rfl, w1, w2⟩ := w
        exact ⟨_, body_ok (V := lvl K dfs P W0 mg base g Γ k) ih h3.fs hr hg c3, mk_ok (D := ⟨K, faOf K dfs⟩) (k := k) ih c2 r sm hb w1 w2 en⟩
      | next =>
        rw [hf] at w code hb en
        obtain ⟨c1, c2, c3⟩ := code
        obtain ⟨a, m, rfl, w1, w2, w3, w4⟩ := w
        exact ⟨_, body_ok (V := lvl K dfs P W0 mg base g Γ k) ih h3.fs hr hg c3, next_ok ih c2 r sm hb w1 w2 w3 w4 en⟩
end
end Mo

set_option Elab.async false
set_option linter.all false
set_option maxRecDepth 100000
set_option autoImplicit false
namespace Mo
open PySem PyProof.Rows
open L2 (RelV Vals VK Room Env0 CE Only)
/-- the law's own call, from the outermost caller -/
theorem law_callG {P : Program} {w : World} {K : PySem.W.Frag} {mg mb : Str → Option Value} {k : Nat} {fa a : Addr} {sp : List L2.V → L2.Hp → VK → Prop} {s₁ : Shared} {vs : List Value} {ns : List Int}
    (KX : K.In s₁.heap) (hns : s₁.heap.Ns mainGlobals mg) (hb : s₁.heap.Ns builtinsNs mb) (hbb : ∀ x : Str, x ≠ "__name__" → mb x = bootBuiltins x) (hlim : s₁.heap.NoLimit) (hg : s₁.gens = #[])
    (ha : s₁.heap.get? a = some { cls := .type "list", data := .seq vs.toArray }) (hi : IntsAre vs ns) (hl : ns.length ≤ sizeLine) (hr : Room k callerA)
    (F : ∀ base : Heap, K.In base → base.Ns mainGlobals mg → FnG P w K mg base k fa sp)
    (hsp : ∀ H : L2.Hp, Only H → L2.SqL K H a (ns.map L2.V.int) → sp [.ref a] H (fun v _ => v = .bl true)) :
    codeAny (model P w) callerA (.call (.ref fa) ⟨[.ref a], []⟩) (fun r s' => r = .ok (.ret (.bool true)) ∧ OldK s₁.heap s'.heap ∧ s'.os = s₁.os ∧ AllBare s'.gens) s₁ := by
  have rv := L2.vals_ints hi
  have core : ∀ H : L2.Hp, Only H → L2.SqL K H a (ns.map L2.V.int) → L2.HOk P w H s₁.heap → (∀ b, H b ≠ none → b = a) → (H a ≠ none → K.lookup a = none) →
      codeAny (model P w) callerA (.call (.ref fa) ⟨[.ref a], []⟩) (fun r s' => r = .ok (.ret (.bool true)) ∧ OldK s₁.heap s'.heap ∧ s'.os = s₁.os ∧ AllBare s'.gens) s₁ := by
    intro H hO hS hok hA hK
    have free : ∀ {b : Addr}, b ≠ a → H b = none := fun {b} hb => Classical.byContradiction fun z => hb (hA b z)
    have dictFree : ∀ {b : Addr} {o : Obj} {es : Array DictEntry} {ep : Nat}, s₁.heap.get? b = some o → o.data = .dict es ep → H b = none := fun {b o es ep} e d => free fun z => by
      subst z
      rw [ha] at e; cases e
      have d' : Data.seq vs.toArray _ = Data.dict es ep := d
      cases d'
    have ns' : ∀ {b : Addr} {m : Str → Option Value}, s₁.heap.Ns b m → (L2.hidT s₁.heap H).Ns b m := fun {b m} ⟨o, es, ep, e, d, r⟩ => ⟨o, es, ep, L2.hidT_get e (dictFree e d), d, r⟩
    have kb : K.In (L2.hidT s₁.heap H) := fun b o e => L2.hidT_get (KX b o e) (by
      by_cases z : b = a
      · subst z
        exact Classical.byContradiction fun q => by rw [hK q] at e; cases e
      · exact free z)
    have hM : L2.Mod K mg (L2.hidT s₁.heap H) := ⟨kb, ns' hns, ⟨mb, ns' hb, hbb⟩, let ⟨mc, h1, h2⟩ := hlim; ⟨mc, ns' h1, h2⟩⟩
    have e0 : Env0 P w K mg (L2.hidT s₁.heap H) callerA [] s₁ H := ⟨rfl, hM, fun b o e => L2.of_hidT e, Nat.le_of_eq (L2.hidT_size _ _), trivial, fun b hb => absurd (show b ∈ ([] : List Addr) from hb) (by simp), hok, .of_eq hg⟩
    refine codeAny_mono ((F _ kb (ns' hns)).run callerA [] s₁ H [.ref a] [.ref a] _ hr rfl e0 (.cons rfl .nil) (hsp H hO hS)) fun r s' h => ?_
    obtain ⟨u, rfl, v, H', os, bare, un, hok', r', q⟩ := h
    have q' : v = .bl true := q
    subst q'
    obtain rfl : u = Value.bool true := r'
    refine ⟨rfl, OldK.of_keep fun b o e => ?_, os, bare⟩
    cases q : H b with
    | none => exact un.keep b o e q (by intro z; exact absurd (show b ∈ ([] : List Addr) from z) (by simp)) (by simp)
    | some u =>
      rcases hO b with z | ⟨ob, xs, z⟩
      · rw [q] at z; cases z
      · have z2 := un.frzs b ob _ z
        obtain ⟨e1, _⟩ := hok b _ z
        obtain ⟨e2, _⟩ := hok' b _ z2
        rw [e] at e1; cases e1
        exact e2
  cases hk : K.lookup a with
  | some o =>
    have e := KX a o hk
    rw [ha] at e
    cases e
    exact core (fun _ => none) (fun _ => .inl rfl) (.inr ⟨_, vs.toArray, _, hk, rfl, rfl, rfl, by rw [List.size_toArray, hi.length]; exact hl, by simpa using rv⟩) (fun b u z => by have z' : (none : Option L2.HO) = some u := z; cases z') (fun b z => absurd rfl z) fun z => absurd rfl z
  | none =>
    refine core (fun b => if b = a then some (.frz { cls := .type "list", data := .seq vs.toArray } (.lst (ns.map L2.V.int))) else none) (fun b => ?_) (.inl (.inr ⟨{ cls := .type "list", data := .seq vs.toArray }, if_pos rfl⟩)) (fun b u z => ?_) (fun b z => ?_) fun _ => hk
    · by_cases hb : b = a
      · exact .inr ⟨_, _, if_pos hb⟩
      · exact .inl (if_neg hb)
    · by_cases hb : b = a
      · have z' := (if_pos hb).symm.trans z
        cases z'
        subst hb
        exact ⟨ha, by rw [List.length_map]; exact hl, vs, _, rv, ha⟩
      · have z' := (if_neg hb).symm.trans z
        cases z'
    · by_cases hb : b = a
      · exact hb
      · exact absurd (if_neg hb) z
theorem only_sqF {K : PySem.W.Frag} {H : L2.Hp} {a : Addr} {xs : List L2.V} (hO : Only H) (h : L2.SqL K H a xs) : SqF K H a xs := by
  rcases h with (h | h) | h
  · rcases hO a with z | ⟨o, ys, z⟩
    · rw [z] at h; cases h
    · rw [z] at h; cases h
  · exact .inl h
  · exact .inr h
/-- a law's end: what the law's def comes to by our own words -/
theorem walk_ofG {l : PySem.W.OpenLaw} {n k : Nat} {q : Program} {loose : List Str} {XP : (Str → Option Value) → Heap → Prop} {YP : World → Heap → Prop} {d : DefRec}
    (hn : l.most = some n) (hn2 : n ≤ 1000) (hdf : d.params.defaults = []) (hr : Room k callerA) {dfs : List Df} {g : SE} {Γ : Pg} {i : Nat} {df : Df} (hi : dfs[i]? = some df) (hname : df.d.at_.1 = d.name)
    (F : ∀ (w : World) (mg : Str → Option Value) (fa : Addr) (h : Heap), YP w h → h.Ns mainGlobals mg → mg d.name = some (.ref fa) → ∃ K : PySem.W.Frag, K.In h ∧ Wired K mg dfs g Γ)
    (hc : ccOf (cTab Γ.fns k) i ≤ 2 ^ 300000)
    (spec : wpCall Γ k i [.scr] (fun _ => none) noE fun v _ => v = .bl true) :
    PySem.W.WalkO q loose XP YP l.row.toRowW d [] (fun f vs => PySem.call f vs) := by
  refine Att.attach_call hn hdf fun w s₀ s₁ mg mb fa o pm cd doc a vs ns G Y ho hd hcd hmg hobj hints hlen hg => ?_
  obtain ⟨K, KX, Wi⟩ := F w mg fa _ Y G.T.g hmg
  obtain ⟨h1, ⟨fd, h2⟩, h3⟩ := Wi.at_ i df hi
  have efa : faOf K dfs i = fa := by
    have e1 : faOf K dfs i = He.fAd K df.d.at_ := by unfold faOf; rw [hi]
    rw [hname, hmg] at h1
    rw [e1]
    injection h1 with h1
    injection h1 with h1
    exact h1.symm
  refine law_callG (sp := spG ⟨K, faOf K dfs⟩ (ccOf (cTab Γ.fns k) i) (wpCall Γ k i)) KX G.T.g G.T.b G.T.builtins G.T.nolimit hg hobj hints (le_size (by omega)) hr (fun base _ _ => ?_) fun H hO hS => ?_
  · have ok := lvl_ok (P := l.prog) (W0 := w) (base := base) Wi k
    have hx : g.fns[i]? = some df.d.at_.1 := by rw [Wi.fnsN, List.getElem?_map, hi]; rfl
    have := (ok.fns i _ hx).2.1
    rw [← efa]
    exact this
  · refine ⟨[.scr], fun _ => none, 0, H, _, ⟨_, _, rfl, ⟨a, ns, rfl, only_sqF hO hS, by omega⟩, rfl⟩, ⟨fun _ _ e => e, fun _ _ e => (by cases e), fun _ _ e => (by cases e)⟩, ?_, spec, fun t st' wt v H' F' _ _ rv => ?_⟩
    · unfold BIG; omega
    · have wt : t = .bl true := wt
      subst wt
      exact rv
end Mo
namespace Mo
open PySem PyProof.Rows
/-- the head's facts -/
def fasOf (dfs : List Df) (g : SE) (more : List He.Fa) : List He.Fa := (dfs.map fun df => .glo df.d.at_.1) ++ (g.blt.map .free ++ more)
theorem wired_of {K : PySem.W.Frag} {h : Heap} {mg : Str → Option Value} {dfs : List Df} {g : SE} {Γ : Pg} {more : List He.Fa} (X : K.In h) (G : h.Ns mainGlobals mg) (c : He.SaysD (fasOf dfs g more) (dfs.map (·.d)) K)
    (hg : ∀ (i : Nat) (df : Df), dfs[i]? = some df → Good g df) (h1 : g.fns = dfs.map fun df => df.d.at_.1) (h2 : Γ.fns = dfs.map (·.fn)) (hr : Γ.rp = rpT) (few : dfs.length ≤ 1000000)
    (hc : ∀ (i : Nat) (x : Str) (t : T), g.cons[i]? = some x → Γ.glob[i]? = some t → ∃ u v, mg x = some u ∧ L2.RelV v u ∧ RepV ⟨K, faOf K dfs⟩ (fun _ => none) t v) : Wired K mg dfs g Γ := by
  have all : ∀ f ∈ fasOf dfs g more, He.Fa.ok K f = true := fun f hf => by
    obtain ⟨i, hi⟩ := List.getElem?_of_mem hf
    exact c.fact i hi
  refine ⟨h1, h2, fun i df hdf => ?_, hc, fun x hx => ?_, hr, few⟩
  · have gd := hg i df hdf
    refine ⟨?_, ?_, gd⟩
    · have e : He.fAd K df.d.at_ = He.ga K df.d.at_.1 := by
        unfold He.fAd
        rw [gd.at_]
      rw [e]
      exact He.glo_ok X G (all _ (List.mem_append_left _ (List.mem_map.mpr ⟨df, List.mem_of_getElem? hdf, rfl⟩)))
    · obtain ⟨fd, hF⟩ := c.def_ i (d := df.d) (by rw [List.getElem?_map, hdf]; rfl)
      have e1 : df.d.dvs K = [] := by unfold He.DefD.dvs; rw [gd.df0.1]; rfl
      have e2 : df.d.kws K = [] := by unfold He.DefD.kws; rw [gd.df0.2]; rfl
      rw [e1, e2] at hF
      exact ⟨fd, hF⟩
  · exact He.free_ok X G (all _ (List.mem_append_right _ (List.mem_append_left _ (List.mem_map.mpr ⟨x, by simpa using hx, rfl⟩))))
end Mo

set_option Elab.async false
set_option linter.all false
set_option maxRecDepth 100000
set_option autoImplicit false
namespace Mo
open PySem PyProof.Rows
/-- what a module's constant is -/
def cfa (c : Str × T) : He.Fa := match c.2 with
  | .int i => .int c.1 i
  | .str s => .str c.1 (cpsS s)
  | _ => .free c.1
def cok (t : T) : Bool := match t with
  | .int _ => true
  | .str _ => true
  | _ => false
theorem wired_ofC {K : PySem.W.Frag} {h : Heap} {mg : Str → Option Value} {dfs : List Df} {g : SE} {Γ : Pg} {cs : List (Str × T)} (X : K.In h) (G : h.Ns mainGlobals mg) (c : He.SaysD (fasOf dfs g (cs.map cfa)) (dfs.map (·.d)) K)
    (hg : ∀ (i : Nat) (df : Df), dfs[i]? = some df → Good g df) (h1 : g.fns = dfs.map fun df => df.d.at_.1) (h2 : Γ.fns = dfs.map (·.fn)) (hr : Γ.rp = rpT) (few : dfs.length ≤ 1000000)
    (hc : g.cons = cs.map (·.1)) (hc2 : Γ.glob = cs.map (·.2)) (ok : cs.all (fun q => cok q.2) = true) : Wired K mg dfs g Γ := by
  refine wired_of X G c hg h1 h2 hr few fun i x t hx ht => ?_
  rw [hc, List.getElem?_map] at hx
  rw [hc2, List.getElem?_map] at ht
  cases hq : cs[i]? with
  | none => rw [hq] at hx; cases hx
  | some q =>
    rw [hq] at hx ht
    cases hx
    cases ht
    have hm : q ∈ cs := List.mem_of_getElem? hq
    have f : He.Fa.ok K (cfa q) = true := by
      have : cfa q ∈ fasOf dfs g (cs.map cfa) := List.mem_append_right _ (List.mem_append_right _ (List.mem_map.mpr ⟨q, hm, rfl⟩))
      obtain ⟨j, hj⟩ := List.getElem?_of_mem this
      exact c.fact j hj
    have o := List.all_eq_true.mp ok q hm
    obtain ⟨x, t⟩ := q
    cases t <;> simp only [cok] at o <;> try (cases o; done)
    · rename_i i
      obtain ⟨t, e⟩ := He.int_ok X G f
      exact ⟨_, .int i, e, ⟨t, rfl⟩, rfl⟩
    · rename_i s
      obtain ⟨t, e⟩ := He.str_ok X G f
      exact ⟨_, .str (cpsS s), e, ⟨t, rfl⟩, rfl⟩
end Mo

set_option Elab.async false
set_option linter.all false
set_option maxRecDepth 100000
set_option autoImplicit false
namespace Mo
abbrev cxt (Γ : Pg) (k : Nat) : Cxt := ⟨wpCall Γ k, Γ.fns.length, fun i => Γ.glob[i]?, Γ.rp⟩
/-- a def by its body: what is wanted behind stays a variable -/
theorem call_code {Γ : Pg} {k f np nl : Nat} {body : List Sm} {vs : List T} {st : St} {E : EK} {Q : TK} (hf : Γ.fns[f]? = some (.code np nl body)) (hl : vs.length = np)
    (h : ∀ P : Po, (∀ e s, (∃ s2, Sub s2 s ∧ Q .non s2) → P.nx e s) → (∀ v s, (∃ s2, Sub s2 s ∧ Q v s2) → P.rt v s) → wpSs (cxt Γ k) body (start nl vs) st P) : wpCall Γ (k + 1) f vs st E Q := by
  simp only [wpCall, hf]
  exact ⟨hl, h _ (fun _ _ z => z) fun _ _ z => z⟩
theorem call_next {Γ : Pg} {k f a : Nat} {m : Int} {st : St} {E : EK} {Q : TK} (hf : Γ.fns[f]? = some .next) (hd : st a = some .deck) (m1 : 1 ≤ m) (m2 : m < 2 ^ 1000) (q : ∀ r, 0 ≤ r → r < m → Q (.int r) st) : wpCall Γ (k + 1) f [.ref a, .int m] st E Q := by
  simp only [wpCall, hf]
  exact ⟨a, m, rfl, hd, m1, m2, q⟩
theorem call_mk {Γ : Pg} {k f : Nat} {st : St} {E : EK} {Q : TK} (hf : Γ.fns[f]? = some .mk) (nd : ∀ b, st b ≠ some .deck) (q : ∀ p, st p = none → Q (.ref p) (upd st p .deck)) : wpCall Γ (k + 1) f [.scr] st E Q := by
  simp only [wpCall, hf]
  exact ⟨trivial, nd, q⟩
/-! calls by their number -/
section
variable {Γ : Pg} {k f : Nat} {env : Env} {st : St} {E : EK} {es : List X}
theorem e_callc {Q : TK} (h : wpEs (cxt Γ k) es env st E fun vs s1 => wpCall Γ k f vs s1 E Q) : wpE (cxt Γ k) (.call f es) env st E Q := by simp only [wpE]; exact h
theorem t_callc {Q : Bool → St → Prop} (h : wpEs (cxt Γ k) es env st E fun vs s1 => wpCall Γ k f vs s1 E fun x s1 => truSem x s1 fun t => Q t s1) : wpT (cxt Γ k) (.call f es) env st E Q := by simp only [wpT, wpE]; exact h
end
/-! sequences -/
section
variable {C : Cxt} {env : Env} {st : St} {E : EK} {es : List X} {e : X}
theorem l_ex {Q : LK} (h : wpE C e env st E fun v s1 => seqSem v s1 fun ts chk => ts.length ≤ SZ → Q ts chk s1) : wpL C (.ex e) env st E Q := by simp only [wpL]; exact h
theorem l_lst {Q : LK} (h : wpEs C es env st E fun vs s1 => Q vs (fun _ => True) s1) : wpL C (.lst es) env st E Q := by simp only [wpL]; exact h
theorem l_comp {Q : LK} {elt : X} {ifs : List X} {tg : Tg} {own : List Nat} {src : Sr} (h : wpR C src env st E fun ts chk s1 =>
      itl chk (fun x acc s k => asgT tg x s (wipe env own) fun e2 => wpIf C ifs e2 s fun b s2 =>
        if b = true then wpE C elt e2 s2 noE fun v s3 => acc.length < SZ ∧ k (acc ++ [v]) s3 else k acc s2) ts [] s1 fun acc s2 => Q acc (fun _ => True) s2) : wpL C (.comp elt ifs tg own src) env st E Q := by simp only [wpL]; exact h
theorem q_tup {ts : List T} {Q : List T → (St → Prop) → Prop} (h : Q ts fun _ => True) : seqSem (.tup ts) st Q := h
theorem q_ref {p : Nat} {ts : List T} {Q : List T → (St → Prop) → Prop} (e : st p = some (.lst ts)) (h : Q ts fun s => s p = some (.lst ts)) : seqSem (.ref p) st Q := ⟨ts, e, h⟩
theorem a_name {i : Nat} {v : T} {Q : Env → Prop} (h : Q (env.set i (some v))) : asgT (.name i) v st env Q := by simp only [asgT]; exact h
theorem a_tup {gs : List Tg} {ts : List T} {Q : Env → Prop} (h : asgTs gs ts st env Q) : asgT (.tup gs) (.tup ts) st env Q := by simp only [asgT]; exact h
theorem as_nil {Q : Env → Prop} (h : Q env) : asgTs [] [] st env Q := by simp only [asgTs]; exact h
theorem as_cons {g : Tg} {gs : List Tg} {t : T} {ts : List T} {Q : Env → Prop} (h : asgT g t st env fun e => asgTs gs ts st e Q) : asgTs (g :: gs) (t :: ts) st env Q := by simp only [asgTs]; exact h
theorem c_le {i j : Int} {Q : Bool → Prop} (h : Q (decide (i ≤ j))) : cmpSem .le (.int i) (.int j) st Q := h
theorem c_lt {i j : Int} {Q : Bool → Prop} (h : Q (decide (i < j))) : cmpSem .lt (.int i) (.int j) st Q := h
theorem c_ge {i j : Int} {Q : Bool → Prop} (h : Q (decide (j ≤ i))) : cmpSem .ge (.int i) (.int j) st Q := h
theorem c_gt {i j : Int} {Q : Bool → Prop} (h : Q (decide (j < i))) : cmpSem .gt (.int i) (.int j) st Q := h
theorem c_eq {i j : Int} {Q : Bool → Prop} (h : Q (i == j)) : cmpSem .eq (.int i) (.int j) st Q := ⟨_, _, .int i, .int j, rfl, rfl, h⟩
theorem c_ne {i j : Int} {Q : Bool → Prop} (h : Q (!(i == j))) : cmpSem .ne (.int i) (.int j) st Q := ⟨_, _, .int i, .int j, rfl, rfl, h⟩
theorem f_tup {ts : List T} {Q : TK} (h : Q (.tup ts) st) : liSem .tuple ts st Q := h
theorem f_len {ts : List T} {Q : TK} (h : Q (.int ts.length) st) : liSem .len ts st Q := h
theorem p_forS {P : Po} {g : Tg} {r : Sr} {aa : List Sm} (h : wpR C r env st P.ex fun ts chk s1 => itf chk (fun x e s k => asgT g x s e fun e2 => wpSs C aa e2 s { nx := k, rt := P.rt, ex := P.ex }) ts env s1 P.nx) : wpS C (.loop g r aa) env st P := p_for h
theorem r_sq {l : L} {Q : LK} (h : wpL C l env st E Q) : wpR C (.seq l) env st E Q := by simp only [wpR]; exact h
theorem r_rng {Q : LK} (h : wpEs C es env st E fun vs s1 => rangeSem vs fun ts => Q ts (fun _ => True) s1) : wpR C (.range es) env st E Q := by simp only [wpR]; exact h
theorem r_enm {l : L} {Q : LK} (h : wpL C l env st E fun ts chk s1 => Q (enumT ts) chk s1) : wpR C (.enum l) env st E Q := by simp only [wpR]; exact h
theorem r_zp {ls : List L} {Q : LK} (h : wpLs C ls env st E fun tss chk s1 => chk s1 ∧ Q (zipT tss) chk s1) : wpR C (.zip ls) env st E Q := by simp only [wpR]; exact h
theorem ls_nil {Q : List (List T) → (St → Prop) → St → Prop} (h : Q [] (fun _ => True) st) : wpLs C [] env st E Q := by simp only [wpLs]; exact h
theorem ls_cons {l : L} {ls : List L} {Q : List (List T) → (St → Prop) → St → Prop} (h : wpL C l env st E fun ts chk s1 => wpLs C ls env s1 E fun tss chk2 s2 => Q (ts :: tss) (fun s => chk s ∧ chk2 s) s2) : wpLs C (l :: ls) env st E Q := by simp only [wpLs]; exact h
theorem if_nil {Q : Bool → St → Prop} (h : Q true st) : wpIf C [] env st Q := by simp only [wpIf]; exact h
theorem if_one {Q : Bool → St → Prop} (h : wpT C e env st noE Q) : wpIf C [e] env st Q := by
  have e : (fun (t : Bool) (s1 : St) => if t = true then Q true s1 else Q false s1) = Q := by
    funext t s1
    cases t <;> simp
  simp only [wpIf]
  rw [e]
  exact h
/-! kinds, truths -/
def isiB (x : T) (ty : Ty) : Option Bool := match x with
  | .non => some false
  | .bl _ => some (match ty with | .int | .bool => true | _ => false)
  | .int _ => some (match ty with | .int => true | _ => false)
  | .str _ => some (match ty with | .str => true | _ => false)
  | .tup _ => some (match ty with | .tuple => true | _ => false)
  | _ => none
theorem y_is {x : T} {ty : Ty} {b : Bool} {Q : Bool → Prop} (e : isiB x ty = some b) (h : Q b) : isiSem x ty st Q := by
  cases x <;> simp [isiB] at e <;> (subst e; exact h)
theorem u_bl {b : Bool} {Q : Bool → Prop} (h : Q b) : truSem (.bl b) st Q := h
theorem u_int {j : Int} {Q : Bool → Prop} (h : Q (j != 0)) : truSem (.int j) st Q := h
theorem ite_t {b : Bool} {A B : Prop} (e : b = true) (h : A) : if b = true then A else B := by rw [if_pos e]; exact h
theorem ite_f {b : Bool} {A B : Prop} (e : b = false) (h : B) : if b = true then A else B := by rw [if_neg (by rw [e]; decide)]; exact h
theorem c_is {x : T} {Q : Bool → Prop} (h : Q (isNon x)) : cmpSem .is x .non st Q := ⟨rfl, h⟩
theorem c_isnot {x : T} {Q : Bool → Prop} (h : Q (!isNon x)) : cmpSem .isnot x .non st Q := ⟨rfl, h⟩
theorem eqT_refl : ∀ t : T, pureT t = true → eqT t t = true := by
  have both : ∀ n, (∀ t, depT t ≤ n → pureT t = true → eqT t t = true) ∧ ∀ ts, depTs ts ≤ n → pureTs ts = true → eqTs ts ts = true := by
    intro n
    induction n with
    | zero =>
      have h1 : ∀ t, depT t ≤ 0 → pureT t = true → eqT t t = true := fun t hd hp => by
        cases t <;> first | rfl | (simp [depT] at hd; done) | (simp [pureT] at hp; done) | simp [eqT]
      refine ⟨h1, fun ts => ?_⟩
      induction ts with
      | nil => intro _ _; rfl
      | cons t ts ih =>
        intro hd hp
        simp only [depTs] at hd
        simp only [pureTs, Bool.and_eq_true] at hp
        simp only [eqTs, h1 t (by omega) hp.1, ih (by omega) hp.2, Bool.and_self]
    | succ n ihn =>
      have h1 : ∀ t, depT t ≤ n + 1 → pureT t = true → eqT t t = true := fun t hd hp => by
        cases t with
        | tup ts =>
          simp only [depT] at hd
          simp only [pureT] at hp
          simp only [eqT]
          exact ihn.2 ts (by omega) hp
        | lst ts => simp [pureT] at hp
        | dct _ _ _ => simp [pureT] at hp
        | ref _ => simp [pureT] at hp
        | fn _ => simp [pureT] at hp
        | scr => simp [pureT] at hp
        | _ => simp [eqT]
      refine ⟨h1, fun ts => ?_⟩
      induction ts with
      | nil => intro _ _; rfl
      | cons t ts ih =>
        intro hd hp
        simp only [depTs] at hd
        simp only [pureTs, Bool.and_eq_true] at hp
        simp only [eqTs, h1 t (by omega) hp.1, ih (by omega) hp.2, Bool.and_self]
  exact fun t => (both _).1 t (Nat.le_refl _)
/-- a thing equals itself -/
theorem c_self {t : T} {Q : Bool → Prop} (hp : pureT t = true) (ok : okD t = true) (h : Q true) : cmpSem .eq t t st Q :=
  ⟨t, t, .pure st t hp, .pure st t hp, ok, ok, by rw [eqT_refl t hp]; exact h⟩
end
end Mo

set_option Elab.async false
set_option linter.all false
set_option maxRecDepth 100000
set_option autoImplicit false
/-! MoEv: runs told by values: lists are values, whoever changes one alone has it. -/
namespace Mo
open PySem PyProof.Rows

/-- what a run comes to: a value, a draw, something raised, or nothing told -/
inductive Tr (α : Type) where
  | ret (a : α)
  | draw (m : Int) (k : Int → Tr α)
  | exc (x : Ex)
  | fail
def drawOk (m : Int) : Prop := 1 ≤ m ∧ m < 2 ^ 1000
namespace Tr
variable {α β γ : Type}
def bind : Tr α → (α → Tr β) → Tr β
  | .ret a, f => f a
  | .draw m k, f => .draw m fun r => (k r).bind f
  | .exc x, _ => .exc x
  | .fail, _ => .fail
def all (E : Ex → Prop) (P : α → Prop) : Tr α → Prop
  | .ret a => P a
  | .draw m k => drawOk m ∧ ∀ r, 0 ≤ r → r < m → (k r).all E P
  | .exc x => E x
  | .fail => False
def noexc : Tr α → Tr α
  | .ret a => .ret a
  | .draw m k => .draw m fun r => (k r).noexc
  | .exc _ => .fail
  | .fail => .fail
def ofO : Option α → Tr α
  | some a => .ret a
  | none => .fail
end Tr
section
variable {α β γ : Type}
@[simp] theorem tr_ret (a : α) (f : α → Tr β) : (Tr.ret a).bind f = f a := rfl
@[simp] theorem tr_draw (m : Int) (k : Int → Tr α) (f : α → Tr β) : (Tr.draw m k).bind f = .draw m fun r => (k r).bind f := rfl
@[simp] theorem tr_exc (x : Ex) (f : α → Tr β) : (Tr.exc x : Tr α).bind f = .exc x := rfl
@[simp] theorem tr_fail (f : α → Tr β) : (Tr.fail : Tr α).bind f = .fail := rfl
@[simp] theorem tr_some (a : α) : Tr.ofO (some a) = .ret a := rfl
@[simp] theorem tr_none : Tr.ofO (none : Option α) = .fail := rfl
@[simp] theorem tr_noexc (a : α) : (Tr.ret a).noexc = .ret a := rfl
@[simp] theorem tr_noexcF : (Tr.fail : Tr α).noexc = .fail := rfl
@[simp] theorem tr_noexcD (m : Int) (k : Int → Tr α) : (Tr.draw m k).noexc = .draw m fun r => (k r).noexc := rfl
@[simp] theorem all_ret {E : Ex → Prop} {P : α → Prop} (a : α) : (Tr.ret a).all E P ↔ P a := Iff.rfl
@[simp] theorem all_draw {E : Ex → Prop} {P : α → Prop} (m : Int) (k : Int → Tr α) : (Tr.draw m k).all E P ↔ drawOk m ∧ ∀ r, 0 ≤ r → r < m → (k r).all E P := Iff.rfl
@[simp] theorem all_exc {E : Ex → Prop} {P : α → Prop} (x : Ex) : (Tr.exc x : Tr α).all E P ↔ E x := Iff.rfl
@[simp] theorem all_fail {E : Ex → Prop} {P : α → Prop} : (Tr.fail : Tr α).all E P ↔ False := Iff.rfl
theorem all_bind {E : Ex → Prop} {P : β → Prop} {f : α → Tr β} : ∀ t : Tr α, (t.bind f).all E P ↔ t.all E fun a => (f a).all E P
  | .ret _ => Iff.rfl
  | .draw m k => and_congr_right fun _ => forall_congr' fun r => forall_congr' fun _ => forall_congr' fun _ => all_bind (k r)
  | .exc _ => Iff.rfl
  | .fail => Iff.rfl
theorem all_mono {E : Ex → Prop} {P Q : α → Prop} (h : ∀ a, P a → Q a) : ∀ t : Tr α, t.all E P → t.all E Q
  | .ret a, p => h a p
  | .draw m k, p => ⟨p.1, fun r r0 r1 => all_mono h (k r) (p.2 r r0 r1)⟩
  | .exc _, p => p
  | .fail, p => p
theorem all_noexc {E : Ex → Prop} {P : α → Prop} : ∀ t : Tr α, t.noexc.all E P → t.all (fun _ => False) P
  | .ret a, p => p
  | .draw m k, p => ⟨p.1, fun r r0 r1 => all_noexc (k r) (p.2 r r0 r1)⟩
  | .exc _, p => p
  | .fail, p => p
theorem bind_assoc {f : α → Tr β} {g : β → Tr γ} : ∀ t : Tr α, (t.bind f).bind g = t.bind fun a => (f a).bind g
  | .ret _ => rfl
  | .draw m k => by simp only [Tr.bind, bind_assoc]
  | .exc _ => rfl
  | .fail => rfl
theorem all_ofO {E : Ex → Prop} {P : α → Prop} {o : Option α} (h : (Tr.ofO o).all E P) : ∃ a, o = some a ∧ P a := by
  cases o with
  | none => exact h.elim
  | some a => exact ⟨a, rfl, h⟩
end

/-! values -/
def MB : Nat := 2 ^ 2000
def mulOk (i j : Int) : Prop := i.natAbs < MB ∧ j.natAbs < MB
instance (i j : Int) : Decidable (mulOk i j) := inferInstanceAs (Decidable (_ ∧ _))
def divOk (j : Int) : Prop := 0 < j ∧ j < 2 ^ 1000
instance (j : Int) : Decidable (divOk j) := inferInstanceAs (Decidable (_ ∧ _))
def strOk (s : Sg) : Prop := s.all (fun c => decide (c < 1114112)) = true ∧ s.length ≤ SZ
instance (s : Sg) : Decidable (strOk s) := inferInstanceAs (Decidable (_ ∧ _))
def okE (d : T) : Bool := decide (depT d ≤ 60) && isD d
def okEs (ds : List T) : Bool := decide (depTs ds ≤ 60) && isDs ds
mutual
/-- its texts are texts -/
def strsT : T → Bool
  | .str s => decide (strOk s)
  | .tup ts => strsTs ts
  | _ => true
def strsTs : List T → Bool
  | [] => true
  | t :: ts => strsT t && strsTs ts
end

def binD (o : Op) (x y : T) : Option T :=
  match o, x, y with
  | .add, .int i, .int j => some (.int (i + j))
  | .sub, .int i, .int j => some (.int (i - j))
  | .mul, .int i, .int j => if mulOk i j then some (.int (i * j)) else none
  | .fdiv, .int i, .int j => if divOk j then some (.int (i / j)) else none
  | .mod, .int i, .int j => if 0 < j then some (.int (i % j)) else none
  | .pow, .int i, .int j => if 0 ≤ j ∧ j ≤ 1000 ∧ i.natAbs < 2 ^ 64 then some (.int (i ^ j.toNat)) else none
  | .add, .str a, .str b => if a.length + b.length ≤ SZ then some (.str (a ++ b)) else none
  | .add, .tup a, .tup b => if a.length + b.length ≤ SZ then some (.tup (a ++ b)) else none
  | .add, .lst a, .lst b => if a.length + b.length ≤ SZ then some (.lst (a ++ b)) else none
  | .mul, .tup a, .int j => if a.isEmpty = false ∧ 1 ≤ j ∧ j ≤ 1000 ∧ a.length ≤ 1000 then some (.tup (rep j.toNat a)) else none
  | .mul, .lst a, .int j => if 0 ≤ j ∧ j ≤ 1000 ∧ a.length ≤ 1000 then some (.lst (rep j.toNat a)) else none
  | _, _, _ => none
def truD : T → Option Bool
  | .non => some false
  | .bl b => some b
  | .int i => some (i != 0)
  | .str s => some (!s.isEmpty)
  | .tup ts => some (!ts.isEmpty)
  | .lst ts => some (!ts.isEmpty)
  | _ => none
def eqD (x y : T) : Option Bool :=
  match x, y with
  | .int i, .int j => some (i == j)
  | .str a, .str b => some (a == b)
  | .bl a, .bl b => some (a == b)
  | x, y => if okE x = true ∧ okE y = true then some (eqT x y) else none
def lookD (k : T) : List T → List T → Option T
  | q :: ks, v :: vs => if eqT q k then some v else lookD k ks vs
  | _, _ => none
/-- put a value at a key: the keys, the values -/
def putKs (k : T) (ks : List T) : List T := if (ks.any fun q => eqT q k) = true then ks else ks ++ [k]
def putVs (k v : T) (ks vs : List T) : List T := if (ks.any fun q => eqT q k) = true then List.zipWith (fun q w => if eqT q k = true then v else w) ks vs else vs ++ [v]
def inD (x y : T) : Option Bool :=
  match y with
  | .tup ts => if okE x = true ∧ okEs ts = true then some (ts.any fun e => eqT e x) else none
  | .lst ts => if okE x = true ∧ okEs ts = true then some (ts.any fun e => eqT e x) else none
  | .dct b ks vs => if keyOk b x = true then some (lookD x ks vs).isSome else none
  | .str s => match x with
    | .str [c] => some (decide (c ∈ s))
    | _ => none
  | _ => none
def ltD (x y : T) : Option Bool :=
  match x, y with
  | .int i, .int j => some (decide (i < j))
  | .str i, .str j => some (decide (i < j))
  | .tup a, .tup b => if (pureTs a = true ∧ pureTs b = true) ∧ alks a b = true ∧ depTs a ≤ 60 ∧ depTs b ≤ 60 then some (ltTs a b) else none
  | _, _ => none
def leD (x y : T) : Option Bool :=
  match x, y with
  | .int i, .int j => some (decide (i ≤ j))
  | .str i, .str j => some (!decide (j < i))
  | _, _ => none
def gtD (x y : T) : Option Bool :=
  match x, y with
  | .int i, .int j => some (decide (j < i))
  | _, _ => none
def geD (x y : T) : Option Bool :=
  match x, y with
  | .int i, .int j => some (decide (j ≤ i))
  | _, _ => none
def cmpD (o : Co) (x y : T) : Option Bool :=
  match o with
  | .eq => eqD x y
  | .ne => (eqD x y).map (!·)
  | .lt => ltD x y
  | .gt => gtD x y
  | .le => leD x y
  | .ge => geD x y
  | .is => match y with
    | .non => some (isNon x)
    | _ => none
  | .isnot => match y with
    | .non => some (!isNon x)
    | _ => none
  | .isin => inD x y
  | .notin => (inD x y).map (!·)
def idxD (x i : T) : Option T :=
  match x, i with
  | .tup ts, .int k => atT ts k
  | .str s, .int k => (atT s k).map fun c => .str [c]
  | .lst ts, .int k => atT ts k
  | .dct b ks vs, k => if keyOk b k = true then lookD k ks vs else none
  | _, _ => none
def slcD (x : T) (lo hi : Option Int) : Option T :=
  match x with
  | .tup ts => some (.tup (cutT ts lo hi))
  | .str s => some (.str (cutT s lo hi))
  | .lst ts => some (.lst (cutT ts lo hi))
  | _ => none
def revD : T → Option T
  | .tup ts => some (.tup ts.reverse)
  | .lst ts => some (.lst ts.reverse)
  | _ => none
def isiD (x : T) (ty : Ty) : Option Bool :=
  match x with
  | .non => some false
  | .bl _ => some (match ty with | .int | .bool => true | _ => false)
  | .int _ => some (match ty with | .int => true | _ => false)
  | .str _ => some (match ty with | .str => true | _ => false)
  | .tup _ => some (match ty with | .tuple => true | _ => false)
  | .lst _ => some false
  | _ => none
def lenD : T → Option Nat
  | .str s => some s.length
  | .tup ts => some ts.length
  | .lst ts => some ts.length
  | _ => none
def biD (rp : T → Sg) (f : Bi) (vs : List T) : Option T :=
  match f, vs with
  | .len, [x] => (lenD x).map fun n : Nat => .int (n : Int)
  | .abs, [.int i] => some (.int (if i < 0 then -i else i))
  | .int, [.int i] => some (.int i)
  | .int, [.bl b] => some (.int (if b then 1 else 0))
  | .repr, [x] => if okE x = true ∧ smlT x = true ∧ szT x ≤ SZ then some (.str (rp x)) else none
  | .max2, [.int i, .int j] => some (.int (if j > i then j else i))
  | .min2, [.int i, .int j] => some (.int (if j < i then j else i))
  | .divmod, [.int i, .int j] => if 0 < j ∧ j < 1073741824 then some (.tup [.int (i / j), .int (i % j)]) else none
  | _, _ => none
def intsOf : List T → Option (List Int)
  | [] => some []
  | .int i :: r => (intsOf r).map (i :: ·)
  | _ => none
def blsOf : List T → Option (List Bool)
  | [] => some []
  | .bl i :: r => (blsOf r).map (i :: ·)
  | _ => none
def strsOf : List T → Option (List Sg)
  | [] => some []
  | .str i :: r => (strsOf r).map (i :: ·)
  | _ => none
def maxI : List Int → Option Int
  | [] => none
  | n :: ns => some (ns.foldl max n)
def minI : List Int → Option Int
  | [] => none
  | n :: ns => some (ns.foldl min n)
def liD (f : Li) (ts : List T) : Option T :=
  match f with
  | .tuple => some (.tup ts)
  | .list => some (.lst ts)
  | .sum => (intsOf ts).map fun ns => .int ns.sum
  | .all => (blsOf ts).map fun bs => .bl (bs.all id)
  | .any => (blsOf ts).map fun bs => .bl (bs.any id)
  | .len => some (.int ts.length)
  | .max => (intsOf ts).bind fun ns => (maxI ns).map .int
  | .min => (intsOf ts).bind fun ns => (minI ns).map .int
  | .dict => none
def joinD (x : T) (ts : List T) : Option T :=
  match x with
  | .str sep => (strsOf ts).bind fun ss => if (ss.map (·.length)).sum + ss.length * sep.length ≤ SZ then some (.str (List.intercalate sep ss)) else none
  | _ => none
def isDct : T → Bool
  | .dct _ _ _ => true
  | _ => false
def get2D (o : T) (vs : List T) : Option T :=
  match o, vs with
  | .dct b ks ws, [k, d] => if keyOk b k = true then some ((lookD k ks ws).getD d) else none
  | _, _ => none
def seqD : T → Option (List T)
  | .tup ts => some ts
  | .lst ts => some ts
  | _ => none
def srtD (ts : List T) : Option (List T) := if (pureTs ts = true ∧ depTs ts ≤ 60) ∧ (ts.all fun x => ts.all fun y => alk x y) = true ∧ (ts.all isTup1 = true ∨ ts.all noTup = true) then some (msort ts) else none
abbrev DE := List (Option T)
mutual
def asgD : Tg → T → DE → Option DE
  | .name i, v, env => some (env.set i (some v))
  | .tup gs, v, env => match v with
    | .tup ts => asgDs gs ts env
    | .lst ts => asgDs gs ts env
    | _ => none
def asgDs : List Tg → List T → DE → Option DE
  | [], [], env => some env
  | g :: gs, t :: ts, env => match asgD g t env with
    | some e => asgDs gs ts e
    | none => none
  | _, _, _ => none
end
def rangeD (vs : List T) : Option (List T) :=
  match vs with
  | [.int n] => if -1000000 ≤ n ∧ n ≤ 16777216 then some (rangeT 0 n) else none
  | [.int m, .int n] => if -1000000 ≤ m ∧ m ≤ 16777216 ∧ -1000000 ≤ n ∧ n ≤ 16777216 ∧ n - m ≤ 16777216 then some (rangeT m n) else none
  | _ => none
def zipD (tss : List (List T)) : Option (List T) :=
  match tss with
  | [_, _] => some (zipT tss)
  | [_, _, _] => some (zipT tss)
  | _ => none

def intD : T → Option Int
  | .int i => some i
  | _ => none
def strD : T → Option Sg
  | .str i => some i
  | _ => none
def lstD : T → Option (List T)
  | .lst i => some i
  | .dct true ks _ => some ks
  | _ => none
def pairT (k v : T) : T := .tup [k, v]
def itmD : T → Option (List T)
  | .dct true ks vs => some (List.zipWith pairT ks vs)
  | _ => none
/-! expressions -/
structure Ec where
  call : Nat → List T → Tr (Bool × T)
  nf : Nat
  glob : Nat → Option T
  rp : T → Sg
def consO : Option T → List T → List T
  | some y, ys => y :: ys
  | none, ys => ys
/-- a comprehension's things, one by one -/
def evCo (f : T → Tr (Option T)) : List T → Tr (List T)
  | [] => .ret []
  | x :: xs => (f x).bind fun o => (evCo f xs).bind fun ys => .ret (consO o ys)
mutual
def evE (C : Ec) : X → DE → Tr T
  | .var i, env => Tr.ofO (env.getD i none)
  | .int i, _ => .ret (.int i)
  | .str s, _ => if strOk s then .ret (.str s) else .fail
  | .bl b, _ => .ret (.bl b)
  | .non, _ => .ret .non
  | .glob i, _ => match C.glob i with
    | some v => if pureT v = true ∧ strsT v = true then .ret v else .fail
    | none => .fail
  | .fnv i, _ => .ret (.fn i)
  | .bin o a b, env => (evE C a env).bind fun x => (evE C b env).bind fun y => Tr.ofO (binD o x y)
  | .neg a, env => (evE C a env).bind fun x => (Tr.ofO (intD x)).bind fun i => .ret (.int (-i))
  | .not a, env => (evE C a env).bind fun x => (Tr.ofO (truD x)).bind fun b => .ret (.bl (!b))
  | .and a b, env => (evE C a env).bind fun x => (Tr.ofO (truD x)).bind fun t => if t = true then evE C b env else .ret x
  | .or a b, env => (evE C a env).bind fun x => (Tr.ofO (truD x)).bind fun t => if t = true then .ret x else evE C b env
  | .ite c a b, env => (evT C c env).bind fun t => if t = true then evE C a env else evE C b env
  | .cmp o a b, env => (evE C a env).bind fun x => (evE C b env).bind fun y => (Tr.ofO (cmpD o x y)).bind fun t => .ret (.bl t)
  | .chain o p a b c, env => (evE C a env).bind fun x => (evE C b env).bind fun y => (Tr.ofO (cmpD o x y)).bind fun t =>
      if t = true then (evE C c env).bind fun z => (Tr.ofO (cmpD p y z)).bind fun u => .ret (.bl u) else .ret (.bl false)
  | .tup es, env => (evEs C es env).bind fun vs => .ret (.tup vs)
  | .new l, env => (evL C l env).bind fun ts => .ret (.lst ts)
  | .idx a i, env => (evE C a env).bind fun x => (evE C i env).bind fun y => Tr.ofO (idxD x y)
  | .slc a lo hi, env => (evE C a env).bind fun x => (evO C lo env).bind fun l => (evO C hi env).bind fun h => Tr.ofO (slcD x l h)
  | .rev a, env => (evE C a env).bind fun x => Tr.ofO (revD x)
  | .call f es, env => (evEs C es env).bind fun vs => (C.call f vs).bind fun r => .ret r.2
  | .callv i es, env => match env.getD i none with
    | some (.fn f) => if f < C.nf then (evEs C es env).bind fun vs => (C.call f vs).bind fun r => .ret r.2 else .fail
    | _ => .fail
  | .bi f es, env => (evEs C es env).bind fun vs => Tr.ofO (biD C.rp f vs)
  | .isi a ty, env => (evE C a env).bind fun x => (Tr.ofO (isiD x ty)).bind fun b => .ret (.bl b)
  | .li f l, env => (evL C l env).bind fun ts => Tr.ofO (liD f ts)
  | .join a l, env => (evE C a env).bind fun x => (Tr.ofO (strD x)).bind fun sep => (evL C l env).bind fun ts => Tr.ofO (joinD (.str sep) ts)
  | .me m o es, env => match m with
    | .get2 => (evE C o env).bind fun x => if isDct x = true then (evEs C es env).bind fun vs => Tr.ofO (get2D x vs) else .fail
    | _ => .fail
  | .dct _, _ => .fail
  | .dnew _, _ => .fail
def evT (C : Ec) : X → DE → Tr Bool
  | .not a, env => (evT C a env).bind fun t => .ret (!t)
  | .and a b, env => (evT C a env).bind fun t => if t = true then evT C b env else .ret false
  | .or a b, env => (evT C a env).bind fun t => if t = true then .ret true else evT C b env
  | .ite c a b, env => (evT C c env).bind fun t => if t = true then evT C a env else evT C b env
  | e, env => (evE C e env).bind fun x => Tr.ofO (truD x)
def evEs (C : Ec) : List X → DE → Tr (List T)
  | [], _ => .ret []
  | e :: es, env => (evE C e env).bind fun v => (evEs C es env).bind fun vs => .ret (v :: vs)
def evO (C : Ec) : Option X → DE → Tr (Option Int)
  | none, _ => .ret none
  | some e, env => (evE C e env).bind fun v => (Tr.ofO (intD v)).bind fun i => .ret (some i)
def evL (C : Ec) : L → DE → Tr (List T)
  | .ex e, env => (evE C e env).bind fun v => Tr.ofO (seqD v)
  | .lst es, env => if es.length ≤ SZ then evEs C es env else .fail
  | .comp elt ifs tg own src, env => (evR C src env).bind fun ts => evCo (fun x => ((Tr.ofO (asgD tg x (wipe env own))).bind fun e2 => (evIf C ifs e2).bind fun b => if b = true then (evE C elt e2).bind fun v => .ret (some v) else .ret none).noexc) ts
  | .comp2 .., _ => .fail
  | .srt l, env => (evL C l env).bind fun ts => Tr.ofO (srtD ts)
  | .srtE e, env => (evE C e env).bind fun v => (Tr.ofO (lstD v)).bind fun ts => if ts.length ≤ SZ then Tr.ofO (srtD ts) else .fail
  | .items e, env => (evE C e env).bind fun v => (Tr.ofO (itmD v)).bind fun ts => if ts.length ≤ SZ then Tr.ofO (srtD ts) else .fail
def evLs (C : Ec) : List L → DE → Tr (List (List T))
  | [], _ => .ret []
  | l :: ls, env => (evL C l env).bind fun ts => (evLs C ls env).bind fun tss => .ret (ts :: tss)
def evR (C : Ec) : Sr → DE → Tr (List T)
  | .seq l, env => evL C l env
  | .range es, env => (evEs C es env).bind fun vs => Tr.ofO (rangeD vs)
  | .enum l, env => (evL C l env).bind fun ts => .ret (enumT ts)
  | .zip ls, env => (evLs C ls env).bind fun tss => Tr.ofO (zipD tss)
  | .rrange es, env => (evEs C es env).bind fun vs => (Tr.ofO (rangeD vs)).bind fun ts => .ret ts.reverse
def evIf (C : Ec) : List X → DE → Tr Bool
  | [], _ => .ret true
  | c :: cs, env => (evT C c env).noexc.bind fun t => if t = true then evIf C cs env else .ret false
end

/-! places that an expression reads -/
mutual
def occE : X → List Nat
  | .var i => [i]
  | .bin _ a b => occE a ++ occE b
  | .neg a => occE a
  | .not a => occE a
  | .and a b => occE a ++ occE b
  | .or a b => occE a ++ occE b
  | .ite c a b => occE c ++ (occE a ++ occE b)
  | .cmp _ a b => occE a ++ occE b
  | .chain _ _ a b c => occE a ++ (occE b ++ occE c)
  | .tup es => occEs es
  | .new l => occL l
  | .idx a i => occE a ++ occE i
  | .slc a lo hi => occE a ++ (occO lo ++ occO hi)
  | .rev a => occE a
  | .call _ es => occEs es
  | .callv i es => i :: occEs es
  | .bi _ es => occEs es
  | .isi a _ => occE a
  | .li _ l => occL l
  | .join a l => occE a ++ occL l
  | .me _ o es => occE o ++ occEs es
  | _ => []
def occEs : List X → List Nat
  | [] => []
  | e :: es => occE e ++ occEs es
def occO : Option X → List Nat
  | none => []
  | some e => occE e
def occL : L → List Nat
  | .ex e => occE e
  | .lst es => occEs es
  | .comp elt ifs _ _ src => occR src ++ (occEs ifs ++ occE elt)
  | .comp2 .. => []
  | .srt l => occL l
  | .srtE e => occE e
  | .items e => occE e
def occLs : List L → List Nat
  | [] => []
  | l :: ls => occL l ++ occLs ls
def occR : Sr → List Nat
  | .seq l => occL l
  | .range es => occEs es
  | .enum l => occL l
  | .zip ls => occLs ls
  | .rrange es => occEs es
end

/-! statements: who changes a list alone has it -/
inductive Sl where
  | val (t : T)
  | own (ts : List T)
  | ownD (b : Bool) (ks vs : List T)
abbrev SE2 := List (Option Sl)
def slT : Sl → Option T
  | .val t => some t
  | _ => none
/-- what is owned -/
def slO : Sl → T
  | .val t => t
  | .own ts => .lst ts
  | .ownD b ks vs => .dct b ks vs
def vis (de : SE2) : DE := de.map fun o => o.bind slT
def pubO : Option Sl → Option Sl
  | some (.own ts) => some (.val (.lst ts))
  | some (.ownD b ks vs) => some (.val (.dct b ks vs))
  | o => o
def pub1 : SE2 → Nat → SE2
  | o :: de, 0 => pubO o :: de
  | o :: de, i + 1 => o :: pub1 de i
  | [], _ => []
def pub (os : List Nat) (de : SE2) : SE2 := os.foldl pub1 de
/-- it reaches nothing of ours -/
def clean : Bool × T → Bool
  | (true, .lst ts) => pureTs ts
  | (true, .dct _ _ vs) => pureTs vs
  | (_, t) => pureT t
def slF : Bool × T → Sl
  | (true, .lst ts) => .own ts
  | (true, .dct b ks vs) => .ownD b ks vs
  | (_, t) => .val t
def isLst : T → Bool
  | .lst _ => true
  | _ => false
/-- with its kind: made anew or not -/
def evF (C : Ec) (e : X) (env : DE) : Tr (Bool × T) := match e with
  | .new l => (evL C l env).bind fun ts => .ret (true, .lst ts)
  | .dnew b => .ret (true, .dct b [] [])
  | .call f es => (evEs C es env).bind fun vs => C.call f vs
  | .li .list l => (evL C l env).bind fun ts => .ret (true, .lst ts)
  | .bin .add a b => (evE C a env).bind fun x => (evE C b env).bind fun y => (Tr.ofO (binD .add x y)).bind fun r => .ret (isLst r, r)
  | .bin .mul a b => (evE C a env).bind fun x => (evE C b env).bind fun y => (Tr.ofO (binD .mul x y)).bind fun r => .ret (isLst r, r)
  | .slc a lo hi => (evE C a env).bind fun x => (evO C lo env).bind fun l => (evO C hi env).bind fun h => (Tr.ofO (slcD x l h)).bind fun r => .ret (isLst r, r)
  | .rev a => (evE C a env).bind fun x => (Tr.ofO (revD x)).bind fun r => .ret (isLst r, r)
  | e => (evE C e env).bind fun v => .ret (false, v)
inductive Fl where
  | nx (de : SE2)
  | rt (r : Bool × T)
mutual
/-- names filled by a thing's parts -/
def asgS : Tg → T → SE2 → Option SE2
  | .name i, v, env => some (env.set i (some (.val v)))
  | .tup gs, v, env => match v with
    | .tup ts => asgSs gs ts env
    | .lst ts => asgSs gs ts env
    | _ => none
def asgSs : List Tg → List T → SE2 → Option SE2
  | [], [], env => some env
  | g :: gs, t :: ts, env => match asgS g t env with
    | some e => asgSs gs ts e
    | none => none
  | _, _, _ => none
end
def Fl.go : Fl → (SE2 → Tr Fl) → Tr Fl
  | .nx e, k => k e
  | .rt r, _ => .ret (.rt r)
/-- names that a turn gives first are forgotten behind it -/
def mask : SE2 → SE2 → SE2
  | none :: m, _ :: e => none :: mask m e
  | some _ :: m, x :: e => x :: mask m e
  | _, e => e
def evFor (m : SE2) (f : T → SE2 → Tr Fl) : List T → SE2 → Tr Fl
  | [], de => .ret (.nx de)
  | x :: xs, de => (f x de).bind fun fl => fl.go fun e => evFor m f xs (mask m e)
def evWh (m : SE2) (c : SE2 → Tr Bool) (f : SE2 → Tr Fl) : Nat → SE2 → Tr Fl
  | 0, _ => .fail
  | n + 1, de => (c de).bind fun b => if b = true then ((f de).bind fun fl => fl.go fun e => evWh m c f n (mask m e))
    else .ret (.nx de)
def keepIf (c : Bool) (de de1 : SE2) : SE2 := if c = true then de else de1
/-- how often a while may turn -/
def WN : Nat := 2 ^ 62
mutual
def evS (C : Ec) : Sm → SE2 → Tr Fl
  | .set g e, de => match g with
    | .name i => (evF C e (vis (pub (occE e) de))).bind fun r => .ret (.nx ((keepIf (clean r) de (pub (occE e) de)).set i (some (slF r))))
    | g => (evE C e (vis (pub (occE e) de))).bind fun v => (Tr.ofO (asgS g v (keepIf (pureT v) de (pub (occE e) de)))).bind fun d => .ret (.nx d)
  | .par is es, de => match is, es with
    | [i, j], [a, b] => (evF C a (vis (pub (occE a ++ occE b) de))).bind fun r => (evF C b (vis (pub (occE a ++ occE b) de))).bind fun q =>
        .ret (.nx (((keepIf (clean r && clean q) de (pub (occE a ++ occE b) de)).set i (some (slF r))).set j (some (slF q))))
    | _, _ => .fail
  | .sub o i e, de => match o with
    | .var x => match de.getD x none with
      | some (.own ts) => (evE C e (vis (pub (occE e ++ occE i) de))).bind fun v => (evE C i (vis (pub (occE e ++ occE i) de))).bind fun k => match k with
            | .int j => if ((occE e).contains x || (occE i).contains x) && !pureT v then .fail else
              if 0 ≤ j ∧ j.toNat < ts.length then .ret (.nx ((keepIf (pureT v) de (pub (occE e ++ occE i) de)).set x (some (.own (ts.set j.toNat v))))) else .fail
            | _ => .fail
      | some (.ownD b ks vs) => (evE C e (vis (pub (occE e ++ occE i) de))).bind fun v => (evE C i (vis (pub (occE e ++ occE i) de))).bind fun k =>
            if ((occE e).contains x || (occE i).contains x) && !pureT v then .fail else
              if keyOk b k = true ∧ ks.length < 1000 then .ret (.nx ((keepIf (pureT v) de (pub (occE e ++ occE i) de)).set x (some (.ownD b (putKs k ks) (putVs k v ks vs))))) else .fail
      | _ => .fail
    | _ => .fail
  | .aug i o e, de => match de.getD i none with
    | some (.val x) => (evE C e (vis (pub (occE e) de))).bind fun y => match o, x, y with
      | .add, .int a, .int b => .ret (.nx (de.set i (some (.val (.int (a + b))))))
      | .sub, .int a, .int b => .ret (.nx (de.set i (some (.val (.int (a - b))))))
      | .mul, .int a, .int b => if (-(2 ^ 64) < a ∧ a < 2 ^ 64) ∨ (-(2 ^ 64) < b ∧ b < 2 ^ 64) then .ret (.nx (de.set i (some (.val (.int (a * b)))))) else .fail
      | _, _, _ => .fail
    | _ => .fail
  | .augs .., _ => .fail
  | .ex e, de => match e with
    | .me m (.var x) es => match m, es with
      | .append, [a] => match de.getD x none with
        | some (.own ts) => (evE C a (vis (pub (occE a) de))).bind fun v => if (occE a).contains x && !pureT v then .fail else if ts.length < SZ then .ret (.nx ((keepIf (pureT v) de (pub (occE a) de)).set x (some (.own (ts ++ [v]))))) else .fail
        | _ => .fail
      | .pop, [] => match de.getD x none with
        | some (.own ts) => if ts.isEmpty = true then .fail else .ret (.nx (de.set x (some (.own ts.dropLast))))
        | _ => .fail
      | _, _ => (evE C e (vis (pub (occE e) de))).bind fun _ => .ret (.nx de)
    | e => (evE C e (vis (pub (occE e) de))).bind fun _ => .ret (.nx de)
  | .ret none, _ => .ret (.rt (false, .non))
  | .ret (some e), de => match e with
    | .var i => match de.getD i none with
      | some (.own ts) => .ret (.rt (true, .lst ts))
      | some (.ownD b ks vs) => .ret (.rt (true, .dct b ks vs))
      | some (.val t) => .ret (.rt (false, t))
      | none => .fail
    | e => (evF C e (vis (pub (occE e) de))).bind fun r => .ret (.rt r)
  | .cond c a b, de => (evT C c (vis (pub (occE c) de))).bind fun t => if t = true then evSs C a de else evSs C b de
  | .loop g s b, de => (evR C s (vis (pub (occR s) de))).bind fun ts =>
      evFor (pub (occR s) de) (fun x d => (Tr.ofO (asgS g x d)).bind fun d2 => evSs C b d2) ts (pub (occR s) de)
  | .whl c b, de => evWh de (fun d => evT C c (vis (pub (occE c) d))) (fun d => evSs C b d) WN de
  | .pass, de => .ret (.nx de)
def evSs (C : Ec) : List Sm → SE2 → Tr Fl
  | [], de => .ret (.nx de)
  | s :: ss, de => (evS C s de).bind fun fl => fl.go fun e => evSs C ss e
end
def finF : Fl → Tr (Bool × T)
  | .nx _ => .ret (false, .non)
  | .rt r => .ret r
def startD (nl : Nat) (vs : List T) : SE2 := vs.map (fun v => some (.val v)) ++ List.replicate (nl - vs.length) none
def evCall (Γ : Pg) : Nat → Nat → List T → Tr (Bool × T)
  | 0, _, _ => .fail
  | k + 1, f, vs => match Γ.fns[f]? with
    | some (.code np nl body) => if vs.length = np then (evSs ⟨evCall Γ k, Γ.fns.length, fun i => Γ.glob[i]?, Γ.rp⟩ body (startD nl vs)).bind finF
      else .fail
    | some .mk => .fail
    | some .next => match vs with
      | [.ref 0, .int m] => .draw m fun r => .ret (false, .int r)
      | _ => .fail
    | none => .fail
end Mo

set_option Elab.async false
set_option linter.all false
set_option maxRecDepth 100000
set_option autoImplicit false
namespace Mo
open PySem PyProof.Rows

mutual
/-- seen through and through, by what stays as it is -/
inductive Rp (s : St) : T → T → Prop
  | non : Rp s .non .non
  | bl (b : Bool) : Rp s (.bl b) (.bl b)
  | int (i : Int) : Rp s (.int i) (.int i)
  | str {x : Sg} : strOk x → Rp s (.str x) (.str x)
  | tup {ts ds : List T} : Rps s ts ds → Rp s (.tup ts) (.tup ds)
  | lst {a : Nat} {ts ds : List T} : s a = some (.lst ts) → Rps s ts ds → Rp s (.ref a) (.lst ds)
  | deck {a : Nat} : s a = some .deck → Rp s (.ref a) (.ref 0)
  | fn (i : Nat) : Rp s (.fn i) (.fn i)
  | scr : Rp s .scr .scr
  | dct {a : Nat} {b : Bool} {kvs : List (T × T)} {ks vs : List T} : s a = some (.dct b kvs) → RpK s kvs ks vs → Rp s (.ref a) (.dct b ks vs)
inductive Rps (s : St) : List T → List T → Prop
  | nil : Rps s [] []
  | cons {t d : T} {ts ds : List T} : Rp s t d → Rps s ts ds → Rps s (t :: ts) (d :: ds)
/-- a dict's pairs: pure keys -/
inductive RpK (s : St) : List (T × T) → List T → List T → Prop
  | nil : RpK s [] [] []
  | cons {k t d : T} {kvs : List (T × T)} {ks vs : List T} : pureT k = true → strsT k = true → Rp s t d → RpK s kvs ks vs → RpK s ((k, t) :: kvs) (k :: ks) (d :: vs)
end
section
variable {s s' : St}
mutual
theorem Rp.mono (h : Sub s s') : ∀ {t d : T}, Rp s t d → Rp s' t d
  | _, _, .non => .non
  | _, _, .bl b => .bl b
  | _, _, .int i => .int i
  | _, _, .str o => .str o
  | _, _, .tup r => .tup (Rps.mono h r)
  | _, _, .lst e r => .lst (h _ _ e) (Rps.mono h r)
  | _, _, .deck e => .deck (h _ _ e)
  | _, _, .fn i => .fn i
  | _, _, .scr => .scr
  | _, _, .dct e r => .dct (h _ _ e) (RpK.mono h r)
theorem Rps.mono (h : Sub s s') : ∀ {ts ds : List T}, Rps s ts ds → Rps s' ts ds
  | _, _, .nil => .nil
  | _, _, .cons a b => .cons (Rp.mono h a) (Rps.mono h b)
theorem RpK.mono (h : Sub s s') : ∀ {kvs : List (T × T)} {ks vs : List T}, RpK s kvs ks vs → RpK s' kvs ks vs
  | _, _, _, .nil => .nil
  | _, _, _, .cons p q a b => .cons p q (Rp.mono h a) (RpK.mono h b)
end
theorem Rps.length : ∀ {ts ds : List T}, Rps s ts ds → ts.length = ds.length
  | _, _, .nil => rfl
  | _, _, .cons _ b => by rw [List.length_cons, List.length_cons, Rps.length b]
theorem Rps.app : ∀ {ts ds us es : List T}, Rps s ts ds → Rps s us es → Rps s (ts ++ us) (ds ++ es)
  | _, _, _, _, .nil, q => q
  | _, _, _, _, .cons a b, q => .cons a (Rps.app b q)
theorem Rps.get : ∀ {ts ds : List T}, Rps s ts ds → ∀ {i : Nat} {d : T}, ds[i]? = some d → ∃ t, ts[i]? = some t ∧ Rp s t d
  | _, _, .nil, i, d, e => by simp at e
  | _, _, .cons a b, 0, d, e => by simp at e; subst e; exact ⟨_, rfl, a⟩
  | _, _, .cons a b, i + 1, d, e => by
    obtain ⟨t, h1, h2⟩ := Rps.get b (i := i) (d := d) (by simpa using e)
    exact ⟨t, by simpa using h1, h2⟩
theorem Rps.set : ∀ {ts ds : List T}, Rps s ts ds → ∀ (i : Nat) {t d : T}, Rp s t d → Rps s (ts.set i t) (ds.set i d)
  | _, _, .nil, i, _, _, _ => by simp; exact .nil
  | _, _, .cons a b, 0, _, _, r => .cons r b
  | _, _, .cons a b, i + 1, _, _, r => .cons a (Rps.set b i r)
theorem Rps.take : ∀ {ts ds : List T}, Rps s ts ds → ∀ n : Nat, Rps s (ts.take n) (ds.take n)
  | _, _, .nil, n => by simp; exact .nil
  | _, _, .cons a b, 0 => by simp; exact .nil
  | _, _, .cons a b, n + 1 => .cons a (Rps.take b n)
theorem Rps.drop : ∀ {ts ds : List T}, Rps s ts ds → ∀ n : Nat, Rps s (ts.drop n) (ds.drop n)
  | _, _, .nil, n => by simp; exact .nil
  | _, _, .cons a b, 0 => .cons a b
  | _, _, .cons a b, n + 1 => by simpa using Rps.drop b n
theorem Rps.rev : ∀ {ts ds : List T}, Rps s ts ds → Rps s ts.reverse ds.reverse
  | _, _, .nil => .nil
  | _, _, .cons a b => by rw [List.reverse_cons, List.reverse_cons]; exact (Rps.rev b).app (.cons a .nil)
theorem Rps.rep {ts ds : List T} (r : Rps s ts ds) : ∀ k : Nat, Rps s (Mo.rep k ts) (Mo.rep k ds)
  | 0 => .nil
  | k + 1 => by
    unfold Mo.rep
    rw [List.replicate_succ, List.flatten_cons, List.replicate_succ, List.flatten_cons]
    exact r.app (Rps.rep r k)
mutual
/-- what is pure is itself -/
theorem Rp.pure : ∀ {t d : T}, Rp s t d → pureT d = true → t = d ∧ strsT d = true
  | _, _, .non, _ => ⟨rfl, rfl⟩
  | _, _, .bl b, _ => ⟨rfl, rfl⟩
  | _, _, .int i, _ => ⟨rfl, rfl⟩
  | _, _, .str o, _ => ⟨rfl, by simp only [strsT, decide_eq_true_eq]; exact o⟩
  | _, _, .tup r, h => by
    obtain ⟨h1, h2⟩ := Rps.pure r (by simpa [pureT] using h)
    exact ⟨by rw [h1], by simpa [strsT] using h2⟩
  | _, _, .lst _ _, h => by simp [pureT] at h
  | _, _, .deck _, h => by simp [pureT] at h
  | _, _, .fn _, h => by simp [pureT] at h
  | _, _, .scr, h => by simp [pureT] at h
  | _, _, .dct _ _, h => by simp [pureT] at h
theorem Rps.pure : ∀ {ts ds : List T}, Rps s ts ds → pureTs ds = true → ts = ds ∧ strsTs ds = true
  | _, _, .nil, _ => ⟨rfl, rfl⟩
  | _, _, .cons a b, h => by
    simp only [pureTs, Bool.and_eq_true] at h
    obtain ⟨h1, h2⟩ := Rp.pure a h.1
    obtain ⟨h3, h4⟩ := Rps.pure b h.2
    exact ⟨by rw [h1, h3], by simp only [strsTs, h2, h4, Bool.and_self]⟩
end
mutual
theorem Rp.of_pure : ∀ d : T, pureT d = true → strsT d = true → Rp s d d
  | .non, _, _ => .non
  | .bl b, _, _ => .bl b
  | .int i, _, _ => .int i
  | .str x, _, h => .str (by simpa [strsT] using h)
  | .tup ts, h, k => .tup (Rps.of_pure ts (by simpa [pureT] using h) (by simpa [strsT] using k))
  | .lst _, h, _ => by simp [pureT] at h
  | .dct _ _ _, h, _ => by simp [pureT] at h
  | .ref _, h, _ => by simp [pureT] at h
  | .fn _, h, _ => by simp [pureT] at h
  | .scr, h, _ => by simp [pureT] at h
theorem Rps.of_pure : ∀ ds : List T, pureTs ds = true → strsTs ds = true → Rps s ds ds
  | [], _, _ => .nil
  | d :: ds, h, k => by
    simp only [pureTs, Bool.and_eq_true] at h
    simp only [strsTs, Bool.and_eq_true] at k
    exact .cons (Rp.of_pure d h.1 k.1) (Rps.of_pure ds h.2 k.2)
end
theorem Rp.to_pure {t d : T} (r : Rp s t d) (h : pureT d = true) : Rp s' t d := by
  obtain ⟨rfl, k⟩ := r.pure h
  exact .of_pure _ h k
theorem Rps.to_pure {ts ds : List T} (r : Rps s ts ds) (h : pureTs ds = true) : Rps s' ts ds := by
  obtain ⟨rfl, k⟩ := r.pure h
  exact .of_pure _ h k
mutual
theorem Rp.dp : ∀ {t d : T}, Rp s t d → isD d = true → Dp s t d ∧ chT d = true
  | _, _, .non, _ => ⟨.non, rfl⟩
  | _, _, .bl b, _ => ⟨.bl b, rfl⟩
  | _, _, .int i, _ => ⟨.int i, rfl⟩
  | _, _, .str o, _ => ⟨.str _, o.1⟩
  | _, _, .tup r, h => by
    obtain ⟨h1, h2⟩ := Rps.dp r (by simpa [isD] using h)
    exact ⟨.tup h1, by simpa [chT] using h2⟩
  | _, _, .lst e r, h => by
    obtain ⟨h1, h2⟩ := Rps.dp r (by simpa [isD] using h)
    exact ⟨.ref e h1, by simpa [chT] using h2⟩
  | _, _, .deck _, h => by simp [isD] at h
  | _, _, .fn _, h => by simp [isD] at h
  | _, _, .scr, h => by simp [isD] at h
  | _, _, .dct _ _, h => by simp [isD] at h
theorem Rps.dp : ∀ {ts ds : List T}, Rps s ts ds → isDs ds = true → Dps s ts ds ∧ chTs ds = true
  | _, _, .nil, _ => ⟨.nil, rfl⟩
  | _, _, .cons a b, h => by
    simp only [isDs, Bool.and_eq_true] at h
    obtain ⟨h1, h2⟩ := Rp.dp a h.1
    obtain ⟨h3, h4⟩ := Rps.dp b h.2
    exact ⟨.cons h1 h3, by simp only [chTs, h2, h4, Bool.and_self]⟩
end
mutual
theorem dp_mono (h : Sub s s') : ∀ {t d : T}, Dp s t d → Dp s' t d
  | _, _, .non => .non
  | _, _, .bl b => .bl b
  | _, _, .int i => .int i
  | _, _, .str x => .str x
  | _, _, .tup r => .tup (dps_mono h r)
  | _, _, .ref e r => .ref (h _ _ e) (dps_mono h r)
theorem dps_mono (h : Sub s s') : ∀ {ts ds : List T}, Dps s ts ds → Dps s' ts ds
  | _, _, .nil => .nil
  | _, _, .cons a b => .cons (dp_mono h a) (dps_mono h b)
end
theorem RpK.keys : ∀ {kvs : List (T × T)} {ks vs : List T}, RpK s kvs ks vs → kvs.map (·.1) = ks
  | _, _, _, .nil => rfl
  | _, _, _, .cons _ _ _ b => by rw [List.map_cons, RpK.keys b]
theorem RpK.keyRp : ∀ {kvs : List (T × T)} {ks vs : List T}, RpK s kvs ks vs → Rps s (kvs.map (·.1)) ks
  | _, _, _, .nil => .nil
  | _, _, _, .cons p q _ b => .cons (.of_pure _ p q) (RpK.keyRp b)
theorem RpK.length : ∀ {kvs : List (T × T)} {ks vs : List T}, RpK s kvs ks vs → kvs.length = ks.length
  | _, _, _, .nil => rfl
  | _, _, _, .cons _ _ _ b => by rw [List.length_cons, List.length_cons, RpK.length b]
theorem RpK.items : ∀ {kvs : List (T × T)} {ks vs : List T}, RpK s kvs ks vs → Rps s (kvs.map fun kv => .tup [kv.1, kv.2]) (List.zipWith pairT ks vs)
  | _, _, _, .nil => .nil
  | _, _, _, .cons p q a b => .cons (.tup (.cons (.of_pure _ p q) (.cons a .nil))) (RpK.items b)
theorem RpK.look (k : T) : ∀ {kvs : List (T × T)} {ks vs : List T}, RpK s kvs ks vs → (lookK k kvs = none ∧ lookD k ks vs = none) ∨ ∃ t d, lookK k kvs = some t ∧ lookD k ks vs = some d ∧ Rp s t d
  | _, _, _, .nil => .inl ⟨rfl, rfl⟩
  | (q, t) :: kvs, _ :: ks, d :: vs, .cons _ _ a b => by
    simp only [lookK, lookD]
    split
    · exact .inr ⟨_, _, rfl, rfl, a⟩
    · exact RpK.look k b
theorem RpK.to_pure {s'' : St} : ∀ {kvs : List (T × T)} {ks vs : List T}, RpK s kvs ks vs → pureTs vs = true → RpK s'' kvs ks vs
  | _, _, _, .nil, _ => .nil
  | _, _, _, .cons p q a b, h => by
    simp only [pureTs, Bool.and_eq_true] at h
    exact .cons p q (Rp.to_pure a h.1) (RpK.to_pure b h.2)
theorem RpK.app : ∀ {kvs lvs : List (T × T)} {ks vs ls ws : List T}, RpK s kvs ks vs → RpK s lvs ls ws → RpK s (kvs ++ lvs) (ks ++ ls) (vs ++ ws)
  | _, _, _, _, _, _, .nil, q => q
  | _, _, _, _, _, _, .cons p q a b, r => .cons p q a (RpK.app b r)
theorem RpK.upd {k v w : T} (hv : Rp s v w) : ∀ {kvs : List (T × T)} {ks vs : List T}, RpK s kvs ks vs → RpK s (kvs.map fun p => if eqT p.1 k = true then (p.1, v) else p) ks (List.zipWith (fun q u => if eqT q k = true then w else u) ks vs)
  | _, _, _, .nil => .nil
  | (q, t) :: kvs, _ :: ks, d :: vs, .cons h1 h2 a b => by
    simp only [List.map_cons, List.zipWith_cons_cons]
    split
    · exact .cons h1 h2 hv (RpK.upd hv b)
    · exact .cons h1 h2 a (RpK.upd hv b)
theorem RpK.put {k v w : T} (h1 : pureT k = true) (h2 : strsT k = true) (hv : Rp s v w) {kvs : List (T × T)} {ks vs : List T} (r : RpK s kvs ks vs) : RpK s (putK k v kvs) (putKs k ks) (putVs k w ks vs) := by
  have e : (kvs.any fun p => eqT p.1 k) = (ks.any fun q => eqT q k) := by
    rw [← r.keys, List.any_map]; rfl
  unfold putK putKs putVs
  rw [e]
  split
  · exact r.upd hv
  · exact r.app (.cons h1 h2 hv .nil)
theorem key_pure {b : Bool} {k : T} (h : keyOk b k = true) : pureT k = true := by
  have at1 : ∀ t, atomT t = true → pureT t = true := fun t h => by cases t <;> simp [atomT] at h <;> rfl
  have ats : ∀ ts : List T, ts.all atomT = true → pureTs ts = true := by
    intro ts
    induction ts with
    | nil => intro _; rfl
    | cons t ts ih =>
      intro h
      simp only [List.all_cons, Bool.and_eq_true] at h
      simp only [pureTs, at1 t h.1, ih h.2, Bool.and_self]
  cases b with
  | false => exact at1 k h
  | true => cases k <;> simp only [keyOk] at h <;> try (cases h; done)
            exact ats _ h
theorem Rp.okE {t d : T} (r : Rp s t d) (h : okE d = true) : Dp s t d ∧ okD d = true := by
  simp only [Mo.okE, Bool.and_eq_true] at h
  obtain ⟨h1, h2⟩ := r.dp h.2
  exact ⟨h1, by simp only [okD, h2, h.1, Bool.and_self]⟩
theorem Rps.okEs {ts ds : List T} (r : Rps s ts ds) (h : okEs ds = true) : Dps s ts ds ∧ okDs ds = true := by
  simp only [Mo.okEs, Bool.and_eq_true] at h
  obtain ⟨h1, h2⟩ := r.dp h.2
  exact ⟨h1, by simp only [okDs, h2, h.1, Bool.and_self]⟩
end

/-- what grows: new things only -/
structure Gr (st sh sh' st' : St) : Prop where
  s1 : Sub st st'
  s2 : Sub sh sh'
  s3 : Sub sh' st'
  nw : ∀ a, st a ≠ none → sh' a = sh a
section
variable {st sh st1 sh1 st2 sh2 : St}
theorem Gr.refl (g : Sub sh st) : Gr st sh sh st := ⟨.refl _, .refl _, g, fun _ _ => rfl⟩
theorem sub_ne {s t : St} (h : Sub s t) {a : Nat} (n : s a ≠ none) : t a ≠ none := fun z => by
  cases e : s a with
  | none => exact n e
  | some o => rw [h a o e] at z; cases z
theorem sub_no {s t : St} (h : Sub s t) {a : Nat} (n : t a = none) : s a = none := by
  cases e : s a with
  | none => rfl
  | some o => rw [h a o e] at n; cases n
theorem Gr.trans (g : Gr st sh sh1 st1) (k : Gr st1 sh1 sh2 st2) : Gr st sh sh2 st2 :=
  ⟨g.s1.trans k.s1, g.s2.trans k.s2, k.s3, fun a n => (k.nw a (sub_ne g.s1 n)).trans (g.nw a n)⟩
theorem Gr.alloc (g : Sub sh st) {p : Nat} (o : O) (hp : st p = none) : Gr st sh (upd sh p o) (upd st p o) := by
  have hs := sub_no g hp
  refine ⟨Sub.upd (.refl _) hp, Sub.upd (.refl _) hs, fun a u e => ?_, fun a n => ?_⟩
  · by_cases h : a = p
    · subst h; rw [upd_same] at e ⊢; exact e
    · rw [upd_ne h] at e ⊢; exact g a u e
  · exact upd_ne fun z => n (by rw [z]; exact hp)
theorem Gr.own (g : Sub sh st) {p : Nat} (o : O) (hp : st p = none) : Gr st sh sh (upd st p o) :=
  ⟨Sub.upd (.refl _) hp, .refl _, fun a u e => by rw [upd_ne (fun z => by rw [z, sub_no g hp] at e; cases e)]; exact g a u e, fun _ _ => rfl⟩

def ER (sh : St) (env : Env) (de : DE) : Prop := env.length = de.length ∧ ∀ (i : Nat) (d : T), de[i]? = some (some d) → ∃ t, env[i]? = some (some t) ∧ Rp sh t d
theorem ER.mono {env : Env} {de : DE} (r : ER sh env de) (h : Sub sh sh1) : ER sh1 env de := ⟨r.1, fun i d e => let ⟨t, h1, h2⟩ := r.2 i d e; ⟨t, h1, h2.mono h⟩⟩
theorem getD_some {α : Type} {l : List (Option α)} {i : Nat} {d : α} (h : l.getD i none = some d) : l[i]? = some (some d) := by
  rw [List.getD_eq_getElem?_getD] at h
  cases e : l[i]? with
  | none => rw [e] at h; cases h
  | some o => rw [e] at h; simp at h; rw [h]
theorem getD_of {α : Type} {l : List (Option α)} {i : Nat} {d : α} (h : l[i]? = some (some d)) : l.getD i none = some d := by
  rw [List.getD_eq_getElem?_getD, h]; rfl
theorem ER.get {env : Env} {de : DE} (r : ER sh env de) {i : Nat} {d : T} (h : de.getD i none = some d) : ∃ t, env.getD i none = some t ∧ Rp sh t d := by
  obtain ⟨t, h1, h2⟩ := r.2 i d (getD_some h)
  exact ⟨t, getD_of h1, h2⟩
theorem set_cases {α : Type} {l : List α} {i j : Nat} {v w : α} (h : (l.set i v)[j]? = some w) : (i = j ∧ w = v ∧ i < l.length) ∨ (i ≠ j ∧ l[j]? = some w) := by
  by_cases z : i = j
  · subst z
    by_cases hl : i < l.length
    · rw [List.getElem?_set_self hl] at h; cases h; exact .inl ⟨rfl, rfl, hl⟩
    · rw [List.getElem?_eq_none (by rw [List.length_set]; omega)] at h; cases h
  · rw [List.getElem?_set_ne z] at h; exact .inr ⟨z, h⟩
theorem ER.set {env : Env} {de : DE} (r : ER sh env de) {i : Nat} {t d : T} (q : Rp sh t d) : ER sh (env.set i (some t)) (de.set i (some d)) := by
  refine ⟨by rw [List.length_set, List.length_set]; exact r.1, fun j u e => ?_⟩
  rcases set_cases e with ⟨rfl, e, hl⟩ | ⟨z, e⟩
  · cases e
    exact ⟨t, List.getElem?_set_self (by rw [r.1]; exact hl), q⟩
  · obtain ⟨v, h1, h2⟩ := r.2 j u e
    exact ⟨v, by rw [List.getElem?_set_ne z]; exact h1, h2⟩
theorem ER.wipe {env : Env} {de : DE} (own : List Nat) (r : ER sh env de) : ER sh (Mo.wipe env own) (Mo.wipe de own) := by
  induction own generalizing env de with
  | nil => exact r
  | cons x own ih =>
    unfold Mo.wipe
    rw [List.foldl_cons, List.foldl_cons]
    refine ih (env := env.set x none) (de := de.set x none) ⟨by rw [List.length_set, List.length_set]; exact r.1, fun j u e => ?_⟩
    rcases set_cases e with ⟨rfl, e, hl⟩ | ⟨z, e⟩
    · cases e
    · obtain ⟨v, h1, h2⟩ := r.2 j u e
      exact ⟨v, by rw [List.getElem?_set_ne z]; exact h1, h2⟩
end

def ExOk (st sh : St) (E' : Ex → Prop) (E : EK) : Prop := ∀ x, E' x → ∀ x' sh' st', Gr st sh sh' st' → x'.cls = x.cls → Rps sh' x'.fs x.fs → E x' st'
theorem ExOk.trans {st sh st1 sh1 : St} {E' : Ex → Prop} {E : EK} (k : ExOk st sh E' E) (g : Gr st sh sh1 st1) : ExOk st1 sh1 E' E := fun x h x' sh' st' g' => k x h x' sh' st' (g.trans g')
theorem ExOk.no {st sh : St} {E : EK} : ExOk st sh (fun _ => False) E := fun _ h => h.elim

/-! what each thing tells -/
section
variable {st sh : St} {x y a b : T} {Q : TK}
/-- what is wanted behind, of a value -/
def Nx (st sh : St) (P : T → Prop) (Q : TK) : Prop := ∀ d, P d → ∀ t sh' st', Gr st sh sh' st' → Rp sh' t d → Q t st'
theorem new_rp {us es : List T} {p : Nat} (g : Sub sh st) (hp : st p = none) (r : Rps sh us es) (q : ∀ t sh' st', Gr st sh sh' st' → Rp sh' t (.lst es) → Q t st') : Q (.ref p) (upd st p (.lst us)) :=
  q _ _ _ (.alloc g _ hp) (.lst (upd_same _ _ _) (r.mono (Gr.alloc g (.lst us) hp).s2))
theorem bin_ok {o : Op} {r : T} (g : Sub sh st) (hx : Rp sh x a) (hy : Rp sh y b) (e : binD o a b = some r) (q : ∀ t sh' st', Gr st sh sh' st' → Rp sh' t r → Q t st') : binSem o x y st Q := by
  have mb : ∀ {i j : Int}, mulOk i j → MulOk i j := fun h => ⟨Nat.lt_of_lt_of_le h.1 (by unfold MB; decide +kernel), Nat.lt_of_lt_of_le h.2 (by unfold MB; decide +kernel)⟩
  have r0 := fun t => q t sh st (.refl g)
  unfold binD at e
  split at e
  · cases hx; cases hy; cases e; exact r0 _ (.int _)
  · cases hx; cases hy; cases e; exact r0 _ (.int _)
  · cases hx; cases hy
    split at e
    · rename_i h; cases e; exact ⟨mb h, r0 _ (.int _)⟩
    · cases e
  · cases hx; cases hy
    split at e
    · rename_i h; cases e; exact ⟨h, r0 _ (.int _)⟩
    · cases e
  · cases hx; cases hy
    split at e
    · rename_i h; cases e; exact ⟨h, r0 _ (.int _)⟩
    · cases e
  · cases hx; cases hy
    split at e
    · rename_i h; cases e; exact ⟨h, r0 _ (.int _)⟩
    · cases e
  · cases hx with
    | str o1 => cases hy with
      | str o2 =>
        split at e
        · rename_i h; cases e
          refine ⟨h, r0 _ (.str ⟨?_, by rw [List.length_append]; exact h⟩)⟩
          rw [List.all_append, o1.1, o2.1]; rfl
        · cases e
  · cases hx with
    | tup r1 => cases hy with
      | tup r2 =>
        split at e
        · rename_i h; cases e
          exact ⟨by rw [r1.length, r2.length]; exact h, r0 _ (.tup (r1.app r2))⟩
        · cases e
  · cases hx with
    | lst e1 r1 => cases hy with
      | lst e2 r2 =>
        split at e
        · rename_i h; cases e
          exact ⟨_, _, g _ _ e1, g _ _ e2, by rw [r1.length, r2.length]; exact h, fun p hp => new_rp g hp (r1.app r2) q⟩
        · cases e
  · cases hx with
    | tup r1 =>
      cases hy
      split at e
      · rename_i h; cases e
        obtain ⟨h1, h2, h3, h4⟩ := h
        refine ⟨⟨fun z => ?_, h2, h3, by rw [r1.length]; exact h4⟩, r0 _ (.tup (r1.rep _))⟩
        subst z
        have := r1.length
        cases r1
        simp at h1
      · cases e
  · cases hx with
    | lst e1 r1 =>
      cases hy
      split at e
      · rename_i h; cases e
        exact ⟨_, g _ _ e1, ⟨h.1, h.2.1, by rw [r1.length]; exact h.2.2⟩, fun p hp => new_rp g hp (r1.rep _) q⟩
      · cases e
  · cases e
theorem empty_eq {ts ds : List T} (r : Rps sh ts ds) : ts.isEmpty = ds.isEmpty := by cases r <;> rfl
theorem tru_ok {r : Bool} {Q : Bool → Prop} (g : Sub sh st) (hx : Rp sh x a) (e : truD a = some r) (q : Q r) : truSem x st Q := by
  cases hx <;> simp only [truD] at e <;> try (cases e; done)
  all_goals try (cases e; exact q)
  · rename_i o; cases e; exact ⟨o.2, q⟩
  · rename_i r1; cases e; show Q _; rw [empty_eq r1]; exact q
  · rename_i e1 r1; cases e; exact ⟨_, g _ _ e1, by rw [empty_eq r1]; exact q⟩
theorem eq_ok {r : Bool} {Q : Bool → Prop} (g : Sub sh st) (hx : Rp sh x a) (hy : Rp sh y b) (e : eqD a b = some r) (q : Q r) : eqSem x y st Q := by
  unfold eqD at e
  split at e
  · cases hx; cases hy; cases e
    exact ⟨_, _, .int _, .int _, rfl, rfl, q⟩
  · cases hx with
    | str o1 => cases hy with
      | str o2 =>
        cases e
        refine ⟨_, _, .str _, .str _, ?_, ?_, q⟩
        · simp only [okD, Bool.and_eq_true]; exact ⟨rfl, o1.1⟩
        · simp only [okD, Bool.and_eq_true]; exact ⟨rfl, o2.1⟩
  · cases hx; cases hy; cases e
    exact ⟨_, _, .bl _, .bl _, rfl, rfl, q⟩
  · split at e
    · rename_i h
      cases e
      obtain ⟨d1, o1⟩ := hx.okE h.1
      obtain ⟨d2, o2⟩ := hy.okE h.2
      exact ⟨_, _, dp_mono g d1, dp_mono g d2, o1, o2, q⟩
    · cases e
theorem in_ok {r : Bool} {Q : Bool → Prop} (g : Sub sh st) (hx : Rp sh x a) (hy : Rp sh y b) (e : inD a b = some r) (q : Q r) : inSem x y st Q := by
  unfold inD at e
  cases hy with
  | tup r1 =>
    simp only at e
    split at e
    · rename_i h
      cases e
      obtain ⟨d1, o1⟩ := hx.okE h.1
      obtain ⟨d2, o2⟩ := r1.okEs h.2
      exact ⟨_, _, dp_mono g d1, dps_mono g d2, o1, o2, q⟩
    · cases e
  | lst e1 r1 =>
    simp only at e
    split at e
    · rename_i h
      cases e
      obtain ⟨d1, o1⟩ := hx.okE h.1
      obtain ⟨d2, o2⟩ := r1.okEs h.2
      exact .inl ⟨_, _, _, g _ _ e1, dp_mono g d1, dps_mono g d2, o1, o2, q⟩
    · cases e
  | str o =>
    simp only at e
    split at e
    · cases hx; cases e
      exact ⟨_, rfl, q⟩
    · cases e
  | dct e1 r1 =>
    simp only at e
    split at e
    · rename_i h
      cases e
      obtain ⟨rfl, hs⟩ := hx.pure (key_pure h)
      refine .inr ⟨_, _, g _ _ e1, h, ?_⟩
      rcases r1.look x with ⟨k1, k2⟩ | ⟨t, d, k1, k2, k3⟩
      · rw [k2] at q; rw [k1]; exact q
      · rw [k2] at q; rw [k1]; exact q
    · cases e
  | _ => cases e
theorem lt_ok {r : Bool} {Q : Bool → Prop} (hx : Rp sh x a) (hy : Rp sh y b) (e : ltD a b = some r) (q : Q r) : ltSem x y Q := by
  unfold ltD at e
  split at e
  · cases hx; cases hy; cases e; exact q
  · cases hx; cases hy; cases e; exact q
  · split at e
    · rename_i h
      obtain ⟨⟨p1, p2⟩, h2, h3, h4⟩ := h
      cases hx with
      | tup r1 => cases hy with
        | tup r2 =>
          obtain ⟨rfl, _⟩ := r1.pure p1
          obtain ⟨rfl, _⟩ := r2.pure p2
          have isd : ∀ l : List T, pureTs l = true → isDs l = true := fun l h => (Dps.pure (fun _ => none) l h).isDs
          cases e
          refine ⟨p1, p2, h2, ?_, ?_, q⟩
          · simp only [okDs, (r1.dp (isd _ p1)).2, h3, decide_true, Bool.and_self]
          · simp only [okDs, (r2.dp (isd _ p2)).2, h4, decide_true, Bool.and_self]
    · cases e
  · cases e
theorem le_ok {r : Bool} {Q : Bool → Prop} (hx : Rp sh x a) (hy : Rp sh y b) (e : leD a b = some r) (q : Q r) : leSem x y Q := by
  unfold leD at e
  split at e
  · cases hx; cases hy; cases e; exact q
  · cases hx; cases hy; cases e; exact q
  · cases e
theorem cmp_ok {o : Co} {r : Bool} {Q : Bool → Prop} (g : Sub sh st) (hx : Rp sh x a) (hy : Rp sh y b) (e : cmpD o a b = some r) (q : Q r) : cmpSem o x y st Q := by
  have nn : isNon x = isNon a := by cases hx <;> rfl
  cases o <;> simp only [cmpD] at e
  · exact eq_ok g hx hy e q
  · obtain ⟨c, h1, rfl⟩ := Option.map_eq_some_iff.mp e
    exact eq_ok (Q := fun b => Q (!b)) g hx hy h1 q
  · exact lt_ok hx hy e q
  · exact le_ok hx hy e q
  · unfold gtD at e
    split at e
    · cases hx; cases hy; cases e; exact q
    · cases e
  · unfold geD at e
    split at e
    · cases hx; cases hy; cases e; exact q
    · cases e
  · split at e
    · cases hy; cases e; exact ⟨rfl, by rw [nn]; exact q⟩
    · cases e
  · split at e
    · cases hy; cases e; exact ⟨rfl, by rw [nn]; exact q⟩
    · cases e
  · exact in_ok g hx hy e q
  · obtain ⟨c, h1, rfl⟩ := Option.map_eq_some_iff.mp e
    exact in_ok (Q := fun b => Q (!b)) g hx hy h1 q
theorem atT_mem {α : Type} {l : List α} {k : Int} {c : α} (h1 : atT l k = some c) : c ∈ l := by
  unfold atT at h1
  split at h1
  · exact List.mem_of_getElem? h1
  · split at h1
    · exact List.mem_of_getElem? h1
    · cases h1
theorem Rps.at {ts ds : List T} (r : Rps sh ts ds) {k : Int} {d : T} (h : atT ds k = some d) : ∃ t, atT ts k = some t ∧ Rp sh t d := by
  unfold atT at h ⊢
  rw [r.length]
  split at h
  · rename_i h0
    rw [if_pos h0]; exact r.get h
  · rename_i h0
    rw [if_neg h0]
    split at h
    · rename_i h1
      rw [if_pos h1]; exact r.get h
    · cases h
theorem idx_ok {r : T} (g : Sub sh st) (hx : Rp sh x a) (hy : Rp sh y b) (e : idxD a b = some r) (q : ∀ t sh' st', Gr st sh sh' st' → Rp sh' t r → Q t st') : idxSem x y st Q := by
  have r0 := fun t => q t sh st (.refl g)
  unfold idxD at e
  split at e
  · cases hx with
    | tup r1 =>
      cases hy
      obtain ⟨t, h1, h2⟩ := r1.at e
      exact ⟨t, h1, r0 _ h2⟩
  · cases hx with
    | str o =>
      cases hy
      obtain ⟨c, h1, rfl⟩ := Option.map_eq_some_iff.mp e
      refine ⟨c, h1, o.2, r0 _ (.str ⟨?_, by show 1 ≤ SZ; decide⟩)⟩
      have := List.all_eq_true.mp o.1 c (atT_mem h1)
      simp only [List.all_cons, List.all_nil, Bool.and_true]
      exact this
  · cases hx with
    | lst e1 r1 =>
      cases hy
      obtain ⟨t, h1, h2⟩ := r1.at e
      exact .inl ⟨_, _, t, rfl, g _ _ e1, h1, r0 _ h2⟩
  · split at e
    · rename_i h
      obtain ⟨rfl, hs⟩ := hy.pure (key_pure h)
      cases hx with
      | dct e1 r1 =>
        rcases r1.look y with ⟨k1, k2⟩ | ⟨t, d, k1, k2, k3⟩
        · rw [k2] at e; cases e
        · rw [k2] at e; cases e
          exact .inr ⟨_, _, t, g _ _ e1, h, k1, r0 _ k3⟩
    · cases e
  · cases e
theorem get2_ok {o d2 : T} {vs ds : List T} {r : T} (g : Sub sh st) (hx : Rp sh o d2) (hy : Rps sh vs ds) (e : get2D d2 ds = some r) (q : ∀ t sh' st', Gr st sh sh' st' → Rp sh' t r → Q t st') : meSem .get2 o vs st Q := by
  have r0 := fun t => q t sh st (.refl g)
  unfold get2D at e
  split at e
  · split at e
    · rename_i h
      cases e
      cases hy with
      | cons h1 h2 => cases h2 with
        | cons h2 h3 =>
          cases h3
          obtain ⟨rfl, hs⟩ := h1.pure (key_pure h)
          cases hx with
          | dct e1 r1 =>
            refine ⟨_, _, g _ _ e1, h, r0 _ ?_⟩
            rcases r1.look _ with ⟨k1, k2⟩ | ⟨t, d, k1, k2, k3⟩
            · rw [k2, k1]; exact h2
            · rw [k2, k1]; exact k3
    · cases e
  · cases e
theorem Rps.cut {ts ds : List T} (r : Rps sh ts ds) (lo hi : Option Int) : Rps sh (cutT ts lo hi) (cutT ds lo hi) := by
  unfold cutT
  rw [r.length]
  exact (r.drop _).take _
theorem slc_ok {lo hi : Option Int} {r : T} (g : Sub sh st) (hx : Rp sh x a) (e : slcD a lo hi = some r) (q : ∀ t sh' st', Gr st sh sh' st' → Rp sh' t r → Q t st') : slcSem x lo hi st Q := by
  have r0 := fun t => q t sh st (.refl g)
  cases hx <;> simp only [slcD] at e <;> try (cases e; done)
  · rename_i o
    cases e
    refine ⟨o.2, r0 _ (.str ⟨?_, ?_⟩)⟩
    · refine List.all_eq_true.mpr fun c hc => List.all_eq_true.mp o.1 c ?_
      unfold cutT at hc
      exact List.mem_of_mem_drop (List.mem_of_mem_take hc)
    · unfold cutT
      rw [List.length_take, List.length_drop]
      have := o.2
      omega
  · rename_i r1
    cases e
    exact r0 _ (.tup (r1.cut lo hi))
  · rename_i e1 r1
    cases e
    exact ⟨_, g _ _ e1, fun p hp => new_rp g hp (r1.cut lo hi) q⟩
theorem rev_ok {r : T} (g : Sub sh st) (hx : Rp sh x a) (e : revD a = some r) (q : ∀ t sh' st', Gr st sh sh' st' → Rp sh' t r → Q t st') : revSem x st Q := by
  cases hx <;> simp only [revD] at e <;> try (cases e; done)
  · rename_i r1
    cases e
    exact q _ _ _ (.refl g) (.tup r1.rev)
  · rename_i e1 r1
    cases e
    exact ⟨_, g _ _ e1, fun p hp => new_rp g hp r1.rev q⟩
theorem isi_ok {ty : Ty} {r : Bool} {Q : Bool → Prop} (g : Sub sh st) (hx : Rp sh x a) (e : isiD a ty = some r) (q : Q r) : isiSem x ty st Q := by
  cases hx <;> simp only [isiD] at e <;> cases e <;> try (exact q)
  rename_i e1 r1
  exact ⟨_, g _ _ e1, q⟩
theorem ints_ok : ∀ {ts ds : List T} {ns : List Int}, Rps sh ts ds → intsOf ds = some ns → ts = ns.map .int
  | _, _, _, .nil, e => by cases e; rfl
  | _, d :: ds, ns, .cons a b, e => by
    cases d <;> simp only [intsOf] at e <;> try (cases e; done)
    obtain ⟨ms, h1, rfl⟩ := Option.map_eq_some_iff.mp e
    cases a
    rw [ints_ok b h1]; rfl
theorem bls_ok : ∀ {ts ds : List T} {ns : List Bool}, Rps sh ts ds → blsOf ds = some ns → ts = ns.map .bl
  | _, _, _, .nil, e => by cases e; rfl
  | _, d :: ds, ns, .cons a b, e => by
    cases d <;> simp only [blsOf] at e <;> try (cases e; done)
    obtain ⟨ms, h1, rfl⟩ := Option.map_eq_some_iff.mp e
    cases a
    rw [bls_ok b h1]; rfl
theorem strs_ok : ∀ {ts ds : List T} {ns : List Sg}, Rps sh ts ds → strsOf ds = some ns → ts = ns.map .str ∧ ∀ s ∈ ns, strOk s
  | _, _, _, .nil, e => by cases e; exact ⟨rfl, fun _ h => by cases h⟩
  | _, d :: ds, ns, .cons a b, e => by
    cases d <;> simp only [strsOf] at e <;> try (cases e; done)
    obtain ⟨ms, h1, rfl⟩ := Option.map_eq_some_iff.mp e
    cases a with
    | str o =>
      obtain ⟨h2, h3⟩ := strs_ok b h1
      exact ⟨by rw [h2]; rfl, fun s hs => by rcases List.mem_cons.mp hs with rfl | hs; exact o; exact h3 s hs⟩
theorem max_uniq : ∀ {ns : List Int} {m k : Int}, maxI ns = some k → m ∈ ns → (∀ y ∈ ns, y ≤ m) → m = k := by
  intro ns m k e hm hy
  cases ns with
  | nil => cases e
  | cons n ns =>
    simp only [maxI, Option.some.injEq] at e
    have key : ∀ (l : List Int) (n : Int), (l.foldl max n = n ∨ l.foldl max n ∈ l) ∧ n ≤ l.foldl max n ∧ ∀ y ∈ l, y ≤ l.foldl max n := by
      intro l
      induction l with
      | nil => intro n; exact ⟨.inl rfl, Int.le_refl _, fun _ h => by cases h⟩
      | cons z l ih =>
        intro n
        rw [List.foldl_cons]
        obtain ⟨h1, h2, h3⟩ := ih (max n z)
        refine ⟨?_, by omega, fun y hy => ?_⟩
        · rcases h1 with h1 | h1
          · by_cases h : n ≤ z
            · exact .inr (by rw [h1, Int.max_eq_right h]; exact .head _)
            · exact .inl (by rw [h1]; omega)
          · exact .inr (.tail _ h1)
        · rcases List.mem_cons.mp hy with rfl | hy
          · omega
          · exact h3 y hy
    obtain ⟨h1, h2, h3⟩ := key ns n
    rw [e] at h1 h2 h3
    have hk : k ∈ n :: ns := by
      rcases h1 with h1 | h1
      · rw [h1]; exact .head _
      · exact .tail _ h1
    have a1 := hy k hk
    have a2 : m ≤ k := by
      rcases List.mem_cons.mp hm with rfl | hm
      · exact h2
      · exact h3 m hm
    omega
theorem min_uniq : ∀ {ns : List Int} {m k : Int}, minI ns = some k → m ∈ ns → (∀ y ∈ ns, m ≤ y) → m = k := by
  intro ns m k e hm hy
  cases ns with
  | nil => cases e
  | cons n ns =>
    simp only [minI, Option.some.injEq] at e
    have key : ∀ (l : List Int) (n : Int), (l.foldl min n = n ∨ l.foldl min n ∈ l) ∧ l.foldl min n ≤ n ∧ ∀ y ∈ l, l.foldl min n ≤ y := by
      intro l
      induction l with
      | nil => intro n; exact ⟨.inl rfl, Int.le_refl _, fun _ h => by cases h⟩
      | cons z l ih =>
        intro n
        rw [List.foldl_cons]
        obtain ⟨h1, h2, h3⟩ := ih (min n z)
        refine ⟨?_, by omega, fun y hy => ?_⟩
        · rcases h1 with h1 | h1
          · by_cases h : z ≤ n
            · exact .inr (by rw [h1, Int.min_eq_right h]; exact .head _)
            · exact .inl (by rw [h1]; omega)
          · exact .inr (.tail _ h1)
        · rcases List.mem_cons.mp hy with rfl | hy
          · omega
          · exact h3 y hy
    obtain ⟨h1, h2, h3⟩ := key ns n
    rw [e] at h1 h2 h3
    have hk : k ∈ n :: ns := by
      rcases h1 with h1 | h1
      · rw [h1]; exact .head _
      · exact .tail _ h1
    have a1 := hy k hk
    have a2 : k ≤ m := by
      rcases List.mem_cons.mp hm with rfl | hm
      · exact h2
      · exact h3 m hm
    omega
theorem liV {f : Li} {ts ds : List T} {r : T} (g : Sub sh st) (hx : Rps sh ts ds) (e : liD f ds = some r) (q : ∀ t sh' st', Gr st sh sh' st' → Rp sh' t r → Q t st') : liSem f ts st Q := by
  have r0 := fun t => q t sh st (.refl g)
  cases f <;> simp only [liD] at e
  · cases e; exact r0 _ (.tup hx)
  · cases e
    intro p hp
    have G := Gr.alloc g (.lst ts) hp
    exact q _ _ _ G (.lst (upd_same _ _ _) (hx.mono G.s2))
  · obtain ⟨ns, h1, rfl⟩ := Option.map_eq_some_iff.mp e
    exact ⟨ns, ints_ok hx h1, r0 _ (.int _)⟩
  · obtain ⟨ns, h1, rfl⟩ := Option.map_eq_some_iff.mp e
    exact ⟨ns, bls_ok hx h1, r0 _ (.bl _)⟩
  · obtain ⟨ns, h1, rfl⟩ := Option.map_eq_some_iff.mp e
    exact ⟨ns, bls_ok hx h1, r0 _ (.bl _)⟩
  · obtain ⟨ns, h1, h2⟩ := Option.bind_eq_some_iff.mp e
    obtain ⟨k, h3, rfl⟩ := Option.map_eq_some_iff.mp h2
    refine ⟨ns, ints_ok hx h1, (fun (z : ns = []) => by subst z; cases h3), fun m hm hy => ?_⟩
    rw [max_uniq h3 hm hy]; exact r0 _ (.int _)
  · obtain ⟨ns, h1, h2⟩ := Option.bind_eq_some_iff.mp e
    obtain ⟨k, h3, rfl⟩ := Option.map_eq_some_iff.mp h2
    refine ⟨ns, ints_ok hx h1, (fun (z : ns = []) => by subst z; cases h3), fun m hm hy => ?_⟩
    rw [min_uniq h3 hm hy]; exact r0 _ (.int _)
  · cases e; show Q _ _; rw [hx.length]; exact r0 _ (.int _)
  · cases e
def RpOk (rp : T → Sg) : Prop := ∀ d, okD d = true → smlT d = true → szT d ≤ SZ → strOk (rp d)
theorem biV {rp : T → Sg} (hrp : RpOk rp) {f : Bi} {ts ds : List T} {r : T} (g : Sub sh st) (hx : Rps sh ts ds) (e : biD rp f ds = some r) (q : ∀ t sh' st', Gr st sh sh' st' → Rp sh' t r → Q t st') : biSem rp f ts st Q := by
  have r0 := fun t => q t sh st (.refl g)
  unfold biD at e
  split at e
  · cases hx with
    | cons h1 h2 =>
      cases h2
      obtain ⟨n, h3, rfl⟩ := Option.map_eq_some_iff.mp e
      cases h1 <;> simp only [lenD] at h3 <;> cases h3
      · rename_i o; exact ⟨o.2, r0 _ (.int _)⟩
      · rename_i r1; show Q _ _; rw [r1.length]; exact r0 _ (.int _)
      · rename_i e1 r1; exact ⟨_, g _ _ e1, by rw [r1.length]; exact r0 _ (.int _)⟩
  · cases hx with
    | cons h1 h2 => cases h1; cases h2; cases e; exact r0 _ (.int _)
  · cases hx with
    | cons h1 h2 => cases h1; cases h2; cases e; exact r0 _ (.int _)
  · cases hx with
    | cons h1 h2 => cases h1; cases h2; cases e; exact r0 _ (.int _)
  · cases hx with
    | cons h1 h2 =>
      cases h2
      split at e
      · rename_i h
        obtain ⟨d1, o1⟩ := h1.okE h.1
        cases e
        exact ⟨_, dp_mono g d1, o1, h.2.1, h.2.2, r0 _ (.str (hrp _ o1 h.2.1 h.2.2))⟩
      · cases e
  · cases hx with
    | cons h1 h2 => cases h1; cases h2 with
      | cons h1 h2 => cases h1; cases h2; cases e; exact r0 _ (.int _)
  · cases hx with
    | cons h1 h2 => cases h1; cases h2 with
      | cons h1 h2 => cases h1; cases h2; cases e; exact r0 _ (.int _)
  · cases hx with
    | cons h1 h2 => cases h1; cases h2 with
      | cons h1 h2 =>
        cases h1; cases h2
        split at e
        · rename_i h
          cases e
          exact ⟨h, r0 _ (.tup (.cons (.int _) (.cons (.int _) .nil)))⟩
        · cases e
  · cases e
theorem mem_flat {s : Sg} : ∀ {ss : List Sg} {sep : Sg}, (∀ s ∈ ss, strOk s) → strOk sep → ∀ c ∈ List.intercalate sep ss, c < 1114112 := by
  intro ss sep h1 h2 c hc
  unfold List.intercalate at hc
  obtain ⟨l, hl, hc⟩ := List.mem_flatten.mp hc
  have : l ∈ ss ∨ l = sep := by
    have key : ∀ ss : List Sg, l ∈ List.intersperse sep ss → l ∈ ss ∨ l = sep := by
      intro ss
      induction ss with
      | nil => intro h; simp at h
      | cons x ss ih =>
        intro h
        cases ss with
        | nil => simp [List.intersperse] at h; exact .inl (by simp [h])
        | cons y ss =>
          simp only [List.intersperse, List.mem_cons] at h
          rcases h with h | h | h
          · exact .inl (by simp [h])
          · exact .inr h
          · rcases ih (by simpa using h) with h | h
            · exact .inl (by simp only [List.mem_cons] at h ⊢; exact .inr h)
            · exact .inr h
    exact key ss hl
  have ok : strOk l := by
    rcases this with h | rfl
    · exact h1 l h
    · exact h2
  exact of_decide_eq_true (List.all_eq_true.mp ok.1 c hc)
theorem inter_len (sep : Sg) : ∀ ss : List Sg, (List.intercalate sep ss).length ≤ (ss.map (·.length)).sum + ss.length * sep.length := by
  intro ss
  induction ss with
  | nil => simp
  | cons x ss ih =>
    cases ss with
    | nil => simp [List.intercalate, List.intersperse]
    | cons y ss =>
      unfold List.intercalate at ih ⊢
      simp only [List.intersperse, List.flatten_cons, List.length_append, List.map_cons, List.sum_cons, List.length_cons] at ih ⊢
      rw [show (ss.length + 1 + 1) * sep.length = (ss.length + 1) * sep.length + sep.length by rw [Nat.add_mul (ss.length + 1) 1]; omega]
      omega
theorem join_ok {sep : Sg} {ts ds : List T} {r : T} (g : Sub sh st) (hsep : strOk sep) (hx : Rps sh ts ds) (e : joinD (.str sep) ds = some r) (q : ∀ t sh' st', Gr st sh sh' st' → Rp sh' t r → Q t st') :
    ∃ ss : List Sg, ts = ss.map .str ∧ (ss.map (·.length)).sum + ss.length * sep.length ≤ SZ ∧ Q (.str (List.intercalate sep ss)) st := by
  simp only [joinD] at e
  obtain ⟨ss, h1, h2⟩ := Option.bind_eq_some_iff.mp e
  obtain ⟨h3, h4⟩ := strs_ok hx h1
  split at h2
  · rename_i h
    cases h2
    refine ⟨ss, h3, h, q _ _ _ (.refl g) (.str ⟨?_, ?_⟩)⟩
    · exact List.all_eq_true.mpr fun c hc => decide_eq_true (mem_flat (s := []) h4 hsep c hc)
    · exact Nat.le_trans (inter_len sep ss) h
  · cases h2
mutual
theorem asg_okD : ∀ (tg : Tg) {t d : T} {env : Env} {de e2 : DE} {Q : Env → Prop}, Sub sh st → ER sh env de → Rp sh t d → asgD tg d de = some e2 → (∀ env2, ER sh env2 e2 → Q env2) → asgT tg t st env Q
  | .name i, t, d, env, de, e2, Q, g, r, h, e, q => by
    simp only [asgD] at e; cases e
    simp only [asgT]
    exact q _ (r.set h)
  | .tup gs, t, d, env, de, e2, Q, g, r, h, e, q => by
    cases h <;> simp only [asgD] at e <;> try (cases e; done)
    · simp only [asgT]
      exact asgs_okD gs g r (by assumption) e q
    · simp only [asgT]
      rename_i e1 r1
      exact ⟨_, g _ _ e1, asgs_okD gs g r r1 e q⟩
theorem asgs_okD : ∀ (gs : List Tg) {ts ds : List T} {env : Env} {de e2 : DE} {Q : Env → Prop}, Sub sh st → ER sh env de → Rps sh ts ds → asgDs gs ds de = some e2 → (∀ env2, ER sh env2 e2 → Q env2) → asgTs gs ts st env Q
  | [], _, _, env, de, e2, Q, g, r, .nil, e, q => by
    simp only [asgDs] at e; cases e
    simp only [asgTs]
    exact q _ r
  | [], _, _, env, de, e2, Q, g, r, .cons _ _, e, q => by simp [asgDs] at e
  | _ :: _, _, _, env, de, e2, Q, g, r, .nil, e, q => by simp [asgDs] at e
  | tg :: gs, _, _, env, de, e2, Q, g, r, .cons a b, e, q => by
    simp only [asgDs] at e
    split at e
    · rename_i e1 h1
      simp only [asgTs]
      exact asg_okD tg g r a h1 fun env2 r2 => asgs_okD gs g r2 b e q
    · cases e
end
theorem srt_ok {ts ds us : List T} {Q : List T → Prop} (hx : Rps sh ts ds) (e : srtD ds = some us) (q : ∀ vs, Rps sh vs us → Q vs) : srtSem ts Q := by
  unfold srtD at e
  split at e
  · rename_i h
    obtain ⟨⟨h1, h2⟩, h3, h4⟩ := h
    cases e
    obtain ⟨rfl, hs⟩ := hx.pure h1
    have isd : isDs ts = true := (Dps.pure (fun _ => none) ts h1).isDs
    refine ⟨?_, q _ ?_⟩
    · simp only [srtOk, okDs, h1, (hx.dp isd).2, h3, Bool.and_eq_true, Bool.or_eq_true, decide_eq_true_eq, and_true, true_and, h2]
      exact h4
    · have pm : ∀ t ∈ msort ts, t ∈ ts := fun t ht => (List.mergeSort_perm ts _).mem_iff.mp ht
      have mm : ∀ l : List T, (∀ t ∈ l, t ∈ ts) → Rps sh l l := by
        intro l
        induction l with
        | nil => intro _; exact .nil
        | cons x l ih =>
          intro hl
          refine .cons ?_ (ih fun t ht => hl t (.tail _ ht))
          obtain ⟨i, hi⟩ := List.getElem?_of_mem (hl x (.head _))
          obtain ⟨t, h5, h6⟩ := hx.get hi
          rw [hi] at h5; cases h5
          exact h6
      exact mm _ pm
  · cases e
theorem rangeLen (lo hi : Int) : (rangeT lo hi).length = (hi - lo).toNat := by simp [rangeT]
theorem range_rp {lo hi : Int} : Rps sh (rangeT lo hi) (rangeT lo hi) := by
  have mm : ∀ l : List Int, Rps sh (l.map .int) (l.map .int) := by
    intro l
    induction l with
    | nil => exact .nil
    | cons x l ih => exact .cons (.int _) ih
  unfold rangeT
  have : (List.range (hi - lo).toNat).map (fun i => T.int (lo + Int.ofNat i)) = ((List.range (hi - lo).toNat).map fun i => lo + Int.ofNat i).map .int := by rw [List.map_map]; rfl
  rw [this]
  exact mm _
theorem range_ok {ts ds us : List T} {Q : List T → Prop} (hx : Rps sh ts ds) (e : rangeD ds = some us) (q : us.length ≤ SZ → Rps sh us us → Q us) : rangeSem ts Q := by
  unfold rangeD at e
  split at e
  · cases hx with
    | cons h1 h2 =>
      cases h1; cases h2
      split at e
      · rename_i h
        cases e
        have z : (SZ : Int) = 16777216 := rfl
        exact ⟨⟨h.1, by omega⟩, q (by rw [rangeLen]; unfold SZ; omega) range_rp⟩
      · cases e
  · cases hx with
    | cons h1 h2 => cases h1; cases h2 with
      | cons h1 h2 =>
        cases h1; cases h2
        split at e
        · rename_i h
          cases e
          have z : (SZ : Int) = 16777216 := rfl
          exact ⟨⟨h.1, by omega, h.2.2.1, by omega⟩, q (by rw [rangeLen]; unfold SZ; omega) range_rp⟩
        · cases e
  · cases e
theorem zw_rp {f : T → T → T} (hf : ∀ a b c d, Rp sh a b → Rp sh c d → Rp sh (f a c) (f b d)) : ∀ {ts ds us es : List T}, Rps sh ts ds → Rps sh us es → Rps sh (List.zipWith f ts us) (List.zipWith f ds es)
  | _, _, _, _, .nil, _ => by simp; exact .nil
  | _, _, _, _, .cons _ _, .nil => by simp; exact .nil
  | _, _, _, _, .cons a b, .cons c d => .cons (hf _ _ _ _ a c) (zw_rp hf b d)
theorem enum_rp {ts ds : List T} (hx : Rps sh ts ds) : Rps sh (enumT ts) (enumT ds) := by
  unfold enumT
  rw [hx.length]
  generalize List.range ds.length = l
  induction l generalizing ts ds with
  | nil => simp; exact .nil
  | cons i l ih =>
    cases hx with
    | nil => simp; exact .nil
    | cons a b => exact .cons (.tup (.cons (.int _) (.cons a .nil))) (ih b)
theorem zip3_rp : ∀ {a b c d e f : List T}, Rps sh a b → Rps sh c d → Rps sh e f → Rps sh (List.zipWith (fun x yz => T.tup (x :: yz)) a (List.zipWith (fun y z => [y, z]) c e)) (List.zipWith (fun x yz => T.tup (x :: yz)) b (List.zipWith (fun y z => [y, z]) d f))
  | _, _, _, _, _, _, .nil, _, _ => by simp; exact .nil
  | _, _, _, _, _, _, .cons _ _, .nil, _ => by simp; exact .nil
  | _, _, _, _, _, _, .cons _ _, .cons _ _, .nil => by simp; exact .nil
  | _, _, _, _, _, _, .cons x a, .cons y b, .cons z c => .cons (.tup (.cons x (.cons y (.cons z .nil)))) (zip3_rp a b c)
inductive Rpss (s : St) : List (List T) → List (List T) → Prop
  | nil : Rpss s [] []
  | cons {t d : List T} {ts ds : List (List T)} : Rps s t d → Rpss s ts ds → Rpss s (t :: ts) (d :: ds)
theorem Rpss.mono {s s' : St} (h : Sub s s') : ∀ {ts ds : List (List T)}, Rpss s ts ds → Rpss s' ts ds
  | _, _, .nil => .nil
  | _, _, .cons a b => .cons (a.mono h) (Rpss.mono h b)
theorem zip_ok {ts ds : List (List T)} {us : List T} (hx : Rpss sh ts ds) (hl : ∀ d ∈ ds, d.length ≤ SZ) (e : zipD ds = some us) : Rps sh (zipT ts) us ∧ us.length ≤ SZ := by
  unfold zipD at e
  split at e
  · cases hx with
    | cons h1 h2 => cases h2 with
      | cons h2 h3 =>
        cases h3; cases e
        refine ⟨zw_rp (fun a b c d x y => .tup (.cons x (.cons y .nil))) h1 h2, ?_⟩
        have := hl _ (.head _)
        simp only [zipT, List.length_zipWith]
        omega
  · cases hx with
    | cons h1 h2 => cases h2 with
      | cons h2 h3 => cases h3 with
        | cons h3 h4 =>
          cases h4; cases e
          refine ⟨?_, ?_⟩
          · simp only [zipT]
            exact zip3_rp h1 h2 h3
          · have := hl _ (.head _)
            simp only [zipT, List.length_zipWith]
            omega
  · cases e
end
end Mo

set_option Elab.async false
set_option linter.all false
set_option maxRecDepth 100000
set_option autoImplicit false
set_option maxHeartbeats 8000000
namespace Mo
open PySem PyProof.Rows

/-- what an owned thing shows -/
def OR (sh : St) : O → T → Prop
  | .lst ts, .lst ds => Rps sh ts ds
  | .dct b kvs, .dct b' ks vs => b = b' ∧ RpK sh kvs ks vs
  | _, _ => False
theorem OR.mono {s s' : St} (h : Sub s s') : ∀ {o : O} {d : T}, OR s o d → OR s' o d := by
  intro o d r
  cases o <;> cases d <;> first | exact r.elim | exact Rps.mono h r | exact ⟨r.1, RpK.mono h r.2⟩
theorem OR.obj {s : St} {a : Nat} : ∀ {o : O} {d : T}, s a = some o → OR s o d → Rp s (.ref a) d := by
  intro o d e r
  cases o <;> cases d <;> first | exact r.elim | exact .lst e r | (obtain ⟨rfl, r⟩ := r; exact .dct e r)
def VR (s0 sh st : St) : Bool × T → T → Prop
  | (true, d), t => ∃ a o, t = .ref a ∧ s0 a = none ∧ sh a = none ∧ st a = some o ∧ OR sh o d
  | (false, d), t => Rp sh t d
theorem VR.grow {s0 sh st sh' st' : St} (g : Gr st sh sh' st') : ∀ {r : Bool × T} {t : T}, VR s0 sh st r t → VR s0 sh' st' r t
  | (true, _), _, ⟨a, o, h2, h3, h4, h5, h6⟩ => ⟨a, o, h2, h3, by rw [g.nw a (by rw [h5]; exact fun z => by cases z)]; exact h4, g.s1 _ _ h5, h6.mono g.s2⟩
  | (false, _), _, h => Rp.mono g.s2 h
/-- now all may see it -/
theorem VR.pub {s0 sh0 sh st : St} (g : Gr s0 sh0 sh st) : ∀ {r : Bool × T} {t : T}, VR s0 sh st r t → ∃ sh', Gr s0 sh0 sh' st ∧ Sub sh sh' ∧ Rp sh' t r.2
  | (true, _), _, ⟨a, o, h2, h3, h4, h5, h6⟩ => by
    subst h2
    have k : Sub sh (upd sh a o) := Sub.upd (.refl _) h4
    refine ⟨upd sh a o, ⟨g.s1, g.s2.trans k, fun b o e => ?_, fun b n => ?_⟩, k, OR.obj (upd_same _ _ _) (h6.mono k)⟩
    · by_cases h : b = a
      · subst h; rw [upd_same] at e; cases e; exact h5
      · rw [upd_ne h] at e; exact g.s3 b o e
    · rw [upd_ne (fun z => n (by rw [z]; exact h3))]; exact g.nw b n
  | (false, _), _, h => ⟨sh, g, .refl _, h⟩
structure CEv (C : Cxt) (D : Ec) : Prop where
  call : ∀ (f : Nat) (ds ts : List T) (sh st : St), Sub sh st → Rps sh ts ds → ∀ (E' : Ex → Prop) (P : Bool × T → Prop) (E : EK) (Q : TK), (D.call f ds).all E' P → ExOk st sh E' E →
    (∀ r, P r → ∀ t sh' st', Gr st sh sh' st' → VR st sh' st' r t → Q t st') → C.call f ts st E Q
  nf : D.nf = C.nf
  glob : D.glob = C.glob
  rp : D.rp = C.rp
  rpOk : RpOk C.rp
section
variable {C : Cxt} {D : Ec} (c : CEv C D)
theorem itl_ok {chk : St → Prop} {turn : T → List T → St → (List T → St → Prop) → Prop} {f : T → Tr (Option T)} {E' : Ex → Prop} {sh0 : St}
    (hc : ∀ s, Sub sh0 s → chk s)
    (ht : ∀ (x d : T) (acc ads : List T) (sh st : St) (P : Option T → Prop) (k : List T → St → Prop), Sub sh0 sh → Sub sh st → Rp sh x d → Rps sh acc ads → acc.length < SZ → (f d).all E' P →
      (∀ o, P o → ∀ acc' sh' st', Gr st sh sh' st' → Rps sh' acc' (match o with | some y => ads ++ [y] | none => ads) → k acc' st') → turn x acc st k) :
    ∀ {xs ds : List T} {acc ads : List T} {sh st : St} {P : List T → Prop} {Q : List T → St → Prop}, Sub sh0 sh → Sub sh st → Rps sh xs ds → Rps sh acc ads → acc.length + xs.length ≤ SZ →
      (evCo f ds).all E' P → (∀ ys, P ys → ∀ acc' sh' st', Gr st sh sh' st' → Rps sh' acc' (ads ++ ys) → acc'.length ≤ SZ → Q acc' st') → itl chk turn xs acc st Q := by
  intro xs
  induction xs with
  | nil =>
    intro ds acc ads sh st P Q k0 g r ra hl h q
    cases r
    have h : P [] := h
    exact ⟨hc _ (k0.trans g), q [] h acc sh st (.refl g) (by rw [List.append_nil]; exact ra) (by simpa using hl)⟩
  | cons x xs ih =>
    intro ds acc ads sh st P Q k0 g r ra hl h q
    cases r with
    | cons r1 r2 =>
      simp only [evCo, all_bind] at h
      rw [List.length_cons] at hl
      refine ⟨hc _ (k0.trans g), ht _ _ acc ads sh st _ _ k0 g r1 ra (by omega) h fun o ho acc' sh' st' G ra' => ⟨st', .refl _, ?_⟩⟩
      have la : acc'.length ≤ acc.length + 1 := by
        rw [ra'.length, ra.length]
        cases o <;> simp
      refine ih (k0.trans G.s2) G.s3 (r2.mono G.s2) ra' (by omega) ho fun ys hy acc2 sh2 st2 G2 ra2 => q _ hy acc2 sh2 st2 (G.trans G2) ?_
      cases o with
      | none => exact ra2
      | some y => simpa [consO] using ra2
omit c in
theorem evEs_len {D : Ec} {de : DE} {E' : Ex → Prop} : ∀ (es : List X) {P : List T → Prop}, (evEs D es de).all E' P → (evEs D es de).all E' fun ds => P ds ∧ ds.length = es.length
  | [], P, h => by simp only [evEs, all_ret] at h ⊢; exact ⟨h, rfl⟩
  | e :: es, P, h => by
    simp only [evEs, all_bind] at h ⊢
    refine all_mono (fun v hv => ?_) _ h
    refine all_mono (fun vs hs => ?_) _ (evEs_len es hv)
    exact ⟨hs.1, by rw [List.length_cons, List.length_cons, hs.2]⟩
omit c in
theorem srt_len {ds us : List T} (e : srtD ds = some us) : us.length = ds.length := by
  unfold srtD at e
  split at e
  · cases e; exact (List.mergeSort_perm ds _).length_eq
  · cases e
include c
mutual
theorem ev_e : ∀ (e : X) {sh st : St} {env : Env} {de : DE} {E' : Ex → Prop} {P : T → Prop} {E : EK} {Q : TK}, ER sh env de → Sub sh st → (evE D e de).all E' P → ExOk st sh E' E →
    (∀ d, P d → ∀ t sh' st', Gr st sh sh' st' → Rp sh' t d → Q t st') → wpE C e env st E Q
  | .var i, sh, st, env, de, E', P, E, Q, r, g, h, x, q => by
    simp only [evE] at h
    obtain ⟨d, h1, h2⟩ := all_ofO h
    obtain ⟨t, h3, h4⟩ := r.get h1
    simp only [wpE, h3]
    exact q d h2 t sh st (.refl g) h4
  | .int i, sh, st, env, de, E', P, E, Q, r, g, h, x, q => by
    simp only [evE, all_ret] at h; simp only [wpE]
    exact q _ h _ sh st (.refl g) (.int _)
  | .str s, sh, st, env, de, E', P, E, Q, r, g, h, x, q => by
    simp only [evE] at h; simp only [wpE]
    split at h
    · rename_i o; exact q _ h _ sh st (.refl g) (.str o)
    · exact h.elim
  | .bl b, sh, st, env, de, E', P, E, Q, r, g, h, x, q => by
    simp only [evE, all_ret] at h; simp only [wpE]
    exact q _ h _ sh st (.refl g) (.bl _)
  | .non, sh, st, env, de, E', P, E, Q, r, g, h, x, q => by
    simp only [evE, all_ret] at h; simp only [wpE]
    exact q _ h _ sh st (.refl g) .non
  | .glob i, sh, st, env, de, E', P, E, Q, r, g, h, x, q => by
    simp only [evE, c.glob] at h; simp only [wpE]
    split at h
    · rename_i v hv
      try rw [hv]
      split at h
      · rename_i o; exact q _ h _ sh st (.refl g) (.of_pure _ o.1 o.2)
      · exact h.elim
    · exact h.elim
  | .fnv i, sh, st, env, de, E', P, E, Q, r, g, h, x, q => by
    simp only [evE, all_ret] at h; simp only [wpE]
    exact q _ h _ sh st (.refl g) (.fn _)
  | .bin o a b, sh, st, env, de, E', P, E, Q, r, g, h, x, q => by
    simp only [evE, all_bind] at h; simp only [wpE]
    refine ev_e a r g h x fun d1 h1 t1 sh1 st1 g1 r1 => ev_e b (r.mono g1.s2) g1.s3 h1 (x.trans g1) fun d2 h2 t2 sh2 st2 g2 r2 => ?_
    obtain ⟨v, e, hv⟩ := all_ofO h2
    exact bin_ok g2.s3 (r1.mono g2.s2) r2 e fun t sh' st' g3 r3 => q v hv t sh' st' ((g1.trans g2).trans g3) r3
  | .neg a, sh, st, env, de, E', P, E, Q, r, g, h, x, q => by
    simp only [evE, all_bind] at h; simp only [wpE]
    refine ev_e a r g h x fun d1 h1 t1 sh1 st1 g1 r1 => ?_
    simp only [all_bind, all_ret] at h1
    obtain ⟨v, e, hv⟩ := all_ofO h1
    cases r1 <;> simp only [intD] at e <;> cases e
    exact q _ hv _ _ _ g1 (.int _)
  | .not a, sh, st, env, de, E', P, E, Q, r, g, h, x, q => by
    simp only [evE, all_bind] at h; simp only [wpE]
    refine ev_e a r g h x fun d1 h1 t1 sh1 st1 g1 r1 => ?_
    obtain ⟨v, e, hv⟩ := all_ofO h1
    exact tru_ok g1.s3 r1 e (q _ hv _ _ _ g1 (.bl _))
  | .and a b, sh, st, env, de, E', P, E, Q, r, g, h, x, q => by
    simp only [evE, all_bind] at h; simp only [wpE]
    refine ev_e a r g h x fun d1 h1 t1 sh1 st1 g1 r1 => ?_
    obtain ⟨v, e, hv⟩ := all_ofO h1
    refine tru_ok g1.s3 r1 e ?_
    split
    · rename_i hb; rw [if_pos hb] at hv
      exact ev_e b (r.mono g1.s2) g1.s3 hv (x.trans g1) fun d2 h2 t2 sh2 st2 g2 r2 => q _ h2 _ _ _ (g1.trans g2) r2
    · rename_i hb; rw [if_neg hb] at hv
      exact q _ hv _ _ _ g1 r1
  | .or a b, sh, st, env, de, E', P, E, Q, r, g, h, x, q => by
    simp only [evE, all_bind] at h; simp only [wpE]
    refine ev_e a r g h x fun d1 h1 t1 sh1 st1 g1 r1 => ?_
    obtain ⟨v, e, hv⟩ := all_ofO h1
    refine tru_ok g1.s3 r1 e ?_
    split
    · rename_i hb; rw [if_pos hb] at hv
      exact q _ hv _ _ _ g1 r1
    · rename_i hb; rw [if_neg hb] at hv
      exact ev_e b (r.mono g1.s2) g1.s3 hv (x.trans g1) fun d2 h2 t2 sh2 st2 g2 r2 => q _ h2 _ _ _ (g1.trans g2) r2
  | .ite cc a b, sh, st, env, de, E', P, E, Q, r, g, h, x, q => by
    simp only [evE, all_bind] at h; simp only [wpE]
    refine ev_t cc r g h x fun v hv sh1 st1 g1 => ?_
    split
    · rename_i hb; rw [if_pos hb] at hv
      exact ev_e a (r.mono g1.s2) g1.s3 hv (x.trans g1) fun d2 h2 t2 sh2 st2 g2 r2 => q _ h2 _ _ _ (g1.trans g2) r2
    · rename_i hb; rw [if_neg hb] at hv
      exact ev_e b (r.mono g1.s2) g1.s3 hv (x.trans g1) fun d2 h2 t2 sh2 st2 g2 r2 => q _ h2 _ _ _ (g1.trans g2) r2
  | .cmp o a b, sh, st, env, de, E', P, E, Q, r, g, h, x, q => by
    simp only [evE, all_bind] at h; simp only [wpE]
    refine ev_e a r g h x fun d1 h1 t1 sh1 st1 g1 r1 => ev_e b (r.mono g1.s2) g1.s3 h1 (x.trans g1) fun d2 h2 t2 sh2 st2 g2 r2 => ?_
    obtain ⟨v, e, hv⟩ := all_ofO h2
    exact cmp_ok g2.s3 (r1.mono g2.s2) r2 e (q _ hv _ _ _ (g1.trans g2) (.bl _))
  | .chain o p a b c3, sh, st, env, de, E', P, E, Q, r, g, h, x, q => by
    simp only [evE, all_bind] at h; simp only [wpE]
    refine ev_e a r g h x fun d1 h1 t1 sh1 st1 g1 r1 => ev_e b (r.mono g1.s2) g1.s3 h1 (x.trans g1) fun d2 h2 t2 sh2 st2 g2 r2 => ?_
    obtain ⟨v, e, hv⟩ := all_ofO h2
    refine cmp_ok g2.s3 (r1.mono g2.s2) r2 e ?_
    split
    · rename_i hb; rw [if_pos hb] at hv
      simp only [all_bind] at hv
      refine ev_e c3 (r.mono (g1.trans g2).s2) g2.s3 hv ((x.trans g1).trans g2) fun d3 h3 t3 sh3 st3 g3 r3 => ?_
      obtain ⟨u, e', hu⟩ := all_ofO h3
      exact cmp_ok g3.s3 (r2.mono g3.s2) r3 e' (q _ hu _ _ _ ((g1.trans g2).trans g3) (.bl _))
    · rename_i hb; rw [if_neg hb] at hv
      exact q _ hv _ _ _ (g1.trans g2) (.bl _)
  | .tup es, sh, st, env, de, E', P, E, Q, r, g, h, x, q => by
    simp only [evE, all_bind] at h; simp only [wpE]
    exact ev_es es r g h x fun ds hd ts sh1 st1 g1 r1 => q _ hd _ _ _ g1 (.tup r1)
  | .new l, sh, st, env, de, E', P, E, Q, r, g, h, x, q => by
    simp only [evE, all_bind] at h; simp only [wpE]
    exact ev_l l r g h x fun ds hd ts chk sh1 st1 g1 r1 _ _ p hp => new_rp g1.s3 hp r1 fun t sh' st' g2 r2 => q _ hd _ _ _ (g1.trans g2) r2
  | .idx a b, sh, st, env, de, E', P, E, Q, r, g, h, x, q => by
    simp only [evE, all_bind] at h; simp only [wpE]
    refine ev_e a r g h x fun d1 h1 t1 sh1 st1 g1 r1 => ev_e b (r.mono g1.s2) g1.s3 h1 (x.trans g1) fun d2 h2 t2 sh2 st2 g2 r2 => ?_
    obtain ⟨v, e, hv⟩ := all_ofO h2
    exact idx_ok g2.s3 (r1.mono g2.s2) r2 e fun t sh' st' g3 r3 => q v hv t sh' st' ((g1.trans g2).trans g3) r3
  | .slc a lo hi, sh, st, env, de, E', P, E, Q, r, g, h, x, q => by
    simp only [evE, all_bind] at h; simp only [wpE]
    refine ev_e a r g h x fun d1 h1 t1 sh1 st1 g1 r1 => ev_o lo (r.mono g1.s2) g1.s3 h1 (x.trans g1) fun l hl sh2 st2 g2 => ev_o hi (r.mono (g1.trans g2).s2) g2.s3 hl ((x.trans g1).trans g2) fun u hu sh3 st3 g3 => ?_
    obtain ⟨v, e, hv⟩ := all_ofO hu
    exact slc_ok g3.s3 (r1.mono (g2.trans g3).s2) e fun t sh' st' g4 r4 => q v hv t sh' st' (((g1.trans g2).trans g3).trans g4) r4
  | .rev a, sh, st, env, de, E', P, E, Q, r, g, h, x, q => by
    simp only [evE, all_bind] at h; simp only [wpE]
    refine ev_e a r g h x fun d1 h1 t1 sh1 st1 g1 r1 => ?_
    obtain ⟨v, e, hv⟩ := all_ofO h1
    exact rev_ok g1.s3 r1 e fun t sh' st' g3 r3 => q v hv t sh' st' (g1.trans g3) r3
  | .call f es, sh, st, env, de, E', P, E, Q, r, g, h, x, q => by
    simp only [evE, all_bind] at h; simp only [wpE]
    refine ev_es es r g h x fun ds hd ts sh1 st1 g1 r1 => c.call f ds ts sh1 st1 g1.s3 r1 _ _ _ _ hd (x.trans g1) fun v hv t sh2 st2 g2 r2 => ?_
    obtain ⟨sh3, g3, k3, r3⟩ := r2.pub g2
    exact q _ hv _ _ _ (g1.trans g3) r3
  | .callv i es, sh, st, env, de, E', P, E, Q, r, g, h, x, q => by
    simp only [evE] at h
    split at h
    · rename_i f hf
      obtain ⟨t, h3, h4⟩ := r.get hf
      cases h4
      split at h
      · rename_i hn
        simp only [all_bind] at h
        simp only [wpE, h3]
        refine ⟨by rw [← c.nf]; exact hn, ev_es es r g h x fun ds hd ts sh1 st1 g1 r1 => c.call f ds ts sh1 st1 g1.s3 r1 _ _ _ _ hd (x.trans g1) fun v hv t sh2 st2 g2 r2 => ?_⟩
        obtain ⟨sh3, g3, k3, r3⟩ := r2.pub g2
        exact q _ hv _ _ _ (g1.trans g3) r3
      · exact h.elim
    · exact h.elim
  | .bi f es, sh, st, env, de, E', P, E, Q, r, g, h, x, q => by
    simp only [evE, all_bind, c.rp] at h; simp only [wpE]
    refine ev_es es r g h x fun ds hd ts sh1 st1 g1 r1 => ?_
    obtain ⟨v, e, hv⟩ := all_ofO hd
    exact biV c.rpOk g1.s3 r1 e fun t sh' st' g3 r3 => q v hv t sh' st' (g1.trans g3) r3
  | .isi a ty, sh, st, env, de, E', P, E, Q, r, g, h, x, q => by
    simp only [evE, all_bind] at h; simp only [wpE]
    refine ev_e a r g h x fun d1 h1 t1 sh1 st1 g1 r1 => ?_
    obtain ⟨v, e, hv⟩ := all_ofO h1
    exact isi_ok g1.s3 r1 e (q _ hv _ _ _ g1 (.bl _))
  | .li f l, sh, st, env, de, E', P, E, Q, r, g, h, x, q => by
    simp only [evE, all_bind] at h; simp only [wpE]
    refine ev_l l r g h x fun ds hd ts chk sh1 st1 g1 r1 _ _ => ?_
    obtain ⟨v, e, hv⟩ := all_ofO hd
    exact liV g1.s3 r1 e fun t sh' st' g3 r3 => q v hv t sh' st' (g1.trans g3) r3
  | .join a l, sh, st, env, de, E', P, E, Q, r, g, h, x, q => by
    simp only [evE, all_bind] at h; simp only [wpE]
    refine ev_e a r g h x fun d1 h1 t1 sh1 st1 g1 r1 => ?_
    obtain ⟨sep, e0, hv0⟩ := all_ofO h1
    cases r1 <;> simp only [strD] at e0 <;> cases e0
    rename_i o
    refine ⟨⟨_, rfl⟩, ev_l l (r.mono g1.s2) g1.s3 hv0 (x.trans g1) fun ds hd ts chk sh2 st2 g2 r2 _ _ => ?_⟩
    obtain ⟨v, e, hv⟩ := all_ofO hd
    exact join_ok g2.s3 o r2 e fun t sh' st' g3 r3 => q v hv t sh' st' ((g1.trans g2).trans g3) r3
  | .me .get2 o es, sh, st, env, de, E', P, E, Q, r, g, h, x, q => by
    simp only [evE, all_bind] at h; simp only [wpE]
    refine ev_e o r g h x fun d1 h1 t1 sh1 st1 g1 r1 => ?_
    split at h1
    · rename_i hd
      simp only [all_bind] at h1
      refine ⟨?_, ev_es es (r.mono g1.s2) g1.s3 h1 (x.trans g1) fun ds hd ts sh2 st2 g2 r2 => ?_⟩
      · cases r1 <;> simp only [isDct] at hd <;> try (cases hd; done)
        rename_i e1 r1
        exact ⟨_, _, _, rfl, g1.s3 _ _ e1⟩
      · obtain ⟨v, e, hv⟩ := all_ofO hd
        exact get2_ok g2.s3 (r1.mono g2.s2) r2 e fun t sh' st' g3 r3 => q v hv t sh' st' ((g1.trans g2).trans g3) r3
    · exact h1.elim
  | .me .append o es, sh, st, env, de, E', P, E, Q, r, g, h, x, q => by
    simp only [evE] at h
    exact h.elim
  | .me .pop o es, sh, st, env, de, E', P, E, Q, r, g, h, x, q => by
    simp only [evE] at h
    exact h.elim
  | .me .index o es, sh, st, env, de, E', P, E, Q, r, g, h, x, q => by
    simp only [evE] at h
    exact h.elim
  | .me .get o es, sh, st, env, de, E', P, E, Q, r, g, h, x, q => by
    simp only [evE] at h
    exact h.elim
  | .me .items o es, sh, st, env, de, E', P, E, Q, r, g, h, x, q => by
    simp only [evE] at h
    exact h.elim
  | .me .insert o es, sh, st, env, de, E', P, E, Q, r, g, h, x, q => by
    simp only [evE] at h
    exact h.elim
  | .me .remove o es, sh, st, env, de, E', P, E, Q, r, g, h, x, q => by
    simp only [evE] at h
    exact h.elim
  | .me .count o es, sh, st, env, de, E', P, E, Q, r, g, h, x, q => by
    simp only [evE] at h
    exact h.elim
  | .dct _, sh, st, env, de, E', P, E, Q, r, g, h, x, q => by
    simp only [evE] at h
    exact h.elim
  | .dnew _, sh, st, env, de, E', P, E, Q, r, g, h, x, q => by
    simp only [evE] at h
    exact h.elim
theorem ev_t : ∀ (e : X) {sh st : St} {env : Env} {de : DE} {E' : Ex → Prop} {P : Bool → Prop} {E : EK} {Q : Bool → St → Prop}, ER sh env de → Sub sh st → (evT D e de).all E' P → ExOk st sh E' E →
    (∀ b, P b → ∀ sh' st', Gr st sh sh' st' → Q b st') → wpT C e env st E Q
  | .not a, sh, st, env, de, E', P, E, Q, r, g, h, x, q => by
    simp only [evT, all_bind] at h; simp only [wpT]
    exact ev_t a r g h x fun b hb sh1 st1 g1 => q _ hb _ _ g1
  | .and a b, sh, st, env, de, E', P, E, Q, r, g, h, x, q => by
    simp only [evT, all_bind] at h; simp only [wpT]
    refine ev_t a r g h x fun v hv sh1 st1 g1 => ?_
    split
    · rename_i hb; rw [if_pos hb] at hv
      exact ev_t b (r.mono g1.s2) g1.s3 hv (x.trans g1) fun v2 h2 sh2 st2 g2 => q _ h2 _ _ (g1.trans g2)
    · rename_i hb; rw [if_neg hb] at hv
      exact q _ hv _ _ g1
  | .or a b, sh, st, env, de, E', P, E, Q, r, g, h, x, q => by
    simp only [evT, all_bind] at h; simp only [wpT]
    refine ev_t a r g h x fun v hv sh1 st1 g1 => ?_
    split
    · rename_i hb; rw [if_pos hb] at hv
      exact q _ hv _ _ g1
    · rename_i hb; rw [if_neg hb] at hv
      exact ev_t b (r.mono g1.s2) g1.s3 hv (x.trans g1) fun v2 h2 sh2 st2 g2 => q _ h2 _ _ (g1.trans g2)
  | .ite cc a b, sh, st, env, de, E', P, E, Q, r, g, h, x, q => by
    simp only [evT, all_bind] at h; simp only [wpT]
    refine ev_t cc r g h x fun v hv sh1 st1 g1 => ?_
    split
    · rename_i hb; rw [if_pos hb] at hv
      exact ev_t a (r.mono g1.s2) g1.s3 hv (x.trans g1) fun v2 h2 sh2 st2 g2 => q _ h2 _ _ (g1.trans g2)
    · rename_i hb; rw [if_neg hb] at hv
      exact ev_t b (r.mono g1.s2) g1.s3 hv (x.trans g1) fun v2 h2 sh2 st2 g2 => q _ h2 _ _ (g1.trans g2)
  | .var i, sh, st, env, de, E', P, E, Q, r, g, h, x, q => by
    simp only [evT, all_bind] at h
    simp only [wpT]
    exact ev_e (.var i) r g h x fun d hd t sh' st' g1 r1 => by
      obtain ⟨b, e, hb⟩ := all_ofO hd
      exact tru_ok g1.s3 r1 e (q _ hb _ _ g1)
  | .int i, sh, st, env, de, E', P, E, Q, r, g, h, x, q => by
    simp only [evT, all_bind] at h
    simp only [wpT]
    exact ev_e (.int i) r g h x fun d hd t sh' st' g1 r1 => by
      obtain ⟨b, e, hb⟩ := all_ofO hd
      exact tru_ok g1.s3 r1 e (q _ hb _ _ g1)
  | .str i, sh, st, env, de, E', P, E, Q, r, g, h, x, q => by
    simp only [evT, all_bind] at h
    simp only [wpT]
    exact ev_e (.str i) r g h x fun d hd t sh' st' g1 r1 => by
      obtain ⟨b, e, hb⟩ := all_ofO hd
      exact tru_ok g1.s3 r1 e (q _ hb _ _ g1)
  | .bl i, sh, st, env, de, E', P, E, Q, r, g, h, x, q => by
    simp only [evT, all_bind] at h
    simp only [wpT]
    exact ev_e (.bl i) r g h x fun d hd t sh' st' g1 r1 => by
      obtain ⟨b, e, hb⟩ := all_ofO hd
      exact tru_ok g1.s3 r1 e (q _ hb _ _ g1)
  | .non, sh, st, env, de, E', P, E, Q, r, g, h, x, q => by
    simp only [evT, all_bind] at h
    simp only [wpT]
    exact ev_e (.non) r g h x fun d hd t sh' st' g1 r1 => by
      obtain ⟨b, e, hb⟩ := all_ofO hd
      exact tru_ok g1.s3 r1 e (q _ hb _ _ g1)
  | .glob i, sh, st, env, de, E', P, E, Q, r, g, h, x, q => by
    simp only [evT, all_bind] at h
    simp only [wpT]
    exact ev_e (.glob i) r g h x fun d hd t sh' st' g1 r1 => by
      obtain ⟨b, e, hb⟩ := all_ofO hd
      exact tru_ok g1.s3 r1 e (q _ hb _ _ g1)
  | .fnv i, sh, st, env, de, E', P, E, Q, r, g, h, x, q => by
    simp only [evT, all_bind] at h
    simp only [wpT]
    exact ev_e (.fnv i) r g h x fun d hd t sh' st' g1 r1 => by
      obtain ⟨b, e, hb⟩ := all_ofO hd
      exact tru_ok g1.s3 r1 e (q _ hb _ _ g1)
  | .bin o a b, sh, st, env, de, E', P, E, Q, r, g, h, x, q => by
    simp only [evT, all_bind] at h
    simp only [wpT]
    exact ev_e (.bin o a b) r g h x fun d hd t sh' st' g1 r1 => by
      obtain ⟨b, e, hb⟩ := all_ofO hd
      exact tru_ok g1.s3 r1 e (q _ hb _ _ g1)
  | .neg a, sh, st, env, de, E', P, E, Q, r, g, h, x, q => by
    simp only [evT, all_bind] at h
    simp only [wpT]
    exact ev_e (.neg a) r g h x fun d hd t sh' st' g1 r1 => by
      obtain ⟨b, e, hb⟩ := all_ofO hd
      exact tru_ok g1.s3 r1 e (q _ hb _ _ g1)
  | .cmp o a b, sh, st, env, de, E', P, E, Q, r, g, h, x, q => by
    simp only [evT, all_bind] at h
    simp only [wpT]
    exact ev_e (.cmp o a b) r g h x fun d hd t sh' st' g1 r1 => by
      obtain ⟨b, e, hb⟩ := all_ofO hd
      exact tru_ok g1.s3 r1 e (q _ hb _ _ g1)
  | .chain o p a b d, sh, st, env, de, E', P, E, Q, r, g, h, x, q => by
    simp only [evT, all_bind] at h
    simp only [wpT]
    exact ev_e (.chain o p a b d) r g h x fun d hd t sh' st' g1 r1 => by
      obtain ⟨b, e, hb⟩ := all_ofO hd
      exact tru_ok g1.s3 r1 e (q _ hb _ _ g1)
  | .tup es, sh, st, env, de, E', P, E, Q, r, g, h, x, q => by
    simp only [evT, all_bind] at h
    simp only [wpT]
    exact ev_e (.tup es) r g h x fun d hd t sh' st' g1 r1 => by
      obtain ⟨b, e, hb⟩ := all_ofO hd
      exact tru_ok g1.s3 r1 e (q _ hb _ _ g1)
  | .new l, sh, st, env, de, E', P, E, Q, r, g, h, x, q => by
    simp only [evT, all_bind] at h
    simp only [wpT]
    exact ev_e (.new l) r g h x fun d hd t sh' st' g1 r1 => by
      obtain ⟨b, e, hb⟩ := all_ofO hd
      exact tru_ok g1.s3 r1 e (q _ hb _ _ g1)
  | .idx a i, sh, st, env, de, E', P, E, Q, r, g, h, x, q => by
    simp only [evT, all_bind] at h
    simp only [wpT]
    exact ev_e (.idx a i) r g h x fun d hd t sh' st' g1 r1 => by
      obtain ⟨b, e, hb⟩ := all_ofO hd
      exact tru_ok g1.s3 r1 e (q _ hb _ _ g1)
  | .slc a l u, sh, st, env, de, E', P, E, Q, r, g, h, x, q => by
    simp only [evT, all_bind] at h
    simp only [wpT]
    exact ev_e (.slc a l u) r g h x fun d hd t sh' st' g1 r1 => by
      obtain ⟨b, e, hb⟩ := all_ofO hd
      exact tru_ok g1.s3 r1 e (q _ hb _ _ g1)
  | .rev a, sh, st, env, de, E', P, E, Q, r, g, h, x, q => by
    simp only [evT, all_bind] at h
    simp only [wpT]
    exact ev_e (.rev a) r g h x fun d hd t sh' st' g1 r1 => by
      obtain ⟨b, e, hb⟩ := all_ofO hd
      exact tru_ok g1.s3 r1 e (q _ hb _ _ g1)
  | .call f es, sh, st, env, de, E', P, E, Q, r, g, h, x, q => by
    simp only [evT, all_bind] at h
    simp only [wpT]
    exact ev_e (.call f es) r g h x fun d hd t sh' st' g1 r1 => by
      obtain ⟨b, e, hb⟩ := all_ofO hd
      exact tru_ok g1.s3 r1 e (q _ hb _ _ g1)
  | .callv f es, sh, st, env, de, E', P, E, Q, r, g, h, x, q => by
    simp only [evT, all_bind] at h
    simp only [wpT]
    exact ev_e (.callv f es) r g h x fun d hd t sh' st' g1 r1 => by
      obtain ⟨b, e, hb⟩ := all_ofO hd
      exact tru_ok g1.s3 r1 e (q _ hb _ _ g1)
  | .bi f es, sh, st, env, de, E', P, E, Q, r, g, h, x, q => by
    simp only [evT, all_bind] at h
    simp only [wpT]
    exact ev_e (.bi f es) r g h x fun d hd t sh' st' g1 r1 => by
      obtain ⟨b, e, hb⟩ := all_ofO hd
      exact tru_ok g1.s3 r1 e (q _ hb _ _ g1)
  | .isi a ty, sh, st, env, de, E', P, E, Q, r, g, h, x, q => by
    simp only [evT, all_bind] at h
    simp only [wpT]
    exact ev_e (.isi a ty) r g h x fun d hd t sh' st' g1 r1 => by
      obtain ⟨b, e, hb⟩ := all_ofO hd
      exact tru_ok g1.s3 r1 e (q _ hb _ _ g1)
  | .li f l, sh, st, env, de, E', P, E, Q, r, g, h, x, q => by
    simp only [evT, all_bind] at h
    simp only [wpT]
    exact ev_e (.li f l) r g h x fun d hd t sh' st' g1 r1 => by
      obtain ⟨b, e, hb⟩ := all_ofO hd
      exact tru_ok g1.s3 r1 e (q _ hb _ _ g1)
  | .join a l, sh, st, env, de, E', P, E, Q, r, g, h, x, q => by
    simp only [evT, all_bind] at h
    simp only [wpT]
    exact ev_e (.join a l) r g h x fun d hd t sh' st' g1 r1 => by
      obtain ⟨b, e, hb⟩ := all_ofO hd
      exact tru_ok g1.s3 r1 e (q _ hb _ _ g1)
  | .me m o es, sh, st, env, de, E', P, E, Q, r, g, h, x, q => by
    simp only [evT, all_bind] at h
    simp only [wpT]
    exact ev_e (.me m o es) r g h x fun d hd t sh' st' g1 r1 => by
      obtain ⟨b, e, hb⟩ := all_ofO hd
      exact tru_ok g1.s3 r1 e (q _ hb _ _ g1)
  | .dct k, sh, st, env, de, E', P, E, Q, r, g, h, x, q => by
    simp only [evT, all_bind] at h
    simp only [wpT]
    exact ev_e (.dct k) r g h x fun d hd t sh' st' g1 r1 => by
      obtain ⟨b, e, hb⟩ := all_ofO hd
      exact tru_ok g1.s3 r1 e (q _ hb _ _ g1)
  | .dnew k, sh, st, env, de, E', P, E, Q, r, g, h, x, q => by
    simp only [evT, all_bind] at h
    simp only [wpT]
    exact ev_e (.dnew k) r g h x fun d hd t sh' st' g1 r1 => by
      obtain ⟨b, e, hb⟩ := all_ofO hd
      exact tru_ok g1.s3 r1 e (q _ hb _ _ g1)
theorem ev_es : ∀ (es : List X) {sh st : St} {env : Env} {de : DE} {E' : Ex → Prop} {P : List T → Prop} {E : EK} {Q : List T → St → Prop}, ER sh env de → Sub sh st → (evEs D es de).all E' P → ExOk st sh E' E →
    (∀ ds, P ds → ∀ ts sh' st', Gr st sh sh' st' → Rps sh' ts ds → Q ts st') → wpEs C es env st E Q
  | [], sh, st, env, de, E', P, E, Q, r, g, h, x, q => by
    simp only [evEs, all_ret] at h; simp only [wpEs]
    exact q _ h _ _ _ (.refl g) .nil
  | e :: es, sh, st, env, de, E', P, E, Q, r, g, h, x, q => by
    simp only [evEs, all_bind] at h; simp only [wpEs]
    exact ev_e e r g h x fun d1 h1 t1 sh1 st1 g1 r1 => ev_es es (r.mono g1.s2) g1.s3 h1 (x.trans g1) fun d2 h2 t2 sh2 st2 g2 r2 => q _ h2 _ _ _ (g1.trans g2) (.cons (r1.mono g2.s2) r2)
theorem ev_o : ∀ (o : Option X) {sh st : St} {env : Env} {de : DE} {E' : Ex → Prop} {P : Option Int → Prop} {E : EK} {Q : Option Int → St → Prop}, ER sh env de → Sub sh st → (evO D o de).all E' P → ExOk st sh E' E →
    (∀ b, P b → ∀ sh' st', Gr st sh sh' st' → Q b st') → wpO C o env st E Q
  | none, sh, st, env, de, E', P, E, Q, r, g, h, x, q => by
    simp only [evO, all_ret] at h; simp only [wpO]
    exact q _ h _ _ (.refl g)
  | some e, sh, st, env, de, E', P, E, Q, r, g, h, x, q => by
    simp only [evO, all_bind] at h; simp only [wpO]
    refine ev_e e r g h x fun d1 h1 t1 sh1 st1 g1 r1 => ?_
    simp only [all_bind, all_ret] at h1
    obtain ⟨v, e, hv⟩ := all_ofO h1
    cases r1 <;> simp only [intD] at e <;> cases e
    exact q _ hv _ _ g1
theorem ev_l : ∀ (l : L) {sh st : St} {env : Env} {de : DE} {E' : Ex → Prop} {P : List T → Prop} {E : EK} {Q : LK}, ER sh env de → Sub sh st → (evL D l de).all E' P → ExOk st sh E' E →
    (∀ ds, P ds → ∀ ts chk sh' st', Gr st sh sh' st' → Rps sh' ts ds → ds.length ≤ SZ → (∀ s, Sub sh' s → chk s) → Q ts chk st') → wpL C l env st E Q
  | .ex e, sh, st, env, de, E', P, E, Q, r, g, h, x, q => by
    simp only [evL, all_bind] at h; simp only [wpL]
    refine ev_e e r g h x fun d1 h1 t1 sh1 st1 g1 r1 => ?_
    obtain ⟨v, e, hv⟩ := all_ofO h1
    cases r1 <;> simp only [seqD] at e <;> try (cases e; done)
    · rename_i r2; cases e
      exact fun hl => q _ hv _ _ _ _ g1 r2 (by rw [← r2.length]; exact hl) fun _ _ => trivial
    · rename_i e1 r2; cases e
      exact ⟨_, g1.s3 _ _ e1, fun hl => q _ hv _ _ _ _ g1 r2 (by rw [← r2.length]; exact hl) fun s k => k _ _ e1⟩
  | .lst es, sh, st, env, de, E', P, E, Q, r, g, h, x, q => by
    simp only [evL] at h; simp only [wpL]
    split at h
    · rename_i hl
      refine ev_es es r g (evEs_len es h) x fun ds hd ts sh1 st1 g1 r1 => q _ hd.1 _ _ _ _ g1 r1 (by rw [hd.2]; exact hl) fun _ _ => trivial
    · exact h.elim
  | .comp elt ifs tg own src, sh, st, env, de, E', P, E, Q, r, g, h, x, q => by
    simp only [evL, all_bind] at h; simp only [wpL]
    refine ev_r src r g h x fun ds hd ts chk sh1 st1 g1 r1 hl hc => ?_
    refine itl_ok hc (fun y d acc ads sh2 st2 P2 k k0 g2 ry ra hlt hf kk => ?_) (.refl _) g1.s3 r1 .nil (by rw [r1.length]; simpa using hl) hd fun ys hy acc' sh2 st2 g2 ra hl2 => q _ hy _ _ _ _ (g1.trans g2) (by simpa using ra) (by
        have := ra.length
        rw [List.nil_append] at this
        rw [← this]; exact hl2) fun _ _ => trivial
    have hf := all_noexc _ hf
    · simp only [all_bind] at hf
      obtain ⟨e2, he, hf⟩ := all_ofO hf
      refine asg_okD tg g2 ((r.mono (g1.s2.trans k0)).wipe own) ry he fun env2 r2 => ?_
      refine ev_if ifs r2 g2 hf fun b hb sh3 st3 g3 => ?_
      split
      · rename_i hb'; rw [if_pos hb'] at hb
        simp only [all_bind, all_ret] at hb
        refine ev_e elt (r2.mono g3.s2) g3.s3 hb .no fun d3 h3 t3 sh4 st4 g4 r4 => ⟨hlt, kk _ h3 _ _ _ (g3.trans g4) ((ra.mono (g3.trans g4).s2).app (.cons r4 .nil))⟩
      · rename_i hb'; rw [if_neg hb'] at hb
        exact kk _ hb _ _ _ g3 (ra.mono g3.s2)
  | .comp2 .., sh, st, env, de, E', P, E, Q, r, g, h, x, q => by
    simp only [evL] at h; exact h.elim
  | .srt l, sh, st, env, de, E', P, E, Q, r, g, h, x, q => by
    simp only [evL, all_bind] at h; simp only [wpL]
    refine ev_l l r g h x fun ds hd ts chk sh1 st1 g1 r1 hl hc => ?_
    obtain ⟨v, e, hv⟩ := all_ofO hd
    exact srt_ok r1 e fun vs rv => q _ hv _ _ _ _ g1 rv (by rw [srt_len e]; exact hl) fun _ _ => trivial
  | .srtE e, sh, st, env, de, E', P, E, Q, r, g, h, x, q => by
    simp only [evL, all_bind] at h; simp only [wpL]
    refine ev_e e r g h x fun d1 h1 t1 sh1 st1 g1 r1 => ?_
    obtain ⟨us, e0, hh⟩ := all_ofO h1
    have key : ∀ ts : List T, Rps sh1 ts us → (∃ a, t1 = .ref a ∧ (st1 a = some (.lst ts) ∨ ∃ kvs, st1 a = some (.dct true kvs) ∧ ts = kvs.map (·.1))) → ∃ a ts, t1 = .ref a ∧ (st1 a = some (.lst ts) ∨ ∃ kvs, st1 a = some (.dct true kvs) ∧ ts = kvs.map (·.1)) ∧ srtSem ts fun us => Q us (fun _ => True) st1 := fun ts r2 ⟨a, h2, h3⟩ => by
      split at hh
      · rename_i hl
        obtain ⟨v, e, hv⟩ := all_ofO hh
        exact ⟨a, ts, h2, h3, srt_ok r2 e fun vs rv => q _ hv _ _ _ _ g1 rv (by rw [srt_len e]; exact hl) fun _ _ => trivial⟩
      · exact hh.elim
    cases r1 with
    | lst e1 r2 =>
      simp only [lstD] at e0; cases e0
      exact key _ r2 ⟨_, rfl, .inl (g1.s3 _ _ e1)⟩
    | dct e1 r2 =>
      rename_i b _ _ _
      cases b <;> simp only [lstD] at e0 <;> cases e0
      exact key _ r2.keyRp ⟨_, rfl, .inr ⟨_, g1.s3 _ _ e1, rfl⟩⟩
    | _ => simp only [lstD] at e0; cases e0
  | .items e, sh, st, env, de, E', P, E, Q, r, g, h, x, q => by
    simp only [evL, all_bind] at h; simp only [wpL]
    refine ev_e e r g h x fun d1 h1 t1 sh1 st1 g1 r1 => ?_
    obtain ⟨us, e0, hh⟩ := all_ofO h1
    cases r1 with
    | dct e1 r2 =>
      rename_i b _ _ _
      cases b <;> simp only [itmD] at e0 <;> cases e0
      split at hh
      · rename_i hl
        obtain ⟨v, e, hv⟩ := all_ofO hh
        exact ⟨_, _, rfl, g1.s3 _ _ e1, srt_ok r2.items e fun vs rv => q _ hv _ _ _ _ g1 rv (by rw [srt_len e]; exact hl) fun _ _ => trivial⟩
      · exact hh.elim
    | _ => simp only [itmD] at e0; cases e0
theorem ev_ls : ∀ (ls : List L) {sh st : St} {env : Env} {de : DE} {E' : Ex → Prop} {P : List (List T) → Prop} {E : EK} {Q : List (List T) → (St → Prop) → St → Prop}, ER sh env de → Sub sh st → (evLs D ls de).all E' P → ExOk st sh E' E →
    (∀ ds, P ds → ∀ ts chk sh' st', Gr st sh sh' st' → Rpss sh' ts ds → (∀ d ∈ ds, d.length ≤ SZ) → (∀ s, Sub sh' s → chk s) → Q ts chk st') → wpLs C ls env st E Q
  | [], sh, st, env, de, E', P, E, Q, r, g, h, x, q => by
    simp only [evLs, all_ret] at h; simp only [wpLs]
    exact q _ h _ _ _ _ (.refl g) .nil (fun _ z => by cases z) fun _ _ => trivial
  | l :: ls, sh, st, env, de, E', P, E, Q, r, g, h, x, q => by
    simp only [evLs, all_bind] at h; simp only [wpLs]
    exact ev_l l r g h x fun d1 h1 t1 chk sh1 st1 g1 r1 hl hc => ev_ls ls (r.mono g1.s2) g1.s3 h1 (x.trans g1) fun d2 h2 t2 chk2 sh2 st2 g2 r2 hl2 hc2 =>
      q _ h2 _ _ _ _ (g1.trans g2) (.cons (r1.mono g2.s2) r2) (fun d hd => by rcases List.mem_cons.mp hd with rfl | hd; exact hl; exact hl2 d hd) fun s k => ⟨hc s (g2.s2.trans k), hc2 s k⟩
theorem ev_r : ∀ (s : Sr) {sh st : St} {env : Env} {de : DE} {E' : Ex → Prop} {P : List T → Prop} {E : EK} {Q : LK}, ER sh env de → Sub sh st → (evR D s de).all E' P → ExOk st sh E' E →
    (∀ ds, P ds → ∀ ts chk sh' st', Gr st sh sh' st' → Rps sh' ts ds → ds.length ≤ SZ → (∀ s, Sub sh' s → chk s) → Q ts chk st') → wpR C s env st E Q
  | .seq l, sh, st, env, de, E', P, E, Q, r, g, h, x, q => by
    simp only [evR] at h; simp only [wpR]
    exact ev_l l r g h x q
  | .range es, sh, st, env, de, E', P, E, Q, r, g, h, x, q => by
    simp only [evR, all_bind] at h; simp only [wpR]
    refine ev_es es r g h x fun ds hd ts sh1 st1 g1 r1 => ?_
    obtain ⟨v, e, hv⟩ := all_ofO hd
    exact range_ok r1 e fun hl rr => q _ hv _ _ _ _ g1 rr hl fun _ _ => trivial
  | .enum l, sh, st, env, de, E', P, E, Q, r, g, h, x, q => by
    simp only [evR, all_bind] at h; simp only [wpR]
    exact ev_l l r g h x fun ds hd ts chk sh1 st1 g1 r1 hl hc => q _ hd _ _ _ _ g1 (enum_rp r1) (by simpa [enumT] using hl) hc
  | .zip ls, sh, st, env, de, E', P, E, Q, r, g, h, x, q => by
    simp only [evR, all_bind] at h; simp only [wpR]
    refine ev_ls ls r g h x fun ds hd ts chk sh1 st1 g1 r1 hl hc => ?_
    obtain ⟨v, e, hv⟩ := all_ofO hd
    obtain ⟨k1, k2⟩ := zip_ok r1 hl e
    exact ⟨hc _ g1.s3, q _ hv _ _ _ _ g1 k1 k2 hc⟩
  | .rrange es, sh, st, env, de, E', P, E, Q, r, g, h, x, q => by
    simp only [evR, all_bind] at h; simp only [wpR]
    refine ev_es es r g h x fun ds hd ts sh1 st1 g1 r1 => ?_
    obtain ⟨v, e, hv⟩ := all_ofO hd
    exact range_ok r1 e fun hl rr => q _ hv _ _ _ _ g1 rr.rev (by simpa using hl) fun _ _ => trivial
theorem ev_if : ∀ (cs : List X) {sh st : St} {env : Env} {de : DE} {E' : Ex → Prop} {P : Bool → Prop} {Q : Bool → St → Prop}, ER sh env de → Sub sh st → (evIf D cs de).all E' P →
    (∀ b, P b → ∀ sh' st', Gr st sh sh' st' → Q b st') → wpIf C cs env st Q
  | [], sh, st, env, de, E', P, Q, r, g, h, q => by
    simp only [evIf, all_ret] at h; simp only [wpIf]
    exact q _ h _ _ (.refl g)
  | cc :: cs, sh, st, env, de, E', P, Q, r, g, h, q => by
    simp only [evIf, all_bind] at h; simp only [wpIf]
    refine ev_t cc r g (all_noexc _ h) .no fun v hv sh1 st1 g1 => ?_
    split
    · rename_i hb; rw [if_pos hb] at hv
      exact ev_if cs (r.mono g1.s2) g1.s3 hv fun v2 h2 sh2 st2 g2 => q _ h2 _ _ (g1.trans g2)
    · rename_i hb; rw [if_neg hb] at hv
      exact q _ hv _ _ g1
end
end
end Mo

set_option Elab.async false
set_option linter.all false
set_option maxRecDepth 100000
set_option autoImplicit false
set_option maxHeartbeats 8000000
namespace Mo
open PySem PyProof.Rows

def SlR (sh st : St) : Sl → T → Prop
  | .val d, t => Rp sh t d
  | s, t => ∃ a o, t = .ref a ∧ sh a = none ∧ st a = some o ∧ OR sh o (slO s)
def isOwn : Sl → Bool
  | .val _ => false
  | _ => true
theorem SlR.own {sh st : St} {s : Sl} {t : T} (h : isOwn s = true) : SlR sh st s t ↔ ∃ a o, t = .ref a ∧ sh a = none ∧ st a = some o ∧ OR sh o (slO s) := by
  cases s with
  | val d => cases h
  | own ts => exact Iff.rfl
  | ownD b ks vs => exact Iff.rfl
def Own (de : SE2) (env : Env) (i a : Nat) : Prop := (∃ s, isOwn s = true ∧ de[i]? = some (some s)) ∧ env[i]? = some (some (.ref a))
/-- from s0, h0 on -/
structure IV (s0 h0 sh st : St) (env : Env) (de : SE2) : Prop where
  gr : Gr s0 h0 sh st
  len : env.length = de.length
  sl : ∀ (i : Nat) (v : Sl), de[i]? = some (some v) → ∃ t, env[i]? = some (some t) ∧ SlR sh st v t
  dis : ∀ (i j a : Nat), Own de env i a → Own de env j a → i = j
  bs : ∀ (i a : Nat), Own de env i a → s0 a = none
section
variable {s0 h0 sh st sh' st' : St} {env : Env} {de : SE2}
theorem IV.er (v : IV s0 h0 sh st env de) : ER sh env (vis de) := by
  refine ⟨by rw [vis, List.length_map]; exact v.len, fun i d e => ?_⟩
  unfold vis at e
  rw [List.getElem?_map] at e
  obtain ⟨o, h1, h2⟩ := Option.map_eq_some_iff.mp e
  cases o with
  | none => cases h2
  | some s =>
    cases s with
    | val t => cases h2; exact v.sl i _ h1
    | _ => cases h2
theorem Own.nn (v : IV s0 h0 sh st env de) {i a : Nat} (o : Own de env i a) : st a ≠ none ∧ sh a = none := by
  obtain ⟨⟨s, ho, h1⟩, h2⟩ := o
  obtain ⟨t, h3, h7⟩ := v.sl i _ h1
  obtain ⟨a', ts, rfl, h4, h5, h6⟩ := (SlR.own ho).mp h7
  rw [h2] at h3; cases h3
  exact ⟨by rw [h5]; exact fun z => (by cases z), h4⟩
theorem IV.grow (v : IV s0 h0 sh st env de) (g : Gr st sh sh' st') : IV s0 h0 sh' st' env de :=
  ⟨v.gr.trans g, v.len, fun i s e => by
    obtain ⟨t, h1, h2⟩ := v.sl i s e
    refine ⟨t, h1, ?_⟩
    by_cases ho : isOwn s = true
    · obtain ⟨a, ts, rfl, h4, h5, h6⟩ := (SlR.own ho).mp h2
      exact (SlR.own ho).mpr ⟨a, ts, rfl, by rw [g.nw a (by rw [h5]; exact fun z => (by cases z))]; exact h4, g.s1 _ _ h5, h6.mono g.s2⟩
    · cases s with
      | val d => exact Rp.mono g.s2 h2
      | _ => exact absurd rfl ho, v.dis, v.bs⟩
theorem IV.keep (v : IV s0 h0 sh st env de) (g : Sub st st') : IV s0 h0 sh st' env de :=
  v.grow ⟨g, .refl _, v.gr.s3.trans g, fun _ _ => rfl⟩
theorem own_set {i j a : Nat} {o : Option Sl} {x : Option T} (hl : env.length = de.length) (h : Own (de.set i o) (env.set i x) j a) : (i = j ∧ (∃ s, isOwn s = true ∧ o = some s) ∧ x = some (.ref a)) ∨ (i ≠ j ∧ Own de env j a) := by
  obtain ⟨⟨ds, ho, h1⟩, h2⟩ := h
  rcases set_cases h1 with ⟨rfl, h1, h3⟩ | ⟨z, h1⟩
  · rcases set_cases h2 with ⟨_, h2, _⟩ | ⟨z, h2⟩
    · exact .inl ⟨rfl, ⟨ds, ho, h1.symm⟩, h2.symm⟩
    · exact absurd rfl z
  · rcases set_cases h2 with ⟨rfl, h2, h3⟩ | ⟨_, h2⟩
    · exact absurd rfl z
    · exact .inr ⟨z, ⟨ds, ho, h1⟩, h2⟩
theorem IV.setv (v : IV s0 h0 sh st env de) {i : Nat} {t d : T} (r : Rp sh t d) : IV s0 h0 sh st (env.set i (some t)) (de.set i (some (.val d))) := by
  have ow : ∀ {j a}, Own (de.set i (some (.val d))) (env.set i (some t)) j a → Own de env j a := fun h => by
    rcases own_set v.len h with ⟨_, ⟨ds, ho, z⟩, _⟩ | ⟨_, h⟩
    · cases z; cases ho
    · exact h
  refine ⟨v.gr, by rw [List.length_set, List.length_set]; exact v.len, fun j s e => ?_, fun j k a x y => v.dis j k a (ow x) (ow y), fun j a x => v.bs j a (ow x)⟩
  rcases set_cases e with ⟨rfl, e, hl⟩ | ⟨z, e⟩
  · cases e
    exact ⟨t, List.getElem?_set_self (by rw [v.len]; exact hl), r⟩
  · obtain ⟨u, h1, h2⟩ := v.sl j s e
    exact ⟨u, by rw [List.getElem?_set_ne z]; exact h1, h2⟩
theorem IV.seto (v : IV s0 h0 sh st env de) {i a : Nat} {o : O} {s : Sl} (ho : isOwn s = true) (ha : s0 a = none) (hs : sh a = none) (hst : st a = some o) (r : OR sh o (slO s)) (no : ∀ j, i ≠ j → ¬ Own de env j a) :
    IV s0 h0 sh st (env.set i (some (.ref a))) (de.set i (some s)) := by
  refine ⟨v.gr, by rw [List.length_set, List.length_set]; exact v.len, fun j s e => ?_, fun j k b x y => ?_, fun j b x => ?_⟩
  · rcases set_cases e with ⟨rfl, e, hl⟩ | ⟨z, e⟩
    · cases e
      exact ⟨_, List.getElem?_set_self (by rw [v.len]; exact hl), (SlR.own ho).mpr ⟨a, o, rfl, hs, hst, r⟩⟩
    · obtain ⟨u, h1, h2⟩ := v.sl j s e
      exact ⟨u, by rw [List.getElem?_set_ne z]; exact h1, h2⟩
  · rcases own_set v.len x with ⟨rfl, _, hx⟩ | ⟨zx, x⟩
    · cases hx
      rcases own_set v.len y with ⟨rfl, _, hy⟩ | ⟨zy, y⟩
      · rfl
      · exact absurd y (no k zy)
    · rcases own_set v.len y with ⟨rfl, _, hy⟩ | ⟨zy, y⟩
      · cases hy; exact absurd x (no j zx)
      · exact v.dis j k b x y
  · rcases own_set v.len x with ⟨rfl, _, hx⟩ | ⟨zx, x⟩
    · cases hx; exact ha
    · exact v.bs j b x
/-- a thing of ours changed -/
theorem IV.chg (v : IV s0 h0 sh st env de) {i a : Nat} {o1 : O} {s s1 : Sl} (hs0 : isOwn s = true) (hs1 : isOwn s1 = true) (h : de[i]? = some (some s)) (he : env[i]? = some (some (.ref a))) (r : OR sh o1 (slO s1)) : IV s0 h0 sh (upd st a o1) env (de.set i (some s1)) := by
  have ho : Own de env i a := ⟨⟨s, hs0, h⟩, he⟩
  obtain ⟨hn, hs⟩ := ho.nn v
  have ha := v.bs i a ho
  have hl : i < de.length := (List.getElem?_eq_some_iff.mp h).1
  have ow : ∀ {j b}, Own (de.set i (some s1)) env j b → Own de env j b := fun {j b} ⟨⟨ds', o', h1⟩, h2⟩ => by
    rcases set_cases h1 with ⟨rfl, _, _⟩ | ⟨_, h1⟩
    · exact ⟨⟨_, hs0, h⟩, h2⟩
    · exact ⟨⟨_, o', h1⟩, h2⟩
  refine ⟨⟨fun b o e => ?_, v.gr.s2, fun b o e => ?_, v.gr.nw⟩, by rw [List.length_set]; exact v.len, fun j w e => ?_, fun j k b x y => v.dis j k b (ow x) (ow y), fun j b x => v.bs j b (ow x)⟩
  · rw [upd_ne (fun z => by rw [z, ha] at e; cases e)]; exact v.gr.s1 b o e
  · rw [upd_ne (fun z => by rw [z, hs] at e; cases e)]; exact v.gr.s3 b o e
  · rcases set_cases e with ⟨rfl, e, hl⟩ | ⟨z, e⟩
    · cases e
      exact ⟨_, he, (SlR.own hs1).mpr ⟨a, o1, rfl, hs, upd_same _ _ _, r⟩⟩
    · obtain ⟨u, h1, h2⟩ := v.sl j w e
      refine ⟨u, h1, ?_⟩
      by_cases ow1 : isOwn w = true
      · obtain ⟨b, us, rfl, h4, h5, h6⟩ := (SlR.own ow1).mp h2
        have hb : b ≠ a := fun z2 => by subst z2; exact z (v.dis _ _ _ ho ⟨⟨_, ow1, e⟩, h1⟩)
        exact (SlR.own ow1).mpr ⟨b, us, rfl, h4, by rw [upd_ne hb]; exact h5, h6⟩
      · cases w with
        | val d => exact h2
        | _ => exact absurd rfl ow1
theorem pub1_eq : ∀ (de : SE2) (i : Nat), Mo.pub1 de i = match de.getD i none with
    | some s => de.set i (some (.val (slO s)))
    | none => de
  | [], i => by simp [Mo.pub1]
  | o :: de, 0 => by
    simp only [Mo.pub1, List.getD_cons_zero, List.set_cons_zero]
    cases o with
    | none => rfl
    | some s => cases s <;> rfl
  | o :: de, i + 1 => by
    simp only [Mo.pub1, List.getD_cons_succ, List.set_cons_succ, pub1_eq de i]
    cases de.getD i none <;> rfl
theorem IV.pub1 (v : IV s0 h0 sh st env de) (i : Nat) : ∃ sh', Sub sh sh' ∧ IV s0 h0 sh' st env (pub1 de i) := by
  rw [pub1_eq]
  split
  · rename_i s h
    have h := getD_some h
    by_cases hs : isOwn s = true
    · obtain ⟨t, h1, h7⟩ := v.sl i _ h
      obtain ⟨a, us, rfl, h4, h5, h6⟩ := (SlR.own hs).mp h7
      have ho : Own de env i a := ⟨⟨s, hs, h⟩, h1⟩
      have k : Sub sh (upd sh a us) := Sub.upd (.refl _) h4
      have ha := v.bs i a ho
      have ow : ∀ {j b}, Own (de.set i (some (.val (slO s)))) env j b → i ≠ j ∧ Own de env j b := fun {j b} ⟨⟨ds', o', h1⟩, h2⟩ => by
        rcases set_cases h1 with ⟨rfl, z, _⟩ | ⟨z, h1⟩
        · cases z; cases o'
        · exact ⟨z, ⟨_, o', h1⟩, h2⟩
      refine ⟨upd sh a us, k, ⟨v.gr.s1, v.gr.s2.trans k, fun b o e => ?_, fun b n => ?_⟩, by rw [List.length_set]; exact v.len, fun j w e => ?_, fun j k b x y => v.dis j k b (ow x).2 (ow y).2, fun j b x => v.bs j b (ow x).2⟩
      · by_cases hb : b = a
        · subst hb; rw [upd_same] at e; cases e; exact h5
        · rw [upd_ne hb] at e; exact v.gr.s3 b o e
      · rw [upd_ne (fun z => n (by rw [z]; exact ha))]; exact v.gr.nw b n
      · rcases set_cases e with ⟨rfl, e, hl⟩ | ⟨z, e⟩
        · cases e
          exact ⟨_, h1, OR.obj (upd_same _ _ _) (h6.mono k)⟩
        · obtain ⟨u, h17, h8⟩ := v.sl j w e
          refine ⟨u, h17, ?_⟩
          by_cases ow1 : isOwn w = true
          · obtain ⟨b, vs, rfl, h9, h10, h11⟩ := (SlR.own ow1).mp h8
            have hb : b ≠ a := fun z2 => by subst z2; exact z (v.dis _ _ _ ho ⟨⟨_, ow1, e⟩, h17⟩)
            exact (SlR.own ow1).mpr ⟨b, vs, rfl, by rw [upd_ne hb]; exact h9, h10, h11.mono k⟩
          · cases w with
            | val d => exact Rp.mono k h8
            | _ => exact absurd rfl ow1
    · cases s with
      | val d =>
        rw [show de.set i (some (.val (slO (.val d)))) = de from List.ext_getElem? fun j => by
          by_cases hj : i = j
          · subst hj
            rw [List.getElem?_set_self (List.getElem?_eq_some_iff.mp h).1, h]; rfl
          · rw [List.getElem?_set_ne hj]]
        exact ⟨sh, .refl _, v⟩
      | _ => exact absurd rfl hs
  · exact ⟨sh, .refl _, v⟩
theorem IV.pub (os : List Nat) : ∀ {sh : St} {de : SE2}, IV s0 h0 sh st env de → ∃ sh', Sub sh sh' ∧ IV s0 h0 sh' st env (Mo.pub os de) := by
  induction os with
  | nil => intro sh de v; exact ⟨sh, .refl _, v⟩
  | cons i os ih =>
    intro sh de v
    obtain ⟨sh1, k1, v1⟩ := v.pub1 i
    obtain ⟨sh2, k2, v2⟩ := ih v1
    exact ⟨sh2, k1.trans k2, v2⟩
theorem clean_ok {s1 sh1 st1 : St} {r : Bool × T} {t : T} (h : clean r = true) (v : VR s1 sh1 st1 r t) (k : Sub sh sh1) : VR s1 sh st1 r t := by
  obtain ⟨f, d⟩ := r
  cases f with
  | false =>
    refine Rp.to_pure v ?_
    cases d <;> exact h
  | true =>
    obtain ⟨a, o, h2, h3, h4, h5, h6⟩ := v
    refine ⟨a, o, h2, h3, sub_no k h4, h5, ?_⟩
    cases o <;> cases d <;> first | exact h6.elim | exact Rps.to_pure h6 h | exact ⟨h6.1, h6.2.to_pure h⟩
theorem slF_own {d : T} {o : O} (h : OR sh o d) : isOwn (slF (true, d)) = true ∧ slO (slF (true, d)) = d := by
  cases o <;> cases d <;> first | exact h.elim | exact ⟨rfl, rfl⟩
/-- a value put at a place -/
theorem IV.setr {s1 : St} (v : IV s0 h0 sh st env de) {i : Nat} {r : Bool × T} {t : T} (q : VR s1 sh st r t) (h01 : Sub s0 s1) (fr : ∀ j a, Own de env j a → s1 a ≠ none) : IV s0 h0 sh st (env.set i (some t)) (de.set i (some (slF r))) := by
  obtain ⟨f, d⟩ := r
  cases f with
  | true =>
    obtain ⟨a, o, h2, h3, h4, h5, h6⟩ := q
    subst h2
    obtain ⟨k1, k2⟩ := slF_own h6
    exact v.seto k1 (sub_no h01 h3) h4 h5 (by rw [k2]; exact h6) fun j _ o => fr j a o h3
  | false =>
    have e : slF (false, d) = .val d := by cases d <;> rfl
    rw [e]
    exact v.setv q
end
theorem add_lst {x y : T} {ds : List T} (e : binD .add x y = some (.lst ds)) : ∃ a b, x = .lst a ∧ y = .lst b ∧ a.length + b.length ≤ SZ ∧ ds = a ++ b := by
  cases x <;> cases y <;> simp [binD] at e
  rename_i a b
  exact ⟨a, b, rfl, rfl, e.1, e.2.symm⟩
theorem mul_lst {x y : T} {ds : List T} (e : binD .mul x y = some (.lst ds)) : ∃ a j, x = .lst a ∧ y = .int j ∧ (0 ≤ j ∧ j ≤ 1000 ∧ a.length ≤ 1000) ∧ ds = rep j.toNat a := by
  cases x <;> cases y <;> simp [binD] at e
  rename_i a j
  exact ⟨a, j, rfl, rfl, e.1, e.2.symm⟩
section
variable {C : Cxt} {D : Ec} (c : CEv C D)
include c
theorem ev_f (e : X) {sh st : St} {env : Env} {de : DE} {E' : Ex → Prop} {P : Bool × T → Prop} {E : EK} {Q : TK} (r : ER sh env de) (g : Sub sh st) (h : (evF D e de).all E' P) (x : ExOk st sh E' E)
    (q : ∀ d, P d → ∀ t sh' st', Gr st sh sh' st' → VR st sh' st' d t → Q t st') : wpE C e env st E Q := by
  have plain : ((evE D e de).bind fun v => .ret (false, v)).all E' P → wpE C e env st E Q := fun h => by
    simp only [all_bind, all_ret] at h
    exact ev_e c e r g h x fun d hd t sh' st' g1 r1 => q _ hd _ _ _ g1 r1
  have fresh : ∀ {sh1 st1 : St} {us ds : List T} {p : Nat}, Gr st sh sh1 st1 → Rps sh1 us ds → st1 p = none → P (true, .lst ds) → Q (.ref p) (upd st1 p (.lst us)) := fun {sh1 st1 us ds p} g1 r1 hp hd =>
    q _ hd _ _ _ (g1.trans (.own g1.s3 _ hp)) ⟨p, _, rfl, sub_no g1.s1 hp, sub_no g1.s3 hp, upd_same _ _ _, r1⟩
  unfold evF at h
  split at h
  · simp only [all_bind, all_ret] at h; simp only [wpE]
    exact ev_l c _ r g h x fun ds hd ts chk sh1 st1 g1 r1 _ _ p hp => fresh g1 r1 hp hd
  · simp only [all_ret] at h; simp only [wpE]
    exact fun p hp => q _ h _ _ _ (.own g _ hp) ⟨p, _, rfl, hp, sub_no g hp, upd_same _ _ _, ⟨rfl, .nil⟩⟩
  · simp only [all_bind] at h; simp only [wpE]
    exact ev_es c _ r g h x fun ds hd ts sh1 st1 g1 r1 => c.call _ ds ts sh1 st1 g1.s3 r1 _ _ _ _ hd (x.trans g1) fun v hv t sh2 st2 g2 r2 => q _ hv _ _ _ (g1.trans g2) (by
      obtain ⟨f, d⟩ := v
      cases f with
      | false => exact r2
      | true =>
        obtain ⟨a, o, h2, h3, h4⟩ := r2
        exact ⟨a, o, h2, sub_no g1.s1 h3, h4⟩)
  · simp only [all_bind, all_ret] at h; simp only [wpE]
    exact ev_l c _ r g h x fun ds hd ts chk sh1 st1 g1 r1 _ _ p hp => fresh g1 r1 hp hd
  · rename_i a b
    simp only [all_bind, all_ret] at h; simp only [wpE]
    refine ev_e c a r g h x fun d1 h1 t1 sh1 st1 g1 r1 => ev_e c b (r.mono g1.s2) g1.s3 h1 (x.trans g1) fun d2 h2 t2 sh2 st2 g2 r2 => ?_
    obtain ⟨v, e, hv⟩ := all_ofO h2
    by_cases hl : ∃ ds, v = .lst ds
    · obtain ⟨ds, rfl⟩ := hl
      obtain ⟨as, bs, rfl, rfl, hh, rfl⟩ := add_lst e
      cases r1 with
      | lst e1 q1 => cases r2 with
        | lst e2 q2 =>
          exact ⟨_, _, g2.s1 _ _ (g1.s3 _ _ e1), g2.s3 _ _ e2, by rw [q1.length, q2.length]; exact hh, fun p hp => fresh (g1.trans g2) ((q1.mono g2.s2).app q2) hp hv⟩
    · exact bin_ok g2.s3 (r1.mono g2.s2) r2 e fun t sh' st' g3 r3 => q _ hv t sh' st' ((g1.trans g2).trans g3) (by
        cases v <;> first | exact r3 | exact absurd ⟨_, rfl⟩ hl)
  · rename_i a b
    simp only [all_bind, all_ret] at h; simp only [wpE]
    refine ev_e c a r g h x fun d1 h1 t1 sh1 st1 g1 r1 => ev_e c b (r.mono g1.s2) g1.s3 h1 (x.trans g1) fun d2 h2 t2 sh2 st2 g2 r2 => ?_
    obtain ⟨v, e, hv⟩ := all_ofO h2
    by_cases hl : ∃ ds, v = .lst ds
    · obtain ⟨ds, rfl⟩ := hl
      obtain ⟨as, j, rfl, rfl, hh, rfl⟩ := mul_lst e
      cases r1 with
      | lst e1 q1 =>
        cases r2
        exact ⟨_, g2.s1 _ _ (g1.s3 _ _ e1), ⟨hh.1, hh.2.1, by rw [q1.length]; exact hh.2.2⟩, fun p hp => fresh (g1.trans g2) ((q1.mono g2.s2).rep _) hp hv⟩
    · exact bin_ok g2.s3 (r1.mono g2.s2) r2 e fun t sh' st' g3 r3 => q _ hv t sh' st' ((g1.trans g2).trans g3) (by
        cases v <;> first | exact r3 | exact absurd ⟨_, rfl⟩ hl)
  · rename_i a lo hi
    simp only [all_bind, all_ret] at h; simp only [wpE]
    refine ev_e c a r g h x fun d1 h1 t1 sh1 st1 g1 r1 => ev_o c lo (r.mono g1.s2) g1.s3 h1 (x.trans g1) fun l hl sh2 st2 g2 => ev_o c hi (r.mono (g1.trans g2).s2) g2.s3 hl ((x.trans g1).trans g2) fun u hu sh3 st3 g3 => ?_
    obtain ⟨v, e, hv⟩ := all_ofO hu
    by_cases hl : ∃ ds, v = .lst ds
    · obtain ⟨ds, rfl⟩ := hl
      cases r1 <;> simp only [slcD] at e <;> try (cases e; done)
      rename_i e1 q1
      cases e
      exact ⟨_, g3.s1 _ _ (g2.s1 _ _ (g1.s3 _ _ e1)), fun p hp => fresh ((g1.trans g2).trans g3) ((q1.mono (g2.trans g3).s2).cut _ _) hp hv⟩
    · exact slc_ok g3.s3 (r1.mono (g2.trans g3).s2) e fun t sh' st' g4 r4 => q _ hv t sh' st' (((g1.trans g2).trans g3).trans g4) (by
        cases v <;> first | exact r4 | exact absurd ⟨_, rfl⟩ hl)
  · rename_i a
    simp only [all_bind, all_ret] at h; simp only [wpE]
    refine ev_e c a r g h x fun d1 h1 t1 sh1 st1 g1 r1 => ?_
    obtain ⟨v, e, hv⟩ := all_ofO h1
    cases r1 <;> simp only [revD] at e <;> try (cases e; done)
    · rename_i q1
      cases e
      exact q _ hv _ _ _ g1 (.tup q1.rev)
    · rename_i e1 q1
      cases e
      exact ⟨_, g1.s3 _ _ e1, fun p hp => fresh g1 q1.rev hp hv⟩
  · exact plain h
end
end Mo

set_option Elab.async false
set_option linter.all false
set_option maxRecDepth 100000
set_option autoImplicit false
set_option maxHeartbeats 8000000
namespace Mo
open PySem PyProof.Rows
section
variable {s0 h0 sh st : St} {env : Env} {de : SE2}
mutual
theorem asg_okS : ∀ (tg : Tg) {t d : T} {env : Env} {de e2 : SE2} {Q : Env → Prop}, IV s0 h0 sh st env de → Rp sh t d → asgS tg d de = some e2 → (∀ env2, IV s0 h0 sh st env2 e2 → Q env2) → asgT tg t st env Q
  | .name i, t, d, env, de, e2, Q, v, h, e, q => by
    simp only [asgS] at e; cases e
    simp only [asgT]
    exact q _ (v.setv h)
  | .tup gs, t, d, env, de, e2, Q, v, h, e, q => by
    cases h <;> simp only [asgS] at e <;> try (cases e; done)
    · simp only [asgT]
      exact asgs_okS gs v (by assumption) e q
    · simp only [asgT]
      rename_i e1 r1
      exact ⟨_, v.gr.s3 _ _ e1, asgs_okS gs v r1 e q⟩
theorem asgs_okS : ∀ (gs : List Tg) {ts ds : List T} {env : Env} {de e2 : SE2} {Q : Env → Prop}, IV s0 h0 sh st env de → Rps sh ts ds → asgSs gs ds de = some e2 → (∀ env2, IV s0 h0 sh st env2 e2 → Q env2) → asgTs gs ts st env Q
  | [], _, _, env, de, e2, Q, v, .nil, e, q => by
    simp only [asgSs] at e; cases e
    simp only [asgTs]
    exact q _ v
  | [], _, _, env, de, e2, Q, v, .cons _ _, e, q => by simp [asgSs] at e
  | _ :: _, _, _, env, de, e2, Q, v, .nil, e, q => by simp [asgSs] at e
  | tg :: gs, _, _, env, de, e2, Q, v, .cons a b, e, q => by
    simp only [asgSs] at e
    split at e
    · rename_i e1 h1
      simp only [asgTs]
      exact asg_okS tg v a h1 fun env2 v2 => asgs_okS gs v2 b e q
    · cases e
end
theorem pub1_ne {i x : Nat} (h : x ≠ i) : (pub1 de i)[x]? = de[x]? := by
  rw [pub1_eq]
  split
  · exact List.getElem?_set_ne (Ne.symm h)
  · rfl
theorem pub_ne {x : Nat} : ∀ (os : List Nat) {de : SE2}, x ∉ os → (pub os de)[x]? = de[x]?
  | [], _, _ => rfl
  | i :: os, de, h => by
    have h1 : x ≠ i := fun z => h (by rw [z]; exact .head _)
    show (pub os (pub1 de i))[x]? = _
    rw [pub_ne os (fun z => h (.tail _ z)), pub1_ne h1]
theorem own_fr {s1 : St} {r : Bool × T} {t : T} {i k a : Nat} (hl : env.length = de.length) (q : VR s1 sh st r t) (o : Own (de.set i (some (slF r))) (env.set i (some t)) k a) (h : ∀ j b, Own de env j b → st b ≠ none) : st a ≠ none := by
  rcases own_set hl o with ⟨_, ⟨s, ho, e⟩, e2⟩ | ⟨_, o⟩
  · cases e2
    obtain ⟨f, d⟩ := r
    cases f with
    | true =>
      obtain ⟨b, o1, h2, h3, h4, h5, h6⟩ := q
      cases h2
      rw [h5]; exact fun z => by cases z
    | false =>
      have e3 : slF (false, d) = .val d := by cases d <;> rfl
      rw [e3] at e; cases e; cases ho
  · exact h _ _ o
theorem mask_get : ∀ {m e : SE2} {i : Nat} {v : Sl}, (mask m e)[i]? = some (some v) → e[i]? = some (some v)
  | none :: m, x :: e, 0, v, h => by simp [mask] at h
  | none :: m, x :: e, i + 1, v, h => by
    simp only [mask, List.getElem?_cons_succ] at h ⊢
    exact mask_get h
  | some _ :: m, x :: e, 0, v, h => by simpa [mask] using h
  | some _ :: m, x :: e, i + 1, v, h => by
    simp only [mask, List.getElem?_cons_succ] at h ⊢
    exact mask_get h
  | [], e, i, v, h => by simpa [mask] using h
  | _ :: _, [], i, v, h => by simp [mask] at h
theorem mask_len : ∀ (m e : SE2), (mask m e).length = e.length
  | none :: m, x :: e => by simp only [mask, List.length_cons, mask_len m e]
  | some _ :: m, x :: e => by simp only [mask, List.length_cons, mask_len m e]
  | [], e => by simp [mask]
  | _ :: _, [] => by simp [mask]
theorem IV.mask (v : IV s0 h0 sh st env de) (m : SE2) : IV s0 h0 sh st env (mask m de) := by
  have ow : ∀ {i a}, Own (Mo.mask m de) env i a → Own de env i a := fun {i a} ⟨⟨ds, ho, h⟩, h2⟩ => ⟨⟨ds, ho, mask_get h⟩, h2⟩
  exact ⟨v.gr, by rw [mask_len]; exact v.len, fun i s e => v.sl i s (mask_get e), fun i j a x y => v.dis i j a (ow x) (ow y), fun i a x => v.bs i a (ow x)⟩
theorem grK {st' : St} (v : IV s0 h0 sh st env de) (h : Sub st st') : Gr st sh sh st' := ⟨h, .refl _, v.gr.s3.trans h, fun _ _ => rfl⟩
end
theorem itf_ok {m : SE2} {chk : St → Prop} {turn : T → Env → St → (Env → St → Prop) → Prop} {f : T → SE2 → Tr Fl} {E' : Ex → Prop} {s0 h0 shL : St} {rt : TK}
    (hc : ∀ s, Sub shL s → chk s)
    (ht : ∀ (x d : T) (sh st : St) (env : Env) (de : SE2) (P : Fl → Prop) (k : Env → St → Prop), IV s0 h0 sh st env de → Sub shL sh → Rp sh x d → (f d de).all E' P →
      (∀ de', P (.nx de') → ∀ sh' st' env', Sub sh sh' → IV s0 h0 sh' st' env' de' → k env' st') →
      (∀ r, P (.rt r) → ∀ t sh' st', Gr s0 h0 sh' st' → VR s0 sh' st' r t → rt t st') → turn x env st k) :
    ∀ {xs ds : List T} {sh st : St} {env : Env} {de : SE2} {P : Fl → Prop} {Q : Env → St → Prop}, IV s0 h0 sh st env de → Sub shL sh → Rps sh xs ds → (evFor m f ds de).all E' P →
      (∀ de', P (.nx de') → ∀ sh' st' env', Sub sh sh' → IV s0 h0 sh' st' env' de' → Q env' st') →
      (∀ r, P (.rt r) → ∀ t sh' st', Gr s0 h0 sh' st' → VR s0 sh' st' r t → rt t st') → itf chk turn xs env st Q := by
  intro xs
  induction xs with
  | nil =>
    intro ds sh st env de P Q v k r h q1 q2
    cases r
    have h : P (.nx de) := h
    exact ⟨hc _ (k.trans v.gr.s3), q1 _ h _ _ _ (.refl _) v⟩
  | cons x xs ih =>
    intro ds sh st env de P Q v k r h q1 q2
    cases r with
    | cons r1 r2 =>
      simp only [evFor, all_bind] at h
      exact ⟨hc _ (k.trans v.gr.s3), ht _ _ _ _ _ _ _ _ v k r1 h
        (fun de' hd sh' st' env' k' v' => ⟨env', st', .refl _, .refl _, ih (v'.mask m) (k.trans k') (r2.mono k') hd (fun de2 h2 sh2 st2 env2 k2 v2 => q1 _ h2 _ _ _ (k'.trans k2) v2) q2⟩)
        fun r hr => q2 _ hr⟩
theorem itw_ok {m : SE2} {test : Env → St → (Bool → St → Prop) → Prop} {body : Env → St → (Env → St → Prop) → Prop} {cc : SE2 → Tr Bool} {f : SE2 → Tr Fl} {E' : Ex → Prop} {s0 h0 : St} {rt : TK}
    (hc : ∀ (sh st : St) (env : Env) (de : SE2) (P : Bool → Prop) (k : Bool → St → Prop), IV s0 h0 sh st env de → (cc de).all E' P → (∀ b, P b → ∀ st', IV s0 h0 sh st' env de → k b st') → test env st k)
    (ht : ∀ (sh st : St) (env : Env) (de : SE2) (P : Fl → Prop) (k : Env → St → Prop), IV s0 h0 sh st env de → (f de).all E' P →
      (∀ de', P (.nx de') → ∀ sh' st' env', Sub sh sh' → IV s0 h0 sh' st' env' de' → k env' st') →
      (∀ r, P (.rt r) → ∀ t sh' st', Gr s0 h0 sh' st' → VR s0 sh' st' r t → rt t st') → body env st k) :
    ∀ (n : Nat) {sh st : St} {env : Env} {de : SE2} {P : Fl → Prop} {Q : Env → St → Prop}, IV s0 h0 sh st env de → (evWh m cc f n de).all E' P →
      (∀ de', P (.nx de') → ∀ sh' st' env', Sub sh sh' → IV s0 h0 sh' st' env' de' → Q env' st') →
      (∀ r, P (.rt r) → ∀ t sh' st', Gr s0 h0 sh' st' → VR s0 sh' st' r t → rt t st') → itw test body n env st Q := by
  intro n
  induction n with
  | zero => intro sh st env de P Q v h; exact h.elim
  | succ n ih =>
    intro sh st env de P Q v h q1 q2
    simp only [evWh, all_bind] at h
    refine hc _ _ _ _ _ _ v h fun b hb st' v' => ?_
    cases b with
    | true =>
      rw [if_pos rfl]
      rw [if_pos rfl] at hb
      simp only [all_bind] at hb
      exact ht _ _ _ _ _ _ v' hb
        (fun de' hd sh' st2 env' k' v2 => ⟨env', st2, .refl _, .refl _, ih (v2.mask m) hd (fun de2 h2 sh2 st3 env2 k2 v3 => q1 _ h2 _ _ _ (k'.trans k2) v3) q2⟩)
        fun r hr => q2 _ hr
    | false =>
      rw [if_neg (by decide)]
      rw [if_neg (by decide)] at hb
      exact q1 _ hb _ _ _ (.refl _) v'
section
variable {C : Cxt} {D : Ec} (c : CEv C D)
include c
mutual
theorem ev_s : ∀ (s : Sm) {s0 h0 sh st : St} {env : Env} {de : SE2} {E' : Ex → Prop} {P : Fl → Prop} {PO : Po}, IV s0 h0 sh st env de → (evS D s de).all E' P → ExOk s0 h0 E' PO.ex →
    (∀ de', P (.nx de') → ∀ sh' st' env', Sub sh sh' → IV s0 h0 sh' st' env' de' → PO.nx env' st') →
    (∀ r, P (.rt r) → ∀ t sh' st', Gr s0 h0 sh' st' → VR s0 sh' st' r t → PO.rt t st') → wpS C s env st PO
  | .set (.name i) e, s0, h0, sh, st, env, de, E', P, PO, v, h, x, q1, q2 => by
    simp only [evS, all_bind, all_ret] at h; simp only [wpS, asgT]
    obtain ⟨sh1, k1, v1⟩ := v.pub (occE e)
    refine ev_f c e v1.er v1.gr.s3 h (x.trans v1.gr) fun r hr t sh2 st2 g2 r2 => ?_
    by_cases hc : clean r = true
    · rw [keepIf, if_pos hc] at hr
      exact q1 _ hr sh st2 _ (.refl _) ((v.keep g2.s1).setr (clean_ok hc r2 (k1.trans g2.s2)) v.gr.s1 fun j a o => (Own.nn v o).1)
    · rw [keepIf, if_neg hc] at hr
      exact q1 _ hr sh2 st2 _ (k1.trans g2.s2) ((v1.grow g2).setr r2 v1.gr.s1 fun j a o => (Own.nn v1 o).1)
  | .set (.tup gs) e, s0, h0, sh, st, env, de, E', P, PO, v, h, x, q1, q2 => by
    simp only [evS, all_bind, all_ret] at h; simp only [wpS]
    obtain ⟨sh1, k1, v1⟩ := v.pub (occE e)
    refine ev_e c e v1.er v1.gr.s3 h (x.trans v1.gr) fun d hd t sh2 st2 g2 r2 => ?_
    obtain ⟨e2, h1, h2⟩ := all_ofO hd
    by_cases hc : pureT d = true
    · rw [keepIf, if_pos hc] at h1
      exact asg_okS _ (v.keep g2.s1) (r2.to_pure hc) h1 fun env2 v2 => q1 _ h2 _ _ _ (.refl _) v2
    · rw [keepIf, if_neg hc] at h1
      exact asg_okS _ (v1.grow g2) r2 h1 fun env2 v2 => q1 _ h2 _ _ _ (k1.trans g2.s2) v2
  | .par is es, s0, h0, sh, st, env, de, E', P, PO, v, h, x, q1, q2 => by
    simp only [evS] at h
    split at h
    · rename_i i j a b
      simp only [all_bind, all_ret] at h
      simp only [wpS, wpEs]
      obtain ⟨sh1, k1, v1⟩ := v.pub (occE a ++ occE b)
      refine ev_f c a v1.er v1.gr.s3 h (x.trans v1.gr) fun r hr t sh2 st2 g2 r2 => ev_f c b (v1.er.mono g2.s2) g2.s3 hr ((x.trans v1.gr).trans g2) fun w hw u sh3 st3 g3 r3 => ⟨rfl, ?_⟩
      by_cases hc : (clean r && clean w) = true
      · rw [keepIf, if_pos hc] at hw
        simp only [Bool.and_eq_true] at hc
        have sub3 := g2.s1.trans g3.s1
        have r4 := clean_ok hc.1 r2 (k1.trans g2.s2)
        have r5 : VR st sh st3 r t := r4.grow (grK (v.keep g2.s1) g3.s1)
        have r6 := clean_ok hc.2 r3 ((k1.trans g2.s2).trans g3.s2)
        refine q1 _ hw sh st3 _ (.refl _) (((v.keep sub3).setr r5 v.gr.s1 fun j a o => (Own.nn v o).1).setr r6 (v.gr.s1.trans g2.s1) fun k a o => ?_)
        exact own_fr v.len r4 o fun j b o => sub_ne g2.s1 (Own.nn v o).1
      · rw [keepIf, if_neg hc] at hw
        refine q1 _ hw sh3 st3 _ ((k1.trans g2.s2).trans g3.s2) ((((v1.grow g2).grow g3).setr (r2.grow g3) v1.gr.s1 fun j a o => (Own.nn v1 o).1).setr r3 (v1.gr.s1.trans g2.s1) fun k a o => ?_)
        exact own_fr v1.len r2 o fun j b o => sub_ne g2.s1 (Own.nn v1 o).1
    · exact h.elim
  | .sub o i e, s0, h0, sh, st, env, de, E', P, PO, v, h, x, q1, q2 => by
    simp only [evS] at h
    split at h
    · rename_i y
      have hn : ∀ {b : Bool}, ¬ ((((occE e).contains y || (occE i).contains y) && !b) = true) → b = false → y ∉ occE e ++ occE i := fun hocc hb => by
        subst hb
        simp only [Bool.not_false, Bool.and_true, Bool.or_eq_true, List.contains_iff_mem, not_or] at hocc
        simp only [List.mem_append, not_or]
        exact hocc
      split at h
      · rename_i ts hts
        simp only [all_bind] at h
        simp only [wpS]
        obtain ⟨sh1, k1, v1⟩ := v.pub (occE e ++ occE i)
        have hy := getD_some hts
        obtain ⟨t, he, h7⟩ := v.sl y _ hy
        obtain ⟨a, o1, rfl, h4, h5, h6⟩ := (SlR.own rfl).mp h7
        cases o1 <;> try (exact h6.elim)
        rename_i us
        have h6 : Rps sh us ts := h6
        refine ev_e c e v1.er v1.gr.s3 h (x.trans v1.gr) fun d hd t sh2 st2 g2 r2 => ?_
        simp only [wpE, getD_of he]
        refine ev_e c i (v1.er.mono g2.s2) g2.s3 hd ((x.trans v1.gr).trans g2) fun d2 hd2 t2 sh3 st3 g3 r3 => ?_
        cases r3 <;> try (exact hd2.elim)
        rename_i j
        simp only at hd2
        split at hd2
        · exact hd2.elim
        · rename_i hocc
          split at hd2
          · rename_i hj
            have hd2 : P _ := hd2
            refine .inl ⟨us, j.toNat, by rw [show Int.ofNat j.toNat = j from Int.toNat_of_nonneg hj.1], g3.s1 _ _ (g2.s1 _ _ h5), by rw [h6.length]; exact hj.2, ?_⟩
            by_cases hc : pureT d = true
            · rw [keepIf, if_pos hc] at hd2
              exact q1 _ hd2 _ _ _ (.refl _) ((v.keep (g2.s1.trans g3.s1)).chg rfl rfl hy he (show Rps _ _ _ from h6.set _ (r2.to_pure hc)))
            · rw [keepIf, if_neg hc] at hd2
              have hy1 : (pub (occE e ++ occE i) de)[y]? = some (some (.own ts)) := by rw [pub_ne _ (hn hocc (by simpa using hc))]; exact hy
              exact q1 _ hd2 _ _ _ ((k1.trans g2.s2).trans g3.s2) (((v1.grow g2).grow g3).chg rfl rfl hy1 he (show Rps _ _ _ from (h6.mono ((k1.trans g2.s2).trans g3.s2)).set _ (r2.mono g3.s2)))
          · exact hd2.elim
      · rename_i b ks vs hts
        simp only [all_bind] at h
        simp only [wpS]
        obtain ⟨sh1, k1, v1⟩ := v.pub (occE e ++ occE i)
        have hy := getD_some hts
        obtain ⟨t, he, h7⟩ := v.sl y _ hy
        obtain ⟨a, o1, rfl, h4, h5, h6⟩ := (SlR.own rfl).mp h7
        cases o1 <;> try (exact h6.elim)
        rename_i b' kvs
        obtain ⟨hb, h6⟩ : b' = b ∧ RpK sh kvs ks vs := h6
        subst hb
        refine ev_e c e v1.er v1.gr.s3 h (x.trans v1.gr) fun d hd t sh2 st2 g2 r2 => ?_
        simp only [wpE, getD_of he]
        refine ev_e c i (v1.er.mono g2.s2) g2.s3 hd ((x.trans v1.gr).trans g2) fun d2 hd2 t2 sh3 st3 g3 r3 => ?_
        split at hd2
        · exact hd2.elim
        · rename_i hocc
          split at hd2
          · rename_i hj
            have hd2 : P _ := hd2
            obtain ⟨rfl, hs⟩ := r3.pure (key_pure hj.1)
            refine .inr ⟨b', kvs, g3.s1 _ _ (g2.s1 _ _ h5), hj.1, by rw [h6.length]; exact hj.2, ?_⟩
            by_cases hc : pureT d = true
            · rw [keepIf, if_pos hc] at hd2
              exact q1 _ hd2 _ _ _ (.refl _) ((v.keep (g2.s1.trans g3.s1)).chg rfl rfl hy he (show _ ∧ _ from ⟨rfl, h6.put (key_pure hj.1) hs (r2.to_pure hc)⟩))
            · rw [keepIf, if_neg hc] at hd2
              have hy1 : (pub (occE e ++ occE i) de)[y]? = some (some (.ownD b' ks vs)) := by rw [pub_ne _ (hn hocc (by simpa using hc))]; exact hy
              exact q1 _ hd2 _ _ _ ((k1.trans g2.s2).trans g3.s2) (((v1.grow g2).grow g3).chg rfl rfl hy1 he (show _ ∧ _ from ⟨rfl, (h6.mono ((k1.trans g2.s2).trans g3.s2)).put (key_pure hj.1) hs (r2.mono g3.s2)⟩))
          · exact hd2.elim
      · exact h.elim
    · exact h.elim
  | .aug i o e, s0, h0, sh, st, env, de, E', P, PO, v, h, x, q1, q2 => by
    simp only [evS] at h
    split at h
    · rename_i d hd
      simp only [all_bind] at h
      obtain ⟨t, he, ht⟩ := v.sl i _ (getD_some hd)
      simp only [wpS, getD_of he]
      obtain ⟨sh1, k1, v1⟩ := v.pub (occE e)
      refine ev_e c e v1.er v1.gr.s3 h (x.trans v1.gr) fun d2 hd2 t2 sh2 st2 g2 r2 => ?_
      have ht : Rp sh t d := ht
      split at hd2
      · cases ht; cases r2
        exact q1 _ hd2 _ _ _ (.refl _) ((v.keep g2.s1).setv (.int _))
      · cases ht; cases r2
        exact q1 _ hd2 _ _ _ (.refl _) ((v.keep g2.s1).setv (.int _))
      · cases ht; cases r2
        split at hd2
        · rename_i hm
          exact ⟨hm, q1 _ hd2 _ _ _ (.refl _) ((v.keep g2.s1).setv (.int _))⟩
        · exact hd2.elim
      · exact hd2.elim
    · exact h.elim
  | .augs .., s0, h0, sh, st, env, de, E', P, PO, v, h, x, q1, q2 => by
    simp only [evS] at h; exact h.elim
  | .ex e, s0, h0, sh, st, env, de, E', P, PO, v, h, x, q1, q2 => by
    have plain : ((evE D e (vis (pub (occE e) de))).bind fun _ => Tr.ret (Fl.nx de)).all E' P → wpS C (.ex e) env st PO := fun h => by
      simp only [all_bind, all_ret] at h; simp only [wpS]
      obtain ⟨sh1, k1, v1⟩ := v.pub (occE e)
      exact ev_e c e v1.er v1.gr.s3 h (x.trans v1.gr) fun d hd t sh2 st2 g2 r2 => q1 _ hd _ _ _ (.refl _) (v.keep g2.s1)
    simp only [evS] at h
    split at h
    · rename_i m y es
      split at h
      · rename_i a
        split at h
        · rename_i ts hts
          simp only [all_bind] at h
          have hy := getD_some hts
          obtain ⟨t, he, h7⟩ := v.sl y _ hy
          obtain ⟨b, o1, rfl, h4, h5, h6⟩ := (SlR.own rfl).mp h7
          cases o1 <;> try (exact h6.elim)
          rename_i us
          have h6 : Rps sh us ts := h6
          simp only [wpS, wpE, wpEs, getD_of he]
          obtain ⟨sh1, k1, v1⟩ := v.pub (occE a)
          refine ⟨⟨b, us, rfl, h5⟩, ev_e c a v1.er v1.gr.s3 h (x.trans v1.gr) fun d hd t sh2 st2 g2 r2 => ?_⟩
          split at hd
          · exact hd.elim
          · rename_i hocc
            split at hd
            · rename_i hl
              have hd : P _ := hd
              refine ⟨us, g2.s1 _ _ h5, by rw [h6.length]; exact hl, ?_⟩
              by_cases hc : pureT d = true
              · rw [keepIf, if_pos hc] at hd
                exact q1 _ hd _ _ _ (.refl _) ((v.keep g2.s1).chg rfl rfl hy he (show Rps _ _ _ from h6.app (.cons (r2.to_pure hc) .nil)))
              · rw [keepIf, if_neg hc] at hd
                have hn : y ∉ occE a := by
                  rw [show pureT d = false by simpa using hc] at hocc
                  simpa [List.contains_iff_mem] using hocc
                have hy1 : (pub (occE a) de)[y]? = some (some (.own ts)) := by rw [pub_ne _ hn]; exact hy
                exact q1 _ hd _ _ _ (k1.trans g2.s2) ((v1.grow g2).chg rfl rfl hy1 he (show Rps _ _ _ from (h6.mono (k1.trans g2.s2)).app (.cons r2 .nil)))
            · exact hd.elim
        · exact h.elim
      · split at h
        · rename_i ts hts
          split at h
          · exact h.elim
          · rename_i hne
            have h : P _ := h
            have hy := getD_some hts
            obtain ⟨t, he, h7⟩ := v.sl y _ hy
            obtain ⟨b, o1, rfl, h4, h5, h6⟩ := (SlR.own rfl).mp h7
            cases o1 <;> try (exact h6.elim)
            rename_i us
            have h6 : Rps sh us ts := h6
            simp only [wpS, wpE, wpEs, getD_of he]
            have hus : us ≠ [] := fun z => by
              subst z
              have := h6.length
              cases ts <;> simp at this hne
            refine ⟨⟨b, us, rfl, h5⟩, us.dropLast, us.getLast hus, by rw [List.dropLast_concat_getLast]; exact h5, q1 _ h _ _ _ (.refl _) (v.chg rfl rfl hy he (show Rps _ _ _ from ?_))⟩
            rw [List.dropLast_eq_take, List.dropLast_eq_take, h6.length]
            exact h6.take _
        · exact h.elim
      · exact plain h
    · exact plain h
  | .ret none, s0, h0, sh, st, env, de, E', P, PO, v, h, x, q1, q2 => by
    simp only [evS, all_ret] at h; simp only [wpS]
    exact q2 _ h _ _ _ v.gr .non
  | .ret (some e), s0, h0, sh, st, env, de, E', P, PO, v, h, x, q1, q2 => by
    simp only [evS] at h
    split at h
    · rename_i i
      split at h
      · rename_i ts hts
        have h : P _ := h
        have hy := getD_some hts
        obtain ⟨t, he, h7⟩ := v.sl i _ hy
        obtain ⟨b, o1, rfl, h4, h5, h6⟩ := (SlR.own rfl).mp h7
        simp only [wpS, wpE, getD_of he]
        exact q2 _ h _ _ _ v.gr ⟨b, o1, rfl, v.bs _ _ ⟨⟨_, rfl, hy⟩, he⟩, h4, h5, h6⟩
      · rename_i bb ks vs hts
        have h : P _ := h
        have hy := getD_some hts
        obtain ⟨t, he, h7⟩ := v.sl i _ hy
        obtain ⟨b, o1, rfl, h4, h5, h6⟩ := (SlR.own rfl).mp h7
        simp only [wpS, wpE, getD_of he]
        exact q2 _ h _ _ _ v.gr ⟨b, o1, rfl, v.bs _ _ ⟨⟨_, rfl, hy⟩, he⟩, h4, h5, h6⟩
      · rename_i d hd
        have h : P _ := h
        obtain ⟨t, he, ht⟩ := v.sl i _ (getD_some hd)
        simp only [wpS, wpE, getD_of he]
        exact q2 _ h _ _ _ v.gr ht
      · exact h.elim
    · simp only [all_bind, all_ret] at h; simp only [wpS]
      obtain ⟨sh1, k1, v1⟩ := v.pub (occE e)
      refine ev_f c e v1.er v1.gr.s3 h (x.trans v1.gr) fun r hr t sh2 st2 g2 r2 => q2 _ hr _ _ _ (v1.gr.trans g2) ?_
      obtain ⟨f, d⟩ := r
      cases f with
      | false => exact r2
      | true =>
        obtain ⟨a, o, h2, h3, h4⟩ := r2
        exact ⟨a, o, h2, sub_no v1.gr.s1 h3, h4⟩
  | .cond cc a b, s0, h0, sh, st, env, de, E', P, PO, v, h, x, q1, q2 => by
    simp only [evS, all_bind] at h; simp only [wpS]
    obtain ⟨sh1, k1, v1⟩ := v.pub (occE cc)
    refine ev_t c cc v1.er v1.gr.s3 h (x.trans v1.gr) fun t ht sh2 st2 g2 => ?_
    split
    · rename_i hb; rw [if_pos hb] at ht
      exact ev_ss a (v.keep g2.s1) ht x q1 q2
    · rename_i hb; rw [if_neg hb] at ht
      exact ev_ss b (v.keep g2.s1) ht x q1 q2
  | .loop g s b, s0, h0, sh, st, env, de, E', P, PO, v, h, x, q1, q2 => by
    simp only [evS, all_bind] at h; simp only [wpS]
    obtain ⟨sh1, k1, v1⟩ := v.pub (occR s)
    refine ev_r c s v1.er v1.gr.s3 h (x.trans v1.gr) fun ds hd ts chk sh2 st2 g2 r2 hl hc => ?_
    refine itf_ok (rt := PO.rt) hc (fun y d sh3 st3 env3 de3 P3 k v3 k3 ry hf n1 n2 => ?_) (v1.grow g2) (.refl _) r2 hd (fun de' hd' sh' st' env' k' v' => q1 _ hd' _ _ _ ((k1.trans g2.s2).trans k') v') q2
    simp only [all_bind] at hf
    obtain ⟨d2, hd2, hf⟩ := all_ofO hf
    exact asg_okS g v3 ry hd2 fun env4 v4 => ev_ss b v4 hf x n1 n2
  | .whl cc b, s0, h0, sh, st, env, de, E', P, PO, v, h, x, q1, q2 => by
    simp only [evS] at h; simp only [wpS]
    refine ⟨WN, by unfold WN; exact Nat.le_refl _, itw_ok (rt := PO.rt) (fun sh1 st1 env1 de1 P1 k v1 hcc kk => ?_) (fun sh1 st1 env1 de1 P1 k v1 hf n1 n2 => ev_ss b (PO := { nx := k, rt := PO.rt, ex := PO.ex }) v1 hf x n1 n2) WN v h q1 q2⟩
    obtain ⟨sh2, k2, v2⟩ := v1.pub (occE cc)
    exact ev_t c cc v2.er v2.gr.s3 hcc (x.trans v2.gr) fun t ht sh3 st3 g3 => kk _ ht _ (v1.keep g3.s1)
  | .pass, s0, h0, sh, st, env, de, E', P, PO, v, h, x, q1, q2 => by
    simp only [evS, all_ret] at h; simp only [wpS]
    exact q1 _ h _ _ _ (.refl _) v
theorem ev_ss : ∀ (ss : List Sm) {s0 h0 sh st : St} {env : Env} {de : SE2} {E' : Ex → Prop} {P : Fl → Prop} {PO : Po}, IV s0 h0 sh st env de → (evSs D ss de).all E' P → ExOk s0 h0 E' PO.ex →
    (∀ de', P (.nx de') → ∀ sh' st' env', Sub sh sh' → IV s0 h0 sh' st' env' de' → PO.nx env' st') →
    (∀ r, P (.rt r) → ∀ t sh' st', Gr s0 h0 sh' st' → VR s0 sh' st' r t → PO.rt t st') → wpSs C ss env st PO
  | [], s0, h0, sh, st, env, de, E', P, PO, v, h, x, q1, q2 => by
    simp only [evSs, all_ret] at h; simp only [wpSs]
    exact q1 _ h _ _ _ (.refl _) v
  | s :: ss, s0, h0, sh, st, env, de, E', P, PO, v, h, x, q1, q2 => by
    simp only [evSs, all_bind] at h; simp only [wpSs]
    exact ev_s s (PO := { PO with nx := fun e2 s2 => wpSs C ss e2 s2 PO }) v h x
      (fun de' hd sh' st' env' k' v' => ev_ss ss v' hd x (fun de2 h2 sh2 st2 env2 k2 v2 => q1 _ h2 _ _ _ (k'.trans k2) v2) q2)
      fun r hr => q2 _ hr
end
end
theorem start_iv {s0 h0 : St} (g : Sub h0 s0) {ts ds : List T} {nl : Nat} (r : Rps h0 ts ds) : IV s0 h0 h0 s0 (start nl ts) (startD nl ds) := by
  have no : ∀ {i a}, ¬ Own (startD nl ds) (start nl ts) i a := fun {i a} ⟨⟨es, ho, h⟩, _⟩ => by
    unfold startD at h
    by_cases hi : i < ds.length
    · rw [List.getElem?_append_left (by simpa using hi), List.getElem?_map] at h
      obtain ⟨d, _, h⟩ := Option.map_eq_some_iff.mp h
      cases h; cases ho
    · rw [List.getElem?_append_right (by simpa using hi), List.getElem?_replicate] at h
      split at h <;> cases h
  refine ⟨.refl g, by unfold start startD; simp [r.length], fun i v e => ?_, fun _ _ _ h => (no h).elim, fun _ _ h => (no h).elim⟩
  unfold startD at e
  by_cases hi : i < ds.length
  · rw [List.getElem?_append_left (by simpa using hi), List.getElem?_map] at e
    obtain ⟨d, hd, e⟩ := Option.map_eq_some_iff.mp e
    cases e
    obtain ⟨t, h1, h2⟩ := r.get hd
    refine ⟨t, ?_, h2⟩
    unfold start
    rw [List.getElem?_append_left (by rw [List.length_map, r.length]; exact hi), List.getElem?_map, h1]; rfl
  · rw [List.getElem?_append_right (by simpa using hi), List.getElem?_replicate] at e
    split at e <;> cases e
/-- what a run by values tells holds -/
theorem ev_call {Γ : Pg} (hrp : RpOk Γ.rp) : ∀ (k f : Nat) (ds ts : List T) (sh st : St), Sub sh st → Rps sh ts ds → ∀ (E' : Ex → Prop) (P : Bool × T → Prop) (E : EK) (Q : TK), (evCall Γ k f ds).all E' P → ExOk st sh E' E →
    (∀ r, P r → ∀ t sh' st', Gr st sh sh' st' → VR st sh' st' r t → Q t st') → wpCall Γ k f ts st E Q := by
  intro k
  induction k with
  | zero => intro f ds ts sh st g r E' P E Q h; exact h.elim
  | succ k ih =>
    intro f ds ts sh st g r E' P E Q h x q
    simp only [evCall] at h
    simp only [wpCall]
    have c : CEv ⟨wpCall Γ k, Γ.fns.length, fun i => Γ.glob[i]?, Γ.rp⟩ ⟨evCall Γ k, Γ.fns.length, fun i => Γ.glob[i]?, Γ.rp⟩ := ⟨ih, rfl, rfl, rfl, hrp⟩
    split at h
    · rename_i np nl body hf
      try rw [hf]
      split at h
      · rename_i hl
        simp only [all_bind] at h
        refine ⟨r.length.trans hl, ev_ss c body (start_iv g r) h (fun y hy x' sh' st' g' e1 e2 => ⟨st', .refl _, x y hy x' sh' st' g' e1 e2⟩) (fun de' hd sh' st' env' k' v' => ⟨st', .refl _, q _ hd _ _ _ v'.gr .non⟩) fun r' hr t sh' st' g' r2 => ⟨st', .refl _, q _ hr _ _ _ g' r2⟩⟩
      · exact h.elim
    · exact h.elim
    · rename_i hf
      try rw [hf]
      split at h
      · rename_i m
        cases r with
        | cons r1 r2 => cases r2 with
          | cons r2 r3 =>
            cases r3; cases r2
            cases r1 with
            | deck e =>
              refine ⟨_, m, rfl, g _ _ e, h.1.1, h.1.2, fun i i0 i1 => ?_⟩
              exact q _ (h.2 i i0 i1) _ _ _ (.refl g) (Rp.int i)
      · exact h.elim
    · exact h.elim
end Mo

set_option Elab.async false
set_option linter.all false
set_option maxRecDepth 100000
set_option autoImplicit false
namespace Mo
open PySem PyProof.Rows
/-! the text of repr is a text -/
def ChOk (x : Str) : Prop := ∀ c ∈ x.cps.toList, c < 1114112
theorem char_lt (c : Char) : c.toNat < 1114112 := by
  have h : c.val.toNat.isValidChar := c.valid
  unfold Nat.isValidChar at h
  show c.val.toNat < 1114112
  omega
theorem ch_app {a b : Str} (h : ChOk a) (k : ChOk b) : ChOk (a ++ b) := fun c hc => by
  have e : (a ++ b).cps = a.cps ++ b.cps := rfl
  rw [e, Array.toList_append] at hc
  rcases List.mem_append.mp hc with hc | hc
  · exact h c hc
  · exact k c hc
theorem ch_of (s : String) : ChOk (Str.ofString s) := fun c hc => by
  rw [Str.ofString_eq_toList] at hc
  simp only [List.mem_map] at hc
  obtain ⟨d, _, rfl⟩ := hc
  exact char_lt d
theorem ch_char {q c : Nat} (hc : c < 1114112) : ∀ d ∈ PySem.Builtin.Str.reprChar q c, d < 1114112 := by
  have hex : ∀ w, ∀ d ∈ (List.replicate (w - ((Nat.toDigits 16 c).map Char.toNat).length) 48 ++ (Nat.toDigits 16 c).map Char.toNat), d < 1114112 := by
    intro w d hd
    rcases List.mem_append.mp hd with hd | hd
    · rw [(List.mem_replicate.mp hd).2]; decide
    · obtain ⟨e, _, rfl⟩ := List.mem_map.mp hd
      exact char_lt e
  have two : ∀ a b, a < 1114112 → b < 1114112 → ∀ d ∈ [a, b], d < 1114112 := fun a b ha hb d hd => by
    rcases List.mem_cons.mp hd with rfl | hd
    · exact ha
    · rw [List.mem_singleton.mp hd]; exact hb
  have app : ∀ a b l, a < 1114112 → b < 1114112 → (∀ d ∈ l, d < 1114112) → ∀ d ∈ [a, b] ++ l, d < 1114112 := fun a b l ha hb hl d hd => by
    rcases List.mem_append.mp hd with hd | hd
    · exact two a b ha hb d hd
    · exact hl d hd
  unfold PySem.Builtin.Str.reprChar
  simp only
  split
  · exact two _ _ (by decide) hc
  · split
    · exact two _ _ (by decide) (by decide)
    · split
      · exact two _ _ (by decide) (by decide)
      · split
        · exact two _ _ (by decide) (by decide)
        · split
          · intro d hd; rw [List.mem_singleton.mp hd]; exact hc
          · split
            · exact app _ _ _ (by decide) (by decide) (hex 2)
            · split
              · exact app _ _ _ (by decide) (by decide) (hex 4)
              · exact app _ _ _ (by decide) (by decide) (hex 8)
theorem ch_repr {x : Str} (h : ChOk x) : ChOk (reprText x) := by
  have hq : reprQuote x < 1114112 := by unfold reprQuote; split <;> decide
  have key : ∀ (l : List Nat) (acc : Array Nat), (∀ c ∈ l, c < 1114112) → (∀ c ∈ acc.toList, c < 1114112) → ∀ c ∈ (l.foldl (fun out c => out ++ (PySem.Builtin.Str.reprChar (reprQuote x) c).toArray) acc).toList, c < 1114112 := by
    intro l
    induction l with
    | nil => intro acc _ h; exact h
    | cons d l ih =>
      intro acc h1 h2
      rw [List.foldl_cons]
      refine ih _ (fun c hc => h1 c (.tail _ hc)) fun c hc => ?_
      rw [Array.toList_append] at hc
      rcases List.mem_append.mp hc with hc | hc
      · exact h2 c hc
      · exact ch_char (h1 d (.head _)) c (by simpa using hc)
  intro c hc
  unfold reprText at hc
  simp only [Array.toList_push, List.mem_append, List.mem_singleton] at hc
  rcases hc with hc | hc
  · rw [← Array.foldl_toList] at hc
    exact key _ _ h (fun d (hd : d ∈ [reprQuote x]) => by rw [List.mem_singleton.mp hd]; exact hq) c hc
  · rw [hc]; exact hq
theorem ch_from : ∀ (ts : List Str) (k : Nat) (acc : Str), ChOk acc → (∀ t ∈ ts, ChOk t) → ChOk (textFrom k acc ts)
  | [], _, _, h, _ => h
  | t :: ts, k, acc, h, h2 => ch_from ts (k + 1) _ (ch_app (ch_app h (by split <;> exact ch_of _)) (h2 t (.head _))) fun u hu => h2 u (.tail _ hu)
theorem ch_join (sep : Str) (hs : ChOk sep) : ∀ (ts : List Str), (∀ t ∈ ts, ChOk t) → ChOk (Str.join sep ts)
  | [], _ => fun c hc => by cases hc
  | [x], h => h x (.head _)
  | x :: y :: r, h => ch_app (ch_app (h x (.head _)) hs) (ch_join sep hs (y :: r) fun t ht => h t (.tail _ ht))
mutual
theorem ch_shown : ∀ d : T, chT d = true → ChOk (toD d).shown
  | .non, _ => ch_of _
  | .bl b, _ => by cases b <;> exact ch_of _
  | .int i, _ => ch_of _
  | .str s, h => ch_repr fun c hc => by
    simp only [chT, List.all_eq_true, decide_eq_true_eq] at h
    exact h c (by simpa [cpsS] using hc)
  | .tup ts, h => by
    have h3 := ch_showns ts (by simpa [chT] using h)
    exact ch_app (ch_app (ch_of _) (ch_join _ (ch_of _) _ h3)) (by split <;> exact ch_of _)
  | .lst ts, h => by
    have h3 := ch_showns ts (by simpa [chT] using h)
    exact ch_app (ch_from _ _ _ (ch_of _) h3) (ch_of _)
  | .ref _, _ => ch_of _
  | .fn _, _ => ch_of _
  | .scr, _ => ch_of _
  | .dct _ _ _, _ => ch_of _
theorem ch_showns : ∀ ds : List T, chTs ds = true → ∀ t ∈ PyData.shownAll (toDs ds), ChOk t
  | [], _ => fun t h => by simp [toDs, PyData.shownAll] at h
  | d :: ds, h => by
    simp only [chTs, Bool.and_eq_true] at h
    intro t ht
    simp only [toDs, PyData.shownAll] at ht
    rcases List.mem_cons.mp ht with rfl | ht
    · exact ch_shown d h.1
    · exact ch_showns ds h.2 t ht
end
theorem rp_ok : RpOk rpT := fun d h1 h2 h3 => by
  simp only [okD, Bool.and_eq_true] at h1
  refine ⟨List.all_eq_true.mpr fun c hc => decide_eq_true (ch_shown d h1.2 c hc), ?_⟩
  have := shown_len d h2 h1.2
  have e : (rpT d).length = (toD d).shown.length := by simp [rpT, Str.length]
  omega
/-! a law's end -/
theorem law_ev {Γ : Pg} {k i f j nl : Nat} {rest : List Sm} (hrp : Γ.rp = rpT) (hi : Γ.fns[i]? = some (.code 1 nl (.set (.name j) (.call f [.var 0]) :: rest))) (hf : Γ.fns[f]? = some .mk) (hn : 1 ≤ nl)
    (h : (evSs ⟨evCall Γ (k + 1), Γ.fns.length, fun i => Γ.glob[i]?, Γ.rp⟩ rest ((startD nl [.scr]).set j (some (.val (.ref 0))))).all (fun _ => False) fun fl => fl = .rt (false, .bl true)) :
    wpCall Γ (k + 2) i [.scr] (fun _ => none) noE fun v _ => v = .bl true := by
  refine call_code (k := k + 1) hi rfl fun P _ hr => ?_
  refine p_cons (p_name (e_callc (es_cons (e_var (v := .scr) ?_ (es_nil (call_mk hf (fun _ z => by cases z) fun p hp => ?_))))))
  · unfold start
    cases nl with
    | zero => omega
    | succ n => rfl
  have c : CEv (cxt Γ (k + 1)) ⟨evCall Γ (k + 1), Γ.fns.length, fun i => Γ.glob[i]?, Γ.rp⟩ := ⟨ev_call (by rw [hrp]; exact rp_ok) (k + 1), rfl, rfl, rfl, by show RpOk Γ.rp; rw [hrp]; exact rp_ok⟩
  have v : IV (upd (fun _ => none) p .deck) (upd (fun _ => none) p .deck) (upd (fun _ => none) p .deck) (upd (fun _ => none) p .deck) (start nl [.scr]) (startD nl [.scr]) := start_iv (.refl _) (.cons .scr .nil)
  refine ev_ss c rest (v.setv (.deck (upd_same _ _ _))) h (PO := P) (fun _ z => z.elim) (fun _ z => by cases z) fun r hr' t sh' st' g' r2 => hr _ _ ⟨st', .refl _, ?_⟩
  cases hr'
  have r2 : Rp sh' t (.bl true) := r2
  cases r2
  rfl
end Mo

set_option Elab.async false
set_option linter.all false
set_option maxRecDepth 100000
set_option autoImplicit false
namespace Mo
open PySem PyProof.Rows
abbrev ecx (Γ : Pg) (k : Nat) : Ec := ⟨evCall Γ k, Γ.fns.length, fun i => Γ.glob[i]?, Γ.rp⟩
theorem ev_code {Γ : Pg} {k f np nl : Nat} {body : List Sm} {vs : List T} (hf : Γ.fns[f]? = some (.code np nl body)) (hl : vs.length = np) :
    evCall Γ (k + 1) f vs = (evSs (ecx Γ k) body (startD nl vs)).bind finF := by
  simp only [evCall, hf, if_pos hl]
theorem fin_nx (d : SE2) : finF (.nx d) = .ret (false, .non) := rfl
theorem fin_rt (r : Bool × T) : finF (.rt r) = .ret r := rfl
theorem ev_next {Γ : Pg} {k f : Nat} {m : Int} (hf : Γ.fns[f]? = some .next) : evCall Γ (k + 1) f [.ref 0, .int m] = .draw m fun r => .ret (false, .int r) := by
  simp only [evCall, hf]
theorem go_nx (e : SE2) (k : SE2 → Tr Fl) : (Fl.nx e).go k = k e := rfl
theorem go_rt (r : Bool × T) (k : SE2 → Tr Fl) : (Fl.rt r).go k = .ret (.rt r) := rfl
section
variable {α β : Type}
theorem ite_bind {c : Prop} [Decidable c] {a b : Tr α} {f : α → Tr β} : (if c then a else b).bind f = if c then a.bind f else b.bind f := by split <;> rfl
theorem ite_noexc {c : Prop} [Decidable c] {a b : Tr α} : (if c then a else b).noexc = if c then a.noexc else b.noexc := by split <;> rfl
theorem ite_ret {c : Prop} [Decidable c] {a b : α} : (if c then Tr.ret a else Tr.ret b) = .ret (if c then a else b) := by split <;> rfl
def evCoM (f : α → Tr (Option T)) : List α → Tr (List T)
  | [] => .ret []
  | x :: xs => (f x).bind fun o => (evCoM f xs).bind fun ys => .ret (consO o ys)
theorem evCo_map {f : T → Tr (Option T)} {e : α → T} : ∀ xs : List α, evCo f (xs.map e) = evCoM (fun a => f (e a)) xs
  | [] => rfl
  | x :: xs => by simp only [List.map_cons, evCo, evCoM, evCo_map xs]
theorem evCoM_map {f : β → Tr (Option T)} {e : α → β} : ∀ xs : List α, evCoM f (xs.map e) = evCoM (fun a => f (e a)) xs
  | [] => rfl
  | x :: xs => by simp only [List.map_cons, evCoM, evCoM_map xs]
theorem evCoM_some {g : α → T} : ∀ xs : List α, evCoM (fun a => .ret (some (g a))) xs = .ret (xs.map g)
  | [] => rfl
  | x :: xs => by simp only [evCoM, evCoM_some xs, tr_ret, List.map_cons, consO]
theorem evCoM_if {p : α → Prop} [DecidablePred p] {g : α → T} : ∀ xs : List α, evCoM (fun a => if p a then .ret (some (g a)) else .ret none) xs = .ret ((xs.filter fun a => decide (p a)).map g)
  | [] => rfl
  | x :: xs => by
    simp only [evCoM, evCoM_if xs, tr_ret]
    by_cases h : p x <;> simp [h, consO]
theorem evCoM_congr {f g : α → Tr (Option T)} {xs : List α} (h : ∀ a ∈ xs, f a = g a) : evCoM f xs = evCoM g xs := by
  induction xs with
  | nil => rfl
  | cons x xs ih => simp only [evCoM, h x (.head _), ih fun a ha => h a (.tail _ ha)]
def evForM (m : SE2) (f : α → SE2 → Tr Fl) : List α → SE2 → Tr Fl
  | [], de => .ret (.nx de)
  | x :: xs, de => (f x de).bind fun fl => fl.go fun e => evForM m f xs (mask m e)
theorem evFor_map {m : SE2} {f : T → SE2 → Tr Fl} {e : α → T} : ∀ (xs : List α) (de : SE2), evFor m f (xs.map e) de = evForM m (fun a => f (e a)) xs de
  | [], _ => rfl
  | x :: xs, de => by
    simp only [List.map_cons, evFor, evForM]
    congr 1
    funext fl
    cases fl with
    | nx d => exact evFor_map xs _
    | rt r => rfl
theorem evForM_fold {σ : Type} {m : SE2} {f : α → SE2 → Tr Fl} (E : σ → SE2) (step : σ → α → σ) : ∀ (xs : List α) (s : σ), (∀ a ∈ xs, ∀ s, ∃ d, f a (E s) = .ret (.nx d) ∧ mask m d = E (step s a)) → evForM m f xs (E s) = .ret (.nx (E (xs.foldl step s)))
  | [], s, _ => rfl
  | x :: xs, s, h => by
    obtain ⟨d, h1, h2⟩ := h x (.head _) s
    simp only [evForM, h1, tr_ret, Fl.go, h2, List.foldl_cons]
    exact evForM_fold E step xs _ fun a ha => h a (.tail _ ha)
theorem flat1 {g : α → β} : ∀ xs : List α, xs.flatMap (fun a => [g a]) = xs.map g
  | [] => rfl
  | x :: xs => by rw [List.flatMap_cons, flat1 xs]; rfl
/-- a loop that only adds to a list -/
theorem evForM_app {m : SE2} {f : α → SE2 → Tr Fl} (E : List T → SE2) (g : α → List T) (c : Nat) {xs : List α} (l0 : List T) (hz : l0.length + c * xs.length ≤ 16777216) (hc : ∀ a, (g a).length ≤ c)
    (h : ∀ i a l, xs[i]? = some a → i < xs.length → l.length + c ≤ 16777216 → ∃ d, f a (E l) = .ret (.nx d) ∧ mask m d = E (l ++ g a)) : evForM m f xs (E l0) = .ret (.nx (E (l0 ++ xs.flatMap g))) := by
  have key : ∀ (ys : List α) (j : Nat) (l : List T), (∀ i, ys[i]? = xs[j + i]?) → l.length ≤ l0.length + c * j → evForM m f ys (E l) = .ret (.nx (E (l ++ ys.flatMap g))) := by
    intro ys
    induction ys with
    | nil => intro j l _ _; simp [evForM]
    | cons y ys ih =>
      intro j l hy hl
      have hj : xs[j]? = some y := by rw [← Nat.add_zero j, ← hy 0]; rfl
      have hlt := (List.getElem?_eq_some_iff.mp hj).1
      have hm : c * (j + 1) ≤ c * xs.length := Nat.mul_le_mul_left c hlt
      rw [Nat.mul_add] at hm
      obtain ⟨d, h1, h2⟩ := h j y l hj hlt (by omega)
      simp only [evForM, h1, tr_ret, Fl.go, h2, List.flatMap_cons]
      rw [ih (j + 1) (l ++ g y) (fun i => by rw [Nat.add_assoc, Nat.add_comm 1 i, ← hy (i + 1)]; rfl) (by
        rw [List.length_append]
        have := hc y
        rw [Nat.mul_add]
        omega), List.append_assoc]
  exact key xs 0 l0 (fun i => by rw [Nat.zero_add]) (by omega)
theorem evForM_app1 {m : SE2} {f : α → SE2 → Tr Fl} (E : List T → SE2) (g : α → T) {xs : List α} (l0 : List T) (hz : l0.length + xs.length ≤ 16777216)
    (h : ∀ i a l, xs[i]? = some a → i < xs.length → l.length < 16777216 → ∃ d, f a (E l) = .ret (.nx d) ∧ mask m d = E (l ++ [g a])) : evForM m f xs (E l0) = .ret (.nx (E (l0 ++ xs.map g))) := by
  rw [evForM_app E (fun a => [g a]) 1 l0 (by omega) (fun _ => Nat.le_refl 1) (fun i a l h1 h2 h3 => h i a l h1 h2 (by omega))]
  congr 4
  exact flat1 xs
/-- with what holds so far -/
theorem evForM_inv {m : SE2} {f : α → SE2 → Tr Fl} {X : Ex → Prop} {P : Fl → Prop} (I : Nat → SE2 → Prop) {xs : List α} {de : SE2} (h0 : I 0 de)
    (h : ∀ i a d, xs[i]? = some a → I i d → (f a d).all X fun fl => match fl with | .nx d2 => I (i + 1) (mask m d2) | .rt r => P (.rt r)) (hn : ∀ d, I xs.length d → P (.nx d)) : (evForM m f xs de).all X P := by
  have key : ∀ (ys : List α) (j : Nat) (d : SE2), (∀ i, ys[i]? = xs[j + i]?) → j + ys.length = xs.length → I j d → (evForM m f ys d).all X P := by
    intro ys
    induction ys with
    | nil => intro j d _ hl hi; exact hn d (by rw [← hl]; exact hi)
    | cons y ys ih =>
      intro j d hy hl hi
      simp only [evForM, all_bind]
      refine all_mono (fun fl hf => ?_) _ (h j y d (by rw [← Nat.add_zero j, ← hy 0]; rfl) hi)
      cases fl with
      | rt r => exact hf
      | nx d2 => exact ih (j + 1) _ (fun i => by rw [Nat.add_assoc, Nat.add_comm 1 i, ← hy (i + 1)]; rfl) (by rw [← hl, List.length_cons]; omega) hf
  exact key xs 0 de (fun i => by rw [Nat.zero_add]) (by omega) h0
end
/-! what things tell, one by one -/
section
variable {i j : Int} {a b : List T} {x y : Sg} {p q : Bool} {t u : T}
theorem bn1 : binD .add (.int i) (.int j) = some (.int (i + j)) := rfl
theorem bn2 : binD .sub (.int i) (.int j) = some (.int (i - j)) := rfl
theorem bn3 : binD .mul (.int i) (.int j) = if mulOk i j then some (.int (i * j)) else none := rfl
theorem bn4 : binD .fdiv (.int i) (.int j) = if divOk j then some (.int (i / j)) else none := rfl
theorem bn5 : binD .mod (.int i) (.int j) = if 0 < j then some (.int (i % j)) else none := rfl
theorem bn6 : binD .pow (.int i) (.int j) = if 0 ≤ j ∧ j ≤ 1000 ∧ i.natAbs < 2 ^ 64 then some (.int (i ^ j.toNat)) else none := rfl
theorem bn7 : binD .add (.str x) (.str y) = if x.length + y.length ≤ SZ then some (.str (x ++ y)) else none := rfl
theorem bn8 : binD .add (.tup a) (.tup b) = if a.length + b.length ≤ SZ then some (.tup (a ++ b)) else none := rfl
theorem bn9 : binD .add (.lst a) (.lst b) = if a.length + b.length ≤ SZ then some (.lst (a ++ b)) else none := rfl
theorem bn10 : binD .mul (.tup a) (.int j) = if a.isEmpty = false ∧ 1 ≤ j ∧ j ≤ 1000 ∧ a.length ≤ 1000 then some (.tup (rep j.toNat a)) else none := rfl
theorem bn11 : binD .mul (.lst a) (.int j) = if 0 ≤ j ∧ j ≤ 1000 ∧ a.length ≤ 1000 then some (.lst (rep j.toNat a)) else none := rfl
theorem tu1 : truD .non = some false := rfl
theorem tu2 : truD (.bl p) = some p := rfl
theorem tu3 : truD (.int i) = some (i != 0) := rfl
theorem tu4 : truD (.str x) = some (!x.isEmpty) := rfl
theorem tu5 : truD (.tup a) = some (!a.isEmpty) := rfl
theorem tu6 : truD (.lst a) = some (!a.isEmpty) := rfl
theorem cm1 : cmpD .eq t u = eqD t u := rfl
theorem cm2 : cmpD .ne t u = (eqD t u).map (!·) := rfl
theorem cm3 : cmpD .lt t u = ltD t u := rfl
theorem cm4 : cmpD .le t u = leD t u := rfl
theorem cm5 : cmpD .gt t u = gtD t u := rfl
theorem cm6 : cmpD .ge t u = geD t u := rfl
theorem cm7 : cmpD .is t .non = some (isNon t) := rfl
theorem cm8 : cmpD .isnot t .non = some (!isNon t) := rfl
theorem cm9 : cmpD .isin t u = inD t u := rfl
theorem cm10 : cmpD .notin t u = (inD t u).map (!·) := rfl
theorem in1 : isNon .non = true := rfl
theorem in2 : isNon (.bl p) = false := rfl
theorem in3 : isNon (.int i) = false := rfl
theorem in4 : isNon (.str x) = false := rfl
theorem in5 : isNon (.tup a) = false := rfl
theorem in6 : isNon (.lst a) = false := rfl
theorem in7 {c : Bool} : isNon (.dct c a b) = false := rfl
theorem ind1 {c : Bool} : inD t (.dct c a b) = if keyOk c t = true then some (lookD t a b).isSome else none := rfl
theorem ko1 : keyOk true (.tup a) = a.all atomT := rfl
theorem ko2 : keyOk false (.int i) = true := rfl
theorem ko3 : keyOk false (.str x) = true := rfl
theorem at1 : atomT (.int i) = true := rfl
theorem at2 : atomT (.str x) = true := rfl
theorem dc1 {c : Bool} : isDct (.dct c a b) = true := rfl
theorem gd1 {c : Bool} : get2D (.dct c a b) [t, u] = if keyOk c t = true then some ((lookD t a b).getD u) else none := rfl
theorem eq1 : eqD (.int i) (.int j) = some (i == j) := rfl
theorem eq2 : eqD (.str x) (.str y) = some (x == y) := rfl
theorem eq3 : eqD (.bl p) (.bl q) = some (p == q) := rfl
theorem eq4 : eqD (.tup a) u = if okE (.tup a) = true ∧ okE u = true then some (eqT (.tup a) u) else none := rfl
theorem eq5 : eqD (.lst a) u = if okE (.lst a) = true ∧ okE u = true then some (eqT (.lst a) u) else none := rfl
theorem eq6 : eqD (.int i) (.tup a) = if okE (.int i) = true ∧ okE (.tup a) = true then some (eqT (.int i) (.tup a)) else none := rfl
theorem eq7 : eqD (.int i) .non = some false := rfl
theorem eq8 : eqD .non (.int i) = some false := rfl
theorem lt1 : ltD (.int i) (.int j) = some (decide (i < j)) := rfl
theorem lt2 : ltD (.str x) (.str y) = some (decide (x < y)) := rfl
theorem le1 : leD (.int i) (.int j) = some (decide (i ≤ j)) := rfl
theorem le2 : leD (.str x) (.str y) = some (!decide (y < x)) := rfl
theorem gt1 : gtD (.int i) (.int j) = some (decide (j < i)) := rfl
theorem ge1 : geD (.int i) (.int j) = some (decide (j ≤ i)) := rfl
theorem ix1 : idxD (.tup a) (.int i) = atT a i := rfl
theorem ix2 : idxD (.str x) (.int i) = (atT x i).map fun c => .str [c] := rfl
theorem ix4 {c : Bool} : idxD (.dct c a b) t = if keyOk c t = true then lookD t a b else none := rfl
theorem ix3 : idxD (.lst a) (.int i) = atT a i := rfl
theorem sl1 {lo hi : Option Int} : slcD (.tup a) lo hi = some (.tup (cutT a lo hi)) := rfl
theorem sl2 {lo hi : Option Int} : slcD (.str x) lo hi = some (.str (cutT x lo hi)) := rfl
theorem sl3 {lo hi : Option Int} : slcD (.lst a) lo hi = some (.lst (cutT a lo hi)) := rfl
theorem rv2 : revD (.tup a) = some (.tup a.reverse) := rfl
theorem rv1 : revD (.lst a) = some (.lst a.reverse) := rfl
theorem is1 {ty : Ty} : isiD .non ty = some false := rfl
theorem is2 : isiD (.bl p) .int = some true := rfl
theorem is3 : isiD (.bl p) .bool = some true := rfl
theorem is4 : isiD (.bl p) .str = some false := rfl
theorem is5 : isiD (.bl p) .tuple = some false := rfl
theorem is6 : isiD (.int i) .int = some true := rfl
theorem is7 : isiD (.int i) .bool = some false := rfl
theorem is8 : isiD (.int i) .str = some false := rfl
theorem is9 : isiD (.int i) .tuple = some false := rfl
theorem is10 : isiD (.str x) .int = some false := rfl
theorem is11 : isiD (.str x) .bool = some false := rfl
theorem is12 : isiD (.str x) .str = some true := rfl
theorem is13 : isiD (.str x) .tuple = some false := rfl
theorem is14 : isiD (.tup a) .int = some false := rfl
theorem is15 : isiD (.tup a) .bool = some false := rfl
theorem is16 : isiD (.tup a) .str = some false := rfl
theorem is17 : isiD (.tup a) .tuple = some true := rfl
theorem is18 {ty : Ty} : isiD (.lst a) ty = some false := rfl
theorem ln1 : lenD (.str x) = some x.length := rfl
theorem ln2 : lenD (.tup a) = some a.length := rfl
theorem ln3 : lenD (.lst a) = some a.length := rfl
theorem bi1 {rp : T → Sg} : biD rp .len [t] = (lenD t).map fun n : Nat => .int (n : Int) := rfl
theorem bi2 {rp : T → Sg} : biD rp .abs [.int i] = some (.int (if i < 0 then -i else i)) := rfl
theorem bi3 {rp : T → Sg} : biD rp .int [.int i] = some (.int i) := rfl
theorem bi4 {rp : T → Sg} : biD rp .int [.bl p] = some (.int (if p then 1 else 0)) := rfl
theorem bi5 {rp : T → Sg} : biD rp .repr [t] = if okE t = true ∧ smlT t = true ∧ szT t ≤ SZ then some (.str (rp t)) else none := rfl
theorem bi6 {rp : T → Sg} : biD rp .max2 [.int i, .int j] = some (.int (max i j)) := by
  show some (T.int (if j > i then j else i)) = _
  congr 2; omega
theorem bi7 {rp : T → Sg} : biD rp .min2 [.int i, .int j] = some (.int (min i j)) := by
  show some (T.int (if j < i then j else i)) = _
  congr 2; omega
theorem bi8 {rp : T → Sg} : biD rp .divmod [.int i, .int j] = if 0 < j ∧ j < 1073741824 then some (.tup [.int (i / j), .int (i % j)]) else none := rfl
theorem sq1 : seqD (.tup a) = some a := rfl
theorem sq2 : seqD (.lst a) = some a := rfl
theorem id1 : intD (.int i) = some i := rfl
theorem sd1 : strD (.str x) = some x := rfl
theorem ld1 : lstD (.lst a) = some a := rfl
theorem ld2 : lstD (.dct true a b) = some a := rfl
theorem im1 : itmD (.dct true a b) = some (List.zipWith pairT a b) := rfl
theorem ad1 {n : Nat} {e : DE} : asgD (.name n) t e = some (e.set n (some t)) := by simp only [asgD]
theorem ad2 {gs : List Tg} {e : DE} : asgD (.tup gs) (.tup a) e = asgDs gs a e := by simp only [asgD]
theorem ad3 {gs : List Tg} {e : DE} : asgD (.tup gs) (.lst a) e = asgDs gs a e := by simp only [asgD]
theorem ad4 {e : DE} : asgDs [] [] e = some e := by simp only [asgDs]
theorem ad5 {g : Tg} {gs : List Tg} {e : DE} : asgDs (g :: gs) (t :: a) e = (asgD g t e).bind fun e => asgDs gs a e := by
  simp only [asgDs]; cases asgD g t e <;> rfl
theorem as1 {n : Nat} {e : SE2} : asgS (.name n) t e = some (e.set n (some (.val t))) := by simp only [asgS]
theorem as2 {gs : List Tg} {e : SE2} : asgS (.tup gs) (.tup a) e = asgSs gs a e := by simp only [asgS]
theorem as3 {gs : List Tg} {e : SE2} : asgS (.tup gs) (.lst a) e = asgSs gs a e := by simp only [asgS]
theorem as4 {e : SE2} : asgSs [] [] e = some e := by simp only [asgSs]
theorem as5 {g : Tg} {gs : List Tg} {e : SE2} : asgSs (g :: gs) (t :: a) e = (asgS g t e).bind fun e => asgSs gs a e := by
  simp only [asgSs]; cases asgS g t e <;> rfl
theorem li1 : liD .tuple a = some (.tup a) := rfl
theorem li2 : liD .list a = some (.lst a) := rfl
theorem li3 : liD .sum a = (intsOf a).map fun ns => .int ns.sum := rfl
theorem li4 : liD .all a = (blsOf a).map fun bs => .bl (bs.all id) := rfl
theorem li5 : liD .any a = (blsOf a).map fun bs => .bl (bs.any id) := rfl
theorem li6 : liD .len a = some (.int a.length) := rfl
theorem li7 : liD .max a = (intsOf a).bind fun ns => (maxI ns).map .int := rfl
theorem li8 : liD .min a = (intsOf a).bind fun ns => (minI ns).map .int := rfl
theorem jo1 : joinD (.str x) a = (strsOf a).bind fun ss => if (ss.map (·.length)).sum + ss.length * x.length ≤ SZ then some (.str (List.intercalate x ss)) else none := rfl
theorem ra1 : rangeD [.int i] = if -1000000 ≤ i ∧ i ≤ 16777216 then some (rangeT 0 i) else none := rfl
theorem ra2 : rangeD [.int i, .int j] = if -1000000 ≤ i ∧ i ≤ 16777216 ∧ -1000000 ≤ j ∧ j ≤ 16777216 ∧ j - i ≤ 16777216 then some (rangeT i j) else none := rfl
theorem zi1 : zipD [a, b] = some (zipT [a, b]) := rfl
theorem zi2 {c : List T} : zipD [a, b, c] = some (zipT [a, b, c]) := rfl
theorem cl1 : clean (false, t) = pureT t := rfl
theorem cl2 : clean (true, .lst a) = pureTs a := rfl
theorem cl3 {c : Bool} : clean (true, .dct c a b) = pureTs b := rfl
theorem sf1 : slF (false, t) = .val t := rfl
theorem sf2 : slF (true, .lst a) = .own a := rfl
theorem sf3 {c : Bool} : slF (true, .dct c a b) = .ownD c a b := rfl
theorem ke1 {c : Bool} {d : SE2} : keepIf c d d = d := by unfold keepIf; split <;> rfl
theorem ke2 {c d : SE2} : keepIf true c d = c := rfl
theorem ke3 {c d : SE2} : keepIf false c d = d := rfl
theorem pb1 : pubO none = none := rfl
theorem pb2 : pubO (some (.val t)) = some (.val t) := rfl
theorem pb3 : pubO (some (.own a)) = some (.val (.lst a)) := rfl
theorem pb4 {c : Bool} : pubO (some (.ownD c a b)) = some (.val (.dct c a b)) := rfl
theorem vi1 : vis [] = [] := rfl
theorem vi2 {d : SE2} : vis (none :: d) = none :: vis d := rfl
theorem vi3 {d : SE2} : vis (some (.val t) :: d) = some t :: vis d := rfl
theorem vi4 {d : SE2} : vis (some (.own a) :: d) = none :: vis d := rfl
theorem vi5 {c : Bool} {d : SE2} : vis (some (.ownD c a b) :: d) = none :: vis d := rfl
theorem pu1 {d : SE2} : pub [] d = d := rfl
theorem pu2 {d : SE2} {n : Nat} {os : List Nat} : pub (n :: os) d = pub os (pub1 d n) := rfl
theorem wi1 {e : DE} : wipe e [] = e := rfl
theorem wi2 {e : DE} {n : Nat} {os : List Nat} : wipe e (n :: os) = wipe (e.set n none) os := rfl
theorem ss1 {C : Ec} {d : SE2} : evSs C [] d = .ret (.nx d) := by simp only [evSs]
theorem ss2 {C : Ec} {s : Sm} {ss : List Sm} {o : Option Sl} {d : SE2} : evSs C (s :: ss) (o :: d) = (evS C s (o :: d)).bind fun fl => fl.go fun e => evSs C ss e := by simp only [evSs]
theorem il1 : isLst (.lst a) = true := rfl
theorem il2 : isLst (.tup a) = false := rfl
theorem il3 : isLst (.int i) = false := rfl
theorem il4 : isLst (.str x) = false := rfl
theorem pt1 : pureT .non = true := rfl
theorem pt2 : pureT (.bl p) = true := rfl
theorem pt3 : pureT (.int i) = true := rfl
theorem pt4 : pureT (.str x) = true := rfl
theorem pt5 : pureT (.tup a) = pureTs a := by simp only [pureT]
theorem pt6 : pureT (.lst a) = false := by simp only [pureT]
theorem pt9 {c : Bool} : pureT (.dct c a b) = false := by simp only [pureT]
theorem pt7 : pureTs [] = true := by simp only [pureTs]
theorem pt8 : pureTs (t :: a) = (pureT t && pureTs a) := by simp only [pureTs]
theorem pureTs_map {α : Type} {e : α → T} : ∀ xs : List α, pureTs (xs.map e) = xs.all fun a => pureT (e a)
  | [] => by simp [pureTs]
  | x :: xs => by simp only [List.map_cons, pureTs, pureTs_map xs, List.all_cons]
theorem all_true {α : Type} (xs : List α) : (xs.all fun _ => true) = true := by simp
end
/-! tests and what is made, by each construct -/
section
variable {C : Ec} {env : DE}
theorem et_var {i : Nat} : evT C (.var i) env = (evE C (.var i) env).bind fun x => Tr.ofO (truD x) := by simp only [evT]
theorem et_int {i : Int} : evT C (.int i) env = (evE C (.int i) env).bind fun x => Tr.ofO (truD x) := by simp only [evT]
theorem et_str {i : Sg} : evT C (.str i) env = (evE C (.str i) env).bind fun x => Tr.ofO (truD x) := by simp only [evT]
theorem et_bl {i : Bool} : evT C (.bl i) env = (evE C (.bl i) env).bind fun x => Tr.ofO (truD x) := by simp only [evT]
theorem et_non  : evT C .non env = (evE C .non env).bind fun x => Tr.ofO (truD x) := by simp only [evT]
theorem et_glob {i : Nat} : evT C (.glob i) env = (evE C (.glob i) env).bind fun x => Tr.ofO (truD x) := by simp only [evT]
theorem et_fnv {i : Nat} : evT C (.fnv i) env = (evE C (.fnv i) env).bind fun x => Tr.ofO (truD x) := by simp only [evT]
theorem et_bin {o : Op} {a b : X} : evT C (.bin o a b) env = (evE C (.bin o a b) env).bind fun x => Tr.ofO (truD x) := by simp only [evT]
theorem et_neg {a : X} : evT C (.neg a) env = (evE C (.neg a) env).bind fun x => Tr.ofO (truD x) := by simp only [evT]
theorem et_cmp {o : Co} {a b : X} : evT C (.cmp o a b) env = (evE C (.cmp o a b) env).bind fun x => Tr.ofO (truD x) := by simp only [evT]
theorem et_chain {o p : Co} {a b d : X} : evT C (.chain o p a b d) env = (evE C (.chain o p a b d) env).bind fun x => Tr.ofO (truD x) := by simp only [evT]
theorem et_tup {es : List X} : evT C (.tup es) env = (evE C (.tup es) env).bind fun x => Tr.ofO (truD x) := by simp only [evT]
theorem et_new {l : L} : evT C (.new l) env = (evE C (.new l) env).bind fun x => Tr.ofO (truD x) := by simp only [evT]
theorem et_idx {a b : X} : evT C (.idx a b) env = (evE C (.idx a b) env).bind fun x => Tr.ofO (truD x) := by simp only [evT]
theorem et_slc {a : X} {u v : Option X} : evT C (.slc a u v) env = (evE C (.slc a u v) env).bind fun x => Tr.ofO (truD x) := by simp only [evT]
theorem et_rev {a : X} : evT C (.rev a) env = (evE C (.rev a) env).bind fun x => Tr.ofO (truD x) := by simp only [evT]
theorem et_call {f : Nat} {es : List X} : evT C (.call f es) env = (evE C (.call f es) env).bind fun x => Tr.ofO (truD x) := by simp only [evT]
theorem et_callv {f : Nat} {es : List X} : evT C (.callv f es) env = (evE C (.callv f es) env).bind fun x => Tr.ofO (truD x) := by simp only [evT]
theorem et_bi {f : Bi} {es : List X} : evT C (.bi f es) env = (evE C (.bi f es) env).bind fun x => Tr.ofO (truD x) := by simp only [evT]
theorem et_isi {a : X} {ty : Ty} : evT C (.isi a ty) env = (evE C (.isi a ty) env).bind fun x => Tr.ofO (truD x) := by simp only [evT]
theorem et_li {f : Li} {l : L} : evT C (.li f l) env = (evE C (.li f l) env).bind fun x => Tr.ofO (truD x) := by simp only [evT]
theorem et_join {a : X} {l : L} : evT C (.join a l) env = (evE C (.join a l) env).bind fun x => Tr.ofO (truD x) := by simp only [evT]
theorem et_not {a : X} : evT C (.not a) env = (evT C a env).bind fun t => .ret (!t) := by simp only [evT]
theorem et_and {a b : X} : evT C (.and a b) env = (evT C a env).bind fun t => if t = true then evT C b env else .ret false := by simp only [evT]
theorem et_or {a b : X} : evT C (.or a b) env = (evT C a env).bind fun t => if t = true then .ret true else evT C b env := by simp only [evT]
theorem et_ite {c a b : X} : evT C (.ite c a b) env = (evT C c env).bind fun t => if t = true then evT C a env else evT C b env := by simp only [evT]
theorem ef_var {i : Nat} : evF C (.var i) env = (evE C (.var i) env).bind fun v => .ret (false, v) := rfl
theorem ef_int {i : Int} : evF C (.int i) env = (evE C (.int i) env).bind fun v => .ret (false, v) := rfl
theorem ef_str {i : Sg} : evF C (.str i) env = (evE C (.str i) env).bind fun v => .ret (false, v) := rfl
theorem ef_bl {i : Bool} : evF C (.bl i) env = (evE C (.bl i) env).bind fun v => .ret (false, v) := rfl
theorem ef_non  : evF C .non env = (evE C .non env).bind fun v => .ret (false, v) := rfl
theorem ef_glob {i : Nat} : evF C (.glob i) env = (evE C (.glob i) env).bind fun v => .ret (false, v) := rfl
theorem ef_fnv {i : Nat} : evF C (.fnv i) env = (evE C (.fnv i) env).bind fun v => .ret (false, v) := rfl
theorem ef_neg {a : X} : evF C (.neg a) env = (evE C (.neg a) env).bind fun v => .ret (false, v) := rfl
theorem ef_cmp {o : Co} {a b : X} : evF C (.cmp o a b) env = (evE C (.cmp o a b) env).bind fun v => .ret (false, v) := rfl
theorem ef_chain {o p : Co} {a b d : X} : evF C (.chain o p a b d) env = (evE C (.chain o p a b d) env).bind fun v => .ret (false, v) := rfl
theorem ef_tup {es : List X} : evF C (.tup es) env = (evE C (.tup es) env).bind fun v => .ret (false, v) := rfl
theorem ef_idx {a b : X} : evF C (.idx a b) env = (evE C (.idx a b) env).bind fun v => .ret (false, v) := rfl
theorem ef_callv {f : Nat} {es : List X} : evF C (.callv f es) env = (evE C (.callv f es) env).bind fun v => .ret (false, v) := rfl
theorem ef_bi {f : Bi} {es : List X} : evF C (.bi f es) env = (evE C (.bi f es) env).bind fun v => .ret (false, v) := rfl
theorem ef_isi {a : X} {ty : Ty} : evF C (.isi a ty) env = (evE C (.isi a ty) env).bind fun v => .ret (false, v) := rfl
theorem ef_join {a : X} {l : L} : evF C (.join a l) env = (evE C (.join a l) env).bind fun v => .ret (false, v) := rfl
theorem ef_not {a : X} : evF C (.not a) env = (evE C (.not a) env).bind fun v => .ret (false, v) := rfl
theorem ef_and {a b : X} : evF C (.and a b) env = (evE C (.and a b) env).bind fun v => .ret (false, v) := rfl
theorem ef_or {a b : X} : evF C (.or a b) env = (evE C (.or a b) env).bind fun v => .ret (false, v) := rfl
theorem ef_ite {c a b : X} : evF C (.ite c a b) env = (evE C (.ite c a b) env).bind fun v => .ret (false, v) := rfl
theorem ef_sub {a b : X} : evF C (.bin .sub a b) env = (evE C (.bin .sub a b) env).bind fun v => .ret (false, v) := rfl
theorem ef_fdiv {a b : X} : evF C (.bin .fdiv a b) env = (evE C (.bin .fdiv a b) env).bind fun v => .ret (false, v) := rfl
theorem ef_mod {a b : X} : evF C (.bin .mod a b) env = (evE C (.bin .mod a b) env).bind fun v => .ret (false, v) := rfl
theorem ef_pow {a b : X} : evF C (.bin .pow a b) env = (evE C (.bin .pow a b) env).bind fun v => .ret (false, v) := rfl
theorem ef_tuple {l : L} : evF C (.li .tuple l) env = (evE C (.li .tuple l) env).bind fun v => .ret (false, v) := rfl
theorem ef_sum {l : L} : evF C (.li .sum l) env = (evE C (.li .sum l) env).bind fun v => .ret (false, v) := rfl
theorem ef_all {l : L} : evF C (.li .all l) env = (evE C (.li .all l) env).bind fun v => .ret (false, v) := rfl
theorem ef_any {l : L} : evF C (.li .any l) env = (evE C (.li .any l) env).bind fun v => .ret (false, v) := rfl
theorem ef_max {l : L} : evF C (.li .max l) env = (evE C (.li .max l) env).bind fun v => .ret (false, v) := rfl
theorem ef_min {l : L} : evF C (.li .min l) env = (evE C (.li .min l) env).bind fun v => .ret (false, v) := rfl
theorem ef_len {l : L} : evF C (.li .len l) env = (evE C (.li .len l) env).bind fun v => .ret (false, v) := rfl
theorem ef_dict {l : L} : evF C (.li .dict l) env = (evE C (.li .dict l) env).bind fun v => .ret (false, v) := rfl
theorem ef_dnew {b : Bool} : evF C (.dnew b) env = .ret (true, .dct b [] []) := rfl
theorem ef_me {m : Me} {o : X} {es : List X} : evF C (.me m o es) env = (evE C (.me m o es) env).bind fun v => .ret (false, v) := rfl
theorem et_me {m : Me} {o : X} {es : List X} : evT C (.me m o es) env = (evE C (.me m o es) env).bind fun x => Tr.ofO (truD x) := by simp only [evT]
theorem ef_new {l : L} : evF C (.new l) env = (evL C l env).bind fun ts => .ret (true, .lst ts) := rfl
theorem ef_call {f : Nat} {es : List X} : evF C (.call f es) env = (evEs C es env).bind fun vs => C.call f vs := rfl
theorem ef_list {l : L} : evF C (.li .list l) env = (evL C l env).bind fun ts => .ret (true, .lst ts) := rfl
theorem ef_add {a b : X} : evF C (.bin .add a b) env = (evE C a env).bind fun x => (evE C b env).bind fun y => (Tr.ofO (binD .add x y)).bind fun r => .ret (isLst r, r) := rfl
theorem ef_mul {a b : X} : evF C (.bin .mul a b) env = (evE C a env).bind fun x => (evE C b env).bind fun y => (Tr.ofO (binD .mul x y)).bind fun r => .ret (isLst r, r) := rfl
theorem ef_slc {a : X} {lo hi : Option X} : evF C (.slc a lo hi) env = (evE C a env).bind fun x => (evO C lo env).bind fun l => (evO C hi env).bind fun h => (Tr.ofO (slcD x l h)).bind fun r => .ret (isLst r, r) := rfl
theorem ef_rev {a : X} : evF C (.rev a) env = (evE C a env).bind fun x => (Tr.ofO (revD x)).bind fun r => .ret (isLst r, r) := rfl
end
/-! sums and their like -/
theorem intsOf_map {α : Type} {g : α → Int} : ∀ xs : List α, intsOf (xs.map fun a => .int (g a)) = some (xs.map g)
  | [] => rfl
  | x :: xs => by simp only [List.map_cons, intsOf, intsOf_map xs, Option.map_some]
theorem blsOf_map {α : Type} {g : α → Bool} : ∀ xs : List α, blsOf (xs.map fun a => .bl (g a)) = some (xs.map g)
  | [] => rfl
  | x :: xs => by simp only [List.map_cons, blsOf, blsOf_map xs, Option.map_some]
theorem strsOf_map {α : Type} {g : α → Sg} : ∀ xs : List α, strsOf (xs.map fun a => .str (g a)) = some (xs.map g)
  | [] => rfl
  | x :: xs => by simp only [List.map_cons, strsOf, strsOf_map xs, Option.map_some]
theorem enumT_map {α : Type} {e : α → T} (xs : List α) : enumT (xs.map e) = xs.zipIdx.map fun q => .tup [.int q.2, e q.1] := by
  apply List.ext_getElem?
  intro i
  unfold enumT
  rw [List.getElem?_zipWith, List.getElem?_map, List.getElem?_map, List.getElem?_zipIdx]
  by_cases h : i < xs.length
  · rw [List.getElem?_range (by simpa using h)]
    simp [List.getElem?_eq_getElem h]
  · simp [List.getElem?_eq_none (Nat.le_of_not_lt h)]
theorem rangeT_map (lo hi : Int) : rangeT lo hi = (List.range (hi - lo).toNat).map fun i : Nat => .int (lo + i) := rfl
theorem zip2_map {α β : Type} {e : α → T} {f : β → T} (xs : List α) (ys : List β) : zipT [xs.map e, ys.map f] = (xs.zip ys).map fun q => .tup [e q.1, f q.2] := by
  simp [zipT, List.zip, List.map_zipWith, List.zipWith_map]
theorem zip3_map {α β γ : Type} {e : α → T} {f : β → T} {g : γ → T} (xs : List α) (ys : List β) (zs : List γ) : zipT [xs.map e, ys.map f, zs.map g] = (xs.zip (ys.zip zs)).map fun q => .tup [e q.1, f q.2.1, g q.2.2] := by
  simp only [zipT, List.zip, List.map_zipWith, List.zipWith_map]
  induction xs generalizing ys zs with
  | nil => simp
  | cons x xs ih => cases ys with
    | nil => simp
    | cons y ys => cases zs with
      | nil => simp
      | cons z zs => simp [ih]
theorem atT_0 {α : Type} {a : α} {l : List α} : atT (a :: l) 0 = some a := rfl
theorem atT_1 {α : Type} {a b : α} {l : List α} : atT (a :: b :: l) 1 = some b := rfl
theorem atT_2 {α : Type} {a b c : α} {l : List α} : atT (a :: b :: c :: l) 2 = some c := rfl
theorem atT_3 {α : Type} {a b c d : α} {l : List α} : atT (a :: b :: c :: d :: l) 3 = some d := rfl
theorem strOk_nil : strOk [] ↔ True := by decide
theorem foldl_app {α β : Type} {g : α → β} : ∀ (xs : List α) (l : List β), xs.foldl (fun l a => l ++ [g a]) l = l ++ xs.map g
  | [], l => by simp
  | x :: xs, l => by rw [List.foldl_cons, foldl_app xs, List.map_cons, List.append_assoc]; rfl
end Mo

set_option Elab.async false
set_option linter.all false
set_option maxRecDepth 100000
set_option autoImplicit false
/-! MoSh: typed words for what a run comes to. -/
namespace Mo
open PySem PyProof.Rows
section
variable {α β γ σ ρ : Type}
def chk (c : Prop) [Decidable c] : Tr Unit := if c then .ret () else .fail
def drw (m : Int) : Tr Int := .draw m .ret
def mulI (i j : Int) : Tr Int := (chk (mulOk i j)).bind fun _ => .ret (i * j)
def divI (i j : Int) : Tr Int := (chk (divOk j)).bind fun _ => .ret (i / j)
def modI (i j : Int) : Tr Int := (chk (0 < j)).bind fun _ => .ret (i % j)
def powI (i j : Int) : Tr Int := (chk (0 ≤ j ∧ j ≤ 1000 ∧ i.natAbs < 2 ^ 64)).bind fun _ => .ret (i ^ j.toNat)
def rngI (lo hi : Int) : List Int := (List.range (hi - lo).toNat).map fun i => lo + Int.ofNat i
def rng1 (n : Int) : Tr (List Int) := (chk (-1000000 ≤ n ∧ n ≤ 16777216)).bind fun _ => .ret (rngI 0 n)
def rng2 (m n : Int) : Tr (List Int) := (chk (-1000000 ≤ m ∧ m ≤ 16777216 ∧ -1000000 ≤ n ∧ n ≤ 16777216 ∧ n - m ≤ 16777216)).bind fun _ => .ret (rngI m n)
def enumI (xs : List α) : List (Int × α) := xs.zipIdx.map fun q => ((q.2 : Int), q.1)
def repL (k : Nat) (ts : List α) : List α := (List.replicate k ts).flatten
def reprO (t : T) : Tr Sg := (chk (okE t = true ∧ smlT t = true ∧ szT t ≤ SZ)).bind fun _ => .ret (rpT t)
def mapO' (f : α → T) : Option α → T
  | none => .non
  | some a => f a
def eqL (p : α → β → Bool) : List α → List β → Bool
  | [], [] => true
  | x :: xs, y :: ys => p x y && eqL p xs ys
  | _, _ => false
def forM : List α → σ → (α → σ → Tr σ) → Tr σ
  | [], s, _ => .ret s
  | x :: xs, s, f => (f x s).bind fun s' => forM xs s' f
inductive Fr (ρ σ : Type) where
  | nx (s : σ)
  | rt (r : ρ)
def Fr.elim (f : ρ → α) (g : σ → α) : Fr ρ σ → α
  | .nx s => g s
  | .rt r => f r
theorem fr_nx (f : ρ → α) (g : σ → α) (s : σ) : (Fr.nx s).elim f g = g s := rfl
theorem fr_rt (f : ρ → α) (g : σ → α) (r : ρ) : (Fr.rt r : Fr ρ σ).elim f g = f r := rfl
def forR : List α → σ → (α → σ → Tr (Fr ρ σ)) → Tr (Fr ρ σ)
  | [], s, _ => .ret (.nx s)
  | x :: xs, s, f => (f x s).bind fun r => r.elim (fun r => .ret (.rt r)) fun s' => forR xs s' f
def whM (c : σ → Tr Bool) (f : σ → Tr σ) : Nat → σ → Tr σ
  | 0, _ => .fail
  | n + 1, s => (c s).bind fun b => if b = true then (f s).bind fun s' => whM c f n s' else .ret s
def whR (c : σ → Tr Bool) (f : σ → Tr (Fr ρ σ)) : Nat → σ → Tr (Fr ρ σ)
  | 0, _ => .fail
  | n + 1, s => (c s).bind fun b => if b = true then (f s).bind fun r => r.elim (fun r => .ret (.rt r)) fun s' => whR c f n s' else .ret (.nx s)
/-- a list made thing by thing -/
def coA (f : α → Tr β) : List α → Tr (List β)
  | [] => .ret []
  | x :: xs => (f x).noexc.bind fun y => (coA f xs).bind fun ys => .ret (y :: ys)
def coC (c : α → Tr Bool) (f : α → Tr β) : List α → Tr (List β)
  | [] => .ret []
  | x :: xs => (c x).noexc.bind fun b => if b = true then (f x).noexc.bind fun y => (coC c f xs).bind fun ys => .ret (y :: ys) else coC c f xs
/-! binds -/
theorem bind_ret : ∀ t : Tr α, t.bind .ret = t
  | .ret _ => rfl
  | .draw m k => by simp only [Tr.bind, bind_ret]
  | .exc _ => rfl
  | .fail => rfl
theorem sv_assoc (t : Tr α) {f : α → Tr β} {g : β → Tr γ} : (t.bind f).bind g = t.bind fun a => (f a).bind g := bind_assoc t
theorem sv_ret (a : α) (f : α → Tr β) : (Tr.ret a).bind f = f a := rfl
theorem sv_fail (f : α → Tr β) : (Tr.fail : Tr α).bind f = .fail := rfl
theorem sv_exc (x : Ex) (f : α → Tr β) : (Tr.exc x : Tr α).bind f = .exc x := rfl
theorem sv_some (a : α) : Tr.ofO (some a) = .ret a := rfl
theorem sv_none : Tr.ofO (none : Option α) = .fail := rfl
theorem sv_omap (o : Option α) (f : α → β) : Tr.ofO (o.map f) = (Tr.ofO o).bind fun a => .ret (f a) := by cases o <;> rfl
theorem sv_obind (o : Option α) (f : α → Option β) : Tr.ofO (o.bind f) = (Tr.ofO o).bind fun a => Tr.ofO (f a) := by cases o <;> rfl
theorem sv_chkT : chk True = .ret () := rfl
theorem sv_chkTT {c : Prop} [Decidable c] : chk (True ∧ c) = chk c := by unfold chk; simp
theorem sv_itf {c : Prop} [Decidable c] (t : Tr α) : (if c then t else .fail) = (chk c).bind fun _ => t := by unfold chk; split <;> rfl
theorem sv_fit {c : Prop} [Decidable c] (t : Tr α) : (if c then .fail else t) = (chk (¬ c)).bind fun _ => t := by unfold chk; split <;> simp_all
theorem sv_oif {c : Prop} [Decidable c] (v : α) : Tr.ofO (if c then some v else none) = (chk c).bind fun _ => .ret v := by unfold chk; split <;> rfl
theorem sv_ne_bind (t : Tr α) (f : α → Tr β) : (t.bind f).noexc = t.noexc.bind fun a => (f a).noexc := by
  induction t with
  | ret a => rfl
  | draw m k ih => simp only [Tr.bind, Tr.noexc, ih]
  | exc x => rfl
  | fail => rfl
theorem sv_ne_ret (a : α) : (Tr.ret a).noexc = .ret a := rfl
theorem sv_ne_fail : (Tr.fail : Tr α).noexc = .fail := rfl
theorem sv_ne_ofO (o : Option α) : (Tr.ofO o).noexc = Tr.ofO o := by cases o <;> rfl
theorem sv_ne_chk {c : Prop} [Decidable c] : (chk c).noexc = chk c := by unfold chk; split <;> rfl
theorem sv_ne_drw (m : Int) : (drw m).noexc = drw m := rfl
theorem sv_ne_mul (i j : Int) : (mulI i j).noexc = mulI i j := by unfold mulI; rw [sv_ne_bind, sv_ne_chk]; rfl
theorem sv_ne_div (i j : Int) : (divI i j).noexc = divI i j := by unfold divI; rw [sv_ne_bind, sv_ne_chk]; rfl
theorem sv_ne_mod (i j : Int) : (modI i j).noexc = modI i j := by unfold modI; rw [sv_ne_bind, sv_ne_chk]; rfl
theorem sv_ne_pow (i j : Int) : (powI i j).noexc = powI i j := by unfold powI; rw [sv_ne_bind, sv_ne_chk]; rfl
theorem sv_ne_rng1 (i : Int) : (rng1 i).noexc = rng1 i := by unfold rng1; rw [sv_ne_bind, sv_ne_chk]; rfl
theorem sv_ne_rng2 (i j : Int) : (rng2 i j).noexc = rng2 i j := by unfold rng2; rw [sv_ne_bind, sv_ne_chk]; rfl
theorem sv_ne_repr (t : T) : (reprO t).noexc = reprO t := by unfold reprO; rw [sv_ne_bind, sv_ne_chk]; rfl
theorem sv_ne2 (t : Tr α) : t.noexc.noexc = t.noexc := by
  induction t with
  | ret a => rfl
  | draw m k ih => simp only [Tr.noexc, ih]
  | exc x => rfl
  | fail => rfl
theorem co_n {f : T → Tr (Option T)} : evCo f [] = .ret [] := rfl
theorem co_c {f : T → Tr (Option T)} {x : T} {xs : List T} : evCo f (x :: xs) = (f x).bind fun o => (evCo f xs).bind fun ys => .ret (consO o ys) := rfl
theorem coM_n {f : α → Tr (Option T)} : evCoM f [] = .ret [] := rfl
theorem coM_c {f : α → Tr (Option T)} {x : α} {xs : List α} : evCoM f (x :: xs) = (f x).bind fun o => (evCoM f xs).bind fun ys => .ret (consO o ys) := rfl
theorem coA_n {f : α → Tr β} : coA f [] = .ret [] := rfl
theorem coA_c {f : α → Tr β} {x : α} {xs : List α} : coA f (x :: xs) = (f x).noexc.bind fun y => (coA f xs).bind fun ys => .ret (y :: ys) := rfl
theorem coC_n {c : α → Tr Bool} {f : α → Tr β} : coC c f [] = .ret [] := rfl
theorem coC_c {c : α → Tr Bool} {f : α → Tr β} {x : α} {xs : List α} : coC c f (x :: xs) = (c x).noexc.bind fun b => if b = true then (f x).noexc.bind fun y => (coC c f xs).bind fun ys => .ret (y :: ys) else coC c f xs := rfl
theorem co_s {x : T} {xs : List T} : consO (some x) xs = x :: xs := rfl
theorem co_0 {xs : List T} : consO none xs = xs := rfl
theorem ne_coA {f : α → Tr β} : ∀ xs, (coA f xs).noexc = coA f xs
  | [] => rfl
  | x :: xs => by
    have idem : ∀ {δ : Type} (t : Tr δ), t.noexc.noexc = t.noexc := by
      intro δ t
      induction t with
      | ret a => rfl
      | draw m k ih => simp only [Tr.noexc, ih]
      | exc x => rfl
      | fail => rfl
    simp only [coA, sv_ne_bind, idem, ne_coA xs, sv_ne_ret]
theorem sv_ne_coA {f : α → Tr β} (xs : List α) : (coA f xs).noexc = coA f xs := ne_coA xs
theorem sv_ne_if {c : Prop} [Decidable c] {a b : Tr α} : (if c then a else b).noexc = if c then a.noexc else b.noexc := by split <;> rfl
/-! truths -/
theorem sv_andT {p q : Bool} : (if p = true then Tr.ret q else Tr.ret false) = .ret (p && q) := by cases p <;> rfl
theorem sv_orT {p q : Bool} : (if p = true then Tr.ret true else Tr.ret q) = .ret (p || q) := by cases p <;> rfl
theorem sv_andE {p q : Bool} : (if p = true then Tr.ret (T.bl q) else Tr.ret (T.bl p)) = .ret (.bl (p && q)) := by cases p <;> rfl
theorem sv_andF {p q : Bool} : (if p = true then Tr.ret (T.bl q) else Tr.ret (T.bl false)) = .ret (.bl (p && q)) := by cases p <;> rfl
theorem sv_orE {p q : Bool} : (if p = true then Tr.ret (T.bl p) else Tr.ret (T.bl q)) = .ret (.bl (p || q)) := by cases p <;> rfl
/-! sequences -/
theorem atT_map {e : α → β} (xs : List α) (i : Int) : atT (xs.map e) i = (atT xs i).map e := by
  unfold atT
  simp only [List.length_map, List.getElem?_map]
  split
  · rfl
  · split <;> rfl
theorem cutT_map {e : α → β} (xs : List α) (lo hi : Option Int) : cutT (xs.map e) lo hi = (cutT xs lo hi).map e := by
  unfold cutT
  simp only [List.length_map, List.map_take, List.map_drop]
theorem sv_at (xs : List α) (i : Int) {e : α → β} : atT (xs.map e) i = (atT xs i).map e := atT_map xs i
theorem sv_cut (xs : List α) (lo hi : Option Int) {e : α → β} : (cutT xs lo hi).map e = cutT (xs.map e) lo hi := (cutT_map xs lo hi).symm
theorem rep_map (k : Nat) (xs : List α) {e : α → T} : (repL k xs).map e = rep k (xs.map e) := by
  unfold repL rep
  rw [List.map_flatten, List.map_replicate]
theorem sv_rep (k : Nat) (xs : List α) {e : α → T} : (repL k xs).map e = rep k (xs.map e) := rep_map k xs
theorem sv_len (xs : List α) {e : α → β} : (xs.map e).length = xs.length := List.length_map ..
theorem sv_mapmap (xs : List α) {e : α → β} {g : β → γ} : (xs.map e).map g = xs.map fun a => g (e a) := List.map_map ..
theorem sv_mapapp (xs ys : List α) {e : α → β} : (xs ++ ys).map e = xs.map e ++ ys.map e := List.map_append ..
theorem sv_mapset (xs : List α) (n : Nat) (a : α) {e : α → β} : (xs.set n a).map e = (xs.map e).set n (e a) := List.map_set ..
theorem sv_maprev (xs : List α) {e : α → β} : (xs.reverse).map e = (xs.map e).reverse := List.map_reverse ..
theorem sv_mapdl (xs : List α) {e : α → β} : (xs.dropLast).map e = (xs.map e).dropLast := by simp [List.dropLast_eq_take, List.map_take]
theorem sv_mapcons (x : α) (xs : List α) {e : α → β} : (x :: xs).map e = e x :: xs.map e := rfl
theorem sv_mapnil {e : α → β} : [].map e = [] := rfl
theorem sv_mapid (xs : List T) : xs.map (fun x => x) = xs := List.map_id' ..
theorem sv_emp (xs : List α) {e : α → β} : (xs.map e).isEmpty = xs.isEmpty := List.isEmpty_map ..
theorem sv_any (xs : List α) {e : α → β} {p : β → Bool} : (xs.map e).any p = xs.any fun a => p (e a) := List.any_map ..
theorem sv_all (xs : List α) {e : α → β} {p : β → Bool} : (xs.map e).all p = xs.all fun a => p (e a) := List.all_map ..
theorem sv_allt (xs : List α) : (xs.all fun _ => true) = true := by simp
theorem sv_cutlen (xs : List α) (lo hi : Option Int) {e : α → β} : (cutT (xs.map e) lo hi).length = (cutT xs lo hi).length := by rw [cutT_map, List.length_map]
theorem sv_replen (k : Nat) (xs : List α) {e : α → T} : (rep k (xs.map e)).length = (repL k xs).length := by rw [← rep_map, List.length_map]
theorem sv_setlen (xs : List α) (n : Nat) (a : α) : (xs.set n a).length = xs.length := List.length_set ..
theorem sv_revlen (xs : List α) : xs.reverse.length = xs.length := List.length_reverse ..
theorem sv_all0 {p : β → Bool} : ([] : List β).all p = true := rfl
theorem sv_all1 {p : β → Bool} {x : β} {xs : List β} : (x :: xs).all p = (p x && xs.all p) := rfl
theorem sv_any0 {p : β → Bool} : ([] : List β).any p = false := rfl
theorem sv_any1 {p : β → Bool} {x : β} {xs : List β} : (x :: xs).any p = (p x || xs.any p) := rfl
theorem sv_enum (xs : List α) {e : α → T} : enumT (xs.map e) = (enumI xs).map fun q => .tup [.int q.1, e q.2] := by
  rw [enumT_map]; unfold enumI; rw [List.map_map]; rfl
theorem sv_enum' (xs : List T) : enumT xs = (enumI xs).map fun q => .tup [.int q.1, q.2] := by
  have := sv_enum (e := fun x => x) xs; simpa using this
theorem sv_rng1 (n : Int) : Tr.ofO (rangeD [.int n]) = (rng1 n).bind fun ws => .ret (ws.map .int) := by
  rw [ra1, sv_oif]; unfold rng1 rngI rangeT; simp only [sv_assoc, sv_ret, List.map_map]; rfl
theorem sv_rng2 (m n : Int) : Tr.ofO (rangeD [.int m, .int n]) = (rng2 m n).bind fun ws => .ret (ws.map .int) := by
  rw [ra2, sv_oif]; unfold rng2 rngI rangeT; simp only [sv_assoc, sv_ret, List.map_map]; rfl
theorem sv_zip2 {e : α → T} {f : β → T} (xs : List α) (ys : List β) : zipT [xs.map e, ys.map f] = (xs.zip ys).map fun q => .tup [e q.1, f q.2] := zip2_map xs ys
theorem sv_zip3 {e : α → T} {f : β → T} {g : γ → T} (xs : List α) (ys : List β) (zs : List γ) : zipT [xs.map e, ys.map f, zs.map g] = (xs.zip (ys.zip zs)).map fun q => .tup [e q.1, f q.2.1, g q.2.2] := zip3_map xs ys zs
theorem sv_ints {g : α → Int} (xs : List α) : intsOf (xs.map fun a => .int (g a)) = some (xs.map g) := intsOf_map xs
theorem sv_bls {g : α → Bool} (xs : List α) : blsOf (xs.map fun a => .bl (g a)) = some (xs.map g) := blsOf_map xs
theorem sv_strs {g : α → Sg} (xs : List α) : strsOf (xs.map fun a => .str (g a)) = some (xs.map g) := strsOf_map xs
theorem sv_ints0 (xs : List Int) : intsOf (xs.map .int) = some xs := by have := intsOf_map (g := id) xs; simpa using this
theorem sv_bls0 (xs : List Bool) : blsOf (xs.map .bl) = some xs := by have := blsOf_map (g := id) xs; simpa using this
theorem sv_strs0 (xs : List Sg) : strsOf (xs.map .str) = some xs := by have := strsOf_map (g := id) xs; simpa using this
/-! comprehensions -/
theorem sv_coM {f : T → Tr (Option T)} {e : α → T} (xs : List α) : evCo f (xs.map e) = evCoM (fun a => f (e a)) xs := evCo_map xs
theorem sv_coMM {f : β → Tr (Option T)} {e : α → β} (xs : List α) : evCoM f (xs.map e) = evCoM (fun a => f (e a)) xs := evCoM_map xs
theorem evCo_M (f : T → Tr (Option T)) : ∀ xs : List T, evCo f xs = evCoM f xs
  | [] => rfl
  | x :: xs => by simp only [evCo, evCoM, evCo_M f xs]
theorem sv_coSome {g : α → T} (xs : List α) : evCoM (fun a => .ret (some (g a))) xs = .ret (xs.map g) := evCoM_some xs
theorem sv_coIf {p : α → Bool} {g : α → T} : ∀ xs : List α, evCoM (fun a => if p a = true then .ret (some (g a)) else .ret none) xs = .ret ((xs.filter p).map g)
  | [] => rfl
  | x :: xs => by
    simp only [evCoM, sv_coIf xs, tr_ret]
    by_cases h : p x = true <;> simp [h, consO]
theorem coA_ev (F : α → Tr β) (e : β → T) : ∀ xs : List α, evCoM (fun a => (F a).noexc.bind fun v => .ret (some (e v))) xs = (coA F xs).bind fun ys => .ret (ys.map e)
  | [] => rfl
  | x :: xs => by
    simp only [evCoM, coA, coA_ev F e xs, bind_assoc, tr_ret, consO, List.map_cons]
theorem coC_ev (c : α → Tr Bool) (F : α → Tr β) (e : β → T) : ∀ xs : List α, evCoM (fun a => (c a).noexc.bind fun b => if b = true then (F a).noexc.bind fun v => .ret (some (e v)) else .ret none) xs = (coC c F xs).bind fun ys => .ret (ys.map e)
  | [] => rfl
  | x :: xs => by
    simp only [evCoM, coC, coC_ev c F e xs, bind_assoc, tr_ret]
    congr 1
    funext b
    cases b <;> simp [consO, bind_assoc, tr_ret]
/-! equality -/
mutual
def okX : Nat → T → Bool
  | _, .non => true
  | _, .bl _ => true
  | _, .int _ => true
  | _, .str _ => true
  | n + 1, .tup ts => okXs n ts
  | n + 1, .lst ts => okXs n ts
  | _, _ => false
def okXs : Nat → List T → Bool
  | _, [] => true
  | n, t :: ts => okX n t && okXs n ts
end
mutual
theorem okX_eq : ∀ (n : Nat) (t : T), okX n t = (decide (depT t ≤ n) && isD t)
  | n, .non => by cases n <;> simp [okX, depT, isD]
  | n, .bl _ => by cases n <;> simp [okX, depT, isD]
  | n, .int _ => by cases n <;> simp [okX, depT, isD]
  | n, .str _ => by cases n <;> simp [okX, depT, isD]
  | 0, .tup ts => by simp [okX, depT]
  | n + 1, .tup ts => by simp [okX, depT, isD, okXs_eq n ts]
  | 0, .lst ts => by simp [okX, depT]
  | n + 1, .lst ts => by simp [okX, depT, isD, okXs_eq n ts]
  | n, .dct _ _ _ => by cases n <;> simp [okX, isD]
  | n, .ref _ => by cases n <;> simp [okX, isD]
  | n, .fn _ => by cases n <;> simp [okX, isD]
  | n, .scr => by cases n <;> simp [okX, isD]
theorem okXs_eq : ∀ (n : Nat) (ts : List T), okXs n ts = (decide (depTs ts ≤ n) && isDs ts)
  | n, [] => by cases n <;> simp [okXs, depTs, isDs]
  | n, t :: ts => by
    rw [okXs, okX_eq n t, okXs_eq n ts]
    simp only [depTs, isDs, Nat.max_le, Bool.decide_and]
    cases decide (depT t ≤ n) <;> cases isD t <;> cases decide (depTs ts ≤ n) <;> cases isDs ts <;> rfl
end
theorem okE_N (t : T) : okE t = okX 60 t := by rw [okX_eq]; rfl
theorem okEs_N (t : List T) : okEs t = okXs 60 t := by rw [okXs_eq]; rfl
theorem ok1 (n : Nat) : okX n .non = true := by cases n <;> simp [okX]
theorem ok2 (n : Nat) (b : Bool) : okX n (.bl b) = true := by cases n <;> simp [okX]
theorem ok3 (n : Nat) (i : Int) : okX n (.int i) = true := by cases n <;> simp [okX]
theorem ok4 (n : Nat) (s : Sg) : okX n (.str s) = true := by cases n <;> simp [okX]
theorem ok5 (n : Nat) (ts : List T) : okX (n + 1) (.tup ts) = okXs n ts := by simp [okX]
theorem ok6 (n : Nat) (ts : List T) : okX (n + 1) (.lst ts) = okXs n ts := by simp [okX]
theorem ok7 (n : Nat) : okXs n [] = true := by simp [okXs]
theorem ok8 (n : Nat) (t : T) (ts : List T) : okXs n (t :: ts) = (okX n t && okXs n ts) := by simp [okXs]
theorem ok9 (n : Nat) {e : α → T} : ∀ xs : List α, okXs n (xs.map e) = xs.all fun a => okX n (e a)
  | [] => by simp [okXs]
  | x :: xs => by simp only [List.map_cons, okXs, ok9 n xs, List.all_cons]
theorem ok10 (n : Nat) : ∀ xs ys : List T, okXs n (xs ++ ys) = (okXs n xs && okXs n ys)
  | [], ys => by simp [okXs]
  | x :: xs, ys => by simp only [List.cons_append, okXs, ok10 n xs, Bool.and_assoc]
theorem eqD_gen (x y : T) : eqD x y = if okE x = true ∧ okE y = true then some (eqT x y) else none := by
  unfold eqD
  split
  · simp [okE_N, ok3, eqT]
  · simp [okE_N, ok4, eqT]
  · simp [okE_N, ok2, eqT]
  · rfl
theorem sv_eqt (a b : List T) : eqD (.tup a) (.tup b) = if okX 60 (.tup a) = true ∧ okX 60 (.tup b) = true then some (eqTs a b) else none := by
  rw [eqD_gen, okE_N, okE_N]; simp only [eqT]
theorem sv_eql (a b : List T) : eqD (.lst a) (.lst b) = if okX 60 (.lst a) = true ∧ okX 60 (.lst b) = true then some (eqTs a b) else none := by
  rw [eqD_gen, okE_N, okE_N]; simp only [eqT]
theorem eqt1 (i j : Int) : eqT (.int i) (.int j) = (i == j) := by simp only [eqT]
theorem eqt2 (i j : Sg) : eqT (.str i) (.str j) = (i == j) := by simp only [eqT]
theorem eqt3 (i j : Bool) : eqT (.bl i) (.bl j) = (i == j) := by simp only [eqT]
theorem eqt4 (a b : List T) : eqT (.tup a) (.tup b) = eqTs a b := by simp only [eqT]
theorem eqt5 (a b : List T) : eqT (.lst a) (.lst b) = eqTs a b := by simp only [eqT]
theorem eqt6 (s : Sg) (j : Int) : eqT (.str s) (.int j) = false := by simp only [eqT]
theorem eqt7 (s : Sg) (j : Int) : eqT (.int j) (.str s) = false := by simp only [eqT]
theorem eqts0 : eqTs [] [] = true := by simp only [eqTs]
theorem eqts1 (x y : T) (xs ys : List T) : eqTs (x :: xs) (y :: ys) = (eqT x y && eqTs xs ys) := by simp only [eqTs]
theorem eqts2 (x : T) (xs : List T) : eqTs (x :: xs) [] = false := by simp only [eqTs]
theorem eqts3 (x : T) (xs : List T) : eqTs [] (x :: xs) = false := by simp only [eqTs]
theorem eqtsM {e : α → T} {f : β → T} : ∀ (xs : List α) (ys : List β), eqTs (xs.map e) (ys.map f) = eqL (fun a b => eqT (e a) (f b)) xs ys
  | [], [] => by simp only [List.map_nil, eqTs, eqL]
  | x :: xs, [] => by simp only [List.map_nil, List.map_cons, eqTs, eqL]
  | [], y :: ys => by simp only [List.map_nil, List.map_cons, eqTs, eqL]
  | x :: xs, y :: ys => by simp only [List.map_cons, eqTs, eqL, eqtsM xs ys]
theorem eqtsE {e : α → T} : ∀ (xs : List α), eqTs (xs.map e) [] = xs.isEmpty
  | [] => by simp only [List.map_nil, eqTs]; rfl
  | x :: xs => by simp only [List.map_cons, eqTs]; rfl
theorem sv_inl (x : T) (ts : List T) : inD x (.lst ts) = if okX 60 x = true ∧ okXs 60 ts = true then some (ts.any fun e => eqT e x) else none := by rw [← okE_N, ← okEs_N]; rfl
theorem sv_int (x : T) (ts : List T) : inD x (.tup ts) = if okX 60 x = true ∧ okXs 60 ts = true then some (ts.any fun e => eqT e x) else none := by rw [← okE_N, ← okEs_N]; rfl
/-! numbers -/
theorem sv_mul (i j : Int) : Tr.ofO (binD .mul (.int i) (.int j)) = (mulI i j).bind fun r => .ret (.int r) := by rw [bn3, sv_oif]; simp only [mulI, sv_assoc, sv_ret]
theorem sv_div (i j : Int) : Tr.ofO (binD .fdiv (.int i) (.int j)) = (divI i j).bind fun r => .ret (.int r) := by rw [bn4, sv_oif]; simp only [divI, sv_assoc, sv_ret]
theorem sv_mod (i j : Int) : Tr.ofO (binD .mod (.int i) (.int j)) = (modI i j).bind fun r => .ret (.int r) := by rw [bn5, sv_oif]; simp only [modI, sv_assoc, sv_ret]
theorem sv_pow (i j : Int) : Tr.ofO (binD .pow (.int i) (.int j)) = (powI i j).bind fun r => .ret (.int r) := by rw [bn6, sv_oif]; simp only [powI, sv_assoc, sv_ret]
theorem sv_repr (t : T) : Tr.ofO (biD rpT .repr [t]) = (reprO t).bind fun r => .ret (.str r) := by rw [bi5, sv_oif]; simp only [reprO, sv_assoc, sv_ret]
theorem sv_eta {α β : Type} (p : α × β) : (p.1, p.2) = p := rfl
theorem sv_pick {x y : T} {p : Bool} : Tr.ofO (atT [x, y] (if p = true then 1 else 0)) = if p = true then .ret y else .ret x := by cases p <;> rfl
theorem sv_ib {c : Prop} [Decidable c] {a b : Tr α} {f : α → Tr β} : (if c then a else b).bind f = if c then a.bind f else b.bind f := by split <;> rfl
end
theorem le_sz0 : (0 ≤ SZ) = True := eq_true (by decide)
theorem le_sz1 : (1 ≤ SZ) = True := eq_true (by decide)
theorem le_sz2 : (2 ≤ SZ) = True := eq_true (by decide)
theorem le_sz3 : (3 ≤ SZ) = True := eq_true (by decide)
theorem le_sz4 : (4 ≤ SZ) = True := eq_true (by decide)
theorem le_sz5 : (5 ≤ SZ) = True := eq_true (by decide)
theorem le_sz6 : (6 ≤ SZ) = True := eq_true (by decide)
theorem le_sz7 : (7 ≤ SZ) = True := eq_true (by decide)
theorem le_sz8 : (8 ≤ SZ) = True := eq_true (by decide)
theorem le_sz9 : (9 ≤ SZ) = True := eq_true (by decide)
theorem le_sz10 : (10 ≤ SZ) = True := eq_true (by decide)
theorem le_sz11 : (11 ≤ SZ) = True := eq_true (by decide)
theorem le_sz12 : (12 ≤ SZ) = True := eq_true (by decide)
theorem le_sz13 : (13 ≤ SZ) = True := eq_true (by decide)
theorem le_sz14 : (14 ≤ SZ) = True := eq_true (by decide)
theorem le_sz15 : (15 ≤ SZ) = True := eq_true (by decide)
theorem le_sz16 : (16 ≤ SZ) = True := eq_true (by decide)
theorem le_sz17 : (17 ≤ SZ) = True := eq_true (by decide)
theorem le_sz18 : (18 ≤ SZ) = True := eq_true (by decide)
theorem le_sz19 : (19 ≤ SZ) = True := eq_true (by decide)
theorem le_sz20 : (20 ≤ SZ) = True := eq_true (by decide)
theorem le_sz21 : (21 ≤ SZ) = True := eq_true (by decide)
theorem le_sz22 : (22 ≤ SZ) = True := eq_true (by decide)
theorem le_sz23 : (23 ≤ SZ) = True := eq_true (by decide)
theorem le_sz24 : (24 ≤ SZ) = True := eq_true (by decide)
theorem le_sz25 : (25 ≤ SZ) = True := eq_true (by decide)
theorem le_sz26 : (26 ≤ SZ) = True := eq_true (by decide)
theorem le_sz27 : (27 ≤ SZ) = True := eq_true (by decide)
theorem le_sz28 : (28 ≤ SZ) = True := eq_true (by decide)
theorem le_sz29 : (29 ≤ SZ) = True := eq_true (by decide)
theorem le_sz30 : (30 ≤ SZ) = True := eq_true (by decide)
theorem le_sz31 : (31 ≤ SZ) = True := eq_true (by decide)
theorem le_sz32 : (32 ≤ SZ) = True := eq_true (by decide)
theorem le_sz33 : (33 ≤ SZ) = True := eq_true (by decide)
theorem le_sz34 : (34 ≤ SZ) = True := eq_true (by decide)
theorem le_sz35 : (35 ≤ SZ) = True := eq_true (by decide)
theorem le_sz36 : (36 ≤ SZ) = True := eq_true (by decide)
theorem le_sz37 : (37 ≤ SZ) = True := eq_true (by decide)
theorem le_sz38 : (38 ≤ SZ) = True := eq_true (by decide)
theorem le_sz39 : (39 ≤ SZ) = True := eq_true (by decide)
theorem le_sz40 : (40 ≤ SZ) = True := eq_true (by decide)
theorem ex_succ {d k : Nat} (h : d + 1 ≤ k) : ∃ j, k = j + 1 ∧ d ≤ j := ⟨k - 1, by omega, by omega⟩
theorem depTs_mapL {α : Type} {e : α → T} {n : Nat} (h : ∀ a, depT (e a) ≤ n) : ∀ xs : List α, depTs (xs.map e) ≤ n
  | [] => Nat.zero_le _
  | x :: xs => by
    simp only [List.map_cons, depTs]
    exact Nat.max_le.mpr ⟨h x, depTs_mapL h xs⟩
/-- made of numbers, texts, tuples of such; all alike -/
theorem srtD_map {α : Type} {xs : List α} (e : α → T) (lt : α → α → Bool) (h1 : ∀ a, pureT (e a) = true) (h2 : ∀ a, depT (e a) ≤ 60) (h3 : ∀ a b, ltT (e a) (e b) = lt a b) (h4 : ∀ a b, alk (e a) (e b) = true)
    (h5 : (∀ a, isTup1 (e a) = true) ∨ ∀ a, noTup (e a) = true) : srtD (xs.map e) = some ((xs.mergeSort fun x y => !lt y x).map e) := by
  unfold srtD
  rw [if_pos]
  · unfold msort
    rw [List.map_mergeSort (r := fun x y => !lt x y |> fun _ => !lt y x) (s := fun x y => !ltT y x)]
    intro a _ b _
    simp only [h3]
  · refine ⟨⟨?_, depTs_mapL h2 xs⟩, ?_, ?_⟩
    · rw [pureTs_map]; simp [h1]
    · simp [List.all_map, Function.comp_def, h4]
    · rcases h5 with h | h
      · left; simp [List.all_map, Function.comp_def, h]
      · right; simp [List.all_map, Function.comp_def, h]

/-! dicts by pairs -/
def lookA {κ ν : Type} (q : κ → κ → Bool) (k : κ) : List (κ × ν) → Option ν
  | [] => none
  | p :: r => if q p.1 k = true then some p.2 else lookA q k r
def putA {κ ν : Type} (q : κ → κ → Bool) (k : κ) (v : ν) (m : List (κ × ν)) : List (κ × ν) := if (m.any fun p => q p.1 k) = true then m.map fun p => if q p.1 k = true then (p.1, v) else p else m ++ [(k, v)]
theorem lookD_A {κ ν : Type} (eK : κ → T) (eV : ν → T) (q : κ → κ → Bool) (hq : ∀ a b, eqT (eK a) (eK b) = q a b) (k : κ) : ∀ m : List (κ × ν), lookD (eK k) (m.map fun p => eK p.1) (m.map fun p => eV p.2) = (lookA q k m).map eV
  | [] => rfl
  | p :: r => by
    simp only [List.map_cons, lookD, lookA, hq]
    split
    · rfl
    · exact lookD_A eK eV q hq k r
theorem putKs_A {κ ν : Type} (eK : κ → T) (q : κ → κ → Bool) (hq : ∀ a b, eqT (eK a) (eK b) = q a b) (k : κ) (v : ν) (m : List (κ × ν)) : putKs (eK k) (m.map fun p => eK p.1) = (putA q k v m).map fun p => eK p.1 := by
  unfold putKs putA
  have e : ((m.map fun p => eK p.1).any fun e => eqT e (eK k)) = m.any fun p => q p.1 k := by
    rw [List.any_map]; simp only [Function.comp_def, hq]
  rw [e]
  split
  · rw [List.map_map]
    refine List.map_congr_left fun p _ => ?_
    simp only [Function.comp_def]
    split <;> rfl
  · simp
theorem putVs_A {κ ν : Type} (eK : κ → T) (eV : ν → T) (q : κ → κ → Bool) (hq : ∀ a b, eqT (eK a) (eK b) = q a b) (k : κ) (v : ν) (m : List (κ × ν)) : putVs (eK k) (eV v) (m.map fun p => eK p.1) (m.map fun p => eV p.2) = (putA q k v m).map fun p => eV p.2 := by
  unfold putVs putA
  have e : ((m.map fun p => eK p.1).any fun e => eqT e (eK k)) = m.any fun p => q p.1 k := by
    rw [List.any_map]; simp only [Function.comp_def, hq]
  rw [e]
  split
  · rw [List.map_map, List.zipWith_map]
    have : ∀ l : List (κ × ν), List.zipWith (fun (x y : κ × ν) => if eqT (eK x.1) (eK k) = true then eV v else eV y.2) l l = l.map ((fun p => eV p.2) ∘ fun p => if q p.1 k = true then (p.1, v) else p) := by
      intro l
      induction l with
      | nil => rfl
      | cons p l ih =>
        rw [List.zipWith_cons_cons, List.map_cons, ih]
        congr 1
        simp only [hq, Function.comp_def]
        split <;> rfl
    exact this m
  · simp
theorem sv_getDm {α : Type} (o : Option α) (f : α → T) (d : α) : (o.map f).getD (f d) = f (o.getD d) := by cases o <;> rfl
theorem sv_getDi (o : Option Int) (d : Int) : (o.map T.int).getD (.int d) = .int (o.getD d) := by cases o <;> rfl
theorem sv_isS {α β : Type} (o : Option α) (f : α → β) : (o.map f).isSome = o.isSome := by cases o <;> rfl
theorem sv_zwp {α : Type} (xs : List α) (f g : α → T) : List.zipWith pairT (xs.map f) (xs.map g) = xs.map fun a => .tup [f a, g a] := by
  rw [List.zipWith_map]
  induction xs with
  | nil => rfl
  | cons x xs ih => rw [List.zipWith_cons_cons, List.map_cons, ih]; rfl
/-! statements -/
section
variable {C : Ec} {de : SE2} {α β σ ρ : Type}
theorem vis_nil : vis [] = [] := rfl
def isVarX : X → Bool
  | .var _ => true
  | _ => false
def isMeX : X → Bool
  | .me _ (.var _) _ => true
  | _ => false
theorem es_set {i : Nat} {e : X} : evS C (.set (.name i) e) de = (evF C e (vis (pub (occE e) de))).bind fun r => .ret (.nx ((keepIf (clean r) de (pub (occE e) de)).set i (some (slF r)))) := by simp only [evS]
theorem es_setT {gs : List Tg} {e : X} : evS C (.set (.tup gs) e) de = (evE C e (vis (pub (occE e) de))).bind fun v => (Tr.ofO (asgS (.tup gs) v (keepIf (pureT v) de (pub (occE e) de)))).bind fun d => .ret (.nx d) := by simp only [evS]
theorem es_par {i j : Nat} {a b : X} : evS C (.par [i, j] [a, b]) de = (evF C a (vis (pub (occE a ++ occE b) de))).bind fun r => (evF C b (vis (pub (occE a ++ occE b) de))).bind fun q =>
        .ret (.nx (((keepIf (clean r && clean q) de (pub (occE a ++ occE b) de)).set i (some (slF r))).set j (some (slF q)))) := by simp only [evS]
def subS (C : Ec) (x : Nat) (i e : X) (de : SE2) : Option Sl → Tr Fl
  | some (.own ts) => (evE C e (vis (pub (occE e ++ occE i) de))).bind fun v => (evE C i (vis (pub (occE e ++ occE i) de))).bind fun k => (Tr.ofO (intD k)).bind fun j => if ((occE e).contains x || (occE i).contains x) && !pureT v then .fail else
              if 0 ≤ j ∧ j.toNat < ts.length then .ret (.nx ((keepIf (pureT v) de (pub (occE e ++ occE i) de)).set x (some (.own (ts.set j.toNat v))))) else .fail
  | some (.ownD b ks vs) => (evE C e (vis (pub (occE e ++ occE i) de))).bind fun v => (evE C i (vis (pub (occE e ++ occE i) de))).bind fun k =>
            if ((occE e).contains x || (occE i).contains x) && !pureT v then .fail else
              if keyOk b k = true ∧ ks.length < 1000 then .ret (.nx ((keepIf (pureT v) de (pub (occE e ++ occE i) de)).set x (some (.ownD b (putKs k ks) (putVs k v ks vs))))) else .fail
  | _ => .fail
theorem es_sub {x : Nat} {i e : X} : evS C (.sub (.var x) i e) de = subS C x i e de (de.getD x none) := by
  simp only [evS]
  generalize de.getD x none = o
  rcases o with _ | (t | ts | ⟨b, ks, vs⟩)
  · rfl
  · rfl
  · simp only [subS]
    congr 1; funext v; congr 1; funext k
    cases k <;> rfl
  · rfl
theorem sb1 {x : Nat} {i e : X} {ts : List T} : subS C x i e de (some (.own ts)) = (evE C e (vis (pub (occE e ++ occE i) de))).bind fun v => (evE C i (vis (pub (occE e ++ occE i) de))).bind fun k => (Tr.ofO (intD k)).bind fun j => if ((occE e).contains x || (occE i).contains x) && !pureT v then .fail else
              if 0 ≤ j ∧ j.toNat < ts.length then .ret (.nx ((keepIf (pureT v) de (pub (occE e ++ occE i) de)).set x (some (.own (ts.set j.toNat v))))) else .fail := rfl
theorem sb2 {x : Nat} {i e : X} {b : Bool} {ks vs : List T} : subS C x i e de (some (.ownD b ks vs)) = (evE C e (vis (pub (occE e ++ occE i) de))).bind fun v => (evE C i (vis (pub (occE e ++ occE i) de))).bind fun k =>
            if ((occE e).contains x || (occE i).contains x) && !pureT v then .fail else
              if keyOk b k = true ∧ ks.length < 1000 then .ret (.nx ((keepIf (pureT v) de (pub (occE e ++ occE i) de)).set x (some (.ownD b (putKs k ks) (putVs k v ks vs))))) else .fail := rfl
def appS (C : Ec) (x : Nat) (a : X) (de : SE2) : Option Sl → Tr Fl
  | some (.own ts) => (evE C a (vis (pub (occE a) de))).bind fun v => if (occE a).contains x && !pureT v then .fail else if ts.length < SZ then .ret (.nx ((keepIf (pureT v) de (pub (occE a) de)).set x (some (.own (ts ++ [v]))))) else .fail
  | _ => .fail
theorem es_app {x : Nat} {a : X} : evS C (.ex (.me .append (.var x) [a])) de = appS C x a de (de.getD x none) := by
  simp only [evS]
  generalize de.getD x none = o
  rcases o with _ | (t | ts | ⟨b, ks, vs⟩) <;> rfl
theorem ap1 {x : Nat} {a : X} {ts : List T} : appS C x a de (some (.own ts)) = (evE C a (vis (pub (occE a) de))).bind fun v => if (occE a).contains x && !pureT v then .fail else if ts.length < SZ then .ret (.nx ((keepIf (pureT v) de (pub (occE a) de)).set x (some (.own (ts ++ [v]))))) else .fail := rfl
def popS (x : Nat) (de : SE2) : Option Sl → Tr Fl
  | some (.own ts) => if ts.isEmpty = true then .fail else .ret (.nx (de.set x (some (.own ts.dropLast))))
  | _ => .fail
theorem es_pop {x : Nat} : evS C (.ex (.me .pop (.var x) [])) de = popS x de (de.getD x none) := by
  simp only [evS]
  generalize de.getD x none = o
  rcases o with _ | (t | ts | ⟨b, ks, vs⟩) <;> rfl
theorem po1 {x : Nat} {ts : List T} : popS x de (some (.own ts)) = if ts.isEmpty = true then .fail else .ret (.nx (de.set x (some (.own ts.dropLast)))) := rfl
theorem es_ex {e : X} (h : isMeX e = false) : evS C (.ex e) de = (evE C e (vis (pub (occE e) de))).bind fun _ => .ret (.nx de) := by
  cases e <;> try simp only [evS]
  rename_i m o es
  cases o <;> try simp only [evS]
  simp [isMeX] at h
def augS (i : Nat) (o : Op) (de : SE2) (e : X) (C : Ec) : Option Sl → Tr Fl
  | some (.val x) => (evE C e (vis (pub (occE e) de))).bind fun y => (match o, x, y with
      | .add, .int a, .int b => .ret (.nx (de.set i (some (.val (.int (a + b))))))
      | .sub, .int a, .int b => .ret (.nx (de.set i (some (.val (.int (a - b))))))
      | .mul, .int a, .int b => if (-(2 ^ 64) < a ∧ a < 2 ^ 64) ∨ (-(2 ^ 64) < b ∧ b < 2 ^ 64) then .ret (.nx (de.set i (some (.val (.int (a * b)))))) else .fail
      | _, _, _ => .fail)
  | _ => .fail
theorem es_aug {i : Nat} {o : Op} {e : X} : evS C (.aug i o e) de = augS i o de e C (de.getD i none) := by
  simp only [evS]
  generalize de.getD i none = o
  rcases o with _ | (t | ts | ⟨b, ks, vs⟩) <;> rfl
def aug2 (i : Nat) (o : Op) (de : SE2) (x y : T) : Tr Fl := match o, x, y with
      | .add, .int a, .int b => .ret (.nx (de.set i (some (.val (.int (a + b))))))
      | .sub, .int a, .int b => .ret (.nx (de.set i (some (.val (.int (a - b))))))
      | .mul, .int a, .int b => if (-(2 ^ 64) < a ∧ a < 2 ^ 64) ∨ (-(2 ^ 64) < b ∧ b < 2 ^ 64) then .ret (.nx (de.set i (some (.val (.int (a * b)))))) else .fail
      | _, _, _ => .fail
theorem au1 {i : Nat} {o : Op} {e : X} {x : T} : augS i o de e C (some (.val x)) = (evE C e (vis (pub (occE e) de))).bind fun y => aug2 i o de x y := rfl
def mulA (a b : Int) : Tr Int := (chk ((-(2 ^ 64) < a ∧ a < 2 ^ 64) ∨ (-(2 ^ 64) < b ∧ b < 2 ^ 64))).bind fun _ => .ret (a * b)
theorem au2 {i : Nat} {a b : Int} : aug2 i .add de (.int a) (.int b) = .ret (.nx (de.set i (some (.val (.int (a + b)))))) := rfl
theorem au3 {i : Nat} {a b : Int} : aug2 i .sub de (.int a) (.int b) = .ret (.nx (de.set i (some (.val (.int (a - b)))))) := rfl
theorem au4 {i : Nat} {a b : Int} : aug2 i .mul de (.int a) (.int b) = (mulA a b).bind fun r => .ret (.nx (de.set i (some (.val (.int r))))) := by
  show (if _ then _ else _) = _
  rw [sv_itf]; simp only [mulA, sv_assoc, sv_ret]
def retS : Option Sl → Tr Fl
  | some (.own ts) => .ret (.rt (true, .lst ts))
  | some (.ownD b ks vs) => .ret (.rt (true, .dct b ks vs))
  | some (.val t) => .ret (.rt (false, t))
  | none => .fail
theorem es_retv {i : Nat} : evS C (.ret (some (.var i))) de = retS (de.getD i none) := by
  simp only [evS]
  generalize de.getD i none = o
  rcases o with _ | (t | ts | ⟨b, ks, vs⟩) <;> rfl
theorem rt1 {ts : List T} : retS (some (.own ts)) = .ret (.rt (true, .lst ts)) := rfl
theorem rt2 {b : Bool} {ks vs : List T} : retS (some (.ownD b ks vs)) = .ret (.rt (true, .dct b ks vs)) := rfl
theorem rt3 {t : T} : retS (some (.val t)) = .ret (.rt (false, t)) := rfl
theorem es_ret0 : evS C (.ret none) de = .ret (.rt (false, .non)) := by simp only [evS]
theorem es_ret {e : X} (h : isVarX e = false) : evS C (.ret (some e)) de = (evF C e (vis (pub (occE e) de))).bind fun r => .ret (.rt r) := by
  cases e <;> first | (simp [isVarX] at h; done) | simp only [evS]
theorem er_int (i : Int) : evS C (.ret (some (X.int i))) de = (evF C (X.int i) (vis (pub (occE (X.int i)) de))).bind fun r => .ret (.rt r) := es_ret rfl
theorem ex_int (i : Int) : evS C (.ex (X.int i)) de = (evE C (X.int i) (vis (pub (occE (X.int i)) de))).bind fun _ => .ret (.nx de) := es_ex rfl
theorem er_str (i : Sg) : evS C (.ret (some (X.str i))) de = (evF C (X.str i) (vis (pub (occE (X.str i)) de))).bind fun r => .ret (.rt r) := es_ret rfl
theorem ex_str (i : Sg) : evS C (.ex (X.str i)) de = (evE C (X.str i) (vis (pub (occE (X.str i)) de))).bind fun _ => .ret (.nx de) := es_ex rfl
theorem er_bl (b : Bool) : evS C (.ret (some (X.bl b))) de = (evF C (X.bl b) (vis (pub (occE (X.bl b)) de))).bind fun r => .ret (.rt r) := es_ret rfl
theorem ex_bl (b : Bool) : evS C (.ex (X.bl b)) de = (evE C (X.bl b) (vis (pub (occE (X.bl b)) de))).bind fun _ => .ret (.nx de) := es_ex rfl
theorem er_non  : evS C (.ret (some (X.non ))) de = (evF C (X.non ) (vis (pub (occE (X.non )) de))).bind fun r => .ret (.rt r) := es_ret rfl
theorem ex_non  : evS C (.ex (X.non )) de = (evE C (X.non ) (vis (pub (occE (X.non )) de))).bind fun _ => .ret (.nx de) := es_ex rfl
theorem er_glob (i : Nat) : evS C (.ret (some (X.glob i))) de = (evF C (X.glob i) (vis (pub (occE (X.glob i)) de))).bind fun r => .ret (.rt r) := es_ret rfl
theorem ex_glob (i : Nat) : evS C (.ex (X.glob i)) de = (evE C (X.glob i) (vis (pub (occE (X.glob i)) de))).bind fun _ => .ret (.nx de) := es_ex rfl
theorem er_fnv (i : Nat) : evS C (.ret (some (X.fnv i))) de = (evF C (X.fnv i) (vis (pub (occE (X.fnv i)) de))).bind fun r => .ret (.rt r) := es_ret rfl
theorem ex_fnv (i : Nat) : evS C (.ex (X.fnv i)) de = (evE C (X.fnv i) (vis (pub (occE (X.fnv i)) de))).bind fun _ => .ret (.nx de) := es_ex rfl
theorem er_bin (o : Op) (a b : X) : evS C (.ret (some (X.bin o a b))) de = (evF C (X.bin o a b) (vis (pub (occE (X.bin o a b)) de))).bind fun r => .ret (.rt r) := es_ret rfl
theorem ex_bin (o : Op) (a b : X) : evS C (.ex (X.bin o a b)) de = (evE C (X.bin o a b) (vis (pub (occE (X.bin o a b)) de))).bind fun _ => .ret (.nx de) := es_ex rfl
theorem er_neg (a : X) : evS C (.ret (some (X.neg a))) de = (evF C (X.neg a) (vis (pub (occE (X.neg a)) de))).bind fun r => .ret (.rt r) := es_ret rfl
theorem ex_neg (a : X) : evS C (.ex (X.neg a)) de = (evE C (X.neg a) (vis (pub (occE (X.neg a)) de))).bind fun _ => .ret (.nx de) := es_ex rfl
theorem er_not (a : X) : evS C (.ret (some (X.not a))) de = (evF C (X.not a) (vis (pub (occE (X.not a)) de))).bind fun r => .ret (.rt r) := es_ret rfl
theorem ex_not (a : X) : evS C (.ex (X.not a)) de = (evE C (X.not a) (vis (pub (occE (X.not a)) de))).bind fun _ => .ret (.nx de) := es_ex rfl
theorem er_and (a b : X) : evS C (.ret (some (X.and a b))) de = (evF C (X.and a b) (vis (pub (occE (X.and a b)) de))).bind fun r => .ret (.rt r) := es_ret rfl
theorem ex_and (a b : X) : evS C (.ex (X.and a b)) de = (evE C (X.and a b) (vis (pub (occE (X.and a b)) de))).bind fun _ => .ret (.nx de) := es_ex rfl
theorem er_or (a b : X) : evS C (.ret (some (X.or a b))) de = (evF C (X.or a b) (vis (pub (occE (X.or a b)) de))).bind fun r => .ret (.rt r) := es_ret rfl
theorem ex_or (a b : X) : evS C (.ex (X.or a b)) de = (evE C (X.or a b) (vis (pub (occE (X.or a b)) de))).bind fun _ => .ret (.nx de) := es_ex rfl
theorem er_ite (c a b : X) : evS C (.ret (some (X.ite c a b))) de = (evF C (X.ite c a b) (vis (pub (occE (X.ite c a b)) de))).bind fun r => .ret (.rt r) := es_ret rfl
theorem ex_ite (c a b : X) : evS C (.ex (X.ite c a b)) de = (evE C (X.ite c a b) (vis (pub (occE (X.ite c a b)) de))).bind fun _ => .ret (.nx de) := es_ex rfl
theorem er_cmp (o : Co) (a b : X) : evS C (.ret (some (X.cmp o a b))) de = (evF C (X.cmp o a b) (vis (pub (occE (X.cmp o a b)) de))).bind fun r => .ret (.rt r) := es_ret rfl
theorem ex_cmp (o : Co) (a b : X) : evS C (.ex (X.cmp o a b)) de = (evE C (X.cmp o a b) (vis (pub (occE (X.cmp o a b)) de))).bind fun _ => .ret (.nx de) := es_ex rfl
theorem er_chain (o p : Co) (a b c : X) : evS C (.ret (some (X.chain o p a b c))) de = (evF C (X.chain o p a b c) (vis (pub (occE (X.chain o p a b c)) de))).bind fun r => .ret (.rt r) := es_ret rfl
theorem ex_chain (o p : Co) (a b c : X) : evS C (.ex (X.chain o p a b c)) de = (evE C (X.chain o p a b c) (vis (pub (occE (X.chain o p a b c)) de))).bind fun _ => .ret (.nx de) := es_ex rfl
theorem er_tup (es : List X) : evS C (.ret (some (X.tup es))) de = (evF C (X.tup es) (vis (pub (occE (X.tup es)) de))).bind fun r => .ret (.rt r) := es_ret rfl
theorem ex_tup (es : List X) : evS C (.ex (X.tup es)) de = (evE C (X.tup es) (vis (pub (occE (X.tup es)) de))).bind fun _ => .ret (.nx de) := es_ex rfl
theorem er_new (l : L) : evS C (.ret (some (X.new l))) de = (evF C (X.new l) (vis (pub (occE (X.new l)) de))).bind fun r => .ret (.rt r) := es_ret rfl
theorem ex_new (l : L) : evS C (.ex (X.new l)) de = (evE C (X.new l) (vis (pub (occE (X.new l)) de))).bind fun _ => .ret (.nx de) := es_ex rfl
theorem er_idx (a i : X) : evS C (.ret (some (X.idx a i))) de = (evF C (X.idx a i) (vis (pub (occE (X.idx a i)) de))).bind fun r => .ret (.rt r) := es_ret rfl
theorem ex_idx (a i : X) : evS C (.ex (X.idx a i)) de = (evE C (X.idx a i) (vis (pub (occE (X.idx a i)) de))).bind fun _ => .ret (.nx de) := es_ex rfl
theorem er_slc (a : X) (lo hi : Option X) : evS C (.ret (some (X.slc a lo hi))) de = (evF C (X.slc a lo hi) (vis (pub (occE (X.slc a lo hi)) de))).bind fun r => .ret (.rt r) := es_ret rfl
theorem ex_slc (a : X) (lo hi : Option X) : evS C (.ex (X.slc a lo hi)) de = (evE C (X.slc a lo hi) (vis (pub (occE (X.slc a lo hi)) de))).bind fun _ => .ret (.nx de) := es_ex rfl
theorem er_rev (a : X) : evS C (.ret (some (X.rev a))) de = (evF C (X.rev a) (vis (pub (occE (X.rev a)) de))).bind fun r => .ret (.rt r) := es_ret rfl
theorem ex_rev (a : X) : evS C (.ex (X.rev a)) de = (evE C (X.rev a) (vis (pub (occE (X.rev a)) de))).bind fun _ => .ret (.nx de) := es_ex rfl
theorem er_call (f : Nat) (es : List X) : evS C (.ret (some (X.call f es))) de = (evF C (X.call f es) (vis (pub (occE (X.call f es)) de))).bind fun r => .ret (.rt r) := es_ret rfl
theorem ex_call (f : Nat) (es : List X) : evS C (.ex (X.call f es)) de = (evE C (X.call f es) (vis (pub (occE (X.call f es)) de))).bind fun _ => .ret (.nx de) := es_ex rfl
theorem er_callv (i : Nat) (es : List X) : evS C (.ret (some (X.callv i es))) de = (evF C (X.callv i es) (vis (pub (occE (X.callv i es)) de))).bind fun r => .ret (.rt r) := es_ret rfl
theorem ex_callv (i : Nat) (es : List X) : evS C (.ex (X.callv i es)) de = (evE C (X.callv i es) (vis (pub (occE (X.callv i es)) de))).bind fun _ => .ret (.nx de) := es_ex rfl
theorem er_bi (f : Bi) (es : List X) : evS C (.ret (some (X.bi f es))) de = (evF C (X.bi f es) (vis (pub (occE (X.bi f es)) de))).bind fun r => .ret (.rt r) := es_ret rfl
theorem ex_bi (f : Bi) (es : List X) : evS C (.ex (X.bi f es)) de = (evE C (X.bi f es) (vis (pub (occE (X.bi f es)) de))).bind fun _ => .ret (.nx de) := es_ex rfl
theorem er_isi (a : X) (ty : Ty) : evS C (.ret (some (X.isi a ty))) de = (evF C (X.isi a ty) (vis (pub (occE (X.isi a ty)) de))).bind fun r => .ret (.rt r) := es_ret rfl
theorem ex_isi (a : X) (ty : Ty) : evS C (.ex (X.isi a ty)) de = (evE C (X.isi a ty) (vis (pub (occE (X.isi a ty)) de))).bind fun _ => .ret (.nx de) := es_ex rfl
theorem er_li (f : Li) (l : L) : evS C (.ret (some (X.li f l))) de = (evF C (X.li f l) (vis (pub (occE (X.li f l)) de))).bind fun r => .ret (.rt r) := es_ret rfl
theorem ex_li (f : Li) (l : L) : evS C (.ex (X.li f l)) de = (evE C (X.li f l) (vis (pub (occE (X.li f l)) de))).bind fun _ => .ret (.nx de) := es_ex rfl
theorem er_join (a : X) (l : L) : evS C (.ret (some (X.join a l))) de = (evF C (X.join a l) (vis (pub (occE (X.join a l)) de))).bind fun r => .ret (.rt r) := es_ret rfl
theorem ex_join (a : X) (l : L) : evS C (.ex (X.join a l)) de = (evE C (X.join a l) (vis (pub (occE (X.join a l)) de))).bind fun _ => .ret (.nx de) := es_ex rfl
theorem er_dnew (b : Bool) : evS C (.ret (some (X.dnew b))) de = (evF C (X.dnew b) (vis (pub (occE (X.dnew b)) de))).bind fun r => .ret (.rt r) := es_ret rfl
theorem ex_dnew (b : Bool) : evS C (.ex (X.dnew b)) de = (evE C (X.dnew b) (vis (pub (occE (X.dnew b)) de))).bind fun _ => .ret (.nx de) := es_ex rfl
theorem er_me (m : Me) (a : X) (es : List X) : evS C (.ret (some (X.me m a es))) de = (evF C (X.me m a es) (vis (pub (occE (X.me m a es)) de))).bind fun r => .ret (.rt r) := es_ret rfl
theorem es_pass : evS C .pass de = .ret (.nx de) := by simp only [evS]
theorem ev_cond {c : X} {a b : List Sm} : evS C (.cond c a b) de = (evT C c (vis (pub (occE c) de))).bind fun t => if t = true then evSs C a de else evSs C b de := by simp only [evS]
theorem ev_loop {g : Tg} {r : Sr} {b : List Sm} : evS C (.loop g r b) de = (evR C r (vis (pub (occR r) de))).bind fun ts =>
      evFor (pub (occR r) de) (fun x d => (Tr.ofO (asgS g x d)).bind fun d2 => evSs C b d2) ts (pub (occR r) de) := by simp only [evS]
theorem ev_while {c : X} {b : List Sm} : evS C (.whl c b) de = evWh de (fun d => evT C c (vis (pub (occE c) d))) (fun d => evSs C b d) WN de := by simp only [evS]
theorem gd0 {α : Type} {x d : α} {xs : List α} : (x :: xs).getD 0 d = x := rfl
theorem gd_s {α : Type} {x d : α} {xs : List α} {n : Nat} : (x :: xs).getD (n + 1) d = xs.getD n d := List.getD_cons_succ ..
theorem gd_n {α : Type} {d : α} {n : Nat} : ([] : List α).getD n d = d := rfl
theorem set0 {α : Type} {x y : α} {xs : List α} : (x :: xs).set 0 y = y :: xs := rfl
theorem set_s {α : Type} {x y : α} {xs : List α} {n : Nat} : (x :: xs).set (n + 1) y = x :: xs.set n y := rfl
theorem lc {α : Type} {x : α} {xs : List α} : (x :: xs).length = xs.length + 1 := rfl
theorem ln0 {α : Type} : ([] : List α).length = 0 := rfl
theorem lap {α : Type} (xs ys : List α) : (xs ++ ys).length = xs.length + ys.length := List.length_append ..
theorem ca {α : Type} {x : α} {xs ys : List α} : (x :: xs) ++ ys = x :: (xs ++ ys) := rfl
theorem na {α : Type} {ys : List α} : [] ++ ys = ys := rfl
theorem an {α : Type} {ys : List α} : ys ++ [] = ys := List.append_nil ys
theorem ct0 {i : Nat} : ([] : List Nat).contains i = false := rfl
theorem ct1 {i j : Nat} {l : List Nat} : (j :: l).contains i = (i == j || l.contains i) := List.contains_cons
theorem b1 (b : Bool) : (true && b) = b := rfl
theorem b2 (b : Bool) : (false && b) = false := rfl
theorem b3 (b : Bool) : (b && true) = b := by cases b <;> rfl
theorem b4 (b : Bool) : (b && false) = false := by cases b <;> rfl
theorem b5 (b : Bool) : (false || b) = b := rfl
theorem b6 (b : Bool) : (true || b) = true := rfl
theorem b7 : (!true) = false := rfl
theorem b8 : (!false) = true := rfl
theorem b9 (b : Bool) : (b || false) = b := by cases b <;> rfl
theorem it1 {α : Type} {a b : α} : (if True then a else b) = a := if_pos trivial
theorem it2 {α : Type} {a b : α} : (if False then a else b) = b := if_neg id
theorem it3 : (false = true) = False := by simp
theorem it4 : (true = true) = True := by simp
theorem it4f : (true = false) = False := by simp
theorem it4g : (false = false) = True := by simp
theorem it5 {p : Prop} : (True ∧ p) = p := by simp
theorem it6 {p : Prop} : (p ∧ True) = p := by simp
theorem it7 : (¬ False) = True := by simp
theorem it8 : (¬ True) = False := by simp
theorem om1 {α β : Type} (a : α) (f : α → β) : (some a).map f = some (f a) := rfl
theorem om2 {α β : Type} (f : α → β) : (none : Option α).map f = none := rfl
theorem ob1 {α β : Type} (a : α) (f : α → Option β) : (some a).bind f = f a := rfl
theorem ob2 {α β : Type} (f : α → Option β) : (none : Option α).bind f = none := rfl
theorem comp1 {α β γ : Type} (f : β → γ) (g : α → β) : (f ∘ g) = fun a => f (g a) := rfl
theorem sv_keepset {c : Bool} {a b : SE2} {i : Nat} {x : Option Sl} : (keepIf c a b).set i x = keepIf c (a.set i x) (b.set i x) := by cases c <;> rfl
theorem evSs_cons {s : Sm} {ss : List Sm} : evSs C (s :: ss) de = (evS C s de).bind fun fl => fl.go fun e => evSs C ss e := by simp only [evSs]
/-! one step -/
variable {s : Sm} {ss : List Sm} {K1 : Fl → Tr β} {K2 : ρ → Tr β}
theorem step {t : Tr α} {E : α → SE2} {sh : α → Tr ρ} (h1 : evS C s de = t.bind fun x => .ret (.nx (E x))) (h2 : ∀ x, (evSs C ss (E x)).bind K1 = (sh x).bind K2) : (evSs C (s :: ss) de).bind K1 = (t.bind sh).bind K2 := by
  rw [evSs_cons, h1]
  simp only [bind_assoc, tr_ret, go_nx, h2]
theorem stepF {κ : Type} {t : Tr (Fr κ α)} {E : α → SE2} {fe : κ → Bool × T} {rt : κ → Tr ρ} {sh : α → Tr ρ} (h1 : evS C s de = t.bind fun r => r.elim (fun v => .ret (.rt (fe v))) fun x => .ret (.nx (E x)))
    (h2 : ∀ x, (evSs C ss (E x)).bind K1 = (sh x).bind K2) (h3 : ∀ v, K1 (.rt (fe v)) = (rt v).bind K2) : (evSs C (s :: ss) de).bind K1 = (t.bind fun r => r.elim rt sh).bind K2 := by
  rw [evSs_cons, h1]
  simp only [bind_assoc]
  congr 1
  funext r
  cases r with
  | nx x => simp only [Fr.elim, tr_ret, go_nx, h2]
  | rt v => simp only [Fr.elim, tr_ret, go_rt, h3]
theorem stepR {t : Tr α} {fe : α → Bool × T} {rt : α → Tr ρ} (h1 : evS C s de = t.bind fun x => .ret (.rt (fe x))) (h3 : ∀ x, K1 (.rt (fe x)) = (rt x).bind K2) : (evSs C (s :: ss) de).bind K1 = (t.bind rt).bind K2 := by
  rw [evSs_cons, h1]
  simp only [bind_assoc, tr_ret, go_rt, h3]
theorem evSs_app {a b : List Sm} : ∀ de, evSs C (a ++ b) de = (evSs C a de).bind fun fl => fl.go fun e => evSs C b e := by
  induction a with
  | nil => intro de; simp only [List.nil_append, evSs, tr_ret, go_nx]
  | cons s a ih =>
    intro de
    simp only [List.cons_append, evSs, bind_assoc]
    congr 1
    funext fl
    cases fl with
    | nx e => simp only [go_nx, ih]
    | rt r => simp only [go_rt, tr_ret]
theorem stepI {c : X} {a b : List Sm} {ct : Tr Bool} {A B : Tr ρ} (hc : evT C c (vis (pub (occE c) de)) = ct) (ha : (evSs C (a ++ ss) de).bind K1 = A.bind K2) (hb : (evSs C (b ++ ss) de).bind K1 = B.bind K2) :
    (evSs C (.cond c a b :: ss) de).bind K1 = (ct.bind fun t => if t = true then A else B).bind K2 := by
  rw [evSs_cons, ev_cond, hc]
  simp only [bind_assoc]
  congr 1
  funext t
  cases t
  · simp only [Bool.false_eq_true, if_false]; rw [← hb, evSs_app, bind_assoc]
  · simp only [if_true]; rw [← ha, evSs_app, bind_assoc]
theorem ifS {c : X} {a b : List Sm} {ct : Tr Bool} {A B : Tr α} {E : α → SE2} (hc : evT C c (vis (pub (occE c) de)) = ct) (ha : (evSs C a de).bind .ret = A.bind fun x => .ret (.nx (E x))) (hb : (evSs C b de).bind .ret = B.bind fun x => .ret (.nx (E x))) :
    evS C (.cond c a b) de = (ct.bind fun t => if t = true then A else B).bind fun x => .ret (.nx (E x)) := by
  rw [ev_cond, hc]
  simp only [bind_assoc]
  congr 1
  funext t
  rw [bind_ret] at ha hb
  cases t
  · simp only [Bool.false_eq_true, if_false]; exact hb
  · simp only [if_true]; exact ha
def mkK (m : SE2) : Fl → Tr Fl
  | .nx d => .ret (.nx (mask m d))
  | .rt r => .ret (.rt r)
theorem mk_nx (m d : SE2) : mkK m (.nx d) = .ret (.nx (mask m d)) := rfl
theorem mk_rt (m : SE2) (r : Bool × T) : mkK m (.rt r) = .ret (.rt r) := rfl
theorem mk_go (m : SE2) (t : Tr Fl) (k : SE2 → Tr Fl) : ((t.bind (mkK m)).bind fun fl => fl.go k) = t.bind fun fl => fl.go fun e => k (mask m e) := by
  rw [bind_assoc]
  congr 1
  funext fl
  cases fl <;> rfl
theorem loopS {g : Tg} {r : Sr} {b : List Sm} {srcT : Tr (List α)} {s0 : σ} {bd : α → σ → Tr σ} (e : α → T) (E : σ → SE2) (E1 : α → σ → SE2) (hs : evR C r (vis (pub (occR r) de)) = srcT.bind fun xs => .ret (xs.map e)) (h0 : pub (occR r) de = E s0)
    (ha : ∀ a s, asgS g (e a) (E s) = some (E1 a s)) (hb : ∀ a s, (evSs C b (E1 a s)).bind (mkK (E s0)) = (bd a s).bind fun s' => .ret (.nx (E s'))) :
    evS C (.loop g r b) de = (srcT.bind fun xs => forM xs s0 bd).bind fun s => .ret (.nx (E s)) := by
  rw [ev_loop, hs]
  simp only [bind_assoc, tr_ret]
  congr 1
  funext xs
  rw [h0, evFor_map]
  have key : ∀ (xs : List α) (s : σ), evForM (E s0) (fun a d => (Tr.ofO (asgS g (e a) d)).bind fun d2 => evSs C b d2) xs (E s) = (forM xs s bd).bind fun s => .ret (.nx (E s)) := by
    intro xs
    induction xs with
    | nil => intro s; rfl
    | cons x xs ih =>
      intro s
      simp only [evForM, forM, ha, sv_some, tr_ret]
      rw [← mk_go, hb]
      simp only [bind_assoc, tr_ret, go_nx, ih]
  exact key xs s0
theorem loopR {g : Tg} {r : Sr} {b : List Sm} {srcT : Tr (List α)} {s0 : σ} {bd : α → σ → Tr (Fr ρ σ)} (fe : ρ → Bool × T) (e : α → T) (E : σ → SE2) (E1 : α → σ → SE2) (hs : evR C r (vis (pub (occR r) de)) = srcT.bind fun xs => .ret (xs.map e)) (h0 : pub (occR r) de = E s0)
    (ha : ∀ a s, asgS g (e a) (E s) = some (E1 a s)) (hb : ∀ a s, (evSs C b (E1 a s)).bind (mkK (E s0)) = (bd a s).bind fun q => q.elim (fun v => .ret (.rt (fe v))) fun s' => .ret (.nx (E s'))) :
    evS C (.loop g r b) de = (srcT.bind fun xs => forR xs s0 bd).bind fun q => q.elim (fun v => .ret (.rt (fe v))) fun s => .ret (.nx (E s)) := by
  rw [ev_loop, hs]
  simp only [bind_assoc, tr_ret]
  congr 1
  funext xs
  rw [h0, evFor_map]
  have key : ∀ (xs : List α) (s : σ), evForM (E s0) (fun a d => (Tr.ofO (asgS g (e a) d)).bind fun d2 => evSs C b d2) xs (E s) = (forR xs s bd).bind fun q => q.elim (fun v => .ret (.rt (fe v))) fun s => .ret (.nx (E s)) := by
    intro xs
    induction xs with
    | nil => intro s; rfl
    | cons x xs ih =>
      intro s
      simp only [evForM, forR, ha, sv_some, tr_ret]
      rw [← mk_go, hb]
      simp only [bind_assoc]
      congr 1
      funext q
      cases q with
      | nx s' => simp only [Fr.elim, tr_ret, go_nx, ih]
      | rt v => simp only [Fr.elim, tr_ret, go_rt]
  exact key xs s0
theorem whileS {c : X} {b : List Sm} {s0 : σ} {ct : σ → Tr Bool} {bd : σ → Tr σ} (E : σ → SE2) (h0 : de = E s0) (hc : ∀ s, evT C c (vis (pub (occE c) (E s))) = ct s)
    (hb : ∀ s, (evSs C b (E s)).bind (mkK (E s0)) = (bd s).bind fun s' => .ret (.nx (E s'))) :
    evS C (.whl c b) de = (whM ct bd WN s0).bind fun s => .ret (.nx (E s)) := by
  rw [ev_while]
  subst h0
  have key : ∀ (n : Nat) (s : σ), evWh (E s0) (fun d => evT C c (vis (pub (occE c) d))) (fun d => evSs C b d) n (E s) = (whM ct bd n s).bind fun s => .ret (.nx (E s)) := by
    intro n
    induction n with
    | zero => intro s; rfl
    | succ n ih =>
      intro s
      simp only [evWh, whM, hc, bind_assoc]
      congr 1
      funext t
      cases t
      · simp only [Bool.false_eq_true, if_false, tr_ret]
      · simp only [if_true]
        rw [← mk_go, hb]
        simp only [bind_assoc, tr_ret, go_nx, ih]
  exact key WN s0
end
mutual
/-- the same things of the same kinds -/
def eqS : T → T → Bool
  | .non, .non => true
  | .bl a, .bl b => a == b
  | .int a, .int b => a == b
  | .str a, .str b => a == b
  | .tup a, .tup b => eqSs a b
  | _, _ => false
def eqSs : List T → List T → Bool
  | [], [] => true
  | x :: xs, y :: ys => eqS x y && eqSs xs ys
  | _, _ => false
end
mutual
/-- made of tuples, texts and the like, not too deep -/
def puN : Nat → T → Bool
  | _, .non => true
  | _, .bl _ => true
  | _, .int _ => true
  | _, .str _ => true
  | n + 1, .tup ts => puNs n ts
  | _, _ => false
def puNs : Nat → List T → Bool
  | _, [] => true
  | n, t :: ts => puN n t && puNs n ts
end
theorem pn1 (n : Nat) : puN n .non = true := by cases n <;> simp [puN]
theorem pn2 (n : Nat) (b : Bool) : puN n (.bl b) = true := by cases n <;> simp [puN]
theorem pn3 (n : Nat) (i : Int) : puN n (.int i) = true := by cases n <;> simp [puN]
theorem pn4 (n : Nat) (s : Sg) : puN n (.str s) = true := by cases n <;> simp [puN]
theorem pn5 (n : Nat) (ts : List T) : puN (n + 1) (.tup ts) = puNs n ts := by simp [puN]
theorem pn7 (n : Nat) : puNs n [] = true := by simp [puNs]
theorem pn8 (n : Nat) (t : T) (ts : List T) : puNs n (t :: ts) = (puN n t && puNs n ts) := by simp [puNs]
theorem pn9 {α : Type} (n : Nat) {e : α → T} : ∀ xs : List α, puNs n (xs.map e) = xs.all fun a => puN n (e a)
  | [] => by simp [puNs]
  | x :: xs => by simp only [List.map_cons, puNs, pn9 n xs, List.all_cons]
theorem pn10 (n : Nat) : ∀ xs ys : List T, puNs n (xs ++ ys) = (puNs n xs && puNs n ys)
  | [], ys => by simp [puNs]
  | x :: xs, ys => by simp only [List.cons_append, puNs, pn10 n xs, Bool.and_assoc]
end Mo

local macro_rules
  | `(tactic| simp_arith [$xs,*]) => `(tactic| simp only [Mo.evE, Mo.evEs, Mo.evO, Mo.evL, Mo.evLs, Mo.evR, Mo.evIf, Mo.occE, Mo.occEs, Mo.occO, Mo.occL, Mo.occLs, Mo.occR, Mo.pub1, Mo.mask, Mo.fin_nx, Mo.fin_rt, Mo.go_nx, Mo.go_rt, Mo.bn1, Mo.bn2, Mo.bn7, Mo.bn8, Mo.bn9, Mo.bn10, Mo.bn11, Mo.tu1, Mo.tu2, Mo.tu3, Mo.tu4, Mo.tu5, Mo.tu6, Mo.cm1, Mo.cm2, Mo.cm3, Mo.cm4, Mo.cm5, Mo.cm6, Mo.cm7, Mo.cm8, Mo.cm9, Mo.cm10, Mo.in1, Mo.in2, Mo.in3, Mo.in4, Mo.in5, Mo.in6, Mo.in7, Mo.ind1, Mo.ko1, Mo.ko2, Mo.ko3, Mo.at1, Mo.at2, Mo.dc1, Mo.gd1, Mo.eq1, Mo.eq2, Mo.eq3, Mo.eq7, Mo.eq8, Mo.lt1, Mo.lt2, Mo.le1, Mo.le2, Mo.gt1, Mo.ge1, Mo.ix1, Mo.ix2, Mo.ix4, Mo.ix3, Mo.sl1, Mo.sl2, Mo.sl3, Mo.rv2, Mo.rv1, Mo.is1, Mo.is2, Mo.is3, Mo.is4, Mo.is5, Mo.is6, Mo.is7, Mo.is8, Mo.is9, Mo.is10, Mo.is11, Mo.is12, Mo.is13, Mo.is14, Mo.is15, Mo.is16, Mo.is17, Mo.is18, Mo.ln1, Mo.ln2, Mo.ln3, Mo.bi1, Mo.bi2, Mo.bi3, Mo.bi4, Mo.bi6, Mo.bi7, Mo.bi8, Mo.sq1, Mo.sq2, Mo.id1, Mo.sd1, Mo.ld1, Mo.ld2, Mo.im1, Mo.ad1, Mo.ad2, Mo.ad3, Mo.ad4, Mo.ad5, Mo.as1, Mo.as2, Mo.as3, Mo.as4, Mo.as5, Mo.li1, Mo.li2, Mo.li3, Mo.li4, Mo.li5, Mo.li6, Mo.li7, Mo.li8, Mo.jo1, Mo.zi1, Mo.zi2, Mo.cl1, Mo.cl2, Mo.cl3, Mo.sf1, Mo.sf2, Mo.sf3, Mo.ke1, Mo.ke2, Mo.ke3, Mo.pb1, Mo.pb2, Mo.pb3, Mo.pb4, Mo.vi1, Mo.vi2, Mo.vi3, Mo.vi4, Mo.vi5, Mo.pu1, Mo.pu2, Mo.wi1, Mo.wi2, Mo.ss1, Mo.il1, Mo.il2, Mo.il3, Mo.il4, Mo.pt1, Mo.pt2, Mo.pt3, Mo.pt4, Mo.pt5, Mo.pt6, Mo.pt9, Mo.pt7, Mo.pt8, Mo.pureTs_map, Mo.et_var, Mo.et_int, Mo.et_str, Mo.et_bl, Mo.et_non, Mo.et_glob, Mo.et_fnv, Mo.et_bin, Mo.et_neg, Mo.et_cmp, Mo.et_chain, Mo.et_tup, Mo.et_new, Mo.et_idx, Mo.et_slc, Mo.et_rev, Mo.et_call, Mo.et_callv, Mo.et_bi, Mo.et_isi, Mo.et_li, Mo.et_join, Mo.et_not, Mo.et_and, Mo.et_or, Mo.et_ite, Mo.ef_var, Mo.ef_int, Mo.ef_str, Mo.ef_bl, Mo.ef_non, Mo.ef_glob, Mo.ef_fnv, Mo.ef_neg, Mo.ef_cmp, Mo.ef_chain, Mo.ef_tup, Mo.ef_idx, Mo.ef_callv, Mo.ef_bi, Mo.ef_isi, Mo.ef_join, Mo.ef_not, Mo.ef_and, Mo.ef_or, Mo.ef_ite, Mo.ef_sub, Mo.ef_fdiv, Mo.ef_mod, Mo.ef_pow, Mo.ef_tuple, Mo.ef_sum, Mo.ef_all, Mo.ef_any, Mo.ef_max, Mo.ef_min, Mo.ef_len, Mo.ef_dict, Mo.ef_dnew, Mo.ef_me, Mo.et_me, Mo.ef_new, Mo.ef_call, Mo.ef_list, Mo.ef_add, Mo.ef_mul, Mo.ef_slc, Mo.ef_rev, Mo.atT_0, Mo.atT_1, Mo.atT_2, Mo.atT_3, Mo.fr_nx, Mo.fr_rt, Mo.sv_assoc, Mo.sv_ret, Mo.sv_fail, Mo.sv_exc, Mo.sv_some, Mo.sv_none, Mo.sv_omap, Mo.sv_obind, Mo.sv_chkT, Mo.sv_chkTT, Mo.sv_itf, Mo.sv_fit, Mo.sv_oif, Mo.sv_ne_bind, Mo.sv_ne_ret, Mo.sv_ne_fail, Mo.sv_ne_ofO, Mo.sv_ne_chk, Mo.sv_ne_drw, Mo.sv_ne_mul, Mo.sv_ne_div, Mo.sv_ne_mod, Mo.sv_ne_pow, Mo.sv_ne_rng1, Mo.sv_ne_rng2, Mo.sv_ne_repr, Mo.sv_ne2, Mo.co_n, Mo.co_c, Mo.coM_n, Mo.coM_c, Mo.coA_n, Mo.coA_c, Mo.coC_n, Mo.coC_c, Mo.co_s, Mo.co_0, Mo.sv_ne_coA, Mo.sv_ne_if, Mo.sv_andT, Mo.sv_orT, Mo.sv_andE, Mo.sv_andF, Mo.sv_orE, Mo.sv_at, Mo.sv_cut, Mo.sv_rep, Mo.sv_len, Mo.sv_mapmap, Mo.sv_mapapp, Mo.sv_mapset, Mo.sv_maprev, Mo.sv_mapdl, Mo.sv_mapcons, Mo.sv_mapnil, Mo.sv_mapid, Mo.sv_emp, Mo.sv_any, Mo.sv_all, Mo.sv_allt, Mo.sv_cutlen, Mo.sv_replen, Mo.sv_setlen, Mo.sv_revlen, Mo.sv_all0, Mo.sv_all1, Mo.sv_any0, Mo.sv_any1, Mo.sv_enum, Mo.sv_enum', Mo.sv_rng1, Mo.sv_rng2, Mo.sv_zip2, Mo.sv_zip3, Mo.sv_ints, Mo.sv_bls, Mo.sv_strs, Mo.sv_ints0, Mo.sv_bls0, Mo.sv_strs0, Mo.sv_coM, Mo.sv_coMM, Mo.sv_coSome, Mo.sv_coIf, Mo.ok1, Mo.ok2, Mo.ok3, Mo.ok4, Mo.ok5, Mo.ok6, Mo.ok7, Mo.ok8, Mo.ok9, Mo.ok10, Mo.sv_eqt, Mo.sv_eql, Mo.eqt1, Mo.eqt2, Mo.eqt3, Mo.eqt4, Mo.eqt5, Mo.eqt6, Mo.eqt7, Mo.eqts0, Mo.eqts1, Mo.eqts2, Mo.eqts3, Mo.eqtsM, Mo.eqtsE, Mo.sv_inl, Mo.sv_int, Mo.sv_mul, Mo.sv_div, Mo.sv_mod, Mo.sv_pow, Mo.sv_repr, Mo.sv_eta, Mo.sv_pick, Mo.sv_ib, Mo.le_sz0, Mo.le_sz1, Mo.le_sz2, Mo.le_sz3, Mo.le_sz4, Mo.le_sz5, Mo.le_sz6, Mo.le_sz7, Mo.le_sz8, Mo.le_sz9, Mo.le_sz10, Mo.le_sz11, Mo.le_sz12, Mo.le_sz13, Mo.le_sz14, Mo.le_sz15, Mo.le_sz16, Mo.le_sz17, Mo.le_sz18, Mo.le_sz19, Mo.le_sz20, Mo.le_sz21, Mo.le_sz22, Mo.le_sz23, Mo.le_sz24, Mo.le_sz25, Mo.le_sz26, Mo.le_sz27, Mo.le_sz28, Mo.le_sz29, Mo.le_sz30, Mo.le_sz31, Mo.le_sz32, Mo.le_sz33, Mo.le_sz34, Mo.le_sz35, Mo.le_sz36, Mo.le_sz37, Mo.le_sz38, Mo.le_sz39, Mo.le_sz40, Mo.sv_getDm, Mo.sv_getDi, Mo.sv_isS, Mo.sv_zwp, Mo.es_set, Mo.es_setT, Mo.es_par, Mo.es_sub, Mo.sb1, Mo.sb2, Mo.es_app, Mo.ap1, Mo.es_pop, Mo.po1, Mo.es_aug, Mo.au1, Mo.au2, Mo.au3, Mo.au4, Mo.es_retv, Mo.rt1, Mo.rt2, Mo.rt3, Mo.es_ret0, Mo.er_int, Mo.ex_int, Mo.er_str, Mo.ex_str, Mo.er_bl, Mo.ex_bl, Mo.er_non, Mo.ex_non, Mo.er_glob, Mo.ex_glob, Mo.er_fnv, Mo.ex_fnv, Mo.er_bin, Mo.ex_bin, Mo.er_neg, Mo.ex_neg, Mo.er_not, Mo.ex_not, Mo.er_and, Mo.ex_and, Mo.er_or, Mo.ex_or, Mo.er_ite, Mo.ex_ite, Mo.er_cmp, Mo.ex_cmp, Mo.er_chain, Mo.ex_chain, Mo.er_tup, Mo.ex_tup, Mo.er_new, Mo.ex_new, Mo.er_idx, Mo.ex_idx, Mo.er_slc, Mo.ex_slc, Mo.er_rev, Mo.ex_rev, Mo.er_call, Mo.ex_call, Mo.er_callv, Mo.ex_callv, Mo.er_bi, Mo.ex_bi, Mo.er_isi, Mo.ex_isi, Mo.er_li, Mo.ex_li, Mo.er_join, Mo.ex_join, Mo.er_dnew, Mo.ex_dnew, Mo.er_me, Mo.es_pass, Mo.gd0, Mo.gd_s, Mo.gd_n, Mo.set0, Mo.set_s, Mo.lc, Mo.ln0, Mo.lap, Mo.ca, Mo.na, Mo.an, Mo.ct0, Mo.ct1, Mo.b1, Mo.b2, Mo.b3, Mo.b4, Mo.b5, Mo.b6, Mo.b7, Mo.b8, Mo.b9, Mo.it1, Mo.it2, Mo.it3, Mo.it4, Mo.it4f, Mo.it4g, Mo.it5, Mo.it6, Mo.it7, Mo.it8, Mo.om1, Mo.om2, Mo.ob1, Mo.ob2, Mo.comp1, Mo.sv_keepset, Mo.mk_nx, Mo.mk_rt, Mo.pn1, Mo.pn2, Mo.pn3, Mo.pn4, Mo.pn5, Mo.pn7, Mo.pn8, Mo.pn9, Mo.pn10, $xs,*])
  | `(tactic| simp_arith [$xs,*] at $h:ident) => `(tactic| simp only [Mo.evE, Mo.evEs, Mo.evO, Mo.evL, Mo.evLs, Mo.evR, Mo.evIf, Mo.occE, Mo.occEs, Mo.occO, Mo.occL, Mo.occLs, Mo.occR, Mo.pub1, Mo.mask, Mo.fin_nx, Mo.fin_rt, Mo.go_nx, Mo.go_rt, Mo.bn1, Mo.bn2, Mo.bn7, Mo.bn8, Mo.bn9, Mo.bn10, Mo.bn11, Mo.tu1, Mo.tu2, Mo.tu3, Mo.tu4, Mo.tu5, Mo.tu6, Mo.cm1, Mo.cm2, Mo.cm3, Mo.cm4, Mo.cm5, Mo.cm6, Mo.cm7, Mo.cm8, Mo.cm9, Mo.cm10, Mo.in1, Mo.in2, Mo.in3, Mo.in4, Mo.in5, Mo.in6, Mo.in7, Mo.ind1, Mo.ko1, Mo.ko2, Mo.ko3, Mo.at1, Mo.at2, Mo.dc1, Mo.gd1, Mo.eq1, Mo.eq2, Mo.eq3, Mo.eq7, Mo.eq8, Mo.lt1, Mo.lt2, Mo.le1, Mo.le2, Mo.gt1, Mo.ge1, Mo.ix1, Mo.ix2, Mo.ix4, Mo.ix3, Mo.sl1, Mo.sl2, Mo.sl3, Mo.rv2, Mo.rv1, Mo.is1, Mo.is2, Mo.is3, Mo.is4, Mo.is5, Mo.is6, Mo.is7, Mo.is8, Mo.is9, Mo.is10, Mo.is11, Mo.is12, Mo.is13, Mo.is14, Mo.is15, Mo.is16, Mo.is17, Mo.is18, Mo.ln1, Mo.ln2, Mo.ln3, Mo.bi1, Mo.bi2, Mo.bi3, Mo.bi4, Mo.bi6, Mo.bi7, Mo.bi8, Mo.sq1, Mo.sq2, Mo.id1, Mo.sd1, Mo.ld1, Mo.ld2, Mo.im1, Mo.ad1, Mo.ad2, Mo.ad3, Mo.ad4, Mo.ad5, Mo.as1, Mo.as2, Mo.as3, Mo.as4, Mo.as5, Mo.li1, Mo.li2, Mo.li3, Mo.li4, Mo.li5, Mo.li6, Mo.li7, Mo.li8, Mo.jo1, Mo.zi1, Mo.zi2, Mo.cl1, Mo.cl2, Mo.cl3, Mo.sf1, Mo.sf2, Mo.sf3, Mo.ke1, Mo.ke2, Mo.ke3, Mo.pb1, Mo.pb2, Mo.pb3, Mo.pb4, Mo.vi1, Mo.vi2, Mo.vi3, Mo.vi4, Mo.vi5, Mo.pu1, Mo.pu2, Mo.wi1, Mo.wi2, Mo.ss1, Mo.il1, Mo.il2, Mo.il3, Mo.il4, Mo.pt1, Mo.pt2, Mo.pt3, Mo.pt4, Mo.pt5, Mo.pt6, Mo.pt9, Mo.pt7, Mo.pt8, Mo.pureTs_map, Mo.et_var, Mo.et_int, Mo.et_str, Mo.et_bl, Mo.et_non, Mo.et_glob, Mo.et_fnv, Mo.et_bin, Mo.et_neg, Mo.et_cmp, Mo.et_chain, Mo.et_tup, Mo.et_new, Mo.et_idx, Mo.et_slc, Mo.et_rev, Mo.et_call, Mo.et_callv, Mo.et_bi, Mo.et_isi, Mo.et_li, Mo.et_join, Mo.et_not, Mo.et_and, Mo.et_or, Mo.et_ite, Mo.ef_var, Mo.ef_int, Mo.ef_str, Mo.ef_bl, Mo.ef_non, Mo.ef_glob, Mo.ef_fnv, Mo.ef_neg, Mo.ef_cmp, Mo.ef_chain, Mo.ef_tup, Mo.ef_idx, Mo.ef_callv, Mo.ef_bi, Mo.ef_isi, Mo.ef_join, Mo.ef_not, Mo.ef_and, Mo.ef_or, Mo.ef_ite, Mo.ef_sub, Mo.ef_fdiv, Mo.ef_mod, Mo.ef_pow, Mo.ef_tuple, Mo.ef_sum, Mo.ef_all, Mo.ef_any, Mo.ef_max, Mo.ef_min, Mo.ef_len, Mo.ef_dict, Mo.ef_dnew, Mo.ef_me, Mo.et_me, Mo.ef_new, Mo.ef_call, Mo.ef_list, Mo.ef_add, Mo.ef_mul, Mo.ef_slc, Mo.ef_rev, Mo.atT_0, Mo.atT_1, Mo.atT_2, Mo.atT_3, Mo.fr_nx, Mo.fr_rt, Mo.sv_assoc, Mo.sv_ret, Mo.sv_fail, Mo.sv_exc, Mo.sv_some, Mo.sv_none, Mo.sv_omap, Mo.sv_obind, Mo.sv_chkT, Mo.sv_chkTT, Mo.sv_itf, Mo.sv_fit, Mo.sv_oif, Mo.sv_ne_bind, Mo.sv_ne_ret, Mo.sv_ne_fail, Mo.sv_ne_ofO, Mo.sv_ne_chk, Mo.sv_ne_drw, Mo.sv_ne_mul, Mo.sv_ne_div, Mo.sv_ne_mod, Mo.sv_ne_pow, Mo.sv_ne_rng1, Mo.sv_ne_rng2, Mo.sv_ne_repr, Mo.sv_ne2, Mo.co_n, Mo.co_c, Mo.coM_n, Mo.coM_c, Mo.coA_n, Mo.coA_c, Mo.coC_n, Mo.coC_c, Mo.co_s, Mo.co_0, Mo.sv_ne_coA, Mo.sv_ne_if, Mo.sv_andT, Mo.sv_orT, Mo.sv_andE, Mo.sv_andF, Mo.sv_orE, Mo.sv_at, Mo.sv_cut, Mo.sv_rep, Mo.sv_len, Mo.sv_mapmap, Mo.sv_mapapp, Mo.sv_mapset, Mo.sv_maprev, Mo.sv_mapdl, Mo.sv_mapcons, Mo.sv_mapnil, Mo.sv_mapid, Mo.sv_emp, Mo.sv_any, Mo.sv_all, Mo.sv_allt, Mo.sv_cutlen, Mo.sv_replen, Mo.sv_setlen, Mo.sv_revlen, Mo.sv_all0, Mo.sv_all1, Mo.sv_any0, Mo.sv_any1, Mo.sv_enum, Mo.sv_enum', Mo.sv_rng1, Mo.sv_rng2, Mo.sv_zip2, Mo.sv_zip3, Mo.sv_ints, Mo.sv_bls, Mo.sv_strs, Mo.sv_ints0, Mo.sv_bls0, Mo.sv_strs0, Mo.sv_coM, Mo.sv_coMM, Mo.sv_coSome, Mo.sv_coIf, Mo.ok1, Mo.ok2, Mo.ok3, Mo.ok4, Mo.ok5, Mo.ok6, Mo.ok7, Mo.ok8, Mo.ok9, Mo.ok10, Mo.sv_eqt, Mo.sv_eql, Mo.eqt1, Mo.eqt2, Mo.eqt3, Mo.eqt4, Mo.eqt5, Mo.eqt6, Mo.eqt7, Mo.eqts0, Mo.eqts1, Mo.eqts2, Mo.eqts3, Mo.eqtsM, Mo.eqtsE, Mo.sv_inl, Mo.sv_int, Mo.sv_mul, Mo.sv_div, Mo.sv_mod, Mo.sv_pow, Mo.sv_repr, Mo.sv_eta, Mo.sv_pick, Mo.sv_ib, Mo.le_sz0, Mo.le_sz1, Mo.le_sz2, Mo.le_sz3, Mo.le_sz4, Mo.le_sz5, Mo.le_sz6, Mo.le_sz7, Mo.le_sz8, Mo.le_sz9, Mo.le_sz10, Mo.le_sz11, Mo.le_sz12, Mo.le_sz13, Mo.le_sz14, Mo.le_sz15, Mo.le_sz16, Mo.le_sz17, Mo.le_sz18, Mo.le_sz19, Mo.le_sz20, Mo.le_sz21, Mo.le_sz22, Mo.le_sz23, Mo.le_sz24, Mo.le_sz25, Mo.le_sz26, Mo.le_sz27, Mo.le_sz28, Mo.le_sz29, Mo.le_sz30, Mo.le_sz31, Mo.le_sz32, Mo.le_sz33, Mo.le_sz34, Mo.le_sz35, Mo.le_sz36, Mo.le_sz37, Mo.le_sz38, Mo.le_sz39, Mo.le_sz40, Mo.sv_getDm, Mo.sv_getDi, Mo.sv_isS, Mo.sv_zwp, Mo.es_set, Mo.es_setT, Mo.es_par, Mo.es_sub, Mo.sb1, Mo.sb2, Mo.es_app, Mo.ap1, Mo.es_pop, Mo.po1, Mo.es_aug, Mo.au1, Mo.au2, Mo.au3, Mo.au4, Mo.es_retv, Mo.rt1, Mo.rt2, Mo.rt3, Mo.es_ret0, Mo.er_int, Mo.ex_int, Mo.er_str, Mo.ex_str, Mo.er_bl, Mo.ex_bl, Mo.er_non, Mo.ex_non, Mo.er_glob, Mo.ex_glob, Mo.er_fnv, Mo.ex_fnv, Mo.er_bin, Mo.ex_bin, Mo.er_neg, Mo.ex_neg, Mo.er_not, Mo.ex_not, Mo.er_and, Mo.ex_and, Mo.er_or, Mo.ex_or, Mo.er_ite, Mo.ex_ite, Mo.er_cmp, Mo.ex_cmp, Mo.er_chain, Mo.ex_chain, Mo.er_tup, Mo.ex_tup, Mo.er_new, Mo.ex_new, Mo.er_idx, Mo.ex_idx, Mo.er_slc, Mo.ex_slc, Mo.er_rev, Mo.ex_rev, Mo.er_call, Mo.ex_call, Mo.er_callv, Mo.ex_callv, Mo.er_bi, Mo.ex_bi, Mo.er_isi, Mo.ex_isi, Mo.er_li, Mo.ex_li, Mo.er_join, Mo.ex_join, Mo.er_dnew, Mo.ex_dnew, Mo.er_me, Mo.es_pass, Mo.gd0, Mo.gd_s, Mo.gd_n, Mo.set0, Mo.set_s, Mo.lc, Mo.ln0, Mo.lap, Mo.ca, Mo.na, Mo.an, Mo.ct0, Mo.ct1, Mo.b1, Mo.b2, Mo.b3, Mo.b4, Mo.b5, Mo.b6, Mo.b7, Mo.b8, Mo.b9, Mo.it1, Mo.it2, Mo.it3, Mo.it4, Mo.it4f, Mo.it4g, Mo.it5, Mo.it6, Mo.it7, Mo.it8, Mo.om1, Mo.om2, Mo.ob1, Mo.ob2, Mo.comp1, Mo.sv_keepset, Mo.mk_nx, Mo.mk_rt, Mo.pn1, Mo.pn2, Mo.pn3, Mo.pn4, Mo.pn5, Mo.pn7, Mo.pn8, Mo.pn9, Mo.pn10, $xs,*] at $h:ident)

set_option Elab.async false
set_option linter.all false
set_option maxRecDepth 100000
set_option maxHeartbeats 1000000
set_option autoImplicit false
namespace Mo
open PySem PyProof.Rows
def S_next (Γ : Pg) (i : Nat) : Prop := ∀ (k : Nat) (m : Int), 1 ≤ k → evCall Γ k i [.ref 0, .int m] = (drw m).bind fun r => .ret (false, .int r)
end Mo

set_option Elab.async false
set_option linter.all false
set_option maxRecDepth 100000
set_option autoImplicit false
/-! MoHo: what a typed run comes to, by its parts. -/
namespace Mo
section
variable {α β σ ρ : Type} {E : Ex → Prop}
theorem hbind {P : β → Prop} {t : Tr α} {f : α → Tr β} : (t.bind f).all E P ↔ t.all E fun a => (f a).all E P := all_bind t
theorem hcut {P : β → Prop} {t : Tr α} {f : α → Tr β} {Q : α → Prop} (h : t.all E Q) (k : ∀ a, Q a → (f a).all E P) : (t.bind f).all E P := (all_bind t).mpr (all_mono k t h)
theorem bret (t : Tr α) : (t.bind fun a => Tr.ret a) = t := bind_ret t
theorem hret {P : α → Prop} {a : α} : (Tr.ret a).all E P ↔ P a := Iff.rfl
theorem hdrw {P : Int → Prop} {m : Int} : (drw m).all E P ↔ drawOk m ∧ ∀ r, 0 ≤ r → r < m → P r := Iff.rfl
theorem hchk {P : Unit → Prop} {c : Prop} [Decidable c] : (chk c).all E P ↔ c ∧ P () := by
  unfold chk
  split
  · rename_i h; exact ⟨fun p => ⟨h, p⟩, fun p => p.2⟩
  · rename_i h; exact ⟨fun p => p.elim, fun p => absurd p.1 h⟩
theorem hmul {P : Int → Prop} {i j : Int} : (mulI i j).all E P ↔ mulOk i j ∧ P (i * j) := by unfold mulI; rw [hbind, hchk, hret]
theorem hdiv {P : Int → Prop} {i j : Int} : (divI i j).all E P ↔ divOk j ∧ P (i / j) := by unfold divI; rw [hbind, hchk, hret]
theorem hmod {P : Int → Prop} {i j : Int} : (modI i j).all E P ↔ 0 < j ∧ P (i % j) := by unfold modI; rw [hbind, hchk, hret]
theorem hpow {P : Int → Prop} {i j : Int} : (powI i j).all E P ↔ (0 ≤ j ∧ j ≤ 1000 ∧ i.natAbs < 2 ^ 64) ∧ P (i ^ j.toNat) := by unfold powI; rw [hbind, hchk, hret]
theorem hrng1 {P : List Int → Prop} {n : Int} : (rng1 n).all E P ↔ (-1000000 ≤ n ∧ n ≤ 16777216) ∧ P (rngI 0 n) := by unfold rng1; rw [hbind, hchk, hret]
theorem hrng2 {P : List Int → Prop} {m n : Int} : (rng2 m n).all E P ↔ (-1000000 ≤ m ∧ m ≤ 16777216 ∧ -1000000 ≤ n ∧ n ≤ 16777216 ∧ n - m ≤ 16777216) ∧ P (rngI m n) := by unfold rng2; rw [hbind, hchk, hret]
theorem hofO {P : α → Prop} {o : Option α} : (Tr.ofO o).all E P ↔ ∃ a, o = some a ∧ P a := by
  cases o with
  | none => exact ⟨fun h => h.elim, fun ⟨_, h, _⟩ => by cases h⟩
  | some a => exact ⟨fun h => ⟨a, rfl, h⟩, fun ⟨_, h, p⟩ => by cases h; exact p⟩
theorem hif {P : α → Prop} {c : Prop} [Decidable c] {a b : Tr α} : (if c then a else b).all E P ↔ (c → a.all E P) ∧ (¬ c → b.all E P) := by
  split
  · rename_i h; exact ⟨fun p => ⟨fun _ => p, fun q => absurd h q⟩, fun p => p.1 h⟩
  · rename_i h; exact ⟨fun p => ⟨fun q => absurd q h, fun _ => p⟩, fun p => p.2 h⟩
theorem chk_ok {c : Prop} [Decidable c] (h : c) : chk c = .ret () := if_pos h
theorem mul_ok {i j : Int} (h : mulOk i j) : mulI i j = .ret (i * j) := by unfold mulI; rw [chk_ok h]; rfl
theorem mul_le {i j : Int} (h : -(10 ^ 100) ≤ i ∧ i ≤ 10 ^ 100) (h2 : -(10 ^ 100) ≤ j ∧ j ≤ 10 ^ 100) : mulI i j = .ret (i * j) := by
  refine mul_ok ⟨?_, ?_⟩
  · exact Nat.lt_of_le_of_lt (m := 10 ^ 100) (by omega) (by unfold MB; decide +kernel)
  · exact Nat.lt_of_le_of_lt (m := 10 ^ 100) (by omega) (by unfold MB; decide +kernel)
theorem mOk' {i j : Int} (h : -(10 ^ 100) ≤ i ∧ i ≤ 10 ^ 100) (h2 : -(10 ^ 100) ≤ j ∧ j ≤ 10 ^ 100) : mulOk i j :=
  ⟨Nat.lt_of_le_of_lt (m := 10 ^ 100) (by omega) (by unfold MB; decide +kernel), Nat.lt_of_le_of_lt (m := 10 ^ 100) (by omega) (by unfold MB; decide +kernel)⟩
theorem dOk' {m : Int} (h : 1 ≤ m) (h2 : m ≤ 10 ^ 100) : drawOk m := ⟨h, Int.lt_of_le_of_lt h2 (by decide +kernel)⟩
theorem rng1_ok {n : Int} (h : -1000000 ≤ n ∧ n ≤ 16777216) : rng1 n = .ret (rngI 0 n) := by unfold rng1; rw [chk_ok h]; rfl
theorem rng2_ok {m n : Int} (h : -1000000 ≤ m ∧ m ≤ 16777216 ∧ -1000000 ≤ n ∧ n ≤ 16777216 ∧ n - m ≤ 16777216) : rng2 m n = .ret (rngI m n) := by unfold rng2; rw [chk_ok h]; rfl
theorem mem_rngI {lo hi x : Int} : x ∈ rngI lo hi ↔ lo ≤ x ∧ x < hi := by
  unfold rngI
  simp only [List.mem_map, List.mem_range]
  constructor
  · rintro ⟨i, h, rfl⟩; simp; omega
  · intro h; exact ⟨(x - lo).toNat, by omega, by simp; omega⟩
theorem len_rngI (lo hi : Int) : (rngI lo hi).length = (hi - lo).toNat := by unfold rngI; simp
theorem get_rngI {lo hi : Int} {i : Nat} (h : i < (hi - lo).toNat) : (rngI lo hi)[i]? = some (lo + i) := by
  unfold rngI
  rw [List.getElem?_map, List.getElem?_range h]; rfl
theorem rngI_nil {lo hi : Int} (h : hi ≤ lo) : rngI lo hi = [] := by
  unfold rngI; rw [show (hi - lo).toNat = 0 by omega]; rfl
theorem rngI_snoc {lo hi : Int} (h : lo ≤ hi) : rngI lo (hi + 1) = rngI lo hi ++ [hi] := by
  unfold rngI
  rw [show (hi + 1 - lo).toNat = (hi - lo).toNat + 1 by omega, List.range_succ, List.map_append]
  simp; omega
theorem rngI_cons {lo hi : Int} (h : lo < hi) : rngI lo hi = lo :: rngI (lo + 1) hi := by
  unfold rngI
  rw [show (hi - lo).toNat = (hi - (lo + 1)).toNat + 1 by omega, List.range_succ_eq_map, List.map_cons, List.map_map]
  congr 1
  · simp
  · refine List.map_congr_left fun i _ => ?_
    simp; omega
/-! things by place -/
theorem at_nat {xs : List α} {i : Int} (h0 : 0 ≤ i) (h1 : i < xs.length) : atT xs i = some (xs[i.toNat]'(by omega)) := by
  unfold atT
  rw [if_pos h0, List.getElem?_eq_getElem]
theorem at_mem' {xs : List α} {i : Int} (h0 : 0 ≤ i) (h1 : i < xs.length) : ∃ a ∈ xs, atT xs i = some a := ⟨_, List.getElem_mem _, at_nat h0 h1⟩
theorem at_in {xs : List α} {i : Int} {a : α} (h : atT xs i = some a) : a ∈ xs := by
  unfold atT at h
  split at h
  · exact List.mem_of_getElem? h
  · split at h
    · exact List.mem_of_getElem? h
    · cases h
/-! loops -/
theorem hforM {P : σ → Prop} (I : Nat → σ → Prop) {xs : List α} {s0 : σ} {f : α → σ → Tr σ} (h0 : I 0 s0) (h : ∀ i a s, xs[i]? = some a → I i s → (f a s).all E (I (i + 1))) (hn : ∀ s, I xs.length s → P s) : (forM xs s0 f).all E P := by
  have key : ∀ (ys : List α) (j : Nat) (s : σ), (∀ i, ys[i]? = xs[j + i]?) → j + ys.length = xs.length → I j s → (forM ys s f).all E P := by
    intro ys
    induction ys with
    | nil => intro j s _ hl hi; exact hn s (by rw [← hl]; exact hi)
    | cons y ys ih =>
      intro j s hy hl hi
      simp only [forM, hbind]
      refine all_mono (fun s' hs => ?_) _ (h j y s (by rw [← Nat.add_zero j, ← hy 0]; rfl) hi)
      exact ih (j + 1) _ (fun i => by rw [Nat.add_assoc, Nat.add_comm 1 i, ← hy (i + 1)]; rfl) (by rw [← hl, List.length_cons]; omega) hs
  exact key xs 0 s0 (fun i => by rw [Nat.zero_add]) (by omega) h0
theorem hforM' {P : σ → Prop} (I : σ → Prop) {xs : List α} {s0 : σ} {f : α → σ → Tr σ} (h0 : I s0) (h : ∀ a ∈ xs, ∀ s, I s → (f a s).all E I) (hn : ∀ s, I s → P s) : (forM xs s0 f).all E P :=
  hforM (fun _ => I) h0 (fun i a s e hi => h a (List.mem_of_getElem? e) s hi) hn
theorem hforR {P : Fr ρ σ → Prop} (I : σ → Prop) {xs : List α} {s0 : σ} {f : α → σ → Tr (Fr ρ σ)} (h0 : I s0) (h : ∀ a ∈ xs, ∀ s, I s → (f a s).all E fun r => r.elim (fun v => P (.rt v)) I) (hn : ∀ s, I s → P (.nx s)) : (forR xs s0 f).all E P := by
  induction xs generalizing s0 with
  | nil => exact hn _ h0
  | cons x xs ih =>
    simp only [forR, hbind]
    refine all_mono (fun r hr => ?_) _ (h x (.head _) s0 h0)
    cases r with
    | nx s => exact ih hr fun a ha => h a (.tail _ ha)
    | rt v => exact hr
theorem forM_fold {xs : List α} {s0 : σ} {f : α → σ → Tr σ} (g : σ → α → σ) (I : Nat → σ → Prop) (h0 : I xs.length s0) (h : ∀ a ∈ xs, ∀ n s, I (n + 1) s → f a s = .ret (g s a) ∧ I n (g s a)) : forM xs s0 f = .ret (xs.foldl g s0) ∧ I 0 (xs.foldl g s0) := by
  induction xs generalizing s0 with
  | nil => exact ⟨rfl, h0⟩
  | cons x xs ih =>
    obtain ⟨h1, h2⟩ := h x (.head _) xs.length s0 h0
    simp only [forM, h1, tr_ret, List.foldl_cons]
    exact ih h2 fun a ha => h a (.tail _ ha)
theorem forM_foldl {xs : List α} {s0 : σ} {f : α → σ → Tr σ} (g : σ → α → σ) (h : ∀ a ∈ xs, ∀ s, f a s = .ret (g s a)) : forM xs s0 f = .ret (xs.foldl g s0) :=
  (forM_fold g (fun _ _ => True) trivial fun a ha _ s _ => ⟨h a ha s, trivial⟩).1
/-- a loop that adds to a list -/
theorem forM_add {xs : List α} {l0 : List β} {f : α → List β → Tr (List β)} (h : α → List β) (c : Nat) (hz : l0.length + c * xs.length ≤ SZ) (hc : ∀ a ∈ xs, (h a).length ≤ c) (hf : ∀ a ∈ xs, ∀ l, l.length + c ≤ SZ → f a l = .ret (l ++ h a)) : forM xs l0 f = .ret (l0 ++ xs.flatMap h) := by
  induction xs generalizing l0 with
  | nil => simp [forM]
  | cons x xs ih =>
    rw [List.length_cons, Nat.mul_add] at hz
    have e := hf x (.head _) l0 (by omega)
    simp only [forM, e, tr_ret, List.flatMap_cons]
    rw [ih (by rw [List.length_append]; have := hc x (.head _); omega) (fun a ha => hc a (.tail _ ha)) fun a ha => hf a (.tail _ ha), List.append_assoc]
theorem forM_map {xs : List α} {l0 : List β} {f : α → List β → Tr (List β)} (g : α → β) (hz : l0.length + xs.length ≤ SZ) (hf : ∀ a ∈ xs, ∀ l, l.length < SZ → f a l = .ret (l ++ [g a])) : forM xs l0 f = .ret (l0 ++ xs.map g) := by
  rw [forM_add (fun a => [g a]) 1 (by omega) (fun _ _ => Nat.le_refl 1) fun a ha l hl => hf a ha l (by omega)]
  congr 2
  exact flat1 xs
theorem forM_filter {xs : List α} {l0 : List β} {f : α → List β → Tr (List β)} (p : α → Bool) (g : α → β) (hz : l0.length + xs.length ≤ SZ) (hf : ∀ a ∈ xs, ∀ l, l.length < SZ → f a l = .ret (if p a = true then l ++ [g a] else l)) : forM xs l0 f = .ret (l0 ++ (xs.filter p).map g) := by
  rw [forM_add (fun a => if p a = true then [g a] else []) 1 (by omega) (fun a _ => by split <;> simp) fun a ha l hl => by rw [hf a ha l (by omega)]; split <;> simp]
  congr 2
  induction xs with
  | nil => rfl
  | cons x xs ih =>
    rw [List.flatMap_cons, List.filter_cons, ih (by rw [List.length_cons] at hz; omega) fun a ha => hf a (.tail _ ha)]
    split <;> simp
/-! lists made thing by thing -/
theorem coA_ret {f : α → Tr β} {xs : List α} (g : α → β) (h : ∀ a ∈ xs, f a = .ret (g a)) : coA f xs = .ret (xs.map g) := by
  induction xs with
  | nil => rfl
  | cons x xs ih => simp only [coA, h x (.head _), sv_ne_ret, tr_ret, ih fun a ha => h a (.tail _ ha), List.map_cons]
inductive Al2 (R : α → β → Prop) : List α → List β → Prop
  | nil : Al2 R [] []
  | cons {a : α} {b : β} {as : List α} {bs : List β} : R a b → Al2 R as bs → Al2 R (a :: as) (b :: bs)
theorem Al2.length {R : α → β → Prop} : ∀ {xs : List α} {ys : List β}, Al2 R xs ys → xs.length = ys.length
  | _, _, .nil => rfl
  | _, _, .cons _ b => by rw [List.length_cons, List.length_cons, Al2.length b]
theorem Al2.imp {R S : α → β → Prop} (h : ∀ a b, R a b → S a b) : ∀ {xs : List α} {ys : List β}, Al2 R xs ys → Al2 S xs ys
  | _, _, .nil => .nil
  | _, _, .cons a b => .cons (h _ _ a) (Al2.imp h b)
theorem Al2.right {R : α → β → Prop} : ∀ {xs : List α} {ys : List β}, Al2 R xs ys → ∀ y ∈ ys, ∃ x ∈ xs, R x y
  | _, _, .nil, y, h => by cases h
  | _, _, .cons a b, y, h => by
    rcases List.mem_cons.mp h with rfl | h
    · exact ⟨_, .head _, a⟩
    · obtain ⟨x, hx, hr⟩ := Al2.right b y h
      exact ⟨x, .tail _ hx, hr⟩
theorem hnoexc {P : α → Prop} {t : Tr α} (h : t.all (fun _ => False) P) : t.noexc.all E P := by
  induction t with
  | ret a => exact h
  | draw m k ih => exact ⟨h.1, fun r r0 r1 => ih r (h.2 r r0 r1)⟩
  | exc x => exact h.elim
  | fail => exact h.elim
theorem hcoA {f : α → Tr β} {xs : List α} {P : List β → Prop} (R : α → β → Prop) (h : ∀ a ∈ xs, (f a).all (fun _ => False) (R a)) (hn : ∀ ys, Al2 R xs ys → P ys) : (coA f xs).all E P := by
  induction xs generalizing P with
  | nil => exact hn [] .nil
  | cons x xs ih =>
    simp only [coA, hbind, hret]
    refine all_mono (fun y hy => ?_) _ (hnoexc (h x (.head _)))
    exact ih (fun a ha => h a (.tail _ ha)) fun ys hys => hn (y :: ys) (.cons hy hys)
/-- a loop that adds one drawn thing a turn -/
theorem hforM_app {xs : List α} {l0 : List β} {f : α → List β → Tr (List β)} {P : List β → Prop} (R : α → β → Prop) (hz : l0.length + xs.length ≤ SZ)
    (h : ∀ a ∈ xs, ∀ l, l.length < SZ → (f a l).all E fun l' => ∃ b, l' = l ++ [b] ∧ R a b) (hn : ∀ ys, Al2 R xs ys → P (l0 ++ ys)) : (forM xs l0 f).all E P := by
  induction xs generalizing l0 with
  | nil => have := hn [] .nil; simpa [forM] using this
  | cons x xs ih =>
    rw [List.length_cons] at hz
    simp only [forM, hbind]
    refine all_mono (fun l' hl => ?_) _ (h x (.head _) l0 (by omega))
    obtain ⟨b, rfl, hb⟩ := hl
    refine ih (by rw [List.length_append]; simp; omega) (fun a ha => h a (.tail _ ha)) fun ys hys => ?_
    rw [List.append_assoc]
    exact hn (b :: ys) (.cons hb hys)
theorem sz_val : SZ = 16777216 := rfl
theorem eqS_self {n : Nat} {t : T} (h : okX n t = true) : True := trivial
end
end Mo

set_option Elab.async false
set_option linter.all false
set_option maxRecDepth 100000
set_option maxHeartbeats 1000000
set_option autoImplicit false
namespace Mo
section
variable {κ ν : Type} {q : κ → κ → Bool} (hq : ∀ a b, q a b = true ↔ a = b)
include hq
theorem lookA_none {k : κ} : ∀ {s : List (κ × ν)}, lookA q k s = none ↔ ∀ v, (k, v) ∉ s
  | [] => by simp [lookA]
  | p :: s => by
    simp only [lookA]
    split
    · rename_i h
      have := (hq _ _).mp h
      subst this
      simp only [reduceCtorEq, false_iff]
      exact fun z => z p.2 (.head _)
    · rename_i h
      rw [lookA_none]
      constructor
      · intro h2 v hm
        rcases List.mem_cons.mp hm with e | hm
        · exact h ((hq _ _).mpr (by rw [← e]))
        · exact h2 v hm
      · exact fun h2 v hm => h2 v (.tail _ hm)
theorem lookA_mem {k : κ} {v : ν} : ∀ {s : List (κ × ν)}, lookA q k s = some v → (k, v) ∈ s
  | [], h => by simp [lookA] at h
  | p :: s, h => by
    simp only [lookA] at h
    split at h
    · rename_i e
      have := (hq _ _).mp e
      cases h
      rw [← this]
      exact .head _
    · exact .tail _ (lookA_mem h)
theorem lookA_of {k : κ} {v : ν} : ∀ {s : List (κ × ν)}, (s.map (·.1)).Nodup → (k, v) ∈ s → lookA q k s = some v
  | [], _, h => by cases h
  | p :: s, hn, h => by
    simp only [lookA]
    rw [List.map_cons, List.nodup_cons] at hn
    rcases List.mem_cons.mp h with e | h
    · rw [if_pos ((hq _ _).mpr (by rw [← e])), ← e]
    · rw [if_neg, lookA_of hn.2 h]
      intro e
      have := (hq _ _).mp e
      exact hn.1 (List.mem_map.mpr ⟨_, h, this.symm⟩)
theorem any_key {k : κ} {s : List (κ × ν)} : (s.any fun p => q p.1 k) = true ↔ k ∈ s.map (·.1) := by
  simp only [List.any_eq_true, List.mem_map]
  constructor
  · rintro ⟨p, hp, e⟩; exact ⟨p, hp, (hq _ _).mp e⟩
  · rintro ⟨p, hp, e⟩; exact ⟨p, hp, (hq _ _).mpr e⟩
theorem keys_put [DecidableEq κ] {k : κ} {v : ν} {s : List (κ × ν)} : (putA q k v s).map (·.1) = if k ∈ s.map (·.1) then s.map (·.1) else s.map (·.1) ++ [k] := by
  unfold putA
  by_cases h : k ∈ s.map (·.1)
  · rw [if_pos ((any_key hq).mpr h), if_pos h, List.map_map]
    refine List.map_congr_left fun p _ => ?_
    simp only [Function.comp_def]
    split <;> rfl
  · rw [if_neg (fun z => h ((any_key hq).mp z)), if_neg h, List.map_append]; rfl
theorem nodup_put [DecidableEq κ] {k : κ} {v : ν} {s : List (κ × ν)} (h : (s.map (·.1)).Nodup) : ((putA q k v s).map (·.1)).Nodup := by
  rw [keys_put hq]
  split
  · exact h
  · rename_i hk
    rw [List.nodup_append]
    exact ⟨h, by simp, fun a ha b hb => by rw [List.mem_singleton] at hb; subst hb; exact fun e => hk (e ▸ ha)⟩
theorem mem_put {k a : κ} {v b : ν} {s : List (κ × ν)} : (a, b) ∈ putA q k v s ↔ ((a = k ∧ b = v) ∨ (a ≠ k ∧ (a, b) ∈ s)) ∨ False := by
  rw [or_false]
  unfold putA
  by_cases h : k ∈ s.map (·.1)
  · rw [if_pos ((any_key hq).mpr h), List.mem_map]
    constructor
    · rintro ⟨p, hp, e⟩
      split at e
      · rename_i e1
        have := (hq _ _).mp e1
        cases e
        exact .inl ⟨this, rfl⟩
      · rename_i e1
        subst e
        exact .inr ⟨fun z => e1 ((hq _ _).mpr z), hp⟩
    · rintro (⟨rfl, rfl⟩ | ⟨hne, hm⟩)
      · obtain ⟨p, hp, e⟩ := List.mem_map.mp h
        exact ⟨p, hp, by rw [if_pos ((hq _ _).mpr e), e]⟩
      · exact ⟨_, hm, by rw [if_neg (fun z => hne ((hq _ _).mp z))]⟩
  · rw [if_neg (fun z => h ((any_key hq).mp z)), List.mem_append, List.mem_singleton]
    constructor
    · rintro (hm | e)
      · exact .inr ⟨fun z => h (z ▸ List.mem_map.mpr ⟨_, hm, rfl⟩), hm⟩
      · cases e; exact .inl ⟨rfl, rfl⟩
    · rintro (⟨rfl, rfl⟩ | ⟨_, hm⟩)
      · exact .inr rfl
      · exact .inl hm
theorem len_put {k : κ} {v : ν} {s : List (κ × ν)} : (putA q k v s).length ≤ s.length + 1 := by
  unfold putA
  split <;> simp
end
/-- pairs in order -/
def pLt (a b : Int × Int) : Prop := a.1 < b.1 ∨ (a.1 = b.1 ∧ a.2 < b.2)
instance (a b : Int × Int) : Decidable (pLt a b) := inferInstanceAs (Decidable (_ ∨ _))
/-- rows of a tally, counted of pairs -/
structure Counted (ps : List (Int × Int)) (w : Int) (R : List (Int × Int × Int)) : Prop where
  ord : R.Pairwise fun a b => pLt (a.1, a.2.1) (b.1, b.2.1)
  of : ∀ r ∈ R, r.1 ≠ r.2.1 ∧ (r.1, r.2.1) ∈ ps ∧ r.2.2 = w * (ps.count (r.1, r.2.1) : Int)
  all : ∀ p ∈ ps, p.1 ≠ p.2 → ∃ r ∈ R, (r.1, r.2.1) = p
/-- the state of counting -/
structure Cnt (ps : List (Int × Int)) (w : Int) (s : List ((Int × Int) × Int)) : Prop where
  nd : (s.map (·.1)).Nodup
  of : ∀ p v, (p, v) ∈ s → p.1 ≠ p.2 ∧ p ∈ ps ∧ v = w * (ps.count p : Int)
  all : ∀ p ∈ ps, p.1 ≠ p.2 → p ∈ s.map (·.1)
  len : s.length ≤ ps.length
theorem Cnt.nil (w : Int) : Cnt [] w [] := ⟨by simp, fun _ _ h => by simp at h, fun p h => by simp at h, Nat.le_refl _⟩
theorem Cnt.skip {ps : List (Int × Int)} {w : Int} {s : List ((Int × Int) × Int)} {p : Int × Int} (h : Cnt ps w s) (e : p.1 = p.2) : Cnt (ps ++ [p]) w s := by
  refine ⟨h.nd, fun a v ha => ?_, fun a ha hne => ?_, by rw [List.length_append]; have := h.len; omega⟩
  · obtain ⟨h1, h2, h3⟩ := h.of a v ha
    refine ⟨h1, List.mem_append_left _ h2, ?_⟩
    rw [h3, List.count_append, List.count_cons, if_neg (by simp; intro z; exact h1 (z ▸ e))]
    simp
  · rcases List.mem_append.mp ha with ha | ha
    · exact h.all a ha hne
    · rw [List.mem_singleton] at ha; subst ha; exact absurd e hne
theorem Cnt.put {q : Int × Int → Int × Int → Bool} (hq : ∀ a b, q a b = true ↔ a = b) {ps : List (Int × Int)} {w : Int} {s : List ((Int × Int) × Int)} {p : Int × Int} (h : Cnt ps w s) (e : p.1 ≠ p.2) : Cnt (ps ++ [p]) w (putA q p ((lookA q p s).getD 0 + w) s) := by
  have hv : (lookA q p s).getD 0 = w * (ps.count p : Int) := by
    cases hl : lookA q p s with
    | some v => exact (h.of p v (lookA_mem hq hl)).2.2
    | none =>
      have : p ∉ ps := fun hm => by
        obtain ⟨z, hz, e1⟩ := List.mem_map.mp (h.all p hm e)
        exact (lookA_none hq).mp hl z.2 (by rw [← e1]; exact hz)
      rw [List.count_eq_zero.mpr this]; simp
  refine ⟨nodup_put hq h.nd, fun a v ha => ?_, fun a ha hne => ?_, Nat.le_trans (len_put hq) (by rw [List.length_append]; have := h.len; simp; omega)⟩
  · rw [mem_put hq, or_false] at ha
    rcases ha with ⟨rfl, rfl⟩ | ⟨hne, hm⟩
    · refine ⟨e, List.mem_append_right _ (.head _), ?_⟩
      rw [hv, List.count_append]
      simp [Int.mul_add]
    · obtain ⟨h1, h2, h3⟩ := h.of a v hm
      refine ⟨h1, List.mem_append_left _ h2, ?_⟩
      rw [h3, List.count_append, List.count_cons, if_neg (by simp; exact fun z => hne z.symm)]
      simp
  · rw [keys_put hq]
    rcases List.mem_append.mp ha with ha | ha
    · have := h.all a ha hne
      split
      · exact this
      · exact List.mem_append_left _ this
    · rw [List.mem_singleton] at ha
      subst ha
      split
      · assumption
      · exact List.mem_append_right _ (.head _)
/-- in order behind sorting -/
def pLe (a b : Int × Int) : Bool := !(if (b.1 == a.1) = true then (if (b.2 == a.2) = true then false else decide (b.2 < a.2)) else decide (b.1 < a.1))
theorem pLe_iff (a b : Int × Int) : pLe a b = true ↔ a.1 < b.1 ∨ (a.1 = b.1 ∧ a.2 ≤ b.2) := by
  unfold pLe
  by_cases h1 : b.1 = a.1
  · by_cases h2 : b.2 = a.2
    · simp [h1, h2]
    · simp [h1, h2]
  · simp [h1]; omega
theorem srt_keys {ν : Type} {s : List ((Int × Int) × ν)} (nd : (s.map (·.1)).Nodup) {le : (Int × Int) × ν → (Int × Int) × ν → Bool} (hle : ∀ a b, le a b = pLe a.1 b.1) : (s.mergeSort le).Pairwise fun a b => pLt a.1 b.1 := by
  have h1 : (s.mergeSort le).Pairwise (fun a b => le a b = true) := by
    apply List.pairwise_mergeSort
    · intro a b c h1 h2
      rw [hle, pLe_iff] at h1 h2 ⊢
      omega
    · intro a b
      rw [hle, hle, Bool.or_eq_true, pLe_iff, pLe_iff]
      omega
  have h2 : ((s.mergeSort le).map (·.1)).Nodup := (((List.mergeSort_perm s le).map _).nodup_iff).mpr nd
  rw [List.Nodup, List.pairwise_map] at h2
  refine List.Pairwise.imp₂ (fun a b h k => ?_) h1 h2
  rw [hle, pLe_iff] at h
  unfold pLt
  rcases h with h | ⟨h, h'⟩
  · exact .inl h
  · refine .inr ⟨h, ?_⟩
    have : a.1.2 ≠ b.1.2 := fun z => k (Prod.ext h z)
    omega
end Mo

set_option Elab.async false
set_option linter.all false
set_option maxRecDepth 100000
set_option maxHeartbeats 2000000
set_option autoImplicit false
namespace Mo
open PySem PyProof.Rows
def B_law_passing : List Sm := [.par [2, 3] [(.bin .mul (.new (.lst [(.int 0)])) (.var 0)), (.bin .mul (.new (.lst [(.int 0)])) (.var 0))], .loop (.tup [(.name 4), (.name 5), (.name 6)]) (.seq (.ex (.var 1))) [.loop (.name 7) (.range [(.var 4), (.var 5)]) [.sub (.var 2) (.var 7) (.bin .add (.idx (.var 2) (.var 7)) (.var 6))], .loop (.name 7) (.range [(.var 5), (.var 4)]) [.sub (.var 3) (.var 7) (.bin .add (.idx (.var 3) (.var 7)) (.var 6))]], .ret (some (.new (.lst [(.var 2), (.var 3)])))]
def F_law_passing (n : Int) (rows : (List (Int × Int × Int))) : Tr ((List Int) × (List Int)) := ((chk (0 ≤ n ∧ n ≤ 1000 ∧ [(0 : Int)].length ≤ 1000)).bind fun _ => (chk (0 ≤ n ∧ n ≤ 1000 ∧ [(0 : Int)].length ≤ 1000)).bind fun _ => Tr.ret ((repL n.toNat [(0 : Int)]), (repL n.toNat [(0 : Int)]))).bind fun (p : ((List Int) × (List Int))) => ((Tr.ret rows).bind fun xs => forM xs (p.1, p.2) fun (a : (Int × Int × Int)) (s : ((List Int) × (List Int))) => (((rng2 a.1 a.2.1).bind fun ws => Tr.ret ws).bind fun xs => forM xs s.1 fun (a2 : Int) (s2 : (List Int)) => ((Tr.ofO (atT s2 a2)).bind fun a3 => (chk (0 ≤ a2 ∧ a2.toNat < s2.length)).bind fun _ => Tr.ret (s2.set a2.toNat (a3 + a.2.2))).bind fun (east : (List Int)) => Tr.ret east).bind fun (s3 : (List Int)) => (((rng2 a.2.1 a.1).bind fun ws2 => Tr.ret ws2).bind fun xs => forM xs s.2 fun (a4 : Int) (s4 : (List Int)) => ((Tr.ofO (atT s4 a4)).bind fun a5 => (chk (0 ≤ a4 ∧ a4.toNat < s4.length)).bind fun _ => Tr.ret (s4.set a4.toNat (a5 + a.2.2))).bind fun (west : (List Int)) => Tr.ret west).bind fun (s5 : (List Int)) => Tr.ret (s3, s5)).bind fun (s6 : ((List Int) × (List Int))) => (Tr.ret (s6.1, s6.2)).bind fun o => Tr.ret o
def S_law_passing (Γ : Pg) (i : Nat) : Prop := ∀ (k : Nat) (n_1 : Int) (rows_2 : (List (Int × Int × Int))), 1 ≤ k → evCall Γ k i [(.int n_1), (.tup (List.map (fun (e0 : (Int × Int × Int)) => (T.tup [(.int e0.1), (.int e0.2.1), (.int e0.2.2)])) rows_2))] = (F_law_passing n_1 rows_2).bind fun (r : ((List Int) × (List Int))) => .ret (true, (T.lst [(.lst (List.map T.int r.1)), (.lst (List.map T.int r.2))]))
theorem ok_law_passing {Γ : Pg} {i : Nat} (hf : Γ.fns[i]? = some (.code 2 8 (B_law_passing))) (hrp : Γ.rp = rpT) : S_law_passing Γ i := fun k n_1 rows_2 hk => by
  have core : ∀ (n : Int) (rows : (List (Int × Int × Int))), evCall Γ k i [(.int n), (.tup (List.map (fun (e0 : (Int × Int × Int)) => (T.tup [(.int e0.1), (.int e0.2.1), (.int e0.2.2)])) rows))] = (F_law_passing n rows).bind (fun (r : ((List Int) × (List Int))) => Tr.ret (true, (T.lst [(.lst (List.map T.int r.1)), (.lst (List.map T.int r.2))]))) := by
    intro n rows
    obtain ⟨k, rfl, hj⟩ := ex_succ hk
    rw [ev_code hf rfl]
    unfold F_law_passing
    show (evSs (ecx Γ k) [.par [2, 3] [(.bin .mul (.new (.lst [(.int 0)])) (.var 0)), (.bin .mul (.new (.lst [(.int 0)])) (.var 0))], .loop (.tup [(.name 4), (.name 5), (.name 6)]) (.seq (.ex (.var 1))) [.loop (.name 7) (.range [(.var 4), (.var 5)]) [.sub (.var 2) (.var 7) (.bin .add (.idx (.var 2) (.var 7)) (.var 6))], .loop (.name 7) (.range [(.var 5), (.var 4)]) [.sub (.var 3) (.var 7) (.bin .add (.idx (.var 3) (.var 7)) (.var 6))]], .ret (some (.new (.lst [(.var 2), (.var 3)])))] [some (.val (.int n)), some (.val (.tup (List.map (fun (e0 : (Int × Int × Int)) => (T.tup [(.int e0.1), (.int e0.2.1), (.int e0.2.2)])) rows))), none, none, none, none, none, none]).bind finF = Tr.bind _ (fun (r : ((List Int) × (List Int))) => Tr.ret (true, (T.lst [(.lst (List.map T.int r.1)), (.lst (List.map T.int r.2))])))
    refine step (E := fun (p : ((List Int) × (List Int))) => [some (.val (.int n)), some (.val (.tup (List.map (fun (e0 : (Int × Int × Int)) => (T.tup [(.int e0.1), (.int e0.2.1), (.int e0.2.2)])) rows))), some (.own (List.map T.int p.1)), some (.own (List.map T.int p.2)), none, none, none, none]) (by (simp_arith [Nat.reduceBEq, Nat.reduceAdd, Nat.reduceEqDiff, hrp] <;> rfl)) fun p => ?_
    refine step (loopS (fun (e0 : (Int × Int × Int)) => (T.tup [(.int e0.1), (.int e0.2.1), (.int e0.2.2)])) (fun (s : ((List Int) × (List Int))) => [some (.val (.int n)), some (.val (.tup (List.map (fun (e0 : (Int × Int × Int)) => (T.tup [(.int e0.1), (.int e0.2.1), (.int e0.2.2)])) rows))), some (.own (List.map T.int s.1)), some (.own (List.map T.int s.2)), none, none, none, none]) (fun (a : (Int × Int × Int)) (s : ((List Int) × (List Int))) => [some (.val (.int n)), some (.val (.tup (List.map (fun (e0 : (Int × Int × Int)) => (T.tup [(.int e0.1), (.int e0.2.1), (.int e0.2.2)])) rows))), some (.own (List.map T.int s.1)), some (.own (List.map T.int s.2)), some (.val (.int a.1)), some (.val (.int a.2.1)), some (.val (.int a.2.2)), none]) (by (simp_arith [Nat.reduceBEq, Nat.reduceAdd, Nat.reduceEqDiff, hrp] <;> rfl)) (by (simp_arith [Nat.reduceBEq, Nat.reduceAdd, Nat.reduceEqDiff, hrp] <;> rfl)) (fun _ _ => by (simp_arith [Nat.reduceBEq, Nat.reduceAdd, Nat.reduceEqDiff, hrp] <;> rfl)) (fun a s => ?_)) (fun s6 => ?_)
    · refine step (loopS T.int (fun (s2 : (List Int)) => [some (.val (.int n)), some (.val (.tup (List.map (fun (e0 : (Int × Int × Int)) => (T.tup [(.int e0.1), (.int e0.2.1), (.int e0.2.2)])) rows))), some (.own (List.map T.int s2)), some (.own (List.map T.int s.2)), some (.val (.int a.1)), some (.val (.int a.2.1)), some (.val (.int a.2.2)), none]) (fun (a2 : Int) (s2 : (List Int)) => [some (.val (.int n)), some (.val (.tup (List.map (fun (e0 : (Int × Int × Int)) => (T.tup [(.int e0.1), (.int e0.2.1), (.int e0.2.2)])) rows))), some (.own (List.map T.int s2)), some (.own (List.map T.int s.2)), some (.val (.int a.1)), some (.val (.int a.2.1)), some (.val (.int a.2.2)), some (.val (.int a2))]) (by (simp_arith [Nat.reduceBEq, Nat.reduceAdd, Nat.reduceEqDiff, hrp] <;> rfl)) (by (simp_arith [Nat.reduceBEq, Nat.reduceAdd, Nat.reduceEqDiff, hrp] <;> rfl)) (fun _ _ => by (simp_arith [Nat.reduceBEq, Nat.reduceAdd, Nat.reduceEqDiff, hrp] <;> rfl)) (fun a2 s2 => ?_)) (fun s3 => ?_)
      · refine step (E := fun (east : (List Int)) => [some (.val (.int n)), some (.val (.tup (List.map (fun (e0 : (Int × Int × Int)) => (T.tup [(.int e0.1), (.int e0.2.1), (.int e0.2.2)])) rows))), some (.own (List.map T.int east)), some (.own (List.map T.int s.2)), some (.val (.int a.1)), some (.val (.int a.2.1)), some (.val (.int a.2.2)), some (.val (.int a2))]) (by (simp_arith [Nat.reduceBEq, Nat.reduceAdd, Nat.reduceEqDiff, hrp] <;> rfl)) fun east => ?_
        exact (by (simp_arith [Nat.reduceBEq, Nat.reduceAdd, Nat.reduceEqDiff, hrp] <;> rfl))
      refine step (loopS T.int (fun (s4 : (List Int)) => [some (.val (.int n)), some (.val (.tup (List.map (fun (e0 : (Int × Int × Int)) => (T.tup [(.int e0.1), (.int e0.2.1), (.int e0.2.2)])) rows))), some (.own (List.map T.int s3)), some (.own (List.map T.int s4)), some (.val (.int a.1)), some (.val (.int a.2.1)), some (.val (.int a.2.2)), none]) (fun (a4 : Int) (s4 : (List Int)) => [some (.val (.int n)), some (.val (.tup (List.map (fun (e0 : (Int × Int × Int)) => (T.tup [(.int e0.1), (.int e0.2.1), (.int e0.2.2)])) rows))), some (.own (List.map T.int s3)), some (.own (List.map T.int s4)), some (.val (.int a.1)), some (.val (.int a.2.1)), some (.val (.int a.2.2)), some (.val (.int a4))]) (by (simp_arith [Nat.reduceBEq, Nat.reduceAdd, Nat.reduceEqDiff, hrp] <;> rfl)) (by (simp_arith [Nat.reduceBEq, Nat.reduceAdd, Nat.reduceEqDiff, hrp] <;> rfl)) (fun _ _ => by (simp_arith [Nat.reduceBEq, Nat.reduceAdd, Nat.reduceEqDiff, hrp] <;> rfl)) (fun a4 s4 => ?_)) (fun s5 => ?_)
      · refine step (E := fun (west : (List Int)) => [some (.val (.int n)), some (.val (.tup (List.map (fun (e0 : (Int × Int × Int)) => (T.tup [(.int e0.1), (.int e0.2.1), (.int e0.2.2)])) rows))), some (.own (List.map T.int s3)), some (.own (List.map T.int west)), some (.val (.int a.1)), some (.val (.int a.2.1)), some (.val (.int a.2.2)), some (.val (.int a4))]) (by (simp_arith [Nat.reduceBEq, Nat.reduceAdd, Nat.reduceEqDiff, hrp] <;> rfl)) fun west => ?_
        exact (by (simp_arith [Nat.reduceBEq, Nat.reduceAdd, Nat.reduceEqDiff, hrp] <;> rfl))
      exact (by (simp_arith [Nat.reduceBEq, Nat.reduceAdd, Nat.reduceEqDiff, hrp] <;> rfl))
    exact stepR (fe := fun (o : ((List Int) × (List Int))) => (true, (T.lst [(.lst (List.map T.int o.1)), (.lst (List.map T.int o.2))]))) (by (simp_arith [Nat.reduceBEq, Nat.reduceAdd, Nat.reduceEqDiff, hrp] <;> rfl)) (fun _ => rfl)
  exact core n_1 rows_2
end Mo

set_option Elab.async false
set_option linter.all false
set_option maxRecDepth 100000
set_option maxHeartbeats 1000000
set_option autoImplicit false
namespace Mo
section
variable {E : Ex → Prop}
/-- numbers by their places -/
def tabI (n : Nat) (f : Nat → Int) : List Int := (List.range n).map f
theorem tabI_len (n : Nat) (f : Nat → Int) : (tabI n f).length = n := by simp [tabI]
theorem tabI_at {n : Nat} {f : Nat → Int} {i : Int} (h0 : 0 ≤ i) (h1 : i < n) : atT (tabI n f) i = some (f i.toNat) := by
  rw [at_nat h0 (by rw [tabI_len]; exact h1)]
  simp [tabI]
theorem tabI_set {n : Nat} {f : Nat → Int} {j : Nat} {x : Int} : (tabI n f).set j x = tabI n fun i => if i = j then x else f i := by
  apply List.ext_getElem?
  intro i
  unfold tabI
  rw [List.getElem?_set]
  simp only [List.length_map, List.length_range, List.getElem?_map]
  by_cases h : j = i
  · subst h
    simp only [if_true]
    by_cases hj : j < n
    · rw [if_pos hj, List.getElem?_range hj]; simp
    · rw [if_neg hj, List.getElem?_eq_none (by simp; omega)]; rfl
  · rw [if_neg h]
    by_cases hi : i < n
    · rw [List.getElem?_range hi]; simp [Ne.symm h]
    · rw [List.getElem?_eq_none (by simp; omega)]; rfl
theorem tabI_rep (n : Nat) : repL n [(0 : Int)] = tabI n fun _ => 0 := by
  unfold repL tabI
  induction n with
  | zero => rfl
  | succ n ih => rw [List.replicate_succ', List.flatten_append, ih, List.range_succ, List.map_append]; rfl
theorem tabI_congr {n : Nat} {f g : Nat → Int} (h : ∀ i, i < n → f i = g i) : tabI n f = tabI n g := by
  unfold tabI
  refine List.map_congr_left fun i hi => ?_
  rw [h i (List.mem_range.mp hi)]
theorem tabI_mem {n : Nat} {f : Nat → Int} {x : Int} : x ∈ tabI n f ↔ ∃ i, i < n ∧ f i = x := by simp [tabI]
/-- a step put on each place of a stretch -/
def addS (lo hi m : Int) (f : Nat → Int) : Nat → Int := fun i => if lo ≤ i ∧ (i : Int) < hi then f i + m else f i
theorem addS_none {lo hi m : Int} {f : Nat → Int} (h : hi ≤ lo) : addS lo hi m f = f := by
  funext i; unfold addS; rw [if_neg (by omega)]
/-- one more at each place from lo on -/
theorem add_loop {n : Nat} {lo hi m : Int} (f : Nat → Int) (h0 : 0 ≤ lo) (h1 : hi ≤ n) {b : Int → List Int → Tr (List Int)}
    (hb : ∀ (a : Int) (g : Nat → Int), lo ≤ a → a < hi → b a (tabI n g) = .ret (tabI n fun i => if i = a.toNat then g a.toNat + m else g i)) : forM (rngI lo hi) (tabI n f) b = .ret (tabI n (addS lo hi m f)) := by
  have key : ∀ (c : Nat), lo + c ≤ hi → forM (rngI lo (lo + c)) (tabI n f) b = .ret (tabI n (addS lo (lo + c) m f)) := by
    intro c
    induction c with
    | zero => intro _; rw [addS_none (by omega), rngI_nil (by omega)]; rfl
    | succ c ih =>
      intro hc
      have app : ∀ (xs ys : List Int) (s : List Int), forM (xs ++ ys) s b = (forM xs s b).bind fun s' => forM ys s' b := by
        intro xs
        induction xs with
        | nil => intro ys s; rfl
        | cons x xs ih => intro ys s; simp only [List.cons_append, forM, ih, bind_assoc]
      have e : lo + ((c + 1 : Nat) : Int) = (lo + c) + 1 := by omega
      rw [e, rngI_snoc (by omega), app, ih (by omega)]
      simp only [tr_ret, forM]
      rw [hb (lo + c) _ (by omega) (by omega)]
      simp only [tr_ret]
      congr 2
      funext i
      unfold addS
      by_cases h2 : i = (lo + (c : Int)).toNat
      · subst h2
        rw [if_pos rfl, if_neg (by omega), if_pos (by omega)]
      · rw [if_neg h2]
        by_cases h3 : lo ≤ i ∧ (i : Int) < lo + c
        · rw [if_pos h3, if_pos (by omega)]
        · rw [if_neg h3, if_neg (by omega)]
  by_cases h : lo ≤ hi
  · have := key (hi - lo).toNat (by omega)
    rw [show lo + ((hi - lo).toNat : Int) = hi by omega] at this
    exact this
  · rw [addS_none (by omega), rngI_nil (by omega)]; rfl
def RowsIn (n : Nat) (rows : List (Int × Int × Int)) : Prop := ∀ r ∈ rows, (0 ≤ r.1 ∧ r.1 ≤ n) ∧ 0 ≤ r.2.1 ∧ r.2.1 ≤ n
/-- how many have to go right, left through each stretch -/
def passE (rows : List (Int × Int × Int)) : Nat → Int := rows.foldl (fun f r => addS r.1 r.2.1 r.2.2 f) fun _ => 0
def passW (rows : List (Int × Int × Int)) : Nat → Int := rows.foldl (fun f r => addS r.2.1 r.1 r.2.2 f) fun _ => 0
theorem add_body {n : Nat} {a m : Int} {g : Nat → Int} (h0 : 0 ≤ a) (h1 : a < n) : ((Tr.ofO (atT (tabI n g) a)).bind fun a3 => (chk (0 ≤ a ∧ a.toNat < (tabI n g).length)).bind fun _ => Tr.ret ((tabI n g).set a.toNat (a3 + m))) = .ret (tabI n fun i => if i = a.toNat then g a.toNat + m else g i) := by
  rw [tabI_at h0 h1, tabI_len, chk_ok (by omega)]
  simp only [tr_some, tr_ret, tabI_set]
theorem sp_passing {n : Nat} {rows : List (Int × Int × Int)} (n1 : n ≤ 1000) (hr : RowsIn n rows) : F_law_passing n rows = .ret (tabI n (passE rows), tabI n (passW rows)) := by
  unfold F_law_passing
  rw [chk_ok (by refine ⟨by omega, by omega, by simp⟩)]
  simp only [tr_ret, Int.toNat_natCast, tabI_rep]
  have main := (forM_fold (xs := rows) (s0 := (tabI n fun _ => 0, tabI n fun _ => 0)) (f := fun (a : (Int × Int × Int)) (s : ((List Int) × (List Int))) => (((rng2 a.1 a.2.1).bind fun ws => Tr.ret ws).bind fun xs => forM xs s.1 fun (a2 : Int) (s2 : (List Int)) => ((Tr.ofO (atT s2 a2)).bind fun a3 => (chk (0 ≤ a2 ∧ a2.toNat < s2.length)).bind fun _ => Tr.ret (s2.set a2.toNat (a3 + a.2.2))).bind fun (east : (List Int)) => Tr.ret east).bind fun (s3 : (List Int)) => (((rng2 a.2.1 a.1).bind fun ws2 => Tr.ret ws2).bind fun xs => forM xs s.2 fun (a4 : Int) (s4 : (List Int)) => ((Tr.ofO (atT s4 a4)).bind fun a5 => (chk (0 ≤ a4 ∧ a4.toNat < s4.length)).bind fun _ => Tr.ret (s4.set a4.toNat (a5 + a.2.2))).bind fun (west : (List Int)) => Tr.ret west).bind fun (s5 : (List Int)) => Tr.ret (s3, s5))
    (fun s r => (s.1.mapIdx fun i v => if r.1 ≤ i ∧ (i : Int) < r.2.1 then v + r.2.2 else v, s.2.mapIdx fun i v => if r.2.1 ≤ i ∧ (i : Int) < r.1 then v + r.2.2 else v))
    (fun _ s => ∃ f g, s = (tabI n f, tabI n g)) ⟨_, _, rfl⟩ ?_).1
  · simp only [main, tr_ret]
    congr 1
    have idx : ∀ (lo hi m : Int) (f : Nat → Int), ((tabI n f).mapIdx fun i v => if lo ≤ (i : Int) ∧ (i : Int) < hi then v + m else v) = tabI n (addS lo hi m f) := by
      intro lo hi m f
      apply List.ext_getElem?
      intro i
      unfold tabI addS
      rw [List.getElem?_mapIdx]
      simp only [List.getElem?_map]
      by_cases h : i < n
      · rw [List.getElem?_range h]; rfl
      · rw [List.getElem?_eq_none (by simp; omega)]; rfl
    have key : ∀ (rows : List (Int × Int × Int)) (f g : Nat → Int), rows.foldl (fun s r => (s.1.mapIdx fun i v => if r.1 ≤ (i : Int) ∧ (i : Int) < r.2.1 then v + r.2.2 else v, s.2.mapIdx fun i v => if r.2.1 ≤ (i : Int) ∧ (i : Int) < r.1 then v + r.2.2 else v)) (tabI n f, tabI n g) = (tabI n (rows.foldl (fun f r => addS r.1 r.2.1 r.2.2 f) f), tabI n (rows.foldl (fun f r => addS r.2.1 r.1 r.2.2 f) g)) := by
      intro rows
      induction rows with
      | nil => intro f g; rfl
      | cons r rows ih => intro f g; simp only [List.foldl_cons, idx]; exact ih _ _
    rw [key]; rfl
  · rintro r hr1 _ _ ⟨f, g, rfl⟩
    obtain ⟨⟨p0, p1⟩, q0, q1⟩ := hr r hr1
    have e1 := add_loop (n := n) (lo := r.1) (hi := r.2.1) (m := r.2.2) f p0 q1 (b := fun (a2 : Int) (s2 : (List Int)) => ((Tr.ofO (atT s2 a2)).bind fun a3 => (chk (0 ≤ a2 ∧ a2.toNat < s2.length)).bind fun _ => Tr.ret (s2.set a2.toNat (a3 + r.2.2))).bind fun (east : (List Int)) => Tr.ret east) fun a g0 h0 h1 => by rw [bind_ret]; exact add_body (by omega) (by omega)
    have e2 := add_loop (n := n) (lo := r.2.1) (hi := r.1) (m := r.2.2) g q0 p1 (b := fun (a2 : Int) (s2 : (List Int)) => ((Tr.ofO (atT s2 a2)).bind fun a3 => (chk (0 ≤ a2 ∧ a2.toNat < s2.length)).bind fun _ => Tr.ret (s2.set a2.toNat (a3 + r.2.2))).bind fun (east : (List Int)) => Tr.ret east) fun a g0 h0 h1 => by rw [bind_ret]; exact add_body (by omega) (by omega)
    have idx : ∀ (lo hi m : Int) (f : Nat → Int), ((tabI n f).mapIdx fun i v => if lo ≤ (i : Int) ∧ (i : Int) < hi then v + m else v) = tabI n (addS lo hi m f) := by
      intro lo hi m f
      apply List.ext_getElem?
      intro i
      unfold tabI addS
      rw [List.getElem?_mapIdx]
      simp only [List.getElem?_map]
      by_cases h : i < n
      · rw [List.getElem?_range h]; rfl
      · rw [List.getElem?_eq_none (by simp; omega)]; rfl
    simp only [rng2_ok (show -1000000 ≤ r.1 ∧ r.1 ≤ 16777216 ∧ -1000000 ≤ r.2.1 ∧ r.2.1 ≤ 16777216 ∧ r.2.1 - r.1 ≤ 16777216 by omega), rng2_ok (show -1000000 ≤ r.2.1 ∧ r.2.1 ≤ 16777216 ∧ -1000000 ≤ r.1 ∧ r.1 ≤ 16777216 ∧ r.1 - r.2.1 ≤ 16777216 by omega), tr_ret, e1, e2, idx]
    exact ⟨trivial, _, _, rfl⟩
end
end Mo

set_option Elab.async false
set_option linter.all false
set_option maxRecDepth 100000
set_option maxHeartbeats 2000000
set_option autoImplicit false
namespace Mo
open PySem PyProof.Rows
def B_law_lamps (j_i_law_passing : Nat) (j_i_law_next : Nat) : List Sm := [.set (.tup [(.name 3), (.name 4)]) (.call j_i_law_passing [(.var 1), (.var 2)]), .par [5, 6] [(.call j_i_law_next [(.var 0), (.int 6)]), (.call j_i_law_next [(.var 0), (.bin .add (.var 1) (.int 1))])], .set (.name 7) (.new (.lst [])), .loop (.name 8) (.range [(.var 1)]) [.set (.name 9) (.bin .sub (.idx (.var 3) (.var 8)) (.idx (.var 4) (.var 8))), .set (.name 10) (.bi .int [(.and (.cmp .eq (.var 9) (.int 0)) (.cmp .gt (.idx (.var 3) (.var 8)) (.int 0)))]), .set (.name 11) (.idx (.new (.lst [(.bi .int [(.cmp .lt (.var 8) (.var 6))]), (.call j_i_law_next [(.var 0), (.int 2)])])) (.bi .int [(.cmp .gt (.var 5) (.int 2))])), .set (.name 12) (.tup [(.bin .add (.bi .max2 [(.int 0), (.var 9)]) (.bin .mul (.var 10) (.var 11))), (.bin .add (.bi .max2 [(.int 0), (.bin .sub (.int 0) (.var 9))]) (.bin .mul (.var 10) (.bin .sub (.int 1) (.var 11))))]), .cond (.cmp .eq (.var 5) (.int 5)) [.set (.name 12) (.tup [(.call j_i_law_next [(.var 0), (.int 3)]), (.call j_i_law_next [(.var 0), (.int 3)])])] [], .set (.name 13) (.call j_i_law_next [(.var 0), (.int 12)]), .ex (.me .append (.var 7) [(.tup [(.bin .add (.bin .add (.idx (.var 12) (.int 0)) (.bi .int [(.cmp .eq (.var 13) (.int 0))])) (.bin .mul (.bin .pow (.int 10) (.int 9)) (.bi .int [(.cmp .eq (.var 13) (.int 2))]))), (.bin .add (.idx (.var 12) (.int 1)) (.bi .int [(.cmp .eq (.var 13) (.int 1))]))])])], .cond (.or (.cmp .eq (.var 5) (.int 1)) (.cmp .eq (.var 5) (.int 4))) [.par [8, 14] [(.call j_i_law_next [(.var 0), (.var 1)]), (.call j_i_law_next [(.var 0), (.int 2)])], .sub (.var 7) (.var 8) (.tup [(.bi .max2 [(.int 0), (.bin .sub (.idx (.idx (.var 7) (.var 8)) (.int 0)) (.var 14))]), (.bi .max2 [(.int 0), (.bin .add (.bin .sub (.idx (.idx (.var 7) (.var 8)) (.int 1)) (.int 1)) (.var 14))])])] [], .ret (some (.li .tuple (.ex (.var 7))))]
def F_law_lamps (n : Int) (rows : (List (Int × Int × Int))) : Tr (List (Int × Int)) := ((F_law_passing n rows).bind fun r => Tr.ret r).bind fun (p : ((List Int) × (List Int))) => ((drw (6 : Int)).bind fun r2 => (drw (n + (1 : Int))).bind fun r3 => Tr.ret (r2, r3)).bind fun (p2 : (Int × Int)) => (Tr.ret ([] : List (Int × Int))).bind fun (found : (List (Int × Int))) => (((rng1 n).bind fun ws => Tr.ret ws).bind fun xs => forM xs found fun (a : Int) (s : (List (Int × Int))) => ((Tr.ofO (atT p.1 a)).bind fun a2 => (Tr.ofO (atT p.2 a)).bind fun a3 => Tr.ret (a2 - a3)).bind fun (differ : Int) => ((if (differ == (0 : Int)) = true then (Tr.ofO (atT p.1 a)).bind fun a4 => Tr.ret (decide ((0 : Int) < a4)) else Tr.ret (differ == (0 : Int))).bind fun q => Tr.ret (if q = true then (1 : Int) else 0)).bind fun (even : Int) => ((drw (2 : Int)).bind fun r4 => (if (decide ((2 : Int) < p2.1)) = true then Tr.ret r4 else Tr.ret (if (decide (a < p2.2)) = true then (1 : Int) else 0)).bind fun v => Tr.ret v).bind fun (side : Int) => ((mulI even side).bind fun m => (mulI even ((1 : Int) - side)).bind fun m2 => Tr.ret (((max (0 : Int) differ) + m), ((max (0 : Int) ((0 : Int) - differ)) + m2))).bind fun (pair : (Int × Int)) => ((Tr.ret (p2.1 == (5 : Int))).bind fun t => if t = true then ((drw (3 : Int)).bind fun r5 => (drw (3 : Int)).bind fun r6 => Tr.ret (r5, r6)).bind fun (pair2 : (Int × Int)) => Tr.ret pair2 else Tr.ret pair).bind fun (pair3 : (Int × Int)) => ((drw (12 : Int)).bind fun r7 => Tr.ret r7).bind fun (more : Int) => ((powI (10 : Int) (9 : Int)).bind fun m3 => (mulI m3 (if (more == (2 : Int)) = true then (1 : Int) else 0)).bind fun m4 => (chk (s.length < SZ)).bind fun _ => Tr.ret (s ++ [(((pair3.1 + (if (more == (0 : Int)) = true then (1 : Int) else 0)) + m4), (pair3.2 + (if (more == (1 : Int)) = true then (1 : Int) else 0)))])).bind fun (found2 : (List (Int × Int))) => Tr.ret found2).bind fun (s2 : (List (Int × Int))) => (Tr.ret ((p2.1 == (1 : Int)) || (p2.1 == (4 : Int)))).bind fun t2 => if t2 = true then ((drw n).bind fun r8 => (drw (2 : Int)).bind fun r9 => Tr.ret (r8, r9)).bind fun (p3 : (Int × Int)) => ((Tr.ofO (atT s2 p3.1)).bind fun a5 => (Tr.ofO (atT s2 p3.1)).bind fun a6 => (chk (0 ≤ p3.1 ∧ p3.1.toNat < s2.length)).bind fun _ => Tr.ret (s2.set p3.1.toNat ((max (0 : Int) (a5.1 - p3.2)), (max (0 : Int) ((a6.2 - (1 : Int)) + p3.2))))).bind fun (found3 : (List (Int × Int))) => (Tr.ret found3).bind fun o => Tr.ret o else (Tr.ret s2).bind fun o2 => Tr.ret o2
def S_law_lamps (Γ : Pg) (i : Nat) : Prop := ∀ (k : Nat) (n_1 : Int) (rows_2 : (List (Int × Int × Int))), 2 ≤ k → evCall Γ k i [(.ref 0), (.int n_1), (.tup (List.map (fun (e0 : (Int × Int × Int)) => (T.tup [(.int e0.1), (.int e0.2.1), (.int e0.2.2)])) rows_2))] = (F_law_lamps n_1 rows_2).bind fun (r : (List (Int × Int))) => .ret (false, (T.tup (List.map (fun (e0 : (Int × Int)) => (T.tup [(.int e0.1), (.int e0.2)])) r)))
theorem ok_law_lamps {Γ : Pg} {i : Nat} {j_i_law_passing : Nat} {j_i_law_next : Nat} (hf : Γ.fns[i]? = some (.code 3 15 (B_law_lamps j_i_law_passing j_i_law_next))) (hrp : Γ.rp = rpT) (h_i_law_passing : S_law_passing Γ j_i_law_passing) (h_i_law_next : S_next Γ j_i_law_next) : S_law_lamps Γ i := fun k n_1 rows_2 hk => by
  have core : ∀ (n : Int) (rows : (List (Int × Int × Int))), evCall Γ k i [(.ref 0), (.int n), (.tup (List.map (fun (e0 : (Int × Int × Int)) => (T.tup [(.int e0.1), (.int e0.2.1), (.int e0.2.2)])) rows))] = (F_law_lamps n rows).bind (fun (r : (List (Int × Int))) => Tr.ret (false, (T.tup (List.map (fun (e0 : (Int × Int)) => (T.tup [(.int e0.1), (.int e0.2)])) r)))) := by
    intro n rows
    obtain ⟨k, rfl, hj⟩ := ex_succ hk
    have c_i_law_passing := fun x0 x1 => h_i_law_passing k x0 x1 (by omega)
    have c_i_law_next := fun x0 => h_i_law_next k x0 (by omega)
    rw [ev_code hf rfl]
    unfold F_law_lamps
    show (evSs (ecx Γ k) [.set (.tup [(.name 3), (.name 4)]) (.call j_i_law_passing [(.var 1), (.var 2)]), .par [5, 6] [(.call j_i_law_next [(.var 0), (.int 6)]), (.call j_i_law_next [(.var 0), (.bin .add (.var 1) (.int 1))])], .set (.name 7) (.new (.lst [])), .loop (.name 8) (.range [(.var 1)]) [.set (.name 9) (.bin .sub (.idx (.var 3) (.var 8)) (.idx (.var 4) (.var 8))), .set (.name 10) (.bi .int [(.and (.cmp .eq (.var 9) (.int 0)) (.cmp .gt (.idx (.var 3) (.var 8)) (.int 0)))]), .set (.name 11) (.idx (.new (.lst [(.bi .int [(.cmp .lt (.var 8) (.var 6))]), (.call j_i_law_next [(.var 0), (.int 2)])])) (.bi .int [(.cmp .gt (.var 5) (.int 2))])), .set (.name 12) (.tup [(.bin .add (.bi .max2 [(.int 0), (.var 9)]) (.bin .mul (.var 10) (.var 11))), (.bin .add (.bi .max2 [(.int 0), (.bin .sub (.int 0) (.var 9))]) (.bin .mul (.var 10) (.bin .sub (.int 1) (.var 11))))]), .cond (.cmp .eq (.var 5) (.int 5)) [.set (.name 12) (.tup [(.call j_i_law_next [(.var 0), (.int 3)]), (.call j_i_law_next [(.var 0), (.int 3)])])] [], .set (.name 13) (.call j_i_law_next [(.var 0), (.int 12)]), .ex (.me .append (.var 7) [(.tup [(.bin .add (.bin .add (.idx (.var 12) (.int 0)) (.bi .int [(.cmp .eq (.var 13) (.int 0))])) (.bin .mul (.bin .pow (.int 10) (.int 9)) (.bi .int [(.cmp .eq (.var 13) (.int 2))]))), (.bin .add (.idx (.var 12) (.int 1)) (.bi .int [(.cmp .eq (.var 13) (.int 1))]))])])], .cond (.or (.cmp .eq (.var 5) (.int 1)) (.cmp .eq (.var 5) (.int 4))) [.par [8, 14] [(.call j_i_law_next [(.var 0), (.var 1)]), (.call j_i_law_next [(.var 0), (.int 2)])], .sub (.var 7) (.var 8) (.tup [(.bi .max2 [(.int 0), (.bin .sub (.idx (.idx (.var 7) (.var 8)) (.int 0)) (.var 14))]), (.bi .max2 [(.int 0), (.bin .add (.bin .sub (.idx (.idx (.var 7) (.var 8)) (.int 1)) (.int 1)) (.var 14))])])] [], .ret (some (.li .tuple (.ex (.var 7))))] [some (.val (.ref 0)), some (.val (.int n)), some (.val (.tup (List.map (fun (e0 : (Int × Int × Int)) => (T.tup [(.int e0.1), (.int e0.2.1), (.int e0.2.2)])) rows))), none, none, none, none, none, none, none, none, none, none, none, none]).bind finF = Tr.bind _ (fun (r : (List (Int × Int))) => Tr.ret (false, (T.tup (List.map (fun (e0 : (Int × Int)) => (T.tup [(.int e0.1), (.int e0.2)])) r))))
    refine step (E := fun (p : ((List Int) × (List Int))) => [some (.val (.ref 0)), some (.val (.int n)), some (.val (.tup (List.map (fun (e0 : (Int × Int × Int)) => (T.tup [(.int e0.1), (.int e0.2.1), (.int e0.2.2)])) rows))), some (.val (.lst (List.map T.int p.1))), some (.val (.lst (List.map T.int p.2))), none, none, none, none, none, none, none, none, none, none]) (by (simp_arith [Nat.reduceBEq, Nat.reduceAdd, Nat.reduceEqDiff, hrp, c_i_law_passing, c_i_law_next] <;> rfl)) fun p => ?_
    refine step (E := fun (p2 : (Int × Int)) => [some (.val (.ref 0)), some (.val (.int n)), some (.val (.tup (List.map (fun (e0 : (Int × Int × Int)) => (T.tup [(.int e0.1), (.int e0.2.1), (.int e0.2.2)])) rows))), some (.val (.lst (List.map T.int p.1))), some (.val (.lst (List.map T.int p.2))), some (.val (.int p2.1)), some (.val (.int p2.2)), none, none, none, none, none, none, none, none]) (by (simp_arith [Nat.reduceBEq, Nat.reduceAdd, Nat.reduceEqDiff, hrp, c_i_law_passing, c_i_law_next] <;> rfl)) fun p2 => ?_
    refine step (E := fun (found : (List (Int × Int))) => [some (.val (.ref 0)), some (.val (.int n)), some (.val (.tup (List.map (fun (e0 : (Int × Int × Int)) => (T.tup [(.int e0.1), (.int e0.2.1), (.int e0.2.2)])) rows))), some (.val (.lst (List.map T.int p.1))), some (.val (.lst (List.map T.int p.2))), some (.val (.int p2.1)), some (.val (.int p2.2)), some (.own (List.map (fun (e0 : (Int × Int)) => (T.tup [(.int e0.1), (.int e0.2)])) found)), none, none, none, none, none, none, none]) (by (simp_arith [Nat.reduceBEq, Nat.reduceAdd, Nat.reduceEqDiff, hrp, c_i_law_passing, c_i_law_next] <;> rfl)) fun found => ?_
    refine step (loopS T.int (fun (s : (List (Int × Int))) => [some (.val (.ref 0)), some (.val (.int n)), some (.val (.tup (List.map (fun (e0 : (Int × Int × Int)) => (T.tup [(.int e0.1), (.int e0.2.1), (.int e0.2.2)])) rows))), some (.val (.lst (List.map T.int p.1))), some (.val (.lst (List.map T.int p.2))), some (.val (.int p2.1)), some (.val (.int p2.2)), some (.own (List.map (fun (e0 : (Int × Int)) => (T.tup [(.int e0.1), (.int e0.2)])) s)), none, none, none, none, none, none, none]) (fun (a : Int) (s : (List (Int × Int))) => [some (.val (.ref 0)), some (.val (.int n)), some (.val (.tup (List.map (fun (e0 : (Int × Int × Int)) => (T.tup [(.int e0.1), (.int e0.2.1), (.int e0.2.2)])) rows))), some (.val (.lst (List.map T.int p.1))), some (.val (.lst (List.map T.int p.2))), some (.val (.int p2.1)), some (.val (.int p2.2)), some (.own (List.map (fun (e0 : (Int × Int)) => (T.tup [(.int e0.1), (.int e0.2)])) s)), some (.val (.int a)), none, none, none, none, none, none]) (by (simp_arith [Nat.reduceBEq, Nat.reduceAdd, Nat.reduceEqDiff, hrp, c_i_law_passing, c_i_law_next] <;> rfl)) (by (simp_arith [Nat.reduceBEq, Nat.reduceAdd, Nat.reduceEqDiff, hrp, c_i_law_passing, c_i_law_next] <;> rfl)) (fun _ _ => by (simp_arith [Nat.reduceBEq, Nat.reduceAdd, Nat.reduceEqDiff, hrp, c_i_law_passing, c_i_law_next] <;> rfl)) (fun a s => ?_)) (fun s2 => ?_)
    · refine step (E := fun (differ : Int) => [some (.val (.ref 0)), some (.val (.int n)), some (.val (.tup (List.map (fun (e0 : (Int × Int × Int)) => (T.tup [(.int e0.1), (.int e0.2.1), (.int e0.2.2)])) rows))), some (.val (.lst (List.map T.int p.1))), some (.val (.lst (List.map T.int p.2))), some (.val (.int p2.1)), some (.val (.int p2.2)), some (.own (List.map (fun (e0 : (Int × Int)) => (T.tup [(.int e0.1), (.int e0.2)])) s)), some (.val (.int a)), some (.val (.int differ)), none, none, none, none, none]) (by (simp_arith [Nat.reduceBEq, Nat.reduceAdd, Nat.reduceEqDiff, hrp, c_i_law_passing, c_i_law_next] <;> rfl)) fun differ => ?_
      refine step (E := fun (even : Int) => [some (.val (.ref 0)), some (.val (.int n)), some (.val (.tup (List.map (fun (e0 : (Int × Int × Int)) => (T.tup [(.int e0.1), (.int e0.2.1), (.int e0.2.2)])) rows))), some (.val (.lst (List.map T.int p.1))), some (.val (.lst (List.map T.int p.2))), some (.val (.int p2.1)), some (.val (.int p2.2)), some (.own (List.map (fun (e0 : (Int × Int)) => (T.tup [(.int e0.1), (.int e0.2)])) s)), some (.val (.int a)), some (.val (.int differ)), some (.val (.int even)), none, none, none, none]) (by (simp_arith [Nat.reduceBEq, Nat.reduceAdd, Nat.reduceEqDiff, hrp, c_i_law_passing, c_i_law_next] <;> rfl)) fun even => ?_
      refine step (E := fun (side : Int) => [some (.val (.ref 0)), some (.val (.int n)), some (.val (.tup (List.map (fun (e0 : (Int × Int × Int)) => (T.tup [(.int e0.1), (.int e0.2.1), (.int e0.2.2)])) rows))), some (.val (.lst (List.map T.int p.1))), some (.val (.lst (List.map T.int p.2))), some (.val (.int p2.1)), some (.val (.int p2.2)), some (.own (List.map (fun (e0 : (Int × Int)) => (T.tup [(.int e0.1), (.int e0.2)])) s)), some (.val (.int a)), some (.val (.int differ)), some (.val (.int even)), some (.val (.int side)), none, none, none]) (by (simp_arith [Nat.reduceBEq, Nat.reduceAdd, Nat.reduceEqDiff, hrp, c_i_law_passing, c_i_law_next] <;> rfl)) fun side => ?_
      refine step (E := fun (pair : (Int × Int)) => [some (.val (.ref 0)), some (.val (.int n)), some (.val (.tup (List.map (fun (e0 : (Int × Int × Int)) => (T.tup [(.int e0.1), (.int e0.2.1), (.int e0.2.2)])) rows))), some (.val (.lst (List.map T.int p.1))), some (.val (.lst (List.map T.int p.2))), some (.val (.int p2.1)), some (.val (.int p2.2)), some (.own (List.map (fun (e0 : (Int × Int)) => (T.tup [(.int e0.1), (.int e0.2)])) s)), some (.val (.int a)), some (.val (.int differ)), some (.val (.int even)), some (.val (.int side)), some (.val (.tup [(.int pair.1), (.int pair.2)])), none, none]) (by (simp_arith [Nat.reduceBEq, Nat.reduceAdd, Nat.reduceEqDiff, hrp, c_i_law_passing, c_i_law_next] <;> rfl)) fun pair => ?_
      refine step (E := fun (pair3 : (Int × Int)) => [some (.val (.ref 0)), some (.val (.int n)), some (.val (.tup (List.map (fun (e0 : (Int × Int × Int)) => (T.tup [(.int e0.1), (.int e0.2.1), (.int e0.2.2)])) rows))), some (.val (.lst (List.map T.int p.1))), some (.val (.lst (List.map T.int p.2))), some (.val (.int p2.1)), some (.val (.int p2.2)), some (.own (List.map (fun (e0 : (Int × Int)) => (T.tup [(.int e0.1), (.int e0.2)])) s)), some (.val (.int a)), some (.val (.int differ)), some (.val (.int even)), some (.val (.int side)), some (.val (.tup [(.int pair3.1), (.int pair3.2)])), none, none]) (ifS (by (simp_arith [Nat.reduceBEq, Nat.reduceAdd, Nat.reduceEqDiff, hrp, c_i_law_passing, c_i_law_next] <;> rfl)) ?_ ?_) fun pair3 => ?_
      · refine step (E := fun (pair2 : (Int × Int)) => [some (.val (.ref 0)), some (.val (.int n)), some (.val (.tup (List.map (fun (e0 : (Int × Int × Int)) => (T.tup [(.int e0.1), (.int e0.2.1), (.int e0.2.2)])) rows))), some (.val (.lst (List.map T.int p.1))), some (.val (.lst (List.map T.int p.2))), some (.val (.int p2.1)), some (.val (.int p2.2)), some (.own (List.map (fun (e0 : (Int × Int)) => (T.tup [(.int e0.1), (.int e0.2)])) s)), some (.val (.int a)), some (.val (.int differ)), some (.val (.int even)), some (.val (.int side)), some (.val (.tup [(.int pair2.1), (.int pair2.2)])), none, none]) (by (simp_arith [Nat.reduceBEq, Nat.reduceAdd, Nat.reduceEqDiff, hrp, c_i_law_passing, c_i_law_next] <;> rfl)) fun pair2 => ?_
        exact (by (simp_arith [Nat.reduceBEq, Nat.reduceAdd, Nat.reduceEqDiff, hrp, c_i_law_passing, c_i_law_next] <;> rfl))
      · exact (by (simp_arith [Nat.reduceBEq, Nat.reduceAdd, Nat.reduceEqDiff, hrp, c_i_law_passing, c_i_law_next] <;> rfl))
      refine step (E := fun (more : Int) => [some (.val (.ref 0)), some (.val (.int n)), some (.val (.tup (List.map (fun (e0 : (Int × Int × Int)) => (T.tup [(.int e0.1), (.int e0.2.1), (.int e0.2.2)])) rows))), some (.val (.lst (List.map T.int p.1))), some (.val (.lst (List.map T.int p.2))), some (.val (.int p2.1)), some (.val (.int p2.2)), some (.own (List.map (fun (e0 : (Int × Int)) => (T.tup [(.int e0.1), (.int e0.2)])) s)), some (.val (.int a)), some (.val (.int differ)), some (.val (.int even)), some (.val (.int side)), some (.val (.tup [(.int pair3.1), (.int pair3.2)])), some (.val (.int more)), none]) (by (simp_arith [Nat.reduceBEq, Nat.reduceAdd, Nat.reduceEqDiff, hrp, c_i_law_passing, c_i_law_next] <;> rfl)) fun more => ?_
      refine step (E := fun (found2 : (List (Int × Int))) => [some (.val (.ref 0)), some (.val (.int n)), some (.val (.tup (List.map (fun (e0 : (Int × Int × Int)) => (T.tup [(.int e0.1), (.int e0.2.1), (.int e0.2.2)])) rows))), some (.val (.lst (List.map T.int p.1))), some (.val (.lst (List.map T.int p.2))), some (.val (.int p2.1)), some (.val (.int p2.2)), some (.own (List.map (fun (e0 : (Int × Int)) => (T.tup [(.int e0.1), (.int e0.2)])) found2)), some (.val (.int a)), some (.val (.int differ)), some (.val (.int even)), some (.val (.int side)), some (.val (.tup [(.int pair3.1), (.int pair3.2)])), some (.val (.int more)), none]) (by (simp_arith [Nat.reduceBEq, Nat.reduceAdd, Nat.reduceEqDiff, hrp, c_i_law_passing, c_i_law_next] <;> rfl)) fun found2 => ?_
      exact (by (simp_arith [Nat.reduceBEq, Nat.reduceAdd, Nat.reduceEqDiff, hrp, c_i_law_passing, c_i_law_next] <;> rfl))
    refine stepI (by (simp_arith [Nat.reduceBEq, Nat.reduceAdd, Nat.reduceEqDiff, hrp, c_i_law_passing, c_i_law_next] <;> rfl)) ?_ ?_
    · show (evSs _ _ _).bind _ = _
      refine step (E := fun (p3 : (Int × Int)) => [some (.val (.ref 0)), some (.val (.int n)), some (.val (.tup (List.map (fun (e0 : (Int × Int × Int)) => (T.tup [(.int e0.1), (.int e0.2.1), (.int e0.2.2)])) rows))), some (.val (.lst (List.map T.int p.1))), some (.val (.lst (List.map T.int p.2))), some (.val (.int p2.1)), some (.val (.int p2.2)), some (.own (List.map (fun (e0 : (Int × Int)) => (T.tup [(.int e0.1), (.int e0.2)])) s2)), some (.val (.int p3.1)), none, none, none, none, none, some (.val (.int p3.2))]) (by (simp_arith [Nat.reduceBEq, Nat.reduceAdd, Nat.reduceEqDiff, hrp, c_i_law_passing, c_i_law_next] <;> rfl)) fun p3 => ?_
      refine step (E := fun (found3 : (List (Int × Int))) => [some (.val (.ref 0)), some (.val (.int n)), some (.val (.tup (List.map (fun (e0 : (Int × Int × Int)) => (T.tup [(.int e0.1), (.int e0.2.1), (.int e0.2.2)])) rows))), some (.val (.lst (List.map T.int p.1))), some (.val (.lst (List.map T.int p.2))), some (.val (.int p2.1)), some (.val (.int p2.2)), some (.own (List.map (fun (e0 : (Int × Int)) => (T.tup [(.int e0.1), (.int e0.2)])) found3)), some (.val (.int p3.1)), none, none, none, none, none, some (.val (.int p3.2))]) (by (simp_arith [Nat.reduceBEq, Nat.reduceAdd, Nat.reduceEqDiff, hrp, c_i_law_passing, c_i_law_next] <;> rfl)) fun found3 => ?_
      exact stepR (fe := fun (o : (List (Int × Int))) => (false, (T.tup (List.map (fun (e0 : (Int × Int)) => (T.tup [(.int e0.1), (.int e0.2)])) o)))) (by (simp_arith [Nat.reduceBEq, Nat.reduceAdd, Nat.reduceEqDiff, hrp, c_i_law_passing, c_i_law_next] <;> rfl)) (fun _ => rfl)
    · show (evSs _ _ _).bind _ = _
      exact stepR (fe := fun (o2 : (List (Int × Int))) => (false, (T.tup (List.map (fun (e0 : (Int × Int)) => (T.tup [(.int e0.1), (.int e0.2)])) o2)))) (by (simp_arith [Nat.reduceBEq, Nat.reduceAdd, Nat.reduceEqDiff, hrp, c_i_law_passing, c_i_law_next] <;> rfl)) (fun _ => rfl)
  exact core n_1 rows_2
end Mo

set_option Elab.async false
set_option linter.all false
set_option maxRecDepth 100000
set_option maxHeartbeats 1000000
set_option autoImplicit false
namespace Mo
section
variable {E : Ex → Prop}
def LampsIn (b : Int) (ls : List (Int × Int)) : Prop := ∀ p ∈ ls, (0 ≤ p.1 ∧ p.1 ≤ b) ∧ 0 ≤ p.2 ∧ p.2 ≤ b
abbrev LampsOk := LampsIn (10 ^ 61)
def PassOk (rows : List (Int × Int × Int)) : Prop := ∀ w, (0 ≤ passE rows w ∧ passE rows w ≤ 10 ^ 60) ∧ 0 ≤ passW rows w ∧ passW rows w ≤ 10 ^ 60
theorem sp_lamps {n : Nat} {rows : List (Int × Int × Int)} {P : List (Int × Int) → Prop} (n0 : 1 ≤ n) (n1 : n ≤ 1000) (hr : RowsIn n rows) (hb : PassOk rows) (h : ∀ ls : List (Int × Int), ls.length = n → LampsOk ls → P ls) : (F_law_lamps n rows).all E P := by
  unfold F_law_lamps
  rw [sp_passing n1 hr]
  obtain ⟨f, hF⟩ : ∃ f, f = passE rows := ⟨_, rfl⟩
  obtain ⟨g, hG⟩ : ∃ g, g = passW rows := ⟨_, rfl⟩
  unfold PassOk at hb
  rw [← hF, ← hG] at hb ⊢
  simp only [tr_ret, hbind, hret, hdrw, hrng1]
  refine ⟨dOk' (by omega) (by omega), fun lean e0 e1 => ⟨dOk' (by omega) (by omega), fun cut c0 c1 => ⟨by omega, ?_⟩⟩⟩
  refine hforM_app (fun _ p => (0 ≤ p.1 ∧ p.1 ≤ 2 * 10 ^ 60) ∧ 0 ≤ p.2 ∧ p.2 ≤ 2 * 10 ^ 60) (by rw [len_rngI, sz_val]; simp; omega) (fun a ha l hl => ?_) fun ys hys => ?_
  · have ha := mem_rngI.mp ha
    obtain ⟨⟨f0, f1⟩, g0, g1⟩ := hb a.toNat
    have t1 : atT (tabI n f) a = some (f a.toNat) := tabI_at (by omega) (by omega)
    have t2 : atT (tabI n g) a = some (g a.toNat) := tabI_at (by omega) (by omega)
    generalize f a.toNat = fa at *
    generalize g a.toNat = ga at *
    simp only [t1, t2, tr_some, tr_ret]
    have bnd : ∀ b c : Int, (0 ≤ b ∧ b ≤ 1) → (0 ≤ c ∧ c ≤ 1) → (0 ≤ b * c ∧ b * c ≤ 1) := fun b c hb hc => by
      rcases (show b = 0 ∨ b = 1 by omega) with rfl | rfl <;> omega
    refine hcut (Q := fun ev => 0 ≤ ev ∧ ev ≤ 1) ?_ fun ev hev => ?_
    · simp only [hbind, hif, hret]
      exact ⟨fun _ => by split <;> omega, fun _ => by split <;> omega⟩
    refine hcut (Q := fun sd => 0 ≤ sd ∧ sd ≤ 1) ?_ fun sd hsd => ?_
    · simp only [hbind, hif, hret, hdrw]
      exact ⟨dOk' (by omega) (by omega), fun r r0 r1 => ⟨fun _ => by omega, fun _ => by split <;> omega⟩⟩
    refine hcut (Q := fun p : Int × Int => (0 ≤ p.1 ∧ p.1 ≤ 10 ^ 60 + 4) ∧ 0 ≤ p.2 ∧ p.2 ≤ 10 ^ 60 + 4) ?_ fun p hp => ?_
    · have b1 := bnd ev sd hev hsd
      have b2 := bnd ev (1 - sd) hev (by omega)
      simp only [hbind, hmul, hret]
      exact ⟨mOk' (by omega) (by omega), mOk' (by omega) (by omega), by omega⟩
    refine hcut (Q := fun p : Int × Int => (0 ≤ p.1 ∧ p.1 ≤ 10 ^ 60 + 4) ∧ 0 ≤ p.2 ∧ p.2 ≤ 10 ^ 60 + 4) ?_ fun q hq => ?_
    · simp only [hbind, hif, hret, hdrw]
      exact ⟨fun _ => ⟨dOk' (by omega) (by omega), fun r r0 r1 => ⟨dOk' (by omega) (by omega), fun r2 r3 r4 => by omega⟩⟩, fun _ => hp⟩
    simp only [hbind, hret, hdrw, hmul, hpow, hchk]
    have e9 : (10 : Int) ^ (9 : Int).toNat = 1000000000 := by decide
    refine ⟨dOk' (by omega) (by omega), fun more o0 o1 => ⟨by decide, ?_⟩⟩
    rw [e9]
    refine ⟨mOk' (by decide) (by split <;> decide), hl, _, rfl, ?_, ?_⟩
    · dsimp only
      constructor <;> ((repeat' split) <;> omega)
    · dsimp only
      constructor <;> ((repeat' split) <;> omega)
  · have l1 := hys.length
    rw [len_rngI] at l1
    have ok : ∀ p ∈ ys, (0 ≤ p.1 ∧ p.1 ≤ 2 * 10 ^ 60) ∧ 0 ≤ p.2 ∧ p.2 ≤ 2 * 10 ^ 60 := fun p hp => by
      obtain ⟨_, _, h1⟩ := hys.right p hp
      exact h1
    simp only [List.nil_append, hif]
    refine ⟨fun _ => ?_, fun _ => h ys (by omega) fun p hp => by have := ok p hp; omega⟩
    simp only [hbind, hret, hdrw, hofO, hchk]
    refine ⟨dOk' (by omega) (by omega), fun u u0 u1 => ⟨dOk' (by omega) (by omega), fun v v0 v1 => ?_⟩⟩
    obtain ⟨p, hp, at1⟩ := at_mem' (xs := ys) u0 (by omega)
    refine ⟨p, at1, p, at1, by omega, h _ (by rw [List.length_set]; omega) fun q hq => ?_⟩
    have := ok p hp
    rcases List.mem_or_eq_of_mem_set hq with hq | rfl
    · have := ok q hq; omega
    · dsimp only; omega
end
end Mo

set_option Elab.async false
set_option linter.all false
set_option maxRecDepth 100000
set_option maxHeartbeats 2000000
set_option autoImplicit false
namespace Mo
open PySem PyProof.Rows
def B_law_ways (j_i_law_next : Nat) : List Sm := [.set (.name 3) (.call j_i_law_next [(.var 0), (.var 1)]), .set (.name 4) (.bin .add (.bin .add (.var 3) (.int 1)) (.call j_i_law_next [(.var 0), (.bin .sub (.var 1) (.var 3))])), .set (.name 5) (.call j_i_law_next [(.var 0), (.int 4)]), .set (.name 6) (.new (.lst [])), .loop (.name 7) (.range [(.var 2)]) [.set (.name 8) (.call j_i_law_next [(.var 0), (.int 6)]), .set (.name 9) (.tup [(.call j_i_law_next [(.var 0), (.bin .add (.var 1) (.int 1))]), (.call j_i_law_next [(.var 0), (.bin .add (.var 1) (.int 1))])]), .cond (.and (.cmp .gt (.var 5) (.int 0)) (.cmp .lt (.var 8) (.int 4))) [.set (.name 9) (.tup [(.call j_i_law_next [(.var 0), (.bin .add (.var 3) (.int 1))]), (.bin .add (.var 4) (.call j_i_law_next [(.var 0), (.bin .add (.bin .sub (.var 1) (.var 4)) (.int 1))]))]), .cond (.cmp .eq (.var 5) (.int 3)) [.set (.name 9) (.tup [(.var 3), (.var 4)])] [], .cond (.cmp .eq (.bin .mod (.var 7) (.int 2)) (.int 1)) [.set (.name 9) (.rev (.var 9))] []] [.cond (.and (.cmp .gt (.var 5) (.int 0)) (.cmp .eq (.var 8) (.int 4))) [.set (.name 9) (.tup [(.bin .add (.var 3) (.call j_i_law_next [(.var 0), (.bin .add (.bin .sub (.var 4) (.var 3)) (.int 1))])), (.bin .add (.var 3) (.call j_i_law_next [(.var 0), (.bin .add (.bin .sub (.var 4) (.var 3)) (.int 1))]))])] []], .ex (.me .append (.var 6) [(.var 9)])], .ret (some (.var 6))]
def F_law_ways (n : Int) (many : Int) : Tr (List (Int × Int)) := ((drw n).bind fun r => Tr.ret r).bind fun (low : Int) => ((drw (n - low)).bind fun r2 => Tr.ret ((low + (1 : Int)) + r2)).bind fun (high : Int) => ((drw (4 : Int)).bind fun r3 => Tr.ret r3).bind fun (lean : Int) => (Tr.ret ([] : List (Int × Int))).bind fun (found : (List (Int × Int))) => (((rng1 many).bind fun ws => Tr.ret ws).bind fun xs => forM xs found fun (a : Int) (s : (List (Int × Int))) => ((drw (6 : Int)).bind fun r4 => Tr.ret r4).bind fun (way_here : Int) => ((drw (n + (1 : Int))).bind fun r5 => (drw (n + (1 : Int))).bind fun r6 => Tr.ret (r5, r6)).bind fun (pair : (Int × Int)) => ((Tr.ret ((decide ((0 : Int) < lean)) && (decide (way_here < (4 : Int))))).bind fun t4 => if t4 = true then ((drw (low + (1 : Int))).bind fun r7 => (drw ((n - high) + (1 : Int))).bind fun r8 => Tr.ret (r7, (high + r8))).bind fun (pair2 : (Int × Int)) => ((Tr.ret (lean == (3 : Int))).bind fun t => if t = true then (Tr.ret (low, high)).bind fun (pair3 : (Int × Int)) => Tr.ret pair3 else Tr.ret pair2).bind fun (pair4 : (Int × Int)) => (((modI a (2 : Int)).bind fun m => Tr.ret (m == (1 : Int))).bind fun t2 => if t2 = true then (Tr.ret (pair4.2, pair4.1)).bind fun (pair5 : (Int × Int)) => Tr.ret pair5 else Tr.ret pair4).bind fun (pair6 : (Int × Int)) => Tr.ret pair6 else ((Tr.ret ((decide ((0 : Int) < lean)) && (way_here == (4 : Int)))).bind fun t3 => if t3 = true then ((drw ((high - low) + (1 : Int))).bind fun r9 => (drw ((high - low) + (1 : Int))).bind fun r10 => Tr.ret ((low + r9), (low + r10))).bind fun (pair7 : (Int × Int)) => Tr.ret pair7 else Tr.ret pair).bind fun (pair8 : (Int × Int)) => Tr.ret pair8).bind fun (pair9 : (Int × Int)) => ((chk (s.length < SZ)).bind fun _ => Tr.ret (s ++ [pair9])).bind fun (found2 : (List (Int × Int))) => Tr.ret found2).bind fun (s2 : (List (Int × Int))) => (Tr.ret s2).bind fun o => Tr.ret o
def S_law_ways (Γ : Pg) (i : Nat) : Prop := ∀ (k : Nat) (n_1 : Int) (many_2 : Int), 2 ≤ k → evCall Γ k i [(.ref 0), (.int n_1), (.int many_2)] = (F_law_ways n_1 many_2).bind fun (r : (List (Int × Int))) => .ret (true, (T.lst (List.map (fun (e0 : (Int × Int)) => (T.tup [(.int e0.1), (.int e0.2)])) r)))
theorem ok_law_ways {Γ : Pg} {i : Nat} {j_i_law_next : Nat} (hf : Γ.fns[i]? = some (.code 3 10 (B_law_ways j_i_law_next))) (hrp : Γ.rp = rpT) (h_i_law_next : S_next Γ j_i_law_next) : S_law_ways Γ i := fun k n_1 many_2 hk => by
  have core : ∀ (n : Int) (many : Int), evCall Γ k i [(.ref 0), (.int n), (.int many)] = (F_law_ways n many).bind (fun (r : (List (Int × Int))) => Tr.ret (true, (T.lst (List.map (fun (e0 : (Int × Int)) => (T.tup [(.int e0.1), (.int e0.2)])) r)))) := by
    intro n many
    obtain ⟨k, rfl, hj⟩ := ex_succ hk
    have c_i_law_next := fun x0 => h_i_law_next k x0 (by omega)
    rw [ev_code hf rfl]
    unfold F_law_ways
    show (evSs (ecx Γ k) [.set (.name 3) (.call j_i_law_next [(.var 0), (.var 1)]), .set (.name 4) (.bin .add (.bin .add (.var 3) (.int 1)) (.call j_i_law_next [(.var 0), (.bin .sub (.var 1) (.var 3))])), .set (.name 5) (.call j_i_law_next [(.var 0), (.int 4)]), .set (.name 6) (.new (.lst [])), .loop (.name 7) (.range [(.var 2)]) [.set (.name 8) (.call j_i_law_next [(.var 0), (.int 6)]), .set (.name 9) (.tup [(.call j_i_law_next [(.var 0), (.bin .add (.var 1) (.int 1))]), (.call j_i_law_next [(.var 0), (.bin .add (.var 1) (.int 1))])]), .cond (.and (.cmp .gt (.var 5) (.int 0)) (.cmp .lt (.var 8) (.int 4))) [.set (.name 9) (.tup [(.call j_i_law_next [(.var 0), (.bin .add (.var 3) (.int 1))]), (.bin .add (.var 4) (.call j_i_law_next [(.var 0), (.bin .add (.bin .sub (.var 1) (.var 4)) (.int 1))]))]), .cond (.cmp .eq (.var 5) (.int 3)) [.set (.name 9) (.tup [(.var 3), (.var 4)])] [], .cond (.cmp .eq (.bin .mod (.var 7) (.int 2)) (.int 1)) [.set (.name 9) (.rev (.var 9))] []] [.cond (.and (.cmp .gt (.var 5) (.int 0)) (.cmp .eq (.var 8) (.int 4))) [.set (.name 9) (.tup [(.bin .add (.var 3) (.call j_i_law_next [(.var 0), (.bin .add (.bin .sub (.var 4) (.var 3)) (.int 1))])), (.bin .add (.var 3) (.call j_i_law_next [(.var 0), (.bin .add (.bin .sub (.var 4) (.var 3)) (.int 1))]))])] []], .ex (.me .append (.var 6) [(.var 9)])], .ret (some (.var 6))] [some (.val (.ref 0)), some (.val (.int n)), some (.val (.int many)), none, none, none, none, none, none, none]).bind finF = Tr.bind _ (fun (r : (List (Int × Int))) => Tr.ret (true, (T.lst (List.map (fun (e0 : (Int × Int)) => (T.tup [(.int e0.1), (.int e0.2)])) r))))
    refine step (E := fun (low : Int) => [some (.val (.ref 0)), some (.val (.int n)), some (.val (.int many)), some (.val (.int low)), none, none, none, none, none, none]) (by (simp_arith [Nat.reduceBEq, Nat.reduceAdd, Nat.reduceEqDiff, hrp, c_i_law_next] <;> rfl)) fun low => ?_
    refine step (E := fun (high : Int) => [some (.val (.ref 0)), some (.val (.int n)), some (.val (.int many)), some (.val (.int low)), some (.val (.int high)), none, none, none, none, none]) (by (simp_arith [Nat.reduceBEq, Nat.reduceAdd, Nat.reduceEqDiff, hrp, c_i_law_next] <;> rfl)) fun high => ?_
    refine step (E := fun (lean : Int) => [some (.val (.ref 0)), some (.val (.int n)), some (.val (.int many)), some (.val (.int low)), some (.val (.int high)), some (.val (.int lean)), none, none, none, none]) (by (simp_arith [Nat.reduceBEq, Nat.reduceAdd, Nat.reduceEqDiff, hrp, c_i_law_next] <;> rfl)) fun lean => ?_
    refine step (E := fun (found : (List (Int × Int))) => [some (.val (.ref 0)), some (.val (.int n)), some (.val (.int many)), some (.val (.int low)), some (.val (.int high)), some (.val (.int lean)), some (.own (List.map (fun (e0 : (Int × Int)) => (T.tup [(.int e0.1), (.int e0.2)])) found)), none, none, none]) (by (simp_arith [Nat.reduceBEq, Nat.reduceAdd, Nat.reduceEqDiff, hrp, c_i_law_next] <;> rfl)) fun found => ?_
    refine step (loopS T.int (fun (s : (List (Int × Int))) => [some (.val (.ref 0)), some (.val (.int n)), some (.val (.int many)), some (.val (.int low)), some (.val (.int high)), some (.val (.int lean)), some (.own (List.map (fun (e0 : (Int × Int)) => (T.tup [(.int e0.1), (.int e0.2)])) s)), none, none, none]) (fun (a : Int) (s : (List (Int × Int))) => [some (.val (.ref 0)), some (.val (.int n)), some (.val (.int many)), some (.val (.int low)), some (.val (.int high)), some (.val (.int lean)), some (.own (List.map (fun (e0 : (Int × Int)) => (T.tup [(.int e0.1), (.int e0.2)])) s)), some (.val (.int a)), none, none]) (by (simp_arith [Nat.reduceBEq, Nat.reduceAdd, Nat.reduceEqDiff, hrp, c_i_law_next] <;> rfl)) (by (simp_arith [Nat.reduceBEq, Nat.reduceAdd, Nat.reduceEqDiff, hrp, c_i_law_next] <;> rfl)) (fun _ _ => by (simp_arith [Nat.reduceBEq, Nat.reduceAdd, Nat.reduceEqDiff, hrp, c_i_law_next] <;> rfl)) (fun a s => ?_)) (fun s2 => ?_)
    · refine step (E := fun (way_here : Int) => [some (.val (.ref 0)), some (.val (.int n)), some (.val (.int many)), some (.val (.int low)), some (.val (.int high)), some (.val (.int lean)), some (.own (List.map (fun (e0 : (Int × Int)) => (T.tup [(.int e0.1), (.int e0.2)])) s)), some (.val (.int a)), some (.val (.int way_here)), none]) (by (simp_arith [Nat.reduceBEq, Nat.reduceAdd, Nat.reduceEqDiff, hrp, c_i_law_next] <;> rfl)) fun way_here => ?_
      refine step (E := fun (pair : (Int × Int)) => [some (.val (.ref 0)), some (.val (.int n)), some (.val (.int many)), some (.val (.int low)), some (.val (.int high)), some (.val (.int lean)), some (.own (List.map (fun (e0 : (Int × Int)) => (T.tup [(.int e0.1), (.int e0.2)])) s)), some (.val (.int a)), some (.val (.int way_here)), some (.val (.tup [(.int pair.1), (.int pair.2)]))]) (by (simp_arith [Nat.reduceBEq, Nat.reduceAdd, Nat.reduceEqDiff, hrp, c_i_law_next] <;> rfl)) fun pair => ?_
      refine step (E := fun (pair9 : (Int × Int)) => [some (.val (.ref 0)), some (.val (.int n)), some (.val (.int many)), some (.val (.int low)), some (.val (.int high)), some (.val (.int lean)), some (.own (List.map (fun (e0 : (Int × Int)) => (T.tup [(.int e0.1), (.int e0.2)])) s)), some (.val (.int a)), some (.val (.int way_here)), some (.val (.tup [(.int pair9.1), (.int pair9.2)]))]) (ifS (by (simp_arith [Nat.reduceBEq, Nat.reduceAdd, Nat.reduceEqDiff, hrp, c_i_law_next] <;> rfl)) ?_ ?_) fun pair9 => ?_
      · refine step (E := fun (pair2 : (Int × Int)) => [some (.val (.ref 0)), some (.val (.int n)), some (.val (.int many)), some (.val (.int low)), some (.val (.int high)), some (.val (.int lean)), some (.own (List.map (fun (e0 : (Int × Int)) => (T.tup [(.int e0.1), (.int e0.2)])) s)), some (.val (.int a)), some (.val (.int way_here)), some (.val (.tup [(.int pair2.1), (.int pair2.2)]))]) (by (simp_arith [Nat.reduceBEq, Nat.reduceAdd, Nat.reduceEqDiff, hrp, c_i_law_next] <;> rfl)) fun pair2 => ?_
        refine step (E := fun (pair4 : (Int × Int)) => [some (.val (.ref 0)), some (.val (.int n)), some (.val (.int many)), some (.val (.int low)), some (.val (.int high)), some (.val (.int lean)), some (.own (List.map (fun (e0 : (Int × Int)) => (T.tup [(.int e0.1), (.int e0.2)])) s)), some (.val (.int a)), some (.val (.int way_here)), some (.val (.tup [(.int pair4.1), (.int pair4.2)]))]) (ifS (by (simp_arith [Nat.reduceBEq, Nat.reduceAdd, Nat.reduceEqDiff, hrp, c_i_law_next] <;> rfl)) ?_ ?_) fun pair4 => ?_
        · refine step (E := fun (pair3 : (Int × Int)) => [some (.val (.ref 0)), some (.val (.int n)), some (.val (.int many)), some (.val (.int low)), some (.val (.int high)), some (.val (.int lean)), some (.own (List.map (fun (e0 : (Int × Int)) => (T.tup [(.int e0.1), (.int e0.2)])) s)), some (.val (.int a)), some (.val (.int way_here)), some (.val (.tup [(.int pair3.1), (.int pair3.2)]))]) (by (simp_arith [Nat.reduceBEq, Nat.reduceAdd, Nat.reduceEqDiff, hrp, c_i_law_next] <;> rfl)) fun pair3 => ?_
          exact (by (simp_arith [Nat.reduceBEq, Nat.reduceAdd, Nat.reduceEqDiff, hrp, c_i_law_next] <;> rfl))
        · exact (by (simp_arith [Nat.reduceBEq, Nat.reduceAdd, Nat.reduceEqDiff, hrp, c_i_law_next] <;> rfl))
        refine step (E := fun (pair6 : (Int × Int)) => [some (.val (.ref 0)), some (.val (.int n)), some (.val (.int many)), some (.val (.int low)), some (.val (.int high)), some (.val (.int lean)), some (.own (List.map (fun (e0 : (Int × Int)) => (T.tup [(.int e0.1), (.int e0.2)])) s)), some (.val (.int a)), some (.val (.int way_here)), some (.val (.tup [(.int pair6.1), (.int pair6.2)]))]) (ifS (by (simp_arith [Nat.reduceBEq, Nat.reduceAdd, Nat.reduceEqDiff, hrp, c_i_law_next] <;> rfl)) ?_ ?_) fun pair6 => ?_
        · refine step (E := fun (pair5 : (Int × Int)) => [some (.val (.ref 0)), some (.val (.int n)), some (.val (.int many)), some (.val (.int low)), some (.val (.int high)), some (.val (.int lean)), some (.own (List.map (fun (e0 : (Int × Int)) => (T.tup [(.int e0.1), (.int e0.2)])) s)), some (.val (.int a)), some (.val (.int way_here)), some (.val (.tup [(.int pair5.1), (.int pair5.2)]))]) (by (simp_arith [Nat.reduceBEq, Nat.reduceAdd, Nat.reduceEqDiff, hrp, c_i_law_next] <;> rfl)) fun pair5 => ?_
          exact (by (simp_arith [Nat.reduceBEq, Nat.reduceAdd, Nat.reduceEqDiff, hrp, c_i_law_next] <;> rfl))
        · exact (by (simp_arith [Nat.reduceBEq, Nat.reduceAdd, Nat.reduceEqDiff, hrp, c_i_law_next] <;> rfl))
        exact (by (simp_arith [Nat.reduceBEq, Nat.reduceAdd, Nat.reduceEqDiff, hrp, c_i_law_next] <;> rfl))
      · refine step (E := fun (pair8 : (Int × Int)) => [some (.val (.ref 0)), some (.val (.int n)), some (.val (.int many)), some (.val (.int low)), some (.val (.int high)), some (.val (.int lean)), some (.own (List.map (fun (e0 : (Int × Int)) => (T.tup [(.int e0.1), (.int e0.2)])) s)), some (.val (.int a)), some (.val (.int way_here)), some (.val (.tup [(.int pair8.1), (.int pair8.2)]))]) (ifS (by (simp_arith [Nat.reduceBEq, Nat.reduceAdd, Nat.reduceEqDiff, hrp, c_i_law_next] <;> rfl)) ?_ ?_) fun pair8 => ?_
        · refine step (E := fun (pair7 : (Int × Int)) => [some (.val (.ref 0)), some (.val (.int n)), some (.val (.int many)), some (.val (.int low)), some (.val (.int high)), some (.val (.int lean)), some (.own (List.map (fun (e0 : (Int × Int)) => (T.tup [(.int e0.1), (.int e0.2)])) s)), some (.val (.int a)), some (.val (.int way_here)), some (.val (.tup [(.int pair7.1), (.int pair7.2)]))]) (by (simp_arith [Nat.reduceBEq, Nat.reduceAdd, Nat.reduceEqDiff, hrp, c_i_law_next] <;> rfl)) fun pair7 => ?_
          exact (by (simp_arith [Nat.reduceBEq, Nat.reduceAdd, Nat.reduceEqDiff, hrp, c_i_law_next] <;> rfl))
        · exact (by (simp_arith [Nat.reduceBEq, Nat.reduceAdd, Nat.reduceEqDiff, hrp, c_i_law_next] <;> rfl))
        exact (by (simp_arith [Nat.reduceBEq, Nat.reduceAdd, Nat.reduceEqDiff, hrp, c_i_law_next] <;> rfl))
      refine step (E := fun (found2 : (List (Int × Int))) => [some (.val (.ref 0)), some (.val (.int n)), some (.val (.int many)), some (.val (.int low)), some (.val (.int high)), some (.val (.int lean)), some (.own (List.map (fun (e0 : (Int × Int)) => (T.tup [(.int e0.1), (.int e0.2)])) found2)), some (.val (.int a)), some (.val (.int way_here)), some (.val (.tup [(.int pair9.1), (.int pair9.2)]))]) (by (simp_arith [Nat.reduceBEq, Nat.reduceAdd, Nat.reduceEqDiff, hrp, c_i_law_next] <;> rfl)) fun found2 => ?_
      exact (by (simp_arith [Nat.reduceBEq, Nat.reduceAdd, Nat.reduceEqDiff, hrp, c_i_law_next] <;> rfl))
    exact stepR (fe := fun (o : (List (Int × Int))) => (true, (T.lst (List.map (fun (e0 : (Int × Int)) => (T.tup [(.int e0.1), (.int e0.2)])) o)))) (by (simp_arith [Nat.reduceBEq, Nat.reduceAdd, Nat.reduceEqDiff, hrp, c_i_law_next] <;> rfl)) (fun _ => rfl)
  exact core n_1 many_2
end Mo

set_option Elab.async false
set_option linter.all false
set_option maxRecDepth 100000
set_option maxHeartbeats 1000000
set_option autoImplicit false
namespace Mo
section
variable {E : Ex → Prop}
def InN (n : Int) (p : Int × Int) : Prop := (0 ≤ p.1 ∧ p.1 ≤ n) ∧ 0 ≤ p.2 ∧ p.2 ≤ n
theorem sp_ways {n many : Int} {P : List (Int × Int) → Prop} (n0 : 1 ≤ n) (n1 : n ≤ 1000) (m0 : 0 ≤ many) (m1 : many ≤ 1000) (h : ∀ ps : List (Int × Int), (ps.length : Int) = many → (∀ p ∈ ps, InN n p) → P ps) : (F_law_ways n many).all E P := by
  unfold F_law_ways
  simp only [hbind, hret, hdrw, hrng1]
  refine ⟨dOk' (by omega) (by omega), fun low l0 l1 => ⟨dOk' (by omega) (by omega), fun r r0 r1 => ⟨dOk' (by omega) (by omega), fun lean e0 e1 => ⟨by omega, ?_⟩⟩⟩⟩
  refine hforM_app (fun _ p => InN n p) (by rw [len_rngI, sz_val]; simp; omega) (fun a ha l hl => ?_) fun ys hys => ?_
  · have ha := mem_rngI.mp ha
    simp only [hbind, hret, hdrw, hif, hmod, hchk]
    refine ⟨dOk' (by omega) (by omega), fun way w0 w1 => ⟨dOk' (by omega) (by omega), fun a a0 a1 => ⟨dOk' (by omega) (by omega), fun b b0 b1 => ⟨fun c => ?_, fun c => ⟨fun c2 => ?_, fun c2 => ?_⟩⟩⟩⟩⟩
    · refine ⟨dOk' (by omega) (by omega), fun u u0 u1 => ⟨dOk' (by omega) (by omega), fun v v0 v1 => ⟨fun c2 => ⟨by omega, ⟨fun c3 => ?_, fun c3 => ?_⟩⟩, fun c2 => ⟨by omega, ⟨fun c3 => ?_, fun c3 => ?_⟩⟩⟩⟩⟩
      all_goals exact ⟨hl, _, rfl, by unfold InN; dsimp only; omega⟩
    · refine ⟨dOk' (by omega) (by omega), fun u u0 u1 => ⟨dOk' (by omega) (by omega), fun v v0 v1 => ⟨hl, _, rfl, by unfold InN; dsimp only; omega⟩⟩⟩
    · exact ⟨hl, _, rfl, by unfold InN; dsimp only; omega⟩
  · refine h ys ?_ fun p hp => ?_
    · have := hys.length; rw [len_rngI] at this; omega
    · obtain ⟨_, _, h1⟩ := hys.right p hp; exact h1
end
end Mo

set_option Elab.async false
set_option linter.all false
set_option maxRecDepth 100000
set_option maxHeartbeats 2000000
set_option autoImplicit false
namespace Mo
open PySem PyProof.Rows
def B_law_counted : List Sm := [.set (.name 2) (.dnew true), .loop (.tup [(.name 3), (.name 4)]) (.seq (.ex (.var 0))) [.cond (.cmp .ne (.var 3) (.var 4)) [.sub (.var 2) (.tup [(.var 3), (.var 4)]) (.bin .add (.me .get2 (.var 2) [(.tup [(.var 3), (.var 4)]), (.int 0)]) (.var 1))] []], .ret (some (.li .tuple (.comp (.bin .add (.var 6) (.tup [(.idx (.var 2) (.var 6))])) [] (.name 6) [5, 6] (.seq (.ex (.new (.srtE (.var 2))))))))]
def F_law_counted (pairs : (List (Int × Int))) (weight : Int) : Tr (List (Int × Int × Int)) := (Tr.ret ([] : (List ((Int × Int) × Int)))).bind fun (counts : (List ((Int × Int) × Int))) => ((Tr.ret pairs).bind fun xs => forM xs counts fun (a : (Int × Int)) (s : (List ((Int × Int) × Int))) => ((Tr.ret (!(a.1 == a.2))).bind fun t => if t = true then ((chk (s.length < 1000)).bind fun _ => Tr.ret (putA (fun (x2 y2 : (Int × Int)) => ((x2.1 == y2.1) && (x2.2 == y2.2))) (a.1, a.2) (((lookA (fun (x y : (Int × Int)) => ((x.1 == y.1) && (x.2 == y.2))) (a.1, a.2) s).getD (0 : Int)) + weight) s)).bind fun (counts2 : (List ((Int × Int) × Int))) => Tr.ret counts2 else Tr.ret s).bind fun (counts3 : (List ((Int × Int) × Int))) => Tr.ret counts3).bind fun (s2 : (List ((Int × Int) × Int))) => ((chk (s2.length ≤ 16777216)).bind fun _ => (coA (fun (pair : (Int × Int)) => (Tr.ofO (lookA (fun (x6 y6 : (Int × Int)) => ((x6.1 == y6.1) && (x6.2 == y6.2))) pair s2)).bind fun d => Tr.ret (pair.1, pair.2, d)) ((s2.mergeSort fun (x5 y5 : (Int × Int) × Int) => !(if (y5.1.1 == x5.1.1) = true then (if (y5.1.2 == x5.1.2) = true then false else (decide (y5.1.2 < x5.1.2))) else (decide (y5.1.1 < x5.1.1)))).map fun (x5 : (Int × Int) × Int) => x5.1)).bind fun ys => Tr.ret ys).bind fun o => Tr.ret o
def S_law_counted (Γ : Pg) (i : Nat) : Prop := ∀ (k : Nat) (pairs_1 : (List (Int × Int))) (weight_2 : Int), 1 ≤ k → evCall Γ k i [(.lst (List.map (fun (e0 : (Int × Int)) => (T.tup [(.int e0.1), (.int e0.2)])) pairs_1)), (.int weight_2)] = (F_law_counted pairs_1 weight_2).bind fun (r : (List (Int × Int × Int))) => .ret (false, (T.tup (List.map (fun (e0 : (Int × Int × Int)) => (T.tup [(.int e0.1), (.int e0.2.1), (.int e0.2.2)])) r)))
theorem ok_law_counted {Γ : Pg} {i : Nat} (hf : Γ.fns[i]? = some (.code 2 7 (B_law_counted))) (hrp : Γ.rp = rpT) : S_law_counted Γ i := fun k pairs_1 weight_2 hk => by
  have core : ∀ (pairs : (List (Int × Int))) (weight : Int), evCall Γ k i [(.lst (List.map (fun (e0 : (Int × Int)) => (T.tup [(.int e0.1), (.int e0.2)])) pairs)), (.int weight)] = (F_law_counted pairs weight).bind (fun (r : (List (Int × Int × Int))) => Tr.ret (false, (T.tup (List.map (fun (e0 : (Int × Int × Int)) => (T.tup [(.int e0.1), (.int e0.2.1), (.int e0.2.2)])) r)))) := by
    intro pairs weight
    obtain ⟨k, rfl, hj⟩ := ex_succ hk
    rw [ev_code hf rfl]
    unfold F_law_counted
    show (evSs (ecx Γ k) [.set (.name 2) (.dnew true), .loop (.tup [(.name 3), (.name 4)]) (.seq (.ex (.var 0))) [.cond (.cmp .ne (.var 3) (.var 4)) [.sub (.var 2) (.tup [(.var 3), (.var 4)]) (.bin .add (.me .get2 (.var 2) [(.tup [(.var 3), (.var 4)]), (.int 0)]) (.var 1))] []], .ret (some (.li .tuple (.comp (.bin .add (.var 6) (.tup [(.idx (.var 2) (.var 6))])) [] (.name 6) [5, 6] (.seq (.ex (.new (.srtE (.var 2))))))))] [some (.val (.lst (List.map (fun (e0 : (Int × Int)) => (T.tup [(.int e0.1), (.int e0.2)])) pairs))), some (.val (.int weight)), none, none, none, none, none]).bind finF = Tr.bind _ (fun (r : (List (Int × Int × Int))) => Tr.ret (false, (T.tup (List.map (fun (e0 : (Int × Int × Int)) => (T.tup [(.int e0.1), (.int e0.2.1), (.int e0.2.2)])) r))))
    refine step (E := fun (counts : (List ((Int × Int) × Int))) => [some (.val (.lst (List.map (fun (e0 : (Int × Int)) => (T.tup [(.int e0.1), (.int e0.2)])) pairs))), some (.val (.int weight)), some (.ownD true (List.map (fun (e0 : (Int × Int) × Int) => (T.tup [(.int e0.1.1), (.int e0.1.2)])) counts) (List.map (fun (e0 : (Int × Int) × Int) => (T.int e0.2)) counts)), none, none, none, none]) (by (simp_arith [Nat.reduceBEq, Nat.reduceAdd, Nat.reduceEqDiff, hrp] <;> rfl)) fun counts => ?_
    refine step (loopS (fun (e0 : (Int × Int)) => (T.tup [(.int e0.1), (.int e0.2)])) (fun (s : (List ((Int × Int) × Int))) => [some (.val (.lst (List.map (fun (e0 : (Int × Int)) => (T.tup [(.int e0.1), (.int e0.2)])) pairs))), some (.val (.int weight)), some (.ownD true (List.map (fun (e0 : (Int × Int) × Int) => (T.tup [(.int e0.1.1), (.int e0.1.2)])) s) (List.map (fun (e0 : (Int × Int) × Int) => (T.int e0.2)) s)), none, none, none, none]) (fun (a : (Int × Int)) (s : (List ((Int × Int) × Int))) => [some (.val (.lst (List.map (fun (e0 : (Int × Int)) => (T.tup [(.int e0.1), (.int e0.2)])) pairs))), some (.val (.int weight)), some (.ownD true (List.map (fun (e0 : (Int × Int) × Int) => (T.tup [(.int e0.1.1), (.int e0.1.2)])) s) (List.map (fun (e0 : (Int × Int) × Int) => (T.int e0.2)) s)), some (.val (.int a.1)), some (.val (.int a.2)), none, none]) (by (simp_arith [Nat.reduceBEq, Nat.reduceAdd, Nat.reduceEqDiff, hrp] <;> rfl)) (by (simp_arith [Nat.reduceBEq, Nat.reduceAdd, Nat.reduceEqDiff, hrp] <;> rfl)) (fun _ _ => by (simp_arith [Nat.reduceBEq, Nat.reduceAdd, Nat.reduceEqDiff, hrp] <;> rfl)) (fun a s => ?_)) (fun s2 => ?_)
    · refine step (E := fun (counts3 : (List ((Int × Int) × Int))) => [some (.val (.lst (List.map (fun (e0 : (Int × Int)) => (T.tup [(.int e0.1), (.int e0.2)])) pairs))), some (.val (.int weight)), some (.ownD true (List.map (fun (e0 : (Int × Int) × Int) => (T.tup [(.int e0.1.1), (.int e0.1.2)])) counts3) (List.map (fun (e0 : (Int × Int) × Int) => (T.int e0.2)) counts3)), some (.val (.int a.1)), some (.val (.int a.2)), none, none]) (ifS (by (simp_arith [Nat.reduceBEq, Nat.reduceAdd, Nat.reduceEqDiff, hrp] <;> rfl)) ?_ ?_) fun counts3 => ?_
      · have z0 := fun (k0 : Int) (k1 : Int) (m : List ((Int × Int) × Int)) => lookD_A (fun (e0 : (Int × Int)) => (T.tup [(.int e0.1), (.int e0.2)])) (fun (e0 : Int) => (T.int e0)) (fun (x3 y3 : (Int × Int)) => ((x3.1 == y3.1) && (x3.2 == y3.2))) (by intros; simp_arith [ltT, ltTs, alk, alks, depT, depTs, Nat.reduceLeDiff, Nat.reduceAdd, Nat.max_self, Nat.zero_le] <;> first | rfl | decide) (k0, k1) m
        try simp_arith [Nat.reduceBEq, Nat.reduceAdd, Nat.reduceEqDiff, hrp] at z0
        have z1a := fun (k0 : (Int × Int)) (w0 : Int) (m : List ((Int × Int) × Int)) => (putKs_A (fun (e0 : (Int × Int)) => (T.tup [(.int e0.1), (.int e0.2)])) (fun (x4 y4 : (Int × Int)) => ((x4.1 == y4.1) && (x4.2 == y4.2))) (by intros; simp_arith [ltT, ltTs, alk, alks, depT, depTs, Nat.reduceLeDiff, Nat.reduceAdd, Nat.max_self, Nat.zero_le] <;> first | rfl | decide) k0 w0 m).symm
        try simp_arith [Nat.reduceBEq, Nat.reduceAdd, Nat.reduceEqDiff, hrp] at z1a
        have z1b := fun (k0 : (Int × Int)) (w0 : Int) (m : List ((Int × Int) × Int)) => (putVs_A (fun (e0 : (Int × Int)) => (T.tup [(.int e0.1), (.int e0.2)])) (fun (e0 : Int) => (T.int e0)) (fun (x4 y4 : (Int × Int)) => ((x4.1 == y4.1) && (x4.2 == y4.2))) (by intros; simp_arith [ltT, ltTs, alk, alks, depT, depTs, Nat.reduceLeDiff, Nat.reduceAdd, Nat.max_self, Nat.zero_le] <;> first | rfl | decide) k0 w0 m).symm
        try simp_arith [Nat.reduceBEq, Nat.reduceAdd, Nat.reduceEqDiff, hrp] at z1b
        refine step (E := fun (counts2 : (List ((Int × Int) × Int))) => [some (.val (.lst (List.map (fun (e0 : (Int × Int)) => (T.tup [(.int e0.1), (.int e0.2)])) pairs))), some (.val (.int weight)), some (.ownD true (List.map (fun (e0 : (Int × Int) × Int) => (T.tup [(.int e0.1.1), (.int e0.1.2)])) counts2) (List.map (fun (e0 : (Int × Int) × Int) => (T.int e0.2)) counts2)), some (.val (.int a.1)), some (.val (.int a.2)), none, none]) (by (simp_arith [Nat.reduceBEq, Nat.reduceAdd, Nat.reduceEqDiff, hrp, z0, z1a, z1b] <;> rfl)) fun counts2 => ?_
        exact (by (simp_arith [Nat.reduceBEq, Nat.reduceAdd, Nat.reduceEqDiff, hrp] <;> rfl))
      · exact (by (simp_arith [Nat.reduceBEq, Nat.reduceAdd, Nat.reduceEqDiff, hrp] <;> rfl))
      exact (by (simp_arith [Nat.reduceBEq, Nat.reduceAdd, Nat.reduceEqDiff, hrp] <;> rfl))
    have z2 := fun xs => srtD_map (xs := xs) (fun (e0 : (Int × Int) × Int) => (T.tup [(.int e0.1.1), (.int e0.1.2)])) (fun (x5 y5 : (Int × Int) × Int) => (if (x5.1.1 == y5.1.1) = true then (if (x5.1.2 == y5.1.2) = true then false else (decide (x5.1.2 < y5.1.2))) else (decide (x5.1.1 < y5.1.1)))) (by intros; simp_arith [ltT, ltTs, alk, alks, depT, depTs, Nat.reduceLeDiff, Nat.reduceAdd, Nat.max_self, Nat.zero_le] <;> first | rfl | decide) (by intros; simp_arith [ltT, ltTs, alk, alks, depT, depTs, Nat.reduceLeDiff, Nat.reduceAdd, Nat.max_self, Nat.zero_le] <;> first | rfl | decide) (by intros; simp_arith [ltT, ltTs, alk, alks, depT, depTs, Nat.reduceLeDiff, Nat.reduceAdd, Nat.max_self, Nat.zero_le] <;> first | rfl | decide) (by intros; simp_arith [ltT, ltTs, alk, alks, depT, depTs, Nat.reduceLeDiff, Nat.reduceAdd, Nat.max_self, Nat.zero_le] <;> first | rfl | decide) (by first | exact .inl (fun _ => rfl) | exact .inr (fun _ => rfl))
    try simp_arith [Nat.reduceBEq, Nat.reduceAdd, Nat.reduceEqDiff, hrp] at z2
    have z3 := fun (k0 : Int) (k1 : Int) (m : List ((Int × Int) × Int)) => lookD_A (fun (e0 : (Int × Int)) => (T.tup [(.int e0.1), (.int e0.2)])) (fun (e0 : Int) => (T.int e0)) (fun (x7 y7 : (Int × Int)) => ((x7.1 == y7.1) && (x7.2 == y7.2))) (by intros; simp_arith [ltT, ltTs, alk, alks, depT, depTs, Nat.reduceLeDiff, Nat.reduceAdd, Nat.max_self, Nat.zero_le] <;> first | rfl | decide) (k0, k1) m
    try simp_arith [Nat.reduceBEq, Nat.reduceAdd, Nat.reduceEqDiff, hrp] at z3
    have z4 := fun (ys0 : List ((Int × Int) × Int)) => coA_ev (fun (pair : (Int × Int)) => (Tr.ofO (lookA (fun (x6 y6 : (Int × Int)) => ((x6.1 == y6.1) && (x6.2 == y6.2))) pair s2)).bind fun d => Tr.ret (pair.1, pair.2, d)) (fun (e0 : (Int × Int × Int)) => (T.tup [(.int e0.1), (.int e0.2.1), (.int e0.2.2)])) (ys0.map (fun (x5 : (Int × Int) × Int) => x5.1))
    try simp_arith [Nat.reduceBEq, Nat.reduceAdd, Nat.reduceEqDiff, hrp] at z4
    exact stepR (fe := fun (o : (List (Int × Int × Int))) => (false, (T.tup (List.map (fun (e0 : (Int × Int × Int)) => (T.tup [(.int e0.1), (.int e0.2.1), (.int e0.2.2)])) o)))) (by (simp_arith [Nat.reduceBEq, Nat.reduceAdd, Nat.reduceEqDiff, hrp, z2, z3, z4] <;> rfl)) (fun _ => rfl)
  exact core pairs_1 weight_2
end Mo

set_option Elab.async false
set_option linter.all false
set_option maxRecDepth 100000
set_option maxHeartbeats 1000000
set_option autoImplicit false
namespace Mo
section
theorem pq_iff (a b : Int × Int) : ((a.1 == b.1) && (a.2 == b.2)) = true ↔ a = b := by
  simp [Prod.ext_iff]
theorem sp_counted {ps : List (Int × Int)} {w : Int} (hp : ps.length ≤ 900) : ∃ R, F_law_counted ps w = .ret R ∧ Counted ps w R := by
  unfold F_law_counted
  simp only [tr_ret, bret]
  have main := forM_fold (xs := ps) (s0 := ([] : List ((Int × Int) × Int))) (f := fun (a : (Int × Int)) (s : (List ((Int × Int) × Int))) => if (!a.1 == a.2) = true then (chk (s.length < 1000)).bind fun _ => Tr.ret (putA (fun (x2 y2 : (Int × Int)) => ((x2.1 == y2.1) && (x2.2 == y2.2))) (a.1, a.2) (((lookA (fun (x y : (Int × Int)) => ((x.1 == y.1) && (x.2 == y.2))) (a.1, a.2) s).getD (0 : Int)) + w) s) else Tr.ret s)
    (fun s a => if (!a.1 == a.2) = true then putA (fun (x2 y2 : (Int × Int)) => ((x2.1 == y2.1) && (x2.2 == y2.2))) a (((lookA (fun (x y : (Int × Int)) => ((x.1 == y.1) && (x.2 == y.2))) a s).getD (0 : Int)) + w) s else s)
    (fun n s => s.length + n ≤ 900) (by simpa using hp) fun a _ n s hs => by
      by_cases e : (!a.1 == a.2) = true
      · simp only [if_pos e, chk_ok (show s.length < 1000 by omega), tr_ret]
        refine ⟨trivial, ?_⟩
        have := len_put (q := fun (x2 y2 : (Int × Int)) => ((x2.1 == y2.1) && (x2.2 == y2.2))) pq_iff (k := a) (v := ((lookA (fun (x y : (Int × Int)) => ((x.1 == y.1) && (x.2 == y.2))) a s).getD (0 : Int)) + w) (s := s)
        omega
      · simp only [if_neg e]
        exact ⟨trivial, by omega⟩
  have cnt : ∀ (xs pre : List (Int × Int)) (s : List ((Int × Int) × Int)), Cnt pre w s → Cnt (pre ++ xs) w (xs.foldl (fun s a => if (!a.1 == a.2) = true then putA (fun (x2 y2 : (Int × Int)) => ((x2.1 == y2.1) && (x2.2 == y2.2))) a (((lookA (fun (x y : (Int × Int)) => ((x.1 == y.1) && (x.2 == y.2))) a s).getD (0 : Int)) + w) s else s) s) := by
    intro xs
    induction xs with
    | nil => intro pre s h; simpa using h
    | cons x xs ih =>
      intro pre s h
      rw [List.foldl_cons, show pre ++ x :: xs = (pre ++ [x]) ++ xs by simp]
      refine ih _ _ ?_
      by_cases e : x.1 = x.2
      · rw [if_neg (by simp [e])]; exact h.skip e
      · rw [if_pos (by simp [e])]; exact h.put pq_iff e
  have c := cnt ps [] [] (Cnt.nil w)
  rw [List.nil_append] at c
  rw [main.1]
  generalize ps.foldl _ [] = s at c
  simp only [tr_ret]
  rw [chk_ok (by have := c.len; omega)]
  simp only [tr_ret]
  have sp := List.mergeSort_perm s (fun (x5 y5 : (Int × Int) × Int) => !(if (y5.1.1 == x5.1.1) = true then (if (y5.1.2 == x5.1.2) = true then false else (decide (y5.1.2 < x5.1.2))) else (decide (y5.1.1 < x5.1.1))))
  have so := srt_keys c.nd (le := fun (x5 y5 : (Int × Int) × Int) => !(if (y5.1.1 == x5.1.1) = true then (if (y5.1.2 == x5.1.2) = true then false else (decide (y5.1.2 < x5.1.2))) else (decide (y5.1.1 < x5.1.1)))) (fun _ _ => rfl)
  generalize s.mergeSort _ = t at sp so
  rw [coA_ret (fun p => (p.1, p.2, w * (ps.count p : Int))) fun p hpm => ?_]
  · refine ⟨_, rfl, ?_, ?_, ?_⟩
    · rw [List.map_map, List.pairwise_map]
      exact so
    · intro r hr
      rw [List.map_map] at hr
      obtain ⟨z, hz, rfl⟩ := List.mem_map.mp hr
      obtain ⟨h1, h2, h3⟩ := c.of z.1 z.2 (sp.mem_iff.mp hz)
      exact ⟨h1, h2, rfl⟩
    · intro p hpm hne
      obtain ⟨z, hz, e⟩ := List.mem_map.mp (c.all p hpm hne)
      rw [List.map_map]
      exact ⟨_, List.mem_map.mpr ⟨z, sp.mem_iff.mpr hz, rfl⟩, by rw [← e]; rfl⟩
  · obtain ⟨z, hz, e⟩ := List.mem_map.mp hpm
    have hm := sp.mem_iff.mp hz
    have : lookA (fun (x6 y6 : (Int × Int)) => ((x6.1 == y6.1) && (x6.2 == y6.2))) p s = some z.2 := lookA_of pq_iff c.nd (by rw [← e]; exact hm)
    rw [this]
    simp only [tr_some, tr_ret]
    rw [(c.of z.1 z.2 hm).2.2, e]
/-- rows of a tally -/
structure TallyRows (n : Int) (w : Int) (c : Nat) (rows : List (Int × Int × Int)) : Prop where
  len : rows.length ≤ c
  ord : rows.Pairwise fun a b => pLt (a.1, a.2.1) (b.1, b.2.1)
  row : ∀ r ∈ rows, ((0 ≤ r.1 ∧ r.1 ≤ n) ∧ 0 ≤ r.2.1 ∧ r.2.1 ≤ n) ∧ r.1 ≠ r.2.1 ∧ w ≤ r.2.2 ∧ r.2.2 ≤ w * c
theorem Counted.keys {ps : List (Int × Int)} {w : Int} {R : List (Int × Int × Int)} (h : Counted ps w R) : (R.map fun r => (r.1, r.2.1)).Nodup := by
  rw [List.Nodup, List.pairwise_map]
  refine h.ord.imp fun hab z => ?_
  have z1 := congrArg Prod.fst z
  have z2 := congrArg Prod.snd z
  unfold pLt at hab
  simp only at z1 z2 hab
  omega
theorem nodup_le {α : Type} [DecidableEq α] : ∀ {l m : List α}, l.Nodup → (∀ a ∈ l, a ∈ m) → l.length ≤ m.length
  | [], _, _, _ => Nat.zero_le _
  | a :: l, m, nd, h => by
    rw [List.nodup_cons] at nd
    have hm := h a (.head _)
    have := nodup_le (m := m.erase a) nd.2 fun b hb => (List.mem_erase_of_ne (fun (z : b = a) => nd.1 (z ▸ hb))).mpr (h b (.tail _ hb))
    rw [List.length_erase_of_mem hm] at this
    have hp : 0 < m.length := List.length_pos_of_mem hm
    rw [List.length_cons]; omega
theorem Counted.rows {ps : List (Int × Int)} {w n : Int} {R : List (Int × Int × Int)} (h : Counted ps w R) (hw : 0 ≤ w) (hp : ∀ p ∈ ps, InN n p) : TallyRows n w ps.length R := by
  refine ⟨?_, h.ord, fun r hr => ?_⟩
  · have := nodup_le h.keys (m := ps) fun a ha => by
      obtain ⟨r, hr, rfl⟩ := List.mem_map.mp ha
      exact (h.of r hr).2.1
    rwa [List.length_map] at this
  · obtain ⟨h1, h2, h3⟩ := h.of r hr
    have c1 : 1 ≤ (ps.count (r.1, r.2.1) : Int) := by have := List.count_pos_iff.mpr h2; omega
    have c2 : (ps.count (r.1, r.2.1) : Int) ≤ ps.length := by have := List.count_le_length (a := (r.1, r.2.1)) (l := ps); omega
    refine ⟨hp _ h2, h1, ?_, ?_⟩
    · rw [h3]
      have := Int.mul_le_mul_of_nonneg_left c1 hw
      omega
    · rw [h3]; exact Int.mul_le_mul_of_nonneg_left c2 hw
theorem TallyRows.rin {n : Nat} {w : Int} {c : Nat} {rows : List (Int × Int × Int)} (h : TallyRows n w c rows) : RowsIn n rows := fun r hr => (h.row r hr).1
theorem pass_le {rows : List (Int × Int × Int)} {b : Int} (h : ∀ r ∈ rows, 0 ≤ r.2.2 ∧ r.2.2 ≤ b) (F : Int × Int × Int → Int × Int) : ∀ (f : Nat → Int) (B : Int) (w : Nat), 0 ≤ f w ∧ f w ≤ B → 0 ≤ (rows.foldl (fun f r => addS (F r).1 (F r).2 r.2.2 f) f) w ∧ (rows.foldl (fun f r => addS (F r).1 (F r).2 r.2.2 f) f) w ≤ B + b * rows.length := by
  induction rows with
  | nil => intro f B w hf; simpa using hf
  | cons r rows ih =>
    intro f B w hf
    have hr := h r (.head _)
    rw [List.foldl_cons]
    have := ih (fun z hz => h z (.tail _ hz)) (addS (F r).1 (F r).2 r.2.2 f) (B + b) w (by unfold addS; split <;> omega)
    rw [show B + b * ((r :: rows).length : Int) = B + b + b * rows.length by rw [List.length_cons, Int.natCast_add, Int.mul_add]; omega]
    exact this
theorem TallyRows.pass {n w : Int} {c : Nat} {rows : List (Int × Int × Int)} (h : TallyRows n w c rows) (hc : c ≤ 1000) (hw0 : 0 ≤ w) (hw : w ≤ 10 ^ 50) : PassOk rows := fun v => by
  have l : (w * c) * (rows.length : Int) ≤ 10 ^ 60 := by
    have := h.len
    have l1 : w * (c : Int) ≤ 10 ^ 50 * 1000 := Int.mul_le_mul hw (by omega) (by omega) (by omega)
    have l2 : (w * c) * (rows.length : Int) ≤ (10 ^ 50 * 1000) * 1000 := Int.mul_le_mul l1 (by omega) (by omega) (by omega)
    omega
  have hb : ∀ r ∈ rows, 0 ≤ r.2.2 ∧ r.2.2 ≤ w * c := fun r hr => by have := (h.row r hr).2.2; omega
  have e := pass_le hb (fun r => (r.1, r.2.1)) (fun _ => 0) 0 v ⟨Int.le_refl _, Int.le_refl _⟩
  have f := pass_le hb (fun r => (r.2.1, r.1)) (fun _ => 0) 0 v ⟨Int.le_refl _, Int.le_refl _⟩
  unfold passE passW
  have l2 : 0 + w * c * (rows.length : Int) ≤ 10 ^ 60 := by omega
  exact ⟨⟨e.1, Int.le_trans e.2 l2⟩, f.1, Int.le_trans f.2 l2⟩
end
end Mo

set_option Elab.async false
set_option linter.all false
set_option maxRecDepth 100000
set_option maxHeartbeats 2000000
set_option autoImplicit false
namespace Mo
open PySem PyProof.Rows
def B_law_names (j_i_law_next : Nat) : List Sm := [.set (.name 2) (.str [97, 98, 99, 100, 101, 102, 103, 104, 105, 106, 107, 108, 109, 110, 111, 112, 113, 114, 115, 116, 117, 118, 119, 120, 121, 122]), .set (.name 3) (.call j_i_law_next [(.var 0), (.int 26)]), .set (.name 4) (.join (.str []) (.comp (.idx (.var 2) (.call j_i_law_next [(.var 0), (.int 26)])) [] (.name 7) [6, 7] (.range [(.call j_i_law_next [(.var 0), (.int 4)])]))), .set (.name 5) (.join (.str []) (.comp (.idx (.var 2) (.call j_i_law_next [(.var 0), (.int 26)])) [] (.name 7) [6, 7] (.range [(.call j_i_law_next [(.var 0), (.int 4)])]))), .ret (some (.new (.srt (.comp (.bin .add (.bin .add (.var 4) (.idx (.var 2) (.bin .mod (.bin .add (.var 3) (.bin .mul (.int 7) (.var 7))) (.int 26)))) (.var 5)) [] (.name 7) [6, 7] (.range [(.var 1)])))))]
def F_law_names (many : Int) : Tr (List Sg) := (Tr.ret ([97, 98, 99, 100, 101, 102, 103, 104, 105, 106, 107, 108, 109, 110, 111, 112, 113, 114, 115, 116, 117, 118, 119, 120, 121, 122] : Sg)).bind fun (letters : Sg) => ((drw (26 : Int)).bind fun r => Tr.ret r).bind fun (first' : Int) => ((drw (4 : Int)).bind fun r2 => (rng1 r2).bind fun ws => (coA (fun (k : Int) => (drw (26 : Int)).bind fun r3 => (Tr.ofO (atT letters r3)).bind fun c => Tr.ret [c]) ws).bind fun ys => (chk ((ys.map (·.length)).sum + ys.length * ([] : Sg).length ≤ SZ)).bind fun _ => Tr.ret (List.intercalate ([] : Sg) ys)).bind fun (head : Sg) => ((drw (4 : Int)).bind fun r4 => (rng1 r4).bind fun ws2 => (coA (fun (k2 : Int) => (drw (26 : Int)).bind fun r5 => (Tr.ofO (atT letters r5)).bind fun c2 => Tr.ret [c2]) ws2).bind fun ys2 => (chk ((ys2.map (·.length)).sum + ys2.length * ([] : Sg).length ≤ SZ)).bind fun _ => Tr.ret (List.intercalate ([] : Sg) ys2)).bind fun (tail : Sg) => ((rng1 many).bind fun ws3 => (coA (fun (k3 : Int) => (mulI (7 : Int) k3).bind fun m => (modI (first' + m) (26 : Int)).bind fun m2 => (Tr.ofO (atT letters m2)).bind fun c3 => (chk (head.length + [c3].length ≤ SZ)).bind fun _ => (chk ((head ++ [c3]).length + tail.length ≤ SZ)).bind fun _ => Tr.ret ((head ++ [c3]) ++ tail)) ws3).bind fun ys3 => Tr.ret (ys3.mergeSort fun (x y : Sg) => !(decide (y < x)))).bind fun o => Tr.ret o
def S_law_names (Γ : Pg) (i : Nat) : Prop := ∀ (k : Nat) (many_1 : Int), 2 ≤ k → evCall Γ k i [(.ref 0), (.int many_1)] = (F_law_names many_1).bind fun (r : (List Sg)) => .ret (true, (T.lst (List.map T.str r)))
theorem ok_law_names {Γ : Pg} {i : Nat} {j_i_law_next : Nat} (hf : Γ.fns[i]? = some (.code 2 8 (B_law_names j_i_law_next))) (hrp : Γ.rp = rpT) (h_i_law_next : S_next Γ j_i_law_next) : S_law_names Γ i := fun k many_1 hk => by
  have core : ∀ (many : Int), evCall Γ k i [(.ref 0), (.int many)] = (F_law_names many).bind (fun (r : (List Sg)) => Tr.ret (true, (T.lst (List.map T.str r)))) := by
    intro many
    obtain ⟨k, rfl, hj⟩ := ex_succ hk
    have c_i_law_next := fun x0 => h_i_law_next k x0 (by omega)
    have l0 : strOk [97, 98, 99, 100, 101, 102, 103, 104, 105, 106, 107, 108, 109, 110, 111, 112, 113, 114, 115, 116, 117, 118, 119, 120, 121, 122] ↔ True := iff_of_true (by decide) trivial
    have l1 : strOk [] ↔ True := iff_of_true (by decide) trivial
    rw [ev_code hf rfl]
    unfold F_law_names
    show (evSs (ecx Γ k) [.set (.name 2) (.str [97, 98, 99, 100, 101, 102, 103, 104, 105, 106, 107, 108, 109, 110, 111, 112, 113, 114, 115, 116, 117, 118, 119, 120, 121, 122]), .set (.name 3) (.call j_i_law_next [(.var 0), (.int 26)]), .set (.name 4) (.join (.str []) (.comp (.idx (.var 2) (.call j_i_law_next [(.var 0), (.int 26)])) [] (.name 7) [6, 7] (.range [(.call j_i_law_next [(.var 0), (.int 4)])]))), .set (.name 5) (.join (.str []) (.comp (.idx (.var 2) (.call j_i_law_next [(.var 0), (.int 26)])) [] (.name 7) [6, 7] (.range [(.call j_i_law_next [(.var 0), (.int 4)])]))), .ret (some (.new (.srt (.comp (.bin .add (.bin .add (.var 4) (.idx (.var 2) (.bin .mod (.bin .add (.var 3) (.bin .mul (.int 7) (.var 7))) (.int 26)))) (.var 5)) [] (.name 7) [6, 7] (.range [(.var 1)])))))] [some (.val (.ref 0)), some (.val (.int many)), none, none, none, none, none, none]).bind finF = Tr.bind _ (fun (r : (List Sg)) => Tr.ret (true, (T.lst (List.map T.str r))))
    refine step (E := fun (letters : Sg) => [some (.val (.ref 0)), some (.val (.int many)), some (.val (.str letters)), none, none, none, none, none]) (by (simp_arith [Nat.reduceBEq, Nat.reduceAdd, Nat.reduceEqDiff, hrp, c_i_law_next, l0, l1] <;> rfl)) fun letters => ?_
    refine step (E := fun (first' : Int) => [some (.val (.ref 0)), some (.val (.int many)), some (.val (.str letters)), some (.val (.int first')), none, none, none, none]) (by (simp_arith [Nat.reduceBEq, Nat.reduceAdd, Nat.reduceEqDiff, hrp, c_i_law_next, l0, l1] <;> rfl)) fun first' => ?_
    have z3 := coA_ev (fun (k : Int) => (drw (26 : Int)).bind fun r3 => (Tr.ofO (atT letters r3)).bind fun c => Tr.ret [c]) T.str
    try simp_arith [Nat.reduceBEq, Nat.reduceAdd, Nat.reduceEqDiff, hrp, c_i_law_next, l0, l1] at z3
    refine step (E := fun (head : Sg) => [some (.val (.ref 0)), some (.val (.int many)), some (.val (.str letters)), some (.val (.int first')), some (.val (.str head)), none, none, none]) (by (simp_arith [Nat.reduceBEq, Nat.reduceAdd, Nat.reduceEqDiff, hrp, c_i_law_next, l0, l1, z3] <;> rfl)) fun head => ?_
    have z2 := coA_ev (fun (k2 : Int) => (drw (26 : Int)).bind fun r5 => (Tr.ofO (atT letters r5)).bind fun c2 => Tr.ret [c2]) T.str
    try simp_arith [Nat.reduceBEq, Nat.reduceAdd, Nat.reduceEqDiff, hrp, c_i_law_next, l0, l1] at z2
    refine step (E := fun (tail : Sg) => [some (.val (.ref 0)), some (.val (.int many)), some (.val (.str letters)), some (.val (.int first')), some (.val (.str head)), some (.val (.str tail)), none, none]) (by (simp_arith [Nat.reduceBEq, Nat.reduceAdd, Nat.reduceEqDiff, hrp, c_i_law_next, l0, l1, z2] <;> rfl)) fun tail => ?_
    have z0 := coA_ev (fun (k3 : Int) => (mulI (7 : Int) k3).bind fun m => (modI (first' + m) (26 : Int)).bind fun m2 => (Tr.ofO (atT letters m2)).bind fun c3 => (chk (head.length + [c3].length ≤ SZ)).bind fun _ => (chk ((head ++ [c3]).length + tail.length ≤ SZ)).bind fun _ => Tr.ret ((head ++ [c3]) ++ tail)) T.str
    try simp_arith [Nat.reduceBEq, Nat.reduceAdd, Nat.reduceEqDiff, hrp, c_i_law_next, l0, l1] at z0
    have z1 := fun xs => srtD_map (xs := xs) T.str (fun (x y : Sg) => (decide (x < y))) (by intros; simp_arith [ltT, ltTs, alk, alks, depT, depTs, Nat.reduceLeDiff, Nat.reduceAdd, Nat.max_self, Nat.zero_le] <;> first | rfl | decide) (by intros; simp_arith [ltT, ltTs, alk, alks, depT, depTs, Nat.reduceLeDiff, Nat.reduceAdd, Nat.max_self, Nat.zero_le] <;> first | rfl | decide) (by intros; simp_arith [ltT, ltTs, alk, alks, depT, depTs, Nat.reduceLeDiff, Nat.reduceAdd, Nat.max_self, Nat.zero_le] <;> first | rfl | decide) (by intros; simp_arith [ltT, ltTs, alk, alks, depT, depTs, Nat.reduceLeDiff, Nat.reduceAdd, Nat.max_self, Nat.zero_le] <;> first | rfl | decide) (by first | exact .inl (fun _ => rfl) | exact .inr (fun _ => rfl))
    try simp_arith [Nat.reduceBEq, Nat.reduceAdd, Nat.reduceEqDiff, hrp, c_i_law_next, l0, l1] at z1
    exact stepR (fe := fun (o : (List Sg)) => (true, (T.lst (List.map T.str o)))) (by (simp_arith [Nat.reduceBEq, Nat.reduceAdd, Nat.reduceEqDiff, hrp, c_i_law_next, l0, l1, z0, z1] <;> rfl)) (fun _ => rfl)
  exact core many_1
end Mo

set_option Elab.async false
set_option linter.all false
set_option maxRecDepth 100000
set_option maxHeartbeats 1000000
set_option autoImplicit false
namespace Mo
section
variable {E : Ex → Prop}
/-- names, rising, of small letters -/
def nameOk (s : Sg) : Prop := (1 ≤ s.length ∧ s.length ≤ 7) ∧ ∀ c ∈ s, 97 ≤ c ∧ c ≤ 122
def NamesOk (ns : List Sg) : Prop := ns.Pairwise (· < ·) ∧ ∀ s ∈ ns, nameOk s
abbrev letters : Sg := [97, 98, 99, 100, 101, 102, 103, 104, 105, 106, 107, 108, 109, 110, 111, 112, 113, 114, 115, 116, 117, 118, 119, 120, 121, 122]
theorem letter_at {r : Int} (h0 : 0 ≤ r) (h1 : r < 26) : atT letters r = some (97 + r.toNat) := by
  have key : ∀ n, n < 26 → letters[n]? = some (97 + n) := by decide
  unfold atT
  rw [if_pos h0, key _ (by omega)]
theorem inter_nil : ∀ cs : List Nat, List.intercalate [] (cs.map fun c => [c]) = cs
  | [] => rfl
  | [c] => rfl
  | c :: d :: cs => by
    have ih := inter_nil (d :: cs)
    simp only [List.intercalate, List.map_cons, List.intersperse, List.flatten_cons, List.nil_append] at ih ⊢
    rw [ih]; rfl
theorem len_ones : ∀ cs : List Nat, ((cs.map fun c => [c]).map (·.length)).sum = cs.length
  | [] => rfl
  | c :: cs => by
    have := len_ones cs
    simp only [List.map_cons, List.sum_cons, List.length_cons, List.length_nil] at this ⊢
    omega
theorem sorted_names {ns : List Sg} (nd : ns.Nodup) : (ns.mergeSort fun x y => !decide (y < x)).Pairwise (· < ·) := by
  have h1 : (ns.mergeSort fun x y => !decide (y < x)).Pairwise (fun a b => (!decide (b < a)) = true) := by
    apply List.pairwise_mergeSort
    · intro a b c h1 h2
      simp only [Bool.not_eq_true', decide_eq_false_iff_not, List.not_lt] at h1 h2 ⊢
      exact List.le_trans h1 h2
    · intro a b
      simp only [Bool.or_eq_true, Bool.not_eq_true', decide_eq_false_iff_not, List.not_lt]
      exact List.le_total a b
  have h2 : (ns.mergeSort fun x y => !decide (y < x)).Nodup := (List.mergeSort_perm ns _).nodup_iff.mpr nd
  refine List.Pairwise.imp₂ (fun a b h k => ?_) h1 h2
  simp only [Bool.not_eq_true', decide_eq_false_iff_not, List.not_lt] at h
  rcases List.le_iff_lt_or_eq.mp h with h | h
  · exact h
  · exact absurd h k
def nm0 (h t : Sg) (r : Int) (i : Int) : Sg := h ++ [97 + ((r + 7 * i) % 26).toNat] ++ t
theorem nm0_nodup (h t : Sg) (r : Int) {n : Int} (hn : n ≤ 26) : ((rngI 0 n).map (nm0 h t r)).Nodup := by
  unfold rngI
  rw [List.Nodup, List.pairwise_map, List.pairwise_map]
  refine List.Pairwise.imp_of_mem (fun {a b} ha hb hab => ?_) (List.pairwise_lt_range (n := (n - 0).toNat))
  rw [List.mem_range] at ha hb
  intro z
  have z : h ++ [97 + ((r + 7 * (0 + (a : Int))) % 26).toNat] ++ t = h ++ [97 + ((r + 7 * (0 + (b : Int))) % 26).toNat] ++ t := z
  rw [List.append_left_inj, List.append_right_inj] at z
  simp only [List.cons.injEq, and_true] at z
  omega
theorem sp_part {X : Ex → Prop} {Q : Sg → Prop} (h : ∀ s : Sg, s.length ≤ 3 → (∀ c ∈ s, 97 ≤ c ∧ c ≤ 122) → Q s) : ((drw (4 : Int)).bind fun r2 => (rng1 r2).bind fun ws => (coA (fun (k : Int) => (drw (26 : Int)).bind fun r3 => (Tr.ofO (atT letters r3)).bind fun c => Tr.ret [c]) ws).bind fun ys => (chk ((ys.map fun x => x.length).sum + ys.length * ([] : Sg).length ≤ SZ)).bind fun _ => Tr.ret (List.intercalate ([] : Sg) ys)).all X Q := by
  simp only [hbind, hdrw, hrng1, hret, hchk]
  refine ⟨dOk' (by omega) (by omega), fun n n0 n1 => ⟨by omega, ?_⟩⟩
  refine hcoA (fun _ s => ∃ c : Nat, s = [c] ∧ 97 ≤ c ∧ c ≤ 122) (fun a _ => ?_) fun ys hys => ?_
  · simp only [hbind, hdrw, hret, hofO]
    exact ⟨dOk' (by omega) (by omega), fun r r0 r1 => ⟨_, letter_at r0 r1, _, rfl, by omega⟩⟩
  · have l := hys.length
    rw [len_rngI] at l
    obtain ⟨cs, rfl, hc⟩ : ∃ cs : List Nat, ys = cs.map (fun c => [c]) ∧ ∀ c ∈ cs, 97 ≤ c ∧ c ≤ 122 := by
      have : ∀ y ∈ ys, ∃ c : Nat, y = [c] ∧ 97 ≤ c ∧ c ≤ 122 := fun y hy => by obtain ⟨_, _, h⟩ := hys.right y hy; exact h
      clear hys l
      induction ys with
      | nil => exact ⟨[], rfl, fun _ h => by cases h⟩
      | cons y ys ih =>
        obtain ⟨c, rfl, hc⟩ := this y (.head _)
        obtain ⟨cs, rfl, hcs⟩ := ih fun z hz => this z (.tail _ hz)
        exact ⟨c :: cs, rfl, fun z hz => by rcases List.mem_cons.mp hz with rfl | hz; exact hc; exact hcs z hz⟩
    rw [List.length_map] at l
    rw [inter_nil]
    refine ⟨?_, h cs (by omega) hc⟩
    have := len_ones cs
    simp only [List.length_nil, Nat.mul_zero, Nat.add_zero]
    rw [this, sz_val]; omega
theorem sp_names {m : Int} {P : List Sg → Prop} (m0 : 0 ≤ m) (m1 : m ≤ 26) (h : ∀ ns : List Sg, (ns.length : Int) = m → NamesOk ns → P ns) : (F_law_names m).all E P := by
  unfold F_law_names
  simp only [tr_ret, bret]
  refine hcut (Q := fun r => 0 ≤ r ∧ r < 26) (hdrw.mpr ⟨dOk' (by omega) (by omega), fun r r0 r1 => ⟨r0, r1⟩⟩) fun r hr => ?_
  refine hcut (Q := fun s : Sg => s.length ≤ 3 ∧ ∀ c ∈ s, 97 ≤ c ∧ c ≤ 122) (sp_part fun s h1 h2 => ⟨h1, h2⟩) fun hd hhd => ?_
  refine hcut (Q := fun s : Sg => s.length ≤ 3 ∧ ∀ c ∈ s, 97 ≤ c ∧ c ≤ 122) (sp_part fun s h1 h2 => ⟨h1, h2⟩) fun tl htl => ?_
  rw [rng1_ok (by omega)]
  simp only [tr_ret]
  rw [coA_ret (nm0 hd tl r) fun i hi => ?_]
  · simp only [tr_ret, hret]
    have nd := nm0_nodup hd tl r m1
    have lt := sorted_names nd
    have pm := List.mergeSort_perm ((rngI 0 m).map (nm0 hd tl r)) (fun x y => !decide (y < x))
    refine h _ (by rw [List.length_mergeSort, List.length_map, len_rngI]; omega) ⟨lt, fun s hs => ?_⟩
    obtain ⟨i, hi, rfl⟩ := List.mem_map.mp (pm.mem_iff.mp hs)
    unfold nm0 nameOk
    refine ⟨by simp; omega, fun c hc => ?_⟩
    rcases List.mem_append.mp hc with hc | hc
    · rcases List.mem_append.mp hc with hc | hc
      · exact hhd.2 c hc
      · rw [List.mem_singleton] at hc; omega
    · exact htl.2 c hc
  · have hi := mem_rngI.mp hi
    rw [mul_le (by omega) (by omega)]
    simp only [tr_ret, modI, chk_ok (show (0 : Int) < 26 by decide)]
    rw [letter_at (by omega) (by omega)]
    simp only [tr_some, tr_ret]
    rw [chk_ok (by rw [sz_val]; simp; omega)]
    simp only [tr_ret]
    rw [chk_ok (by rw [sz_val]; simp; omega)]
    rfl
end
end Mo

set_option Elab.async false
set_option linter.all false
set_option maxRecDepth 100000
set_option maxHeartbeats 2000000
set_option autoImplicit false
namespace Mo
open PySem PyProof.Rows
def B_law_stand (j_i_law_next : Nat) (j_i_law_ways : Nat) (j_i_law_names : Nat) (j_i_law_lamps : Nat) (j_i_law_counted : Nat) : List Sm := [.set (.name 3) (.bin .add (.int 1) (.call j_i_law_next [(.var 0), (.var 1)])), .set (.name 4) (.call j_i_law_ways [(.var 0), (.var 3), (.call j_i_law_next [(.var 0), (.bin .add (.int 1) (.var 2))])]), .set (.name 5) (.call j_i_law_names [(.var 0), (.bi .len [(.var 4)])]), .set (.name 6) (.li .tuple (.comp (.bin .add (.tup [(.var 8)]) (.var 9)) [] (.tup [(.name 8), (.name 9)]) [7, 8, 9] (.zip [(.ex (.var 5)), (.ex (.var 4))]))), .ret (some (.tup [(.call j_i_law_lamps [(.var 0), (.var 3), (.call j_i_law_counted [(.var 4), (.int 1)])]), (.var 6)]))]
def F_law_stand (most : Int) (many : Int) : Tr ((List (Int × Int)) × (List (Sg × Int × Int))) := ((drw most).bind fun r => Tr.ret ((1 : Int) + r)).bind fun (n : Int) => ((drw ((1 : Int) + many)).bind fun r2 => (F_law_ways n r2).bind fun r3 => Tr.ret r3).bind fun (pairs : (List (Int × Int))) => ((F_law_names (pairs.length : Int)).bind fun r4 => Tr.ret r4).bind fun (names_here : (List Sg)) => (Tr.ret ((List.zip names_here pairs).map fun (a : (Sg × (Int × Int))) => (a.1, a.2.1, a.2.2))).bind fun (folk : (List (Sg × Int × Int))) => ((F_law_counted pairs (1 : Int)).bind fun r5 => (F_law_lamps n r5).bind fun r6 => Tr.ret (r6, folk)).bind fun o => Tr.ret o
def S_law_stand (Γ : Pg) (i : Nat) : Prop := ∀ (k : Nat) (most_1 : Int) (many_2 : Int), 3 ≤ k → evCall Γ k i [(.ref 0), (.int most_1), (.int many_2)] = (F_law_stand most_1 many_2).bind fun (r : ((List (Int × Int)) × (List (Sg × Int × Int)))) => .ret (false, (T.tup [(.tup (List.map (fun (e0 : (Int × Int)) => (T.tup [(.int e0.1), (.int e0.2)])) r.1)), (.tup (List.map (fun (e0 : (Sg × Int × Int)) => (T.tup [(.str e0.1), (.int e0.2.1), (.int e0.2.2)])) r.2))]))
theorem ok_law_stand {Γ : Pg} {i : Nat} {j_i_law_next : Nat} {j_i_law_ways : Nat} {j_i_law_names : Nat} {j_i_law_lamps : Nat} {j_i_law_counted : Nat} (hf : Γ.fns[i]? = some (.code 3 10 (B_law_stand j_i_law_next j_i_law_ways j_i_law_names j_i_law_lamps j_i_law_counted))) (hrp : Γ.rp = rpT) (h_i_law_next : S_next Γ j_i_law_next) (h_i_law_ways : S_law_ways Γ j_i_law_ways) (h_i_law_names : S_law_names Γ j_i_law_names) (h_i_law_lamps : S_law_lamps Γ j_i_law_lamps) (h_i_law_counted : S_law_counted Γ j_i_law_counted) : S_law_stand Γ i := fun k most_1 many_2 hk => by
  have core : ∀ (most : Int) (many : Int), evCall Γ k i [(.ref 0), (.int most), (.int many)] = (F_law_stand most many).bind (fun (r : ((List (Int × Int)) × (List (Sg × Int × Int)))) => Tr.ret (false, (T.tup [(.tup (List.map (fun (e0 : (Int × Int)) => (T.tup [(.int e0.1), (.int e0.2)])) r.1)), (.tup (List.map (fun (e0 : (Sg × Int × Int)) => (T.tup [(.str e0.1), (.int e0.2.1), (.int e0.2.2)])) r.2))]))) := by
    intro most many
    obtain ⟨k, rfl, hj⟩ := ex_succ hk
    have c_i_law_next := fun x0 => h_i_law_next k x0 (by omega)
    have c_i_law_ways := fun x0 x1 => h_i_law_ways k x0 x1 (by omega)
    have c_i_law_names := fun x0 => h_i_law_names k x0 (by omega)
    have c_i_law_lamps := fun x0 x1 => h_i_law_lamps k x0 x1 (by omega)
    have c_i_law_counted := fun x0 x1 => h_i_law_counted k x0 x1 (by omega)
    rw [ev_code hf rfl]
    unfold F_law_stand
    show (evSs (ecx Γ k) [.set (.name 3) (.bin .add (.int 1) (.call j_i_law_next [(.var 0), (.var 1)])), .set (.name 4) (.call j_i_law_ways [(.var 0), (.var 3), (.call j_i_law_next [(.var 0), (.bin .add (.int 1) (.var 2))])]), .set (.name 5) (.call j_i_law_names [(.var 0), (.bi .len [(.var 4)])]), .set (.name 6) (.li .tuple (.comp (.bin .add (.tup [(.var 8)]) (.var 9)) [] (.tup [(.name 8), (.name 9)]) [7, 8, 9] (.zip [(.ex (.var 5)), (.ex (.var 4))]))), .ret (some (.tup [(.call j_i_law_lamps [(.var 0), (.var 3), (.call j_i_law_counted [(.var 4), (.int 1)])]), (.var 6)]))] [some (.val (.ref 0)), some (.val (.int most)), some (.val (.int many)), none, none, none, none, none, none, none]).bind finF = Tr.bind _ (fun (r : ((List (Int × Int)) × (List (Sg × Int × Int)))) => Tr.ret (false, (T.tup [(.tup (List.map (fun (e0 : (Int × Int)) => (T.tup [(.int e0.1), (.int e0.2)])) r.1)), (.tup (List.map (fun (e0 : (Sg × Int × Int)) => (T.tup [(.str e0.1), (.int e0.2.1), (.int e0.2.2)])) r.2))])))
    refine step (E := fun (n : Int) => [some (.val (.ref 0)), some (.val (.int most)), some (.val (.int many)), some (.val (.int n)), none, none, none, none, none, none]) (by (simp_arith [Nat.reduceBEq, Nat.reduceAdd, Nat.reduceEqDiff, hrp, c_i_law_next, c_i_law_ways, c_i_law_names, c_i_law_lamps, c_i_law_counted] <;> rfl)) fun n => ?_
    refine step (E := fun (pairs : (List (Int × Int))) => [some (.val (.ref 0)), some (.val (.int most)), some (.val (.int many)), some (.val (.int n)), some (.own (List.map (fun (e0 : (Int × Int)) => (T.tup [(.int e0.1), (.int e0.2)])) pairs)), none, none, none, none, none]) (by (simp_arith [Nat.reduceBEq, Nat.reduceAdd, Nat.reduceEqDiff, hrp, c_i_law_next, c_i_law_ways, c_i_law_names, c_i_law_lamps, c_i_law_counted] <;> rfl)) fun pairs => ?_
    refine step (E := fun (names_here : (List Sg)) => [some (.val (.ref 0)), some (.val (.int most)), some (.val (.int many)), some (.val (.int n)), some (.own (List.map (fun (e0 : (Int × Int)) => (T.tup [(.int e0.1), (.int e0.2)])) pairs)), some (.own (List.map T.str names_here)), none, none, none, none]) (by (simp_arith [Nat.reduceBEq, Nat.reduceAdd, Nat.reduceEqDiff, hrp, c_i_law_next, c_i_law_ways, c_i_law_names, c_i_law_lamps, c_i_law_counted] <;> rfl)) fun names_here => ?_
    refine step (E := fun (folk : (List (Sg × Int × Int))) => [some (.val (.ref 0)), some (.val (.int most)), some (.val (.int many)), some (.val (.int n)), some (.own (List.map (fun (e0 : (Int × Int)) => (T.tup [(.int e0.1), (.int e0.2)])) pairs)), some (.own (List.map T.str names_here)), some (.val (.tup (List.map (fun (e0 : (Sg × Int × Int)) => (T.tup [(.str e0.1), (.int e0.2.1), (.int e0.2.2)])) folk))), none, none, none]) (by (simp_arith [Nat.reduceBEq, Nat.reduceAdd, Nat.reduceEqDiff, hrp, c_i_law_next, c_i_law_ways, c_i_law_names, c_i_law_lamps, c_i_law_counted] <;> rfl)) fun folk => ?_
    exact stepR (fe := fun (o : ((List (Int × Int)) × (List (Sg × Int × Int)))) => (false, (T.tup [(.tup (List.map (fun (e0 : (Int × Int)) => (T.tup [(.int e0.1), (.int e0.2)])) o.1)), (.tup (List.map (fun (e0 : (Sg × Int × Int)) => (T.tup [(.str e0.1), (.int e0.2.1), (.int e0.2.2)])) o.2))]))) (by (simp_arith [Nat.reduceBEq, Nat.reduceAdd, Nat.reduceEqDiff, hrp, c_i_law_next, c_i_law_ways, c_i_law_names, c_i_law_lamps, c_i_law_counted] <;> rfl)) (fun _ => rfl)
  exact core most_1 many_2
end Mo

set_option Elab.async false
set_option linter.all false
set_option maxRecDepth 100000
set_option maxHeartbeats 1000000
set_option autoImplicit false
namespace Mo
abbrev Lamps := List (Int × Int)
abbrev Folk := List (Sg × Int × Int)
abbrev Stand := Lamps × Folk
abbrev Rows := List (Int × Int × Int)
abbrev Tally := Lamps × Rows
/-- folk of a row of so many stretches -/
structure FolkIn (n : Int) (fs : Folk) : Prop where
  nm : NamesOk (fs.map (·.1))
  row : ∀ f ∈ fs, (0 ≤ f.2.1 ∧ f.2.1 ≤ n) ∧ 0 ≤ f.2.2 ∧ f.2.2 ≤ n
structure StandIn (st : Stand) : Prop where
  n1 : 1 ≤ st.1.length
  n8 : st.1.length ≤ 8
  f12 : st.2.length ≤ 12
  lamps : LampsOk st.1
  folk : FolkIn st.1.length st.2
section
variable {E : Ex → Prop}
theorem sp_stand {most many : Int} {P : Stand → Prop} (m1 : 1 ≤ most) (m2 : most ≤ 8) (f0 : 0 ≤ many) (f1 : many ≤ 12) (h : ∀ st : Stand, StandIn st → (st.1.length : Int) ≤ most → (st.2.length : Int) ≤ many → P st) : (F_law_stand most many).all E P := by
  unfold F_law_stand
  simp only [tr_ret, bret, bind_assoc]
  simp only [hbind, hdrw]
  refine ⟨dOk' m1 (by omega), fun n n0 n1 => ⟨dOk' (by omega) (by omega), fun c c0 c1 => ?_⟩⟩
  obtain ⟨N, hN⟩ : ∃ N : Nat, (N : Int) = 1 + n := ⟨(1 + n).toNat, by omega⟩
  rw [← hN]
  refine sp_ways (by omega) (by omega) c0 (by omega) fun ps pl pok => ?_
  refine sp_names (by omega) (by omega) fun ns nl nok => ?_
  obtain ⟨R, hR, hC⟩ := sp_counted (ps := ps) (w := 1) (by omega)
  have rows := hC.rows (by omega) pok
  rw [hR]
  refine hret.mpr ?_
  refine sp_lamps (by omega) (by omega) rows.rin (rows.pass (by omega) (by omega) (by omega)) fun ls l1 l2 => hret.mpr ?_
  have e0 : (ns.zip ps).map (fun a => (a.1, a.2.1, a.2.2)) = ns.zip ps := List.map_id' ..
  have e1 : (ns.zip ps).map (·.1) = ns := List.map_fst_zip (by omega)
  refine h _ ⟨by dsimp only; omega, by dsimp only; omega, ?_, l2, ⟨?_, ?_⟩⟩ (by dsimp only; omega) ?_
  · dsimp only; rw [e0, List.length_zip]; omega
  · dsimp only; rw [e0, e1]; exact nok
  · dsimp only
    rw [e0, l1]
    intro f hf
    exact pok f.2 (List.of_mem_zip (a := f.1) (b := f.2) hf).2
  · dsimp only; rw [e0, List.length_zip]; omega
end
end Mo

set_option Elab.async false
set_option linter.all false
set_option maxRecDepth 100000
set_option maxHeartbeats 2000000
set_option autoImplicit false
namespace Mo
open PySem PyProof.Rows
def B_law_who : List Sm := [.ret (some (.idx (.new (.comp (.tup [(.var 4), (.var 5)]) [(.cmp .eq (.var 3) (.var 1))] (.tup [(.name 3), (.name 4), (.name 5)]) [2, 3, 4, 5] (.seq (.ex (.idx (.var 0) (.int 1)))))) (.int 0)))]
def F_law_who (stand_here : ((List (Int × Int)) × (List (Sg × Int × Int)))) (name : Sg) : Tr (Int × Int) := ((Tr.ofO (atT ((stand_here.2.filter fun (a : (Sg × Int × Int)) => (a.1 == name)).map fun (a : (Sg × Int × Int)) => (a.2.1, a.2.2)) (0 : Int))).bind fun a2 => Tr.ret a2).bind fun o => Tr.ret o
def S_law_who (Γ : Pg) (i : Nat) : Prop := ∀ (k : Nat) (stand_here_1 : (List (Int × Int))) (stand_here_2 : (List (Sg × Int × Int))) (name_3 : Sg), 1 ≤ k → evCall Γ k i [(.tup [(.tup (List.map (fun (e0 : (Int × Int)) => (T.tup [(.int e0.1), (.int e0.2)])) stand_here_1)), (.tup (List.map (fun (e0 : (Sg × Int × Int)) => (T.tup [(.str e0.1), (.int e0.2.1), (.int e0.2.2)])) stand_here_2))]), (.str name_3)] = (F_law_who (stand_here_1, stand_here_2) name_3).bind fun (r : (Int × Int)) => .ret (false, (T.tup [(.int r.1), (.int r.2)]))
theorem ok_law_who {Γ : Pg} {i : Nat} (hf : Γ.fns[i]? = some (.code 2 6 (B_law_who))) (hrp : Γ.rp = rpT) : S_law_who Γ i := fun k stand_here_1 stand_here_2 name_3 hk => by
  have core : ∀ (stand_here : ((List (Int × Int)) × (List (Sg × Int × Int)))) (name : Sg), evCall Γ k i [(.tup [(.tup (List.map (fun (e0 : (Int × Int)) => (T.tup [(.int e0.1), (.int e0.2)])) stand_here.1)), (.tup (List.map (fun (e0 : (Sg × Int × Int)) => (T.tup [(.str e0.1), (.int e0.2.1), (.int e0.2.2)])) stand_here.2))]), (.str name)] = (F_law_who stand_here name).bind (fun (r : (Int × Int)) => Tr.ret (false, (T.tup [(.int r.1), (.int r.2)]))) := by
    intro stand_here name
    obtain ⟨k, rfl, hj⟩ := ex_succ hk
    rw [ev_code hf rfl]
    unfold F_law_who
    show (evSs (ecx Γ k) [.ret (some (.idx (.new (.comp (.tup [(.var 4), (.var 5)]) [(.cmp .eq (.var 3) (.var 1))] (.tup [(.name 3), (.name 4), (.name 5)]) [2, 3, 4, 5] (.seq (.ex (.idx (.var 0) (.int 1)))))) (.int 0)))] [some (.val (.tup [(.tup (List.map (fun (e0 : (Int × Int)) => (T.tup [(.int e0.1), (.int e0.2)])) stand_here.1)), (.tup (List.map (fun (e0 : (Sg × Int × Int)) => (T.tup [(.str e0.1), (.int e0.2.1), (.int e0.2.2)])) stand_here.2))])), some (.val (.str name)), none, none, none, none]).bind finF = Tr.bind _ (fun (r : (Int × Int)) => Tr.ret (false, (T.tup [(.int r.1), (.int r.2)])))
    exact stepR (fe := fun (o : (Int × Int)) => (false, (T.tup [(.int o.1), (.int o.2)]))) (by (simp_arith [Nat.reduceBEq, Nat.reduceAdd, Nat.reduceEqDiff, hrp] <;> rfl)) (fun _ => rfl)
  exact core (stand_here_1, stand_here_2) name_3
end Mo

set_option Elab.async false
set_option linter.all false
set_option maxRecDepth 100000
set_option maxHeartbeats 2000000
set_option autoImplicit false
namespace Mo
open PySem PyProof.Rows
def B_law_way (j_i_law_who : Nat) : List Sm := [.set (.tup [(.name 2), (.name 3)]) (.call j_i_law_who [(.var 0), (.var 1)]), .ret (some (.bin .sub (.bi .int [(.cmp .gt (.var 3) (.var 2))]) (.bi .int [(.cmp .lt (.var 3) (.var 2))])))]
def F_law_way (stand_here : ((List (Int × Int)) × (List (Sg × Int × Int)))) (name : Sg) : Tr Int := ((F_law_who stand_here name).bind fun r => Tr.ret r).bind fun (p : (Int × Int)) => (Tr.ret ((if (decide (p.1 < p.2)) = true then (1 : Int) else 0) - (if (decide (p.2 < p.1)) = true then (1 : Int) else 0))).bind fun o => Tr.ret o
def S_law_way (Γ : Pg) (i : Nat) : Prop := ∀ (k : Nat) (stand_here_1 : (List (Int × Int))) (stand_here_2 : (List (Sg × Int × Int))) (name_3 : Sg), 2 ≤ k → evCall Γ k i [(.tup [(.tup (List.map (fun (e0 : (Int × Int)) => (T.tup [(.int e0.1), (.int e0.2)])) stand_here_1)), (.tup (List.map (fun (e0 : (Sg × Int × Int)) => (T.tup [(.str e0.1), (.int e0.2.1), (.int e0.2.2)])) stand_here_2))]), (.str name_3)] = (F_law_way (stand_here_1, stand_here_2) name_3).bind fun (r : Int) => .ret (false, (T.int r))
theorem ok_law_way {Γ : Pg} {i : Nat} {j_i_law_who : Nat} (hf : Γ.fns[i]? = some (.code 2 4 (B_law_way j_i_law_who))) (hrp : Γ.rp = rpT) (h_i_law_who : S_law_who Γ j_i_law_who) : S_law_way Γ i := fun k stand_here_1 stand_here_2 name_3 hk => by
  have core : ∀ (stand_here : ((List (Int × Int)) × (List (Sg × Int × Int)))) (name : Sg), evCall Γ k i [(.tup [(.tup (List.map (fun (e0 : (Int × Int)) => (T.tup [(.int e0.1), (.int e0.2)])) stand_here.1)), (.tup (List.map (fun (e0 : (Sg × Int × Int)) => (T.tup [(.str e0.1), (.int e0.2.1), (.int e0.2.2)])) stand_here.2))]), (.str name)] = (F_law_way stand_here name).bind (fun (r : Int) => Tr.ret (false, (T.int r))) := by
    intro stand_here name
    obtain ⟨k, rfl, hj⟩ := ex_succ hk
    have c_i_law_who := fun x0 x1 x2 => h_i_law_who k x0 x1 x2 (by omega)
    rw [ev_code hf rfl]
    unfold F_law_way
    show (evSs (ecx Γ k) [.set (.tup [(.name 2), (.name 3)]) (.call j_i_law_who [(.var 0), (.var 1)]), .ret (some (.bin .sub (.bi .int [(.cmp .gt (.var 3) (.var 2))]) (.bi .int [(.cmp .lt (.var 3) (.var 2))])))] [some (.val (.tup [(.tup (List.map (fun (e0 : (Int × Int)) => (T.tup [(.int e0.1), (.int e0.2)])) stand_here.1)), (.tup (List.map (fun (e0 : (Sg × Int × Int)) => (T.tup [(.str e0.1), (.int e0.2.1), (.int e0.2.2)])) stand_here.2))])), some (.val (.str name)), none, none]).bind finF = Tr.bind _ (fun (r : Int) => Tr.ret (false, (T.int r)))
    refine step (E := fun (p : (Int × Int)) => [some (.val (.tup [(.tup (List.map (fun (e0 : (Int × Int)) => (T.tup [(.int e0.1), (.int e0.2)])) stand_here.1)), (.tup (List.map (fun (e0 : (Sg × Int × Int)) => (T.tup [(.str e0.1), (.int e0.2.1), (.int e0.2.2)])) stand_here.2))])), some (.val (.str name)), some (.val (.int p.1)), some (.val (.int p.2))]) (by (simp_arith [Nat.reduceBEq, Nat.reduceAdd, Nat.reduceEqDiff, hrp, c_i_law_who] <;> rfl)) fun p => ?_
    exact stepR (fe := fun (o : Int) => (false, (T.int o))) (by (simp_arith [Nat.reduceBEq, Nat.reduceAdd, Nat.reduceEqDiff, hrp, c_i_law_who] <;> rfl)) (fun _ => rfl)
  exact core (stand_here_1, stand_here_2) name_3
end Mo

set_option Elab.async false
set_option linter.all false
set_option maxRecDepth 100000
set_option maxHeartbeats 2000000
set_option autoImplicit false
namespace Mo
open PySem PyProof.Rows
def B_law_lit (j_i_law_who : Nat) : List Sm := [.set (.tup [(.name 3), (.name 4)]) (.call j_i_law_who [(.var 0), (.var 1)]), .set (.name 5) (.bi .min2 [(.var 3), (.bin .add (.var 3) (.var 2))]), .ret (some (.and (.chain .le .lt (.int 0) (.var 5) (.bi .len [(.idx (.var 0) (.int 0))])) (.cmp .gt (.idx (.idx (.idx (.var 0) (.int 0)) (.var 5)) (.bi .int [(.cmp .lt (.var 2) (.int 0))])) (.int 0))))]
def F_law_lit (stand_here : ((List (Int × Int)) × (List (Sg × Int × Int)))) (name : Sg) (way_here : Int) : Tr Bool := ((F_law_who stand_here name).bind fun r => Tr.ret r).bind fun (p : (Int × Int)) => (Tr.ret (min p.1 (p.1 + way_here))).bind fun (w : Int) => ((if ((decide ((0 : Int) ≤ w)) && (decide (w < (stand_here.1.length : Int)))) = true then (Tr.ofO (atT stand_here.1 w)).bind fun a => (if (decide (way_here < (0 : Int))) = true then Tr.ret a.2 else Tr.ret a.1).bind fun v => Tr.ret (decide ((0 : Int) < v)) else Tr.ret ((decide ((0 : Int) ≤ w)) && (decide (w < (stand_here.1.length : Int))))).bind fun q => Tr.ret q).bind fun o => Tr.ret o
def S_law_lit (Γ : Pg) (i : Nat) : Prop := ∀ (k : Nat) (stand_here_1 : (List (Int × Int))) (stand_here_2 : (List (Sg × Int × Int))) (name_3 : Sg) (way_here_4 : Int), 2 ≤ k → evCall Γ k i [(.tup [(.tup (List.map (fun (e0 : (Int × Int)) => (T.tup [(.int e0.1), (.int e0.2)])) stand_here_1)), (.tup (List.map (fun (e0 : (Sg × Int × Int)) => (T.tup [(.str e0.1), (.int e0.2.1), (.int e0.2.2)])) stand_here_2))]), (.str name_3), (.int way_here_4)] = (F_law_lit (stand_here_1, stand_here_2) name_3 way_here_4).bind fun (r : Bool) => .ret (false, (T.bl r))
theorem ok_law_lit {Γ : Pg} {i : Nat} {j_i_law_who : Nat} (hf : Γ.fns[i]? = some (.code 3 6 (B_law_lit j_i_law_who))) (hrp : Γ.rp = rpT) (h_i_law_who : S_law_who Γ j_i_law_who) : S_law_lit Γ i := fun k stand_here_1 stand_here_2 name_3 way_here_4 hk => by
  have core : ∀ (stand_here : ((List (Int × Int)) × (List (Sg × Int × Int)))) (name : Sg) (way_here : Int), evCall Γ k i [(.tup [(.tup (List.map (fun (e0 : (Int × Int)) => (T.tup [(.int e0.1), (.int e0.2)])) stand_here.1)), (.tup (List.map (fun (e0 : (Sg × Int × Int)) => (T.tup [(.str e0.1), (.int e0.2.1), (.int e0.2.2)])) stand_here.2))]), (.str name), (.int way_here)] = (F_law_lit stand_here name way_here).bind (fun (r : Bool) => Tr.ret (false, (T.bl r))) := by
    intro stand_here name way_here
    obtain ⟨k, rfl, hj⟩ := ex_succ hk
    have c_i_law_who := fun x0 x1 x2 => h_i_law_who k x0 x1 x2 (by omega)
    rw [ev_code hf rfl]
    unfold F_law_lit
    show (evSs (ecx Γ k) [.set (.tup [(.name 3), (.name 4)]) (.call j_i_law_who [(.var 0), (.var 1)]), .set (.name 5) (.bi .min2 [(.var 3), (.bin .add (.var 3) (.var 2))]), .ret (some (.and (.chain .le .lt (.int 0) (.var 5) (.bi .len [(.idx (.var 0) (.int 0))])) (.cmp .gt (.idx (.idx (.idx (.var 0) (.int 0)) (.var 5)) (.bi .int [(.cmp .lt (.var 2) (.int 0))])) (.int 0))))] [some (.val (.tup [(.tup (List.map (fun (e0 : (Int × Int)) => (T.tup [(.int e0.1), (.int e0.2)])) stand_here.1)), (.tup (List.map (fun (e0 : (Sg × Int × Int)) => (T.tup [(.str e0.1), (.int e0.2.1), (.int e0.2.2)])) stand_here.2))])), some (.val (.str name)), some (.val (.int way_here)), none, none, none]).bind finF = Tr.bind _ (fun (r : Bool) => Tr.ret (false, (T.bl r)))
    refine step (E := fun (p : (Int × Int)) => [some (.val (.tup [(.tup (List.map (fun (e0 : (Int × Int)) => (T.tup [(.int e0.1), (.int e0.2)])) stand_here.1)), (.tup (List.map (fun (e0 : (Sg × Int × Int)) => (T.tup [(.str e0.1), (.int e0.2.1), (.int e0.2.2)])) stand_here.2))])), some (.val (.str name)), some (.val (.int way_here)), some (.val (.int p.1)), some (.val (.int p.2)), none]) (by (simp_arith [Nat.reduceBEq, Nat.reduceAdd, Nat.reduceEqDiff, hrp, c_i_law_who] <;> rfl)) fun p => ?_
    refine step (E := fun (w : Int) => [some (.val (.tup [(.tup (List.map (fun (e0 : (Int × Int)) => (T.tup [(.int e0.1), (.int e0.2)])) stand_here.1)), (.tup (List.map (fun (e0 : (Sg × Int × Int)) => (T.tup [(.str e0.1), (.int e0.2.1), (.int e0.2.2)])) stand_here.2))])), some (.val (.str name)), some (.val (.int way_here)), some (.val (.int p.1)), some (.val (.int p.2)), some (.val (.int w))]) (by (simp_arith [Nat.reduceBEq, Nat.reduceAdd, Nat.reduceEqDiff, hrp, c_i_law_who] <;> rfl)) fun w => ?_
    exact stepR (fe := fun (o : Bool) => (false, (T.bl o))) (by (simp_arith [Nat.reduceBEq, Nat.reduceAdd, Nat.reduceEqDiff, hrp, c_i_law_who] <;> rfl)) (fun _ => rfl)
  exact core (stand_here_1, stand_here_2) name_3 way_here_4
end Mo

set_option Elab.async false
set_option linter.all false
set_option maxRecDepth 100000
set_option maxHeartbeats 2000000
set_option autoImplicit false
namespace Mo
open PySem PyProof.Rows
def B_law_goers (j_i_law_way : Nat) (j_i_law_lit : Nat) : List Sm := [.set (.name 1) (.new (.lst [])), .loop (.tup [(.name 2), (.name 3), (.name 4)]) (.seq (.ex (.idx (.var 0) (.int 1)))) [.set (.name 5) (.call j_i_law_way [(.var 0), (.var 2)]), .cond (.and (.cmp .ne (.var 5) (.int 0)) (.call j_i_law_lit [(.var 0), (.var 2), (.var 5)])) [.ex (.me .append (.var 1) [(.var 2)])] []], .ret (some (.var 1))]
def F_law_goers (stand_here : ((List (Int × Int)) × (List (Sg × Int × Int)))) : Tr (List Sg) := (Tr.ret ([] : List Sg)).bind fun (found : (List Sg)) => ((Tr.ret stand_here.2).bind fun xs => forM xs found fun (a : (Sg × Int × Int)) (s : (List Sg)) => ((F_law_way stand_here a.1).bind fun r => Tr.ret r).bind fun (way_here : Int) => (((if (!(way_here == (0 : Int))) = true then (F_law_lit stand_here a.1 way_here).bind fun r2 => Tr.ret r2 else Tr.ret false).bind fun q => Tr.ret q).bind fun t => if t = true then ((chk (s.length < SZ)).bind fun _ => Tr.ret (s ++ [a.1])).bind fun (found2 : (List Sg)) => Tr.ret found2 else Tr.ret s).bind fun (found3 : (List Sg)) => Tr.ret found3).bind fun (s2 : (List Sg)) => (Tr.ret s2).bind fun o => Tr.ret o
def S_law_goers (Γ : Pg) (i : Nat) : Prop := ∀ (k : Nat) (stand_here_1 : (List (Int × Int))) (stand_here_2 : (List (Sg × Int × Int))), 3 ≤ k → evCall Γ k i [(.tup [(.tup (List.map (fun (e0 : (Int × Int)) => (T.tup [(.int e0.1), (.int e0.2)])) stand_here_1)), (.tup (List.map (fun (e0 : (Sg × Int × Int)) => (T.tup [(.str e0.1), (.int e0.2.1), (.int e0.2.2)])) stand_here_2))])] = (F_law_goers (stand_here_1, stand_here_2)).bind fun (r : (List Sg)) => .ret (true, (T.lst (List.map T.str r)))
theorem ok_law_goers {Γ : Pg} {i : Nat} {j_i_law_way : Nat} {j_i_law_lit : Nat} (hf : Γ.fns[i]? = some (.code 1 6 (B_law_goers j_i_law_way j_i_law_lit))) (hrp : Γ.rp = rpT) (h_i_law_way : S_law_way Γ j_i_law_way) (h_i_law_lit : S_law_lit Γ j_i_law_lit) : S_law_goers Γ i := fun k stand_here_1 stand_here_2 hk => by
  have core : ∀ (stand_here : ((List (Int × Int)) × (List (Sg × Int × Int)))), evCall Γ k i [(.tup [(.tup (List.map (fun (e0 : (Int × Int)) => (T.tup [(.int e0.1), (.int e0.2)])) stand_here.1)), (.tup (List.map (fun (e0 : (Sg × Int × Int)) => (T.tup [(.str e0.1), (.int e0.2.1), (.int e0.2.2)])) stand_here.2))])] = (F_law_goers stand_here).bind (fun (r : (List Sg)) => Tr.ret (true, (T.lst (List.map T.str r)))) := by
    intro stand_here
    obtain ⟨k, rfl, hj⟩ := ex_succ hk
    have c_i_law_way := fun x0 x1 x2 => h_i_law_way k x0 x1 x2 (by omega)
    have c_i_law_lit := fun x0 x1 x2 x3 => h_i_law_lit k x0 x1 x2 x3 (by omega)
    rw [ev_code hf rfl]
    unfold F_law_goers
    show (evSs (ecx Γ k) [.set (.name 1) (.new (.lst [])), .loop (.tup [(.name 2), (.name 3), (.name 4)]) (.seq (.ex (.idx (.var 0) (.int 1)))) [.set (.name 5) (.call j_i_law_way [(.var 0), (.var 2)]), .cond (.and (.cmp .ne (.var 5) (.int 0)) (.call j_i_law_lit [(.var 0), (.var 2), (.var 5)])) [.ex (.me .append (.var 1) [(.var 2)])] []], .ret (some (.var 1))] [some (.val (.tup [(.tup (List.map (fun (e0 : (Int × Int)) => (T.tup [(.int e0.1), (.int e0.2)])) stand_here.1)), (.tup (List.map (fun (e0 : (Sg × Int × Int)) => (T.tup [(.str e0.1), (.int e0.2.1), (.int e0.2.2)])) stand_here.2))])), none, none, none, none, none]).bind finF = Tr.bind _ (fun (r : (List Sg)) => Tr.ret (true, (T.lst (List.map T.str r))))
    refine step (E := fun (found : (List Sg)) => [some (.val (.tup [(.tup (List.map (fun (e0 : (Int × Int)) => (T.tup [(.int e0.1), (.int e0.2)])) stand_here.1)), (.tup (List.map (fun (e0 : (Sg × Int × Int)) => (T.tup [(.str e0.1), (.int e0.2.1), (.int e0.2.2)])) stand_here.2))])), some (.own (List.map T.str found)), none, none, none, none]) (by (simp_arith [Nat.reduceBEq, Nat.reduceAdd, Nat.reduceEqDiff, hrp, c_i_law_way, c_i_law_lit] <;> rfl)) fun found => ?_
    refine step (loopS (fun (e0 : (Sg × Int × Int)) => (T.tup [(.str e0.1), (.int e0.2.1), (.int e0.2.2)])) (fun (s : (List Sg)) => [some (.val (.tup [(.tup (List.map (fun (e0 : (Int × Int)) => (T.tup [(.int e0.1), (.int e0.2)])) stand_here.1)), (.tup (List.map (fun (e0 : (Sg × Int × Int)) => (T.tup [(.str e0.1), (.int e0.2.1), (.int e0.2.2)])) stand_here.2))])), some (.own (List.map T.str s)), none, none, none, none]) (fun (a : (Sg × Int × Int)) (s : (List Sg)) => [some (.val (.tup [(.tup (List.map (fun (e0 : (Int × Int)) => (T.tup [(.int e0.1), (.int e0.2)])) stand_here.1)), (.tup (List.map (fun (e0 : (Sg × Int × Int)) => (T.tup [(.str e0.1), (.int e0.2.1), (.int e0.2.2)])) stand_here.2))])), some (.own (List.map T.str s)), some (.val (.str a.1)), some (.val (.int a.2.1)), some (.val (.int a.2.2)), none]) (by (simp_arith [Nat.reduceBEq, Nat.reduceAdd, Nat.reduceEqDiff, hrp, c_i_law_way, c_i_law_lit] <;> rfl)) (by (simp_arith [Nat.reduceBEq, Nat.reduceAdd, Nat.reduceEqDiff, hrp, c_i_law_way, c_i_law_lit] <;> rfl)) (fun _ _ => by (simp_arith [Nat.reduceBEq, Nat.reduceAdd, Nat.reduceEqDiff, hrp, c_i_law_way, c_i_law_lit] <;> rfl)) (fun a s => ?_)) (fun s2 => ?_)
    · refine step (E := fun (way_here : Int) => [some (.val (.tup [(.tup (List.map (fun (e0 : (Int × Int)) => (T.tup [(.int e0.1), (.int e0.2)])) stand_here.1)), (.tup (List.map (fun (e0 : (Sg × Int × Int)) => (T.tup [(.str e0.1), (.int e0.2.1), (.int e0.2.2)])) stand_here.2))])), some (.own (List.map T.str s)), some (.val (.str a.1)), some (.val (.int a.2.1)), some (.val (.int a.2.2)), some (.val (.int way_here))]) (by (simp_arith [Nat.reduceBEq, Nat.reduceAdd, Nat.reduceEqDiff, hrp, c_i_law_way, c_i_law_lit] <;> rfl)) fun way_here => ?_
      refine step (E := fun (found3 : (List Sg)) => [some (.val (.tup [(.tup (List.map (fun (e0 : (Int × Int)) => (T.tup [(.int e0.1), (.int e0.2)])) stand_here.1)), (.tup (List.map (fun (e0 : (Sg × Int × Int)) => (T.tup [(.str e0.1), (.int e0.2.1), (.int e0.2.2)])) stand_here.2))])), some (.own (List.map T.str found3)), some (.val (.str a.1)), some (.val (.int a.2.1)), some (.val (.int a.2.2)), some (.val (.int way_here))]) (ifS (by (simp_arith [Nat.reduceBEq, Nat.reduceAdd, Nat.reduceEqDiff, hrp, c_i_law_way, c_i_law_lit] <;> rfl)) ?_ ?_) fun found3 => ?_
      · refine step (E := fun (found2 : (List Sg)) => [some (.val (.tup [(.tup (List.map (fun (e0 : (Int × Int)) => (T.tup [(.int e0.1), (.int e0.2)])) stand_here.1)), (.tup (List.map (fun (e0 : (Sg × Int × Int)) => (T.tup [(.str e0.1), (.int e0.2.1), (.int e0.2.2)])) stand_here.2))])), some (.own (List.map T.str found2)), some (.val (.str a.1)), some (.val (.int a.2.1)), some (.val (.int a.2.2)), some (.val (.int way_here))]) (by (simp_arith [Nat.reduceBEq, Nat.reduceAdd, Nat.reduceEqDiff, hrp, c_i_law_way, c_i_law_lit] <;> rfl)) fun found2 => ?_
        exact (by (simp_arith [Nat.reduceBEq, Nat.reduceAdd, Nat.reduceEqDiff, hrp, c_i_law_way, c_i_law_lit] <;> rfl))
      · exact (by (simp_arith [Nat.reduceBEq, Nat.reduceAdd, Nat.reduceEqDiff, hrp, c_i_law_way, c_i_law_lit] <;> rfl))
      exact (by (simp_arith [Nat.reduceBEq, Nat.reduceAdd, Nat.reduceEqDiff, hrp, c_i_law_way, c_i_law_lit] <;> rfl))
    exact stepR (fe := fun (o : (List Sg)) => (true, (T.lst (List.map T.str o)))) (by (simp_arith [Nat.reduceBEq, Nat.reduceAdd, Nat.reduceEqDiff, hrp, c_i_law_way, c_i_law_lit] <;> rfl)) (fun _ => rfl)
  exact core (stand_here_1, stand_here_2)
end Mo

set_option Elab.async false
set_option linter.all false
set_option maxRecDepth 100000
set_option maxHeartbeats 2000000
set_option autoImplicit false
namespace Mo
open PySem PyProof.Rows
def B_law_moved (j_i_law_who : Nat) : List Sm := [.set (.tup [(.name 3), (.name 4)]) (.call j_i_law_who [(.var 0), (.var 1)]), .set (.name 5) (.bi .min2 [(.var 3), (.bin .add (.var 3) (.var 2))]), .set (.tup [(.name 6), (.name 7)]) (.idx (.idx (.var 0) (.int 0)) (.var 5)), .set (.name 8) (.bin .add (.bin .add (.slc (.idx (.var 0) (.int 0)) none (some (.var 5))) (.tup [(.tup [(.bin .sub (.var 6) (.var 2)), (.bin .add (.var 7) (.var 2))])])) (.slc (.idx (.var 0) (.int 0)) (some (.bin .add (.var 5) (.int 1))) none)), .ret (some (.tup [(.var 8), (.li .tuple (.comp (.tup [(.var 10), (.bin .add (.var 11) (.bin .mul (.var 2) (.bi .int [(.cmp .eq (.var 10) (.var 1))]))), (.var 12)]) [] (.tup [(.name 10), (.name 11), (.name 12)]) [9, 10, 11, 12] (.seq (.ex (.idx (.var 0) (.int 1))))))]))]
def F_law_moved (stand_here : ((List (Int × Int)) × (List (Sg × Int × Int)))) (name : Sg) (way_here : Int) : Tr ((List (Int × Int)) × (List (Sg × Int × Int))) := ((F_law_who stand_here name).bind fun r => Tr.ret r).bind fun (p : (Int × Int)) => (Tr.ret (min p.1 (p.1 + way_here))).bind fun (w : Int) => ((Tr.ofO (atT stand_here.1 w)).bind fun a => Tr.ret a).bind fun (p2 : (Int × Int)) => ((chk ((cutT stand_here.1 none (some w)).length + [((p2.1 - way_here), (p2.2 + way_here))].length ≤ SZ)).bind fun _ => (chk (((cutT stand_here.1 none (some w)) ++ [((p2.1 - way_here), (p2.2 + way_here))]).length + (cutT stand_here.1 (some (w + (1 : Int))) none).length ≤ SZ)).bind fun _ => Tr.ret (((cutT stand_here.1 none (some w)) ++ [((p2.1 - way_here), (p2.2 + way_here))]) ++ (cutT stand_here.1 (some (w + (1 : Int))) none))).bind fun (lamps_here : (List (Int × Int))) => ((coA (fun (a2 : (Sg × Int × Int)) => (mulI way_here (if (a2.1 == name) = true then (1 : Int) else 0)).bind fun m => Tr.ret (a2.1, (a2.2.1 + m), a2.2.2)) stand_here.2).bind fun ys => Tr.ret (lamps_here, ys)).bind fun o => Tr.ret o
def S_law_moved (Γ : Pg) (i : Nat) : Prop := ∀ (k : Nat) (stand_here_1 : (List (Int × Int))) (stand_here_2 : (List (Sg × Int × Int))) (name_3 : Sg) (way_here_4 : Int), 2 ≤ k → evCall Γ k i [(.tup [(.tup (List.map (fun (e0 : (Int × Int)) => (T.tup [(.int e0.1), (.int e0.2)])) stand_here_1)), (.tup (List.map (fun (e0 : (Sg × Int × Int)) => (T.tup [(.str e0.1), (.int e0.2.1), (.int e0.2.2)])) stand_here_2))]), (.str name_3), (.int way_here_4)] = (F_law_moved (stand_here_1, stand_here_2) name_3 way_here_4).bind fun (r : ((List (Int × Int)) × (List (Sg × Int × Int)))) => .ret (false, (T.tup [(.tup (List.map (fun (e0 : (Int × Int)) => (T.tup [(.int e0.1), (.int e0.2)])) r.1)), (.tup (List.map (fun (e0 : (Sg × Int × Int)) => (T.tup [(.str e0.1), (.int e0.2.1), (.int e0.2.2)])) r.2))]))
theorem ok_law_moved {Γ : Pg} {i : Nat} {j_i_law_who : Nat} (hf : Γ.fns[i]? = some (.code 3 13 (B_law_moved j_i_law_who))) (hrp : Γ.rp = rpT) (h_i_law_who : S_law_who Γ j_i_law_who) : S_law_moved Γ i := fun k stand_here_1 stand_here_2 name_3 way_here_4 hk => by
  have core : ∀ (stand_here : ((List (Int × Int)) × (List (Sg × Int × Int)))) (name : Sg) (way_here : Int), evCall Γ k i [(.tup [(.tup (List.map (fun (e0 : (Int × Int)) => (T.tup [(.int e0.1), (.int e0.2)])) stand_here.1)), (.tup (List.map (fun (e0 : (Sg × Int × Int)) => (T.tup [(.str e0.1), (.int e0.2.1), (.int e0.2.2)])) stand_here.2))]), (.str name), (.int way_here)] = (F_law_moved stand_here name way_here).bind (fun (r : ((List (Int × Int)) × (List (Sg × Int × Int)))) => Tr.ret (false, (T.tup [(.tup (List.map (fun (e0 : (Int × Int)) => (T.tup [(.int e0.1), (.int e0.2)])) r.1)), (.tup (List.map (fun (e0 : (Sg × Int × Int)) => (T.tup [(.str e0.1), (.int e0.2.1), (.int e0.2.2)])) r.2))]))) := by
    intro stand_here name way_here
    obtain ⟨k, rfl, hj⟩ := ex_succ hk
    have c_i_law_who := fun x0 x1 x2 => h_i_law_who k x0 x1 x2 (by omega)
    rw [ev_code hf rfl]
    unfold F_law_moved
    show (evSs (ecx Γ k) [.set (.tup [(.name 3), (.name 4)]) (.call j_i_law_who [(.var 0), (.var 1)]), .set (.name 5) (.bi .min2 [(.var 3), (.bin .add (.var 3) (.var 2))]), .set (.tup [(.name 6), (.name 7)]) (.idx (.idx (.var 0) (.int 0)) (.var 5)), .set (.name 8) (.bin .add (.bin .add (.slc (.idx (.var 0) (.int 0)) none (some (.var 5))) (.tup [(.tup [(.bin .sub (.var 6) (.var 2)), (.bin .add (.var 7) (.var 2))])])) (.slc (.idx (.var 0) (.int 0)) (some (.bin .add (.var 5) (.int 1))) none)), .ret (some (.tup [(.var 8), (.li .tuple (.comp (.tup [(.var 10), (.bin .add (.var 11) (.bin .mul (.var 2) (.bi .int [(.cmp .eq (.var 10) (.var 1))]))), (.var 12)]) [] (.tup [(.name 10), (.name 11), (.name 12)]) [9, 10, 11, 12] (.seq (.ex (.idx (.var 0) (.int 1))))))]))] [some (.val (.tup [(.tup (List.map (fun (e0 : (Int × Int)) => (T.tup [(.int e0.1), (.int e0.2)])) stand_here.1)), (.tup (List.map (fun (e0 : (Sg × Int × Int)) => (T.tup [(.str e0.1), (.int e0.2.1), (.int e0.2.2)])) stand_here.2))])), some (.val (.str name)), some (.val (.int way_here)), none, none, none, none, none, none, none, none, none, none]).bind finF = Tr.bind _ (fun (r : ((List (Int × Int)) × (List (Sg × Int × Int)))) => Tr.ret (false, (T.tup [(.tup (List.map (fun (e0 : (Int × Int)) => (T.tup [(.int e0.1), (.int e0.2)])) r.1)), (.tup (List.map (fun (e0 : (Sg × Int × Int)) => (T.tup [(.str e0.1), (.int e0.2.1), (.int e0.2.2)])) r.2))])))
    refine step (E := fun (p : (Int × Int)) => [some (.val (.tup [(.tup (List.map (fun (e0 : (Int × Int)) => (T.tup [(.int e0.1), (.int e0.2)])) stand_here.1)), (.tup (List.map (fun (e0 : (Sg × Int × Int)) => (T.tup [(.str e0.1), (.int e0.2.1), (.int e0.2.2)])) stand_here.2))])), some (.val (.str name)), some (.val (.int way_here)), some (.val (.int p.1)), some (.val (.int p.2)), none, none, none, none, none, none, none, none]) (by (simp_arith [Nat.reduceBEq, Nat.reduceAdd, Nat.reduceEqDiff, hrp, c_i_law_who] <;> rfl)) fun p => ?_
    refine step (E := fun (w : Int) => [some (.val (.tup [(.tup (List.map (fun (e0 : (Int × Int)) => (T.tup [(.int e0.1), (.int e0.2)])) stand_here.1)), (.tup (List.map (fun (e0 : (Sg × Int × Int)) => (T.tup [(.str e0.1), (.int e0.2.1), (.int e0.2.2)])) stand_here.2))])), some (.val (.str name)), some (.val (.int way_here)), some (.val (.int p.1)), some (.val (.int p.2)), some (.val (.int w)), none, none, none, none, none, none, none]) (by (simp_arith [Nat.reduceBEq, Nat.reduceAdd, Nat.reduceEqDiff, hrp, c_i_law_who] <;> rfl)) fun w => ?_
    refine step (E := fun (p2 : (Int × Int)) => [some (.val (.tup [(.tup (List.map (fun (e0 : (Int × Int)) => (T.tup [(.int e0.1), (.int e0.2)])) stand_here.1)), (.tup (List.map (fun (e0 : (Sg × Int × Int)) => (T.tup [(.str e0.1), (.int e0.2.1), (.int e0.2.2)])) stand_here.2))])), some (.val (.str name)), some (.val (.int way_here)), some (.val (.int p.1)), some (.val (.int p.2)), some (.val (.int w)), some (.val (.int p2.1)), some (.val (.int p2.2)), none, none, none, none, none]) (by (simp_arith [Nat.reduceBEq, Nat.reduceAdd, Nat.reduceEqDiff, hrp, c_i_law_who] <;> rfl)) fun p2 => ?_
    refine step (E := fun (lamps_here : (List (Int × Int))) => [some (.val (.tup [(.tup (List.map (fun (e0 : (Int × Int)) => (T.tup [(.int e0.1), (.int e0.2)])) stand_here.1)), (.tup (List.map (fun (e0 : (Sg × Int × Int)) => (T.tup [(.str e0.1), (.int e0.2.1), (.int e0.2.2)])) stand_here.2))])), some (.val (.str name)), some (.val (.int way_here)), some (.val (.int p.1)), some (.val (.int p.2)), some (.val (.int w)), some (.val (.int p2.1)), some (.val (.int p2.2)), some (.val (.tup (List.map (fun (e0 : (Int × Int)) => (T.tup [(.int e0.1), (.int e0.2)])) lamps_here))), none, none, none, none]) (by (simp_arith [Nat.reduceBEq, Nat.reduceAdd, Nat.reduceEqDiff, hrp, c_i_law_who] <;> rfl)) fun lamps_here => ?_
    have z0 := coA_ev (fun (a2 : (Sg × Int × Int)) => (mulI way_here (if (a2.1 == name) = true then (1 : Int) else 0)).bind fun m => Tr.ret (a2.1, (a2.2.1 + m), a2.2.2)) (fun (e0 : (Sg × Int × Int)) => (T.tup [(.str e0.1), (.int e0.2.1), (.int e0.2.2)]))
    try simp_arith [Nat.reduceBEq, Nat.reduceAdd, Nat.reduceEqDiff, hrp, c_i_law_who] at z0
    exact stepR (fe := fun (o : ((List (Int × Int)) × (List (Sg × Int × Int)))) => (false, (T.tup [(.tup (List.map (fun (e0 : (Int × Int)) => (T.tup [(.int e0.1), (.int e0.2)])) o.1)), (.tup (List.map (fun (e0 : (Sg × Int × Int)) => (T.tup [(.str e0.1), (.int e0.2.1), (.int e0.2.2)])) o.2))]))) (by (simp_arith [Nat.reduceBEq, Nat.reduceAdd, Nat.reduceEqDiff, hrp, c_i_law_who, z0] <;> rfl)) (fun _ => rfl)
  exact core (stand_here_1, stand_here_2) name_3 way_here_4
end Mo

set_option Elab.async false
set_option linter.all false
set_option maxRecDepth 100000
set_option maxHeartbeats 2000000
set_option autoImplicit false
namespace Mo
open PySem PyProof.Rows
def B_law_led (j_i_law_goers : Nat) (j_i_law_next : Nat) (j_i_law_moved : Nat) (j_i_law_way : Nat) : List Sm := [.set (.name 3) (.new (.lst [])), .loop (.name 4) (.range [(.var 2)]) [.set (.name 5) (.call j_i_law_goers [(.var 1)]), .cond (.cmp .ne (.var 5) (.new (.lst []))) [.set (.name 6) (.idx (.var 5) (.call j_i_law_next [(.var 0), (.bi .len [(.var 5)])])), .set (.name 1) (.call j_i_law_moved [(.var 1), (.var 6), (.call j_i_law_way [(.var 1), (.var 6)])]), .ex (.me .append (.var 3) [(.var 6)])] []], .ret (some (.tup [(.li .tuple (.ex (.var 3))), (.var 1)]))]
def F_law_led (stand_here : ((List (Int × Int)) × (List (Sg × Int × Int)))) (many : Int) : Tr ((List Sg) × ((List (Int × Int)) × (List (Sg × Int × Int)))) := (Tr.ret ([] : List Sg)).bind fun (found : (List Sg)) => (((rng1 many).bind fun ws => Tr.ret ws).bind fun xs => forM xs (stand_here, found) fun (a : Int) (s : (((List (Int × Int)) × (List (Sg × Int × Int))) × (List Sg))) => ((F_law_goers s.1).bind fun r => Tr.ret r).bind fun (some' : (List Sg)) => (Tr.ret (!some'.isEmpty)).bind fun t => if t = true then ((drw (some'.length : Int)).bind fun r2 => (Tr.ofO (atT some' r2)).bind fun a2 => Tr.ret a2).bind fun (name : Sg) => ((F_law_way s.1 name).bind fun r3 => (F_law_moved s.1 name r3).bind fun r4 => Tr.ret r4).bind fun (stand_here2 : ((List (Int × Int)) × (List (Sg × Int × Int)))) => ((chk (s.2.length < SZ)).bind fun _ => Tr.ret (s.2 ++ [name])).bind fun (found2 : (List Sg)) => Tr.ret (stand_here2, found2) else Tr.ret (s.1, s.2)).bind fun (s2 : (((List (Int × Int)) × (List (Sg × Int × Int))) × (List Sg))) => (Tr.ret (s2.2, s2.1)).bind fun o => Tr.ret o
def S_law_led (Γ : Pg) (i : Nat) : Prop := ∀ (k : Nat) (stand_here_1 : (List (Int × Int))) (stand_here_2 : (List (Sg × Int × Int))) (many_3 : Int), 4 ≤ k → evCall Γ k i [(.ref 0), (.tup [(.tup (List.map (fun (e0 : (Int × Int)) => (T.tup [(.int e0.1), (.int e0.2)])) stand_here_1)), (.tup (List.map (fun (e0 : (Sg × Int × Int)) => (T.tup [(.str e0.1), (.int e0.2.1), (.int e0.2.2)])) stand_here_2))]), (.int many_3)] = (F_law_led (stand_here_1, stand_here_2) many_3).bind fun (r : ((List Sg) × ((List (Int × Int)) × (List (Sg × Int × Int))))) => .ret (false, (T.tup [(.tup (List.map T.str r.1)), (.tup [(.tup (List.map (fun (e0 : (Int × Int)) => (T.tup [(.int e0.1), (.int e0.2)])) r.2.1)), (.tup (List.map (fun (e0 : (Sg × Int × Int)) => (T.tup [(.str e0.1), (.int e0.2.1), (.int e0.2.2)])) r.2.2))])]))
theorem ok_law_led {Γ : Pg} {i : Nat} {j_i_law_goers : Nat} {j_i_law_next : Nat} {j_i_law_moved : Nat} {j_i_law_way : Nat} (hf : Γ.fns[i]? = some (.code 3 7 (B_law_led j_i_law_goers j_i_law_next j_i_law_moved j_i_law_way))) (hrp : Γ.rp = rpT) (h_i_law_goers : S_law_goers Γ j_i_law_goers) (h_i_law_next : S_next Γ j_i_law_next) (h_i_law_moved : S_law_moved Γ j_i_law_moved) (h_i_law_way : S_law_way Γ j_i_law_way) : S_law_led Γ i := fun k stand_here_1 stand_here_2 many_3 hk => by
  have core : ∀ (stand_here : ((List (Int × Int)) × (List (Sg × Int × Int)))) (many : Int), evCall Γ k i [(.ref 0), (.tup [(.tup (List.map (fun (e0 : (Int × Int)) => (T.tup [(.int e0.1), (.int e0.2)])) stand_here.1)), (.tup (List.map (fun (e0 : (Sg × Int × Int)) => (T.tup [(.str e0.1), (.int e0.2.1), (.int e0.2.2)])) stand_here.2))]), (.int many)] = (F_law_led stand_here many).bind (fun (r : ((List Sg) × ((List (Int × Int)) × (List (Sg × Int × Int))))) => Tr.ret (false, (T.tup [(.tup (List.map T.str r.1)), (.tup [(.tup (List.map (fun (e0 : (Int × Int)) => (T.tup [(.int e0.1), (.int e0.2)])) r.2.1)), (.tup (List.map (fun (e0 : (Sg × Int × Int)) => (T.tup [(.str e0.1), (.int e0.2.1), (.int e0.2.2)])) r.2.2))])]))) := by
    intro stand_here many
    obtain ⟨k, rfl, hj⟩ := ex_succ hk
    have c_i_law_goers := fun x0 x1 => h_i_law_goers k x0 x1 (by omega)
    have c_i_law_next := fun x0 => h_i_law_next k x0 (by omega)
    have c_i_law_moved := fun x0 x1 x2 x3 => h_i_law_moved k x0 x1 x2 x3 (by omega)
    have c_i_law_way := fun x0 x1 x2 => h_i_law_way k x0 x1 x2 (by omega)
    rw [ev_code hf rfl]
    unfold F_law_led
    show (evSs (ecx Γ k) [.set (.name 3) (.new (.lst [])), .loop (.name 4) (.range [(.var 2)]) [.set (.name 5) (.call j_i_law_goers [(.var 1)]), .cond (.cmp .ne (.var 5) (.new (.lst []))) [.set (.name 6) (.idx (.var 5) (.call j_i_law_next [(.var 0), (.bi .len [(.var 5)])])), .set (.name 1) (.call j_i_law_moved [(.var 1), (.var 6), (.call j_i_law_way [(.var 1), (.var 6)])]), .ex (.me .append (.var 3) [(.var 6)])] []], .ret (some (.tup [(.li .tuple (.ex (.var 3))), (.var 1)]))] [some (.val (.ref 0)), some (.val (.tup [(.tup (List.map (fun (e0 : (Int × Int)) => (T.tup [(.int e0.1), (.int e0.2)])) stand_here.1)), (.tup (List.map (fun (e0 : (Sg × Int × Int)) => (T.tup [(.str e0.1), (.int e0.2.1), (.int e0.2.2)])) stand_here.2))])), some (.val (.int many)), none, none, none, none]).bind finF = Tr.bind _ (fun (r : ((List Sg) × ((List (Int × Int)) × (List (Sg × Int × Int))))) => Tr.ret (false, (T.tup [(.tup (List.map T.str r.1)), (.tup [(.tup (List.map (fun (e0 : (Int × Int)) => (T.tup [(.int e0.1), (.int e0.2)])) r.2.1)), (.tup (List.map (fun (e0 : (Sg × Int × Int)) => (T.tup [(.str e0.1), (.int e0.2.1), (.int e0.2.2)])) r.2.2))])])))
    refine step (E := fun (found : (List Sg)) => [some (.val (.ref 0)), some (.val (.tup [(.tup (List.map (fun (e0 : (Int × Int)) => (T.tup [(.int e0.1), (.int e0.2)])) stand_here.1)), (.tup (List.map (fun (e0 : (Sg × Int × Int)) => (T.tup [(.str e0.1), (.int e0.2.1), (.int e0.2.2)])) stand_here.2))])), some (.val (.int many)), some (.own (List.map T.str found)), none, none, none]) (by (simp_arith [Nat.reduceBEq, Nat.reduceAdd, Nat.reduceEqDiff, hrp, c_i_law_goers, c_i_law_next, c_i_law_moved, c_i_law_way] <;> rfl)) fun found => ?_
    refine step (loopS T.int (fun (s : (((List (Int × Int)) × (List (Sg × Int × Int))) × (List Sg))) => [some (.val (.ref 0)), some (.val (.tup [(.tup (List.map (fun (e0 : (Int × Int)) => (T.tup [(.int e0.1), (.int e0.2)])) s.1.1)), (.tup (List.map (fun (e0 : (Sg × Int × Int)) => (T.tup [(.str e0.1), (.int e0.2.1), (.int e0.2.2)])) s.1.2))])), some (.val (.int many)), some (.own (List.map T.str s.2)), none, none, none]) (fun (a : Int) (s : (((List (Int × Int)) × (List (Sg × Int × Int))) × (List Sg))) => [some (.val (.ref 0)), some (.val (.tup [(.tup (List.map (fun (e0 : (Int × Int)) => (T.tup [(.int e0.1), (.int e0.2)])) s.1.1)), (.tup (List.map (fun (e0 : (Sg × Int × Int)) => (T.tup [(.str e0.1), (.int e0.2.1), (.int e0.2.2)])) s.1.2))])), some (.val (.int many)), some (.own (List.map T.str s.2)), some (.val (.int a)), none, none]) (by (simp_arith [Nat.reduceBEq, Nat.reduceAdd, Nat.reduceEqDiff, hrp, c_i_law_goers, c_i_law_next, c_i_law_moved, c_i_law_way] <;> rfl)) (by (simp_arith [Nat.reduceBEq, Nat.reduceAdd, Nat.reduceEqDiff, hrp, c_i_law_goers, c_i_law_next, c_i_law_moved, c_i_law_way] <;> rfl)) (fun _ _ => by (simp_arith [Nat.reduceBEq, Nat.reduceAdd, Nat.reduceEqDiff, hrp, c_i_law_goers, c_i_law_next, c_i_law_moved, c_i_law_way] <;> rfl)) (fun a s => ?_)) (fun s2 => ?_)
    · refine step (E := fun (some' : (List Sg)) => [some (.val (.ref 0)), some (.val (.tup [(.tup (List.map (fun (e0 : (Int × Int)) => (T.tup [(.int e0.1), (.int e0.2)])) s.1.1)), (.tup (List.map (fun (e0 : (Sg × Int × Int)) => (T.tup [(.str e0.1), (.int e0.2.1), (.int e0.2.2)])) s.1.2))])), some (.val (.int many)), some (.own (List.map T.str s.2)), some (.val (.int a)), some (.own (List.map T.str some')), none]) (by (simp_arith [Nat.reduceBEq, Nat.reduceAdd, Nat.reduceEqDiff, hrp, c_i_law_goers, c_i_law_next, c_i_law_moved, c_i_law_way] <;> rfl)) fun some' => ?_
      refine stepI (by (simp_arith [Nat.reduceBEq, Nat.reduceAdd, Nat.reduceEqDiff, hrp, c_i_law_goers, c_i_law_next, c_i_law_moved, c_i_law_way] <;> rfl)) ?_ ?_
      · show (evSs _ _ _).bind _ = _
        refine step (E := fun (name : Sg) => [some (.val (.ref 0)), some (.val (.tup [(.tup (List.map (fun (e0 : (Int × Int)) => (T.tup [(.int e0.1), (.int e0.2)])) s.1.1)), (.tup (List.map (fun (e0 : (Sg × Int × Int)) => (T.tup [(.str e0.1), (.int e0.2.1), (.int e0.2.2)])) s.1.2))])), some (.val (.int many)), some (.own (List.map T.str s.2)), some (.val (.int a)), some (.own (List.map T.str some')), some (.val (.str name))]) (by (simp_arith [Nat.reduceBEq, Nat.reduceAdd, Nat.reduceEqDiff, hrp, c_i_law_goers, c_i_law_next, c_i_law_moved, c_i_law_way] <;> rfl)) fun name => ?_
        refine step (E := fun (stand_here2 : ((List (Int × Int)) × (List (Sg × Int × Int)))) => [some (.val (.ref 0)), some (.val (.tup [(.tup (List.map (fun (e0 : (Int × Int)) => (T.tup [(.int e0.1), (.int e0.2)])) stand_here2.1)), (.tup (List.map (fun (e0 : (Sg × Int × Int)) => (T.tup [(.str e0.1), (.int e0.2.1), (.int e0.2.2)])) stand_here2.2))])), some (.val (.int many)), some (.own (List.map T.str s.2)), some (.val (.int a)), some (.own (List.map T.str some')), some (.val (.str name))]) (by (simp_arith [Nat.reduceBEq, Nat.reduceAdd, Nat.reduceEqDiff, hrp, c_i_law_goers, c_i_law_next, c_i_law_moved, c_i_law_way] <;> rfl)) fun stand_here2 => ?_
        refine step (E := fun (found2 : (List Sg)) => [some (.val (.ref 0)), some (.val (.tup [(.tup (List.map (fun (e0 : (Int × Int)) => (T.tup [(.int e0.1), (.int e0.2)])) stand_here2.1)), (.tup (List.map (fun (e0 : (Sg × Int × Int)) => (T.tup [(.str e0.1), (.int e0.2.1), (.int e0.2.2)])) stand_here2.2))])), some (.val (.int many)), some (.own (List.map T.str found2)), some (.val (.int a)), some (.own (List.map T.str some')), some (.val (.str name))]) (by (simp_arith [Nat.reduceBEq, Nat.reduceAdd, Nat.reduceEqDiff, hrp, c_i_law_goers, c_i_law_next, c_i_law_moved, c_i_law_way] <;> rfl)) fun found2 => ?_
        exact (by (simp_arith [Nat.reduceBEq, Nat.reduceAdd, Nat.reduceEqDiff, hrp, c_i_law_goers, c_i_law_next, c_i_law_moved, c_i_law_way] <;> rfl))
      · show (evSs _ _ _).bind _ = _
        exact (by (simp_arith [Nat.reduceBEq, Nat.reduceAdd, Nat.reduceEqDiff, hrp, c_i_law_goers, c_i_law_next, c_i_law_moved, c_i_law_way] <;> rfl))
    exact stepR (fe := fun (o : ((List Sg) × ((List (Int × Int)) × (List (Sg × Int × Int))))) => (false, (T.tup [(.tup (List.map T.str o.1)), (.tup [(.tup (List.map (fun (e0 : (Int × Int)) => (T.tup [(.int e0.1), (.int e0.2)])) o.2.1)), (.tup (List.map (fun (e0 : (Sg × Int × Int)) => (T.tup [(.str e0.1), (.int e0.2.1), (.int e0.2.2)])) o.2.2))])]))) (by (simp_arith [Nat.reduceBEq, Nat.reduceAdd, Nat.reduceEqDiff, hrp, c_i_law_goers, c_i_law_next, c_i_law_moved, c_i_law_way] <;> rfl)) (fun _ => rfl)
  exact core (stand_here_1, stand_here_2) many_3
end Mo

set_option Elab.async false
set_option linter.all false
set_option maxRecDepth 100000
set_option maxHeartbeats 2000000
set_option autoImplicit false
namespace Mo
open PySem PyProof.Rows
def B_toward : List Sm := [.ret (some (.bin .sub (.bi .int [(.cmp .gt (.var 1) (.var 0))]) (.bi .int [(.cmp .lt (.var 1) (.var 0))])))]
def F_toward (place : Int) (home' : Int) : Tr Int := (Tr.ret ((if (decide (place < home')) = true then (1 : Int) else 0) - (if (decide (home' < place)) = true then (1 : Int) else 0))).bind fun o => Tr.ret o
def S_toward (Γ : Pg) (i : Nat) : Prop := ∀ (k : Nat) (place_1 : Int) (home'_2 : Int), 1 ≤ k → evCall Γ k i [(.int place_1), (.int home'_2)] = (F_toward place_1 home'_2).bind fun (r : Int) => .ret (false, (T.int r))
theorem ok_toward {Γ : Pg} {i : Nat} (hf : Γ.fns[i]? = some (.code 2 2 (B_toward))) (hrp : Γ.rp = rpT) : S_toward Γ i := fun k place_1 home'_2 hk => by
  have core : ∀ (place : Int) (home' : Int), evCall Γ k i [(.int place), (.int home')] = (F_toward place home').bind (fun (r : Int) => Tr.ret (false, (T.int r))) := by
    intro place home'
    obtain ⟨k, rfl, hj⟩ := ex_succ hk
    rw [ev_code hf rfl]
    unfold F_toward
    show (evSs (ecx Γ k) [.ret (some (.bin .sub (.bi .int [(.cmp .gt (.var 1) (.var 0))]) (.bi .int [(.cmp .lt (.var 1) (.var 0))])))] [some (.val (.int place)), some (.val (.int home'))]).bind finF = Tr.bind _ (fun (r : Int) => Tr.ret (false, (T.int r)))
    exact stepR (fe := fun (o : Int) => (false, (T.int o))) (by (simp_arith [Nat.reduceBEq, Nat.reduceAdd, Nat.reduceEqDiff, hrp] <;> rfl)) (fun _ => rfl)
  exact core place_1 home'_2
end Mo

set_option Elab.async false
set_option linter.all false
set_option maxRecDepth 100000
set_option maxHeartbeats 2000000
set_option autoImplicit false
namespace Mo
open PySem PyProof.Rows
def B_stretch_by : List Sm := [.ret (some (.bin .add (.var 0) (.bi .min2 [(.int 0), (.var 1)])))]
def F_stretch_by (place : Int) (way : Int) : Tr Int := (Tr.ret (place + (min (0 : Int) way))).bind fun o => Tr.ret o
def S_stretch_by (Γ : Pg) (i : Nat) : Prop := ∀ (k : Nat) (place_1 : Int) (way_2 : Int), 1 ≤ k → evCall Γ k i [(.int place_1), (.int way_2)] = (F_stretch_by place_1 way_2).bind fun (r : Int) => .ret (false, (T.int r))
theorem ok_stretch_by {Γ : Pg} {i : Nat} (hf : Γ.fns[i]? = some (.code 2 2 (B_stretch_by))) (hrp : Γ.rp = rpT) : S_stretch_by Γ i := fun k place_1 way_2 hk => by
  have core : ∀ (place : Int) (way : Int), evCall Γ k i [(.int place), (.int way)] = (F_stretch_by place way).bind (fun (r : Int) => Tr.ret (false, (T.int r))) := by
    intro place way
    obtain ⟨k, rfl, hj⟩ := ex_succ hk
    rw [ev_code hf rfl]
    unfold F_stretch_by
    show (evSs (ecx Γ k) [.ret (some (.bin .add (.var 0) (.bi .min2 [(.int 0), (.var 1)])))] [some (.val (.int place)), some (.val (.int way))]).bind finF = Tr.bind _ (fun (r : Int) => Tr.ret (false, (T.int r)))
    exact stepR (fe := fun (o : Int) => (false, (T.int o))) (by (simp_arith [Nat.reduceBEq, Nat.reduceAdd, Nat.reduceEqDiff, hrp] <;> rfl)) (fun _ => rfl)
  exact core place_1 way_2
end Mo

set_option Elab.async false
set_option linter.all false
set_option maxRecDepth 100000
set_option maxHeartbeats 2000000
set_option autoImplicit false
namespace Mo
open PySem PyProof.Rows
def B_is_lit (j_i_stretch_by : Nat) : List Sm := [.ret (some (.cmp .gt (.idx (.idx (.var 0) (.call j_i_stretch_by [(.var 1), (.var 2)])) (.bi .int [(.cmp .lt (.var 2) (.int 0))])) (.int 0)))]
def F_is_lit (lamps : (List (Int × Int))) (place : Int) (way : Int) : Tr Bool := ((F_stretch_by place way).bind fun r => (Tr.ofO (atT lamps r)).bind fun a => (if (decide (way < (0 : Int))) = true then Tr.ret a.2 else Tr.ret a.1).bind fun v => Tr.ret (decide ((0 : Int) < v))).bind fun o => Tr.ret o
def S_is_lit (Γ : Pg) (i : Nat) : Prop := ∀ (k : Nat) (lamps_1 : (List (Int × Int))) (place_2 : Int) (way_3 : Int), 2 ≤ k → evCall Γ k i [(.tup (List.map (fun (e0 : (Int × Int)) => (T.tup [(.int e0.1), (.int e0.2)])) lamps_1)), (.int place_2), (.int way_3)] = (F_is_lit lamps_1 place_2 way_3).bind fun (r : Bool) => .ret (false, (T.bl r))
theorem ok_is_lit {Γ : Pg} {i : Nat} {j_i_stretch_by : Nat} (hf : Γ.fns[i]? = some (.code 3 3 (B_is_lit j_i_stretch_by))) (hrp : Γ.rp = rpT) (h_i_stretch_by : S_stretch_by Γ j_i_stretch_by) : S_is_lit Γ i := fun k lamps_1 place_2 way_3 hk => by
  have core : ∀ (lamps : (List (Int × Int))) (place : Int) (way : Int), evCall Γ k i [(.tup (List.map (fun (e0 : (Int × Int)) => (T.tup [(.int e0.1), (.int e0.2)])) lamps)), (.int place), (.int way)] = (F_is_lit lamps place way).bind (fun (r : Bool) => Tr.ret (false, (T.bl r))) := by
    intro lamps place way
    obtain ⟨k, rfl, hj⟩ := ex_succ hk
    have c_i_stretch_by := fun x0 x1 => h_i_stretch_by k x0 x1 (by omega)
    rw [ev_code hf rfl]
    unfold F_is_lit
    show (evSs (ecx Γ k) [.ret (some (.cmp .gt (.idx (.idx (.var 0) (.call j_i_stretch_by [(.var 1), (.var 2)])) (.bi .int [(.cmp .lt (.var 2) (.int 0))])) (.int 0)))] [some (.val (.tup (List.map (fun (e0 : (Int × Int)) => (T.tup [(.int e0.1), (.int e0.2)])) lamps))), some (.val (.int place)), some (.val (.int way))]).bind finF = Tr.bind _ (fun (r : Bool) => Tr.ret (false, (T.bl r)))
    exact stepR (fe := fun (o : Bool) => (false, (T.bl o))) (by (simp_arith [Nat.reduceBEq, Nat.reduceAdd, Nat.reduceEqDiff, hrp, c_i_stretch_by] <;> rfl)) (fun _ => rfl)
  exact core lamps_1 place_2 way_3
end Mo

set_option Elab.async false
set_option linter.all false
set_option maxRecDepth 100000
set_option maxHeartbeats 2000000
set_option autoImplicit false
namespace Mo
open PySem PyProof.Rows
def B_steps (j_i_toward : Nat) (j_i_is_lit : Nat) : List Sm := [.set (.name 1) (.new (.lst [])), .loop (.tup [(.name 2), (.name 3), (.name 4)]) (.seq (.ex (.idx (.var 0) (.int 1)))) [.set (.name 5) (.call j_i_toward [(.var 3), (.var 4)]), .cond (.and (.cmp .ne (.var 5) (.int 0)) (.call j_i_is_lit [(.idx (.var 0) (.int 0)), (.var 3), (.var 5)])) [.ex (.me .append (.var 1) [(.var 2)])] []], .ret (some (.li .tuple (.ex (.var 1))))]
def F_steps (stand : ((List (Int × Int)) × (List (Sg × Int × Int)))) : Tr (List Sg) := (Tr.ret ([] : List Sg)).bind fun (found : (List Sg)) => ((Tr.ret stand.2).bind fun xs => forM xs found fun (a : (Sg × Int × Int)) (s : (List Sg)) => ((F_toward a.2.1 a.2.2).bind fun r => Tr.ret r).bind fun (way : Int) => (((if (!(way == (0 : Int))) = true then (F_is_lit stand.1 a.2.1 way).bind fun r2 => Tr.ret r2 else Tr.ret false).bind fun q => Tr.ret q).bind fun t => if t = true then ((chk (s.length < SZ)).bind fun _ => Tr.ret (s ++ [a.1])).bind fun (found2 : (List Sg)) => Tr.ret found2 else Tr.ret s).bind fun (found3 : (List Sg)) => Tr.ret found3).bind fun (s2 : (List Sg)) => (Tr.ret s2).bind fun o => Tr.ret o
def S_steps (Γ : Pg) (i : Nat) : Prop := ∀ (k : Nat) (stand_1 : (List (Int × Int))) (stand_2 : (List (Sg × Int × Int))), 3 ≤ k → evCall Γ k i [(.tup [(.tup (List.map (fun (e0 : (Int × Int)) => (T.tup [(.int e0.1), (.int e0.2)])) stand_1)), (.tup (List.map (fun (e0 : (Sg × Int × Int)) => (T.tup [(.str e0.1), (.int e0.2.1), (.int e0.2.2)])) stand_2))])] = (F_steps (stand_1, stand_2)).bind fun (r : (List Sg)) => .ret (false, (T.tup (List.map T.str r)))
theorem ok_steps {Γ : Pg} {i : Nat} {j_i_toward : Nat} {j_i_is_lit : Nat} (hf : Γ.fns[i]? = some (.code 1 6 (B_steps j_i_toward j_i_is_lit))) (hrp : Γ.rp = rpT) (h_i_toward : S_toward Γ j_i_toward) (h_i_is_lit : S_is_lit Γ j_i_is_lit) : S_steps Γ i := fun k stand_1 stand_2 hk => by
  have core : ∀ (stand : ((List (Int × Int)) × (List (Sg × Int × Int)))), evCall Γ k i [(.tup [(.tup (List.map (fun (e0 : (Int × Int)) => (T.tup [(.int e0.1), (.int e0.2)])) stand.1)), (.tup (List.map (fun (e0 : (Sg × Int × Int)) => (T.tup [(.str e0.1), (.int e0.2.1), (.int e0.2.2)])) stand.2))])] = (F_steps stand).bind (fun (r : (List Sg)) => Tr.ret (false, (T.tup (List.map T.str r)))) := by
    intro stand
    obtain ⟨k, rfl, hj⟩ := ex_succ hk
    have c_i_toward := fun x0 x1 => h_i_toward k x0 x1 (by omega)
    have c_i_is_lit := fun x0 x1 x2 => h_i_is_lit k x0 x1 x2 (by omega)
    rw [ev_code hf rfl]
    unfold F_steps
    show (evSs (ecx Γ k) [.set (.name 1) (.new (.lst [])), .loop (.tup [(.name 2), (.name 3), (.name 4)]) (.seq (.ex (.idx (.var 0) (.int 1)))) [.set (.name 5) (.call j_i_toward [(.var 3), (.var 4)]), .cond (.and (.cmp .ne (.var 5) (.int 0)) (.call j_i_is_lit [(.idx (.var 0) (.int 0)), (.var 3), (.var 5)])) [.ex (.me .append (.var 1) [(.var 2)])] []], .ret (some (.li .tuple (.ex (.var 1))))] [some (.val (.tup [(.tup (List.map (fun (e0 : (Int × Int)) => (T.tup [(.int e0.1), (.int e0.2)])) stand.1)), (.tup (List.map (fun (e0 : (Sg × Int × Int)) => (T.tup [(.str e0.1), (.int e0.2.1), (.int e0.2.2)])) stand.2))])), none, none, none, none, none]).bind finF = Tr.bind _ (fun (r : (List Sg)) => Tr.ret (false, (T.tup (List.map T.str r))))
    refine step (E := fun (found : (List Sg)) => [some (.val (.tup [(.tup (List.map (fun (e0 : (Int × Int)) => (T.tup [(.int e0.1), (.int e0.2)])) stand.1)), (.tup (List.map (fun (e0 : (Sg × Int × Int)) => (T.tup [(.str e0.1), (.int e0.2.1), (.int e0.2.2)])) stand.2))])), some (.own (List.map T.str found)), none, none, none, none]) (by (simp_arith [Nat.reduceBEq, Nat.reduceAdd, Nat.reduceEqDiff, hrp, c_i_toward, c_i_is_lit] <;> rfl)) fun found => ?_
    refine step (loopS (fun (e0 : (Sg × Int × Int)) => (T.tup [(.str e0.1), (.int e0.2.1), (.int e0.2.2)])) (fun (s : (List Sg)) => [some (.val (.tup [(.tup (List.map (fun (e0 : (Int × Int)) => (T.tup [(.int e0.1), (.int e0.2)])) stand.1)), (.tup (List.map (fun (e0 : (Sg × Int × Int)) => (T.tup [(.str e0.1), (.int e0.2.1), (.int e0.2.2)])) stand.2))])), some (.own (List.map T.str s)), none, none, none, none]) (fun (a : (Sg × Int × Int)) (s : (List Sg)) => [some (.val (.tup [(.tup (List.map (fun (e0 : (Int × Int)) => (T.tup [(.int e0.1), (.int e0.2)])) stand.1)), (.tup (List.map (fun (e0 : (Sg × Int × Int)) => (T.tup [(.str e0.1), (.int e0.2.1), (.int e0.2.2)])) stand.2))])), some (.own (List.map T.str s)), some (.val (.str a.1)), some (.val (.int a.2.1)), some (.val (.int a.2.2)), none]) (by (simp_arith [Nat.reduceBEq, Nat.reduceAdd, Nat.reduceEqDiff, hrp, c_i_toward, c_i_is_lit] <;> rfl)) (by (simp_arith [Nat.reduceBEq, Nat.reduceAdd, Nat.reduceEqDiff, hrp, c_i_toward, c_i_is_lit] <;> rfl)) (fun _ _ => by (simp_arith [Nat.reduceBEq, Nat.reduceAdd, Nat.reduceEqDiff, hrp, c_i_toward, c_i_is_lit] <;> rfl)) (fun a s => ?_)) (fun s2 => ?_)
    · refine step (E := fun (way : Int) => [some (.val (.tup [(.tup (List.map (fun (e0 : (Int × Int)) => (T.tup [(.int e0.1), (.int e0.2)])) stand.1)), (.tup (List.map (fun (e0 : (Sg × Int × Int)) => (T.tup [(.str e0.1), (.int e0.2.1), (.int e0.2.2)])) stand.2))])), some (.own (List.map T.str s)), some (.val (.str a.1)), some (.val (.int a.2.1)), some (.val (.int a.2.2)), some (.val (.int way))]) (by (simp_arith [Nat.reduceBEq, Nat.reduceAdd, Nat.reduceEqDiff, hrp, c_i_toward, c_i_is_lit] <;> rfl)) fun way => ?_
      refine step (E := fun (found3 : (List Sg)) => [some (.val (.tup [(.tup (List.map (fun (e0 : (Int × Int)) => (T.tup [(.int e0.1), (.int e0.2)])) stand.1)), (.tup (List.map (fun (e0 : (Sg × Int × Int)) => (T.tup [(.str e0.1), (.int e0.2.1), (.int e0.2.2)])) stand.2))])), some (.own (List.map T.str found3)), some (.val (.str a.1)), some (.val (.int a.2.1)), some (.val (.int a.2.2)), some (.val (.int way))]) (ifS (by (simp_arith [Nat.reduceBEq, Nat.reduceAdd, Nat.reduceEqDiff, hrp, c_i_toward, c_i_is_lit] <;> rfl)) ?_ ?_) fun found3 => ?_
      · refine step (E := fun (found2 : (List Sg)) => [some (.val (.tup [(.tup (List.map (fun (e0 : (Int × Int)) => (T.tup [(.int e0.1), (.int e0.2)])) stand.1)), (.tup (List.map (fun (e0 : (Sg × Int × Int)) => (T.tup [(.str e0.1), (.int e0.2.1), (.int e0.2.2)])) stand.2))])), some (.own (List.map T.str found2)), some (.val (.str a.1)), some (.val (.int a.2.1)), some (.val (.int a.2.2)), some (.val (.int way))]) (by (simp_arith [Nat.reduceBEq, Nat.reduceAdd, Nat.reduceEqDiff, hrp, c_i_toward, c_i_is_lit] <;> rfl)) fun found2 => ?_
        exact (by (simp_arith [Nat.reduceBEq, Nat.reduceAdd, Nat.reduceEqDiff, hrp, c_i_toward, c_i_is_lit] <;> rfl))
      · exact (by (simp_arith [Nat.reduceBEq, Nat.reduceAdd, Nat.reduceEqDiff, hrp, c_i_toward, c_i_is_lit] <;> rfl))
      exact (by (simp_arith [Nat.reduceBEq, Nat.reduceAdd, Nat.reduceEqDiff, hrp, c_i_toward, c_i_is_lit] <;> rfl))
    exact stepR (fe := fun (o : (List Sg)) => (false, (T.tup (List.map T.str o)))) (by (simp_arith [Nat.reduceBEq, Nat.reduceAdd, Nat.reduceEqDiff, hrp, c_i_toward, c_i_is_lit] <;> rfl)) (fun _ => rfl)
  exact core (stand_1, stand_2)
end Mo

set_option Elab.async false
set_option linter.all false
set_option maxRecDepth 100000
set_option maxHeartbeats 1000000
set_option autoImplicit false
namespace Mo
section
variable {E : Ex → Prop}
/-- which way home lies -/
def wayI (p h : Int) : Int := (if decide (p < h) = true then (1 : Int) else 0) - if decide (h < p) = true then (1 : Int) else 0
theorem wayI_cases (p h : Int) : (p < h ∧ wayI p h = 1) ∨ (h < p ∧ wayI p h = -1) ∨ (p = h ∧ wayI p h = 0) := by
  unfold wayI
  simp only [decide_eq_true_eq]
  rcases Int.lt_trichotomy p h with h1 | h1 | h1
  · left; rw [if_pos h1, if_neg (by omega)]; omega
  · right; right; subst h1; simp
  · right; left; rw [if_pos h1, if_neg (by omega)]; omega
/-- whether a lamp stands at the mouth that way -/
def litB (ls : Lamps) (p way : Int) : Bool := match atT ls (min p (p + way)) with
  | some a => if way < 0 then decide (0 < a.2) else decide (0 < a.1)
  | none => false
def goB (ls : Lamps) (f : Sg × Int × Int) : Bool := !(wayI f.2.1 f.2.2 == 0) && litB ls f.2.1 (wayI f.2.1 f.2.2)
/-- who can go homeward -/
def goersF (st : Stand) : List Sg := (st.2.filter (goB st.1)).map (·.1)
def FolkR (n : Int) (fs : Folk) : Prop := ∀ f ∈ fs, (0 ≤ f.2.1 ∧ f.2.1 ≤ n) ∧ 0 ≤ f.2.2 ∧ f.2.2 ≤ n
def NamesU (fs : Folk) : Prop := (fs.map (·.1)).Nodup
theorem FolkIn.nu {n : Int} {fs : Folk} (h : FolkIn n fs) : NamesU fs := h.nm.1.imp fun h z => by subst z; exact List.lt_irrefl _ h
theorem sp_who {st : Stand} (hu : NamesU st.2) {f : Sg × Int × Int} (hf : f ∈ st.2) : F_law_who st f.1 = .ret (f.2.1, f.2.2) := by
  have e : st.2.filter (fun a => a.1 == f.1) = [f] := by
    generalize st.2 = fs at hu hf
    unfold NamesU at hu
    induction fs with
    | nil => cases hf
    | cons g fs ih =>
      rw [List.map_cons, List.nodup_cons] at hu
      rw [List.filter_cons]
      rcases List.mem_cons.mp hf with rfl | hf
      · rw [if_pos (by simp)]
        congr 1
        rw [List.filter_eq_nil_iff]
        intro a ha z
        exact hu.1 (List.mem_map.mpr ⟨a, ha, by simpa using z⟩)
      · rw [if_neg, ih hu.2 hf]
        intro z
        exact hu.1 (List.mem_map.mpr ⟨f, hf, by have := z; simp at this; exact this.symm⟩)
  unfold F_law_who
  rw [e]
  rfl
theorem sp_way {st : Stand} (hu : NamesU st.2) {f : Sg × Int × Int} (hf : f ∈ st.2) : F_law_way st f.1 = .ret (wayI f.2.1 f.2.2) := by
  unfold F_law_way
  rw [sp_who hu hf]
  rfl
theorem way_in {n p h : Int} (h1 : 0 ≤ p ∧ p ≤ n) (h2 : 0 ≤ h ∧ h ≤ n) (h3 : wayI p h ≠ 0) : 0 ≤ min p (p + wayI p h) ∧ min p (p + wayI p h) < n := by
  rcases wayI_cases p h with h | h | h <;> omega
theorem sp_lit {st : Stand} (hu : NamesU st.2) {f : Sg × Int × Int} (hf : f ∈ st.2) (way : Int) : F_law_lit st f.1 way = .ret (decide (0 ≤ min f.2.1 (f.2.1 + way)) && litB st.1 f.2.1 way) := by
  unfold F_law_lit
  rw [sp_who hu hf]
  simp only [tr_ret, bret]
  unfold litB
  by_cases h0 : 0 ≤ min f.2.1 (f.2.1 + way)
  · by_cases h1 : min f.2.1 (f.2.1 + way) < st.1.length
    · rw [at_nat h0 h1]
      simp only [h0, h1, decide_true, Bool.and_self, if_true, tr_some, tr_ret, Bool.true_and, decide_eq_true_eq]
      split <;> rfl
    · have : atT st.1 (min f.2.1 (f.2.1 + way)) = none := by
        unfold atT
        rw [if_pos h0, List.getElem?_eq_none (by omega)]
      rw [this]
      simp only [h0, h1, decide_true, decide_false, Bool.and_false, Bool.false_eq_true, if_false]
  · simp only [h0, decide_false, Bool.false_and, Bool.false_eq_true, if_false]
theorem sp_goers {st : Stand} (hu : NamesU st.2) (hr : FolkR st.1.length st.2) (hl : st.2.length ≤ 1000) : F_law_goers st = .ret (goersF st) := by
  unfold F_law_goers
  simp only [tr_ret, bret]
  rw [forM_filter (goB st.1) (·.1) (by rw [sz_val]; simp; omega) fun f hf l hl => ?_]
  · rfl
  · rw [sp_way hu hf]
    simp only [tr_ret, sp_lit hu hf, chk_ok hl]
    unfold goB
    by_cases h : wayI f.2.1 f.2.2 = 0
    · simp [h]
    · have hw := way_in (hr f hf).1 (hr f hf).2 h
      have hb : (wayI f.2.1 f.2.2 == 0) = false := by simpa using h
      simp only [hb, hw.1, decide_true, Bool.true_and, Bool.not_false, if_true, tr_ret]
      split <;> rfl
theorem sp_is_lit {ls : Lamps} {p way : Int} (hw : way = 1 ∨ way = -1) (h : 0 ≤ min p (p + way) ∧ min p (p + way) < ls.length) : F_is_lit ls p way = .ret (litB ls p way) := by
  unfold F_is_lit F_stretch_by
  simp only [tr_ret, bret]
  unfold litB
  have e : p + min 0 way = min p (p + way) := by omega
  rw [e, at_nat h.1 h.2]
  simp only [tr_some, tr_ret, decide_eq_true_eq]
  split <;> rfl
theorem sp_steps {st : Stand} (hr : FolkR st.1.length st.2) (hl : st.2.length ≤ 1000) : F_steps st = .ret (goersF st) := by
  unfold F_steps
  simp only [tr_ret, bret]
  rw [forM_filter (goB st.1) (·.1) (by rw [sz_val]; simp; omega) fun f hf l hl => ?_]
  · rfl
  · have e : F_toward f.2.1 f.2.2 = .ret (wayI f.2.1 f.2.2) := rfl
    rw [e]
    simp only [tr_ret, chk_ok hl]
    unfold goB
    by_cases h : wayI f.2.1 f.2.2 = 0
    · simp [h]
    · have hw := way_in (hr f hf).1 (hr f hf).2 h
      have hb : (wayI f.2.1 f.2.2 == 0) = false := by simpa using h
      have h1 : wayI f.2.1 f.2.2 = 1 ∨ wayI f.2.1 f.2.2 = -1 := by rcases wayI_cases f.2.1 f.2.2 with h | h | h <;> omega
      simp only [hb, sp_is_lit h1 hw, Bool.true_and, Bool.not_false, if_true, tr_ret]
      split <;> rfl
/-- the lamps behind one's going through -/
def goneL (ls : Lamps) (p way : Int) : Lamps := ls.mapIdx fun i a => if (i : Int) = min p (p + way) then (a.1 - way, a.2 + way) else a
/-- the stand behind one's going -/
def movedF (st : Stand) (f : Sg × Int × Int) (way : Int) : Stand := (goneL st.1 f.2.1 way, st.2.map fun a => (a.1, a.2.1 + way * (if (a.1 == f.1) = true then 1 else 0), a.2.2))
theorem cut_lo {α : Type} {xs : List α} {i : Int} (h : 0 ≤ i) (h2 : i ≤ xs.length) : cutT xs none (some i) = xs.take i.toNat := by
  unfold cutT sIx
  simp only
  rw [if_neg (by omega), List.drop_zero]
  congr 1
  omega
theorem cut_hi {α : Type} {xs : List α} {i : Int} (h : 0 ≤ i) (h2 : i ≤ xs.length) : cutT xs (some i) none = xs.drop i.toNat := by
  unfold cutT sIx
  simp only
  rw [if_neg (by omega), show min i.toNat xs.length = i.toNat by omega]
  exact List.take_of_length_le (by rw [List.length_drop]; omega)
theorem put_at {ls : Lamps} {w : Int} {a b : Int × Int} (h0 : 0 ≤ w) (h1 : w < ls.length) (e : atT ls w = some a) : (cutT ls none (some w) ++ [b]) ++ cutT ls (some (w + 1)) none = ls.mapIdx fun i x => if (i : Int) = w then b else x := by
  rw [cut_lo h0 (by omega), cut_hi (by omega) (by omega)]
  apply List.ext_getElem?
  intro i
  rw [List.getElem?_mapIdx, List.append_assoc]
  by_cases h : i < w.toNat
  · rw [List.getElem?_append_left (by rw [List.length_take]; omega), List.getElem?_take, if_pos h]
    cases ls[i]? <;> simp; omega
  · rw [List.getElem?_append_right (by rw [List.length_take]; omega), List.length_take, show min w.toNat ls.length = w.toNat by omega]
    by_cases h2 : i = w.toNat
    · subst h2
      rw [List.getElem?_eq_getElem (show w.toNat < ls.length by omega)]
      simp; omega
    · rw [show i - w.toNat = (i - w.toNat - 1) + 1 by omega]
      simp only [List.cons_append, List.nil_append, List.getElem?_cons_succ, List.getElem?_drop]
      rw [show (w + 1).toNat + (i - w.toNat - 1) = i by omega]
      cases ls[i]? <;> simp; omega
theorem sp_moved {st : Stand} (hu : NamesU st.2) {f : Sg × Int × Int} (hf : f ∈ st.2) {way : Int} (hw : way = 1 ∨ way = -1) (h : 0 ≤ min f.2.1 (f.2.1 + way) ∧ min f.2.1 (f.2.1 + way) < st.1.length) (hl : st.1.length ≤ 1000) : F_law_moved st f.1 way = .ret (movedF st f way) := by
  unfold F_law_moved
  rw [sp_who hu hf]
  simp only [tr_ret, bret]
  have e := at_nat h.1 h.2
  generalize ha : st.1[(min f.2.1 (f.2.1 + way)).toNat]'(by omega) = a at e
  rw [e]
  simp only [tr_some, tr_ret]
  have l1 : (cutT st.1 none (some (min f.2.1 (f.2.1 + way)))).length ≤ 1000 := by rw [cut_lo h.1 (by omega), List.length_take]; omega
  have l2 : (cutT st.1 (some (min f.2.1 (f.2.1 + way) + 1)) none).length ≤ 1000 := by rw [cut_hi (by omega) (by omega), List.length_drop]; omega
  rw [chk_ok (by rw [sz_val]; simp; omega)]
  simp only [tr_ret]
  rw [chk_ok (by rw [sz_val]; simp; omega)]
  simp only [tr_ret, put_at h.1 h.2 e]
  rw [coA_ret (fun a => (a.1, a.2.1 + way * (if (a.1 == f.1) = true then 1 else 0), a.2.2)) fun g _ => ?_]
  · simp only [tr_ret]
    unfold movedF goneL
    congr 2
    apply List.ext_getElem?
    intro i
    rw [List.getElem?_mapIdx, List.getElem?_mapIdx]
    by_cases hi : (i : Int) = min f.2.1 (f.2.1 + way)
    · have : i = (min f.2.1 (f.2.1 + way)).toNat := by omega
      subst this
      rw [List.getElem?_eq_getElem (show (min f.2.1 (f.2.1 + way)).toNat < st.1.length by omega), ha]
      simp only [Option.map_some, if_pos hi]
    · cases st.1[i]? <;> simp [hi]
  · rw [mul_le (by omega) (by split <;> decide)]
    rfl
theorem names_inj {fs : Folk} (hu : NamesU fs) {a f : Sg × Int × Int} (ha : a ∈ fs) (hf : f ∈ fs) (e : a.1 = f.1) : a = f := by
  unfold NamesU at hu
  induction fs with
  | nil => cases hf
  | cons g fs ih =>
    rw [List.map_cons, List.nodup_cons] at hu
    rcases List.mem_cons.mp hf with hf1 | hf1 <;> rcases List.mem_cons.mp ha with ha1 | ha1
    · rw [ha1, hf1]
    · exact absurd (List.mem_map.mpr ⟨a, ha1, by rw [e, hf1]⟩) hu.1
    · exact absurd (List.mem_map.mpr ⟨f, hf1, by rw [← e, ha1]⟩) hu.1
    · exact ih hu.2 ha1 hf1
theorem goneL_len (ls : Lamps) (p way : Int) : (goneL ls p way).length = ls.length := by unfold goneL; simp
theorem movedF_names (st : Stand) (f : Sg × Int × Int) (way : Int) : (movedF st f way).2.map (·.1) = st.2.map (·.1) := by unfold movedF; simp [Function.comp_def]
theorem movedF_folkR {st : Stand} {f : Sg × Int × Int} {way : Int} (hu : NamesU st.2) (hf : f ∈ st.2) (hr : FolkR st.1.length st.2) (hw : 0 ≤ f.2.1 + way ∧ f.2.1 + way ≤ st.1.length) : FolkR (movedF st f way).1.length (movedF st f way).2 := by
  intro g hg
  unfold movedF at hg ⊢
  simp only [goneL_len] at hg ⊢
  obtain ⟨a, ha, rfl⟩ := List.mem_map.mp hg
  have := hr a ha
  dsimp only
  by_cases e : a.1 = f.1
  · have : a = f := names_inj hu ha hf e
    subst this
    rw [if_pos (by simp)]
    omega
  · rw [if_neg (by simpa using e)]
    omega
theorem goersF_mem {st : Stand} {nm : Sg} (h : nm ∈ goersF st) : ∃ f ∈ st.2, f.1 = nm ∧ goB st.1 f = true := by
  obtain ⟨f, hf, rfl⟩ := List.mem_map.mp h
  exact ⟨f, (List.mem_filter.mp hf).1, rfl, (List.mem_filter.mp hf).2⟩
theorem goB_way {ls : Lamps} {f : Sg × Int × Int} (h : goB ls f = true) : wayI f.2.1 f.2.2 = 1 ∨ wayI f.2.1 f.2.2 = -1 := by
  unfold goB at h
  simp only [Bool.and_eq_true, Bool.not_eq_true', beq_eq_false_iff_ne, ne_eq] at h
  rcases wayI_cases f.2.1 f.2.2 with h1 | h1 | h1 <;> omega
/-- one behind another, each of those who can: what stays holds -/
theorem sp_led {st : Stand} {many : Int} {P : List Sg × Stand → Prop} (I : Stand → Prop) (m0 : 0 ≤ many) (m1 : many ≤ 1000) (h0 : I st) (hI : ∀ s, I s → NamesU s.2 ∧ FolkR s.1.length s.2 ∧ s.2.length ≤ 1000 ∧ s.1.length ≤ 1000)
    (hs : ∀ s, I s → ∀ f ∈ s.2, goB s.1 f = true → I (movedF s f (wayI f.2.1 f.2.2))) (h : ∀ (ns : List Sg) (s : Stand), I s → (ns.length : Int) ≤ many → P (ns, s)) : (F_law_led st many).all E P := by
  unfold F_law_led
  simp only [tr_ret, bret]
  rw [rng1_ok (by omega)]
  simp only [tr_ret, hbind, hret]
  refine hforM (fun i s => I s.1 ∧ s.2.length ≤ i) ⟨h0, Nat.le_refl _⟩ (fun i a s hi hs1 => ?_) fun s hs1 => ?_
  · obtain ⟨hu, hr, hl, hl2⟩ := hI s.1 hs1.1
    rw [sp_goers hu hr hl]
    simp only [tr_ret, hif, hbind, hdrw, hofO, hret, hchk]
    have hlt : i < (rngI 0 many).length := (List.getElem?_eq_some_iff.mp hi).1
    rw [len_rngI] at hlt
    refine ⟨fun c => ?_, fun _ => ⟨hs1.1, by omega⟩⟩
    have hp : 0 < (goersF s.1).length := by
      cases hg : goersF s.1 with
      | nil => rw [hg] at c; simp at c
      | cons a b => simp
    have hle : (goersF s.1).length ≤ 1000 := by
      unfold goersF; rw [List.length_map]; exact Nat.le_trans (List.length_filter_le _ _) hl
    refine ⟨dOk' (by omega) (by omega), fun r r0 r1 => ?_⟩
    obtain ⟨nm, hnm, e⟩ := at_mem' r0 r1
    obtain ⟨f, hf, rfl, hg⟩ := goersF_mem hnm
    have hw := goB_way hg
    refine ⟨f.1, e, ?_⟩
    rw [sp_way hu hf]
    refine hret.mpr ?_
    rw [sp_moved hu hf hw (way_in (hr f hf).1 (hr f hf).2 (by omega)) hl2]
    refine hret.mpr ?_
    refine ⟨by rw [sz_val]; omega, hs s.1 hs1.1 f hf hg, by simp; omega⟩
  · refine h _ _ hs1.1 ?_
    have := hs1.2
    rw [len_rngI] at this
    omega
end
end Mo

set_option Elab.async false
set_option linter.all false
set_option maxRecDepth 100000
set_option maxHeartbeats 2000000
set_option autoImplicit false
namespace Mo
open PySem PyProof.Rows
def B_law_same (j : Nat) : List Sm := [.cond (.isi (.var 1) .tuple) [.cond (.or (.not (.isi (.var 0) .tuple)) (.cmp .ne (.bi .len [(.var 0)]) (.bi .len [(.var 1)]))) [.ret (some (.bl false))] [], .ret (some (.li .all (.comp (.call j [(.var 3), (.var 4)]) [] (.tup [(.name 3), (.name 4)]) [2, 3, 4] (.zip [(.ex (.var 0)), (.ex (.var 1))]))))] [], .cond (.or (.cmp .is (.var 1) .non) (.cmp .is (.var 0) .non)) [.ret (some (.and (.cmp .is (.var 1) .non) (.cmp .is (.var 0) .non)))] [], .cond (.or (.isi (.var 1) .bool) (.isi (.var 0) .bool)) [.ret (some (.and (.isi (.var 1) .bool) (.and (.isi (.var 0) .bool) (.cmp .eq (.var 0) (.var 1)))))] [], .cond (.isi (.var 1) .int) [.ret (some (.and (.isi (.var 0) .int) (.cmp .eq (.var 0) (.var 1))))] [], .cond (.or (.isi (.var 1) .str) (.isi (.var 0) .str)) [.ret (some (.and (.isi (.var 1) .str) (.and (.isi (.var 0) .str) (.cmp .eq (.var 0) (.var 1)))))] [], .ret (some (.cmp .eq (.bi .repr [(.var 0)]) (.bi .repr [(.var 1)])))]
mutual
theorem puN_okX : ∀ (n : Nat) (t : T), puN n t = true → okX n t = true
  | n, .non, _ => ok1 n
  | n, .bl b, _ => ok2 n b
  | n, .int b, _ => ok3 n b
  | n, .str b, _ => ok4 n b
  | 0, .tup ts, h => by simp [puN] at h
  | n + 1, .tup ts, h => by rw [ok5]; exact puNs_okXs n ts (by simpa [puN] using h)
  | n, .lst ts, h => by cases n <;> simp [puN] at h
  | n, .dct _ _ _, h => by cases n <;> simp [puN] at h
  | n, .ref _, h => by cases n <;> simp [puN] at h
  | n, .fn _, h => by cases n <;> simp [puN] at h
  | n, .scr, h => by cases n <;> simp [puN] at h
theorem puNs_okXs : ∀ (n : Nat) (ts : List T), puNs n ts = true → okXs n ts = true
  | n, [], _ => ok7 n
  | n, t :: ts, h => by
    simp only [puNs, Bool.and_eq_true] at h
    rw [ok8, puN_okX n t h.1, puNs_okXs n ts h.2]; rfl
end
mutual
theorem eqS_iff : ∀ t u : T, eqS t u = true → t = u
  | .non, u, h => by cases u <;> simp [eqS] at h <;> rfl
  | .bl a, u, h => by cases u <;> simp [eqS] at h; rw [h]
  | .int a, u, h => by cases u <;> simp [eqS] at h; rw [h]
  | .str a, u, h => by cases u <;> simp [eqS] at h; rw [h]
  | .tup a, u, h => by cases u <;> simp [eqS] at h; rw [eqSs_iff _ _ h]
  | .lst _, u, h => by simp [eqS] at h
  | .dct _ _ _, u, h => by simp [eqS] at h
  | .ref _, u, h => by simp [eqS] at h
  | .fn _, u, h => by simp [eqS] at h
  | .scr, u, h => by simp [eqS] at h
theorem eqSs_iff : ∀ t u : List T, eqSs t u = true → t = u
  | [], u, h => by cases u <;> simp [eqSs] at h; rfl
  | t :: ts, [], h => by simp [eqSs] at h
  | t :: ts, u :: us, h => by
    simp only [eqSs, Bool.and_eq_true] at h
    rw [eqS_iff t u h.1, eqSs_iff ts us h.2]
end
mutual
theorem eqS_refl : ∀ (n : Nat) (t : T), puN n t = true → eqS t t = true
  | n, .non, _ => by simp [eqS]
  | n, .bl b, _ => by simp [eqS]
  | n, .int b, _ => by simp [eqS]
  | n, .str b, _ => by simp [eqS]
  | 0, .tup ts, h => by simp [puN] at h
  | n + 1, .tup ts, h => by simp only [eqS]; exact eqSs_refl n ts (by simpa [puN] using h)
  | n, .lst ts, h => by cases n <;> simp [puN] at h
  | n, .dct _ _ _, h => by cases n <;> simp [puN] at h
  | n, .ref _, h => by cases n <;> simp [puN] at h
  | n, .fn _, h => by cases n <;> simp [puN] at h
  | n, .scr, h => by cases n <;> simp [puN] at h
theorem eqSs_refl : ∀ (n : Nat) (ts : List T), puNs n ts = true → eqSs ts ts = true
  | n, [], _ => by simp [eqSs]
  | n, t :: ts, h => by
    simp only [puNs, Bool.and_eq_true] at h
    simp only [eqSs, eqS_refl n t h.1, eqSs_refl n ts h.2, Bool.and_self]
end
def S_law_same (Γ : Pg) (i : Nat) : Prop := ∀ (k : Nat) (t u : T), 12 ≤ k → puN 10 t = true → puN 10 u = true → evCall Γ k i [t, u] = .ret (false, .bl (eqS t u))
theorem eqSs_zip : ∀ xs ys : List T, xs.length = ys.length → eqSs ys xs = (xs.zip ys).all fun q => eqS q.2 q.1
  | [], [], _ => by simp [eqSs]
  | x :: xs, y :: ys, h => by
    simp only [List.length_cons, Nat.add_right_cancel_iff] at h
    simp only [eqSs, List.zip_cons_cons, List.all_cons, eqSs_zip xs ys h]
  | [], y :: ys, h => by simp at h
  | x :: xs, [], h => by simp at h
mutual
theorem eqS_symm : ∀ t u : T, eqS t u = eqS u t
  | .tup a, .tup b => by simp only [eqS]; exact eqSs_symm a b
  | .non, u => by cases u <;> simp [eqS]
  | .bl a, u => by cases u <;> simp [eqS, Bool.beq_comm]
  | .int a, u => by cases u <;> simp only [eqS]; exact BEq.comm
  | .str a, u => by cases u <;> simp only [eqS]; exact BEq.comm
  | .lst _, u => by cases u <;> simp [eqS]
  | .dct _ _ _, u => by cases u <;> simp [eqS]
  | .ref _, u => by cases u <;> simp [eqS]
  | .fn _, u => by cases u <;> simp [eqS]
  | .scr, u => by cases u <;> simp [eqS]
  | .tup a, .non => by simp [eqS]
  | .tup a, .bl _ => by simp [eqS]
  | .tup a, .int _ => by simp [eqS]
  | .tup a, .str _ => by simp [eqS]
  | .tup a, .lst _ => by simp [eqS]
  | .tup a, .dct _ _ _ => by simp [eqS]
  | .tup a, .ref _ => by simp [eqS]
  | .tup a, .fn _ => by simp [eqS]
  | .tup a, .scr => by simp [eqS]
theorem eqSs_symm : ∀ t u : List T, eqSs t u = eqSs u t
  | [], u => by cases u <;> simp [eqSs]
  | t :: ts, [] => by simp [eqSs]
  | t :: ts, u :: us => by simp only [eqSs, eqS_symm t u, eqSs_symm ts us]
end
theorem eqSs_len : ∀ t u : List T, t.length ≠ u.length → eqSs t u = false
  | [], [], h => by simp at h
  | [], u :: us, _ => by simp [eqSs]
  | t :: ts, [], h => by simp [eqSs]
  | t :: ts, u :: us, h => by simp only [eqSs, eqSs_len ts us (by simpa using h), Bool.and_false]
theorem puNs_mem {n : Nat} : ∀ {ts : List T}, puNs n ts = true → ∀ t ∈ ts, puN n t = true
  | [], _, t, h => by cases h
  | x :: xs, hp, t, h => by
    simp only [puNs, Bool.and_eq_true] at hp
    rcases List.mem_cons.mp h with rfl | h
    · exact hp.1
    · exact puNs_mem hp.2 t h
theorem evCoM_congr2 {α : Type} {f g : α → Tr (Option T)} {xs : List α} (h : ∀ a ∈ xs, f a = g a) : evCoM f xs = evCoM g xs := evCoM_congr h
theorem ok_law_same {Γ : Pg} {i : Nat} (hf : Γ.fns[i]? = some (.code 2 5 (B_law_same i))) : S_law_same Γ i := by
  have flat : ∀ (n k : Nat) (t u : T), puN n t = true → puN n u = true → (¬ ∃ a b, t = .tup a ∧ u = .tup b) → evCall Γ (k + 1) i [t, u] = .ret (false, .bl (eqS t u)) := by
    intro n k t u ht hu hb
    rw [ev_code hf rfl]
    show (evSs (ecx Γ k) (B_law_same i) [some (.val t), some (.val u), none, none, none]).bind finF = _
    have nt : ∀ {t : T}, puN n t = true → t = .non ∨ (∃ b, t = .bl b) ∨ (∃ b, t = .int b) ∨ (∃ b, t = .str b) ∨ ∃ b, t = .tup b := fun {t} h => by
      cases t <;> simp [puN] at h ⊢
    rcases nt ht with rfl | ⟨x, rfl⟩ | ⟨x, rfl⟩ | ⟨x, rfl⟩ | ⟨x, rfl⟩ <;> rcases nt hu with rfl | ⟨y, rfl⟩ | ⟨y, rfl⟩ | ⟨y, rfl⟩ | ⟨y, rfl⟩
    all_goals first | (exact absurd ⟨_, _, rfl, rfl⟩ hb) | (simp_arith [B_law_same, evSs_cons, ev_cond, Nat.reduceBEq, eqS]; done)
  have main : ∀ (n : Nat), n ≤ 10 → ∀ (k : Nat) (t u : T), n + 2 ≤ k → puN n t = true → puN n u = true → evCall Γ k i [t, u] = .ret (false, .bl (eqS t u)) := by
    intro n
    induction n with
    | zero =>
      intro _ k t u hk ht hu
      obtain ⟨k, rfl, hj⟩ := ex_succ hk
      refine flat 0 k t u ht hu ?_
      rintro ⟨a, b, rfl, rfl⟩
      simp [puN] at ht
    | succ n ih =>
      intro hn k t u hk ht hu
      obtain ⟨k, rfl, hj⟩ := ex_succ hk
      by_cases hb : ∃ a b, t = .tup a ∧ u = .tup b
      · rw [ev_code hf rfl]
        show (evSs (ecx Γ k) (B_law_same i) [some (.val t), some (.val u), none, none, none]).bind finF = _
        obtain ⟨a, b, rfl, rfl⟩ := hb
        rw [pn5] at ht hu
        by_cases hl : a.length = b.length
        · have hz : zipT [a, b] = (a.zip b).map fun q => .tup [q.1, q.2] := by
            have := zip2_map (e := fun x : T => x) (f := fun x : T => x) a b
            simpa using this
          have h2 : ((a.length : Int) == (b.length : Int)) = true := by simp; omega
          simp_arith [B_law_same, evSs_cons, ev_cond, Nat.reduceBEq, h2, hz]
          rw [evCoM_congr2 (g := fun q => .ret (some (.bl (eqS q.1 q.2)))) (fun q hq => ?_)]
          · simp_arith [eqS]
            have e1 : (fun q : T × T => id (eqS q.1 q.2)) = fun q => eqS q.2 q.1 := by funext q; exact eqS_symm _ _
            rw [eqSs_symm, eqSs_zip a b hl, e1]
          · have hq2 : q.1 ∈ a ∧ q.2 ∈ b := ⟨(List.of_mem_zip (a := q.1) (b := q.2) hq).1, (List.of_mem_zip (a := q.1) (b := q.2) hq).2⟩
            rw [ih (by omega) k q.1 q.2 hj (puNs_mem ht _ hq2.1) (puNs_mem hu _ hq2.2)]
            rfl
        · have h2 : ((a.length : Int) == (b.length : Int)) = false := by simp; omega
          simp_arith [B_law_same, evSs_cons, ev_cond, Nat.reduceBEq, h2, eqS, eqSs_len a b hl]
      · exact flat (n + 1) k t u ht hu hb
  exact fun k t u hk ht hu => main 10 (by omega) k t u hk ht hu
end Mo

set_option Elab.async false
set_option linter.all false
set_option maxRecDepth 100000
set_option maxHeartbeats 2000000
set_option autoImplicit false
namespace Mo
open PySem PyProof.Rows
def B_law_k12 (j_i_law_deck : Nat) (j_i_law_stand : Nat) (j_i_law_goers : Nat) (j_i_law_led : Nat) (j_i_law_same : Nat) (j_i_steps : Nat) : List Sm := [.set (.name 1) (.call j_i_law_deck [(.var 0)]), .loop (.name 2) (.range [(.int 6)]) [.set (.tup [(.name 3), (.name 4)]) (.call j_i_law_stand [(.var 1), (.int 8), (.int 12)]), .set (.name 6) (.new (.comp (.idx (.var 5) (.int 0)) [(.cmp .ne (.idx (.var 5) (.int 1)) (.idx (.var 5) (.int 2)))] (.name 5) [13, 5] (.seq (.ex (.var 4))))), .set (.name 7) (.li .tuple (.comp (.tup [(.idx (.var 5) (.int 0)), (.idx (.var 5) (.int 2)), (.idx (.var 5) (.int 2))]) [] (.name 5) [13, 5] (.seq (.ex (.var 4))))), .set (.name 8) (.new (.lst [(.tup [(.tup [(.var 3), (.var 4)]), (.call j_i_law_goers [(.tup [(.var 3), (.var 4)])])]), (.tup [(.tup [(.bin .mul (.tup [(.tup [(.int 1), (.int 1)])]) (.bi .len [(.var 3)])), (.var 4)]), (.var 6)])])), .set (.name 8) (.bin .add (.var 8) (.new (.lst [(.tup [(.tup [(.bin .mul (.tup [(.tup [(.int 0), (.int 0)])]) (.bi .len [(.var 3)])), (.var 4)]), (.new (.lst []))]), (.tup [(.tup [(.var 3), (.var 7)]), (.new (.lst []))])]))), .set (.name 9) (.idx (.call j_i_law_led [(.var 1), (.tup [(.var 3), (.var 4)]), (.int 10)]) (.int 1)), .ex (.me .append (.var 8) [(.tup [(.var 9), (.call j_i_law_goers [(.var 9)])])]), .loop (.name 5) (.seq (.ex (.var 4))) [.set (.name 10) (.tup [(.var 3), (.tup [(.var 5)])]), .ex (.me .append (.var 8) [(.tup [(.var 10), (.new (.comp (.var 14) [(.cmp .isin (.var 14) (.call j_i_law_goers [(.tup [(.var 3), (.var 4)])]))] (.name 14) [13, 14] (.seq (.lst [(.idx (.var 5) (.int 0))]))))])])], .loop (.tup [(.name 11), (.name 12)]) (.seq (.ex (.bin .add (.var 8) (.slc (.var 8) none (some (.int 1)))))) [.cond (.not (.call j_i_law_same [(.call j_i_steps [(.var 11)]), (.li .tuple (.ex (.var 12)))])) [.ret (some (.bl false))] []]], .ret (some (.bl true))]
def F_law_k12 : Tr Bool := (((rng1 (6 : Int)).bind fun ws => Tr.ret ws).bind fun xs => forR (ρ := Bool) xs () fun (a : Int) (s : Unit) => ((F_law_stand (8 : Int) (12 : Int)).bind fun r => Tr.ret r).bind fun (p : ((List (Int × Int)) × (List (Sg × Int × Int)))) => (Tr.ret ((p.2.filter fun (one : (Sg × Int × Int)) => (!(one.2.1 == one.2.2))).map fun (one : (Sg × Int × Int)) => one.1)).bind fun (away : (List Sg)) => (Tr.ret (p.2.map fun (one2 : (Sg × Int × Int)) => (one2.1, one2.2.2, one2.2.2))).bind fun (home' : (List (Sg × Int × Int))) => ((F_law_goers (p.1, p.2)).bind fun r2 => (chk ([((1 : Int), (1 : Int))].isEmpty = false ∧ 1 ≤ (p.1.length : Int) ∧ (p.1.length : Int) ≤ 1000 ∧ [((1 : Int), (1 : Int))].length ≤ 1000)).bind fun _ => Tr.ret [((p.1, p.2), r2), (((repL (p.1.length : Int).toNat [((1 : Int), (1 : Int))]), p.2), away)]).bind fun (some' : (List (((List (Int × Int)) × (List (Sg × Int × Int))) × (List Sg)))) => ((chk ([((0 : Int), (0 : Int))].isEmpty = false ∧ 1 ≤ (p.1.length : Int) ∧ (p.1.length : Int) ≤ 1000 ∧ [((0 : Int), (0 : Int))].length ≤ 1000)).bind fun _ => (chk (some'.length + [(((repL (p.1.length : Int).toNat [((0 : Int), (0 : Int))]), p.2), ([] : List Sg)), ((p.1, home'), ([] : List Sg))].length ≤ SZ)).bind fun _ => Tr.ret (some' ++ [(((repL (p.1.length : Int).toNat [((0 : Int), (0 : Int))]), p.2), ([] : List Sg)), ((p.1, home'), ([] : List Sg))])).bind fun (some'2 : (List (((List (Int × Int)) × (List (Sg × Int × Int))) × (List Sg)))) => ((F_law_led (p.1, p.2) (10 : Int)).bind fun r3 => Tr.ret r3.2).bind fun (there : ((List (Int × Int)) × (List (Sg × Int × Int)))) => ((F_law_goers there).bind fun r4 => (chk (some'2.length < SZ)).bind fun _ => Tr.ret (some'2 ++ [(there, r4)])).bind fun (some'3 : (List (((List (Int × Int)) × (List (Sg × Int × Int))) × (List Sg)))) => ((Tr.ret p.2).bind fun xs => forM xs some'3 fun (a2 : (Sg × Int × Int)) (s2 : (List (((List (Int × Int)) × (List (Sg × Int × Int))) × (List Sg)))) => (Tr.ret (p.1, a2)).bind fun (alone : ((List (Int × Int)) × (Sg × Int × Int))) => ((coC (fun (name : Sg) => (F_law_goers (p.1, p.2)).bind fun r5 => Tr.ret (r5.any fun (x : Sg) => (x == name))) (fun (name : Sg) => Tr.ret name) [a2.1]).bind fun ys => (chk (s2.length < SZ)).bind fun _ => Tr.ret (s2 ++ [((alone.1, [alone.2]), ys)])).bind fun (some'4 : (List (((List (Int × Int)) × (List (Sg × Int × Int))) × (List Sg)))) => Tr.ret some'4).bind fun (s3 : (List (((List (Int × Int)) × (List (Sg × Int × Int))) × (List Sg)))) => (((chk (s3.length + (cutT s3 none (some (1 : Int))).length ≤ SZ)).bind fun _ => Tr.ret (s3 ++ (cutT s3 none (some (1 : Int))))).bind fun xs => forR (ρ := Bool) xs () fun (a3 : (((List (Int × Int)) × (List (Sg × Int × Int))) × (List Sg))) (s4 : Unit) => ((F_steps a3.1).bind fun r6 => Tr.ret (!(eqS (T.tup (List.map T.str r6)) (T.tup (List.map T.str a3.2))))).bind fun t => if t = true then (Tr.ret false).bind fun o => Tr.ret (Fr.rt o) else Tr.ret (Fr.nx ())).bind fun q => q.elim (fun v => Tr.ret (Fr.rt v)) fun (s5 : Unit) => Tr.ret (Fr.nx ())).bind fun q => q.elim (fun v => Tr.ret v) fun (s6 : Unit) => (Tr.ret true).bind fun o2 => Tr.ret o2
theorem lw_law_k12 {Γ : Pg} {i k : Nat} {j_i_law_deck : Nat} {j_i_law_stand : Nat} {j_i_law_goers : Nat} {j_i_law_led : Nat} {j_i_law_same : Nat} {j_i_steps : Nat} (hf : Γ.fns[i]? = some (.code 1 15 (B_law_k12 j_i_law_deck j_i_law_stand j_i_law_goers j_i_law_led j_i_law_same j_i_steps))) (hrp : Γ.rp = rpT) (hd : Γ.fns[j_i_law_deck]? = some .mk) (h_i_law_stand : S_law_stand Γ j_i_law_stand) (h_i_law_goers : S_law_goers Γ j_i_law_goers) (h_i_law_led : S_law_led Γ j_i_law_led) (h_i_law_same : S_law_same Γ j_i_law_same) (h_i_steps : S_steps Γ j_i_steps) (hk : 12 ≤ k + 1) (h : F_law_k12.all (fun _ => False) fun b => b = true) : wpCall Γ (k + 2) i [.scr] (fun _ => none) noE fun v _ => v = .bl true := by
  refine law_ev hrp hf hd (by decide) ?_
  have c_i_law_stand := fun x0 x1 => h_i_law_stand (k + 1) x0 x1 (by omega)
  have c_i_law_goers := fun x0 x1 => h_i_law_goers (k + 1) x0 x1 (by omega)
  have c_i_law_led := fun x0 x1 x2 => h_i_law_led (k + 1) x0 x1 x2 (by omega)
  have c_i_law_same := fun x0 x1 => h_i_law_same (k + 1) x0 x1 (by omega)
  have c_i_steps := fun x0 x1 => h_i_steps (k + 1) x0 x1 (by omega)
  have core : (evSs (ecx Γ (k + 1)) (List.tail (B_law_k12 j_i_law_deck j_i_law_stand j_i_law_goers j_i_law_led j_i_law_same j_i_steps)) [some (.val .scr), some (.val (.ref 0)), none, none, none, none, none, none, none, none, none, none, none, none, none]).bind .ret = F_law_k12.bind fun b => Tr.ret (Fl.rt (false, T.bl b)) := by
    unfold F_law_k12
    show (evSs _ ([(.loop (.name 2) (.range [(.int 6)]) [(.set (.tup [(.name 3), (.name 4)]) (.call j_i_law_stand [(.var 1), (.int 8), (.int 12)])), (.set (.name 6) (.new (.comp (.idx (.var 5) (.int 0)) [(.cmp .ne (.idx (.var 5) (.int 1)) (.idx (.var 5) (.int 2)))] (.name 5) [13, 5] (.seq (.ex (.var 4)))))), (.set (.name 7) (.li .tuple (.comp (.tup [(.idx (.var 5) (.int 0)), (.idx (.var 5) (.int 2)), (.idx (.var 5) (.int 2))]) [] (.name 5) [13, 5] (.seq (.ex (.var 4)))))), (.set (.name 8) (.new (.lst [(.tup [(.tup [(.var 3), (.var 4)]), (.call j_i_law_goers [(.tup [(.var 3), (.var 4)])])]), (.tup [(.tup [(.bin .mul (.tup [(.tup [(.int 1), (.int 1)])]) (.bi .len [(.var 3)])), (.var 4)]), (.var 6)])]))), (.set (.name 8) (.bin .add (.var 8) (.new (.lst [(.tup [(.tup [(.bin .mul (.tup [(.tup [(.int 0), (.int 0)])]) (.bi .len [(.var 3)])), (.var 4)]), (.new (.lst []))]), (.tup [(.tup [(.var 3), (.var 7)]), (.new (.lst []))])])))), (.set (.name 9) (.idx (.call j_i_law_led [(.var 1), (.tup [(.var 3), (.var 4)]), (.int 10)]) (.int 1))), (.ex (.me .append (.var 8) [(.tup [(.var 9), (.call j_i_law_goers [(.var 9)])])])), (.loop (.name 5) (.seq (.ex (.var 4))) [(.set (.name 10) (.tup [(.var 3), (.tup [(.var 5)])])), (.ex (.me .append (.var 8) [(.tup [(.var 10), (.new (.comp (.var 14) [(.cmp .isin (.var 14) (.call j_i_law_goers [(.tup [(.var 3), (.var 4)])]))] (.name 14) [13, 14] (.seq (.lst [(.idx (.var 5) (.int 0))]))))])]))]), (.loop (.tup [(.name 11), (.name 12)]) (.seq (.ex (.bin .add (.var 8) (.slc (.var 8) none (some (.int 1)))))) [(.cond (.not (.call j_i_law_same [(.call j_i_steps [(.var 11)]), (.li .tuple (.ex (.var 12)))])) [(.ret (some (.bl false)))] [])])]), (.ret (some (.bl true)))]) _).bind _ = _
    refine stepF (loopR (fun (o : Bool) => (false, (T.bl o))) T.int (fun (s : Unit) => [some (.val .scr), some (.val (.ref 0)), none, none, none, none, none, none, none, none, none, none, none, none, none]) (fun (a : Int) (s : Unit) => [some (.val .scr), some (.val (.ref 0)), some (.val (.int a)), none, none, none, none, none, none, none, none, none, none, none, none]) (by (simp_arith [Nat.reduceBEq, Nat.reduceAdd, Nat.reduceEqDiff, hrp, c_i_law_stand, c_i_law_goers, c_i_law_led, c_i_law_same, c_i_steps] <;> rfl)) (by (simp_arith [Nat.reduceBEq, Nat.reduceAdd, Nat.reduceEqDiff, hrp, c_i_law_stand, c_i_law_goers, c_i_law_led, c_i_law_same, c_i_steps] <;> rfl)) (fun _ _ => by (simp_arith [Nat.reduceBEq, Nat.reduceAdd, Nat.reduceEqDiff, hrp, c_i_law_stand, c_i_law_goers, c_i_law_led, c_i_law_same, c_i_steps] <;> rfl)) (fun a s => ?_)) (fun s6 => ?_) (fun _ => rfl)
    · refine step (E := fun (p : ((List (Int × Int)) × (List (Sg × Int × Int)))) => [some (.val .scr), some (.val (.ref 0)), some (.val (.int a)), some (.val (.tup (List.map (fun (e0 : (Int × Int)) => (T.tup [(.int e0.1), (.int e0.2)])) p.1))), some (.val (.tup (List.map (fun (e0 : (Sg × Int × Int)) => (T.tup [(.str e0.1), (.int e0.2.1), (.int e0.2.2)])) p.2))), none, none, none, none, none, none, none, none, none, none]) (by (simp_arith [Nat.reduceBEq, Nat.reduceAdd, Nat.reduceEqDiff, hrp, c_i_law_stand, c_i_law_goers, c_i_law_led, c_i_law_same, c_i_steps] <;> rfl)) fun p => ?_
      refine step (E := fun (away : (List Sg)) => [some (.val .scr), some (.val (.ref 0)), some (.val (.int a)), some (.val (.tup (List.map (fun (e0 : (Int × Int)) => (T.tup [(.int e0.1), (.int e0.2)])) p.1))), some (.val (.tup (List.map (fun (e0 : (Sg × Int × Int)) => (T.tup [(.str e0.1), (.int e0.2.1), (.int e0.2.2)])) p.2))), none, some (.own (List.map T.str away)), none, none, none, none, none, none, none, none]) (by (simp_arith [Nat.reduceBEq, Nat.reduceAdd, Nat.reduceEqDiff, hrp, c_i_law_stand, c_i_law_goers, c_i_law_led, c_i_law_same, c_i_steps] <;> rfl)) fun away => ?_
      refine step (E := fun (home' : (List (Sg × Int × Int))) => [some (.val .scr), some (.val (.ref 0)), some (.val (.int a)), some (.val (.tup (List.map (fun (e0 : (Int × Int)) => (T.tup [(.int e0.1), (.int e0.2)])) p.1))), some (.val (.tup (List.map (fun (e0 : (Sg × Int × Int)) => (T.tup [(.str e0.1), (.int e0.2.1), (.int e0.2.2)])) p.2))), none, some (.own (List.map T.str away)), some (.val (.tup (List.map (fun (e0 : (Sg × Int × Int)) => (T.tup [(.str e0.1), (.int e0.2.1), (.int e0.2.2)])) home'))), none, none, none, none, none, none, none]) (by (simp_arith [Nat.reduceBEq, Nat.reduceAdd, Nat.reduceEqDiff, hrp, c_i_law_stand, c_i_law_goers, c_i_law_led, c_i_law_same, c_i_steps] <;> rfl)) fun home' => ?_
      have z3 := c_i_law_goers (((p.1, p.2)).1) (((p.1, p.2)).2)
      try simp_arith [Nat.reduceBEq, Nat.reduceAdd, Nat.reduceEqDiff, hrp] at z3
      refine step (E := fun (some' : (List (((List (Int × Int)) × (List (Sg × Int × Int))) × (List Sg)))) => [some (.val .scr), some (.val (.ref 0)), some (.val (.int a)), some (.val (.tup (List.map (fun (e0 : (Int × Int)) => (T.tup [(.int e0.1), (.int e0.2)])) p.1))), some (.val (.tup (List.map (fun (e0 : (Sg × Int × Int)) => (T.tup [(.str e0.1), (.int e0.2.1), (.int e0.2.2)])) p.2))), none, some (.val (.lst (List.map T.str away))), some (.val (.tup (List.map (fun (e0 : (Sg × Int × Int)) => (T.tup [(.str e0.1), (.int e0.2.1), (.int e0.2.2)])) home'))), some (.own (List.map (fun (e0 : (((List (Int × Int)) × (List (Sg × Int × Int))) × (List Sg))) => (T.tup [(.tup [(.tup (List.map (fun (e1 : (Int × Int)) => (T.tup [(.int e1.1), (.int e1.2)])) e0.1.1)), (.tup (List.map (fun (e1 : (Sg × Int × Int)) => (T.tup [(.str e1.1), (.int e1.2.1), (.int e1.2.2)])) e0.1.2))]), (.lst (List.map T.str e0.2))])) some')), none, none, none, none, none, none]) (by (simp_arith [Nat.reduceBEq, Nat.reduceAdd, Nat.reduceEqDiff, hrp, c_i_law_stand, c_i_law_goers, c_i_law_led, c_i_law_same, c_i_steps, z3] <;> rfl)) fun some' => ?_
      refine step (E := fun (some'2 : (List (((List (Int × Int)) × (List (Sg × Int × Int))) × (List Sg)))) => [some (.val .scr), some (.val (.ref 0)), some (.val (.int a)), some (.val (.tup (List.map (fun (e0 : (Int × Int)) => (T.tup [(.int e0.1), (.int e0.2)])) p.1))), some (.val (.tup (List.map (fun (e0 : (Sg × Int × Int)) => (T.tup [(.str e0.1), (.int e0.2.1), (.int e0.2.2)])) p.2))), none, some (.val (.lst (List.map T.str away))), some (.val (.tup (List.map (fun (e0 : (Sg × Int × Int)) => (T.tup [(.str e0.1), (.int e0.2.1), (.int e0.2.2)])) home'))), some (.own (List.map (fun (e0 : (((List (Int × Int)) × (List (Sg × Int × Int))) × (List Sg))) => (T.tup [(.tup [(.tup (List.map (fun (e1 : (Int × Int)) => (T.tup [(.int e1.1), (.int e1.2)])) e0.1.1)), (.tup (List.map (fun (e1 : (Sg × Int × Int)) => (T.tup [(.str e1.1), (.int e1.2.1), (.int e1.2.2)])) e0.1.2))]), (.lst (List.map T.str e0.2))])) some'2)), none, none, none, none, none, none]) (by (simp_arith [Nat.reduceBEq, Nat.reduceAdd, Nat.reduceEqDiff, hrp, c_i_law_stand, c_i_law_goers, c_i_law_led, c_i_law_same, c_i_steps] <;> rfl)) fun some'2 => ?_
      have z2 := c_i_law_led (((p.1, p.2)).1) (((p.1, p.2)).2) (10 : Int)
      try simp_arith [Nat.reduceBEq, Nat.reduceAdd, Nat.reduceEqDiff, hrp] at z2
      refine step (E := fun (there : ((List (Int × Int)) × (List (Sg × Int × Int)))) => [some (.val .scr), some (.val (.ref 0)), some (.val (.int a)), some (.val (.tup (List.map (fun (e0 : (Int × Int)) => (T.tup [(.int e0.1), (.int e0.2)])) p.1))), some (.val (.tup (List.map (fun (e0 : (Sg × Int × Int)) => (T.tup [(.str e0.1), (.int e0.2.1), (.int e0.2.2)])) p.2))), none, some (.val (.lst (List.map T.str away))), some (.val (.tup (List.map (fun (e0 : (Sg × Int × Int)) => (T.tup [(.str e0.1), (.int e0.2.1), (.int e0.2.2)])) home'))), some (.own (List.map (fun (e0 : (((List (Int × Int)) × (List (Sg × Int × Int))) × (List Sg))) => (T.tup [(.tup [(.tup (List.map (fun (e1 : (Int × Int)) => (T.tup [(.int e1.1), (.int e1.2)])) e0.1.1)), (.tup (List.map (fun (e1 : (Sg × Int × Int)) => (T.tup [(.str e1.1), (.int e1.2.1), (.int e1.2.2)])) e0.1.2))]), (.lst (List.map T.str e0.2))])) some'2)), some (.val (.tup [(.tup (List.map (fun (e0 : (Int × Int)) => (T.tup [(.int e0.1), (.int e0.2)])) there.1)), (.tup (List.map (fun (e0 : (Sg × Int × Int)) => (T.tup [(.str e0.1), (.int e0.2.1), (.int e0.2.2)])) there.2))])), none, none, none, none, none]) (by (simp_arith [Nat.reduceBEq, Nat.reduceAdd, Nat.reduceEqDiff, hrp, c_i_law_stand, c_i_law_goers, c_i_law_led, c_i_law_same, c_i_steps, z2] <;> rfl)) fun there => ?_
      refine step (E := fun (some'3 : (List (((List (Int × Int)) × (List (Sg × Int × Int))) × (List Sg)))) => [some (.val .scr), some (.val (.ref 0)), some (.val (.int a)), some (.val (.tup (List.map (fun (e0 : (Int × Int)) => (T.tup [(.int e0.1), (.int e0.2)])) p.1))), some (.val (.tup (List.map (fun (e0 : (Sg × Int × Int)) => (T.tup [(.str e0.1), (.int e0.2.1), (.int e0.2.2)])) p.2))), none, some (.val (.lst (List.map T.str away))), some (.val (.tup (List.map (fun (e0 : (Sg × Int × Int)) => (T.tup [(.str e0.1), (.int e0.2.1), (.int e0.2.2)])) home'))), some (.own (List.map (fun (e0 : (((List (Int × Int)) × (List (Sg × Int × Int))) × (List Sg))) => (T.tup [(.tup [(.tup (List.map (fun (e1 : (Int × Int)) => (T.tup [(.int e1.1), (.int e1.2)])) e0.1.1)), (.tup (List.map (fun (e1 : (Sg × Int × Int)) => (T.tup [(.str e1.1), (.int e1.2.1), (.int e1.2.2)])) e0.1.2))]), (.lst (List.map T.str e0.2))])) some'3)), some (.val (.tup [(.tup (List.map (fun (e0 : (Int × Int)) => (T.tup [(.int e0.1), (.int e0.2)])) there.1)), (.tup (List.map (fun (e0 : (Sg × Int × Int)) => (T.tup [(.str e0.1), (.int e0.2.1), (.int e0.2.2)])) there.2))])), none, none, none, none, none]) (by (simp_arith [Nat.reduceBEq, Nat.reduceAdd, Nat.reduceEqDiff, hrp, c_i_law_stand, c_i_law_goers, c_i_law_led, c_i_law_same, c_i_steps] <;> rfl)) fun some'3 => ?_
      refine step (loopS (fun (e0 : (Sg × Int × Int)) => (T.tup [(.str e0.1), (.int e0.2.1), (.int e0.2.2)])) (fun (s2 : (List (((List (Int × Int)) × (List (Sg × Int × Int))) × (List Sg)))) => [some (.val .scr), some (.val (.ref 0)), some (.val (.int a)), some (.val (.tup (List.map (fun (e0 : (Int × Int)) => (T.tup [(.int e0.1), (.int e0.2)])) p.1))), some (.val (.tup (List.map (fun (e0 : (Sg × Int × Int)) => (T.tup [(.str e0.1), (.int e0.2.1), (.int e0.2.2)])) p.2))), none, some (.val (.lst (List.map T.str away))), some (.val (.tup (List.map (fun (e0 : (Sg × Int × Int)) => (T.tup [(.str e0.1), (.int e0.2.1), (.int e0.2.2)])) home'))), some (.own (List.map (fun (e0 : (((List (Int × Int)) × (List (Sg × Int × Int))) × (List Sg))) => (T.tup [(.tup [(.tup (List.map (fun (e1 : (Int × Int)) => (T.tup [(.int e1.1), (.int e1.2)])) e0.1.1)), (.tup (List.map (fun (e1 : (Sg × Int × Int)) => (T.tup [(.str e1.1), (.int e1.2.1), (.int e1.2.2)])) e0.1.2))]), (.lst (List.map T.str e0.2))])) s2)), some (.val (.tup [(.tup (List.map (fun (e0 : (Int × Int)) => (T.tup [(.int e0.1), (.int e0.2)])) there.1)), (.tup (List.map (fun (e0 : (Sg × Int × Int)) => (T.tup [(.str e0.1), (.int e0.2.1), (.int e0.2.2)])) there.2))])), none, none, none, none, none]) (fun (a2 : (Sg × Int × Int)) (s2 : (List (((List (Int × Int)) × (List (Sg × Int × Int))) × (List Sg)))) => [some (.val .scr), some (.val (.ref 0)), some (.val (.int a)), some (.val (.tup (List.map (fun (e0 : (Int × Int)) => (T.tup [(.int e0.1), (.int e0.2)])) p.1))), some (.val (.tup (List.map (fun (e0 : (Sg × Int × Int)) => (T.tup [(.str e0.1), (.int e0.2.1), (.int e0.2.2)])) p.2))), some (.val (.tup [(.str a2.1), (.int a2.2.1), (.int a2.2.2)])), some (.val (.lst (List.map T.str away))), some (.val (.tup (List.map (fun (e0 : (Sg × Int × Int)) => (T.tup [(.str e0.1), (.int e0.2.1), (.int e0.2.2)])) home'))), some (.own (List.map (fun (e0 : (((List (Int × Int)) × (List (Sg × Int × Int))) × (List Sg))) => (T.tup [(.tup [(.tup (List.map (fun (e1 : (Int × Int)) => (T.tup [(.int e1.1), (.int e1.2)])) e0.1.1)), (.tup (List.map (fun (e1 : (Sg × Int × Int)) => (T.tup [(.str e1.1), (.int e1.2.1), (.int e1.2.2)])) e0.1.2))]), (.lst (List.map T.str e0.2))])) s2)), some (.val (.tup [(.tup (List.map (fun (e0 : (Int × Int)) => (T.tup [(.int e0.1), (.int e0.2)])) there.1)), (.tup (List.map (fun (e0 : (Sg × Int × Int)) => (T.tup [(.str e0.1), (.int e0.2.1), (.int e0.2.2)])) there.2))])), none, none, none, none, none]) (by (simp_arith [Nat.reduceBEq, Nat.reduceAdd, Nat.reduceEqDiff, hrp, c_i_law_stand, c_i_law_goers, c_i_law_led, c_i_law_same, c_i_steps] <;> rfl)) (by (simp_arith [Nat.reduceBEq, Nat.reduceAdd, Nat.reduceEqDiff, hrp, c_i_law_stand, c_i_law_goers, c_i_law_led, c_i_law_same, c_i_steps] <;> rfl)) (fun _ _ => by (simp_arith [Nat.reduceBEq, Nat.reduceAdd, Nat.reduceEqDiff, hrp, c_i_law_stand, c_i_law_goers, c_i_law_led, c_i_law_same, c_i_steps] <;> rfl)) (fun a2 s2 => ?_)) (fun s3 => ?_)
      · refine step (E := fun (alone : ((List (Int × Int)) × (Sg × Int × Int))) => [some (.val .scr), some (.val (.ref 0)), some (.val (.int a)), some (.val (.tup (List.map (fun (e0 : (Int × Int)) => (T.tup [(.int e0.1), (.int e0.2)])) p.1))), some (.val (.tup (List.map (fun (e0 : (Sg × Int × Int)) => (T.tup [(.str e0.1), (.int e0.2.1), (.int e0.2.2)])) p.2))), some (.val (.tup [(.str a2.1), (.int a2.2.1), (.int a2.2.2)])), some (.val (.lst (List.map T.str away))), some (.val (.tup (List.map (fun (e0 : (Sg × Int × Int)) => (T.tup [(.str e0.1), (.int e0.2.1), (.int e0.2.2)])) home'))), some (.own (List.map (fun (e0 : (((List (Int × Int)) × (List (Sg × Int × Int))) × (List Sg))) => (T.tup [(.tup [(.tup (List.map (fun (e1 : (Int × Int)) => (T.tup [(.int e1.1), (.int e1.2)])) e0.1.1)), (.tup (List.map (fun (e1 : (Sg × Int × Int)) => (T.tup [(.str e1.1), (.int e1.2.1), (.int e1.2.2)])) e0.1.2))]), (.lst (List.map T.str e0.2))])) s2)), some (.val (.tup [(.tup (List.map (fun (e0 : (Int × Int)) => (T.tup [(.int e0.1), (.int e0.2)])) there.1)), (.tup (List.map (fun (e0 : (Sg × Int × Int)) => (T.tup [(.str e0.1), (.int e0.2.1), (.int e0.2.2)])) there.2))])), some (.val (.tup [(.tup (List.map (fun (e0 : (Int × Int)) => (T.tup [(.int e0.1), (.int e0.2)])) alone.1)), (.tup [(.tup [(.str alone.2.1), (.int alone.2.2.1), (.int alone.2.2.2)])])])), none, none, none, none]) (by (simp_arith [Nat.reduceBEq, Nat.reduceAdd, Nat.reduceEqDiff, hrp, c_i_law_stand, c_i_law_goers, c_i_law_led, c_i_law_same, c_i_steps] <;> rfl)) fun alone => ?_
        have z0 := fun (name : Sg) => c_i_law_goers (((p.1, p.2)).1) (((p.1, p.2)).2)
        try simp_arith [Nat.reduceBEq, Nat.reduceAdd, Nat.reduceEqDiff, hrp] at z0
        have z1 := coC_ev (fun (name : Sg) => (F_law_goers (p.1, p.2)).bind fun r5 => Tr.ret (r5.any fun (x : Sg) => (x == name))) (fun (name : Sg) => Tr.ret name) T.str
        try simp_arith [Nat.reduceBEq, Nat.reduceAdd, Nat.reduceEqDiff, hrp, c_i_law_stand, c_i_law_goers, c_i_law_led, c_i_law_same, c_i_steps] at z1
        refine step (E := fun (some'4 : (List (((List (Int × Int)) × (List (Sg × Int × Int))) × (List Sg)))) => [some (.val .scr), some (.val (.ref 0)), some (.val (.int a)), some (.val (.tup (List.map (fun (e0 : (Int × Int)) => (T.tup [(.int e0.1), (.int e0.2)])) p.1))), some (.val (.tup (List.map (fun (e0 : (Sg × Int × Int)) => (T.tup [(.str e0.1), (.int e0.2.1), (.int e0.2.2)])) p.2))), some (.val (.tup [(.str a2.1), (.int a2.2.1), (.int a2.2.2)])), some (.val (.lst (List.map T.str away))), some (.val (.tup (List.map (fun (e0 : (Sg × Int × Int)) => (T.tup [(.str e0.1), (.int e0.2.1), (.int e0.2.2)])) home'))), some (.own (List.map (fun (e0 : (((List (Int × Int)) × (List (Sg × Int × Int))) × (List Sg))) => (T.tup [(.tup [(.tup (List.map (fun (e1 : (Int × Int)) => (T.tup [(.int e1.1), (.int e1.2)])) e0.1.1)), (.tup (List.map (fun (e1 : (Sg × Int × Int)) => (T.tup [(.str e1.1), (.int e1.2.1), (.int e1.2.2)])) e0.1.2))]), (.lst (List.map T.str e0.2))])) some'4)), some (.val (.tup [(.tup (List.map (fun (e0 : (Int × Int)) => (T.tup [(.int e0.1), (.int e0.2)])) there.1)), (.tup (List.map (fun (e0 : (Sg × Int × Int)) => (T.tup [(.str e0.1), (.int e0.2.1), (.int e0.2.2)])) there.2))])), some (.val (.tup [(.tup (List.map (fun (e0 : (Int × Int)) => (T.tup [(.int e0.1), (.int e0.2)])) alone.1)), (.tup [(.tup [(.str alone.2.1), (.int alone.2.2.1), (.int alone.2.2.2)])])])), none, none, none, none]) (by (simp_arith [Nat.reduceBEq, Nat.reduceAdd, Nat.reduceEqDiff, hrp, c_i_law_stand, c_i_law_goers, c_i_law_led, c_i_law_same, c_i_steps, z0, z1] <;> rfl)) fun some'4 => ?_
        exact (by (simp_arith [Nat.reduceBEq, Nat.reduceAdd, Nat.reduceEqDiff, hrp, c_i_law_stand, c_i_law_goers, c_i_law_led, c_i_law_same, c_i_steps] <;> rfl))
      refine stepF (loopR (fun (o : Bool) => (false, (T.bl o))) (fun (e0 : (((List (Int × Int)) × (List (Sg × Int × Int))) × (List Sg))) => (T.tup [(.tup [(.tup (List.map (fun (e1 : (Int × Int)) => (T.tup [(.int e1.1), (.int e1.2)])) e0.1.1)), (.tup (List.map (fun (e1 : (Sg × Int × Int)) => (T.tup [(.str e1.1), (.int e1.2.1), (.int e1.2.2)])) e0.1.2))]), (.lst (List.map T.str e0.2))])) (fun (s4 : Unit) => [some (.val .scr), some (.val (.ref 0)), some (.val (.int a)), some (.val (.tup (List.map (fun (e0 : (Int × Int)) => (T.tup [(.int e0.1), (.int e0.2)])) p.1))), some (.val (.tup (List.map (fun (e0 : (Sg × Int × Int)) => (T.tup [(.str e0.1), (.int e0.2.1), (.int e0.2.2)])) p.2))), none, some (.val (.lst (List.map T.str away))), some (.val (.tup (List.map (fun (e0 : (Sg × Int × Int)) => (T.tup [(.str e0.1), (.int e0.2.1), (.int e0.2.2)])) home'))), some (.val (.lst (List.map (fun (e0 : (((List (Int × Int)) × (List (Sg × Int × Int))) × (List Sg))) => (T.tup [(.tup [(.tup (List.map (fun (e1 : (Int × Int)) => (T.tup [(.int e1.1), (.int e1.2)])) e0.1.1)), (.tup (List.map (fun (e1 : (Sg × Int × Int)) => (T.tup [(.str e1.1), (.int e1.2.1), (.int e1.2.2)])) e0.1.2))]), (.lst (List.map T.str e0.2))])) s3))), some (.val (.tup [(.tup (List.map (fun (e0 : (Int × Int)) => (T.tup [(.int e0.1), (.int e0.2)])) there.1)), (.tup (List.map (fun (e0 : (Sg × Int × Int)) => (T.tup [(.str e0.1), (.int e0.2.1), (.int e0.2.2)])) there.2))])), none, none, none, none, none]) (fun (a3 : (((List (Int × Int)) × (List (Sg × Int × Int))) × (List Sg))) (s4 : Unit) => [some (.val .scr), some (.val (.ref 0)), some (.val (.int a)), some (.val (.tup (List.map (fun (e0 : (Int × Int)) => (T.tup [(.int e0.1), (.int e0.2)])) p.1))), some (.val (.tup (List.map (fun (e0 : (Sg × Int × Int)) => (T.tup [(.str e0.1), (.int e0.2.1), (.int e0.2.2)])) p.2))), none, some (.val (.lst (List.map T.str away))), some (.val (.tup (List.map (fun (e0 : (Sg × Int × Int)) => (T.tup [(.str e0.1), (.int e0.2.1), (.int e0.2.2)])) home'))), some (.val (.lst (List.map (fun (e0 : (((List (Int × Int)) × (List (Sg × Int × Int))) × (List Sg))) => (T.tup [(.tup [(.tup (List.map (fun (e1 : (Int × Int)) => (T.tup [(.int e1.1), (.int e1.2)])) e0.1.1)), (.tup (List.map (fun (e1 : (Sg × Int × Int)) => (T.tup [(.str e1.1), (.int e1.2.1), (.int e1.2.2)])) e0.1.2))]), (.lst (List.map T.str e0.2))])) s3))), some (.val (.tup [(.tup (List.map (fun (e0 : (Int × Int)) => (T.tup [(.int e0.1), (.int e0.2)])) there.1)), (.tup (List.map (fun (e0 : (Sg × Int × Int)) => (T.tup [(.str e0.1), (.int e0.2.1), (.int e0.2.2)])) there.2))])), none, some (.val (.tup [(.tup (List.map (fun (e0 : (Int × Int)) => (T.tup [(.int e0.1), (.int e0.2)])) a3.1.1)), (.tup (List.map (fun (e0 : (Sg × Int × Int)) => (T.tup [(.str e0.1), (.int e0.2.1), (.int e0.2.2)])) a3.1.2))])), some (.val (.lst (List.map T.str a3.2))), none, none]) (by (simp_arith [Nat.reduceBEq, Nat.reduceAdd, Nat.reduceEqDiff, hrp, c_i_law_stand, c_i_law_goers, c_i_law_led, c_i_law_same, c_i_steps] <;> rfl)) (by (simp_arith [Nat.reduceBEq, Nat.reduceAdd, Nat.reduceEqDiff, hrp, c_i_law_stand, c_i_law_goers, c_i_law_led, c_i_law_same, c_i_steps] <;> rfl)) (fun _ _ => by (simp_arith [Nat.reduceBEq, Nat.reduceAdd, Nat.reduceEqDiff, hrp, c_i_law_stand, c_i_law_goers, c_i_law_led, c_i_law_same, c_i_steps] <;> rfl)) (fun a3 s4 => ?_)) (fun s5 => ?_) (fun _ => rfl)
      · refine stepI (by (simp_arith [Nat.reduceBEq, Nat.reduceAdd, Nat.reduceEqDiff, hrp, c_i_law_stand, c_i_law_goers, c_i_law_led, c_i_law_same, c_i_steps] <;> rfl)) ?_ ?_
        · show (evSs _ _ _).bind _ = _
          exact stepR (fe := fun (o : Bool) => (false, (T.bl o))) (by (simp_arith [Nat.reduceBEq, Nat.reduceAdd, Nat.reduceEqDiff, hrp, c_i_law_stand, c_i_law_goers, c_i_law_led, c_i_law_same, c_i_steps] <;> rfl)) (fun _ => rfl)
        · show (evSs _ _ _).bind _ = _
          exact (by (simp_arith [Nat.reduceBEq, Nat.reduceAdd, Nat.reduceEqDiff, hrp, c_i_law_stand, c_i_law_goers, c_i_law_led, c_i_law_same, c_i_steps] <;> rfl))
      exact (by (simp_arith [Nat.reduceBEq, Nat.reduceAdd, Nat.reduceEqDiff, hrp, c_i_law_stand, c_i_law_goers, c_i_law_led, c_i_law_same, c_i_steps] <;> rfl))
    exact stepR (fe := fun (o2 : Bool) => (false, (T.bl o2))) (by (simp_arith [Nat.reduceBEq, Nat.reduceAdd, Nat.reduceEqDiff, hrp, c_i_law_stand, c_i_law_goers, c_i_law_led, c_i_law_same, c_i_steps] <;> rfl)) (fun _ => rfl)
  rw [bind_ret] at core
  show (evSs (ecx Γ (k + 1)) _ _).all _ _
  refine (congrArg (fun t => Tr.all _ _ t) core).mpr ?_
  rw [all_bind]
  exact all_mono (fun b hb => by rw [hb]; rfl) _ h

end Mo

set_option Elab.async false
set_option linter.all false
set_option maxRecDepth 100000
set_option maxHeartbeats 1000000
set_option autoImplicit false
namespace Mo
theorem puN_strs (n : Nat) (xs : List Sg) : puN (n + 1) (T.tup (xs.map T.str)) = true := by
  rw [pn5, pn9]; simp [pn4]
theorem eqS_strs (xs : List Sg) : eqS (T.tup (xs.map T.str)) (T.tup (xs.map T.str)) = true := eqS_refl 1 _ (puN_strs 0 xs)
theorem repL_one {α : Type} (k : Nat) (a : α) : repL k [a] = List.replicate k a := by
  unfold repL
  induction k with
  | zero => rfl
  | succ k ih => rw [List.replicate_succ, List.flatten_cons, ih]; rfl
theorem lit_all {n : Nat} {a : Int × Int} {p h : Int} (h1 : 0 ≤ p ∧ p ≤ n) (h2 : 0 ≤ h ∧ h ≤ n) (hw : wayI p h ≠ 0) : litB (List.replicate n a) p (wayI p h) = if wayI p h < 0 then decide (0 < a.2) else decide (0 < a.1) := by
  have w := way_in h1 h2 hw
  unfold litB
  rw [at_nat w.1 (by rw [List.length_replicate]; exact w.2)]
  simp
theorem sp_law_k12 : F_law_k12.all (fun _ => False) fun b => b = true := by
  unfold F_law_k12
  simp only [tr_ret, bret]
  rw [rng1_ok (by omega)]
  simp only [tr_ret, hbind]
  refine hforR (fun _ => True) trivial (fun a _ s _ => ?_) fun s _ => rfl
  refine hcut (Q := StandIn) (sp_stand (by omega) (by omega) (by omega) (by omega) fun st h _ _ => h) fun st hst => ?_
  obtain ⟨ls, fs⟩ := st
  obtain ⟨n1, n8, f12, hl, hf⟩ := hst
  dsimp only at n1 n8 f12 hl hf ⊢
  have hu : NamesU fs := hf.nu
  have hr : FolkR ls.length fs := hf.row
  rw [sp_goers (st := (ls, fs)) hu hr (by dsimp only; omega)]
  simp only [tr_ret]
  rw [chk_ok (by refine ⟨rfl, by omega, by omega, by simp⟩)]
  simp only [tr_ret]
  rw [chk_ok (by refine ⟨rfl, by omega, by omega, by simp⟩)]
  simp only [tr_ret]
  rw [chk_ok (by rw [sz_val]; simp)]
  simp only [tr_ret, Int.toNat_natCast, repL_one]
  let Ok : Stand × List Sg → Prop := fun q => (FolkR q.1.1.length q.1.2 ∧ q.1.2.length ≤ 1000) ∧ goersF q.1 = q.2
  have ok1 : Ok ((ls, fs), goersF (ls, fs)) := ⟨⟨hr, by dsimp only; omega⟩, rfl⟩
  have ok2 : Ok ((List.replicate ls.length (1, 1), fs), (fs.filter fun one => !one.2.1 == one.2.2).map fun one => one.1) := by
    refine ⟨⟨by dsimp only; rw [List.length_replicate]; exact hr, by dsimp only; omega⟩, ?_⟩
    unfold goersF
    congr 1
    refine List.filter_congr fun f hf => ?_
    unfold goB
    by_cases h : wayI f.2.1 f.2.2 = 0
    · have : f.2.1 = f.2.2 := by rcases wayI_cases f.2.1 f.2.2 with h1 | h1 | h1 <;> omega
      have e : (f.2.1 == f.2.2) = true := by simpa using this
      rw [h, e]; rfl
    · have : f.2.1 ≠ f.2.2 := by rcases wayI_cases f.2.1 f.2.2 with h1 | h1 | h1 <;> omega
      rw [lit_all (hr f hf).1 (hr f hf).2 h]
      have h1 : (wayI f.2.1 f.2.2 == 0) = false := by simpa using h
      have h2 : (f.2.1 == f.2.2) = false := by simpa using this
      rw [h1, h2]
      simp
  have ok3 : Ok ((List.replicate ls.length (0, 0), fs), []) := by
    refine ⟨⟨by dsimp only; rw [List.length_replicate]; exact hr, by dsimp only; omega⟩, ?_⟩
    unfold goersF
    rw [List.map_eq_nil_iff, List.filter_eq_nil_iff]
    intro f hf
    unfold goB
    by_cases h : wayI f.2.1 f.2.2 = 0
    · simp [h]
    · rw [lit_all (hr f hf).1 (hr f hf).2 h]
      simp
  have ok4 : Ok ((ls, fs.map fun one2 => (one2.1, one2.2.2, one2.2.2)), []) := by
    refine ⟨⟨fun f hf => ?_, by dsimp only; rw [List.length_map]; omega⟩, ?_⟩
    · obtain ⟨g, hg, rfl⟩ := List.mem_map.mp hf
      have := hr g hg
      exact ⟨this.2, this.2⟩
    · unfold goersF
      rw [List.map_eq_nil_iff, List.filter_eq_nil_iff]
      intro f hf
      obtain ⟨g, hg, rfl⟩ := List.mem_map.mp hf
      unfold goB
      have : wayI g.2.2 g.2.2 = 0 := by rcases wayI_cases g.2.2 g.2.2 with h1 | h1 | h1 <;> omega
      simp [this]
  rw [hbind, hbind]
  refine sp_led (st := (ls, fs)) (many := 10) (fun s => (NamesU s.2 ∧ FolkR s.1.length s.2) ∧ s.2.length ≤ 12 ∧ s.1.length ≤ 8) (by omega) (by omega) ⟨⟨hu, hr⟩, f12, n8⟩ (fun s h => ⟨h.1.1, h.1.2, by omega, by omega⟩) (fun s h f hf hg => ?_) fun ns s h _ => ?_
  · have w := way_in (h.1.2 f hf).1 (h.1.2 f hf).2 (by have := goB_way hg; omega)
    refine ⟨⟨?_, movedF_folkR h.1.1 hf h.1.2 (by rcases goB_way hg with e | e <;> omega)⟩, ?_, ?_⟩
    · unfold NamesU; rw [movedF_names]; exact h.1.1
    · unfold movedF; simp; omega
    · unfold movedF; simp [goneL_len]; omega
  refine hret.mpr ?_
  rw [sp_goers h.1.1 h.1.2 (by omega)]
  simp only [tr_ret]
  rw [chk_ok (by rw [sz_val]; simp)]
  simp only [tr_ret]
  have ok5 : Ok (s, goersF s) := ⟨⟨h.1.2, Nat.le_trans h.2.1 (by decide)⟩, rfl⟩
  rw [forM_map (fun a2 => ((ls, [a2]), [a2.1].filter fun n => (goersF (ls, fs)).any fun x => x == n)) (by rw [sz_val]; simp; omega) fun f hf l hl => ?_]
  · simp only [tr_ret]
    have ok6 : ∀ f ∈ fs, Ok ((ls, [f]), [f.1].filter fun n => (goersF (ls, fs)).any fun x => x == n) := fun f hf => by
      refine ⟨⟨fun g hg => by rw [List.mem_singleton] at hg; subst hg; exact hr g hf, by simp⟩, ?_⟩
      have e1 : ((goersF (ls, fs)).any fun x => x == f.1) = goB ls f := by
        rw [Bool.eq_iff_iff, List.any_eq_true]
        constructor
        · rintro ⟨x, hx, e⟩
          obtain ⟨g, hg, rfl, h2⟩ := goersF_mem hx
          have := names_inj hu hg hf (by simpa using e)
          subst this
          exact h2
        · intro h2
          exact ⟨f.1, List.mem_map.mpr ⟨f, List.mem_filter.mpr ⟨hf, h2⟩, rfl⟩, by simp⟩
      unfold goersF at e1 ⊢
      simp only [List.filter_cons, List.filter_nil, e1]
      split <;> rfl
    have all : ∀ q ∈ ([((ls, fs), goersF (ls, fs)), ((List.replicate ls.length ((1 : Int), (1 : Int)), fs), (fs.filter fun (one : Sg × Int × Int) => !one.2.1 == one.2.2).map fun (one : Sg × Int × Int) => one.1)] ++
        [((List.replicate ls.length ((0 : Int), (0 : Int)), fs), []), ((ls, fs.map fun (one2 : Sg × Int × Int) => (one2.1, one2.2.2, one2.2.2)), [])] ++ [(s, goersF s)] ++ fs.map fun a2 => ((ls, [a2]), [a2.1].filter fun n => (goersF (ls, fs)).any fun x => x == n) : List (Stand × List Sg)), Ok q := fun q hq => by
      rcases List.mem_append.mp hq with hq | hq
      · simp only [List.cons_append, List.nil_append, List.mem_cons, List.not_mem_nil, or_false] at hq
        rcases hq with rfl | rfl | rfl | rfl | rfl
        · exact ok1
        · exact ok2
        · exact ok3
        · exact ok4
        · exact ok5
      · obtain ⟨f, hf, rfl⟩ := List.mem_map.mp hq
        exact ok6 f hf
    generalize hqs : ([((ls, fs), goersF (ls, fs)), ((List.replicate ls.length ((1 : Int), (1 : Int)), fs), (fs.filter fun (one : Sg × Int × Int) => !one.2.1 == one.2.2).map fun (one : Sg × Int × Int) => one.1)] ++
        [((List.replicate ls.length ((0 : Int), (0 : Int)), fs), []), ((ls, fs.map fun (one2 : Sg × Int × Int) => (one2.1, one2.2.2, one2.2.2)), [])] ++ [(s, goersF s)] ++ fs.map fun a2 => ((ls, [a2]), [a2.1].filter fun n => (goersF (ls, fs)).any fun x => x == n) : List (Stand × List Sg)) = qs at all
    have len : qs.length ≤ 100 := by rw [← hqs]; simp; omega
    have l2 : (cutT qs none (some 1)).length ≤ 100 := by
      unfold cutT; rw [List.length_take, List.length_drop]; omega
    rw [chk_ok (by rw [sz_val]; omega)]
    simp only [tr_ret, hbind]
    refine hforR (fun _ => True) trivial (fun q hq s _ => ?_) fun s _ => trivial
    have hq2 : q ∈ qs := by
      rcases List.mem_append.mp hq with hq | hq
      · exact hq
      · unfold cutT at hq; exact List.mem_of_mem_drop (List.mem_of_mem_take hq)
    obtain ⟨⟨q1, q2⟩, q3⟩ := all q hq2
    rw [sp_steps q1 q2, q3]
    simp only [tr_ret, eqS_strs]
    exact trivial
  · simp only [coC, chk_ok hl]
    simp only [tr_ret, sv_ne_ret, List.filter_cons, List.filter_nil]
    split <;> rfl
end Mo

set_option Elab.async false
set_option linter.all false
set_option maxRecDepth 100000
set_option maxHeartbeats 1000000
namespace K12
open PySem PyProof.Rows Mo
abbrev tp (i : Nat) : Stmt := PySem.Challenge.pw_mouthlamps_k12_who_can_go.main.body.getD i (.Pass ⟨0, 0, 0, 0⟩)
abbrev d0 : Df := ⟨⟨("toward", none), "toward", "toward", L2.defArgs (tp 1), L2.defBody (tp 1), L2.defScope (tp 1), [], []⟩, ["place", "home"], ["place", "home"], .code 2 2 (B_toward)⟩
abbrev d1 : Df := ⟨⟨("stretch_by", none), "stretch_by", "stretch_by", L2.defArgs (tp 2), L2.defBody (tp 2), L2.defScope (tp 2), [], []⟩, ["place", "way"], ["place", "way"], .code 2 2 (B_stretch_by)⟩
abbrev d2 : Df := ⟨⟨("is_lit", none), "is_lit", "is_lit", L2.defArgs (tp 3), L2.defBody (tp 3), L2.defScope (tp 3), [], []⟩, ["lamps", "place", "way"], ["lamps", "place", "way"], .code 3 3 (B_is_lit 1)⟩
abbrev d3 : Df := ⟨⟨("steps", none), "steps", "steps", L2.defArgs (tp 4), L2.defBody (tp 4), L2.defScope (tp 4), [], []⟩, ["stand", "found", "name", "place", "home", "way"], ["stand"], .code 1 6 (B_steps 0 2)⟩
abbrev d4 : Df := ⟨⟨("_law_deck", none), "_law_deck", "_law_deck", L2.defArgs (tp 6), L2.defBody (tp 6), L2.defScope (tp 6), [], []⟩, ["_law_script", "_law_cells", ".0", "_law_cell"], ["_law_script"], .mk⟩
abbrev d5 : Df := ⟨⟨("_law_next", none), "_law_next", "_law_next", L2.defArgs (tp 7), L2.defBody (tp 7), L2.defScope (tp 7), [], []⟩, ["_law_deck_here", "_law_many", "_law_rest", "_law_cell", "_law_mixed"], ["_law_deck_here", "_law_many"], .next⟩
abbrev d6 : Df := ⟨⟨("_law_names", none), "_law_names", "_law_names", L2.defArgs (tp 8), L2.defBody (tp 8), L2.defScope (tp 8), [], []⟩, ["_law_deck_here", "_law_many", "_law_letters", "_law_first", "_law_head", "_law_tail", ".0", "_law_k"], ["_law_deck_here", "_law_many"], .code 2 8 (B_law_names 5)⟩
abbrev d7 : Df := ⟨⟨("_law_ways", none), "_law_ways", "_law_ways", L2.defArgs (tp 9), L2.defBody (tp 9), L2.defScope (tp 9), [], []⟩, ["_law_deck_here", "_law_n", "_law_many", "_law_low", "_law_high", "_law_lean", "_law_found", "_law_k", "_law_way_here", "_law_pair"], ["_law_deck_here", "_law_n", "_law_many"], .code 3 10 (B_law_ways 5)⟩
abbrev d8 : Df := ⟨⟨("_law_passing", none), "_law_passing", "_law_passing", L2.defArgs (tp 10), L2.defBody (tp 10), L2.defScope (tp 10), [], []⟩, ["_law_n", "_law_rows", "_law_east", "_law_west", "_law_place", "_law_home", "_law_many", "_law_w"], ["_law_n", "_law_rows"], .code 2 8 (B_law_passing)⟩
abbrev d9 : Df := ⟨⟨("_law_lamps", none), "_law_lamps", "_law_lamps", L2.defArgs (tp 11), L2.defBody (tp 11), L2.defScope (tp 11), [], []⟩, ["_law_deck_here", "_law_n", "_law_rows", "_law_east", "_law_west", "_law_lean", "_law_cut", "_law_found", "_law_w", "_law_differ", "_law_even", "_law_side", "_law_pair", "_law_more", "_law_less"], ["_law_deck_here", "_law_n", "_law_rows"], .code 3 15 (B_law_lamps 8 5)⟩
abbrev d10 : Df := ⟨⟨("_law_counted", none), "_law_counted", "_law_counted", L2.defArgs (tp 12), L2.defBody (tp 12), L2.defScope (tp 12), [], []⟩, ["_law_pairs", "_law_weight", "_law_counts", "_law_place", "_law_home", ".0", "_law_pair"], ["_law_pairs", "_law_weight"], .code 2 7 (B_law_counted)⟩
abbrev d11 : Df := ⟨⟨("_law_stand", none), "_law_stand", "_law_stand", L2.defArgs (tp 13), L2.defBody (tp 13), L2.defScope (tp 13), [], []⟩, ["_law_deck_here", "_law_most", "_law_many", "_law_n", "_law_pairs", "_law_names_here", "_law_folk", ".0", "_law_name", "_law_pair"], ["_law_deck_here", "_law_most", "_law_many"], .code 3 10 (B_law_stand 5 7 6 9 10)⟩
abbrev d12 : Df := ⟨⟨("_law_who", none), "_law_who", "_law_who", L2.defArgs (tp 14), L2.defBody (tp 14), L2.defScope (tp 14), [], []⟩, ["_law_stand_here", "_law_name", ".0", "_law_one", "_law_place", "_law_home"], ["_law_stand_here", "_law_name"], .code 2 6 (B_law_who)⟩
abbrev d13 : Df := ⟨⟨("_law_moved", none), "_law_moved", "_law_moved", L2.defArgs (tp 15), L2.defBody (tp 15), L2.defScope (tp 15), [], []⟩, ["_law_stand_here", "_law_name", "_law_way_here", "_law_place", "_law_home", "_law_w", "_law_left", "_law_right", "_law_lamps_here", ".0", "_law_one", "_law_at", "_law_goal"], ["_law_stand_here", "_law_name", "_law_way_here"], .code 3 13 (B_law_moved 12)⟩
abbrev d14 : Df := ⟨⟨("_law_way", none), "_law_way", "_law_way", L2.defArgs (tp 16), L2.defBody (tp 16), L2.defScope (tp 16), [], []⟩, ["_law_stand_here", "_law_name", "_law_place", "_law_home"], ["_law_stand_here", "_law_name"], .code 2 4 (B_law_way 12)⟩
abbrev d15 : Df := ⟨⟨("_law_lit", none), "_law_lit", "_law_lit", L2.defArgs (tp 17), L2.defBody (tp 17), L2.defScope (tp 17), [], []⟩, ["_law_stand_here", "_law_name", "_law_way_here", "_law_place", "_law_home", "_law_w"], ["_law_stand_here", "_law_name", "_law_way_here"], .code 3 6 (B_law_lit 12)⟩
abbrev d16 : Df := ⟨⟨("_law_goers", none), "_law_goers", "_law_goers", L2.defArgs (tp 18), L2.defBody (tp 18), L2.defScope (tp 18), [], []⟩, ["_law_stand_here", "_law_found", "_law_name", "_law_place", "_law_home", "_law_way_here"], ["_law_stand_here"], .code 1 6 (B_law_goers 14 15)⟩
abbrev d17 : Df := ⟨⟨("_law_same", none), "_law_same", "_law_same", L2.defArgs (tp 19), L2.defBody (tp 19), L2.defScope (tp 19), [], []⟩, ["_law_found", "_law_due", ".0", "_law_one", "_law_other"], ["_law_found", "_law_due"], .code 2 5 (B_law_same 17)⟩
abbrev d18 : Df := ⟨⟨("_law_led", none), "_law_led", "_law_led", L2.defArgs (tp 20), L2.defBody (tp 20), L2.defScope (tp 20), [], []⟩, ["_law_deck_here", "_law_stand_here", "_law_many", "_law_found", "_law_k", "_law_some", "_law_name"], ["_law_deck_here", "_law_stand_here", "_law_many"], .code 3 7 (B_law_led 16 5 13 14)⟩
abbrev d19 : Df := ⟨⟨("law", none), "law", "law", L2.defArgs (tp 21), L2.defBody (tp 21), L2.defScope (tp 21), [], []⟩, ["_law_script", "_law_deck_here", "_law_turn", "_law_lamps_here", "_law_folk", "_law_one", "_law_away", "_law_home", "_law_some", "_law_there", "_law_alone", "_law_stand_here", "_law_due", ".0", "_law_name"], ["_law_script"], .code 1 15 (B_law_k12 4 11 16 18 17 3)⟩
abbrev dfs : List Df := [d0, d1, d2, d3, d4, d5, d6, d7, d8, d9, d10, d11, d12, d13, d14, d15, d16, d17, d18, d19]
abbrev se : SE := ⟨["toward", "stretch_by", "is_lit", "steps", "_law_deck", "_law_next", "_law_names", "_law_ways", "_law_passing", "_law_lamps", "_law_counted", "_law_stand", "_law_who", "_law_moved", "_law_way", "_law_lit", "_law_goers", "_law_same", "_law_led", "law"], [], ["len", "tuple", "int", "isinstance", "max", "min", "sum", "all", "any", "abs", "repr", "list", "sorted", "divmod", "range", "enumerate", "zip", "bool", "str"], []⟩
abbrev cs : List (Str × T) := []
abbrev pg : Pg := ⟨dfs.map (·.fn), cs.map (·.2), rpT⟩
theorem g0 : Good se d0 := ⟨rfl, ⟨rfl, rfl, rfl, by decide +kernel, rfl, by decide +kernel, by decide +kernel⟩, fun _ _ _ _ _ _ us hl => match us, hl with | [_, _], _ => rfl, ⟨rfl, rfl⟩, ⟨rfl, rfl, by kernel_rfl⟩⟩
theorem g1 : Good se d1 := ⟨rfl, ⟨rfl, rfl, rfl, by decide +kernel, rfl, by decide +kernel, by decide +kernel⟩, fun _ _ _ _ _ _ us hl => match us, hl with | [_, _], _ => rfl, ⟨rfl, rfl⟩, ⟨rfl, rfl, by kernel_rfl⟩⟩
theorem g2 : Good se d2 := ⟨rfl, ⟨rfl, rfl, rfl, by decide +kernel, rfl, by decide +kernel, by decide +kernel⟩, fun _ _ _ _ _ _ us hl => match us, hl with | [_, _, _], _ => rfl, ⟨rfl, rfl⟩, ⟨rfl, rfl, by kernel_rfl⟩⟩
theorem g3 : Good se d3 := ⟨rfl, ⟨rfl, rfl, rfl, by decide +kernel, rfl, by decide +kernel, by decide +kernel⟩, fun _ _ _ _ _ _ us hl => match us, hl with | [_], _ => rfl, ⟨rfl, rfl⟩, ⟨rfl, rfl, by kernel_rfl⟩⟩
theorem g4 : Good se d4 := ⟨rfl, ⟨rfl, rfl, rfl, by decide +kernel, rfl, by decide +kernel, by decide +kernel⟩, fun _ _ _ _ _ _ us hl => match us, hl with | [_], _ => rfl, ⟨rfl, rfl⟩, ⟨rfl, rfl, by kernel_rfl⟩⟩
theorem g5 : Good se d5 := ⟨rfl, ⟨rfl, rfl, rfl, by decide +kernel, rfl, by decide +kernel, by decide +kernel⟩, fun _ _ _ _ _ _ us hl => match us, hl with | [_, _], _ => rfl, ⟨rfl, rfl⟩, ⟨rfl, rfl, by kernel_rfl⟩⟩
theorem g6 : Good se d6 := ⟨rfl, ⟨rfl, rfl, rfl, by decide +kernel, rfl, by decide +kernel, by decide +kernel⟩, fun _ _ _ _ _ _ us hl => match us, hl with | [_, _], _ => rfl, ⟨rfl, rfl⟩, ⟨rfl, rfl, by kernel_rfl⟩⟩
theorem g7 : Good se d7 := ⟨rfl, ⟨rfl, rfl, rfl, by decide +kernel, rfl, by decide +kernel, by decide +kernel⟩, fun _ _ _ _ _ _ us hl => match us, hl with | [_, _, _], _ => rfl, ⟨rfl, rfl⟩, ⟨rfl, rfl, by kernel_rfl⟩⟩
theorem g8 : Good se d8 := ⟨rfl, ⟨rfl, rfl, rfl, by decide +kernel, rfl, by decide +kernel, by decide +kernel⟩, fun _ _ _ _ _ _ us hl => match us, hl with | [_, _], _ => rfl, ⟨rfl, rfl⟩, ⟨rfl, rfl, by kernel_rfl⟩⟩
theorem g9 : Good se d9 := ⟨rfl, ⟨rfl, rfl, rfl, by decide +kernel, rfl, by decide +kernel, by decide +kernel⟩, fun _ _ _ _ _ _ us hl => match us, hl with | [_, _, _], _ => rfl, ⟨rfl, rfl⟩, ⟨rfl, rfl, by kernel_rfl⟩⟩
theorem g10 : Good se d10 := ⟨rfl, ⟨rfl, rfl, rfl, by decide +kernel, rfl, by decide +kernel, by decide +kernel⟩, fun _ _ _ _ _ _ us hl => match us, hl with | [_, _], _ => rfl, ⟨rfl, rfl⟩, ⟨rfl, rfl, by kernel_rfl⟩⟩
theorem g11 : Good se d11 := ⟨rfl, ⟨rfl, rfl, rfl, by decide +kernel, rfl, by decide +kernel, by decide +kernel⟩, fun _ _ _ _ _ _ us hl => match us, hl with | [_, _, _], _ => rfl, ⟨rfl, rfl⟩, ⟨rfl, rfl, by kernel_rfl⟩⟩
theorem g12 : Good se d12 := ⟨rfl, ⟨rfl, rfl, rfl, by decide +kernel, rfl, by decide +kernel, by decide +kernel⟩, fun _ _ _ _ _ _ us hl => match us, hl with | [_, _], _ => rfl, ⟨rfl, rfl⟩, ⟨rfl, rfl, by kernel_rfl⟩⟩
theorem g13 : Good se d13 := ⟨rfl, ⟨rfl, rfl, rfl, by decide +kernel, rfl, by decide +kernel, by decide +kernel⟩, fun _ _ _ _ _ _ us hl => match us, hl with | [_, _, _], _ => rfl, ⟨rfl, rfl⟩, ⟨rfl, rfl, by kernel_rfl⟩⟩
theorem g14 : Good se d14 := ⟨rfl, ⟨rfl, rfl, rfl, by decide +kernel, rfl, by decide +kernel, by decide +kernel⟩, fun _ _ _ _ _ _ us hl => match us, hl with | [_, _], _ => rfl, ⟨rfl, rfl⟩, ⟨rfl, rfl, by kernel_rfl⟩⟩
theorem g15 : Good se d15 := ⟨rfl, ⟨rfl, rfl, rfl, by decide +kernel, rfl, by decide +kernel, by decide +kernel⟩, fun _ _ _ _ _ _ us hl => match us, hl with | [_, _, _], _ => rfl, ⟨rfl, rfl⟩, ⟨rfl, rfl, by kernel_rfl⟩⟩
theorem g16 : Good se d16 := ⟨rfl, ⟨rfl, rfl, rfl, by decide +kernel, rfl, by decide +kernel, by decide +kernel⟩, fun _ _ _ _ _ _ us hl => match us, hl with | [_], _ => rfl, ⟨rfl, rfl⟩, ⟨rfl, rfl, by kernel_rfl⟩⟩
theorem g17 : Good se d17 := ⟨rfl, ⟨rfl, rfl, rfl, by decide +kernel, rfl, by decide +kernel, by decide +kernel⟩, fun _ _ _ _ _ _ us hl => match us, hl with | [_, _], _ => rfl, ⟨rfl, rfl⟩, ⟨rfl, rfl, by kernel_rfl⟩⟩
theorem g18 : Good se d18 := ⟨rfl, ⟨rfl, rfl, rfl, by decide +kernel, rfl, by decide +kernel, by decide +kernel⟩, fun _ _ _ _ _ _ us hl => match us, hl with | [_, _, _], _ => rfl, ⟨rfl, rfl⟩, ⟨rfl, rfl, by kernel_rfl⟩⟩
theorem g19 : Good se d19 := ⟨rfl, ⟨rfl, rfl, rfl, by decide +kernel, rfl, by decide +kernel, by decide +kernel⟩, fun _ _ _ _ _ _ us hl => match us, hl with | [_], _ => rfl, ⟨rfl, rfl⟩, ⟨rfl, rfl, by kernel_rfl⟩⟩
theorem gs : ∀ (i : Nat) (df : Df), dfs[i]? = some df → Good se df := fun i df h => match i, h with
  | 0, h => Option.some.inj h ▸ g0
  | 1, h => Option.some.inj h ▸ g1
  | 2, h => Option.some.inj h ▸ g2
  | 3, h => Option.some.inj h ▸ g3
  | 4, h => Option.some.inj h ▸ g4
  | 5, h => Option.some.inj h ▸ g5
  | 6, h => Option.some.inj h ▸ g6
  | 7, h => Option.some.inj h ▸ g7
  | 8, h => Option.some.inj h ▸ g8
  | 9, h => Option.some.inj h ▸ g9
  | 10, h => Option.some.inj h ▸ g10
  | 11, h => Option.some.inj h ▸ g11
  | 12, h => Option.some.inj h ▸ g12
  | 13, h => Option.some.inj h ▸ g13
  | 14, h => Option.some.inj h ▸ g14
  | 15, h => Option.some.inj h ▸ g15
  | 16, h => Option.some.inj h ▸ g16
  | 17, h => Option.some.inj h ▸ g17
  | 18, h => Option.some.inj h ▸ g18
  | 19, h => Option.some.inj h ▸ g19
  | _ + 20, h => nomatch h
abbrev R : PySem.W.OpenRow := PySem.W.OpenLaw.row PySem.Challenge.rw_mouthlamps_k12_who_can_go
abbrev hk : PySem.W.Hook := He.hookD 4 (fasOf dfs se (cs.map Mo.cfa)) (dfs.map (·.d))
def ob (s : PySem.W.SharedT) : He.AlD := He.obsDG 4 (fasOf dfs se (cs.map Mo.cfa)) (dfs.map (·.d)) (HandSHeadRun.getT s)
theorem ob_eq (s : PySem.W.SharedT) : ob s = hk.obs s.abs := He.obsDG_eq (HandSHeadRun.getT_eq s)
theorem run (w : World) : HandSHeadRun.RunEq R (PySem.W.view R.prog [21]) hk ob 4000 ["toward", "stretch_by", "is_lit", "steps", "_law_deck", "_law_next", "_law_names", "_law_ways", "_law_passing", "_law_lamps", "_law_counted", "_law_stand", "_law_who", "_law_moved", "_law_way", "_law_lit", "_law_goers", "_law_same", "_law_led"] w := by
  intro os
  kernel_rfl
theorem cost : ccOf (cTab pg.fns 60) 19 ≤ 2 ^ 300000 := by decide +kernel

theorem h_toward : S_toward pg 0 := ok_toward rfl rfl
theorem h_stretch_by : S_stretch_by pg 1 := ok_stretch_by rfl rfl
theorem h_is_lit : S_is_lit pg 2 := ok_is_lit rfl rfl h_stretch_by
theorem h_steps : S_steps pg 3 := ok_steps rfl rfl h_toward h_is_lit
theorem h_next : S_next pg 5 := fun k m hk => by
  obtain ⟨k, rfl, hj⟩ := ex_succ hk
  exact ev_next rfl
theorem h_law_names : S_law_names pg 6 := ok_law_names rfl rfl h_next
theorem h_law_ways : S_law_ways pg 7 := ok_law_ways rfl rfl h_next
theorem h_law_passing : S_law_passing pg 8 := ok_law_passing rfl rfl
theorem h_law_lamps : S_law_lamps pg 9 := ok_law_lamps rfl rfl h_law_passing h_next
theorem h_law_counted : S_law_counted pg 10 := ok_law_counted rfl rfl
theorem h_law_stand : S_law_stand pg 11 := ok_law_stand rfl rfl h_next h_law_ways h_law_names h_law_lamps h_law_counted
theorem h_law_who : S_law_who pg 12 := ok_law_who rfl rfl
theorem h_law_moved : S_law_moved pg 13 := ok_law_moved rfl rfl h_law_who
theorem h_law_way : S_law_way pg 14 := ok_law_way rfl rfl h_law_who
theorem h_law_lit : S_law_lit pg 15 := ok_law_lit rfl rfl h_law_who
theorem h_law_goers : S_law_goers pg 16 := ok_law_goers rfl rfl h_law_way h_law_lit
theorem h_law_same : S_law_same pg 17 := ok_law_same rfl
theorem h_law_led : S_law_led pg 18 := ok_law_led rfl rfl h_law_goers h_next h_law_moved h_law_way
theorem spec : wpCall pg 60 19 [.scr] (fun _ => none) noE fun v _ => v = .bl true := lw_law_k12 (k := 58) rfl rfl rfl h_law_stand h_law_goers h_law_led h_law_same h_steps (by decide) sp_law_k12
end K12
open PySem PySem.W PySem.Calls PyProof.Rows
theorem PySem.Challenge.cw_mouthlamps_k12_who_can_go_holds : PySem.Challenge.rw_mouthlamps_k12_who_can_go.Holds := by
  w_on; o_law
  refine HandSHeadRun.head_any (r := OpenLaw.row PySem.Challenge.rw_mouthlamps_k12_who_can_go) (q := view (OpenLaw.row PySem.Challenge.rw_mouthlamps_k12_who_can_go).prog [21]) (H := K12.hk) (ob := K12.ob) (M := 4000) (loose := ["toward", "stretch_by", "is_lit", "steps", "_law_deck", "_law_next", "_law_names", "_law_ways", "_law_passing", "_law_lamps", "_law_counted", "_law_stand", "_law_who", "_law_moved", "_law_way", "_law_lit", "_law_goers", "_law_same", "_law_led"]) (d := HandSHeadRun.topDef (OpenLaw.row PySem.Challenge.rw_mouthlamps_k12_who_can_go).prog 21) (kwd := []) K12.ob_eq
    (by kernel_rfl) (fun s => by kernel_rfl) K12.run (by kernel_rfl) (by kernel_rfl) (by kernel_rfl) (by rfl) (by first | assumption | decide +kernel) (by decide +kernel) ⟨rfl, rfl, rfl, rfl, rfl, by decide +kernel⟩ ?hw ?hc
  case hw => w_witness2
  case hc =>
    refine Mo.walk_ofG (l := PySem.Challenge.rw_mouthlamps_k12_who_can_go) (n := 63) (k := 60) (i := 19) (df := K12.d19) (dfs := K12.dfs) (g := K12.se) (Γ := K12.pg) rfl (by decide) (by kernel_rfl) ⟨rfl, by decide, by decide⟩ rfl (by kernel_rfl) ?F K12.cost K12.spec
    intro w mg fa h Y G hmg
    obtain ⟨K, KX, c⟩ := Y
    exact ⟨K, KX, Mo.wired_ofC (cs := K12.cs) KX G c K12.gs rfl rfl rfl (by decide) rfl rfl (by decide)⟩
