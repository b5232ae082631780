import PyProof.Rows.All
import Wide.All
import OpenK.AllK
import Wide.FinOn
import HandS.ForMost
import HandS.Wide
import HandS.Flow
import HandS.Style
import HandS.IsInst
import HandS.TryOnly
import HandS.TupAny
import HandS.TupMul
import HandS.Deep
import HandS.Zip
import HandS.Rev
import HandS.RevRange
import HandS.DictTup
import KE.GoesEnum
import KE.GoesRev
import KE.SortData
import KE.LtData
import KE.KDictKeyed
import KE.GoesNew
import HandS.RaiseMore
import HandS.FStrTup
import HandS.Text
import KE.GoesMore
import KE.GoesZip
import HandS.Head0
import HandS.Head1
import HandS.Head2
import HandS.HeadEnd
import HandS.HeadHook1
import HandS.HeadHook2
import HandS.Ends
import HandS.Defaults
import PySem.Challenge.RW_mouthlamps_k60_sums
set_option autoImplicit false
/-! MoCore: a small language of our own, its values as trees, what a run of it comes to (weakest preconditions). -/
namespace Mo

abbrev Sg := List Nat

inductive T where
  | non
  | bl (b : Bool)
  | int (i : Int)
  | str (s : Sg)
  | tup (ts : List T)
  | lst (ts : List T)
  | dct (ks vs : List T)
  | ref (a : Nat)
  | fn (i : Nat)
  | scr
  deriving Inhabited

/-- what stands at an address -/
inductive O where
  | lst (ts : List T)
  | dct (kvs : List (T × T))
  | deck

abbrev St := Nat → Option O
abbrev Env := List (Option T)
structure Ex where
  cls : Nat
  fs : List T

def upd (st : St) (a : Nat) (o : O) : St := fun b => if b = a then some o else st b
theorem upd_same (st : St) (a : Nat) (o : O) : upd st a o a = some o := by simp [upd]
theorem upd_ne {st : St} {a b : Nat} {o : O} (h : b ≠ a) : upd st a o b = st b := by simp [upd, h]
theorem upd_none {st : St} {a b : Nat} {o : O} (h : upd st a o b = none) : b ≠ a ∧ st b = none := by
  unfold upd at h
  split at h
  · cases h
  · exact ⟨by assumption, h⟩
theorem upd_upd (st : St) (a : Nat) (o u : O) : upd (upd st a o) a u = upd st a u := by
  funext b; unfold upd; split <;> rfl

/-- fewer things -/
def Sub (s t : St) : Prop := ∀ a o, s a = some o → t a = some o
theorem Sub.refl (s : St) : Sub s s := fun _ _ h => h
theorem Sub.trans {s t u : St} (a : Sub s t) (b : Sub t u) : Sub s u := fun x o h => b x o (a x o h)
theorem Sub.upd {s t : St} {a : Nat} {o : O} (h : Sub s t) (n : s a = none) : Sub s (upd t a o) := fun b u e => by
  have : b ≠ a := fun z => by rw [z, n] at e; cases e
  rw [upd_ne this]; exact h b u e
/-- fewer known names -/
def Ewk : Env → Env → Prop
  | [], [] => True
  | none :: a, _ :: b => Ewk a b
  | some x :: a, some y :: b => x = y ∧ Ewk a b
  | _, _ => False
theorem Ewk.refl : ∀ e : Env, Ewk e e
  | [] => trivial
  | none :: a => Ewk.refl a
  | some _ :: a => ⟨rfl, Ewk.refl a⟩

mutual
def eqT : T → T → Bool
  | .non, .non => true
  | .bl a, .bl b => a == b
  | .bl a, .int j => (if a then 1 else 0) == j
  | .int i, .bl b => i == (if b then 1 else 0)
  | .int i, .int j => i == j
  | .str x, .str y => x == y
  | .lst xs, .lst ys => eqTs xs ys
  | .tup xs, .tup ys => eqTs xs ys
  | _, _ => false
def eqTs : List T → List T → Bool
  | [], [] => true
  | x :: xs, y :: ys => eqT x y && eqTs xs ys
  | _, _ => false
end

mutual
def depT : T → Nat
  | .tup ts => depTs ts + 1
  | .lst ts => depTs ts + 1
  | _ => 0
def depTs : List T → Nat
  | [] => 0
  | t :: ts => max (depT t) (depTs ts)
end

mutual
/-- made of none, truths, numbers, texts, tuples -/
def pureT : T → Bool
  | .non | .bl _ | .int _ | .str _ => true
  | .tup ts => pureTs ts
  | _ => false
def pureTs : List T → Bool
  | [] => true
  | t :: ts => pureT t && pureTs ts
end

mutual
/-- x < y for numbers, texts, tuples of such -/
def ltT : T → T → Bool
  | .int i, .int j => decide (i < j)
  | .str x, .str y => decide (x < y)
  | .tup xs, .tup ys => ltTs xs ys
  | _, _ => false
def ltTs : List T → List T → Bool
  | [], _ :: _ => true
  | x :: xs, y :: ys => if eqT x y then ltTs xs ys else ltT x y
  | _, _ => false
end

mutual
/-- one can be told below the other, place by place -/
def alk : T → T → Bool
  | .int _, .int _ => true
  | .str _, .str _ => true
  | .tup xs, .tup ys => alks xs ys
  | _, _ => false
def alks : List T → List T → Bool
  | x :: xs, y :: ys => alk x y && alks xs ys
  | _, _ => true
end

mutual
/-- a thing seen through and through -/
inductive Dp (st : St) : T → T → Prop
  | non : Dp st .non .non
  | bl (b : Bool) : Dp st (.bl b) (.bl b)
  | int (i : Int) : Dp st (.int i) (.int i)
  | str (s : Sg) : Dp st (.str s) (.str s)
  | tup {ts ds : List T} : Dps st ts ds → Dp st (.tup ts) (.tup ds)
  | ref {a : Nat} {ts ds : List T} : st a = some (.lst ts) → Dps st ts ds → Dp st (.ref a) (.lst ds)
inductive Dps (st : St) : List T → List T → Prop
  | nil : Dps st [] []
  | cons {t d : T} {ts ds : List T} : Dp st t d → Dps st ts ds → Dps st (t :: ts) (d :: ds)
end
mutual
theorem Dp.pure (st : St) : ∀ t : T, pureT t = true → Dp st t t
  | .non, _ => .non
  | .bl b, _ => .bl b
  | .int i, _ => .int i
  | .str s, _ => .str s
  | .tup ts, h => .tup (Dps.pure st ts (by simpa [pureT] using h))
  | .lst _, h => by simp [pureT] at h
  | .ref _, h => by simp [pureT] at h
  | .fn _, h => by simp [pureT] at h
  | .scr, h => by simp [pureT] at h
theorem Dps.pure (st : St) : ∀ ts : List T, pureTs ts = true → Dps st ts ts
  | [], _ => .nil
  | t :: ts, h => by
    simp only [pureTs, Bool.and_eq_true] at h
    exact .cons (Dp.pure st t h.1) (Dps.pure st ts h.2)
end

def SZ : Nat := 16777216
mutual
/-- its texts are texts -/
def chT : T → Bool
  | .str s => s.all fun c => decide (c < 1114112)
  | .tup ts => chTs ts
  | .lst ts => chTs ts
  | _ => true
def chTs : List T → Bool
  | [] => true
  | t :: ts => chT t && chTs ts
end
def okD (d : T) : Bool := decide (depT d ≤ 60) && chT d
def okDs (ds : List T) : Bool := decide (depTs ds ≤ 60) && chTs ds

inductive Op | add | sub | mul | fdiv | mod | pow
  deriving DecidableEq
inductive Co | eq | ne | lt | le | gt | ge | is | isnot | isin | notin
inductive Ty | int | bool | str | tuple
/-- built-ins of values -/
inductive Bi | len | abs | int | str | repr | max2 | min2 | divmod
  deriving DecidableEq
/-- built-ins of things gone through -/
inductive Li | tuple | list | sum | all | any | max | min | len | dict
  deriving DecidableEq
/-- methods -/
inductive Me | append | pop | index | get | get2 | items | insert | remove | count
inductive Tg
  | name (i : Nat)
  | tup (ts : List Tg)

mutual
inductive X where
  | var (i : Nat)
  | int (i : Int)
  | str (s : Sg)
  | bl (b : Bool)
  | non
  | glob (i : Nat)
  | fnv (i : Nat)
  | bin (o : Op) (a b : X)
  | neg (a : X)
  | not (a : X)
  | and (a b : X)
  | or (a b : X)
  | ite (c a b : X)
  | cmp (o : Co) (a b : X)
  | chain (o p : Co) (a b c : X)
  | tup (es : List X)
  | new (l : L)
  | idx (a i : X)
  | slc (a : X) (lo hi : Option X)
  | rev (a : X)
  | call (f : Nat) (es : List X)
  | callv (i : Nat) (es : List X)
  | bi (f : Bi) (es : List X)
  | isi (a : X) (ty : Ty)
  | li (f : Li) (l : L)
  | join (a : X) (l : L)
  | me (m : Me) (o : X) (es : List X)
  | dct (kvs : List (X × X))
/-- a sequence that is gone through at once -/
inductive L where
  | ex (e : X)
  | lst (es : List X)
  | comp (elt : X) (ifs : List X) (tg : Tg) (own : List Nat) (src : Sr)
  | comp2 (elt : X) (ifs1 ifs2 : List X) (tg1 tg2 : Tg) (own : List Nat) (src1 src2 : Sr)
  | srt (l : L)
  | srtE (e : X)
  | items (e : X)
/-- what a loop goes through -/
inductive Sr where
  | seq (l : L)
  | range (es : List X)
  | enum (l : L)
  | zip (ls : List L)
  | rrange (es : List X)
end

inductive Sm where
  | set (g : Tg) (e : X)
  | par (is : List Nat) (es : List X)
  | sub (o i e : X)
  | aug (i : Nat) (o : Op) (e : X)
  | augs (o i : X) (op : Op) (e : X)
  | ex (e : X)
  | ret (e : Option X)
  | cond (c : X) (a b : List Sm)
  | loop (g : Tg) (s : Sr) (b : List Sm)
  | whl (c : X) (b : List Sm)
  | pass
/-! ### what a run comes to -/
abbrev EK := Ex → St → Prop
abbrev TK := T → St → Prop
abbrev LK := List T → (St → Prop) → St → Prop
structure Cxt where
  call : Nat → List T → St → EK → TK → Prop
  nf : Nat
  glob : Nat → Option T
  rp : T → Sg
structure Po where
  nx : Env → St → Prop
  rt : TK
  ex : EK
def noE : EK := fun _ _ => False

def MulOk (i j : Int) : Prop := i.natAbs < 2 ^ 400000 ∧ j.natAbs < 2 ^ 400000
def rep (k : Nat) (ts : List T) : List T := (List.replicate k ts).flatten
def sIx (n d : Nat) : Option Int → Nat
  | none => d
  | some i => if i < 0 then (i + (n : Int)).toNat else min i.toNat n
def cutT {α : Type} (xs : List α) (lo hi : Option Int) : List α :=
  (xs.drop (sIx xs.length 0 lo)).take (sIx xs.length xs.length hi - sIx xs.length 0 lo)
def atT {α : Type} (xs : List α) (i : Int) : Option α :=
  if 0 ≤ i then xs[i.toNat]? else if -(xs.length : Int) ≤ i then xs[(i + xs.length).toNat]? else none

def binSem (o : Op) (x y : T) (st : St) (Q : TK) : Prop :=
  match o, x, y with
  | .add, .int i, .int j => Q (.int (i + j)) st
  | .sub, .int i, .int j => Q (.int (i - j)) st
  | .mul, .int i, .int j => MulOk i j ∧ Q (.int (i * j)) st
  | .fdiv, .int i, .int j => (0 < j ∧ j < 2 ^ 1000) ∧ Q (.int (i / j)) st
  | .mod, .int i, .int j => 0 < j ∧ Q (.int (i % j)) st
  | .pow, .int i, .int j => (0 ≤ j ∧ j ≤ 1000 ∧ i.natAbs < 2 ^ 64) ∧ Q (.int (i ^ j.toNat)) st
  | .add, .str a, .str b => a.length + b.length ≤ SZ ∧ Q (.str (a ++ b)) st
  | .add, .tup a, .tup b => a.length + b.length ≤ SZ ∧ Q (.tup (a ++ b)) st
  | .mul, .tup a, .int j => (a ≠ [] ∧ 1 ≤ j ∧ j ≤ 1000 ∧ a.length ≤ 1000) ∧ Q (.tup (rep j.toNat a)) st
  | .add, .ref a, .ref b => ∃ xs ys, st a = some (.lst xs) ∧ st b = some (.lst ys) ∧ xs.length + ys.length ≤ SZ ∧ ∀ p, st p = none → Q (.ref p) (upd st p (.lst (xs ++ ys)))
  | .mul, .ref a, .int j => ∃ xs, st a = some (.lst xs) ∧ (0 ≤ j ∧ j ≤ 1000 ∧ xs.length ≤ 1000) ∧ ∀ p, st p = none → Q (.ref p) (upd st p (.lst (rep j.toNat xs)))
  | _, _, _ => False

/-- x op= y, numbers -/
def augSem (o : Op) (x y : T) (Q : T → Prop) : Prop :=
  match o, x, y with
  | .add, .int i, .int j => Q (.int (i + j))
  | .sub, .int i, .int j => Q (.int (i - j))
  | .mul, .int i, .int j => ((-(2 ^ 64) < i ∧ i < 2 ^ 64) ∨ (-(2 ^ 64) < j ∧ j < 2 ^ 64)) ∧ Q (.int (i * j))
  | _, _, _ => False

def truSem (x : T) (st : St) (Q : Bool → Prop) : Prop :=
  match x with
  | .non => Q false
  | .bl b => Q b
  | .int i => Q (i != 0)
  | .str s => s.length ≤ SZ ∧ Q (!s.isEmpty)
  | .tup ts => Q (!ts.isEmpty)
  | .ref a => (∃ ts, st a = some (.lst ts) ∧ Q (!ts.isEmpty)) ∨ (∃ kvs, st a = some (.dct kvs) ∧ Q (!kvs.isEmpty))
  | _ => False

def eqSem (x y : T) (st : St) (Q : Bool → Prop) : Prop :=
  ∃ d e, Dp st x d ∧ Dp st y e ∧ okD d = true ∧ okD e = true ∧ Q (eqT d e)
def inSem (x y : T) (st : St) (Q : Bool → Prop) : Prop :=
  match y with
  | .tup ts => ∃ d ds, Dp st x d ∧ Dps st ts ds ∧ okD d = true ∧ okDs ds = true ∧ Q (ds.any fun e => eqT e d)
  | .ref a => (∃ ts d ds, st a = some (.lst ts) ∧ Dp st x d ∧ Dps st ts ds ∧ okD d = true ∧ okDs ds = true ∧ Q (ds.any fun e => eqT e d)) ∨
      (∃ kvs, st a = some (.dct kvs) ∧ pureT x = true ∧ Q (kvs.any fun kv => eqT kv.1 x))
  | .str s => ∃ c, x = .str [c] ∧ Q (decide (c ∈ s))
  | _ => False
def ltSem (x y : T) (Q : Bool → Prop) : Prop :=
  match x, y with
  | .int i, .int j => Q (decide (i < j))
  | .str i, .str j => Q (decide (i < j))
  | .tup a, .tup b => pureTs a = true ∧ pureTs b = true ∧ alks a b = true ∧ okDs a = true ∧ okDs b = true ∧ Q (ltTs a b)
  | _, _ => False
def leSem (x y : T) (Q : Bool → Prop) : Prop :=
  match x, y with
  | .int i, .int j => Q (decide (i ≤ j))
  | .str i, .str j => Q (!decide (j < i))
  | _, _ => False
def gtSem (x y : T) (Q : Bool → Prop) : Prop :=
  match x, y with
  | .int i, .int j => Q (decide (j < i))
  | _, _ => False
def geSem (x y : T) (Q : Bool → Prop) : Prop :=
  match x, y with
  | .int i, .int j => Q (decide (j ≤ i))
  | _, _ => False
def isNon : T → Bool
  | .non => true
  | _ => false
def cmpSem (o : Co) (x y : T) (st : St) (Q : Bool → Prop) : Prop :=
  match o with
  | .eq => eqSem x y st Q
  | .ne => eqSem x y st fun b => Q (!b)
  | .lt => ltSem x y Q
  | .gt => gtSem x y Q
  | .le => leSem x y Q
  | .ge => geSem x y Q
  | .is => y = .non ∧ Q (isNon x)
  | .isnot => y = .non ∧ Q (!isNon x)
  | .isin => inSem x y st Q
  | .notin => inSem x y st fun b => Q (!b)

def idxSem (x i : T) (st : St) (Q : TK) : Prop :=
  match x, i with
  | .tup ts, .int k => ∃ v, atT ts k = some v ∧ Q v st
  | .str s, .int k => ∃ c, atT s k = some c ∧ s.length ≤ SZ ∧ Q (.str [c]) st
  | .ref a, k => (∃ ts j v, k = .int j ∧ st a = some (.lst ts) ∧ atT ts j = some v ∧ Q v st) ∨
      (∃ kvs kv, st a = some (.dct kvs) ∧ pureT k = true ∧ kvs.find? (fun kv => eqT kv.1 k) = some kv ∧ Q kv.2 st)
  | _, _ => False
def slcSem (x : T) (lo hi : Option Int) (st : St) (Q : TK) : Prop :=
  match x with
  | .tup ts => Q (.tup (cutT ts lo hi)) st
  | .str s => s.length ≤ SZ ∧ Q (.str (cutT s lo hi)) st
  | .ref a => ∃ ts, st a = some (.lst ts) ∧ ∀ p, st p = none → Q (.ref p) (upd st p (.lst (cutT ts lo hi)))
  | _ => False
def revSem (x : T) (st : St) (Q : TK) : Prop :=
  match x with
  | .ref a => ∃ ts, st a = some (.lst ts) ∧ ∀ p, st p = none → Q (.ref p) (upd st p (.lst ts.reverse))
  | _ => False
def isiSem (x : T) (ty : Ty) (st : St) (Q : Bool → Prop) : Prop :=
  match x with
  | .non => Q false
  | .bl _ => Q (match ty with | .int | .bool => true | _ => false)
  | .int _ => Q (match ty with | .int => true | _ => false)
  | .str _ => Q (match ty with | .str => true | _ => false)
  | .tup _ => Q (match ty with | .tuple => true | _ => false)
  | .ref a => (∃ ts, st a = some (.lst ts) ∧ Q false) ∨ (∃ ts, st a = some (.dct ts) ∧ Q false)
  | _ => False

mutual
/-- how long its repr is at most -/
def szT : T → Nat
  | .tup ts => szTs ts + 2
  | .lst ts => szTs ts + 2
  | .str s => 10 * s.length + 2
  | .int _ => 600
  | _ => 5
def szTs : List T → Nat
  | [] => 0
  | t :: ts => szT t + 2 + szTs ts
/-- its numbers are small -/
def smlT : T → Bool
  | .tup ts => smlTs ts
  | .lst ts => smlTs ts
  | .int i => decide (i.natAbs < 2 ^ 1900)
  | _ => true
def smlTs : List T → Bool
  | [] => true
  | t :: ts => smlT t && smlTs ts
end

def reprSem (rp : T → Sg) (x : T) (st : St) (Q : TK) : Prop :=
  ∃ d, Dp st x d ∧ okD d = true ∧ smlT d = true ∧ szT d ≤ SZ ∧ Q (.str (rp d)) st
def lenSem (x : T) (st : St) (Q : TK) : Prop :=
  match x with
  | .str s => s.length ≤ SZ ∧ Q (.int s.length) st
  | .tup ts => Q (.int ts.length) st
  | .ref a => (∃ ts, st a = some (.lst ts) ∧ Q (.int ts.length) st) ∨ (∃ kvs, st a = some (.dct kvs) ∧ Q (.int kvs.length) st)
  | _ => False
def biSem (rp : T → Sg) (f : Bi) (vs : List T) (st : St) (Q : TK) : Prop :=
  match f, vs with
  | .len, [x] => lenSem x st Q
  | .abs, [.int i] => Q (.int (if i < 0 then -i else i)) st
  | .int, [.int i] => Q (.int i) st
  | .int, [.bl b] => Q (.int (if b then 1 else 0)) st
  | .repr, [x] => reprSem rp x st Q
  | .max2, [.int i, .int j] => Q (.int (if j > i then j else i)) st
  | .min2, [.int i, .int j] => Q (.int (if j < i then j else i)) st
  | .divmod, [.int i, .int j] => (0 < j ∧ j < 1073741824) ∧ Q (.tup [.int (i / j), .int (i % j)]) st
  | _, _ => False

def liSem (f : Li) (ts : List T) (st : St) (Q : TK) : Prop :=
  match f with
  | .tuple => Q (.tup ts) st
  | .list => ∀ p, st p = none → Q (.ref p) (upd st p (.lst ts))
  | .sum => ∃ ns : List Int, ts = ns.map .int ∧ Q (.int ns.sum) st
  | .all => ∃ bs : List Bool, ts = bs.map .bl ∧ Q (.bl (bs.all id)) st
  | .any => ∃ bs : List Bool, ts = bs.map .bl ∧ Q (.bl (bs.any id)) st
  | .len => Q (.int ts.length) st
  | .max => ∃ ns : List Int, ts = ns.map .int ∧ ns ≠ [] ∧ ∀ m, m ∈ ns → (∀ y, y ∈ ns → y ≤ m) → Q (.int m) st
  | .min => ∃ ns : List Int, ts = ns.map .int ∧ ns ≠ [] ∧ ∀ m, m ∈ ns → (∀ y, y ∈ ns → m ≤ y) → Q (.int m) st
  | .dict => False

/-- put a value at a key -/
def putK (k v : T) : List (T × T) → List (T × T)
  | [] => [(k, v)]
  | (q, w) :: r => if eqT q k then (q, v) :: r else (q, w) :: putK k v r
def lookK (k : T) : List (T × T) → Option T
  | [] => none
  | (q, w) :: r => if eqT q k then some w else lookK k r

def meSem (m : Me) (o : T) (vs : List T) (st : St) (Q : TK) : Prop :=
  match m, o, vs with
  | .append, .ref a, [y] => ∃ xs, st a = some (.lst xs) ∧ xs.length < SZ ∧ Q .non (upd st a (.lst (xs ++ [y])))
  | .pop, .ref a, [] => ∃ xs y, st a = some (.lst (xs ++ [y])) ∧ Q y (upd st a (.lst xs))
  | .pop, .ref a, [.int i] => i = 0 ∧ ∃ xs y, st a = some (.lst (y :: xs)) ∧ Q y (upd st a (.lst xs))
  | .get2, .ref a, [k, d] => ∃ kvs, st a = some (.dct kvs) ∧ pureT k = true ∧ Q ((lookK k kvs).getD d) st
  | _, _, _ => False
/-- the method is there -/
def meOk (m : Me) (x : T) (st : St) : Prop := match m with
  | .append => ∃ a ts, x = .ref a ∧ st a = some (.lst ts)
  | .pop => ∃ a ts, x = .ref a ∧ st a = some (.lst ts)
  | _ => False
def subSem (o i v : T) (st : St) (Q : St → Prop) : Prop :=
  match o, i with
  | .ref a, k => (∃ ts j, k = .int (Int.ofNat j) ∧ st a = some (.lst ts) ∧ j < ts.length ∧ Q (upd st a (.lst (ts.set j v)))) ∨
      (∃ kvs, st a = some (.dct kvs) ∧ pureT k = true ∧ kvs.length < 1000 ∧ Q (upd st a (.dct (putK k v kvs))))
  | _, _ => False

def seqSem (v : T) (st : St) (Q : List T → (St → Prop) → Prop) : Prop :=
  match v with
  | .tup ts => Q ts fun _ => True
  | .ref a => ∃ ts, st a = some (.lst ts) ∧ Q ts fun s => s a = some (.lst ts)
  | .scr => ∀ ns : List Int, ns.length ≤ 1000 → Q (ns.map .int) fun _ => True
  | _ => False

def msort (ts : List T) : List T := ts.mergeSort fun x y => !ltT y x
def isTup1 : T → Bool
  | .tup (_ :: _) => true
  | _ => false
def noTup : T → Bool
  | .tup _ => false
  | _ => true
/-- they can be told in order, each below another or not -/
def srtOk (ts : List T) : Bool := pureTs ts && okDs ts && (ts.all fun x => ts.all fun y => alk x y) && (ts.all isTup1 || ts.all noTup)
def srtSem (ts : List T) (Q : List T → Prop) : Prop := srtOk ts = true ∧ Q (msort ts)
mutual
def asgT : Tg → T → St → Env → (Env → Prop) → Prop
  | .name i, v, _, env, Q => Q (env.set i (some v))
  | .tup gs, v, st, env, Q => match v with
    | .tup ts => asgTs gs ts st env Q
    | .ref a => ∃ ts, st a = some (.lst ts) ∧ asgTs gs ts st env Q
    | _ => False
def asgTs : List Tg → List T → St → Env → (Env → Prop) → Prop
  | [], [], _, env, Q => Q env
  | g :: gs, t :: ts, st, env, Q => asgT g t st env fun e => asgTs gs ts st e Q
  | _, _, _, _, _ => False
end
def wipe (env : Env) (own : List Nat) : Env := own.foldl (fun e i => e.set i none) env

def itl (chk : St → Prop) (turn : T → List T → St → (List T → St → Prop) → Prop) : List T → List T → St → (List T → St → Prop) → Prop
  | [], acc, s, Q => chk s ∧ Q acc s
  | x :: xs, acc, s, Q => chk s ∧ turn x acc s fun acc' s' => ∃ s2, Sub s2 s' ∧ itl chk turn xs acc' s2 Q
def itf (chk : St → Prop) (turn : T → Env → St → (Env → St → Prop) → Prop) : List T → Env → St → (Env → St → Prop) → Prop
  | [], env, s, Q => chk s ∧ Q env s
  | x :: xs, env, s, Q => chk s ∧ turn x env s fun e1 s1 => ∃ e2 s2, Ewk e2 e1 ∧ Sub s2 s1 ∧ itf chk turn xs e2 s2 Q
def itw (test : Env → St → (Bool → St → Prop) → Prop) (body : Env → St → (Env → St → Prop) → Prop) : Nat → Env → St → (Env → St → Prop) → Prop
  | 0, _, _, _ => False
  | n + 1, env, s, Q => test env s fun b s1 => if b = true then body env s1 (fun e1 s2 => ∃ e2 s3, Ewk e2 e1 ∧ Sub s3 s2 ∧ itw test body n e2 s3 Q) else Q env s1

def zipT : List (List T) → List T
  | [xs, ys] => List.zipWith (fun x y => .tup [x, y]) xs ys
  | [xs, ys, zs] => List.zipWith (fun x yz => .tup (x :: yz)) xs (List.zipWith (fun y z => [y, z]) ys zs)
  | _ => []
def enumT (ts : List T) : List T := (List.range ts.length).zipWith (fun i x => .tup [.int (Int.ofNat i), x]) ts
def rangeT (lo hi : Int) : List T := (List.range (hi - lo).toNat).map fun i => .int (lo + Int.ofNat i)
def rangeSem (vs : List T) (Q : List T → Prop) : Prop :=
  match vs with
  | [.int n] => (-1000000 ≤ n ∧ n ≤ SZ) ∧ Q (rangeT 0 n)
  | [.int m, .int n] => (-1000000 ≤ m ∧ m ≤ SZ ∧ -1000000 ≤ n ∧ n ≤ SZ) ∧ Q (rangeT m n)
  | _ => False

mutual
def wpE (C : Cxt) : X → Env → St → EK → TK → Prop
  | .var i, env, st, _, Q => match env.getD i none with
    | some v => Q v st
    | none => False
  | .int i, _, st, _, Q => Q (.int i) st
  | .str s, _, st, _, Q => Q (.str s) st
  | .bl b, _, st, _, Q => Q (.bl b) st
  | .non, _, st, _, Q => Q .non st
  | .glob i, _, st, _, Q => match C.glob i with
    | some v => Q v st
    | none => False
  | .fnv i, _, st, _, Q => Q (.fn i) st
  | .bin o a b, env, st, E, Q => wpE C a env st E fun x s1 => wpE C b env s1 E fun y s2 => binSem o x y s2 Q
  | .neg a, env, st, E, Q => wpE C a env st E fun x s1 => match x with
    | .int i => Q (.int (-i)) s1
    | _ => False
  | .not a, env, st, E, Q => wpE C a env st E fun x s1 => truSem x s1 fun b => Q (.bl (!b)) s1
  | .and a b, env, st, E, Q => wpE C a env st E fun x s1 => truSem x s1 fun t => if t = true then wpE C b env s1 E Q else Q x s1
  | .or a b, env, st, E, Q => wpE C a env st E fun x s1 => truSem x s1 fun t => if t = true then Q x s1 else wpE C b env s1 E Q
  | .ite c a b, env, st, E, Q => wpT C c env st E fun t s1 => if t = true then wpE C a env s1 E Q else wpE C b env s1 E Q
  | .cmp o a b, env, st, E, Q => wpE C a env st E fun x s1 => wpE C b env s1 E fun y s2 => cmpSem o x y s2 fun t => Q (.bl t) s2
  | .chain o p a b c, env, st, E, Q => wpE C a env st E fun x s1 => wpE C b env s1 E fun y s2 => cmpSem o x y s2 fun t =>
      if t = true then wpE C c env s2 E fun z s3 => cmpSem p y z s3 fun u => Q (.bl u) s3 else Q (.bl false) s2
  | .tup es, env, st, E, Q => wpEs C es env st E fun vs s1 => Q (.tup vs) s1
  | .new l, env, st, E, Q => wpL C l env st E fun ts _ s1 => ∀ p, s1 p = none → Q (.ref p) (upd s1 p (.lst ts))
  | .idx a i, env, st, E, Q => wpE C a env st E fun x s1 => wpE C i env s1 E fun y s2 => idxSem x y s2 Q
  | .slc a lo hi, env, st, E, Q => wpE C a env st E fun x s1 => wpO C lo env s1 E fun l s2 => wpO C hi env s2 E fun h s3 => slcSem x l h s3 Q
  | .rev a, env, st, E, Q => wpE C a env st E fun x s1 => revSem x s1 Q
  | .call f es, env, st, E, Q => wpEs C es env st E fun vs s1 => C.call f vs s1 E Q
  | .callv i es, env, st, E, Q => match env.getD i none with
    | some (.fn f) => f < C.nf ∧ wpEs C es env st E fun vs s1 => C.call f vs s1 E Q
    | _ => False
  | .bi f es, env, st, E, Q => wpEs C es env st E fun vs s1 => biSem C.rp f vs s1 Q
  | .isi a ty, env, st, E, Q => wpE C a env st E fun x s1 => isiSem x ty s1 fun b => Q (.bl b) s1
  | .li f l, env, st, E, Q => wpL C l env st E fun ts _ s1 => liSem f ts s1 Q
  | .join a l, env, st, E, Q => wpE C a env st E fun x s1 => (∃ y, x = .str y) ∧ wpL C l env s1 E fun ts _ s2 => match x with
    | .str sep => ∃ ss : List Sg, ts = ss.map .str ∧ (ss.map (·.length)).sum + ss.length * sep.length ≤ SZ ∧ Q (.str (List.intercalate sep ss)) s2
    | _ => False
  | .me m o es, env, st, E, Q => wpE C o env st E fun x s1 => meOk m x s1 ∧ wpEs C es env s1 E fun vs s2 => meSem m x vs s2 Q
  | .dct _, _, _, _, _ => False
def wpT (C : Cxt) : X → Env → St → EK → (Bool → St → Prop) → Prop
  | .not a, env, st, E, Q => wpT C a env st E fun t s1 => Q (!t) s1
  | .and a b, env, st, E, Q => wpT C a env st E fun t s1 => if t = true then wpT C b env s1 E Q else Q false s1
  | .or a b, env, st, E, Q => wpT C a env st E fun t s1 => if t = true then Q true s1 else wpT C b env s1 E Q
  | .ite c a b, env, st, E, Q => wpT C c env st E fun t s1 => if t = true then wpT C a env s1 E Q else wpT C b env s1 E Q
  | e, env, st, E, Q => wpE C e env st E fun x s1 => truSem x s1 fun t => Q t s1
def wpEs (C : Cxt) : List X → Env → St → EK → (List T → St → Prop) → Prop
  | [], _, st, _, Q => Q [] st
  | e :: es, env, st, E, Q => wpE C e env st E fun v s1 => wpEs C es env s1 E fun vs s2 => Q (v :: vs) s2
def wpO (C : Cxt) : Option X → Env → St → EK → (Option Int → St → Prop) → Prop
  | none, _, st, _, Q => Q none st
  | some e, env, st, E, Q => wpE C e env st E fun v s1 => match v with
    | .int i => Q (some i) s1
    | _ => False
def wpL (C : Cxt) : L → Env → St → EK → LK → Prop
  | .ex e, env, st, E, Q => wpE C e env st E fun v s1 => seqSem v s1 fun ts chk => ts.length ≤ SZ → Q ts chk s1
  | .lst es, env, st, E, Q => wpEs C es env st E fun vs s1 => Q vs (fun _ => True) s1
  | .comp elt ifs tg own src, env, st, E, Q => wpR C src env st E fun ts chk s1 =>
      itl chk (fun x acc s k => asgT tg x s (wipe env own) fun e2 => wpIf C ifs e2 s fun b s2 =>
        if b = true then wpE C elt e2 s2 noE fun v s3 => acc.length < SZ ∧ k (acc ++ [v]) s3 else k acc s2) ts [] s1 fun acc s2 => Q acc (fun _ => True) s2
  | .comp2 .., _, _, _, _ => False
  | .srt l, env, st, E, Q => wpL C l env st E fun ts _ s1 => srtSem ts fun us => Q us (fun _ => True) s1
  | .srtE e, env, st, E, Q => wpE C e env st E fun v s1 => ∃ a ts, v = .ref a ∧ s1 a = some (.lst ts) ∧ srtSem ts fun us => Q us (fun _ => True) s1
  | .items _, _, _, _, _ => False
def wpLs (C : Cxt) : List L → Env → St → EK → (List (List T) → (St → Prop) → St → Prop) → Prop
  | [], _, st, _, Q => Q [] (fun _ => True) st
  | l :: ls, env, st, E, Q => wpL C l env st E fun ts chk s1 => wpLs C ls env s1 E fun tss chk2 s2 => Q (ts :: tss) (fun s => chk s ∧ chk2 s) s2
def wpR (C : Cxt) : Sr → Env → St → EK → LK → Prop
  | .seq l, env, st, E, Q => wpL C l env st E Q
  | .range es, env, st, E, Q => wpEs C es env st E fun vs s1 => rangeSem vs fun ts => Q ts (fun _ => True) s1
  | .enum l, env, st, E, Q => wpL C l env st E fun ts chk s1 => Q (enumT ts) chk s1
  | .zip ls, env, st, E, Q => wpLs C ls env st E fun tss chk s1 => chk s1 ∧ Q (zipT tss) chk s1
  | .rrange es, env, st, E, Q => wpEs C es env st E fun vs s1 => rangeSem vs fun ts => Q ts.reverse (fun _ => True) s1
/-- tests of a clause -/
def wpIf (C : Cxt) : List X → Env → St → (Bool → St → Prop) → Prop
  | [], _, st, Q => Q true st
  | c :: cs, env, st, Q => wpT C c env st noE fun t s1 => if t = true then wpIf C cs env s1 Q else Q false s1
end

mutual
def wpS (C : Cxt) : Sm → Env → St → Po → Prop
  | .set g e, env, st, P => wpE C e env st P.ex fun v s1 => asgT g v s1 env fun e2 => P.nx e2 s1
  | .par is es, env, st, P => wpEs C es env st P.ex fun vs s1 => vs.length = is.length ∧ P.nx ((is.zip vs).foldl (fun e p => e.set p.1 (some p.2)) env) s1
  | .sub o i e, env, st, P => wpE C e env st P.ex fun v s1 => wpE C o env s1 P.ex fun x s2 => wpE C i env s2 P.ex fun y s3 => subSem x y v s3 fun s4 => P.nx env s4
  | .aug i o e, env, st, P => match env.getD i none with
    | some x => wpE C e env st P.ex fun y s1 => augSem o x y fun v => P.nx (env.set i (some v)) s1
    | none => False
  | .augs .., _, _, _ => False
  | .ex e, env, st, P => wpE C e env st P.ex fun _ s1 => P.nx env s1
  | .ret none, _, st, P => P.rt .non st
  | .ret (some e), env, st, P => wpE C e env st P.ex P.rt
  | .cond c a b, env, st, P => wpT C c env st P.ex fun t s1 => if t = true then wpSs C a env s1 P else wpSs C b env s1 P
  | .loop g s b, env, st, P => wpR C s env st P.ex fun ts chk s1 =>
      itf chk (fun x e s k => asgT g x s e fun e2 => wpSs C b e2 s { nx := k, rt := P.rt, ex := P.ex }) ts env s1 P.nx
  | .whl c b, env, st, P => ∃ N, N ≤ 2 ^ 62 ∧ itw (fun e s k => wpT C c e s P.ex k) (fun e s k => wpSs C b e s { nx := k, rt := P.rt, ex := P.ex }) N env st P.nx
  | .pass, env, st, P => P.nx env st
def wpSs (C : Cxt) : List Sm → Env → St → Po → Prop
  | [], env, st, P => P.nx env st
  | s :: ss, env, st, P => wpS C s env st { P with nx := fun e2 s2 => wpSs C ss e2 s2 P }
end

inductive Fn where
  | code (np nl : Nat) (body : List Sm)
  | mk
  | next
structure Pg where
  fns : List Fn
  glob : List T
  rp : T → Sg

def start (nl : Nat) (vs : List T) : Env := vs.map some ++ List.replicate (nl - vs.length) none
def wpCall (P : Pg) : Nat → Nat → List T → St → EK → TK → Prop
  | 0, _, _, _, _, _ => False
  | k + 1, f, vs, st, E, Q => match P.fns[f]? with
    | some (.code np nl body) => vs.length = np ∧ wpSs ⟨wpCall P k, P.fns.length, fun i => P.glob[i]?, P.rp⟩ body (start nl vs) st
        { nx := fun _ s => ∃ s2, Sub s2 s ∧ Q .non s2, rt := fun v s => ∃ s2, Sub s2 s ∧ Q v s2, ex := fun x s => ∃ s2, Sub s2 s ∧ E x s2 }
    | some .mk => vs = [.scr] ∧ (∀ b, st b ≠ some .deck) ∧ ∀ p, st p = none → Q (.ref p) (upd st p .deck)
    | some .next => ∃ a m, vs = [.ref a, .int m] ∧ st a = some .deck ∧ 1 ≤ m ∧ m < 2 ^ 1000 ∧ ∀ r, 0 ≤ r → r < m → Q (.int r) st
    | none => False

/-! ### at most how many draws -/
def LN : Nat := 2 ^ 62
mutual
def cE (cc : Nat → Nat) : X → Nat
  | .bin _ a b => cE cc a + cE cc b
  | .neg a => cE cc a
  | .not a => cE cc a
  | .and a b => cE cc a + cE cc b
  | .or a b => cE cc a + cE cc b
  | .ite c a b => cE cc c + (cE cc a + cE cc b)
  | .cmp _ a b => cE cc a + cE cc b
  | .chain _ _ a b c => cE cc a + (cE cc b + cE cc c)
  | .tup es => cEs cc es
  | .new l => cL cc l
  | .idx a i => cE cc a + cE cc i
  | .slc a lo hi => cE cc a + (cO cc lo + cO cc hi)
  | .rev a => cE cc a
  | .call f es => cEs cc es + cc f
  | .callv _ es => cEs cc es + cc 1000000
  | .bi _ es => cEs cc es
  | .isi a _ => cE cc a
  | .li _ l => cL cc l
  | .join a l => cE cc a + cL cc l
  | .me _ o es => cE cc o + cEs cc es
  | .dct _ => 0
  | .var _ | .int _ | .str _ | .bl _ | .non | .glob _ | .fnv _ => 0
def cEs (cc : Nat → Nat) : List X → Nat
  | [] => 0
  | e :: es => cE cc e + cEs cc es
def cO (cc : Nat → Nat) : Option X → Nat
  | none => 0
  | some e => cE cc e
def cL (cc : Nat → Nat) : L → Nat
  | .ex e => cE cc e
  | .lst es => cEs cc es
  | .comp elt ifs _ _ src => cR cc src + LN * (cEs cc ifs + cE cc elt)
  | .comp2 .. => 0
  | .srt l => cL cc l
  | .srtE e => cE cc e
  | .items e => cE cc e
def cLs (cc : Nat → Nat) : List L → Nat
  | [] => 0
  | l :: ls => cL cc l + cLs cc ls
def cR (cc : Nat → Nat) : Sr → Nat
  | .seq l => cL cc l
  | .range es => cEs cc es
  | .enum l => cL cc l
  | .zip ls => cLs cc ls
  | .rrange es => cEs cc es
end
mutual
def cS (cc : Nat → Nat) : Sm → Nat
  | .set _ e => cE cc e
  | .par _ es => cEs cc es
  | .sub o i e => cE cc e + (cE cc o + cE cc i)
  | .aug _ _ e => cE cc e
  | .augs o i _ e => cE cc o + (cE cc i + cE cc e)
  | .ex e => cE cc e
  | .ret none => 0
  | .ret (some e) => cE cc e
  | .cond c a b => cE cc c + (cSs cc a + cSs cc b)
  | .loop _ s b => cR cc s + LN * cSs cc b
  | .whl c b => LN * (cE cc c + cSs cc b)
  | .pass => 0
def cSs (cc : Nat → Nat) : List Sm → Nat
  | [] => 0
  | s :: ss => cS cc s + cSs cc ss
end
def cFn (cc : Nat → Nat) : Fn → Nat
  | .code _ _ b => cSs cc b
  | .mk => 0
  | .next => 1
def ccOf (t : List Nat) (f : Nat) : Nat := match t[f]? with
  | some c => c
  | none => t.foldl max 0
/-- by the depth of calls: the list of all functions' -/
def cTab (fs : List Fn) : Nat → List Nat
  | 0 => []
  | k + 1 => let t := cTab fs k; fs.map (cFn (ccOf t))
end Mo

set_option Elab.async false
set_option linter.all false
set_option maxRecDepth 100000
set_option autoImplicit false
namespace Mo
open PySem PyProof.Rows

/-- what stays the same through the whole run -/
structure Wd where
  K : PySem.W.Frag
  fa : Nat → Addr

def cpsS (s : Sg) : Str := ⟨s.toArray⟩
/-- a list that nobody changes -/
def SqF (K : PySem.W.Frag) (F : L2.Hp) (a : Addr) (xs : List L2.V) : Prop :=
  (∃ o, F a = some (.frz o (.lst xs))) ∨
    ∃ (o : Obj) (its : Array Value) (n : Nat), K.lookup a = some o ∧ o.cls = .type "list" ∧ o.dict = none ∧ o.data = .seq its n ∧ its.size ≤ sizeLine ∧ L2.Vals xs its.toList
theorem SqF.sqL {K : PySem.W.Frag} {F : L2.Hp} {a : Addr} {xs : List L2.V} (h : SqF K F a xs) : L2.SqL K F a xs := h.elim (fun h => .inl (.inr h)) .inr
/-- all but lists stays -/
def Keep (F F' : L2.Hp) : Prop := ∀ a o, F a = some o → (∀ xs, o ≠ .lst xs) → F' a = some o
theorem Keep.of {F F' : L2.Hp} (h : L2.Same F F') : Keep F F' := fun a o e _ => h a o e
theorem Keep.trans {F G I : L2.Hp} (h : Keep F G) (k : Keep G I) : Keep F I := fun a o e n => k a o (h a o e n) n

mutual
def RepV (D : Wd) (F : L2.Hp) : T → L2.V → Prop
  | .non, v => v = .non
  | .bl b, v => v = .bl b
  | .int i, v => v = .int i
  | .str s, v => v = .str (cpsS s)
  | .tup ts, v => ∃ a xs, v = .ref a ∧ L2.SqT D.K F a xs ∧ RepVs D F ts xs
  | .lst _, _ => False
  | .dct _ _, _ => False
  | .ref a, v => v = .ref a
  | .fn i, v => v = .ref (D.fa i)
  | .scr, v => ∃ a, ∃ ns : List Int, v = .ref a ∧ SqF D.K F a (ns.map .int) ∧ ns.length ≤ 1000
def RepVs (D : Wd) (F : L2.Hp) : List T → List L2.V → Prop
  | [], vs => vs = []
  | t :: ts, vs => ∃ v ws, vs = v :: ws ∧ RepV D F t v ∧ RepVs D F ts ws
end

theorem rd_keep {F F' : L2.Hp} {a : Addr} {xs : List L2.V} (h : Keep F F') (r : L2.Rd F a (.tup xs)) : L2.Rd F' a (.tup xs) := by
  rcases r with r | ⟨o, r⟩
  · exact .inl (h _ _ r fun _ z => by cases z)
  · exact .inr ⟨o, h _ _ r fun _ z => by cases z⟩
theorem rd_mono {F F' : L2.Hp} {a : Addr} {u : L2.HO} (h : L2.Same F F') (r : L2.Rd F a u) : L2.Rd F' a u := by
  rcases r with r | ⟨o, r⟩
  · exact .inl (h _ _ r)
  · exact .inr ⟨o, h _ _ r⟩
theorem sqT_keep {K : PySem.W.Frag} {F F' : L2.Hp} {a : Addr} {xs : List L2.V} (h : Keep F F') (r : L2.SqT K F a xs) : L2.SqT K F' a xs := by
  rcases r with r | r
  · exact .inl (rd_keep h r)
  · exact .inr r
theorem sqF_keep {K : PySem.W.Frag} {F F' : L2.Hp} {a : Addr} {xs : List L2.V} (h : Keep F F') (r : SqF K F a xs) : SqF K F' a xs := by
  rcases r with ⟨o, r⟩ | r
  · exact .inl ⟨o, h _ _ r fun _ z => by cases z⟩
  · exact .inr r
theorem sqT_mono {K : PySem.W.Frag} {F F' : L2.Hp} {a : Addr} {xs : List L2.V} (h : L2.Same F F') (r : L2.SqT K F a xs) : L2.SqT K F' a xs := by
  rcases r with r | r
  · exact .inl (rd_mono h r)
  · exact .inr r
theorem sqL_mono {K : PySem.W.Frag} {F F' : L2.Hp} {a : Addr} {xs : List L2.V} (h : L2.Same F F') (r : L2.SqL K F a xs) : L2.SqL K F' a xs := by
  rcases r with r | r
  · exact .inl (rd_mono h r)
  · exact .inr r
mutual
theorem RepV.keep {D : Wd} {F F' : L2.Hp} (h : Keep F F') : ∀ (t : T) (v : L2.V), RepV D F t v → RepV D F' t v
  | .non, _, r => r
  | .bl _, _, r => r
  | .int _, _, r => r
  | .str _, _, r => r
  | .tup ts, _, r => by
    obtain ⟨a, xs, e, s, q⟩ := r
    exact ⟨a, xs, e, sqT_keep h s, RepVs.keep h ts xs q⟩
  | .lst _, _, r => r
  | .dct _ _, _, r => r
  | .ref _, _, r => r
  | .fn _, _, r => r
  | .scr, _, r => by
    obtain ⟨a, ns, e, s, l⟩ := r
    exact ⟨a, ns, e, sqF_keep h s, l⟩
theorem RepVs.keep {D : Wd} {F F' : L2.Hp} (h : Keep F F') : ∀ (ts : List T) (vs : List L2.V), RepVs D F ts vs → RepVs D F' ts vs
  | [], _, r => r
  | t :: ts, _, r => by
    obtain ⟨v, ws, e, r1, r2⟩ := r
    exact ⟨v, ws, e, RepV.keep h t v r1, RepVs.keep h ts ws r2⟩
end
theorem RepV.mono {D : Wd} {F F' : L2.Hp} (h : L2.Same F F') (t : T) (v : L2.V) (r : RepV D F t v) : RepV D F' t v := r.keep (.of h)
theorem RepVs.mono {D : Wd} {F F' : L2.Hp} (h : L2.Same F F') (ts : List T) (vs : List L2.V) (r : RepVs D F ts vs) : RepVs D F' ts vs := r.keep (.of h)
section
variable {D : Wd} {F : L2.Hp}
theorem RepVs.length : ∀ {ts : List T} {vs : List L2.V}, RepVs D F ts vs → ts.length = vs.length
  | [], _, r => by rw [show _ = [] from r]; rfl
  | t :: ts, _, r => by
    obtain ⟨v, ws, e, _, r2⟩ := r
    rw [e, List.length_cons, List.length_cons, RepVs.length r2]
theorem RepVs.get : ∀ {ts : List T} {vs : List L2.V} {i : Nat} {t : T}, RepVs D F ts vs → ts[i]? = some t → ∃ v, vs[i]? = some v ∧ RepV D F t v
  | [], _, _, _, _, e => by simp at e
  | t :: ts, _, 0, u, r, e => by
    obtain ⟨v, ws, rfl, r1, _⟩ := r
    simp at e; subst e
    exact ⟨v, rfl, r1⟩
  | t :: ts, _, i + 1, u, r, e => by
    obtain ⟨v, ws, rfl, _, r2⟩ := r
    obtain ⟨x, h1, h2⟩ := RepVs.get (i := i) (t := u) r2 (by simpa using e)
    exact ⟨x, by simpa using h1, h2⟩
theorem RepVs.append : ∀ {ts us : List T} {vs ws : List L2.V}, RepVs D F ts vs → RepVs D F us ws → RepVs D F (ts ++ us) (vs ++ ws)
  | [], _, _, _, r, q => by rw [show _ = [] from r]; exact q
  | t :: ts, us, _, ws, r, q => by
    obtain ⟨v, xs, rfl, r1, r2⟩ := r
    exact ⟨v, xs ++ ws, rfl, r1, RepVs.append r2 q⟩
theorem RepVs.set : ∀ {ts : List T} {vs : List L2.V} {t : T} {v : L2.V} (i : Nat), RepVs D F ts vs → RepV D F t v → RepVs D F (ts.set i t) (vs.set i v)
  | [], _, _, _, _, r, _ => by rw [show _ = [] from r]; exact rfl
  | t :: ts, _, _, _, 0, r, q => by
    obtain ⟨v, xs, rfl, r1, r2⟩ := r
    exact ⟨_, xs, rfl, q, r2⟩
  | t :: ts, _, _, _, i + 1, r, q => by
    obtain ⟨v, xs, rfl, r1, r2⟩ := r
    exact ⟨v, _, rfl, r1, RepVs.set i r2 q⟩
theorem RepVs.take : ∀ {ts : List T} {vs : List L2.V} (n : Nat), RepVs D F ts vs → RepVs D F (ts.take n) (vs.take n)
  | [], _, _, r => by rw [show _ = [] from r]; simp [RepVs]
  | t :: ts, _, 0, r => by simp [RepVs]
  | t :: ts, _, n + 1, r => by
    obtain ⟨v, xs, rfl, r1, r2⟩ := r
    exact ⟨v, _, rfl, r1, RepVs.take n r2⟩
theorem RepVs.drop : ∀ {ts : List T} {vs : List L2.V} (n : Nat), RepVs D F ts vs → RepVs D F (ts.drop n) (vs.drop n)
  | [], _, _, r => by rw [show _ = [] from r]; simp [RepVs]
  | t :: ts, _, 0, r => by simpa using r
  | t :: ts, _, n + 1, r => by
    obtain ⟨v, xs, rfl, r1, r2⟩ := r
    simpa using RepVs.drop n r2
theorem RepVs.reverse : ∀ {ts : List T} {vs : List L2.V}, RepVs D F ts vs → RepVs D F ts.reverse vs.reverse
  | [], _, r => by rw [show _ = [] from r]; simp [RepVs]
  | t :: ts, _, r => by
    obtain ⟨v, xs, rfl, r1, r2⟩ := r
    rw [List.reverse_cons, List.reverse_cons]
    exact (RepVs.reverse r2).append ⟨v, [], rfl, r1, rfl⟩
theorem RepVs.rep {ts : List T} {vs : List L2.V} (r : RepVs D F ts vs) : ∀ k : Nat, RepVs D F (rep k ts) (List.replicate k vs).flatten
  | 0 => by simp [Mo.rep, RepVs]
  | k + 1 => by
    unfold Mo.rep
    rw [List.replicate_succ, List.flatten_cons, List.replicate_succ, List.flatten_cons]
    exact r.append (RepVs.rep r k)
theorem RepVs.ints : ∀ {ns : List Int} {vs : List L2.V}, RepVs D F (ns.map .int) vs → vs = ns.map .int
  | [], _, r => r
  | n :: ns, _, r => by
    obtain ⟨v, xs, rfl, r1, r2⟩ := r
    rw [RepVs.ints r2, show v = _ from r1]; rfl
theorem RepVs.of_ints : ∀ {ns : List Int}, RepVs D F (ns.map .int) (ns.map .int)
  | [] => rfl
  | n :: ns => ⟨_, _, rfl, rfl, RepVs.of_ints⟩
theorem RepVs.bls : ∀ {ns : List Bool} {vs : List L2.V}, RepVs D F (ns.map .bl) vs → vs = ns.map .bl
  | [], _, r => r
  | n :: ns, _, r => by
    obtain ⟨v, xs, rfl, r1, r2⟩ := r
    rw [RepVs.bls r2, show v = _ from r1]; rfl
theorem RepVs.strs : ∀ {ns : List Sg} {vs : List L2.V}, RepVs D F (ns.map .str) vs → vs = ns.map fun s => .str (cpsS s)
  | [], _, r => r
  | n :: ns, _, r => by
    obtain ⟨v, xs, rfl, r1, r2⟩ := r
    rw [RepVs.strs r2, show v = _ from r1]; rfl
end

/-- the law's drawn numbers, at a -/
def DeckAt (B : Nat) (H F : L2.Hp) (st : St) (a : Addr) : Prop :=
  ∃ (b c : Addr) (k : Int) (ns ms : List Int), H a = some (.lst [.ref b, .ref c, .int k]) ∧ H b = some (.lst (ns.map .int)) ∧ H c = some (.lst (ms.map .int)) ∧
    (ms ≠ [] ∧ ns.length ≤ 1000) ∧ 0 ≤ k ∧ k ≤ B ∧ (∀ n ∈ ns, 0 ≤ n) ∧ (∀ m ∈ ms, 0 ≤ m) ∧ b ≠ c ∧ st b = none ∧ st c = none ∧ F b = none ∧ F c = none
def ORep (D : Wd) (B : Nat) (H F : L2.Hp) (st : St) (a : Addr) : O → Prop
  | .lst ts => ∃ xs, H a = some (.lst xs) ∧ RepVs D F ts xs
  | .dct _ => False
  | .deck => DeckAt B H F st a
structure Sim (D : Wd) (B : Nat) (H F : L2.Hp) (st : St) : Prop where
  fr : ∀ a o, F a = some o → H a = some o
  ob : ∀ a o, st a = some o → F a = none ∧ ORep D B H F st a o
  dk : ∀ a b, st a = some .deck → st b = some .deck → a = b

def EnvR (D : Wd) (F : L2.Hp) (env : Env) (σ : L2.St) : Prop :=
  env.length = σ.length ∧ ∀ (i : Nat) (t : T), env[i]? = some (some t) → ∃ v, σ[i]? = some (some v) ∧ RepV D F t v

section
variable {D : Wd} {B B' : Nat} {H F F' : L2.Hp} {st st' : St} {a : Addr}
theorem EnvR.keep {env : Env} {σ : L2.St} (r : EnvR D F env σ) (h : Keep F F') : EnvR D F' env σ :=
  ⟨r.1, fun i t e => let ⟨v, e1, r1⟩ := r.2 i t e; ⟨v, e1, r1.keep h⟩⟩
theorem EnvR.mono {env : Env} {σ : L2.St} (r : EnvR D F env σ) (h : L2.Same F F') : EnvR D F' env σ :=
  ⟨r.1, fun i t e => let ⟨v, e1, r1⟩ := r.2 i t e; ⟨v, e1, r1.mono h⟩⟩
theorem EnvR.wk {env env' : Env} {σ : L2.St} (r : EnvR D F env σ) (h : Ewk env' env) : EnvR D F env' σ := by
  have key : ∀ (e' e : Env), Ewk e' e → e'.length = e.length ∧ ∀ (i : Nat) (t : T), e'[i]? = some (some t) → e[i]? = some (some t) := by
    intro e'
    induction e' with
    | nil => intro e h; cases e with
      | nil => exact ⟨rfl, fun i t q => by simp at q⟩
      | cons _ _ => exact h.elim
    | cons x e' ih =>
      intro e h
      cases e with
      | nil => cases x <;> exact h.elim
      | cons y e =>
        cases x with
        | none =>
          obtain ⟨h1, h2⟩ := ih e h
          refine ⟨by simp [h1], fun i t q => ?_⟩
          cases i with
          | zero => simp at q
          | succ i => simpa using h2 i t (by simpa using q)
        | some x =>
          cases y with
          | none => exact h.elim
          | some y =>
            obtain ⟨e1, h⟩ := h
            subst e1
            obtain ⟨h1, h2⟩ := ih e h
            refine ⟨by simp [h1], fun i t q => ?_⟩
            cases i with
            | zero => simpa using q
            | succ i => simpa using h2 i t (by simpa using q)
  obtain ⟨h1, h2⟩ := key _ _ h
  exact ⟨h1.trans r.1, fun i t e => r.2 i t (h2 i t e)⟩
theorem EnvR.set {env : Env} {σ : L2.St} {i : Nat} {t : T} {v : L2.V} (r : EnvR D F env σ) (q : RepV D F t v) : EnvR D F (env.set i (some t)) (σ.set i (some v)) := by
  refine ⟨by rw [List.length_set, List.length_set]; exact r.1, fun j u e => ?_⟩
  by_cases hj : i = j
  · subst hj
    by_cases hl : i < env.length
    · rw [List.getElem?_set_self hl] at e
      cases e
      exact ⟨v, by rw [List.getElem?_set_self (by rw [← r.1]; exact hl)], q⟩
    · rw [List.getElem?_eq_none (by rw [List.length_set]; omega)] at e; cases e
  · rw [List.getElem?_set_ne hj] at e ⊢
    exact r.2 j u e
theorem EnvR.get {env : Env} {σ : L2.St} {i : Nat} {t : T} (r : EnvR D F env σ) (e : env.getD i none = some t) : ∃ v, σ[i]? = some (some v) ∧ RepV D F t v := by
  refine r.2 i t ?_
  rw [List.getD_eq_getElem?_getD] at e
  cases h : env[i]? with
  | none => rw [h] at e; simp at e
  | some o => rw [h] at e; simp at e; rw [e]
theorem EnvR.wipe {env : Env} {σ : L2.St} {own : List Nat} (r : EnvR D F env σ) : EnvR D F (Mo.wipe env own) (L2.wipe σ own) := by
  have key : ∀ (own : List Nat) (env : Env), (Mo.wipe env own).length = env.length ∧ ∀ (i : Nat) (t : T), (Mo.wipe env own)[i]? = some (some t) → env[i]? = some (some t) ∧ i ∉ own := by
    intro own
    induction own with
    | nil => intro env; exact ⟨rfl, fun i t e => ⟨e, by simp⟩⟩
    | cons x own ih =>
      intro env
      obtain ⟨h1, h2⟩ := ih (env.set x none)
      refine ⟨by unfold Mo.wipe at h1 ⊢; rw [List.foldl_cons, h1, List.length_set], fun i t e => ?_⟩
      obtain ⟨e1, n1⟩ := h2 i t (by unfold Mo.wipe at e ⊢; rw [List.foldl_cons] at e; exact e)
      by_cases hx : x = i
      · subst hx
        by_cases hl : x < env.length
        · rw [List.getElem?_set_self hl] at e1; cases e1
        · rw [List.getElem?_eq_none (by rw [List.length_set]; omega)] at e1; cases e1
      · rw [List.getElem?_set_ne hx] at e1
        exact ⟨e1, by simp only [List.mem_cons, not_or]; exact ⟨fun z => hx z.symm, n1⟩⟩
  have key2 : ∀ (own : List Nat) (σ : L2.St) (i : Nat), i ∉ own → (L2.wipe σ own)[i]? = σ[i]? := by
    intro own
    induction own with
    | nil => intro σ i _; rfl
    | cons x own ih =>
      intro σ i hi
      simp only [List.mem_cons, not_or] at hi
      show ((L2.wipe σ own).set x none)[i]? = _
      rw [List.getElem?_set_ne (fun z => hi.1 z.symm)]
      exact ih σ i hi.2
  obtain ⟨h1, h2⟩ := key own env
  refine ⟨h1.trans (r.1.trans (L2.wipe_length σ own).symm), fun i t e => ?_⟩
  obtain ⟨e1, n1⟩ := h2 i t e
  rw [key2 own σ i n1]
  exact r.2 i t e1
theorem DeckAt.mono (d : DeckAt B H F st a) (h : B ≤ B') : DeckAt B' H F st a := by
  obtain ⟨b, c, k, ns, ms, h1, h2, h3, h4, h5, h6, h7⟩ := d
  exact ⟨b, c, k, ns, ms, h1, h2, h3, h4, h5, by omega, h7⟩
theorem Sim.more (s : Sim D B H F st) (h : B ≤ B') : Sim D B' H F st :=
  ⟨s.fr, fun a o e => ⟨(s.ob a o e).1, by
    have q := (s.ob a o e).2
    cases o with
    | lst ts => exact q
    | dct _ => exact q
    | deck => exact DeckAt.mono q h⟩, s.dk⟩
theorem Sim.sub (s : Sim D B H F st) (h : Sub st' st) : Sim D B H F st' :=
  ⟨s.fr, fun a o e => ⟨(s.ob a o (h a o e)).1, by
    have q := (s.ob a o (h a o e)).2
    cases o with
    | lst ts => exact q
    | dct _ => exact q
    | deck =>
      obtain ⟨b, c, k, ns, ms, h1, h2, h3, h4, h5, h6, h7, h8, h9, h10, h11, h12⟩ := q
      have sn : ∀ x, st x = none → st' x = none := fun x e => by
        cases z : st' x with
        | none => rfl
        | some o => rw [h x o z] at e; cases e
      exact ⟨b, c, k, ns, ms, h1, h2, h3, h4, h5, h6, h7, h8, h9, sn b h10, sn c h11, h12⟩⟩, fun a b x y => s.dk a b (h _ _ x) (h _ _ y)⟩
theorem Sim.noF (s : Sim D B H F st) (h : H a = none) : F a = none := by
  cases e : F a with
  | none => rfl
  | some o => rw [s.fr a o e] at h; cases h

theorem Sim.alloc (s : Sim D B H F st) {p : Addr} (o : L2.HO) (hp : H p = none) : Sim D B (L2.upd H p o) F st := by
  have ne : ∀ b u, H b = some u → L2.upd H p o b = some u := fun b u e => by
    rw [L2.upd_ne (fun z => by rw [z, hp] at e; cases e)]; exact e
  refine ⟨fun a u e => ne a u (s.fr a u e), fun a u e => ⟨(s.ob a u e).1, ?_⟩, s.dk⟩
  have q := (s.ob a u e).2
  cases u with
  | lst ts =>
    obtain ⟨xs, h1, h2⟩ := q
    exact ⟨xs, ne _ _ h1, h2⟩
  | dct _ => exact q
  | deck =>
    obtain ⟨b, c, k, ns, ms, h1, h2, h3, h4⟩ := q
    exact ⟨b, c, k, ns, ms, ne _ _ h1, ne _ _ h2, ne _ _ h3, h4⟩
theorem same_upd {F : L2.Hp} {p : Addr} {o : L2.HO} (h : F p = none) : L2.Same F (L2.upd F p o) := fun b x e => by
  rw [L2.upd_ne (fun z => by rw [z, h] at e; cases e)]; exact e
theorem upd_apart {H : L2.Hp} {p b : Addr} {u : L2.HO} (hp : H p = none) (hb : H b = some u) : b ≠ p := fun z => by rw [z, hp] at hb; cases hb
theorem Sim.there (s : Sim D B H F st) {a : Addr} {o : O} (e : st a = some o) : ∃ u, H a = some u := by
  have q := (s.ob a o e).2
  cases o with
  | lst ts => obtain ⟨xs, h1, _⟩ := q; exact ⟨_, h1⟩
  | dct _ => exact q.elim
  | deck => obtain ⟨b, c, k, ns, ms, h1, _⟩ := q; exact ⟨_, h1⟩
theorem Sim.stNone (s : Sim D B H F st) {p : Addr} (hp : H p = none) : st p = none := by
  cases e : st p with
  | none => rfl
  | some o => obtain ⟨u, z⟩ := s.there e; rw [hp] at z; cases z
/-- a new thing that stays as it is -/
theorem Sim.know (s : Sim D B H F st) {p : Addr} (o : L2.HO) (hp : H p = none) : Sim D B (L2.upd H p o) (L2.upd F p o) st := by
  have s1 := s.alloc o hp
  have hF := s.noF hp
  have sm : L2.Same F (L2.upd F p o) := same_upd hF
  have np := s.stNone hp
  refine ⟨fun a u e => ?_, fun a u e => ?_, s.dk⟩
  · by_cases z : a = p
    · subst z; rw [L2.upd_same] at e ⊢; exact e
    · rw [L2.upd_ne z] at e; exact s1.fr a u e
  · have za : a ≠ p := fun z => by rw [z, np] at e; cases e
    obtain ⟨f, q⟩ := s1.ob a u e
    refine ⟨by rw [L2.upd_ne za]; exact f, ?_⟩
    cases u with
    | lst ts =>
      obtain ⟨xs, h1, h2⟩ := q
      exact ⟨xs, h1, h2.mono sm _ _⟩
    | dct _ => exact q
    | deck =>
      obtain ⟨_, q0⟩ := s.ob a _ e
      obtain ⟨b0, c0, k0, ns0, ms0, g1, g2, g3, _⟩ := q0
      obtain ⟨b, c, k, ns, ms, h1, h2, h3, h4, h5, h6, h7, h8, h9, h10, h11, h12, h13⟩ := q
      have e0 : H a = L2.upd H p o a := (L2.upd_ne za).symm
      rw [g1, h1] at e0
      have e1 : b0 = b ∧ c0 = c := by
        simp only [Option.some.injEq, L2.HO.lst.injEq, List.cons.injEq, L2.V.ref.injEq] at e0
        exact ⟨e0.1, e0.2.1⟩
      obtain ⟨rfl, rfl⟩ := e1
      exact ⟨b0, c0, k, ns, ms, h1, h2, h3, h4, h5, h6, h7, h8, h9, h10, h11, by rw [L2.upd_ne (upd_apart hp g2)]; exact h12, by rw [L2.upd_ne (upd_apart hp g3)]; exact h13⟩
/-- a new list that may change -/
theorem Sim.newL (s : Sim D B H F st) {p : Addr} {xs : List L2.V} {ts : List T} (hp : H p = none) (r : RepVs D F ts xs) : Sim D B (L2.upd H p (.lst xs)) F (upd st p (.lst ts)) := by
  have s1 := s.alloc (.lst xs) hp
  have hF := s.noF hp
  have np := s.stNone hp
  refine ⟨s1.fr, fun a u e => ?_, fun a b x y => ?_⟩
  · by_cases z : a = p
    · subst z
      rw [upd_same] at e; cases e
      exact ⟨hF, xs, L2.upd_same, r⟩
    · rw [upd_ne z] at e
      obtain ⟨f, q⟩ := s1.ob a u e
      refine ⟨f, ?_⟩
      cases u with
      | lst ts => exact q
      | dct _ => exact q
      | deck =>
        obtain ⟨_, q0⟩ := s.ob a _ e
        obtain ⟨b0, c0, k0, ns0, ms0, g1, g2, g3, _⟩ := q0
        obtain ⟨b, c, k, ns, ms, h1, h2, h3, h4, h5, h6, h7, h8, h9, h10, h11, h12, h13⟩ := q
        have e0 : H a = L2.upd H p (.lst xs) a := (L2.upd_ne z).symm
        rw [g1, h1] at e0
        have e1 : b0 = b ∧ c0 = c := by
          simp only [Option.some.injEq, L2.HO.lst.injEq, List.cons.injEq, L2.V.ref.injEq] at e0
          exact ⟨e0.1, e0.2.1⟩
        obtain ⟨rfl, rfl⟩ := e1
        exact ⟨b0, c0, k, ns, ms, h1, h2, h3, h4, h5, h6, h7, h8, h9, by rw [upd_ne (upd_apart hp g2)]; exact h10, by rw [upd_ne (upd_apart hp g3)]; exact h11, h12, h13⟩
  · have za : a ≠ p := fun z => by subst z; rw [upd_same] at x; cases x
    have zb : b ≠ p := fun z => by subst z; rw [upd_same] at y; cases y
    rw [upd_ne za] at x
    rw [upd_ne zb] at y
    exact s.dk a b x y
/-- a list changes -/
theorem Sim.setL (s : Sim D B H F st) {p : Addr} {us : List T} {xs : List L2.V} {ts : List T} (hp : st p = some (.lst us)) (r : RepVs D F ts xs) : Sim D B (L2.upd H p (.lst xs)) F (upd st p (.lst ts)) := by
  obtain ⟨fp, ys, hH, _⟩ := s.ob p _ hp
  refine ⟨fun a u e => ?_, fun a u e => ?_, fun a b x y => ?_⟩
  · have z : a ≠ p := fun z => by rw [z, fp] at e; cases e
    rw [L2.upd_ne z]; exact s.fr a u e
  · by_cases z : a = p
    · subst z
      rw [upd_same] at e; cases e
      exact ⟨fp, xs, L2.upd_same, r⟩
    · rw [upd_ne z] at e
      obtain ⟨f, q⟩ := s.ob a u e
      refine ⟨f, ?_⟩
      cases u with
      | lst ts =>
        obtain ⟨zs, h1, h2⟩ := q
        exact ⟨zs, by rw [L2.upd_ne z]; exact h1, h2⟩
      | dct _ => exact q
      | deck =>
        obtain ⟨b, c, k, ns, ms, h1, h2, h3, h4, h5, h6, h7, h8, h9, h10, h11, h12, h13⟩ := q
        have zb : b ≠ p := fun q => by rw [q, hp] at h10; cases h10
        have zc : c ≠ p := fun q => by rw [q, hp] at h11; cases h11
        exact ⟨b, c, k, ns, ms, by rw [L2.upd_ne z]; exact h1, by rw [L2.upd_ne zb]; exact h2, by rw [L2.upd_ne zc]; exact h3, h4, h5, h6, h7, h8, h9, by rw [upd_ne zb]; exact h10, by rw [upd_ne zc]; exact h11, h12, h13⟩
  · have za : a ≠ p := fun z => by subst z; rw [upd_same] at x; cases x
    have zb : b ≠ p := fun z => by subst z; rw [upd_same] at y; cases y
    rw [upd_ne za] at x
    rw [upd_ne zb] at y
    exact s.dk a b x y
theorem Sim.lst (s : Sim D B H F st) {a : Addr} {ts : List T} (e : st a = some (.lst ts)) : ∃ xs, H a = some (.lst xs) ∧ RepVs D F ts xs := (s.ob a _ e).2
theorem keep_updL {F : L2.Hp} {p : Addr} {xs : List L2.V} {o : L2.HO} (h : F p = some (.lst xs)) : Keep F (L2.upd F p o) := fun b x e n => by
  by_cases z : b = p
  · subst z; rw [h] at e; cases e; exact absurd rfl (n xs)
  · rw [L2.upd_ne z]; exact e
/-- F without p -/
def cut (F : L2.Hp) (p : Addr) : L2.Hp := fun b => if b = p then none else F b
theorem cut_same {F : L2.Hp} {p : Addr} : cut F p p = none := by simp [cut]
theorem cut_ne {F : L2.Hp} {p b : Addr} (h : b ≠ p) : cut F p b = F b := by simp [cut, h]
theorem keep_cut {F : L2.Hp} {p : Addr} {xs : List L2.V} (h : F p = some (.lst xs)) : Keep F (cut F p) := fun b x e n => by
  by_cases z : b = p
  · subst z; rw [h] at e; cases e; exact absurd rfl (n xs)
  · rw [cut_ne z]; exact e
theorem Sim.stF (s : Sim D B H F st) {p : Addr} {o : L2.HO} (h : F p = some o) : st p = none := by
  cases e : st p with
  | none => rfl
  | some u => rw [(s.ob p u e).1] at h; cases h
/-- a known list changes -/
theorem Sim.setF (s : Sim D B H F st) {p : Addr} {xs ys : List L2.V} (h : F p = some (.lst xs)) : Sim D B (L2.upd H p (.lst ys)) (L2.upd F p (.lst ys)) st := by
  have np := s.stF h
  have sm : Keep F (L2.upd F p (.lst ys)) := keep_updL h
  refine ⟨fun a u e => ?_, fun a u e => ?_, s.dk⟩
  · by_cases z : a = p
    · subst z; rw [L2.upd_same] at e ⊢; exact e
    · rw [L2.upd_ne z] at e ⊢; exact s.fr a u e
  · have za : a ≠ p := fun z => by rw [z, np] at e; cases e
    obtain ⟨f, q⟩ := s.ob a u e
    refine ⟨by rw [L2.upd_ne za]; exact f, ?_⟩
    cases u with
    | lst ts =>
      obtain ⟨xs, h1, h2⟩ := q
      exact ⟨xs, by rw [L2.upd_ne za]; exact h1, h2.keep sm⟩
    | dct _ => exact q
    | deck =>
      obtain ⟨b, c, k, ns, ms, h1, h2, h3, h4, h5, h6, h7, h8, h9, h10, h11, h12, h13⟩ := q
      have zb : b ≠ p := fun z => by rw [z, h] at h12; cases h12
      have zc : c ≠ p := fun z => by rw [z, h] at h13; cases h13
      exact ⟨b, c, k, ns, ms, by rw [L2.upd_ne za]; exact h1, by rw [L2.upd_ne zb]; exact h2, by rw [L2.upd_ne zc]; exact h3, h4, h5, h6, h7, h8, h9, h10, h11, by rw [L2.upd_ne zb]; exact h12, by rw [L2.upd_ne zc]; exact h13⟩
/-- a known list becomes one that may change -/
theorem Sim.free (s : Sim D B H F st) {p : Addr} {xs : List L2.V} {ts : List T} (h : F p = some (.lst xs)) (r : RepVs D F ts xs) : Sim D B H (cut F p) (upd st p (.lst ts)) := by
  have np := s.stF h
  have sm : Keep F (cut F p) := keep_cut h
  refine ⟨fun a u e => ?_, fun a u e => ?_, fun a b x y => ?_⟩
  · have z : a ≠ p := fun z => by rw [z, cut_same] at e; cases e
    rw [cut_ne z] at e; exact s.fr a u e
  · by_cases z : a = p
    · subst z
      rw [upd_same] at e; cases e
      exact ⟨cut_same, xs, s.fr _ _ h, r.keep sm⟩
    · rw [upd_ne z] at e
      obtain ⟨f, q⟩ := s.ob a u e
      refine ⟨by rw [cut_ne z]; exact f, ?_⟩
      cases u with
      | lst ts =>
        obtain ⟨xs, h1, h2⟩ := q
        exact ⟨xs, h1, h2.keep sm⟩
      | dct _ => exact q
      | deck =>
        obtain ⟨b, c, k, ns, ms, h1, h2, h3, h4, h5, h6, h7, h8, h9, h10, h11, h12, h13⟩ := q
        have zb : b ≠ p := fun z => by rw [z, h] at h12; cases h12
        have zc : c ≠ p := fun z => by rw [z, h] at h13; cases h13
        exact ⟨b, c, k, ns, ms, h1, h2, h3, h4, h5, h6, h7, h8, h9, by rw [upd_ne zb]; exact h10, by rw [upd_ne zc]; exact h11, by rw [cut_ne zb]; exact h12, by rw [cut_ne zc]; exact h13⟩
  · have za : a ≠ p := fun z => by subst z; rw [upd_same] at x; cases x
    have zb : b ≠ p := fun z => by subst z; rw [upd_same] at y; cases y
    rw [upd_ne za] at x
    rw [upd_ne zb] at y
    exact s.dk a b x y
theorem same_cut {F0 F : L2.Hp} {p : Addr} (h : L2.Same F0 F) (n : F0 p = none) : L2.Same F0 (cut F p) := fun b x e => by
  rw [cut_ne (fun z => by rw [z, n] at e; cases e)]; exact h b x e
theorem same_updN {F0 F : L2.Hp} {p : Addr} {o : L2.HO} (h : L2.Same F0 F) (n : F0 p = none) : L2.Same F0 (L2.upd F p o) := fun b x e => by
  rw [L2.upd_ne (fun z => by rw [z, n] at e; cases e)]; exact h b x e
theorem Sim.same (s : Sim D B H F st) : L2.Same F H := s.fr
end
end Mo

set_option Elab.async false
set_option linter.all false
set_option maxRecDepth 100000
set_option autoImplicit false
namespace Mo
open PySem PyProof.Rows

/-- the text's own names -/
structure SE where
  fns : List Str
  cons : List Str
  blt : List Str

def mapO {α β : Type} (f : α → Option β) : List α → Option (List β)
  | [] => some []
  | x :: xs => match f x with
    | some y => match mapO f xs with
      | some ys => some (y :: ys)
      | none => none
    | none => none

def isV (sc : Scope) (x : Str) : Bool := match sc.names.lookup x with
  | some .local => true
  | some .cell => true
  | some .free => true
  | _ => false
def isG (sc : Scope) (x : Str) : Bool := match sc.names.lookup x with
  | some .globalImplicit => true
  | _ => false
def isL (sc : Scope) (x : Str) : Bool := match sc.names.lookup x with
  | some .local => true
  | some .cell => true
  | _ => false
def okN (x : Str) : Bool := !(x == ("__debug__" : Str)) && !(x == ("__classdict__" : Str))
def slot (N : List Str) (x : Str) : Option Nat := N.idxOf? x

def opO : Operator → Option Op
  | .Add => some .add
  | .Sub => some .sub
  | .Mult => some .mul
  | .FloorDiv => some .fdiv
  | .Mod => some .mod
  | .Pow => some .pow
  | _ => none
def coO : CmpOp → Option Co
  | .Eq => some .eq
  | .NotEq => some .ne
  | .Lt => some .lt
  | .LtE => some .le
  | .Gt => some .gt
  | .GtE => some .ge
  | .Is => some .is
  | .IsNot => some .isnot
  | .In => some .isin
  | .NotIn => some .notin
def tyO (x : Str) : Option Ty :=
  if x == ("int" : Str) then some .int else if x == ("bool" : Str) then some .bool else if x == ("str" : Str) then some .str else if x == ("tuple" : Str) then some .tuple else none

inductive BK | bi (f : Bi) | li (f : Li) | mm (f : Bi) (g : Li) | srt | isi | no
  deriving DecidableEq
/-- a built-in by its name -/
def bkO (x : Str) : BK :=
  if x == ("len" : Str) then .mm .len .len
  else if x == ("tuple" : Str) then .li .tuple
  else if x == ("int" : Str) then .bi .int
  else if x == ("isinstance" : Str) then .isi
  else if x == ("max" : Str) then .mm .max2 .max
  else if x == ("min" : Str) then .mm .min2 .min
  else if x == ("sum" : Str) then .li .sum
  else if x == ("all" : Str) then .li .all
  else if x == ("any" : Str) then .li .any
  else if x == ("abs" : Str) then .bi .abs
  else if x == ("repr" : Str) then .bi .repr
  else if x == ("list" : Str) then .li .list
  else if x == ("sorted" : Str) then .srt
  else if x == ("divmod" : Str) then .bi .divmod
  else .no
def meO (x : Str) (n : Nat) : Option Me :=
  if x == ("append" : Str) && n == 1 then some .append
  else if x == ("pop" : Str) && n ≤ 1 then some .pop
  else none

/-- a target: names as the scope stores them -/
def stripT (N : List Str) (sc : Scope) : Nat → Expr → Option Tg
  | 0, _ => none
  | n + 1, .Name x _ => if isL sc x then (slot N x).map .name else none
  | n + 1, .Tuple es _ _ => (mapO (stripT N sc n) es).map .tup
  | _ + 1, _ => none

def ownO (N : List Str) (scope : Scope) : List (Str × Nat) :=
  scope.names.filterMap fun y => match y.2 with
    | .local => (slot N y.1).map fun i => (y.1, i)
    | .cell => (slot N y.1).map fun i => (y.1, i)
    | _ => none

def isComp : Expr → Bool
  | .ListComp .. => true
  | .List .. => true
  | _ => false

mutual
/-- the places a target fills -/
def slots : Tg → List Nat
  | .name i => [i]
  | .tup ts => slotss ts
def slotss : List Tg → List Nat
  | [] => []
  | t :: ts => slots t ++ slotss ts
end
def nameE (g : SE) (N : List Str) (sc : Scope) (x : Str) : Option X :=
  if okN x then
    if isV sc x then (slot N x).map .var
    else if isG sc x then match g.cons.idxOf? x with
      | some i => some (.glob i)
      | none => (g.fns.idxOf? x).map .fnv
    else none
  else none
def bltN (g : SE) (sc : Scope) (x : Str) : Bool := okN x && isG sc x && g.blt.contains x
/-- a built-in called by name -/
def callB (g : SE) (sc : Scope) (rE : Expr → Option X) (rL : Expr → Option L) (x : Str) (es : List Expr) : Option X :=
  match bkO x, es with
  | .bi f, [e] => (mapO rE [e]).map (.bi f)
  | .bi f, [e, e2] => (mapO rE [e, e2]).map (.bi f)
  | .li f, [e] => if isComp e || (match f with | .tuple => true | .list => true | _ => false) then (rL e).map (.li f) else none
  | .mm f l, [e] => if isComp e then (rL e).map (.li l) else (match l with
    | .len => (rE e).map fun x => .bi f [x]
    | _ => none)
  | .mm f l, [e, e2] => (mapO rE [e, e2]).map (.bi f)
  | .srt, [e] => if isComp e then (rL e).map fun l => .new (.srt l) else (rE e).map fun x => .new (.srtE x)
  | .isi, [e, .Name t _] => match tyO t, rE e with
    | some ty, some x => if bltN g sc t then some (.isi x ty) else none
    | _, _ => none
  | _, _ => none
def callN (g : SE) (N : List Str) (sc : Scope) (rE : Expr → Option X) (rL : Expr → Option L) (x : Str) (es : List Expr) : Option X :=
  if okN x then
    if isV sc x then (if es.isEmpty then none else match slot N x, mapO rE es with
      | some i, some xs => some (.callv i xs)
      | _, _ => none)
    else if isG sc x then match g.fns.idxOf? x with
      | some i => (mapO rE es).map (.call i)
      | none => if bltN g sc x then callB g sc rE rL x es else none
    else none
  else none
def isBI (o : Expr) : Bool := match o with
  | .Call (.Name _ _) [] [] _ => true
  | _ => false
/-- a method called -/
def callM (rE : Expr → Option X) (rL : Expr → Option L) (o : Expr) (m : Str) (ap pos : Pos) (es : List Expr) : Option X :=
  if ap.endLine == pos.line && es.length < 20 && !isBI o then
    if m == ("join" : Str) then match es with
      | [e] => match rE o, rL e with
        | some x, some l => some (.join x l)
        | _, _ => none
      | _ => none
    else match meO m es.length, rE o, mapO rE es with
      | some k, some x, some xs => some (.me k x xs)
      | _, _, _ => none
  else none
def subE (rE : Expr → Option X) (rO : Option Expr → Option (Option X)) (a i : Expr) : Option X :=
  match i with
  | .Slice lo hi st _ => match st with
    | none => match rE a, rO lo, rO hi with
      | some x, some l, some h => some (.slc x l h)
      | _, _, _ => none
    | some (.UnaryOp .USub (.Constant (.int 1) _ _) _) => match lo, hi, rE a with
      | none, none, some x => some (.rev x)
      | _, _, _ => none
    | _ => none
  | i => match rE a, rE i with
    | some x, some y => some (.idx x y)
    | _, _ => none
/-- what a loop goes through -/
def srcR (g : SE) (sc : Scope) (rE : Expr → Option X) (rL : Expr → Option L) (tg e : Expr) : Option Sr :=
  match e with
  | .Call (.Name x _) es [] _ =>
    if bltN g sc x && (x == ("range" : Str) || x == ("enumerate" : Str) || x == ("zip" : Str)) then
      if x == ("range" : Str) then (match es with
        | [_] => (mapO rE es).map .range
        | [_, _] => (mapO rE es).map .range
        | _ => none)
      else match tg with
      | .Tuple _ _ _ =>
        if x == ("enumerate" : Str) then match es with
          | [a] => (rL a).map .enum
          | _ => none
        else (match es with
          | [_, _] => (mapO rL es).map .zip
          | [_, _, _] => (mapO rL es).map .zip
          | _ => none)
      | _ => none
    else (rL e).map .seq
  | .Set _ _ _ => none
  | e => (rL e).map .seq
mutual
def stripE (g : SE) (N : List Str) : Nat → Scope → Expr → Option X
  | 0, _, _ => none
  | n + 1, sc, e => match e with
    | .Constant c _ _ => match c with
      | .int i => some (.int i)
      | .str s => some (.str s.cps.toList)
      | .bool b => some (.bl b)
      | .none => some .non
      | _ => none
    | .Name x _ => nameE g N sc x
    | .BinOp a op b _ => match opO op, stripE g N n sc a, stripE g N n sc b with
      | some o, some x, some y => some (.bin o x y)
      | _, _, _ => none
    | .UnaryOp op a _ => match op, stripE g N n sc a with
      | .Not, some x => some (.not x)
      | .USub, some x => some (.neg x)
      | _, _ => none
    | .BoolOp op vs _ => stripB g N n sc op vs
    | .IfExp c a b _ => match stripE g N n sc c, stripE g N n sc a, stripE g N n sc b with
      | some z, some x, some y => some (.ite z x y)
      | _, _, _ => none
    | .Compare a ops bs _ => match ops, bs with
      | [op], [b] => match coO op, stripE g N n sc a, stripE g N n sc b with
        | some o, some x, some y => some (.cmp o x y)
        | _, _, _ => none
      | [op, op2], [b, c] => match coO op, coO op2, stripE g N n sc a, stripE g N n sc b, stripE g N n sc c with
        | some o, some p, some x, some y, some z => some (.chain o p x y z)
        | _, _, _, _, _ => none
      | _, _ => none
    | .Tuple es _ _ => if es.length ≤ 1000 then (mapO (stripE g N n sc) es).map .tup else none
    | .List es _ => if es.length ≤ 1000 then (mapO (stripE g N n sc) es).map fun xs => .new (.lst xs) else none
    | .ListComp elt gens scope _ => (stripC g N n sc elt gens scope).map .new
    | .Subscript a i _ => subE (stripE g N n sc) (stripO g N n sc) a i
    | .Call f es kw pos => match kw with
      | [] => match f with
        | .Name x _ => callN g N sc (stripE g N n sc) (stripL g N n sc) x es
        | .Attribute o m ap => callM (stripE g N n sc) (stripL g N n sc) o m ap pos es
        | _ => none
      | _ => none
    | _ => none
def stripB (g : SE) (N : List Str) : Nat → Scope → BoolOp → List Expr → Option X
  | 0, _, _, _ => none
  | n + 1, sc, op, [e] => stripE g N n sc e
  | n + 1, sc, op, e :: es => match stripE g N n sc e, stripB g N n sc op es with
    | some x, some y => some (match op with | .And => .and x y | .Or => .or x y)
    | _, _ => none
  | _ + 1, _, _, [] => none
def stripO (g : SE) (N : List Str) : Nat → Scope → Option Expr → Option (Option X)
  | 0, _, _ => none
  | _ + 1, _, none => some none
  | n + 1, sc, some e => (stripE g N n sc e).map some
def stripL (g : SE) (N : List Str) : Nat → Scope → Expr → Option L
  | 0, _, _ => none
  | n + 1, sc, e => match e with
    | .ListComp elt gens scope _ => stripC g N n sc elt gens scope
    | .List es _ => if es.length ≤ 1000 then (mapO (stripE g N n sc) es).map .lst else none
    | e => (stripE g N n sc e).map .ex
def stripC (g : SE) (N : List Str) : Nat → Scope → Expr → List Comprehension → Scope → Option L
  | 0, _, _, _, _ => none
  | n + 1, sc, elt, gens, scope => match gens with
    | [⟨tg, iter, ifs, a⟩] =>
      if a = 0 ∧ L2.blkC N sc scope (ownO N scope) = true then
        match stripR g N n sc tg iter, stripT N scope n tg, mapO (stripE g N n (L2.relS scope sc)) ifs, stripE g N n (L2.relS scope sc) elt with
        | some src, some t, some cs, some x => if cs.length ≤ 1 && (slots t).all (fun i => ((ownO N scope).map (·.2)).contains i) then some (.comp x cs t ((ownO N scope).map (·.2)) src) else none
        | _, _, _, _ => none
      else none
    | _ => none
def stripR (g : SE) (N : List Str) : Nat → Scope → Expr → Expr → Option Sr
  | 0, _, _, _ => none
  | n + 1, sc, tg, e => srcR g sc (stripE g N n sc) (stripL g N n sc) tg e
end

/-- the stores of a, b = x, y -/
def parO (N : List Str) (sc : Scope) : List Expr → Option (List Nat)
  | [] => some []
  | .Name x _ :: es => match sc.names.lookup x, slot N x, parO N sc es with
    | some .local, some i, some is => some (i :: is)
    | _, _, _ => none
  | _ :: _ => none
/-- target = value -/
def asgO (N : List Str) (sc : Scope) (n : Nat) (rE : Expr → Option X) (t e : Expr) : Option Sm :=
  match t with
  | .Name y _ => if isL sc y then match slot N y, rE e with
      | some i, some x => some (.set (.name i) x)
      | _, _ => none
    else none
  | .Tuple ts k tp => match e with
    | .Tuple es _ _ => match ts, es with
      | [.Name x px, .Name y py], [a, b] => match parO N sc ts, mapO rE [a, b] with
        | some [i, j], some xs => if decide (i ≠ j) && !([a, b].all (foldedForSure 8)) && !([a, b].all (constantsAlone 8)) && py.line == px.line then some (.par [i, j] xs) else none
        | _, _ => none
      | _, _ => none
    | e => match stripT N sc n (.Tuple ts k tp), rE e with
      | some t, some x => some (.set t x)
      | _, _ => none
  | .Subscript o i _ => match rE o, rE i, rE e with
    | some x, some y, some z => some (.sub x y z)
    | _, _, _ => none
  | _ => none
mutual
def stripS (g : SE) (N : List Str) (sc : Scope) : Nat → Stmt → Option Sm
  | 0, _ => none
  | n + 1, s => match s with
    | .Return e _ => match e with
      | none => some (.ret none)
      | some e => (stripE g N n sc e).map fun x => .ret (some x)
    | .Assign ts e pos => match ts with
      | [t] => asgO N sc n (stripE g N n sc) t e
      | _ => none
    | .AugAssign t op e _ => match t with
      | .Name y _ => if isL sc y then match slot N y, opO op, stripE g N n sc e with
        | some i, some o, some x => if (o = .add ∨ o = .sub) ∨ o = .mul then some (.aug i o x) else none
        | _, _, _ => none
        else none
      | _ => none
    | .Expr e _ => if isComp e then none else (stripE g N n sc e).map .ex
    | .If c a b _ => match stripE g N n sc c, stripSs g N sc n a, stripSs g N sc n b with
      | some x, some y, some z => some (.cond x y z)
      | _, _, _ => none
    | .For t i b els _ => match els with
      | [] => match stripT N sc n t, stripR g N n sc t i, stripSs g N sc n b with
        | some x, some y, some z => some (.loop x y z)
        | _, _, _ => none
      | _ => none
    | .While c b els _ => match els with
      | [] => match stripE g N n sc c, stripSs g N sc n b with
        | some x, some y => some (.whl x y)
        | _, _ => none
      | _ => none
    | .Pass _ => some .pass
    | _ => none
def stripSs (g : SE) (N : List Str) (sc : Scope) : Nat → List Stmt → Option (List Sm)
  | 0, _ => none
  | n + 1, ss => match ss with
    | [] => some []
    | s :: ss => match stripS g N sc n s, stripSs g N sc n ss with
      | some x, some xs => some (x :: xs)
      | _, _ => none
end
end Mo

set_option Elab.async false
set_option linter.all false
set_option maxRecDepth 100000
set_option autoImplicit false
namespace Mo
open PySem PyProof.Rows
open L2 (Inv EP RelV Vals OpR UnR CallR VK R2)

/-- what is wanted behind, of the model, where R is wanted of ours -/
def End (D : Wd) (B : Nat) (F : L2.Hp) (R : TK) (Q : VK) : Prop :=
  ∀ t st, R t st → ∀ v H' F', L2.Same F F' → Sim D B H' F' st → RepV D F' t v → Q v H'
def r2 (D : Wd) (w : T → T → St → TK → Prop) : R2 := fun x y H Q =>
  ∃ t u st B F R, RepV D F t x ∧ RepV D F u y ∧ Sim D B H F st ∧ w t u st R ∧ End D B F R Q

variable {D : Wd} {X : L2.Cx}

theorem End.here {B : Nat} {F H : L2.Hp} {R : TK} {Q : VK} {t : T} {st : St} {v : L2.V} (e : End D B F R Q) (r : R t st) (s : Sim D B H F st) (q : RepV D F t v) : Q v H :=
  e t st r v H F (L2.Same.refl F) s q
theorem End.tup {B : Nat} {F H : L2.Hp} {R : TK} {Q : VK} {ts : List T} {st : St} {xs : List L2.V} {p : Addr} (e : End D B F R Q) (r : R (.tup ts) st) (s : Sim D B H F st) (hp : H p = none) (q : RepVs D F ts xs) : Q (.ref p) (L2.upd H p (.tup xs)) :=
  e _ st r _ _ (L2.upd F p (.tup xs)) (same_upd (s.noF hp)) (s.know _ hp) ⟨p, xs, rfl, .inl (.inl L2.upd_same), q.mono (same_upd (s.noF hp)) _ _⟩
theorem End.lst {B : Nat} {F H : L2.Hp} {R : TK} {Q : VK} {ts : List T} {st : St} {xs : List L2.V} {p : Addr} (e : End D B F R Q) (r : ∀ p, st p = none → R (.ref p) (upd st p (.lst ts))) (s : Sim D B H F st) (hp : H p = none) (q : RepVs D F ts xs) : Q (.ref p) (L2.upd H p (.lst xs)) :=
  e _ _ (r p (s.stNone hp)) _ _ F (L2.Same.refl F) (s.newL hp q) rfl
theorem Sim.sqL {B : Nat} {H F : L2.Hp} {st : St} {K : PySem.W.Frag} {a : Addr} {ts : List T} (s : Sim D B H F st) (e : st a = some (.lst ts)) : ∃ xs, H a = some (.lst xs) ∧ L2.SqL K H a xs ∧ RepVs D F ts xs := by
  obtain ⟨xs, h, r⟩ := s.lst e
  exact ⟨xs, h, .inl (.inl h), r⟩
theorem Sim.sqT {B : Nat} {H F : L2.Hp} {st : St} {K : PySem.W.Frag} {a : Addr} {xs : List L2.V} (s : Sim D B H F st) (e : L2.SqT K F a xs) : L2.SqT K H a xs := sqT_mono s.fr e

theorem size_eq : SZ = sizeLine := by rw [sizeLine_eq]; rfl

theorem op_same_empty {ts : List T} {F : L2.Hp} {a : Addr} {xs : List L2.V} (h : L2.SqT D.K F a xs) (r : RepVs D F ts xs) : RepV D F (.tup ts) (.ref a) := ⟨a, xs, rfl, h, r⟩

theorem len_append_sz {D : Wd} {F : L2.Hp} {a b : List T} {xs ys : List L2.V} (r1 : RepVs D F a xs) (r2 : RepVs D F b ys) (h : a.length + b.length ≤ SZ) : xs.length + ys.length ≤ sizeLine := by
  rw [← r1.length, ← r2.length, ← size_eq]; exact h

theorem mulOk_w {i j : Int} (h : MulOk i j) : L2.CMulW i j := L2.wide_mul h.1 h.2 (by decide) (by decide) (by decide)

theorem tuple_mul1 (l : Addr) (items : Array Value) (n : Nat) (dd : Option Addr) (sl : Array (Option Value)) (u : Tok) :
    Meets (Builtin.«tuple.__mul__» ⟨[.ref l, .int 1 u], []⟩) (fun _ R s => s.heap.get? l = some { cls := .type "tuple", dict := dd, data := .seq items n, slots := sl } ∧ R (.ok (.ret (Value.ref l))) s) :=
  .of_wp fun prog w A R s h => by
    obtain ⟨hp, g, d, tk, os⟩ := s
    obtain ⟨hl, h⟩ := h
    have f1 := AutoSeq1.idx_int
    wp_walk using wpAny_loadPart' hl
    repeat (first
      | (refine wpAny_ite_false (by decide) ?_; wp_walk using wpAny_loadPart' hl)
      | (refine wpAny_ite_true (by simp) ?_; wp_walk using wpAny_loadPart' hl))
    exact ⟨_, rfl, h⟩
theorem op_rep1 : OpR X (binaryOp .Mult) (fun x y H Q => ∃ l xs, x = .ref l ∧ y = .int 1 ∧ L2.SqT X.K H l xs ∧ xs ≠ [] ∧ Q (.ref l) H) := by
  intro pins s σ H x y v u Q I rx ry h
  obtain ⟨l, xs, rfl, rfl, hT, hne, q⟩ := h
  cases rx
  obtain ⟨t, rfl⟩ := ry
  obtain ⟨its, r, ⟨⟨cls, dd, data, sl⟩, ho, hc, n, hd⟩, hs⟩ := I.tuple hT
  simp only at hc hd
  subst hc hd
  exact wpAny_binaryOp_repeat_ref (T := "tuple") (U := "int") (by decide) ⟨_, ho, rfl⟩ (fun s' => typeIs_int s' 1 t) L2.noFill_tuple_mul F.fills_int_mul F.slot_int_rmul L2.repeat_tuple F.slot_int_index.lookup
    (call_meets F.slot_int_rmul (typeIs_int s 1 t) F.entry_int_rmul (F.args_int_rmul_2 _ _) (L2.int_rmul_tuple 1 t l its.toArray n dd sl)
      ⟨ho, rfl, ⟨_, ho, rfl⟩, call_meets F.slot_tuple_mul ⟨_, ho, rfl⟩ F.entry_tuple_mul (F.args_tuple_mul_2 _ _) (tuple_mul1 l its.toArray n dd sl t) ⟨ho, ⟨.ref l, H, I, rfl, q⟩⟩⟩)

def opX : Op → Operator
  | .add => .Add
  | .sub => .Sub
  | .mul => .Mult
  | .fdiv => .FloorDiv
  | .mod => .Mod
  | .pow => .Pow
theorem opO_eq {op : Operator} {o : Op} (h : opO op = some o) : op = opX o := by
  cases op <;> simp [opO] at h <;> subst h <;> rfl
/-- 0 and 1 times a tuple are not laid anew; told apart below -/
theorem op_bin (hD : D.K = X.K) (o : Op) : OpR X (binaryOp (opX o)) (r2 D fun x y st Q => binSem o x y st Q) := by
  intro pins s σ H x y v u Q I rx ry h
  obtain ⟨t, t', st, B, F, R, q1, q2, sm, w, en⟩ := h
  unfold binSem at w
  split at w
  · cases q1; cases q2
    exact L2.op_add pins s σ H _ _ v u Q I rx ry ⟨_, _, rfl, rfl, en.here w sm rfl⟩
  · cases q1; cases q2
    exact L2.op_sub pins s σ H _ _ v u Q I rx ry ⟨_, _, rfl, rfl, en.here w sm rfl⟩
  · cases q1; cases q2
    exact L2.op_mulW pins s σ H _ _ v u Q I rx ry ⟨_, _, rfl, rfl, mulOk_w w.1, en.here w.2 sm rfl⟩
  · cases q1; cases q2
    obtain ⟨⟨h0, h1⟩, w⟩ := w
    exact L2.op_fdivW pins s σ H _ _ v u Q I rx ry ⟨_, _, rfl, rfl, L2.wide_div (b := 1000) h0 (by omega) (by decide) (by decide), en.here w sm rfl⟩
  · cases q1; cases q2
    exact L2.op_mod pins s σ H _ _ v u Q I rx ry ⟨_, _, rfl, rfl, w.1, en.here w.2 sm rfl⟩
  · cases q1; cases q2
    obtain ⟨⟨h0, h1, h2⟩, w⟩ := w
    exact L2.op_pow pins s σ H _ _ v u Q I rx ry ⟨_, _, rfl, rfl, ⟨h0, by omega, h2⟩, en.here w sm rfl⟩
  · rename_i a b
    cases q1; cases q2
    obtain ⟨hz, w⟩ := w
    have hl : ∀ s : Sg, (cpsS s).length = s.length := fun s => by simp [cpsS, Str.length]
    refine L2.op_add_str pins s σ H _ _ v u Q I rx ry ⟨_, _, rfl, rfl, by rw [hl, hl, ← size_eq]; exact hz, ?_⟩
    have e : cpsS a ++ cpsS b = cpsS (a ++ b) := by
      show Str.mk _ = Str.mk _
      simp [cpsS]
    rw [e]
    exact en.here w sm rfl
  · obtain ⟨a, xs, rfl, sa, ra⟩ := q1
    obtain ⟨b, ys, rfl, sb, rb⟩ := q2
    obtain ⟨hz, w⟩ := w
    rename_i a' b'
    refine L2.op_catA pins s σ H _ _ v u Q I rx ry ⟨a, b, xs, ys, rfl, rfl, sm.sqT (hD ▸ sa), sm.sqT (hD ▸ sb), len_append_sz ra rb hz, fun e => ?_, fun _ e => ?_, fun _ _ p hp => en.tup w sm hp (ra.append rb)⟩
    · subst e
      cases a' with
      | nil => exact en.here w sm ⟨b, ys, rfl, sb, rb⟩
      | cons _ _ => have z := ra.length; simp at z
    · subst e
      cases b' with
      | nil => exact en.here w sm ⟨a, xs, rfl, sa, by simpa using ra⟩
      | cons _ _ => have z := rb.length; simp at z
  · rename_i a' j
    obtain ⟨a, xs, rfl, sa, ra⟩ := q1
    cases q2
    obtain ⟨⟨hn, h0, h1, h2⟩, w⟩ := w
    by_cases hj : j = 1
    · subst hj
      have e : rep (Int.toNat 1) a' = a' := by simp [rep]
      rw [e] at w
      exact op_rep1 pins s σ H _ _ v u Q I rx ry ⟨a, xs, rfl, rfl, sm.sqT (hD ▸ sa), fun z => hn (by have := ra.length; rw [z] at this; exact List.eq_nil_of_length_eq_zero this), en.here w sm ⟨a, xs, rfl, sa, ra⟩⟩
    · exact L2.op_repT pins s σ H _ _ v u Q I rx ry ⟨a, _, xs, rfl, rfl, sm.sqT (hD ▸ sa), fun z => hn (by have := ra.length; rw [z] at this; exact List.eq_nil_of_length_eq_zero this), by omega, h1, by rw [← ra.length]; exact h2, fun p hp => en.tup w sm hp (ra.rep _)⟩
  · cases q1; cases q2
    obtain ⟨xs, ys, e1, e2, hz, w⟩ := w
    obtain ⟨us, h1, _, r1⟩ := sm.sqL (K := X.K) e1
    obtain ⟨ws, h2, _, r2⟩ := sm.sqL (K := X.K) e2
    exact L2.op_cat pins s σ H _ _ v u Q I rx ry ⟨_, _, us, ws, rfl, rfl, h1, h2, len_append_sz r1 r2 hz, fun p hp => en.lst w sm hp (r1.append r2)⟩
  · rename_i j
    cases q1; cases q2
    obtain ⟨xs, e1, ⟨h0, h1, h2⟩, w⟩ := w
    obtain ⟨us, g1, _, r1⟩ := sm.sqL (K := X.K) e1
    refine L2.op_rep pins s σ H _ _ v u Q I rx ry ⟨_, _, us, rfl, rfl, g1, by omega, by omega, ?_, fun p hp => en.lst w sm hp (r1.rep _)⟩
    rw [sizeLine_eq, ← r1.length]
    have : xs.length * j.toNat ≤ 1000 * 1000 := Nat.mul_le_mul h2 (by omega)
    omega
  · exact w.elim
end Mo

set_option Elab.async false
set_option linter.all false
set_option maxRecDepth 100000
set_option autoImplicit false
namespace Mo
open PySem PyProof.Rows
open L2 (Inv EP RelV Vals OpR UnR CallR VK R2)
variable {D : Wd} {X : L2.Cx}

mutual
def toD : T → PyData
  | .non => .none
  | .bl b => .bool b
  | .int i => .int i
  | .str s => .str (cpsS s)
  | .tup ts => .tuple (toDs ts)
  | .lst ts => .list (toDs ts)
  | .dct _ _ => .none
  | .ref _ => .none
  | .fn _ => .none
  | .scr => .none
def toDs : List T → List PyData
  | [] => []
  | t :: ts => toD t :: toDs ts
end
mutual
/-- all data -/
def isD : T → Bool
  | .tup ts => isDs ts
  | .lst ts => isDs ts
  | .ref _ => false
  | .fn _ => false
  | .scr => false
  | .dct _ _ => false
  | _ => true
def isDs : List T → Bool
  | [] => true
  | t :: ts => isD t && isDs ts
end
theorem cps_inj {x y : Sg} : cpsS x = cpsS y ↔ x = y := by
  constructor
  · intro h
    have := congrArg (fun s => s.cps.toList) h
    simpa [cpsS] using this
  · rintro rfl; rfl
theorem cps_beq (x y : Sg) : (cpsS x == cpsS y) = (x == y) := by
  rw [Bool.eq_iff_iff, beq_iff_eq, beq_iff_eq, cps_inj]
mutual
theorem eqT_eqv : ∀ x y : T, isD x = true → isD y = true → eqT x y = PyData.eqv (toD x) (toD y)
  | .non, y, hx, hy => by cases y <;> first | rfl | simp [isD] at hy
  | .bl a, y, hx, hy => by cases y <;> first | rfl | simp [isD] at hy
  | .int a, y, hx, hy => by cases y <;> first | rfl | simp [isD] at hy
  | .str a, y, hx, hy => by
    cases y with
    | str b => simp [eqT, toD, PyData.eqv, cps_beq]
    | _ => first | rfl | simp [isD] at hy
  | .tup xs, y, hx, hy => by
    cases y with
    | tup ys =>
      simp only [eqT, toD, PyData.eqv]
      exact eqTs_eqv xs ys (by simpa [isD] using hx) (by simpa [isD] using hy)
    | _ => first | rfl | simp [isD] at hy
  | .lst xs, y, hx, hy => by
    cases y with
    | lst ys =>
      simp only [eqT, toD, PyData.eqv]
      exact eqTs_eqv xs ys (by simpa [isD] using hx) (by simpa [isD] using hy)
    | _ => first | rfl | simp [isD] at hy
  | .ref _, _, hx, _ => by simp [isD] at hx
  | .fn _, _, hx, _ => by simp [isD] at hx
  | .scr, _, hx, _ => by simp [isD] at hx
  | .dct _ _, _, hx, _ => by simp [isD] at hx
theorem eqTs_eqv : ∀ xs ys : List T, isDs xs = true → isDs ys = true → eqTs xs ys = PyData.eqvAll (toDs xs) (toDs ys)
  | [], [], _, _ => by simp [eqTs, toDs, PyData.eqvAll]
  | [], _ :: _, _, _ => by simp [eqTs, toDs, PyData.eqvAll]
  | _ :: _, [], _, _ => by simp [eqTs, toDs, PyData.eqvAll]
  | x :: xs, y :: ys, hx, hy => by
    simp only [isDs, Bool.and_eq_true] at hx hy
    simp only [eqTs, toDs, PyData.eqvAll]
    rw [eqT_eqv x y hx.1 hy.1, eqTs_eqv xs ys hx.2 hy.2]
end
mutual
theorem dep_toD : ∀ x : T, (toD x).depth = depT x
  | .non => rfl
  | .bl _ => rfl
  | .int _ => rfl
  | .str _ => rfl
  | .tup ts => by simp only [toD, PyData.depth, depT, dep_toDs ts]
  | .lst ts => by simp only [toD, PyData.depth, depT, dep_toDs ts]
  | .ref _ => rfl
  | .fn _ => rfl
  | .scr => rfl
  | .dct _ _ => rfl
theorem dep_toDs : ∀ xs : List T, PyData.depthAll (toDs xs) = depTs xs
  | [] => by simp [toDs, PyData.depthAll, depTs]
  | x :: xs => by simp only [toDs, PyData.depthAll, depTs, dep_toD x, dep_toDs xs]
end
mutual
theorem lay_toD : ∀ x : T, chT x = true → (toD x).canLay0 = true
  | .non, _ => rfl
  | .bl _, _ => rfl
  | .int _, _ => rfl
  | .str s, h => by
    simp only [toD, PyData.canLay0]
    simp only [chT, List.all_eq_true, decide_eq_true_eq] at h
    show ((⟨s.toArray⟩ : Str).cps.all fun c => decide (c < 0x110000)) = true
    simp only [List.all_toArray, List.all_eq_true, decide_eq_true_eq]
    exact h
  | .tup ts, h => by simp only [toD, PyData.canLay0]; exact lay_toDs ts (by simpa [chT] using h)
  | .lst ts, h => by simp only [toD, PyData.canLay0]; exact lay_toDs ts (by simpa [chT] using h)
  | .ref _, _ => rfl
  | .fn _, _ => rfl
  | .scr, _ => rfl
  | .dct _ _, _ => rfl
theorem lay_toDs : ∀ xs : List T, chTs xs = true → PyData.canLayAll0 (toDs xs) = true
  | [], _ => by simp [toDs, PyData.canLayAll0]
  | x :: xs, h => by
    simp only [chTs, Bool.and_eq_true] at h
    simp only [toDs, PyData.canLayAll0, lay_toD x h.1, lay_toDs xs h.2, Bool.and_self]
end
theorem shaped_of {d : T} (h : okD d = true) : SeqAt.shaped (toD d) = true := by
  simp only [okD, Bool.and_eq_true, decide_eq_true_eq] at h
  simp only [SeqAt.shaped, Bool.and_eq_true, decide_eq_true_eq]
  exact ⟨lay_toD d h.2, by rw [dep_toD]; omega⟩
theorem shaped_list {ds : List T} (h : okDs ds = true) : SeqAt.shaped (.list (toDs ds)) = true ∧ SeqAt.shaped (.tuple (toDs ds)) = true := by
  simp only [okDs, Bool.and_eq_true, decide_eq_true_eq] at h
  have hd := dep_toDs ds
  have h1 : (PyData.list (toDs ds)).depth ≤ 64 := by simp only [PyData.depth]; omega
  have h2 : (PyData.tuple (toDs ds)).depth ≤ 64 := by simp only [PyData.depth]; omega
  simp only [SeqAt.shaped, Bool.and_eq_true, decide_eq_true_eq]
  exact ⟨⟨by simp only [PyData.canLay0]; exact lay_toDs ds h.2, h1⟩, ⟨by simp only [PyData.canLay0]; exact lay_toDs ds h.2, h2⟩⟩
mutual
theorem Dp.isD {st : St} : ∀ {t d : T}, Dp st t d → isD d = true
  | _, _, .non => rfl
  | _, _, .bl _ => rfl
  | _, _, .int _ => rfl
  | _, _, .str _ => rfl
  | _, _, .tup h => by simp only [Mo.isD]; exact h.isDs
  | _, _, .ref _ h => by simp only [Mo.isD]; exact h.isDs
theorem Dps.isDs {st : St} : ∀ {ts ds : List T}, Dps st ts ds → isDs ds = true
  | _, _, .nil => rfl
  | _, _, .cons h1 h2 => by simp only [Mo.isDs, Bool.and_eq_true]; exact ⟨h1.isD, h2.isDs⟩
end
mutual
theorem Dp.to {st : St} {B : Nat} {H F : L2.Hp} {K : PySem.W.Frag} (hK : D.K = K) (sm : Sim D B H F st) : ∀ {t d : T} {v : L2.V}, Dp st t d → RepV D F t v → L2.Dp K H v (toD d)
  | _, _, _, .non, r => by cases r; exact .non
  | _, _, _, .bl b, r => by cases r; exact .bl b
  | _, _, _, .int b, r => by cases r; exact .int b
  | _, _, _, .str b, r => by cases r; exact .str _
  | _, _, _, .tup h, r => by
    obtain ⟨a, xs, rfl, s, q⟩ := r
    simp only [toD]
    exact .tup (sm.sqT (hK ▸ s)) (Dps.to hK sm h q)
  | _, _, _, .ref e h, r => by
    cases r
    obtain ⟨xs, _, s, q⟩ := sm.sqL (K := K) e
    simp only [toD]
    exact .lst s (Dps.to hK sm h q)
theorem Dps.to {st : St} {B : Nat} {H F : L2.Hp} {K : PySem.W.Frag} (hK : D.K = K) (sm : Sim D B H F st) : ∀ {ts ds : List T} {vs : List L2.V}, Dps st ts ds → RepVs D F ts vs → L2.DpAll K H vs (toDs ds)
  | _, _, _, .nil, r => by rw [show _ = [] from r]; exact .nil
  | _, _, _, .cons h1 h2, r => by
    obtain ⟨v, ws, rfl, r1, r2⟩ := r
    simp only [toDs]
    exact .cons (Dp.to hK sm h1 r1) (Dps.to hK sm h2 r2)
end
theorem any_toDs {d : T} (hd : isD d = true) : ∀ ds : List T, isDs ds = true → (ds.any fun e => eqT e d) = ((toDs ds).any fun z => PyData.eqv z (toD d))
  | [], _ => by simp [toDs]
  | x :: xs, h => by
    simp only [isDs, Bool.and_eq_true] at h
    simp only [toDs, List.any_cons, any_toDs hd xs h.2, eqT_eqv x d h.1 hd]

/-- a comparison: a truth -/
def r2B (D : Wd) (w : T → T → St → (Bool → Prop) → Prop) : R2 := fun x y H Q =>
  ∃ t u st B F R, RepV D F t x ∧ RepV D F u y ∧ Sim D B H F st ∧ w t u st R ∧ ∀ b, R b → Q (.bl b) H
theorem op_eq (hD : D.K = X.K) (hu : X.A.units + 64 < cLine) : OpR X (compareOp .Eq) (r2B D eqSem) := by
  intro pins s σ H x y v u Q I rx ry h
  obtain ⟨t, t', st, B, F, R, q1, q2, sm, ⟨d, e, hd, he, o1, o2, w⟩, en⟩ := h
  refine L2.op_eqD hu pins s σ H _ _ v u Q I rx ry ⟨toD d, toD e, hd.to hD sm q1, he.to hD sm q2, shaped_of o1, shaped_of o2, ?_⟩
  rw [← eqT_eqv d e hd.isD he.isD]
  exact en _ w
theorem op_ne (hD : D.K = X.K) (hu : X.A.units + 64 < cLine) : OpR X (compareOp .NotEq) (r2B D fun x y st Q => eqSem x y st fun b => Q (!b)) := by
  intro pins s σ H x y v u Q I rx ry h
  obtain ⟨t, t', st, B, F, R, q1, q2, sm, ⟨d, e, hd, he, o1, o2, w⟩, en⟩ := h
  refine L2.op_neD hu pins s σ H _ _ v u Q I rx ry ⟨toD d, toD e, hd.to hD sm q1, he.to hD sm q2, shaped_of o1, shaped_of o2, ?_⟩
  rw [← eqT_eqv d e hd.isD he.isD]
  exact en _ w
theorem op_is : OpR X (compareOp .Is) (r2B D fun x y st Q => y = .non ∧ Q (isNon x)) := by
  intro pins s σ H x y v u Q I rx ry h
  obtain ⟨t, t', st, B, F, R, q1, q2, sm, ⟨rfl, w⟩, en⟩ := h
  cases q2
  refine L2.op_isN pins s σ H _ _ v u Q I rx ry ⟨rfl, ?_⟩
  have e : decide (x = .non) = isNon t := by
    cases t with
    | non => cases q1; rfl
    | bl _ => cases q1; rfl
    | int _ => cases q1; rfl
    | str _ => cases q1; rfl
    | tup _ => obtain ⟨_, _, rfl, _⟩ := q1; rfl
    | lst _ => exact q1.elim
    | dct _ _ => exact q1.elim
    | ref _ => cases q1; rfl
    | fn _ => cases q1; rfl
    | scr => obtain ⟨_, _, rfl, _⟩ := q1; rfl
  rw [e]; exact en _ w
theorem op_isnot : OpR X (compareOp .IsNot) (r2B D fun x y st Q => y = .non ∧ Q (!isNon x)) := by
  intro pins s σ H x y v u Q I rx ry h
  obtain ⟨t, t', st, B, F, R, q1, q2, sm, ⟨rfl, w⟩, en⟩ := h
  cases q2
  refine L2.op_notN pins s σ H _ _ v u Q I rx ry ⟨rfl, ?_⟩
  have e : (!decide (x = .non)) = (!isNon t) := by
    cases t with
    | non => cases q1; rfl
    | bl _ => cases q1; rfl
    | int _ => cases q1; rfl
    | str _ => cases q1; rfl
    | tup _ => obtain ⟨_, _, rfl, _⟩ := q1; rfl
    | lst _ => exact q1.elim
    | dct _ _ => exact q1.elim
    | ref _ => cases q1; rfl
    | fn _ => cases q1; rfl
    | scr => obtain ⟨_, _, rfl, _⟩ := q1; rfl
  rw [e]; exact en _ w
mutual
theorem alk_to : ∀ x y : T, alk x y = true → PySem.W.alike (toD x) (toD y) = true
  | .int _, y, h => by cases y <;> simp [alk] at h; simp [toD, PySem.W.alike]
  | .str _, y, h => by cases y <;> simp [alk] at h; simp [toD, PySem.W.alike]
  | .tup xs, y, h => by
    cases y <;> simp [alk] at h
    simp only [toD, PySem.W.alike]
    exact alks_to _ _ h
  | .non, y, h => by cases y <;> simp [alk] at h
  | .bl _, y, h => by cases y <;> simp [alk] at h
  | .lst _, y, h => by cases y <;> simp [alk] at h
  | .dct _ _, y, h => by cases y <;> simp [alk] at h
  | .ref _, y, h => by cases y <;> simp [alk] at h
  | .fn _, y, h => by cases y <;> simp [alk] at h
  | .scr, y, h => by cases y <;> simp [alk] at h
theorem alks_to : ∀ xs ys : List T, alks xs ys = true → PySem.W.alikeAll (toDs xs) (toDs ys) = true
  | [], _, _ => by simp [toDs, PySem.W.alikeAll]
  | _ :: _, [], _ => by simp [toDs, PySem.W.alikeAll]
  | x :: xs, y :: ys, h => by
    simp only [alks, Bool.and_eq_true] at h
    simp only [toDs, PySem.W.alikeAll, alk_to x y h.1, alks_to xs ys h.2, Bool.and_self]
end
mutual
theorem pure_isD : ∀ x : T, pureT x = true → isD x = true
  | .non, _ => rfl
  | .bl _, _ => rfl
  | .int _, _ => rfl
  | .str _, _ => rfl
  | .tup ts, h => by simp only [isD]; exact pures_isD ts (by simpa [pureT] using h)
  | .lst _, h => by simp [pureT] at h
  | .dct _ _, h => by simp [pureT] at h
  | .ref _, h => by simp [pureT] at h
  | .fn _, h => by simp [pureT] at h
  | .scr, h => by simp [pureT] at h
theorem pures_isD : ∀ xs : List T, pureTs xs = true → isDs xs = true
  | [], _ => rfl
  | x :: xs, h => by
    simp only [pureTs, Bool.and_eq_true] at h
    simp only [isDs, pure_isD x h.1, pures_isD xs h.2, Bool.and_self]
end
mutual
theorem lt_to : ∀ x y : T, alk x y = true → isD x = true → isD y = true → ltT x y = PySem.W.dataLt (toD x) (toD y)
  | .int _, y, h, _, _ => by cases y <;> simp [alk] at h; simp [toD, ltT, PySem.W.dataLt_int]
  | .str _, y, h, _, _ => by
    cases y <;> simp [alk] at h
    simp only [toD, ltT, PySem.W.dataLt_str]
    rw [Bool.eq_iff_iff]
    exact ⟨fun h => decide_eq_true (by simpa [cpsS] using of_decide_eq_true h), fun h => decide_eq_true (by simpa [cpsS] using of_decide_eq_true h)⟩
  | .tup xs, y, h, hx, hy => by
    cases y <;> simp [alk] at h
    simp only [toD, ltT, PySem.W.dataLt_tuple]
    exact lts_to _ _ h (by simpa [isD] using hx) (by simpa [isD] using hy)
  | .non, y, h, _, _ => by cases y <;> simp [alk] at h
  | .bl _, y, h, _, _ => by cases y <;> simp [alk] at h
  | .lst _, y, h, _, _ => by cases y <;> simp [alk] at h
  | .dct _ _, y, h, _, _ => by cases y <;> simp [alk] at h
  | .ref _, y, h, _, _ => by cases y <;> simp [alk] at h
  | .fn _, y, h, _, _ => by cases y <;> simp [alk] at h
  | .scr, y, h, _, _ => by cases y <;> simp [alk] at h
theorem lts_to : ∀ xs ys : List T, alks xs ys = true → isDs xs = true → isDs ys = true → ltTs xs ys = PyProof.Rows.lexLt PyProof.Rows.itemOrd (PySem.W.keyToksAll (toDs xs)) (PySem.W.keyToksAll (toDs ys))
  | [], [], _, _, _ => by simp only [toDs, ltTs, PySem.W.keyToksAll]; exact (PyProof.Rows.lex_irrefl (O := PyProof.Rows.itemOrd) _).symm
  | [], y :: ys, _, _, _ => by
    simp only [toDs, ltTs, PySem.W.keyToksAll]
    exact (PyProof.Rows.lex_diff (O := PyProof.Rows.itemOrd) (x := Sum.inl 0) (y := Sum.inl 1) (by simp)).symm
  | x :: xs, [], _, _, _ => by
    simp only [toDs, ltTs, PySem.W.keyToksAll]
    exact (PyProof.Rows.lex_diff (O := PyProof.Rows.itemOrd) (x := Sum.inl 1) (y := Sum.inl 0) (by simp)).symm
  | x :: xs, y :: ys, h, hx, hy => by
    simp only [alks, Bool.and_eq_true] at h
    simp only [isDs, Bool.and_eq_true] at hx hy
    simp only [toDs, ltTs]
    have al := alk_to x y h.1
    cases e : eqT x y with
    | true =>
      rw [if_pos rfl, PySem.W.dataLt_all_yes al (by rw [← eqT_eqv x y hx.1 hy.1]; exact e)]
      exact lts_to xs ys h.2 hx.2 hy.2
    | false =>
      rw [if_neg Bool.false_ne_true, PySem.W.dataLt_all_no al (by rw [← eqT_eqv x y hx.1 hy.1]; exact e)]
      exact lt_to x y h.1 hx.1 hy.1
end
theorem op_lt (hD : D.K = X.K) (hu : X.A.units + 64 < cLine) : OpR X (compareOp .Lt) (r2B D fun x y st Q => ltSem x y Q) := by
  intro pins s σ H x y v u Q I rx ry h
  obtain ⟨t, t', st, B, F, R, q1, q2, sm, w, en⟩ := h
  unfold ltSem at w
  split at w
  · cases q1; cases q2
    exact L2.op_lt pins s σ H _ _ v u Q I rx ry ⟨_, _, rfl, rfl, en _ w⟩
  · cases q1; cases q2
    refine L2.op_lt_str pins s σ H _ _ v u Q I rx ry ⟨_, _, rfl, rfl, ?_⟩
    simp only [cpsS]
    exact en _ w
  · rename_i xs ys
    obtain ⟨p1, p2, al, o1, o2, w⟩ := w
    have d1 : Mo.Dp st (.tup xs) (.tup xs) := .pure st _ (by simpa [pureT] using p1)
    have d2 : Mo.Dp st (.tup ys) (.tup ys) := .pure st _ (by simpa [pureT] using p2)
    have e1 := d1.to hD sm q1
    have e2 := d2.to hD sm q2
    obtain ⟨as, r1⟩ := L2.Dp.reads I _ _ _ e1 rx
    obtain ⟨bs, r2⟩ := L2.Dp.reads I _ _ _ e2 ry
    have h1 := dep_toDs xs
    have al' : alk (.tup xs) (.tup ys) = true := by simpa [alk] using al
    have i1 : isD (.tup xs) = true := pure_isD _ (by simpa [pureT] using p1)
    have i2 : isD (.tup ys) = true := pure_isD _ (by simpa [pureT] using p2)
    have dp : (toD (.tup xs)).depth ≤ 61 := by
      simp only [okDs, Bool.and_eq_true, decide_eq_true_eq] at o1
      rw [dep_toD]; simp only [depT]; omega
    have key := PySem.W.rcLt_alike (toD (.tup xs)) (toD (.tup ys)) X.A s v u as bs r1 r2 (alk_to _ _ al') (by simp [toD]) (by have := Nat.min_le_left (toD (.tup xs)).depth (toD (.tup ys)).depth; omega)
    refine key X.prog X.w X.xe _ ?_
    rw [← lt_to _ _ al' i1 i2]
    simp only [ltT]
    exact ⟨.bl _, H, I, rfl, en _ w⟩
  · exact w.elim
theorem op_le : OpR X (compareOp .LtE) (r2B D fun x y st Q => leSem x y Q) := by
  intro pins s σ H x y v u Q I rx ry h
  obtain ⟨t, t', st, B, F, R, q1, q2, sm, w, en⟩ := h
  unfold leSem at w
  split at w
  · cases q1; cases q2
    exact L2.op_le pins s σ H _ _ v u Q I rx ry ⟨_, _, rfl, rfl, en _ w⟩
  · cases q1; cases q2
    refine L2.op_le_str pins s σ H _ _ v u Q I rx ry ⟨_, _, rfl, rfl, ?_⟩
    simp only [cpsS]
    exact en _ w
  · exact w.elim
theorem op_gt : OpR X (compareOp .Gt) (r2B D fun x y st Q => gtSem x y Q) := by
  intro pins s σ H x y v u Q I rx ry h
  obtain ⟨t, t', st, B, F, R, q1, q2, sm, w, en⟩ := h
  unfold gtSem at w
  split at w
  · cases q1; cases q2
    exact L2.op_gt pins s σ H _ _ v u Q I rx ry ⟨_, _, rfl, rfl, en _ w⟩
  · exact w.elim
theorem op_ge : OpR X (compareOp .GtE) (r2B D fun x y st Q => geSem x y Q) := by
  intro pins s σ H x y v u Q I rx ry h
  obtain ⟨t, t', st, B, F, R, q1, q2, sm, w, en⟩ := h
  unfold geSem at w
  split at w
  · cases q1; cases q2
    exact L2.op_ge pins s σ H _ _ v u Q I rx ry ⟨_, _, rfl, rfl, en _ w⟩
  · exact w.elim
theorem op_in (hD : D.K = X.K) (hu : X.A.units + 65 < cLine) : OpR X (compareOp .In) (r2B D inSem) := by
  intro pins s σ H x y v u Q I rx ry h
  obtain ⟨t, t', st, B, F, R, q1, q2, sm, w, en⟩ := h
  unfold inSem at w
  split at w
  · rename_i ts
    obtain ⟨d, ds, h1, h2, o1, o2, w⟩ := w
    have e1 := h1.to hD sm q1
    have e2 : L2.Dp X.K H y (.tuple (toDs ds)) := by simpa [toD] using (Mo.Dp.tup h2).to hD sm q2
    obtain ⟨as, r1⟩ := L2.Dp.reads I _ _ _ e1 rx
    obtain ⟨bs, r2⟩ := L2.Dp.reads I _ _ _ e2 ry
    refine SeqAt.in_tuple_reads r2 r1 (SeqAt.canLay_of_shaped (shaped_list o2).2) (SeqAt.canLay_of_shaped (shaped_of o1)) (PyProof.Rows.room_in_shaped (shaped_of o1) hu) ⟨.bl _, H, I, rfl, ?_⟩
    rw [← any_toDs h1.isD ds h2.isDs]
    exact en _ w
  · rcases w with ⟨ts, d, ds, e, h1, h2, o1, o2, w⟩ | ⟨kvs, e, _⟩
    · refine L2.op_inD hu pins s σ H _ _ v u Q I rx ry ⟨toD d, toDs ds, h1.to hD sm q1, ?_, shaped_of o1, (shaped_list o2).1, ?_⟩
      · simpa [toD] using (Mo.Dp.ref e h2).to hD sm q2
      · rw [← any_toDs h1.isD ds h2.isDs]
        exact en _ w
    · exact ((sm.ob _ _ e).2).elim
  · rename_i str
    obtain ⟨c, rfl, w⟩ := w
    cases q1; cases q2
    exact L2.op_in_sign pins s σ H _ _ v u Q I rx ry ⟨c, _, rfl, rfl, by rw [show decide (c ∈ (cpsS str).cps.toList) = decide (c ∈ str) from decide_eq_decide.mpr (by simp only [cpsS])]; exact en _ w⟩
  · exact w.elim
theorem op_notin (hD : D.K = X.K) (hu : X.A.units + 65 < cLine) : OpR X (compareOp .NotIn) (r2B D fun x y st Q => inSem x y st fun b => Q (!b)) := by
  intro pins s σ H x y v u Q I rx ry h
  obtain ⟨t, t', st, B, F, R, q1, q2, sm, w, en⟩ := h
  unfold inSem at w
  split at w
  · rename_i ts
    obtain ⟨d, ds, h1, h2, o1, o2, w⟩ := w
    have e1 := h1.to hD sm q1
    have e2 : L2.Dp X.K H y (.tuple (toDs ds)) := by simpa [toD] using (Mo.Dp.tup h2).to hD sm q2
    obtain ⟨as, r1⟩ := L2.Dp.reads I _ _ _ e1 rx
    obtain ⟨bs, r2⟩ := L2.Dp.reads I _ _ _ e2 ry
    refine SeqAt.notIn_tuple_reads r2 r1 (SeqAt.canLay_of_shaped (shaped_list o2).2) (SeqAt.canLay_of_shaped (shaped_of o1)) (PyProof.Rows.room_in_shaped (shaped_of o1) hu) ⟨.bl _, H, I, rfl, ?_⟩
    rw [← any_toDs h1.isD ds h2.isDs]
    exact en _ w
  · rcases w with ⟨ts, d, ds, e, h1, h2, o1, o2, w⟩ | ⟨kvs, e, _⟩
    · refine L2.op_notInD hu pins s σ H _ _ v u Q I rx ry ⟨toD d, toDs ds, h1.to hD sm q1, ?_, shaped_of o1, (shaped_list o2).1, ?_⟩
      · simpa [toD] using (Mo.Dp.ref e h2).to hD sm q2
      · rw [← any_toDs h1.isD ds h2.isDs]
        exact en _ w
    · exact ((sm.ob _ _ e).2).elim
  · rename_i str
    obtain ⟨c, rfl, w⟩ := w
    cases q1; cases q2
    exact L2.op_notIn_sign pins s σ H _ _ v u Q I rx ry ⟨c, _, rfl, rfl, by rw [show decide (c ∈ (cpsS str).cps.toList) = decide (c ∈ str) from decide_eq_decide.mpr (by simp only [cpsS])]; exact en _ w⟩
  · exact w.elim
def coX : Co → CmpOp
  | .eq => .Eq
  | .ne => .NotEq
  | .lt => .Lt
  | .le => .LtE
  | .gt => .Gt
  | .ge => .GtE
  | .is => .Is
  | .isnot => .IsNot
  | .isin => .In
  | .notin => .NotIn
theorem op_cmp (hD : D.K = X.K) (hu : X.A.units + 65 < cLine) : ∀ o : Co, OpR X (compareOp (coX o)) (r2B D (cmpSem o))
  | .eq => op_eq hD (by omega)
  | .ne => op_ne hD (by omega)
  | .lt => op_lt hD (by omega)
  | .le => op_le
  | .gt => op_gt
  | .ge => op_ge
  | .is => op_is
  | .isnot => op_isnot
  | .isin => op_in hD hu
  | .notin => op_notin hD hu
theorem coO_eq {op : CmpOp} {o : Co} (h : coO op = some o) : op = coX o := by
  cases op <;> simp [coO] at h <;> subst h <;> rfl
/-- truth -/
theorem tru_of {t : T} {v : L2.V} {st : St} {B : Nat} {H F : L2.Hp} {Q : Bool → Prop} (hD : D.K = X.K) (r : RepV D F t v) (sm : Sim D B H F st) (w : truSem t st Q) : ∃ k, L2.TruV X.K v H k ∧ Q k := by
  unfold truSem at w
  split at w
  · cases r; exact ⟨_, rfl, w⟩
  · cases r; exact ⟨_, rfl, w⟩
  · cases r; exact ⟨_, rfl, w⟩
  · rename_i s
    cases r
    obtain ⟨sz, w⟩ := w
    refine ⟨_, ⟨?_, rfl⟩, ?_⟩
    · rw [← size_eq]; simpa [cpsS, Str.length] using sz
    · have e : (((cpsS s).length : Int) != 0) = !s.isEmpty := by
        cases s with
        | nil => rfl
        | cons a b => simp [cpsS, Str.length]; omega
      rw [e]; exact w
  · rename_i ts
    obtain ⟨a, xs, rfl, s, q⟩ := r
    refine ⟨_, .inr (.inl ⟨xs, sm.sqT (hD ▸ s), rfl⟩), ?_⟩
    have e : xs.isEmpty = ts.isEmpty := by
      have := q.length
      cases xs <;> cases ts <;> simp_all
    rw [e]; exact w
  · rename_i a
    cases r
    rcases w with ⟨ts, e, w⟩ | ⟨kvs, e, _⟩
    · obtain ⟨xs, _, s, q⟩ := sm.sqL (K := X.K) e
      refine ⟨_, .inl ⟨xs, s, rfl⟩, ?_⟩
      have e : xs.isEmpty = ts.isEmpty := by
        have := q.length
        cases xs <;> cases ts <;> simp_all
      rw [e]; exact w
    · exact ((sm.ob _ _ e).2).elim
  · exact w.elim
end Mo

set_option Elab.async false
set_option linter.all false
set_option maxRecDepth 100000
set_option autoImplicit false
namespace Mo
open PySem PyProof.Rows
open L2 (Inv EP RelV Vals OpR UnR CallR VK R2)
variable {D : Wd} {X : L2.Cx}

theorem atI_eq {α : Type} (xs : List α) (i : Int) : L2.atI xs i = atT xs i := by
  unfold L2.atI L2.ixN atT
  by_cases h : 0 ≤ i
  · rw [if_pos h, if_pos h]
    by_cases h2 : i < xs.length
    · rw [if_pos h2]; rfl
    · rw [if_neg h2, List.getElem?_eq_none (by omega)]; rfl
  · rw [if_neg h, if_neg h]
    by_cases h2 : -(xs.length : Int) ≤ i
    · rw [if_pos h2, if_pos h2]; rfl
    · rw [if_neg h2, if_neg h2]; rfl
theorem atT_rep {F : L2.Hp} {ts : List T} {xs : List L2.V} {i : Int} {t : T} (r : RepVs D F ts xs) (h : atT ts i = some t) : ∃ v, L2.atI xs i = some v ∧ RepV D F t v := by
  rw [atI_eq]
  unfold atT at h ⊢
  rw [← r.length]
  by_cases h1 : 0 ≤ i
  · rw [if_pos h1] at h ⊢; exact r.get h
  · rw [if_neg h1] at h ⊢
    by_cases h2 : -(ts.length : Int) ≤ i
    · rw [if_pos h2] at h ⊢; exact r.get h
    · rw [if_neg h2] at h; cases h
theorem ix_sem (hD : D.K = X.K) : L2.IxR X (r2 D idxSem) := by
  have base := L2.ix_seq (X := X)
  intro value slice pins s σ H x y v u Q I rx ry h hs
  obtain ⟨t, t', st, B, F, R, q1, q2, sm, w, en⟩ := h
  unfold idxSem at w
  split at w
  · obtain ⟨a, xs, rfl, sa, ra⟩ := q1
    cases q2
    obtain ⟨r, e, w⟩ := w
    obtain ⟨z, e2, rz⟩ := atT_rep ra e
    exact base value slice pins s σ H _ _ v u Q I rx ry (.inr (.inl ⟨a, xs, _, z, rfl, rfl, sm.sqT (hD ▸ sa), e2, en.here w sm rz⟩)) hs
  · rename_i str k
    cases q1; cases q2
    obtain ⟨c, e, hz, w⟩ := w
    refine base value slice pins s σ H _ _ v u Q I rx ry (.inr (.inr ⟨_, _, c, rfl, rfl, ?_, ?_, en.here w sm rfl⟩)) hs
    · rw [← size_eq]; simpa [cpsS, Str.length] using hz
    · rw [atI_eq]; simpa [cpsS] using e
  · cases q1
    rcases w with ⟨ts, j, r, rfl, e1, e, w⟩ | ⟨kvs, kv, e, _⟩
    · cases q2
      obtain ⟨xs, _, sq, ra⟩ := sm.sqL (K := X.K) e1
      obtain ⟨z, e2, rz⟩ := atT_rep ra e
      exact base value slice pins s σ H _ _ v u Q I rx ry (.inl ⟨_, xs, _, z, rfl, rfl, sq, e2, en.here w sm rz⟩) hs
    · exact ((sm.ob _ _ e).2).elim
  · exact w.elim
theorem sIx_eq (n d : Nat) (o : Option Int) : HT.sIx n d o = sIx n d o := by
  cases o with
  | none => rfl
  | some v => rfl
theorem cut_rep {F : L2.Hp} {ts : List T} {xs : List L2.V} (r : RepVs D F ts xs) (lo hi : Option Int) : RepVs D F (cutT ts lo hi) (L2.cutV xs lo hi) := by
  unfold cutT L2.cutV
  rw [← r.length, sIx_eq, sIx_eq]
  exact (r.drop _).take _
def rSl (D : Wd) (w : T → Option Int → Option Int → St → TK → Prop) : L2.V → Option Int → Option Int → L2.Hp → VK → Prop := fun x lo hi H Q =>
  ∃ t st B F R, RepV D F t x ∧ Sim D B H F st ∧ w t lo hi st R ∧ End D B F R Q
theorem sl_sem (hD : D.K = X.K) : L2.SlR X (rSl D slcSem) := by
  intro pins s σ H x v vl vu lo hi sl Q I rx hs pl pu h
  obtain ⟨t, st, B, F, R, q1, sm, w, en⟩ := h
  unfold slcSem at w
  split at w
  · rename_i ts
    obtain ⟨a, xs, rfl, sa, ra⟩ := q1
    refine L2.sl_tupA pins s σ H _ v vl vu lo hi sl Q I rx hs pl pu ⟨a, xs, rfl, sm.sqT (hD ▸ sa), fun z => ?_, fun _ p hp => en.tup w sm hp (cut_rep ra lo hi)⟩
    have e : cutT ts lo hi = ts := by
      unfold cutT
      rw [sIx_eq, sIx_eq, ← ra.length] at z
      rw [z.1, z.2]
      simp
    rw [e] at w
    exact en.here w sm ⟨a, xs, rfl, sa, ra⟩
  · rename_i str
    cases q1
    obtain ⟨hz, w⟩ := w
    refine L2.sl_str pins s σ H _ v vl vu lo hi sl Q I rx hs pl pu ⟨_, rfl, by rw [← size_eq]; simpa [cpsS, Str.length] using hz, ?_⟩
    have e : L2.cutS (cpsS str) lo hi = cpsS (cutT str lo hi) := by
      unfold L2.cutS cutT cpsS
      simp only [sIx_eq, Str.length, List.size_toArray]
    rw [e]
    exact en.here w sm rfl
  · cases q1
    obtain ⟨ts, e, w⟩ := w
    obtain ⟨xs, _, sq, ra⟩ := sm.sqL (K := X.K) e
    exact L2.sl_list pins s σ H _ v vl vu lo hi sl Q I rx hs pl pu ⟨_, xs, rfl, sq, fun p hp => en.lst w sm hp (cut_rep ra lo hi)⟩
  · exact w.elim
end Mo

set_option Elab.async false
set_option linter.all false
set_option maxRecDepth 100000
set_option autoImplicit false
namespace Mo
open PySem PyProof.Rows
open L2 (Inv EP RelV Vals OpR UnR CallR VK R2)
variable {D : Wd} {X : L2.Cx}

/-- repr's own text of a thing -/
def rpT (d : T) : Sg := (toD d).shown.cps.toList
theorem cps_toList (x : Str) : cpsS x.cps.toList = x := by
  cases x; simp [cpsS]
mutual
theorem showable_of : ∀ d : T, smlT d = true → (toD d).showable = true
  | .non, _ => rfl
  | .bl _, _ => rfl
  | .int i, h => by
    simp only [smlT, decide_eq_true_eq] at h
    simp only [toD, PyData.showable, decide_eq_true_eq]
    exact Nat.lt_of_lt_of_le (PySem.Flt.log2_lt_of (by decide) h) (by decide)
  | .str _, _ => rfl
  | .tup ts, h => by simp only [toD, PyData.showable]; exact showables_of ts (by simpa [smlT] using h)
  | .lst ts, h => by simp only [toD, PyData.showable]; exact showables_of ts (by simpa [smlT] using h)
  | .ref _, _ => rfl
  | .fn _, _ => rfl
  | .scr, _ => rfl
  | .dct _ _, _ => rfl
theorem showables_of : ∀ ds : List T, smlTs ds = true → PyData.showableAll (toDs ds) = true
  | [], _ => by simp [toDs, PyData.showableAll]
  | d :: ds, h => by
    simp only [smlTs, Bool.and_eq_true] at h
    simp only [toDs, PyData.showableAll, showable_of d h.1, showables_of ds h.2, Bool.and_self]
end
theorem list_text (ts : List Str) : (listText ts).length ≤ piled ts + 2 := by
  unfold listText
  rw [strLen_append]
  have e1 : ((("]" : String) : Str)).length = 1 := rfl
  have e2 : ((("[" : String) : Str)).length = 1 := rfl
  cases ts with
  | nil => decide
  | cons t r =>
    have h := textFrom_length_pos r 1 (("[" : Str) ++ (if (0 : Nat) > 0 then ", " else "" : String) ++ t) (Nat.succ_pos 0)
    have e : ((("[" : Str) ++ (if (0 : Nat) > 0 then ", " else "" : String) ++ t)).length = 1 + t.length := by
      rw [strLen_append, strLen_append]; rfl
    have e3 : textFrom 0 "[" (t :: r) = textFrom 1 (("[" : Str) ++ (if (0 : Nat) > 0 then ", " else "" : String) ++ t) r := rfl
    rw [e3, h, e, e1, piled_cons]
    omega
mutual
theorem shown_len : ∀ d : T, smlT d = true → chT d = true → (toD d).shown.length ≤ szT d
  | .non, _, _ => by decide
  | .bl b, _, _ => by cases b <;> decide
  | .int i, h, _ => by
    simp only [smlT, decide_eq_true_eq] at h
    have h10 : i.natAbs < 10 ^ 580 := Nat.lt_of_lt_of_le h (by decide)
    have := int_text_length_le10 (by decide) h10
    have e : (toD (.int i)).shown.length = (toString i).length := PySem.ofString_length _
    rw [e]
    show _ ≤ 600
    omega
  | .str s, _, h => by
    simp only [chT, List.all_eq_true, decide_eq_true_eq] at h
    have := StrLaws.reprText_len (cpsS s) (fun c hc => Nat.lt_of_lt_of_le (h c (by simpa [cpsS] using hc)) (by decide))
    have e : (cpsS s).length = s.length := by simp [cpsS, Str.length]
    rw [e] at this
    exact this
  | .tup ts, h, h2 => by
    have h1 := fmt_text (PyData.shownAll (toDs ts))
    have h3 := shown_lens ts (by simpa [smlT] using h) (by simpa [chT] using h2)
    show (tupleText (PyData.shownAll (toDs ts))).length ≤ szTs ts + 2
    omega
  | .lst ts, h, h2 => by
    have h1 := list_text (PyData.shownAll (toDs ts))
    have h3 := shown_lens ts (by simpa [smlT] using h) (by simpa [chT] using h2)
    show (listText (PyData.shownAll (toDs ts))).length ≤ szTs ts + 2
    omega
  | .ref _, _, _ => by show ("None" : Str).length ≤ 5; decide
  | .fn _, _, _ => by show ("None" : Str).length ≤ 5; decide
  | .scr, _, _ => by decide
  | .dct _ _, _, _ => by show ("None" : Str).length ≤ 5; decide
theorem shown_lens : ∀ ds : List T, smlTs ds = true → chTs ds = true → piled (PyData.shownAll (toDs ds)) ≤ szTs ds
  | [], _, _ => by simp [toDs, PyData.shownAll, piled]
  | d :: ds, h, h2 => by
    simp only [smlTs, Bool.and_eq_true] at h
    simp only [chTs, Bool.and_eq_true] at h2
    have h3 := shown_len d h.1 h2.1
    have h4 := shown_lens ds h.2 h2.2
    simp only [toDs, PyData.shownAll, piled_cons, szTs]
    omega
end
mutual
theorem noDict_of : ∀ d : T, (toD d).hasDict = false
  | .non => rfl
  | .bl _ => rfl
  | .int _ => rfl
  | .str _ => rfl
  | .tup ts => by simp only [toD, PyData.hasDict]; exact noDicts_of ts
  | .lst ts => by simp only [toD, PyData.hasDict]; exact noDicts_of ts
  | .ref _ => rfl
  | .fn _ => rfl
  | .scr => rfl
  | .dct _ _ => rfl
theorem noDicts_of : ∀ ds : List T, PyData.hasDictAll (toDs ds) = false
  | [] => by simp [toDs, PyData.hasDictAll]
  | d :: ds => by simp only [toDs, PyData.hasDictAll, noDict_of d, noDicts_of ds, Bool.or_self]
end
/-- values in, a value out -/
def rV (D : Wd) (w : List T → St → TK → Prop) : List L2.V → L2.Hp → VK → Prop := fun xs H Q =>
  ∃ ts st B F R, RepVs D F ts xs ∧ Sim D B H F st ∧ w ts st R ∧ End D B F R Q
theorem rep1 {F : L2.Hp} {t : T} {xs : List L2.V} (r : RepVs D F [t] xs) : ∃ x, xs = [x] ∧ RepV D F t x := by
  obtain ⟨v, ws, rfl, r1, r2⟩ := r
  exact ⟨v, by rw [show ws = [] from r2], r1⟩
theorem rep2 {F : L2.Hp} {t u : T} {xs : List L2.V} (r : RepVs D F [t, u] xs) : ∃ x y, xs = [x, y] ∧ RepV D F t x ∧ RepV D F u y := by
  obtain ⟨v, ws, rfl, r1, r2⟩ := r
  obtain ⟨y, rfl, r3⟩ := rep1 r2
  exact ⟨v, y, rfl, r1, r3⟩
theorem len_of {t : T} {x : L2.V} {st : St} {B : Nat} {H F : L2.Hp} {R : TK} (hD : D.K = X.K) (sm : Sim D B H F st) (q : RepV D F t x) (w : lenSem t st R) : ∃ n : Nat, L2.LenV X.K x H n ∧ R (.int n) st := by
  cases t with
  | str str =>
    cases q
    obtain ⟨hz, w⟩ := w
    refine ⟨str.length, ⟨?_, ?_⟩, w⟩
    · rw [← size_eq]; simpa [cpsS, Str.length] using hz
    · simp [cpsS, Str.length]
  | tup ts =>
    obtain ⟨a, ys, rfl, sa, ra⟩ := q
    exact ⟨ts.length, .inr ⟨ys, sm.sqT (hD ▸ sa), ra.length⟩, w⟩
  | ref a =>
    cases q
    rcases w with ⟨ts, e, w⟩ | ⟨_, e, _⟩
    · obtain ⟨ys, _, sq, ra⟩ := sm.sqL (K := X.K) e
      exact ⟨ts.length, .inl ⟨ys, sq, ra.length⟩, w⟩
    · exact ((sm.ob _ _ e).2).elim
  | _ => exact w.elim
theorem cr_len (hD : D.K = X.K) : CallR X (.builtin "len") (rV D (biSem rpT .len)) := by
  intro pins s σ H xs us Q I r h
  obtain ⟨ts, st, B, F, R, q, sm, w, en⟩ := h
  unfold biSem at w
  split at w <;> rename_i h1 <;> try (cases h1)
  · obtain ⟨x, rfl, q1⟩ := rep1 q
    obtain ⟨n, hl, w⟩ := len_of hD sm q1 w
    exact L2.call_len pins s σ H _ us Q I r ⟨_, n, rfl, hl, en.here w sm rfl⟩
  · exact w.elim
theorem cr_abs : CallR X (.builtin "abs") (rV D (biSem rpT .abs)) := by
  intro pins s σ H xs us Q I r h
  obtain ⟨ts, st, B, F, R, q, sm, w, en⟩ := h
  unfold biSem at w
  split at w <;> rename_i h1 <;> try (cases h1)
  · obtain ⟨x, rfl, q1⟩ := rep1 q
    cases q1
    exact L2.call_abs pins s σ H _ us Q I r ⟨_, rfl, en.here w sm rfl⟩
  · exact w.elim
theorem cr_int : CallR X (.type "int") (rV D (biSem rpT .int)) := by
  intro pins s σ H xs us Q I r h
  obtain ⟨ts, st, B, F, R, q, sm, w, en⟩ := h
  unfold biSem at w
  split at w <;> rename_i h1 <;> try (cases h1)
  · obtain ⟨x, rfl, q1⟩ := rep1 q
    cases q1
    exact L2.call_int1 pins s σ H _ us Q I r (.inl ⟨_, rfl, en.here w sm rfl⟩)
  · obtain ⟨x, rfl, q1⟩ := rep1 q
    cases q1
    exact L2.call_int1 pins s σ H _ us Q I r (.inr ⟨_, rfl, en.here w sm rfl⟩)
  · exact w.elim
theorem cr_max2 (hc : X.calm = true) : CallR X (.builtin "max") (rV D (biSem rpT .max2)) := by
  intro pins s σ H xs us Q I r h
  obtain ⟨ts, st, B, F, R, q, sm, w, en⟩ := h
  unfold biSem at w
  split at w <;> rename_i h1 <;> try (cases h1)
  · obtain ⟨x, y, rfl, q1, q2⟩ := rep2 q
    cases q1; cases q2
    exact L2.call_max2 hc pins s σ H _ us Q I r ⟨_, _, rfl, en.here w sm rfl⟩
  · exact w.elim
theorem cr_min2 (hc : X.calm = true) : CallR X (.builtin "min") (rV D (biSem rpT .min2)) := by
  intro pins s σ H xs us Q I r h
  obtain ⟨ts, st, B, F, R, q, sm, w, en⟩ := h
  unfold biSem at w
  split at w <;> rename_i h1 <;> try (cases h1)
  · obtain ⟨x, y, rfl, q1, q2⟩ := rep2 q
    cases q1; cases q2
    exact L2.call_min2 hc pins s σ H _ us Q I r ⟨_, _, rfl, en.here w sm rfl⟩
  · exact w.elim
theorem cr_divmod : CallR X (.builtin "divmod") (rV D (biSem rpT .divmod)) := by
  intro pins s σ H xs us Q I r h
  obtain ⟨ts, st, B, F, R, q, sm, w, en⟩ := h
  unfold biSem at w
  split at w <;> rename_i h1 <;> try (cases h1)
  · obtain ⟨x, y, rfl, q1, q2⟩ := rep2 q
    cases q1; cases q2
    exact L2.call_divmod pins s σ H _ us Q I r ⟨_, _, rfl, w.1, fun p hp => en.tup w.2 sm hp ⟨_, _, rfl, rfl, _, _, rfl, rfl, rfl⟩⟩
  · exact w.elim
theorem cr_repr (hD : D.K = X.K) (hg : X.A.guards = some []) (hu : X.A.units + 64 < cLine) : CallR X (.builtin "repr") (rV D (biSem rpT .repr)) := by
  intro pins s σ H xs us Q I r h
  obtain ⟨ts, st, B, F, R, q, sm, w, en⟩ := h
  unfold biSem at w
  split at w <;> rename_i h1 <;> try (cases h1)
  · rename_i t _
    obtain ⟨x, rfl, q1⟩ := rep1 q
    obtain ⟨d, hd, ok, sml, sz, w⟩ := w
    have ok' := ok
    simp only [okD, Bool.and_eq_true, decide_eq_true_eq] at ok'
    have hl := shown_len d sml ok'.2
    have hle : (toD d).shown.length ≤ sizeLine := by rw [← size_eq]; omega
    obtain ⟨u, rfl, ru⟩ := L2.vals1 r
    obtain ⟨as, rd⟩ := L2.Dp.reads I _ _ _ (hd.to hD sm q1) ru
    have fin : ∀ (h' : Heap) (u : Tok) (tk : Nat), (∀ b o, s.heap.get? b = some o → h'.get? b = some o) → EP X pins σ Q (.str (toD d).shown u) { s with heap := h', toks := tk } := fun h' u tk k =>
      ⟨.str (toD d).shown, H, I.kept k, ⟨_, rfl⟩, en.here w sm (by show L2.V.str _ = L2.V.str _; rw [rpT, cps_toList])⟩
    have sh := showable_of d sml
    have dep := dep_toD d
    cases hd with
    | non => cases rd; exact P.repr_of_none (fin s.heap _ _ fun _ _ e => e)
    | bl b => cases rd; exact P.repr_of_bool (fin s.heap _ _ fun _ _ e => e)
    | int i => cases rd; exact P.repr_of_int (by simpa [toD, PyData.showable] using sh) (fin s.heap _ _ fun _ _ e => e)
    | str i => cases rd; exact P.repr_of_str (fin s.heap _ _ fun _ _ e => e) (hsz := hle)
    | tup hh =>
      have rd0 := rd
      simp only [toD] at rd0
      cases rd0 with
      | tuple h1 h2 h3 h4 => exact repr_of_reads' rd sh (PyData.noDict_hsm (noDict_of _)) hg (by omega) (fun _ _ e => e) (fun h' u tk k => fin h' u tk k) (hsz := hle)
    | ref e hh =>
      have rd0 := rd
      simp only [toD] at rd0
      cases rd0 with
      | list h1 h2 h3 h4 => exact repr_of_reads' rd sh (PyData.noDict_hsm (noDict_of _)) hg (by omega) (fun _ _ e => e) (fun h' u tk k => fin h' u tk k) (hsz := hle)
  · exact w.elim
end Mo

set_option Elab.async false
set_option linter.all false
set_option maxRecDepth 100000
set_option autoImplicit false
namespace Mo
open PySem PyProof.Rows PySem.W
open L2 (Inv EP RelV Vals OpR UnR CallR VK R2)
variable {D : Wd} {X : L2.Cx}
def rSrt (D : Wd) : List L2.V → L2.Hp → VK → Prop := fun xs H Q => ∃ a vs ts B F st, xs = [.ref a] ∧ L2.SqL D.K H a vs ∧ RepVs D F ts vs ∧ Sim D B H F st ∧ srtOk ts = true ∧
  ∀ p ws, H p = none → RepVs D F (msort ts) ws → (msort ts).length ≤ SZ → Q (.ref p) (L2.upd H p (.lst ws))
theorem pureTs_mem : ∀ {ts : List T}, pureTs ts = true → ∀ t ∈ ts, pureT t = true
  | [], _, _, h => by cases h
  | x :: xs, h, t, ht => by
    simp only [pureTs, Bool.and_eq_true] at h
    rcases List.mem_cons.mp ht with rfl | ht
    · exact h.1
    · exact pureTs_mem h.2 t ht
theorem depTs_mem : ∀ {ts : List T} {n : Nat}, depTs ts ≤ n → ∀ t ∈ ts, depT t ≤ n
  | [], _, _, _, h => by cases h
  | x :: xs, n, h, t, ht => by
    simp only [depTs] at h
    rcases List.mem_cons.mp ht with rfl | ht
    · omega
    · exact depTs_mem (n := n) (by omega) t ht
/-- in pairs -/
theorem zip_rep {F : L2.Hp} : ∀ {ts : List T} {vs : List L2.V}, RepVs D F ts vs → (∀ p ∈ ts.zip vs, RepV D F p.1 p.2) ∧ (ts.zip vs).map (·.1) = ts ∧ (ts.zip vs).map (·.2) = vs
  | [], _, r => by rw [show _ = [] from r]; simp
  | t :: ts, _, r => by
    obtain ⟨v, ws, rfl, r1, r2⟩ := r
    obtain ⟨h1, h2, h3⟩ := zip_rep r2
    refine ⟨fun p hp => ?_, by simp [h2], by simp [h3]⟩
    rw [List.zip_cons_cons] at hp
    rcases List.mem_cons.mp hp with rfl | hp
    · exact r1
    · exact h1 p hp
theorem rep_of_pairs {F : L2.Hp} : ∀ {ps : List (T × L2.V)}, (∀ p ∈ ps, RepV D F p.1 p.2) → RepVs D F (ps.map (·.1)) (ps.map (·.2))
  | [], _ => rfl
  | p :: ps, h => ⟨p.2, _, rfl, h p (by simp), rep_of_pairs fun q hq => h q (by simp [hq])⟩
theorem vals_each {H : L2.Hp} : ∀ {ts : List T} {vs : List L2.V} {us : List Value}, ts.length = vs.length → Vals vs us → EachIs (fun u (p : T × L2.V) => RelV p.2 u) us (ts.zip vs)
  | [], [], _, _, .nil => .nil
  | t :: ts, v :: vs, _, h, .cons r rs => .cons r (vals_each (H := H) (by simpa using h) rs)
theorem each_vals : ∀ {ps : List (T × L2.V)} {us : List Value}, EachIs (fun u (p : T × L2.V) => RelV p.2 u) us ps → Vals (ps.map (·.2)) us
  | [], _, .nil => .nil
  | p :: ps, _, .cons r rs => .cons r (each_vals rs)
theorem each_reads {pins : List (Addr × Obj)} {s : Shared} {σ : L2.St} {H F : L2.Hp} {st : St} {B : Nat} (hD : D.K = X.K) (I : Inv X pins σ H s) (sm : Sim D B H F st) : ∀ {ts : List T} {vs : List L2.V} {us : List Value}, RepVs D F ts vs → Vals vs us → pureTs ts = true → EachIs (fun u (p : T × L2.V) => ∃ as, Reads s.heap u (toD p.1) as) us (ts.zip vs)
  | [], _, _, r, hv, _ => by
    rw [show _ = [] from r] at hv ⊢
    cases hv
    exact .nil
  | t :: ts, _, _, r, hv, hp => by
    obtain ⟨v, ws, rfl, r1, r2⟩ := r
    cases hv with
    | cons rv rvs =>
      simp only [pureTs, Bool.and_eq_true] at hp
      rw [List.zip_cons_cons]
      exact .cons (L2.Dp.reads I _ _ _ ((Dp.pure st t hp.1).to hD sm r1) rv) (each_reads hD I sm r2 rvs hp.2)
theorem cr_srt (hD : D.K = X.K) (hu : X.A.units + 65 < cLine) : CallR X (.builtin "sorted") (rSrt D) := by
  intro pins s σ H xs us Q I r h
  obtain ⟨a, vs, ts, B, F, st, rfl, hS, ra, sm, ok, q⟩ := h
  obtain ⟨its, rv, hl, hz⟩ := I.list (hD ▸ hS)
  rw [L2.Vals.ref1 r]
  simp only [srtOk, Bool.and_eq_true, List.all_eq_true, Bool.or_eq_true] at ok
  obtain ⟨⟨⟨hp, ho⟩, hal⟩, hk⟩ := ok
  have ho' := ho
  simp only [okDs, Bool.and_eq_true, decide_eq_true_eq] at ho'
  obtain ⟨z1, z2, z3⟩ := zip_rep ra
  have mem1 : ∀ p ∈ ts.zip vs, p.1 ∈ ts := fun p hp => by
    have : p.1 ∈ (ts.zip vs).map (·.1) := List.mem_map.mpr ⟨p, hp, rfl⟩
    rw [z2] at this; exact this
  have al : PySem.W.AllAlike ((ts.zip vs).map fun p => toD p.1) := by
    intro d hd d' hd'
    obtain ⟨p, hp, rfl⟩ := List.mem_map.mp hd
    obtain ⟨p', hp', rfl⟩ := List.mem_map.mp hd'
    exact alk_to _ _ (hal _ (mem1 p hp) _ (mem1 p' hp'))
  have sk : PySem.W.Sortable ((ts.zip vs).map fun p => toD p.1) := by
    rcases hk with hk | hk
    · refine .inl fun d hd => ?_
      obtain ⟨p, hp, rfl⟩ := List.mem_map.mp hd
      have := hk _ (mem1 p hp)
      generalize p.1 = t at this ⊢
      cases t <;> simp [isTup1] at this
      rename_i l
      cases l <;> simp at this
      exact ⟨_, _, rfl⟩
    · refine .inr fun d hd => ?_
      obtain ⟨p, hp, rfl⟩ := List.mem_map.mp hd
      have h1 := hk _ (mem1 p hp)
      have h2 := hal _ (mem1 p hp) _ (mem1 p hp)
      generalize p.1 = t at h1 h2 ⊢
      cases t <;> simp [noTup, alk] at h1 h2 <;> simp [toD]
  have lz : (ts.zip vs).length = ts.length := by rw [List.length_zip, ra.length, Nat.min_self]
  refine PySem.W.sorted_data (R := fun u (p : T × L2.V) => RelV p.2 u) (enc := fun p => toD p.1) hl.isList (vals_each (H := H) ra.length rv) (each_reads hD I sm ra rv hp) al sk (by rw [lz, ra.length]; exact hz) (fun p hp => ?_) fun out hlen he => ?_
  · have h1 := depTs_mem ho'.1 _ (mem1 p hp)
    rw [dep_toD]; omega
  have le_eq : ∀ x ∈ ts.zip vs, ∀ y ∈ ts.zip vs, PySem.W.dataLe false (fun p : T × L2.V => toD p.1) x y = (fun x y => !ltT y x) x.1 y.1 := fun x hx y hy => by
    rw [PySem.W.dataLe_eq]
    show (!PySem.W.dataLt (toD y.1) (toD x.1)) = _
    rw [← lt_to _ _ (hal _ (mem1 y hy) _ (mem1 x hx)) (pure_isD _ (pureTs_mem hp _ (mem1 y hy))) (pure_isD _ (pureTs_mem hp _ (mem1 x hx)))]
  have mt : ((ts.zip vs).mergeSort (PySem.W.dataLe false fun p : T × L2.V => toD p.1)).map (·.1) = msort ts := by
    rw [List.map_mergeSort (s := fun x y => !ltT y x) le_eq, z2]
    rfl
  have rp := rep_of_pairs (D := D) (F := F) (ps := (ts.zip vs).mergeSort (PySem.W.dataLe false fun p : T × L2.V => toD p.1)) fun p hp => z1 p ((List.mergeSort_perm _ _).mem_iff.mp hp)
  rw [mt] at rp
  have hlm : (msort ts).length = ts.length := by unfold msort; exact List.length_mergeSort ..
  obtain ⟨ep, he'⟩ := PyProof.Rows.sortedAll_at s.heap its out.toArray
  have hsz : (((ts.zip vs).mergeSort (PySem.W.dataLe false fun p : T × L2.V => toD p.1)).map (·.2)).length ≤ sizeLine := by
    rw [List.length_map, List.length_mergeSort, lz, ra.length]; exact hz
  exact ⟨.ref _, L2.upd H (s.heap.objs.size + 1) (.lst _), I.laid (t' := s.toks) (fun _ _ => PyProof.Rows.sortedAll_old) (Nat.le_succ _) ⟨hsz, out, ep, each_vals he, he'⟩, rfl,
    q _ _ (I.hok.fresh (Nat.le_succ _)) rp (by rw [hlm, ra.length, size_eq]; exact hz)⟩
end Mo

set_option Elab.async false
set_option linter.all false
set_option maxRecDepth 100000
set_option autoImplicit false
namespace Mo
open PySem PyProof.Rows
open L2 (Inv EP TP AP SP RelV Vals OpR UnR CallR VK R2 PE PT PW PA PO PS PSs Gl Vis Loc)

/-- far above all draws -/
@[irreducible] def BIG : Nat := 2 ^ 300000

theorem End.mono {D : Wd} {B B' : Nat} {F F' : L2.Hp} {R : TK} {Q : VK} (e : End D B F R Q) (h : L2.Same F F') (hb : B = B') : End D B' F' R Q := by
  subst hb
  exact fun t st r v H' F2 f s q => e t st r v H' F2 (h.trans f) s q

def EndB (D : Wd) (B : Nat) (F : L2.Hp) (R : Bool → St → Prop) (Q : Bool → L2.Hp → Prop) : Prop :=
  ∀ b st, R b st → ∀ H' F', L2.Same F F' → Sim D B H' F' st → Q b H'
def EndA (D : Wd) (B n : Nat) (F : L2.Hp) (R : List T → St → Prop) (Q : List L2.V → L2.Hp → Prop) : Prop :=
  ∀ ts st, R ts st → ts.length = n → ∀ vs H' F', L2.Same F F' → Sim D B H' F' st → RepVs D F' ts vs → Q vs H'
def EndO (D : Wd) (B : Nat) (F : L2.Hp) (R : Option Int → St → Prop) (Q : Option Int → L2.Hp → Prop) : Prop :=
  ∀ o st, R o st → ∀ H' F', L2.Same F F' → Sim D B H' F' st → Q o H'

def liftE (D : Wd) (c : Nat) (w : Env → St → TK → Prop) : L2.TE := fun σ H Q =>
  ∃ env st B F R, EnvR D F env σ ∧ Sim D B H F st ∧ B + c ≤ BIG ∧ w env st R ∧ End D (B + c) F R Q
def liftT (D : Wd) (c : Nat) (w : Env → St → (Bool → St → Prop) → Prop) : L2.TT := fun σ H Q =>
  ∃ env st B F R, EnvR D F env σ ∧ Sim D B H F st ∧ B + c ≤ BIG ∧ w env st R ∧ EndB D (B + c) F R Q
def liftA (D : Wd) (c n : Nat) (w : Env → St → (List T → St → Prop) → Prop) : L2.TA := fun σ H Q =>
  ∃ env st B F R, EnvR D F env σ ∧ Sim D B H F st ∧ B + c ≤ BIG ∧ w env st R ∧ EndA D (B + c) n F R Q
def liftO (D : Wd) (c : Nat) (w : Env → St → (Option Int → St → Prop) → Prop) : L2.TO := fun σ H Q =>
  ∃ env st B F R, EnvR D F env σ ∧ Sim D B H F st ∧ B + c ≤ BIG ∧ w env st R ∧ EndO D (B + c) F R Q
section
variable {D : Wd} {c : Nat} {env : Env} {σ : L2.St} {st : St} {B : Nat} {F H : L2.Hp}
theorem lE {w : Env → St → TK → Prop} {R : TK} {Q : VK} (er : EnvR D F env σ) (sm : Sim D B H F st) (hb : B + c ≤ BIG) (h : w env st R)
    (k : ∀ t st1 v H1 F1, R t st1 → L2.Same F F1 → Sim D (B + c) H1 F1 st1 → RepV D F1 t v → EnvR D F1 env σ → Q v H1) : liftE D c w σ H Q :=
  ⟨env, st, B, F, R, er, sm, hb, h, fun t st1 r v H1 F1 f s q => k t st1 v H1 F1 r f s q (er.mono f)⟩
theorem lT {w : Env → St → (Bool → St → Prop) → Prop} {R : Bool → St → Prop} {Q : Bool → L2.Hp → Prop} (er : EnvR D F env σ) (sm : Sim D B H F st) (hb : B + c ≤ BIG) (h : w env st R)
    (k : ∀ b st1 H1 F1, R b st1 → L2.Same F F1 → Sim D (B + c) H1 F1 st1 → EnvR D F1 env σ → Q b H1) : liftT D c w σ H Q :=
  ⟨env, st, B, F, R, er, sm, hb, h, fun t st1 r H1 F1 f s => k t st1 H1 F1 r f s (er.mono f)⟩
theorem lA {n : Nat} {w : Env → St → (List T → St → Prop) → Prop} {R : List T → St → Prop} {Q : List L2.V → L2.Hp → Prop} (er : EnvR D F env σ) (sm : Sim D B H F st) (hb : B + c ≤ BIG) (h : w env st R)
    (k : ∀ ts st1 vs H1 F1, R ts st1 → ts.length = n → L2.Same F F1 → Sim D (B + c) H1 F1 st1 → RepVs D F1 ts vs → EnvR D F1 env σ → Q vs H1) : liftA D c n w σ H Q :=
  ⟨env, st, B, F, R, er, sm, hb, h, fun t st1 r l v H1 F1 f s q => k t st1 v H1 F1 r l f s q (er.mono f)⟩
theorem lO {w : Env → St → (Option Int → St → Prop) → Prop} {R : Option Int → St → Prop} {Q : Option Int → L2.Hp → Prop} (er : EnvR D F env σ) (sm : Sim D B H F st) (hb : B + c ≤ BIG) (h : w env st R)
    (k : ∀ o st1 H1 F1, R o st1 → L2.Same F F1 → Sim D (B + c) H1 F1 st1 → EnvR D F1 env σ → Q o H1) : liftO D c w σ H Q :=
  ⟨env, st, B, F, R, er, sm, hb, h, fun t st1 r H1 F1 f s => k t st1 H1 F1 r f s (er.mono f)⟩
end

/-- a def's promise -/
def spG (D : Wd) (c : Nat) (call : List T → St → EK → TK → Prop) : List L2.V → L2.Hp → VK → Prop := fun vs H Q =>
  ∃ ts st B F R, RepVs D F ts vs ∧ Sim D B H F st ∧ B + c ≤ BIG ∧ call ts st noE R ∧ End D (B + c) F R Q
structure FnG (P : Program) (w : World) (K : PySem.W.Frag) (mg : Str → Option Value) (base : Heap) (k : Nat) (f : Addr) (sp : List L2.V → L2.Hp → VK → Prop) : Prop where
  kp : PySem.W.keepIn K (.ref f) = true
  run : ∀ (A : Around) (outer : List PySem.Env) (s : Shared) (H : L2.Hp) (us : List Value) (vs : List L2.V) (Q : VK), L2.Room k A → A.guards = some [] → L2.Env0 P w K mg base A outer s H → Vals vs us → sp vs H Q →
    codeAny (model P w) A (.call (.ref f) ⟨us, []⟩) (fun r s' => ∃ u, r = .ok (.ret u) ∧ L2.CE outer P w H s Q u s') s

section
variable {X : L2.Cx} {k : Nat} {f : Addr} {sp : List L2.V → L2.Hp → VK → Prop} {x : Str} {e : Expr} {es : List Expr} {t : L2.TA} {p pos : Pos}
theorem FnG.call {pins : List (Addr × Obj)} {σ : L2.St} {H : L2.Hp} {s : Shared} {Q : VK} {us : List Value} {vs : List L2.V} (F : FnG X.prog X.w X.K X.mg X.base k f sp) (hr : L2.Room k X.A) (hg : X.A.guards = some [])
    (I : Inv X pins σ H s) (r : Vals vs us) (h : sp vs H Q) : wpAny (model X.prog X.w) X.A (PySem.call (.ref f) us) (EP X pins σ Q) X.xe s :=
  wpAny_call (codeAny_mono (F.run X.A X.stack s H us vs Q hr hg I.env0 r h) fun r s' hq => by
    obtain ⟨u, rfl, hc⟩ := hq
    exact I.after hc)
def tCallG (sp : List L2.V → L2.Hp → VK → Prop) (t : L2.TA) : L2.TE := fun σ H Q => t σ H fun vs H1 => sp vs H1 Q
theorem pe_callG (F : FnG X.prog X.w X.K X.mg X.base k f sp) (hr : L2.Room k X.A) (hgd : X.A.guards = some []) (hg : Gl X x) (hm : X.mg x = some (.ref f)) (ha : PA X (e :: es) t) (hdb : (x == ("__debug__" : Str)) = false)
    (he : starEach (e :: es) X.env = (false, eval e X.env) :: starEach es X.env) (hpl : (backTo pos (starEach es X.env)).any (·.1) = false) : PE X (.Call (.Name x p) (e :: es) [] pos) (tCallG sp t) := by
  refine ⟨fun pins s σ H Q I h => ?_⟩
  refine wpAny_Call_Name_kw (L2.ld_glob I hg hm ?_ hdb)
  exact PySem.W.callWith_K (h₀ := X.base) I.ok.mod.kin F.kp (L2.thn (ha.run pos pins s σ H _ I h) fun us s1 ⟨vs, H1, I1, r, q⟩ => ⟨I1.kIn, F.call hr hgd I1 r q⟩) he hpl
theorem pe_callG0 (F : FnG X.prog X.w X.K X.mg X.base k f sp) (hr : L2.Room k X.A) (hgd : X.A.guards = some []) (hg : Gl X x) (hm : X.mg x = some (.ref f)) (hdb : (x == ("__debug__" : Str)) = false) :
    PE X (.Call (.Name x p) [] [] pos) (fun σ H Q => sp [] H Q) := by
  refine ⟨fun pins s σ H Q I h => ?_⟩
  refine wpAny_Call_Name_kw (L2.ld_glob I hg hm ?_ hdb)
  exact PySem.W.callWith_K0 I.kIn F.kp (F.call (us := []) hr hgd I .nil h)
/-- the def is in a slot -/
theorem pe_callGL {i : Nat} {S : Addr → (List L2.V → L2.Hp → VK → Prop) → Prop} (F : ∀ f sp, S f sp → FnG X.prog X.w X.K X.mg X.base k f sp) (hr : L2.Room k X.A) (hgd : X.A.guards = some []) (hN : X.N[i]? = some x) (hv : Vis X.env.scope x) (ha : PA X (e :: es) t) (hdb : (x == ("__debug__" : Str)) = false) (hcd : (x == ("__classdict__" : Str)) = false)
    (he : starEach (e :: es) X.env = (false, eval e X.env) :: starEach es X.env) (hpl : (backTo pos (starEach es X.env)).any (·.1) = false) :
    PE X (.Call (.Name x p) (e :: es) [] pos) (fun σ H Q => ∃ f sp, σ[i]? = some (some (.ref f)) ∧ S f sp ∧ t σ H fun vs H1 => sp vs H1 Q) := by
  refine ⟨fun pins s σ H Q I h => ?_⟩
  obtain ⟨f, sp, hs, hS, ht⟩ := h
  refine wpAny_Call_Name_kw (L2.thn ((L2.pe_var (pos := p) hN hv hdb hcd).run pins s σ H (fun v H1 => v = .ref f ∧ H1 = H) I ⟨.ref f, hs, rfl, rfl⟩) fun u s1 ⟨v, H1, I1, r1, q1⟩ => ?_)
  obtain ⟨rfl, rfl⟩ := q1
  cases r1
  exact PySem.W.callWith_K (h₀ := X.base) I.ok.mod.kin (F f sp hS).kp (L2.thn (ha.run pos pins s1 σ _ _ I1 ht) fun us s2 ⟨vs, H2, I2, r, q⟩ => ⟨I2.kIn, (F f sp hS).call hr hgd I2 r q⟩) he hpl
end
end Mo

set_option Elab.async false
set_option linter.all false
set_option maxRecDepth 100000
set_option autoImplicit false
namespace Mo
open PySem PyProof.Rows
open L2 (Inv EP TP AP SP RelV Vals OpR UnR CallR VK R2 PE PT PW PA PO PS PSs Gl Vis Loc)

/-- all that a def's body knows -/
structure Lv where
  D : Wd
  P : Program
  w : World
  mg : Str → Option Value
  base : Heap
  g : SE
  C : Cxt
  cc : Nat → Nat
  lev : Nat
structure Lv.Ok (V : Lv) : Prop where
  fns : ∀ i x, V.g.fns[i]? = some x → V.mg x = some (.ref (V.D.fa i)) ∧ FnG V.P V.w V.D.K V.mg V.base V.lev (V.D.fa i) (spG V.D (V.cc i) (V.C.call i)) ∧ V.cc i ≤ V.cc 1000000
  nf : V.C.nf = V.g.fns.length
  cons : ∀ i x t, V.g.cons[i]? = some x → V.C.glob i = some t → ∃ u v, V.mg x = some u ∧ RelV v u ∧ RepV V.D (fun _ => none) t v
  blt : ∀ x, V.g.blt.contains x = true → V.mg x = none
  rp : V.C.rp = rpT
structure GX (V : Lv) (Y : L2.Cx) (N : List Str) (sc : Scope) : Prop where
  prog : Y.prog = V.P
  w : Y.w = V.w
  K : V.D.K = Y.K
  mg : Y.mg = V.mg
  base : Y.base = V.base
  nn : Y.N = N
  nd : N.Nodup
  sce : Y.env.scope = sc
  kd : sc.kind = .function
  calm : Y.calm = true
  gd : Y.A.guards = some []
  room : L2.Room V.lev Y.A
  ok : V.Ok

theorem PE.imp {Y : L2.Cx} {e : Expr} {t t' : L2.TE} (h : PE Y e t) (k : ∀ σ H Q, t' σ H Q → t σ H Q) : PE Y e t' := ⟨fun pins s σ H Q I q => h.run pins s σ H Q I (k _ _ _ q)⟩
theorem PT.imp {Y : L2.Cx} {e : Expr} {t t' : L2.TT} (h : PT Y e t) (k : ∀ σ H Q, t' σ H Q → t σ H Q) : PT Y e t' := ⟨fun pins s σ H Q I q => h.run pins s σ H Q I (k _ _ _ q)⟩
theorem PW.imp {Y : L2.Cx} {e : Expr} {t t' : L2.TT} (h : PW Y e t) (k : ∀ σ H Q, t' σ H Q → t σ H Q) : PW Y e t' := ⟨fun wh pins s σ H Q I q => h.run wh pins s σ H Q I (k _ _ _ q)⟩
theorem PA.imp {Y : L2.Cx} {e : List Expr} {t t' : L2.TA} (h : PA Y e t) (k : ∀ σ H Q, t' σ H Q → t σ H Q) : PA Y e t' := ⟨fun p pins s σ H Q I q => h.run p pins s σ H Q I (k _ _ _ q)⟩

abbrev LE (V : Lv) (x : X) : L2.TE := liftE V.D (cE V.cc x) fun env st R => wpE V.C x env st noE R
abbrev LT (V : Lv) (x : X) : L2.TT := liftT V.D (cE V.cc x) fun env st R => wpT V.C x env st noE R
abbrev LA (V : Lv) (xs : List X) : L2.TA := liftA V.D (cEs V.cc xs) xs.length fun env st R => wpEs V.C xs env st noE R
abbrev LO (V : Lv) (x : Option X) : L2.TO := liftO V.D (cO V.cc x) fun env st R => wpO V.C x env st noE R

theorem FnG.at {V : Lv} {Y : L2.Cx} {N : List Str} {sc : Scope} (G : GX V Y N sc) {i : Nat} {x : Str} (h : V.g.fns[i]? = some x) : Y.mg x = some (.ref (V.D.fa i)) ∧ FnG Y.prog Y.w Y.K Y.mg Y.base V.lev (V.D.fa i) (spG V.D (V.cc i) (V.C.call i)) := by
  obtain ⟨h1, h2, _⟩ := G.ok.fns i x h
  rw [G.prog, G.w, ← G.K, G.mg, G.base]
  exact ⟨h1, h2⟩

theorem visOf {sc : Scope} {x : Str} (h : isV sc x = true) : Vis sc x := by
  unfold isV at h
  split at h <;> first | exact .inl (by assumption) | exact .inr (.inl (by assumption)) | exact .inr (.inr (by assumption)) | cases h
theorem globOf {sc : Scope} {x : Str} (h : isG sc x = true) : sc.names.lookup x = some .globalImplicit := by
  unfold isG at h
  split at h <;> first | assumption | cases h
theorem okN1 {x : Str} (h : okN x = true) : (x == ("__debug__" : Str)) = false ∧ (x == ("__classdict__" : Str)) = false := by
  unfold okN at h
  simp only [Bool.and_eq_true, Bool.not_eq_true'] at h
  exact h
theorem slotOf {N : List Str} {x : Str} {i : Nat} (h : slot N x = some i) : N[i]? = some x := by
  unfold slot at h
  exact List.getElem?_eq_some_iff.mpr ⟨(List.idxOf?_eq_some_iff.mp h).1, by
    have := (List.idxOf?_eq_some_iff.mp h).2.1
    simpa using this⟩
theorem mapO_cons {α β : Type} {f : α → Option β} {x : α} {xs : List α} {r : List β} (h : mapO f (x :: xs) = some r) : ∃ y ys, r = y :: ys ∧ f x = some y ∧ mapO f xs = some ys := by
  unfold mapO at h
  split at h
  · rename_i y e
    split at h
    · rename_i ys e2
      cases h
      exact ⟨y, ys, rfl, e, e2⟩
    · cases h
  · cases h
theorem mapO_nil {α β : Type} {f : α → Option β} {r : List β} (h : mapO f [] = some r) : r = [] := by
  cases h; rfl

section
variable {V : Lv} {Y : L2.Cx} {N : List Str} {sc : Scope} (G : GX V Y N sc)
include G
theorem s_var {i : Nat} {y : Str} {pos : Pos} (ho : okN y = true) (hv : isV sc y = true) (hi : slot N y = some i) : PE Y (.Name y pos) (LE V (.var i)) := by
  obtain ⟨d1, d2⟩ := okN1 ho
  refine PE.imp (L2.pe_var (i := i) (by rw [G.nn]; exact slotOf hi) (by rw [G.sce]; exact visOf hv) d1 d2) fun σ H Q h => ?_
  obtain ⟨env, st, B, F, R, er, sm, hb, w, en⟩ := h
  simp only [wpE] at w
  simp only [cE] at hb en
  split at w
  · rename_i v e
    obtain ⟨u, e1, r1⟩ := er.get e
    exact ⟨u, e1, en.here w sm r1⟩
  · exact w.elim
theorem s_cons {i : Nat} {y : Str} {pos : Pos} (ho : okN y = true) (hg : isG sc y = true) (hi : V.g.cons.idxOf? y = some i) : PE Y (.Name y pos) (LE V (.glob i)) := by
  refine ⟨fun pins s σ H Q I h => ?_⟩
  obtain ⟨env, st, B, F, R, er, sm, hb, w, en⟩ := h
  simp only [wpE] at w
  simp only [cE] at hb en
  split at w
  · rename_i t e
    obtain ⟨u, v, h1, h2, h3⟩ := G.ok.cons i y t (slotOf (N := V.g.cons) hi) e
    exact L2.ld_glob I (show Y.env.scope.names.lookup y = _ by rw [G.sce]; exact globOf hg) (by rw [G.mg]; exact h1) ⟨v, H, I, h2, en.here w sm (h3.mono (fun _ _ z => by cases z))⟩ (okN1 ho).1
  · exact w.elim
theorem s_fnv {i : Nat} {y : Str} {pos : Pos} (ho : okN y = true) (hg : isG sc y = true) (hi : V.g.fns.idxOf? y = some i) : PE Y (.Name y pos) (LE V (.fnv i)) := by
  refine PE.imp (L2.pe_glob (v := .ref (V.D.fa i)) (show Y.env.scope.names.lookup y = _ by rw [G.sce]; exact globOf hg) (FnG.at G (slotOf (N := V.g.fns) hi)).1 rfl (okN1 ho).1) fun σ H Q h => ?_
  obtain ⟨env, st, B, F, R, er, sm, hb, w, en⟩ := h
  simp only [wpE] at w
  simp only [cE] at hb en
  exact en.here w sm rfl
variable {a b c : Expr} {x y z : X} {pos : Pos}
theorem s_bin {op : Operator} {o : Op} (ho : opO op = some o) (ha : PE Y a (LE V x)) (hb : PE Y b (LE V y)) : PE Y (.BinOp a op b pos) (LE V (.bin o x y)) := by
  have hop := op_bin (D := V.D) (X := Y) G.K o
  rw [← opO_eq ho] at hop
  refine PE.imp (L2.pe_op hop ha hb) fun σ H Q h => ?_
  obtain ⟨env, st, B, F, R, er, sm, hb, w, en⟩ := h
  simp only [wpE] at w
  simp only [cE] at hb en
  refine lE er sm (by omega) w fun t st1 v H1 F1 r1 f1 sm1 q1 e1 => ?_
  refine lE e1 sm1 (by omega) r1 fun u st2 v2 H2 F2 r2 f2 sm2 q2 e2 => ?_
  exact ⟨t, u, st2, _, F2, R, q1.mono f2, q2, sm2, r2, en.mono (f1.trans f2) (by omega)⟩
theorem s_cmp {op : CmpOp} {o : Co} (ho : coO op = some o) (ha : PE Y a (LE V x)) (hb : PE Y b (LE V y)) (hm : behindInMarks op b = false) : PE Y (.Compare a [op] [b] pos) (LE V (.cmp o x y)) := by
  have hop := op_cmp (D := V.D) (X := Y) G.K (by have := G.room.un; omega) o
  rw [← coO_eq ho] at hop
  refine PE.imp (L2.pe_cmpR hop ha hb hm) fun σ H Q h => ?_
  obtain ⟨env, st, B, F, R, er, sm, hb, w, en⟩ := h
  simp only [wpE] at w
  simp only [cE] at hb en
  refine lE er sm (by omega) w fun t st1 v H1 F1 r1 f1 sm1 q1 e1 => ?_
  refine lE e1 sm1 (by omega) r1 fun u st2 v2 H2 F2 r2 f2 sm2 q2 e2 => ?_
  exact ⟨t, u, st2, _, F2, fun k => R (.bl k) st2, q1.mono f2, q2, sm2, r2, fun k hk => (en.mono (f1.trans f2) (B' := B + cE V.cc x + cE V.cc y) (by omega)).here hk sm2 rfl⟩

omit G in
theorem s_int {i : Int} {j} : PE Y (.Constant (.int i) j pos) (LE V (.int i)) := PE.imp L2.pe_int fun σ H Q h => by
  obtain ⟨env, st, B, F, R, er, sm, hb, w, en⟩ := h
  simp only [wpE] at w
  simp only [cE] at hb en
  exact en.here w sm rfl
omit G in
theorem s_str {s : Str} {j} : PE Y (.Constant (.str s) j pos) (LE V (.str s.cps.toList)) := PE.imp L2.pe_str fun σ H Q h => by
  obtain ⟨env, st, B, F, R, er, sm, hb, w, en⟩ := h
  simp only [wpE] at w
  simp only [cE] at hb en
  exact en.here w sm (by show L2.V.str s = .str (cpsS s.cps.toList); rw [cps_toList])
omit G in
theorem s_bl {b : Bool} {j} : PE Y (.Constant (.bool b) j pos) (LE V (.bl b)) := PE.imp L2.pe_bl fun σ H Q h => by
  obtain ⟨env, st, B, F, R, er, sm, hb, w, en⟩ := h
  simp only [wpE] at w
  simp only [cE] at hb en
  exact en.here w sm rfl
omit G in
theorem s_non {j} : PE Y (.Constant .none j pos) (LE V .non) := PE.imp L2.pe_non fun σ H Q h => by
  obtain ⟨env, st, B, F, R, er, sm, hb, w, en⟩ := h
  simp only [wpE] at w
  simp only [cE] at hb en
  exact en.here w sm rfl
omit G in
theorem s_neg (ha : PE Y a (LE V x)) : PE Y (.UnaryOp .USub a pos) (LE V (.neg x)) := PE.imp (L2.pe_un L2.un_neg ha) fun σ H Q h => by
  obtain ⟨env, st, B, F, R, er, sm, hb, w, en⟩ := h
  simp only [wpE] at w
  simp only [cE] at hb en
  refine lE er sm (by omega) w fun t st1 v H1 F1 r1 f1 sm1 q1 e1 => ?_
  cases t <;> simp only at r1
  cases q1
  exact ⟨_, rfl, (en.mono f1 rfl).here r1 sm1 rfl⟩
theorem s_not (ha : PE Y a (LE V x)) : PE Y (.UnaryOp .Not a pos) (LE V (.not x)) := PE.imp (L2.pe_notT ha) fun σ H Q h => by
  obtain ⟨env, st, B, F, R, er, sm, hb, w, en⟩ := h
  simp only [wpE] at w
  simp only [cE] at hb en
  refine lE er sm (by omega) w fun t st1 v H1 F1 r1 f1 sm1 q1 e1 => ?_
  obtain ⟨k, hk, r2⟩ := tru_of G.K q1 sm1 r1
  exact ⟨k, hk, (en.mono f1 rfl).here r2 sm1 rfl⟩
theorem s_and {rest : List Expr} (ha : PE Y a (LE V x)) (hb : PE Y (.BoolOp .And (b :: rest) pos) (LE V y)) : PE Y (.BoolOp .And (a :: b :: rest) pos) (LE V (.and x y)) := PE.imp (L2.pe_andT ha hb) fun σ H Q h => by
  obtain ⟨env, st, B, F, R, er, sm, hb, w, en⟩ := h
  simp only [wpE] at w
  simp only [cE] at hb en
  refine lE er sm (by omega) w fun t st1 v H1 F1 r1 f1 sm1 q1 e1 => ?_
  obtain ⟨k, hk, r2⟩ := tru_of G.K q1 sm1 r1
  refine ⟨k, hk, ?_⟩
  by_cases z : k = true
  · rw [if_pos z] at r2 ⊢
    exact lE e1 sm1 (by omega) r2 fun u st2 v2 H2 F2 r2 f2 sm2 q2 e2 => (en.mono (f1.trans f2) (by omega)).here r2 sm2 q2
  · rw [if_neg z] at r2 ⊢
    exact (en.mono f1 rfl).here r2 (sm1.more (by omega)) q1
theorem s_or {rest : List Expr} (ha : PE Y a (LE V x)) (hb : PE Y (.BoolOp .Or (b :: rest) pos) (LE V y)) : PE Y (.BoolOp .Or (a :: b :: rest) pos) (LE V (.or x y)) := PE.imp (L2.pe_orT ha hb) fun σ H Q h => by
  obtain ⟨env, st, B, F, R, er, sm, hb, w, en⟩ := h
  simp only [wpE] at w
  simp only [cE] at hb en
  refine lE er sm (by omega) w fun t st1 v H1 F1 r1 f1 sm1 q1 e1 => ?_
  obtain ⟨k, hk, r2⟩ := tru_of G.K q1 sm1 r1
  refine ⟨k, hk, ?_⟩
  by_cases z : k = true
  · rw [if_pos z] at r2 ⊢
    exact (en.mono f1 rfl).here r2 (sm1.more (by omega)) q1
  · rw [if_neg z] at r2 ⊢
    exact lE e1 sm1 (by omega) r2 fun u st2 v2 H2 F2 r2 f2 sm2 q2 e2 => (en.mono (f1.trans f2) (by omega)).here r2 sm2 q2
omit G in
theorem EndB.mono {D : Wd} {B B' : Nat} {F F' : L2.Hp} {R : Bool → St → Prop} {Q : Bool → L2.Hp → Prop} (e : EndB D B F R Q) (h : L2.Same F F') (hb : B = B') : EndB D B' F' R Q := by
  subst hb
  exact fun t st r H' F2 f s => e t st r H' F2 (h.trans f) s
omit G in
theorem EndB.here {D : Wd} {B : Nat} {F H : L2.Hp} {R : Bool → St → Prop} {Q : Bool → L2.Hp → Prop} {b : Bool} {st : St} (e : EndB D B F R Q) (r : R b st) (s : Sim D B H F st) : Q b H := e b st r H F (L2.Same.refl F) s
omit G in
theorem s_ite (hc : PT Y c (LT V z)) (ha : PE Y a (LE V x)) (hb : PE Y b (LE V y)) : PE Y (.IfExp c a b pos) (LE V (.ite z x y)) := PE.imp (L2.pe_ifExp hc ha hb) fun σ H Q h => by
  obtain ⟨env, st, B, F, R, er, sm, hb, w, en⟩ := h
  simp only [wpE] at w
  simp only [cE] at hb en
  refine lT er sm (by omega) w fun t st1 H1 F1 r1 f1 sm1 e1 => ?_
  by_cases z : t = true
  · rw [if_pos z] at r1 ⊢
    exact lE e1 sm1 (by omega) r1 fun u st2 v2 H2 F2 r2 f2 sm2 q2 e2 => (en.mono (f1.trans f2) rfl).here r2 (sm2.more (by omega)) q2
  · rw [if_neg z] at r1 ⊢
    exact lE e1 sm1 (by omega) r1 fun u st2 v2 H2 F2 r2 f2 sm2 q2 e2 => (en.mono (f1.trans f2) rfl).here r2 (sm2.more (by omega)) q2
theorem s_chain {op op2 : CmpOp} {o p : Co} (ho : coO op = some o) (ho2 : coO op2 = some p) (ha : PE Y a (LE V x)) (hb : PE Y b (LE V y)) (hc : PE Y c (LE V z)) (hm : lastMarks [op, op2] [b, c] = false) :
    PE Y (.Compare a [op, op2] [b, c] pos) (LE V (.chain o p x y z)) := by
  have hop := op_cmp (D := V.D) (X := Y) G.K (by have := G.room.un; omega) o
  rw [← coO_eq ho] at hop
  have hop2 := op_cmp (D := V.D) (X := Y) G.K (by have := G.room.un; omega) p
  rw [← coO_eq ho2] at hop2
  refine PE.imp (L2.pe_chain hop hop2 ha hb hc hm) fun σ H Q h => ?_
  obtain ⟨env, st, B, F, R, er, sm, hb, w, en⟩ := h
  simp only [wpE] at w
  simp only [cE] at hb en
  refine lE er sm (by omega) w fun t st1 v H1 F1 r1 f1 sm1 q1 e1 => ?_
  refine lE e1 sm1 (by omega) r1 fun u st2 v2 H2 F2 r2 f2 sm2 q2 e2 => ?_
  refine ⟨t, u, st2, _, F2, _, q1.mono f2, q2, sm2, r2, fun k hk => ⟨k, rfl, ?_⟩⟩
  by_cases z : k = true
  · rw [if_pos z] at hk ⊢
    refine lE e2 sm2 (by omega) hk fun t3 st3 v3 H3 F3 r3 f3 sm3 q3 e3 => ?_
    exact ⟨u, t3, st3, _, F3, fun k => R (.bl k) st3, q2.mono f3, q3, sm3, r3, fun k hk => (en.mono (f1.trans (f2.trans f3)) (B' := B + cE V.cc x + cE V.cc y + cE V.cc _) (by omega)).here hk sm3 rfl⟩
  · rw [if_neg z] at hk ⊢
    exact (en.mono (f1.trans f2) rfl).here hk (sm2.more (by omega)) rfl
/-! tests -/
omit G in
theorem t_not (ha : PT Y a (LT V x)) : PT Y (.UnaryOp .Not a pos) (LT V (.not x)) := PT.imp (L2.pt_not ha) fun σ H Q h => by
  obtain ⟨env, st, B, F, R, er, sm, hb, w, en⟩ := h
  simp only [wpT] at w
  simp only [cE] at hb en
  exact lT er sm (by omega) w fun t st1 H1 F1 r1 f1 sm1 e1 => (en.mono f1 rfl).here r1 sm1
omit G in
theorem w_and {rest : List Expr} (ha : PT Y a (LT V x)) (hb : PW Y (.BoolOp .And (b :: rest) pos) (LT V y)) : PW Y (.BoolOp .And (a :: b :: rest) pos) (LT V (.and x y)) := PW.imp (L2.pw_and ha hb) fun σ H Q h => by
  obtain ⟨env, st, B, F, R, er, sm, hb, w, en⟩ := h
  simp only [wpT] at w
  simp only [cE] at hb en
  refine lT er sm (by omega) w fun t st1 H1 F1 r1 f1 sm1 e1 => ?_
  by_cases z : t = true
  · rw [if_pos z] at r1 ⊢
    exact lT e1 sm1 (by omega) r1 fun t st2 H2 F2 r2 f2 sm2 e2 => (en.mono (f1.trans f2) (by omega)).here r2 sm2
  · rw [if_neg z] at r1 ⊢
    exact (en.mono f1 rfl).here r1 (sm1.more (by omega))
omit G in
theorem w_or {rest : List Expr} (ha : PT Y a (LT V x)) (hb : PW Y (.BoolOp .Or (b :: rest) pos) (LT V y)) : PW Y (.BoolOp .Or (a :: b :: rest) pos) (LT V (.or x y)) := PW.imp (L2.pw_or ha hb) fun σ H Q h => by
  obtain ⟨env, st, B, F, R, er, sm, hb, w, en⟩ := h
  simp only [wpT] at w
  simp only [cE] at hb en
  refine lT er sm (by omega) w fun t st1 H1 F1 r1 f1 sm1 e1 => ?_
  by_cases z : t = true
  · rw [if_pos z] at r1 ⊢
    exact (en.mono f1 rfl).here r1 (sm1.more (by omega))
  · rw [if_neg z] at r1 ⊢
    exact lT e1 sm1 (by omega) r1 fun t st2 H2 F2 r2 f2 sm2 e2 => (en.mono (f1.trans f2) (by omega)).here r2 sm2
omit G in
theorem t_ite (hc : PT Y c (LT V z)) (ha : PT Y a (LT V x)) (hb : PT Y b (LT V y)) : PT Y (.IfExp c a b pos) (LT V (.ite z x y)) := by
  refine ⟨fun pins s σ H Q I h => ?_⟩
  obtain ⟨env, st, B, F, R, er, sm, hb', w, en⟩ := h
  simp only [wpT] at w
  simp only [cE] at hb' en
  refine isTrue_IfExp (L2.thn (hc.run pins s σ H (fun t H1 => if t = true then LT V x σ H1 Q else LT V y σ H1 Q) I (lT er sm (by omega) w fun t st1 H1 F1 r1 f1 sm1 e1 => ?_)) fun t s1 ⟨H1, I1, q1⟩ => ?_)
  · by_cases z : t = true
    · rw [if_pos z] at r1 ⊢
      exact lT e1 sm1 (by omega) r1 fun t st2 H2 F2 r2 f2 sm2 e2 => (en.mono (f1.trans f2) rfl).here r2 (sm2.more (by omega))
    · rw [if_neg z] at r1 ⊢
      exact lT e1 sm1 (by omega) r1 fun t st2 H2 F2 r2 f2 sm2 e2 => (en.mono (f1.trans f2) rfl).here r2 (sm2.more (by omega))
  · cases t with
    | true => exact ha.run pins s1 σ H1 Q I1 q1
    | false => exact hb.run pins s1 σ H1 Q I1 q1
omit G in
theorem wpT_cmp {C : Cxt} {o : Co} {x y : X} {env : Env} {st : St} {E : EK} {Q : Bool → St → Prop} (h : wpT C (.cmp o x y) env st E Q) : wpE C x env st E fun t s1 => wpE C y env s1 E fun u s2 => cmpSem o t u s2 fun b => Q b s2 := by
  simp only [wpT, wpE, truSem] at h
  exact h
theorem t_cmp {op : CmpOp} {o : Co} (ho : coO op = some o) (ha : PE Y a (LE V x)) (hb : PE Y b (LE V y)) (hm : behindInMarks op b = false) : PT Y (.Compare a [op] [b] pos) (LT V (.cmp o x y)) := by
  have hop := op_cmp (D := V.D) (X := Y) G.K (by have := G.room.un; omega) o
  rw [← coO_eq ho] at hop
  refine PT.imp (L2.pt_cmpR hop ha hb hm) fun σ H Q h => ?_
  obtain ⟨env, st, B, F, R, er, sm, hb, w, en⟩ := h
  have w := wpT_cmp w
  simp only [cE] at hb en
  refine lE er sm (by omega) w fun t st1 v H1 F1 r1 f1 sm1 q1 e1 => ?_
  refine lE e1 sm1 (by omega) r1 fun u st2 v2 H2 F2 r2 f2 sm2 q2 e2 => ?_
  exact ⟨t, u, st2, _, F2, fun k => R k st2, q1.mono f2, q2, sm2, r2, fun k hk => ⟨k, rfl, (en.mono (f1.trans f2) (B' := B + cE V.cc x + cE V.cc y) (by omega)).here hk sm2⟩⟩
theorem t_chain {op op2 : CmpOp} {o p : Co} (ho : coO op = some o) (ho2 : coO op2 = some p) (ha : PE Y a (LE V x)) (hb : PE Y b (LE V y)) (hc : PE Y c (LE V z)) (hm : lastMarks [op, op2] [b, c] = false) :
    PT Y (.Compare a [op, op2] [b, c] pos) (LT V (.chain o p x y z)) := by
  have hop := op_cmp (D := V.D) (X := Y) G.K (by have := G.room.un; omega) o
  rw [← coO_eq ho] at hop
  have hop2 := op_cmp (D := V.D) (X := Y) G.K (by have := G.room.un; omega) p
  rw [← coO_eq ho2] at hop2
  refine PT.imp (L2.pt_chain hop hop2 ha hb hc hm) fun σ H Q h => ?_
  obtain ⟨env, st, B, F, R, er, sm, hb, w, en⟩ := h
  simp only [wpT, wpE, truSem] at w
  simp only [cE] at hb en
  refine lE er sm (by omega) w fun t st1 v H1 F1 r1 f1 sm1 q1 e1 => ?_
  refine lE e1 sm1 (by omega) r1 fun u st2 v2 H2 F2 r2 f2 sm2 q2 e2 => ?_
  refine ⟨t, u, st2, _, F2, _, q1.mono f2, q2, sm2, r2, fun k hk => ⟨k, rfl, ?_⟩⟩
  by_cases z : k = true
  · rw [if_pos z] at hk ⊢
    refine lE e2 sm2 (by omega) hk fun t3 st3 v3 H3 F3 r3 f3 sm3 q3 e3 => ?_
    exact ⟨u, t3, st3, _, F3, fun k => R k st3, q2.mono f3, q3, sm3, r3, fun k hk => ⟨k, rfl, (en.mono (f1.trans (f2.trans f3)) (B' := B + cE V.cc x + cE V.cc y + cE V.cc _) (by omega)).here hk sm3⟩⟩
  · rw [if_neg z] at hk ⊢
    exact ⟨false, rfl, (en.mono (f1.trans f2) rfl).here hk (sm2.more (by omega))⟩
omit G in
def plT : X → Bool
  | .not _ => false
  | .and _ _ => false
  | .or _ _ => false
  | .ite _ _ _ => false
  | _ => true
omit G in
theorem wpT_pl {C : Cxt} {x : X} {env : Env} {st : St} {E : EK} {Q : Bool → St → Prop} (hx : plT x = true) (h : wpT C x env st E Q) : wpE C x env st E fun t s1 => truSem t s1 fun b => Q b s1 := by
  cases x <;> first | (simp only [wpT] at h; exact h) | (simp [plT] at hx)
theorem t_val (ha : PE Y a (LE V x)) (hx : plT x = true) (he : ∀ whole, isTrue a Y.env whole = (do let v ← whole; standAt a.pos; holding [v] (truthy v))) : PT Y a (LT V x) := PT.imp (L2.pt_truth ha he) fun σ H Q h => by
  obtain ⟨env, st, B, F, R, er, sm, hb, w, en⟩ := h
  refine lE er sm hb (wpT_pl hx w) fun t st1 v H1 F1 r1 f1 sm1 q1 e1 => ?_
  obtain ⟨k, hk, r2⟩ := tru_of G.K q1 sm1 r1
  exact ⟨k, hk, (en.mono f1 rfl).here r2 sm1⟩

/-! argument lists -/
omit G in
theorem s_nil : PA Y [] (LA V []) := PA.imp L2.pa_nil fun σ H Q h => by
  obtain ⟨env, st, B, F, R, er, sm, hb, w, en⟩ := h
  simp only [wpEs] at w
  simp only [cEs] at hb en
  exact en [] st w rfl [] H F (L2.Same.refl F) sm rfl
omit G in
theorem s_args {es : List Expr} {xs : List X} (ha : PE Y a (LE V x)) (hr : PA Y es (LA V xs)) (hs : starEach (a :: es) Y.env = (false, eval a Y.env) :: starEach es Y.env) : PA Y (a :: es) (LA V (x :: xs)) := PA.imp (L2.pa_cons ha hr hs) fun σ H Q h => by
  obtain ⟨env, st, B, F, R, er, sm, hb, w, en⟩ := h
  simp only [wpEs] at w
  simp only [cEs] at hb en
  refine lE er sm (by omega) w fun t st1 v H1 F1 r1 f1 sm1 q1 e1 => ?_
  refine lA e1 sm1 (by omega) r1 fun ts st2 vs H2 F2 r2 l2 f2 sm2 q2 e2 => ?_
  exact en (t :: ts) st2 r2 (by simp [l2]) (v :: vs) H2 F2 (f1.trans f2) (sm2.more (by omega)) ⟨v, vs, rfl, q1.mono f2, q2⟩
variable {es : List Expr} {xs : List X}
omit G in
theorem le_size {n : Nat} (h : n ≤ 1000) : n ≤ sizeLine := by rw [sizeLine_eq]; omega
omit G in
theorem s_tup {k} (hl : xs.length ≤ 1000) (ha : PA Y es (LA V xs)) : PE Y (.Tuple es k pos) (LE V (.tup xs)) := PE.imp (L2.pe_tup ha) fun σ H Q h => by
  obtain ⟨env, st, B, F, R, er, sm, hb, w, en⟩ := h
  simp only [wpE] at w
  simp only [cE] at hb en
  refine lA er sm (by omega) w fun ts st2 vs H2 F2 r2 l2 f2 sm2 q2 e2 => ?_
  exact ⟨by rw [← q2.length, l2]; exact le_size hl, fun p hp => (en.mono f2 rfl).tup r2 sm2 hp q2⟩
theorem s_idx (ha : PE Y a (LE V x)) (hb : PE Y b (LE V y)) (hs : L2.PlainIx b) : PE Y (.Subscript a b pos) (LE V (.idx x y)) := PE.imp (L2.pe_ix (ix_sem G.K) ha hb hs) fun σ H Q h => by
  obtain ⟨env, st, B, F, R, er, sm, hb, w, en⟩ := h
  simp only [wpE] at w
  simp only [cE] at hb en
  refine lE er sm (by omega) w fun t st1 v H1 F1 r1 f1 sm1 q1 e1 => ?_
  refine lE e1 sm1 (by omega) r1 fun u st2 v2 H2 F2 r2 f2 sm2 q2 e2 => ?_
  exact ⟨t, u, st2, _, F2, R, q1.mono f2, q2, sm2, r2, en.mono (f1.trans f2) (by omega)⟩
omit G in
theorem s_o0 : PO Y none (LO V none) := ⟨fun pins s σ H Q I h => by
  obtain ⟨env, st, B, F, R, er, sm, hb, w, en⟩ := h
  simp only [wpO] at w
  simp only [cO] at hb en
  exact L2.po_none.run pins s σ H Q I (en none st w H F (L2.Same.refl F) sm)⟩
omit G in
theorem s_o1 (ha : PE Y a (LE V x)) : PO Y (some a) (LO V (some x)) := ⟨fun pins s σ H Q I h => by
  obtain ⟨env, st, B, F, R, er, sm, hb, w, en⟩ := h
  simp only [wpO] at w
  simp only [cO] at hb en
  refine (L2.po_some ha).run pins s σ H Q I (lE er sm (by omega) w fun t st1 v H1 F1 r1 f1 sm1 q1 e1 => ?_)
  cases t <;> simp only at r1
  cases q1
  exact ⟨_, rfl, en _ st1 r1 H1 F1 f1 sm1⟩⟩
theorem s_slc {lo hi : Option Expr} {l h : Option X} {p2} (ha : PE Y a (LE V x)) (hl : PO Y lo (LO V l)) (hh : PO Y hi (LO V h)) : PE Y (.Subscript a (.Slice lo hi none p2) pos) (LE V (.slc x l h)) := PE.imp (L2.pe_slice (sl_sem G.K) ha hl hh) fun σ H Q h => by
  obtain ⟨env, st, B, F, R, er, sm, hb, w, en⟩ := h
  simp only [wpE] at w
  simp only [cE] at hb en
  refine lE er sm (by omega) w fun t st1 v H1 F1 r1 f1 sm1 q1 e1 => ?_
  refine lO e1 sm1 (by omega) r1 fun u st2 H2 F2 r2 f2 sm2 e2 => ?_
  refine lO e2 sm2 (by omega) r2 fun u3 st3 H3 F3 r3 f3 sm3 e3 => ?_
  exact ⟨t, st3, _, F3, R, q1.mono (f2.trans f3), sm3, r3, en.mono (f1.trans (f2.trans f3)) (by omega)⟩
theorem s_rev {k p1 p2 p3} (ha : PE Y a (LE V x)) : PE Y (.Subscript a (.Slice none none (some (.UnaryOp .USub (.Constant (.int 1) k p1) p2)) p3) pos) (LE V (.rev x)) := PE.imp (L2.pe_revL ha) fun σ H Q h => by
  obtain ⟨env, st, B, F, R, er, sm, hb, w, en⟩ := h
  simp only [wpE] at w
  simp only [cE] at hb en
  refine lE er sm (by omega) w fun t st1 v H1 F1 r1 f1 sm1 q1 e1 => ?_
  cases t <;> try exact r1.elim
  cases q1
  obtain ⟨ts, e, r1⟩ := r1
  obtain ⟨ys, _, sq, ra⟩ := sm1.sqL (K := Y.K) e
  exact ⟨_, ys, rfl, sq, fun p hp => (en.mono f1 rfl).lst r1 sm1 hp ra.reverse⟩
omit G in
theorem nokey {x : Str} (ho : okN x = true) : (x == ("__debug__" : Str)) = false := (okN1 ho).1
theorem s_call0 {i : Nat} {f : Str} {p : Pos} (ho : okN f = true) (hg : isG sc f = true) (hi : V.g.fns.idxOf? f = some i) : PE Y (.Call (.Name f p) [] [] pos) (LE V (.call i [])) := by
  obtain ⟨h1, h2⟩ := FnG.at G (slotOf (N := V.g.fns) hi)
  refine PE.imp (pe_callG0 h2 G.room G.gd (show Y.env.scope.names.lookup f = _ by rw [G.sce]; exact globOf hg) h1 (okN1 ho).1) fun σ H Q h => ?_
  obtain ⟨env, st, B, F, R, er, sm, hb, w, en⟩ := h
  simp only [wpE, wpEs] at w
  simp only [cE, cEs] at hb en
  exact ⟨[], st, B, F, R, rfl, sm, by omega, w, en.mono (L2.Same.refl F) (by omega)⟩
theorem s_call {i : Nat} {f : Str} {p : Pos} (ho : okN f = true) (hg : isG sc f = true) (hi : V.g.fns.idxOf? f = some i) (ha : PA Y (a :: es) (LA V xs))
    (he : starEach (a :: es) Y.env = (false, eval a Y.env) :: starEach es Y.env) (hpl : (backTo pos (starEach es Y.env)).any (·.1) = false) : PE Y (.Call (.Name f p) (a :: es) [] pos) (LE V (.call i xs)) := by
  obtain ⟨h1, h2⟩ := FnG.at G (slotOf (N := V.g.fns) hi)
  refine PE.imp (pe_callG h2 G.room G.gd (show Y.env.scope.names.lookup f = _ by rw [G.sce]; exact globOf hg) h1 ha (okN1 ho).1 he hpl) fun σ H Q h => ?_
  obtain ⟨env, st, B, F, R, er, sm, hb, w, en⟩ := h
  simp only [wpE] at w
  simp only [cE] at hb en
  refine lA er sm (by omega) w fun ts st2 vs H2 F2 r2 l2 f2 sm2 q2 e2 => ?_
  exact ⟨ts, st2, _, F2, R, q2, sm2, by omega, r2, en.mono f2 (by omega)⟩
theorem s_callv {i : Nat} {f : Str} {p : Pos} (ho : okN f = true) (hv : isV sc f = true) (hi : slot N f = some i) (ha : PA Y (a :: es) (LA V xs))
    (he : starEach (a :: es) Y.env = (false, eval a Y.env) :: starEach es Y.env) (hpl : (backTo pos (starEach es Y.env)).any (·.1) = false) : PE Y (.Call (.Name f p) (a :: es) [] pos) (LE V (.callv i xs)) := by
  refine PE.imp (pe_callGL (k := V.lev) (i := i) (S := fun f sp => ∃ j, j < V.g.fns.length ∧ f = V.D.fa j ∧ sp = spG V.D (V.cc j) (V.C.call j)) (fun f sp hS => ?_) G.room G.gd (by rw [G.nn]; exact slotOf hi) (by rw [G.sce]; exact visOf hv) ha (okN1 ho).1 (okN1 ho).2 he hpl) fun σ H Q h => ?_
  · obtain ⟨j, hj, rfl, rfl⟩ := hS
    exact (FnG.at G (List.getElem?_eq_getElem hj)).2
  obtain ⟨env, st, B, F, R, er, sm, hb, w, en⟩ := h
  simp only [wpE] at w
  simp only [cE] at hb en
  split at w
  · rename_i j e
    obtain ⟨hj, w⟩ := w
    rw [G.ok.nf] at hj
    obtain ⟨u, e1, r1⟩ := er.get e
    have r1' : u = .ref (V.D.fa j) := r1
    have hc := (G.ok.fns j _ (List.getElem?_eq_getElem hj)).2.2
    refine ⟨V.D.fa j, _, by rw [e1, r1'], ⟨j, hj, rfl, rfl⟩, ?_⟩
    refine lA er sm (by omega) w fun ts st2 vs H2 F2 r2 l2 f2 sm2 q2 e2 => ?_
    refine ⟨ts, st2, _, F2, R, q2, sm2, by omega, r2, fun t st' r v H' F' ff s q => ?_⟩
    exact en t st' r v H' F' (f2.trans ff) (s.more (by omega)) q
  · exact w.elim
theorem s_bi {f : Bi} {e : Expr} (h : PE Y e (L2.tCB (rV V.D (biSem rpT f)) (LA V xs))) : PE Y e (LE V (.bi f xs)) := PE.imp h fun σ H Q h => by
  obtain ⟨env, st, B, F, R, er, sm, hb, w, en⟩ := h
  simp only [wpE] at w
  rw [G.ok.rp] at w
  simp only [cE] at hb en
  refine lA er sm (by omega) w fun ts st2 vs H2 F2 r2 l2 f2 sm2 q2 e2 => ?_
  exact ⟨ts, st2, _, F2, R, q2, sm2, r2, en.mono f2 rfl⟩
theorem gl_of {f : Str} (hg : isG sc f = true) : Gl Y f := show Y.env.scope.names.lookup f = _ by rw [G.sce]; exact globOf hg
theorem mg_of {f : Str} (hf : V.g.blt.contains f = true) : Y.mg f = none := by rw [G.mg]; exact G.ok.blt f hf
/-! isinstance -/
def tyS : Ty → String
  | .int => "int"
  | .bool => "bool"
  | .str => "str"
  | .tuple => "tuple"
omit G in
theorem kit_all {K : PySem.W.Frag} : ∀ ty : Ty, (PySem.W.kitOne K (.type "NoneType") (.type (tyS ty)) = some false) ∧ (PySem.W.kitOne K (.type "bool") (.type (tyS ty)) = some (match ty with | .int | .bool => true | _ => false)) ∧
    (PySem.W.kitOne K (.type "int") (.type (tyS ty)) = some (match ty with | .int => true | _ => false)) ∧ (PySem.W.kitOne K (.type "str") (.type (tyS ty)) = some (match ty with | .str => true | _ => false)) ∧
    (PySem.W.kitOne K (.type "tuple") (.type (tyS ty)) = some (match ty with | .tuple => true | _ => false)) ∧ (PySem.W.kitOne K (.type "list") (.type (tyS ty)) = some false) := fun ty => by
  cases ty <;> exact ⟨L2.kit_ty (by decide +kernel), L2.kit_ty (by decide +kernel), L2.kit_ty (by decide +kernel), L2.kit_ty (by decide +kernel), L2.kit_ty (by decide +kernel), L2.kit_ty (by decide +kernel)⟩

omit G in
theorem isi_of {ty : Ty} {t : T} {v : L2.V} {st : St} {B : Nat} {H F : L2.Hp} {Q : Bool → Prop} (hK : V.D.K = Y.K) (sm : Sim V.D B H F st) (r : RepV V.D F t v) (w : isiSem t ty st Q) :
    ∃ (u : Value) (k : Bool), L2.TyX Y.K H v u ∧ PySem.W.kitOne Y.K u (.type (tyS ty)) = some k ∧ Q k := by
  obtain ⟨k1, k2, k3, k4, k5, k6⟩ := kit_all (K := Y.K) ty
  cases t with
  | non => cases r; exact ⟨_, _, .base .non, k1, w⟩
  | bl b => cases r; exact ⟨_, _, .base (.bl b), k2, w⟩
  | int i => cases r; exact ⟨_, _, .base (.int i), k3, w⟩
  | str s => cases r; exact ⟨_, _, .base (.str _), k4, w⟩
  | tup ts =>
    obtain ⟨a, xs, rfl, sa, _⟩ := r
    rcases sm.sqT sa with (h | ⟨o, h⟩) | ⟨o, its, n, h1, h2, _⟩
    · exact ⟨_, _, .base (.tup h), k5, w⟩
    · exact ⟨_, _, .fTuple h, k5, w⟩
    · exact ⟨_, _, .kTuple (hK ▸ h1) h2, k5, w⟩
  | ref a =>
    cases r
    rcases w with ⟨ts, e, w⟩ | ⟨ts, e, _⟩
    · obtain ⟨xs, h, _⟩ := sm.lst e
      exact ⟨_, _, .base (.lst h), k6, w⟩
    · exact ((sm.ob _ _ e).2).elim
  | _ => exact w.elim
theorem boot_isi : bootBuiltins ("isinstance" : Str) = some (.builtin "isinstance") := by decide +kernel
theorem boot_ty : ∀ ty : Ty, bootBuiltins (Str.ofString (tyS ty)) = some (.type (tyS ty)) := fun ty => by cases ty <;> decide +kernel
theorem tyO_eq {t : Str} {ty : Ty} (h : tyO t = some ty) : t = Str.ofString (tyS ty) := by
  unfold tyO at h
  repeat (split at h; rename_i e; cases h; exact eq_of_beq e)
  cases h
theorem s_isi {p q : Pos} {t f : Str} {ty : Ty} (hf : f = ("isinstance" : Str)) (hg : isG sc f = true) (h1 : V.g.blt.contains f = true) (ht : tyO t = some ty) (hg2 : isG sc t = true) (h3 : V.g.blt.contains t = true)
    (ha : PE Y a (LE V x)) (he : starEach (a :: [.Name t q]) Y.env = (false, eval a Y.env) :: starEach [.Name t q] Y.env) : PE Y (.Call (.Name f p) [a, .Name t q] [] pos) (LE V (.isi x ty)) := by
  subst hf
  have et := tyO_eq G ht
  have hn : PE Y (.Name t q) (L2.tC (.ty (tyS ty))) := by
    refine L2.pe_bltn (gl_of G hg2) (mg_of G h3) (by rw [et]; exact boot_ty G ty) rfl ?_ ?_
    · rw [et]; cases ty <;> decide
    · rw [et]; cases ty <;> decide
  have hA : PA Y [a, .Name t q] (L2.tCons (LE V x) (L2.tCons (L2.tC (.ty (tyS ty))) L2.tNil)) := L2.pa_cons ha (L2.pa_cons hn L2.pa_nil) he
  refine PE.imp (L2.pe_callB L2.call_isi (gl_of G hg) (mg_of G h1) (boot_isi G) hA (he := he)) fun σ H Q h => ?_
  obtain ⟨env, st, B, F, R, er, sm, hb, w, en⟩ := h
  simp only [wpE] at w
  simp only [cE] at hb en
  refine lE er sm (by omega) w fun t st1 v H1 F1 r1 f1 sm1 q1 e1 => ?_
  obtain ⟨u, k, h1, h2, h3⟩ := isi_of G.K sm1 q1 r1
  exact ⟨v, .ty (tyS ty), u, _, k, rfl, .ty _, h1, h2, (en.mono f1 rfl).here h3 sm1 rfl⟩
end
end Mo

set_option Elab.async false
set_option linter.all false
set_option maxRecDepth 100000
set_option autoImplicit false
namespace Mo
open PySem PyProof.Rows
open L2 (Inv EP TP AP SP RelV Vals OpR UnR CallR VK R2 PE PT PW PA PO PS PSs Gl Vis Loc)

/-- a new list that nobody else holds -/
def EndN (D : Wd) (B : Nat) (F : L2.Hp) (R : List T → St → Prop) (Q : VK) : Prop :=
  ∀ ts st, R ts st → ∀ a xs H' F', L2.Same F F' → F a = none → Sim D B H' F' st → F' a = some (.lst xs) → RepVs D F' ts xs → ts.length ≤ SZ → Q (.ref a) H'
def liftN (D : Wd) (c : Nat) (w : Env → St → (List T → St → Prop) → Prop) : L2.TE := fun σ H Q =>
  ∃ env st B F R, EnvR D F env σ ∧ Sim D B H F st ∧ B + c ≤ BIG ∧ w env st R ∧ EndN D (B + c) F R Q
/-- a sequence as it lies -/
def SeqV (D : Wd) (F : L2.Hp) (v : L2.V) (ts : List T) (chk : St → Prop) : Prop :=
  (∃ a xs, v = .ref a ∧ L2.SqT D.K F a xs ∧ RepVs D F ts xs) ∨ (∃ a, v = .ref a ∧ ∀ s, chk s → s a = some (.lst ts)) ∨ (∃ a xs, v = .ref a ∧ F a = some (.lst xs) ∧ RepVs D F ts xs) ∨ ∃ a, ∃ ns : List Int, v = .ref a ∧ SqF D.K F a (ns.map .int) ∧ ts = ns.map .int
def EndL (D : Wd) (B : Nat) (F : L2.Hp) (R : List T → (St → Prop) → St → Prop) (Q : VK) : Prop :=
  ∀ ts chk st, R ts chk st → ts.length ≤ SZ → ∀ v H' F', L2.Same F F' → Sim D B H' F' st → SeqV D F' v ts chk → chk st → Q v H'
def liftL (D : Wd) (c : Nat) (w : Env → St → LK → Prop) : L2.TE := fun σ H Q =>
  ∃ env st B F R, EnvR D F env σ ∧ Sim D B H F st ∧ B + c ≤ BIG ∧ w env st R ∧ EndL D (B + c) F R Q
abbrev LF (V : Lv) (l : L) : L2.TE := liftN V.D (cL V.cc l) fun env st R => wpL V.C l env st noE fun ts _ s => R ts s
abbrev LL (V : Lv) (l : L) : L2.TE := liftL V.D (cL V.cc l) fun env st R => wpL V.C l env st noE R
theorem lL {D : Wd} {c : Nat} {env : Env} {σ : L2.St} {st : St} {B : Nat} {F H : L2.Hp} {w : Env → St → LK → Prop} {R : List T → (St → Prop) → St → Prop} {Q : VK} (er : EnvR D F env σ) (sm : Sim D B H F st) (hb : B + c ≤ BIG) (h : w env st R)
    (k : ∀ ts chk st1 v H1 F1, R ts chk st1 → ts.length ≤ SZ → L2.Same F F1 → Sim D (B + c) H1 F1 st1 → SeqV D F1 v ts chk → chk st1 → EnvR D F1 env σ → Q v H1) : liftL D c w σ H Q :=
  ⟨env, st, B, F, R, er, sm, hb, h, fun ts chk st1 r l v H1 F1 f s q c => k ts chk st1 v H1 F1 r l f s q c (er.mono f)⟩
theorem lN {D : Wd} {c : Nat} {env : Env} {σ : L2.St} {st : St} {B : Nat} {F H : L2.Hp} {w : Env → St → (List T → St → Prop) → Prop} {R : List T → St → Prop} {Q : VK} (er : EnvR D F env σ) (sm : Sim D B H F st) (hb : B + c ≤ BIG) (h : w env st R)
    (k : ∀ ts st1 a xs H1 F1, R ts st1 → L2.Same F F1 → F a = none → Sim D (B + c) H1 F1 st1 → F1 a = some (.lst xs) → RepVs D F1 ts xs → ts.length ≤ SZ → EnvR D F1 env σ → Q (.ref a) H1) : liftN D c w σ H Q :=
  ⟨env, st, B, F, R, er, sm, hb, h, fun ts st1 r a xs H1 F1 f n s q rp l => k ts st1 a xs H1 F1 r f n s q rp l (er.mono f)⟩

theorem sqF_L {D : Wd} {B : Nat} {H F : L2.Hp} {st : St} {K : PySem.W.Frag} {a : Addr} {xs : List L2.V} (h : SqF K F a xs) (sm : Sim D B H F st) : L2.SqL K H a xs := sqL_mono sm.fr h.sqL
/-- not an expression's own value -/
def newL : L → Bool
  | .lst _ => true
  | .comp .. => true
  | .srt .. => true
  | .srtE .. => true
  | _ => false
theorem wpL_new {C : Cxt} {l : L} {env : Env} {st : St} {E : EK} {R : List T → (St → Prop) → St → Prop} (hn : newL l = true) (h : wpL C l env st E R) : wpL C l env st E fun ts _ s => R ts (fun _ => True) s := by
  cases l <;> first | (simp only [wpL] at h ⊢; exact h) | (simp [newL] at hn)

section
variable {V : Lv} {Y : L2.Cx} {N : List Str} {sc : Scope} (G : GX V Y N sc) {a b c : Expr} {x y z : X} {pos : Pos} {es : List Expr} {xs : List X} {l : L} {e : Expr}
/-- a list of its own: may change from now on -/
theorem s_new (h : PE Y e (LF V l)) : PE Y e (LE V (.new l)) := PE.imp h fun σ H Q h => by
  obtain ⟨env, st, B, F, R, er, sm, hb, w, en⟩ := h
  simp only [wpE] at w
  simp only [cE] at hb en
  exact lN er sm hb w fun ts st1 p xs H1 F1 r f n s q rp l _ => en (.ref p) _ (r p (s.stF q)) (.ref p) H1 (cut F1 p) (same_cut f n) (s.free q rp) rfl
theorem s_l_new (hn : newL l = true) (h : PE Y e (LF V l)) : PE Y e (LL V l) := PE.imp h fun σ H Q h => by
  obtain ⟨env, st, B, F, R, er, sm, hb, w, en⟩ := h
  exact lN er sm hb (wpL_new hn w) fun ts st1 p xs H1 F1 r f n s q rp l _ => en ts (fun _ => True) st1 r l (.ref p) H1 F1 f s (.inr (.inr (.inl ⟨p, xs, rfl, q, rp⟩))) trivial
theorem s_l_lst (hl : xs.length ≤ 1000) (ha : PA Y es (LA V xs)) : PE Y (.List es pos) (LF V (.lst xs)) := PE.imp (L2.pe_lst ha) fun σ H Q h => by
  obtain ⟨env, st, B, F, R, er, sm, hb, w, en⟩ := h
  simp only [wpL] at w
  simp only [cL] at hb en
  refine lA er sm hb w fun ts st2 vs H2 F2 r2 l2 f2 sm2 q2 e2 => ⟨by rw [← q2.length, l2]; exact le_size hl, fun p hp => ?_⟩
  have np := sm2.noF hp
  have nF : F p = none := by
    cases z : F p with
    | none => rfl
    | some o => rw [f2 p o z] at np; cases np
  exact en ts st2 r2 p vs _ (L2.upd F2 p (.lst vs)) (same_updN f2 nF) nF (sm2.know _ hp) L2.upd_same (q2.mono (same_upd np)) (by rw [l2]; unfold SZ; omega)
include G in
theorem s_l_ex (ha : PE Y e (LE V x)) : PE Y e (LL V (.ex x)) := ⟨fun pins s σ H Q I h => by
  obtain ⟨env, st, B, F, R, er, sm, hb, w, en⟩ := h
  simp only [wpL] at w
  simp only [cL] at hb en
  refine L2.thn (ha.run pins s σ H (fun v H1 => ∃ t st1 F1, L2.Same F F1 ∧ Sim V.D (B + cE V.cc x) H1 F1 st1 ∧ RepV V.D F1 t v ∧ seqSem t st1 fun ts chk => ts.length ≤ SZ → R ts chk st1) I
    (lE er sm hb w fun t st1 v H1 F1 r1 f1 sm1 q1 e1 => ⟨t, st1, F1, f1, sm1, q1, r1⟩)) fun u s1 ⟨v, H1, I1, rv, t, st1, F1, f1, sm1, q1, r1⟩ => ⟨v, H1, I1, rv, ?_⟩
  cases t with
  | tup ts =>
    obtain ⟨a, ys, rfl, sa, ra⟩ := q1
    obtain ⟨its, _, _, hz⟩ := I1.tuple (sm1.sqT (G.K ▸ sa))
    have hl : ts.length ≤ SZ := by rw [ra.length, size_eq]; exact hz
    exact en ts _ st1 (r1 hl) hl _ H1 F1 f1 sm1 (.inl ⟨a, ys, rfl, sa, ra⟩) trivial
  | ref a =>
    cases q1
    obtain ⟨ts, e, r1⟩ := r1
    obtain ⟨ys, _, sq, ra⟩ := sm1.sqL (K := Y.K) e
    obtain ⟨its, _, _, hz⟩ := I1.list sq
    have hl : ts.length ≤ SZ := by rw [ra.length, size_eq]; exact hz
    exact en ts _ st1 (r1 hl) hl _ H1 F1 f1 sm1 (.inr (.inl ⟨a, rfl, fun _ h => h⟩)) e
  | scr =>
    obtain ⟨a, ns, rfl, sf, hl1⟩ := q1
    have hl : (ns.map T.int).length ≤ SZ := by rw [List.length_map]; unfold SZ; omega
    exact en _ _ st1 (r1 ns hl1 hl) hl _ H1 F1 f1 sm1 (.inr (.inr (.inr ⟨a, ns, rfl, sf, rfl⟩))) trivial
  | _ => exact r1.elim⟩
/-- a list or a tuple, by HandS' words -/
theorem SeqV.sq {D : Wd} {B : Nat} {H F : L2.Hp} {st : St} {v : L2.V} {ts : List T} {chk : St → Prop} {K : PySem.W.Frag} (hK : D.K = K) (sm : Sim D B H F st) (q : SeqV D F v ts chk) (hc : chk st) :
    ∃ a xs, v = .ref a ∧ RepVs D F ts xs ∧ (L2.SqL K H a xs ∨ (L2.SqT K H a xs ∧ L2.SqT D.K F a xs)) := by
  rcases q with ⟨a, xs, rfl, h, r⟩ | ⟨a, rfl, h⟩ | ⟨a, xs, rfl, h, r⟩ | ⟨a, ns, rfl, h, rfl⟩
  · exact ⟨a, xs, rfl, r, .inr ⟨sm.sqT (hK ▸ h), h⟩⟩
  · obtain ⟨xs, _, sq, r⟩ := sm.sqL (K := K) (h st hc)
    exact ⟨a, xs, rfl, r, .inl sq⟩
  · exact ⟨a, xs, rfl, r, .inl (.of (sm.fr _ _ h))⟩
  · exact ⟨a, _, rfl, RepVs.of_ints, .inl (sqF_L (hK ▸ h) sm)⟩
def one (t : L2.TE) : L2.TA := fun σ H Q => t σ H fun x H1 => Q [x] H1
theorem pa_one {t : L2.TE} (h : PE Y a t) (hs : starEach [a] Y.env = (false, eval a Y.env) :: starEach [] Y.env) : PA Y [a] (one t) := PA.imp (L2.pa_cons h L2.pa_nil hs) fun σ H Q h => h
include G in
theorem s_tuple (h : PE Y e (L2.tCB (fun xs H Q => ∃ p ys, xs = [.ref p] ∧ ((L2.SqL Y.K H p ys ∧ ∀ l, H l = none → Q (.ref l) (L2.upd H l (.tup ys))) ∨ (L2.SqT Y.K H p ys ∧ Q (.ref p) H))) (one (LL V l)))) : PE Y e (LE V (.li .tuple l)) := PE.imp h fun σ H Q h => by
  obtain ⟨env, st, B, F, R, er, sm, hb, w, en⟩ := h
  simp only [wpE, liSem] at w
  simp only [cE] at hb en
  refine lL er sm hb w fun ts chk st1 v H1 F1 r1 l1 f1 sm1 q1 c1 e1 => ?_
  obtain ⟨p, ys, rfl, ra, q | ⟨q, q2⟩⟩ := q1.sq G.K sm1 c1
  · exact ⟨p, ys, rfl, .inl ⟨q, fun l hl => (en.mono f1 rfl).tup r1 sm1 hl ra⟩⟩
  · exact ⟨p, ys, rfl, .inr ⟨q, (en.mono f1 rfl).here r1 sm1 ⟨p, ys, rfl, q2, ra⟩⟩⟩
include G in
theorem s_list (h : PE Y e (L2.tCB (fun xs H Q => ∃ p ys, xs = [.ref p] ∧ (L2.SqL Y.K H p ys ∨ L2.SqT Y.K H p ys) ∧ ∀ l, H l = none → Q (.ref l) (L2.upd H l (.lst ys))) (one (LL V l)))) : PE Y e (LE V (.li .list l)) := PE.imp h fun σ H Q h => by
  obtain ⟨env, st, B, F, R, er, sm, hb, w, en⟩ := h
  simp only [wpE, liSem] at w
  simp only [cE] at hb en
  refine lL er sm hb w fun ts chk st1 v H1 F1 r1 l1 f1 sm1 q1 c1 e1 => ?_
  obtain ⟨p, ys, rfl, ra, q | ⟨q, q2⟩⟩ := q1.sq G.K sm1 c1
  · exact ⟨p, ys, rfl, .inl q, fun l hl => (en.mono f1 rfl).lst r1 sm1 hl ra⟩
  · exact ⟨p, ys, rfl, .inr q, fun l hl => (en.mono f1 rfl).lst r1 sm1 hl ra⟩
/-- a new list handed to a built-in -/
theorem s_fresh {f : Li} {r : List L2.V → L2.Hp → VK → Prop} (h : PE Y e (L2.tCB r (one (LF V l))))
    (hr : ∀ ts xs a B H F st R Q, liSem f ts st R → RepVs V.D F ts xs → L2.SqL Y.K H a xs → Sim V.D B H F st → End V.D B F R Q → r [.ref a] H Q) : PE Y e (LE V (.li f l)) := PE.imp h fun σ H Q h => by
  obtain ⟨env, st, B, F, R, er, sm, hb, w, en⟩ := h
  simp only [wpE] at w
  simp only [cE] at hb en
  exact lN er sm hb w fun ts st1 p xs H1 F1 r f n s q rp l _ => hr ts xs p _ H1 F1 st1 R Q r rp (.of (s.fr _ _ q)) s (en.mono f rfl)
theorem s_len {r} (h : PE Y e (L2.tCB (fun xs H Q => ∃ x n, xs = [x] ∧ L2.LenV Y.K x H n ∧ Q (.int n) H) r)) (hr : r = one (LF V l)) : PE Y e (LE V (.li .len l)) := by
  subst hr
  exact s_fresh h fun ts xs a B H F st R Q w ra sq sm en => ⟨_, ts.length, rfl, .inl ⟨xs, sq, ra.length⟩, en.here w sm rfl⟩
theorem s_sum (h : PE Y e (L2.tCB (L2.rSum Y.K) (one (LF V l)))) : PE Y e (LE V (.li .sum l)) :=
  s_fresh h fun ts xs a B H F st R Q w ra sq sm en => by
    obtain ⟨ns, rfl, w⟩ := w
    rw [ra.ints] at sq
    exact ⟨a, ns, rfl, sq, en.here w sm rfl⟩
theorem s_all (h : PE Y e (L2.tCB (L2.rAll Y.K) (one (LF V l)))) : PE Y e (LE V (.li .all l)) :=
  s_fresh h fun ts xs a B H F st R Q w ra sq sm en => by
    obtain ⟨ns, rfl, w⟩ := w
    rw [ra.bls] at sq
    exact ⟨a, ns, rfl, sq, en.here w sm rfl⟩
theorem s_any (h : PE Y e (L2.tCB (L2.rAny Y.K) (one (LF V l)))) : PE Y e (LE V (.li .any l)) :=
  s_fresh h fun ts xs a B H F st R Q w ra sq sm en => by
    obtain ⟨ns, rfl, w⟩ := w
    rw [ra.bls] at sq
    exact ⟨a, ns, rfl, sq, en.here w sm rfl⟩
theorem s_max (h : PE Y e (L2.tCB (L2.rMax Y.K) (one (LF V l)))) : PE Y e (LE V (.li .max l)) :=
  s_fresh h fun ts xs a B H F st R Q w ra sq sm en => by
    obtain ⟨ns, rfl, h0, w⟩ := w
    rw [ra.ints] at sq
    exact ⟨a, ns, rfl, sq, List.length_pos_iff.mpr h0, fun m h1 h2 => en.here (w m h1 h2) sm rfl⟩
theorem s_min (h : PE Y e (L2.tCB (L2.rMin Y.K) (one (LF V l)))) : PE Y e (LE V (.li .min l)) :=
  s_fresh h fun ts xs a B H F st R Q w ra sq sm en => by
    obtain ⟨ns, rfl, h0, w⟩ := w
    rw [ra.ints] at sq
    exact ⟨a, ns, rfl, sq, List.length_pos_iff.mpr h0, fun m h1 h2 => en.here (w m h1 h2) sm rfl⟩
theorem newK {D : Wd} {B : Nat} {H F : L2.Hp} {st : St} {p : Addr} {ts : List T} {ws : List L2.V} {F0 : L2.Hp} {R : List T → St → Prop} {Q : VK} (en : EndN D B F0 R Q) (f : L2.Same F0 F) (sm : Sim D B H F st) (hp : H p = none) (r : RepVs D F ts ws) (hl : ts.length ≤ SZ) (w : R ts st) : Q (.ref p) (L2.upd H p (.lst ws)) := by
  have np := sm.noF hp
  have nF : F0 p = none := by
    cases z : F0 p with
    | none => rfl
    | some o => rw [f p o z] at np; cases np
  exact en ts st w p ws _ (L2.upd F p (.lst ws)) (same_updN f nF) nF (sm.know _ hp) L2.upd_same (r.mono (same_upd np)) hl
theorem s_srt (h : PE Y e (L2.tCB (rSrt V.D) (one (LF V l)))) : PE Y e (LF V (.srt l)) := PE.imp h fun σ H Q h => by
  obtain ⟨env, st, B, F, R, er, sm, hb, w, en⟩ := h
  simp only [wpL, srtSem] at w
  simp only [cL] at hb en
  exact lN er sm hb w fun ts st1 p xs H1 F1 r f n s q rp l _ => ⟨p, xs, ts, _, F1, st1, rfl, .of (s.fr _ _ q), rp, s, r.1, fun p' ws hp' rw' hl => newK en f s hp' rw' hl r.2⟩
theorem s_srtE (h : PE Y e (L2.tCB (rSrt V.D) (one (LE V x)))) : PE Y e (LF V (.srtE x)) := PE.imp h fun σ H Q h => by
  obtain ⟨env, st, B, F, R, er, sm, hb, w, en⟩ := h
  simp only [wpL, srtSem] at w
  simp only [cL] at hb en
  refine lE er sm hb w fun t st1 v H1 F1 r1 f1 sm1 q1 e1 => ?_
  obtain ⟨a, ts, rfl, e, r1⟩ := r1
  cases q1
  obtain ⟨ys, _, sq, ra⟩ := sm1.sqL (K := V.D.K) e
  exact ⟨a, ys, ts, _, F1, st1, rfl, sq, ra, sm1, r1.1, fun p' ws hp' rw' hl => newK en f1 sm1 hp' rw' hl r1.2⟩
end
end Mo

set_option Elab.async false
set_option linter.all false
set_option maxRecDepth 100000
set_option maxHeartbeats 2000000
set_option autoImplicit false
/-! a list (k = false) or a tuple (k = true) gone through: alone, numbered, by twos, by threes -/
namespace Mo
open PySem PySem.Spec PyProof.Rows
open L2 (Inv EP TP AP SP RelV Vals OpR UnR CallR VK R2 PE PT PW PA PO PS PSs Gl Vis Loc It Turn TI PI PIE FpOk V HO Hp)

def SqB (K : PySem.W.Frag) (k : Bool) (H : Hp) (a : Addr) (xs : List V) : Prop := match k with
  | true => L2.SqT K H a xs
  | false => L2.SqL K H a xs
def ItB (k : Bool) (h : Heap) (it a : Addr) (i : Nat) : Prop := match k with
  | true => h.IsTupleIter it a i
  | false => h.IsListIter it a i
def SeqB (k : Bool) (h : Heap) (a : Addr) (its : Array Value) : Prop := match k with
  | true => h.IsTuple a its
  | false => h.IsList a its
def objB (k : Bool) (a : Addr) : Obj := match k with
  | true => { cls := .type "tuple_iterator", data := .fields #[.ref a, .int 0 0] }
  | false => { cls := .type "list_iterator", data := .fields #[.ref a, .int 0 0] }
theorem begB (k : Bool) (a : Addr) (its : Array Value) : Begins (.ref a) (objB k a) fun h => SeqB k h a its := by
  cases k
  · exact begins_list a its
  · exact begins_tuple a its
theorem ItB.of {k : Bool} {h : Heap} {it a : Addr} (e : h.get? it = some (objB k a)) : ItB k h it a 0 := by
  cases k
  · exact ⟨_, e, rfl, rfl⟩
  · exact ⟨_, e, rfl, rfl⟩
theorem ItB.at {k : Bool} {h h' : Heap} {it a : Addr} {i : Nat} (q : ItB k h it a i) (e : ∀ o, h.get? it = some o → h'.get? it = some o) : ItB k h' it a i := by
  cases k
  · exact Heap.IsListIter.at q e
  · exact Heap.IsTupleIter.at q e
theorem ItB.obj {k : Bool} {h : Heap} {it a : Addr} {i : Nat} (q : ItB k h it a i) : ∃ o, h.get? it = some o ∧ ∀ v, o.data ≠ .cell v := by
  cases k <;> (obtain ⟨o, e, _, d⟩ := q; exact ⟨o, e, fun v z => by rw [d] at z; cases z⟩)
theorem drB {prog : Program} {w : World} {A : Around} (k : Bool) (hh : A.handled = none) (it a : Addr) (hne : a ≠ it) (its : Array Value) :
    Draws prog w A it [it, a] its.size (fun i v => its[i]? = some v) (fun i h => ItB k h it a i ∧ SeqB k h a its) := by
  cases k
  · exact Draws.list hh it a hne its
  · exact Draws.tuple hh it a hne its
section
variable {X : L2.Cx} {pins : List (Addr × Obj)} {σ : L2.St} {H : Hp} {s : Shared} {k : Bool} {a : Addr} {xs ys : List V}
theorem sqB_its (I : Inv X pins σ H s) (h : SqB X.K k H a xs) : ∃ its : List Value, Vals xs its ∧ SeqB k s.heap a its.toArray ∧ a < s.heap.objs.size := by
  cases k
  · obtain ⟨its, r, p, _⟩ := I.list h
    exact ⟨its, r, p.isList, p.lt⟩
  · obtain ⟨its, r, p, _⟩ := I.tuple h
    obtain ⟨o, e, _⟩ := id p
    exact ⟨its, r, p, Heap.lt_size e⟩
theorem sqB_inj (I : Inv X pins σ H s) (h : SqB X.K k H a xs) (h' : SqB X.K k H a ys) : xs = ys := by
  cases k
  · exact I.list_inj h h'
  · exact I.tuple_inj h h'
end

/-! alone -/
def ItA (K : PySem.W.Frag) (k : Bool) (a : Addr) : It := match k with
  | true => L2.Itt K a
  | false => L2.Itl K a
/-- one of the two -/
def iSq (K : PySem.W.Frag) (tl : L2.TE) : TI := fun σ H R => tl σ H fun x H1 => ∃ a xs k, x = .ref a ∧ SqB K k H1 a xs ∧ R (ItA K k a) H1
theorem pi_sq {X : L2.Cx} {tg l : Expr} {tl : L2.TE} (hl : PE X l tl) : PI X tg l (iSq X.K tl) := by
  refine ⟨fun pins s σ H R I h => ?_⟩
  refine L2.thn (hl.run pins s σ H _ I h) fun v s1 ⟨x, H1, I1, r1, q1⟩ => ?_
  obtain ⟨a, xs, k, e, hq, q⟩ := q1
  subst e
  cases r1
  cases k
  · obtain ⟨its, rv, p, hz⟩ := I1.list hq
    refine wpAny_pyIter_list p.isList ?_
    refine ⟨s1.heap.objs.size, [s1.heap.objs.size], _, _, H1, rfl, I1.kept (t' := s1.toks) fun b o e => Heap.get?_push_of_some _ e, L2.turn_list a _, ⟨_, Heap.get?_push_size _ rfl, rfl, rfl⟩, fun b hb => ?_, q⟩
    have e : b = s1.heap.objs.size := by simpa using hb
    subst e
    exact I1.fpOk (Nat.le_refl _) (I1.hok.fresh (Nat.le_refl _))
  · obtain ⟨its, rv, p, hz⟩ := I1.tuple hq
    refine wpAny_pyIter_tuple (show s1.heap.IsTuple a its.toArray from p) ?_
    refine ⟨s1.heap.objs.size, [s1.heap.objs.size], _, _, H1, rfl, I1.kept (t' := s1.toks) fun b o e => Heap.get?_push_of_some _ e, L2.turn_tuple a _, ⟨_, Heap.get?_push_size _ rfl, rfl, rfl⟩, fun b hb => ?_, q⟩
    have e : b = s1.heap.objs.size := by simpa using hb
    subst e
    exact I1.fpOk (Nat.le_refl _) (I1.hok.fresh (Nat.le_refl _))

/-! numbered -/
def ItE (K : PySem.W.Frag) (k : Bool) (a : Addr) : It :=
  ⟨fun i H => ∃ (xs : List V) (x : V), SqB K k H a xs ∧ xs[i]? = some x, fun i H v H' => ∃ T x, v = .ref T ∧ H T = none ∧ H' = L2.upd H T (.tup [.int (i : Nat), x]) ∧ ∀ xs, SqB K k H a xs → xs[i]? = some x, fun i H => ∃ xs : List V, SqB K k H a xs ∧ xs.length = i⟩
theorem turn_en {P : Program} {w : World} {K : PySem.W.Frag} {elts : List Expr} {kk : Nat} {tpos : Pos} (k : Bool) (a e it : Addr) (hna : a ≠ e) (hni : a ≠ it) :
    Turn P w K (.Tuple elts kk tpos) (ItE K k a) [e, it] e (fun i h => (∃ old, IsEnum h e it ((i : Nat) : Int) old) ∧ ItB k h it a i ∧ e ≠ it) where
  mem := by simp
  obj := fun i h st b hb => by
    obtain ⟨⟨old, he⟩, hi, _⟩ := st
    have e' : b = e ∨ b = it := by simpa using hb
    rcases e' with z | z
    · rw [z]; exact ⟨_, he, fun v q => nomatch q⟩
    · rw [z]; exact hi.obj
  keep := fun i h h' st k => let ⟨⟨old, he⟩, hi, hne⟩ := st; ⟨⟨old, k e (by simp) _ he⟩, hi.at fun o q => k it (by simp) o q, hne⟩
  item := by
    intro X hP hw hK hc i pins s σ H E I hf st hg
    subst hP hw hK
    obtain ⟨⟨old, he⟩, hit, hne⟩ := st
    obtain ⟨xs, x, hq, hx⟩ := hg
    obtain ⟨its, rv, p, hz⟩ := sqB_its I hq
    obtain ⟨u, hu, ru⟩ := rv.get hx
    have hel : e < s.heap.objs.size := Heap.lt_size he
    have hil : it < s.heap.objs.size := by obtain ⟨_, q, _⟩ := hit.obj; exact Heap.lt_size q
    refine wpAny_pyNext_enum_itemD (drB (A := X.A.in1) k (I.ok.hd hc) it a hni its.toArray) he ⟨hit, p⟩ (by rw [List.size_toArray, ← rv.length]; exact (List.getElem?_eq_some_iff.mp hx).1) hne (by simp only [List.mem_cons, List.not_mem_nil, or_false, not_or]; exact ⟨hne, Ne.symm hna⟩) fun y h' tk hP ho hit' hT hsz hk => ?_
    have ey : y = u := by simpa [hu] using hP.symm
    subst ey
    refine ⟨_, rfl, wpAny_letOwnedTupleGo_enum (s := { s with heap := h', toks := tk + 1 }) ho fun h'' he' sb => ?_⟩
    have hT2 : h''.get? s.heap.objs.size = some { cls := .type "tuple", data := .seq #[.int i tk, y] } := (sb.2 _ (Nat.ne_of_gt hel)).trans hT
    have new : L2.ObjOk X.prog X.w (L2.upd H s.heap.objs.size (.tup [.int (i : Nat), x])) h'' s.heap.objs.size (.tup [.int (i : Nat), x]) :=
      ⟨by show 2 ≤ sizeLine; decide, [.int i tk, y], .cons ⟨_, rfl⟩ (.cons ru .nil), ⟨_, hT2, rfl, _, rfl⟩⟩
    have I1 : Inv X pins σ (L2.upd H s.heap.objs.size (.tup [.int (i : Nat), x])) { s with heap := h'', toks := tk + 1 } :=
      I.turnedNew (ch := [e, it]) (fun b ob hb q => (sb.2 b (fun z => hb (by simp [z]))).trans (hk b ob (fun z => hb (by simp [z])) (fun z => hb (by simp [z])) q)) hf (Nat.le_refl _) new
    refine ⟨.ref s.heap.objs.size, _, I1, rfl, ⟨_, x, rfl, I.hok.fresh (Nat.le_refl _), rfl, fun ys hy => by rw [sqB_inj I hy hq]; exact hx⟩, ⟨⟨y, ?_⟩, hit'.1.at fun o q => (sb.2 it (Ne.symm hne)).trans q, hne⟩, fun b hb => ?_⟩
    · have e1 : ((i + 1 : Nat) : Int) = (i : Int) + 1 := by omega
      rw [e1]; exact he'
    · have hb' : b < s.heap.objs.size := by
        have e' : b = e ∨ b = it := by simpa using hb
        rcases e' with z | z
        · rw [z]; exact hel
        · rw [z]; exact hil
      rw [L2.upd_ne (Nat.ne_of_lt hb')]
      exact (hf b hb).1
  done := by
    intro X hP hw hK hc i pins s σ H E I hf st hg
    subst hP hw hK
    obtain ⟨⟨old, he⟩, hit, hne⟩ := st
    obtain ⟨xs, hq, hx⟩ := hg
    obtain ⟨its, rv, p, hz⟩ := sqB_its I hq
    obtain ⟨f0, f1, f2, f3, f4, f5⟩ := hf it (by simp)
    have hl := rv.length
    have ei : i = its.toArray.size := by rw [List.size_toArray]; omega
    refine wpAny_pyNext_enum_endD (drB (A := X.A.in1) k (I.ok.hd hc) it a hni its.toArray) he (ei ▸ ⟨hit, p⟩) fun h' eb => ⟨rfl, I.turned (t' := s.toks) (fun b o hb q => eb b o hb q) f0 f1 f3 f4 f5⟩
  self := fun A i s Q E st h => let ⟨⟨_, he⟩, _⟩ := st; wpAny_pyIter_enum he h
set_option maxHeartbeats 4000000 in
theorem meets_en_newB {v : Value} {o : Obj} {H : Heap → Prop} (B : Begins v o H) :
    Meets (Builtin.«enumerate.__new__» ⟨[.type "enumerate", v], []⟩) (fun _ R s => H s.heap ∧
      R (.ok (.ret (.ref (s.heap.push o).objs.size))) { s with heap := (s.heap.push o).push { cls := .type "enumerate", data := .fields #[.none, .bool false, .ref s.heap.objs.size, rawInt 0, .none, .none] } }) :=
  .of_wp fun prog w A R s h => by
    obtain ⟨hp, g, d, tk, os⟩ := s; obtain ⟨h1, h⟩ := h
    have hsub := sub_enumerate
    have q1 : ∀ {A' : Around} {E : Value → Shared → Prop} {Q : Value → Shared → Prop}, Q (.ref hp.objs.size) ⟨hp.push o, g, d, tk, os⟩ → wpAny (model prog w) A' (pyIter v) Q E ⟨hp, g, d, tk, os⟩ :=
      fun q => B.iter prog w _ _ ⟨hp, g, d, tk, os⟩ _ h1 q
    wp_walk using q1
    refine wpAny_stack_any fun st => wpAny_pure ?_
    split
    · rename_i c _ _ _ _ _
      cases (c == Value.type "enumerate")
      · wp_walk using q1
        exact ⟨_, rfl, h⟩
      · wp_walk using q1
        exact ⟨_, rfl, h⟩
    · wp_walk using q1
      exact ⟨_, rfl, h⟩
theorem en_begins {prog : Program} {w : World} {A : Around} {E : Value → Shared → Prop} {s : Shared} {v : Value} {o : Obj} {H : Heap → Prop} {Q : Value → Shared → Prop} (B : Begins v o H) (h1 : H s.heap)
    (h : ∀ h', IsEnum h' (s.heap.objs.size + 1) s.heap.objs.size 0 .none → h'.get? s.heap.objs.size = some o → h'.objs.size = s.heap.objs.size + 2 →
      (∀ b o, s.heap.get? b = some o → h'.get? b = some o) → Q (.ref (s.heap.objs.size + 1)) { s with heap := h' }) :
    wpAny (model prog w) A (PySem.call (.type "enumerate") [v]) Q E s := by
  refine callType_new F.called_enumerate (by decide) (F.typeCall_enumerate_1 _) (F.newCall_enumerate_1 _) (fun obj => F.args_object_init_2 obj _) F.entry_enumerate_new
    (meets_en_newB B) ⟨h1, ?_⟩
  have hz : (s.heap.push o).objs.size = s.heap.objs.size + 1 := Heap.size_push ..
  show _ ∧ _
  rw [hz]
  have he : IsEnum ((s.heap.push o).push { cls := .type "enumerate", data := .fields #[.none, .bool false, .ref s.heap.objs.size, rawInt 0, .none, .none] }) (s.heap.objs.size + 1) s.heap.objs.size 0 .none := by
    have := Heap.get?_push_size (s.heap.push o) (o := { cls := .type "enumerate", data := .fields #[.none, .bool false, .ref s.heap.objs.size, rawInt 0, .none, .none] }) rfl
    rw [hz] at this; exact this
  refine ⟨⟨_, he, rfl⟩, h _ he (Heap.get?_push_of_some _ (Heap.get?_push_size _ B.free)) (by rw [Heap.size_push, hz]) fun b o x => Heap.get?_push_of_some _ (Heap.get?_push_of_some _ x)⟩
def iEn (K : PySem.W.Frag) (ta : L2.TA) : TI := fun σ H R => ta σ H fun vs H1 => ∃ a xs k, vs = [.ref a] ∧ SqB K k H1 a xs ∧ R (ItE K k a) H1
theorem pi_en {X : L2.Cx} {e : Expr} {ta : L2.TA} {p pos tpos : Pos} {elts : List Expr} {kk : Nat} (hg : Gl X "enumerate") (hm : X.mg "enumerate" = none) (ha : PA X [e] ta) (hs : starEach [e] X.env = [(false, eval e X.env)]) :
    PI X (.Tuple elts kk tpos) (.Call (.Name "enumerate" p) [e] [] pos) (iEn X.K ta) := by
  refine ⟨fun pins s σ H R I h => ?_⟩
  refine Call_ (L2.ld_blt I hg hm boot_enumerate (PyProof.Rows.callWith_type1 (L2.thn (ha.run pos pins s σ H _ I h) fun us s1 ⟨vs, H1, I1, r1, q1⟩ => ?_) hs rfl))
  obtain ⟨a, xs, k, ex, hq, q⟩ := q1
  subst ex
  cases r1 with
  | cons r rr =>
    cases rr
    cases r
    obtain ⟨its, rv, p', hz⟩ := sqB_its I1 hq
    refine en_begins (begB k a its.toArray) p' fun h' he hit hsz hk => wpAny_pyIter_enum he ?_
    have I2 : Inv X pins σ H1 { s1 with heap := h' } := I1.kept (t' := s1.toks) hk
    refine ⟨s1.heap.objs.size + 1, [s1.heap.objs.size + 1, s1.heap.objs.size], _, _, H1, rfl, I2, turn_en k a (s1.heap.objs.size + 1) s1.heap.objs.size (Nat.ne_of_lt (Nat.lt_succ_of_lt hz)) (Nat.ne_of_lt hz), ⟨⟨.none, he⟩, .of hit, Nat.succ_ne_self _⟩, fun b hb => ?_, q⟩
    have e' : b = s1.heap.objs.size + 1 ∨ b = s1.heap.objs.size := by simpa using hb
    have hle : s1.heap.objs.size ≤ b := by
      rcases e' with z | z
      · rw [z]; exact Nat.le_add_right _ _
      · rw [z]; exact Nat.le_refl _
    exact I1.fpOk hle (I1.hok.fresh hle)

/-! by 2 -/
def ItZ2 (K : PySem.W.Frag) (k1 k2 : Bool) (l1 l2 : Addr) : It :=
  ⟨fun i H => ∃ (xs1 xs2 : List V) (x1 x2 : V), SqB K k1 H l1 xs1 ∧ xs1[i]? = some x1 ∧ SqB K k2 H l2 xs2 ∧ xs2[i]? = some x2,
    fun i H v H' => ∃ T x1 x2, v = .ref T ∧ H T = none ∧ H' = L2.upd H T (.tup [x1, x2]) ∧ (∀ xs, SqB K k1 H l1 xs → xs[i]? = some x1) ∧ (∀ xs, SqB K k2 H l2 xs → xs[i]? = some x2),
    fun i H => ∃ xs1 xs2 : List V, SqB K k1 H l1 xs1 ∧ SqB K k2 H l2 xs2 ∧ i ≤ xs1.length ∧ i ≤ xs2.length ∧ (i = xs1.length ∨ i = xs2.length)⟩
theorem turn_z2 {P : Program} {w : World} {K : PySem.W.Frag} {elts : List Expr} {kk : Nat} {tpos : Pos} {k1 k2 : Bool} {l1 l2 z TI TO i1 i2 : Addr} (S : ZipSep2 z TI TO i1 i2 [i1, l1] [i2, l2]) (hl1 : l1 ≠ i1) (hl2 : l2 ≠ i2) :
    Turn P w K (.Tuple elts kk tpos) (ItZ2 K k1 k2 l1 l2) [z, TI, TO, i1, i2] z (fun i h => IsZip h z TI TO .none ∧ IsTupOf2 h TI (.ref i1) (.ref i2) ∧ (∃ a1 a2, IsTupOf2 h TO a1 a2) ∧ ItB k1 h i1 l1 i ∧ ItB k2 h i2 l2 i) where
  mem := by simp
  obj := fun i h st c hc => by
    obtain ⟨hz, hTI, ⟨a1, a2, hTO⟩, h1, h2⟩ := st
    have e' : c = z ∨ c = TI ∨ c = TO ∨ c = i1 ∨ c = i2 := by simpa using hc
    rcases e' with q | q | q | q | q
    · rw [q]; exact ⟨_, hz, fun v q => nomatch q⟩
    · rw [q]; exact ⟨_, hTI, fun v q => nomatch q⟩
    · rw [q]; exact ⟨_, hTO, fun v q => nomatch q⟩
    · rw [q]; exact h1.obj
    · rw [q]; exact h2.obj
  keep := fun i h h' st k => by
    obtain ⟨hz, hTI, ⟨a1, a2, hTO⟩, h1, h2⟩ := st
    exact ⟨k z (by simp) _ hz, k TI (by simp) _ hTI, ⟨a1, a2, k TO (by simp) _ hTO⟩, h1.at fun o q => k i1 (by simp) o q, h2.at fun o q => k i2 (by simp) o q⟩
  item := by
    intro X hP hw hK hc i pins s σ H E I hf st hg
    subst hP hw hK
    obtain ⟨hz, hTI, ⟨a1, a2, hTO⟩, h1, h2⟩ := st
    obtain ⟨xs1, xs2, x1, x2, hq1, hx1, hq2, hx2⟩ := hg
    obtain ⟨its1, rv1, p1, _⟩ := sqB_its I hq1
    obtain ⟨u1, hu1, ru1⟩ := rv1.get hx1
    have hi1 : i1 < s.heap.objs.size := by obtain ⟨_, q, _⟩ := h1.obj; exact Heap.lt_size q
    obtain ⟨its2, rv2, p2, _⟩ := sqB_its I hq2
    obtain ⟨u2, hu2, ru2⟩ := rv2.get hx2
    have hi2 : i2 < s.heap.objs.size := by obtain ⟨_, q, _⟩ := h2.obj; exact Heap.lt_size q
    have hzl : z < s.heap.objs.size := Heap.lt_size hz
    refine wpAny_pyNext_zipD2_item S (drB (A := X.A.in1) k1 (I.ok.hd hc) i1 l1 hl1 its1.toArray) (drB (A := X.A.in1) k2 (I.ok.hd hc) i2 l2 hl2 its2.toArray) hz hTI hTO ⟨h1, p1⟩ ⟨h2, p2⟩ (by rw [List.size_toArray, ← rv1.length]; exact (List.getElem?_eq_some_iff.mp hx1).1) (by rw [List.size_toArray, ← rv2.length]; exact (List.getElem?_eq_some_iff.mp hx2).1) fun y1 y2 h' tk hy1 hy2 z' TO' h1' h2' hT hsz hk => ?_
    have ey1 : y1 = u1 := by simpa [hu1] using hy1.symm
    subst ey1
    have ey2 : y2 = u2 := by simpa [hu2] using hy2.symm
    subst ey2
    refine ⟨_, rfl, wpAny_letOwnedTupleGo_zip (s := { s with heap := h', toks := tk }) z' fun h'' z'' sb => ?_⟩
    have hT2 : h''.get? s.heap.objs.size = some { cls := .type "tuple", data := .seq #[y1, y2] } := (sb.2 _ (Nat.ne_of_gt hzl)).trans hT
    have new : L2.ObjOk X.prog X.w (L2.upd H s.heap.objs.size (.tup [x1, x2])) h'' s.heap.objs.size (.tup [x1, x2]) :=
      ⟨by show 2 ≤ sizeLine; decide, [y1, y2], .cons ru1 ( .cons ru2 ( .nil )), ⟨_, hT2, rfl, _, rfl⟩⟩
    have I1 : Inv X pins σ (L2.upd H s.heap.objs.size (.tup [x1, x2])) { s with heap := h'', toks := tk } :=
      I.turnedNew (ch := [z, TI, TO, i1, i2]) (fun c o hb q => (sb.2 c (fun q' => hb (by simp [q']))).trans (hk c o (fun q' => hb (by simp [q'])) (fun q' => hb (by simp [q'])) (fun q' => hb (by simp [q'])) (fun q' => hb (by simp [q'])) q)) hf (Nat.le_refl _) new
    refine ⟨.ref s.heap.objs.size, _, I1, rfl, ⟨_, x1, x2, rfl, I.hok.fresh (Nat.le_refl _), rfl, fun l hl => by rw [sqB_inj I hl hq1]; exact hx1, fun l hl => by rw [sqB_inj I hl hq2]; exact hx2⟩, ⟨z'', ?_, ⟨y1, y2, ?_⟩, ?_, ?_⟩, fun c hcm => ?_⟩
    · exact (sb.2 _ S.TIz).trans (hk _ _ S.TIz S.TITO S.TIi1 S.TIi2 hTI)
    · exact (sb.2 _ S.TOz).trans TO'
    · exact h1'.1.at fun o q => (sb.2 _ (Ne.symm S.zi1)).trans q
    · exact h2'.1.at fun o q => (sb.2 _ (Ne.symm S.zi2)).trans q
    · have hlt : c < s.heap.objs.size := by
        have e' : c = z ∨ c = TI ∨ c = TO ∨ c = i1 ∨ c = i2 := by simpa using hcm
        rcases e' with q | q | q | q | q
        · rw [q]; exact hzl
        · rw [q]; exact Heap.lt_size hTI
        · rw [q]; exact Heap.lt_size hTO
        · rw [q]; exact hi1
        · rw [q]; exact hi2
      rw [L2.upd_ne (Nat.ne_of_lt hlt)]
      exact (hf c hcm).1
  done := by
    intro X hP hw hK hc i pins s σ H E I hf st hg
    subst hP hw hK
    obtain ⟨hz, hTI, ⟨a1, a2, hTO⟩, h1, h2⟩ := st
    obtain ⟨xs1, xs2, hq1, hq2, le1, le2, hend⟩ := hg
    obtain ⟨its1, rv1, p1, _⟩ := sqB_its I hq1
    have n1 := rv1.length
    obtain ⟨its2, rv2, p2, _⟩ := sqB_its I hq2
    have n2 := rv2.length
    exact wpAny_pyNext_zipD2_end S (drB (A := X.A.in1) k1 (I.ok.hd hc) i1 l1 hl1 its1.toArray) (drB (A := X.A.in1) k2 (I.ok.hd hc) i2 l2 hl2 its2.toArray) hz hTI hTO ⟨h1, p1⟩ ⟨h2, p2⟩ (by rw [List.size_toArray]; omega) (by rw [List.size_toArray]; omega) (by simp only [List.size_toArray]; omega) fun h' tk hk => ⟨rfl, I.turnedL (ch := [z, TI, TO, i1, i2]) (fun c o hb q =>
      hk c o (fun q' => hb (by simp [q'])) (fun q' => hb (by simp [q'])) (fun q' => hb (by simp [q'])) (fun q' => hb (by simp [q'])) q) hf⟩
  self := fun A i s Q E st h => wpAny_pyIter_zip st.1 h

def iZ2 (K : PySem.W.Frag) (ta : L2.TA) : TI := fun σ H R => ta σ H fun vs H1 => ∃ l1 l2 xs1 xs2 k1 k2, vs = [.ref l1, .ref l2] ∧ SqB K k1 H1 l1 xs1 ∧ SqB K k2 H1 l2 xs2 ∧ R (ItZ2 K k1 k2 l1 l2) H1
theorem pi_z2 {X : L2.Cx} {e : Expr} {es : List Expr} {ta : L2.TA} {p pos tpos : Pos} {elts : List Expr} {kk : Nat} (hg : Gl X "zip") (hm : X.mg "zip" = none) (ha : PA X (e :: es) ta)
    (hs : starEach (e :: es) X.env = (false, eval e X.env) :: starEach es X.env) (hpl : (backTo pos (starEach es X.env)).any (·.1) = false) :
    PI X (.Tuple elts kk tpos) (.Call (.Name "zip" p) (e :: es) [] pos) (iZ2 X.K ta) := by
  refine ⟨fun pins s σ H R I h => ?_⟩
  refine Call_ (L2.ld_blt I hg hm PyProof.Rows.boot_zip (PyProof.Rows.callWith_type1 (L2.thn (ha.run pos pins s σ H _ I h) fun us s1 ⟨vs, H1, I1, r1, q1⟩ => ?_) hs hpl))
  obtain ⟨l1, l2, xs1, xs2, k1, k2, ex, hq1, hq2, q⟩ := q1
  subst ex
  cases r1 with
  | cons q1 r2 =>
    cases r2 with
    | cons q2 r3 =>
      cases r3
      cases q1
      cases q2
      obtain ⟨its1, rv1, p1, z1⟩ := sqB_its I1 hq1
      obtain ⟨its2, rv2, p2, z2⟩ := sqB_its I1 hq2
      have fresh : ∀ c, c ∈ [s1.heap.objs.size + 4, s1.heap.objs.size + 2, s1.heap.objs.size + 3, s1.heap.objs.size, s1.heap.objs.size + 1] → FpOk X pins H1 c := fun c hcm => by
        have hle : s1.heap.objs.size ≤ c := by
          have e' : c = s1.heap.objs.size + 4 ∨ c = s1.heap.objs.size + 2 ∨ c = s1.heap.objs.size + 3 ∨ c = s1.heap.objs.size ∨ c = s1.heap.objs.size + 1 := by simpa using hcm
          rcases e' with z | z | z | z | z <;> rw [z] <;> first | exact Nat.le_refl _ | exact Nat.le_add_right _ _
        exact I1.fpOk hle (I1.hok.fresh hle)
      refine zip_begins2 (begB k1 l1 its1.toArray) (begB k2 l2 its2.toArray) p1 p2 fun h' hz hTI hTO g1 g2 hsz hk => wpAny_pyIter_zip hz ?_
      have I2 : Inv X pins σ H1 { s1 with heap := h' } := I1.kept (t' := s1.toks) hk
      generalize hS : s1.heap.objs.size = S at *
      have w1 : l1 < S := z1
      have w2 : l2 < S := z2
      have sep : ZipSep2 (S + 4) (S + 2) (S + 3) S (S + 1) [S, l1] [S + 1, l2] := by
        constructor <;> first | (simp only [List.mem_cons, List.not_mem_nil, or_false, not_or, ne_eq, true_or]; done) | (simp only [List.mem_cons, List.not_mem_nil, or_false, not_or, ne_eq]; (try constructor) <;> (intro e; have e' : (_ : Nat) = _ := e; simp only [Addr] at *; omega)) | (intro e; simp only [Addr] at *; omega)
      exact ⟨S + 4, [S + 4, S + 2, S + 3, S, S + 1], _, _, H1, rfl, I2, turn_z2 sep (fun e => by simp only [Addr] at *; omega) (fun e => by simp only [Addr] at *; omega), ⟨hz, hTI, ⟨_, _, hTO⟩, .of g1, .of g2⟩, fresh, q⟩

/-! by 3 -/
def ItZ3 (K : PySem.W.Frag) (k1 k2 k3 : Bool) (l1 l2 l3 : Addr) : It :=
  ⟨fun i H => ∃ (xs1 xs2 xs3 : List V) (x1 x2 x3 : V), SqB K k1 H l1 xs1 ∧ xs1[i]? = some x1 ∧ SqB K k2 H l2 xs2 ∧ xs2[i]? = some x2 ∧ SqB K k3 H l3 xs3 ∧ xs3[i]? = some x3,
    fun i H v H' => ∃ T x1 x2 x3, v = .ref T ∧ H T = none ∧ H' = L2.upd H T (.tup [x1, x2, x3]) ∧ (∀ xs, SqB K k1 H l1 xs → xs[i]? = some x1) ∧ (∀ xs, SqB K k2 H l2 xs → xs[i]? = some x2) ∧ (∀ xs, SqB K k3 H l3 xs → xs[i]? = some x3),
    fun i H => ∃ xs1 xs2 xs3 : List V, SqB K k1 H l1 xs1 ∧ SqB K k2 H l2 xs2 ∧ SqB K k3 H l3 xs3 ∧ i ≤ xs1.length ∧ i ≤ xs2.length ∧ i ≤ xs3.length ∧ (i = xs1.length ∨ i = xs2.length ∨ i = xs3.length)⟩
theorem turn_z3 {P : Program} {w : World} {K : PySem.W.Frag} {elts : List Expr} {kk : Nat} {tpos : Pos} {k1 k2 k3 : Bool} {l1 l2 l3 z TI TO i1 i2 i3 : Addr} (S : ZipSep3 z TI TO i1 i2 i3 [i1, l1] [i2, l2] [i3, l3]) (hl1 : l1 ≠ i1) (hl2 : l2 ≠ i2) (hl3 : l3 ≠ i3) :
    Turn P w K (.Tuple elts kk tpos) (ItZ3 K k1 k2 k3 l1 l2 l3) [z, TI, TO, i1, i2, i3] z (fun i h => IsZip h z TI TO .none ∧ IsTupOf3 h TI (.ref i1) (.ref i2) (.ref i3) ∧ (∃ a1 a2 a3, IsTupOf3 h TO a1 a2 a3) ∧ ItB k1 h i1 l1 i ∧ ItB k2 h i2 l2 i ∧ ItB k3 h i3 l3 i) where
  mem := by simp
  obj := fun i h st c hc => by
    obtain ⟨hz, hTI, ⟨a1, a2, a3, hTO⟩, h1, h2, h3⟩ := st
    have e' : c = z ∨ c = TI ∨ c = TO ∨ c = i1 ∨ c = i2 ∨ c = i3 := by simpa using hc
    rcases e' with q | q | q | q | q | q
    · rw [q]; exact ⟨_, hz, fun v q => nomatch q⟩
    · rw [q]; exact ⟨_, hTI, fun v q => nomatch q⟩
    · rw [q]; exact ⟨_, hTO, fun v q => nomatch q⟩
    · rw [q]; exact h1.obj
    · rw [q]; exact h2.obj
    · rw [q]; exact h3.obj
  keep := fun i h h' st k => by
    obtain ⟨hz, hTI, ⟨a1, a2, a3, hTO⟩, h1, h2, h3⟩ := st
    exact ⟨k z (by simp) _ hz, k TI (by simp) _ hTI, ⟨a1, a2, a3, k TO (by simp) _ hTO⟩, h1.at fun o q => k i1 (by simp) o q, h2.at fun o q => k i2 (by simp) o q, h3.at fun o q => k i3 (by simp) o q⟩
  item := by
    intro X hP hw hK hc i pins s σ H E I hf st hg
    subst hP hw hK
    obtain ⟨hz, hTI, ⟨a1, a2, a3, hTO⟩, h1, h2, h3⟩ := st
    obtain ⟨xs1, xs2, xs3, x1, x2, x3, hq1, hx1, hq2, hx2, hq3, hx3⟩ := hg
    obtain ⟨its1, rv1, p1, _⟩ := sqB_its I hq1
    obtain ⟨u1, hu1, ru1⟩ := rv1.get hx1
    have hi1 : i1 < s.heap.objs.size := by obtain ⟨_, q, _⟩ := h1.obj; exact Heap.lt_size q
    obtain ⟨its2, rv2, p2, _⟩ := sqB_its I hq2
    obtain ⟨u2, hu2, ru2⟩ := rv2.get hx2
    have hi2 : i2 < s.heap.objs.size := by obtain ⟨_, q, _⟩ := h2.obj; exact Heap.lt_size q
    obtain ⟨its3, rv3, p3, _⟩ := sqB_its I hq3
    obtain ⟨u3, hu3, ru3⟩ := rv3.get hx3
    have hi3 : i3 < s.heap.objs.size := by obtain ⟨_, q, _⟩ := h3.obj; exact Heap.lt_size q
    have hzl : z < s.heap.objs.size := Heap.lt_size hz
    refine wpAny_pyNext_zipD3_item S (drB (A := X.A.in1) k1 (I.ok.hd hc) i1 l1 hl1 its1.toArray) (drB (A := X.A.in1) k2 (I.ok.hd hc) i2 l2 hl2 its2.toArray) (drB (A := X.A.in1) k3 (I.ok.hd hc) i3 l3 hl3 its3.toArray) hz hTI hTO ⟨h1, p1⟩ ⟨h2, p2⟩ ⟨h3, p3⟩ (by rw [List.size_toArray, ← rv1.length]; exact (List.getElem?_eq_some_iff.mp hx1).1) (by rw [List.size_toArray, ← rv2.length]; exact (List.getElem?_eq_some_iff.mp hx2).1) (by rw [List.size_toArray, ← rv3.length]; exact (List.getElem?_eq_some_iff.mp hx3).1) fun y1 y2 y3 h' tk hy1 hy2 hy3 z' TO' h1' h2' h3' hT hsz hk => ?_
    have ey1 : y1 = u1 := by simpa [hu1] using hy1.symm
    subst ey1
    have ey2 : y2 = u2 := by simpa [hu2] using hy2.symm
    subst ey2
    have ey3 : y3 = u3 := by simpa [hu3] using hy3.symm
    subst ey3
    refine ⟨_, rfl, wpAny_letOwnedTupleGo_zip (s := { s with heap := h', toks := tk }) z' fun h'' z'' sb => ?_⟩
    have hT2 : h''.get? s.heap.objs.size = some { cls := .type "tuple", data := .seq #[y1, y2, y3] } := (sb.2 _ (Nat.ne_of_gt hzl)).trans hT
    have new : L2.ObjOk X.prog X.w (L2.upd H s.heap.objs.size (.tup [x1, x2, x3])) h'' s.heap.objs.size (.tup [x1, x2, x3]) :=
      ⟨by show 3 ≤ sizeLine; decide, [y1, y2, y3], .cons ru1 ( .cons ru2 ( .cons ru3 ( .nil ))), ⟨_, hT2, rfl, _, rfl⟩⟩
    have I1 : Inv X pins σ (L2.upd H s.heap.objs.size (.tup [x1, x2, x3])) { s with heap := h'', toks := tk } :=
      I.turnedNew (ch := [z, TI, TO, i1, i2, i3]) (fun c o hb q => (sb.2 c (fun q' => hb (by simp [q']))).trans (hk c o (fun q' => hb (by simp [q'])) (fun q' => hb (by simp [q'])) (fun q' => hb (by simp [q'])) (fun q' => hb (by simp [q'])) (fun q' => hb (by simp [q'])) q)) hf (Nat.le_refl _) new
    refine ⟨.ref s.heap.objs.size, _, I1, rfl, ⟨_, x1, x2, x3, rfl, I.hok.fresh (Nat.le_refl _), rfl, fun l hl => by rw [sqB_inj I hl hq1]; exact hx1, fun l hl => by rw [sqB_inj I hl hq2]; exact hx2, fun l hl => by rw [sqB_inj I hl hq3]; exact hx3⟩, ⟨z'', ?_, ⟨y1, y2, y3, ?_⟩, ?_, ?_, ?_⟩, fun c hcm => ?_⟩
    · exact (sb.2 _ S.TIz).trans (hk _ _ S.TIz S.TITO S.TIi1 S.TIi2 S.TIi3 hTI)
    · exact (sb.2 _ S.TOz).trans TO'
    · exact h1'.1.at fun o q => (sb.2 _ (Ne.symm S.zi1)).trans q
    · exact h2'.1.at fun o q => (sb.2 _ (Ne.symm S.zi2)).trans q
    · exact h3'.1.at fun o q => (sb.2 _ (Ne.symm S.zi3)).trans q
    · have hlt : c < s.heap.objs.size := by
        have e' : c = z ∨ c = TI ∨ c = TO ∨ c = i1 ∨ c = i2 ∨ c = i3 := by simpa using hcm
        rcases e' with q | q | q | q | q | q
        · rw [q]; exact hzl
        · rw [q]; exact Heap.lt_size hTI
        · rw [q]; exact Heap.lt_size hTO
        · rw [q]; exact hi1
        · rw [q]; exact hi2
        · rw [q]; exact hi3
      rw [L2.upd_ne (Nat.ne_of_lt hlt)]
      exact (hf c hcm).1
  done := by
    intro X hP hw hK hc i pins s σ H E I hf st hg
    subst hP hw hK
    obtain ⟨hz, hTI, ⟨a1, a2, a3, hTO⟩, h1, h2, h3⟩ := st
    obtain ⟨xs1, xs2, xs3, hq1, hq2, hq3, le1, le2, le3, hend⟩ := hg
    obtain ⟨its1, rv1, p1, _⟩ := sqB_its I hq1
    have n1 := rv1.length
    obtain ⟨its2, rv2, p2, _⟩ := sqB_its I hq2
    have n2 := rv2.length
    obtain ⟨its3, rv3, p3, _⟩ := sqB_its I hq3
    have n3 := rv3.length
    exact wpAny_pyNext_zipD3_end S (drB (A := X.A.in1) k1 (I.ok.hd hc) i1 l1 hl1 its1.toArray) (drB (A := X.A.in1) k2 (I.ok.hd hc) i2 l2 hl2 its2.toArray) (drB (A := X.A.in1) k3 (I.ok.hd hc) i3 l3 hl3 its3.toArray) hz hTI hTO ⟨h1, p1⟩ ⟨h2, p2⟩ ⟨h3, p3⟩ (by rw [List.size_toArray]; omega) (by rw [List.size_toArray]; omega) (by rw [List.size_toArray]; omega) (by simp only [List.size_toArray]; omega) fun h' tk hk => ⟨rfl, I.turnedL (ch := [z, TI, TO, i1, i2, i3]) (fun c o hb q =>
      hk c o (fun q' => hb (by simp [q'])) (fun q' => hb (by simp [q'])) (fun q' => hb (by simp [q'])) (fun q' => hb (by simp [q'])) (fun q' => hb (by simp [q'])) q) hf⟩
  self := fun A i s Q E st h => wpAny_pyIter_zip st.1 h

def iZ3 (K : PySem.W.Frag) (ta : L2.TA) : TI := fun σ H R => ta σ H fun vs H1 => ∃ l1 l2 l3 xs1 xs2 xs3 k1 k2 k3, vs = [.ref l1, .ref l2, .ref l3] ∧ SqB K k1 H1 l1 xs1 ∧ SqB K k2 H1 l2 xs2 ∧ SqB K k3 H1 l3 xs3 ∧ R (ItZ3 K k1 k2 k3 l1 l2 l3) H1
theorem pi_z3 {X : L2.Cx} {e : Expr} {es : List Expr} {ta : L2.TA} {p pos tpos : Pos} {elts : List Expr} {kk : Nat} (hg : Gl X "zip") (hm : X.mg "zip" = none) (ha : PA X (e :: es) ta)
    (hs : starEach (e :: es) X.env = (false, eval e X.env) :: starEach es X.env) (hpl : (backTo pos (starEach es X.env)).any (·.1) = false) :
    PI X (.Tuple elts kk tpos) (.Call (.Name "zip" p) (e :: es) [] pos) (iZ3 X.K ta) := by
  refine ⟨fun pins s σ H R I h => ?_⟩
  refine Call_ (L2.ld_blt I hg hm PyProof.Rows.boot_zip (PyProof.Rows.callWith_type1 (L2.thn (ha.run pos pins s σ H _ I h) fun us s1 ⟨vs, H1, I1, r1, q1⟩ => ?_) hs hpl))
  obtain ⟨l1, l2, l3, xs1, xs2, xs3, k1, k2, k3, ex, hq1, hq2, hq3, q⟩ := q1
  subst ex
  cases r1 with
  | cons q1 r2 =>
    cases r2 with
    | cons q2 r3 =>
      cases r3 with
      | cons q3 r4 =>
        cases r4
        cases q1
        cases q2
        cases q3
        obtain ⟨its1, rv1, p1, z1⟩ := sqB_its I1 hq1
        obtain ⟨its2, rv2, p2, z2⟩ := sqB_its I1 hq2
        obtain ⟨its3, rv3, p3, z3⟩ := sqB_its I1 hq3
        have fresh : ∀ c, c ∈ [s1.heap.objs.size + 5, s1.heap.objs.size + 3, s1.heap.objs.size + 4, s1.heap.objs.size, s1.heap.objs.size + 1, s1.heap.objs.size + 2] → FpOk X pins H1 c := fun c hcm => by
          have hle : s1.heap.objs.size ≤ c := by
            have e' : c = s1.heap.objs.size + 5 ∨ c = s1.heap.objs.size + 3 ∨ c = s1.heap.objs.size + 4 ∨ c = s1.heap.objs.size ∨ c = s1.heap.objs.size + 1 ∨ c = s1.heap.objs.size + 2 := by simpa using hcm
            rcases e' with z | z | z | z | z | z <;> rw [z] <;> first | exact Nat.le_refl _ | exact Nat.le_add_right _ _
          exact I1.fpOk hle (I1.hok.fresh hle)
        refine zip_begins3 (begB k1 l1 its1.toArray) (begB k2 l2 its2.toArray) (begB k3 l3 its3.toArray) p1 p2 p3 fun h' hz hTI hTO g1 g2 g3 hsz hk => wpAny_pyIter_zip hz ?_
        have I2 : Inv X pins σ H1 { s1 with heap := h' } := I1.kept (t' := s1.toks) hk
        generalize hS : s1.heap.objs.size = S at *
        have w1 : l1 < S := z1
        have w2 : l2 < S := z2
        have w3 : l3 < S := z3
        have sep : ZipSep3 (S + 5) (S + 3) (S + 4) S (S + 1) (S + 2) [S, l1] [S + 1, l2] [S + 2, l3] := by
          constructor <;> first | (simp only [List.mem_cons, List.not_mem_nil, or_false, not_or, ne_eq, true_or]; done) | (simp only [List.mem_cons, List.not_mem_nil, or_false, not_or, ne_eq]; (try constructor) <;> (intro e; have e' : (_ : Nat) = _ := e; simp only [Addr] at *; omega)) | (intro e; simp only [Addr] at *; omega)
        exact ⟨S + 5, [S + 5, S + 3, S + 4, S, S + 1, S + 2], _, _, H1, rfl, I2, turn_z3 sep (fun e => by simp only [Addr] at *; omega) (fun e => by simp only [Addr] at *; omega) (fun e => by simp only [Addr] at *; omega), ⟨hz, hTI, ⟨_, _, _, hTO⟩, .of g1, .of g2, .of g3⟩, fresh, q⟩
end Mo

set_option Elab.async false
set_option linter.all false
set_option maxRecDepth 100000
set_option autoImplicit false
namespace Mo
open PySem PyProof.Rows
open L2 (Inv EP TP AP SP RelV Vals OpR UnR CallR VK R2 PE PT PW PA PO PS PSs Gl Vis Loc It Turn TI PI)

/-- it yields these -/
structure ItOk (D : Wd) (F : L2.Hp) (ts : List T) (chk : St → Prop) (J : It) : Prop where
  go : ∀ i t B H F' st, L2.Same F F' → Sim D B H F' st → chk st → ts[i]? = some t → J.go i H ∧ ∀ x H', J.yld i H x H' → ∃ F'', L2.Same F' F'' ∧ (∀ a, F' a ≠ none → F'' a = F' a) ∧ Sim D B H' F'' st ∧ RepV D F'' t x
  stop : ∀ B H F' st, L2.Same F F' → Sim D B H F' st → chk st → J.stop ts.length H
def EndR (D : Wd) (B : Nat) (F : L2.Hp) (R : List T → (St → Prop) → St → Prop) (Q : It → L2.Hp → Prop) : Prop :=
  ∀ ts chk st, R ts chk st → ts.length ≤ LN → ∀ J H' F', L2.Same F F' → Sim D B H' F' st → ItOk D F' ts chk J → Q J H'
def liftR (D : Wd) (c : Nat) (w : Env → St → LK → Prop) : TI := fun σ H Q =>
  ∃ env st B F R, EnvR D F env σ ∧ Sim D B H F st ∧ B + c ≤ BIG ∧ w env st R ∧ EndR D (B + c) F R Q
abbrev LR (V : Lv) (s : Sr) : TI := liftR V.D (cR V.cc s) fun env st R => wpR V.C s env st noE R
theorem PI.imp {X : L2.Cx} {tg e : Expr} {t t' : TI} (h : PI X tg e t) (k : ∀ σ H Q, t' σ H Q → t σ H Q) : PI X tg e t' := ⟨fun pins s σ H Q I q => h.run pins s σ H Q I (k _ _ _ q)⟩
theorem SZ_LN : SZ ≤ LN := by unfold SZ LN; decide
theorem sz_ln {n : Nat} (h : n ≤ SZ) : n ≤ LN := Nat.le_trans h SZ_LN

/-- a sequence's place: k tells a tuple -/
theorem seqB {D : Wd} {F : L2.Hp} {v : L2.V} {ts : List T} {chk : St → Prop} {K : PySem.W.Frag} (hK : D.K = K) (q : SeqV D F v ts chk) :
    ∃ a k, v = .ref a ∧ ∀ B H F' st, L2.Same F F' → Sim D B H F' st → chk st → ∃ xs, RepVs D F' ts xs ∧ SqB K k H a xs := by
  rcases q with ⟨a, xs, rfl, h, r⟩ | ⟨a, rfl, h⟩ | ⟨a, xs, rfl, h, r⟩ | ⟨a, ns, rfl, h, rfl⟩
  · exact ⟨a, true, rfl, fun B H F' st f sm c => ⟨xs, r.mono f, sm.sqT (sqT_mono f (hK ▸ h))⟩⟩
  · exact ⟨a, false, rfl, fun B H F' st f sm c => let ⟨xs, _, sq, r⟩ := sm.sqL (K := K) (h st c); ⟨xs, r, sq⟩⟩
  · exact ⟨a, false, rfl, fun B H F' st f sm c => ⟨xs, r.mono f, .of (sm.fr _ _ (f _ _ h))⟩⟩
  · exact ⟨a, false, rfl, fun B H F' st f sm c => ⟨_, RepVs.of_ints, sqF_L (hK ▸ sqF_keep (.of f) h) sm⟩⟩
theorem RepVs.at {D : Wd} {F : L2.Hp} {ts : List T} {xs : List L2.V} {i : Nat} {t : T} {x : L2.V} (r : RepVs D F ts xs) (h : ts[i]? = some t) (hx : xs[i]? = some x) : RepV D F t x := by
  obtain ⟨v, e, r1⟩ := r.get h
  rw [hx] at e; cases e
  exact r1
theorem same_refl (F : L2.Hp) : L2.Same F F := L2.Same.refl F
theorem newT {D : Wd} {B : Nat} {H F : L2.Hp} {st : St} {p : Addr} {ts : List T} {xs : List L2.V} (sm : Sim D B H F st) (hp : H p = none) (r : RepVs D F ts xs) :
    L2.Same F (L2.upd F p (.tup xs)) ∧ (∀ a, F a ≠ none → L2.upd F p (.tup xs) a = F a) ∧ Sim D B (L2.upd H p (.tup xs)) (L2.upd F p (.tup xs)) st ∧ RepV D (L2.upd F p (.tup xs)) (.tup ts) (.ref p) := by
  have n := sm.noF hp
  exact ⟨same_upd n, fun a h => L2.upd_ne (fun z => h (by rw [z, n])), sm.know _ hp, ⟨p, xs, rfl, .inl (.inl L2.upd_same), r.mono (same_upd n)⟩⟩

theorem itOk_seq {D : Wd} {F : L2.Hp} {ts : List T} {chk : St → Prop} {K : PySem.W.Frag} {k : Bool} {a : Addr}
    (q : ∀ B H F' st, L2.Same F F' → Sim D B H F' st → chk st → ∃ xs, RepVs D F' ts xs ∧ SqB K k H a xs) : ItOk D F ts chk (ItA K k a) := by
  cases k
  · refine ⟨fun i t B H F' st f sm c h => ?_, fun B H F' st f sm c => ?_⟩
    · obtain ⟨xs, r, sq⟩ := q B H F' st f sm c
      obtain ⟨x, e, _⟩ := r.get h
      refine ⟨⟨xs, x, sq, e⟩, fun y H' hy => ?_⟩
      obtain ⟨e1, e2⟩ := hy
      subst e1
      exact ⟨F', same_refl F', fun _ _ => rfl, sm, r.at h (e2 xs sq)⟩
    · obtain ⟨xs, r, sq⟩ := q B H F' st f sm c
      exact ⟨xs, sq, Nat.le_of_eq r.length.symm⟩
  · refine ⟨fun i t B H F' st f sm c h => ?_, fun B H F' st f sm c => ?_⟩
    · obtain ⟨xs, r, sq⟩ := q B H F' st f sm c
      obtain ⟨x, e, _⟩ := r.get h
      refine ⟨⟨xs, x, sq, e⟩, fun y H' hy => ?_⟩
      obtain ⟨e1, e2⟩ := hy
      subst e1
      exact ⟨F', same_refl F', fun _ _ => rfl, sm, r.at h (e2 xs sq)⟩
    · obtain ⟨xs, r, sq⟩ := q B H F' st f sm c
      exact ⟨xs, sq, Nat.le_of_eq r.length.symm⟩
theorem itOk_range {D : Wd} {F : L2.Hp} {lo hi : Int} : ItOk D F (rangeT lo hi) (fun _ => True) (L2.Itr lo (hi - lo).toNat) := by
  refine ⟨fun i t B H F' st f sm c h => ?_, fun B H F' st f sm c => ?_⟩
  · unfold rangeT at h
    rw [List.getElem?_map] at h
    have hl : i < (hi - lo).toNat := by
      by_cases z : i < (hi - lo).toNat
      · exact z
      · rw [List.getElem?_eq_none (by simpa using z)] at h; cases h
    rw [List.getElem?_range hl] at h
    cases h
    refine ⟨hl, fun x H' hy => ?_⟩
    obtain ⟨e1, e2⟩ := hy
    subst e1 e2
    exact ⟨F', same_refl F', fun _ _ => rfl, sm, rfl⟩
  · show (hi - lo).toNat ≤ (rangeT lo hi).length
    simp [rangeT]
theorem itOk_enum {D : Wd} {F : L2.Hp} {ts : List T} {chk : St → Prop} {K : PySem.W.Frag} {k : Bool} {a : Addr}
    (q : ∀ B H F' st, L2.Same F F' → Sim D B H F' st → chk st → ∃ xs, RepVs D F' ts xs ∧ SqB K k H a xs) : ItOk D F (enumT ts) chk (ItE K k a) := by
  refine ⟨fun i t B H F' st f sm c h => ?_, fun B H F' st f sm c => ?_⟩
  · obtain ⟨xs, r, sq⟩ := q B H F' st f sm c
    unfold enumT at h
    rw [List.getElem?_zipWith] at h
    by_cases hl : i < ts.length
    · rw [List.getElem?_range hl, List.getElem?_eq_getElem hl] at h
      simp at h
      subst h
      obtain ⟨x, e, r1⟩ := r.get (List.getElem?_eq_getElem hl)
      refine ⟨⟨xs, x, sq, e⟩, fun y H' hy => ?_⟩
      obtain ⟨p, x', e1, hp, e2, e3⟩ := hy
      subst e1 e2
      have e4 := e3 xs sq
      rw [e] at e4; cases e4
      obtain ⟨f1, f2, s1, r2⟩ := newT (ts := [.int i, ts[i]]) (xs := [.int i, x]) sm hp ⟨_, _, rfl, rfl, _, _, rfl, r1, rfl⟩
      exact ⟨_, f1, f2, s1, r2⟩
    · rw [List.getElem?_eq_none (l := ts) (by omega)] at h
      simp at h
  · obtain ⟨xs, r, sq⟩ := q B H F' st f sm c
    exact ⟨xs, sq, by rw [← r.length]; simp [enumT]⟩
theorem itOk_zip2 {D : Wd} {F : L2.Hp} {ts us : List T} {chk : St → Prop} {K : PySem.W.Frag} {k l : Bool} {a b : Addr}
    (q : ∀ B H F' st, L2.Same F F' → Sim D B H F' st → chk st → ∃ xs, RepVs D F' ts xs ∧ SqB K k H a xs)
    (p : ∀ B H F' st, L2.Same F F' → Sim D B H F' st → chk st → ∃ xs, RepVs D F' us xs ∧ SqB K l H b xs) : ItOk D F (zipT [ts, us]) chk (ItZ2 K k l a b) := by
  refine ⟨fun i t B H F' st f sm c h => ?_, fun B H F' st f sm c => ?_⟩
  · obtain ⟨xs, r, sq⟩ := q B H F' st f sm c
    obtain ⟨ys, r', sq'⟩ := p B H F' st f sm c
    simp only [zipT, List.getElem?_zipWith] at h
    split at h
    · rename_i t1 t2 h1 h2
      cases h
      obtain ⟨x, e, r1⟩ := r.get h1
      obtain ⟨y, e', r1'⟩ := r'.get h2
      refine ⟨⟨xs, ys, x, y, sq, e, sq', e'⟩, fun z H' hy => ?_⟩
      obtain ⟨p, x', y', e1, hp, e2, e3, e4⟩ := hy
      subst e1 e2
      have e5 := e3 xs sq
      have e6 := e4 ys sq'
      rw [e] at e5; cases e5
      rw [e'] at e6; cases e6
      obtain ⟨f1, f2, s1, r2⟩ := newT (ts := [t1, t2]) (xs := [x, y]) sm hp ⟨_, _, rfl, r1, _, _, rfl, r1', rfl⟩
      exact ⟨_, f1, f2, s1, r2⟩
    · cases h
  · obtain ⟨xs, r, sq⟩ := q B H F' st f sm c
    obtain ⟨ys, r', sq'⟩ := p B H F' st f sm c
    have h1 := r.length
    have h2 := r'.length
    refine ⟨xs, ys, sq, sq', ?_, ?_, ?_⟩ <;> simp only [zipT, List.length_zipWith] <;> omega
theorem itOk_zip3 {D : Wd} {F : L2.Hp} {ts us ws : List T} {chk : St → Prop} {K : PySem.W.Frag} {k l m : Bool} {a b d : Addr}
    (q : ∀ B H F' st, L2.Same F F' → Sim D B H F' st → chk st → ∃ xs, RepVs D F' ts xs ∧ SqB K k H a xs)
    (p : ∀ B H F' st, L2.Same F F' → Sim D B H F' st → chk st → ∃ xs, RepVs D F' us xs ∧ SqB K l H b xs)
    (o : ∀ B H F' st, L2.Same F F' → Sim D B H F' st → chk st → ∃ xs, RepVs D F' ws xs ∧ SqB K m H d xs) : ItOk D F (zipT [ts, us, ws]) chk (ItZ3 K k l m a b d) := by
  refine ⟨fun i t B H F' st f sm c h => ?_, fun B H F' st f sm c => ?_⟩
  · obtain ⟨xs, r, sq⟩ := q B H F' st f sm c
    obtain ⟨ys, r', sq'⟩ := p B H F' st f sm c
    obtain ⟨zs, r'', sq''⟩ := o B H F' st f sm c
    simp only [zipT, List.getElem?_zipWith] at h
    split at h
    · rename_i t1 t2 h1 h2
      cases h
      split at h2
      · rename_i t3 t4 h3 h4
        cases h2
        obtain ⟨x, e, r1⟩ := r.get h1
        obtain ⟨y, e', r1'⟩ := r'.get h3
        obtain ⟨z, e'', r1''⟩ := r''.get h4
        refine ⟨⟨xs, ys, zs, x, y, z, sq, e, sq', e', sq'', e''⟩, fun z H' hy => ?_⟩
        obtain ⟨p, x', y', z', e1, hp, e2, e3, e4, e9⟩ := hy
        subst e1 e2
        have e5 := e3 xs sq
        have e6 := e4 ys sq'
        have e7 := e9 zs sq''
        rw [e] at e5; cases e5
        rw [e'] at e6; cases e6
        rw [e''] at e7; cases e7
        obtain ⟨f1, f2, s1, r2⟩ := newT (ts := [t1, t3, t4]) (xs := [x, y, _]) sm hp ⟨_, _, rfl, r1, _, _, rfl, r1', _, _, rfl, r1'', rfl⟩
        exact ⟨_, f1, f2, s1, r2⟩
      · cases h2
    · cases h
  · obtain ⟨xs, r, sq⟩ := q B H F' st f sm c
    obtain ⟨ys, r', sq'⟩ := p B H F' st f sm c
    obtain ⟨zs, r'', sq''⟩ := o B H F' st f sm c
    have h1 := r.length
    have h2 := r'.length
    have h3 := r''.length
    refine ⟨xs, ys, zs, sq, sq', sq'', ?_, ?_, ?_, ?_⟩ <;> simp only [zipT, List.length_zipWith] <;> omega
end Mo

set_option Elab.async false
set_option linter.all false
set_option maxRecDepth 100000
set_option autoImplicit false
namespace Mo
open PySem PyProof.Rows
open L2 (Inv EP TP AP SP RelV Vals OpR UnR CallR VK R2 PE PT PW PA PO PS PSs Gl Vis Loc It Turn TI PI PG PGs TG TGs)

/-- several sequences -/
def SeqVs (D : Wd) (F : L2.Hp) : List L2.V → List (List T) → (St → Prop) → Prop
  | [], [], _ => True
  | v :: vs, ts :: tss, chk => SeqV D F v ts chk ∧ SeqVs D F vs tss chk
  | _, _, _ => False
theorem SeqV.mono {D : Wd} {F F' : L2.Hp} {v : L2.V} {ts : List T} {chk chk' : St → Prop} (q : SeqV D F v ts chk) (f : L2.Same F F') (h : ∀ s, chk' s → chk s) : SeqV D F' v ts chk' := by
  rcases q with ⟨a, xs, rfl, h1, r⟩ | ⟨a, rfl, h1⟩ | ⟨a, xs, rfl, h1, r⟩ | ⟨a, ns, rfl, h1, rfl⟩
  · exact .inl ⟨a, xs, rfl, sqT_mono f h1, r.mono f⟩
  · exact .inr (.inl ⟨a, rfl, fun s c => h1 s (h s c)⟩)
  · exact .inr (.inr (.inl ⟨a, xs, rfl, f _ _ h1, r.mono f⟩))
  · exact .inr (.inr (.inr ⟨a, ns, rfl, sqF_keep (.of f) h1, rfl⟩))
theorem SeqVs.mono {D : Wd} {F F' : L2.Hp} {chk chk' : St → Prop} (f : L2.Same F F') (h : ∀ s, chk' s → chk s) : ∀ {vs : List L2.V} {tss : List (List T)}, SeqVs D F vs tss chk → SeqVs D F' vs tss chk'
  | [], [], _ => trivial
  | _ :: _, _ :: _, q => ⟨q.1.mono f h, SeqVs.mono f h q.2⟩
def EndLs (D : Wd) (B n : Nat) (F : L2.Hp) (R : List (List T) → (St → Prop) → St → Prop) (Q : List L2.V → L2.Hp → Prop) : Prop :=
  ∀ tss chk st, R tss chk st → tss.length = n → (∀ ts ∈ tss, ts.length ≤ SZ) → ∀ vs H' F', L2.Same F F' → Sim D B H' F' st → SeqVs D F' vs tss chk → Q vs H'
def liftLs (D : Wd) (c n : Nat) (w : Env → St → (List (List T) → (St → Prop) → St → Prop) → Prop) : L2.TA := fun σ H Q =>
  ∃ env st B F R, EnvR D F env σ ∧ Sim D B H F st ∧ B + c ≤ BIG ∧ w env st R ∧ EndLs D (B + c) n F R Q
abbrev LLs (V : Lv) (ls : List L) : L2.TA := liftLs V.D (cLs V.cc ls) ls.length fun env st R => wpLs V.C ls env st noE R
section
variable {V : Lv} {Y : L2.Cx} {N : List Str} {sc : Scope} (G : GX V Y N sc) {a b c e tg : Expr} {x y z : X} {pos : Pos} {es : List Expr} {xs : List X} {l : L}
theorem sl_nil : PA Y [] (LLs V []) := PA.imp L2.pa_nil fun σ H Q h => by
  obtain ⟨env, st, B, F, R, er, sm, hb, w, en⟩ := h
  simp only [wpLs] at w
  simp only [cLs] at hb en
  exact en [] _ st w rfl (fun _ h => by cases h) [] H F (L2.Same.refl F) sm trivial
theorem sl_cons {ls : List L} (ha : PE Y a (LL V l)) (hr : PA Y es (LLs V ls)) (hs : starEach (a :: es) Y.env = (false, eval a Y.env) :: starEach es Y.env) : PA Y (a :: es) (LLs V (l :: ls)) := PA.imp (L2.pa_cons ha hr hs) fun σ H Q h => by
  obtain ⟨env, st, B, F, R, er, sm, hb, w, en⟩ := h
  simp only [wpLs] at w
  simp only [cLs] at hb en
  refine lL er sm (by omega) w fun ts chk st1 v H1 F1 r1 l1 f1 sm1 q1 c1 e1 => ?_
  refine ⟨env, st1, _, F1, _, e1, sm1, by omega, r1, fun tss chk2 st2 r2 l2 h2 vs H2 F2 f2 sm2 q2 => ?_⟩
  exact en (ts :: tss) _ st2 r2 (by simp [l2]) (fun t ht => by rcases List.mem_cons.mp ht with rfl | ht; exact l1; exact h2 t ht) (v :: vs) H2 F2 (f1.trans f2) (sm2.more (by omega))
    ⟨q1.mono f2 fun s c => c.1, q2.mono (same_refl F2) fun s c => c.2⟩

/-! sources -/
include G in
theorem r_seq (h : PE Y e (LL V l)) : PI Y tg e (LR V (.seq l)) := PI.imp (pi_sq h) fun σ H Q h => by
  obtain ⟨env, st, B, F, R, er, sm, hb, w, en⟩ := h
  simp only [wpR] at w
  simp only [cR] at hb en
  refine lL er sm (by omega) w fun ts chk st1 v H1 F1 r1 l1 f1 sm1 q1 c1 e1 => ?_
  obtain ⟨a, k, rfl, q⟩ := seqB G.K q1
  obtain ⟨ys, _, sq⟩ := q _ H1 F1 st1 (same_refl F1) sm1 c1
  exact ⟨a, ys, k, rfl, sq, en ts chk st1 r1 (sz_ln l1) _ H1 F1 f1 sm1 (itOk_seq q)⟩
theorem range_len (lo hi : Int) : (rangeT lo hi).length = (hi - lo).toNat := by simp [rangeT]
theorem range_ln {lo hi : Int} (h : -1000000 ≤ lo) (h2 : hi ≤ SZ) : (rangeT lo hi).length ≤ LN := by
  rw [range_len]; unfold LN; unfold SZ at h2; omega
theorem range1 {p : Pos} (hg : Gl Y "range") (hm : Y.mg "range" = none) (ha : PA Y [a] (LA V xs)) (hl : xs.length = 1) (hs : starEach [a] Y.env = [(false, eval a Y.env)]) : PI Y tg (.Call (.Name "range" p) [a] [] pos) (LR V (.range xs)) :=
  PI.imp (L2.pi_range1 hg hm ha hs) fun σ H Q h => by
    obtain ⟨env, st, B, F, R, er, sm, hb, w, en⟩ := h
    simp only [wpR] at w
    simp only [cR] at hb en
    refine lA er sm (by omega) w fun ts st1 vs H1 F1 r1 l1 f1 sm1 q1 e1 => ?_
    unfold rangeSem at r1
    split at r1
    · rename_i n
      obtain ⟨x, rfl, q⟩ := rep1 q1
      cases q
      obtain ⟨⟨h1, h2⟩, r1⟩ := r1
      unfold SZ at h2
      refine ⟨n, rfl, by omega, by omega, ?_⟩
      have := en _ _ st1 r1 (range_ln (by omega) (by unfold SZ; omega)) _ H1 F1 f1 sm1 itOk_range
      simpa using this
    · simp at l1; omega
    · exact r1.elim
theorem range2 {p : Pos} (hg : Gl Y "range") (hm : Y.mg "range" = none) (ha : PA Y [a, b] (LA V xs)) (hl : xs.length = 2) (hs : starEach [a, b] Y.env = [(false, eval a Y.env), (false, eval b Y.env)]) (hs2 : starEach [b] Y.env = [(false, eval b Y.env)]) : PI Y tg (.Call (.Name "range" p) [a, b] [] pos) (LR V (.range xs)) :=
  PI.imp (L2.pi_range2 hg hm ha hs hs2) fun σ H Q h => by
    obtain ⟨env, st, B, F, R, er, sm, hb, w, en⟩ := h
    simp only [wpR] at w
    simp only [cR] at hb en
    refine lA er sm (by omega) w fun ts st1 vs H1 F1 r1 l1 f1 sm1 q1 e1 => ?_
    unfold rangeSem at r1
    split at r1
    · simp at l1; omega
    · rename_i m n
      obtain ⟨x, y, rfl, q, q'⟩ := rep2 q1
      cases q; cases q'
      obtain ⟨⟨h1, h2, h3, h4⟩, r1⟩ := r1
      unfold SZ at h2 h4
      refine ⟨m, n, rfl, ⟨by omega, by omega, by omega, by omega⟩, ?_⟩
      exact en _ _ st1 r1 (range_ln (by omega) (by unfold SZ; omega)) _ H1 F1 f1 sm1 itOk_range
    · exact r1.elim
include G in
theorem r_enum {p tpos : Pos} {elts : List Expr} {kk : Nat} (hg : Gl Y "enumerate") (hm : Y.mg "enumerate" = none) (h : PE Y e (LL V l)) (hs : starEach [e] Y.env = [(false, eval e Y.env)]) : PI Y (.Tuple elts kk tpos) (.Call (.Name "enumerate" p) [e] [] pos) (LR V (.enum l)) :=
  PI.imp (pi_en hg hm (pa_one h hs) hs) fun σ H Q h => by
    obtain ⟨env, st, B, F, R, er, sm, hb, w, en⟩ := h
    simp only [wpR] at w
    simp only [cR] at hb en
    refine lL er sm (by omega) w fun ts chk st1 v H1 F1 r1 l1 f1 sm1 q1 c1 e1 => ?_
    obtain ⟨a, k, rfl, q⟩ := seqB G.K q1
    obtain ⟨ys, _, sq⟩ := q _ H1 F1 st1 (same_refl F1) sm1 c1
    exact ⟨a, ys, k, rfl, sq, en _ chk st1 r1 (by have := sz_ln l1; simp only [enumT, List.length_zipWith, List.length_range]; omega) _ H1 F1 f1 sm1 (itOk_enum q)⟩
theorem len2 {α : Type} {l : List α} (h : l.length = 2) : ∃ a b, l = [a, b] := by
  cases l with
  | nil => cases h
  | cons a l => cases l with
    | nil => cases h
    | cons b l => cases l with
      | nil => exact ⟨a, b, rfl⟩
      | cons c l => simp at h
theorem len3 {α : Type} {l : List α} (h : l.length = 3) : ∃ a b c, l = [a, b, c] := by
  cases l with
  | nil => cases h
  | cons a l => obtain ⟨b, c, rfl⟩ := len2 (l := l) (by simpa using h); exact ⟨a, b, c, rfl⟩
theorem seqVs1 {D : Wd} {F : L2.Hp} {vs : List L2.V} {ts : List T} {tss : List (List T)} {chk : St → Prop} (q : SeqVs D F vs (ts :: tss) chk) : ∃ v ws, vs = v :: ws ∧ SeqV D F v ts chk ∧ SeqVs D F ws tss chk := by
  cases vs with
  | nil => exact q.elim
  | cons v ws => exact ⟨v, ws, rfl, q.1, q.2⟩
theorem seqVs0 {D : Wd} {F : L2.Hp} {vs : List L2.V} {chk : St → Prop} (q : SeqVs D F vs [] chk) : vs = [] := by
  cases vs with
  | nil => rfl
  | cons v ws => exact q.elim
theorem seqVs2 {D : Wd} {F : L2.Hp} {vs : List L2.V} {ts us : List T} {chk : St → Prop} (q : SeqVs D F vs [ts, us] chk) : ∃ v u, vs = [v, u] ∧ SeqV D F v ts chk ∧ SeqV D F u us chk := by
  obtain ⟨v, ws, rfl, q1, q⟩ := seqVs1 q
  obtain ⟨u, ws, rfl, q2, q⟩ := seqVs1 q
  obtain rfl := seqVs0 q
  exact ⟨v, u, rfl, q1, q2⟩
theorem seqVs3 {D : Wd} {F : L2.Hp} {vs : List L2.V} {ts us ws : List T} {chk : St → Prop} (q : SeqVs D F vs [ts, us, ws] chk) : ∃ v u w, vs = [v, u, w] ∧ SeqV D F v ts chk ∧ SeqV D F u us chk ∧ SeqV D F w ws chk := by
  obtain ⟨v, ws, rfl, q1, q⟩ := seqVs1 q
  obtain ⟨u, w, rfl, q2, q3⟩ := seqVs2 q
  exact ⟨v, u, w, rfl, q1, q2, q3⟩
include G in
theorem r_zip2 {p tpos : Pos} {elts : List Expr} {kk : Nat} {ls : List L} (hl : ls.length = 2) (hg : Gl Y "zip") (hm : Y.mg "zip" = none) (h : PA Y (a :: es) (LLs V ls)) (hs : starEach (a :: es) Y.env = (false, eval a Y.env) :: starEach es Y.env) (hpl : (backTo pos (starEach es Y.env)).any (·.1) = false) :
    PI Y (.Tuple elts kk tpos) (.Call (.Name "zip" p) (a :: es) [] pos) (LR V (.zip ls)) :=
  PI.imp (pi_z2 hg hm h hs hpl) fun σ H Q h => by
    obtain ⟨env, st, B, F, R, er, sm, hb, w, en⟩ := h
    simp only [wpR] at w
    simp only [cR] at hb en
    refine ⟨env, st, B, F, _, er, sm, hb, w, fun tss chk st2 r2 l2 h2 vs H2 F2 f2 sm2 q2 => ?_⟩
    rw [hl] at l2
    obtain ⟨ts, us, rfl⟩ := len2 l2
    obtain ⟨v, u, rfl, q, q'⟩ := seqVs2 q2
    · obtain ⟨a1, k1, rfl, p1⟩ := seqB G.K q
      obtain ⟨a2, k2, rfl, p2⟩ := seqB G.K q'
      obtain ⟨y1, _, s1⟩ := p1 _ H2 F2 st2 (same_refl F2) sm2 r2.1
      obtain ⟨y2, _, s2⟩ := p2 _ H2 F2 st2 (same_refl F2) sm2 r2.1
      exact ⟨a1, a2, y1, y2, k1, k2, rfl, s1, s2, en _ chk st2 r2.2 (by have := sz_ln (h2 ts (by simp)); simp only [zipT, List.length_zipWith]; omega) _ H2 F2 f2 sm2 (itOk_zip2 p1 p2)⟩
include G in
theorem r_zip3 {p tpos : Pos} {elts : List Expr} {kk : Nat} {ls : List L} (hl : ls.length = 3) (hg : Gl Y "zip") (hm : Y.mg "zip" = none) (h : PA Y (a :: es) (LLs V ls)) (hs : starEach (a :: es) Y.env = (false, eval a Y.env) :: starEach es Y.env) (hpl : (backTo pos (starEach es Y.env)).any (·.1) = false) :
    PI Y (.Tuple elts kk tpos) (.Call (.Name "zip" p) (a :: es) [] pos) (LR V (.zip ls)) :=
  PI.imp (pi_z3 hg hm h hs hpl) fun σ H Q h => by
    obtain ⟨env, st, B, F, R, er, sm, hb, w, en⟩ := h
    simp only [wpR] at w
    simp only [cR] at hb en
    refine ⟨env, st, B, F, _, er, sm, hb, w, fun tss chk st2 r2 l2 h2 vs H2 F2 f2 sm2 q2 => ?_⟩
    rw [hl] at l2
    obtain ⟨ts, us, ws, rfl⟩ := len3 l2
    obtain ⟨v, u, o, rfl, q, q', q''⟩ := seqVs3 q2
    · obtain ⟨a1, k1, rfl, p1⟩ := seqB G.K q
      obtain ⟨a2, k2, rfl, p2⟩ := seqB G.K q'
      obtain ⟨a3, k3, rfl, p3⟩ := seqB G.K q''
      obtain ⟨y1, _, s1⟩ := p1 _ H2 F2 st2 (same_refl F2) sm2 r2.1
      obtain ⟨y2, _, s2⟩ := p2 _ H2 F2 st2 (same_refl F2) sm2 r2.1
      obtain ⟨y3, _, s3⟩ := p3 _ H2 F2 st2 (same_refl F2) sm2 r2.1
      exact ⟨a1, a2, a3, y1, y2, y3, k1, k2, k3, rfl, s1, s2, s3, en _ chk st2 r2.2 (by have := sz_ln (h2 ts (by simp)); simp only [zipT, List.length_zipWith]; omega) _ H2 F2 f2 sm2 (itOk_zip3 p1 p2 p3)⟩
end

/-! targets -/
def Off (S : List Nat) (σ σ' : L2.St) : Prop := σ'.length = σ.length ∧ ∀ i, i ∉ S → σ'[i]? = σ[i]?
theorem Off.refl (σ : L2.St) : Off [] σ σ := ⟨rfl, fun _ _ => rfl⟩
theorem Off.trans {S S' : List Nat} {σ τ υ : L2.St} (h : Off S σ τ) (k : Off S' τ υ) : Off (S ++ S') σ υ :=
  ⟨k.1.trans h.1, fun i hi => by
    simp only [List.mem_append, not_or] at hi
    rw [k.2 i hi.2, h.2 i hi.1]⟩
theorem wipe_at (σ : L2.St) : ∀ (vs : List Nat) (i : Nat), (L2.wipe σ vs)[i]? = if i ∈ vs then (if i < σ.length then some none else none) else σ[i]?
  | [], i => by simp [L2.wipe]
  | v :: vs, i => by
    have ih := wipe_at σ vs i
    have hl : (L2.wipe σ vs).length = σ.length := L2.wipe_length σ vs
    unfold L2.wipe
    by_cases h : v = i
    · subst h
      simp only [List.mem_cons, true_or, if_true]
      by_cases hv : v < σ.length
      · rw [if_pos hv, List.getElem?_set_self (by rw [hl]; exact hv)]
      · rw [if_neg hv, List.getElem?_eq_none (by rw [List.length_set, hl]; omega)]
    · rw [List.getElem?_set_ne h, ih]
      have : (i ∈ v :: vs) ↔ i ∈ vs := ⟨fun q => (List.mem_cons.mp q).resolve_left fun e => h e.symm, List.mem_cons_of_mem _⟩
      simp only [this]
theorem wipe_off {S vs : List Nat} {σ τ : L2.St} (h : Off S (L2.wipe σ vs) τ) (hS : ∀ i ∈ S, i ∈ vs) : L2.wipe τ vs = L2.wipe σ vs := by
  have hl : τ.length = σ.length := h.1.trans (L2.wipe_length σ vs)
  apply List.ext_getElem?
  intro i
  rw [wipe_at, wipe_at, hl]
  by_cases z : i ∈ vs
  · rw [if_pos z, if_pos z]
  · rw [if_neg z, if_neg z, h.2 i (fun q => z (hS i q)), wipe_at, if_neg z]
def liftG (D : Wd) (t : Tg) : TG := fun v σ H Q => ∃ tv env st B F R, RepV D F tv v ∧ EnvR D F env σ ∧ Sim D B H F st ∧ asgT t tv st env R ∧ ∀ env', R env' → ∀ σ', EnvR D F env' σ' → Off (slots t) σ σ' → Q σ' H
def liftGs (D : Wd) (ts : List Tg) : TGs := fun vs σ H Q => ∃ tvs env st B F R, RepVs D F tvs vs ∧ EnvR D F env σ ∧ Sim D B H F st ∧ asgTs ts tvs st env R ∧ ∀ env', R env' → ∀ σ', EnvR D F env' σ' → Off (slotss ts) σ σ' → Q σ' H
theorem PG.imp {X : L2.Cx} {e : Expr} {t t' : TG} (h : PG X e t) (k : ∀ v σ H Q, t' v σ H Q → t v σ H Q) : PG X e t' := ⟨fun pins s σ H v u Q I r q => h.run pins s σ H v u Q I r (k _ _ _ _ q)⟩
theorem PGs.imp {X : L2.Cx} {e : List Expr} {t t' : TGs} (h : PGs X e t) (k : ∀ v σ H Q, t' v σ H Q → t v σ H Q) : PGs X e t' := ⟨fun pins s σ H v u Q I r q => h.run pins s σ H v u Q I r (k _ _ _ _ q)⟩
theorem PG.or {X : L2.Cx} {e : Expr} {t t' : TG} (h : PG X e t) (h' : PG X e t') : PG X e (fun v σ H Q => t v σ H Q ∨ t' v σ H Q) := ⟨fun pins s σ H v u Q I r q => q.elim (h.run pins s σ H v u Q I r) (h'.run pins s σ H v u Q I r)⟩
mutual
theorem asgT_ex : ∀ {t : Tg} {v : T} {st : St} {env : Env} {Q : Env → Prop}, asgT t v st env Q → ∃ e, Q e
  | .name i, v, st, env, Q, h => ⟨_, by simpa only [asgT] using h⟩
  | .tup gs, v, st, env, Q, h => by
    cases v <;> simp only [asgT] at h
    · exact asgTs_ex h
    · obtain ⟨ts, _, h⟩ := h
      exact asgTs_ex h
theorem asgTs_ex : ∀ {t : List Tg} {v : List T} {st : St} {env : Env} {Q : Env → Prop}, asgTs t v st env Q → ∃ e, Q e
  | [], [], _, _, _, h => ⟨_, by simpa only [asgTs] using h⟩
  | g :: gs, t :: ts, st, env, Q, h => by
    simp only [asgTs] at h
    obtain ⟨e, h⟩ := asgT_ex h
    exact asgTs_ex h
  | [], _ :: _, _, _, _, h => by simp only [asgTs] at h
  | _ :: _, [], _, _, _, h => by simp only [asgTs] at h
end
theorem asgTs_len : ∀ {t : List Tg} {v : List T} {st : St} {env : Env} {Q : Env → Prop}, asgTs t v st env Q → v.length = t.length
  | [], [], _, _, _, h => rfl
  | g :: gs, t :: ts, st, env, Q, h => by
    simp only [asgTs] at h
    obtain ⟨e, h⟩ := asgT_ex h
    simp [asgTs_len h]
  | [], _ :: _, _, _, _, h => by simp only [asgTs] at h
  | _ :: _, [], _, _, _, h => by simp only [asgTs] at h
/-- where targets of a scope's own names may be stored -/
def GT (Y : L2.Cx) (sc : Scope) : Prop := ∀ x, isL sc x = true → Loc Y.env.scope x ∧ (Y.fn x = true ∨ Y.env.scope.names.lookup x = some .local)
theorem stripT_ns {N : List Str} {sc : Scope} : ∀ {n : Nat} {e : Expr} {t : Tg}, stripT N sc n e = some t → ∀ v p, e ≠ .Starred v p
  | 0, _, _, h => by simp [stripT] at h
  | n + 1, e, _, h => by
    intro v p z
    subst z
    simp [stripT] at h
theorem asg_ns {e : Expr} {es : List Expr} {env : PySem.Env} (h : ∀ v p, e ≠ .Starred v p) : assignEach (e :: es) env = (false, assign e env) :: assignEach es env := by
  cases e <;> first | rfl | exact absurd rfl (h _ _)
theorem g_all {V : Lv} {Y : L2.Cx} {N : List Str} {sc tsc : Scope} (G : GX V Y N sc) (gt : GT Y tsc) : ∀ (n : Nat),
    (∀ e t, stripT N tsc n e = some t → PG Y e (liftG V.D t)) ∧ (∀ es ts, mapO (stripT N tsc n) es = some ts → PGs Y es (liftGs V.D ts) ∧ (assignEach es Y.env).length = ts.length ∧ (assignEach es Y.env).findIdx? (·.1) = none) := by
  have lists : ∀ n, (∀ e t, stripT N tsc n e = some t → PG Y e (liftG V.D t)) → ∀ es ts, mapO (stripT N tsc n) es = some ts → PGs Y es (liftGs V.D ts) ∧ (assignEach es Y.env).length = ts.length ∧ (assignEach es Y.env).findIdx? (·.1) = none := by
    intro n ih es
    induction es with
    | nil =>
      intro ts h
      obtain rfl := mapO_nil h
      refine ⟨PGs.imp L2.pgs_nil fun vs σ H Q h => ?_, rfl, rfl⟩
      obtain ⟨tvs, env, st, B, F, R, r, er, sm, w, k⟩ := h
      cases tvs with
      | nil =>
        simp only [asgTs] at w
        exact ⟨r, k env w σ er (Off.refl σ)⟩
      | cons _ _ => simp only [asgTs] at w
    | cons e es ih2 =>
      intro ts h
      obtain ⟨t, ts', rfl, h1, h2⟩ := mapO_cons h
      obtain ⟨g2, l2, f2⟩ := ih2 ts' h2
      have ns := asg_ns (es := es) (env := Y.env) (stripT_ns h1)
      refine ⟨PGs.imp (L2.pgs_cons (ih e t h1) g2 (by rw [ns]; rfl)) fun vs σ H Q h => ?_, by rw [ns, List.length_cons, l2, List.length_cons], by
        rw [ns, List.findIdx?_cons]
        show (if false = true then _ else _) = _
        rw [if_neg (by decide), f2]
        rfl⟩
      obtain ⟨tvs, env, st, B, F, R, r, er, sm, w, k⟩ := h
      cases tvs with
      | nil => simp only [asgTs] at w
      | cons tv tvs =>
        simp only [asgTs] at w
        obtain ⟨v, ws, rfl, r1, r2⟩ := r
        refine ⟨v, ws, rfl, tv, env, st, B, F, _, r1, er, sm, w, fun env' w' σ' er' o => ?_⟩
        exact ⟨tvs, env', st, B, F, R, r2, er', sm, w', fun env2 w2 σ2 er2 o2 => k env2 w2 σ2 er2 (o.trans o2)⟩
  intro n
  induction n with
  | zero =>
    have h0 : ∀ e t, stripT N tsc 0 e = some t → PG Y e (liftG V.D t) := fun e t h => by simp [stripT] at h
    exact ⟨h0, lists 0 h0⟩
  | succ n ih =>
    have h1 : ∀ e t, stripT N tsc (n + 1) e = some t → PG Y e (liftG V.D t) := by
      intro e t h
      unfold stripT at h
      split at h
      · rename_i h0; exact absurd h0 (by omega)
      · rename_i h0
        cases h0
        split at h
        · rename_i hx
          cases hs : slot N _ with
          | none => rw [hs] at h; cases h
          | some i =>
            rw [hs] at h
            cases h
            obtain ⟨g1, g2⟩ := gt _ hx
            refine PG.imp (L2.pg_name (i := i) (by rw [G.nn]; exact G.nd) (by rw [G.nn]; exact slotOf hs) g1 g2) fun v σ H Q h => ?_
            obtain ⟨tv, env, st, B, F, R, r, er, sm, w, k⟩ := h
            simp only [asgT] at w
            refine k _ w _ (er.set r) ⟨by simp, fun j hj => ?_⟩
            simp only [slots, List.mem_singleton] at hj
            rw [List.getElem?_set_ne (fun z => hj z.symm)]
        · cases h
      · rename_i h0
        cases h0
        cases hm : mapO (stripT N tsc n) _ with
        | none => rw [hm] at h; cases h
        | some gs =>
          rw [hm] at h
          cases h
          obtain ⟨p1, p2, p3⟩ := ih.2 _ _ hm
          refine PG.imp (PG.or (L2.pg_tup G.calm p1 p2 p3) (L2.pg_lst G.calm p1 p2 p3)) fun v σ H Q h => ?_
          obtain ⟨tv, env, st, B, F, R, r, er, sm, w, k⟩ := h
          cases tv <;> simp only [asgT] at w
          · rename_i ts
            obtain ⟨a, ys, rfl, sa, ra⟩ := r
            exact .inl ⟨a, ys, rfl, sm.sqT (G.K ▸ sa), by rw [← ra.length, asgTs_len w], ts, env, st, B, F, R, ra, er, sm, w, k⟩
          · cases r
            obtain ⟨ts, e, w⟩ := w
            obtain ⟨ys, _, sq, ra⟩ := sm.sqL (K := Y.K) e
            exact .inr ⟨_, ys, rfl, sq, by rw [← ra.length, asgTs_len w], ts, env, st, B, F, R, ra, er, sm, w, k⟩
      · cases h
    exact ⟨h1, lists (n + 1) h1⟩
end Mo

set_option Elab.async false
set_option linter.all false
set_option maxRecDepth 100000
set_option autoImplicit false
namespace Mo
open PySem PyProof.Rows
open L2 (Inv EP TP AP SP RelV Vals OpR UnR CallR VK R2 PE PT PW PA PO PS PSs Gl Vis Loc It Turn TI PI PG PGs TG TGs PTs Ends)

abbrev LI (V : Lv) (cs : List X) : L2.TT := liftT V.D (cEs V.cc cs) fun env st R => wpIf V.C cs env st R
section
variable {V : Lv} {Y : L2.Cx}
theorem PTs.imp {X : L2.Cx} {e : List Expr} {t t' : L2.TT} (h : PTs X e t) (k : ∀ σ H Q, t' σ H Q → t σ H Q) : PTs X e t' := ⟨fun pins s σ H Q I q => h.run pins s σ H Q I (k _ _ _ q)⟩
theorem i_nil : PTs Y [] (LI V []) := PTs.imp L2.pts_nil fun σ H Q h => by
  obtain ⟨env, st, B, F, R, er, sm, hb, w, en⟩ := h
  simp only [wpIf] at w
  exact en.here w (sm.more (by omega))
theorem i_one {c : Expr} {x : X} (h : PT Y c (LT V x)) : PTs Y [c] (LI V [x]) := PTs.imp (L2.pts_one h) fun σ H Q h => by
  obtain ⟨env, st, B, F, R, er, sm, hb, w, en⟩ := h
  simp only [wpIf] at w
  simp only [cEs] at hb en
  refine lT er sm (by omega) w fun t st1 H1 F1 r1 f1 sm1 e1 => ?_
  cases t
  · exact (en.mono f1 rfl).here r1 (sm1.more (by omega))
  · exact (en.mono f1 rfl).here r1 (sm1.more (by omega))

theorem nat_step {i c n B X : Nat} (hi : i < n) (hn : n ≤ LN) (h : B + LN * c ≤ X) : B + i * c + c ≤ X := by
  have h1 : (i + 1) * c ≤ LN * c := Nat.mul_le_mul_right c (by omega)
  rw [Nat.succ_mul] at h1
  omega
theorem drop_cons {α : Type} {ts : List α} {i : Nat} (h : i < ts.length) : ∃ t, ts[i]? = some t ∧ ts.drop i = t :: ts.drop (i + 1) :=
  ⟨ts[i], List.getElem?_eq_getElem h, List.drop_eq_getElem_cons h⟩

/-- the comprehension's reading -/
theorem lc_of {elt : X} {cs : List X} {t : Tg} {own : List Nat} {src : Sr} (hS : ∀ i ∈ slots t, i ∈ own) {σ : L2.St} {H : L2.Hp} {Q : VK}
    (h : liftN V.D (cL V.cc (.comp elt cs t own src)) (fun env st R => wpL V.C (.comp elt cs t own src) env st noE fun ts _ s => R ts s) σ H Q) :
    L2.tLc (LR V src) (liftG V.D t) (LI V cs) (LE V elt) own σ H Q := by
  obtain ⟨env, st, B, F, R, er, sm, hb, w, en⟩ := h
  simp only [wpL] at w
  simp only [cL] at hb en
  refine ⟨env, st, B, F, _, er, sm, by omega, w, fun ts chk st1 r1 l1 J H1 F1 f1 sm1 ok Dd hD => ?_⟩
  have nF1 : F1 Dd = none := sm1.noF hD
  have nF : F Dd = none := by
    cases z : F Dd with
    | none => rfl
    | some o => rw [f1 Dd o z] at nF1; cases nF1
  generalize hc : cEs V.cc cs + cE V.cc elt = c1 at hb en
  refine ⟨fun i m H => m = ts.length - i ∧ i ≤ ts.length ∧ ∃ acc xs F2 s, L2.Same F1 F2 ∧ F2 Dd = some (.lst xs) ∧ Sim V.D (B + cR V.cc src + i * c1) H F2 s ∧ RepVs V.D F2 acc xs ∧ acc.length ≤ SZ ∧ itl chk _ (ts.drop i) acc s (fun acc s2 => R acc s2),
    ⟨_, rfl, Nat.zero_le _, [], [], L2.upd F1 Dd (.lst []), st1, same_upd nF1, L2.upd_same, by rw [Nat.zero_mul]; exact (sm1.know _ hD), rfl, Nat.zero_le _, r1⟩, ?_⟩
  rintro i m H ⟨rfl, hi, acc, xs, F2, s, f2, hF, sm2, ra, la, w2⟩
  by_cases hlt : i < ts.length
  · obtain ⟨tv, ht, hd⟩ := drop_cons hlt
    rw [hd] at w2
    simp only [itl] at w2
    obtain ⟨hk, w2⟩ := w2
    obtain ⟨g1, g2⟩ := ok.go i tv _ H F2 s f2 sm2 hk ht
    have hbb := nat_step (B := B + cR V.cc src) (c := c1) hlt l1 (by omega) (X := BIG)
    refine .inr ⟨g1, fun H' => ∃ m', m' < ts.length - i ∧ _, fun H' h => h, fun x H' hy => ?_⟩
    obtain ⟨F3, f3, _, sm3, rt⟩ := g2 x H' hy
    have er3 : EnvR V.D F3 env σ := er.mono (f1.trans (f2.trans f3))
    refine ⟨tv, Mo.wipe env own, s, _, F3, _, rt, er3.wipe, sm3, w2, fun env2 w3 σ2 er2 off => ⟨wipe_off off hS, ?_⟩⟩
    refine lT er2 sm3 (by omega) w3 fun b st4 H4 F4 r4 f4 sm4 e4 => ?_
    cases b with
    | false =>
      rw [if_neg Bool.false_ne_true] at r4 ⊢
      obtain ⟨s5, sub, w5⟩ := r4
      refine ⟨ts.length - (i + 1), by omega, rfl, by omega, acc, xs, F4, s5, f2.trans (f3.trans f4), f4 _ _ (f3 _ _ hF), (sm4.sub sub).more ?_, ra.mono (f3.trans f4), la, w5⟩
      rw [Nat.succ_mul]; omega
    | true =>
      rw [if_pos rfl] at r4 ⊢
      refine lE e4 sm4 (by omega) r4 fun u st5 v5 H5 F5 r5 f5 sm5 q5 e5 => ?_
      obtain ⟨hz, s6, sub, w6⟩ := r5
      have hF5 : F5 Dd = some (.lst xs) := f5 _ _ (f4 _ _ (f3 _ _ hF))
      refine ⟨xs, sm5.fr _ _ hF5, by rw [← ra.length, ← size_eq]; exact hz, ?_⟩
      refine ⟨ts.length - (i + 1), by omega, rfl, by omega, acc ++ [u], xs ++ [v5], L2.upd F5 Dd (.lst (xs ++ [v5])), s6, same_updN (f2.trans (f3.trans (f4.trans f5))) nF1, L2.upd_same, ((sm5.setF hF5).sub sub).more ?_, ?_, ?_, w6⟩
      · rw [Nat.succ_mul]; omega
      · exact (RepVs.append (us := [u]) (ws := [v5]) (ra.mono (f3.trans (f4.trans f5))) (show RepVs V.D F5 [u] [v5] from ⟨v5, [], rfl, q5, rfl⟩)).keep (keep_updL hF5)
      · rw [List.length_append, List.length_singleton]; omega
  · have e : i = ts.length := by omega
    subst e
    rw [List.drop_length] at w2
    simp only [itl] at w2
    refine .inl ⟨ok.stop _ H F2 s f2 sm2 w2.1, en acc s w2.2 Dd xs H F2 (f1.trans f2) nF (sm2.more ?_) hF ra la⟩
    have : ts.length * c1 ≤ LN * c1 := Nat.mul_le_mul_right c1 l1
    omega
end
/-! within the block -/
theorem GX.blk {V : Lv} {Y : L2.Cx} {N : List Str} {sc : Scope} (G : GX V Y N sc) {scope : Scope} (hk : scope.kind = .function) (s : Shared) (H : L2.Hp) (C : Addr) (cl : List (Str × Addr)) (fp : List Addr) :
    GX V (Y.blk s H scope (compEnvC scope cl C Y.env) fp) N (L2.relS scope sc) :=
  ⟨G.prog, G.w, G.K, G.mg, G.base, G.nn, G.nd, by show L2.relS scope Y.env.scope = _; rw [G.sce], hk, G.calm, G.gd, G.room, G.ok⟩
theorem isL_of {sc : Scope} {x : Str} (h : isL sc x = true) : sc.names.lookup x = some .local ∨ sc.names.lookup x = some .cell := by
  unfold isL at h
  split at h <;> first | exact .inl (by assumption) | exact .inr (by assumption) | cases h
theorem GT.blk {Y : L2.Cx} {scope : Scope} (s : Shared) (H : L2.Hp) (C : Addr) (cl : List (Str × Addr)) (fp : List Addr) : GT (Y.blk s H scope (compEnvC scope cl C Y.env) fp) scope := fun x hx => by
  rcases isL_of hx with h | h
  · have k : (L2.relS scope Y.env.scope).names.lookup x = some .local := L2.lookup_relS_keep (sc := Y.env.scope) (by decide) h
    exact ⟨.inl k, .inr k⟩
  · have k : (L2.relS scope Y.env.scope).names.lookup x = some .cell := L2.lookup_relS_keep (sc := Y.env.scope) (by decide) h
    exact ⟨.inr k, .inl (by show (scope.names.lookup x == some .cell) = true; rw [h]; rfl)⟩
section
variable {V : Lv} {Y : L2.Cx} {N : List Str} {sc : Scope} (G : GX V Y N sc)
include G
theorem s_comp {elt tg iter : Expr} {ifs : List Expr} {scope : Scope} {own : List (Str × Nat)} {pos : Pos} {x : X} {cs : List X} {t : Tg} {src : Sr} (ok : L2.BlkOk N sc scope own) (hS : ∀ i ∈ slots t, i ∈ own.map (·.2))
    (hi : PI Y tg iter (LR V src)) (hg : ∀ X', GX V X' N (L2.relS scope sc) → GT X' scope → PG X' tg (liftG V.D t)) (ht : ∀ X', GX V X' N (L2.relS scope sc) → PTs X' ifs (LI V cs)) (he : ∀ X', GX V X' N (L2.relS scope sc) → PE X' elt (LE V x))
    (hs : ∀ y, foldedSetIterable iter Y.env y = pure y) : PE Y (.ListComp elt [⟨tg, iter, ifs, 0⟩] scope pos) (LF V (.comp x cs t (own.map (·.2)) src)) := by
  have ok' : L2.BlkOk Y.N Y.env.scope scope own := by rw [G.nn, G.sce]; exact ok
  have nd : Y.N.Nodup := by rw [G.nn]; exact G.nd
  exact PE.imp (L2.pe_lc G.calm nd hi ok' (fun s H C cl fp => hg _ (G.blk ok.kind s H C cl fp) (GT.blk s H C cl fp)) (fun s H C cl fp => ht _ (G.blk ok.kind s H C cl fp)) (fun s H C cl fp => he _ (G.blk ok.kind s H C cl fp)) hs) fun σ H Q h => lc_of hS h
end

/-! ### statements -/
def EndS (D : Wd) (B : Nat) (F : L2.Hp) (P : Po) (E : Ends) : Prop :=
  P.ex = noE ∧ (∀ env' st', P.nx env' st' → ∀ σ' H' F', L2.Same F F' → Sim D B H' F' st' → EnvR D F' env' σ' → E.nx σ' H') ∧
    ∀ t st', P.rt t st' → ∀ v H' F', L2.Same F F' → Sim D B H' F' st' → RepV D F' t v → E.rt v H'
def liftS (D : Wd) (c : Nat) (w : Env → St → Po → Prop) : L2.TS := fun E σ H =>
  ∃ env st B F P, EnvR D F env σ ∧ Sim D B H F st ∧ B + c ≤ BIG ∧ w env st P ∧ EndS D (B + c) F P E
abbrev LS (V : Lv) (x : Sm) : L2.TS := liftS V.D (cS V.cc x) fun env st P => wpS V.C x env st P
abbrev LSs (V : Lv) (xs : List Sm) : L2.TS := liftS V.D (cSs V.cc xs) fun env st P => wpSs V.C xs env st P
theorem PS.imp {X : L2.Cx} {e : Stmt} {t t' : L2.TS} (h : PS X e t) (k : ∀ E σ H, t' E σ H → t E σ H) : PS X e t' := ⟨fun pins s σ H E I q => h.run pins s σ H E I (k _ _ _ q)⟩
theorem PSs.imp {X : L2.Cx} {e : List Stmt} {t t' : L2.TS} (h : PSs X e t) (k : ∀ E σ H, t' E σ H → t E σ H) : PSs X e t' := ⟨fun pins s σ H E I q => h.run pins s σ H E I (k _ _ _ q)⟩
theorem EndS.mono {D : Wd} {B B' : Nat} {F F' : L2.Hp} {P : Po} {E : Ends} (e : EndS D B F P E) (h : L2.Same F F') (hb : B' ≤ B) : EndS D B' F' P E :=
  ⟨e.1, fun env' st' w σ' H' F2 f s r => e.2.1 env' st' w σ' H' F2 (h.trans f) (s.more hb) r, fun t st' w v H' F2 f s r => e.2.2 t st' w v H' F2 (h.trans f) (s.more hb) r⟩
theorem EndS.nx {D : Wd} {B : Nat} {F H : L2.Hp} {P : Po} {E : Ends} {env : Env} {st : St} {σ : L2.St} (e : EndS D B F P E) (w : P.nx env st) (s : Sim D B H F st) (r : EnvR D F env σ) : E.nx σ H := e.2.1 env st w σ H F (same_refl F) s r
theorem EndS.rt {D : Wd} {B : Nat} {F H : L2.Hp} {P : Po} {E : Ends} {t : T} {v : L2.V} {st : St} (e : EndS D B F P E) (w : P.rt t st) (s : Sim D B H F st) (r : RepV D F t v) : E.rt v H := e.2.2 t st w v H F (same_refl F) s r
section
variable {V : Lv} {Y : L2.Cx} {N : List Str} {sc : Scope} (G : GX V Y N sc) {a b c e : Expr} {x y z : X} {pos : Pos} {es : List Expr} {xs : List X} {s : Stmt} {ss : List Stmt} {m : Sm} {ms : List Sm}
theorem ss_nil : PSs Y [] (LSs V []) := PSs.imp L2.pss_nil fun E σ H h => by
  obtain ⟨env, st, B, F, P, er, sm, hb, w, en⟩ := h
  simp only [wpSs] at w
  exact en.nx w (sm.more (by omega)) er
theorem ss_cons (h : PS Y s (LS V m)) (hs : PSs Y ss (LSs V ms)) : PSs Y (s :: ss) (LSs V (m :: ms)) := PSs.imp (L2.pss_cons h hs) fun E σ H h => by
  obtain ⟨env, st, B, F, P, er, sm, hb, w, en⟩ := h
  simp only [wpSs] at w
  simp only [cSs] at hb en
  refine ⟨env, st, B, F, _, er, sm, by omega, w, en.1, fun env' st' w' σ' H' F' f s r => ?_, fun t st' w' v H' F' f s r => (en.mono f (B' := B + cS V.cc m) (by omega)).rt w' s r⟩
  exact ⟨env', st', _, F', P, r, s, by omega, w', en.mono f (by omega)⟩
theorem st_ret0 : PS Y (.Return none pos) (LS V (.ret none)) := PS.imp L2.ps_retN fun E σ H h => by
  obtain ⟨env, st, B, F, P, er, sm, hb, w, en⟩ := h
  simp only [wpS] at w
  exact en.rt w (sm.more (by omega)) rfl
theorem st_ret (h : PE Y e (LE V x)) : PS Y (.Return (some e) pos) (LS V (.ret (some x))) := PS.imp (L2.ps_ret h) fun E σ H h => by
  obtain ⟨env, st, B, F, P, er, sm, hb, w, en⟩ := h
  simp only [wpS, en.1] at w
  simp only [cS] at hb en
  exact lE er sm hb w fun t st1 v H1 F1 r1 f1 sm1 q1 e1 => (en.mono f1 (Nat.le_refl _)).rt r1 sm1 q1
theorem st_ex (h : PE Y e (LE V x)) (hp : PS Y (.Expr e pos) (L2.tDrop (LE V x))) : PS Y (.Expr e pos) (LS V (.ex x)) := PS.imp hp fun E σ H h => by
  obtain ⟨env, st, B, F, P, er, sm, hb, w, en⟩ := h
  simp only [wpS, en.1] at w
  simp only [cS] at hb en
  exact lE er sm hb w fun t st1 v H1 F1 r1 f1 sm1 q1 e1 => (en.mono f1 (Nat.le_refl _)).nx r1 sm1 e1
theorem st_pass (hp : PS Y (.Pass pos) L2.tNext) : PS Y (.Pass pos) (LS V .pass) := PS.imp hp fun E σ H h => by
  obtain ⟨env, st, B, F, P, er, sm, hb, w, en⟩ := h
  simp only [wpS] at w
  exact en.nx w (sm.more (by omega)) er
theorem st_if {aa bb : List Stmt} {ma mb : List Sm} (hc : PT Y c (LT V z)) (ha : PSs Y aa (LSs V ma)) (hb : PSs Y bb (LSs V mb)) : PS Y (.If c aa bb pos) (LS V (.cond z ma mb)) := PS.imp (L2.ps_if hc ha hb) fun E σ H h => by
  obtain ⟨env, st, B, F, P, er, sm, hb, w, en⟩ := h
  simp only [wpS, en.1] at w
  simp only [cS] at hb en
  refine lT er sm (by omega) w fun t st1 H1 F1 r1 f1 sm1 e1 => ?_
  by_cases z : t = true
  · rw [if_pos z] at r1 ⊢
    exact ⟨env, st1, _, F1, P, e1, sm1, by omega, r1, en.mono f1 (by omega)⟩
  · rw [if_neg z] at r1 ⊢
    exact ⟨env, st1, _, F1, P, e1, sm1, by omega, r1, en.mono f1 (by omega)⟩
/-- target = value -/
theorem st_set {tgt : Expr} {t : Tg} (hp : PS Y s (L2.tAsg (LE V x) (liftG V.D t))) : PS Y s (LS V (.set t x)) := PS.imp hp fun E σ H h => by
  obtain ⟨env, st, B, F, P, er, sm, hb, w, en⟩ := h
  simp only [wpS, en.1] at w
  simp only [cS] at hb en
  exact lE er sm hb w fun tv st1 v H1 F1 r1 f1 sm1 q1 e1 => ⟨tv, env, st1, _, F1, _, q1, e1, sm1, r1, fun env' w' σ' er' _ => (en.mono f1 (Nat.le_refl _)).nx w' sm1 er'⟩
theorem st_name {i : Nat} {te : L2.TE} (hp : PS Y s (L2.tAsg te (L2.gName i))) (hte : ∀ σ H Q, LE V x σ H Q → te σ H Q) : PS Y s (LS V (.set (.name i) x)) := PS.imp hp fun E σ H h => by
  obtain ⟨env, st, B, F, P, er, sm, hb, w, en⟩ := h
  simp only [wpS, en.1] at w
  simp only [cS] at hb en
  refine hte σ H _ (lE er sm hb w fun tv st1 v H1 F1 r1 f1 sm1 q1 e1 => ?_)
  simp only [asgT] at r1
  exact (en.mono f1 (Nat.le_refl _)).nx r1 sm1 (e1.set q1)
theorem st_par {i j : Nat} (hp : PS Y s (L2.tPar i j (LA V xs))) : PS Y s (LS V (.par [i, j] xs)) := PS.imp hp fun E σ H h => by
  obtain ⟨env, st, B, F, P, er, sm, hb, w, en⟩ := h
  simp only [wpS, en.1] at w
  simp only [cS] at hb en
  refine lA er sm hb w fun ts st1 vs H1 F1 r1 l1 f1 sm1 q1 e1 => ?_
  obtain ⟨hl, r1⟩ := r1
  obtain ⟨t, u, rfl⟩ := len2 (l := ts) (by simpa using hl)
  obtain ⟨v, w, rfl, q, q'⟩ := rep2 q1
  exact ⟨v, w, rfl, (en.mono f1 (Nat.le_refl _)).nx r1 sm1 ((e1.set q).set q')⟩
def rAug (D : Wd) (o : Op) : L2.TIp := fun x y H Q => ∃ t u B F st R, RepV D F t x ∧ RepV D F u y ∧ Sim D B H F st ∧ augSem o t u R ∧ ∀ v, R v → ∀ z, RepV D F v z → Q z H
theorem st_aug {i : Nat} {o : Op} (hp : PS Y s (L2.tAug i (LE V x) (rAug V.D o))) : PS Y s (LS V (.aug i o x)) := PS.imp hp fun E σ H h => by
  obtain ⟨env, st, B, F, P, er, sm, hb, w, en⟩ := h
  simp only [wpS, en.1] at w
  simp only [cS] at hb en
  split at w
  · rename_i t e
    obtain ⟨v, hv, rv⟩ := er.get e
    refine ⟨v, hv, lE er sm hb w fun u st1 v1 H1 F1 r1 f1 sm1 q1 e1 => ?_⟩
    exact ⟨t, u, _, F1, st1, _, rv.mono f1, q1, sm1, r1, fun v2 r2 z q2 => (en.mono f1 (Nat.le_refl _)).nx r2 sm1 (e1.set q2)⟩
  · exact w.elim
theorem st_for {wi : Sr} {t : Tg} (hp : PS Y s (L2.tFor (LR V wi) (liftG V.D t) (LSs V ms))) : PS Y s (LS V (.loop t wi ms)) := PS.imp hp fun E σ H h => by
  obtain ⟨env, st, B, F, P, er, sm, hb, w, en⟩ := h
  simp only [wpS, en.1] at w
  simp only [cS] at hb en
  refine ⟨env, st, B, F, _, er, sm, by omega, w, fun ts chk st1 r1 l1 J H1 F1 f1 sm1 ok => ?_⟩
  generalize hc : cSs V.cc ms = c1 at hb en
  refine ⟨fun i m σ H => m = ts.length - i ∧ i ≤ ts.length ∧ ∃ env2 F2 s, L2.Same F1 F2 ∧ EnvR V.D F2 env2 σ ∧ Sim V.D (B + cR V.cc wi + i * c1) H F2 s ∧ itf chk _ (ts.drop i) env2 s P.nx,
    ⟨_, rfl, Nat.zero_le _, env, F1, st1, same_refl F1, er.mono f1, by rw [Nat.zero_mul]; exact sm1, r1⟩, ?_⟩
  rintro i m σ H ⟨rfl, hi, env2, F2, s, f2, er2, sm2, w2⟩
  by_cases hlt : i < ts.length
  · obtain ⟨tv, ht, hd⟩ := drop_cons hlt
    rw [hd] at w2
    simp only [itf] at w2
    obtain ⟨hk, w2⟩ := w2
    obtain ⟨g1, g2⟩ := ok.go i tv _ H F2 s f2 sm2 hk ht
    have hbb := nat_step (B := B + cR V.cc wi) (c := c1) hlt l1 (by omega) (X := BIG)
    refine .inr ⟨g1, fun σ' H' => ∃ m', m' < ts.length - i ∧ _, fun σ' H' h => h, fun x H' hy => ?_⟩
    obtain ⟨F3, f3, _, sm3, rt⟩ := g2 x H' hy
    refine ⟨tv, env2, s, _, F3, _, rt, er2.mono f3, sm3, w2, fun env3 w3 σ3 er3 _ => ?_⟩
    refine ⟨env3, s, _, F3, _, er3, sm3, by omega, w3, rfl, fun env4 st4 w4 σ4 H4 F4 f4 s4 r4 => ?_, fun t st4 w4 v H4 F4 f4 s4 r4 => ?_⟩
    · obtain ⟨env5, s5, ew, sub, w5⟩ := w4
      refine ⟨ts.length - (i + 1), by omega, rfl, by omega, env5, F4, s5, f2.trans (f3.trans f4), r4.wk ew, (s4.sub sub).more ?_, w5⟩
      rw [Nat.succ_mul]; omega
    · refine (en.mono (f1.trans (f2.trans (f3.trans f4))) (B' := B + cR V.cc wi + i * c1 + c1) ?_).rt w4 (s4.more (by omega)) r4
      have h1 : (i + 1) * c1 ≤ LN * c1 := Nat.mul_le_mul_right c1 (by omega)
      rw [Nat.succ_mul] at h1
      omega
  · have e : i = ts.length := by omega
    subst e
    rw [List.drop_length] at w2
    simp only [itf] at w2
    refine .inl ⟨ok.stop _ H F2 s f2 sm2 w2.1, (en.mono (f1.trans f2) (Nat.le_refl _)).nx w2.2 (sm2.more ?_) er2⟩
    have : ts.length * c1 ≤ LN * c1 := Nat.mul_le_mul_right c1 l1
    omega
theorem st_whl (hp : PS Y s (L2.tWhile (LT V z) (LSs V ms))) : PS Y s (LS V (.whl z ms)) := PS.imp hp fun E σ H h => by
  obtain ⟨env, st, B, F, P, er, sm, hb, w, en⟩ := h
  simp only [wpS, en.1] at w
  simp only [cS] at hb en
  obtain ⟨n, hn, w⟩ := w
  generalize hc : cE V.cc z + cSs V.cc ms = c1 at hb en
  refine ⟨fun m σ H => m ≤ n ∧ ∃ env2 F2 s, L2.Same F F2 ∧ EnvR V.D F2 env2 σ ∧ Sim V.D (B + (n - m) * c1) H F2 s ∧ itw _ _ m env2 s P.nx,
    ⟨n, Nat.le_refl _, env, F, st, same_refl F, er, by rw [Nat.sub_self, Nat.zero_mul]; exact sm, w⟩, ?_⟩
  rintro m σ H ⟨hm, env2, F2, s, f2, er2, sm2, w2⟩
  cases m with
  | zero => exact w2.elim
  | succ m =>
    simp only [itw] at w2
    have hbb := nat_step (B := B) (c := c1) (i := n - (m + 1)) (n := n) (by omega) hn hb
    have hmul : (n - m) * c1 = (n - (m + 1)) * c1 + c1 := by
      have : n - m = (n - (m + 1)) + 1 := by omega
      rw [this, Nat.succ_mul]
    refine lT er2 sm2 (by omega) w2 fun t st3 H3 F3 r3 f3 sm3 e3 => ?_
    by_cases zt : t = true
    · rw [if_pos zt] at r3 ⊢
      refine ⟨fun σ' H' => ∃ m', m' < m + 1 ∧ _, fun σ' H' h => h, ?_⟩
      refine ⟨env2, st3, _, F3, _, e3, sm3, by omega, r3, rfl, fun env4 st4 w4 σ4 H4 F4 f4 s4 r4 => ?_, fun t st4 w4 v H4 F4 f4 s4 r4 => ?_⟩
      · obtain ⟨env5, s5, ew, sub, w5⟩ := w4
        exact ⟨m, by omega, by omega, env5, F4, s5, f2.trans (f3.trans f4), r4.wk ew, (s4.sub sub).more (by omega), w5⟩
      · refine (en.mono (f2.trans (f3.trans f4)) (B' := B + (n - (m + 1)) * c1 + c1) ?_).rt w4 (s4.more (by omega)) r4
        have h1 : (n - m) * c1 ≤ LN * c1 := Nat.mul_le_mul_right c1 (by unfold LN; omega)
        omega
    · rw [if_neg zt] at r3 ⊢
      refine (en.mono (f2.trans f3) (Nat.le_refl _)).nx r3 (sm3.more ?_) e3
      have h1 : (n - m) * c1 ≤ LN * c1 := Nat.mul_le_mul_right c1 (by unfold LN; omega)
      omega
end
end Mo

set_option Elab.async false
set_option linter.all false
set_option maxRecDepth 100000
set_option autoImplicit false
namespace Mo
open PySem PyProof.Rows
open L2 (Inv EP TP AP SP RelV Vals OpR UnR CallR VK R2 PE PT PW PA PO PS PSs Gl Vis Loc It Turn TI PI PG PGs TG TGs PTs Ends)

structure Snd (V : Lv) (N : List Str) (n : Nat) : Prop where
  e : ∀ (Y : L2.Cx) (sc : Scope), GX V Y N sc → ∀ e x, stripE V.g N n sc e = some x → PE Y e (LE V x)
  t : ∀ (Y : L2.Cx) (sc : Scope), GX V Y N sc → ∀ e x, stripE V.g N n sc e = some x → PT Y e (LT V x)
  b : ∀ (Y : L2.Cx) (sc : Scope), GX V Y N sc → ∀ op es x pos, stripB V.g N n sc op es = some x → PE Y (.BoolOp op es pos) (LE V x) ∧ PW Y (.BoolOp op es pos) (LT V x)
  o : ∀ (Y : L2.Cx) (sc : Scope), GX V Y N sc → ∀ e x, stripO V.g N n sc e = some x → PO Y e (LO V x)
  l : ∀ (Y : L2.Cx) (sc : Scope), GX V Y N sc → ∀ e x, stripL V.g N n sc e = some x → PE Y e (LL V x)
  f : ∀ (Y : L2.Cx) (sc : Scope), GX V Y N sc → ∀ e x, stripL V.g N n sc e = some x → isComp e = true → PE Y e (LF V x) ∧ newL x = true
  c : ∀ (Y : L2.Cx) (sc : Scope), GX V Y N sc → ∀ elt gens scope pos x, stripC V.g N n sc elt gens scope = some x → PE Y (.ListComp elt gens scope pos) (LF V x) ∧ newL x = true
  r : ∀ (Y : L2.Cx) (sc : Scope), GX V Y N sc → ∀ tg e x, stripR V.g N n sc tg e = some x → PI Y tg e (LR V x) ∧ ∀ y, foldedSetIterable e Y.env y = pure y

theorem star_ns {e : Expr} {es : List Expr} {env : PySem.Env} (h : ∀ v p, e ≠ .Starred v p) : starEach (e :: es) env = (false, eval e env) :: starEach es env := by
  cases e <;> first | rfl | exact absurd rfl (h _ _)
theorem starE {g : SE} {N : List Str} {n : Nat} {sc : Scope} {e : Expr} {x : X} (h : stripE g N n sc e = some x) : ∀ v p, e ≠ .Starred v p := by
  intro v p z
  subst z
  cases n <;> simp [stripE] at h
theorem starL {g : SE} {N : List Str} {n : Nat} {sc : Scope} {e : Expr} {x : L} (h : stripL g N n sc e = some x) : ∀ v p, e ≠ .Starred v p := by
  intro v p z
  subst z
  cases n with
  | zero => simp [stripL] at h
  | succ n => cases n <;> simp [stripL, stripE] at h
theorem plain_of {env : PySem.Env} {pos : Pos} : ∀ {es : List Expr}, (∀ e ∈ es, ∀ v p, e ≠ .Starred v p) → (backTo pos (starEach es env)).any (·.1) = false
  | [], _ => rfl
  | e :: es, h => by
    rw [star_ns (h e (by simp))]
    show (false || (backTo pos (starEach es env)).any (·.1)) = false
    rw [plain_of fun e he => h e (by simp [he])]
    rfl
theorem mapO_mem {α β : Type} {f : α → Option β} : ∀ {xs : List α} {ys : List β}, mapO f xs = some ys → ∀ x ∈ xs, ∃ y, f x = some y
  | [], _, _, _, h => by cases h
  | x :: xs, ys, h, z, hz => by
    obtain ⟨y, ys', rfl, h1, h2⟩ := mapO_cons h
    rcases List.mem_cons.mp hz with rfl | hz
    · exact ⟨y, h1⟩
    · exact mapO_mem h2 z hz
theorem mapO_len {α β : Type} {f : α → Option β} : ∀ {xs : List α} {ys : List β}, mapO f xs = some ys → ys.length = xs.length
  | [], _, h => by rw [mapO_nil h]; rfl
  | x :: xs, ys, h => by
    obtain ⟨y, ys', rfl, h1, h2⟩ := mapO_cons h
    simp [mapO_len h2]

section
variable {V : Lv} {N : List Str} {n : Nat} (S : Snd V N n) {Y : L2.Cx} {sc : Scope} (G : GX V Y N sc)
include S G
theorem args_of : ∀ {es : List Expr} {xs : List X}, mapO (stripE V.g N n sc) es = some xs → PA Y es (LA V xs)
  | [], _, h => by rw [mapO_nil h]; exact s_nil
  | e :: es, xs, h => by
    obtain ⟨y, ys, rfl, h1, h2⟩ := mapO_cons h
    exact s_args (S.e Y sc G e y h1) (args_of h2) (star_ns (starE h1))
theorem argsL_of : ∀ {es : List Expr} {xs : List L}, mapO (stripL V.g N n sc) es = some xs → PA Y es (LLs V xs)
  | [], _, h => by rw [mapO_nil h]; exact sl_nil
  | e :: es, xs, h => by
    obtain ⟨y, ys, rfl, h1, h2⟩ := mapO_cons h
    exact sl_cons (S.l Y sc G e y h1) (argsL_of h2) (star_ns (starL h1))
omit S in
theorem name_ok {x : Str} {p : Pos} {r : X} (h : nameE V.g N sc x = some r) : PE Y (.Name x p) (LE V r) := by
  unfold nameE at h
  split at h
  · rename_i ho
    split at h
    · rename_i hv
      cases hs : slot N x with
      | none => rw [hs] at h; cases h
      | some i => rw [hs] at h; cases h; exact s_var G ho hv hs
    · split at h
      · rename_i hg
        split at h
        · rename_i i hi
          cases h
          exact s_cons G ho hg hi
        · cases hs : V.g.fns.idxOf? x with
          | none => rw [hs] at h; cases h
          | some i => rw [hs] at h; cases h; exact s_fnv G ho hg hs
      · cases h
  · cases h
omit S in
theorem blt_of {x : Str} (h : bltN V.g sc x = true) : okN x = true ∧ isG sc x = true ∧ V.g.blt.contains x = true := by
  unfold bltN at h
  simp only [Bool.and_eq_true] at h
  exact ⟨h.1.1, h.1.2, h.2⟩
theorem bi_ok {f : Bi} {x : Str} {u : Value} {es : List Expr} {xs : List X} {p pos : Pos} (hb : bltN V.g sc x = true) (hu : bootBuiltins x = some u) (ht : (∃ id, u = .builtin id) ∨ ∃ T, u = .type T) (hn : x ≠ "__name__") (hc : CallR Y u (rV V.D (biSem rpT f)))
    (hne : es ≠ []) (h : mapO (stripE V.g N n sc) es = some xs) : PE Y (.Call (.Name x p) es [] pos) (LE V (.bi f xs)) := by
  obtain ⟨h1, h2, h3⟩ := blt_of G hb
  cases es with
  | nil => exact absurd rfl hne
  | cons e r =>
    have ha := args_of S G h
    have hs := star_ns (es := r) (env := Y.env) (starE (mapO_cons h).choose_spec.choose_spec.2.1)
    have hp : (backTo pos (starEach r Y.env)).any (·.1) = false := plain_of fun e he => by
      obtain ⟨y, hy⟩ := mapO_mem h e (by simp [he])
      exact starE hy
    refine s_bi G ?_
    rcases ht with ⟨id, rfl⟩ | ⟨T, rfl⟩
    · exact L2.pe_callB hc (gl_of G h2) (mg_of G h3) hu ha hn (okN1 h1).1 hs hp
    · exact L2.pe_callTy hc (gl_of G h2) (mg_of G h3) hu ha hn (okN1 h1).1 hs hp
theorem li_ok {f : Li} {x : Str} {u : Value} {e : Expr} {l : L} {p pos : Pos} {r : List L2.V → L2.Hp → VK → Prop} {t : L2.TE} (hb : bltN V.g sc x = true) (hu : bootBuiltins x = some u) (ht : (∃ id, u = .builtin id) ∨ ∃ T, u = .type T) (hn : x ≠ "__name__") (hc : CallR Y u r)
    (hs : ∀ v p, e ≠ .Starred v p) (h : PE Y e t) : PE Y (.Call (.Name x p) [e] [] pos) (L2.tCB r (one t)) := by
  obtain ⟨h1, h2, h3⟩ := blt_of G hb
  have ha := pa_one h (star_ns hs)
  rcases ht with ⟨id, rfl⟩ | ⟨T, rfl⟩
  · exact L2.pe_callB hc (gl_of G h2) (mg_of G h3) hu ha hn (okN1 h1).1 (star_ns hs) rfl
  · exact L2.pe_callTy hc (gl_of G h2) (mg_of G h3) hu ha hn (okN1 h1).1 (star_ns hs) rfl
end
theorem boots : bootBuiltins ("len" : Str) = some (.builtin "len") ∧ bootBuiltins ("tuple" : Str) = some (.type "tuple") ∧ bootBuiltins ("int" : Str) = some (.type "int") ∧ bootBuiltins ("max" : Str) = some (.builtin "max") ∧ bootBuiltins ("min" : Str) = some (.builtin "min") ∧
    bootBuiltins ("sum" : Str) = some (.builtin "sum") ∧ bootBuiltins ("all" : Str) = some (.builtin "all") ∧ bootBuiltins ("any" : Str) = some (.builtin "any") ∧ bootBuiltins ("abs" : Str) = some (.builtin "abs") ∧ bootBuiltins ("repr" : Str) = some (.builtin "repr") ∧
    bootBuiltins ("sorted" : Str) = some (.builtin "sorted") ∧ bootBuiltins ("list" : Str) = some (.type "list") ∧ bootBuiltins ("divmod" : Str) = some (.builtin "divmod") ∧ bootBuiltins ("range" : Str) = some (.type "range") ∧ bootBuiltins ("enumerate" : Str) = some (.type "enumerate") ∧ bootBuiltins ("zip" : Str) = some (.type "zip") := by
  refine ⟨?_, ?_, ?_, ?_, ?_, ?_, ?_, ?_, ?_, ?_, ?_, ?_, ?_, ?_, ?_, ?_⟩ <;> decide +kernel
theorem bk_all (x : Str) : (x = "len" ∧ bkO x = .mm .len .len) ∨ (x = "tuple" ∧ bkO x = .li .tuple) ∨ (x = "int" ∧ bkO x = .bi .int) ∨ (x = "isinstance" ∧ bkO x = .isi) ∨ (x = "max" ∧ bkO x = .mm .max2 .max) ∨ (x = "min" ∧ bkO x = .mm .min2 .min) ∨
    (x = "sum" ∧ bkO x = .li .sum) ∨ (x = "all" ∧ bkO x = .li .all) ∨ (x = "any" ∧ bkO x = .li .any) ∨ (x = "abs" ∧ bkO x = .bi .abs) ∨ (x = "repr" ∧ bkO x = .bi .repr) ∨ (x = "list" ∧ bkO x = .li .list) ∨ (x = "sorted" ∧ bkO x = .srt) ∨ (x = "divmod" ∧ bkO x = .bi .divmod) ∨ bkO x = .no := by
  by_cases h0 : x = ("len" : Str)
  · subst h0
    exact .inl ⟨rfl, by decide +kernel⟩
  by_cases h1 : x = ("tuple" : Str)
  · subst h1
    exact .inr (.inl ⟨rfl, by decide +kernel⟩)
  by_cases h2 : x = ("int" : Str)
  · subst h2
    exact .inr (.inr (.inl ⟨rfl, by decide +kernel⟩))
  by_cases h3 : x = ("isinstance" : Str)
  · subst h3
    exact .inr (.inr (.inr (.inl ⟨rfl, by decide +kernel⟩)))
  by_cases h4 : x = ("max" : Str)
  · subst h4
    exact .inr (.inr (.inr (.inr (.inl ⟨rfl, by decide +kernel⟩))))
  by_cases h5 : x = ("min" : Str)
  · subst h5
    exact .inr (.inr (.inr (.inr (.inr (.inl ⟨rfl, by decide +kernel⟩)))))
  by_cases h6 : x = ("sum" : Str)
  · subst h6
    exact .inr (.inr (.inr (.inr (.inr (.inr (.inl ⟨rfl, by decide +kernel⟩))))))
  by_cases h7 : x = ("all" : Str)
  · subst h7
    exact .inr (.inr (.inr (.inr (.inr (.inr (.inr (.inl ⟨rfl, by decide +kernel⟩)))))))
  by_cases h8 : x = ("any" : Str)
  · subst h8
    exact .inr (.inr (.inr (.inr (.inr (.inr (.inr (.inr (.inl ⟨rfl, by decide +kernel⟩))))))))
  by_cases h9 : x = ("abs" : Str)
  · subst h9
    exact .inr (.inr (.inr (.inr (.inr (.inr (.inr (.inr (.inr (.inl ⟨rfl, by decide +kernel⟩)))))))))
  by_cases h10 : x = ("repr" : Str)
  · subst h10
    exact .inr (.inr (.inr (.inr (.inr (.inr (.inr (.inr (.inr (.inr (.inl ⟨rfl, by decide +kernel⟩))))))))))
  by_cases h11 : x = ("list" : Str)
  · subst h11
    exact .inr (.inr (.inr (.inr (.inr (.inr (.inr (.inr (.inr (.inr (.inr (.inl ⟨rfl, by decide +kernel⟩)))))))))))
  by_cases h12 : x = ("sorted" : Str)
  · subst h12
    exact .inr (.inr (.inr (.inr (.inr (.inr (.inr (.inr (.inr (.inr (.inr (.inr (.inl ⟨rfl, by decide +kernel⟩))))))))))))
  by_cases h13 : x = ("divmod" : Str)
  · subst h13
    exact .inr (.inr (.inr (.inr (.inr (.inr (.inr (.inr (.inr (.inr (.inr (.inr (.inr (.inl ⟨rfl, by decide +kernel⟩)))))))))))))
  have e : ∀ s : Str, x ≠ s → (x == s) = false := fun s h => beq_eq_false_iff_ne.mpr h
  refine .inr (.inr (.inr (.inr (.inr (.inr (.inr (.inr (.inr (.inr (.inr (.inr (.inr (.inr ?_)))))))))))))
  unfold bkO
  rw [e _ h0, e _ h1, e _ h2, e _ h3, e _ h4, e _ h5, e _ h6, e _ h7, e _ h8, e _ h9, e _ h10, e _ h11, e _ h12, e _ h13]
  rfl
section
variable {V : Lv} {N : List Str} {n : Nat} (S : Snd V N n) {Y : L2.Cx} {sc : Scope} (G : GX V Y N sc)
include S G
theorem u64 : Y.A.units + 64 < cLine := G.room.units
theorem callB_ok {x : Str} {es : List Expr} {r : X} {p pos : Pos} (hb : bltN V.g sc x = true) (h : callB V.g sc (stripE V.g N n sc) (stripL V.g N n sc) x es = some r) : PE Y (.Call (.Name x p) es [] pos) (LE V r) := by
  obtain ⟨b1, b2, b3, b4, b5, b6, b7, b8, b9, b10, b13, b11, b12, _⟩ := boots
  have bi : ∀ {f : Bi} {u : Value}, bootBuiltins x = some u → ((∃ id, u = .builtin id) ∨ ∃ T, u = .type T) → x ≠ "__name__" → CallR Y u (rV V.D (biSem rpT f)) → ∀ {es : List Expr}, es ≠ [] → ∀ {r : X}, (mapO (stripE V.g N n sc) es).map (X.bi f) = some r → PE Y (.Call (.Name x p) es [] pos) (LE V r) := by
    intro f u h1 h2 h3 h4 es h5 r h
    cases hm : mapO (stripE V.g N n sc) es with
    | none => rw [hm] at h; cases h
    | some xs => rw [hm] at h; cases h; exact bi_ok S G hb h1 h2 h3 h4 h5 hm
  unfold callB at h
  rcases bk_all x with ⟨hx, hk⟩ | ⟨hx, hk⟩ | ⟨hx, hk⟩ | ⟨hx, hk⟩ | ⟨hx, hk⟩ | ⟨hx, hk⟩ | ⟨hx, hk⟩ | ⟨hx, hk⟩ | ⟨hx, hk⟩ | ⟨hx, hk⟩ | ⟨hx, hk⟩ | ⟨hx, hk⟩ | ⟨hx, hk⟩ | ⟨hx, hk⟩ | hk <;> rw [hk] at h
  -- len
  · subst hx
    match es, h with
    | [e], h =>
      simp only at h
      split at h
      · rename_i hc
        cases hl : stripL V.g N n sc e with
        | none => rw [hl] at h; cases h
        | some l =>
          rw [hl] at h; cases h
          exact s_len (li_ok S G (l := l) (f := .len) hb b1 (.inl ⟨_, rfl⟩) (by decide) L2.call_len (starL hl) (S.f Y sc G e l hl hc).1) rfl
      · cases hl : stripE V.g N n sc e with
        | none => rw [hl] at h; cases h
        | some y =>
          rw [hl] at h; cases h
          exact bi_ok S G hb b1 (.inl ⟨_, rfl⟩) (by decide) (cr_len G.K) (by simp) (by unfold mapO; rw [hl]; rfl)
    | [e, e2], h => exact bi (f := .len) b1 (.inl ⟨_, rfl⟩) (by decide) (cr_len G.K) (by simp) h
  -- tuple
  · subst hx
    match es, h with
    | [e], h =>
      simp only [Bool.or_true, if_true] at h
      cases hl : stripL V.g N n sc e with
      | none => rw [hl] at h; cases h
      | some l =>
        rw [hl] at h; cases h
        exact s_tuple G (li_ok S G (l := l) (f := .tuple) hb b2 (.inr ⟨_, rfl⟩) (by decide) L2.call_tuple_of (starL hl) (S.l Y sc G e l hl))
  -- int
  · subst hx
    match es, h with
    | [e], h => exact bi (f := .int) b3 (.inr ⟨_, rfl⟩) (by decide) cr_int (by simp) h
    | [e, e2], h => exact bi (f := .int) b3 (.inr ⟨_, rfl⟩) (by decide) cr_int (by simp) h
  -- isinstance
  · subst hx
    match es, h with
    | [e, .Name t q], h =>
      simp only at h
      split at h
      · rename_i ty y ht he
        split at h
        · rename_i hb2
          cases h
          obtain ⟨h1, h2, h3⟩ := blt_of G hb
          obtain ⟨g1, g2, g3⟩ := blt_of G hb2
          exact s_isi G rfl h2 h3 ht g2 g3 (S.e Y sc G e y he) (star_ns (starE he))
        · cases h
      · cases h
  -- max
  · subst hx
    match es, h with
    | [e], h =>
      simp only at h
      split at h
      · rename_i hc
        cases hl : stripL V.g N n sc e with
        | none => rw [hl] at h; cases h
        | some l =>
          rw [hl] at h; cases h
          exact s_max (li_ok S G (l := l) (f := .max) hb b4 (.inl ⟨_, rfl⟩) (by decide) (L2.cr_max G.calm) (starL hl) (S.f Y sc G e l hl hc).1)
      · cases h
    | [e, e2], h => exact bi (f := .max2) b4 (.inl ⟨_, rfl⟩) (by decide) (cr_max2 G.calm) (by simp) h
  -- min
  · subst hx
    match es, h with
    | [e], h =>
      simp only at h
      split at h
      · rename_i hc
        cases hl : stripL V.g N n sc e with
        | none => rw [hl] at h; cases h
        | some l =>
          rw [hl] at h; cases h
          exact s_min (li_ok S G (l := l) (f := .min) hb b5 (.inl ⟨_, rfl⟩) (by decide) (L2.cr_min G.calm) (starL hl) (S.f Y sc G e l hl hc).1)
      · cases h
    | [e, e2], h => exact bi (f := .min2) b5 (.inl ⟨_, rfl⟩) (by decide) (cr_min2 G.calm) (by simp) h
  -- sum
  · subst hx
    match es, h with
    | [e], h =>
      simp only [Bool.or_false] at h
      split at h
      · rename_i hc
        cases hl : stripL V.g N n sc e with
        | none => rw [hl] at h; cases h
        | some l =>
          rw [hl] at h; cases h
          exact s_sum (li_ok S G (l := l) (f := .sum) hb b6 (.inl ⟨_, rfl⟩) (by decide) (L2.cr_sum G.calm) (starL hl) (S.f Y sc G e l hl hc).1)
      · cases h
  -- all
  · subst hx
    match es, h with
    | [e], h =>
      simp only [Bool.or_false] at h
      split at h
      · rename_i hc
        cases hl : stripL V.g N n sc e with
        | none => rw [hl] at h; cases h
        | some l =>
          rw [hl] at h; cases h
          exact s_all (li_ok S G (l := l) (f := .all) hb b7 (.inl ⟨_, rfl⟩) (by decide) (L2.cr_all G.calm) (starL hl) (S.f Y sc G e l hl hc).1)
      · cases h
  -- any
  · subst hx
    match es, h with
    | [e], h =>
      simp only [Bool.or_false] at h
      split at h
      · rename_i hc
        cases hl : stripL V.g N n sc e with
        | none => rw [hl] at h; cases h
        | some l =>
          rw [hl] at h; cases h
          exact s_any (li_ok S G (l := l) (f := .any) hb b8 (.inl ⟨_, rfl⟩) (by decide) (L2.cr_any G.calm) (starL hl) (S.f Y sc G e l hl hc).1)
      · cases h
  -- abs
  · subst hx
    match es, h with
    | [e], h => exact bi (f := .abs) b9 (.inl ⟨_, rfl⟩) (by decide) cr_abs (by simp) h
    | [e, e2], h => exact bi (f := .abs) b9 (.inl ⟨_, rfl⟩) (by decide) cr_abs (by simp) h
  -- repr
  · subst hx
    match es, h with
    | [e], h => exact bi (f := .repr) b10 (.inl ⟨_, rfl⟩) (by decide) (cr_repr G.K G.gd (G.room.units)) (by simp) h
    | [e, e2], h => exact bi (f := .repr) b10 (.inl ⟨_, rfl⟩) (by decide) (cr_repr G.K G.gd (G.room.units)) (by simp) h
  -- list
  · subst hx
    match es, h with
    | [e], h =>
      simp only [Bool.or_true, if_true] at h
      cases hl : stripL V.g N n sc e with
      | none => rw [hl] at h; cases h
      | some l =>
        rw [hl] at h; cases h
        exact s_list G (li_ok S G (l := l) (f := .list) hb b11 (.inr ⟨_, rfl⟩) (by decide) L2.call_list_of (starL hl) (S.l Y sc G e l hl))
  -- sorted
  · subst hx
    match es, h with
    | [e], h =>
      simp only at h
      split at h
      · rename_i hc
        cases hl : stripL V.g N n sc e with
        | none => rw [hl] at h; cases h
        | some l =>
          rw [hl] at h; cases h
          exact s_new (s_srt (li_ok S G (l := l) (f := .len) hb b13 (.inl ⟨_, rfl⟩) (by decide) (cr_srt G.K (by have := G.room.un; omega)) (starL hl) (S.f Y sc G e l hl hc).1))
      · cases hl : stripE V.g N n sc e with
        | none => rw [hl] at h; cases h
        | some y =>
          rw [hl] at h; cases h
          exact s_new (s_srtE (li_ok S G (l := .ex y) (f := .len) hb b13 (.inl ⟨_, rfl⟩) (by decide) (cr_srt G.K (by have := G.room.un; omega)) (starE hl) (S.e Y sc G e y hl)))
  -- divmod
  · subst hx
    match es, h with
    | [e], h => exact bi (f := .divmod) b12 (.inl ⟨_, rfl⟩) (by decide) cr_divmod (by simp) h
    | [e, e2], h => exact bi (f := .divmod) b12 (.inl ⟨_, rfl⟩) (by decide) cr_divmod (by simp) h
  · cases h

theorem callN_ok {x : Str} {es : List Expr} {r : X} {p pos : Pos} (h : callN V.g N sc (stripE V.g N n sc) (stripL V.g N n sc) x es = some r) : PE Y (.Call (.Name x p) es [] pos) (LE V r) := by
  unfold callN at h
  split at h
  · rename_i ho
    split at h
    · rename_i hv
      split at h
      · cases h
      · rename_i hne
        split at h
        · rename_i i xs hs hm
          cases h
          cases es with
          | nil => exact absurd rfl hne
          | cons e es =>
            exact s_callv G ho hv hs (args_of S G hm) (star_ns (starE (mapO_cons hm).choose_spec.choose_spec.2.1)) (plain_of fun e he => by
              obtain ⟨y, hy⟩ := mapO_mem hm e (by simp [he])
              exact starE hy)
        · cases h
    · split at h
      · rename_i hg
        split at h
        · rename_i i hi
          cases hm : mapO (stripE V.g N n sc) es with
          | none => rw [hm] at h; cases h
          | some xs =>
            rw [hm] at h; cases h
            cases es with
            | nil => rw [mapO_nil hm]; exact s_call0 G ho hg hi
            | cons e es =>
              exact s_call G ho hg hi (args_of S G hm) (star_ns (starE (mapO_cons hm).choose_spec.choose_spec.2.1)) (plain_of fun e he => by
                obtain ⟨y, hy⟩ := mapO_mem hm e (by simp [he])
                exact starE hy)
        · split at h
          · rename_i hb
            exact callB_ok S G hb h
          · cases h
      · cases h
  · cases h
omit S G in
theorem base_of {o : Expr} {m : Str} {env : PySem.Env} {w : Sem Value} (h : isBI o = false) : attributeBase o m env w = w := by
  cases o <;> first
    | rfl
    | (rename_i f es kw pos
       cases f <;> first
         | rfl
         | (cases es <;> cases kw <;> first | rfl | (simp [isBI] at h)))
omit S G in
theorem few_of {env : PySem.Env} {pos : Pos} {es : List Expr} (h : ∀ e ∈ es, ∀ v p, e ≠ .Starred v p) (hl : es.length < 20) : ((backTo pos (starEach es env)).all (fun x => !x.1) && (backToKw pos (keywordEach [] env)).all (fun x => x.1.isSome)
      && decide (es.length + ([] : List Keyword).length + (if ([] : List Keyword).isEmpty then 0 else 1) < 30)) = true := by
  have h1 := plain_of (env := env) (pos := pos) h
  have h2 : (backTo pos (starEach es env)).all (fun x => !x.1) = true := by
    rw [List.any_eq_false] at h1
    rw [List.all_eq_true]
    intro x hx
    have := h1 x hx
    simpa using this
  rw [h2]
  show (true && true && decide _) = true
  simp only [Bool.and_self, Bool.true_and, decide_eq_true_eq, List.length_nil, List.isEmpty_nil, if_true]
  omega
omit S in
theorem s_append {o e : Expr} {x y : X} {m : Str} {ap pos : Pos} (hm : m = ("append" : Str)) (hb : isBI o = false) (hl : (ap.endLine == pos.line) = true) (ho : PE Y o (LE V x)) (ha : PA Y [e] (LA V [y])) (hs : ∀ v p, e ≠ .Starred v p) : PE Y (.Call (.Attribute o m ap) [e] [] pos) (LE V (.me .append x [y])) := by
  subst hm
  refine PE.imp (L2.pe_bm PySem.F.plainAttrs_list PySem.F.slot_list_append PySem.F.type_list_append L2.mt_append ho ha (base_of hb) (few_of (fun e' he' => by rw [List.mem_singleton.mp he']; exact hs) (by simp)) hl (star_ns hs) rfl) fun σ H Q h => ?_
  obtain ⟨env, st, B, F, R, er, sm, hb, w, en⟩ := h
  simp only [wpE] at w
  simp only [cE] at hb en
  refine lE er sm (by omega) w fun t st1 v H1 F1 r1 f1 sm1 q1 e1 => ?_
  obtain ⟨⟨a, ts, rfl, e⟩, r1⟩ := r1
  cases q1
  obtain ⟨ys, _, sq, _⟩ := sm1.sqL (K := Y.K) e
  refine ⟨.inl ⟨rfl, ys, sq⟩, lA e1 sm1 (by omega) r1 fun us st2 vs H2 F2 r2 l2 f2 sm2 q2 e2 => ?_⟩
  obtain ⟨u, rfl⟩ : ∃ u, us = [u] := by
    cases us with
    | nil => simp at l2
    | cons u us => cases us with
      | nil => exact ⟨u, rfl⟩
      | cons _ _ => simp at l2
  obtain ⟨v, rfl, rv⟩ := rep1 q2
  simp only [meSem] at r2
  obtain ⟨zs, e3, hz, r2⟩ := r2
  obtain ⟨ws, hH, rw'⟩ := sm2.lst e3
  refine ⟨a, ws, v, rfl, rfl, hH, by rw [← rw'.length, ← size_eq]; exact hz, ?_⟩
  exact (en.mono (f1.trans f2) (B' := B + cE V.cc x + cEs V.cc [y]) (by omega)).here r2 (sm2.setL e3 (RepVs.append (us := [u]) (ws := [v]) rw' (show RepVs V.D F2 [u] [v] from ⟨v, [], rfl, rv, rfl⟩))) rfl
omit S in
theorem s_pop0 {o : Expr} {x : X} {m : Str} {ap pos : Pos} (hm : m = ("pop" : Str)) (hb : isBI o = false) (hl : (ap.endLine == pos.line) = true) (ho : PE Y o (LE V x)) : PE Y (.Call (.Attribute o m ap) [] [] pos) (LE V (.me .pop x [])) := by
  subst hm
  refine PE.imp (L2.pe_bm0 PySem.F.plainAttrs_list PySem.F.slot_list_pop PySem.F.type_list_pop L2.mt_pop ho (base_of hb) hl) fun σ H Q h => ?_
  obtain ⟨env, st, B, F, R, er, sm, hb, w, en⟩ := h
  simp only [wpE, wpEs] at w
  simp only [cE, cEs] at hb en
  refine lE er sm (by omega) w fun t st1 v H1 F1 r1 f1 sm1 q1 e1 => ?_
  obtain ⟨⟨a, ts, rfl, e⟩, r1⟩ := r1
  cases q1
  obtain ⟨ys, _, sq, _⟩ := sm1.sqL (K := Y.K) e
  refine ⟨.inl ⟨rfl, ys, sq⟩, ?_⟩
  simp only [meSem] at r1
  obtain ⟨zs, y, e3, r2⟩ := r1
  obtain ⟨ws, hH, rw'⟩ := sm1.lst e3
  have hlen := rw'.length
  rw [List.length_append, List.length_singleton] at hlen
  have hget : (zs ++ [y])[zs.length]? = some y := by simp
  obtain ⟨v, hv, rv⟩ := rw'.get hget
  refine ⟨a, ws, v, rfl, rfl, hH, by rw [← hv]; congr 1; omega, ?_⟩
  have r3 : RepVs V.D F1 zs ws.dropLast := by
    have := rw'.take zs.length
    rw [List.take_append_of_le_length (Nat.le_refl _), List.take_length] at this
    rw [List.dropLast_eq_take]
    have e9 : ws.length - 1 = zs.length := by omega
    rw [e9]; exact this
  exact (en.mono f1 (B' := B + cE V.cc x) (by omega)).here r2 (sm1.setL e3 r3) rv
omit S in
theorem s_pop1 {o e : Expr} {x y : X} {m : Str} {ap pos : Pos} (hm : m = ("pop" : Str)) (hb : isBI o = false) (hl : (ap.endLine == pos.line) = true) (ho : PE Y o (LE V x)) (ha : PA Y [e] (LA V [y])) (hs : ∀ v p, e ≠ .Starred v p) : PE Y (.Call (.Attribute o m ap) [e] [] pos) (LE V (.me .pop x [y])) := by
  subst hm
  refine PE.imp (L2.pe_bm PySem.F.plainAttrs_list PySem.F.slot_list_pop PySem.F.type_list_pop L2.mt_popAt ho ha (base_of hb) (few_of (fun e' he' => by rw [List.mem_singleton.mp he']; exact hs) (by simp)) hl (star_ns hs) rfl) fun σ H Q h => ?_
  obtain ⟨env, st, B, F, R, er, sm, hb, w, en⟩ := h
  simp only [wpE] at w
  simp only [cE] at hb en
  refine lE er sm (by omega) w fun t st1 v H1 F1 r1 f1 sm1 q1 e1 => ?_
  obtain ⟨⟨a, ts, rfl, e⟩, r1⟩ := r1
  cases q1
  obtain ⟨ys, _, sq, _⟩ := sm1.sqL (K := Y.K) e
  refine ⟨.inl ⟨rfl, ys, sq⟩, lA e1 sm1 (by omega) r1 fun us st2 vs H2 F2 r2 l2 f2 sm2 q2 e2 => ?_⟩
  obtain ⟨u, rfl⟩ : ∃ u, us = [u] := by
    cases us with
    | nil => simp at l2
    | cons u us => cases us with
      | nil => exact ⟨u, rfl⟩
      | cons _ _ => simp at l2
  obtain ⟨v, rfl, rv⟩ := rep1 q2
  cases u <;> simp only [meSem] at r2
  obtain ⟨rfl, zs, y', e3, r2⟩ := r2
  cases rv
  obtain ⟨ws, hH, rw'⟩ := sm2.lst e3
  obtain ⟨v', ws', rfl, r5, r6⟩ := rw'
  exact ⟨_, v' :: ws', 0, 0, v', rfl, rfl, hH, by decide, by decide, by simp [seqIndex?], rfl, (en.mono (f1.trans f2) (B' := B + cE V.cc x + cEs V.cc [y]) (by omega)).here r2 (sm2.setL e3 r6) r5⟩
omit S G in
theorem inter_cons (a : Sg) : ∀ (x : Sg) (rest : List Sg), List.intercalate a (x :: rest) = x ++ (rest.map (a ++ ·)).flatten
  | x, [] => by simp [List.intercalate]
  | x, y :: r => by
    have ih := inter_cons a y r
    simp only [List.intercalate, List.intersperse, List.flatten_cons] at ih ⊢
    rw [ih]
    simp [List.append_assoc]
omit S G in
theorem fold_eq (a : Sg) : ∀ (rest : List Sg) (acc : Array Nat), ((rest.map cpsS).foldl (fun acc p => acc ++ (cpsS a).cps ++ p.cps) acc).toList = acc.toList ++ (rest.map (a ++ ·)).flatten
  | [], acc => by simp
  | y :: r, acc => by
    rw [List.map_cons, List.foldl_cons, fold_eq a r]
    simp [cpsS, List.append_assoc]
omit S G in
theorem join_eq (a : Sg) : ∀ ss : List Sg, Txt.join (cpsS a) (ss.map cpsS) = cpsS (List.intercalate a ss)
  | [] => rfl
  | x :: r => by
    have e := fold_eq a r (cpsS x).cps
    rw [inter_cons]
    show (⟨(r.map cpsS).foldl (fun acc p => acc ++ (cpsS a).cps ++ p.cps) (cpsS x).cps⟩ : Str) = ⟨_⟩
    congr 1
    apply Array.toList_inj.mp
    rw [e]
    simp [cpsS]
omit S in
theorem s_join {o e : Expr} {x : X} {l : L} {m : Str} {ap pos : Pos} (hm : m = ("join" : Str)) (hb : isBI o = false) (hl : (ap.endLine == pos.line) = true) (ho : PE Y o (LE V x)) (ha : PE Y e (LL V l)) (hs : ∀ v p, e ≠ .Starred v p) : PE Y (.Call (.Attribute o m ap) [e] [] pos) (LE V (.join x l)) := by
  subst hm
  refine PE.imp (L2.pe_bm PySem.F.plainAttrs_str PySem.F.slot_str_join PySem.F.type_str_join L2.mt_join ho (pa_one ha (star_ns hs)) (base_of hb) (few_of (fun e' he' => by rw [List.mem_singleton.mp he']; exact hs) (by simp)) hl (star_ns hs) rfl) fun σ H Q h => ?_
  obtain ⟨env, st, B, F, R, er, sm, hb, w, en⟩ := h
  simp only [wpE] at w
  simp only [cE] at hb en
  refine lE er sm (by omega) w fun t st1 v H1 F1 r1 f1 sm1 q1 e1 => ?_
  obtain ⟨⟨y, rfl⟩, r1⟩ := r1
  cases q1
  refine ⟨rfl, lL e1 sm1 (by omega) r1 fun ts chk st2 v H2 F2 r2 l2 f2 sm2 q2 c2 e2 => ?_⟩
  obtain ⟨ss, rfl, hz, r2⟩ := r2
  obtain ⟨p, ys, rfl, ra, q⟩ := q2.sq G.K sm2 c2
  rw [ra.strs] at q
  have em : ss.map (fun s => L2.V.str (cpsS s)) = (ss.map cpsS).map L2.V.str := by rw [List.map_map]; rfl
  rw [em] at q
  refine ⟨cpsS y, p, ss.map cpsS, rfl, rfl, q.imp id (·.1), ?_, ?_⟩
  · have e1 : (ss.map cpsS).map (·.length) = ss.map (·.length) := by
      rw [List.map_map]
      exact List.map_congr_left fun s _ => by simp [cpsS, Str.length]
    rw [e1, List.length_map]
    have e2 : (cpsS y).length = y.length := by simp [cpsS, Str.length]
    rw [e2]
    exact hz
  · rw [join_eq]
    exact (en.mono (f1.trans f2) (B' := B + cE V.cc x + cL V.cc l) (by omega)).here r2 sm2 rfl
theorem callM_ok {o : Expr} {m : Str} {ap pos : Pos} {es : List Expr} {r : X} (h : callM (stripE V.g N n sc) (stripL V.g N n sc) o m ap pos es = some r) : PE Y (.Call (.Attribute o m ap) es [] pos) (LE V r) := by
  unfold callM at h
  split at h
  · rename_i hc
    simp only [Bool.and_eq_true, Bool.not_eq_true', decide_eq_true_eq] at hc
    obtain ⟨⟨hl, h20⟩, hb⟩ := hc
    split at h
    · rename_i hj
      split at h
      · rename_i e
        split at h
        · rename_i x l hx hl'
          cases h
          exact s_join G (eq_of_beq hj) hb hl (S.e Y sc G _ _ hx) (S.l Y sc G _ _ hl') (starL hl')
        · cases h
      · cases h
    · split at h
      · rename_i k x xs hk hx hm
        cases h
        unfold meO at hk
        split at hk
        · rename_i h1
          simp only [Bool.and_eq_true, beq_iff_eq] at h1
          cases hk
          match es, h1.2, hm with
          | [e], _, hm =>
            obtain ⟨y, ys, rfl, g1, g2⟩ := mapO_cons hm
            have := mapO_nil g2
            subst this
            exact s_append G h1.1 hb hl (S.e Y sc G _ _ hx) (args_of S G hm) (starE g1)
        · split at hk
          · rename_i h1
            simp only [Bool.and_eq_true, beq_iff_eq, decide_eq_true_eq] at h1
            cases hk
            match es, h1.2, hm with
            | [], _, hm =>
              rw [mapO_nil hm]
              exact s_pop0 G h1.1 hb hl (S.e Y sc G _ _ hx)
            | [e], _, hm =>
              obtain ⟨y, ys, rfl, g1, g2⟩ := mapO_cons hm
              have := mapO_nil g2
              subst this
              exact s_pop1 G h1.1 hb hl (S.e Y sc G _ _ hx) (args_of S G hm) (starE g1)
            | _ :: _ :: _, h2, _ => simp at h2
          · cases hk
      · cases h
  · cases h
end
end Mo

set_option Elab.async false
set_option linter.all false
set_option maxRecDepth 100000
set_option autoImplicit false
namespace Mo
open PySem PyProof.Rows
open L2 (Inv EP TP AP SP RelV Vals OpR UnR CallR VK R2 PE PT PW PA PO PS PSs Gl Vis Loc It Turn TI PI PG PGs TG TGs PTs Ends)
theorem fold_ns {e : Expr} {env : PySem.Env} (h : ∀ a b c, e ≠ .Set a b c) : ∀ y, foldedSetIterable e env y = pure y := by
  intro y
  cases e <;> first | rfl | exact absurd rfl (h _ _ _)
theorem mark_ns {e : Expr} {op : CmpOp} (h : ∀ a b c, e ≠ .Set a b c) : behindInMarks op e = false := by
  cases e <;> first | rfl | exact absurd rfl (h _ _ _)
theorem setE {g : SE} {N : List Str} {n : Nat} {sc : Scope} {e : Expr} {x : X} (h : stripE g N n sc e = some x) : ∀ a b c, e ≠ .Set a b c := by
  intro a b c z
  subst z
  cases n <;> simp [stripE] at h
theorem plainIx {b : Expr} (h : ∀ lo hi st p, b ≠ .Slice lo hi st p) : L2.PlainIx b := by
  intro o i
  cases b <;> first | rfl | exact absurd rfl (h _ _ _ _)
theorem sliceE {g : SE} {N : List Str} {n : Nat} {sc : Scope} {e : Expr} {x : X} (h : stripE g N n sc e = some x) : ∀ lo hi st p, e ≠ .Slice lo hi st p := by
  intro a b c d z
  subst z
  cases n <;> simp [stripE] at h
section
variable {V : Lv} {N : List Str} {n : Nat} (S : Snd V N n) {Y : L2.Cx} {sc : Scope} (G : GX V Y N sc)
include S G
theorem subE_ok {a i : Expr} {r : X} {pos : Pos} (h : subE (stripE V.g N n sc) (stripO V.g N n sc) a i = some r) : PE Y (.Subscript a i pos) (LE V r) := by
  have plain : (match stripE V.g N n sc a, stripE V.g N n sc i with | some x, some y => some (X.idx x y) | _, _ => none) = some r → PE Y (.Subscript a i pos) (LE V r) := by
    intro h
    split at h
    · rename_i x y hx hy
      cases h
      exact s_idx G (S.e Y sc G _ _ hx) (S.e Y sc G _ _ hy) (plainIx (sliceE hy))
    · cases h
  cases i
  case Slice lo hi st p =>
    simp only [subE] at h
    split at h
    · split at h
      · rename_i x l h' hx hl hh
        cases h
        exact s_slc G (S.e Y sc G _ _ hx) (S.o Y sc G _ _ hl) (S.o Y sc G _ _ hh)
      · cases h
    · split at h
      · rename_i x hx
        cases h
        exact s_rev G (S.e Y sc G _ _ hx)
      · cases h
    · cases h
  all_goals (simp only [subE] at h; exact plain h)
omit S in
theorem gl_mg {x : Str} {u : Value} (hb : bltN V.g sc x = true) (hu : bootBuiltins x = some u) : Gl Y x ∧ Y.mg x = none := by
  obtain ⟨h1, h2, h3⟩ := blt_of G hb
  exact ⟨gl_of G h2, mg_of G h3⟩
theorem srcR_ok {tg e : Expr} {r : Sr} (h : srcR V.g sc (stripE V.g N n sc) (stripL V.g N n sc) tg e = some r) : PI Y tg e (LR V r) ∧ ∀ y, foldedSetIterable e Y.env y = pure y := by
  obtain ⟨_, _, _, _, _, _, _, _, _, _, _, _, _, br, be, bz⟩ := boots
  have plain : (∀ a b c, e ≠ .Set a b c) → (stripL V.g N n sc e).map Sr.seq = some r → PI Y tg e (LR V r) ∧ ∀ y, foldedSetIterable e Y.env y = pure y := by
    intro hns h
    cases hl : stripL V.g N n sc e with
    | none => rw [hl] at h; cases h
    | some l =>
      rw [hl] at h; cases h
      exact ⟨r_seq G (S.l Y sc G _ _ hl), fold_ns hns⟩
  cases e
  case Set => simp [srcR] at h
  case Call f es kw pos =>
    cases f
    case Name x p =>
      cases kw with
      | cons k kw => simp only [srcR] at h; exact plain (by intros; simp) h
      | nil =>
        simp only [srcR] at h
        refine ⟨?_, fold_ns (by intros; simp)⟩
        split at h
        · rename_i hc
          simp only [Bool.and_eq_true, Bool.or_eq_true] at hc
          obtain ⟨hb, hx⟩ := hc
          split at h
          · rename_i hr
            have := eq_of_beq hr
            subst this
            obtain ⟨g1, g2⟩ := gl_mg G hb br
            match es, h with
            | [a], h =>
              simp only at h
              cases hm : mapO (stripE V.g N n sc) [a] with
              | none => rw [hm] at h; cases h
              | some xs =>
                rw [hm] at h; cases h
                exact range1 g1 g2 (args_of S G hm) (by rw [mapO_len hm]; rfl) (star_ns (starE (mapO_cons hm).choose_spec.choose_spec.2.1))
            | [a, b], h =>
              simp only at h
              cases hm : mapO (stripE V.g N n sc) [a, b] with
              | none => rw [hm] at h; cases h
              | some xs =>
                rw [hm] at h; cases h
                obtain ⟨y, ys, _, k1, k2⟩ := mapO_cons hm
                obtain ⟨y', ys', _, k3, k4⟩ := mapO_cons k2
                have sb : starEach [b] Y.env = [(false, eval b Y.env)] := star_ns (starE k3)
                exact range2 g1 g2 (args_of S G hm) (by rw [mapO_len hm]; rfl) (by rw [star_ns (starE k1), sb]) sb
          · rename_i hnr
            split at h
            · rename_i ts k tp
              split at h
              · rename_i hr
                have := eq_of_beq hr
                subst this
                obtain ⟨g1, g2⟩ := gl_mg G hb be
                match es, h with
                | [a], h =>
                  simp only at h
                  cases hm : stripL V.g N n sc a with
                  | none => rw [hm] at h; cases h
                  | some l =>
                    rw [hm] at h; cases h
                    exact r_enum G g1 g2 (S.l Y sc G _ _ hm) (star_ns (starL hm))
              · rename_i hne
                have hz : x = ("zip" : Str) := by
                  rcases hx with (q | q) | q
                  · exact absurd q hnr
                  · exact absurd q hne
                  · exact eq_of_beq q
                subst hz
                obtain ⟨g1, g2⟩ := gl_mg G hb bz
                have pl : ∀ {a : Expr} {es : List Expr} {ls : List L}, mapO (stripL V.g N n sc) (a :: es) = some ls → (backTo pos (starEach es Y.env)).any (·.1) = false := fun {a es ls} hm => plain_of fun e he => by
                  obtain ⟨y, hy⟩ := mapO_mem hm e (by simp [he])
                  exact starL hy
                match es, h with
                | [a, b], h =>
                  simp only at h
                  cases hm : mapO (stripL V.g N n sc) [a, b] with
                  | none => rw [hm] at h; cases h
                  | some ls =>
                    rw [hm] at h; cases h
                    exact r_zip2 G (by rw [mapO_len hm]; rfl) g1 g2 (argsL_of S G hm) (star_ns (starL (mapO_cons hm).choose_spec.choose_spec.2.1)) (pl hm)
                | [a, b, c], h =>
                  simp only at h
                  cases hm : mapO (stripL V.g N n sc) [a, b, c] with
                  | none => rw [hm] at h; cases h
                  | some ls =>
                    rw [hm] at h; cases h
                    exact r_zip3 G (by rw [mapO_len hm]; rfl) g1 g2 (argsL_of S G hm) (star_ns (starL (mapO_cons hm).choose_spec.choose_spec.2.1)) (pl hm)
            · cases h
        · exact (plain (by intros; simp) h).1
    all_goals (simp only [srcR] at h; exact plain (by intros; simp) h)
  all_goals (simp only [srcR] at h; exact plain (by intros; simp) h)
end

/-! what strip tells is no test of its own -/
theorem map_some {α β : Type} {o : Option α} {f : α → β} {b : β} (h : o.map f = some b) : ∃ a, o = some a ∧ f a = b := by
  cases o with
  | none => cases h
  | some a => exact ⟨a, rfl, by simpa using h⟩
theorem nameE_pl {g : SE} {N : List Str} {sc : Scope} {x : Str} {r : X} (h : nameE g N sc x = some r) : plT r = true := by
  unfold nameE at h
  split at h
  · split at h
    · obtain ⟨i, _, rfl⟩ := map_some h; rfl
    · split at h
      · split at h
        · cases h; rfl
        · obtain ⟨i, _, rfl⟩ := map_some h; rfl
      · cases h
  · cases h
theorem callB_pl {g : SE} {sc : Scope} {rE : Expr → Option X} {rL : Expr → Option L} {x : Str} {es : List Expr} {r : X} (h : callB g sc rE rL x es = some r) : plT r = true := by
  unfold callB at h
  repeat' (first | (obtain ⟨i, _, rfl⟩ := map_some h; rfl) | (cases h; done) | (cases h; rfl) | split at h)
theorem callN_pl {g : SE} {N : List Str} {sc : Scope} {rE : Expr → Option X} {rL : Expr → Option L} {x : Str} {es : List Expr} {r : X} (h : callN g N sc rE rL x es = some r) : plT r = true := by
  unfold callN at h
  split at h
  · split at h
    · split at h
      · cases h
      · split at h
        · cases h; rfl
        · cases h
    · split at h
      · split at h
        · obtain ⟨i, _, rfl⟩ := map_some h; rfl
        · split at h
          · exact callB_pl h
          · cases h
      · cases h
  · cases h
theorem callM_pl {rE : Expr → Option X} {rL : Expr → Option L} {o : Expr} {m : Str} {ap pos : Pos} {es : List Expr} {r : X} (h : callM rE rL o m ap pos es = some r) : plT r = true := by
  unfold callM at h
  split at h
  · split at h
    · split at h
      · split at h
        · cases h; rfl
        · cases h
      · cases h
    · split at h
      · cases h; rfl
      · cases h
  · cases h
theorem subE_pl {rE : Expr → Option X} {rO : Option Expr → Option (Option X)} {a i : Expr} {r : X} (h : subE rE rO a i = some r) : plT r = true := by
  unfold subE at h
  split at h
  · split at h
    · split at h
      · cases h; rfl
      · cases h
    · split at h
      · cases h; rfl
      · cases h
    · cases h
  · split at h
    · cases h; rfl
    · cases h
theorem snd_all (V : Lv) (N : List Str) : ∀ n, Snd V N n := by
  intro n
  induction n with
  | zero =>
    exact ⟨fun _ _ _ _ _ h => by simp [stripE] at h, fun _ _ _ _ _ h => by simp [stripE] at h, fun _ _ _ _ _ _ _ h => by simp [stripB] at h, fun _ _ _ _ _ h => by simp [stripO] at h, fun _ _ _ _ _ h => by simp [stripL] at h, fun _ _ _ _ _ h => by simp [stripL] at h,
      fun _ _ _ _ _ _ _ _ h => by simp [stripC] at h, fun _ _ _ _ _ _ h => by simp [stripR] at h⟩
  | succ n S =>
    have he : ∀ (Y : L2.Cx) (sc : Scope), GX V Y N sc → ∀ e x, stripE V.g N (n + 1) sc e = some x → PE Y e (LE V x) := by
      intro Y sc G e x h
      cases e
      case Constant c k pos =>
        simp only [stripE] at h
        cases c <;> simp only at h
        case int i => cases h; exact s_int
        case str s => cases h; exact s_str
        case bool b => cases h; exact s_bl
        case none => cases h; exact s_non
        all_goals cases h
      case Name y pos =>
        simp only [stripE] at h
        exact name_ok G h
      case BinOp a op b pos =>
        simp only [stripE] at h
        split at h
        · rename_i o x y h1 h2 h3
          cases h
          exact s_bin G h1 (S.e Y sc G _ _ h2) (S.e Y sc G _ _ h3)
        · cases h
      case UnaryOp op a pos =>
        simp only [stripE] at h
        split at h
        · rename_i x h1
          cases h
          exact s_not G (S.e Y sc G _ _ h1)
        · rename_i x h1
          cases h
          exact s_neg (S.e Y sc G _ _ h1)
        · cases h
      case BoolOp op es pos =>
        simp only [stripE] at h
        exact (S.b Y sc G _ _ _ pos h).1
      case IfExp c a b pos =>
        simp only [stripE] at h
        split at h
        · rename_i z x y h1 h2 h3
          cases h
          exact s_ite (S.t Y sc G _ _ h1) (S.e Y sc G _ _ h2) (S.e Y sc G _ _ h3)
        · cases h
      case Compare a ops bs pos =>
        simp only [stripE] at h
        split at h
        · split at h
          · rename_i op b _ o x y h1 h2 h3
            cases h
            exact s_cmp G h1 (S.e Y sc G _ _ h2) (S.e Y sc G _ _ h3) (mark_ns (setE h3))
          · cases h
        · split at h
          · rename_i op op2 b c _ o p x y z h1 h2 h3 h4 h5
            cases h
            exact s_chain G h1 h2 (S.e Y sc G _ _ h3) (S.e Y sc G _ _ h4) (S.e Y sc G _ _ h5) (mark_ns (setE h5))
          · cases h
        · cases h
      case Tuple es k pos =>
        simp only [stripE] at h
        split at h
        · rename_i hl
          obtain ⟨xs, hm, rfl⟩ := map_some h
          exact s_tup (by rw [mapO_len hm]; exact hl) (args_of S G hm)
        · cases h
      case List es pos =>
        simp only [stripE] at h
        split at h
        · rename_i hl
          obtain ⟨xs, hm, rfl⟩ := map_some h
          exact s_new (s_l_lst (by rw [mapO_len hm]; exact hl) (args_of S G hm))
        · cases h
      case ListComp elt gens scope pos =>
        simp only [stripE] at h
        obtain ⟨l, hm, rfl⟩ := map_some h
        exact s_new (S.c Y sc G _ _ _ pos _ hm).1
      case Subscript a i pos =>
        simp only [stripE] at h
        exact subE_ok S G h
      case Call f es kw pos =>
        simp only [stripE] at h
        split at h
        · split at h
          · exact callN_ok S G h
          · exact callM_ok S G h
          · cases h
        · cases h
      all_goals (simp [stripE] at h)
    have hf : ∀ (Y : L2.Cx) (sc : Scope), GX V Y N sc → ∀ e x, stripL V.g N (n + 1) sc e = some x → isComp e = true → PE Y e (LF V x) ∧ newL x = true := by
      intro Y sc G e x h hc
      cases e
      case ListComp elt gens scope pos =>
        simp only [stripL] at h
        exact S.c Y sc G _ _ _ pos _ h
      case List es pos =>
        simp only [stripL] at h
        split at h
        · rename_i hl
          obtain ⟨xs, hm, rfl⟩ := map_some h
          exact ⟨s_l_lst (by rw [mapO_len hm]; exact hl) (args_of S G hm), rfl⟩
        · cases h
      all_goals (simp [isComp] at hc)
    refine ⟨he, ?_, ?_, ?_, ?_, hf, ?_, ?_⟩
    · intro Y sc G e x h
      cases e
      case UnaryOp op a pos =>
        have h0 := h
        simp only [stripE] at h
        split at h
        · rename_i x h1
          cases h
          exact t_not (S.t Y sc G _ _ h1)
        · rename_i x h1
          cases h
          exact t_val G (he Y sc G _ _ h0) rfl (fun _ => rfl)
        · cases h
      case BoolOp op es pos =>
        simp only [stripE] at h
        exact (S.b Y sc G _ _ _ pos h).2.pt
      case IfExp c a b pos =>
        simp only [stripE] at h
        split at h
        · rename_i z x y h1 h2 h3
          cases h
          exact t_ite (S.t Y sc G _ _ h1) (S.t Y sc G _ _ h2) (S.t Y sc G _ _ h3)
        · cases h
      case Compare a ops bs pos =>
        simp only [stripE] at h
        split at h
        · split at h
          · rename_i op b _ o x y h1 h2 h3
            cases h
            exact t_cmp G h1 (S.e Y sc G _ _ h2) (S.e Y sc G _ _ h3) (mark_ns (setE h3))
          · cases h
        · split at h
          · rename_i op op2 b c _ o p x y z h1 h2 h3 h4 h5
            cases h
            exact t_chain G h1 h2 (S.e Y sc G _ _ h3) (S.e Y sc G _ _ h4) (S.e Y sc G _ _ h5) (mark_ns (setE h5))
          · cases h
        · cases h
      case Constant c k pos =>
        refine t_val G (he Y sc G _ _ h) ?_ (fun _ => rfl)
        simp only [stripE] at h
        cases c <;> simp only at h <;> cases h <;> rfl
      case Name y pos =>
        refine t_val G (he Y sc G _ _ h) ?_ (fun _ => rfl)
        simp only [stripE] at h
        exact nameE_pl h
      case BinOp a op b pos =>
        refine t_val G (he Y sc G _ _ h) ?_ (fun _ => rfl)
        simp only [stripE] at h
        split at h
        · cases h; rfl
        · cases h
      case Tuple es k pos =>
        refine t_val G (he Y sc G _ _ h) ?_ (fun _ => rfl)
        simp only [stripE] at h
        split at h
        · obtain ⟨xs, hm, rfl⟩ := map_some h; rfl
        · cases h
      case List es pos =>
        refine t_val G (he Y sc G _ _ h) ?_ (fun _ => rfl)
        simp only [stripE] at h
        split at h
        · obtain ⟨xs, hm, rfl⟩ := map_some h; rfl
        · cases h
      case ListComp elt gens scope pos =>
        refine t_val G (he Y sc G _ _ h) ?_ (fun _ => rfl)
        simp only [stripE] at h
        obtain ⟨xs, hm, rfl⟩ := map_some h; rfl
      case Subscript a i pos =>
        refine t_val G (he Y sc G _ _ h) ?_ (fun _ => rfl)
        simp only [stripE] at h
        exact subE_pl h
      case Call f es kw pos =>
        refine t_val G (he Y sc G _ _ h) ?_ (fun _ => rfl)
        simp only [stripE] at h
        split at h
        · split at h
          · exact callN_pl h
          · exact callM_pl h
          · cases h
        · cases h
      all_goals (simp [stripE] at h)
    · intro Y sc G op es x pos h
      cases es with
      | nil => simp [stripB] at h
      | cons e es =>
        cases es with
        | nil =>
          simp only [stripB] at h
          refine ⟨L2.pe_one (S.e Y sc G _ _ h), ?_⟩
          cases op
          · exact L2.pw_and1 (S.t Y sc G _ _ h)
          · exact L2.pw_or1 (S.t Y sc G _ _ h)
        | cons e2 es =>
          simp only [stripB] at h
          split at h
          · rename_i x y h1 h2
            obtain ⟨p1, p2⟩ := S.b Y sc G _ _ _ pos h2
            cases op <;> cases h
            · exact ⟨s_and G (S.e Y sc G _ _ h1) p1, w_and (S.t Y sc G _ _ h1) p2⟩
            · exact ⟨s_or G (S.e Y sc G _ _ h1) p1, w_or (S.t Y sc G _ _ h1) p2⟩
          · cases h
    · intro Y sc G o x h
      cases o with
      | none => simp only [stripO] at h; cases h; exact s_o0
      | some e =>
        simp only [stripO] at h
        obtain ⟨y, hy, rfl⟩ := map_some h
        exact s_o1 (S.e Y sc G _ _ hy)
    · intro Y sc G e x h
      by_cases hc : isComp e = true
      · obtain ⟨p1, p2⟩ := hf Y sc G e x h hc
        exact s_l_new p2 p1
      · cases e
        case ListComp => simp [isComp] at hc
        case List => simp [isComp] at hc
        all_goals (simp only [stripL] at h; obtain ⟨y, hy, rfl⟩ := map_some h; exact s_l_ex G (S.e Y sc G _ _ hy))
    · intro Y sc G elt gens scope pos x h
      simp only [stripC] at h
      split at h
      · rename_i tg iter ifs a
        split at h
        · rename_i hb
          obtain ⟨rfl, hb⟩ := hb
          split at h
          · rename_i src t cs y h1 h2 h3 h4
            split at h
            · rename_i hc
              cases h
              simp only [Bool.and_eq_true, decide_eq_true_eq, List.all_eq_true, List.contains_iff_mem] at hc
              obtain ⟨p1, p2⟩ := S.r Y sc G tg iter src h1
              refine ⟨s_comp G (L2.blkOk_by hb) hc.2 p1 (fun X' G' gt => (g_all G' gt n).1 tg t h2) (fun X' G' => ?_) (fun X' G' => S.e X' _ G' _ _ h4) p2, rfl⟩
              cases ifs with
              | nil => rw [mapO_nil h3]; exact i_nil
              | cons c cs' =>
                obtain ⟨y1, ys, rfl, k1, k2⟩ := mapO_cons h3
                have hl := hc.1
                rw [List.length_cons] at hl
                have : ys = [] := List.eq_nil_of_length_eq_zero (by omega)
                subst this
                have hl2 := mapO_len k2
                have : cs' = [] := List.eq_nil_of_length_eq_zero hl2.symm
                subst this
                exact i_one (S.t X' _ G' _ _ k1)
            · cases h
          · cases h
        · cases h
      · cases h
    · intro Y sc G tg e x h
      simp only [stripR] at h
      exact srcR_ok S G h
end Mo

set_option Elab.async false
set_option linter.all false
set_option maxRecDepth 100000
set_option autoImplicit false
namespace Mo
open PySem PyProof.Rows
open L2 (Inv EP TP AP SP RelV Vals OpR UnR CallR VK R2 PE PT PW PA PO PS PSs Gl Vis Loc It Turn TI PI PG PGs TG TGs PTs Ends)

def swB (sc scope : Scope) (y : Str) (py pos : Pos) : Bool :=
  (sc.names.lookup y == some .local) && py.line == pos.line && !(scope.names.any fun (n, k) => n == y && (k == .local || k == .cell))
theorem sw_eq {elt : Expr} {gs : List Comprehension} {scope : Scope} {pos py : Pos} {y : Str} {l : Nat} {env : PySem.Env} (hk : env.scope.kind = .function) : swapsWith (.ListComp elt gs scope pos) (some (.Name y py)) l env = pure (swB env.scope scope y py pos) := by
  have hb : env.blockKind = .function := by unfold Env.blockKind; rw [hk]; rfl
  unfold swapsWith swB
  simp only [hb, Expr.pos, Env.kindOf]
  rfl
theorem sw_no {e : Expr} {t : Option Expr} {l : Nat} {env : PySem.Env} (h : ∀ a b c d, e ≠ .ListComp a b c d) (h2 : ∀ a b c d, e ≠ .SetComp a b c d) (h3 : ∀ a b c d x, e ≠ .DictComp a b c d x) : swapsWith e t l env = pure false := by
  cases e <;> first | rfl | exact absurd rfl (h _ _ _ _) | exact absurd rfl (h2 _ _ _ _) | exact absurd rfl (h3 _ _ _ _ _)
theorem compE {g : SE} {N : List Str} {n : Nat} {sc : Scope} {e : Expr} {x : X} (h : stripE g N n sc e = some x) : (∀ a b c d, e ≠ .SetComp a b c d) ∧ ∀ a b c d x, e ≠ .DictComp a b c d x := by
  constructor
  · intro a b c d z; subst z; cases n <;> simp [stripE] at h
  · intro a b c d x z; subst z; cases n <;> simp [stripE] at h
theorem ip_add (D : Wd) {Y : L2.Cx} : L2.PIp Y .Add (rAug D .add) := by
  intro pins s σ H x y v u Q I rx ry h
  obtain ⟨t, t', B, F, st, R, q1, q2, sm, w, k⟩ := h
  unfold augSem at w
  split at w <;> rename_i h1 <;> try (cases h1)
  · cases q1; cases q2
    exact L2.ip_add pins s σ H _ _ v u Q I rx ry ⟨_, _, rfl, rfl, k _ w _ rfl⟩
  · exact w.elim
theorem ip_sub (D : Wd) {Y : L2.Cx} : L2.PIp Y .Sub (rAug D .sub) := by
  intro pins s σ H x y v u Q I rx ry h
  obtain ⟨t, t', B, F, st, R, q1, q2, sm, w, k⟩ := h
  unfold augSem at w
  split at w <;> rename_i h1 <;> try (cases h1)
  · cases q1; cases q2
    exact L2.ip_sub pins s σ H _ _ v u Q I rx ry ⟨_, _, rfl, rfl, k _ w _ rfl⟩
  · exact w.elim
theorem ip_mul (D : Wd) {Y : L2.Cx} : L2.PIp Y .Mult (rAug D .mul) := by
  intro pins s σ H x y v u Q I rx ry h
  obtain ⟨t, t', B, F, st, R, q1, q2, sm, w, k⟩ := h
  unfold augSem at w
  split at w <;> rename_i h1 <;> try (cases h1)
  · cases q1; cases q2
    exact L2.iop_mul pins s σ H _ _ v u Q I rx ry ⟨_, _, rfl, rfl, w.1, k _ w.2 _ rfl⟩
  · exact w.elim
theorem ip_all (D : Wd) {Y : L2.Cx} {op : Operator} {o : Op} (h : opO op = some o) (h2 : (o = .add ∨ o = .sub) ∨ o = .mul) : L2.PIp Y op (rAug D o) := by
  rw [opO_eq h]
  rcases h2 with (rfl | rfl) | rfl
  · exact ip_add D
  · exact ip_sub D
  · exact ip_mul D
/-! o[i] = v -/
def rSub (D : Wd) : L2.TSet := fun o i v H Q => ∃ to ti tv st B F R, RepV D F to o ∧ RepV D F ti i ∧ RepV D F tv v ∧ Sim D B H F st ∧ subSem to ti tv st R ∧ ∀ st', R st' → ∀ H', Sim D B H' F st' → Q H'
theorem set_sub (D : Wd) {Y : L2.Cx} : L2.PSet Y (rSub D) := by
  intro pins s σ H o i v ov iv u Q I ro ri rv h
  obtain ⟨to, ti, tv, st, B, F, R, q1, q2, q3, sm, w, k⟩ := h
  cases to <;> simp only [subSem] at w
  rename_i a
  cases q1
  rcases w with ⟨ts, j, rfl, e, hj, w⟩ | ⟨kvs, e, _⟩
  · cases q2
    obtain ⟨xs, hH, ra⟩ := sm.lst e
    refine L2.set_list pins s σ H _ _ v ov iv u Q I ro ri rv ⟨a, xs, _, j, rfl, rfl, hH, ?_, ?_⟩
    · unfold L2.ixN
      rw [← ra.length, if_pos (by exact Int.natCast_nonneg j), if_pos (by exact Int.ofNat_lt.mpr hj)]
      rfl
    · exact k _ w _ (sm.setL e (RepVs.set j ra q3))
  · exact ((sm.ob _ _ e).2).elim
section
variable {V : Lv} {Y : L2.Cx} {N : List Str} {sc : Scope} (G : GX V Y N sc) {a b c e : Expr} {x y z : X} {pos : Pos} {s : Stmt}
theorem st_sub (hp : PS Y s (L2.tAsg (LE V z) (L2.gSub (LE V x) (LE V y) (rSub V.D)))) : PS Y s (LS V (.sub x y z)) := PS.imp hp fun E σ H h => by
  obtain ⟨env, st, B, F, P, er, sm, hb, w, en⟩ := h
  simp only [wpS, en.1] at w
  simp only [cS] at hb en
  refine lE er sm (by omega) w fun t st1 v H1 F1 r1 f1 sm1 q1 e1 => ?_
  refine lE e1 sm1 (by omega) r1 fun t2 st2 v2 H2 F2 r2 f2 sm2 q2 e2 => ?_
  refine lE e2 sm2 (by omega) r2 fun t3 st3 v3 H3 F3 r3 f3 sm3 q3 e3 => ?_
  exact ⟨t2, t3, t, st3, _, F3, _, q2.mono f3, q3, q1.mono (f2.trans f3), sm3, r3, fun st' w' H' s' => (en.mono (f1.trans (f2.trans f3)) (by omega)).nx w' s' e3⟩
end
theorem par_sw {x y : Str} {px py pt : Pos} {a b : Expr} {kt k2} {pt2 : Pos} {env : PySem.Env} (hk : env.scope.kind = .function) (hx : env.scope.names.lookup x = some .local) (hy : env.scope.names.lookup y = some .local) (hne : x ≠ y)
    (hsa : ∀ v p, a ≠ .Starred v p) (hsb : ∀ v p, b ≠ .Starred v p) (hf : ([a, b].all (foldedForSure 8)) = false) (hc : ([a, b].all (constantsAlone 8)) = false) (hl : (py.line == px.line) = true) :
    swappedStores [.Tuple [.Name x px, .Name y py] kt pt] (.Tuple [a, b] k2 pt2) env = pure (some [x, y]) := by
  have hb : env.blockKind = .function := by unfold Env.blockKind; rw [hk]; rfl
  have kx : env.kindOf x = some .local := hx
  have ky : env.kindOf y = some .local := hy
  have hs : ([a, b].any fun | .Starred .. => true | _ => false) = false := by
    have h1 : (match a with | .Starred .. => true | _ => false) = false := by cases a <;> first | rfl | exact absurd rfl (hsa _ _)
    have h2 : (match b with | .Starred .. => true | _ => false) = false := by cases b <;> first | rfl | exact absurd rfl (hsb _ _)
    simp only [List.any_cons, List.any_nil, h1, h2, Bool.or_false]
  have hd : ([x, y] : List Str).eraseDups.length = 2 := by
    have : (y == x) = false := beq_eq_false_iff_ne.mpr (Ne.symm hne)
    simp [List.eraseDups_cons, this]
  have hl' : py.line = px.line := eq_of_beq hl
  unfold swappedStores
  simp only [hb, hf, hc, hs, kx, ky, hd, Expr.pos, List.head?_cons, Option.map_some, Option.getD_some, List.filterMap_cons, List.filterMap_nil, hl', List.length_cons, List.length_nil, beq_self_eq_true, Bool.and_self, if_true, pure_bind, hx, hy]
  simp [hs, hd, hf, hc]
end Mo

set_option Elab.async false
set_option linter.all false
set_option maxRecDepth 100000
set_option autoImplicit false
namespace Mo
open PySem PyProof.Rows
open L2 (Inv EP TP AP SP RelV Vals OpR UnR CallR VK R2 PE PT PW PA PO PS PSs Gl Vis Loc It Turn TI PI PG PGs TG TGs PTs Ends)
theorem parO2 {N : List Str} {sc : Scope} {x y : Str} {px py : Pos} {i j : Nat} (h : parO N sc [.Name x px, .Name y py] = some [i, j]) : sc.names.lookup x = some .local ∧ sc.names.lookup y = some .local ∧ slot N x = some i ∧ slot N y = some j := by
  simp only [parO] at h
  split at h
  · rename_i i' js h1 h2 h3
    split at h3
    · rename_i j' ks h4 h5 h6
      cases h6
      cases h3
      cases h
      exact ⟨h1, h4, h2, h5⟩
    · cases h3
  · cases h
section
variable {V : Lv} {N : List Str} {Y : L2.Cx} {sc : Scope} (G : GX V Y N sc) (gt : GT Y sc) (hp : PassesOwn (model Y.prog Y.w) Y.A Y.env Y.xe)
include G gt
theorem kdY : Y.env.scope.kind = .function := by rw [G.sce]; exact G.kd
theorem asg_ok {n : Nat} {t e : Expr} {m : Sm} {pos : Pos} (h : asgO N sc n (stripE V.g N n sc) t e = some m) : PS Y (.Assign [t] e pos) (LS V m) := by
  have S := snd_all V N n
  have nd : Y.N.Nodup := by rw [G.nn]; exact G.nd
  cases t
  case Name y py =>
    simp only [asgO] at h
    split at h
    · rename_i hy
      obtain ⟨g1, g2⟩ := gt y hy
      split at h
      · rename_i i x hs hx
        cases h
        have hN : Y.N[i]? = some y := by rw [G.nn]; exact slotOf hs
        have he := S.e Y sc G e x hx
        have plain : swapsWith e (some (.Name y py)) pos.line Y.env = pure false → PS Y (.Assign [.Name y py] e pos) (LS V (.set (.name i) x)) := fun hsw =>
          st_name (L2.ps_set nd hN g1 he hsw g2) fun σ H Q h => h
        by_cases hc : ∃ a b c d, e = .ListComp a b c d
        · obtain ⟨elt, gs, scope, cp, rfl⟩ := hc
          have hsw := sw_eq (elt := elt) (gs := gs) (scope := scope) (pos := cp) (py := py) (y := y) (l := pos.line) (kdY G gt)
          cases hb : swB Y.env.scope scope y py cp with
          | false => rw [hb] at hsw; exact plain hsw
          | true =>
            rw [hb] at hsw
            have hloc : Y.env.scope.names.lookup y = some .local := by
              unfold swB at hb
              simp only [Bool.and_eq_true, beq_iff_eq] at hb
              exact hb.1.1
            cases n with
            | zero => simp [stripE] at hx
            | succ n =>
              simp only [stripE] at hx
              obtain ⟨l, hl, rfl⟩ := map_some hx
              have S := snd_all V N n
              cases n with
              | zero => simp [stripC] at hl
              | succ n =>
                have S := snd_all V N n
                simp only [stripC] at hl
                split at hl
                · rename_i tg iter ifs a
                  split at hl
                  · rename_i hbk
                    obtain ⟨rfl, hbk⟩ := hbk
                    split at hl
                    · rename_i src t cs x1 h1 h2 h3 h4
                      split at hl
                      · rename_i hcc
                        cases hl
                        simp only [Bool.and_eq_true, decide_eq_true_eq, List.all_eq_true, List.contains_iff_mem] at hcc
                        obtain ⟨p1, p2⟩ := S.r Y sc G tg iter src h1
                        have ok := L2.blkOk_by hbk
                        have ok' : L2.BlkOk Y.N Y.env.scope scope (ownO N scope) := by rw [G.nn, G.sce]; exact ok
                        have ht : ∀ X', GX V X' N (L2.relS scope sc) → PTs X' ifs (LI V cs) := fun X' G' => by
                          cases ifs with
                          | nil => rw [mapO_nil h3]; exact i_nil
                          | cons c cs' =>
                            obtain ⟨y1, ys, rfl, k1, k2⟩ := mapO_cons h3
                            have hl := hcc.1
                            rw [List.length_cons] at hl
                            have : ys = [] := List.eq_nil_of_length_eq_zero (by omega)
                            subst this
                            have hl2 := mapO_len k2
                            have : cs' = [] := List.eq_nil_of_length_eq_zero hl2.symm
                            subst this
                            exact i_one (S.t X' _ G' _ _ k1)
                        refine st_name (L2.ps_setLc G.calm nd hN hloc hsw p1 ok' (fun s H C cl fp => (g_all (G.blk ok.kind s H C cl fp) (GT.blk s H C cl fp) n).1 tg t h2) (fun s H C cl fp => ht _ (G.blk ok.kind s H C cl fp)) (fun s H C cl fp => S.e _ _ (G.blk ok.kind s H C cl fp) _ _ h4) p2) fun σ H Q h => lc_of hcc.2 ?_
                        obtain ⟨env, st, B, F, R, er, sm, hb, w, en⟩ := h
                        simp only [wpE] at w
                        simp only [cE] at hb en
                        exact lN er sm hb w fun ts st1 p xs H1 F1 r f n s q rp l _ => en (.ref p) _ (r p (s.stF q)) (.ref p) H1 (cut F1 p) (same_cut f n) (s.free q rp) rfl
                      · cases hl
                    · cases hl
                  · cases hl
                · cases hl
        · exact plain (sw_no (fun a b c d z => hc ⟨a, b, c, d, z⟩) (compE hx).1 (compE hx).2)
      · cases h
    · cases h
  case Tuple ts k tp =>
    have plain : (∀ a b c, e ≠ .Tuple a b c) → (match stripT N sc n (.Tuple ts k tp), stripE V.g N n sc e with | some t, some x => some (Sm.set t x) | _, _ => none) = some m → PS Y (.Assign [.Tuple ts k tp] e pos) (LS V m) := by
      intro hnt h
      split at h
      · rename_i t x ht hx
        cases h
        refine st_set (tgt := .Tuple ts k tp) (L2.ps_asg (S.e Y sc G e x hx) ((g_all G gt n).1 _ _ ht) ?_ ?_)
        · show swapsWith e (some (.Tuple ts k tp)) pos.line Y.env = pure false
          cases e <;> rfl
        · cases e <;> first | rfl | exact absurd rfl (hnt _ _ _)
      · cases h
    cases e
    case Tuple es k2 ep =>
      simp only [asgO] at h
      split at h
      · rename_i x px y py a b
        split at h
        · rename_i i j xs h1 h2
          split at h
          · rename_i hc
            cases h
            simp only [Bool.and_eq_true, decide_eq_true_eq, Bool.not_eq_true'] at hc
            obtain ⟨⟨⟨hij, hf⟩, hcon⟩, hl⟩ := hc
            obtain ⟨k1, k2, k3, k4⟩ := parO2 h1
            obtain ⟨u, us, rfl, m1, m2⟩ := mapO_cons h2
            obtain ⟨u2, us2, rfl, m3, m4⟩ := mapO_cons m2
            have hxy : x ≠ y := fun z => by subst z; rw [k3] at k4; cases k4; exact hij rfl
            exact st_par (L2.ps_par G.calm nd (by rw [G.nn]; exact slotOf k3) (by rw [G.nn]; exact slotOf k4) hij (by rw [G.sce]; exact k1) (by rw [G.sce]; exact k2) (args_of S G h2)
              (par_sw (kdY G gt) (by rw [G.sce]; exact k1) (by rw [G.sce]; exact k2) hxy (starE m1) (starE m3) hf hcon hl))
          · cases h
        · cases h
      · cases h
    all_goals (simp only [asgO] at h; exact plain (by intros; simp) h)
  case Subscript o i sp =>
    simp only [asgO] at h
    split at h
    · rename_i x y z hx hy hz
      cases h
      refine st_sub (L2.ps_asg (S.e Y sc G _ _ hz) (L2.pg_sub (S.e Y sc G _ _ hx) (S.e Y sc G _ _ hy) (set_sub V.D) ?_) ?_ ?_)
      · intro v
        cases i <;> first | rfl | exact absurd rfl (sliceE hy _ _ _ _)
      · show swapsWith e (some (.Subscript o i sp)) pos.line Y.env = pure false
        cases e <;> rfl
      · cases e <;> rfl
    · cases h
  all_goals (simp [asgO] at h)
include hp
theorem ss_all : ∀ n : Nat, (∀ s m, stripS V.g N sc n s = some m → PS Y s (LS V m)) ∧ ∀ ss ms, stripSs V.g N sc n ss = some ms → PSs Y ss (LSs V ms) := by
  intro n
  induction n with
  | zero => exact ⟨fun _ _ h => by simp [stripS] at h, fun _ _ h => by simp [stripSs] at h⟩
  | succ n ih =>
    have S := snd_all V N n
    have nd : Y.N.Nodup := by rw [G.nn]; exact G.nd
    refine ⟨fun s m h => ?_, fun ss ms h => ?_⟩
    · cases s
      case Return e pos =>
        simp only [stripS] at h
        cases e with
        | none => simp only at h; cases h; exact st_ret0
        | some e =>
          simp only at h
          obtain ⟨x, hx, rfl⟩ := map_some h
          exact st_ret (S.e Y sc G _ _ hx)
      case Assign ts e pos =>
        simp only [stripS] at h
        split at h
        · exact asg_ok G gt h
        · cases h
      case AugAssign t op e pos =>
        simp only [stripS] at h
        split at h
        · split at h
          · rename_i y py hy
            obtain ⟨g1, g2⟩ := gt y hy
            split at h
            · rename_i i o x hs ho hx
              split at h
              · rename_i hoo
                cases h
                exact st_aug (L2.ps_aug nd (by rw [G.nn]; exact slotOf hs) g1 (S.e Y sc G _ _ hx) (ip_all V.D ho hoo) g2)
              · cases h
            · cases h
          · cases h
        · cases h
      case Expr e pos =>
        simp only [stripS] at h
        split at h
        · cases h
        · rename_i hc
          obtain ⟨x, hx, rfl⟩ := map_some h
          exact st_ex (S.e Y sc G _ _ hx) (L2.ps_expr (S.e Y sc G _ _ hx) (sw_no (fun a b c d z => hc (by rw [z]; rfl)) (compE hx).1 (compE hx).2))
      case If c a b pos =>
        simp only [stripS] at h
        split at h
        · rename_i x y z hx hy hz
          cases h
          exact st_if (S.t Y sc G _ _ hx) (ih.2 _ _ hy) (ih.2 _ _ hz)
        · cases h
      case For t i b els pos =>
        simp only [stripS] at h
        split at h
        · split at h
          · rename_i x y z hx hy hz
            cases h
            obtain ⟨p1, p2⟩ := S.r Y sc G _ _ _ hy
            exact st_for (L2.ps_for hp G.calm p1 ((g_all G gt n).1 _ _ hx) (ih.2 _ _ hz) p2)
          · cases h
        · cases h
      case While c b els pos =>
        simp only [stripS] at h
        split at h
        · split at h
          · rename_i x y hx hy
            cases h
            exact st_whl (L2.ps_while hp (S.t Y sc G _ _ hx) (ih.2 _ _ hy))
          · cases h
        · cases h
      case Pass pos =>
        simp only [stripS] at h
        cases h
        exact st_pass L2.ps_pass
      all_goals (simp [stripS] at h)
    · simp only [stripSs] at h
      split at h
      · cases h; exact ss_nil
      · split at h
        · rename_i s ss x xs h1 h2
          cases h
          exact ss_cons (ih.1 _ _ h1) (ih.2 _ _ h2)
        · cases h
end
end Mo

set_option Elab.async false
set_option linter.all false
set_option maxRecDepth 100000
set_option autoImplicit false
namespace Mo
section
variable {C : Cxt} {env : Env} {st : St} {E : EK} {Q : TK} {a b c : X} {es : List X} {i : Nat} {v : T}
theorem e_var (h : env.getD i none = some v) (q : Q v st) : wpE C (.var i) env st E Q := by simp only [wpE, h]; exact q
theorem e_int {j : Int} (q : Q (.int j) st) : wpE C (.int j) env st E Q := by simp only [wpE]; exact q
theorem e_str {j : Sg} (q : Q (.str j) st) : wpE C (.str j) env st E Q := by simp only [wpE]; exact q
theorem e_bl {j : Bool} (q : Q (.bl j) st) : wpE C (.bl j) env st E Q := by simp only [wpE]; exact q
theorem e_non (q : Q .non st) : wpE C .non env st E Q := by simp only [wpE]; exact q
theorem e_glob (h : C.glob i = some v) (q : Q v st) : wpE C (.glob i) env st E Q := by simp only [wpE, h]; exact q
theorem e_fnv (q : Q (.fn i) st) : wpE C (.fnv i) env st E Q := by simp only [wpE]; exact q
theorem e_bin {o : Op} (h : wpE C a env st E fun x s1 => wpE C b env s1 E fun y s2 => binSem o x y s2 Q) : wpE C (.bin o a b) env st E Q := by simp only [wpE]; exact h
theorem e_neg (h : wpE C a env st E fun x s1 => match x with | .int i => Q (.int (-i)) s1 | _ => False) : wpE C (.neg a) env st E Q := by simp only [wpE]; exact h
theorem e_not (h : wpE C a env st E fun x s1 => truSem x s1 fun b => Q (.bl (!b)) s1) : wpE C (.not a) env st E Q := by simp only [wpE]; exact h
theorem e_and (h : wpE C a env st E fun x s1 => truSem x s1 fun t => if t = true then wpE C b env s1 E Q else Q x s1) : wpE C (.and a b) env st E Q := by simp only [wpE]; exact h
theorem e_or (h : wpE C a env st E fun x s1 => truSem x s1 fun t => if t = true then Q x s1 else wpE C b env s1 E Q) : wpE C (.or a b) env st E Q := by simp only [wpE]; exact h
theorem e_ite (h : wpT C c env st E fun t s1 => if t = true then wpE C a env s1 E Q else wpE C b env s1 E Q) : wpE C (.ite c a b) env st E Q := by simp only [wpE]; exact h
theorem e_cmp {o : Co} (h : wpE C a env st E fun x s1 => wpE C b env s1 E fun y s2 => cmpSem o x y s2 fun t => Q (.bl t) s2) : wpE C (.cmp o a b) env st E Q := by simp only [wpE]; exact h
theorem e_chain {o p : Co} (h : wpE C a env st E fun x s1 => wpE C b env s1 E fun y s2 => cmpSem o x y s2 fun t => if t = true then wpE C c env s2 E fun z s3 => cmpSem p y z s3 fun u => Q (.bl u) s3 else Q (.bl false) s2) : wpE C (.chain o p a b c) env st E Q := by simp only [wpE]; exact h
theorem e_tup (h : wpEs C es env st E fun vs s1 => Q (.tup vs) s1) : wpE C (.tup es) env st E Q := by simp only [wpE]; exact h
theorem e_new {l : L} (h : wpL C l env st E fun ts _ s1 => ∀ p, s1 p = none → Q (.ref p) (upd s1 p (.lst ts))) : wpE C (.new l) env st E Q := by simp only [wpE]; exact h
theorem e_idx (h : wpE C a env st E fun x s1 => wpE C b env s1 E fun y s2 => idxSem x y s2 Q) : wpE C (.idx a b) env st E Q := by simp only [wpE]; exact h
theorem e_slc {lo hi : Option X} (h : wpE C a env st E fun x s1 => wpO C lo env s1 E fun l s2 => wpO C hi env s2 E fun h s3 => slcSem x l h s3 Q) : wpE C (.slc a lo hi) env st E Q := by simp only [wpE]; exact h
theorem e_rev (h : wpE C a env st E fun x s1 => revSem x s1 Q) : wpE C (.rev a) env st E Q := by simp only [wpE]; exact h
theorem e_call {f : Nat} (h : wpEs C es env st E fun vs s1 => C.call f vs s1 E Q) : wpE C (.call f es) env st E Q := by simp only [wpE]; exact h
theorem e_bi {f : Bi} (h : wpEs C es env st E fun vs s1 => biSem C.rp f vs s1 Q) : wpE C (.bi f es) env st E Q := by simp only [wpE]; exact h
theorem e_isi {ty : Ty} (h : wpE C a env st E fun x s1 => isiSem x ty s1 fun b => Q (.bl b) s1) : wpE C (.isi a ty) env st E Q := by simp only [wpE]; exact h
theorem e_li {f : Li} {l : L} (h : wpL C l env st E fun ts _ s1 => liSem f ts s1 Q) : wpE C (.li f l) env st E Q := by simp only [wpE]; exact h
theorem e_join {l : L} (h : wpE C a env st E fun x s1 => (∃ y, x = .str y) ∧ wpL C l env s1 E fun ts _ s2 => match x with | .str sep => ∃ ss : List Sg, ts = ss.map .str ∧ (ss.map (·.length)).sum + ss.length * sep.length ≤ SZ ∧ Q (.str (List.intercalate sep ss)) s2 | _ => False) : wpE C (.join a l) env st E Q := by simp only [wpE]; exact h
theorem e_me {m : Me} (h : wpE C a env st E fun x s1 => meOk m x s1 ∧ wpEs C es env s1 E fun vs s2 => meSem m x vs s2 Q) : wpE C (.me m a es) env st E Q := by simp only [wpE]; exact h
theorem es_nil {Q : List T → St → Prop} (h : Q [] st) : wpEs C [] env st E Q := by simp only [wpEs]; exact h
theorem es_cons {Q : List T → St → Prop} (h : wpE C a env st E fun v s1 => wpEs C es env s1 E fun vs s2 => Q (v :: vs) s2) : wpEs C (a :: es) env st E Q := by simp only [wpEs]; exact h
theorem o_none {Q : Option Int → St → Prop} (h : Q none st) : wpO C none env st E Q := by simp only [wpO]; exact h
theorem o_some {Q : Option Int → St → Prop} (h : wpE C a env st E fun v s1 => match v with | .int i => Q (some i) s1 | _ => False) : wpO C (some a) env st E Q := by simp only [wpO]; exact h
/-! tests -/
variable {T' : Bool → St → Prop}
theorem t_not' (h : wpT C a env st E fun t s1 => T' (!t) s1) : wpT C (.not a) env st E T' := by simp only [wpT]; exact h
theorem t_and' (h : wpT C a env st E fun t s1 => if t = true then wpT C b env s1 E T' else T' false s1) : wpT C (.and a b) env st E T' := by simp only [wpT]; exact h
theorem t_or' (h : wpT C a env st E fun t s1 => if t = true then T' true s1 else wpT C b env s1 E T') : wpT C (.or a b) env st E T' := by simp only [wpT]; exact h
theorem t_cmp' {o : Co} (h : wpE C a env st E fun x s1 => wpE C b env s1 E fun y s2 => cmpSem o x y s2 fun t => T' t s2) : wpT C (.cmp o a b) env st E T' := by simp only [wpT, wpE, truSem]; exact h
theorem t_isi' {ty : Ty} (h : wpE C a env st E fun x s1 => isiSem x ty s1 fun t => T' t s1) : wpT C (.isi a ty) env st E T' := by simp only [wpT, wpE, truSem]; exact h
theorem t_call' {f : Nat} (h : wpEs C es env st E fun vs s1 => C.call f vs s1 E fun x s1 => truSem x s1 fun t => T' t s1) : wpT C (.call f es) env st E T' := by simp only [wpT, wpE]; exact h
/-! values -/
theorem b_add {i j : Int} (h : Q (.int (i + j)) st) : binSem .add (.int i) (.int j) st Q := h
theorem b_sub {i j : Int} (h : Q (.int (i - j)) st) : binSem .sub (.int i) (.int j) st Q := h
theorem b_mul {i j : Int} (m : MulOk i j) (h : Q (.int (i * j)) st) : binSem .mul (.int i) (.int j) st Q := ⟨m, h⟩
theorem b_div {i j : Int} (m : 0 < j ∧ j < 2 ^ 1000) (h : Q (.int (i / j)) st) : binSem .fdiv (.int i) (.int j) st Q := ⟨m, h⟩
theorem b_mod {i j : Int} (m : 0 < j) (h : Q (.int (i % j)) st) : binSem .mod (.int i) (.int j) st Q := ⟨m, h⟩
theorem b_pow {i j : Int} (m : 0 ≤ j ∧ j ≤ 1000 ∧ i.natAbs < 2 ^ 64) (h : Q (.int (i ^ j.toNat)) st) : binSem .pow (.int i) (.int j) st Q := ⟨m, h⟩
theorem b_str {x y : Sg} (m : x.length + y.length ≤ SZ) (h : Q (.str (x ++ y)) st) : binSem .add (.str x) (.str y) st Q := ⟨m, h⟩
theorem b_tup {x y : List T} (m : x.length + y.length ≤ SZ) (h : Q (.tup (x ++ y)) st) : binSem .add (.tup x) (.tup y) st Q := ⟨m, h⟩
theorem i_tup {ts : List T} {j : Int} (e : atT ts j = some v) (q : Q v st) : idxSem (.tup ts) (.int j) st Q := ⟨v, e, q⟩
theorem i_lst {p : Nat} {ts : List T} {j : Int} (h : st p = some (.lst ts)) (e : atT ts j = some v) (q : Q v st) : idxSem (.ref p) (.int j) st Q := .inl ⟨ts, j, v, rfl, h, e, q⟩
theorem i_str {s : Sg} {j : Int} {c : Nat} (hz : s.length ≤ SZ) (e : atT s j = some c) (q : Q (.str [c]) st) : idxSem (.str s) (.int j) st Q := ⟨c, e, hz, q⟩
theorem n_tup {rp : T → Sg} {ts : List T} (q : Q (.int ts.length) st) : biSem rp .len [.tup ts] st Q := q
theorem n_lst {rp : T → Sg} {p : Nat} {ts : List T} (h : st p = some (.lst ts)) (q : Q (.int ts.length) st) : biSem rp .len [.ref p] st Q := .inl ⟨ts, h, q⟩
theorem n_int {rp : T → Sg} {j : Int} (q : Q (.int j) st) : biSem rp .int [.int j] st Q := q
theorem n_intb {rp : T → Sg} {j : Bool} (q : Q (.int (if j then 1 else 0)) st) : biSem rp .int [.bl j] st Q := q
end
/-! statements -/
section
variable {C : Cxt} {env : Env} {st : St} {P : Po} {e c : X} {ss aa bb : List Sm} {s : Sm} {i : Nat}
theorem p_nil (h : P.nx env st) : wpSs C [] env st P := by simp only [wpSs]; exact h
theorem p_cons (h : wpS C s env st { P with nx := fun e2 s2 => wpSs C ss e2 s2 P }) : wpSs C (s :: ss) env st P := by simp only [wpSs]; exact h
theorem p_name (h : wpE C e env st P.ex fun v s1 => P.nx (env.set i (some v)) s1) : wpS C (.set (.name i) e) env st P := by simp only [wpS, asgT]; exact h
theorem p_set {g : Tg} (h : wpE C e env st P.ex fun v s1 => asgT g v s1 env fun e2 => P.nx e2 s1) : wpS C (.set g e) env st P := by simp only [wpS]; exact h
theorem p_ret (h : wpE C e env st P.ex P.rt) : wpS C (.ret (some e)) env st P := by simp only [wpS]; exact h
theorem p_ex (h : wpE C e env st P.ex fun _ s1 => P.nx env s1) : wpS C (.ex e) env st P := by simp only [wpS]; exact h
theorem p_if (h : wpT C c env st P.ex fun t s1 => if t = true then wpSs C aa env s1 P else wpSs C bb env s1 P) : wpS C (.cond c aa bb) env st P := by simp only [wpS]; exact h
theorem p_for {g : Tg} {r : Sr} (h : wpR C r env st P.ex fun ts chk s1 => itf chk (fun x e s k => asgT g x s e fun e2 => wpSs C aa e2 s { nx := k, rt := P.rt, ex := P.ex }) ts env s1 P.nx) : wpS C (.loop g r aa) env st P := by simp only [wpS]; exact h
theorem p_sub {o j : X} (h : wpE C e env st P.ex fun v s1 => wpE C o env s1 P.ex fun x s2 => wpE C j env s2 P.ex fun y s3 => subSem x y v s3 fun s4 => P.nx env s4) : wpS C (.sub o j e) env st P := by simp only [wpS]; exact h
theorem p_par {is : List Nat} {es : List X} (h : wpEs C es env st P.ex fun vs s1 => vs.length = is.length ∧ P.nx ((is.zip vs).foldl (fun e p => e.set p.1 (some p.2)) env) s1) : wpS C (.par is es) env st P := by simp only [wpS]; exact h
end
end Mo

set_option Elab.async false
set_option linter.all false
set_option maxRecDepth 100000
set_option autoImplicit false
namespace Mo
open PySem PyProof.Rows
/-! the two defs that tell numbers -/
def mkB : List Sm := [.set (.name 1) (.new (.comp (.bi .abs [(.var 3)]) [] (.name 3) [2, 3] (.seq (.ex (.var 0))))), .ret (some (.new (.lst [(.new (.comp (.var 3) [(.cmp .ge (.var 3) (.bin .pow (.int 10) (.int 18)))] (.name 3) [2, 3] (.seq (.ex (.var 1))))), (.bin .add (.var 1) (.new (.lst [(.bin .add (.bi .len [(.var 1)]) (.int 3))]))), (.int 0)])))]
def nextB : List Sm := [.whl (.cmp .ne (.idx (.var 0) (.int 0)) (.new (.lst []))) [.set (.name 2) (.idx (.idx (.var 0) (.int 0)) (.int 0)), .cond (.cmp .gt (.var 2) (.int 0)) [.sub (.idx (.var 0) (.int 0)) (.int 0) (.bin .fdiv (.var 2) (.var 1)), .ret (some (.bin .mod (.var 2) (.var 1)))] [], .ex (.me .pop (.idx (.var 0) (.int 0)) [(.int 0)])], .sub (.var 0) (.int 2) (.bin .add (.idx (.var 0) (.int 2)) (.int 1)), .set (.name 3) (.bin .mod (.idx (.idx (.var 0) (.int 1)) (.bin .mod (.idx (.var 0) (.int 2)) (.bi .len [(.idx (.var 0) (.int 1))]))) (.int 2147483647)), .set (.name 4) (.bin .add (.bin .add (.bin .mul (.var 3) (.bin .add (.int 48271) (.bin .mul (.int 69621) (.idx (.var 0) (.int 2))))) (.bin .mul (.bin .mul (.int 40692) (.idx (.var 0) (.int 2))) (.idx (.var 0) (.int 2)))) (.int 11)), .set (.name 4) (.bin .mod (.var 4) (.int 2147483629)), .ret (some (.bin .mod (.bin .fdiv (.bin .mod (.bin .mul (.var 4) (.var 4)) (.int 2147483587)) (.int 16)) (.var 1)))]

/-! from drawn numbers to lists and back -/
section
variable {D : Wd} {B : Nat} {H F : L2.Hp} {st st0 : St} {p a b c : Addr} {k : Int} {ns ms : List Int}
theorem Sim.toDeck (s : Sim D B H F st) (hp : st p = some (.lst [.ref b, .ref c, .int k])) (hb : st b = some (.lst (ns.map .int))) (hc : st c = some (.lst (ms.map .int))) (bc : b ≠ c) (hm : ms ≠ [] ∧ ns.length ≤ 1000) (k0 : 0 ≤ k) (kB : k ≤ B) (n0 : ∀ n ∈ ns, 0 ≤ n) (m0 : ∀ m ∈ ms, 0 ≤ m)
    (sub : Sub st0 st) (sb : st0 b = none) (sc : st0 c = none) (sd : ∀ x, st0 x ≠ some .deck) (pb : b ≠ p) (pc : c ≠ p) : Sim D B H F (upd st0 p .deck) := by
  refine ⟨s.fr, fun x o e => ?_, fun x y ex ey => ?_⟩
  · by_cases hx : x = p
    · subst hx
      rw [upd_same] at e; cases e
      obtain ⟨f1, xs, h1, r1⟩ := s.ob x _ hp
      obtain ⟨f2, ys, h2, r2⟩ := s.ob b _ hb
      obtain ⟨f3, zs, h3, r3⟩ := s.ob c _ hc
      obtain ⟨v1, w1, rfl, q1, r1⟩ := r1
      obtain ⟨v2, w2, rfl, q2, r1⟩ := r1
      obtain ⟨v3, w3, rfl, q3, r1⟩ := r1
      cases q1; cases q2; cases q3
      rw [show w3 = [] from r1] at h1
      refine ⟨f1, b, c, k, ns, ms, h1, by rw [← r2.ints]; exact h2, by rw [← r3.ints]; exact h3, hm, k0, kB, n0, m0, bc, by rw [upd_ne pb]; exact sb, by rw [upd_ne pc]; exact sc, f2, f3⟩
    · rw [upd_ne hx] at e
      obtain ⟨f, q⟩ := s.ob x o (sub x o e)
      cases o with
      | lst ts => exact ⟨f, q⟩
      | dct _ => exact ⟨f, q⟩
      | deck => exact absurd e (sd x)
  · by_cases hx : x = p
    · by_cases hy : y = p
      · rw [hx, hy]
      · rw [upd_ne hy] at ey; exact absurd ey (sd y)
    · rw [upd_ne hx] at ex; exact absurd ex (sd x)
theorem Sim.ofDeck (s : Sim D B H F st) (ha : st a = some .deck) : ∃ (b c : Addr) (k : Int) (ns ms : List Int), Sim D B H F (upd (upd (upd st a (.lst [.ref b, .ref c, .int k])) b (.lst (ns.map .int))) c (.lst (ms.map .int))) ∧ b ≠ c ∧ (ms ≠ [] ∧ ns.length ≤ 1000) ∧ 0 ≤ k ∧ k ≤ B ∧ (∀ n ∈ ns, 0 ≤ n) ∧ (∀ m ∈ ms, 0 ≤ m) ∧ st b = none ∧ st c = none := by
  obtain ⟨f, b, c, k, ns, ms, h1, h2, h3, hm, k0, kB, n0, m0, bc, sb, sc, fb, fc⟩ := s.ob a _ ha
  refine ⟨b, c, k, ns, ms, ⟨s.fr, fun x o e => ?_, fun x y ex ey => ?_⟩, bc, hm, k0, kB, n0, m0, sb, sc⟩
  · by_cases hc : x = c
    · subst hc
      rw [upd_same] at e; cases e
      exact ⟨fc, _, h3, RepVs.of_ints⟩
    · rw [upd_ne hc] at e
      by_cases hb : x = b
      · subst hb
        rw [upd_same] at e; cases e
        exact ⟨fb, _, h2, RepVs.of_ints⟩
      · rw [upd_ne hb] at e
        by_cases hx : x = a
        · subst hx
          rw [upd_same] at e; cases e
          exact ⟨f, _, h1, _, _, rfl, rfl, _, _, rfl, rfl, _, _, rfl, rfl, rfl⟩
        · rw [upd_ne hx] at e
          obtain ⟨f', q⟩ := s.ob x o e
          cases o with
          | lst ts => exact ⟨f', q⟩
          | dct _ => exact ⟨f', q⟩
          | deck => exact absurd (s.dk x a e ha) hx
  · have nd : ∀ z, upd (upd (upd st a (.lst [.ref b, .ref c, .int k])) b (.lst (ns.map .int))) c (.lst (ms.map .int)) z ≠ some .deck := by
      intro z e
      by_cases hc : z = c
      · subst hc; rw [upd_same] at e; cases e
      · rw [upd_ne hc] at e
        by_cases hb : z = b
        · subst hb; rw [upd_same] at e; cases e
        · rw [upd_ne hb] at e
          by_cases hx : z = a
          · subst hx; rw [upd_same] at e; cases e
          · rw [upd_ne hx] at e
            exact hx (s.dk z a e ha)
    exact absurd ex (nd x)
end
/-- a list made by turns, the store as it was -/
theorem itl_inv {C : St → Prop} {turn : T → List T → St → (List T → St → Prop) → Prop} {Q : List T → St → Prop} (I : Nat → List T → Prop) {s : St} (c : C s) :
    ∀ (xs : List T) (n : Nat) (acc : List T), I n acc → (∀ i x acc (k : List T → St → Prop), xs[i]? = some x → I (n + i) acc → (∀ acc' s', Sub s s' → I (n + i + 1) acc' → k acc' s') → turn x acc s k) → (∀ acc, I (n + xs.length) acc → Q acc s) → itl C turn xs acc s Q
  | [], n, acc, h, _, hq => by simp only [itl]; exact ⟨c, hq acc (by simpa using h)⟩
  | x :: xs, n, acc, h, ht, hq => by
    simp only [itl]
    refine ⟨c, ht 0 x acc _ rfl (by simpa using h) fun acc' s' sub i1 => ⟨s, sub, ?_⟩⟩
    refine itl_inv I c xs (n + 1) acc' (by simpa using i1) (fun i y acc k hy hi hk => ht (i + 1) y acc k (by simpa using hy) (by rw [show n + (i + 1) = n + 1 + i by omega]; exact hi) (by rw [show n + (i + 1) = n + 1 + i by omega]; exact hk)) fun acc ha => hq acc (by rw [List.length_cons, show n + (xs.length + 1) = n + 1 + xs.length by omega]; exact ha)
/-- a loop -/
theorem itf_inv {C : St → Prop} {turn : T → Env → St → (Env → St → Prop) → Prop} {Q : Env → St → Prop} (I : Nat → Env → St → Prop) (hc : ∀ i e s, I i e s → C s) :
    ∀ (xs : List T) (n : Nat) (e : Env) (s : St), I n e s → (∀ i x e s (k : Env → St → Prop), xs[i]? = some x → I (n + i) e s → (∀ e' s', (∃ e2 s2, Ewk e2 e' ∧ Sub s2 s' ∧ I (n + i + 1) e2 s2) → k e' s') → turn x e s k) → (∀ e s, I (n + xs.length) e s → Q e s) → itf C turn xs e s Q
  | [], n, e, s, h, _, hq => by simp only [itf]; exact ⟨hc _ _ _ h, hq e s (by simpa using h)⟩
  | x :: xs, n, e, s, h, ht, hq => by
    simp only [itf]
    refine ⟨hc _ _ _ h, ht 0 x e s _ rfl (by simpa using h) fun e' s' ⟨e2, s2, h1, h2, i1⟩ => ⟨e2, s2, h1, h2, ?_⟩⟩
    refine itf_inv I hc xs (n + 1) e2 s2 (by simpa using i1) (fun i y e s k hy hi hk => ht (i + 1) y e s k (by simpa using hy) (by rw [show n + (i + 1) = n + 1 + i by omega]; exact hi) (by rw [show n + (i + 1) = n + 1 + i by omega]; exact hk)) fun e s ha => hq e s (by rw [List.length_cons, show n + (xs.length + 1) = n + 1 + xs.length by omega]; exact ha)
theorem sub_add {s : St} {p : Nat} {o : O} (h : s p = none) : Sub s (Mo.upd s p o) := fun a u e => by
  rw [upd_ne (fun z => by rw [z, h] at e; cases e)]; exact e
def absI (i : Int) : Int := if i < 0 then -i else i
theorem absI_nn (i : Int) : 0 ≤ absI i := by unfold absI; split <;> omega
theorem mk_wp {C : Cxt} {st : St} {P : Po} (nd : ∀ b, st b ≠ some .deck)
    (h : ∀ (p b c : Addr) (st' : St) (ns ms : List Int), st p = none → st b = none → st c = none → b ≠ c → b ≠ p → c ≠ p → (ms ≠ [] ∧ ns.length ≤ 1000) → (∀ n ∈ ns, 0 ≤ n) → (∀ m ∈ ms, 0 ≤ m) → Sub st st' →
      st' p = some (.lst [.ref b, .ref c, .int 0]) → st' b = some (.lst (ns.map .int)) → st' c = some (.lst (ms.map .int)) → P.rt (.ref p) st') : wpSs C mkB (start 4 [.scr]) st P := by
  unfold mkB start
  simp only [wpSs, wpS, wpE, wpL, wpR, seqSem, List.map_cons, List.map_nil, List.length_cons, List.length_nil, List.replicate, List.cons_append, List.nil_append, List.getD_cons_zero]
  intro ns hl0 hl
  rw [List.length_map] at hl
  refine itl_inv (fun i acc => acc = (ns.take i).map fun n => .int (absI n)) trivial _ 0 [] (by simp) (fun i x acc k hx hi hk => ?_) fun acc ha => ?_
  · rw [List.getElem?_map] at hx
    obtain ⟨n, hn, rfl⟩ := Option.map_eq_some_iff.mp hx
    have hin := (List.getElem?_eq_some_iff.mp hn).1
    simp only [asgT, wpIf, wipe, List.foldl, wpE, wpEs, biSem, List.set, List.getD_cons_succ, List.getD_cons_zero, if_true]
    rw [Nat.zero_add] at hi hk
    refine ⟨by rw [hi, List.length_map, List.length_take]; omega, hk _ _ (.refl _) ?_⟩
    rw [hi, List.take_add_one, hn]
    simp [absI]
  · rw [Nat.zero_add, List.length_map, List.take_length] at ha
    subst ha
    intro c0 hc0
    simp only [asgT, List.set, wpEs, wpE, wpL, wpR, seqSem, List.getD_cons_succ, List.getD_cons_zero]
    refine ⟨_, upd_same _ _ _, fun hl2 => ?_⟩
    refine itl_inv (fun i acc => ∃ bs : List Int, acc = bs.map .int ∧ bs.length ≤ i ∧ ∀ b ∈ bs, 0 ≤ b) (upd_same _ _ _) _ 0 [] ⟨[], rfl, Nat.le_refl _, fun _ h => by cases h⟩ (fun i x acc k hx hi hk => ?_) fun acc ha => ?_
    · rw [List.getElem?_map] at hx
      obtain ⟨n, hn, rfl⟩ := Option.map_eq_some_iff.mp hx
      have hin := (List.getElem?_eq_some_iff.mp hn).1
      obtain ⟨bs, rfl, hbl, hb0⟩ := hi
      simp only [asgT, wpIf, wpT, wipe, List.foldl, wpE, wpEs, List.set, List.getD_cons_succ, List.getD_cons_zero, binSem, cmpSem, geSem, truSem]
      refine ⟨⟨by omega, by omega, by decide⟩, ?_⟩
      rw [Nat.zero_add] at hbl hk
      split
      · simp only [if_true]
        refine ⟨by rw [List.length_map]; omega, hk _ _ (.refl _) ⟨bs ++ [absI n], by simp, by simp; omega, fun b hb => ?_⟩⟩
        rcases List.mem_append.mp hb with hb | hb
        · exact hb0 b hb
        · rw [List.mem_singleton.mp hb]; exact absI_nn n
      · simp only [Bool.false_eq_true, if_false]
        exact hk _ _ (.refl _) ⟨bs, rfl, by omega, hb0⟩
    · obtain ⟨bs, rfl, hbl, hb0⟩ := ha
      intro b0 hb0'
      simp only [wpEs, wpE, wpL, biSem, lenSem, binSem, List.getD_cons_succ, List.getD_cons_zero]
      obtain ⟨n1, f1⟩ := upd_none hb0'
      refine .inl ⟨_, by rw [upd_ne (Ne.symm n1), upd_same], fun p1 hp1 => ?_⟩
      obtain ⟨n2, hp1⟩ := upd_none hp1
      obtain ⟨n3, f2⟩ := upd_none hp1
      refine ⟨_, _, by rw [upd_ne (Ne.symm n3), upd_ne (Ne.symm n1), upd_same], upd_same _ _ _, by simp only [List.length_map, List.length_cons, List.length_nil]; unfold SZ; omega, fun p2 hp2 p3 hp3 => ?_⟩
      obtain ⟨n4, hp2⟩ := upd_none hp2
      obtain ⟨n5, hp2⟩ := upd_none hp2
      obtain ⟨n6, f3⟩ := upd_none hp2
      obtain ⟨n7, hp3⟩ := upd_none hp3
      obtain ⟨n8, hp3⟩ := upd_none hp3
      obtain ⟨n9, hp3⟩ := upd_none hp3
      obtain ⟨n10, f4⟩ := upd_none hp3
      refine h p3 b0 p2 _ bs (ns.map absI ++ [((ns.map absI).length : Int) + 3]) f4 f1 f3 (Ne.symm n5) (Ne.symm n9) (Ne.symm n7) ⟨by simp, by rw [List.length_map] at hbl; omega⟩ hb0 (fun m hm => ?_) ?_ (upd_same _ _ _) ?_ ?_
      · rcases List.mem_append.mp hm with hm | hm
        · obtain ⟨z, _, rfl⟩ := List.mem_map.mp hm
          exact absI_nn z
        · rw [List.mem_singleton.mp hm]; omega
      · exact (((((Sub.refl st).upd hc0).upd f1).upd f2).upd f3).upd f4
      · rw [upd_ne (Ne.symm n9), upd_ne (Ne.symm n5), upd_ne (Ne.symm n2), upd_same]
      · rw [upd_ne (Ne.symm n7), upd_same]
        simp [Function.comp_def]

/-- how the deck lies open -/
structure Open (a b c : Nat) (k : Int) (ns ms : List Int) (st : St) : Prop where
  ha : st a = some (.lst [.ref b, .ref c, .int k])
  hb : st b = some (.lst (ns.map .int))
  hc : st c = some (.lst (ms.map .int))
  ab : a ≠ b
  ac : a ≠ c
  bc : b ≠ c
  hl : ns.length ≤ 1000
/-- all else as it was -/
def Rest (a b c : Nat) (st st' : St) : Prop := ∀ x, x ≠ a → x ≠ b → x ≠ c → ∀ o, st x = some o → st' x = some o
theorem eqTs_nil : ∀ ns : List T, eqTs ns [] = ns.isEmpty
  | [] => rfl
  | _ :: _ => rfl
theorem dps_ints {st : St} : ∀ ns : List Int, Dps st (ns.map .int) (ns.map .int)
  | [] => .nil
  | n :: ns => .cons (.int n) (dps_ints ns)
theorem dep_ints : ∀ ns : List Int, depTs (ns.map .int) = 0
  | [] => rfl
  | n :: ns => by simp [depTs, depT, dep_ints ns]
theorem ch_ints : ∀ ns : List Int, chTs (ns.map .int) = true
  | [] => rfl
  | n :: ns => by simp [chTs, chT, ch_ints ns]
theorem itw_step {test : Env → St → (Bool → St → Prop) → Prop} {body : Env → St → (Env → St → Prop) → Prop} {n : Nat} {env : Env} {s : St} {Q : Env → St → Prop}
    (h : ∀ K : Env → St → Prop, (∀ e s', (∃ e2 s3, Ewk e2 e ∧ Sub s3 s' ∧ itw test body n e2 s3 Q) → K e s') → test env s fun b s1 => if b = true then body env s1 K else Q env s1) : itw test body (n + 1) env s Q := h _ fun _ _ z => z
theorem next_loop {C : Cxt} {a b c : Nat} {k m : Int} {ms : List Int} {P : Po} {R : TK} (m1 : 1 ≤ m) (m2 : m < 2 ^ 1000) (st0 : St)
    (h : ∀ r st' ns', 0 ≤ r → r < m → (∀ n ∈ ns', 0 ≤ n) → Open a b c k ns' ms st' → Rest a b c st0 st' → R (.int r) st')
    (hq : ∀ o st', Open a b c k [] ms st' → Rest a b c st0 st' → P.nx [some (.ref a), some (.int m), o, none, none] st') :
    ∀ (ns : List Int) (st : St) (o : Option T), (∀ n ∈ ns, 0 ≤ n) → Open a b c k ns ms st → Rest a b c st0 st →
      itw (fun e s q => wpT C (.cmp .ne (.idx (.var 0) (.int 0)) (.new (.lst []))) e s P.ex q)
        (fun e s q => wpSs C [.set (.name 2) (.idx (.idx (.var 0) (.int 0)) (.int 0)), .cond (.cmp .gt (.var 2) (.int 0)) [.sub (.idx (.var 0) (.int 0)) (.int 0) (.bin .fdiv (.var 2) (.var 1)), .ret (some (.bin .mod (.var 2) (.var 1)))] [], .ex (.me .pop (.idx (.var 0) (.int 0)) [(.int 0)])] e s { nx := q, rt := R, ex := P.ex })
        (ns.length + 1) [some (.ref a), some (.int m), o, none, none] st P.nx := by
  have a0 : ∀ ns : List Int, atT (α := T) [T.ref b, T.ref c, T.int k] 0 = some (T.ref b) := fun _ => rfl
  intro ns
  induction ns with
  | nil =>
    intro st o n0 O hr
    refine itw_step fun K hK => ?_
    simp only [List.length_nil, wpT, wpE, wpL, wpEs, List.getD_cons_zero, idxSem, cmpSem, eqSem, truSem]
    refine .inl ⟨_, _, _, rfl, O.ha, a0 [], fun p hp => ?_⟩
    have hb : p ≠ b := fun z => by rw [z, O.hb] at hp; cases hp
    have ha : p ≠ a := fun z => by rw [z, O.ha] at hp; cases hp
    have hc : p ≠ c := fun z => by rw [z, O.hc] at hp; cases hp
    refine ⟨.lst [], .lst [], .ref (by rw [upd_ne (Ne.symm hb)]; exact O.hb) .nil, .ref (upd_same _ _ _) .nil, by decide, by decide, ?_⟩
    simp only [eqT, eqTs, Bool.not_true, Bool.false_eq_true, if_false]
    refine hq o _ ⟨by rw [upd_ne (Ne.symm ha)]; exact O.ha, by rw [upd_ne (Ne.symm hb)]; exact O.hb, by rw [upd_ne (Ne.symm hc)]; exact O.hc, O.ab, O.ac, O.bc, O.hl⟩ fun x x1 x2 x3 u hu => ?_
    have := hr x x1 x2 x3 u hu
    rw [upd_ne (fun z => by rw [z, hp] at this; cases this)]; exact this
  | cons n ns ih =>
    intro st o n0 O hr
    refine itw_step fun K hK => ?_
    simp only [List.length_cons, wpT, wpE, wpL, wpEs, List.getD_cons_zero, idxSem, cmpSem, eqSem, truSem]
    refine .inl ⟨_, _, _, rfl, O.ha, a0 [], fun p hp => ?_⟩
    have hb : p ≠ b := fun z => by rw [z, O.hb] at hp; cases hp
    have ha : p ≠ a := fun z => by rw [z, O.ha] at hp; cases hp
    have hc : p ≠ c := fun z => by rw [z, O.hc] at hp; cases hp
    refine ⟨.lst ((n :: ns).map .int), .lst [], .ref (by rw [upd_ne (Ne.symm hb)]; exact O.hb) (dps_ints _), .ref (upd_same _ _ _) .nil, by have h1 := dep_ints (n :: ns); have h2 := ch_ints (n :: ns); simp only [okD, depT, chT, h1, h2]; decide, by decide, ?_⟩
    simp only [eqT, eqTs, List.map_cons, Bool.not_false, if_true]
    have O2 : Open a b c k (n :: ns) ms (upd st p (.lst [])) := ⟨by rw [upd_ne (Ne.symm ha)]; exact O.ha, by rw [upd_ne (Ne.symm hb)]; exact O.hb, by rw [upd_ne (Ne.symm hc)]; exact O.hc, O.ab, O.ac, O.bc, O.hl⟩
    have hr2 : Rest a b c st0 (upd st p (.lst [])) := fun x x1 x2 x3 u hu => by
      have := hr x x1 x2 x3 u hu
      rw [upd_ne (fun z => by rw [z, hp] at this; cases this)]; exact this
    generalize upd st p (.lst []) = s2 at O2 hr2
    have n1 := n0 n (by simp)
    rw [wpSs, wpS, wpE, wpE, wpE]
    simp only [wpE, idxSem, List.getD_cons_zero]
    refine .inl ⟨_, _, _, rfl, O2.ha, a0 [], .inl ⟨_, _, _, rfl, O2.hb, rfl, ?_⟩⟩
    rw [asgT, wpSs, wpS]
    simp only [wpT, wpE, cmpSem, gtSem, truSem, List.set, List.getD_cons_zero, List.getD_cons_succ]
    split
    · rename_i hpos
      simp only [decide_eq_true_eq] at hpos
      simp only [wpSs, wpS, wpE, wpT, wpEs, idxSem, asgT, List.getD_cons_zero, List.getD_cons_succ, List.set, binSem, subSem]
      refine ⟨⟨by omega, m2⟩, .inl ⟨_, _, _, rfl, O2.ha, a0 [], .inl ⟨_, 0, rfl, O2.hb, by simp, by omega, ?_⟩⟩⟩
      refine h _ _ (n / m :: ns) (Int.emod_nonneg _ (by omega)) (Int.emod_lt_of_pos _ (by omega)) (fun z hz => ?_) ⟨by rw [upd_ne O2.ab]; exact O2.ha, by rw [upd_same]; rfl, by rw [upd_ne (Ne.symm O2.bc)]; exact O2.hc, O2.ab, O2.ac, O2.bc, by have := O2.hl; simpa using this⟩ fun x x1 x2 x3 u hu => by rw [upd_ne x2]; exact hr2 x x1 x2 x3 u hu
      rcases List.mem_cons.mp hz with rfl | hz
      · exact Int.ediv_nonneg (by omega) (by omega)
      · exact n0 z (by simp [hz])
    · simp only [wpSs, wpS, wpE, wpT, wpEs, idxSem, asgT, List.getD_cons_zero, List.getD_cons_succ, List.set, meOk, meSem]
      refine .inl ⟨_, _, _, rfl, O2.ha, a0 [], ⟨_, _, rfl, O2.hb⟩, by rfl, _, _, by rw [O2.hb]; rfl, ?_⟩
      refine hK _ _ ⟨_, _, Ewk.refl _, Sub.refl _, ih _ _ (fun z hz => n0 z (by simp [hz])) ⟨by rw [upd_ne O2.ab]; exact O2.ha, by rw [upd_same], by rw [upd_ne (Ne.symm O2.bc)]; exact O2.hc, O2.ab, O2.ac, O2.bc, by have := O2.hl; simp at this; omega⟩ fun x x1 x2 x3 u hu => by rw [upd_ne x2]; exact hr2 x x1 x2 x3 u hu⟩

@[irreducible] def BK2 : Int := 2 ^ 300001
theorem mul_small {i j : Int} (hi : i.natAbs < 2 ^ 350000) (hj : j.natAbs < 2 ^ 350000) : MulOk i j :=
  ⟨Nat.lt_of_lt_of_le hi (by decide +kernel), Nat.lt_of_lt_of_le hj (by decide +kernel)⟩
theorem small_of {i : Int} (h0 : 0 ≤ i) (h1 : i ≤ 100000 * BK2) : i.natAbs < 2 ^ 350000 := by
  have h2 : (100000 * BK2).natAbs < 2 ^ 350000 := by unfold BK2; decide +kernel
  omega
set_option maxHeartbeats 4000000 in
theorem next_wp {C : Cxt} {a b c : Nat} {k m : Int} {ns ms : List Int} {P : Po} {st : St} (m1 : 1 ≤ m) (m2 : m < 2 ^ 1000) (k0 : 0 ≤ k) (k1 : k + 1 ≤ BK2) (hm : ms ≠ []) (n0 : ∀ n ∈ ns, 0 ≤ n) (m0 : ∀ n ∈ ms, 0 ≤ n) (O : Open a b c k ns ms st)
    (h : ∀ r st' ns' k', 0 ≤ r → r < m → k ≤ k' → k' ≤ k + 1 → (∀ n ∈ ns', 0 ≤ n) → Open a b c k' ns' ms st' → Rest a b c st st' → P.rt (.int r) st') : wpSs C nextB (start 5 [.ref a, .int m]) st P := by
  unfold nextB start
  rw [wpSs, wpS]
  refine ⟨ns.length + 1, by have := O.hl; omega, next_loop (P := { P with nx := _ }) m1 m2 st (fun r st' ns' h0 h1 h2 h3 h4 => h r st' ns' k h0 h1 (Int.le_refl _) (by omega) h2 h3 h4) (fun o st' O1 hr => ?_) ns st none n0 O fun x _ _ _ o h => h⟩
  have a0 : atT (α := T) [T.ref b, T.ref c, T.int k] 0 = some (T.ref b) := rfl
  have a2 : atT (α := T) [T.ref b, T.ref c, T.int k] 2 = some (T.int k) := rfl
  change wpSs C (_ :: _) _ _ _
  rw [wpSs, wpS]
  simp only [wpE, idxSem, List.getD_cons_zero, binSem, subSem]
  refine .inl ⟨_, _, _, rfl, O1.ha, a2, .inl ⟨_, 2, rfl, O1.ha, by simp, ?_⟩⟩
  have O2 : Open a b c (k + 1) [] ms (upd st' a (.lst [.ref b, .ref c, .int (k + 1)])) := ⟨upd_same _ _ _, by rw [upd_ne (Ne.symm O1.ab)]; exact O1.hb, by rw [upd_ne (Ne.symm O1.ac)]; exact O1.hc, O1.ab, O1.ac, O1.bc, by simp⟩
  have hr2 : Rest a b c st (upd st' a (.lst [.ref b, .ref c, .int (k + 1)])) := fun x x1 x2 x3 u hu => by rw [upd_ne x1]; exact hr x x1 x2 x3 u hu
  show wpSs C _ _ (upd st' a (.lst [.ref b, .ref c, .int (k + 1)])) _
  generalize upd st' a (.lst [.ref b, .ref c, .int (k + 1)]) = s2 at O2 hr2
  have b1 : atT (α := T) [T.ref b, T.ref c, T.int (k + 1)] 1 = some (T.ref c) := rfl
  have b2 : atT (α := T) [T.ref b, T.ref c, T.int (k + 1)] 2 = some (T.int (k + 1)) := rfl
  have hml : 0 < ms.length := List.length_pos_iff.mpr hm
  have hix : (((k + 1) % (ms.length : Int)).toNat) < ms.length := by
    have h1 := Int.emod_lt_of_pos (k + 1) (show (0 : Int) < ms.length by omega)
    have h2 := Int.emod_nonneg (k + 1) (show (ms.length : Int) ≠ 0 by omega)
    omega
  have hc2 : atT (ms.map T.int) ((k + 1) % ((ms.map T.int).length : Int)) = some (.int ms[((k + 1) % (ms.length : Int)).toNat]) := by
    unfold atT
    rw [List.length_map, if_pos (Int.emod_nonneg (k + 1) (show (ms.length : Int) ≠ 0 by omega)), List.getElem?_map, List.getElem?_eq_getElem hix]
    rfl
  have hx0 := m0 _ (List.getElem_mem hix)
  generalize ms[((k + 1) % (ms.length : Int)).toNat] = x at hc2 hx0
  repeat (first | with_reducible refine p_cons ?_ | with_reducible refine p_name ?_ | with_reducible refine p_set ?_ | with_reducible refine p_ret ?_ | with_reducible refine p_ex ?_ | with_reducible refine p_if ?_ | with_reducible refine p_sub ?_ | with_reducible refine p_par ?_ | ((with_reducible apply e_var); rfl) | with_reducible refine e_int ?_ | with_reducible refine e_str ?_ | with_reducible refine e_bl ?_ | with_reducible refine e_non ?_ | ((with_reducible apply e_glob); rfl) | with_reducible refine e_bin ?_ | with_reducible refine e_neg ?_ | with_reducible refine e_not ?_ | with_reducible refine e_and ?_ | with_reducible refine e_or ?_ | with_reducible refine e_ite ?_ | with_reducible refine e_cmp ?_ | with_reducible refine e_chain ?_ | with_reducible refine e_tup ?_ | with_reducible refine e_new ?_ | with_reducible refine e_idx ?_ | with_reducible refine e_slc ?_ | with_reducible refine e_rev ?_ | with_reducible refine e_call ?_ | with_reducible refine e_bi ?_ | with_reducible refine e_isi ?_ | with_reducible refine e_li ?_ | with_reducible refine e_join ?_ | with_reducible refine e_me ?_ | with_reducible refine es_nil ?_ | with_reducible refine es_cons ?_ | with_reducible refine o_none ?_ | with_reducible refine o_some ?_ | with_reducible refine t_not' ?_ | with_reducible refine t_and' ?_ | with_reducible refine t_or' ?_ | with_reducible refine t_cmp' ?_ | with_reducible refine t_isi' ?_ | with_reducible refine t_call' ?_ | with_reducible refine b_add ?_ | with_reducible refine b_sub ?_ | ((with_reducible apply i_tup); rfl) | with_reducible refine n_tup ?_ | with_reducible refine n_int ?_ | with_reducible refine n_intb ?_)
  refine i_lst O2.ha b1 ?_
  repeat (first | with_reducible refine p_cons ?_ | with_reducible refine p_name ?_ | with_reducible refine p_set ?_ | with_reducible refine p_ret ?_ | with_reducible refine p_ex ?_ | with_reducible refine p_if ?_ | with_reducible refine p_sub ?_ | with_reducible refine p_par ?_ | ((with_reducible apply e_var); rfl) | with_reducible refine e_int ?_ | with_reducible refine e_str ?_ | with_reducible refine e_bl ?_ | with_reducible refine e_non ?_ | ((with_reducible apply e_glob); rfl) | with_reducible refine e_bin ?_ | with_reducible refine e_neg ?_ | with_reducible refine e_not ?_ | with_reducible refine e_and ?_ | with_reducible refine e_or ?_ | with_reducible refine e_ite ?_ | with_reducible refine e_cmp ?_ | with_reducible refine e_chain ?_ | with_reducible refine e_tup ?_ | with_reducible refine e_new ?_ | with_reducible refine e_idx ?_ | with_reducible refine e_slc ?_ | with_reducible refine e_rev ?_ | with_reducible refine e_call ?_ | with_reducible refine e_bi ?_ | with_reducible refine e_isi ?_ | with_reducible refine e_li ?_ | with_reducible refine e_join ?_ | with_reducible refine e_me ?_ | with_reducible refine es_nil ?_ | with_reducible refine es_cons ?_ | with_reducible refine o_none ?_ | with_reducible refine o_some ?_ | with_reducible refine t_not' ?_ | with_reducible refine t_and' ?_ | with_reducible refine t_or' ?_ | with_reducible refine t_cmp' ?_ | with_reducible refine t_isi' ?_ | with_reducible refine t_call' ?_ | with_reducible refine b_add ?_ | with_reducible refine b_sub ?_ | ((with_reducible apply i_tup); rfl) | with_reducible refine n_tup ?_ | with_reducible refine n_int ?_ | with_reducible refine n_intb ?_)
  refine i_lst O2.ha b2 ?_
  repeat (first | with_reducible refine p_cons ?_ | with_reducible refine p_name ?_ | with_reducible refine p_set ?_ | with_reducible refine p_ret ?_ | with_reducible refine p_ex ?_ | with_reducible refine p_if ?_ | with_reducible refine p_sub ?_ | with_reducible refine p_par ?_ | ((with_reducible apply e_var); rfl) | with_reducible refine e_int ?_ | with_reducible refine e_str ?_ | with_reducible refine e_bl ?_ | with_reducible refine e_non ?_ | ((with_reducible apply e_glob); rfl) | with_reducible refine e_bin ?_ | with_reducible refine e_neg ?_ | with_reducible refine e_not ?_ | with_reducible refine e_and ?_ | with_reducible refine e_or ?_ | with_reducible refine e_ite ?_ | with_reducible refine e_cmp ?_ | with_reducible refine e_chain ?_ | with_reducible refine e_tup ?_ | with_reducible refine e_new ?_ | with_reducible refine e_idx ?_ | with_reducible refine e_slc ?_ | with_reducible refine e_rev ?_ | with_reducible refine e_call ?_ | with_reducible refine e_bi ?_ | with_reducible refine e_isi ?_ | with_reducible refine e_li ?_ | with_reducible refine e_join ?_ | with_reducible refine e_me ?_ | with_reducible refine es_nil ?_ | with_reducible refine es_cons ?_ | with_reducible refine o_none ?_ | with_reducible refine o_some ?_ | with_reducible refine t_not' ?_ | with_reducible refine t_and' ?_ | with_reducible refine t_or' ?_ | with_reducible refine t_cmp' ?_ | with_reducible refine t_isi' ?_ | with_reducible refine t_call' ?_ | with_reducible refine b_add ?_ | with_reducible refine b_sub ?_ | ((with_reducible apply i_tup); rfl) | with_reducible refine n_tup ?_ | with_reducible refine n_int ?_ | with_reducible refine n_intb ?_)
  refine i_lst O2.ha b1 ?_
  repeat (first | with_reducible refine p_cons ?_ | with_reducible refine p_name ?_ | with_reducible refine p_set ?_ | with_reducible refine p_ret ?_ | with_reducible refine p_ex ?_ | with_reducible refine p_if ?_ | with_reducible refine p_sub ?_ | with_reducible refine p_par ?_ | ((with_reducible apply e_var); rfl) | with_reducible refine e_int ?_ | with_reducible refine e_str ?_ | with_reducible refine e_bl ?_ | with_reducible refine e_non ?_ | ((with_reducible apply e_glob); rfl) | with_reducible refine e_bin ?_ | with_reducible refine e_neg ?_ | with_reducible refine e_not ?_ | with_reducible refine e_and ?_ | with_reducible refine e_or ?_ | with_reducible refine e_ite ?_ | with_reducible refine e_cmp ?_ | with_reducible refine e_chain ?_ | with_reducible refine e_tup ?_ | with_reducible refine e_new ?_ | with_reducible refine e_idx ?_ | with_reducible refine e_slc ?_ | with_reducible refine e_rev ?_ | with_reducible refine e_call ?_ | with_reducible refine e_bi ?_ | with_reducible refine e_isi ?_ | with_reducible refine e_li ?_ | with_reducible refine e_join ?_ | with_reducible refine e_me ?_ | with_reducible refine es_nil ?_ | with_reducible refine es_cons ?_ | with_reducible refine o_none ?_ | with_reducible refine o_some ?_ | with_reducible refine t_not' ?_ | with_reducible refine t_and' ?_ | with_reducible refine t_or' ?_ | with_reducible refine t_cmp' ?_ | with_reducible refine t_isi' ?_ | with_reducible refine t_call' ?_ | with_reducible refine b_add ?_ | with_reducible refine b_sub ?_ | ((with_reducible apply i_tup); rfl) | with_reducible refine n_tup ?_ | with_reducible refine n_int ?_ | with_reducible refine n_intb ?_)
  refine n_lst O2.hc (b_mod (by rw [List.length_map]; omega) (i_lst O2.hc hc2 ?_))
  repeat (first | with_reducible refine p_cons ?_ | with_reducible refine p_name ?_ | with_reducible refine p_set ?_ | with_reducible refine p_ret ?_ | with_reducible refine p_ex ?_ | with_reducible refine p_if ?_ | with_reducible refine p_sub ?_ | with_reducible refine p_par ?_ | ((with_reducible apply e_var); rfl) | with_reducible refine e_int ?_ | with_reducible refine e_str ?_ | with_reducible refine e_bl ?_ | with_reducible refine e_non ?_ | ((with_reducible apply e_glob); rfl) | with_reducible refine e_bin ?_ | with_reducible refine e_neg ?_ | with_reducible refine e_not ?_ | with_reducible refine e_and ?_ | with_reducible refine e_or ?_ | with_reducible refine e_ite ?_ | with_reducible refine e_cmp ?_ | with_reducible refine e_chain ?_ | with_reducible refine e_tup ?_ | with_reducible refine e_new ?_ | with_reducible refine e_idx ?_ | with_reducible refine e_slc ?_ | with_reducible refine e_rev ?_ | with_reducible refine e_call ?_ | with_reducible refine e_bi ?_ | with_reducible refine e_isi ?_ | with_reducible refine e_li ?_ | with_reducible refine e_join ?_ | with_reducible refine e_me ?_ | with_reducible refine es_nil ?_ | with_reducible refine es_cons ?_ | with_reducible refine o_none ?_ | with_reducible refine o_some ?_ | with_reducible refine t_not' ?_ | with_reducible refine t_and' ?_ | with_reducible refine t_or' ?_ | with_reducible refine t_cmp' ?_ | with_reducible refine t_isi' ?_ | with_reducible refine t_call' ?_ | with_reducible refine b_add ?_ | with_reducible refine b_sub ?_ | ((with_reducible apply i_tup); rfl) | with_reducible refine n_tup ?_ | with_reducible refine n_int ?_ | with_reducible refine n_intb ?_)
  refine b_mod (by decide) ?_
  have y0 := Int.emod_nonneg x (show (2147483647 : Int) ≠ 0 by decide)
  have y1 := Int.emod_lt_of_pos x (show (0 : Int) < 2147483647 by decide)
  generalize x % 2147483647 = y at y0 y1
  have kb : (0 : Int) ≤ k + 1 := by omega
  have kk : k + 1 ≤ 100000 * BK2 := by omega
  have hb0 : (100000 : Int) ≤ BK2 := by unfold BK2; decide +kernel
  repeat (first | with_reducible refine p_cons ?_ | with_reducible refine p_name ?_ | with_reducible refine p_set ?_ | with_reducible refine p_ret ?_ | with_reducible refine p_ex ?_ | with_reducible refine p_if ?_ | with_reducible refine p_sub ?_ | with_reducible refine p_par ?_ | ((with_reducible apply e_var); rfl) | with_reducible refine e_int ?_ | with_reducible refine e_str ?_ | with_reducible refine e_bl ?_ | with_reducible refine e_non ?_ | ((with_reducible apply e_glob); rfl) | with_reducible refine e_bin ?_ | with_reducible refine e_neg ?_ | with_reducible refine e_not ?_ | with_reducible refine e_and ?_ | with_reducible refine e_or ?_ | with_reducible refine e_ite ?_ | with_reducible refine e_cmp ?_ | with_reducible refine e_chain ?_ | with_reducible refine e_tup ?_ | with_reducible refine e_new ?_ | with_reducible refine e_idx ?_ | with_reducible refine e_slc ?_ | with_reducible refine e_rev ?_ | with_reducible refine e_call ?_ | with_reducible refine e_bi ?_ | with_reducible refine e_isi ?_ | with_reducible refine e_li ?_ | with_reducible refine e_join ?_ | with_reducible refine e_me ?_ | with_reducible refine es_nil ?_ | with_reducible refine es_cons ?_ | with_reducible refine o_none ?_ | with_reducible refine o_some ?_ | with_reducible refine t_not' ?_ | with_reducible refine t_and' ?_ | with_reducible refine t_or' ?_ | with_reducible refine t_cmp' ?_ | with_reducible refine t_isi' ?_ | with_reducible refine t_call' ?_ | with_reducible refine b_add ?_ | with_reducible refine b_sub ?_ | ((with_reducible apply i_tup); rfl) | with_reducible refine n_tup ?_ | with_reducible refine n_int ?_ | with_reducible refine n_intb ?_)
  refine i_lst O2.ha b2 (b_mul (mul_small (by decide +kernel) (small_of kb kk)) ?_)
  repeat (first | with_reducible refine p_cons ?_ | with_reducible refine p_name ?_ | with_reducible refine p_set ?_ | with_reducible refine p_ret ?_ | with_reducible refine p_ex ?_ | with_reducible refine p_if ?_ | with_reducible refine p_sub ?_ | with_reducible refine p_par ?_ | ((with_reducible apply e_var); rfl) | with_reducible refine e_int ?_ | with_reducible refine e_str ?_ | with_reducible refine e_bl ?_ | with_reducible refine e_non ?_ | ((with_reducible apply e_glob); rfl) | with_reducible refine e_bin ?_ | with_reducible refine e_neg ?_ | with_reducible refine e_not ?_ | with_reducible refine e_and ?_ | with_reducible refine e_or ?_ | with_reducible refine e_ite ?_ | with_reducible refine e_cmp ?_ | with_reducible refine e_chain ?_ | with_reducible refine e_tup ?_ | with_reducible refine e_new ?_ | with_reducible refine e_idx ?_ | with_reducible refine e_slc ?_ | with_reducible refine e_rev ?_ | with_reducible refine e_call ?_ | with_reducible refine e_bi ?_ | with_reducible refine e_isi ?_ | with_reducible refine e_li ?_ | with_reducible refine e_join ?_ | with_reducible refine e_me ?_ | with_reducible refine es_nil ?_ | with_reducible refine es_cons ?_ | with_reducible refine o_none ?_ | with_reducible refine o_some ?_ | with_reducible refine t_not' ?_ | with_reducible refine t_and' ?_ | with_reducible refine t_or' ?_ | with_reducible refine t_cmp' ?_ | with_reducible refine t_isi' ?_ | with_reducible refine t_call' ?_ | with_reducible refine b_add ?_ | with_reducible refine b_sub ?_ | ((with_reducible apply i_tup); rfl) | with_reducible refine n_tup ?_ | with_reducible refine n_int ?_ | with_reducible refine n_intb ?_)
  refine b_mul (mul_small (small_of y0 (by omega)) (small_of (by omega) (by omega))) ?_
  repeat (first | with_reducible refine p_cons ?_ | with_reducible refine p_name ?_ | with_reducible refine p_set ?_ | with_reducible refine p_ret ?_ | with_reducible refine p_ex ?_ | with_reducible refine p_if ?_ | with_reducible refine p_sub ?_ | with_reducible refine p_par ?_ | ((with_reducible apply e_var); rfl) | with_reducible refine e_int ?_ | with_reducible refine e_str ?_ | with_reducible refine e_bl ?_ | with_reducible refine e_non ?_ | ((with_reducible apply e_glob); rfl) | with_reducible refine e_bin ?_ | with_reducible refine e_neg ?_ | with_reducible refine e_not ?_ | with_reducible refine e_and ?_ | with_reducible refine e_or ?_ | with_reducible refine e_ite ?_ | with_reducible refine e_cmp ?_ | with_reducible refine e_chain ?_ | with_reducible refine e_tup ?_ | with_reducible refine e_new ?_ | with_reducible refine e_idx ?_ | with_reducible refine e_slc ?_ | with_reducible refine e_rev ?_ | with_reducible refine e_call ?_ | with_reducible refine e_bi ?_ | with_reducible refine e_isi ?_ | with_reducible refine e_li ?_ | with_reducible refine e_join ?_ | with_reducible refine e_me ?_ | with_reducible refine es_nil ?_ | with_reducible refine es_cons ?_ | with_reducible refine o_none ?_ | with_reducible refine o_some ?_ | with_reducible refine t_not' ?_ | with_reducible refine t_and' ?_ | with_reducible refine t_or' ?_ | with_reducible refine t_cmp' ?_ | with_reducible refine t_isi' ?_ | with_reducible refine t_call' ?_ | with_reducible refine b_add ?_ | with_reducible refine b_sub ?_ | ((with_reducible apply i_tup); rfl) | with_reducible refine n_tup ?_ | with_reducible refine n_int ?_ | with_reducible refine n_intb ?_)
  refine i_lst O2.ha b2 (b_mul (mul_small (by decide +kernel) (small_of kb kk)) ?_)
  repeat (first | with_reducible refine p_cons ?_ | with_reducible refine p_name ?_ | with_reducible refine p_set ?_ | with_reducible refine p_ret ?_ | with_reducible refine p_ex ?_ | with_reducible refine p_if ?_ | with_reducible refine p_sub ?_ | with_reducible refine p_par ?_ | ((with_reducible apply e_var); rfl) | with_reducible refine e_int ?_ | with_reducible refine e_str ?_ | with_reducible refine e_bl ?_ | with_reducible refine e_non ?_ | ((with_reducible apply e_glob); rfl) | with_reducible refine e_bin ?_ | with_reducible refine e_neg ?_ | with_reducible refine e_not ?_ | with_reducible refine e_and ?_ | with_reducible refine e_or ?_ | with_reducible refine e_ite ?_ | with_reducible refine e_cmp ?_ | with_reducible refine e_chain ?_ | with_reducible refine e_tup ?_ | with_reducible refine e_new ?_ | with_reducible refine e_idx ?_ | with_reducible refine e_slc ?_ | with_reducible refine e_rev ?_ | with_reducible refine e_call ?_ | with_reducible refine e_bi ?_ | with_reducible refine e_isi ?_ | with_reducible refine e_li ?_ | with_reducible refine e_join ?_ | with_reducible refine e_me ?_ | with_reducible refine es_nil ?_ | with_reducible refine es_cons ?_ | with_reducible refine o_none ?_ | with_reducible refine o_some ?_ | with_reducible refine t_not' ?_ | with_reducible refine t_and' ?_ | with_reducible refine t_or' ?_ | with_reducible refine t_cmp' ?_ | with_reducible refine t_isi' ?_ | with_reducible refine t_call' ?_ | with_reducible refine b_add ?_ | with_reducible refine b_sub ?_ | ((with_reducible apply i_tup); rfl) | with_reducible refine n_tup ?_ | with_reducible refine n_int ?_ | with_reducible refine n_intb ?_)
  refine i_lst O2.ha b2 (b_mul (mul_small (small_of (by omega) (by omega)) (small_of kb kk)) ?_)
  repeat (first | with_reducible refine p_cons ?_ | with_reducible refine p_name ?_ | with_reducible refine p_set ?_ | with_reducible refine p_ret ?_ | with_reducible refine p_ex ?_ | with_reducible refine p_if ?_ | with_reducible refine p_sub ?_ | with_reducible refine p_par ?_ | ((with_reducible apply e_var); rfl) | with_reducible refine e_int ?_ | with_reducible refine e_str ?_ | with_reducible refine e_bl ?_ | with_reducible refine e_non ?_ | ((with_reducible apply e_glob); rfl) | with_reducible refine e_bin ?_ | with_reducible refine e_neg ?_ | with_reducible refine e_not ?_ | with_reducible refine e_and ?_ | with_reducible refine e_or ?_ | with_reducible refine e_ite ?_ | with_reducible refine e_cmp ?_ | with_reducible refine e_chain ?_ | with_reducible refine e_tup ?_ | with_reducible refine e_new ?_ | with_reducible refine e_idx ?_ | with_reducible refine e_slc ?_ | with_reducible refine e_rev ?_ | with_reducible refine e_call ?_ | with_reducible refine e_bi ?_ | with_reducible refine e_isi ?_ | with_reducible refine e_li ?_ | with_reducible refine e_join ?_ | with_reducible refine e_me ?_ | with_reducible refine es_nil ?_ | with_reducible refine es_cons ?_ | with_reducible refine o_none ?_ | with_reducible refine o_some ?_ | with_reducible refine t_not' ?_ | with_reducible refine t_and' ?_ | with_reducible refine t_or' ?_ | with_reducible refine t_cmp' ?_ | with_reducible refine t_isi' ?_ | with_reducible refine t_call' ?_ | with_reducible refine b_add ?_ | with_reducible refine b_sub ?_ | ((with_reducible apply i_tup); rfl) | with_reducible refine n_tup ?_ | with_reducible refine n_int ?_ | with_reducible refine n_intb ?_)
  generalize y * (48271 + 69621 * (k + 1)) + 40692 * (k + 1) * (k + 1) + 11 = z
  repeat (first | with_reducible refine p_cons ?_ | with_reducible refine p_name ?_ | with_reducible refine p_set ?_ | with_reducible refine p_ret ?_ | with_reducible refine p_ex ?_ | with_reducible refine p_if ?_ | with_reducible refine p_sub ?_ | with_reducible refine p_par ?_ | ((with_reducible apply e_var); rfl) | with_reducible refine e_int ?_ | with_reducible refine e_str ?_ | with_reducible refine e_bl ?_ | with_reducible refine e_non ?_ | ((with_reducible apply e_glob); rfl) | with_reducible refine e_bin ?_ | with_reducible refine e_neg ?_ | with_reducible refine e_not ?_ | with_reducible refine e_and ?_ | with_reducible refine e_or ?_ | with_reducible refine e_ite ?_ | with_reducible refine e_cmp ?_ | with_reducible refine e_chain ?_ | with_reducible refine e_tup ?_ | with_reducible refine e_new ?_ | with_reducible refine e_idx ?_ | with_reducible refine e_slc ?_ | with_reducible refine e_rev ?_ | with_reducible refine e_call ?_ | with_reducible refine e_bi ?_ | with_reducible refine e_isi ?_ | with_reducible refine e_li ?_ | with_reducible refine e_join ?_ | with_reducible refine e_me ?_ | with_reducible refine es_nil ?_ | with_reducible refine es_cons ?_ | with_reducible refine o_none ?_ | with_reducible refine o_some ?_ | with_reducible refine t_not' ?_ | with_reducible refine t_and' ?_ | with_reducible refine t_or' ?_ | with_reducible refine t_cmp' ?_ | with_reducible refine t_isi' ?_ | with_reducible refine t_call' ?_ | with_reducible refine b_add ?_ | with_reducible refine b_sub ?_ | ((with_reducible apply i_tup); rfl) | with_reducible refine n_tup ?_ | with_reducible refine n_int ?_ | with_reducible refine n_intb ?_)
  refine b_mod (by decide) ?_
  have z0 := Int.emod_nonneg z (show (2147483629 : Int) ≠ 0 by decide)
  have z1 := Int.emod_lt_of_pos z (show (0 : Int) < 2147483629 by decide)
  generalize z % 2147483629 = q at z0 z1
  repeat (first | with_reducible refine p_cons ?_ | with_reducible refine p_name ?_ | with_reducible refine p_set ?_ | with_reducible refine p_ret ?_ | with_reducible refine p_ex ?_ | with_reducible refine p_if ?_ | with_reducible refine p_sub ?_ | with_reducible refine p_par ?_ | ((with_reducible apply e_var); rfl) | with_reducible refine e_int ?_ | with_reducible refine e_str ?_ | with_reducible refine e_bl ?_ | with_reducible refine e_non ?_ | ((with_reducible apply e_glob); rfl) | with_reducible refine e_bin ?_ | with_reducible refine e_neg ?_ | with_reducible refine e_not ?_ | with_reducible refine e_and ?_ | with_reducible refine e_or ?_ | with_reducible refine e_ite ?_ | with_reducible refine e_cmp ?_ | with_reducible refine e_chain ?_ | with_reducible refine e_tup ?_ | with_reducible refine e_new ?_ | with_reducible refine e_idx ?_ | with_reducible refine e_slc ?_ | with_reducible refine e_rev ?_ | with_reducible refine e_call ?_ | with_reducible refine e_bi ?_ | with_reducible refine e_isi ?_ | with_reducible refine e_li ?_ | with_reducible refine e_join ?_ | with_reducible refine e_me ?_ | with_reducible refine es_nil ?_ | with_reducible refine es_cons ?_ | with_reducible refine o_none ?_ | with_reducible refine o_some ?_ | with_reducible refine t_not' ?_ | with_reducible refine t_and' ?_ | with_reducible refine t_or' ?_ | with_reducible refine t_cmp' ?_ | with_reducible refine t_isi' ?_ | with_reducible refine t_call' ?_ | with_reducible refine b_add ?_ | with_reducible refine b_sub ?_ | ((with_reducible apply i_tup); rfl) | with_reducible refine n_tup ?_ | with_reducible refine n_int ?_ | with_reducible refine n_intb ?_)
  refine b_mul (mul_small (small_of z0 (by omega)) (small_of z0 (by omega))) ?_
  repeat (first | with_reducible refine p_cons ?_ | with_reducible refine p_name ?_ | with_reducible refine p_set ?_ | with_reducible refine p_ret ?_ | with_reducible refine p_ex ?_ | with_reducible refine p_if ?_ | with_reducible refine p_sub ?_ | with_reducible refine p_par ?_ | ((with_reducible apply e_var); rfl) | with_reducible refine e_int ?_ | with_reducible refine e_str ?_ | with_reducible refine e_bl ?_ | with_reducible refine e_non ?_ | ((with_reducible apply e_glob); rfl) | with_reducible refine e_bin ?_ | with_reducible refine e_neg ?_ | with_reducible refine e_not ?_ | with_reducible refine e_and ?_ | with_reducible refine e_or ?_ | with_reducible refine e_ite ?_ | with_reducible refine e_cmp ?_ | with_reducible refine e_chain ?_ | with_reducible refine e_tup ?_ | with_reducible refine e_new ?_ | with_reducible refine e_idx ?_ | with_reducible refine e_slc ?_ | with_reducible refine e_rev ?_ | with_reducible refine e_call ?_ | with_reducible refine e_bi ?_ | with_reducible refine e_isi ?_ | with_reducible refine e_li ?_ | with_reducible refine e_join ?_ | with_reducible refine e_me ?_ | with_reducible refine es_nil ?_ | with_reducible refine es_cons ?_ | with_reducible refine o_none ?_ | with_reducible refine o_some ?_ | with_reducible refine t_not' ?_ | with_reducible refine t_and' ?_ | with_reducible refine t_or' ?_ | with_reducible refine t_cmp' ?_ | with_reducible refine t_isi' ?_ | with_reducible refine t_call' ?_ | with_reducible refine b_add ?_ | with_reducible refine b_sub ?_ | ((with_reducible apply i_tup); rfl) | with_reducible refine n_tup ?_ | with_reducible refine n_int ?_ | with_reducible refine n_intb ?_)
  refine b_mod (by decide) ?_
  repeat (first | with_reducible refine p_cons ?_ | with_reducible refine p_name ?_ | with_reducible refine p_set ?_ | with_reducible refine p_ret ?_ | with_reducible refine p_ex ?_ | with_reducible refine p_if ?_ | with_reducible refine p_sub ?_ | with_reducible refine p_par ?_ | ((with_reducible apply e_var); rfl) | with_reducible refine e_int ?_ | with_reducible refine e_str ?_ | with_reducible refine e_bl ?_ | with_reducible refine e_non ?_ | ((with_reducible apply e_glob); rfl) | with_reducible refine e_bin ?_ | with_reducible refine e_neg ?_ | with_reducible refine e_not ?_ | with_reducible refine e_and ?_ | with_reducible refine e_or ?_ | with_reducible refine e_ite ?_ | with_reducible refine e_cmp ?_ | with_reducible refine e_chain ?_ | with_reducible refine e_tup ?_ | with_reducible refine e_new ?_ | with_reducible refine e_idx ?_ | with_reducible refine e_slc ?_ | with_reducible refine e_rev ?_ | with_reducible refine e_call ?_ | with_reducible refine e_bi ?_ | with_reducible refine e_isi ?_ | with_reducible refine e_li ?_ | with_reducible refine e_join ?_ | with_reducible refine e_me ?_ | with_reducible refine es_nil ?_ | with_reducible refine es_cons ?_ | with_reducible refine o_none ?_ | with_reducible refine o_some ?_ | with_reducible refine t_not' ?_ | with_reducible refine t_and' ?_ | with_reducible refine t_or' ?_ | with_reducible refine t_cmp' ?_ | with_reducible refine t_isi' ?_ | with_reducible refine t_call' ?_ | with_reducible refine b_add ?_ | with_reducible refine b_sub ?_ | ((with_reducible apply i_tup); rfl) | with_reducible refine n_tup ?_ | with_reducible refine n_int ?_ | with_reducible refine n_intb ?_)
  refine b_div ⟨by decide, by decide⟩ ?_
  repeat (first | with_reducible refine p_cons ?_ | with_reducible refine p_name ?_ | with_reducible refine p_set ?_ | with_reducible refine p_ret ?_ | with_reducible refine p_ex ?_ | with_reducible refine p_if ?_ | with_reducible refine p_sub ?_ | with_reducible refine p_par ?_ | ((with_reducible apply e_var); rfl) | with_reducible refine e_int ?_ | with_reducible refine e_str ?_ | with_reducible refine e_bl ?_ | with_reducible refine e_non ?_ | ((with_reducible apply e_glob); rfl) | with_reducible refine e_bin ?_ | with_reducible refine e_neg ?_ | with_reducible refine e_not ?_ | with_reducible refine e_and ?_ | with_reducible refine e_or ?_ | with_reducible refine e_ite ?_ | with_reducible refine e_cmp ?_ | with_reducible refine e_chain ?_ | with_reducible refine e_tup ?_ | with_reducible refine e_new ?_ | with_reducible refine e_idx ?_ | with_reducible refine e_slc ?_ | with_reducible refine e_rev ?_ | with_reducible refine e_call ?_ | with_reducible refine e_bi ?_ | with_reducible refine e_isi ?_ | with_reducible refine e_li ?_ | with_reducible refine e_join ?_ | with_reducible refine e_me ?_ | with_reducible refine es_nil ?_ | with_reducible refine es_cons ?_ | with_reducible refine o_none ?_ | with_reducible refine o_some ?_ | with_reducible refine t_not' ?_ | with_reducible refine t_and' ?_ | with_reducible refine t_or' ?_ | with_reducible refine t_cmp' ?_ | with_reducible refine t_isi' ?_ | with_reducible refine t_call' ?_ | with_reducible refine b_add ?_ | with_reducible refine b_sub ?_ | ((with_reducible apply i_tup); rfl) | with_reducible refine n_tup ?_ | with_reducible refine n_int ?_ | with_reducible refine n_intb ?_)
  refine b_mod (by omega) ?_
  exact h _ _ [] (k + 1) (Int.emod_nonneg _ (by omega)) (Int.emod_lt_of_pos _ (by omega)) (by omega) (Int.le_refl _) (fun _ h => by cases h) O2 hr2
end Mo

set_option Elab.async false
set_option linter.all false
set_option maxRecDepth 100000
set_option autoImplicit false
namespace Mo
open PySem PyProof.Rows
open L2 (Inv EP TP AP SP RelV Vals OpR UnR CallR VK R2 PE PT PW PA PO PS PSs Gl Vis Loc It Turn TI PI PG PGs TG TGs PTs Ends FnScope Room Env0 CE)

abbrev CX0 : L2.CXT := fun _ _ _ _ _ _ => False
abbrev XK0 : L2.XK := fun _ _ _ => False
abbrev cx (P : Program) (w : World) (K : PySem.W.Frag) (mg : Str → Option Value) (base : Heap) (N : List Str) (qual : Str) (scope : Scope) (f : Addr) (cdv : Value) (A : Around) (outer : List PySem.Env) (s : Shared) (H : L2.Hp) : L2.Cx :=
  L2.cxOf CX0 P w K mg base N qual scope f cdv A outer s H XK0
/-- a def by its body: its promise needs what stands around (guards) too -/
theorem fnG_of {P : Program} {w : World} {K : PySem.W.Frag} {mg : Str → Option Value} {base : Heap} {k : Nat} {f : Addr} {fd : FuncData} {x qual : Str} {params : Arguments} {body : List Stmt} {scope : Scope} {N ps : List Str} {sp : List L2.V → L2.Hp → VK → Prop}
    (Fd : L2.FunD K x qual params body scope [] [] f fd) (S : FnScope N ps scope) (hb : ∀ (s : Shared) (us : List Value), us.length = ps.length → BindsTo s fd ⟨us, []⟩ (ps.zip us)) (len : ∀ vs H Q, sp vs H Q → vs.length = ps.length)
    (hbody : ∀ (cdv : Value) (A : Around) (outer : List PySem.Env) (s : Shared) (H : L2.Hp) (vs : List L2.V) (Q : VK), Room k (A.deeper (envOfC qual scope s.heap.objs.size f cdv)) → A.guards = some [] → sp vs H Q →
      ∃ t, PSs (cx P w K mg base N qual scope f cdv A outer s H) body t ∧ t { nx := fun _ H' => Q .non H', rt := Q } (L2.start N vs) H) : FnG P w K mg base (k + 1) f sp := by
  refine ⟨Fd.kp, fun A outer s H us vs Q hr hg e0 r hsp => ?_⟩
  obtain ⟨oc, od, dV, kV, doc, pm, an, cdv, ct, osl, rfl, lk, hcd, _, _⟩ := Fd.ex
  have hl := len _ _ _ hsp
  have KX : K.In s.heap := e0.mod.kin.keeps fun b o e => (e0.bs b o e).1
  have lim : s.heap.NoLimit := e0.mod.nolimit.keeps fun b o e => (e0.bs b o e).1
  have hkind : ∀ y ∈ ps.zip us, scope.names.lookup y.1 = some .local ∨ (scope.names.lookup y.1 = some .cell ∧ ((cellsFrom (s.heap.objs.size + 1) scope.names []).lookup y.1).isSome = true) := fun ⟨n, v⟩ hy => by
    rcases S.par n (List.of_mem_zip hy).1 with q | q
    · exact .inl q
    · exact .inr ⟨q, PySem.W.cellsFrom_some _ _ _ (.inl q)⟩
  refine codeAny_call_function hr.depth (KX _ _ lk) rfl S.co S.gen rfl (PySem.W.codeRec_of KX hcd) (hb s us (by rw [← r.length]; exact hl) _ _ _ _ ?_)
  refine wpAny_newFunctionEnv_cells S.kind hkind fun env he s1 z => ?_
  subst he
  refine ⟨lim.keeps z.toInCall.keep, codeAny_func ?_⟩
  obtain ⟨t, ht, hq⟩ := hbody cdv A outer s H vs Q (hr.deeper _) hg hsp
  have I : Inv (cx P w K mg base N qual scope f cdv A outer s H) [] (L2.start N vs) H s1 := L2.inv_start S hr.hd e0 hl r z
  refine wpAny_mono (ht.run [] s1 (L2.start N vs) H _ I hq) (fun fl s' hs => ?_) fun e s' hs => wpAny_mono hs (fun _ _ z => z.elim) fun _ _ z => z.elim
  have fin : ∀ {σ' : L2.St} {H' : L2.Hp} {v : L2.V} {u : Value}, Inv (cx P w K mg base N qual scope f cdv A outer s H) [] σ' H' s' → RelV v u → Q v H' → CE outer P w H s Q u s' :=
    fun {σ' H' v u} J rv q => ⟨v, H', J.os, J.bare, J.base, J.hok, rv, q⟩
  cases fl with
  | ret u =>
    obtain ⟨v, σ', H', J, rv, q⟩ := hs
    exact ⟨u, rfl, fin J rv q⟩
  | next =>
    obtain ⟨σ', H', J, q⟩ := hs
    exact ⟨_, rfl, fin (v := L2.V.non) (u := Value.none) J rfl q⟩
  | brk =>
    obtain ⟨_, _, _, q⟩ := hs
    exact False.elim q
  | cont =>
    obtain ⟨_, _, _, q⟩ := hs
    exact False.elim q

structure Df where
  d : He.DefD
  N : List Str
  ps : List Str
  fn : Fn
structure Good (g : SE) (df : Df) : Prop where
  at_ : df.d.at_.2 = none
  fs : FnScope df.N df.ps df.d.scope
  bd : ∀ (kV doc pm : Value) (an : Option Addr) (cdv ct : Value) (us : List Value), us.length = df.ps.length → bindArgs (PySem.W.fnOf df.d.name df.d.qual df.d.params df.d.body df.d.scope .none kV doc pm an cdv ct) ⟨us, []⟩ = pure (df.ps.zip us)
  df0 : df.d.dfl = [] ∧ df.d.kwd = []
  code : match df.fn with
    | .code np nl body => np = df.ps.length ∧ nl = df.N.length ∧ stripSs g df.N df.d.scope 200 df.d.body = some body
    | .mk => df.ps.length = 1 ∧ df.N.length = 4 ∧ stripSs g df.N df.d.scope 200 df.d.body = some mkB
    | .next => df.ps.length = 2 ∧ df.N.length = 5 ∧ stripSs g df.N df.d.scope 200 df.d.body = some nextB
def faOf (K : PySem.W.Frag) (dfs : List Df) : Nat → Addr := fun i => match dfs[i]? with
  | some df => He.fAd K df.d.at_
  | none => 0
structure Wired (K : PySem.W.Frag) (mg : Str → Option Value) (dfs : List Df) (g : SE) (Γ : Pg) : Prop where
  fnsN : g.fns = dfs.map fun df => df.d.at_.1
  fnsG : Γ.fns = dfs.map (·.fn)
  at_ : ∀ (i : Nat) (df : Df), dfs[i]? = some df → mg df.d.at_.1 = some (.ref (He.fAd K df.d.at_)) ∧ (∃ fd, L2.FunD K df.d.name df.d.qual df.d.params df.d.body df.d.scope [] [] (He.fAd K df.d.at_) fd) ∧ Good g df
  cons : ∀ (i : Nat) (x : Str) (t : T), g.cons[i]? = some x → Γ.glob[i]? = some t → ∃ u v, mg x = some u ∧ RelV v u ∧ RepV ⟨K, faOf K dfs⟩ (fun _ => none) t v
  blt : ∀ x, g.blt.contains x = true → mg x = none
  rp : Γ.rp = rpT
  few : dfs.length ≤ 1000000
def lvl (K : PySem.W.Frag) (dfs : List Df) (P : Program) (w : World) (mg : Str → Option Value) (base : Heap) (g : SE) (Γ : Pg) (k : Nat) : Lv :=
  ⟨⟨K, faOf K dfs⟩, P, w, mg, base, g, ⟨wpCall Γ k, Γ.fns.length, fun i => Γ.glob[i]?, Γ.rp⟩, ccOf (cTab Γ.fns k), k⟩
theorem body_ok {V : Lv} (ok : V.Ok) {N ps : List Str} {scope : Scope} (fs : FnScope N ps scope) {qual : Str} {f : Addr} {cdv : Value} {A : Around} {outer : List PySem.Env} {s : Shared} {H : L2.Hp} (hr : Room V.lev (A.deeper (envOfC qual scope s.heap.objs.size f cdv))) (hg : A.guards = some [])
    {n : Nat} {body : List Stmt} {ms : List Sm} (hs : stripSs V.g N scope n body = some ms) : PSs (cx V.P V.w V.D.K V.mg V.base N qual scope f cdv A outer s H) body (LSs V ms) := by
  have G : GX V (cx V.P V.w V.D.K V.mg V.base N qual scope f cdv A outer s H) N scope := ⟨rfl, rfl, rfl, rfl, rfl, rfl, fs.nd, rfl, fs.kind, rfl, hg, hr, ok⟩
  have gt : GT (cx V.P V.w V.D.K V.mg V.base N qual scope f cdv A outer s H) scope := fun x hx => ⟨isL_of hx, .inl rfl⟩
  exact (ss_all G gt PassesOwn.leaving n).2 body ms hs
theorem start_rep {D : Wd} {F : L2.Hp} {ts : List T} {vs : List L2.V} {N : List Str} (r : RepVs D F ts vs) : EnvR D F (Mo.start N.length ts) (L2.start N vs) := by
  have hl := r.length
  refine ⟨by unfold Mo.start L2.start; simp [hl], fun i t e => ?_⟩
  unfold Mo.start at e
  by_cases hi : i < ts.length
  · rw [List.getElem?_append_left (by simpa using hi), List.getElem?_map] at e
    obtain ⟨u, hu, hu2⟩ := Option.map_eq_some_iff.mp e
    cases hu2
    obtain ⟨v, hv, rv⟩ := r.get hu
    refine ⟨v, ?_, rv⟩
    unfold L2.start
    rw [List.getElem?_append_left (by rw [List.length_map, ← hl]; exact hi), List.getElem?_map, hv]
    rfl
  · rw [List.getElem?_append_right (by simpa using hi), List.getElem?_replicate] at e
    split at e <;> cases e
theorem foldl_max (l : List Nat) : ∀ (m : Nat), m ≤ l.foldl max m ∧ ∀ x ∈ l, x ≤ l.foldl max m := by
  induction l with
  | nil => intro m; exact ⟨Nat.le_refl _, fun _ h => by cases h⟩
  | cons y l ih =>
    intro m
    rw [List.foldl_cons]
    obtain ⟨h1, h2⟩ := ih (max m y)
    refine ⟨by omega, fun x hx => ?_⟩
    rcases List.mem_cons.mp hx with rfl | hx
    · omega
    · exact h2 x hx
theorem ccOf_le {t : List Nat} (hl : t.length ≤ 1000000) (i : Nat) : ccOf t i ≤ ccOf t 1000000 := by
  have e : ccOf t 1000000 = t.foldl max 0 := by unfold ccOf; rw [List.getElem?_eq_none hl]
  rw [e]
  unfold ccOf
  split
  · rename_i c hc
    exact (foldl_max t 0).2 c (List.mem_of_getElem? hc)
  · exact Nat.le_refl _
theorem cTab_len (fs : List Fn) : ∀ k, (cTab fs k).length ≤ fs.length
  | 0 => Nat.zero_le _
  | k + 1 => by simp [cTab]
theorem noEx : (fun (x : Ex) (s : St) => ∃ s2, Sub s2 s ∧ noE x s2) = noE := by
  funext x s
  exact propext ⟨fun ⟨_, _, h⟩ => h, fun h => h.elim⟩
theorem cost_mk (cc : Nat → Nat) : cSs cc mkB = 0 := by simp [mkB, cSs, cS, cE, cEs, cL, cR]
theorem cost_next (cc : Nat → Nat) : cSs cc nextB = 0 := by simp [nextB, cSs, cS, cE, cEs, cL, cR]
theorem big_small : (BIG : Int) + 1 ≤ BK2 := by unfold BIG BK2; decide +kernel
section
variable {K : PySem.W.Frag} {mg : Str → Option Value} {dfs : List Df} {g : SE} {Γ : Pg} {P : Program} {W0 : World} {base : Heap}
theorem mk_ok {D : Wd} {k : Nat} {V : Lv} (ok : V.Ok) {B : Nat} {F H : L2.Hp} {st : St} {R : TK} {Q : VK} {vs : List L2.V} {N : List Str} (hN : N.length = 4) (r : RepVs V.D F [.scr] vs) (sm : Sim V.D B H F st) (hb : B ≤ BIG) (nd : ∀ b, st b ≠ some .deck) (w : ∀ p, st p = none → R (.ref p) (upd st p .deck)) (en : End V.D B F R Q) :
    LSs V mkB { nx := fun _ H' => Q .non H', rt := Q } (L2.start N vs) H := by
  have sr := start_rep (N := N) r
  rw [hN] at sr
  refine ⟨_, st, B, F, { nx := fun _ _ => False, rt := fun v st' => ∃ (p b c : Addr) (ns ms : List Int), v = .ref p ∧ st p = none ∧ st b = none ∧ st c = none ∧ b ≠ c ∧ b ≠ p ∧ c ≠ p ∧ (ms ≠ [] ∧ ns.length ≤ 1000) ∧ (∀ n ∈ ns, 0 ≤ n) ∧ (∀ m ∈ ms, 0 ≤ m) ∧ Sub st st' ∧ st' p = some (.lst [.ref b, .ref c, .int 0]) ∧ st' b = some (.lst (ns.map .int)) ∧ st' c = some (.lst (ms.map .int)), ex := noE }, sr, sm, by rw [cost_mk]; exact hb,
    mk_wp nd fun p b c st' ns ms h1 h2 h3 h4 h5 h6 h7 h8 h9 h10 h11 h12 h13 => ⟨p, b, c, ns, ms, rfl, h1, h2, h3, h4, h5, h6, h7, h8, h9, h10, h11, h12, h13⟩, rfl, fun _ _ z => z.elim, fun t st' wt v H' F' f sm' rv => ?_⟩
  obtain ⟨p, b, c, ns, ms, rfl, h1, h2, h3, h4, h5, h6, h7, h8, h9, h10, h11, h12, h13⟩ := wt
  rw [cost_mk] at sm'
  exact en _ _ (w p h1) v H' F' f (sm'.toDeck h11 h12 h13 h4 h7 (Int.le_refl _) (by omega) h8 h9 h10 h2 h3 nd h5 h6) rv
theorem next_ok {V : Lv} (ok : V.Ok) {B : Nat} {F H : L2.Hp} {st : St} {R : TK} {Q : VK} {vs : List L2.V} {N : List Str} {a : Nat} {m : Int} (hN : N.length = 5) (r : RepVs V.D F [.ref a, .int m] vs) (sm : Sim V.D B H F st) (hb : B + 1 ≤ BIG) (hd : st a = some .deck) (m1 : 1 ≤ m) (m2 : m < 2 ^ 1000)
    (w : ∀ r, 0 ≤ r → r < m → R (.int r) st) (en : End V.D (B + 1) F R Q) :
    LSs V nextB { nx := fun _ H' => Q .non H', rt := Q } (L2.start N vs) H := by
  have sr := start_rep (N := N) r
  rw [hN] at sr
  obtain ⟨b, c, k, ns, ms, s1, bc, hm, k0, kB, n0, m0, sb, sc⟩ := sm.ofDeck hd
  have ab : a ≠ b := fun z => by rw [z, sb] at hd; cases hd
  have ac : a ≠ c := fun z => by rw [z, sc] at hd; cases hd
  have O : Open a b c k ns ms (upd (upd (upd st a (.lst [.ref b, .ref c, .int k])) b (.lst (ns.map .int))) c (.lst (ms.map .int))) :=
    ⟨by rw [upd_ne ac, upd_ne ab, upd_same], by rw [upd_ne bc, upd_same], upd_same _ _ _, ab, ac, bc, hm.2⟩
  have kk : k + 1 ≤ BK2 := by have := big_small; omega
  have hst : ∀ x, x ≠ a → x ≠ b → x ≠ c → ∀ o, st x = some o → (upd (upd (upd st a (.lst [.ref b, .ref c, .int k])) b (.lst (ns.map .int))) c (.lst (ms.map .int))) x = some o := fun x x1 x2 x3 o h => by
    rw [upd_ne x3, upd_ne x2, upd_ne x1]; exact h
  generalize upd (upd (upd st a (.lst [.ref b, .ref c, .int k])) b (.lst (ns.map .int))) c (.lst (ms.map .int)) = st1 at s1 O hst
  refine ⟨_, st1, B, F, { nx := fun _ _ => False, rt := fun v st' => ∃ (r : Int) (ns' : List Int) (k' : Int), v = .int r ∧ 0 ≤ r ∧ r < m ∧ k ≤ k' ∧ k' ≤ k + 1 ∧ (∀ n ∈ ns', 0 ≤ n) ∧ Open a b c k' ns' ms st' ∧ Rest a b c st1 st', ex := noE }, sr, s1, by rw [cost_next]; omega,
    next_wp m1 m2 k0 kk hm.1 n0 m0 O fun r st' ns' k' h1 h2 h3 h4 h5 h6 h7 => ⟨r, ns', k', rfl, h1, h2, h3, h4, h5, h6, h7⟩, rfl, fun _ _ z => z.elim, fun t st' wt v H' F' f sm' rv => ?_⟩
  obtain ⟨r, ns', k', rfl, h1, h2, h3, h4, h5, h6, h7⟩ := wt
  rw [cost_next] at sm'
  have e : upd (fun x => if x = a then none else st x) a .deck = st := by
    funext x
    unfold upd
    by_cases hx : x = a
    · rw [if_pos hx, hx, hd]
    · rw [if_neg hx]
      show (if x = a then none else st x) = st x
      rw [if_neg hx]
  have q := (sm'.more (B' := B + 1) (by omega)).toDeck (st0 := fun x => if x = a then none else st x) h6.ha h6.hb h6.hc bc ⟨hm.1, h6.hl⟩ (by omega) (by omega) h5 m0 (fun x o hx => ?_) ?_ ?_ (fun x hx => ?_) (Ne.symm ab) (Ne.symm ac)
  · rw [e] at q
    exact en _ _ (w r h1 h2) v H' F' f q rv
  · have hx : (if x = a then none else st x) = some o := hx
    by_cases xa : x = a
    · rw [if_pos xa] at hx; cases hx
    · rw [if_neg xa] at hx
      have xb : x ≠ b := fun z => by rw [z, sb] at hx; cases hx
      have xc : x ≠ c := fun z => by rw [z, sc] at hx; cases hx
      exact h7 x xa xb xc o (hst x xa xb xc o hx)
  · show (if b = a then none else st b) = none
    rw [if_neg (Ne.symm ab)]; exact sb
  · show (if c = a then none else st c) = none
    rw [if_neg (Ne.symm ac)]; exact sc
  · have hx : (if x = a then none else st x) = some .deck := hx
    by_cases xa : x = a
    · rw [if_pos xa] at hx; cases hx
    · rw [if_neg xa] at hx; exact xa (sm.dk x a hx hd)
theorem lvl_ok (Wi : Wired K mg dfs g Γ) : ∀ k, (lvl K dfs P W0 mg base g Γ k).Ok := by
  have base_ok : ∀ k, (∀ i df, dfs[i]? = some df → FnG P W0 K mg base k (He.fAd K df.d.at_) (spG ⟨K, faOf K dfs⟩ (ccOf (cTab Γ.fns k) i) (wpCall Γ k i))) → (lvl K dfs P W0 mg base g Γ k).Ok := by
    intro k hf
    refine ⟨fun i x hx => ?_, ?_, fun i x t h1 h2 => Wi.cons i x t h1 h2, fun x hx => Wi.blt x hx, Wi.rp⟩
    · have hx : g.fns[i]? = some x := hx
      rw [Wi.fnsN, List.getElem?_map] at hx
      obtain ⟨df, hdf, rfl⟩ := Option.map_eq_some_iff.mp hx
      obtain ⟨h1, h2, h3⟩ := Wi.at_ i df hdf
      have efa : faOf K dfs i = He.fAd K df.d.at_ := by unfold faOf; rw [hdf]
      refine ⟨by show mg _ = some (.ref (faOf K dfs i)); rw [efa]; exact h1, ?_, ccOf_le (Nat.le_trans (cTab_len _ _) (by rw [Wi.fnsG, List.length_map]; exact Wi.few)) i⟩
      show FnG P W0 K mg base k (faOf K dfs i) _
      rw [efa]
      exact hf i df hdf
    · show Γ.fns.length = g.fns.length
      rw [Wi.fnsG, Wi.fnsN, List.length_map, List.length_map]
  intro k
  induction k with
  | zero =>
    refine base_ok 0 fun i df hdf => ?_
    obtain ⟨h1, ⟨fd, h2⟩, h3⟩ := Wi.at_ i df hdf
    refine ⟨h2.kp, fun A outer s H us vs Q _ _ _ _ hs => ?_⟩
    obtain ⟨ts, st, B, F, R, _, _, _, w, _⟩ := hs
    exact w.elim
  | succ k ih =>
    refine base_ok (k + 1) fun i df hdf => ?_
    obtain ⟨h1, ⟨fd, h2⟩, h3⟩ := Wi.at_ i df hdf
    have hfn : Γ.fns[i]? = some df.fn := by rw [Wi.fnsG, List.getElem?_map, hdf]; rfl
    have hcc : ccOf (cTab Γ.fns (k + 1)) i = cFn (ccOf (cTab Γ.fns k)) df.fn := by
      have e : (cTab Γ.fns (k + 1))[i]? = some (cFn (ccOf (cTab Γ.fns k)) df.fn) := by
        show (Γ.fns.map (cFn (ccOf (cTab Γ.fns k))))[i]? = _
        rw [List.getElem?_map, hfn]
        rfl
      show (match (cTab Γ.fns (k + 1))[i]? with | some c => c | none => _) = _
      rw [e]
    rw [hcc]
    have code := h3.code
    refine fnG_of h2 h3.fs (fun s us hl => h2.bindsA h3.bd s us hl) (fun vs H Q hs => ?_) fun cdv A outer s H vs Q hr hg hs => ?_
    · obtain ⟨ts, st, B, F, R, r, _, _, w, _⟩ := hs
      rw [← r.length]
      simp only [wpCall, hfn] at w
      cases hf : df.fn with
      | code np nl body =>
        rw [hf] at w code
        exact w.1.trans code.1
      | mk =>
        rw [hf] at w code
        rw [w.1, code.1]; rfl
      | next =>
        rw [hf] at w code
        obtain ⟨a, m, w, _⟩ := w
        rw [w, code.1]; rfl
    · obtain ⟨ts, st, B, F, R, r, sm, hb, w, en⟩ := hs
      simp only [wpCall, hfn] at w
      cases hf : df.fn with
      | code np nl body =>
        rw [hf] at w code hb en
        obtain ⟨c1, c2, c3⟩ := code
        refine ⟨LSs (lvl K dfs P W0 mg base g Γ k) body, body_ok (V := lvl K dfs P W0 mg base g Γ k) ih h3.fs hr hg c3, ?_⟩
        have sr := start_rep (N := df.N) r
        rw [← c2] at sr
        refine ⟨_, st, B, F, _, sr, sm, hb, w.2, noEx, fun env' st' w' σ' H' F' f s' r' => ?_, fun t st' w' v H' F' f s' r' => ?_⟩
        · obtain ⟨s2, sub, w'⟩ := w'
          exact en .non s2 w' .non H' F' f (s'.sub sub) rfl
        · obtain ⟨s2, sub, w'⟩ := w'
          exact en t s2 w' v H' F' f (s'.sub sub) r'
      | mk =>
        rw [hf] at w code hb en
        obtain ⟨c1, c2, c3⟩ := code
        obtain ⟨rfl, w1, w2⟩ := w
        exact ⟨_, body_ok (V := lvl K dfs P W0 mg base g Γ k) ih h3.fs hr hg c3, mk_ok (D := ⟨K, faOf K dfs⟩) (k := k) ih c2 r sm hb w1 w2 en⟩
      | next =>
        rw [hf] at w code hb en
        obtain ⟨c1, c2, c3⟩ := code
        obtain ⟨a, m, rfl, w1, w2, w3, w4⟩ := w
        exact ⟨_, body_ok (V := lvl K dfs P W0 mg base g Γ k) ih h3.fs hr hg c3, next_ok ih c2 r sm hb w1 w2 w3 w4 en⟩
end
end Mo

set_option Elab.async false
set_option linter.all false
set_option maxRecDepth 100000
set_option autoImplicit false
namespace Mo
open PySem PyProof.Rows
open L2 (RelV Vals VK Room Env0 CE Only)
/-- the law's own call, from the outermost caller -/
theorem law_callG {P : Program} {w : World} {K : PySem.W.Frag} {mg mb : Str → Option Value} {k : Nat} {fa a : Addr} {sp : List L2.V → L2.Hp → VK → Prop} {s₁ : Shared} {vs : List Value} {ns : List Int}
    (KX : K.In s₁.heap) (hns : s₁.heap.Ns mainGlobals mg) (hb : s₁.heap.Ns builtinsNs mb) (hbb : ∀ x : Str, x ≠ "__name__" → mb x = bootBuiltins x) (hlim : s₁.heap.NoLimit) (hg : s₁.gens = #[])
    (ha : s₁.heap.get? a = some { cls := .type "list", data := .seq vs.toArray }) (hi : IntsAre vs ns) (hl : ns.length ≤ sizeLine) (hr : Room k callerA)
    (F : ∀ base : Heap, K.In base → base.Ns mainGlobals mg → FnG P w K mg base k fa sp)
    (hsp : ∀ H : L2.Hp, Only H → L2.SqL K H a (ns.map L2.V.int) → sp [.ref a] H (fun v _ => v = .bl true)) :
    codeAny (model P w) callerA (.call (.ref fa) ⟨[.ref a], []⟩) (fun r s' => r = .ok (.ret (.bool true)) ∧ OldK s₁.heap s'.heap ∧ s'.os = s₁.os ∧ AllBare s'.gens) s₁ := by
  have rv := L2.vals_ints hi
  have core : ∀ H : L2.Hp, Only H → L2.SqL K H a (ns.map L2.V.int) → L2.HOk P w H s₁.heap → (∀ b, H b ≠ none → b = a) → (H a ≠ none → K.lookup a = none) →
      codeAny (model P w) callerA (.call (.ref fa) ⟨[.ref a], []⟩) (fun r s' => r = .ok (.ret (.bool true)) ∧ OldK s₁.heap s'.heap ∧ s'.os = s₁.os ∧ AllBare s'.gens) s₁ := by
    intro H hO hS hok hA hK
    have free : ∀ {b : Addr}, b ≠ a → H b = none := fun {b} hb => Classical.byContradiction fun z => hb (hA b z)
    have dictFree : ∀ {b : Addr} {o : Obj} {es : Array DictEntry} {ep : Nat}, s₁.heap.get? b = some o → o.data = .dict es ep → H b = none := fun {b o es ep} e d => free fun z => by
      subst z
      rw [ha] at e; cases e
      have d' : Data.seq vs.toArray _ = Data.dict es ep := d
      cases d'
    have ns' : ∀ {b : Addr} {m : Str → Option Value}, s₁.heap.Ns b m → (L2.hidT s₁.heap H).Ns b m := fun {b m} ⟨o, es, ep, e, d, r⟩ => ⟨o, es, ep, L2.hidT_get e (dictFree e d), d, r⟩
    have kb : K.In (L2.hidT s₁.heap H) := fun b o e => L2.hidT_get (KX b o e) (by
      by_cases z : b = a
      · subst z
        exact Classical.byContradiction fun q => by rw [hK q] at e; cases e
      · exact free z)
    have hM : L2.Mod K mg (L2.hidT s₁.heap H) := ⟨kb, ns' hns, ⟨mb, ns' hb, hbb⟩, let ⟨mc, h1, h2⟩ := hlim; ⟨mc, ns' h1, h2⟩⟩
    have e0 : Env0 P w K mg (L2.hidT s₁.heap H) callerA [] s₁ H := ⟨rfl, hM, fun b o e => L2.of_hidT e, Nat.le_of_eq (L2.hidT_size _ _), trivial, fun b hb => absurd (show b ∈ ([] : List Addr) from hb) (by simp), hok, .of_eq hg⟩
    refine codeAny_mono ((F _ kb (ns' hns)).run callerA [] s₁ H [.ref a] [.ref a] _ hr rfl e0 (.cons rfl .nil) (hsp H hO hS)) fun r s' h => ?_
    obtain ⟨u, rfl, v, H', os, bare, un, hok', r', q⟩ := h
    have q' : v = .bl true := q
    subst q'
    obtain rfl : u = Value.bool true := r'
    refine ⟨rfl, OldK.of_keep fun b o e => ?_, os, bare⟩
    cases q : H b with
    | none => exact un.keep b o e q (by intro z; exact absurd (show b ∈ ([] : List Addr) from z) (by simp)) (by simp)
    | some u =>
      rcases hO b with z | ⟨ob, xs, z⟩
      · rw [q] at z; cases z
      · have z2 := un.frzs b ob _ z
        obtain ⟨e1, _⟩ := hok b _ z
        obtain ⟨e2, _⟩ := hok' b _ z2
        rw [e] at e1; cases e1
        exact e2
  cases hk : K.lookup a with
  | some o =>
    have e := KX a o hk
    rw [ha] at e
    cases e
    exact core (fun _ => none) (fun _ => .inl rfl) (.inr ⟨_, vs.toArray, _, hk, rfl, rfl, rfl, by rw [List.size_toArray, hi.length]; exact hl, by simpa using rv⟩) (fun b u z => by have z' : (none : Option L2.HO) = some u := z; cases z') (fun b z => absurd rfl z) fun z => absurd rfl z
  | none =>
    refine core (fun b => if b = a then some (.frz { cls := .type "list", data := .seq vs.toArray } (.lst (ns.map L2.V.int))) else none) (fun b => ?_) (.inl (.inr ⟨{ cls := .type "list", data := .seq vs.toArray }, if_pos rfl⟩)) (fun b u z => ?_) (fun b z => ?_) fun _ => hk
    · by_cases hb : b = a
      · exact .inr ⟨_, _, if_pos hb⟩
      · exact .inl (if_neg hb)
    · by_cases hb : b = a
      · have z' := (if_pos hb).symm.trans z
        cases z'
        subst hb
        exact ⟨ha, by rw [List.length_map]; exact hl, vs, _, rv, ha⟩
      · have z' := (if_neg hb).symm.trans z
        cases z'
    · by_cases hb : b = a
      · exact hb
      · exact absurd (if_neg hb) z
theorem only_sqF {K : PySem.W.Frag} {H : L2.Hp} {a : Addr} {xs : List L2.V} (hO : Only H) (h : L2.SqL K H a xs) : SqF K H a xs := by
  rcases h with (h | h) | h
  · rcases hO a with z | ⟨o, ys, z⟩
    · rw [z] at h; cases h
    · rw [z] at h; cases h
  · exact .inl h
  · exact .inr h
/-- a law's end: what the law's def comes to by our own words -/
theorem walk_ofG {l : PySem.W.OpenLaw} {n k : Nat} {q : Program} {loose : List Str} {XP : (Str → Option Value) → Heap → Prop} {YP : World → Heap → Prop} {d : DefRec}
    (hn : l.most = some n) (hn2 : n ≤ 1000) (hdf : d.params.defaults = []) (hr : Room k callerA) {dfs : List Df} {g : SE} {Γ : Pg} {i : Nat} {df : Df} (hi : dfs[i]? = some df) (hname : df.d.at_.1 = d.name)
    (F : ∀ (w : World) (mg : Str → Option Value) (fa : Addr) (h : Heap), YP w h → h.Ns mainGlobals mg → mg d.name = some (.ref fa) → ∃ K : PySem.W.Frag, K.In h ∧ Wired K mg dfs g Γ)
    (hc : ccOf (cTab Γ.fns k) i ≤ 2 ^ 300000)
    (spec : wpCall Γ k i [.scr] (fun _ => none) noE fun v _ => v = .bl true) :
    PySem.W.WalkO q loose XP YP l.row.toRowW d [] (fun f vs => PySem.call f vs) := by
  refine Att.attach_call hn hdf fun w s₀ s₁ mg mb fa o pm cd doc a vs ns G Y ho hd hcd hmg hobj hints hlen hg => ?_
  obtain ⟨K, KX, Wi⟩ := F w mg fa _ Y G.T.g hmg
  obtain ⟨h1, ⟨fd, h2⟩, h3⟩ := Wi.at_ i df hi
  have efa : faOf K dfs i = fa := by
    have e1 : faOf K dfs i = He.fAd K df.d.at_ := by unfold faOf; rw [hi]
    rw [hname, hmg] at h1
    rw [e1]
    injection h1 with h1
    injection h1 with h1
    exact h1.symm
  refine law_callG (sp := spG ⟨K, faOf K dfs⟩ (ccOf (cTab Γ.fns k) i) (wpCall Γ k i)) KX G.T.g G.T.b G.T.builtins G.T.nolimit hg hobj hints (le_size (by omega)) hr (fun base _ _ => ?_) fun H hO hS => ?_
  · have ok := lvl_ok (P := l.prog) (W0 := w) (base := base) Wi k
    have hx : g.fns[i]? = some df.d.at_.1 := by rw [Wi.fnsN, List.getElem?_map, hi]; rfl
    have := (ok.fns i _ hx).2.1
    rw [← efa]
    exact this
  · refine ⟨[.scr], fun _ => none, 0, H, _, ⟨_, _, rfl, ⟨a, ns, rfl, only_sqF hO hS, by omega⟩, rfl⟩, ⟨fun _ _ e => e, fun _ _ e => (by cases e), fun _ _ e => (by cases e)⟩, ?_, spec, fun t st' wt v H' F' _ _ rv => ?_⟩
    · unfold BIG; omega
    · have wt : t = .bl true := wt
      subst wt
      exact rv
end Mo
namespace Mo
open PySem PyProof.Rows
/-- the head's facts -/
def fasOf (dfs : List Df) (g : SE) (more : List He.Fa) : List He.Fa := (dfs.map fun df => .glo df.d.at_.1) ++ (g.blt.map .free ++ more)
theorem wired_of {K : PySem.W.Frag} {h : Heap} {mg : Str → Option Value} {dfs : List Df} {g : SE} {Γ : Pg} {more : List He.Fa} (X : K.In h) (G : h.Ns mainGlobals mg) (c : He.SaysD (fasOf dfs g more) (dfs.map (·.d)) K)
    (hg : ∀ (i : Nat) (df : Df), dfs[i]? = some df → Good g df) (h1 : g.fns = dfs.map fun df => df.d.at_.1) (h2 : Γ.fns = dfs.map (·.fn)) (hr : Γ.rp = rpT) (few : dfs.length ≤ 1000000)
    (hc : ∀ (i : Nat) (x : Str) (t : T), g.cons[i]? = some x → Γ.glob[i]? = some t → ∃ u v, mg x = some u ∧ L2.RelV v u ∧ RepV ⟨K, faOf K dfs⟩ (fun _ => none) t v) : Wired K mg dfs g Γ := by
  have all : ∀ f ∈ fasOf dfs g more, He.Fa.ok K f = true := fun f hf => by
    obtain ⟨i, hi⟩ := List.getElem?_of_mem hf
    exact c.fact i hi
  refine ⟨h1, h2, fun i df hdf => ?_, hc, fun x hx => ?_, hr, few⟩
  · have gd := hg i df hdf
    refine ⟨?_, ?_, gd⟩
    · have e : He.fAd K df.d.at_ = He.ga K df.d.at_.1 := by
        unfold He.fAd
        rw [gd.at_]
      rw [e]
      exact He.glo_ok X G (all _ (List.mem_append_left _ (List.mem_map.mpr ⟨df, List.mem_of_getElem? hdf, rfl⟩)))
    · obtain ⟨fd, hF⟩ := c.def_ i (d := df.d) (by rw [List.getElem?_map, hdf]; rfl)
      have e1 : df.d.dvs K = [] := by unfold He.DefD.dvs; rw [gd.df0.1]; rfl
      have e2 : df.d.kws K = [] := by unfold He.DefD.kws; rw [gd.df0.2]; rfl
      rw [e1, e2] at hF
      exact ⟨fd, hF⟩
  · exact He.free_ok X G (all _ (List.mem_append_right _ (List.mem_append_left _ (List.mem_map.mpr ⟨x, by simpa using hx, rfl⟩))))
end Mo

set_option Elab.async false
set_option linter.all false
set_option maxRecDepth 100000
set_option autoImplicit false
namespace Mo
abbrev cxt (Γ : Pg) (k : Nat) : Cxt := ⟨wpCall Γ k, Γ.fns.length, fun i => Γ.glob[i]?, Γ.rp⟩
/-- a def by its body: what is wanted behind stays a variable -/
theorem call_code {Γ : Pg} {k f np nl : Nat} {body : List Sm} {vs : List T} {st : St} {E : EK} {Q : TK} (hf : Γ.fns[f]? = some (.code np nl body)) (hl : vs.length = np)
    (h : ∀ P : Po, (∀ e s, (∃ s2, Sub s2 s ∧ Q .non s2) → P.nx e s) → (∀ v s, (∃ s2, Sub s2 s ∧ Q v s2) → P.rt v s) → wpSs (cxt Γ k) body (start nl vs) st P) : wpCall Γ (k + 1) f vs st E Q := by
  simp only [wpCall, hf]
  exact ⟨hl, h _ (fun _ _ z => z) fun _ _ z => z⟩
theorem call_next {Γ : Pg} {k f a : Nat} {m : Int} {st : St} {E : EK} {Q : TK} (hf : Γ.fns[f]? = some .next) (hd : st a = some .deck) (m1 : 1 ≤ m) (m2 : m < 2 ^ 1000) (q : ∀ r, 0 ≤ r → r < m → Q (.int r) st) : wpCall Γ (k + 1) f [.ref a, .int m] st E Q := by
  simp only [wpCall, hf]
  exact ⟨a, m, rfl, hd, m1, m2, q⟩
theorem call_mk {Γ : Pg} {k f : Nat} {st : St} {E : EK} {Q : TK} (hf : Γ.fns[f]? = some .mk) (nd : ∀ b, st b ≠ some .deck) (q : ∀ p, st p = none → Q (.ref p) (upd st p .deck)) : wpCall Γ (k + 1) f [.scr] st E Q := by
  simp only [wpCall, hf]
  exact ⟨trivial, nd, q⟩
/-! calls by their number -/
section
variable {Γ : Pg} {k f : Nat} {env : Env} {st : St} {E : EK} {es : List X}
theorem e_callc {Q : TK} (h : wpEs (cxt Γ k) es env st E fun vs s1 => wpCall Γ k f vs s1 E Q) : wpE (cxt Γ k) (.call f es) env st E Q := by simp only [wpE]; exact h
theorem t_callc {Q : Bool → St → Prop} (h : wpEs (cxt Γ k) es env st E fun vs s1 => wpCall Γ k f vs s1 E fun x s1 => truSem x s1 fun t => Q t s1) : wpT (cxt Γ k) (.call f es) env st E Q := by simp only [wpT, wpE]; exact h
end
/-! sequences -/
section
variable {C : Cxt} {env : Env} {st : St} {E : EK} {es : List X} {e : X}
theorem l_ex {Q : LK} (h : wpE C e env st E fun v s1 => seqSem v s1 fun ts chk => ts.length ≤ SZ → Q ts chk s1) : wpL C (.ex e) env st E Q := by simp only [wpL]; exact h
theorem l_lst {Q : LK} (h : wpEs C es env st E fun vs s1 => Q vs (fun _ => True) s1) : wpL C (.lst es) env st E Q := by simp only [wpL]; exact h
theorem l_comp {Q : LK} {elt : X} {ifs : List X} {tg : Tg} {own : List Nat} {src : Sr} (h : wpR C src env st E fun ts chk s1 =>
      itl chk (fun x acc s k => asgT tg x s (wipe env own) fun e2 => wpIf C ifs e2 s fun b s2 =>
        if b = true then wpE C elt e2 s2 noE fun v s3 => acc.length < SZ ∧ k (acc ++ [v]) s3 else k acc s2) ts [] s1 fun acc s2 => Q acc (fun _ => True) s2) : wpL C (.comp elt ifs tg own src) env st E Q := by simp only [wpL]; exact h
theorem q_tup {ts : List T} {Q : List T → (St → Prop) → Prop} (h : Q ts fun _ => True) : seqSem (.tup ts) st Q := h
theorem q_ref {p : Nat} {ts : List T} {Q : List T → (St → Prop) → Prop} (e : st p = some (.lst ts)) (h : Q ts fun s => s p = some (.lst ts)) : seqSem (.ref p) st Q := ⟨ts, e, h⟩
theorem a_name {i : Nat} {v : T} {Q : Env → Prop} (h : Q (env.set i (some v))) : asgT (.name i) v st env Q := by simp only [asgT]; exact h
theorem a_tup {gs : List Tg} {ts : List T} {Q : Env → Prop} (h : asgTs gs ts st env Q) : asgT (.tup gs) (.tup ts) st env Q := by simp only [asgT]; exact h
theorem as_nil {Q : Env → Prop} (h : Q env) : asgTs [] [] st env Q := by simp only [asgTs]; exact h
theorem as_cons {g : Tg} {gs : List Tg} {t : T} {ts : List T} {Q : Env → Prop} (h : asgT g t st env fun e => asgTs gs ts st e Q) : asgTs (g :: gs) (t :: ts) st env Q := by simp only [asgTs]; exact h
theorem c_le {i j : Int} {Q : Bool → Prop} (h : Q (decide (i ≤ j))) : cmpSem .le (.int i) (.int j) st Q := h
theorem c_lt {i j : Int} {Q : Bool → Prop} (h : Q (decide (i < j))) : cmpSem .lt (.int i) (.int j) st Q := h
theorem c_ge {i j : Int} {Q : Bool → Prop} (h : Q (decide (j ≤ i))) : cmpSem .ge (.int i) (.int j) st Q := h
theorem c_gt {i j : Int} {Q : Bool → Prop} (h : Q (decide (j < i))) : cmpSem .gt (.int i) (.int j) st Q := h
theorem c_eq {i j : Int} {Q : Bool → Prop} (h : Q (i == j)) : cmpSem .eq (.int i) (.int j) st Q := ⟨_, _, .int i, .int j, rfl, rfl, h⟩
theorem c_ne {i j : Int} {Q : Bool → Prop} (h : Q (!(i == j))) : cmpSem .ne (.int i) (.int j) st Q := ⟨_, _, .int i, .int j, rfl, rfl, h⟩
theorem f_tup {ts : List T} {Q : TK} (h : Q (.tup ts) st) : liSem .tuple ts st Q := h
theorem f_len {ts : List T} {Q : TK} (h : Q (.int ts.length) st) : liSem .len ts st Q := h
theorem p_forS {P : Po} {g : Tg} {r : Sr} {aa : List Sm} (h : wpR C r env st P.ex fun ts chk s1 => itf chk (fun x e s k => asgT g x s e fun e2 => wpSs C aa e2 s { nx := k, rt := P.rt, ex := P.ex }) ts env s1 P.nx) : wpS C (.loop g r aa) env st P := p_for h
theorem r_sq {l : L} {Q : LK} (h : wpL C l env st E Q) : wpR C (.seq l) env st E Q := by simp only [wpR]; exact h
theorem r_rng {Q : LK} (h : wpEs C es env st E fun vs s1 => rangeSem vs fun ts => Q ts (fun _ => True) s1) : wpR C (.range es) env st E Q := by simp only [wpR]; exact h
theorem r_enm {l : L} {Q : LK} (h : wpL C l env st E fun ts chk s1 => Q (enumT ts) chk s1) : wpR C (.enum l) env st E Q := by simp only [wpR]; exact h
theorem r_zp {ls : List L} {Q : LK} (h : wpLs C ls env st E fun tss chk s1 => chk s1 ∧ Q (zipT tss) chk s1) : wpR C (.zip ls) env st E Q := by simp only [wpR]; exact h
theorem ls_nil {Q : List (List T) → (St → Prop) → St → Prop} (h : Q [] (fun _ => True) st) : wpLs C [] env st E Q := by simp only [wpLs]; exact h
theorem ls_cons {l : L} {ls : List L} {Q : List (List T) → (St → Prop) → St → Prop} (h : wpL C l env st E fun ts chk s1 => wpLs C ls env s1 E fun tss chk2 s2 => Q (ts :: tss) (fun s => chk s ∧ chk2 s) s2) : wpLs C (l :: ls) env st E Q := by simp only [wpLs]; exact h
theorem if_nil {Q : Bool → St → Prop} (h : Q true st) : wpIf C [] env st Q := by simp only [wpIf]; exact h
theorem if_one {Q : Bool → St → Prop} (h : wpT C e env st noE Q) : wpIf C [e] env st Q := by
  have e : (fun (t : Bool) (s1 : St) => if t = true then Q true s1 else Q false s1) = Q := by
    funext t s1
    cases t <;> simp
  simp only [wpIf]
  rw [e]
  exact h
/-! kinds, truths -/
def isiB (x : T) (ty : Ty) : Option Bool := match x with
  | .non => some false
  | .bl _ => some (match ty with | .int | .bool => true | _ => false)
  | .int _ => some (match ty with | .int => true | _ => false)
  | .str _ => some (match ty with | .str => true | _ => false)
  | .tup _ => some (match ty with | .tuple => true | _ => false)
  | _ => none
theorem y_is {x : T} {ty : Ty} {b : Bool} {Q : Bool → Prop} (e : isiB x ty = some b) (h : Q b) : isiSem x ty st Q := by
  cases x <;> simp [isiB] at e <;> (subst e; exact h)
theorem u_bl {b : Bool} {Q : Bool → Prop} (h : Q b) : truSem (.bl b) st Q := h
theorem u_int {j : Int} {Q : Bool → Prop} (h : Q (j != 0)) : truSem (.int j) st Q := h
theorem ite_t {b : Bool} {A B : Prop} (e : b = true) (h : A) : if b = true then A else B := by rw [if_pos e]; exact h
theorem ite_f {b : Bool} {A B : Prop} (e : b = false) (h : B) : if b = true then A else B := by rw [if_neg (by rw [e]; decide)]; exact h
theorem c_is {x : T} {Q : Bool → Prop} (h : Q (isNon x)) : cmpSem .is x .non st Q := ⟨rfl, h⟩
theorem c_isnot {x : T} {Q : Bool → Prop} (h : Q (!isNon x)) : cmpSem .isnot x .non st Q := ⟨rfl, h⟩
theorem eqT_refl : ∀ t : T, pureT t = true → eqT t t = true := by
  have both : ∀ n, (∀ t, depT t ≤ n → pureT t = true → eqT t t = true) ∧ ∀ ts, depTs ts ≤ n → pureTs ts = true → eqTs ts ts = true := by
    intro n
    induction n with
    | zero =>
      have h1 : ∀ t, depT t ≤ 0 → pureT t = true → eqT t t = true := fun t hd hp => by
        cases t <;> first | rfl | (simp [depT] at hd; done) | (simp [pureT] at hp; done) | simp [eqT]
      refine ⟨h1, fun ts => ?_⟩
      induction ts with
      | nil => intro _ _; rfl
      | cons t ts ih =>
        intro hd hp
        simp only [depTs] at hd
        simp only [pureTs, Bool.and_eq_true] at hp
        simp only [eqTs, h1 t (by omega) hp.1, ih (by omega) hp.2, Bool.and_self]
    | succ n ihn =>
      have h1 : ∀ t, depT t ≤ n + 1 → pureT t = true → eqT t t = true := fun t hd hp => by
        cases t with
        | tup ts =>
          simp only [depT] at hd
          simp only [pureT] at hp
          simp only [eqT]
          exact ihn.2 ts (by omega) hp
        | lst ts => simp [pureT] at hp
        | dct _ _ => simp [pureT] at hp
        | ref _ => simp [pureT] at hp
        | fn _ => simp [pureT] at hp
        | scr => simp [pureT] at hp
        | _ => simp [eqT]
      refine ⟨h1, fun ts => ?_⟩
      induction ts with
      | nil => intro _ _; rfl
      | cons t ts ih =>
        intro hd hp
        simp only [depTs] at hd
        simp only [pureTs, Bool.and_eq_true] at hp
        simp only [eqTs, h1 t (by omega) hp.1, ih (by omega) hp.2, Bool.and_self]
  exact fun t => (both _).1 t (Nat.le_refl _)
/-- a thing equals itself -/
theorem c_self {t : T} {Q : Bool → Prop} (hp : pureT t = true) (ok : okD t = true) (h : Q true) : cmpSem .eq t t st Q :=
  ⟨t, t, .pure st t hp, .pure st t hp, ok, ok, by rw [eqT_refl t hp]; exact h⟩
end
end Mo

set_option Elab.async false
set_option linter.all false
set_option maxRecDepth 100000
set_option autoImplicit false
/-! MoEv: runs told by values: lists are values, whoever changes one alone has it. -/
namespace Mo
open PySem PyProof.Rows

/-- what a run comes to: a value, a draw, something raised, or nothing told -/
inductive Tr (α : Type) where
  | ret (a : α)
  | draw (m : Int) (k : Int → Tr α)
  | exc (x : Ex)
  | fail
def drawOk (m : Int) : Prop := 1 ≤ m ∧ m < 2 ^ 1000
namespace Tr
variable {α β γ : Type}
def bind : Tr α → (α → Tr β) → Tr β
  | .ret a, f => f a
  | .draw m k, f => .draw m fun r => (k r).bind f
  | .exc x, _ => .exc x
  | .fail, _ => .fail
def all (E : Ex → Prop) (P : α → Prop) : Tr α → Prop
  | .ret a => P a
  | .draw m k => drawOk m ∧ ∀ r, 0 ≤ r → r < m → (k r).all E P
  | .exc x => E x
  | .fail => False
def noexc : Tr α → Tr α
  | .ret a => .ret a
  | .draw m k => .draw m fun r => (k r).noexc
  | .exc _ => .fail
  | .fail => .fail
def ofO : Option α → Tr α
  | some a => .ret a
  | none => .fail
end Tr
section
variable {α β γ : Type}
@[simp] theorem tr_ret (a : α) (f : α → Tr β) : (Tr.ret a).bind f = f a := rfl
@[simp] theorem tr_draw (m : Int) (k : Int → Tr α) (f : α → Tr β) : (Tr.draw m k).bind f = .draw m fun r => (k r).bind f := rfl
@[simp] theorem tr_exc (x : Ex) (f : α → Tr β) : (Tr.exc x : Tr α).bind f = .exc x := rfl
@[simp] theorem tr_fail (f : α → Tr β) : (Tr.fail : Tr α).bind f = .fail := rfl
@[simp] theorem tr_some (a : α) : Tr.ofO (some a) = .ret a := rfl
@[simp] theorem tr_none : Tr.ofO (none : Option α) = .fail := rfl
@[simp] theorem tr_noexc (a : α) : (Tr.ret a).noexc = .ret a := rfl
@[simp] theorem tr_noexcF : (Tr.fail : Tr α).noexc = .fail := rfl
@[simp] theorem tr_noexcD (m : Int) (k : Int → Tr α) : (Tr.draw m k).noexc = .draw m fun r => (k r).noexc := rfl
@[simp] theorem all_ret {E : Ex → Prop} {P : α → Prop} (a : α) : (Tr.ret a).all E P ↔ P a := Iff.rfl
@[simp] theorem all_draw {E : Ex → Prop} {P : α → Prop} (m : Int) (k : Int → Tr α) : (Tr.draw m k).all E P ↔ drawOk m ∧ ∀ r, 0 ≤ r → r < m → (k r).all E P := Iff.rfl
@[simp] theorem all_exc {E : Ex → Prop} {P : α → Prop} (x : Ex) : (Tr.exc x : Tr α).all E P ↔ E x := Iff.rfl
@[simp] theorem all_fail {E : Ex → Prop} {P : α → Prop} : (Tr.fail : Tr α).all E P ↔ False := Iff.rfl
theorem all_bind {E : Ex → Prop} {P : β → Prop} {f : α → Tr β} : ∀ t : Tr α, (t.bind f).all E P ↔ t.all E fun a => (f a).all E P
  | .ret _ => Iff.rfl
  | .draw m k => and_congr_right fun _ => forall_congr' fun r => forall_congr' fun _ => forall_congr' fun _ => all_bind (k r)
  | .exc _ => Iff.rfl
  | .fail => Iff.rfl
theorem all_mono {E : Ex → Prop} {P Q : α → Prop} (h : ∀ a, P a → Q a) : ∀ t : Tr α, t.all E P → t.all E Q
  | .ret a, p => h a p
  | .draw m k, p => ⟨p.1, fun r r0 r1 => all_mono h (k r) (p.2 r r0 r1)⟩
  | .exc _, p => p
  | .fail, p => p
theorem all_noexc {E : Ex → Prop} {P : α → Prop} : ∀ t : Tr α, t.noexc.all E P → t.all (fun _ => False) P
  | .ret a, p => p
  | .draw m k, p => ⟨p.1, fun r r0 r1 => all_noexc (k r) (p.2 r r0 r1)⟩
  | .exc _, p => p
  | .fail, p => p
theorem bind_assoc {f : α → Tr β} {g : β → Tr γ} : ∀ t : Tr α, (t.bind f).bind g = t.bind fun a => (f a).bind g
  | .ret _ => rfl
  | .draw m k => by simp only [Tr.bind, bind_assoc]
  | .exc _ => rfl
  | .fail => rfl
theorem all_ofO {E : Ex → Prop} {P : α → Prop} {o : Option α} (h : (Tr.ofO o).all E P) : ∃ a, o = some a ∧ P a := by
  cases o with
  | none => exact h.elim
  | some a => exact ⟨a, rfl, h⟩
end

/-! values -/
def MB : Nat := 2 ^ 2000
def mulOk (i j : Int) : Prop := i.natAbs < MB ∧ j.natAbs < MB
instance (i j : Int) : Decidable (mulOk i j) := inferInstanceAs (Decidable (_ ∧ _))
def divOk (j : Int) : Prop := 0 < j ∧ j < 2 ^ 1000
instance (j : Int) : Decidable (divOk j) := inferInstanceAs (Decidable (_ ∧ _))
def strOk (s : Sg) : Prop := s.all (fun c => decide (c < 1114112)) = true ∧ s.length ≤ SZ
instance (s : Sg) : Decidable (strOk s) := inferInstanceAs (Decidable (_ ∧ _))
def okE (d : T) : Bool := decide (depT d ≤ 60) && isD d
def okEs (ds : List T) : Bool := decide (depTs ds ≤ 60) && isDs ds
mutual
/-- its texts are texts -/
def strsT : T → Bool
  | .str s => decide (strOk s)
  | .tup ts => strsTs ts
  | _ => true
def strsTs : List T → Bool
  | [] => true
  | t :: ts => strsT t && strsTs ts
end

def binD (o : Op) (x y : T) : Option T :=
  match o, x, y with
  | .add, .int i, .int j => some (.int (i + j))
  | .sub, .int i, .int j => some (.int (i - j))
  | .mul, .int i, .int j => if mulOk i j then some (.int (i * j)) else none
  | .fdiv, .int i, .int j => if divOk j then some (.int (i / j)) else none
  | .mod, .int i, .int j => if 0 < j then some (.int (i % j)) else none
  | .pow, .int i, .int j => if 0 ≤ j ∧ j ≤ 1000 ∧ i.natAbs < 2 ^ 64 then some (.int (i ^ j.toNat)) else none
  | .add, .str a, .str b => if a.length + b.length ≤ SZ then some (.str (a ++ b)) else none
  | .add, .tup a, .tup b => if a.length + b.length ≤ SZ then some (.tup (a ++ b)) else none
  | .add, .lst a, .lst b => if a.length + b.length ≤ SZ then some (.lst (a ++ b)) else none
  | .mul, .tup a, .int j => if a.isEmpty = false ∧ 1 ≤ j ∧ j ≤ 1000 ∧ a.length ≤ 1000 then some (.tup (rep j.toNat a)) else none
  | .mul, .lst a, .int j => if 0 ≤ j ∧ j ≤ 1000 ∧ a.length ≤ 1000 then some (.lst (rep j.toNat a)) else none
  | _, _, _ => none
def truD : T → Option Bool
  | .non => some false
  | .bl b => some b
  | .int i => some (i != 0)
  | .str s => some (!s.isEmpty)
  | .tup ts => some (!ts.isEmpty)
  | .lst ts => some (!ts.isEmpty)
  | .dct ks _ => some (!ks.isEmpty)
  | _ => none
def eqD (x y : T) : Option Bool :=
  match x, y with
  | .int i, .int j => some (i == j)
  | .str a, .str b => some (a == b)
  | .bl a, .bl b => some (a == b)
  | x, y => if okE x = true ∧ okE y = true then some (eqT x y) else none
def inD (x y : T) : Option Bool :=
  match y with
  | .tup ts => if okE x = true ∧ okEs ts = true then some (ts.any fun e => eqT e x) else none
  | .lst ts => if okE x = true ∧ okEs ts = true then some (ts.any fun e => eqT e x) else none
  | .dct ks _ => if pureT x = true then some (ks.any fun k => eqT k x) else none
  | .str s => match x with
    | .str [c] => some (decide (c ∈ s))
    | _ => none
  | _ => none
def ltD (x y : T) : Option Bool :=
  match x, y with
  | .int i, .int j => some (decide (i < j))
  | .str i, .str j => some (decide (i < j))
  | .tup a, .tup b => if (pureTs a = true ∧ pureTs b = true) ∧ alks a b = true ∧ depTs a ≤ 60 ∧ depTs b ≤ 60 then some (ltTs a b) else none
  | _, _ => none
def leD (x y : T) : Option Bool :=
  match x, y with
  | .int i, .int j => some (decide (i ≤ j))
  | .str i, .str j => some (!decide (j < i))
  | _, _ => none
def gtD (x y : T) : Option Bool :=
  match x, y with
  | .int i, .int j => some (decide (j < i))
  | _, _ => none
def geD (x y : T) : Option Bool :=
  match x, y with
  | .int i, .int j => some (decide (j ≤ i))
  | _, _ => none
def cmpD (o : Co) (x y : T) : Option Bool :=
  match o with
  | .eq => eqD x y
  | .ne => (eqD x y).map (!·)
  | .lt => ltD x y
  | .gt => gtD x y
  | .le => leD x y
  | .ge => geD x y
  | .is => match y with
    | .non => some (isNon x)
    | _ => none
  | .isnot => match y with
    | .non => some (!isNon x)
    | _ => none
  | .isin => inD x y
  | .notin => (inD x y).map (!·)
def lookD (k : T) : List T → List T → Option T
  | q :: ks, v :: vs => if eqT q k then some v else lookD k ks vs
  | _, _ => none
def putD (k v : T) : List T → List T → List T × List T
  | q :: ks, w :: vs => if eqT q k then (q :: ks, v :: vs) else let r := putD k v ks vs; (q :: r.1, w :: r.2)
  | _, _ => ([k], [v])
def idxD (x i : T) : Option T :=
  match x, i with
  | .tup ts, .int k => atT ts k
  | .str s, .int k => (atT s k).map fun c => .str [c]
  | .lst ts, .int k => atT ts k
  | .dct ks vs, k => if pureT k = true then lookD k ks vs else none
  | _, _ => none
def slcD (x : T) (lo hi : Option Int) : Option T :=
  match x with
  | .tup ts => some (.tup (cutT ts lo hi))
  | .str s => some (.str (cutT s lo hi))
  | .lst ts => some (.lst (cutT ts lo hi))
  | _ => none
def revD : T → Option T
  | .lst ts => some (.lst ts.reverse)
  | _ => none
def isiD (x : T) (ty : Ty) : Option Bool :=
  match x with
  | .non => some false
  | .bl _ => some (match ty with | .int | .bool => true | _ => false)
  | .int _ => some (match ty with | .int => true | _ => false)
  | .str _ => some (match ty with | .str => true | _ => false)
  | .tup _ => some (match ty with | .tuple => true | _ => false)
  | .lst _ => some false
  | .dct _ _ => some false
  | _ => none
def lenD : T → Option Nat
  | .str s => some s.length
  | .tup ts => some ts.length
  | .lst ts => some ts.length
  | .dct ks _ => some ks.length
  | _ => none
def biD (rp : T → Sg) (f : Bi) (vs : List T) : Option T :=
  match f, vs with
  | .len, [x] => (lenD x).map fun n : Nat => .int (n : Int)
  | .abs, [.int i] => some (.int (if i < 0 then -i else i))
  | .int, [.int i] => some (.int i)
  | .int, [.bl b] => some (.int (if b then 1 else 0))
  | .repr, [x] => if okE x = true ∧ smlT x = true ∧ szT x ≤ SZ then some (.str (rp x)) else none
  | .max2, [.int i, .int j] => some (.int (if j > i then j else i))
  | .min2, [.int i, .int j] => some (.int (if j < i then j else i))
  | .divmod, [.int i, .int j] => if 0 < j ∧ j < 1073741824 then some (.tup [.int (i / j), .int (i % j)]) else none
  | _, _ => none
def intsOf : List T → Option (List Int)
  | [] => some []
  | .int i :: r => (intsOf r).map (i :: ·)
  | _ => none
def blsOf : List T → Option (List Bool)
  | [] => some []
  | .bl i :: r => (blsOf r).map (i :: ·)
  | _ => none
def strsOf : List T → Option (List Sg)
  | [] => some []
  | .str i :: r => (strsOf r).map (i :: ·)
  | _ => none
def maxI : List Int → Option Int
  | [] => none
  | n :: ns => some (ns.foldl max n)
def minI : List Int → Option Int
  | [] => none
  | n :: ns => some (ns.foldl min n)
def liD (f : Li) (ts : List T) : Option T :=
  match f with
  | .tuple => some (.tup ts)
  | .list => some (.lst ts)
  | .sum => (intsOf ts).map fun ns => .int ns.sum
  | .all => (blsOf ts).map fun bs => .bl (bs.all id)
  | .any => (blsOf ts).map fun bs => .bl (bs.any id)
  | .len => some (.int ts.length)
  | .max => (intsOf ts).bind fun ns => (maxI ns).map .int
  | .min => (intsOf ts).bind fun ns => (minI ns).map .int
  | .dict => none
def joinD (x : T) (ts : List T) : Option T :=
  match x with
  | .str sep => (strsOf ts).bind fun ss => if (ss.map (·.length)).sum + ss.length * sep.length ≤ SZ then some (.str (List.intercalate sep ss)) else none
  | _ => none
def meD (m : Me) (o : T) (vs : List T) : Option T :=
  none
def seqD : T → Option (List T)
  | .tup ts => some ts
  | .lst ts => some ts
  | _ => none
def srtD (ts : List T) : Option (List T) := if (pureTs ts = true ∧ depTs ts ≤ 60) ∧ (ts.all fun x => ts.all fun y => alk x y) = true ∧ (ts.all isTup1 = true ∨ ts.all noTup = true) then some (msort ts) else none
abbrev DE := List (Option T)
mutual
def asgD : Tg → T → DE → Option DE
  | .name i, v, env => some (env.set i (some v))
  | .tup gs, v, env => match v with
    | .tup ts => asgDs gs ts env
    | .lst ts => asgDs gs ts env
    | _ => none
def asgDs : List Tg → List T → DE → Option DE
  | [], [], env => some env
  | g :: gs, t :: ts, env => match asgD g t env with
    | some e => asgDs gs ts e
    | none => none
  | _, _, _ => none
end
def rangeD (vs : List T) : Option (List T) :=
  match vs with
  | [.int n] => if -1000000 ≤ n ∧ n ≤ 16777216 then some (rangeT 0 n) else none
  | [.int m, .int n] => if -1000000 ≤ m ∧ m ≤ 16777216 ∧ -1000000 ≤ n ∧ n ≤ 16777216 ∧ n - m ≤ 16777216 then some (rangeT m n) else none
  | _ => none
def zipD (tss : List (List T)) : Option (List T) :=
  match tss with
  | [_, _] => some (zipT tss)
  | [_, _, _] => some (zipT tss)
  | _ => none

def intD : T → Option Int
  | .int i => some i
  | _ => none
def strD : T → Option Sg
  | .str i => some i
  | _ => none
def lstD : T → Option (List T)
  | .lst i => some i
  | _ => none
/-! expressions -/
structure Ec where
  call : Nat → List T → Tr (Bool × T)
  nf : Nat
  glob : Nat → Option T
  rp : T → Sg
def consO : Option T → List T → List T
  | some y, ys => y :: ys
  | none, ys => ys
/-- a comprehension's things, one by one -/
def evCo (f : T → Tr (Option T)) : List T → Tr (List T)
  | [] => .ret []
  | x :: xs => (f x).bind fun o => (evCo f xs).bind fun ys => .ret (consO o ys)
mutual
def evE (C : Ec) : X → DE → Tr T
  | .var i, env => Tr.ofO (env.getD i none)
  | .int i, _ => .ret (.int i)
  | .str s, _ => if strOk s then .ret (.str s) else .fail
  | .bl b, _ => .ret (.bl b)
  | .non, _ => .ret .non
  | .glob i, _ => match C.glob i with
    | some v => if pureT v = true ∧ strsT v = true then .ret v else .fail
    | none => .fail
  | .fnv i, _ => .ret (.fn i)
  | .bin o a b, env => (evE C a env).bind fun x => (evE C b env).bind fun y => Tr.ofO (binD o x y)
  | .neg a, env => (evE C a env).bind fun x => (Tr.ofO (intD x)).bind fun i => .ret (.int (-i))
  | .not a, env => (evE C a env).bind fun x => (Tr.ofO (truD x)).bind fun b => .ret (.bl (!b))
  | .and a b, env => (evE C a env).bind fun x => (Tr.ofO (truD x)).bind fun t => if t = true then evE C b env else .ret x
  | .or a b, env => (evE C a env).bind fun x => (Tr.ofO (truD x)).bind fun t => if t = true then .ret x else evE C b env
  | .ite c a b, env => (evT C c env).bind fun t => if t = true then evE C a env else evE C b env
  | .cmp o a b, env => (evE C a env).bind fun x => (evE C b env).bind fun y => (Tr.ofO (cmpD o x y)).bind fun t => .ret (.bl t)
  | .chain o p a b c, env => (evE C a env).bind fun x => (evE C b env).bind fun y => (Tr.ofO (cmpD o x y)).bind fun t =>
      if t = true then (evE C c env).bind fun z => (Tr.ofO (cmpD p y z)).bind fun u => .ret (.bl u) else .ret (.bl false)
  | .tup es, env => (evEs C es env).bind fun vs => .ret (.tup vs)
  | .new l, env => (evL C l env).bind fun ts => .ret (.lst ts)
  | .idx a i, env => (evE C a env).bind fun x => (evE C i env).bind fun y => Tr.ofO (idxD x y)
  | .slc a lo hi, env => (evE C a env).bind fun x => (evO C lo env).bind fun l => (evO C hi env).bind fun h => Tr.ofO (slcD x l h)
  | .rev a, env => (evE C a env).bind fun x => Tr.ofO (revD x)
  | .call f es, env => (evEs C es env).bind fun vs => (C.call f vs).bind fun r => .ret r.2
  | .callv i es, env => match env.getD i none with
    | some (.fn f) => if f < C.nf then (evEs C es env).bind fun vs => (C.call f vs).bind fun r => .ret r.2 else .fail
    | _ => .fail
  | .bi f es, env => (evEs C es env).bind fun vs => Tr.ofO (biD C.rp f vs)
  | .isi a ty, env => (evE C a env).bind fun x => (Tr.ofO (isiD x ty)).bind fun b => .ret (.bl b)
  | .li f l, env => (evL C l env).bind fun ts => Tr.ofO (liD f ts)
  | .join a l, env => (evE C a env).bind fun x => (Tr.ofO (strD x)).bind fun sep => (evL C l env).bind fun ts => Tr.ofO (joinD (.str sep) ts)
  | .me _ _ _, _ => .fail
  | .dct _, _ => .fail
def evT (C : Ec) : X → DE → Tr Bool
  | .not a, env => (evT C a env).bind fun t => .ret (!t)
  | .and a b, env => (evT C a env).bind fun t => if t = true then evT C b env else .ret false
  | .or a b, env => (evT C a env).bind fun t => if t = true then .ret true else evT C b env
  | .ite c a b, env => (evT C c env).bind fun t => if t = true then evT C a env else evT C b env
  | e, env => (evE C e env).bind fun x => Tr.ofO (truD x)
def evEs (C : Ec) : List X → DE → Tr (List T)
  | [], _ => .ret []
  | e :: es, env => (evE C e env).bind fun v => (evEs C es env).bind fun vs => .ret (v :: vs)
def evO (C : Ec) : Option X → DE → Tr (Option Int)
  | none, _ => .ret none
  | some e, env => (evE C e env).bind fun v => (Tr.ofO (intD v)).bind fun i => .ret (some i)
def evL (C : Ec) : L → DE → Tr (List T)
  | .ex e, env => (evE C e env).bind fun v => Tr.ofO (seqD v)
  | .lst es, env => if es.length ≤ SZ then evEs C es env else .fail
  | .comp elt ifs tg own src, env => (evR C src env).bind fun ts => evCo (fun x => ((Tr.ofO (asgD tg x (wipe env own))).bind fun e2 => (evIf C ifs e2).bind fun b => if b = true then (evE C elt e2).bind fun v => .ret (some v) else .ret none).noexc) ts
  | .comp2 .., _ => .fail
  | .srt l, env => (evL C l env).bind fun ts => Tr.ofO (srtD ts)
  | .srtE e, env => (evE C e env).bind fun v => (Tr.ofO (lstD v)).bind fun ts => if ts.length ≤ SZ then Tr.ofO (srtD ts) else .fail
  | .items _, _ => .fail
def evLs (C : Ec) : List L → DE → Tr (List (List T))
  | [], _ => .ret []
  | l :: ls, env => (evL C l env).bind fun ts => (evLs C ls env).bind fun tss => .ret (ts :: tss)
def evR (C : Ec) : Sr → DE → Tr (List T)
  | .seq l, env => evL C l env
  | .range es, env => (evEs C es env).bind fun vs => Tr.ofO (rangeD vs)
  | .enum l, env => (evL C l env).bind fun ts => .ret (enumT ts)
  | .zip ls, env => (evLs C ls env).bind fun tss => Tr.ofO (zipD tss)
  | .rrange es, env => (evEs C es env).bind fun vs => (Tr.ofO (rangeD vs)).bind fun ts => .ret ts.reverse
def evIf (C : Ec) : List X → DE → Tr Bool
  | [], _ => .ret true
  | c :: cs, env => (evT C c env).noexc.bind fun t => if t = true then evIf C cs env else .ret false
end

/-! places that an expression reads -/
mutual
def occE : X → List Nat
  | .var i => [i]
  | .bin _ a b => occE a ++ occE b
  | .neg a => occE a
  | .not a => occE a
  | .and a b => occE a ++ occE b
  | .or a b => occE a ++ occE b
  | .ite c a b => occE c ++ (occE a ++ occE b)
  | .cmp _ a b => occE a ++ occE b
  | .chain _ _ a b c => occE a ++ (occE b ++ occE c)
  | .tup es => occEs es
  | .new l => occL l
  | .idx a i => occE a ++ occE i
  | .slc a lo hi => occE a ++ (occO lo ++ occO hi)
  | .rev a => occE a
  | .call _ es => occEs es
  | .callv i es => i :: occEs es
  | .bi _ es => occEs es
  | .isi a _ => occE a
  | .li _ l => occL l
  | .join a l => occE a ++ occL l
  | .me _ o es => occE o ++ occEs es
  | _ => []
def occEs : List X → List Nat
  | [] => []
  | e :: es => occE e ++ occEs es
def occO : Option X → List Nat
  | none => []
  | some e => occE e
def occL : L → List Nat
  | .ex e => occE e
  | .lst es => occEs es
  | .comp elt ifs _ _ src => occR src ++ (occEs ifs ++ occE elt)
  | .comp2 .. => []
  | .srt l => occL l
  | .srtE e => occE e
  | .items e => occE e
def occLs : List L → List Nat
  | [] => []
  | l :: ls => occL l ++ occLs ls
def occR : Sr → List Nat
  | .seq l => occL l
  | .range es => occEs es
  | .enum l => occL l
  | .zip ls => occLs ls
  | .rrange es => occEs es
end

/-! statements: who changes a list alone has it -/
inductive Sl where
  | val (t : T)
  | own (ts : List T)
abbrev SE2 := List (Option Sl)
def slT : Sl → Option T
  | .val t => some t
  | .own _ => none
def vis (de : SE2) : DE := de.map fun o => o.bind slT
def pubO : Option Sl → Option Sl
  | some (.own ts) => some (.val (.lst ts))
  | o => o
def pub1 : SE2 → Nat → SE2
  | o :: de, 0 => pubO o :: de
  | o :: de, i + 1 => o :: pub1 de i
  | [], _ => []
def pub (os : List Nat) (de : SE2) : SE2 := os.foldl pub1 de
/-- it reaches nothing of ours -/
def clean : Bool × T → Bool
  | (true, .lst ts) => pureTs ts
  | (_, t) => pureT t
def slF : Bool × T → Sl
  | (true, .lst ts) => .own ts
  | (_, t) => .val t
def isLst : T → Bool
  | .lst _ => true
  | _ => false
/-- with its kind: made anew or not -/
def evF (C : Ec) (e : X) (env : DE) : Tr (Bool × T) := match e with
  | .new l => (evL C l env).bind fun ts => .ret (true, .lst ts)
  | .call f es => (evEs C es env).bind fun vs => C.call f vs
  | .li .list l => (evL C l env).bind fun ts => .ret (true, .lst ts)
  | .bin .add a b => (evE C a env).bind fun x => (evE C b env).bind fun y => (Tr.ofO (binD .add x y)).bind fun r => .ret (isLst r, r)
  | .bin .mul a b => (evE C a env).bind fun x => (evE C b env).bind fun y => (Tr.ofO (binD .mul x y)).bind fun r => .ret (isLst r, r)
  | .slc a lo hi => (evE C a env).bind fun x => (evO C lo env).bind fun l => (evO C hi env).bind fun h => (Tr.ofO (slcD x l h)).bind fun r => .ret (isLst r, r)
  | .rev a => (evE C a env).bind fun x => (Tr.ofO (revD x)).bind fun r => .ret (isLst r, r)
  | e => (evE C e env).bind fun v => .ret (false, v)
inductive Fl where
  | nx (de : SE2)
  | rt (r : Bool × T)
mutual
/-- names filled by a thing's parts -/
def asgS : Tg → T → SE2 → Option SE2
  | .name i, v, env => some (env.set i (some (.val v)))
  | .tup gs, v, env => match v with
    | .tup ts => asgSs gs ts env
    | .lst ts => asgSs gs ts env
    | _ => none
def asgSs : List Tg → List T → SE2 → Option SE2
  | [], [], env => some env
  | g :: gs, t :: ts, env => match asgS g t env with
    | some e => asgSs gs ts e
    | none => none
  | _, _, _ => none
end
def Fl.go : Fl → (SE2 → Tr Fl) → Tr Fl
  | .nx e, k => k e
  | .rt r, _ => .ret (.rt r)
/-- names that a turn gives first are forgotten behind it -/
def mask : SE2 → SE2 → SE2
  | none :: m, _ :: e => none :: mask m e
  | some _ :: m, x :: e => x :: mask m e
  | _, e => e
def evFor (m : SE2) (f : T → SE2 → Tr Fl) : List T → SE2 → Tr Fl
  | [], de => .ret (.nx de)
  | x :: xs, de => (f x de).bind fun fl => fl.go fun e => evFor m f xs (mask m e)
def evWh (m : SE2) (c : SE2 → Tr Bool) (f : SE2 → Tr Fl) : Nat → SE2 → Tr Fl
  | 0, _ => .fail
  | n + 1, de => (c de).bind fun b => if b = true then ((f de).bind fun fl => fl.go fun e => evWh m c f n (mask m e))
    else .ret (.nx de)
def keepIf (c : Bool) (de de1 : SE2) : SE2 := if c = true then de else de1
/-- how often a while may turn -/
def WN : Nat := 2 ^ 62
mutual
def evS (C : Ec) : Sm → SE2 → Tr Fl
  | .set g e, de => match g with
    | .name i => (evF C e (vis (pub (occE e) de))).bind fun r => .ret (.nx ((keepIf (clean r) de (pub (occE e) de)).set i (some (slF r))))
    | g => (evE C e (vis (pub (occE e) de))).bind fun v => (Tr.ofO (asgS g v (keepIf (pureT v) de (pub (occE e) de)))).bind fun d => .ret (.nx d)
  | .par is es, de => match is, es with
    | [i, j], [a, b] => (evF C a (vis (pub (occE a ++ occE b) de))).bind fun r => (evF C b (vis (pub (occE a ++ occE b) de))).bind fun q =>
        .ret (.nx (((keepIf (clean r && clean q) de (pub (occE a ++ occE b) de)).set i (some (slF r))).set j (some (slF q))))
    | _, _ => .fail
  | .sub o i e, de => match o with
    | .var x => match de.getD x none with
      | some (.own ts) => if (occE e).contains x || (occE i).contains x then .fail else
          (evE C e (vis (pub (occE e ++ occE i) de))).bind fun v => (evE C i (vis (pub (occE e ++ occE i) de))).bind fun k => match k with
            | .int j => if 0 ≤ j ∧ j.toNat < ts.length then .ret (.nx ((keepIf (pureT v) de (pub (occE e ++ occE i) de)).set x (some (.own (ts.set j.toNat v))))) else .fail
            | _ => .fail
      | _ => .fail
    | _ => .fail
  | .aug i o e, de => match de.getD i none with
    | some (.val x) => (evE C e (vis (pub (occE e) de))).bind fun y => match o, x, y with
      | .add, .int a, .int b => .ret (.nx (de.set i (some (.val (.int (a + b))))))
      | .sub, .int a, .int b => .ret (.nx (de.set i (some (.val (.int (a - b))))))
      | .mul, .int a, .int b => if (-(2 ^ 64) < a ∧ a < 2 ^ 64) ∨ (-(2 ^ 64) < b ∧ b < 2 ^ 64) then .ret (.nx (de.set i (some (.val (.int (a * b)))))) else .fail
      | _, _, _ => .fail
    | _ => .fail
  | .augs .., _ => .fail
  | .ex e, de => match e with
    | .me m (.var x) es => match m, es with
      | .append, [a] => match de.getD x none with
        | some (.own ts) => if (occE a).contains x then .fail else
            (evE C a (vis (pub (occE a) de))).bind fun v => if ts.length < SZ then .ret (.nx ((keepIf (pureT v) de (pub (occE a) de)).set x (some (.own (ts ++ [v]))))) else .fail
        | _ => .fail
      | .pop, [] => match de.getD x none with
        | some (.own ts) => if ts.isEmpty = true then .fail else .ret (.nx (de.set x (some (.own ts.dropLast))))
        | _ => .fail
      | _, _ => (evE C e (vis (pub (occE e) de))).bind fun _ => .ret (.nx de)
    | e => (evE C e (vis (pub (occE e) de))).bind fun _ => .ret (.nx de)
  | .ret none, _ => .ret (.rt (false, .non))
  | .ret (some e), de => match e with
    | .var i => match de.getD i none with
      | some (.own ts) => .ret (.rt (true, .lst ts))
      | some (.val t) => .ret (.rt (false, t))
      | none => .fail
    | e => (evF C e (vis (pub (occE e) de))).bind fun r => .ret (.rt r)
  | .cond c a b, de => (evT C c (vis (pub (occE c) de))).bind fun t => if t = true then evSs C a de else evSs C b de
  | .loop g s b, de => (evR C s (vis (pub (occR s) de))).bind fun ts =>
      evFor (pub (occR s) de) (fun x d => (Tr.ofO (asgS g x d)).bind fun d2 => evSs C b d2) ts (pub (occR s) de)
  | .whl c b, de => evWh de (fun d => evT C c (vis (pub (occE c) d))) (fun d => evSs C b d) WN de
  | .pass, de => .ret (.nx de)
def evSs (C : Ec) : List Sm → SE2 → Tr Fl
  | [], de => .ret (.nx de)
  | s :: ss, de => (evS C s de).bind fun fl => fl.go fun e => evSs C ss e
end
def finF : Fl → Tr (Bool × T)
  | .nx _ => .ret (false, .non)
  | .rt r => .ret r
def startD (nl : Nat) (vs : List T) : SE2 := vs.map (fun v => some (.val v)) ++ List.replicate (nl - vs.length) none
def evCall (Γ : Pg) : Nat → Nat → List T → Tr (Bool × T)
  | 0, _, _ => .fail
  | k + 1, f, vs => match Γ.fns[f]? with
    | some (.code np nl body) => if vs.length = np then (evSs ⟨evCall Γ k, Γ.fns.length, fun i => Γ.glob[i]?, Γ.rp⟩ body (startD nl vs)).bind finF
      else .fail
    | some .mk => .fail
    | some .next => match vs with
      | [.ref 0, .int m] => .draw m fun r => .ret (false, .int r)
      | _ => .fail
    | none => .fail
end Mo

set_option Elab.async false
set_option linter.all false
set_option maxRecDepth 100000
set_option autoImplicit false
namespace Mo
open PySem PyProof.Rows

mutual
/-- seen through and through, by what stays as it is -/
inductive Rp (s : St) : T → T → Prop
  | non : Rp s .non .non
  | bl (b : Bool) : Rp s (.bl b) (.bl b)
  | int (i : Int) : Rp s (.int i) (.int i)
  | str {x : Sg} : strOk x → Rp s (.str x) (.str x)
  | tup {ts ds : List T} : Rps s ts ds → Rp s (.tup ts) (.tup ds)
  | lst {a : Nat} {ts ds : List T} : s a = some (.lst ts) → Rps s ts ds → Rp s (.ref a) (.lst ds)
  | deck {a : Nat} : s a = some .deck → Rp s (.ref a) (.ref 0)
  | fn (i : Nat) : Rp s (.fn i) (.fn i)
  | scr : Rp s .scr .scr
inductive Rps (s : St) : List T → List T → Prop
  | nil : Rps s [] []
  | cons {t d : T} {ts ds : List T} : Rp s t d → Rps s ts ds → Rps s (t :: ts) (d :: ds)
end
section
variable {s s' : St}
mutual
theorem Rp.mono (h : Sub s s') : ∀ {t d : T}, Rp s t d → Rp s' t d
  | _, _, .non => .non
  | _, _, .bl b => .bl b
  | _, _, .int i => .int i
  | _, _, .str o => .str o
  | _, _, .tup r => .tup (Rps.mono h r)
  | _, _, .lst e r => .lst (h _ _ e) (Rps.mono h r)
  | _, _, .deck e => .deck (h _ _ e)
  | _, _, .fn i => .fn i
  | _, _, .scr => .scr
theorem Rps.mono (h : Sub s s') : ∀ {ts ds : List T}, Rps s ts ds → Rps s' ts ds
  | _, _, .nil => .nil
  | _, _, .cons a b => .cons (Rp.mono h a) (Rps.mono h b)
end
theorem Rps.length : ∀ {ts ds : List T}, Rps s ts ds → ts.length = ds.length
  | _, _, .nil => rfl
  | _, _, .cons _ b => by rw [List.length_cons, List.length_cons, Rps.length b]
theorem Rps.app : ∀ {ts ds us es : List T}, Rps s ts ds → Rps s us es → Rps s (ts ++ us) (ds ++ es)
  | _, _, _, _, .nil, q => q
  | _, _, _, _, .cons a b, q => .cons a (Rps.app b q)
theorem Rps.get : ∀ {ts ds : List T}, Rps s ts ds → ∀ {i : Nat} {d : T}, ds[i]? = some d → ∃ t, ts[i]? = some t ∧ Rp s t d
  | _, _, .nil, i, d, e => by simp at e
  | _, _, .cons a b, 0, d, e => by simp at e; subst e; exact ⟨_, rfl, a⟩
  | _, _, .cons a b, i + 1, d, e => by
    obtain ⟨t, h1, h2⟩ := Rps.get b (i := i) (d := d) (by simpa using e)
    exact ⟨t, by simpa using h1, h2⟩
theorem Rps.set : ∀ {ts ds : List T}, Rps s ts ds → ∀ (i : Nat) {t d : T}, Rp s t d → Rps s (ts.set i t) (ds.set i d)
  | _, _, .nil, i, _, _, _ => by simp; exact .nil
  | _, _, .cons a b, 0, _, _, r => .cons r b
  | _, _, .cons a b, i + 1, _, _, r => .cons a (Rps.set b i r)
theorem Rps.take : ∀ {ts ds : List T}, Rps s ts ds → ∀ n : Nat, Rps s (ts.take n) (ds.take n)
  | _, _, .nil, n => by simp; exact .nil
  | _, _, .cons a b, 0 => by simp; exact .nil
  | _, _, .cons a b, n + 1 => .cons a (Rps.take b n)
theorem Rps.drop : ∀ {ts ds : List T}, Rps s ts ds → ∀ n : Nat, Rps s (ts.drop n) (ds.drop n)
  | _, _, .nil, n => by simp; exact .nil
  | _, _, .cons a b, 0 => .cons a b
  | _, _, .cons a b, n + 1 => by simpa using Rps.drop b n
theorem Rps.rev : ∀ {ts ds : List T}, Rps s ts ds → Rps s ts.reverse ds.reverse
  | _, _, .nil => .nil
  | _, _, .cons a b => by rw [List.reverse_cons, List.reverse_cons]; exact (Rps.rev b).app (.cons a .nil)
theorem Rps.rep {ts ds : List T} (r : Rps s ts ds) : ∀ k : Nat, Rps s (Mo.rep k ts) (Mo.rep k ds)
  | 0 => .nil
  | k + 1 => by
    unfold Mo.rep
    rw [List.replicate_succ, List.flatten_cons, List.replicate_succ, List.flatten_cons]
    exact r.app (Rps.rep r k)
mutual
/-- what is pure is itself -/
theorem Rp.pure : ∀ {t d : T}, Rp s t d → pureT d = true → t = d ∧ strsT d = true
  | _, _, .non, _ => ⟨rfl, rfl⟩
  | _, _, .bl b, _ => ⟨rfl, rfl⟩
  | _, _, .int i, _ => ⟨rfl, rfl⟩
  | _, _, .str o, _ => ⟨rfl, by simp only [strsT, decide_eq_true_eq]; exact o⟩
  | _, _, .tup r, h => by
    obtain ⟨h1, h2⟩ := Rps.pure r (by simpa [pureT] using h)
    exact ⟨by rw [h1], by simpa [strsT] using h2⟩
  | _, _, .lst _ _, h => by simp [pureT] at h
  | _, _, .deck _, h => by simp [pureT] at h
  | _, _, .fn _, h => by simp [pureT] at h
  | _, _, .scr, h => by simp [pureT] at h
theorem Rps.pure : ∀ {ts ds : List T}, Rps s ts ds → pureTs ds = true → ts = ds ∧ strsTs ds = true
  | _, _, .nil, _ => ⟨rfl, rfl⟩
  | _, _, .cons a b, h => by
    simp only [pureTs, Bool.and_eq_true] at h
    obtain ⟨h1, h2⟩ := Rp.pure a h.1
    obtain ⟨h3, h4⟩ := Rps.pure b h.2
    exact ⟨by rw [h1, h3], by simp only [strsTs, h2, h4, Bool.and_self]⟩
end
mutual
theorem Rp.of_pure : ∀ d : T, pureT d = true → strsT d = true → Rp s d d
  | .non, _, _ => .non
  | .bl b, _, _ => .bl b
  | .int i, _, _ => .int i
  | .str x, _, h => .str (by simpa [strsT] using h)
  | .tup ts, h, k => .tup (Rps.of_pure ts (by simpa [pureT] using h) (by simpa [strsT] using k))
  | .lst _, h, _ => by simp [pureT] at h
  | .dct _ _, h, _ => by simp [pureT] at h
  | .ref _, h, _ => by simp [pureT] at h
  | .fn _, h, _ => by simp [pureT] at h
  | .scr, h, _ => by simp [pureT] at h
theorem Rps.of_pure : ∀ ds : List T, pureTs ds = true → strsTs ds = true → Rps s ds ds
  | [], _, _ => .nil
  | d :: ds, h, k => by
    simp only [pureTs, Bool.and_eq_true] at h
    simp only [strsTs, Bool.and_eq_true] at k
    exact .cons (Rp.of_pure d h.1 k.1) (Rps.of_pure ds h.2 k.2)
end
theorem Rp.to_pure {t d : T} (r : Rp s t d) (h : pureT d = true) : Rp s' t d := by
  obtain ⟨rfl, k⟩ := r.pure h
  exact .of_pure _ h k
theorem Rps.to_pure {ts ds : List T} (r : Rps s ts ds) (h : pureTs ds = true) : Rps s' ts ds := by
  obtain ⟨rfl, k⟩ := r.pure h
  exact .of_pure _ h k
mutual
theorem Rp.dp : ∀ {t d : T}, Rp s t d → isD d = true → Dp s t d ∧ chT d = true
  | _, _, .non, _ => ⟨.non, rfl⟩
  | _, _, .bl b, _ => ⟨.bl b, rfl⟩
  | _, _, .int i, _ => ⟨.int i, rfl⟩
  | _, _, .str o, _ => ⟨.str _, o.1⟩
  | _, _, .tup r, h => by
    obtain ⟨h1, h2⟩ := Rps.dp r (by simpa [isD] using h)
    exact ⟨.tup h1, by simpa [chT] using h2⟩
  | _, _, .lst e r, h => by
    obtain ⟨h1, h2⟩ := Rps.dp r (by simpa [isD] using h)
    exact ⟨.ref e h1, by simpa [chT] using h2⟩
  | _, _, .deck _, h => by simp [isD] at h
  | _, _, .fn _, h => by simp [isD] at h
  | _, _, .scr, h => by simp [isD] at h
theorem Rps.dp : ∀ {ts ds : List T}, Rps s ts ds → isDs ds = true → Dps s ts ds ∧ chTs ds = true
  | _, _, .nil, _ => ⟨.nil, rfl⟩
  | _, _, .cons a b, h => by
    simp only [isDs, Bool.and_eq_true] at h
    obtain ⟨h1, h2⟩ := Rp.dp a h.1
    obtain ⟨h3, h4⟩ := Rps.dp b h.2
    exact ⟨.cons h1 h3, by simp only [chTs, h2, h4, Bool.and_self]⟩
end
mutual
theorem dp_mono (h : Sub s s') : ∀ {t d : T}, Dp s t d → Dp s' t d
  | _, _, .non => .non
  | _, _, .bl b => .bl b
  | _, _, .int i => .int i
  | _, _, .str x => .str x
  | _, _, .tup r => .tup (dps_mono h r)
  | _, _, .ref e r => .ref (h _ _ e) (dps_mono h r)
theorem dps_mono (h : Sub s s') : ∀ {ts ds : List T}, Dps s ts ds → Dps s' ts ds
  | _, _, .nil => .nil
  | _, _, .cons a b => .cons (dp_mono h a) (dps_mono h b)
end
theorem Rp.okE {t d : T} (r : Rp s t d) (h : okE d = true) : Dp s t d ∧ okD d = true := by
  simp only [Mo.okE, Bool.and_eq_true] at h
  obtain ⟨h1, h2⟩ := r.dp h.2
  exact ⟨h1, by simp only [okD, h2, h.1, Bool.and_self]⟩
theorem Rps.okEs {ts ds : List T} (r : Rps s ts ds) (h : okEs ds = true) : Dps s ts ds ∧ okDs ds = true := by
  simp only [Mo.okEs, Bool.and_eq_true] at h
  obtain ⟨h1, h2⟩ := r.dp h.2
  exact ⟨h1, by simp only [okDs, h2, h.1, Bool.and_self]⟩
end

/-- what grows: new things only -/
structure Gr (st sh sh' st' : St) : Prop where
  s1 : Sub st st'
  s2 : Sub sh sh'
  s3 : Sub sh' st'
  nw : ∀ a, st a ≠ none → sh' a = sh a
section
variable {st sh st1 sh1 st2 sh2 : St}
theorem Gr.refl (g : Sub sh st) : Gr st sh sh st := ⟨.refl _, .refl _, g, fun _ _ => rfl⟩
theorem sub_ne {s t : St} (h : Sub s t) {a : Nat} (n : s a ≠ none) : t a ≠ none := fun z => by
  cases e : s a with
  | none => exact n e
  | some o => rw [h a o e] at z; cases z
theorem sub_no {s t : St} (h : Sub s t) {a : Nat} (n : t a = none) : s a = none := by
  cases e : s a with
  | none => rfl
  | some o => rw [h a o e] at n; cases n
theorem Gr.trans (g : Gr st sh sh1 st1) (k : Gr st1 sh1 sh2 st2) : Gr st sh sh2 st2 :=
  ⟨g.s1.trans k.s1, g.s2.trans k.s2, k.s3, fun a n => (k.nw a (sub_ne g.s1 n)).trans (g.nw a n)⟩
theorem Gr.alloc (g : Sub sh st) {p : Nat} (o : O) (hp : st p = none) : Gr st sh (upd sh p o) (upd st p o) := by
  have hs := sub_no g hp
  refine ⟨Sub.upd (.refl _) hp, Sub.upd (.refl _) hs, fun a u e => ?_, fun a n => ?_⟩
  · by_cases h : a = p
    · subst h; rw [upd_same] at e ⊢; exact e
    · rw [upd_ne h] at e ⊢; exact g a u e
  · exact upd_ne fun z => n (by rw [z]; exact hp)
theorem Gr.own (g : Sub sh st) {p : Nat} (o : O) (hp : st p = none) : Gr st sh sh (upd st p o) :=
  ⟨Sub.upd (.refl _) hp, .refl _, fun a u e => by rw [upd_ne (fun z => by rw [z, sub_no g hp] at e; cases e)]; exact g a u e, fun _ _ => rfl⟩

def ER (sh : St) (env : Env) (de : DE) : Prop := env.length = de.length ∧ ∀ (i : Nat) (d : T), de[i]? = some (some d) → ∃ t, env[i]? = some (some t) ∧ Rp sh t d
theorem ER.mono {env : Env} {de : DE} (r : ER sh env de) (h : Sub sh sh1) : ER sh1 env de := ⟨r.1, fun i d e => let ⟨t, h1, h2⟩ := r.2 i d e; ⟨t, h1, h2.mono h⟩⟩
theorem getD_some {α : Type} {l : List (Option α)} {i : Nat} {d : α} (h : l.getD i none = some d) : l[i]? = some (some d) := by
  rw [List.getD_eq_getElem?_getD] at h
  cases e : l[i]? with
  | none => rw [e] at h; cases h
  | some o => rw [e] at h; simp at h; rw [h]
theorem getD_of {α : Type} {l : List (Option α)} {i : Nat} {d : α} (h : l[i]? = some (some d)) : l.getD i none = some d := by
  rw [List.getD_eq_getElem?_getD, h]; rfl
theorem ER.get {env : Env} {de : DE} (r : ER sh env de) {i : Nat} {d : T} (h : de.getD i none = some d) : ∃ t, env.getD i none = some t ∧ Rp sh t d := by
  obtain ⟨t, h1, h2⟩ := r.2 i d (getD_some h)
  exact ⟨t, getD_of h1, h2⟩
theorem set_cases {α : Type} {l : List α} {i j : Nat} {v w : α} (h : (l.set i v)[j]? = some w) : (i = j ∧ w = v ∧ i < l.length) ∨ (i ≠ j ∧ l[j]? = some w) := by
  by_cases z : i = j
  · subst z
    by_cases hl : i < l.length
    · rw [List.getElem?_set_self hl] at h; cases h; exact .inl ⟨rfl, rfl, hl⟩
    · rw [List.getElem?_eq_none (by rw [List.length_set]; omega)] at h; cases h
  · rw [List.getElem?_set_ne z] at h; exact .inr ⟨z, h⟩
theorem ER.set {env : Env} {de : DE} (r : ER sh env de) {i : Nat} {t d : T} (q : Rp sh t d) : ER sh (env.set i (some t)) (de.set i (some d)) := by
  refine ⟨by rw [List.length_set, List.length_set]; exact r.1, fun j u e => ?_⟩
  rcases set_cases e with ⟨rfl, e, hl⟩ | ⟨z, e⟩
  · cases e
    exact ⟨t, List.getElem?_set_self (by rw [r.1]; exact hl), q⟩
  · obtain ⟨v, h1, h2⟩ := r.2 j u e
    exact ⟨v, by rw [List.getElem?_set_ne z]; exact h1, h2⟩
theorem ER.wipe {env : Env} {de : DE} (own : List Nat) (r : ER sh env de) : ER sh (Mo.wipe env own) (Mo.wipe de own) := by
  induction own generalizing env de with
  | nil => exact r
  | cons x own ih =>
    unfold Mo.wipe
    rw [List.foldl_cons, List.foldl_cons]
    refine ih (env := env.set x none) (de := de.set x none) ⟨by rw [List.length_set, List.length_set]; exact r.1, fun j u e => ?_⟩
    rcases set_cases e with ⟨rfl, e, hl⟩ | ⟨z, e⟩
    · cases e
    · obtain ⟨v, h1, h2⟩ := r.2 j u e
      exact ⟨v, by rw [List.getElem?_set_ne z]; exact h1, h2⟩
end

def ExOk (st sh : St) (E' : Ex → Prop) (E : EK) : Prop := ∀ x, E' x → ∀ x' sh' st', Gr st sh sh' st' → x'.cls = x.cls → Rps sh' x'.fs x.fs → E x' st'
theorem ExOk.trans {st sh st1 sh1 : St} {E' : Ex → Prop} {E : EK} (k : ExOk st sh E' E) (g : Gr st sh sh1 st1) : ExOk st1 sh1 E' E := fun x h x' sh' st' g' => k x h x' sh' st' (g.trans g')
theorem ExOk.no {st sh : St} {E : EK} : ExOk st sh (fun _ => False) E := fun _ h => h.elim

/-! what each thing tells -/
section
variable {st sh : St} {x y a b : T} {Q : TK}
/-- what is wanted behind, of a value -/
def Nx (st sh : St) (P : T → Prop) (Q : TK) : Prop := ∀ d, P d → ∀ t sh' st', Gr st sh sh' st' → Rp sh' t d → Q t st'
theorem new_rp {us es : List T} {p : Nat} (g : Sub sh st) (hp : st p = none) (r : Rps sh us es) (q : ∀ t sh' st', Gr st sh sh' st' → Rp sh' t (.lst es) → Q t st') : Q (.ref p) (upd st p (.lst us)) :=
  q _ _ _ (.alloc g _ hp) (.lst (upd_same _ _ _) (r.mono (Gr.alloc g (.lst us) hp).s2))
theorem bin_ok {o : Op} {r : T} (g : Sub sh st) (hx : Rp sh x a) (hy : Rp sh y b) (e : binD o a b = some r) (q : ∀ t sh' st', Gr st sh sh' st' → Rp sh' t r → Q t st') : binSem o x y st Q := by
  have mb : ∀ {i j : Int}, mulOk i j → MulOk i j := fun h => ⟨Nat.lt_of_lt_of_le h.1 (by unfold MB; decide +kernel), Nat.lt_of_lt_of_le h.2 (by unfold MB; decide +kernel)⟩
  have r0 := fun t => q t sh st (.refl g)
  unfold binD at e
  split at e
  · cases hx; cases hy; cases e; exact r0 _ (.int _)
  · cases hx; cases hy; cases e; exact r0 _ (.int _)
  · cases hx; cases hy
    split at e
    · rename_i h; cases e; exact ⟨mb h, r0 _ (.int _)⟩
    · cases e
  · cases hx; cases hy
    split at e
    · rename_i h; cases e; exact ⟨h, r0 _ (.int _)⟩
    · cases e
  · cases hx; cases hy
    split at e
    · rename_i h; cases e; exact ⟨h, r0 _ (.int _)⟩
    · cases e
  · cases hx; cases hy
    split at e
    · rename_i h; cases e; exact ⟨h, r0 _ (.int _)⟩
    · cases e
  · cases hx with
    | str o1 => cases hy with
      | str o2 =>
        split at e
        · rename_i h; cases e
          refine ⟨h, r0 _ (.str ⟨?_, by rw [List.length_append]; exact h⟩)⟩
          rw [List.all_append, o1.1, o2.1]; rfl
        · cases e
  · cases hx with
    | tup r1 => cases hy with
      | tup r2 =>
        split at e
        · rename_i h; cases e
          exact ⟨by rw [r1.length, r2.length]; exact h, r0 _ (.tup (r1.app r2))⟩
        · cases e
  · cases hx with
    | lst e1 r1 => cases hy with
      | lst e2 r2 =>
        split at e
        · rename_i h; cases e
          exact ⟨_, _, g _ _ e1, g _ _ e2, by rw [r1.length, r2.length]; exact h, fun p hp => new_rp g hp (r1.app r2) q⟩
        · cases e
  · cases hx with
    | tup r1 =>
      cases hy
      split at e
      · rename_i h; cases e
        obtain ⟨h1, h2, h3, h4⟩ := h
        refine ⟨⟨fun z => ?_, h2, h3, by rw [r1.length]; exact h4⟩, r0 _ (.tup (r1.rep _))⟩
        subst z
        have := r1.length
        cases r1
        simp at h1
      · cases e
  · cases hx with
    | lst e1 r1 =>
      cases hy
      split at e
      · rename_i h; cases e
        exact ⟨_, g _ _ e1, ⟨h.1, h.2.1, by rw [r1.length]; exact h.2.2⟩, fun p hp => new_rp g hp (r1.rep _) q⟩
      · cases e
  · cases e
theorem empty_eq {ts ds : List T} (r : Rps sh ts ds) : ts.isEmpty = ds.isEmpty := by cases r <;> rfl
theorem tru_ok {r : Bool} {Q : Bool → Prop} (g : Sub sh st) (hx : Rp sh x a) (e : truD a = some r) (q : Q r) : truSem x st Q := by
  cases hx <;> simp only [truD] at e <;> try (cases e; done)
  all_goals try (cases e; exact q)
  · rename_i o; cases e; exact ⟨o.2, q⟩
  · rename_i r1; cases e; show Q _; rw [empty_eq r1]; exact q
  · rename_i e1 r1; cases e; exact .inl ⟨_, g _ _ e1, by rw [empty_eq r1]; exact q⟩
theorem eq_ok {r : Bool} {Q : Bool → Prop} (g : Sub sh st) (hx : Rp sh x a) (hy : Rp sh y b) (e : eqD a b = some r) (q : Q r) : eqSem x y st Q := by
  unfold eqD at e
  split at e
  · cases hx; cases hy; cases e
    exact ⟨_, _, .int _, .int _, rfl, rfl, q⟩
  · cases hx with
    | str o1 => cases hy with
      | str o2 =>
        cases e
        refine ⟨_, _, .str _, .str _, ?_, ?_, q⟩
        · simp only [okD, Bool.and_eq_true]; exact ⟨rfl, o1.1⟩
        · simp only [okD, Bool.and_eq_true]; exact ⟨rfl, o2.1⟩
  · cases hx; cases hy; cases e
    exact ⟨_, _, .bl _, .bl _, rfl, rfl, q⟩
  · split at e
    · rename_i h
      cases e
      obtain ⟨d1, o1⟩ := hx.okE h.1
      obtain ⟨d2, o2⟩ := hy.okE h.2
      exact ⟨_, _, dp_mono g d1, dp_mono g d2, o1, o2, q⟩
    · cases e
theorem in_ok {r : Bool} {Q : Bool → Prop} (g : Sub sh st) (hx : Rp sh x a) (hy : Rp sh y b) (e : inD a b = some r) (q : Q r) : inSem x y st Q := by
  unfold inD at e
  cases hy with
  | tup r1 =>
    simp only at e
    split at e
    · rename_i h
      cases e
      obtain ⟨d1, o1⟩ := hx.okE h.1
      obtain ⟨d2, o2⟩ := r1.okEs h.2
      exact ⟨_, _, dp_mono g d1, dps_mono g d2, o1, o2, q⟩
    · cases e
  | lst e1 r1 =>
    simp only at e
    split at e
    · rename_i h
      cases e
      obtain ⟨d1, o1⟩ := hx.okE h.1
      obtain ⟨d2, o2⟩ := r1.okEs h.2
      exact .inl ⟨_, _, _, g _ _ e1, dp_mono g d1, dps_mono g d2, o1, o2, q⟩
    · cases e
  | str o =>
    simp only at e
    split at e
    · cases hx; cases e
      exact ⟨_, rfl, q⟩
    · cases e
  | _ => cases e
theorem lt_ok {r : Bool} {Q : Bool → Prop} (hx : Rp sh x a) (hy : Rp sh y b) (e : ltD a b = some r) (q : Q r) : ltSem x y Q := by
  unfold ltD at e
  split at e
  · cases hx; cases hy; cases e; exact q
  · cases hx; cases hy; cases e; exact q
  · split at e
    · rename_i h
      obtain ⟨⟨p1, p2⟩, h2, h3, h4⟩ := h
      cases hx with
      | tup r1 => cases hy with
        | tup r2 =>
          obtain ⟨rfl, _⟩ := r1.pure p1
          obtain ⟨rfl, _⟩ := r2.pure p2
          have isd : ∀ l : List T, pureTs l = true → isDs l = true := fun l h => (Dps.pure (fun _ => none) l h).isDs
          cases e
          refine ⟨p1, p2, h2, ?_, ?_, q⟩
          · simp only [okDs, (r1.dp (isd _ p1)).2, h3, decide_true, Bool.and_self]
          · simp only [okDs, (r2.dp (isd _ p2)).2, h4, decide_true, Bool.and_self]
    · cases e
  · cases e
theorem le_ok {r : Bool} {Q : Bool → Prop} (hx : Rp sh x a) (hy : Rp sh y b) (e : leD a b = some r) (q : Q r) : leSem x y Q := by
  unfold leD at e
  split at e
  · cases hx; cases hy; cases e; exact q
  · cases hx; cases hy; cases e; exact q
  · cases e
theorem cmp_ok {o : Co} {r : Bool} {Q : Bool → Prop} (g : Sub sh st) (hx : Rp sh x a) (hy : Rp sh y b) (e : cmpD o a b = some r) (q : Q r) : cmpSem o x y st Q := by
  have nn : isNon x = isNon a := by cases hx <;> rfl
  cases o <;> simp only [cmpD] at e
  · exact eq_ok g hx hy e q
  · obtain ⟨c, h1, rfl⟩ := Option.map_eq_some_iff.mp e
    exact eq_ok (Q := fun b => Q (!b)) g hx hy h1 q
  · exact lt_ok hx hy e q
  · exact le_ok hx hy e q
  · unfold gtD at e
    split at e
    · cases hx; cases hy; cases e; exact q
    · cases e
  · unfold geD at e
    split at e
    · cases hx; cases hy; cases e; exact q
    · cases e
  · split at e
    · cases hy; cases e; exact ⟨rfl, by rw [nn]; exact q⟩
    · cases e
  · split at e
    · cases hy; cases e; exact ⟨rfl, by rw [nn]; exact q⟩
    · cases e
  · exact in_ok g hx hy e q
  · obtain ⟨c, h1, rfl⟩ := Option.map_eq_some_iff.mp e
    exact in_ok (Q := fun b => Q (!b)) g hx hy h1 q
theorem atT_mem {α : Type} {l : List α} {k : Int} {c : α} (h1 : atT l k = some c) : c ∈ l := by
  unfold atT at h1
  split at h1
  · exact List.mem_of_getElem? h1
  · split at h1
    · exact List.mem_of_getElem? h1
    · cases h1
theorem Rps.at {ts ds : List T} (r : Rps sh ts ds) {k : Int} {d : T} (h : atT ds k = some d) : ∃ t, atT ts k = some t ∧ Rp sh t d := by
  unfold atT at h ⊢
  rw [r.length]
  split at h
  · rename_i h0
    rw [if_pos h0]; exact r.get h
  · rename_i h0
    rw [if_neg h0]
    split at h
    · rename_i h1
      rw [if_pos h1]; exact r.get h
    · cases h
theorem idx_ok {r : T} (g : Sub sh st) (hx : Rp sh x a) (hy : Rp sh y b) (e : idxD a b = some r) (q : ∀ t sh' st', Gr st sh sh' st' → Rp sh' t r → Q t st') : idxSem x y st Q := by
  have r0 := fun t => q t sh st (.refl g)
  unfold idxD at e
  split at e
  · cases hx with
    | tup r1 =>
      cases hy
      obtain ⟨t, h1, h2⟩ := r1.at e
      exact ⟨t, h1, r0 _ h2⟩
  · cases hx with
    | str o =>
      cases hy
      obtain ⟨c, h1, rfl⟩ := Option.map_eq_some_iff.mp e
      refine ⟨c, h1, o.2, r0 _ (.str ⟨?_, by show 1 ≤ SZ; decide⟩)⟩
      have := List.all_eq_true.mp o.1 c (atT_mem h1)
      simp only [List.all_cons, List.all_nil, Bool.and_true]
      exact this
  · cases hx with
    | lst e1 r1 =>
      cases hy
      obtain ⟨t, h1, h2⟩ := r1.at e
      exact .inl ⟨_, _, t, rfl, g _ _ e1, h1, r0 _ h2⟩
  · cases hx
  · cases e
theorem Rps.cut {ts ds : List T} (r : Rps sh ts ds) (lo hi : Option Int) : Rps sh (cutT ts lo hi) (cutT ds lo hi) := by
  unfold cutT
  rw [r.length]
  exact (r.drop _).take _
theorem slc_ok {lo hi : Option Int} {r : T} (g : Sub sh st) (hx : Rp sh x a) (e : slcD a lo hi = some r) (q : ∀ t sh' st', Gr st sh sh' st' → Rp sh' t r → Q t st') : slcSem x lo hi st Q := by
  have r0 := fun t => q t sh st (.refl g)
  cases hx <;> simp only [slcD] at e <;> try (cases e; done)
  · rename_i o
    cases e
    refine ⟨o.2, r0 _ (.str ⟨?_, ?_⟩)⟩
    · refine List.all_eq_true.mpr fun c hc => List.all_eq_true.mp o.1 c ?_
      unfold cutT at hc
      exact List.mem_of_mem_drop (List.mem_of_mem_take hc)
    · unfold cutT
      rw [List.length_take, List.length_drop]
      have := o.2
      omega
  · rename_i r1
    cases e
    exact r0 _ (.tup (r1.cut lo hi))
  · rename_i e1 r1
    cases e
    exact ⟨_, g _ _ e1, fun p hp => new_rp g hp (r1.cut lo hi) q⟩
theorem rev_ok {r : T} (g : Sub sh st) (hx : Rp sh x a) (e : revD a = some r) (q : ∀ t sh' st', Gr st sh sh' st' → Rp sh' t r → Q t st') : revSem x st Q := by
  cases hx <;> simp only [revD] at e <;> try (cases e; done)
  rename_i e1 r1
  cases e
  exact ⟨_, g _ _ e1, fun p hp => new_rp g hp r1.rev q⟩
theorem isi_ok {ty : Ty} {r : Bool} {Q : Bool → Prop} (g : Sub sh st) (hx : Rp sh x a) (e : isiD a ty = some r) (q : Q r) : isiSem x ty st Q := by
  cases hx <;> simp only [isiD] at e <;> cases e <;> try (exact q)
  rename_i e1 r1
  exact .inl ⟨_, g _ _ e1, q⟩
theorem ints_ok : ∀ {ts ds : List T} {ns : List Int}, Rps sh ts ds → intsOf ds = some ns → ts = ns.map .int
  | _, _, _, .nil, e => by cases e; rfl
  | _, d :: ds, ns, .cons a b, e => by
    cases d <;> simp only [intsOf] at e <;> try (cases e; done)
    obtain ⟨ms, h1, rfl⟩ := Option.map_eq_some_iff.mp e
    cases a
    rw [ints_ok b h1]; rfl
theorem bls_ok : ∀ {ts ds : List T} {ns : List Bool}, Rps sh ts ds → blsOf ds = some ns → ts = ns.map .bl
  | _, _, _, .nil, e => by cases e; rfl
  | _, d :: ds, ns, .cons a b, e => by
    cases d <;> simp only [blsOf] at e <;> try (cases e; done)
    obtain ⟨ms, h1, rfl⟩ := Option.map_eq_some_iff.mp e
    cases a
    rw [bls_ok b h1]; rfl
theorem strs_ok : ∀ {ts ds : List T} {ns : List Sg}, Rps sh ts ds → strsOf ds = some ns → ts = ns.map .str ∧ ∀ s ∈ ns, strOk s
  | _, _, _, .nil, e => by cases e; exact ⟨rfl, fun _ h => by cases h⟩
  | _, d :: ds, ns, .cons a b, e => by
    cases d <;> simp only [strsOf] at e <;> try (cases e; done)
    obtain ⟨ms, h1, rfl⟩ := Option.map_eq_some_iff.mp e
    cases a with
    | str o =>
      obtain ⟨h2, h3⟩ := strs_ok b h1
      exact ⟨by rw [h2]; rfl, fun s hs => by rcases List.mem_cons.mp hs with rfl | hs; exact o; exact h3 s hs⟩
theorem max_uniq : ∀ {ns : List Int} {m k : Int}, maxI ns = some k → m ∈ ns → (∀ y ∈ ns, y ≤ m) → m = k := by
  intro ns m k e hm hy
  cases ns with
  | nil => cases e
  | cons n ns =>
    simp only [maxI, Option.some.injEq] at e
    have key : ∀ (l : List Int) (n : Int), (l.foldl max n = n ∨ l.foldl max n ∈ l) ∧ n ≤ l.foldl max n ∧ ∀ y ∈ l, y ≤ l.foldl max n := by
      intro l
      induction l with
      | nil => intro n; exact ⟨.inl rfl, Int.le_refl _, fun _ h => by cases h⟩
      | cons z l ih =>
        intro n
        rw [List.foldl_cons]
        obtain ⟨h1, h2, h3⟩ := ih (max n z)
        refine ⟨?_, by omega, fun y hy => ?_⟩
        · rcases h1 with h1 | h1
          · by_cases h : n ≤ z
            · exact .inr (by rw [h1, Int.max_eq_right h]; exact .head _)
            · exact .inl (by rw [h1]; omega)
          · exact .inr (.tail _ h1)
        · rcases List.mem_cons.mp hy with rfl | hy
          · omega
          · exact h3 y hy
    obtain ⟨h1, h2, h3⟩ := key ns n
    rw [e] at h1 h2 h3
    have hk : k ∈ n :: ns := by
      rcases h1 with h1 | h1
      · rw [h1]; exact .head _
      · exact .tail _ h1
    have a1 := hy k hk
    have a2 : m ≤ k := by
      rcases List.mem_cons.mp hm with rfl | hm
      · exact h2
      · exact h3 m hm
    omega
theorem min_uniq : ∀ {ns : List Int} {m k : Int}, minI ns = some k → m ∈ ns → (∀ y ∈ ns, m ≤ y) → m = k := by
  intro ns m k e hm hy
  cases ns with
  | nil => cases e
  | cons n ns =>
    simp only [minI, Option.some.injEq] at e
    have key : ∀ (l : List Int) (n : Int), (l.foldl min n = n ∨ l.foldl min n ∈ l) ∧ l.foldl min n ≤ n ∧ ∀ y ∈ l, l.foldl min n ≤ y := by
      intro l
      induction l with
      | nil => intro n; exact ⟨.inl rfl, Int.le_refl _, fun _ h => by cases h⟩
      | cons z l ih =>
        intro n
        rw [List.foldl_cons]
        obtain ⟨h1, h2, h3⟩ := ih (min n z)
        refine ⟨?_, by omega, fun y hy => ?_⟩
        · rcases h1 with h1 | h1
          · by_cases h : z ≤ n
            · exact .inr (by rw [h1, Int.min_eq_right h]; exact .head _)
            · exact .inl (by rw [h1]; omega)
          · exact .inr (.tail _ h1)
        · rcases List.mem_cons.mp hy with rfl | hy
          · omega
          · exact h3 y hy
    obtain ⟨h1, h2, h3⟩ := key ns n
    rw [e] at h1 h2 h3
    have hk : k ∈ n :: ns := by
      rcases h1 with h1 | h1
      · rw [h1]; exact .head _
      · exact .tail _ h1
    have a1 := hy k hk
    have a2 : k ≤ m := by
      rcases List.mem_cons.mp hm with rfl | hm
      · exact h2
      · exact h3 m hm
    omega
theorem liV {f : Li} {ts ds : List T} {r : T} (g : Sub sh st) (hx : Rps sh ts ds) (e : liD f ds = some r) (q : ∀ t sh' st', Gr st sh sh' st' → Rp sh' t r → Q t st') : liSem f ts st Q := by
  have r0 := fun t => q t sh st (.refl g)
  cases f <;> simp only [liD] at e
  · cases e; exact r0 _ (.tup hx)
  · cases e
    intro p hp
    have G := Gr.alloc g (.lst ts) hp
    exact q _ _ _ G (.lst (upd_same _ _ _) (hx.mono G.s2))
  · obtain ⟨ns, h1, rfl⟩ := Option.map_eq_some_iff.mp e
    exact ⟨ns, ints_ok hx h1, r0 _ (.int _)⟩
  · obtain ⟨ns, h1, rfl⟩ := Option.map_eq_some_iff.mp e
    exact ⟨ns, bls_ok hx h1, r0 _ (.bl _)⟩
  · obtain ⟨ns, h1, rfl⟩ := Option.map_eq_some_iff.mp e
    exact ⟨ns, bls_ok hx h1, r0 _ (.bl _)⟩
  · obtain ⟨ns, h1, h2⟩ := Option.bind_eq_some_iff.mp e
    obtain ⟨k, h3, rfl⟩ := Option.map_eq_some_iff.mp h2
    refine ⟨ns, ints_ok hx h1, (fun (z : ns = []) => by subst z; cases h3), fun m hm hy => ?_⟩
    rw [max_uniq h3 hm hy]; exact r0 _ (.int _)
  · obtain ⟨ns, h1, h2⟩ := Option.bind_eq_some_iff.mp e
    obtain ⟨k, h3, rfl⟩ := Option.map_eq_some_iff.mp h2
    refine ⟨ns, ints_ok hx h1, (fun (z : ns = []) => by subst z; cases h3), fun m hm hy => ?_⟩
    rw [min_uniq h3 hm hy]; exact r0 _ (.int _)
  · cases e; show Q _ _; rw [hx.length]; exact r0 _ (.int _)
  · cases e
def RpOk (rp : T → Sg) : Prop := ∀ d, okD d = true → smlT d = true → szT d ≤ SZ → strOk (rp d)
theorem biV {rp : T → Sg} (hrp : RpOk rp) {f : Bi} {ts ds : List T} {r : T} (g : Sub sh st) (hx : Rps sh ts ds) (e : biD rp f ds = some r) (q : ∀ t sh' st', Gr st sh sh' st' → Rp sh' t r → Q t st') : biSem rp f ts st Q := by
  have r0 := fun t => q t sh st (.refl g)
  unfold biD at e
  split at e
  · cases hx with
    | cons h1 h2 =>
      cases h2
      obtain ⟨n, h3, rfl⟩ := Option.map_eq_some_iff.mp e
      cases h1 <;> simp only [lenD] at h3 <;> cases h3
      · rename_i o; exact ⟨o.2, r0 _ (.int _)⟩
      · rename_i r1; show Q _ _; rw [r1.length]; exact r0 _ (.int _)
      · rename_i e1 r1; exact .inl ⟨_, g _ _ e1, by rw [r1.length]; exact r0 _ (.int _)⟩
  · cases hx with
    | cons h1 h2 => cases h1; cases h2; cases e; exact r0 _ (.int _)
  · cases hx with
    | cons h1 h2 => cases h1; cases h2; cases e; exact r0 _ (.int _)
  · cases hx with
    | cons h1 h2 => cases h1; cases h2; cases e; exact r0 _ (.int _)
  · cases hx with
    | cons h1 h2 =>
      cases h2
      split at e
      · rename_i h
        obtain ⟨d1, o1⟩ := h1.okE h.1
        cases e
        exact ⟨_, dp_mono g d1, o1, h.2.1, h.2.2, r0 _ (.str (hrp _ o1 h.2.1 h.2.2))⟩
      · cases e
  · cases hx with
    | cons h1 h2 => cases h1; cases h2 with
      | cons h1 h2 => cases h1; cases h2; cases e; exact r0 _ (.int _)
  · cases hx with
    | cons h1 h2 => cases h1; cases h2 with
      | cons h1 h2 => cases h1; cases h2; cases e; exact r0 _ (.int _)
  · cases hx with
    | cons h1 h2 => cases h1; cases h2 with
      | cons h1 h2 =>
        cases h1; cases h2
        split at e
        · rename_i h
          cases e
          exact ⟨h, r0 _ (.tup (.cons (.int _) (.cons (.int _) .nil)))⟩
        · cases e
  · cases e
theorem mem_flat {s : Sg} : ∀ {ss : List Sg} {sep : Sg}, (∀ s ∈ ss, strOk s) → strOk sep → ∀ c ∈ List.intercalate sep ss, c < 1114112 := by
  intro ss sep h1 h2 c hc
  unfold List.intercalate at hc
  obtain ⟨l, hl, hc⟩ := List.mem_flatten.mp hc
  have : l ∈ ss ∨ l = sep := by
    have key : ∀ ss : List Sg, l ∈ List.intersperse sep ss → l ∈ ss ∨ l = sep := by
      intro ss
      induction ss with
      | nil => intro h; simp at h
      | cons x ss ih =>
        intro h
        cases ss with
        | nil => simp [List.intersperse] at h; exact .inl (by simp [h])
        | cons y ss =>
          simp only [List.intersperse, List.mem_cons] at h
          rcases h with h | h | h
          · exact .inl (by simp [h])
          · exact .inr h
          · rcases ih (by simpa using h) with h | h
            · exact .inl (by simp only [List.mem_cons] at h ⊢; exact .inr h)
            · exact .inr h
    exact key ss hl
  have ok : strOk l := by
    rcases this with h | rfl
    · exact h1 l h
    · exact h2
  exact of_decide_eq_true (List.all_eq_true.mp ok.1 c hc)
theorem inter_len (sep : Sg) : ∀ ss : List Sg, (List.intercalate sep ss).length ≤ (ss.map (·.length)).sum + ss.length * sep.length := by
  intro ss
  induction ss with
  | nil => simp
  | cons x ss ih =>
    cases ss with
    | nil => simp [List.intercalate, List.intersperse]
    | cons y ss =>
      unfold List.intercalate at ih ⊢
      simp only [List.intersperse, List.flatten_cons, List.length_append, List.map_cons, List.sum_cons, List.length_cons] at ih ⊢
      rw [show (ss.length + 1 + 1) * sep.length = (ss.length + 1) * sep.length + sep.length by rw [Nat.add_mul (ss.length + 1) 1]; omega]
      omega
theorem join_ok {sep : Sg} {ts ds : List T} {r : T} (g : Sub sh st) (hsep : strOk sep) (hx : Rps sh ts ds) (e : joinD (.str sep) ds = some r) (q : ∀ t sh' st', Gr st sh sh' st' → Rp sh' t r → Q t st') :
    ∃ ss : List Sg, ts = ss.map .str ∧ (ss.map (·.length)).sum + ss.length * sep.length ≤ SZ ∧ Q (.str (List.intercalate sep ss)) st := by
  simp only [joinD] at e
  obtain ⟨ss, h1, h2⟩ := Option.bind_eq_some_iff.mp e
  obtain ⟨h3, h4⟩ := strs_ok hx h1
  split at h2
  · rename_i h
    cases h2
    refine ⟨ss, h3, h, q _ _ _ (.refl g) (.str ⟨?_, ?_⟩)⟩
    · exact List.all_eq_true.mpr fun c hc => decide_eq_true (mem_flat (s := []) h4 hsep c hc)
    · exact Nat.le_trans (inter_len sep ss) h
  · cases h2
mutual
theorem asg_okD : ∀ (tg : Tg) {t d : T} {env : Env} {de e2 : DE} {Q : Env → Prop}, Sub sh st → ER sh env de → Rp sh t d → asgD tg d de = some e2 → (∀ env2, ER sh env2 e2 → Q env2) → asgT tg t st env Q
  | .name i, t, d, env, de, e2, Q, g, r, h, e, q => by
    simp only [asgD] at e; cases e
    simp only [asgT]
    exact q _ (r.set h)
  | .tup gs, t, d, env, de, e2, Q, g, r, h, e, q => by
    cases h <;> simp only [asgD] at e <;> try (cases e; done)
    · simp only [asgT]
      exact asgs_okD gs g r (by assumption) e q
    · simp only [asgT]
      rename_i e1 r1
      exact ⟨_, g _ _ e1, asgs_okD gs g r r1 e q⟩
theorem asgs_okD : ∀ (gs : List Tg) {ts ds : List T} {env : Env} {de e2 : DE} {Q : Env → Prop}, Sub sh st → ER sh env de → Rps sh ts ds → asgDs gs ds de = some e2 → (∀ env2, ER sh env2 e2 → Q env2) → asgTs gs ts st env Q
  | [], _, _, env, de, e2, Q, g, r, .nil, e, q => by
    simp only [asgDs] at e; cases e
    simp only [asgTs]
    exact q _ r
  | [], _, _, env, de, e2, Q, g, r, .cons _ _, e, q => by simp [asgDs] at e
  | _ :: _, _, _, env, de, e2, Q, g, r, .nil, e, q => by simp [asgDs] at e
  | tg :: gs, _, _, env, de, e2, Q, g, r, .cons a b, e, q => by
    simp only [asgDs] at e
    split at e
    · rename_i e1 h1
      simp only [asgTs]
      exact asg_okD tg g r a h1 fun env2 r2 => asgs_okD gs g r2 b e q
    · cases e
end
theorem srt_ok {ts ds us : List T} {Q : List T → Prop} (hx : Rps sh ts ds) (e : srtD ds = some us) (q : ∀ vs, Rps sh vs us → Q vs) : srtSem ts Q := by
  unfold srtD at e
  split at e
  · rename_i h
    obtain ⟨⟨h1, h2⟩, h3, h4⟩ := h
    cases e
    obtain ⟨rfl, hs⟩ := hx.pure h1
    have isd : isDs ts = true := (Dps.pure (fun _ => none) ts h1).isDs
    refine ⟨?_, q _ ?_⟩
    · simp only [srtOk, okDs, h1, (hx.dp isd).2, h3, Bool.and_eq_true, Bool.or_eq_true, decide_eq_true_eq, and_true, true_and, h2]
      exact h4
    · have pm : ∀ t ∈ msort ts, t ∈ ts := fun t ht => (List.mergeSort_perm ts _).mem_iff.mp ht
      have mm : ∀ l : List T, (∀ t ∈ l, t ∈ ts) → Rps sh l l := by
        intro l
        induction l with
        | nil => intro _; exact .nil
        | cons x l ih =>
          intro hl
          refine .cons ?_ (ih fun t ht => hl t (.tail _ ht))
          obtain ⟨i, hi⟩ := List.getElem?_of_mem (hl x (.head _))
          obtain ⟨t, h5, h6⟩ := hx.get hi
          rw [hi] at h5; cases h5
          exact h6
      exact mm _ pm
  · cases e
theorem rangeLen (lo hi : Int) : (rangeT lo hi).length = (hi - lo).toNat := by simp [rangeT]
theorem range_rp {lo hi : Int} : Rps sh (rangeT lo hi) (rangeT lo hi) := by
  have mm : ∀ l : List Int, Rps sh (l.map .int) (l.map .int) := by
    intro l
    induction l with
    | nil => exact .nil
    | cons x l ih => exact .cons (.int _) ih
  unfold rangeT
  have : (List.range (hi - lo).toNat).map (fun i => T.int (lo + Int.ofNat i)) = ((List.range (hi - lo).toNat).map fun i => lo + Int.ofNat i).map .int := by rw [List.map_map]; rfl
  rw [this]
  exact mm _
theorem range_ok {ts ds us : List T} {Q : List T → Prop} (hx : Rps sh ts ds) (e : rangeD ds = some us) (q : us.length ≤ SZ → Rps sh us us → Q us) : rangeSem ts Q := by
  unfold rangeD at e
  split at e
  · cases hx with
    | cons h1 h2 =>
      cases h1; cases h2
      split at e
      · rename_i h
        cases e
        have z : (SZ : Int) = 16777216 := rfl
        exact ⟨⟨h.1, by omega⟩, q (by rw [rangeLen]; unfold SZ; omega) range_rp⟩
      · cases e
  · cases hx with
    | cons h1 h2 => cases h1; cases h2 with
      | cons h1 h2 =>
        cases h1; cases h2
        split at e
        · rename_i h
          cases e
          have z : (SZ : Int) = 16777216 := rfl
          exact ⟨⟨h.1, by omega, h.2.2.1, by omega⟩, q (by rw [rangeLen]; unfold SZ; omega) range_rp⟩
        · cases e
  · cases e
theorem zw_rp {f : T → T → T} (hf : ∀ a b c d, Rp sh a b → Rp sh c d → Rp sh (f a c) (f b d)) : ∀ {ts ds us es : List T}, Rps sh ts ds → Rps sh us es → Rps sh (List.zipWith f ts us) (List.zipWith f ds es)
  | _, _, _, _, .nil, _ => by simp; exact .nil
  | _, _, _, _, .cons _ _, .nil => by simp; exact .nil
  | _, _, _, _, .cons a b, .cons c d => .cons (hf _ _ _ _ a c) (zw_rp hf b d)
theorem enum_rp {ts ds : List T} (hx : Rps sh ts ds) : Rps sh (enumT ts) (enumT ds) := by
  unfold enumT
  rw [hx.length]
  generalize List.range ds.length = l
  induction l generalizing ts ds with
  | nil => simp; exact .nil
  | cons i l ih =>
    cases hx with
    | nil => simp; exact .nil
    | cons a b => exact .cons (.tup (.cons (.int _) (.cons a .nil))) (ih b)
theorem zip3_rp : ∀ {a b c d e f : List T}, Rps sh a b → Rps sh c d → Rps sh e f → Rps sh (List.zipWith (fun x yz => T.tup (x :: yz)) a (List.zipWith (fun y z => [y, z]) c e)) (List.zipWith (fun x yz => T.tup (x :: yz)) b (List.zipWith (fun y z => [y, z]) d f))
  | _, _, _, _, _, _, .nil, _, _ => by simp; exact .nil
  | _, _, _, _, _, _, .cons _ _, .nil, _ => by simp; exact .nil
  | _, _, _, _, _, _, .cons _ _, .cons _ _, .nil => by simp; exact .nil
  | _, _, _, _, _, _, .cons x a, .cons y b, .cons z c => .cons (.tup (.cons x (.cons y (.cons z .nil)))) (zip3_rp a b c)
inductive Rpss (s : St) : List (List T) → List (List T) → Prop
  | nil : Rpss s [] []
  | cons {t d : List T} {ts ds : List (List T)} : Rps s t d → Rpss s ts ds → Rpss s (t :: ts) (d :: ds)
theorem Rpss.mono {s s' : St} (h : Sub s s') : ∀ {ts ds : List (List T)}, Rpss s ts ds → Rpss s' ts ds
  | _, _, .nil => .nil
  | _, _, .cons a b => .cons (a.mono h) (Rpss.mono h b)
theorem zip_ok {ts ds : List (List T)} {us : List T} (hx : Rpss sh ts ds) (hl : ∀ d ∈ ds, d.length ≤ SZ) (e : zipD ds = some us) : Rps sh (zipT ts) us ∧ us.length ≤ SZ := by
  unfold zipD at e
  split at e
  · cases hx with
    | cons h1 h2 => cases h2 with
      | cons h2 h3 =>
        cases h3; cases e
        refine ⟨zw_rp (fun a b c d x y => .tup (.cons x (.cons y .nil))) h1 h2, ?_⟩
        have := hl _ (.head _)
        simp only [zipT, List.length_zipWith]
        omega
  · cases hx with
    | cons h1 h2 => cases h2 with
      | cons h2 h3 => cases h3 with
        | cons h3 h4 =>
          cases h4; cases e
          refine ⟨?_, ?_⟩
          · simp only [zipT]
            exact zip3_rp h1 h2 h3
          · have := hl _ (.head _)
            simp only [zipT, List.length_zipWith]
            omega
  · cases e
end
end Mo

set_option Elab.async false
set_option linter.all false
set_option maxRecDepth 100000
set_option autoImplicit false
set_option maxHeartbeats 8000000
namespace Mo
open PySem PyProof.Rows

def VR (s0 sh st : St) : Bool × T → T → Prop
  | (true, d), t => ∃ a ts ds, d = .lst ds ∧ t = .ref a ∧ s0 a = none ∧ sh a = none ∧ st a = some (.lst ts) ∧ Rps sh ts ds
  | (false, d), t => Rp sh t d
theorem VR.grow {s0 sh st sh' st' : St} (g : Gr st sh sh' st') : ∀ {r : Bool × T} {t : T}, VR s0 sh st r t → VR s0 sh' st' r t
  | (true, _), _, ⟨a, ts, ds, h1, h2, h3, h4, h5, h6⟩ => ⟨a, ts, ds, h1, h2, h3, by rw [g.nw a (by rw [h5]; exact fun z => by cases z)]; exact h4, g.s1 _ _ h5, h6.mono g.s2⟩
  | (false, _), _, h => Rp.mono g.s2 h
/-- now all may see it -/
theorem VR.pub {s0 sh0 sh st : St} (g : Gr s0 sh0 sh st) : ∀ {r : Bool × T} {t : T}, VR s0 sh st r t → ∃ sh', Gr s0 sh0 sh' st ∧ Sub sh sh' ∧ Rp sh' t r.2
  | (true, _), _, ⟨a, ts, ds, h1, h2, h3, h4, h5, h6⟩ => by
    subst h1 h2
    have k : Sub sh (upd sh a (.lst ts)) := Sub.upd (.refl _) h4
    refine ⟨upd sh a (.lst ts), ⟨g.s1, g.s2.trans k, fun b o e => ?_, fun b n => ?_⟩, k, .lst (upd_same _ _ _) (h6.mono k)⟩
    · by_cases h : b = a
      · subst h; rw [upd_same] at e; cases e; exact h5
      · rw [upd_ne h] at e; exact g.s3 b o e
    · rw [upd_ne (fun z => n (by rw [z]; exact h3))]; exact g.nw b n
  | (false, _), _, h => ⟨sh, g, .refl _, h⟩
structure CEv (C : Cxt) (D : Ec) : Prop where
  call : ∀ (f : Nat) (ds ts : List T) (sh st : St), Sub sh st → Rps sh ts ds → ∀ (E' : Ex → Prop) (P : Bool × T → Prop) (E : EK) (Q : TK), (D.call f ds).all E' P → ExOk st sh E' E →
    (∀ r, P r → ∀ t sh' st', Gr st sh sh' st' → VR st sh' st' r t → Q t st') → C.call f ts st E Q
  nf : D.nf = C.nf
  glob : D.glob = C.glob
  rp : D.rp = C.rp
  rpOk : RpOk C.rp
section
variable {C : Cxt} {D : Ec} (c : CEv C D)
theorem itl_ok {chk : St → Prop} {turn : T → List T → St → (List T → St → Prop) → Prop} {f : T → Tr (Option T)} {E' : Ex → Prop} {sh0 : St}
    (hc : ∀ s, Sub sh0 s → chk s)
    (ht : ∀ (x d : T) (acc ads : List T) (sh st : St) (P : Option T → Prop) (k : List T → St → Prop), Sub sh0 sh → Sub sh st → Rp sh x d → Rps sh acc ads → acc.length < SZ → (f d).all E' P →
      (∀ o, P o → ∀ acc' sh' st', Gr st sh sh' st' → Rps sh' acc' (match o with | some y => ads ++ [y] | none => ads) → k acc' st') → turn x acc st k) :
    ∀ {xs ds : List T} {acc ads : List T} {sh st : St} {P : List T → Prop} {Q : List T → St → Prop}, Sub sh0 sh → Sub sh st → Rps sh xs ds → Rps sh acc ads → acc.length + xs.length ≤ SZ →
      (evCo f ds).all E' P → (∀ ys, P ys → ∀ acc' sh' st', Gr st sh sh' st' → Rps sh' acc' (ads ++ ys) → acc'.length ≤ SZ → Q acc' st') → itl chk turn xs acc st Q := by
  intro xs
  induction xs with
  | nil =>
    intro ds acc ads sh st P Q k0 g r ra hl h q
    cases r
    have h : P [] := h
    exact ⟨hc _ (k0.trans g), q [] h acc sh st (.refl g) (by rw [List.append_nil]; exact ra) (by simpa using hl)⟩
  | cons x xs ih =>
    intro ds acc ads sh st P Q k0 g r ra hl h q
    cases r with
    | cons r1 r2 =>
      simp only [evCo, all_bind] at h
      rw [List.length_cons] at hl
      refine ⟨hc _ (k0.trans g), ht _ _ acc ads sh st _ _ k0 g r1 ra (by omega) h fun o ho acc' sh' st' G ra' => ⟨st', .refl _, ?_⟩⟩
      have la : acc'.length ≤ acc.length + 1 := by
        rw [ra'.length, ra.length]
        cases o <;> simp
      refine ih (k0.trans G.s2) G.s3 (r2.mono G.s2) ra' (by omega) ho fun ys hy acc2 sh2 st2 G2 ra2 => q _ hy acc2 sh2 st2 (G.trans G2) ?_
      cases o with
      | none => exact ra2
      | some y => simpa [consO] using ra2
omit c in
theorem evEs_len {D : Ec} {de : DE} {E' : Ex → Prop} : ∀ (es : List X) {P : List T → Prop}, (evEs D es de).all E' P → (evEs D es de).all E' fun ds => P ds ∧ ds.length = es.length
  | [], P, h => by simp only [evEs, all_ret] at h ⊢; exact ⟨h, rfl⟩
  | e :: es, P, h => by
    simp only [evEs, all_bind] at h ⊢
    refine all_mono (fun v hv => ?_) _ h
    refine all_mono (fun vs hs => ?_) _ (evEs_len es hv)
    exact ⟨hs.1, by rw [List.length_cons, List.length_cons, hs.2]⟩
omit c in
theorem srt_len {ds us : List T} (e : srtD ds = some us) : us.length = ds.length := by
  unfold srtD at e
  split at e
  · cases e; exact (List.mergeSort_perm ds _).length_eq
  · cases e
include c
mutual
theorem ev_e : ∀ (e : X) {sh st : St} {env : Env} {de : DE} {E' : Ex → Prop} {P : T → Prop} {E : EK} {Q : TK}, ER sh env de → Sub sh st → (evE D e de).all E' P → ExOk st sh E' E →
    (∀ d, P d → ∀ t sh' st', Gr st sh sh' st' → Rp sh' t d → Q t st') → wpE C e env st E Q
  | .var i, sh, st, env, de, E', P, E, Q, r, g, h, x, q => by
    simp only [evE] at h
    obtain ⟨d, h1, h2⟩ := all_ofO h
    obtain ⟨t, h3, h4⟩ := r.get h1
    simp only [wpE, h3]
    exact q d h2 t sh st (.refl g) h4
  | .int i, sh, st, env, de, E', P, E, Q, r, g, h, x, q => by
    simp only [evE, all_ret] at h; simp only [wpE]
    exact q _ h _ sh st (.refl g) (.int _)
  | .str s, sh, st, env, de, E', P, E, Q, r, g, h, x, q => by
    simp only [evE] at h; simp only [wpE]
    split at h
    · rename_i o; exact q _ h _ sh st (.refl g) (.str o)
    · exact h.elim
  | .bl b, sh, st, env, de, E', P, E, Q, r, g, h, x, q => by
    simp only [evE, all_ret] at h; simp only [wpE]
    exact q _ h _ sh st (.refl g) (.bl _)
  | .non, sh, st, env, de, E', P, E, Q, r, g, h, x, q => by
    simp only [evE, all_ret] at h; simp only [wpE]
    exact q _ h _ sh st (.refl g) .non
  | .glob i, sh, st, env, de, E', P, E, Q, r, g, h, x, q => by
    simp only [evE, c.glob] at h; simp only [wpE]
    split at h
    · rename_i v hv
      try rw [hv]
      split at h
      · rename_i o; exact q _ h _ sh st (.refl g) (.of_pure _ o.1 o.2)
      · exact h.elim
    · exact h.elim
  | .fnv i, sh, st, env, de, E', P, E, Q, r, g, h, x, q => by
    simp only [evE, all_ret] at h; simp only [wpE]
    exact q _ h _ sh st (.refl g) (.fn _)
  | .bin o a b, sh, st, env, de, E', P, E, Q, r, g, h, x, q => by
    simp only [evE, all_bind] at h; simp only [wpE]
    refine ev_e a r g h x fun d1 h1 t1 sh1 st1 g1 r1 => ev_e b (r.mono g1.s2) g1.s3 h1 (x.trans g1) fun d2 h2 t2 sh2 st2 g2 r2 => ?_
    obtain ⟨v, e, hv⟩ := all_ofO h2
    exact bin_ok g2.s3 (r1.mono g2.s2) r2 e fun t sh' st' g3 r3 => q v hv t sh' st' ((g1.trans g2).trans g3) r3
  | .neg a, sh, st, env, de, E', P, E, Q, r, g, h, x, q => by
    simp only [evE, all_bind] at h; simp only [wpE]
    refine ev_e a r g h x fun d1 h1 t1 sh1 st1 g1 r1 => ?_
    simp only [all_bind, all_ret] at h1
    obtain ⟨v, e, hv⟩ := all_ofO h1
    cases r1 <;> simp only [intD] at e <;> cases e
    exact q _ hv _ _ _ g1 (.int _)
  | .not a, sh, st, env, de, E', P, E, Q, r, g, h, x, q => by
    simp only [evE, all_bind] at h; simp only [wpE]
    refine ev_e a r g h x fun d1 h1 t1 sh1 st1 g1 r1 => ?_
    obtain ⟨v, e, hv⟩ := all_ofO h1
    exact tru_ok g1.s3 r1 e (q _ hv _ _ _ g1 (.bl _))
  | .and a b, sh, st, env, de, E', P, E, Q, r, g, h, x, q => by
    simp only [evE, all_bind] at h; simp only [wpE]
    refine ev_e a r g h x fun d1 h1 t1 sh1 st1 g1 r1 => ?_
    obtain ⟨v, e, hv⟩ := all_ofO h1
    refine tru_ok g1.s3 r1 e ?_
    split
    · rename_i hb; rw [if_pos hb] at hv
      exact ev_e b (r.mono g1.s2) g1.s3 hv (x.trans g1) fun d2 h2 t2 sh2 st2 g2 r2 => q _ h2 _ _ _ (g1.trans g2) r2
    · rename_i hb; rw [if_neg hb] at hv
      exact q _ hv _ _ _ g1 r1
  | .or a b, sh, st, env, de, E', P, E, Q, r, g, h, x, q => by
    simp only [evE, all_bind] at h; simp only [wpE]
    refine ev_e a r g h x fun d1 h1 t1 sh1 st1 g1 r1 => ?_
    obtain ⟨v, e, hv⟩ := all_ofO h1
    refine tru_ok g1.s3 r1 e ?_
    split
    · rename_i hb; rw [if_pos hb] at hv
      exact q _ hv _ _ _ g1 r1
    · rename_i hb; rw [if_neg hb] at hv
      exact ev_e b (r.mono g1.s2) g1.s3 hv (x.trans g1) fun d2 h2 t2 sh2 st2 g2 r2 => q _ h2 _ _ _ (g1.trans g2) r2
  | .ite cc a b, sh, st, env, de, E', P, E, Q, r, g, h, x, q => by
    simp only [evE, all_bind] at h; simp only [wpE]
    refine ev_t cc r g h x fun v hv sh1 st1 g1 => ?_
    split
    · rename_i hb; rw [if_pos hb] at hv
      exact ev_e a (r.mono g1.s2) g1.s3 hv (x.trans g1) fun d2 h2 t2 sh2 st2 g2 r2 => q _ h2 _ _ _ (g1.trans g2) r2
    · rename_i hb; rw [if_neg hb] at hv
      exact ev_e b (r.mono g1.s2) g1.s3 hv (x.trans g1) fun d2 h2 t2 sh2 st2 g2 r2 => q _ h2 _ _ _ (g1.trans g2) r2
  | .cmp o a b, sh, st, env, de, E', P, E, Q, r, g, h, x, q => by
    simp only [evE, all_bind] at h; simp only [wpE]
    refine ev_e a r g h x fun d1 h1 t1 sh1 st1 g1 r1 => ev_e b (r.mono g1.s2) g1.s3 h1 (x.trans g1) fun d2 h2 t2 sh2 st2 g2 r2 => ?_
    obtain ⟨v, e, hv⟩ := all_ofO h2
    exact cmp_ok g2.s3 (r1.mono g2.s2) r2 e (q _ hv _ _ _ (g1.trans g2) (.bl _))
  | .chain o p a b c3, sh, st, env, de, E', P, E, Q, r, g, h, x, q => by
    simp only [evE, all_bind] at h; simp only [wpE]
    refine ev_e a r g h x fun d1 h1 t1 sh1 st1 g1 r1 => ev_e b (r.mono g1.s2) g1.s3 h1 (x.trans g1) fun d2 h2 t2 sh2 st2 g2 r2 => ?_
    obtain ⟨v, e, hv⟩ := all_ofO h2
    refine cmp_ok g2.s3 (r1.mono g2.s2) r2 e ?_
    split
    · rename_i hb; rw [if_pos hb] at hv
      simp only [all_bind] at hv
      refine ev_e c3 (r.mono (g1.trans g2).s2) g2.s3 hv ((x.trans g1).trans g2) fun d3 h3 t3 sh3 st3 g3 r3 => ?_
      obtain ⟨u, e', hu⟩ := all_ofO h3
      exact cmp_ok g3.s3 (r2.mono g3.s2) r3 e' (q _ hu _ _ _ ((g1.trans g2).trans g3) (.bl _))
    · rename_i hb; rw [if_neg hb] at hv
      exact q _ hv _ _ _ (g1.trans g2) (.bl _)
  | .tup es, sh, st, env, de, E', P, E, Q, r, g, h, x, q => by
    simp only [evE, all_bind] at h; simp only [wpE]
    exact ev_es es r g h x fun ds hd ts sh1 st1 g1 r1 => q _ hd _ _ _ g1 (.tup r1)
  | .new l, sh, st, env, de, E', P, E, Q, r, g, h, x, q => by
    simp only [evE, all_bind] at h; simp only [wpE]
    exact ev_l l r g h x fun ds hd ts chk sh1 st1 g1 r1 _ _ p hp => new_rp g1.s3 hp r1 fun t sh' st' g2 r2 => q _ hd _ _ _ (g1.trans g2) r2
  | .idx a b, sh, st, env, de, E', P, E, Q, r, g, h, x, q => by
    simp only [evE, all_bind] at h; simp only [wpE]
    refine ev_e a r g h x fun d1 h1 t1 sh1 st1 g1 r1 => ev_e b (r.mono g1.s2) g1.s3 h1 (x.trans g1) fun d2 h2 t2 sh2 st2 g2 r2 => ?_
    obtain ⟨v, e, hv⟩ := all_ofO h2
    exact idx_ok g2.s3 (r1.mono g2.s2) r2 e fun t sh' st' g3 r3 => q v hv t sh' st' ((g1.trans g2).trans g3) r3
  | .slc a lo hi, sh, st, env, de, E', P, E, Q, r, g, h, x, q => by
    simp only [evE, all_bind] at h; simp only [wpE]
    refine ev_e a r g h x fun d1 h1 t1 sh1 st1 g1 r1 => ev_o lo (r.mono g1.s2) g1.s3 h1 (x.trans g1) fun l hl sh2 st2 g2 => ev_o hi (r.mono (g1.trans g2).s2) g2.s3 hl ((x.trans g1).trans g2) fun u hu sh3 st3 g3 => ?_
    obtain ⟨v, e, hv⟩ := all_ofO hu
    exact slc_ok g3.s3 (r1.mono (g2.trans g3).s2) e fun t sh' st' g4 r4 => q v hv t sh' st' (((g1.trans g2).trans g3).trans g4) r4
  | .rev a, sh, st, env, de, E', P, E, Q, r, g, h, x, q => by
    simp only [evE, all_bind] at h; simp only [wpE]
    refine ev_e a r g h x fun d1 h1 t1 sh1 st1 g1 r1 => ?_
    obtain ⟨v, e, hv⟩ := all_ofO h1
    exact rev_ok g1.s3 r1 e fun t sh' st' g3 r3 => q v hv t sh' st' (g1.trans g3) r3
  | .call f es, sh, st, env, de, E', P, E, Q, r, g, h, x, q => by
    simp only [evE, all_bind] at h; simp only [wpE]
    refine ev_es es r g h x fun ds hd ts sh1 st1 g1 r1 => c.call f ds ts sh1 st1 g1.s3 r1 _ _ _ _ hd (x.trans g1) fun v hv t sh2 st2 g2 r2 => ?_
    obtain ⟨sh3, g3, k3, r3⟩ := r2.pub g2
    exact q _ hv _ _ _ (g1.trans g3) r3
  | .callv i es, sh, st, env, de, E', P, E, Q, r, g, h, x, q => by
    simp only [evE] at h
    split at h
    · rename_i f hf
      obtain ⟨t, h3, h4⟩ := r.get hf
      cases h4
      split at h
      · rename_i hn
        simp only [all_bind] at h
        simp only [wpE, h3]
        refine ⟨by rw [← c.nf]; exact hn, ev_es es r g h x fun ds hd ts sh1 st1 g1 r1 => c.call f ds ts sh1 st1 g1.s3 r1 _ _ _ _ hd (x.trans g1) fun v hv t sh2 st2 g2 r2 => ?_⟩
        obtain ⟨sh3, g3, k3, r3⟩ := r2.pub g2
        exact q _ hv _ _ _ (g1.trans g3) r3
      · exact h.elim
    · exact h.elim
  | .bi f es, sh, st, env, de, E', P, E, Q, r, g, h, x, q => by
    simp only [evE, all_bind, c.rp] at h; simp only [wpE]
    refine ev_es es r g h x fun ds hd ts sh1 st1 g1 r1 => ?_
    obtain ⟨v, e, hv⟩ := all_ofO hd
    exact biV c.rpOk g1.s3 r1 e fun t sh' st' g3 r3 => q v hv t sh' st' (g1.trans g3) r3
  | .isi a ty, sh, st, env, de, E', P, E, Q, r, g, h, x, q => by
    simp only [evE, all_bind] at h; simp only [wpE]
    refine ev_e a r g h x fun d1 h1 t1 sh1 st1 g1 r1 => ?_
    obtain ⟨v, e, hv⟩ := all_ofO h1
    exact isi_ok g1.s3 r1 e (q _ hv _ _ _ g1 (.bl _))
  | .li f l, sh, st, env, de, E', P, E, Q, r, g, h, x, q => by
    simp only [evE, all_bind] at h; simp only [wpE]
    refine ev_l l r g h x fun ds hd ts chk sh1 st1 g1 r1 _ _ => ?_
    obtain ⟨v, e, hv⟩ := all_ofO hd
    exact liV g1.s3 r1 e fun t sh' st' g3 r3 => q v hv t sh' st' (g1.trans g3) r3
  | .join a l, sh, st, env, de, E', P, E, Q, r, g, h, x, q => by
    simp only [evE, all_bind] at h; simp only [wpE]
    refine ev_e a r g h x fun d1 h1 t1 sh1 st1 g1 r1 => ?_
    obtain ⟨sep, e0, hv0⟩ := all_ofO h1
    cases r1 <;> simp only [strD] at e0 <;> cases e0
    rename_i o
    refine ⟨⟨_, rfl⟩, ev_l l (r.mono g1.s2) g1.s3 hv0 (x.trans g1) fun ds hd ts chk sh2 st2 g2 r2 _ _ => ?_⟩
    obtain ⟨v, e, hv⟩ := all_ofO hd
    exact join_ok g2.s3 o r2 e fun t sh' st' g3 r3 => q v hv t sh' st' ((g1.trans g2).trans g3) r3
  | .me _ _ _, sh, st, env, de, E', P, E, Q, r, g, h, x, q => by
    simp only [evE] at h
    exact h.elim
  | .dct _, sh, st, env, de, E', P, E, Q, r, g, h, x, q => by
    simp only [evE] at h
    exact h.elim
theorem ev_t : ∀ (e : X) {sh st : St} {env : Env} {de : DE} {E' : Ex → Prop} {P : Bool → Prop} {E : EK} {Q : Bool → St → Prop}, ER sh env de → Sub sh st → (evT D e de).all E' P → ExOk st sh E' E →
    (∀ b, P b → ∀ sh' st', Gr st sh sh' st' → Q b st') → wpT C e env st E Q
  | .not a, sh, st, env, de, E', P, E, Q, r, g, h, x, q => by
    simp only [evT, all_bind] at h; simp only [wpT]
    exact ev_t a r g h x fun b hb sh1 st1 g1 => q _ hb _ _ g1
  | .and a b, sh, st, env, de, E', P, E, Q, r, g, h, x, q => by
    simp only [evT, all_bind] at h; simp only [wpT]
    refine ev_t a r g h x fun v hv sh1 st1 g1 => ?_
    split
    · rename_i hb; rw [if_pos hb] at hv
      exact ev_t b (r.mono g1.s2) g1.s3 hv (x.trans g1) fun v2 h2 sh2 st2 g2 => q _ h2 _ _ (g1.trans g2)
    · rename_i hb; rw [if_neg hb] at hv
      exact q _ hv _ _ g1
  | .or a b, sh, st, env, de, E', P, E, Q, r, g, h, x, q => by
    simp only [evT, all_bind] at h; simp only [wpT]
    refine ev_t a r g h x fun v hv sh1 st1 g1 => ?_
    split
    · rename_i hb; rw [if_pos hb] at hv
      exact q _ hv _ _ g1
    · rename_i hb; rw [if_neg hb] at hv
      exact ev_t b (r.mono g1.s2) g1.s3 hv (x.trans g1) fun v2 h2 sh2 st2 g2 => q _ h2 _ _ (g1.trans g2)
  | .ite cc a b, sh, st, env, de, E', P, E, Q, r, g, h, x, q => by
    simp only [evT, all_bind] at h; simp only [wpT]
    refine ev_t cc r g h x fun v hv sh1 st1 g1 => ?_
    split
    · rename_i hb; rw [if_pos hb] at hv
      exact ev_t a (r.mono g1.s2) g1.s3 hv (x.trans g1) fun v2 h2 sh2 st2 g2 => q _ h2 _ _ (g1.trans g2)
    · rename_i hb; rw [if_neg hb] at hv
      exact ev_t b (r.mono g1.s2) g1.s3 hv (x.trans g1) fun v2 h2 sh2 st2 g2 => q _ h2 _ _ (g1.trans g2)
  | .var i, sh, st, env, de, E', P, E, Q, r, g, h, x, q => by
    simp only [evT, all_bind] at h
    simp only [wpT]
    exact ev_e (.var i) r g h x fun d hd t sh' st' g1 r1 => by
      obtain ⟨b, e, hb⟩ := all_ofO hd
      exact tru_ok g1.s3 r1 e (q _ hb _ _ g1)
  | .int i, sh, st, env, de, E', P, E, Q, r, g, h, x, q => by
    simp only [evT, all_bind] at h
    simp only [wpT]
    exact ev_e (.int i) r g h x fun d hd t sh' st' g1 r1 => by
      obtain ⟨b, e, hb⟩ := all_ofO hd
      exact tru_ok g1.s3 r1 e (q _ hb _ _ g1)
  | .str i, sh, st, env, de, E', P, E, Q, r, g, h, x, q => by
    simp only [evT, all_bind] at h
    simp only [wpT]
    exact ev_e (.str i) r g h x fun d hd t sh' st' g1 r1 => by
      obtain ⟨b, e, hb⟩ := all_ofO hd
      exact tru_ok g1.s3 r1 e (q _ hb _ _ g1)
  | .bl i, sh, st, env, de, E', P, E, Q, r, g, h, x, q => by
    simp only [evT, all_bind] at h
    simp only [wpT]
    exact ev_e (.bl i) r g h x fun d hd t sh' st' g1 r1 => by
      obtain ⟨b, e, hb⟩ := all_ofO hd
      exact tru_ok g1.s3 r1 e (q _ hb _ _ g1)
  | .non, sh, st, env, de, E', P, E, Q, r, g, h, x, q => by
    simp only [evT, all_bind] at h
    simp only [wpT]
    exact ev_e (.non) r g h x fun d hd t sh' st' g1 r1 => by
      obtain ⟨b, e, hb⟩ := all_ofO hd
      exact tru_ok g1.s3 r1 e (q _ hb _ _ g1)
  | .glob i, sh, st, env, de, E', P, E, Q, r, g, h, x, q => by
    simp only [evT, all_bind] at h
    simp only [wpT]
    exact ev_e (.glob i) r g h x fun d hd t sh' st' g1 r1 => by
      obtain ⟨b, e, hb⟩ := all_ofO hd
      exact tru_ok g1.s3 r1 e (q _ hb _ _ g1)
  | .fnv i, sh, st, env, de, E', P, E, Q, r, g, h, x, q => by
    simp only [evT, all_bind] at h
    simp only [wpT]
    exact ev_e (.fnv i) r g h x fun d hd t sh' st' g1 r1 => by
      obtain ⟨b, e, hb⟩ := all_ofO hd
      exact tru_ok g1.s3 r1 e (q _ hb _ _ g1)
  | .bin o a b, sh, st, env, de, E', P, E, Q, r, g, h, x, q => by
    simp only [evT, all_bind] at h
    simp only [wpT]
    exact ev_e (.bin o a b) r g h x fun d hd t sh' st' g1 r1 => by
      obtain ⟨b, e, hb⟩ := all_ofO hd
      exact tru_ok g1.s3 r1 e (q _ hb _ _ g1)
  | .neg a, sh, st, env, de, E', P, E, Q, r, g, h, x, q => by
    simp only [evT, all_bind] at h
    simp only [wpT]
    exact ev_e (.neg a) r g h x fun d hd t sh' st' g1 r1 => by
      obtain ⟨b, e, hb⟩ := all_ofO hd
      exact tru_ok g1.s3 r1 e (q _ hb _ _ g1)
  | .cmp o a b, sh, st, env, de, E', P, E, Q, r, g, h, x, q => by
    simp only [evT, all_bind] at h
    simp only [wpT]
    exact ev_e (.cmp o a b) r g h x fun d hd t sh' st' g1 r1 => by
      obtain ⟨b, e, hb⟩ := all_ofO hd
      exact tru_ok g1.s3 r1 e (q _ hb _ _ g1)
  | .chain o p a b d, sh, st, env, de, E', P, E, Q, r, g, h, x, q => by
    simp only [evT, all_bind] at h
    simp only [wpT]
    exact ev_e (.chain o p a b d) r g h x fun d hd t sh' st' g1 r1 => by
      obtain ⟨b, e, hb⟩ := all_ofO hd
      exact tru_ok g1.s3 r1 e (q _ hb _ _ g1)
  | .tup es, sh, st, env, de, E', P, E, Q, r, g, h, x, q => by
    simp only [evT, all_bind] at h
    simp only [wpT]
    exact ev_e (.tup es) r g h x fun d hd t sh' st' g1 r1 => by
      obtain ⟨b, e, hb⟩ := all_ofO hd
      exact tru_ok g1.s3 r1 e (q _ hb _ _ g1)
  | .new l, sh, st, env, de, E', P, E, Q, r, g, h, x, q => by
    simp only [evT, all_bind] at h
    simp only [wpT]
    exact ev_e (.new l) r g h x fun d hd t sh' st' g1 r1 => by
      obtain ⟨b, e, hb⟩ := all_ofO hd
      exact tru_ok g1.s3 r1 e (q _ hb _ _ g1)
  | .idx a i, sh, st, env, de, E', P, E, Q, r, g, h, x, q => by
    simp only [evT, all_bind] at h
    simp only [wpT]
    exact ev_e (.idx a i) r g h x fun d hd t sh' st' g1 r1 => by
      obtain ⟨b, e, hb⟩ := all_ofO hd
      exact tru_ok g1.s3 r1 e (q _ hb _ _ g1)
  | .slc a l u, sh, st, env, de, E', P, E, Q, r, g, h, x, q => by
    simp only [evT, all_bind] at h
    simp only [wpT]
    exact ev_e (.slc a l u) r g h x fun d hd t sh' st' g1 r1 => by
      obtain ⟨b, e, hb⟩ := all_ofO hd
      exact tru_ok g1.s3 r1 e (q _ hb _ _ g1)
  | .rev a, sh, st, env, de, E', P, E, Q, r, g, h, x, q => by
    simp only [evT, all_bind] at h
    simp only [wpT]
    exact ev_e (.rev a) r g h x fun d hd t sh' st' g1 r1 => by
      obtain ⟨b, e, hb⟩ := all_ofO hd
      exact tru_ok g1.s3 r1 e (q _ hb _ _ g1)
  | .call f es, sh, st, env, de, E', P, E, Q, r, g, h, x, q => by
    simp only [evT, all_bind] at h
    simp only [wpT]
    exact ev_e (.call f es) r g h x fun d hd t sh' st' g1 r1 => by
      obtain ⟨b, e, hb⟩ := all_ofO hd
      exact tru_ok g1.s3 r1 e (q _ hb _ _ g1)
  | .callv f es, sh, st, env, de, E', P, E, Q, r, g, h, x, q => by
    simp only [evT, all_bind] at h
    simp only [wpT]
    exact ev_e (.callv f es) r g h x fun d hd t sh' st' g1 r1 => by
      obtain ⟨b, e, hb⟩ := all_ofO hd
      exact tru_ok g1.s3 r1 e (q _ hb _ _ g1)
  | .bi f es, sh, st, env, de, E', P, E, Q, r, g, h, x, q => by
    simp only [evT, all_bind] at h
    simp only [wpT]
    exact ev_e (.bi f es) r g h x fun d hd t sh' st' g1 r1 => by
      obtain ⟨b, e, hb⟩ := all_ofO hd
      exact tru_ok g1.s3 r1 e (q _ hb _ _ g1)
  | .isi a ty, sh, st, env, de, E', P, E, Q, r, g, h, x, q => by
    simp only [evT, all_bind] at h
    simp only [wpT]
    exact ev_e (.isi a ty) r g h x fun d hd t sh' st' g1 r1 => by
      obtain ⟨b, e, hb⟩ := all_ofO hd
      exact tru_ok g1.s3 r1 e (q _ hb _ _ g1)
  | .li f l, sh, st, env, de, E', P, E, Q, r, g, h, x, q => by
    simp only [evT, all_bind] at h
    simp only [wpT]
    exact ev_e (.li f l) r g h x fun d hd t sh' st' g1 r1 => by
      obtain ⟨b, e, hb⟩ := all_ofO hd
      exact tru_ok g1.s3 r1 e (q _ hb _ _ g1)
  | .join a l, sh, st, env, de, E', P, E, Q, r, g, h, x, q => by
    simp only [evT, all_bind] at h
    simp only [wpT]
    exact ev_e (.join a l) r g h x fun d hd t sh' st' g1 r1 => by
      obtain ⟨b, e, hb⟩ := all_ofO hd
      exact tru_ok g1.s3 r1 e (q _ hb _ _ g1)
  | .me m o es, sh, st, env, de, E', P, E, Q, r, g, h, x, q => by
    simp only [evT, all_bind] at h
    simp only [wpT]
    exact ev_e (.me m o es) r g h x fun d hd t sh' st' g1 r1 => by
      obtain ⟨b, e, hb⟩ := all_ofO hd
      exact tru_ok g1.s3 r1 e (q _ hb _ _ g1)
  | .dct k, sh, st, env, de, E', P, E, Q, r, g, h, x, q => by
    simp only [evT, all_bind] at h
    simp only [wpT]
    exact ev_e (.dct k) r g h x fun d hd t sh' st' g1 r1 => by
      obtain ⟨b, e, hb⟩ := all_ofO hd
      exact tru_ok g1.s3 r1 e (q _ hb _ _ g1)
theorem ev_es : ∀ (es : List X) {sh st : St} {env : Env} {de : DE} {E' : Ex → Prop} {P : List T → Prop} {E : EK} {Q : List T → St → Prop}, ER sh env de → Sub sh st → (evEs D es de).all E' P → ExOk st sh E' E →
    (∀ ds, P ds → ∀ ts sh' st', Gr st sh sh' st' → Rps sh' ts ds → Q ts st') → wpEs C es env st E Q
  | [], sh, st, env, de, E', P, E, Q, r, g, h, x, q => by
    simp only [evEs, all_ret] at h; simp only [wpEs]
    exact q _ h _ _ _ (.refl g) .nil
  | e :: es, sh, st, env, de, E', P, E, Q, r, g, h, x, q => by
    simp only [evEs, all_bind] at h; simp only [wpEs]
    exact ev_e e r g h x fun d1 h1 t1 sh1 st1 g1 r1 => ev_es es (r.mono g1.s2) g1.s3 h1 (x.trans g1) fun d2 h2 t2 sh2 st2 g2 r2 => q _ h2 _ _ _ (g1.trans g2) (.cons (r1.mono g2.s2) r2)
theorem ev_o : ∀ (o : Option X) {sh st : St} {env : Env} {de : DE} {E' : Ex → Prop} {P : Option Int → Prop} {E : EK} {Q : Option Int → St → Prop}, ER sh env de → Sub sh st → (evO D o de).all E' P → ExOk st sh E' E →
    (∀ b, P b → ∀ sh' st', Gr st sh sh' st' → Q b st') → wpO C o env st E Q
  | none, sh, st, env, de, E', P, E, Q, r, g, h, x, q => by
    simp only [evO, all_ret] at h; simp only [wpO]
    exact q _ h _ _ (.refl g)
  | some e, sh, st, env, de, E', P, E, Q, r, g, h, x, q => by
    simp only [evO, all_bind] at h; simp only [wpO]
    refine ev_e e r g h x fun d1 h1 t1 sh1 st1 g1 r1 => ?_
    simp only [all_bind, all_ret] at h1
    obtain ⟨v, e, hv⟩ := all_ofO h1
    cases r1 <;> simp only [intD] at e <;> cases e
    exact q _ hv _ _ g1
theorem ev_l : ∀ (l : L) {sh st : St} {env : Env} {de : DE} {E' : Ex → Prop} {P : List T → Prop} {E : EK} {Q : LK}, ER sh env de → Sub sh st → (evL D l de).all E' P → ExOk st sh E' E →
    (∀ ds, P ds → ∀ ts chk sh' st', Gr st sh sh' st' → Rps sh' ts ds → ds.length ≤ SZ → (∀ s, Sub sh' s → chk s) → Q ts chk st') → wpL C l env st E Q
  | .ex e, sh, st, env, de, E', P, E, Q, r, g, h, x, q => by
    simp only [evL, all_bind] at h; simp only [wpL]
    refine ev_e e r g h x fun d1 h1 t1 sh1 st1 g1 r1 => ?_
    obtain ⟨v, e, hv⟩ := all_ofO h1
    cases r1 <;> simp only [seqD] at e <;> try (cases e; done)
    · rename_i r2; cases e
      exact fun hl => q _ hv _ _ _ _ g1 r2 (by rw [← r2.length]; exact hl) fun _ _ => trivial
    · rename_i e1 r2; cases e
      exact ⟨_, g1.s3 _ _ e1, fun hl => q _ hv _ _ _ _ g1 r2 (by rw [← r2.length]; exact hl) fun s k => k _ _ e1⟩
  | .lst es, sh, st, env, de, E', P, E, Q, r, g, h, x, q => by
    simp only [evL] at h; simp only [wpL]
    split at h
    · rename_i hl
      refine ev_es es r g (evEs_len es h) x fun ds hd ts sh1 st1 g1 r1 => q _ hd.1 _ _ _ _ g1 r1 (by rw [hd.2]; exact hl) fun _ _ => trivial
    · exact h.elim
  | .comp elt ifs tg own src, sh, st, env, de, E', P, E, Q, r, g, h, x, q => by
    simp only [evL, all_bind] at h; simp only [wpL]
    refine ev_r src r g h x fun ds hd ts chk sh1 st1 g1 r1 hl hc => ?_
    refine itl_ok hc (fun y d acc ads sh2 st2 P2 k k0 g2 ry ra hlt hf kk => ?_) (.refl _) g1.s3 r1 .nil (by rw [r1.length]; simpa using hl) hd fun ys hy acc' sh2 st2 g2 ra hl2 => q _ hy _ _ _ _ (g1.trans g2) (by simpa using ra) (by
        have := ra.length
        rw [List.nil_append] at this
        rw [← this]; exact hl2) fun _ _ => trivial
    have hf := all_noexc _ hf
    · simp only [all_bind] at hf
      obtain ⟨e2, he, hf⟩ := all_ofO hf
      refine asg_okD tg g2 ((r.mono (g1.s2.trans k0)).wipe own) ry he fun env2 r2 => ?_
      refine ev_if ifs r2 g2 hf fun b hb sh3 st3 g3 => ?_
      split
      · rename_i hb'; rw [if_pos hb'] at hb
        simp only [all_bind, all_ret] at hb
        refine ev_e elt (r2.mono g3.s2) g3.s3 hb .no fun d3 h3 t3 sh4 st4 g4 r4 => ⟨hlt, kk _ h3 _ _ _ (g3.trans g4) ((ra.mono (g3.trans g4).s2).app (.cons r4 .nil))⟩
      · rename_i hb'; rw [if_neg hb'] at hb
        exact kk _ hb _ _ _ g3 (ra.mono g3.s2)
  | .comp2 .., sh, st, env, de, E', P, E, Q, r, g, h, x, q => by
    simp only [evL] at h; exact h.elim
  | .srt l, sh, st, env, de, E', P, E, Q, r, g, h, x, q => by
    simp only [evL, all_bind] at h; simp only [wpL]
    refine ev_l l r g h x fun ds hd ts chk sh1 st1 g1 r1 hl hc => ?_
    obtain ⟨v, e, hv⟩ := all_ofO hd
    exact srt_ok r1 e fun vs rv => q _ hv _ _ _ _ g1 rv (by rw [srt_len e]; exact hl) fun _ _ => trivial
  | .srtE e, sh, st, env, de, E', P, E, Q, r, g, h, x, q => by
    simp only [evL, all_bind] at h; simp only [wpL]
    refine ev_e e r g h x fun d1 h1 t1 sh1 st1 g1 r1 => ?_
    obtain ⟨us, e0, hh⟩ := all_ofO h1
    cases r1 <;> simp only [lstD] at e0 <;> cases e0
    rename_i e1 r2
    split at hh
    · rename_i hl
      obtain ⟨v, e, hv⟩ := all_ofO hh
      exact ⟨_, _, rfl, g1.s3 _ _ e1, srt_ok r2 e fun vs rv => q _ hv _ _ _ _ g1 rv (by rw [srt_len e]; exact hl) fun _ _ => trivial⟩
    · exact hh.elim
  | .items _, sh, st, env, de, E', P, E, Q, r, g, h, x, q => by
    simp only [evL] at h; exact h.elim
theorem ev_ls : ∀ (ls : List L) {sh st : St} {env : Env} {de : DE} {E' : Ex → Prop} {P : List (List T) → Prop} {E : EK} {Q : List (List T) → (St → Prop) → St → Prop}, ER sh env de → Sub sh st → (evLs D ls de).all E' P → ExOk st sh E' E →
    (∀ ds, P ds → ∀ ts chk sh' st', Gr st sh sh' st' → Rpss sh' ts ds → (∀ d ∈ ds, d.length ≤ SZ) → (∀ s, Sub sh' s → chk s) → Q ts chk st') → wpLs C ls env st E Q
  | [], sh, st, env, de, E', P, E, Q, r, g, h, x, q => by
    simp only [evLs, all_ret] at h; simp only [wpLs]
    exact q _ h _ _ _ _ (.refl g) .nil (fun _ z => by cases z) fun _ _ => trivial
  | l :: ls, sh, st, env, de, E', P, E, Q, r, g, h, x, q => by
    simp only [evLs, all_bind] at h; simp only [wpLs]
    exact ev_l l r g h x fun d1 h1 t1 chk sh1 st1 g1 r1 hl hc => ev_ls ls (r.mono g1.s2) g1.s3 h1 (x.trans g1) fun d2 h2 t2 chk2 sh2 st2 g2 r2 hl2 hc2 =>
      q _ h2 _ _ _ _ (g1.trans g2) (.cons (r1.mono g2.s2) r2) (fun d hd => by rcases List.mem_cons.mp hd with rfl | hd; exact hl; exact hl2 d hd) fun s k => ⟨hc s (g2.s2.trans k), hc2 s k⟩
theorem ev_r : ∀ (s : Sr) {sh st : St} {env : Env} {de : DE} {E' : Ex → Prop} {P : List T → Prop} {E : EK} {Q : LK}, ER sh env de → Sub sh st → (evR D s de).all E' P → ExOk st sh E' E →
    (∀ ds, P ds → ∀ ts chk sh' st', Gr st sh sh' st' → Rps sh' ts ds → ds.length ≤ SZ → (∀ s, Sub sh' s → chk s) → Q ts chk st') → wpR C s env st E Q
  | .seq l, sh, st, env, de, E', P, E, Q, r, g, h, x, q => by
    simp only [evR] at h; simp only [wpR]
    exact ev_l l r g h x q
  | .range es, sh, st, env, de, E', P, E, Q, r, g, h, x, q => by
    simp only [evR, all_bind] at h; simp only [wpR]
    refine ev_es es r g h x fun ds hd ts sh1 st1 g1 r1 => ?_
    obtain ⟨v, e, hv⟩ := all_ofO hd
    exact range_ok r1 e fun hl rr => q _ hv _ _ _ _ g1 rr hl fun _ _ => trivial
  | .enum l, sh, st, env, de, E', P, E, Q, r, g, h, x, q => by
    simp only [evR, all_bind] at h; simp only [wpR]
    exact ev_l l r g h x fun ds hd ts chk sh1 st1 g1 r1 hl hc => q _ hd _ _ _ _ g1 (enum_rp r1) (by simpa [enumT] using hl) hc
  | .zip ls, sh, st, env, de, E', P, E, Q, r, g, h, x, q => by
    simp only [evR, all_bind] at h; simp only [wpR]
    refine ev_ls ls r g h x fun ds hd ts chk sh1 st1 g1 r1 hl hc => ?_
    obtain ⟨v, e, hv⟩ := all_ofO hd
    obtain ⟨k1, k2⟩ := zip_ok r1 hl e
    exact ⟨hc _ g1.s3, q _ hv _ _ _ _ g1 k1 k2 hc⟩
  | .rrange es, sh, st, env, de, E', P, E, Q, r, g, h, x, q => by
    simp only [evR, all_bind] at h; simp only [wpR]
    refine ev_es es r g h x fun ds hd ts sh1 st1 g1 r1 => ?_
    obtain ⟨v, e, hv⟩ := all_ofO hd
    exact range_ok r1 e fun hl rr => q _ hv _ _ _ _ g1 rr.rev (by simpa using hl) fun _ _ => trivial
theorem ev_if : ∀ (cs : List X) {sh st : St} {env : Env} {de : DE} {E' : Ex → Prop} {P : Bool → Prop} {Q : Bool → St → Prop}, ER sh env de → Sub sh st → (evIf D cs de).all E' P →
    (∀ b, P b → ∀ sh' st', Gr st sh sh' st' → Q b st') → wpIf C cs env st Q
  | [], sh, st, env, de, E', P, Q, r, g, h, q => by
    simp only [evIf, all_ret] at h; simp only [wpIf]
    exact q _ h _ _ (.refl g)
  | cc :: cs, sh, st, env, de, E', P, Q, r, g, h, q => by
    simp only [evIf, all_bind] at h; simp only [wpIf]
    refine ev_t cc r g (all_noexc _ h) .no fun v hv sh1 st1 g1 => ?_
    split
    · rename_i hb; rw [if_pos hb] at hv
      exact ev_if cs (r.mono g1.s2) g1.s3 hv fun v2 h2 sh2 st2 g2 => q _ h2 _ _ (g1.trans g2)
    · rename_i hb; rw [if_neg hb] at hv
      exact q _ hv _ _ g1
end
end
end Mo

set_option Elab.async false
set_option linter.all false
set_option maxRecDepth 100000
set_option autoImplicit false
set_option maxHeartbeats 8000000
namespace Mo
open PySem PyProof.Rows

def SlR (sh st : St) : Sl → T → Prop
  | .val d, t => Rp sh t d
  | .own ds, t => ∃ a ts, t = .ref a ∧ sh a = none ∧ st a = some (.lst ts) ∧ Rps sh ts ds
def Own (de : SE2) (env : Env) (i a : Nat) : Prop := (∃ ds, de[i]? = some (some (.own ds))) ∧ env[i]? = some (some (.ref a))
/-- from s0, h0 on -/
structure IV (s0 h0 sh st : St) (env : Env) (de : SE2) : Prop where
  gr : Gr s0 h0 sh st
  len : env.length = de.length
  sl : ∀ (i : Nat) (v : Sl), de[i]? = some (some v) → ∃ t, env[i]? = some (some t) ∧ SlR sh st v t
  dis : ∀ (i j a : Nat), Own de env i a → Own de env j a → i = j
  bs : ∀ (i a : Nat), Own de env i a → s0 a = none
section
variable {s0 h0 sh st sh' st' : St} {env : Env} {de : SE2}
theorem IV.er (v : IV s0 h0 sh st env de) : ER sh env (vis de) := by
  refine ⟨by rw [vis, List.length_map]; exact v.len, fun i d e => ?_⟩
  unfold vis at e
  rw [List.getElem?_map] at e
  obtain ⟨o, h1, h2⟩ := Option.map_eq_some_iff.mp e
  cases o with
  | none => cases h2
  | some s =>
    cases s with
    | own ts => cases h2
    | val t => cases h2; exact v.sl i _ h1
theorem Own.nn (v : IV s0 h0 sh st env de) {i a : Nat} (o : Own de env i a) : st a ≠ none ∧ sh a = none := by
  obtain ⟨⟨ds, h1⟩, h2⟩ := o
  obtain ⟨t, h3, a', ts, rfl, h4, h5, h6⟩ := v.sl i _ h1
  rw [h2] at h3; cases h3
  exact ⟨by rw [h5]; exact fun z => (by cases z), h4⟩
theorem IV.grow (v : IV s0 h0 sh st env de) (g : Gr st sh sh' st') : IV s0 h0 sh' st' env de :=
  ⟨v.gr.trans g, v.len, fun i s e => by
    obtain ⟨t, h1, h2⟩ := v.sl i s e
    refine ⟨t, h1, ?_⟩
    cases s with
    | val d => exact Rp.mono g.s2 h2
    | own ds =>
      obtain ⟨a, ts, rfl, h4, h5, h6⟩ := h2
      exact ⟨a, ts, rfl, by rw [g.nw a (by rw [h5]; exact fun z => (by cases z))]; exact h4, g.s1 _ _ h5, h6.mono g.s2⟩, v.dis, v.bs⟩
theorem IV.keep (v : IV s0 h0 sh st env de) (g : Sub st st') : IV s0 h0 sh st' env de :=
  v.grow ⟨g, .refl _, v.gr.s3.trans g, fun _ _ => rfl⟩
theorem own_set {i j a : Nat} {o : Option Sl} {x : Option T} (hl : env.length = de.length) (h : Own (de.set i o) (env.set i x) j a) : (i = j ∧ (∃ ds, o = some (.own ds)) ∧ x = some (.ref a)) ∨ (i ≠ j ∧ Own de env j a) := by
  obtain ⟨⟨ds, h1⟩, h2⟩ := h
  rcases set_cases h1 with ⟨rfl, h1, h3⟩ | ⟨z, h1⟩
  · rcases set_cases h2 with ⟨_, h2, _⟩ | ⟨z, h2⟩
    · exact .inl ⟨rfl, ⟨ds, h1.symm⟩, h2.symm⟩
    · exact absurd rfl z
  · rcases set_cases h2 with ⟨rfl, h2, h3⟩ | ⟨_, h2⟩
    · exact absurd rfl z
    · exact .inr ⟨z, ⟨ds, h1⟩, h2⟩
theorem IV.setv (v : IV s0 h0 sh st env de) {i : Nat} {t d : T} (r : Rp sh t d) : IV s0 h0 sh st (env.set i (some t)) (de.set i (some (.val d))) := by
  have ow : ∀ {j a}, Own (de.set i (some (.val d))) (env.set i (some t)) j a → Own de env j a := fun h => by
    rcases own_set v.len h with ⟨_, ⟨ds, z⟩, _⟩ | ⟨_, h⟩
    · cases z
    · exact h
  refine ⟨v.gr, by rw [List.length_set, List.length_set]; exact v.len, fun j s e => ?_, fun j k a x y => v.dis j k a (ow x) (ow y), fun j a x => v.bs j a (ow x)⟩
  rcases set_cases e with ⟨rfl, e, hl⟩ | ⟨z, e⟩
  · cases e
    exact ⟨t, List.getElem?_set_self (by rw [v.len]; exact hl), r⟩
  · obtain ⟨u, h1, h2⟩ := v.sl j s e
    exact ⟨u, by rw [List.getElem?_set_ne z]; exact h1, h2⟩
theorem IV.seto (v : IV s0 h0 sh st env de) {i a : Nat} {ts ds : List T} (ha : s0 a = none) (hs : sh a = none) (hst : st a = some (.lst ts)) (r : Rps sh ts ds) (no : ∀ j, i ≠ j → ¬ Own de env j a) :
    IV s0 h0 sh st (env.set i (some (.ref a))) (de.set i (some (.own ds))) := by
  refine ⟨v.gr, by rw [List.length_set, List.length_set]; exact v.len, fun j s e => ?_, fun j k b x y => ?_, fun j b x => ?_⟩
  · rcases set_cases e with ⟨rfl, e, hl⟩ | ⟨z, e⟩
    · cases e
      exact ⟨_, List.getElem?_set_self (by rw [v.len]; exact hl), a, ts, rfl, hs, hst, r⟩
    · obtain ⟨u, h1, h2⟩ := v.sl j s e
      exact ⟨u, by rw [List.getElem?_set_ne z]; exact h1, h2⟩
  · rcases own_set v.len x with ⟨rfl, _, hx⟩ | ⟨zx, x⟩
    · cases hx
      rcases own_set v.len y with ⟨rfl, _, hy⟩ | ⟨zy, y⟩
      · rfl
      · exact absurd y (no k zy)
    · rcases own_set v.len y with ⟨rfl, _, hy⟩ | ⟨zy, y⟩
      · cases hy; exact absurd x (no j zx)
      · exact v.dis j k b x y
  · rcases own_set v.len x with ⟨rfl, _, hx⟩ | ⟨zx, x⟩
    · cases hx; exact ha
    · exact v.bs j b x
/-- a list of ours changed -/
theorem IV.chg (v : IV s0 h0 sh st env de) {i a : Nat} {ts ds es : List T} (h : de[i]? = some (some (.own es))) (he : env[i]? = some (some (.ref a))) (r : Rps sh ts ds) : IV s0 h0 sh (upd st a (.lst ts)) env (de.set i (some (.own ds))) := by
  have ho : Own de env i a := ⟨⟨es, h⟩, he⟩
  obtain ⟨hn, hs⟩ := ho.nn v
  have ha := v.bs i a ho
  have hl : i < de.length := (List.getElem?_eq_some_iff.mp h).1
  have ow : ∀ {j b}, Own (de.set i (some (.own ds))) env j b → Own de env j b := fun {j b} ⟨⟨ds', h1⟩, h2⟩ => by
    rcases set_cases h1 with ⟨rfl, _, _⟩ | ⟨_, h1⟩
    · exact ⟨⟨_, h⟩, h2⟩
    · exact ⟨⟨_, h1⟩, h2⟩
  refine ⟨⟨fun b o e => ?_, v.gr.s2, fun b o e => ?_, v.gr.nw⟩, by rw [List.length_set]; exact v.len, fun j s e => ?_, fun j k b x y => v.dis j k b (ow x) (ow y), fun j b x => v.bs j b (ow x)⟩
  · rw [upd_ne (fun z => by rw [z, ha] at e; cases e)]; exact v.gr.s1 b o e
  · rw [upd_ne (fun z => by rw [z, hs] at e; cases e)]; exact v.gr.s3 b o e
  · rcases set_cases e with ⟨rfl, e, hl⟩ | ⟨z, e⟩
    · cases e
      exact ⟨_, he, a, ts, rfl, hs, upd_same _ _ _, r⟩
    · obtain ⟨u, h1, h2⟩ := v.sl j s e
      refine ⟨u, h1, ?_⟩
      cases s with
      | val d => exact h2
      | own es' =>
        obtain ⟨b, us, rfl, h4, h5, h6⟩ := h2
        have hb : b ≠ a := fun z2 => by subst z2; exact z (v.dis _ _ _ ho ⟨⟨_, e⟩, h1⟩)
        exact ⟨b, us, rfl, h4, by rw [upd_ne hb]; exact h5, h6⟩
theorem pub1_eq : ∀ (de : SE2) (i : Nat), Mo.pub1 de i = match de.getD i none with
    | some (.own ts) => de.set i (some (.val (.lst ts)))
    | _ => de
  | [], i => by simp [Mo.pub1]
  | o :: de, 0 => by
    simp only [Mo.pub1, List.getD_cons_zero, List.set_cons_zero]
    split
    · rfl
    · rename_i h
      cases o with
      | none => rfl
      | some s => cases s with
        | val t => rfl
        | own ts => exact absurd rfl (h ts)
  | o :: de, i + 1 => by
    simp only [Mo.pub1, List.getD_cons_succ, List.set_cons_succ, pub1_eq de i]
    split <;> rfl
theorem IV.pub1 (v : IV s0 h0 sh st env de) (i : Nat) : ∃ sh', Sub sh sh' ∧ IV s0 h0 sh' st env (pub1 de i) := by
  rw [pub1_eq]
  split
  · rename_i ts h
    have h := getD_some h
    obtain ⟨t, h1, a, us, rfl, h4, h5, h6⟩ := v.sl i _ h
    have ho : Own de env i a := ⟨⟨ts, h⟩, h1⟩
    have k : Sub sh (upd sh a (.lst us)) := Sub.upd (.refl _) h4
    have ha := v.bs i a ho
    have ow : ∀ {j b}, Own (de.set i (some (.val (.lst ts)))) env j b → i ≠ j ∧ Own de env j b := fun {j b} ⟨⟨ds', h1⟩, h2⟩ => by
      rcases set_cases h1 with ⟨rfl, z, _⟩ | ⟨z, h1⟩
      · cases z
      · exact ⟨z, ⟨_, h1⟩, h2⟩
    refine ⟨upd sh a (.lst us), k, ⟨v.gr.s1, v.gr.s2.trans k, fun b o e => ?_, fun b n => ?_⟩, by rw [List.length_set]; exact v.len, fun j s e => ?_, fun j k b x y => v.dis j k b (ow x).2 (ow y).2, fun j b x => v.bs j b (ow x).2⟩
    · by_cases hb : b = a
      · subst hb; rw [upd_same] at e; cases e; exact h5
      · rw [upd_ne hb] at e; exact v.gr.s3 b o e
    · rw [upd_ne (fun z => n (by rw [z]; exact ha))]; exact v.gr.nw b n
    · rcases set_cases e with ⟨rfl, e, hl⟩ | ⟨z, e⟩
      · cases e
        exact ⟨_, h1, .lst (upd_same _ _ _) (h6.mono k)⟩
      · obtain ⟨u, h7, h8⟩ := v.sl j s e
        refine ⟨u, h7, ?_⟩
        cases s with
        | val d => exact Rp.mono k h8
        | own es' =>
          obtain ⟨b, vs, rfl, h9, h10, h11⟩ := h8
          have hb : b ≠ a := fun z2 => by subst z2; exact z (v.dis _ _ _ ho ⟨⟨_, e⟩, h7⟩)
          exact ⟨b, vs, rfl, by rw [upd_ne hb]; exact h9, h10, h11.mono k⟩
  · exact ⟨sh, .refl _, v⟩
theorem IV.pub (os : List Nat) : ∀ {sh : St} {de : SE2}, IV s0 h0 sh st env de → ∃ sh', Sub sh sh' ∧ IV s0 h0 sh' st env (Mo.pub os de) := by
  induction os with
  | nil => intro sh de v; exact ⟨sh, .refl _, v⟩
  | cons i os ih =>
    intro sh de v
    obtain ⟨sh1, k1, v1⟩ := v.pub1 i
    obtain ⟨sh2, k2, v2⟩ := ih v1
    exact ⟨sh2, k1.trans k2, v2⟩
theorem clean_ok {s1 sh1 st1 : St} {r : Bool × T} {t : T} (h : clean r = true) (v : VR s1 sh1 st1 r t) (k : Sub sh sh1) : VR s1 sh st1 r t := by
  unfold clean at h
  split at h
  · obtain ⟨a, ts, ds, h1, h2, h3, h4, h5, h6⟩ := v
    cases h1
    exact ⟨a, ts, _, rfl, h2, h3, sub_no k h4, h5, h6.to_pure h⟩
  · rename_i f d hn
    cases f with
    | true =>
      obtain ⟨a, ts, ds, h1, h2, h3, h4, h5, h6⟩ := v
      subst h1
      exact absurd rfl (hn ds rfl)
    | false => exact Rp.to_pure v h
/-- a value put at a place -/
theorem IV.setr {s1 : St} (v : IV s0 h0 sh st env de) {i : Nat} {r : Bool × T} {t : T} (q : VR s1 sh st r t) (h01 : Sub s0 s1) (fr : ∀ j a, Own de env j a → s1 a ≠ none) : IV s0 h0 sh st (env.set i (some t)) (de.set i (some (slF r))) := by
  unfold slF
  split
  · obtain ⟨a, ts, ds, h1, h2, h3, h4, h5, h6⟩ := q
    cases h1; subst h2
    exact v.seto (sub_no h01 h3) h4 h5 h6 fun j _ o => fr j a o h3
  · rename_i f d hn
    cases f with
    | true =>
      obtain ⟨a, ts, ds, h1, h2, h3, h4, h5, h6⟩ := q
      subst h1
      exact absurd rfl (hn ds rfl)
    | false => exact v.setv q
end
theorem add_lst {x y : T} {ds : List T} (e : binD .add x y = some (.lst ds)) : ∃ a b, x = .lst a ∧ y = .lst b ∧ a.length + b.length ≤ SZ ∧ ds = a ++ b := by
  cases x <;> cases y <;> simp [binD] at e
  rename_i a b
  exact ⟨a, b, rfl, rfl, e.1, e.2.symm⟩
theorem mul_lst {x y : T} {ds : List T} (e : binD .mul x y = some (.lst ds)) : ∃ a j, x = .lst a ∧ y = .int j ∧ (0 ≤ j ∧ j ≤ 1000 ∧ a.length ≤ 1000) ∧ ds = rep j.toNat a := by
  cases x <;> cases y <;> simp [binD] at e
  rename_i a j
  exact ⟨a, j, rfl, rfl, e.1, e.2.symm⟩
section
variable {C : Cxt} {D : Ec} (c : CEv C D)
include c
theorem ev_f (e : X) {sh st : St} {env : Env} {de : DE} {E' : Ex → Prop} {P : Bool × T → Prop} {E : EK} {Q : TK} (r : ER sh env de) (g : Sub sh st) (h : (evF D e de).all E' P) (x : ExOk st sh E' E)
    (q : ∀ d, P d → ∀ t sh' st', Gr st sh sh' st' → VR st sh' st' d t → Q t st') : wpE C e env st E Q := by
  have plain : ((evE D e de).bind fun v => .ret (false, v)).all E' P → wpE C e env st E Q := fun h => by
    simp only [all_bind, all_ret] at h
    exact ev_e c e r g h x fun d hd t sh' st' g1 r1 => q _ hd _ _ _ g1 r1
  have fresh : ∀ {sh1 st1 : St} {us ds : List T} {p : Nat}, Gr st sh sh1 st1 → Rps sh1 us ds → st1 p = none → P (true, .lst ds) → Q (.ref p) (upd st1 p (.lst us)) := fun {sh1 st1 us ds p} g1 r1 hp hd =>
    q _ hd _ _ _ (g1.trans (.own g1.s3 _ hp)) ⟨p, us, ds, rfl, rfl, sub_no g1.s1 hp, sub_no g1.s3 hp, upd_same _ _ _, r1⟩
  unfold evF at h
  split at h
  · simp only [all_bind, all_ret] at h; simp only [wpE]
    exact ev_l c _ r g h x fun ds hd ts chk sh1 st1 g1 r1 _ _ p hp => fresh g1 r1 hp hd
  · simp only [all_bind] at h; simp only [wpE]
    exact ev_es c _ r g h x fun ds hd ts sh1 st1 g1 r1 => c.call _ ds ts sh1 st1 g1.s3 r1 _ _ _ _ hd (x.trans g1) fun v hv t sh2 st2 g2 r2 => q _ hv _ _ _ (g1.trans g2) (by
      obtain ⟨f, d⟩ := v
      cases f with
      | false => exact r2
      | true =>
        obtain ⟨a, ts', ds', h1, h2, h3, h4⟩ := r2
        exact ⟨a, ts', ds', h1, h2, sub_no g1.s1 h3, h4⟩)
  · simp only [all_bind, all_ret] at h; simp only [wpE]
    exact ev_l c _ r g h x fun ds hd ts chk sh1 st1 g1 r1 _ _ p hp => fresh g1 r1 hp hd
  · rename_i a b
    simp only [all_bind, all_ret] at h; simp only [wpE]
    refine ev_e c a r g h x fun d1 h1 t1 sh1 st1 g1 r1 => ev_e c b (r.mono g1.s2) g1.s3 h1 (x.trans g1) fun d2 h2 t2 sh2 st2 g2 r2 => ?_
    obtain ⟨v, e, hv⟩ := all_ofO h2
    by_cases hl : ∃ ds, v = .lst ds
    · obtain ⟨ds, rfl⟩ := hl
      obtain ⟨as, bs, rfl, rfl, hh, rfl⟩ := add_lst e
      cases r1 with
      | lst e1 q1 => cases r2 with
        | lst e2 q2 =>
          exact ⟨_, _, g2.s1 _ _ (g1.s3 _ _ e1), g2.s3 _ _ e2, by rw [q1.length, q2.length]; exact hh, fun p hp => fresh (g1.trans g2) ((q1.mono g2.s2).app q2) hp hv⟩
    · exact bin_ok g2.s3 (r1.mono g2.s2) r2 e fun t sh' st' g3 r3 => q _ hv t sh' st' ((g1.trans g2).trans g3) (by
        cases v <;> first | exact r3 | exact absurd ⟨_, rfl⟩ hl)
  · rename_i a b
    simp only [all_bind, all_ret] at h; simp only [wpE]
    refine ev_e c a r g h x fun d1 h1 t1 sh1 st1 g1 r1 => ev_e c b (r.mono g1.s2) g1.s3 h1 (x.trans g1) fun d2 h2 t2 sh2 st2 g2 r2 => ?_
    obtain ⟨v, e, hv⟩ := all_ofO h2
    by_cases hl : ∃ ds, v = .lst ds
    · obtain ⟨ds, rfl⟩ := hl
      obtain ⟨as, j, rfl, rfl, hh, rfl⟩ := mul_lst e
      cases r1 with
      | lst e1 q1 =>
        cases r2
        exact ⟨_, g2.s1 _ _ (g1.s3 _ _ e1), ⟨hh.1, hh.2.1, by rw [q1.length]; exact hh.2.2⟩, fun p hp => fresh (g1.trans g2) ((q1.mono g2.s2).rep _) hp hv⟩
    · exact bin_ok g2.s3 (r1.mono g2.s2) r2 e fun t sh' st' g3 r3 => q _ hv t sh' st' ((g1.trans g2).trans g3) (by
        cases v <;> first | exact r3 | exact absurd ⟨_, rfl⟩ hl)
  · rename_i a lo hi
    simp only [all_bind, all_ret] at h; simp only [wpE]
    refine ev_e c a r g h x fun d1 h1 t1 sh1 st1 g1 r1 => ev_o c lo (r.mono g1.s2) g1.s3 h1 (x.trans g1) fun l hl sh2 st2 g2 => ev_o c hi (r.mono (g1.trans g2).s2) g2.s3 hl ((x.trans g1).trans g2) fun u hu sh3 st3 g3 => ?_
    obtain ⟨v, e, hv⟩ := all_ofO hu
    by_cases hl : ∃ ds, v = .lst ds
    · obtain ⟨ds, rfl⟩ := hl
      cases r1 <;> simp only [slcD] at e <;> try (cases e; done)
      rename_i e1 q1
      cases e
      exact ⟨_, g3.s1 _ _ (g2.s1 _ _ (g1.s3 _ _ e1)), fun p hp => fresh ((g1.trans g2).trans g3) ((q1.mono (g2.trans g3).s2).cut _ _) hp hv⟩
    · exact slc_ok g3.s3 (r1.mono (g2.trans g3).s2) e fun t sh' st' g4 r4 => q _ hv t sh' st' (((g1.trans g2).trans g3).trans g4) (by
        cases v <;> first | exact r4 | exact absurd ⟨_, rfl⟩ hl)
  · rename_i a
    simp only [all_bind, all_ret] at h; simp only [wpE]
    refine ev_e c a r g h x fun d1 h1 t1 sh1 st1 g1 r1 => ?_
    obtain ⟨v, e, hv⟩ := all_ofO h1
    cases r1 <;> simp only [revD] at e <;> try (cases e; done)
    rename_i e1 q1
    cases e
    exact ⟨_, g1.s3 _ _ e1, fun p hp => fresh g1 q1.rev hp hv⟩
  · exact plain h
end
end Mo

set_option Elab.async false
set_option linter.all false
set_option maxRecDepth 100000
set_option autoImplicit false
set_option maxHeartbeats 8000000
namespace Mo
open PySem PyProof.Rows
section
variable {s0 h0 sh st : St} {env : Env} {de : SE2}
mutual
theorem asg_okS : ∀ (tg : Tg) {t d : T} {env : Env} {de e2 : SE2} {Q : Env → Prop}, IV s0 h0 sh st env de → Rp sh t d → asgS tg d de = some e2 → (∀ env2, IV s0 h0 sh st env2 e2 → Q env2) → asgT tg t st env Q
  | .name i, t, d, env, de, e2, Q, v, h, e, q => by
    simp only [asgS] at e; cases e
    simp only [asgT]
    exact q _ (v.setv h)
  | .tup gs, t, d, env, de, e2, Q, v, h, e, q => by
    cases h <;> simp only [asgS] at e <;> try (cases e; done)
    · simp only [asgT]
      exact asgs_okS gs v (by assumption) e q
    · simp only [asgT]
      rename_i e1 r1
      exact ⟨_, v.gr.s3 _ _ e1, asgs_okS gs v r1 e q⟩
theorem asgs_okS : ∀ (gs : List Tg) {ts ds : List T} {env : Env} {de e2 : SE2} {Q : Env → Prop}, IV s0 h0 sh st env de → Rps sh ts ds → asgSs gs ds de = some e2 → (∀ env2, IV s0 h0 sh st env2 e2 → Q env2) → asgTs gs ts st env Q
  | [], _, _, env, de, e2, Q, v, .nil, e, q => by
    simp only [asgSs] at e; cases e
    simp only [asgTs]
    exact q _ v
  | [], _, _, env, de, e2, Q, v, .cons _ _, e, q => by simp [asgSs] at e
  | _ :: _, _, _, env, de, e2, Q, v, .nil, e, q => by simp [asgSs] at e
  | tg :: gs, _, _, env, de, e2, Q, v, .cons a b, e, q => by
    simp only [asgSs] at e
    split at e
    · rename_i e1 h1
      simp only [asgTs]
      exact asg_okS tg v a h1 fun env2 v2 => asgs_okS gs v2 b e q
    · cases e
end
theorem pub1_ne {i x : Nat} (h : x ≠ i) : (pub1 de i)[x]? = de[x]? := by
  rw [pub1_eq]
  split
  · exact List.getElem?_set_ne (Ne.symm h)
  · rfl
theorem pub_ne {x : Nat} : ∀ (os : List Nat) {de : SE2}, x ∉ os → (pub os de)[x]? = de[x]?
  | [], _, _ => rfl
  | i :: os, de, h => by
    have h1 : x ≠ i := fun z => h (by rw [z]; exact .head _)
    show (pub os (pub1 de i))[x]? = _
    rw [pub_ne os (fun z => h (.tail _ z)), pub1_ne h1]
theorem own_fr {s1 : St} {r : Bool × T} {t : T} {i k a : Nat} (hl : env.length = de.length) (q : VR s1 sh st r t) (o : Own (de.set i (some (slF r))) (env.set i (some t)) k a) (h : ∀ j b, Own de env j b → st b ≠ none) : st a ≠ none := by
  rcases own_set hl o with ⟨_, ⟨ds, e⟩, e2⟩ | ⟨_, o⟩
  · cases e2
    obtain ⟨f, d⟩ := r
    cases f with
    | true =>
      obtain ⟨b, ts, ds', rfl, h2, h3, h4, h5, h6⟩ := q
      cases h2
      rw [h5]; exact fun z => by cases z
    | false => cases e
  · exact h _ _ o
theorem mask_get : ∀ {m e : SE2} {i : Nat} {v : Sl}, (mask m e)[i]? = some (some v) → e[i]? = some (some v)
  | none :: m, x :: e, 0, v, h => by simp [mask] at h
  | none :: m, x :: e, i + 1, v, h => by
    simp only [mask, List.getElem?_cons_succ] at h ⊢
    exact mask_get h
  | some _ :: m, x :: e, 0, v, h => by simpa [mask] using h
  | some _ :: m, x :: e, i + 1, v, h => by
    simp only [mask, List.getElem?_cons_succ] at h ⊢
    exact mask_get h
  | [], e, i, v, h => by simpa [mask] using h
  | _ :: _, [], i, v, h => by simp [mask] at h
theorem mask_len : ∀ (m e : SE2), (mask m e).length = e.length
  | none :: m, x :: e => by simp only [mask, List.length_cons, mask_len m e]
  | some _ :: m, x :: e => by simp only [mask, List.length_cons, mask_len m e]
  | [], e => by simp [mask]
  | _ :: _, [] => by simp [mask]
theorem IV.mask (v : IV s0 h0 sh st env de) (m : SE2) : IV s0 h0 sh st env (mask m de) := by
  have ow : ∀ {i a}, Own (Mo.mask m de) env i a → Own de env i a := fun {i a} ⟨⟨ds, h⟩, h2⟩ => ⟨⟨ds, mask_get h⟩, h2⟩
  exact ⟨v.gr, by rw [mask_len]; exact v.len, fun i s e => v.sl i s (mask_get e), fun i j a x y => v.dis i j a (ow x) (ow y), fun i a x => v.bs i a (ow x)⟩
theorem grK {st' : St} (v : IV s0 h0 sh st env de) (h : Sub st st') : Gr st sh sh st' := ⟨h, .refl _, v.gr.s3.trans h, fun _ _ => rfl⟩
end
theorem itf_ok {m : SE2} {chk : St → Prop} {turn : T → Env → St → (Env → St → Prop) → Prop} {f : T → SE2 → Tr Fl} {E' : Ex → Prop} {s0 h0 shL : St} {rt : TK}
    (hc : ∀ s, Sub shL s → chk s)
    (ht : ∀ (x d : T) (sh st : St) (env : Env) (de : SE2) (P : Fl → Prop) (k : Env → St → Prop), IV s0 h0 sh st env de → Sub shL sh → Rp sh x d → (f d de).all E' P →
      (∀ de', P (.nx de') → ∀ sh' st' env', Sub sh sh' → IV s0 h0 sh' st' env' de' → k env' st') →
      (∀ r, P (.rt r) → ∀ t sh' st', Gr s0 h0 sh' st' → VR s0 sh' st' r t → rt t st') → turn x env st k) :
    ∀ {xs ds : List T} {sh st : St} {env : Env} {de : SE2} {P : Fl → Prop} {Q : Env → St → Prop}, IV s0 h0 sh st env de → Sub shL sh → Rps sh xs ds → (evFor m f ds de).all E' P →
      (∀ de', P (.nx de') → ∀ sh' st' env', Sub sh sh' → IV s0 h0 sh' st' env' de' → Q env' st') →
      (∀ r, P (.rt r) → ∀ t sh' st', Gr s0 h0 sh' st' → VR s0 sh' st' r t → rt t st') → itf chk turn xs env st Q := by
  intro xs
  induction xs with
  | nil =>
    intro ds sh st env de P Q v k r h q1 q2
    cases r
    have h : P (.nx de) := h
    exact ⟨hc _ (k.trans v.gr.s3), q1 _ h _ _ _ (.refl _) v⟩
  | cons x xs ih =>
    intro ds sh st env de P Q v k r h q1 q2
    cases r with
    | cons r1 r2 =>
      simp only [evFor, all_bind] at h
      exact ⟨hc _ (k.trans v.gr.s3), ht _ _ _ _ _ _ _ _ v k r1 h
        (fun de' hd sh' st' env' k' v' => ⟨env', st', .refl _, .refl _, ih (v'.mask m) (k.trans k') (r2.mono k') hd (fun de2 h2 sh2 st2 env2 k2 v2 => q1 _ h2 _ _ _ (k'.trans k2) v2) q2⟩)
        fun r hr => q2 _ hr⟩
theorem itw_ok {m : SE2} {test : Env → St → (Bool → St → Prop) → Prop} {body : Env → St → (Env → St → Prop) → Prop} {cc : SE2 → Tr Bool} {f : SE2 → Tr Fl} {E' : Ex → Prop} {s0 h0 : St} {rt : TK}
    (hc : ∀ (sh st : St) (env : Env) (de : SE2) (P : Bool → Prop) (k : Bool → St → Prop), IV s0 h0 sh st env de → (cc de).all E' P → (∀ b, P b → ∀ st', IV s0 h0 sh st' env de → k b st') → test env st k)
    (ht : ∀ (sh st : St) (env : Env) (de : SE2) (P : Fl → Prop) (k : Env → St → Prop), IV s0 h0 sh st env de → (f de).all E' P →
      (∀ de', P (.nx de') → ∀ sh' st' env', Sub sh sh' → IV s0 h0 sh' st' env' de' → k env' st') →
      (∀ r, P (.rt r) → ∀ t sh' st', Gr s0 h0 sh' st' → VR s0 sh' st' r t → rt t st') → body env st k) :
    ∀ (n : Nat) {sh st : St} {env : Env} {de : SE2} {P : Fl → Prop} {Q : Env → St → Prop}, IV s0 h0 sh st env de → (evWh m cc f n de).all E' P →
      (∀ de', P (.nx de') → ∀ sh' st' env', Sub sh sh' → IV s0 h0 sh' st' env' de' → Q env' st') →
      (∀ r, P (.rt r) → ∀ t sh' st', Gr s0 h0 sh' st' → VR s0 sh' st' r t → rt t st') → itw test body n env st Q := by
  intro n
  induction n with
  | zero => intro sh st env de P Q v h; exact h.elim
  | succ n ih =>
    intro sh st env de P Q v h q1 q2
    simp only [evWh, all_bind] at h
    refine hc _ _ _ _ _ _ v h fun b hb st' v' => ?_
    cases b with
    | true =>
      rw [if_pos rfl]
      rw [if_pos rfl] at hb
      simp only [all_bind] at hb
      exact ht _ _ _ _ _ _ v' hb
        (fun de' hd sh' st2 env' k' v2 => ⟨env', st2, .refl _, .refl _, ih (v2.mask m) hd (fun de2 h2 sh2 st3 env2 k2 v3 => q1 _ h2 _ _ _ (k'.trans k2) v3) q2⟩)
        fun r hr => q2 _ hr
    | false =>
      rw [if_neg (by decide)]
      rw [if_neg (by decide)] at hb
      exact q1 _ hb _ _ _ (.refl _) v'
section
variable {C : Cxt} {D : Ec} (c : CEv C D)
include c
mutual
theorem ev_s : ∀ (s : Sm) {s0 h0 sh st : St} {env : Env} {de : SE2} {E' : Ex → Prop} {P : Fl → Prop} {PO : Po}, IV s0 h0 sh st env de → (evS D s de).all E' P → ExOk s0 h0 E' PO.ex →
    (∀ de', P (.nx de') → ∀ sh' st' env', Sub sh sh' → IV s0 h0 sh' st' env' de' → PO.nx env' st') →
    (∀ r, P (.rt r) → ∀ t sh' st', Gr s0 h0 sh' st' → VR s0 sh' st' r t → PO.rt t st') → wpS C s env st PO
  | .set (.name i) e, s0, h0, sh, st, env, de, E', P, PO, v, h, x, q1, q2 => by
    simp only [evS, all_bind, all_ret] at h; simp only [wpS, asgT]
    obtain ⟨sh1, k1, v1⟩ := v.pub (occE e)
    refine ev_f c e v1.er v1.gr.s3 h (x.trans v1.gr) fun r hr t sh2 st2 g2 r2 => ?_
    by_cases hc : clean r = true
    · rw [keepIf, if_pos hc] at hr
      exact q1 _ hr sh st2 _ (.refl _) ((v.keep g2.s1).setr (clean_ok hc r2 (k1.trans g2.s2)) v.gr.s1 fun j a o => (Own.nn v o).1)
    · rw [keepIf, if_neg hc] at hr
      exact q1 _ hr sh2 st2 _ (k1.trans g2.s2) ((v1.grow g2).setr r2 v1.gr.s1 fun j a o => (Own.nn v1 o).1)
  | .set (.tup gs) e, s0, h0, sh, st, env, de, E', P, PO, v, h, x, q1, q2 => by
    simp only [evS, all_bind, all_ret] at h; simp only [wpS]
    obtain ⟨sh1, k1, v1⟩ := v.pub (occE e)
    refine ev_e c e v1.er v1.gr.s3 h (x.trans v1.gr) fun d hd t sh2 st2 g2 r2 => ?_
    obtain ⟨e2, h1, h2⟩ := all_ofO hd
    by_cases hc : pureT d = true
    · rw [keepIf, if_pos hc] at h1
      exact asg_okS _ (v.keep g2.s1) (r2.to_pure hc) h1 fun env2 v2 => q1 _ h2 _ _ _ (.refl _) v2
    · rw [keepIf, if_neg hc] at h1
      exact asg_okS _ (v1.grow g2) r2 h1 fun env2 v2 => q1 _ h2 _ _ _ (k1.trans g2.s2) v2
  | .par is es, s0, h0, sh, st, env, de, E', P, PO, v, h, x, q1, q2 => by
    simp only [evS] at h
    split at h
    · rename_i i j a b
      simp only [all_bind, all_ret] at h
      simp only [wpS, wpEs]
      obtain ⟨sh1, k1, v1⟩ := v.pub (occE a ++ occE b)
      refine ev_f c a v1.er v1.gr.s3 h (x.trans v1.gr) fun r hr t sh2 st2 g2 r2 => ev_f c b (v1.er.mono g2.s2) g2.s3 hr ((x.trans v1.gr).trans g2) fun w hw u sh3 st3 g3 r3 => ⟨rfl, ?_⟩
      by_cases hc : (clean r && clean w) = true
      · rw [keepIf, if_pos hc] at hw
        simp only [Bool.and_eq_true] at hc
        have sub3 := g2.s1.trans g3.s1
        have r4 := clean_ok hc.1 r2 (k1.trans g2.s2)
        have r5 : VR st sh st3 r t := r4.grow (grK (v.keep g2.s1) g3.s1)
        have r6 := clean_ok hc.2 r3 ((k1.trans g2.s2).trans g3.s2)
        refine q1 _ hw sh st3 _ (.refl _) (((v.keep sub3).setr r5 v.gr.s1 fun j a o => (Own.nn v o).1).setr r6 (v.gr.s1.trans g2.s1) fun k a o => ?_)
        exact own_fr v.len r4 o fun j b o => sub_ne g2.s1 (Own.nn v o).1
      · rw [keepIf, if_neg hc] at hw
        refine q1 _ hw sh3 st3 _ ((k1.trans g2.s2).trans g3.s2) ((((v1.grow g2).grow g3).setr (r2.grow g3) v1.gr.s1 fun j a o => (Own.nn v1 o).1).setr r3 (v1.gr.s1.trans g2.s1) fun k a o => ?_)
        exact own_fr v1.len r2 o fun j b o => sub_ne g2.s1 (Own.nn v1 o).1
    · exact h.elim
  | .sub o i e, s0, h0, sh, st, env, de, E', P, PO, v, h, x, q1, q2 => by
    simp only [evS] at h
    split at h
    · rename_i y
      split at h
      · rename_i ts hts
        split at h
        · exact h.elim
        · rename_i hocc
          simp only [all_bind] at h
          simp only [wpS]
          obtain ⟨sh1, k1, v1⟩ := v.pub (occE e ++ occE i)
          have hy := getD_some hts
          have hn : y ∉ occE e ++ occE i := by
            simp only [Bool.or_eq_true, List.contains_iff_mem, not_or] at hocc
            simp only [List.mem_append, not_or]
            exact hocc
          have hy1 : (pub (occE e ++ occE i) de)[y]? = some (some (.own ts)) := by rw [pub_ne _ hn]; exact hy
          obtain ⟨t, he, a, us, rfl, h4, h5, h6⟩ := v.sl y _ hy
          refine ev_e c e v1.er v1.gr.s3 h (x.trans v1.gr) fun d hd t sh2 st2 g2 r2 => ?_
          simp only [wpE, getD_of he]
          refine ev_e c i (v1.er.mono g2.s2) g2.s3 hd ((x.trans v1.gr).trans g2) fun d2 hd2 t2 sh3 st3 g3 r3 => ?_
          cases r3 <;> try (exact hd2.elim)
          rename_i j
          simp only at hd2
          split at hd2
          · rename_i hj
            have hd2 : P _ := hd2
            refine .inl ⟨us, j.toNat, by rw [show Int.ofNat j.toNat = j from Int.toNat_of_nonneg hj.1], g3.s1 _ _ (g2.s1 _ _ h5), by rw [h6.length]; exact hj.2, ?_⟩
            by_cases hc : pureT d = true
            · rw [keepIf, if_pos hc] at hd2
              exact q1 _ hd2 _ _ _ (.refl _) ((v.keep (g2.s1.trans g3.s1)).chg hy he (h6.set _ (r2.to_pure hc)))
            · rw [keepIf, if_neg hc] at hd2
              exact q1 _ hd2 _ _ _ ((k1.trans g2.s2).trans g3.s2) (((v1.grow g2).grow g3).chg hy1 he ((h6.mono ((k1.trans g2.s2).trans g3.s2)).set _ (r2.mono g3.s2)))
          · exact hd2.elim
      · exact h.elim
    · exact h.elim
  | .aug i o e, s0, h0, sh, st, env, de, E', P, PO, v, h, x, q1, q2 => by
    simp only [evS] at h
    split at h
    · rename_i d hd
      simp only [all_bind] at h
      obtain ⟨t, he, ht⟩ := v.sl i _ (getD_some hd)
      simp only [wpS, getD_of he]
      obtain ⟨sh1, k1, v1⟩ := v.pub (occE e)
      refine ev_e c e v1.er v1.gr.s3 h (x.trans v1.gr) fun d2 hd2 t2 sh2 st2 g2 r2 => ?_
      have ht : Rp sh t d := ht
      split at hd2
      · cases ht; cases r2
        exact q1 _ hd2 _ _ _ (.refl _) ((v.keep g2.s1).setv (.int _))
      · cases ht; cases r2
        exact q1 _ hd2 _ _ _ (.refl _) ((v.keep g2.s1).setv (.int _))
      · cases ht; cases r2
        split at hd2
        · rename_i hm
          exact ⟨hm, q1 _ hd2 _ _ _ (.refl _) ((v.keep g2.s1).setv (.int _))⟩
        · exact hd2.elim
      · exact hd2.elim
    · exact h.elim
  | .augs .., s0, h0, sh, st, env, de, E', P, PO, v, h, x, q1, q2 => by
    simp only [evS] at h; exact h.elim
  | .ex e, s0, h0, sh, st, env, de, E', P, PO, v, h, x, q1, q2 => by
    have plain : ((evE D e (vis (pub (occE e) de))).bind fun _ => Tr.ret (Fl.nx de)).all E' P → wpS C (.ex e) env st PO := fun h => by
      simp only [all_bind, all_ret] at h; simp only [wpS]
      obtain ⟨sh1, k1, v1⟩ := v.pub (occE e)
      exact ev_e c e v1.er v1.gr.s3 h (x.trans v1.gr) fun d hd t sh2 st2 g2 r2 => q1 _ hd _ _ _ (.refl _) (v.keep g2.s1)
    simp only [evS] at h
    split at h
    · rename_i m y es
      split at h
      · rename_i a
        split at h
        · rename_i ts hts
          split at h
          · exact h.elim
          · rename_i hocc
            simp only [all_bind] at h
            have hy := getD_some hts
            obtain ⟨t, he, b, us, rfl, h4, h5, h6⟩ := v.sl y _ hy
            simp only [wpS, wpE, wpEs, getD_of he]
            obtain ⟨sh1, k1, v1⟩ := v.pub (occE a)
            have hn : y ∉ occE a := by simpa [List.contains_iff_mem] using hocc
            have hy1 : (pub (occE a) de)[y]? = some (some (.own ts)) := by rw [pub_ne _ hn]; exact hy
            refine ⟨⟨b, us, rfl, h5⟩, ev_e c a v1.er v1.gr.s3 h (x.trans v1.gr) fun d hd t sh2 st2 g2 r2 => ?_⟩
            split at hd
            · rename_i hl
              have hd : P _ := hd
              refine ⟨us, g2.s1 _ _ h5, by rw [h6.length]; exact hl, ?_⟩
              by_cases hc : pureT d = true
              · rw [keepIf, if_pos hc] at hd
                exact q1 _ hd _ _ _ (.refl _) ((v.keep g2.s1).chg hy he (h6.app (.cons (r2.to_pure hc) .nil)))
              · rw [keepIf, if_neg hc] at hd
                exact q1 _ hd _ _ _ (k1.trans g2.s2) ((v1.grow g2).chg hy1 he ((h6.mono (k1.trans g2.s2)).app (.cons r2 .nil)))
            · exact hd.elim
        · exact h.elim
      · split at h
        · rename_i ts hts
          split at h
          · exact h.elim
          · rename_i hne
            have h : P _ := h
            have hy := getD_some hts
            obtain ⟨t, he, b, us, rfl, h4, h5, h6⟩ := v.sl y _ hy
            simp only [wpS, wpE, wpEs, getD_of he]
            have hus : us ≠ [] := fun z => by
              subst z
              have := h6.length
              cases ts <;> simp at this hne
            refine ⟨⟨b, us, rfl, h5⟩, us.dropLast, us.getLast hus, by rw [List.dropLast_concat_getLast]; exact h5, q1 _ h _ _ _ (.refl _) (v.chg hy he ?_)⟩
            rw [List.dropLast_eq_take, List.dropLast_eq_take, h6.length]
            exact h6.take _
        · exact h.elim
      · exact plain h
    · exact plain h
  | .ret none, s0, h0, sh, st, env, de, E', P, PO, v, h, x, q1, q2 => by
    simp only [evS, all_ret] at h; simp only [wpS]
    exact q2 _ h _ _ _ v.gr .non
  | .ret (some e), s0, h0, sh, st, env, de, E', P, PO, v, h, x, q1, q2 => by
    simp only [evS] at h
    split at h
    · rename_i i
      split at h
      · rename_i ts hts
        have h : P _ := h
        have hy := getD_some hts
        obtain ⟨t, he, b, us, rfl, h4, h5, h6⟩ := v.sl i _ hy
        simp only [wpS, wpE, getD_of he]
        exact q2 _ h _ _ _ v.gr ⟨b, us, ts, rfl, rfl, v.bs _ _ ⟨⟨_, hy⟩, he⟩, h4, h5, h6⟩
      · rename_i d hd
        have h : P _ := h
        obtain ⟨t, he, ht⟩ := v.sl i _ (getD_some hd)
        simp only [wpS, wpE, getD_of he]
        exact q2 _ h _ _ _ v.gr ht
      · exact h.elim
    · simp only [all_bind, all_ret] at h; simp only [wpS]
      obtain ⟨sh1, k1, v1⟩ := v.pub (occE e)
      refine ev_f c e v1.er v1.gr.s3 h (x.trans v1.gr) fun r hr t sh2 st2 g2 r2 => q2 _ hr _ _ _ (v1.gr.trans g2) ?_
      obtain ⟨f, d⟩ := r
      cases f with
      | false => exact r2
      | true =>
        obtain ⟨a, ts, ds, h1, h2, h3, h4⟩ := r2
        exact ⟨a, ts, ds, h1, h2, sub_no v1.gr.s1 h3, h4⟩
  | .cond cc a b, s0, h0, sh, st, env, de, E', P, PO, v, h, x, q1, q2 => by
    simp only [evS, all_bind] at h; simp only [wpS]
    obtain ⟨sh1, k1, v1⟩ := v.pub (occE cc)
    refine ev_t c cc v1.er v1.gr.s3 h (x.trans v1.gr) fun t ht sh2 st2 g2 => ?_
    split
    · rename_i hb; rw [if_pos hb] at ht
      exact ev_ss a (v.keep g2.s1) ht x q1 q2
    · rename_i hb; rw [if_neg hb] at ht
      exact ev_ss b (v.keep g2.s1) ht x q1 q2
  | .loop g s b, s0, h0, sh, st, env, de, E', P, PO, v, h, x, q1, q2 => by
    simp only [evS, all_bind] at h; simp only [wpS]
    obtain ⟨sh1, k1, v1⟩ := v.pub (occR s)
    refine ev_r c s v1.er v1.gr.s3 h (x.trans v1.gr) fun ds hd ts chk sh2 st2 g2 r2 hl hc => ?_
    refine itf_ok (rt := PO.rt) hc (fun y d sh3 st3 env3 de3 P3 k v3 k3 ry hf n1 n2 => ?_) (v1.grow g2) (.refl _) r2 hd (fun de' hd' sh' st' env' k' v' => q1 _ hd' _ _ _ ((k1.trans g2.s2).trans k') v') q2
    simp only [all_bind] at hf
    obtain ⟨d2, hd2, hf⟩ := all_ofO hf
    exact asg_okS g v3 ry hd2 fun env4 v4 => ev_ss b v4 hf x n1 n2
  | .whl cc b, s0, h0, sh, st, env, de, E', P, PO, v, h, x, q1, q2 => by
    simp only [evS] at h; simp only [wpS]
    refine ⟨WN, by unfold WN; exact Nat.le_refl _, itw_ok (rt := PO.rt) (fun sh1 st1 env1 de1 P1 k v1 hcc kk => ?_) (fun sh1 st1 env1 de1 P1 k v1 hf n1 n2 => ev_ss b (PO := { nx := k, rt := PO.rt, ex := PO.ex }) v1 hf x n1 n2) WN v h q1 q2⟩
    obtain ⟨sh2, k2, v2⟩ := v1.pub (occE cc)
    exact ev_t c cc v2.er v2.gr.s3 hcc (x.trans v2.gr) fun t ht sh3 st3 g3 => kk _ ht _ (v1.keep g3.s1)
  | .pass, s0, h0, sh, st, env, de, E', P, PO, v, h, x, q1, q2 => by
    simp only [evS, all_ret] at h; simp only [wpS]
    exact q1 _ h _ _ _ (.refl _) v
theorem ev_ss : ∀ (ss : List Sm) {s0 h0 sh st : St} {env : Env} {de : SE2} {E' : Ex → Prop} {P : Fl → Prop} {PO : Po}, IV s0 h0 sh st env de → (evSs D ss de).all E' P → ExOk s0 h0 E' PO.ex →
    (∀ de', P (.nx de') → ∀ sh' st' env', Sub sh sh' → IV s0 h0 sh' st' env' de' → PO.nx env' st') →
    (∀ r, P (.rt r) → ∀ t sh' st', Gr s0 h0 sh' st' → VR s0 sh' st' r t → PO.rt t st') → wpSs C ss env st PO
  | [], s0, h0, sh, st, env, de, E', P, PO, v, h, x, q1, q2 => by
    simp only [evSs, all_ret] at h; simp only [wpSs]
    exact q1 _ h _ _ _ (.refl _) v
  | s :: ss, s0, h0, sh, st, env, de, E', P, PO, v, h, x, q1, q2 => by
    simp only [evSs, all_bind] at h; simp only [wpSs]
    exact ev_s s (PO := { PO with nx := fun e2 s2 => wpSs C ss e2 s2 PO }) v h x
      (fun de' hd sh' st' env' k' v' => ev_ss ss v' hd x (fun de2 h2 sh2 st2 env2 k2 v2 => q1 _ h2 _ _ _ (k'.trans k2) v2) q2)
      fun r hr => q2 _ hr
end
end
theorem start_iv {s0 h0 : St} (g : Sub h0 s0) {ts ds : List T} {nl : Nat} (r : Rps h0 ts ds) : IV s0 h0 h0 s0 (start nl ts) (startD nl ds) := by
  have no : ∀ {i a}, ¬ Own (startD nl ds) (start nl ts) i a := fun {i a} ⟨⟨es, h⟩, _⟩ => by
    unfold startD at h
    by_cases hi : i < ds.length
    · rw [List.getElem?_append_left (by simpa using hi), List.getElem?_map] at h
      obtain ⟨d, _, h⟩ := Option.map_eq_some_iff.mp h
      cases h
    · rw [List.getElem?_append_right (by simpa using hi), List.getElem?_replicate] at h
      split at h <;> cases h
  refine ⟨.refl g, by unfold start startD; simp [r.length], fun i v e => ?_, fun _ _ _ h => (no h).elim, fun _ _ h => (no h).elim⟩
  unfold startD at e
  by_cases hi : i < ds.length
  · rw [List.getElem?_append_left (by simpa using hi), List.getElem?_map] at e
    obtain ⟨d, hd, e⟩ := Option.map_eq_some_iff.mp e
    cases e
    obtain ⟨t, h1, h2⟩ := r.get hd
    refine ⟨t, ?_, h2⟩
    unfold start
    rw [List.getElem?_append_left (by rw [List.length_map, r.length]; exact hi), List.getElem?_map, h1]; rfl
  · rw [List.getElem?_append_right (by simpa using hi), List.getElem?_replicate] at e
    split at e <;> cases e
/-- what a run by values tells holds -/
theorem ev_call {Γ : Pg} (hrp : RpOk Γ.rp) : ∀ (k f : Nat) (ds ts : List T) (sh st : St), Sub sh st → Rps sh ts ds → ∀ (E' : Ex → Prop) (P : Bool × T → Prop) (E : EK) (Q : TK), (evCall Γ k f ds).all E' P → ExOk st sh E' E →
    (∀ r, P r → ∀ t sh' st', Gr st sh sh' st' → VR st sh' st' r t → Q t st') → wpCall Γ k f ts st E Q := by
  intro k
  induction k with
  | zero => intro f ds ts sh st g r E' P E Q h; exact h.elim
  | succ k ih =>
    intro f ds ts sh st g r E' P E Q h x q
    simp only [evCall] at h
    simp only [wpCall]
    have c : CEv ⟨wpCall Γ k, Γ.fns.length, fun i => Γ.glob[i]?, Γ.rp⟩ ⟨evCall Γ k, Γ.fns.length, fun i => Γ.glob[i]?, Γ.rp⟩ := ⟨ih, rfl, rfl, rfl, hrp⟩
    split at h
    · rename_i np nl body hf
      try rw [hf]
      split at h
      · rename_i hl
        simp only [all_bind] at h
        refine ⟨r.length.trans hl, ev_ss c body (start_iv g r) h (fun y hy x' sh' st' g' e1 e2 => ⟨st', .refl _, x y hy x' sh' st' g' e1 e2⟩) (fun de' hd sh' st' env' k' v' => ⟨st', .refl _, q _ hd _ _ _ v'.gr .non⟩) fun r' hr t sh' st' g' r2 => ⟨st', .refl _, q _ hr _ _ _ g' r2⟩⟩
      · exact h.elim
    · exact h.elim
    · rename_i hf
      try rw [hf]
      split at h
      · rename_i m
        cases r with
        | cons r1 r2 => cases r2 with
          | cons r2 r3 =>
            cases r3; cases r2
            cases r1 with
            | deck e =>
              refine ⟨_, m, rfl, g _ _ e, h.1.1, h.1.2, fun i i0 i1 => ?_⟩
              exact q _ (h.2 i i0 i1) _ _ _ (.refl g) (Rp.int i)
      · exact h.elim
    · exact h.elim
end Mo

set_option Elab.async false
set_option linter.all false
set_option maxRecDepth 100000
set_option autoImplicit false
namespace Mo
open PySem PyProof.Rows
/-! the text of repr is a text -/
def ChOk (x : Str) : Prop := ∀ c ∈ x.cps.toList, c < 1114112
theorem char_lt (c : Char) : c.toNat < 1114112 := by
  have h : c.val.toNat.isValidChar := c.valid
  unfold Nat.isValidChar at h
  show c.val.toNat < 1114112
  omega
theorem ch_app {a b : Str} (h : ChOk a) (k : ChOk b) : ChOk (a ++ b) := fun c hc => by
  have e : (a ++ b).cps = a.cps ++ b.cps := rfl
  rw [e, Array.toList_append] at hc
  rcases List.mem_append.mp hc with hc | hc
  · exact h c hc
  · exact k c hc
theorem ch_of (s : String) : ChOk (Str.ofString s) := fun c hc => by
  rw [Str.ofString_eq_toList] at hc
  simp only [List.mem_map] at hc
  obtain ⟨d, _, rfl⟩ := hc
  exact char_lt d
theorem ch_char {q c : Nat} (hc : c < 1114112) : ∀ d ∈ PySem.Builtin.Str.reprChar q c, d < 1114112 := by
  have hex : ∀ w, ∀ d ∈ (List.replicate (w - ((Nat.toDigits 16 c).map Char.toNat).length) 48 ++ (Nat.toDigits 16 c).map Char.toNat), d < 1114112 := by
    intro w d hd
    rcases List.mem_append.mp hd with hd | hd
    · rw [(List.mem_replicate.mp hd).2]; decide
    · obtain ⟨e, _, rfl⟩ := List.mem_map.mp hd
      exact char_lt e
  have two : ∀ a b, a < 1114112 → b < 1114112 → ∀ d ∈ [a, b], d < 1114112 := fun a b ha hb d hd => by
    rcases List.mem_cons.mp hd with rfl | hd
    · exact ha
    · rw [List.mem_singleton.mp hd]; exact hb
  have app : ∀ a b l, a < 1114112 → b < 1114112 → (∀ d ∈ l, d < 1114112) → ∀ d ∈ [a, b] ++ l, d < 1114112 := fun a b l ha hb hl d hd => by
    rcases List.mem_append.mp hd with hd | hd
    · exact two a b ha hb d hd
    · exact hl d hd
  unfold PySem.Builtin.Str.reprChar
  simp only
  split
  · exact two _ _ (by decide) hc
  · split
    · exact two _ _ (by decide) (by decide)
    · split
      · exact two _ _ (by decide) (by decide)
      · split
        · exact two _ _ (by decide) (by decide)
        · split
          · intro d hd; rw [List.mem_singleton.mp hd]; exact hc
          · split
            · exact app _ _ _ (by decide) (by decide) (hex 2)
            · split
              · exact app _ _ _ (by decide) (by decide) (hex 4)
              · exact app _ _ _ (by decide) (by decide) (hex 8)
theorem ch_repr {x : Str} (h : ChOk x) : ChOk (reprText x) := by
  have hq : reprQuote x < 1114112 := by unfold reprQuote; split <;> decide
  have key : ∀ (l : List Nat) (acc : Array Nat), (∀ c ∈ l, c < 1114112) → (∀ c ∈ acc.toList, c < 1114112) → ∀ c ∈ (l.foldl (fun out c => out ++ (PySem.Builtin.Str.reprChar (reprQuote x) c).toArray) acc).toList, c < 1114112 := by
    intro l
    induction l with
    | nil => intro acc _ h; exact h
    | cons d l ih =>
      intro acc h1 h2
      rw [List.foldl_cons]
      refine ih _ (fun c hc => h1 c (.tail _ hc)) fun c hc => ?_
      rw [Array.toList_append] at hc
      rcases List.mem_append.mp hc with hc | hc
      · exact h2 c hc
      · exact ch_char (h1 d (.head _)) c (by simpa using hc)
  intro c hc
  unfold reprText at hc
  simp only [Array.toList_push, List.mem_append, List.mem_singleton] at hc
  rcases hc with hc | hc
  · rw [← Array.foldl_toList] at hc
    exact key _ _ h (fun d (hd : d ∈ [reprQuote x]) => by rw [List.mem_singleton.mp hd]; exact hq) c hc
  · rw [hc]; exact hq
theorem ch_from : ∀ (ts : List Str) (k : Nat) (acc : Str), ChOk acc → (∀ t ∈ ts, ChOk t) → ChOk (textFrom k acc ts)
  | [], _, _, h, _ => h
  | t :: ts, k, acc, h, h2 => ch_from ts (k + 1) _ (ch_app (ch_app h (by split <;> exact ch_of _)) (h2 t (.head _))) fun u hu => h2 u (.tail _ hu)
theorem ch_join (sep : Str) (hs : ChOk sep) : ∀ (ts : List Str), (∀ t ∈ ts, ChOk t) → ChOk (Str.join sep ts)
  | [], _ => fun c hc => by cases hc
  | [x], h => h x (.head _)
  | x :: y :: r, h => ch_app (ch_app (h x (.head _)) hs) (ch_join sep hs (y :: r) fun t ht => h t (.tail _ ht))
mutual
theorem ch_shown : ∀ d : T, chT d = true → ChOk (toD d).shown
  | .non, _ => ch_of _
  | .bl b, _ => by cases b <;> exact ch_of _
  | .int i, _ => ch_of _
  | .str s, h => ch_repr fun c hc => by
    simp only [chT, List.all_eq_true, decide_eq_true_eq] at h
    exact h c (by simpa [cpsS] using hc)
  | .tup ts, h => by
    have h3 := ch_showns ts (by simpa [chT] using h)
    exact ch_app (ch_app (ch_of _) (ch_join _ (ch_of _) _ h3)) (by split <;> exact ch_of _)
  | .lst ts, h => by
    have h3 := ch_showns ts (by simpa [chT] using h)
    exact ch_app (ch_from _ _ _ (ch_of _) h3) (ch_of _)
  | .ref _, _ => ch_of _
  | .fn _, _ => ch_of _
  | .scr, _ => ch_of _
  | .dct _ _, _ => ch_of _
theorem ch_showns : ∀ ds : List T, chTs ds = true → ∀ t ∈ PyData.shownAll (toDs ds), ChOk t
  | [], _ => fun t h => by simp [toDs, PyData.shownAll] at h
  | d :: ds, h => by
    simp only [chTs, Bool.and_eq_true] at h
    intro t ht
    simp only [toDs, PyData.shownAll] at ht
    rcases List.mem_cons.mp ht with rfl | ht
    · exact ch_shown d h.1
    · exact ch_showns ds h.2 t ht
end
theorem rp_ok : RpOk rpT := fun d h1 h2 h3 => by
  simp only [okD, Bool.and_eq_true] at h1
  refine ⟨List.all_eq_true.mpr fun c hc => decide_eq_true (ch_shown d h1.2 c hc), ?_⟩
  have := shown_len d h2 h1.2
  have e : (rpT d).length = (toD d).shown.length := by simp [rpT, Str.length]
  omega
/-! a law's end -/
theorem law_ev {Γ : Pg} {k i f j nl : Nat} {rest : List Sm} (hrp : Γ.rp = rpT) (hi : Γ.fns[i]? = some (.code 1 nl (.set (.name j) (.call f [.var 0]) :: rest))) (hf : Γ.fns[f]? = some .mk) (hn : 1 ≤ nl)
    (h : (evSs ⟨evCall Γ (k + 1), Γ.fns.length, fun i => Γ.glob[i]?, Γ.rp⟩ rest ((startD nl [.scr]).set j (some (.val (.ref 0))))).all (fun _ => False) fun fl => fl = .rt (false, .bl true)) :
    wpCall Γ (k + 2) i [.scr] (fun _ => none) noE fun v _ => v = .bl true := by
  refine call_code (k := k + 1) hi rfl fun P _ hr => ?_
  refine p_cons (p_name (e_callc (es_cons (e_var (v := .scr) ?_ (es_nil (call_mk hf (fun _ z => by cases z) fun p hp => ?_))))))
  · unfold start
    cases nl with
    | zero => omega
    | succ n => rfl
  have c : CEv (cxt Γ (k + 1)) ⟨evCall Γ (k + 1), Γ.fns.length, fun i => Γ.glob[i]?, Γ.rp⟩ := ⟨ev_call (by rw [hrp]; exact rp_ok) (k + 1), rfl, rfl, rfl, by show RpOk Γ.rp; rw [hrp]; exact rp_ok⟩
  have v : IV (upd (fun _ => none) p .deck) (upd (fun _ => none) p .deck) (upd (fun _ => none) p .deck) (upd (fun _ => none) p .deck) (start nl [.scr]) (startD nl [.scr]) := start_iv (.refl _) (.cons .scr .nil)
  refine ev_ss c rest (v.setv (.deck (upd_same _ _ _))) h (PO := P) (fun _ z => z.elim) (fun _ z => by cases z) fun r hr' t sh' st' g' r2 => hr _ _ ⟨st', .refl _, ?_⟩
  cases hr'
  have r2 : Rp sh' t (.bl true) := r2
  cases r2
  rfl
end Mo

set_option Elab.async false
set_option linter.all false
set_option maxRecDepth 100000
set_option autoImplicit false
namespace Mo
open PySem PyProof.Rows
abbrev ecx (Γ : Pg) (k : Nat) : Ec := ⟨evCall Γ k, Γ.fns.length, fun i => Γ.glob[i]?, Γ.rp⟩
theorem ev_code {Γ : Pg} {k f np nl : Nat} {body : List Sm} {vs : List T} (hf : Γ.fns[f]? = some (.code np nl body)) (hl : vs.length = np) :
    evCall Γ (k + 1) f vs = (evSs (ecx Γ k) body (startD nl vs)).bind finF := by
  simp only [evCall, hf, if_pos hl]
theorem fin_nx (d : SE2) : finF (.nx d) = .ret (false, .non) := rfl
theorem fin_rt (r : Bool × T) : finF (.rt r) = .ret r := rfl
theorem ev_next {Γ : Pg} {k f : Nat} {m : Int} (hf : Γ.fns[f]? = some .next) : evCall Γ (k + 1) f [.ref 0, .int m] = .draw m fun r => .ret (false, .int r) := by
  simp only [evCall, hf]
@[simp] theorem go_nx (e : SE2) (k : SE2 → Tr Fl) : (Fl.nx e).go k = k e := rfl
@[simp] theorem go_rt (r : Bool × T) (k : SE2 → Tr Fl) : (Fl.rt r).go k = .ret (.rt r) := rfl
section
variable {α β : Type}
theorem ite_bind {c : Prop} [Decidable c] {a b : Tr α} {f : α → Tr β} : (if c then a else b).bind f = if c then a.bind f else b.bind f := by split <;> rfl
theorem ite_noexc {c : Prop} [Decidable c] {a b : Tr α} : (if c then a else b).noexc = if c then a.noexc else b.noexc := by split <;> rfl
theorem ite_ret {c : Prop} [Decidable c] {a b : α} : (if c then Tr.ret a else Tr.ret b) = .ret (if c then a else b) := by split <;> rfl
def evCoM (f : α → Tr (Option T)) : List α → Tr (List T)
  | [] => .ret []
  | x :: xs => (f x).bind fun o => (evCoM f xs).bind fun ys => .ret (consO o ys)
theorem evCo_map {f : T → Tr (Option T)} {e : α → T} : ∀ xs : List α, evCo f (xs.map e) = evCoM (fun a => f (e a)) xs
  | [] => rfl
  | x :: xs => by simp only [List.map_cons, evCo, evCoM, evCo_map xs]
theorem evCoM_map {f : β → Tr (Option T)} {e : α → β} : ∀ xs : List α, evCoM f (xs.map e) = evCoM (fun a => f (e a)) xs
  | [] => rfl
  | x :: xs => by simp only [List.map_cons, evCoM, evCoM_map xs]
theorem evCoM_some {g : α → T} : ∀ xs : List α, evCoM (fun a => .ret (some (g a))) xs = .ret (xs.map g)
  | [] => rfl
  | x :: xs => by simp only [evCoM, evCoM_some xs, tr_ret, List.map_cons, consO]
theorem evCoM_if {p : α → Prop} [DecidablePred p] {g : α → T} : ∀ xs : List α, evCoM (fun a => if p a then .ret (some (g a)) else .ret none) xs = .ret ((xs.filter fun a => decide (p a)).map g)
  | [] => rfl
  | x :: xs => by
    simp only [evCoM, evCoM_if xs, tr_ret]
    by_cases h : p x <;> simp [h, consO]
theorem evCoM_congr {f g : α → Tr (Option T)} {xs : List α} (h : ∀ a ∈ xs, f a = g a) : evCoM f xs = evCoM g xs := by
  induction xs with
  | nil => rfl
  | cons x xs ih => simp only [evCoM, h x (.head _), ih fun a ha => h a (.tail _ ha)]
def evForM (m : SE2) (f : α → SE2 → Tr Fl) : List α → SE2 → Tr Fl
  | [], de => .ret (.nx de)
  | x :: xs, de => (f x de).bind fun fl => fl.go fun e => evForM m f xs (mask m e)
theorem evFor_map {m : SE2} {f : T → SE2 → Tr Fl} {e : α → T} : ∀ (xs : List α) (de : SE2), evFor m f (xs.map e) de = evForM m (fun a => f (e a)) xs de
  | [], _ => rfl
  | x :: xs, de => by
    simp only [List.map_cons, evFor, evForM]
    congr 1
    funext fl
    cases fl with
    | nx d => exact evFor_map xs _
    | rt r => rfl
theorem evForM_fold {σ : Type} {m : SE2} {f : α → SE2 → Tr Fl} (E : σ → SE2) (step : σ → α → σ) : ∀ (xs : List α) (s : σ), (∀ a ∈ xs, ∀ s, ∃ d, f a (E s) = .ret (.nx d) ∧ mask m d = E (step s a)) → evForM m f xs (E s) = .ret (.nx (E (xs.foldl step s)))
  | [], s, _ => rfl
  | x :: xs, s, h => by
    obtain ⟨d, h1, h2⟩ := h x (.head _) s
    simp only [evForM, h1, tr_ret, Fl.go, h2, List.foldl_cons]
    exact evForM_fold E step xs _ fun a ha => h a (.tail _ ha)
theorem flat1 {g : α → β} : ∀ xs : List α, xs.flatMap (fun a => [g a]) = xs.map g
  | [] => rfl
  | x :: xs => by rw [List.flatMap_cons, flat1 xs]; rfl
/-- a loop that only adds to a list -/
theorem evForM_app {m : SE2} {f : α → SE2 → Tr Fl} (E : List T → SE2) (g : α → List T) (c : Nat) {xs : List α} (l0 : List T) (hz : l0.length + c * xs.length ≤ 16777216) (hc : ∀ a, (g a).length ≤ c)
    (h : ∀ i a l, xs[i]? = some a → i < xs.length → l.length + c ≤ 16777216 → ∃ d, f a (E l) = .ret (.nx d) ∧ mask m d = E (l ++ g a)) : evForM m f xs (E l0) = .ret (.nx (E (l0 ++ xs.flatMap g))) := by
  have key : ∀ (ys : List α) (j : Nat) (l : List T), (∀ i, ys[i]? = xs[j + i]?) → l.length ≤ l0.length + c * j → evForM m f ys (E l) = .ret (.nx (E (l ++ ys.flatMap g))) := by
    intro ys
    induction ys with
    | nil => intro j l _ _; simp [evForM]
    | cons y ys ih =>
      intro j l hy hl
      have hj : xs[j]? = some y := by rw [← Nat.add_zero j, ← hy 0]; rfl
      have hlt := (List.getElem?_eq_some_iff.mp hj).1
      have hm : c * (j + 1) ≤ c * xs.length := Nat.mul_le_mul_left c hlt
      rw [Nat.mul_add] at hm
      obtain ⟨d, h1, h2⟩ := h j y l hj hlt (by omega)
      simp only [evForM, h1, tr_ret, Fl.go, h2, List.flatMap_cons]
      rw [ih (j + 1) (l ++ g y) (fun i => by rw [Nat.add_assoc, Nat.add_comm 1 i, ← hy (i + 1)]; rfl) (by
        rw [List.length_append]
        have := hc y
        rw [Nat.mul_add]
        omega), List.append_assoc]
  exact key xs 0 l0 (fun i => by rw [Nat.zero_add]) (by omega)
theorem evForM_app1 {m : SE2} {f : α → SE2 → Tr Fl} (E : List T → SE2) (g : α → T) {xs : List α} (l0 : List T) (hz : l0.length + xs.length ≤ 16777216)
    (h : ∀ i a l, xs[i]? = some a → i < xs.length → l.length < 16777216 → ∃ d, f a (E l) = .ret (.nx d) ∧ mask m d = E (l ++ [g a])) : evForM m f xs (E l0) = .ret (.nx (E (l0 ++ xs.map g))) := by
  rw [evForM_app E (fun a => [g a]) 1 l0 (by omega) (fun _ => Nat.le_refl 1) (fun i a l h1 h2 h3 => h i a l h1 h2 (by omega))]
  congr 4
  exact flat1 xs
/-- with what holds so far -/
theorem evForM_inv {m : SE2} {f : α → SE2 → Tr Fl} {X : Ex → Prop} {P : Fl → Prop} (I : Nat → SE2 → Prop) {xs : List α} {de : SE2} (h0 : I 0 de)
    (h : ∀ i a d, xs[i]? = some a → I i d → (f a d).all X fun fl => match fl with | .nx d2 => I (i + 1) (mask m d2) | .rt r => P (.rt r)) (hn : ∀ d, I xs.length d → P (.nx d)) : (evForM m f xs de).all X P := by
  have key : ∀ (ys : List α) (j : Nat) (d : SE2), (∀ i, ys[i]? = xs[j + i]?) → j + ys.length = xs.length → I j d → (evForM m f ys d).all X P := by
    intro ys
    induction ys with
    | nil => intro j d _ hl hi; exact hn d (by rw [← hl]; exact hi)
    | cons y ys ih =>
      intro j d hy hl hi
      simp only [evForM, all_bind]
      refine all_mono (fun fl hf => ?_) _ (h j y d (by rw [← Nat.add_zero j, ← hy 0]; rfl) hi)
      cases fl with
      | rt r => exact hf
      | nx d2 => exact ih (j + 1) _ (fun i => by rw [Nat.add_assoc, Nat.add_comm 1 i, ← hy (i + 1)]; rfl) (by rw [← hl, List.length_cons]; omega) hf
  exact key xs 0 de (fun i => by rw [Nat.zero_add]) (by omega) h0
end
/-! what things tell, one by one -/
section
variable {i j : Int} {a b : List T} {x y : Sg} {p q : Bool} {t u : T}
theorem bn1 : binD .add (.int i) (.int j) = some (.int (i + j)) := rfl
theorem bn2 : binD .sub (.int i) (.int j) = some (.int (i - j)) := rfl
theorem bn3 : binD .mul (.int i) (.int j) = if mulOk i j then some (.int (i * j)) else none := rfl
theorem bn4 : binD .fdiv (.int i) (.int j) = if divOk j then some (.int (i / j)) else none := rfl
theorem bn5 : binD .mod (.int i) (.int j) = if 0 < j then some (.int (i % j)) else none := rfl
theorem bn6 : binD .pow (.int i) (.int j) = if 0 ≤ j ∧ j ≤ 1000 ∧ i.natAbs < 2 ^ 64 then some (.int (i ^ j.toNat)) else none := rfl
theorem bn7 : binD .add (.str x) (.str y) = if x.length + y.length ≤ SZ then some (.str (x ++ y)) else none := rfl
theorem bn8 : binD .add (.tup a) (.tup b) = if a.length + b.length ≤ SZ then some (.tup (a ++ b)) else none := rfl
theorem bn9 : binD .add (.lst a) (.lst b) = if a.length + b.length ≤ SZ then some (.lst (a ++ b)) else none := rfl
theorem bn10 : binD .mul (.tup a) (.int j) = if a.isEmpty = false ∧ 1 ≤ j ∧ j ≤ 1000 ∧ a.length ≤ 1000 then some (.tup (rep j.toNat a)) else none := rfl
theorem bn11 : binD .mul (.lst a) (.int j) = if 0 ≤ j ∧ j ≤ 1000 ∧ a.length ≤ 1000 then some (.lst (rep j.toNat a)) else none := rfl
theorem tu1 : truD .non = some false := rfl
theorem tu2 : truD (.bl p) = some p := rfl
theorem tu3 : truD (.int i) = some (i != 0) := rfl
theorem tu4 : truD (.str x) = some (!x.isEmpty) := rfl
theorem tu5 : truD (.tup a) = some (!a.isEmpty) := rfl
theorem tu6 : truD (.lst a) = some (!a.isEmpty) := rfl
theorem cm1 : cmpD .eq t u = eqD t u := rfl
theorem cm2 : cmpD .ne t u = (eqD t u).map (!·) := rfl
theorem cm3 : cmpD .lt t u = ltD t u := rfl
theorem cm4 : cmpD .le t u = leD t u := rfl
theorem cm5 : cmpD .gt t u = gtD t u := rfl
theorem cm6 : cmpD .ge t u = geD t u := rfl
theorem cm7 : cmpD .is t .non = some (isNon t) := rfl
theorem cm8 : cmpD .isnot t .non = some (!isNon t) := rfl
theorem cm9 : cmpD .isin t u = inD t u := rfl
theorem cm10 : cmpD .notin t u = (inD t u).map (!·) := rfl
theorem in1 : isNon .non = true := rfl
theorem in2 : isNon (.bl p) = false := rfl
theorem in3 : isNon (.int i) = false := rfl
theorem in4 : isNon (.str x) = false := rfl
theorem in5 : isNon (.tup a) = false := rfl
theorem in6 : isNon (.lst a) = false := rfl
theorem eq1 : eqD (.int i) (.int j) = some (i == j) := rfl
theorem eq2 : eqD (.str x) (.str y) = some (x == y) := rfl
theorem eq3 : eqD (.bl p) (.bl q) = some (p == q) := rfl
theorem eq4 : eqD (.tup a) u = if okE (.tup a) = true ∧ okE u = true then some (eqT (.tup a) u) else none := rfl
theorem eq5 : eqD (.lst a) u = if okE (.lst a) = true ∧ okE u = true then some (eqT (.lst a) u) else none := rfl
theorem eq6 : eqD (.int i) (.tup a) = if okE (.int i) = true ∧ okE (.tup a) = true then some (eqT (.int i) (.tup a)) else none := rfl
theorem eq7 : eqD (.int i) .non = some false := rfl
theorem eq8 : eqD .non (.int i) = some false := rfl
theorem lt1 : ltD (.int i) (.int j) = some (decide (i < j)) := rfl
theorem lt2 : ltD (.str x) (.str y) = some (decide (x < y)) := rfl
theorem le1 : leD (.int i) (.int j) = some (decide (i ≤ j)) := rfl
theorem le2 : leD (.str x) (.str y) = some (!decide (y < x)) := rfl
theorem gt1 : gtD (.int i) (.int j) = some (decide (j < i)) := rfl
theorem ge1 : geD (.int i) (.int j) = some (decide (j ≤ i)) := rfl
theorem ix1 : idxD (.tup a) (.int i) = atT a i := rfl
theorem ix2 : idxD (.str x) (.int i) = (atT x i).map fun c => .str [c] := rfl
theorem ix3 : idxD (.lst a) (.int i) = atT a i := rfl
theorem sl1 {lo hi : Option Int} : slcD (.tup a) lo hi = some (.tup (cutT a lo hi)) := rfl
theorem sl2 {lo hi : Option Int} : slcD (.str x) lo hi = some (.str (cutT x lo hi)) := rfl
theorem sl3 {lo hi : Option Int} : slcD (.lst a) lo hi = some (.lst (cutT a lo hi)) := rfl
theorem rv1 : revD (.lst a) = some (.lst a.reverse) := rfl
theorem is1 {ty : Ty} : isiD .non ty = some false := rfl
theorem is2 : isiD (.bl p) .int = some true := rfl
theorem is3 : isiD (.bl p) .bool = some true := rfl
theorem is4 : isiD (.bl p) .str = some false := rfl
theorem is5 : isiD (.bl p) .tuple = some false := rfl
theorem is6 : isiD (.int i) .int = some true := rfl
theorem is7 : isiD (.int i) .bool = some false := rfl
theorem is8 : isiD (.int i) .str = some false := rfl
theorem is9 : isiD (.int i) .tuple = some false := rfl
theorem is10 : isiD (.str x) .int = some false := rfl
theorem is11 : isiD (.str x) .bool = some false := rfl
theorem is12 : isiD (.str x) .str = some true := rfl
theorem is13 : isiD (.str x) .tuple = some false := rfl
theorem is14 : isiD (.tup a) .int = some false := rfl
theorem is15 : isiD (.tup a) .bool = some false := rfl
theorem is16 : isiD (.tup a) .str = some false := rfl
theorem is17 : isiD (.tup a) .tuple = some true := rfl
theorem is18 {ty : Ty} : isiD (.lst a) ty = some false := rfl
theorem ln1 : lenD (.str x) = some x.length := rfl
theorem ln2 : lenD (.tup a) = some a.length := rfl
theorem ln3 : lenD (.lst a) = some a.length := rfl
theorem bi1 {rp : T → Sg} : biD rp .len [t] = (lenD t).map fun n : Nat => .int (n : Int) := rfl
theorem bi2 {rp : T → Sg} : biD rp .abs [.int i] = some (.int (if i < 0 then -i else i)) := rfl
theorem bi3 {rp : T → Sg} : biD rp .int [.int i] = some (.int i) := rfl
theorem bi4 {rp : T → Sg} : biD rp .int [.bl p] = some (.int (if p then 1 else 0)) := rfl
theorem bi5 {rp : T → Sg} : biD rp .repr [t] = if okE t = true ∧ smlT t = true ∧ szT t ≤ SZ then some (.str (rp t)) else none := rfl
theorem bi6 {rp : T → Sg} : biD rp .max2 [.int i, .int j] = some (.int (max i j)) := by
  show some (T.int (if j > i then j else i)) = _
  congr 2; omega
theorem bi7 {rp : T → Sg} : biD rp .min2 [.int i, .int j] = some (.int (min i j)) := by
  show some (T.int (if j < i then j else i)) = _
  congr 2; omega
theorem bi8 {rp : T → Sg} : biD rp .divmod [.int i, .int j] = if 0 < j ∧ j < 1073741824 then some (.tup [.int (i / j), .int (i % j)]) else none := rfl
theorem sq1 : seqD (.tup a) = some a := rfl
theorem sq2 : seqD (.lst a) = some a := rfl
theorem id1 : intD (.int i) = some i := rfl
theorem sd1 : strD (.str x) = some x := rfl
theorem ld1 : lstD (.lst a) = some a := rfl
theorem ad1 {n : Nat} {e : DE} : asgD (.name n) t e = some (e.set n (some t)) := by simp only [asgD]
theorem ad2 {gs : List Tg} {e : DE} : asgD (.tup gs) (.tup a) e = asgDs gs a e := by simp only [asgD]
theorem ad3 {gs : List Tg} {e : DE} : asgD (.tup gs) (.lst a) e = asgDs gs a e := by simp only [asgD]
theorem ad4 {e : DE} : asgDs [] [] e = some e := by simp only [asgDs]
theorem ad5 {g : Tg} {gs : List Tg} {e : DE} : asgDs (g :: gs) (t :: a) e = (asgD g t e).bind fun e => asgDs gs a e := by
  simp only [asgDs]; cases asgD g t e <;> rfl
theorem as1 {n : Nat} {e : SE2} : asgS (.name n) t e = some (e.set n (some (.val t))) := by simp only [asgS]
theorem as2 {gs : List Tg} {e : SE2} : asgS (.tup gs) (.tup a) e = asgSs gs a e := by simp only [asgS]
theorem as3 {gs : List Tg} {e : SE2} : asgS (.tup gs) (.lst a) e = asgSs gs a e := by simp only [asgS]
theorem as4 {e : SE2} : asgSs [] [] e = some e := by simp only [asgSs]
theorem as5 {g : Tg} {gs : List Tg} {e : SE2} : asgSs (g :: gs) (t :: a) e = (asgS g t e).bind fun e => asgSs gs a e := by
  simp only [asgSs]; cases asgS g t e <;> rfl
theorem li1 : liD .tuple a = some (.tup a) := rfl
theorem li2 : liD .list a = some (.lst a) := rfl
theorem li3 : liD .sum a = (intsOf a).map fun ns => .int ns.sum := rfl
theorem li4 : liD .all a = (blsOf a).map fun bs => .bl (bs.all id) := rfl
theorem li5 : liD .any a = (blsOf a).map fun bs => .bl (bs.any id) := rfl
theorem li6 : liD .len a = some (.int a.length) := rfl
theorem li7 : liD .max a = (intsOf a).bind fun ns => (maxI ns).map .int := rfl
theorem li8 : liD .min a = (intsOf a).bind fun ns => (minI ns).map .int := rfl
theorem jo1 : joinD (.str x) a = (strsOf a).bind fun ss => if (ss.map (·.length)).sum + ss.length * x.length ≤ SZ then some (.str (List.intercalate x ss)) else none := rfl
theorem ra1 : rangeD [.int i] = if -1000000 ≤ i ∧ i ≤ 16777216 then some (rangeT 0 i) else none := rfl
theorem ra2 : rangeD [.int i, .int j] = if -1000000 ≤ i ∧ i ≤ 16777216 ∧ -1000000 ≤ j ∧ j ≤ 16777216 ∧ j - i ≤ 16777216 then some (rangeT i j) else none := rfl
theorem zi1 : zipD [a, b] = some (zipT [a, b]) := rfl
theorem zi2 {c : List T} : zipD [a, b, c] = some (zipT [a, b, c]) := rfl
theorem cl1 : clean (false, t) = pureT t := rfl
theorem cl2 : clean (true, .lst a) = pureTs a := rfl
theorem sf1 : slF (false, t) = .val t := rfl
theorem sf2 : slF (true, .lst a) = .own a := rfl
theorem ke1 {c : Bool} {d : SE2} : keepIf c d d = d := by unfold keepIf; split <;> rfl
theorem ke2 {c d : SE2} : keepIf true c d = c := rfl
theorem ke3 {c d : SE2} : keepIf false c d = d := rfl
theorem pb1 : pubO none = none := rfl
theorem pb2 : pubO (some (.val t)) = some (.val t) := rfl
theorem pb3 : pubO (some (.own a)) = some (.val (.lst a)) := rfl
theorem vi1 : vis [] = [] := rfl
theorem vi2 {d : SE2} : vis (none :: d) = none :: vis d := rfl
theorem vi3 {d : SE2} : vis (some (.val t) :: d) = some t :: vis d := rfl
theorem vi4 {d : SE2} : vis (some (.own a) :: d) = none :: vis d := rfl
theorem pu1 {d : SE2} : pub [] d = d := rfl
theorem pu2 {d : SE2} {n : Nat} {os : List Nat} : pub (n :: os) d = pub os (pub1 d n) := rfl
theorem wi1 {e : DE} : wipe e [] = e := rfl
theorem wi2 {e : DE} {n : Nat} {os : List Nat} : wipe e (n :: os) = wipe (e.set n none) os := rfl
theorem ss1 {C : Ec} {d : SE2} : evSs C [] d = .ret (.nx d) := by simp only [evSs]
theorem ss2 {C : Ec} {s : Sm} {ss : List Sm} {o : Option Sl} {d : SE2} : evSs C (s :: ss) (o :: d) = (evS C s (o :: d)).bind fun fl => fl.go fun e => evSs C ss e := by simp only [evSs]
theorem il1 : isLst (.lst a) = true := rfl
theorem il2 : isLst (.tup a) = false := rfl
theorem il3 : isLst (.int i) = false := rfl
theorem il4 : isLst (.str x) = false := rfl
theorem pt1 : pureT .non = true := rfl
theorem pt2 : pureT (.bl p) = true := rfl
theorem pt3 : pureT (.int i) = true := rfl
theorem pt4 : pureT (.str x) = true := rfl
theorem pt5 : pureT (.tup a) = pureTs a := by simp only [pureT]
theorem pt6 : pureT (.lst a) = false := by simp only [pureT]
theorem pt7 : pureTs [] = true := by simp only [pureTs]
theorem pt8 : pureTs (t :: a) = (pureT t && pureTs a) := by simp only [pureTs]
theorem pureTs_map {α : Type} {e : α → T} : ∀ xs : List α, pureTs (xs.map e) = xs.all fun a => pureT (e a)
  | [] => by simp [pureTs]
  | x :: xs => by simp only [List.map_cons, pureTs, pureTs_map xs, List.all_cons]
theorem all_true {α : Type} (xs : List α) : (xs.all fun _ => true) = true := by simp
end
/-! tests and what is made, by each construct -/
section
variable {C : Ec} {env : DE}
theorem et_var {i : Nat} : evT C (.var i) env = (evE C (.var i) env).bind fun x => Tr.ofO (truD x) := by simp only [evT]
theorem et_int {i : Int} : evT C (.int i) env = (evE C (.int i) env).bind fun x => Tr.ofO (truD x) := by simp only [evT]
theorem et_str {i : Sg} : evT C (.str i) env = (evE C (.str i) env).bind fun x => Tr.ofO (truD x) := by simp only [evT]
theorem et_bl {i : Bool} : evT C (.bl i) env = (evE C (.bl i) env).bind fun x => Tr.ofO (truD x) := by simp only [evT]
theorem et_non  : evT C .non env = (evE C .non env).bind fun x => Tr.ofO (truD x) := by simp only [evT]
theorem et_glob {i : Nat} : evT C (.glob i) env = (evE C (.glob i) env).bind fun x => Tr.ofO (truD x) := by simp only [evT]
theorem et_fnv {i : Nat} : evT C (.fnv i) env = (evE C (.fnv i) env).bind fun x => Tr.ofO (truD x) := by simp only [evT]
theorem et_bin {o : Op} {a b : X} : evT C (.bin o a b) env = (evE C (.bin o a b) env).bind fun x => Tr.ofO (truD x) := by simp only [evT]
theorem et_neg {a : X} : evT C (.neg a) env = (evE C (.neg a) env).bind fun x => Tr.ofO (truD x) := by simp only [evT]
theorem et_cmp {o : Co} {a b : X} : evT C (.cmp o a b) env = (evE C (.cmp o a b) env).bind fun x => Tr.ofO (truD x) := by simp only [evT]
theorem et_chain {o p : Co} {a b d : X} : evT C (.chain o p a b d) env = (evE C (.chain o p a b d) env).bind fun x => Tr.ofO (truD x) := by simp only [evT]
theorem et_tup {es : List X} : evT C (.tup es) env = (evE C (.tup es) env).bind fun x => Tr.ofO (truD x) := by simp only [evT]
theorem et_new {l : L} : evT C (.new l) env = (evE C (.new l) env).bind fun x => Tr.ofO (truD x) := by simp only [evT]
theorem et_idx {a b : X} : evT C (.idx a b) env = (evE C (.idx a b) env).bind fun x => Tr.ofO (truD x) := by simp only [evT]
theorem et_slc {a : X} {u v : Option X} : evT C (.slc a u v) env = (evE C (.slc a u v) env).bind fun x => Tr.ofO (truD x) := by simp only [evT]
theorem et_rev {a : X} : evT C (.rev a) env = (evE C (.rev a) env).bind fun x => Tr.ofO (truD x) := by simp only [evT]
theorem et_call {f : Nat} {es : List X} : evT C (.call f es) env = (evE C (.call f es) env).bind fun x => Tr.ofO (truD x) := by simp only [evT]
theorem et_callv {f : Nat} {es : List X} : evT C (.callv f es) env = (evE C (.callv f es) env).bind fun x => Tr.ofO (truD x) := by simp only [evT]
theorem et_bi {f : Bi} {es : List X} : evT C (.bi f es) env = (evE C (.bi f es) env).bind fun x => Tr.ofO (truD x) := by simp only [evT]
theorem et_isi {a : X} {ty : Ty} : evT C (.isi a ty) env = (evE C (.isi a ty) env).bind fun x => Tr.ofO (truD x) := by simp only [evT]
theorem et_li {f : Li} {l : L} : evT C (.li f l) env = (evE C (.li f l) env).bind fun x => Tr.ofO (truD x) := by simp only [evT]
theorem et_join {a : X} {l : L} : evT C (.join a l) env = (evE C (.join a l) env).bind fun x => Tr.ofO (truD x) := by simp only [evT]
theorem et_not {a : X} : evT C (.not a) env = (evT C a env).bind fun t => .ret (!t) := by simp only [evT]
theorem et_and {a b : X} : evT C (.and a b) env = (evT C a env).bind fun t => if t = true then evT C b env else .ret false := by simp only [evT]
theorem et_or {a b : X} : evT C (.or a b) env = (evT C a env).bind fun t => if t = true then .ret true else evT C b env := by simp only [evT]
theorem et_ite {c a b : X} : evT C (.ite c a b) env = (evT C c env).bind fun t => if t = true then evT C a env else evT C b env := by simp only [evT]
theorem ef_var {i : Nat} : evF C (.var i) env = (evE C (.var i) env).bind fun v => .ret (false, v) := rfl
theorem ef_int {i : Int} : evF C (.int i) env = (evE C (.int i) env).bind fun v => .ret (false, v) := rfl
theorem ef_str {i : Sg} : evF C (.str i) env = (evE C (.str i) env).bind fun v => .ret (false, v) := rfl
theorem ef_bl {i : Bool} : evF C (.bl i) env = (evE C (.bl i) env).bind fun v => .ret (false, v) := rfl
theorem ef_non  : evF C .non env = (evE C .non env).bind fun v => .ret (false, v) := rfl
theorem ef_glob {i : Nat} : evF C (.glob i) env = (evE C (.glob i) env).bind fun v => .ret (false, v) := rfl
theorem ef_fnv {i : Nat} : evF C (.fnv i) env = (evE C (.fnv i) env).bind fun v => .ret (false, v) := rfl
theorem ef_neg {a : X} : evF C (.neg a) env = (evE C (.neg a) env).bind fun v => .ret (false, v) := rfl
theorem ef_cmp {o : Co} {a b : X} : evF C (.cmp o a b) env = (evE C (.cmp o a b) env).bind fun v => .ret (false, v) := rfl
theorem ef_chain {o p : Co} {a b d : X} : evF C (.chain o p a b d) env = (evE C (.chain o p a b d) env).bind fun v => .ret (false, v) := rfl
theorem ef_tup {es : List X} : evF C (.tup es) env = (evE C (.tup es) env).bind fun v => .ret (false, v) := rfl
theorem ef_idx {a b : X} : evF C (.idx a b) env = (evE C (.idx a b) env).bind fun v => .ret (false, v) := rfl
theorem ef_callv {f : Nat} {es : List X} : evF C (.callv f es) env = (evE C (.callv f es) env).bind fun v => .ret (false, v) := rfl
theorem ef_bi {f : Bi} {es : List X} : evF C (.bi f es) env = (evE C (.bi f es) env).bind fun v => .ret (false, v) := rfl
theorem ef_isi {a : X} {ty : Ty} : evF C (.isi a ty) env = (evE C (.isi a ty) env).bind fun v => .ret (false, v) := rfl
theorem ef_join {a : X} {l : L} : evF C (.join a l) env = (evE C (.join a l) env).bind fun v => .ret (false, v) := rfl
theorem ef_not {a : X} : evF C (.not a) env = (evE C (.not a) env).bind fun v => .ret (false, v) := rfl
theorem ef_and {a b : X} : evF C (.and a b) env = (evE C (.and a b) env).bind fun v => .ret (false, v) := rfl
theorem ef_or {a b : X} : evF C (.or a b) env = (evE C (.or a b) env).bind fun v => .ret (false, v) := rfl
theorem ef_ite {c a b : X} : evF C (.ite c a b) env = (evE C (.ite c a b) env).bind fun v => .ret (false, v) := rfl
theorem ef_sub {a b : X} : evF C (.bin .sub a b) env = (evE C (.bin .sub a b) env).bind fun v => .ret (false, v) := rfl
theorem ef_fdiv {a b : X} : evF C (.bin .fdiv a b) env = (evE C (.bin .fdiv a b) env).bind fun v => .ret (false, v) := rfl
theorem ef_mod {a b : X} : evF C (.bin .mod a b) env = (evE C (.bin .mod a b) env).bind fun v => .ret (false, v) := rfl
theorem ef_pow {a b : X} : evF C (.bin .pow a b) env = (evE C (.bin .pow a b) env).bind fun v => .ret (false, v) := rfl
theorem ef_tuple {l : L} : evF C (.li .tuple l) env = (evE C (.li .tuple l) env).bind fun v => .ret (false, v) := rfl
theorem ef_sum {l : L} : evF C (.li .sum l) env = (evE C (.li .sum l) env).bind fun v => .ret (false, v) := rfl
theorem ef_all {l : L} : evF C (.li .all l) env = (evE C (.li .all l) env).bind fun v => .ret (false, v) := rfl
theorem ef_any {l : L} : evF C (.li .any l) env = (evE C (.li .any l) env).bind fun v => .ret (false, v) := rfl
theorem ef_max {l : L} : evF C (.li .max l) env = (evE C (.li .max l) env).bind fun v => .ret (false, v) := rfl
theorem ef_min {l : L} : evF C (.li .min l) env = (evE C (.li .min l) env).bind fun v => .ret (false, v) := rfl
theorem ef_len {l : L} : evF C (.li .len l) env = (evE C (.li .len l) env).bind fun v => .ret (false, v) := rfl
theorem ef_dict {l : L} : evF C (.li .dict l) env = (evE C (.li .dict l) env).bind fun v => .ret (false, v) := rfl
theorem ef_new {l : L} : evF C (.new l) env = (evL C l env).bind fun ts => .ret (true, .lst ts) := rfl
theorem ef_call {f : Nat} {es : List X} : evF C (.call f es) env = (evEs C es env).bind fun vs => C.call f vs := rfl
theorem ef_list {l : L} : evF C (.li .list l) env = (evL C l env).bind fun ts => .ret (true, .lst ts) := rfl
theorem ef_add {a b : X} : evF C (.bin .add a b) env = (evE C a env).bind fun x => (evE C b env).bind fun y => (Tr.ofO (binD .add x y)).bind fun r => .ret (isLst r, r) := rfl
theorem ef_mul {a b : X} : evF C (.bin .mul a b) env = (evE C a env).bind fun x => (evE C b env).bind fun y => (Tr.ofO (binD .mul x y)).bind fun r => .ret (isLst r, r) := rfl
theorem ef_slc {a : X} {lo hi : Option X} : evF C (.slc a lo hi) env = (evE C a env).bind fun x => (evO C lo env).bind fun l => (evO C hi env).bind fun h => (Tr.ofO (slcD x l h)).bind fun r => .ret (isLst r, r) := rfl
theorem ef_rev {a : X} : evF C (.rev a) env = (evE C a env).bind fun x => (Tr.ofO (revD x)).bind fun r => .ret (isLst r, r) := rfl
end
/-! sums and their like -/
theorem intsOf_map {α : Type} {g : α → Int} : ∀ xs : List α, intsOf (xs.map fun a => .int (g a)) = some (xs.map g)
  | [] => rfl
  | x :: xs => by simp only [List.map_cons, intsOf, intsOf_map xs, Option.map_some]
theorem blsOf_map {α : Type} {g : α → Bool} : ∀ xs : List α, blsOf (xs.map fun a => .bl (g a)) = some (xs.map g)
  | [] => rfl
  | x :: xs => by simp only [List.map_cons, blsOf, blsOf_map xs, Option.map_some]
theorem strsOf_map {α : Type} {g : α → Sg} : ∀ xs : List α, strsOf (xs.map fun a => .str (g a)) = some (xs.map g)
  | [] => rfl
  | x :: xs => by simp only [List.map_cons, strsOf, strsOf_map xs, Option.map_some]
theorem enumT_map {α : Type} {e : α → T} (xs : List α) : enumT (xs.map e) = xs.zipIdx.map fun q => .tup [.int q.2, e q.1] := by
  apply List.ext_getElem?
  intro i
  unfold enumT
  rw [List.getElem?_zipWith, List.getElem?_map, List.getElem?_map, List.getElem?_zipIdx]
  by_cases h : i < xs.length
  · rw [List.getElem?_range (by simpa using h)]
    simp [List.getElem?_eq_getElem h]
  · simp [List.getElem?_eq_none (Nat.le_of_not_lt h)]
theorem rangeT_map (lo hi : Int) : rangeT lo hi = (List.range (hi - lo).toNat).map fun i : Nat => .int (lo + i) := rfl
theorem zip2_map {α β : Type} {e : α → T} {f : β → T} (xs : List α) (ys : List β) : zipT [xs.map e, ys.map f] = (xs.zip ys).map fun q => .tup [e q.1, f q.2] := by
  simp [zipT, List.zip, List.map_zipWith, List.zipWith_map]
theorem zip3_map {α β γ : Type} {e : α → T} {f : β → T} {g : γ → T} (xs : List α) (ys : List β) (zs : List γ) : zipT [xs.map e, ys.map f, zs.map g] = (xs.zip (ys.zip zs)).map fun q => .tup [e q.1, f q.2.1, g q.2.2] := by
  simp only [zipT, List.zip, List.map_zipWith, List.zipWith_map]
  induction xs generalizing ys zs with
  | nil => simp
  | cons x xs ih => cases ys with
    | nil => simp
    | cons y ys => cases zs with
      | nil => simp
      | cons z zs => simp [ih]
theorem atT_0 {α : Type} {a : α} {l : List α} : atT (a :: l) 0 = some a := rfl
theorem atT_1 {α : Type} {a b : α} {l : List α} : atT (a :: b :: l) 1 = some b := rfl
theorem atT_2 {α : Type} {a b c : α} {l : List α} : atT (a :: b :: c :: l) 2 = some c := rfl
theorem atT_3 {α : Type} {a b c d : α} {l : List α} : atT (a :: b :: c :: d :: l) 3 = some d := rfl
theorem strOk_nil : strOk [] ↔ True := by decide
theorem foldl_app {α β : Type} {g : α → β} : ∀ (xs : List α) (l : List β), xs.foldl (fun l a => l ++ [g a]) l = l ++ xs.map g
  | [], l => by simp
  | x :: xs, l => by rw [List.foldl_cons, foldl_app xs, List.map_cons, List.append_assoc]; rfl
end Mo
set_option Elab.async false
set_option linter.all false
set_option maxRecDepth 100000
set_option maxHeartbeats 1000000
namespace Mo
open PySem PyProof.Rows
/-! values by their kinds -/
def encL (p : Int × Int) : T := .tup [.int p.1, .int p.2]
def encF (f : Sg × Int × Int) : T := .tup [.str f.1, .int f.2.1, .int f.2.2]
abbrev stand (ls : List (Int × Int)) (fs : List (Sg × Int × Int)) : T := .tup [.tup (ls.map encL), .tup (fs.map encF)]
theorem ex_succ {d k : Nat} (h : d + 1 ≤ k) : ∃ j, k = j + 1 ∧ d ≤ j := ⟨k - 1, by omega, by omega⟩
theorem pure_encL (ls : List (Int × Int)) : pureTs (ls.map encL) = true := by
  rw [pureTs_map]; simp [encL, pureT, pureTs]
theorem pure_encF (fs : List (Sg × Int × Int)) : pureTs (fs.map encF) = true := by
  rw [pureTs_map]; simp [encF, pureT, pureTs]
theorem depTs_map {α : Type} {e : α → T} {n : Nat} (h : ∀ a, depT (e a) ≤ n) : ∀ xs : List α, depTs (xs.map e) ≤ n
  | [] => Nat.zero_le _
  | x :: xs => by
    simp only [List.map_cons, depTs]
    exact Nat.max_le.mpr ⟨h x, depTs_map h xs⟩
theorem dep_encL (ls : List (Int × Int)) : depTs (ls.map encL) ≤ 1 := depTs_map (fun a => by simp [encL, depT, depTs]) ls
theorem dep_encF (ls : List (Sg × Int × Int)) : depTs (ls.map encF) ≤ 1 := depTs_map (fun a => by simp [encF, depT, depTs]) ls
theorem isD_pure {t : T} (h : pureT t = true) : isD t = true := (Dp.pure (fun _ => none) t h).isD
theorem isDs_pure {t : List T} (h : pureTs t = true) : isDs t = true := (Dps.pure (fun _ => none) t h).isDs
theorem okE_pure {t : T} (h : pureT t = true) (d : depT t ≤ 60) : okE t = true := by
  simp only [okE, isD_pure h, d, decide_true, Bool.and_self]
theorem eqD_self {t : T} (h : pureT t = true) (d : depT t ≤ 60) : eqD t t = some true := by
  have key : (if okE t = true ∧ okE t = true then some (eqT t t) else none) = some true := by
    rw [if_pos ⟨okE_pure h d, okE_pure h d⟩, eqT_refl t h]
  unfold eqD
  split
  · simp
  · simp
  · simp
  · exact key

end Mo

namespace Mo
open PySem PyProof.Rows
theorem dOk {m : Int} (h : 1 ≤ m) (h2 : m ≤ 10 ^ 100) : drawOk m := ⟨h, Int.lt_of_le_of_lt h2 (by decide +kernel)⟩
theorem mOk {i j : Int} (h : i.natAbs ≤ 10 ^ 100) (h2 : j.natAbs ≤ 10 ^ 100) : mulOk i j := ⟨Nat.lt_of_le_of_lt h (by unfold MB; decide +kernel), Nat.lt_of_le_of_lt h2 (by unfold MB; decide +kernel)⟩
theorem evCo_all {f : T → Tr (Option T)} {R : T → Prop} {X : Ex → Prop} : ∀ {xs : List T} {P : List T → Prop}, (∀ x ∈ xs, (f x).all X fun o => ∃ y, o = some y ∧ R y) → (∀ ys, ys.length = xs.length → (∀ y ∈ ys, R y) → P ys) → (evCo f xs).all X P
  | [], P, _, h => by simp only [evCo, all_ret]; exact h [] rfl fun _ z => by cases z
  | x :: xs, P, hf, h => by
    simp only [evCo, all_bind, all_ret]
    refine all_mono (fun o ho => ?_) _ (hf x (.head _))
    obtain ⟨y, rfl, hy⟩ := ho
    exact evCo_all (fun z hz => hf z (.tail _ hz)) fun ys hl hys => h (y :: ys) (by simp [hl]) fun z hz => by
      rcases List.mem_cons.mp hz with rfl | hz
      · exact hy
      · exact hys z hz
theorem evCoM_all {α : Type} {f : α → Tr (Option T)} {R : T → Prop} {X : Ex → Prop} : ∀ {xs : List α} {P : List T → Prop}, (∀ x ∈ xs, (f x).all X fun o => ∃ y, o = some y ∧ R y) → (∀ ys, ys.length = xs.length → (∀ y ∈ ys, R y) → P ys) → (evCoM f xs).all X P
  | [], P, _, h => by simp only [evCoM, all_ret]; exact h [] rfl fun _ z => by cases z
  | x :: xs, P, hf, h => by
    simp only [evCoM, all_bind, all_ret]
    refine all_mono (fun o ho => ?_) _ (hf x (.head _))
    obtain ⟨y, rfl, hy⟩ := ho
    exact evCoM_all (fun z hz => hf z (.tail _ hz)) fun ys hl hys => h (y :: ys) (by simp [hl]) fun z hz => by
      rcases List.mem_cons.mp hz with rfl | hz
      · exact hy
      · exact hys z hz
theorem range_mem {lo hi : Int} {x : T} (h : x ∈ rangeT lo hi) : ∃ i : Int, x = .int i ∧ lo ≤ i ∧ i < hi := by
  unfold rangeT at h
  obtain ⟨i, hi, rfl⟩ := List.mem_map.mp h
  rw [List.mem_range] at hi
  exact ⟨_, rfl, by simp; omega, by simp; omega⟩
def S_next (Γ : Pg) (i : Nat) : Prop := ∀ (k : Nat) (m : Int), 1 ≤ k → evCall Γ k i [.ref 0, .int m] = .draw m fun r => .ret (false, .int r)
theorem nextS_ok {Γ : Pg} {i : Nat} (hf : Γ.fns[i]? = some .next) : S_next Γ i := fun k m hk => by
  obtain ⟨k, rfl, hj⟩ := ex_succ hk
  exact ev_next hf
theorem exists_map {α : Type} {e : α → T} : ∀ {ys : List T}, (∀ y ∈ ys, ∃ a, y = e a) → ∃ xs : List α, ys = xs.map e
  | [], _ => ⟨[], rfl⟩
  | y :: ys, h => by
    obtain ⟨a, rfl⟩ := h y (.head _)
    obtain ⟨xs, rfl⟩ := exists_map (ys := ys) fun z hz => h z (.tail _ hz)
    exact ⟨a :: xs, rfl⟩
theorem exists_mapP {α : Type} {e : α → T} {R : α → Prop} : ∀ {ys : List T}, (∀ y ∈ ys, ∃ a, y = e a ∧ R a) → ∃ xs : List α, ys = xs.map e ∧ ∀ a ∈ xs, R a
  | [], _ => ⟨[], rfl, fun _ z => by cases z⟩
  | y :: ys, h => by
    obtain ⟨a, rfl, ha⟩ := h y (.head _)
    obtain ⟨xs, rfl, hx⟩ := exists_mapP (ys := ys) fun z hz => h z (.tail _ hz)
    exact ⟨a :: xs, rfl, fun z hz => by rcases List.mem_cons.mp hz with rfl | hz; exact ha; exact hx z hz⟩
theorem drawI {α : Type} {X : Ex → Prop} {P : α → Prop} {m : Int} {k : Int → Tr α} (h : 1 ≤ m) (h2 : m ≤ 10 ^ 100) (q : ∀ r, 0 ≤ r → r < m → (k r).all X P) : (Tr.draw m k).all X P := ⟨dOk h h2, q⟩
theorem bindI {α β : Type} {X : Ex → Prop} {P : β → Prop} {t : Tr α} {f : α → Tr β} (h : t.all X fun a => (f a).all X P) : (t.bind f).all X P := (all_bind t).mpr h
theorem retI {α : Type} {X : Ex → Prop} {P : α → Prop} {a : α} (h : P a) : (Tr.ret a).all X P := h
theorem mOkB {i : Int} {b : Bool} (h : i.natAbs ≤ 10 ^ 100) : mulOk i (if b = true then 1 else 0) := mOk h (by cases b <;> decide)
theorem mOkP {i : Int} {c : Prop} [Decidable c] (h : i.natAbs ≤ 10 ^ 100) : mulOk i (if c then 1 else 0) := mOk h (by split <;> decide)

end Mo

namespace Mo
open PySem PyProof.Rows
inductive All2 {α β : Type} (R : α → β → Prop) : List α → List β → Prop
  | nil : All2 R [] []
  | cons {a : α} {b : β} {as : List α} {bs : List β} : R a b → All2 R as bs → All2 R (a :: as) (b :: bs)
theorem All2.length {α β : Type} {R : α → β → Prop} : ∀ {xs : List α} {ys : List β}, All2 R xs ys → xs.length = ys.length
  | _, _, .nil => rfl
  | _, _, .cons _ b => by rw [List.length_cons, List.length_cons, All2.length b]
theorem All2.imp {α β : Type} {R S : α → β → Prop} (h : ∀ a b, R a b → S a b) : ∀ {xs : List α} {ys : List β}, All2 R xs ys → All2 S xs ys
  | _, _, .nil => .nil
  | _, _, .cons a b => .cons (h _ _ a) (All2.imp h b)
/-- what it is told of -/
theorem All2.ex {α β : Type} {R : α → T → Prop} {e : β → T} {S : α → β → Prop} (h : ∀ a t, R a t → ∃ b, t = e b ∧ S a b) : ∀ {xs : List α} {ys : List T}, All2 R xs ys → ∃ bs : List β, ys = bs.map e ∧ All2 S xs bs
  | _, _, .nil => ⟨[], rfl, .nil⟩
  | _, _, .cons a r => by
    obtain ⟨b, rfl, hb⟩ := h _ _ a
    obtain ⟨bs, rfl, hs⟩ := All2.ex h r
    exact ⟨b :: bs, rfl, .cons hb hs⟩
theorem All2.right {α β : Type} {R : α → β → Prop} : ∀ {xs : List α} {ys : List β}, All2 R xs ys → ∀ y ∈ ys, ∃ x ∈ xs, R x y
  | _, _, .nil, y, h => by cases h
  | _, _, .cons a b, y, h => by
    rcases List.mem_cons.mp h with rfl | h
    · exact ⟨_, .head _, a⟩
    · obtain ⟨x, hx, hr⟩ := All2.right b y h
      exact ⟨x, .tail _ hx, hr⟩
/-- a loop that adds one drawn thing a turn -/
theorem evForM_appD {α : Type} {m : SE2} {f : α → SE2 → Tr Fl} {X : Ex → Prop} {P : Fl → Prop} (E : List T → SE2) (R : α → T → Prop) {xs : List α} (l0 : List T) (hz : l0.length + xs.length ≤ 16777216)
    (h : ∀ a l, a ∈ xs → l.length < 16777216 → (f a (E l)).all X fun fl => ∃ t d, fl = .nx d ∧ mask m d = E (l ++ [t]) ∧ R a t) (q : ∀ ys, All2 R xs ys → P (.nx (E (l0 ++ ys)))) : (evForM m f xs (E l0)).all X P := by
  have key : ∀ (ys : List α) (l acc : List T), l.length + ys.length ≤ 16777216 → (∀ y ∈ ys, y ∈ xs) → (∀ zs, All2 R ys zs → P (.nx (E (l ++ zs)))) → (evForM m f ys (E l)).all X P := by
    intro ys
    induction ys with
    | nil => intro l _ _ _ q; simpa [evForM] using q [] .nil
    | cons y ys ih =>
      intro l acc hl hm q
      rw [List.length_cons] at hl
      simp only [evForM, all_bind]
      refine all_mono (fun fl hf => ?_) _ (h y l (hm y (.head _)) (by omega))
      obtain ⟨t, d, rfl, h2, hr⟩ := hf
      simp only [go_nx, h2]
      exact ih (l ++ [t]) acc (by rw [List.length_append]; simp; omega) (fun z hz => hm z (.tail _ hz)) fun zs hzs => by
        rw [List.append_assoc]; exact q (t :: zs) (.cons hr hzs)
  exact key xs l0 [] hz (fun _ h => h) q

end Mo

namespace Mo
open PySem PyProof.Rows
def B_law_names (i_law_next : Nat) : List Sm := [.set (.name 2) (.str [97, 98, 99, 100, 101, 102, 103, 104, 105, 106, 107, 108, 109, 110, 111, 112, 113, 114, 115, 116, 117, 118, 119, 120, 121, 122]), .set (.name 3) (.call i_law_next [(.var 0), (.int 26)]), .set (.name 4) (.join (.str []) (.comp (.idx (.var 2) (.call i_law_next [(.var 0), (.int 26)])) [] (.name 7) [6, 7] (.range [(.call i_law_next [(.var 0), (.int 4)])]))), .set (.name 5) (.join (.str []) (.comp (.idx (.var 2) (.call i_law_next [(.var 0), (.int 26)])) [] (.name 7) [6, 7] (.range [(.call i_law_next [(.var 0), (.int 4)])]))), .ret (some (.new (.srt (.comp (.bin .add (.bin .add (.var 4) (.idx (.var 2) (.bin .mod (.bin .add (.var 3) (.bin .mul (.int 7) (.var 7))) (.int 26)))) (.var 5)) [] (.name 7) [6, 7] (.range [(.var 1)])))))]
/-- names, rising, of small letters -/
def nameOk (s : Sg) : Prop := (1 ≤ s.length ∧ s.length ≤ 7) ∧ ∀ c ∈ s, 97 ≤ c ∧ c ≤ 122
def NamesOk (ns : List Sg) : Prop := ns.Pairwise (· < ·) ∧ ∀ s ∈ ns, nameOk s
def S_names (Γ : Pg) (i : Nat) : Prop := ∀ (k : Nat) (m : Int), 2 ≤ k → 0 ≤ m → m ≤ 26 → ∀ (X : Ex → Prop) (P : Bool × T → Prop), (∀ ns : List Sg, (ns.length : Int) = m → NamesOk ns → P (true, .lst (ns.map .str))) → (evCall Γ k i [.ref 0, .int m]).all X P
abbrev letters : Sg := [97, 98, 99, 100, 101, 102, 103, 104, 105, 106, 107, 108, 109, 110, 111, 112, 113, 114, 115, 116, 117, 118, 119, 120, 121, 122]
theorem letter_at {r : Int} (h0 : 0 ≤ r) (h1 : r < 26) : atT letters r = some (97 + r.toNat) := by
  have key : ∀ n, n < 26 → letters[n]? = some (97 + n) := by decide
  unfold atT
  rw [if_pos h0, key _ (by omega)]
theorem inter_nil : ∀ cs : List Nat, List.intercalate [] (cs.map fun c => [c]) = cs
  | [] => rfl
  | [c] => rfl
  | c :: d :: cs => by
    have ih := inter_nil (d :: cs)
    simp only [List.intercalate, List.map_cons, List.intersperse, List.flatten_cons, List.nil_append] at ih ⊢
    rw [ih]; rfl
theorem sum_ones {α : Type} : ∀ cs : List α, (cs.map fun _ => 1).sum = cs.length
  | [] => rfl
  | c :: cs => by
    rw [List.map_cons, List.sum_cons, sum_ones cs, List.length_cons]; omega
theorem len_ones : ∀ cs : List Nat, ((cs.map fun c => [c]).map (·.length)).sum = cs.length
  | [] => rfl
  | c :: cs => by
    have := len_ones cs
    simp only [List.map_cons, List.sum_cons, List.length_cons, List.length_nil] at this ⊢
    omega
/-- the names before they are sorted -/
def nm0 (h t : Sg) (r : Int) (i : Nat) : Sg := h ++ [97 + ((r + 7 * i) % 26).toNat] ++ t
theorem nm0_nodup (h t : Sg) (r : Int) {n : Nat} (hn : n ≤ 26) : ((List.range n).map (nm0 h t r)).Nodup := by
  rw [List.Nodup, List.pairwise_map]
  refine List.Pairwise.imp_of_mem (fun {a b} ha hb hab => ?_) (List.pairwise_lt_range (n := n))
  rw [List.mem_range] at ha hb
  intro z
  have z : h ++ [97 + ((r + 7 * (a : Int)) % 26).toNat] ++ t = h ++ [97 + ((r + 7 * (b : Int)) % 26).toNat] ++ t := z
  rw [List.append_left_inj, List.append_right_inj] at z
  simp only [List.cons.injEq, and_true] at z
  omega
def strLe (x y : Sg) : Bool := !decide (y < x)
theorem alks_str (ns : List Sg) : (((ns.map T.str).all fun x => (ns.map T.str).all fun y => alk x y)) = true := by
  simp [List.all_map, Function.comp_def, alk]
theorem srtD_str (ns : List Sg) : srtD (ns.map .str) = some ((ns.mergeSort strLe).map .str) := by
  unfold srtD
  rw [if_pos]
  · unfold msort
    rw [List.map_mergeSort (s := fun x y => !ltT y x)]
    intro a _ b _
    rfl
  · refine ⟨⟨?_, ?_⟩, alks_str ns, .inr ?_⟩
    · rw [pureTs_map]; simp [pureT]
    · exact Nat.le_trans (depTs_map (n := 0) (fun a => by simp [depT]) ns) (by omega)
    · simp [List.all_map, Function.comp_def, noTup]
theorem srtD_strs {α : Type} {g : α → Sg} (xs : List α) : srtD (xs.map fun a => .str (g a)) = some (((xs.map g).mergeSort strLe).map .str) := by
  rw [← srtD_str, List.map_map]; rfl
theorem sorted_names {ns : List Sg} (nd : ns.Nodup) : (ns.mergeSort strLe).Pairwise (· < ·) := by
  have h1 : (ns.mergeSort strLe).Pairwise (fun a b => strLe a b = true) := by
    apply List.pairwise_mergeSort
    · intro a b c h1 h2
      simp only [strLe, Bool.not_eq_true', decide_eq_false_iff_not, List.not_lt] at h1 h2 ⊢
      exact List.le_trans h1 h2
    · intro a b
      simp only [strLe, Bool.or_eq_true, Bool.not_eq_true', decide_eq_false_iff_not, List.not_lt]
      exact List.le_total a b
  have h2 : (ns.mergeSort strLe).Nodup := (List.mergeSort_perm ns strLe).nodup_iff.mpr nd
  refine List.Pairwise.imp₂ (fun a b h k => ?_) h1 h2
  simp only [strLe, Bool.not_eq_true', decide_eq_false_iff_not, List.not_lt] at h
  rcases List.le_iff_lt_or_eq.mp h with h | h
  · exact h
  · exact absurd h k
theorem names_ok {Γ : Pg} {i inx : Nat} (hf : Γ.fns[i]? = some (.code 2 8 (B_law_names inx))) (hn : S_next Γ inx) : S_names Γ i := fun k m hk m0 m1 X P h => by
  obtain ⟨k, rfl, hj⟩ := ex_succ hk
  rw [ev_code hf rfl]
  simp only [B_law_names, et_var, et_int, et_str, et_bl, et_non, et_glob, et_fnv, et_bin, et_neg, et_cmp, et_chain, et_tup, et_new, et_idx, et_slc, et_rev, et_call, et_callv, et_bi, et_isi, et_li, et_join, et_not, et_and, et_or, et_ite, ef_var, ef_int, ef_str, ef_bl, ef_non, ef_glob, ef_fnv, ef_neg, ef_cmp, ef_chain, ef_tup, ef_idx, ef_callv, ef_bi, ef_isi, ef_join, ef_not, ef_and, ef_or, ef_ite, ef_sub, ef_fdiv, ef_mod, ef_pow, ef_tuple, ef_sum, ef_all, ef_any, ef_max, ef_min, ef_len, ef_dict, ef_new, ef_call, ef_list, ef_add, ef_mul, ef_slc, ef_rev, ss1, ss2, evS, evE, evEs, evO, evL, evLs, evR, evIf, occE, occEs, occO, occL, occLs, occR, pub1, mask, bn1, bn2, bn3, bn4, bn5, bn6, bn7, bn8, bn9, bn10, bn11, tu1, tu2, tu3, tu4, tu5, tu6, cm1, cm2, cm3, cm4, cm5, cm6, cm7, cm8, cm9, cm10, in1, in2, in3, in4, in5, in6, eq1, eq2, eq3, eq4, eq5, eq6, eq7, eq8, lt1, lt2, le1, le2, gt1, ge1, ix1, ix2, ix3, sl1, sl2, sl3, rv1, is1, is2, is3, is4, is5, is6, is7, is8, is9, is10, is11, is12, is13, is14, is15, is16, is17, is18, ln1, ln2, ln3, bi1, bi2, bi3, bi4, bi6, bi7, bi8, sq1, sq2, id1, sd1, ld1, ad1, ad2, ad3, ad4, ad5, as1, as2, as3, as4, as5, li1, li2, li3, li4, li5, li6, li7, li8, jo1, ra1, ra2, zi1, zi2, cl1, cl2, sf1, sf2, ke1, ke2, ke3, pb1, pb2, pb3, vi1, vi2, vi3, vi4, pu1, pu2, wi1, wi2, il1, il2, il3, il4, pt1, pt2, pt3, pt4, pt5, pt6, pt7, pt8, pureTs_map, all_true, startD, tr_ret, tr_draw, tr_exc, tr_fail, tr_some, tr_none, tr_noexc, tr_noexcF, tr_noexcD, go_nx, go_rt, fin_nx, fin_rt, consO, ite_bind, ite_noexc, evCo_map, evCoM_some, evCoM_if, evFor_map, intsOf_map, blsOf_map, strsOf_map, enumT_map, rangeT_map, zip2_map, zip3_map, atT_0, atT_1, atT_2, atT_3, List.map_cons, List.map_nil, List.map_map, List.cons_append, List.nil_append, List.append_nil, List.replicate, List.set_cons_zero, List.set_cons_succ, List.getD_cons_zero, List.getD_cons_succ, List.getD_nil, List.length_cons, List.length_nil, List.length_map, Option.bind_some, Option.bind_none, Option.map_some, Option.map_none, List.contains_nil, List.contains_cons, Bool.and_eq_true, Bool.or_eq_true, Bool.not_eq_true', decide_eq_true_eq, Bool.not_true, Bool.not_false, Bool.and_true, Bool.true_and, Bool.and_false, Bool.false_and, Bool.or_true, Bool.or_false, Bool.true_or, Bool.false_or, Bool.and_self, Bool.or_self, if_true, if_false, ite_true, ite_false, Bool.false_eq_true, reduceIte, reduceCtorEq, strOk_nil, ne_eq, not_true_eq_false, not_false_eq_true, and_true, true_and, and_false, false_and, or_true, true_or, or_false, false_or, and_self, or_self, Function.comp_def, List.isEmpty_nil, List.isEmpty_cons, beq_iff_eq, Nat.reduceBEq, Nat.zero_add, Int.zero_add, Int.sub_zero, Int.reduceToNat, Int.reducePow, Int.reduceAdd, Int.reduceMul, Int.reduceLT, Int.reduceLE, Int.reduceEq, Nat.reduceAdd, Nat.reduceLT, Nat.reduceLeDiff, SZ, Nat.zero_le, List.append_eq, hn k _ hj, if_pos (show strOk letters from by decide)]
  refine drawI (by decide) (by decide) fun r r0 r1 => drawI (by decide) (by decide) fun n1 n10 n11 => ?_
  simp (disch := omega) only [et_var, et_int, et_str, et_bl, et_non, et_glob, et_fnv, et_bin, et_neg, et_cmp, et_chain, et_tup, et_new, et_idx, et_slc, et_rev, et_call, et_callv, et_bi, et_isi, et_li, et_join, et_not, et_and, et_or, et_ite, ef_var, ef_int, ef_str, ef_bl, ef_non, ef_glob, ef_fnv, ef_neg, ef_cmp, ef_chain, ef_tup, ef_idx, ef_callv, ef_bi, ef_isi, ef_join, ef_not, ef_and, ef_or, ef_ite, ef_sub, ef_fdiv, ef_mod, ef_pow, ef_tuple, ef_sum, ef_all, ef_any, ef_max, ef_min, ef_len, ef_dict, ef_new, ef_call, ef_list, ef_add, ef_mul, ef_slc, ef_rev, ss1, ss2, evS, evE, evEs, evO, evL, evLs, evR, evIf, occE, occEs, occO, occL, occLs, occR, pub1, mask, bn1, bn2, bn3, bn4, bn5, bn6, bn7, bn8, bn9, bn10, bn11, tu1, tu2, tu3, tu4, tu5, tu6, cm1, cm2, cm3, cm4, cm5, cm6, cm7, cm8, cm9, cm10, in1, in2, in3, in4, in5, in6, eq1, eq2, eq3, eq4, eq5, eq6, eq7, eq8, lt1, lt2, le1, le2, gt1, ge1, ix1, ix2, ix3, sl1, sl2, sl3, rv1, is1, is2, is3, is4, is5, is6, is7, is8, is9, is10, is11, is12, is13, is14, is15, is16, is17, is18, ln1, ln2, ln3, bi1, bi2, bi3, bi4, bi6, bi7, bi8, sq1, sq2, id1, sd1, ld1, ad1, ad2, ad3, ad4, ad5, as1, as2, as3, as4, as5, li1, li2, li3, li4, li5, li6, li7, li8, jo1, ra1, ra2, zi1, zi2, cl1, cl2, sf1, sf2, ke1, ke2, ke3, pb1, pb2, pb3, vi1, vi2, vi3, vi4, pu1, pu2, wi1, wi2, il1, il2, il3, il4, pt1, pt2, pt3, pt4, pt5, pt6, pt7, pt8, pureTs_map, all_true, startD, tr_ret, tr_draw, tr_exc, tr_fail, tr_some, tr_none, tr_noexc, tr_noexcF, tr_noexcD, go_nx, go_rt, fin_nx, fin_rt, consO, ite_bind, ite_noexc, evCo_map, evCoM_some, evCoM_if, evFor_map, intsOf_map, blsOf_map, strsOf_map, enumT_map, rangeT_map, zip2_map, zip3_map, atT_0, atT_1, atT_2, atT_3, List.map_cons, List.map_nil, List.map_map, List.cons_append, List.nil_append, List.append_nil, List.replicate, List.set_cons_zero, List.set_cons_succ, List.getD_cons_zero, List.getD_cons_succ, List.getD_nil, List.length_cons, List.length_nil, List.length_map, Option.bind_some, Option.bind_none, Option.map_some, Option.map_none, List.contains_nil, List.contains_cons, Bool.and_eq_true, Bool.or_eq_true, Bool.not_eq_true', decide_eq_true_eq, Bool.not_true, Bool.not_false, Bool.and_true, Bool.true_and, Bool.and_false, Bool.false_and, Bool.or_true, Bool.or_false, Bool.true_or, Bool.false_or, Bool.and_self, Bool.or_self, if_true, if_false, ite_true, ite_false, Bool.false_eq_true, reduceIte, reduceCtorEq, strOk_nil, ne_eq, not_true_eq_false, not_false_eq_true, and_true, true_and, and_false, false_and, or_true, true_or, or_false, false_or, and_self, or_self, Function.comp_def, List.isEmpty_nil, List.isEmpty_cons, beq_iff_eq, Nat.reduceBEq, Nat.zero_add, Int.zero_add, Int.sub_zero, Int.reduceToNat, Int.reducePow, Int.reduceAdd, Int.reduceMul, Int.reduceLT, Int.reduceLE, Int.reduceEq, Nat.reduceAdd, Nat.reduceLT, Nat.reduceLeDiff, SZ, Nat.zero_le, List.append_eq, if_pos]
  have comp : ∀ n : Nat, n ≤ 3 → ∀ Q : List T → Prop, (∀ cs : List Nat, cs.length = n → (∀ c ∈ cs, 97 ≤ c ∧ c ≤ 122) → Q (cs.map fun c => .str [c])) → (evCoM (fun _ : Nat => Tr.draw 26 fun r => ((Tr.ofO (Option.map (fun c => T.str [c]) (atT letters r))).bind fun v => Tr.ret (some v)).noexc) (List.range n)).all X Q := fun n hn Q hq => by
    refine evCoM_all (R := fun y => ∃ c : Nat, y = .str [c] ∧ 97 ≤ c ∧ c ≤ 122) (fun x _ => drawI (by decide) (by decide) fun r r0 r1 => ?_) fun ys yl hy => ?_
    · rw [letter_at r0 r1]
      exact ⟨_, rfl, _, rfl, by omega, by omega⟩
    · obtain ⟨cs, rfl, hc⟩ := exists_mapP (e := fun c : Nat => T.str [c]) hy
      exact hq cs (by simpa using yl) hc
  have join : ∀ cs : List Nat, cs.length ≤ 3 → strsOf (cs.map fun c => .str [c]) = some (cs.map fun c => [c]) := fun cs _ => strsOf_map cs
  repeat with_reducible refine bindI ?_
  refine comp _ (by omega) _ fun hd hl hc => ?_
  have hl3 : hd.length ≤ 3 := by omega
  simp (disch := first | omega | assumption) only [et_var, et_int, et_str, et_bl, et_non, et_glob, et_fnv, et_bin, et_neg, et_cmp, et_chain, et_tup, et_new, et_idx, et_slc, et_rev, et_call, et_callv, et_bi, et_isi, et_li, et_join, et_not, et_and, et_or, et_ite, ef_var, ef_int, ef_str, ef_bl, ef_non, ef_glob, ef_fnv, ef_neg, ef_cmp, ef_chain, ef_tup, ef_idx, ef_callv, ef_bi, ef_isi, ef_join, ef_not, ef_and, ef_or, ef_ite, ef_sub, ef_fdiv, ef_mod, ef_pow, ef_tuple, ef_sum, ef_all, ef_any, ef_max, ef_min, ef_len, ef_dict, ef_new, ef_call, ef_list, ef_add, ef_mul, ef_slc, ef_rev, ss1, ss2, evS, evE, evEs, evO, evL, evLs, evR, evIf, occE, occEs, occO, occL, occLs, occR, pub1, mask, bn1, bn2, bn3, bn4, bn5, bn6, bn7, bn8, bn9, bn10, bn11, tu1, tu2, tu3, tu4, tu5, tu6, cm1, cm2, cm3, cm4, cm5, cm6, cm7, cm8, cm9, cm10, in1, in2, in3, in4, in5, in6, eq1, eq2, eq3, eq4, eq5, eq6, eq7, eq8, lt1, lt2, le1, le2, gt1, ge1, ix1, ix2, ix3, sl1, sl2, sl3, rv1, is1, is2, is3, is4, is5, is6, is7, is8, is9, is10, is11, is12, is13, is14, is15, is16, is17, is18, ln1, ln2, ln3, bi1, bi2, bi3, bi4, bi6, bi7, bi8, sq1, sq2, id1, sd1, ld1, ad1, ad2, ad3, ad4, ad5, as1, as2, as3, as4, as5, li1, li2, li3, li4, li5, li6, li7, li8, jo1, ra1, ra2, zi1, zi2, cl1, cl2, sf1, sf2, ke1, ke2, ke3, pb1, pb2, pb3, vi1, vi2, vi3, vi4, pu1, pu2, wi1, wi2, il1, il2, il3, il4, pt1, pt2, pt3, pt4, pt5, pt6, pt7, pt8, pureTs_map, all_true, startD, tr_ret, tr_draw, tr_exc, tr_fail, tr_some, tr_none, tr_noexc, tr_noexcF, tr_noexcD, go_nx, go_rt, fin_nx, fin_rt, consO, ite_bind, ite_noexc, evCo_map, evCoM_some, evCoM_if, evFor_map, intsOf_map, blsOf_map, strsOf_map, enumT_map, rangeT_map, zip2_map, zip3_map, atT_0, atT_1, atT_2, atT_3, List.map_cons, List.map_nil, List.map_map, List.cons_append, List.nil_append, List.append_nil, List.replicate, List.set_cons_zero, List.set_cons_succ, List.getD_cons_zero, List.getD_cons_succ, List.getD_nil, List.length_cons, List.length_nil, List.length_map, Option.bind_some, Option.bind_none, Option.map_some, Option.map_none, List.contains_nil, List.contains_cons, Bool.and_eq_true, Bool.or_eq_true, Bool.not_eq_true', decide_eq_true_eq, Bool.not_true, Bool.not_false, Bool.and_true, Bool.true_and, Bool.and_false, Bool.false_and, Bool.or_true, Bool.or_false, Bool.true_or, Bool.false_or, Bool.and_self, Bool.or_self, if_true, if_false, ite_true, ite_false, Bool.false_eq_true, reduceIte, reduceCtorEq, strOk_nil, ne_eq, not_true_eq_false, not_false_eq_true, and_true, true_and, and_false, false_and, or_true, true_or, or_false, false_or, and_self, or_self, Function.comp_def, List.isEmpty_nil, List.isEmpty_cons, beq_iff_eq, Nat.reduceBEq, Nat.zero_add, Int.zero_add, Int.sub_zero, Int.reduceToNat, Int.reducePow, Int.reduceAdd, Int.reduceMul, Int.reduceLT, Int.reduceLE, Int.reduceEq, Nat.reduceAdd, Nat.reduceLT, Nat.reduceLeDiff, SZ, Nat.zero_le, List.append_eq, if_pos, join, sum_ones, inter_nil, hn k _ hj, if_pos (show strOk letters from by decide), all_ret]
  repeat with_reducible refine bindI ?_
  refine drawI (by decide) (by decide) fun n2 n20 n21 => ?_
  simp (disch := omega) only [et_var, et_int, et_str, et_bl, et_non, et_glob, et_fnv, et_bin, et_neg, et_cmp, et_chain, et_tup, et_new, et_idx, et_slc, et_rev, et_call, et_callv, et_bi, et_isi, et_li, et_join, et_not, et_and, et_or, et_ite, ef_var, ef_int, ef_str, ef_bl, ef_non, ef_glob, ef_fnv, ef_neg, ef_cmp, ef_chain, ef_tup, ef_idx, ef_callv, ef_bi, ef_isi, ef_join, ef_not, ef_and, ef_or, ef_ite, ef_sub, ef_fdiv, ef_mod, ef_pow, ef_tuple, ef_sum, ef_all, ef_any, ef_max, ef_min, ef_len, ef_dict, ef_new, ef_call, ef_list, ef_add, ef_mul, ef_slc, ef_rev, ss1, ss2, evS, evE, evEs, evO, evL, evLs, evR, evIf, occE, occEs, occO, occL, occLs, occR, pub1, mask, bn1, bn2, bn3, bn4, bn5, bn6, bn7, bn8, bn9, bn10, bn11, tu1, tu2, tu3, tu4, tu5, tu6, cm1, cm2, cm3, cm4, cm5, cm6, cm7, cm8, cm9, cm10, in1, in2, in3, in4, in5, in6, eq1, eq2, eq3, eq4, eq5, eq6, eq7, eq8, lt1, lt2, le1, le2, gt1, ge1, ix1, ix2, ix3, sl1, sl2, sl3, rv1, is1, is2, is3, is4, is5, is6, is7, is8, is9, is10, is11, is12, is13, is14, is15, is16, is17, is18, ln1, ln2, ln3, bi1, bi2, bi3, bi4, bi6, bi7, bi8, sq1, sq2, id1, sd1, ld1, ad1, ad2, ad3, ad4, ad5, as1, as2, as3, as4, as5, li1, li2, li3, li4, li5, li6, li7, li8, jo1, ra1, ra2, zi1, zi2, cl1, cl2, sf1, sf2, ke1, ke2, ke3, pb1, pb2, pb3, vi1, vi2, vi3, vi4, pu1, pu2, wi1, wi2, il1, il2, il3, il4, pt1, pt2, pt3, pt4, pt5, pt6, pt7, pt8, pureTs_map, all_true, startD, tr_ret, tr_draw, tr_exc, tr_fail, tr_some, tr_none, tr_noexc, tr_noexcF, tr_noexcD, go_nx, go_rt, fin_nx, fin_rt, consO, ite_bind, ite_noexc, evCo_map, evCoM_some, evCoM_if, evFor_map, intsOf_map, blsOf_map, strsOf_map, enumT_map, rangeT_map, zip2_map, zip3_map, atT_0, atT_1, atT_2, atT_3, List.map_cons, List.map_nil, List.map_map, List.cons_append, List.nil_append, List.append_nil, List.replicate, List.set_cons_zero, List.set_cons_succ, List.getD_cons_zero, List.getD_cons_succ, List.getD_nil, List.length_cons, List.length_nil, List.length_map, Option.bind_some, Option.bind_none, Option.map_some, Option.map_none, List.contains_nil, List.contains_cons, Bool.and_eq_true, Bool.or_eq_true, Bool.not_eq_true', decide_eq_true_eq, Bool.not_true, Bool.not_false, Bool.and_true, Bool.true_and, Bool.and_false, Bool.false_and, Bool.or_true, Bool.or_false, Bool.true_or, Bool.false_or, Bool.and_self, Bool.or_self, if_true, if_false, ite_true, ite_false, Bool.false_eq_true, reduceIte, reduceCtorEq, strOk_nil, ne_eq, not_true_eq_false, not_false_eq_true, and_true, true_and, and_false, false_and, or_true, true_or, or_false, false_or, and_self, or_self, Function.comp_def, List.isEmpty_nil, List.isEmpty_cons, beq_iff_eq, Nat.reduceBEq, Nat.zero_add, Int.zero_add, Int.sub_zero, Int.reduceToNat, Int.reducePow, Int.reduceAdd, Int.reduceMul, Int.reduceLT, Int.reduceLE, Int.reduceEq, Nat.reduceAdd, Nat.reduceLT, Nat.reduceLeDiff, SZ, Nat.zero_le, List.append_eq, if_pos, all_ret]
  repeat with_reducible refine bindI ?_
  refine comp _ (by omega) _ fun tl tlen tc => ?_
  have hl4 : tl.length ≤ 3 := by omega
  simp (disch := first | omega | assumption) only [et_var, et_int, et_str, et_bl, et_non, et_glob, et_fnv, et_bin, et_neg, et_cmp, et_chain, et_tup, et_new, et_idx, et_slc, et_rev, et_call, et_callv, et_bi, et_isi, et_li, et_join, et_not, et_and, et_or, et_ite, ef_var, ef_int, ef_str, ef_bl, ef_non, ef_glob, ef_fnv, ef_neg, ef_cmp, ef_chain, ef_tup, ef_idx, ef_callv, ef_bi, ef_isi, ef_join, ef_not, ef_and, ef_or, ef_ite, ef_sub, ef_fdiv, ef_mod, ef_pow, ef_tuple, ef_sum, ef_all, ef_any, ef_max, ef_min, ef_len, ef_dict, ef_new, ef_call, ef_list, ef_add, ef_mul, ef_slc, ef_rev, ss1, ss2, evS, evE, evEs, evO, evL, evLs, evR, evIf, occE, occEs, occO, occL, occLs, occR, pub1, mask, bn1, bn2, bn3, bn4, bn5, bn6, bn7, bn8, bn9, bn10, bn11, tu1, tu2, tu3, tu4, tu5, tu6, cm1, cm2, cm3, cm4, cm5, cm6, cm7, cm8, cm9, cm10, in1, in2, in3, in4, in5, in6, eq1, eq2, eq3, eq4, eq5, eq6, eq7, eq8, lt1, lt2, le1, le2, gt1, ge1, ix1, ix2, ix3, sl1, sl2, sl3, rv1, is1, is2, is3, is4, is5, is6, is7, is8, is9, is10, is11, is12, is13, is14, is15, is16, is17, is18, ln1, ln2, ln3, bi1, bi2, bi3, bi4, bi6, bi7, bi8, sq1, sq2, id1, sd1, ld1, ad1, ad2, ad3, ad4, ad5, as1, as2, as3, as4, as5, li1, li2, li3, li4, li5, li6, li7, li8, jo1, ra1, ra2, zi1, zi2, cl1, cl2, sf1, sf2, ke1, ke2, ke3, pb1, pb2, pb3, vi1, vi2, vi3, vi4, pu1, pu2, wi1, wi2, il1, il2, il3, il4, pt1, pt2, pt3, pt4, pt5, pt6, pt7, pt8, pureTs_map, all_true, startD, tr_ret, tr_draw, tr_exc, tr_fail, tr_some, tr_none, tr_noexc, tr_noexcF, tr_noexcD, go_nx, go_rt, fin_nx, fin_rt, consO, ite_bind, ite_noexc, evCo_map, evCoM_some, evCoM_if, evFor_map, intsOf_map, blsOf_map, strsOf_map, enumT_map, rangeT_map, zip2_map, zip3_map, atT_0, atT_1, atT_2, atT_3, List.map_cons, List.map_nil, List.map_map, List.cons_append, List.nil_append, List.append_nil, List.replicate, List.set_cons_zero, List.set_cons_succ, List.getD_cons_zero, List.getD_cons_succ, List.getD_nil, List.length_cons, List.length_nil, List.length_map, Option.bind_some, Option.bind_none, Option.map_some, Option.map_none, List.contains_nil, List.contains_cons, Bool.and_eq_true, Bool.or_eq_true, Bool.not_eq_true', decide_eq_true_eq, Bool.not_true, Bool.not_false, Bool.and_true, Bool.true_and, Bool.and_false, Bool.false_and, Bool.or_true, Bool.or_false, Bool.true_or, Bool.false_or, Bool.and_self, Bool.or_self, if_true, if_false, ite_true, ite_false, Bool.false_eq_true, reduceIte, reduceCtorEq, strOk_nil, ne_eq, not_true_eq_false, not_false_eq_true, and_true, true_and, and_false, false_and, or_true, true_or, or_false, false_or, and_self, or_self, Function.comp_def, List.isEmpty_nil, List.isEmpty_cons, beq_iff_eq, Nat.reduceBEq, Nat.zero_add, Int.zero_add, Int.sub_zero, Int.reduceToNat, Int.reducePow, Int.reduceAdd, Int.reduceMul, Int.reduceLT, Int.reduceLE, Int.reduceEq, Nat.reduceAdd, Nat.reduceLT, Nat.reduceLeDiff, SZ, Nat.zero_le, List.append_eq, if_pos, join, sum_ones, inter_nil, all_ret]
  rw [evCoM_congr (g := fun a => .ret (some (.str (nm0 hd tl r a)))) (fun a ha => ?_)]
  · simp only [et_var, et_int, et_str, et_bl, et_non, et_glob, et_fnv, et_bin, et_neg, et_cmp, et_chain, et_tup, et_new, et_idx, et_slc, et_rev, et_call, et_callv, et_bi, et_isi, et_li, et_join, et_not, et_and, et_or, et_ite, ef_var, ef_int, ef_str, ef_bl, ef_non, ef_glob, ef_fnv, ef_neg, ef_cmp, ef_chain, ef_tup, ef_idx, ef_callv, ef_bi, ef_isi, ef_join, ef_not, ef_and, ef_or, ef_ite, ef_sub, ef_fdiv, ef_mod, ef_pow, ef_tuple, ef_sum, ef_all, ef_any, ef_max, ef_min, ef_len, ef_dict, ef_new, ef_call, ef_list, ef_add, ef_mul, ef_slc, ef_rev, ss1, ss2, evS, evE, evEs, evO, evL, evLs, evR, evIf, occE, occEs, occO, occL, occLs, occR, pub1, mask, bn1, bn2, bn3, bn4, bn5, bn6, bn7, bn8, bn9, bn10, bn11, tu1, tu2, tu3, tu4, tu5, tu6, cm1, cm2, cm3, cm4, cm5, cm6, cm7, cm8, cm9, cm10, in1, in2, in3, in4, in5, in6, eq1, eq2, eq3, eq4, eq5, eq6, eq7, eq8, lt1, lt2, le1, le2, gt1, ge1, ix1, ix2, ix3, sl1, sl2, sl3, rv1, is1, is2, is3, is4, is5, is6, is7, is8, is9, is10, is11, is12, is13, is14, is15, is16, is17, is18, ln1, ln2, ln3, bi1, bi2, bi3, bi4, bi6, bi7, bi8, sq1, sq2, id1, sd1, ld1, ad1, ad2, ad3, ad4, ad5, as1, as2, as3, as4, as5, li1, li2, li3, li4, li5, li6, li7, li8, jo1, ra1, ra2, zi1, zi2, cl1, cl2, sf1, sf2, ke1, ke2, ke3, pb1, pb2, pb3, vi1, vi2, vi3, vi4, pu1, pu2, wi1, wi2, il1, il2, il3, il4, pt1, pt2, pt3, pt4, pt5, pt6, pt7, pt8, pureTs_map, all_true, startD, tr_ret, tr_draw, tr_exc, tr_fail, tr_some, tr_none, tr_noexc, tr_noexcF, tr_noexcD, go_nx, go_rt, fin_nx, fin_rt, consO, ite_bind, ite_noexc, evCo_map, evCoM_some, evCoM_if, evFor_map, intsOf_map, blsOf_map, strsOf_map, enumT_map, rangeT_map, zip2_map, zip3_map, atT_0, atT_1, atT_2, atT_3, List.map_cons, List.map_nil, List.map_map, List.cons_append, List.nil_append, List.append_nil, List.replicate, List.set_cons_zero, List.set_cons_succ, List.getD_cons_zero, List.getD_cons_succ, List.getD_nil, List.length_cons, List.length_nil, List.length_map, Option.bind_some, Option.bind_none, Option.map_some, Option.map_none, List.contains_nil, List.contains_cons, Bool.and_eq_true, Bool.or_eq_true, Bool.not_eq_true', decide_eq_true_eq, Bool.not_true, Bool.not_false, Bool.and_true, Bool.true_and, Bool.and_false, Bool.false_and, Bool.or_true, Bool.or_false, Bool.true_or, Bool.false_or, Bool.and_self, Bool.or_self, if_true, if_false, ite_true, ite_false, Bool.false_eq_true, reduceIte, reduceCtorEq, strOk_nil, ne_eq, not_true_eq_false, not_false_eq_true, and_true, true_and, and_false, false_and, or_true, true_or, or_false, false_or, and_self, or_self, Function.comp_def, List.isEmpty_nil, List.isEmpty_cons, beq_iff_eq, Nat.reduceBEq, Nat.zero_add, Int.zero_add, Int.sub_zero, Int.reduceToNat, Int.reducePow, Int.reduceAdd, Int.reduceMul, Int.reduceLT, Int.reduceLE, Int.reduceEq, Nat.reduceAdd, Nat.reduceLT, Nat.reduceLeDiff, SZ, Nat.zero_le, List.append_eq, srtD_strs, all_ret]
    refine h _ ?_ ⟨sorted_names (nm0_nodup hd tl r (n := m.toNat) (by omega)), fun s hs => ?_⟩
    · rw [List.length_mergeSort, List.length_map, List.length_range]; omega
    · obtain ⟨a, ha, rfl⟩ := List.mem_map.mp ((List.mergeSort_perm _ strLe).mem_iff.mp hs)
      refine ⟨by simp [nm0]; omega, fun c hx => ?_⟩
      simp only [nm0, List.mem_append, List.mem_singleton] at hx
      rcases hx with (hx | hx) | hx
      · exact hc c hx
      · subst hx; omega
      · exact tc c hx
  · rw [List.mem_range] at ha
    have := letter_at (r := (r + 7 * (a : Int)) % 26) (by omega) (by omega)
    simp (disch := first | omega | assumption) only [et_var, et_int, et_str, et_bl, et_non, et_glob, et_fnv, et_bin, et_neg, et_cmp, et_chain, et_tup, et_new, et_idx, et_slc, et_rev, et_call, et_callv, et_bi, et_isi, et_li, et_join, et_not, et_and, et_or, et_ite, ef_var, ef_int, ef_str, ef_bl, ef_non, ef_glob, ef_fnv, ef_neg, ef_cmp, ef_chain, ef_tup, ef_idx, ef_callv, ef_bi, ef_isi, ef_join, ef_not, ef_and, ef_or, ef_ite, ef_sub, ef_fdiv, ef_mod, ef_pow, ef_tuple, ef_sum, ef_all, ef_any, ef_max, ef_min, ef_len, ef_dict, ef_new, ef_call, ef_list, ef_add, ef_mul, ef_slc, ef_rev, ss1, ss2, evS, evE, evEs, evO, evL, evLs, evR, evIf, occE, occEs, occO, occL, occLs, occR, pub1, mask, bn1, bn2, bn3, bn4, bn5, bn6, bn7, bn8, bn9, bn10, bn11, tu1, tu2, tu3, tu4, tu5, tu6, cm1, cm2, cm3, cm4, cm5, cm6, cm7, cm8, cm9, cm10, in1, in2, in3, in4, in5, in6, eq1, eq2, eq3, eq4, eq5, eq6, eq7, eq8, lt1, lt2, le1, le2, gt1, ge1, ix1, ix2, ix3, sl1, sl2, sl3, rv1, is1, is2, is3, is4, is5, is6, is7, is8, is9, is10, is11, is12, is13, is14, is15, is16, is17, is18, ln1, ln2, ln3, bi1, bi2, bi3, bi4, bi6, bi7, bi8, sq1, sq2, id1, sd1, ld1, ad1, ad2, ad3, ad4, ad5, as1, as2, as3, as4, as5, li1, li2, li3, li4, li5, li6, li7, li8, jo1, ra1, ra2, zi1, zi2, cl1, cl2, sf1, sf2, ke1, ke2, ke3, pb1, pb2, pb3, vi1, vi2, vi3, vi4, pu1, pu2, wi1, wi2, il1, il2, il3, il4, pt1, pt2, pt3, pt4, pt5, pt6, pt7, pt8, pureTs_map, all_true, startD, tr_ret, tr_draw, tr_exc, tr_fail, tr_some, tr_none, tr_noexc, tr_noexcF, tr_noexcD, go_nx, go_rt, fin_nx, fin_rt, consO, ite_bind, ite_noexc, evCo_map, evCoM_some, evCoM_if, evFor_map, intsOf_map, blsOf_map, strsOf_map, enumT_map, rangeT_map, zip2_map, zip3_map, atT_0, atT_1, atT_2, atT_3, List.map_cons, List.map_nil, List.map_map, List.cons_append, List.nil_append, List.append_nil, List.replicate, List.set_cons_zero, List.set_cons_succ, List.getD_cons_zero, List.getD_cons_succ, List.getD_nil, List.length_cons, List.length_nil, List.length_map, Option.bind_some, Option.bind_none, Option.map_some, Option.map_none, List.contains_nil, List.contains_cons, Bool.and_eq_true, Bool.or_eq_true, Bool.not_eq_true', decide_eq_true_eq, Bool.not_true, Bool.not_false, Bool.and_true, Bool.true_and, Bool.and_false, Bool.false_and, Bool.or_true, Bool.or_false, Bool.true_or, Bool.false_or, Bool.and_self, Bool.or_self, if_true, if_false, ite_true, ite_false, Bool.false_eq_true, reduceIte, reduceCtorEq, strOk_nil, ne_eq, not_true_eq_false, not_false_eq_true, and_true, true_and, and_false, false_and, or_true, true_or, or_false, false_or, and_self, or_self, Function.comp_def, List.isEmpty_nil, List.isEmpty_cons, beq_iff_eq, Nat.reduceBEq, Nat.zero_add, Int.zero_add, Int.sub_zero, Int.reduceToNat, Int.reducePow, Int.reduceAdd, Int.reduceMul, Int.reduceLT, Int.reduceLE, Int.reduceEq, Nat.reduceAdd, Nat.reduceLT, Nat.reduceLeDiff, SZ, Nat.zero_le, List.append_eq, if_pos, mOk (i := 7) (j := (a : Int)) (by omega) (by omega), this, List.length_append]
    rfl

end Mo

namespace Mo
open PySem PyProof.Rows
def B_law_dim (i_law_next : Nat) (i_law_names : Nat) : List Sm := [.set (.name 3) (.bin .add (.int 1) (.call i_law_next [(.var 0), (.var 1)])), .set (.name 4) (.new (.lst [])), .loop (.name 5) (.seq (.ex (.call i_law_names [(.var 0), (.call i_law_next [(.var 0), (.bin .add (.var 2) (.int 1))])]))) [.ex (.me .append (.var 4) [(.tup [(.var 5), (.call i_law_next [(.var 0), (.bin .add (.var 3) (.int 1))]), (.call i_law_next [(.var 0), (.bin .add (.var 3) (.int 1))])])])], .set (.name 6) (.bin .add (.int 3) (.call i_law_next [(.var 0), (.int 3)])), .set (.name 7) (.new (.lst [])), .loop (.name 8) (.range [(.var 3)]) [.set (.name 9) (.tup [(.call i_law_next [(.var 0), (.int 3)]), (.call i_law_next [(.var 0), (.int 3)])]), .ex (.me .append (.var 7) [(.tup [(.bin .mul (.idx (.var 9) (.int 0)) (.bi .int [(.cmp .lt (.call i_law_next [(.var 0), (.var 6)]) (.int 2))])), (.bin .mul (.idx (.var 9) (.int 1)) (.bi .int [(.cmp .lt (.call i_law_next [(.var 0), (.var 6)]) (.int 2))]))])])], .ret (some (.tup [(.li .tuple (.ex (.var 7))), (.li .tuple (.ex (.var 4)))]))]
def FolkOk (n : Int) (fs : List (Sg × Int × Int)) : Prop := NamesOk (fs.map (·.1)) ∧ ∀ f ∈ fs, (0 ≤ f.2.1 ∧ f.2.1 ≤ n) ∧ 0 ≤ f.2.2 ∧ f.2.2 ≤ n
def S_dim (Γ : Pg) (i : Nat) : Prop := ∀ (k : Nat) (most many : Int), 3 ≤ k → 1 ≤ most → most ≤ 100 → 0 ≤ many → many ≤ 25 → ∀ (X : Ex → Prop) (P : Bool × T → Prop),
  (∀ (ls : List (Int × Int)) (fs : List (Sg × Int × Int)), 1 ≤ ls.length → (ls.length : Int) ≤ most → (∀ p ∈ ls, (0 ≤ p.1 ∧ p.1 ≤ 2) ∧ 0 ≤ p.2 ∧ p.2 ≤ 2) → FolkOk ls.length fs → (fs.length : Int) ≤ many → P (false, stand ls fs)) → (evCall Γ k i [.ref 0, .int most, .int many]).all X P
theorem dim_ok {Γ : Pg} {i inx inm : Nat} (hf : Γ.fns[i]? = some (.code 3 10 (B_law_dim inx inm))) (hn : S_next Γ inx) (hm : S_names Γ inm) : S_dim Γ i := fun k most many hk m1 m2 f0 f1 X P h => by
  obtain ⟨k, rfl, hj⟩ := ex_succ hk
  rw [ev_code hf rfl]
  simp only [B_law_dim, et_var, et_int, et_str, et_bl, et_non, et_glob, et_fnv, et_bin, et_neg, et_cmp, et_chain, et_tup, et_new, et_idx, et_slc, et_rev, et_call, et_callv, et_bi, et_isi, et_li, et_join, et_not, et_and, et_or, et_ite, ef_var, ef_int, ef_str, ef_bl, ef_non, ef_glob, ef_fnv, ef_neg, ef_cmp, ef_chain, ef_tup, ef_idx, ef_callv, ef_bi, ef_isi, ef_join, ef_not, ef_and, ef_or, ef_ite, ef_sub, ef_fdiv, ef_mod, ef_pow, ef_tuple, ef_sum, ef_all, ef_any, ef_max, ef_min, ef_len, ef_dict, ef_new, ef_call, ef_list, ef_add, ef_mul, ef_slc, ef_rev, ss1, ss2, evS, evE, evEs, evO, evL, evLs, evR, evIf, occE, occEs, occO, occL, occLs, occR, pub1, mask, bn1, bn2, bn3, bn4, bn5, bn6, bn7, bn8, bn9, bn10, bn11, tu1, tu2, tu3, tu4, tu5, tu6, cm1, cm2, cm3, cm4, cm5, cm6, cm7, cm8, cm9, cm10, in1, in2, in3, in4, in5, in6, eq1, eq2, eq3, eq4, eq5, eq6, eq7, eq8, lt1, lt2, le1, le2, gt1, ge1, ix1, ix2, ix3, sl1, sl2, sl3, rv1, is1, is2, is3, is4, is5, is6, is7, is8, is9, is10, is11, is12, is13, is14, is15, is16, is17, is18, ln1, ln2, ln3, bi1, bi2, bi3, bi4, bi6, bi7, bi8, sq1, sq2, id1, sd1, ld1, ad1, ad2, ad3, ad4, ad5, as1, as2, as3, as4, as5, li1, li2, li3, li4, li5, li6, li7, li8, jo1, ra1, ra2, zi1, zi2, cl1, cl2, sf1, sf2, ke1, ke2, ke3, pb1, pb2, pb3, vi1, vi2, vi3, vi4, pu1, pu2, wi1, wi2, il1, il2, il3, il4, pt1, pt2, pt3, pt4, pt5, pt6, pt7, pt8, pureTs_map, all_true, startD, tr_ret, tr_draw, tr_exc, tr_fail, tr_some, tr_none, tr_noexc, tr_noexcF, tr_noexcD, go_nx, go_rt, fin_nx, fin_rt, consO, ite_bind, ite_noexc, evCo_map, evCoM_some, evCoM_if, evFor_map, intsOf_map, blsOf_map, strsOf_map, enumT_map, rangeT_map, zip2_map, zip3_map, atT_0, atT_1, atT_2, atT_3, List.map_cons, List.map_nil, List.map_map, List.cons_append, List.nil_append, List.append_nil, List.replicate, List.set_cons_zero, List.set_cons_succ, List.getD_cons_zero, List.getD_cons_succ, List.getD_nil, List.length_cons, List.length_nil, List.length_map, Option.bind_some, Option.bind_none, Option.map_some, Option.map_none, List.contains_nil, List.contains_cons, Bool.and_eq_true, Bool.or_eq_true, Bool.not_eq_true', decide_eq_true_eq, Bool.not_true, Bool.not_false, Bool.and_true, Bool.true_and, Bool.and_false, Bool.false_and, Bool.or_true, Bool.or_false, Bool.true_or, Bool.false_or, Bool.and_self, Bool.or_self, if_true, if_false, ite_true, ite_false, Bool.false_eq_true, reduceIte, reduceCtorEq, strOk_nil, ne_eq, not_true_eq_false, not_false_eq_true, and_true, true_and, and_false, false_and, or_true, true_or, or_false, false_or, and_self, or_self, Function.comp_def, List.isEmpty_nil, List.isEmpty_cons, beq_iff_eq, Nat.reduceBEq, Nat.zero_add, Int.zero_add, Int.sub_zero, Int.reduceToNat, Int.reducePow, Int.reduceAdd, Int.reduceMul, Int.reduceLT, Int.reduceLE, Int.reduceEq, Nat.reduceAdd, Nat.reduceLT, Nat.reduceLeDiff, SZ, Nat.zero_le, List.append_eq, hn k _ (show 1 ≤ k by omega)]
  refine drawI m1 (by omega) fun n n0 n1 => drawI (by omega) (by omega) fun c c0 c1 => ?_
  repeat with_reducible refine bindI ?_
  refine hm k c hj (by omega) (by omega) _ _ fun ns nl nok => ?_
  simp only [et_var, et_int, et_str, et_bl, et_non, et_glob, et_fnv, et_bin, et_neg, et_cmp, et_chain, et_tup, et_new, et_idx, et_slc, et_rev, et_call, et_callv, et_bi, et_isi, et_li, et_join, et_not, et_and, et_or, et_ite, ef_var, ef_int, ef_str, ef_bl, ef_non, ef_glob, ef_fnv, ef_neg, ef_cmp, ef_chain, ef_tup, ef_idx, ef_callv, ef_bi, ef_isi, ef_join, ef_not, ef_and, ef_or, ef_ite, ef_sub, ef_fdiv, ef_mod, ef_pow, ef_tuple, ef_sum, ef_all, ef_any, ef_max, ef_min, ef_len, ef_dict, ef_new, ef_call, ef_list, ef_add, ef_mul, ef_slc, ef_rev, ss1, ss2, evS, evE, evEs, evO, evL, evLs, evR, evIf, occE, occEs, occO, occL, occLs, occR, pub1, mask, bn1, bn2, bn3, bn4, bn5, bn6, bn7, bn8, bn9, bn10, bn11, tu1, tu2, tu3, tu4, tu5, tu6, cm1, cm2, cm3, cm4, cm5, cm6, cm7, cm8, cm9, cm10, in1, in2, in3, in4, in5, in6, eq1, eq2, eq3, eq4, eq5, eq6, eq7, eq8, lt1, lt2, le1, le2, gt1, ge1, ix1, ix2, ix3, sl1, sl2, sl3, rv1, is1, is2, is3, is4, is5, is6, is7, is8, is9, is10, is11, is12, is13, is14, is15, is16, is17, is18, ln1, ln2, ln3, bi1, bi2, bi3, bi4, bi6, bi7, bi8, sq1, sq2, id1, sd1, ld1, ad1, ad2, ad3, ad4, ad5, as1, as2, as3, as4, as5, li1, li2, li3, li4, li5, li6, li7, li8, jo1, ra1, ra2, zi1, zi2, cl1, cl2, sf1, sf2, ke1, ke2, ke3, pb1, pb2, pb3, vi1, vi2, vi3, vi4, pu1, pu2, wi1, wi2, il1, il2, il3, il4, pt1, pt2, pt3, pt4, pt5, pt6, pt7, pt8, pureTs_map, all_true, startD, tr_ret, tr_draw, tr_exc, tr_fail, tr_some, tr_none, tr_noexc, tr_noexcF, tr_noexcD, go_nx, go_rt, fin_nx, fin_rt, consO, ite_bind, ite_noexc, evCo_map, evCoM_some, evCoM_if, evFor_map, intsOf_map, blsOf_map, strsOf_map, enumT_map, rangeT_map, zip2_map, zip3_map, atT_0, atT_1, atT_2, atT_3, List.map_cons, List.map_nil, List.map_map, List.cons_append, List.nil_append, List.append_nil, List.replicate, List.set_cons_zero, List.set_cons_succ, List.getD_cons_zero, List.getD_cons_succ, List.getD_nil, List.length_cons, List.length_nil, List.length_map, Option.bind_some, Option.bind_none, Option.map_some, Option.map_none, List.contains_nil, List.contains_cons, Bool.and_eq_true, Bool.or_eq_true, Bool.not_eq_true', decide_eq_true_eq, Bool.not_true, Bool.not_false, Bool.and_true, Bool.true_and, Bool.and_false, Bool.false_and, Bool.or_true, Bool.or_false, Bool.true_or, Bool.false_or, Bool.and_self, Bool.or_self, if_true, if_false, ite_true, ite_false, Bool.false_eq_true, reduceIte, reduceCtorEq, strOk_nil, ne_eq, not_true_eq_false, not_false_eq_true, and_true, true_and, and_false, false_and, or_true, true_or, or_false, false_or, and_self, or_self, Function.comp_def, List.isEmpty_nil, List.isEmpty_cons, beq_iff_eq, Nat.reduceBEq, Nat.zero_add, Int.zero_add, Int.sub_zero, Int.reduceToNat, Int.reducePow, Int.reduceAdd, Int.reduceMul, Int.reduceLT, Int.reduceLE, Int.reduceEq, Nat.reduceAdd, Nat.reduceLT, Nat.reduceLeDiff, SZ, Nat.zero_le, List.append_eq, all_ret]
  refine evForM_appD (fun l => [some (.val (.ref 0)), some (.val (.int most)), some (.val (.int many)), some (.val (.int (1 + n))), some (.own l), none, none, none, none, none])
    (fun s t => ∃ f : Sg × Int × Int, t = encF f ∧ f.1 = s ∧ (0 ≤ f.2.1 ∧ f.2.1 ≤ 1 + n) ∧ 0 ≤ f.2.2 ∧ f.2.2 ≤ 1 + n) [] (by simp; omega) (fun s l hs hl => ?_) fun ys hy => ?_
  · simp (disch := omega) only [et_var, et_int, et_str, et_bl, et_non, et_glob, et_fnv, et_bin, et_neg, et_cmp, et_chain, et_tup, et_new, et_idx, et_slc, et_rev, et_call, et_callv, et_bi, et_isi, et_li, et_join, et_not, et_and, et_or, et_ite, ef_var, ef_int, ef_str, ef_bl, ef_non, ef_glob, ef_fnv, ef_neg, ef_cmp, ef_chain, ef_tup, ef_idx, ef_callv, ef_bi, ef_isi, ef_join, ef_not, ef_and, ef_or, ef_ite, ef_sub, ef_fdiv, ef_mod, ef_pow, ef_tuple, ef_sum, ef_all, ef_any, ef_max, ef_min, ef_len, ef_dict, ef_new, ef_call, ef_list, ef_add, ef_mul, ef_slc, ef_rev, ss1, ss2, evS, evE, evEs, evO, evL, evLs, evR, evIf, occE, occEs, occO, occL, occLs, occR, pub1, mask, bn1, bn2, bn3, bn4, bn5, bn6, bn7, bn8, bn9, bn10, bn11, tu1, tu2, tu3, tu4, tu5, tu6, cm1, cm2, cm3, cm4, cm5, cm6, cm7, cm8, cm9, cm10, in1, in2, in3, in4, in5, in6, eq1, eq2, eq3, eq4, eq5, eq6, eq7, eq8, lt1, lt2, le1, le2, gt1, ge1, ix1, ix2, ix3, sl1, sl2, sl3, rv1, is1, is2, is3, is4, is5, is6, is7, is8, is9, is10, is11, is12, is13, is14, is15, is16, is17, is18, ln1, ln2, ln3, bi1, bi2, bi3, bi4, bi6, bi7, bi8, sq1, sq2, id1, sd1, ld1, ad1, ad2, ad3, ad4, ad5, as1, as2, as3, as4, as5, li1, li2, li3, li4, li5, li6, li7, li8, jo1, ra1, ra2, zi1, zi2, cl1, cl2, sf1, sf2, ke1, ke2, ke3, pb1, pb2, pb3, vi1, vi2, vi3, vi4, pu1, pu2, wi1, wi2, il1, il2, il3, il4, pt1, pt2, pt3, pt4, pt5, pt6, pt7, pt8, pureTs_map, all_true, startD, tr_ret, tr_draw, tr_exc, tr_fail, tr_some, tr_none, tr_noexc, tr_noexcF, tr_noexcD, go_nx, go_rt, fin_nx, fin_rt, consO, ite_bind, ite_noexc, evCo_map, evCoM_some, evCoM_if, evFor_map, intsOf_map, blsOf_map, strsOf_map, enumT_map, rangeT_map, zip2_map, zip3_map, atT_0, atT_1, atT_2, atT_3, List.map_cons, List.map_nil, List.map_map, List.cons_append, List.nil_append, List.append_nil, List.replicate, List.set_cons_zero, List.set_cons_succ, List.getD_cons_zero, List.getD_cons_succ, List.getD_nil, List.length_cons, List.length_nil, List.length_map, Option.bind_some, Option.bind_none, Option.map_some, Option.map_none, List.contains_nil, List.contains_cons, Bool.and_eq_true, Bool.or_eq_true, Bool.not_eq_true', decide_eq_true_eq, Bool.not_true, Bool.not_false, Bool.and_true, Bool.true_and, Bool.and_false, Bool.false_and, Bool.or_true, Bool.or_false, Bool.true_or, Bool.false_or, Bool.and_self, Bool.or_self, if_true, if_false, ite_true, ite_false, Bool.false_eq_true, reduceIte, reduceCtorEq, strOk_nil, ne_eq, not_true_eq_false, not_false_eq_true, and_true, true_and, and_false, false_and, or_true, true_or, or_false, false_or, and_self, or_self, Function.comp_def, List.isEmpty_nil, List.isEmpty_cons, beq_iff_eq, Nat.reduceBEq, Nat.zero_add, Int.zero_add, Int.sub_zero, Int.reduceToNat, Int.reducePow, Int.reduceAdd, Int.reduceMul, Int.reduceLT, Int.reduceLE, Int.reduceEq, Nat.reduceAdd, Nat.reduceLT, Nat.reduceLeDiff, SZ, Nat.zero_le, List.append_eq, hn k _ (show 1 ≤ k by omega), if_pos]
    refine drawI (by omega) (by omega) fun p p0 p1 => drawI (by omega) (by omega) fun q q0 q1 => ?_
    exact ⟨_, _, rfl, rfl, (s, p, q), rfl, rfl, ⟨p0, by show p ≤ 1 + n; omega⟩, q0, by show q ≤ 1 + n; omega⟩
  obtain ⟨fs, rfl, hfs⟩ := All2.ex (e := encF) (S := fun s f => f.1 = s ∧ (0 ≤ f.2.1 ∧ f.2.1 ≤ 1 + n) ∧ 0 ≤ f.2.2 ∧ f.2.2 ≤ 1 + n) (fun s t h => h) hy
  try simp (disch := omega) only [et_var, et_int, et_str, et_bl, et_non, et_glob, et_fnv, et_bin, et_neg, et_cmp, et_chain, et_tup, et_new, et_idx, et_slc, et_rev, et_call, et_callv, et_bi, et_isi, et_li, et_join, et_not, et_and, et_or, et_ite, ef_var, ef_int, ef_str, ef_bl, ef_non, ef_glob, ef_fnv, ef_neg, ef_cmp, ef_chain, ef_tup, ef_idx, ef_callv, ef_bi, ef_isi, ef_join, ef_not, ef_and, ef_or, ef_ite, ef_sub, ef_fdiv, ef_mod, ef_pow, ef_tuple, ef_sum, ef_all, ef_any, ef_max, ef_min, ef_len, ef_dict, ef_new, ef_call, ef_list, ef_add, ef_mul, ef_slc, ef_rev, ss1, ss2, evS, evE, evEs, evO, evL, evLs, evR, evIf, occE, occEs, occO, occL, occLs, occR, pub1, mask, bn1, bn2, bn3, bn4, bn5, bn6, bn7, bn8, bn9, bn10, bn11, tu1, tu2, tu3, tu4, tu5, tu6, cm1, cm2, cm3, cm4, cm5, cm6, cm7, cm8, cm9, cm10, in1, in2, in3, in4, in5, in6, eq1, eq2, eq3, eq4, eq5, eq6, eq7, eq8, lt1, lt2, le1, le2, gt1, ge1, ix1, ix2, ix3, sl1, sl2, sl3, rv1, is1, is2, is3, is4, is5, is6, is7, is8, is9, is10, is11, is12, is13, is14, is15, is16, is17, is18, ln1, ln2, ln3, bi1, bi2, bi3, bi4, bi6, bi7, bi8, sq1, sq2, id1, sd1, ld1, ad1, ad2, ad3, ad4, ad5, as1, as2, as3, as4, as5, li1, li2, li3, li4, li5, li6, li7, li8, jo1, ra1, ra2, zi1, zi2, cl1, cl2, sf1, sf2, ke1, ke2, ke3, pb1, pb2, pb3, vi1, vi2, vi3, vi4, pu1, pu2, wi1, wi2, il1, il2, il3, il4, pt1, pt2, pt3, pt4, pt5, pt6, pt7, pt8, pureTs_map, all_true, startD, tr_ret, tr_draw, tr_exc, tr_fail, tr_some, tr_none, tr_noexc, tr_noexcF, tr_noexcD, go_nx, go_rt, fin_nx, fin_rt, consO, ite_bind, ite_noexc, evCo_map, evCoM_some, evCoM_if, evFor_map, intsOf_map, blsOf_map, strsOf_map, enumT_map, rangeT_map, zip2_map, zip3_map, atT_0, atT_1, atT_2, atT_3, List.map_cons, List.map_nil, List.map_map, List.cons_append, List.nil_append, List.append_nil, List.replicate, List.set_cons_zero, List.set_cons_succ, List.getD_cons_zero, List.getD_cons_succ, List.getD_nil, List.length_cons, List.length_nil, List.length_map, Option.bind_some, Option.bind_none, Option.map_some, Option.map_none, List.contains_nil, List.contains_cons, Bool.and_eq_true, Bool.or_eq_true, Bool.not_eq_true', decide_eq_true_eq, Bool.not_true, Bool.not_false, Bool.and_true, Bool.true_and, Bool.and_false, Bool.false_and, Bool.or_true, Bool.or_false, Bool.true_or, Bool.false_or, Bool.and_self, Bool.or_self, if_true, if_false, ite_true, ite_false, Bool.false_eq_true, reduceIte, reduceCtorEq, strOk_nil, ne_eq, not_true_eq_false, not_false_eq_true, and_true, true_and, and_false, false_and, or_true, true_or, or_false, false_or, and_self, or_self, Function.comp_def, List.isEmpty_nil, List.isEmpty_cons, beq_iff_eq, Nat.reduceBEq, Nat.zero_add, Int.zero_add, Int.sub_zero, Int.reduceToNat, Int.reducePow, Int.reduceAdd, Int.reduceMul, Int.reduceLT, Int.reduceLE, Int.reduceEq, Nat.reduceAdd, Nat.reduceLT, Nat.reduceLeDiff, SZ, Nat.zero_le, List.append_eq, hn k _ (show 1 ≤ k by omega), if_pos]
  repeat with_reducible refine bindI ?_
  refine drawI (by omega) (by omega) fun d d0 d1 => ?_
  try simp (disch := omega) only [et_var, et_int, et_str, et_bl, et_non, et_glob, et_fnv, et_bin, et_neg, et_cmp, et_chain, et_tup, et_new, et_idx, et_slc, et_rev, et_call, et_callv, et_bi, et_isi, et_li, et_join, et_not, et_and, et_or, et_ite, ef_var, ef_int, ef_str, ef_bl, ef_non, ef_glob, ef_fnv, ef_neg, ef_cmp, ef_chain, ef_tup, ef_idx, ef_callv, ef_bi, ef_isi, ef_join, ef_not, ef_and, ef_or, ef_ite, ef_sub, ef_fdiv, ef_mod, ef_pow, ef_tuple, ef_sum, ef_all, ef_any, ef_max, ef_min, ef_len, ef_dict, ef_new, ef_call, ef_list, ef_add, ef_mul, ef_slc, ef_rev, ss1, ss2, evS, evE, evEs, evO, evL, evLs, evR, evIf, occE, occEs, occO, occL, occLs, occR, pub1, mask, bn1, bn2, bn3, bn4, bn5, bn6, bn7, bn8, bn9, bn10, bn11, tu1, tu2, tu3, tu4, tu5, tu6, cm1, cm2, cm3, cm4, cm5, cm6, cm7, cm8, cm9, cm10, in1, in2, in3, in4, in5, in6, eq1, eq2, eq3, eq4, eq5, eq6, eq7, eq8, lt1, lt2, le1, le2, gt1, ge1, ix1, ix2, ix3, sl1, sl2, sl3, rv1, is1, is2, is3, is4, is5, is6, is7, is8, is9, is10, is11, is12, is13, is14, is15, is16, is17, is18, ln1, ln2, ln3, bi1, bi2, bi3, bi4, bi6, bi7, bi8, sq1, sq2, id1, sd1, ld1, ad1, ad2, ad3, ad4, ad5, as1, as2, as3, as4, as5, li1, li2, li3, li4, li5, li6, li7, li8, jo1, ra1, ra2, zi1, zi2, cl1, cl2, sf1, sf2, ke1, ke2, ke3, pb1, pb2, pb3, vi1, vi2, vi3, vi4, pu1, pu2, wi1, wi2, il1, il2, il3, il4, pt1, pt2, pt3, pt4, pt5, pt6, pt7, pt8, pureTs_map, all_true, startD, tr_ret, tr_draw, tr_exc, tr_fail, tr_some, tr_none, tr_noexc, tr_noexcF, tr_noexcD, go_nx, go_rt, fin_nx, fin_rt, consO, ite_bind, ite_noexc, evCo_map, evCoM_some, evCoM_if, evFor_map, intsOf_map, blsOf_map, strsOf_map, enumT_map, rangeT_map, zip2_map, zip3_map, atT_0, atT_1, atT_2, atT_3, List.map_cons, List.map_nil, List.map_map, List.cons_append, List.nil_append, List.append_nil, List.replicate, List.set_cons_zero, List.set_cons_succ, List.getD_cons_zero, List.getD_cons_succ, List.getD_nil, List.length_cons, List.length_nil, List.length_map, Option.bind_some, Option.bind_none, Option.map_some, Option.map_none, List.contains_nil, List.contains_cons, Bool.and_eq_true, Bool.or_eq_true, Bool.not_eq_true', decide_eq_true_eq, Bool.not_true, Bool.not_false, Bool.and_true, Bool.true_and, Bool.and_false, Bool.false_and, Bool.or_true, Bool.or_false, Bool.true_or, Bool.false_or, Bool.and_self, Bool.or_self, if_true, if_false, ite_true, ite_false, Bool.false_eq_true, reduceIte, reduceCtorEq, strOk_nil, ne_eq, not_true_eq_false, not_false_eq_true, and_true, true_and, and_false, false_and, or_true, true_or, or_false, false_or, and_self, or_self, Function.comp_def, List.isEmpty_nil, List.isEmpty_cons, beq_iff_eq, Nat.reduceBEq, Nat.zero_add, Int.zero_add, Int.sub_zero, Int.reduceToNat, Int.reducePow, Int.reduceAdd, Int.reduceMul, Int.reduceLT, Int.reduceLE, Int.reduceEq, Nat.reduceAdd, Nat.reduceLT, Nat.reduceLeDiff, SZ, Nat.zero_le, List.append_eq, if_pos]
  repeat with_reducible refine bindI ?_
  refine evForM_appD (fun l => [some (.val (.ref 0)), some (.val (.int most)), some (.val (.int many)), some (.val (.int (1 + n))), some (.own (fs.map encF)), none, some (.val (.int (3 + d))), some (.own l), none, none])
    (fun s t => ∃ p : Int × Int, t = encL p ∧ (0 ≤ p.1 ∧ p.1 ≤ 2) ∧ 0 ≤ p.2 ∧ p.2 ≤ 2) [] (by simp; omega) (fun s l hs hl => ?_) fun zs hz => ?_
  · simp (disch := omega) only [et_var, et_int, et_str, et_bl, et_non, et_glob, et_fnv, et_bin, et_neg, et_cmp, et_chain, et_tup, et_new, et_idx, et_slc, et_rev, et_call, et_callv, et_bi, et_isi, et_li, et_join, et_not, et_and, et_or, et_ite, ef_var, ef_int, ef_str, ef_bl, ef_non, ef_glob, ef_fnv, ef_neg, ef_cmp, ef_chain, ef_tup, ef_idx, ef_callv, ef_bi, ef_isi, ef_join, ef_not, ef_and, ef_or, ef_ite, ef_sub, ef_fdiv, ef_mod, ef_pow, ef_tuple, ef_sum, ef_all, ef_any, ef_max, ef_min, ef_len, ef_dict, ef_new, ef_call, ef_list, ef_add, ef_mul, ef_slc, ef_rev, ss1, ss2, evS, evE, evEs, evO, evL, evLs, evR, evIf, occE, occEs, occO, occL, occLs, occR, pub1, mask, bn1, bn2, bn3, bn4, bn5, bn6, bn7, bn8, bn9, bn10, bn11, tu1, tu2, tu3, tu4, tu5, tu6, cm1, cm2, cm3, cm4, cm5, cm6, cm7, cm8, cm9, cm10, in1, in2, in3, in4, in5, in6, eq1, eq2, eq3, eq4, eq5, eq6, eq7, eq8, lt1, lt2, le1, le2, gt1, ge1, ix1, ix2, ix3, sl1, sl2, sl3, rv1, is1, is2, is3, is4, is5, is6, is7, is8, is9, is10, is11, is12, is13, is14, is15, is16, is17, is18, ln1, ln2, ln3, bi1, bi2, bi3, bi4, bi6, bi7, bi8, sq1, sq2, id1, sd1, ld1, ad1, ad2, ad3, ad4, ad5, as1, as2, as3, as4, as5, li1, li2, li3, li4, li5, li6, li7, li8, jo1, ra1, ra2, zi1, zi2, cl1, cl2, sf1, sf2, ke1, ke2, ke3, pb1, pb2, pb3, vi1, vi2, vi3, vi4, pu1, pu2, wi1, wi2, il1, il2, il3, il4, pt1, pt2, pt3, pt4, pt5, pt6, pt7, pt8, pureTs_map, all_true, startD, tr_ret, tr_draw, tr_exc, tr_fail, tr_some, tr_none, tr_noexc, tr_noexcF, tr_noexcD, go_nx, go_rt, fin_nx, fin_rt, consO, ite_bind, ite_noexc, evCo_map, evCoM_some, evCoM_if, evFor_map, intsOf_map, blsOf_map, strsOf_map, enumT_map, rangeT_map, zip2_map, zip3_map, atT_0, atT_1, atT_2, atT_3, List.map_cons, List.map_nil, List.map_map, List.cons_append, List.nil_append, List.append_nil, List.replicate, List.set_cons_zero, List.set_cons_succ, List.getD_cons_zero, List.getD_cons_succ, List.getD_nil, List.length_cons, List.length_nil, List.length_map, Option.bind_some, Option.bind_none, Option.map_some, Option.map_none, List.contains_nil, List.contains_cons, Bool.and_eq_true, Bool.or_eq_true, Bool.not_eq_true', decide_eq_true_eq, Bool.not_true, Bool.not_false, Bool.and_true, Bool.true_and, Bool.and_false, Bool.false_and, Bool.or_true, Bool.or_false, Bool.true_or, Bool.false_or, Bool.and_self, Bool.or_self, if_true, if_false, ite_true, ite_false, Bool.false_eq_true, reduceIte, reduceCtorEq, strOk_nil, ne_eq, not_true_eq_false, not_false_eq_true, and_true, true_and, and_false, false_and, or_true, true_or, or_false, false_or, and_self, or_self, Function.comp_def, List.isEmpty_nil, List.isEmpty_cons, beq_iff_eq, Nat.reduceBEq, Nat.zero_add, Int.zero_add, Int.sub_zero, Int.reduceToNat, Int.reducePow, Int.reduceAdd, Int.reduceMul, Int.reduceLT, Int.reduceLE, Int.reduceEq, Nat.reduceAdd, Nat.reduceLT, Nat.reduceLeDiff, SZ, Nat.zero_le, List.append_eq, hn k _ (show 1 ≤ k by omega), if_pos]
    refine drawI (by omega) (by omega) fun p p0 p1 => drawI (by omega) (by omega) fun q q0 q1 => ?_
    refine drawI (by omega) (by omega) fun u u0 u1 => ?_
    have e1 := mOkP (i := p) (c := u < 2) (by omega)
    try simp (disch := first | omega | assumption) only [et_var, et_int, et_str, et_bl, et_non, et_glob, et_fnv, et_bin, et_neg, et_cmp, et_chain, et_tup, et_new, et_idx, et_slc, et_rev, et_call, et_callv, et_bi, et_isi, et_li, et_join, et_not, et_and, et_or, et_ite, ef_var, ef_int, ef_str, ef_bl, ef_non, ef_glob, ef_fnv, ef_neg, ef_cmp, ef_chain, ef_tup, ef_idx, ef_callv, ef_bi, ef_isi, ef_join, ef_not, ef_and, ef_or, ef_ite, ef_sub, ef_fdiv, ef_mod, ef_pow, ef_tuple, ef_sum, ef_all, ef_any, ef_max, ef_min, ef_len, ef_dict, ef_new, ef_call, ef_list, ef_add, ef_mul, ef_slc, ef_rev, ss1, ss2, evS, evE, evEs, evO, evL, evLs, evR, evIf, occE, occEs, occO, occL, occLs, occR, pub1, mask, bn1, bn2, bn3, bn4, bn5, bn6, bn7, bn8, bn9, bn10, bn11, tu1, tu2, tu3, tu4, tu5, tu6, cm1, cm2, cm3, cm4, cm5, cm6, cm7, cm8, cm9, cm10, in1, in2, in3, in4, in5, in6, eq1, eq2, eq3, eq4, eq5, eq6, eq7, eq8, lt1, lt2, le1, le2, gt1, ge1, ix1, ix2, ix3, sl1, sl2, sl3, rv1, is1, is2, is3, is4, is5, is6, is7, is8, is9, is10, is11, is12, is13, is14, is15, is16, is17, is18, ln1, ln2, ln3, bi1, bi2, bi3, bi4, bi6, bi7, bi8, sq1, sq2, id1, sd1, ld1, ad1, ad2, ad3, ad4, ad5, as1, as2, as3, as4, as5, li1, li2, li3, li4, li5, li6, li7, li8, jo1, ra1, ra2, zi1, zi2, cl1, cl2, sf1, sf2, ke1, ke2, ke3, pb1, pb2, pb3, vi1, vi2, vi3, vi4, pu1, pu2, wi1, wi2, il1, il2, il3, il4, pt1, pt2, pt3, pt4, pt5, pt6, pt7, pt8, pureTs_map, all_true, startD, tr_ret, tr_draw, tr_exc, tr_fail, tr_some, tr_none, tr_noexc, tr_noexcF, tr_noexcD, go_nx, go_rt, fin_nx, fin_rt, consO, ite_bind, ite_noexc, evCo_map, evCoM_some, evCoM_if, evFor_map, intsOf_map, blsOf_map, strsOf_map, enumT_map, rangeT_map, zip2_map, zip3_map, atT_0, atT_1, atT_2, atT_3, List.map_cons, List.map_nil, List.map_map, List.cons_append, List.nil_append, List.append_nil, List.replicate, List.set_cons_zero, List.set_cons_succ, List.getD_cons_zero, List.getD_cons_succ, List.getD_nil, List.length_cons, List.length_nil, List.length_map, Option.bind_some, Option.bind_none, Option.map_some, Option.map_none, List.contains_nil, List.contains_cons, Bool.and_eq_true, Bool.or_eq_true, Bool.not_eq_true', decide_eq_true_eq, Bool.not_true, Bool.not_false, Bool.and_true, Bool.true_and, Bool.and_false, Bool.false_and, Bool.or_true, Bool.or_false, Bool.true_or, Bool.false_or, Bool.and_self, Bool.or_self, if_true, if_false, ite_true, ite_false, Bool.false_eq_true, reduceIte, reduceCtorEq, strOk_nil, ne_eq, not_true_eq_false, not_false_eq_true, and_true, true_and, and_false, false_and, or_true, true_or, or_false, false_or, and_self, or_self, Function.comp_def, List.isEmpty_nil, List.isEmpty_cons, beq_iff_eq, Nat.reduceBEq, Nat.zero_add, Int.zero_add, Int.sub_zero, Int.reduceToNat, Int.reducePow, Int.reduceAdd, Int.reduceMul, Int.reduceLT, Int.reduceLE, Int.reduceEq, Nat.reduceAdd, Nat.reduceLT, Nat.reduceLeDiff, SZ, Nat.zero_le, List.append_eq, hn k _ (show 1 ≤ k by omega), if_pos]
    refine drawI (by omega) (by omega) fun v v0 v1 => ?_
    have e2 := mOkP (i := q) (c := v < 2) (by omega)
    try simp (disch := first | omega | assumption) only [et_var, et_int, et_str, et_bl, et_non, et_glob, et_fnv, et_bin, et_neg, et_cmp, et_chain, et_tup, et_new, et_idx, et_slc, et_rev, et_call, et_callv, et_bi, et_isi, et_li, et_join, et_not, et_and, et_or, et_ite, ef_var, ef_int, ef_str, ef_bl, ef_non, ef_glob, ef_fnv, ef_neg, ef_cmp, ef_chain, ef_tup, ef_idx, ef_callv, ef_bi, ef_isi, ef_join, ef_not, ef_and, ef_or, ef_ite, ef_sub, ef_fdiv, ef_mod, ef_pow, ef_tuple, ef_sum, ef_all, ef_any, ef_max, ef_min, ef_len, ef_dict, ef_new, ef_call, ef_list, ef_add, ef_mul, ef_slc, ef_rev, ss1, ss2, evS, evE, evEs, evO, evL, evLs, evR, evIf, occE, occEs, occO, occL, occLs, occR, pub1, mask, bn1, bn2, bn3, bn4, bn5, bn6, bn7, bn8, bn9, bn10, bn11, tu1, tu2, tu3, tu4, tu5, tu6, cm1, cm2, cm3, cm4, cm5, cm6, cm7, cm8, cm9, cm10, in1, in2, in3, in4, in5, in6, eq1, eq2, eq3, eq4, eq5, eq6, eq7, eq8, lt1, lt2, le1, le2, gt1, ge1, ix1, ix2, ix3, sl1, sl2, sl3, rv1, is1, is2, is3, is4, is5, is6, is7, is8, is9, is10, is11, is12, is13, is14, is15, is16, is17, is18, ln1, ln2, ln3, bi1, bi2, bi3, bi4, bi6, bi7, bi8, sq1, sq2, id1, sd1, ld1, ad1, ad2, ad3, ad4, ad5, as1, as2, as3, as4, as5, li1, li2, li3, li4, li5, li6, li7, li8, jo1, ra1, ra2, zi1, zi2, cl1, cl2, sf1, sf2, ke1, ke2, ke3, pb1, pb2, pb3, vi1, vi2, vi3, vi4, pu1, pu2, wi1, wi2, il1, il2, il3, il4, pt1, pt2, pt3, pt4, pt5, pt6, pt7, pt8, pureTs_map, all_true, startD, tr_ret, tr_draw, tr_exc, tr_fail, tr_some, tr_none, tr_noexc, tr_noexcF, tr_noexcD, go_nx, go_rt, fin_nx, fin_rt, consO, ite_bind, ite_noexc, evCo_map, evCoM_some, evCoM_if, evFor_map, intsOf_map, blsOf_map, strsOf_map, enumT_map, rangeT_map, zip2_map, zip3_map, atT_0, atT_1, atT_2, atT_3, List.map_cons, List.map_nil, List.map_map, List.cons_append, List.nil_append, List.append_nil, List.replicate, List.set_cons_zero, List.set_cons_succ, List.getD_cons_zero, List.getD_cons_succ, List.getD_nil, List.length_cons, List.length_nil, List.length_map, Option.bind_some, Option.bind_none, Option.map_some, Option.map_none, List.contains_nil, List.contains_cons, Bool.and_eq_true, Bool.or_eq_true, Bool.not_eq_true', decide_eq_true_eq, Bool.not_true, Bool.not_false, Bool.and_true, Bool.true_and, Bool.and_false, Bool.false_and, Bool.or_true, Bool.or_false, Bool.true_or, Bool.false_or, Bool.and_self, Bool.or_self, if_true, if_false, ite_true, ite_false, Bool.false_eq_true, reduceIte, reduceCtorEq, strOk_nil, ne_eq, not_true_eq_false, not_false_eq_true, and_true, true_and, and_false, false_and, or_true, true_or, or_false, false_or, and_self, or_self, Function.comp_def, List.isEmpty_nil, List.isEmpty_cons, beq_iff_eq, Nat.reduceBEq, Nat.zero_add, Int.zero_add, Int.sub_zero, Int.reduceToNat, Int.reducePow, Int.reduceAdd, Int.reduceMul, Int.reduceLT, Int.reduceLE, Int.reduceEq, Nat.reduceAdd, Nat.reduceLT, Nat.reduceLeDiff, SZ, Nat.zero_le, List.append_eq, if_pos, all_ret]
    refine ⟨_, _, rfl, rfl, (p * if u < 2 then 1 else 0, q * if v < 2 then 1 else 0), rfl, ?_, ?_⟩
    · show 0 ≤ (p * if u < 2 then 1 else 0) ∧ (p * if u < 2 then 1 else 0) ≤ 2
      split <;> omega
    · show 0 ≤ (q * if v < 2 then 1 else 0) ∧ (q * if v < 2 then 1 else 0) ≤ 2
      split <;> omega
  obtain ⟨ls, rfl, hls⟩ := All2.ex (e := encL) (S := fun s p => (0 ≤ p.1 ∧ p.1 ≤ 2) ∧ 0 ≤ p.2 ∧ p.2 ≤ 2) (fun s t h => h) hz
  try simp (disch := omega) only [et_var, et_int, et_str, et_bl, et_non, et_glob, et_fnv, et_bin, et_neg, et_cmp, et_chain, et_tup, et_new, et_idx, et_slc, et_rev, et_call, et_callv, et_bi, et_isi, et_li, et_join, et_not, et_and, et_or, et_ite, ef_var, ef_int, ef_str, ef_bl, ef_non, ef_glob, ef_fnv, ef_neg, ef_cmp, ef_chain, ef_tup, ef_idx, ef_callv, ef_bi, ef_isi, ef_join, ef_not, ef_and, ef_or, ef_ite, ef_sub, ef_fdiv, ef_mod, ef_pow, ef_tuple, ef_sum, ef_all, ef_any, ef_max, ef_min, ef_len, ef_dict, ef_new, ef_call, ef_list, ef_add, ef_mul, ef_slc, ef_rev, ss1, ss2, evS, evE, evEs, evO, evL, evLs, evR, evIf, occE, occEs, occO, occL, occLs, occR, pub1, mask, bn1, bn2, bn3, bn4, bn5, bn6, bn7, bn8, bn9, bn10, bn11, tu1, tu2, tu3, tu4, tu5, tu6, cm1, cm2, cm3, cm4, cm5, cm6, cm7, cm8, cm9, cm10, in1, in2, in3, in4, in5, in6, eq1, eq2, eq3, eq4, eq5, eq6, eq7, eq8, lt1, lt2, le1, le2, gt1, ge1, ix1, ix2, ix3, sl1, sl2, sl3, rv1, is1, is2, is3, is4, is5, is6, is7, is8, is9, is10, is11, is12, is13, is14, is15, is16, is17, is18, ln1, ln2, ln3, bi1, bi2, bi3, bi4, bi6, bi7, bi8, sq1, sq2, id1, sd1, ld1, ad1, ad2, ad3, ad4, ad5, as1, as2, as3, as4, as5, li1, li2, li3, li4, li5, li6, li7, li8, jo1, ra1, ra2, zi1, zi2, cl1, cl2, sf1, sf2, ke1, ke2, ke3, pb1, pb2, pb3, vi1, vi2, vi3, vi4, pu1, pu2, wi1, wi2, il1, il2, il3, il4, pt1, pt2, pt3, pt4, pt5, pt6, pt7, pt8, pureTs_map, all_true, startD, tr_ret, tr_draw, tr_exc, tr_fail, tr_some, tr_none, tr_noexc, tr_noexcF, tr_noexcD, go_nx, go_rt, fin_nx, fin_rt, consO, ite_bind, ite_noexc, evCo_map, evCoM_some, evCoM_if, evFor_map, intsOf_map, blsOf_map, strsOf_map, enumT_map, rangeT_map, zip2_map, zip3_map, atT_0, atT_1, atT_2, atT_3, List.map_cons, List.map_nil, List.map_map, List.cons_append, List.nil_append, List.append_nil, List.replicate, List.set_cons_zero, List.set_cons_succ, List.getD_cons_zero, List.getD_cons_succ, List.getD_nil, List.length_cons, List.length_nil, List.length_map, Option.bind_some, Option.bind_none, Option.map_some, Option.map_none, List.contains_nil, List.contains_cons, Bool.and_eq_true, Bool.or_eq_true, Bool.not_eq_true', decide_eq_true_eq, Bool.not_true, Bool.not_false, Bool.and_true, Bool.true_and, Bool.and_false, Bool.false_and, Bool.or_true, Bool.or_false, Bool.true_or, Bool.false_or, Bool.and_self, Bool.or_self, if_true, if_false, ite_true, ite_false, Bool.false_eq_true, reduceIte, reduceCtorEq, strOk_nil, ne_eq, not_true_eq_false, not_false_eq_true, and_true, true_and, and_false, false_and, or_true, true_or, or_false, false_or, and_self, or_self, Function.comp_def, List.isEmpty_nil, List.isEmpty_cons, beq_iff_eq, Nat.reduceBEq, Nat.zero_add, Int.zero_add, Int.sub_zero, Int.reduceToNat, Int.reducePow, Int.reduceAdd, Int.reduceMul, Int.reduceLT, Int.reduceLE, Int.reduceEq, Nat.reduceAdd, Nat.reduceLT, Nat.reduceLeDiff, SZ, Nat.zero_le, List.append_eq, if_pos, all_ret]
  have l1 := hls.length
  have l2 := hfs.length
  rw [List.length_range] at l1
  have e1 : fs.map (·.1) = ns := by
    clear hy l2 nl nok
    induction hfs with
    | nil => rfl
    | cons a b ih => rw [List.map_cons, ih, a.1]
  refine h ls fs (by omega) (by omega) (fun p hp => ?_) ⟨by rw [e1]; exact nok, fun f hf => ?_⟩ (by omega)
  · obtain ⟨_, _, h1⟩ := hls.right p hp
    exact h1
  · obtain ⟨_, _, _, h1, h2⟩ := hfs.right f hf
    have : (ls.length : Int) = 1 + n := by omega
    rw [this]; exact ⟨h1, h2⟩

end Mo

namespace Mo
open PySem PyProof.Rows
def B_law_same (i_law_same : Nat) : List Sm := [.cond (.isi (.var 1) .tuple) [.cond (.or (.not (.isi (.var 0) .tuple)) (.cmp .ne (.bi .len [(.var 0)]) (.bi .len [(.var 1)]))) [.ret (some (.bl false))] [], .ret (some (.li .all (.comp (.call i_law_same [(.var 3), (.var 4)]) [] (.tup [(.name 3), (.name 4)]) [2, 3, 4] (.zip [(.ex (.var 0)), (.ex (.var 1))]))))] [], .cond (.or (.cmp .is (.var 1) .non) (.cmp .is (.var 0) .non)) [.ret (some (.and (.cmp .is (.var 1) .non) (.cmp .is (.var 0) .non)))] [], .cond (.or (.isi (.var 1) .bool) (.isi (.var 0) .bool)) [.ret (some (.and (.isi (.var 1) .bool) (.and (.isi (.var 0) .bool) (.cmp .eq (.var 0) (.var 1)))))] [], .cond (.isi (.var 1) .int) [.ret (some (.and (.isi (.var 0) .int) (.cmp .eq (.var 0) (.var 1))))] [], .cond (.or (.isi (.var 1) .str) (.isi (.var 0) .str)) [.ret (some (.and (.isi (.var 1) .str) (.and (.isi (.var 0) .str) (.cmp .eq (.var 0) (.var 1)))))] [], .ret (some (.cmp .eq (.bi .repr [(.var 0)]) (.bi .repr [(.var 1)])))]
def S_same (Γ : Pg) (i : Nat) : Prop := ∀ (t : T) (k : Nat), pureT t = true → depT t + 1 ≤ k → depT t ≤ 60 → evCall Γ k i [t, t] = .ret (false, .bl true)
theorem zip_self {α : Type} : ∀ xs : List α, xs.zip xs = xs.map fun x => (x, x)
  | [] => rfl
  | x :: xs => by rw [List.zip_cons_cons, zip_self xs]; rfl
theorem pure_memT {ts : List T} (hp : pureTs ts = true) : ∀ t ∈ ts, pureT t = true ∧ depT t ≤ depTs ts := by
  induction ts with
  | nil => intro t h; cases h
  | cons x xs ih =>
    simp only [pureTs, Bool.and_eq_true] at hp
    simp only [depTs]
    intro t ht
    rcases List.mem_cons.mp ht with rfl | ht
    · exact ⟨hp.1, by omega⟩
    · have := ih hp.2 t ht
      exact ⟨this.1, by omega⟩
theorem same_ok {Γ : Pg} {i : Nat} (hf : Γ.fns[i]? = some (.code 2 5 (B_law_same i))) : S_same Γ i := by
  have main : ∀ (n : Nat) (t : T), depT t ≤ n → pureT t = true → ∀ k, n + 1 ≤ k → n ≤ 60 → evCall Γ k i [t, t] = .ret (false, .bl true) := by
    intro n
    induction n with
    | zero =>
      intro t hd hp k hk _
      obtain ⟨k, rfl, hj⟩ := ex_succ hk
      rw [ev_code hf rfl]
      cases t with
      | tup ts => simp [depT] at hd
      | lst ts => simp [pureT] at hp
      | dct _ _ => simp [pureT] at hp
      | ref _ => simp [pureT] at hp
      | fn _ => simp [pureT] at hp
      | scr => simp [pureT] at hp
      | non => simp only [B_law_same, et_var, et_int, et_str, et_bl, et_non, et_glob, et_fnv, et_bin, et_neg, et_cmp, et_chain, et_tup, et_new, et_idx, et_slc, et_rev, et_call, et_callv, et_bi, et_isi, et_li, et_join, et_not, et_and, et_or, et_ite, ef_var, ef_int, ef_str, ef_bl, ef_non, ef_glob, ef_fnv, ef_neg, ef_cmp, ef_chain, ef_tup, ef_idx, ef_callv, ef_bi, ef_isi, ef_join, ef_not, ef_and, ef_or, ef_ite, ef_sub, ef_fdiv, ef_mod, ef_pow, ef_tuple, ef_sum, ef_all, ef_any, ef_max, ef_min, ef_len, ef_dict, ef_new, ef_call, ef_list, ef_add, ef_mul, ef_slc, ef_rev, ss1, ss2, evS, evE, evEs, evO, evL, evLs, evR, evIf, occE, occEs, occO, occL, occLs, occR, pub1, mask, bn1, bn2, bn3, bn4, bn5, bn6, bn7, bn8, bn9, bn10, bn11, tu1, tu2, tu3, tu4, tu5, tu6, cm1, cm2, cm3, cm4, cm5, cm6, cm7, cm8, cm9, cm10, in1, in2, in3, in4, in5, in6, eq1, eq2, eq3, eq4, eq5, eq6, eq7, eq8, lt1, lt2, le1, le2, gt1, ge1, ix1, ix2, ix3, sl1, sl2, sl3, rv1, is1, is2, is3, is4, is5, is6, is7, is8, is9, is10, is11, is12, is13, is14, is15, is16, is17, is18, ln1, ln2, ln3, bi1, bi2, bi3, bi4, bi6, bi7, bi8, sq1, sq2, id1, sd1, ld1, ad1, ad2, ad3, ad4, ad5, as1, as2, as3, as4, as5, li1, li2, li3, li4, li5, li6, li7, li8, jo1, ra1, ra2, zi1, zi2, cl1, cl2, sf1, sf2, ke1, ke2, ke3, pb1, pb2, pb3, vi1, vi2, vi3, vi4, pu1, pu2, wi1, wi2, il1, il2, il3, il4, pt1, pt2, pt3, pt4, pt5, pt6, pt7, pt8, pureTs_map, all_true, startD, tr_ret, tr_draw, tr_exc, tr_fail, tr_some, tr_none, tr_noexc, tr_noexcF, tr_noexcD, go_nx, go_rt, fin_nx, fin_rt, consO, ite_bind, ite_noexc, evCo_map, evCoM_some, evCoM_if, evFor_map, intsOf_map, blsOf_map, strsOf_map, enumT_map, rangeT_map, zip2_map, zip3_map, atT_0, atT_1, atT_2, atT_3, List.map_cons, List.map_nil, List.map_map, List.cons_append, List.nil_append, List.append_nil, List.replicate, List.set_cons_zero, List.set_cons_succ, List.getD_cons_zero, List.getD_cons_succ, List.getD_nil, List.length_cons, List.length_nil, List.length_map, Option.bind_some, Option.bind_none, Option.map_some, Option.map_none, List.contains_nil, List.contains_cons, Bool.and_eq_true, Bool.or_eq_true, Bool.not_eq_true', decide_eq_true_eq, Bool.not_true, Bool.not_false, Bool.and_true, Bool.true_and, Bool.and_false, Bool.false_and, Bool.or_true, Bool.or_false, Bool.true_or, Bool.false_or, Bool.and_self, Bool.or_self, if_true, if_false, ite_true, ite_false, Bool.false_eq_true, reduceIte, reduceCtorEq, strOk_nil, ne_eq, not_true_eq_false, not_false_eq_true, and_true, true_and, and_false, false_and, or_true, true_or, or_false, false_or, and_self, or_self, Function.comp_def, List.isEmpty_nil, List.isEmpty_cons, beq_iff_eq, Nat.reduceBEq, Nat.zero_add, Int.zero_add, Int.sub_zero, Int.reduceToNat, Int.reducePow, Int.reduceAdd, Int.reduceMul, Int.reduceLT, Int.reduceLE, Int.reduceEq, Nat.reduceAdd, Nat.reduceLT, Nat.reduceLeDiff, SZ, Nat.zero_le, List.append_eq]
      | bl b => simp only [B_law_same, et_var, et_int, et_str, et_bl, et_non, et_glob, et_fnv, et_bin, et_neg, et_cmp, et_chain, et_tup, et_new, et_idx, et_slc, et_rev, et_call, et_callv, et_bi, et_isi, et_li, et_join, et_not, et_and, et_or, et_ite, ef_var, ef_int, ef_str, ef_bl, ef_non, ef_glob, ef_fnv, ef_neg, ef_cmp, ef_chain, ef_tup, ef_idx, ef_callv, ef_bi, ef_isi, ef_join, ef_not, ef_and, ef_or, ef_ite, ef_sub, ef_fdiv, ef_mod, ef_pow, ef_tuple, ef_sum, ef_all, ef_any, ef_max, ef_min, ef_len, ef_dict, ef_new, ef_call, ef_list, ef_add, ef_mul, ef_slc, ef_rev, ss1, ss2, evS, evE, evEs, evO, evL, evLs, evR, evIf, occE, occEs, occO, occL, occLs, occR, pub1, mask, bn1, bn2, bn3, bn4, bn5, bn6, bn7, bn8, bn9, bn10, bn11, tu1, tu2, tu3, tu4, tu5, tu6, cm1, cm2, cm3, cm4, cm5, cm6, cm7, cm8, cm9, cm10, in1, in2, in3, in4, in5, in6, eq1, eq2, eq3, eq4, eq5, eq6, eq7, eq8, lt1, lt2, le1, le2, gt1, ge1, ix1, ix2, ix3, sl1, sl2, sl3, rv1, is1, is2, is3, is4, is5, is6, is7, is8, is9, is10, is11, is12, is13, is14, is15, is16, is17, is18, ln1, ln2, ln3, bi1, bi2, bi3, bi4, bi6, bi7, bi8, sq1, sq2, id1, sd1, ld1, ad1, ad2, ad3, ad4, ad5, as1, as2, as3, as4, as5, li1, li2, li3, li4, li5, li6, li7, li8, jo1, ra1, ra2, zi1, zi2, cl1, cl2, sf1, sf2, ke1, ke2, ke3, pb1, pb2, pb3, vi1, vi2, vi3, vi4, pu1, pu2, wi1, wi2, il1, il2, il3, il4, pt1, pt2, pt3, pt4, pt5, pt6, pt7, pt8, pureTs_map, all_true, startD, tr_ret, tr_draw, tr_exc, tr_fail, tr_some, tr_none, tr_noexc, tr_noexcF, tr_noexcD, go_nx, go_rt, fin_nx, fin_rt, consO, ite_bind, ite_noexc, evCo_map, evCoM_some, evCoM_if, evFor_map, intsOf_map, blsOf_map, strsOf_map, enumT_map, rangeT_map, zip2_map, zip3_map, atT_0, atT_1, atT_2, atT_3, List.map_cons, List.map_nil, List.map_map, List.cons_append, List.nil_append, List.append_nil, List.replicate, List.set_cons_zero, List.set_cons_succ, List.getD_cons_zero, List.getD_cons_succ, List.getD_nil, List.length_cons, List.length_nil, List.length_map, Option.bind_some, Option.bind_none, Option.map_some, Option.map_none, List.contains_nil, List.contains_cons, Bool.and_eq_true, Bool.or_eq_true, Bool.not_eq_true', decide_eq_true_eq, Bool.not_true, Bool.not_false, Bool.and_true, Bool.true_and, Bool.and_false, Bool.false_and, Bool.or_true, Bool.or_false, Bool.true_or, Bool.false_or, Bool.and_self, Bool.or_self, if_true, if_false, ite_true, ite_false, Bool.false_eq_true, reduceIte, reduceCtorEq, strOk_nil, ne_eq, not_true_eq_false, not_false_eq_true, and_true, true_and, and_false, false_and, or_true, true_or, or_false, false_or, and_self, or_self, Function.comp_def, List.isEmpty_nil, List.isEmpty_cons, beq_iff_eq, Nat.reduceBEq, Nat.zero_add, Int.zero_add, Int.sub_zero, Int.reduceToNat, Int.reducePow, Int.reduceAdd, Int.reduceMul, Int.reduceLT, Int.reduceLE, Int.reduceEq, Nat.reduceAdd, Nat.reduceLT, Nat.reduceLeDiff, SZ, Nat.zero_le, List.append_eq, beq_self_eq_true]
      | int b => simp only [B_law_same, et_var, et_int, et_str, et_bl, et_non, et_glob, et_fnv, et_bin, et_neg, et_cmp, et_chain, et_tup, et_new, et_idx, et_slc, et_rev, et_call, et_callv, et_bi, et_isi, et_li, et_join, et_not, et_and, et_or, et_ite, ef_var, ef_int, ef_str, ef_bl, ef_non, ef_glob, ef_fnv, ef_neg, ef_cmp, ef_chain, ef_tup, ef_idx, ef_callv, ef_bi, ef_isi, ef_join, ef_not, ef_and, ef_or, ef_ite, ef_sub, ef_fdiv, ef_mod, ef_pow, ef_tuple, ef_sum, ef_all, ef_any, ef_max, ef_min, ef_len, ef_dict, ef_new, ef_call, ef_list, ef_add, ef_mul, ef_slc, ef_rev, ss1, ss2, evS, evE, evEs, evO, evL, evLs, evR, evIf, occE, occEs, occO, occL, occLs, occR, pub1, mask, bn1, bn2, bn3, bn4, bn5, bn6, bn7, bn8, bn9, bn10, bn11, tu1, tu2, tu3, tu4, tu5, tu6, cm1, cm2, cm3, cm4, cm5, cm6, cm7, cm8, cm9, cm10, in1, in2, in3, in4, in5, in6, eq1, eq2, eq3, eq4, eq5, eq6, eq7, eq8, lt1, lt2, le1, le2, gt1, ge1, ix1, ix2, ix3, sl1, sl2, sl3, rv1, is1, is2, is3, is4, is5, is6, is7, is8, is9, is10, is11, is12, is13, is14, is15, is16, is17, is18, ln1, ln2, ln3, bi1, bi2, bi3, bi4, bi6, bi7, bi8, sq1, sq2, id1, sd1, ld1, ad1, ad2, ad3, ad4, ad5, as1, as2, as3, as4, as5, li1, li2, li3, li4, li5, li6, li7, li8, jo1, ra1, ra2, zi1, zi2, cl1, cl2, sf1, sf2, ke1, ke2, ke3, pb1, pb2, pb3, vi1, vi2, vi3, vi4, pu1, pu2, wi1, wi2, il1, il2, il3, il4, pt1, pt2, pt3, pt4, pt5, pt6, pt7, pt8, pureTs_map, all_true, startD, tr_ret, tr_draw, tr_exc, tr_fail, tr_some, tr_none, tr_noexc, tr_noexcF, tr_noexcD, go_nx, go_rt, fin_nx, fin_rt, consO, ite_bind, ite_noexc, evCo_map, evCoM_some, evCoM_if, evFor_map, intsOf_map, blsOf_map, strsOf_map, enumT_map, rangeT_map, zip2_map, zip3_map, atT_0, atT_1, atT_2, atT_3, List.map_cons, List.map_nil, List.map_map, List.cons_append, List.nil_append, List.append_nil, List.replicate, List.set_cons_zero, List.set_cons_succ, List.getD_cons_zero, List.getD_cons_succ, List.getD_nil, List.length_cons, List.length_nil, List.length_map, Option.bind_some, Option.bind_none, Option.map_some, Option.map_none, List.contains_nil, List.contains_cons, Bool.and_eq_true, Bool.or_eq_true, Bool.not_eq_true', decide_eq_true_eq, Bool.not_true, Bool.not_false, Bool.and_true, Bool.true_and, Bool.and_false, Bool.false_and, Bool.or_true, Bool.or_false, Bool.true_or, Bool.false_or, Bool.and_self, Bool.or_self, if_true, if_false, ite_true, ite_false, Bool.false_eq_true, reduceIte, reduceCtorEq, strOk_nil, ne_eq, not_true_eq_false, not_false_eq_true, and_true, true_and, and_false, false_and, or_true, true_or, or_false, false_or, and_self, or_self, Function.comp_def, List.isEmpty_nil, List.isEmpty_cons, beq_iff_eq, Nat.reduceBEq, Nat.zero_add, Int.zero_add, Int.sub_zero, Int.reduceToNat, Int.reducePow, Int.reduceAdd, Int.reduceMul, Int.reduceLT, Int.reduceLE, Int.reduceEq, Nat.reduceAdd, Nat.reduceLT, Nat.reduceLeDiff, SZ, Nat.zero_le, List.append_eq, beq_self_eq_true]
      | str b => simp only [B_law_same, et_var, et_int, et_str, et_bl, et_non, et_glob, et_fnv, et_bin, et_neg, et_cmp, et_chain, et_tup, et_new, et_idx, et_slc, et_rev, et_call, et_callv, et_bi, et_isi, et_li, et_join, et_not, et_and, et_or, et_ite, ef_var, ef_int, ef_str, ef_bl, ef_non, ef_glob, ef_fnv, ef_neg, ef_cmp, ef_chain, ef_tup, ef_idx, ef_callv, ef_bi, ef_isi, ef_join, ef_not, ef_and, ef_or, ef_ite, ef_sub, ef_fdiv, ef_mod, ef_pow, ef_tuple, ef_sum, ef_all, ef_any, ef_max, ef_min, ef_len, ef_dict, ef_new, ef_call, ef_list, ef_add, ef_mul, ef_slc, ef_rev, ss1, ss2, evS, evE, evEs, evO, evL, evLs, evR, evIf, occE, occEs, occO, occL, occLs, occR, pub1, mask, bn1, bn2, bn3, bn4, bn5, bn6, bn7, bn8, bn9, bn10, bn11, tu1, tu2, tu3, tu4, tu5, tu6, cm1, cm2, cm3, cm4, cm5, cm6, cm7, cm8, cm9, cm10, in1, in2, in3, in4, in5, in6, eq1, eq2, eq3, eq4, eq5, eq6, eq7, eq8, lt1, lt2, le1, le2, gt1, ge1, ix1, ix2, ix3, sl1, sl2, sl3, rv1, is1, is2, is3, is4, is5, is6, is7, is8, is9, is10, is11, is12, is13, is14, is15, is16, is17, is18, ln1, ln2, ln3, bi1, bi2, bi3, bi4, bi6, bi7, bi8, sq1, sq2, id1, sd1, ld1, ad1, ad2, ad3, ad4, ad5, as1, as2, as3, as4, as5, li1, li2, li3, li4, li5, li6, li7, li8, jo1, ra1, ra2, zi1, zi2, cl1, cl2, sf1, sf2, ke1, ke2, ke3, pb1, pb2, pb3, vi1, vi2, vi3, vi4, pu1, pu2, wi1, wi2, il1, il2, il3, il4, pt1, pt2, pt3, pt4, pt5, pt6, pt7, pt8, pureTs_map, all_true, startD, tr_ret, tr_draw, tr_exc, tr_fail, tr_some, tr_none, tr_noexc, tr_noexcF, tr_noexcD, go_nx, go_rt, fin_nx, fin_rt, consO, ite_bind, ite_noexc, evCo_map, evCoM_some, evCoM_if, evFor_map, intsOf_map, blsOf_map, strsOf_map, enumT_map, rangeT_map, zip2_map, zip3_map, atT_0, atT_1, atT_2, atT_3, List.map_cons, List.map_nil, List.map_map, List.cons_append, List.nil_append, List.append_nil, List.replicate, List.set_cons_zero, List.set_cons_succ, List.getD_cons_zero, List.getD_cons_succ, List.getD_nil, List.length_cons, List.length_nil, List.length_map, Option.bind_some, Option.bind_none, Option.map_some, Option.map_none, List.contains_nil, List.contains_cons, Bool.and_eq_true, Bool.or_eq_true, Bool.not_eq_true', decide_eq_true_eq, Bool.not_true, Bool.not_false, Bool.and_true, Bool.true_and, Bool.and_false, Bool.false_and, Bool.or_true, Bool.or_false, Bool.true_or, Bool.false_or, Bool.and_self, Bool.or_self, if_true, if_false, ite_true, ite_false, Bool.false_eq_true, reduceIte, reduceCtorEq, strOk_nil, ne_eq, not_true_eq_false, not_false_eq_true, and_true, true_and, and_false, false_and, or_true, true_or, or_false, false_or, and_self, or_self, Function.comp_def, List.isEmpty_nil, List.isEmpty_cons, beq_iff_eq, Nat.reduceBEq, Nat.zero_add, Int.zero_add, Int.sub_zero, Int.reduceToNat, Int.reducePow, Int.reduceAdd, Int.reduceMul, Int.reduceLT, Int.reduceLE, Int.reduceEq, Nat.reduceAdd, Nat.reduceLT, Nat.reduceLeDiff, SZ, Nat.zero_le, List.append_eq, beq_self_eq_true]
    | succ n ih =>
      intro t hd hp k hk h60
      by_cases h0 : depT t ≤ n
      · exact ih t h0 hp k (by omega) (by omega)
      · cases t with
        | tup ts =>
          obtain ⟨k, rfl, hj⟩ := ex_succ hk
          rw [ev_code hf rfl]
          simp only [pureT] at hp
          simp only [depT] at hd
          have hm : (fun a => evCall Γ k i [a, a]) = fun a => evCall Γ k i [a, a] := rfl
          have e : ts = ts.map fun x => x := by simp
          rw [e]
          simp only [B_law_same, et_var, et_int, et_str, et_bl, et_non, et_glob, et_fnv, et_bin, et_neg, et_cmp, et_chain, et_tup, et_new, et_idx, et_slc, et_rev, et_call, et_callv, et_bi, et_isi, et_li, et_join, et_not, et_and, et_or, et_ite, ef_var, ef_int, ef_str, ef_bl, ef_non, ef_glob, ef_fnv, ef_neg, ef_cmp, ef_chain, ef_tup, ef_idx, ef_callv, ef_bi, ef_isi, ef_join, ef_not, ef_and, ef_or, ef_ite, ef_sub, ef_fdiv, ef_mod, ef_pow, ef_tuple, ef_sum, ef_all, ef_any, ef_max, ef_min, ef_len, ef_dict, ef_new, ef_call, ef_list, ef_add, ef_mul, ef_slc, ef_rev, ss1, ss2, evS, evE, evEs, evO, evL, evLs, evR, evIf, occE, occEs, occO, occL, occLs, occR, pub1, mask, bn1, bn2, bn3, bn4, bn5, bn6, bn7, bn8, bn9, bn10, bn11, tu1, tu2, tu3, tu4, tu5, tu6, cm1, cm2, cm3, cm4, cm5, cm6, cm7, cm8, cm9, cm10, in1, in2, in3, in4, in5, in6, eq1, eq2, eq3, eq4, eq5, eq6, eq7, eq8, lt1, lt2, le1, le2, gt1, ge1, ix1, ix2, ix3, sl1, sl2, sl3, rv1, is1, is2, is3, is4, is5, is6, is7, is8, is9, is10, is11, is12, is13, is14, is15, is16, is17, is18, ln1, ln2, ln3, bi1, bi2, bi3, bi4, bi6, bi7, bi8, sq1, sq2, id1, sd1, ld1, ad1, ad2, ad3, ad4, ad5, as1, as2, as3, as4, as5, li1, li2, li3, li4, li5, li6, li7, li8, jo1, ra1, ra2, zi1, zi2, cl1, cl2, sf1, sf2, ke1, ke2, ke3, pb1, pb2, pb3, vi1, vi2, vi3, vi4, pu1, pu2, wi1, wi2, il1, il2, il3, il4, pt1, pt2, pt3, pt4, pt5, pt6, pt7, pt8, pureTs_map, all_true, startD, tr_ret, tr_draw, tr_exc, tr_fail, tr_some, tr_none, tr_noexc, tr_noexcF, tr_noexcD, go_nx, go_rt, fin_nx, fin_rt, consO, ite_bind, ite_noexc, evCo_map, evCoM_some, evCoM_if, evFor_map, intsOf_map, blsOf_map, strsOf_map, enumT_map, rangeT_map, zip2_map, zip3_map, atT_0, atT_1, atT_2, atT_3, List.map_cons, List.map_nil, List.map_map, List.cons_append, List.nil_append, List.append_nil, List.replicate, List.set_cons_zero, List.set_cons_succ, List.getD_cons_zero, List.getD_cons_succ, List.getD_nil, List.length_cons, List.length_nil, List.length_map, Option.bind_some, Option.bind_none, Option.map_some, Option.map_none, List.contains_nil, List.contains_cons, Bool.and_eq_true, Bool.or_eq_true, Bool.not_eq_true', decide_eq_true_eq, Bool.not_true, Bool.not_false, Bool.and_true, Bool.true_and, Bool.and_false, Bool.false_and, Bool.or_true, Bool.or_false, Bool.true_or, Bool.false_or, Bool.and_self, Bool.or_self, if_true, if_false, ite_true, ite_false, Bool.false_eq_true, reduceIte, reduceCtorEq, strOk_nil, ne_eq, not_true_eq_false, not_false_eq_true, and_true, true_and, and_false, false_and, or_true, true_or, or_false, false_or, and_self, or_self, Function.comp_def, List.isEmpty_nil, List.isEmpty_cons, beq_iff_eq, Nat.reduceBEq, Nat.zero_add, Int.zero_add, Int.sub_zero, Int.reduceToNat, Int.reducePow, Int.reduceAdd, Int.reduceMul, Int.reduceLT, Int.reduceLE, Int.reduceEq, Nat.reduceAdd, Nat.reduceLT, Nat.reduceLeDiff, SZ, Nat.zero_le, List.append_eq, beq_self_eq_true]
          rw [zip_self, evCoM_map]
          rw [evCoM_congr (g := fun a => .ret (some (.bl true))) (fun a ha => ?_)]
          · simp only [et_var, et_int, et_str, et_bl, et_non, et_glob, et_fnv, et_bin, et_neg, et_cmp, et_chain, et_tup, et_new, et_idx, et_slc, et_rev, et_call, et_callv, et_bi, et_isi, et_li, et_join, et_not, et_and, et_or, et_ite, ef_var, ef_int, ef_str, ef_bl, ef_non, ef_glob, ef_fnv, ef_neg, ef_cmp, ef_chain, ef_tup, ef_idx, ef_callv, ef_bi, ef_isi, ef_join, ef_not, ef_and, ef_or, ef_ite, ef_sub, ef_fdiv, ef_mod, ef_pow, ef_tuple, ef_sum, ef_all, ef_any, ef_max, ef_min, ef_len, ef_dict, ef_new, ef_call, ef_list, ef_add, ef_mul, ef_slc, ef_rev, ss1, ss2, evS, evE, evEs, evO, evL, evLs, evR, evIf, occE, occEs, occO, occL, occLs, occR, pub1, mask, bn1, bn2, bn3, bn4, bn5, bn6, bn7, bn8, bn9, bn10, bn11, tu1, tu2, tu3, tu4, tu5, tu6, cm1, cm2, cm3, cm4, cm5, cm6, cm7, cm8, cm9, cm10, in1, in2, in3, in4, in5, in6, eq1, eq2, eq3, eq4, eq5, eq6, eq7, eq8, lt1, lt2, le1, le2, gt1, ge1, ix1, ix2, ix3, sl1, sl2, sl3, rv1, is1, is2, is3, is4, is5, is6, is7, is8, is9, is10, is11, is12, is13, is14, is15, is16, is17, is18, ln1, ln2, ln3, bi1, bi2, bi3, bi4, bi6, bi7, bi8, sq1, sq2, id1, sd1, ld1, ad1, ad2, ad3, ad4, ad5, as1, as2, as3, as4, as5, li1, li2, li3, li4, li5, li6, li7, li8, jo1, ra1, ra2, zi1, zi2, cl1, cl2, sf1, sf2, ke1, ke2, ke3, pb1, pb2, pb3, vi1, vi2, vi3, vi4, pu1, pu2, wi1, wi2, il1, il2, il3, il4, pt1, pt2, pt3, pt4, pt5, pt6, pt7, pt8, pureTs_map, all_true, startD, tr_ret, tr_draw, tr_exc, tr_fail, tr_some, tr_none, tr_noexc, tr_noexcF, tr_noexcD, go_nx, go_rt, fin_nx, fin_rt, consO, ite_bind, ite_noexc, evCo_map, evCoM_some, evCoM_if, evFor_map, intsOf_map, blsOf_map, strsOf_map, enumT_map, rangeT_map, zip2_map, zip3_map, atT_0, atT_1, atT_2, atT_3, List.map_cons, List.map_nil, List.map_map, List.cons_append, List.nil_append, List.append_nil, List.replicate, List.set_cons_zero, List.set_cons_succ, List.getD_cons_zero, List.getD_cons_succ, List.getD_nil, List.length_cons, List.length_nil, List.length_map, Option.bind_some, Option.bind_none, Option.map_some, Option.map_none, List.contains_nil, List.contains_cons, Bool.and_eq_true, Bool.or_eq_true, Bool.not_eq_true', decide_eq_true_eq, Bool.not_true, Bool.not_false, Bool.and_true, Bool.true_and, Bool.and_false, Bool.false_and, Bool.or_true, Bool.or_false, Bool.true_or, Bool.false_or, Bool.and_self, Bool.or_self, if_true, if_false, ite_true, ite_false, Bool.false_eq_true, reduceIte, reduceCtorEq, strOk_nil, ne_eq, not_true_eq_false, not_false_eq_true, and_true, true_and, and_false, false_and, or_true, true_or, or_false, false_or, and_self, or_self, Function.comp_def, List.isEmpty_nil, List.isEmpty_cons, beq_iff_eq, Nat.reduceBEq, Nat.zero_add, Int.zero_add, Int.sub_zero, Int.reduceToNat, Int.reducePow, Int.reduceAdd, Int.reduceMul, Int.reduceLT, Int.reduceLE, Int.reduceEq, Nat.reduceAdd, Nat.reduceLT, Nat.reduceLeDiff, SZ, Nat.zero_le, List.append_eq, blsOf_map]
            simp
          · obtain ⟨m1, m2⟩ := pure_memT hp a ha
            rw [ih a (by omega) m1 k hj (by omega)]
            simp only [et_var, et_int, et_str, et_bl, et_non, et_glob, et_fnv, et_bin, et_neg, et_cmp, et_chain, et_tup, et_new, et_idx, et_slc, et_rev, et_call, et_callv, et_bi, et_isi, et_li, et_join, et_not, et_and, et_or, et_ite, ef_var, ef_int, ef_str, ef_bl, ef_non, ef_glob, ef_fnv, ef_neg, ef_cmp, ef_chain, ef_tup, ef_idx, ef_callv, ef_bi, ef_isi, ef_join, ef_not, ef_and, ef_or, ef_ite, ef_sub, ef_fdiv, ef_mod, ef_pow, ef_tuple, ef_sum, ef_all, ef_any, ef_max, ef_min, ef_len, ef_dict, ef_new, ef_call, ef_list, ef_add, ef_mul, ef_slc, ef_rev, ss1, ss2, evS, evE, evEs, evO, evL, evLs, evR, evIf, occE, occEs, occO, occL, occLs, occR, pub1, mask, bn1, bn2, bn3, bn4, bn5, bn6, bn7, bn8, bn9, bn10, bn11, tu1, tu2, tu3, tu4, tu5, tu6, cm1, cm2, cm3, cm4, cm5, cm6, cm7, cm8, cm9, cm10, in1, in2, in3, in4, in5, in6, eq1, eq2, eq3, eq4, eq5, eq6, eq7, eq8, lt1, lt2, le1, le2, gt1, ge1, ix1, ix2, ix3, sl1, sl2, sl3, rv1, is1, is2, is3, is4, is5, is6, is7, is8, is9, is10, is11, is12, is13, is14, is15, is16, is17, is18, ln1, ln2, ln3, bi1, bi2, bi3, bi4, bi6, bi7, bi8, sq1, sq2, id1, sd1, ld1, ad1, ad2, ad3, ad4, ad5, as1, as2, as3, as4, as5, li1, li2, li3, li4, li5, li6, li7, li8, jo1, ra1, ra2, zi1, zi2, cl1, cl2, sf1, sf2, ke1, ke2, ke3, pb1, pb2, pb3, vi1, vi2, vi3, vi4, pu1, pu2, wi1, wi2, il1, il2, il3, il4, pt1, pt2, pt3, pt4, pt5, pt6, pt7, pt8, pureTs_map, all_true, startD, tr_ret, tr_draw, tr_exc, tr_fail, tr_some, tr_none, tr_noexc, tr_noexcF, tr_noexcD, go_nx, go_rt, fin_nx, fin_rt, consO, ite_bind, ite_noexc, evCo_map, evCoM_some, evCoM_if, evFor_map, intsOf_map, blsOf_map, strsOf_map, enumT_map, rangeT_map, zip2_map, zip3_map, atT_0, atT_1, atT_2, atT_3, List.map_cons, List.map_nil, List.map_map, List.cons_append, List.nil_append, List.append_nil, List.replicate, List.set_cons_zero, List.set_cons_succ, List.getD_cons_zero, List.getD_cons_succ, List.getD_nil, List.length_cons, List.length_nil, List.length_map, Option.bind_some, Option.bind_none, Option.map_some, Option.map_none, List.contains_nil, List.contains_cons, Bool.and_eq_true, Bool.or_eq_true, Bool.not_eq_true', decide_eq_true_eq, Bool.not_true, Bool.not_false, Bool.and_true, Bool.true_and, Bool.and_false, Bool.false_and, Bool.or_true, Bool.or_false, Bool.true_or, Bool.false_or, Bool.and_self, Bool.or_self, if_true, if_false, ite_true, ite_false, Bool.false_eq_true, reduceIte, reduceCtorEq, strOk_nil, ne_eq, not_true_eq_false, not_false_eq_true, and_true, true_and, and_false, false_and, or_true, true_or, or_false, false_or, and_self, or_self, Function.comp_def, List.isEmpty_nil, List.isEmpty_cons, beq_iff_eq, Nat.reduceBEq, Nat.zero_add, Int.zero_add, Int.sub_zero, Int.reduceToNat, Int.reducePow, Int.reduceAdd, Int.reduceMul, Int.reduceLT, Int.reduceLE, Int.reduceEq, Nat.reduceAdd, Nat.reduceLT, Nat.reduceLeDiff, SZ, Nat.zero_le, List.append_eq]
        | non => simp [depT] at h0
        | bl _ => simp [depT] at h0
        | int _ => simp [depT] at h0
        | str _ => simp [depT] at h0
        | lst ts => simp [pureT] at hp
        | dct _ _ => simp [pureT] at hp
        | ref _ => simp [pureT] at hp
        | fn _ => simp [pureT] at hp
        | scr => simp [pureT] at hp
  exact fun t k hp hk h60 => main (depT t) t (Nat.le_refl _) hp k hk h60

end Mo

namespace Mo
open PySem PyProof.Rows
def B_count_to : List Sm := [.ret (some (.li .len (.comp (.int 1) [(.cmp .le (.idx (.var 3) (.int 1)) (.var 1))] (.name 3) [2, 3] (.seq (.ex (.idx (.var 0) (.int 1)))))))]
def B_sums (i_count_to : Nat) : List Sm := [.set (.tup [(.name 1), (.name 2)]) (.var 0), .set (.name 3) (.new (.lst [])), .loop (.tup [(.name 4), (.name 5)]) (.enum (.ex (.var 1))) [.set (.name 6) (.call i_count_to [(.var 0), (.var 4)]), .ex (.me .append (.var 3) [(.tup [(.bin .sub (.bin .add (.idx (.var 5) (.int 0)) (.bi .len [(.var 2)])) (.var 6)), (.bin .add (.idx (.var 5) (.int 1)) (.var 6))])])], .ret (some (.li .tuple (.ex (.var 3))))]
def B_law_sums : List Sm := [.set (.name 1) (.new (.lst [])), .loop (.tup [(.name 2), (.name 3)]) (.enum (.ex (.idx (.var 0) (.int 0)))) [.set (.name 4) (.li .len (.comp (.int 1) [(.cmp .le (.var 7) (.var 2))] (.tup [(.name 6), (.name 7), (.name 8)]) [5, 6, 7, 8] (.seq (.ex (.idx (.var 0) (.int 1)))))), .ex (.me .append (.var 1) [(.tup [(.bin .sub (.bin .add (.idx (.var 3) (.int 0)) (.bi .len [(.idx (.var 0) (.int 1))])) (.var 4)), (.bin .add (.idx (.var 3) (.int 1)) (.var 4))])])], .ret (some (.li .tuple (.ex (.var 1))))]
def cnt (fs : List (Sg × Int × Int)) (w : Int) : Nat := (fs.filter fun f => decide (f.2.1 ≤ w)).length
def sumF (fs : List (Sg × Int × Int)) (p : Int × Int) (w : Nat) : Int × Int := (p.1 + fs.length - cnt fs w, p.2 + cnt fs w)
def sumsF (ls : List (Int × Int)) (fs : List (Sg × Int × Int)) : List (Int × Int) := ls.zipIdx.map fun q => sumF fs q.1 q.2
def S_count_to (Γ : Pg) (i : Nat) : Prop := ∀ (k : Nat) (ls : List (Int × Int)) (fs : List (Sg × Int × Int)) (w : Int), 1 ≤ k → evCall Γ k i [stand ls fs, .int w] = .ret (false, .int (cnt fs w))
theorem count_to_ok {Γ : Pg} {i : Nat} (hf : Γ.fns[i]? = some (.code 2 4 B_count_to)) : S_count_to Γ i := fun k ls fs w hk => by
  obtain ⟨k, rfl, hj⟩ := ex_succ hk
  rw [ev_code hf rfl]
  simp only [B_count_to, encF, encL, et_var, et_int, et_str, et_bl, et_non, et_glob, et_fnv, et_bin, et_neg, et_cmp, et_chain, et_tup, et_new, et_idx, et_slc, et_rev, et_call, et_callv, et_bi, et_isi, et_li, et_join, et_not, et_and, et_or, et_ite, ef_var, ef_int, ef_str, ef_bl, ef_non, ef_glob, ef_fnv, ef_neg, ef_cmp, ef_chain, ef_tup, ef_idx, ef_callv, ef_bi, ef_isi, ef_join, ef_not, ef_and, ef_or, ef_ite, ef_sub, ef_fdiv, ef_mod, ef_pow, ef_tuple, ef_sum, ef_all, ef_any, ef_max, ef_min, ef_len, ef_dict, ef_new, ef_call, ef_list, ef_add, ef_mul, ef_slc, ef_rev, ss1, ss2, evS, evE, evEs, evO, evL, evLs, evR, evIf, occE, occEs, occO, occL, occLs, occR, pub1, mask, bn1, bn2, bn3, bn4, bn5, bn6, bn7, bn8, bn9, bn10, bn11, tu1, tu2, tu3, tu4, tu5, tu6, cm1, cm2, cm3, cm4, cm5, cm6, cm7, cm8, cm9, cm10, in1, in2, in3, in4, in5, in6, eq1, eq2, eq3, eq4, eq5, eq6, eq7, eq8, lt1, lt2, le1, le2, gt1, ge1, ix1, ix2, ix3, sl1, sl2, sl3, rv1, is1, is2, is3, is4, is5, is6, is7, is8, is9, is10, is11, is12, is13, is14, is15, is16, is17, is18, ln1, ln2, ln3, bi1, bi2, bi3, bi4, bi6, bi7, bi8, sq1, sq2, id1, sd1, ld1, ad1, ad2, ad3, ad4, ad5, as1, as2, as3, as4, as5, li1, li2, li3, li4, li5, li6, li7, li8, jo1, ra1, ra2, zi1, zi2, cl1, cl2, sf1, sf2, ke1, ke2, ke3, pb1, pb2, pb3, vi1, vi2, vi3, vi4, pu1, pu2, wi1, wi2, il1, il2, il3, il4, pt1, pt2, pt3, pt4, pt5, pt6, pt7, pt8, pureTs_map, all_true, startD, tr_ret, tr_draw, tr_exc, tr_fail, tr_some, tr_none, tr_noexc, tr_noexcF, tr_noexcD, go_nx, go_rt, fin_nx, fin_rt, consO, ite_bind, ite_noexc, evCo_map, evCoM_some, evCoM_if, evFor_map, intsOf_map, blsOf_map, strsOf_map, enumT_map, rangeT_map, zip2_map, zip3_map, atT_0, atT_1, atT_2, atT_3, List.map_cons, List.map_nil, List.map_map, List.cons_append, List.nil_append, List.append_nil, List.replicate, List.set_cons_zero, List.set_cons_succ, List.getD_cons_zero, List.getD_cons_succ, List.getD_nil, List.length_cons, List.length_nil, List.length_map, Option.bind_some, Option.bind_none, Option.map_some, Option.map_none, List.contains_nil, List.contains_cons, Bool.and_eq_true, Bool.or_eq_true, Bool.not_eq_true', decide_eq_true_eq, Bool.not_true, Bool.not_false, Bool.and_true, Bool.true_and, Bool.and_false, Bool.false_and, Bool.or_true, Bool.or_false, Bool.true_or, Bool.false_or, Bool.and_self, Bool.or_self, if_true, if_false, ite_true, ite_false, Bool.false_eq_true, reduceIte, reduceCtorEq, strOk_nil, ne_eq, not_true_eq_false, not_false_eq_true, and_true, true_and, and_false, false_and, or_true, true_or, or_false, false_or, and_self, or_self, Function.comp_def, List.isEmpty_nil, List.isEmpty_cons, beq_iff_eq, Nat.reduceBEq, Nat.zero_add, Int.zero_add, Int.sub_zero, Int.reduceToNat, Int.reducePow, Int.reduceAdd, Int.reduceMul, Int.reduceLT, Int.reduceLE, Int.reduceEq, Nat.reduceAdd, Nat.reduceLT, Nat.reduceLeDiff, SZ, Nat.zero_le, List.append_eq]
  rfl
def S_sums (Γ : Pg) (i d : Nat) : Prop := ∀ (k : Nat) (ls : List (Int × Int)) (fs : List (Sg × Int × Int)), ls.length ≤ 1000 → d ≤ k → evCall Γ k i [stand ls fs] = .ret (false, .tup ((sumsF ls fs).map encL))
theorem sums_ok {Γ : Pg} {i ic : Nat} (hf : Γ.fns[i]? = some (.code 1 7 (B_sums ic))) (hc : S_count_to Γ ic) : S_sums Γ i 2 := fun k ls fs hl hk => by
  obtain ⟨k, rfl, hj⟩ := ex_succ hk
  rw [ev_code hf rfl]
  simp only [B_sums, et_var, et_int, et_str, et_bl, et_non, et_glob, et_fnv, et_bin, et_neg, et_cmp, et_chain, et_tup, et_new, et_idx, et_slc, et_rev, et_call, et_callv, et_bi, et_isi, et_li, et_join, et_not, et_and, et_or, et_ite, ef_var, ef_int, ef_str, ef_bl, ef_non, ef_glob, ef_fnv, ef_neg, ef_cmp, ef_chain, ef_tup, ef_idx, ef_callv, ef_bi, ef_isi, ef_join, ef_not, ef_and, ef_or, ef_ite, ef_sub, ef_fdiv, ef_mod, ef_pow, ef_tuple, ef_sum, ef_all, ef_any, ef_max, ef_min, ef_len, ef_dict, ef_new, ef_call, ef_list, ef_add, ef_mul, ef_slc, ef_rev, ss1, ss2, evS, evE, evEs, evO, evL, evLs, evR, evIf, occE, occEs, occO, occL, occLs, occR, pub1, mask, bn1, bn2, bn3, bn4, bn5, bn6, bn7, bn8, bn9, bn10, bn11, tu1, tu2, tu3, tu4, tu5, tu6, cm1, cm2, cm3, cm4, cm5, cm6, cm7, cm8, cm9, cm10, in1, in2, in3, in4, in5, in6, eq1, eq2, eq3, eq4, eq5, eq6, eq7, eq8, lt1, lt2, le1, le2, gt1, ge1, ix1, ix2, ix3, sl1, sl2, sl3, rv1, is1, is2, is3, is4, is5, is6, is7, is8, is9, is10, is11, is12, is13, is14, is15, is16, is17, is18, ln1, ln2, ln3, bi1, bi2, bi3, bi4, bi6, bi7, bi8, sq1, sq2, id1, sd1, ld1, ad1, ad2, ad3, ad4, ad5, as1, as2, as3, as4, as5, li1, li2, li3, li4, li5, li6, li7, li8, jo1, ra1, ra2, zi1, zi2, cl1, cl2, sf1, sf2, ke1, ke2, ke3, pb1, pb2, pb3, vi1, vi2, vi3, vi4, pu1, pu2, wi1, wi2, il1, il2, il3, il4, pt1, pt2, pt3, pt4, pt5, pt6, pt7, pt8, pureTs_map, all_true, startD, tr_ret, tr_draw, tr_exc, tr_fail, tr_some, tr_none, tr_noexc, tr_noexcF, tr_noexcD, go_nx, go_rt, fin_nx, fin_rt, consO, ite_bind, ite_noexc, evCo_map, evCoM_some, evCoM_if, evFor_map, intsOf_map, blsOf_map, strsOf_map, enumT_map, rangeT_map, zip2_map, zip3_map, atT_0, atT_1, atT_2, atT_3, List.map_cons, List.map_nil, List.map_map, List.cons_append, List.nil_append, List.append_nil, List.replicate, List.set_cons_zero, List.set_cons_succ, List.getD_cons_zero, List.getD_cons_succ, List.getD_nil, List.length_cons, List.length_nil, List.length_map, Option.bind_some, Option.bind_none, Option.map_some, Option.map_none, List.contains_nil, List.contains_cons, Bool.and_eq_true, Bool.or_eq_true, Bool.not_eq_true', decide_eq_true_eq, Bool.not_true, Bool.not_false, Bool.and_true, Bool.true_and, Bool.and_false, Bool.false_and, Bool.or_true, Bool.or_false, Bool.true_or, Bool.false_or, Bool.and_self, Bool.or_self, if_true, if_false, ite_true, ite_false, Bool.false_eq_true, reduceIte, reduceCtorEq, strOk_nil, ne_eq, not_true_eq_false, not_false_eq_true, and_true, true_and, and_false, false_and, or_true, true_or, or_false, false_or, and_self, or_self, Function.comp_def, List.isEmpty_nil, List.isEmpty_cons, beq_iff_eq, Nat.reduceBEq, Nat.zero_add, Int.zero_add, Int.sub_zero, Int.reduceToNat, Int.reducePow, Int.reduceAdd, Int.reduceMul, Int.reduceLT, Int.reduceLE, Int.reduceEq, Nat.reduceAdd, Nat.reduceLT, Nat.reduceLeDiff, SZ, Nat.zero_le, List.append_eq]
  rw [evForM_app1 (E := fun l => [some (.val (stand ls fs)), some (.val (.tup (ls.map encL))), some (.val (.tup (fs.map encF))), some (.own l), none, none, none]) (fun q => encL (sumF fs q.1 q.2)) [] (by simp; omega)
    (fun i a l h1 h2 h3 => ⟨_, by simp only [et_var, et_int, et_str, et_bl, et_non, et_glob, et_fnv, et_bin, et_neg, et_cmp, et_chain, et_tup, et_new, et_idx, et_slc, et_rev, et_call, et_callv, et_bi, et_isi, et_li, et_join, et_not, et_and, et_or, et_ite, ef_var, ef_int, ef_str, ef_bl, ef_non, ef_glob, ef_fnv, ef_neg, ef_cmp, ef_chain, ef_tup, ef_idx, ef_callv, ef_bi, ef_isi, ef_join, ef_not, ef_and, ef_or, ef_ite, ef_sub, ef_fdiv, ef_mod, ef_pow, ef_tuple, ef_sum, ef_all, ef_any, ef_max, ef_min, ef_len, ef_dict, ef_new, ef_call, ef_list, ef_add, ef_mul, ef_slc, ef_rev, ss1, ss2, evS, evE, evEs, evO, evL, evLs, evR, evIf, occE, occEs, occO, occL, occLs, occR, pub1, mask, bn1, bn2, bn3, bn4, bn5, bn6, bn7, bn8, bn9, bn10, bn11, tu1, tu2, tu3, tu4, tu5, tu6, cm1, cm2, cm3, cm4, cm5, cm6, cm7, cm8, cm9, cm10, in1, in2, in3, in4, in5, in6, eq1, eq2, eq3, eq4, eq5, eq6, eq7, eq8, lt1, lt2, le1, le2, gt1, ge1, ix1, ix2, ix3, sl1, sl2, sl3, rv1, is1, is2, is3, is4, is5, is6, is7, is8, is9, is10, is11, is12, is13, is14, is15, is16, is17, is18, ln1, ln2, ln3, bi1, bi2, bi3, bi4, bi6, bi7, bi8, sq1, sq2, id1, sd1, ld1, ad1, ad2, ad3, ad4, ad5, as1, as2, as3, as4, as5, li1, li2, li3, li4, li5, li6, li7, li8, jo1, ra1, ra2, zi1, zi2, cl1, cl2, sf1, sf2, ke1, ke2, ke3, pb1, pb2, pb3, vi1, vi2, vi3, vi4, pu1, pu2, wi1, wi2, il1, il2, il3, il4, pt1, pt2, pt3, pt4, pt5, pt6, pt7, pt8, pureTs_map, all_true, startD, tr_ret, tr_draw, tr_exc, tr_fail, tr_some, tr_none, tr_noexc, tr_noexcF, tr_noexcD, go_nx, go_rt, fin_nx, fin_rt, consO, ite_bind, ite_noexc, evCo_map, evCoM_some, evCoM_if, evFor_map, intsOf_map, blsOf_map, strsOf_map, enumT_map, rangeT_map, zip2_map, zip3_map, atT_0, atT_1, atT_2, atT_3, List.map_cons, List.map_nil, List.map_map, List.cons_append, List.nil_append, List.append_nil, List.replicate, List.set_cons_zero, List.set_cons_succ, List.getD_cons_zero, List.getD_cons_succ, List.getD_nil, List.length_cons, List.length_nil, List.length_map, Option.bind_some, Option.bind_none, Option.map_some, Option.map_none, List.contains_nil, List.contains_cons, Bool.and_eq_true, Bool.or_eq_true, Bool.not_eq_true', decide_eq_true_eq, Bool.not_true, Bool.not_false, Bool.and_true, Bool.true_and, Bool.and_false, Bool.false_and, Bool.or_true, Bool.or_false, Bool.true_or, Bool.false_or, Bool.and_self, Bool.or_self, if_true, if_false, ite_true, ite_false, Bool.false_eq_true, reduceIte, reduceCtorEq, strOk_nil, ne_eq, not_true_eq_false, not_false_eq_true, and_true, true_and, and_false, false_and, or_true, true_or, or_false, false_or, and_self, or_self, Function.comp_def, List.isEmpty_nil, List.isEmpty_cons, beq_iff_eq, Nat.reduceBEq, Nat.zero_add, Int.zero_add, Int.sub_zero, Int.reduceToNat, Int.reducePow, Int.reduceAdd, Int.reduceMul, Int.reduceLT, Int.reduceLE, Int.reduceEq, Nat.reduceAdd, Nat.reduceLT, Nat.reduceLeDiff, SZ, Nat.zero_le, List.append_eq, hc k _ _ _ hj, encL, h3] <;> rfl, rfl⟩)]
  simp only [et_var, et_int, et_str, et_bl, et_non, et_glob, et_fnv, et_bin, et_neg, et_cmp, et_chain, et_tup, et_new, et_idx, et_slc, et_rev, et_call, et_callv, et_bi, et_isi, et_li, et_join, et_not, et_and, et_or, et_ite, ef_var, ef_int, ef_str, ef_bl, ef_non, ef_glob, ef_fnv, ef_neg, ef_cmp, ef_chain, ef_tup, ef_idx, ef_callv, ef_bi, ef_isi, ef_join, ef_not, ef_and, ef_or, ef_ite, ef_sub, ef_fdiv, ef_mod, ef_pow, ef_tuple, ef_sum, ef_all, ef_any, ef_max, ef_min, ef_len, ef_dict, ef_new, ef_call, ef_list, ef_add, ef_mul, ef_slc, ef_rev, ss1, ss2, evS, evE, evEs, evO, evL, evLs, evR, evIf, occE, occEs, occO, occL, occLs, occR, pub1, mask, bn1, bn2, bn3, bn4, bn5, bn6, bn7, bn8, bn9, bn10, bn11, tu1, tu2, tu3, tu4, tu5, tu6, cm1, cm2, cm3, cm4, cm5, cm6, cm7, cm8, cm9, cm10, in1, in2, in3, in4, in5, in6, eq1, eq2, eq3, eq4, eq5, eq6, eq7, eq8, lt1, lt2, le1, le2, gt1, ge1, ix1, ix2, ix3, sl1, sl2, sl3, rv1, is1, is2, is3, is4, is5, is6, is7, is8, is9, is10, is11, is12, is13, is14, is15, is16, is17, is18, ln1, ln2, ln3, bi1, bi2, bi3, bi4, bi6, bi7, bi8, sq1, sq2, id1, sd1, ld1, ad1, ad2, ad3, ad4, ad5, as1, as2, as3, as4, as5, li1, li2, li3, li4, li5, li6, li7, li8, jo1, ra1, ra2, zi1, zi2, cl1, cl2, sf1, sf2, ke1, ke2, ke3, pb1, pb2, pb3, vi1, vi2, vi3, vi4, pu1, pu2, wi1, wi2, il1, il2, il3, il4, pt1, pt2, pt3, pt4, pt5, pt6, pt7, pt8, pureTs_map, all_true, startD, tr_ret, tr_draw, tr_exc, tr_fail, tr_some, tr_none, tr_noexc, tr_noexcF, tr_noexcD, go_nx, go_rt, fin_nx, fin_rt, consO, ite_bind, ite_noexc, evCo_map, evCoM_some, evCoM_if, evFor_map, intsOf_map, blsOf_map, strsOf_map, enumT_map, rangeT_map, zip2_map, zip3_map, atT_0, atT_1, atT_2, atT_3, List.map_cons, List.map_nil, List.map_map, List.cons_append, List.nil_append, List.append_nil, List.replicate, List.set_cons_zero, List.set_cons_succ, List.getD_cons_zero, List.getD_cons_succ, List.getD_nil, List.length_cons, List.length_nil, List.length_map, Option.bind_some, Option.bind_none, Option.map_some, Option.map_none, List.contains_nil, List.contains_cons, Bool.and_eq_true, Bool.or_eq_true, Bool.not_eq_true', decide_eq_true_eq, Bool.not_true, Bool.not_false, Bool.and_true, Bool.true_and, Bool.and_false, Bool.false_and, Bool.or_true, Bool.or_false, Bool.true_or, Bool.false_or, Bool.and_self, Bool.or_self, if_true, if_false, ite_true, ite_false, Bool.false_eq_true, reduceIte, reduceCtorEq, strOk_nil, ne_eq, not_true_eq_false, not_false_eq_true, and_true, true_and, and_false, false_and, or_true, true_or, or_false, false_or, and_self, or_self, Function.comp_def, List.isEmpty_nil, List.isEmpty_cons, beq_iff_eq, Nat.reduceBEq, Nat.zero_add, Int.zero_add, Int.sub_zero, Int.reduceToNat, Int.reducePow, Int.reduceAdd, Int.reduceMul, Int.reduceLT, Int.reduceLE, Int.reduceEq, Nat.reduceAdd, Nat.reduceLT, Nat.reduceLeDiff, SZ, Nat.zero_le, List.append_eq]
  rw [sumsF, List.map_map]
  rfl
theorem law_sums_ok {Γ : Pg} {i : Nat} (hf : Γ.fns[i]? = some (.code 1 9 B_law_sums)) : S_sums Γ i 1 := fun k ls fs hl hk => by
  obtain ⟨k, rfl, hj⟩ := ex_succ hk
  rw [ev_code hf rfl]
  simp only [B_law_sums, et_var, et_int, et_str, et_bl, et_non, et_glob, et_fnv, et_bin, et_neg, et_cmp, et_chain, et_tup, et_new, et_idx, et_slc, et_rev, et_call, et_callv, et_bi, et_isi, et_li, et_join, et_not, et_and, et_or, et_ite, ef_var, ef_int, ef_str, ef_bl, ef_non, ef_glob, ef_fnv, ef_neg, ef_cmp, ef_chain, ef_tup, ef_idx, ef_callv, ef_bi, ef_isi, ef_join, ef_not, ef_and, ef_or, ef_ite, ef_sub, ef_fdiv, ef_mod, ef_pow, ef_tuple, ef_sum, ef_all, ef_any, ef_max, ef_min, ef_len, ef_dict, ef_new, ef_call, ef_list, ef_add, ef_mul, ef_slc, ef_rev, ss1, ss2, evS, evE, evEs, evO, evL, evLs, evR, evIf, occE, occEs, occO, occL, occLs, occR, pub1, mask, bn1, bn2, bn3, bn4, bn5, bn6, bn7, bn8, bn9, bn10, bn11, tu1, tu2, tu3, tu4, tu5, tu6, cm1, cm2, cm3, cm4, cm5, cm6, cm7, cm8, cm9, cm10, in1, in2, in3, in4, in5, in6, eq1, eq2, eq3, eq4, eq5, eq6, eq7, eq8, lt1, lt2, le1, le2, gt1, ge1, ix1, ix2, ix3, sl1, sl2, sl3, rv1, is1, is2, is3, is4, is5, is6, is7, is8, is9, is10, is11, is12, is13, is14, is15, is16, is17, is18, ln1, ln2, ln3, bi1, bi2, bi3, bi4, bi6, bi7, bi8, sq1, sq2, id1, sd1, ld1, ad1, ad2, ad3, ad4, ad5, as1, as2, as3, as4, as5, li1, li2, li3, li4, li5, li6, li7, li8, jo1, ra1, ra2, zi1, zi2, cl1, cl2, sf1, sf2, ke1, ke2, ke3, pb1, pb2, pb3, vi1, vi2, vi3, vi4, pu1, pu2, wi1, wi2, il1, il2, il3, il4, pt1, pt2, pt3, pt4, pt5, pt6, pt7, pt8, pureTs_map, all_true, startD, tr_ret, tr_draw, tr_exc, tr_fail, tr_some, tr_none, tr_noexc, tr_noexcF, tr_noexcD, go_nx, go_rt, fin_nx, fin_rt, consO, ite_bind, ite_noexc, evCo_map, evCoM_some, evCoM_if, evFor_map, intsOf_map, blsOf_map, strsOf_map, enumT_map, rangeT_map, zip2_map, zip3_map, atT_0, atT_1, atT_2, atT_3, List.map_cons, List.map_nil, List.map_map, List.cons_append, List.nil_append, List.append_nil, List.replicate, List.set_cons_zero, List.set_cons_succ, List.getD_cons_zero, List.getD_cons_succ, List.getD_nil, List.length_cons, List.length_nil, List.length_map, Option.bind_some, Option.bind_none, Option.map_some, Option.map_none, List.contains_nil, List.contains_cons, Bool.and_eq_true, Bool.or_eq_true, Bool.not_eq_true', decide_eq_true_eq, Bool.not_true, Bool.not_false, Bool.and_true, Bool.true_and, Bool.and_false, Bool.false_and, Bool.or_true, Bool.or_false, Bool.true_or, Bool.false_or, Bool.and_self, Bool.or_self, if_true, if_false, ite_true, ite_false, Bool.false_eq_true, reduceIte, reduceCtorEq, strOk_nil, ne_eq, not_true_eq_false, not_false_eq_true, and_true, true_and, and_false, false_and, or_true, true_or, or_false, false_or, and_self, or_self, Function.comp_def, List.isEmpty_nil, List.isEmpty_cons, beq_iff_eq, Nat.reduceBEq, Nat.zero_add, Int.zero_add, Int.sub_zero, Int.reduceToNat, Int.reducePow, Int.reduceAdd, Int.reduceMul, Int.reduceLT, Int.reduceLE, Int.reduceEq, Nat.reduceAdd, Nat.reduceLT, Nat.reduceLeDiff, SZ, Nat.zero_le, List.append_eq]
  rw [evForM_app1 (E := fun l => [some (.val (stand ls fs)), some (.own l), none, none, none, none, none, none, none]) (fun q => encL (sumF fs q.1 q.2)) [] (by simp; omega)
    (fun i a l h1 h2 h3 => ⟨_, by simp only [et_var, et_int, et_str, et_bl, et_non, et_glob, et_fnv, et_bin, et_neg, et_cmp, et_chain, et_tup, et_new, et_idx, et_slc, et_rev, et_call, et_callv, et_bi, et_isi, et_li, et_join, et_not, et_and, et_or, et_ite, ef_var, ef_int, ef_str, ef_bl, ef_non, ef_glob, ef_fnv, ef_neg, ef_cmp, ef_chain, ef_tup, ef_idx, ef_callv, ef_bi, ef_isi, ef_join, ef_not, ef_and, ef_or, ef_ite, ef_sub, ef_fdiv, ef_mod, ef_pow, ef_tuple, ef_sum, ef_all, ef_any, ef_max, ef_min, ef_len, ef_dict, ef_new, ef_call, ef_list, ef_add, ef_mul, ef_slc, ef_rev, ss1, ss2, evS, evE, evEs, evO, evL, evLs, evR, evIf, occE, occEs, occO, occL, occLs, occR, pub1, mask, bn1, bn2, bn3, bn4, bn5, bn6, bn7, bn8, bn9, bn10, bn11, tu1, tu2, tu3, tu4, tu5, tu6, cm1, cm2, cm3, cm4, cm5, cm6, cm7, cm8, cm9, cm10, in1, in2, in3, in4, in5, in6, eq1, eq2, eq3, eq4, eq5, eq6, eq7, eq8, lt1, lt2, le1, le2, gt1, ge1, ix1, ix2, ix3, sl1, sl2, sl3, rv1, is1, is2, is3, is4, is5, is6, is7, is8, is9, is10, is11, is12, is13, is14, is15, is16, is17, is18, ln1, ln2, ln3, bi1, bi2, bi3, bi4, bi6, bi7, bi8, sq1, sq2, id1, sd1, ld1, ad1, ad2, ad3, ad4, ad5, as1, as2, as3, as4, as5, li1, li2, li3, li4, li5, li6, li7, li8, jo1, ra1, ra2, zi1, zi2, cl1, cl2, sf1, sf2, ke1, ke2, ke3, pb1, pb2, pb3, vi1, vi2, vi3, vi4, pu1, pu2, wi1, wi2, il1, il2, il3, il4, pt1, pt2, pt3, pt4, pt5, pt6, pt7, pt8, pureTs_map, all_true, startD, tr_ret, tr_draw, tr_exc, tr_fail, tr_some, tr_none, tr_noexc, tr_noexcF, tr_noexcD, go_nx, go_rt, fin_nx, fin_rt, consO, ite_bind, ite_noexc, evCo_map, evCoM_some, evCoM_if, evFor_map, intsOf_map, blsOf_map, strsOf_map, enumT_map, rangeT_map, zip2_map, zip3_map, atT_0, atT_1, atT_2, atT_3, List.map_cons, List.map_nil, List.map_map, List.cons_append, List.nil_append, List.append_nil, List.replicate, List.set_cons_zero, List.set_cons_succ, List.getD_cons_zero, List.getD_cons_succ, List.getD_nil, List.length_cons, List.length_nil, List.length_map, Option.bind_some, Option.bind_none, Option.map_some, Option.map_none, List.contains_nil, List.contains_cons, Bool.and_eq_true, Bool.or_eq_true, Bool.not_eq_true', decide_eq_true_eq, Bool.not_true, Bool.not_false, Bool.and_true, Bool.true_and, Bool.and_false, Bool.false_and, Bool.or_true, Bool.or_false, Bool.true_or, Bool.false_or, Bool.and_self, Bool.or_self, if_true, if_false, ite_true, ite_false, Bool.false_eq_true, reduceIte, reduceCtorEq, strOk_nil, ne_eq, not_true_eq_false, not_false_eq_true, and_true, true_and, and_false, false_and, or_true, true_or, or_false, false_or, and_self, or_self, Function.comp_def, List.isEmpty_nil, List.isEmpty_cons, beq_iff_eq, Nat.reduceBEq, Nat.zero_add, Int.zero_add, Int.sub_zero, Int.reduceToNat, Int.reducePow, Int.reduceAdd, Int.reduceMul, Int.reduceLT, Int.reduceLE, Int.reduceEq, Nat.reduceAdd, Nat.reduceLT, Nat.reduceLeDiff, SZ, Nat.zero_le, List.append_eq, encL, encF, h3] <;> rfl, rfl⟩)]
  simp only [et_var, et_int, et_str, et_bl, et_non, et_glob, et_fnv, et_bin, et_neg, et_cmp, et_chain, et_tup, et_new, et_idx, et_slc, et_rev, et_call, et_callv, et_bi, et_isi, et_li, et_join, et_not, et_and, et_or, et_ite, ef_var, ef_int, ef_str, ef_bl, ef_non, ef_glob, ef_fnv, ef_neg, ef_cmp, ef_chain, ef_tup, ef_idx, ef_callv, ef_bi, ef_isi, ef_join, ef_not, ef_and, ef_or, ef_ite, ef_sub, ef_fdiv, ef_mod, ef_pow, ef_tuple, ef_sum, ef_all, ef_any, ef_max, ef_min, ef_len, ef_dict, ef_new, ef_call, ef_list, ef_add, ef_mul, ef_slc, ef_rev, ss1, ss2, evS, evE, evEs, evO, evL, evLs, evR, evIf, occE, occEs, occO, occL, occLs, occR, pub1, mask, bn1, bn2, bn3, bn4, bn5, bn6, bn7, bn8, bn9, bn10, bn11, tu1, tu2, tu3, tu4, tu5, tu6, cm1, cm2, cm3, cm4, cm5, cm6, cm7, cm8, cm9, cm10, in1, in2, in3, in4, in5, in6, eq1, eq2, eq3, eq4, eq5, eq6, eq7, eq8, lt1, lt2, le1, le2, gt1, ge1, ix1, ix2, ix3, sl1, sl2, sl3, rv1, is1, is2, is3, is4, is5, is6, is7, is8, is9, is10, is11, is12, is13, is14, is15, is16, is17, is18, ln1, ln2, ln3, bi1, bi2, bi3, bi4, bi6, bi7, bi8, sq1, sq2, id1, sd1, ld1, ad1, ad2, ad3, ad4, ad5, as1, as2, as3, as4, as5, li1, li2, li3, li4, li5, li6, li7, li8, jo1, ra1, ra2, zi1, zi2, cl1, cl2, sf1, sf2, ke1, ke2, ke3, pb1, pb2, pb3, vi1, vi2, vi3, vi4, pu1, pu2, wi1, wi2, il1, il2, il3, il4, pt1, pt2, pt3, pt4, pt5, pt6, pt7, pt8, pureTs_map, all_true, startD, tr_ret, tr_draw, tr_exc, tr_fail, tr_some, tr_none, tr_noexc, tr_noexcF, tr_noexcD, go_nx, go_rt, fin_nx, fin_rt, consO, ite_bind, ite_noexc, evCo_map, evCoM_some, evCoM_if, evFor_map, intsOf_map, blsOf_map, strsOf_map, enumT_map, rangeT_map, zip2_map, zip3_map, atT_0, atT_1, atT_2, atT_3, List.map_cons, List.map_nil, List.map_map, List.cons_append, List.nil_append, List.append_nil, List.replicate, List.set_cons_zero, List.set_cons_succ, List.getD_cons_zero, List.getD_cons_succ, List.getD_nil, List.length_cons, List.length_nil, List.length_map, Option.bind_some, Option.bind_none, Option.map_some, Option.map_none, List.contains_nil, List.contains_cons, Bool.and_eq_true, Bool.or_eq_true, Bool.not_eq_true', decide_eq_true_eq, Bool.not_true, Bool.not_false, Bool.and_true, Bool.true_and, Bool.and_false, Bool.false_and, Bool.or_true, Bool.or_false, Bool.true_or, Bool.false_or, Bool.and_self, Bool.or_self, if_true, if_false, ite_true, ite_false, Bool.false_eq_true, reduceIte, reduceCtorEq, strOk_nil, ne_eq, not_true_eq_false, not_false_eq_true, and_true, true_and, and_false, false_and, or_true, true_or, or_false, false_or, and_self, or_self, Function.comp_def, List.isEmpty_nil, List.isEmpty_cons, beq_iff_eq, Nat.reduceBEq, Nat.zero_add, Int.zero_add, Int.sub_zero, Int.reduceToNat, Int.reducePow, Int.reduceAdd, Int.reduceMul, Int.reduceLT, Int.reduceLE, Int.reduceEq, Nat.reduceAdd, Nat.reduceLT, Nat.reduceLeDiff, SZ, Nat.zero_le, List.append_eq]
  rw [sumsF, List.map_map]
  rfl

end Mo

namespace Mo
open PySem PyProof.Rows
/-- the law's turns: what a turn gives first is forgotten behind it -/
theorem evForM_same {α : Type} {m : SE2} {f : α → SE2 → Tr Fl} {X : Ex → Prop} {P : Fl → Prop} {xs : List α} {de : SE2}
    (h : ∀ a ∈ xs, (f a de).all X fun fl => ∃ d, fl = .nx d ∧ mask m d = de) (q : P (.nx de)) : (evForM m f xs de).all X P := by
  induction xs with
  | nil => exact q
  | cons x xs ih =>
    simp only [evForM, all_bind]
    refine all_mono (fun fl hf => ?_) _ (h x (.head _))
    obtain ⟨d, rfl, h2⟩ := hf
    simp only [go_nx, h2]
    exact ih fun a ha => h a (.tail _ ha)
theorem all2_imp {α : Type} {E : Ex → Prop} {P Q : α → Prop} {t : Tr α} (h : t.all E P) (k : ∀ a, P a → Q a) : t.all E Q := all_mono k t h
theorem smlTs_map {α : Type} {e : α → T} : ∀ {xs : List α}, (∀ a ∈ xs, smlT (e a) = true) → smlTs (xs.map e) = true
  | [], _ => rfl
  | x :: xs, h => by simp only [List.map_cons, smlTs, h x (.head _), smlTs_map fun a ha => h a (.tail _ ha), Bool.and_self]
theorem szTs_map {α : Type} {e : α → T} {c : Nat} : ∀ {xs : List α}, (∀ a ∈ xs, szT (e a) ≤ c) → szTs (xs.map e) ≤ xs.length * (c + 2)
  | [], _ => by simp [szTs]
  | x :: xs, h => by
    have := szTs_map (xs := xs) fun a ha => h a (.tail _ ha)
    have := h x (.head _)
    simp only [List.map_cons, szTs, List.length_cons, Nat.add_mul]
    omega
def small (i : Int) : Prop := i.natAbs ≤ 10 ^ 100
theorem sml_int {i : Int} (h : small i) : smlT (.int i) = true := by
  simp only [smlT, decide_eq_true_eq]
  exact Nat.lt_of_le_of_lt h (by decide +kernel)
theorem sml_of {i : Int} (h : -(10 ^ 100) ≤ i) (k : i ≤ 10 ^ 100) : small i := by unfold small; omega
/-- a stand can be shown -/
theorem show_stand {ls : List (Int × Int)} {fs : List (Sg × Int × Int)} (hl : ls.length ≤ 1000) (hf : fs.length ≤ 1000) (h1 : ∀ p ∈ ls, small p.1 ∧ small p.2) (h2 : ∀ f ∈ fs, f.1.length ≤ 100 ∧ small f.2.1 ∧ small f.2.2) :
    okE (stand ls fs) = true ∧ smlT (stand ls fs) = true ∧ szT (stand ls fs) ≤ 16777216 := by
  have d1 := dep_encL ls
  have d2 := dep_encF fs
  refine ⟨okE_pure ?_ ?_, ?_, ?_⟩
  · simp only [pureT, pureTs, pure_encL, pure_encF, Bool.and_self]
  · simp only [depT, depTs]; omega
  · simp only [smlT, smlTs, Bool.and_eq_true, and_true]
    refine ⟨smlTs_map fun p hp => ?_, smlTs_map fun f hf => ?_⟩
    · simp only [encL, smlT, smlTs, Bool.and_eq_true, and_true]; exact ⟨sml_int (h1 p hp).1, sml_int (h1 p hp).2⟩
    · simp only [encF, smlT, smlTs, Bool.and_eq_true, and_true]; exact ⟨trivial, sml_int (h2 f hf).2.1, sml_int (h2 f hf).2.2⟩
  · have z1 := szTs_map (e := encL) (c := 1206) (xs := ls) fun p hp => by simp [encL, szT, szTs]
    have z2 := szTs_map (e := encF) (c := 2210) (xs := fs) fun f hf => by
      have := (h2 f hf).1
      simp only [encF, szT, szTs]; omega
    simp only [szT, szTs]
    have := Nat.mul_le_mul_right (1206 + 2) hl
    have := Nat.mul_le_mul_right (2210 + 2) hf
    omega
theorem repr_ok {t : T} (h : okE t = true ∧ smlT t = true ∧ szT t ≤ 16777216) (rp : T → Sg) : biD rp .repr [t] = some (.str (rp t)) := by
  rw [bi5, SZ, if_pos h]
theorem pure_stand (ls : List (Int × Int)) (fs : List (Sg × Int × Int)) : pureT (stand ls fs) = true := by
  simp only [pureT, pureTs, pure_encL, pure_encF, Bool.and_self]
/-- the turns of a loop, the n-th statement -/
def lb (ss : List Sm) (n : Nat) : List Sm := match ss[n]? with
  | some (.loop _ _ b) => b
  | _ => []

end Mo

namespace Mo
open PySem PyProof.Rows
def B_law (i_law_deck : Nat) (i_law_dim : Nat) (i_law_next : Nat) (i_law_sums : Nat) (i_law_same : Nat) (i_sums : Nat) : List Sm := [.set (.name 1) (.call i_law_deck [(.var 0)]), .loop (.name 2) (.range [(.int 3)]) [.set (.tup [(.name 3), (.name 4)]) (.call i_law_dim [(.var 1), (.int 8), (.int 12)]), .cond (.cmp .eq (.var 2) (.int 2)) [.set (.name 3) (.li .tuple (.comp (.tup [(.bin .add (.var 10) (.call i_law_next [(.var 1), (.bin .pow (.int 10) (.int 9))])), (.bin .mul (.var 11) (.bin .pow (.int 10) (.int 29)))]) [] (.tup [(.name 10), (.name 11)]) [9, 10, 11] (.seq (.ex (.var 3)))))] [], .set (.name 5) (.tup [(.var 3), (.var 4)]), .set (.name 6) (.tup [(.var 3), (.li .tuple (.comp (.tup [(.var 12), (.var 13), (.int 0)]) [] (.tup [(.name 12), (.name 13), (.name 14)]) [9, 12, 13, 14] (.seq (.ex (.var 4)))))]), .par [7, 8] [(.bi .repr [(.var 5)]), (.call i_law_sums [(.var 5)])], .cond (.or (.not (.call i_law_same [(.call i_sums [(.var 5)]), (.var 8)])) (.or (.not (.call i_law_same [(.call i_sums [(.var 6)]), (.var 8)])) (.not (.call i_law_same [(.call i_sums [(.var 5)]), (.var 8)])))) [.ret (some (.bl false))] [], .cond (.cmp .ne (.bi .repr [(.var 5)]) (.var 7)) [.ret (some (.bl false))] []], .ret (some (.bl true))]
theorem law_k60_ok {Γ : Pg} {k i id im inx isu ism iss : Nat} (hrp : Γ.rp = rpT) (hi : Γ.fns[i]? = some (.code 1 15 (B_law id im inx isu ism iss))) (hd : Γ.fns[id]? = some .mk)
    (hm : S_dim Γ im) (hn : S_next Γ inx) (hsu : S_sums Γ isu 1) (hsm : S_same Γ ism) (hss : S_sums Γ iss 2) (hk : 10 ≤ k) : wpCall Γ (k + 2) i [.scr] (fun _ => none) noE fun v _ => v = .bl true := by
  refine law_ev hrp hi hd (by decide) ?_
  have hk1 : 10 ≤ k + 1 := by omega
  generalize k + 1 = k at hk1
  show Tr.all _ _ (evSs (ecx Γ k) _ _)
  simp (disch := omega) only [et_var, et_int, et_str, et_bl, et_non, et_glob, et_fnv, et_bin, et_neg, et_cmp, et_chain, et_tup, et_new, et_idx, et_slc, et_rev, et_call, et_callv, et_bi, et_isi, et_li, et_join, et_not, et_and, et_or, et_ite, ef_var, ef_int, ef_str, ef_bl, ef_non, ef_glob, ef_fnv, ef_neg, ef_cmp, ef_chain, ef_tup, ef_idx, ef_callv, ef_bi, ef_isi, ef_join, ef_not, ef_and, ef_or, ef_ite, ef_sub, ef_fdiv, ef_mod, ef_pow, ef_tuple, ef_sum, ef_all, ef_any, ef_max, ef_min, ef_len, ef_dict, ef_new, ef_call, ef_list, ef_add, ef_mul, ef_slc, ef_rev, ss1, ss2, evS, evE, evEs, evO, evL, evLs, evR, evIf, occE, occEs, occO, occL, occLs, occR, pub1, mask, bn1, bn2, bn3, bn4, bn5, bn6, bn7, bn8, bn9, bn10, bn11, tu1, tu2, tu3, tu4, tu5, tu6, cm1, cm2, cm3, cm4, cm5, cm6, cm7, cm8, cm9, cm10, in1, in2, in3, in4, in5, in6, eq1, eq2, eq3, eq4, eq5, eq6, eq7, eq8, lt1, lt2, le1, le2, gt1, ge1, ix1, ix2, ix3, sl1, sl2, sl3, rv1, is1, is2, is3, is4, is5, is6, is7, is8, is9, is10, is11, is12, is13, is14, is15, is16, is17, is18, ln1, ln2, ln3, bi1, bi2, bi3, bi4, bi6, bi7, bi8, sq1, sq2, id1, sd1, ld1, ad1, ad2, ad3, ad4, ad5, as1, as2, as3, as4, as5, li1, li2, li3, li4, li5, li6, li7, li8, jo1, ra1, ra2, zi1, zi2, cl1, cl2, sf1, sf2, ke1, ke2, ke3, pb1, pb2, pb3, vi1, vi2, vi3, vi4, pu1, pu2, wi1, wi2, il1, il2, il3, il4, pt1, pt2, pt3, pt4, pt5, pt6, pt7, pt8, pureTs_map, all_true, startD, tr_ret, tr_draw, tr_exc, tr_fail, tr_some, tr_none, tr_noexc, tr_noexcF, tr_noexcD, go_nx, go_rt, fin_nx, fin_rt, consO, ite_bind, ite_noexc, evCo_map, evCoM_some, evCoM_if, evFor_map, intsOf_map, blsOf_map, strsOf_map, enumT_map, rangeT_map, zip2_map, zip3_map, atT_0, atT_1, atT_2, atT_3, List.map_cons, List.map_nil, List.map_map, List.cons_append, List.nil_append, List.append_nil, List.replicate, List.set_cons_zero, List.set_cons_succ, List.getD_cons_zero, List.getD_cons_succ, List.getD_nil, List.length_cons, List.length_nil, List.length_map, Option.bind_some, Option.bind_none, Option.map_some, Option.map_none, List.contains_nil, List.contains_cons, Bool.and_eq_true, Bool.or_eq_true, Bool.not_eq_true', decide_eq_true_eq, Bool.not_true, Bool.not_false, Bool.and_true, Bool.true_and, Bool.and_false, Bool.false_and, Bool.or_true, Bool.or_false, Bool.true_or, Bool.false_or, Bool.and_self, Bool.or_self, if_true, if_false, ite_true, ite_false, Bool.false_eq_true, reduceIte, reduceCtorEq, strOk_nil, ne_eq, not_true_eq_false, not_false_eq_true, and_true, true_and, and_false, false_and, or_true, true_or, or_false, false_or, and_self, or_self, Function.comp_def, List.isEmpty_nil, List.isEmpty_cons, beq_iff_eq, Nat.reduceBEq, Nat.zero_add, Int.zero_add, Int.sub_zero, Int.reduceToNat, Int.reducePow, Int.reduceAdd, Int.reduceMul, Int.reduceLT, Int.reduceLE, Int.reduceEq, Nat.reduceAdd, Nat.reduceLT, Nat.reduceLeDiff, SZ, Nat.zero_le, List.append_eq, if_pos]
  refine bindI (evForM_same (fun a ha => ?_) ?_)
  · rw [List.mem_range] at ha
    simp (disch := omega) only [et_var, et_int, et_str, et_bl, et_non, et_glob, et_fnv, et_bin, et_neg, et_cmp, et_chain, et_tup, et_new, et_idx, et_slc, et_rev, et_call, et_callv, et_bi, et_isi, et_li, et_join, et_not, et_and, et_or, et_ite, ef_var, ef_int, ef_str, ef_bl, ef_non, ef_glob, ef_fnv, ef_neg, ef_cmp, ef_chain, ef_tup, ef_idx, ef_callv, ef_bi, ef_isi, ef_join, ef_not, ef_and, ef_or, ef_ite, ef_sub, ef_fdiv, ef_mod, ef_pow, ef_tuple, ef_sum, ef_all, ef_any, ef_max, ef_min, ef_len, ef_dict, ef_new, ef_call, ef_list, ef_add, ef_mul, ef_slc, ef_rev, ss1, ss2, evS, evE, evEs, evO, evL, evLs, evR, evIf, occE, occEs, occO, occL, occLs, occR, pub1, mask, bn1, bn2, bn3, bn4, bn5, bn6, bn7, bn8, bn9, bn10, bn11, tu1, tu2, tu3, tu4, tu5, tu6, cm1, cm2, cm3, cm4, cm5, cm6, cm7, cm8, cm9, cm10, in1, in2, in3, in4, in5, in6, eq1, eq2, eq3, eq4, eq5, eq6, eq7, eq8, lt1, lt2, le1, le2, gt1, ge1, ix1, ix2, ix3, sl1, sl2, sl3, rv1, is1, is2, is3, is4, is5, is6, is7, is8, is9, is10, is11, is12, is13, is14, is15, is16, is17, is18, ln1, ln2, ln3, bi1, bi2, bi3, bi4, bi6, bi7, bi8, sq1, sq2, id1, sd1, ld1, ad1, ad2, ad3, ad4, ad5, as1, as2, as3, as4, as5, li1, li2, li3, li4, li5, li6, li7, li8, jo1, ra1, ra2, zi1, zi2, cl1, cl2, sf1, sf2, ke1, ke2, ke3, pb1, pb2, pb3, vi1, vi2, vi3, vi4, pu1, pu2, wi1, wi2, il1, il2, il3, il4, pt1, pt2, pt3, pt4, pt5, pt6, pt7, pt8, pureTs_map, all_true, startD, tr_ret, tr_draw, tr_exc, tr_fail, tr_some, tr_none, tr_noexc, tr_noexcF, tr_noexcD, go_nx, go_rt, fin_nx, fin_rt, consO, ite_bind, ite_noexc, evCo_map, evCoM_some, evCoM_if, evFor_map, intsOf_map, blsOf_map, strsOf_map, enumT_map, rangeT_map, zip2_map, zip3_map, atT_0, atT_1, atT_2, atT_3, List.map_cons, List.map_nil, List.map_map, List.cons_append, List.nil_append, List.append_nil, List.replicate, List.set_cons_zero, List.set_cons_succ, List.getD_cons_zero, List.getD_cons_succ, List.getD_nil, List.length_cons, List.length_nil, List.length_map, Option.bind_some, Option.bind_none, Option.map_some, Option.map_none, List.contains_nil, List.contains_cons, Bool.and_eq_true, Bool.or_eq_true, Bool.not_eq_true', decide_eq_true_eq, Bool.not_true, Bool.not_false, Bool.and_true, Bool.true_and, Bool.and_false, Bool.false_and, Bool.or_true, Bool.or_false, Bool.true_or, Bool.false_or, Bool.and_self, Bool.or_self, if_true, if_false, ite_true, ite_false, Bool.false_eq_true, reduceIte, reduceCtorEq, strOk_nil, ne_eq, not_true_eq_false, not_false_eq_true, and_true, true_and, and_false, false_and, or_true, true_or, or_false, false_or, and_self, or_self, Function.comp_def, List.isEmpty_nil, List.isEmpty_cons, beq_iff_eq, Nat.reduceBEq, Nat.zero_add, Int.zero_add, Int.sub_zero, Int.reduceToNat, Int.reducePow, Int.reduceAdd, Int.reduceMul, Int.reduceLT, Int.reduceLE, Int.reduceEq, Nat.reduceAdd, Nat.reduceLT, Nat.reduceLeDiff, SZ, Nat.zero_le, List.append_eq, if_pos]
    repeat with_reducible refine bindI ?_
    refine hm k 8 12 (by omega) (by decide) (by decide) (by decide) (by decide) _ _ fun ls fs l1 l2 l3 l4 l5 => ?_
    have f2 : ∀ f ∈ fs, f.1.length ≤ 100 ∧ small f.2.1 ∧ small f.2.2 := fun f hf => by
      have h1 := l4.2 f hf
      have h2 := (l4.1.2 f.1 (List.mem_map.mpr ⟨f, hf, rfl⟩)).1.2
      exact ⟨by omega, sml_of (by omega) (by omega), sml_of (by omega) (by omega)⟩
    have main : ∀ ls' : List (Int × Int), ls'.length ≤ 8 → (∀ p ∈ ls', small p.1 ∧ small p.2) → (evSs (ecx Γ k) ((lb (B_law id im inx isu ism iss) 1).drop 2) [some (.val .scr), some (.val (.ref 0)), some (.val (.int a)), some (.val (.tup (ls'.map encL))), some (.val (.tup (fs.map encF))), none, none, none, none, none, none, none, none, none, none]).all (fun _ => False)
        fun fl => ∃ d, fl = .nx d ∧ mask [some (.val .scr), some (.val (.ref 0)), none, none, none, none, none, none, none, none, none, none, none, none, none] d = [some (.val .scr), some (.val (.ref 0)), none, none, none, none, none, none, none, none, none, none, none, none, none] := fun ls' n1 n2 => by
      show Tr.all _ _ (evSs (ecx Γ k) (_ :: _) _)
      have q0 := repr_ok (show_stand (ls := ls') (fs := fs) (by omega) (by omega) n2 f2)
      obtain ⟨fs2, hfs2⟩ : ∃ fs2, fs2 = fs.map fun f => (f.1, f.2.1, (0 : Int)) := ⟨_, rfl⟩
      have e0 : (fs.map fun a => T.tup [.str a.1, .int a.2.1, .int 0]) = fs2.map encF := by rw [hfs2, List.map_map]; rfl
      have q1 := hsu k ls' fs (by omega) (by omega)
      have q2 := hss k ls' fs (by omega) (by omega)
      have q3 := hss k ls' fs2 (by omega) (by omega)
      have q4 : sumsF ls' fs2 = sumsF ls' fs := by
        rw [hfs2]
        have c : ∀ w, cnt (fs.map fun f => (f.1, f.2.1, (0 : Int))) w = cnt fs w := fun w => by simp [cnt, List.filter_map, Function.comp_def]
        simp [sumsF, sumF, c]
      have q5 := hsm (.tup ((sumsF ls' fs).map encL)) k (by simp only [pureT, pure_encL]) (by have := dep_encL (sumsF ls' fs); simp only [depT]; omega) (by have := dep_encL (sumsF ls' fs); simp only [depT]; omega)
      rw [q4] at q3
      rw [ss2]
      simp only [et_var, et_int, et_str, et_bl, et_non, et_glob, et_fnv, et_bin, et_neg, et_cmp, et_chain, et_tup, et_new, et_idx, et_slc, et_rev, et_call, et_callv, et_bi, et_isi, et_li, et_join, et_not, et_and, et_or, et_ite, ef_var, ef_int, ef_str, ef_bl, ef_non, ef_glob, ef_fnv, ef_neg, ef_cmp, ef_chain, ef_tup, ef_idx, ef_callv, ef_bi, ef_isi, ef_join, ef_not, ef_and, ef_or, ef_ite, ef_sub, ef_fdiv, ef_mod, ef_pow, ef_tuple, ef_sum, ef_all, ef_any, ef_max, ef_min, ef_len, ef_dict, ef_new, ef_call, ef_list, ef_add, ef_mul, ef_slc, ef_rev, ss1, evS, evE, evEs, evO, evL, evLs, evR, evIf, occE, occEs, occO, occL, occLs, occR, pub1, mask, bn1, bn2, bn3, bn4, bn5, bn6, bn7, bn8, bn9, bn10, bn11, tu1, tu2, tu3, tu4, tu5, tu6, cm1, cm2, cm3, cm4, cm5, cm6, cm7, cm8, cm9, cm10, in1, in2, in3, in4, in5, in6, eq1, eq2, eq3, eq4, eq5, eq6, eq7, eq8, lt1, lt2, le1, le2, gt1, ge1, ix1, ix2, ix3, sl1, sl2, sl3, rv1, is1, is2, is3, is4, is5, is6, is7, is8, is9, is10, is11, is12, is13, is14, is15, is16, is17, is18, ln1, ln2, ln3, bi1, bi2, bi3, bi4, bi6, bi7, bi8, sq1, sq2, id1, sd1, ld1, ad1, ad2, ad3, ad4, ad5, as1, as2, as3, as4, as5, li1, li2, li3, li4, li5, li6, li7, li8, jo1, ra1, ra2, zi1, zi2, cl1, cl2, sf1, sf2, ke1, ke2, ke3, pb1, pb2, pb3, vi1, vi2, vi3, vi4, pu1, pu2, wi1, wi2, il1, il2, il3, il4, pt1, pt2, pt3, pt4, pt5, pt6, pt7, pt8, pureTs_map, all_true, startD, tr_ret, tr_draw, tr_exc, tr_fail, tr_some, tr_none, tr_noexc, tr_noexcF, tr_noexcD, go_nx, go_rt, fin_nx, fin_rt, consO, ite_bind, ite_noexc, evCo_map, evCoM_some, evCoM_if, evFor_map, intsOf_map, blsOf_map, strsOf_map, enumT_map, rangeT_map, zip2_map, zip3_map, atT_0, atT_1, atT_2, atT_3, List.map_cons, List.map_nil, List.map_map, List.cons_append, List.nil_append, List.append_nil, List.replicate, List.set_cons_zero, List.set_cons_succ, List.getD_cons_zero, List.getD_cons_succ, List.getD_nil, List.length_cons, List.length_nil, List.length_map, Option.bind_some, Option.bind_none, Option.map_some, Option.map_none, List.contains_nil, List.contains_cons, Bool.and_eq_true, Bool.or_eq_true, Bool.not_eq_true', decide_eq_true_eq, Bool.not_true, Bool.not_false, Bool.and_true, Bool.true_and, Bool.and_false, Bool.false_and, Bool.or_true, Bool.or_false, Bool.true_or, Bool.false_or, Bool.and_self, Bool.or_self, if_true, if_false, ite_true, ite_false, Bool.false_eq_true, reduceIte, reduceCtorEq, strOk_nil, ne_eq, not_true_eq_false, not_false_eq_true, and_true, true_and, and_false, false_and, or_true, true_or, or_false, false_or, and_self, or_self, Function.comp_def, List.isEmpty_nil, List.isEmpty_cons, beq_iff_eq, Nat.reduceBEq, Nat.zero_add, Int.zero_add, Int.sub_zero, Int.reduceToNat, Int.reducePow, Int.reduceAdd, Int.reduceMul, Int.reduceLT, Int.reduceLE, Int.reduceEq, Nat.reduceAdd, Nat.reduceLT, Nat.reduceLeDiff, SZ, Nat.zero_le, List.append_eq]
      rw [ss2]
      simp only [et_var, et_int, et_str, et_bl, et_non, et_glob, et_fnv, et_bin, et_neg, et_cmp, et_chain, et_tup, et_new, et_idx, et_slc, et_rev, et_call, et_callv, et_bi, et_isi, et_li, et_join, et_not, et_and, et_or, et_ite, ef_var, ef_int, ef_str, ef_bl, ef_non, ef_glob, ef_fnv, ef_neg, ef_cmp, ef_chain, ef_tup, ef_idx, ef_callv, ef_bi, ef_isi, ef_join, ef_not, ef_and, ef_or, ef_ite, ef_sub, ef_fdiv, ef_mod, ef_pow, ef_tuple, ef_sum, ef_all, ef_any, ef_max, ef_min, ef_len, ef_dict, ef_new, ef_call, ef_list, ef_add, ef_mul, ef_slc, ef_rev, ss1, evS, evE, evEs, evO, evL, evLs, evR, evIf, occE, occEs, occO, occL, occLs, occR, pub1, mask, bn1, bn2, bn3, bn4, bn5, bn6, bn7, bn8, bn9, bn10, bn11, tu1, tu2, tu3, tu4, tu5, tu6, cm1, cm2, cm3, cm4, cm5, cm6, cm7, cm8, cm9, cm10, in1, in2, in3, in4, in5, in6, eq1, eq2, eq3, eq4, eq5, eq6, eq7, eq8, lt1, lt2, le1, le2, gt1, ge1, ix1, ix2, ix3, sl1, sl2, sl3, rv1, is1, is2, is3, is4, is5, is6, is7, is8, is9, is10, is11, is12, is13, is14, is15, is16, is17, is18, ln1, ln2, ln3, bi1, bi2, bi3, bi4, bi6, bi7, bi8, sq1, sq2, id1, sd1, ld1, ad1, ad2, ad3, ad4, ad5, as1, as2, as3, as4, as5, li1, li2, li3, li4, li5, li6, li7, li8, jo1, ra1, ra2, zi1, zi2, cl1, cl2, sf1, sf2, ke1, ke2, ke3, pb1, pb2, pb3, vi1, vi2, vi3, vi4, pu1, pu2, wi1, wi2, il1, il2, il3, il4, pt1, pt2, pt3, pt4, pt5, pt6, pt7, pt8, pureTs_map, all_true, startD, tr_ret, tr_draw, tr_exc, tr_fail, tr_some, tr_none, tr_noexc, tr_noexcF, tr_noexcD, go_nx, go_rt, fin_nx, fin_rt, consO, ite_bind, ite_noexc, evCo_map, evCoM_some, evCoM_if, evFor_map, intsOf_map, blsOf_map, strsOf_map, enumT_map, rangeT_map, zip2_map, zip3_map, atT_0, atT_1, atT_2, atT_3, List.map_cons, List.map_nil, List.map_map, List.cons_append, List.nil_append, List.append_nil, List.replicate, List.set_cons_zero, List.set_cons_succ, List.getD_cons_zero, List.getD_cons_succ, List.getD_nil, List.length_cons, List.length_nil, List.length_map, Option.bind_some, Option.bind_none, Option.map_some, Option.map_none, List.contains_nil, List.contains_cons, Bool.and_eq_true, Bool.or_eq_true, Bool.not_eq_true', decide_eq_true_eq, Bool.not_true, Bool.not_false, Bool.and_true, Bool.true_and, Bool.and_false, Bool.false_and, Bool.or_true, Bool.or_false, Bool.true_or, Bool.false_or, Bool.and_self, Bool.or_self, if_true, if_false, ite_true, ite_false, Bool.false_eq_true, reduceIte, reduceCtorEq, strOk_nil, ne_eq, not_true_eq_false, not_false_eq_true, and_true, true_and, and_false, false_and, or_true, true_or, or_false, false_or, and_self, or_self, Function.comp_def, List.isEmpty_nil, List.isEmpty_cons, beq_iff_eq, Nat.reduceBEq, Nat.zero_add, Int.zero_add, Int.sub_zero, Int.reduceToNat, Int.reducePow, Int.reduceAdd, Int.reduceMul, Int.reduceLT, Int.reduceLE, Int.reduceEq, Nat.reduceAdd, Nat.reduceLT, Nat.reduceLeDiff, SZ, Nat.zero_le, List.append_eq, encF]
      rw [e0]
      rw [ss2]
      simp only [et_var, et_int, et_str, et_bl, et_non, et_glob, et_fnv, et_bin, et_neg, et_cmp, et_chain, et_tup, et_new, et_idx, et_slc, et_rev, et_call, et_callv, et_bi, et_isi, et_li, et_join, et_not, et_and, et_or, et_ite, ef_var, ef_int, ef_str, ef_bl, ef_non, ef_glob, ef_fnv, ef_neg, ef_cmp, ef_chain, ef_tup, ef_idx, ef_callv, ef_bi, ef_isi, ef_join, ef_not, ef_and, ef_or, ef_ite, ef_sub, ef_fdiv, ef_mod, ef_pow, ef_tuple, ef_sum, ef_all, ef_any, ef_max, ef_min, ef_len, ef_dict, ef_new, ef_call, ef_list, ef_add, ef_mul, ef_slc, ef_rev, ss1, evS, evE, evEs, evO, evL, evLs, evR, evIf, occE, occEs, occO, occL, occLs, occR, pub1, mask, bn1, bn2, bn3, bn4, bn5, bn6, bn7, bn8, bn9, bn10, bn11, tu1, tu2, tu3, tu4, tu5, tu6, cm1, cm2, cm3, cm4, cm5, cm6, cm7, cm8, cm9, cm10, in1, in2, in3, in4, in5, in6, eq1, eq2, eq3, eq4, eq5, eq6, eq7, eq8, lt1, lt2, le1, le2, gt1, ge1, ix1, ix2, ix3, sl1, sl2, sl3, rv1, is1, is2, is3, is4, is5, is6, is7, is8, is9, is10, is11, is12, is13, is14, is15, is16, is17, is18, ln1, ln2, ln3, bi1, bi2, bi3, bi4, bi6, bi7, bi8, sq1, sq2, id1, sd1, ld1, ad1, ad2, ad3, ad4, ad5, as1, as2, as3, as4, as5, li1, li2, li3, li4, li5, li6, li7, li8, jo1, ra1, ra2, zi1, zi2, cl1, cl2, sf1, sf2, ke1, ke2, ke3, pb1, pb2, pb3, vi1, vi2, vi3, vi4, pu1, pu2, wi1, wi2, il1, il2, il3, il4, pt1, pt2, pt3, pt4, pt5, pt6, pt7, pt8, pureTs_map, all_true, startD, tr_ret, tr_draw, tr_exc, tr_fail, tr_some, tr_none, tr_noexc, tr_noexcF, tr_noexcD, go_nx, go_rt, fin_nx, fin_rt, consO, ite_bind, ite_noexc, evCo_map, evCoM_some, evCoM_if, evFor_map, intsOf_map, blsOf_map, strsOf_map, enumT_map, rangeT_map, zip2_map, zip3_map, atT_0, atT_1, atT_2, atT_3, List.map_cons, List.map_nil, List.map_map, List.cons_append, List.nil_append, List.append_nil, List.replicate, List.set_cons_zero, List.set_cons_succ, List.getD_cons_zero, List.getD_cons_succ, List.getD_nil, List.length_cons, List.length_nil, List.length_map, Option.bind_some, Option.bind_none, Option.map_some, Option.map_none, List.contains_nil, List.contains_cons, Bool.and_eq_true, Bool.or_eq_true, Bool.not_eq_true', decide_eq_true_eq, Bool.not_true, Bool.not_false, Bool.and_true, Bool.true_and, Bool.and_false, Bool.false_and, Bool.or_true, Bool.or_false, Bool.true_or, Bool.false_or, Bool.and_self, Bool.or_self, if_true, if_false, ite_true, ite_false, Bool.false_eq_true, reduceIte, reduceCtorEq, strOk_nil, ne_eq, not_true_eq_false, not_false_eq_true, and_true, true_and, and_false, false_and, or_true, true_or, or_false, false_or, and_self, or_self, Function.comp_def, List.isEmpty_nil, List.isEmpty_cons, beq_iff_eq, Nat.reduceBEq, Nat.zero_add, Int.zero_add, Int.sub_zero, Int.reduceToNat, Int.reducePow, Int.reduceAdd, Int.reduceMul, Int.reduceLT, Int.reduceLE, Int.reduceEq, Nat.reduceAdd, Nat.reduceLT, Nat.reduceLeDiff, SZ, Nat.zero_le, List.append_eq, q0, q1]
      rw [ss2]
      simp only [et_var, et_int, et_str, et_bl, et_non, et_glob, et_fnv, et_bin, et_neg, et_cmp, et_chain, et_tup, et_new, et_idx, et_slc, et_rev, et_call, et_callv, et_bi, et_isi, et_li, et_join, et_not, et_and, et_or, et_ite, ef_var, ef_int, ef_str, ef_bl, ef_non, ef_glob, ef_fnv, ef_neg, ef_cmp, ef_chain, ef_tup, ef_idx, ef_callv, ef_bi, ef_isi, ef_join, ef_not, ef_and, ef_or, ef_ite, ef_sub, ef_fdiv, ef_mod, ef_pow, ef_tuple, ef_sum, ef_all, ef_any, ef_max, ef_min, ef_len, ef_dict, ef_new, ef_call, ef_list, ef_add, ef_mul, ef_slc, ef_rev, ss1, evS, evE, evEs, evO, evL, evLs, evR, evIf, occE, occEs, occO, occL, occLs, occR, pub1, mask, bn1, bn2, bn3, bn4, bn5, bn6, bn7, bn8, bn9, bn10, bn11, tu1, tu2, tu3, tu4, tu5, tu6, cm1, cm2, cm3, cm4, cm5, cm6, cm7, cm8, cm9, cm10, in1, in2, in3, in4, in5, in6, eq1, eq2, eq3, eq4, eq5, eq6, eq7, eq8, lt1, lt2, le1, le2, gt1, ge1, ix1, ix2, ix3, sl1, sl2, sl3, rv1, is1, is2, is3, is4, is5, is6, is7, is8, is9, is10, is11, is12, is13, is14, is15, is16, is17, is18, ln1, ln2, ln3, bi1, bi2, bi3, bi4, bi6, bi7, bi8, sq1, sq2, id1, sd1, ld1, ad1, ad2, ad3, ad4, ad5, as1, as2, as3, as4, as5, li1, li2, li3, li4, li5, li6, li7, li8, jo1, ra1, ra2, zi1, zi2, cl1, cl2, sf1, sf2, ke1, ke2, ke3, pb1, pb2, pb3, vi1, vi2, vi3, vi4, pu1, pu2, wi1, wi2, il1, il2, il3, il4, pt1, pt2, pt3, pt4, pt5, pt6, pt7, pt8, pureTs_map, all_true, startD, tr_ret, tr_draw, tr_exc, tr_fail, tr_some, tr_none, tr_noexc, tr_noexcF, tr_noexcD, go_nx, go_rt, fin_nx, fin_rt, consO, ite_bind, ite_noexc, evCo_map, evCoM_some, evCoM_if, evFor_map, intsOf_map, blsOf_map, strsOf_map, enumT_map, rangeT_map, zip2_map, zip3_map, atT_0, atT_1, atT_2, atT_3, List.map_cons, List.map_nil, List.map_map, List.cons_append, List.nil_append, List.append_nil, List.replicate, List.set_cons_zero, List.set_cons_succ, List.getD_cons_zero, List.getD_cons_succ, List.getD_nil, List.length_cons, List.length_nil, List.length_map, Option.bind_some, Option.bind_none, Option.map_some, Option.map_none, List.contains_nil, List.contains_cons, Bool.and_eq_true, Bool.or_eq_true, Bool.not_eq_true', decide_eq_true_eq, Bool.not_true, Bool.not_false, Bool.and_true, Bool.true_and, Bool.and_false, Bool.false_and, Bool.or_true, Bool.or_false, Bool.true_or, Bool.false_or, Bool.and_self, Bool.or_self, if_true, if_false, ite_true, ite_false, Bool.false_eq_true, reduceIte, reduceCtorEq, strOk_nil, ne_eq, not_true_eq_false, not_false_eq_true, and_true, true_and, and_false, false_and, or_true, true_or, or_false, false_or, and_self, or_self, Function.comp_def, List.isEmpty_nil, List.isEmpty_cons, beq_iff_eq, Nat.reduceBEq, Nat.zero_add, Int.zero_add, Int.sub_zero, Int.reduceToNat, Int.reducePow, Int.reduceAdd, Int.reduceMul, Int.reduceLT, Int.reduceLE, Int.reduceEq, Nat.reduceAdd, Nat.reduceLT, Nat.reduceLeDiff, SZ, Nat.zero_le, List.append_eq, q2, q3, q5]
      rw [ss2]
      simp only [et_var, et_int, et_str, et_bl, et_non, et_glob, et_fnv, et_bin, et_neg, et_cmp, et_chain, et_tup, et_new, et_idx, et_slc, et_rev, et_call, et_callv, et_bi, et_isi, et_li, et_join, et_not, et_and, et_or, et_ite, ef_var, ef_int, ef_str, ef_bl, ef_non, ef_glob, ef_fnv, ef_neg, ef_cmp, ef_chain, ef_tup, ef_idx, ef_callv, ef_bi, ef_isi, ef_join, ef_not, ef_and, ef_or, ef_ite, ef_sub, ef_fdiv, ef_mod, ef_pow, ef_tuple, ef_sum, ef_all, ef_any, ef_max, ef_min, ef_len, ef_dict, ef_new, ef_call, ef_list, ef_add, ef_mul, ef_slc, ef_rev, ss1, evS, evE, evEs, evO, evL, evLs, evR, evIf, occE, occEs, occO, occL, occLs, occR, pub1, mask, bn1, bn2, bn3, bn4, bn5, bn6, bn7, bn8, bn9, bn10, bn11, tu1, tu2, tu3, tu4, tu5, tu6, cm1, cm2, cm3, cm4, cm5, cm6, cm7, cm8, cm9, cm10, in1, in2, in3, in4, in5, in6, eq1, eq2, eq3, eq4, eq5, eq6, eq7, eq8, lt1, lt2, le1, le2, gt1, ge1, ix1, ix2, ix3, sl1, sl2, sl3, rv1, is1, is2, is3, is4, is5, is6, is7, is8, is9, is10, is11, is12, is13, is14, is15, is16, is17, is18, ln1, ln2, ln3, bi1, bi2, bi3, bi4, bi6, bi7, bi8, sq1, sq2, id1, sd1, ld1, ad1, ad2, ad3, ad4, ad5, as1, as2, as3, as4, as5, li1, li2, li3, li4, li5, li6, li7, li8, jo1, ra1, ra2, zi1, zi2, cl1, cl2, sf1, sf2, ke1, ke2, ke3, pb1, pb2, pb3, vi1, vi2, vi3, vi4, pu1, pu2, wi1, wi2, il1, il2, il3, il4, pt1, pt2, pt3, pt4, pt5, pt6, pt7, pt8, pureTs_map, all_true, startD, tr_ret, tr_draw, tr_exc, tr_fail, tr_some, tr_none, tr_noexc, tr_noexcF, tr_noexcD, go_nx, go_rt, fin_nx, fin_rt, consO, ite_bind, ite_noexc, evCo_map, evCoM_some, evCoM_if, evFor_map, intsOf_map, blsOf_map, strsOf_map, enumT_map, rangeT_map, zip2_map, zip3_map, atT_0, atT_1, atT_2, atT_3, List.map_cons, List.map_nil, List.map_map, List.cons_append, List.nil_append, List.append_nil, List.replicate, List.set_cons_zero, List.set_cons_succ, List.getD_cons_zero, List.getD_cons_succ, List.getD_nil, List.length_cons, List.length_nil, List.length_map, Option.bind_some, Option.bind_none, Option.map_some, Option.map_none, List.contains_nil, List.contains_cons, Bool.and_eq_true, Bool.or_eq_true, Bool.not_eq_true', decide_eq_true_eq, Bool.not_true, Bool.not_false, Bool.and_true, Bool.true_and, Bool.and_false, Bool.false_and, Bool.or_true, Bool.or_false, Bool.true_or, Bool.false_or, Bool.and_self, Bool.or_self, if_true, if_false, ite_true, ite_false, Bool.false_eq_true, reduceIte, reduceCtorEq, strOk_nil, ne_eq, not_true_eq_false, not_false_eq_true, and_true, true_and, and_false, false_and, or_true, true_or, or_false, false_or, and_self, or_self, Function.comp_def, List.isEmpty_nil, List.isEmpty_cons, beq_iff_eq, Nat.reduceBEq, Nat.zero_add, Int.zero_add, Int.sub_zero, Int.reduceToNat, Int.reducePow, Int.reduceAdd, Int.reduceMul, Int.reduceLT, Int.reduceLE, Int.reduceEq, Nat.reduceAdd, Nat.reduceLT, Nat.reduceLeDiff, SZ, Nat.zero_le, List.append_eq, q0, beq_self_eq_true]
      exact ⟨_, rfl, rfl⟩
    simp only [et_var, et_int, et_str, et_bl, et_non, et_glob, et_fnv, et_bin, et_neg, et_cmp, et_chain, et_tup, et_new, et_idx, et_slc, et_rev, et_call, et_callv, et_bi, et_isi, et_li, et_join, et_not, et_and, et_or, et_ite, ef_var, ef_int, ef_str, ef_bl, ef_non, ef_glob, ef_fnv, ef_neg, ef_cmp, ef_chain, ef_tup, ef_idx, ef_callv, ef_bi, ef_isi, ef_join, ef_not, ef_and, ef_or, ef_ite, ef_sub, ef_fdiv, ef_mod, ef_pow, ef_tuple, ef_sum, ef_all, ef_any, ef_max, ef_min, ef_len, ef_dict, ef_new, ef_call, ef_list, ef_add, ef_mul, ef_slc, ef_rev, ss1, evS, evE, evEs, evO, evL, evLs, evR, evIf, occE, occEs, occO, occL, occLs, occR, pub1, mask, bn1, bn2, bn3, bn4, bn5, bn6, bn7, bn8, bn9, bn10, bn11, tu1, tu2, tu3, tu4, tu5, tu6, cm1, cm2, cm3, cm4, cm5, cm6, cm7, cm8, cm9, cm10, in1, in2, in3, in4, in5, in6, eq1, eq2, eq3, eq4, eq5, eq6, eq7, eq8, lt1, lt2, le1, le2, gt1, ge1, ix1, ix2, ix3, sl1, sl2, sl3, rv1, is1, is2, is3, is4, is5, is6, is7, is8, is9, is10, is11, is12, is13, is14, is15, is16, is17, is18, ln1, ln2, ln3, bi1, bi2, bi3, bi4, bi6, bi7, bi8, sq1, sq2, id1, sd1, ld1, ad1, ad2, ad3, ad4, ad5, as1, as2, as3, as4, as5, li1, li2, li3, li4, li5, li6, li7, li8, jo1, ra1, ra2, zi1, zi2, cl1, cl2, sf1, sf2, ke1, ke2, ke3, pb1, pb2, pb3, vi1, vi2, vi3, vi4, pu1, pu2, wi1, wi2, il1, il2, il3, il4, pt1, pt2, pt3, pt4, pt5, pt6, pt7, pt8, pureTs_map, all_true, startD, tr_ret, tr_draw, tr_exc, tr_fail, tr_some, tr_none, tr_noexc, tr_noexcF, tr_noexcD, go_nx, go_rt, fin_nx, fin_rt, consO, ite_bind, ite_noexc, evCo_map, evCoM_some, evCoM_if, evFor_map, intsOf_map, blsOf_map, strsOf_map, enumT_map, rangeT_map, zip2_map, zip3_map, atT_0, atT_1, atT_2, atT_3, List.map_cons, List.map_nil, List.map_map, List.cons_append, List.nil_append, List.append_nil, List.replicate, List.set_cons_zero, List.set_cons_succ, List.getD_cons_zero, List.getD_cons_succ, List.getD_nil, List.length_cons, List.length_nil, List.length_map, Option.bind_some, Option.bind_none, Option.map_some, Option.map_none, List.contains_nil, List.contains_cons, Bool.and_eq_true, Bool.or_eq_true, Bool.not_eq_true', decide_eq_true_eq, Bool.not_true, Bool.not_false, Bool.and_true, Bool.true_and, Bool.and_false, Bool.false_and, Bool.or_true, Bool.or_false, Bool.true_or, Bool.false_or, Bool.and_self, Bool.or_self, if_true, if_false, ite_true, ite_false, Bool.false_eq_true, reduceIte, reduceCtorEq, strOk_nil, ne_eq, not_true_eq_false, not_false_eq_true, and_true, true_and, and_false, false_and, or_true, true_or, or_false, false_or, and_self, or_self, Function.comp_def, List.isEmpty_nil, List.isEmpty_cons, beq_iff_eq, Nat.reduceBEq, Nat.zero_add, Int.zero_add, Int.sub_zero, Int.reduceToNat, Int.reducePow, Int.reduceAdd, Int.reduceMul, Int.reduceLT, Int.reduceLE, Int.reduceEq, Nat.reduceAdd, Nat.reduceLT, Nat.reduceLeDiff, SZ, Nat.zero_le, List.append_eq, all_ret]
    rw [ss2]
    by_cases h2 : (a : Int) = 2
    · simp (disch := omega) only [et_var, et_int, et_str, et_bl, et_non, et_glob, et_fnv, et_bin, et_neg, et_cmp, et_chain, et_tup, et_new, et_idx, et_slc, et_rev, et_call, et_callv, et_bi, et_isi, et_li, et_join, et_not, et_and, et_or, et_ite, ef_var, ef_int, ef_str, ef_bl, ef_non, ef_glob, ef_fnv, ef_neg, ef_cmp, ef_chain, ef_tup, ef_idx, ef_callv, ef_bi, ef_isi, ef_join, ef_not, ef_and, ef_or, ef_ite, ef_sub, ef_fdiv, ef_mod, ef_pow, ef_tuple, ef_sum, ef_all, ef_any, ef_max, ef_min, ef_len, ef_dict, ef_new, ef_call, ef_list, ef_add, ef_mul, ef_slc, ef_rev, ss1, ss2, evS, evE, evEs, evO, evL, evLs, evR, evIf, occE, occEs, occO, occL, occLs, occR, pub1, mask, bn1, bn2, bn3, bn4, bn5, bn6, bn7, bn8, bn9, bn10, bn11, tu1, tu2, tu3, tu4, tu5, tu6, cm1, cm2, cm3, cm4, cm5, cm6, cm7, cm8, cm9, cm10, in1, in2, in3, in4, in5, in6, eq1, eq2, eq3, eq4, eq5, eq6, eq7, eq8, lt1, lt2, le1, le2, gt1, ge1, ix1, ix2, ix3, sl1, sl2, sl3, rv1, is1, is2, is3, is4, is5, is6, is7, is8, is9, is10, is11, is12, is13, is14, is15, is16, is17, is18, ln1, ln2, ln3, bi1, bi2, bi3, bi4, bi6, bi7, bi8, sq1, sq2, id1, sd1, ld1, ad1, ad2, ad3, ad4, ad5, as1, as2, as3, as4, as5, li1, li2, li3, li4, li5, li6, li7, li8, jo1, ra1, ra2, zi1, zi2, cl1, cl2, sf1, sf2, ke1, ke2, ke3, pb1, pb2, pb3, vi1, vi2, vi3, vi4, pu1, pu2, wi1, wi2, il1, il2, il3, il4, pt1, pt2, pt3, pt4, pt5, pt6, pt7, pt8, pureTs_map, all_true, startD, tr_ret, tr_draw, tr_exc, tr_fail, tr_some, tr_none, tr_noexc, tr_noexcF, tr_noexcD, go_nx, go_rt, fin_nx, fin_rt, consO, ite_bind, ite_noexc, evCo_map, evCoM_some, evCoM_if, evFor_map, intsOf_map, blsOf_map, strsOf_map, enumT_map, rangeT_map, zip2_map, zip3_map, atT_0, atT_1, atT_2, atT_3, List.map_cons, List.map_nil, List.map_map, List.cons_append, List.nil_append, List.append_nil, List.replicate, List.set_cons_zero, List.set_cons_succ, List.getD_cons_zero, List.getD_cons_succ, List.getD_nil, List.length_cons, List.length_nil, List.length_map, Option.bind_some, Option.bind_none, Option.map_some, Option.map_none, List.contains_nil, List.contains_cons, Bool.and_eq_true, Bool.or_eq_true, Bool.not_eq_true', decide_eq_true_eq, Bool.not_true, Bool.not_false, Bool.and_true, Bool.true_and, Bool.and_false, Bool.false_and, Bool.or_true, Bool.or_false, Bool.true_or, Bool.false_or, Bool.and_self, Bool.or_self, if_true, if_false, ite_true, ite_false, Bool.false_eq_true, reduceIte, reduceCtorEq, strOk_nil, ne_eq, not_true_eq_false, not_false_eq_true, and_true, true_and, and_false, false_and, or_true, true_or, or_false, false_or, and_self, or_self, Function.comp_def, List.isEmpty_nil, List.isEmpty_cons, beq_iff_eq, Nat.reduceBEq, Nat.zero_add, Int.zero_add, Int.sub_zero, Int.reduceToNat, Int.reducePow, Int.reduceAdd, Int.reduceMul, Int.reduceLT, Int.reduceLE, Int.reduceEq, Nat.reduceAdd, Nat.reduceLT, Nat.reduceLeDiff, SZ, Nat.zero_le, List.append_eq, if_pos, h2, all_ret, hn k _ (show 1 ≤ k by omega)]
      repeat with_reducible refine bindI ?_
      refine evCoM_all (R := fun t => ∃ p : Int × Int, t = encL p ∧ small p.1 ∧ small p.2) (fun p hp => ?_) fun ys yl hy => ?_
      · have e1 := mOk (i := p.2) (j := 100000000000000000000000000000) (by have := l3 p hp; omega) (by decide)
        simp (disch := first | omega | assumption) only [et_var, et_int, et_str, et_bl, et_non, et_glob, et_fnv, et_bin, et_neg, et_cmp, et_chain, et_tup, et_new, et_idx, et_slc, et_rev, et_call, et_callv, et_bi, et_isi, et_li, et_join, et_not, et_and, et_or, et_ite, ef_var, ef_int, ef_str, ef_bl, ef_non, ef_glob, ef_fnv, ef_neg, ef_cmp, ef_chain, ef_tup, ef_idx, ef_callv, ef_bi, ef_isi, ef_join, ef_not, ef_and, ef_or, ef_ite, ef_sub, ef_fdiv, ef_mod, ef_pow, ef_tuple, ef_sum, ef_all, ef_any, ef_max, ef_min, ef_len, ef_dict, ef_new, ef_call, ef_list, ef_add, ef_mul, ef_slc, ef_rev, ss1, evS, evE, evEs, evO, evL, evLs, evR, evIf, occE, occEs, occO, occL, occLs, occR, pub1, mask, bn1, bn2, bn3, bn4, bn5, bn6, bn7, bn8, bn9, bn10, bn11, tu1, tu2, tu3, tu4, tu5, tu6, cm1, cm2, cm3, cm4, cm5, cm6, cm7, cm8, cm9, cm10, in1, in2, in3, in4, in5, in6, eq1, eq2, eq3, eq4, eq5, eq6, eq7, eq8, lt1, lt2, le1, le2, gt1, ge1, ix1, ix2, ix3, sl1, sl2, sl3, rv1, is1, is2, is3, is4, is5, is6, is7, is8, is9, is10, is11, is12, is13, is14, is15, is16, is17, is18, ln1, ln2, ln3, bi1, bi2, bi3, bi4, bi6, bi7, bi8, sq1, sq2, id1, sd1, ld1, ad1, ad2, ad3, ad4, ad5, as1, as2, as3, as4, as5, li1, li2, li3, li4, li5, li6, li7, li8, jo1, ra1, ra2, zi1, zi2, cl1, cl2, sf1, sf2, ke1, ke2, ke3, pb1, pb2, pb3, vi1, vi2, vi3, vi4, pu1, pu2, wi1, wi2, il1, il2, il3, il4, pt1, pt2, pt3, pt4, pt5, pt6, pt7, pt8, pureTs_map, all_true, startD, tr_ret, tr_draw, tr_exc, tr_fail, tr_some, tr_none, tr_noexc, tr_noexcF, tr_noexcD, go_nx, go_rt, fin_nx, fin_rt, consO, ite_bind, ite_noexc, evCo_map, evCoM_some, evCoM_if, evFor_map, intsOf_map, blsOf_map, strsOf_map, enumT_map, rangeT_map, zip2_map, zip3_map, atT_0, atT_1, atT_2, atT_3, List.map_cons, List.map_nil, List.map_map, List.cons_append, List.nil_append, List.append_nil, List.replicate, List.set_cons_zero, List.set_cons_succ, List.getD_cons_zero, List.getD_cons_succ, List.getD_nil, List.length_cons, List.length_nil, List.length_map, Option.bind_some, Option.bind_none, Option.map_some, Option.map_none, List.contains_nil, List.contains_cons, Bool.and_eq_true, Bool.or_eq_true, Bool.not_eq_true', decide_eq_true_eq, Bool.not_true, Bool.not_false, Bool.and_true, Bool.true_and, Bool.and_false, Bool.false_and, Bool.or_true, Bool.or_false, Bool.true_or, Bool.false_or, Bool.and_self, Bool.or_self, if_true, if_false, ite_true, ite_false, Bool.false_eq_true, reduceIte, reduceCtorEq, strOk_nil, ne_eq, not_true_eq_false, not_false_eq_true, and_true, true_and, and_false, false_and, or_true, true_or, or_false, false_or, and_self, or_self, Function.comp_def, List.isEmpty_nil, List.isEmpty_cons, beq_iff_eq, Nat.reduceBEq, Nat.zero_add, Int.zero_add, Int.sub_zero, Int.reduceToNat, Int.reducePow, Int.reduceAdd, Int.reduceMul, Int.reduceLT, Int.reduceLE, Int.reduceEq, Nat.reduceAdd, Nat.reduceLT, Nat.reduceLeDiff, SZ, Nat.zero_le, List.append_eq, encL, if_pos, hn k _ (show 1 ≤ k by omega)]
        refine drawI (by decide) (by decide) fun r r0 r1 => ?_
        simp (disch := first | omega | assumption) only [et_var, et_int, et_str, et_bl, et_non, et_glob, et_fnv, et_bin, et_neg, et_cmp, et_chain, et_tup, et_new, et_idx, et_slc, et_rev, et_call, et_callv, et_bi, et_isi, et_li, et_join, et_not, et_and, et_or, et_ite, ef_var, ef_int, ef_str, ef_bl, ef_non, ef_glob, ef_fnv, ef_neg, ef_cmp, ef_chain, ef_tup, ef_idx, ef_callv, ef_bi, ef_isi, ef_join, ef_not, ef_and, ef_or, ef_ite, ef_sub, ef_fdiv, ef_mod, ef_pow, ef_tuple, ef_sum, ef_all, ef_any, ef_max, ef_min, ef_len, ef_dict, ef_new, ef_call, ef_list, ef_add, ef_mul, ef_slc, ef_rev, ss1, evS, evE, evEs, evO, evL, evLs, evR, evIf, occE, occEs, occO, occL, occLs, occR, pub1, mask, bn1, bn2, bn3, bn4, bn5, bn6, bn7, bn8, bn9, bn10, bn11, tu1, tu2, tu3, tu4, tu5, tu6, cm1, cm2, cm3, cm4, cm5, cm6, cm7, cm8, cm9, cm10, in1, in2, in3, in4, in5, in6, eq1, eq2, eq3, eq4, eq5, eq6, eq7, eq8, lt1, lt2, le1, le2, gt1, ge1, ix1, ix2, ix3, sl1, sl2, sl3, rv1, is1, is2, is3, is4, is5, is6, is7, is8, is9, is10, is11, is12, is13, is14, is15, is16, is17, is18, ln1, ln2, ln3, bi1, bi2, bi3, bi4, bi6, bi7, bi8, sq1, sq2, id1, sd1, ld1, ad1, ad2, ad3, ad4, ad5, as1, as2, as3, as4, as5, li1, li2, li3, li4, li5, li6, li7, li8, jo1, ra1, ra2, zi1, zi2, cl1, cl2, sf1, sf2, ke1, ke2, ke3, pb1, pb2, pb3, vi1, vi2, vi3, vi4, pu1, pu2, wi1, wi2, il1, il2, il3, il4, pt1, pt2, pt3, pt4, pt5, pt6, pt7, pt8, pureTs_map, all_true, startD, tr_ret, tr_draw, tr_exc, tr_fail, tr_some, tr_none, tr_noexc, tr_noexcF, tr_noexcD, go_nx, go_rt, fin_nx, fin_rt, consO, ite_bind, ite_noexc, evCo_map, evCoM_some, evCoM_if, evFor_map, intsOf_map, blsOf_map, strsOf_map, enumT_map, rangeT_map, zip2_map, zip3_map, atT_0, atT_1, atT_2, atT_3, List.map_cons, List.map_nil, List.map_map, List.cons_append, List.nil_append, List.append_nil, List.replicate, List.set_cons_zero, List.set_cons_succ, List.getD_cons_zero, List.getD_cons_succ, List.getD_nil, List.length_cons, List.length_nil, List.length_map, Option.bind_some, Option.bind_none, Option.map_some, Option.map_none, List.contains_nil, List.contains_cons, Bool.and_eq_true, Bool.or_eq_true, Bool.not_eq_true', decide_eq_true_eq, Bool.not_true, Bool.not_false, Bool.and_true, Bool.true_and, Bool.and_false, Bool.false_and, Bool.or_true, Bool.or_false, Bool.true_or, Bool.false_or, Bool.and_self, Bool.or_self, if_true, if_false, ite_true, ite_false, Bool.false_eq_true, reduceIte, reduceCtorEq, strOk_nil, ne_eq, not_true_eq_false, not_false_eq_true, and_true, true_and, and_false, false_and, or_true, true_or, or_false, false_or, and_self, or_self, Function.comp_def, List.isEmpty_nil, List.isEmpty_cons, beq_iff_eq, Nat.reduceBEq, Nat.zero_add, Int.zero_add, Int.sub_zero, Int.reduceToNat, Int.reducePow, Int.reduceAdd, Int.reduceMul, Int.reduceLT, Int.reduceLE, Int.reduceEq, Nat.reduceAdd, Nat.reduceLT, Nat.reduceLeDiff, SZ, Nat.zero_le, List.append_eq, encL, if_pos, all_ret]
        have := l3 p hp
        exact ⟨_, rfl, (p.1 + r, p.2 * 100000000000000000000000000000), rfl, sml_of (by show _ ≤ p.1 + r; omega) (by show p.1 + r ≤ _; omega), sml_of (by show _ ≤ p.2 * _; omega) (by show p.2 * _ ≤ _; omega)⟩
      · obtain ⟨ls', rfl, hls⟩ := exists_mapP (e := encL) hy
        simp (disch := omega) only [et_var, et_int, et_str, et_bl, et_non, et_glob, et_fnv, et_bin, et_neg, et_cmp, et_chain, et_tup, et_new, et_idx, et_slc, et_rev, et_call, et_callv, et_bi, et_isi, et_li, et_join, et_not, et_and, et_or, et_ite, ef_var, ef_int, ef_str, ef_bl, ef_non, ef_glob, ef_fnv, ef_neg, ef_cmp, ef_chain, ef_tup, ef_idx, ef_callv, ef_bi, ef_isi, ef_join, ef_not, ef_and, ef_or, ef_ite, ef_sub, ef_fdiv, ef_mod, ef_pow, ef_tuple, ef_sum, ef_all, ef_any, ef_max, ef_min, ef_len, ef_dict, ef_new, ef_call, ef_list, ef_add, ef_mul, ef_slc, ef_rev, ss1, evS, evE, evEs, evO, evL, evLs, evR, evIf, occE, occEs, occO, occL, occLs, occR, pub1, mask, bn1, bn2, bn3, bn4, bn5, bn6, bn7, bn8, bn9, bn10, bn11, tu1, tu2, tu3, tu4, tu5, tu6, cm1, cm2, cm3, cm4, cm5, cm6, cm7, cm8, cm9, cm10, in1, in2, in3, in4, in5, in6, eq1, eq2, eq3, eq4, eq5, eq6, eq7, eq8, lt1, lt2, le1, le2, gt1, ge1, ix1, ix2, ix3, sl1, sl2, sl3, rv1, is1, is2, is3, is4, is5, is6, is7, is8, is9, is10, is11, is12, is13, is14, is15, is16, is17, is18, ln1, ln2, ln3, bi1, bi2, bi3, bi4, bi6, bi7, bi8, sq1, sq2, id1, sd1, ld1, ad1, ad2, ad3, ad4, ad5, as1, as2, as3, as4, as5, li1, li2, li3, li4, li5, li6, li7, li8, jo1, ra1, ra2, zi1, zi2, cl1, cl2, sf1, sf2, ke1, ke2, ke3, pb1, pb2, pb3, vi1, vi2, vi3, vi4, pu1, pu2, wi1, wi2, il1, il2, il3, il4, pt1, pt2, pt3, pt4, pt5, pt6, pt7, pt8, pureTs_map, all_true, startD, tr_ret, tr_draw, tr_exc, tr_fail, tr_some, tr_none, tr_noexc, tr_noexcF, tr_noexcD, go_nx, go_rt, fin_nx, fin_rt, consO, ite_bind, ite_noexc, evCo_map, evCoM_some, evCoM_if, evFor_map, intsOf_map, blsOf_map, strsOf_map, enumT_map, rangeT_map, zip2_map, zip3_map, atT_0, atT_1, atT_2, atT_3, List.map_cons, List.map_nil, List.map_map, List.cons_append, List.nil_append, List.append_nil, List.replicate, List.set_cons_zero, List.set_cons_succ, List.getD_cons_zero, List.getD_cons_succ, List.getD_nil, List.length_cons, List.length_nil, List.length_map, Option.bind_some, Option.bind_none, Option.map_some, Option.map_none, List.contains_nil, List.contains_cons, Bool.and_eq_true, Bool.or_eq_true, Bool.not_eq_true', decide_eq_true_eq, Bool.not_true, Bool.not_false, Bool.and_true, Bool.true_and, Bool.and_false, Bool.false_and, Bool.or_true, Bool.or_false, Bool.true_or, Bool.false_or, Bool.and_self, Bool.or_self, if_true, if_false, ite_true, ite_false, Bool.false_eq_true, reduceIte, reduceCtorEq, strOk_nil, ne_eq, not_true_eq_false, not_false_eq_true, and_true, true_and, and_false, false_and, or_true, true_or, or_false, false_or, and_self, or_self, Function.comp_def, List.isEmpty_nil, List.isEmpty_cons, beq_iff_eq, Nat.reduceBEq, Nat.zero_add, Int.zero_add, Int.sub_zero, Int.reduceToNat, Int.reducePow, Int.reduceAdd, Int.reduceMul, Int.reduceLT, Int.reduceLE, Int.reduceEq, Nat.reduceAdd, Nat.reduceLT, Nat.reduceLeDiff, SZ, Nat.zero_le, List.append_eq, all_ret]
        have := main ls' (by simp at yl; omega) hls
        rw [h2] at this
        exact this
    · simp (disch := omega) only [et_var, et_int, et_str, et_bl, et_non, et_glob, et_fnv, et_bin, et_neg, et_cmp, et_chain, et_tup, et_new, et_idx, et_slc, et_rev, et_call, et_callv, et_bi, et_isi, et_li, et_join, et_not, et_and, et_or, et_ite, ef_var, ef_int, ef_str, ef_bl, ef_non, ef_glob, ef_fnv, ef_neg, ef_cmp, ef_chain, ef_tup, ef_idx, ef_callv, ef_bi, ef_isi, ef_join, ef_not, ef_and, ef_or, ef_ite, ef_sub, ef_fdiv, ef_mod, ef_pow, ef_tuple, ef_sum, ef_all, ef_any, ef_max, ef_min, ef_len, ef_dict, ef_new, ef_call, ef_list, ef_add, ef_mul, ef_slc, ef_rev, ss1, evS, evE, evEs, evO, evL, evLs, evR, evIf, occE, occEs, occO, occL, occLs, occR, pub1, mask, bn1, bn2, bn3, bn4, bn5, bn6, bn7, bn8, bn9, bn10, bn11, tu1, tu2, tu3, tu4, tu5, tu6, cm1, cm2, cm3, cm4, cm5, cm6, cm7, cm8, cm9, cm10, in1, in2, in3, in4, in5, in6, eq1, eq2, eq3, eq4, eq5, eq6, eq7, eq8, lt1, lt2, le1, le2, gt1, ge1, ix1, ix2, ix3, sl1, sl2, sl3, rv1, is1, is2, is3, is4, is5, is6, is7, is8, is9, is10, is11, is12, is13, is14, is15, is16, is17, is18, ln1, ln2, ln3, bi1, bi2, bi3, bi4, bi6, bi7, bi8, sq1, sq2, id1, sd1, ld1, ad1, ad2, ad3, ad4, ad5, as1, as2, as3, as4, as5, li1, li2, li3, li4, li5, li6, li7, li8, jo1, ra1, ra2, zi1, zi2, cl1, cl2, sf1, sf2, ke1, ke2, ke3, pb1, pb2, pb3, vi1, vi2, vi3, vi4, pu1, pu2, wi1, wi2, il1, il2, il3, il4, pt1, pt2, pt3, pt4, pt5, pt6, pt7, pt8, pureTs_map, all_true, startD, tr_ret, tr_draw, tr_exc, tr_fail, tr_some, tr_none, tr_noexc, tr_noexcF, tr_noexcD, go_nx, go_rt, fin_nx, fin_rt, consO, ite_bind, ite_noexc, evCo_map, evCoM_some, evCoM_if, evFor_map, intsOf_map, blsOf_map, strsOf_map, enumT_map, rangeT_map, zip2_map, zip3_map, atT_0, atT_1, atT_2, atT_3, List.map_cons, List.map_nil, List.map_map, List.cons_append, List.nil_append, List.append_nil, List.replicate, List.set_cons_zero, List.set_cons_succ, List.getD_cons_zero, List.getD_cons_succ, List.getD_nil, List.length_cons, List.length_nil, List.length_map, Option.bind_some, Option.bind_none, Option.map_some, Option.map_none, List.contains_nil, List.contains_cons, Bool.and_eq_true, Bool.or_eq_true, Bool.not_eq_true', decide_eq_true_eq, Bool.not_true, Bool.not_false, Bool.and_true, Bool.true_and, Bool.and_false, Bool.false_and, Bool.or_true, Bool.or_false, Bool.true_or, Bool.false_or, Bool.and_self, Bool.or_self, if_true, if_false, ite_true, ite_false, Bool.false_eq_true, reduceIte, reduceCtorEq, strOk_nil, ne_eq, not_true_eq_false, not_false_eq_true, and_true, true_and, and_false, false_and, or_true, true_or, or_false, false_or, and_self, or_self, Function.comp_def, List.isEmpty_nil, List.isEmpty_cons, beq_iff_eq, Nat.reduceBEq, Nat.zero_add, Int.zero_add, Int.sub_zero, Int.reduceToNat, Int.reducePow, Int.reduceAdd, Int.reduceMul, Int.reduceLT, Int.reduceLE, Int.reduceEq, Nat.reduceAdd, Nat.reduceLT, Nat.reduceLeDiff, SZ, Nat.zero_le, List.append_eq, if_neg, h2, all_ret]
      exact main ls (by omega) fun p hp => by
        have := l3 p hp
        exact ⟨sml_of (by omega) (by omega), sml_of (by omega) (by omega)⟩
  · simp only [et_var, et_int, et_str, et_bl, et_non, et_glob, et_fnv, et_bin, et_neg, et_cmp, et_chain, et_tup, et_new, et_idx, et_slc, et_rev, et_call, et_callv, et_bi, et_isi, et_li, et_join, et_not, et_and, et_or, et_ite, ef_var, ef_int, ef_str, ef_bl, ef_non, ef_glob, ef_fnv, ef_neg, ef_cmp, ef_chain, ef_tup, ef_idx, ef_callv, ef_bi, ef_isi, ef_join, ef_not, ef_and, ef_or, ef_ite, ef_sub, ef_fdiv, ef_mod, ef_pow, ef_tuple, ef_sum, ef_all, ef_any, ef_max, ef_min, ef_len, ef_dict, ef_new, ef_call, ef_list, ef_add, ef_mul, ef_slc, ef_rev, ss1, ss2, evS, evE, evEs, evO, evL, evLs, evR, evIf, occE, occEs, occO, occL, occLs, occR, pub1, mask, bn1, bn2, bn3, bn4, bn5, bn6, bn7, bn8, bn9, bn10, bn11, tu1, tu2, tu3, tu4, tu5, tu6, cm1, cm2, cm3, cm4, cm5, cm6, cm7, cm8, cm9, cm10, in1, in2, in3, in4, in5, in6, eq1, eq2, eq3, eq4, eq5, eq6, eq7, eq8, lt1, lt2, le1, le2, gt1, ge1, ix1, ix2, ix3, sl1, sl2, sl3, rv1, is1, is2, is3, is4, is5, is6, is7, is8, is9, is10, is11, is12, is13, is14, is15, is16, is17, is18, ln1, ln2, ln3, bi1, bi2, bi3, bi4, bi6, bi7, bi8, sq1, sq2, id1, sd1, ld1, ad1, ad2, ad3, ad4, ad5, as1, as2, as3, as4, as5, li1, li2, li3, li4, li5, li6, li7, li8, jo1, ra1, ra2, zi1, zi2, cl1, cl2, sf1, sf2, ke1, ke2, ke3, pb1, pb2, pb3, vi1, vi2, vi3, vi4, pu1, pu2, wi1, wi2, il1, il2, il3, il4, pt1, pt2, pt3, pt4, pt5, pt6, pt7, pt8, pureTs_map, all_true, startD, tr_ret, tr_draw, tr_exc, tr_fail, tr_some, tr_none, tr_noexc, tr_noexcF, tr_noexcD, go_nx, go_rt, fin_nx, fin_rt, consO, ite_bind, ite_noexc, evCo_map, evCoM_some, evCoM_if, evFor_map, intsOf_map, blsOf_map, strsOf_map, enumT_map, rangeT_map, zip2_map, zip3_map, atT_0, atT_1, atT_2, atT_3, List.map_cons, List.map_nil, List.map_map, List.cons_append, List.nil_append, List.append_nil, List.replicate, List.set_cons_zero, List.set_cons_succ, List.getD_cons_zero, List.getD_cons_succ, List.getD_nil, List.length_cons, List.length_nil, List.length_map, Option.bind_some, Option.bind_none, Option.map_some, Option.map_none, List.contains_nil, List.contains_cons, Bool.and_eq_true, Bool.or_eq_true, Bool.not_eq_true', decide_eq_true_eq, Bool.not_true, Bool.not_false, Bool.and_true, Bool.true_and, Bool.and_false, Bool.false_and, Bool.or_true, Bool.or_false, Bool.true_or, Bool.false_or, Bool.and_self, Bool.or_self, if_true, if_false, ite_true, ite_false, Bool.false_eq_true, reduceIte, reduceCtorEq, strOk_nil, ne_eq, not_true_eq_false, not_false_eq_true, and_true, true_and, and_false, false_and, or_true, true_or, or_false, false_or, and_self, or_self, Function.comp_def, List.isEmpty_nil, List.isEmpty_cons, beq_iff_eq, Nat.reduceBEq, Nat.zero_add, Int.zero_add, Int.sub_zero, Int.reduceToNat, Int.reducePow, Int.reduceAdd, Int.reduceMul, Int.reduceLT, Int.reduceLE, Int.reduceEq, Nat.reduceAdd, Nat.reduceLT, Nat.reduceLeDiff, SZ, Nat.zero_le, List.append_eq, all_ret]

end Mo
namespace Mo

end Mo
namespace K60
open PySem PyProof.Rows Mo
abbrev tp (i : Nat) : Stmt := PySem.Challenge.pw_mouthlamps_k60_sums.main.body.getD i (.Pass ⟨0, 0, 0, 0⟩)
abbrev d0 : Df := ⟨⟨("count_to", none), "count_to", "count_to", L2.defArgs (tp 1), L2.defBody (tp 1), L2.defScope (tp 1), [], []⟩, ["stand", "w", ".0", "one"], ["stand", "w"], .code 2 4 (B_count_to)⟩
abbrev d1 : Df := ⟨⟨("sums", none), "sums", "sums", L2.defArgs (tp 2), L2.defBody (tp 2), L2.defScope (tp 2), [], []⟩, ["stand", "lamps", "folk", "found", "w", "pair", "here"], ["stand"], .code 1 7 (B_sums 0)⟩
abbrev d2 : Df := ⟨⟨("_law_deck", none), "_law_deck", "_law_deck", L2.defArgs (tp 4), L2.defBody (tp 4), L2.defScope (tp 4), [], []⟩, ["_law_script", "_law_cells", ".0", "_law_cell"], ["_law_script"], .mk⟩
abbrev d3 : Df := ⟨⟨("_law_next", none), "_law_next", "_law_next", L2.defArgs (tp 5), L2.defBody (tp 5), L2.defScope (tp 5), [], []⟩, ["_law_deck_here", "_law_many", "_law_rest", "_law_cell", "_law_mixed"], ["_law_deck_here", "_law_many"], .next⟩
abbrev d4 : Df := ⟨⟨("_law_names", none), "_law_names", "_law_names", L2.defArgs (tp 6), L2.defBody (tp 6), L2.defScope (tp 6), [], []⟩, ["_law_deck_here", "_law_many", "_law_letters", "_law_first", "_law_head", "_law_tail", ".0", "_law_k"], ["_law_deck_here", "_law_many"], .code 2 8 (B_law_names 3)⟩
abbrev d5 : Df := ⟨⟨("_law_dim", none), "_law_dim", "_law_dim", L2.defArgs (tp 7), L2.defBody (tp 7), L2.defScope (tp 7), [], []⟩, ["_law_deck_here", "_law_most", "_law_many", "_law_n", "_law_folk", "_law_name", "_law_dark", "_law_lamps", "_law_w", "_law_pair"], ["_law_deck_here", "_law_most", "_law_many"], .code 3 10 (B_law_dim 3 4)⟩
abbrev d6 : Df := ⟨⟨("_law_same", none), "_law_same", "_law_same", L2.defArgs (tp 8), L2.defBody (tp 8), L2.defScope (tp 8), [], []⟩, ["_law_found", "_law_due", ".0", "_law_one", "_law_other"], ["_law_found", "_law_due"], .code 2 5 (B_law_same 6)⟩
abbrev d7 : Df := ⟨⟨("_law_sums", none), "_law_sums", "_law_sums", L2.defArgs (tp 9), L2.defBody (tp 9), L2.defScope (tp 9), [], []⟩, ["_law_stand", "_law_found", "_law_w", "_law_pair", "_law_here", ".0", "_law_name", "_law_place", "_law_home"], ["_law_stand"], .code 1 9 (B_law_sums)⟩
abbrev d8 : Df := ⟨⟨("law", none), "law", "law", L2.defArgs (tp 10), L2.defBody (tp 10), L2.defScope (tp 10), [], []⟩, ["_law_script", "_law_deck_here", "_law_turn", "_law_lamps", "_law_folk", "_law_here", "_law_elsewhere", "_law_shown", "_law_due", ".0", "_law_left", "_law_right", "_law_name", "_law_place", "_law_home"], ["_law_script"], .code 1 15 (B_law 2 5 3 7 6 1)⟩
abbrev dfs : List Df := [d0, d1, d2, d3, d4, d5, d6, d7, d8]
abbrev se : SE := ⟨["count_to", "sums", "_law_deck", "_law_next", "_law_names", "_law_dim", "_law_same", "_law_sums", "law"], [], ["len", "tuple", "int", "isinstance", "max", "min", "sum", "all", "any", "abs", "repr", "list", "sorted", "divmod", "range", "enumerate", "zip", "bool", "str"]⟩
abbrev pg : Pg := ⟨dfs.map (·.fn), [], rpT⟩
theorem g0 : Good se d0 := ⟨rfl, ⟨rfl, rfl, rfl, by decide +kernel, rfl, by decide +kernel, by decide +kernel⟩, fun _ _ _ _ _ _ us hl => match us, hl with | [_, _], _ => rfl, ⟨rfl, rfl⟩, ⟨rfl, rfl, by kernel_rfl⟩⟩
theorem g1 : Good se d1 := ⟨rfl, ⟨rfl, rfl, rfl, by decide +kernel, rfl, by decide +kernel, by decide +kernel⟩, fun _ _ _ _ _ _ us hl => match us, hl with | [_], _ => rfl, ⟨rfl, rfl⟩, ⟨rfl, rfl, by kernel_rfl⟩⟩
theorem g2 : Good se d2 := ⟨rfl, ⟨rfl, rfl, rfl, by decide +kernel, rfl, by decide +kernel, by decide +kernel⟩, fun _ _ _ _ _ _ us hl => match us, hl with | [_], _ => rfl, ⟨rfl, rfl⟩, ⟨rfl, rfl, by kernel_rfl⟩⟩
theorem g3 : Good se d3 := ⟨rfl, ⟨rfl, rfl, rfl, by decide +kernel, rfl, by decide +kernel, by decide +kernel⟩, fun _ _ _ _ _ _ us hl => match us, hl with | [_, _], _ => rfl, ⟨rfl, rfl⟩, ⟨rfl, rfl, by kernel_rfl⟩⟩
theorem g4 : Good se d4 := ⟨rfl, ⟨rfl, rfl, rfl, by decide +kernel, rfl, by decide +kernel, by decide +kernel⟩, fun _ _ _ _ _ _ us hl => match us, hl with | [_, _], _ => rfl, ⟨rfl, rfl⟩, ⟨rfl, rfl, by kernel_rfl⟩⟩
theorem g5 : Good se d5 := ⟨rfl, ⟨rfl, rfl, rfl, by decide +kernel, rfl, by decide +kernel, by decide +kernel⟩, fun _ _ _ _ _ _ us hl => match us, hl with | [_, _, _], _ => rfl, ⟨rfl, rfl⟩, ⟨rfl, rfl, by kernel_rfl⟩⟩
theorem g6 : Good se d6 := ⟨rfl, ⟨rfl, rfl, rfl, by decide +kernel, rfl, by decide +kernel, by decide +kernel⟩, fun _ _ _ _ _ _ us hl => match us, hl with | [_, _], _ => rfl, ⟨rfl, rfl⟩, ⟨rfl, rfl, by kernel_rfl⟩⟩
theorem g7 : Good se d7 := ⟨rfl, ⟨rfl, rfl, rfl, by decide +kernel, rfl, by decide +kernel, by decide +kernel⟩, fun _ _ _ _ _ _ us hl => match us, hl with | [_], _ => rfl, ⟨rfl, rfl⟩, ⟨rfl, rfl, by kernel_rfl⟩⟩
theorem g8 : Good se d8 := ⟨rfl, ⟨rfl, rfl, rfl, by decide +kernel, rfl, by decide +kernel, by decide +kernel⟩, fun _ _ _ _ _ _ us hl => match us, hl with | [_], _ => rfl, ⟨rfl, rfl⟩, ⟨rfl, rfl, by kernel_rfl⟩⟩
theorem gs : ∀ (i : Nat) (df : Df), dfs[i]? = some df → Good se df := fun i df h => match i, h with
  | 0, h => Option.some.inj h ▸ g0
  | 1, h => Option.some.inj h ▸ g1
  | 2, h => Option.some.inj h ▸ g2
  | 3, h => Option.some.inj h ▸ g3
  | 4, h => Option.some.inj h ▸ g4
  | 5, h => Option.some.inj h ▸ g5
  | 6, h => Option.some.inj h ▸ g6
  | 7, h => Option.some.inj h ▸ g7
  | 8, h => Option.some.inj h ▸ g8
  | _ + 9, h => nomatch h
abbrev R : PySem.W.OpenRow := PySem.W.OpenLaw.row PySem.Challenge.rw_mouthlamps_k60_sums
abbrev hk : PySem.W.Hook := He.hookD 4 (fasOf dfs se []) (dfs.map (·.d))
def ob (s : PySem.W.SharedT) : He.AlD := He.obsDG 4 (fasOf dfs se []) (dfs.map (·.d)) (HandSHeadRun.getT s)
theorem ob_eq (s : PySem.W.SharedT) : ob s = hk.obs s.abs := He.obsDG_eq (HandSHeadRun.getT_eq s)
theorem run (w : World) : HandSHeadRun.RunEq R (PySem.W.view R.prog [10]) hk ob 4000 ["count_to", "sums", "_law_deck", "_law_next", "_law_names", "_law_dim", "_law_same", "_law_sums"] w := by
  intro os
  kernel_rfl
theorem cost : ccOf (cTab pg.fns 60) 8 ≤ 2 ^ 300000 := by decide +kernel
theorem spec : wpCall pg 60 8 [.scr] (fun _ => none) noE fun v _ => v = .bl true :=
  law_k60_ok (k := 58) (id := 2) (im := 5) (inx := 3) (isu := 7) (ism := 6) (iss := 1) rfl rfl rfl
    (dim_ok (inx := 3) (inm := 4) rfl (nextS_ok rfl) (names_ok (inx := 3) rfl (nextS_ok rfl))) (nextS_ok rfl) (law_sums_ok rfl) (same_ok rfl) (sums_ok (ic := 0) rfl (count_to_ok rfl)) (by decide)

end K60
open PySem PySem.W PySem.Calls PyProof.Rows
theorem PySem.Challenge.cw_mouthlamps_k60_sums_holds : PySem.Challenge.rw_mouthlamps_k60_sums.Holds := by
  w_on; o_law
  refine HandSHeadRun.head_any (r := OpenLaw.row PySem.Challenge.rw_mouthlamps_k60_sums) (q := view (OpenLaw.row PySem.Challenge.rw_mouthlamps_k60_sums).prog [10]) (H := K60.hk) (ob := K60.ob) (M := 4000) (loose := ["count_to", "sums", "_law_deck", "_law_next", "_law_names", "_law_dim", "_law_same", "_law_sums"]) (d := HandSHeadRun.topDef (OpenLaw.row PySem.Challenge.rw_mouthlamps_k60_sums).prog 10) (kwd := []) K60.ob_eq
    (by kernel_rfl) (fun s => by kernel_rfl) K60.run (by kernel_rfl) (by kernel_rfl) (by kernel_rfl) (by rfl) (by first | assumption | decide +kernel) (by decide +kernel) ⟨rfl, rfl, rfl, rfl, rfl, by decide +kernel⟩ ?hw ?hc
  case hw => w_witness2
  case hc =>
    refine Mo.walk_ofG (l := PySem.Challenge.rw_mouthlamps_k60_sums) (n := 63) (k := 60) (i := 8) (df := K60.d8) (dfs := K60.dfs) (g := K60.se) (Γ := K60.pg) rfl (by decide) (by kernel_rfl) ⟨rfl, by decide, by decide⟩ rfl (by kernel_rfl) ?F K60.cost K60.spec
    intro w mg fa h Y G hmg
    obtain ⟨K, KX, c⟩ := Y
    exact ⟨K, KX, Mo.wired_of KX G c K60.gs rfl rfl rfl (by decide) (fun i x t h => nomatch h)⟩
