import PyProof.Rows.All
import Wide.All
import OpenK.AllK
import Wide.FinOn
import KE.KDictKeyed
import HandS.ForMost
import HandS.Exc
import HandS.ExcOwn
import HandS.Flow
import HandS.Star
import HandS.Style
import HandS.IsInst
import HandS.ForSpec
import HandS.ExcField
import HandS.TupAny
import HandS.TupMul
import HandS.Deep
import HandS.Records
import HandS.ListItems
import HandS.Zip
import KE.GoesMore
import HandS.DictComp
import HandS.Words
import HandS.WordsExc
import HandS.Defaults
import HandS.Head0
import HandS.Head1
import HandS.Head2
import HandS.HeadEnd
import HandS.HeadHook1
import HandS.HeadHook2
import PySem.Challenge.RW_partchanges_k01_whole_programs
set_option Elab.async false
set_option linter.all false
set_option maxRecDepth 100000
/-! The small interpreter: values, memory, texts. -/
namespace Mp
open PySem

/-- a value: tuples lie within it, all that can change is told by its number -/
inductive D where
  | non | bl (b : Bool) | int (i : Int) | str (x : Str) | ref (i : Nat) | fn (g : Str) | tup (ds : List D)
  deriving Inhabited

namespace D
mutual
def beq : D → D → Bool
  | .non, .non => true
  | .bl a, .bl b => a == b
  | .int a, .int b => decide (a = b)
  | .str a, .str b => decide (a = b)
  | .ref a, .ref b => Nat.beq a b
  | .fn a, .fn b => decide (a = b)
  | .tup a, .tup b => beqs a b
  | _, _ => false
def beqs : List D → List D → Bool
  | [], [] => true
  | a :: r, b :: q => beq a b && beqs r q
  | _, _ => false
end
mutual
theorem beq_refl : ∀ a : D, beq a a = true
  | .non => rfl
  | .bl a => by cases a <;> rfl
  | .int a => by simp [beq]
  | .str a => by simp [beq]
  | .ref a => by simp [beq]
  | .fn a => by simp [beq]
  | .tup a => by rw [beq]; exact beqs_refl a
theorem beqs_refl : ∀ a : List D, beqs a a = true
  | [] => rfl
  | a :: r => by rw [beqs, beq_refl a, beqs_refl r]; rfl
end
mutual
theorem beq_eq : ∀ a b : D, beq a b = true → a = b
  | .non, b, h => by cases b <;> simp [beq] at h; rfl
  | .bl a, b, h => by cases b <;> simp [beq] at h; rw [h]
  | .int a, b, h => by cases b <;> simp [beq] at h; rw [h]
  | .str a, b, h => by cases b <;> simp [beq] at h; rw [h]
  | .ref a, b, h => by cases b <;> simp [beq] at h; rw [h]
  | .fn a, b, h => by cases b <;> simp [beq] at h; rw [h]
  | .tup a, b, h => by
    cases b with
    | tup b => rw [beq] at h; rw [beqs_eq a b h]
    | _ => simp [beq] at h
theorem beqs_eq : ∀ a b : List D, beqs a b = true → a = b
  | [], b, h => by cases b with
    | nil => rfl
    | cons => simp [beqs] at h
  | a :: r, b, h => by
    cases b with
    | nil => simp [beqs] at h
    | cons b q =>
      rw [beqs, Bool.and_eq_true] at h
      rw [beq_eq a b h.1, beqs_eq r q h.2]
end
instance : DecidableEq D := fun a b => if h : beq a b = true then .isTrue (beq_eq a b h) else .isFalse fun e => h (e ▸ beq_refl a)
end D

/-- what stands at a number -/
inductive O where
  | lst (ds : List D)
  | frz (ds : List D)
  | dct (kvs : List (D × D))
  | fdct (kvs : List (D × D))
  | ins (c : Str) (fs : List (Str × D))
  | exo (c : Str) (fs : List (Str × D))
  | dead
  deriving Inhabited, DecidableEq

abbrev Mem := List O
/-- an exception: its class, its fields -/
structure Xn where
  cls : Str
  fs : List (Str × D)

inductive R (α : Type) where
  | ok (a : α) (m : Mem)
  | exc (x : Xn) (m : Mem)
  | bad
namespace R
def bind {α β : Type} (r : R α) (k : α → Mem → R β) : R β := match r with
  | .ok a m => k a m
  | .exc x m => .exc x m
  | .bad => .bad
@[simp] theorem bind_ok {α β : Type} (a : α) (m : Mem) (k : α → Mem → R β) : (R.ok a m).bind k = k a m := rfl
@[simp] theorem bind_exc {α β : Type} (x : Xn) (m : Mem) (k : α → Mem → R β) : (R.exc x m).bind k = .exc x m := rfl
@[simp] theorem bind_bad {α β : Type} (k : α → Mem → R β) : (R.bad : R α).bind k = .bad := rfl
/-- within a comprehension nothing may be raised -/
def calm {α : Type} (r : R α) : R α := match r with
  | .exc _ _ => .bad
  | r => r
@[simp] theorem calm_ok {α : Type} (a : α) (m : Mem) : (R.ok a m).calm = .ok a m := rfl
end R
abbrev Env := List (Option D)
inductive SR where
  | nx (ρ : Env) (m : Mem)
  | rt (d : D) (m : Mem)
  | bk (ρ : Env) (m : Mem)
  | ct (ρ : Env) (m : Mem)
  | exc (x : Xn) (ρ : Env) (m : Mem)
  | bad

/-! ### the text -/
inductive Bop where | add | sub | mul | fdiv | mod | pow
inductive Cop where | eq | ne | lt | le | gt | ge | is | isn | isin | notin
inductive Cst where | non | bl (b : Bool) | int (i : Int) | str (x : Str)
inductive Tn where | non | int | bool | str | list | tuple | dict
  deriving DecidableEq
inductive Ty where | ty (n : Tn) | own (c : Str)
  deriving DecidableEq
inductive Tg where
  | nm (i : Nat)
  | tu (ts : List Tg)

mutual
inductive E where
  | var (i : Nat)
  | cst (c : Cst)
  | glo (x : Str)
  | bin (op : Bop) (a b : E)
  | neg (a : E)
  | not (a : E)
  | and (a b : E)
  | or (a b : E)
  | cmp (op : Cop) (a b : E)
  | chn (op op' : Cop) (a b c : E)
  | ife (c a b : E)
  | tup (es : Es)
  | lst (es : Es)
  | dct (kvs : Es)
  | idx (a i : E)
  | slc (a : E) (lo hi : Oe)
  | att (a : E) (f : Str)
  | call (f : Str) (es : Es)
  | mk (c : Str) (es : Es)
  | mth (o : E) (m : Str) (es : Es)
  | blt (b : Str) (es : Es)
  | isi (a : E) (ts : List Ty)
  | un (k : Str) (a : E)
  | lc (elt : E) (gs : Gs)
  | dc (k v : E) (gs : Gs)
inductive Es where
  | nil
  | cons (star : Bool) (e : E) (r : Es)
inductive Oe where
  | none
  | some (e : E)
/-- what is walked -/
inductive Ie where
  | seq (e : E)
  | rng1 (a : E)
  | rng2 (a b : E)
  | enum (a : E)
  | zip (a b : E)
  | zip3 (a b c : E)
  | items (a : E)
  | values (a : E)
/-- for target in what is walked, if tests: innermost last; own: the slots of the comprehension's own names -/
inductive Gs where
  | one (own : List Nat) (t : Tg) (it : Ie) (ifs : Es)
  | more (own : List Nat) (t : Tg) (it : Ie) (ifs : Es) (r : Gs)
end
mutual
inductive S where
  | set (t : Tg) (e : E)
  | setF (o : E) (f : Str) (e : E)
  | setI (o i e : E)
  | aug (op : Bop) (i : Nat) (e : E)
  | augF (op : Bop) (o : E) (f : Str) (e : E)
  | augI (op : Bop) (o i e : E)
  | expr (e : E)
  | ret (e : E)
  | retN
  | ifs (c : E) (a b : Ss)
  | whl (c : E) (b : Ss)
  | for_ (t : Tg) (it : Ie) (b : Ss)
  | raise (c : Str) (e : E)
  | try_ (b : Ss) (hs : Hs)
  | pass | brk | cont
inductive Ss where
  | nil
  | cons (s : S) (r : Ss)
inductive Hs where
  | nil
  | cons (cs : List Str) (nm : Option Nat) (b : Ss) (r : Hs)
end
end Mp

set_option Elab.async false
set_option linter.all false
set_option maxRecDepth 100000
/-! The small interpreter: operations. -/
namespace Mp
open PySem

def lim : Nat := 16777000
/-! ### numbers named -/
mutual
def refsD : D → List Nat
  | .ref i => [i]
  | .tup ds => refsDs ds
  | _ => []
def refsDs : List D → List Nat
  | [] => []
  | d :: r => refsD d ++ refsDs r
end
def refsKV : List (D × D) → List Nat
  | [] => []
  | (k, v) :: r => refsD k ++ refsD v ++ refsKV r
def refsF : List (Str × D) → List Nat
  | [] => []
  | (_, v) :: r => refsD v ++ refsF r
def refsO : O → List Nat
  | .lst ds | .frz ds => refsDs ds
  | .dct kvs | .fdct kvs => refsKV kvs
  | .ins _ fs | .exo _ fs => refsF fs
  | .dead => []
mutual
def renD (g : Nat → Nat) : D → D
  | .ref i => .ref (g i)
  | .tup ds => .tup (renDs g ds)
  | d => d
def renDs (g : Nat → Nat) : List D → List D
  | [] => []
  | d :: r => renD g d :: renDs g r
end
def renKV (g : Nat → Nat) : List (D × D) → List (D × D)
  | [] => []
  | (k, v) :: r => (renD g k, renD g v) :: renKV g r
def renF (g : Nat → Nat) : List (Str × D) → List (Str × D)
  | [] => []
  | (x, v) :: r => (x, renD g v) :: renF g r
def renO (g : Nat → Nat) : O → O
  | .lst ds => .lst (renDs g ds)
  | .frz ds => .frz (renDs g ds)
  | .dct kvs => .dct (renKV g kvs)
  | .fdct kvs => .fdct (renKV g kvs)
  | .ins c fs => .ins c (renF g fs)
  | .exo c fs => .exo c (renF g fs)
  | .dead => .dead
/-! ### what is left behind a def: the old ones, and what can be come to -/
def oldOk (L : Nat) : Mem → Mem → Bool
  | [], _ => true
  | _ :: _, [] => false
  | o0 :: r0, o :: r => (decide (o0 = o) || (refsO o).all (fun i => Nat.blt i L)) && oldOk L r0 r
def refsAt (m : Mem) (i : Nat) : List Nat := match m[i]? with
  | some o => refsO o
  | none => []
def addNew (L : Nat) : List Nat → List Nat → List Nat
  | [], ks => ks
  | i :: r, ks => addNew L r (if Nat.blt i L || ks.contains i then ks else ks ++ [i])
def reach (m : Mem) (L : Nat) : Nat → Nat → List Nat → List Nat
  | 0, _, ks => ks
  | n + 1, j, ks => match ks[j]? with
    | none => ks
    | some i => reach m L n (j + 1) (addNew L (refsAt m i) ks)
def place : Nat → List Nat → Nat
  | _, [] => 0
  | i, k :: r => if i = k then 0 else place i r + 1
def newNo (L : Nat) (ks : List Nat) (i : Nat) : Nat := if i < L then i else L + place i ks
def keptAll (m : Mem) (L : Nat) (ks : List Nat) (rs : List Nat) : Bool :=
  rs.all (fun i => Nat.blt i L || ks.contains i) && ks.all (fun k => decide (k < m.length) && (refsAt m k).all (fun i => Nat.blt i L || ks.contains i))
/-- the numbers of new things that are kept -/
def kept (m0 m : Mem) (rs : List Nat) : Option (List Nat) :=
  if m.length ≤ m0.length then none else
  if oldOk m0.length m0 m then
    (let ks := reach m m0.length (m.length - m0.length) 0 (addNew m0.length rs [])
     if keptAll m m0.length ks rs then some ks else none)
  else none
def swept (m : Mem) (L : Nat) (ks : List Nat) : Mem := m.take L ++ ks.map fun k => renO (newNo L ks) (m.getD k default)
def gc (m0 : Mem) (d : D) (m : Mem) : R D := match kept m0 m (refsD d) with
  | none => .ok d m
  | some ks => .ok (renD (newNo m0.length ks) d) (swept m m0.length ks)
def gcX (m0 : Mem) (x : Xn) (m : Mem) : R D := match kept m0 m (refsF x.fs) with
  | none => .exc x m
  | some ks => .exc ⟨x.cls, renF (newNo m0.length ks) x.fs⟩ (swept m m0.length ks)
/-! ### data -/
mutual
def toPd (k : Nat → Option PyData) : D → Option PyData
  | .non => some .none
  | .bl b => some (.bool b)
  | .int i => some (.int i)
  | .str x => some (.str x)
  | .ref i => k i
  | .fn _ => none
  | .tup ds => (toPds k ds).map .tuple
def toPds (k : Nat → Option PyData) : List D → Option (List PyData)
  | [] => some []
  | d :: r => (toPd k d).bind fun p => (toPds k r).map fun q => p :: q
end
/-- the items of a list -/
def listAt (m : Mem) (i : Nat) : Option (List D) := match m[i]? with
  | some (.lst ds) => some ds
  | some (.frz ds) => some ds
  | _ => none
def toP (m : Mem) : Nat → D → Option PyData
  | 0 => toPd fun _ => none
  | n + 1 => toPd fun i => (listAt m i).bind fun ds => (toPds (fun j => toP m n (.ref j)) ds).map .list
def data (m : Mem) (d : D) : Option PyData := (toP m 12 d).bind fun p => if SeqAt.shaped p then some p else none
def datas (m : Mem) (ds : List D) : Option (List PyData) := (toPds (fun j => toP m 12 (.ref j)) ds).bind fun p => if SeqAt.shaped (.list p) then some p else none
/-- == -/
def eqD (m : Mem) : D → D → Option Bool
  | .str x, .str y => some (decide (x = y))
  | .int i, .int j => some (decide (i = j))
  | .bl a, .bl b => some (a == b)
  | a, b => (data m a).bind fun p => (data m b).map fun q => PyData.eqv p q
/-- the items of a list or tuple -/
def seqOf (m : Mem) : D → Option (List D)
  | .tup ds => some ds
  | .ref i => listAt m i
  | _ => none
/-! ### keys of dicts -/
mutual
def nkey : D → Option NestedKey
  | .non => some .none
  | .bl b => some (.num (if b then 1 else 0))
  | .int i => some (.num i)
  | .str x => some (.text x)
  | .tup ds => (nkeys ds).map .tup
  | _ => none
def nkeys : List D → Option (List NestedKey)
  | [] => some []
  | d :: r => (nkey d).bind fun k => (nkeys r).map fun q => k :: q
end
def dkey : D → Option NestedKey
  | .int i => some (.num i)
  | .str x => some (.text x)
  | .tup ds => (nkeys ds).map .tup
  | _ => none
def isTupK : NestedKey → Bool
  | .tup _ => true
  | _ => false
def kvFind (k : NestedKey) : List (D × D) → Option D
  | [] => none
  | (a, v) :: r => if dkey a = some k then some v else kvFind k r
def kvPut (k : NestedKey) (d v : D) : List (D × D) → List (D × D)
  | [] => [(d, v)]
  | (a, u) :: r => if dkey a = some k then (a, v) :: r else (a, u) :: kvPut k d v r
def dctAt (m : Mem) (i : Nat) : Option (List (D × D)) := match m[i]? with
  | some (.dct kvs) => some kvs
  | some (.fdct kvs) => some kvs
  | _ => none
/-- a key of a dict of this kind -/
def keyIn (kvs : List (D × D)) (d : D) : Option NestedKey := (dkey d).bind fun k => match kvs with
  | [] => if isTupK k then none else some k
  | (a, _) :: _ => (dkey a).bind fun k' => if isTupK k' = isTupK k then some k else none
/-! ### operators -/
def some1 (o : Option D) (m : Mem) : R D := match o with
  | some d => .ok d m
  | none => .bad
def big (i : Int) : Bool := decide (i.natAbs < 18446744073709551616)
def binI : Bop → Int → Int → Option Int
  | .add, i, j => some (i + j)
  | .sub, i, j => some (i - j)
  | .mul, i, j => if big i || big j then some (i * j) else none
  | .fdiv, i, j => if j ≠ 0 ∧ j.natAbs < 1073741824 then some (i.fdiv j) else none
  | .mod, i, j => if j ≠ 0 then some (i.fmod j) else none
  | .pow, i, j => if 0 ≤ j ∧ j ≤ 1000000 ∧ i.natAbs < 18446744073709551616 then some (i ^ j.toNat) else none
def times (n : Nat) (ds : List D) : List D := match n with
  | 0 => []
  | n + 1 => ds ++ times n ds
def newL (ds : List D) (m : Mem) : R D := if ds.length ≤ lim then .ok (.ref m.length) (m ++ [.lst ds]) else .bad
def tupR (ds : List D) (m : Mem) : R D := if ds.length ≤ lim then .ok (.tup ds) m else .bad
def binD (op : Bop) (a b : D) (m : Mem) : R D := match a, b with
  | .int i, .int j => some1 ((binI op i j).map .int) m
  | .str x, .str y => (match op with
    | .add => if x.length + y.length ≤ lim then .ok (.str (x ++ y)) m else .bad
    | _ => .bad)
  | .tup x, .tup y => (match op with
    | .add => tupR (x ++ y) m
    | _ => .bad)
  | .ref i, .ref j => (match op with
    | .add => (match m[i]?, m[j]? with
      | some (.lst x), some (.lst y) => newL (x ++ y) m
      | _, _ => .bad)
    | _ => .bad)
  | .ref i, .int j => (match op with
    | .mul => (match m[i]? with
      | some (.lst x) => if 0 ≤ j ∧ x.length * j.toNat ≤ lim ∧ j < 1000000 then newL (times j.toNat x) m else .bad
      | _ => .bad)
    | _ => .bad)
  | _, _ => .bad
def truth (m : Mem) : D → Option Bool
  | .non => some false
  | .bl b => some b
  | .int i => some (i != 0)
  | .str x => if x.length ≤ lim then some ((x.length : Int) != 0) else none
  | .tup ds => some (!ds.isEmpty)
  | .ref i => (match m[i]? with
    | some (.lst ds) => some (!ds.isEmpty)
    | some (.frz ds) => some (!ds.isEmpty)
    | _ => none)
  | .fn _ => none
def anyEq (p : PyData) : List PyData → Bool
  | [] => false
  | q :: r => PyData.eqv q p || anyEq p r
def inSeq (m : Mem) (x : D) (ds : List D) : Option Bool := (data m x).bind fun p => (datas m ds).map fun qs => anyEq p qs
def inD (m : Mem) (x : D) : D → Option Bool
  | .tup ds => inSeq m x ds
  | .str y => (match x with
    | .str z => some (!(Builtin.Str.occurrences y z 0 y.length 1).isEmpty)
    | _ => none)
  | .ref i => (match listAt m i with
    | some ds => inSeq m x ds
    | none => (dctAt m i).bind fun kvs => (keyIn kvs x).map fun k => (kvFind k kvs).isSome)
  | _ => none
def ltI : Cop → Int → Int → Option Bool
  | .lt, i, j => some (decide (i < j))
  | .le, i, j => some (decide (i ≤ j))
  | .gt, i, j => some (decide (j < i))
  | .ge, i, j => some (decide (j ≤ i))
  | _, _, _ => none
def ltD (op : Cop) : D → D → Option Bool
  | .int i, .int j => ltI op i j
  | _, _ => none
def cmpD (op : Cop) (a b : D) (m : Mem) : Option Bool := match op with
  | .eq => eqD m a b
  | .ne => (eqD m a b).map (!·)
  | .is => (match b with
    | .non => some (decide (a = .non))
    | _ => none)
  | .isn => (match b with
    | .non => some (!decide (a = .non))
    | _ => none)
  | .isin => inD m a b
  | .notin => (inD m a b).map (!·)
  | op => ltD op a b
/-! ### items -/
def at_ (ds : List D) (i : Int) : Option D := if 0 ≤ i then ds[i.toNat]? else if 0 ≤ i + ds.length then ds[(i + ds.length).toNat]? else none
def clampI (n : Nat) (i : Int) : Nat := if 0 ≤ i then min i.toNat n else (i + n).toNat
def cutAt (n d : Nat) : Option Int → Nat
  | some i => clampI n i
  | none => d
def cut (n : Nat) (lo hi : Option Int) : Nat × Nat := (cutAt n 0 lo, cutAt n n hi)
def cutL {α : Type} (ds : List α) (lo hi : Option Int) : List α := let p := cut ds.length lo hi; (ds.drop p.1).take (p.2 - p.1)
def idxR (r : Nat) (k : D) (m : Mem) : Option D := match listAt m r with
  | some ds => (match k with
    | .int j => at_ ds j
    | _ => none)
  | none => (dctAt m r).bind fun kvs => (keyIn kvs k).bind fun q => kvFind q kvs
def idxD (a i : D) (m : Mem) : Option D := match a, i with
  | .tup ds, .int j => at_ ds j
  | .str x, .int j => if 0 ≤ j ∧ j < x.length ∧ x.length ≤ lim then some (.str ⟨#[x.cps.getD j.toNat 0]⟩) else none
  | .ref r, k => idxR r k m
  | _, _ => none
def slcD (a : D) (l h : Option Int) (m : Mem) : R D := match a with
  | .tup ds => .ok (.tup (cutL ds l h)) m
  | .str x => if x.length ≤ lim then .ok (.str ⟨(cutL x.cps.toList l h).toArray⟩) m else .bad
  | .ref r => (match listAt m r with
    | some ds => newL (cutL ds l h) m
    | none => .bad)
  | _ => .bad
/-! ### instances -/
def fget (x : Str) : List (Str × D) → Option D
  | [] => none
  | (y, v) :: r => if x = y then some v else fget x r
def fput (x : Str) (v : D) : List (Str × D) → List (Str × D)
  | [] => [(x, v)]
  | (y, u) :: r => if x = y then (y, v) :: r else (y, u) :: fput x v r
def attD (a : D) (f : Str) (m : Mem) : Option D := match a with
  | .ref i => (match m[i]? with
    | some (.ins _ fs) => fget f fs
    | some (.exo _ fs) => fget f fs
    | _ => none)
  | _ => none
def setI (o i v : D) (m : Mem) : Option Mem := match o with
  | .ref r => (match m[r]?, i with
    | some (.lst ds), .int j => if 0 ≤ j ∧ j < ds.length then some (m.set r (.lst (ds.set j.toNat v))) else none
    | some (.dct kvs), k => (keyIn kvs k).bind fun q => if kvs.length < lim then some (m.set r (.dct (kvPut q k v kvs))) else none
    | _, _ => none)
  | _ => none
def setF (fld : Str → Str → Bool) (o : D) (f : Str) (v : D) (m : Mem) : Option Mem := match o with
  | .ref r => (match m[r]? with
    | some (.ins c fs) => if fs.length < 900 && fld c f then some (m.set r (.ins c (fput f v fs))) else none
    | _ => none)
  | _ => none
/-! ### built-ins -/
def bools : List D → Option (List Bool)
  | [] => some []
  | .bl b :: r => (bools r).map fun q => b :: q
  | _ :: _ => none
def nums : List D → Option (List Int)
  | [] => some []
  | .int b :: r => (nums r).map fun q => b :: q
  | _ :: _ => none
def lenD (m : Mem) : D → Option Int
  | .tup ds => some ds.length
  | .str x => if x.length ≤ lim then some x.length else none
  | .ref i => (match m[i]? with
    | some (.lst ds) => some ds.length
    | some (.frz ds) => some ds.length
    | some (.dct kvs) => some kvs.length
    | some (.fdct kvs) => some kvs.length
    | _ => none)
  | _ => none
/-- pairs, for dict(..) -/
def pairsOf (m : Mem) : List D → List (D × D) → Option (List (D × D))
  | [], acc => some acc
  | .tup [k, v] :: r, acc => (keyIn acc k).bind fun q => pairsOf m r (kvPut q k v acc)
  | _ :: _, _ => none
def bltin (b : Str) (ds : List D) (m : Mem) : R D :=
  if b = "len" then (match ds with
    | [d] => some1 ((lenD m d).map .int) m
    | _ => .bad)
  else if b = "tuple" then (match ds with
    | [d] => (match seqOf m d with
      | some xs => .ok (.tup xs) m
      | none => .bad)
    | _ => .bad)
  else if b = "list" then (match ds with
    | [d] => (match seqOf m d with
      | some xs => newL xs m
      | none => .bad)
    | _ => .bad)
  else if b = "all" then (match ds with
    | [.ref i] => (match (listAt m i).bind bools with
      | some bs => .ok (.bl (bs.all id)) m
      | none => .bad)
    | _ => .bad)
  else if b = "any" then (match ds with
    | [.ref i] => (match (listAt m i).bind bools with
      | some bs => .ok (.bl (bs.any id)) m
      | none => .bad)
    | _ => .bad)
  else if b = "sum" then (match ds with
    | [.ref i] => (match (listAt m i).bind nums with
      | some bs => .ok (.int bs.sum) m
      | none => .bad)
    | _ => .bad)
  else if b = "int" then (match ds with
    | [.int i] => .ok (.int i) m
    | [.bl b] => .ok (.int (if b then 1 else 0)) m
    | _ => .bad)
  else if b = "dict" then (match ds with
    | [.ref i] => (match (listAt m i).bind fun xs => pairsOf m xs [] with
      | some kvs => if kvs.length ≤ lim then .ok (.ref m.length) (m ++ [.dct kvs]) else .bad
      | none => .bad)
    | _ => .bad)
  else .bad
/-- a method of a list -/
def mthL (r : Nat) (x : Str) (ds : List D) (m : Mem) : R D :=
  if x = "append" then (match ds, m[r]? with
    | [d], some (.lst xs) => if xs.length < lim then .ok .non (m.set r (.lst (xs ++ [d]))) else .bad
    | _, _ => .bad)
  else .bad
/-- a method of a dict -/
def mthK (r : Nat) (x : Str) (ds : List D) (m : Mem) : R D := .bad
/-! ### isinstance -/
def tagOf (m : Mem) : D → Option Ty
  | .non => some (.ty .non)
  | .bl _ => some (.ty .bool)
  | .int _ => some (.ty .int)
  | .str _ => some (.ty .str)
  | .tup _ => some (.ty .tuple)
  | .fn _ => none
  | .ref i => (match m[i]? with
    | some (.lst _) => some (.ty .list)
    | some (.frz _) => some (.ty .list)
    | some (.dct _) => some (.ty .dict)
    | some (.ins c _) => some (.own c)
    | _ => none)
def isOf : Ty → Ty → Bool
  | .ty a, .ty b => decide (a = b) || (decide (a = .bool) && decide (b = .int))
  | .own a, .own b => decide (a = b)
  | _, _ => false
def isTys (m : Mem) (d : D) (ts : List Ty) : Option Bool := (tagOf m d).map fun t => ts.any (isOf t)
/-- forms of one part: list(x.items()) .. -/
def itemsD (kvs : List (D × D)) : List D := kvs.map fun p => .tup [p.1, p.2]
def unD (k : Str) (x : D) (m : Mem) : R D := match x with
  | .ref i => (match dctAt m i with
    | some kvs => if k = "items" then newL (itemsD kvs) m else .bad
    | none => .bad)
  | _ => .bad
end Mp

set_option Elab.async false
set_option linter.all false
set_option maxRecDepth 100000
/-! The small interpreter: its turns. -/
namespace Mp
open PySem

/-- a def of the text: a global's name with none, a class's with a method's -/
abbrev Fn := Str × Option Str
abbrev Calls := Fn → List D → Mem → R D
/-- what does not change: the calls, the module's constants -/
structure Wd where
  call : Calls
  make : Calls
  glo : Str → Option D
  turns : Nat
  fld : Str → Str → Bool
  isC : Str → Bool
  has : Fn → Bool
  /-- within an except suite -/
  hot : Bool

def tyOk (isC : Str → Bool) : Ty → Bool
  | .ty _ => true
  | .own c => isC c
def hotB (b : Str) : Bool := decide (b = "len") || decide (b = "tuple") || decide (b = "list") || decide (b = "int")
def setTs (f : Tg → D → Env → Option Env) : List Tg → List D → Env → Option Env
  | [], [], ρ => some ρ
  | t :: ts, d :: ds, ρ => (f t d ρ).bind fun ρ' => setTs f ts ds ρ'
  | _, _, _ => none
def setT : Tg → D → Env → Option Env
  | .nm i, d, ρ => some (ρ.set i (some d))
  | .tu [.nm i], d, ρ => (match d with
    | .tup [x] => some (ρ.set i (some x))
    | _ => none)
  | .tu [.nm i, .nm j], d, ρ => (match d with
    | .tup [x, y] => some ((ρ.set i (some x)).set j (some y))
    | _ => none)
  | .tu [.nm i, .nm j, .nm k], d, ρ => (match d with
    | .tup [x, y, z] => some (((ρ.set i (some x)).set j (some y)).set k (some z))
    | _ => none)
  | .tu [.nm i, .tu [.nm j, .nm k]], d, ρ => (match d with
    | .tup [x, .tup [y, z]] => some (((ρ.set i (some x)).set j (some y)).set k (some z))
    | _ => none)
  | _, _, _ => none
def oneT : Tg → Bool
  | .nm _ => true
  | _ => false
def wipeE (ρ : Env) : List Nat → Env
  | [] => ρ
  | i :: r => (wipeE ρ r).set i none
abbrev Src := List (Nat × List D)
def still (m : Mem) : Src → Bool
  | [] => true
  | (r, ds) :: q => decide (listAt m r = some ds) && still m q
def srcOf : D → List D → Src
  | .ref r, ds => [(r, ds)]
  | _, _ => []
def loopC (src : Src) (body : D → Mem → R Unit) : List D → Mem → R Unit
  | [], m => if still m src then .ok () m else .bad
  | d :: r, m => if still m src then (body d m).bind fun _ m' => loopC src body r m' else .bad
def loopS (src : Src) (body : D → Env → Mem → SR) : List D → Env → Mem → SR
  | [], ρ, m => if still m src then .nx ρ m else .bad
  | d :: r, ρ, m => if still m src then (match body d ρ m with
    | .nx ρ' m' => loopS src body r ρ' m'
    | .ct ρ' m' => loopS src body r ρ' m'
    | .bk ρ' m' => .nx ρ' m'
    | o => o) else .bad
def loopW (test : Env → Mem → R Bool) (body : Env → Mem → SR) : Nat → Env → Mem → SR
  | 0, _, _ => .bad
  | n + 1, ρ, m => match test ρ m with
    | .ok true m1 => (match body ρ m1 with
      | .nx ρ' m' => loopW test body n ρ' m'
      | .ct ρ' m' => loopW test body n ρ' m'
      | .bk ρ' m' => .nx ρ' m'
      | o => o)
    | .ok false m1 => .nx ρ m1
    | .exc x m1 => .exc x ρ m1
    | .bad => .bad
def count : Nat → Int → List D
  | 0, _ => []
  | n + 1, i => .int i :: count n (i + 1)
def enum : Int → List D → List D
  | _, [] => []
  | i, d :: r => .tup [.int i, d] :: enum (i + 1) r
def zip2 : List D → List D → List D
  | a :: r, b :: q => .tup [a, b] :: zip2 r q
  | _, _ => []
def zip3 : List D → List D → List D → List D
  | a :: r, b :: q, c :: z => .tup [a, b, c] :: zip3 r q z
  | _, _, _ => []
def rngOk (i : Int) : Bool := decide (-4611686018427387904 ≤ i ∧ i < 4611686018427387904)
/-- an own thing's class -/
def ownAt (m : Mem) : D → Option Str
  | .ref i => (match m[i]? with
    | some (.ins c _) => some c
    | _ => none)
  | _ => none
/-- a bool from a method that tells one -/
def boolR (neg : Bool) (r : R D) : R Bool := r.calm.bind fun v m => match v with
  | .bl b => .ok (if neg then !b else b) m
  | _ => .bad
/-- the truth of a value: an own thing tells it by __bool__ -/
def truthE (W : Wd) (x : D) (m : Mem) : R Bool := match ownAt m x with
  | some c => if W.has (c, some "__bool__") then boolR false (W.make (c, some "__bool__") [x] m) else .bad
  | none => (match truth m x with
    | some b => .ok b m
    | none => .bad)
/-- the left side of and, or stands as the answer: its truth is the same when asked again -/
def keepT (W : Wd) (k : Bool) (m0 : Mem) (x : D) (m : Mem) : R D := match ownAt m0 x with
  | none => .ok x m
  | some _ => (match truthE W x m with
    | .ok k' m' => if k' = k ∧ m' = m then .ok x m else .bad
    | _ => .bad)
def truthR (W : Wd) (r : R D) : R Bool := r.bind fun d m => truthE W d m
def someR (o : Option D) (m : Mem) : R D := match o with
  | some d => .ok d m
  | none => .bad
def someB (o : Option Bool) (m : Mem) : R D := match o with
  | some b => .ok (.bl b) m
  | none => .bad
def cstD : Cst → D
  | .non => .non
  | .bl b => .bl b
  | .int i => .int i
  | .str x => .str x
def ownOp : Cop → Option Bool
  | .eq => some false
  | .ne => some true
  | _ => none
def blR (r : R Bool) : R D := r.bind fun b m => .ok (.bl b) m
/-- a comparison: an own thing on the left tells == by __eq__ -/
def cmpE (W : Wd) (op : Cop) (x y : D) (m : Mem) : R D := match ownOp op, ownAt m x with
  | some neg, some c => if W.has (c, some "__eq__") && (tagOf m y).isSome then blR (boolR neg (W.make (c, some "__eq__") [x, y] m)) else .bad
  | _, _ => someB (cmpD op x y m) m
/-- what o.m is -/
inductive Mt where
  | own (c : Str)
  | lst (i : Nat)
  | bad
def mthAt (W : Wd) (o : D) (x : Str) (m : Mem) : Mt := match o with
  | .ref i => (match m[i]? with
    | some (.ins c fs) => if W.has (c, some x) && decide (fget x fs = none) && decide (x ≠ "__init__") then .own c else .bad
    | some (.lst _) => if x = "append" then .lst i else .bad
    | _ => .bad)
  | _ => .bad
/-- pairs of a display, in order -/
def dctOf : List D → List (D × D) → Option (List (D × D))
  | [], acc => some acc
  | k :: v :: r, acc => (keyIn acc k).bind fun q => dctOf r (kvPut q k v acc)
  | _, _ => none
def appAt (L : Nat) (d : D) (m : Mem) : R Unit := match m[L]? with
  | some (.lst ds) => if ds.length < lim then .ok () (m.set L (.lst (ds ++ [d]))) else .bad
  | _ => .bad
def putAt (L : Nat) (k v : D) (m : Mem) : R Unit := match m[L]? with
  | some (.dct kvs) => (match keyIn kvs k with
    | some q => if kvs.length < lim then .ok () (m.set L (.dct (kvPut q k v kvs))) else .bad
    | none => .bad)
  | _ => .bad
def zipR (x y : D) (m : Mem) : R (List D × Src) := match x, y with
  | .tup xs, .tup ys => .ok (zip2 xs ys, []) m
  | .ref i, .ref j => (match listAt m i, listAt m j with
    | some xs, some ys => .ok (zip2 xs ys, [(i, xs), (j, ys)]) m
    | _, _ => .bad)
  | _, _ => .bad
mutual
def evE (W : Wd) : E → Env → Mem → R D
  | .var i, ρ, m => (match ρ[i]? with
    | some (some d) => .ok d m
    | _ => .bad)
  | .cst c, _, m => .ok (cstD c) m
  | .glo x, _, m => someR (W.glo x) m
  | .bin op a b, ρ, m => (evE W a ρ m).bind fun x m => (evE W b ρ m).bind fun y m => binD op x y m
  | .neg a, ρ, m => (evE W a ρ m).bind fun x m => (match x with
    | .int i => .ok (.int (-i)) m
    | _ => .bad)
  | .not a, ρ, m => (truthR W (evE W a ρ m)).bind fun b m => .ok (.bl (!b)) m
  | .and a b, ρ, m => (evE W a ρ m).bind fun x m => (truthE W x m).bind fun k m' => if k then evE W b ρ m' else keepT W false m x m'
  | .or a b, ρ, m => (evE W a ρ m).bind fun x m => (truthE W x m).bind fun k m' => if k then keepT W true m x m' else evE W b ρ m'
  | .cmp op a b, ρ, m => (evE W a ρ m).bind fun x m => (evE W b ρ m).bind fun y m => cmpE W op x y m
  | .chn op op' a b c, ρ, m => (evE W a ρ m).bind fun x m => (evE W b ρ m).bind fun y m => (match cmpD op x y m with
    | some true => (evE W c ρ m).bind fun z m => someB (cmpD op' y z m) m
    | some false => .ok (.bl false) m
    | none => .bad)
  | .ife c a b, ρ, m => (truthR W (evE W c ρ m)).bind fun k m => if k then evE W a ρ m else evE W b ρ m
  | .tup es, ρ, m => (evEs W es ρ m).bind fun ds m => tupR ds m
  | .lst es, ρ, m => (evEs W es ρ m).bind fun ds m => newL ds m
  | .dct kvs, ρ, m => (evEs W kvs ρ (m ++ [.dct []])).bind fun ds m' => (match m'[m.length]?, dctOf ds [] with
    | some (.dct []), some kvs => if ds.length ≤ 30 then .ok (.ref m.length) (m'.set m.length (.dct kvs)) else .bad
    | _, _ => .bad)
  | .idx a i, ρ, m => (evE W a ρ m).bind fun x m => (evE W i ρ m).bind fun y m => someR (idxD x y m) m
  | .slc a lo hi, ρ, m => (evE W a ρ m).bind fun x m => (evO W lo ρ m).bind fun l m => (evO W hi ρ m).bind fun h m => slcD x l h m
  | .att a f, ρ, m => (evE W a ρ m).bind fun x m => someR (attD x f m) m
  | .call f es, ρ, m => if !W.has (f, none) then .bad else (evEs W es ρ m).bind fun ds m => W.call (f, none) ds m
  | .mk c es, ρ, m => if !(W.isC c && W.has (c, some "__init__")) then .bad else (evEs W es ρ m).bind fun ds m => (W.make (c, some "__init__") (.ref m.length :: ds) (m ++ [.ins c []])).bind fun v m' => (match v with
    | .non => .ok (.ref m.length) m'
    | _ => .bad)
  | .mth o x es, ρ, m => (evE W o ρ m).bind fun v m => (match mthAt W v x m with
    | .own c => (evEs W es ρ m).bind fun ds m => W.call (c, some x) (v :: ds) m
    | .lst i => (evEs W es ρ m).bind fun ds m => mthL i x ds m
    | .bad => .bad)
  | .blt b es, ρ, m => if W.hot && !hotB b then .bad else (evEs W es ρ m).bind fun ds m => bltin b ds m
  | .isi a ts, ρ, m => if !ts.all (tyOk W.isC) then .bad else (evE W a ρ m).bind fun x m => someB (isTys m x ts) m
  | .un k a, ρ, m => if W.hot then .bad else (evE W a ρ m).bind fun x m => unD k x m
  | .lc elt gs, ρ, m => if W.hot then .bad else (match gs with
    | .one own t it ifs => (evI W it ρ m).bind fun p m1 =>
        (loopC p.2 (fun d m => match setT t d (wipeE ρ own) with
          | some ρ' => (evTs W ifs ρ' m).bind fun b m => if b then (evE W elt ρ' m).bind fun d m => appAt m1.length d m else .ok () m
          | none => .bad) p.1 (m1 ++ [.lst []])).calm.bind fun _ m2 => .ok (.ref m1.length) m2
    | .more own t it ifs r => (evI W it ρ m).bind fun p m1 =>
        (loopC p.2 (fun d m => match setT t d (wipeE ρ own) with
          | some ρ' => (evTs W ifs ρ' m).bind fun b m => if b then evG W r ρ' (fun ρ'' m => (evE W elt ρ'' m).bind fun d m => appAt m1.length d m) m else .ok () m
          | none => .bad) p.1 (m1 ++ [.lst []])).calm.bind fun _ m2 => .ok (.ref m1.length) m2)
  | .dc k v gs, ρ, m => if W.hot then .bad else (match gs with
    | .one own t it ifs => (evI W it ρ m).bind fun p m1 =>
        (loopC p.2 (fun d m => match setT t d (wipeE ρ own) with
          | some ρ' => (evTs W ifs ρ' m).bind fun b m => if b then (evE W k ρ' m).bind fun x m => (evE W v ρ' m).bind fun y m => putAt m1.length x y m else .ok () m
          | none => .bad) p.1 (m1 ++ [.dct []])).calm.bind fun _ m2 => .ok (.ref m1.length) m2
    | .more own t it ifs r => (evI W it ρ m).bind fun p m1 =>
        (loopC p.2 (fun d m => match setT t d (wipeE ρ own) with
          | some ρ' => (evTs W ifs ρ' m).bind fun b m => if b then evG W r ρ' (fun ρ'' m => (evE W k ρ'' m).bind fun x m => (evE W v ρ'' m).bind fun y m => putAt m1.length x y m) m else .ok () m
          | none => .bad) p.1 (m1 ++ [.dct []])).calm.bind fun _ m2 => .ok (.ref m1.length) m2)
def evEs (W : Wd) : Es → Env → Mem → R (List D)
  | .nil, _, m => .ok [] m
  | .cons star e r, ρ, m => (evE W e ρ m).bind fun x m => if star then
      (match seqOf m x with
        | some xs => (evEs W r ρ m).bind fun ds m => .ok (xs ++ ds) m
        | none => .bad)
      else (evEs W r ρ m).bind fun ds m => .ok (x :: ds) m
/-- all tests hold -/
def evTs (W : Wd) : Es → Env → Mem → R Bool
  | .nil, _, m => .ok true m
  | .cons _ e r, ρ, m => (truthR W (evE W e ρ m)).bind fun b m => if b then evTs W r ρ m else .ok false m
def evO (W : Wd) : Oe → Env → Mem → R (Option Int)
  | .none, _, m => .ok none m
  | .some e, ρ, m => (evE W e ρ m).bind fun x m => (match x with
    | .int i => .ok (some i) m
    | _ => .bad)
def evI (W : Wd) : Ie → Env → Mem → R (List D × Src)
  | .seq e, ρ, m => (evE W e ρ m).bind fun x m => (match seqOf m x with
    | some ds => .ok (ds, srcOf x ds) m
    | none => .bad)
  | .rng1 a, ρ, m => (evE W a ρ m).bind fun x m => (match x with
    | .int i => if rngOk i then .ok (count i.toNat 0, []) m else .bad
    | _ => .bad)
  | .rng2 a b, ρ, m => (evE W a ρ m).bind fun x m => (evE W b ρ m).bind fun y m => (match x, y with
    | .int i, .int j => if rngOk i && rngOk j then .ok (count (j - i).toNat i, []) m else .bad
    | _, _ => .bad)
  | .enum a, ρ, m => (evE W a ρ m).bind fun x m => (match seqOf m x with
    | some ds => .ok (enum 0 ds, srcOf x ds) m
    | none => .bad)
  | .zip a b, ρ, m => (evE W a ρ m).bind fun x m => (evE W b ρ m).bind fun y m => zipR x y m
  | .zip3 _ _ _, _, _ => .bad
  | .items _, _, _ => .bad
  | .values _, _, _ => .bad
def evG (W : Wd) : Gs → Env → (Env → Mem → R Unit) → Mem → R Unit
  | .one own t it ifs, ρ, emit, m => (evI W it ρ m).bind fun p m1 =>
      loopC p.2 (fun d m => match setT t d (wipeE ρ own) with
        | some ρ' => (evTs W ifs ρ' m).bind fun b m => if b then emit ρ' m else .ok () m
        | none => .bad) p.1 m1
  | .more own t it ifs r, ρ, emit, m => (evI W it ρ m).bind fun p m1 =>
      loopC p.2 (fun d m => match setT t d (wipeE ρ own) with
        | some ρ' => (evTs W ifs ρ' m).bind fun b m => if b then evG W r ρ' emit m else .ok () m
        | none => .bad) p.1 m1
end
/-- an expression's end as a statement's -/
def thenS (r : R D) (ρ : Env) (k : D → Mem → SR) : SR := match r with
  | .ok d m => k d m
  | .exc x m => .exc x ρ m
  | .bad => .bad
def optS (o : Option Mem) (ρ : Env) : SR := match o with
  | some m => .nx ρ m
  | none => .bad
def seqS (r : SR) (k : Env → Mem → SR) : SR := match r with
  | .nx ρ m => k ρ m
  | o => o
/-- x op= y -/
def augD (op : Bop) (x y : D) (m : Mem) : R D := match x, y with
  | .int i, .int j => (match op with
    | .add => .ok (.int (i + j)) m
    | .sub => .ok (.int (i - j)) m
    | .mul => if big i || big j then .ok (.int (i * j)) m else .bad
    | _ => .bad)
  | .str a, .str b => (match op with
    | .add => if a.length + b.length ≤ lim then .ok (.str (a ++ b)) m else .bad
    | _ => .bad)
  | .ref i, .ref j => (match op with
    | .add => (match m[i]?, m[j]? with
      | some (.lst xs), some (.lst ys) => if xs.length + ys.length ≤ lim then .ok (.ref i) (m.set i (.lst (xs ++ ys))) else .bad
      | _, _ => .bad)
    | _ => .bad)
  | _, _ => .bad
def clsD (x : D) (m : Mem) : Option Str := match x with
  | .ref i => (match m[i]? with
    | some (.ins c _) => some c
    | _ => none)
  | _ => none
/-- x[k], k no less than 0 -/
def getD (x k : D) (m : Mem) : Option D := match x, k with
  | .ref r, .int j => (match m[r]? with
    | some (.lst ds) => if 0 ≤ j then ds[j.toNat]? else none
    | _ => none)
  | _, _ => none
/-- behind an except suite -/
def kill (m : Mem) : Mem := m.map fun o => match o with
  | .exo _ _ => .dead
  | o => o
def offE (nm : Option Nat) (ρ : Env) : Env := match nm with
  | none => ρ
  | some i => ρ.set i none
def coldS (nm : Option Nat) : SR → SR
  | .nx ρ m => .nx (offE nm ρ) (kill m)
  | .bk ρ m => .bk (offE nm ρ) (kill m)
  | .ct ρ m => .ct (offE nm ρ) (kill m)
  | .rt d m => .rt d (kill m)
  | .exc _ _ _ => .bad
  | .bad => .bad
def hotW (W : Wd) : Wd := { W with call := fun _ _ _ => .bad, make := fun _ _ _ => .bad, has := fun _ => false, hot := true }
mutual
def evS (W : Wd) (exf : Str → Option Str) (sub : Str → Str → Bool) : S → Env → Mem → SR
  | .set t e, ρ, m => if W.hot && !oneT t then .bad else thenS (evE W e ρ m) ρ fun d m => (match setT t d ρ with
    | some ρ' => .nx ρ' m
    | none => .bad)
  | .setF o f e, ρ, m => thenS (evE W e ρ m) ρ fun d m => thenS (evE W o ρ m) ρ fun x m => optS (setF W.fld x f d m) ρ
  | .setI o i e, ρ, m => thenS (evE W e ρ m) ρ fun d m => thenS (evE W o ρ m) ρ fun x m => thenS (evE W i ρ m) ρ fun y m => optS (setI x y d m) ρ
  | .aug op i e, ρ, m => (match ρ[i]? with
    | some (some x) => thenS (evE W e ρ m) ρ fun y m => thenS (augD op x y m) ρ fun z m => .nx (ρ.set i (some z)) m
    | _ => .bad)
  | .augF op o f e, ρ, m => if W.hot then .bad else thenS (evE W o ρ m) ρ fun x m1 => thenS (someR (attD x f m1) m1) ρ fun v m => thenS (evE W e ρ m) ρ fun y m => thenS (augD op v y m) ρ fun z m => if clsD x m = clsD x m1 then optS (setF W.fld x f z m) ρ else .bad
  | .augI op o i e, ρ, m => thenS (evE W o ρ m) ρ fun x m => thenS (evE W i ρ m) ρ fun k m => thenS (someR (getD x k m) m) ρ fun v m => thenS (evE W e ρ m) ρ fun y m => thenS (augD op v y m) ρ fun z m => optS (setI x k z m) ρ
  | .expr e, ρ, m => thenS (evE W e ρ m) ρ fun _ m => .nx ρ m
  | .ret e, ρ, m => thenS (evE W e ρ m) ρ fun d m => .rt d m
  | .retN, _, m => .rt .non m
  | .ifs c a b, ρ, m => (match truthR W (evE W c ρ m) with
    | .ok true m => evSs W exf sub a ρ m
    | .ok false m => evSs W exf sub b ρ m
    | .exc x m => .exc x ρ m
    | .bad => .bad)
  | .whl c b, ρ, m => if W.hot then .bad else loopW (fun ρ m => truthR W (evE W c ρ m)) (fun ρ m => evSs W exf sub b ρ m) W.turns ρ m
  | .for_ t it b, ρ, m => if W.hot then .bad else (match evI W it ρ m with
    | .ok p m => loopS p.2 (fun d ρ m => match setT t d ρ with
      | some ρ' => evSs W exf sub b ρ' m
      | none => .bad) p.1 ρ m
    | .exc x m => .exc x ρ m
    | .bad => .bad)
  | .raise c e, ρ, m => if W.hot then .bad else (match exf c with
    | some f => thenS (evE W e ρ m) ρ fun d m => .exc ⟨c, [(f, d)]⟩ ρ m
    | none => .bad)
  | .try_ b hs, ρ, m => if W.hot then .bad else (match evSs W exf sub b ρ m with
    | .exc x ρ' m' => evHs W exf sub hs x ρ' m'
    | o => o)
  | .pass, ρ, m => .nx ρ m
  | .brk, ρ, m => .bk ρ m
  | .cont, ρ, m => .ct ρ m
def evSs (W : Wd) (exf : Str → Option Str) (sub : Str → Str → Bool) : Ss → Env → Mem → SR
  | .nil, ρ, m => .nx ρ m
  | .cons s r, ρ, m => seqS (evS W exf sub s ρ m) fun ρ m => evSs W exf sub r ρ m
def evHs (W : Wd) (exf : Str → Option Str) (sub : Str → Str → Bool) : Hs → Xn → Env → Mem → SR
  | .nil, x, ρ, m => .exc x ρ m
  | .cons cs nm b r, x, ρ, m => (match exf x.cls with
    | none => .bad
    | some f => if x.fs.map (·.1) = [f] then (if cs.any (sub x.cls) then (match nm with
      | none => coldS none (evSs (hotW W) exf sub b ρ m)
      | some i => coldS (some i) (evSs (hotW W) exf sub b (ρ.set i (some (.ref m.length))) (m ++ [.exo x.cls x.fs])))
      else evHs W exf sub r x ρ m) else .bad)
end
/-- a def: how many parameters, how many names, its body -/
structure Df where
  pars : Nat
  slots : Nat
  body : Ss
structure Tab where
  df : Fn → Option Df
  glo : Str → Option D
  exf : Str → Option Str
  sub : Str → Str → Bool
  /-- classes of errors -/
  exk : Str → Option Unit
  fld : Str → Str → Bool
  /-- own classes of things -/
  isC : Str → Bool
  turns : Nat
def startE (n : Nat) (ds : List D) : Env := ds.map some ++ List.replicate (n - ds.length) none
def finR (m0 : Mem) : SR → R D
  | .nx _ m => gc m0 .non m
  | .rt v m => gc m0 v m
  | .exc x _ m => gcX m0 x m
  | _ => .bad
def pairW (T : Tab) (b : Bool) (c k : Calls) : Wd := ⟨c, k, T.glo, T.turns, T.fld, T.isC, fun g => b && (T.df g).isSome, false⟩
/-- calls so deep at most -/
def callD (T : Tab) : Nat → Calls
  | 0, _, _, _ => .bad
  | 1, f, ds, m => match T.df f with
    | none => .bad
    | some d => if ds.length = d.pars then finR m (evSs (pairW T false (fun _ _ _ => .bad) fun _ _ _ => .bad) T.exf T.sub d.body (startE d.slots ds) m) else .bad
  | n + 2, f, ds, m => match T.df f with
    | none => .bad
    | some d => if ds.length = d.pars then finR m (evSs (pairW T true (callD T (n + 1)) (callD T n)) T.exf T.sub d.body (startE d.slots ds) m) else .bad
def wd (T : Tab) : Nat → Wd
  | 0 => pairW T false (fun _ _ _ => .bad) fun _ _ _ => .bad
  | n + 1 => pairW T true (callD T (n + 1)) (callD T n)
theorem callD_succ (T : Tab) (n : Nat) (f : Fn) (ds : List D) (m : Mem) : callD T (n + 1) f ds m = match T.df f with
    | none => .bad
    | some d => if ds.length = d.pars then finR m (evSs (wd T n) T.exf T.sub d.body (startE d.slots ds) m) else .bad := by
  cases n <;> rfl
end Mp

set_option Elab.async false
set_option linter.all false
set_option maxRecDepth 100000
set_option maxHeartbeats 1000000
/-! The small interpreter beside the layer: what its values and memory tell of the heap. -/
namespace Mp
open PySem PySem.Spec PyProof.Rows L2

/-- what the text's top has written: the classes' places, the exceptions' -/
structure ClsF (K : PySem.W.Frag) (C : Addr) : Prop where
  cls : Cls K C
  ha : PySem.W.findIn K (.ref C) "__class__" = some (some (.builtin "object.__class__"))
  hn : PySem.W.specialIn K (.builtin "object.__class__") "__get__" = some (some (.builtin "getset_descriptor.__get__"))
  htk : PySem.W.takesIn K (.builtin "object.__class__") = some true
  hm : PySem.W.mroIn K C (.type "object") = some true
  ne : PySem.W.findIn K (.ref C) "__ne__" = some (some (.builtin "object.__ne__"))
structure Sg where
  K : PySem.W.Frag
  ca : Str → Option Addr
  isC : Str → Bool
  /-- the exception that is being handled: its place, its dict's, what it holds -/
  ex : Option (Addr × Addr × List Str)

section
variable (K : PySem.W.Frag) (f : List Addr) (H : Hp)
mutual
def RV : D → V → Prop
  | .non, v => v = .non
  | .bl b, v => v = .bl b
  | .int i, v => v = .int i
  | .str x, v => v = .str x
  | .ref i, v => ∃ a, f[i]? = some a ∧ v = .ref a
  | .fn _, _ => False
  | .tup ds, v => ∃ a xs, v = .ref a ∧ SqT K H a xs ∧ RVs ds xs
def RVs : List D → List V → Prop
  | [], xs => xs = []
  | d :: r, xs => ∃ v q, xs = v :: q ∧ RV d v ∧ RVs r q
end
def RF : List (Str × D) → List (Str × V) → Prop
  | [], xs => xs = []
  | (x, d) :: r, xs => ∃ v q, xs = (x, v) :: q ∧ RV K f H d v ∧ RF r q
/-- a dict with ints and texts for keys -/
def RK : List (D × D) → List (Key × V) → Prop
  | [], xs => xs = []
  | (k, d) :: r, xs => ∃ q v z, xs = (q, v) :: z ∧ RV K f H k (kV q) ∧ RV K f H d v ∧ RK r z
end
/-- a list that nobody changes -/
def SqZ (K : PySem.W.Frag) (H : Hp) (a : Addr) (xs : List V) : Prop :=
  (∃ o, H a = some (.frz o (.lst xs))) ∨
    ∃ (o : Obj) (its : Array Value) (n : Nat), K.lookup a = some o ∧ o.cls = .type "list" ∧ o.dict = none ∧ o.data = .seq its n ∧ its.size ≤ sizeLine ∧ Vals xs its.toList
theorem SqZ.sqL {K : PySem.W.Frag} {H : Hp} {a : Addr} {xs : List V} (h : SqZ K H a xs) : SqL K H a xs := by
  rcases h with ⟨o, e⟩ | h
  · exact .inl (.inr ⟨o, e⟩)
  · exact .inr h
def RO (S : Sg) (f : List Addr) (H : Hp) : O → Addr → Prop
  | .lst ds, a => ∃ xs, H a = some (.lst xs) ∧ RVs S.K f H ds xs
  | .frz ds, a => ∃ xs, SqZ S.K H a xs ∧ RVs S.K f H ds xs
  | .dct kvs, a => ∃ xs, H a = some (.dK xs) ∧ RK S.K f H kvs xs ∧ (xs.map (·.1)).Nodup
  | .fdct _, _ => False
  | .ins c fs, a => ∃ C dx xs, S.ca c = some C ∧ H a = some (.ins C dx xs) ∧ RF S.K f H fs xs ∧ ClsF S.K C ∧ (∀ x ∈ fs.map (·.1), NoAttr S.K C x) ∧ S.isC c = true
  | .exo _ fs, a => ∃ d ns xs, S.ex = some (a, d, ns) ∧ H d = some (.xd xs) ∧ RF S.K f H fs xs ∧ ∀ x ∈ fs.map (·.1), x ∈ ns
  | .dead, _ => True
/-- what can be changed -/
def own : O → Bool
  | .frz _ => false
  | .exo _ _ => false
  | .dead => false
  | _ => true
structure RM (S : Sg) (f : List Addr) (H : Hp) (M : Mem) : Prop where
  nd : ∀ (i j : Nat) (a : Addr) (o o' : O), M[i]? = some o → M[j]? = some o' → own o = true → own o' = true → f[i]? = some a → f[j]? = some a → i = j
  len : f.length = M.length
  at_ : ∀ (i : Nat) (o : O), M[i]? = some o → ∃ a, f[i]? = some a ∧ RO S f H o a
def RE (K : PySem.W.Frag) (f : List Addr) (H : Hp) (ρ : Env) (σ : L2.St) : Prop :=
  ρ.length = σ.length ∧ ∀ (i : Nat) (d : D), ρ[i]? = some (some d) → ∃ v, σ[i]? = some (some v) ∧ RV K f H d v
structure Pres (H H' : Hp) : Prop where
  tups : ∀ a xs, H a = some (.tup xs) → H' a = some (.tup xs)
  frzs : ∀ a o u, H a = some (.frz o u) → H' a = some (.frz o u)
theorem Pres.refl {H : Hp} : Pres H H := ⟨fun _ _ h => h, fun _ _ _ h => h⟩
theorem Pres.trans {H H1 H2 : Hp} (a : Pres H H1) (b : Pres H1 H2) : Pres H H2 := ⟨fun x xs h => b.tups x xs (a.tups x xs h), fun x o u h => b.frzs x o u (a.frzs x o u h)⟩
theorem Pres.new {H : Hp} {p : Addr} {o : HO} (n : H p = none) : Pres H (upd H p o) := ⟨fun a xs h => by rw [upd_ne (ne_of_none h n)]; exact h, fun a ob u h => by rw [upd_ne (ne_of_none h n)]; exact h⟩
theorem Pres.put {H : Hp} {p : Addr} {o u : HO} (n : H p = some u) (ht : ∀ xs, u ≠ .tup xs) (hf : ∀ ob v, u ≠ .frz ob v) : Pres H (upd H p o) :=
  ⟨fun a xs h => by rw [upd_ne (ne_of h n (fun e => ht xs e.symm))]; exact h, fun a ob v h => by rw [upd_ne (ne_of h n (fun e => hf ob v e.symm))]; exact h⟩
theorem Pres.rdT {H H' : Hp} (p : Pres H H') {a : Addr} {xs : List V} (h : Rd H a (.tup xs)) : Rd H' a (.tup xs) := by
  rcases h with h | ⟨o, h⟩
  · exact .inl (p.tups a xs h)
  · exact .inr ⟨o, p.frzs a o _ h⟩
theorem Pres.sqT {K : PySem.W.Frag} {H H' : Hp} (p : Pres H H') {a : Addr} {xs : List V} (h : SqT K H a xs) : SqT K H' a xs := by
  rcases h with h | h
  · exact .inl (p.rdT h)
  · exact .inr h

section
variable {K : PySem.W.Frag} {f f' : List Addr} {H H' : Hp}
theorem pre_get {f f' : List Addr} (h : f <+: f') {i : Nat} {a : Addr} (e : f[i]? = some a) : f'[i]? = some a := by
  obtain ⟨q, rfl⟩ := h
  have := (List.getElem?_eq_some_iff.mp e).1
  rw [List.getElem?_append_left this]
  exact e
mutual
theorem RV.mono (hf : f <+: f') (p : Pres H H') : ∀ (d : D) (v : V), RV K f H d v → RV K f' H' d v
  | .non, _, h => h
  | .bl _, _, h => h
  | .int _, _, h => h
  | .str _, _, h => h
  | .fn _, _, h => h
  | .ref i, _, h => by
    obtain ⟨a, e, r⟩ := h
    exact ⟨a, pre_get hf e, r⟩
  | .tup ds, _, h => by
    obtain ⟨a, xs, e, q, r⟩ := h
    exact ⟨a, xs, e, p.sqT q, RVs.mono hf p ds xs r⟩
theorem RVs.mono (hf : f <+: f') (p : Pres H H') : ∀ (ds : List D) (xs : List V), RVs K f H ds xs → RVs K f' H' ds xs
  | [], _, h => h
  | d :: r, _, h => by
    obtain ⟨v, q, e, h1, h2⟩ := h
    exact ⟨v, q, e, RV.mono hf p d v h1, RVs.mono hf p r q h2⟩
end
theorem RF.mono (hf : f <+: f') (p : Pres H H') : ∀ (ds : List (Str × D)) (xs : List (Str × V)), RF K f H ds xs → RF K f' H' ds xs
  | [], _, h => h
  | (x, d) :: r, _, h => by
    obtain ⟨v, q, e, h1, h2⟩ := h
    exact ⟨v, q, e, RV.mono hf p d v h1, RF.mono hf p r q h2⟩
theorem RK.mono (hf : f <+: f') (p : Pres H H') : ∀ (ds : List (D × D)) (xs : List (Key × V)), RK K f H ds xs → RK K f' H' ds xs
  | [], _, h => h
  | (k, d) :: r, _, h => by
    obtain ⟨q, v, z, e, h0, h1, h2⟩ := h
    exact ⟨q, v, z, e, RV.mono hf p k _ h0, RV.mono hf p d v h1, RK.mono hf p r z h2⟩
theorem RE.mono {ρ : Env} {σ : L2.St} (hf : f <+: f') (p : Pres H H') (h : RE K f H ρ σ) : RE K f' H' ρ σ :=
  ⟨h.1, fun i d e => let ⟨v, e2, r⟩ := h.2 i d e; ⟨v, e2, RV.mono hf p d v r⟩⟩
theorem RVs.length : ∀ {ds : List D} {xs : List V}, RVs K f H ds xs → ds.length = xs.length
  | [], _, h => by cases h; rfl
  | d :: r, _, h => by
    obtain ⟨v, q, rfl, h1, h2⟩ := h
    rw [List.length_cons, List.length_cons, RVs.length h2]
theorem RVs.append : ∀ {ds es : List D} {xs ys : List V}, RVs K f H ds xs → RVs K f H es ys → RVs K f H (ds ++ es) (xs ++ ys)
  | [], _, _, _, h, h' => by cases h; exact h'
  | d :: r, _, _, _, h, h' => by
    obtain ⟨v, q, rfl, h1, h2⟩ := h
    exact ⟨v, q ++ _, rfl, h1, RVs.append h2 h'⟩
theorem RVs.get : ∀ {ds : List D} {xs : List V} {i : Nat} {d : D}, RVs K f H ds xs → ds[i]? = some d → ∃ v, xs[i]? = some v ∧ RV K f H d v
  | [], _, _, _, _, e => by simp at e
  | d :: r, _, 0, d', h, e => by
    obtain ⟨v, q, rfl, h1, h2⟩ := h
    simp at e; subst e
    exact ⟨v, rfl, h1⟩
  | d :: r, _, i + 1, d', h, e => by
    obtain ⟨v, q, rfl, h1, h2⟩ := h
    obtain ⟨u, e2, r2⟩ := RVs.get (i := i) h2 (by simpa using e)
    exact ⟨u, by simpa using e2, r2⟩
theorem RVs.take : ∀ {ds : List D} {xs : List V} (n : Nat), RVs K f H ds xs → RVs K f H (ds.take n) (xs.take n)
  | _, _, 0, _ => by simp [RVs]
  | [], _, n + 1, h => by cases h; rfl
  | d :: r, _, n + 1, h => by
    obtain ⟨v, q, rfl, h1, h2⟩ := h
    exact ⟨v, q.take n, rfl, h1, RVs.take n h2⟩
theorem RVs.drop : ∀ {ds : List D} {xs : List V} (n : Nat), RVs K f H ds xs → RVs K f H (ds.drop n) (xs.drop n)
  | _, _, 0, h => h
  | [], _, n + 1, h => by cases h; rfl
  | d :: r, _, n + 1, h => by
    obtain ⟨v, q, rfl, h1, h2⟩ := h
    exact RVs.drop n h2
theorem RVs.set {d : D} {v : V} (r : RV K f H d v) : ∀ {ds : List D} {xs : List V} (i : Nat), RVs K f H ds xs → RVs K f H (ds.set i d) (xs.set i v)
  | [], _, _, h => by cases h; rfl
  | _ :: q, _, 0, h => by
    obtain ⟨u, z, rfl, h1, h2⟩ := h
    exact ⟨v, z, rfl, r, h2⟩
  | _ :: q, _, i + 1, h => by
    obtain ⟨u, z, rfl, h1, h2⟩ := h
    exact ⟨u, z.set i v, rfl, h1, RVs.set r i h2⟩
theorem RVs.one {d : D} {v : V} (r : RV K f H d v) : RVs K f H [d] [v] := ⟨v, [], rfl, r, rfl⟩
theorem RVs.inj1 {d : D} {xs : List V} (h : RVs K f H [d] xs) : ∃ v, xs = [v] ∧ RV K f H d v := by
  obtain ⟨v, q, rfl, h1, h2⟩ := h
  cases h2
  exact ⟨v, rfl, h1⟩
theorem RE.set {ρ : Env} {σ : L2.St} {i : Nat} {d : D} {v : V} (h : RE K f H ρ σ) (r : RV K f H d v) : RE K f H (ρ.set i (some d)) (σ.set i (some v)) := by
  refine ⟨by rw [List.length_set, List.length_set]; exact h.1, fun j e q => ?_⟩
  by_cases hj : i = j
  · subst hj
    by_cases hl : i < ρ.length
    · rw [List.getElem?_set_self hl] at q
      cases q
      exact ⟨v, by rw [List.getElem?_set_self (by rw [← h.1]; exact hl)], r⟩
    · rw [List.getElem?_eq_none (by rw [List.length_set]; omega)] at q
      cases q
  · rw [List.getElem?_set_ne hj] at q
    obtain ⟨u, e2, r2⟩ := h.2 j e q
    exact ⟨u, by rw [List.getElem?_set_ne hj]; exact e2, r2⟩
theorem RE.none_ {ρ : Env} {σ : L2.St} {i : Nat} (h : RE K f H ρ σ) : RE K f H (ρ.set i none) (σ.set i none) := by
  refine ⟨by rw [List.length_set, List.length_set]; exact h.1, fun j e q => ?_⟩
  by_cases hj : i = j
  · subst hj
    by_cases hl : i < ρ.length
    · rw [List.getElem?_set_self hl] at q
      cases q
    · rw [List.getElem?_eq_none (by rw [List.length_set]; omega)] at q
      cases q
  · rw [List.getElem?_set_ne hj] at q
    obtain ⟨u, e2, r2⟩ := h.2 j e q
    exact ⟨u, by rw [List.getElem?_set_ne hj]; exact e2, r2⟩
theorem RE.wipe {ρ : Env} {σ : L2.St} (h : RE K f H ρ σ) : ∀ l : List Nat, RE K f H (wipeE ρ l) (L2.wipe σ l)
  | [] => h
  | i :: r => by
    have ih := RE.wipe h r
    unfold wipeE L2.wipe
    exact ih.none_
end
section
variable {S : Sg} {f f' : List Addr} {H H' : Hp} {M : Mem}
/-- all old things stay as they are -/
theorem RO.mono {o : O} {a : Addr} (hf : f <+: f') (p : Pres H H') (hk : own o = true → ∀ u, H a = some u → H' a = some u) (hx : ∀ b xs, H b = some (.xd xs) → H' b = some (.xd xs)) (h : RO S f H o a) : RO S f' H' o a := by
  cases o with
  | lst ds =>
    obtain ⟨xs, e, r⟩ := h
    exact ⟨xs, hk rfl _ e, RVs.mono hf p _ _ r⟩
  | frz ds =>
    obtain ⟨xs, e, r⟩ := h
    refine ⟨xs, ?_, RVs.mono hf p _ _ r⟩
    rcases e with ⟨o, e⟩ | e
    · exact .inl ⟨o, p.frzs _ _ _ e⟩
    · exact .inr e
  | dct kvs =>
    obtain ⟨xs, e, r, n⟩ := h
    exact ⟨xs, hk rfl _ e, RK.mono hf p _ _ r, n⟩
  | fdct kvs => exact h
  | ins c fs =>
    obtain ⟨C, dx, xs, e, q, r, z⟩ := h
    exact ⟨C, dx, xs, e, hk rfl _ q, RF.mono hf p _ _ r, z⟩
  | exo c fs =>
    obtain ⟨d, ns, xs, e, q, r, z⟩ := h
    exact ⟨d, ns, xs, e, hx _ _ q, RF.mono hf p _ _ r, z⟩
  | dead => trivial
/-- what can be changed is tracked -/
theorem RO.tracked {o : O} {a : Addr} (h : RO S f H o a) (w : own o = true) : ∃ u, H a = some u ∧ (∀ xs, u ≠ .tup xs) ∧ (∀ ob v, u ≠ .frz ob v) ∧ (∀ xs, u ≠ .xd xs) := by
  cases o with
  | lst ds => obtain ⟨xs, e, r⟩ := h; exact ⟨_, e, (fun _ z => by cases z), (fun _ _ z => by cases z), (fun _ z => by cases z)⟩
  | frz ds => cases w
  | dct kvs => obtain ⟨xs, e, r⟩ := h; exact ⟨_, e, (fun _ z => by cases z), (fun _ _ z => by cases z), (fun _ z => by cases z)⟩
  | fdct kvs => exact h.elim
  | ins c fs => obtain ⟨C, dx, xs, e, q, r⟩ := h; exact ⟨_, q, (fun _ z => by cases z), (fun _ _ z => by cases z), (fun _ z => by cases z)⟩
  | exo c fs => cases w
  | dead => cases w
theorem get_snoc {α : Type} {l : List α} {x y : α} {i : Nat} (e : (l ++ [x])[i]? = some y) : l[i]? = some y ∨ (i = l.length ∧ y = x) := by
  rcases Nat.lt_trichotomy i l.length with h | h | h
  · rw [List.getElem?_append_left h] at e; exact .inl e
  · subst h; simp at e; exact .inr ⟨rfl, e.symm⟩
  · rw [List.getElem?_eq_none (by rw [List.length_append]; simp; omega)] at e; cases e
/-- the heap changed elsewhere -/
theorem RM.heap (h : RM S f H M) (p : Pres H H') (hk : ∀ (i : Nat) (o : O) (a : Addr), M[i]? = some o → f[i]? = some a → own o = true → ∀ u, H a = some u → H' a = some u) (hx : ∀ b xs, H b = some (.xd xs) → H' b = some (.xd xs)) : RM S f H' M :=
  ⟨h.nd, h.len, fun i o e => let ⟨a, e2, r⟩ := h.at_ i o e; ⟨a, e2, r.mono (List.prefix_refl _) p (hk i o a e e2) hx⟩⟩
/-- a new thing that is not told -/
theorem RM.newH (h : RM S f H M) {p : Addr} {o : HO} (n : H p = none) : RM S f (upd H p o) M :=
  h.heap (Pres.new n) (fun i o' a _ _ _ u q => by rw [upd_ne (ne_of_none q n)]; exact q) fun b xs q => by rw [upd_ne (ne_of_none q n)]; exact q
/-- a new thing, told -/
theorem RM.newM (h : RM S f H M) {p : Addr} {u : HO} {o : O} (n : H p = none) (r : RO S (f ++ [p]) (upd H p u) o p) : RM S (f ++ [p]) (upd H p u) (M ++ [o]) := by
  have hp := Pres.new (o := u) n
  have old : ∀ (i : Nat) (o' : O), M[i]? = some o' → own o' = true → f[i]? ≠ some p := fun i o' e w z => by
    obtain ⟨a, e2, r2⟩ := h.at_ i o' e
    obtain ⟨v, e3, _⟩ := r2.tracked w
    rw [z] at e2; cases e2
    rw [n] at e3; cases e3
  have hl := h.len
  refine ⟨fun i j a o1 o2 e1 e2 w1 w2 f1 f2 => ?_, by simp [h.len], fun i o' e => ?_⟩
  · have fl : ∀ {i : Nat} {o' : O}, M[i]? = some o' → (f ++ [p])[i]? = f[i]? := fun {i o'} e => List.getElem?_append_left (by rw [hl]; exact (List.getElem?_eq_some_iff.mp e).1)
    rcases get_snoc e1 with e1 | ⟨e1, _⟩
    · rcases get_snoc e2 with e2 | ⟨e2, _⟩
      · rw [fl e1] at f1
        rw [fl e2] at f2
        exact h.nd i j a o1 o2 e1 e2 w1 w2 f1 f2
      · subst e2
        rw [fl e1] at f1
        rw [← hl] at f2
        simp at f2
        subst f2
        exact absurd f1 (old i o1 e1 w1)
    · subst e1
      rcases get_snoc e2 with e2 | ⟨e2, _⟩
      · rw [fl e2] at f2
        rw [← hl] at f1
        simp at f1
        subst f1
        exact absurd f2 (old j o2 e2 w2)
      · exact e2.symm
  · rcases get_snoc e with e | ⟨e1, e2⟩
    · obtain ⟨a, e2, r2⟩ := h.at_ i o' e
      exact ⟨a, pre_get (List.prefix_append _ _) e2, r2.mono (List.prefix_append _ _) hp (fun _ v q => by rw [upd_ne (ne_of_none q n)]; exact q) fun b xs q => by rw [upd_ne (ne_of_none q n)]; exact q⟩
    · subst e1 e2
      exact ⟨p, by rw [← hl]; simp, r⟩
/-- a thing changed -/
theorem RM.put (h : RM S f H M) {i : Nat} {a : Addr} {o o' : O} {u : HO} (e : M[i]? = some o) (w : own o = true) (ea : f[i]? = some a) (w' : own o' = true) (r : RO S f (upd H a u) o' a) :
    RM S f (upd H a u) (M.set i o') ∧ Pres H (upd H a u) := by
  obtain ⟨a', ea', ro⟩ := h.at_ i o e
  rw [ea] at ea'; cases ea'
  obtain ⟨v, ev, n1, n2, n3⟩ := ro.tracked w
  have hp : Pres H (upd H a u) := Pres.put ev n1 n2
  have hi := (List.getElem?_eq_some_iff.mp e).1
  refine ⟨⟨fun j k b o1 o2 e1 e2 w1 w2 f1 f2 => ?_, by rw [List.length_set]; exact h.len, fun j o1 e1 => ?_⟩, hp⟩
  · have back : ∀ {j : Nat} {o1 : O}, (M.set i o')[j]? = some o1 → own o1 = true → ∃ o2, M[j]? = some o2 ∧ own o2 = true := fun {j o1} e1 w1 => by
      by_cases hj : i = j
      · subst hj; exact ⟨o, e, w⟩
      · rw [List.getElem?_set_ne hj] at e1; exact ⟨o1, e1, w1⟩
    obtain ⟨p1, q1, z1⟩ := back e1 w1
    obtain ⟨p2, q2, z2⟩ := back e2 w2
    exact h.nd j k b p1 p2 q1 q2 z1 z2 f1 f2
  · by_cases hj : i = j
    · subst hj
      rw [List.getElem?_set_self hi] at e1
      cases e1
      exact ⟨a, ea, r⟩
    · rw [List.getElem?_set_ne hj] at e1
      obtain ⟨b, eb, rb⟩ := h.at_ j o1 e1
      refine ⟨b, eb, rb.mono (List.prefix_refl _) hp (fun w1 v q => ?_) fun c xs q => ?_⟩
      · have hne : b ≠ a := fun z => hj (h.nd i j a o o1 e e1 w w1 ea (z ▸ eb))
        rw [upd_ne hne]; exact q
      · rw [upd_ne (ne_of q ev (fun z => n3 xs z.symm))]; exact q
end
end Mp

set_option Elab.async false
set_option linter.all false
set_option maxRecDepth 100000
set_option maxHeartbeats 4000000
/-! An own error with one field, made and raised (after the guide's skeleton 42, for any of the names of this program's fields). -/
namespace PySem
namespace ErrX
open PySem.W PySem.Calls PyProof.Rows PySem.HandSPX
def fnames : List Str := ["place", "number", "name", "change", "word"]
/-! ### the text of __init__ -/
def iA (fd : Str) (p1 p2 : Pos) : Arguments := { posonlyargs := [], args := [{ arg := "self", annotation := none, pos := p1 }, { arg := fd, annotation := none, pos := p2 }], vararg := none, kwonlyargs := [], kw_defaults := [], kwarg := none, defaults := [] }
def iB (fd : Str) (q1 q2 q3 q4 : Pos) : List Stmt := [.Assign [.Attribute (.Name "self" q1) fd q2] (.Name fd q3) q4]
def iS (fd : Str) : Scope := { kind := .function, names := [("self", .local), (fd, .local)], isGenerator := false, isCoroutine := false, more := [] }
/-- what the written part says of the error, at C, and of its __init__, at fI -/
structure ErrTxt (K : Frag) (mg : Str → Option Value) (cn fd : Str) (C fI : Addr) : Prop where
  fdK : fd ∈ fnames
  gC : mg cn = some (.ref C)
  cls : ∃ nm q N bs bm sn sub ab col dd k0 k1 k2 k3 k5, K.lookup C = some (excClassObj nm q C N bs bm true sn sub ab col dd k0 k1 k2 k3 k5 "ValueError.__new__") ∧ refsVE bm = true
  sa : findIn K (.ref C) "__setattr__" = some (some (.builtin "object.__setattr__"))
  ga : findIn K (.ref C) "__getattribute__" = some (some (.builtin "BaseException.__getattribute__"))
  gg : findIn K (.ref C) "__getattr__" = some none
  noN : findIn K (.ref C) fd = some none
  iC : findIn K (.ref C) "__init__" = some (some (.ref fI))
  tC : typeIn K (.ref fI) = some (.type "function")
  kC : keepIn K (.ref C) = true
  exC : subIn K (.ref C) (.type "BaseException") = some true
  tyC : typeIn K (.ref C) = some (.type "type")
  hdC : hasDictIn K C = true
  fn : ∃ (oc : Value) (od : Option Addr) (kV doc pm : Value) (an : Option Addr) (cdv ct : Value) (osl : Array (Option Value)) (qn : Str) (p1 p2 q1 q2 q3 q4 : Pos),
    K.lookup fI = some ⟨oc, od, .func (fnOf "__init__" qn (iA fd p1 p2) (iB fd q1 q2 q3 q4) (iS fd) .none kV doc pm an cdv ct), osl⟩ ∧ codeIn K cdv qn = true
theorem one_size (v : Value) : [v].length ≤ sizeLine := by
  rw [sizeLine_eq]
  exact (by decide : 1 ≤ 16777216)
theorem kept_but {K : Frag} {h h' : Heap} {x : Addr} (X : K.In h) (hx : K.lookup x = none) (k : ∀ b o, b ≠ x → h.get? b = some o → h'.get? b = some o) : K.In h' := fun a o e =>
  k a o (fun z => by rw [z, hx] at e; cases e) (X a o e)
theorem ldC {M : Model} {s : Shared} {name : Str} {scope : Scope} {L a : Addr} {cd : Value} {m : Str → Option Value} {x : Str} {pos : Pos} {v : Value} {Q : Value → Shared → Prop} {A : Around} {E : Value → Shared → Prop} (hn : s.heap.Ns L m) (hv : m x = some v) (h : Q v s)
    (hk : scope.kind = .function := by rfl) (hl : (envOfC name scope L a cd).kindOf x = some .local := by rfl) (hd : (x == ("__debug__" : Str)) = false := by decide) :
    wpAny M A (eval (.Name x pos) (envOfC name scope L a cd)) Q E s := wpAny_Name (wpAny_loadName_local hk hl hn hv h) hd
/-- what __init__ leaves of a fresh exception at x -/
structure InitEnd (h h' : Heap) (fd : Str) (x C dx t1 : Addr) (v : Value) : Prop where
  keep : ∀ b o, b ≠ x → h.get? b = some o → h'.get? b = some o
  obj : h'.get? x = some { cls := .ref C, dict := some dx, data := .fields #[.ref t1, .none, .none, .none, .bool false, .none] }
  dbig : h.objs.size ≤ dx
  dne : dx ≠ x
  ns : h'.Ns1 dx (fun y => if y = fd then some v else none)
/-- a made the error -/
structure OwnMade (h h' : Heap) (fd : Str) (e C d : Addr) (v : Value) : Prop where
  keep : ∀ b o, h.get? b = some o → h'.get? b = some o
  new : h.objs.size ≤ e
  obj : ∃ oe vs, h'.get? e = some oe ∧ oe.cls = .ref C ∧ oe.dict = some d ∧ oe.data = .fields vs ∧ vs[1]? = some .none
  dbig : h.objs.size ≤ d
  dne : d ≠ e
  ns : h'.Ns1 d (fun y => if y = fd then some v else none)
section
variable {prog : Program} {w : World} {A : Around} {E : Value → Shared → Prop} {R : Result → Shared → Prop} {s : Shared} {K : Frag} {mg : Str → Option Value} {cn fd : Str} {C fI : Addr}
theorem err_init (T : ErrTxt K mg cn fd C fI) {x t0 : Addr} {v : Value} (X : K.In s.heap) (hlim : s.heap.NoLimit) (hx : s.heap.get? x = some (excO C t0)) (hnx : K.lookup x = none) (hroom : A.depth < recursionLimit)
    (hq : ∀ h' tk dx, InitEnd s.heap h' fd x C dx t0 v → R (.ok (.ret .none)) { s with heap := h', toks := tk }) :
    codeAny (model prog w) A (.call (.ref fI) ⟨[.ref x, v], []⟩) R s := by
  obtain ⟨oc, od, kV, doc, pm, an, cdv, ct, osl, qn, p1, p2, q1, q2, q3, q4, ho, hcd⟩ := T.fn
  obtain ⟨nm, q, N, bs, bm, sn, sub, ab, col, dd, k0, k1, k2, k3, k5, hC, hbm⟩ := T.cls
  have hfd := T.fdK
  have hnoN := T.noN
  have hsa := T.sa
  clear T
  have hcl : clsIn K C = some { name := nm, bases := bs, mro := .ref C :: bm, ns := N, qualname := q, hasDict := true, slotNames := sn, subclasses := sub, abstract := ab, collection := col, hasDel := false } := by unfold clsIn; rw [hC] <;> rfl
  have mm : fd = "place" ∨ fd = "number" ∨ fd = "name" ∨ fd = "change" ∨ fd = "word" := by simpa [fnames] using hfd
  clear hfd
  rcases mm with rfl | rfl | rfl | rfl | rfl
  all_goals
    refine Att.call_fn (binds := [("self", .ref x), (_, v)]) X hlim ho hcd hroom (BindsTo.of_eq (by first | rfl | with_unfolding_all rfl)) (by first | rfl | decide | with_unfolding_all rfl) (fun s₁ IC => ?_) rfl rfl rfl
    obtain ⟨h₁, tk₁, rfl⟩ := IC.toInCall.same
    have k : ∀ b o, s.heap.get? b = some o → h₁.get? b = some o := IC.toInCall.keep
    have hn := IC.toInCall.ns
    have hxL : s.heap.objs.size ≠ x := Nat.ne_of_gt (Heap.lt_size hx)
    have X₁ : K.In h₁ := X.keeps k
    have hx₁ := k _ _ hx
    show wpAny _ _ (execs _ _) _ _ _
    refine wpAny_execs_cons (plainObj_wpAny_Assign_Attribute ?_)
    refine ldC (v := v) hn (by first | rfl | with_unfolding_all rfl | kernel_rfl) (ldC (v := .ref x) hn (by first | rfl | with_unfolding_all rfl | kernel_rfl) ?_)
    refine set_plain X₁ (ox := excO C t0) (od := none) ⟨hx₁, rfl, rfl, trivial⟩ hsa ?_
    refine exc_osa X₁ hx₁ hcl (show refsVE (.ref C :: bm) = true from hbm) rfl hnoN (fun h₃ tk₃ dx k₃ dn dne hx₃ hn₃ => ?_)
    show wpAny _ _ (execs _ _) _ _ _
    have z : s.heap.objs.size < h₁.objs.size := hn.lt
    exact wpAny_execs_nil (hq h₃ tk₃ dx ⟨fun b o hb e => k₃ b o hb (k b o e), hx₃, Nat.le_of_lt (Nat.lt_of_lt_of_le z dn), dne, hn₃⟩)
theorem err_made (T : ErrTxt K mg cn fd C fI) {v : Value} (X : K.In s.heap) (hlim : s.heap.NoLimit) (hroom : A.depth + 1 < recursionLimit)
    (hq : ∀ h' tk e d, OwnMade s.heap h' fd e C d v → R (.ok (.ret (.ref e))) { s with heap := h', toks := tk }) :
    codeAny (model prog w) A (.call (.ref C) ⟨[v], []⟩) R s := by
  obtain ⟨nm, q, N, bs, bm, sn, sub, ab, col, dd, k0, k1, k2, k3, k5, hC, hbm⟩ := T.cls
  obtain ⟨hp, g, dr, tk, os⟩ := s
  have k : ∀ b o, hp.get? b = some o → ((hp.push (kdv_tup [v])).push (excO C hp.objs.size)).get? b = some o := fun b o e => Heap.get?_push_of_some _ (Heap.get?_push_of_some _ e)
  have hget : ((hp.push (kdv_tup [v])).push (excO C hp.objs.size)).get? (hp.objs.size + 1) = some (excO C hp.objs.size) := by heap_get
  have hnx : K.lookup (hp.objs.size + 1) = none := by
    cases e : K.lookup (hp.objs.size + 1) with
    | none => rfl
    | some o =>
      have z : hp.get? (hp.objs.size + 1) = some o := X _ _ e
      exact absurd (Nat.lt_of_succ_lt (Heap.lt_size z)) (Nat.lt_irrefl _)
  refine call_own F.excBase_ValueError (fun X => refsVE_contains X bm hbm) (X _ _ hC) (looks_findIn X T.iC) (fun self => bind_fn X self T.tC) (one_size v) ?_
  refine err_init (s := ⟨(hp.push (kdv_tup [v])).push (excO C hp.objs.size), g, dr, tk, os⟩) T (X.keeps k) (hlim.keeps k) hget hnx ?_ fun h' tk' dx ⟨k', hx, dn, dne, hns⟩ => ?_
  · show A.depth + 1 < recursionLimit
    exact hroom
  · have old : ∀ b o, hp.get? b = some o → h'.get? b = some o := fun b o e => k' b o (Nat.ne_of_lt (Nat.lt_succ_of_lt (Heap.lt_size e))) (k b o e)
    have z : hp.objs.size + 1 + 1 ≤ dx := by
      first
        | (simpa only [Heap.size_push] using dn)
        | exact dn
        | (have q := dn; rw [Heap.size_push, Heap.size_push] at q; exact q)
    exact ⟨rfl, hq h' tk' (hp.objs.size + 1) dx ⟨old, Nat.le_succ _, ⟨_, _, hx, rfl, rfl, rfl, rfl⟩, Nat.le_trans (Nat.le_trans (Nat.le_succ _) (Nat.le_succ _)) z, dne, hns⟩⟩
end
end ErrX
end PySem
namespace L2
open PySem PySem.Spec PyProof.Rows
theorem relO_err {fd : Str} {v : V} {v' : Value} (r : RelV v v') (f : Str) : RelO (List.lookup f [((fd : Str), v)]) (if f = fd then some v' else none) := by
  by_cases hw : f = fd
  · subst hw
    rw [if_pos rfl]
    have q : List.lookup f [(f, v)] = some v := by simp [List.lookup]
    rw [q]
    exact r
  · rw [if_neg hw]
    have qw : (f == (fd : Str)) = false := by simpa using hw
    have q2 : List.lookup f [((fd : Str), v)] = none := by simp [List.lookup, qw]
    rw [q2]
    trivial
section
variable {X : Cx} {cn fd : Str} {C fI : Addr}
/-- the error made -/
def tMkErr (fd : Str) (C : Addr) (ta : TA) : St → Hp → XK → Prop := fun σ H Q => ta σ H fun vs H1 => ∃ v, vs = [v] ∧ ∀ d, H1 d = none → Q (.ref C) (some d) (upd H1 d (.xd [((fd : Str), v)]))
theorem pmk_err {a : Expr} {ta : TA} {p pos : Pos} {k : Nat} (T : PySem.ErrX.ErrTxt X.K X.mg cn fd C fI) (hr : Room k X.A) (ha : PA X [a] ta) (hg : Gl X cn) (hdb : (cn == ("__debug__" : Str)) = false)
    (he : starEach (a :: []) X.env = (false, eval a X.env) :: starEach [] X.env := by rfl) (hpl : (backTo pos (starEach [] X.env)).any (·.1) = false := by rfl) :
    PMk X (.Call (.Name cn p) [a] [] pos) (tMkErr fd C ta) := by
  intro pins s σ H Q I h
  refine wpAny_Call_Name_kw (ld_glob I hg T.gC ?_ hdb)
  refine PySem.W.callWith_K (h₀ := X.base) I.ok.mod.kin T.kC (thn (ha.run pos pins s σ H _ I h) fun us s1 hh => ?_) he hpl
  obtain ⟨vs, H1, I1, r1, v, ev, q1⟩ := hh
  subst ev
  refine ⟨I1.kIn, ?_⟩
  cases r1 with
  | cons rv rn =>
    rename_i v' us'
    cases rn
    show wpAny _ _ (call (.ref C) [v']) _ _ _
    have hlim := I1.nolimit
    obtain ⟨hp, g, dr, tk, os⟩ := s1
    refine wpAny_call (PySem.ErrX.err_made T I1.kIn hlim (by have := hr.dp; omega) fun h' tk' e d M => ?_)
    show MkP X pins σ Q (.ref e) ⟨h', g, dr, tk', os⟩
    obtain ⟨oe, fv, hoe, hc, hd, hdat, h1⟩ := M.obj
    have hns := M.ns
    obtain ⟨G', g1, g2⟩ := restrict h' fun b => decide (b ≠ e)
    have gk : ∀ b, b ≠ e → G'.get? b = h'.get? b := fun b hb => g1 b (decide_eq_true hb)
    have ge : G'.get? e = none := g2 e (by simp)
    have old : ∀ b o, hp.get? b = some o → G'.get? b = some o := fun b o q => (gk b (Nat.ne_of_lt (Nat.lt_of_lt_of_le (Heap.lt_size q) M.new))).trans (M.keep b o q)
    have ob : ObjOk X.prog X.w (upd H1 d (.xd [((fd : Str), v)])) G' d (.xd [((fd : Str), v)]) :=
      ⟨_, hns.at (fun o q => (gk d M.dne).trans q), fun f => relO_err rv f⟩
    have J : Inv X pins σ (upd H1 d (.xd [((fd : Str), v)])) ⟨G', g, dr, tk', os⟩ := I1.laid (t' := tk') old M.dbig ob
    refine ⟨e, oe, fv, ⟨G', g, dr, tk', os⟩, _, .ref C, some d, rfl, J, fun b o q => ?_, ge, hoe, ⟨hc, hd⟩, hdat, h1, ?_, rfl, I1.bare, raises_own T.exC T.tyC, q1 d (I1.hok.fresh M.dbig)⟩
    · by_cases hb : b = e
      · have q' : G'.get? b = some o := q
        rw [hb, ge] at q'; cases q'
      · exact (gk b hb).symm.trans q
    · rw [upd_ne (Ne.symm M.dne)]
      exact I1.hok.fresh M.new
/-- raise the error made -/
def tRaiseErr (fd : Str) (C : Addr) (W : WX) (ta : TA) : TS := fun _ σ H => tMkErr fd C ta σ H fun cls d H' => W cls d σ H'
theorem ps_raiseErr {a : Expr} {ta : TA} {W : WX} {p pos pos2 : Pos} {k : Nat} (hc : X.calm = true) (T : PySem.ErrX.ErrTxt X.K X.mg cn fd C fI) (hr : Room k X.A) (tk : Takes X W) (ha : PA X [a] ta) (hg : Gl X cn) (hdb : (cn == ("__debug__" : Str)) = false)
    (he : starEach (a :: []) X.env = (false, eval a X.env) :: starEach [] X.env := by rfl) (hpl : (backTo pos (starEach [] X.env)).any (·.1) = false := by rfl) :
    PS X (.Raise (some (.Call (.Name cn p) [a] [] pos)) none pos2) (tRaiseErr fd C W ta) := ps_raise hc tk (pmk_err T hr ha hg hdb he hpl)
end
end L2


set_option Elab.async false
set_option linter.all false
set_option maxRecDepth 100000
set_option maxHeartbeats 1000000
/-! The small interpreter beside the layer: readings. -/
namespace Mp
open PySem PySem.Spec PyProof.Rows L2

/-- an exception as it lies -/
def RX (S : Sg) (f : List Addr) (H : Hp) (x : Xn) (cls : Value) (d : Option Addr) : Prop :=
  ∃ C b xs, S.ca x.cls = some C ∧ cls = .ref C ∧ d = some b ∧ H b = some (.xd xs) ∧ RF S.K f H x.fs xs
/-- the end of an expression -/
def PostE (S : Sg) (f : List Addr) (H : Hp) (W : XK) (r : R D) (Q : VK) : Prop := match r with
  | .ok d M' => ∀ f' H' v, f <+: f' → RM S f' H' M' → Pres H H' → RV S.K f' H' d v → Q v H'
  | .exc x M' => ∀ f' H' cls b, f <+: f' → RM S f' H' M' → Pres H H' → RX S f' H' x cls b → W cls b H'
  | .bad => False
def PostB (S : Sg) (f : List Addr) (H : Hp) (W : XK) (r : R Bool) (Q : Bool → Hp → Prop) : Prop := match r with
  | .ok b M' => ∀ f' H', f <+: f' → RM S f' H' M' → Pres H H' → Q b H'
  | .exc x M' => ∀ f' H' cls b, f <+: f' → RM S f' H' M' → Pres H H' → RX S f' H' x cls b → W cls b H'
  | .bad => False
def PostL (S : Sg) (f : List Addr) (H : Hp) (W : XK) (r : R (List D)) (Q : List V → Hp → Prop) : Prop := match r with
  | .ok ds M' => ∀ f' H' vs, f <+: f' → RM S f' H' M' → Pres H H' → RVs S.K f' H' ds vs → Q vs H'
  | .exc x M' => ∀ f' H' cls b, f <+: f' → RM S f' H' M' → Pres H H' → RX S f' H' x cls b → W cls b H'
  | .bad => False
/-- the reading of an expression -/
def tI (S : Sg) (W : WX) (w : Wd) (e : E) : TE := fun σ H Q => ∃ f M ρ, RM S f H M ∧ RE S.K f H ρ σ ∧ PostE S f H (WE W σ) (evE w e ρ M) Q
def tB (S : Sg) (W : WX) (w : Wd) (e : E) : TT := fun σ H Q => ∃ f M ρ, RM S f H M ∧ RE S.K f H ρ σ ∧ PostB S f H (WE W σ) (truthR w (evE w e ρ M)) Q
def tL (S : Sg) (W : WX) (w : Wd) (es : Es) : TA := fun σ H Q => ∃ f M ρ, RM S f H M ∧ RE S.K f H ρ σ ∧ PostL S f H (WE W σ) (evEs w es ρ M) Q
section
variable {S : Sg} {f f' : List Addr} {H H' : Hp} {M : Mem} {W : XK}
theorem PostE.mono {r : R D} {Q : VK} (hf : f <+: f') (p : Pres H H') (h : PostE S f H W r Q) : PostE S f' H' W r Q := by
  cases r with
  | ok d m => exact fun f2 H2 v a b c e => h f2 H2 v (hf.trans a) b (p.trans c) e
  | exc x m => exact fun f2 H2 cls z a b c e => h f2 H2 cls z (hf.trans a) b (p.trans c) e
  | bad => exact h
theorem PostB.mono {r : R Bool} {Q : Bool → Hp → Prop} (hf : f <+: f') (p : Pres H H') (h : PostB S f H W r Q) : PostB S f' H' W r Q := by
  cases r with
  | ok d m => exact fun f2 H2 a b c => h f2 H2 (hf.trans a) b (p.trans c)
  | exc x m => exact fun f2 H2 cls z a b c e => h f2 H2 cls z (hf.trans a) b (p.trans c) e
  | bad => exact h
theorem PostL.mono {r : R (List D)} {Q : List V → Hp → Prop} (hf : f <+: f') (p : Pres H H') (h : PostL S f H W r Q) : PostL S f' H' W r Q := by
  cases r with
  | ok d m => exact fun f2 H2 v a b c e => h f2 H2 v (hf.trans a) b (p.trans c) e
  | exc x m => exact fun f2 H2 cls z a b c e => h f2 H2 cls z (hf.trans a) b (p.trans c) e
  | bad => exact h
/-- at the end -/
theorem PostE.now {d : D} {v : V} {Q : VK} (h : PostE S f H W (.ok d M) Q) (r : RM S f H M) (rv : RV S.K f H d v) : Q v H := h f H v (List.prefix_refl _) r Pres.refl rv
theorem PostE.at_ {d : D} {v : V} {Q : VK} {M' : Mem} (h : PostE S f H W (.ok d M') Q) (hf : f <+: f') (r : RM S f' H' M') (p : Pres H H') (rv : RV S.K f' H' d v) : Q v H' := h f' H' v hf r p rv
end
/-! what runs first: any kind of end behind it -/
section
variable {S : Sg} {f : List Addr} {H : Hp} {M : Mem} {W : WX} {w : Wd} {ρ : Env} {σ : L2.St}
/-- how the whole's end looks at a part's: P f H r, r: the whole from there on -/
structure Ends3 (S : Sg) (W : XK) {α : Type} (P : List Addr → Hp → R α → Prop) : Prop where
  mono : ∀ f f' H H' r, f <+: f' → Pres H H' → P f H r → P f' H' r
  exc : ∀ f H x M', P f H (.exc x M') → ∀ f' H' cls b, f <+: f' → RM S f' H' M' → Pres H H' → RX S f' H' x cls b → W cls b H'
  bad : ∀ f H, ¬ P f H .bad
theorem ends_E {Wx : XK} {Q : VK} : Ends3 S Wx (fun f H r => PostE S f H Wx r Q) := ⟨fun _ _ _ _ _ a b c => c.mono a b, fun _ _ _ _ h => h, fun _ _ h => h⟩
theorem ends_B {Wx : XK} {Q : Bool → Hp → Prop} : Ends3 S Wx (fun f H r => PostB S f H Wx r Q) := ⟨fun _ _ _ _ _ a b c => c.mono a b, fun _ _ _ _ h => h, fun _ _ h => h⟩
theorem ends_L {Wx : XK} {Q : List V → Hp → Prop} : Ends3 S Wx (fun f H r => PostL S f H Wx r Q) := ⟨fun _ _ _ _ _ a b c => c.mono a b, fun _ _ _ _ h => h, fun _ _ h => h⟩
/-- THE STEP: an expression first, then the rest -/
theorem tI_bind {α : Type} {P : List Addr → Hp → R α → Prop} {e : E} {k : D → Mem → R α} {Q : VK} (ep : Ends3 S (WE W σ) P) (rm : RM S f H M) (re : RE S.K f H ρ σ) (h : P f H ((evE w e ρ M).bind k))
    (hk : ∀ f1 H1 d M1 v, f <+: f1 → RM S f1 H1 M1 → RE S.K f1 H1 ρ σ → Pres H H1 → RV S.K f1 H1 d v → P f1 H1 (k d M1) → Q v H1) : tI S W w e σ H Q := by
  refine ⟨f, M, ρ, rm, re, ?_⟩
  cases q : evE w e ρ M with
  | ok d m =>
    rw [q] at h
    exact fun f1 H1 v a b c r => hk f1 H1 d m v a b (re.mono a c) c r (ep.mono _ _ _ _ _ a c h)
  | exc x m =>
    rw [q] at h
    exact ep.exc f H x m h
  | bad =>
    rw [q] at h
    exact ep.bad f H h
theorem tB_bind {α : Type} {P : List Addr → Hp → R α → Prop} {e : E} {k : Bool → Mem → R α} {Q : Bool → Hp → Prop} (ep : Ends3 S (WE W σ) P) (rm : RM S f H M) (re : RE S.K f H ρ σ) (h : P f H ((truthR w (evE w e ρ M)).bind k))
    (hk : ∀ f1 H1 b M1, f <+: f1 → RM S f1 H1 M1 → RE S.K f1 H1 ρ σ → Pres H H1 → P f1 H1 (k b M1) → Q b H1) : tB S W w e σ H Q := by
  refine ⟨f, M, ρ, rm, re, ?_⟩
  cases q : truthR w (evE w e ρ M) with
  | ok d m =>
    rw [q] at h
    exact fun f1 H1 a b c => hk f1 H1 d m a b (re.mono a c) c (ep.mono _ _ _ _ _ a c h)
  | exc x m =>
    rw [q] at h
    exact ep.exc f H x m h
  | bad =>
    rw [q] at h
    exact ep.bad f H h
theorem tL_bind {α : Type} {P : List Addr → Hp → R α → Prop} {es : Es} {k : List D → Mem → R α} {Q : List V → Hp → Prop} (ep : Ends3 S (WE W σ) P) (rm : RM S f H M) (re : RE S.K f H ρ σ) (h : P f H ((evEs w es ρ M).bind k))
    (hk : ∀ f1 H1 ds M1 vs, f <+: f1 → RM S f1 H1 M1 → RE S.K f1 H1 ρ σ → Pres H H1 → RVs S.K f1 H1 ds vs → P f1 H1 (k ds M1) → Q vs H1) : tL S W w es σ H Q := by
  refine ⟨f, M, ρ, rm, re, ?_⟩
  cases q : evEs w es ρ M with
  | ok d m =>
    rw [q] at h
    exact fun f1 H1 v a b c r => hk f1 H1 d m v a b (re.mono a c) c r (ep.mono _ _ _ _ _ a c h)
  | exc x m =>
    rw [q] at h
    exact ep.exc f H x m h
  | bad =>
    rw [q] at h
    exact ep.bad f H h
end
/-! ### the reading of a rule is enough -/
theorem pe_imp {X : Cx} {e : Expr} {t t' : TE} (h : PE X e t) (hi : ∀ σ H Q, t' σ H Q → t σ H Q) : PE X e t' := ⟨fun pins s σ H Q I q => h.run pins s σ H Q I (hi σ H Q q)⟩
theorem pt_imp {X : Cx} {e : Expr} {t t' : TT} (h : PT X e t) (hi : ∀ σ H Q, t' σ H Q → t σ H Q) : PT X e t' := ⟨fun pins s σ H Q I q => h.run pins s σ H Q I (hi σ H Q q)⟩
theorem pa_imp {X : Cx} {e : List Expr} {t t' : TA} (h : PA X e t) (hi : ∀ σ H Q, t' σ H Q → t σ H Q) : PA X e t' := ⟨fun pos pins s σ H Q I q => h.run pos pins s σ H Q I (hi σ H Q q)⟩
/-! ### where one stands -/
def Good (S : Sg) (W : WX) (w : Wd) (X : Cx) (e : E) (x : Expr) : Prop := PE X x (tI S W w e)
/-- names of built-ins that may be called -/
def bnames : List Str := ["len", "tuple", "list", "all", "any", "sum", "int", "dict", "isinstance", "range", "enumerate", "zip", "max", "min", "bool", "str", "sorted", "set"]
/-- what a def promises, by the interpreter -/
def spI (S : Sg) (c : Calls) (p : Nat) (g : Fn) : Sp := fun vs H Q E => vs.length = p ∧ ∃ f M ds, RM S f H M ∧ RVs S.K f H ds vs ∧ PostE S f H E (c g ds M) Q
structure FnAt (S : Sg) (T : Tab) (X : Cx) (k : Nat) (g : Fn) (d : Df) : Prop where
  ok : ∃ fa fd ps, ps.length = d.pars ∧ PySem.W.keepIn X.K (.ref fa) = true ∧ Binds X.K fd ps [] ∧ FnOk X.prog X.w X.K X.mg X.base (CX X.prog X.w) k fa fd ps (spI S (callD T k) d.pars g) ∧
    (match g.2 with
      | none => X.mg g.1 = some (.ref fa)
      | some m => ∃ C, S.ca g.1 = some C ∧ (if m = "__init__" then Mk X.K C fa ∧ X.mg g.1 = some (.ref C) else Cls X.K C ∧ Meth X.K C m fa))
def tnS : Tn → String
  | .non => "NoneType"
  | .int => "int"
  | .bool => "bool"
  | .str => "str"
  | .list => "list"
  | .tuple => "tuple"
  | .dict => "dict"
structure Adm (S : Sg) (T : Tab) (n : Nat) (W : WX) (hot : Bool) (X : Cx) : Prop where
  K : X.K = S.K
  room : hot = false → Room n X.A
  calm : hot = false → X.calm = true
  units : X.A.units + 100 < cLine
  nd : X.N.Nodup
  tk : Takes X W
  glo : ∀ x d, T.glo x = some d → ∃ u v, X.mg x = some u ∧ RelV v u ∧ ∀ f H, RV S.K f H d v
  free : ∀ b, b ∈ bnames → X.mg b = none
  fns : hot = false → ∀ g d, T.df g = some d → FnAt S T X n g d
  fns1 : hot = false → ∀ g d, T.df g = some d → FnAt S T X (n - 1) g d
  cold : hot = false → S.ex = none
  exn : ∀ c fd, T.exf c = some fd → ∃ C fI, S.ca c = some C ∧ PySem.ErrX.ErrTxt X.K X.mg c fd C fI
  sub : ∀ c C c' C', (T.exf c).isSome = true → (∃ b, T.exk c' = some b) → S.ca c = some C → S.ca c' = some C' → PySem.W.exmOne X.K (.ref C) (.ref C') = some (T.sub c c')
  exc : ∀ c', (∃ b, T.exk c' = some b) → ∃ C', S.ca c' = some C'
  xf : ∀ a d ns, S.ex = some (a, d, ns) → ∀ n ∈ ns, ∀ (e : Expr) (te : TE) (pos : Pos), PE X e te → attributeBase e n X.env (eval e X.env) = eval e X.env → ∃ C, PE X (.Attribute e n pos) (tXf a (.ref C) (some d) C n te)
  cls : ∀ c C, S.ca c = some C → X.mg c = some (.ref C)
  isC : T.isC = S.isC
  caC : ∀ c, T.isC c = true → ∃ C, S.ca c = some C
  clsF : ∀ c C, S.ca c = some C → T.isC c = true → ClsF X.K C
  fld : ∀ c C x, S.ca c = some C → T.fld c x = true → NoAttr X.K C x
  own : ∀ c C, S.ca c = some C → T.isC c = true → (∀ n : Tn, PySem.W.kitOne X.K (.type (tnS n)) (.ref C) = some false ∧ PySem.W.kitOne X.K (.ref C) (.type (tnS n)) = some false) ∧ ∀ c' C', S.ca c' = some C' → T.isC c' = true → PySem.W.kitOne X.K (.ref C) (.ref C') = some (decide (c = c'))
/-- what calls there are -/
def wdh (T : Tab) (n : Nat) (hot : Bool) : Wd := if hot then hotW (wd T n) else wd T n
/-! ### the text beside Python's -/
def vis (sc : Scope) (x : Str) : Bool := match sc.names.lookup x with
  | some .local => true
  | some .cell => true
  | some .free => true
  | _ => false
theorem vis_ok {sc : Scope} {x : Str} (h : vis sc x = true) : Vis sc x := by
  unfold vis at h
  split at h
  · exact .inl (by assumption)
  · exact .inr (.inl (by assumption))
  · exact .inr (.inr (by assumption))
  · cases h
def gl (sc : Scope) (x : Str) : Bool := decide (sc.names.lookup x = some .globalImplicit)
def plainN (x : Str) : Bool := !(x == ("__debug__" : Str)) && !(x == ("__classdict__" : Str)) && !(x == ("__name__" : Str))
end Mp

set_option Elab.async false
set_option linter.all false
set_option maxRecDepth 100000
set_option maxHeartbeats 1000000
/-! The small interpreter beside the layer: operators. -/
namespace Mp
open PySem PySem.Spec PyProof.Rows L2

theorem lim_line : lim ≤ sizeLine := by rw [sizeLine_eq]; decide
def opOf : Bop → Operator
  | .add => .Add
  | .sub => .Sub
  | .mul => .Mult
  | .fdiv => .FloorDiv
  | .mod => .Mod
  | .pow => .Pow
section
variable {X : Cx} {S : Sg} {f : List Addr} {H : Hp} {M : Mem} {W : XK} {Q : VK}
theorem SqZ.mono {K : PySem.W.Frag} {H H' : Hp} {a : Addr} {xs : List V} (p : Pres H H') (h : SqZ K H a xs) : SqZ K H' a xs := by
  rcases h with ⟨o, e⟩ | h
  · exact .inl ⟨o, p.frzs _ _ _ e⟩
  · exact .inr h
/-- a list by its number -/
theorem RM.list (rm : RM S f H M) {i : Nat} {ds : List D} (h : listAt M i = some ds) {a : Addr} (ea : f[i]? = some a) : ∃ xs, SqL S.K H a xs ∧ RVs S.K f H ds xs := by
  unfold listAt at h
  cases e : M[i]? with
  | none => rw [e] at h; cases h
  | some o =>
    obtain ⟨b, eb, r⟩ := rm.at_ i o e
    rw [ea] at eb; cases eb
    rw [e] at h
    cases o with
    | lst ds' =>
      cases h
      obtain ⟨xs, q, r⟩ := r
      exact ⟨xs, SqL.of q, r⟩
    | frz ds' =>
      cases h
      obtain ⟨xs, q, r⟩ := r
      exact ⟨xs, q.sqL, r⟩
    | _ => cases h
/-- a new tuple -/
theorem new_tup (rm : RM S f H M) {ds : List D} {xs : List V} (r : RVs S.K f H ds xs) {p : Addr} (n : H p = none) (h : PostE S f H W (.ok (.tup ds) M) Q) : Q (.ref p) (upd H p (.tup xs)) :=
  h.at_ (List.prefix_refl _) (rm.newH n) (Pres.new n) ⟨p, xs, rfl, SqT.of upd_same, RVs.mono (List.prefix_refl _) (Pres.new n) _ _ r⟩
/-- a new list -/
theorem new_lst (rm : RM S f H M) {ds : List D} {xs : List V} (r : RVs S.K f H ds xs) {p : Addr} (n : H p = none) (h : PostE S f H W (.ok (.ref M.length) (M ++ [.lst ds])) Q) : Q (.ref p) (upd H p (.lst xs)) :=
  h.at_ (List.prefix_append f [p]) (rm.newM n ⟨xs, upd_same, RVs.mono (List.prefix_append f [p]) (Pres.new n) _ _ r⟩) (Pres.new n) ⟨p, by rw [← rm.len]; simp, rfl⟩
theorem newL_ok {ds : List D} (h : PostE S f H W (newL ds M) Q) : ds.length ≤ lim ∧ PostE S f H W (.ok (.ref M.length) (M ++ [.lst ds])) Q := by
  unfold newL at h
  split at h
  · exact ⟨by assumption, h⟩
  · exact h.elim
theorem tupR_ok {ds : List D} (h : PostE S f H W (tupR ds M) Q) : ds.length ≤ lim ∧ PostE S f H W (.ok (.tup ds) M) Q := by
  unfold tupR at h
  split at h
  · exact ⟨by assumption, h⟩
  · exact h.elim
theorem RVs.replicate {K : PySem.W.Frag} {ds : List D} {xs : List V} (r : RVs K f H ds xs) : ∀ n : Nat, RVs K f H (times n ds) (List.replicate n xs).flatten
  | 0 => rfl
  | n + 1 => by
    unfold times
    rw [List.replicate_succ, List.flatten_cons]
    exact r.append (RVs.replicate r n)
/-- an operator by the interpreter's answer -/
def rB (S : Sg) (op : Bop) : R2 := fun x y H Q => ∃ (W : XK) (f : List Addr) (M : Mem) (d e : D), RM S f H M ∧ RV S.K f H d x ∧ RV S.K f H e y ∧ PostE S f H W (binD op d e M) Q
theorem pow64 : (2 : Nat) ^ 64 = 18446744073709551616 := by decide
theorem big_mul {i j : Int} (h : (big i || big j) = true) : CMul i j := by
  unfold big at h
  rw [Bool.or_eq_true] at h
  have e : (2 : Int) ^ 64 = 18446744073709551616 := by decide
  rcases h with h | h
  · have := of_decide_eq_true h
    exact .inl (by rw [e]; omega)
  · have := of_decide_eq_true h
    exact .inr (by rw [e]; omega)
theorem op_int (hK : X.K = S.K) {op : Bop} {pins : List (Addr × Obj)} {s : Shared} {σ : L2.St} {i j : Int} {v u : Value} (I : Inv X pins σ H s) (rx : RelV (.int i) v) (ry : RelV (.int j) u) (rm : RM S f H M)
    (h : PostE S f H W (binD op (.int i) (.int j) M) Q) : wpAny (model X.prog X.w) X.A (binaryOp (opOf op) v u) (EP X pins σ Q) X.xe s := by
  have h : PostE S f H W (some1 ((binI op i j).map .int) M) Q := h
  cases op with
  | add => exact op_add pins s σ H _ _ v u Q I rx ry ⟨i, j, rfl, rfl, h.now rm rfl⟩
  | sub => exact op_sub pins s σ H _ _ v u Q I rx ry ⟨i, j, rfl, rfl, h.now rm rfl⟩
  | mul =>
    simp only [binI] at h
    by_cases hb : (big i || big j) = true
    · rw [if_pos hb] at h
      exact op_mul pins s σ H _ _ v u Q I rx ry ⟨i, j, rfl, rfl, big_mul hb, PostE.now h rm rfl⟩
    · rw [if_neg hb] at h
      exact h.elim
  | fdiv =>
    simp only [binI] at h
    by_cases hb : j ≠ 0 ∧ j.natAbs < 1073741824
    · rw [if_pos hb] at h
      exact op_fdivN pins s σ H _ _ v u Q I rx ry ⟨i, j, rfl, rfl, hb, PostE.now h rm rfl⟩
    · rw [if_neg hb] at h
      exact h.elim
  | mod =>
    simp only [binI] at h
    by_cases hb : j ≠ 0
    · rw [if_pos hb] at h
      exact op_modN pins s σ H _ _ v u Q I rx ry ⟨i, j, rfl, rfl, hb, PostE.now h rm rfl⟩
    · rw [if_neg hb] at h
      exact h.elim
  | pow =>
    simp only [binI] at h
    by_cases hb : 0 ≤ j ∧ j ≤ 1000000 ∧ i.natAbs < 18446744073709551616
    · rw [if_pos hb] at h
      exact op_pow pins s σ H _ _ v u Q I rx ry ⟨i, j, rfl, rfl, ⟨hb.1, hb.2.1, by rw [pow64]; exact hb.2.2⟩, PostE.now h rm rfl⟩
    · rw [if_neg hb] at h
      exact h.elim
theorem op_bin (hK : X.K = S.K) (op : Bop) : OpR X (binaryOp (opOf op)) (rB S op) := by
  rintro pins s σ H x y v u Q I rx ry ⟨W, f, M, d, e, rm, rd, re, h⟩
  cases d with
  | int i =>
    cases rd
    cases e with
    | int j => cases re; exact op_int hK I rx ry rm h
    | _ => exact h.elim
  | str a =>
    cases rd
    cases e with
    | str b =>
      cases re
      cases op with
      | add =>
        have h : PostE S f H W (if a.length + b.length ≤ lim then .ok (.str (a ++ b)) M else .bad) Q := h
        by_cases hl : a.length + b.length ≤ lim
        · rw [if_pos hl] at h
          exact op_add_str pins s σ H _ _ v u Q I rx ry ⟨a, b, rfl, rfl, Nat.le_trans hl lim_line, PostE.now h rm rfl⟩
        · rw [if_neg hl] at h
          exact h.elim
      | _ => exact h.elim
    | _ => exact h.elim
  | tup ds =>
    obtain ⟨a, xs, rfl, hx, rs⟩ := rd
    cases e with
    | tup es =>
      obtain ⟨b, ys, rfl, hy, rs2⟩ := re
      cases op with
      | add =>
        obtain ⟨hl, h⟩ := tupR_ok (show PostE S f H W (tupR (ds ++ es) M) Q from h)
        rw [← hK] at hx hy
        have l1 := rs.length
        have l2 := rs2.length
        rw [List.length_append] at hl
        refine op_catA pins s σ H _ _ v u Q I rx ry ⟨a, b, xs, ys, rfl, rfl, hx, hy, Nat.le_trans (by omega) lim_line, fun e0 => ?_, fun e0 e1 => ?_, fun e0 e1 p np => ?_⟩
        · subst e0
          have : ds = [] := by cases ds with
            | nil => rfl
            | cons => simp at l1
          subst this
          exact h.now rm ⟨b, ys, rfl, by rw [← hK]; exact hy, rs2⟩
        · subst e1
          have : es = [] := by cases es with
            | nil => rfl
            | cons => simp at l2
          subst this
          rw [List.append_nil] at h
          exact h.now rm ⟨a, xs, rfl, by rw [← hK]; exact hx, rs⟩
        · exact new_tup rm (rs.append rs2) np h
      | _ => exact h.elim
    | int j =>
      cases re
      exact h.elim
    | _ => exact h.elim
  | ref i =>
    obtain ⟨a, ea, rfl⟩ := rd
    cases e with
    | ref j =>
      obtain ⟨b, eb, rfl⟩ := re
      cases op with
      | add =>
        have h : PostE S f H W (match M[i]?, M[j]? with
          | some (.lst x), some (.lst y) => newL (x ++ y) M
          | _, _ => .bad) Q := h
        cases e1 : M[i]? with
        | none => rw [e1] at h; exact h.elim
        | some o1 =>
          cases e2 : M[j]? with
          | none => rw [e1, e2] at h; cases o1 <;> exact h.elim
          | some o2 =>
            rw [e1, e2] at h
            cases o1 with
            | lst x =>
              cases o2 with
              | lst y =>
                obtain ⟨hl, h⟩ := newL_ok h
                obtain ⟨a', ea', xs, qx, rx1⟩ := rm.at_ i _ e1
                obtain ⟨b', eb', ys, qy, ry1⟩ := rm.at_ j _ e2
                rw [ea] at ea'; cases ea'
                rw [eb] at eb'; cases eb'
                have l1 := rx1.length
                have l2 := ry1.length
                rw [List.length_append] at hl
                exact op_cat pins s σ H _ _ v u Q I rx ry ⟨a, b, xs, ys, rfl, rfl, qx, qy, Nat.le_trans (by omega) lim_line, fun p np => new_lst rm (rx1.append ry1) np h⟩
              | _ => exact h.elim
            | _ => exact h.elim
      | _ => exact h.elim
    | int j =>
      cases re
      cases op with
      | mul =>
        have h : PostE S f H W (match M[i]? with
          | some (.lst x) => if 0 ≤ j ∧ x.length * j.toNat ≤ lim ∧ j < 1000000 then newL (times j.toNat x) M else .bad
          | _ => .bad) Q := h
        cases e1 : M[i]? with
        | none => rw [e1] at h; exact h.elim
        | some o1 =>
          rw [e1] at h
          cases o1 with
          | lst x =>
            have h : PostE S f H W (if 0 ≤ j ∧ x.length * j.toNat ≤ lim ∧ j < 1000000 then newL (times j.toNat x) M else .bad) Q := h
            by_cases hc : 0 ≤ j ∧ x.length * j.toNat ≤ lim ∧ j < 1000000
            · rw [if_pos hc] at h
              obtain ⟨hl, h⟩ := newL_ok h
              obtain ⟨a', ea', xs, qx, rx1⟩ := rm.at_ i _ e1
              rw [ea] at ea'; cases ea'
              have l1 := rx1.length
              have z : (2 : Int) ^ 63 = 9223372036854775808 := by decide
              exact op_rep pins s σ H _ _ v u Q I rx ry ⟨a, j, xs, rfl, rfl, qx, by rw [z]; omega, by rw [z]; omega, by rw [← l1]; exact Nat.le_trans hc.2.1 lim_line, fun p np => new_lst rm (rx1.replicate _) np h⟩
            · rw [if_neg hc] at h
              exact h.elim
          | _ => exact h.elim
      | _ => exact h.elim
    | _ => exact h.elim
  | _ => exact h.elim
/-! ### data -/
theorem Dp_list_of {K : PySem.W.Frag} : True := trivial
mutual
theorem toPd_ok {K : PySem.W.Frag} {k : Nat → Option PyData} (hk : ∀ i p v, k i = some p → RV K f H (.ref i) v → Dp K H v p) : ∀ (d : D) (p : PyData) (v : V), toPd k d = some p → RV K f H d v → Dp K H v p
  | .non, _, _, e, r => by cases e; cases r; exact .non
  | .bl b, _, _, e, r => by cases e; cases r; exact .bl b
  | .int i, _, _, e, r => by cases e; cases r; exact .int i
  | .str x, _, _, e, r => by cases e; cases r; exact .str x
  | .ref i, p, v, e, r => hk i p v e r
  | .fn g, _, _, e, _ => by cases e
  | .tup ds, p, v, e, r => by
    obtain ⟨a, xs, rfl, hx, rs⟩ := r
    unfold toPd at e
    cases q : toPds k ds with
    | none => rw [q] at e; cases e
    | some ps =>
      rw [q] at e
      cases e
      exact .tup hx (toPds_ok hk ds ps xs q rs)
theorem toPds_ok {K : PySem.W.Frag} {k : Nat → Option PyData} (hk : ∀ i p v, k i = some p → RV K f H (.ref i) v → Dp K H v p) : ∀ (ds : List D) (ps : List PyData) (xs : List V), toPds k ds = some ps → RVs K f H ds xs → DpAll K H xs ps
  | [], _, _, e, r => by cases e; cases r; exact .nil
  | d :: q, ps, xs, e, r => by
    obtain ⟨v, z, rfl, h1, h2⟩ := r
    unfold toPds at e
    cases e1 : toPd k d with
    | none => rw [e1] at e; cases e
    | some p =>
      rw [e1] at e
      cases e2 : toPds k q with
      | none => rw [e2] at e; cases e
      | some ps' =>
        rw [e2] at e
        cases e
        exact .cons (toPd_ok hk d p v e1 h1) (toPds_ok hk q ps' z e2 h2)
end
theorem toP_ok (rm : RM S f H M) : ∀ (n : Nat) (d : D) (p : PyData) (v : V), toP M n d = some p → RV S.K f H d v → Dp S.K H v p
  | 0, d, p, v, e, r => toPd_ok (fun i p v e _ => by cases e) d p v e r
  | n + 1, d, p, v, e, r => toPd_ok (fun i p v e r => by
      obtain ⟨a, ea, rfl⟩ := r
      cases q : listAt M i with
      | none => rw [q] at e; cases e
      | some ds =>
        rw [q] at e
        obtain ⟨xs, hx, rs⟩ := rm.list q ea
        have e : (toPds (fun j => toP M n (.ref j)) ds).map PyData.list = some p := e
        cases q2 : toPds (fun j => toP M n (.ref j)) ds with
        | none => rw [q2] at e; cases e
        | some ps =>
          rw [q2] at e
          cases e
          exact .lst hx (toPds_ok (fun j p v e r => toP_ok rm n (.ref j) p v e r) ds ps xs q2 rs)) d p v e r
theorem data_ok (rm : RM S f H M) {d : D} {p : PyData} {v : V} (e : data M d = some p) (r : RV S.K f H d v) : Dp S.K H v p ∧ SeqAt.shaped p = true := by
  unfold data at e
  cases q : toP M 12 d with
  | none => rw [q] at e; cases e
  | some p' =>
    rw [q] at e
    have e : (if SeqAt.shaped p' then some p' else none) = some p := e
    by_cases hs : SeqAt.shaped p' = true
    · rw [if_pos hs] at e
      cases e
      exact ⟨toP_ok rm _ _ _ _ q r, hs⟩
    · rw [if_neg hs] at e
      cases e
theorem datas_ok (rm : RM S f H M) {ds : List D} {ps : List PyData} {xs : List V} (e : datas M ds = some ps) (r : RVs S.K f H ds xs) : DpAll S.K H xs ps ∧ SeqAt.shaped (.list ps) = true := by
  unfold datas at e
  cases q : toPds (fun j => toP M 12 (.ref j)) ds with
  | none => rw [q] at e; cases e
  | some p' =>
    rw [q] at e
    have e : (if SeqAt.shaped (.list p') then some p' else none) = some ps := e
    by_cases hs : SeqAt.shaped (.list p') = true
    · rw [if_pos hs] at e
      cases e
      exact ⟨toPds_ok (fun j p v e r => toP_ok rm 12 (.ref j) p v e r) _ _ _ q r, hs⟩
    · rw [if_neg hs] at e
      cases e
end
end Mp

set_option Elab.async false
set_option linter.all false
set_option maxRecDepth 100000
set_option maxHeartbeats 1000000
/-! The small interpreter beside the layer: comparisons, truth, items. -/
namespace Mp
open PySem PySem.Spec PyProof.Rows L2

def copOf : Cop → CmpOp
  | .eq => .Eq
  | .ne => .NotEq
  | .lt => .Lt
  | .le => .LtE
  | .gt => .Gt
  | .ge => .GtE
  | .is => .Is
  | .isn => .IsNot
  | .isin => .In
  | .notin => .NotIn
section
variable {X : Cx} {S : Sg} {f : List Addr} {H : Hp} {M : Mem} {W : XK} {Q : VK} {pins : List (Addr × Obj)} {s : Shared} {σ : L2.St} {d e : D} {x y : V} {v u : Value}
theorem someB_ok {o : Option Bool} (h : PostE S f H W (someB o M) Q) (rm : RM S f H M) : ∃ b, o = some b ∧ Q (.bl b) H := by
  cases o with
  | none => exact h.elim
  | some b => exact ⟨b, rfl, PostE.now h rm rfl⟩
/-- == by scalars or by data -/
theorem eqD_cases {b : Bool} (h : eqD M d e = some b) : (∃ a c, d = .str a ∧ e = .str c ∧ b = decide (a = c)) ∨ (∃ a c, d = .int a ∧ e = .int c ∧ b = decide (a = c)) ∨ (∃ a c, d = .bl a ∧ e = .bl c ∧ b = (a == c)) ∨
    ∃ p q, data M d = some p ∧ data M e = some q ∧ b = PyData.eqv p q := by
  have gen : ((data M d).bind fun p => (data M e).map fun q => PyData.eqv p q) = some b → ∃ p q, data M d = some p ∧ data M e = some q ∧ b = PyData.eqv p q := fun h => by
    cases q1 : data M d with
    | none => rw [q1] at h; cases h
    | some p =>
      rw [q1] at h
      cases q2 : data M e with
      | none => rw [q2] at h; cases h
      | some q => rw [q2] at h; cases h; exact ⟨p, q, rfl, rfl, rfl⟩
  cases d with
  | str a =>
    cases e with
    | str c => exact .inl ⟨a, c, rfl, rfl, (Option.some.inj h).symm⟩
    | _ => exact .inr (.inr (.inr (gen h)))
  | int a =>
    cases e with
    | int c => exact .inr (.inl ⟨a, c, rfl, rfl, (Option.some.inj h).symm⟩)
    | _ => exact .inr (.inr (.inr (gen h)))
  | bl a =>
    cases e with
    | bl c => exact .inr (.inr (.inl ⟨a, c, rfl, rfl, (Option.some.inj h).symm⟩))
    | _ => exact .inr (.inr (.inr (gen h)))
  | _ => exact .inr (.inr (.inr (gen h)))
theorem dec_strD {a c : Str} : decide (V.str a = V.str c) = decide (a = c) := by
  by_cases h : a = c
  · subst h; simp
  · rw [decide_eq_false h, decide_eq_false fun z => h (V.str.inj z)]
theorem dec_intD {a c : Int} : decide (V.int a = V.int c) = decide (a = c) := by
  by_cases h : a = c
  · subst h; simp
  · rw [decide_eq_false h, decide_eq_false fun z => h (V.int.inj z)]
theorem dec_blD {a c : Bool} : decide (V.bl a = V.bl c) = (a == c) := by cases a <;> cases c <;> rfl
theorem cmp_eq (hK : X.K = S.K) (hu : X.A.units + 100 < cLine) (I : Inv X pins σ H s) (rx : RelV x v) (ry : RelV y u) (rm : RM S f H M) (rd : RV S.K f H d x) (re : RV S.K f H e y) {b : Bool} (h : eqD M d e = some b) (q : Q (.bl b) H) :
    wpAny (model X.prog X.w) X.A (compareOp .Eq v u) (EP X pins σ Q) X.xe s := by
  rcases eqD_cases h with ⟨a, c, rfl, rfl, rfl⟩ | ⟨a, c, rfl, rfl, rfl⟩ | ⟨a, c, rfl, rfl, rfl⟩ | ⟨p, r, e1, e2, rfl⟩
  · cases rd; cases re
    exact op_eq pins s σ H _ _ v u Q I rx ry ⟨rfl, by rw [dec_strD]; exact q⟩
  · cases rd; cases re
    exact op_eq pins s σ H _ _ v u Q I rx ry ⟨rfl, by rw [dec_intD]; exact q⟩
  · cases rd; cases re
    exact op_eq pins s σ H _ _ v u Q I rx ry ⟨rfl, by rw [dec_blD]; exact q⟩
  · obtain ⟨d1, s1⟩ := data_ok rm e1 rd
    obtain ⟨d2, s2⟩ := data_ok rm e2 re
    exact op_eqD (by omega) pins s σ H _ _ v u Q I rx ry ⟨p, r, by rw [hK]; exact d1, by rw [hK]; exact d2, s1, s2, q⟩
theorem cmp_ne (hK : X.K = S.K) (hu : X.A.units + 100 < cLine) (I : Inv X pins σ H s) (rx : RelV x v) (ry : RelV y u) (rm : RM S f H M) (rd : RV S.K f H d x) (re : RV S.K f H e y) {b : Bool} (h : eqD M d e = some b) (q : Q (.bl (!b)) H) :
    wpAny (model X.prog X.w) X.A (compareOp .NotEq v u) (EP X pins σ Q) X.xe s := by
  rcases eqD_cases h with ⟨a, c, rfl, rfl, rfl⟩ | ⟨a, c, rfl, rfl, rfl⟩ | ⟨a, c, rfl, rfl, rfl⟩ | ⟨p, r, e1, e2, rfl⟩
  · cases rd; cases re
    exact op_ne pins s σ H _ _ v u Q I rx ry ⟨rfl, by rw [dec_strD]; exact q⟩
  · cases rd; cases re
    exact op_ne pins s σ H _ _ v u Q I rx ry ⟨rfl, by rw [dec_intD]; exact q⟩
  · cases rd; cases re
    exact op_ne pins s σ H _ _ v u Q I rx ry ⟨rfl, by rw [dec_blD]; exact q⟩
  · obtain ⟨d1, s1⟩ := data_ok rm e1 rd
    obtain ⟨d2, s2⟩ := data_ok rm e2 re
    exact op_neD (by omega) pins s σ H _ _ v u Q I rx ry ⟨p, r, by rw [hK]; exact d1, by rw [hK]; exact d2, s1, s2, q⟩
/-! ### keys -/
theorem dkey_scal {k : NestedKey} (h : dkey d = some k) (r : RV S.K f H d x) : (isTupK k = true ∧ ∃ ds, d = .tup ds) ∨ (isTupK k = false ∧ ∃ q : Key, x = kV q ∧ (match q with
    | .inl i => k = .num i
    | .inr z => k = .text z)) := by
  cases d with
  | int i => cases h; cases r; exact .inr ⟨rfl, .inl i, rfl, rfl⟩
  | str z => cases h; cases r; exact .inr ⟨rfl, .inr z, rfl, rfl⟩
  | tup ds =>
    have h : (nkeys ds).map NestedKey.tup = some k := h
    cases q : nkeys ds with
    | none => rw [q] at h; cases h
    | some ks => rw [q] at h; cases h; exact .inl ⟨rfl, ds, rfl⟩
  | _ => cases h
def nkOf : Key → NestedKey
  | .inl i => .num i
  | .inr z => .text z
theorem nkOf_inj {a b : Key} (h : nkOf a = nkOf b) : a = b := by
  cases a <;> cases b <;> simp [nkOf] at h <;> rw [h]
theorem dkey_of {q : Key} (r : RV S.K f H d (kV q)) : dkey d = some (nkOf q) := by
  cases d with
  | int i => cases q <;> cases r; rfl
  | str z => cases q <;> cases r; rfl
  | non => cases q <;> cases r
  | bl b => cases q <;> cases r
  | ref i => obtain ⟨a, _, e⟩ := r; cases q <;> cases e
  | fn g => exact r.elim
  | tup ds => obtain ⟨a, _, e, _⟩ := r; cases q <;> cases e
theorem RK.find {K : PySem.W.Frag} {k : NestedKey} {q : Key} (hq : nkOf q = k) : ∀ {kvs : List (D × D)} {xs : List (Key × V)}, RK K f H kvs xs → (∀ v, kvFind k kvs = some v → ∃ w, valV xs q = some w ∧ RV K f H v w) ∧ (kvFind k kvs = none → valV xs q = none) := by
  intro kvs
  induction kvs with
  | nil =>
    intro xs h
    cases h
    exact ⟨(fun _ h => by cases h), fun _ => rfl⟩
  | cons p r ih =>
    intro xs h
    obtain ⟨a, d'⟩ := p
    obtain ⟨q', w, z, rfl, h0, h1, h2⟩ := h
    obtain ⟨i1, i2⟩ := ih h2
    have e0 := dkey_of (S := ⟨K, fun _ => none, fun _ => false, none⟩) h0
    by_cases hk : q' = q
    · subst hk
      have e : kvFind k ((a, d') :: r) = some d' := by
        unfold kvFind
        rw [e0, hq, if_pos rfl]
      have e2 : valV ((q', w) :: z) q' = some w := valV_pos rfl
      rw [e]
      exact ⟨(fun v hv => by cases hv; exact ⟨w, e2, h1⟩), (fun hv => by cases hv)⟩
    · have e : kvFind k ((a, d') :: r) = kvFind k r := by
        show (if dkey a = some k then _ else _) = _
        rw [e0, if_neg (fun z => hk (nkOf_inj ((Option.some.inj z).trans hq.symm)))]
      have e2 : valV ((q', w) :: z) q = valV z q := valV_neg hk
      rw [e, e2]
      exact ⟨i1, i2⟩
theorem putK_cons_pos {κ : Type} [DecidableEq κ] {p : κ × V} {r : List (κ × V)} {k : κ} {v : V} (e : p.1 = k) (n : k ∉ r.map (·.1)) : putK (p :: r) k v = (p.1, v) :: r := by
  have h1 : ((p :: r).any fun kv => decide (kv.1 = k)) = true := by simp [e]
  unfold putK
  rw [if_pos h1, List.map_cons, if_pos e]
  congr 1
  refine (List.map_congr_left fun x hx => ?_).trans (List.map_id r)
  have : ¬ x.1 = k := fun z => n (List.mem_map.mpr ⟨x, hx, z⟩)
  rw [if_neg this]
  rfl
theorem putK_cons_neg {κ : Type} [DecidableEq κ] {p : κ × V} {r : List (κ × V)} {k : κ} {v : V} (e : ¬ p.1 = k) : putK (p :: r) k v = p :: putK r k v := by
  have h1 : ((p :: r).any fun kv => decide (kv.1 = k)) = (r.any fun kv => decide (kv.1 = k)) := by simp [e]
  unfold putK
  rw [h1]
  by_cases h : (r.any fun kv => decide (kv.1 = k)) = true
  · rw [if_pos h, if_pos h, List.map_cons, if_neg e]
  · rw [if_neg h, if_neg h, List.cons_append]
theorem putK_nil {κ : Type} [DecidableEq κ] {k : κ} {v : V} : putK ([] : List (κ × V)) k v = [(k, v)] := by
  unfold putK
  simp
theorem mem_putK {κ : Type} [DecidableEq κ] {k j : κ} {v : V} : ∀ {r : List (κ × V)}, j ∈ (putK r k v).map (·.1) → j = k ∨ j ∈ r.map (·.1)
  | [], h => by rw [putK_nil] at h; simp at h; exact .inl h
  | p :: r, h => by
    unfold putK at h
    split at h
    · obtain ⟨x, hx, e⟩ := List.mem_map.mp h
      obtain ⟨y, hy, e2⟩ := List.mem_map.mp hx
      refine .inr (List.mem_map.mpr ⟨y, hy, ?_⟩)
      rw [← e, ← e2]
      split <;> rfl
    · rw [List.map_append, List.mem_append] at h
      rcases h with h | h
      · exact .inr h
      · simp at h; exact .inl h
theorem nodup_putK {κ : Type} [DecidableEq κ] {k : κ} {v : V} : ∀ {r : List (κ × V)}, (r.map (·.1)).Nodup → ((putK r k v).map (·.1)).Nodup
  | [], _ => by rw [putK_nil]; simp
  | p :: r, h => by
    rw [List.map_cons, List.nodup_cons] at h
    by_cases e : p.1 = k
    · rw [putK_cons_pos e (by rw [← e]; exact h.1), List.map_cons, List.nodup_cons]
      exact h
    · rw [putK_cons_neg e, List.map_cons, List.nodup_cons]
      refine ⟨fun hm => ?_, nodup_putK h.2⟩
      rcases mem_putK hm with z | z
      · exact e z
      · exact h.1 z
theorem RK.put {K : PySem.W.Frag} {k : NestedKey} {q : Key} (hq : nkOf q = k) {d v : D} {w : V} (rd : RV K f H d (kV q)) (rv : RV K f H v w) : ∀ {kvs : List (D × D)} {xs : List (Key × V)}, RK K f H kvs xs → (xs.map (·.1)).Nodup → RK K f H (kvPut k d v kvs) (putK xs q w) := by
  intro kvs
  induction kvs with
  | nil =>
    intro xs h _
    cases h
    rw [putK_nil]
    exact ⟨q, w, [], rfl, rd, rv, rfl⟩
  | cons p r ih =>
    intro xs h nd
    obtain ⟨a, d'⟩ := p
    obtain ⟨q', u, z, rfl, h0, h1, h2⟩ := h
    rw [List.map_cons, List.nodup_cons] at nd
    have e0 := dkey_of (S := ⟨K, fun _ => none, fun _ => false, none⟩) h0
    by_cases hk : q' = q
    · subst hk
      have e : kvPut k d v ((a, d') :: r) = (a, v) :: r := by
        show (if dkey a = some k then _ else _) = _
        rw [e0, hq, if_pos rfl]
      rw [e, putK_cons_pos rfl nd.1]
      exact ⟨q', w, z, rfl, h0, rv, h2⟩
    · have e : kvPut k d v ((a, d') :: r) = (a, d') :: kvPut k d v r := by
        show (if dkey a = some k then _ else _) = _
        rw [e0, if_neg (fun z => hk (nkOf_inj ((Option.some.inj z).trans hq.symm)))]
      rw [e, putK_cons_neg hk]
      exact ⟨q', u, putK z q w, rfl, h0, h1, ih h2 nd.2⟩
theorem RK.length {K : PySem.W.Frag} : ∀ {kvs : List (D × D)} {xs : List (Key × V)}, RK K f H kvs xs → kvs.length = xs.length
  | [], _, h => by cases h; rfl
  | (a, d) :: r, _, h => by
    obtain ⟨q, u, z, rfl, h0, h1, h2⟩ := h
    rw [List.length_cons, List.length_cons, RK.length h2]
/-- a key of this dict: an int or a text -/
theorem keyIn_ok {kvs : List (D × D)} {xs : List (Key × V)} (r : RK S.K f H kvs xs) {k : NestedKey} (h : keyIn kvs d = some k) (rd : RV S.K f H d x) : ∃ q, x = kV q ∧ nkOf q = k := by
  unfold keyIn at h
  cases e : dkey d with
  | none => rw [e] at h; cases h
  | some k1 =>
    rw [e] at h
    cases kvs with
    | nil =>
      have h : (if isTupK k1 then none else some k1) = some k := h
      by_cases hc : isTupK k1 = true
      · rw [if_pos hc] at h
        cases h
      · rw [if_neg hc] at h
        cases h
        rcases dkey_scal e rd with ⟨z1, _⟩ | ⟨_, q, e1, e2⟩
        · exact absurd z1 hc
        · refine ⟨q, e1, ?_⟩
          cases q <;> exact e2.symm
    | cons p r' =>
      obtain ⟨a, d'⟩ := p
      obtain ⟨q', u, z, rfl, h0, h1, h2⟩ := r
      have e0 := dkey_of h0
      have h : ((dkey a).bind fun k' => if isTupK k' = isTupK k1 then some k1 else none) = some k := h
      rw [e0] at h
      have h : (if isTupK (nkOf q') = isTupK k1 then some k1 else none) = some k := h
      by_cases hc : isTupK (nkOf q') = isTupK k1
      · rw [if_pos hc] at h
        cases h
        rcases dkey_scal e rd with ⟨z1, _⟩ | ⟨_, q, e1, e2⟩
        · rw [z1] at hc
          cases q' <;> cases hc
        · refine ⟨q, e1, ?_⟩
          cases q <;> exact e2.symm
      · rw [if_neg hc] at h
        cases h
end
end Mp

set_option Elab.async false
set_option linter.all false
set_option maxRecDepth 100000
set_option maxHeartbeats 1000000
/-! The small interpreter beside the layer: comparisons, truth, items by values. -/
namespace Mp
open PySem PySem.Spec PyProof.Rows L2
section
variable {X : Cx} {S : Sg} {f : List Addr} {H : Hp} {M : Mem} {W : XK} {Q : VK} {pins : List (Addr × Obj)} {s : Shared} {σ : L2.St} {d e : D} {x y : V} {v u : Value}
theorem anyEq_any (p : PyData) : ∀ qs : List PyData, anyEq p qs = qs.any fun z => PyData.eqv z p
  | [] => rfl
  | q :: r => by rw [anyEq, List.any_cons, anyEq_any p r]
theorem inSeq_ok {ds : List D} {b : Bool} (h : inSeq M d ds = some b) : ∃ p qs, data M d = some p ∧ datas M ds = some qs ∧ b = qs.any fun z => PyData.eqv z p := by
  unfold inSeq at h
  cases q1 : data M d with
  | none => rw [q1] at h; cases h
  | some p =>
    rw [q1] at h
    cases q2 : datas M ds with
    | none => rw [q2] at h; cases h
    | some qs => rw [q2] at h; cases h; exact ⟨p, qs, rfl, rfl, anyEq_any p qs⟩
theorem depth_list {qs : List PyData} (h : SeqAt.shaped (.list qs) = true) : PyData.canLayAll0 qs = true := SeqAt.canLay_of_shaped h
/-- in a dict: what is asked -/
theorem dct_at (rm : RM S f H M) {i : Nat} {kvs : List (D × D)} (h : dctAt M i = some kvs) {a : Addr} (ea : f[i]? = some a) : ∃ xs, H a = some (.dK xs) ∧ RK S.K f H kvs xs ∧ (xs.map (·.1)).Nodup := by
  unfold dctAt at h
  cases e : M[i]? with
  | none => rw [e] at h; cases h
  | some o =>
    obtain ⟨b, eb, r⟩ := rm.at_ i o e
    rw [ea] at eb; cases eb
    rw [e] at h
    cases o with
    | dct ds' =>
      cases h
      exact r
    | fdct ds' => exact r.elim
    | _ => cases h
theorem cmp_in (hK : X.K = S.K) (hu : X.A.units + 100 < cLine) (I : Inv X pins σ H s) (rx : RelV x v) (ry : RelV y u) (rm : RM S f H M) (rd : RV S.K f H d x) (re : RV S.K f H e y) {b : Bool} (h : inD M d e = some b) (neg : Bool) (q : Q (.bl (if neg then !b else b)) H) :
    wpAny (model X.prog X.w) X.A (compareOp (if neg then .NotIn else .In) v u) (EP X pins σ Q) X.xe s := by
  cases e with
  | tup ds =>
    obtain ⟨p, qs, e1, e2, rfl⟩ := inSeq_ok (show inSeq M d ds = some b from h)
    obtain ⟨a, xs, rfl, hx, rs⟩ := re
    obtain ⟨d1, s1⟩ := data_ok rm e1 rd
    obtain ⟨d2, s2⟩ := datas_ok rm e2 rs
    rw [← hK] at d1 d2 hx
    obtain ⟨as, r1⟩ := Dp.reads I p x v d1 rx
    obtain ⟨bs, r2⟩ := Dp.reads I (.tuple qs) (.ref a) u (.tup hx d2) ry
    have hroom : X.A.units + 1 + min (PyData.depthAll qs) p.depth < cLine := room_in_shaped s1 (by omega)
    cases neg with
    | true => exact SeqAt.notIn_tuple_reads r2 r1 (depth_list s2) (SeqAt.canLay_of_shaped s1) hroom ⟨.bl _, H, I, rfl, q⟩
    | false => exact SeqAt.in_tuple_reads r2 r1 (depth_list s2) (SeqAt.canLay_of_shaped s1) hroom ⟨.bl _, H, I, rfl, q⟩
  | str c =>
    cases d with
    | str z =>
      cases rd
      cases re
      have h : some (!(Builtin.Str.occurrences c z 0 c.length 1).isEmpty) = some b := h
      cases h
      cases neg with
      | true => exact op_notin_str pins s σ H _ _ v u Q I rx ry ⟨z, c, rfl, rfl, q⟩
      | false => exact op_in_str pins s σ H _ _ v u Q I rx ry ⟨z, c, rfl, rfl, q⟩
    | _ => cases h
  | ref i =>
    obtain ⟨a, ea, rfl⟩ := re
    have h : (match listAt M i with
      | some ds => inSeq M d ds
      | none => (dctAt M i).bind fun kvs => (keyIn kvs d).map fun k => (kvFind k kvs).isSome) = some b := h
    cases el : listAt M i with
    | some ds =>
      rw [el] at h
      obtain ⟨p, qs, e1, e2, rfl⟩ := inSeq_ok (show inSeq M d ds = some b from h)
      obtain ⟨xs, hx, rs⟩ := rm.list el ea
      obtain ⟨d1, s1⟩ := data_ok rm e1 rd
      obtain ⟨d2, s2⟩ := datas_ok rm e2 rs
      rw [← hK] at d1 d2 hx
      obtain ⟨as, r1⟩ := Dp.reads I p x v d1 rx
      obtain ⟨bs, r2⟩ := Dp.reads I (.list qs) (.ref a) u (.lst hx d2) ry
      have hroom : X.A.units + 1 + min (PyData.depthAll qs) p.depth < cLine := room_in_shaped s1 (by omega)
      cases neg with
      | true => exact SeqAt.notIn_list_reads r2 r1 (depth_list s2) (SeqAt.canLay_of_shaped s1) hroom ⟨.bl _, H, I, rfl, q⟩
      | false => exact SeqAt.in_list_reads r2 r1 (depth_list s2) (SeqAt.canLay_of_shaped s1) hroom ⟨.bl _, H, I, rfl, q⟩
    | none =>
      rw [el] at h
      cases ek : dctAt M i with
      | none => rw [ek] at h; cases h
      | some kvs =>
        rw [ek] at h
        obtain ⟨xs, hx, rk, nd⟩ := dct_at rm ek ea
        have h : (keyIn kvs d).map (fun k => (kvFind k kvs).isSome) = some b := h
        cases eq : keyIn kvs d with
        | none => rw [eq] at h; cases h
        | some k =>
          rw [eq] at h
          cases h
          obtain ⟨qk, rfl, e2⟩ := keyIn_ok rk eq rd
          obtain ⟨g1, g2⟩ := RK.find e2 rk
          have ev : (valV xs qk).isSome = (kvFind k kvs).isSome := by
            cases z : kvFind k kvs with
            | none => rw [g2 z] <;> rfl
            | some w =>
              obtain ⟨w', z2, _⟩ := g1 w z
              rw [z2]; rfl
          obtain rfl : u = Value.ref a := ry
          cases neg with
          | true => exact d_notIn (by omega) I (DGet.k hx) rx fun s' I' => ⟨.bl _, H, I', rfl, by rw [ev]; exact q⟩
          | false => exact d_in (by omega) I (DGet.k hx) rx fun s' I' => ⟨.bl _, H, I', rfl, by rw [ev]; exact q⟩
  | _ => cases h
/-- a comparison by the interpreter's answer -/
def rC (S : Sg) (op : Cop) : R2 := fun x y H Q => ∃ (W : XK) (f : List Addr) (M : Mem) (d e : D), RM S f H M ∧ RV S.K f H d x ∧ RV S.K f H e y ∧ PostE S f H W (someB (cmpD op d e M) M) Q
theorem is_non {K : PySem.W.Frag} {d : D} {x : V} (r : RV K f H d x) : decide (x = V.non) = decide (d = D.non) := by
  cases d with
  | non => cases r; rfl
  | bl b => cases r; rfl
  | int i => cases r; rfl
  | str x => cases r; rfl
  | ref i => obtain ⟨a, _, rfl⟩ := r; rfl
  | fn g => exact r.elim
  | tup ds => obtain ⟨a, xs, rfl, _⟩ := r; rfl
theorem lti {op : Cop} {b : Bool} (h : ltD op d e = some b) : ∃ i j, d = .int i ∧ e = .int j ∧ ltI op i j = some b := by
  cases d with
  | int i =>
    cases e with
    | int j => exact ⟨i, j, rfl, rfl, h⟩
    | _ => cases h
  | _ => cases h
theorem op_cmp (hK : X.K = S.K) (hu : X.A.units + 100 < cLine) (op : Cop) : OpR X (compareOp (copOf op)) (rC S op) := by
  rintro pins s σ H x y v u Q I rx ry ⟨W, f, M, d, e, rm, rd, re, h⟩
  obtain ⟨b, hb, q⟩ := someB_ok h rm
  cases op with
  | eq => exact cmp_eq hK hu I rx ry rm rd re hb q
  | ne =>
    have hb : (eqD M d e).map (!·) = some b := hb
    cases e1 : eqD M d e with
    | none => rw [e1] at hb; cases hb
    | some c => rw [e1] at hb; cases hb; exact cmp_ne hK hu I rx ry rm rd re e1 q
  | is =>
    cases e with
    | non =>
      cases re
      have hb : some (decide (d = .non)) = some b := hb
      cases hb
      exact op_isN pins s σ H _ _ v u Q I rx ry ⟨rfl, by rw [is_non rd]; exact q⟩
    | _ => cases hb
  | isn =>
    cases e with
    | non =>
      cases re
      have hb : some (!decide (d = .non)) = some b := hb
      cases hb
      exact op_notN pins s σ H _ _ v u Q I rx ry ⟨rfl, by rw [is_non rd]; exact q⟩
    | _ => cases hb
  | isin => exact cmp_in hK hu I rx ry rm rd re hb false q
  | notin =>
    have hb : (inD M d e).map (!·) = some b := hb
    cases e1 : inD M d e with
    | none => rw [e1] at hb; cases hb
    | some c => rw [e1] at hb; cases hb; exact cmp_in hK hu I rx ry rm rd re e1 true q
  | lt =>
    obtain ⟨i, j, rfl, rfl, hz⟩ := lti (op := .lt) hb
    cases rd; cases re; cases hz
    exact op_lt pins s σ H _ _ v u Q I rx ry ⟨i, j, rfl, rfl, q⟩
  | le =>
    obtain ⟨i, j, rfl, rfl, hz⟩ := lti (op := .le) hb
    cases rd; cases re; cases hz
    exact op_le pins s σ H _ _ v u Q I rx ry ⟨i, j, rfl, rfl, q⟩
  | gt =>
    obtain ⟨i, j, rfl, rfl, hz⟩ := lti (op := .gt) hb
    cases rd; cases re; cases hz
    exact op_gt pins s σ H _ _ v u Q I rx ry ⟨i, j, rfl, rfl, q⟩
  | ge =>
    obtain ⟨i, j, rfl, rfl, hz⟩ := lti (op := .ge) hb
    cases rd; cases re; cases hz
    exact op_ge pins s σ H _ _ v u Q I rx ry ⟨i, j, rfl, rfl, q⟩
/-! ### truth -/
theorem truth_ok (hK : X.K = S.K) (rm : RM S f H M) (rd : RV S.K f H d x) {b : Bool} (h : truth M d = some b) : TruV X.K x H b := by
  cases d with
  | non => cases rd; cases h; rfl
  | bl c => cases rd; cases h; rfl
  | int i => cases rd; cases h; rfl
  | str z =>
    cases rd
    have h : (if z.length ≤ lim then some ((z.length : Int) != 0) else none) = some b := h
    by_cases hl : z.length ≤ lim
    · rw [if_pos hl] at h
      cases h
      exact ⟨Nat.le_trans hl lim_line, rfl⟩
    · rw [if_neg hl] at h
      cases h
  | tup ds =>
    obtain ⟨a, xs, rfl, hx, rs⟩ := rd
    cases h
    refine .inr (.inl ⟨xs, by rw [hK]; exact hx, ?_⟩)
    have := rs.length
    cases ds <;> cases xs <;> simp at this <;> rfl
  | ref i =>
    obtain ⟨a, ea, rfl⟩ := rd
    have fin : ∀ {ds : List D}, listAt M i = some ds → b = !ds.isEmpty → TruV X.K (.ref a) H b := fun {ds} el eb => by
      obtain ⟨xs, hx, rs⟩ := rm.list el ea
      refine .inl ⟨xs, by rw [hK]; exact hx, ?_⟩
      rw [eb]
      have := rs.length
      cases ds <;> cases xs <;> simp at this <;> rfl
    have h : (match M[i]? with
      | some (.lst ds) => some (!ds.isEmpty)
      | some (.frz ds) => some (!ds.isEmpty)
      | _ => none) = some b := h
    cases e : M[i]? with
    | none => rw [e] at h; cases h
    | some o =>
      rw [e] at h
      cases o with
      | lst ds => cases h; exact fin (ds := ds) (by unfold listAt; rw [e]) rfl
      | frz ds => cases h; exact fin (ds := ds) (by unfold listAt; rw [e]) rfl
      | _ => cases h
  | fn g => cases h
/-! ### items -/
theorem at_I {α : Type} (xs : List α) (i : Int) : (if 0 ≤ i then xs[i.toNat]? else if 0 ≤ i + xs.length then xs[(i + xs.length).toNat]? else none) = atI xs i := by
  unfold atI ixN
  by_cases h : 0 ≤ i
  · rw [if_pos h, if_pos h]
    by_cases h2 : i < xs.length
    · rw [if_pos h2]; rfl
    · rw [if_neg h2]
      exact List.getElem?_eq_none (by omega)
  · rw [if_neg h, if_neg h]
    by_cases h2 : 0 ≤ i + xs.length
    · rw [if_pos h2, if_pos (show -(xs.length : Int) ≤ i by omega)]; rfl
    · rw [if_neg h2, if_neg (show ¬ -(xs.length : Int) ≤ i by omega)]; rfl
theorem at_RVs {K : PySem.W.Frag} {ds : List D} {xs : List V} {i : Int} {d : D} (r : RVs K f H ds xs) (h : at_ ds i = some d) : ∃ v, atI xs i = some v ∧ RV K f H d v := by
  rw [← at_I, ← r.length]
  unfold at_ at h
  by_cases h0 : 0 ≤ i
  · rw [if_pos h0] at h ⊢
    exact r.get h
  · rw [if_neg h0] at h ⊢
    by_cases h2 : 0 ≤ i + ds.length
    · rw [if_pos h2] at h ⊢
      exact r.get h
    · rw [if_neg h2] at h
      cases h
def rIxI (S : Sg) : R2 := fun x y H Q => ∃ (W : XK) (f : List Addr) (M : Mem) (d e : D), RM S f H M ∧ RV S.K f H d x ∧ RV S.K f H e y ∧ PostE S f H W (someR (idxD d e M) M) Q
theorem someR_ok {o : Option D} (h : PostE S f H W (someR o M) Q) : ∃ d, o = some d ∧ PostE S f H W (.ok d M) Q := by
  cases o with
  | none => exact h.elim
  | some d => exact ⟨d, rfl, h⟩
theorem ix_any (hK : X.K = S.K) (hu : X.A.units + 100 < cLine) : IxR X (rIxI S) := by
  rintro value slice pins s σ H x y v u Q I rx ry ⟨W, f, M, d, e, rm, rd, re, h⟩ hs
  obtain ⟨r, hr, hq⟩ := someR_ok h
  clear h
  cases d with
  | tup ds =>
    obtain ⟨a, xs, rfl, hx, rs⟩ := rd
    cases e with
    | int j =>
      cases re
      obtain ⟨w, e1, r1⟩ := at_RVs rs (show at_ ds j = some r from hr)
      exact ix_tup value slice pins s σ H _ _ v u Q I rx ry ⟨a, xs, j, w, rfl, rfl, by rw [hK]; exact hx, e1, hq.now rm r1⟩ hs
    | _ => cases hr
  | str z =>
    cases rd
    cases e with
    | int j =>
      cases re
      have hr : (if 0 ≤ j ∧ j < z.length ∧ z.length ≤ lim then some (D.str ⟨#[z.cps.getD j.toNat 0]⟩) else none) = some r := hr
      by_cases hc : 0 ≤ j ∧ j < z.length ∧ z.length ≤ lim
      · rw [if_pos hc] at hr
        cases hr
        have hl : j.toNat < z.cps.toList.length := by
          have : z.cps.toList.length = z.length := by rw [Array.length_toList]; rfl
          omega
        have e1 : atI z.cps.toList j = some (z.cps.getD j.toNat 0) := by
          rw [← at_I, if_pos hc.1, List.getElem?_eq_getElem hl]
          rw [Array.length_toList] at hl
          congr 1
          simp [Array.getD, hl]
        exact ix_str value slice pins s σ H _ _ v u Q I rx ry ⟨z, j, _, rfl, rfl, Nat.le_trans hc.2.2 lim_line, e1, hq.now rm rfl⟩ hs
      · rw [if_neg hc] at hr
        cases hr
    | _ => cases hr
  | ref i =>
    obtain ⟨a, ea, rfl⟩ := rd
    have hr : idxR i e M = some r := hr
    unfold idxR at hr
    cases el : listAt M i with
    | some ds =>
      rw [el] at hr
      cases e with
      | int j =>
        cases re
        obtain ⟨xs, hx, rs⟩ := rm.list el ea
        obtain ⟨w, e1, r1⟩ := at_RVs rs (show at_ ds j = some r from hr)
        exact ix_list value slice pins s σ H _ _ v u Q I rx ry ⟨a, xs, j, w, rfl, rfl, by rw [hK]; exact hx, e1, hq.now rm r1⟩ hs
      | _ => cases hr
    | none =>
      rw [el] at hr
      cases ek : dctAt M i with
      | none => rw [ek] at hr; cases hr
      | some kvs =>
        rw [ek] at hr
        have hr : ((keyIn kvs e).bind fun q => kvFind q kvs) = some r := hr
        obtain ⟨xs, hx, rk, nd⟩ := dct_at rm ek ea
        cases eq : keyIn kvs e with
        | none => rw [eq] at hr; cases hr
        | some k =>
          rw [eq] at hr
          obtain ⟨qk, rfl, e2⟩ := keyIn_ok rk eq re
          obtain ⟨w, g1, r1⟩ := (RK.find e2 rk).1 r hr
          obtain rfl : v = Value.ref a := rx
          obtain ⟨_, _, vs0, _, hmm⟩ := dk_rd I.hok (.inl hx)
          have g : DGet H a (kV qk) (some w) := by rw [← g1]; exact DGet.k hx
          exact tail_any hmm.typeIs PySem.F.slot_dict_getitem.lookup (d_getItem (by omega) I g ry fun w' s' I' rw' => ⟨w, H, I', rw', hq.now rm r1⟩) hs
  | _ => cases hr
end
end Mp

set_option Elab.async false
set_option linter.all false
set_option maxRecDepth 100000
set_option maxHeartbeats 1000000
/-! The small interpreter beside the layer: slices, isinstance, built-ins, stores by values. -/
namespace Mp
open PySem PySem.Spec PyProof.Rows L2
section
variable {X : Cx} {S : Sg} {T : Tab} {n : Nat} {Wx : WX} {f : List Addr} {H : Hp} {M : Mem} {W : XK} {Q : VK} {pins : List (Addr × Obj)} {s : Shared} {σ : L2.St} {d e : D} {x y : V} {v u : Value}
/-! ### slices -/
theorem cut_sIx (n : Nat) (lo hi : Option Int) : cut n lo hi = (HT.sIx n 0 lo, HT.sIx n n hi) := by
  have h : ∀ (d : Nat) (o : Option Int), cutAt n d o = HT.sIx n d o := fun d o => by
    cases o with
    | none => rfl
    | some i =>
      show clampI n i = HT.sIx n d (some i)
      unfold clampI HT.sIx
      by_cases h : 0 ≤ i
      · rw [if_pos h]
        show _ = if i < 0 then _ else _
        rw [if_neg (show ¬ i < 0 by omega)]
      · rw [if_neg h]
        show _ = if i < 0 then _ else _
        rw [if_pos (show i < 0 by omega)]
  unfold cut
  rw [h 0 lo, h n hi]
theorem cut_RVs {K : PySem.W.Frag} {ds : List D} {xs : List V} {lo hi : Option Int} (r : RVs K f H ds xs) : RVs K f H (cutL ds lo hi) (cutV xs lo hi) := by
  unfold cutL cutV
  rw [cut_sIx, ← r.length]
  exact (r.drop _).take _
theorem cutL_whole {α : Type} {ds : List α} {lo hi : Option Int} (h : HT.sIx ds.length 0 lo = 0 ∧ HT.sIx ds.length ds.length hi = ds.length) : cutL ds lo hi = ds := by
  unfold cutL
  rw [cut_sIx, h.1, h.2]
  simp
def rSlI (S : Sg) : V → Option Int → Option Int → Hp → VK → Prop := fun x lo hi H Q => ∃ (W : XK) (f : List Addr) (M : Mem) (d : D), RM S f H M ∧ RV S.K f H d x ∧ PostE S f H W (slcD d lo hi M) Q
theorem sl_any (hK : X.K = S.K) : SlR X (rSlI S) := by
  rintro pins s σ H x v vl vu lo hi sl Q I rx hs pl pu ⟨W, f, M, d, rm, rd, h⟩
  cases d with
  | tup ds =>
    obtain ⟨a, xs, rfl, hx, rs⟩ := rd
    have h : PostE S f H W (.ok (.tup (cutL ds lo hi)) M) Q := h
    refine sl_tupA pins s σ H _ v vl vu lo hi sl Q I rx hs pl pu ⟨a, xs, rfl, by rw [hK]; exact hx, fun hw => ?_, fun _ p np => new_tup rm (cut_RVs rs) np h⟩
    rw [← rs.length] at hw
    rw [cutL_whole hw] at h
    exact h.now rm ⟨a, xs, rfl, hx, rs⟩
  | str z =>
    cases rd
    have h : PostE S f H W (if z.length ≤ lim then .ok (.str ⟨(cutL z.cps.toList lo hi).toArray⟩) M else .bad) Q := h
    by_cases hl : z.length ≤ lim
    · rw [if_pos hl] at h
      have e : (⟨(cutL z.cps.toList lo hi).toArray⟩ : Str) = cutS z lo hi := by
        unfold cutL cutS
        rw [cut_sIx, Array.length_toList] <;> rfl
      rw [e] at h
      exact sl_str pins s σ H _ v vl vu lo hi sl Q I rx hs pl pu ⟨z, rfl, Nat.le_trans hl lim_line, PostE.now h rm rfl⟩
    · rw [if_neg hl] at h
      exact h.elim
  | ref i =>
    obtain ⟨a, ea, rfl⟩ := rd
    have h : PostE S f H W (match listAt M i with
      | some ds => newL (cutL ds lo hi) M
      | none => .bad) Q := h
    cases el : listAt M i with
    | none => rw [el] at h; exact h.elim
    | some ds =>
      rw [el] at h
      obtain ⟨xs, hx, rs⟩ := rm.list el ea
      obtain ⟨hl, h⟩ := newL_ok h
      exact sl_list pins s σ H _ v vl vu lo hi sl Q I rx hs pl pu ⟨a, xs, rfl, by rw [hK]; exact hx, fun p np => new_lst rm (cut_RVs rs) np h⟩
  | _ => exact h.elim
/-! ### isinstance -/
def tagV (S : Sg) : Ty → Option Value
  | .ty n => some (.type (tnS n))
  | .own c => (S.ca c).map .ref
theorem tag_ok (hK : X.K = S.K) (rm : RM S f H M) (rd : RV S.K f H d x) {t : Ty} (h : tagOf M d = some t) : ∃ w, tagV S t = some w ∧ TyX X.K H x w := by
  cases d with
  | non => cases rd; cases h; exact ⟨_, rfl, .base .non⟩
  | bl b => cases rd; cases h; exact ⟨_, rfl, .base (.bl b)⟩
  | int i => cases rd; cases h; exact ⟨_, rfl, .base (.int i)⟩
  | str z => cases rd; cases h; exact ⟨_, rfl, .base (.str z)⟩
  | fn g => exact rd.elim
  | tup ds =>
    obtain ⟨a, xs, rfl, hx, rs⟩ := rd
    cases h
    refine ⟨_, rfl, ?_⟩
    rw [hK]
    rcases hx with (e | ⟨o, e⟩) | ⟨o, its, n, e, c, _⟩
    · exact .base (.tup e)
    · exact .fTuple e
    · exact .kTuple e c
  | ref i =>
    obtain ⟨a, ea, rfl⟩ := rd
    have h : (match M[i]? with
      | some (.lst _) => some (.ty .list)
      | some (.frz _) => some (.ty .list)
      | some (.dct _) => some (.ty .dict)
      | some (.ins c _) => some (.own c)
      | _ => none) = some t := h
    cases e : M[i]? with
    | none => rw [e] at h; cases h
    | some o =>
      obtain ⟨b, eb, r⟩ := rm.at_ i o e
      rw [ea] at eb; cases eb
      rw [e] at h
      cases o with
      | lst ds =>
        cases h
        obtain ⟨xs, q, _⟩ := r
        exact ⟨_, rfl, .base (.lst q)⟩
      | frz ds =>
        cases h
        obtain ⟨xs, q, _⟩ := r
        refine ⟨_, rfl, ?_⟩
        rw [hK]
        rcases q with ⟨o, q⟩ | ⟨o, its, n, q, c, _⟩
        · exact .base (.frz q)
        · exact .kList q c
      | dct kvs =>
        cases h
        obtain ⟨xs, q, _⟩ := r
        exact ⟨_, rfl, .base (.dK q)⟩
      | ins c fs =>
        cases h
        obtain ⟨C, dx, xs, e1, q, _, cl, _⟩ := r
        refine ⟨.ref C, ?_, ?_⟩
        · show (S.ca c).map Value.ref = _
          rw [e1]; rfl
        · rw [hK]
          exact .base (.ins q cl.cls cl.ha cl.hn cl.htk cl.hm)
      | _ => cases h
theorem kit_tn {K : PySem.W.Frag} (a b : Tn) (hb : b ≠ .non) : PySem.W.kitOne K (.type (tnS a)) (.type (tnS b)) = some (isOf (.ty a) (.ty b)) := by
  refine kit_ty ?_
  cases a <;> cases b <;> first | exact absurd rfl hb | decide +kernel
/-- one class -/
theorem kit_one {hot : Bool} (A : Adm S T n Wx hot X) {t c : Ty} {w cv : Value} (ht : tagV S t = some w) (hc : tagV S c = some cv) (hn : c ≠ .ty .non) (it : ∀ c', t = .own c' → T.isC c' = true) (ic : ∀ c', c = .own c' → T.isC c' = true) : PySem.W.kitOne X.K w cv = some (isOf t c) := by
  cases t with
  | ty a =>
    cases ht
    cases c with
    | ty b => cases hc; exact kit_tn a b fun z => hn (by rw [z])
    | own c' =>
      cases e : S.ca c' with
      | none => simp [tagV, e] at hc
      | some C =>
        simp [tagV, e] at hc
        subst hc
        exact ((A.own c' C e (ic c' rfl)).1 a).1
  | own c0 =>
    cases e0 : S.ca c0 with
    | none => simp [tagV, e0] at ht
    | some C0 =>
      simp [tagV, e0] at ht
      subst ht
      cases c with
      | ty b => cases hc; exact ((A.own c0 C0 e0 (it c0 rfl)).1 b).2
      | own c' =>
        cases e : S.ca c' with
        | none => simp [tagV, e] at hc
        | some C =>
          simp [tagV, e] at hc
          subst hc
          exact (A.own c0 C0 e0 (it c0 rfl)).2 c' C e (ic c' rfl)
/-! ### built-ins by values -/
def rBl (S : Sg) (b : Str) : List V → Hp → VK → Prop := fun xs H Q => ∃ (W : XK) (f : List Addr) (M : Mem) (ds : List D), RM S f H M ∧ RVs S.K f H ds xs ∧ PostE S f H W (bltin b ds M) Q
theorem seq_ok (rm : RM S f H M) (rd : RV S.K f H d x) {ds : List D} (h : seqOf M d = some ds) : ∃ p ys, x = .ref p ∧ (SqL S.K H p ys ∨ SqT S.K H p ys) ∧ RVs S.K f H ds ys ∧ (SqT S.K H p ys → True) := by
  cases d with
  | tup es =>
    obtain ⟨a, xs, rfl, hx, rs⟩ := rd
    cases h
    exact ⟨a, xs, rfl, .inr hx, rs, fun _ => trivial⟩
  | ref i =>
    obtain ⟨a, ea, rfl⟩ := rd
    obtain ⟨xs, hx, rs⟩ := rm.list (show listAt M i = some ds from h) ea
    exact ⟨a, xs, rfl, .inl hx, rs, fun _ => trivial⟩
  | _ => cases h
theorem one_of {ds : List D} {xs : List V} {P : D → Prop} {Z : Prop} : True := trivial
theorem bools_ok : ∀ {ds : List D} {bs : List Bool} {xs : List V}, bools ds = some bs → RVs S.K f H ds xs → xs = bs.map V.bl
  | [], _, _, h, r => by cases h; cases r; rfl
  | .bl b :: q, bs, xs, h, r => by
    obtain ⟨v, z, rfl, h1, h2⟩ := r
    unfold bools at h
    cases e : bools q with
    | none => rw [e] at h; cases h
    | some bs' =>
      rw [e] at h
      cases h
      cases h1
      rw [bools_ok e h2] <;> rfl
  | .non :: _, _, _, h, _ => by cases h
  | .int _ :: _, _, _, h, _ => by cases h
  | .str _ :: _, _, _, h, _ => by cases h
  | .ref _ :: _, _, _, h, _ => by cases h
  | .fn _ :: _, _, _, h, _ => by cases h
  | .tup _ :: _, _, _, h, _ => by cases h
theorem nums_ok : ∀ {ds : List D} {bs : List Int} {xs : List V}, nums ds = some bs → RVs S.K f H ds xs → xs = bs.map V.int
  | [], _, _, h, r => by cases h; cases r; rfl
  | .int b :: q, bs, xs, h, r => by
    obtain ⟨v, z, rfl, h1, h2⟩ := r
    unfold nums at h
    cases e : nums q with
    | none => rw [e] at h; cases h
    | some bs' =>
      rw [e] at h
      cases h
      cases h1
      rw [nums_ok e h2] <;> rfl
  | .non :: _, _, _, h, _ => by cases h
  | .bl _ :: _, _, _, h, _ => by cases h
  | .str _ :: _, _, _, h, _ => by cases h
  | .ref _ :: _, _, _, h, _ => by cases h
  | .fn _ :: _, _, _, h, _ => by cases h
  | .tup _ :: _, _, _, h, _ => by cases h
theorem RVs.inj0 {K : PySem.W.Frag} {xs : List V} (h : RVs K f H [] xs) : xs = [] := h
theorem bl_len (hK : X.K = S.K) : CallR X (.builtin "len") (rBl S "len") := by
  rintro pins s σ H xs us Q I r ⟨W, f, M, ds, rm, rs, h⟩
  cases ds with
  | nil => exact h.elim
  | cons d q =>
    cases q with
    | cons _ _ => exact h.elim
    | nil =>
      obtain ⟨x, rfl, rd⟩ := rs.inj1
      have h : PostE S f H W (some1 ((lenD M d).map .int) M) Q := h
      have fin : ∀ {k : Int}, lenD M d = some k → Q (.int k) H := fun {k} e => by
        rw [e] at h
        exact PostE.now h rm rfl
      have seq : ∀ {es : List D}, seqOf M d = some es → lenD M d = some (es.length : Int) → wpAny (model X.prog X.w) X.A (call (.builtin "len") us) (EP X pins σ Q) X.xe s := fun {es} e1 e2 => by
        obtain ⟨p, ys, rfl, hq, r2, _⟩ := seq_ok rm rd e1
        rw [← hK] at hq
        exact call_len_seq pins s σ H _ us Q I r ⟨p, ys, rfl, hq, by rw [← r2.length]; exact fin e2⟩
      cases d with
      | tup es => exact seq rfl rfl
      | str z =>
        cases rd
        by_cases hl : z.length ≤ lim
        · have e : lenD M (.str z) = some (z.length : Int) := if_pos hl
          exact call_len pins s σ H _ us Q I r ⟨.str z, z.length, rfl, ⟨Nat.le_trans hl lim_line, rfl⟩, fin e⟩
        · have e : lenD M (.str z) = none := if_neg hl
          rw [e] at h
          exact h.elim
      | ref i =>
        have e : lenD M (.ref i) = (match M[i]? with
          | some (.lst ds) => some (ds.length : Int)
          | some (.frz ds) => some (ds.length : Int)
          | some (.dct kvs) => some (kvs.length : Int)
          | some (.fdct kvs) => some (kvs.length : Int)
          | _ => none) := rfl
        cases e1 : M[i]? with
        | none => rw [e, e1] at h; exact h.elim
        | some o =>
          rw [e1] at e
          cases o with
          | lst es => exact seq (es := es) (by show listAt M i = _; unfold listAt; rw [e1]) e
          | frz es => exact seq (es := es) (by show listAt M i = _; unfold listAt; rw [e1]) e
          | dct kvs =>
            obtain ⟨a, ea, rfl⟩ := rd
            obtain ⟨b, eb, ys, hx, rk, _⟩ := rm.at_ i _ e1
            rw [ea] at eb; cases eb
            exact call_lenD pins s σ H _ us Q I r ⟨a, ys, rfl, hx, by rw [← rk.length]; exact fin e⟩
          | fdct kvs =>
            obtain ⟨b, eb, z⟩ := rm.at_ i _ e1
            exact z.elim
          | _ => rw [e] at h; exact h.elim
      | _ => exact h.elim
theorem bl_tuple (hK : X.K = S.K) : CallR X (.type "tuple") (rBl S "tuple") := by
  rintro pins s σ H xs us Q I r ⟨W, f, M, ds, rm, rs, h⟩
  cases ds with
  | nil => exact h.elim
  | cons d q =>
    cases q with
    | cons _ _ => exact h.elim
    | nil =>
      obtain ⟨x, rfl, rd⟩ := rs.inj1
      have h : PostE S f H W (match seqOf M d with
        | some xs => .ok (.tup xs) M
        | none => .bad) Q := h
      cases e : seqOf M d with
      | none => rw [e] at h; exact h.elim
      | some es =>
        rw [e] at h
        obtain ⟨p, ys, rfl, hq, r2, _⟩ := seq_ok rm rd e
        refine call_tuple_of pins s σ H _ us Q I r ⟨p, ys, rfl, ?_⟩
        rcases hq with hq | hq
        · exact .inl ⟨by rw [hK]; exact hq, fun l nl => new_tup rm r2 nl h⟩
        · exact .inr ⟨by rw [hK]; exact hq, h.now rm ⟨p, ys, rfl, hq, r2⟩⟩
theorem bl_list (hK : X.K = S.K) : CallR X (.type "list") (rBl S "list") := by
  rintro pins s σ H xs us Q I r ⟨W, f, M, ds, rm, rs, h⟩
  cases ds with
  | nil => exact h.elim
  | cons d q =>
    cases q with
    | cons _ _ => exact h.elim
    | nil =>
      obtain ⟨x, rfl, rd⟩ := rs.inj1
      have h : PostE S f H W (match seqOf M d with
        | some xs => newL xs M
        | none => .bad) Q := h
      cases e : seqOf M d with
      | none => rw [e] at h; exact h.elim
      | some es =>
        rw [e] at h
        obtain ⟨hl, h⟩ := newL_ok h
        obtain ⟨p, ys, rfl, hq, r2, _⟩ := seq_ok rm rd e
        exact call_list_of pins s σ H _ us Q I r ⟨p, ys, rfl, by rw [hK]; exact hq, fun l nl => new_lst rm r2 nl h⟩
theorem bl_all (hK : X.K = S.K) (hc : X.calm = true) : CallR X (.builtin "all") (rBl S "all") := by
  rintro pins s σ H xs us Q I r ⟨W, f, M, ds, rm, rs, h⟩
  cases ds with
  | nil => exact h.elim
  | cons d q =>
    cases q with
    | cons _ _ => cases d <;> exact h.elim
    | nil =>
      obtain ⟨x, rfl, rd⟩ := rs.inj1
      cases d with
      | ref i =>
        obtain ⟨a, ea, rfl⟩ := rd
        have h : PostE S f H W (match (listAt M i).bind bools with
          | some bs => .ok (.bl (bs.all id)) M
          | none => .bad) Q := h
        cases e : listAt M i with
        | none => rw [e] at h; exact h.elim
        | some es =>
          rw [e] at h
          have h : PostE S f H W (match bools es with
            | some bs => .ok (.bl (bs.all id)) M
            | none => .bad) Q := h
          cases e2 : bools es with
          | none => rw [e2] at h; exact h.elim
          | some bs =>
            rw [e2] at h
            obtain ⟨ys, hx, r2⟩ := rm.list e ea
            rw [bools_ok e2 r2] at hx
            exact cr_all hc pins s σ H _ us Q I r ⟨a, bs, rfl, by rw [hK]; exact hx, PostE.now h rm rfl⟩
      | _ => exact h.elim
theorem bl_any (hK : X.K = S.K) (hc : X.calm = true) : CallR X (.builtin "any") (rBl S "any") := by
  rintro pins s σ H xs us Q I r ⟨W, f, M, ds, rm, rs, h⟩
  cases ds with
  | nil => exact h.elim
  | cons d q =>
    cases q with
    | cons _ _ => cases d <;> exact h.elim
    | nil =>
      obtain ⟨x, rfl, rd⟩ := rs.inj1
      cases d with
      | ref i =>
        obtain ⟨a, ea, rfl⟩ := rd
        have h : PostE S f H W (match (listAt M i).bind bools with
          | some bs => .ok (.bl (bs.any id)) M
          | none => .bad) Q := h
        cases e : listAt M i with
        | none => rw [e] at h; exact h.elim
        | some es =>
          rw [e] at h
          have h : PostE S f H W (match bools es with
            | some bs => .ok (.bl (bs.any id)) M
            | none => .bad) Q := h
          cases e2 : bools es with
          | none => rw [e2] at h; exact h.elim
          | some bs =>
            rw [e2] at h
            obtain ⟨ys, hx, r2⟩ := rm.list e ea
            rw [bools_ok e2 r2] at hx
            exact cr_any hc pins s σ H _ us Q I r ⟨a, bs, rfl, by rw [hK]; exact hx, PostE.now h rm rfl⟩
      | _ => exact h.elim
theorem bl_sum (hK : X.K = S.K) (hc : X.calm = true) : CallR X (.builtin "sum") (rBl S "sum") := by
  rintro pins s σ H xs us Q I r ⟨W, f, M, ds, rm, rs, h⟩
  cases ds with
  | nil => exact h.elim
  | cons d q =>
    cases q with
    | cons _ _ => cases d <;> exact h.elim
    | nil =>
      obtain ⟨x, rfl, rd⟩ := rs.inj1
      cases d with
      | ref i =>
        obtain ⟨a, ea, rfl⟩ := rd
        have h : PostE S f H W (match (listAt M i).bind nums with
          | some bs => .ok (.int bs.sum) M
          | none => .bad) Q := h
        cases e : listAt M i with
        | none => rw [e] at h; exact h.elim
        | some es =>
          rw [e] at h
          have h : PostE S f H W (match nums es with
            | some bs => .ok (.int bs.sum) M
            | none => .bad) Q := h
          cases e2 : nums es with
          | none => rw [e2] at h; exact h.elim
          | some bs =>
            rw [e2] at h
            obtain ⟨ys, hx, r2⟩ := rm.list e ea
            rw [nums_ok e2 r2] at hx
            exact cr_sum hc pins s σ H _ us Q I r ⟨a, bs, rfl, by rw [hK]; exact hx, PostE.now h rm rfl⟩
      | _ => exact h.elim
theorem bl_int : CallR X (.type "int") (rBl S "int") := by
  rintro pins s σ H xs us Q I r ⟨W, f, M, ds, rm, rs, h⟩
  cases ds with
  | nil => exact h.elim
  | cons d q =>
    cases q with
    | cons _ _ => cases d <;> exact h.elim
    | nil =>
      obtain ⟨x, rfl, rd⟩ := rs.inj1
      cases d with
      | int i =>
        cases rd
        exact call_int1 pins s σ H _ us Q I r (.inl ⟨i, rfl, PostE.now (S := S) (W := W) (show PostE S f H W (.ok (.int i) M) Q from h) rm rfl⟩)
      | bl b =>
        cases rd
        exact call_int1 pins s σ H _ us Q I r (.inr ⟨b, rfl, PostE.now (S := S) (W := W) (show PostE S f H W (.ok (.int (if b then 1 else 0)) M) Q from h) rm rfl⟩)
      | _ => exact h.elim
end
end Mp

set_option Elab.async false
set_option linter.all false
set_option maxRecDepth 100000
set_option maxHeartbeats 1000000
/-! The small interpreter beside the layer: calls whose exceptions are wished for at the slots; the text beside Python's. -/
namespace Mp
open PySem PySem.Spec PyProof.Rows L2
section
variable {X : Cx} {k : Nat} {g C : Addr} {fd : FuncData} {ps : List Str} {sp : Sp} {Z : L2.St → XK} {x m : Str} {p pos apos : Pos} {e o : Expr} {es : List Expr} {ta : TE} {t : TA}
abbrev CXo (X : Cx) : CXT := L2.CX X.prog X.w
/-- a call's end, looked at from its caller -/
theorem call_end {pins : List (Addr × Obj)} {σ : L2.St} {H : Hp} {s s' : Shared} {Q : VK} {r : Result} (hx : PassesAt (CXo X) X σ (Z σ)) (I : Inv X pins σ H s) (hz : CR (CXo X) X.stack X.prog X.w H s Q (Z σ) r s') (R : Value → Shared → Prop)
    (hR : ∀ u s', EP X pins σ Q u s' → R u s') : (match r with
      | .ok (.ret u) => R u s'
      | .ok _ => False
      | .error z => X.xe z s') := by
  cases r with
  | error z => exact hx pins H s z s' I hz
  | ok fl => cases fl with
    | ret u => exact hR _ _ (I.after hz)
    | next => exact (show False from hz).elim
    | brk => exact (show False from hz).elim
    | cont => exact (show False from hz).elim
theorem makeS {pins : List (Addr × Obj)} {σ : L2.St} {H : Hp} {s : Shared} {Q : VK} {us : List Value} {vs : List V} (mk : Mk X.K C g) (F : FnOk X.prog X.w X.K X.mg X.base (CXo X) k g fd ps sp) (room : Room (k + 1) X.A) (bi : Binds X.K fd ps [])
    (hx : PassesAt (CXo X) X σ (Z σ)) (I : Inv X pins σ H s) (r : Vals vs us)
    (h : ∀ a b, H a = none → H b = none → b ≠ a → sp (.ref a :: vs) (upd (upd H b (.own a)) a (.ins C b [])) (fun v H2 => v = .non ∧ Q (.ref a) H2) (Z σ)) :
    wpAny (model X.prog X.w) X.A (call (.ref C) us) (EP X pins σ Q) X.xe s := by
  have h0 := h (s.heap.objs.size + 1) s.heap.objs.size (I.hok.fresh (Nat.le_succ _)) (I.hok.fresh (Nat.le_refl _)) (Nat.ne_of_lt (Nat.lt_succ_self _))
  have J := Inv.made (C := C) I
  have rv : Vals (V.ref (s.heap.objs.size + 1) :: vs) (Value.ref (s.heap.objs.size + 1) :: us) := .cons rfl r
  have len : (Value.ref (s.heap.objs.size + 1) :: us).length = ps.length := rv.length.symm.trans (F.len _ _ _ _ h0)
  have b := bi _ (Value.ref (s.heap.objs.size + 1) :: us) J.kIn (by rw [List.append_nil]; exact len)
  rw [List.append_nil] at b
  have run := F.run _ X.stack _ _ ⟨Value.ref (s.heap.objs.size + 1) :: us, []⟩ _ _ _ _ (room.make C us []) (J.env0.make C us []) b rv h0
  refine wpAny_call (make_map I.kIn mk.makes mk.init (beq_iff_eq.mp mk.fn) (codeAny_mono run fun fl s' hz => ?_))
  cases fl with
  | error z => exact hx pins _ _ z s' J hz
  | ok fl => cases fl with
    | ret u =>
      obtain ⟨v, H', J2, r2, ev, q⟩ := J.after hz
      cases ev
      exact ⟨r2, V.ref (s.heap.objs.size + 1), H', J2, rfl, q⟩
    | next => exact (show False from hz).elim
    | brk => exact (show False from hz).elim
    | cont => exact (show False from hz).elim
def tMkS (C : Addr) (sp : Sp) (Z : L2.St → XK) (t : TA) : TE := fun σ H Q => t σ H fun vs H1 => ∀ a b, H1 a = none → H1 b = none → b ≠ a →
  sp (.ref a :: vs) (upd (upd H1 b (.own a)) a (.ins C b [])) (fun v H2 => v = .non ∧ Q (.ref a) H2) (Z σ)
theorem pe_mkS (mk : Mk X.K C g) (F : FnOk X.prog X.w X.K X.mg X.base (CXo X) k g fd ps sp) (room : Room (k + 1) X.A) (hg : Gl X x) (hm : X.mg x = some (.ref C)) (bi : Binds X.K fd ps []) (hx : ∀ σ, PassesAt (CXo X) X σ (Z σ)) (ha : PA X (e :: es) t)
    (hdb : (x == ("__debug__" : Str)) = false) (he : starEach (e :: es) X.env = (false, eval e X.env) :: starEach es X.env) (hpl : (backTo pos (starEach es X.env)).any (·.1) = false) :
    PE X (.Call (.Name x p) (e :: es) [] pos) (tMkS C sp Z t) :=
  ⟨fun pins s σ H Q I h => wpAny_Call_Name_kw (ld_glob I hg hm (PySem.W.callWith_K (h₀ := X.base) I.ok.mod.kin mk.kp (thn (ha.run pos pins s σ H _ I h) fun us s1 ⟨vs, H1, I1, r, q⟩ => ⟨I1.kIn, makeS mk F room bi (hx σ) I1 r q⟩) he hpl) hdb)⟩
def tMtS (C : Addr) (m : Str) (sp : Sp) (Z : L2.St → XK) (ta : TE) (t : TA) : TE := fun σ H Q => ta σ H fun x H1 => ∃ a b fs, x = .ref a ∧ H1 a = some (.ins C b fs) ∧ fs.lookup m = none ∧ t σ H1 fun vs H2 => sp (x :: vs) H2 Q (Z σ)
theorem pe_mtS {pl : Sem Bool} (ho : PE X o ta) (c : Cls X.K C) (hm : Meth X.K C m g) (F : FnOk X.prog X.w X.K X.mg X.base (CXo X) k g fd ps sp) (room : Room k X.A) (bi : Binds X.K fd ps []) (hx : ∀ σ, PassesAt (CXo X) X σ (Z σ)) (ha : PA X (e :: es) t)
    (he : starEach (e :: es) X.env = (false, eval e X.env) :: starEach es X.env) (hpl : (backTo pos (starEach es X.env)).any (·.1) = false)
    (ht : eval (.Call (.Attribute o m apos) (e :: es) [] pos) X.env = (do
      let w ← eval o X.env
      standAt apos.atName
      let (z, first) ← holding [w] (getMethod w m pl)
      callWith pos z first (backTo pos (starEach (e :: es) X.env)) (backToKw pos (keywordEach [] X.env)))) :
    PE X (.Call (.Attribute o m apos) (e :: es) [] pos) (tMtS C m sp Z ta t) := by
  refine ⟨fun pins s σ H Q I h => PySem.W.methodCall_KW (pl := pl) (thn (ho.run pins s σ H _ I h) fun u s1 ⟨y, H1, I1, ry, a, b, fs, ey, ea, l, q⟩ => ?_) ht⟩
  cases ey
  cases ry
  refine getmeth_ok I1 ea c hm l (PySem.W.callWith_K (first := [.ref a]) (h₀ := X.base) I.ok.mod.kin hm.kp (thn (ha.run pos pins s1 σ H1 _ I1 q) fun us s2 ⟨vs, H2, I2, r, q2⟩ => ⟨I2.kIn, ?_⟩) he hpl)
  exact run_fnS (us := .ref a :: us) (vs := .ref a :: vs) F room bi (hx σ) I2 (.cons rfl r) q2
theorem pe_mtS0 {pl : Sem Bool} (ho : PE X o ta) (c : Cls X.K C) (hm : Meth X.K C m g) (F : FnOk X.prog X.w X.K X.mg X.base (CXo X) k g fd ps sp) (room : Room k X.A) (bi : Binds X.K fd ps []) (hx : ∀ σ, PassesAt (CXo X) X σ (Z σ))
    (ht : eval (.Call (.Attribute o m apos) [] [] pos) X.env = (do
      let w ← eval o X.env
      standAt apos.atName
      let (z, first) ← holding [w] (getMethod w m pl)
      callWith pos z first (backTo pos (starEach [] X.env)) (backToKw pos (keywordEach [] X.env)))) :
    PE X (.Call (.Attribute o m apos) [] [] pos) (tMtS C m sp Z ta tNil) := by
  refine ⟨fun pins s σ H Q I h => PySem.W.methodCall_KW (pl := pl) (thn (ho.run pins s σ H _ I h) fun u s1 ⟨y, H1, I1, ry, a, b, fs, ey, ea, l, q⟩ => ?_) ht⟩
  cases ey
  cases ry
  exact getmeth_ok I1 ea c hm l (PySem.W.callWith_K0 (first := [.ref a]) I1.kIn hm.kp (run_fnS (us := [.ref a]) (vs := [.ref a]) F room bi (hx σ) I1 (.cons rfl .nil) q))
end
/-! ### the text beside Python's -/
def plainX : Expr → Bool
  | .Set .. => false
  | .Starred .. => false
  | .Slice .. => false
  | .SetComp .. => false
  | .Await .. => false
  | .GeneratorExp .. => false
  | .NamedExpr .. => false
  | _ => true
section
variable {x : Expr} (h : plainX x = true)
include h
theorem plain_star (xs : List Expr) (env : PySem.Env) : starEach (x :: xs) env = (false, eval x env) :: starEach xs env := by
  cases x <;> first | rfl | cases h
theorem plain_mark (op : CmpOp) : behindInMarks op x = false := by
  cases x <;> first | rfl | cases h
theorem plain_ix (o i : Value) : subscripted x false o i = operate [o, i] (getItem o i) := by
  cases x <;> first | rfl | cases h
theorem plain_fold (env : PySem.Env) (v : Value) : foldedSetIterable x env v = pure v := by
  cases x <;> first | rfl | cases h
end
theorem plain_any (pos : Pos) (env : PySem.Env) : ∀ {xs : List Expr}, xs.all plainX = true → (backTo pos (starEach xs env)).any (·.1) = false
  | [], _ => rfl
  | x :: r, h => by
    rw [List.all_cons, Bool.and_eq_true] at h
    rw [plain_star h.1]
    show (false || (backTo pos (starEach r env)).any (·.1)) = false
    rw [plain_any pos env h.2]
    rfl
theorem plain_all (pos : Pos) (env : PySem.Env) : ∀ {xs : List Expr}, xs.all plainX = true → (backTo pos (starEach xs env)).all (fun z => !z.1) = true
  | [], _ => rfl
  | x :: r, h => by
    rw [List.all_cons, Bool.and_eq_true] at h
    rw [plain_star h.1]
    show (true && (backTo pos (starEach r env)).all (fun z => !z.1)) = true
    rw [plain_all pos env h.2]
    rfl
def baseOk : Expr → Bool
  | .Call (.Name _ _) [] [] _ => false
  | _ => true
theorem base_ok {o : Expr} (h : baseOk o = true) (m : Str) (env : PySem.Env) (w : Sem Value) : attributeBase o m env w = w := by
  unfold attributeBase
  split
  · rename_i id p pos
    cases h
  · rfl
/-- how a method's call looks -/
theorem eval_meth {o : Expr} {m : Str} {apos pos : Pos} {args : List Expr} {env : PySem.Env} (hb : baseOk o = true) (hp : args.all plainX = true) (hl : args.length < 20) (hline : (apos.endLine == pos.line) = true) :
    eval (.Call (.Attribute o m apos) args [] pos) env = (do
      let w ← eval o env
      standAt apos.atName
      let (z, first) ← holding [w] (getMethod w m (do return (← importBound o env).getD true))
      callWith pos z first (backTo pos (starEach args env)) (backToKw pos (keywordEach [] env))) := by
  have few : methodCallForm (args.length + ([] : List Keyword).length) (backTo pos (starEach args env)) (backToKw pos (keywordEach [] env)) = true := by
    unfold methodCallForm
    rw [plain_all pos env hp]
    show (true && (true && decide (args.length + 0 + 0 < 30))) = true
    rw [decide_eq_true (by omega)]
    rfl
  rw [arm_eval_Call, base_ok hb]
  congr 1
  funext w
  congr 1
  funext _
  unfold methodCall calleeOf methodCallPos
  rw [few, hline]
  simp only [if_pos, Bool.not_true, Bool.false_or, pure_bind]
end Mp

set_option Elab.async false
set_option linter.all false
set_option maxRecDepth 100000
set_option maxHeartbeats 1000000
/-! The small interpreter beside the layer: the text beside Python's. -/
namespace Mp
open PySem PySem.Spec PyProof.Rows L2
def testOk : E → Bool
  | .ife _ _ _ => false
  | .not a => testOk a
  | .and a b => testOk a && testOk b
  | .or a b => testOk a && testOk b
  | _ => true
def bopC : Bop → Operator → Bool
  | .add, .Add => true
  | .sub, .Sub => true
  | .mul, .Mult => true
  | .fdiv, .FloorDiv => true
  | .mod, .Mod => true
  | .pow, .Pow => true
  | _, _ => false
def copC : Cop → CmpOp → Bool
  | .eq, .Eq => true
  | .ne, .NotEq => true
  | .lt, .Lt => true
  | .le, .LtE => true
  | .gt, .Gt => true
  | .ge, .GtE => true
  | .is, .Is => true
  | .isn, .IsNot => true
  | .isin, .In => true
  | .notin, .NotIn => true
  | _, _ => false
def cstC : Cst → Const → Bool
  | .non, .none => true
  | .bl a, .bool b => a == b
  | .int a, .int b => decide (a = b)
  | .str a, .str b => decide (a = b)
  | _, _ => false
def tnN : Tn → Str
  | .non => "NoneType"
  | .int => "int"
  | .bool => "bool"
  | .str => "str"
  | .list => "list"
  | .tuple => "tuple"
  | .dict => "dict"
/-- a class's name -/
def tyC (sc : Scope) : Ty → Expr → Bool
  | .ty n, .Name x _ => decide (n ≠ .non) && decide (x = tnN n) && gl sc x
  | .own c, .Name x _ => decide (x = c) && gl sc x && plainN x
  | _, _ => false
def tysC (sc : Scope) : List Ty → List Expr → Bool
  | [], [] => true
  | t :: r, x :: q => tyC sc t x && tysC sc r q
  | _, _ => false
def tgC (N : List Str) (sc : Scope) (i : Nat) : Expr → Bool
  | .Name x _ => decide (N[i]? = some x) && (match sc.names.lookup x with
    | some .local => true
    | some .cell => true
    | _ => false)
  | _ => false
def tgtC (N : List Str) (sc : Scope) : Tg → Expr → Bool
  | .nm i, x => tgC N sc i x
  | .tu [.nm i], .Tuple [a] _ _ => tgC N sc i a
  | .tu [.nm i, .nm j], .Tuple [a, b] _ _ => tgC N sc i a && tgC N sc j b
  | .tu [.nm i, .nm j, .nm k], .Tuple [a, b, c] _ _ => tgC N sc i a && tgC N sc j b && tgC N sc k c
  | .tu [.nm i, .tu [.nm j, .nm k]], .Tuple [a, .Tuple [b, c] _ _] _ _ => tgC N sc i a && tgC N sc j b && tgC N sc k c
  | _, _ => false
def ownP (N : List Str) (own : List Nat) : List (Str × Nat) := own.filterMap fun i => (N[i]?).map fun x => (x, i)
def ownC (N : List Str) (sc scope : Scope) (own : List Nat) : Bool := blkC N sc scope (ownP N own) && decide ((ownP N own).map (·.2) = own)
def isBn (b : Str) : Bool := (["len", "tuple", "list", "all", "any", "sum", "int", "dict"] : List Str).contains b
/-- what isinstance asks for -/
def isiC (sc : Scope) (ts : List Ty) : Expr → Bool
  | .Tuple zs _ _ => zs.all plainX && tysC sc ts zs && decide (zs.length < 100)
  | z => (match ts with
      | [t] => plainX z && tyC sc t z
      | _ => false)
def tgSlots : Tg → List Nat
  | .nm i => [i]
  | .tu [.nm i] => [i]
  | .tu [.nm i, .nm j] => [i, j]
  | .tu [.nm i, .nm j, .nm k] => [i, j, k]
  | .tu [.nm i, .tu [.nm j, .nm k]] => [i, j, k]
  | _ => []
def iTup : Ie → Bool
  | .enum _ => true
  | .zip _ _ => true
  | .items _ => true
  | _ => false
def isTupX : Expr → Bool
  | .Tuple _ _ _ => true
  | _ => false
def isOne : Gs → Bool
  | .one _ _ _ _ => true
  | _ => false
mutual
def chkE (N : List Str) : E → Scope → Expr → Bool
  | .var i, sc, .Name x _ => decide (N[i]? = some x) && vis sc x && plainN x
  | .cst c, _, .Constant c' _ _ => cstC c c'
  | .glo g, sc, .Name x _ => decide (x = g) && gl sc x && plainN x
  | .bin op a b, sc, .BinOp x op' y _ => bopC op op' && chkE N a sc x && chkE N b sc y
  | .neg a, sc, .UnaryOp .USub x _ => chkE N a sc x
  | .not a, sc, .UnaryOp .Not x _ => chkE N a sc x
  | .and a b, sc, .BoolOp .And (x :: y :: r) p => chkE N a sc x && (match r with
    | [] => chkE N b sc y
    | _ :: _ => chkE N b sc (.BoolOp .And (y :: r) p))
  | .or a b, sc, .BoolOp .Or (x :: y :: r) p => chkE N a sc x && (match r with
    | [] => chkE N b sc y
    | _ :: _ => chkE N b sc (.BoolOp .Or (y :: r) p))
  | .cmp op a b, sc, .Compare x [op'] [y] _ => copC op op' && plainX y && chkE N a sc x && chkE N b sc y
  | .chn o1 o2 a b c, sc, .Compare x [p1, p2] [y, z] _ => copC o1 p1 && copC o2 p2 && plainX y && plainX z && chkE N a sc x && chkE N b sc y && chkE N c sc z
  | .ife c a b, sc, .IfExp z x y _ => testOk c && chkE N c sc z && chkE N a sc x && chkE N b sc y
  | .tup es, sc, .Tuple xs _ _ => chkEs N es sc xs
  | .lst es, sc, .List xs _ => chkEs N es sc xs
  | .dct es, sc, .Dict ks vs _ => decide (ks.length ≤ 15) && (match ks with
    | [] => (match es with
      | .nil => vs.isEmpty
      | _ => false)
    | _ :: _ => chkKV N es sc ks vs)
  | .idx a i, sc, .Subscript x y _ => plainX y && chkE N a sc x && chkE N i sc y
  | .slc a lo hi, sc, .Subscript x (.Slice l h none _) _ => chkE N a sc x && chkO N lo sc l && chkO N hi sc h
  | .att a f, sc, .Attribute x g _ => decide (f = g) && baseOk x && chkE N a sc x
  | .call f es, sc, .Call (.Name x _) (y :: ys) [] _ => decide (f = x) && gl sc x && plainN x && (y :: ys).all plainX && chkEs N es sc (y :: ys)
  | .mk c es, sc, .Call (.Name x _) (y :: ys) [] _ => decide (c = x) && gl sc x && plainN x && (y :: ys).all plainX && chkEs N es sc (y :: ys)
  | .mth o m es, sc, .Call (.Attribute x m' ap) ys [] p => decide (m = m') && baseOk x && ys.all plainX && decide (ys.length < 20) && (ap.endLine == p.line) && chkE N o sc x && chkEs N es sc ys
  | .blt b es, sc, .Call (.Name x _) (y :: ys) [] _ => decide (b = x) && gl sc x && isBn b && (y :: ys).all plainX && chkEs N es sc (y :: ys)
  | .isi a ts, sc, .Call (.Name x _) [y, z] [] _ => decide (x = ("isinstance" : Str)) && gl sc x && plainX y && chkE N a sc y && isiC sc ts z
  | .un k a, sc, .Call (.Name x _) [.Call (.Attribute y m ap) [] [] cp] [] _ => decide (k = "items") && decide (x = ("list" : Str)) && gl sc x && decide (m = ("items" : Str)) && baseOk y && (ap.endLine == cp.line) && chkE N a sc y
  | .lc elt gs, sc, .ListComp x gens scope _ => chkG N gs sc scope gens && chkE N elt (relS scope sc) x
  | .dc ke ve gs, sc, .DictComp x y gens scope _ => isOne gs && chkG N gs sc scope gens && chkE N ke (relS scope sc) x && chkE N ve (relS scope sc) y
  | _, _, _ => false
def chkEs (N : List Str) : Es → Scope → List Expr → Bool
  | .nil, _, [] => true
  | .cons true e r, sc, .Starred x _ :: xs => chkE N e sc x && chkEs N r sc xs
  | .cons false e r, sc, x :: xs => plainX x && chkE N e sc x && chkEs N r sc xs
  | _, _, _ => false
/-- pairs of a display -/
def chkKV (N : List Str) : Es → Scope → List (Option Expr) → List Expr → Bool
  | .nil, _, [], [] => true
  | .cons false k (.cons false v r), sc, some x :: ks, y :: vs => plainX x && plainX y && chkE N k sc x && chkE N v sc y && chkKV N r sc ks vs
  | _, _, _, _ => false
def chkO (N : List Str) : Oe → Scope → Option Expr → Bool
  | .none, _, none => true
  | .some e, sc, some x => chkE N e sc x
  | _, _, _ => false
def chkI (N : List Str) : Ie → Scope → Expr → Bool
  | .rng1 a, sc, .Call (.Name x _) [y] [] _ => decide (x = ("range" : Str)) && gl sc x && plainX y && chkE N a sc y
  | .rng2 a b, sc, .Call (.Name x _) [y, z] [] _ => decide (x = ("range" : Str)) && gl sc x && plainX y && plainX z && chkE N a sc y && chkE N b sc z
  | .enum a, sc, .Call (.Name x _) [y] [] _ => decide (x = ("enumerate" : Str)) && gl sc x && plainX y && chkE N a sc y
  | .zip a b, sc, .Call (.Name x _) [y, z] [] _ => decide (x = ("zip" : Str)) && gl sc x && plainX y && plainX z && chkE N a sc y && chkE N b sc z
  | .seq e, sc, x => plainX x && chkE N e sc x
  | _, _, _ => false
/-- the clauses of a comprehension: the first one's source stands outside -/
def chkG (N : List Str) : Gs → Scope → Scope → List Comprehension → Bool
  | .one own t it ifs, sc, scope, [⟨tg, iter, is, k⟩] => (k == 0) && ownC N sc scope own && (tgSlots t).all own.contains && (!iTup it || isTupX tg) && plainX iter && tgtC N scope t tg && chkI N it sc iter && chkTs N ifs (relS scope sc) is
  | .more own t it ifs (.one own1 t1 it1 ifs1), sc, scope, [⟨tg, iter, is, k⟩, ⟨tg1, iter1, is1, k1⟩] => (k == 0) && (k1 == 0) && ownC N sc scope own && (tgSlots t).all own.contains && own1.all own.contains && (tgSlots t1).all own1.contains &&
      (!iTup it || isTupX tg) && (!iTup it1 || isTupX tg1) && plainX iter && plainX iter1 && tgtC N scope t tg && tgtC N scope t1 tg1 && chkI N it sc iter && chkTs N ifs (relS scope sc) is && chkI N it1 (relS scope sc) iter1 && chkTs N ifs1 (relS scope sc) is1
  | _, _, _, _ => false
def chkTs (N : List Str) : Es → Scope → List Expr → Bool
  | .nil, _, [] => true
  | .cons _ e .nil, sc, [x] => testOk e && chkE N e sc x
  | _, _, _ => false
end
end Mp

set_option Elab.async false
set_option linter.all false
set_option maxRecDepth 100000
set_option maxHeartbeats 2000000
/-! The small interpreter beside the layer: own == and own truth. -/
namespace Mp
open PySem PySem.Spec PyProof.Rows L2
section
variable {prog : Program} {w : World} {A : Around} {E : Value → Shared → Prop} {s : Shared} {K : PySem.W.Frag} {x C f : Addr} {ox : Obj} {od : Option Obj} {b : Value}
/-- a special method that is a built-in's, found along an own class -/
theorem bound_builtin {M : Model} {id : String} {name : Str} {args : List Value} {Q : Option Value → Shared → Prop} (X : K.In s.heap) (I : PySem.W.InstAt s.heap x ox C od) (hs : PySem.W.findIn K (.ref C) name = some (some (.builtin id)))
    (sl : Slot "object" name id) (h : wpAny M A (call (.builtin id) (.ref x :: args)) (fun v => Q (some v)) E s) : wpAny M A (callSpecialIfBound? (.ref x) name args) Q E s := by
  simp only [callSpecialIfBound?, bindSpecialIfBound?]
  refine wpAny_holding (wpAny_bind (wpAny_bind (wpAny_bind (I.type.here ((PySem.W.looks_findIn X hs).here ?_)))))
  refine wpAny_bind (wpAny_askSetting (wpAny_ite ?_))
  have last : wpAny M A (call (.builtin id) ([.ref x] ++ args) >>= fun v => pure (some v)) Q E s := wpAny_bind (wpAny_mono h (fun v s' z => wpAny_pure z) fun _ _ z => z)
  split
  · exact wpAny_bind (wpAny_of_eq (sl.bind _) (wpAny_pure (by exact last)))
  · exact wpAny_tryCatch (wpAny_bind (wpAny_of_eq (sl.bind _) (wpAny_pure (by exact last))))
def isB (Q : Bool → Shared → Prop) (v : Value) (s' : Shared) : Prop := ∃ r, v = .bool r ∧ Q r s'
theorem ne_body {Q : Fin → Shared → Prop} (hu : A.units < cLine) (X : K.In s.heap) (I : PySem.W.InstAt s.heap x ox C od) (hs : PySem.W.findIn K (.ref C) "__eq__" = some (some (.ref f))) (hf : PySem.W.isFn K (.ref f) = true)
    (h : wpAny (model prog w) A (call (.ref f) [.ref x, b]) (isB fun r s' => Q (.done (.ret (.bool (!r)))) s') E s) : wpAny (model prog w) A (Builtin.«object.__ne__» ⟨[.ref x, b], []⟩) Q E s := by
  unfold Builtin.«object.__ne__»
  repeat (first
    | with_reducible refine wpAny_cRoomFor hu ?_
    | (refine wpAny_bind (m := callSpecialIfBound? (.ref x) (Str.ofString "__eq__") [b])
        (PySem.W.ifBound_K X I hs hf (wpAny_mono h (fun r s' z => by
          obtain ⟨r, rfl, q⟩ := z
          repeat (first | exact q | exact wpAny_pure q | exact wpAny_truthy_bool q | (refine wpAny_bind (m := truthy (.bool _)) (wpAny_truthy_bool ?_)) | wp_step)) fun _ _ e => e)))
    | wp_step)
theorem ne_own {h₀ : Heap} {L : Addr} {m : Str → Option Value} {tb : Value} {Q : Value → Shared → Prop} (hu : A.units + 1 < cLine) (F : Fr h₀ L s.heap m) (X₀ : K.In h₀) (I : PySem.W.InstAt s.heap x ox C od) (hb : PySem.W.Looks (model prog w) s.heap (typeOf b) tb)
    (hn : PySem.W.notFirst K C tb = true) (hm : PySem.W.mroIn K C (.type "object") = some true) (hne : PySem.W.findIn K (.ref C) "__ne__" = some (some (.builtin "object.__ne__")))
    (hs : PySem.W.findIn K (.ref C) "__eq__" = some (some (.ref f))) (hf : PySem.W.isFn K (.ref f) = true)
    (h : wpAny (model prog w) A.in1 (call (.ref f) [.ref x, b]) (isB fun r s' => Q (.bool (!r)) s') E s) : wpAny (model prog w) A (richCompare .NotEq (.ref x) b) Q E s := by
  have X := X₀.keeps F.keep
  have one : wpAny (model prog w) A (tryCompare (.ref x) "__ne__" b) (fun r s' => ∃ v, r = some v ∧ Q v s') E s := by
    unfold tryCompare
    refine wpAny_bind (bound_builtin X I hne PySem.F.cmp_object.ne (wpAny_call (codeAny_call_builtin PySem.F.cmp_object.ne.plain PySem.F.cmpEntry_ne
      (PySem.W.check_slot PySem.F.cmpKind_ne PySem.F.cmpSplit_ne (I.type.andThen (PySem.W.looks_mroIn X hm)) (PySem.F.cmpArgs_ne _ _) (ne_body (A := A.in1) hu X I hs hf (wpAny_mono h (fun v s' z => ?_) fun _ _ e => e))))))
    obtain ⟨r, rfl, q⟩ := z
    exact ⟨r, rfl, wpAny_pure ⟨_, rfl, q⟩⟩
  unfold richCompare
  simp only [oneThing_ref]
  refine wpAny_holding (wpAny_bind (wpAny_cRoomFor (Nat.lt_of_succ_lt hu) ?_))
  rw [cmpInfo_NotEq]
  dsimp only
  refine wpAny_bind (I.type.here (wpAny_bind (hb.here ?_)))
  split
  · rename_i q
    have e : PySem.W.subIn K tb (.ref C) = some false := by
      rcases Bool.or_eq_true_iff.mp hn with e | e
      · rw [beq_iff_eq.mp e] at q; simp at q
      · exact beq_iff_eq.mp e
    refine wpAny_bind ((PySem.W.looks_subIn X e).here ?_)
    simp only [Bool.false_eq_true, if_false]
    refine wpAny_bind (wpAny_mono one (fun r s' z => ?_) fun _ _ e => e)
    obtain ⟨v, rfl, hq⟩ := z
    exact wpAny_pure hq
  · refine wpAny_bind (wpAny_pure ?_)
    simp only [Bool.false_eq_true, if_false]
    refine wpAny_bind (wpAny_mono one (fun r s' z => ?_) fun _ _ e => e)
    obtain ⟨v, rfl, hq⟩ := z
    exact wpAny_pure hq
end
section
variable {S : Sg} {T : Tab} {n : Nat} {W : WX} {hot : Bool} {X : Cx} {pins : List (Addr × Obj)} {σ : L2.St} {H : Hp} {s : Shared} {f : List Addr} {M : Mem}
theorem callD_len {k : Nat} {g : Fn} {d : Df} (e : T.df g = some d) {ds : List D} {M : Mem} {f : List Addr} {H : Hp} {Wx : XK} {Q : VK} (h : PostE S f H Wx (callD T k g ds M) Q) : ds.length = d.pars := by
  cases k with
  | zero => exact h.elim
  | succ k =>
    rw [callD_succ, e] at h
    by_cases hl : ds.length = d.pars
    · exact hl
    · have h : PostE S f H Wx (if ds.length = d.pars then _ else .bad) Q := h
      rw [if_neg hl] at h
      exact h.elim
/-- a def called somewhere below: it may not raise -/
theorem own_run {A : Around} {k : Nat} {fa : Addr} {fd : FuncData} {ps : List Str} {p : Nat} {g : Fn} {us : List Value} {vs : List V} {ds : List D} {Q : VK} (room : Room k A) (fr : A.frames = X.A.frames) (F : FnOk X.prog X.w X.K X.mg X.base (CXo X) k fa fd ps (spI S (callD T k) p g))
    (bi : Binds X.K fd ps []) (I : Inv X pins σ H s) (r : Vals vs us) (rm : RM S f H M) (rs : RVs S.K f H ds vs) (hl : vs.length = p) (h : PostE S f H (fun _ _ _ => False) (callD T k g ds M) Q) : wpAny (model X.prog X.w) A (call (.ref fa) us) (EP X pins σ Q) X.xe s := by
  have sp : spI S (callD T k) p g vs H Q (fun _ _ _ => False) := ⟨hl, f, M, ds, rm, rs, h⟩
  have e0 : Env0 X.prog X.w X.K X.mg X.base A X.stack s H := by
    have e := I.env0
    exact ⟨by rw [fr]; exact e.frames, e.mod, e.bs, e.bsz, e.funs, e.frf, e.hok, e.bare⟩
  have h2 : us.length = ps.length := by rw [← r.length]; exact F.len _ _ _ _ sp
  have b := bi s us I.kIn (by rw [List.append_nil]; exact h2)
  rw [List.append_nil] at b
  refine wpAny_call (codeAny_mono (F.run A X.stack s H ⟨us, []⟩ us vs Q _ room e0 b r sp) fun r s' hq => ?_)
  cases r with
  | error e =>
    obtain ⟨_, _, _, _, _, _, _, _, _, _, _, _, z⟩ := (show L2.CX X.prog X.w X.stack H s (fun _ _ _ => False) e s' from hq)
    exact z.elim
  | ok fl => cases fl with
    | ret u => exact I.after hq
    | next => exact (show False from hq).elim
    | brk => exact (show False from hq).elim
    | cont => exact (show False from hq).elim
theorem boolR_ok {r : R D} {Wx : XK} {neg : Bool} {Q : Bool → Hp → Prop} (h : PostB S f H Wx (boolR neg r) Q) : PostE S f H (fun _ _ _ => False) r (fun v H' => ∃ b, v = .bl b ∧ Q (if neg then !b else b) H') := by
  cases r with
  | bad => exact h
  | exc x m => exact (show False from h).elim
  | ok d m =>
    cases d with
    | bl b =>
      intro f1 H1 v a rm p rv
      exact ⟨b, rv, h f1 H1 a rm p⟩
    | _ => exact h.elim
theorem ownAt_of {d : D} {c : Str} (h : ownAt M d = some c) : ∃ i fs, d = .ref i ∧ M[i]? = some (.ins c fs) := by
  cases d with
  | ref i =>
    have h : (match M[i]? with
      | some (.ins c _) => some c
      | _ => none) = some c := h
    cases e : M[i]? with
    | none => rw [e] at h; cases h
    | some o =>
      rw [e] at h
      cases o with
      | ins c' fs => cases h; exact ⟨i, fs, rfl, e⟩
      | _ => cases h
  | _ => cases h
theorem cold_has {g : Fn} (h : (wdh T n hot).has g = true) : ∃ k d, n = k + 1 ∧ hot = false ∧ T.df g = some d ∧ (wdh T n hot).make = callD T k := by
  cases hot with
  | true => cases h
  | false => cases n with
    | zero => cases h
    | succ k =>
      have h : (T.df g).isSome = true := h
      obtain ⟨d, e⟩ := Option.isSome_iff_exists.mp h
      exact ⟨k, d, rfl, rfl, e, rfl⟩
/-- the truth of a value, by the interpreter -/
def rT (S : Sg) (w : Wd) : V → Hp → (Bool → Hp → Prop) → Prop := fun x H Q => ∃ (W : XK) (f : List Addr) (M : Mem) (d : D), RM S f H M ∧ RV S.K f H d x ∧ PostB S f H W (truthE w d M) Q
theorem tru_E (A : Adm S T n W hot X) : TruR X (rT S (wdh T n hot)) := by
  rintro pins s σ H x v Q I rx ⟨Wx, f, M, d, rm, rd, h⟩
  have h : PostB S f H Wx (match (generalizing := false) ownAt M d with
    | some c => if (wdh T n hot).has (c, some "__bool__") then boolR false ((wdh T n hot).make (c, some "__bool__") [d] M) else .bad
    | none => (match truth M d with
      | some b => .ok b M
      | none => .bad)) Q := h
  cases e : ownAt M d with
  | none =>
    rw [e] at h
    cases q : truth M d with
    | none => rw [q] at h; exact h.elim
    | some k =>
      rw [q] at h
      exact tru_ok pins s σ H x v Q I rx ⟨k, truth_ok A.K rm rd q, h f H (List.prefix_refl _) rm Pres.refl⟩
  | some c =>
    rw [e] at h
    obtain ⟨i, fs, rfl, ei⟩ := ownAt_of e
    by_cases hh : (wdh T n hot).has (c, some "__bool__") = true
    · have h : PostB S f H Wx (if (wdh T n hot).has (c, some "__bool__") then boolR false ((wdh T n hot).make (c, some "__bool__") [.ref i] M) else .bad) Q := h
      rw [if_pos hh] at h
      obtain ⟨k, df, rfl, rfl, edf, emk⟩ := cold_has hh
      rw [emk] at h
      obtain ⟨fa, fd, ps, hl, kp, bi, F, C, eC, hm⟩ := (A.fns1 rfl _ _ edf).ok
      rw [if_neg (by decide)] at hm
      obtain ⟨a, ea, C', dx, xs, e1, q1, _⟩ := rm.at_ i _ ei
      rw [eC] at e1; cases e1
      obtain ⟨a', ea', rfl⟩ := id rd
      rw [ea] at ea'; cases ea'
      cases rx
      obtain ⟨mA, J, _⟩ := ins_get I.hok q1
      obtain ⟨od, J, _⟩ := J.look
      obtain ⟨m, hF⟩ := I.fr
      have hb := boolR_ok h
      have hl1 : df.pars = 1 := by
        have := callD_len edf hb
        simpa using this.symm
      refine PySem.W.truthy_K hF I.ok.mod.kin J hm.2.at_ hm.2.fn (wpAny_mono (own_run ((A.room rfl).mono (Nat.le_succ _)) rfl F bi I (.cons (show RelV (.ref a) (.ref a) from rfl) .nil) rm (RVs.one rd) hl1.symm hb) (fun u s' z => ?_) fun _ _ z => z)
      obtain ⟨y, H', I', ry, b, rfl, q⟩ := z
      cases ry
      exact ⟨H', I', q⟩
    · have h : PostB S f H Wx (if (wdh T n hot).has (c, some "__bool__") then boolR false ((wdh T n hot).make (c, some "__bool__") [.ref i] M) else .bad) Q := h
      rw [if_neg hh] at h
      exact h.elim
/-- a comparison, by the interpreter -/
def rCE (S : Sg) (w : Wd) (op : Cop) : R2 := fun x y H Q => ∃ (W : XK) (f : List Addr) (M : Mem) (d e : D), RM S f H M ∧ RV S.K f H d x ∧ RV S.K f H e y ∧ PostE S f H W (cmpE w op d e M) Q
theorem tag_own {c : Str} {C : Addr} (e : S.ca c = some C) : tagV S (.own c) = some (.ref C) := by
  show (S.ca c).map Value.ref = _
  rw [e] <;> rfl
theorem not_first (A : Adm S T n W hot X) {c : Str} {C : Addr} {t : Ty} {w : Value} (eC : S.ca c = some C) (iC : T.isC c = true) (ht : tagV S t = some w) (it : ∀ c', t = .own c' → T.isC c' = true) : PySem.W.notFirst X.K C w = true := by
  have hk := kit_one A (c := .own c) ht (show tagV S (.own c) = some (.ref C) from tag_own eC) (fun z => by cases z) it (fun c' z => by cases z; exact iC)
  unfold PySem.W.notFirst
  rw [Bool.or_eq_true]
  by_cases q : (w == .ref C) = true
  · exact .inl q
  · right
    unfold PySem.W.kitOne at hk
    rw [if_neg q] at hk
    by_cases hz : t = .own c
    · subst hz
      have : tagV S (.own c) = some (.ref C) := tag_own eC
      rw [this] at ht
      cases ht
      exact absurd (beq_self_eq_true _) q
    · have e : isOf t (.own c) = false := by
        cases t with
        | ty a => cases a <;> rfl
        | own c' =>
          show decide (c' = c) = false
          exact decide_eq_false fun z => hz (by rw [z])
      rw [e] at hk
      unfold PySem.W.kitCls at hk
      dsimp only at hk
      split at hk
      · rw [hk]; rfl
      · cases hk
theorem isC_of (A : Adm S T n W hot X) {f : List Addr} {H : Hp} {M : Mem} (rm : RM S f H M) {d : D} {t : Ty} (h : tagOf M d = some t) : ∀ c', t = .own c' → T.isC c' = true := by
  rintro c' rfl
  cases d with
  | ref i =>
    have h : (match M[i]? with
      | some (.lst _) => some (.ty .list)
      | some (.frz _) => some (.ty .list)
      | some (.dct _) => some (.ty .dict)
      | some (.ins c _) => some (.own c)
      | _ => none) = some (Ty.own c') := h
    cases e : M[i]? with
    | none => rw [e] at h; cases h
    | some o =>
      rw [e] at h
      cases o with
      | ins c fs =>
        cases h
        obtain ⟨b, _, C, dx, xs, e1, q, _, _, _, z⟩ := rm.at_ i _ e
        rw [A.isC]
        exact z
      | _ => cases h
  | _ => cases h
/-- the type of what is compared -/
theorem ty_look {x : V} {u t : Value} (I : Inv X pins σ H s) (rx : RelV x u) (ty : TyX X.K H x t) : PySem.W.Looks (model X.prog X.w) s.heap (typeOf u) t := by
  obtain ⟨P, kx, p, _⟩ := kit_of I rx ty
  exact kx.ty _ _ I.kIn p
theorem blR_ok {r : R Bool} {Wx : XK} {Q : VK} (h : PostE S f H Wx (blR r) Q) : PostB S f H Wx r (fun b H' => Q (.bl b) H') := by
  cases r with
  | bad => exact h
  | exc x m => exact h
  | ok b m => exact fun f1 H1 a rm p => h f1 H1 (.bl b) a rm p rfl
theorem op_cmpE (A : Adm S T n W hot X) (op : Cop) : OpR X (compareOp (copOf op)) (rCE S (wdh T n hot) op) := by
  rintro pins s σ H x y v u Q I rx ry ⟨Wx, f, M, d, e, rm, rd, re, h⟩
  have plain : PostE S f H Wx (someB (cmpD op d e M) M) Q → wpAny (model X.prog X.w) X.A (compareOp (copOf op) v u) (EP X pins σ Q) X.xe s := fun h => op_cmp A.K A.units op pins s σ H x y v u Q I rx ry ⟨Wx, f, M, d, e, rm, rd, re, h⟩
  have h : PostE S f H Wx (match (generalizing := false) ownOp op, ownAt M d with
    | some neg, some c => if (wdh T n hot).has (c, some "__eq__") && (tagOf M e).isSome then blR (boolR neg ((wdh T n hot).make (c, some "__eq__") [d, e] M)) else .bad
    | _, _ => someB (cmpD op d e M) M) Q := h
  cases eo : ownOp op with
  | none => rw [eo] at h; exact plain h
  | some neg =>
    rw [eo] at h
    cases ed : ownAt M d with
    | none => rw [ed] at h; exact plain h
    | some c =>
      rw [ed] at h
      clear plain
      have h : PostE S f H Wx (if (wdh T n hot).has (c, some "__eq__") && (tagOf M e).isSome then blR (boolR neg ((wdh T n hot).make (c, some "__eq__") [d, e] M)) else .bad) Q := h
      by_cases hc : ((wdh T n hot).has (c, some "__eq__") && (tagOf M e).isSome) = true
      case neg => rw [if_neg hc] at h; exact h.elim
      rw [if_pos hc] at h
      rw [Bool.and_eq_true] at hc
      obtain ⟨hh, ht⟩ := hc
      obtain ⟨t, et⟩ := Option.isSome_iff_exists.mp ht
      obtain ⟨k, df, rfl, rfl, edf, emk⟩ := cold_has hh
      rw [emk] at h
      obtain ⟨i, fs, rfl, ei⟩ := ownAt_of ed
      obtain ⟨fa, fd, ps, hl, kp, bi, F, C, eC, hm⟩ := (A.fns1 rfl _ _ edf).ok
      rw [if_neg (by decide)] at hm
      obtain ⟨a, ea, C', dx, xs, e1, q1, _, cl, _, ic⟩ := rm.at_ i _ ei
      rw [eC] at e1; cases e1
      obtain ⟨a', ea', rfl⟩ := id rd
      rw [ea] at ea'; cases ea'
      have rx' : v = Value.ref a := rx
      subst rx'
      obtain ⟨mA, J, _⟩ := ins_get I.hok q1
      obtain ⟨od, J, _⟩ := J.look
      obtain ⟨m, hF⟩ := I.fr
      have hb := boolR_ok (blR_ok h)
      have hl1 : df.pars = 2 := by
        have := callD_len edf hb
        simpa using this.symm
      have ty := tag_ok A.K rm re et
      obtain ⟨tv, tvE, tyx⟩ := ty
      have iC : T.isC c = true := by rw [A.isC]; exact ic
      have nf := not_first A (C := C) (c := c) eC iC tvE (isC_of A rm et)
      have lk := ty_look I ry tyx
      have rs : RVs S.K f H [.ref i, e] [.ref a, y] := ⟨_, _, rfl, rd, RVs.one re⟩
      have vals : Vals [.ref a, y] [Value.ref a, u] := .cons (show RelV (.ref a) (.ref a) from rfl) (.cons ry .nil)
      have kin : X.K.In X.base := I.ok.mod.kin
      have units := A.units
      cases op with
      | eq =>
        cases eo
        refine PySem.W.cmp_K (op := .Eq) (Nat.lt_of_le_of_lt (Nat.le_add_right _ _) units) hF kin J lk nf hm.2.at_ hm.2.fn (wpAny_mono (own_run ((A.room rfl).mono (Nat.le_succ _)) rfl F bi I vals rm rs hl1.symm hb) (fun r s' z => ?_) fun _ _ z => z)
        obtain ⟨w', H', I', ry', b, rfl, q⟩ := z
        cases ry'
        exact ⟨.bl b, H', I', rfl, q⟩
      | ne =>
        cases eo
        have cl : ClsF X.K C := by rw [A.K]; exact cl
        refine ne_own (by omega) hF kin J lk nf cl.hm cl.ne hm.2.at_ hm.2.fn (wpAny_mono (own_run (A := X.A.in1) (A.room rfl).in1 rfl F bi I vals rm rs hl1.symm hb) (fun r s' z => ?_) fun _ _ z => z)
        obtain ⟨w', H', I', ry', b, rfl, q⟩ := z
        cases ry'
        exact ⟨b, rfl, .bl (!b), H', I', rfl, q⟩
      | _ => cases eo
/-- a truth first, then the rest -/
theorem bind_B {α : Type} {P : List Addr → Hp → R α → Prop} {Wx : XK} (ep : Ends3 S Wx P) {r : R Bool} {k : Bool → Mem → R α} {Q : Bool → Hp → Prop} (h : P f H (r.bind k))
    (hk : ∀ f1 H1 b M1, f <+: f1 → RM S f1 H1 M1 → Pres H H1 → P f1 H1 (k b M1) → Q b H1) : PostB S f H Wx r Q := by
  cases r with
  | ok d m => exact fun f1 H1 a b c => hk f1 H1 d m a b c (ep.mono _ _ _ _ _ a c h)
  | exc x m => exact ep.exc f H x m h
  | bad => exact ep.bad f H h
section
variable {a b : Expr} {ta tb : TE} {rest : List Expr} {pos : Pos} {r : V → Hp → (Bool → Hp → Prop) → Prop}
def tAndR (r : V → Hp → (Bool → Hp → Prop) → Prop) (ta tb : TE) : TE := fun σ H Q => ta σ H fun x H1 => r x H1 fun k H2 => if k = true then tb σ H2 Q else Q x H2
def tOrR (r : V → Hp → (Bool → Hp → Prop) → Prop) (ta tb : TE) : TE := fun σ H Q => ta σ H fun x H1 => r x H1 fun k H2 => if k = true then Q x H2 else tb σ H2 Q
def tNotR (r : V → Hp → (Bool → Hp → Prop) → Prop) (ta : TE) : TE := fun σ H Q => ta σ H fun x H1 => r x H1 fun k H2 => Q (.bl (!k)) H2
theorem pe_andR (ht : TruR X r) (ha : PE X a ta) (hb : PE X (.BoolOp .And (b :: rest) pos) tb) : PE X (.BoolOp .And (a :: b :: rest) pos) (tAndR r ta tb) :=
  ⟨fun pins s σ H Q I h => BoolOp_and (thn (ha.run pins s σ H _ I h) fun v s1 ⟨x, H1, I1, r1, q1⟩ => thn (ht pins s1 σ H1 x v _ I1 r1 q1) fun c s2 ⟨H2, I2, q2⟩ => by
    cases c with
    | true => exact hb.run pins s2 σ H2 Q I2 q2
    | false => exact ⟨x, H2, I2, r1, q2⟩)⟩
theorem pe_orR (ht : TruR X r) (ha : PE X a ta) (hb : PE X (.BoolOp .Or (b :: rest) pos) tb) : PE X (.BoolOp .Or (a :: b :: rest) pos) (tOrR r ta tb) :=
  ⟨fun pins s σ H Q I h => BoolOp_or (thn (ha.run pins s σ H _ I h) fun v s1 ⟨x, H1, I1, r1, q1⟩ => thn (ht pins s1 σ H1 x v _ I1 r1 q1) fun c s2 ⟨H2, I2, q2⟩ => by
    cases c with
    | true => exact ⟨x, H2, I2, r1, q2⟩
    | false => exact hb.run pins s2 σ H2 Q I2 q2)⟩
theorem pe_notR (ht : TruR X r) (ha : PE X a ta) : PE X (.UnaryOp .Not a pos) (tNotR r ta) :=
  ⟨fun pins s σ H Q I h => UnaryOp_ (thn (ha.run pins s σ H _ I h) fun v s1 ⟨x, H1, I1, r1, q1⟩ => not_of (thn (ht pins s1 σ H1 x v _ I1 r1 q1) fun c s2 ⟨H2, I2, q2⟩ => ⟨.bl (!c), H2, I2, rfl, q2⟩))⟩
end
end
end Mp

set_option Elab.async false
set_option linter.all false
set_option maxRecDepth 100000
set_option maxHeartbeats 2000000
/-! The small interpreter beside the layer: each construct by its rule. -/
namespace Mp
open PySem PySem.Spec PyProof.Rows L2
section
variable {S : Sg} {T : Tab} {n : Nat} {W : WX} {hot : Bool} {X : Cx} {w : Wd}
/-! ### readings -/
theorem rd_bin {op : Bop} {a b : E} : ∀ σ H Q, tI S W w (.bin op a b) σ H Q → tOp (rB S op) (tI S W w a) (tI S W w b) σ H Q := by
  rintro σ H Q ⟨f, M, ρ, rm, re, h⟩
  have h : PostE S f H (WE W σ) ((evE w a ρ M).bind fun x m => (evE w b ρ m).bind fun y m => binD op x y m) Q := h
  refine tI_bind ends_E rm re h fun f1 H1 d M1 v a1 rm1 re1 p1 r1 h1 => ?_
  refine tI_bind ends_E rm1 re1 h1 fun f2 H2 e M2 u a2 rm2 re2 p2 r2 h2 => ?_
  exact ⟨_, f2, M2, d, e, rm2, RV.mono a2 p2 _ _ r1, r2, h2⟩
theorem rd_cmp {op : Cop} {a b : E} : ∀ σ H Q, tI S W w (.cmp op a b) σ H Q → tOp (rCE S w op) (tI S W w a) (tI S W w b) σ H Q := by
  rintro σ H Q ⟨f, M, ρ, rm, re, h⟩
  have h : PostE S f H (WE W σ) ((evE w a ρ M).bind fun x m => (evE w b ρ m).bind fun y m => cmpE w op x y m) Q := h
  refine tI_bind ends_E rm re h fun f1 H1 d M1 v a1 rm1 re1 p1 r1 h1 => ?_
  refine tI_bind ends_E rm1 re1 h1 fun f2 H2 e M2 u a2 rm2 re2 p2 r2 h2 => ?_
  exact ⟨_, f2, M2, d, e, rm2, RV.mono a2 p2 _ _ r1, r2, h2⟩
theorem rd_chn {op op' : Cop} {a b c : E} : ∀ σ H Q, tI S W w (.chn op op' a b c) σ H Q → tChain (rC S op) (rC S op') (tI S W w a) (tI S W w b) (tI S W w c) σ H Q := by
  rintro σ H Q ⟨f, M, ρ, rm, re, h⟩
  have h : PostE S f H (WE W σ) ((evE w a ρ M).bind fun x m => (evE w b ρ m).bind fun y m => (match cmpD op x y m with
    | some true => (evE w c ρ m).bind fun z m => someB (cmpD op' y z m) m
    | some false => .ok (.bl false) m
    | none => .bad)) Q := h
  refine tI_bind ends_E rm re h fun f1 H1 d M1 v a1 rm1 re1 p1 r1 h1 => ?_
  refine tI_bind ends_E rm1 re1 h1 fun f2 H2 e M2 u a2 rm2 re2 p2 r2 h2 => ?_
  refine ⟨fun _ _ _ => False, f2, M2, d, e, rm2, RV.mono a2 p2 _ _ r1, r2, ?_⟩
  cases q : cmpD op d e M2 with
  | none => rw [q] at h2; exact h2.elim
  | some k =>
    rw [q] at h2
    intro f3 H3 z a3 rm3 p3 rz
    have ez : z = .bl k := rz
    refine ⟨k, ez, ?_⟩
    cases k with
    | true =>
      rw [if_pos rfl]
      have h3 := PostE.mono a3 p3 h2
      refine tI_bind ends_E rm3 ((re2.mono a3 p3)) h3 fun f4 H4 g M4 t a4 rm4 re4 p4 r4 h4 => ?_
      exact ⟨_, f4, M4, e, g, rm4, RV.mono (a3.trans a4) (p3.trans p4) _ _ r2, r4, h4⟩
    | false =>
      rw [if_neg (by decide)]
      exact (PostE.mono a3 p3 h2).now rm3 rfl
theorem rd_neg {a : E} : ∀ σ H Q, tI S W w (.neg a) σ H Q → tUn (rU fun i => .int (-i)) (tI S W w a) σ H Q := by
  rintro σ H Q ⟨f, M, ρ, rm, re, h⟩
  have h : PostE S f H (WE W σ) ((evE w a ρ M).bind fun x m => (match x with
    | .int i => .ok (.int (-i)) m
    | _ => .bad)) Q := h
  refine tI_bind ends_E rm re h fun f1 H1 d M1 v a1 rm1 re1 p1 r1 h1 => ?_
  cases d with
  | int i => cases r1; exact ⟨i, rfl, PostE.now h1 rm1 rfl⟩
  | _ => exact h1.elim
/-- the truth of a value -/
theorem rd_truth {e : E} : ∀ σ H Q, tB S W w e σ H Q → (fun σ H Q => tI S W w e σ H fun x H' => rT S w x H' Q) σ H Q := by
  rintro σ H Q ⟨f, M, ρ, rm, re, h⟩
  refine tI_bind ends_B rm re h fun f1 H1 d M1 v a1 rm1 re1 p1 r1 h1 => ?_
  exact ⟨_, f1, M1, d, rm1, r1, h1⟩
theorem bind_assoc {α β γ : Type} (r : R α) (k : α → Mem → R β) (l : β → Mem → R γ) : (r.bind k).bind l = r.bind fun a m => (k a m).bind l := by cases r <;> rfl
theorem rd_not {a : E} : ∀ σ H Q, tI S W w (.not a) σ H Q → tNotR (rT S w) (tI S W w a) σ H Q := by
  rintro σ H Q ⟨f, M, ρ, rm, re, h⟩
  have h : PostE S f H (WE W σ) ((truthR w (evE w a ρ M)).bind fun b m => .ok (.bl (!b)) m) Q := h
  unfold truthR at h
  rw [bind_assoc] at h
  refine tI_bind ends_E rm re h fun f1 H1 d M1 v a1 rm1 re1 p1 r1 h1 => ?_
  exact ⟨_, f1, M1, d, rm1, r1, bind_B ends_E h1 fun f2 H2 b M2 a2 rm2 p2 h2 => PostE.now h2 rm2 rfl⟩
theorem rd_notB {a : E} : ∀ σ H Q, tB S W w (.not a) σ H Q → tNot (tB S W w a) σ H Q := by
  rintro σ H Q ⟨f, M, ρ, rm, re, h⟩
  have h : PostB S f H (WE W σ) (((truthR w (evE w a ρ M)).bind fun b m => .ok (.bl (!b)) m).bind fun d m => truthE w d m) Q := h
  rw [bind_assoc] at h
  refine tB_bind ends_B rm re h fun f1 H1 b M1 a1 rm1 re1 p1 h1 => ?_
  exact h1 f1 H1 (List.prefix_refl _) rm1 Pres.refl
theorem keep_val {k : Bool} {m0 m : Mem} {x : D} {f : List Addr} {H : Hp} {Wx : XK} {Q : VK} (h : PostE S f H Wx (keepT w k m0 x m) Q) : PostE S f H Wx (.ok x m) Q := by
  unfold keepT at h
  cases e : ownAt m0 x with
  | none => rw [e] at h; exact h
  | some c =>
    rw [e] at h
    have h : PostE S f H Wx (match (generalizing := false) truthE w x m with
      | .ok k' m' => if k' = k ∧ m' = m then .ok x m else .bad
      | _ => .bad) Q := h
    cases e2 : truthE w x m with
    | bad => rw [e2] at h; exact h.elim
    | exc z m' => rw [e2] at h; exact h.elim
    | ok k' m' =>
      rw [e2] at h
      have h : PostE S f H Wx (if k' = k ∧ m' = m then .ok x m else .bad) Q := h
      by_cases hc : k' = k ∧ m' = m
      · rw [if_pos hc] at h; exact h
      · rw [if_neg hc] at h; exact h.elim
theorem keep_tru {k : Bool} {m0 m : Mem} {x : D} {f : List Addr} {H : Hp} {Wx : XK} {Q : Bool → Hp → Prop} (e0 : truthE w x m0 = .ok k m) (h : PostB S f H Wx ((keepT w k m0 x m).bind fun d m => truthE w d m) Q) : PostB S f H Wx (.ok k m) Q := by
  unfold keepT at h
  cases e : ownAt m0 x with
  | none =>
    rw [e] at h
    have e1 : (match (generalizing := false) truth m0 x with
      | some b => R.ok b m0
      | none => R.bad) = .ok k m := by
      unfold truthE at e0
      rw [e] at e0
      exact e0
    cases q : truth m0 x with
    | none => rw [q] at e1; cases e1
    | some b =>
      rw [q] at e1
      cases e1
      have h : PostB S f H Wx (truthE w x m0) Q := h
      rw [e0] at h
      exact h
  | some c =>
    rw [e] at h
    have h : PostB S f H Wx (R.bind (match (generalizing := false) truthE w x m with
      | .ok k' m' => if k' = k ∧ m' = m then .ok x m else .bad
      | _ => .bad) fun d m => truthE w d m) Q := h
    cases e2 : truthE w x m with
    | bad => rw [e2] at h; exact h.elim
    | exc z m' => rw [e2] at h; exact h.elim
    | ok k' m' =>
      rw [e2] at h
      have h : PostB S f H Wx (R.bind (if k' = k ∧ m' = m then .ok x m else .bad) fun d m => truthE w d m) Q := h
      by_cases hc : k' = k ∧ m' = m
      · rw [if_pos hc] at h
        have h9 : PostB S f H Wx (truthE w x m) Q := h
        clear h
        obtain ⟨rfl, rfl⟩ := hc
        rw [e2] at h9
        exact h9
      · rw [if_neg hc] at h; exact h.elim
theorem rd_and {a b : E} : ∀ σ H Q, tI S W w (.and a b) σ H Q → tAndR (rT S w) (tI S W w a) (tI S W w b) σ H Q := by
  rintro σ H Q ⟨f, M, ρ, rm, re, h⟩
  have h : PostE S f H (WE W σ) ((evE w a ρ M).bind fun x m => (truthE w x m).bind fun k m' => if k then evE w b ρ m' else keepT w false m x m') Q := h
  refine tI_bind ends_E rm re h fun f1 H1 d M1 v a1 rm1 re1 p1 r1 h1 => ?_
  refine ⟨_, f1, M1, d, rm1, r1, bind_B ends_E h1 fun f2 H2 k M2 a2 rm2 p2 h2 => ?_⟩
  cases k with
  | true => exact ⟨f2, M2, ρ, rm2, re1.mono a2 p2, h2⟩
  | false => exact PostE.now (keep_val h2) rm2 (RV.mono a2 p2 _ _ r1)
theorem rd_or {a b : E} : ∀ σ H Q, tI S W w (.or a b) σ H Q → tOrR (rT S w) (tI S W w a) (tI S W w b) σ H Q := by
  rintro σ H Q ⟨f, M, ρ, rm, re, h⟩
  have h : PostE S f H (WE W σ) ((evE w a ρ M).bind fun x m => (truthE w x m).bind fun k m' => if k then keepT w true m x m' else evE w b ρ m') Q := h
  refine tI_bind ends_E rm re h fun f1 H1 d M1 v a1 rm1 re1 p1 r1 h1 => ?_
  refine ⟨_, f1, M1, d, rm1, r1, bind_B ends_E h1 fun f2 H2 k M2 a2 rm2 p2 h2 => ?_⟩
  cases k with
  | false => exact ⟨f2, M2, ρ, rm2, re1.mono a2 p2, h2⟩
  | true => exact PostE.now (keep_val h2) rm2 (RV.mono a2 p2 _ _ r1)
/-- the first of the two as a test, then the rest -/
theorem two_B {a : E} {f : List Addr} {M : Mem} {ρ : Env} {σ : L2.St} {H : Hp} {k : D → Mem → Bool → Mem → R D} {t : Bool → Hp → Prop} {Q : Bool → Hp → Prop} (rm : RM S f H M) (re : RE S.K f H ρ σ)
    (h : PostB S f H (WE W σ) (truthR w ((evE w a ρ M).bind fun x m => (truthE w x m).bind fun c m' => k x m c m')) Q)
    (hk : ∀ x m f1 H1 c M1, truthE w x m = .ok c M1 → f <+: f1 → RM S f1 H1 M1 → RE S.K f1 H1 ρ σ → Pres H H1 → PostB S f1 H1 (WE W σ) ((k x m c M1).bind fun d m => truthE w d m) Q → t c H1) : tB S W w a σ H t := by
  refine ⟨f, M, ρ, rm, re, ?_⟩
  have h : PostB S f H (WE W σ) (((evE w a ρ M).bind fun x m => (truthE w x m).bind fun c m' => k x m c m').bind fun d m => truthE w d m) Q := h
  show PostB S f H (WE W σ) ((evE w a ρ M).bind fun d m => truthE w d m) t
  rw [bind_assoc] at h
  cases q : evE w a ρ M with
  | bad => rw [q] at h; exact h.elim
  | exc z m => rw [q] at h; exact h
  | ok x m =>
    rw [q] at h
    have h : PostB S f H (WE W σ) (((truthE w x m).bind fun c m' => k x m c m').bind fun d m => truthE w d m) Q := h
    show PostB S f H (WE W σ) (truthE w x m) t
    rw [bind_assoc] at h
    cases q2 : truthE w x m with
    | bad => rw [q2] at h; exact h.elim
    | exc z m' => rw [q2] at h; exact h
    | ok c m' =>
      rw [q2] at h
      exact fun f1 H1 a1 rm1 p1 => hk x m f1 H1 c m' q2 a1 rm1 (re.mono a1 p1) p1 (PostB.mono a1 p1 h)
theorem rd_andB {a b : E} : ∀ σ H Q, tB S W w (.and a b) σ H Q → tAnd (tB S W w a) (tB S W w b) σ H Q := by
  rintro σ H Q ⟨f, M, ρ, rm, re, h⟩
  refine two_B rm re h fun x m f1 H1 c M1 e a1 rm1 re1 p1 h1 => ?_
  cases c with
  | true => exact ⟨f1, M1, ρ, rm1, re1, h1⟩
  | false => exact keep_tru e h1 f1 H1 (List.prefix_refl _) rm1 Pres.refl
theorem rd_orB {a b : E} : ∀ σ H Q, tB S W w (.or a b) σ H Q → tOr (tB S W w a) (tB S W w b) σ H Q := by
  rintro σ H Q ⟨f, M, ρ, rm, re, h⟩
  refine two_B rm re h fun x m f1 H1 c M1 e a1 rm1 re1 p1 h1 => ?_
  cases c with
  | false => exact ⟨f1, M1, ρ, rm1, re1, h1⟩
  | true => exact keep_tru e h1 f1 H1 (List.prefix_refl _) rm1 Pres.refl
theorem rd_ife {c a b : E} : ∀ σ H Q, tI S W w (.ife c a b) σ H Q → tIf (tB S W w c) (tI S W w a) (tI S W w b) σ H Q := by
  rintro σ H Q ⟨f, M, ρ, rm, re, h⟩
  have h : PostE S f H (WE W σ) ((truthR w (evE w c ρ M)).bind fun k m => if k then evE w a ρ m else evE w b ρ m) Q := h
  refine tB_bind ends_E rm re h fun f1 H1 k M1 a1 rm1 re1 p1 h1 => ?_
  cases k with
  | true => exact ⟨f1, M1, ρ, rm1, re1, h1⟩
  | false => exact ⟨f1, M1, ρ, rm1, re1, h1⟩
/-- a comparison as a test -/
theorem cmpE_bl {op : Cop} {x y d : D} {m m' : Mem} (h : cmpE w op x y m = .ok d m') : ∃ k, d = .bl k := by
  have one : ∀ {o : Option Bool}, someB o m = .ok d m' → ∃ k, d = .bl k := fun {o} h => by
    cases o with
    | none => cases h
    | some b => cases h; exact ⟨b, rfl⟩
  have two : ∀ {r : R Bool}, blR r = .ok d m' → ∃ k, d = .bl k := fun {r} h => by
    cases r with
    | ok b m => cases h; exact ⟨b, rfl⟩
    | exc z m => cases h
    | bad => cases h
  unfold cmpE at h
  split at h
  · split at h
    · exact two h
    · cases h
  · exact one h
theorem rd_cmpB {op : Cop} {a b : E} : ∀ σ H Q, tB S W w (.cmp op a b) σ H Q → tTest (tOp (rCE S w op) (tI S W w a) (tI S W w b)) σ H Q := by
  rintro σ H Q ⟨f, M, ρ, rm, re, h⟩
  have h : PostB S f H (WE W σ) (((evE w a ρ M).bind fun x m => (evE w b ρ m).bind fun y m => cmpE w op x y m).bind fun d m => truthE w d m) Q := h
  rw [bind_assoc] at h
  refine tI_bind ends_B rm re h fun f1 H1 d M1 v a1 rm1 re1 p1 r1 h1 => ?_
  rw [bind_assoc] at h1
  refine tI_bind ends_B rm1 re1 h1 fun f2 H2 e M2 u a2 rm2 re2 p2 r2 h2 => ?_
  refine ⟨WE W σ, f2, M2, d, e, rm2, RV.mono a2 p2 _ _ r1, r2, ?_⟩
  cases q : cmpE w op d e M2 with
  | bad => rw [q] at h2; exact h2.elim
  | exc z m => rw [q] at h2; exact h2
  | ok z m =>
    obtain ⟨k, rfl⟩ := cmpE_bl q
    rw [q] at h2
    intro f3 H3 z a3 rm3 p3 rz
    exact ⟨k, rz, (show PostB S f2 H2 (WE W σ) (.ok k m) Q from h2) f3 H3 a3 rm3 p3⟩
theorem rd_chnB {op op' : Cop} {a b c : E} : ∀ σ H Q, tB S W w (.chn op op' a b c) σ H Q → tTest (tChain (rC S op) (rC S op') (tI S W w a) (tI S W w b) (tI S W w c)) σ H Q := by
  rintro σ H Q ⟨f, M, ρ, rm, re, h⟩
  have hh : tI S W w (.chn op op' a b c) σ H (fun x H' => ∃ k, x = .bl k ∧ Q k H') := by
    refine ⟨f, M, ρ, rm, re, ?_⟩
    have key : ∀ d m, evE w (.chn op op' a b c) ρ M = .ok d m → ∃ k, d = .bl k := by
      intro d m e
      have e : ((evE w a ρ M).bind fun x m => (evE w b ρ m).bind fun y m => (match cmpD op x y m with
        | some true => (evE w c ρ m).bind fun z m => someB (cmpD op' y z m) m
        | some false => .ok (.bl false) m
        | none => .bad)) = .ok d m := e
      cases e1 : evE w a ρ M with
      | ok x m1 =>
        rw [e1] at e
        simp only [R.bind_ok] at e
        cases e2 : evE w b ρ m1 with
        | ok y m2 =>
          rw [e2] at e
          simp only [R.bind_ok] at e
          cases e3 : cmpD op x y m2 with
          | none => rw [e3] at e; cases e
          | some k =>
            rw [e3] at e
            cases k with
            | false => cases e; exact ⟨false, rfl⟩
            | true =>
              cases e4 : evE w c ρ m2 with
              | ok z m3 =>
                rw [e4] at e
                simp only [R.bind_ok] at e
                cases e5 : cmpD op' y z m3 with
                | none => rw [e5] at e; cases e
                | some k' => rw [e5] at e; cases e; exact ⟨k', rfl⟩
              | exc x m => rw [e4] at e; cases e
              | bad => rw [e4] at e; cases e
        | exc x m => rw [e2] at e; cases e
        | bad => rw [e2] at e; cases e
      | exc x m => rw [e1] at e; cases e
      | bad => rw [e1] at e; cases e
    cases q : evE w (.chn op op' a b c) ρ M with
    | ok d m =>
      obtain ⟨k, rfl⟩ := key d m q
      rw [q] at h
      intro f1 H1 v a1 rm1 p1 rv
      exact ⟨k, rv, (show PostB S f H (WE W σ) (.ok k m) Q from h) f1 H1 a1 rm1 p1⟩
    | exc x m => rw [q] at h; exact h
    | bad => rw [q] at h; exact h.elim
  exact rd_chn σ H _ hh
theorem rd_tup {es : Es} : ∀ σ H Q, tI S W w (.tup es) σ H Q → tTup (tL S W w es) σ H Q := by
  rintro σ H Q ⟨f, M, ρ, rm, re, h⟩
  have h : PostE S f H (WE W σ) ((evEs w es ρ M).bind fun ds m => tupR ds m) Q := h
  refine tL_bind ends_E rm re h fun f1 H1 ds M1 vs a1 rm1 re1 p1 r1 h1 => ?_
  obtain ⟨hl, h1⟩ := tupR_ok h1
  exact ⟨by rw [← r1.length]; exact Nat.le_trans hl lim_line, fun p np => new_tup rm1 r1 np h1⟩
theorem rd_lst {es : Es} : ∀ σ H Q, tI S W w (.lst es) σ H Q → tLst (tL S W w es) σ H Q := by
  rintro σ H Q ⟨f, M, ρ, rm, re, h⟩
  have h : PostE S f H (WE W σ) ((evEs w es ρ M).bind fun ds m => newL ds m) Q := h
  refine tL_bind ends_E rm re h fun f1 H1 ds M1 vs a1 rm1 re1 p1 r1 h1 => ?_
  obtain ⟨hl, h1⟩ := newL_ok h1
  exact ⟨by rw [← r1.length]; exact Nat.le_trans hl lim_line, fun p np => new_lst rm1 r1 np h1⟩
theorem rd_idx {a b : E} : ∀ σ H Q, tI S W w (.idx a b) σ H Q → tOp (rIxI S) (tI S W w a) (tI S W w b) σ H Q := by
  rintro σ H Q ⟨f, M, ρ, rm, re, h⟩
  have h : PostE S f H (WE W σ) ((evE w a ρ M).bind fun x m => (evE w b ρ m).bind fun y m => someR (idxD x y m) m) Q := h
  refine tI_bind ends_E rm re h fun f1 H1 d M1 v a1 rm1 re1 p1 r1 h1 => ?_
  refine tI_bind ends_E rm1 re1 h1 fun f2 H2 e M2 u a2 rm2 re2 p2 r2 h2 => ?_
  exact ⟨_, f2, M2, d, e, rm2, RV.mono a2 p2 _ _ r1, r2, h2⟩
theorem fget_RF {K : PySem.W.Frag} {f : List Addr} {H : Hp} {x : Str} : ∀ {fs : List (Str × D)} {xs : List (Str × V)} {d : D}, RF K f H fs xs → fget x fs = some d → ∃ v, xs.lookup x = some v ∧ RV K f H d v
  | [], _, _, _, h => by cases h
  | (y, d') :: r, _, d, hr, h => by
    obtain ⟨v, q, rfl, h1, h2⟩ := hr
    unfold fget at h
    rw [List.lookup_cons]
    by_cases e : x = y
    · rw [if_pos e] at h
      cases h
      subst e
      simp
      exact h1
    · rw [if_neg e] at h
      have e2 : (x == y) = false := beq_eq_false_iff_ne.mpr e
      rw [e2]
      exact fget_RF h2 h
theorem fget_none {K : PySem.W.Frag} {f : List Addr} {H : Hp} {x : Str} : ∀ {fs : List (Str × D)} {xs : List (Str × V)}, RF K f H fs xs → fget x fs = none → xs.lookup x = none
  | [], _, hr, _ => by cases hr; rfl
  | (y, d') :: r, _, hr, h => by
    obtain ⟨v, q, rfl, h1, h2⟩ := hr
    unfold fget at h
    rw [List.lookup_cons]
    by_cases e : x = y
    · rw [if_pos e] at h
      cases h
    · rw [if_neg e] at h
      have e2 : (x == y) = false := beq_eq_false_iff_ne.mpr e
      rw [e2]
      exact fget_none h2 h
theorem fget_mem {x : Str} : ∀ {fs : List (Str × D)} {d : D}, fget x fs = some d → x ∈ fs.map (·.1)
  | [], _, h => by cases h
  | (y, d') :: r, d, h => by
    unfold fget at h
    by_cases e : x = y
    · subst e; simp
    · rw [if_neg e] at h
      exact List.mem_cons_of_mem _ (fget_mem h)
theorem att_ok {i : Nat} {f : List Addr} {H : Hp} {M : Mem} {x : Str} {r : D} {c : Str} {fs : List (Str × D)} {b : Addr} (hK : X.K = S.K) (rm : RM S f H M) (eb : f[i]? = some b) (e : M[i]? = some (.ins c fs)) (hr : fget x fs = some r) :
    ∃ C dx xs v, H b = some (.ins C dx xs) ∧ Cls X.K C ∧ NoAttr X.K C x ∧ xs.lookup x = some v ∧ RV S.K f H r v := by
  obtain ⟨b', eb', C, dx, xs, e1, q, rf, cl, na, _⟩ := rm.at_ i _ e
  rw [eb] at eb'; cases eb'
  obtain ⟨v, lv, rv⟩ := fget_RF rf hr
  rw [hK]
  exact ⟨C, dx, xs, v, q, cl.cls, na x (fget_mem hr), lv, rv⟩
theorem attD_ref (i : Nat) (x : Str) (m : Mem) : attD (.ref i) x m = (match m[i]? with
    | some (.ins _ fs) => fget x fs
    | some (.exo _ fs) => fget x fs
    | _ => none) := rfl
theorem exo_ok {i : Nat} {f : List Addr} {H : Hp} {M : Mem} {x : Str} {r : D} {c : Str} {fs : List (Str × D)} {b : Addr} (rm : RM S f H M) (eb : f[i]? = some b) (e : M[i]? = some (.exo c fs)) (hr : fget x fs = some r) :
    ∃ d ns xs v, S.ex = some (b, d, ns) ∧ x ∈ ns ∧ H d = some (.xd xs) ∧ xs.lookup x = some v ∧ RV S.K f H r v := by
  obtain ⟨b', eb', d, ns, xs, e1, q, rf, z⟩ := rm.at_ i _ e
  rw [eb] at eb'; cases eb'
  obtain ⟨v, lv, rv⟩ := fget_RF rf hr
  exact ⟨d, ns, xs, v, e1, z x (fget_mem hr), q, lv, rv⟩
theorem good_att (A : Adm S T n W hot X) {a : E} {x : Str} {e : Expr} {pos : Pos} (hb : baseOk e = true) (ha : PE X e (tI S W w a)) : PE X (.Attribute e x pos) (tI S W w (.att a x)) := by
  refine ⟨fun pins s σ H Q I h0 => ?_⟩
  obtain ⟨f, M, ρ, rm, re, h⟩ := h0
  have h : PostE S f H (WE W σ) ((evE w a ρ M).bind fun y m => someR (attD y x m) m) Q := h
  have hbe := base_ok hb x X.env (eval e X.env)
  cases q : evE w a ρ M with
  | bad => rw [q] at h; exact h.elim
  | exc z m =>
    rw [q] at h
    refine (pe_fld (f := x) ha hbe).run pins s σ H Q I ⟨f, M, ρ, rm, re, ?_⟩
    rw [q]
    exact h
  | ok d m =>
    rw [q] at h
    have h : PostE S f H (WE W σ) (someR (attD d x m) m) Q := h
    cases d with
    | ref i =>
      cases e1 : m[i]? with
      | none =>
        have : attD (.ref i) x m = none := by rw [attD_ref, e1] <;> rfl
        rw [this] at h
        exact h.elim
      | some o =>
        cases o with
        | ins c fs =>
          have e2 : attD (.ref i) x m = fget x fs := by rw [attD_ref, e1] <;> rfl
          rw [e2] at h
          cases e3 : fget x fs with
          | none => rw [e3] at h; exact h.elim
          | some r =>
            rw [e3] at h
            refine (pe_fld (f := x) ha hbe).run pins s σ H Q I ⟨f, M, ρ, rm, re, ?_⟩
            rw [q]
            intro f1 H1 v a1 rm1 p1 rv
            obtain ⟨b, eb, rfl⟩ := rv
            obtain ⟨C, dx, xs, v, q1, q2, q3, q4, q5⟩ := att_ok A.K rm1 eb e1 e3
            exact ⟨b, C, dx, xs, v, rfl, q1, q2, q3, q4, (show PostE S f H (WE W σ) (.ok r m) Q from h) f1 H1 v a1 rm1 p1 q5⟩
        | exo c fs =>
          have e2 : attD (.ref i) x m = fget x fs := by rw [attD_ref, e1] <;> rfl
          rw [e2] at h
          cases e3 : fget x fs with
          | none => rw [e3] at h; exact h.elim
          | some r =>
            rw [e3] at h
            by_cases hx : ∃ a0 d0 ns0, S.ex = some (a0, d0, ns0) ∧ x ∈ ns0
            · obtain ⟨a0, d0, ns0, hx, hm⟩ := hx
              obtain ⟨C0, hxf⟩ := A.xf a0 d0 ns0 hx x hm e _ pos ha hbe
              refine hxf.run pins s σ H Q I ⟨f, M, ρ, rm, re, ?_⟩
              rw [q]
              intro f1 H1 v a1 rm1 p1 rv
              obtain ⟨b, eb, rfl⟩ := rv
              obtain ⟨d, ns, xs, v, q1, q2, q3, q4, q5⟩ := exo_ok rm1 eb e1 e3
              rw [hx] at q1
              cases q1
              exact ⟨rfl, rfl, _, xs, v, rfl, q3, q4, (show PostE S f H (WE W σ) (.ok r m) Q from h) f1 H1 v a1 rm1 p1 q5⟩
            · refine (pe_fld (f := x) ha hbe).run pins s σ H Q I ⟨f, M, ρ, rm, re, ?_⟩
              rw [q]
              intro f1 H1 v a1 rm1 p1 rv
              obtain ⟨b, eb, rfl⟩ := rv
              obtain ⟨d, ns, xs, v, q1, q2, q3, q4, q5⟩ := exo_ok rm1 eb e1 e3
              exact (hx ⟨_, _, _, q1, q2⟩).elim
        | _ =>
          have : attD (.ref i) x m = none := by rw [attD_ref, e1] <;> rfl
          rw [this] at h
          exact h.elim
    | _ => exact h.elim
end
end Mp

set_option Elab.async false
set_option linter.all false
set_option maxRecDepth 100000
set_option maxHeartbeats 2000000
/-! The small interpreter beside the layer: calls, displays of dicts, isinstance. -/
namespace Mp
open PySem PySem.Spec PyProof.Rows L2
section
variable {S : Sg} {T : Tab} {n : Nat} {W : WX} {hot : Bool} {X : Cx} {w : Wd}
theorem bind_E {α : Type} {P : List Addr → Hp → R α → Prop} {Wx : XK} (ep : Ends3 S Wx P) {f : List Addr} {H : Hp} {r : R D} {k : D → Mem → R α} (h : P f H (r.bind k)) {Q : VK}
    (hk : ∀ f1 H1 d M1 v, f <+: f1 → RM S f1 H1 M1 → Pres H H1 → RV S.K f1 H1 d v → P f1 H1 (k d M1) → Q v H1) : PostE S f H Wx r Q := by
  cases r with
  | ok d m => exact fun f1 H1 v a b c r => hk f1 H1 d m v a b c r (ep.mono _ _ _ _ _ a c h)
  | exc x m => exact ep.exc f H x m h
  | bad => exact ep.bad f H h
/-! ### a def is called -/
theorem rd_call {x : Str} {es : Es} {d : Df} (hw : w.call = callD T n) (hh : w.has = fun g => (T.df g).isSome) (e : T.df (x, none) = some d) :
    ∀ σ H Q, tI S W w (.call x es) σ H Q → tCallS (spI S (callD T n) d.pars (x, none)) (WE W) (tL S W w es) σ H Q := by
  rintro σ H Q ⟨f, M, ρ, rm, re, h⟩
  have h : PostE S f H (WE W σ) (if !w.has (x, none) then .bad else (evEs w es ρ M).bind fun ds m => w.call (x, none) ds m) Q := h
  rw [hh, hw] at h
  simp only [e, Option.isSome_some, Bool.not_true, Bool.false_eq_true, if_false] at h
  refine tL_bind ends_E rm re h fun f1 H1 ds M1 vs a1 rm1 re1 p1 r1 h1 => ?_
  exact ⟨r1.length.symm.trans (callD_len e h1), f1, M1, ds, rm1, r1, h1⟩
/-! ### a thing is made -/
theorem rd_mk {c : Str} {C : Addr} {es : Es} {d : Df} (hw : w.make = callD T (n - 1)) (hh : w.has = fun g => (T.df g).isSome) (hi : w.isC = T.isC) (e : T.df (c, some "__init__") = some d) (ec : S.ca c = some C) (cl : T.isC c = true → ClsF S.K C) (ci : T.isC = S.isC) :
    ∀ σ H Q, tI S W w (.mk c es) σ H Q → tMkS C (spI S (callD T (n - 1)) d.pars (c, some "__init__")) (WE W) (tL S W w es) σ H Q := by
  rintro σ H Q ⟨f, M, ρ, rm, re, h⟩
  have h : PostE S f H (WE W σ) (if !(w.isC c && w.has (c, some "__init__")) then .bad else (evEs w es ρ M).bind fun ds m => (w.make (c, some "__init__") (.ref m.length :: ds) (m ++ [.ins c []])).bind fun v m' => (match v with
    | .non => .ok (.ref m.length) m'
    | _ => .bad)) Q := h
  rw [hh, hw, hi] at h
  cases hc : T.isC c with
  | false => rw [hc] at h; exact h.elim
  | true =>
    simp only [hc, e, Option.isSome_some, Bool.and_self, Bool.not_true, Bool.false_eq_true, if_false] at h
    refine tL_bind ends_E rm re h fun f1 H1 ds M1 vs a1 rm1 re1 p1 r1 h1 => ?_
    intro a b na nb nab
    have rm2 := rm1.newH (o := .own a) nb
    have na2 : upd H1 b (.own a) a = none := by rw [upd_ne nab.symm]; exact na
    have pp : Pres H1 (upd (upd H1 b (.own a)) a (.ins C b [])) := (Pres.new nb).trans (Pres.new na2)
    have rm3 : RM S (f1 ++ [a]) (upd (upd H1 b (.own a)) a (.ins C b [])) (M1 ++ [.ins c []]) := rm2.newM na2 ⟨C, b, [], ec, upd_same, rfl, cl hc, (fun _ z => nomatch z), by rw [← ci]; exact hc⟩
    have h2 := PostE.mono (List.prefix_append f1 [a]) pp h1
    have la : (f1 ++ [a])[M1.length]? = some a := by rw [← rm1.len]; simp
    have key := bind_E (Q := fun v H2 => v = .non ∧ Q (.ref a) H2) ends_E h2 fun f2 H2 d2 M2 v a2 rm4 p2 rv h3 => by
      cases d2 with
      | non => exact ⟨rv, PostE.now h3 rm4 ⟨a, pre_get a2 la, rfl⟩⟩
      | _ => exact h3.elim
    have ln : (D.ref M1.length :: ds).length = d.pars := callD_len e key
    refine ⟨?_, f1 ++ [a], M1 ++ [.ins c []], .ref M1.length :: ds, rm3, ⟨_, _, rfl, ⟨a, la, rfl⟩, RVs.mono (List.prefix_append f1 [a]) pp _ _ r1⟩, key⟩
    rw [List.length_cons, ← r1.length, ← List.length_cons (a := D.ref M1.length)]
    exact ln
/-! ### a display of a dict -/
def trsOf (S : Sg) (W : WX) (w : Wd) : Es → List (TE × TE)
  | .cons _ k (.cons _ v r) => (tI S W w k, tI S W w v) :: trsOf S W w r
  | _ => []
def RPs (K : PySem.W.Frag) (f : List Addr) (H : Hp) : List D → List (V × V) → Prop
  | [], ps => ps = []
  | [_], _ => False
  | k :: v :: r, ps => ∃ x y q, ps = (x, y) :: q ∧ RV K f H k x ∧ RV K f H v y ∧ RPs K f H r q
theorem RPs.mono {K : PySem.W.Frag} {f f' : List Addr} {H H' : Hp} (a : f <+: f') (p : Pres H H') : ∀ (ds : List D) (ps : List (V × V)), RPs K f H ds ps → RPs K f' H' ds ps
  | [], _, h => h
  | [_], _, h => h
  | k :: v :: r, _, h => by
    obtain ⟨x, y, q, e, h1, h2, h3⟩ := h
    exact ⟨x, y, q, e, RV.mono a p _ _ h1, RV.mono a p _ _ h2, RPs.mono a p r q h3⟩
def kvShape : Es → Bool
  | .nil => true
  | .cons false _ (.cons false _ r) => kvShape r
  | _ => false
theorem rd_pairs {α : Type} {ρ : Env} {σ : L2.St} {P : List Addr → Hp → R α → Prop} (ep : Ends3 S (WE W σ) P) : ∀ (es : Es), kvShape es = true → ∀ {f : List Addr} {H : Hp} {M : Mem} {k : List D → Mem → R α} {Q : List (V × V) → Hp → Prop}, RM S f H M → RE S.K f H ρ σ →
    P f H ((evEs w es ρ M).bind k) → (∀ f1 H1 ds M1 ps, f <+: f1 → RM S f1 H1 M1 → Pres H H1 → RPs S.K f1 H1 ds ps → P f1 H1 (k ds M1) → Q ps H1) → tPairs (trsOf S W w es) σ H Q
  | .nil, _, f, H, M, k, Q, rm, re, h, hk => hk f H [] M [] (List.prefix_refl _) rm Pres.refl rfl h
  | .cons false a (.cons false b r), hs, f, H, M, k, Q, rm, re, h, hk => by
    have e : (evEs w (.cons false a (.cons false b r)) ρ M).bind k = (evE w a ρ M).bind fun x m => (evE w b ρ m).bind fun y m => (evEs w r ρ m).bind fun ds m => k (x :: y :: ds) m := by
      show ((evE w a ρ M).bind fun x m => ((evE w b ρ m).bind fun y m => (evEs w r ρ m).bind fun ds m => .ok (y :: ds) m).bind fun ds m => .ok (x :: ds) m).bind k = _
      rw [bind_assoc]
      congr 1
      funext x m
      rw [bind_assoc, bind_assoc]
      congr 1
      funext y m
      rw [bind_assoc]
      rfl
    rw [e] at h
    refine tI_bind ep rm re h fun f1 H1 d M1 v a1 rm1 re1 p1 r1 h1 => ?_
    refine tI_bind ep rm1 re1 h1 fun f2 H2 d2 M2 u a2 rm2 re2 p2 r2 h2 => ?_
    refine rd_pairs ep r hs rm2 re2 h2 fun f3 H3 ds M3 ps a3 rm3 p3 r3 h3 => ?_
    exact hk f3 H3 (d :: d2 :: ds) M3 ((v, u) :: ps) ((a1.trans a2).trans a3) rm3 ((p1.trans p2).trans p3) ⟨v, u, ps, rfl, RV.mono (a2.trans a3) (p2.trans p3) _ _ r1, RV.mono a3 p3 _ _ r2, r3⟩ h3
  | .cons true _ _, hs, _, _, _, _, _, _, _, _, _ => by cases hs
  | .cons false _ .nil, hs, _, _, _, _, _, _, _, _, _ => by cases hs
  | .cons false _ (.cons true _ _), hs, _, _, _, _, _, _, _, _, _ => by cases hs
theorem keyIn_scal {K : PySem.W.Frag} {f : List Addr} {H : Hp} {kvs : List (D × D)} {xs : List (Key × V)} {d : D} {x : V} {k : NestedKey} (r : RK K f H kvs xs) (h : keyIn kvs d = some k) (rd : RV K f H d x) : ∃ q, x = kV q ∧ nkOf q = k :=
  keyIn_ok (S := ⟨K, fun _ => none, fun _ => false, none⟩) r h rd
theorem dctOf_ok {K : PySem.W.Frag} {f : List Addr} {H : Hp} : ∀ (ds : List D) (acc kvs : List (D × D)) (ps : List (V × V)) (xs : List (Key × V)), dctOf ds acc = some kvs → RPs K f H ds ps → RK K f H acc xs → (xs.map (·.1)).Nodup →
    ∃ more : List (Key × V), ps = more.map (fun kv => (kV kv.1, kv.2)) ∧ RK K f H kvs (mergeK xs more) ∧ ((mergeK xs more).map (·.1)).Nodup
  | [], acc, kvs, ps, xs, h, hp, hr, nd => by
    cases h
    cases hp
    exact ⟨[], rfl, hr, nd⟩
  | [_], _, _, _, _, h, hp, _, _ => hp.elim
  | k :: v :: r, acc, kvs, ps, xs, h, hp, hr, nd => by
    obtain ⟨x, y, q, rfl, h1, h2, h3⟩ := hp
    have h : ((keyIn acc k).bind fun z => dctOf r (kvPut z k v acc)) = some kvs := h
    cases e : keyIn acc k with
    | none => rw [e] at h; cases h
    | some z =>
      rw [e] at h
      obtain ⟨qk, rfl, eq⟩ := keyIn_scal hr e h1
      obtain ⟨more, e1, e2, e3⟩ := dctOf_ok r (kvPut z k v acc) kvs q (putK xs qk y) h h3 (hr.put eq h1 h2 nd) (nodup_putK nd)
      exact ⟨(qk, y) :: more, by rw [e1]; rfl, e2, e3⟩
theorem dctOf_len : ∀ (ds : List D) (acc kvs : List (D × D)), dctOf ds acc = some kvs → ds.length % 2 = 0
  | [], _, _, _ => rfl
  | [_], _, _, h => by cases h
  | k :: v :: r, acc, kvs, h => by
    have h : ((keyIn acc k).bind fun z => dctOf r (kvPut z k v acc)) = some kvs := h
    cases e : keyIn acc k with
    | none => rw [e] at h; cases h
    | some z =>
      rw [e] at h
      have := dctOf_len r _ _ h
      rw [List.length_cons, List.length_cons]
      omega
theorem RPs.count {K : PySem.W.Frag} {f : List Addr} {H : Hp} : ∀ (ds : List D) (ps : List (V × V)), RPs K f H ds ps → ds.length = 2 * ps.length
  | [], _, h => by cases h; rfl
  | [_], _, h => h.elim
  | k :: v :: r, _, h => by
    obtain ⟨x, y, q, rfl, h1, h2, h3⟩ := h
    have := RPs.count r q h3
    rw [List.length_cons, List.length_cons, List.length_cons]
    omega
theorem rd_dct {es : Es} (hs : kvShape es = true) : ∀ σ H Q, tI S W w (.dct es) σ H Q → tDisp (trsOf S W w es) σ H Q := by
  rintro σ H Q ⟨f, M, ρ, rm, re, h⟩
  intro p np
  have rm1 : RM S (f ++ [p]) (upd H p (.dK [])) (M ++ [.dct []]) := rm.newM np ⟨[], upd_same, rfl, by simp⟩
  have pp : Pres H (upd H p (.dK [])) := Pres.new np
  have h : PostE S f H (WE W σ) ((evEs w es ρ (M ++ [.dct []])).bind fun ds m' => (match m'[M.length]?, dctOf ds [] with
    | some (.dct []), some kvs => if ds.length ≤ 30 then .ok (.ref M.length) (m'.set M.length (.dct kvs)) else .bad
    | _, _ => .bad)) Q := h
  have h := PostE.mono (List.prefix_append f [p]) pp h
  have lp : (f ++ [p])[M.length]? = some p := by rw [← rm.len]; simp
  refine rd_pairs ends_E es hs rm1 (re.mono (List.prefix_append f [p]) pp) h fun f1 H1 ds M1 ps a1 rm2 p1 r1 h1 => ?_
  cases e1 : M1[M.length]? with
  | none => rw [e1] at h1; exact h1.elim
  | some o =>
    rw [e1] at h1
    cases o with
    | dct kv0 =>
      cases kv0 with
      | cons _ _ => exact h1.elim
      | nil =>
        cases e2 : dctOf ds [] with
        | none => rw [e2] at h1; exact h1.elim
        | some kvs =>
          rw [e2] at h1
          have h1 : PostE S f1 H1 (WE W σ) (if ds.length ≤ 30 then .ok (.ref M.length) (M1.set M.length (.dct kvs)) else .bad) Q := h1
          by_cases hl : ds.length ≤ 30
          case neg =>
            rw [if_neg hl] at h1
            exact h1.elim
          rw [if_pos hl] at h1
          obtain ⟨b, eb, ys, hy, rk, nd⟩ := rm2.at_ _ _ e1
          have : b = p := by
            have := pre_get a1 lp
            rw [eb] at this
            exact Option.some.inj this
          subst this
          cases rk
          obtain ⟨more, e3, e4, e5⟩ := dctOf_ok (K := S.K) (f := f1) (H := H1) ds [] kvs ps [] e2 r1 rfl (by simp)
          refine ⟨hy, more, e3, ?_, ?_⟩
          · have c1 := RPs.count ds ps r1
            rw [e3, List.length_map] at c1
            omega
          · have h1 : PostE S f1 H1 (WE W σ) (.ok (.ref M.length) (M1.set M.length (.dct kvs))) Q := h1
            obtain ⟨rm3, p3⟩ := rm2.put (u := .dK (mergeK [] more)) (o' := .dct kvs) e1 rfl eb rfl ⟨_, upd_same, RK.mono (List.prefix_refl _) (Pres.put hy (fun _ z => by cases z) fun _ _ z => by cases z) _ _ e4, e5⟩
            exact h1.at_ (List.prefix_refl _) rm3 p3 ⟨b, eb, rfl⟩
    | _ => exact h1.elim
end
end Mp

set_option Elab.async false
set_option linter.all false
set_option maxRecDepth 100000
set_option maxHeartbeats 2000000
/-! The small interpreter beside the layer: slices, built-ins, isinstance, methods at the text. -/
namespace Mp
open PySem PySem.Spec PyProof.Rows L2
section
variable {S : Sg} {T : Tab} {n : Nat} {W : WX} {hot : Bool} {X : Cx} {w : Wd}
def toOf (S : Sg) (W : WX) (w : Wd) : Oe → TO
  | .none => tNoPart
  | .some e => tPart (tI S W w e)
theorem tO_bind {α : Type} {f : List Addr} {H : Hp} {M : Mem} {ρ : Env} {σ : L2.St} {P : List Addr → Hp → R α → Prop} {o : Oe} {k : Option Int → Mem → R α} {Q : Option Int → Hp → Prop} (ep : Ends3 S (WE W σ) P) (rm : RM S f H M) (re : RE S.K f H ρ σ)
    (h : P f H ((evO w o ρ M).bind k)) (hk : ∀ f1 H1 i M1, f <+: f1 → RM S f1 H1 M1 → RE S.K f1 H1 ρ σ → Pres H H1 → P f1 H1 (k i M1) → Q i H1) : toOf S W w o σ H Q := by
  cases o with
  | none => exact hk f H none M (List.prefix_refl _) rm re Pres.refl h
  | some e =>
    have h : P f H (((evE w e ρ M).bind fun x m => (match x with
      | .int i => .ok (some i) m
      | _ => .bad)).bind k) := h
    rw [bind_assoc] at h
    refine tI_bind ep rm re h fun f1 H1 d M1 v a1 rm1 re1 p1 r1 h1 => ?_
    cases d with
    | int i => cases r1; exact ⟨i, rfl, hk f1 H1 (some i) M1 a1 rm1 re1 p1 h1⟩
    | _ => exact (ep.bad _ _ h1).elim
theorem rd_slc {a : E} {lo hi : Oe} : ∀ σ H Q, tI S W w (.slc a lo hi) σ H Q → tSl (rSlI S) (tI S W w a) (toOf S W w lo) (toOf S W w hi) σ H Q := by
  rintro σ H Q ⟨f, M, ρ, rm, re, h⟩
  have h : PostE S f H (WE W σ) ((evE w a ρ M).bind fun x m => (evO w lo ρ m).bind fun l m => (evO w hi ρ m).bind fun h m => slcD x l h m) Q := h
  refine tI_bind ends_E rm re h fun f1 H1 d M1 v a1 rm1 re1 p1 r1 h1 => ?_
  refine tO_bind ends_E rm1 re1 h1 fun f2 H2 l M2 a2 rm2 re2 p2 h2 => ?_
  refine tO_bind ends_E rm2 re2 h2 fun f3 H3 u M3 a3 rm3 re3 p3 h3 => ?_
  exact ⟨_, f3, M3, d, rm3, RV.mono (a2.trans a3) (p2.trans p3) _ _ r1, h3⟩
/-! ### argument lists -/
theorem rd_nil : ∀ σ H Q, tL S W w .nil σ H Q → tNil σ H Q := by
  rintro σ H Q ⟨f, M, ρ, rm, re, h⟩
  exact (show PostL S f H (WE W σ) (.ok [] M) Q from h) f H [] (List.prefix_refl _) rm Pres.refl rfl
theorem rd_cons {e : E} {r : Es} : ∀ σ H Q, tL S W w (.cons false e r) σ H Q → tCons (tI S W w e) (tL S W w r) σ H Q := by
  rintro σ H Q ⟨f, M, ρ, rm, re, h⟩
  have h : PostL S f H (WE W σ) ((evE w e ρ M).bind fun x m => (evEs w r ρ m).bind fun ds m => .ok (x :: ds) m) Q := h
  refine tI_bind ends_L rm re h fun f1 H1 d M1 v a1 rm1 re1 p1 r1 h1 => ?_
  refine tL_bind ends_L rm1 re1 h1 fun f2 H2 ds M2 vs a2 rm2 re2 p2 r2 h2 => ?_
  exact (show PostL S f2 H2 (WE W σ) (.ok (d :: ds) M2) Q from h2) f2 H2 _ (List.prefix_refl _) rm2 Pres.refl ⟨v, vs, rfl, RV.mono a2 p2 _ _ r1, r2⟩
theorem rd_star (hK : X.K = S.K) {e : E} {r : Es} : ∀ σ H Q, tL S W w (.cons true e r) σ H Q → StX.tStar X.K (tI S W w e) (tL S W w r) σ H Q := by
  rintro σ H Q ⟨f, M, ρ, rm, re, h⟩
  have h : PostL S f H (WE W σ) ((evE w e ρ M).bind fun x m => (match seqOf m x with
    | some xs => (evEs w r ρ m).bind fun ds m => .ok (xs ++ ds) m
    | none => .bad)) Q := h
  refine tI_bind ends_L rm re h fun f1 H1 d M1 v a1 rm1 re1 p1 r1 h1 => ?_
  cases q : seqOf M1 d with
  | none => rw [q] at h1; exact h1.elim
  | some xs =>
    rw [q] at h1
    obtain ⟨p, ys, rfl, hq, rs, _⟩ := seq_ok rm1 r1 q
    refine ⟨p, ys, rfl, by rw [hK]; exact hq.symm, ?_⟩
    refine tL_bind ends_L rm1 re1 h1 fun f2 H2 ds M2 vs a2 rm2 re2 p2 r2 h2 => ?_
    exact (show PostL S f2 H2 (WE W σ) (.ok (xs ++ ds) M2) Q from h2) f2 H2 _ (List.prefix_refl _) rm2 Pres.refl (RVs.append (RVs.mono a2 p2 _ _ rs) r2)
theorem gl_ok {x : Str} (h : gl X.env.scope x = true) : Gl X x := by
  have h2 : decide (X.env.scope.names.lookup x = some .globalImplicit) = true := h
  exact (show X.env.kindOf x = some .globalImplicit from of_decide_eq_true h2)
theorem isiC_cases {sc : Scope} {ts : List Ty} {z : Expr} (h : isiC sc ts z = true) : (∃ zs k p, z = .Tuple zs k p ∧ zs.all plainX = true ∧ tysC sc ts zs = true ∧ zs.length < 100) ∨ ∃ t, ts = [t] ∧ plainX z = true ∧ tyC sc t z = true := by
  unfold isiC at h
  split at h
  · rename_i zs k p
    simp only [Bool.and_eq_true, decide_eq_true_eq] at h
    exact .inl ⟨zs, k, p, rfl, h.1.1, h.1.2, h.2⟩
  · split at h
    · rw [Bool.and_eq_true] at h
      exact .inr ⟨_, rfl, h.1, h.2⟩
    · cases h
/-! ### built-ins -/
theorem pairsOf_ok {f : List Addr} {H : Hp} {M : Mem} : ∀ (ds : List D) (acc kvs : List (D × D)) (ys : List V) (xs : List (Key × V)), pairsOf M ds acc = some kvs → RVs S.K f H ds ys → RK S.K f H acc xs → (xs.map (·.1)).Nodup →
    ∃ (ps : List Addr) (more : List (Key × V)), ys = ps.map V.ref ∧ Paired (fun p kv => SqT S.K H p [kV kv.1, kv.2]) ps more ∧ RK S.K f H kvs (mergeK xs more) ∧ ((mergeK xs more).map (·.1)).Nodup
  | [], acc, kvs, ys, xs, h, hr, hk, nd => by
    cases h
    cases hr
    exact ⟨[], [], rfl, .nil, hk, nd⟩
  | .tup [k, v] :: r, acc, kvs, ys, xs, h, hr, hk, nd => by
    obtain ⟨u, q, rfl, ⟨a, zs, rfl, ha, hz⟩, hq⟩ := hr
    obtain ⟨x1, q1, rfl, r1, hz⟩ := hz
    obtain ⟨x2, q2, rfl, r2, hz⟩ := hz
    cases hz
    have h : ((keyIn acc k).bind fun z => pairsOf M r (kvPut z k v acc)) = some kvs := h
    cases e : keyIn acc k with
    | none => rw [e] at h; cases h
    | some z =>
      rw [e] at h
      obtain ⟨qk, rfl, eq⟩ := keyIn_ok hk e r1
      obtain ⟨ps, more, e1, e2, e3, e4⟩ := pairsOf_ok r (kvPut z k v acc) kvs q (putK xs qk x2) h hq (hk.put eq r1 r2 nd) (nodup_putK nd)
      exact ⟨a :: ps, (qk, x2) :: more, by rw [e1]; rfl, .cons ha e2, e3, e4⟩
  | .non :: _, _, _, _, _, h, _, _, _ => by cases h
  | .bl _ :: _, _, _, _, _, h, _, _, _ => by cases h
  | .int _ :: _, _, _, _, _, h, _, _, _ => by cases h
  | .str _ :: _, _, _, _, _, h, _, _, _ => by cases h
  | .ref _ :: _, _, _, _, _, h, _, _, _ => by cases h
  | .fn _ :: _, _, _, _, _, h, _, _, _ => by cases h
  | .tup [] :: _, _, _, _, _, h, _, _, _ => by cases h
  | .tup [_] :: _, _, _, _, _, h, _, _, _ => by cases h
  | .tup (_ :: _ :: _ :: _) :: _, _, _, _, _, h, _, _, _ => by cases h
theorem new_dct {f : List Addr} {H : Hp} {M : Mem} {Wx : XK} {Q : VK} (rm : RM S f H M) {kvs : List (D × D)} {xs : List (Key × V)} (r : RK S.K f H kvs xs) (nd : (xs.map (·.1)).Nodup) {p : Addr} (np : H p = none)
    (h : PostE S f H Wx (.ok (.ref M.length) (M ++ [.dct kvs])) Q) : Q (.ref p) (upd H p (.dK xs)) :=
  h.at_ (List.prefix_append f [p]) (rm.newM np ⟨xs, upd_same, RK.mono (List.prefix_append f [p]) (Pres.new np) _ _ r, nd⟩) (Pres.new np) ⟨p, by rw [← rm.len]; simp, rfl⟩
theorem bl_dict (hK : X.K = S.K) (hc : X.calm = true) : CallR X (.type "dict") (rBl S "dict") := by
  rintro pins s σ H xs us Q I r ⟨W, f, M, ds, rm, rs, h⟩
  cases ds with
  | nil => exact h.elim
  | cons d q =>
    cases q with
    | cons _ _ => cases d <;> exact h.elim
    | nil =>
      obtain ⟨x, rfl, rd⟩ := rs.inj1
      cases d with
      | ref i =>
        obtain ⟨a, ea, rfl⟩ := rd
        have h : PostE S f H W (match (listAt M i).bind fun xs => pairsOf M xs [] with
          | some kvs => if kvs.length ≤ lim then .ok (.ref M.length) (M ++ [.dct kvs]) else .bad
          | none => .bad) Q := h
        cases e : listAt M i with
        | none => rw [e] at h; exact h.elim
        | some es =>
          rw [e] at h
          have h : PostE S f H W (match pairsOf M es [] with
            | some kvs => if kvs.length ≤ lim then .ok (.ref M.length) (M ++ [.dct kvs]) else .bad
            | none => .bad) Q := h
          cases e2 : pairsOf M es [] with
          | none => rw [e2] at h; exact h.elim
          | some kvs =>
            rw [e2] at h
            have h : PostE S f H W (if kvs.length ≤ lim then .ok (.ref M.length) (M ++ [.dct kvs]) else .bad) Q := h
            by_cases hl : kvs.length ≤ lim
            · rw [if_pos hl] at h
              obtain ⟨ys, hx, r2⟩ := rm.list e ea
              obtain ⟨ps, more, e3, e4, e5, e6⟩ := pairsOf_ok es [] kvs ys [] e2 r2 rfl (by simp)
              rw [e3] at hx
              exact call_dictP hc pins s σ H _ us Q I r ⟨a, ps, more, rfl, by rw [hK]; exact hx, by rw [hK]; exact e4, fun p np => new_dct rm e5 e6 np h⟩
            · rw [if_neg hl] at h
              exact h.elim
      | _ => exact h.elim
theorem rd_blt {b : Str} {es : Es} (hh : w.hot = hot) : ∀ σ H Q, tI S W w (.blt b es) σ H Q → (hot && !hotB b) = false ∧ tCB (rBl S b) (tL S W w es) σ H Q := by
  rintro σ H Q ⟨f, M, ρ, rm, re, h⟩
  have h : PostE S f H (WE W σ) (if w.hot && !hotB b then .bad else (evEs w es ρ M).bind fun ds m => bltin b ds m) Q := h
  rw [hh] at h
  cases hc : (hot && !hotB b) with
  | true => rw [hc] at h; exact h.elim
  | false =>
    rw [hc] at h
    simp only [Bool.false_eq_true, if_false] at h
    exact ⟨rfl, tL_bind ends_E rm re h fun f1 H1 ds M1 vs a1 rm1 re1 p1 r1 h1 => ⟨_, f1, M1, ds, rm1, r1, h1⟩⟩
theorem pe_imp2 {e : Expr} {t t' : TE} {c : Prop} (h : c → PE X e t) (hi : ∀ σ H Q, t' σ H Q → c ∧ t σ H Q) : PE X e t' := ⟨fun pins s σ H Q I q => (h (hi σ H Q q).1).run pins s σ H Q I (hi σ H Q q).2⟩
theorem good_blt (A : Adm S T n W hot X) (hh : w.hot = hot) {b : Str} (hb : isBn b = true) (hg : Gl X b) {es : Es} {y : Expr} {ys : List Expr} (hp : (y :: ys).all plainX = true) (ha : PA X (y :: ys) (tL S W w es)) {p pos : Pos} :
    PE X (.Call (.Name b p) (y :: ys) [] pos) (tI S W w (.blt b es)) := by
  have h1 := hp
  rw [List.all_cons, Bool.and_eq_true] at h1
  have he := plain_star h1.1 ys X.env
  have hpl := plain_any pos X.env h1.2
  have hm : ∀ {z : Str}, z ∈ bnames → X.mg z = none := fun {z} q => A.free z q
  have cold : (hot && !hotB b) = false → hotB b = false → X.calm = true := fun q z => by
    rw [z] at q
    cases hot with
    | true => cases q
    | false => exact A.calm rfl
  unfold isBn at hb
  simp only [List.contains_eq_mem, List.mem_cons, List.not_mem_nil, or_false, decide_eq_true_eq] at hb
  rcases hb with rfl | rfl | rfl | rfl | rfl | rfl | rfl | rfl
  · exact pe_imp2 (fun _ => pe_callB (bl_len A.K) hg (hm (by simp [bnames])) PySem.boot_len ha (by decide) (by decide) he hpl) (rd_blt hh)
  · exact pe_imp2 (fun _ => pe_callTy (bl_tuple A.K) hg (hm (by simp [bnames])) (by decide +kernel) ha (by decide) (by decide) he hpl) (rd_blt hh)
  · exact pe_imp2 (fun _ => pe_callTy (bl_list A.K) hg (hm (by simp [bnames])) (by decide +kernel) ha (by decide) (by decide) he hpl) (rd_blt hh)
  · exact pe_imp2 (fun q => pe_callB (bl_all A.K (cold q (by decide))) hg (hm (by simp [bnames])) (by decide +kernel) ha (by decide) (by decide) he hpl) (rd_blt hh)
  · exact pe_imp2 (fun q => pe_callB (bl_any A.K (cold q (by decide))) hg (hm (by simp [bnames])) (by decide +kernel) ha (by decide) (by decide) he hpl) (rd_blt hh)
  · exact pe_imp2 (fun q => pe_callB (bl_sum A.K (cold q (by decide))) hg (hm (by simp [bnames])) (by decide +kernel) ha (by decide) (by decide) he hpl) (rd_blt hh)
  · exact pe_imp2 (fun _ => pe_callTy bl_int hg (hm (by simp [bnames])) (by decide +kernel) ha (by decide) (by decide) he hpl) (rd_blt hh)
  · exact pe_imp2 (fun q => pe_callTy (bl_dict A.K (cold q (by decide))) hg (hm (by simp [bnames])) (by decide +kernel) ha (by decide) (by decide) he hpl) (rd_blt hh)
/-! ### isinstance -/
def tyV' (S : Sg) : Ty → V
  | .ty n => .ty (tnS n)
  | .own c => .ref ((S.ca c).getD 0)
theorem boot_tn (a : Tn) (h : a ≠ .non) : bootBuiltins (tnN a) = some (.type (tnS a)) := by
  cases a <;> first | exact absurd rfl h | decide +kernel
theorem tn_free (a : Tn) (h : a ≠ .non) : tnN a ∈ bnames := by
  cases a <;> first | exact absurd rfl h | (simp [tnN, bnames])
theorem good_ty (A : Adm S T n W hot X) {t : Ty} {x : Expr} (h : tyC X.env.scope t x = true) (ho : tyOk T.isC t = true) : PE X x (tC (tyV' S t)) ∧ ∃ u, tagV S t = some u ∧ ClsV (tyV' S t) u ∧ t ≠ .ty .non := by
  cases x with
  | Name x p =>
    cases t with
    | ty a =>
      have h : (decide (a ≠ .non) && decide (x = tnN a) && gl X.env.scope x) = true := h
      simp only [Bool.and_eq_true, decide_eq_true_eq] at h
      obtain ⟨⟨hn, rfl⟩, hg⟩ := h
      have hg : Gl X (tnN a) := gl_ok hg
      refine ⟨pe_bltn hg (A.free _ (tn_free a hn)) (boot_tn a hn) rfl ?_ ?_, _, rfl, .ty _, fun z => hn (by injection z)⟩
      · cases a <;> decide
      · cases a <;> decide
    | own c =>
      have h : (decide (x = c) && gl X.env.scope x && plainN x) = true := h
      simp only [Bool.and_eq_true, decide_eq_true_eq] at h
      obtain ⟨⟨rfl, hg⟩, hp⟩ := h
      have hg : Gl X x := gl_ok hg
      obtain ⟨C, e⟩ := A.caC x ho
      have hd : (x == ("__debug__" : Str)) = false := by
        unfold plainN at hp
        simp only [Bool.and_eq_true, Bool.not_eq_true'] at hp
        exact hp.1.1
      refine ⟨?_, .ref C, by show (S.ca x).map Value.ref = _; rw [e] <;> rfl, ?_, fun z => by cases z⟩
      · show PE X _ (tC (.ref ((S.ca x).getD 0)))
        rw [e]
        exact pe_glob hg (A.cls x C e) rfl hd
      · show ClsV (.ref ((S.ca x).getD 0)) _
        rw [e]
        exact .own C
  | _ => cases t <;> cases h
theorem good_tys (A : Adm S T n W hot X) : ∀ {ts : List Ty} {zs : List Expr}, tysC X.env.scope ts zs = true → zs.all plainX = true → ts.all (tyOk T.isC) = true →
    PA X zs (fun _ H Q => Q (ts.map (tyV' S)) H) ∧ ∃ us, Paired ClsV (ts.map (tyV' S)) us ∧ us.length = zs.length ∧ ∀ {t : Ty} {u : Value}, tagV S t = some u → (∀ c', t = .own c' → T.isC c' = true) → PySem.W.kitAny X.K u us = some (ts.any (isOf t))
  | [], [], _, _, _ => ⟨pa_imp pa_nil fun σ H Q q => q, [], .nil, rfl, fun _ _ => rfl⟩
  | t :: r, x :: q, h, hp, ho => by
    have h : (tyC X.env.scope t x && tysC X.env.scope r q) = true := h
    rw [Bool.and_eq_true] at h
    rw [List.all_cons, Bool.and_eq_true] at hp ho
    obtain ⟨g, u, e1, e2, e3⟩ := good_ty A h.1 ho.1
    obtain ⟨g2, us, p2, l2, k2⟩ := good_tys A h.2 hp.2 ho.2
    refine ⟨pa_imp (pa_cons g g2 (plain_star hp.1 _ _)) fun σ H Q z => z, u :: us, .cons e2 p2, by simp [l2], fun {t' u'} ht it => ?_⟩
    have ic : ∀ c', t = .own c' → T.isC c' = true := fun c' z => by rw [z] at ho; exact ho.1
    refine kitAny_cons (b := isOf t' t) (kit_one A ht e1 e3 it ic) (fun hb => ?_) fun hb => ?_
    · rw [k2 ht it, List.any_cons, hb, Bool.false_or]
    · rw [List.any_cons, hb, Bool.true_or]
  | [], _ :: _, h, _, _ => by cases h
  | _ :: _, [], h, _, _ => by cases h
theorem good_isi (A : Adm S T n W hot X) (hi : w.isC = T.isC) {a : E} {ts : List Ty} {y z : Expr} {p pos : Pos} (hg : Gl X "isinstance") (hy : plainX y = true) (ha : PE X y (tI S W w a))
    (hz : isiC X.env.scope ts z = true) : PE X (.Call (.Name "isinstance" p) [y, z] [] pos) (tI S W w (.isi a ts)) := by
  have read : ∀ σ H Q, tI S W w (.isi a ts) σ H Q → ts.all (tyOk T.isC) = true ∧ tI S W w a σ H fun x H1 => ∃ t u, tagV S t = some u ∧ TyX X.K H1 x u ∧ (∀ c', t = .own c' → T.isC c' = true) ∧ ∀ H2, (∀ v, H1 v ≠ none → H2 v = H1 v) → (H2 = H1 ∨ ∃ q xs, H1 q = none ∧ H2 = upd H1 q (.tup xs)) → Q (.bl (ts.any (isOf t))) H2 := by
    rintro σ H Q ⟨f, M, ρ, rm, re, h⟩
    have h : PostE S f H (WE W σ) (if !ts.all (tyOk w.isC) then .bad else (evE w a ρ M).bind fun x m => someB (isTys m x ts) m) Q := h
    rw [hi] at h
    cases hc : ts.all (tyOk T.isC) with
    | false => rw [hc] at h; exact h.elim
    | true =>
      rw [hc] at h
      simp only [Bool.not_true, Bool.false_eq_true, if_false] at h
      refine ⟨rfl, tI_bind ends_E rm re h fun f1 H1 d M1 v a1 rm1 re1 p1 r1 h1 => ?_⟩
      cases q : tagOf M1 d with
      | none =>
        have : isTys M1 d ts = none := by unfold isTys; rw [q] <;> rfl
        rw [this] at h1
        exact h1.elim
      | some t =>
        have : isTys M1 d ts = some (ts.any (isOf t)) := by unfold isTys; rw [q] <;> rfl
        rw [this] at h1
        obtain ⟨u, e1, e2⟩ := tag_ok A.K rm1 r1 q
        refine ⟨t, u, e1, e2, isC_of A rm1 q, fun H2 _ hh => ?_⟩
        have h1 : PostE S f1 H1 (WE W σ) (.ok (.bl (ts.any (isOf t))) M1) Q := h1
        rcases hh with rfl | ⟨b, xs, nb, rfl⟩
        · exact h1.now rm1 rfl
        · exact h1.at_ (List.prefix_refl _) (rm1.newH nb) (Pres.new nb) rfl
  have mono : ∀ {H1 : Hp} {q : Addr} {xs : List V} {x : V} {u : Value}, H1 q = none → TyX X.K H1 x u → TyX X.K (upd H1 q (.tup xs)) x u := fun {H1 q xs x u} nq h => by
    have k : ∀ {a : Addr} {o : HO}, H1 a = some o → (upd H1 q (.tup xs)) a = some o := fun {a o} e => by rw [upd_ne (ne_of_none e nq)]; exact e
    cases h with
    | base b =>
      cases b with
      | non => exact .base .non
      | bl x => exact .base (.bl x)
      | int x => exact .base (.int x)
      | str x => exact .base (.str x)
      | flt x => exact .base (.flt x)
      | lst e => exact .base (.lst (k e))
      | frz e => exact .base (.frz (k e))
      | tup e => exact .base (.tup (k e))
      | dK e => exact .base (.dK (k e))
      | dT e => exact .base (.dT (k e))
      | ins e cl ha hn htk hm => exact .base (.ins (k e) cl ha hn htk hm)
    | byt b => exact .byt b
    | set e => exact .set (k e)
    | kList e c => exact .kList e c
    | kTuple e c => exact .kTuple e c
    | kDict e c => exact .kDict e c
    | fTuple e => exact .fTuple (k e)
    | fDict e => exact .fDict (k e)
  have one : ∀ {t0 : Ty} {z : Expr}, ts = [t0] → plainX z = true → tyC X.env.scope t0 z = true → PE X (.Call (.Name "isinstance" p) [y, z] [] pos) (tI S W w (.isi a ts)) := fun {t0 z} e0 pz hc => by
    refine pe_imp2 (c := ts.all (tyOk T.isC) = true) (fun ho => ?_) (t := fun σ H Q => tI S W w a σ H fun x H1 => ∃ t u, tagV S t = some u ∧ TyX X.K H1 x u ∧ (∀ c', t = .own c' → T.isC c' = true) ∧ Q (.bl (ts.any (isOf t))) H1) fun σ H Q q => ?_
    · rw [e0] at ho
      have ho : tyOk T.isC t0 = true := by simpa using ho
      obtain ⟨g, u0, e1, e2, e3⟩ := good_ty A hc ho
      refine pe_imp (pe_callB call_isi hg (A.free _ (by simp [bnames])) (by decide +kernel) (pa_cons ha (pa_cons g pa_nil (plain_star pz _ _)) (plain_star hy _ _)) (by decide) (by decide) (plain_star hy _ _) (plain_any pos X.env (by simp [pz]))) fun σ H Q q => ?_
      have q : tI S W w a σ H fun x H1 => ∃ t u, tagV S t = some u ∧ TyX X.K H1 x u ∧ (∀ c', t = .own c' → T.isC c' = true) ∧ Q (.bl (ts.any (isOf t))) H1 := q
      obtain ⟨f, M, ρ, rm, re, h⟩ := q
      refine ⟨f, M, ρ, rm, re, ?_⟩
      have weak : ∀ {r : R D} {Q1 Q2 : VK}, (∀ v H, Q1 v H → Q2 v H) → PostE S f H (WE W σ) r Q1 → PostE S f H (WE W σ) r Q2 := fun {r Q1 Q2} hq h => by
        cases r with
        | ok d m => exact fun a b c d e f g => hq _ _ (h a b c d e f g)
        | exc x m => exact h
        | bad => exact h
      refine weak (fun x H1 z => ?_) h
      obtain ⟨t, u, f1, f2, f3, f4⟩ := z
      refine ⟨x, tyV' S t0, u, u0, isOf t t0, rfl, e2, f2, kit_one A f1 e1 e3 f3 (fun c' z => by rw [z] at ho; exact ho), ?_⟩
      rw [e0] at f4
      simpa using f4
    · obtain ⟨q1, q2⟩ := read σ H Q q
      refine ⟨q1, ?_⟩
      obtain ⟨f, M, ρ, rm, re, h⟩ := q2
      refine ⟨f, M, ρ, rm, re, ?_⟩
      cases e : evE w a ρ M with
      | ok d m =>
        rw [e] at h
        intro f1 H1 v b1 b2 b3 b4
        obtain ⟨t, u, g1, g2, g3, g4⟩ := h f1 H1 v b1 b2 b3 b4
        exact ⟨t, u, g1, g2, g3, g4 H1 (fun _ _ => rfl) (.inl rfl)⟩
      | exc x m => rw [e] at h; exact h
      | bad => rw [e] at h; exact h
  have many : ∀ {zs : List Expr} {k : Nat} {pz : Pos}, zs.all plainX = true → tysC X.env.scope ts zs = true → zs.length < 100 → PE X (.Call (.Name "isinstance" p) [y, .Tuple zs k pz] [] pos) (tI S W w (.isi a ts)) := fun {zs k pz} hp hc hl => by
    refine pe_imp2 (c := ts.all (tyOk T.isC) = true) (fun ho => ?_) read
    obtain ⟨g, us, pr, lu, kk⟩ := good_tys A hc hp ho
    refine pe_imp (pe_callB call_isiT hg (A.free _ (by simp [bnames])) (by decide +kernel) (pa_cons ha (pa_cons (pe_tup g) pa_nil rfl) (plain_star hy _ _)) (by decide) (by decide) (plain_star hy _ _) rfl) fun σ H Q q => ?_
    obtain ⟨f, M, ρ, rm, re, h⟩ := q
    refine ⟨f, M, ρ, rm, re, ?_⟩
    cases e : evE w a ρ M with
    | ok d m =>
      rw [e] at h
      intro f1 H1 v b1 b2 b3 b4
      obtain ⟨t, u, g1, g2, g3, g4⟩ := h f1 H1 v b1 b2 b3 b4
      refine ⟨?_, fun b nb => ?_⟩
      · have l1 := Paired.length pr
        rw [l1, lu]
        exact Nat.le_trans (Nat.le_of_lt hl) (by rw [sizeLine_eq]; decide)
      · exact ⟨v, b, ts.map (tyV' S), u, us, ts.any (isOf t), rfl, upd_same, pr, mono nb g2, kk g1 g3, g4 _ (fun x hx => by
          by_cases e : x = b
          · subst e; exact absurd nb hx
          · exact upd_ne e) (.inr ⟨b, _, nb, rfl⟩)⟩
    | exc x m => rw [e] at h; exact h
    | bad => rw [e] at h; exact h
  rcases isiC_cases hz with ⟨zs, k, pz, rfl, h1, h2, h3⟩ | ⟨t, h0, h1, h2⟩
  · exact many h1 h2 h3
  · exact one h0 h1 h2
end
end Mp

set_option Elab.async false
set_option linter.all false
set_option maxRecDepth 100000
set_option maxHeartbeats 2000000
/-! The small interpreter beside the layer: calls at the text. -/
namespace Mp
open PySem PySem.Spec PyProof.Rows L2
section
variable {S : Sg} {T : Tab} {n : Nat} {W : WX} {hot : Bool} {X : Cx}
theorem wdh_isC (T : Tab) (n : Nat) (hot : Bool) : (wdh T n hot).isC = T.isC := by cases hot <;> cases n <;> rfl
theorem wdh_hot (T : Tab) (n : Nat) (hot : Bool) : (wdh T n hot).hot = hot := by cases hot <;> cases n <;> rfl
theorem wdh_glo (T : Tab) (n : Nat) (hot : Bool) : (wdh T n hot).glo = T.glo := by cases hot <;> cases n <;> rfl
theorem wdh_fld (T : Tab) (n : Nat) (hot : Bool) : (wdh T n hot).fld = T.fld := by cases hot <;> cases n <;> rfl
theorem wdh_turns (T : Tab) (n : Nat) (hot : Bool) : (wdh T n hot).turns = T.turns := by cases hot <;> cases n <;> rfl
theorem wdh_none {T : Tab} {n : Nat} {hot : Bool} (h : hot = true ∨ n = 0) (g : Fn) : (wdh T n hot).has g = false := by
  rcases h with rfl | rfl
  · rfl
  · cases hot <;> rfl
theorem cold_cases (n : Nat) (hot : Bool) : (hot = true ∨ n = 0) ∨ ∃ k, n = k + 1 ∧ hot = false := by
  cases hot with
  | true => exact .inl (.inl rfl)
  | false => cases n with
    | zero => exact .inl (.inr rfl)
    | succ k => exact .inr ⟨k, rfl, rfl⟩
/-- a text that never comes to an end of the interpreter -/
theorem pe_never {e : Expr} {t : TE} (h : ∀ σ H Q, ¬ t σ H Q) : PE X e t := ⟨fun _ _ σ H Q _ q => (h σ H Q q).elim⟩
theorem plain_dbg {x : Str} (h : plainN x = true) : (x == ("__debug__" : Str)) = false := by
  unfold plainN at h
  simp only [Bool.and_eq_true, Bool.not_eq_true'] at h
  exact h.1.1
theorem good_call (A : Adm S T n W hot X) {g : Str} (hg : Gl X g) (hn : plainN g = true) {es : Es} {y : Expr} {ys : List Expr} (hp : (y :: ys).all plainX = true) (ha : PA X (y :: ys) (tL S W (wdh T n hot) es)) {p pos : Pos} :
    PE X (.Call (.Name g p) (y :: ys) [] pos) (tI S W (wdh T n hot) (.call g es)) := by
  have h1 := hp
  rw [List.all_cons, Bool.and_eq_true] at h1
  have never : (wdh T n hot).has (g, none) = false → PE X (.Call (.Name g p) (y :: ys) [] pos) (tI S W (wdh T n hot) (.call g es)) := fun e => by
    refine pe_never fun σ H Q ⟨f, M, ρ, _, _, h⟩ => ?_
    have h : PostE S f H (WE W σ) (if !(wdh T n hot).has (g, none) then .bad else (evEs (wdh T n hot) es ρ M).bind fun ds m => (wdh T n hot).call (g, none) ds m) Q := h
    rw [e] at h
    exact h
  rcases cold_cases n hot with hc | ⟨k, rfl, rfl⟩
  · exact never (wdh_none hc _)
  · cases e : T.df (g, none) with
    | none =>
      refine never ?_
      show (T.df (g, none)).isSome = false
      rw [e] <;> rfl
    | some d =>
      obtain ⟨fa, fd, ps, hl, kp, bi, F, hm⟩ := (A.fns rfl _ _ e).ok
      exact pe_imp (pe_callS F (A.room rfl) hg hm kp bi (passAt A.tk) ha (plain_dbg hn) (plain_star h1.1 ys X.env) (plain_any pos X.env h1.2)) (rd_call rfl rfl e)
theorem good_mk (A : Adm S T n W hot X) {g : Str} (hg : Gl X g) (hn : plainN g = true) {es : Es} {y : Expr} {ys : List Expr} (hp : (y :: ys).all plainX = true) (ha : PA X (y :: ys) (tL S W (wdh T n hot) es)) {p pos : Pos} :
    PE X (.Call (.Name g p) (y :: ys) [] pos) (tI S W (wdh T n hot) (.mk g es)) := by
  have h1 := hp
  rw [List.all_cons, Bool.and_eq_true] at h1
  have never : (T.isC g && (wdh T n hot).has (g, some "__init__")) = false → PE X (.Call (.Name g p) (y :: ys) [] pos) (tI S W (wdh T n hot) (.mk g es)) := fun e => by
    refine pe_never fun σ H Q ⟨f, M, ρ, _, _, h⟩ => ?_
    have h : PostE S f H (WE W σ) (if !((wdh T n hot).isC g && (wdh T n hot).has (g, some "__init__")) then .bad else _) Q := h
    rw [wdh_isC, e] at h
    exact h
  rcases cold_cases n hot with hc | ⟨k, rfl, rfl⟩
  · exact never (by rw [wdh_none hc, Bool.and_false])
  · cases e : T.df (g, some "__init__") with
    | none =>
      refine never ?_
      show (T.isC g && (T.df (g, some "__init__")).isSome) = false
      rw [e, Bool.and_comm] <;> rfl
    | some d =>
      obtain ⟨fa, fd, ps, hl, kp, bi, F, C, eC, hm⟩ := (A.fns1 rfl _ _ e).ok
      rw [if_pos rfl] at hm
      exact pe_imp (pe_mkS hm.1 F (A.room rfl) hg hm.2 bi (passAt A.tk) ha (plain_dbg hn) (plain_star h1.1 ys X.env) (plain_any pos X.env h1.2)) (rd_mk rfl rfl (wdh_isC T _ false) e eC (fun hh => by rw [← A.K]; exact A.clsF g C eC hh) A.isC)
theorem lookup_of {K : PySem.W.Frag} {f : List Addr} {H : Hp} {x : Str} {fs : List (Str × D)} {xs : List (Str × V)} (r : RF K f H fs xs) (h : fget x fs = none) : xs.lookup x = none := fget_none r h
theorem mthL_ok {f : List Addr} {H : Hp} {Wx : XK} {Q : VK} {j : Nat} {ds : List D} {M : Mem} (h : PostE S f H Wx (mthL j "append" ds M) Q) : ∃ d xs, ds = [d] ∧ M[j]? = some (.lst xs) ∧ xs.length < lim ∧ PostE S f H Wx (.ok .non (M.set j (.lst (xs ++ [d])))) Q := by
  have h : PostE S f H Wx (match (generalizing := false) ds, M[j]? with
    | [d], some (.lst xs) => if xs.length < lim then .ok .non (M.set j (.lst (xs ++ [d]))) else .bad
    | _, _ => .bad) Q := h
  cases ds with
  | nil => exact h.elim
  | cons d r =>
    cases r with
    | cons _ _ => exact h.elim
    | nil =>
      cases e : M[j]? with
      | none => rw [e] at h; exact h.elim
      | some o =>
        rw [e] at h
        cases o with
        | lst xs =>
          have h : PostE S f H Wx (if xs.length < lim then .ok .non (M.set j (.lst (xs ++ [d]))) else .bad) Q := h
          by_cases hl : xs.length < lim
          · rw [if_pos hl] at h
            exact ⟨d, xs, rfl, rfl, hl, h⟩
          · rw [if_neg hl] at h
            exact h.elim
        | _ => exact h.elim
theorem good_mth (A : Adm S T n W hot X) {o : E} {x : Str} {es : Es} {ox : Expr} {ys : List Expr} {ap p : Pos} (hb : baseOk ox = true) (hp : ys.all plainX = true) (hl : ys.length < 20) (hline : (ap.endLine == p.line) = true)
    (ho : PE X ox (tI S W (wdh T n hot) o)) (ha : PA X ys (tL S W (wdh T n hot) es)) (hes : ys = [] → es = .nil) :
    PE X (.Call (.Attribute ox x ap) ys [] p) (tI S W (wdh T n hot) (.mth o x es)) := by
  refine ⟨fun pins s σ H Q I h0 => ?_⟩
  obtain ⟨f, M, ρ, rm, re, h⟩ := h0
  have h : PostE S f H (WE W σ) ((evE (wdh T n hot) o ρ M).bind fun v m => (match mthAt (wdh T n hot) v x m with
    | .own c => (evEs (wdh T n hot) es ρ m).bind fun ds m => (wdh T n hot).call (c, some x) (v :: ds) m
    | .lst i => (evEs (wdh T n hot) es ρ m).bind fun ds m => mthL i x ds m
    | .bad => .bad)) Q := h
  have ht := eval_meth (o := ox) (m := x) (env := X.env) hb hp hl hline
  cases q : evE (wdh T n hot) o ρ M with
  | bad => rw [q] at h; exact h.elim
  | exc z m =>
    rw [q] at h
    refine PySem.W.methodCall_KW (thn (ho.run pins s σ H (fun _ _ => False) I ⟨f, M, ρ, rm, re, ?_⟩) fun u s1 ⟨y, H1, I1, ry, bad⟩ => bad.elim) ht
    rw [q]
    exact h
  | ok d m =>
    rw [q] at h
    have h : PostE S f H (WE W σ) (match mthAt (wdh T n hot) d x m with
      | .own c => (evEs (wdh T n hot) es ρ m).bind fun ds m => (wdh T n hot).call (c, some x) (d :: ds) m
      | .lst i => (evEs (wdh T n hot) es ρ m).bind fun ds m => mthL i x ds m
      | .bad => .bad) Q := h
    have first : ∀ Q1 : VK, (∀ f1 H1 v, f <+: f1 → RM S f1 H1 m → RE S.K f1 H1 ρ σ → Pres H H1 → RV S.K f1 H1 d v → Q1 v H1) → tI S W (wdh T n hot) o σ H Q1 := fun Q1 hh => by
      refine ⟨f, M, ρ, rm, re, ?_⟩
      rw [q]
      exact fun f1 H1 v a b c e => hh f1 H1 v a b (re.mono a c) c e
    cases hk : mthAt (wdh T n hot) d x m with
    | bad => rw [hk] at h; exact h.elim
    | own c =>
      rw [hk] at h
      have h : PostE S f H (WE W σ) ((evEs (wdh T n hot) es ρ m).bind fun ds m => (wdh T n hot).call (c, some x) (d :: ds) m) Q := h
      cases d with
      | ref i =>
        have hk : (match m[i]? with
          | some (.ins c fs) => if (wdh T n hot).has (c, some x) && decide (fget x fs = none) && decide (x ≠ "__init__") then Mt.own c else .bad
          | some (.lst _) => if x = "append" then .lst i else .bad
          | _ => .bad) = .own c := hk
        cases e : m[i]? with
        | none => rw [e] at hk; cases hk
        | some ob =>
          rw [e] at hk
          cases ob with
          | ins c' fs =>
            have hk : (if (wdh T n hot).has (c', some x) && decide (fget x fs = none) && decide (x ≠ "__init__") then Mt.own c' else .bad) = .own c := hk
            split at hk
            case isFalse => cases hk
            case isTrue hh =>
            cases hk
            simp only [Bool.and_eq_true, decide_eq_true_eq] at hh
            obtain ⟨⟨hh, hf⟩, hx⟩ := hh
            rcases cold_cases n hot with hc | ⟨k, rfl, rfl⟩
            · rw [wdh_none hc] at hh; cases hh
            · have hh : (T.df (c, some x)).isSome = true := hh
              obtain ⟨df, edf⟩ := Option.isSome_iff_exists.mp hh
              obtain ⟨fa, fd, ps, hl2, kp, bi, F, C, eC, hm⟩ := (A.fns rfl _ _ edf).ok
              rw [if_neg hx] at hm
              have obj : ∀ {f1 : List Addr} {H1 : Hp} {v : V}, RM S f1 H1 m → RV S.K f1 H1 (.ref i) v → ∃ a b xs, v = .ref a ∧ H1 a = some (.ins C b xs) ∧ xs.lookup x = none := fun {f1 H1 v} rm1 r1 => by
                obtain ⟨a, ea, rfl⟩ := r1
                obtain ⟨a', ea', C', dx, xs, e1, q1, rf, _⟩ := rm1.at_ i _ e
                rw [ea] at ea'; cases ea'
                rw [eC] at e1; cases e1
                exact ⟨a, dx, xs, rfl, q1, fget_none rf hf⟩
              cases ys with
              | nil =>
                cases hes rfl
                refine (pe_mtS0 (pl := do return (← importBound ox X.env).getD true) ho hm.1 hm.2 F (A.room rfl) bi (passAt A.tk) ht).run pins s σ H Q I ?_
                refine first _ fun f1 H1 v a1 rm1 re1 p1 r1 => ?_
                obtain ⟨a, b, xs, e1, e2, e3⟩ := obj rm1 r1
                refine ⟨a, b, xs, e1, e2, e3, ?_⟩
                have h2 : PostE S f1 H1 (WE W σ) (callD T (k + 1) (c, some x) [.ref i] m) Q := PostE.mono a1 p1 h
                exact ⟨callD_len edf h2, f1, m, [.ref i], rm1, RVs.one r1, h2⟩
              | cons y ys =>
                have h1 := hp
                rw [List.all_cons, Bool.and_eq_true] at h1
                refine (pe_mtS (pl := do return (← importBound ox X.env).getD true) ho hm.1 hm.2 F (A.room rfl) bi (passAt A.tk) ha (plain_star h1.1 ys X.env) (plain_any p X.env h1.2) ht).run pins s σ H Q I ?_
                refine first _ fun f1 H1 v a1 rm1 re1 p1 r1 => ?_
                obtain ⟨a, b, xs, e1, e2, e3⟩ := obj rm1 r1
                refine ⟨a, b, xs, e1, e2, e3, ?_⟩
                refine tL_bind ends_E rm1 re1 (PostE.mono a1 p1 h) fun f2 H2 ds M2 vs a2 rm2 re2 p2 r2 h2 => ?_
                have h2 : PostE S f2 H2 (WE W σ) (callD T (k + 1) (c, some x) (.ref i :: ds) M2) Q := h2
                have ln := callD_len edf h2
                exact ⟨by rw [List.length_cons, ← r2.length, ← List.length_cons (a := D.ref i)]; exact ln, f2, M2, .ref i :: ds, rm2, ⟨_, _, rfl, RV.mono a2 p2 _ _ r1, r2⟩, h2⟩
          | lst xs =>
            have hk : (if x = "append" then Mt.lst i else .bad) = .own c := hk
            split at hk <;> cases hk
          | _ => cases hk
      | _ => cases hk
    | lst j =>
      rw [hk] at h
      have h : PostE S f H (WE W σ) ((evEs (wdh T n hot) es ρ m).bind fun ds m => mthL j x ds m) Q := h
      cases d with
      | ref i =>
        have hk : (match m[i]? with
          | some (.ins c fs) => if (wdh T n hot).has (c, some x) && decide (fget x fs = none) && decide (x ≠ "__init__") then Mt.own c else .bad
          | some (.lst _) => if x = "append" then .lst i else .bad
          | _ => .bad) = .lst j := hk
        cases e : m[i]? with
        | none => rw [e] at hk; cases hk
        | some ob =>
          rw [e] at hk
          cases ob with
          | ins c' fs =>
            have hk : (if (wdh T n hot).has (c', some x) && decide (fget x fs = none) && decide (x ≠ "__init__") then Mt.own c' else .bad) = .lst j := hk
            split at hk <;> cases hk
          | lst xs =>
            have hk : (if x = "append" then Mt.lst i else .bad) = .lst j := hk
            split at hk
            case isFalse => cases hk
            case isTrue hx =>
            cases hk
            subst hx
            have obj : ∀ {f1 : List Addr} {H1 : Hp} {v : V}, RM S f1 H1 m → RV S.K f1 H1 (.ref j) v → ∃ a zs, v = .ref a ∧ H1 a = some (.lst zs) := fun {f1 H1 v} rm1 r1 => by
              obtain ⟨a, ea, rfl⟩ := r1
              obtain ⟨a', ea', zs, q1, rf⟩ := rm1.at_ j _ e
              rw [ea] at ea'; cases ea'
              exact ⟨a, zs, rfl, q1⟩
            cases ys with
            | nil =>
              cases hes rfl
              exact (show False from h).elim
            | cons y ys =>
              have h1 := hp
              rw [List.all_cons, Bool.and_eq_true] at h1
              refine (pe_bm PySem.F.plainAttrs_list PySem.F.slot_list_append PySem.F.type_list_append mt_append ho ha (base_ok hb _ _ _) ?_ hline (plain_star h1.1 ys X.env) (plain_any p X.env h1.2)).run pins s σ H Q I ?_
              · rw [plain_all p X.env hp]
                show (true && (true && decide ((y :: ys).length + 0 + 0 < 30))) = true
                rw [decide_eq_true (by omega)]
                rfl
              refine first _ fun f1 H1 v a1 rm1 re1 p1 r1 => ?_
              obtain ⟨a, zs, e1, e2⟩ := obj rm1 r1
              refine ⟨by rw [e1]; exact .inl ⟨rfl, zs, .inl (.inl e2)⟩, ?_⟩
              refine tL_bind ends_E rm1 re1 (PostE.mono a1 p1 h) fun f2 H2 ds M2 vs a2 rm2 re2 p2 r2 h2 => ?_
              obtain ⟨d', xs', rfl, e5, hl2, h3⟩ := mthL_ok h2
              clear h2
              obtain ⟨u, rfl, ru⟩ := r2.inj1
              obtain ⟨b, eb, ws, hw, rw_⟩ := rm2.at_ _ _ e5
              have r1' := RV.mono a2 p2 _ _ r1
              obtain ⟨b', eb', rfl⟩ := r1'
              rw [eb] at eb'; cases eb'
              refine ⟨b, ws, u, rfl, rfl, hw, ?_, ?_⟩
              · rw [← rw_.length]
                exact Nat.lt_of_lt_of_le hl2 lim_line
              · obtain ⟨rm3, p3⟩ := rm2.put (u := .lst (ws ++ [u])) (o' := .lst (xs' ++ [d'])) e5 rfl eb rfl ⟨_, upd_same, RVs.mono (List.prefix_refl _) (Pres.put hw (fun _ z => by cases z) fun _ _ z => by cases z) _ _ (rw_.append (RVs.one ru))⟩
                exact h3.at_ (List.prefix_refl _) rm3 p3 rfl
          | _ => cases hk
      | _ => cases hk
end
end Mp

set_option Elab.async false
set_option linter.all false
set_option maxRecDepth 100000
set_option maxHeartbeats 2000000
/-! The small interpreter beside the layer: list(x.items()). -/
namespace Mp
open PySem PySem.Spec PyProof.Rows L2
section
variable {S : Sg} {T : Tab} {n : Nat} {W : WX} {hot : Bool} {X : Cx} {f : List Addr} {H H' : Hp} {M : Mem}
/-- a thing that has been laid, among others -/
theorem RM.laid (rm : RM S f H M) (k : ∀ b o, H b = some o → H' b = some o) {p : Addr} (np : H p = none) {u : HO} (hp : H' p = some u) {o : O} (r : RO S (f ++ [p]) H' o p) : RM S (f ++ [p]) H' (M ++ [o]) ∧ Pres H H' := by
  have e : H' = upd (fun b => if b = p then none else H' b) p u := by
    funext b
    unfold upd
    by_cases q : b = p
    · rw [if_pos q, q]; exact hp
    · rw [if_neg q]; exact (if_neg q).symm
  have k2 : ∀ b o, H b = some o → (fun b => if b = p then none else H' b) b = some o := fun b o z => by
    have q : b ≠ p := fun q => by rw [q, np] at z; cases z
    show (if b = p then none else H' b) = some o
    rw [if_neg q]
    exact k b o z
  have rm2 : RM S f (fun b => if b = p then none else H' b) M := rm.heap ⟨fun a xs z => k2 a _ z, fun a o u z => k2 a _ z⟩ (fun _ _ _ _ _ _ u z => k2 _ _ z) fun b xs z => k2 b _ z
  refine ⟨?_, ⟨fun a xs z => k a _ z, fun a o u z => k a _ z⟩⟩
  rw [e] at r ⊢
  exact rm2.newM (if_pos rfl) r
theorem items_RV {K : PySem.W.Frag} : ∀ {kvs : List (D × D)} {xs : List (Key × V)} {ts : List Addr}, RK K f H' kvs xs → Paired (fun (t : Addr) (q : Key × V) => H' t = some (.tup [kV q.1, q.2])) ts xs → RVs K f H' (itemsD kvs) (ts.map V.ref)
  | [], _, _, r, p => by
    cases r
    cases p
    rfl
  | (k, d) :: r, _, _, h, p => by
    obtain ⟨q, v, z, rfl, h0, h1, h2⟩ := h
    cases p with
    | cons e p => exact ⟨_, _, rfl, ⟨_, _, rfl, .inl (.inl e), ⟨_, _, rfl, h0, RVs.one h1⟩⟩, items_RV h2 p⟩
theorem rd_items {w : Wd} {a : E} : ∀ σ H Q, tI S W w (.un "items" a) σ H Q → LiI.tListItems (tI S W w a) σ H Q := by
  rintro σ H Q ⟨f, M, ρ, rm, re, h⟩
  have h : PostE S f H (WE W σ) (if w.hot then .bad else (evE w a ρ M).bind fun x m => unD "items" x m) Q := h
  cases hh : w.hot with
  | true => rw [hh] at h; exact h.elim
  | false =>
    rw [hh] at h
    refine tI_bind ends_E rm re h fun f1 H1 d M1 v a1 rm1 re1 p1 r1 h1 => ?_
    cases d with
    | ref i =>
      obtain ⟨p, ep, rfl⟩ := r1
      have h1 : PostE S f1 H1 (WE W σ) (match (generalizing := false) dctAt M1 i with
        | some kvs => if ("items" : Str) = "items" then newL (itemsD kvs) M1 else .bad
        | none => .bad) Q := h1
      cases e : dctAt M1 i with
      | none => rw [e] at h1; exact h1.elim
      | some kvs =>
        rw [e] at h1
        have h1 : PostE S f1 H1 (WE W σ) (if ("items" : Str) = "items" then newL (itemsD kvs) M1 else .bad) Q := h1
        rw [if_pos rfl] at h1
        obtain ⟨hl, h2⟩ := newL_ok h1
        obtain ⟨xs, hx, rk, nd⟩ := dct_at rm1 e ep
        refine ⟨p, xs, rfl, hx, fun H' q ts k nq nt hq el pr => ?_⟩
        have pre : Pres H1 H' := ⟨fun a xs z => k a _ z, fun a o u z => k a _ z⟩
        have rk2 := RK.mono (List.prefix_append f1 [q]) pre _ _ rk
        have rvs := items_RV rk2 pr
        obtain ⟨rm2, p2⟩ := rm1.laid k nq el (o := .lst (itemsD kvs)) ⟨_, el, rvs⟩
        refine h2.at_ (List.prefix_append _ _) rm2 p2 ⟨q, ?_, rfl⟩
        rw [← rm1.len]
        simp
    | _ => exact h1.elim
theorem good_items (A : Adm S T n W hot X) {a : E} {y : Expr} {q ap cp pos : Pos} (hg : Gl X "list") (hb : baseOk y = true) (hline : (ap.endLine == cp.line) = true) (ha : PE X y (tI S W (wdh T n hot) a)) :
    PE X (.Call (.Name "list" q) [.Call (.Attribute y "items" ap) [] [] cp] [] pos) (tI S W (wdh T n hot) (.un "items" a)) := by
  cases hot with
  | true =>
    refine pe_never fun σ H Q ⟨f, M, ρ, _, _, h⟩ => ?_
    exact h
  | false => exact pe_imp (LiI.pe_listItems (A.calm rfl) ha hg (A.free _ (by simp [bnames])) (by decide +kernel) (base_ok hb _ _ _) hline) rd_items
end
end Mp

set_option Elab.async false
set_option linter.all false
set_option maxRecDepth 100000
set_option maxHeartbeats 2000000
/-! enumerate over a tuple, walked. -/
namespace Mp
open PySem PySem.Spec PyProof.Rows L2
open AutoSeq1 (wpAny_loadPart')
abbrev enH1 (h : Heap) (l : Addr) : Heap := h.push { cls := .type "tuple_iterator", data := .fields #[.ref l, .int 0 0] }
abbrev enH2 (h : Heap) (l : Addr) : Heap := (enH1 h l).push { cls := .type "enumerate", data := .fields #[.none, .bool false, .ref h.objs.size, rawInt 0, .none, .none] }
theorem meets_enumT (l : Addr) (items : Array Value) :
    PySem.Meets (Builtin.«enumerate.__new__» ⟨[.type "enumerate", .ref l], []⟩) (fun _ R s => s.heap.IsTuple l items ∧
      R (.ok (.ret (.ref (enH1 s.heap l).objs.size))) { s with heap := enH2 s.heap l }) :=
  .of_wp fun prog w A R s h => by
    obtain ⟨hp, g, d, tk, os⟩ := s; obtain ⟨hL, h⟩ := h
    have hsub := sub_enumerate
    obtain ⟨⟨c, dct, dt, sl⟩, hl, hc, n, hd⟩ := id hL
    replace hc : c = .type "tuple" := hc
    replace hd : dt = .seq items n := hd
    subst hc hd
    wp_walk using wpAny_loadPart' hl
    refine wpAny_stack_any fun st => wpAny_pure ?_
    split
    · rename_i c _ _ _ _ _
      cases (c == Value.type "enumerate")
      · wp_walk using wpAny_loadPart' hl, wpAny_pyIter_tuple hL
        exact ⟨_, rfl, h⟩
      · wp_walk using wpAny_loadPart' hl, wpAny_pyIter_tuple hL
        exact ⟨_, rfl, h⟩
    · wp_walk using wpAny_loadPart' hl, wpAny_pyIter_tuple hL
      exact ⟨_, rfl, h⟩
section
variable {prog : Program} {w : World} {A : Around} {E : Value → Shared → Prop} {s : Shared}
theorem call_enumT {l : Addr} {items : Array Value} {Q : Value → Shared → Prop} (hL : s.heap.IsTuple l items)
    (h : ∀ h', IsEnum h' (s.heap.objs.size + 1) s.heap.objs.size 0 .none → h'.IsTupleIter s.heap.objs.size l 0 → h'.objs.size = s.heap.objs.size + 2 →
      (∀ b o, s.heap.get? b = some o → h'.get? b = some o) → Q (.ref (s.heap.objs.size + 1)) { s with heap := h' }) :
    wpAny (model prog w) A (call (.type "enumerate") [.ref l]) Q E s := by
  refine callType_new F.called_enumerate (by decide) (F.typeCall_enumerate_1 _) (F.newCall_enumerate_1 _) (fun obj => F.args_object_init_2 obj _) F.entry_enumerate_new
    (meets_enumT l items) ⟨hL, ?_⟩
  have z1 : (enH1 s.heap l).objs.size = s.heap.objs.size + 1 := Heap.size_push ..
  have z2 : (enH2 s.heap l).objs.size = s.heap.objs.size + 2 := by rw [Heap.size_push, z1]
  have g2 : (enH2 s.heap l).get? (enH1 s.heap l).objs.size = some _ := Heap.get?_push_size _ rfl
  have g1 : (enH2 s.heap l).get? s.heap.objs.size = some _ := Heap.get?_push_of_some _ (Heap.get?_push_size _ rfl)
  show _ ∧ _
  rw [z1] at g2 ⊢
  exact ⟨⟨_, g2, rfl⟩, h _ g2 ⟨_, g1, rfl, rfl⟩ z2 fun b o x => Heap.get?_push_of_some _ (Heap.get?_push_of_some _ x)⟩
end
/-- the tuple at a, each item in a new pair -/
def IteT (K : PySem.W.Frag) (a : Addr) (xs : List V) : It :=
  ⟨fun i H => ∃ x : V, SqT K H a xs ∧ xs[i]? = some x, fun i H v H' => ∃ T x, v = .ref T ∧ H T = none ∧ H' = upd H T (.tup [.int (i : Nat), x]) ∧ xs[i]? = some x, fun i H => SqT K H a xs ∧ xs.length = i⟩
theorem turn_enumT {P : Program} {w : World} {K : PySem.W.Frag} {elts : List Expr} {kk : Nat} {tpos : Pos} (a e it : Addr) (xs : List V) :
    Turn P w K (.Tuple elts kk tpos) (IteT K a xs) [e, it] e (fun i h => (∃ old, IsEnum h e it ((i : Nat) : Int) old) ∧ h.IsTupleIter it a i ∧ e ≠ it ∧ a ≠ it ∧ a ≠ e) where
  mem := by simp
  obj := fun i h st b hb => by
    obtain ⟨⟨old, he⟩, ⟨o, ho, hc, hd⟩, _⟩ := st
    have e' : b = e ∨ b = it := by simpa using hb
    rcases e' with z | z
    · rw [z]; exact ⟨_, he, fun v q => nomatch q⟩
    · rw [z]; exact ⟨o, ho, fun v q => by rw [hd] at q; cases q⟩
  keep := fun i h h' st k => let ⟨⟨old, he⟩, hi, hne⟩ := st; ⟨⟨old, k e (by simp) _ he⟩, hi.at fun o q => k it (by simp) o q, hne⟩
  item := by
    intro X hP hw hK hc i pins s σ H E I hf st hg
    subst hP hw hK
    obtain ⟨⟨old, he⟩, hit, hne, hai, hae⟩ := st
    obtain ⟨x, hq, hx⟩ := hg
    obtain ⟨its, rv, p, hz⟩ := I.tuple hq
    obtain ⟨u, hu, ru⟩ := rv.get hx
    have hel : e < s.heap.objs.size := Heap.lt_size he
    have hil : it < s.heap.objs.size := by obtain ⟨_, q, _⟩ := hit; exact Heap.lt_size q
    have hlt : i < its.toArray.size := by
      have := (List.getElem?_eq_some_iff.mp hu).1
      simpa using this
    have D : Draws X.prog X.w X.A.in1 it [it, a] its.toArray.size (fun i v => its.toArray[i]? = some v) (fun i h => h.IsTupleIter it a i ∧ h.IsTuple a its.toArray) := Draws.tuple (show X.A.in1.handled = none from I.ok.hd hc) it a hai its.toArray
    refine wpAny_pyNext_enum_itemD D he ⟨hit, p⟩ hlt hne (by simp; exact ⟨hne, Ne.symm hae⟩) fun y h' tk hy ho hit' hT hsz hk => ?_
    have ey : y = u := by
      have q : its.toArray[i]? = some u := by simpa using hu
      rw [q] at hy
      exact (Option.some.inj hy).symm
    subst ey
    refine ⟨_, rfl, wpAny_letOwnedTupleGo_enum (s := { s with heap := h', toks := tk + 1 }) ho fun h'' he' sb => ?_⟩
    have hT2 : h''.get? s.heap.objs.size = some { cls := .type "tuple", data := .seq #[.int i tk, y] } := (sb.2 _ (Nat.ne_of_gt hel)).trans hT
    have new : ObjOk X.prog X.w (upd H s.heap.objs.size (.tup [.int (i : Nat), x])) h'' s.heap.objs.size (.tup [.int (i : Nat), x]) :=
      ⟨by show 2 ≤ sizeLine; decide, [.int i tk, y], .cons ⟨_, rfl⟩ (.cons ru .nil), ⟨_, hT2, rfl, _, rfl⟩⟩
    have I1 : Inv X pins σ (upd H s.heap.objs.size (.tup [.int (i : Nat), x])) { s with heap := h'', toks := tk + 1 } :=
      I.turnedNew (ch := [e, it]) (fun b ob hb q => (sb.2 b (fun z => hb (by simp [z]))).trans (hk b ob (fun z => hb (by simp [z])) (fun z => hb (by simp [z])) q)) hf (Nat.le_refl _) new
    refine ⟨.ref s.heap.objs.size, _, I1, rfl, ⟨_, x, rfl, I.hok.fresh (Nat.le_refl _), rfl, hx⟩, ⟨⟨y, ?_⟩, hit'.1.at fun o q => (sb.2 it (Ne.symm hne)).trans q, hne, hai, hae⟩, fun b hb => ?_⟩
    · have e1 : ((i + 1 : Nat) : Int) = (i : Int) + 1 := by omega
      rw [e1]; exact he'
    · have hb' : b < s.heap.objs.size := by
        have e' : b = e ∨ b = it := by simpa using hb
        rcases e' with z | z
        · rw [z]; exact hel
        · rw [z]; exact hil
      rw [upd_ne (Nat.ne_of_lt hb')]
      exact (hf b hb).1
  done := by
    intro X hP hw hK hc i pins s σ H E I hf st hg
    subst hP hw hK
    obtain ⟨⟨old, he⟩, hit, hne, hai, hae⟩ := st
    obtain ⟨hq, hx⟩ := hg
    obtain ⟨its, rv, p, hz⟩ := I.tuple hq
    obtain ⟨f0, f1, f2, f3, f4, f5⟩ := hf it (by simp)
    have D : Draws X.prog X.w X.A.in1 it [it, a] its.toArray.size (fun i v => its.toArray[i]? = some v) (fun i h => h.IsTupleIter it a i ∧ h.IsTuple a its.toArray) := Draws.tuple (show X.A.in1.handled = none from I.ok.hd hc) it a hai its.toArray
    have hl : i = its.toArray.size := by rw [← hx, rv.length]; simp
    subst hl
    exact wpAny_pyNext_enum_endD D he ⟨hit, p⟩ fun h' eb => ⟨rfl, I.turned (t' := s.toks) (fun b o hb q => eb b o hb q) f0 f1 f3 f4 f5⟩
  self := fun A i s Q E st h => let ⟨⟨_, he⟩, _⟩ := st; wpAny_pyIter_enum he h
def iEnumA (K : PySem.W.Frag) (ta : TA) : TI := fun σ H R => ta σ H fun vs H1 => ∃ a xs, vs = [.ref a] ∧ ((SqL K H1 a xs ∧ R (Ite K a) H1) ∨ (SqT K H1 a xs ∧ R (IteT K a xs) H1))
theorem pi_enumA {X : Cx} {e : Expr} {ta : TA} {p pos tpos : Pos} {elts : List Expr} {kk : Nat} (hg : Gl X "enumerate") (hm : X.mg "enumerate" = none) (ha : PA X [e] ta) (hs : starEach [e] X.env = [(false, eval e X.env)] := by rfl) :
    PI X (.Tuple elts kk tpos) (.Call (.Name "enumerate" p) [e] [] pos) (iEnumA X.K ta) := by
  refine ⟨fun pins s σ H R I h => ?_⟩
  refine Call_ (ld_blt I hg hm boot_enumerate (PyProof.Rows.callWith_type1 (thn (ha.run pos pins s σ H _ I h) fun us s1 ⟨vs, H1, I1, r1, q1⟩ => ?_) hs rfl))
  obtain ⟨a, xs, ex, q1⟩ := q1
  subst ex
  cases r1 with
  | cons r rr =>
    cases rr
    cases r
    have fp : ∀ b ∈ [s1.heap.objs.size + 1, s1.heap.objs.size], FpOk X pins H1 b := fun b hb => by
      have e' : b = s1.heap.objs.size + 1 ∨ b = s1.heap.objs.size := by simpa using hb
      have hle : s1.heap.objs.size ≤ b := by
        rcases e' with z | z
        · rw [z]; exact Nat.le_add_right _ _
        · rw [z]; exact Nat.le_refl _
      exact I1.fpOk hle (I1.hok.fresh hle)
    rcases q1 with ⟨hq, q⟩ | ⟨hq, q⟩
    · obtain ⟨its, rv, p', hz⟩ := I1.list hq
      refine call_enumerate_list p'.isList fun h' he hit hsz hk => wpAny_pyIter_enum he ?_
      have I2 : Inv X pins σ H1 { s1 with heap := h' } := I1.kept (t' := s1.toks) hk
      exact ⟨s1.heap.objs.size + 1, [s1.heap.objs.size + 1, s1.heap.objs.size], _, _, H1, rfl, I2, turn_enum a (s1.heap.objs.size + 1) s1.heap.objs.size, ⟨⟨.none, he⟩, hit, Nat.succ_ne_self _⟩, fp, q⟩
    · obtain ⟨its, rv, p', hz⟩ := I1.tuple hq
      obtain ⟨o1, ho1, _⟩ := id p'
      have la : a < s1.heap.objs.size := Heap.lt_size ho1
      refine call_enumT p' fun h' he hit hsz hk => wpAny_pyIter_enum he ?_
      have I2 : Inv X pins σ H1 { s1 with heap := h' } := I1.kept (t' := s1.toks) hk
      exact ⟨s1.heap.objs.size + 1, [s1.heap.objs.size + 1, s1.heap.objs.size], _, _, H1, rfl, I2, turn_enumT a (s1.heap.objs.size + 1) s1.heap.objs.size xs, ⟨⟨.none, he⟩, hit, Nat.succ_ne_self _, Nat.ne_of_lt la, Nat.ne_of_lt (Nat.lt_succ_of_lt la)⟩, fp, q⟩
end Mp

set_option Elab.async false
set_option linter.all false
set_option maxRecDepth 100000
set_option maxHeartbeats 2000000
/-! The small interpreter beside the layer: what is walked. -/
namespace Mp
open PySem PySem.Spec PyProof.Rows L2
/-- the items ds, as long as the sources stay as they are -/
def ItOk (S : Sg) (f0 : List Addr) (H0 : Hp) (J : It) (src : Src) (ds : List D) : Prop := ∀ f H M i, f0 <+: f → Pres H0 H → RM S f H M → still M src = true →
  (∀ d, ds[i]? = some d → J.go i H ∧ ∀ x H', J.yld i H x H' → Pres H H' ∧ RM S f H' M ∧ RV S.K f H' d x) ∧ (ds.length = i → J.stop i H)
def PostI (S : Sg) (f : List Addr) (H : Hp) (W : XK) (r : R (List D × Src)) (Q : It → Hp → Prop) : Prop := match r with
  | .ok p M' => ∀ f' H' J, f <+: f' → RM S f' H' M' → Pres H H' → ItOk S f' H' J p.2 p.1 → Q J H'
  | .exc x M' => ∀ f' H' cls b, f <+: f' → RM S f' H' M' → Pres H H' → RX S f' H' x cls b → W cls b H'
  | .bad => False
def tIe (S : Sg) (W : WX) (w : Wd) (it : Ie) : TI := fun σ H Q => ∃ f M ρ, RM S f H M ∧ RE S.K f H ρ σ ∧ PostI S f H (WE W σ) (evI w it ρ M) Q
section
variable {S : Sg} {f f' : List Addr} {H H' : Hp} {M : Mem} {Wx : XK}
theorem PostI.mono {r : R (List D × Src)} {Q : It → Hp → Prop} (hf : f <+: f') (p : Pres H H') (h : PostI S f H Wx r Q) : PostI S f' H' Wx r Q := by
  cases r with
  | ok d m => exact fun f2 H2 v a b c e => h f2 H2 v (hf.trans a) b (p.trans c) e
  | exc x m => exact fun f2 H2 cls z a b c e => h f2 H2 cls z (hf.trans a) b (p.trans c) e
  | bad => exact h
theorem ends_I {Q : It → Hp → Prop} : Ends3 S Wx (fun f H r => PostI S f H Wx r Q) := ⟨fun _ _ _ _ _ a b c => c.mono a b, fun _ _ _ _ h => h, fun _ _ h => h⟩
theorem SqL.uniq {K : PySem.W.Frag} {a : Addr} {xs ys : List V} : True := trivial
/-- a list, walked -/
theorem it_list {f0 : List Addr} {H0 : Hp} {r : Nat} {a : Addr} {ds : List D} {rest : Src} (e : f0[r]? = some a) : ItOk S f0 H0 (Itl S.K a) ((r, ds) :: rest) ds := by
  intro f H M i hf hp rm st
  have st : (decide (listAt M r = some ds) && still M rest) = true := st
  rw [Bool.and_eq_true] at st
  obtain ⟨xs, hq, rs⟩ := rm.list (of_decide_eq_true st.1) (pre_get hf e)
  refine ⟨fun d hd => ?_, fun hl => ⟨xs, hq, by rw [← rs.length, hl]; exact Nat.le_refl _⟩⟩
  obtain ⟨x, hx, rx⟩ := rs.get hd
  refine ⟨⟨xs, x, hq, hx⟩, fun y H' ⟨e1, e2⟩ => ?_⟩
  subst e1
  have := e2 xs hq
  rw [hx] at this
  cases this
  exact ⟨Pres.refl, rm, rx⟩
theorem it_tup {f0 : List Addr} {H0 : Hp} {a : Addr} {xs : List V} {ds : List D} (hq : SqT S.K H0 a xs) (rs : RVs S.K f0 H0 ds xs) : ItOk S f0 H0 (Itt S.K a) [] ds := by
  intro f H M i hf hp rm st
  have hq := hp.sqT hq
  have rs := RVs.mono hf hp _ _ rs
  refine ⟨fun d hd => ?_, fun hl => ⟨xs, hq, by rw [← rs.length, hl]; exact Nat.le_refl _⟩⟩
  obtain ⟨x, hx, rx⟩ := rs.get hd
  refine ⟨⟨xs, x, hq, hx⟩, fun y H' ⟨e1, e2⟩ => ?_⟩
  subst e1
  have := e2 xs hq
  rw [hx] at this
  cases this
  exact ⟨Pres.refl, rm, rx⟩
theorem count_get : ∀ (n : Nat) (lo : Int) (i : Nat) (d : D), (count n lo)[i]? = some d → d = .int (lo + i) ∧ i < n
  | 0, _, _, _, h => by cases h
  | n + 1, lo, 0, d, h => by
    have h : some (D.int lo) = some d := h
    cases h
    exact ⟨by simp, Nat.succ_pos _⟩
  | n + 1, lo, i + 1, d, h => by
    have h : (count n (lo + 1))[i]? = some d := h
    obtain ⟨h1, h2⟩ := count_get n (lo + 1) i d h
    refine ⟨?_, Nat.succ_lt_succ h2⟩
    rw [h1]
    congr 1
    omega
theorem count_len : ∀ (n : Nat) (lo : Int), (count n lo).length = n
  | 0, _ => rfl
  | n + 1, lo => by
    show (count n (lo + 1)).length + 1 = n + 1
    rw [count_len n]
theorem it_rng {f0 : List Addr} {H0 : Hp} (lo : Int) (n : Nat) : ItOk S f0 H0 (Itr lo n) [] (count n lo) := by
  intro f H M i hf hp rm st
  refine ⟨fun d hd => ?_, fun hl => by rw [count_len] at hl; exact Nat.le_of_eq hl⟩
  obtain ⟨rfl, hi⟩ := count_get _ _ _ _ hd
  refine ⟨hi, fun y H' ⟨e1, e2⟩ => ?_⟩
  subst e1 e2
  exact ⟨Pres.refl, rm, rfl⟩
theorem enum_get : ∀ (ds : List D) (lo : Int) (i : Nat) (d : D), (enum lo ds)[i]? = some d → ∃ x, ds[i]? = some x ∧ d = .tup [.int (lo + i), x]
  | [], _, _, _, h => by cases h
  | x :: r, lo, 0, d, h => by
    have h : some (D.tup [.int lo, x]) = some d := h
    cases h
    exact ⟨x, rfl, by simp⟩
  | x :: r, lo, i + 1, d, h => by
    have h : (enum (lo + 1) r)[i]? = some d := h
    obtain ⟨y, h1, h2⟩ := enum_get r (lo + 1) i d h
    refine ⟨y, by simpa using h1, ?_⟩
    rw [h2]
    have : lo + 1 + (i : Int) = lo + ((i + 1 : Nat) : Int) := by omega
    rw [this]
theorem enum_len : ∀ (ds : List D) (lo : Int), (enum lo ds).length = ds.length
  | [], _ => rfl
  | _ :: r, lo => by
    show (enum (lo + 1) r).length + 1 = r.length + 1
    rw [enum_len r]
theorem pair_new {T : Addr} {u v : V} {d e : D} (rm : RM S f H M) (n : H T = none) (r1 : RV S.K f H d u) (r2 : RV S.K f H e v) : Pres H (upd H T (.tup [u, v])) ∧ RM S f (upd H T (.tup [u, v])) M ∧ RV S.K f (upd H T (.tup [u, v])) (.tup [d, e]) (.ref T) := by
  have p := Pres.new (o := .tup [u, v]) n
  exact ⟨p, rm.newH n, T, [u, v], rfl, .inl (.inl upd_same), u, [v], rfl, RV.mono (List.prefix_refl _) p _ _ r1, v, [], rfl, RV.mono (List.prefix_refl _) p _ _ r2, rfl⟩
theorem it_enumL {f0 : List Addr} {H0 : Hp} {r : Nat} {a : Addr} {ds : List D} {rest : Src} (e : f0[r]? = some a) : ItOk S f0 H0 (Ite S.K a) ((r, ds) :: rest) (enum 0 ds) := by
  intro f H M i hf hp rm st
  have st : (decide (listAt M r = some ds) && still M rest) = true := st
  rw [Bool.and_eq_true] at st
  obtain ⟨xs, hq, rs⟩ := rm.list (of_decide_eq_true st.1) (pre_get hf e)
  refine ⟨fun d hd => ?_, fun hl => ⟨xs, hq, by rw [← rs.length, ← hl, enum_len]; exact Nat.le_refl _⟩⟩
  obtain ⟨z, hz, rfl⟩ := enum_get _ _ _ _ hd
  obtain ⟨x, hx, rx⟩ := rs.get hz
  refine ⟨⟨xs, x, hq, hx⟩, fun y H' ⟨T, y', e1, e2, e3, e4⟩ => ?_⟩
  have := e4 xs hq
  rw [hx] at this
  cases this
  subst e1 e3
  exact pair_new rm e2 (by simp [RV]) rx
theorem it_enumT {f0 : List Addr} {H0 : Hp} {a : Addr} {xs : List V} {ds : List D} (hq : SqT S.K H0 a xs) (rs : RVs S.K f0 H0 ds xs) : ItOk S f0 H0 (IteT S.K a xs) [] (enum 0 ds) := by
  intro f H M i hf hp rm st
  have hq := hp.sqT hq
  have rs := RVs.mono hf hp _ _ rs
  refine ⟨fun d hd => ?_, fun hl => ⟨hq, by rw [← rs.length, ← hl, enum_len]⟩⟩
  obtain ⟨z, hz, rfl⟩ := enum_get _ _ _ _ hd
  obtain ⟨x, hx, rx⟩ := rs.get hz
  refine ⟨⟨x, hq, hx⟩, fun y H' ⟨T, y', e1, e2, e3, e4⟩ => ?_⟩
  rw [hx] at e4
  cases e4
  subst e1 e3
  exact pair_new rm e2 (by simp [RV]) rx
theorem zip2_get : ∀ (ds es : List D) (i : Nat) (d : D), (zip2 ds es)[i]? = some d → ∃ x y, ds[i]? = some x ∧ es[i]? = some y ∧ d = .tup [x, y]
  | [], _, _, _, h => by cases h
  | _ :: _, [], _, _, h => by cases h
  | x :: r, y :: q, 0, d, h => by
    have h : some (D.tup [x, y]) = some d := h
    cases h
    exact ⟨x, y, rfl, rfl, rfl⟩
  | x :: r, y :: q, i + 1, d, h => by
    have h : (zip2 r q)[i]? = some d := h
    obtain ⟨z, u, h1, h2, h3⟩ := zip2_get r q i d h
    exact ⟨z, u, by simpa using h1, by simpa using h2, h3⟩
theorem zip2_len : ∀ (ds es : List D), (zip2 ds es).length = ds.length ∨ (zip2 ds es).length = es.length
  | [], _ => .inl rfl
  | _ :: _, [] => .inr rfl
  | x :: r, y :: q => by
    have := zip2_len r q
    show (zip2 r q).length + 1 = r.length + 1 ∨ (zip2 r q).length + 1 = q.length + 1
    omega
theorem it_zipL {f0 : List Addr} {H0 : Hp} {r r' : Nat} {a b : Addr} {ds es : List D} (e : f0[r]? = some a) (e' : f0[r']? = some b) : ItOk S f0 H0 (Itz S.K a b) [(r, ds), (r', es)] (zip2 ds es) := by
  intro f H M i hf hp rm st
  have st : (decide (listAt M r = some ds) && (decide (listAt M r' = some es) && true)) = true := st
  simp only [Bool.and_eq_true, Bool.and_true] at st
  obtain ⟨xs, hq, rs⟩ := rm.list (of_decide_eq_true st.1) (pre_get hf e)
  obtain ⟨ys, hq', rs'⟩ := rm.list (of_decide_eq_true st.2) (pre_get hf e')
  refine ⟨fun d hd => ?_, fun hl => ⟨xs, ys, hq, hq', ?_⟩⟩
  · obtain ⟨z, u, hz, hu, rfl⟩ := zip2_get _ _ _ _ hd
    obtain ⟨x, hx, rx⟩ := rs.get hz
    obtain ⟨y, hy, ry⟩ := rs'.get hu
    refine ⟨⟨xs, ys, x, y, hq, hq', hx, hy⟩, fun v H' ⟨T, x', y', e1, e2, e3, e4, e5⟩ => ?_⟩
    have h1 := e4 xs hq
    rw [hx] at h1
    cases h1
    have h2 := e5 ys hq'
    rw [hy] at h2
    cases h2
    subst e1 e3
    exact pair_new rm e2 rx ry
  · have := zip2_len ds es
    rw [← rs.length, ← rs'.length]
    omega
theorem it_zipT {f0 : List Addr} {H0 : Hp} {a b : Addr} {xs ys : List V} {ds es : List D} (hq : SqT S.K H0 a xs) (rs : RVs S.K f0 H0 ds xs) (hq' : SqT S.K H0 b ys) (rs' : RVs S.K f0 H0 es ys) : ItOk S f0 H0 (RZ.ItzT S.K a b) [] (zip2 ds es) := by
  intro f H M i hf hp rm st
  have hq := hp.sqT hq
  have rs := RVs.mono hf hp _ _ rs
  have hq' := hp.sqT hq'
  have rs' := RVs.mono hf hp _ _ rs'
  refine ⟨fun d hd => ?_, fun hl => ⟨xs, ys, hq, hq', ?_⟩⟩
  · obtain ⟨z, u, hz, hu, rfl⟩ := zip2_get _ _ _ _ hd
    obtain ⟨x, hx, rx⟩ := rs.get hz
    obtain ⟨y, hy, ry⟩ := rs'.get hu
    refine ⟨⟨xs, ys, x, y, hq, hq', hx, hy⟩, fun v H' ⟨T, x', y', e1, e2, e3, e4, e5⟩ => ?_⟩
    have h1 := e4 xs hq
    rw [hx] at h1
    cases h1
    have h2 := e5 ys hq'
    rw [hy] at h2
    cases h2
    subst e1 e3
    exact pair_new rm e2 rx ry
  · have := zip2_len ds es
    rw [← rs.length, ← rs'.length]
    omega
end
section
variable {S : Sg} {T : Tab} {n : Nat} {W : WX} {hot : Bool} {X : Cx} {w : Wd}
theorem pi_imp {tg e : Expr} {t t' : TI} (h : PI X tg e t) (hi : ∀ σ H Q, t' σ H Q → t σ H Q) : PI X tg e t' := ⟨fun pins s σ H Q I q => h.run pins s σ H Q I (hi σ H Q q)⟩
theorem good_seq (hK : X.K = S.K) {e : E} {x tg : Expr} (h : PE X x (tI S W w e)) : PI X tg x (tIe S W w (.seq e)) := by
  refine ⟨fun pins s σ H Q I h0 => ?_⟩
  obtain ⟨f, M, ρ, rm, re, q⟩ := h0
  have q : PostI S f H (WE W σ) ((evE w e ρ M).bind fun x m => (match seqOf m x with
    | some ds => .ok (ds, srcOf x ds) m
    | none => .bad)) Q := q
  cases ev : evE w e ρ M with
  | bad => rw [ev] at q; exact q.elim
  | exc z m =>
    rw [ev] at q
    refine (pi_list h).run pins s σ H Q I ⟨f, M, ρ, rm, re, ?_⟩
    rw [ev]
    exact q
  | ok d m =>
    rw [ev] at q
    have q : PostI S f H (WE W σ) (match seqOf m d with
      | some ds => .ok (ds, srcOf d ds) m
      | none => .bad) Q := q
    cases d with
    | ref i =>
      cases e2 : listAt m i with
      | none =>
        have e3 : seqOf m (.ref i) = none := e2
        rw [e3] at q
        exact q.elim
      | some ds =>
        have e3 : seqOf m (.ref i) = some ds := e2
        rw [e3] at q
        have q : PostI S f H (WE W σ) (.ok (ds, [(i, ds)]) m) Q := q
        refine (pi_list h).run pins s σ H Q I ⟨f, M, ρ, rm, re, ?_⟩
        rw [ev]
        intro f1 H1 v a1 rm1 p1 rv
        obtain ⟨a, ea, rfl⟩ := rv
        obtain ⟨xs, hq, rs⟩ := rm1.list e2 ea
        rw [hK]
        exact ⟨a, rfl, ⟨xs, hq⟩, q f1 H1 _ a1 rm1 p1 (it_list ea)⟩
    | tup ds =>
      have q : PostI S f H (WE W σ) (.ok (ds, []) m) Q := q
      refine (pi_tup h).run pins s σ H Q I ⟨f, M, ρ, rm, re, ?_⟩
      rw [ev]
      intro f1 H1 v a1 rm1 p1 rv
      obtain ⟨a, xs, rfl, hq, rs⟩ := rv
      rw [hK]
      exact ⟨a, rfl, ⟨xs, hq⟩, q f1 H1 _ a1 rm1 p1 (it_tup hq rs)⟩
    | _ => exact q.elim
theorem rd_rng1 {a : E} : ∀ σ H Q, tIe S W w (.rng1 a) σ H Q → iRng1 (tCons (tI S W w a) tNil) σ H Q := by
  rintro σ H Q ⟨f, M, ρ, rm, re, h⟩
  have h : PostI S f H (WE W σ) ((evE w a ρ M).bind fun x m => (match x with
    | .int i => if rngOk i then .ok (count i.toNat 0, []) m else .bad
    | _ => .bad)) Q := h
  refine tI_bind ends_I rm re h fun f1 H1 d M1 v a1 rm1 re1 p1 r1 h1 => ?_
  cases d with
  | int i =>
    cases r1
    have h1 : PostI S f1 H1 (WE W σ) (if rngOk i then .ok (count i.toNat 0, []) M1 else .bad) Q := h1
    cases hr : rngOk i with
    | false => rw [hr] at h1; exact h1.elim
    | true =>
      rw [hr, if_pos rfl] at h1
      have hr := of_decide_eq_true hr
      exact ⟨i, rfl, by omega, by omega, h1 f1 H1 _ (List.prefix_refl _) rm1 Pres.refl (it_rng 0 i.toNat)⟩
  | _ => exact h1.elim
theorem rd_rng2 {a b : E} : ∀ σ H Q, tIe S W w (.rng2 a b) σ H Q → iRng2 (tCons (tI S W w a) (tCons (tI S W w b) tNil)) σ H Q := by
  rintro σ H Q ⟨f, M, ρ, rm, re, h⟩
  have h : PostI S f H (WE W σ) ((evE w a ρ M).bind fun x m => (evE w b ρ m).bind fun y m => (match x, y with
    | .int i, .int j => if rngOk i && rngOk j then .ok (count (j - i).toNat i, []) m else .bad
    | _, _ => .bad)) Q := h
  refine tI_bind ends_I rm re h fun f1 H1 d M1 v a1 rm1 re1 p1 r1 h1 => ?_
  refine tI_bind ends_I rm1 re1 h1 fun f2 H2 e M2 u a2 rm2 re2 p2 r2 h2 => ?_
  cases d with
  | int i =>
    cases e with
    | int j =>
      cases r1
      cases r2
      have h2 : PostI S f2 H2 (WE W σ) (if rngOk i && rngOk j then .ok (count (j - i).toNat i, []) M2 else .bad) Q := h2
      cases hr : (rngOk i && rngOk j) with
      | false => rw [hr] at h2; exact h2.elim
      | true =>
        rw [hr, if_pos rfl] at h2
        rw [Bool.and_eq_true] at hr
        have hr1 := of_decide_eq_true hr.1
        have hr2 := of_decide_eq_true hr.2
        exact ⟨i, j, rfl, by omega, h2 f2 H2 _ (List.prefix_refl _) rm2 Pres.refl (it_rng i (j - i).toNat)⟩
    | _ => exact h2.elim
  | _ => cases e <;> exact h2.elim
theorem rd_enum (hK : X.K = S.K) {a : E} : ∀ σ H Q, tIe S W w (.enum a) σ H Q → iEnumA X.K (tCons (tI S W w a) tNil) σ H Q := by
  rintro σ H Q ⟨f, M, ρ, rm, re, h⟩
  have h : PostI S f H (WE W σ) ((evE w a ρ M).bind fun x m => (match seqOf m x with
    | some ds => .ok (enum 0 ds, srcOf x ds) m
    | none => .bad)) Q := h
  refine tI_bind ends_I rm re h fun f1 H1 d M1 v a1 rm1 re1 p1 r1 h1 => ?_
  rw [hK]
  cases d with
  | ref i =>
    obtain ⟨b, eb, rfl⟩ := r1
    cases e2 : listAt M1 i with
    | none =>
      have e3 : seqOf M1 (.ref i) = none := e2
      rw [e3] at h1
      exact h1.elim
    | some ds =>
      have e3 : seqOf M1 (.ref i) = some ds := e2
      rw [e3] at h1
      have h1 : PostI S f1 H1 (WE W σ) (.ok (enum 0 ds, [(i, ds)]) M1) Q := h1
      obtain ⟨xs, hq, rs⟩ := rm1.list e2 eb
      exact ⟨b, xs, rfl, .inl ⟨hq, h1 f1 H1 _ (List.prefix_refl _) rm1 Pres.refl (it_enumL eb)⟩⟩
  | tup ds =>
    obtain ⟨b, xs, rfl, hq, rs⟩ := r1
    have h1 : PostI S f1 H1 (WE W σ) (.ok (enum 0 ds, []) M1) Q := h1
    exact ⟨b, xs, rfl, .inr ⟨hq, h1 f1 H1 _ (List.prefix_refl _) rm1 Pres.refl (it_enumT hq rs)⟩⟩
  | _ => exact h1.elim
theorem rd_zip (hK : X.K = S.K) {a b : E} : ∀ σ H Q, tIe S W w (.zip a b) σ H Q → RZ.iZipA X.K (tCons (tI S W w a) (tCons (tI S W w b) tNil)) σ H Q := by
  rintro σ H Q ⟨f, M, ρ, rm, re, h⟩
  have h : PostI S f H (WE W σ) ((evE w a ρ M).bind fun x m => (evE w b ρ m).bind fun y m => zipR x y m) Q := h
  refine tI_bind ends_I rm re h fun f1 H1 d M1 v a1 rm1 re1 p1 r1 h1 => ?_
  refine tI_bind ends_I rm1 re1 h1 fun f2 H2 e M2 u a2 rm2 re2 p2 r2 h2 => ?_
  have r1 := RV.mono a2 p2 _ _ r1
  rw [hK]
  cases d with
  | ref i =>
    cases e with
    | ref j =>
      obtain ⟨b, eb, rfl⟩ := r1
      obtain ⟨c, ec, rfl⟩ := r2
      have h2 : PostI S f2 H2 (WE W σ) (match listAt M2 i, listAt M2 j with
        | some xs, some ys => .ok (zip2 xs ys, [(i, xs), (j, ys)]) M2
        | _, _ => .bad) Q := h2
      cases e2 : listAt M2 i with
      | none => rw [e2] at h2; exact h2.elim
      | some ds =>
        cases e3 : listAt M2 j with
        | none => rw [e2, e3] at h2; exact h2.elim
        | some es =>
          rw [e2, e3] at h2
          obtain ⟨xs, hq, rs⟩ := rm2.list e2 eb
          obtain ⟨ys, hq', rs'⟩ := rm2.list e3 ec
          exact ⟨b, c, xs, ys, rfl, .inl ⟨hq, hq', (show PostI S f2 H2 (WE W σ) (.ok (zip2 ds es, [(i, ds), (j, es)]) M2) Q from h2) f2 H2 _ (List.prefix_refl _) rm2 Pres.refl (it_zipL eb ec)⟩⟩
    | _ => exact h2.elim
  | tup ds =>
    cases e with
    | tup es =>
      obtain ⟨b, xs, rfl, hq, rs⟩ := r1
      obtain ⟨c, ys, rfl, hq', rs'⟩ := r2
      exact ⟨b, c, xs, ys, rfl, .inr ⟨hq, hq', (show PostI S f2 H2 (WE W σ) (.ok (zip2 ds es, []) M2) Q from h2) f2 H2 _ (List.prefix_refl _) rm2 Pres.refl (it_zipT hq rs hq' rs')⟩⟩
    | _ => exact h2.elim
  | _ => cases e <;> exact h2.elim
end
end Mp

set_option Elab.async false
set_option linter.all false
set_option maxRecDepth 100000
set_option maxHeartbeats 2000000
/-! The small interpreter beside the layer: targets, comprehensions. -/
namespace Mp
open PySem PySem.Spec PyProof.Rows L2
/-! ### targets -/
def gOf (K : PySem.W.Frag) : Tg → TG
  | .nm i => gName i
  | .tu [.nm i] => gTup K 1 (gCons (gName i) gNil)
  | .tu [.nm i, .nm j] => gTup K 2 (gCons (gName i) (gCons (gName j) gNil))
  | .tu [.nm i, .nm j, .nm k] => gTup K 3 (gCons (gName i) (gCons (gName j) (gCons (gName k) gNil)))
  | .tu [.nm i, .tu [.nm j, .nm k]] => gTup K 2 (gCons (gName i) (gCons (gTup K 2 (gCons (gName j) (gCons (gName k) gNil))) gNil))
  | _ => fun _ _ _ _ => False
theorem wipe_at (σ : L2.St) : ∀ (vs : List Nat) (j : Nat), (L2.wipe σ vs)[j]? = if j ∈ vs then (if j < σ.length then some none else none) else σ[j]?
  | [], j => by simp [L2.wipe]
  | v :: vs, j => by
    unfold L2.wipe
    by_cases e : v = j
    · subst e
      by_cases hl : v < σ.length
      · rw [List.getElem?_set_self (by rw [wipe_length]; exact hl)]
        simp [hl]
      · rw [List.getElem?_eq_none (by rw [List.length_set, wipe_length]; omega)]
        simp [hl]
    · rw [List.getElem?_set_ne e, wipe_at σ vs j]
      have : (j ∈ v :: vs) ↔ (j ∈ vs) := by
        constructor
        · intro h
          rcases List.mem_cons.mp h with h | h
          · exact absurd h.symm e
          · exact h
        · exact List.mem_cons_of_mem _
      simp only [this]
theorem wipe_set {σ : L2.St} {i : Nat} {x : Option V} {vs : List Nat} (h : i ∈ vs) : L2.wipe (σ.set i x) vs = L2.wipe σ vs := by
  apply List.ext_getElem?
  intro j
  rw [wipe_at, wipe_at, List.length_set]
  by_cases hj : j ∈ vs
  · rw [if_pos hj, if_pos hj]
  · rw [if_neg hj, if_neg hj, List.getElem?_set_ne (fun (e : i = j) => hj (e ▸ h))]
theorem wipe_wipe {σ : L2.St} {vs : List Nat} : L2.wipe (L2.wipe σ vs) vs = L2.wipe σ vs := by
  apply List.ext_getElem?
  intro j
  rw [wipe_at, wipe_length, wipe_at]
  by_cases hj : j ∈ vs <;> simp [hj]
section
variable {K : PySem.W.Frag} {f : List Addr} {H : Hp} {ρ ρ' : Env} {σ : L2.St}
theorem gOf_ok {d : D} {v : V} {Q : L2.St → Hp → Prop} : ∀ {t : Tg}, RE K f H ρ σ → RV K f H d v → setT t d ρ = some ρ' →
    (∀ σ', RE K f H ρ' σ' → (∀ vs : List Nat, (∀ i ∈ tgSlots t, i ∈ vs) → L2.wipe σ' vs = L2.wipe σ vs) → Q σ' H) → gOf K t v σ H Q := by
  intro t re rv hs hq
  unfold setT at hs
  split at hs
  · cases hs
    exact hq _ (re.set rv) fun vs h => wipe_set (h _ (by simp [tgSlots]))
  · split at hs
    · cases hs
      obtain ⟨a, xs, rfl, hq2, x, q, rfl, rx, rr⟩ := rv
      cases rr
      exact ⟨a, [x], rfl, hq2, rfl, x, [], rfl, rfl, hq _ (re.set rx) fun vs h => wipe_set (h _ (by simp [tgSlots]))⟩
    · cases hs
  · split at hs
    · cases hs
      obtain ⟨a, xs, rfl, hq2, x, q, rfl, rx, y, q2, rfl, ry, rr⟩ := rv
      cases rr
      exact ⟨a, [x, y], rfl, hq2, rfl, x, [y], rfl, y, [], rfl, rfl, hq _ ((re.set rx).set ry) fun vs h => by
        rw [wipe_set (h _ (by simp [tgSlots])), wipe_set (h _ (by simp [tgSlots]))]⟩
    · cases hs
  · split at hs
    · cases hs
      obtain ⟨a, xs, rfl, hq2, x, q, rfl, rx, y, q2, rfl, ry, z, q3, rfl, rz, rr⟩ := rv
      cases rr
      exact ⟨a, [x, y, z], rfl, hq2, rfl, x, [y, z], rfl, y, [z], rfl, z, [], rfl, rfl, hq _ (((re.set rx).set ry).set rz) fun vs h => by
        rw [wipe_set (h _ (by simp [tgSlots])), wipe_set (h _ (by simp [tgSlots])), wipe_set (h _ (by simp [tgSlots]))]⟩
    · cases hs
  · split at hs
    · cases hs
      obtain ⟨a, xs, rfl, hq2, x, q, rfl, rx, u, q2, rfl, ⟨b, ys, rfl, hq3, y, q4, rfl, ry, z, q3, rfl, rz, rr3⟩, rr⟩ := rv
      cases rr
      cases rr3
      exact ⟨a, [x, .ref b], rfl, hq2, rfl, x, [.ref b], rfl, .ref b, [], rfl, ⟨b, [y, z], rfl, hq3, rfl, y, [z], rfl, z, [], rfl, rfl, rfl, hq _ (((re.set rx).set ry).set rz) fun vs h => by
        rw [wipe_set (h _ (by simp [tgSlots])), wipe_set (h _ (by simp [tgSlots])), wipe_set (h _ (by simp [tgSlots]))]⟩⟩
    · cases hs
  · cases hs
end
section
variable {S : Sg} {T : Tab} {n : Nat} {W : WX} {hot : Bool} {X : Cx} {w : Wd}
theorem loc_of {N : List Str} {sc : Scope} {i : Nat} {x : Expr} (h : tgC N sc i x = true) : ∃ y p, x = .Name y p ∧ N[i]? = some y ∧ Loc sc y := by
  unfold tgC at h
  split at h
  · rename_i y p
    rw [Bool.and_eq_true] at h
    refine ⟨y, p, rfl, of_decide_eq_true h.1, ?_⟩
    have h2 := h.2
    split at h2
    · exact .inl (by assumption)
    · exact .inr (by assumption)
    · cases h2
  · cases h
/-- the names that may be stored to, by the scope scT -/
structure TgOk (X : Cx) (scT : Scope) : Prop where
  loc : ∀ x, scT.names.lookup x = some .local → X.env.scope.names.lookup x = some .local
  cell : ∀ x, scT.names.lookup x = some .cell → X.env.scope.names.lookup x = some .cell ∧ X.fn x = true
theorem TgOk.blk {s : Shared} {H : Hp} {scope : Scope} {C : Addr} {cl : List (Str × Addr)} {fp : List Addr} : TgOk (X.blk s H scope (compEnvC scope cl C X.env) fp) scope :=
  ⟨fun x h => lookup_relS_keep (by decide) h, fun x h => ⟨lookup_relS_keep (by decide) h, by show (scope.names.lookup x == some .cell) = true; rw [h]; rfl⟩⟩
theorem pg_one {scT : Scope} (hN : X.N.Nodup) (hf : TgOk X scT) {i : Nat} {x : Expr} (h : tgC X.N scT i x = true) : PG X x (gName i) ∧ ∃ y p, x = .Name y p := by
  obtain ⟨y, p, rfl, h1, h2⟩ := loc_of h
  refine ⟨?_, y, p, rfl⟩
  rcases h2 with h2 | h2
  · exact pg_name hN h1 (.inl (hf.loc y h2)) (.inr (hf.loc y h2))
  · exact pg_name hN h1 (.inr (hf.cell y h2).1) (.inl (hf.cell y h2).2)
theorem good_tg {scT : Scope} (hK : X.K = S.K) (hN : X.N.Nodup) (hf : TgOk X scT) (hc : X.calm = true) {t : Tg} {x : Expr} (h : tgtC X.N scT t x = true) : PG X x (gOf S.K t) := by
  rw [← hK]
  unfold tgtC at h
  split at h
  · exact (pg_one hN hf h).1
  · obtain ⟨g, y, p, rfl⟩ := pg_one hN hf h
    exact pg_tup hc (pgs_cons g pgs_nil)
  · rw [Bool.and_eq_true] at h
    obtain ⟨g, y, p, rfl⟩ := pg_one hN hf h.1
    obtain ⟨g2, y2, p2, rfl⟩ := pg_one hN hf h.2
    exact pg_tup hc (pgs_cons g (pgs_cons g2 pgs_nil))
  · simp only [Bool.and_eq_true] at h
    obtain ⟨g, y, p, rfl⟩ := pg_one hN hf h.1.1
    obtain ⟨g2, y2, p2, rfl⟩ := pg_one hN hf h.1.2
    obtain ⟨g3, y3, p3, rfl⟩ := pg_one hN hf h.2
    exact pg_tup hc (pgs_cons g (pgs_cons g2 (pgs_cons g3 pgs_nil)))
  · simp only [Bool.and_eq_true] at h
    obtain ⟨g, y, p, rfl⟩ := pg_one hN hf h.1.1
    obtain ⟨g2, y2, p2, rfl⟩ := pg_one hN hf h.1.2
    obtain ⟨g3, y3, p3, rfl⟩ := pg_one hN hf h.2
    exact pg_tup hc (pgs_cons g (pgs_cons (pg_tup hc (pgs_cons g2 (pgs_cons g3 pgs_nil))) pgs_nil))
  · cases h
/-! ### tests -/
def tTs (S : Sg) (W : WX) (w : Wd) (es : Es) : TT := fun σ H Q => ∃ f M ρ, RM S f H M ∧ RE S.K f H ρ σ ∧ PostB S f H (WE W σ) (evTs w es ρ M) Q
theorem rd_ts0 : ∀ σ H Q, tTs S W w .nil σ H Q → tYes σ H Q := by
  rintro σ H Q ⟨f, M, ρ, rm, re, h⟩
  exact (show PostB S f H (WE W σ) (.ok true M) Q from h) f H (List.prefix_refl _) rm Pres.refl
theorem rd_ts1 {b : Bool} {e : E} : ∀ σ H Q, tTs S W w (.cons b e .nil) σ H Q → tB S W w e σ H Q := by
  rintro σ H Q ⟨f, M, ρ, rm, re, h⟩
  have h : PostB S f H (WE W σ) ((truthR w (evE w e ρ M)).bind fun b m => if b then .ok true m else .ok false m) Q := h
  have h2 : (truthR w (evE w e ρ M)).bind (fun b m => if b then R.ok true m else R.ok false m) = truthR w (evE w e ρ M) := by
    cases truthR w (evE w e ρ M) with
    | ok b m => cases b <;> rfl
    | exc x m => rfl
    | bad => rfl
  rw [h2] at h
  exact ⟨f, M, ρ, rm, re, h⟩
/-! ### turns of a comprehension -/
def W0 : WX := fun _ _ _ _ => False
def PostU (S : Sg) (f : List Addr) (H : Hp) (r : R Unit) (Q : Hp → Prop) : Prop := match r with
  | .ok _ M' => ∀ f' H', f <+: f' → RM S f' H' M' → Pres H H' → Q H'
  | _ => False
theorem PostU.mono {f f' : List Addr} {H H' : Hp} {r : R Unit} {Q : Hp → Prop} (hf : f <+: f') (p : Pres H H') (h : PostU S f H r Q) : PostU S f' H' r Q := by
  cases r with
  | ok d m => exact fun f2 H2 a b c => h f2 H2 (hf.trans a) b (p.trans c)
  | exc x m => exact h
  | bad => exact h
theorem ends_U {Wx : XK} {Q : Hp → Prop} : Ends3 S Wx (fun f H r => PostU S f H r Q) := ⟨fun _ _ _ _ _ a b c => c.mono a b, fun _ _ _ _ h => h.elim, fun _ _ h => h⟩
theorem tTs_bind {α : Type} {f : List Addr} {H : Hp} {M : Mem} {ρ : Env} {σ : L2.St} {P : List Addr → Hp → R α → Prop} {es : Es} {k : Bool → Mem → R α} {Q : Bool → Hp → Prop} (ep : Ends3 S (WE W σ) P) (rm : RM S f H M) (re : RE S.K f H ρ σ) (h : P f H ((evTs w es ρ M).bind k))
    (hk : ∀ f1 H1 b M1, f <+: f1 → RM S f1 H1 M1 → RE S.K f1 H1 ρ σ → Pres H H1 → P f1 H1 (k b M1) → Q b H1) : tTs S W w es σ H Q := by
  refine ⟨f, M, ρ, rm, re, ?_⟩
  cases q : evTs w es ρ M with
  | ok d m =>
    rw [q] at h
    exact fun f1 H1 a b c => hk f1 H1 d m a b (re.mono a c) c (ep.mono _ _ _ _ _ a c h)
  | exc x m =>
    rw [q] at h
    exact ep.exc f H x m h
  | bad =>
    rw [q] at h
    exact ep.bad f H h
theorem tIe_bind {α : Type} {f : List Addr} {H : Hp} {M : Mem} {ρ : Env} {σ : L2.St} {P : List Addr → Hp → R α → Prop} {it : Ie} {k : List D × Src → Mem → R α} {Q : It → Hp → Prop} (ep : Ends3 S (WE W σ) P) (rm : RM S f H M) (re : RE S.K f H ρ σ) (h : P f H ((evI w it ρ M).bind k))
    (hk : ∀ f1 H1 p M1 J, f <+: f1 → RM S f1 H1 M1 → RE S.K f1 H1 ρ σ → Pres H H1 → ItOk S f1 H1 J p.2 p.1 → P f1 H1 (k p M1) → Q J H1) : tIe S W w it σ H Q := by
  refine ⟨f, M, ρ, rm, re, ?_⟩
  cases q : evI w it ρ M with
  | ok d m =>
    rw [q] at h
    exact fun f1 H1 J a b c i => hk f1 H1 d m J a b (re.mono a c) c i (ep.mono _ _ _ _ _ a c h)
  | exc x m =>
    rw [q] at h
    exact ep.exc f H x m h
  | bad =>
    rw [q] at h
    exact ep.bad f H h
/-- the turns: W as HandS asks for, from the interpreter's loop -/
theorem turns_ok {f0 : List Addr} {H0 : Hp} {J : It} {src : Src} {ds : List D} {body : D → Mem → R Unit} {Qd : Hp → Prop} {M0 : Mem} {G : V → Hp → (Hp → Prop) → Prop} (it : ItOk S f0 H0 J src ds) (rm : RM S f0 H0 M0) (h : PostU S f0 H0 (loopC src body ds M0) Qd)
    (step : ∀ f H M d x (k : Mem → R Unit) (Nx : Hp → Prop), f0 <+: f → Pres H0 H → RM S f H M → RV S.K f H d x → PostU S f H ((body d M).bind fun _ m => k m) Qd → (∀ f' H' M', f <+: f' → Pres H H' → RM S f' H' M' → PostU S f' H' (k M') Qd → Nx H') → G x H Nx) :
    ∃ W : Nat → Nat → Hp → Prop, (∃ m, W 0 m H0) ∧ ∀ i m H, W i m H → (J.stop i H ∧ Qd H) ∨ (J.go i H ∧ ∃ Nx : Hp → Prop, (∀ H', Nx H' → ∃ m', m' < m ∧ W (i + 1) m' H') ∧ ∀ x H', J.yld i H x H' → G x H' Nx) := by
  refine ⟨fun i m H => m = ds.length - i ∧ i ≤ ds.length ∧ ∃ f M, f0 <+: f ∧ Pres H0 H ∧ RM S f H M ∧ PostU S f H (loopC src body (ds.drop i) M) Qd, ⟨ds.length, rfl, Nat.zero_le _, f0, M0, List.prefix_refl _, Pres.refl, rm, h⟩, ?_⟩
  rintro i m H ⟨rfl, hi, f, M, hf, hp, rm, h⟩
  by_cases hlt : i < ds.length
  · have hd : ds[i]? = some ds[i] := List.getElem?_eq_getElem hlt
    rw [List.drop_eq_getElem_cons hlt] at h
    have h : PostU S f H (if still M src then (body ds[i] M).bind fun _ m' => loopC src body (ds.drop (i + 1)) m' else .bad) Qd := h
    cases hs : still M src with
    | false => rw [hs] at h; exact h.elim
    | true =>
      rw [hs, if_pos rfl] at h
      obtain ⟨go, yl⟩ := (it f H M i hf hp rm hs).1 _ hd
      refine .inr ⟨go, fun H' => ∃ f' M', f0 <+: f' ∧ Pres H0 H' ∧ RM S f' H' M' ∧ PostU S f' H' (loopC src body (ds.drop (i + 1)) M') Qd, fun H' hn => ⟨ds.length - (i + 1), by omega, rfl, hlt, hn⟩, fun x H' y => ?_⟩
      obtain ⟨p1, rm1, rv⟩ := yl x H' y
      exact step f H' M ds[i] x (fun m => loopC src body (ds.drop (i + 1)) m) _ hf (hp.trans p1) rm1 rv (h.mono (List.prefix_refl _) p1) fun f' H2 M' a b c e => ⟨f', M', hf.trans a, (hp.trans p1).trans b, c, e⟩
  · have e : i = ds.length := by omega
    subst e
    rw [List.drop_length] at h
    have h : PostU S f H (if still M src then .ok () M else .bad) Qd := h
    cases hs : still M src with
    | false => rw [hs] at h; exact h.elim
    | true =>
      rw [hs, if_pos rfl] at h
      exact .inl ⟨(it f H M _ hf hp rm hs).2 rfl, h f H (List.prefix_refl _) rm Pres.refl⟩
/-- the calm end of a comprehension -/
theorem calm_U {f : List Addr} {H : Hp} {Wx : XK} {Q : VK} {r : R Unit} {L : Nat} {D : Addr} (hl : f[L]? = some D) (h : PostE S f H Wx (r.calm.bind fun _ m2 => .ok (.ref L) m2) Q) : PostU S f H r (fun H' => Q (.ref D) H') := by
  cases r with
  | ok u m => exact fun f1 H1 a b c => (show PostE S f H Wx (.ok (.ref L) m) Q from h) f1 H1 _ a b c ⟨D, pre_get a hl, rfl⟩
  | exc x m => exact h.elim
  | bad => exact h.elim
theorem app_step {f : List Addr} {H : Hp} {M : Mem} {Qd Nx : Hp → Prop} {L : Nat} {B : Addr} {d : D} {v : V} {k : Mem → R Unit} (rm : RM S f H M) (hl : f[L]? = some B) (rv : RV S.K f H d v) (h : PostU S f H ((appAt L d M).bind fun _ m => k m) Qd)
    (hnx : ∀ f' H' M', f <+: f' → Pres H H' → RM S f' H' M' → PostU S f' H' (k M') Qd → Nx H') : ∃ acc, H B = some (.lst acc) ∧ acc.length < sizeLine ∧ Nx (upd H B (.lst (acc ++ [v]))) := by
  unfold appAt at h
  cases e : M[L]? with
  | none => rw [e] at h; exact h.elim
  | some o =>
    rw [e] at h
    cases o with
    | lst ds =>
      have h : PostU S f H ((if ds.length < lim then R.ok () (M.set L (.lst (ds ++ [d]))) else .bad).bind fun _ m => k m) Qd := h
      by_cases hz : ds.length < lim
      · rw [if_pos hz] at h
        obtain ⟨b, eb, acc, hb, rs⟩ := rm.at_ _ _ e
        rw [hl] at eb
        cases eb
        obtain ⟨rm2, p2⟩ := rm.put (u := .lst (acc ++ [v])) (o' := .lst (ds ++ [d])) e rfl hl rfl ⟨_, upd_same, RVs.mono (List.prefix_refl _) (Pres.put hb (fun _ z => by cases z) fun _ _ z => by cases z) _ _ (rs.append (RVs.one rv))⟩
        exact ⟨acc, hb, by rw [← rs.length]; exact Nat.lt_of_lt_of_le hz lim_line, hnx f _ _ (List.prefix_refl _) p2 rm2 (PostU.mono (List.prefix_refl _) p2 h)⟩
      · rw [if_neg hz] at h
        exact h.elim
    | _ => exact h.elim
theorem put_step {f : List Addr} {H : Hp} {M : Mem} {Qd Nx : Hp → Prop} {L : Nat} {B : Addr} {d e : D} {u v : V} {k : Mem → R Unit} (rm : RM S f H M) (hl : f[L]? = some B) (ru : RV S.K f H d u) (rv : RV S.K f H e v) (h : PostU S f H ((putAt L d e M).bind fun _ m => k m) Qd)
    (hnx : ∀ f' H' M', f <+: f' → Pres H H' → RM S f' H' M' → PostU S f' H' (k M') Qd → Nx H') : ∃ kvs q, u = kV q ∧ H B = some (.dK kvs) ∧ kvs.length < sizeLine ∧ Nx (upd H B (.dK (putK kvs q v))) := by
  unfold putAt at h
  cases ee : M[L]? with
  | none => rw [ee] at h; exact h.elim
  | some o =>
    rw [ee] at h
    cases o with
    | dct ds =>
      have h : PostU S f H ((match keyIn ds d with
        | some q => if ds.length < lim then R.ok () (M.set L (.dct (kvPut q d e ds))) else .bad
        | none => .bad).bind fun _ m => k m) Qd := h
      cases e2 : keyIn ds d with
      | none => rw [e2] at h; exact h.elim
      | some q =>
        rw [e2] at h
        have h : PostU S f H ((if ds.length < lim then R.ok () (M.set L (.dct (kvPut q d e ds))) else .bad).bind fun _ m => k m) Qd := h
        by_cases hz : ds.length < lim
        · rw [if_pos hz] at h
          obtain ⟨b, eb, acc, hb, rs, nd⟩ := rm.at_ _ _ ee
          rw [hl] at eb
          cases eb
          obtain ⟨qk, rfl, eq⟩ := keyIn_ok rs e2 ru
          have pp := Pres.put (o := .dK (putK acc qk v)) hb (fun _ z => by cases z) fun _ _ z => by cases z
          obtain ⟨rm2, p2⟩ := rm.put (u := .dK (putK acc qk v)) (o' := .dct (kvPut q d e ds)) ee rfl hl rfl ⟨_, upd_same, RK.mono (List.prefix_refl _) pp _ _ (rs.put eq ru rv nd), nodup_putK nd⟩
          refine ⟨acc, qk, rfl, hb, ?_, hnx f _ _ (List.prefix_refl _) p2 rm2 (PostU.mono (List.prefix_refl _) p2 h)⟩
          rw [← rs.length]
          exact Nat.lt_of_lt_of_le hz lim_line
        · rw [if_neg hz] at h
          exact h.elim
    | _ => exact h.elim
/-- one clause, then what is done with each -/
theorem clause_ok {f : List Addr} {H : Hp} {M : Mem} {Qd : Hp → Prop} {t : Tg} {own : List Nat} {ρ : Env} {σ : L2.St} {ifs : Es} {d : D} {x : V} {act : Env → Mem → R Unit} {k : Mem → R Unit} {Nx : Hp → Prop} {tt : L2.St → Hp → Prop} (hc : ∀ i ∈ tgSlots t, i ∈ own)
    (rm : RM S f H M) (re : RE S.K f H ρ σ) (rv : RV S.K f H d x)
    (h : PostU S f H ((match setT t d (wipeE ρ own) with
      | some ρ' => (evTs w ifs ρ' M).bind fun b m => if b then act ρ' m else .ok () m
      | none => .bad).bind fun _ m => k m) Qd)
    (hnx : ∀ f' H' M', f <+: f' → Pres H H' → RM S f' H' M' → PostU S f' H' (k M') Qd → Nx H')
    (hact : ∀ f' H' M' ρ' σ', f <+: f' → Pres H H' → RM S f' H' M' → RE S.K f' H' ρ' σ' → PostU S f' H' ((act ρ' M').bind fun _ m => k m) Qd → tt σ' H') :
    gOf S.K t x (L2.wipe σ own) H fun σ2 H2 => L2.wipe σ2 own = L2.wipe σ own ∧ tTs S W0 w ifs σ2 H2 fun b H3 => if b = true then tt σ2 H3 else Nx H3 := by
  cases e : setT t d (wipeE ρ own) with
  | none => rw [e] at h; exact h.elim
  | some ρ' =>
    rw [e] at h
    have h : PostU S f H (((evTs w ifs ρ' M).bind fun b m => if b then act ρ' m else .ok () m).bind fun _ m => k m) Qd := h
    rw [bind_assoc] at h
    refine gOf_ok (re.wipe own) rv e fun σ' re' hw => ⟨(hw own hc).trans wipe_wipe, ?_⟩
    refine tTs_bind ends_U rm re' h fun f2 H2 b M2 a2 rm2 re2 p2 h2 => ?_
    cases b with
    | true => exact hact f2 H2 M2 ρ' σ' a2 p2 rm2 re2 h2
    | false => exact hnx f2 H2 M2 a2 p2 rm2 h2
theorem ItOk.mono {f f' : List Addr} {H H' : Hp} {J : It} {src : Src} {ds : List D} (h : ItOk S f H J src ds) (a : f <+: f') (p : Pres H H') : ItOk S f' H' J src ds := fun f1 H1 M i b q => h f1 H1 M i (a.trans b) (p.trans q)
theorem rd_lc1 {elt : E} {t : Tg} {it : Ie} {ifs : Es} {own : List Nat} (hc : ∀ i ∈ tgSlots t, i ∈ own) : ∀ σ H Q, tI S W w (.lc elt (.one own t it ifs)) σ H Q → tLc (tIe S W w it) (gOf S.K t) (tTs S W0 w ifs) (tI S W0 w elt) own σ H Q := by
  rintro σ H Q ⟨f, M, ρ, rm, re, h⟩
  cases hot : w.hot with
  | true =>
    have h : PostE S f H (WE W σ) (if w.hot then .bad else _) Q := h
    rw [hot] at h
    exact h.elim
  | false =>
    have h : PostE S f H (WE W σ) (if w.hot then .bad else (evI w it ρ M).bind fun p m1 =>
        (loopC p.2 (fun d m => match setT t d (wipeE ρ own) with
          | some ρ' => (evTs w ifs ρ' m).bind fun b m => if b then (evE w elt ρ' m).bind fun d m => appAt m1.length d m else .ok () m
          | none => .bad) p.1 (m1 ++ [.lst []])).calm.bind fun _ m2 => .ok (.ref m1.length) m2) Q := h
    rw [hot] at h
    simp only [Bool.false_eq_true, if_false] at h
    refine tIe_bind ends_E rm re h fun f1 H1 p M1 J a1 rm1 re1 p1 hit h1 => ?_
    intro D nD
    have pp : Pres H1 (upd H1 D (.lst [])) := Pres.new nD
    have rm2 : RM S (f1 ++ [D]) (upd H1 D (.lst [])) (M1 ++ [.lst []]) := rm1.newM nD ⟨[], upd_same, rfl⟩
    have lp : (f1 ++ [D])[M1.length]? = some D := by rw [← rm1.len]; simp
    have h2 := calm_U lp (PostE.mono (List.prefix_append f1 [D]) pp h1)
    refine turns_ok (hit.mono (List.prefix_append f1 [D]) pp) rm2 h2 fun f2 H2 M2 d x k Nx a2 p2 rm3 rv hb hnx => ?_
    refine clause_ok hc rm3 (re1.mono ((List.prefix_append f1 [D]).trans a2) (pp.trans p2)) rv hb hnx fun f3 H3 M3 ρ' σ' a3 p3 rm4 re4 h3 => ?_
    rw [bind_assoc] at h3
    refine tI_bind ends_U rm4 re4 h3 fun f4 H4 d4 M4 v a4 rm5 re5 p5 rv5 h4 => ?_
    exact app_step rm5 (pre_get ((a2.trans a3).trans a4) lp) rv5 h4 fun f5 H5 M5 a b c e => hnx f5 H5 M5 ((a3.trans a4).trans a) ((p3.trans p5).trans b) c e
theorem rd_dc1 {ke ve : E} {t : Tg} {it : Ie} {ifs : Es} {own : List Nat} (hc : ∀ i ∈ tgSlots t, i ∈ own) : ∀ σ H Q, tI S W w (.dc ke ve (.one own t it ifs)) σ H Q → tDc (tIe S W w it) (gOf S.K t) (tTs S W0 w ifs) (tI S W0 w ke) (tI S W0 w ve) own σ H Q := by
  rintro σ H Q ⟨f, M, ρ, rm, re, h⟩
  cases hot : w.hot with
  | true =>
    have h : PostE S f H (WE W σ) (if w.hot then .bad else _) Q := h
    rw [hot] at h
    exact h.elim
  | false =>
    have h : PostE S f H (WE W σ) (if w.hot then .bad else (evI w it ρ M).bind fun p m1 =>
        (loopC p.2 (fun d m => match setT t d (wipeE ρ own) with
          | some ρ' => (evTs w ifs ρ' m).bind fun b m => if b then (evE w ke ρ' m).bind fun x m => (evE w ve ρ' m).bind fun y m => putAt m1.length x y m else .ok () m
          | none => .bad) p.1 (m1 ++ [.dct []])).calm.bind fun _ m2 => .ok (.ref m1.length) m2) Q := h
    rw [hot] at h
    simp only [Bool.false_eq_true, if_false] at h
    refine tIe_bind ends_E rm re h fun f1 H1 p M1 J a1 rm1 re1 p1 hit h1 => ?_
    intro D nD
    have pp : Pres H1 (upd H1 D (.dK [])) := Pres.new nD
    have rm2 : RM S (f1 ++ [D]) (upd H1 D (.dK [])) (M1 ++ [.dct []]) := rm1.newM nD ⟨[], upd_same, rfl, by simp⟩
    have lp : (f1 ++ [D])[M1.length]? = some D := by rw [← rm1.len]; simp
    have h2 := calm_U lp (PostE.mono (List.prefix_append f1 [D]) pp h1)
    refine turns_ok (hit.mono (List.prefix_append f1 [D]) pp) rm2 h2 fun f2 H2 M2 d x k Nx a2 p2 rm3 rv hb hnx => ?_
    refine clause_ok hc rm3 (re1.mono ((List.prefix_append f1 [D]).trans a2) (pp.trans p2)) rv hb hnx fun f3 H3 M3 ρ' σ' a3 p3 rm4 re4 h3 => ?_
    rw [bind_assoc] at h3
    refine tI_bind ends_U rm4 re4 h3 fun f4 H4 d4 M4 v a4 rm5 re5 p5 rv5 h4 => ?_
    rw [bind_assoc] at h4
    refine tI_bind ends_U rm5 re5 h4 fun f5 H5 d5 M5 u a5 rm6 re6 p6 rv6 h5 => ?_
    exact put_step rm6 (pre_get (((a2.trans a3).trans a4).trans a5) lp) (RV.mono a5 p6 _ _ rv5) rv6 h5 fun f6 H6 M6 a b c e => hnx f6 H6 M6 (((a3.trans a4).trans a5).trans a) (((p3.trans p5).trans p6).trans b) c e
theorem rd_lc2 {elt : E} {t t1 : Tg} {it it1 : Ie} {ifs ifs1 : Es} {own own1 : List Nat} (hc : ∀ i ∈ tgSlots t, i ∈ own) (hc1 : ∀ i ∈ tgSlots t1, i ∈ own1) : ∀ σ H Q, tI S W w (.lc elt (.more own t it ifs (.one own1 t1 it1 ifs1))) σ H Q →
    tLc2 (tIe S W w it) (gOf S.K t) (tTs S W0 w ifs) (tIe S W0 w it1) (gOf S.K t1) (tTs S W0 w ifs1) (tI S W0 w elt) own own1 σ H Q := by
  rintro σ H Q ⟨f, M, ρ, rm, re, h⟩
  cases hot : w.hot with
  | true =>
    have h : PostE S f H (WE W σ) (if w.hot then .bad else _) Q := h
    rw [hot] at h
    exact h.elim
  | false =>
    have h : PostE S f H (WE W σ) (if w.hot then .bad else (evI w it ρ M).bind fun p m1 =>
        (loopC p.2 (fun d m => match setT t d (wipeE ρ own) with
          | some ρ' => (evTs w ifs ρ' m).bind fun b m => if b then (evI w it1 ρ' m).bind fun p' m' => loopC p'.2 (fun d m => match setT t1 d (wipeE ρ' own1) with
              | some ρ'' => (evTs w ifs1 ρ'' m).bind fun b m => if b then (evE w elt ρ'' m).bind fun d m => appAt m1.length d m else .ok () m
              | none => .bad) p'.1 m' else .ok () m
          | none => .bad) p.1 (m1 ++ [.lst []])).calm.bind fun _ m2 => .ok (.ref m1.length) m2) Q := h
    rw [hot] at h
    simp only [Bool.false_eq_true, if_false] at h
    refine tIe_bind ends_E rm re h fun f1 H1 p M1 J a1 rm1 re1 p1 hit h1 => ?_
    intro D nD
    have pp : Pres H1 (upd H1 D (.lst [])) := Pres.new nD
    have rm2 : RM S (f1 ++ [D]) (upd H1 D (.lst [])) (M1 ++ [.lst []]) := rm1.newM nD ⟨[], upd_same, rfl⟩
    have lp : (f1 ++ [D])[M1.length]? = some D := by rw [← rm1.len]; simp
    have h2 := calm_U lp (PostE.mono (List.prefix_append f1 [D]) pp h1)
    refine turns_ok (hit.mono (List.prefix_append f1 [D]) pp) rm2 h2 fun f2 H2 M2 d x k Nx a2 p2 rm3 rv hb hnx => ?_
    refine clause_ok hc rm3 (re1.mono ((List.prefix_append f1 [D]).trans a2) (pp.trans p2)) rv hb hnx fun f3 H3 M3 ρ' σ' a3 p3 rm4 re4 h3 => ?_
    rw [bind_assoc] at h3
    refine tIe_bind ends_U rm4 re4 h3 fun f4 H4 p4 M4 J1 a4 rm5 re5 p5 hit1 h4 => ?_
    -- the inner loop, what comes behind it within its end
    have h4 : PostU S f4 H4 (loopC p4.2 (fun d m => match setT t1 d (wipeE ρ' own1) with
              | some ρ'' => (evTs w ifs1 ρ'' m).bind fun b m => if b then (evE w elt ρ'' m).bind fun d m => appAt M1.length d m else .ok () m
              | none => .bad) p4.1 M4) Nx := by
      revert h4
      generalize (loopC p4.2 (fun d m => match setT t1 d (wipeE ρ' own1) with
              | some ρ'' => (evTs w ifs1 ρ'' m).bind fun b m => if b then (evE w elt ρ'' m).bind fun d m => appAt M1.length d m else .ok () m
              | none => .bad) p4.1 M4) = r
      intro h4
      cases r with
      | ok u m => exact fun f5 H5 a b c => hnx f5 H5 m ((a3.trans a4).trans a) ((p3.trans p5).trans c) b (PostU.mono a c h4)
      | exc _ _ => exact h4.elim
      | bad => exact h4.elim
    refine turns_ok hit1 rm5 h4 fun f5 H5 M5 d5 x5 k5 Nx5 a5 p6 rm6 rv6 hb6 hnx6 => ?_
    refine clause_ok hc1 rm6 (re5.mono a5 p6) rv6 hb6 hnx6 fun f7 H7 M7 ρ7 σ7 a7 p7 rm7 re7 h7 => ?_
    rw [bind_assoc] at h7
    refine tI_bind ends_U rm7 re7 h7 fun f8 H8 d8 M8 v8 a8 rm8 re8 p8 rv8 h8 => ?_
    exact app_step rm8 (pre_get ((((a2.trans a3).trans a4).trans a5).trans (a7.trans a8)) lp) rv8 h8 fun f9 H9 M9 a b c e => hnx6 f9 H9 M9 ((a7.trans a8).trans a) ((p7.trans p8).trans b) c e
end
end Mp

set_option Elab.async false
set_option linter.all false
set_option maxRecDepth 100000
set_option maxHeartbeats 4000000
/-! The small interpreter beside the layer: every expression does what it says. -/
namespace Mp
open PySem PySem.Spec PyProof.Rows L2
structure Gd (S : Sg) (W : WX) (w : Wd) (X : Cx) (e : E) (x : Expr) : Prop where
  pe : PE X x (tI S W w e)
  pt : testOk e = true → PT X x (tB S W w e)
  pw : testOk e = true → ∀ o l p, x = .BoolOp o l p → PW X x (tB S W w e)
structure At (S : Sg) (T : Tab) (n : Nat) (W : WX) (hot : Bool) (X : Cx) (N : List Str) : Prop where
  adm : Adm S T n W hot X
  hN : X.N = N
section
variable {S : Sg} {T : Tab} {n : Nat} {W : WX} {hot : Bool} {X : Cx} {w : Wd} {N : List Str}
theorem gd_plain (ht : TruR X (rT S w)) {e : E} {x : Expr} (h : PE X x (tI S W w e)) (hx : ∀ whole, isTrue x X.env whole = (do let v ← whole; standAt x.pos; holding [v] (truthy v))) (hb : ∀ o l p, x ≠ .BoolOp o l p) : Gd S W w X e x :=
  ⟨h, fun _ => pt_imp (pt_truthR h ht hx) rd_truth, fun _ o l p q => (hb o l p q).elim⟩
theorem rd_var {i : Nat} : ∀ σ H Q, tI S W w (.var i) σ H Q → tVar i σ H Q := by
  rintro σ H Q ⟨f, M, ρ, rm, re, h⟩
  have h : PostE S f H (WE W σ) (match ρ[i]? with
    | some (some d) => .ok d M
    | _ => .bad) Q := h
  cases e : ρ[i]? with
  | none => rw [e] at h; exact h.elim
  | some o =>
    rw [e] at h
    cases o with
    | none => exact h.elim
    | some d =>
      obtain ⟨v, ev, rv⟩ := re.2 i d e
      exact ⟨v, ev, (show PostE S f H (WE W σ) (.ok d M) Q from h).now rm rv⟩
theorem plainN2 {x : Str} (h : plainN x = true) : (x == ("__debug__" : Str)) = false ∧ (x == ("__classdict__" : Str)) = false ∧ (x == ("__name__" : Str)) = false := by
  unfold plainN at h
  simp only [Bool.and_eq_true, Bool.not_eq_true'] at h
  exact ⟨h.1.1, h.1.2, h.2⟩
theorem rd_cst {c : Cst} {v : V} (hv : ∀ f H, RV S.K f H (cstD c) v) : ∀ σ H Q, tI S W w (.cst c) σ H Q → tC v σ H Q := by
  rintro σ H Q ⟨f, M, ρ, rm, re, h⟩
  exact (show PostE S f H (WE W σ) (.ok (cstD c) M) Q from h).now rm (hv f H)
theorem gd_cst (ht : TruR X (rT S w)) {c : Cst} {k : Const} {j : Nat} {p : Pos} (h : cstC c k = true) : Gd S W w X (.cst c) (.Constant k j p) := by
  refine gd_plain ht ?_ (fun _ => rfl) (fun _ _ _ z => by cases z)
  cases c with
  | non =>
    cases k with
    | none => exact pe_imp pe_non (rd_cst fun _ _ => rfl)
    | _ => cases h
  | bl b =>
    cases k with
    | bool b' =>
      have e : b = b' := by simpa using (show (b == b') = true from h)
      subst e
      exact pe_imp pe_bl (rd_cst fun _ _ => rfl)
    | _ => cases h
  | int i =>
    cases k with
    | int i' =>
      have e : i = i' := of_decide_eq_true h
      subst e
      exact pe_imp pe_int (rd_cst fun _ _ => rfl)
    | _ => cases h
  | str i =>
    cases k with
    | str i' =>
      have e : i = i' := of_decide_eq_true h
      subst e
      exact pe_imp pe_str (rd_cst fun _ _ => rfl)
    | _ => cases h
theorem gd_glo (A : Adm S T n W hot X) (hg : (wdh T n hot).glo = T.glo) {g : Str} {p : Pos} (hgl : gl X.env.scope g = true) (hp : plainN g = true) : Gd S W (wdh T n hot) X (.glo g) (.Name g p) := by
  refine gd_plain (tru_E A) ?_ (fun _ => rfl) (fun _ _ _ z => by cases z)
  cases e : T.glo g with
  | none =>
    refine pe_never fun σ H Q ⟨f, M, ρ, _, _, h⟩ => ?_
    have h : PostE S f H (WE W σ) (someR ((wdh T n hot).glo g) M) Q := h
    rw [hg, e] at h
    exact h
  | some d =>
    obtain ⟨u, v, hm, r, rv⟩ := A.glo g d e
    refine pe_imp (pe_glob (gl_ok hgl) hm r (plainN2 hp).1) ?_
    rintro σ H Q ⟨f, M, ρ, rm, re, h⟩
    have h : PostE S f H (WE W σ) (someR ((wdh T n hot).glo g) M) Q := h
    rw [hg, e] at h
    exact (show PostE S f H (WE W σ) (.ok d M) Q from h).now rm (rv f H)
theorem bop_of {op : Bop} {o : Operator} (h : bopC op o = true) : o = opOf op := by cases op <;> cases o <;> first | rfl | cases h
theorem cop_of {op : Cop} {o : CmpOp} (h : copC op o = true) : o = copOf op := by cases op <;> cases o <;> first | rfl | cases h
theorem gd_and (ht : TruR X (rT S w)) {a b : E} {x y : Expr} {r : List Expr} {p : Pos} (ga : Gd S W w X a x) (gb : PE X (.BoolOp .And (y :: r) p) (tI S W w b)) (gw : testOk b = true → PW X (.BoolOp .And (y :: r) p) (tB S W w b)) : Gd S W w X (.and a b) (.BoolOp .And (x :: y :: r) p) := by
  have w1 : testOk (.and a b) = true → PW X (.BoolOp .And (x :: y :: r) p) (tB S W w (.and a b)) := fun h => by
    have h : (testOk a && testOk b) = true := h
    rw [Bool.and_eq_true] at h
    exact ⟨fun wh pins s σ H Q I q => (pw_and (ga.pt h.1) (gw h.2)).run wh pins s σ H Q I (rd_andB σ H Q q)⟩
  exact ⟨pe_imp (pe_andR ht ga.pe gb) rd_and, fun h => (w1 h).pt, fun h _ _ _ _ => w1 h⟩
theorem gd_or (ht : TruR X (rT S w)) {a b : E} {x y : Expr} {r : List Expr} {p : Pos} (ga : Gd S W w X a x) (gb : PE X (.BoolOp .Or (y :: r) p) (tI S W w b)) (gw : testOk b = true → PW X (.BoolOp .Or (y :: r) p) (tB S W w b)) : Gd S W w X (.or a b) (.BoolOp .Or (x :: y :: r) p) := by
  have w1 : testOk (.or a b) = true → PW X (.BoolOp .Or (x :: y :: r) p) (tB S W w (.or a b)) := fun h => by
    have h : (testOk a && testOk b) = true := h
    rw [Bool.and_eq_true] at h
    exact ⟨fun wh pins s σ H Q I q => (pw_or (ga.pt h.1) (gw h.2)).run wh pins s σ H Q I (rd_orB σ H Q q)⟩
  exact ⟨pe_imp (pe_orR ht ga.pe gb) rd_or, fun h => (w1 h).pt, fun h _ _ _ _ => w1 h⟩
theorem gd_cmp (A : Adm S T n W hot X) {op : Cop} {a b : E} {x y : Expr} {p : Pos} {o : CmpOp} (ho : copC op o = true) (hy : plainX y = true) (ga : Gd S W (wdh T n hot) X a x) (gb : Gd S W (wdh T n hot) X b y) : Gd S W (wdh T n hot) X (.cmp op a b) (.Compare x [o] [y] p) := by
  obtain rfl := cop_of ho
  exact ⟨pe_imp (pe_cmpR (op_cmpE A op) ga.pe gb.pe (plain_mark hy _)) rd_cmp, fun _ => pt_imp (pt_cmpR (op_cmpE A op) ga.pe gb.pe (plain_mark hy _)) rd_cmpB, fun _ _ _ _ z => by cases z⟩
theorem gd_chn (A : Adm S T n W hot X) {op op' : Cop} {a b c : E} {x y z : Expr} {p : Pos} {o o' : CmpOp} (ho : copC op o = true) (ho' : copC op' o' = true) (hy : plainX y = true) (hz : plainX z = true) (ga : Gd S W w X a x) (gb : Gd S W w X b y) (gc : Gd S W w X c z) :
    Gd S W w X (.chn op op' a b c) (.Compare x [o, o'] [y, z] p) := by
  obtain rfl := cop_of ho
  obtain rfl := cop_of ho'
  have hm : lastMarks [copOf op, copOf op'] [y, z] = false := by
    show behindInMarks (copOf op') z = false
    exact plain_mark hz _
  exact ⟨pe_imp (pe_chain (op_cmp A.K A.units op) (op_cmp A.K A.units op') ga.pe gb.pe gc.pe hm) rd_chn, fun _ => pt_imp (pt_chain (op_cmp A.K A.units op) (op_cmp A.K A.units op') ga.pe gb.pe gc.pe hm) rd_chnB, fun _ _ _ _ z => by cases z⟩
theorem Adm.blk (A : Adm S T n W false X) (s : Shared) (H : Hp) (scope : Scope) (cenv : PySem.Env) (fp : List Addr) : Adm S T n W0 false (X.blk s H scope cenv fp) where
  K := A.K
  room := A.room
  calm := A.calm
  units := A.units
  nd := A.nd
  tk := fun u s' ⟨a, B, sI, pins, σ, H, cls, d, e, I, nb, up, sky, na, os, ag, w⟩ => w
  glo := A.glo
  free := A.free
  fns := fun h g d e => ⟨(A.fns h g d e).ok⟩
  fns1 := fun h g d e => ⟨(A.fns1 h g d e).ok⟩
  cold := A.cold
  exn := A.exn
  sub := A.sub
  exc := A.exc
  xf := fun a d ns h => by rw [A.cold rfl] at h; cases h
  cls := A.cls
  isC := A.isC
  caC := A.caC
  clsF := A.clsF
  fld := A.fld
  own := A.own
theorem gd_ts {es : Es} {is : List Expr} {sc : Scope} (h : chkTs N es sc is = true) (hg : ∀ b e x, es = .cons b e .nil → is = [x] → testOk e = true → PT X x (tB S W w e)) : PTs X is (tTs S W w es) := by
  cases es with
  | nil =>
    cases is with
    | nil => exact ⟨fun pins s σ H Q I q => pts_nil.run pins s σ H Q I (rd_ts0 σ H Q q)⟩
    | cons _ _ => cases h
  | cons b e r =>
    cases r with
    | cons _ _ _ => cases is <;> cases h
    | nil =>
      cases is with
      | nil => cases h
      | cons x q =>
        cases q with
        | cons _ _ => cases h
        | nil =>
          have h : (testOk e && chkE N e sc x) = true := h
          rw [Bool.and_eq_true] at h
          exact ⟨fun pins s σ H Q I q => (pts_one (hg b e x rfl rfl h.1)).run pins s σ H Q I (rd_ts1 σ H Q q)⟩
theorem mem_of_contains {l vs : List Nat} (h : l.all vs.contains = true) : ∀ i ∈ l, i ∈ vs := fun i hi => by
  have := List.all_eq_true.mp h i hi
  simpa using this
theorem own_of {sc scope : Scope} {own : List Nat} (h : ownC N sc scope own = true) : BlkOk N sc scope (ownP N own) ∧ (ownP N own).map (·.2) = own := by
  have h : (blkC N sc scope (ownP N own) && decide ((ownP N own).map (·.2) = own)) = true := h
  rw [Bool.and_eq_true] at h
  exact ⟨blkOk_by h.1, of_decide_eq_true h.2⟩
/-- what a list comprehension's rules ask -/
structure LcH (S : Sg) (T : Tab) (n : Nat) (W : WX) (X : Cx) (N : List Str) (t : Tg) (it : Ie) (ifs : Es) (own : List Nat) (scope : Scope) (tg iter : Expr) (is : List Expr) : Prop where
  blk : BlkOk X.N X.env.scope scope (ownP X.N own)
  ow : (ownP X.N own).map (·.2) = own
  sl : ∀ i ∈ tgSlots t, i ∈ own
  pi : PI X tg iter (tIe S W (wdh T n false) it)
  pg : ∀ (s : Shared) (H : Hp) (C : Addr) (cl : List (Str × Addr)) (fp : List Addr), PG (X.blk s H scope (compEnvC scope cl C X.env) fp) tg (gOf S.K t)
  pt : ∀ (s : Shared) (H : Hp) (C : Addr) (cl : List (Str × Addr)) (fp : List Addr), PTs (X.blk s H scope (compEnvC scope cl C X.env) fp) is (tTs S W0 (wdh T n false) ifs)
  fold : ∀ (env : PySem.Env) x, foldedSetIterable iter env x = pure x
theorem pe_lc1 (A : Adm S T n W false X) {t : Tg} {it : Ie} {ifs : Es} {own : List Nat} {scope : Scope} {tg iter x : Expr} {is : List Expr} {elt : E} {p : Pos} (L : LcH S T n W X N t it ifs own scope tg iter is)
    (he : ∀ (s : Shared) (H : Hp) (C : Addr) (cl : List (Str × Addr)) (fp : List Addr), PE (X.blk s H scope (compEnvC scope cl C X.env) fp) x (tI S W0 (wdh T n false) elt)) :
    PE X (.ListComp x [⟨tg, iter, is, 0⟩] scope p) (tI S W (wdh T n false) (.lc elt (.one own t it ifs))) := by
  refine pe_imp (pe_lc (A.calm rfl) A.nd L.pi L.blk L.pg L.pt he (L.fold _)) ?_
  rw [L.ow]
  exact rd_lc1 L.sl
theorem pe_dc1 (A : Adm S T n W false X) {t : Tg} {it : Ie} {ifs : Es} {own : List Nat} {scope : Scope} {tg iter x y : Expr} {is : List Expr} {ke ve : E} {p : Pos} (L : LcH S T n W X N t it ifs own scope tg iter is)
    (hk : ∀ (s : Shared) (H : Hp) (C : Addr) (cl : List (Str × Addr)) (fp : List Addr), PE (X.blk s H scope (compEnvC scope cl C X.env) fp) x (tI S W0 (wdh T n false) ke))
    (he : ∀ (s : Shared) (H : Hp) (C : Addr) (cl : List (Str × Addr)) (fp : List Addr), PE (X.blk s H scope (compEnvC scope cl C X.env) fp) y (tI S W0 (wdh T n false) ve)) :
    PE X (.DictComp x y [⟨tg, iter, is, 0⟩] scope p) (tI S W (wdh T n false) (.dc ke ve (.one own t it ifs))) := by
  refine pe_imp (pe_dc (A.calm rfl) A.nd L.pi L.blk L.pg L.pt hk he (L.fold _)) ?_
  rw [L.ow]
  exact rd_dc1 L.sl
/-- the second clause -/
structure LcH2 (S : Sg) (T : Tab) (n : Nat) (X : Cx) (t : Tg) (it : Ie) (ifs : Es) (own own1 : List Nat) (scope : Scope) (tg iter : Expr) (is : List Expr) : Prop where
  sub : ∀ i ∈ own1, i ∈ own
  sl : ∀ i ∈ tgSlots t, i ∈ own1
  pi : ∀ (s : Shared) (H : Hp) (C : Addr) (cl : List (Str × Addr)) (fp : List Addr), PI (X.blk s H scope (compEnvC scope cl C X.env) fp) tg iter (tIe S W0 (wdh T n false) it)
  pg : ∀ (s : Shared) (H : Hp) (C : Addr) (cl : List (Str × Addr)) (fp : List Addr), PG (X.blk s H scope (compEnvC scope cl C X.env) fp) tg (gOf S.K t)
  pt : ∀ (s : Shared) (H : Hp) (C : Addr) (cl : List (Str × Addr)) (fp : List Addr), PTs (X.blk s H scope (compEnvC scope cl C X.env) fp) is (tTs S W0 (wdh T n false) ifs)
  fold : ∀ (env : PySem.Env) x, foldedSetIterable iter env x = pure x
theorem pe_lc2' (A : Adm S T n W false X) {t t1 : Tg} {it it1 : Ie} {ifs ifs1 : Es} {own own1 : List Nat} {scope : Scope} {tg iter x tg1 iter1 : Expr} {is is1 : List Expr} {elt : E} {p : Pos} (L : LcH S T n W X N t it ifs own scope tg iter is) (L2 : LcH2 S T n X t1 it1 ifs1 own own1 scope tg1 iter1 is1)
    (he : ∀ (s : Shared) (H : Hp) (C : Addr) (cl : List (Str × Addr)) (fp : List Addr), PE (X.blk s H scope (compEnvC scope cl C X.env) fp) x (tI S W0 (wdh T n false) elt)) :
    PE X (.ListComp x [⟨tg, iter, is, 0⟩, ⟨tg1, iter1, is1, 0⟩] scope p) (tI S W (wdh T n false) (.lc elt (.more own t it ifs (.one own1 t1 it1 ifs1)))) := by
  refine pe_imp (pe_lc2 (A.calm rfl) A.nd L.pi L.blk (by rw [L.ow]; exact L2.sub) L.pg L.pt L2.pi L2.pg L2.pt he (L.fold _) L2.fold) ?_
  rw [L.ow]
  exact rd_lc2 L.sl L2.sl
theorem hot_lc {elt : E} {gs : Gs} {x : Expr} (h : w.hot = true) : PE X x (tI S W w (.lc elt gs)) := pe_never fun σ H Q ⟨f, M, ρ, _, _, q⟩ => by
  have e : evE w (.lc elt gs) ρ M = .bad := by
    cases gs <;> (rw [evE, h]; rfl)
  rw [e] at q
  exact q
theorem hot_dc {a b : E} {gs : Gs} {x : Expr} (h : w.hot = true) : PE X x (tI S W w (.dc a b gs)) := pe_never fun σ H Q ⟨f, M, ρ, _, _, q⟩ => by
  have e : evE w (.dc a b gs) ρ M = .bad := by
    cases gs <;> (rw [evE, h]; rfl)
  rw [e] at q
  exact q
end
end Mp

set_option Elab.async false
set_option linter.all false
set_option maxRecDepth 100000
set_option maxHeartbeats 4000000
/-! The small interpreter beside the layer: every expression does what it says (all together). -/
namespace Mp
open PySem PySem.Spec PyProof.Rows L2
section
variable {S : Sg} {T : Tab} {n : Nat} {N : List Str}
def GE (S : Sg) (T : Tab) (n : Nat) (N : List Str) (e : E) : Prop := ∀ {W : WX} {hot : Bool} {X : Cx}, Adm S T n W hot X → X.N = N → ∀ x, chkE N e X.env.scope x = true → Gd S W (wdh T n hot) X e x
def GEs (S : Sg) (T : Tab) (n : Nat) (N : List Str) (es : Es) : Prop := ∀ {W : WX} {hot : Bool} {X : Cx}, Adm S T n W hot X → X.N = N → ∀ xs, chkEs N es X.env.scope xs = true → PA X xs (tL S W (wdh T n hot) es)
def GKV (S : Sg) (T : Tab) (n : Nat) (N : List Str) (es : Es) : Prop := ∀ {W : WX} {hot : Bool} {X : Cx}, Adm S T n W hot X → X.N = N → ∀ ks vs p, chkKV N es X.env.scope ks vs = true → PPs X p ks vs (trsOf S W (wdh T n hot) es) ∧ kvShape es = true ∧ ks.all (·.isSome) = true ∧ ks.length = vs.length
def GTs (S : Sg) (T : Tab) (n : Nat) (N : List Str) (es : Es) : Prop := ∀ {W : WX} {hot : Bool} {X : Cx}, Adm S T n W hot X → X.N = N → ∀ xs, chkTs N es X.env.scope xs = true → PTs X xs (tTs S W (wdh T n hot) es)
def GO (S : Sg) (T : Tab) (n : Nat) (N : List Str) (o : Oe) : Prop := ∀ {W : WX} {hot : Bool} {X : Cx}, Adm S T n W hot X → X.N = N → ∀ x, chkO N o X.env.scope x = true → PO X x (toOf S W (wdh T n hot) o)
def GI (S : Sg) (T : Tab) (n : Nat) (N : List Str) (it : Ie) : Prop := ∀ {W : WX} {hot : Bool} {X : Cx}, Adm S T n W hot X → X.N = N → ∀ tg x, (!iTup it || isTupX tg) = true → plainX x = true → chkI N it X.env.scope x = true → PI X tg x (tIe S W (wdh T n hot) it)
/-- comprehension clauses, read in a cold place -/
def GG (S : Sg) (T : Tab) (n : Nat) (N : List Str) (gs : Gs) : Prop := ∀ {W : WX} {X : Cx}, Adm S T n W false X → X.N = N → ∀ scope gens, chkG N gs X.env.scope scope gens = true → match gs with
  | .one own t it ifs => ∃ tg iter is, gens = [⟨tg, iter, is, 0⟩] ∧ LcH S T n W X N t it ifs own scope tg iter is
  | .more own t it ifs (.one own1 t1 it1 ifs1) => ∃ tg iter is tg1 iter1 is1, gens = [⟨tg, iter, is, 0⟩, ⟨tg1, iter1, is1, 0⟩] ∧ LcH S T n W X N t it ifs own scope tg iter is ∧ LcH2 S T n X t1 it1 ifs1 own own1 scope tg1 iter1 is1
  | _ => False
theorem all_of {l : List Str} : True := trivial
variable {W : WX} {hot : Bool} {X : Cx}
theorem g_var {i : Nat} : GE S T n N (.var i) := by
  intro W hot X A hN x h
  cases x with
  | Name y p =>
    have h : (decide (N[i]? = some y) && vis X.env.scope y && plainN y) = true := h
    simp only [Bool.and_eq_true, decide_eq_true_eq] at h
    have q := plainN2 h.2
    exact gd_plain (tru_E A) (pe_imp (pe_var (hN ▸ h.1.1) (vis_ok h.1.2) q.1 q.2.1) rd_var) (fun _ => rfl) (fun _ _ _ z => by cases z)
  | _ => cases h
theorem g_cst {c : Cst} : GE S T n N (.cst c) := by
  intro W hot X A hN x h
  cases x with
  | Constant k j p => exact gd_cst (tru_E A) h
  | _ => cases h
theorem g_glo {g : Str} : GE S T n N (.glo g) := by
  intro W hot X A hN x h
  cases x with
  | Name y p =>
    have h : (decide (y = g) && gl X.env.scope y && plainN y) = true := h
    simp only [Bool.and_eq_true, decide_eq_true_eq] at h
    obtain ⟨⟨rfl, h1⟩, h2⟩ := h
    exact gd_glo A (wdh_glo T n hot) h1 h2
  | _ => cases h
theorem g_bin {op : Bop} {a b : E} (ga : GE S T n N a) (gb : GE S T n N b) : GE S T n N (.bin op a b) := by
  intro W hot X A hN x h
  cases x with
  | BinOp x o y p =>
    have h : (bopC op o && chkE N a X.env.scope x && chkE N b X.env.scope y) = true := h
    simp only [Bool.and_eq_true] at h
    obtain rfl := bop_of h.1.1
    exact gd_plain (tru_E A) (pe_imp (pe_op (op_bin A.K op) (ga A hN _ h.1.2).pe (gb A hN _ h.2).pe) rd_bin) (fun _ => rfl) (fun _ _ _ z => by cases z)
  | _ => cases h
theorem g_neg {a : E} (ga : GE S T n N a) : GE S T n N (.neg a) := by
  intro W hot X A hN x h
  cases x with
  | UnaryOp o x p =>
    cases o with
    | USub => exact gd_plain (tru_E A) (pe_imp (pe_un un_neg (ga A hN x h).pe) rd_neg) (fun _ => rfl) (fun _ _ _ z => by cases z)
    | _ => cases h
  | _ => cases h
theorem g_not {a : E} (ga : GE S T n N a) : GE S T n N (.not a) := by
  intro W hot X A hN x h
  cases x with
  | UnaryOp o x p =>
    cases o with
    | Not =>
      have g := ga A hN x h
      exact ⟨pe_imp (pe_notR (tru_E A) g.pe) rd_not, fun q => pt_imp (pt_not (g.pt q)) rd_notB, fun _ _ _ _ z => by cases z⟩
    | _ => cases h
  | _ => cases h
theorem g_and {a b : E} (ga : GE S T n N a) (gb : GE S T n N b) : GE S T n N (.and a b) := by
  intro W hot X A hN x h
  cases x with
  | BoolOp o l p =>
    cases o with
    | And =>
      cases l with
      | nil => cases h
      | cons x1 l =>
        cases l with
        | nil => cases h
        | cons y r =>
          have h : (chkE N a X.env.scope x1 && (match (generalizing := false) r with
            | [] => chkE N b X.env.scope y
            | _ :: _ => chkE N b X.env.scope (.BoolOp .And (y :: r) p))) = true := h
          rw [Bool.and_eq_true] at h
          obtain ⟨h1, h2⟩ := h
          cases r with
          | nil =>
            have g := gb A hN y h2
            exact gd_and (tru_E A) (ga A hN x1 h1) (pe_one g.pe) fun q => pw_and1 (g.pt q)
          | cons z r =>
            have g := gb A hN _ h2
            exact gd_and (tru_E A) (ga A hN x1 h1) g.pe fun q => g.pw q _ _ _ rfl
    | Or => cases h
  | _ => cases h
theorem g_or {a b : E} (ga : GE S T n N a) (gb : GE S T n N b) : GE S T n N (.or a b) := by
  intro W hot X A hN x h
  cases x with
  | BoolOp o l p =>
    cases o with
    | Or =>
      cases l with
      | nil => cases h
      | cons x1 l =>
        cases l with
        | nil => cases h
        | cons y r =>
          have h : (chkE N a X.env.scope x1 && (match (generalizing := false) r with
            | [] => chkE N b X.env.scope y
            | _ :: _ => chkE N b X.env.scope (.BoolOp .Or (y :: r) p))) = true := h
          rw [Bool.and_eq_true] at h
          obtain ⟨h1, h2⟩ := h
          cases r with
          | nil =>
            have g := gb A hN y h2
            exact gd_or (tru_E A) (ga A hN x1 h1) (pe_one g.pe) fun q => pw_or1 (g.pt q)
          | cons z r =>
            have g := gb A hN _ h2
            exact gd_or (tru_E A) (ga A hN x1 h1) g.pe fun q => g.pw q _ _ _ rfl
    | And => cases h
  | _ => cases h
theorem g_cmp {op : Cop} {a b : E} (ga : GE S T n N a) (gb : GE S T n N b) : GE S T n N (.cmp op a b) := by
  intro W hot X A hN x h
  cases x with
  | Compare x os ys p =>
    cases os with
    | nil => cases h
    | cons o r =>
      cases r with
      | nil =>
        cases ys with
        | nil => cases h
        | cons y q =>
          cases q with
          | nil =>
            have h : (copC op o && plainX y && chkE N a X.env.scope x && chkE N b X.env.scope y) = true := h
            simp only [Bool.and_eq_true] at h
            exact gd_cmp A h.1.1.1 h.1.1.2 (ga A hN _ h.1.2) (gb A hN _ h.2)
          | cons _ _ => cases h
      | cons _ _ => cases ys with
        | nil => cases h
        | cons _ q => cases q <;> cases h
  | _ => cases h
theorem g_chn {op op' : Cop} {a b c : E} (ga : GE S T n N a) (gb : GE S T n N b) (gc : GE S T n N c) : GE S T n N (.chn op op' a b c) := by
  intro W hot X A hN x h
  cases x with
  | Compare x os ys p =>
    match os, ys, h with
    | [o, o'], [y, z], h =>
      have h : (copC op o && copC op' o' && plainX y && plainX z && chkE N a X.env.scope x && chkE N b X.env.scope y && chkE N c X.env.scope z) = true := h
      simp only [Bool.and_eq_true] at h
      exact gd_chn A h.1.1.1.1.1.1 h.1.1.1.1.1.2 h.1.1.1.1.2 h.1.1.1.2 (ga A hN _ h.1.1.2) (gb A hN _ h.1.2) (gc A hN _ h.2)
  | _ => cases h
theorem g_ife {c a b : E} (gc : GE S T n N c) (ga : GE S T n N a) (gb : GE S T n N b) : GE S T n N (.ife c a b) := by
  intro W hot X A hN x h
  cases x with
  | IfExp z x y p =>
    have h : (testOk c && chkE N c X.env.scope z && chkE N a X.env.scope x && chkE N b X.env.scope y) = true := h
    simp only [Bool.and_eq_true] at h
    exact ⟨pe_imp (pe_ifExp ((gc A hN _ h.1.1.2).pt h.1.1.1) (ga A hN _ h.1.2).pe (gb A hN _ h.2).pe) rd_ife, (fun z => by cases z), (fun z _ _ _ _ => by cases z)⟩
  | _ => cases h
theorem g_tup {es : Es} (g : GEs S T n N es) : GE S T n N (.tup es) := by
  intro W hot X A hN x h
  cases x with
  | Tuple xs k p => exact gd_plain (tru_E A) (pe_imp (pe_tup (g A hN xs h)) rd_tup) (fun _ => rfl) (fun _ _ _ z => by cases z)
  | _ => cases h
theorem g_lst {es : Es} (g : GEs S T n N es) : GE S T n N (.lst es) := by
  intro W hot X A hN x h
  cases x with
  | List xs p => exact gd_plain (tru_E A) (pe_imp (pe_lst (g A hN xs h)) rd_lst) (fun _ => rfl) (fun _ _ _ z => by cases z)
  | _ => cases h
theorem g_dct {es : Es} (g : GKV S T n N es) : GE S T n N (.dct es) := by
  intro W hot X A hN x h
  cases x with
  | Dict ks vs p =>
    have h : (decide (ks.length ≤ 15) && (match (generalizing := false) ks with
      | [] => (match (generalizing := false) es with
        | .nil => vs.isEmpty
        | _ => false)
      | _ :: _ => chkKV N es X.env.scope ks vs)) = true := h
    simp only [Bool.and_eq_true, decide_eq_true_eq] at h
    obtain ⟨hl, h⟩ := h
    refine gd_plain (tru_E A) ?_ (fun _ => rfl) (fun _ _ _ z => by cases z)
    cases ks with
    | nil =>
      cases es with
      | nil =>
        cases vs with
        | nil =>
          refine pe_imp pe_dnewK fun σ H Q q => ?_
          intro q1 hq
          obtain ⟨_, ps, e, _, z⟩ := rd_dct rfl σ H Q q q1 hq
          cases ps with
          | nil =>
            have z : Q (.ref q1) (upd (upd H q1 (.dK [])) q1 (.dK [])) := z
            have e2 : upd (upd H q1 (.dK [])) q1 (.dK []) = upd H q1 (.dK []) := by
              funext b
              by_cases hb : b = q1
              · subst hb; rw [upd_same, upd_same]
              · rw [upd_ne hb]
            rw [e2] at z
            exact z
          | cons _ _ => cases e
        | cons _ _ => cases h
      | cons _ _ _ => cases h
    | cons k ks =>
      obtain ⟨pp, sh, al, ln⟩ := g A hN (k :: ks) vs p h
      exact pe_imp (pe_disp pp al ln (fun z => by cases z) hl) (rd_dct sh)
  | _ => cases h
theorem g_idx {a b : E} (ga : GE S T n N a) (gb : GE S T n N b) : GE S T n N (.idx a b) := by
  intro W hot X A hN x h
  cases x with
  | Subscript x y p =>
    have h : (plainX y && chkE N a X.env.scope x && chkE N b X.env.scope y) = true := h
    simp only [Bool.and_eq_true] at h
    exact gd_plain (tru_E A) (pe_imp (pe_ix (ix_any A.K A.units) (ga A hN _ h.1.2).pe (gb A hN _ h.2).pe (plain_ix h.1.1)) rd_idx) (fun _ => rfl) (fun _ _ _ z => by cases z)
  | _ => cases h
theorem g_slc {a : E} {lo hi : Oe} (ga : GE S T n N a) (gl : GO S T n N lo) (gh : GO S T n N hi) : GE S T n N (.slc a lo hi) := by
  intro W hot X A hN x h
  cases x with
  | Subscript x y p =>
    cases y with
    | Slice l u st p2 =>
      cases st with
      | none =>
        have h : (chkE N a X.env.scope x && chkO N lo X.env.scope l && chkO N hi X.env.scope u) = true := h
        simp only [Bool.and_eq_true] at h
        exact gd_plain (tru_E A) (pe_imp (pe_slice (sl_any A.K) (ga A hN _ h.1.1).pe (gl A hN _ h.1.2) (gh A hN _ h.2)) rd_slc) (fun _ => rfl) (fun _ _ _ z => by cases z)
      | some _ => cases h
    | _ => cases h
  | _ => cases h
theorem g_att {a : E} {f : Str} (ga : GE S T n N a) : GE S T n N (.att a f) := by
  intro W hot X A hN x h
  cases x with
  | Attribute x g p =>
    have h : (decide (f = g) && baseOk x && chkE N a X.env.scope x) = true := h
    simp only [Bool.and_eq_true, decide_eq_true_eq] at h
    obtain ⟨⟨rfl, h1⟩, h2⟩ := h
    exact gd_plain (tru_E A) (good_att A h1 (ga A hN _ h2).pe) (fun _ => rfl) (fun _ _ _ z => by cases z)
  | _ => cases h
theorem g_call {f : Str} {es : Es} (g : GEs S T n N es) : GE S T n N (.call f es) := by
  intro W hot X A hN x h
  cases x with
  | Call fx ys ks p =>
    match fx, ys, ks, h with
    | .Name x q, y :: ys, [], h =>
      have h : (decide (f = x) && gl X.env.scope x && plainN x && (y :: ys).all plainX && chkEs N es X.env.scope (y :: ys)) = true := h
      simp only [Bool.and_eq_true, decide_eq_true_eq] at h
      obtain ⟨⟨⟨⟨rfl, h1⟩, h2⟩, h3⟩, h4⟩ := h
      exact gd_plain (tru_E A) (good_call A (gl_ok h1) h2 h3 (g A hN _ h4)) (fun _ => rfl) (fun _ _ _ z => by cases z)
  | _ => cases h
theorem g_mk {f : Str} {es : Es} (g : GEs S T n N es) : GE S T n N (.mk f es) := by
  intro W hot X A hN x h
  cases x with
  | Call fx ys ks p =>
    match fx, ys, ks, h with
    | .Name x q, y :: ys, [], h =>
      have h : (decide (f = x) && gl X.env.scope x && plainN x && (y :: ys).all plainX && chkEs N es X.env.scope (y :: ys)) = true := h
      simp only [Bool.and_eq_true, decide_eq_true_eq] at h
      obtain ⟨⟨⟨⟨rfl, h1⟩, h2⟩, h3⟩, h4⟩ := h
      exact gd_plain (tru_E A) (good_mk A (gl_ok h1) h2 h3 (g A hN _ h4)) (fun _ => rfl) (fun _ _ _ z => by cases z)
  | _ => cases h
theorem chkEs_nil {es : Es} {sc : Scope} (h : chkEs N es sc [] = true) : es = .nil := by
  cases es with
  | nil => rfl
  | cons s e r => cases s <;> cases h
theorem g_mth {o : E} {m : Str} {es : Es} (go : GE S T n N o) (g : GEs S T n N es) : GE S T n N (.mth o m es) := by
  intro W hot X A hN x h
  cases x with
  | Call fx ys ks p =>
    match fx, ks, h with
    | .Attribute x m' ap, [], h =>
      have h : (decide (m = m') && baseOk x && ys.all plainX && decide (ys.length < 20) && (ap.endLine == p.line) && chkE N o X.env.scope x && chkEs N es X.env.scope ys) = true := h
      simp only [Bool.and_eq_true, decide_eq_true_eq] at h
      obtain ⟨⟨⟨⟨⟨⟨rfl, h1⟩, h2⟩, h3⟩, h4⟩, h5⟩, h6⟩ := h
      exact gd_plain (tru_E A) (good_mth A h1 h2 h3 h4 (go A hN _ h5).pe (g A hN _ h6) fun z => by subst z; exact chkEs_nil h6) (fun _ => rfl) (fun _ _ _ z => by cases z)
  | _ => cases h
theorem g_blt {b : Str} {es : Es} (g : GEs S T n N es) : GE S T n N (.blt b es) := by
  intro W hot X A hN x h
  cases x with
  | Call fx ys ks p =>
    match fx, ys, ks, h with
    | .Name x q, y :: ys, [], h =>
      have h : (decide (b = x) && gl X.env.scope x && isBn b && (y :: ys).all plainX && chkEs N es X.env.scope (y :: ys)) = true := h
      simp only [Bool.and_eq_true, decide_eq_true_eq] at h
      obtain ⟨⟨⟨⟨rfl, h1⟩, h2⟩, h3⟩, h4⟩ := h
      exact gd_plain (tru_E A) (good_blt A (wdh_hot T n hot) h2 (gl_ok h1) h3 (g A hN _ h4)) (fun _ => rfl) (fun _ _ _ z => by cases z)
  | _ => cases h
theorem g_un {k : Str} {a : E} (ga : GE S T n N a) : GE S T n N (.un k a) := by
  intro W hot X A hN x h
  cases x with
  | Call fx ys ks p =>
    match fx, ys, ks, h with
    | .Name x q, [.Call (.Attribute y m ap) [] [] cp], [], h =>
      have h : (decide (k = "items") && decide (x = ("list" : Str)) && gl X.env.scope x && decide (m = ("items" : Str)) && baseOk y && (ap.endLine == cp.line) && chkE N a X.env.scope y) = true := h
      simp only [Bool.and_eq_true, decide_eq_true_eq] at h
      obtain ⟨⟨⟨⟨⟨⟨rfl, rfl⟩, h1⟩, rfl⟩, h2⟩, h3⟩, h4⟩ := h
      exact gd_plain (tru_E A) (good_items A (gl_ok h1) h2 h3 (ga A hN _ h4).pe) (fun _ => rfl) (fun _ _ _ z => by cases z)
  | _ => cases h
theorem g_isi {a : E} {ts : List Ty} (ga : GE S T n N a) : GE S T n N (.isi a ts) := by
  intro W hot X A hN x h
  cases x with
  | Call fx ys ks p =>
    match fx, ys, ks, h with
    | .Name x q, [y, z], [], h =>
      have h : (decide (x = ("isinstance" : Str)) && gl X.env.scope x && plainX y && chkE N a X.env.scope y && isiC X.env.scope ts z) = true := h
      simp only [Bool.and_eq_true, decide_eq_true_eq] at h
      obtain ⟨⟨⟨⟨rfl, h1⟩, h2⟩, h3⟩, h4⟩ := h
      exact gd_plain (tru_E A) (good_isi A (wdh_isC T n hot) (gl_ok h1) h2 (ga A hN _ h3).pe h4) (fun _ => rfl) (fun _ _ _ z => by cases z)
  | _ => cases h
theorem g_lc {elt : E} {gs : Gs} (ge : GE S T n N elt) (gg : GG S T n N gs) : GE S T n N (.lc elt gs) := by
  intro W hot X A hN x h
  cases x with
  | ListComp x gens scope p =>
    refine gd_plain (tru_E A) ?_ (fun _ => rfl) (fun _ _ _ z => by cases z)
    have h : (chkG N gs X.env.scope scope gens && chkE N elt (relS scope X.env.scope) x) = true := h
    rw [Bool.and_eq_true] at h
    cases hot with
    | true => exact hot_lc (wdh_hot T n true)
    | false =>
      have g := gg A hN scope gens h.1
      have he : ∀ (s : Shared) (H : Hp) (C : Addr) (cl : List (Str × Addr)) (fp : List Addr), PE (X.blk s H scope (compEnvC scope cl C X.env) fp) x (tI S W0 (wdh T n false) elt) :=
        fun s H C cl fp => (ge (A.blk s H scope (compEnvC scope cl C X.env) fp) hN x h.2).pe
      cases gs with
      | one own t it ifs =>
        obtain ⟨tg, iter, is, rfl, L⟩ := g
        exact pe_lc1 A L he
      | more own t it ifs r =>
        cases r with
        | one own1 t1 it1 ifs1 =>
          obtain ⟨tg, iter, is, tg1, iter1, is1, rfl, L, L2⟩ := g
          exact pe_lc2' A L L2 he
        | more _ _ _ _ _ => exact g.elim
  | _ => cases h
theorem g_dc {a b : E} {gs : Gs} (ga : GE S T n N a) (gb : GE S T n N b) (gg : GG S T n N gs) : GE S T n N (.dc a b gs) := by
  intro W hot X A hN x h
  cases x with
  | DictComp x y gens scope p =>
    refine gd_plain (tru_E A) ?_ (fun _ => rfl) (fun _ _ _ z => by cases z)
    have h : (isOne gs && chkG N gs X.env.scope scope gens && chkE N a (relS scope X.env.scope) x && chkE N b (relS scope X.env.scope) y) = true := h
    simp only [Bool.and_eq_true] at h
    cases hot with
    | true => exact hot_dc (wdh_hot T n true)
    | false =>
      have g := gg A hN scope gens h.1.1.2
      cases gs with
      | one own t it ifs =>
        obtain ⟨tg, iter, is, rfl, L⟩ := g
        exact pe_dc1 A L (fun s H C cl fp => (ga (A.blk s H scope (compEnvC scope cl C X.env) fp) hN x h.1.2).pe) fun s H C cl fp => (gb (A.blk s H scope (compEnvC scope cl C X.env) fp) hN y h.2).pe
      | more own t it ifs r => exact (show False from by cases h.1.1.1).elim
  | _ => cases h
theorem g_nil : GEs S T n N .nil := by
  intro W hot X A hN xs h
  cases xs with
  | nil => exact pa_imp pa_nil rd_nil
  | cons x r => cases h
theorem g_cons {s : Bool} {e : E} {r : Es} (ge : GE S T n N e) (gr : GEs S T n N r) : GEs S T n N (.cons s e r) := by
  intro W hot X A hN xs h
  cases s with
  | true =>
    cases xs with
    | nil => cases h
    | cons x q =>
      cases x with
      | Starred x p =>
        have h : (chkE N e X.env.scope x && chkEs N r X.env.scope q) = true := h
        rw [Bool.and_eq_true] at h
        exact pa_imp (StX.pa_star (ge A hN x h.1).pe (gr A hN q h.2)) (rd_star A.K)
      | _ => cases h
  | false =>
    cases xs with
    | nil => cases h
    | cons x q =>
      have h : (plainX x && chkE N e X.env.scope x && chkEs N r X.env.scope q) = true := h
      simp only [Bool.and_eq_true] at h
      exact pa_imp (pa_cons (ge A hN x h.1.2).pe (gr A hN q h.2) (plain_star h.1.1 _ _)) rd_cons
theorem g_kv0 : GKV S T n N .nil := by
  intro W hot X A hN ks vs p h
  cases ks with
  | nil =>
    cases vs with
    | nil => exact ⟨pps_nil, rfl, rfl, rfl⟩
    | cons _ _ => cases h
  | cons _ _ => cases vs <;> cases h
theorem g_kv {s s' : Bool} {k v : E} {r : Es} (gk : GE S T n N k) (gv : GE S T n N v) (gr : GKV S T n N r) : GKV S T n N (.cons s k (.cons s' v r)) := by
  intro W hot X A hN ks vs p h
  cases s with
  | true => cases ks <;> cases vs <;> cases h
  | false =>
    cases s' with
    | true => cases ks <;> cases vs <;> cases h
    | false =>
      cases ks with
      | nil => cases vs <;> cases h
      | cons x ks =>
        cases x with
        | none => cases vs <;> cases h
        | some x =>
          cases vs with
          | nil => cases h
          | cons y vs =>
            have h : (plainX x && plainX y && chkE N k X.env.scope x && chkE N v X.env.scope y && chkKV N r X.env.scope ks vs) = true := h
            simp only [Bool.and_eq_true] at h
            obtain ⟨pp, sh, al, ln⟩ := gr A hN ks vs p h.2
            refine ⟨pps_cons (gk A hN x h.1.1.2).pe (gv A hN y h.1.2).pe pp, sh, al, ?_⟩
            rw [List.length_cons, List.length_cons, ln]
theorem g_kv1 {s : Bool} {k : E} : GKV S T n N (.cons s k .nil) := by
  intro W hot X A hN ks vs p h
  cases s <;> cases ks <;> cases vs <;> first | cases h | (rename_i x _ _ _; cases x <;> cases h)
theorem g_ts0 : GTs S T n N .nil := fun A hN xs h => gd_ts h fun b e x z => by cases z
theorem g_ts1 {b : Bool} {e : E} {r : Es} (ge : GE S T n N e) : GTs S T n N (.cons b e r) := by
  intro W hot X A hN xs h
  refine gd_ts h fun b' e' x z q ho => ?_
  cases z
  subst q
  have h : (testOk e && chkE N e X.env.scope x) = true := h
  rw [Bool.and_eq_true] at h
  exact (ge A hN x h.2).pt ho
theorem g_none : GO S T n N .none := by
  intro W hot X A hN x h
  cases x with
  | none => exact po_none
  | some _ => cases h
theorem g_some {e : E} (ge : GE S T n N e) : GO S T n N (.some e) := by
  intro W hot X A hN x h
  cases x with
  | none => cases h
  | some x => exact po_some (ge A hN x h).pe
theorem g_seq {e : E} (ge : GE S T n N e) : GI S T n N (.seq e) := by
  intro W hot X A hN tg x ht hp h
  have h : (plainX x && chkE N e X.env.scope x) = true := by
    cases x <;> exact h
  rw [Bool.and_eq_true] at h
  exact good_seq A.K (ge A hN x h.2).pe
theorem tup_of {tg : Expr} {it : Ie} (h : (!iTup it || isTupX tg) = true) (hi : iTup it = true) : ∃ es k p, tg = .Tuple es k p := by
  rw [hi] at h
  cases tg with
  | Tuple es k p => exact ⟨es, k, p, rfl⟩
  | _ => cases h
theorem g_rng1 {a : E} (ga : GE S T n N a) : GI S T n N (.rng1 a) := by
  intro W hot X A hN tg x ht hp h
  cases x with
  | Call fx ys ks p =>
    match fx, ys, ks, h with
    | .Name x q, [y], [], h =>
      have h : (decide (x = ("range" : Str)) && gl X.env.scope x && plainX y && chkE N a X.env.scope y) = true := h
      simp only [Bool.and_eq_true, decide_eq_true_eq] at h
      obtain ⟨⟨⟨rfl, h1⟩, h2⟩, h3⟩ := h
      exact pi_imp (pi_range1 (gl_ok h1) (A.free _ (by simp [bnames])) (pa_cons (ga A hN _ h3).pe pa_nil (plain_star h2 _ _)) (plain_star h2 _ _)) rd_rng1
  | _ => cases h
theorem g_rng2 {a b : E} (ga : GE S T n N a) (gb : GE S T n N b) : GI S T n N (.rng2 a b) := by
  intro W hot X A hN tg x ht hp h
  cases x with
  | Call fx ys ks p =>
    match fx, ys, ks, h with
    | .Name x q, [y, z], [], h =>
      have h : (decide (x = ("range" : Str)) && gl X.env.scope x && plainX y && plainX z && chkE N a X.env.scope y && chkE N b X.env.scope z) = true := h
      simp only [Bool.and_eq_true, decide_eq_true_eq] at h
      obtain ⟨⟨⟨⟨⟨rfl, h1⟩, h2⟩, h2'⟩, h3⟩, h4⟩ := h
      have s2 := plain_star h2' [] X.env
      have s1 := plain_star h2 [z] X.env
      exact pi_imp (pi_range2 (gl_ok h1) (A.free _ (by simp [bnames])) (pa_cons (ga A hN _ h3).pe (pa_cons (gb A hN _ h4).pe pa_nil s2) s1) (by rw [s1, s2]; rfl) s2) rd_rng2
  | _ => cases h
theorem g_enum {a : E} (ga : GE S T n N a) : GI S T n N (.enum a) := by
  intro W hot X A hN tg x ht hp h
  obtain ⟨es, k, tp, rfl⟩ := tup_of ht rfl
  cases x with
  | Call fx ys ks p =>
    match fx, ys, ks, h with
    | .Name x q, [y], [], h =>
      have h : (decide (x = ("enumerate" : Str)) && gl X.env.scope x && plainX y && chkE N a X.env.scope y) = true := h
      simp only [Bool.and_eq_true, decide_eq_true_eq] at h
      obtain ⟨⟨⟨rfl, h1⟩, h2⟩, h3⟩ := h
      exact pi_imp (pi_enumA (gl_ok h1) (A.free _ (by simp [bnames])) (pa_cons (ga A hN _ h3).pe pa_nil (plain_star h2 _ _)) (plain_star h2 _ _)) (rd_enum A.K)
  | _ => cases h
theorem g_zip {a b : E} (ga : GE S T n N a) (gb : GE S T n N b) : GI S T n N (.zip a b) := by
  intro W hot X A hN tg x ht hp h
  obtain ⟨es, k, tp, rfl⟩ := tup_of ht rfl
  cases x with
  | Call fx ys ks p =>
    match fx, ys, ks, h with
    | .Name x q, [y, z], [], h =>
      have h : (decide (x = ("zip" : Str)) && gl X.env.scope x && plainX y && plainX z && chkE N a X.env.scope y && chkE N b X.env.scope z) = true := h
      simp only [Bool.and_eq_true, decide_eq_true_eq] at h
      obtain ⟨⟨⟨⟨⟨rfl, h1⟩, h2⟩, h2'⟩, h3⟩, h4⟩ := h
      have s2 := plain_star h2' [] X.env
      have s1 := plain_star h2 [z] X.env
      exact pi_imp (RZ.pi_zipA (gl_ok h1) (A.free _ (by simp [bnames])) (pa_cons (ga A hN _ h3).pe (pa_cons (gb A hN _ h4).pe pa_nil s2) s1) s1 (plain_any _ _ (by simp [h2']))) (rd_zip A.K)
  | _ => cases h
theorem g_noI {it : Ie} (h : ∀ sc x, chkI N it sc x = false) : GI S T n N it := fun A hN tg x _ _ q => by
  rw [h] at q
  cases q
theorem g_one {own : List Nat} {t : Tg} {it : Ie} {ifs : Es} (gi : GI S T n N it) (gt : GTs S T n N ifs) : GG S T n N (.one own t it ifs) := by
  intro W X A hN scope gens h
  match gens, h with
  | [⟨tg, iter, is, k⟩], h =>
    have h : ((k == 0) && ownC N X.env.scope scope own && (tgSlots t).all own.contains && (!iTup it || isTupX tg) && plainX iter && tgtC N scope t tg && chkI N it X.env.scope iter && chkTs N ifs (relS scope X.env.scope) is) = true := h
    simp only [Bool.and_eq_true] at h
    obtain ⟨⟨⟨⟨⟨⟨⟨h0, h1⟩, h2⟩, h3⟩, h4⟩, h5⟩, h6⟩, h7⟩ := h
    have hk : k = 0 := by simpa using h0
    subst hk hN
    obtain ⟨b1, b2⟩ := own_of h1
    exact ⟨tg, iter, is, rfl, ⟨b1, b2, mem_of_contains h2, gi A rfl tg iter h3 h4 h6, fun s H C cl fp => good_tg (X := X.blk s H scope (compEnvC scope cl C X.env) fp) A.K A.nd TgOk.blk (A.calm rfl) h5, fun s H C cl fp => gt (A.blk s H scope (compEnvC scope cl C X.env) fp) rfl is h7, fun env x => plain_fold h4 env x⟩⟩
theorem g_more {own own1 : List Nat} {t t1 : Tg} {it it1 : Ie} {ifs ifs1 : Es} (gi : GI S T n N it) (gt : GTs S T n N ifs) (gi1 : GI S T n N it1) (gt1 : GTs S T n N ifs1) : GG S T n N (.more own t it ifs (.one own1 t1 it1 ifs1)) := by
  intro W X A hN scope gens h
  match gens, h with
  | [⟨tg, iter, is, k⟩, ⟨tg1, iter1, is1, k1⟩], h =>
    have h : ((k == 0) && (k1 == 0) && ownC N X.env.scope scope own && (tgSlots t).all own.contains && own1.all own.contains && (tgSlots t1).all own1.contains &&
      (!iTup it || isTupX tg) && (!iTup it1 || isTupX tg1) && plainX iter && plainX iter1 && tgtC N scope t tg && tgtC N scope t1 tg1 && chkI N it X.env.scope iter && chkTs N ifs (relS scope X.env.scope) is && chkI N it1 (relS scope X.env.scope) iter1 && chkTs N ifs1 (relS scope X.env.scope) is1) = true := h
    simp only [Bool.and_eq_true] at h
    obtain ⟨⟨⟨⟨⟨⟨⟨⟨⟨⟨⟨⟨⟨⟨⟨h0, h0'⟩, h1⟩, h2⟩, h2'⟩, h2''⟩, h3⟩, h3'⟩, h4⟩, h4'⟩, h5⟩, h5'⟩, h6⟩, h7⟩, h6'⟩, h7'⟩ := h
    have hk : k = 0 := by simpa using h0
    have hk1 : k1 = 0 := by simpa using h0'
    subst hk hk1 hN
    obtain ⟨b1, b2⟩ := own_of h1
    exact ⟨tg, iter, is, tg1, iter1, is1, rfl, ⟨b1, b2, mem_of_contains h2, gi A rfl tg iter h3 h4 h6, fun s H C cl fp => good_tg (X := X.blk s H scope (compEnvC scope cl C X.env) fp) A.K A.nd TgOk.blk (A.calm rfl) h5, fun s H C cl fp => gt (A.blk s H scope (compEnvC scope cl C X.env) fp) rfl is h7, fun env x => plain_fold h4 env x⟩,
      ⟨mem_of_contains h2', mem_of_contains h2'', fun s H C cl fp => gi1 (A.blk s H scope (compEnvC scope cl C X.env) fp) rfl tg1 iter1 h3' h4' h6', fun s H C cl fp => good_tg (X := X.blk s H scope (compEnvC scope cl C X.env) fp) A.K A.nd TgOk.blk (A.calm rfl) h5', fun s H C cl fp => gt1 (A.blk s H scope (compEnvC scope cl C X.env) fp) rfl is1 h7', fun env x => plain_fold h4' env x⟩⟩
theorem g_no3 {own own1 : List Nat} {t t1 : Tg} {it it1 : Ie} {ifs ifs1 : Es} {r : Gs} : GG S T n N (.more own t it ifs (.more own1 t1 it1 ifs1 r)) := fun A hN scope gens h => by
  match gens, h with
  | [], h => cases h
  | [_], h => cases h
  | [_, _], h => cases h
  | _ :: _ :: _ :: _, h => cases h
mutual
theorem goodE (S : Sg) (T : Tab) (n : Nat) (N : List Str) : ∀ e, GE S T n N e
  | .var _ => g_var
  | .cst _ => g_cst
  | .glo _ => g_glo
  | .bin _ a b => g_bin (goodE S T n N a) (goodE S T n N b)
  | .neg a => g_neg (goodE S T n N a)
  | .not a => g_not (goodE S T n N a)
  | .and a b => g_and (goodE S T n N a) (goodE S T n N b)
  | .or a b => g_or (goodE S T n N a) (goodE S T n N b)
  | .cmp _ a b => g_cmp (goodE S T n N a) (goodE S T n N b)
  | .chn _ _ a b c => g_chn (goodE S T n N a) (goodE S T n N b) (goodE S T n N c)
  | .ife c a b => g_ife (goodE S T n N c) (goodE S T n N a) (goodE S T n N b)
  | .tup es => g_tup (goodEs S T n N es)
  | .lst es => g_lst (goodEs S T n N es)
  | .dct kvs => g_dct (goodKV S T n N kvs)
  | .idx a i => g_idx (goodE S T n N a) (goodE S T n N i)
  | .slc a lo hi => g_slc (goodE S T n N a) (goodO S T n N lo) (goodO S T n N hi)
  | .att a _ => g_att (goodE S T n N a)
  | .call _ es => g_call (goodEs S T n N es)
  | .mk _ es => g_mk (goodEs S T n N es)
  | .mth o _ es => g_mth (goodE S T n N o) (goodEs S T n N es)
  | .blt _ es => g_blt (goodEs S T n N es)
  | .isi a _ => g_isi (goodE S T n N a)
  | .un _ a => g_un (goodE S T n N a)
  | .lc elt gs => g_lc (goodE S T n N elt) (goodG S T n N gs)
  | .dc a b gs => g_dc (goodE S T n N a) (goodE S T n N b) (goodG S T n N gs)
theorem goodEs (S : Sg) (T : Tab) (n : Nat) (N : List Str) : ∀ es, GEs S T n N es
  | .nil => g_nil
  | .cons _ e r => g_cons (goodE S T n N e) (goodEs S T n N r)
theorem goodKV (S : Sg) (T : Tab) (n : Nat) (N : List Str) : ∀ es, GKV S T n N es
  | .nil => g_kv0
  | .cons _ _ .nil => g_kv1
  | .cons _ k (.cons _ v r) => g_kv (goodE S T n N k) (goodE S T n N v) (goodKV S T n N r)
theorem goodTs (S : Sg) (T : Tab) (n : Nat) (N : List Str) : ∀ es, GTs S T n N es
  | .nil => g_ts0
  | .cons _ e _ => g_ts1 (goodE S T n N e)
theorem goodO (S : Sg) (T : Tab) (n : Nat) (N : List Str) : ∀ o, GO S T n N o
  | .none => g_none
  | .some e => g_some (goodE S T n N e)
theorem goodI (S : Sg) (T : Tab) (n : Nat) (N : List Str) : ∀ it, GI S T n N it
  | .seq e => g_seq (goodE S T n N e)
  | .rng1 a => g_rng1 (goodE S T n N a)
  | .rng2 a b => g_rng2 (goodE S T n N a) (goodE S T n N b)
  | .enum a => g_enum (goodE S T n N a)
  | .zip a b => g_zip (goodE S T n N a) (goodE S T n N b)
  | .zip3 _ _ _ => g_noI fun sc x => by cases x <;> rfl
  | .items _ => g_noI fun sc x => by cases x <;> rfl
  | .values _ => g_noI fun sc x => by cases x <;> rfl
theorem goodG (S : Sg) (T : Tab) (n : Nat) (N : List Str) : ∀ gs, GG S T n N gs
  | .one _ _ it ifs => g_one (goodI S T n N it) (goodTs S T n N ifs)
  | .more _ _ it ifs (.one _ _ it1 ifs1) => g_more (goodI S T n N it) (goodTs S T n N ifs) (goodI S T n N it1) (goodTs S T n N ifs1)
  | .more _ _ _ _ (.more _ _ _ _ _) => g_no3
end
end
end Mp

set_option Elab.async false
set_option linter.all false
set_option maxRecDepth 100000
set_option maxHeartbeats 4000000
/-! The small interpreter beside the layer: statements, what they read. -/
namespace Mp
open PySem PySem.Spec PyProof.Rows L2
def PostS (S : Sg) (f : List Addr) (H : Hp) (W : WX) (r : SR) (D : Ends) : Prop := match r with
  | .nx ρ' M' => ∀ f' H' σ', f <+: f' → RM S f' H' M' → Pres H H' → RE S.K f' H' ρ' σ' → D.nx σ' H'
  | .rt d M' => ∀ f' H' v, f <+: f' → RM S f' H' M' → Pres H H' → RV S.K f' H' d v → D.rt v H'
  | .bk ρ' M' => ∀ f' H' σ', f <+: f' → RM S f' H' M' → Pres H H' → RE S.K f' H' ρ' σ' → D.bk σ' H'
  | .ct ρ' M' => ∀ f' H' σ', f <+: f' → RM S f' H' M' → Pres H H' → RE S.K f' H' ρ' σ' → D.ct σ' H'
  | .exc x ρ' M' => ∀ f' H' σ' cls b, f <+: f' → RM S f' H' M' → Pres H H' → RE S.K f' H' ρ' σ' → RX S f' H' x cls b → W cls b σ' H'
  | .bad => False
def tSt (S : Sg) (W : WX) (w : Wd) (T : Tab) (s : Mp.S) : TS := fun D σ H => ∃ f M ρ, RM S f H M ∧ RE S.K f H ρ σ ∧ PostS S f H W (evS w T.exf T.sub s ρ M) D
def tSs (S : Sg) (W : WX) (w : Wd) (T : Tab) (ss : Ss) : TS := fun D σ H => ∃ f M ρ, RM S f H M ∧ RE S.K f H ρ σ ∧ PostS S f H W (evSs w T.exf T.sub ss ρ M) D
section
variable {S : Sg} {f f' : List Addr} {H H' : Hp} {M : Mem} {W : WX} {w : Wd} {ρ : Env} {σ : L2.St}
theorem PostS.mono {r : SR} {D : Ends} (hf : f <+: f') (p : Pres H H') (h : PostS S f H W r D) : PostS S f' H' W r D := by
  cases r with
  | nx ρ m => exact fun f2 H2 σ' a b c e => h f2 H2 σ' (hf.trans a) b (p.trans c) e
  | bk ρ m => exact fun f2 H2 σ' a b c e => h f2 H2 σ' (hf.trans a) b (p.trans c) e
  | ct ρ m => exact fun f2 H2 σ' a b c e => h f2 H2 σ' (hf.trans a) b (p.trans c) e
  | rt d m => exact fun f2 H2 v a b c e => h f2 H2 v (hf.trans a) b (p.trans c) e
  | exc x ρ m => exact fun f2 H2 σ' cls z a b c e g => h f2 H2 σ' cls z (hf.trans a) b (p.trans c) e g
  | bad => exact h
theorem tS_bind {e : E} {k : D → Mem → SR} {D : Ends} {Q : VK} (rm : RM S f H M) (re : RE S.K f H ρ σ) (h : PostS S f H W (thenS (evE w e ρ M) ρ k) D)
    (hk : ∀ f1 H1 d M1 v, f <+: f1 → RM S f1 H1 M1 → RE S.K f1 H1 ρ σ → Pres H H1 → RV S.K f1 H1 d v → PostS S f1 H1 W (k d M1) D → Q v H1) : tI S W w e σ H Q := by
  refine ⟨f, M, ρ, rm, re, ?_⟩
  cases q : evE w e ρ M with
  | ok d m =>
    rw [q] at h
    exact fun f1 H1 v a b c r => hk f1 H1 d m v a b (re.mono a c) c r (PostS.mono a c h)
  | exc x m =>
    rw [q] at h
    exact fun f1 H1 cls z a b c r => (show PostS S f H W (.exc x ρ m) D from h) f1 H1 σ cls z a b c (re.mono a c) r
  | bad =>
    rw [q] at h
    exact h
theorem tS_some {o : Option D} {k : D → Mem → SR} {D : Ends} (h : PostS S f H W (thenS (someR o M) ρ k) D) : ∃ d, o = some d ∧ PostS S f H W (k d M) D := by
  cases o with
  | none => exact h.elim
  | some d => exact ⟨d, rfl, h⟩
theorem tS_opt {o : Option Mem} {D : Ends} (h : PostS S f H W (optS o ρ) D) : ∃ m, o = some m ∧ PostS S f H W (.nx ρ m) D := by
  cases o with
  | none => exact h.elim
  | some d => exact ⟨d, rfl, h⟩
theorem tS_test {e : E} {k : Bool → Mem → SR} {D : Ends} {Q : Bool → Hp → Prop} (rm : RM S f H M) (re : RE S.K f H ρ σ) (h : PostS S f H W (match truthR w (evE w e ρ M) with
      | .ok b m => k b m
      | .exc x m => .exc x ρ m
      | .bad => .bad) D)
    (hk : ∀ f1 H1 b M1, f <+: f1 → RM S f1 H1 M1 → RE S.K f1 H1 ρ σ → Pres H H1 → PostS S f1 H1 W (k b M1) D → Q b H1) : tB S W w e σ H Q := by
  refine ⟨f, M, ρ, rm, re, ?_⟩
  cases q : truthR w (evE w e ρ M) with
  | ok d m =>
    rw [q] at h
    exact fun f1 H1 a b c => hk f1 H1 d m a b (re.mono a c) c (PostS.mono a c h)
  | exc x m =>
    rw [q] at h
    exact fun f1 H1 cls z a b c r => (show PostS S f H W (.exc x ρ m) D from h) f1 H1 σ cls z a b c (re.mono a c) r
  | bad =>
    rw [q] at h
    exact h
end
/-! ### several steps -/
section
variable {S : Sg} {T : Tab} {n : Nat} {W : WX} {hot : Bool} {X : Cx} {w : Wd}
theorem ps_imp {st : Stmt} {t t' : TS} (h : PS X st t) (hi : ∀ D σ H, t' D σ H → t D σ H) : PS X st t' := ⟨fun pins s σ H D I q => h.run pins s σ H D I (hi D σ H q)⟩
theorem pss_imp {st : List Stmt} {t t' : TS} (h : PSs X st t) (hi : ∀ D σ H, t' D σ H → t D σ H) : PSs X st t' := ⟨fun pins s σ H D I q => h.run pins s σ H D I (hi D σ H q)⟩
theorem ps_nev {st : Stmt} {t : TS} (h : ∀ D σ H, ¬ t D σ H) : PS X st t := ⟨fun _ _ σ H D _ q => (h D σ H q).elim⟩
theorem rd_ss0 : ∀ D σ H, tSs S W w T .nil D σ H → tNext D σ H := by
  rintro D σ H ⟨f, M, ρ, rm, re, h⟩
  exact (show PostS S f H W (.nx ρ M) D from h) f H σ (List.prefix_refl _) rm Pres.refl re
theorem rd_ss {s : Mp.S} {r : Ss} : ∀ D σ H, tSs S W w T (.cons s r) D σ H → tSeq (tSt S W w T s) (tSs S W w T r) D σ H := by
  rintro D σ H ⟨f, M, ρ, rm, re, h⟩
  refine ⟨f, M, ρ, rm, re, ?_⟩
  have h : PostS S f H W (seqS (evS w T.exf T.sub s ρ M) fun ρ m => evSs w T.exf T.sub r ρ m) D := h
  cases q : evS w T.exf T.sub s ρ M with
  | nx ρ' m =>
    rw [q] at h
    exact fun f1 H1 σ' a b c e => ⟨f1, m, ρ', b, e, PostS.mono a c h⟩
  | rt d m => rw [q] at h; exact h
  | bk ρ' m => rw [q] at h; exact h
  | ct ρ' m => rw [q] at h; exact h
  | exc x ρ' m => rw [q] at h; exact h
  | bad => rw [q] at h; exact h
theorem rd_set {t : Tg} {e : E} : ∀ D σ H, tSt S W w T (.set t e) D σ H → (w.hot && !oneT t) = false ∧ tAsg (tI S W w e) (gOf S.K t) D σ H := by
  rintro D σ H ⟨f, M, ρ, rm, re, h⟩
  have h : PostS S f H W (if w.hot && !oneT t then .bad else thenS (evE w e ρ M) ρ fun d m => (match setT t d ρ with
    | some ρ' => .nx ρ' m
    | none => .bad)) D := h
  cases hc : (w.hot && !oneT t) with
  | true => rw [hc] at h; exact h.elim
  | false =>
    rw [hc] at h
    simp only [Bool.false_eq_true, if_false] at h
    refine ⟨rfl, tS_bind rm re h fun f1 H1 d M1 v a1 rm1 re1 p1 r1 h1 => ?_⟩
    cases e2 : setT t d ρ with
    | none => rw [e2] at h1; exact h1.elim
    | some ρ' =>
      rw [e2] at h1
      exact gOf_ok re1 r1 e2 fun σ' re' _ => (show PostS S f1 H1 W (.nx ρ' M1) D from h1) f1 H1 σ' (List.prefix_refl _) rm1 Pres.refl re'
/-! ### fields -/
theorem RF.put {K : PySem.W.Frag} {f : List Addr} {H : Hp} {x : Str} {d : D} {v : V} (r : RV K f H d v) : ∀ {fs : List (Str × D)} {xs : List (Str × V)}, RF K f H fs xs → RF K f H (fput x d fs) (putF x v xs)
  | [], _, h => by cases h; exact ⟨v, [], rfl, r, rfl⟩
  | (y, e) :: q, _, h => by
    obtain ⟨u, z, rfl, h1, h2⟩ := h
    unfold fput putF
    by_cases c : x = y
    · subst c
      simp only [if_true]
      first
        | exact ⟨v, z, rfl, r, h2⟩
        | (simp; exact ⟨v, z, rfl, r, h2⟩)
    · rw [if_neg c]
      have c2 : (x == y) = false := beq_eq_false_iff_ne.mpr c
      first
        | (rw [c2]; exact ⟨u, _, rfl, h1, RF.put r h2⟩)
        | (simp only [c2, Bool.false_eq_true, if_false]; exact ⟨u, _, rfl, h1, RF.put r h2⟩)
        | (rw [if_neg c]; exact ⟨u, _, rfl, h1, RF.put r h2⟩)
        | (rw [if_neg (Ne.symm c)]; exact ⟨u, _, rfl, h1, RF.put r h2⟩)
theorem fput_names {x z : Str} {d : D} : ∀ {fs : List (Str × D)}, z ∈ (fput x d fs).map (·.1) → z = x ∨ z ∈ fs.map (·.1)
  | [], h => by
    simp [fput] at h
    exact .inl h
  | (y, e) :: q, h => by
    unfold fput at h
    by_cases c : x = y
    · rw [if_pos c] at h
      exact .inr h
    · rw [if_neg c] at h
      rcases List.mem_cons.mp h with h | h
      · exact .inr (List.mem_cons.mpr (.inl h))
      · rcases fput_names h with h | h
        · exact .inl h
        · exact .inr (List.mem_cons.mpr (.inr h))
end
end Mp

set_option Elab.async false
set_option linter.all false
set_option maxRecDepth 100000
set_option maxHeartbeats 4000000
/-! The small interpreter beside the layer: stores. -/
namespace Mp
open PySem PySem.Spec PyProof.Rows L2
section
variable {S : Sg} {T : Tab} {n : Nat} {W : WX} {hot : Bool} {X : Cx} {w : Wd}
theorem RF.length {K : PySem.W.Frag} {f : List Addr} {H : Hp} : ∀ {fs : List (Str × D)} {xs : List (Str × V)}, RF K f H fs xs → fs.length = xs.length
  | [], _, h => by cases h; rfl
  | (y, e) :: q, _, h => by
    obtain ⟨u, z, rfl, h1, h2⟩ := h
    rw [List.length_cons, List.length_cons, RF.length h2]
/-- a field is stored -/
theorem setF_ok (A : Adm S T n W hot X) {f : List Addr} {H : Hp} {M M' : Mem} {o d : D} {x v : V} {fld : Str} (rm : RM S f H M) (ro : RV S.K f H o x) (rd : RV S.K f H d v) (h : setF T.fld o fld d M = some M') :
    ∃ a C dx fs, x = .ref a ∧ H a = some (.ins C dx fs) ∧ Cls X.K C ∧ NoAttr X.K C fld ∧ fs.length < 1000 ∧ RM S f (upd H a (.ins C dx (putF fld v fs))) M' ∧ Pres H (upd H a (.ins C dx (putF fld v fs))) := by
  cases o with
  | ref i =>
    obtain ⟨a, ea, rfl⟩ := ro
    have h : (match M[i]? with
      | some (.ins c fs) => if fs.length < 900 && T.fld c fld then some (M.set i (.ins c (fput fld d fs))) else none
      | _ => none) = some M' := h
    cases e : M[i]? with
    | none => rw [e] at h; cases h
    | some ob =>
      rw [e] at h
      cases ob with
      | ins c fs =>
        have h : (if fs.length < 900 && T.fld c fld then some (M.set i (.ins c (fput fld d fs))) else none) = some M' := h
        split at h
        case isFalse => cases h
        case isTrue hc =>
        cases h
        rw [Bool.and_eq_true] at hc
        obtain ⟨a', ea', C, dx, xs, e1, q, rf, cl, na, ic⟩ := rm.at_ i _ e
        rw [ea] at ea'; cases ea'
        have nf : NoAttr S.K C fld := by rw [← A.K]; exact A.fld c C fld e1 hc.2
        have pp : Pres H (upd H a (.ins C dx (putF fld v xs))) := Pres.put q (fun _ z => by cases z) fun _ _ z => by cases z
        obtain ⟨rm2, p2⟩ := rm.put (u := .ins C dx (putF fld v xs)) (o' := .ins c (fput fld d fs)) e rfl ea rfl ⟨C, dx, _, e1, upd_same, RF.mono (List.prefix_refl _) pp _ _ (RF.put rd rf), cl, fun z hz => by
          rcases fput_names hz with rfl | hz
          · exact nf
          · exact na z hz, ic⟩
        refine ⟨a, C, dx, xs, rfl, q, by rw [A.K]; exact cl.cls, by rw [A.K]; exact nf, ?_, rm2, p2⟩
        have := of_decide_eq_true hc.1
        rw [← rf.length]
        omega
      | _ => cases h
  | _ => cases h
theorem rd_setF (A : Adm S T n W hot X) (hf : w.fld = T.fld) {o e : E} {x : Str} : ∀ D σ H, tSt S W w T (.setF o x e) D σ H → sFld X.K (tI S W w o) (tI S W w e) x D σ H := by
  rintro D σ H ⟨f, M, ρ, rm, re, h⟩
  have h : PostS S f H W (thenS (evE w e ρ M) ρ fun d m => thenS (evE w o ρ m) ρ fun y m => optS (setF w.fld y x d m) ρ) D := h
  refine tS_bind rm re h fun f1 H1 d M1 v a1 rm1 re1 p1 r1 h1 => ?_
  refine tS_bind rm1 re1 h1 fun f2 H2 e2 M2 u a2 rm2 re2 p2 r2 h2 => ?_
  obtain ⟨m, e3, h3⟩ := tS_opt h2
  rw [hf] at e3
  obtain ⟨a, C, dx, fs, q1, q2, q3, q4, q5, q6, q7⟩ := setF_ok A rm2 r2 (RV.mono a2 p2 _ _ r1) e3
  exact ⟨a, C, dx, fs, q1, q2, q3, q4, q5, (show PostS S f2 H2 W (.nx ρ m) D from h3) f2 _ σ (List.prefix_refl _) q6 q7 (re2.mono (List.prefix_refl _) q7)⟩
/-! ### o[i] = v -/
def rSetI (S : Sg) : V → V → V → Hp → (Hp → Prop) → Prop := fun o i v H Q => ∃ f M a b c M', RM S f H M ∧ RV S.K f H a o ∧ RV S.K f H b i ∧ RV S.K f H c v ∧ setI a b c M = some M' ∧ ∀ H', RM S f H' M' → Pres H H' → Q H'
theorem ixN_nat {n j : Nat} (h : j < n) : ixN n (j : Int) = some j := by
  unfold ixN
  first
    | (rw [if_pos (by omega)]; simp [h])
    | simp [h]
theorem set_any (hK : X.K = S.K) (hu : X.A.units + 100 < cLine) : PSet X (rSetI S) := by
  rintro pins s σ H o i v ov iv u Q I ro ri rv ⟨f, M, a, b, c, M', rm, ra, rb, rc, h, q⟩
  cases a with
  | ref r =>
    obtain ⟨p, ep, rfl⟩ := ra
    cases e : M[r]? with
    | none =>
      have h : (match (generalizing := false) M[r]?, b with
        | some (.lst ds), .int j => if 0 ≤ j ∧ j < ds.length then some (M.set r (.lst (ds.set j.toNat c))) else none
        | some (.dct kvs), k => (keyIn kvs k).bind fun q => if kvs.length < lim then some (M.set r (.dct (kvPut q k c kvs))) else none
        | _, _ => none) = some M' := h
      rw [e] at h
      cases h
    | some ob =>
      cases ob with
      | lst ds =>
        have h : (match (generalizing := false) M[r]?, b with
          | some (.lst ds), .int j => if 0 ≤ j ∧ j < ds.length then some (M.set r (.lst (ds.set j.toNat c))) else none
          | some (.dct kvs), k => (keyIn kvs k).bind fun q => if kvs.length < lim then some (M.set r (.dct (kvPut q k c kvs))) else none
          | _, _ => none) = some M' := h
        rw [e] at h
        cases b with
        | int j =>
          have h : (if 0 ≤ j ∧ j < ds.length then some (M.set r (.lst (ds.set j.toNat c))) else none) = some M' := h
          split at h
          case isFalse => cases h
          case isTrue hc =>
          cases h
          cases rb
          obtain ⟨p', ep', xs, hp, rs⟩ := rm.at_ _ _ e
          rw [ep] at ep'; cases ep'
          have pp : Pres H (upd H p (.lst (xs.set j.toNat v))) := Pres.put hp (fun _ z => by cases z) fun _ _ z => by cases z
          obtain ⟨rm2, p2⟩ := rm.put (u := .lst (xs.set j.toNat v)) (o' := .lst (ds.set j.toNat c)) e rfl ep rfl ⟨_, upd_same, RVs.mono (List.prefix_refl _) pp _ _ (RVs.set rc _ rs)⟩
          refine set_list pins s σ H _ _ v ov iv u Q I ro ri rv ⟨p, xs, j, j.toNat, rfl, rfl, hp, ?_, q _ rm2 p2⟩
          have hj : j = (j.toNat : Int) := by omega
          have hl := rs.length
          have := ixN_nat (n := xs.length) (j := j.toNat) (by omega)
          rw [← hj] at this
          exact this
        | _ => cases h
      | dct kvs =>
        have h : ((keyIn kvs b).bind fun q => if kvs.length < lim then some (M.set r (.dct (kvPut q b c kvs))) else none) = some M' := by
          have h : (match (generalizing := false) M[r]?, b with
            | some (.lst ds), .int j => if 0 ≤ j ∧ j < ds.length then some (M.set r (.lst (ds.set j.toNat c))) else none
            | some (.dct kvs), k => (keyIn kvs k).bind fun q => if kvs.length < lim then some (M.set r (.dct (kvPut q k c kvs))) else none
            | _, _ => none) = some M' := h
          rw [e] at h
          cases b <;> exact h
        cases e2 : keyIn kvs b with
        | none => rw [e2] at h; cases h
        | some k =>
          rw [e2] at h
          have h : (if kvs.length < lim then some (M.set r (.dct (kvPut k b c kvs))) else none) = some M' := h
          split at h
          case isFalse => cases h
          case isTrue hc =>
          cases h
          obtain ⟨p', ep', xs, hp, rs, nd⟩ := rm.at_ _ _ e
          rw [ep] at ep'; cases ep'
          obtain ⟨qk, rfl, eq⟩ := keyIn_ok rs e2 rb
          have pp := Pres.put (o := .dK (putK xs qk v)) hp (fun _ z => by cases z) fun _ _ z => by cases z
          obtain ⟨rm2, p2⟩ := rm.put (u := .dK (putK xs qk v)) (o' := .dct (kvPut k b c kvs)) e rfl ep rfl ⟨_, upd_same, RK.mono (List.prefix_refl _) pp _ _ (rs.put eq rb rc nd), nodup_putK nd⟩
          obtain rfl : ov = Value.ref p := ro
          refine d_setItem (by omega) I (a := p) (y := kV qk) (v := v) (H' := upd H p (.dK (putK xs qk v))) ?_ ri rv fun s4 I4 => ⟨_, I4, q _ rm2 p2⟩
          exact DPut.k hp (by rw [← rs.length]; exact Nat.lt_of_lt_of_le hc lim_line)
      | _ =>
        have h : (match (generalizing := false) M[r]?, b with
          | some (.lst ds), .int j => if 0 ≤ j ∧ j < ds.length then some (M.set r (.lst (ds.set j.toNat c))) else none
          | some (.dct kvs), k => (keyIn kvs k).bind fun q => if kvs.length < lim then some (M.set r (.dct (kvPut q k c kvs))) else none
          | _, _ => none) = some M' := h
        rw [e] at h
        cases b <;> cases h
  | _ => cases h
theorem rd_setI {o i e : E} : ∀ D σ H, tSt S W w T (.setI o i e) D σ H → tAsg (tI S W w e) (gSub (tI S W w o) (tI S W w i) (rSetI S)) D σ H := by
  rintro D σ H ⟨f, M, ρ, rm, re, h⟩
  have h : PostS S f H W (thenS (evE w e ρ M) ρ fun d m => thenS (evE w o ρ m) ρ fun x m => thenS (evE w i ρ m) ρ fun y m => optS (setI x y d m) ρ) D := h
  refine tS_bind rm re h fun f1 H1 d M1 v a1 rm1 re1 p1 r1 h1 => ?_
  refine tS_bind rm1 re1 h1 fun f2 H2 e2 M2 u a2 rm2 re2 p2 r2 h2 => ?_
  refine tS_bind rm2 re2 h2 fun f3 H3 e3 M3 z a3 rm3 re3 p3 r3 h3 => ?_
  obtain ⟨m, e4, h4⟩ := tS_opt h3
  exact ⟨f3, M3, _, _, _, m, rm3, RV.mono a3 p3 _ _ r2, r3, RV.mono (a2.trans a3) (p2.trans p3) _ _ r1, e4, fun H' rm4 p4 => (show PostS S f3 H3 W (.nx ρ m) D from h4) f3 H' σ (List.prefix_refl _) rm4 p4 (re3.mono (List.prefix_refl _) p4)⟩
/-! ### x op= y -/
def rAug (S : Sg) (op : Bop) : R2 := fun x y H Q => ∃ (W : XK) (f : List Addr) (M : Mem) (d e : D), RM S f H M ∧ RV S.K f H d x ∧ RV S.K f H e y ∧ PostE S f H W (augD op d e M) Q
theorem ip_any (hK : X.K = S.K) (op : Bop) : OpR X (inplaceOp (opOf op)) (rAug S op) := by
  rintro pins s σ H x y v u Q I rx ry ⟨W, f, M, d, e, rm, rd, re, h⟩
  cases d with
  | int i =>
    cases e with
    | int j =>
      have h : PostE S f H W (match (generalizing := false) op with
        | .add => .ok (.int (i + j)) M
        | .sub => .ok (.int (i - j)) M
        | .mul => if big i || big j then .ok (.int (i * j)) M else .bad
        | _ => .bad) Q := h
      cases rd
      cases re
      cases op with
      | add => exact iop_add pins s σ H _ _ v u Q I rx ry ⟨i, j, rfl, rfl, PostE.now h rm rfl⟩
      | sub => exact iop_sub pins s σ H _ _ v u Q I rx ry ⟨i, j, rfl, rfl, PostE.now h rm rfl⟩
      | mul =>
        have h : PostE S f H W (if big i || big j then .ok (.int (i * j)) M else .bad) Q := h
        by_cases hb : (big i || big j) = true
        · rw [if_pos hb] at h
          exact iop_mul pins s σ H _ _ v u Q I rx ry ⟨i, j, rfl, rfl, big_mul hb, PostE.now h rm rfl⟩
        · rw [if_neg hb] at h
          exact h.elim
      | _ => exact h.elim
    | _ => exact h.elim
  | str a =>
    cases e with
    | str b =>
      have h : PostE S f H W (match (generalizing := false) op with
        | .add => if a.length + b.length ≤ lim then .ok (.str (a ++ b)) M else .bad
        | _ => .bad) Q := h
      cases rd
      cases re
      cases op with
      | add =>
        have h : PostE S f H W (if a.length + b.length ≤ lim then .ok (.str (a ++ b)) M else .bad) Q := h
        by_cases hb : a.length + b.length ≤ lim
        · rw [if_pos hb] at h
          exact iop_add_str pins s σ H _ _ v u Q I rx ry ⟨a, b, rfl, rfl, Nat.le_trans hb lim_line, PostE.now h rm rfl⟩
        · rw [if_neg hb] at h
          exact h.elim
      | _ => exact h.elim
    | _ => exact h.elim
  | ref i =>
    cases e with
    | ref j =>
      have h : PostE S f H W (match (generalizing := false) op with
        | .add => (match (generalizing := false) M[i]?, M[j]? with
          | some (.lst xs), some (.lst ys) => if xs.length + ys.length ≤ lim then .ok (.ref i) (M.set i (.lst (xs ++ ys))) else .bad
          | _, _ => .bad)
        | _ => .bad) Q := h
      obtain ⟨a, ea, rfl⟩ := rd
      obtain ⟨b, eb, rfl⟩ := re
      cases op with
      | add =>
        have h : PostE S f H W (match (generalizing := false) M[i]?, M[j]? with
          | some (.lst xs), some (.lst ys) => if xs.length + ys.length ≤ lim then .ok (.ref i) (M.set i (.lst (xs ++ ys))) else .bad
          | _, _ => .bad) Q := h
        cases e1 : M[i]? with
        | none => rw [e1] at h; exact h.elim
        | some o1 =>
          cases e2 : M[j]? with
          | none => rw [e1, e2] at h; cases o1 <;> exact h.elim
          | some o2 =>
            rw [e1, e2] at h
            cases o1 with
            | lst xs =>
              cases o2 with
              | lst ys =>
                have h : PostE S f H W (if xs.length + ys.length ≤ lim then .ok (.ref i) (M.set i (.lst (xs ++ ys))) else .bad) Q := h
                by_cases hb : xs.length + ys.length ≤ lim
                · rw [if_pos hb] at h
                  obtain ⟨a', ea', us, hu, ru⟩ := rm.at_ _ _ e1
                  rw [ea] at ea'; cases ea'
                  obtain ⟨b', eb', vs, hv, rv⟩ := rm.at_ _ _ e2
                  rw [eb] at eb'; cases eb'
                  have pp : Pres H (upd H a (.lst (us ++ vs))) := Pres.put hu (fun _ z => by cases z) fun _ _ z => by cases z
                  obtain ⟨rm2, p2⟩ := rm.put (u := .lst (us ++ vs)) (o' := .lst (xs ++ ys)) e1 rfl ea rfl ⟨_, upd_same, RVs.mono (List.prefix_refl _) pp _ _ (ru.append rv)⟩
                  exact iop_ext pins s σ H _ _ v u Q I rx ry ⟨a, b, us, vs, rfl, rfl, hu, hv, by rw [← ru.length, ← rv.length]; exact Nat.le_trans hb lim_line, PostE.at_ h (List.prefix_refl _) rm2 p2 ⟨a, ea, rfl⟩⟩
                · rw [if_neg hb] at h
                  exact h.elim
              | _ => exact h.elim
            | _ => cases o2 <;> exact h.elim
      | _ => exact h.elim
    | _ => exact h.elim
  | _ => cases e <;> exact h.elim
theorem aug_bind {op : Bop} {x y : D} {f : List Addr} {H : Hp} {M : Mem} {ρ : Env} {σ : L2.St} {k : D → Mem → SR} {D : Ends} {Q : VK} {u v : V} (rm : RM S f H M) (re : RE S.K f H ρ σ) (rx : RV S.K f H x u) (ry : RV S.K f H y v) (h : PostS S f H W (thenS (augD op x y M) ρ k) D)
    (hk : ∀ f1 H1 d M1 v, f <+: f1 → RM S f1 H1 M1 → RE S.K f1 H1 ρ σ → Pres H H1 → RV S.K f1 H1 d v → PostS S f1 H1 W (k d M1) D → Q v H1) : rAug S op u v H Q := by
  refine ⟨WE W σ, f, M, x, y, rm, rx, ry, ?_⟩
  cases q : augD op x y M with
  | ok d m =>
    rw [q] at h
    exact fun f1 H1 v a b c r => hk f1 H1 d m v a b (re.mono a c) c r (PostS.mono a c h)
  | exc x m =>
    rw [q] at h
    exact fun f1 H1 cls z a b c r => (show PostS S f H W (.exc x ρ m) D from h) f1 H1 σ cls z a b c (re.mono a c) r
  | bad =>
    rw [q] at h
    exact h
theorem rd_aug {op : Bop} {i : Nat} {e : E} : ∀ D σ H, tSt S W w T (.aug op i e) D σ H → tAug i (tI S W w e) (rAug S op) D σ H := by
  rintro D σ H ⟨f, M, ρ, rm, re, h⟩
  have h : PostS S f H W (match ρ[i]? with
    | some (some x) => thenS (evE w e ρ M) ρ fun y m => thenS (augD op x y m) ρ fun z m => .nx (ρ.set i (some z)) m
    | _ => .bad) D := h
  cases q : ρ[i]? with
  | none => rw [q] at h; exact h.elim
  | some o =>
    rw [q] at h
    cases o with
    | none => exact h.elim
    | some x =>
      obtain ⟨v, ev, rv⟩ := re.2 i x q
      refine ⟨v, ev, tS_bind rm re h fun f1 H1 d M1 u a1 rm1 re1 p1 r1 h1 => ?_⟩
      refine aug_bind rm1 re1 (RV.mono a1 p1 _ _ rv) r1 h1 fun f2 H2 e2 M2 z a2 rm2 re2 p2 r2 h2 => ?_
      exact (show PostS S f2 H2 W (.nx (ρ.set i (some e2)) M2) D from h2) f2 H2 _ (List.prefix_refl _) rm2 Pres.refl (re2.set r2)
theorem rd_augF (A : Adm S T n W hot X) (hf : w.fld = T.fld) {op : Bop} {o e : E} {x : Str} (hx : hot = false) (hh : w.hot = false) : ∀ D σ H, tSt S W w T (.augF op o x e) D σ H → sFldAug X.K (tI S W w o) (tI S W w e) (rAug S op) x D σ H := by
  rintro D σ H ⟨f, M, ρ, rm, re, h⟩
  have h : PostS S f H W (if w.hot then .bad else thenS (evE w o ρ M) ρ fun y m1 => thenS (someR (attD y x m1) m1) ρ fun v m => thenS (evE w e ρ m) ρ fun z m => thenS (augD op v z m) ρ fun q m => if clsD y m = clsD y m1 then optS (setF w.fld y x q m) ρ else .bad) D := h
  rw [hh] at h
  simp only [Bool.false_eq_true, if_false] at h
  refine tS_bind rm re h fun f1 H1 d M1 v a1 rm1 re1 p1 r1 h1 => ?_
  obtain ⟨r, e1, h1⟩ := tS_some h1
  cases d with
  | ref i =>
    obtain ⟨b, eb, rfl⟩ := r1
    rw [attD_ref] at e1
    cases e0 : M1[i]? with
    | none => rw [e0] at e1; cases e1
    | some ob =>
      rw [e0] at e1
      cases ob with
      | ins c fs =>
        obtain ⟨C, dx, xs, v, q1, q2, q3, q4, q5⟩ := att_ok A.K rm1 eb e0 e1
        refine ⟨b, C, dx, xs, v, rfl, q1, q2, q3, q4, tS_bind rm1 re1 h1 fun f2 H2 d2 M2 u a2 rm2 re2 p2 r2 h2 => ?_⟩
        refine aug_bind rm2 re2 (RV.mono a2 p2 _ _ q5) r2 h2 fun f3 H3 d3 M3 z a3 rm3 re3 p3 r3 h3 => ?_
        have e5 : clsD (.ref i) M1 = some c := by
          show (match M1[i]? with
            | some (.ins c _) => some c
            | _ => none) = some c
          rw [e0]
        rw [e5] at h3
        by_cases hc : clsD (.ref i) M3 = some c
        · rw [if_pos hc] at h3
          obtain ⟨m, e4, h4⟩ := tS_opt h3
          rw [hf] at e4
          have rb : RV S.K f3 H3 (.ref i) (.ref b) := ⟨b, pre_get (a2.trans a3) eb, rfl⟩
          obtain ⟨a', C', dx', fs', z1, z2, z3, z4, z5, z6, z7⟩ := setF_ok A rm3 rb r3 e4
          cases z1
          have hc : (match M3[i]? with
            | some (.ins c _) => some c
            | _ => none) = some c := hc
          cases e6 : M3[i]? with
          | none => rw [e6] at hc; cases hc
          | some ob3 =>
            rw [e6] at hc
            cases ob3 with
            | ins c3 fs3 =>
              cases hc
              obtain ⟨b3, eb3, C3, dx3, xs3, w1, w2, _⟩ := rm3.at_ _ _ e6
              rw [pre_get (a2.trans a3) eb] at eb3
              cases eb3
              obtain ⟨b1, eb1, C1, dx1, xs1, u1, u2, _⟩ := rm1.at_ _ _ e0
              rw [eb] at eb1
              cases eb1
              rw [q1] at u2
              cases u2
              rw [u1] at w1
              cases w1
              rw [z2] at w2
              cases w2
              exact ⟨_, _, z2, z5, (show PostS S f3 H3 W (.nx ρ m) D from h4) f3 _ σ (List.prefix_refl _) z6 z7 (re3.mono (List.prefix_refl _) z7)⟩
            | _ => cases hc
        · rw [if_neg hc] at h3
          exact h3.elim
      | exo c fs =>
        obtain ⟨d, ns, xs, v, q1, _⟩ := exo_ok rm1 eb e0 e1
        rw [A.cold hx] at q1
        cases q1
      | _ => cases e1
  | _ => cases e1
/-- xs[k] of a list, k no less than 0 -/
def rGetL (S : Sg) : V → V → Hp → VK → Prop := fun o i H Q => ∃ f M a b d, RM S f H M ∧ RV S.K f H a o ∧ RV S.K f H b i ∧ getD a b M = some d ∧ ∀ v, RV S.K f H d v → Q v H
theorem get_any (hK : X.K = S.K) : PGet X (rGetL S) := by
  rintro pins s σ H o i ov iv Q I ro ri ⟨f, M, a, b, d, rm, ra, rb, h, q⟩
  cases a with
  | ref r =>
    cases b with
    | int j =>
      obtain ⟨p, ep, rfl⟩ := ra
      cases rb
      have h : (match M[r]? with
        | some (.lst ds) => if 0 ≤ j then ds[j.toNat]? else none
        | _ => none) = some d := h
      cases e : M[r]? with
      | none => rw [e] at h; cases h
      | some ob =>
        rw [e] at h
        cases ob with
        | lst ds =>
          have h : (if 0 ≤ j then ds[j.toNat]? else none) = some d := h
          split at h
          case isFalse => cases h
          case isTrue hc =>
          obtain ⟨p', ep', xs, hp, rs⟩ := rm.at_ _ _ e
          rw [ep] at ep'; cases ep'
          obtain ⟨x, hx, rx⟩ := rs.get h
          cases ro
          obtain ⟨t, rfl⟩ := ri
          obtain ⟨its, rv, pl, hz⟩ := I.list (SqL.of hp)
          obtain ⟨u, hu, ru⟩ := rv.get hx
          have hl := (List.getElem?_eq_some_iff.mp hx).1
          have hn := line63
          exact wpAny_getItem_list pl.isList hc (by omega) (by simpa using hu) ⟨x, H, I, ru, q x rx⟩
        | _ => cases h
    | _ => cases h
  | _ => cases b <;> cases h
theorem rd_augI {op : Bop} {o i e : E} : ∀ D σ H, tSt S W w T (.augI op o i e) D σ H → tAugS (tI S W w o) (tI S W w i) (tI S W w e) (rGetL S) (rAug S op) (rSetI S) D σ H := by
  rintro D σ H ⟨f, M, ρ, rm, re, h⟩
  have h : PostS S f H W (thenS (evE w o ρ M) ρ fun x m => thenS (evE w i ρ m) ρ fun k m => thenS (someR (getD x k m) m) ρ fun v m => thenS (evE w e ρ m) ρ fun y m => thenS (augD op v y m) ρ fun z m => optS (setI x k z m) ρ) D := h
  refine tS_bind rm re h fun f1 H1 d1 M1 v1 a1 rm1 re1 p1 r1 h1 => ?_
  refine tS_bind rm1 re1 h1 fun f2 H2 d2 M2 v2 a2 rm2 re2 p2 r2 h2 => ?_
  obtain ⟨r, e3, h3⟩ := tS_some h2
  refine ⟨f2, M2, d1, d2, r, rm2, RV.mono a2 p2 _ _ r1, r2, e3, fun v3 r3 => ?_⟩
  refine tS_bind rm2 re2 h3 fun f4 H4 d4 M4 v4 a4 rm4 re4 p4 r4 h4 => ?_
  refine aug_bind rm4 re4 (RV.mono a4 p4 _ _ r3) r4 h4 fun f5 H5 d5 M5 v5 a5 rm5 re5 p5 r5 h5 => ?_
  obtain ⟨m, e6, h6⟩ := tS_opt h5
  exact ⟨f5, M5, _, _, _, m, rm5, RV.mono (a2.trans (a4.trans a5)) (p2.trans (p4.trans p5)) _ _ r1, RV.mono (a4.trans a5) (p4.trans p5) _ _ r2, r5, e6, fun H' rm6 p6 => (show PostS S f5 H5 W (.nx ρ m) D from h6) f5 H' σ (List.prefix_refl _) rm6 p6 (re5.mono (List.prefix_refl _) p6)⟩
/-! ### small ones -/
theorem rd_expr {e : E} : ∀ D σ H, tSt S W w T (.expr e) D σ H → tDrop (tI S W w e) D σ H := by
  rintro D σ H ⟨f, M, ρ, rm, re, h⟩
  have h : PostS S f H W (thenS (evE w e ρ M) ρ fun _ m => .nx ρ m) D := h
  exact tS_bind rm re h fun f1 H1 d M1 v a1 rm1 re1 p1 r1 h1 => (show PostS S f1 H1 W (.nx ρ M1) D from h1) f1 H1 σ (List.prefix_refl _) rm1 Pres.refl re1
theorem rd_ret {e : E} : ∀ D σ H, tSt S W w T (.ret e) D σ H → tRet (tI S W w e) D σ H := by
  rintro D σ H ⟨f, M, ρ, rm, re, h⟩
  have h : PostS S f H W (thenS (evE w e ρ M) ρ fun d m => .rt d m) D := h
  exact tS_bind rm re h fun f1 H1 d M1 v a1 rm1 re1 p1 r1 h1 => (show PostS S f1 H1 W (.rt d M1) D from h1) f1 H1 v (List.prefix_refl _) rm1 Pres.refl r1
theorem rd_retN : ∀ D σ H, tSt S W w T .retN D σ H → tRetN D σ H := by
  rintro D σ H ⟨f, M, ρ, rm, re, h⟩
  exact (show PostS S f H W (.rt .non M) D from h) f H _ (List.prefix_refl _) rm Pres.refl rfl
theorem rd_pass : ∀ D σ H, tSt S W w T .pass D σ H → tNext D σ H := by
  rintro D σ H ⟨f, M, ρ, rm, re, h⟩
  exact (show PostS S f H W (.nx ρ M) D from h) f H _ (List.prefix_refl _) rm Pres.refl re
theorem rd_brk : ∀ D σ H, tSt S W w T .brk D σ H → tBreak D σ H := by
  rintro D σ H ⟨f, M, ρ, rm, re, h⟩
  exact (show PostS S f H W (.bk ρ M) D from h) f H _ (List.prefix_refl _) rm Pres.refl re
theorem rd_cont : ∀ D σ H, tSt S W w T .cont D σ H → tCont D σ H := by
  rintro D σ H ⟨f, M, ρ, rm, re, h⟩
  exact (show PostS S f H W (.ct ρ M) D from h) f H _ (List.prefix_refl _) rm Pres.refl re
theorem rd_ifs {c : E} {a b : Mp.Ss} : ∀ D σ H, tSt S W w T (.ifs c a b) D σ H → tIfS (tB S W w c) (tSs S W w T a) (tSs S W w T b) D σ H := by
  rintro D σ H ⟨f, M, ρ, rm, re, h⟩
  have h : PostS S f H W (match truthR w (evE w c ρ M) with
    | .ok k m => (if k then evSs w T.exf T.sub a ρ m else evSs w T.exf T.sub b ρ m)
    | .exc x m => .exc x ρ m
    | .bad => .bad) D := by
    have h : PostS S f H W (match truthR w (evE w c ρ M) with
      | .ok true m => evSs w T.exf T.sub a ρ m
      | .ok false m => evSs w T.exf T.sub b ρ m
      | .exc x m => .exc x ρ m
      | .bad => .bad) D := h
    cases q : truthR w (evE w c ρ M) with
    | ok k m => rw [q] at h; cases k <;> exact h
    | exc x m => rw [q] at h; exact h
    | bad => rw [q] at h; exact h
  refine tS_test rm re h fun f1 H1 k M1 a1 rm1 re1 p1 h1 => ?_
  cases k with
  | true => exact ⟨f1, M1, ρ, rm1, re1, h1⟩
  | false => exact ⟨f1, M1, ρ, rm1, re1, h1⟩
theorem rd_whl {c : E} {b : Mp.Ss} : ∀ D σ H, tSt S W w T (.whl c b) D σ H → w.hot = false ∧ tWhile (tB S W w c) (tSs S W w T b) D σ H := by
  rintro D σ H ⟨f, M, ρ, rm, re, h⟩
  have h : PostS S f H W (if w.hot then .bad else loopW (fun ρ m => truthR w (evE w c ρ m)) (fun ρ m => evSs w T.exf T.sub b ρ m) w.turns ρ M) D := h
  cases hh : w.hot with
  | true => rw [hh] at h; exact h.elim
  | false =>
    rw [hh] at h
    simp only [Bool.false_eq_true, if_false] at h
    refine ⟨rfl, fun m σ H => ∃ f M ρ, RM S f H M ∧ RE S.K f H ρ σ ∧ PostS S f H W (loopW (fun ρ m => truthR w (evE w c ρ m)) (fun ρ m => evSs w T.exf T.sub b ρ m) m ρ M) D, ⟨w.turns, f, M, ρ, rm, re, h⟩, ?_⟩
    rintro m σ H ⟨f, M, ρ, rm, re, h⟩
    cases m with
    | zero => exact (show False from h).elim
    | succ m =>
      have h : PostS S f H W (match truthR w (evE w c ρ M) with
        | .ok k m1 => (if k then (match evSs w T.exf T.sub b ρ m1 with
            | .nx ρ' m' => loopW (fun ρ m => truthR w (evE w c ρ m)) (fun ρ m => evSs w T.exf T.sub b ρ m) m ρ' m'
            | .ct ρ' m' => loopW (fun ρ m => truthR w (evE w c ρ m)) (fun ρ m => evSs w T.exf T.sub b ρ m) m ρ' m'
            | .bk ρ' m' => .nx ρ' m'
            | o => o) else .nx ρ m1)
        | .exc x m1 => .exc x ρ m1
        | .bad => .bad) D := by
        have h : PostS S f H W (match truthR w (evE w c ρ M) with
          | .ok true m1 => (match evSs w T.exf T.sub b ρ m1 with
            | .nx ρ' m' => loopW (fun ρ m => truthR w (evE w c ρ m)) (fun ρ m => evSs w T.exf T.sub b ρ m) m ρ' m'
            | .ct ρ' m' => loopW (fun ρ m => truthR w (evE w c ρ m)) (fun ρ m => evSs w T.exf T.sub b ρ m) m ρ' m'
            | .bk ρ' m' => .nx ρ' m'
            | o => o)
          | .ok false m1 => .nx ρ m1
          | .exc x m1 => .exc x ρ m1
          | .bad => .bad) D := h
        cases q : truthR w (evE w c ρ M) with
        | ok k m => rw [q] at h; cases k <;> exact h
        | exc x m => rw [q] at h; exact h
        | bad => rw [q] at h; exact h
      refine tS_test rm re h fun f1 H1 k M1 a1 rm1 re1 p1 h1 => ?_
      cases k with
      | false => exact (show PostS S f1 H1 W (.nx ρ M1) D from h1) f1 H1 σ (List.prefix_refl _) rm1 Pres.refl re1
      | true =>
        rw [if_pos rfl]
        refine ⟨fun σ' H' => ∃ f M ρ, RM S f H' M ∧ RE S.K f H' ρ σ' ∧ PostS S f H' W (loopW (fun ρ m => truthR w (evE w c ρ m)) (fun ρ m => evSs w T.exf T.sub b ρ m) m ρ M) D, fun σ' H' hn => ⟨m, Nat.lt_succ_self m, hn⟩, f1, M1, ρ, rm1, re1, ?_⟩
        rw [if_pos rfl] at h1
        cases q : evSs w T.exf T.sub b ρ M1 with
        | nx ρ' m' =>
          rw [q] at h1
          exact fun f2 H2 σ2 b1 b2 b3 b4 => ⟨f2, m', ρ', b2, b4, PostS.mono b1 b3 h1⟩
        | ct ρ' m' =>
          rw [q] at h1
          exact fun f2 H2 σ2 b1 b2 b3 b4 => ⟨f2, m', ρ', b2, b4, PostS.mono b1 b3 h1⟩
        | bk ρ' m' => rw [q] at h1; exact h1
        | rt d m' => rw [q] at h1; exact h1
        | exc x ρ' m' => rw [q] at h1; exact h1
        | bad => rw [q] at h1; exact h1
theorem tS_iter {it : Ie} {k : List D × Src → Mem → SR} {D : Ends} {f : List Addr} {H : Hp} {M : Mem} {ρ : Env} {σ : L2.St} {Q : It → Hp → Prop} (rm : RM S f H M) (re : RE S.K f H ρ σ) (h : PostS S f H W (match evI w it ρ M with
      | .ok b m => k b m
      | .exc x m => .exc x ρ m
      | .bad => .bad) D)
    (hk : ∀ f1 H1 p M1 J, f <+: f1 → RM S f1 H1 M1 → RE S.K f1 H1 ρ σ → Pres H H1 → ItOk S f1 H1 J p.2 p.1 → PostS S f1 H1 W (k p M1) D → Q J H1) : tIe S W w it σ H Q := by
  refine ⟨f, M, ρ, rm, re, ?_⟩
  cases q : evI w it ρ M with
  | ok d m =>
    rw [q] at h
    exact fun f1 H1 J a b c i => hk f1 H1 d m J a b (re.mono a c) c i (PostS.mono a c h)
  | exc x m =>
    rw [q] at h
    exact fun f1 H1 cls z a b c r => (show PostS S f H W (.exc x ρ m) D from h) f1 H1 σ cls z a b c (re.mono a c) r
  | bad =>
    rw [q] at h
    exact h
theorem rd_for {t : Tg} {it : Ie} {b : Mp.Ss} : ∀ D σ H, tSt S W w T (.for_ t it b) D σ H → w.hot = false ∧ tFor (tIe S W w it) (gOf S.K t) (tSs S W w T b) D σ H := by
  rintro D σ H ⟨f, M, ρ, rm, re, h⟩
  have h : PostS S f H W (if w.hot then .bad else (match evI w it ρ M with
    | .ok p m => loopS p.2 (fun d ρ m => match setT t d ρ with
      | some ρ' => evSs w T.exf T.sub b ρ' m
      | none => .bad) p.1 ρ m
    | .exc x m => .exc x ρ m
    | .bad => .bad)) D := h
  cases hh : w.hot with
  | true => rw [hh] at h; exact h.elim
  | false =>
    rw [hh] at h
    simp only [Bool.false_eq_true, if_false] at h
    refine ⟨rfl, tS_iter rm re h fun f0 H0 p M0 J a0 rm0 re0 p0 hit h0 => ?_⟩
    refine ⟨fun i m σ H => m = p.1.length - i ∧ i ≤ p.1.length ∧ ∃ f M ρ, f0 <+: f ∧ Pres H0 H ∧ RM S f H M ∧ RE S.K f H ρ σ ∧ PostS S f H W (loopS p.2 (fun d ρ m => match setT t d ρ with
      | some ρ' => evSs w T.exf T.sub b ρ' m
      | none => .bad) (p.1.drop i) ρ M) D, ⟨p.1.length, rfl, Nat.zero_le _, f0, M0, ρ, List.prefix_refl _, Pres.refl, rm0, re0, h0⟩, ?_⟩
    rintro i m σ H ⟨rfl, hi, f, M, ρ, hf, hp, rm, re, h⟩
    by_cases hlt : i < p.1.length
    · have hd : p.1[i]? = some p.1[i] := List.getElem?_eq_getElem hlt
      rw [List.drop_eq_getElem_cons hlt] at h
      have h : PostS S f H W (if still M p.2 then (match (match setT t p.1[i] ρ with
          | some ρ' => evSs w T.exf T.sub b ρ' M
          | none => .bad) with
        | .nx ρ' m' => loopS p.2 (fun d ρ m => match setT t d ρ with
            | some ρ' => evSs w T.exf T.sub b ρ' m
            | none => .bad) (p.1.drop (i + 1)) ρ' m'
        | .ct ρ' m' => loopS p.2 (fun d ρ m => match setT t d ρ with
            | some ρ' => evSs w T.exf T.sub b ρ' m
            | none => .bad) (p.1.drop (i + 1)) ρ' m'
        | .bk ρ' m' => .nx ρ' m'
        | o => o) else .bad) D := h
      cases hs : still M p.2 with
      | false => rw [hs] at h; exact h.elim
      | true =>
        rw [hs, if_pos rfl] at h
        obtain ⟨go, yl⟩ := (hit f H M i hf hp rm hs).1 _ hd
        refine .inr ⟨go, fun σ' H' => ∃ f' M' ρ', f0 <+: f' ∧ Pres H0 H' ∧ RM S f' H' M' ∧ RE S.K f' H' ρ' σ' ∧ PostS S f' H' W (loopS p.2 (fun d ρ m => match setT t d ρ with
          | some ρ' => evSs w T.exf T.sub b ρ' m
          | none => .bad) (p.1.drop (i + 1)) ρ' M') D, fun σ' H' hn => ⟨p.1.length - (i + 1), by omega, rfl, hlt, hn⟩, fun x H' y => ?_⟩
        obtain ⟨p1, rm1, rv⟩ := yl x H' y
        have re1 := re.mono (List.prefix_refl f) p1
        cases e : setT t p.1[i] ρ with
        | none => rw [e] at h; exact h.elim
        | some ρ1 =>
          rw [e] at h
          refine gOf_ok re1 rv e fun σ1 re2 _ => ?_
          refine ⟨f, M, ρ1, rm1, re2, ?_⟩
          have h := PostS.mono (List.prefix_refl f) p1 h
          cases q : evSs w T.exf T.sub b ρ1 M with
          | nx ρ' m' =>
            simp only [q] at h
            exact fun f2 H2 σ2 b1 b2 b3 b4 => ⟨f2, m', ρ', hf.trans b1, (hp.trans p1).trans b3, b2, b4, PostS.mono b1 b3 h⟩
          | ct ρ' m' =>
            simp only [q] at h
            exact fun f2 H2 σ2 b1 b2 b3 b4 => ⟨f2, m', ρ', hf.trans b1, (hp.trans p1).trans b3, b2, b4, PostS.mono b1 b3 h⟩
          | bk ρ' m' => simp only [q] at h; exact h
          | rt d m' => simp only [q] at h; exact h
          | exc x ρ' m' => simp only [q] at h; exact h
          | bad => simp only [q] at h; exact h
    · have e : i = p.1.length := by omega
      subst e
      rw [List.drop_length] at h
      have h : PostS S f H W (if still M p.2 then .nx ρ M else .bad) D := h
      cases hs : still M p.2 with
      | false => rw [hs] at h; exact h.elim
      | true =>
        rw [hs, if_pos rfl] at h
        exact .inl ⟨(hit f H M _ hf hp rm hs).2 rfl, h f H σ (List.prefix_refl _) rm Pres.refl re⟩
end
end Mp

set_option Elab.async false
set_option linter.all false
set_option maxRecDepth 100000
set_option maxHeartbeats 4000000
/-! The small interpreter beside the layer: statements' texts. -/
namespace Mp
open PySem PySem.Spec PyProof.Rows L2
def notComp : Expr → Bool
  | .ListComp .. => false
  | .SetComp .. => false
  | .DictComp .. => false
  | _ => true
def swOk (sc scope : Scope) (y : Str) (py p : Pos) : Bool := decide (sc.names.lookup y = some .local) && (py.line == p.line) && !(scope.names.any fun (n, k) => n == y && (k == .local || k == .cell))
/-- how (a, b) = (x, y) is stored -/
def swRes (sc : Scope) (ts vs : List Expr) : Option (Option (List Str)) :=
  if !(ts.length == 2 || ts.length == 3) || vs.length != ts.length then some none else
  if vs.any fun | .Starred .. => true | _ => false then some none else
  let line := (ts.head?.map (·.pos.line)).getD 0
  let names := ts.filterMap fun
    | .Name id pos => if sc.names.lookup id == some .local && pos.line == line then some id else none
    | _ => none
  if names.length != ts.length || names.eraseDups.length != names.length then some none else
  if vs.all (foldedForSure 8) then some none else
  if vs.all (constantsAlone 8) then none else some (some names)
theorem swRes_ok {env : PySem.Env} {ts vs : List Expr} {k k2 : Nat} {p p2 : Pos} {r : Option (List Str)} (hk : env.scope.kind = .function) (h : swRes env.scope ts vs = some r) : swappedStores [.Tuple ts k p] (.Tuple vs k2 p2) env = pure r := by
  have hb : env.blockKind = .function := by unfold Env.blockKind; rw [hk]; rfl
  unfold swRes at h
  unfold swappedStores
  simp only [hb, Env.kindOf, bne_self_eq_false, Bool.or_false] at h ⊢
  split at h
  · rename_i c
    cases h
    rw [if_pos c]
  · rename_i c
    rw [if_neg c]
    split at h
    · rename_i c2
      cases h
      refine Eq.trans (if_pos ?_) rfl
      exact c2
    · rename_i c2
      refine Eq.trans (if_neg ?_) ?_
      · exact c2
      split at h
      · rename_i c3
        cases h
        refine Eq.trans (if_pos ?_) rfl
        exact c3
      · rename_i c3
        refine Eq.trans (if_neg ?_) ?_
        · exact c3
        split at h
        · rename_i c4
          cases h
          refine Eq.trans (if_pos ?_) rfl
          exact c4
        · rename_i c4
          refine Eq.trans (if_neg ?_) ?_
          · exact c4
          split at h
          · cases h
          · rename_i c5
            cases h
            refine Eq.trans (if_neg ?_) rfl
            exact c5
def tgLen : Tg → Nat
  | .nm _ => 0
  | .tu ts => ts.length
def nameX : Expr → Bool
  | .Name _ _ => true
  | _ => false
def setCompC (N : List Str) (sc : Scope) (t : Tg) (e : E) (x v : Expr) : Bool := match t, e, x, v with
  | .nm i, .lc elt gs, .Name y py, .ListComp x gens scope p => tgC N sc i (.Name y py) && swOk sc scope y py p && chkE N (.lc elt gs) sc (.ListComp x gens scope p)
  | .nm i, .dc a b gs, .Name y py, .DictComp x x' gens scope p => tgC N sc i (.Name y py) && swOk sc scope y py p && chkE N (.dc a b gs) sc (.DictComp x x' gens scope p)
  | _, _, _, _ => false
def setTup0 (N : List Str) (sc : Scope) (t : Tg) (e : E) (x v : Expr) : Bool := match x, v with
  | .Tuple xs k p, .Tuple vs k2 p2 => tgtC N sc t (.Tuple xs k p) && chkE N e sc (.Tuple vs k2 p2) && (match swRes sc xs vs with
    | some none => true
    | _ => false)
  | _, _ => false
def setTup2 (N : List Str) (sc : Scope) (t : Tg) (e : E) (x v : Expr) : Bool := match t, e, x, v with
  | .tu [.nm i, .nm j], .tup (.cons false a (.cons false b .nil)), .Tuple [.Name x px, .Name y py] k p, .Tuple [v1, v2] k2 p2 => tgC N sc i (.Name x px) && tgC N sc j (.Name y py) && chkEs N (.cons false a (.cons false b .nil)) sc [v1, v2] && decide (i ≠ j) &&
      decide (sc.names.lookup x = some .local) && decide (sc.names.lookup y = some .local) && decide (swRes sc [.Name x px, .Name y py] [v1, v2] = some (some [x, y]))
  | _, _, _, _ => false
def setTup3 (N : List Str) (sc : Scope) (t : Tg) (e : E) (x v : Expr) : Bool := match t, e, x, v with
  | .tu [.nm i, .nm j, .nm l], .tup (.cons false a (.cons false b (.cons false c .nil))), .Tuple [.Name x px, .Name y py, .Name z pz] k p, .Tuple [v1, v2, v3] k2 p2 => tgC N sc i (.Name x px) && tgC N sc j (.Name y py) && tgC N sc l (.Name z pz) &&
      chkEs N (.cons false a (.cons false b (.cons false c .nil))) sc [v1, v2, v3] && decide (i ≠ j) && decide (i ≠ l) && decide (j ≠ l) &&
      decide (sc.names.lookup x = some .local) && decide (sc.names.lookup y = some .local) && decide (sc.names.lookup z = some .local) && decide (swRes sc [.Name x px, .Name y py, .Name z pz] [v1, v2, v3] = some (some [x, y, z]))
  | _, _, _, _ => false
def setC (N : List Str) (sc : Scope) (t : Tg) (e : E) (x v : Expr) : Bool :=
  (notComp v && (!isTupX v || nameX x) && tgtC N sc t x && chkE N e sc v) || setCompC N sc t e x v || setTup0 N sc t e x v || setTup2 N sc t e x v || setTup3 N sc t e x v
def raiseX : Stmt → Option (Str × Expr)
  | .Raise (some (.Call (.Name x _) [y] [] _)) none _ => some (x, y)
  | _ => none
def tryX : Stmt → Option (List Stmt × Str × Option Str × List Stmt)
  | .Try ys [.ExceptHandler (some (.Name x _)) n (z :: zs) _] [] [] _ => some (ys, x, n, z :: zs)
  | _ => none
theorem raiseX_eq {st : Stmt} {x : Str} {y : Expr} (h : raiseX st = some (x, y)) : ∃ p1 p2 p, st = .Raise (some (.Call (.Name x p1) [y] [] p2)) none p := by
  unfold raiseX at h
  split at h
  · cases h
    exact ⟨_, _, _, rfl⟩
  · cases h
theorem tryX_eq {st : Stmt} {x : Str} {n : Option Str} {ys zs : List Stmt} (h : tryX st = some (ys, x, n, zs)) : ∃ z r p1 p2 p, zs = z :: r ∧ st = .Try ys [.ExceptHandler (some (.Name x p1)) n (z :: r) p2] [] [] p := by
  unfold tryX at h
  split at h
  · cases h
    exact ⟨_, _, _, _, _, rfl, rfl⟩
  · cases h
def nmC (N : List Str) (sc : Scope) : Option Nat → Option Str → Bool
  | none, none => true
  | some i, some n => decide (N[i]? = some n) && decide (sc.names.lookup n = some .local)
  | _, _ => false
mutual
def chkS (ek : Str → Option Unit) (N : List Str) : Mp.S → Scope → Stmt → Bool
  | .set t e, sc, .Assign [x] v _ => setC N sc t e x v
  | .setF o f e, sc, .Assign [.Attribute x g _] v _ => notComp v && decide (f = g) && chkE N o sc x && chkE N e sc v
  | .setI o i e, sc, .Assign [.Subscript x y _] v _ => notComp v && plainX y && chkE N o sc x && chkE N i sc y && chkE N e sc v
  | .aug op i e, sc, .AugAssign x o v _ => bopC op o && tgC N sc i x && chkE N e sc v
  | .augF op e1 f e, sc, .AugAssign (.Attribute x g _) o v _ => bopC op o && decide (f = g) && chkE N e1 sc x && chkE N e sc v
  | .augI op e1 i e, sc, .AugAssign (.Subscript x y _) o v _ => bopC op o && plainX y && chkE N e1 sc x && chkE N i sc y && chkE N e sc v
  | .expr e, sc, .Expr x _ => notComp x && chkE N e sc x
  | .ret e, sc, .Return (some x) _ => chkE N e sc x
  | .retN, _, .Return none _ => true
  | .ifs c a b, sc, .If x ys zs _ => testOk c && chkE N c sc x && chkSs ek N a sc ys && chkSs ek N b sc zs
  | .whl c b, sc, .While x ys [] _ => testOk c && chkE N c sc x && chkSs ek N b sc ys
  | .for_ t it b, sc, .For tg iter ys [] _ => (!iTup it || isTupX tg) && plainX iter && tgtC N sc t tg && chkI N it sc iter && chkSs ek N b sc ys
  | .raise c e, sc, st => (match raiseX st with
    | some (x, y) => decide (c = x) && gl sc x && plainN x && plainX y && chkE N e sc y
    | none => false)
  | .try_ b (.cons [c] nm s .nil), sc, st => (match tryX st with
    | some (ys, x, n, zs) => decide (c = x) && gl sc x && plainN x && (ek c).isSome && nmC N sc nm n && chkSs ek N b sc ys && chkSs ek N s sc zs
    | none => false)
  | .pass, _, .Pass _ => true
  | .brk, _, .Break _ => true
  | .cont, _, .Continue _ => true
  | _, _, _ => false
def chkSs (ek : Str → Option Unit) (N : List Str) : Mp.Ss → Scope → List Stmt → Bool
  | .nil, _, [] => true
  | .cons s r, sc, x :: xs => chkS ek N s sc x && chkSs ek N r sc xs
  | _, _, _ => false
end
end Mp

set_option Elab.async false
set_option linter.all false
set_option maxRecDepth 100000
set_option maxHeartbeats 4000000
/-! The small interpreter beside the layer: statements, one by one. -/
namespace Mp
open PySem PySem.Spec PyProof.Rows L2
structure AdS (S : Sg) (T : Tab) (n : Nat) (W : WX) (hot : Bool) (X : Cx) (N : List Str) : Prop where
  adm : Adm S T n W hot X
  hN : X.N = N
  fn : TgOk X X.env.scope
  kind : X.env.scope.kind = .function
  own : hot = false → PassesOwn (model X.prog X.w) X.A X.env X.xe
  stk : hot = false → X.stack = X.env :: X.outer ∧ X.env.frame = some X.env.locals
section
variable {S : Sg} {T : Tab} {n : Nat} {N : List Str} {W : WX} {hot : Bool} {X : Cx}
theorem sw_none {v : Expr} (h : notComp v = true) (t : Option Expr) (l : Nat) (env : PySem.Env) : swapsWith v t l env = pure false := by
  cases v <;> first | rfl | cases h
theorem sw_sole {v t : Expr} (h : notComp v = true) (l : Nat) (env : PySem.Env) : swapsWithSole [t] v l env = pure false := sw_none h (some t) l env
theorem sw_stores {v t : Expr} (h : (!isTupX v || nameX t) = true) (env : PySem.Env) : swappedStores [t] v env = pure none := by
  cases t with
  | Name _ _ => rfl
  | Tuple _ _ _ => cases v <;> first | rfl | cases h
  | List _ _ => cases v <;> first | rfl | cases h
  | _ => rfl
theorem sole_asg (t : Expr) (env : PySem.Env) (h : ∀ e p, t ≠ .Starred e p) : (assignEach [t] env).map (·.2) = [assign t env] := by
  cases t <;> first | rfl | exact (h _ _ rfl).elim
theorem tgt_shape {sc : Scope} {t : Tg} {x : Expr} (h : tgtC N sc t x = true) : (∃ y p, x = .Name y p) ∨ ∃ es k p, x = .Tuple es k p := by
  unfold tgtC at h
  split at h
  · rename_i i
    unfold tgC at h
    split at h
    · exact .inl ⟨_, _, rfl⟩
    · cases h
  all_goals first | exact .inr ⟨_, _, _, rfl⟩ | cases h
/-- a store by the interpreter's target -/
theorem pg_any (A : AdS S T n W hot X N) {t : Tg} {x : Expr} (hh : (hot && !oneT t) = false) (h : tgtC N X.env.scope t x = true) : PG X x (gOf S.K t) := by
  have h : tgtC X.N X.env.scope t x = true := by rw [A.hN]; exact h
  cases hot with
  | false => exact good_tg A.adm.K A.adm.nd A.fn (A.adm.calm rfl) h
  | true =>
    cases t with
    | nm i => exact (pg_one A.adm.nd A.fn h).1
    | tu _ => cases hh
theorem s_set (A : AdS S T n W hot X N) {t : Tg} {e : E} {x v : Expr} {p : Pos} (hv : notComp v = true) (hs : swappedStores [x] v X.env = pure none) (ht : tgtC N X.env.scope t x = true) (he : chkE N e X.env.scope v = true) : PS X (.Assign [x] v p) (tSt S W (wdh T n hot) T (.set t e)) := by
  refine ⟨fun pins s σ H D I q => ?_⟩
  obtain ⟨hh, q⟩ := rd_set D σ H q
  rw [wdh_hot] at hh
  refine (ps_asg (goodE S T n N e A.adm A.hN v he).pe (pg_any A hh ht) (sw_sole hv _ _) hs (sole_asg _ _ ?_)).run pins s σ H D I q
  intro e p z
  rcases tgt_shape ht with ⟨y, p, rfl⟩ | ⟨es, k, p, rfl⟩ <;> cases z
theorem sc_name {sc : Scope} {i : Nat} {y : Str} {py : Pos} (h : tgC N sc i (.Name y py) = true) : N[i]? = some y := by
  unfold tgC at h
  rw [Bool.and_eq_true] at h
  exact of_decide_eq_true h.1
theorem sw_lc (A : AdS S T n W hot X N) {scope : Scope} {y : Str} {py p : Pos} {x : Expr} {gens : List Comprehension} {l : Nat} (h : swOk X.env.scope scope y py p = true) :
    X.env.scope.names.lookup y = some .local ∧ swapsWith (.ListComp x gens scope p) (some (.Name y py)) l X.env = pure true := by
  unfold swOk at h
  simp only [Bool.and_eq_true, decide_eq_true_eq, Bool.not_eq_true'] at h
  exact ⟨h.1.1, sw_true A.kind h.1.1 h.1.2 h.2⟩
/-- x = [..] -/
theorem s_setLc (A : AdS S T n W hot X N) {i : Nat} {elt : E} {gs : Gs} {y : Str} {py p sp : Pos} {x : Expr} {gens : List Comprehension} {scope : Scope} (h1 : tgC N X.env.scope i (.Name y py) = true) (h2 : swOk X.env.scope scope y py p = true) (h3 : chkE N (.lc elt gs) X.env.scope (.ListComp x gens scope p) = true) :
    PS X (.Assign [.Name y py] (.ListComp x gens scope p) sp) (tSt S W (wdh T n hot) T (.set (.nm i) (.lc elt gs))) := by
  have hy : X.N[i]? = some y := by rw [A.hN]; exact sc_name h1
  obtain ⟨hl, sw⟩ := sw_lc (l := sp.line) (x := x) (gens := gens) A h2
  cases hot with
  | true =>
    refine ps_nev fun D σ H q => ?_
    obtain ⟨_, f, M, ρ, _, _, q⟩ := rd_set D σ H q
    have e : evE (wdh T n true) (.lc elt gs) ρ M = .bad := by
      cases gs <;> (rw [evE, wdh_hot]; rfl)
    rw [e] at q
    exact q
  | false =>
    have h3 : (chkG N gs X.env.scope scope gens && chkE N elt (relS scope X.env.scope) x) = true := h3
    rw [Bool.and_eq_true] at h3
    have g := goodG S T n N gs A.adm A.hN scope gens h3.1
    have he : ∀ (s : Shared) (H : Hp) (C : Addr) (cl : List (Str × Addr)) (fp : List Addr), PE (X.blk s H scope (compEnvC scope cl C X.env) fp) x (tI S W0 (wdh T n false) elt) :=
      fun s H C cl fp => (goodE S T n N elt (A.adm.blk s H scope (compEnvC scope cl C X.env) fp) A.hN x h3.2).pe
    cases gs with
    | one own t it ifs =>
      obtain ⟨tg, iter, is, rfl, L⟩ := g
      refine ps_imp (ps_setLc (A.adm.calm rfl) A.adm.nd hy hl sw L.pi L.blk L.pg L.pt he (L.fold _)) fun D σ H q => ?_
      have q := (rd_set D σ H q).2
      rw [L.ow]
      exact rd_lc1 L.sl σ H _ q
    | more own t it ifs r =>
      cases r with
      | one own1 t1 it1 ifs1 =>
        obtain ⟨tg, iter, is, tg1, iter1, is1, rfl, L, L2⟩ := g
        refine ps_imp (ps_setLc2 (A.adm.calm rfl) A.adm.nd hy hl sw L.pi L.blk (by rw [L.ow]; exact L2.sub) L.pg L.pt L2.pi L2.pg L2.pt he (L.fold _) L2.fold) fun D σ H q => ?_
        have q := (rd_set D σ H q).2
        rw [L.ow]
        exact rd_lc2 L.sl L2.sl σ H _ q
      | more _ _ _ _ _ => exact g.elim
theorem sw_trueD {kx vx : Expr} {gs : List Comprehension} {scope : Scope} {pos py : Pos} {y : Str} {l : Nat} {env : PySem.Env} (hk : env.scope.kind = .function) (hy : env.scope.names.lookup y = some .local) (hl : (py.line == pos.line) = true)
    (ha : (scope.names.any fun (n, k) => n == y && (k == .local || k == .cell)) = false) : swapsWith (.DictComp kx vx gs scope pos) (some (.Name y py)) l env = pure true := by
  have ky : env.kindOf y = some .local := hy
  have hb : env.blockKind = .function := by unfold Env.blockKind; rw [hk]; rfl
  unfold swapsWith
  simp only [hb, ky, ha, Expr.pos, hl]
  rfl
theorem ps_setDc {i : Nat} {y : Str} {py : Pos} {kx vx tg iter : Expr} {ifs : List Expr} {scope : Scope} {own : List (Str × Nat)} {pos spos : Pos} {wi : TI} {g : TG} {tt : TT} {tk tv : TE} (hc : X.calm = true) (hN : X.N.Nodup) (hy : X.N[i]? = some y) (hyl : X.env.scope.names.lookup y = some .local)
    (hsw : swapsWith (.DictComp kx vx [⟨tg, iter, ifs, 0⟩] scope pos) (some (.Name y py)) spos.line X.env = pure true) (hi : PI X tg iter wi) (ok : BlkOk X.N X.env.scope scope own)
    (hg : ∀ (s : Shared) (H : Hp) (C : Addr) (cl : List (Str × Addr)) (fp : List Addr), PG (X.blk s H scope (compEnvC scope cl C X.env) fp) tg g) (ht : ∀ (s : Shared) (H : Hp) (C : Addr) (cl : List (Str × Addr)) (fp : List Addr), PTs (X.blk s H scope (compEnvC scope cl C X.env) fp) ifs tt)
    (hk : ∀ (s : Shared) (H : Hp) (C : Addr) (cl : List (Str × Addr)) (fp : List Addr), PE (X.blk s H scope (compEnvC scope cl C X.env) fp) kx tk)
    (he : ∀ (s : Shared) (H : Hp) (C : Addr) (cl : List (Str × Addr)) (fp : List Addr), PE (X.blk s H scope (compEnvC scope cl C X.env) fp) vx tv) (hs : ∀ x, foldedSetIterable iter X.env x = pure x) :
    PS X (.Assign [.Name y py] (.DictComp kx vx [⟨tg, iter, ifs, 0⟩] scope pos) spos) (tAsg (tDc wi g tt tk tv (own.map (·.2))) (gName i)) := by
  refine ⟨fun pins s σ H D I h => ?_⟩
  rw [exec_Assign_Name_used _ _ _ _ hsw]
  refine wpAny_bind (wpAny_standAt (wpAny_bind ?_))
  show wpAny _ X.A (do let _ ← comprehension (.DictComp kx vx [⟨tg, iter, ifs, 0⟩] scope pos) scope X.env (firstIterPos [⟨tg, iter, ifs, 0⟩] pos) newDict false (eval iter X.env) (some (assign (.Name y py) X.env))) _ _ s
  have h : tDc wi g tt tk tv (own.map (·.2)) σ H (fun x H1 => gName i x σ H1 D.nx) := h
  refine wpAny_bind (thn (dc_core (Qf := fun _ s' => SP X pins D .next s') hc hN I hi ok hg ht hk he hs h fun L C s' m H' I' q hn f => ?_) fun _ s' hq => wpAny_pure (wpAny_pure hq))
  show wpAny _ _ (assign (.Name y py) X.env (.ref L)) _ _ _
  refine wpAny_assign_Name (store_ok2 (v := V.ref L) I' hN hy (.inl hyl) rfl (fun s2 I2 ⟨a, sb, ha⟩ => ?_) (.inr hyl))
  obtain ⟨f0, f1, f2, f3, f4, f5⟩ := f
  have haC : C ≠ a := by
    rcases ha with z | z
    · rw [z]; exact f1
    · exact fun e => f4 y a z e.symm
  refine ⟨m, hn.sameBut sb haC, fun h3 sb3 => ?_⟩
  exact ⟨_, H', I2.turned (t' := s2.toks) (fun b o hb e => (sb3.2 b hb).trans e) f0 f1 f3 f4 f5, q⟩
/-- x = {..} -/
theorem s_setDc (A : AdS S T n W hot X N) {i : Nat} {ka va : E} {gs : Gs} {y : Str} {py p sp : Pos} {x x' : Expr} {gens : List Comprehension} {scope : Scope} (h1 : tgC N X.env.scope i (.Name y py) = true) (h2 : swOk X.env.scope scope y py p = true) (h3 : chkE N (.dc ka va gs) X.env.scope (.DictComp x x' gens scope p) = true) :
    PS X (.Assign [.Name y py] (.DictComp x x' gens scope p) sp) (tSt S W (wdh T n hot) T (.set (.nm i) (.dc ka va gs))) := by
  have hy : X.N[i]? = some y := by rw [A.hN]; exact sc_name h1
  unfold swOk at h2
  simp only [Bool.and_eq_true, decide_eq_true_eq, Bool.not_eq_true'] at h2
  have sw := sw_trueD (kx := x) (vx := x') (gs := gens) (l := sp.line) A.kind h2.1.1 h2.1.2 h2.2
  cases hot with
  | true =>
    refine ps_nev fun D σ H q => ?_
    obtain ⟨_, f, M, ρ, _, _, q⟩ := rd_set D σ H q
    have e : evE (wdh T n true) (.dc ka va gs) ρ M = .bad := by
      cases gs <;> (rw [evE, wdh_hot]; rfl)
    rw [e] at q
    exact q
  | false =>
    have h3 : (isOne gs && chkG N gs X.env.scope scope gens && chkE N ka (relS scope X.env.scope) x && chkE N va (relS scope X.env.scope) x') = true := h3
    simp only [Bool.and_eq_true] at h3
    have g := goodG S T n N gs A.adm A.hN scope gens h3.1.1.2
    cases gs with
    | one own t it ifs =>
      obtain ⟨tg, iter, is, rfl, L⟩ := g
      refine ps_imp (ps_setDc (A.adm.calm rfl) A.adm.nd hy h2.1.1 sw L.pi L.blk L.pg L.pt (fun s H C cl fp => (goodE S T n N ka (A.adm.blk s H scope (compEnvC scope cl C X.env) fp) A.hN x h3.1.2).pe)
        (fun s H C cl fp => (goodE S T n N va (A.adm.blk s H scope (compEnvC scope cl C X.env) fp) A.hN x' h3.2).pe) (L.fold _)) fun D σ H q => ?_
      have q := (rd_set D σ H q).2
      rw [L.ow]
      exact rd_dc1 L.sl σ H _ q
    | more own t it ifs r => exact (show False from by cases h3.1.1.1).elim
/-- a, b = x, y -/
theorem rd_par {i j : Nat} {a b : E} {w : Wd} : ∀ D σ H, tSt S W w T (.set (.tu [.nm i, .nm j]) (.tup (.cons false a (.cons false b .nil)))) D σ H → tPar i j (tL S W w (.cons false a (.cons false b .nil))) D σ H := by
  rintro D σ H q
  obtain ⟨f, M, ρ, rm, re, h⟩ := q
  have h : PostS S f H W (if w.hot && !oneT (.tu [.nm i, .nm j]) then .bad else thenS ((evEs w (.cons false a (.cons false b .nil)) ρ M).bind fun ds m => tupR ds m) ρ fun d m => (match setT (.tu [.nm i, .nm j]) d ρ with
    | some ρ' => .nx ρ' m
    | none => .bad)) D := h
  split at h
  · exact h.elim
  refine ⟨f, M, ρ, rm, re, ?_⟩
  cases e : evEs w (.cons false a (.cons false b .nil)) ρ M with
  | bad => rw [e] at h; exact h.elim
  | exc x m =>
    rw [e] at h
    exact fun f1 H1 cls z a b c r => (show PostS S f H W (.exc x ρ m) D from h) f1 H1 σ cls z a b c (re.mono a c) r
  | ok ds m =>
    rw [e] at h
    intro f1 H1 vs a1 rm1 p1 rv
    have h : PostS S f H W (thenS (tupR ds m) ρ fun d m => (match setT (.tu [.nm i, .nm j]) d ρ with
      | some ρ' => .nx ρ' m
      | none => .bad)) D := h
    unfold tupR at h
    split at h
    case isFalse => exact h.elim
    case isTrue hl =>
    have h : PostS S f H W (match setT (.tu [.nm i, .nm j]) (.tup ds) ρ with
      | some ρ' => .nx ρ' m
      | none => .bad) D := h
    cases e2 : setT (.tu [.nm i, .nm j]) (.tup ds) ρ with
    | none => rw [e2] at h; exact h.elim
    | some ρ' =>
      rw [e2] at h
      rcases ds with _ | ⟨x, _ | ⟨y, _ | ⟨z, r⟩⟩⟩
      · cases e2
      · cases e2
      · cases e2
        obtain ⟨u, q, rfl, r1, u2, q2, rfl, r2, r3⟩ := rv
        cases r3
        exact ⟨u, u2, rfl, (show PostS S f H W (.nx _ m) D from h) f1 H1 _ a1 rm1 p1 (((re.mono a1 p1).set r1).set r2)⟩
      · cases e2
theorem rd_par3 {i j l : Nat} {a b c : E} {w : Wd} : ∀ D σ H, tSt S W w T (.set (.tu [.nm i, .nm j, .nm l]) (.tup (.cons false a (.cons false b (.cons false c .nil))))) D σ H → tPar3 i j l (tL S W w (.cons false a (.cons false b (.cons false c .nil)))) D σ H := by
  rintro D σ H q
  obtain ⟨f, M, ρ, rm, re, h⟩ := q
  have h : PostS S f H W (if w.hot && !oneT (.tu [.nm i, .nm j, .nm l]) then .bad else thenS ((evEs w (.cons false a (.cons false b (.cons false c .nil))) ρ M).bind fun ds m => tupR ds m) ρ fun d m => (match setT (.tu [.nm i, .nm j, .nm l]) d ρ with
    | some ρ' => .nx ρ' m
    | none => .bad)) D := h
  split at h
  · exact h.elim
  refine ⟨f, M, ρ, rm, re, ?_⟩
  cases e : evEs w (.cons false a (.cons false b (.cons false c .nil))) ρ M with
  | bad => rw [e] at h; exact h.elim
  | exc x m =>
    rw [e] at h
    exact fun f1 H1 cls z a b c r => (show PostS S f H W (.exc x ρ m) D from h) f1 H1 σ cls z a b c (re.mono a c) r
  | ok ds m =>
    rw [e] at h
    intro f1 H1 vs a1 rm1 p1 rv
    have h : PostS S f H W (thenS (tupR ds m) ρ fun d m => (match setT (.tu [.nm i, .nm j, .nm l]) d ρ with
      | some ρ' => .nx ρ' m
      | none => .bad)) D := h
    unfold tupR at h
    split at h
    case isFalse => exact h.elim
    case isTrue hl =>
    have h : PostS S f H W (match setT (.tu [.nm i, .nm j, .nm l]) (.tup ds) ρ with
      | some ρ' => .nx ρ' m
      | none => .bad) D := h
    cases e2 : setT (.tu [.nm i, .nm j, .nm l]) (.tup ds) ρ with
    | none => rw [e2] at h; exact h.elim
    | some ρ' =>
      rw [e2] at h
      rcases ds with _ | ⟨x, _ | ⟨y, _ | ⟨z, _ | ⟨z2, r⟩⟩⟩⟩
      · cases e2
      · cases e2
      · cases e2
      · cases e2
        obtain ⟨u, q, rfl, r1, u2, q2, rfl, r2, u3, q3, rfl, r3, r4⟩ := rv
        cases r4
        exact ⟨u, u2, u3, rfl, (show PostS S f H W (.nx _ m) D from h) f1 H1 _ a1 rm1 p1 ((((re.mono a1 p1).set r1).set r2).set r3)⟩
      · cases e2
end
end Mp

set_option Elab.async false
set_option linter.all false
set_option maxRecDepth 100000
set_option maxHeartbeats 4000000
/-! The small interpreter beside the layer: errors, all statements together. -/
namespace Mp
open PySem PySem.Spec PyProof.Rows L2
section
variable {S : Sg} {T : Tab} {n : Nat} {N : List Str} {W : WX} {hot : Bool} {X : Cx} {w : Wd}
/-! ### raise -/
theorem rd_raise (A : Adm S T n W hot X) {c fd : Str} {C : Addr} {e : E} (hc : T.exf c = some fd) (hC : S.ca c = some C) (hh : w.hot = false) : ∀ D σ H, tSt S W w T (.raise c e) D σ H → tRaiseErr fd C W (tCons (tI S W w e) tNil) D σ H := by
  rintro D σ H ⟨f, M, ρ, rm, re, h⟩
  have h : PostS S f H W (if w.hot then .bad else (match T.exf c with
    | some f => thenS (evE w e ρ M) ρ fun d m => .exc ⟨c, [(f, d)]⟩ ρ m
    | none => .bad)) D := h
  rw [hh, hc] at h
  simp only [Bool.false_eq_true, if_false] at h
  refine tS_bind rm re h fun f1 H1 d M1 v a1 rm1 re1 p1 r1 h1 => ?_
  refine ⟨v, rfl, fun b nb => ?_⟩
  have pp := Pres.new (o := .xd [(fd, v)]) nb
  exact (show PostS S f1 H1 W (.exc ⟨c, [(fd, d)]⟩ ρ M1) D from h1) f1 _ σ _ _ (List.prefix_refl _) (rm1.newH nb) pp (re1.mono (List.prefix_refl _) pp) ⟨C, b, _, hC, rfl, rfl, upd_same, v, [], rfl, RV.mono (List.prefix_refl _) pp _ _ r1, rfl⟩
theorem s_raise (A : AdS S T n W hot X N) {c : Str} {e : E} {y : Expr} {p pos pos2 : Pos} (hg : gl X.env.scope c = true) (hp : plainN c = true) (hy : plainX y = true) (he : chkE N e X.env.scope y = true) :
    PS X (.Raise (some (.Call (.Name c p) [y] [] pos)) none pos2) (tSt S W (wdh T n hot) T (.raise c e)) := by
  cases hot with
  | true =>
    refine ps_nev fun D σ H ⟨f, M, ρ, _, _, h⟩ => ?_
    have h : PostS S f H W (if (wdh T n true).hot then SR.bad else (match T.exf c with
      | some f => thenS (evE (wdh T n true) e ρ M) ρ fun d m => .exc ⟨c, [(f, d)]⟩ ρ m
      | none => .bad)) D := h
    rw [wdh_hot] at h
    exact h
  | false =>
    cases ec : T.exf c with
    | none =>
      refine ps_nev fun D σ H ⟨f, M, ρ, _, _, h⟩ => ?_
      have h : PostS S f H W (if (wdh T n false).hot then SR.bad else (match T.exf c with
        | some f => thenS (evE (wdh T n false) e ρ M) ρ fun d m => .exc ⟨c, [(f, d)]⟩ ρ m
        | none => .bad)) D := h
      rw [wdh_hot, ec] at h
      exact h
    | some fd =>
      obtain ⟨C, fI, hC, tx⟩ := A.adm.exn c fd ec
      exact ps_imp (ps_raiseErr (A.adm.calm rfl) tx (A.adm.room rfl) A.adm.tk (pa_cons (goodE S T n N e A.adm A.hN y he).pe pa_nil (plain_star hy _ _)) (gl_ok hg) (plainN2 hp).1 (plain_star hy _ _) rfl) (rd_raise A.adm ec hC (wdh_hot T n false))
/-! ### behind an except suite -/
def killO : O → O
  | .exo _ _ => .dead
  | o => o
theorem kill_map (m : Mem) : kill m = m.map killO := by
  unfold kill
  congr 1
def exS (S : Sg) (e : Option (Addr × Addr × List Str)) : Sg := { S with ex := e }
theorem RM.kill {f : List Addr} {H : Hp} {m : Mem} {e : Option (Addr × Addr × List Str)} (h : RM (exS S e) f H m) : RM S f H (kill m) := by
  have at1 : ∀ {i : Nat} {o : O}, (m.map killO)[i]? = some o → ∃ o', m[i]? = some o' ∧ o = killO o' := fun {i o} e => by
    rw [List.getElem?_map] at e
    cases q : m[i]? with
    | none => rw [q] at e; cases e
    | some o' => rw [q] at e; exact ⟨o', rfl, (Option.some.inj e).symm⟩
  have ow : ∀ {o : O}, own (killO o) = true → own o = true ∧ killO o = o := fun {o} w => by cases o <;> first | exact ⟨w, rfl⟩ | cases w
  rw [kill_map]
  refine ⟨fun i j a o o' e1 e2 w1 w2 f1 f2 => ?_, by rw [List.length_map]; exact h.len, fun i o e1 => ?_⟩
  · obtain ⟨p1, q1, z1⟩ := at1 e1
    obtain ⟨p2, q2, z2⟩ := at1 e2
    rw [z1] at w1
    rw [z2] at w2
    exact h.nd i j a p1 p2 q1 q2 (ow w1).1 (ow w2).1 f1 f2
  · obtain ⟨p1, q1, z1⟩ := at1 e1
    obtain ⟨a, ea, r⟩ := h.at_ i p1 q1
    refine ⟨a, ea, ?_⟩
    subst z1
    cases p1 with
    | exo c fs => trivial
    | _ => exact r
/-- into an except suite -/
theorem RM.intoE {f : List Addr} {H : Hp} {m : Mem} {e : Option (Addr × Addr × List Str)} (hc : S.ex = none) (h : RM S f H m) : RM (exS S e) f H m := by
  refine ⟨h.nd, h.len, fun i o e1 => ?_⟩
  obtain ⟨a, ea, r⟩ := h.at_ i o e1
  refine ⟨a, ea, ?_⟩
  cases o with
  | exo c fs =>
    obtain ⟨d, ns, xs, z, _⟩ := r
    rw [hc] at z
    cases z
  | _ => exact r
theorem RM.addE {f : List Addr} {H : Hp} {m : Mem} {a d : Addr} {ns : List Str} {c : Str} {fs : List (Str × D)} {xs : List (Str × V)} (h : RM (exS S (some (a, d, ns))) f H m) (hd : H d = some (.xd xs)) (rf : RF S.K f H fs xs) (hn : ∀ x ∈ fs.map (·.1), x ∈ ns) :
    RM (exS S (some (a, d, ns))) (f ++ [a]) H (m ++ [.exo c fs]) := by
  have hl := h.len
  have fl : ∀ {i : Nat} {o' : O}, m[i]? = some o' → (f ++ [a])[i]? = f[i]? := fun {i o'} e => List.getElem?_append_left (by rw [hl]; exact (List.getElem?_eq_some_iff.mp e).1)
  refine ⟨fun i j b o o' e1 e2 w1 w2 f1 f2 => ?_, by simp [h.len], fun i o e1 => ?_⟩
  · rcases get_snoc e1 with e1 | ⟨_, e1⟩
    · rcases get_snoc e2 with e2 | ⟨_, e2⟩
      · rw [fl e1] at f1
        rw [fl e2] at f2
        exact h.nd i j b o o' e1 e2 w1 w2 f1 f2
      · subst e2; cases w2
    · subst e1; cases w1
  · rcases get_snoc e1 with e1 | ⟨e1, e2⟩
    · obtain ⟨b, eb, r⟩ := h.at_ i o e1
      exact ⟨b, pre_get (List.prefix_append _ _) eb, r.mono (List.prefix_append _ _) Pres.refl (fun _ u q => q) fun b xs q => q⟩
    · subst e1 e2
      exact ⟨a, by rw [← hl]; simp, d, ns, xs, rfl, hd, RF.mono (List.prefix_append f [a]) Pres.refl _ _ rf, hn⟩
theorem xf_of {K : PySem.W.Frag} {mg : Str → Option Value} {c fd : Str} {C fI : Addr} (T : PySem.ErrX.ErrTxt K mg c fd C fI) : XfC K C := ⟨T.ga, T.gg, T.exC, T.hdC⟩
theorem Adm.suite (A : Adm S T n W false X) {c fd : Str} {C a dd : Addr} {oe : Obj} {pn : List (Addr × Obj)} (hc : T.exf c = some fd) (hC : S.ca c = some C) (hz : Zc (.ref C) (some dd) oe) (hf : ∃ vs, oe.data = .fields vs) :
    Adm (exS S (some (a, dd, [fd]))) T n W0 true (X.suite a ((a, oe) :: pn)) where
  K := A.K
  room := fun z => by cases z
  calm := fun z => by cases z
  units := A.units
  nd := A.nd
  tk := fun u s' ⟨a, B, sI, pins, σ, H, cls, d, e, I, nb, up, sky, na, os, ag, w⟩ => w
  glo := A.glo
  free := A.free
  fns := fun z => by cases z
  fns1 := fun z => by cases z
  cold := fun z => by cases z
  exn := A.exn
  sub := A.sub
  exc := A.exc
  xf := fun a' d' ns' h n' hn e te pos he hb => by
    cases h
    have e1 : n' = fd := by simpa using hn
    subst e1
    obtain ⟨C', fI, hC', tx⟩ := A.exn c n' hc
    rw [hC] at hC'
    cases hC'
    exact ⟨C, pe_xf (xf_of tx) tx.noN hz hf he hb⟩
  cls := A.cls
  isC := A.isC
  caC := A.caC
  clsF := A.clsF
  fld := A.fld
  own := A.own
theorem AdS.suite (A : AdS S T n W false X N) {c fd : Str} {C a dd : Addr} {oe : Obj} {pn : List (Addr × Obj)} (hc : T.exf c = some fd) (hC : S.ca c = some C) (hz : Zc (.ref C) (some dd) oe) (hf : ∃ vs, oe.data = .fields vs) :
    AdS (exS S (some (a, dd, [fd]))) T n W0 true (X.suite a ((a, oe) :: pn)) N :=
  ⟨A.adm.suite hc hC hz hf, A.hN, ⟨A.fn.loc, A.fn.cell⟩, A.kind, (fun z => by cases z), (fun z => by cases z)⟩
theorem AdS.tr (A : AdS S T n W false X N) {W' : WX} {pn : List (Addr × Obj)} {xe : Value → Shared → Prop} (tk : Takes (X.tr pn xe) W') (ow : PassesOwn (model X.prog X.w) X.A X.env xe) : AdS S T n W' false (X.tr pn xe) N where
  adm :=
    { K := A.adm.K
      room := A.adm.room
      calm := A.adm.calm
      units := A.adm.units
      nd := A.adm.nd
      tk := tk
      glo := A.adm.glo
      free := A.adm.free
      fns := fun h g d e => ⟨(A.adm.fns h g d e).ok⟩
      fns1 := fun h g d e => ⟨(A.adm.fns1 h g d e).ok⟩
      cold := A.adm.cold
      exn := A.adm.exn
      sub := A.adm.sub
      exc := A.adm.exc
      xf := fun a d ns h => by rw [A.adm.cold rfl] at h; cases h
      cls := A.adm.cls
      isC := A.adm.isC
      caC := A.adm.caC
      clsF := A.adm.clsF
      fld := A.adm.fld
      own := A.adm.own }
  hN := A.hN
  fn := ⟨A.fn.loc, A.fn.cell⟩
  kind := A.kind
  own := fun _ => ow
  stk := A.stk
/-! ### try -/
def GSs (T : Tab) (n : Nat) (N : List Str) (ss : Mp.Ss) : Prop := ∀ {S : Sg} {W : WX} {hot : Bool} {X : Cx}, AdS S T n W hot X N → ∀ xs, chkSs T.exk N ss X.env.scope xs = true → PSs X xs (tSs S W (wdh T n hot) T ss)
def GS (T : Tab) (n : Nat) (N : List Str) (s : Mp.S) : Prop := ∀ {S : Sg} {W : WX} {hot : Bool} {X : Cx}, AdS S T n W hot X N → ∀ x, chkS T.exk N s X.env.scope x = true → PS X x (tSt S W (wdh T n hot) T s)
/-- a suite's reading -/
def tSu (S : Sg) (T : Tab) (n : Nat) (s : Mp.Ss) (a : Addr) (cls : Value) (d : Option Addr) : TS := fun D σ H => ∃ c C fd dd, T.exf c = some fd ∧ S.ca c = some C ∧ cls = .ref C ∧ d = some dd ∧ tSs (exS S (some (a, dd, [fd]))) W0 (wdh T n true) T s D σ H
theorem good_su (A : AdS S T n W false X N) {s : Mp.Ss} (g : GSs T n N s) {xs : List Stmt} (h : chkSs T.exk N s X.env.scope xs = true) (a : Addr) (oe : Obj) (cls : Value) (d : Option Addr) (pn : List (Addr × Obj)) (hz : Zc cls d oe) (hf : ∃ vs, oe.data = .fields vs) :
    PSs (X.suite a ((a, oe) :: pn)) xs (tSu S T n s a cls d) := by
  refine ⟨fun pins s0 σ H D I q => ?_⟩
  obtain ⟨c, C, fd, dd, h1, h2, rfl, rfl, q⟩ := q
  exact (g (A.suite h1 h2 hz hf) xs h).run pins s0 σ H D I q
def offV (nm : Option Nat) (σ : L2.St) : L2.St := match nm with
  | none => σ
  | some i => σ.set i none
/-- the way into a suite, from the interpreter's answer -/
theorem su_ok {D D' : Ends} {nm : Option Nat} {s : Mp.Ss} {f : List Addr} {H : Hp} {σ' : L2.St} {x : Xn} {fd : Str} {C b a : Addr} {ρ1 : Env} {m1 : Mem} (hx : S.ex = none) (hc : T.exf x.cls = some fd) (hC : S.ca x.cls = some C)
    (rm : RM (exS S (some (a, b, [fd]))) f H m1) (re : RE S.K f H ρ1 σ')
    (h : PostS S f H W (coldS nm (evSs (wdh T n true) T.exf T.sub s ρ1 m1)) D)
    (e1 : ∀ σ H, D.nx (offV nm σ) H → D'.nx σ H) (e2 : ∀ σ H, D.bk (offV nm σ) H → D'.bk σ H) (e3 : ∀ σ H, D.ct (offV nm σ) H → D'.ct σ H) (e4 : ∀ v H, D.rt v H → D'.rt v H) :
    tSu S T n s a (.ref C) (some b) D' σ' H := by
  have off : ∀ {K : PySem.W.Frag} {f : List Addr} {H : Hp} {ρ : Env} {σ : L2.St}, RE K f H ρ σ → RE K f H (offE nm ρ) (offV nm σ) := fun {K f H ρ σ} r => by
    cases nm with
    | none => exact r
    | some i => exact r.none_
  refine ⟨x.cls, C, fd, b, hc, hC, rfl, rfl, f, m1, ρ1, rm, re, ?_⟩
  cases q : evSs (wdh T n true) T.exf T.sub s ρ1 m1 with
  | nx ρ m =>
    rw [q] at h
    exact fun f2 H2 σ2 b1 b2 b3 b4 => e1 _ _ ((show PostS S f H W (.nx (offE nm ρ) (kill m)) D from h) f2 H2 _ b1 b2.kill b3 (off b4))
  | bk ρ m =>
    rw [q] at h
    exact fun f2 H2 σ2 b1 b2 b3 b4 => e2 _ _ ((show PostS S f H W (.bk (offE nm ρ) (kill m)) D from h) f2 H2 _ b1 b2.kill b3 (off b4))
  | ct ρ m =>
    rw [q] at h
    exact fun f2 H2 σ2 b1 b2 b3 b4 => e3 _ _ ((show PostS S f H W (.ct (offE nm ρ) (kill m)) D from h) f2 H2 _ b1 b2.kill b3 (off b4))
  | rt d m =>
    rw [q] at h
    exact fun f2 H2 v b1 b2 b3 b4 => e4 _ _ ((show PostS S f H W (.rt d (kill m)) D from h) f2 H2 v b1 b2.kill b3 b4)
  | exc x ρ m => rw [q] at h; exact h.elim
  | bad => rw [q] at h; exact h.elim
theorem hs_ok {D : Ends} {c : Str} {nm : Option Nat} {s : Mp.Ss} {f : List Addr} {H : Hp} {m : Mem} {ρ : Env} {x : Xn} (h : PostS S f H W (evHs w T.exf T.sub (.cons [c] nm s .nil) x ρ m) D) :
    ∃ fd, T.exf x.cls = some fd ∧ x.fs.map (·.1) = [fd] ∧ PostS S f H W (if T.sub x.cls c then (match (generalizing := false) nm with
      | none => coldS none (evSs (hotW w) T.exf T.sub s ρ m)
      | some i => coldS (some i) (evSs (hotW w) T.exf T.sub s (ρ.set i (some (.ref m.length))) (m ++ [.exo x.cls x.fs]))) else .exc x ρ m) D := by
  have h : PostS S f H W (match T.exf x.cls with
    | none => .bad
    | some f => if x.fs.map (·.1) = [f] then (if ([c] : List Str).any (T.sub x.cls) then (match (generalizing := false) nm with
      | none => coldS none (evSs (hotW w) T.exf T.sub s ρ m)
      | some i => coldS (some i) (evSs (hotW w) T.exf T.sub s (ρ.set i (some (.ref m.length))) (m ++ [.exo x.cls x.fs])))
      else .exc x ρ m) else .bad) D := h
  cases e : T.exf x.cls with
  | none => rw [e] at h; exact h.elim
  | some fd =>
    rw [e] at h
    by_cases hf : x.fs.map (·.1) = [fd]
    · have h : PostS S f H W (if x.fs.map (·.1) = [fd] then (if ([c] : List Str).any (T.sub x.cls) then (match (generalizing := false) nm with
        | none => coldS none (evSs (hotW w) T.exf T.sub s ρ m)
        | some i => coldS (some i) (evSs (hotW w) T.exf T.sub s (ρ.set i (some (.ref m.length))) (m ++ [.exo x.cls x.fs])))
        else .exc x ρ m) else .bad) D := h
      rw [if_pos hf] at h
      refine ⟨fd, rfl, hf, ?_⟩
      simpa using h
    · have h : PostS S f H W (if x.fs.map (·.1) = [fd] then _ else .bad) D := h
      rw [if_neg hf] at h
      exact h.elim
theorem s_tryO (A : AdS S T n W hot X N) {b s : Mp.Ss} {c : Str} (gb : GSs T n N b) (gs : GSs T n N s) {ys : List Stmt} {z : Stmt} {zs : List Stmt} {np pos' pos : Pos} (hg : gl X.env.scope c = true) (hp : plainN c = true) (hk : ∃ u, T.exk c = some u)
    (h1 : chkSs T.exk N b X.env.scope ys = true) (h2 : chkSs T.exk N s X.env.scope (z :: zs) = true) :
    PS X (.Try ys [.ExceptHandler (some (.Name c np)) none (z :: zs) pos'] [] [] pos) (tSt S W (wdh T n hot) T (.try_ b (.cons [c] none s .nil))) := by
  have nev : hot = true → PS X (.Try ys [.ExceptHandler (some (.Name c np)) none (z :: zs) pos'] [] [] pos) (tSt S W (wdh T n hot) T (.try_ b (.cons [c] none s .nil))) := fun e => ps_nev fun D σ H ⟨f, M, ρ, _, _, h⟩ => by
    have h : PostS S f H W (if (wdh T n hot).hot then SR.bad else (match evSs (wdh T n hot) T.exf T.sub b ρ M with
      | .exc x ρ' m' => evHs (wdh T n hot) T.exf T.sub (.cons [c] none s .nil) x ρ' m'
      | o => o)) D := h
    rw [wdh_hot, e] at h
    exact h
  cases hot with
  | true => exact nev rfl
  | false =>
    obtain ⟨C', hC'⟩ := A.adm.exc c hk
    have stk := A.stk rfl
    refine ps_imp (ps_try_only (c := .ref C') (tb := fun W' => tSs S W' (wdh T n false) T b) (ts := tSu S T n s) (Wout := W) stk.1 stk.2 ⟨gl_ok hg, (plainN2 hp).1, .inl (A.adm.cls c C' hC')⟩ A.adm.tk (fun W' pn xe tk ow => gb (A.tr tk ow) ys h1) (fun a oe cls d pn hz hf => good_su A gs h2 a oe cls d pn hz hf)) ?_
    rintro D σ H ⟨f, M, ρ, rm, re, h⟩
    have h : PostS S f H W (if (wdh T n false).hot then SR.bad else (match evSs (wdh T n false) T.exf T.sub b ρ M with
      | .exc x ρ' m' => evHs (wdh T n false) T.exf T.sub (.cons [c] none s .nil) x ρ' m'
      | o => o)) D := h
    rw [wdh_hot] at h
    simp only [Bool.false_eq_true, if_false] at h
    refine ⟨f, M, ρ, rm, re, ?_⟩
    cases q : evSs (wdh T n false) T.exf T.sub b ρ M with
    | nx ρ' m => rw [q] at h; exact h
    | bk ρ' m => rw [q] at h; exact h
    | ct ρ' m => rw [q] at h; exact h
    | rt d m => rw [q] at h; exact h
    | bad => rw [q] at h; exact h
    | exc x ρ' m =>
      rw [q] at h
      obtain ⟨fd, hc, hfs, h⟩ := hs_ok h
      intro f1 H1 σ1 cls bb a1 rm1 p1 re1 rx
      obtain ⟨C, b0, xs, eC, rfl, rfl, hxd, rf⟩ := rx
      have h := PostS.mono a1 p1 h
      refine ⟨T.sub x.cls c, by rw [A.adm.K] at *; exact (by have := A.adm.sub x.cls C c C' (by rw [hc]; rfl) hk eC hC'; rw [A.adm.K] at this; exact this), fun hb a na => ?_, fun hb => ?_⟩
      · rw [hb, if_pos rfl] at h
        exact su_ok (x := x) (nm := none) (A.adm.cold rfl) hc eC (rm1.intoE (A.adm.cold rfl)) re1 h (fun _ _ z => z) (fun _ _ z => z) (fun _ _ z => z) fun _ _ z => z
      · rw [hb, if_neg Bool.false_ne_true] at h
        exact h f1 H1 σ1 _ _ (List.prefix_refl _) rm1 Pres.refl re1 ⟨C, b0, xs, eC, rfl, rfl, hxd, rf⟩
theorem s_tryA (A : AdS S T n W hot X N) {b s : Mp.Ss} {c nn : Str} {i : Nat} (gb : GSs T n N b) (gs : GSs T n N s) {ys : List Stmt} {z : Stmt} {zs : List Stmt} {np pos' pos : Pos} (hg : gl X.env.scope c = true) (hp : plainN c = true) (hk : ∃ u, T.exk c = some u) (hi : N[i]? = some nn) (hl : X.env.scope.names.lookup nn = some .local)
    (h1 : chkSs T.exk N b X.env.scope ys = true) (h2 : chkSs T.exk N s X.env.scope (z :: zs) = true) :
    PS X (.Try ys [.ExceptHandler (some (.Name c np)) (some nn) (z :: zs) pos'] [] [] pos) (tSt S W (wdh T n hot) T (.try_ b (.cons [c] (some i) s .nil))) := by
  have nev : hot = true → PS X (.Try ys [.ExceptHandler (some (.Name c np)) (some nn) (z :: zs) pos'] [] [] pos) (tSt S W (wdh T n hot) T (.try_ b (.cons [c] (some i) s .nil))) := fun e => ps_nev fun D σ H ⟨f, M, ρ, _, _, h⟩ => by
    have h : PostS S f H W (if (wdh T n hot).hot then SR.bad else (match evSs (wdh T n hot) T.exf T.sub b ρ M with
      | .exc x ρ' m' => evHs (wdh T n hot) T.exf T.sub (.cons [c] (some i) s .nil) x ρ' m'
      | o => o)) D := h
    rw [wdh_hot, e] at h
    exact h
  cases hot with
  | true => exact nev rfl
  | false =>
    obtain ⟨C', hC'⟩ := A.adm.exc c hk
    have stk := A.stk rfl
    refine ps_imp (ps_try_as (c := .ref C') (i := i) (tb := fun W' => tSs S W' (wdh T n false) T b) (ts := tSu S T n s) (Wout := W) stk.1 stk.2 A.adm.nd (by rw [A.hN]; exact hi) hl ⟨gl_ok hg, (plainN2 hp).1, .inl (A.adm.cls c C' hC')⟩ A.adm.tk (fun W' pn xe tk ow => gb (A.tr tk ow) ys h1) (fun a oe cls d pn hz hf => good_su A gs h2 a oe cls d pn hz hf)) ?_
    rintro D σ H ⟨f, M, ρ, rm, re, h⟩
    have h : PostS S f H W (if (wdh T n false).hot then SR.bad else (match evSs (wdh T n false) T.exf T.sub b ρ M with
      | .exc x ρ' m' => evHs (wdh T n false) T.exf T.sub (.cons [c] (some i) s .nil) x ρ' m'
      | o => o)) D := h
    rw [wdh_hot] at h
    simp only [Bool.false_eq_true, if_false] at h
    refine ⟨f, M, ρ, rm, re, ?_⟩
    cases q : evSs (wdh T n false) T.exf T.sub b ρ M with
    | nx ρ' m => rw [q] at h; exact h
    | bk ρ' m => rw [q] at h; exact h
    | ct ρ' m => rw [q] at h; exact h
    | rt d m => rw [q] at h; exact h
    | bad => rw [q] at h; exact h
    | exc x ρ' m =>
      rw [q] at h
      obtain ⟨fd, hc, hfs, h⟩ := hs_ok h
      intro f1 H1 σ1 cls bb a1 rm1 p1 re1 rx
      obtain ⟨C, b0, xs, eC, rfl, rfl, hxd, rf⟩ := rx
      have h := PostS.mono a1 p1 h
      refine ⟨T.sub x.cls c, by rw [A.adm.K] at *; exact (by have := A.adm.sub x.cls C c C' (by rw [hc]; rfl) hk eC hC'; rw [A.adm.K] at this; exact this), fun hb a na => ?_, fun hb => ?_⟩
      · rw [hb, if_pos rfl] at h
        have rm2 : RM (exS S (some (a, b0, [fd]))) (f1 ++ [a]) H1 (m ++ [.exo x.cls x.fs]) := (rm1.intoE (A.adm.cold rfl)).addE hxd rf (by rw [hfs]; simp)
        have la : (f1 ++ [a])[m.length]? = some a := by rw [← rm1.len]; simp
        have re2 : RE S.K (f1 ++ [a]) H1 (ρ'.set i (some (.ref m.length))) (σ1.set i (some (.ref a))) := (re1.mono (List.prefix_append f1 [a]) Pres.refl).set ⟨a, la, rfl⟩
        have h2 := PostS.mono (List.prefix_append f1 [a]) Pres.refl h
        exact su_ok (x := x) (nm := some i) (A.adm.cold rfl) hc eC rm2 re2 h2 (fun _ _ z => z) (fun _ _ z => z) (fun _ _ z => z) fun _ _ z => z
      · rw [hb, if_neg Bool.false_ne_true] at h
        exact h f1 H1 σ1 _ _ (List.prefix_refl _) rm1 Pres.refl re1 ⟨C, b0, xs, eC, rfl, rfl, hxd, rf⟩
end
end Mp

set_option Elab.async false
set_option linter.all false
set_option maxRecDepth 100000
set_option maxHeartbeats 4000000
/-! The small interpreter beside the layer: all statements. -/
namespace Mp
open PySem PySem.Spec PyProof.Rows L2
section
variable {T : Tab} {n : Nat} {N : List Str}
theorem w_set {t : Tg} {e : E} : GS T n N (.set t e) := by
  intro S W hot X A x h
  cases x with
  | Assign xs v p =>
    cases xs with
    | nil => cases h
    | cons x r =>
      cases r with
      | cons _ _ => cases h
      | nil =>
        have h : setC N X.env.scope t e x v = true := h
        unfold setC at h
        simp only [Bool.or_eq_true] at h
        rcases h with (((h | h) | h) | h) | h
        · simp only [Bool.and_eq_true] at h
          exact s_set A h.1.1.1 (sw_stores h.1.1.2 _) h.1.2 h.2
        · unfold setCompC at h
          split at h
          · simp only [Bool.and_eq_true] at h
            exact s_setLc A h.1.1 h.1.2 h.2
          · simp only [Bool.and_eq_true] at h
            exact s_setDc A h.1.1 h.1.2 h.2
          · cases h
        · unfold setTup0 at h
          split at h
          · rename_i xs k p1 vs k2 p2 _
            simp only [Bool.and_eq_true] at h
            obtain ⟨⟨h1, h2⟩, h3⟩ := h
            split at h3
            · rename_i h4
              exact s_set A rfl (swRes_ok A.kind h4) h1 h2
            · cases h3
          · cases h
        · unfold setTup2 at h
          split at h
          · rename_i i j a b x px y py k p1 v1 v2 k2 p2 _
            simp only [Bool.and_eq_true, decide_eq_true_eq] at h
            obtain ⟨⟨⟨⟨⟨⟨h1, h2⟩, h3⟩, h4⟩, h5⟩, h6⟩, h7⟩ := h
            have e1 : X.N[i]? = some x := by rw [A.hN]; exact sc_name h1
            have e2 : X.N[j]? = some y := by rw [A.hN]; exact sc_name h2
            cases hot with
            | true =>
              refine ps_nev fun D σ H q => ?_
              obtain ⟨hh, _⟩ := rd_set D σ H q
              rw [wdh_hot] at hh
              cases hh
            | false => exact ps_imp (ps_par (A.adm.calm rfl) A.adm.nd e1 e2 h4 h5 h6 (goodEs S T n N _ A.adm A.hN _ h3) (swRes_ok A.kind h7)) rd_par
          · cases h
        · unfold setTup3 at h
          split at h
          · rename_i i j l a b c x px y py z pz k p1 v1 v2 v3 k2 p2 _
            simp only [Bool.and_eq_true, decide_eq_true_eq] at h
            obtain ⟨⟨⟨⟨⟨⟨⟨⟨⟨⟨h1, h2⟩, h2'⟩, h3⟩, h4⟩, h4'⟩, h4''⟩, h5⟩, h6⟩, h6'⟩, h7⟩ := h
            have e1 : X.N[i]? = some x := by rw [A.hN]; exact sc_name h1
            have e2 : X.N[j]? = some y := by rw [A.hN]; exact sc_name h2
            have e3 : X.N[l]? = some z := by rw [A.hN]; exact sc_name h2'
            cases hot with
            | true =>
              refine ps_nev fun D σ H q => ?_
              obtain ⟨hh, _⟩ := rd_set D σ H q
              rw [wdh_hot] at hh
              cases hh
            | false => exact ps_imp (ps_par3 (A.adm.calm rfl) A.adm.nd e1 e2 e3 h4 h4' h4'' h5 h6 h6' (goodEs S T n N _ A.adm A.hN _ h3) (swRes_ok A.kind h7)) rd_par3
          · cases h
  | _ => cases h
theorem w_setF {o e : E} {f : Str} : GS T n N (.setF o f e) := by
  intro S W hot X A x h
  cases x with
  | Assign xs v p =>
    cases xs with
    | nil => cases h
    | cons x r =>
      cases r with
      | cons _ _ => cases x <;> cases h
      | nil =>
        cases x with
        | Attribute x g pa =>
          have h : (notComp v && decide (f = g) && chkE N o X.env.scope x && chkE N e X.env.scope v) = true := h
          simp only [Bool.and_eq_true, decide_eq_true_eq] at h
          obtain ⟨⟨⟨h1, rfl⟩, h2⟩, h3⟩ := h
          exact ps_imp (ps_fld (goodE S T n N o A.adm A.hN x h2).pe (goodE S T n N e A.adm A.hN v h3).pe (sw_none h1 _ _ _)) (rd_setF A.adm (wdh_fld T n hot))
        | _ => cases h
  | _ => cases h
theorem w_setI {o i e : E} : GS T n N (.setI o i e) := by
  intro S W hot X A x h
  cases x with
  | Assign xs v p =>
    cases xs with
    | nil => cases h
    | cons x r =>
      cases r with
      | cons _ _ => cases x <;> cases h
      | nil =>
        cases x with
        | Subscript x y pa =>
          have h : (notComp v && plainX y && chkE N o X.env.scope x && chkE N i X.env.scope y && chkE N e X.env.scope v) = true := h
          simp only [Bool.and_eq_true] at h
          obtain ⟨⟨⟨⟨h1, h2⟩, h3⟩, h4⟩, h5⟩ := h
          have hw : swappedStores [.Subscript x y pa] v X.env = pure none := by cases v <;> rfl
          have ha : ∀ v, assign (.Subscript x y pa) X.env v = (do
            let ov ← holding [v] (eval x X.env)
            let iv ← holding [v, ov] (eval y X.env)
            standAt pa
            holding [v, ov, iv] (setItem ov iv v)
            release [v, ov, iv] []) := by
            intro v
            cases y <;> first | rfl | cases h2
          exact ps_imp (ps_asg (goodE S T n N e A.adm A.hN v h5).pe (pg_sub (goodE S T n N o A.adm A.hN x h3).pe (goodE S T n N i A.adm A.hN y h4).pe (set_any A.adm.K A.adm.units) ha) (sw_sole h1 _ _) hw rfl) rd_setI
        | _ => cases h
  | _ => cases h
theorem w_aug {op : Bop} {i : Nat} {e : E} : GS T n N (.aug op i e) := by
  intro S W hot X A x h
  cases x with
  | AugAssign x o v p =>
    have h : (bopC op o && tgC N X.env.scope i x && chkE N e X.env.scope v) = true := h
    simp only [Bool.and_eq_true] at h
    obtain ⟨⟨h1, h2⟩, h3⟩ := h
    obtain rfl := bop_of h1
    obtain ⟨y, q, rfl, e1, e2⟩ := loc_of h2
    refine ps_imp (ps_aug A.adm.nd (by rw [A.hN]; exact e1) e2 (goodE S T n N e A.adm A.hN v h3).pe (ip_any A.adm.K op) ?_) rd_aug
    rcases e2 with e2 | e2
    · exact .inr e2
    · exact .inl (A.fn.cell y e2).2
  | _ => cases h
theorem w_augF {op : Bop} {o e : E} {f : Str} : GS T n N (.augF op o f e) := by
  intro S W hot X A x h
  cases x with
  | AugAssign x oo v p =>
    cases x with
    | Attribute x g q =>
      have h : (bopC op oo && decide (f = g) && chkE N o X.env.scope x && chkE N e X.env.scope v) = true := h
      simp only [Bool.and_eq_true, decide_eq_true_eq] at h
      obtain ⟨⟨⟨h1, rfl⟩, h2⟩, h3⟩ := h
      obtain rfl := bop_of h1
      cases hot with
      | true =>
        refine ps_nev fun D σ H ⟨f2, M, ρ, _, _, q⟩ => ?_
        have e0 : evS (wdh T n true) T.exf T.sub (.augF op o f e) ρ M = .bad := by rw [evS, wdh_hot]; rfl
        rw [e0] at q
        exact q
      | false => exact ps_imp (ps_fldaug (goodE S T n N o A.adm A.hN x h2).pe (goodE S T n N e A.adm A.hN v h3).pe (ip_any A.adm.K op)) (rd_augF A.adm (wdh_fld T n false) rfl (wdh_hot T n false))
    | _ => cases h
  | _ => cases h
theorem w_augI {op : Bop} {o i e : E} : GS T n N (.augI op o i e) := by
  intro S W hot X A x h
  cases x with
  | AugAssign x oo v p =>
    cases x with
    | Subscript x y q =>
      have h : (bopC op oo && plainX y && chkE N o X.env.scope x && chkE N i X.env.scope y && chkE N e X.env.scope v) = true := h
      simp only [Bool.and_eq_true] at h
      obtain ⟨⟨⟨⟨h1, h2⟩, h3⟩, h4⟩, h5⟩ := h
      obtain rfl := bop_of h1
      have ha : ∀ ov iv new, augStore y ov iv new = (do holding [new, ov, iv] (setItem ov iv new); release [new, ov, iv] []; pure .next) := by
        intro ov iv new
        cases y <;> first | rfl | cases h2
      exact ps_imp (ps_augS (goodE S T n N o A.adm A.hN x h3).pe (goodE S T n N i A.adm A.hN y h4).pe (get_any A.adm.K) (goodE S T n N e A.adm A.hN v h5).pe (ip_any A.adm.K op) (set_any A.adm.K A.adm.units) ha) rd_augI
    | _ => cases h
  | _ => cases h
theorem w_expr {e : E} : GS T n N (.expr e) := by
  intro S W hot X A x h
  cases x with
  | Expr x p =>
    have h : (notComp x && chkE N e X.env.scope x) = true := h
    rw [Bool.and_eq_true] at h
    exact ps_imp (ps_expr (goodE S T n N e A.adm A.hN x h.2).pe (sw_none h.1 _ _ _)) rd_expr
  | _ => cases h
theorem w_ret {e : E} : GS T n N (.ret e) := by
  intro S W hot X A x h
  cases x with
  | Return x p =>
    cases x with
    | some x => exact ps_imp (ps_ret (goodE S T n N e A.adm A.hN x h).pe) rd_ret
    | none => cases h
  | _ => cases h
theorem w_retN : GS T n N .retN := by
  intro S W hot X A x h
  cases x with
  | Return x p =>
    cases x with
    | none => exact ps_imp ps_retN rd_retN
    | some _ => cases h
  | _ => cases h
theorem w_pass : GS T n N .pass := by
  intro S W hot X A x h
  cases x with
  | Pass p => exact ps_imp ps_pass rd_pass
  | _ => cases h
theorem w_brk : GS T n N .brk := by
  intro S W hot X A x h
  cases x with
  | Break p => exact ps_imp ps_break rd_brk
  | _ => cases h
theorem w_cont : GS T n N .cont := by
  intro S W hot X A x h
  cases x with
  | Continue p => exact ps_imp ps_continue rd_cont
  | _ => cases h
theorem w_ifs {c : E} {a b : Mp.Ss} (ga : GSs T n N a) (gb : GSs T n N b) : GS T n N (.ifs c a b) := by
  intro S W hot X A x h
  cases x with
  | If x ys zs p =>
    have h : (testOk c && chkE N c X.env.scope x && chkSs T.exk N a X.env.scope ys && chkSs T.exk N b X.env.scope zs) = true := h
    simp only [Bool.and_eq_true] at h
    exact ps_imp (ps_if ((goodE S T n N c A.adm A.hN x h.1.1.2).pt h.1.1.1) (ga A ys h.1.2) (gb A zs h.2)) rd_ifs
  | _ => cases h
theorem w_whl {c : E} {b : Mp.Ss} (gb : GSs T n N b) : GS T n N (.whl c b) := by
  intro S W hot X A x h
  cases x with
  | While x ys zs p =>
    cases zs with
    | nil =>
      have h : (testOk c && chkE N c X.env.scope x && chkSs T.exk N b X.env.scope ys) = true := h
      simp only [Bool.and_eq_true] at h
      refine ⟨fun pins s σ H D I q => ?_⟩
      obtain ⟨hh, q⟩ := rd_whl D σ H q
      rw [wdh_hot] at hh
      exact (ps_while (A.own hh) ((goodE S T n N c A.adm A.hN x h.1.2).pt h.1.1) (gb A ys h.2)).run pins s σ H D I q
    | cons _ _ => cases h
  | _ => cases h
theorem w_for {t : Tg} {it : Ie} {b : Mp.Ss} (gb : GSs T n N b) : GS T n N (.for_ t it b) := by
  intro S W hot X A x h
  cases x with
  | For tg iter ys zs p =>
    cases zs with
    | nil =>
      have h : ((!iTup it || isTupX tg) && plainX iter && tgtC N X.env.scope t tg && chkI N it X.env.scope iter && chkSs T.exk N b X.env.scope ys) = true := h
      simp only [Bool.and_eq_true] at h
      obtain ⟨⟨⟨⟨h1, h2⟩, h3⟩, h4⟩, h5⟩ := h
      refine ⟨fun pins s σ H D I q => ?_⟩
      obtain ⟨hh, q⟩ := rd_for D σ H q
      rw [wdh_hot] at hh
      subst hh
      exact (ps_for (A.own rfl) (A.adm.calm rfl) (goodI S T n N it A.adm A.hN tg iter h1 h2 h4) (pg_any A rfl h3) (gb A ys h5) (fun x => plain_fold h2 _ x)).run pins s σ H D I q
    | cons _ _ => cases h
  | _ => cases h
theorem w_raise {c : Str} {e : E} : GS T n N (.raise c e) := by
  intro S W hot X A x h
  have h : (match raiseX x with
    | some (x, y) => decide (c = x) && gl X.env.scope x && plainN x && plainX y && chkE N e X.env.scope y
    | none => false) = true := by cases x <;> exact h
  cases q : raiseX x with
  | none => rw [q] at h; cases h
  | some xy =>
    obtain ⟨z, y⟩ := xy
    rw [q] at h
    obtain ⟨p1, p2, p, rfl⟩ := raiseX_eq q
    have h : (decide (c = z) && gl X.env.scope z && plainN z && plainX y && chkE N e X.env.scope y) = true := h
    simp only [Bool.and_eq_true, decide_eq_true_eq] at h
    obtain ⟨⟨⟨⟨rfl, h1⟩, h2⟩, h3⟩, h4⟩ := h
    exact s_raise A h1 h2 h3 h4
theorem w_try {b s : Mp.Ss} {c : Str} {nm : Option Nat} (gb : GSs T n N b) (gs : GSs T n N s) : GS T n N (.try_ b (.cons [c] nm s .nil)) := by
  intro S W hot X A x h
  have h : (match tryX x with
    | some (ys, x, nn, zs) => decide (c = x) && gl X.env.scope x && plainN x && (T.exk c).isSome && nmC N X.env.scope nm nn && chkSs T.exk N b X.env.scope ys && chkSs T.exk N s X.env.scope zs
    | none => false) = true := by cases x <;> exact h
  cases q : tryX x with
  | none => rw [q] at h; cases h
  | some r =>
    obtain ⟨ys, z, nn, zs⟩ := r
    rw [q] at h
    obtain ⟨z0, zr, p1, p2, p, rfl, rfl⟩ := tryX_eq q
    have h : (decide (c = z) && gl X.env.scope z && plainN z && (T.exk c).isSome && nmC N X.env.scope nm nn && chkSs T.exk N b X.env.scope ys && chkSs T.exk N s X.env.scope (z0 :: zr)) = true := h
    simp only [Bool.and_eq_true, decide_eq_true_eq] at h
    obtain ⟨⟨⟨⟨⟨⟨rfl, h1⟩, h2⟩, h3⟩, h4⟩, h5⟩, h6⟩ := h
    have hk := Option.isSome_iff_exists.mp h3
    cases nm with
    | none =>
      cases nn with
      | none => exact s_tryO A gb gs h1 h2 hk h5 h6
      | some _ => cases h4
    | some i =>
      cases nn with
      | none => cases h4
      | some nn =>
        have h4 : (decide (N[i]? = some nn) && decide (X.env.scope.names.lookup nn = some .local)) = true := h4
        simp only [Bool.and_eq_true, decide_eq_true_eq] at h4
        exact s_tryA A gb gs h1 h2 hk h4.1 h4.2 h5 h6
theorem w_nil : GSs T n N .nil := by
  intro S W hot X A xs h
  cases xs with
  | nil => exact pss_imp pss_nil rd_ss0
  | cons _ _ => cases h
theorem w_cons {s : Mp.S} {r : Mp.Ss} (gs : GS T n N s) (gr : GSs T n N r) : GSs T n N (.cons s r) := by
  intro S W hot X A xs h
  cases xs with
  | nil => cases h
  | cons x xs =>
    have h : (chkS T.exk N s X.env.scope x && chkSs T.exk N r X.env.scope xs) = true := h
    rw [Bool.and_eq_true] at h
    exact pss_imp (pss_cons (gs A x h.1) (gr A xs h.2)) rd_ss
theorem w_no {s : Mp.S} (h : ∀ ek sc x, chkS ek N s sc x = false) : GS T n N s := fun A x q => by
  rw [h] at q
  cases q
mutual
theorem goodS (T : Tab) (n : Nat) (N : List Str) : ∀ s : Mp.S, GS T n N s
  | .set _ _ => w_set
  | .setF _ _ _ => w_setF
  | .setI _ _ _ => w_setI
  | .aug _ _ _ => w_aug
  | .augF _ _ _ _ => w_augF
  | .augI _ _ _ _ => w_augI
  | .expr _ => w_expr
  | .ret _ => w_ret
  | .retN => w_retN
  | .ifs _ a b => w_ifs (goodSs T n N a) (goodSs T n N b)
  | .whl _ b => w_whl (goodSs T n N b)
  | .for_ _ _ b => w_for (goodSs T n N b)
  | .raise _ _ => w_raise
  | .try_ b (.cons [_] _ s .nil) => w_try (goodSs T n N b) (goodSs T n N s)
  | .try_ _ .nil => w_no fun _ _ x => by cases x <;> rfl
  | .try_ _ (.cons [] _ _ _) => w_no fun _ _ x => by cases x <;> rfl
  | .try_ _ (.cons (_ :: _ :: _) _ _ _) => w_no fun _ _ x => by cases x <;> rfl
  | .try_ _ (.cons [_] _ _ (.cons _ _ _ _)) => w_no fun _ _ x => by cases x <;> rfl
  | .pass => w_pass
  | .brk => w_brk
  | .cont => w_cont
theorem goodSs (T : Tab) (n : Nat) (N : List Str) : ∀ ss : Mp.Ss, GSs T n N ss
  | .nil => w_nil
  | .cons s r => w_cons (goodS T n N s) (goodSs T n N r)
end
end
end Mp

set_option Elab.async false
set_option linter.all false
set_option maxRecDepth 100000
set_option maxHeartbeats 4000000
/-! The small interpreter beside the layer: what is left behind a def. -/
namespace Mp
open PySem PySem.Spec PyProof.Rows L2
/-! ### numbers that are kept -/
theorem blt_iff {a b : Nat} : Nat.blt a b = true ↔ a < b := by
  unfold Nat.blt
  exact ⟨fun h => Nat.le_of_ble_eq_true h, fun h => Nat.ble_eq_true_of_le h⟩
def Fine (L : Nat) (ks : List Nat) : Prop := ks.Nodup ∧ ∀ k ∈ ks, L ≤ k
theorem addNew_ok {L : Nat} : ∀ (l ks : List Nat), Fine L ks → Fine L (addNew L l ks)
  | [], ks, h => h
  | i :: r, ks, h => by
    unfold addNew
    refine addNew_ok r _ ?_
    split
    · exact h
    · rename_i c
      simp only [Bool.or_eq_true, not_or] at c
      have c1 : ¬ i < L := fun z => c.1 (blt_iff.mpr z)
      have c2 : i ∉ ks := fun z => c.2 (by simpa using z)
      refine ⟨?_, fun k hk => ?_⟩
      · rw [List.nodup_append]
        refine ⟨h.1, by simp, fun a ha b hb => ?_⟩
        have : b = i := by simpa using hb
        subst this
        exact fun z => c2 (z ▸ ha)
      · rcases List.mem_append.mp hk with hk | hk
        · exact h.2 k hk
        · have : k = i := by simpa using hk
          omega
theorem reach_ok {m : Mem} {L : Nat} : ∀ (n j : Nat) (ks : List Nat), Fine L ks → Fine L (reach m L n j ks)
  | 0, _, _, h => h
  | n + 1, j, ks, h => by
    unfold reach
    split
    · exact h
    · exact reach_ok n _ _ (addNew_ok _ _ h)
theorem place_lt : ∀ {ks : List Nat} {i : Nat}, i ∈ ks → ks[place i ks]? = some i
  | [], _, h => by cases h
  | k :: r, i, h => by
    unfold place
    split
    · rename_i e
      subst e
      rfl
    · rename_i e
      rcases List.mem_cons.mp h with h | h
      · exact (e h).elim
      · have := place_lt h
        simpa using this
/-- allowed numbers -/
def In (L : Nat) (ks : List Nat) (i : Nat) : Prop := i < L ∨ i ∈ ks
theorem all_in {L : Nat} {ks l : List Nat} (h : l.all (fun i => Nat.blt i L || ks.contains i) = true) : ∀ i ∈ l, In L ks i := fun i hi => by
  have := List.all_eq_true.mp h i hi
  rw [Bool.or_eq_true] at this
  rcases this with h | h
  · exact .inl (blt_iff.mp h)
  · exact .inr (by simpa using h)
/-- the places: old ones as they are, kept ones behind them -/
structure Mv (L : Nat) (ks : List Nat) (f f' : List Addr) : Prop where
  at_ : ∀ i a, In L ks i → f[i]? = some a → f'[newNo L ks i]? = some a
section
variable {K : PySem.W.Frag} {f f' : List Addr} {H : Hp} {L : Nat} {ks : List Nat}
mutual
theorem RV.ren (m : Mv L ks f f') : ∀ (d : D) (v : V), (∀ i ∈ refsD d, In L ks i) → RV K f H d v → RV K f' H (renD (newNo L ks) d) v
  | .non, _, _, h => h
  | .bl _, _, _, h => h
  | .int _, _, _, h => h
  | .str _, _, _, h => h
  | .fn _, _, _, h => h
  | .ref i, _, r, h => by
    obtain ⟨a, e, z⟩ := h
    exact ⟨a, m.at_ i a (r i (by simp [refsD])) e, z⟩
  | .tup ds, _, r, h => by
    obtain ⟨a, xs, e, q, z⟩ := h
    exact ⟨a, xs, e, q, RVs.ren m ds xs r z⟩
theorem RVs.ren (m : Mv L ks f f') : ∀ (ds : List D) (xs : List V), (∀ i ∈ refsDs ds, In L ks i) → RVs K f H ds xs → RVs K f' H (renDs (newNo L ks) ds) xs
  | [], _, _, h => h
  | d :: r, _, q, h => by
    obtain ⟨v, z, e, h1, h2⟩ := h
    exact ⟨v, z, e, RV.ren m d v (fun i hi => q i (List.mem_append_left _ hi)) h1, RVs.ren m r z (fun i hi => q i (List.mem_append_right _ hi)) h2⟩
end
theorem RF.ren (m : Mv L ks f f') : ∀ (fs : List (Str × D)) (xs : List (Str × V)), (∀ i ∈ refsF fs, In L ks i) → RF K f H fs xs → RF K f' H (renF (newNo L ks) fs) xs
  | [], _, _, h => h
  | (x, d) :: r, _, q, h => by
    obtain ⟨v, z, e, h1, h2⟩ := h
    exact ⟨v, z, e, RV.ren m d v (fun i hi => q i (List.mem_append_left _ hi)) h1, RF.ren m r z (fun i hi => q i (List.mem_append_right _ hi)) h2⟩
theorem RK.ren (m : Mv L ks f f') : ∀ (fs : List (D × D)) (xs : List (Key × V)), (∀ i ∈ refsKV fs, In L ks i) → RK K f H fs xs → RK K f' H (renKV (newNo L ks) fs) xs
  | [], _, _, h => h
  | (k, d) :: r, _, q, h => by
    obtain ⟨kq, v, z, e, h0, h1, h2⟩ := h
    exact ⟨kq, v, z, e, RV.ren m k _ (fun i hi => q i (List.mem_append_left _ (List.mem_append_left _ hi))) h0, RV.ren m d v (fun i hi => q i (List.mem_append_left _ (List.mem_append_right _ hi))) h1, RK.ren m r z (fun i hi => q i (List.mem_append_right _ hi)) h2⟩
theorem renF_names (g : Nat → Nat) : ∀ fs : List (Str × D), (renF g fs).map (·.1) = fs.map (·.1)
  | [] => rfl
  | (x, d) :: r => by
    show x :: (renF g r).map (·.1) = x :: r.map (·.1)
    rw [renF_names g r]
theorem RO.ren {S : Sg} (m : Mv L ks f f') {o : O} {a : Addr} (hr : ∀ i ∈ refsO o, In L ks i) (h : RO S f H o a) : RO S f' H (renO (newNo L ks) o) a := by
  cases o with
  | lst ds =>
    obtain ⟨xs, e, r⟩ := h
    exact ⟨xs, e, RVs.ren m ds xs hr r⟩
  | frz ds =>
    obtain ⟨xs, e, r⟩ := h
    exact ⟨xs, e, RVs.ren m ds xs hr r⟩
  | dct kvs =>
    obtain ⟨xs, e, r, n⟩ := h
    exact ⟨xs, e, RK.ren m kvs xs hr r, n⟩
  | fdct kvs => exact h
  | ins c fs =>
    obtain ⟨C, dx, xs, e, q, r, z1, z2, z3⟩ := h
    exact ⟨C, dx, xs, e, q, RF.ren m fs xs hr r, z1, fun x hx => z2 x (by rw [renF_names] at hx; exact hx), z3⟩
  | exo c fs =>
    obtain ⟨d, ns, xs, e, q, r, z⟩ := h
    exact ⟨d, ns, xs, e, q, RF.ren m fs xs hr r, fun x hx => z x (by rw [renF_names] at hx; exact hx)⟩
  | dead => trivial
theorem own_ren (g : Nat → Nat) (o : O) : own (renO g o) = own o := by cases o <;> rfl
/-! numbers below L stay -/
mutual
theorem ren_low {g : Nat → Nat} (hg : ∀ i, i < L → g i = i) : ∀ d : D, (∀ i ∈ refsD d, i < L) → renD g d = d
  | .non, _ => rfl
  | .bl _, _ => rfl
  | .int _, _ => rfl
  | .str _, _ => rfl
  | .fn _, _ => rfl
  | .ref i, h => by
    show D.ref (g i) = D.ref i
    rw [hg i (h i (by simp [refsD]))]
  | .tup ds, h => by
    show D.tup (renDs g ds) = D.tup ds
    rw [rens_low hg ds h]
theorem rens_low {g : Nat → Nat} (hg : ∀ i, i < L → g i = i) : ∀ ds : List D, (∀ i ∈ refsDs ds, i < L) → renDs g ds = ds
  | [], _ => rfl
  | d :: r, h => by
    show renD g d :: renDs g r = d :: r
    rw [ren_low hg d (fun i hi => h i (List.mem_append_left _ hi)), rens_low hg r (fun i hi => h i (List.mem_append_right _ hi))]
end
theorem renF_low {g : Nat → Nat} (hg : ∀ i, i < L → g i = i) : ∀ ds : List (Str × D), (∀ i ∈ refsF ds, i < L) → renF g ds = ds
  | [], _ => rfl
  | (x, d) :: r, h => by
    show (x, renD g d) :: renF g r = (x, d) :: r
    rw [ren_low hg d (fun i hi => h i (List.mem_append_left _ hi)), renF_low hg r (fun i hi => h i (List.mem_append_right _ hi))]
theorem renKV_low {g : Nat → Nat} (hg : ∀ i, i < L → g i = i) : ∀ ds : List (D × D), (∀ i ∈ refsKV ds, i < L) → renKV g ds = ds
  | [], _ => rfl
  | (k, d) :: r, h => by
    show (renD g k, renD g d) :: renKV g r = (k, d) :: r
    rw [ren_low hg k (fun i hi => h i (List.mem_append_left _ (List.mem_append_left _ hi))), ren_low hg d (fun i hi => h i (List.mem_append_left _ (List.mem_append_right _ hi))), renKV_low hg r (fun i hi => h i (List.mem_append_right _ hi))]
theorem renO_low {g : Nat → Nat} (hg : ∀ i, i < L → g i = i) {o : O} (h : ∀ i ∈ refsO o, i < L) : renO g o = o := by
  cases o with
  | lst ds => show O.lst (renDs g ds) = _; rw [rens_low hg ds h]
  | frz ds => show O.frz (renDs g ds) = _; rw [rens_low hg ds h]
  | dct ds => show O.dct (renKV g ds) = _; rw [renKV_low hg ds h]
  | fdct ds => show O.fdct (renKV g ds) = _; rw [renKV_low hg ds h]
  | ins c ds => show O.ins c (renF g ds) = _; rw [renF_low hg ds h]
  | exo c ds => show O.exo c (renF g ds) = _; rw [renF_low hg ds h]
  | dead => rfl
/-! what is told of is there -/
mutual
theorem RV.there : ∀ (d : D) (v : V), RV K f H d v → ∀ i ∈ refsD d, i < f.length
  | .non, _, _, _, hi => by cases hi
  | .bl _, _, _, _, hi => by cases hi
  | .int _, _, _, _, hi => by cases hi
  | .str _, _, _, _, hi => by cases hi
  | .fn _, _, _, _, hi => by cases hi
  | .ref j, _, h, i, hi => by
    obtain ⟨a, e, _⟩ := h
    have : i = j := by simpa [refsD] using hi
    subst this
    exact (List.getElem?_eq_some_iff.mp e).1
  | .tup ds, _, h, i, hi => by
    obtain ⟨a, xs, e, q, z⟩ := h
    exact RVs.there ds xs z i hi
theorem RVs.there : ∀ (ds : List D) (xs : List V), RVs K f H ds xs → ∀ i ∈ refsDs ds, i < f.length
  | [], _, _, _, hi => by cases hi
  | d :: r, _, h, i, hi => by
    obtain ⟨v, z, e, h1, h2⟩ := h
    rcases List.mem_append.mp hi with hi | hi
    · exact RV.there d v h1 i hi
    · exact RVs.there r z h2 i hi
end
theorem RF.there : ∀ (ds : List (Str × D)) (xs : List (Str × V)), RF K f H ds xs → ∀ i ∈ refsF ds, i < f.length
  | [], _, _, _, hi => by cases hi
  | (x, d) :: r, _, h, i, hi => by
    obtain ⟨v, z, e, h1, h2⟩ := h
    rcases List.mem_append.mp hi with hi | hi
    · exact RV.there d v h1 i hi
    · exact RF.there r z h2 i hi
theorem RK.there : ∀ (ds : List (D × D)) (xs : List (Key × V)), RK K f H ds xs → ∀ i ∈ refsKV ds, i < f.length
  | [], _, _, _, hi => by cases hi
  | (k, d) :: r, _, h, i, hi => by
    obtain ⟨kq, v, z, e, h0, h1, h2⟩ := h
    rcases List.mem_append.mp hi with hi | hi
    · rcases List.mem_append.mp hi with hi | hi
      · exact RV.there k _ h0 i hi
      · exact RV.there d v h1 i hi
    · exact RK.there r z h2 i hi
theorem RO.there {S : Sg} {o : O} {a : Addr} (h : RO S f H o a) : ∀ i ∈ refsO o, i < f.length := by
  cases o with
  | lst ds => obtain ⟨xs, e, r⟩ := h; exact RVs.there ds xs r
  | frz ds => obtain ⟨xs, e, r⟩ := h; exact RVs.there ds xs r
  | dct ds => obtain ⟨xs, e, r, n⟩ := h; exact RK.there ds xs r
  | fdct ds => exact h.elim
  | ins c ds => obtain ⟨C, dx, xs, e, q, r, z⟩ := h; exact RF.there ds xs r
  | exo c ds => obtain ⟨d, ns, xs, e, q, r, z⟩ := h; exact RF.there ds xs r
  | dead => intro i hi; cases hi
theorem oldOk_at {L : Nat} : ∀ (m0 m : Mem), oldOk L m0 m = true → ∀ (i : Nat) (o : O), i < m0.length → m[i]? = some o → m0[i]? = some o ∨ ∀ j ∈ refsO o, j < L
  | [], _, _, i, _, hi, _ => absurd hi (Nat.not_lt_zero i)
  | _ :: _, [], h, _, _, _, _ => by cases h
  | o0 :: r0, o :: r, h, i, o', hi, e => by
    unfold oldOk at h
    rw [Bool.and_eq_true, Bool.or_eq_true] at h
    cases i with
    | zero =>
      have e : some o = some o' := e
      cases e
      rcases h.1 with h1 | h1
      · left
        have : o0 = o := of_decide_eq_true h1
        rw [this]
        rfl
      · exact .inr fun j hj => blt_iff.mp (List.all_eq_true.mp h1 j hj)
    | succ i =>
      have := oldOk_at r0 r h.2 i o' (by simpa using hi) (by simpa using e)
      simpa using this
theorem oldOk_len {L : Nat} : ∀ (m0 m : Mem), oldOk L m0 m = true → m0.length ≤ m.length
  | [], _, _ => Nat.zero_le _
  | _ :: _, [], h => by cases h
  | o0 :: r0, o :: r, h => by
    unfold oldOk at h
    rw [Bool.and_eq_true] at h
    exact Nat.succ_le_succ (oldOk_len r0 r h.2)
structure Kept (m0 m : Mem) (rs ks : List Nat) : Prop where
  lt : m0.length < m.length
  old : oldOk m0.length m0 m = true
  fine : Fine m0.length ks
  rs_ : ∀ i ∈ rs, In m0.length ks i
  ks_ : ∀ k ∈ ks, k < m.length ∧ ∀ i ∈ refsAt m k, In m0.length ks i
theorem kept_ok {m0 m : Mem} {rs ks : List Nat} (h : kept m0 m rs = some ks) : Kept m0 m rs ks := by
  unfold kept at h
  split at h
  · cases h
  · rename_i h1
    split at h
    · rename_i h2
      dsimp only at h
      split at h
      · rename_i h3
        cases h
        unfold keptAll at h3
        rw [Bool.and_eq_true] at h3
        refine ⟨by omega, h2, reach_ok _ _ _ (addNew_ok _ _ ⟨List.nodup_nil, fun k hk => by cases hk⟩), all_in h3.1, fun k hk => ?_⟩
        have := List.all_eq_true.mp h3.2 k hk
        rw [Bool.and_eq_true] at this
        exact ⟨of_decide_eq_true this.1, all_in this.2⟩
      · cases h
    · cases h
theorem getD_some {α : Type} {l : List α} {i : Nat} {x d : α} (h : l[i]? = some x) : l.getD i d = x := by
  rw [List.getD_eq_getElem?_getD, h]
  rfl
theorem sweep_ok {S : Sg} {f0 f' : List Addr} {H0 H' : Hp} {m0 m : Mem} {rs ks : List Nat} (r0 : RM S f0 H0 m0) (hf : f0 <+: f') (r : RM S f' H' m) (h : kept m0 m rs = some ks) :
    ∃ f'', f0 <+: f'' ∧ RM S f'' H' (swept m m0.length ks) ∧ Mv m0.length ks f' f'' ∧ ∀ i ∈ rs, In m0.length ks i := by
  have k := kept_ok h
  have l0 := r0.len
  have l1 := r.len
  refine ⟨f0 ++ ks.map (fun k => f'.getD k 0), List.prefix_append _ _, ?_, ?_, k.rs_⟩
  case refine_2 =>
    refine ⟨fun i a hi e => ?_⟩
    by_cases hl : i < m0.length
    · unfold newNo
      rw [if_pos hl, List.getElem?_append_left (by omega)]
      obtain ⟨q, rfl⟩ := hf
      rw [List.getElem?_append_left (by omega)] at e
      exact e
    · unfold newNo
      rw [if_neg hl]
      rcases hi with hi | hi
      · exact (hl hi).elim
      · rw [← l0, List.getElem?_append_right (Nat.le_add_right _ _), Nat.add_sub_cancel_left, List.getElem?_map, place_lt hi]
        show some (f'.getD i 0) = some a
        rw [getD_some e]
  case refine_1 =>
    have mv : Mv m0.length ks f' (f0 ++ ks.map (fun k => f'.getD k 0)) := by
      refine ⟨fun i a hi e => ?_⟩
      by_cases hl : i < m0.length
      · unfold newNo
        rw [if_pos hl, List.getElem?_append_left (by omega)]
        obtain ⟨q, rfl⟩ := hf
        rw [List.getElem?_append_left (by omega)] at e
        exact e
      · unfold newNo
        rw [if_neg hl]
        rcases hi with hi | hi
        · exact (hl hi).elim
        · rw [← l0, List.getElem?_append_right (Nat.le_add_right _ _), Nat.add_sub_cancel_left, List.getElem?_map, place_lt hi]
          show some (f'.getD i 0) = some a
          rw [getD_some e]
    have low : ∀ i, i < m0.length → newNo m0.length ks i = i := fun i hi => by unfold newNo; rw [if_pos hi]
    have tl : (m.take m0.length).length = m0.length := by rw [List.length_take]; have := k.lt; omega
    -- where a number comes from
    have src : ∀ (i : Nat) (o : O), (swept m m0.length ks)[i]? = some o → ∃ (j : Nat) (o' : O), m[j]? = some o' ∧ In m0.length ks j ∧ i = newNo m0.length ks j ∧ o = renO (newNo m0.length ks) o' ∧ (∀ z ∈ refsO o', In m0.length ks z) := fun i o e => by
      unfold swept at e
      by_cases hi : i < m0.length
      · rw [List.getElem?_append_left (by omega), List.getElem?_take_of_lt hi] at e
        have refs : ∀ z ∈ refsO o, z < m0.length := by
          rcases oldOk_at m0 m k.old i o hi e with q | q
          · obtain ⟨a, ea, ro⟩ := r0.at_ i o q
            have := RO.there ro
            rw [l0] at this
            exact this
          · exact q
        exact ⟨i, o, e, .inl hi, (low i hi).symm, (renO_low low refs).symm, fun z hz => .inl (refs z hz)⟩
      · rw [List.getElem?_append_right (by omega), tl, List.getElem?_map] at e
        cases q : ks[i - m0.length]? with
        | none => rw [q] at e; cases e
        | some kk =>
          rw [q] at e
          have hm := List.mem_of_getElem? q
          obtain ⟨q1, q2⟩ := k.ks_ kk hm
          have e3 : m[kk]? = some m[kk] := List.getElem?_eq_getElem q1
          have e : some (renO (newNo m0.length ks) (m.getD kk default)) = some o := e
          rw [getD_some e3] at e
          cases e
          refine ⟨kk, m[kk], e3, .inr hm, ?_, rfl, fun z hz => q2 z ?_⟩
          · unfold newNo
            have := k.fine.2 kk hm
            rw [if_neg (by omega)]
            have p1 := place_lt hm
            have p2 : place kk ks = i - m0.length := by
              have l1 := (List.getElem?_eq_some_iff.mp p1).1
              have l2 := (List.getElem?_eq_some_iff.mp q).1
              exact (List.getElem?_inj l1 k.fine.1).mp (p1.trans q.symm)
            omega
          · unfold refsAt
            rw [e3]
            exact hz
    refine ⟨fun i j a o1 o2 e1 e2 w1 w2 g1 g2 => ?_, ?_, fun i o e => ?_⟩
    · obtain ⟨p1, z1, q1, n1, rfl, rfl, _⟩ := src i o1 e1
      obtain ⟨p2, z2, q2, n2, rfl, rfl, _⟩ := src j o2 e2
      rw [own_ren] at w1 w2
      obtain ⟨b1, eb1, _⟩ := r.at_ p1 z1 q1
      obtain ⟨b2, eb2, _⟩ := r.at_ p2 z2 q2
      have h1 := mv.at_ p1 b1 n1 eb1
      have h2 := mv.at_ p2 b2 n2 eb2
      rw [g1] at h1
      rw [g2] at h2
      cases h1
      cases h2
      rw [r.nd p1 p2 a z1 z2 q1 q2 w1 w2 eb1 eb2]
    · unfold swept
      rw [List.length_append, List.length_append, List.length_map, List.length_map, tl, l0]
    · obtain ⟨p1, z1, q1, n1, rfl, rfl, rf⟩ := src i o e
      obtain ⟨b1, eb1, ro⟩ := r.at_ p1 z1 q1
      exact ⟨b1, mv.at_ p1 b1 n1 eb1, RO.ren mv rf ro⟩
/-- a def's end -/
theorem fin_ok {S : Sg} {f : List Addr} {H : Hp} {m0 : Mem} {E : XK} {Q : VK} {r : SR} (r0 : RM S f H m0) (h : PostE S f H E (finR m0 r) Q) : PostS S f H (fun cls d _ H' => E cls d H') r { nx := fun _ H' => Q .non H', rt := Q } := by
  have val : ∀ {d : D} {m : Mem}, PostE S f H E (gc m0 d m) Q → ∀ f' H' v, f <+: f' → RM S f' H' m → Pres H H' → RV S.K f' H' d v → Q v H' := fun {d m} h f' H' v a b c rv => by
    unfold gc at h
    cases e : kept m0 m (refsD d) with
    | none => rw [e] at h; exact h f' H' v a b c rv
    | some ks =>
      rw [e] at h
      obtain ⟨f2, a2, b2, mv, hr⟩ := sweep_ok r0 a b e
      exact (show PostE S f H E (.ok _ _) Q from h) f2 H' v a2 b2 c (RV.ren mv d v hr rv)
  cases r with
  | nx ρ m => exact fun f' H' σ' a b c _ => val (d := .non) h f' H' .non a b c rfl
  | rt d m => exact fun f' H' v a b c rv => val h f' H' v a b c rv
  | bk ρ m => exact h.elim
  | ct ρ m => exact h.elim
  | bad => exact h.elim
  | exc x ρ m =>
    intro f' H' σ' cls bb a b c _ rx
    have h : PostE S f H E (gcX m0 x m) Q := h
    unfold gcX at h
    cases e : kept m0 m (refsF x.fs) with
    | none => rw [e] at h; exact h f' H' cls bb a b c rx
    | some ks =>
      rw [e] at h
      obtain ⟨f2, a2, b2, mv, hr⟩ := sweep_ok r0 a b e
      obtain ⟨C, b0, xs, eC, ec, eb, hxd, rf⟩ := rx
      exact (show PostE S f H E (.exc _ _) Q from h) f2 H' cls bb a2 b2 c ⟨C, b0, xs, eC, ec, eb, hxd, RF.ren mv _ _ hr rf⟩
end
end Mp

set_option Elab.async false
set_option linter.all false
set_option maxRecDepth 100000
set_option maxHeartbeats 4000000
/-! The small interpreter beside the layer: every def, by the depth of its calls. -/
namespace Mp
open PySem PySem.Spec PyProof.Rows L2
/-- what the text's top has written -/
structure DefTxt (S : Sg) (T : Tab) (K : PySem.W.Frag) (mg : Str → Option Value) (pn : Fn → List Str) (g : Fn) (d : Df) : Prop where
  ok : ∃ (fa : Addr) (name qual : Str) (params : Arguments) (body : List Stmt) (scope : Scope) (dV kV doc pm cdv ct oc : Value) (an od : Option Addr) (osl : Array (Option Value)) (N ps : List Str),
    K.lookup fa = some ⟨oc, od, .func (PySem.W.fnOf name qual params body scope dV kV doc pm an cdv ct), osl⟩ ∧ PySem.W.codeIn K cdv qual = true ∧ FnScope N ps scope ∧ ps.length = d.pars ∧ ps = pn g ∧ N.length = d.slots ∧
    chkSs T.exk N d.body scope body = true ∧ PySem.W.keepIn K (.ref fa) = true ∧ (∀ (s : Shared) (us : List Value), us.length = ps.length → BindsTo s (PySem.W.fnOf name qual params body scope dV kV doc pm an cdv ct) ⟨us, []⟩ (ps.zip us)) ∧
    (match g.2 with
      | none => mg g.1 = some (.ref fa)
      | some m => ∃ C, S.ca g.1 = some C ∧ (if m = "__init__" then Mk K C fa ∧ mg g.1 = some (.ref C) else Cls K C ∧ Meth K C m fa))
structure Txt (S : Sg) (T : Tab) (K : PySem.W.Frag) (mg : Str → Option Value) (pn : Fn → List Str) : Prop where
  kk : K = S.K
  ex : S.ex = none
  glo : ∀ x d, T.glo x = some d → ∃ u v, mg x = some u ∧ RelV v u ∧ ∀ f H, RV S.K f H d v
  free : ∀ b, b ∈ bnames → mg b = none
  exn : ∀ c fd, T.exf c = some fd → ∃ C fI, S.ca c = some C ∧ PySem.ErrX.ErrTxt K mg c fd C fI
  sub : ∀ c C c' C', (T.exf c).isSome = true → (∃ b, T.exk c' = some b) → S.ca c = some C → S.ca c' = some C' → PySem.W.exmOne K (.ref C) (.ref C') = some (T.sub c c')
  exc : ∀ c', (∃ b, T.exk c' = some b) → ∃ C', S.ca c' = some C'
  cls : ∀ c C, S.ca c = some C → mg c = some (.ref C)
  isC : T.isC = S.isC
  caC : ∀ c, T.isC c = true → ∃ C, S.ca c = some C
  clsF : ∀ c C, S.ca c = some C → T.isC c = true → ClsF K C
  fld : ∀ c C x, S.ca c = some C → T.fld c x = true → NoAttr K C x
  own : ∀ c C, S.ca c = some C → T.isC c = true → (∀ n : Tn, PySem.W.kitOne K (.type (tnS n)) (.ref C) = some false ∧ PySem.W.kitOne K (.ref C) (.type (tnS n)) = some false) ∧ ∀ c' C', S.ca c' = some C' → T.isC c' = true → PySem.W.kitOne K (.ref C) (.ref C') = some (decide (c = c'))
  defs : ∀ g d, T.df g = some d → DefTxt S T K mg pn g d
structure FnAt0 (S : Sg) (T : Tab) (P : Program) (w : World) (K : PySem.W.Frag) (mg : Str → Option Value) (pn : Fn → List Str) (base : Heap) (k : Nat) (g : Fn) (d : Df) : Prop where
  ok : ∃ fa fd ps, ps = pn g ∧ ps.length = d.pars ∧ PySem.W.keepIn K (.ref fa) = true ∧ Binds K fd ps [] ∧ FnOk P w K mg base (L2.CX P w) k fa fd ps (spI S (callD T k) d.pars g) ∧
    (match g.2 with
      | none => mg g.1 = some (.ref fa)
      | some m => ∃ C, S.ca g.1 = some C ∧ (if m = "__init__" then Mk K C fa ∧ mg g.1 = some (.ref C) else Cls K C ∧ Meth K C m fa))
section
variable {S : Sg} {T : Tab} {P : Program} {w : World} {K : PySem.W.Frag} {mg : Str → Option Value} {pn : Fn → List Str} {base : Heap}
theorem RVs.start {f : List Addr} {H : Hp} {ds : List D} {vs : List V} {n : Nat} {N : List Str} (h : RVs S.K f H ds vs) (hn : N.length = n) : RE S.K f H (startE n ds) (L2.start N vs) := by
  unfold startE L2.start
  have hl := h.length
  refine ⟨by simp [hl, hn], fun i d e => ?_⟩
  by_cases hi : i < ds.length
  · rw [List.getElem?_append_left (by simpa using hi), List.getElem?_map] at e
    cases q : ds[i]? with
    | none => rw [q] at e; cases e
    | some d' =>
      rw [q] at e
      cases e
      obtain ⟨v, ev, rv⟩ := h.get q
      exact ⟨v, by rw [List.getElem?_append_left (by simpa [← hl] using hi), List.getElem?_map, ev]; rfl, rv⟩
  · rw [List.getElem?_append_right (by simpa using hi)] at e
    rw [List.getElem?_replicate] at e
    split at e <;> cases e
theorem binds_all {fd : FuncData} {ps : List Str} (h : ∀ (s : Shared) (us : List Value), us.length = ps.length → BindsTo s fd ⟨us, []⟩ (ps.zip us)) : Binds K fd ps [] := fun s us _ hl => by
  rw [List.append_nil] at hl ⊢
  exact h s us hl
theorem fn_step (X : Txt S T K mg pn) {k : Nat} (ih : ∀ j, j ≤ k → ∀ g d, T.df g = some d → FnAt0 S T P w K mg pn base j g d) {g : Fn} {d : Df} (e : T.df g = some d) {fa : Addr} {name qual : Str} {params : Arguments} {body : List Stmt} {scope : Scope} {dV kV doc pm cdv ct oc : Value} {an od : Option Addr} {osl : Array (Option Value)} {N ps : List Str}
    (lk : K.lookup fa = some ⟨oc, od, .func (PySem.W.fnOf name qual params body scope dV kV doc pm an cdv ct), osl⟩) (hcd : PySem.W.codeIn K cdv qual = true) (sc : FnScope N ps scope) (h1 : ps.length = d.pars) (h2 : N.length = d.slots) (h3 : chkSs T.exk N d.body scope body = true) :
    FnOk P w K mg base (L2.CX P w) (k + 1) fa (PySem.W.fnOf name qual params body scope dV kV doc pm an cdv ct) ps (spI S (callD T (k + 1)) d.pars g) := by
  refine fn_of lk hcd sc (fun vs H Q E h => by rw [h1]; exact h.1) fun A outer s H vs Q E hr h => ?_
  obtain ⟨hlen, f, M, ds, rm, rs, h⟩ := h
  rw [callD_succ, e] at h
  have hds : ds.length = d.pars := by rw [rs.length, hlen]
  have h : PostE S f H E (if ds.length = d.pars then finR M (evSs (wd T k) T.exf T.sub d.body (startE d.slots ds) M) else .bad) Q := h
  rw [if_pos hds] at h
  refine ⟨tSs S (fun cls d _ H => E cls d H) (wdh T k false) T d.body, ?_, f, M, startE d.slots ds, rm, rs.start h2, fin_ok rm h⟩
  refine goodSs T k N d.body (hot := false) (X := cxOf (L2.CX P w) P w K mg base N qual scope fa cdv A outer s H E) ⟨?_, rfl, ⟨fun x q => q, fun x q => ⟨q, rfl⟩⟩, sc.kind, fun _ => passes_of rfl, fun _ => ⟨rfl, rfl⟩⟩ body h3
  exact
    { K := X.kk
      room := fun _ => hr
      calm := fun _ => rfl
      units := by
        have := hr.un
        show (A.deeper (envOfC qual scope s.heap.objs.size fa cdv)).units + 100 < cLine
        omega
      nd := sc.nd
      tk := takes_of rfl rfl rfl rfl
      glo := X.glo
      free := X.free
      fns := fun _ g' d' e' => ⟨let ⟨a, b, c, _, z⟩ := (ih k (Nat.le_refl k) g' d' e').ok; ⟨a, b, c, z⟩⟩
      fns1 := fun _ g' d' e' => ⟨let ⟨a, b, c, _, z⟩ := (ih (k - 1) (Nat.sub_le k 1) g' d' e').ok; ⟨a, b, c, z⟩⟩
      cold := fun _ => X.ex
      exn := X.exn
      sub := X.sub
      exc := X.exc
      xf := fun a d ns q => by rw [X.ex] at q; cases q
      cls := X.cls
      isC := X.isC
      caC := X.caC
      clsF := X.clsF
      fld := X.fld
      own := X.own }
theorem fnat (X : Txt S T K mg pn) : ∀ (k : Nat), ∀ j, j ≤ k → ∀ g d, T.df g = some d → FnAt0 S T P w K mg pn base j g d := by
  intro k
  induction k with
  | zero =>
    intro j hj g d e
    have : j = 0 := Nat.le_zero.mp hj
    subst this
    obtain ⟨fa, name, qual, params, body, scope, dV, kV, doc, pm, cdv, ct, oc, an, od, osl, N, ps, lk, hcd, sc, h1, h1', h2, h3, h4, h5, h6⟩ := (X.defs g d e).ok
    refine ⟨fa, _, ps, h1', h1, h4, binds_all h5, ⟨fun vs H Q E h => by rw [h1]; exact h.1, fun A outer s H args us vs Q E _ _ _ _ h => ?_⟩, h6⟩
    obtain ⟨_, f, M, ds, rm, rs, h⟩ := h
    exact h.elim
  | succ k ih =>
    intro j hj g d e
    by_cases hk : j ≤ k
    · exact ih j hk g d e
    · have : j = k + 1 := by omega
      subst this
      obtain ⟨fa, name, qual, params, body, scope, dV, kV, doc, pm, cdv, ct, oc, an, od, osl, N, ps, lk, hcd, sc, h1, h1', h2, h3, h4, h5, h6⟩ := (X.defs g d e).ok
      exact ⟨fa, _, ps, h1', h1, h4, binds_all h5, fn_step X ih e lk hcd sc h1 h2 h3, h6⟩
end
end Mp

set_option Elab.async false
set_option linter.all false
set_option maxRecDepth 100000
set_option maxHeartbeats 4000000
/-! The small interpreter beside the layer: the text's top by one check. -/
namespace Mp
open PySem PySem.Spec PyProof.Rows L2
/-- a def: its compact text, where it stands, its names -/
structure DefC where
  g : Fn
  d : Df
  st : He.DefD
  N : List Str
  ps : List Str
structure DefC.Ok (ek : Str → Option Unit) (c : DefC) : Prop where
  at_ : c.st.at_ = c.g
  dfl : c.st.dfl = []
  kwd : c.st.kwd = []
  sc : FnScope c.N c.ps c.st.scope
  np : c.ps.length = c.d.pars
  ns : c.N.length = c.d.slots
  chk : chkSs ek c.N c.d.body c.st.scope c.st.body = true
  bind : ∀ (kV doc pm : Value) (an : Option Addr) (cdv ct : Value) (us : List Value), us.length = c.ps.length → bindArgs (PySem.W.fnOf c.st.name c.st.qual c.st.params c.st.body c.st.scope .none kV doc pm an cdv ct) ⟨us, []⟩ = pure (c.ps.zip us)
/-- an own error -/
structure ErC where
  cn : Str
  fd : Str
  st : He.DefD
structure ErC.Ok (c : ErC) : Prop where
  at_ : c.st.at_ = (c.cn, some ("__init__" : Str))
  dfl : c.st.dfl = []
  kwd : c.st.kwd = []
  nm : c.st.name = "__init__"
  fdK : c.fd ∈ PySem.ErrX.fnames
  pa : ∃ p1 p2, c.st.params = PySem.ErrX.iA c.fd p1 p2
  bo : ∃ q1 q2 q3 q4, c.st.body = PySem.ErrX.iB c.fd q1 q2 q3 q4
  sc : c.st.scope = PySem.ErrX.iS c.fd
structure Cfg where
  defs : List DefC
  ers : List ErC
  glos : List (Str × D)
  cs : List Str
  ks : List Str
  subs : List (Str × Str)
  flds : List (Str × Str)
  turns : Nat
namespace Cfg
variable (c : Cfg)
def names : List Str := c.cs ++ (c.ers.map (·.cn) ++ c.ks)
def T : Tab where
  df := fun g => (c.defs.find? fun x => decide (x.g = g)).map (·.d)
  glo := fun x => (c.glos.find? fun p => decide (p.1 = x)).map (·.2)
  exf := fun x => (c.ers.find? fun p => decide (p.cn = x)).map (·.fd)
  sub := fun a b => decide ((a, b) ∈ c.subs)
  exk := fun x => if x ∈ c.ks then some () else none
  fld := fun a b => decide ((a, b) ∈ c.flds)
  isC := fun x => decide (x ∈ c.cs)
  turns := c.turns
def pn : Fn → List Str := fun g => match c.defs.find? fun x => decide (x.g = g) with
  | some x => x.ps
  | none => []
def S (K : PySem.W.Frag) : Sg := ⟨K, fun x => if x ∈ c.names then some (He.ga K x) else none, fun x => decide (x ∈ c.cs), none⟩
end Cfg
/-! ### the checks -/
def refAt : Value → Option Addr
  | .ref a => some a
  | _ => none
mutual
def relD (K : PySem.W.Frag) : D → Value → Bool
  | .non, .none => true
  | .bl b, .bool c => b == c
  | .int i, .int j _ => decide (i = j)
  | .str x, .str y _ => decide (x = y)
  | .tup ds, .ref a => (match K.lookup a with
    | some ⟨.type t, _, .seq its _, _⟩ => decide (t = "tuple") && decide (its.size ≤ 1000) && relDs K ds its.toList
    | _ => false)
  | _, _ => false
def relDs (K : PySem.W.Frag) : List D → List Value → Bool
  | [], [] => true
  | d :: r, u :: q => relD K d u && relDs K r q
  | _, _ => false
end
mutual
theorem relD_ok {K : PySem.W.Frag} : ∀ (d : D) (u : Value), relD K d u = true → ∃ v, RelV v u ∧ ∀ f H, RV K f H d v
  | .non, u, h => by
    cases u with
    | none => exact ⟨.non, rfl, fun _ _ => rfl⟩
    | _ => cases h
  | .bl b, u, h => by
    cases u with
    | bool c =>
      have e : b = c := by simpa using (show (b == c) = true from h)
      exact ⟨.bl b, by rw [e]; rfl, fun _ _ => rfl⟩
    | _ => cases h
  | .int i, u, h => by
    cases u with
    | int j t =>
      have e : i = j := of_decide_eq_true h
      exact ⟨.int i, ⟨t, by rw [e]⟩, fun _ _ => rfl⟩
    | _ => cases h
  | .str i, u, h => by
    cases u with
    | str j t =>
      have e : i = j := of_decide_eq_true h
      exact ⟨.str i, ⟨t, by rw [e]⟩, fun _ _ => rfl⟩
    | _ => cases h
  | .ref _, u, h => by cases u <;> cases h
  | .fn _, u, h => by cases u <;> cases h
  | .tup ds, u, h => by
    cases u with
    | ref a =>
      have h : (match K.lookup a with
        | some ⟨.type t, _, .seq its _, _⟩ => decide (t = "tuple") && decide (its.size ≤ 1000) && relDs K ds its.toList
        | _ => false) = true := h
      split at h
      · rename_i t dd its n sl e
        simp only [Bool.and_eq_true, decide_eq_true_eq] at h
        obtain ⟨⟨h1, h2⟩, h3⟩ := h
        obtain ⟨vs, r, rv⟩ := relDs_ok ds _ h3
        exact ⟨.ref a, rfl, fun f H => ⟨a, vs, rfl, .inr ⟨_, its, n, e, by rw [h1], rfl, by rw [sizeLine_eq]; omega, r⟩, rv f H⟩⟩
      · cases h
    | _ => cases h
theorem relDs_ok {K : PySem.W.Frag} : ∀ (ds : List D) (us : List Value), relDs K ds us = true → ∃ vs, Vals vs us ∧ ∀ f H, RVs K f H ds vs
  | [], us, h => by
    cases us with
    | nil => exact ⟨[], .nil, fun _ _ => rfl⟩
    | cons _ _ => cases h
  | d :: r, us, h => by
    cases us with
    | nil => cases h
    | cons u q =>
      have h : (relD K d u && relDs K r q) = true := h
      rw [Bool.and_eq_true] at h
      obtain ⟨v, r1, r2⟩ := relD_ok d u h.1
      obtain ⟨vs, q1, q2⟩ := relDs_ok r q h.2
      exact ⟨v :: vs, .cons r1 q1, fun f H => ⟨v, vs, rfl, r2 f H, q2 f H⟩⟩
end
def gloB (K : PySem.W.Frag) (x : Str) (d : D) : Bool := match PySem.W.nsIn K mainGlobals x with
  | some (some u) => relD K d u
  | _ => false
def clsFB (K : PySem.W.Frag) (C : Addr) : Bool := He.eqO (PySem.W.findIn K (.ref C) "__class__") (some (some (.builtin "object.__class__"))) && He.eqO (PySem.W.specialIn K (.builtin "object.__class__") "__get__") (some (some (.builtin "getset_descriptor.__get__"))) &&
  decide (PySem.W.takesIn K (.builtin "object.__class__") = some true) && decide (PySem.W.mroIn K C (.type "object") = some true) &&
  He.eqO (PySem.W.findIn K (.ref C) "__ne__") (some (some (.builtin "object.__ne__")))
theorem clsFB_ok {K : PySem.W.Frag} {x : Str} (h1 : (He.Fa.cls x).ok K = true) (h : clsFB K (He.ga K x) = true) : ClsF K (He.ga K x) := by
  unfold clsFB at h
  simp only [Bool.and_eq_true, decide_eq_true_eq] at h
  exact ⟨He.cls_ok h1, He.eqO_ok h.1.1.1.1, He.eqO_ok h.1.1.1.2, h.1.1.2, h.1.2, He.eqO_ok h.2⟩
/-- a class of errors as it lies -/
def excB (K : PySem.W.Frag) (C : Addr) : Bool := match K.lookup C with
  | some ⟨.type t, _, .cls cd, sl⟩ => (match cd.mro, sl.toList with
    | .ref C' :: bm, [_, _, _, _, some (.builtin n), _] => decide (t = "type") && (C' == C) && (n == "ValueError.__new__") && !cd.hasDel && cd.hasDict && PySem.HandSPX.refsVE bm
    | _, _ => false)
  | _ => false
theorem excB_ok {K : PySem.W.Frag} {C : Addr} (q : excB K C = true) : ∃ nm q N bs bm sn sub ab col dd k0 k1 k2 k3 k5, K.lookup C = some (excClassObj nm q C N bs bm true sn sub ab col dd k0 k1 k2 k3 k5 "ValueError.__new__") ∧ PySem.HandSPX.refsVE bm = true := by
  unfold excB at q
  split at q
  · rename_i t dd cd sl ho
    split at q
    · rename_i C' bm k0 k1 k2 k3 n k5 hm hs
      simp only [Bool.and_eq_true, beq_iff_eq, Bool.not_eq_true', decide_eq_true_eq] at q
      obtain ⟨⟨⟨⟨⟨rfl, rfl⟩, rfl⟩, hdel⟩, hd2⟩, ht⟩ := q
      obtain ⟨nm, bs, mro, ns, qn, hd, sn, sub, ab, col, del⟩ := cd
      dsimp only at hm hdel hd2
      subst hm hdel hd2
      have hsl : sl = #[k0, k1, k2, k3, some (.builtin "ValueError.__new__"), k5] := by
        obtain ⟨l⟩ := sl
        simp only at hs
        rw [hs]
      subst hsl
      exact ⟨nm, qn, ns, bs, bm, sn, sub, ab, col, dd, k0, k1, k2, k3, k5, ho, ht⟩
    · cases q
  · cases q
def errB (K : PySem.W.Frag) (x fd : Str) : Bool := (He.Fa.glo x).ok K && excB K (He.ga K x) && He.eqO (PySem.W.findIn K (.ref (He.ga K x)) "__setattr__") (some (some (.builtin "object.__setattr__"))) &&
  He.eqO (PySem.W.findIn K (.ref (He.ga K x)) "__getattribute__") (some (some (.builtin "BaseException.__getattribute__"))) && He.eqO (PySem.W.findIn K (.ref (He.ga K x)) "__getattr__") (some none) &&
  He.eqO (PySem.W.findIn K (.ref (He.ga K x)) fd) (some none) && He.eqO (PySem.W.findIn K (.ref (He.ga K x)) "__init__") (some (some (.ref (He.fAd K (x, some ("__init__" : Str)))))) &&
  decide (PySem.W.typeIn K (.ref (He.fAd K (x, some ("__init__" : Str)))) = some (.type "function")) && PySem.W.keepIn K (.ref (He.ga K x)) && decide (PySem.W.subIn K (.ref (He.ga K x)) (.type "BaseException") = some true) &&
  decide (PySem.W.typeIn K (.ref (He.ga K x)) = some (.type "type")) && PySem.W.hasDictIn K (He.ga K x)
theorem errB_ok {K : PySem.W.Frag} {h : Heap} {mg : Str → Option Value} (X : K.In h) (G : h.Ns mainGlobals mg) {c : ErC} (o : c.Ok) (b : errB K c.cn c.fd = true)
    (F : ∃ fd, FunD K c.st.name c.st.qual c.st.params c.st.body c.st.scope (c.st.dvs K) (c.st.kws K) (He.fAd K c.st.at_) fd) : PySem.ErrX.ErrTxt K mg c.cn c.fd (He.ga K c.cn) (He.fAd K (c.cn, some ("__init__" : Str))) := by
  unfold errB at b
  simp only [Bool.and_eq_true, decide_eq_true_eq] at b
  obtain ⟨⟨⟨⟨⟨⟨⟨⟨⟨⟨⟨b1, b2⟩, b3⟩, b4⟩, b5⟩, b6⟩, b7⟩, b8⟩, b9⟩, b10⟩, b11⟩, b12⟩ := b
  obtain ⟨fd, F⟩ := F
  obtain ⟨oc, od, dV, kV, doc, pm, an, cdv, ct, osl, rfl, lk, hcd, hD, hK⟩ := F.ex
  obtain ⟨p1, p2, e1⟩ := o.pa
  obtain ⟨q1, q2, q3, q4, e2⟩ := o.bo
  rw [o.nm, e1, e2, o.sc, o.at_] at lk
  have hdv : dV = .none := by
    rcases hD with ⟨_, e⟩ | ⟨e, _⟩
    · exact e
    · exact absurd (show c.st.dvs K = [] from by unfold He.DefD.dvs; rw [o.dfl]; rfl) e
  subst hdv
  obtain ⟨nm, q, N, bs, bm, sn, sub, ab, col, dd, k0, k1, k2, k3, k5, z1, z2⟩ := excB_ok b2
  exact ⟨o.fdK, He.glo_ok X G b1, ⟨nm, q, N, bs, bm, sn, sub, ab, col, dd, k0, k1, k2, k3, k5, z1, z2⟩, He.eqO_ok b3, He.eqO_ok b4, He.eqO_ok b5, He.eqO_ok b6, He.eqO_ok b7, b8, b9, b10, b11, b12, ⟨oc, od, kV, doc, pm, an, cdv, ct, osl, c.st.qual, p1, p2, q1, q2, q3, q4, lk, hcd⟩⟩
/-- everything -/
def txB (c : Cfg) (K : PySem.W.Frag) : Bool :=
  c.names.all (fun x => (He.Fa.glo x).ok K) && bnames.all (fun b => (He.Fa.free b).ok K) && c.glos.all (fun p => gloB K p.1 p.2) && c.ers.all (fun e => errB K e.cn e.fd) &&
  c.ers.all (fun e => c.ks.all fun k => decide (PySem.W.exmOne K (.ref (He.ga K e.cn)) (.ref (He.ga K k)) = some (decide ((e.cn, k) ∈ c.subs)))) &&
  c.cs.all (fun x => (He.Fa.cls x).ok K && clsFB K (He.ga K x) && (He.Fa.mkr x).ok K) && c.flds.all (fun p => (He.Fa.noat p.1 p.2).ok K) &&
  c.cs.all (fun x => ([.non, .int, .bool, .str, .list, .tuple, .dict] : List Tn).all (fun n => decide (PySem.W.kitOne K (.type (tnS n)) (.ref (He.ga K x)) = some false) && decide (PySem.W.kitOne K (.ref (He.ga K x)) (.type (tnS n)) = some false)) &&
    c.cs.all fun y => decide (PySem.W.kitOne K (.ref (He.ga K x)) (.ref (He.ga K y)) = some (decide (x = y)))) &&
  c.defs.all (fun d => match d.g.2 with
    | none => (He.Fa.glo d.g.1).ok K
    | some m => decide (d.g.1 ∈ c.cs) && (decide (m = "__init__") || (He.Fa.meth d.g.1 m).ok K))
theorem find_some {α : Type} {l : List α} {p : α → Bool} {x : α} (h : l.find? p = some x) : x ∈ l ∧ p x = true := ⟨List.mem_of_find?_eq_some h, List.find?_some h⟩
section
variable {c : Cfg} {K : PySem.W.Frag} {h : Heap} {mg : Str → Option Value}
theorem Cfg.ca_of {x : Str} {C : Addr} (e : (c.S K).ca x = some C) : x ∈ c.names ∧ C = He.ga K x := by
  have e : (if x ∈ c.names then some (He.ga K x) else none) = some C := e
  split at e
  · cases e
    exact ⟨by assumption, rfl⟩
  · cases e
theorem Cfg.ca_in {x : Str} (hx : x ∈ c.names) : (c.S K).ca x = some (He.ga K x) := if_pos hx
theorem kit_names (n : Tn) : n ∈ ([.non, .int, .bool, .str, .list, .tuple, .dict] : List Tn) := by cases n <;> simp
theorem txt_of (od : ∀ d ∈ c.defs, DefC.Ok c.T.exk d) (oe : ∀ e ∈ c.ers, ErC.Ok e) (X : K.In h) (G : h.Ns mainGlobals mg) (tx : txB c K = true)
    (F : ∀ st ∈ c.defs.map (·.st) ++ c.ers.map (·.st), ∃ fd, FunD K st.name st.qual st.params st.body st.scope (st.dvs K) (st.kws K) (He.fAd K st.at_) fd) : Txt (c.S K) c.T K mg c.pn := by
  unfold txB at tx
  simp only [Bool.and_eq_true, List.all_eq_true] at tx
  obtain ⟨⟨⟨⟨⟨⟨⟨⟨t1, t2⟩, t3⟩, t4⟩, t5⟩, t6⟩, t7⟩, t8⟩, t9⟩ := tx
  have inC : ∀ {x : Str}, x ∈ c.cs → x ∈ c.names := fun hx => List.mem_append_left _ hx
  have inE : ∀ {e : ErC}, e ∈ c.ers → e.cn ∈ c.names := fun hx => List.mem_append_right _ (List.mem_append_left _ (List.mem_map_of_mem hx))
  have inK : ∀ {x : Str}, x ∈ c.ks → x ∈ c.names := fun hx => List.mem_append_right _ (List.mem_append_right _ hx)
  have exf_ : ∀ {x fd : Str}, c.T.exf x = some fd → ∃ e ∈ c.ers, e.cn = x ∧ e.fd = fd := fun {x fd} e => by
    have e : (c.ers.find? fun p => decide (p.cn = x)).map (·.fd) = some fd := e
    cases q : c.ers.find? fun p => decide (p.cn = x) with
    | none => rw [q] at e; cases e
    | some er =>
      rw [q] at e
      obtain ⟨q1, q2⟩ := find_some q
      exact ⟨er, q1, of_decide_eq_true q2, Option.some.inj e⟩
  have exk_ : ∀ {x : Str}, (∃ u, c.T.exk x = some u) → x ∈ c.ks := fun {x} ⟨u, e⟩ => by
    have e : (if x ∈ c.ks then some () else none) = some u := e
    split at e
    · assumption
    · cases e
  have isC_ : ∀ {x : Str}, c.T.isC x = true → x ∈ c.cs := fun e => of_decide_eq_true e
  refine ⟨rfl, rfl, fun x d e => ?_, fun b hb => He.free_ok X G (t2 b hb), fun x fd e => ?_, fun x C x' C' e1 e2 e3 e4 => ?_, fun x e => ⟨_, Cfg.ca_in (inK (exk_ e))⟩, fun x C e => ?_, rfl, fun x e => ⟨_, Cfg.ca_in (inC (isC_ e))⟩, fun x C e1 e2 => ?_, fun x C z e1 e2 => ?_, fun x C e1 e2 => ⟨fun n => ?_, fun x' C' e3 e4 => ?_⟩, fun g d e => ?_⟩
  · have e : (c.glos.find? fun p => decide (p.1 = x)).map (·.2) = some d := e
    cases q : c.glos.find? fun p => decide (p.1 = x) with
    | none => rw [q] at e; cases e
    | some p =>
      rw [q] at e
      obtain ⟨q1, q2⟩ := find_some q
      have q2 : p.1 = x := of_decide_eq_true q2
      have e : p.2 = d := Option.some.inj e
      have g := t3 p q1
      unfold gloB at g
      rw [q2, e] at g
      split at g
      · rename_i u hu
        obtain ⟨v, r1, r2⟩ := relD_ok d u g
        exact ⟨u, v, PySem.W.mg_of X G hu, r1, r2⟩
      · cases g
  · obtain ⟨er, h1, rfl, rfl⟩ := exf_ e
    exact ⟨_, _, Cfg.ca_in (inE h1), errB_ok X G (oe er h1) (t4 er h1) (F er.st (List.mem_append_right _ (List.mem_map_of_mem h1)))⟩
  · obtain ⟨fd, e1⟩ := Option.isSome_iff_exists.mp e1
    obtain ⟨er, h1, rfl, rfl⟩ := exf_ e1
    obtain ⟨_, rfl⟩ := Cfg.ca_of e3
    obtain ⟨_, rfl⟩ := Cfg.ca_of e4
    exact of_decide_eq_true (t5 er h1 x' (exk_ e2))
  · obtain ⟨h1, rfl⟩ := Cfg.ca_of e
    exact He.glo_ok X G (t1 x h1)
  · obtain ⟨_, rfl⟩ := Cfg.ca_of e1
    have := t6 x (isC_ e2)
    exact clsFB_ok this.1.1 this.1.2
  · obtain ⟨_, rfl⟩ := Cfg.ca_of e1
    exact He.noat_ok (t7 (x, z) (of_decide_eq_true e2))
  · obtain ⟨_, rfl⟩ := Cfg.ca_of e1
    have := (t8 x (isC_ e2)).1 n (kit_names n)
    exact ⟨of_decide_eq_true this.1, of_decide_eq_true this.2⟩
  · obtain ⟨_, rfl⟩ := Cfg.ca_of e1
    obtain ⟨_, rfl⟩ := Cfg.ca_of e3
    exact of_decide_eq_true ((t8 x (isC_ e2)).2 x' (isC_ e4))
  · have e : (c.defs.find? fun x => decide (x.g = g)).map (·.d) = some d := e
    cases q : c.defs.find? fun x => decide (x.g = g) with
    | none => rw [q] at e; cases e
    | some dc =>
      rw [q] at e
      obtain ⟨q1, q2⟩ := find_some q
      have q2 : dc.g = g := of_decide_eq_true q2
      have e9 : dc.d = d := Option.some.inj e
      subst q2
      subst e9
      have o := od dc q1
      obtain ⟨fd, FF⟩ := F dc.st (List.mem_append_left _ (List.mem_map_of_mem q1))
      have e1 : dc.st.dvs K = [] := by unfold He.DefD.dvs; rw [o.dfl]; rfl
      have e2 : dc.st.kws K = [] := by unfold He.DefD.kws; rw [o.kwd]; rfl
      rw [e1, e2] at FF
      have bn := FF.bindsA o.bind
      have kp := FF.kp
      obtain ⟨oc, od, dV, kV, doc, pm, an, cdv, ct, osl, rfl, lk, hcd, hD, hK⟩ := FF.ex
      rw [o.at_] at lk kp
      have t := t9 dc q1
      refine ⟨He.fAd K dc.g, _, _, _, _, _, dV, kV, doc, pm, cdv, ct, oc, an, od, osl, dc.N, dc.ps, lk, hcd, o.sc, o.np, by unfold Cfg.pn; rw [q], o.ns, o.chk, kp, bn, ?_⟩
      cases hg : dc.g.2 with
      | none =>
        rw [hg] at t
        have ea : He.fAd K dc.g = He.ga K dc.g.1 := by unfold He.fAd; rw [hg]
        rw [ea]
        exact He.glo_ok X G t
      | some m =>
        rw [hg] at t
        have t : (decide (dc.g.1 ∈ c.cs) && (decide (m = "__init__") || (He.Fa.meth dc.g.1 m).ok K)) = true := t
        rw [Bool.and_eq_true] at t
        have hc : dc.g.1 ∈ c.cs := of_decide_eq_true t.1
        have ea : He.fAd K dc.g = He.ma K (He.ga K dc.g.1) m := by unfold He.fAd; rw [hg]
        rw [ea]
        refine ⟨He.ga K dc.g.1, Cfg.ca_in (inC hc), ?_⟩
        have t6' := t6 _ hc
        by_cases hm : m = "__init__"
        · rw [if_pos hm]
          subst hm
          exact ⟨He.mkr_ok t6'.2, He.glo_ok X G (t1 _ (inC hc))⟩
        · rw [if_neg hm]
          have t2' := t.2
          rw [decide_eq_false hm, Bool.false_or] at t2'
          exact ⟨He.cls_ok t6'.1.1, He.meth_ok t2'⟩
end
end Mp

set_option Elab.async false
set_option linter.all false
set_option maxRecDepth 100000
set_option maxHeartbeats 4000000
/-! The small interpreter beside the layer: a law's end. -/
namespace Mp
open PySem PySem.Spec PyProof.Rows L2
/-- a def that lets nothing out -/
theorem fn_calm {P : Program} {w : World} {K : PySem.W.Frag} {mg : Str → Option Value} {base : Heap} {k : Nat} {fa : Addr} {fd : FuncData} {ps : List Str} {sp : Sp} (F : FnOk P w K mg base (L2.CX P w) k fa fd ps sp) :
    FnOk P w K mg base L2.CX0 k fa fd ps (fun vs H Q _ => sp vs H Q fun _ _ _ => False) := by
  refine ⟨fun vs H Q E h => F.len _ _ _ _ h, fun A outer s H args us vs Q E hr e0 hb r h => codeAny_mono (F.run A outer s H args us vs Q _ hr e0 hb r h) fun r s' z => ?_⟩
  cases r with
  | ok fl => cases fl <;> exact z
  | error x =>
    obtain ⟨a, B, H', cls, d, _, _, _, _, _, _, _, z⟩ := (show L2.CX P w outer H s (fun _ _ _ => False) x s' from z)
    exact z.elim
/-! ### the head's Hook -/
def Cfg.fns (c : Cfg) : List He.DefD := c.defs.map (·.st) ++ c.ers.map (·.st)
abbrev AlX : Type := Bool × He.AlD
def obsX (n : Nat) (c : Cfg) (g : Addr → Option Obj) : AlX := (txB c (He.frG g (He.asD g n)), He.obsD [] c.fns (He.frG g (He.asD g n)))
def hookX (n : Nat) (c : Cfg) : PySem.W.Hook where
  α := AlX
  obs := fun s => obsX n c s.heap.get?
  val := fun _ => (true, He.valD c.fns)
  says := fun _ h => ∃ K : PySem.W.Frag, K.In h ∧ txB c K = true ∧ He.SaysD [] c.fns K
  of := fun _ _ e => ⟨_, He.frG_in, congrArg (fun z : AlX => z.1) e, congrArg (fun z : AlX => z.2) e⟩
  keeps := fun _ _ _ ⟨K, hK, c⟩ k => ⟨K, PySem.W.Frag.In.keeps hK k, c⟩
theorem obsX_eq {n : Nat} {c : Cfg} {g : Addr → Option Obj} {s : Shared} (h : ∀ a, g a = s.heap.get? a) : obsX n c g = (hookX n c).obs s := by
  have e : g = s.heap.get? := funext h
  rw [e] <;> rfl
theorem says_mem {fn : List He.DefD} {K : PySem.W.Frag} (c : He.SaysD [] fn K) (st : He.DefD) (h : st ∈ fn) : ∃ fd, FunD K st.name st.qual st.params st.body st.scope (st.dvs K) (st.kws K) (He.fAd K st.at_) fd := by
  obtain ⟨i, hi⟩ := List.getElem?_of_mem h
  exact c.def_ i hi
/-- the script as it lies -/
theorem script_ok {c : Cfg} {K : PySem.W.Frag} {H : Hp} {a : Addr} {ns : List Int} (ho : Only H) (hs : SqL K H a (ns.map V.int)) : RM (c.S K) [a] H [.frz (ns.map D.int)] := by
  have z : SqZ K H a (ns.map V.int) := by
    rcases hs with (e | ⟨o, e⟩) | e
    · rcases ho a with q | ⟨o, xs, q⟩
      · rw [q] at e; cases e
      · rw [q] at e; cases e
    · exact .inl ⟨o, e⟩
    · exact .inr e
  have rv : ∀ ns : List Int, RVs K [a] H (ns.map D.int) (ns.map V.int) := fun ns => by
    induction ns with
    | nil => rfl
    | cons n r ih => exact ⟨_, _, rfl, rfl, ih⟩
  refine ⟨fun i j b o o' e1 e2 w1 _ _ _ => ?_, rfl, fun i o e => ?_⟩
  · cases i with
    | zero => cases e1; cases w1
    | succ i => cases e1
  · cases i with
    | zero => cases e; exact ⟨a, rfl, _, z, rv ns⟩
    | succ i => cases e
/-- what a law's end asks -/
structure LawOk (c : Cfg) (k n : Nat) : Prop where
  defs : ∀ d ∈ c.defs, DefC.Ok c.T.exk d
  ers : ∀ e ∈ c.ers, ErC.Ok e
  law : ∃ d, c.T.df ("law", none) = some d
  pn : c.pn ("law", none) = [("script" : Str)]
  holds : ∀ ns : List Int, ns.length ≤ n → ∃ m, callD c.T k ("law", none) [.ref 0] [.frz (ns.map D.int)] = .ok (.bl true) m
theorem facts {c : Cfg} {k n : Nat} (L : LawOk c (k + 1) n) {P : Program} {w : World} {K : PySem.W.Frag} {h : Heap} {mg : Str → Option Value} {f : Addr} (X : K.In h) (G : h.Ns mainGlobals mg) (hfa : mg ("law" : Str) = some (.ref f)) (tx : txB c K = true) (cs : He.SaysD [] c.fns K) :
    ∃ (fd : FuncData) (sp : Sp), (∀ (s : Shared) (u : Value), BindsTo s fd ⟨[u], []⟩ [("script", u)]) ∧
      (∀ (H : Hp) (a : Addr) (ns : List Int), ns.length ≤ n → Only H → SqL K H a (ns.map V.int) → sp [.ref a] H (fun v _ => v = .bl true) fun _ _ _ => False) ∧
      ∀ base : Heap, K.In base → base.Ns mainGlobals mg → FnOk P w K mg base L2.CX0 (k + 1) f fd ["script"] sp := by
  obtain ⟨d, hd⟩ := L.law
  have T0 := txt_of L.defs L.ers X G tx (says_mem cs)
  obtain ⟨fa, name, qual, params, body, scope, dV, kV, doc, pm, cdv, ct, oc, an, od, osl, N, ps, lk, hcd, sc, h1, h1', h2, h3, h4, h5, h6⟩ := (T0.defs _ d hd).ok
  rw [L.pn] at h1'
  subst h1'
  have e : mg ("law" : Str) = some (.ref fa) := h6
  rw [hfa] at e
  cases e
  refine ⟨_, _, fun s u => h5 s [u] rfl, fun H a ns hn ho hs => ?_, fun base _ _ => fn_calm (fn_step T0 (fun j hj g d e => fnat T0 j j (Nat.le_refl j) g d e) hd lk hcd sc h1 h2 h3)⟩
  obtain ⟨m, hm⟩ := L.holds ns hn
  refine ⟨h1, [a], [.frz (ns.map D.int)], [.ref 0], script_ok ho hs, ⟨_, _, rfl, ⟨a, rfl, rfl⟩, rfl⟩, ?_⟩
  rw [hm]
  exact fun f' H' v _ _ _ rv => rv
end Mp

set_option Elab.async false
set_option linter.all false
set_option maxRecDepth 100000
set_option maxHeartbeats 4000000
/-! The program's and the laws' shared defs, compact. -/
namespace L2
end L2
namespace PyProof.Rows
end PyProof.Rows
namespace Pg
open PySem PySem.Spec PyProof.Rows L2 Mp
def b_is_row : Mp.Ss :=
  (.cons (.ret (.isi (.var 0) [.ty .list, .ty .tuple])) .nil)
def d_is_row : Df := ⟨1, 1, b_is_row⟩
def b_is_number : Mp.Ss :=
  (.cons (.ret (.and (.isi (.var 0) [.ty .int]) (.and (.not (.isi (.var 0) [.ty .bool])) (.cmp .ge (.var 0) (.cst (.int 0)))))) .nil)
def d_is_number : Df := ⟨1, 1, b_is_number⟩
def b_is_below : Mp.Ss :=
  (.cons (.ret (.and (.call "is_number" (.cons false (.var 0) .nil)) (.cmp .lt (.var 0) (.var 1)))) .nil)
def d_is_below : Df := ⟨2, 2, b_is_below⟩
def b_deep_rows : Mp.Ss :=
  (.cons (.ret (.ife (.call "is_row" (.cons false (.var 0) .nil)) (.blt "tuple" (.cons false (.lc (.call "deep_rows" (.cons false (.var 1) .nil)) (.one [1] (.nm 1) (.seq (.var 0)) .nil)) .nil)) (.var 0))) .nil)
def d_deep_rows : Df := ⟨1, 2, b_deep_rows⟩
def b_check_expression : Mp.Ss :=
  (.cons (.ifs (.or (.cmp .eq (.var 4) (.cst (.int 0))) (.or (.not (.call "is_row" (.cons false (.var 0) .nil))) (.or (.cmp .eq (.blt "len" (.cons false (.var 0) .nil)) (.cst (.int 0))) (.not (.isi (.idx (.var 0) (.cst (.int 0))) [.ty .str]))))) 
    (.cons (.raise "BadProgram" (.var 3)) .nil) .nil) 
  (.cons (.set (.nm 5) (.idx (.var 0) (.cst (.int 0)))) 
  (.cons (.ifs (.and (.cmp .eq (.var 5) (.cst (.str "number"))) (.and (.cmp .eq (.blt "len" (.cons false (.var 0) .nil)) (.cst (.int 2))) (.and (.call "is_number" (.cons false (.idx (.var 0) (.cst (.int 1))) .nil)) (.cmp .le (.idx (.var 0) (.cst (.int 1))) (.glo "MOST_NUMBER"))))) 
    (.cons (.retN) .nil) .nil) 
  (.cons (.ifs (.and (.cmp .eq (.var 5) (.cst (.str "var"))) (.and (.cmp .eq (.blt "len" (.cons false (.var 0) .nil)) (.cst (.int 2))) (.call "is_below" (.cons false (.idx (.var 0) (.cst (.int 1))) (.cons false (.var 1) .nil))))) 
    (.cons (.retN) .nil) .nil) 
  (.cons (.ifs (.and (.cmp .eq (.var 5) (.cst (.str "letter"))) (.and (.cmp .eq (.blt "len" (.cons false (.var 0) .nil)) (.cst (.int 1))) (.var 2))) 
    (.cons (.retN) .nil) .nil) 
  (.cons (.ifs (.or (.cmp .notin (.var 5) (.glo "SUMS")) (.cmp .ne (.blt "len" (.cons false (.var 0) .nil)) (.cst (.int 3)))) 
    (.cons (.raise "BadProgram" (.var 3)) .nil) .nil) 
  (.cons (.expr (.call "check_expression" (.cons false (.idx (.var 0) (.cst (.int 1))) (.cons false (.var 1) (.cons false (.var 2) (.cons false (.tup (.cons true (.var 3) (.cons false (.cst (.str "left")) .nil))) (.cons false (.bin .sub (.var 4) (.cst (.int 1))) .nil))))))) 
  (.cons (.expr (.call "check_expression" (.cons false (.idx (.var 0) (.cst (.int 2))) (.cons false (.var 1) (.cons false (.var 2) (.cons false (.tup (.cons true (.var 3) (.cons false (.cst (.str "right")) .nil))) (.cons false (.bin .sub (.var 4) (.cst (.int 1))) .nil))))))) .nil))))))))
def d_check_expression : Df := ⟨5, 6, b_check_expression⟩
def b_check_condition : Mp.Ss :=
  (.cons (.ifs (.or (.cmp .eq (.var 4) (.cst (.int 0))) (.or (.not (.call "is_row" (.cons false (.var 0) .nil))) (.or (.cmp .eq (.blt "len" (.cons false (.var 0) .nil)) (.cst (.int 0))) (.not (.isi (.idx (.var 0) (.cst (.int 0))) [.ty .str]))))) 
    (.cons (.raise "BadProgram" (.var 3)) .nil) .nil) 
  (.cons (.set (.nm 5) (.idx (.var 0) (.cst (.int 0)))) 
  (.cons (.ifs (.and (.cmp .eq (.var 5) (.cst (.str "not"))) (.cmp .eq (.blt "len" (.cons false (.var 0) .nil)) (.cst (.int 2)))) 
    (.cons (.expr (.call "check_condition" (.cons false (.idx (.var 0) (.cst (.int 1))) (.cons false (.var 1) (.cons false (.var 2) (.cons false (.tup (.cons true (.var 3) (.cons false (.cst (.str "left")) .nil))) (.cons false (.bin .sub (.var 4) (.cst (.int 1))) .nil))))))) 
    (.cons (.retN) .nil)) .nil) 
  (.cons (.ifs (.or (.cmp .notin (.var 5) (.tup (.cons true (.glo "TESTS") (.cons true (.glo "JOINS") .nil)))) (.cmp .ne (.blt "len" (.cons false (.var 0) .nil)) (.cst (.int 3)))) 
    (.cons (.raise "BadProgram" (.var 3)) .nil) .nil) 
  (.cons (.for_ (.tu [.nm 6, .nm 7]) (.seq (.tup (.cons false (.tup (.cons false (.idx (.var 0) (.cst (.int 1))) (.cons false (.cst (.str "left")) .nil))) (.cons false (.tup (.cons false (.idx (.var 0) (.cst (.int 2))) (.cons false (.cst (.str "right")) .nil))) .nil)))) 
    (.cons (.ifs (.cmp .isin (.var 5) (.glo "TESTS")) 
      (.cons (.expr (.call "check_expression" (.cons false (.var 6) (.cons false (.var 1) (.cons false (.var 2) (.cons false (.tup (.cons true (.var 3) (.cons false (.var 7) .nil))) (.cons false (.glo "MOST_DEEP") .nil))))))) .nil) 
      (.cons (.expr (.call "check_condition" (.cons false (.var 6) (.cons false (.var 1) (.cons false (.var 2) (.cons false (.tup (.cons true (.var 3) (.cons false (.var 7) .nil))) (.cons false (.bin .sub (.var 4) (.cst (.int 1))) .nil))))))) .nil)) .nil)) .nil)))))
def d_check_condition : Df := ⟨5, 8, b_check_condition⟩
def b_Program_init : Mp.Ss :=
  (.cons (.ifs (.or (.not (.call "is_number" (.cons false (.var 1) .nil))) (.not (.chn .le .le (.cst (.int 1)) (.var 1) (.glo "MOST_LETTERS")))) 
    (.cons (.raise "BadProgram" (.cst (.str "letters"))) .nil) .nil) 
  (.cons (.ifs (.or (.not (.call "is_row" (.cons false (.var 2) .nil))) (.cmp .gt (.blt "len" (.cons false (.var 2) .nil)) (.glo "MOST_VARIABLES"))) 
    (.cons (.raise "BadProgram" (.cst (.str "sizes"))) .nil) .nil) 
  (.cons (.ifs (.not (.blt "all" (.cons false (.lc (.and (.call "is_number" (.cons false (.var 6) .nil)) (.chn .le .le (.cst (.int 1)) (.var 6) (.glo "MOST_SIZE"))) (.one [6] (.nm 6) (.seq (.var 2)) .nil)) .nil))) 
    (.cons (.raise "BadProgram" (.cst (.str "sizes"))) .nil) .nil) 
  (.cons (.for_ (.tu [.nm 7, .nm 8]) (.zip (.glo "PARTS") (.tup (.cons false (.var 3) (.cons false (.var 4) (.cons false (.var 5) .nil))))) 
    (.cons (.expr (.call "check_steps" (.cons false (.var 8) (.cons false (.blt "len" (.cons false (.var 2) .nil)) (.cons false (.cmp .eq (.var 7) (.cst (.str "each"))) (.cons false (.tup (.cons false (.var 7) .nil)) (.cons false (.glo "MOST_NESTED") .nil))))))) .nil)) 
  (.cons (.setF (.var 0) "letters" (.var 1)) 
  (.cons (.setF (.var 0) "sizes" (.blt "tuple" (.cons false (.var 2) .nil))) 
  (.cons (.setF (.var 0) "first" (.call "deep_rows" (.cons false (.var 3) .nil))) 
  (.cons (.setF (.var 0) "each" (.call "deep_rows" (.cons false (.var 4) .nil))) 
  (.cons (.setF (.var 0) "last" (.call "deep_rows" (.cons false (.var 5) .nil))) 
  (.cons (.set (.nm 9) (.bin .add (.bin .add (.call "count_steps" (.cons false (.att (.var 0) "first") .nil)) (.call "count_steps" (.cons false (.att (.var 0) "each") .nil))) (.call "count_steps" (.cons false (.att (.var 0) "last") .nil)))) 
  (.cons (.ifs (.cmp .gt (.var 9) (.glo "MOST_STEPS")) 
    (.cons (.raise "TooLarge" (.var 9)) .nil) .nil) .nil)))))))))))
def d_Program_init : Df := ⟨6, 10, b_Program_init⟩
def b_Program_eq : Mp.Ss :=
  (.cons (.ifs (.or (.not (.isi (.var 1) [.own "Program"])) (.cmp .ne (.tup (.cons false (.att (.var 0) "letters") (.cons false (.att (.var 0) "sizes") .nil))) (.tup (.cons false (.att (.var 1) "letters") (.cons false (.att (.var 1) "sizes") .nil))))) 
    (.cons (.ret (.cst (.bl false))) .nil) .nil) 
  (.cons (.ret (.cmp .eq (.tup (.cons false (.att (.var 0) "first") (.cons false (.att (.var 0) "each") (.cons false (.att (.var 0) "last") .nil)))) (.tup (.cons false (.att (.var 1) "first") (.cons false (.att (.var 1) "each") (.cons false (.att (.var 1) "last") .nil)))))) .nil))
def d_Program_eq : Df := ⟨2, 2, b_Program_eq⟩
def b_Program_part : Mp.Ss :=
  (.cons (.ret (.idx (.dct (.cons false (.cst (.str "first")) (.cons false (.att (.var 0) "first") (.cons false (.cst (.str "each")) (.cons false (.att (.var 0) "each") (.cons false (.cst (.str "last")) (.cons false (.att (.var 0) "last") .nil))))))) (.var 1))) .nil)
def d_Program_part : Df := ⟨2, 2, b_Program_part⟩
def b_check_steps : Mp.Ss :=
  (.cons (.ifs (.or (.cmp .eq (.var 4) (.cst (.int 0))) (.not (.call "is_row" (.cons false (.var 0) .nil)))) 
    (.cons (.raise "BadProgram" (.var 3)) .nil) .nil) 
  (.cons (.for_ (.tu [.nm 5, .nm 6]) (.enum (.var 0)) 
    (.cons (.expr (.call "check_step" (.cons false (.var 6) (.cons false (.var 1) (.cons false (.var 2) (.cons false (.tup (.cons true (.var 3) (.cons false (.var 5) .nil))) (.cons false (.var 4) .nil))))))) .nil)) .nil))
def d_check_steps : Df := ⟨5, 7, b_check_steps⟩
def b_check_step : Mp.Ss :=
  (.cons (.ifs (.or (.not (.call "is_row" (.cons false (.var 0) .nil))) (.or (.cmp .eq (.blt "len" (.cons false (.var 0) .nil)) (.cst (.int 0))) (.not (.isi (.idx (.var 0) (.cst (.int 0))) [.ty .str])))) 
    (.cons (.raise "BadProgram" (.var 3)) .nil) .nil) 
  (.cons (.ifs (.and (.cmp .eq (.idx (.var 0) (.cst (.int 0))) (.cst (.str "set"))) (.and (.cmp .eq (.blt "len" (.cons false (.var 0) .nil)) (.cst (.int 3))) (.call "is_below" (.cons false (.idx (.var 0) (.cst (.int 1))) (.cons false (.var 1) .nil))))) 
    (.cons (.expr (.call "check_expression" (.cons false (.idx (.var 0) (.cst (.int 2))) (.cons false (.var 1) (.cons false (.var 2) (.cons false (.tup (.cons true (.var 3) (.cons false (.cst (.str "value")) .nil))) (.cons false (.glo "MOST_DEEP") .nil))))))) 
    (.cons (.retN) .nil)) .nil) 
  (.cons (.ifs (.and (.cmp .eq (.idx (.var 0) (.cst (.int 0))) (.cst (.str "tell"))) (.cmp .eq (.blt "len" (.cons false (.var 0) .nil)) (.cst (.int 2)))) 
    (.cons (.expr (.call "check_expression" (.cons false (.idx (.var 0) (.cst (.int 1))) (.cons false (.var 1) (.cons false (.var 2) (.cons false (.tup (.cons true (.var 3) (.cons false (.cst (.str "value")) .nil))) (.cons false (.glo "MOST_DEEP") .nil))))))) 
    (.cons (.retN) .nil)) .nil) 
  (.cons (.ifs (.or (.cmp .ne (.idx (.var 0) (.cst (.int 0))) (.cst (.str "if"))) (.cmp .ne (.blt "len" (.cons false (.var 0) .nil)) (.cst (.int 4)))) 
    (.cons (.raise "BadProgram" (.var 3)) .nil) .nil) 
  (.cons (.expr (.call "check_condition" (.cons false (.idx (.var 0) (.cst (.int 1))) (.cons false (.var 1) (.cons false (.var 2) (.cons false (.tup (.cons true (.var 3) (.cons false (.cst (.str "if")) .nil))) (.cons false (.glo "MOST_DEEP") .nil))))))) 
  (.cons (.expr (.call "check_steps" (.cons false (.idx (.var 0) (.cst (.int 2))) (.cons false (.var 1) (.cons false (.var 2) (.cons false (.tup (.cons true (.var 3) (.cons false (.cst (.str "then")) .nil))) (.cons false (.bin .sub (.var 4) (.cst (.int 1))) .nil))))))) 
  (.cons (.expr (.call "check_steps" (.cons false (.idx (.var 0) (.cst (.int 3))) (.cons false (.var 1) (.cons false (.var 2) (.cons false (.tup (.cons true (.var 3) (.cons false (.cst (.str "else")) .nil))) (.cons false (.bin .sub (.var 4) (.cst (.int 1))) .nil))))))) .nil)))))))
def d_check_step : Df := ⟨5, 5, b_check_step⟩
def b_count_steps : Mp.Ss :=
  (.cons (.ret (.bin .add (.blt "len" (.cons false (.var 0) .nil)) (.blt "sum" (.cons false (.lc (.bin .add (.call "count_steps" (.cons false (.idx (.var 1) (.cst (.int 2))) .nil)) (.call "count_steps" (.cons false (.idx (.var 1) (.cst (.int 3))) .nil))) (.one [1] (.nm 1) (.seq (.var 0)) (.cons false (.cmp .eq (.idx (.var 1) (.cst (.int 0))) (.cst (.str "if"))) .nil))) .nil)))) .nil)
def d_count_steps : Df := ⟨1, 2, b_count_steps⟩
def b_check_program : Mp.Ss :=
  (.cons (.ifs (.not (.isi (.var 0) [.own "Program"])) 
    (.cons (.raise "BadProgram" (.cst (.str "program"))) .nil) .nil) .nil)
def d_check_program : Df := ⟨1, 1, b_check_program⟩
def b_steps_in : Mp.Ss :=
  (.cons (.expr (.call "check_program" (.cons false (.var 0) .nil))) 
  (.cons (.ret (.bin .add (.bin .add (.call "count_steps" (.cons false (.att (.var 0) "first") .nil)) (.call "count_steps" (.cons false (.att (.var 0) "each") .nil))) (.call "count_steps" (.cons false (.att (.var 0) "last") .nil)))) .nil))
def d_steps_in : Df := ⟨1, 1, b_steps_in⟩
def b_u_law_number : Mp.Ss :=
  (.cons (.set (.tu [.nm 2, .nm 3]) (.ife (.cmp .ne (.var 0) (.lst .nil)) (.tup (.cons false (.idx (.var 0) (.bin .mod (.var 1) (.blt "len" (.cons false (.var 0) .nil)))) (.cons false (.bin .fdiv (.var 1) (.blt "len" (.cons false (.var 0) .nil))) .nil))) (.tup (.cons false (.cst (.int 12345)) (.cons false (.cst (.int 0)) .nil))))) 
  (.cons (.set (.nm 4) (.ife (.cmp .lt (.var 3) (.cst (.int 60))) (.bin .sub (.var 2) (.bin .pow (.cst (.int 10)) (.cst (.int 18)))) (.cst (.int 0)))) 
  (.cons (.for_ (.nm 5) (.rng1 (.bin .mod (.blt "int" (.cons false (.var 3) .nil)) (.cst (.int 60)))) 
    (.cons (.set (.nm 4) (.bin .fdiv (.var 4) (.cst (.int 1009)))) .nil)) 
  (.cons (.ifs (.cmp .gt (.var 4) (.cst (.int 0))) 
    (.cons (.ret (.bin .mod (.blt "int" (.cons false (.var 4) .nil)) (.cst (.int 1009)))) .nil) .nil) 
  (.cons (.set (.nm 6) (.bin .mod (.bin .add (.bin .mul (.blt "int" (.cons false (.bin .add (.var 2) (.bin .mul (.cst (.int 977)) (.var 1))) .nil)) (.cst (.int 48271))) (.bin .mul (.cst (.int 31)) (.blt "len" (.cons false (.var 0) .nil)))) (.cst (.int 2147483647)))) 
  (.cons (.set (.nm 6) (.bin .mod (.bin .add (.bin .mul (.var 6) (.var 6)) (.bin .mul (.cst (.int 40503)) (.var 1))) (.cst (.int 2147483629)))) 
  (.cons (.ret (.blt "int" (.cons false (.bin .mod (.bin .add (.bin .mul (.var 6) (.cst (.int 69621))) (.bin .fdiv (.var 6) (.cst (.int 977)))) (.cst (.int 2147483587))) .nil))) .nil)))))))
def d_u_law_number : Df := ⟨2, 7, b_u_law_number⟩
def b_u_law_take : Mp.Ss :=
  (.cons (.augI .add (.var 0) (.cst (.int 1)) (.cst (.int 1))) 
  (.cons (.ret (.bin .mod (.blt "int" (.cons false (.call "_law_number" (.cons false (.idx (.var 0) (.cst (.int 0))) (.cons false (.blt "int" (.cons false (.idx (.var 0) (.cst (.int 1))) .nil)) .nil))) .nil)) (.var 1))) .nil))
def d_u_law_take : Df := ⟨2, 2, b_u_law_take⟩
def b_u_law_pick : Mp.Ss :=
  (.cons (.ret (.idx (.var 1) (.call "_law_take" (.cons false (.var 0) (.cons false (.blt "len" (.cons false (.var 1) .nil)) .nil))))) .nil)
def d_u_law_pick : Df := ⟨2, 2, b_u_law_pick⟩
def b_u_law_expression : Mp.Ss :=
  (.cons (.set (.nm 4) (.call "_law_take" (.cons false (.var 0) (.cons false (.cst (.int 7)) .nil)))) 
  (.cons (.ifs (.and (.cmp .eq (.var 4) (.cst (.int 6))) (.cmp .gt (.var 3) (.cst (.int 1)))) 
    (.cons (.ret (.tup (.cons false (.call "_law_pick" (.cons false (.var 0) (.cons false (.lst (.cons false (.cst (.str "plus")) (.cons false (.cst (.str "plus")) (.cons false (.cst (.str "times")) .nil)))) .nil))) (.cons false (.call "_law_expression" (.cons false (.var 0) (.cons false (.var 1) (.cons false (.var 2) (.cons false (.bin .sub (.var 3) (.cst (.int 1))) .nil))))) (.cons false (.call "_law_expression" (.cons false (.var 0) (.cons false (.var 1) (.cons false (.var 2) (.cons false (.bin .sub (.var 3) (.cst (.int 1))) .nil))))) .nil))))) .nil) .nil) 
  (.cons (.ifs (.and (.cmp .lt (.var 4) (.cst (.int 3))) (.cmp .gt (.var 1) (.cst (.int 0)))) 
    (.cons (.ret (.tup (.cons false (.cst (.str "var")) (.cons false (.call "_law_take" (.cons false (.var 0) (.cons false (.var 1) .nil))) .nil)))) .nil) .nil) 
  (.cons (.ret (.ife (.and (.var 2) (.cmp .gt (.var 4) (.cst (.int 3)))) (.tup (.cons false (.cst (.str "letter")) .nil)) (.tup (.cons false (.cst (.str "number")) (.cons false (.call "_law_take" (.cons false (.var 0) (.cons false (.cst (.int 3)) .nil))) .nil))))) .nil))))
def d_u_law_expression : Df := ⟨4, 5, b_u_law_expression⟩
def b_u_law_condition : Mp.Ss :=
  (.cons (.set (.nm 4) (.call "_law_take" (.cons false (.var 0) (.cons false (.cst (.int 6)) .nil)))) 
  (.cons (.ifs (.or (.cmp .lt (.var 4) (.cst (.int 4))) (.cmp .lt (.var 3) (.cst (.int 2)))) 
    (.cons (.ret (.tup (.cons false (.idx (.tup (.cons false (.cst (.str "less")) (.cons false (.cst (.str "same")) .nil))) (.bin .mod (.var 4) (.cst (.int 2)))) (.cons false (.call "_law_expression" (.cons false (.var 0) (.cons false (.var 1) (.cons false (.var 2) (.cons false (.cst (.int 1)) .nil))))) (.cons false (.call "_law_expression" (.cons false (.var 0) (.cons false (.var 1) (.cons false (.var 2) (.cons false (.cst (.int 2)) .nil))))) .nil))))) .nil) .nil) 
  (.cons (.ifs (.cmp .eq (.var 4) (.cst (.int 4))) 
    (.cons (.ret (.tup (.cons false (.cst (.str "not")) (.cons false (.call "_law_condition" (.cons false (.var 0) (.cons false (.var 1) (.cons false (.var 2) (.cons false (.bin .sub (.var 3) (.cst (.int 1))) .nil))))) .nil)))) .nil) .nil) 
  (.cons (.ret (.tup (.cons false (.call "_law_pick" (.cons false (.var 0) (.cons false (.lst (.cons false (.cst (.str "and")) (.cons false (.cst (.str "or")) .nil))) .nil))) (.cons false (.call "_law_condition" (.cons false (.var 0) (.cons false (.var 1) (.cons false (.var 2) (.cons false (.bin .sub (.var 3) (.cst (.int 1))) .nil))))) (.cons false (.call "_law_condition" (.cons false (.var 0) (.cons false (.var 1) (.cons false (.var 2) (.cons false (.bin .sub (.var 3) (.cst (.int 1))) .nil))))) .nil))))) .nil))))
def d_u_law_condition : Df := ⟨4, 5, b_u_law_condition⟩
def b_u_law_steps : Mp.Ss :=
  (.cons (.set (.nm 5) (.lst .nil)) 
  (.cons (.for_ (.nm 6) (.rng1 (.call "_law_take" (.cons false (.var 0) (.cons false (.bin .add (.var 4) (.cst (.int 1))) .nil)))) 
    (.cons (.set (.nm 7) (.call "_law_take" (.cons false (.var 0) (.cons false (.cst (.int 5)) .nil)))) 
    (.cons (.ifs (.and (.cmp .eq (.var 7) (.cst (.int 4))) (.cmp .gt (.var 3) (.cst (.int 1)))) 
      (.cons (.expr (.mth (.var 5) "append" (.cons false (.tup (.cons false (.cst (.str "if")) (.cons false (.call "_law_condition" (.cons false (.var 0) (.cons false (.var 1) (.cons false (.var 2) (.cons false (.cst (.int 2)) .nil))))) (.cons false (.call "_law_steps" (.cons false (.var 0) (.cons false (.var 1) (.cons false (.var 2) (.cons false (.bin .sub (.var 3) (.cst (.int 1))) (.cons false (.cst (.int 1)) .nil)))))) (.cons false (.call "_law_steps" (.cons false (.var 0) (.cons false (.var 1) (.cons false (.var 2) (.cons false (.bin .sub (.var 3) (.cst (.int 1))) (.cons false (.cst (.int 1)) .nil)))))) .nil))))) .nil))) .nil) 
      (.cons (.ifs (.and (.cmp .lt (.var 7) (.cst (.int 2))) (.cmp .gt (.var 1) (.cst (.int 0)))) 
        (.cons (.expr (.mth (.var 5) "append" (.cons false (.tup (.cons false (.cst (.str "set")) (.cons false (.call "_law_take" (.cons false (.var 0) (.cons false (.var 1) .nil))) (.cons false (.call "_law_expression" (.cons false (.var 0) (.cons false (.var 1) (.cons false (.var 2) (.cons false (.cst (.int 2)) .nil))))) .nil)))) .nil))) .nil) 
        (.cons (.expr (.mth (.var 5) "append" (.cons false (.tup (.cons false (.cst (.str "tell")) (.cons false (.call "_law_expression" (.cons false (.var 0) (.cons false (.var 1) (.cons false (.var 2) (.cons false (.cst (.int 2)) .nil))))) .nil))) .nil))) .nil)) .nil)) .nil))) 
  (.cons (.ret (.blt "tuple" (.cons false (.var 5) .nil))) .nil)))
def d_u_law_steps : Df := ⟨5, 8, b_u_law_steps⟩
def b_u_law_program : Mp.Ss :=
  (.cons (.set (.nm 1) (.blt "tuple" (.cons false (.lc (.call "_law_pick" (.cons false (.var 0) (.cons false (.lst (.cons false (.cst (.int 2)) (.cons false (.cst (.int 3)) (.cons false (.cst (.int 2)) (.cons false (.cst (.int 3)) (.cons false (.cst (.int 1)) (.cons false (.cst (.int 4)) .nil))))))) .nil))) (.one [2] (.nm 2) (.rng1 (.call "_law_pick" (.cons false (.var 0) (.cons false (.lst (.cons false (.cst (.int 0)) (.cons false (.cst (.int 1)) (.cons false (.cst (.int 1)) (.cons false (.cst (.int 2)) (.cons false (.cst (.int 2)) (.cons false (.cst (.int 3)) .nil))))))) .nil)))) .nil)) .nil))) 
  (.cons (.set (.tu [.nm 3, .nm 4, .nm 5]) (.tup (.cons false (.call "_law_steps" (.cons false (.var 0) (.cons false (.blt "len" (.cons false (.var 1) .nil)) (.cons false (.cst (.bl false)) (.cons false (.cst (.int 1)) (.cons false (.cst (.int 1)) .nil)))))) (.cons false (.call "_law_steps" (.cons false (.var 0) (.cons false (.blt "len" (.cons false (.var 1) .nil)) (.cons false (.cst (.bl true)) (.cons false (.cst (.int 2)) (.cons false (.cst (.int 3)) .nil)))))) (.cons false (.call "_law_steps" (.cons false (.var 0) (.cons false (.blt "len" (.cons false (.var 1) .nil)) (.cons false (.cst (.bl false)) (.cons false (.cst (.int 2)) (.cons false (.cst (.int 1)) .nil)))))) .nil))))) 
  (.cons (.ifs (.and (.cmp .ne (.var 1) (.tup .nil)) (.cmp .eq (.call "_law_take" (.cons false (.var 0) (.cons false (.cst (.int 2)) .nil))) (.cst (.int 0)))) 
    (.cons (.set (.nm 4) (.bin .add (.tup (.cons false (.tup (.cons false (.cst (.str "set")) (.cons false (.cst (.int 0)) (.cons false (.tup (.cons false (.cst (.str "plus")) (.cons false (.tup (.cons false (.cst (.str "var")) (.cons false (.cst (.int 0)) .nil))) (.cons false (.tup (.cons false (.cst (.str "letter")) .nil)) .nil)))) .nil)))) .nil)) (.var 4))) .nil) .nil) 
  (.cons (.set (.nm 6) (.dct (.cons false (.cst (.str "letters")) (.cons false (.call "_law_pick" (.cons false (.var 0) (.cons false (.lst (.cons false (.cst (.int 1)) (.cons false (.cst (.int 2)) (.cons false (.cst (.int 2)) (.cons false (.cst (.int 2)) (.cons false (.cst (.int 3)) .nil)))))) .nil))) (.cons false (.cst (.str "sizes")) (.cons false (.var 1) (.cons false (.cst (.str "first")) (.cons false (.var 3) (.cons false (.cst (.str "each")) (.cons false (.var 4) (.cons false (.cst (.str "last")) (.cons false (.var 5) .nil)))))))))))) 
  (.cons (.ret (.ife (.cmp .lt (.blt "len" (.cons false (.call "_law_all_places" (.cons false (.var 6) .nil)) .nil)) (.cst (.int 13))) (.var 6) (.blt "dict" (.cons false (.bin .add (.un "items" (.var 6)) (.lst (.cons false (.tup (.cons false (.cst (.str "last")) (.cons false (.tup .nil) .nil))) .nil))) .nil)))) .nil)))))
def d_u_law_program : Df := ⟨1, 7, b_u_law_program⟩
def b_u_law_made : Mp.Ss :=
  (.cons (.ret (.mk "Program" (.cons false (.idx (.var 0) (.cst (.str "letters"))) (.cons false (.idx (.var 0) (.cst (.str "sizes"))) (.cons false (.idx (.var 0) (.cst (.str "first"))) (.cons false (.idx (.var 0) (.cst (.str "each"))) (.cons false (.idx (.var 0) (.cst (.str "last"))) .nil))))))) .nil)
def d_u_law_made : Df := ⟨1, 1, b_u_law_made⟩
def b_u_law_places : Mp.Ss :=
  (.cons (.set (.nm 2) (.lst .nil)) 
  (.cons (.for_ (.tu [.nm 3, .nm 4]) (.enum (.var 0)) 
    (.cons (.expr (.mth (.var 2) "append" (.cons false (.bin .add (.var 1) (.tup (.cons false (.var 3) .nil))) .nil))) 
    (.cons (.ifs (.cmp .eq (.idx (.var 4) (.cst (.int 0))) (.cst (.str "if"))) 
      (.cons (.set (.nm 2) (.bin .add (.bin .add (.var 2) (.call "_law_places" (.cons false (.idx (.var 4) (.cst (.int 2))) (.cons false (.bin .add (.var 1) (.tup (.cons false (.var 3) (.cons false (.cst (.str "then")) .nil)))) .nil)))) (.call "_law_places" (.cons false (.idx (.var 4) (.cst (.int 3))) (.cons false (.bin .add (.var 1) (.tup (.cons false (.var 3) (.cons false (.cst (.str "else")) .nil)))) .nil))))) .nil) .nil) .nil))) 
  (.cons (.ret (.var 2)) .nil)))
def d_u_law_places : Df := ⟨2, 5, b_u_law_places⟩
def b_u_law_all_places : Mp.Ss :=
  (.cons (.ret (.bin .add (.bin .add (.call "_law_places" (.cons false (.idx (.var 0) (.cst (.str "first"))) (.cons false (.tup (.cons false (.cst (.str "first")) .nil)) .nil))) (.call "_law_places" (.cons false (.idx (.var 0) (.cst (.str "each"))) (.cons false (.tup (.cons false (.cst (.str "each")) .nil)) .nil)))) (.call "_law_places" (.cons false (.idx (.var 0) (.cst (.str "last"))) (.cons false (.tup (.cons false (.cst (.str "last")) .nil)) .nil))))) .nil)
def d_u_law_all_places : Df := ⟨1, 1, b_u_law_all_places⟩
def b_u_law_listed : Mp.Ss :=
  (.cons (.ret (.ife (.isi (.var 0) [.ty .tuple]) (.lc (.call "_law_listed" (.cons false (.var 1) .nil)) (.one [1] (.nm 1) (.seq (.var 0)) .nil)) (.var 0))) .nil)
def d_u_law_listed : Df := ⟨1, 2, b_u_law_listed⟩
def b_law : Mp.Ss :=
  (.cons (.set (.nm 1) (.lst (.cons false (.var 0) (.cons false (.cst (.int 0)) .nil)))) 
  (.cons (.set (.nm 2) (.call "_law_program" (.cons false (.var 1) .nil))) 
  (.cons (.set (.nm 3) (.call "_law_made" (.cons false (.var 2) .nil))) 
  (.cons (.ifs (.cmp .ne (.tup (.cons false (.att (.var 3) "letters") (.cons false (.att (.var 3) "sizes") (.cons false (.att (.var 3) "first") (.cons false (.att (.var 3) "each") (.cons false (.att (.var 3) "last") .nil)))))) (.tup (.cons false (.idx (.var 2) (.cst (.str "letters"))) (.cons false (.idx (.var 2) (.cst (.str "sizes"))) (.cons false (.idx (.var 2) (.cst (.str "first"))) (.cons false (.idx (.var 2) (.cst (.str "each"))) (.cons false (.idx (.var 2) (.cst (.str "last"))) .nil))))))) 
    (.cons (.ret (.cst (.bl false))) .nil) .nil) 
  (.cons (.ifs (.cmp .ne (.lc (.mth (.var 3) "part" (.cons false (.var 4) .nil)) (.one [4] (.nm 4) (.seq (.tup (.cons false (.cst (.str "first")) (.cons false (.cst (.str "each")) (.cons false (.cst (.str "last")) .nil))))) .nil)) (.lst (.cons false (.idx (.var 2) (.cst (.str "first"))) (.cons false (.idx (.var 2) (.cst (.str "each"))) (.cons false (.idx (.var 2) (.cst (.str "last"))) .nil))))) 
    (.cons (.ret (.cst (.bl false))) .nil) .nil) 
  (.cons (.set (.nm 5) (.lc (.call "_law_listed" (.cons false (.idx (.var 2) (.var 4)) .nil)) (.one [4] (.nm 4) (.seq (.tup (.cons false (.cst (.str "sizes")) (.cons false (.cst (.str "first")) (.cons false (.cst (.str "each")) (.cons false (.cst (.str "last")) .nil)))))) .nil))) 
  (.cons (.set (.nm 6) (.mk "Program" (.cons false (.idx (.var 2) (.cst (.str "letters"))) (.cons false (.idx (.var 5) (.cst (.int 0))) (.cons false (.idx (.var 5) (.cst (.int 1))) (.cons false (.idx (.var 5) (.cst (.int 2))) (.cons false (.idx (.var 5) (.cst (.int 3))) .nil))))))) 
  (.cons (.ifs (.or (.cmp .ne (.var 6) (.var 3)) (.or (.cmp .ne (.call "steps_in" (.cons false (.var 3) .nil)) (.blt "len" (.cons false (.call "_law_all_places" (.cons false (.var 2) .nil)) .nil))) (.or (.cmp .eq (.var 3) (.cst (.int 5))) (.cmp .eq (.var 3) (.mk "Program" (.cons false (.bin .add (.bin .mod (.idx (.var 2) (.cst (.str "letters"))) (.cst (.int 3))) (.cst (.int 1))) (.cons false (.idx (.var 2) (.cst (.str "sizes"))) (.cons false (.idx (.var 2) (.cst (.str "first"))) (.cons false (.idx (.var 2) (.cst (.str "each"))) (.cons false (.idx (.var 2) (.cst (.str "last"))) .nil)))))))))) 
    (.cons (.ret (.cst (.bl false))) .nil) .nil) 
  (.cons (.expr (.mth (.idx (.var 5) (.cst (.int 2))) "append" (.cons false (.lst (.cons false (.cst (.str "tell")) (.cons false (.lst (.cons false (.cst (.str "number")) (.cons false (.cst (.int 1)) .nil))) .nil))) .nil))) 
  (.cons (.ifs (.cmp .ne (.var 6) (.var 3)) 
    (.cons (.ret (.cst (.bl false))) .nil) .nil) 
  (.cons (.set (.nm 7) (.lst (.cons false (.tup (.cons false (.tup (.cons false (.cst (.int 0)) (.cons false (.lst .nil) (.cons false (.lst .nil) (.cons false (.lst .nil) (.cons false (.lst .nil) .nil)))))) (.cons false (.cst (.str "letters")) .nil))) (.cons false (.tup (.cons false (.tup (.cons false (.cst (.int 4)) (.cons false (.lst .nil) (.cons false (.lst .nil) (.cons false (.lst .nil) (.cons false (.lst .nil) .nil)))))) (.cons false (.cst (.str "letters")) .nil))) (.cons false (.tup (.cons false (.tup (.cons false (.cst (.bl true)) (.cons false (.lst .nil) (.cons false (.lst .nil) (.cons false (.lst .nil) (.cons false (.lst .nil) .nil)))))) (.cons false (.cst (.str "letters")) .nil))) (.cons false (.tup (.cons false (.tup (.cons false (.cst (.int 1)) (.cons false (.bin .mul (.lst (.cons false (.cst (.int 1)) .nil)) (.cst (.int 4))) (.cons false (.lst .nil) (.cons false (.lst .nil) (.cons false (.lst .nil) .nil)))))) (.cons false (.cst (.str "sizes")) .nil))) (.cons false (.tup (.cons false (.tup (.cons false (.cst (.int 1)) (.cons false (.lst (.cons false (.cst (.int 0)) .nil)) (.cons false (.lst .nil) (.cons false (.lst .nil) (.cons false (.lst .nil) .nil)))))) (.cons false (.cst (.str "sizes")) .nil))) .nil))))))) 
  (.cons (.set (.nm 7) (.bin .add (.var 7) (.lst (.cons false (.tup (.cons false (.tup (.cons false (.cst (.int 1)) (.cons false (.lst (.cons false (.cst (.int 5)) .nil)) (.cons false (.lst .nil) (.cons false (.lst .nil) (.cons false (.lst .nil) .nil)))))) (.cons false (.cst (.str "sizes")) .nil))) (.cons false (.tup (.cons false (.tup (.cons false (.cst (.int 1)) (.cons false (.cst .non) (.cons false (.lst .nil) (.cons false (.lst .nil) (.cons false (.lst .nil) .nil)))))) (.cons false (.cst (.str "sizes")) .nil))) (.cons false (.tup (.cons false (.tup (.cons false (.cst (.int 1)) (.cons false (.lst .nil) (.cons false (.cst .non) (.cons false (.lst .nil) (.cons false (.lst .nil) .nil)))))) (.cons false (.tup (.cons false (.cst (.str "first")) .nil)) .nil))) (.cons false (.tup (.cons false (.tup (.cons false (.cst (.int 1)) (.cons false (.lst .nil) (.cons false (.lst .nil) (.cons false (.lst (.cons false (.cst (.int 5)) .nil)) (.cons false (.lst .nil) .nil)))))) (.cons false (.tup (.cons false (.cst (.str "each")) (.cons false (.cst (.int 0)) .nil))) .nil))) .nil))))))) 
  (.cons (.set (.nm 7) (.bin .add (.var 7) (.lst (.cons false (.tup (.cons false (.tup (.cons false (.cst (.int 1)) (.cons false (.lst .nil) (.cons false (.lst .nil) (.cons false (.lst .nil) (.cons false (.lst (.cons false (.tup (.cons false (.cst (.str "zz")) .nil)) .nil)) .nil)))))) (.cons false (.tup (.cons false (.cst (.str "last")) (.cons false (.cst (.int 0)) .nil))) .nil))) (.cons false (.tup (.cons false (.tup (.cons false (.cst (.int 1)) (.cons false (.lst .nil) (.cons false (.lst (.cons false (.tup (.cons false (.cst (.str "set")) (.cons false (.cst (.int 0)) (.cons false (.tup (.cons false (.cst (.str "number")) (.cons false (.cst (.int 0)) .nil))) .nil)))) .nil)) (.cons false (.lst .nil) (.cons false (.lst .nil) .nil)))))) (.cons false (.tup (.cons false (.cst (.str "first")) (.cons false (.cst (.int 0)) .nil))) .nil))) (.cons false (.tup (.cons false (.tup (.cons false (.cst (.int 1)) (.cons false (.lst (.cons false (.cst (.int 2)) .nil)) (.cons false (.lst (.cons false (.tup (.cons false (.cst (.str "set")) (.cons false (.cst (.int 0)) (.cons false (.tup (.cons false (.cst (.str "number")) (.cons false (.cst (.int 4)) .nil))) .nil)))) .nil)) (.cons false (.lst .nil) (.cons false (.lst .nil) .nil)))))) (.cons false (.tup (.cons false (.cst (.str "first")) (.cons false (.cst (.int 0)) (.cons false (.cst (.str "value")) .nil)))) .nil))) .nil)))))) 
  (.cons (.set (.nm 7) (.bin .add (.var 7) (.lst (.cons false (.tup (.cons false (.tup (.cons false (.cst (.int 1)) (.cons false (.lst .nil) (.cons false (.lst (.cons false (.tup (.cons false (.cst (.str "tell")) (.cons false (.tup (.cons false (.cst (.str "letter")) .nil)) .nil))) .nil)) (.cons false (.lst .nil) (.cons false (.lst .nil) .nil)))))) (.cons false (.tup (.cons false (.cst (.str "first")) (.cons false (.cst (.int 0)) (.cons false (.cst (.str "value")) .nil)))) .nil))) (.cons false (.tup (.cons false (.tup (.cons false (.cst (.int 1)) (.cons false (.lst .nil) (.cons false (.lst .nil) (.cons false (.lst .nil) (.cons false (.lst (.cons false (.tup (.cons false (.cst (.str "tell")) (.cons false (.tup (.cons false (.cst (.str "letter")) .nil)) .nil))) .nil)) .nil)))))) (.cons false (.tup (.cons false (.cst (.str "last")) (.cons false (.cst (.int 0)) (.cons false (.cst (.str "value")) .nil)))) .nil))) .nil))))) 
  (.cons (.set (.tu [.nm 8, .nm 9]) (.tup (.cons false (.tup (.cons false (.cst (.str "number")) (.cons false (.cst (.int 0)) .nil))) (.cons false (.tup (.cons false (.cst (.str "plus")) (.cons false (.tup (.cons false (.cst (.str "number")) (.cons false (.cst (.int 0)) .nil))) (.cons false (.tup (.cons false (.cst (.str "plus")) (.cons false (.tup (.cons false (.cst (.str "number")) (.cons false (.cst (.int 0)) .nil))) (.cons false (.tup (.cons false (.cst (.str "plus")) (.cons false (.tup (.cons false (.cst (.str "number")) (.cons false (.cst (.int 0)) .nil))) (.cons false (.tup (.cons false (.cst (.str "number")) (.cons false (.cst (.int 0)) .nil))) .nil)))) .nil)))) .nil)))) .nil)))) 
  (.cons (.set (.nm 10) (.tup (.cons false (.cst (.str "same")) (.cons false (.var 8) (.cons false (.var 8) .nil))))) 
  (.cons (.set (.nm 7) (.bin .add (.var 7) (.lst (.cons false (.tup (.cons false (.tup (.cons false (.cst (.int 1)) (.cons false (.lst .nil) (.cons false (.lst .nil) (.cons false (.lst (.cons false (.tup (.cons false (.cst (.str "tell")) (.cons false (.tup (.cons false (.cst (.str "plus")) (.cons false (.var 8) (.cons false (.tup (.cons false (.cst (.str "var")) (.cons false (.cst (.int 0)) .nil))) .nil)))) .nil))) .nil)) (.cons false (.lst .nil) .nil)))))) (.cons false (.tup (.cons false (.cst (.str "each")) (.cons false (.cst (.int 0)) (.cons false (.cst (.str "value")) (.cons false (.cst (.str "right")) .nil))))) .nil))) (.cons false (.tup (.cons false (.tup (.cons false (.cst (.int 1)) (.cons false (.lst .nil) (.cons false (.lst .nil) (.cons false (.lst (.cons false (.tup (.cons false (.cst (.str "tell")) (.cons false (.var 9) .nil))) .nil)) (.cons false (.lst .nil) .nil)))))) (.cons false (.tup (.cons false (.cst (.str "each")) (.cons false (.cst (.int 0)) (.cons false (.cst (.str "value")) (.cons false (.cst (.str "right")) (.cons false (.cst (.str "right")) (.cons false (.cst (.str "left")) .nil))))))) .nil))) .nil))))) 
  (.cons (.set (.nm 7) (.bin .add (.var 7) (.lst (.cons false (.tup (.cons false (.tup (.cons false (.cst (.int 1)) (.cons false (.lst .nil) (.cons false (.lst .nil) (.cons false (.lst (.cons false (.tup (.cons false (.cst (.str "if")) (.cons false (.var 8) (.cons false (.lst .nil) (.cons false (.lst .nil) .nil))))) .nil)) (.cons false (.lst .nil) .nil)))))) (.cons false (.tup (.cons false (.cst (.str "each")) (.cons false (.cst (.int 0)) (.cons false (.cst (.str "if")) .nil)))) .nil))) (.cons false (.tup (.cons false (.tup (.cons false (.cst (.int 1)) (.cons false (.lst .nil) (.cons false (.lst .nil) (.cons false (.lst (.cons false (.tup (.cons false (.cst (.str "if")) (.cons false (.tup (.cons false (.cst (.str "not")) (.cons false (.tup (.cons false (.cst (.str "less")) (.cons false (.var 8) (.cons false (.cst (.int 5)) .nil)))) .nil))) (.cons false (.lst .nil) (.cons false (.lst .nil) .nil))))) .nil)) (.cons false (.lst .nil) .nil)))))) (.cons false (.tup (.cons false (.cst (.str "each")) (.cons false (.cst (.int 0)) (.cons false (.cst (.str "if")) (.cons false (.cst (.str "left")) (.cons false (.cst (.str "right")) .nil)))))) .nil))) .nil))))) 
  (.cons (.set (.nm 7) (.bin .add (.var 7) (.lst (.cons false (.tup (.cons false (.tup (.cons false (.cst (.int 1)) (.cons false (.lst .nil) (.cons false (.lst .nil) (.cons false (.lst (.cons false (.tup (.cons false (.cst (.str "if")) (.cons false (.tup (.cons false (.cst (.str "not")) (.cons false (.tup (.cons false (.cst (.str "not")) (.cons false (.tup (.cons false (.cst (.str "not")) (.cons false (.var 10) .nil))) .nil))) .nil))) (.cons false (.lst .nil) (.cons false (.lst .nil) .nil))))) .nil)) (.cons false (.lst .nil) .nil)))))) (.cons false (.tup (.cons false (.cst (.str "each")) (.cons false (.cst (.int 0)) (.cons false (.cst (.str "if")) (.cons false (.cst (.str "left")) (.cons false (.cst (.str "left")) (.cons false (.cst (.str "left")) .nil))))))) .nil))) .nil)))) 
  (.cons (.set (.nm 7) (.bin .add (.var 7) (.lst (.cons false (.tup (.cons false (.tup (.cons false (.cst (.int 1)) (.cons false (.lst .nil) (.cons false (.lst .nil) (.cons false (.lst (.cons false (.tup (.cons false (.cst (.str "if")) (.cons false (.var 10) (.cons false (.lst (.cons false (.tup (.cons false (.cst (.str "if")) (.cons false (.var 10) (.cons false (.lst (.cons false (.tup (.cons false (.cst (.str "if")) (.cons false (.var 10) (.cons false (.lst .nil) (.cons false (.lst .nil) .nil))))) .nil)) (.cons false (.lst .nil) .nil))))) .nil)) (.cons false (.lst .nil) .nil))))) .nil)) (.cons false (.lst .nil) .nil)))))) (.cons false (.tup (.cons false (.cst (.str "each")) (.cons false (.cst (.int 0)) (.cons false (.cst (.str "then")) (.cons false (.cst (.int 0)) (.cons false (.cst (.str "then")) (.cons false (.cst (.int 0)) (.cons false (.cst (.str "then")) .nil)))))))) .nil))) .nil)))) 
  (.cons (.set (.nm 7) (.bin .add (.var 7) (.lst (.cons false (.tup (.cons false (.tup (.cons false (.cst (.int 1)) (.cons false (.lst .nil) (.cons false (.lst .nil) (.cons false (.lst (.cons false (.tup (.cons false (.cst (.str "if")) (.cons false (.var 10) (.cons false (.lst .nil) (.cons false (.cst (.int 5)) .nil))))) .nil)) (.cons false (.lst .nil) .nil)))))) (.cons false (.tup (.cons false (.cst (.str "each")) (.cons false (.cst (.int 0)) (.cons false (.cst (.str "else")) .nil)))) .nil))) (.cons false (.tup (.cons false (.tup (.cons false (.cst (.int 1)) (.cons false (.lst .nil) (.cons false (.lst .nil) (.cons false (.lst (.cons false (.tup (.cons false (.cst (.str "tell")) .nil)) .nil)) (.cons false (.lst .nil) .nil)))))) (.cons false (.tup (.cons false (.cst (.str "each")) (.cons false (.cst (.int 0)) .nil))) .nil))) .nil))))) 
  (.cons (.for_ (.tu [.nm 11, .nm 12]) (.seq (.var 7)) 
    (.cons (.try_ 
      (.cons (.expr (.mk "Program" (.cons false (.idx (.var 11) (.cst (.int 0))) (.cons false (.idx (.var 11) (.cst (.int 1))) (.cons false (.idx (.var 11) (.cst (.int 2))) (.cons false (.idx (.var 11) (.cst (.int 3))) (.cons false (.idx (.var 11) (.cst (.int 4))) .nil))))))) 
      (.cons (.ret (.cst (.bl false))) .nil)) (.cons ["BadProgram"] (some 13) 
      (.cons (.ifs (.cmp .ne (.att (.var 13) "place") (.var 12)) 
        (.cons (.ret (.cst (.bl false))) .nil) .nil) .nil) .nil)) .nil)) 
  (.cons (.try_ 
    (.cons (.expr (.mk "Program" (.cons false (.cst (.int 1)) (.cons false (.lst .nil) (.cons false (.bin .mul (.lst (.cons false (.tup (.cons false (.cst (.str "tell")) (.cons false (.var 8) .nil))) .nil)) (.cst (.int 6))) (.cons false (.bin .mul (.lst (.cons false (.tup (.cons false (.cst (.str "tell")) (.cons false (.var 8) .nil))) .nil)) (.cst (.int 6))) (.cons false (.lst (.cons false (.tup (.cons false (.cst (.str "if")) (.cons false (.var 10) (.cons false (.lst (.cons false (.tup (.cons false (.cst (.str "tell")) (.cons false (.var 8) .nil))) .nil)) (.cons false (.lst .nil) .nil))))) .nil)) .nil))))))) 
    (.cons (.ret (.cst (.bl false))) .nil)) (.cons ["TooLarge"] (some 13) 
    (.cons (.ifs (.cmp .ne (.att (.var 13) "number") (.cst (.int 14))) 
      (.cons (.ret (.cst (.bl false))) .nil) .nil) .nil) .nil)) 
  (.cons (.try_ 
    (.cons (.expr (.call "steps_in" (.cons false (.cst .non) .nil))) 
    (.cons (.ret (.cst (.bl false))) .nil)) (.cons ["BadProgram"] (some 13) 
    (.cons (.ret (.cmp .eq (.att (.var 13) "place") (.cst (.str "program")))) .nil) .nil)) .nil))))))))))))))))))))))))
def d_law : Df := ⟨1, 14, b_law⟩
end Pg

set_option Elab.async false
set_option linter.all false
set_option maxRecDepth 100000
set_option maxHeartbeats 1000000
/-! Canonical data in the memory; how turns go on. -/
namespace Pg
open PySem PySem.Spec PyProof.Rows L2 Mp
@[simp] theorem str_inj (a b : String) : (Str.ofString a = Str.ofString b) = (a = b) := by
  simp only [eq_iff_iff]
  constructor
  · intro h
    rw [Str.ofString_eq_toList, Str.ofString_eq_toList] at h
    have h : (a.toList.map Char.toNat).toArray = (b.toList.map Char.toNat).toArray := congrArg Str.cps h
    have h : a.toList.map Char.toNat = b.toList.map Char.toNat := by simpa using h
    have h := (List.map_inj_right (f := Char.toNat) (fun x y e => Char.toNat_inj.mp e)).mp h
    exact String.toList_inj.mp h
  · exact fun h => h ▸ rfl
/-! ### data: c tells rows as tuples, d lies in the memory -/
def rowAt (m : Mem) : D → Option (List D)
  | .tup ds => some ds
  | .ref i => (match m[i]? with
    | some (.lst ds) => some ds
    | _ => none)
  | _ => none
mutual
def Rp (m : Mem) : D → D → Prop
  | .non, d => d = .non
  | .bl b, d => d = .bl b
  | .int i, d => d = .int i
  | .str x, d => d = .str x ∧ PyData.strOk x = true
  | .tup cs, d => ∃ ds, rowAt m d = some ds ∧ Rps m cs ds
  | .ref _, _ => False
  | .fn _, _ => False
def Rps (m : Mem) : List D → List D → Prop
  | [], ds => ds = []
  | c :: r, ds => ∃ d q, ds = d :: q ∧ Rp m c d ∧ Rps m r q
end
abbrev Pu (c : D) : Prop := Rp [] c c
abbrev Pus (c : List D) : Prop := Rps [] c c
def isT : D → Bool
  | .tup _ => true
  | _ => false
def isN : D → Bool
  | .int i => decide (0 ≤ i)
  | _ => false
def isB (c : D) (n : Int) : Bool := match c with
  | .int i => decide (0 ≤ i) && decide (i < n)
  | _ => false
def isS : D → Bool
  | .str _ => true
  | _ => false
section
variable {m m' : Mem}
def Le (m m' : Mem) : Prop := ∀ (i : Nat) (ds : List D), m[i]? = some (O.lst ds) → m'[i]? = some (O.lst ds)
theorem rowAt_ref {i : Nat} {ds : List D} (h : rowAt m (.ref i) = some ds) : m[i]? = some (O.lst ds) := by
  have h : (match m[i]? with
    | some (O.lst ds) => some ds
    | _ => none) = some ds := h
  split at h
  · rename_i q; cases h; exact q
  · cases h
theorem rowAt_of {i : Nat} {ds : List D} (h : m[i]? = some (O.lst ds)) : rowAt m (.ref i) = some ds := by
  show (match m[i]? with
    | some (O.lst ds) => some ds
    | _ => none) = some ds
  rw [h]
theorem Le.refl : Le m m := fun _ _ h => h
theorem Le.app (e : Mem) : Le m (m ++ e) := fun i ds h => by
  have : i < m.length := by
    rcases Nat.lt_or_ge i m.length with z | z
    · exact z
    · rw [List.getElem?_eq_none z] at h; cases h
  rw [List.getElem?_append_left this]; exact h
theorem Le.trans {m2 : Mem} (a : Le m m') (b : Le m' m2) : Le m m2 := fun i ds h => b i ds (a i ds h)
theorem Le.nil : Le [] m := fun i ds h => by simp at h
theorem rowAt_mono (h : Le m m') : ∀ {d : D} {ds}, rowAt m d = some ds → rowAt m' d = some ds
  | .tup _, _, e => e
  | .ref i, ds, e => rowAt_of (h i _ (rowAt_ref e))
  | .non, _, e => e
  | .bl _, _, e => e
  | .int _, _, e => e
  | .str _, _, e => e
  | .fn _, _, e => e
mutual
theorem Rp.mono (h : Le m m') : ∀ {c d : D}, Rp m c d → Rp m' c d
  | .non, _, e => e
  | .bl _, _, e => e
  | .int _, _, e => e
  | .str _, _, e => e
  | .tup cs, d, e => by
    rw [Rp] at e ⊢
    obtain ⟨ds, a, b⟩ := e
    exact ⟨ds, rowAt_mono h a, Rps.mono h b⟩
  | .ref _, _, e => e
  | .fn _, _, e => e
theorem Rps.mono (h : Le m m') : ∀ {c d : List D}, Rps m c d → Rps m' c d
  | [], _, e => e
  | c :: r, _, e => by
    rw [Rps] at e ⊢
    obtain ⟨d, q, a, b, z⟩ := e
    exact ⟨d, q, a, Rp.mono h b, Rps.mono h z⟩
end
theorem Rps.length : ∀ {cs ds : List D}, Rps m cs ds → ds.length = cs.length
  | [], _, h => by rw [Rps] at h; rw [h]
  | c :: r, _, h => by rw [Rps] at h; obtain ⟨d, q, rfl, _, h⟩ := h; simp [Rps.length h]
theorem rowAt_seq {d : D} {ds : List D} (h : rowAt m d = some ds) : seqOf m d = some ds := by
  cases d with
  | tup _ => exact h
  | ref i =>
    have q := rowAt_ref h
    simp [seqOf, Mp.listAt, q]
  | _ => cases h
theorem rowAt_len {d : D} {ds : List D} (h : rowAt m d = some ds) : lenD m d = some (ds.length : Int) := by
  cases d with
  | tup _ => cases h; rfl
  | ref i =>
    have q := rowAt_ref h
    simp [lenD, q]
  | _ => cases h
theorem rowAt_tag {d : D} {ds : List D} (h : rowAt m d = some ds) : tagOf m d = some (.ty .tuple) ∨ tagOf m d = some (.ty .list) := by
  cases d with
  | tup _ => cases h; exact .inl rfl
  | ref i =>
    have q := rowAt_ref h
    simp [tagOf, q]
  | _ => cases h
theorem idx_of {d : D} {ds : List D} (h : seqOf m d = some ds) (i : Nat) : idxD d (.int i) m = ds[i]? := by
  cases d with
  | tup xs => cases h; simp [idxD, at_]
  | ref r =>
    have h : Mp.listAt m r = some ds := h
    simp [idxD, idxR, h, at_]
  | _ => cases h
theorem rowAt_idx {d : D} {ds : List D} (h : rowAt m d = some ds) : (∀ k : Int, 0 ≤ k → idxD d (.int k) m = ds[k.toNat]?) := fun k z => by
  obtain ⟨n, rfl⟩ := Int.eq_ofNat_of_zero_le z
  exact idx_of (rowAt_seq h) n
/-! ### what a def leaves -/
theorem kept_same (rs : List Nat) : kept m m rs = none := if_pos (Nat.le_refl _)
@[simp] theorem gc_same (d : D) : gc m d m = .ok d m := by unfold gc; rw [kept_same]
@[simp] theorem gcX_same (x : Xn) : gcX m x m = .exc x m := by unfold gcX; rw [kept_same]
/-! ### turns -/
@[simp] theorem truthE_bl (W : Wd) (b : Bool) : truthE W (.bl b) m = .ok b m := rfl
@[simp] theorem keep_bl (W : Wd) (k b : Bool) (m0 : Mem) : keepT W k m0 (.bl b) m = .ok (.bl b) m := rfl
@[simp] theorem cmp_lt (W : Wd) (i j : Int) : cmpE W .lt (.int i) (.int j) m = .ok (.bl (decide (i < j))) m := rfl
@[simp] theorem cmp_le (W : Wd) (i j : Int) : cmpE W .le (.int i) (.int j) m = .ok (.bl (decide (i ≤ j))) m := rfl
@[simp] theorem cmp_gt (W : Wd) (i j : Int) : cmpE W .gt (.int i) (.int j) m = .ok (.bl (decide (j < i))) m := rfl
@[simp] theorem cmp_ge (W : Wd) (i j : Int) : cmpE W .ge (.int i) (.int j) m = .ok (.bl (decide (j ≤ i))) m := rfl
@[simp] theorem cmp_eqI (W : Wd) (i j : Int) : cmpE W .eq (.int i) (.int j) m = .ok (.bl (decide (i = j))) m := rfl
@[simp] theorem cmp_neI (W : Wd) (i j : Int) : cmpE W .ne (.int i) (.int j) m = .ok (.bl (!decide (i = j))) m := rfl
@[simp] theorem cmp_eqS (W : Wd) (i j : Str) : cmpE W .eq (.str i) (.str j) m = .ok (.bl (decide (i = j))) m := rfl
@[simp] theorem cmp_neS (W : Wd) (i j : Str) : cmpE W .ne (.str i) (.str j) m = .ok (.bl (!decide (i = j))) m := rfl
@[simp] theorem cmp_isin (W : Wd) (x y : D) : cmpE W .isin x y m = someB (inD m x y) m := rfl
@[simp] theorem cmp_notin (W : Wd) (x y : D) : cmpE W .notin x y m = someB ((inD m x y).map (!·)) m := rfl
@[simp] theorem inD_tup (x : D) (ds : List D) : inD m x (.tup ds) = inSeq m x ds := rfl
@[simp] theorem thenS_ok (d : D) (ρ : Mp.Env) (k : D → Mem → SR) : thenS (.ok d m) ρ k = k d m := rfl
@[simp] theorem thenS_exc (x : Xn) (ρ : Mp.Env) (k : D → Mem → SR) : thenS (.exc x m) ρ k = .exc x ρ m := rfl
@[simp] theorem seqS_nx (ρ : Mp.Env) (k : Mp.Env → Mem → SR) : seqS (.nx ρ m) k = k ρ m := rfl
@[simp] theorem seqS_rt (d : D) (k : Mp.Env → Mem → SR) : seqS (.rt d m) k = .rt d m := rfl
@[simp] theorem seqS_exc (x : Xn) (ρ : Mp.Env) (k : Mp.Env → Mem → SR) : seqS (.exc x ρ m) k = .exc x ρ m := rfl
@[simp] theorem finR_nx (m0 : Mem) (ρ : Mp.Env) : finR m0 (.nx ρ m) = gc m0 .non m := rfl
@[simp] theorem finR_rt (m0 : Mem) (d : D) : finR m0 (.rt d m) = gc m0 d m := rfl
@[simp] theorem finR_exc (m0 : Mem) (x : Xn) (ρ : Mp.Env) : finR m0 (.exc x ρ m) = gcX m0 x m := rfl
@[simp] theorem truthR_ok (W : Wd) (d : D) : truthR W (.ok d m) = truthE W d m := rfl
@[simp] theorem truthR_exc (W : Wd) (x : Xn) : truthR W (.exc x m) = .exc x m := rfl
@[simp] theorem someR_some (d : D) : someR (some d) m = .ok d m := rfl
@[simp] theorem someB_some (d : Bool) : someB (some d) m = .ok (.bl d) m := rfl
@[simp] theorem some1_some (d : D) : some1 (some d) m = .ok d m := rfl
@[simp] theorem bin_sub (i j : Int) : binD .sub (.int i) (.int j) m = .ok (.int (i - j)) m := rfl
@[simp] theorem bin_add (i j : Int) : binD .add (.int i) (.int j) m = .ok (.int (i + j)) m := rfl
theorem bltin_len {d : D} {n : Int} (h : lenD m d = some n) : bltin "len" [d] m = .ok (.int n) m := by
  unfold bltin
  rw [if_pos rfl]
  simp [h]
end
/-! ### what of the program a table holds -/
structure HasProg (T : Tab) : Prop where
  is_row : T.df ("is_row", none) = some d_is_row
  is_number : T.df ("is_number", none) = some d_is_number
  is_below : T.df ("is_below", none) = some d_is_below
  deep_rows : T.df ("deep_rows", none) = some d_deep_rows
  check_expression : T.df ("check_expression", none) = some d_check_expression
  check_condition : T.df ("check_condition", none) = some d_check_condition
  init : T.df ("Program", some "__init__") = some d_Program_init
  eq : T.df ("Program", some "__eq__") = some d_Program_eq
  part : T.df ("Program", some "part") = some d_Program_part
  check_steps : T.df ("check_steps", none) = some d_check_steps
  check_step : T.df ("check_step", none) = some d_check_step
  count_steps : T.df ("count_steps", none) = some d_count_steps
  check_program : T.df ("check_program", none) = some d_check_program
  steps_in : T.df ("steps_in", none) = some d_steps_in
  gNumber : T.glo "MOST_NUMBER" = some (.int 3)
  gDeep : T.glo "MOST_DEEP" = some (.int 3)
  gSums : T.glo "SUMS" = some (.tup [.str "plus", .str "times"])
  gTests : T.glo "TESTS" = some (.tup [.str "less", .str "same"])
  gJoins : T.glo "JOINS" = some (.tup [.str "and", .str "or"])
  gLetters : T.glo "MOST_LETTERS" = some (.int 3)
  gVars : T.glo "MOST_VARIABLES" = some (.int 3)
  gSize : T.glo "MOST_SIZE" = some (.int 4)
  gSteps : T.glo "MOST_STEPS" = some (.int 12)
  gNested : T.glo "MOST_NESTED" = some (.int 3)
  gParts : T.glo "PARTS" = some (.tup [.str "first", .str "each", .str "last"])
  bad : T.exf "BadProgram" = some ("place" : Str)
  large : T.exf "TooLarge" = some ("number" : Str)
  cls : T.isC "Program" = true
  fld : ∀ f ∈ (["letters", "sizes", "first", "each", "last"] : List Str), T.fld "Program" f = true
section
variable {T : Tab} {k : Nat} {m : Mem}
@[simp] theorem wd_isC : (wd T k).isC = T.isC := by cases k <;> rfl
@[simp] theorem wd_glo : (wd T k).glo = T.glo := by cases k <;> rfl
@[simp] theorem wd_hot : (wd T k).hot = false := by cases k <;> rfl
@[simp] theorem wd_fld : (wd T k).fld = T.fld := by cases k <;> rfl
@[simp] theorem wd_turns : (wd T k).turns = T.turns := by cases k <;> rfl
@[simp] theorem wd_has (g : Fn) : (wd T (k+1)).has g = (T.df g).isSome := rfl
@[simp] theorem wd_call : (wd T (k+1)).call = callD T (k+1) := rfl
@[simp] theorem wd_make : (wd T (k+1)).make = callD T k := rfl
theorem is_row_ok (h : HasProg T) {c d : D} (r : Rp m c d) : callD T (k+1) ("is_row", none) [d] m = .ok (.bl (isT c)) m := by
  rw [callD_succ, h.is_row]
  cases c with
  | tup cs =>
    rw [Rp] at r
    obtain ⟨ds, e, _⟩ := r
    rcases rowAt_tag e with t | t <;> simp [d_is_row, b_is_row, evSs, evS, evE, startE, isTys, t, tyOk, isT, isOf]
  | str x => rw [Rp] at r; obtain ⟨rfl, _⟩ := r; simp [d_is_row, b_is_row, evSs, evS, evE, startE, isTys, tyOk, isT, isOf, tagOf]
  | ref _ => exact r.elim
  | fn _ => exact r.elim
  | _ => rw [Rp] at r; subst r; simp [d_is_row, b_is_row, evSs, evS, evE, startE, isTys, tyOk, isT, isOf, tagOf]
theorem is_number_ok (h : HasProg T) {c d : D} (r : Rp m c d) : callD T (k+1) ("is_number", none) [d] m = .ok (.bl (isN c)) m := by
  rw [callD_succ, h.is_number]
  cases c with
  | tup cs =>
    rw [Rp] at r
    obtain ⟨ds, e, _⟩ := r
    rcases rowAt_tag e with t | t <;> simp [d_is_number, b_is_number, evSs, evS, evE, startE, isTys, t, tyOk, isN, isOf, cstD]
  | str x => rw [Rp] at r; obtain ⟨rfl, _⟩ := r; simp [d_is_number, b_is_number, evSs, evS, evE, startE, isTys, tyOk, isN, isOf, tagOf, cstD]
  | ref _ => exact r.elim
  | fn _ => exact r.elim
  | _ => rw [Rp] at r; subst r; simp [d_is_number, b_is_number, evSs, evS, evE, startE, isTys, tyOk, isN, isOf, tagOf, cstD]
theorem is_below_ok (h : HasProg T) {c d : D} {n : Int} (r : Rp m c d) : callD T (k+2) ("is_below", none) [d, .int n] m = .ok (.bl (isB c n)) m := by
  rw [callD_succ, h.is_below]
  simp only [d_is_below, b_is_below, evSs, evS, evE, evEs, startE, wd_has, h.is_number, wd_call]
  simp [is_number_ok h r, evE, evEs]
  cases c with
  | int i =>
    rw [Rp] at r; subst r
    simp only [isN, isB]
    by_cases z : 0 ≤ i <;> simp [z]
  | _ => simp [isN, isB]
/-- isinstance(.., str) -/
theorem isS_ok {c d : D} (r : Rp m c d) : isTys m d [.ty .str] = some (isS c) := by
  cases c with
  | tup cs =>
    rw [Rp] at r
    obtain ⟨ds, e, _⟩ := r
    rcases rowAt_tag e with t | t <;> simp [isTys, t, isS, isOf]
  | str x => rw [Rp] at r; obtain ⟨rfl, _⟩ := r; simp [isTys, isS, isOf, tagOf]
  | ref _ => exact r.elim
  | fn _ => exact r.elim
  | _ => rw [Rp] at r; subst r; simp [isTys, isS, isOf, tagOf]
end
end Pg

set_option Elab.async false
set_option linter.all false
set_option maxRecDepth 100000
set_option maxHeartbeats 2000000
/-! What is left behind a def; comprehensions; deep_rows. -/
namespace Pg
open PySem PySem.Spec PyProof.Rows L2 Mp
/-! ### no numbers named -/
mutual
theorem ren_none (g : Nat → Nat) : ∀ d : D, refsD d = [] → renD g d = d
  | .non, _ => rfl
  | .bl _, _ => rfl
  | .int _, _ => rfl
  | .str _, _ => rfl
  | .fn _, _ => rfl
  | .ref _, h => by cases h
  | .tup ds, h => by
    rw [renD, rens_none g ds (by simpa [refsD] using h)]
theorem rens_none (g : Nat → Nat) : ∀ d : List D, refsDs d = [] → renDs g d = d
  | [], _ => rfl
  | d :: r, h => by
    have h : refsD d = [] ∧ refsDs r = [] := by simpa [refsDs] using h
    rw [renDs, ren_none g d h.1, rens_none g r h.2]
end
theorem renF_none (g : Nat → Nat) : ∀ fs : List (Str × D), refsF fs = [] → renF g fs = fs
  | [], _ => rfl
  | (x, d) :: r, h => by
    have h : refsD d = [] ∧ refsF r = [] := by simpa [refsF] using h
    rw [renF, ren_none g d h.1, renF_none g r h.2]
theorem renKV_none (g : Nat → Nat) : ∀ fs : List (D × D), refsKV fs = [] → renKV g fs = fs
  | [], _ => rfl
  | (x, d) :: r, h => by
    have h : refsD x = [] ∧ refsD d = [] ∧ refsKV r = [] := by simpa [refsKV, and_assoc] using h
    rw [renKV, ren_none g x h.1, ren_none g d h.2.1, renKV_none g r h.2.2]
theorem renO_none (g : Nat → Nat) : ∀ o : O, refsO o = [] → renO g o = o
  | .lst ds, h => by rw [renO, rens_none g ds h]
  | .frz ds, h => by rw [renO, rens_none g ds h]
  | .dct ds, h => by rw [renO, renKV_none g ds h]
  | .fdct ds, h => by rw [renO, renKV_none g ds h]
  | .ins c ds, h => by rw [renO, renF_none g ds h]
  | .exo c ds, h => by rw [renO, renF_none g ds h]
  | .dead, _ => rfl
mutual
theorem Rp.refs {m : Mem} : ∀ {c d : D}, Rp m c d → refsD c = []
  | .non, _, _ => rfl
  | .bl _, _, _ => rfl
  | .int _, _, _ => rfl
  | .str _, _, _ => rfl
  | .fn _, _, h => h.elim
  | .ref _, _, h => h.elim
  | .tup cs, _, h => by
    rw [Rp] at h
    obtain ⟨ds, _, h⟩ := h
    rw [refsD]; exact Rps.refs h
theorem Rps.refs {m : Mem} : ∀ {c d : List D}, Rps m c d → refsDs c = []
  | [], _, _ => rfl
  | c :: r, _, h => by
    rw [Rps] at h
    obtain ⟨d, q, rfl, a, b⟩ := h
    rw [refsDs, Rp.refs a, Rps.refs b]; rfl
end
/-! ### what is left -/
/-- the old things, changed at most to ones that name old ones -/
structure Old (m0 m1 : Mem) : Prop where
  len : m1.length = m0.length
  ok : oldOk m0.length m0 m1 = true
theorem oldOk_app (L : Nat) : ∀ (m0 m1 e : Mem), m1.length = m0.length → oldOk L m0 (m1 ++ e) = oldOk L m0 m1
  | [], m1, e, h => by cases m1 <;> rfl
  | _ :: _, [], e, h => by cases h
  | o0 :: r0, o :: r, e, h => by
    simp only [List.cons_append, oldOk]
    rw [oldOk_app L r0 r e (by simpa using h)]
theorem oldOk_refl (L : Nat) : ∀ m : Mem, oldOk L m m = true
  | [] => rfl
  | o :: r => by simp [oldOk, oldOk_refl L r]
theorem Old.refl (m : Mem) : Old m m := ⟨rfl, oldOk_refl _ _⟩
theorem addNew_none (L : Nat) (ks : List Nat) : addNew L [] ks = ks := rfl
theorem reach_none (m : Mem) (L : Nat) : ∀ n, reach m L n 0 [] = []
  | 0 => rfl
  | n + 1 => rfl
theorem kept_none {m0 m1 : Mem} (h : Old m0 m1) (e : Mem) : kept m0 (m1 ++ e) [] = none ∧ e = [] ∨ kept m0 (m1 ++ e) [] = some [] := by
  unfold kept
  by_cases z : (m1 ++ e).length ≤ m0.length
  · refine .inl ⟨if_pos z, ?_⟩
    have : e.length = 0 := by simp [h.len] at z; omega
    exact List.length_eq_zero_iff.mp this
  · rw [if_neg z, oldOk_app _ _ _ _ h.len, if_pos h.ok]
    simp only [addNew_none, reach_none]
    exact .inr rfl
theorem gc_pure {m0 m1 : Mem} (h : Old m0 m1) (e : Mem) {d : D} (hd : refsD d = []) : gc m0 d (m1 ++ e) = .ok d m1 := by
  unfold gc
  rw [hd]
  rcases kept_none h e with ⟨q, rfl⟩ | q
  · rw [q]; simp
  · rw [q]
    simp only [swept, List.map_nil, List.append_nil]
    rw [ren_none _ d hd, ← h.len, List.take_append_of_le_length (Nat.le_refl _), List.take_length]
theorem gcX_pure {m0 m1 : Mem} (h : Old m0 m1) (e : Mem) {d : Xn} (hd : refsF d.fs = []) : gcX m0 d (m1 ++ e) = .exc d m1 := by
  unfold gcX
  rw [hd]
  rcases kept_none h e with ⟨q, rfl⟩ | q
  · rw [q]; simp
  · rw [q]
    simp only [swept, List.map_nil, List.append_nil]
    rw [renF_none _ d.fs hd, ← h.len, List.take_append_of_le_length (Nat.le_refl _), List.take_length]
/-! ### comprehensions -/
theorem get_end (m : Mem) (o : O) (e : Mem) : (m ++ o :: e)[m.length]? = some o := by
  rw [List.getElem?_append_right (Nat.le_refl _)]; simp
theorem set_end (m : Mem) (o o' : O) (e : Mem) : (m ++ o :: e).set m.length o' = m ++ o' :: e := by
  rw [List.set_append_right _ _ (Nat.le_refl _)]; simp
theorem appAt_end {m : Mem} {acc : List D} (v : D) (h : acc.length < lim) (e : Mem) : appAt m.length v (m ++ .lst acc :: e) = .ok () (m ++ .lst (acc ++ [v]) :: e) := by
  unfold appAt
  rw [get_end]
  simp only [h, if_true, set_end]
theorem loopC_ok {src : Src} {m : Mem} {B : D → Mem → R Unit} {f : D → List D} : ∀ (ds acc : List D),
    (∀ d ∈ ds, ∀ acc, acc.length < lim → B d (m ++ [.lst acc]) = .ok () (m ++ [.lst (acc ++ f d)])) →
    (∀ d ∈ ds, (f d).length ≤ 1) →
    (∀ acc, still (m ++ [.lst acc]) src = true) → acc.length + ds.length < lim →
    loopC src B ds (m ++ [.lst acc]) = .ok () (m ++ [.lst (acc ++ ds.flatMap f)])
  | [], acc, _, _, hs, _ => by simp [loopC, hs]
  | d :: r, acc, hb, hf, hs, hl => by
    simp only [List.length_cons] at hl
    have h1 := hf d (List.mem_cons_self ..)
    rw [loopC, if_pos (hs _), hb d (List.mem_cons_self ..) acc (by omega), R.bind_ok,
      loopC_ok r (acc ++ f d) (fun x hx => hb x (List.mem_cons_of_mem _ hx)) (fun x hx => hf x (List.mem_cons_of_mem _ hx)) hs (by simp; omega)]
    simp
theorem still_row {m : Mem} {d : D} {ds : List D} (h : rowAt m d = some ds) : still m (srcOf d ds) = true := by
  cases d with
  | ref i => simp [srcOf, Mp.still, Mp.listAt, rowAt_ref h]
  | _ => rfl
/-! ### rows are short -/
mutual
def sm : D → Bool
  | .tup cs => decide (cs.length < 1000) && sms cs
  | _ => true
def sms : List D → Bool
  | [] => true
  | c :: r => sm c && sms r
end
mutual
def dep : D → Nat
  | .tup cs => deps cs + 1
  | _ => 0
def deps : List D → Nat
  | [] => 0
  | c :: r => max (dep c) (deps r)
end
/-- the canonical of a part of a row, by its place -/
def pick (cs ds : List D) (d : D) : D := .non
theorem Rps.mem {m : Mem} : ∀ {cs ds : List D}, Rps m cs ds → ∀ d ∈ ds, ∃ c ∈ cs, Rp m c d
  | [], _, h, d, hd => by rw [Rps] at h; subst h; cases hd
  | c :: r, _, h, d, hd => by
    rw [Rps] at h
    obtain ⟨d0, q, rfl, a, b⟩ := h
    rcases List.mem_cons.mp hd with rfl | hd
    · exact ⟨c, List.mem_cons_self .., a⟩
    · obtain ⟨c', hc, z⟩ := Rps.mem b d hd
      exact ⟨c', List.mem_cons_of_mem _ hc, z⟩
mutual
theorem Rp.uniq {m : Mem} : ∀ {c c' d : D}, Rp m c d → Rp m c' d → c = c'
  | c, c', d, h, h' => by
    cases c with
    | tup cs =>
      rw [Rp] at h
      obtain ⟨ds, e, q⟩ := h
      cases c' with
      | tup cs' =>
        rw [Rp] at h'
        obtain ⟨ds', e', q'⟩ := h'
        rw [e] at e'; cases e'
        rw [Rps.uniq q q']
      | ref _ => exact h'.elim
      | fn _ => exact h'.elim
      | str _ => rw [Rp] at h'; obtain ⟨rfl, _⟩ := h'; cases e
      | _ => rw [Rp] at h'; subst h'; cases e
    | ref _ => exact h.elim
    | fn _ => exact h.elim
    | str _ =>
      rw [Rp] at h; obtain ⟨rfl, _⟩ := h
      cases c' with
      | tup cs' => rw [Rp] at h'; obtain ⟨ds', e', q'⟩ := h'; cases e'
      | ref _ => exact h'.elim
      | fn _ => exact h'.elim
      | str _ => rw [Rp] at h'; obtain ⟨z, _⟩ := h'; cases z; rfl
      | _ => rw [Rp] at h'; cases h'
    | _ =>
      rw [Rp] at h; subst h
      cases c' with
      | tup cs' => rw [Rp] at h'; obtain ⟨ds', e', q'⟩ := h'; cases e'
      | ref _ => exact h'.elim
      | fn _ => exact h'.elim
      | str _ => rw [Rp] at h'; obtain ⟨z, _⟩ := h'; cases z
      | _ => first | rfl | (rw [Rp] at h'; cases h'; done) | (rw [Rp] at h'; cases h'; rfl)
theorem Rps.uniq {m : Mem} : ∀ {c c' d : List D}, Rps m c d → Rps m c' d → c = c'
  | [], c', d, h, h' => by
    rw [Rps] at h; subst h
    cases c' with
    | nil => rfl
    | cons a b => rw [Rps] at h'; obtain ⟨_, _, z, _⟩ := h'; cases z
  | a :: b, c', d, h, h' => by
    rw [Rps] at h
    obtain ⟨d0, q, rfl, x, y⟩ := h
    cases c' with
    | nil => rw [Rps] at h'; cases h'
    | cons a' b' =>
      rw [Rps] at h'
      obtain ⟨_, _, z, x', y'⟩ := h'
      cases z
      rw [Rp.uniq x x', Rps.uniq y y']
end
theorem evTs_nil (W : Wd) (ρ : Mp.Env) (m : Mem) : evTs W .nil ρ m = .ok true m := rfl
section
variable {T : Tab} {m : Mem}
theorem sms_mem : ∀ {cs : List D} {c : D}, sms cs = true → c ∈ cs → sm c = true
  | [], _, _, h => by cases h
  | a :: r, c, h, hc => by
    have h : sm a = true ∧ sms r = true := by simpa [sms] using h
    rcases List.mem_cons.mp hc with rfl | hc
    · exact h.1
    · exact sms_mem h.2 hc
theorem deps_mem : ∀ {cs : List D} {c : D}, c ∈ cs → dep c ≤ deps cs
  | [], _, h => by cases h
  | a :: r, c, hc => by
    rw [deps]
    rcases List.mem_cons.mp hc with rfl | hc
    · omega
    · have := deps_mem hc; omega
theorem flatMap_map {f : D → D} : ∀ (cs ds : List D), Rps m cs ds → (∀ c d, c ∈ cs → Rp m c d → f d = c) → ds.flatMap (fun d => [f d]) = cs
  | [], _, h, _ => by rw [Rps] at h; subst h; rfl
  | c :: r, _, h, hf => by
    rw [Rps] at h
    obtain ⟨d0, q, rfl, a, b⟩ := h
    have e1 := hf c d0 (List.mem_cons_self ..) a
    have e2 := flatMap_map r q b fun c d hc => hf c d (List.mem_cons_of_mem _ hc)
    simp only [List.flatMap_cons, e1, e2]
    rfl
open Classical in
theorem deep_rows_ok (h : HasProg T) : ∀ (n k : Nat) {m : Mem} {c d : D}, Rp m c d → sm c = true → dep c ≤ n →
    callD T (n + (k + 2)) ("deep_rows", none) [d] m = .ok c m
  | n, k, m, c, d, r, hs, hd => by
    rw [show n + (k + 2) = (n + k + 1) + 1 from by omega, callD_succ, h.deep_rows]
    have hrow := is_row_ok (k := n + k) h r
    by_cases ht : isT c = true
    case neg =>
      have ht : isT c = false := by simpa using ht
      have e : d = c := by
        cases c with
        | tup _ => cases ht
        | ref _ => exact r.elim
        | fn _ => exact r.elim
        | str _ => rw [Rp] at r; exact r.1
        | _ => rw [Rp] at r; exact r
      subst e
      simp [d_deep_rows, b_deep_rows, evSs, evS, evE, evEs, startE, h.is_row, hrow, ht]
    obtain ⟨cs, rfl⟩ : ∃ cs, c = .tup cs := by
      cases c with
      | tup cs => exact ⟨cs, rfl⟩
      | _ => cases ht
    cases n with
    | zero => simp [dep] at hd
    | succ n =>
      rw [show n + 1 + k + 1 = n + (k + 2) from by omega] at *
      have hrow : callD T (n + (k + 2)) ("is_row", none) [d] m = .ok (.bl true) m := by
        have := is_row_ok (k := n + k + 1) h r
        rw [show n + k + 1 + 1 = n + (k + 2) from by omega] at this
        rw [this]; rfl
      have hw : ∀ g, (wd T (n + (k + 2))).has g = (T.df g).isSome := fun g => rfl
      have hc : (wd T (n + (k + 2))).call = callD T (n + (k + 2)) := rfl
      have hr0 := Rp.refs r
      have r0 := r
      rw [Rp] at r
      obtain ⟨ds, ha, hq⟩ := r
      have hs : cs.length < 1000 ∧ sms cs = true := by simpa [sm] using hs
      have hd : deps cs ≤ n := by simp [dep] at hd; omega
      let f : D → D := fun d => if e : ∃ c ∈ cs, Rp m c d then e.choose else .non
      have hf : ∀ c d, c ∈ cs → Rp m c d → f d = c := fun c d hc r => by
        have e : ∃ c ∈ cs, Rp m c d := ⟨c, hc, r⟩
        show (if e : ∃ c ∈ cs, Rp m c d then e.choose else .non) = c
        rw [dif_pos e]
        exact Rp.uniq e.choose_spec.2 r
      have L := loopC_ok (src := srcOf d ds) (m := m) (f := fun d => [f d]) (B := fun x m_1 => (callD T (n + (k + 2)) ("deep_rows", none) [x] m_1).bind fun d m_2 => appAt m.length d m_2) ds []
        (fun x hx acc hacc => by
          obtain ⟨c0, hc0, r0⟩ := Rps.mem hq x hx
          show (callD T (n + (k + 2)) ("deep_rows", none) [x] (m ++ [.lst acc])).bind _ = _
          rw [deep_rows_ok h n k (r0.mono (Le.app _)) (sms_mem hs.2 hc0) (Nat.le_trans (deps_mem hc0) hd), R.bind_ok, appAt_end _ hacc, hf c0 x hc0 r0])
        (fun _ _ => Nat.le_refl _) (fun acc => still_row (rowAt_mono (Le.app _) ha)) (by have := Rps.length hq; simp only [List.length_nil, lim]; omega)
      rw [flatMap_map cs ds hq hf] at L
      simp [d_deep_rows, b_deep_rows, evSs, evS, evE, evEs, evI, evTs, startE, h.is_row, h.deep_rows, hrow, hw, hc, rowAt_seq ha, setT, wipeE]
      simp at L
      rw [L]
      simp [R.calm, bltin, seqOf, Mp.listAt, get_end]
      exact gc_pure (Old.refl m) [.lst cs] hr0
end
end Pg

set_option Elab.async false
set_option linter.all false
set_option maxRecDepth 100000
set_option maxHeartbeats 2000000
/-! check_expression, check_condition. -/
namespace Pg
open PySem PySem.Spec PyProof.Rows L2 Mp
def okNum : List D → Bool
  | [c] => isN c && (match c with
    | .int i => decide (i ≤ 3)
    | _ => false)
  | _ => false
def okVar (v : Int) : List D → Bool
  | [c] => isB c v
  | _ => false
def orX (a : Option (List D)) (b : Option (List D)) : Option (List D) := match a with
  | some x => some x
  | none => b
def cE (v : Int) (l : Bool) : Nat → D → List D → Option (List D)
  | n + 1, .tup (.str s :: r), pl =>
    if s = "number" ∧ okNum r = true then none
    else if s = "var" ∧ okVar v r = true then none
    else if s = "letter" ∧ r = [] ∧ l = true then none
    else if s = "plus" ∨ s = "times" then (match r with
      | [a, b] => orX (cE v l n a (pl ++ [.str "left"])) (cE v l n b (pl ++ [.str "right"]))
      | _ => some pl)
    else some pl
  | _, _, pl => some pl
def cC (v : Int) (l : Bool) : Nat → D → List D → Option (List D)
  | n + 1, .tup (.str s :: r), pl =>
    if s = "not" then (match r with
      | [a] => cC v l n a (pl ++ [.str "left"])
      | _ => some pl)
    else if s = "less" ∨ s = "same" then (match r with
      | [a, b] => orX (cE v l 3 a (pl ++ [.str "left"])) (cE v l 3 b (pl ++ [.str "right"]))
      | _ => some pl)
    else if s = "and" ∨ s = "or" then (match r with
      | [a, b] => orX (cC v l n a (pl ++ [.str "left"])) (cC v l n b (pl ++ [.str "right"]))
      | _ => some pl)
    else some pl
  | _, _, pl => some pl
def badX (pl : D) : Xn := ⟨"BadProgram", [("place", pl)]⟩
def resX (o : Option (List D)) (m : Mem) : R D := match o with
  | none => .ok .non m
  | some pl => .exc (badX (.tup pl)) m
section
variable {T : Tab} {m : Mem}
theorem data_str {s : Str} (h : PyData.strOk s = true) : data m (.str s) = some (.str s) := by
  simp [data, toP, toPd, SeqAt.shaped, PyData.canLay0, PyData.depth, h]
theorem datas_two (a b : Str) (ha : PyData.strOk a = true) (hb : PyData.strOk b = true) : datas m [.str a, .str b] = some [.str a, .str b] := by
  simp [datas, toPds, toPd, SeqAt.shaped, PyData.canLay0, PyData.canLayAll0, PyData.depth, PyData.depthAll, ha, hb]
theorem in_two {s a b : Str} (h : PyData.strOk s = true) (ha : PyData.strOk a = true) (hb : PyData.strOk b = true) : inSeq m (.str s) [.str a, .str b] = some (decide (s = a ∨ s = b)) := by
  unfold inSeq
  rw [data_str h, Option.bind_some, datas_two a b ha hb, Option.map_some]
  show some ((a == s) || ((b == s) || false)) = _
  congr 1
  by_cases e1 : s = a
  · subst e1; simp
  · by_cases e2 : s = b
    · subst e2; simp
    · have h1 : (a == s) = false := by simpa using fun z => e1 z.symm
      have h2 : (b == s) = false := by simpa using fun z => e2 z.symm
      simp [e1, e2, h1, h2]
theorem refsDs_app : ∀ a b : List D, refsDs (a ++ b) = refsDs a ++ refsDs b
  | [], b => rfl
  | x :: r, b => by simp [refsDs, refsDs_app r b]
theorem lt_lim {n : Nat} (h : n < 1000) : n ≤ lim := by unfold lim; omega
theorem check_expression_ok (h : HasProg T) : ∀ (n k : Nat) {c d : D} {v : Int} {l : Bool} {pl : List D}, Rp m c d → pl.length + n < 1000 → refsDs pl = [] →
    callD T (n + (k + 3)) ("check_expression", none) [d, .int v, .bl l, .tup pl, .int n] m = resX (cE v l n c pl) m
  | 0, k, c, d, v, l, pl, r, hp, hr => by
    rw [show 0 + (k + 3) = (k + 2) + 1 from by omega, callD_succ, h.check_expression]
    simp [d_check_expression, b_check_expression, evSs, evS, evE, startE, cstD, h.bad, cE, resX, badX]
  | n + 1, k, c, d, v, l, pl, r, hp, hr => by
    have IH := fun {c d : D} {pl : List D} => check_expression_ok h n k (c := c) (d := d) (v := v) (l := l) (pl := pl)
    rw [show n + 1 + (k + 3) = (n + (k + 3)) + 1 from by omega, callD_succ, h.check_expression]
    have hN : ((n : Int) + 1 = 0) = False := by simp; omega
    have hb := fun {c d : D} {n' : Int} (r : Rp m c d) => is_below_ok (k := n + k + 1) (n := n') h r
    have hn := fun {c d : D} (r : Rp m c d) => is_number_ok (k := n + k + 2) h r
    have hrow := fun {c d : D} (r : Rp m c d) => is_row_ok (k := n + k + 2) h r
    simp only [show n + k + 1 + 2 = n + (k + 3) from by omega, show n + k + 2 + 1 = n + (k + 3) from by omega] at hb hn hrow
    have hw : ∀ g, (wd T (n + (k + 3))).has g = (T.df g).isSome := fun g => by rw [show n + (k + 3) = (n + k + 2) + 1 from by omega]; rfl
    have hc : (wd T (n + (k + 3))).call = callD T (n + (k + 3)) := by rw [show n + (k + 3) = (n + k + 2) + 1 from by omega]; rfl
    by_cases ht : isT c = true
    case neg =>
      have ht : isT c = false := by simpa using ht
      have e : cE v l (n + 1) c pl = some pl := by cases c <;> first | rfl | cases ht
      simp [d_check_expression, b_check_expression, evSs, evS, evE, evEs, startE, cstD, h.bad, hN, hw, hc, h.is_row, hrow r, ht, e, resX, badX]
    obtain ⟨cs, rfl⟩ : ∃ cs, c = .tup cs := by
      cases c with
      | tup cs => exact ⟨cs, rfl⟩
      | _ => cases ht
    rw [Rp] at r
    have r0 := r
    obtain ⟨ds, ha, hds⟩ := r
    have hl := rowAt_len ha
    have hr0 := hrow (c := .tup cs) (d := d) (by rw [Rp]; exact r0)
    have hi := rowAt_idx ha
    cases cs with
    | nil =>
      rw [Rps] at hds; subst hds
      simp [d_check_expression, b_check_expression, evSs, evS, evE, evEs, startE, cstD, h.bad, hN, hw, hc, h.is_row, hr0, isT, bltin_len hl, cE, resX, badX]
    | cons c0 cr =>
      rw [Rps] at hds
      obtain ⟨d0, dr, rfl, h0, hq⟩ := hds
      have i0 := hi 0 (by decide)
      have hs := isS_ok h0
      by_cases hz : isS c0 = true
      case neg =>
        have hz : isS c0 = false := by simpa using hz
        have e : cE v l (n + 1) (.tup (c0 :: cr)) pl = some pl := by cases c0 <;> first | rfl | cases hz
        have hn0 : ((dr.length : Int) + 1 = 0) = False := by simp; omega
        simp [d_check_expression, b_check_expression, evSs, evS, evE, evEs, startE, cstD, h.bad, hN, hw, hc, h.is_row, hr0, isT, bltin_len hl, e, resX, badX, i0, hs, hz, tyOk, hn0]
      obtain ⟨s, rfl⟩ : ∃ s, c0 = .str s := by
        cases c0 with
        | str s => exact ⟨s, rfl⟩
        | _ => cases hz
      rw [Rp] at h0
      obtain ⟨rfl, ok⟩ := h0
      have hin := in_two (m := m) (a := "plus") (b := "times") ok (by decide +kernel) (by decide +kernel)
      have hn0 : ((dr.length : Int) + 1 = 0) = False := by simp; omega
      have hps : pl.length + 1 ≤ lim := lt_lim (by omega)
      have i1 := hi 1 (by decide)
      have i2 := hi 2 (by decide)
      have hN1 : (n : Int) + 1 - 1 = n := by omega
      have hq5 := hq
      rcases cr with _ | ⟨c1, _ | ⟨c2, _ | ⟨c3, cr⟩⟩⟩
      · rw [Rps] at hq; subst hq
        by_cases e1 : s = "number"
        · subst e1; simp [d_check_expression, b_check_expression, evSs, evS, evE, evEs, startE, cstD, h.bad, hN, hw, hc, h.is_row, h.is_number, h.is_below, h.check_expression, hr0, isT, bltin_len hl, resX, badX, i0, i1, i2, hs, hz, tyOk, hn0, h.gSums, h.gNumber, cE, setT, okNum, okVar, hin]
        by_cases e2 : s = "var"
        · subst e2; simp [d_check_expression, b_check_expression, evSs, evS, evE, evEs, startE, cstD, h.bad, hN, hw, hc, h.is_row, h.is_number, h.is_below, h.check_expression, hr0, isT, bltin_len hl, resX, badX, i0, i1, i2, hs, hz, tyOk, hn0, h.gSums, h.gNumber, cE, setT, okNum, okVar, hin]
        by_cases e3 : s = "letter"
        · subst e3; cases l <;> simp [d_check_expression, b_check_expression, evSs, evS, evE, evEs, startE, cstD, h.bad, hN, hw, hc, h.is_row, h.is_number, h.is_below, h.check_expression, hr0, isT, bltin_len hl, resX, badX, i0, i1, i2, hs, hz, tyOk, hn0, h.gSums, h.gNumber, cE, setT, okNum, okVar, hin]
        by_cases e4 : s = "plus"
        · subst e4; simp [d_check_expression, b_check_expression, evSs, evS, evE, evEs, startE, cstD, h.bad, hN, hw, hc, h.is_row, h.is_number, h.is_below, h.check_expression, hr0, isT, bltin_len hl, resX, badX, i0, i1, i2, hs, hz, tyOk, hn0, h.gSums, h.gNumber, cE, setT, okNum, okVar, hin]
        by_cases e5 : s = "times"
        · subst e5; simp [d_check_expression, b_check_expression, evSs, evS, evE, evEs, startE, cstD, h.bad, hN, hw, hc, h.is_row, h.is_number, h.is_below, h.check_expression, hr0, isT, bltin_len hl, resX, badX, i0, i1, i2, hs, hz, tyOk, hn0, h.gSums, h.gNumber, cE, setT, okNum, okVar, hin]
        simp [d_check_expression, b_check_expression, evSs, evS, evE, evEs, startE, cstD, h.bad, hN, hw, hc, h.is_row, h.is_number, h.is_below, h.check_expression, hr0, isT, bltin_len hl, resX, badX, i0, i1, i2, hs, hz, tyOk, hn0, h.gSums, h.gNumber, cE, setT, okNum, okVar, hin, e1, e2, e3, e4, e5]
      · simp only [Rps] at hq
        obtain ⟨d1, _, rfl, h1, rfl⟩ := hq
        have hb1 := fun n' => hb (n' := n') h1
        have hn1 := hn h1
        by_cases e1 : s = "number"
        · subst e1
          by_cases z : isN c1 = true
          · cases c1 with
            | int i =>
              rw [Rp] at h1; subst h1
              by_cases z3 : i ≤ 3 <;> simp [d_check_expression, b_check_expression, evSs, evS, evE, evEs, startE, cstD, h.bad, hN, hw, hc, h.is_row, h.is_number, h.is_below, h.check_expression, hr0, isT, bltin_len hl, resX, badX, i0, i1, i2, hs, hz, tyOk, hn0, h.gSums, h.gNumber, cE, setT, okNum, okVar, hin, hn1, z, z3]
            | _ => cases z
          · simp [d_check_expression, b_check_expression, evSs, evS, evE, evEs, startE, cstD, h.bad, hN, hw, hc, h.is_row, h.is_number, h.is_below, h.check_expression, hr0, isT, bltin_len hl, resX, badX, i0, i1, i2, hs, hz, tyOk, hn0, h.gSums, h.gNumber, cE, setT, okNum, okVar, hin, hn1, z]
        by_cases e2 : s = "var"
        · subst e2
          by_cases z : isB c1 v = true <;> simp [d_check_expression, b_check_expression, evSs, evS, evE, evEs, startE, cstD, h.bad, hN, hw, hc, h.is_row, h.is_number, h.is_below, h.check_expression, hr0, isT, bltin_len hl, resX, badX, i0, i1, i2, hs, hz, tyOk, hn0, h.gSums, h.gNumber, cE, setT, okNum, okVar, hin, hb1, z]
        by_cases e3 : s = "letter"
        · subst e3; simp [d_check_expression, b_check_expression, evSs, evS, evE, evEs, startE, cstD, h.bad, hN, hw, hc, h.is_row, h.is_number, h.is_below, h.check_expression, hr0, isT, bltin_len hl, resX, badX, i0, i1, i2, hs, hz, tyOk, hn0, h.gSums, h.gNumber, cE, setT, okNum, okVar, hin]
        by_cases e4 : s = "plus"
        · subst e4; simp [d_check_expression, b_check_expression, evSs, evS, evE, evEs, startE, cstD, h.bad, hN, hw, hc, h.is_row, h.is_number, h.is_below, h.check_expression, hr0, isT, bltin_len hl, resX, badX, i0, i1, i2, hs, hz, tyOk, hn0, h.gSums, h.gNumber, cE, setT, okNum, okVar, hin]
        by_cases e5 : s = "times"
        · subst e5; simp [d_check_expression, b_check_expression, evSs, evS, evE, evEs, startE, cstD, h.bad, hN, hw, hc, h.is_row, h.is_number, h.is_below, h.check_expression, hr0, isT, bltin_len hl, resX, badX, i0, i1, i2, hs, hz, tyOk, hn0, h.gSums, h.gNumber, cE, setT, okNum, okVar, hin]
        simp [d_check_expression, b_check_expression, evSs, evS, evE, evEs, startE, cstD, h.bad, hN, hw, hc, h.is_row, h.is_number, h.is_below, h.check_expression, hr0, isT, bltin_len hl, resX, badX, i0, i1, i2, hs, hz, tyOk, hn0, h.gSums, h.gNumber, cE, setT, okNum, okVar, hin, e1, e2, e3, e4, e5]
      · simp only [Rps] at hq
        obtain ⟨d1, _, rfl, h1, d2, _, rfl, h2, rfl⟩ := hq
        have q1 := IH (pl := pl ++ [.str "left"]) h1 (by simp; omega) (by simp [refsDs_app, hr, refsDs, refsD])
        have q2 := IH (pl := pl ++ [.str "right"]) h2 (by simp; omega) (by simp [refsDs_app, hr, refsDs, refsD])
        have hx1 := gcX_same (m := m)
        by_cases e1 : s = "number"
        · subst e1; simp [d_check_expression, b_check_expression, evSs, evS, evE, evEs, startE, cstD, h.bad, hN, hw, hc, h.is_row, h.is_number, h.is_below, h.check_expression, hr0, isT, bltin_len hl, resX, badX, i0, i1, i2, hs, hz, tyOk, hn0, h.gSums, h.gNumber, cE, setT, okNum, okVar, hin]
        by_cases e2 : s = "var"
        · subst e2; simp [d_check_expression, b_check_expression, evSs, evS, evE, evEs, startE, cstD, h.bad, hN, hw, hc, h.is_row, h.is_number, h.is_below, h.check_expression, hr0, isT, bltin_len hl, resX, badX, i0, i1, i2, hs, hz, tyOk, hn0, h.gSums, h.gNumber, cE, setT, okNum, okVar, hin]
        by_cases e3 : s = "letter"
        · subst e3; simp [d_check_expression, b_check_expression, evSs, evS, evE, evEs, startE, cstD, h.bad, hN, hw, hc, h.is_row, h.is_number, h.is_below, h.check_expression, hr0, isT, bltin_len hl, resX, badX, i0, i1, i2, hs, hz, tyOk, hn0, h.gSums, h.gNumber, cE, setT, okNum, okVar, hin]
        by_cases e45 : s = "plus" ∨ s = "times"
        · cases w1 : cE v l n c1 (pl ++ [.str "left"]) with
          | some x =>
            rw [w1] at q1
            rcases e45 with rfl | rfl <;> simp [d_check_expression, b_check_expression, evSs, evS, evE, evEs, startE, cstD, h.bad, hN, hw, hc, h.is_row, h.is_number, h.is_below, h.check_expression, hr0, isT, bltin_len hl, resX, badX, i0, i1, i2, hs, hz, tyOk, hn0, h.gSums, h.gNumber, cE, setT, okNum, okVar, hin, seqOf, tupR, hps, hN1, q1, w1, orX]
          | none =>
            rw [w1] at q1
            cases w2 : cE v l n c2 (pl ++ [.str "right"]) with
            | some x =>
              rw [w2] at q2
              rcases e45 with rfl | rfl <;> simp [d_check_expression, b_check_expression, evSs, evS, evE, evEs, startE, cstD, h.bad, hN, hw, hc, h.is_row, h.is_number, h.is_below, h.check_expression, hr0, isT, bltin_len hl, resX, badX, i0, i1, i2, hs, hz, tyOk, hn0, h.gSums, h.gNumber, cE, setT, okNum, okVar, hin, seqOf, tupR, hps, hN1, q1, w1, orX, q2, w2]
            | none =>
              rw [w2] at q2
              rcases e45 with rfl | rfl <;> simp [d_check_expression, b_check_expression, evSs, evS, evE, evEs, startE, cstD, h.bad, hN, hw, hc, h.is_row, h.is_number, h.is_below, h.check_expression, hr0, isT, bltin_len hl, resX, badX, i0, i1, i2, hs, hz, tyOk, hn0, h.gSums, h.gNumber, cE, setT, okNum, okVar, hin, seqOf, tupR, hps, hN1, q1, w1, orX, q2, w2]
        simp [d_check_expression, b_check_expression, evSs, evS, evE, evEs, startE, cstD, h.bad, hN, hw, hc, h.is_row, h.is_number, h.is_below, h.check_expression, hr0, isT, bltin_len hl, resX, badX, i0, i1, i2, hs, hz, tyOk, hn0, h.gSums, h.gNumber, cE, setT, okNum, okVar, hin, e1, e2, e3, e45]
      · simp only [Rps] at hq
        obtain ⟨d1, _, rfl, h1, d2, _, rfl, h2, d3, dr3, rfl, h3, h4⟩ := hq
        have hn2 : ((dr3.length : Int) + 1 + 1 + 1 + 1 = 2) = False := by simp; omega
        have hn3 : ((dr3.length : Int) + 1 + 1 + 1 + 1 = 3) = False := by simp; omega
        have hn5 : ((dr3.length : Int) + 1 + 1 + 1 + 1 = 0) = False := by simp; omega
        have hn4 : ((dr3.length : Int) + 1 + 1 + 1 + 1 = 1) = False := by simp; omega
        by_cases e1 : s = "number"
        · subst e1; simp [d_check_expression, b_check_expression, evSs, evS, evE, evEs, startE, cstD, h.bad, hN, hw, hc, h.is_row, h.is_number, h.is_below, h.check_expression, hr0, isT, bltin_len hl, resX, badX, i0, i1, i2, hs, hz, tyOk, hn0, h.gSums, h.gNumber, cE, setT, okNum, okVar, hin, hn2, hn3, hn4, hn5]
        by_cases e2 : s = "var"
        · subst e2; simp [d_check_expression, b_check_expression, evSs, evS, evE, evEs, startE, cstD, h.bad, hN, hw, hc, h.is_row, h.is_number, h.is_below, h.check_expression, hr0, isT, bltin_len hl, resX, badX, i0, i1, i2, hs, hz, tyOk, hn0, h.gSums, h.gNumber, cE, setT, okNum, okVar, hin, hn2, hn3, hn4, hn5]
        by_cases e3 : s = "letter"
        · subst e3; simp [d_check_expression, b_check_expression, evSs, evS, evE, evEs, startE, cstD, h.bad, hN, hw, hc, h.is_row, h.is_number, h.is_below, h.check_expression, hr0, isT, bltin_len hl, resX, badX, i0, i1, i2, hs, hz, tyOk, hn0, h.gSums, h.gNumber, cE, setT, okNum, okVar, hin, hn2, hn3, hn4, hn5]
        by_cases e45 : s = "plus" ∨ s = "times"
        · rcases e45 with rfl | rfl <;> simp [d_check_expression, b_check_expression, evSs, evS, evE, evEs, startE, cstD, h.bad, hN, hw, hc, h.is_row, h.is_number, h.is_below, h.check_expression, hr0, isT, bltin_len hl, resX, badX, i0, i1, i2, hs, hz, tyOk, hn0, h.gSums, h.gNumber, cE, setT, okNum, okVar, hin, hn2, hn3, hn4, hn5]
        simp [d_check_expression, b_check_expression, evSs, evS, evE, evEs, startE, cstD, h.bad, hN, hw, hc, h.is_row, h.is_number, h.is_below, h.check_expression, hr0, isT, bltin_len hl, resX, badX, i0, i1, i2, hs, hz, tyOk, hn0, h.gSums, h.gNumber, cE, setT, okNum, okVar, hin, hn2, hn3, hn4, hn5, e1, e2, e3, e45]
end
end Pg

set_option Elab.async false
set_option linter.all false
set_option maxRecDepth 100000
set_option maxHeartbeats 2000000
/-! check_condition. -/
namespace Pg
open PySem PySem.Spec PyProof.Rows L2 Mp
section
variable {T : Tab} {m : Mem}
theorem datas_four (a b c e : Str) (ha : PyData.strOk a = true) (hb : PyData.strOk b = true) (hc : PyData.strOk c = true) (he : PyData.strOk e = true) : datas m [.str a, .str b, .str c, .str e] = some [.str a, .str b, .str c, .str e] := by
  simp [datas, toPds, toPd, SeqAt.shaped, PyData.canLay0, PyData.canLayAll0, PyData.depth, PyData.depthAll, ha, hb, hc, he]
theorem in_four {s : Str} (h : PyData.strOk s = true) : inSeq m (.str s) [.str "less", .str "same", .str "and", .str "or"] = some (decide (s = "less" ∨ s = "same" ∨ s = "and" ∨ s = "or")) := by
  unfold inSeq
  rw [data_str h, Option.bind_some, datas_four _ _ _ _ (by decide +kernel) (by decide +kernel) (by decide +kernel) (by decide +kernel), Option.map_some]
  show some ((("less" : Str) == s) || ((("same" : Str) == s) || ((("and" : Str) == s) || ((("or" : Str) == s) || false)))) = _
  congr 1
  by_cases e1 : s = "less"
  · subst e1; simp
  by_cases e2 : s = "same"
  · subst e2; simp
  by_cases e3 : s = "and"
  · subst e3; simp
  by_cases e4 : s = "or"
  · subst e4; simp
  have h1 : (("less" : Str) == s) = false := by simpa using fun z => e1 z.symm
  have h2 : (("same" : Str) == s) = false := by simpa using fun z => e2 z.symm
  have h3 : (("and" : Str) == s) = false := by simpa using fun z => e3 z.symm
  have h4 : (("or" : Str) == s) = false := by simpa using fun z => e4 z.symm
  simp [e1, e2, e3, e4, h1, h2, h3, h4]
theorem check_condition_ok (h : HasProg T) : ∀ (n k : Nat) {c d : D} {v : Int} {l : Bool} {pl : List D}, Rp m c d → pl.length + n + 3 < 1000 → refsDs pl = [] →
    callD T (n + (k + 7)) ("check_condition", none) [d, .int v, .bl l, .tup pl, .int n] m = resX (cC v l n c pl) m
  | 0, k, c, d, v, l, pl, r, hp, hr => by
    rw [show 0 + (k + 7) = (k + 6) + 1 from by omega, callD_succ, h.check_condition]
    simp [d_check_condition, b_check_condition, evSs, evS, evE, evEs, startE, cstD, h.bad, cC, resX, badX]
  | n + 1, k, c, d, v, l, pl, r, hp, hr => by
    have IH := fun {c d : D} {pl : List D} => check_condition_ok h n k (c := c) (d := d) (v := v) (l := l) (pl := pl)
    have IE : ∀ {c d : D} {pl : List D}, Rp m c d → pl.length + 3 < 1000 → refsDs pl = [] → callD T (n + (k + 7)) ("check_expression", none) [d, .int v, .bl l, .tup pl, .int 3] m = resX (cE v l 3 c pl) m := fun {c d pl} a b e => by
      have z := check_expression_ok (m := m) h 3 (n + k + 1) (v := v) (l := l) a b e
      rw [show 3 + (n + k + 1 + 3) = n + (k + 7) from by omega] at z
      exact z
    rw [show n + 1 + (k + 7) = (n + (k + 7)) + 1 from by omega, callD_succ, h.check_condition]
    have hN : ((n : Int) + 1 = 0) = False := by simp; omega
    have hrow := fun {c d : D} (r : Rp m c d) => is_row_ok (k := n + k + 6) h r
    simp only [show n + k + 6 + 1 = n + (k + 7) from by omega] at hrow
    have hw : ∀ g, (wd T (n + (k + 7))).has g = (T.df g).isSome := fun g => by rw [show n + (k + 7) = (n + k + 6) + 1 from by omega]; rfl
    have hc : (wd T (n + (k + 7))).call = callD T (n + (k + 7)) := by rw [show n + (k + 7) = (n + k + 6) + 1 from by omega]; rfl
    by_cases ht : isT c = true
    case neg =>
      have ht : isT c = false := by simpa using ht
      have e : cC v l (n + 1) c pl = some pl := by cases c <;> first | rfl | cases ht
      simp [d_check_condition, b_check_condition, evSs, evS, evE, evEs, startE, cstD, h.bad, hN, hw, hc, h.is_row, hrow r, ht, e, resX, badX]
    obtain ⟨cs, rfl⟩ : ∃ cs, c = .tup cs := by
      cases c with
      | tup cs => exact ⟨cs, rfl⟩
      | _ => cases ht
    rw [Rp] at r
    have r0 := r
    obtain ⟨ds, ha, hds⟩ := r
    have hl := rowAt_len ha
    have hr0 := hrow (c := .tup cs) (d := d) (by rw [Rp]; exact r0)
    have hi := rowAt_idx ha
    cases cs with
    | nil =>
      rw [Rps] at hds; subst hds
      simp [d_check_condition, b_check_condition, evSs, evS, evE, evEs, startE, cstD, h.bad, hN, hw, hc, h.is_row, hr0, isT, bltin_len hl, cC, resX, badX]
    | cons c0 cr =>
      rw [Rps] at hds
      obtain ⟨d0, dr, rfl, h0, hq⟩ := hds
      have i0 := hi 0 (by decide)
      have hs := isS_ok h0
      by_cases hz : isS c0 = true
      case neg =>
        have hz : isS c0 = false := by simpa using hz
        have e : cC v l (n + 1) (.tup (c0 :: cr)) pl = some pl := by cases c0 <;> first | rfl | cases hz
        have hn0 : ((dr.length : Int) + 1 = 0) = False := by simp; omega
        simp [d_check_condition, b_check_condition, evSs, evS, evE, evEs, startE, cstD, h.bad, hN, hw, hc, h.is_row, hr0, isT, bltin_len hl, e, resX, badX, i0, hs, hz, tyOk, hn0]
      obtain ⟨s, rfl⟩ : ∃ s, c0 = .str s := by
        cases c0 with
        | str s => exact ⟨s, rfl⟩
        | _ => cases hz
      rw [Rp] at h0
      obtain ⟨rfl, ok⟩ := h0
      have hin := in_two (m := m) (a := "less") (b := "same") ok (by decide +kernel) (by decide +kernel)
      have hin4 := in_four (m := m) ok
      have hn0 : ((dr.length : Int) + 1 = 0) = False := by simp; omega
      have hps : pl.length + 1 ≤ lim := lt_lim (by omega)
      have h2l : (2 : Nat) ≤ lim := lt_lim (by omega)
      have h4l : (4 : Nat) ≤ lim := lt_lim (by omega)
      have i1 := hi 1 (by decide)
      have i2 := hi 2 (by decide)
      have hN1 : (n : Int) + 1 - 1 = n := by omega
      rcases cr with _ | ⟨c1, _ | ⟨c2, _ | ⟨c3, cr⟩⟩⟩
      · rw [Rps] at hq; subst hq
        by_cases e1 : s = "not"
        · subst e1; simp [d_check_condition, b_check_condition, evSs, evS, evE, evEs, startE, cstD, h.bad, hN, hw, hc, h.is_row, h.is_number, h.is_below, h.check_expression, h.check_condition, hr0, isT, bltin_len hl, resX, badX, i0, i1, i2, hs, hz, tyOk, hn0, h.gTests, h.gJoins, h.gDeep, cC, setT, hin, hin4, seqOf, tupR, h2l, h4l]
        by_cases e2 : s = "less" ∨ s = "same"
        · rcases e2 with rfl | rfl <;> simp [d_check_condition, b_check_condition, evSs, evS, evE, evEs, startE, cstD, h.bad, hN, hw, hc, h.is_row, h.is_number, h.is_below, h.check_expression, h.check_condition, hr0, isT, bltin_len hl, resX, badX, i0, i1, i2, hs, hz, tyOk, hn0, h.gTests, h.gJoins, h.gDeep, cC, setT, hin, hin4, seqOf, tupR, h2l, h4l]
        by_cases e3 : s = "and" ∨ s = "or"
        · rcases e3 with rfl | rfl <;> simp [d_check_condition, b_check_condition, evSs, evS, evE, evEs, startE, cstD, h.bad, hN, hw, hc, h.is_row, h.is_number, h.is_below, h.check_expression, h.check_condition, hr0, isT, bltin_len hl, resX, badX, i0, i1, i2, hs, hz, tyOk, hn0, h.gTests, h.gJoins, h.gDeep, cC, setT, hin, hin4, seqOf, tupR, h2l, h4l]
        simp [d_check_condition, b_check_condition, evSs, evS, evE, evEs, startE, cstD, h.bad, hN, hw, hc, h.is_row, h.is_number, h.is_below, h.check_expression, h.check_condition, hr0, isT, bltin_len hl, resX, badX, i0, i1, i2, hs, hz, tyOk, hn0, h.gTests, h.gJoins, h.gDeep, cC, setT, hin, hin4, seqOf, tupR, h2l, h4l, e1, e2, e3]
      · simp only [Rps] at hq
        obtain ⟨d1, _, rfl, h1, rfl⟩ := hq
        have q1 := IH (pl := pl ++ [.str "left"]) h1 (by simp; omega) (by simp [refsDs_app, hr, refsDs, refsD])
        by_cases e1 : s = "not"
        · subst e1
          cases w1 : cC v l n c1 (pl ++ [.str "left"]) with
          | some x => rw [w1] at q1; simp [d_check_condition, b_check_condition, evSs, evS, evE, evEs, startE, cstD, h.bad, hN, hw, hc, h.is_row, h.is_number, h.is_below, h.check_expression, h.check_condition, hr0, isT, bltin_len hl, resX, badX, i0, i1, i2, hs, hz, tyOk, hn0, h.gTests, h.gJoins, h.gDeep, cC, setT, hin, hin4, seqOf, tupR, h2l, h4l, seqOf, tupR, hps, hN1, q1, w1]
          | none => rw [w1] at q1; simp [d_check_condition, b_check_condition, evSs, evS, evE, evEs, startE, cstD, h.bad, hN, hw, hc, h.is_row, h.is_number, h.is_below, h.check_expression, h.check_condition, hr0, isT, bltin_len hl, resX, badX, i0, i1, i2, hs, hz, tyOk, hn0, h.gTests, h.gJoins, h.gDeep, cC, setT, hin, hin4, seqOf, tupR, h2l, h4l, seqOf, tupR, hps, hN1, q1, w1]
        by_cases e2 : s = "less" ∨ s = "same"
        · rcases e2 with rfl | rfl <;> simp [d_check_condition, b_check_condition, evSs, evS, evE, evEs, startE, cstD, h.bad, hN, hw, hc, h.is_row, h.is_number, h.is_below, h.check_expression, h.check_condition, hr0, isT, bltin_len hl, resX, badX, i0, i1, i2, hs, hz, tyOk, hn0, h.gTests, h.gJoins, h.gDeep, cC, setT, hin, hin4, seqOf, tupR, h2l, h4l]
        by_cases e3 : s = "and" ∨ s = "or"
        · rcases e3 with rfl | rfl <;> simp [d_check_condition, b_check_condition, evSs, evS, evE, evEs, startE, cstD, h.bad, hN, hw, hc, h.is_row, h.is_number, h.is_below, h.check_expression, h.check_condition, hr0, isT, bltin_len hl, resX, badX, i0, i1, i2, hs, hz, tyOk, hn0, h.gTests, h.gJoins, h.gDeep, cC, setT, hin, hin4, seqOf, tupR, h2l, h4l]
        simp [d_check_condition, b_check_condition, evSs, evS, evE, evEs, startE, cstD, h.bad, hN, hw, hc, h.is_row, h.is_number, h.is_below, h.check_expression, h.check_condition, hr0, isT, bltin_len hl, resX, badX, i0, i1, i2, hs, hz, tyOk, hn0, h.gTests, h.gJoins, h.gDeep, cC, setT, hin, hin4, seqOf, tupR, h2l, h4l, e1, e2, e3]
      · simp only [Rps] at hq
        obtain ⟨d1, _, rfl, h1, d2, _, rfl, h2, rfl⟩ := hq
        have q1 := IH (pl := pl ++ [.str "left"]) h1 (by simp; omega) (by simp [refsDs_app, hr, refsDs, refsD])
        have q2 := IH (pl := pl ++ [.str "right"]) h2 (by simp; omega) (by simp [refsDs_app, hr, refsDs, refsD])
        have p1 := IE (pl := pl ++ [.str "left"]) h1 (by simp; omega) (by simp [refsDs_app, hr, refsDs, refsD])
        have p2 := IE (pl := pl ++ [.str "right"]) h2 (by simp; omega) (by simp [refsDs_app, hr, refsDs, refsD])
        by_cases e1 : s = "not"
        · subst e1; simp [d_check_condition, b_check_condition, evSs, evS, evE, evEs, startE, cstD, h.bad, hN, hw, hc, h.is_row, h.is_number, h.is_below, h.check_expression, h.check_condition, hr0, isT, bltin_len hl, resX, badX, i0, i1, i2, hs, hz, tyOk, hn0, h.gTests, h.gJoins, h.gDeep, cC, setT, hin, hin4, seqOf, tupR, h2l, h4l]
        by_cases e2 : s = "less" ∨ s = "same"
        · cases w1 : cE v l 3 c1 (pl ++ [.str "left"]) with
          | some x =>
            rw [w1] at p1
            rcases e2 with rfl | rfl <;> simp [d_check_condition, b_check_condition, evSs, evS, evE, evEs, startE, cstD, h.bad, hN, hw, hc, h.is_row, h.is_number, h.is_below, h.check_expression, h.check_condition, hr0, isT, bltin_len hl, resX, badX, i0, i1, i2, hs, hz, tyOk, hn0, h.gTests, h.gJoins, h.gDeep, cC, setT, hin, hin4, seqOf, tupR, h2l, h4l, seqOf, tupR, hps, hN1, p1, w1, orX, evI, loopS, still, srcOf]
          | none =>
            rw [w1] at p1
            cases w2 : cE v l 3 c2 (pl ++ [.str "right"]) with
            | some x =>
              rw [w2] at p2
              rcases e2 with rfl | rfl <;> simp [d_check_condition, b_check_condition, evSs, evS, evE, evEs, startE, cstD, h.bad, hN, hw, hc, h.is_row, h.is_number, h.is_below, h.check_expression, h.check_condition, hr0, isT, bltin_len hl, resX, badX, i0, i1, i2, hs, hz, tyOk, hn0, h.gTests, h.gJoins, h.gDeep, cC, setT, hin, hin4, seqOf, tupR, h2l, h4l, seqOf, tupR, hps, hN1, p1, w1, orX, p2, w2, evI, loopS, still, srcOf]
            | none =>
              rw [w2] at p2
              rcases e2 with rfl | rfl <;> simp [d_check_condition, b_check_condition, evSs, evS, evE, evEs, startE, cstD, h.bad, hN, hw, hc, h.is_row, h.is_number, h.is_below, h.check_expression, h.check_condition, hr0, isT, bltin_len hl, resX, badX, i0, i1, i2, hs, hz, tyOk, hn0, h.gTests, h.gJoins, h.gDeep, cC, setT, hin, hin4, seqOf, tupR, h2l, h4l, seqOf, tupR, hps, hN1, p1, w1, orX, p2, w2, evI, loopS, still, srcOf]
        by_cases e3 : s = "and" ∨ s = "or"
        · cases w1 : cC v l n c1 (pl ++ [.str "left"]) with
          | some x =>
            rw [w1] at q1
            rcases e3 with rfl | rfl <;> simp [d_check_condition, b_check_condition, evSs, evS, evE, evEs, startE, cstD, h.bad, hN, hw, hc, h.is_row, h.is_number, h.is_below, h.check_expression, h.check_condition, hr0, isT, bltin_len hl, resX, badX, i0, i1, i2, hs, hz, tyOk, hn0, h.gTests, h.gJoins, h.gDeep, cC, setT, hin, hin4, seqOf, tupR, h2l, h4l, seqOf, tupR, hps, hN1, q1, w1, orX, evI, loopS, still, srcOf]
          | none =>
            rw [w1] at q1
            cases w2 : cC v l n c2 (pl ++ [.str "right"]) with
            | some x =>
              rw [w2] at q2
              rcases e3 with rfl | rfl <;> simp [d_check_condition, b_check_condition, evSs, evS, evE, evEs, startE, cstD, h.bad, hN, hw, hc, h.is_row, h.is_number, h.is_below, h.check_expression, h.check_condition, hr0, isT, bltin_len hl, resX, badX, i0, i1, i2, hs, hz, tyOk, hn0, h.gTests, h.gJoins, h.gDeep, cC, setT, hin, hin4, seqOf, tupR, h2l, h4l, seqOf, tupR, hps, hN1, q1, w1, orX, q2, w2, evI, loopS, still, srcOf]
            | none =>
              rw [w2] at q2
              rcases e3 with rfl | rfl <;> simp [d_check_condition, b_check_condition, evSs, evS, evE, evEs, startE, cstD, h.bad, hN, hw, hc, h.is_row, h.is_number, h.is_below, h.check_expression, h.check_condition, hr0, isT, bltin_len hl, resX, badX, i0, i1, i2, hs, hz, tyOk, hn0, h.gTests, h.gJoins, h.gDeep, cC, setT, hin, hin4, seqOf, tupR, h2l, h4l, seqOf, tupR, hps, hN1, q1, w1, orX, q2, w2, evI, loopS, still, srcOf]
        simp [d_check_condition, b_check_condition, evSs, evS, evE, evEs, startE, cstD, h.bad, hN, hw, hc, h.is_row, h.is_number, h.is_below, h.check_expression, h.check_condition, hr0, isT, bltin_len hl, resX, badX, i0, i1, i2, hs, hz, tyOk, hn0, h.gTests, h.gJoins, h.gDeep, cC, setT, hin, hin4, seqOf, tupR, h2l, h4l, e1, e2, e3]
      · simp only [Rps] at hq
        obtain ⟨d1, _, rfl, h1, d2, _, rfl, h2, d3, dr3, rfl, h3, h4⟩ := hq
        have hn2 : ((dr3.length : Int) + 1 + 1 + 1 + 1 = 2) = False := by simp; omega
        have hn3 : ((dr3.length : Int) + 1 + 1 + 1 + 1 = 3) = False := by simp; omega
        have hn5 : ((dr3.length : Int) + 1 + 1 + 1 + 1 = 0) = False := by simp; omega
        by_cases e1 : s = "not"
        · subst e1; simp [d_check_condition, b_check_condition, evSs, evS, evE, evEs, startE, cstD, h.bad, hN, hw, hc, h.is_row, h.is_number, h.is_below, h.check_expression, h.check_condition, hr0, isT, bltin_len hl, resX, badX, i0, i1, i2, hs, hz, tyOk, hn0, h.gTests, h.gJoins, h.gDeep, cC, setT, hin, hin4, seqOf, tupR, h2l, h4l, hn2, hn3, hn5]
        by_cases e2 : s = "less" ∨ s = "same"
        · rcases e2 with rfl | rfl <;> simp [d_check_condition, b_check_condition, evSs, evS, evE, evEs, startE, cstD, h.bad, hN, hw, hc, h.is_row, h.is_number, h.is_below, h.check_expression, h.check_condition, hr0, isT, bltin_len hl, resX, badX, i0, i1, i2, hs, hz, tyOk, hn0, h.gTests, h.gJoins, h.gDeep, cC, setT, hin, hin4, seqOf, tupR, h2l, h4l, hn2, hn3, hn5]
        by_cases e3 : s = "and" ∨ s = "or"
        · rcases e3 with rfl | rfl <;> simp [d_check_condition, b_check_condition, evSs, evS, evE, evEs, startE, cstD, h.bad, hN, hw, hc, h.is_row, h.is_number, h.is_below, h.check_expression, h.check_condition, hr0, isT, bltin_len hl, resX, badX, i0, i1, i2, hs, hz, tyOk, hn0, h.gTests, h.gJoins, h.gDeep, cC, setT, hin, hin4, seqOf, tupR, h2l, h4l, hn2, hn3, hn5]
        simp [d_check_condition, b_check_condition, evSs, evS, evE, evEs, startE, cstD, h.bad, hN, hw, hc, h.is_row, h.is_number, h.is_below, h.check_expression, h.check_condition, hr0, isT, bltin_len hl, resX, badX, i0, i1, i2, hs, hz, tyOk, hn0, h.gTests, h.gJoins, h.gDeep, cC, setT, hin, hin4, seqOf, tupR, h2l, h4l, hn2, hn3, hn5, e1, e2, e3]
end
end Pg

set_option Elab.async false
set_option linter.all false
set_option maxRecDepth 100000
set_option maxHeartbeats 2000000
/-! check_steps. -/
namespace Pg
open PySem PySem.Spec PyProof.Rows L2 Mp
def stepS (v : Int) (l : Bool) (sub : D → List D → Option (List D)) (c : D) (pl : List D) : Option (List D) := match c with
  | .tup (.str s :: r) =>
    if s = "set" then (match r with
      | [a, b] => if isB a v then cE v l 3 b (pl ++ [.str "value"]) else some pl
      | _ => some pl)
    else if s = "tell" then (match r with
      | [a] => cE v l 3 a (pl ++ [.str "value"])
      | _ => some pl)
    else if s = "if" then (match r with
      | [a, b, c] => orX (cC v l 3 a (pl ++ [.str "if"])) (orX (sub b (pl ++ [.str "then"])) (sub c (pl ++ [.str "else"])))
      | _ => some pl)
    else some pl
  | _ => some pl
def goS (f : D → List D → Option (List D)) : Nat → List D → List D → Option (List D)
  | _, [], _ => none
  | i, c :: r, pl => orX (f c (pl ++ [.int i])) (goS f (i + 1) r pl)
def cS (v : Int) (l : Bool) : Nat → D → List D → Option (List D)
  | n + 1, .tup cs, pl => goS (stepS v l (cS v l n)) 0 cs pl
  | _, _, pl => some pl
section
variable {T : Tab} {m : Mem}
theorem check_step_ok (h : HasProg T) (n k : Nat) {v : Int} {l : Bool}
    (IH : ∀ {c d : D} {pl : List D}, Rp m c d → pl.length + 2 * n + 7 < 1000 → refsDs pl = [] → callD T (k + 10) ("check_steps", none) [d, .int v, .bl l, .tup pl, .int n] m = resX (cS v l n c pl) m)
    {c d : D} {pl : List D} (r : Rp m c d) (hp : pl.length + 2 * n + 8 < 1000) (hr : refsDs pl = []) :
    callD T (k + 11) ("check_step", none) [d, .int v, .bl l, .tup pl, .int ((n : Int) + 1)] m = resX (stepS v l (cS v l n) c pl) m := by
  have IE : ∀ {c d : D} {pl : List D}, Rp m c d → pl.length + 3 < 1000 → refsDs pl = [] → callD T (k + 10) ("check_expression", none) [d, .int v, .bl l, .tup pl, .int 3] m = resX (cE v l 3 c pl) m := fun {c d pl} a b e => by
    have z := check_expression_ok (m := m) h 3 (k + 4) (v := v) (l := l) a b e
    rw [show 3 + (k + 4 + 3) = k + 10 from by omega] at z
    exact z
  have IC : ∀ {c d : D} {pl : List D}, Rp m c d → pl.length + 3 + 3 < 1000 → refsDs pl = [] → callD T (k + 10) ("check_condition", none) [d, .int v, .bl l, .tup pl, .int 3] m = resX (cC v l 3 c pl) m := fun {c d pl} a b e => by
    have z := check_condition_ok (m := m) h 3 k (v := v) (l := l) a b e
    rw [show 3 + (k + 7) = k + 10 from by omega] at z
    exact z
  rw [callD_succ, h.check_step]
  have hrow := fun {c d : D} (r : Rp m c d) => is_row_ok (k := k + 9) h r
  have hb := fun {c d : D} {n' : Int} (r : Rp m c d) => is_below_ok (k := k + 8) (n := n') h r
  simp only [show k + 9 + 1 = k + 10 from by omega, show k + 8 + 2 = k + 10 from by omega] at hrow hb
  have hw : ∀ g, (wd T (k + 10)).has g = (T.df g).isSome := fun g => rfl
  have hc : (wd T (k + 10)).call = callD T (k + 10) := rfl
  by_cases ht : isT c = true
  case neg =>
    have ht : isT c = false := by simpa using ht
    have e : stepS v l (cS v l n) c pl = some pl := by cases c <;> first | rfl | cases ht
    simp [d_check_step, b_check_step, evSs, evS, evE, evEs, startE, cstD, h.bad, hw, hc, h.is_row, hrow r, ht, e, resX, badX]
  obtain ⟨cs, rfl⟩ : ∃ cs, c = .tup cs := by
    cases c with
    | tup cs => exact ⟨cs, rfl⟩
    | _ => cases ht
  rw [Rp] at r
  have r0 := r
  obtain ⟨ds, ha, hds⟩ := r
  have hl := rowAt_len ha
  have hr0 := hrow (c := .tup cs) (d := d) (by rw [Rp]; exact r0)
  have hi := rowAt_idx ha
  cases cs with
  | nil =>
    rw [Rps] at hds; subst hds
    simp [d_check_step, b_check_step, evSs, evS, evE, evEs, startE, cstD, h.bad, hw, hc, h.is_row, hr0, isT, bltin_len hl, stepS, resX, badX]
  | cons c0 cr =>
    rw [Rps] at hds
    obtain ⟨d0, dr, rfl, h0, hq⟩ := hds
    have i0 := hi 0 (by decide)
    have hs := isS_ok h0
    by_cases hz : isS c0 = true
    case neg =>
      have hz : isS c0 = false := by simpa using hz
      have e : stepS v l (cS v l n) (.tup (c0 :: cr)) pl = some pl := by cases c0 <;> first | rfl | cases hz
      have hn0 : ((dr.length : Int) + 1 = 0) = False := by simp; omega
      simp [d_check_step, b_check_step, evSs, evS, evE, evEs, startE, cstD, h.bad, hw, hc, h.is_row, hr0, isT, bltin_len hl, e, resX, badX, i0, hs, hz, tyOk, hn0]
    obtain ⟨s, rfl⟩ : ∃ s, c0 = .str s := by
      cases c0 with
      | str s => exact ⟨s, rfl⟩
      | _ => cases hz
    rw [Rp] at h0
    obtain ⟨rfl, ok⟩ := h0
    have hn0 : ((dr.length : Int) + 1 = 0) = False := by simp; omega
    have hps : pl.length + 1 ≤ lim := lt_lim (by omega)
    have i1 := hi 1 (by decide)
    have i2 := hi 2 (by decide)
    have i3 := hi 3 (by decide)
    have hN1 : (n : Int) + 1 - 1 = n := by omega
    rcases cr with _ | ⟨c1, _ | ⟨c2, _ | ⟨c3, _ | ⟨c4, cr⟩⟩⟩⟩
    · rw [Rps] at hq; subst hq
      by_cases e1 : s = "set"
      · subst e1; simp [d_check_step, b_check_step, evSs, evS, evE, evEs, startE, cstD, h.bad, hw, hc, h.is_row, h.is_number, h.is_below, h.check_expression, h.check_condition, h.check_steps, hr0, isT, bltin_len hl, resX, badX, i0, i1, i2, i3, hs, hz, tyOk, hn0, h.gDeep, stepS, setT, seqOf, tupR, hps, hN1, orX]
      by_cases e2 : s = "tell"
      · subst e2; simp [d_check_step, b_check_step, evSs, evS, evE, evEs, startE, cstD, h.bad, hw, hc, h.is_row, h.is_number, h.is_below, h.check_expression, h.check_condition, h.check_steps, hr0, isT, bltin_len hl, resX, badX, i0, i1, i2, i3, hs, hz, tyOk, hn0, h.gDeep, stepS, setT, seqOf, tupR, hps, hN1, orX]
      by_cases e3 : s = "if"
      · subst e3; simp [d_check_step, b_check_step, evSs, evS, evE, evEs, startE, cstD, h.bad, hw, hc, h.is_row, h.is_number, h.is_below, h.check_expression, h.check_condition, h.check_steps, hr0, isT, bltin_len hl, resX, badX, i0, i1, i2, i3, hs, hz, tyOk, hn0, h.gDeep, stepS, setT, seqOf, tupR, hps, hN1, orX]
      simp [d_check_step, b_check_step, evSs, evS, evE, evEs, startE, cstD, h.bad, hw, hc, h.is_row, h.is_number, h.is_below, h.check_expression, h.check_condition, h.check_steps, hr0, isT, bltin_len hl, resX, badX, i0, i1, i2, i3, hs, hz, tyOk, hn0, h.gDeep, stepS, setT, seqOf, tupR, hps, hN1, orX, e1, e2, e3]
    · simp only [Rps] at hq
      obtain ⟨d1, _, rfl, h1, rfl⟩ := hq
      have p1 := IE (pl := pl ++ [.str "value"]) h1 (by simp; omega) (by simp [refsDs_app, hr, refsDs, refsD])
      by_cases e1 : s = "set"
      · subst e1; simp [d_check_step, b_check_step, evSs, evS, evE, evEs, startE, cstD, h.bad, hw, hc, h.is_row, h.is_number, h.is_below, h.check_expression, h.check_condition, h.check_steps, hr0, isT, bltin_len hl, resX, badX, i0, i1, i2, i3, hs, hz, tyOk, hn0, h.gDeep, stepS, setT, seqOf, tupR, hps, hN1, orX]
      by_cases e2 : s = "tell"
      · subst e2
        cases w1 : cE v l 3 c1 (pl ++ [.str "value"]) with
        | some x => rw [w1] at p1; simp [d_check_step, b_check_step, evSs, evS, evE, evEs, startE, cstD, h.bad, hw, hc, h.is_row, h.is_number, h.is_below, h.check_expression, h.check_condition, h.check_steps, hr0, isT, bltin_len hl, resX, badX, i0, i1, i2, i3, hs, hz, tyOk, hn0, h.gDeep, stepS, setT, seqOf, tupR, hps, hN1, orX, p1, w1]
        | none => rw [w1] at p1; simp [d_check_step, b_check_step, evSs, evS, evE, evEs, startE, cstD, h.bad, hw, hc, h.is_row, h.is_number, h.is_below, h.check_expression, h.check_condition, h.check_steps, hr0, isT, bltin_len hl, resX, badX, i0, i1, i2, i3, hs, hz, tyOk, hn0, h.gDeep, stepS, setT, seqOf, tupR, hps, hN1, orX, p1, w1]
      by_cases e3 : s = "if"
      · subst e3; simp [d_check_step, b_check_step, evSs, evS, evE, evEs, startE, cstD, h.bad, hw, hc, h.is_row, h.is_number, h.is_below, h.check_expression, h.check_condition, h.check_steps, hr0, isT, bltin_len hl, resX, badX, i0, i1, i2, i3, hs, hz, tyOk, hn0, h.gDeep, stepS, setT, seqOf, tupR, hps, hN1, orX]
      simp [d_check_step, b_check_step, evSs, evS, evE, evEs, startE, cstD, h.bad, hw, hc, h.is_row, h.is_number, h.is_below, h.check_expression, h.check_condition, h.check_steps, hr0, isT, bltin_len hl, resX, badX, i0, i1, i2, i3, hs, hz, tyOk, hn0, h.gDeep, stepS, setT, seqOf, tupR, hps, hN1, orX, e1, e2, e3]
    · simp only [Rps] at hq
      obtain ⟨d1, _, rfl, h1, d2, _, rfl, h2, rfl⟩ := hq
      have p2 := IE (pl := pl ++ [.str "value"]) h2 (by simp; omega) (by simp [refsDs_app, hr, refsDs, refsD])
      have hb1 := hb (n' := v) h1
      by_cases e1 : s = "set"
      · subst e1
        by_cases z : isB c1 v = true
        · cases w1 : cE v l 3 c2 (pl ++ [.str "value"]) with
          | some x => rw [w1] at p2; simp [d_check_step, b_check_step, evSs, evS, evE, evEs, startE, cstD, h.bad, hw, hc, h.is_row, h.is_number, h.is_below, h.check_expression, h.check_condition, h.check_steps, hr0, isT, bltin_len hl, resX, badX, i0, i1, i2, i3, hs, hz, tyOk, hn0, h.gDeep, stepS, setT, seqOf, tupR, hps, hN1, orX, p2, w1, hb1, z]
          | none => rw [w1] at p2; simp [d_check_step, b_check_step, evSs, evS, evE, evEs, startE, cstD, h.bad, hw, hc, h.is_row, h.is_number, h.is_below, h.check_expression, h.check_condition, h.check_steps, hr0, isT, bltin_len hl, resX, badX, i0, i1, i2, i3, hs, hz, tyOk, hn0, h.gDeep, stepS, setT, seqOf, tupR, hps, hN1, orX, p2, w1, hb1, z]
        · simp [d_check_step, b_check_step, evSs, evS, evE, evEs, startE, cstD, h.bad, hw, hc, h.is_row, h.is_number, h.is_below, h.check_expression, h.check_condition, h.check_steps, hr0, isT, bltin_len hl, resX, badX, i0, i1, i2, i3, hs, hz, tyOk, hn0, h.gDeep, stepS, setT, seqOf, tupR, hps, hN1, orX, hb1, z]
      by_cases e2 : s = "tell"
      · subst e2; simp [d_check_step, b_check_step, evSs, evS, evE, evEs, startE, cstD, h.bad, hw, hc, h.is_row, h.is_number, h.is_below, h.check_expression, h.check_condition, h.check_steps, hr0, isT, bltin_len hl, resX, badX, i0, i1, i2, i3, hs, hz, tyOk, hn0, h.gDeep, stepS, setT, seqOf, tupR, hps, hN1, orX]
      by_cases e3 : s = "if"
      · subst e3; simp [d_check_step, b_check_step, evSs, evS, evE, evEs, startE, cstD, h.bad, hw, hc, h.is_row, h.is_number, h.is_below, h.check_expression, h.check_condition, h.check_steps, hr0, isT, bltin_len hl, resX, badX, i0, i1, i2, i3, hs, hz, tyOk, hn0, h.gDeep, stepS, setT, seqOf, tupR, hps, hN1, orX]
      simp [d_check_step, b_check_step, evSs, evS, evE, evEs, startE, cstD, h.bad, hw, hc, h.is_row, h.is_number, h.is_below, h.check_expression, h.check_condition, h.check_steps, hr0, isT, bltin_len hl, resX, badX, i0, i1, i2, i3, hs, hz, tyOk, hn0, h.gDeep, stepS, setT, seqOf, tupR, hps, hN1, orX, e1, e2, e3]
    · simp only [Rps] at hq
      obtain ⟨d1, _, rfl, h1, d2, _, rfl, h2, d3, _, rfl, h3, rfl⟩ := hq
      have p1 := IC (pl := pl ++ [.str "if"]) h1 (by simp; omega) (by simp [refsDs_app, hr, refsDs, refsD])
      have p2 := IH (pl := pl ++ [.str "then"]) h2 (by simp; omega) (by simp [refsDs_app, hr, refsDs, refsD])
      have p3 := IH (pl := pl ++ [.str "else"]) h3 (by simp; omega) (by simp [refsDs_app, hr, refsDs, refsD])
      by_cases e1 : s = "set"
      · subst e1; simp [d_check_step, b_check_step, evSs, evS, evE, evEs, startE, cstD, h.bad, hw, hc, h.is_row, h.is_number, h.is_below, h.check_expression, h.check_condition, h.check_steps, hr0, isT, bltin_len hl, resX, badX, i0, i1, i2, i3, hs, hz, tyOk, hn0, h.gDeep, stepS, setT, seqOf, tupR, hps, hN1, orX]
      by_cases e2 : s = "tell"
      · subst e2; simp [d_check_step, b_check_step, evSs, evS, evE, evEs, startE, cstD, h.bad, hw, hc, h.is_row, h.is_number, h.is_below, h.check_expression, h.check_condition, h.check_steps, hr0, isT, bltin_len hl, resX, badX, i0, i1, i2, i3, hs, hz, tyOk, hn0, h.gDeep, stepS, setT, seqOf, tupR, hps, hN1, orX]
      by_cases e3 : s = "if"
      · subst e3
        cases w1 : cC v l 3 c1 (pl ++ [.str "if"]) with
        | some x => rw [w1] at p1; simp [d_check_step, b_check_step, evSs, evS, evE, evEs, startE, cstD, h.bad, hw, hc, h.is_row, h.is_number, h.is_below, h.check_expression, h.check_condition, h.check_steps, hr0, isT, bltin_len hl, resX, badX, i0, i1, i2, i3, hs, hz, tyOk, hn0, h.gDeep, stepS, setT, seqOf, tupR, hps, hN1, orX, p1, w1]
        | none =>
          rw [w1] at p1
          cases w2 : cS v l n c2 (pl ++ [.str "then"]) with
          | some x => rw [w2] at p2; simp [d_check_step, b_check_step, evSs, evS, evE, evEs, startE, cstD, h.bad, hw, hc, h.is_row, h.is_number, h.is_below, h.check_expression, h.check_condition, h.check_steps, hr0, isT, bltin_len hl, resX, badX, i0, i1, i2, i3, hs, hz, tyOk, hn0, h.gDeep, stepS, setT, seqOf, tupR, hps, hN1, orX, p1, w1, p2, w2]
          | none =>
            rw [w2] at p2
            cases w3 : cS v l n c3 (pl ++ [.str "else"]) with
            | some x => rw [w3] at p3; simp [d_check_step, b_check_step, evSs, evS, evE, evEs, startE, cstD, h.bad, hw, hc, h.is_row, h.is_number, h.is_below, h.check_expression, h.check_condition, h.check_steps, hr0, isT, bltin_len hl, resX, badX, i0, i1, i2, i3, hs, hz, tyOk, hn0, h.gDeep, stepS, setT, seqOf, tupR, hps, hN1, orX, p1, w1, p2, w2, p3, w3]
            | none => rw [w3] at p3; simp [d_check_step, b_check_step, evSs, evS, evE, evEs, startE, cstD, h.bad, hw, hc, h.is_row, h.is_number, h.is_below, h.check_expression, h.check_condition, h.check_steps, hr0, isT, bltin_len hl, resX, badX, i0, i1, i2, i3, hs, hz, tyOk, hn0, h.gDeep, stepS, setT, seqOf, tupR, hps, hN1, orX, p1, w1, p2, w2, p3, w3]
      simp [d_check_step, b_check_step, evSs, evS, evE, evEs, startE, cstD, h.bad, hw, hc, h.is_row, h.is_number, h.is_below, h.check_expression, h.check_condition, h.check_steps, hr0, isT, bltin_len hl, resX, badX, i0, i1, i2, i3, hs, hz, tyOk, hn0, h.gDeep, stepS, setT, seqOf, tupR, hps, hN1, orX, e1, e2, e3]
    · simp only [Rps] at hq
      obtain ⟨d1, _, rfl, h1, d2, _, rfl, h2, d3, _, rfl, h3, d4, dr4, rfl, h4, h5⟩ := hq
      have hn2 : ((dr4.length : Int) + 1 + 1 + 1 + 1 + 1 = 2) = False := by simp; omega
      have hn3 : ((dr4.length : Int) + 1 + 1 + 1 + 1 + 1 = 3) = False := by simp; omega
      have hn4 : ((dr4.length : Int) + 1 + 1 + 1 + 1 + 1 = 4) = False := by simp; omega
      have hn5 : ((dr4.length : Int) + 1 + 1 + 1 + 1 + 1 = 0) = False := by simp; omega
      by_cases e1 : s = "set"
      · subst e1; simp [d_check_step, b_check_step, evSs, evS, evE, evEs, startE, cstD, h.bad, hw, hc, h.is_row, h.is_number, h.is_below, h.check_expression, h.check_condition, h.check_steps, hr0, isT, bltin_len hl, resX, badX, i0, i1, i2, i3, hs, hz, tyOk, hn0, h.gDeep, stepS, setT, seqOf, tupR, hps, hN1, orX, hn2, hn3, hn4, hn5]
      by_cases e2 : s = "tell"
      · subst e2; simp [d_check_step, b_check_step, evSs, evS, evE, evEs, startE, cstD, h.bad, hw, hc, h.is_row, h.is_number, h.is_below, h.check_expression, h.check_condition, h.check_steps, hr0, isT, bltin_len hl, resX, badX, i0, i1, i2, i3, hs, hz, tyOk, hn0, h.gDeep, stepS, setT, seqOf, tupR, hps, hN1, orX, hn2, hn3, hn4, hn5]
      by_cases e3 : s = "if"
      · subst e3; simp [d_check_step, b_check_step, evSs, evS, evE, evEs, startE, cstD, h.bad, hw, hc, h.is_row, h.is_number, h.is_below, h.check_expression, h.check_condition, h.check_steps, hr0, isT, bltin_len hl, resX, badX, i0, i1, i2, i3, hs, hz, tyOk, hn0, h.gDeep, stepS, setT, seqOf, tupR, hps, hN1, orX, hn2, hn3, hn4, hn5]
      simp [d_check_step, b_check_step, evSs, evS, evE, evEs, startE, cstD, h.bad, hw, hc, h.is_row, h.is_number, h.is_below, h.check_expression, h.check_condition, h.check_steps, hr0, isT, bltin_len hl, resX, badX, i0, i1, i2, i3, hs, hz, tyOk, hn0, h.gDeep, stepS, setT, seqOf, tupR, hps, hN1, orX, hn2, hn3, hn4, hn5, e1, e2, e3]
theorem Le.still {src : Src} : True := trivial
def bodyS : Mp.Ss := (.cons (.expr (.call "check_step" (.cons false (.var 6) (.cons false (.var 1) (.cons false (.var 2) (.cons false (.tup (.cons true (.var 3) (.cons false (.var 5) .nil))) (.cons false (.var 4) .nil))))))) .nil)
theorem b_check_steps_eq : b_check_steps = (.cons (.ifs (.or (.cmp .eq (.var 4) (.cst (.int 0))) (.not (.call "is_row" (.cons false (.var 0) .nil)))) 
    (.cons (.raise "BadProgram" (.var 3)) .nil) .nil) 
  (.cons (.for_ (.tu [.nm 5, .nm 6]) (.enum (.var 0)) bodyS) .nil)) := rfl
theorem check_steps_ok (h : HasProg T) {v : Int} {l : Bool} : ∀ (n k : Nat) {c d : D} {pl : List D}, Rp m c d → pl.length + 2 * n + 7 < 1000 → refsDs pl = [] →
    callD T (2 * n + (k + 10)) ("check_steps", none) [d, .int v, .bl l, .tup pl, .int n] m = resX (cS v l n c pl) m
  | 0, k, c, d, pl, r, hp, hr => by
    rw [show 2 * 0 + (k + 10) = (k + 9) + 1 from by omega, callD_succ, h.check_steps]
    simp [d_check_steps, b_check_steps_eq, evSs, evS, evE, evEs, startE, cstD, h.bad, cS, resX, badX]
  | n + 1, k, c, d, pl, r, hp, hr => by
    have IH := fun {c d : D} {pl : List D} => check_steps_ok h (v := v) (l := l) n k (c := c) (d := d) (pl := pl)
    have IS := fun {c d : D} {pl : List D} => check_step_ok h n (2 * n + k) (v := v) (l := l) (fun {c d pl} a b e => by
      have z := IH (c := c) (d := d) (pl := pl) a b e
      rw [show 2 * n + (k + 10) = 2 * n + k + 10 from by omega] at z
      exact z) (c := c) (d := d) (pl := pl)
    rw [show 2 * (n + 1) + (k + 10) = (2 * n + k + 11) + 1 from by omega, callD_succ, h.check_steps]
    have hN : ((n : Int) + 1 = 0) = False := by simp; omega
    have hrow := is_row_ok (k := 2 * n + k + 10) h r
    have hw : ∀ g, (wd T (2 * n + k + 11)).has g = (T.df g).isSome := fun g => rfl
    have hc : (wd T (2 * n + k + 11)).call = callD T (2 * n + k + 11) := rfl
    by_cases ht : isT c = true
    case neg =>
      have ht : isT c = false := by simpa using ht
      have e : cS v l (n + 1) c pl = some pl := by cases c <;> first | rfl | cases ht
      simp [d_check_steps, b_check_steps_eq, evSs, evS, evE, evEs, startE, cstD, h.bad, hN, hw, hc, h.is_row, hrow, ht, e, resX, badX]
    obtain ⟨cs, rfl⟩ : ∃ cs, c = .tup cs := by
      cases c with
      | tup cs => exact ⟨cs, rfl⟩
      | _ => cases ht
    rw [Rp] at r
    obtain ⟨ds, ha, hds⟩ := r
    have hps : pl.length + 1 ≤ lim := lt_lim (by omega)
    have hst := still_row ha
    have loop : ∀ (ds0 : List D) (hst : still m (srcOf d ds0) = true) (cs ds : List D) (i : Nat) (x y : Option D), Rps m cs ds → ∃ ρ,
        loopS (srcOf d ds0) (fun z ρ m => match setT (.tu [.nm 5, .nm 6]) z ρ with
          | some ρ' => evSs (wd T (2 * n + k + 11)) T.exf T.sub bodyS ρ' m
          | none => .bad) (enum i ds) [some d, some (.int v), some (.bl l), some (.tup pl), some (.int ((n : Int) + 1)), x, y] m = (match goS (stepS v l (cS v l n)) i cs pl with
          | none => .nx ρ m
          | some q => .exc (badX (.tup q)) ρ m) := by
      intro ds0 hst cs
      induction cs with
      | nil =>
        intro ds i x y hq
        rw [Rps] at hq; subst hq
        exact ⟨_, by simp [enum, loopS, hst, goS]; rfl⟩
      | cons c0 cr ih =>
        intro ds i x y hq
        rw [Rps] at hq
        obtain ⟨d0, q, rfl, h0, hq⟩ := hq
        have z := IS (c := c0) (d := d0) (pl := pl ++ [.int i]) h0 (by simp; omega) (by simp [refsDs_app, hr, refsDs, refsD])
        cases w : stepS v l (cS v l n) c0 (pl ++ [.int i]) with
        | some x =>
          rw [w] at z
          exact ⟨_, by simp [enum, loopS, hst, goS, setT, bodyS, evSs, evS, evE, evEs, hw, hc, h.check_step, seqOf, tupR, hps, z, resX, w, orX]; rfl⟩
        | none =>
          rw [w] at z
          obtain ⟨ρ, e⟩ := ih q (i + 1) (some (.int i)) (some d0) hq
          refine ⟨ρ, ?_⟩
          rw [goS, w]
          simp only [orX]
          rw [← e]
          simp [enum, loopS, hst, goS, setT, bodyS, evSs, evS, evE, evEs, hw, hc, h.check_step, seqOf, tupR, hps, z, resX]
    obtain ⟨ρ, e⟩ := loop ds hst cs ds 0 none none hds
    have e0 : cS v l (n + 1) (.tup cs) pl = goS (stepS v l (cS v l n)) 0 cs pl := rfl
    rw [e0]
    cases w : goS (stepS v l (cS v l n)) 0 cs pl with
    | none =>
      rw [w, show ((0 : Nat) : Int) = 0 from rfl] at e
      simp [d_check_steps, b_check_steps_eq, evSs, evS, evE, evEs, evI, startE, cstD, h.bad, hN, hw, hc, h.is_row, hrow, isT, resX, badX, rowAt_seq ha]
      erw [e]
      simp
    | some x =>
      rw [w, show ((0 : Nat) : Int) = 0 from rfl] at e
      simp [d_check_steps, b_check_steps_eq, evSs, evS, evE, evEs, evI, startE, cstD, h.bad, hN, hw, hc, h.is_row, hrow, isT, resX, badX, rowAt_seq ha]
      erw [e]
      simp [badX]
end
end Pg

set_option Elab.async false
set_option linter.all false
set_option maxRecDepth 100000
set_option maxHeartbeats 2000000
/-! count_steps. -/
namespace Pg
open PySem PySem.Spec PyProof.Rows L2 Mp
def ifParts : D → Option (D × D)
  | .tup [.str s, _, b, c] => if s = "if" then some (b, c) else none
  | _ => none
def ifN (f : D → Nat) (c : D) : Nat := match ifParts c with
  | some (a, b) => f a + f b
  | none => 0
def sumIf (f : D → Nat) : List D → Nat
  | [] => 0
  | c :: r => ifN f c + sumIf f r
def cnt : Nat → D → Nat
  | n + 1, .tup cs => cs.length + sumIf (cnt n) cs
  | _, _ => 0
/-- a step that is one -/
theorem orX_none {a b : Option (List D)} (h : orX a b = none) : a = none ∧ b = none := by
  cases a with
  | some x => cases h
  | none => exact ⟨rfl, h⟩
theorem goS_mem {f : D → List D → Option (List D)} : ∀ {cs : List D} {i : Nat} {pl : List D}, goS f i cs pl = none → ∀ c ∈ cs, ∃ pl', f c pl' = none
  | [], _, _, _, c, hc => by cases hc
  | a :: r, i, pl, h, c, hc => by
    rw [goS] at h
    have h := orX_none h
    rcases List.mem_cons.mp hc with rfl | hc
    · exact ⟨_, h.1⟩
    · exact goS_mem h.2 c hc
inductive StepIs (sub : D → List D → Option (List D)) : D → Prop
  | set (a b : D) : StepIs sub (.tup [.str "set", a, b])
  | tell (a : D) : StepIs sub (.tup [.str "tell", a])
  | ifs (a b c : D) (pl pl' : List D) (h1 : sub b pl = none) (h2 : sub c pl' = none) : StepIs sub (.tup [.str "if", a, b, c])
theorem stepS_is {v : Int} {l : Bool} {sub : D → List D → Option (List D)} {c : D} {pl : List D} (h : stepS v l sub c pl = none) : StepIs sub c := by
  unfold stepS at h
  split at h
  · rename_i s r
    split at h
    · rename_i e; subst e
      split at h
      · exact .set _ _
      · cases h
    · split at h
      · rename_i e; subst e
        split at h
        · exact .tell _
        · cases h
      · split at h
        · rename_i e; subst e
          split at h
          · have h := orX_none (orX_none h).2
            exact .ifs _ _ _ _ _ h.1 h.2
          · cases h
        · cases h
  · cases h
section
variable {T : Tab} {m : Mem}
theorem bools_none : True := trivial
def intsD (ns : List Nat) : List D := ns.map fun n : Nat => D.int (n : Int)
theorem nums_ints : ∀ ns : List Nat, nums (intsD ns) = some (ns.map fun n : Nat => (n : Int))
  | [] => rfl
  | n :: r => by
    show (nums (.int (n : Int) :: intsD r)) = _
    rw [nums, nums_ints r]; rfl
theorem sum_ints : ∀ ns : List Nat, (ns.map fun n : Nat => (n : Int)).sum = (ns.sum : Nat)
  | [] => rfl
  | n :: r => by simp [sum_ints r]
/-- what a walked step gives -/
def ifOne (f : D → Nat) (c : D) : List Nat := match ifParts c with
  | some (a, b) => [f a + f b]
  | none => []
theorem sum_if (f : D → Nat) : ∀ cs : List D, (cs.flatMap (ifOne f)).sum = sumIf f cs
  | [] => rfl
  | c :: r => by
    rw [List.flatMap_cons, List.sum_append, sum_if f r, sumIf]
    congr 1
    unfold ifOne ifN
    split <;> simp
def bodyN : E := (.bin .add (.call "count_steps" (.cons false (.idx (.var 1) (.cst (.int 2))) .nil)) (.call "count_steps" (.cons false (.idx (.var 1) (.cst (.int 3))) .nil)))
def testN : Mp.Es := (.cons false (.cmp .eq (.idx (.var 1) (.cst (.int 0))) (.cst (.str "if"))) .nil)
theorem b_count_steps_eq : b_count_steps = (.cons (.ret (.bin .add (.blt "len" (.cons false (.var 0) .nil)) (.blt "sum" (.cons false (.lc bodyN (.one [1] (.nm 1) (.seq (.var 0)) testN)) .nil)))) .nil) := rfl
open Classical in
theorem count_steps_ok (h : HasProg T) {v : Int} {l : Bool} : ∀ (n k : Nat) {m : Mem} {c d : D} {pl : List D}, Rp m c d → sm c = true → cS v l n c pl = none →
    callD T (n + (k + 1)) ("count_steps", none) [d] m = .ok (.int (cnt n c)) m
  | 0, k, m, c, d, pl, r, hs, hv => by cases hv
  | n + 1, k, m, c, d, pl, r, hs, hv => by
    have IH := fun {m : Mem} {c d : D} {pl : List D} => count_steps_ok h (v := v) (l := l) n k (m := m) (c := c) (d := d) (pl := pl)
    rw [show n + 1 + (k + 1) = (n + (k + 1)) + 1 from by omega, callD_succ, h.count_steps]
    have hw : ∀ g, (wd T (n + (k + 1))).has g = (T.df g).isSome := fun g => rfl
    have hc : (wd T (n + (k + 1))).call = callD T (n + (k + 1)) := rfl
    obtain ⟨cs, rfl⟩ : ∃ cs, c = .tup cs := by
      cases c with
      | tup cs => exact ⟨cs, rfl⟩
      | _ => cases hv
    have hv : goS (stepS v l (cS v l n)) 0 cs pl = none := hv
    have hst := goS_mem hv
    rw [Rp] at r
    obtain ⟨ds, ha, hq⟩ := r
    have hs : cs.length < 1000 ∧ sms cs = true := by simpa [sm] using hs
    have hl := rowAt_len ha
    have hlen := Rps.length hq
    let f : D → D := fun d => if e : ∃ c ∈ cs, Rp m c d then e.choose else .non
    have hf : ∀ c d, c ∈ cs → Rp m c d → f d = c := fun c d hc r => by
      have e : ∃ c ∈ cs, Rp m c d := ⟨c, hc, r⟩
      show (if e : ∃ c ∈ cs, Rp m c d then e.choose else .non) = c
      rw [dif_pos e]
      exact Rp.uniq e.choose_spec.2 r
    have L := loopC_ok (src := srcOf d ds) (m := m) (f := fun d => intsD (ifOne (cnt n) (f d))) (B := fun d_1 m_1 => match setT (.nm 1) d_1 (wipeE [some d, none] [1]) with
          | some ρ' => (evTs (wd T (n + (k + 1))) testN ρ' m_1).bind fun b m_2 => if b then (evE (wd T (n + (k + 1))) bodyN ρ' m_2).bind fun d m_3 => appAt m.length d m_3 else .ok () m_2
          | none => .bad) ds []
      (fun x hx acc hacc => by
        obtain ⟨c0, hc0, r0⟩ := Rps.mem hq x hx
        obtain ⟨pl', hstep⟩ := hst c0 hc0
        have hsm := sms_mem hs.2 hc0
        rw [hf c0 x hc0 r0]
        have r1 := r0.mono (Le.app [.lst acc])
        have hi := stepS_is hstep
        clear hstep
        cases hi with
        | set a b =>
          rw [Rp] at r1
          obtain ⟨ds1, a1, q1⟩ := r1
          have i0 := rowAt_idx a1 0 (by decide)
          simp only [Rps, Rp] at q1
          obtain ⟨_, _, rfl, ⟨rfl, _⟩, _⟩ := q1
          simp [setT, wipeE, evTs, testN, evE, i0, cstD, ifOne, ifParts, intsD]
        | tell a =>
          rw [Rp] at r1
          obtain ⟨ds1, a1, q1⟩ := r1
          have i0 := rowAt_idx a1 0 (by decide)
          simp only [Rps, Rp] at q1
          obtain ⟨_, _, rfl, ⟨rfl, _⟩, _⟩ := q1
          simp [setT, wipeE, evTs, testN, evE, i0, cstD, ifOne, ifParts, intsD]
        | ifs a b c pl1 pl2 z1 z2 =>
          rw [Rp] at r1
          obtain ⟨ds1, a1, q1⟩ := r1
          have i0 := rowAt_idx a1 0 (by decide)
          have i2 := rowAt_idx a1 2 (by decide)
          have i3 := rowAt_idx a1 3 (by decide)
          have hsm : sm b = true ∧ sm c = true := by
            simp [sm, sms] at hsm
            exact ⟨hsm.2.1, hsm.2.2⟩
          simp only [Rps] at q1
          obtain ⟨d0, _, rfl, q0, da, _, rfl, qa, db, _, rfl, qb, dc, _, rfl, qc, rfl⟩ := q1
          rw [Rp] at q0
          obtain ⟨rfl, _⟩ := q0
          have e1 := IH qb hsm.1 z1
          have e2 := IH qc hsm.2 z2
          simp [setT, wipeE, evTs, testN, bodyN, evE, evEs, i0, i2, i3, cstD, ifOne, ifParts, intsD, hw, hc, h.count_steps, e1, e2, appAt_end _ hacc])
      (fun x hx => by
        show (intsD (ifOne (cnt n) (f x))).length ≤ 1
        unfold ifOne
        split <;> simp [intsD]) (fun acc => still_row (rowAt_mono (Le.app _) ha)) (by simp only [List.length_nil, lim]; omega)
    have e1 : ds.flatMap (fun d => intsD (ifOne (cnt n) (f d))) = intsD (cs.flatMap (ifOne (cnt n))) := by
      clear L hl ha
      have : ∀ (cs' ds' : List D), Rps m cs' ds' → (∀ c ∈ cs', c ∈ cs) → ds'.flatMap (fun d => intsD (ifOne (cnt n) (f d))) = intsD (cs'.flatMap (ifOne (cnt n))) := by
        intro cs'
        induction cs' with
        | nil => intro ds' q _; rw [Rps] at q; subst q; rfl
        | cons c0 r ih =>
          intro ds' q hin
          rw [Rps] at q
          obtain ⟨d0, q0, rfl, a, b⟩ := q
          rw [List.flatMap_cons, ih q0 b (fun c hc => hin c (List.mem_cons_of_mem _ hc)), hf c0 d0 (hin c0 (List.mem_cons_self ..)) a]
          simp [intsD]
      exact this cs ds hq fun _ z => z
    rw [e1] at L
    simp only [List.nil_append] at L
    have e2 : cnt (n + 1) (.tup cs) = cs.length + sumIf (cnt n) cs := rfl
    rw [e2, ← sum_if]
    simp [d_count_steps, b_count_steps_eq, evSs, evS, evE, evEs, evI, startE, hw, hc, rowAt_seq ha, bltin_len hl]
    erw [L]
    simp [R.calm, bltin, Mp.listAt, nums_ints, sum_ints, hlen]
    rw [gc_pure (Old.refl m) _ rfl]
end
end Pg

set_option Elab.async false
set_option linter.all false
set_option maxRecDepth 100000
set_option maxHeartbeats 2000000
/-! Places name no numbers. -/
namespace Pg
open PySem PySem.Spec PyProof.Rows L2 Mp
theorem orX_some {a b : Option (List D)} {pl : List D} (h : orX a b = some pl) : a = some pl ∨ b = some pl := by
  cases a with
  | some x => exact .inl h
  | none => exact .inr h
theorem refs_s {pl : List D} (h : refsDs pl = []) (s : Str) : refsDs (pl ++ [.str s]) = [] := by simp [refsDs_app, h, refsDs, refsD]
theorem refs_i {pl : List D} (h : refsDs pl = []) (s : Int) : refsDs (pl ++ [.int s]) = [] := by simp [refsDs_app, h, refsDs, refsD]
theorem cE_refs {v : Int} {l : Bool} : ∀ (n : Nat) {c : D} {pl pl' : List D}, cE v l n c pl = some pl' → refsDs pl = [] → refsDs pl' = []
  | 0, c, pl, pl', h, hp => by cases h; exact hp
  | n + 1, c, pl, pl', h, hp => by
    unfold cE at h
    split at h
    · rename_i e; cases e
      split at h; · cases h
      split at h; · cases h
      split at h; · cases h
      split at h
      · split at h
        · rcases orX_some h with h | h
          · exact cE_refs n h (refs_s hp _)
          · exact cE_refs n h (refs_s hp _)
        · cases h; exact hp
      · cases h; exact hp
    · cases h; exact hp
theorem cC_refs {v : Int} {l : Bool} : ∀ (n : Nat) {c : D} {pl pl' : List D}, cC v l n c pl = some pl' → refsDs pl = [] → refsDs pl' = []
  | 0, c, pl, pl', h, hp => by cases h; exact hp
  | n + 1, c, pl, pl', h, hp => by
    unfold cC at h
    split at h
    · rename_i e; cases e
      split at h
      · split at h
        · exact cC_refs n h (refs_s hp _)
        · cases h; exact hp
      split at h
      · split at h
        · rcases orX_some h with h | h
          · exact cE_refs 3 h (refs_s hp _)
          · exact cE_refs 3 h (refs_s hp _)
        · cases h; exact hp
      split at h
      · split at h
        · rcases orX_some h with h | h
          · exact cC_refs n h (refs_s hp _)
          · exact cC_refs n h (refs_s hp _)
        · cases h; exact hp
      · cases h; exact hp
    · cases h; exact hp
theorem stepS_refs {v : Int} {l : Bool} {sub : D → List D → Option (List D)} (hs : ∀ {c : D} {pl pl' : List D}, sub c pl = some pl' → refsDs pl = [] → refsDs pl' = []) {c : D} {pl pl' : List D} (h : stepS v l sub c pl = some pl') (hp : refsDs pl = []) : refsDs pl' = [] := by
  unfold stepS at h
  split at h
  · split at h
    · split at h
      · split at h
        · exact cE_refs 3 h (refs_s hp _)
        · cases h; exact hp
      · cases h; exact hp
    split at h
    · split at h
      · exact cE_refs 3 h (refs_s hp _)
      · cases h; exact hp
    split at h
    · split at h
      · rcases orX_some h with h | h
        · exact cC_refs 3 h (refs_s hp _)
        rcases orX_some h with h | h
        · exact hs h (refs_s hp _)
        · exact hs h (refs_s hp _)
      · cases h; exact hp
    · cases h; exact hp
  · cases h; exact hp
theorem goS_refs {f : D → List D → Option (List D)} (hs : ∀ {c : D} {pl pl' : List D}, f c pl = some pl' → refsDs pl = [] → refsDs pl' = []) : ∀ {i : Nat} {cs pl pl' : List D}, goS f i cs pl = some pl' → refsDs pl = [] → refsDs pl' = []
  | _, [], _, _, h, _ => by cases h
  | i, c :: r, pl, pl', h, hp => by
    rw [goS] at h
    rcases orX_some h with h | h
    · exact hs h (refs_i hp _)
    · exact goS_refs hs h hp
theorem cS_refs {v : Int} {l : Bool} : ∀ (n : Nat) {c : D} {pl pl' : List D}, cS v l n c pl = some pl' → refsDs pl = [] → refsDs pl' = []
  | 0, c, pl, pl', h, hp => by cases h; exact hp
  | n + 1, c, pl, pl', h, hp => by
    cases c with
    | tup cs => exact goS_refs (stepS_refs (cS_refs n)) (show goS (stepS v l (cS v l n)) 0 cs pl = some pl' from h) hp
    | _ => cases h; exact hp
end Pg

set_option Elab.async false
set_option linter.all false
set_option maxRecDepth 100000
set_option maxHeartbeats 2000000
/-! Program(..). -/
namespace Pg
open PySem PySem.Spec PyProof.Rows L2 Mp
def inI (lo hi : Int) : D → Bool
  | .int i => decide (lo ≤ i) && decide (i ≤ hi)
  | _ => false
def okSize (c : D) : Bool := isN c && inI 1 4 c
def okSizes : D → Bool
  | .tup cs => decide (cs.length ≤ 3) && cs.all okSize
  | _ => false
def wide : D → Int
  | .tup cs => cs.length
  | _ => 0
def badAt (b c d e : D) : Option (List D) := orX (cS (wide b) false 3 c [.str "first"]) (orX (cS (wide b) true 3 d [.str "each"]) (cS (wide b) false 3 e [.str "last"]))
def many (c d e : D) : Nat := cnt 3 c + cnt 3 d + cnt 3 e
def largeX (n : Nat) : Xn := ⟨"TooLarge", [("number", .int (n : Int))]⟩
def initX (a b c d e : D) : Option Xn :=
  if isN a && inI 1 3 a then
    if okSizes b then (match badAt b c d e with
      | some pl => some (badX (.tup pl))
      | none => if many c d e ≤ 12 then none else some (largeX (many c d e)))
    else some (badX (.str "sizes"))
  else some (badX (.str "letters"))
def fsOf (a b c d e : D) : List (Str × D) := [("letters", a), ("sizes", b), ("first", c), ("each", d), ("last", e)]
def sizeE : E := (.and (.call "is_number" (.cons false (.var 6) .nil)) (.chn .le .le (.cst (.int 1)) (.var 6) (.glo "MOST_SIZE")))
def sizesL : E := (.lc sizeE (.one [6] (.nm 6) (.seq (.var 2)) .nil))
def bodyP : Mp.Ss := (.cons (.expr (.call "check_steps" (.cons false (.var 8) (.cons false (.blt "len" (.cons false (.var 2) .nil)) (.cons false (.cmp .eq (.var 7) (.cst (.str "each"))) (.cons false (.tup (.cons false (.var 7) .nil)) (.cons false (.glo "MOST_NESTED") .nil))))))) .nil)
def loopP : Mp.S := (.for_ (.tu [.nm 7, .nm 8]) (.zip (.glo "PARTS") (.tup (.cons false (.var 3) (.cons false (.var 4) (.cons false (.var 5) .nil))))) bodyP)
def tailP : Mp.Ss := 
  (.cons (.setF (.var 0) "letters" (.var 1)) 
  (.cons (.setF (.var 0) "sizes" (.blt "tuple" (.cons false (.var 2) .nil))) 
  (.cons (.setF (.var 0) "first" (.call "deep_rows" (.cons false (.var 3) .nil))) 
  (.cons (.setF (.var 0) "each" (.call "deep_rows" (.cons false (.var 4) .nil))) 
  (.cons (.setF (.var 0) "last" (.call "deep_rows" (.cons false (.var 5) .nil))) 
  (.cons (.set (.nm 9) (.bin .add (.bin .add (.call "count_steps" (.cons false (.att (.var 0) "first") .nil)) (.call "count_steps" (.cons false (.att (.var 0) "each") .nil))) (.call "count_steps" (.cons false (.att (.var 0) "last") .nil)))) 
  (.cons (.ifs (.cmp .gt (.var 9) (.glo "MOST_STEPS")) 
    (.cons (.raise "TooLarge" (.var 9)) .nil) .nil) .nil)))))))
theorem b_init_eq : b_Program_init = 
  (.cons (.ifs (.or (.not (.call "is_number" (.cons false (.var 1) .nil))) (.not (.chn .le .le (.cst (.int 1)) (.var 1) (.glo "MOST_LETTERS")))) 
    (.cons (.raise "BadProgram" (.cst (.str "letters"))) .nil) .nil) 
  (.cons (.ifs (.or (.not (.call "is_row" (.cons false (.var 2) .nil))) (.cmp .gt (.blt "len" (.cons false (.var 2) .nil)) (.glo "MOST_VARIABLES"))) 
    (.cons (.raise "BadProgram" (.cst (.str "sizes"))) .nil) .nil) 
  (.cons (.ifs (.not (.blt "all" (.cons false sizesL .nil))) 
    (.cons (.raise "BadProgram" (.cst (.str "sizes"))) .nil) .nil) 
  (.cons loopP tailP)))) := rfl
theorem bools_bl : ∀ bs : List Bool, bools (bs.map D.bl) = some bs
  | [] => rfl
  | b :: r => by
    show bools (.bl b :: r.map D.bl) = _
    rw [bools, bools_bl r]; rfl
theorem chn_ok {T : Tab} {k : Nat} {m : Mem} {a : D} (lo hi : Int) : (match cmpD .le (.int lo) a m with
    | some true => someB (cmpD .le a (.int hi) m) m
    | some false => .ok (.bl false) m
    | none => .bad) = (match a with
    | .int i => .ok (.bl (decide (lo ≤ i) && decide (i ≤ hi))) m
    | _ => .bad) := by
  cases a with
  | int i => by_cases z : lo ≤ i <;> simp [cmpD, ltD, ltI, z]
  | _ => rfl
section
variable {T : Tab} {m : Mem}
open Classical in
theorem sizes_ok (h : HasProg T) {k : Nat} {b db : D} {cs ds : List D} (ha : rowAt m db = some ds) (hq : Rps m cs ds) (hl : cs.length ≤ 3) {ρ : Mp.Env} (h2 : ρ[2]? = some (some db)) (h6 : 6 < ρ.length) :
    evE (wd T (k + 1)) sizesL ρ m = .ok (.ref m.length) (m ++ [.lst ((cs.map okSize).map D.bl)]) := by
  let f : D → D := fun d => if e : ∃ c ∈ cs, Rp m c d then e.choose else .non
  have hf : ∀ c d, c ∈ cs → Rp m c d → f d = c := fun c d hc r => by
    have e : ∃ c ∈ cs, Rp m c d := ⟨c, hc, r⟩
    show (if e : ∃ c ∈ cs, Rp m c d then e.choose else .non) = c
    rw [dif_pos e]
    exact Rp.uniq e.choose_spec.2 r
  have L := loopC_ok (src := srcOf db ds) (m := m) (f := fun d => [D.bl (okSize (f d))]) (B := fun d m_1 => match setT (.nm 6) d (wipeE ρ [6]) with
          | some ρ' => (evTs (wd T (k + 1)) .nil ρ' m_1).bind fun b m_2 => if b then (evE (wd T (k + 1)) sizeE ρ' m_2).bind fun d m_3 => appAt m.length d m_3 else .ok () m_2
          | none => .bad) ds []
    (fun x hx acc hacc => by
      obtain ⟨c0, hc0, r0⟩ := Rps.mem hq x hx
      have r1 := r0.mono (Le.app [.lst acc])
      have z := is_number_ok (k := k) h r1
      rw [hf c0 x hc0 r0]
      have g6 : (((wipeE ρ [6]).set 6 (some x)))[6]? = some (some x) := by simp [wipeE, h6]
      by_cases hz : isN c0 = true
      · cases c0 with
        | int i =>
          rw [Rp] at r1
          subst r1
          have hi : 0 ≤ i := by simpa [isN] using hz
          by_cases z1 : 1 ≤ i
          · simp [setT, evTs, sizeE, evE, evEs, g6, h.is_number, z, hz, cstD, h.gSize, cmpD, ltD, ltI, z1, okSize, inI, appAt_end _ hacc]
          · simp [setT, evTs, sizeE, evE, evEs, g6, h.is_number, z, hz, cstD, h.gSize, cmpD, ltD, ltI, z1, okSize, inI, appAt_end _ hacc]
        | _ => cases hz
      · simp [setT, evTs, sizeE, evE, evEs, g6, h.is_number, z, hz, okSize, appAt_end _ hacc])
    (fun _ _ => Nat.le_refl _) (fun acc => still_row (rowAt_mono (Le.app _) ha)) (by have := Rps.length hq; simp only [List.length_nil, lim]; omega)
  have e1 : ∀ (cs' ds' : List D), Rps m cs' ds' → (∀ c ∈ cs', c ∈ cs) → ds'.flatMap (fun d => [D.bl (okSize (f d))]) = (cs'.map okSize).map D.bl := by
    intro cs'
    induction cs' with
    | nil => intro ds' q _; rw [Rps] at q; subst q; rfl
    | cons c0 r ih =>
      intro ds' q hin
      rw [Rps] at q
      obtain ⟨d0, q0, rfl, a, b⟩ := q
      rw [List.flatMap_cons, ih q0 b (fun c hc => hin c (List.mem_cons_of_mem _ hc)), hf c0 d0 (hin c0 (List.mem_cons_self ..)) a]
      simp
  rw [e1 cs ds hq fun _ z => z] at L
  simp only [List.nil_append] at L
  unfold sizesL
  simp [evE, evI, h2, rowAt_seq ha]
  erw [L]
  simp [R.calm]
/-- the checks of the three rows -/
theorem parts_ok (h : HasProg T) {k : Nat} {b c d e self da db dc dd de : D} (hb : Rp m b db) (ht : isT b = true) (hs : sm b = true) (hc : Rp m c dc) (hd : Rp m d dd) (he : Rp m e de) (x y z : Option D) :
    ∃ ρ1 ρ2 ρ3, evS (wd T (k + 16)) T.exf T.sub loopP [some self, some da, some db, some dc, some dd, some de, x, y, z, none] m = (match badAt b c d e with
      | some pl => .exc (badX (.tup pl)) [some self, some da, some db, some dc, some dd, some de, ρ1, ρ2, ρ3, none] m
      | none => .nx [some self, some da, some db, some dc, some dd, some de, ρ1, ρ2, ρ3, none] m) := by
  obtain ⟨cs, rfl⟩ : ∃ cs, b = .tup cs := by
    cases b with
    | tup cs => exact ⟨cs, rfl⟩
    | _ => cases ht
  rw [Rp] at hb
  obtain ⟨ds, ha, hq⟩ := hb
  have hl := rowAt_len ha
  have hlen := Rps.length hq
  have C : ∀ {l : Bool} {c d : D} {pl : List D}, Rp m c d → pl.length + 2 * 3 + 7 < 1000 → refsDs pl = [] → callD T (k + 16) ("check_steps", none) [d, .int cs.length, .bl l, .tup pl, .int 3] m = resX (cS cs.length l 3 c pl) m := fun {l c d pl} a b e => by
    have z := check_steps_ok h (v := (cs.length : Int)) (l := l) 3 k a b e
    rw [show 2 * 3 + (k + 10) = k + 16 from by omega] at z
    exact z
  have c1 := C (l := false) (pl := [.str "first"]) hc (by decide) (by rfl)
  have c2 := C (l := true) (pl := [.str "each"]) hd (by decide) (by rfl)
  have c3 := C (l := false) (pl := [.str "last"]) he (by decide) (by rfl)
  have hw : ∀ g, (wd T (k + 16)).has g = (T.df g).isSome := fun g => rfl
  have hcl : (wd T (k + 16)).call = callD T (k + 16) := rfl
  have h1l : (1 : Nat) ≤ lim := lt_lim (by omega)
  have h3l : (3 : Nat) ≤ lim := lt_lim (by omega)
  unfold badAt wide
  cases w1 : cS cs.length false 3 c [.str "first"] with
  | some x =>
    rw [w1] at c1
    exact ⟨_, _, _, by simp [loopP, bodyP, evSs, evS, evE, evEs, evI, h.gParts, h.gNested, zipR, zip2, tupR, h1l, h3l, loopS, still, setT, hw, hcl, h.check_steps, bltin_len hl, hlen, cstD, c1, resX, orX]; exact ⟨rfl, rfl, rfl⟩⟩
  | none =>
    rw [w1] at c1
    cases w2 : cS cs.length true 3 d [.str "each"] with
    | some x =>
      rw [w2] at c2
      exact ⟨_, _, _, by simp [loopP, bodyP, evSs, evS, evE, evEs, evI, h.gParts, h.gNested, zipR, zip2, tupR, h1l, h3l, loopS, still, setT, hw, hcl, h.check_steps, bltin_len hl, hlen, cstD, c1, resX, orX, c2]; exact ⟨rfl, rfl, rfl⟩⟩
    | none =>
      rw [w2] at c2
      cases w3 : cS cs.length false 3 e [.str "last"] with
      | some x =>
        rw [w3] at c3
        exact ⟨_, _, _, by simp [loopP, bodyP, evSs, evS, evE, evEs, evI, h.gParts, h.gNested, zipR, zip2, tupR, h1l, h3l, loopS, still, setT, hw, hcl, h.check_steps, bltin_len hl, hlen, cstD, c1, resX, orX, c2, c3]; exact ⟨rfl, rfl, rfl⟩⟩
      | none =>
        rw [w3] at c3
        exact ⟨_, _, _, by simp [loopP, bodyP, evSs, evS, evE, evEs, evI, h.gParts, h.gNested, zipR, zip2, tupR, h1l, h3l, loopS, still, setT, hw, hcl, h.check_steps, bltin_len hl, hlen, cstD, c1, resX, orX, c2, c3]; exact ⟨rfl, rfl, rfl⟩⟩
end
end Pg

set_option Elab.async false
set_option linter.all false
set_option maxRecDepth 100000
set_option maxHeartbeats 2000000
/-! Program(..), the end. -/
namespace Pg
open PySem PySem.Spec PyProof.Rows L2 Mp
section
variable {T : Tab} {m : Mem}
/-- what a row keeps -/
structure Good (m : Mem) (k : Nat) (c d : D) : Prop where
  rp : Rp m c d
  sm : sm c = true
  dep : dep c ≤ k
theorem Good.app {k : Nat} {c d : D} (h : Good m k c d) (e : Mem) : Good (m ++ e) k c d := ⟨h.rp.mono (Le.app e), h.sm, h.dep⟩
theorem Good.mono {m' : Mem} {k : Nat} {c d : D} (h : Good m k c d) (e : Le m m') : Good m' k c d := ⟨h.rp.mono e, h.sm, h.dep⟩
mutual
theorem Rp.self {m : Mem} : ∀ {c d : D}, Rp m c d → Rp [] c c
  | .non, _, _ => rfl
  | .bl _, _, _ => rfl
  | .int _, _, _ => rfl
  | .str _, _, h => ⟨rfl, h.2⟩
  | .fn _, _, h => h.elim
  | .ref _, _, h => h.elim
  | .tup cs, _, h => by
    rw [Rp] at h
    obtain ⟨ds, _, h⟩ := h
    rw [Rp]
    exact ⟨cs, rfl, Rps.self h⟩
theorem Rps.self {m : Mem} : ∀ {c d : List D}, Rps m c d → Rps [] c c
  | [], _, _ => rfl
  | c :: r, _, h => by
    rw [Rps] at h
    obtain ⟨d, q, rfl, a, b⟩ := h
    rw [Rps]
    exact ⟨c, r, rfl, Rp.self a, Rps.self b⟩
end
theorem Pu.to {c : D} (h : Pu c) (m : Mem) : Rp m c c := h.mono Le.nil
theorem Pu.refs {c : D} (h : Pu c) : refsD c = [] := Rp.refs h
/-- sizes that are -/
theorem sizes_self {m : Mem} : ∀ {cs ds : List D}, cs.all okSize = true → Rps m cs ds → ds = cs
  | [], _, _, h => by rw [Rps] at h; exact h
  | c :: r, _, hs, h => by
    rw [Rps] at h
    obtain ⟨d, q, rfl, a, b⟩ := h
    have hs : okSize c = true ∧ r.all okSize = true := by simpa using hs
    rw [sizes_self hs.2 b]
    cases c with
    | int i => rw [Rp] at a; rw [a]
    | _ => cases hs.1
theorem tail_ok (h : HasProg T) {k : Nat} {a b c d e da db dc dd de : D} {v : Int} (gb : Rp m b db) (hs : okSizes b = true) (ga : da = a) (gc : Good m (k + 14) c dc) (gd : Good m (k + 14) d dd) (ge : Good m (k + 14) e de)
    (hv : v = wide b) (vc : cS v false 3 c [.str "first"] = none) (vd : cS v true 3 d [.str "each"] = none) (ve : cS v false 3 e [.str "last"] = none) (g : Mem) (x y z : Option D) :
    ∃ ρ, evSs (wd T (k + 16)) T.exf T.sub tailP [some (.ref m.length), some da, some db, some dc, some dd, some de, x, y, z, none] (m ++ .ins "Program" [] :: g) =
      (if many c d e ≤ 12 then .nx ρ (m ++ .ins "Program" (fsOf a b c d e) :: g) else .exc (largeX (many c d e)) ρ (m ++ .ins "Program" (fsOf a b c d e) :: g)) := by
  obtain ⟨cs, rfl⟩ : ∃ cs, b = .tup cs := by
    cases b with
    | tup cs => exact ⟨cs, rfl⟩
    | _ => cases hs
  have hs : cs.length ≤ 3 ∧ cs.all okSize = true := by simpa [okSizes] using hs
  rw [Rp] at gb
  obtain ⟨ds, ha, hq⟩ := gb
  have := sizes_self hs.2 hq
  subst this
  have hw : ∀ g, (wd T (k + 16)).has g = (T.df g).isSome := fun g => rfl
  have hcl : (wd T (k + 16)).call = callD T (k + 16) := rfl
  have D0 : ∀ {c d : D} (o : O), Good m (k + 14) c d → callD T (k + 16) ("deep_rows", none) [d] (m ++ o :: g) = .ok c (m ++ o :: g) := fun {c d} o z => by
    have q := z.app (o :: g)
    have w := deep_rows_ok h (k + 14) 0 q.rp q.sm q.dep
    exact w
  have N0 : ∀ {c : D} {l : Bool} {pl : List D} (o : O), Good m (k + 14) c c → cS v l 3 c pl = none → callD T (k + 16) ("count_steps", none) [c] (m ++ o :: g) = .ok (.int (cnt 3 c)) (m ++ o :: g) := fun {c l pl} o z hz => by
    have q := z.app (o :: g)
    have w := count_steps_ok h (v := v) (l := l) 3 (k + 12) q.rp q.sm hz
    rw [show 3 + (k + 12 + 1) = k + 16 from by omega] at w
    exact w
  have sc : Good m (k + 14) c c := ⟨Pu.to (Rp.self gc.rp) m, gc.sm, gc.dep⟩
  have sd : Good m (k + 14) d d := ⟨Pu.to (Rp.self gd.rp) m, gd.sm, gd.dep⟩
  have se : Good m (k + 14) e e := ⟨Pu.to (Rp.self ge.rp) m, ge.sm, ge.dep⟩
  have d1 := fun o => D0 o gc
  have d2 := fun o => D0 o gd
  have d3 := fun o => D0 o ge
  have n1 := fun o => N0 o sc vc
  have n2 := fun o => N0 o sd vd
  have n3 := fun o => N0 o se ve
  have f1 := h.fld "letters" (by simp)
  have f2 := h.fld "sizes" (by simp)
  have f3 := h.fld "first" (by simp)
  have f4 := h.fld "each" (by simp)
  have f5 := h.fld "last" (by simp)
  have hsq := fun o => rowAt_seq (rowAt_mono (Le.app (o :: g)) ha)
  have hm : ((cnt 3 c : Int) + (cnt 3 d : Int) + (cnt 3 e : Int)) = ((many c d e : Nat) : Int) := by simp [many]
  subst ga
  by_cases hM : many c d e ≤ 12
  · have hM' : ¬ (12 : Int) < ((many c d e : Nat) : Int) := by omega
    exact ⟨_, by simp [tailP, evSs, evS, evE, evEs, optS, setF, fput, get_end, set_end, f1, f2, f3, f4, f5, bltin, hsq, hw, hcl, h.deep_rows, h.count_steps, d1, d2, d3, attD, fget, n1, n2, n3, hm, h.gSteps, hM', hM, setT, fsOf]; rfl⟩
  · have hM' : (12 : Int) < ((many c d e : Nat) : Int) := by omega
    exact ⟨_, by simp [tailP, evSs, evS, evE, evEs, optS, setF, fput, get_end, set_end, f1, f2, f3, f4, f5, bltin, hsq, hw, hcl, h.deep_rows, h.count_steps, d1, d2, d3, attD, fget, n1, n2, n3, hm, h.gSteps, hM', hM, setT, fsOf, h.large, largeX]; rfl⟩
/-- what a program that is none leaves -/
theorem init_ok (h : HasProg T) {k : Nat} {a b c d e da db dc dd de : D} (ga : Good m (k + 14) a da) (gb : Good m (k + 14) b db) (gc : Good m (k + 14) c dc) (gd : Good m (k + 14) d dd) (ge : Good m (k + 14) e de) :
    (∃ fs, refsF fs = [] ∧ callD T (k + 17) ("Program", some "__init__") [.ref m.length, da, db, dc, dd, de] (m ++ [.ins "Program" []]) = match initX a b c d e with
      | none => .ok .non (m ++ [.ins "Program" (fsOf a b c d e)])
      | some x => .exc x (m ++ [.ins "Program" fs])) := by
  have hw : ∀ g, (wd T (k + 16)).has g = (T.df g).isSome := fun g => rfl
  have hcl : (wd T (k + 16)).call = callD T (k + 16) := rfl
  rw [callD_succ, h.init]
  have z1 := is_number_ok (k := k + 15) h (ga.app [.ins "Program" []]).rp
  have z2 := is_row_ok (k := k + 15) h (gb.app [.ins "Program" []]).rp
  have gb1 := (gb.app [.ins "Program" []]).rp
  have gX := fun (x : Xn) (hx : refsF x.fs = []) => gcX_pure (Old.refl (m ++ [.ins "Program" []])) [] hx
  by_cases na : isN a && inI 1 3 a
  case neg =>
    have na : (isN a && inI 1 3 a) = false := by simpa using na
    have e1 : initX a b c d e = some (badX (.str "letters")) := by unfold initX; simp [na]
    rw [e1]
    refine ⟨[], rfl, ?_⟩
    by_cases y : isN a = true
    · cases a with
      | int i =>
        have ga := ga.rp
        rw [Rp] at ga
        subst ga
        have y2 : inI 1 3 (.int i) = false := by simpa [y] using na
        by_cases w : 1 ≤ i
        · have w2 : ¬ i ≤ 3 := by simpa [inI, w] using y2
          simp [d_Program_init, b_init_eq, evSs, evS, evE, evEs, startE, hw, hcl, h.is_number, z1, y, cstD, cmpD, ltD, ltI, h.gLetters, h.bad, w, w2, badX]
        · simp [d_Program_init, b_init_eq, evSs, evS, evE, evEs, startE, hw, hcl, h.is_number, z1, y, cstD, cmpD, ltD, ltI, h.gLetters, h.bad, w, badX]
      | _ => cases y
    · simp [d_Program_init, b_init_eq, evSs, evS, evE, evEs, startE, hw, hcl, h.is_number, z1, y, cstD, h.bad, badX]
  obtain ⟨i, rfl⟩ : ∃ i, a = .int i := by
    cases a with
    | int i => exact ⟨i, rfl⟩
    | _ => simp [isN] at na
  have ga := ga.rp
  rw [Rp] at ga
  subst ga
  have na' : 0 ≤ i ∧ 1 ≤ i ∧ i ≤ 3 := by simpa [isN, inI] using na
  have hi0 : isN (.int i) = true := by simp [isN, na'.1]
  by_cases nb : okSizes b = true
  case neg =>
    have nb : okSizes b = false := by simpa using nb
    have e1 : initX (.int i) b c d e = some (badX (.str "sizes")) := by unfold initX; simp [na, nb]
    rw [e1]
    refine ⟨[], rfl, ?_⟩
    by_cases y : isT b = true
    case neg => 
      simp [d_Program_init, b_init_eq, evSs, evS, evE, evEs, startE, hw, hcl, h.is_number, z1, hi0, cstD, cmpD, ltD, ltI, h.gLetters, h.bad, na'.1, na'.2.1, na'.2.2, badX, h.is_row, z2, y]
    obtain ⟨cs, rfl⟩ : ∃ cs, b = .tup cs := by
      cases b with
      | tup cs => exact ⟨cs, rfl⟩
      | _ => cases y
    rw [Rp] at gb1
    obtain ⟨ds, ha, hq⟩ := gb1
    have hl := rowAt_len ha
    have hlen := Rps.length hq
    by_cases w : cs.length ≤ 3
    · have w' : ¬ (3 : Int) < (ds.length : Int) := by omega
      have ws : cs.all okSize = false := by simpa [okSizes, w] using nb
      have zs := sizes_ok (b := .non) h (k := k + 15) ha hq w (ρ := [some (.ref m.length), some (.int i), some db, some dc, some dd, some de, none, none, none, none]) rfl (by simp)
      have wsb : (cs.map okSize).all id = false := by
        rw [List.all_map]; exact ws
      have y2 : isT (.tup cs) = true := rfl
      simp [d_Program_init, b_init_eq, evSs, evS, evE, evEs, startE, hw, hcl, h.is_number, z1, hi0, cstD, cmpD, ltD, ltI, h.gLetters, h.gVars, h.bad, na'.1, na'.2.1, na'.2.2, badX, h.is_row, z2, y2, bltin_len hl, w']
      simp only [List.append_assoc, List.cons_append, List.nil_append, List.length_append, List.length_cons, List.length_nil] at zs
      simp only [Nat.zero_add] at zs
      obtain ⟨bs, hbs, zs⟩ : ∃ bs, bools bs = some (cs.map okSize) ∧ evE (wd T (k + 15 + 1)) sizesL [some (.ref m.length), some (.int i), some db, some dc, some dd, some de, none, none, none, none] (m ++ [O.ins "Program" []]) = .ok (.ref (m.length + 1)) (m ++ [O.ins "Program" [], O.lst bs]) := ⟨_, bools_bl _, zs⟩
      rw [zs]
      have lx : Mp.listAt (m ++ [O.ins "Program" [], O.lst bs]) (m.length + 1) = some bs := by
        simp [Mp.listAt]
      simp only [R.bind_ok]
      have al : bltin "all" [.ref (m.length + 1)] (m ++ [O.ins "Program" [], O.lst bs]) = .ok (.bl false) (m ++ [O.ins "Program" [], O.lst bs]) := by
        simp only [bltin, lx, Option.bind_some, hbs, wsb]
        rfl
      rw [al]
      have gx := gcX_pure (Old.refl (m ++ [O.ins "Program" []])) [O.lst bs] (d := ⟨"BadProgram", [("place", .str "sizes")]⟩) rfl
      simp only [List.append_assoc, List.cons_append, List.nil_append] at gx
      simp [gx]
    · have w' : (3 : Int) < (ds.length : Int) := by omega
      have y2 : isT (.tup cs) = true := rfl
      simp [d_Program_init, b_init_eq, evSs, evS, evE, evEs, startE, hw, hcl, h.is_number, z1, hi0, cstD, cmpD, ltD, ltI, h.gLetters, h.gVars, h.bad, na'.1, na'.2.1, na'.2.2, badX, h.is_row, z2, y2, bltin_len hl, w']
  obtain ⟨cs, rfl⟩ : ∃ cs, b = .tup cs := by
    cases b with
    | tup cs => exact ⟨cs, rfl⟩
    | _ => cases nb
  have nb' : cs.length ≤ 3 ∧ cs.all okSize = true := by simpa [okSizes] using nb
  have gb1' := gb1
  rw [Rp] at gb1
  obtain ⟨ds, ha, hq⟩ := gb1
  have hl := rowAt_len ha
  have hlen := Rps.length hq
  have w' : ¬ (3 : Int) < (ds.length : Int) := by omega
  have zs := sizes_ok (b := .non) h (k := k + 15) ha hq nb'.1 (ρ := [some (.ref m.length), some (.int i), some db, some dc, some dd, some de, none, none, none, none]) rfl (by simp)
  have wsb : (cs.map okSize).all id = true := by
    rw [List.all_map]; exact nb'.2
  have y2 : isT (.tup cs) = true := rfl
  simp only [List.append_assoc, List.cons_append, List.nil_append, List.length_append, List.length_cons, List.length_nil] at zs
  simp only [Nat.zero_add] at zs
  obtain ⟨bs, hbs, zs⟩ : ∃ bs, bools bs = some (cs.map okSize) ∧ evE (wd T (k + 15 + 1)) sizesL [some (.ref m.length), some (.int i), some db, some dc, some dd, some de, none, none, none, none] (m ++ [O.ins "Program" []]) = .ok (.ref (m.length + 1)) (m ++ [O.ins "Program" [], O.lst bs]) := ⟨_, bools_bl _, zs⟩
  have lx : Mp.listAt (m ++ [O.ins "Program" [], O.lst bs]) (m.length + 1) = some bs := by
    simp [Mp.listAt]
  have al : bltin "all" [.ref (m.length + 1)] (m ++ [O.ins "Program" [], O.lst bs]) = .ok (.bl true) (m ++ [O.ins "Program" [], O.lst bs]) := by
    simp only [bltin, lx, Option.bind_some, hbs, wsb]
    rfl
  have e0 : callD T (k + 16) = callD T (k + 16) := rfl
  have gM := fun {c d : D} (z : Good m (k + 14) c d) => (z.app [O.ins "Program" [], O.lst bs]).rp
  obtain ⟨ρ1, ρ2, ρ3, P⟩ := parts_ok h (k := k) (self := .ref m.length) (da := .int i) (gM gb) rfl gb.sm (gM gc) (gM gd) (gM ge) none none none
  have key : ∀ r : R D, (finR (m ++ [.ins "Program" []]) (evSs (wd T (k + 16)) T.exf T.sub (.cons loopP tailP) [some (.ref m.length), some (.int i), some db, some dc, some dd, some de, none, none, none, none] (m ++ [O.ins "Program" [], O.lst bs])) = r) →
      (match some d_Program_init with
      | none => R.bad
      | some d => if [D.ref m.length, .int i, db, dc, dd, de].length = d.pars then finR (m ++ [.ins "Program" []]) (evSs (wd T (k + 16)) T.exf T.sub d.body (startE d.slots [D.ref m.length, .int i, db, dc, dd, de]) (m ++ [.ins "Program" []])) else .bad) = r := by
    intro r hr
    rw [← hr]
    simp only [d_Program_init, b_init_eq]
    simp [evSs, evS, evE, evEs, startE, hw, hcl, h.is_number, z1, hi0, cstD, cmpD, ltD, ltI, h.gLetters, h.gVars, h.bad, na'.1, na'.2.1, na'.2.2, badX, h.is_row, z2, y2, bltin_len hl, w', zs, al]
  cases hbad : badAt (.tup cs) c d e with
  | some pl =>
    have e1 : initX (.int i) (.tup cs) c d e = some (badX (.tup pl)) := by unfold initX; simp [na, nb, hbad]
    rw [e1]
    rw [hbad] at P
    refine ⟨[], rfl, key _ ?_⟩
    rw [evSs, P]
    have hp : refsDs pl = [] := by
      unfold badAt at hbad
      rcases orX_some hbad with z | z
      · exact cS_refs 3 z rfl
      rcases orX_some z with z | z
      · exact cS_refs 3 z rfl
      · exact cS_refs 3 z rfl
    have gx := gcX_pure (Old.refl (m ++ [O.ins "Program" []])) [O.lst bs] (d := badX (.tup pl)) (by simp [badX, refsF, refsD, hp])
    simp only [List.append_assoc, List.cons_append, List.nil_append] at gx
    simp [gx]
  | none =>
    rw [hbad] at P
    have hv := hbad
    unfold badAt at hv
    obtain ⟨v1, v23⟩ := orX_none hv
    obtain ⟨v2, v3⟩ := orX_none v23
    obtain ⟨ρ, Q⟩ := tail_ok h (v := wide (.tup cs)) (a := .int i) gb.rp nb rfl gc gd ge rfl v1 v2 v3 [O.lst bs] ρ1 ρ2 ρ3
    have hfs : refsF (fsOf (.int i) (.tup cs) c d e) = [] := by
      simp [fsOf, refsF, refsD, Rp.refs gc.rp, Rp.refs gd.rp, Rp.refs ge.rp]
      have := Rp.refs gb.rp
      simpa [refsD] using this
    have old : Old (m ++ [O.ins "Program" []]) (m ++ [O.ins "Program" (fsOf (.int i) (.tup cs) c d e)]) := ⟨by simp, by
      have : ∀ (L : Nat) (m : Mem) (o o' : O), refsO o' = [] → oldOk L (m ++ [o]) (m ++ [o']) = true := by
        intro L m o o' ho
        induction m with
        | nil => simp [oldOk, ho]
        | cons a r ih => simp [oldOk, ih]
      exact this _ _ _ _ hfs⟩
    refine ⟨fsOf (.int i) (.tup cs) c d e, hfs, ?_⟩
    by_cases hM : many c d e ≤ 12
    · have e1 : initX (.int i) (.tup cs) c d e = none := by unfold initX; simp [na, nb, hbad, hM]
      rw [e1]
      refine key _ ?_
      rw [if_pos hM] at Q
      rw [evSs, P]
      simp only [seqS_nx]
      rw [Q]
      have gx := gc_pure old [O.lst bs] (d := .non) rfl
      simp only [List.append_assoc, List.cons_append, List.nil_append] at gx
      simp [gx]
    · have e1 : initX (.int i) (.tup cs) c d e = some (largeX (many c d e)) := by unfold initX; simp [na, nb, hbad, hM]
      rw [e1]
      refine key _ ?_
      rw [if_neg hM] at Q
      rw [evSs, P]
      simp only [seqS_nx]
      rw [Q]
      have gx := gcX_pure old [O.lst bs] (d := largeX (many c d e)) rfl
      simp only [List.append_assoc, List.cons_append, List.nil_append] at gx
      simp [gx]
end
end Pg

set_option Elab.async false
set_option linter.all false
set_option maxRecDepth 100000
set_option maxHeartbeats 2000000
/-! ==, part, steps_in. -/
namespace Pg
open PySem PySem.Spec PyProof.Rows L2 Mp
mutual
def pd : D → PyData
  | .non => .none
  | .bl b => .bool b
  | .int i => .int i
  | .str x => .str x
  | .tup cs => .tuple (pds cs)
  | _ => .none
def pds : List D → List PyData
  | [] => []
  | c :: r => pd c :: pds r
end
mutual
theorem toPd_pd (k : Nat → Option PyData) : ∀ {c : D}, Pu c → toPd k c = some (pd c)
  | .non, _ => rfl
  | .bl _, _ => rfl
  | .int _, _ => rfl
  | .str _, _ => rfl
  | .fn _, h => h.elim
  | .ref _, h => h.elim
  | .tup cs, h => by
    have h : ∃ ds, rowAt [] (.tup cs) = some ds ∧ Rps [] cs ds := by
      have := h; unfold Pu at this; rw [Rp] at this; exact this
    obtain ⟨ds, e, h⟩ := h
    cases e
    rw [toPd, toPds_pds k h]; rfl
theorem toPds_pds (k : Nat → Option PyData) : ∀ {c : List D}, Pus c → toPds k c = some (pds c)
  | [], _ => rfl
  | c :: r, h => by
    have h : ∃ d q, c :: r = d :: q ∧ Rp [] c d ∧ Rps [] r q := by
      have := h; unfold Pus at this; rw [Rps] at this; exact this
    obtain ⟨d, q, e, a, b⟩ := h
    cases e
    rw [toPds, toPd_pd k a, Option.bind_some, toPds_pds k b]; rfl
end
mutual
theorem pd_can : ∀ {c : D}, Pu c → (pd c).canLay0 = true
  | .non, _ => rfl
  | .bl _, _ => rfl
  | .int _, _ => rfl
  | .str _, h => h.2
  | .fn _, h => h.elim
  | .ref _, h => h.elim
  | .tup cs, h => by
    have h : ∃ ds, rowAt [] (.tup cs) = some ds ∧ Rps [] cs ds := by
      have := h; unfold Pu at this; rw [Rp] at this; exact this
    obtain ⟨ds, e, h⟩ := h
    cases e
    exact pds_can h
theorem pds_can : ∀ {c : List D}, Pus c → PyData.canLayAll0 (pds c) = true
  | [], _ => rfl
  | c :: r, h => by
    have h : ∃ d q, c :: r = d :: q ∧ Rp [] c d ∧ Rps [] r q := by
      have := h; unfold Pus at this; rw [Rps] at this; exact this
    obtain ⟨d, q, e, a, b⟩ := h
    cases e
    simp [pds, PyData.canLayAll0, pd_can a, pds_can b]
end
mutual
theorem pd_depth : ∀ c : D, (pd c).depth = dep c
  | .non => rfl
  | .bl _ => rfl
  | .int _ => rfl
  | .str _ => rfl
  | .fn _ => rfl
  | .ref _ => rfl
  | .tup cs => by rw [pd, PyData.depth, pds_depth cs, dep]
theorem pds_depth : ∀ c : List D, PyData.depthAll (pds c) = deps c
  | [] => rfl
  | c :: r => by rw [pds, PyData.depthAll, pd_depth c, pds_depth r, deps]
end
section
variable {T : Tab} {m : Mem}
theorem data_pu {c : D} (h : Pu c) (hd : dep c ≤ 64) : data m c = some (pd c) := by
  unfold data toP
  rw [toPd_pd _ h, Option.bind_some]
  have : SeqAt.shaped (pd c) = true := by
    unfold SeqAt.shaped
    rw [pd_can h, pd_depth]; simpa using hd
  rw [if_pos this]
/-- a list of such things -/
theorem data_lst {cs : List D} {i : Nat} (hi : m[i]? = some (.lst cs)) (h : Pus cs) (hd : deps cs ≤ 63) : data m (.ref i) = some (.list (pds cs)) := by
  have e : toP m 12 (.ref i) = some (.list (pds cs)) := by
    simp only [toP, toPd, Mp.listAt, hi, Option.bind_some]
    rw [toPds_pds _ h]; rfl
  unfold data
  rw [e, Option.bind_some]
  have : SeqAt.shaped (.list (pds cs)) = true := by
    unfold SeqAt.shaped
    simp [PyData.canLay0, pds_can h, PyData.depth, pds_depth]
    omega
  rw [if_pos this]
theorem eqD_data {a b : D} {p q : PyData} (ha : data m a = some p) (hb : data m b = some q) : eqD m a b = some (PyData.eqv p q) := by
  have z : (data m a).bind (fun p => (data m b).map fun q => PyData.eqv p q) = some (PyData.eqv p q) := by rw [ha, hb]; rfl
  unfold eqD
  split
  · rename_i i j
    have ha : (if SeqAt.shaped (.str i) then some (PyData.str i) else none) = some p := ha
    have hb : (if SeqAt.shaped (.str j) then some (PyData.str j) else none) = some q := hb
    split at ha <;> cases ha
    split at hb <;> cases hb
    simp only [PyData.eqv]
    congr 1
  · rename_i i j
    have ha : (if SeqAt.shaped (.int i) then some (PyData.int i) else none) = some p := ha
    have hb : (if SeqAt.shaped (.int j) then some (PyData.int j) else none) = some q := hb
    split at ha <;> cases ha
    split at hb <;> cases hb
    simp only [PyData.eqv]
    congr 1
  · rename_i i j
    have ha : (if SeqAt.shaped (.bool i) then some (PyData.bool i) else none) = some p := ha
    have hb : (if SeqAt.shaped (.bool j) then some (PyData.bool j) else none) = some q := hb
    split at ha <;> cases ha
    split at hb <;> cases hb
    simp only [PyData.eqv]
  · exact z
theorem cmp_eqD {W : Wd} {a b : D} {v : Bool} (ho : ownAt m a = none) (h : eqD m a b = some v) : cmpE W .eq a b m = .ok (.bl v) m := by
  unfold cmpE
  simp [ownOp, ho, cmpD, h]
theorem cmp_neD {W : Wd} {a b : D} {v : Bool} (ho : ownAt m a = none) (h : eqD m a b = some v) : cmpE W .ne a b m = .ok (.bl (!v)) m := by
  unfold cmpE
  simp [ownOp, ho, cmpD, h]
theorem own_tup (cs : List D) : ownAt m (.tup cs) = none := rfl
theorem eqv_self {c : D} (h : Pu c) : PyData.eqv (pd c) (pd c) = true := PySem.SeqAt.eqv_refl _ (pd_can h)
theorem eqD_self {c : D} (h : Pu c) (hd : dep c ≤ 64) : eqD m c c = some true := by
  rw [eqD_data (data_pu h hd) (data_pu h hd), eqv_self h]
/-! ### a program -/
structure IsProg (m : Mem) (i : Nat) (a b c d e : D) : Prop where
  at_ : m[i]? = some (.ins "Program" (fsOf a b c d e))
  pa : Pu a
  pb : Pu b
  pc : Pu c
  pd : Pu d
  pe : Pu e
  la : dep a ≤ 20
  lb : dep b ≤ 20
  lc : dep c ≤ 20
  ld : dep d ≤ 20
  le : dep e ≤ 20
theorem IsProg.app {i : Nat} {a b c d e : D} (h : IsProg m i a b c d e) (g : Mem) : IsProg (m ++ g) i a b c d e := by
  have : i < m.length := by
    rcases Nat.lt_or_ge i m.length with z | z
    · exact z
    · have := h.at_; rw [List.getElem?_eq_none z] at this; cases this
  exact { h with at_ := by rw [List.getElem?_append_left this]; exact h.at_ }
theorem pus2 {a b : D} (ha : Pu a) (hb : Pu b) : Pu (.tup [a, b]) := by
  simp only [Pu, Rp, Rps, rowAt]
  exact ⟨_, rfl, _, _, rfl, ha, _, _, rfl, hb, rfl⟩
theorem pus3 {a b c : D} (ha : Pu a) (hb : Pu b) (hc : Pu c) : Pu (.tup [a, b, c]) := by
  simp only [Pu, Rp, Rps, rowAt]
  exact ⟨_, rfl, _, _, rfl, ha, _, _, rfl, hb, _, _, rfl, hc, rfl⟩
theorem pus5 {a b c d e : D} (ha : Pu a) (hb : Pu b) (hc : Pu c) (hd : Pu d) (he : Pu e) : Pu (.tup [a, b, c, d, e]) := by
  simp only [Pu, Rp, Rps, rowAt]
  exact ⟨_, rfl, _, _, rfl, ha, _, _, rfl, hb, _, _, rfl, hc, _, _, rfl, hd, _, _, rfl, he, rfl⟩
theorem len2 : (2 : Nat) ≤ lim := lt_lim (by omega)
theorem len3 : (3 : Nat) ≤ lim := lt_lim (by omega)
theorem len5 : (5 : Nat) ≤ lim := lt_lim (by omega)
/-- like programs -/
theorem eq_same (h : HasProg T) {k i j : Nat} {a b c d e : D} (P : IsProg m i a b c d e) (Q : IsProg m j a b c d e) : callD T (k + 1) ("Program", some "__eq__") [.ref i, .ref j] m = .ok (.bl true) m := by
  rw [callD_succ, h.eq]
  have e1 : eqD m (.tup [a, b]) (.tup [a, b]) = some true := eqD_self (pus2 P.pa P.pb) (by simp [dep, deps]; have := P.la; have := P.lb; omega)
  have e2 : eqD m (.tup [c, d, e]) (.tup [c, d, e]) = some true := eqD_self (pus3 P.pc P.pd P.pe) (by simp [dep, deps]; have := P.lc; have := P.ld; have := P.le; omega)
  have c1 := cmp_neD (W := wd T k) (own_tup _) e1
  have c2 := cmp_eqD (W := wd T k) (own_tup _) e2
  simp [d_Program_eq, b_Program_eq, evSs, evS, evE, evEs, startE, isTys, tagOf, Q.at_, P.at_, tyOk, h.cls, isOf, attD, fsOf, fget, tupR, len2, len3, c1, c2, cstD]
/-- of unlike letters -/
theorem eq_unlike (h : HasProg T) {k i j : Nat} {a a' : Int} {b c d e b' c' d' e' : D} (P : IsProg m i (.int a) b c d e) (Q : IsProg m j (.int a') b' c' d' e') (ne : a ≠ a') : callD T (k + 1) ("Program", some "__eq__") [.ref i, .ref j] m = .ok (.bl false) m := by
  rw [callD_succ, h.eq]
  have e1 : eqD m (.tup [.int a, b]) (.tup [.int a', b']) = some false := by
    rw [eqD_data (data_pu (pus2 P.pa P.pb) (by simp [dep, deps]; have := P.lb; omega)) (data_pu (pus2 Q.pa Q.pb) (by simp [dep, deps]; have := Q.lb; omega))]
    have : (a == a') = false := by simpa using ne
    simp [pd, pds, PyData.eqv, PyData.eqvAll, this]
  have c1 := cmp_neD (W := wd T k) (own_tup _) e1
  simp [d_Program_eq, b_Program_eq, evSs, evS, evE, evEs, startE, isTys, tagOf, Q.at_, P.at_, tyOk, h.cls, isOf, attD, fsOf, fget, tupR, len2, len3, c1, cstD]
theorem eq_int (h : HasProg T) {k i : Nat} {n : Int} : callD T (k + 1) ("Program", some "__eq__") [.ref i, .int n] m = .ok (.bl false) m := by
  rw [callD_succ, h.eq]
  simp [d_Program_eq, b_Program_eq, evSs, evS, evE, evEs, startE, isTys, tagOf, tyOk, h.cls, isOf, cstD]
/-- == and != between programs, on the level above -/
theorem cmp_prog (h : HasProg T) {k i : Nat} {y : D} {a b c d e : D} {v : Bool} (P : IsProg m i a b c d e) (hy : (tagOf m y).isSome = true) (hv : callD T k ("Program", some "__eq__") [.ref i, y] m = .ok (.bl v) m) :
    cmpE (wd T (k + 1)) .eq (.ref i) y m = .ok (.bl v) m ∧ cmpE (wd T (k + 1)) .ne (.ref i) y m = .ok (.bl (!v)) m := by
  have ho : ownAt m (.ref i) = some "Program" := by simp [ownAt, P.at_]
  have hh : (wd T (k + 1)).has ("Program", some "__eq__") = true := by simp [h.eq]
  constructor
  · unfold cmpE
    simp [ownOp, ho, h.eq, hy, hv, blR, boolR, R.calm]
  · unfold cmpE
    simp [ownOp, ho, h.eq, hy, hv, blR, boolR, R.calm]
def partOf (c d e : D) (x : Str) : D := if x = "first" then c else if x = "each" then d else e
theorem part_ok (h : HasProg T) {k i : Nat} {a b c d e : D} (P : IsProg m i a b c d e) {x : Str} (hx : x = "first" ∨ x = "each" ∨ x = "last") : callD T (k + 1) ("Program", some "part") [.ref i, .str x] m = .ok (partOf c d e x) m := by
  rw [callD_succ, h.part]
  have hlt : i < m.length := by
    rcases Nat.lt_or_ge i m.length with z | z
    · exact z
    · have := P.at_; rw [List.getElem?_eq_none z] at this; cases this
  have at1 : ∀ o : O, (m ++ [o])[i]? = some (.ins "Program" (fsOf a b c d e)) := fun o => (P.app [o]).at_
  have g1 := fun (x : D) (hx : refsD x = []) => gc_pure (Old.refl m) [.dct [(.str "first", c), (.str "each", d), (.str "last", e)]] hx
  have p1 := g1 c (Pu.refs P.pc)
  have p2 := g1 d (Pu.refs P.pd)
  have p3 := g1 e (Pu.refs P.pe)
  rcases hx with rfl | rfl | rfl <;>
    simp [d_Program_part, b_Program_part, evSs, evS, evE, evEs, startE, cstD, attD, at1, fsOf, fget, dctOf, keyIn, dkey, isTupK, kvPut, kvFind, idxD, idxR, Mp.listAt, dctAt, partOf, p1, p2, p3, get_end, set_end]
theorem check_program_ok (h : HasProg T) {k i : Nat} {a b c d e : D} (P : IsProg m i a b c d e) : callD T (k + 1) ("check_program", none) [.ref i] m = .ok .non m := by
  rw [callD_succ, h.check_program]
  simp [d_check_program, b_check_program, evSs, evS, evE, evEs, startE, isTys, tagOf, P.at_, tyOk, h.cls, isOf]
theorem check_program_no (h : HasProg T) {k : Nat} {d : D} {t : Tn} (ht : tagOf m d = some (.ty t)) : callD T (k + 1) ("check_program", none) [d] m = .exc (badX (.str "program")) m := by
  rw [callD_succ, h.check_program]
  simp [d_check_program, b_check_program, evSs, evS, evE, evEs, startE, isTys, ht, tyOk, h.cls, isOf, h.bad, cstD, badX]
theorem steps_in_no (h : HasProg T) {k : Nat} {d : D} {t : Tn} (ht : tagOf m d = some (.ty t)) : callD T (k + 2) ("steps_in", none) [d] m = .exc (badX (.str "program")) m := by
  rw [callD_succ, h.steps_in]
  have z := check_program_no h (k := k) ht
  simp [d_steps_in, b_steps_in, evSs, evS, evE, evEs, startE, h.check_program, z]
theorem steps_in_ok (h : HasProg T) {k i : Nat} {a b c d e : D} (P : IsProg m i a b c d e) {v1 v2 v3 : Int} {l1 l2 l3 : Bool} {q1 q2 q3 : List D} (s1 : sm c = true) (s2 : sm d = true) (s3 : sm e = true)
    (h1 : cS v1 l1 3 c q1 = none) (h2 : cS v2 l2 3 d q2 = none) (h3 : cS v3 l3 3 e q3 = none) : callD T (k + 5) ("steps_in", none) [.ref i] m = .ok (.int (many c d e : Nat)) m := by
  rw [callD_succ, h.steps_in]
  have z := check_program_ok h (k := k + 3) P
  have n1 := count_steps_ok h (v := v1) (l := l1) 3 k (P.pc.to m) s1 h1
  have n2 := count_steps_ok h (v := v2) (l := l2) 3 k (P.pd.to m) s2 h2
  have n3 := count_steps_ok h (v := v3) (l := l3) 3 k (P.pe.to m) s3 h3
  rw [show 3 + (k + 1) = k + 4 from by omega] at n1 n2 n3
  simp [d_steps_in, b_steps_in, evSs, evS, evE, evEs, startE, h.check_program, h.count_steps, z, attD, P.at_, fsOf, fget, n1, n2, n3, many]
end
end Pg

set_option Elab.async false
set_option linter.all false
set_option maxRecDepth 100000
set_option maxHeartbeats 2000000
/-! Draws. -/
namespace Pg
open PySem PySem.Spec PyProof.Rows L2 Mp
structure HasDraw (T : Tab) : Prop where
  number : T.df ("_law_number", none) = some d_u_law_number
  take : T.df ("_law_take", none) = some d_u_law_take
  pick : T.df ("_law_pick", none) = some d_u_law_pick
/-- a draw at r over the script at s, so many drawn -/
structure Dr (m : Mem) (r s : Nat) (ns : List Int) (j : Int) : Prop where
  at_ : m[r]? = some (.lst [.ref s, .int j])
  sc : m[s]? = some (.frz (ns.map .int))
  len : ns.length ≤ 63
  pos : 0 ≤ j
def up (m : Mem) (r s : Nat) (j : Int) : Mem := m.set r (.lst [.ref s, .int j])
theorem lt_of_get {m : Mem} {i : Nat} {o : O} (h : m[i]? = some o) : i < m.length := by
  rcases Nat.lt_or_ge i m.length with z | z
  · exact z
  · rw [List.getElem?_eq_none z] at h; cases h
section
variable {T : Tab} {m : Mem} {r s : Nat} {ns : List Int} {j : Int}
theorem Dr.rlt (h : Dr m r s ns j) : r < m.length := lt_of_get h.at_
theorem Dr.slt (h : Dr m r s ns j) : s < m.length := lt_of_get h.sc
theorem Dr.ne (h : Dr m r s ns j) : r ≠ s := fun e => by
  have a := h.at_; have b := h.sc
  subst e
  rw [a] at b; cases b
theorem Dr.up (h : Dr m r s ns j) {j' : Int} (hj : 0 ≤ j') : Dr (up m r s j') r s ns j' := by
  refine ⟨?_, ?_, h.len, hj⟩
  · simp [Pg.up, h.rlt]
  · unfold Pg.up
    rw [List.getElem?_set_ne h.ne]
    exact h.sc
theorem Dr.app (h : Dr m r s ns j) (e : Mem) : Dr (m ++ e) r s ns j := by
  refine ⟨?_, ?_, h.len, h.pos⟩
  · rw [List.getElem?_append_left h.rlt]; exact h.at_
  · rw [List.getElem?_append_left h.slt]; exact h.sc
theorem up_up (j j' : Int) : up (up m r s j) r s j' = up m r s j' := by simp [up]
theorem up_app (h : Dr m r s ns j) (e : Mem) (j' : Int) : up (m ++ e) r s j' = up m r s j' ++ e := by
  unfold up
  rw [List.set_append_left _ _ h.rlt]
theorem up_self (h : Dr m r s ns j) : up m r s j = m := by
  unfold up
  apply List.ext_getElem?
  intro i
  by_cases e : r = i
  · subst e; rw [List.getElem?_set_self h.rlt, h.at_]
  · rw [List.getElem?_set_ne e]
theorem up_len (j' : Int) : (up m r s j').length = m.length := by simp [up]
theorem oldOk_set : ∀ (L : Nat) (m : Mem) (r : Nat) (o : O), (refsO o).all (fun i => Nat.blt i L) = true → oldOk L m (m.set r o) = true
  | L, [], r, o, h => rfl
  | L, a :: q, 0, o, h => by simp [oldOk, h, oldOk_refl]
  | L, a :: q, r + 1, o, h => by simp [oldOk, oldOk_set L q r o h]
theorem Dr.old (h : Dr m r s ns j) (j' : Int) : Old m (Pg.up m r s j') := ⟨up_len j', oldOk_set _ _ _ _ (by
  have := h.slt
  simp [refsO, refsDs, refsD, Nat.blt_eq, this])⟩
theorem up_get (h : Dr m r s ns j) (j' : Int) {i : Nat} (hi : i ≠ r) : (up m r s j')[i]? = m[i]? := by
  unfold up
  rw [List.getElem?_set_ne (Ne.symm hi)]
/-! ### the number -/
theorem toPds_ints (k : Nat → Option PyData) : ∀ ns : List Int, toPds k (ns.map D.int) = some (ns.map PyData.int)
  | [] => rfl
  | n :: r => by
    show toPds k (.int n :: r.map D.int) = _
    rw [toPds, toPds_ints k r]; rfl
theorem ints_can : ∀ ns : List Int, PyData.canLayAll0 (ns.map PyData.int) = true
  | [] => rfl
  | n :: r => by
    show PyData.canLayAll0 (.int n :: r.map PyData.int) = true
    rw [PyData.canLayAll0, ints_can r]; rfl
theorem ints_depth : ∀ ns : List Int, PyData.depthAll (ns.map PyData.int) = 0
  | [] => rfl
  | n :: r => by
    show PyData.depthAll (.int n :: r.map PyData.int) = 0
    rw [PyData.depthAll, ints_depth r]; rfl
theorem data_script {s : Nat} (hs : m[s]? = some (.frz (ns.map .int))) : data m (.ref s) = some (.list (ns.map .int)) := by
  have e : toP m 12 (.ref s) = some (.list (ns.map .int)) := by
    simp only [toP, toPd, Mp.listAt, hs, Option.bind_some]
    rw [toPds_ints]; rfl
  unfold data
  rw [e, Option.bind_some]
  have : SeqAt.shaped (.list (ns.map .int)) = true := by
    simp [SeqAt.shaped, PyData.canLay0, ints_can, PyData.depth, ints_depth]
  rw [if_pos this]
theorem data_nil {i : Nat} (hs : m[i]? = some (.lst [])) : data m (.ref i) = some (.list []) := by
  simp [data, toP, toPd, Mp.listAt, hs, toPds, SeqAt.shaped, PyData.canLay0, PyData.canLayAll0, PyData.depth, PyData.depthAll]
def loopN : Mp.Ss := (.cons (.set (.nm 4) (.bin .fdiv (.var 4) (.cst (.int 1009)))) .nil)
def tailN : Mp.Ss := 
  (.cons (.ifs (.cmp .gt (.var 4) (.cst (.int 0))) 
    (.cons (.ret (.bin .mod (.blt "int" (.cons false (.var 4) .nil)) (.cst (.int 1009)))) .nil) .nil) 
  (.cons (.set (.nm 6) (.bin .mod (.bin .add (.bin .mul (.blt "int" (.cons false (.bin .add (.var 2) (.bin .mul (.cst (.int 977)) (.var 1))) .nil)) (.cst (.int 48271))) (.bin .mul (.cst (.int 31)) (.blt "len" (.cons false (.var 0) .nil)))) (.cst (.int 2147483647)))) 
  (.cons (.set (.nm 6) (.bin .mod (.bin .add (.bin .mul (.var 6) (.var 6)) (.bin .mul (.cst (.int 40503)) (.var 1))) (.cst (.int 2147483629)))) 
  (.cons (.ret (.blt "int" (.cons false (.bin .mod (.bin .add (.bin .mul (.var 6) (.cst (.int 69621))) (.bin .fdiv (.var 6) (.cst (.int 977)))) (.cst (.int 2147483587))) .nil))) .nil))))
theorem b_number_eq : b_u_law_number = 
  (.cons (.set (.tu [.nm 2, .nm 3]) (.ife (.cmp .ne (.var 0) (.lst .nil)) (.tup (.cons false (.idx (.var 0) (.bin .mod (.var 1) (.blt "len" (.cons false (.var 0) .nil)))) (.cons false (.bin .fdiv (.var 1) (.blt "len" (.cons false (.var 0) .nil))) .nil))) (.tup (.cons false (.cst (.int 12345)) (.cons false (.cst (.int 0)) .nil))))) 
  (.cons (.set (.nm 4) (.ife (.cmp .lt (.var 3) (.cst (.int 60))) (.bin .sub (.var 2) (.bin .pow (.cst (.int 10)) (.cst (.int 18)))) (.cst (.int 0)))) 
  (.cons (.for_ (.nm 5) (.rng1 (.bin .mod (.blt "int" (.cons false (.var 3) .nil)) (.cst (.int 60)))) loopN) tailN))) := rfl
theorem bin_int (op : Bop) (i j : Int) : binD op (.int i) (.int j) m = some1 ((Mp.binI op i j).map .int) m := rfl
theorem int_bltin (i : Int) : bltin "int" [.int i] m = .ok (.int i) m := by
  simp [bltin]
theorem tail_number {W : Wd} {exf : Str → Option Str} {sub : Str → Str → Bool} (hW : W.hot = false) {len : Int} (hl : lenD m (.ref s) = some len) (c t rest : Int) (x y : Option D) : ∃ q : Int, 0 ≤ q ∧
    evSs W exf sub tailN [some (.ref s), some (.int j), some (.int c), some (.int t), some (.int rest), x, y] m = .rt (.int q) m := by
  by_cases h : 0 < rest
  · refine ⟨Int.fmod rest 1009, Int.fmod_nonneg_of_pos _ (by decide), ?_⟩
    simp [tailN, evSs, evS, evE, evEs, hW, cstD, h, int_bltin, bin_int, Mp.binI]
  · let b1 := Int.fmod ((c + 977 * j) * 48271 + 31 * len) 2147483647
    have hb1 : 0 ≤ b1 ∧ b1 < 2147483647 := ⟨Int.fmod_nonneg_of_pos _ (by decide), Int.fmod_lt_of_pos _ (by decide)⟩
    have hb : big b1 = true := by simp [big]; omega
    let b2 := Int.fmod (b1 * b1 + 40503 * j) 2147483629
    refine ⟨Int.fmod (b2 * 69621 + Int.fdiv b2 977) 2147483587, Int.fmod_nonneg_of_pos _ (by decide), ?_⟩
    have g1 : big 48271 = true := by decide
    have g2 : big 977 = true := by decide
    have g3 : big 31 = true := by decide
    have g4 : big 40503 = true := by decide
    have g5 : big 69621 = true := by decide
    simp [tailN, evSs, evS, evE, evEs, hW, cstD, h, int_bltin, bin_int, Mp.binI, g1, g2, g3, g4, g5, setT, bltin_len hl]
    have : Int.fmod ((c + 977 * j) * 48271 + 31 * len) 2147483647 = b1 := rfl
    rw [this]
    simp [hb, bin_int, Mp.binI, g5, evSs, evS, evE, evEs, hW, setT, int_bltin]
    rfl
theorem loop_number {W : Wd} {exf : Str → Option Str} {sub : Str → Str → Bool} (hW : W.hot = false) (c t : Int) : ∀ (n : Nat) (i rest : Int) (x y : Option D), ∃ rest' x',
    loopS [] (fun d ρ m => match setT (.nm 5) d ρ with
      | some ρ' => evSs W exf sub loopN ρ' m
      | none => .bad) (count n i) [some (.ref s), some (.int j), some (.int c), some (.int t), some (.int rest), x, y] m = .nx [some (.ref s), some (.int j), some (.int c), some (.int t), some (.int rest'), x', y] m
  | 0, i, rest, x, y => ⟨rest, x, rfl⟩
  | n + 1, i, rest, x, y => by
    obtain ⟨r', x', e⟩ := loop_number (exf := exf) (sub := sub) hW c t n (i + 1) (Int.fdiv rest 1009) (some (.int i)) y
    refine ⟨r', x', ?_⟩
    rw [← e]
    simp [Mp.count, loopS, still, setT, loopN, evSs, evS, evE, hW, cstD, bin_int, Mp.binI]
theorem number_ok (h : HasDraw T) {k : Nat} (d : Dr m r s ns j) : ∃ q : Int, 0 ≤ q ∧ callD T (k + 1) ("_law_number", none) [.ref s, .int j] m = .ok (.int q) m := by
  have hsc : (m ++ [O.lst []])[s]? = some (.frz (ns.map .int)) := (d.app [.lst []]).sc
  have e0 : eqD (m ++ [.lst []]) (.ref s) (.ref m.length) = some (PyData.eqv (.list (ns.map .int)) (.list [])) := by
    exact eqD_data (data_script hsc) (data_nil (get_end m (.lst []) []))
  have ho : ownAt (m ++ [.lst []]) (.ref s) = none := by simp [ownAt, hsc]
  have c0 := cmp_neD (W := wd T k) ho e0
  have hl : lenD (m ++ [.lst []]) (.ref s) = some (ns.length : Int) := by simp [lenD, hsc]
  have h2 : ∃ c t : Int, 0 ≤ t ∧ evE (wd T k) (.ife (.cmp .ne (.var 0) (.lst .nil)) (.tup (.cons false (.idx (.var 0) (.bin .mod (.var 1) (.blt "len" (.cons false (.var 0) .nil)))) (.cons false (.bin .fdiv (.var 1) (.blt "len" (.cons false (.var 0) .nil))) .nil))) (.tup (.cons false (.cst (.int 12345)) (.cons false (.cst (.int 0)) .nil)))) [some (.ref s), some (.int j), none, none, none, none, none] m = .ok (.tup [.int c, .int t]) (m ++ [.lst []]) := by
    cases hns : ns with
    | nil =>
      rw [hns] at c0
      refine ⟨12345, 0, by decide, ?_⟩
      simp [evE, evEs, newL, c0, PyData.eqv, PyData.eqvAll, cstD, tupR, len2]
    | cons n0 nr =>
      have hp : 0 < (ns.length : Int) := by rw [hns]; simp
      have hlt : (ns.length : Int) ≠ 0 := by omega
      have hbig : (ns.length : Int).natAbs < 1073741824 := by have := d.len; omega
      have f0 := Int.fmod_nonneg_of_pos j hp
      have f1 := Int.fmod_lt_of_pos j hp
      have hg : ∃ c, ns[(Int.fmod j ns.length).toNat]? = some c := by
        have : (Int.fmod j ns.length).toNat < ns.length := by omega
        exact ⟨_, List.getElem?_eq_getElem this⟩
      obtain ⟨c, hc⟩ := hg
      refine ⟨c, Int.fdiv j ns.length, ?_, ?_⟩
      · exact Int.fdiv_nonneg d.pos (by omega)
      have ix : idxD (.ref s) (.int (Int.fmod j ns.length)) (m ++ [.lst []]) = some (.int c) := by
        have la : Mp.listAt (m ++ [O.lst []]) s = some (ns.map .int) := by simp [Mp.listAt, hsc]
        simp [idxD, idxR, la, at_, f0, hc]
      have hev : PyData.eqv (.list (ns.map .int)) (.list []) = false := by rw [hns]; rfl
      rw [hev] at c0
      have hz : ns ≠ [] := by rw [hns]; simp
      simp [evE, evEs, newL, c0, bltin_len hl, bin_int, Mp.binI, hlt, show ns.length < 1073741824 from by omega, hz, ix, tupR, len2]
  obtain ⟨c, t, ht, h2⟩ := h2
  rw [callD_succ, h.number]
  have p18 : binD .pow (.int 10) (.int 18) (m ++ [.lst []]) = .ok (.int 1000000000000000000) (m ++ [.lst []]) := rfl
  obtain ⟨rest, h3⟩ : ∃ rest : Int, evE (wd T k) (.ife (.cmp .lt (.var 3) (.cst (.int 60))) (.bin .sub (.var 2) (.bin .pow (.cst (.int 10)) (.cst (.int 18)))) (.cst (.int 0))) [some (.ref s), some (.int j), some (.int c), some (.int t), none, none, none] (m ++ [.lst []]) = .ok (.int rest) (m ++ [.lst []]) := by
    by_cases z : t < 60
    · exact ⟨c - 1000000000000000000, by simp [evE, cstD, z, p18]⟩
    · exact ⟨0, by simp [evE, cstD, z]⟩
  have f0 := Int.fmod_nonneg_of_pos t (show (0 : Int) < 60 by decide)
  have f1 := Int.fmod_lt_of_pos t (show (0 : Int) < 60 by decide)
  have rg : rngOk (Int.fmod t 60) = true := by simp [rngOk]; omega
  obtain ⟨rest', x', h4⟩ := loop_number (W := wd T k) (exf := T.exf) (sub := T.sub) (j := j) (s := s) (m := m ++ [.lst []]) wd_hot c t (Int.fmod t 60).toNat 0 rest none none
  obtain ⟨q, hq, h5⟩ := tail_number (W := wd T k) (exf := T.exf) (sub := T.sub) (j := j) (m := m ++ [.lst []]) wd_hot hl c t rest' x' none
  refine ⟨q, hq, ?_⟩
  have hgc := gc_pure (Old.refl m) [.lst []] (d := .int q) rfl
  simp only [d_u_law_number, b_number_eq]
  simp only [List.length_cons, List.length_nil, if_true, startE, List.map_cons, List.map_nil, List.replicate, List.cons_append, List.nil_append]
  rw [evSs, evS, h2]
  simp only [wd_hot, Bool.false_and, Bool.false_eq_true, if_false, thenS_ok, setT, List.set, seqS_nx]
  rw [evSs, evS, h3]
  simp only [wd_hot, Bool.false_and, Bool.false_eq_true, if_false, thenS_ok, setT, List.set, seqS_nx]
  rw [evSs, evS]
  simp [evI, evE, evEs, int_bltin, cstD, bin_int, Mp.binI, rg]
  erw [h4]
  simp only [seqS_nx]
  rw [h5]
  simp [hgc]
theorem take_ok (h : HasDraw T) {k : Nat} (d : Dr m r s ns j) {n : Int} (hn : 0 < n) : ∃ q : Int, 0 ≤ q ∧ q < n ∧ callD T (k + 2) ("_law_take", none) [.ref r, .int n] m = .ok (.int q) (up m r s (j + 1)) := by
  have d' := d.up (j' := j + 1) (by have := d.pos; omega)
  obtain ⟨q, hq, e⟩ := number_ok h (k := k) d'
  refine ⟨Int.fmod q n, Int.fmod_nonneg_of_pos _ hn, Int.fmod_lt_of_pos _ hn, ?_⟩
  rw [callD_succ, h.take]
  have hr := d.rlt
  have g1 : getD (.ref r) (.int 1) m = some (.int j) := by simp [getD, d.at_]
  have s1 : setI (.ref r) (.int 1) (.int (j + 1)) m = some (up m r s (j + 1)) := by simp [setI, d.at_, up]
  have i0 : idxD (.ref r) (.int 0) (up m r s (j + 1)) = some (.ref s) := by
    have : rowAt (up m r s (j + 1)) (.ref r) = some [.ref s, .int (j + 1)] := rowAt_of d'.at_
    rw [rowAt_idx this 0 (by decide)]; rfl
  have i1 : idxD (.ref r) (.int 1) (up m r s (j + 1)) = some (.int (j + 1)) := by
    have : rowAt (up m r s (j + 1)) (.ref r) = some [.ref s, .int (j + 1)] := rowAt_of d'.at_
    rw [rowAt_idx this 1 (by decide)]; rfl
  have hgc := gc_pure (d.old (j + 1)) [] (d := .int (Int.fmod q n)) rfl
  simp only [List.append_nil] at hgc
  have hn0 : n ≠ 0 := by omega
  simp [d_u_law_take, b_u_law_take, evSs, evS, evE, evEs, startE, cstD, g1, augD, s1, optS, i0, i1, int_bltin, h.number, e, bin_int, Mp.binI, hn0, hgc]
theorem pick_ok (h : HasDraw T) {k : Nat} (d : Dr m r s ns j) {x : D} {ds : List D} (hx : rowAt m x = some ds) (hx' : rowAt (up m r s (j + 1)) x = some ds) (h0 : ds ≠ []) (hp : refsDs ds = []) : ∃ v ∈ ds, callD T (k + 3) ("_law_pick", none) [.ref r, x] m = .ok v (up m r s (j + 1)) := by
  have hl := rowAt_len hx
  have hpos : 0 < (ds.length : Int) := by
    have := List.length_pos_iff.mpr h0; omega
  obtain ⟨q, hq, hq2, e⟩ := take_ok h (k := k) d hpos
  have hlt : q.toNat < ds.length := by omega
  refine ⟨ds[q.toNat], List.getElem_mem hlt, ?_⟩
  rw [callD_succ, h.pick]
  have ix := rowAt_idx hx' q hq
  rw [List.getElem?_eq_getElem hlt] at ix
  have hv : refsD ds[q.toNat] = [] := by
    have : ∀ (l : List D), refsDs l = [] → ∀ x ∈ l, refsD x = [] := by
      intro l
      induction l with
      | nil => intro _ x hx; cases hx
      | cons a r ih =>
        intro hl x hx
        have hl : refsD a = [] ∧ refsDs r = [] := by simpa [refsDs] using hl
        rcases List.mem_cons.mp hx with rfl | hx
        · exact hl.1
        · exact ih hl.2 x hx
    exact this ds hp _ (List.getElem_mem hlt)
  have hgc := gc_pure (d.old (j + 1)) [] hv
  simp only [List.append_nil] at hgc
  simp [d_u_law_pick, b_u_law_pick, evSs, evS, evE, evEs, startE, bltin_len hl, h.take, e, ix, hgc]
end
end Pg

set_option Elab.async false
set_option linter.all false
set_option maxRecDepth 100000
set_option maxHeartbeats 2000000
/-! Drawn expressions, conditions. -/
namespace Pg
open PySem PySem.Spec PyProof.Rows L2 Mp
structure OkE (v : Int) (l : Bool) (n : Nat) (c : D) : Prop where
  pu : Pu c
  sm : sm c = true
  dep : dep c ≤ n
  ok : ∀ n', n ≤ n' → ∀ pl, cE v l n' c pl = none
theorem okS (s : Str) (h : PyData.strOk s = true) : Pu (.str s) := ⟨rfl, h⟩
theorem pus1 {a : D} (ha : Pu a) : Pu (.tup [a]) := by
  simp only [Pu, Rp, Rps, rowAt]
  exact ⟨_, rfl, _, _, rfl, ha, rfl⟩
theorem pus4 {a b c d : D} (ha : Pu a) (hb : Pu b) (hc : Pu c) (hd : Pu d) : Pu (.tup [a, b, c, d]) := by
  simp only [Pu, Rp, Rps, rowAt]
  exact ⟨_, rfl, _, _, rfl, ha, _, _, rfl, hb, _, _, rfl, hc, _, _, rfl, hd, rfl⟩
theorem okE_letter (v : Int) : OkE v true 1 (.tup [.str "letter"]) := ⟨pus1 (okS _ (by decide +kernel)), by decide, by decide, fun n' h pl => by
  obtain ⟨n, rfl⟩ : ∃ n, n' = n + 1 := ⟨n' - 1, by omega⟩
  simp [cE]⟩
theorem okE_number (v : Int) (l : Bool) {q : Int} (h0 : 0 ≤ q) (h3 : q ≤ 3) : OkE v l 1 (.tup [.str "number", .int q]) := ⟨pus2 (okS _ (by decide +kernel)) rfl, by simp [sm, sms], by simp [dep, deps], fun n' h pl => by
  obtain ⟨n, rfl⟩ : ∃ n, n' = n + 1 := ⟨n' - 1, by omega⟩
  simp [cE, okNum, isN, h0, h3]⟩
theorem okE_var (v : Int) (l : Bool) {q : Int} (h0 : 0 ≤ q) (h3 : q < v) : OkE v l 1 (.tup [.str "var", .int q]) := ⟨pus2 (okS _ (by decide +kernel)) rfl, by simp [sm, sms], by simp [dep, deps], fun n' h pl => by
  obtain ⟨n, rfl⟩ : ∃ n, n' = n + 1 := ⟨n' - 1, by omega⟩
  simp [cE, okVar, isB, h0, h3]⟩
theorem OkE.mono {v : Int} {l : Bool} {n n' : Nat} {c : D} (h : OkE v l n c) (hn : n ≤ n') : OkE v l n' c := ⟨h.pu, h.sm, Nat.le_trans h.dep hn, fun k hk => h.ok k (Nat.le_trans hn hk)⟩
theorem okE_sum {v : Int} {l : Bool} {n : Nat} {s : Str} {a b : D} (hs : s = "plus" ∨ s = "times") (ha : OkE v l n a) (hb : OkE v l n b) : OkE v l (n + 1) (.tup [.str s, a, b]) := ⟨pus3 (okS _ (by rcases hs with rfl | rfl <;> decide +kernel)) ha.pu hb.pu, by simp [sm, sms, ha.sm, hb.sm], by simp [dep, deps]; have := ha.dep; have := hb.dep; omega, fun n' h pl => by
  obtain ⟨k, rfl⟩ : ∃ k, n' = k + 1 := ⟨n' - 1, by omega⟩
  have e1 := ha.ok k (by omega)
  have e2 := hb.ok k (by omega)
  rcases hs with rfl | rfl <;> simp [cE, orX, e1, e2]⟩
structure HasDrawn (T : Tab) : Prop extends HasDraw T where
  expression : T.df ("_law_expression", none) = some d_u_law_expression
  condition : T.df ("_law_condition", none) = some d_u_law_condition
  steps : T.df ("_law_steps", none) = some d_u_law_steps
def tailE : Mp.Ss := 
  (.cons (.ifs (.and (.cmp .lt (.var 4) (.cst (.int 3))) (.cmp .gt (.var 1) (.cst (.int 0)))) 
    (.cons (.ret (.tup (.cons false (.cst (.str "var")) (.cons false (.call "_law_take" (.cons false (.var 0) (.cons false (.var 1) .nil))) .nil)))) .nil) .nil) 
  (.cons (.ret (.ife (.and (.var 2) (.cmp .gt (.var 4) (.cst (.int 3)))) (.tup (.cons false (.cst (.str "letter")) .nil)) (.tup (.cons false (.cst (.str "number")) (.cons false (.call "_law_take" (.cons false (.var 0) (.cons false (.cst (.int 3)) .nil))) .nil))))) .nil))
theorem b_expression_eq : b_u_law_expression = 
  (.cons (.set (.nm 4) (.call "_law_take" (.cons false (.var 0) (.cons false (.cst (.int 7)) .nil)))) 
  (.cons (.ifs (.and (.cmp .eq (.var 4) (.cst (.int 6))) (.cmp .gt (.var 3) (.cst (.int 1)))) 
    (.cons (.ret (.tup (.cons false (.call "_law_pick" (.cons false (.var 0) (.cons false (.lst (.cons false (.cst (.str "plus")) (.cons false (.cst (.str "plus")) (.cons false (.cst (.str "times")) .nil)))) .nil))) (.cons false (.call "_law_expression" (.cons false (.var 0) (.cons false (.var 1) (.cons false (.var 2) (.cons false (.bin .sub (.var 3) (.cst (.int 1))) .nil))))) (.cons false (.call "_law_expression" (.cons false (.var 0) (.cons false (.var 1) (.cons false (.var 2) (.cons false (.bin .sub (.var 3) (.cst (.int 1))) .nil))))) .nil))))) .nil) .nil) 
  tailE)) := rfl
section
variable {T : Tab} {m : Mem} {r s : Nat} {ns : List Int} {j : Int}
/-- a draw's end: what is told, how many were drawn then -/
def Drawn (m : Mem) (r s : Nat) (x : R D) (P : D → Prop) : Prop := ∃ (c : D) (j' : Int), 0 ≤ j' ∧ x = .ok c (up m r s j') ∧ P c
theorem len1 : (1 : Nat) ≤ lim := lt_lim (by omega)
theorem tail_expression (h : HasDrawn T) {k : Nat} (d : Dr m r s ns j) {v q : Int} {l : Bool} (hv : 0 ≤ v) (x : Option D) : ∃ (c : D) (j' : Int), 0 ≤ j' ∧ OkE v l 1 c ∧
    evSs (wd T (k + 2)) T.exf T.sub tailE [some (.ref r), some (.int v), some (.bl l), x, some (.int q)] m = .rt c (up m r s j') := by
  have hw : ∀ g, (wd T (k + 2)).has g = (T.df g).isSome := fun g => rfl
  have hcl : (wd T (k + 2)).call = callD T (k + 2) := rfl
  have hj := d.pos
  by_cases z : q < 3 ∧ 0 < v
  · obtain ⟨p, p0, p1, e⟩ := take_ok h.toHasDraw (k := k) d z.2
    refine ⟨_, j + 1, by omega, okE_var v l p0 p1, ?_⟩
    simp [tailE, evSs, evS, evE, evEs, hw, hcl, h.take, cstD, z.1, z.2, e, tupR, len2]
  · by_cases y : l = true ∧ 3 < q
    · obtain ⟨rfl, y⟩ := y
      refine ⟨_, j, hj, okE_letter v, ?_⟩
      have : ¬ q < 3 := by omega
      simp [tailE, evSs, evS, evE, evEs, hw, hcl, h.take, cstD, y, this, tupR, len1, up_self d]
    · obtain ⟨p, p0, p1, e⟩ := take_ok h.toHasDraw (k := k) d (show (0 : Int) < 3 by decide)
      refine ⟨_, j + 1, by omega, okE_number v l p0 (by omega), ?_⟩
      have t1 : evE (wd T (k + 2)) (.and (.cmp .lt (.var 4) (.cst (.int 3))) (.cmp .gt (.var 1) (.cst (.int 0)))) [some (.ref r), some (.int v), some (.bl l), x, some (.int q)] m = .ok (.bl false) m := by
        by_cases z1 : q < 3
        · have z2 : ¬ 0 < v := fun z2 => z ⟨z1, z2⟩
          simp [evE, cstD, z1, z2]
        · simp [evE, cstD, z1]
      have t2 : evE (wd T (k + 2)) (.and (.var 2) (.cmp .gt (.var 4) (.cst (.int 3)))) [some (.ref r), some (.int v), some (.bl l), x, some (.int q)] m = .ok (.bl false) m := by
        cases l with
        | false => simp [evE]
        | true =>
          have z2 : ¬ 3 < q := fun z2 => y ⟨rfl, z2⟩
          simp [evE, cstD, z2]
      unfold tailE
      rw [evSs, evS, t1]
      simp only [truthR_ok, truthE_bl, evSs, seqS_nx]
      rw [evS, evE, t2]
      simp [evE, evEs, hw, hcl, h.take, cstD, e, tupR, len2]
theorem expression_ok (h : HasDrawn T) : ∀ (n k : Nat) {m : Mem} {j v : Int} {l : Bool}, Dr m r s ns j → 0 ≤ v →
    Drawn m r s (callD T (n + (k + 4)) ("_law_expression", none) [.ref r, .int v, .bl l, .int ((n : Int) + 1)] m) (OkE v l (n + 1))
  | 0, k, m, j, v, l, d, hv => by
    rw [show 0 + (k + 4) = (k + 3) + 1 from by omega, callD_succ, h.expression]
    obtain ⟨q, q0, q1, e⟩ := take_ok h.toHasDraw (k := k + 1) d (show (0 : Int) < 7 by decide)
    have hj := d.pos
    have d1 := d.up (j' := j + 1) (by omega)
    obtain ⟨c, j', hj', ok, e2⟩ := tail_expression h (k := k + 1) d1 (q := q) (l := l) hv (some (.int 1))
    refine ⟨c, j', hj', ?_, ok⟩
    rw [up_up] at e2
    have hgc := gc_pure (d.old j') [] (Pu.refs ok.pu)
    simp only [List.append_nil] at hgc
    by_cases z : q = 6
    · subst z
      simp [d_u_law_expression, b_expression_eq, evSs, evS, evE, evEs, startE, h.take, cstD, e, setT]
      rw [e2]
      simp [hgc]
    · simp [d_u_law_expression, b_expression_eq, evSs, evS, evE, evEs, startE, h.take, cstD, e, setT, z]
      rw [e2]
      simp [hgc]
  | n + 1, k, m, j, v, l, d, hv => by
    rw [show n + 1 + (k + 4) = (n + (k + 4)) + 1 from by omega, callD_succ, h.expression]
    obtain ⟨q, q0, q1, e⟩ := take_ok h.toHasDraw (k := n + k + 2) d (show (0 : Int) < 7 by decide)
    have hw : ∀ g, (wd T (n + (k + 4))).has g = (T.df g).isSome := fun g => rfl
    have hcl : (wd T (n + (k + 4))).call = callD T (n + (k + 4)) := rfl
    rw [show n + k + 2 + 2 = n + (k + 4) from by omega] at e
    have hj := d.pos
    have d1 := d.up (j' := j + 1) (by omega)
    have hn2 : ((n + 1 : Nat) : Int) + 1 - 1 = (n : Int) + 1 := by omega
    have hn3 : (1 : Int) < (n : Int) + 1 + 1 := by omega
    by_cases z : q = 6
    · let M := up m r s (j + 1) ++ [O.lst [.str "plus", .str "plus", .str "times"]]
      have dM : Dr M r s ns (j + 1) := d1.app _
      have hxr : (up m r s (j + 1)).length ≠ r := by
        have := d1.rlt; omega
      have rx : rowAt M (.ref (up m r s (j + 1)).length) = some [.str "plus", .str "plus", .str "times"] := rowAt_of (get_end _ _ [])
      have rx' : rowAt (up M r s (j + 1 + 1)) (.ref (up m r s (j + 1)).length) = some [.str "plus", .str "plus", .str "times"] := by
        rw [up_app d1]
        have := get_end (up (up m r s (j + 1)) r s (j + 1 + 1)) (O.lst [.str "plus", .str "plus", .str "times"]) []
        rw [up_len] at this
        exact rowAt_of this
      obtain ⟨x, hx, ep⟩ := pick_ok h.toHasDraw (k := n + k + 1) dM rx rx' (by simp) rfl
      rw [show n + k + 1 + 3 = n + (k + 4) from by omega, up_app d1, up_up] at ep
      have hx' : ∃ t : Str, x = .str t ∧ (t = "plus" ∨ t = "times") := by
        simp only [List.mem_cons, List.not_mem_nil, or_false] at hx
        rcases hx with rfl | rfl | rfl
        · exact ⟨_, rfl, .inl rfl⟩
        · exact ⟨_, rfl, .inl rfl⟩
        · exact ⟨_, rfl, .inr rfl⟩
      obtain ⟨t, rfl, ht⟩ := hx'
      have d2 : Dr (up m r s (j + 1 + 1) ++ [O.lst [.str "plus", .str "plus", .str "times"]]) r s ns (j + 1 + 1) := (d.up (by omega)).app _
      obtain ⟨c1, j1, hj1, e1, ok1⟩ := expression_ok h n k (l := l) d2 hv
      rw [up_app (d.up (by omega)), up_up] at e1
      have d3 : Dr (up m r s j1 ++ [O.lst [.str "plus", .str "plus", .str "times"]]) r s ns j1 := (d.up hj1).app _
      obtain ⟨c2, j2, hj2, e2, ok2⟩ := expression_ok h n k (l := l) d3 hv
      rw [up_app (d.up hj1), up_up] at e2
      have okk := okE_sum ht ok1 ok2
      refine ⟨_, j2, hj2, ?_, okk⟩
      have hgc := gc_pure (d.old j2) [O.lst [.str "plus", .str "plus", .str "times"]] (Pu.refs okk.pu)
      simp [d_u_law_expression, b_expression_eq, evSs, evS, evE, evEs, startE, hw, hcl, h.take, h.pick, h.expression, cstD, e, setT, z, hn3, newL, len3]
      simp only [M] at ep
      simp [ep, e1, e2, hgc, tupR, len3]
    · obtain ⟨c, j', hj', ok, e2⟩ := tail_expression h (k := n + k + 2) d1 (q := q) (l := l) hv (some (.int (((n + 1 : Nat) : Int) + 1)))
      refine ⟨c, j', hj', ?_, ok.mono (by omega)⟩
      rw [up_up, show n + k + 2 + 2 = n + (k + 4) from by omega] at e2
      have hgc := gc_pure (d.old j') [] (Pu.refs ok.pu)
      simp only [List.append_nil] at hgc
      simp [d_u_law_expression, b_expression_eq, evSs, evS, evE, evEs, startE, hw, hcl, h.take, cstD, e, setT, z]
      simp at e2
      rw [e2]
      simp [hgc]
end
end Pg

set_option Elab.async false
set_option linter.all false
set_option maxRecDepth 100000
set_option maxHeartbeats 2000000
/-! Drawn conditions. -/
namespace Pg
open PySem PySem.Spec PyProof.Rows L2 Mp
structure OkC (v : Int) (l : Bool) (n : Nat) (c : D) : Prop where
  pu : Pu c
  sm : sm c = true
  dep : dep c ≤ n + 2
  ok : ∀ n', n ≤ n' → ∀ pl, cC v l n' c pl = none
theorem OkC.mono {v : Int} {l : Bool} {n n' : Nat} {c : D} (h : OkC v l n c) (hn : n ≤ n') : OkC v l n' c := ⟨h.pu, h.sm, by have := h.dep; omega, fun k hk => h.ok k (Nat.le_trans hn hk)⟩
theorem okC_test {v : Int} {l : Bool} {s : Str} {a b : D} (hs : s = "less" ∨ s = "same") (ha : OkE v l 2 a) (hb : OkE v l 2 b) : OkC v l 1 (.tup [.str s, a, b]) := ⟨pus3 (okS _ (by rcases hs with rfl | rfl <;> decide +kernel)) ha.pu hb.pu, by simp [sm, sms, ha.sm, hb.sm], by simp [dep, deps]; have := ha.dep; have := hb.dep; omega, fun n' h pl => by
  obtain ⟨k, rfl⟩ : ∃ k, n' = k + 1 := ⟨n' - 1, by omega⟩
  have e1 := ha.ok 3 (by omega)
  have e2 := hb.ok 3 (by omega)
  rcases hs with rfl | rfl <;> simp [cC, orX, e1, e2]⟩
theorem okC_not {v : Int} {l : Bool} {n : Nat} {a : D} (ha : OkC v l n a) : OkC v l (n + 1) (.tup [.str "not", a]) := ⟨pus2 (okS _ (by decide +kernel)) ha.pu, by simp [sm, sms, ha.sm], by simp [dep, deps]; have := ha.dep; omega, fun n' h pl => by
  obtain ⟨k, rfl⟩ : ∃ k, n' = k + 1 := ⟨n' - 1, by omega⟩
  have e1 := ha.ok k (by omega)
  simp [cC, orX, e1]⟩
theorem okC_join {v : Int} {l : Bool} {n : Nat} {s : Str} {a b : D} (hs : s = "and" ∨ s = "or") (ha : OkC v l n a) (hb : OkC v l n b) : OkC v l (n + 1) (.tup [.str s, a, b]) := ⟨pus3 (okS _ (by rcases hs with rfl | rfl <;> decide +kernel)) ha.pu hb.pu, by simp [sm, sms, ha.sm, hb.sm], by simp [dep, deps]; have := ha.dep; have := hb.dep; omega, fun n' h pl => by
  obtain ⟨k, rfl⟩ : ∃ k, n' = k + 1 := ⟨n' - 1, by omega⟩
  have e1 := ha.ok k (by omega)
  have e2 := hb.ok k (by omega)
  rcases hs with rfl | rfl <;> simp [cC, orX, e1, e2]⟩
section
variable {T : Tab} {m : Mem} {r s : Nat} {ns : List Int} {j : Int}
theorem less_same (q : Int) (h0 : 0 ≤ q) (h1 : q < 6) : ∃ t : Str, idxD (.tup [.str "less", .str "same"]) (.int (Int.fmod q 2)) m = some (.str t) ∧ (t = "less" ∨ t = "same") := by
  have f0 := Int.fmod_nonneg_of_pos q (show (0 : Int) < 2 by decide)
  have f1 := Int.fmod_lt_of_pos q (show (0 : Int) < 2 by decide)
  have : Int.fmod q 2 = 0 ∨ Int.fmod q 2 = 1 := by omega
  rcases this with e | e <;> rw [e]
  · exact ⟨_, rfl, .inl rfl⟩
  · exact ⟨_, rfl, .inr rfl⟩
theorem condition_ok (h : HasDrawn T) : ∀ (n k : Nat) {m : Mem} {j v : Int} {l : Bool}, Dr m r s ns j → 0 ≤ v →
    Drawn m r s (callD T (n + (k + 6)) ("_law_condition", none) [.ref r, .int v, .bl l, .int ((n : Int) + 1)] m) (OkC v l (n + 1))
  | n, k, m, j, v, l, d, hv => by
    rw [show n + (k + 6) = (n + k + 5) + 1 from by omega, callD_succ, h.condition]
    obtain ⟨q, q0, q1, e⟩ := take_ok h.toHasDraw (k := n + k + 3) d (show (0 : Int) < 6 by decide)
    have hw : ∀ g, (wd T (n + k + 5)).has g = (T.df g).isSome := fun g => rfl
    have hcl : (wd T (n + k + 5)).call = callD T (n + k + 5) := rfl
    rw [show n + k + 3 + 2 = n + k + 5 from by omega] at e
    have hj := d.pos
    have d1 := d.up (j' := j + 1) (by omega)
    by_cases z : q < 4 ∨ n = 0
    · obtain ⟨t, et, ht⟩ := less_same (m := up m r s (j + 1)) q q0 q1
      obtain ⟨c1, j1, hj1, e1, ok1⟩ := expression_ok h 0 (n + k + 1) (l := l) d1 hv
      rw [up_up, show 0 + (n + k + 1 + 4) = n + k + 5 from by omega] at e1
      have d2 := d.up hj1
      obtain ⟨c2, j2, hj2, e2, ok2⟩ := expression_ok h 1 (n + k) (l := l) d2 hv
      rw [up_up, show 1 + (n + k + 4) = n + k + 5 from by omega] at e2
      have okk := okC_test ht (ok1.mono (by omega)) ok2
      have hgc := gc_pure (d.old j2) [] (Pu.refs okk.pu)
      simp only [List.append_nil] at hgc
      refine ⟨_, j2, hj2, ?_, okk.mono (by omega)⟩
      have e1 : callD T (n + k + 5) ("_law_expression", none) [.ref r, .int v, .bl l, .int 1] (up m r s (j + 1)) = .ok c1 (up m r s j1) := e1
      have e2 : callD T (n + k + 5) ("_law_expression", none) [.ref r, .int v, .bl l, .int 2] (up m r s j1) = .ok c2 (up m r s j2) := e2
      have hd : ((n : Int) + 1 < 2) = (n = 0) := by simp; omega
      rcases z with z | z
      · simp [d_u_law_condition, b_u_law_condition, evSs, evS, evE, evEs, startE, hw, hcl, h.take, h.expression, cstD, e, setT, z, tupR, len2, bin_int, Mp.binI, et, e1, e2, len3, hgc]
      · by_cases z4 : q < 4
        · simp [d_u_law_condition, b_u_law_condition, evSs, evS, evE, evEs, startE, hw, hcl, h.take, h.expression, cstD, e, setT, z4, tupR, len2, bin_int, Mp.binI, et, e1, e2, len3, hgc]
        · have hd' : ((n : Int) + 1 < 2) = True := by simp; omega
          simp [d_u_law_condition, b_u_law_condition, evSs, evS, evE, evEs, startE, hw, hcl, h.take, h.expression, cstD, e, setT, z4, hd', tupR, len2, bin_int, Mp.binI, et, len3, e1, e2, hgc]
    · have z4 : ¬ q < 4 := fun y => z (.inl y)
      have zn : n ≠ 0 := fun y => z (.inr y)
      obtain ⟨n, rfl⟩ : ∃ n', n = n' + 1 := ⟨n - 1, by omega⟩
      have hd : ((n : Int) + 1 + 1 < 2) = False := by simp; omega
      have hd1 : (n : Int) + 1 + 1 - 1 = (n : Int) + 1 := by omega
      by_cases z5 : q = 4
      · obtain ⟨c1, j1, hj1, e1, ok1⟩ := condition_ok h n k (l := l) d1 hv
        rw [up_up, show n + (k + 6) = n + 1 + k + 5 from by omega] at e1
        have okk := okC_not ok1
        have hgc := gc_pure (d.old j1) [] (Pu.refs okk.pu)
        simp only [List.append_nil] at hgc
        refine ⟨_, j1, hj1, ?_, okk⟩
        simp [d_u_law_condition, b_u_law_condition, evSs, evS, evE, evEs, startE, hw, hcl, h.take, h.condition, cstD, e, setT, z5, hd, hd1, tupR, len2, e1, hgc]
      · let M := up m r s (j + 1) ++ [O.lst [.str "and", .str "or"]]
        have dM : Dr M r s ns (j + 1) := d1.app _
        have rx : rowAt M (.ref (up m r s (j + 1)).length) = some [.str "and", .str "or"] := rowAt_of (get_end _ _ [])
        have rx' : rowAt (up M r s (j + 1 + 1)) (.ref (up m r s (j + 1)).length) = some [.str "and", .str "or"] := by
          rw [up_app d1]
          have := get_end (up (up m r s (j + 1)) r s (j + 1 + 1)) (O.lst [.str "and", .str "or"]) []
          rw [up_len] at this
          exact rowAt_of this
        obtain ⟨x, hx, ep⟩ := pick_ok h.toHasDraw (k := n + 1 + k + 2) dM rx rx' (by simp) rfl
        rw [show n + 1 + k + 2 + 3 = n + 1 + k + 5 from by omega, up_app d1, up_up] at ep
        have hx' : ∃ t : Str, x = .str t ∧ (t = "and" ∨ t = "or") := by
          simp only [List.mem_cons, List.not_mem_nil, or_false] at hx
          rcases hx with rfl | rfl
          · exact ⟨_, rfl, .inl rfl⟩
          · exact ⟨_, rfl, .inr rfl⟩
        obtain ⟨t, rfl, ht⟩ := hx'
        have d2 : Dr (up m r s (j + 1 + 1) ++ [O.lst [.str "and", .str "or"]]) r s ns (j + 1 + 1) := (d.up (by omega)).app _
        obtain ⟨c1, j1, hj1, e1, ok1⟩ := condition_ok h n k (l := l) d2 hv
        rw [up_app (d.up (by omega)), up_up, show n + (k + 6) = n + 1 + k + 5 from by omega] at e1
        have d3 : Dr (up m r s j1 ++ [O.lst [.str "and", .str "or"]]) r s ns j1 := (d.up hj1).app _
        obtain ⟨c2, j2, hj2, e2, ok2⟩ := condition_ok h n k (l := l) d3 hv
        rw [up_app (d.up hj1), up_up, show n + (k + 6) = n + 1 + k + 5 from by omega] at e2
        have okk := okC_join ht ok1 ok2
        refine ⟨_, j2, hj2, ?_, okk⟩
        have hgc := gc_pure (d.old j2) [O.lst [.str "and", .str "or"]] (Pu.refs okk.pu)
        simp only [M] at ep
        simp [d_u_law_condition, b_u_law_condition, evSs, evS, evE, evEs, startE, hw, hcl, h.take, h.condition, h.pick, cstD, e, setT, z4, z5, hd, hd1, tupR, newL, len2, len3, ep, e1, e2, hgc]
end
end Pg

set_option Elab.async false
set_option linter.all false
set_option maxRecDepth 100000
set_option maxHeartbeats 2000000
/-! Drawn rows of steps. -/
namespace Pg
open PySem PySem.Spec PyProof.Rows L2 Mp
def bd : Nat → Nat
  | 0 => 0
  | n + 1 => 2 * (1 + bd n)
structure OkT (v : Int) (l : Bool) (n : Nat) (c : D) : Prop where
  pu : Pu c
  sm : sm c = true
  dep : dep c ≤ 2 * n + 3
  ok : ∀ n', n ≤ n' → ∀ pl, stepS v l (cS v l n') c pl = none
  cn : ∀ n', n ≤ n' → ifN (cnt n') c ≤ bd n
structure OkS (v : Int) (l : Bool) (n most : Nat) (c : D) : Prop where
  row : ∃ cs, c = .tup cs ∧ cs.length ≤ most ∧ ∀ x ∈ cs, OkT v l n x
theorem Pus_all : ∀ {cs : List D}, (∀ x ∈ cs, Pu x) → Pus cs
  | [], _ => rfl
  | c :: r, h => by
    simp only [Pus, Rps]
    exact ⟨_, _, rfl, h c (List.mem_cons_self ..), Pus_all fun x hx => h x (List.mem_cons_of_mem _ hx)⟩
theorem pu_tup {cs : List D} (h : Pus cs) : Pu (.tup cs) := by
  simp only [Pu, Rp]
  exact ⟨_, rfl, h⟩
theorem sms_all : ∀ {cs : List D}, (∀ x ∈ cs, sm x = true) → sms cs = true
  | [], _ => rfl
  | c :: r, h => by
    simp only [sms, Bool.and_eq_true]
    exact ⟨h c (List.mem_cons_self ..), sms_all fun x hx => h x (List.mem_cons_of_mem _ hx)⟩
theorem deps_all {n : Nat} : ∀ {cs : List D}, (∀ x ∈ cs, dep x ≤ n) → deps cs ≤ n
  | [], _ => Nat.zero_le _
  | c :: r, h => by
    simp only [deps]
    have := h c (List.mem_cons_self ..)
    have := deps_all (n := n) fun x hx => h x (List.mem_cons_of_mem c hx)
    omega
theorem goS_all {f : D → List D → Option (List D)} : ∀ {cs : List D} {i : Nat} {pl : List D}, (∀ x ∈ cs, ∀ pl, f x pl = none) → goS f i cs pl = none
  | [], _, _, _ => rfl
  | c :: r, i, pl, h => by
    rw [goS, h c (List.mem_cons_self ..), goS_all fun x hx => h x (List.mem_cons_of_mem c hx)]; rfl
theorem sumIf_all {f : D → Nat} {n : Nat} : ∀ {cs : List D}, (∀ x ∈ cs, ifN f x ≤ n) → sumIf f cs ≤ cs.length * n
  | [], _ => by simp [sumIf]
  | c :: r, h => by
    have h1 := h c (List.mem_cons_self ..)
    have h2 := sumIf_all (n := n) fun x hx => h x (List.mem_cons_of_mem c hx)
    simp only [sumIf, List.length_cons, Nat.succ_mul]
    omega
section
variable {v : Int} {l : Bool} {n most : Nat} {c : D}
theorem OkS.pu (h : OkS v l n most c) : Pu c := by
  obtain ⟨cs, rfl, _, h⟩ := h.row
  exact pu_tup (Pus_all fun x hx => (h x hx).pu)
theorem OkS.sm (h : OkS v l n most c) (hm : most < 1000) : sm c = true := by
  obtain ⟨cs, rfl, hl, h⟩ := h.row
  simp [Pg.sm, sms_all fun x hx => (h x hx).sm]; omega
theorem OkS.dep (h : OkS v l n most c) : dep c ≤ 2 * n + 4 := by
  obtain ⟨cs, rfl, hl, h⟩ := h.row
  simp only [Pg.dep]
  have := deps_all fun x hx => (h x hx).dep
  omega
theorem OkS.ok (h : OkS v l n most c) {n' : Nat} (hn : n + 1 ≤ n') (pl : List D) : cS v l n' c pl = none := by
  obtain ⟨cs, rfl, hl, h⟩ := h.row
  obtain ⟨k, rfl⟩ : ∃ k, n' = k + 1 := ⟨n' - 1, by omega⟩
  exact goS_all fun x hx pl => (h x hx).ok k (by omega) pl
theorem OkS.cnt (h : OkS v l n most c) {n' : Nat} (hn : n + 1 ≤ n') : cnt n' c ≤ most * (1 + bd n) := by
  obtain ⟨cs, rfl, hl, h⟩ := h.row
  obtain ⟨k, rfl⟩ : ∃ k, n' = k + 1 := ⟨n' - 1, by omega⟩
  have := sumIf_all (f := Pg.cnt k) fun x hx => (h x hx).cn k (by omega)
  have e : Pg.cnt (k + 1) (.tup cs) = cs.length + sumIf (Pg.cnt k) cs := rfl
  rw [e]
  calc cs.length + sumIf (Pg.cnt k) cs ≤ cs.length + cs.length * bd n := by omega
    _ = cs.length * (1 + bd n) := by rw [Nat.mul_add, Nat.mul_one]
    _ ≤ most * (1 + bd n) := Nat.mul_le_mul_right _ hl
theorem okT_tell {a : D} (ha : OkE v l 2 a) : OkT v l n (.tup [.str "tell", a]) := ⟨pus2 (okS _ (by decide +kernel)) ha.pu, by simp [Pg.sm, sms, ha.sm], by simp [Pg.dep, deps]; have := ha.dep; omega, fun n' h pl => by
  have e1 := ha.ok 3 (by omega)
  simp [stepS, e1], fun n' h => by simp [ifN, ifParts]⟩
theorem okT_set {q : Int} {a : D} (q0 : 0 ≤ q) (q1 : q < v) (ha : OkE v l 2 a) : OkT v l n (.tup [.str "set", .int q, a]) := ⟨pus3 (okS _ (by decide +kernel)) rfl ha.pu, by simp [Pg.sm, sms, ha.sm], by simp [Pg.dep, deps]; have := ha.dep; omega, fun n' h pl => by
  have e1 := ha.ok 3 (by omega)
  simp [stepS, e1, isB, q0, q1], fun n' h => by simp [ifN, ifParts]⟩
theorem okT_if {a b c : D} (ha : OkC v l 2 a) (hb : OkS v l n 1 b) (hc : OkS v l n 1 c) : OkT v l (n + 1) (.tup [.str "if", a, b, c]) := ⟨pus4 (okS _ (by decide +kernel)) ha.pu hb.pu hc.pu, by simp [Pg.sm, sms, ha.sm, hb.sm (by omega), hc.sm (by omega)], by simp [Pg.dep, deps]; have := ha.dep; have := hb.dep; have := hc.dep; omega, fun n' h pl => by
  have e1 := ha.ok 3 (by omega)
  have e2 := fun pl => hb.ok h pl
  have e3 := fun pl => hc.ok h pl
  simp [stepS, orX, e1, e2, e3], fun n' h => by
  have e2 := hb.cnt h
  have e3 := hc.cnt h
  simp [ifN, ifParts, bd]; omega⟩
end
def bodyT : Mp.Ss := 
    (.cons (.set (.nm 7) (.call "_law_take" (.cons false (.var 0) (.cons false (.cst (.int 5)) .nil)))) 
    (.cons (.ifs (.and (.cmp .eq (.var 7) (.cst (.int 4))) (.cmp .gt (.var 3) (.cst (.int 1)))) 
      (.cons (.expr (.mth (.var 5) "append" (.cons false (.tup (.cons false (.cst (.str "if")) (.cons false (.call "_law_condition" (.cons false (.var 0) (.cons false (.var 1) (.cons false (.var 2) (.cons false (.cst (.int 2)) .nil))))) (.cons false (.call "_law_steps" (.cons false (.var 0) (.cons false (.var 1) (.cons false (.var 2) (.cons false (.bin .sub (.var 3) (.cst (.int 1))) (.cons false (.cst (.int 1)) .nil)))))) (.cons false (.call "_law_steps" (.cons false (.var 0) (.cons false (.var 1) (.cons false (.var 2) (.cons false (.bin .sub (.var 3) (.cst (.int 1))) (.cons false (.cst (.int 1)) .nil)))))) .nil))))) .nil))) .nil) 
      (.cons (.ifs (.and (.cmp .lt (.var 7) (.cst (.int 2))) (.cmp .gt (.var 1) (.cst (.int 0)))) 
        (.cons (.expr (.mth (.var 5) "append" (.cons false (.tup (.cons false (.cst (.str "set")) (.cons false (.call "_law_take" (.cons false (.var 0) (.cons false (.var 1) .nil))) (.cons false (.call "_law_expression" (.cons false (.var 0) (.cons false (.var 1) (.cons false (.var 2) (.cons false (.cst (.int 2)) .nil))))) .nil)))) .nil))) .nil) 
        (.cons (.expr (.mth (.var 5) "append" (.cons false (.tup (.cons false (.cst (.str "tell")) (.cons false (.call "_law_expression" (.cons false (.var 0) (.cons false (.var 1) (.cons false (.var 2) (.cons false (.cst (.int 2)) .nil))))) .nil))) .nil))) .nil)) .nil)) .nil))
theorem b_steps_eq : b_u_law_steps = 
  (.cons (.set (.nm 5) (.lst .nil)) 
  (.cons (.for_ (.nm 6) (.rng1 (.call "_law_take" (.cons false (.var 0) (.cons false (.bin .add (.var 4) (.cst (.int 1))) .nil)))) bodyT) 
  (.cons (.ret (.blt "tuple" (.cons false (.var 5) .nil))) .nil))) := rfl
section
variable {T : Tab} {m : Mem} {r s : Nat} {ns : List Int} {j : Int}
theorem mth_end {W : Wd} {acc : List D} (m : Mem) : mthAt W (.ref m.length) "append" (m ++ [.lst acc]) = .lst m.length := by
  simp [mthAt]
theorem app_end {acc : List D} (m : Mem) (x : D) (h : acc.length < lim) : mthL m.length "append" [x] (m ++ [.lst acc]) = .ok .non (m ++ [.lst (acc ++ [x])]) := by
  simp [mthL, h]
/-- one turn -/
theorem steps_turn (h : HasDrawn T) {n k : Nat} {v : Int} {l : Bool} (hv : 0 ≤ v)
    (IH : ∀ n0, n = n0 + 1 → ∀ {m : Mem} {j : Int}, Dr m r s ns j → Drawn m r s (callD T (n + k + 7) ("_law_steps", none) [.ref r, .int v, .bl l, .int ((n0 : Int) + 1), .int 1] m) (OkS v l n0 1))
    (d : Dr m r s ns j) {acc : List D} (hacc : acc.length < 999) (most x y : Option D) : ∃ (c : D) (j' : Int) (y' : Option D), 0 ≤ j' ∧ OkT v l n c ∧
      evSs (wd T (n + k + 7)) T.exf T.sub bodyT [some (.ref r), some (.int v), some (.bl l), some (.int ((n : Int) + 1)), most, some (.ref m.length), x, y] (m ++ [.lst acc]) =
        .nx [some (.ref r), some (.int v), some (.bl l), some (.int ((n : Int) + 1)), most, some (.ref m.length), x, y'] (up m r s j' ++ [.lst (acc ++ [c])]) := by
  have hw : ∀ g, (wd T (n + k + 7)).has g = (T.df g).isSome := fun g => rfl
  have hcl : (wd T (n + k + 7)).call = callD T (n + k + 7) := rfl
  have hj := d.pos
  have dA := d.app [.lst acc]
  obtain ⟨q, q0, q1, e⟩ := take_ok h.toHasDraw (k := n + k + 5) dA (show (0 : Int) < 5 by decide)
  rw [show n + k + 5 + 2 = n + k + 7 from by omega, up_app d] at e
  have d1 : Dr (up m r s (j + 1)) r s ns (j + 1) := d.up (by omega)
  have d1A := d1.app [.lst acc]
  have haccl : acc.length < lim := by unfold lim; omega
  have ap := fun (j' : Int) (c : D) => app_end (acc := acc) (up m r s j') c haccl
  have mt := fun (j' : Int) => mth_end (W := wd T (n + k + 7)) (acc := acc) (up m r s j')
  simp only [up_len] at ap mt
  by_cases z : q = 4 ∧ n ≠ 0
  · obtain ⟨z4, zn⟩ := z
    subst z4
    obtain ⟨n0, rfl⟩ : ∃ n', n = n' + 1 := ⟨n - 1, by omega⟩
    obtain ⟨c1, j1, hj1, e1, ok1⟩ := condition_ok h 1 (n0 + 1 + k) (l := l) d1A hv
    rw [up_app d1, up_up, show 1 + (n0 + 1 + k + 6) = n0 + 1 + k + 7 from by omega] at e1
    have e1 : callD T (n0 + 1 + k + 7) ("_law_condition", none) [.ref r, .int v, .bl l, .int 2] (up m r s (j + 1) ++ [.lst acc]) = .ok c1 (up m r s j1 ++ [.lst acc]) := e1
    have d2 := d.up hj1
    obtain ⟨c2, j2, hj2, e2, ok2⟩ := IH n0 rfl (d2.app [.lst acc])
    rw [up_app d2, up_up] at e2
    have d3 := d.up hj2
    obtain ⟨c3, j3, hj3, e3, ok3⟩ := IH n0 rfl (d3.app [.lst acc])
    rw [up_app d3, up_up] at e3
    refine ⟨_, j3, some (.int 4), hj3, okT_if ok1 ok2 ok3, ?_⟩
    have hn3 : (1 : Int) < (n0 : Int) + 1 + 1 := by omega
    have hn1 : (n0 : Int) + 1 + 1 - 1 = (n0 : Int) + 1 := by omega
    have l4 : (4 : Nat) ≤ lim := lt_lim (by omega)
    simp [bodyT, evSs, evS, evE, evEs, hw, hcl, h.take, h.condition, h.steps, cstD, e, setT, hn3, hn1, mt, e1, e2, e3, tupR, l4, ap]
  · have t1 : (q = 4 ∧ (1 : Int) < (n : Int) + 1) = False := by
      simp only [eq_iff_iff, iff_false]
      intro hh
      exact z ⟨hh.1, by omega⟩
    by_cases y2 : q < 2 ∧ 0 < v
    · have d2 := d.up (j' := j + 1) (by omega)
      obtain ⟨p, p0, p1, e1⟩ := take_ok h.toHasDraw (k := n + k + 5) d1A y2.2
      rw [show n + k + 5 + 2 = n + k + 7 from by omega, up_app d1, up_up] at e1
      have d3 := d.up (j' := j + 1 + 1) (by omega)
      obtain ⟨c2, j2, hj2, e2, ok2⟩ := expression_ok h 1 (n + k + 2) (l := l) (d3.app [.lst acc]) hv
      rw [up_app d3, up_up, show 1 + (n + k + 2 + 4) = n + k + 7 from by omega] at e2
      have e2 : callD T (n + k + 7) ("_law_expression", none) [.ref r, .int v, .bl l, .int 2] (up m r s (j + 1 + 1) ++ [.lst acc]) = .ok c2 (up m r s j2 ++ [.lst acc]) := e2
      refine ⟨_, j2, some (.int q), hj2, okT_set p0 p1 ok2, ?_⟩
      have q4 : q ≠ 4 := by omega
      simp [bodyT, evSs, evS, evE, evEs, hw, hcl, h.take, h.condition, h.steps, h.expression, cstD, e, setT, q4, y2.1, y2.2, mt, e1, e2, tupR, len3, ap]
    · obtain ⟨c2, j2, hj2, e2, ok2⟩ := expression_ok h 1 (n + k + 2) (l := l) d1A hv
      rw [up_app d1, up_up, show 1 + (n + k + 2 + 4) = n + k + 7 from by omega] at e2
      have e2 : callD T (n + k + 7) ("_law_expression", none) [.ref r, .int v, .bl l, .int 2] (up m r s (j + 1) ++ [.lst acc]) = .ok c2 (up m r s j2 ++ [.lst acc]) := e2
      refine ⟨_, j2, some (.int q), hj2, okT_tell ok2, ?_⟩
      by_cases q4 : q = 4
      · have hn0 : ¬ (1 : Int) < (n : Int) + 1 := fun hh => z ⟨q4, by omega⟩
        subst q4
        simp [bodyT, evSs, evS, evE, evEs, hw, hcl, h.take, h.condition, h.steps, h.expression, cstD, e, setT, hn0, mt, e2, tupR, len2, ap]
      · by_cases q2 : q < 2
        · have v0 : ¬ 0 < v := fun hh => y2 ⟨q2, hh⟩
          simp [bodyT, evSs, evS, evE, evEs, hw, hcl, h.take, h.condition, h.steps, h.expression, cstD, e, setT, q4, q2, v0, mt, e2, tupR, len2, ap]
        · simp [bodyT, evSs, evS, evE, evEs, hw, hcl, h.take, h.condition, h.steps, h.expression, cstD, e, setT, q4, q2, mt, e2, tupR, len2, ap]
end
end Pg

set_option Elab.async false
set_option linter.all false
set_option maxRecDepth 100000
set_option maxHeartbeats 2000000
/-! Drawn rows of steps, the walk. -/
namespace Pg
open PySem PySem.Spec PyProof.Rows L2 Mp
section
variable {T : Tab} {m : Mem} {r s : Nat} {ns : List Int} {j : Int}
theorem steps_loop (h : HasDrawn T) {n k : Nat} {v : Int} {l : Bool} (hv : 0 ≤ v)
    (IH : ∀ n0, n = n0 + 1 → ∀ {m : Mem} {j : Int}, Dr m r s ns j → Drawn m r s (callD T (n + k + 7) ("_law_steps", none) [.ref r, .int v, .bl l, .int ((n0 : Int) + 1), .int 1] m) (OkS v l n0 1))
    (most : Option D) : ∀ (q : Nat) (i : Int) {m : Mem} {j : Int} (acc : List D) (x y : Option D), Dr m r s ns j → acc.length + q < 999 → (∀ z ∈ acc, OkT v l n z) → ∃ (cs : List D) (j' : Int) (x' y' : Option D), 0 ≤ j' ∧ (∀ z ∈ cs, OkT v l n z) ∧ cs.length = acc.length + q ∧
      loopS [] (fun d ρ m => match setT (.nm 6) d ρ with
        | some ρ' => evSs (wd T (n + k + 7)) T.exf T.sub bodyT ρ' m
        | none => .bad) (count q i) [some (.ref r), some (.int v), some (.bl l), some (.int ((n : Int) + 1)), most, some (.ref m.length), x, y] (m ++ [.lst acc]) =
        .nx [some (.ref r), some (.int v), some (.bl l), some (.int ((n : Int) + 1)), most, some (.ref m.length), x', y'] (up m r s j' ++ [.lst cs])
  | 0, i, m, j, acc, x, y, d, hl, ha => ⟨acc, j, x, y, d.pos, ha, rfl, by rw [up_self d]; rfl⟩
  | q + 1, i, m, j, acc, x, y, d, hl, ha => by
    obtain ⟨c, j1, y1, hj1, okc, e1⟩ := steps_turn h hv IH d (acc := acc) (by omega) most (some (.int i)) y
    obtain ⟨cs, j2, x2, y2, hj2, ok2, len, e2⟩ := steps_loop h hv IH most q (i + 1) (acc ++ [c]) (some (.int i)) y1 (d.up hj1) (by simp; omega) (by
      intro z hz
      rcases List.mem_append.mp hz with hz | hz
      · exact ha z hz
      · rw [List.mem_singleton.mp hz]; exact okc)
    rw [up_up, up_len] at e2
    refine ⟨cs, j2, x2, y2, hj2, ok2, by rw [len]; simp; omega, ?_⟩
    rw [← e2]
    have st : ∀ d : D, setT (.nm 6) d [some (.ref r), some (.int v), some (.bl l), some (.int ((n : Int) + 1)), most, some (.ref m.length), x, y] = some [some (.ref r), some (.int v), some (.bl l), some (.int ((n : Int) + 1)), most, some (.ref m.length), some d, y] := fun d => rfl
    simp only [Mp.count, loopS, Mp.still, if_true, st]
    rw [e1]
theorem steps_ok (h : HasDrawn T) : ∀ (n k : Nat) {m : Mem} {j v : Int} {l : Bool} {most : Nat}, Dr m r s ns j → 0 ≤ v → most < 900 →
    Drawn m r s (callD T (n + (k + 8)) ("_law_steps", none) [.ref r, .int v, .bl l, .int ((n : Int) + 1), .int most] m) (OkS v l n most)
  | n, k, m, j, v, l, most, d, hv, hm => by
    rw [show n + (k + 8) = (n + k + 7) + 1 from by omega, callD_succ, h.steps]
    have hw : ∀ g, (wd T (n + k + 7)).has g = (T.df g).isSome := fun g => rfl
    have hcl : (wd T (n + k + 7)).call = callD T (n + k + 7) := rfl
    have dA := d.app [.lst []]
    obtain ⟨q, q0, q1, e⟩ := take_ok h.toHasDraw (k := n + k + 5) dA (show (0 : Int) < (most : Int) + 1 by omega)
    rw [show n + k + 5 + 2 = n + k + 7 from by omega, up_app d] at e
    have hj := d.pos
    have d1 : Dr (up m r s (j + 1)) r s ns (j + 1) := d.up (by omega)
    obtain ⟨cs, j2, x2, y2, hj2, ok2, len, e2⟩ := steps_loop h (n := n) (k := k) (l := l) hv (fun n0 hn0 {m j} d => by
      subst hn0
      have z := steps_ok h n0 k (v := v) (l := l) (most := 1) d hv (by omega)
      rw [show n0 + (k + 8) = n0 + 1 + k + 7 from by omega] at z
      exact z) (some (.int most)) q.toNat 0 [] none none d1 (by simp; omega) (by simp)
    rw [up_up, up_len] at e2
    have rg : rngOk q = true := by simp [rngOk]; omega
    have okk : OkS v l n most (.tup cs) := ⟨⟨cs, rfl, by rw [len]; simp; omega, ok2⟩⟩
    refine ⟨_, j2, hj2, ?_, okk⟩
    have hgc := gc_pure (d.old j2) [.lst cs] (Pu.refs okk.pu)
    have sq : bltin "tuple" [.ref m.length] (up m r s j2 ++ [.lst cs]) = .ok (.tup cs) (up m r s j2 ++ [.lst cs]) := by
      have z := get_end (up m r s j2) (O.lst cs) []
      rw [up_len] at z
      simp [bltin, seqOf, Mp.listAt, z]
    simp [d_u_law_steps, b_steps_eq, evSs, evS, evE, evEs, evI, startE, hw, hcl, h.take, cstD, e, setT, newL, rg]
    erw [e2]
    simp [sq, hgc]
end
end Pg

set_option Elab.async false
set_option linter.all false
set_option maxRecDepth 100000
set_option maxHeartbeats 2000000
/-! New things behind a def. -/
namespace Pg
open PySem PySem.Spec PyProof.Rows L2 Mp
theorem place_get : ∀ {ks : List Nat} {i : Nat}, i ∈ ks → ks[place i ks]? = some i
  | [], _, h => by cases h
  | k :: r, i, h => by
    by_cases e : i = k
    · subst e; simp [Mp.place]
    · rcases List.mem_cons.mp h with rfl | h
      · exact absurd rfl e
      · simp [Mp.place, e, place_get h]
theorem kept_some {m0 m : Mem} {rs ks : List Nat} (h : kept m0 m rs = some ks) : keptAll m m0.length ks rs = true := by
  unfold kept at h
  split at h
  · cases h
  · split at h
    · simp only at h
      split at h
      · rename_i z; cases h; exact z
      · cases h
    · cases h
def newM (m1 e : Mem) (L : Nat) (ks : List Nat) : Mem := ks.map fun k => renO (newNo L ks) ((m1 ++ e).getD k default)
theorem swept_eq {m0 m1 : Mem} (h : Old m0 m1) (e : Mem) (ks : List Nat) : swept (m1 ++ e) m0.length ks = m1 ++ newM m1 e m0.length ks := by
  unfold swept newM
  rw [← h.len, List.take_append_of_le_length (Nat.le_refl _), List.take_length]
theorem newM_get {m1 e : Mem} {L : Nat} {ks : List Nat} {i : Nat} {o : O} (hL : m1.length = L) (hi : i ∈ ks) (hLi : L ≤ i) (ho : (m1 ++ e)[i]? = some o) (M : Mem) (hM : M.length = L) :
    (M ++ newM m1 e L ks)[newNo L ks i]? = some (renO (newNo L ks) o) := by
  have e1 : newNo L ks i = L + place i ks := by unfold newNo; rw [if_neg (by omega)]
  conv => lhs; rw [e1]
  rw [List.getElem?_append_right (by omega), hM, show L + place i ks - L = place i ks from by omega]
  unfold newM
  rw [List.getElem?_map, place_get hi]
  simp only [Option.map_some, List.getD, ho, Option.getD_some]
theorem newNo_ge (L : Nat) (ks : List Nat) {i : Nat} (h : L ≤ i) : L ≤ newNo L ks i := by
  unfold newNo; rw [if_neg (by omega)]; omega
/-- a new thing that names nothing -/
theorem gc_new {m0 m1 : Mem} (h : Old m0 m1) (e : Mem) {i : Nat} {o : O} (hi : (m1 ++ e)[i]? = some o) (ho : refsO o = []) (hL : m0.length ≤ i) :
    ∃ (e' : Mem) (i' : Nat), gc m0 (.ref i) (m1 ++ e) = .ok (.ref i') (m1 ++ e') ∧ m0.length ≤ i' ∧ (m1 ++ e')[i']? = some o := by
  unfold gc
  cases hk : kept m0 (m1 ++ e) (refsD (.ref i)) with
  | none => exact ⟨e, i, rfl, hL, hi⟩
  | some ks =>
    have z := kept_some hk
    simp only [keptAll, refsD, List.all_cons, List.all_nil, Bool.and_true, Bool.and_eq_true] at z
    have hmem : i ∈ ks := by
      have z1 := z.1
      rw [Bool.or_eq_true] at z1
      rcases z1 with y | y
      · rw [Nat.blt_eq] at y; omega
      · simpa using y
    refine ⟨newM m1 e m0.length ks, newNo m0.length ks i, ?_, newNo_ge _ _ hL, ?_⟩
    · simp only [renD, swept_eq h]
    · rw [newM_get h.len hmem hL hi m1 h.len, renO_none _ o ho]
/-! ### data of new things alone -/
def dead (L : Nat) : Mem := List.replicate L .dead
theorem Le_dead {L : Nat} {M : Mem} (h : M.length = L) (e : Mem) : Le (dead L ++ e) (M ++ e) := fun i ds hi => by
  by_cases z : i < L
  · rw [List.getElem?_append_left (by simpa [dead] using z)] at hi
    simp [dead, z] at hi
  · rw [List.getElem?_append_right (by simp [dead]; omega)] at hi
    rw [List.getElem?_append_right (by omega), h]
    simpa [dead] using hi
theorem dead_app (L : Nat) (M e e' : Mem) (h : M.length = L) : Le (dead (L + e.length) ++ e') (M ++ (e ++ e')) := by
  rw [← List.append_assoc]
  exact Le_dead (by simp [h]) e'
def inK (L : Nat) (ks : List Nat) (i : Nat) : Prop := i < L ∨ i ∈ ks
theorem rens_len (g : Nat → Nat) : ∀ ds : List D, (renDs g ds).length = ds.length
  | [] => rfl
  | d :: r => by simp [renDs, rens_len g r]
section
variable {m0 m1 e : Mem} {L : Nat} {ks : List Nat}
mutual
theorem Rp.ren (hL : m1.length = L) (hk : ∀ k ∈ ks, ∀ i ∈ refsAt (m1 ++ e) k, inK L ks i) : ∀ {c d : D}, Rp (dead L ++ e) c d → (∀ i ∈ refsD d, inK L ks i) →
    Rp (dead L ++ newM m1 e L ks) c (renD (newNo L ks) d)
  | .non, _, h, _ => by rw [Rp] at h ⊢; subst h; rfl
  | .bl _, _, h, _ => by rw [Rp] at h ⊢; subst h; rfl
  | .int _, _, h, _ => by rw [Rp] at h ⊢; subst h; rfl
  | .str _, _, h, _ => by rw [Rp] at h ⊢; obtain ⟨rfl, h⟩ := h; exact ⟨rfl, h⟩
  | .fn _, _, h, _ => h.elim
  | .ref _, _, h, _ => h.elim
  | .tup cs, d, h, hr => by
    rw [Rp] at h ⊢
    obtain ⟨ds, a, b⟩ := h
    cases d with
    | tup ds' =>
      cases a
      exact ⟨_, rfl, Rps.ren hL hk b (by simpa [refsD] using hr)⟩
    | ref i =>
      have q := rowAt_ref a
      have hLi : L ≤ i := by
        rcases Nat.lt_or_ge i L with z | z
        · rw [List.getElem?_append_left (by simpa [dead] using z)] at q
          simp [dead, z] at q
        · exact z
      have hi : i ∈ ks := by
        have := hr i (by simp [refsD])
        rcases this with z | z
        · omega
        · exact z
      have q1 : (m1 ++ e)[i]? = some (.lst ds) := by
        rw [List.getElem?_append_right (by simp [dead]; omega)] at q
        rw [List.getElem?_append_right (by omega), hL]
        simpa [dead] using q
      refine ⟨renDs (newNo L ks) ds, rowAt_of ?_, Rps.ren hL hk b fun x hx => hk i hi x (by simpa [refsAt, q1, refsO] using hx)⟩
      exact newM_get hL hi hLi q1 (dead L) (by simp [dead])
    | _ => cases a
theorem Rps.ren (hL : m1.length = L) (hk : ∀ k ∈ ks, ∀ i ∈ refsAt (m1 ++ e) k, inK L ks i) : ∀ {c d : List D}, Rps (dead L ++ e) c d → (∀ i ∈ refsDs d, inK L ks i) →
    Rps (dead L ++ newM m1 e L ks) c (renDs (newNo L ks) d)
  | [], _, h, _ => by rw [Rps] at h ⊢; subst h; rfl
  | c :: r, _, h, hr => by
    rw [Rps] at h ⊢
    obtain ⟨d, q, rfl, a, b⟩ := h
    exact ⟨_, _, rfl, Rp.ren hL hk a fun i hi => hr i (by simp [refsDs, hi]), Rps.ren hL hk b fun i hi => hr i (by simp [refsDs, hi])⟩
end
theorem Rps.append {m : Mem} : ∀ {c d c' d' : List D}, Rps m c d → Rps m c' d' → Rps m (c ++ c') (d ++ d')
  | [], _, _, _, h, h' => by rw [Rps] at h; subst h; exact h'
  | a :: b, _, _, _, h, h' => by
    rw [Rps] at h
    obtain ⟨d, q, rfl, x, y⟩ := h
    simp only [List.cons_append, Rps]
    exact ⟨_, _, rfl, x, Rps.append y h'⟩
theorem inK_of {L : Nat} {ks : List Nat} {i : Nat} (h : (Nat.blt i L || ks.contains i) = true) : inK L ks i := by
  rw [Bool.or_eq_true] at h
  rcases h with y | y
  · rw [Nat.blt_eq] at y; exact .inl y
  · exact .inr (by simpa using y)
theorem isRef_ren (g : Nat → Nat) {d : D} (h : ∃ i, d = .ref i) : ∃ i, renD g d = .ref i := by
  obtain ⟨i, rfl⟩ := h; exact ⟨_, rfl⟩
/-- data of new things behind a def -/
theorem gc_rep (h : Old m0 m1) {c d : D} (hd : Rp (dead m0.length ++ e) c d) : ∃ (e' : Mem) (d' : D), gc m0 d (m1 ++ e) = .ok d' (m1 ++ e') ∧ Rp (dead m0.length ++ e') c d' ∧ ((∃ i, d = .ref i) → ∃ i, d' = .ref i) := by
  unfold gc
  cases hk : kept m0 (m1 ++ e) (refsD d) with
  | none => exact ⟨e, d, rfl, hd, id⟩
  | some ks =>
    have z := kept_some hk
    simp only [keptAll, Bool.and_eq_true, List.all_eq_true] at z
    refine ⟨newM m1 e m0.length ks, renD (newNo m0.length ks) d, ?_, Rp.ren h.len ?_ hd ?_, isRef_ren _⟩
    · simp only [swept_eq h]
    · exact fun k hk i hi => inK_of ((z.2 k hk).2 i hi)
    · exact fun i hi => inK_of (z.1 i hi)
end
/-! ### lists for tuples -/
structure HasHelp (T : Tab) : Prop where
  listed : T.df ("_law_listed", none) = some d_u_law_listed
  places : T.df ("_law_places", none) = some d_u_law_places
  all : T.df ("_law_all_places", none) = some d_u_law_all_places
section
variable {T : Tab}
/-- one made list: all parts come behind one another -/
theorem loop_listed {L : Nat} {m : Mem} (hm : m.length = L) {B : D → Mem → R Unit} {callB : D → Mem → R D} : ∀ (cs acs acc : List D) (e : Mem),
    (∀ c ∈ cs, ∀ M : Mem, ∃ e' d, callB c M = .ok d (M ++ e') ∧ Rp (dead M.length ++ e') c d) →
    (∀ c ∈ cs, ∀ M, B c M = (callB c M).bind fun d m => appAt L d m) →
    Rps (dead (L + 1) ++ e) acs acc → acc.length + cs.length < 2000 →
    ∃ (e' : Mem) (acc' : List D), loopC [] B cs (m ++ .lst acc :: e) = .ok () (m ++ .lst acc' :: e') ∧ Rps (dead (L + 1) ++ e') (acs ++ cs) acc' := by
  intro cs
  induction cs with
  | nil => intro acs acc e _ _ hr _; exact ⟨e, acc, rfl, by simpa using hr⟩
  | cons c r ih =>
    intro acs acc e hc hB hr hl
    obtain ⟨e1, d, h1, h2⟩ := hc c (List.mem_cons_self ..) (m ++ .lst acc :: e)
    have hM : (m ++ O.lst acc :: e).length = L + 1 + e.length := by simp [hm]; omega
    rw [hM] at h2
    have r1 : Rps (dead (L + 1) ++ (e ++ e1)) (acs ++ [c]) (acc ++ [d]) := by
      refine Rps.append ?_ ?_
      · rw [← List.append_assoc]; exact hr.mono (Le.app e1)
      · rw [Rps]
        exact ⟨d, [], rfl, h2.mono (dead_app (L + 1) (dead (L + 1)) e e1 (by simp [dead])), rfl⟩
    obtain ⟨e', acc', e2, r2⟩ := ih (acs ++ [c]) (acc ++ [d]) (e ++ e1) (fun c hc' => hc c (List.mem_cons_of_mem _ hc')) (fun c hc' => hB c (List.mem_cons_of_mem _ hc')) r1 (by simp at hl ⊢; omega)
    refine ⟨e', acc', ?_, by simpa using r2⟩
    rw [loopC]
    simp only [Mp.still, if_true]
    rw [hB c (List.mem_cons_self ..), h1, R.bind_ok]
    have ap := appAt_end (m := m) (acc := acc) d (by unfold lim; simp at hl; omega) (e ++ e1)
    rw [hm] at ap
    rw [List.append_assoc, List.cons_append, ap, R.bind_ok, e2]
theorem listed_ok (h : HasHelp T) : ∀ (n k : Nat) {c : D} {m : Mem}, Pu c → sm c = true → dep c ≤ n →
    ∃ (e' : Mem) (d : D), callD T (n + (k + 1)) ("_law_listed", none) [c] m = .ok d (m ++ e') ∧ Rp (dead m.length ++ e') c d ∧ (isT c = true → ∃ i, d = .ref i)
  | n, k, c, m, hp, hs, hd => by
    rw [show n + (k + 1) = (n + k) + 1 from by omega, callD_succ, h.listed]
    by_cases ht : isT c = true
    case neg =>
      have ht : isT c = false := by simpa using ht
      refine ⟨[], c, ?_, hp.to _, fun z => by rw [ht] at z; cases z⟩
      cases c with
      | tup _ => cases ht
      | ref _ => exact hp.elim
      | fn _ => exact hp.elim
      | _ => simp [d_u_law_listed, b_u_law_listed, evSs, evS, evE, evEs, startE, isTys, tagOf, tyOk, isOf]
    obtain ⟨cs, rfl⟩ : ∃ cs, c = .tup cs := by
      cases c with
      | tup cs => exact ⟨cs, rfl⟩
      | _ => cases ht
    cases n with
    | zero => simp [dep] at hd
    | succ n =>
      have hps : Pus cs := by
        have := hp
        simp only [Pu, Rp] at this
        obtain ⟨ds, e, q⟩ := this
        cases e
        exact q
      have hs : cs.length < 1000 ∧ sms cs = true := by simpa [sm] using hs
      have hd : deps cs ≤ n := by simp [dep] at hd; omega
      have hmem : ∀ (l : List D), Pus l → ∀ c ∈ l, Pu c := by
        intro l
        induction l with
        | nil => intro _ c hc; cases hc
        | cons a r ih =>
          intro hl c hc
          simp only [Pus, Rps] at hl
          obtain ⟨_, _, e, x, y⟩ := hl
          cases e
          rcases List.mem_cons.mp hc with rfl | hc
          · exact x
          · exact ih y c hc
      obtain ⟨e', acc', e1, r1⟩ := loop_listed (L := m.length) (m := m) rfl (callB := fun x m_1 => callD T (n + 1 + k) ("_law_listed", none) [x] m_1) (B := fun x m_1 => (callD T (n + 1 + k) ("_law_listed", none) [x] m_1).bind fun d m_2 => appAt m.length d m_2) cs [] [] []
        (fun c hc M => by
          obtain ⟨e', d, a, b, _⟩ := listed_ok h n k (m := M) (hmem cs hps c hc) (sms_mem hs.2 hc) (Nat.le_trans (deps_mem hc) hd)
          rw [show n + (k + 1) = n + 1 + k from by omega] at a
          exact ⟨e', d, a, b⟩) (fun _ _ _ => rfl) rfl (by simp; omega)
      have rr : Rp (dead m.length ++ O.lst acc' :: e') (.tup cs) (.ref m.length) := by
        rw [Rp]
        refine ⟨acc', rowAt_of ?_, ?_⟩
        · have := get_end (dead m.length) (O.lst acc') e'
          simpa [dead] using this
        · have e2 : dead (m.length + 1) ++ e' = (dead m.length ++ [O.dead]) ++ e' := by simp [dead, List.replicate_succ']
          rw [e2] at r1
          refine Rps.mono (fun i ds hi => ?_) r1
          rw [List.append_assoc] at hi
          by_cases z : i < m.length
          · rw [List.getElem?_append_left (by simpa [dead] using z)] at hi ⊢
            exact hi
          · rw [List.getElem?_append_right (by simp [dead]; omega)] at hi ⊢
            cases hx : i - (dead m.length).length with
            | zero => rw [hx] at hi; cases hi
            | succ t => rw [hx] at hi; simpa using hi
      obtain ⟨e2, d2, g1, g2, g3⟩ := gc_rep (Old.refl m) rr
      refine ⟨e2, d2, ?_, g2, fun _ => g3 ⟨_, rfl⟩⟩
      have hw : ∀ g, (wd T (n + 1 + k)).has g = (T.df g).isSome := fun g => by rw [show n + 1 + k = (n + k) + 1 from by omega]; rfl
      have hcl : (wd T (n + 1 + k)).call = callD T (n + 1 + k) := by rw [show n + 1 + k = (n + k) + 1 from by omega]; rfl
      simp [d_u_law_listed, b_u_law_listed, evSs, evS, evE, evEs, evI, evTs, startE, isTys, tagOf, tyOk, isOf, hw, hcl, h.listed, seqOf, srcOf, setT, wipeE]
      erw [e1]
      simp [R.calm, g1]
end
end Pg

set_option Elab.async false
set_option linter.all false
set_option maxRecDepth 100000
set_option maxHeartbeats 2000000
/-! Places. -/
namespace Pg
open PySem PySem.Spec PyProof.Rows L2 Mp
def bodyL : Mp.Ss := 
    (.cons (.expr (.mth (.var 2) "append" (.cons false (.bin .add (.var 1) (.tup (.cons false (.var 3) .nil))) .nil))) 
    (.cons (.ifs (.cmp .eq (.idx (.var 4) (.cst (.int 0))) (.cst (.str "if"))) 
      (.cons (.set (.nm 2) (.bin .add (.bin .add (.var 2) (.call "_law_places" (.cons false (.idx (.var 4) (.cst (.int 2))) (.cons false (.bin .add (.var 1) (.tup (.cons false (.var 3) (.cons false (.cst (.str "then")) .nil)))) .nil)))) (.call "_law_places" (.cons false (.idx (.var 4) (.cst (.int 3))) (.cons false (.bin .add (.var 1) (.tup (.cons false (.var 3) (.cons false (.cst (.str "else")) .nil)))) .nil))))) .nil) .nil) .nil))
theorem b_places_eq : b_u_law_places = 
  (.cons (.set (.nm 2) (.lst .nil)) 
  (.cons (.for_ (.tu [.nm 3, .nm 4]) (.enum (.var 0)) bodyL) 
  (.cons (.ret (.var 2)) .nil))) := rfl
section
variable {T : Tab} {m : Mem}
theorem bin_tup (x y : List D) (h : (x ++ y).length ≤ lim) : binD .add (.tup x) (.tup y) m = .ok (.tup (x ++ y)) m := by
  show tupR (x ++ y) m = _
  unfold tupR
  rw [if_pos h]
theorem bin_lst {i i' : Nat} {x y : List D} (h1 : m[i]? = some (.lst x)) (h2 : m[i']? = some (.lst y)) (h : (x ++ y).length ≤ lim) : binD .add (.ref i) (.ref i') m = .ok (.ref m.length) (m ++ [.lst (x ++ y)]) := by
  show (match m[i]?, m[i']? with
      | some (.lst x), some (.lst y) => newL (x ++ y) m
      | _, _ => .bad) = _
  rw [h1, h2]
  show newL (x ++ y) m = _
  unfold newL
  rw [if_pos h]
theorem mth_app {W : Wd} {i : Nat} {acc : List D} (h : m[i]? = some (.lst acc)) : mthAt W (.ref i) "append" m = .lst i := by
  simp [mthAt, h]
theorem do_app {i : Nat} {acc : List D} (x : D) (h : m[i]? = some (.lst acc)) (hl : acc.length < lim) : mthL i "append" [x] m = .ok .non (m.set i (.lst (acc ++ [x]))) := by
  simp [mthL, h, hl]
theorem set_new (e : Mem) {i : Nat} (h : m.length ≤ i) (o : O) : (m ++ e).set i o = m ++ e.set (i - m.length) o := by
  rw [List.set_append_right _ _ h]
def NewL (m e : Mem) (i : Nat) (n : Nat) : Prop := ∃ ds, (m ++ e)[i]? = some (.lst ds) ∧ ds.length = n ∧ refsDs ds = [] ∧ m.length ≤ i
theorem places_ok (h : HasHelp T) {v : Int} {l : Bool} : ∀ (n k : Nat) {c : D} {m : Mem} {pl pl0 : List D}, Pu c → cS v l n c pl0 = none → cnt n c < 10000 → refsDs pl = [] → pl.length + 2 * n < 1000 →
    ∃ (e : Mem) (i : Nat), callD T (n + (k + 1)) ("_law_places", none) [c, .tup pl] m = .ok (.ref i) (m ++ e) ∧ NewL m e i (cnt n c)
  | 0, k, c, m, pl, pl0, hp, hv, hc, hr, hl => by cases hv
  | n + 1, k, c, m, pl, pl0, hp, hv, hc, hr, hl => by
    rw [show n + 1 + (k + 1) = (n + (k + 1)) + 1 from by omega, callD_succ, h.places]
    have hw : ∀ g, (wd T (n + (k + 1))).has g = (T.df g).isSome := fun g => rfl
    have hcl : (wd T (n + (k + 1))).call = callD T (n + (k + 1)) := rfl
    obtain ⟨cs, rfl⟩ : ∃ cs, c = .tup cs := by
      cases c with
      | tup cs => exact ⟨cs, rfl⟩
      | _ => cases hv
    have hv : goS (stepS v l (cS v l n)) 0 cs pl0 = none := hv
    have hst := goS_mem hv
    have hps : Pus cs := by
      have := hp
      simp only [Pu, Rp] at this
      obtain ⟨ds, e, q⟩ := this
      cases e
      exact q
    have hcn : cnt (n + 1) (.tup cs) = cs.length + sumIf (cnt n) cs := rfl
    rw [hcn] at hc ⊢
    have loop : ∀ (c0 : D) (cs : List D), Pus cs → (∀ c ∈ cs, ∃ pl', stepS v l (cS v l n) c pl' = none) → ∀ (a : Nat) (acc : List D) (e : Mem) (i : Nat) (x y : Option D),
        (m ++ e)[i]? = some (.lst acc) → m.length ≤ i → refsDs acc = [] → acc.length + (cs.length + sumIf (cnt n) cs) < 10001 →
        ∃ (e' : Mem) (i' : Nat) (x' y' : Option D), loopS [] (fun d ρ m => match setT (.tu [.nm 3, .nm 4]) d ρ with
          | some ρ' => evSs (wd T (n + (k + 1))) T.exf T.sub bodyL ρ' m
          | none => .bad) (enum a cs) [some c0, some (.tup pl), some (.ref i), x, y] (m ++ e) = .nx [some c0, some (.tup pl), some (.ref i'), x', y'] (m ++ e') ∧ NewL m e' i' (acc.length + (cs.length + sumIf (cnt n) cs)) := by
      intro c0 cs
      induction cs with
      | nil => intro _ _ a acc e i x y h1 h2 h3 h4; exact ⟨e, i, x, y, rfl, acc, h1, by simp [sumIf], h3, h2⟩
      | cons c1 cr ih =>
        intro hp hs a acc e i x y h1 h2 h3 h4
        simp only [Pus, Rps] at hp
        obtain ⟨_, _, ee, hp1, hp2⟩ := hp
        cases ee
        have l1 : pl.length + 1 ≤ lim := lt_lim (by omega)
        have l2 : pl.length + 1 + 1 ≤ lim := lt_lim (by omega)
        have l2' : pl.length + 2 ≤ lim := lt_lim (by omega)
        have accl : acc.length < lim := by unfold lim; simp at h4; omega
        obtain ⟨pl', hstep⟩ := hs c1 (List.mem_cons_self ..)
        have hi := stepS_is hstep
        have e1 : (m ++ e).set i (.lst (acc ++ [.tup (pl ++ [.int a])])) = m ++ e.set (i - m.length) (.lst (acc ++ [.tup (pl ++ [.int a])])) := set_new e h2 _
        have ilt : i < (m ++ e).length := lt_of_get h1
        have h1' : (m ++ e.set (i - m.length) (.lst (acc ++ [.tup (pl ++ [.int a])])))[i]? = some (.lst (acc ++ [.tup (pl ++ [.int a])])) := by
          rw [← e1, List.getElem?_set_self ilt]
        have h3' : refsDs (acc ++ [.tup (pl ++ [.int a])]) = [] := by simp [refsDs_app, h3, refsDs, refsD, hr]
        have mt := mth_app (W := wd T (n + (k + 1))) h1
        have da := do_app (.tup (pl ++ [.int a])) h1 accl
        rw [e1] at da
        have bt := bin_tup (m := m ++ e) pl [.int (a : Int)] (by simp; exact l1)
        have st : ∀ z, setT (.tu [.nm 3, .nm 4]) (.tup [.int (a : Int), z]) [some c0, some (.tup pl), some (.ref i), x, y] = some [some c0, some (.tup pl), some (.ref i), some (.int a), some z] := fun z => rfl
        have i0 : ∀ (s : Str) (q : List D) (M : Mem), idxD (.tup (.str s :: q)) (.int 0) M = some (.str s) := fun s q M => rfl
        have go : ∀ (b : Bool) (e2 : Mem) (i2 : Nat) (acc2 : List D), ifN (cnt n) c1 + 1 + acc.length = acc2.length → (m ++ e2)[i2]? = some (.lst acc2) → m.length ≤ i2 → refsDs acc2 = [] →
            evSs (wd T (n + (k + 1))) T.exf T.sub bodyL [some c0, some (.tup pl), some (.ref i), some (.int a), some c1] (m ++ e) = .nx [some c0, some (.tup pl), some (.ref i2), some (.int a), some c1] (m ++ e2) →
            ∃ (e' : Mem) (i' : Nat) (x' y' : Option D), loopS [] (fun d ρ m => match setT (.tu [.nm 3, .nm 4]) d ρ with
              | some ρ' => evSs (wd T (n + (k + 1))) T.exf T.sub bodyL ρ' m
              | none => .bad) (enum a (c1 :: cr)) [some c0, some (.tup pl), some (.ref i), x, y] (m ++ e) = .nx [some c0, some (.tup pl), some (.ref i'), x', y'] (m ++ e') ∧ NewL m e' i' (acc.length + ((c1 :: cr).length + sumIf (cnt n) (c1 :: cr))) := by
          intro b e2 i2 acc2 hlen g1 g2 g3 g4
          obtain ⟨e', i', x', y', q1, q2⟩ := ih hp2 (fun c hc => hs c (List.mem_cons_of_mem _ hc)) (a + 1) acc2 e2 i2 (some (.int a)) (some c1) g1 g2 g3 (by simp [sumIf] at h4; omega)
          refine ⟨e', i', x', y', ?_, ?_⟩
          · rw [← q1]
            simp only [enum, loopS, Mp.still, if_true, st]
            rw [g4]
            rfl
          · have : acc2.length + (cr.length + sumIf (cnt n) cr) = acc.length + ((c1 :: cr).length + sumIf (cnt n) (c1 :: cr)) := by simp [sumIf]; omega
            rw [← this]; exact q2
        clear hstep
        cases hi with
        | set p q =>
          refine go true _ i _ (by simp [ifN, ifParts]; omega) h1' h2 h3' ?_
          simp [bodyL, evSs, evS, evE, evEs, mt, tupR, len1, bt, da, i0, cstD]
        | tell p =>
          refine go true _ i _ (by simp [ifN, ifParts]; omega) h1' h2 h3' ?_
          simp [bodyL, evSs, evS, evE, evEs, mt, tupR, len1, bt, da, i0, cstD]
        | ifs p b c pl1 pl2 z1 z2 =>
          have hpb : Pu b ∧ Pu c := by
            simp only [Rp, Rps, rowAt] at hp1
            obtain ⟨_, ee, _, _, rfl, _, _, _, rfl, _, _, _, rfl, hb, _, _, rfl, hc, _⟩ := hp1
            cases ee
            exact ⟨hb, hc⟩
          have hN : ifN (cnt n) (.tup [.str "if", p, b, c]) = cnt n b + cnt n c := by simp [ifN, ifParts]
          have hlen : acc.length + 1 + cr.length + (cnt n b + cnt n c + sumIf (cnt n) cr) < 10001 := by
            simp only [sumIf, hN, List.length_cons] at h4; omega
          let e3 := e.set (i - m.length) (O.lst (acc ++ [.tup (pl ++ [.int a])]))
          obtain ⟨f1, k1, p1, ds1, q1, q2, q3, q4⟩ := places_ok h n k (m := m ++ e3) (pl := pl ++ [.int a, .str "then"]) hpb.1 z1 (by omega) (by simp [refsDs_app, hr, refsDs, refsD]) (by simp; omega)
          let M1 := m ++ (e3 ++ f1)
          have hM1 : m ++ e3 ++ f1 = M1 := by simp [M1]
          rw [hM1] at p1 q1
          have g1 : M1[i]? = some (.lst (acc ++ [.tup (pl ++ [.int a])])) := by
            rw [← hM1, List.getElem?_append_left (lt_of_get h1')]; exact h1'
          have b1 := bin_lst g1 q1 (by simp [q2, lim]; omega)
          let M2 := m ++ (e3 ++ f1 ++ [O.lst (acc ++ [.tup (pl ++ [.int a])] ++ ds1)])
          have hM2 : M1 ++ [O.lst (acc ++ [.tup (pl ++ [.int a])] ++ ds1)] = M2 := by simp [M1, M2]
          rw [hM2] at b1
          obtain ⟨f2, k2, p2, ds2, r1, r2, r3, r4⟩ := places_ok h n k (m := M2) (pl := pl ++ [.int a, .str "else"]) hpb.2 z2 (by omega) (by simp [refsDs_app, hr, refsDs, refsD]) (by simp; omega)
          let M3 := m ++ (e3 ++ f1 ++ [O.lst (acc ++ [.tup (pl ++ [.int a])] ++ ds1)] ++ f2)
          have hM3 : M2 ++ f2 = M3 := by simp [M2, M3]
          rw [hM3] at p2 r1
          have g2 : M3[M1.length]? = some (.lst (acc ++ [.tup (pl ++ [.int a])] ++ ds1)) := by
            rw [← hM3, ← hM2, List.append_assoc]
            exact get_end M1 _ f2
          have b2 := bin_lst g2 r1 (by simp [q2, r2, lim]; omega)
          refine go true (e3 ++ f1 ++ [O.lst (acc ++ [.tup (pl ++ [.int a])] ++ ds1)] ++ f2 ++ [O.lst (acc ++ [.tup (pl ++ [.int a])] ++ ds1 ++ ds2)]) M3.length (acc ++ [.tup (pl ++ [.int a])] ++ ds1 ++ ds2) (by rw [hN]; simp [q2, r2]; omega) ?_ (by simp [M3]) (by simp [refsDs_app, h3, refsDs, refsD, hr, q3, r3]) ?_
          · have := get_end M3 (O.lst (acc ++ [.tup (pl ++ [.int a])] ++ ds1 ++ ds2)) []
            simpa [M3] using this
          · have bt2 := bin_tup (m := m ++ e3) pl [.int (a : Int), .str "then"] (by simp; exact l2')
            have bt3 := bin_tup (m := M2) pl [.int (a : Int), .str "else"] (by simp; exact l2')
            have ie : ∀ M : Mem, idxD (.tup [.str "if", p, b, c]) (.int 0) M = some (.str "if") := fun M => rfl
            have ib : ∀ M : Mem, idxD (.tup [.str "if", p, b, c]) (.int 2) M = some b := fun M => rfl
            have ic : ∀ M : Mem, idxD (.tup [.str "if", p, b, c]) (.int 3) M = some c := fun M => rfl
            have da : mthL i "append" [.tup (pl ++ [.int a])] (m ++ e) = .ok .non (m ++ e3) := da
            unfold bodyL
            rw [evSs, evS]
            simp only [evE, evEs, List.getElem?_cons_zero, List.getElem?_cons_succ, R.bind_ok, mt, Bool.false_eq_true, if_false, tupR, List.length_cons, List.length_nil, Nat.zero_add, len1, if_true, bt, da, thenS_ok, seqS_nx]
            rw [evSs, evS]
            simp only [evE, evEs, List.getElem?_cons_zero, List.getElem?_cons_succ, R.bind_ok, cstD, ie, someR_some, cmp_eqS, truthR_ok, truthE_bl, decide_true]
            rw [evSs, evS]
            simp only [evE, evEs, evSs, List.getElem?_cons_zero, List.getElem?_cons_succ, R.bind_ok, cstD, ib, ic, someR_some, hw, hcl, h.places, Option.isSome_some, Bool.not_true, Bool.false_eq_true, if_false, tupR, List.length_cons, List.length_nil, Nat.zero_add, Nat.reduceAdd, len2, if_true, bt2, p1, b1, bt3, p2, b2, wd_hot, Bool.false_and, thenS_ok, setT, seqS_nx, List.set]
            simp [M3]
    obtain ⟨e, i, x, y, p1, ds, q1, q2, q3, q4⟩ := loop (.tup cs) cs hps hst 0 [] [.lst []] m.length none none (get_end m _ []) (Nat.le_refl _) rfl (by simp; omega)
    obtain ⟨e', i', g1, g2, g3⟩ := gc_new (Old.refl m) e q1 (by simpa [refsO] using q3) q4
    refine ⟨e', i', ?_, ds, g3, by simpa using q2, q3, g2⟩
    simp only [d_u_law_places, b_places_eq]
    simp [evSs, evS, evE, evEs, evI, startE, setT, newL, seqOf, srcOf]
    erw [p1]
    simp [evE, g1]
end
end Pg

set_option Elab.async false
set_option linter.all false
set_option maxRecDepth 100000
set_option maxHeartbeats 2000000
/-! A drawn program. -/
namespace Pg
open PySem PySem.Spec PyProof.Rows L2 Mp
def tkv (a b c d e : D) : List (D × D) := [(.str "letters", a), (.str "sizes", b), (.str "first", c), (.str "each", d), (.str "last", e)]
structure IsTold (m : Mem) (i : Nat) (a b c d e : D) : Prop where
  at_ : m[i]? = some (.dct (tkv a b c d e))
section
variable {T : Tab} {m : Mem} {r s : Nat} {ns : List Int} {j : Int}
theorem IsTold.app {i : Nat} {a b c d e : D} (h : IsTold m i a b c d e) (g : Mem) : IsTold (m ++ g) i a b c d e :=
  ⟨by rw [List.getElem?_append_left (lt_of_get h.at_)]; exact h.at_⟩
theorem IsTold.idx {i : Nat} {a b c d e : D} (h : IsTold m i a b c d e) : idxD (.ref i) (.str "letters") m = some a ∧ idxD (.ref i) (.str "sizes") m = some b ∧ idxD (.ref i) (.str "first") m = some c ∧ idxD (.ref i) (.str "each") m = some d ∧ idxD (.ref i) (.str "last") m = some e := by
  refine ⟨?_, ?_, ?_, ?_, ?_⟩ <;> simp [idxD, idxR, Mp.listAt, dctAt, h.at_, tkv, keyIn, dkey, isTupK, kvFind]
/-- what a drawn program is -/
structure TP (a b c d e : D) : Prop where
  pa : ∃ n : Int, a = .int n ∧ 1 ≤ n ∧ n ≤ 3
  pb : okSizes b = true
  sb : sm b = true
  ub : Pu b
  db : dep b ≤ 1
  pc : OkS (wide b) false 0 1 c
  pd : OkS (wide b) true 1 4 d
  pe : OkS (wide b) false 1 1 e
  mn : many c d e ≤ 12
theorem all_places_ok (h : HasHelp T) {k i : Nat} {a b c d e : D} {v : Int} (t : IsTold m i a b c d e) (pc : OkS v false 0 1 c) (pd : OkS v true 1 4 d) (pe : OkS v false 1 1 e) :
    ∃ (g : Mem) (i' : Nat), callD T (k + 5) ("_law_all_places", none) [.ref i] m = .ok (.ref i') (m ++ g) ∧ NewL m g i' (many c d e) := by
  rw [callD_succ, h.all]
  have hw : ∀ g, (wd T (k + 4)).has g = (T.df g).isSome := fun g => rfl
  have hcl : (wd T (k + 4)).call = callD T (k + 4) := rfl
  have n1 := pc.cnt (n' := 3) (by omega)
  have n2 := pd.cnt (n' := 3) (by omega)
  have n3 := pe.cnt (n' := 3) (by omega)
  simp only [bd] at n1 n2 n3
  obtain ⟨g1, i1, p1, ds1, a1, a2, a3, a4⟩ := places_ok h (v := v) (l := false) 3 k (m := m) (pl := [.str "first"]) (pl0 := []) pc.pu (pc.ok (by omega) _) (by omega) rfl (by decide)
  obtain ⟨g2, i2, p2, ds2, b1, b2, b3, b4⟩ := places_ok h (v := v) (l := true) 3 k (m := m ++ g1) (pl := [.str "each"]) (pl0 := []) pd.pu (pd.ok (by omega) _) (by omega) rfl (by decide)
  rw [show 3 + (k + 1) = k + 4 from by omega] at p1 p2
  have g1' : (m ++ g1 ++ g2)[i1]? = some (.lst ds1) := by rw [List.getElem?_append_left (lt_of_get a1)]; exact a1
  have q1 := bin_lst g1' b1 (by simp [a2, b2, lim]; omega)
  obtain ⟨g3, i3, p3, ds3, c1, c2, c3, c4⟩ := places_ok h (v := v) (l := false) 3 k (m := m ++ g1 ++ g2 ++ [.lst (ds1 ++ ds2)]) (pl := [.str "last"]) (pl0 := []) pe.pu (pe.ok (by omega) _) (by omega) rfl (by decide)
  rw [show 3 + (k + 1) = k + 4 from by omega] at p3
  have g2' : (m ++ g1 ++ g2 ++ [.lst (ds1 ++ ds2)] ++ g3)[(m ++ g1 ++ g2).length]? = some (.lst (ds1 ++ ds2)) := by
    rw [List.append_assoc (m ++ g1 ++ g2)]
    exact get_end (m ++ g1 ++ g2) (O.lst (ds1 ++ ds2)) g3
  have q2 := bin_lst g2' c1 (by simp [a2, b2, c2, lim]; omega)
  have fin : (m ++ (g1 ++ g2 ++ [.lst (ds1 ++ ds2)] ++ g3 ++ [.lst (ds1 ++ ds2 ++ ds3)]))[(m ++ g1 ++ g2 ++ [O.lst (ds1 ++ ds2)] ++ g3).length]? = some (.lst (ds1 ++ ds2 ++ ds3)) := by
    have := get_end (m ++ g1 ++ g2 ++ [.lst (ds1 ++ ds2)] ++ g3) (O.lst (ds1 ++ ds2 ++ ds3)) []
    simpa using this
  obtain ⟨e', i', z1, z2, z3⟩ := gc_new (Old.refl m) _ fin (by simp [refsO, refsDs_app, a3, b3, c3]) (by simp only [List.length_append]; omega)
  refine ⟨e', i', ?_, _, z3, by simp [a2, b2, c2, many]; omega, by simp [refsDs_app, a3, b3, c3], z2⟩
  obtain ⟨x1, x2, x3, x4, x5⟩ := t.idx
  have ts := fun M : Mem => (t.app M).idx
  have y4 := (ts (g1)).2.2.2.1
  have y5 := (ts (g1 ++ g2 ++ [.lst (ds1 ++ ds2)])).2.2.2.2
  simp only [← List.append_assoc] at y4 y5 z1
  simp only [d_u_law_all_places, b_u_law_all_places, evSs, evS, evE, evEs, startE, List.length_cons, List.length_nil, List.map_cons, List.map_nil, if_true, List.replicate, Nat.sub_self, List.append_nil, List.getElem?_cons_zero, R.bind_ok, cstD, x3, y4, y5, someR_some, hw, hcl, h.places, Option.isSome_some, Bool.not_true, Bool.false_eq_true, if_false, tupR, Nat.zero_add, len1, p1, p2, q1, p3, q2, thenS_ok, seqS_rt, finR_rt, z1]
/-- a drawn part of a list that is made for it -/
theorem pick_new (h : HasDraw T) {k : Nat} (d : Dr m r s ns j) {ds : List D} (h0 : ds ≠ []) (hp : refsDs ds = []) : ∃ v ∈ ds, callD T (k + 3) ("_law_pick", none) [.ref r, .ref m.length] (m ++ [.lst ds]) = .ok v (up m r s (j + 1) ++ [.lst ds]) := by
  have dM : Dr (m ++ [.lst ds]) r s ns j := d.app _
  have rx : rowAt (m ++ [.lst ds]) (.ref m.length) = some ds := rowAt_of (get_end _ _ [])
  have rx' : rowAt (up (m ++ [.lst ds]) r s (j + 1)) (.ref m.length) = some ds := by
    rw [up_app d]
    have := get_end (up m r s (j + 1)) (O.lst ds) []
    rw [up_len] at this
    exact rowAt_of this
  obtain ⟨v, hv, e⟩ := pick_ok h (k := k) dM rx rx' h0 hp
  rw [up_app d] at e
  exact ⟨v, hv, e⟩
def sizeL : List D := [.int 2, .int 3, .int 2, .int 3, .int 1, .int 4]
def sizeX : E := (.call "_law_pick" (.cons false (.var 0) (.cons false (.lst (.cons false (.cst (.int 2)) (.cons false (.cst (.int 3)) (.cons false (.cst (.int 2)) (.cons false (.cst (.int 3)) (.cons false (.cst (.int 1)) (.cons false (.cst (.int 4)) .nil))))))) .nil)))
def lcB (W : Wd) (ρ : Mp.Env) (own : List Nat) (t : Tg) (ifs : Mp.Es) (elt : E) (L : Nat) (d : D) (m : Mem) : R Unit := match setT t d (wipeE ρ own) with
  | some ρ' => (evTs W ifs ρ' m).bind fun b m => if b then (evE W elt ρ' m).bind fun d m => appAt L d m else .ok () m
  | none => .bad
theorem evE_lc (W : Wd) (ρ : Mp.Env) (own : List Nat) (t : Tg) (it : Ie) (ifs : Mp.Es) (elt : E) (m : Mem) : evE W (.lc elt (.one own t it ifs)) ρ m = if W.hot then .bad else (evI W it ρ m).bind fun p m1 => (loopC p.2 (lcB W ρ own t ifs elt m1.length) p.1 (m1 ++ [.lst []])).calm.bind fun _ m2 => .ok (.ref m1.length) m2 := by
  rw [evE]; rfl
/-- sizes, one behind the other -/
theorem sizes_loop (h : HasDrawn T) {k : Nat} {L : Nat} : ∀ (q : Nat) (i : Int) {m : Mem} {j : Int} (acc : List D) (e : Mem), m.length = L → Dr m r s ns j → acc.all okSize = true → acc.length + q < 900 →
    ∃ (acc' : List D) (e' : Mem) (j' : Int), 0 ≤ j' ∧ acc'.length = acc.length + q ∧ acc'.all okSize = true ∧
      loopC [] (lcB (wd T (k + 9)) [some (.ref r), none, none, none, none, none, none] [2] (.nm 2) .nil sizeX L) (count q i) (m ++ .lst acc :: e) = .ok () (up m r s j' ++ .lst acc' :: e')
  | 0, i, m, j, acc, e, hm, d, ha, hl => ⟨acc, e, j, d.pos, rfl, ha, by rw [up_self d]; rfl⟩
  | q + 1, i, m, j, acc, e, hm, d, ha, hl => by
    have dA := d.app (.lst acc :: e)
    obtain ⟨v, hv, e1⟩ := pick_new h.toHasDraw (k := k + 6) dA (ds := sizeL) (by simp [sizeL]) rfl
    rw [up_app d] at e1
    have ov : okSize v = true := by
      simp only [sizeL, List.mem_cons, List.not_mem_nil, or_false] at hv
      rcases hv with rfl | rfl | rfl | rfl | rfl | rfl <;> rfl
    have hj := d.pos
    have d1 := d.up (j' := j + 1) (by omega)
    obtain ⟨acc', e', j', hj', hl', ha', e2⟩ := sizes_loop h (k := k) (L := L) q (i + 1) (acc ++ [v]) (e ++ [.lst sizeL]) (by rw [up_len]; exact hm) d1 (by simp [ha, ov]) (by simp; omega)
    rw [up_up] at e2
    refine ⟨acc', e', j', hj', by rw [hl']; simp; omega, ha', ?_⟩
    rw [← e2]
    have hw : ∀ g, (wd T (k + 9)).has g = (T.df g).isSome := fun g => rfl
    have hcl : (wd T (k + 9)).call = callD T (k + 9) := rfl
    have l6 : (6 : Nat) ≤ lim := lt_lim (by omega)
    have ap := appAt_end (m := up m r s (j + 1)) (acc := acc) v (by unfold lim; omega) (e ++ [.lst sizeL])
    rw [up_len, hm] at ap
    simp only [Mp.count, loopC, Mp.still, if_true]
    have e0 : evE (wd T (k + 9)) sizeX [some (.ref r), none, some (.int i), none, none, none, none] (m ++ .lst acc :: e) = .ok v (up m r s (j + 1) ++ .lst acc :: (e ++ [.lst sizeL])) := by
      simp [sizeX, evE, evEs, hw, hcl, h.pick, cstD, newL, l6]
      simp [sizeL] at e1
      rw [e1]
      simp [sizeL]
    have es : setT (.nm 2) (.int i) (wipeE [some (.ref r), none, none, none, none, none, none] [2]) = some [some (.ref r), none, some (.int i), none, none, none, none] := rfl
    simp only [lcB, es, evTs_nil, R.bind_ok, if_true, e0, ap]
end
end Pg

set_option Elab.async false
set_option linter.all false
set_option maxRecDepth 100000
set_option maxHeartbeats 2000000
/-! A drawn program, whole. -/
namespace Pg
open PySem PySem.Spec PyProof.Rows L2 Mp
structure HasTold (T : Tab) : Prop extends HasDrawn T, HasHelp T where
  program : T.df ("_law_program", none) = some d_u_law_program
  made : T.df ("_law_made", none) = some d_u_law_made
def manyL : List D := [.int 0, .int 1, .int 1, .int 2, .int 2, .int 3]
def letL : List D := [.int 1, .int 2, .int 2, .int 2, .int 3]
def t1 : E := (.blt "tuple" (.cons false (.lc sizeX (.one [2] (.nm 2) (.rng1 (.call "_law_pick" (.cons false (.var 0) (.cons false (.lst (.cons false (.cst (.int 0)) (.cons false (.cst (.int 1)) (.cons false (.cst (.int 1)) (.cons false (.cst (.int 2)) (.cons false (.cst (.int 2)) (.cons false (.cst (.int 3)) .nil))))))) .nil)))) .nil)) .nil))
def t2 : E := (.tup (.cons false (.call "_law_steps" (.cons false (.var 0) (.cons false (.blt "len" (.cons false (.var 1) .nil)) (.cons false (.cst (.bl false)) (.cons false (.cst (.int 1)) (.cons false (.cst (.int 1)) .nil)))))) (.cons false (.call "_law_steps" (.cons false (.var 0) (.cons false (.blt "len" (.cons false (.var 1) .nil)) (.cons false (.cst (.bl true)) (.cons false (.cst (.int 2)) (.cons false (.cst (.int 3)) .nil)))))) (.cons false (.call "_law_steps" (.cons false (.var 0) (.cons false (.blt "len" (.cons false (.var 1) .nil)) (.cons false (.cst (.bl false)) (.cons false (.cst (.int 2)) (.cons false (.cst (.int 1)) .nil)))))) .nil))))
def t3 : Mp.S := (.ifs (.and (.cmp .ne (.var 1) (.tup .nil)) (.cmp .eq (.call "_law_take" (.cons false (.var 0) (.cons false (.cst (.int 2)) .nil))) (.cst (.int 0)))) 
    (.cons (.set (.nm 4) (.bin .add (.tup (.cons false (.tup (.cons false (.cst (.str "set")) (.cons false (.cst (.int 0)) (.cons false (.tup (.cons false (.cst (.str "plus")) (.cons false (.tup (.cons false (.cst (.str "var")) (.cons false (.cst (.int 0)) .nil))) (.cons false (.tup (.cons false (.cst (.str "letter")) .nil)) .nil)))) .nil)))) .nil)) (.var 4))) .nil) .nil)
def t4 : E := (.dct (.cons false (.cst (.str "letters")) (.cons false (.call "_law_pick" (.cons false (.var 0) (.cons false (.lst (.cons false (.cst (.int 1)) (.cons false (.cst (.int 2)) (.cons false (.cst (.int 2)) (.cons false (.cst (.int 2)) (.cons false (.cst (.int 3)) .nil)))))) .nil))) (.cons false (.cst (.str "sizes")) (.cons false (.var 1) (.cons false (.cst (.str "first")) (.cons false (.var 3) (.cons false (.cst (.str "each")) (.cons false (.var 4) (.cons false (.cst (.str "last")) (.cons false (.var 5) .nil)))))))))))
def t5 : E := (.ife (.cmp .lt (.blt "len" (.cons false (.call "_law_all_places" (.cons false (.var 6) .nil)) .nil)) (.cst (.int 13))) (.var 6) (.blt "dict" (.cons false (.bin .add (.un "items" (.var 6)) (.lst (.cons false (.tup (.cons false (.cst (.str "last")) (.cons false (.tup .nil) .nil))) .nil))) .nil)))
theorem b_program_eq : b_u_law_program = (.cons (.set (.nm 1) t1) (.cons (.set (.tu [.nm 3, .nm 4, .nm 5]) t2) (.cons t3 (.cons (.set (.nm 6) t4) (.cons (.ret t5) .nil))))) := rfl
section
variable {T : Tab} {m : Mem} {r s : Nat} {ns : List Int} {j : Int}
theorem l6 : (6 : Nat) ≤ lim := lt_lim (by omega)
theorem t1_ok (h : HasTold T) {k : Nat} (d : Dr m r s ns j) : ∃ (acc : List D) (g : Mem) (j' : Int), 0 ≤ j' ∧ acc.length ≤ 3 ∧ acc.all okSize = true ∧
    evE (wd T (k + 9)) t1 [some (.ref r), none, none, none, none, none, none] m = .ok (.tup acc) (up m r s j' ++ g) := by
  have hw : ∀ g, (wd T (k + 9)).has g = (T.df g).isSome := fun g => rfl
  have hcl : (wd T (k + 9)).call = callD T (k + 9) := rfl
  obtain ⟨v, hv, e1⟩ := pick_new h.toHasDraw (k := k + 6) d (ds := manyL) (by simp [manyL]) rfl
  have hj := d.pos
  have hv' : ∃ q : Nat, v = .int q ∧ q ≤ 3 := by
    simp only [manyL, List.mem_cons, List.not_mem_nil, or_false] at hv
    rcases hv with rfl | rfl | rfl | rfl | rfl | rfl
    · exact ⟨0, rfl, by omega⟩
    · exact ⟨1, rfl, by omega⟩
    · exact ⟨1, rfl, by omega⟩
    · exact ⟨2, rfl, by omega⟩
    · exact ⟨2, rfl, by omega⟩
    · exact ⟨3, rfl, by omega⟩
  obtain ⟨q, rfl, hq⟩ := hv'
  have d1 := d.up (j' := j + 1) (by omega)
  have d1A := d1.app [.lst manyL]
  obtain ⟨acc, e', j1, hj1, hl, ha, e2⟩ := sizes_loop h.toHasDrawn (k := k) (L := m.length + 1) q 0 [] [] (by simp [up_len]) d1A rfl (by simp; omega)
  rw [up_app d1, up_up] at e2
  refine ⟨acc, .lst manyL :: .lst acc :: e', j1, hj1, by rw [hl]; simp; omega, ha, ?_⟩
  have rg : rngOk (q : Int) = true := by simp [rngOk]; omega
  have e0 : evE (wd T (k + 9)) (.call "_law_pick" (.cons false (.var 0) (.cons false (.lst (.cons false (.cst (.int 0)) (.cons false (.cst (.int 1)) (.cons false (.cst (.int 1)) (.cons false (.cst (.int 2)) (.cons false (.cst (.int 2)) (.cons false (.cst (.int 3)) .nil))))))) .nil))) [some (.ref r), none, none, none, none, none, none] m = .ok (.int q) (up m r s (j + 1) ++ [.lst manyL]) := by
    simp only [evE, evEs, hw, hcl, h.pick, cstD, newL, R.bind_ok, Bool.false_eq_true, if_false, List.getElem?_cons_zero, Option.isSome_some, Bool.not_true, List.length_cons, List.length_nil, Nat.zero_add, Nat.reduceAdd, l6, if_true]
    exact e1
  have la : Mp.listAt (up m r s j1 ++ O.lst manyL :: O.lst acc :: e') (m.length + 1) = some acc := by
    have z := get_end (up m r s j1 ++ [O.lst manyL]) (O.lst acc) e'
    simp only [List.append_assoc, List.cons_append, List.nil_append, List.length_append, up_len, List.length_cons, List.length_nil, Nat.zero_add] at z
    unfold Mp.listAt
    rw [z]
  have e3 : evE (wd T (k + 9)) (.lc sizeX (.one [2] (.nm 2) (.rng1 (.call "_law_pick" (.cons false (.var 0) (.cons false (.lst (.cons false (.cst (.int 0)) (.cons false (.cst (.int 1)) (.cons false (.cst (.int 1)) (.cons false (.cst (.int 2)) (.cons false (.cst (.int 2)) (.cons false (.cst (.int 3)) .nil))))))) .nil)))) .nil)) [some (.ref r), none, none, none, none, none, none] m = .ok (.ref (m.length + 1)) (up m r s j1 ++ O.lst manyL :: O.lst acc :: e') := by
    have e4 : evI (wd T (k + 9)) (.rng1 (.call "_law_pick" (.cons false (.var 0) (.cons false (.lst (.cons false (.cst (.int 0)) (.cons false (.cst (.int 1)) (.cons false (.cst (.int 1)) (.cons false (.cst (.int 2)) (.cons false (.cst (.int 2)) (.cons false (.cst (.int 3)) .nil))))))) .nil)))) [some (.ref r), none, none, none, none, none, none] m = .ok (count q 0, []) (up m r s (j + 1) ++ [.lst manyL]) := by
      rw [evI, e0, R.bind_ok]
      show (if rngOk (q : Int) then R.ok (count (q : Int).toNat 0, ([] : Src)) _ else .bad) = _
      rw [if_pos rg, Int.toNat_natCast]
    have hln : (up m r s (j + 1) ++ [O.lst manyL]).length = m.length + 1 := by simp [up_len]
    rw [evE_lc, e4, if_neg (by simp), R.bind_ok, hln, e2, R.calm_ok, R.bind_ok, List.append_assoc]
    rfl
  unfold t1
  rw [evE, evEs, e3]
  simp only [evEs, wd_hot, Bool.false_and, Bool.false_eq_true, if_false, R.bind_ok]
  simp [bltin, seqOf, la]
theorem t2_ok (h : HasTold T) {k : Nat} (d : Dr m r s ns j) {acc : List D} : ∃ (c1 c2 c3 : D) (j' : Int), 0 ≤ j' ∧ OkS acc.length false 0 1 c1 ∧ OkS acc.length true 1 3 c2 ∧ OkS acc.length false 1 1 c3 ∧
    evE (wd T (k + 9)) t2 [some (.ref r), some (.tup acc), none, none, none, none, none] m = .ok (.tup [c1, c2, c3]) (up m r s j') := by
  have hw : ∀ g, (wd T (k + 9)).has g = (T.df g).isSome := fun g => rfl
  have hcl : (wd T (k + 9)).call = callD T (k + 9) := rfl
  obtain ⟨c1, j1, hj1, e1, o1⟩ := steps_ok h.toHasDrawn 0 (k + 1) (v := acc.length) (l := false) (most := 1) d (by omega) (by omega)
  have d1 := d.up hj1
  obtain ⟨c2, j2, hj2, e2, o2⟩ := steps_ok h.toHasDrawn 1 k (v := acc.length) (l := true) (most := 3) d1 (by omega) (by omega)
  rw [up_up] at e2
  have d2 := d.up hj2
  obtain ⟨c3, j3, hj3, e3, o3⟩ := steps_ok h.toHasDrawn 1 k (v := acc.length) (l := false) (most := 1) d2 (by omega) (by omega)
  rw [up_up] at e3
  rw [show 0 + (k + 1 + 8) = k + 9 from by omega] at e1
  rw [show 1 + (k + 8) = k + 9 from by omega] at e2 e3
  have e1 : callD T (k + 9) ("_law_steps", none) [.ref r, .int acc.length, .bl false, .int 1, .int 1] m = .ok c1 (up m r s j1) := e1
  have e2 : callD T (k + 9) ("_law_steps", none) [.ref r, .int acc.length, .bl true, .int 2, .int 3] (up m r s j1) = .ok c2 (up m r s j2) := e2
  have e3 : callD T (k + 9) ("_law_steps", none) [.ref r, .int acc.length, .bl false, .int 2, .int 1] (up m r s j2) = .ok c3 (up m r s j3) := e3
  refine ⟨c1, c2, c3, j3, hj3, o1, o2, o3, ?_⟩
  have hl : ∀ M, bltin "len" [.tup acc] M = .ok (.int acc.length) M := fun M => bltin_len rfl
  simp [t2, evE, evEs, hw, hcl, h.steps, cstD, hl, e1, e2, e3, tupR, len3]
def addS : D := .tup [.str "set", .int 0, .tup [.str "plus", .tup [.str "var", .int 0], .tup [.str "letter"]]]
theorem t3_ok (h : HasTold T) {k : Nat} (d : Dr m r s ns j) {acc : List D} (ha : acc.all okSize = true) (hl3 : acc.length ≤ 3) {c1 c2 c3 : D} (o2 : OkS acc.length true 1 3 c2) : ∃ (c2' : D) (j' : Int), 0 ≤ j' ∧ OkS acc.length true 1 4 c2' ∧ cnt 3 c2' ≤ 10 ∧
    evS (wd T (k + 9)) T.exf T.sub t3 [some (.ref r), some (.tup acc), none, some c1, some c2, some c3, none] m = .nx [some (.ref r), some (.tup acc), none, some c1, some c2', some c3, none] (up m r s j') := by
  have hw : ∀ g, (wd T (k + 9)).has g = (T.df g).isSome := fun g => rfl
  have hcl : (wd T (k + 9)).call = callD T (k + 9) := rfl
  have hj := d.pos
  have n2 := o2.cnt (n' := 3) (by omega)
  simp only [bd] at n2
  obtain ⟨cs, rfl, hl, hT⟩ := o2.row
  have o4 : OkS acc.length true 1 4 (.tup cs) := ⟨⟨cs, rfl, by omega, hT⟩⟩
  have pa : Pu (.tup acc) := by
    refine pu_tup (Pus_all fun x hx => ?_)
    have := List.all_eq_true.mp ha x hx
    cases x with
    | int i => rfl
    | _ => cases this
  have da : dep (.tup acc) ≤ 64 := by
    have : deps acc ≤ 0 := deps_all fun x hx => by
      have := List.all_eq_true.mp ha x hx
      cases x with
      | int i => exact Nat.le_refl _
      | _ => cases this
    simp only [dep]; omega
  have pn : Pu (.tup []) := pu_tup rfl
  cases hacc : acc with
  | nil =>
    rw [hacc] at pa da o4
    have e1 : eqD m (.tup []) (.tup []) = some true := eqD_self pn (by decide)
    have c1 := cmp_neD (W := wd T (k + 9)) (own_tup _) e1
    have l0 : (0 : Nat) ≤ lim := Nat.zero_le _
    refine ⟨_, j, hj, o4, by omega, ?_⟩
    simp [t3, evS, evSs, evE, evEs, tupR, c1, up_self d]
  | cons a0 ar =>
    have e1 : eqD m (.tup acc) (.tup []) = some false := by
      rw [eqD_data (data_pu pa da) (data_pu pn (by decide)), hacc]; rfl
    have c1 := cmp_neD (W := wd T (k + 9)) (own_tup _) e1
    rw [← hacc]
    obtain ⟨q, q0, q1, e2⟩ := take_ok h.toHasDraw (k := k + 7) d (show (0 : Int) < 2 by decide)
    by_cases z : q = 0
    · subst z
      have v0 : (0 : Int) < (acc.length : Int) := by rw [hacc]; simp
      have ot : OkT acc.length true 1 addS := okT_set (by decide) v0 (okE_sum (.inl rfl) (okE_var _ _ (by decide) v0) (okE_letter _))
      refine ⟨.tup (addS :: cs), j + 1, by omega, ⟨⟨_, rfl, by simp; omega, fun x hx => ?_⟩⟩, ?_, ?_⟩
      · rcases List.mem_cons.mp hx with rfl | hx
        · exact ot
        · exact hT x hx
      · have e3 : cnt 3 (.tup (addS :: cs)) = 1 + cnt 3 (.tup cs) := by
          show (addS :: cs).length + (ifN (cnt 2) addS + sumIf (cnt 2) cs) = 1 + (cs.length + sumIf (cnt 2) cs)
          have : ifN (cnt 2) addS = 0 := by simp [ifN, ifParts, addS]
          simp [this]; omega
        omega
      · have bt := bin_tup (m := up m r s (j + 1)) [addS] cs (by simp; unfold lim; omega)
        simp [addS] at bt
        simp [t3, evS, evSs, evE, evEs, tupR, c1, hw, hcl, h.take, cstD, e2, len3, len2, len1, setT, addS]
        rw [bt]
        simp
    · refine ⟨_, j + 1, by omega, o4, by omega, ?_⟩
      simp [t3, evS, evSs, evE, evEs, tupR, c1, hw, hcl, h.take, cstD, e2, z]
theorem t4_ok (h : HasTold T) {k : Nat} (d : Dr m r s ns j) {b c d' e : D} : ∃ (n : Int) (j' : Int), 0 ≤ j' ∧ 1 ≤ n ∧ n ≤ 3 ∧
    evE (wd T (k + 9)) t4 [some (.ref r), some b, none, some c, some d', some e, none] m = .ok (.ref m.length) (up m r s j' ++ [.dct (tkv (.int n) b c d' e), .lst letL]) := by
  have hw : ∀ g, (wd T (k + 9)).has g = (T.df g).isSome := fun g => rfl
  have hcl : (wd T (k + 9)).call = callD T (k + 9) := rfl
  have hj := d.pos
  have dA := d.app [.dct []]
  obtain ⟨v, hv, e1⟩ := pick_new h.toHasDraw (k := k + 6) dA (ds := letL) (by simp [letL]) rfl
  rw [up_app d] at e1
  have hv' : ∃ n : Int, v = .int n ∧ 1 ≤ n ∧ n ≤ 3 := by
    simp only [letL, List.mem_cons, List.not_mem_nil, or_false] at hv
    rcases hv with rfl | rfl | rfl | rfl | rfl <;> exact ⟨_, rfl, by decide, by decide⟩
  obtain ⟨n, rfl, h1, h3⟩ := hv'
  refine ⟨n, j + 1, by omega, h1, h3, ?_⟩
  have g0 := get_end (up m r s (j + 1)) (O.dct []) [O.lst letL]
  have s0 := fun o' => set_end (up m r s (j + 1)) (O.dct []) o' [O.lst letL]
  rw [up_len] at g0 s0
  simp [letL] at e1 g0 s0
  simp [t4, evE, evEs, hw, hcl, h.pick, cstD, newL, len5, e1, letL, g0, s0, dctOf, keyIn, dkey, isTupK, kvPut, tkv]
end
end Pg

set_option Elab.async false
set_option linter.all false
set_option maxRecDepth 100000
set_option maxHeartbeats 2000000
/-! A drawn program, to its end. -/
namespace Pg
open PySem PySem.Spec PyProof.Rows L2 Mp
section
variable {T : Tab} {m : Mem} {r s : Nat} {ns : List Int} {j : Int}
theorem t5_ok (h : HasTold T) {k i : Nat} {a b c d e : D} {v : Int} {ρ : Mp.Env} (hρ : ρ[6]? = some (some (.ref i))) (t : IsTold m i a b c d e) (pc : OkS v false 0 1 c) (pd : OkS v true 1 4 d) (pe : OkS v false 1 1 e) (nd : cnt 3 d ≤ 10) :
    ∃ (g : Mem) (i' : Nat) (e' : D), evE (wd T (k + 9)) t5 ρ m = .ok (.ref i') (m ++ g) ∧ IsTold (m ++ g) i' a b c d e' ∧ OkS v false 1 1 e' ∧ many c d e' ≤ 12 ∧ (i' = i ∨ m.length ≤ i') := by
  have hw : ∀ g, (wd T (k + 9)).has g = (T.df g).isSome := fun g => rfl
  have hcl : (wd T (k + 9)).call = callD T (k + 9) := rfl
  obtain ⟨g, i1, e1, ds, p1, p2, p3, p4⟩ := all_places_ok h.toHasHelp (k := k + 4) t pc pd pe
  have hl : bltin "len" [.ref i1] (m ++ g) = .ok (.int (many c d e : Nat)) (m ++ g) := by
    rw [bltin_len (rowAt_len (rowAt_of p1)), p2]
  by_cases z : many c d e < 13
  · have z' : ((many c d e : Nat) : Int) < 13 := by omega
    refine ⟨g, i, e, ?_, t.app g, pe, by omega, .inl rfl⟩
    simp [t5, evE, evEs, hρ, hw, hcl, h.all, e1, hl, cstD, z']
  · have z' : ¬ ((many c d e : Nat) : Int) < 13 := by omega
    have n1 := pc.cnt (n' := 3) (by omega)
    simp only [bd] at n1
    have ti := (t.app g).at_
    let kv := tkv a b c d e
    have un : unD "items" (.ref i) (m ++ g) = .ok (.ref (m ++ g).length) (m ++ g ++ [.lst (itemsD kv)]) := by
      have da : dctAt (m ++ g) i = some kv := by simp [dctAt, ti, kv]
      show (match dctAt (m ++ g) i with
        | some kvs => if "items" = ("items" : Str) then newL (itemsD kvs) (m ++ g) else .bad
        | none => .bad) = _
      rw [da]
      simp [newL, itemsD, kv, tkv, len5]
    have ap : binD .add (.ref (m ++ g).length) (.ref (m ++ g ++ [O.lst (itemsD kv)]).length) (m ++ g ++ [.lst (itemsD kv)] ++ [.lst [.tup [.str "last", .tup []]]]) = .ok (.ref (m ++ g ++ [O.lst (itemsD kv)] ++ [O.lst [.tup [.str "last", .tup []]]]).length) (m ++ g ++ [.lst (itemsD kv)] ++ [.lst [.tup [.str "last", .tup []]]] ++ [.lst (itemsD kv ++ [.tup [.str "last", .tup []]])]) := by
      refine bin_lst ?_ (get_end _ _ []) ?_
      · rw [List.append_assoc (m ++ g)]
        exact get_end (m ++ g) (O.lst (itemsD kv)) _
      · simp [itemsD, kv, tkv]; exact l6
    let M := m ++ g ++ [O.lst (itemsD kv)] ++ [O.lst [D.tup [.str "last", .tup []]]]
    have dc : bltin "dict" [.ref M.length] (M ++ [O.lst (itemsD kv ++ [.tup [.str "last", .tup []]])]) = .ok (.ref (M ++ [O.lst (itemsD kv ++ [.tup [.str "last", .tup []]])]).length) (M ++ [O.lst (itemsD kv ++ [.tup [.str "last", .tup []]])] ++ [.dct (tkv a b c d (.tup []))]) := by
      have la : Mp.listAt (M ++ [O.lst (itemsD kv ++ [.tup [.str "last", .tup []]])]) M.length = some (itemsD kv ++ [.tup [.str "last", .tup []]]) := by
        unfold Mp.listAt
        rw [get_end M _ []]
      have po : pairsOf (M ++ [O.lst (itemsD kv ++ [.tup [.str "last", .tup []]])]) (itemsD kv ++ [.tup [.str "last", .tup []]]) [] = some (tkv a b c d (.tup [])) := by
        simp [itemsD, kv, tkv, Mp.pairsOf, keyIn, dkey, isTupK, kvPut]
      simp only [bltin, la, Option.bind_some, po]
      simp [tkv, len5]
    refine ⟨g ++ [O.lst (itemsD kv)] ++ [O.lst [.tup [.str "last", .tup []]]] ++ [O.lst (itemsD kv ++ [.tup [.str "last", .tup []]])] ++ [.dct (tkv a b c d (.tup []))], (M ++ [O.lst (itemsD kv ++ [.tup [.str "last", .tup []]])]).length, .tup [], ?_, ⟨?_⟩, ⟨⟨[], rfl, by simp, by simp⟩⟩, ?_, .inr ?_⟩
    · have l0 : (0 : Nat) ≤ lim := Nat.zero_le _
      have t1 : evE (wd T (k + 9)) (.cmp .lt (.blt "len" (.cons false (.call "_law_all_places" (.cons false (.var 6) .nil)) .nil)) (.cst (.int 13))) ρ m = .ok (.bl false) (m ++ g) := by
        simp [evE, evEs, hρ, hw, hcl, h.all, e1, hl, cstD, z']
      unfold t5
      rw [evE, t1]
      simp only [truthR_ok, truthE_bl, R.bind_ok, Bool.false_eq_true, if_false]
      simp only [evE, evEs, wd_hot, Bool.false_and, Bool.false_eq_true, if_false, hρ, R.bind_ok, un, cstD, tupR, List.length_nil, l0, if_true, List.length_cons, Nat.zero_add, Nat.reduceAdd, len2, newL, len1, ap]
      simp only [M] at dc
      rw [dc]
      simp only [M, List.append_assoc, List.cons_append, List.nil_append]
    · have := get_end (M ++ [O.lst (itemsD kv ++ [.tup [.str "last", .tup []]])]) (O.dct (tkv a b c d (.tup []))) []
      simpa [M] using this
    · have : cnt 3 (.tup []) = 0 := rfl
      simp only [many, this]; omega
    · simp [M]
theorem program_ok (h : HasTold T) {k : Nat} (d : Dr m r s ns j) : ∃ (j' : Int) (g : Mem) (i : Nat) (a b c d' e : D), 0 ≤ j' ∧ callD T (k + 10) ("_law_program", none) [.ref r] m = .ok (.ref i) (up m r s j' ++ g) ∧ IsTold (up m r s j' ++ g) i a b c d' e ∧ TP a b c d' e := by
  rw [callD_succ, h.program]
  obtain ⟨acc, g1, j1, hj1, hl, ha, e1⟩ := t1_ok h (k := k) d
  have d1 := (d.up hj1).app g1
  obtain ⟨c1, c2, c3, j2, hj2, o1, o2, o3, e2⟩ := t2_ok h (k := k) d1 (acc := acc)
  rw [up_app (d.up hj1), up_up] at e2
  have d2 := (d.up hj2).app g1
  obtain ⟨c2', j3, hj3, o2', n2, e3⟩ := t3_ok h (k := k) d2 ha hl (c1 := c1) (c3 := c3) o2
  rw [up_app (d.up hj2), up_up] at e3
  have d3 := (d.up hj3).app g1
  obtain ⟨n, j4, hj4, n1, n3, e4⟩ := t4_ok h (k := k) d3 (b := .tup acc) (c := c1) (d' := c2') (e := c3)
  rw [up_app (d.up hj3), up_up] at e4
  let i0 := (up m r s j3 ++ g1).length
  have ti : IsTold (up m r s j4 ++ g1 ++ [.dct (tkv (.int n) (.tup acc) c1 c2' c3), .lst letL]) i0 (.int n) (.tup acc) c1 c2' c3 := ⟨by
    have := get_end (up m r s j4 ++ g1) (O.dct (tkv (.int n) (.tup acc) c1 c2' c3)) [.lst letL]
    have hle : (up m r s j4 ++ g1).length = i0 := by simp [i0, up_len]
    rw [hle] at this
    exact this⟩
  obtain ⟨g2, i', e', e5, ti', o3', mn, hi⟩ := t5_ok h (k := k) (ρ := [some (.ref r), some (.tup acc), none, some c1, some c2', some c3, some (.ref i0)]) rfl ti o1 o2' o3 n2
  have hLi : m.length ≤ i' := by
    rcases hi with rfl | hi
    · simp [i0, up_len]
    · simp [up_len] at hi; omega
  have pub : Pu (.tup acc) := by
    refine pu_tup (Pus_all fun x hx => ?_)
    have := List.all_eq_true.mp ha x hx
    cases x with
    | int i => rfl
    | _ => cases this
  have tp : TP (.int n) (.tup acc) c1 c2' e' := ⟨⟨n, rfl, n1, n3⟩, by simp [okSizes, ha, hl], by
    have : sms acc = true := sms_all fun x hx => by
      have := List.all_eq_true.mp ha x hx
      cases x with
      | int i => rfl
      | _ => cases this
    simp [sm, this]; omega, pub, by
    have : deps acc ≤ 0 := deps_all fun x hx => by
      have := List.all_eq_true.mp ha x hx
      cases x with
      | int i => exact Nat.le_refl _
      | _ => cases this
    simp only [dep]; omega, o1, o2', o3', mn⟩
  have hno : refsO (.dct (tkv (.int n) (.tup acc) c1 c2' e')) = [] := by
    have h1 := Pu.refs o1.pu
    have h2 := Pu.refs o2'.pu
    have h3 := Pu.refs o3'.pu
    have h4 := Pu.refs pub
    simp [refsO, refsKV, tkv, refsD, h1, h2, h3]
    simpa [refsD] using h4
  have fin := ti'.at_
  simp only [List.append_assoc] at fin
  obtain ⟨g', i2, q1, q2, q3⟩ := gc_new (d.old j4) _ fin hno hLi
  refine ⟨j4, g', i2, _, _, _, _, _, hj4, ?_, ⟨q3⟩, tp⟩
  simp only [d_u_law_program, b_program_eq]
  simp only [List.length_cons, List.length_nil, if_true, startE, List.map_cons, List.map_nil, List.replicate, List.cons_append, List.nil_append, Nat.zero_add, Nat.reduceSub]
  rw [evSs, evS, e1]
  simp only [wd_hot, Bool.false_and, Bool.false_eq_true, if_false, thenS_ok, setT, List.set, seqS_nx]
  rw [evSs, evS, e2]
  simp only [wd_hot, Bool.false_and, Bool.false_eq_true, if_false, thenS_ok, setT, List.set, seqS_nx]
  rw [evSs, e3]
  simp only [seqS_nx]
  rw [evSs, evS, e4]
  simp only [wd_hot, Bool.false_and, Bool.false_eq_true, if_false, thenS_ok, setT, List.set, seqS_nx]
  rw [evSs, evS]
  simp only [i0] at e5
  rw [e5]
  simp only [thenS_ok, seqS_rt, finR_rt, List.append_assoc] at q1 ⊢
  exact q1
end
end Pg

set_option Elab.async false
set_option linter.all false
set_option maxRecDepth 100000
set_option maxHeartbeats 2000000
/-! Programs made. -/
namespace Pg
open PySem PySem.Spec PyProof.Rows L2 Mp
section
variable {T : Tab} {m : Mem}
theorem mk_prog (h : HasProg T) {k : Nat} {ρ : Mp.Env} {es : Mp.Es} {m m1 : Mem} {a b c d e da db dc dd de : D} (he : evEs (wd T (k + 18)) es ρ m = .ok [da, db, dc, dd, de] m1)
    (ga : Good m1 (k + 14) a da) (gb : Good m1 (k + 14) b db) (gc : Good m1 (k + 14) c dc) (gd : Good m1 (k + 14) d dd) (ge : Good m1 (k + 14) e de) :
    ∃ fs, refsF fs = [] ∧ evE (wd T (k + 18)) (.mk "Program" es) ρ m = match initX a b c d e with
      | none => .ok (.ref m1.length) (m1 ++ [.ins "Program" (fsOf a b c d e)])
      | some x => .exc x (m1 ++ [.ins "Program" fs]) := by
  obtain ⟨fs, hfs, z⟩ := init_ok h (k := k) ga gb gc gd ge
  refine ⟨fs, hfs, ?_⟩
  have hk : (wd T (k + 18)).make = callD T (k + 17) := rfl
  have hh : (wd T (k + 18)).has ("Program", some "__init__") = true := by simp [h.init]
  rw [evE]
  simp only [wd_isC, h.cls, hh, Bool.and_self, Bool.not_true, Bool.false_eq_true, if_false, he, R.bind_ok, hk, z]
  cases initX a b c d e with
  | none => simp
  | some x => simp
theorem TP.init {a b c d e : D} (t : TP a b c d e) : initX a b c d e = none := by
  obtain ⟨n, rfl, h1, h3⟩ := t.pa
  have e1 : (isN (.int n) && inI 1 3 (.int n)) = true := by simp [isN, inI, h1, h3]; omega
  have e2 : badAt b c d e = none := by
    unfold badAt
    rw [t.pc.ok (by omega), t.pd.ok (by omega), t.pe.ok (by omega)]; rfl
  unfold initX
  simp [e1, t.pb, e2, t.mn]
theorem TP.good {a b c d e : D} (t : TP a b c d e) (m : Mem) (k : Nat) : Good m (k + 14) a a ∧ Good m (k + 14) b b ∧ Good m (k + 14) c c ∧ Good m (k + 14) d d ∧ Good m (k + 14) e e := by
  obtain ⟨n, rfl, h1, h3⟩ := t.pa
  refine ⟨⟨rfl, rfl, by simp [dep]⟩, ⟨t.ub.to m, t.sb, by have := t.db; omega⟩, ⟨t.pc.pu.to m, t.pc.sm (by omega), by have := t.pc.dep; omega⟩, ⟨t.pd.pu.to m, t.pd.sm (by omega), by have := t.pd.dep; omega⟩, ⟨t.pe.pu.to m, t.pe.sm (by omega), by have := t.pe.dep; omega⟩⟩
theorem TP.prog {a b c d e : D} (t : TP a b c d e) {m : Mem} {i : Nat} (h : m[i]? = some (.ins "Program" (fsOf a b c d e))) : IsProg m i a b c d e := by
  obtain ⟨n, rfl, h1, h3⟩ := t.pa
  exact ⟨h, rfl, t.ub, t.pc.pu, t.pd.pu, t.pe.pu, by simp [dep], by have := t.db; omega, by have := t.pc.dep; omega, by have := t.pd.dep; omega, by have := t.pe.dep; omega⟩
theorem TP.norefs {a b c d e : D} (t : TP a b c d e) : refsF (fsOf a b c d e) = [] := by
  obtain ⟨n, rfl, h1, h3⟩ := t.pa
  simp [fsOf, refsF, refsD, Pu.refs t.ub, Pu.refs t.pc.pu, Pu.refs t.pd.pu, Pu.refs t.pe.pu]
theorem made_ok (hp : HasProg T) (h : HasTold T) {k i : Nat} {a b c d e : D} (t : IsTold m i a b c d e) (p : TP a b c d e) :
    ∃ (g : Mem) (i' : Nat), callD T (k + 19) ("_law_made", none) [.ref i] m = .ok (.ref i') (m ++ g) ∧ IsProg (m ++ g) i' a b c d e ∧ m.length ≤ i' := by
  rw [callD_succ, h.made]
  obtain ⟨x1, x2, x3, x4, x5⟩ := t.idx
  obtain ⟨g1, g2, g3, g4, g5⟩ := p.good m k
  obtain ⟨fs, _, z⟩ := mk_prog hp (k := k) (ρ := [some (.ref i)]) (m := m) (es := (.cons false (.idx (.var 0) (.cst (.str "letters"))) (.cons false (.idx (.var 0) (.cst (.str "sizes"))) (.cons false (.idx (.var 0) (.cst (.str "first"))) (.cons false (.idx (.var 0) (.cst (.str "each"))) (.cons false (.idx (.var 0) (.cst (.str "last"))) .nil)))))) (by
    simp [evEs, evE, cstD, x1, x2, x3, x4, x5]) g1 g2 g3 g4 g5
  rw [p.init] at z
  obtain ⟨e', i', q1, q2, q3⟩ := gc_new (Old.refl m) [.ins "Program" (fsOf a b c d e)] (get_end m _ []) (by simpa [refsO] using p.norefs) (Nat.le_refl _)
  refine ⟨e', i', ?_, p.prog q3, q2⟩
  simp only [d_u_law_made, b_u_law_made]
  simp only [List.length_cons, List.length_nil, if_true, startE, List.map_cons, List.map_nil, List.replicate, List.cons_append, List.nil_append, Nat.zero_add, Nat.reduceSub, evSs, evS]
  rw [z]
  simp only [thenS_ok, seqS_rt, finR_rt]
  exact q1
/-! ### texts of made things: what they stand for -/
/-- names that stand for data: by their slots -/
def RhoP (m : Mem) (ρP : Nat → Option D) (ρ : Mp.Env) : Prop := ∀ i c, ρP i = some c → ∃ d, ρ[i]? = some (some d) ∧ Rp m c d
mutual
def lit (ρP : Nat → Option D) : E → Option D
  | .cst c => (match c with
    | .str s => if PyData.strOk s then some (.str s) else none
    | c => some (cstD c))
  | .var i => ρP i
  | .tup es => (lits ρP es).bind fun cs => if cs.length ≤ 900 then some (.tup cs) else none
  | .lst es => (lits ρP es).bind fun cs => if cs.length ≤ 900 then some (.tup cs) else none
  | .bin .mul (.lst es) (.cst (.int n)) => (lits ρP es).bind fun cs => if cs.length ≤ 30 ∧ 0 ≤ n ∧ n ≤ 30 then some (.tup (times n.toNat cs)) else none
  | _ => none
def lits (ρP : Nat → Option D) : Mp.Es → Option (List D)
  | .nil => some []
  | .cons false e r => (lit ρP e).bind fun c => (lits ρP r).bind fun q => some (c :: q)
  | .cons true _ _ => none
end
theorem RhoP.mono {m' : Mem} {ρP : Nat → Option D} {ρ : Mp.Env} (h : RhoP m ρP ρ) (e : Le m m') : RhoP m' ρP ρ := fun i c z => by
  obtain ⟨d, a, b⟩ := h i c z
  exact ⟨d, a, b.mono e⟩
section
variable {W : Wd} {ρP : Nat → Option D} {ρ : Mp.Env}
theorem times_len (n : Nat) (ds : List D) : (times n ds).length = ds.length * n := by
  induction n with
  | zero => rfl
  | succ n ih => simp [times, ih, Nat.mul_succ]; omega
theorem times_rep {m : Mem} (n : Nat) {cs ds : List D} (h : Rps m cs ds) : Rps m (times n cs) (times n ds) := by
  induction n with
  | zero => rfl
  | succ n ih => exact h.append ih
theorem lim900 {n : Nat} (h : n ≤ 900) : n ≤ lim := by unfold lim; omega
mutual
theorem lit_ok : ∀ (x : E) {c : D} {m : Mem}, RhoP m ρP ρ → lit ρP x = some c → ∃ (g : Mem) (d : D), evE W x ρ m = .ok d (m ++ g) ∧ Rp (m ++ g) c d
  | .cst k, c, m, hr, hx => by
    cases k with
    | str s =>
      simp only [lit] at hx
      split at hx
      · rename_i z; cases hx
        exact ⟨[], .str s, by simp [evE, cstD], ⟨rfl, z⟩⟩
      · cases hx
    | non => simp only [lit] at hx; cases hx; exact ⟨[], _, by simp [evE]; rfl, rfl⟩
    | bl b => simp only [lit] at hx; cases hx; exact ⟨[], _, by simp [evE]; rfl, rfl⟩
    | int b => simp only [lit] at hx; cases hx; exact ⟨[], _, by simp [evE]; rfl, rfl⟩
  | .var i, c, m, hr, hx => by
    simp only [lit] at hx
    obtain ⟨d, a, b⟩ := hr i c hx
    exact ⟨[], d, by simp [evE, a], by simpa using b⟩
  | .tup es, c, m, hr, hx => by
    simp only [lit] at hx
    cases hy : lits ρP es with
    | none => rw [hy] at hx; cases hx
    | some cs =>
      rw [hy, Option.bind_some] at hx
      split at hx
      · rename_i hl
        cases hx
        obtain ⟨g, ds, e1, q⟩ := lits_ok es hr hy
        refine ⟨g, .tup ds, ?_, ?_⟩
        · have := Rps.length q
          simp [evE, e1, tupR, lim900 (show ds.length ≤ 900 by omega)]
        · rw [Rp]; exact ⟨ds, rfl, q⟩
      · cases hx
  | .lst es, c, m, hr, hx => by
    simp only [lit] at hx
    cases hy : lits ρP es with
    | none => rw [hy] at hx; cases hx
    | some cs =>
      rw [hy, Option.bind_some] at hx
      split at hx
      · rename_i hl
        cases hx
        obtain ⟨g, ds, e1, q⟩ := lits_ok es hr hy
        refine ⟨g ++ [.lst ds], .ref (m ++ g).length, ?_, ?_⟩
        · have := Rps.length q
          simp [evE, e1, newL, lim900 (show ds.length ≤ 900 by omega)]
        · rw [Rp, ← List.append_assoc]
          exact ⟨ds, rowAt_of (get_end _ _ []), q.mono (Le.app _)⟩
      · cases hx
  | .glo _, _, _, _, hx => by cases hx
  | .bin op a b, c, m, hr, hx => by
    unfold lit at hx
    split at hx
    · rename_i e; cases e
    · rename_i e; cases e
    · rename_i e; cases e
    · rename_i e; cases e
    rotate_left
    · cases hx
    · rename_i es n e
      cases e
      cases hy : lits ρP es with
      | none => rw [hy] at hx; cases hx
      | some cs =>
        rw [hy, Option.bind_some] at hx
        split at hx
        · rename_i hl
          cases hx
          obtain ⟨g, ds, e1, q⟩ := lits_ok es hr hy
          have hlen := Rps.length q
          have hg := get_end (m ++ g) (O.lst ds) []
          have hb : ds.length * n.toNat ≤ 30 * 30 := Nat.mul_le_mul (by omega) (by omega)
          have ht := times_rep n.toNat q
          have htl := times_len n.toNat ds
          refine ⟨g ++ [.lst ds] ++ [.lst (times n.toNat ds)], .ref (m ++ g ++ [O.lst ds]).length, ?_, ?_⟩
          · have e2 : binD .mul (.ref (m ++ g).length) (.int n) (m ++ g ++ [O.lst ds]) = newL (times n.toNat ds) (m ++ g ++ [O.lst ds]) := by
              show (match (m ++ g ++ [O.lst ds])[(m ++ g).length]? with
                | some (.lst x) => if 0 ≤ n ∧ x.length * n.toNat ≤ lim ∧ n < 1000000 then newL (times n.toNat x) (m ++ g ++ [O.lst ds]) else .bad
                | _ => .bad) = _
              rw [hg]
              show (if 0 ≤ n ∧ ds.length * n.toNat ≤ lim ∧ n < 1000000 then newL (times n.toNat ds) (m ++ g ++ [.lst ds]) else .bad) = _
              rw [if_pos ⟨hl.2.1, by unfold lim; omega, by omega⟩]
            simp only [evE, e1, R.bind_ok, newL, lim900 (show ds.length ≤ 900 by omega), if_true, cstD]
            rw [e2]
            simp only [newL, lim900 (show (times n.toNat ds).length ≤ 900 by omega), if_true, List.append_assoc]
          · rw [Rp]
            refine ⟨times n.toNat ds, rowAt_of ?_, ?_⟩
            · have := get_end (m ++ g ++ [O.lst ds]) (O.lst (times n.toNat ds)) []
              simpa using this
            · have := (ht.mono (Le.app [.lst ds])).mono (Le.app [.lst (times n.toNat ds)])
              simpa using this
        · cases hx
  | .neg _, _, _, _, hx => by cases hx
  | .not _, _, _, _, hx => by cases hx
  | .and _ _, _, _, _, hx => by cases hx
  | .or _ _, _, _, _, hx => by cases hx
  | .cmp _ _ _, _, _, _, hx => by cases hx
  | .chn _ _ _ _ _, _, _, _, hx => by cases hx
  | .ife _ _ _, _, _, _, hx => by cases hx
  | .dct _, _, _, _, hx => by cases hx
  | .idx _ _, _, _, _, hx => by cases hx
  | .slc _ _ _, _, _, _, hx => by cases hx
  | .att _ _, _, _, _, hx => by cases hx
  | .call _ _, _, _, _, hx => by cases hx
  | .mk _ _, _, _, _, hx => by cases hx
  | .mth _ _ _, _, _, _, hx => by cases hx
  | .blt _ _, _, _, _, hx => by cases hx
  | .isi _ _, _, _, _, hx => by cases hx
  | .un _ _, _, _, _, hx => by cases hx
  | .lc _ _, _, _, _, hx => by cases hx
  | .dc _ _ _, _, _, _, hx => by cases hx
theorem lits_ok : ∀ (x : Mp.Es) {cs : List D} {m : Mem}, RhoP m ρP ρ → lits ρP x = some cs → ∃ (g : Mem) (ds : List D), evEs W x ρ m = .ok ds (m ++ g) ∧ Rps (m ++ g) cs ds
  | .nil, cs, m, hr, hx => by
    simp only [lits] at hx; cases hx
    exact ⟨[], [], by simp [evEs], rfl⟩
  | .cons true _ _, _, _, _, hx => by simp only [lits] at hx; cases hx
  | .cons false e r, cs, m, hr, hx => by
    simp only [lits] at hx
    cases hy : lit ρP e with
    | none => rw [hy] at hx; cases hx
    | some c =>
      rw [hy, Option.bind_some] at hx
      cases hz : lits ρP r with
      | none => rw [hz] at hx; cases hx
      | some q =>
        rw [hz, Option.bind_some] at hx
        cases hx
        obtain ⟨g1, d, e1, q1⟩ := lit_ok e hr hy
        obtain ⟨g2, ds, e2, q2⟩ := lits_ok r (hr.mono (Le.app g1)) hz
        rw [List.append_assoc] at e2 q2
        refine ⟨g1 ++ g2, d :: ds, by simp [evEs, e1, e2], ?_⟩
        rw [Rps]
        exact ⟨d, ds, rfl, by rw [← List.append_assoc]; exact q1.mono (Le.app g2), q2⟩
end
end
end
end Pg

set_option Elab.async false
set_option linter.all false
set_option maxRecDepth 100000
set_option maxHeartbeats 2000000
/-! The law k01: its turns. -/
namespace Pg
open PySem PySem.Spec PyProof.Rows L2 Mp
def k1 : Mp.S := (.set (.nm 1) (.lst (.cons false (.var 0) (.cons false (.cst (.int 0)) .nil))))
def k2 : Mp.S := (.set (.nm 2) (.call "_law_program" (.cons false (.var 1) .nil)))
def k3 : Mp.S := (.set (.nm 3) (.call "_law_made" (.cons false (.var 2) .nil)))
def k4 : Mp.S := (.ifs (.cmp .ne (.tup (.cons false (.att (.var 3) "letters") (.cons false (.att (.var 3) "sizes") (.cons false (.att (.var 3) "first") (.cons false (.att (.var 3) "each") (.cons false (.att (.var 3) "last") .nil)))))) (.tup (.cons false (.idx (.var 2) (.cst (.str "letters"))) (.cons false (.idx (.var 2) (.cst (.str "sizes"))) (.cons false (.idx (.var 2) (.cst (.str "first"))) (.cons false (.idx (.var 2) (.cst (.str "each"))) (.cons false (.idx (.var 2) (.cst (.str "last"))) .nil))))))) 
    (.cons (.ret (.cst (.bl false))) .nil) .nil)
def k5 : Mp.S := (.ifs (.cmp .ne (.lc (.mth (.var 3) "part" (.cons false (.var 4) .nil)) (.one [4] (.nm 4) (.seq (.tup (.cons false (.cst (.str "first")) (.cons false (.cst (.str "each")) (.cons false (.cst (.str "last")) .nil))))) .nil)) (.lst (.cons false (.idx (.var 2) (.cst (.str "first"))) (.cons false (.idx (.var 2) (.cst (.str "each"))) (.cons false (.idx (.var 2) (.cst (.str "last"))) .nil))))) 
    (.cons (.ret (.cst (.bl false))) .nil) .nil)
def k6 : Mp.S := (.set (.nm 5) (.lc (.call "_law_listed" (.cons false (.idx (.var 2) (.var 4)) .nil)) (.one [4] (.nm 4) (.seq (.tup (.cons false (.cst (.str "sizes")) (.cons false (.cst (.str "first")) (.cons false (.cst (.str "each")) (.cons false (.cst (.str "last")) .nil)))))) .nil)))
def k7 : Mp.S := (.set (.nm 6) (.mk "Program" (.cons false (.idx (.var 2) (.cst (.str "letters"))) (.cons false (.idx (.var 5) (.cst (.int 0))) (.cons false (.idx (.var 5) (.cst (.int 1))) (.cons false (.idx (.var 5) (.cst (.int 2))) (.cons false (.idx (.var 5) (.cst (.int 3))) .nil)))))))
def k8 : Mp.S := (.ifs (.or (.cmp .ne (.var 6) (.var 3)) (.or (.cmp .ne (.call "steps_in" (.cons false (.var 3) .nil)) (.blt "len" (.cons false (.call "_law_all_places" (.cons false (.var 2) .nil)) .nil))) (.or (.cmp .eq (.var 3) (.cst (.int 5))) (.cmp .eq (.var 3) (.mk "Program" (.cons false (.bin .add (.bin .mod (.idx (.var 2) (.cst (.str "letters"))) (.cst (.int 3))) (.cst (.int 1))) (.cons false (.idx (.var 2) (.cst (.str "sizes"))) (.cons false (.idx (.var 2) (.cst (.str "first"))) (.cons false (.idx (.var 2) (.cst (.str "each"))) (.cons false (.idx (.var 2) (.cst (.str "last"))) .nil)))))))))) 
    (.cons (.ret (.cst (.bl false))) .nil) .nil)
def k9 : Mp.S := (.expr (.mth (.idx (.var 5) (.cst (.int 2))) "append" (.cons false (.lst (.cons false (.cst (.str "tell")) (.cons false (.lst (.cons false (.cst (.str "number")) (.cons false (.cst (.int 1)) .nil))) .nil))) .nil)))
def k10 : Mp.S := (.ifs (.cmp .ne (.var 6) (.var 3)) 
    (.cons (.ret (.cst (.bl false))) .nil) .nil)
def k11 : Mp.S := (.set (.nm 7) (.lst (.cons false (.tup (.cons false (.tup (.cons false (.cst (.int 0)) (.cons false (.lst .nil) (.cons false (.lst .nil) (.cons false (.lst .nil) (.cons false (.lst .nil) .nil)))))) (.cons false (.cst (.str "letters")) .nil))) (.cons false (.tup (.cons false (.tup (.cons false (.cst (.int 4)) (.cons false (.lst .nil) (.cons false (.lst .nil) (.cons false (.lst .nil) (.cons false (.lst .nil) .nil)))))) (.cons false (.cst (.str "letters")) .nil))) (.cons false (.tup (.cons false (.tup (.cons false (.cst (.bl true)) (.cons false (.lst .nil) (.cons false (.lst .nil) (.cons false (.lst .nil) (.cons false (.lst .nil) .nil)))))) (.cons false (.cst (.str "letters")) .nil))) (.cons false (.tup (.cons false (.tup (.cons false (.cst (.int 1)) (.cons false (.bin .mul (.lst (.cons false (.cst (.int 1)) .nil)) (.cst (.int 4))) (.cons false (.lst .nil) (.cons false (.lst .nil) (.cons false (.lst .nil) .nil)))))) (.cons false (.cst (.str "sizes")) .nil))) (.cons false (.tup (.cons false (.tup (.cons false (.cst (.int 1)) (.cons false (.lst (.cons false (.cst (.int 0)) .nil)) (.cons false (.lst .nil) (.cons false (.lst .nil) (.cons false (.lst .nil) .nil)))))) (.cons false (.cst (.str "sizes")) .nil))) .nil)))))))
def k12 : Mp.S := (.set (.nm 7) (.bin .add (.var 7) (.lst (.cons false (.tup (.cons false (.tup (.cons false (.cst (.int 1)) (.cons false (.lst (.cons false (.cst (.int 5)) .nil)) (.cons false (.lst .nil) (.cons false (.lst .nil) (.cons false (.lst .nil) .nil)))))) (.cons false (.cst (.str "sizes")) .nil))) (.cons false (.tup (.cons false (.tup (.cons false (.cst (.int 1)) (.cons false (.cst .non) (.cons false (.lst .nil) (.cons false (.lst .nil) (.cons false (.lst .nil) .nil)))))) (.cons false (.cst (.str "sizes")) .nil))) (.cons false (.tup (.cons false (.tup (.cons false (.cst (.int 1)) (.cons false (.lst .nil) (.cons false (.cst .non) (.cons false (.lst .nil) (.cons false (.lst .nil) .nil)))))) (.cons false (.tup (.cons false (.cst (.str "first")) .nil)) .nil))) (.cons false (.tup (.cons false (.tup (.cons false (.cst (.int 1)) (.cons false (.lst .nil) (.cons false (.lst .nil) (.cons false (.lst (.cons false (.cst (.int 5)) .nil)) (.cons false (.lst .nil) .nil)))))) (.cons false (.tup (.cons false (.cst (.str "each")) (.cons false (.cst (.int 0)) .nil))) .nil))) .nil)))))))
def k13 : Mp.S := (.set (.nm 7) (.bin .add (.var 7) (.lst (.cons false (.tup (.cons false (.tup (.cons false (.cst (.int 1)) (.cons false (.lst .nil) (.cons false (.lst .nil) (.cons false (.lst .nil) (.cons false (.lst (.cons false (.tup (.cons false (.cst (.str "zz")) .nil)) .nil)) .nil)))))) (.cons false (.tup (.cons false (.cst (.str "last")) (.cons false (.cst (.int 0)) .nil))) .nil))) (.cons false (.tup (.cons false (.tup (.cons false (.cst (.int 1)) (.cons false (.lst .nil) (.cons false (.lst (.cons false (.tup (.cons false (.cst (.str "set")) (.cons false (.cst (.int 0)) (.cons false (.tup (.cons false (.cst (.str "number")) (.cons false (.cst (.int 0)) .nil))) .nil)))) .nil)) (.cons false (.lst .nil) (.cons false (.lst .nil) .nil)))))) (.cons false (.tup (.cons false (.cst (.str "first")) (.cons false (.cst (.int 0)) .nil))) .nil))) (.cons false (.tup (.cons false (.tup (.cons false (.cst (.int 1)) (.cons false (.lst (.cons false (.cst (.int 2)) .nil)) (.cons false (.lst (.cons false (.tup (.cons false (.cst (.str "set")) (.cons false (.cst (.int 0)) (.cons false (.tup (.cons false (.cst (.str "number")) (.cons false (.cst (.int 4)) .nil))) .nil)))) .nil)) (.cons false (.lst .nil) (.cons false (.lst .nil) .nil)))))) (.cons false (.tup (.cons false (.cst (.str "first")) (.cons false (.cst (.int 0)) (.cons false (.cst (.str "value")) .nil)))) .nil))) .nil))))))
def k14 : Mp.S := (.set (.nm 7) (.bin .add (.var 7) (.lst (.cons false (.tup (.cons false (.tup (.cons false (.cst (.int 1)) (.cons false (.lst .nil) (.cons false (.lst (.cons false (.tup (.cons false (.cst (.str "tell")) (.cons false (.tup (.cons false (.cst (.str "letter")) .nil)) .nil))) .nil)) (.cons false (.lst .nil) (.cons false (.lst .nil) .nil)))))) (.cons false (.tup (.cons false (.cst (.str "first")) (.cons false (.cst (.int 0)) (.cons false (.cst (.str "value")) .nil)))) .nil))) (.cons false (.tup (.cons false (.tup (.cons false (.cst (.int 1)) (.cons false (.lst .nil) (.cons false (.lst .nil) (.cons false (.lst .nil) (.cons false (.lst (.cons false (.tup (.cons false (.cst (.str "tell")) (.cons false (.tup (.cons false (.cst (.str "letter")) .nil)) .nil))) .nil)) .nil)))))) (.cons false (.tup (.cons false (.cst (.str "last")) (.cons false (.cst (.int 0)) (.cons false (.cst (.str "value")) .nil)))) .nil))) .nil)))))
def k15 : Mp.S := (.set (.tu [.nm 8, .nm 9]) (.tup (.cons false (.tup (.cons false (.cst (.str "number")) (.cons false (.cst (.int 0)) .nil))) (.cons false (.tup (.cons false (.cst (.str "plus")) (.cons false (.tup (.cons false (.cst (.str "number")) (.cons false (.cst (.int 0)) .nil))) (.cons false (.tup (.cons false (.cst (.str "plus")) (.cons false (.tup (.cons false (.cst (.str "number")) (.cons false (.cst (.int 0)) .nil))) (.cons false (.tup (.cons false (.cst (.str "plus")) (.cons false (.tup (.cons false (.cst (.str "number")) (.cons false (.cst (.int 0)) .nil))) (.cons false (.tup (.cons false (.cst (.str "number")) (.cons false (.cst (.int 0)) .nil))) .nil)))) .nil)))) .nil)))) .nil))))
def k16 : Mp.S := (.set (.nm 10) (.tup (.cons false (.cst (.str "same")) (.cons false (.var 8) (.cons false (.var 8) .nil)))))
def k17 : Mp.S := (.set (.nm 7) (.bin .add (.var 7) (.lst (.cons false (.tup (.cons false (.tup (.cons false (.cst (.int 1)) (.cons false (.lst .nil) (.cons false (.lst .nil) (.cons false (.lst (.cons false (.tup (.cons false (.cst (.str "tell")) (.cons false (.tup (.cons false (.cst (.str "plus")) (.cons false (.var 8) (.cons false (.tup (.cons false (.cst (.str "var")) (.cons false (.cst (.int 0)) .nil))) .nil)))) .nil))) .nil)) (.cons false (.lst .nil) .nil)))))) (.cons false (.tup (.cons false (.cst (.str "each")) (.cons false (.cst (.int 0)) (.cons false (.cst (.str "value")) (.cons false (.cst (.str "right")) .nil))))) .nil))) (.cons false (.tup (.cons false (.tup (.cons false (.cst (.int 1)) (.cons false (.lst .nil) (.cons false (.lst .nil) (.cons false (.lst (.cons false (.tup (.cons false (.cst (.str "tell")) (.cons false (.var 9) .nil))) .nil)) (.cons false (.lst .nil) .nil)))))) (.cons false (.tup (.cons false (.cst (.str "each")) (.cons false (.cst (.int 0)) (.cons false (.cst (.str "value")) (.cons false (.cst (.str "right")) (.cons false (.cst (.str "right")) (.cons false (.cst (.str "left")) .nil))))))) .nil))) .nil)))))
def k18 : Mp.S := (.set (.nm 7) (.bin .add (.var 7) (.lst (.cons false (.tup (.cons false (.tup (.cons false (.cst (.int 1)) (.cons false (.lst .nil) (.cons false (.lst .nil) (.cons false (.lst (.cons false (.tup (.cons false (.cst (.str "if")) (.cons false (.var 8) (.cons false (.lst .nil) (.cons false (.lst .nil) .nil))))) .nil)) (.cons false (.lst .nil) .nil)))))) (.cons false (.tup (.cons false (.cst (.str "each")) (.cons false (.cst (.int 0)) (.cons false (.cst (.str "if")) .nil)))) .nil))) (.cons false (.tup (.cons false (.tup (.cons false (.cst (.int 1)) (.cons false (.lst .nil) (.cons false (.lst .nil) (.cons false (.lst (.cons false (.tup (.cons false (.cst (.str "if")) (.cons false (.tup (.cons false (.cst (.str "not")) (.cons false (.tup (.cons false (.cst (.str "less")) (.cons false (.var 8) (.cons false (.cst (.int 5)) .nil)))) .nil))) (.cons false (.lst .nil) (.cons false (.lst .nil) .nil))))) .nil)) (.cons false (.lst .nil) .nil)))))) (.cons false (.tup (.cons false (.cst (.str "each")) (.cons false (.cst (.int 0)) (.cons false (.cst (.str "if")) (.cons false (.cst (.str "left")) (.cons false (.cst (.str "right")) .nil)))))) .nil))) .nil)))))
def k19 : Mp.S := (.set (.nm 7) (.bin .add (.var 7) (.lst (.cons false (.tup (.cons false (.tup (.cons false (.cst (.int 1)) (.cons false (.lst .nil) (.cons false (.lst .nil) (.cons false (.lst (.cons false (.tup (.cons false (.cst (.str "if")) (.cons false (.tup (.cons false (.cst (.str "not")) (.cons false (.tup (.cons false (.cst (.str "not")) (.cons false (.tup (.cons false (.cst (.str "not")) (.cons false (.var 10) .nil))) .nil))) .nil))) (.cons false (.lst .nil) (.cons false (.lst .nil) .nil))))) .nil)) (.cons false (.lst .nil) .nil)))))) (.cons false (.tup (.cons false (.cst (.str "each")) (.cons false (.cst (.int 0)) (.cons false (.cst (.str "if")) (.cons false (.cst (.str "left")) (.cons false (.cst (.str "left")) (.cons false (.cst (.str "left")) .nil))))))) .nil))) .nil))))
def k20 : Mp.S := (.set (.nm 7) (.bin .add (.var 7) (.lst (.cons false (.tup (.cons false (.tup (.cons false (.cst (.int 1)) (.cons false (.lst .nil) (.cons false (.lst .nil) (.cons false (.lst (.cons false (.tup (.cons false (.cst (.str "if")) (.cons false (.var 10) (.cons false (.lst (.cons false (.tup (.cons false (.cst (.str "if")) (.cons false (.var 10) (.cons false (.lst (.cons false (.tup (.cons false (.cst (.str "if")) (.cons false (.var 10) (.cons false (.lst .nil) (.cons false (.lst .nil) .nil))))) .nil)) (.cons false (.lst .nil) .nil))))) .nil)) (.cons false (.lst .nil) .nil))))) .nil)) (.cons false (.lst .nil) .nil)))))) (.cons false (.tup (.cons false (.cst (.str "each")) (.cons false (.cst (.int 0)) (.cons false (.cst (.str "then")) (.cons false (.cst (.int 0)) (.cons false (.cst (.str "then")) (.cons false (.cst (.int 0)) (.cons false (.cst (.str "then")) .nil)))))))) .nil))) .nil))))
def k21 : Mp.S := (.set (.nm 7) (.bin .add (.var 7) (.lst (.cons false (.tup (.cons false (.tup (.cons false (.cst (.int 1)) (.cons false (.lst .nil) (.cons false (.lst .nil) (.cons false (.lst (.cons false (.tup (.cons false (.cst (.str "if")) (.cons false (.var 10) (.cons false (.lst .nil) (.cons false (.cst (.int 5)) .nil))))) .nil)) (.cons false (.lst .nil) .nil)))))) (.cons false (.tup (.cons false (.cst (.str "each")) (.cons false (.cst (.int 0)) (.cons false (.cst (.str "else")) .nil)))) .nil))) (.cons false (.tup (.cons false (.tup (.cons false (.cst (.int 1)) (.cons false (.lst .nil) (.cons false (.lst .nil) (.cons false (.lst (.cons false (.tup (.cons false (.cst (.str "tell")) .nil)) .nil)) (.cons false (.lst .nil) .nil)))))) (.cons false (.tup (.cons false (.cst (.str "each")) (.cons false (.cst (.int 0)) .nil))) .nil))) .nil)))))
def k22 : Mp.S := (.for_ (.tu [.nm 11, .nm 12]) (.seq (.var 7)) 
    (.cons (.try_ 
      (.cons (.expr (.mk "Program" (.cons false (.idx (.var 11) (.cst (.int 0))) (.cons false (.idx (.var 11) (.cst (.int 1))) (.cons false (.idx (.var 11) (.cst (.int 2))) (.cons false (.idx (.var 11) (.cst (.int 3))) (.cons false (.idx (.var 11) (.cst (.int 4))) .nil))))))) 
      (.cons (.ret (.cst (.bl false))) .nil)) (.cons ["BadProgram"] (some 13) 
      (.cons (.ifs (.cmp .ne (.att (.var 13) "place") (.var 12)) 
        (.cons (.ret (.cst (.bl false))) .nil) .nil) .nil) .nil)) .nil))
def k23 : Mp.S := (.try_ 
    (.cons (.expr (.mk "Program" (.cons false (.cst (.int 1)) (.cons false (.lst .nil) (.cons false (.bin .mul (.lst (.cons false (.tup (.cons false (.cst (.str "tell")) (.cons false (.var 8) .nil))) .nil)) (.cst (.int 6))) (.cons false (.bin .mul (.lst (.cons false (.tup (.cons false (.cst (.str "tell")) (.cons false (.var 8) .nil))) .nil)) (.cst (.int 6))) (.cons false (.lst (.cons false (.tup (.cons false (.cst (.str "if")) (.cons false (.var 10) (.cons false (.lst (.cons false (.tup (.cons false (.cst (.str "tell")) (.cons false (.var 8) .nil))) .nil)) (.cons false (.lst .nil) .nil))))) .nil)) .nil))))))) 
    (.cons (.ret (.cst (.bl false))) .nil)) (.cons ["TooLarge"] (some 13) 
    (.cons (.ifs (.cmp .ne (.att (.var 13) "number") (.cst (.int 14))) 
      (.cons (.ret (.cst (.bl false))) .nil) .nil) .nil) .nil))
def k24 : Mp.S := (.try_ 
    (.cons (.expr (.call "steps_in" (.cons false (.cst .non) .nil))) 
    (.cons (.ret (.cst (.bl false))) .nil)) (.cons ["BadProgram"] (some 13) 
    (.cons (.ret (.cmp .eq (.att (.var 13) "place") (.cst (.str "program")))) .nil) .nil))
theorem b_law_eq : b_law = (.cons k1 (.cons k2 (.cons k3 (.cons k4 (.cons k5 (.cons k6 (.cons k7 (.cons k8 (.cons k9 (.cons k10 (.cons k11 (.cons k12 (.cons k13 (.cons k14 (.cons k15 (.cons k16 (.cons k17 (.cons k18 (.cons k19 (.cons k20 (.cons k21 (.cons k22 (.cons k23 (.cons k24 .nil)))))))))))))))))))))))) := rfl
section
variable {T : Tab} {M : Mem} {K i p : Nat} {a b c d e : D} {ρ : Mp.Env}
theorem TP.tup5 {a b c d e : D} (t : TP a b c d e) : Pu (.tup [a, b, c, d, e]) ∧ dep (.tup [a, b, c, d, e]) ≤ 64 := by
  obtain ⟨n, rfl, h1, h3⟩ := t.pa
  refine ⟨pus5 rfl t.ub t.pc.pu t.pd.pu t.pe.pu, ?_⟩
  have := t.db; have := t.pc.dep; have := t.pd.dep; have := t.pe.dep
  simp [dep, deps]; omega
theorem IsProg.atts {M : Mem} (P : IsProg M p a b c d e) : attD (.ref p) "letters" M = some a ∧ attD (.ref p) "sizes" M = some b ∧ attD (.ref p) "first" M = some c ∧ attD (.ref p) "each" M = some d ∧ attD (.ref p) "last" M = some e := by
  refine ⟨?_, ?_, ?_, ?_, ?_⟩ <;> simp [attD, P.at_, fsOf, fget]
theorem k4_ok (t : TP a b c d e) (I : IsTold M i a b c d e) (P : IsProg M p a b c d e) (h2 : ρ[2]? = some (some (.ref i))) (h3 : ρ[3]? = some (some (.ref p))) :
    evS (wd T (K + 39)) T.exf T.sub k4 ρ M = .nx ρ M := by
  obtain ⟨x1, x2, x3, x4, x5⟩ := I.idx
  obtain ⟨y1, y2, y3, y4, y5⟩ := P.atts
  have c1 := cmp_neD (W := wd T (K + 39)) (own_tup _) (eqD_self (m := M) t.tup5.1 t.tup5.2)
  simp [k4, evS, evSs, evE, evEs, h2, h3, x1, x2, x3, x4, x5, y1, y2, y3, y4, y5, cstD, tupR, len5, c1]
theorem TP.three {a b c d e : D} (t : TP a b c d e) : Pus [c, d, e] ∧ deps [c, d, e] ≤ 63 := by
  refine ⟨Pus_all (by simp [t.pc.pu, t.pd.pu, t.pe.pu]), ?_⟩
  have := t.pc.dep; have := t.pd.dep; have := t.pe.dep
  simp [deps]; omega
theorem k5_ok (hp : HasProg T) (t : TP a b c d e) (I : IsTold M i a b c d e) (P : IsProg M p a b c d e) (hρ : ρ = [some (.ref 0), some (.ref 1), some (.ref i), some (.ref p), none, none, none, none, none, none, none, none, none, none]) :
    ∃ g, evS (wd T (K + 39)) T.exf T.sub k5 ρ M = .nx ρ (M ++ g) := by
  subst hρ
  have hw : ∀ g, (wd T (K + 39)).has g = (T.df g).isSome := fun g => rfl
  have hcl : (wd T (K + 39)).call = callD T (K + 39) := rfl
  have e1 : evE (wd T (K + 39)) (.lc (.mth (.var 3) "part" (.cons false (.var 4) .nil)) (.one [4] (.nm 4) (.seq (.tup (.cons false (.cst (.str "first")) (.cons false (.cst (.str "each")) (.cons false (.cst (.str "last")) .nil))))) .nil)) [some (.ref 0), some (.ref 1), some (.ref i), some (.ref p), none, none, none, none, none, none, none, none, none, none] M = .ok (.ref M.length) (M ++ [.lst [c, d, e]]) := by
    have mt : ∀ acc, mthAt (wd T (K + 39)) (.ref p) "part" (M ++ [.lst acc]) = .own "Program" := fun acc => by
      simp [mthAt, (P.app [.lst acc]).at_, hp.part, fsOf, fget]
    have q := fun acc {x : Str} hx => part_ok hp (k := K + 38) (P.app [.lst acc]) (x := x) hx
    have q1 := fun acc => q acc (.inl rfl)
    have q2 := fun acc => q acc (.inr (.inl rfl))
    have q3 := fun acc => q acc (.inr (.inr rfl))
    have ap := fun acc v (h : acc.length < lim) => appAt_end (m := M) (acc := acc) v h []
    have l0 : 0 < lim := by decide
    have l1 : 1 < lim := by decide
    have l2 : 2 < lim := by decide
    rw [evE_lc]
    simp [evI, evE, evEs, cstD, tupR, len3, seqOf, srcOf, loopC, Mp.still, lcB, setT, wipeE, evTs, mt, q1, q2, q3, ap, l0, l1, l2, partOf, hcl, R.calm]
  have x := fun g => (I.app g).idx
  have x3 := (x [.lst [c, d, e]]).2.2.1
  have x4 := (x [.lst [c, d, e]]).2.2.2.1
  have x5 := (x [.lst [c, d, e]]).2.2.2.2
  have g1 := get_end M (O.lst [c, d, e]) [.lst [c, d, e]]
  have g2 := get_end (M ++ [O.lst [c, d, e]]) (O.lst [c, d, e]) []
  have eqd : eqD (M ++ [.lst [c, d, e]] ++ [.lst [c, d, e]]) (.ref M.length) (.ref (M ++ [O.lst [c, d, e]]).length) = some true := by
    rw [eqD_data (data_lst (by rw [List.append_assoc]; exact g1) t.three.1 t.three.2) (data_lst g2 t.three.1 t.three.2)]
    have := PySem.SeqAt.eqv_refl (.list (pds [c, d, e])) (by simpa [PyData.canLay0] using pds_can t.three.1)
    rw [this]
  have ho : ownAt (M ++ [.lst [c, d, e]] ++ [.lst [c, d, e]]) (.ref M.length) = none := by
    rw [List.append_assoc]
    simp only [List.cons_append, List.nil_append, ownAt, g1]
  have c1 := cmp_neD (W := wd T (K + 39)) ho eqd
  refine ⟨[.lst [c, d, e]] ++ [.lst [c, d, e]], ?_⟩
  unfold k5
  rw [evS, evE, e1]
  simp only [R.bind_ok, evE, evEs, List.getElem?_cons_zero, List.getElem?_cons_succ, cstD, x3, x4, x5, someR_some, newL, List.length_cons, List.length_nil, Nat.zero_add, Nat.reduceAdd, len3, if_true, Bool.false_eq_true, if_false]
  simp only [List.length_append, List.length_cons, List.length_nil, Nat.zero_add, List.append_assoc, List.cons_append, List.nil_append] at c1 ⊢
  simp [c1, evSs]
end
end Pg

set_option Elab.async false
set_option linter.all false
set_option maxRecDepth 100000
set_option maxHeartbeats 2000000
/-! The law k01: rows with lists, likeness. -/
namespace Pg
open PySem PySem.Spec PyProof.Rows L2 Mp
section
variable {T : Tab} {M : Mem} {K i p : Nat} {a b c d e : D}
theorem Rp.of_dead {L : Nat} {M g : Mem} (h : M.length = L) {c d : D} (r : Rp (dead L ++ g) c d) : Rp (M ++ g) c d := r.mono (Le_dead h g)
/-- the rows of a drawn program, as lists -/
structure Rows4 (M : Mem) (L : Nat) (b c d e : D) (q : Nat) : Prop where
  at_ : ∃ r0 r1 r3, M[L]? = some (.lst [r0, r1, .ref q, r3]) ∧ Rp M b r0 ∧ Rp M c r1 ∧ Rp M d (.ref q) ∧ Rp M e r3
theorem isT_row {v : Int} {l : Bool} {n k : Nat} {c : D} (h : OkS v l n k c) : isT c = true := by
  obtain ⟨cs, rfl, _⟩ := h.row; rfl
theorem k6_ok (hh : HasHelp T) (t : TP a b c d e) (I : IsTold M i a b c d e) {x3 : Option D} : ∃ (g : Mem) (L q : Nat), Rows4 (M ++ g) L b c d e q ∧
    evS (wd T (K + 39)) T.exf T.sub k6 [some (.ref 0), some (.ref 1), some (.ref i), x3, none, none, none, none, none, none, none, none, none, none] M =
      .nx [some (.ref 0), some (.ref 1), some (.ref i), x3, none, some (.ref L), none, none, none, none, none, none, none, none] (M ++ g) := by
  have hw : ∀ g, (wd T (K + 39)).has g = (T.df g).isSome := fun g => rfl
  have hcl : (wd T (K + 39)).call = callD T (K + 39) := rfl
  obtain ⟨g1, g2, g3, g4, g5⟩ := t.good [] 6
  have ls := fun {c : D} (M : Mem) (h1 : Pu c) (h2 : sm c = true) (h3 : dep c ≤ 20) => listed_ok hh 20 (K + 18) (m := M) h1 h2 h3
  have lc := fun (L : Mem) (acc : List D) (e : Mem) v (h : acc.length < lim) => appAt_end (m := L) (acc := acc) v h e
  obtain ⟨e1, r1, p1, s1, _⟩ := ls (M ++ [.lst []]) g2.rp g2.sm g2.dep
  rw [show 20 + (K + 18 + 1) = K + 39 from by omega] at p1
  rw [List.append_assoc] at p1
  obtain ⟨e2, r2, p2, s2, _⟩ := ls (M ++ .lst [r1] :: e1) g3.rp g3.sm g3.dep
  rw [show 20 + (K + 18 + 1) = K + 39 from by omega, List.append_assoc] at p2
  obtain ⟨e3, r3, p3, s3, t3⟩ := ls (M ++ .lst [r1, r2] :: (e1 ++ e2)) g4.rp g4.sm g4.dep
  rw [show 20 + (K + 18 + 1) = K + 39 from by omega, List.append_assoc] at p3
  obtain ⟨e4, r4, p4, s4, _⟩ := ls (M ++ .lst [r1, r2, r3] :: (e1 ++ e2 ++ e3)) g5.rp g5.sm g5.dep
  rw [show 20 + (K + 18 + 1) = K + 39 from by omega, List.append_assoc] at p4
  obtain ⟨q, rfl⟩ := t3 (isT_row t.pd)
  have ap1 := lc M [] e1 r1 (by decide)
  have ap2 := lc M [r1] (e1 ++ e2) r2 (by simp [lim])
  have ap3 := lc M [r1, r2] (e1 ++ e2 ++ e3) (.ref q) (by simp [lim])
  have ap4 := lc M [r1, r2, .ref q] (e1 ++ e2 ++ e3 ++ e4) r4 (by simp [lim])
  simp only [List.append_assoc, List.cons_append, List.nil_append] at p1 p2 p3 p4 ap1 ap2 ap3 ap4
  let G := O.lst [r1, r2, .ref q, r4] :: (e1 ++ e2 ++ e3 ++ e4)
  have l4 : (4 : Nat) ≤ lim := lt_lim (by omega)
  refine ⟨G, M.length, q, ⟨r1, r2, r4, get_end M _ _, ?_, ?_, ?_, ?_⟩, ?_⟩
  · have := (Rp.of_dead (M := M ++ [O.lst [r1, r2, .ref q, r4]]) (by simp) s1).mono (Le.app (e2 ++ e3 ++ e4))
    simpa [G] using this
  · have := (Rp.of_dead (M := M ++ O.lst [r1, r2, .ref q, r4] :: e1) (by simp) s2).mono (Le.app (e3 ++ e4))
    simpa [G] using this
  · have := (Rp.of_dead (M := M ++ O.lst [r1, r2, .ref q, r4] :: (e1 ++ e2)) (by simp) s3).mono (Le.app e4)
    simpa [G] using this
  · have := (Rp.of_dead (M := M ++ O.lst [r1, r2, .ref q, r4] :: (e1 ++ e2 ++ e3)) (by simp) s4)
    simpa [G] using this
  have x := fun g => (I.app g).idx
  have x1 := fun g => (x g).2.1
  have x2 := fun g => (x g).2.2.1
  have x3' := fun g => (x g).2.2.2.1
  have x4 := fun g => (x g).2.2.2.2
  unfold k6
  rw [evS, evE_lc]
  simp only [wd_hot, Bool.false_and, Bool.false_eq_true, if_false, evI, evE, evEs, R.bind_ok, cstD, tupR, List.length_cons, List.length_nil, Nat.zero_add, Nat.reduceAdd, l4, if_true, seqOf, srcOf]
  simp only [loopC, Mp.still, if_true, lcB, setT, wipeE, List.set, evTs_nil, R.bind_ok, evE, evEs, Bool.false_eq_true, if_false, List.getElem?_cons_zero, List.getElem?_cons_succ, hw, hcl, hh.listed, Option.isSome_some, Bool.not_true, x1, x2, x3', x4, someR_some, List.append_assoc, List.cons_append, List.nil_append, p1, ap1, p2, ap2, p3, ap3, p4, ap4]
  simp [R.calm, G]
theorem Good.of {M : Mem} {k : Nat} {c d : D} (h : Good [] k c c) (r : Rp M c d) : Good M k c d := ⟨r, h.sm, h.dep⟩
theorem k7_ok (hp : HasProg T) (t : TP a b c d e) (I : IsTold M i a b c d e) {L q : Nat} (R4 : Rows4 M L b c d e q) {x3 : Option D} : 
    evS (wd T (K + 39)) T.exf T.sub k7 [some (.ref 0), some (.ref 1), some (.ref i), x3, none, some (.ref L), none, none, none, none, none, none, none, none] M =
      .nx [some (.ref 0), some (.ref 1), some (.ref i), x3, none, some (.ref L), some (.ref M.length), none, none, none, none, none, none, none] (M ++ [.ins "Program" (fsOf a b c d e)]) := by
  obtain ⟨r0, r1, r3, hL, w0, w1, w2, w3⟩ := R4.at_
  obtain ⟨g1, g2, g3, g4, g5⟩ := t.good [] (K + 21)
  have hra := rowAt_of hL
  have i0 := rowAt_idx hra 0 (by decide)
  have i1 := rowAt_idx hra 1 (by decide)
  have i2 := rowAt_idx hra 2 (by decide)
  have i3 := rowAt_idx hra 3 (by decide)
  have x1 := I.idx.1
  have ga : Good M (K + 21 + 14) a a := ⟨g1.rp.mono Le.nil, g1.sm, g1.dep⟩
  obtain ⟨fs, _, z⟩ := mk_prog hp (k := K + 21) (ρ := [some (.ref 0), some (.ref 1), some (.ref i), x3, none, some (.ref L), none, none, none, none, none, none, none, none]) (m := M) (m1 := M) (es := (.cons false (.idx (.var 2) (.cst (.str "letters"))) (.cons false (.idx (.var 5) (.cst (.int 0))) (.cons false (.idx (.var 5) (.cst (.int 1))) (.cons false (.idx (.var 5) (.cst (.int 2))) (.cons false (.idx (.var 5) (.cst (.int 3))) .nil)))))) (by
    simp [evEs, evE, cstD, x1, i0, i1, i2, i3]) ga (g2.of w0) (g3.of w1) (g4.of w2) (g5.of w3)
  rw [t.init] at z
  unfold k7
  rw [evS]
  have z : evE (wd T (K + 39)) _ _ _ = _ := z
  rw [z]
  simp [setT]
end
end Pg

set_option Elab.async false
set_option linter.all false
set_option maxRecDepth 100000
set_option maxHeartbeats 2000000
/-! The law k01: likeness, what is handed in is copied. -/
namespace Pg
open PySem PySem.Spec PyProof.Rows L2 Mp
section
variable {T : Tab} {M : Mem} {K i p l : Nat} {a b c d e : D}
abbrev env6 (i p L l : Nat) (v7 v8 v9 v10 v11 v12 v13 : Option D) : Mp.Env := [some (.ref 0), some (.ref 1), some (.ref i), some (.ref p), none, some (.ref L), some (.ref l), v7, v8, v9, v10, v11, v12, v13]
theorem TP.other {a b c d e : D} (t : TP a b c d e) : ∃ n : Int, a = .int n ∧ TP (.int (Int.fmod n 3 + 1)) b c d e ∧ n ≠ Int.fmod n 3 + 1 := by
  obtain ⟨n, rfl, h1, h3⟩ := t.pa
  have f0 := Int.fmod_nonneg_of_pos n (show (0 : Int) < 3 by decide)
  have f1 := Int.fmod_lt_of_pos n (show (0 : Int) < 3 by decide)
  have : n = 1 ∨ n = 2 ∨ n = 3 := by omega
  refine ⟨n, rfl, { t with pa := ⟨_, rfl, by omega, by omega⟩ }, ?_⟩
  rcases this with rfl | rfl | rfl <;> decide
theorem late_same (hp : HasProg T) (P : IsProg M p a b c d e) (Q : IsProg M l a b c d e) : cmpE (wd T (K + 39)) .ne (.ref l) (.ref p) M = .ok (.bl false) M :=
  (cmp_prog hp (k := K + 38) Q (by simp [tagOf, P.at_]) (eq_same hp (k := K + 37) Q P)).2
theorem k8_ok (hp : HasProg T) (hh : HasHelp T) (t : TP a b c d e) (I : IsTold M i a b c d e) (P : IsProg M p a b c d e) (Q : IsProg M l a b c d e) {L : Nat} {v7 v8 v9 v10 v11 v12 v13 : Option D} :
    ∃ g, evS (wd T (K + 39)) T.exf T.sub k8 (env6 i p L l v7 v8 v9 v10 v11 v12 v13) M = .nx (env6 i p L l v7 v8 v9 v10 v11 v12 v13) (M ++ g) := by
  have hw : ∀ g, (wd T (K + 39)).has g = (T.df g).isSome := fun g => rfl
  have hcl : (wd T (K + 39)).call = callD T (K + 39) := rfl
  have c1 := late_same (K := K) hp P Q
  have c2 := steps_in_ok hp (k := K + 34) P (v1 := wide b) (v2 := wide b) (v3 := wide b) (l1 := false) (l2 := true) (l3 := false) (q1 := []) (q2 := []) (q3 := []) (t.pc.sm (by omega)) (t.pd.sm (by omega)) (t.pe.sm (by omega)) (t.pc.ok (by omega) _) (t.pd.ok (by omega) _) (t.pe.ok (by omega) _)
  obtain ⟨g, i1, c3, ds, p1, p2, p3, p4⟩ := all_places_ok hh (k := K + 34) I t.pc t.pd t.pe
  have hl : bltin "len" [.ref i1] (M ++ g) = .ok (.int (many c d e : Nat)) (M ++ g) := by
    rw [bltin_len (rowAt_len (rowAt_of p1)), p2]
  have P1 := P.app g
  have c4 := (cmp_prog hp (k := K + 38) P1 (y := .int 5) rfl (eq_int hp (k := K + 37))).1
  obtain ⟨n, rfl, t', hne⟩ := t.other
  obtain ⟨x1, x2, x3, x4, x5⟩ := (I.app g).idx
  obtain ⟨g1, g2, g3, g4, g5⟩ := t'.good (M ++ g) (K + 21)
  obtain ⟨fs, _, z⟩ := mk_prog hp (k := K + 21) (ρ := env6 i p L l v7 v8 v9 v10 v11 v12 v13) (m := M ++ g) (es := (.cons false (.bin .add (.bin .mod (.idx (.var 2) (.cst (.str "letters"))) (.cst (.int 3))) (.cst (.int 1))) (.cons false (.idx (.var 2) (.cst (.str "sizes"))) (.cons false (.idx (.var 2) (.cst (.str "first"))) (.cons false (.idx (.var 2) (.cst (.str "each"))) (.cons false (.idx (.var 2) (.cst (.str "last"))) .nil)))))) (by
    simp [evEs, evE, cstD, x1, x2, x3, x4, x5, bin_int, Mp.binI]) g1 g2 g3 g4 g5
  rw [t'.init] at z
  have z : evE (wd T (K + 39)) _ _ _ = _ := z
  have P2 := P1.app [.ins "Program" (fsOf (.int (Int.fmod n 3 + 1)) b c d e)]
  have Q2 : IsProg (M ++ g ++ [.ins "Program" (fsOf (.int (Int.fmod n 3 + 1)) b c d e)]) (M ++ g).length (.int (Int.fmod n 3 + 1)) b c d e := t'.prog (get_end _ _ [])
  have c5 := (cmp_prog hp (k := K + 38) P2 (y := .ref (M ++ g).length) (by simp [tagOf, Q2.at_]) (eq_unlike hp (k := K + 37) P2 Q2 hne)).1
  refine ⟨g ++ [.ins "Program" (fsOf (.int (Int.fmod n 3 + 1)) b c d e)], ?_⟩
  have ek : k8 = (.ifs (.or (.cmp .ne (.var 6) (.var 3)) (.or (.cmp .ne (.call "steps_in" (.cons false (.var 3) .nil)) (.blt "len" (.cons false (.call "_law_all_places" (.cons false (.var 2) .nil)) .nil))) (.or (.cmp .eq (.var 3) (.cst (.int 5))) (.cmp .eq (.var 3) (.mk "Program" (.cons false (.bin .add (.bin .mod (.idx (.var 2) (.cst (.str "letters"))) (.cst (.int 3))) (.cst (.int 1))) (.cons false (.idx (.var 2) (.cst (.str "sizes"))) (.cons false (.idx (.var 2) (.cst (.str "first"))) (.cons false (.idx (.var 2) (.cst (.str "each"))) (.cons false (.idx (.var 2) (.cst (.str "last"))) .nil)))))))))) 
    (.cons (.ret (.cst (.bl false))) .nil) .nil) := rfl
  rw [ek, evS]
  have e6 : evE (wd T (K + 39)) (.var 6) (env6 i p L l v7 v8 v9 v10 v11 v12 v13) M = .ok (.ref l) M := by simp [evE]
  have e3 : ∀ M, evE (wd T (K + 39)) (.var 3) (env6 i p L l v7 v8 v9 v10 v11 v12 v13) M = .ok (.ref p) M := fun M => by simp [evE]
  have e2 : ∀ M, evE (wd T (K + 39)) (.var 2) (env6 i p L l v7 v8 v9 v10 v11 v12 v13) M = .ok (.ref i) M := fun M => by simp [evE]
  have s1 : evE (wd T (K + 39)) (.call "steps_in" (.cons false (.var 3) .nil)) (env6 i p L l v7 v8 v9 v10 v11 v12 v13) M = .ok (.int (many c d e : Nat)) M := by
    rw [evE]
    simp only [hw, hp.steps_in, Option.isSome_some, Bool.not_true, Bool.false_eq_true, if_false, evEs, e3, R.bind_ok, hcl]
    exact c2
  have s2 : evE (wd T (K + 39)) (.blt "len" (.cons false (.call "_law_all_places" (.cons false (.var 2) .nil)) .nil)) (env6 i p L l v7 v8 v9 v10 v11 v12 v13) M = .ok (.int (many c d e : Nat)) (M ++ g) := by
    have q : evE (wd T (K + 39)) (.call "_law_all_places" (.cons false (.var 2) .nil)) (env6 i p L l v7 v8 v9 v10 v11 v12 v13) M = .ok (.ref i1) (M ++ g) := by
      rw [evE]
      simp only [hw, hh.all, Option.isSome_some, Bool.not_true, Bool.false_eq_true, if_false, evEs, e2, R.bind_ok, hcl]
      exact c3
    rw [evE]
    simp only [evEs, q, wd_hot, Bool.false_and, Bool.false_eq_true, if_false, R.bind_ok, hl]
  have s3 : evE (wd T (K + 39)) (.cmp .ne (.var 6) (.var 3)) (env6 i p L l v7 v8 v9 v10 v11 v12 v13) M = .ok (.bl false) M := by
    rw [evE, e6, R.bind_ok, e3, R.bind_ok, c1]
  have s4 : evE (wd T (K + 39)) (.cmp .ne (.call "steps_in" (.cons false (.var 3) .nil)) (.blt "len" (.cons false (.call "_law_all_places" (.cons false (.var 2) .nil)) .nil))) (env6 i p L l v7 v8 v9 v10 v11 v12 v13) M = .ok (.bl false) (M ++ g) := by
    rw [evE, s1, R.bind_ok, s2, R.bind_ok, cmp_neI]; simp
  have s5 : evE (wd T (K + 39)) (.cmp .eq (.var 3) (.cst (.int 5))) (env6 i p L l v7 v8 v9 v10 v11 v12 v13) (M ++ g) = .ok (.bl false) (M ++ g) := by
    rw [evE, e3, R.bind_ok, evE, R.bind_ok]; exact c4
  rw [evE, s3, R.bind_ok, truthE_bl, R.bind_ok]
  simp only [Bool.false_eq_true, if_false]
  rw [evE, s4, R.bind_ok, truthE_bl, R.bind_ok]
  simp only [Bool.false_eq_true, if_false]
  rw [evE, s5, R.bind_ok, truthE_bl, R.bind_ok]
  simp only [Bool.false_eq_true, if_false]
  rw [evE, e3, R.bind_ok, z, R.bind_ok, c5]
  simp [evSs]
/-- all but lists stay -/
def Stay (M M' : Mem) : Prop := ∀ (i : Nat) (o : O), M[i]? = some o → (∀ ds, o ≠ .lst ds) → M'[i]? = some o
theorem IsProg.stay {M M' : Mem} (h : Stay M M') (P : IsProg M p a b c d e) : IsProg M' p a b c d e := { P with at_ := h _ _ P.at_ fun ds z => by cases z }
theorem k9_ok {L q : Nat} (R4 : Rows4 M L b c d e q) (hd : isT d = true) {v7 v8 v9 v10 v11 v12 v13 : Option D} (hsm : sm d = true) :
    ∃ M', Stay M M' ∧ evS (wd T (K + 39)) T.exf T.sub k9 (env6 i p L l v7 v8 v9 v10 v11 v12 v13) M = .nx (env6 i p L l v7 v8 v9 v10 v11 v12 v13) M' := by
  obtain ⟨r0, r1, r3, hL, w0, w1, w2, w3⟩ := R4.at_
  obtain ⟨cs, rfl⟩ : ∃ cs, d = .tup cs := by
    cases d with
    | tup cs => exact ⟨cs, rfl⟩
    | _ => cases hd
  rw [Rp] at w2
  obtain ⟨ds, hq, hR⟩ := w2
  have hq := rowAt_ref hq
  have hlen := Rps.length hR
  have hs : cs.length < 1000 ∧ sms cs = true := by simpa [sm] using hsm
  have i2 := rowAt_idx (rowAt_of hL) 2 (by decide)
  have mt : mthAt (wd T (K + 39)) (.ref q) "append" M = .lst q := mth_app hq
  let M2 := M ++ [O.lst [.str "number", .int 1]] ++ [O.lst [.str "tell", .ref M.length]]
  have hq2 : M2[q]? = some (.lst ds) := by
    simp only [M2]
    rw [List.append_assoc, List.getElem?_append_left (lt_of_get hq)]; exact hq
  have da := do_app (m := M2) (.ref (M ++ [O.lst [.str "number", .int 1]]).length) hq2 (by unfold lim; omega)
  refine ⟨M2.set q (.lst (ds ++ [.ref (M ++ [O.lst [.str "number", .int 1]]).length])), ?_, ?_⟩
  · intro j o hj ho
    have hne : q ≠ j := fun z => by
      subst z
      rw [hq] at hj; cases hj
      exact ho _ rfl
    rw [List.getElem?_set_ne hne]
    simp only [M2]
    rw [List.append_assoc, List.getElem?_append_left (lt_of_get hj)]; exact hj
  · unfold k9
    rw [evS, evE]
    simp only [evE, evEs, List.getElem?_cons_zero, List.getElem?_cons_succ, R.bind_ok, cstD, i2]
    have hz : ([r0, r1, D.ref q, r3])[Int.toNat 2]? = some (.ref q) := rfl
    rw [hz]
    simp only [someR_some, R.bind_ok, mt, Bool.false_eq_true, if_false, newL, List.length_cons, List.length_nil, Nat.zero_add, Nat.reduceAdd, len2, if_true]
    rw [da]
    simp
theorem k10_ok (hp : HasProg T) (P : IsProg M p a b c d e) (Q : IsProg M l a b c d e) {L : Nat} {v7 v8 v9 v10 v11 v12 v13 : Option D} :
    evS (wd T (K + 39)) T.exf T.sub k10 (env6 i p L l v7 v8 v9 v10 v11 v12 v13) M = .nx (env6 i p L l v7 v8 v9 v10 v11 v12 v13) M := by
  have c1 := late_same (K := K) hp P Q
  simp [k10, evS, evSs, evE, c1]
end
end Pg

set_option Elab.async false
set_option linter.all false
set_option maxRecDepth 100000
set_option maxHeartbeats 2000000
/-! The law k01: what is none. -/
namespace Pg
open PySem PySem.Spec PyProof.Rows L2 Mp
mutual
def lit0 : E → Option D
  | .cst c => (match c with
    | .str s => if PyData.strOk s then some (.str s) else none
    | c => some (cstD c))
  | .tup es => (lit0s es).bind fun cs => if cs.length ≤ 900 then some (.tup cs) else none
  | _ => none
def lit0s : Mp.Es → Option (List D)
  | .nil => some []
  | .cons false e r => (lit0 e).bind fun c => (lit0s r).bind fun q => some (c :: q)
  | .cons true _ _ => none
end
section
variable {W : Wd} {ρ : Mp.Env}
mutual
theorem lit0_ok : ∀ (x : E) {c : D} {m : Mem}, lit0 x = some c → evE W x ρ m = .ok c m ∧ Pu c
  | .cst k, c, m, hx => by
    cases k with
    | str s =>
      simp only [lit0] at hx
      split at hx
      · rename_i z; cases hx
        exact ⟨by simp [evE, cstD], ⟨rfl, z⟩⟩
      · cases hx
    | non => simp only [lit0] at hx; cases hx; exact ⟨by simp [evE], rfl⟩
    | bl b => simp only [lit0] at hx; cases hx; exact ⟨by simp [evE], rfl⟩
    | int b => simp only [lit0] at hx; cases hx; exact ⟨by simp [evE], rfl⟩
  | .tup es, c, m, hx => by
    simp only [lit0] at hx
    cases hy : lit0s es with
    | none => rw [hy] at hx; cases hx
    | some cs =>
      rw [hy, Option.bind_some] at hx
      split at hx
      · rename_i hl
        cases hx
        obtain ⟨e1, q⟩ := lit0s_ok es (m := m) hy
        exact ⟨by simp [evE, e1, tupR, lim900 hl], pu_tup q⟩
      · cases hx
  | .var _, _, _, hx => by cases hx
  | .lst _, _, _, hx => by cases hx
  | .glo _, _, _, hx => by cases hx
  | .bin _ _ _, _, _, hx => by cases hx
  | .neg _, _, _, hx => by cases hx
  | .not _, _, _, hx => by cases hx
  | .and _ _, _, _, hx => by cases hx
  | .or _ _, _, _, hx => by cases hx
  | .cmp _ _ _, _, _, hx => by cases hx
  | .chn _ _ _ _ _, _, _, hx => by cases hx
  | .ife _ _ _, _, _, hx => by cases hx
  | .dct _, _, _, hx => by cases hx
  | .idx _ _, _, _, hx => by cases hx
  | .slc _ _ _, _, _, hx => by cases hx
  | .att _ _, _, _, hx => by cases hx
  | .call _ _, _, _, hx => by cases hx
  | .mk _ _, _, _, hx => by cases hx
  | .mth _ _ _, _, _, hx => by cases hx
  | .blt _ _, _, _, hx => by cases hx
  | .isi _ _, _, _, hx => by cases hx
  | .un _ _, _, _, hx => by cases hx
  | .lc _ _, _, _, hx => by cases hx
  | .dc _ _ _, _, _, hx => by cases hx
theorem lit0s_ok : ∀ (x : Mp.Es) {cs : List D} {m : Mem}, lit0s x = some cs → evEs W x ρ m = .ok cs m ∧ Pus cs
  | .nil, cs, m, hx => by
    simp only [lit0s] at hx; cases hx
    exact ⟨by simp [evEs], rfl⟩
  | .cons true _ _, _, _, hx => by simp only [lit0s] at hx; cases hx
  | .cons false e r, cs, m, hx => by
    simp only [lit0s] at hx
    cases hy : lit0 e with
    | none => rw [hy] at hx; cases hx
    | some c =>
      rw [hy, Option.bind_some] at hx
      cases hz : lit0s r with
      | none => rw [hz] at hx; cases hx
      | some q =>
        rw [hz, Option.bind_some] at hx
        cases hx
        obtain ⟨e1, q1⟩ := lit0_ok e (m := m) hy
        obtain ⟨e2, q2⟩ := lit0s_ok r (m := m) hz
        refine ⟨by simp [evEs, e1, e2], ?_⟩
        simp only [Pus, Rps]
        exact ⟨_, _, rfl, q1, q2⟩
end
end
def pairs (ρP : Nat → Option D) : Mp.Es → Option (List (D × D))
  | .nil => some []
  | .cons false (.tup (.cons false a (.cons false b .nil))) r => (lit ρP a).bind fun ca => (lit0 b).bind fun cb => (pairs ρP r).bind fun q => some ((ca, cb) :: q)
  | _ => none
def PRs (m : Mem) : List (D × D) → List D → Prop
  | [], ds => ds = []
  | p :: ps, ds => ∃ dp q, ds = .tup [dp, p.2] :: q ∧ Rp m p.1 dp ∧ Pu p.2 ∧ PRs m ps q
section
variable {m : Mem}
theorem PRs.mono {m' : Mem} (h : Le m m') : ∀ {ps : List (D × D)} {ds : List D}, PRs m ps ds → PRs m' ps ds
  | [], _, z => z
  | p :: ps, _, z => by
    obtain ⟨dp, q, rfl, a, b, c⟩ := z
    exact ⟨dp, q, rfl, a.mono h, b, PRs.mono h c⟩
theorem PRs.append : ∀ {ps qs : List (D × D)} {ds es : List D}, PRs m ps ds → PRs m qs es → PRs m (ps ++ qs) (ds ++ es)
  | [], _, _, _, h, h' => by cases h; exact h'
  | p :: ps, _, _, _, h, h' => by
    obtain ⟨dp, q, rfl, a, b, c⟩ := h
    exact ⟨dp, _, rfl, a, b, PRs.append c h'⟩
theorem PRs.length : ∀ {ps : List (D × D)} {ds : List D}, PRs m ps ds → ds.length = ps.length
  | [], _, h => by cases h; rfl
  | p :: ps, _, h => by
    obtain ⟨dp, q, rfl, a, b, c⟩ := h
    simp [PRs.length c]
theorem pairs_ok {W : Wd} {ρP : Nat → Option D} {ρ : Mp.Env} : ∀ (x : Mp.Es) {ps : List (D × D)} {m : Mem}, RhoP m ρP ρ → pairs ρP x = some ps → ∃ (g : Mem) (ds : List D), evEs W x ρ m = .ok ds (m ++ g) ∧ PRs (m ++ g) ps ds
  | .nil, ps, m, hr, hx => by
    simp only [pairs] at hx; cases hx
    exact ⟨[], [], by simp [evEs], rfl⟩
  | .cons st e r, ps, m, hr, hx => by
    unfold pairs at hx
    split at hx
    · rename_i ee; cases ee
    · rename_i a b r' ee
      cases ee
      cases hy : lit ρP a with
      | none => rw [hy] at hx; cases hx
      | some ca =>
        rw [hy, Option.bind_some] at hx
        cases hz : lit0 b with
        | none => rw [hz] at hx; cases hx
        | some cb =>
          rw [hz, Option.bind_some] at hx
          cases hw : pairs ρP r with
          | none => rw [hw] at hx; cases hx
          | some q =>
            rw [hw, Option.bind_some] at hx
            cases hx
            obtain ⟨g1, d, e1, q1⟩ := lit_ok (W := W) a hr hy
            obtain ⟨e2, q2⟩ := lit0_ok (W := W) (ρ := ρ) b (m := m ++ g1) hz
            obtain ⟨g2, ds, e3, q3⟩ := pairs_ok (W := W) r (hr.mono (Le.app g1)) hw
            rw [List.append_assoc] at e3 q3
            refine ⟨g1 ++ g2, .tup [d, cb] :: ds, by simp [evEs, evE, e1, e2, tupR, len2, e3], d, ds, rfl, ?_, q2, q3⟩
            rw [← List.append_assoc]; exact q1.mono (Le.app g2)
    · cases hx
end
def esOf : Mp.S → Mp.Es
  | .set _ (.lst es) => es
  | .set _ (.bin _ _ (.lst es)) => es
  | _ => .nil
structure Bd (M : Mem) (v : Option D) (ps : List (D × D)) : Prop where
  at_ : ∃ iB ds, v = some (.ref iB) ∧ M[iB]? = some (.lst ds) ∧ PRs M ps ds
section
variable {T : Tab} {M : Mem} {K i p l : Nat} {L : Nat} {v7 v8 v9 v10 v11 v12 v13 : Option D}
theorem bads_first {ρP : Nat → Option D} {es : Mp.Es} {ps : List (D × D)} (hr : RhoP M ρP (env6 i p L l v7 v8 v9 v10 v11 v12 v13)) (h : pairs ρP es = some ps) (hl : ps.length ≤ 900) :
    ∃ g v, evS (wd T (K + 39)) T.exf T.sub (.set (.nm 7) (.lst es)) (env6 i p L l v7 v8 v9 v10 v11 v12 v13) M = .nx (env6 i p L l v v8 v9 v10 v11 v12 v13) (M ++ g) ∧ Bd (M ++ g) v ps := by
  obtain ⟨g, ds, e1, q⟩ := pairs_ok (W := wd T (K + 39)) es hr h
  have hl' := q.length
  refine ⟨g ++ [.lst ds], some (.ref (M ++ g).length), ?_, (M ++ g).length, ds, rfl, ?_, ?_⟩
  · rw [evS, evE, e1]
    simp only [wd_hot, Bool.false_and, Bool.false_eq_true, if_false, R.bind_ok, newL, lim900 (show ds.length ≤ 900 by omega), if_true, thenS_ok, setT, List.append_assoc, env6, List.set]
  · have := get_end (M ++ g) (O.lst ds) []
    simpa using this
  · have := q.mono (Le.app [.lst ds])
    simpa using this
theorem bads_add {ρP : Nat → Option D} {es : Mp.Es} {ps qs : List (D × D)} (hb : Bd M v7 ps) (hr : RhoP M ρP (env6 i p L l v7 v8 v9 v10 v11 v12 v13)) (h : pairs ρP es = some qs) (hl : ps.length + qs.length ≤ 900) :
    ∃ g v, evS (wd T (K + 39)) T.exf T.sub (.set (.nm 7) (.bin .add (.var 7) (.lst es))) (env6 i p L l v7 v8 v9 v10 v11 v12 v13) M = .nx (env6 i p L l v v8 v9 v10 v11 v12 v13) (M ++ g) ∧ Bd (M ++ g) v (ps ++ qs) := by
  obtain ⟨g, ds, e1, q⟩ := pairs_ok (W := wd T (K + 39)) es hr h
  obtain ⟨iB, bs, rfl, hB, hP⟩ := hb.at_
  have hl' := q.length
  have hl2 := hP.length
  have b1 := bin_lst (m := M ++ g ++ [.lst ds]) (i := iB) (i' := (M ++ g).length) (x := bs) (y := ds) (by rw [List.append_assoc, List.getElem?_append_left (lt_of_get hB)]; exact hB) (get_end _ _ []) (by simp; exact lim900 (by omega))
  refine ⟨g ++ [.lst ds] ++ [.lst (bs ++ ds)], some (.ref (M ++ g ++ [O.lst ds]).length), ?_, (M ++ g ++ [O.lst ds]).length, bs ++ ds, rfl, ?_, ?_⟩
  · have z7 : evE (wd T (K + 39)) (.var 7) (env6 i p L l (some (.ref iB)) v8 v9 v10 v11 v12 v13) M = .ok (.ref iB) M := by simp [evE]
    rw [evS, evE, z7, R.bind_ok, evE, e1]
    simp only [wd_hot, Bool.false_and, Bool.false_eq_true, if_false, R.bind_ok, newL, lim900 (show ds.length ≤ 900 by omega), if_true]
    rw [b1]
    simp only [thenS_ok, setT, List.append_assoc, List.set]
  · have := get_end (M ++ g ++ [O.lst ds]) (O.lst (bs ++ ds)) []
    simpa using this
  · have h1 := hP.mono (Le.app (g ++ [.lst ds] ++ [.lst (bs ++ ds)]))
    have h2 := q.mono (Le.app ([.lst ds] ++ [.lst (bs ++ ds)]))
    refine h1.append ?_
    simpa using h2
theorem rho_none {ρ : Mp.Env} : RhoP M (fun _ => none) ρ := fun i c h => by cases h
end
end Pg

set_option Elab.async false
set_option linter.all false
set_option maxRecDepth 100000
set_option maxHeartbeats 2000000
/-! The law k01: what is none, the walk, the end. -/
namespace Pg
open PySem PySem.Spec PyProof.Rows L2 Mp
def badOf (x : D) : Option D := match x with
  | .tup [a, b, c, d, e] => if sm x && decide (dep x ≤ 30) then (match initX a b c d e with
    | some ⟨cl, [(f, v)]⟩ => if cl = "BadProgram" ∧ f = "place" then some v else none
    | _ => none) else none
  | _ => none
def okB (q : D × D) : Bool := decide (badOf q.1 = some q.2) && decide (dep q.2 ≤ 30)
theorem badOf_some {x v : D} (h : badOf x = some v) : ∃ a b c d e, x = .tup [a, b, c, d, e] ∧ sm x = true ∧ dep x ≤ 30 ∧ initX a b c d e = some (badX v) := by
  unfold badOf at h
  split at h
  · rename_i a b c d e
    split at h
    · rename_i z
      split at h
      · rename_i cl f v' e1
        split at h
        · rename_i y
          cases h
          obtain ⟨rfl, rfl⟩ := y
          simp only [Bool.and_eq_true, decide_eq_true_eq] at z
          exact ⟨a, b, c, d, e, rfl, z.1, z.2, e1⟩
        · cases h
      · cases h
    · cases h
  · cases h
structure HasErr (T : Tab) : Prop where
  b : T.sub "BadProgram" "BadProgram" = true
  l : T.sub "TooLarge" "TooLarge" = true
theorem ownAt_pu {m : Mem} {c : D} (h : Pu c) : ownAt m c = none := by
  cases c with
  | ref _ => exact h.elim
  | _ => rfl
theorem Le_kill (m : Mem) : Le m (kill m) := fun i ds h => by
  simp [kill, h]
section
variable {T : Tab} {M : Mem} {K i p l : Nat} {L : Nat} {v7 v8 v9 v10 v11 v12 v13 : Option D}
def mkB : E := (.mk "Program" (.cons false (.idx (.var 11) (.cst (.int 0))) (.cons false (.idx (.var 11) (.cst (.int 1))) (.cons false (.idx (.var 11) (.cst (.int 2))) (.cons false (.idx (.var 11) (.cst (.int 3))) (.cons false (.idx (.var 11) (.cst (.int 4))) .nil))))))
def hdB : Mp.Ss := (.cons (.ifs (.cmp .ne (.att (.var 13) "place") (.var 12)) (.cons (.ret (.cst (.bl false))) .nil) .nil) .nil)
def bodyB : Mp.Ss := (.cons (.try_ (.cons (.expr mkB) (.cons (.ret (.cst (.bl false))) .nil)) (.cons ["BadProgram"] (some 13) hdB .nil)) .nil)
theorem k22_eq : k22 = (.for_ (.tu [.nm 11, .nm 12]) (.seq (.var 7)) bodyB) := rfl
theorem hand_ok (hp : HasProg T) {due : D} (hd : Pu due) (h64 : dep due ≤ 64) {x11 : Option D} : coldS (some 13) (evSs (hotW (wd T (K + 39))) T.exf T.sub hdB ((env6 i p L l v7 v8 v9 v10 x11 (some due) v13).set 13 (some (.ref M.length))) (M ++ [.exo "BadProgram" [("place", due)]])) =
    .nx (env6 i p L l v7 v8 v9 v10 x11 (some due) none) (kill (M ++ [.exo "BadProgram" [("place", due)]])) := by
  have ha : attD (.ref M.length) "place" (M ++ [.exo "BadProgram" [("place", due)]]) = some due := by
    simp [attD, fget]
  have c1 := cmp_neD (W := hotW (wd T (K + 39))) (m := M ++ [.exo "BadProgram" [("place", due)]]) (ownAt_pu hd) (eqD_self hd h64)
  simp [hdB, evSs, evS, evE, ha, c1, coldS, offE]
theorem one_bad (hp : HasProg T) (he : HasErr T) {q : D × D} (ok : okB q = true) {dp : D} (hr : Rp M q.1 dp) (hd : Pu q.2) :
    ∃ M', Le M M' ∧ evSs (wd T (K + 39)) T.exf T.sub bodyB (env6 i p L l v7 v8 v9 v10 (some dp) (some q.2) v13) M = .nx (env6 i p L l v7 v8 v9 v10 (some dp) (some q.2) none) M' := by
  obtain ⟨c, due⟩ := q
  simp only [okB, Bool.and_eq_true, decide_eq_true_eq] at ok
  obtain ⟨a, b, c', d, e, rfl, hs, hdep, hi⟩ := badOf_some ok.1
  simp only at hr hd ok
  rw [Rp] at hr
  obtain ⟨ds, ha, hq⟩ := hr
  simp only [Rps] at hq
  obtain ⟨da, _, rfl, ra, db, _, rfl, rb, dc, _, rfl, rc, dd, _, rfl, rd, de, _, rfl, re, rfl⟩ := hq
  have hs : sm a = true ∧ sm b = true ∧ sm c' = true ∧ sm d = true ∧ sm e = true := by simpa [sm, sms] using hs
  have hdep : dep a ≤ 30 ∧ dep b ≤ 30 ∧ dep c' ≤ 30 ∧ dep d ≤ 30 ∧ dep e ≤ 30 := by simp [dep, deps] at hdep; omega
  have i0 := rowAt_idx ha 0 (by decide)
  have i1 := rowAt_idx ha 1 (by decide)
  have i2 := rowAt_idx ha 2 (by decide)
  have i3 := rowAt_idx ha 3 (by decide)
  have i4 := rowAt_idx ha 4 (by decide)
  obtain ⟨fs, hfs, z⟩ := mk_prog hp (k := K + 21) (ρ := env6 i p L l v7 v8 v9 v10 (some dp) (some due) v13) (m := M) (m1 := M) (es := (.cons false (.idx (.var 11) (.cst (.int 0))) (.cons false (.idx (.var 11) (.cst (.int 1))) (.cons false (.idx (.var 11) (.cst (.int 2))) (.cons false (.idx (.var 11) (.cst (.int 3))) (.cons false (.idx (.var 11) (.cst (.int 4))) .nil)))))) (by
    simp [evEs, evE, cstD, i0, i1, i2, i3, i4]) ⟨ra, hs.1, by omega⟩ ⟨rb, hs.2.1, by omega⟩ ⟨rc, hs.2.2.1, by omega⟩ ⟨rd, hs.2.2.2.1, by omega⟩ ⟨re, hs.2.2.2.2, by omega⟩
  rw [hi] at z
  have z : evE (wd T (K + 39)) mkB (env6 i p L l v7 v8 v9 v10 (some dp) (some due) v13) M = .exc (badX due) (M ++ [.ins "Program" fs]) := z
  have hh := hand_ok (K := K) (M := M ++ [.ins "Program" fs]) (i := i) (p := p) (L := L) (l := l) (v7 := v7) (v8 := v8) (v9 := v9) (v10 := v10) (x11 := some dp) (v13 := v13) hp hd (by omega)
  refine ⟨kill (M ++ [.ins "Program" fs] ++ [.exo "BadProgram" [("place", due)]]), ?_, ?_⟩
  rotate_left
  · unfold bodyB
    rw [evSs, evS]
    simp only [wd_hot, Bool.false_eq_true, if_false]
    rw [evSs, evS, z]
    simp only [thenS_exc, seqS_exc]
    rw [evHs]
    simp only [badX, hp.bad, List.map_cons, List.map_nil, if_true, List.any_cons, List.any_nil, he.b, Bool.or_false]
    simp only [hh, seqS_nx, evSs]
  · exact ((Le.app [.ins "Program" fs]).trans (Le.app _)).trans (Le_kill _)
theorem bads_loop (hp : HasProg T) (he : HasErr T) (iB : Nat) (ds0 : List D) : ∀ (ps : List (D × D)) {ds : List D} {M : Mem} {v11 v12 v13 : Option D}, ps.all okB = true → PRs M ps ds → M[iB]? = some (.lst ds0) →
    ∃ (M' : Mem) (w11 w12 w13 : Option D), Le M M' ∧ loopS [(iB, ds0)] (fun d ρ m => match setT (.tu [.nm 11, .nm 12]) d ρ with
      | some ρ' => evSs (wd T (K + 39)) T.exf T.sub bodyB ρ' m
      | none => .bad) ds (env6 i p L l v7 v8 v9 v10 v11 v12 v13) M = .nx (env6 i p L l v7 v8 v9 v10 w11 w12 w13) M'
  | [], ds, M, v11, v12, v13, _, h, hB => by
    cases h
    have st : Mp.still M [(iB, ds0)] = true := by simp [Mp.still, Mp.listAt, hB]
    exact ⟨M, v11, v12, v13, Le.refl, by simp [loopS, st]⟩
  | q :: ps, ds, M, v11, v12, v13, ha, h, hB => by
    obtain ⟨dp, r, rfl, h1, h2, h3⟩ := h
    have ha : okB q = true ∧ ps.all okB = true := by simpa using ha
    have st : Mp.still M [(iB, ds0)] = true := by simp [Mp.still, Mp.listAt, hB]
    obtain ⟨M1, l1, e1⟩ := one_bad (K := K) (i := i) (p := p) (L := L) (l := l) (v7 := v7) (v8 := v8) (v9 := v9) (v10 := v10) (v13 := v13) hp he ha.1 h1 h2
    obtain ⟨M2, w11, w12, w13, l2, e2⟩ := bads_loop hp he iB ds0 ps (v11 := some dp) (v12 := some q.2) (v13 := none) ha.2 (h3.mono l1) (l1 _ _ hB)
    refine ⟨M2, w11, w12, w13, l1.trans l2, ?_⟩
    rw [← e2]
    have es : setT (.tu [.nm 11, .nm 12]) (.tup [dp, q.2]) (env6 i p L l v7 v8 v9 v10 v11 v12 v13) = some (env6 i p L l v7 v8 v9 v10 (some dp) (some q.2) v13) := rfl
    simp only [loopS, st, if_true, es]
    rw [e1]
theorem k22_ok (hp : HasProg T) (he : HasErr T) {ps : List (D × D)} (hb : Bd M v7 ps) (ha : ps.all okB = true) :
    ∃ (M' : Mem) (w11 w12 w13 : Option D), evS (wd T (K + 39)) T.exf T.sub k22 (env6 i p L l v7 v8 v9 v10 v11 v12 v13) M = .nx (env6 i p L l v7 v8 v9 v10 w11 w12 w13) M' := by
  obtain ⟨iB, ds, rfl, hB, hP⟩ := hb.at_
  obtain ⟨M', w11, w12, w13, _, e⟩ := bads_loop (K := K) (i := i) (p := p) (L := L) (l := l) (v7 := some (.ref iB)) (v8 := v8) (v9 := v9) (v10 := v10) (v11 := v11) (v12 := v12) (v13 := v13) hp he iB ds ps ha hP hB
  refine ⟨M', w11, w12, w13, ?_⟩
  rw [k22_eq, evS]
  have sq : seqOf M (.ref iB) = some ds := rowAt_seq (rowAt_of hB)
  simp only [wd_hot, Bool.false_eq_true, if_false, evI, evE, env6, List.getElem?_cons_zero, List.getElem?_cons_succ, R.bind_ok, sq, srcOf]
  exact e
end
end Pg

set_option Elab.async false
set_option linter.all false
set_option maxRecDepth 100000
set_option maxHeartbeats 2000000
/-! The law k01: the end. -/
namespace Pg
open PySem PySem.Spec PyProof.Rows L2 Mp
section
variable {T : Tab} {M : Mem} {K i p l : Nat} {L : Nat} {v7 v8 v9 v10 v11 v12 v13 : Option D}
def c8 : D := .tup [.str "number", .int 0]
def c9 : D := .tup [.str "plus", c8, .tup [.str "plus", c8, .tup [.str "plus", c8, c8]]]
def c10 : D := .tup [.str "same", c8, c8]
def rhoL : Nat → Option D := fun i => if i = 8 then some c8 else if i = 9 then some c9 else if i = 10 then some c10 else none
theorem pu8 : Pu c8 := pus2 (okS _ (by decide +kernel)) rfl
theorem pu9 : Pu c9 := pus3 (okS _ (by decide +kernel)) pu8 (pus3 (okS _ (by decide +kernel)) pu8 (pus3 (okS _ (by decide +kernel)) pu8 pu8))
theorem pu10 : Pu c10 := pus3 (okS _ (by decide +kernel)) pu8 pu8
theorem rho_ok : RhoP M rhoL (env6 i p L l v7 (some c8) (some c9) (some c10) v11 v12 v13) := fun j c h => by
  unfold rhoL at h
  split at h
  · rename_i e; subst e; cases h; exact ⟨c8, rfl, pu8.to M⟩
  · split at h
    · rename_i e; subst e; cases h; exact ⟨c9, rfl, pu9.to M⟩
    · split at h
      · rename_i e; subst e; cases h; exact ⟨c10, rfl, pu10.to M⟩
      · cases h
theorem k15_ok : evS (wd T (K + 39)) T.exf T.sub k15 (env6 i p L l v7 v8 v9 v10 v11 v12 v13) M = .nx (env6 i p L l v7 (some c8) (some c9) v10 v11 v12 v13) M := by
  have e : k15 = .set (.tu [.nm 8, .nm 9]) (match k15 with
    | .set _ e => e
    | _ => .cst .non) := rfl
  have z : lit0 (match k15 with
    | .set _ e => e
    | _ => .cst .non) = some (.tup [c8, c9]) := by decide +kernel
  obtain ⟨q, _⟩ := lit0_ok (W := wd T (K + 39)) (ρ := env6 i p L l v7 v8 v9 v10 v11 v12 v13) _ (m := M) z
  rw [e, evS, q]
  simp [setT]
theorem k16_ok : evS (wd T (K + 39)) T.exf T.sub k16 (env6 i p L l v7 (some c8) v9 v10 v11 v12 v13) M = .nx (env6 i p L l v7 (some c8) v9 (some c10) v11 v12 v13) M := by
  simp [k16, evS, evE, evEs, cstD, tupR, len3, setT, c10]
theorem bads (h : ∀ q : List (D × D), True) : True := trivial
def nonP : Nat → Option D := fun _ => none
def ps11 : List (D × D) := (pairs nonP (esOf k11)).getD []
def ps12 : List (D × D) := (pairs nonP (esOf k12)).getD []
def ps13 : List (D × D) := (pairs nonP (esOf k13)).getD []
def ps14 : List (D × D) := (pairs nonP (esOf k14)).getD []
def ps17 : List (D × D) := (pairs rhoL (esOf k17)).getD []
def ps18 : List (D × D) := (pairs rhoL (esOf k18)).getD []
def ps19 : List (D × D) := (pairs rhoL (esOf k19)).getD []
def ps20 : List (D × D) := (pairs rhoL (esOf k20)).getD []
def ps21 : List (D × D) := (pairs rhoL (esOf k21)).getD []
theorem some_getD {α : Type} {o : Option α} {d : α} (h : o.isSome = true) : o = some (o.getD d) := by
  cases o with
  | none => cases h
  | some x => rfl
theorem all_ok : (ps11 ++ ps12 ++ ps13 ++ ps14 ++ ps17 ++ ps18 ++ ps19 ++ ps20 ++ ps21).all okB = true := by decide +kernel
theorem rows_ok : ((pairs nonP (esOf k11)).isSome && (pairs nonP (esOf k12)).isSome && (pairs nonP (esOf k13)).isSome && (pairs nonP (esOf k14)).isSome && (pairs rhoL (esOf k17)).isSome && (pairs rhoL (esOf k18)).isSome && (pairs rhoL (esOf k19)).isSome && (pairs rhoL (esOf k20)).isSome && (pairs rhoL (esOf k21)).isSome) = true := by decide +kernel
theorem lens_ok : (ps11 ++ ps12 ++ ps13 ++ ps14 ++ ps17 ++ ps18 ++ ps19 ++ ps20 ++ ps21).length = 22 := by decide +kernel
/-- the fourteen steps too many -/
def mkL : E := match k23 with
  | .try_ (.cons (.expr e) _) _ => e
  | _ => .cst .non
def esL : Mp.Es := match mkL with
  | .mk _ es => es
  | _ => .nil
def csL : List D := (lits rhoL esL).getD []
def hdL : Mp.Ss := (.cons (.ifs (.cmp .ne (.att (.var 13) "number") (.cst (.int 14))) (.cons (.ret (.cst (.bl false))) .nil) .nil) .nil)
theorem k23_eq : k23 = .try_ (.cons (.expr (.mk "Program" esL)) (.cons (.ret (.cst (.bl false))) .nil)) (.cons ["TooLarge"] (some 13) hdL .nil) := rfl
def isL : List D → Bool
  | [a, b, c, d, e] => sms [a, b, c, d, e] && decide (deps [a, b, c, d, e] ≤ 30) && (match initX a b c d e with
    | some ⟨cl, [(f, v)]⟩ => decide (cl = "TooLarge") && decide (f = "number") && decide (v = .int 14)
    | _ => false)
  | _ => false
theorem csL_ok : ((lits rhoL esL).isSome && isL csL) = true := by decide +kernel
theorem k23_ok (hp : HasProg T) (he : HasErr T) {v11 v12 v13 : Option D} : ∃ M' w13, evS (wd T (K + 39)) T.exf T.sub k23 (env6 i p L l v7 (some c8) (some c9) (some c10) v11 v12 v13) M = .nx (env6 i p L l v7 (some c8) (some c9) (some c10) v11 v12 w13) M' := by
  have h := csL_ok
  simp only [Bool.and_eq_true] at h
  obtain ⟨g, ds, e1, q⟩ := lits_ok (W := wd T (K + 39)) esL (rho_ok (M := M) (i := i) (p := p) (L := L) (l := l) (v7 := v7) (v11 := v11) (v12 := v12) (v13 := v13)) (some_getD (d := []) h.1)
  have h2 : isL csL = true := h.2
  have q : Rps (M ++ g) csL ds := q
  generalize csL = cs at h2 q
  unfold isL at h2
  split at h2
  · rename_i a b c d e
    simp only [Bool.and_eq_true, decide_eq_true_eq] at h2
    obtain ⟨⟨hs, hdep⟩, h3⟩ := h2
    split at h3
    · rename_i cl f v hi
      simp only [Bool.and_eq_true, decide_eq_true_eq] at h3
      obtain ⟨⟨rfl, rfl⟩, rfl⟩ := h3
      simp only [Rps] at q
      obtain ⟨da, _, rfl, ra, db, _, rfl, rb, dc, _, rfl, rc, dd, _, rfl, rd, de, _, rfl, re, rfl⟩ := q
      have hs : sm a = true ∧ sm b = true ∧ sm c = true ∧ sm d = true ∧ sm e = true := by simpa [sms] using hs
      have hdep : dep a ≤ 30 ∧ dep b ≤ 30 ∧ dep c ≤ 30 ∧ dep d ≤ 30 ∧ dep e ≤ 30 := by simp [deps] at hdep; omega
      obtain ⟨fs, hfs, z⟩ := mk_prog hp (k := K + 21) e1 ⟨ra, hs.1, by omega⟩ ⟨rb, hs.2.1, by omega⟩ ⟨rc, hs.2.2.1, by omega⟩ ⟨rd, hs.2.2.2.1, by omega⟩ ⟨re, hs.2.2.2.2, by omega⟩
      rw [hi] at z
      have z : evE (wd T (K + 39)) (.mk "Program" esL) (env6 i p L l v7 (some c8) (some c9) (some c10) v11 v12 v13) M = .exc ⟨"TooLarge", [("number", .int 14)]⟩ (M ++ g ++ [.ins "Program" fs]) := z
      have ha : attD (.ref (M ++ g ++ [O.ins "Program" fs]).length) "number" (M ++ g ++ [O.ins "Program" fs] ++ [.exo "TooLarge" [("number", .int 14)]]) = some (.int 14) := by
        have := get_end (M ++ g ++ [O.ins "Program" fs]) (O.exo "TooLarge" [("number", .int 14)]) []
        simp only [attD, this]
        simp [fget]
      refine ⟨kill (M ++ g ++ [O.ins "Program" fs] ++ [.exo "TooLarge" [("number", .int 14)]]), none, ?_⟩
      have hh : coldS (some 13) (evSs (hotW (wd T (K + 39))) T.exf T.sub hdL ((env6 i p L l v7 (some c8) (some c9) (some c10) v11 v12 v13).set 13 (some (.ref (M ++ g ++ [O.ins "Program" fs]).length))) (M ++ g ++ [O.ins "Program" fs] ++ [.exo "TooLarge" [("number", .int 14)]])) = .nx (env6 i p L l v7 (some c8) (some c9) (some c10) v11 v12 none) (kill (M ++ g ++ [O.ins "Program" fs] ++ [.exo "TooLarge" [("number", .int 14)]])) := by
        unfold hdL
        rw [evSs, evS, evE, evE]
        have : ((env6 i p L l v7 (some c8) (some c9) (some c10) v11 v12 v13).set 13 (some (.ref (M ++ g ++ [O.ins "Program" fs]).length)))[13]? = some (some (.ref (M ++ g ++ [O.ins "Program" fs]).length)) := rfl
        rw [evE, this]
        simp only [R.bind_ok, ha, someR_some]
        rw [evE]
        simp only [R.bind_ok, cstD, cmp_neI, decide_true, Bool.not_true, truthR_ok, truthE_bl, evSs, seqS_nx, coldS, offE]
        rfl
      rw [k23_eq, evS]
      simp only [wd_hot, Bool.false_eq_true, if_false]
      rw [evSs, evS, z]
      simp only [thenS_exc, seqS_exc]
      rw [evHs]
      simp only [hp.large, List.map_cons, List.map_nil, if_true, List.any_cons, List.any_nil, he.l, Bool.or_false]
      exact hh
    · cases h3
  · cases h2
theorem k24_ok (hp : HasProg T) (he : HasErr T) {ρ : Mp.Env} (h13 : 13 < ρ.length) : ∃ M', evS (wd T (K + 39)) T.exf T.sub k24 ρ M = .rt (.bl true) M' := by
  have z := steps_in_no hp (k := K + 37) (m := M) (d := .non) (t := .non) rfl
  have hw : ∀ g, (wd T (K + 39)).has g = (T.df g).isSome := fun g => rfl
  have hcl : (wd T (K + 39)).call = callD T (K + 39) := rfl
  have g13 : (ρ.set 13 (some (D.ref M.length)))[13]? = some (some (.ref M.length)) := by simp [h13]
  have z1 : evE (wd T (K + 39)) (.call "steps_in" (.cons false (.cst .non) .nil)) ρ M = .exc (badX (.str "program")) M := by
    simp [evE, evEs, cstD, hw, hcl, hp.steps_in, z]
  refine ⟨kill (M ++ [.exo "BadProgram" [("place", .str "program")]]), ?_⟩
  unfold k24
  rw [evS]
  simp only [wd_hot, Bool.false_eq_true, if_false]
  rw [evSs, evS, z1]
  simp only [thenS_exc, seqS_exc]
  rw [evHs]
  simp only [badX, hp.bad, List.map_cons, List.map_nil, if_true, List.any_cons, List.any_nil, he.b, Bool.or_false]
  simp [evSs, evS, evE, attD, fget, g13, cstD, coldS]
end
theorem Rows4.app {M : Mem} {L q : Nat} {b c d e : D} (R : Rows4 M L b c d e q) (g : Mem) : Rows4 (M ++ g) L b c d e q := by
  obtain ⟨r0, r1, r3, h, w0, w1, w2, w3⟩ := R.at_
  exact ⟨r0, r1, r3, by rw [List.getElem?_append_left (lt_of_get h)]; exact h, w0.mono (Le.app g), w1.mono (Le.app g), w2.mono (Le.app g), w3.mono (Le.app g)⟩
theorem holds_k01 {T : Tab} (hp : HasProg T) (ht : HasTold T) (he : HasErr T) (hl : T.df ("law", none) = some d_law) (K : Nat) (ns : List Int) (hn : ns.length ≤ 63) :
    ∃ m, callD T (K + 40) ("law", none) [.ref 0] [.frz (ns.map .int)] = .ok (.bl true) m := by
  let M0 : Mem := [.frz (ns.map .int)]
  let M1 : Mem := [.frz (ns.map .int), .lst [.ref 0, .int 0]]
  have d0 : Dr M1 1 0 ns 0 := ⟨rfl, rfl, hn, by omega⟩
  obtain ⟨j1, g2, i, a, b, c, d, e, hj1, e2, I2, tp⟩ := program_ok ht (k := K + 29) d0
  obtain ⟨g3, p, e3, P3, _⟩ := made_ok hp ht (k := K + 20) I2 tp
  have I3 := I2.app g3
  obtain ⟨g5, e5⟩ := k5_ok (K := K) hp tp I3 P3 rfl
  have I5 := I3.app g5
  have P5 := P3.app g5
  obtain ⟨g6, L, q, R6, e6⟩ := k6_ok (K := K) (T := T) ht.toHasHelp tp I5 (x3 := some (.ref p))
  have I6 := I5.app g6
  have P6 := P5.app g6
  have e7 := k7_ok (K := K) hp tp I6 R6 (x3 := some (.ref p))
  have Q7 : IsProg (up M1 1 0 j1 ++ g2 ++ g3 ++ g5 ++ g6 ++ [.ins "Program" (fsOf a b c d e)]) (up M1 1 0 j1 ++ g2 ++ g3 ++ g5 ++ g6).length a b c d e := tp.prog (get_end _ _ [])
  have P7 := P6.app [.ins "Program" (fsOf a b c d e)]
  have I7 := I6.app [.ins "Program" (fsOf a b c d e)]
  have R7 := R6.app [.ins "Program" (fsOf a b c d e)]
  obtain ⟨g8, e8⟩ := k8_ok (K := K) hp ht.toHasHelp tp I7 P7 Q7 (L := L) (v7 := none) (v8 := none) (v9 := none) (v10 := none) (v11 := none) (v12 := none) (v13 := none)
  have P8 := P7.app g8
  have Q8 := Q7.app g8
  have R8 := R7.app g8
  obtain ⟨M9, st, e9⟩ := k9_ok (T := T) (K := K) (i := i) (p := p) (l := (up M1 1 0 j1 ++ g2 ++ g3 ++ g5 ++ g6).length) R8 (isT_row tp.pd) (tp.pd.sm (by omega)) (v7 := none) (v8 := none) (v9 := none) (v10 := none) (v11 := none) (v12 := none) (v13 := none)
  have P9 := P8.stay st
  have Q9 := Q8.stay st
  have e10 := k10_ok (K := K) hp P9 Q9 (i := i) (L := L) (v7 := none) (v8 := none) (v9 := none) (v10 := none) (v11 := none) (v12 := none) (v13 := none)
  have hrow := rows_ok
  simp only [Bool.and_eq_true] at hrow
  obtain ⟨⟨⟨⟨⟨⟨⟨⟨h11, h12⟩, h13⟩, h14⟩, h17⟩, h18⟩, h19⟩, h20⟩, h21⟩ := hrow
  have hlen := lens_ok
  simp only [List.length_append] at hlen
  have rn : ∀ {M : Mem} {ρ : Mp.Env}, RhoP M nonP ρ := rho_none
  obtain ⟨g11, w11, e11, B11⟩ := bads_first (T := T) (K := K) (M := M9) (i := i) (p := p) (l := (up M1 1 0 j1 ++ g2 ++ g3 ++ g5 ++ g6).length) (L := L) (v7 := none) (v8 := none) (v9 := none) (v10 := none) (v11 := none) (v12 := none) (v13 := none) rn (some_getD (d := []) h11) (by show ps11.length ≤ 900; omega)
  obtain ⟨g12, w12, e12, B12⟩ := bads_add (T := T) (K := K) (i := i) (p := p) (l := (up M1 1 0 j1 ++ g2 ++ g3 ++ g5 ++ g6).length) (L := L) (v8 := none) (v9 := none) (v10 := none) (v11 := none) (v12 := none) (v13 := none) B11 rn (some_getD (d := []) h12) (by show ps11.length + ps12.length ≤ 900; omega)
  obtain ⟨g13, w13, e13, B13⟩ := bads_add (T := T) (K := K) (i := i) (p := p) (l := (up M1 1 0 j1 ++ g2 ++ g3 ++ g5 ++ g6).length) (L := L) (v8 := none) (v9 := none) (v10 := none) (v11 := none) (v12 := none) (v13 := none) B12 rn (some_getD (d := []) h13) (by show (ps11 ++ ps12).length + ps13.length ≤ 900; simp only [List.length_append]; omega)
  obtain ⟨g14, w14, e14, B14⟩ := bads_add (T := T) (K := K) (i := i) (p := p) (l := (up M1 1 0 j1 ++ g2 ++ g3 ++ g5 ++ g6).length) (L := L) (v8 := none) (v9 := none) (v10 := none) (v11 := none) (v12 := none) (v13 := none) B13 rn (some_getD (d := []) h14) (by show (ps11 ++ ps12 ++ ps13).length + ps14.length ≤ 900; simp only [List.length_append]; omega)
  have e15 := k15_ok (T := T) (K := K) (M := M9 ++ g11 ++ g12 ++ g13 ++ g14) (i := i) (p := p) (l := (up M1 1 0 j1 ++ g2 ++ g3 ++ g5 ++ g6).length) (L := L) (v7 := w14) (v8 := none) (v9 := none) (v10 := none) (v11 := none) (v12 := none) (v13 := none)
  have e16 := k16_ok (T := T) (K := K) (M := M9 ++ g11 ++ g12 ++ g13 ++ g14) (i := i) (p := p) (l := (up M1 1 0 j1 ++ g2 ++ g3 ++ g5 ++ g6).length) (L := L) (v7 := w14) (v9 := some c9) (v10 := none) (v11 := none) (v12 := none) (v13 := none)
  obtain ⟨g17, w17, e17, B17⟩ := bads_add (T := T) (K := K) (i := i) (p := p) (l := (up M1 1 0 j1 ++ g2 ++ g3 ++ g5 ++ g6).length) (L := L) (v8 := some c8) (v9 := some c9) (v10 := some c10) (v11 := none) (v12 := none) (v13 := none) B14 rho_ok (some_getD (d := []) h17) (by show (ps11 ++ ps12 ++ ps13 ++ ps14).length + ps17.length ≤ 900; simp only [List.length_append]; omega)
  obtain ⟨g18, w18, e18, B18⟩ := bads_add (T := T) (K := K) (i := i) (p := p) (l := (up M1 1 0 j1 ++ g2 ++ g3 ++ g5 ++ g6).length) (L := L) (v8 := some c8) (v9 := some c9) (v10 := some c10) (v11 := none) (v12 := none) (v13 := none) B17 rho_ok (some_getD (d := []) h18) (by show (ps11 ++ ps12 ++ ps13 ++ ps14 ++ ps17).length + ps18.length ≤ 900; simp only [List.length_append]; omega)
  obtain ⟨g19, w19, e19, B19⟩ := bads_add (T := T) (K := K) (i := i) (p := p) (l := (up M1 1 0 j1 ++ g2 ++ g3 ++ g5 ++ g6).length) (L := L) (v8 := some c8) (v9 := some c9) (v10 := some c10) (v11 := none) (v12 := none) (v13 := none) B18 rho_ok (some_getD (d := []) h19) (by show (ps11 ++ ps12 ++ ps13 ++ ps14 ++ ps17 ++ ps18).length + ps19.length ≤ 900; simp only [List.length_append]; omega)
  obtain ⟨g20, w20, e20, B20⟩ := bads_add (T := T) (K := K) (i := i) (p := p) (l := (up M1 1 0 j1 ++ g2 ++ g3 ++ g5 ++ g6).length) (L := L) (v8 := some c8) (v9 := some c9) (v10 := some c10) (v11 := none) (v12 := none) (v13 := none) B19 rho_ok (some_getD (d := []) h20) (by show (ps11 ++ ps12 ++ ps13 ++ ps14 ++ ps17 ++ ps18 ++ ps19).length + ps20.length ≤ 900; simp only [List.length_append]; omega)
  obtain ⟨g21, w21, e21, B21⟩ := bads_add (T := T) (K := K) (i := i) (p := p) (l := (up M1 1 0 j1 ++ g2 ++ g3 ++ g5 ++ g6).length) (L := L) (v8 := some c8) (v9 := some c9) (v10 := some c10) (v11 := none) (v12 := none) (v13 := none) B20 rho_ok (some_getD (d := []) h21) (by show (ps11 ++ ps12 ++ ps13 ++ ps14 ++ ps17 ++ ps18 ++ ps19 ++ ps20).length + ps21.length ≤ 900; simp only [List.length_append]; omega)
  obtain ⟨M22, u11, u12, u13, e22⟩ := k22_ok (K := K) (i := i) (p := p) (l := (up M1 1 0 j1 ++ g2 ++ g3 ++ g5 ++ g6).length) (L := L) (v8 := some c8) (v9 := some c9) (v10 := some c10) (v11 := none) (v12 := none) (v13 := none) hp he B21 all_ok
  obtain ⟨M23, u13', e23⟩ := k23_ok (K := K) (M := M22) (i := i) (p := p) (l := (up M1 1 0 j1 ++ g2 ++ g3 ++ g5 ++ g6).length) (L := L) (v7 := w21) (v11 := u11) (v12 := u12) (v13 := u13) hp he
  obtain ⟨M24, e24⟩ := k24_ok (K := K) (M := M23) hp he (ρ := env6 i p L (up M1 1 0 j1 ++ g2 ++ g3 ++ g5 ++ g6).length w21 (some c8) (some c9) (some c10) u11 u12 u13') (by simp)
  have hw : ∀ g, (wd T (K + 39)).has g = (T.df g).isSome := fun g => rfl
  have hcl : (wd T (K + 39)).call = callD T (K + 39) := rfl
  have s1 : evS (wd T (K + 39)) T.exf T.sub k1 [some (.ref 0), none, none, none, none, none, none, none, none, none, none, none, none, none] M0 = .nx [some (.ref 0), some (.ref 1), none, none, none, none, none, none, none, none, none, none, none, none] M1 := by
    simp [k1, evS, evE, evEs, cstD, newL, len2, setT, M0, M1]
  have e2' : callD T (K + 39) ("_law_program", none) [.ref 1] M1 = .ok (.ref i) (up M1 1 0 j1 ++ g2) := e2
  have s2 : evS (wd T (K + 39)) T.exf T.sub k2 [some (.ref 0), some (.ref 1), none, none, none, none, none, none, none, none, none, none, none, none] M1 = .nx [some (.ref 0), some (.ref 1), some (.ref i), none, none, none, none, none, none, none, none, none, none, none] (up M1 1 0 j1 ++ g2) := by
    simp [k2, evS, evE, evEs, hw, hcl, ht.program, e2', setT]
  have e3' : callD T (K + 39) ("_law_made", none) [.ref i] (up M1 1 0 j1 ++ g2) = .ok (.ref p) (up M1 1 0 j1 ++ g2 ++ g3) := e3
  have s3 : evS (wd T (K + 39)) T.exf T.sub k3 [some (.ref 0), some (.ref 1), some (.ref i), none, none, none, none, none, none, none, none, none, none, none] (up M1 1 0 j1 ++ g2) = .nx [some (.ref 0), some (.ref 1), some (.ref i), some (.ref p), none, none, none, none, none, none, none, none, none, none] (up M1 1 0 j1 ++ g2 ++ g3) := by
    simp only [k3, evS, evE, evEs, List.getElem?_cons_zero, List.getElem?_cons_succ, hw, hcl, ht.made, Option.isSome_some, Bool.not_true, Bool.false_eq_true, if_false, R.bind_ok, e3', wd_hot, Bool.false_and, thenS_ok, setT, List.set]
  have s4 := k4_ok (T := T) (K := K) (ρ := [some (.ref 0), some (.ref 1), some (.ref i), some (.ref p), none, none, none, none, none, none, none, none, none, none]) tp I3 P3 rfl rfl
  have f11 : k11 = .set (.nm 7) (.lst (esOf k11)) := rfl
  have f12 : k12 = .set (.nm 7) (.bin .add (.var 7) (.lst (esOf k12))) := rfl
  have f13 : k13 = .set (.nm 7) (.bin .add (.var 7) (.lst (esOf k13))) := rfl
  have f14 : k14 = .set (.nm 7) (.bin .add (.var 7) (.lst (esOf k14))) := rfl
  have f17 : k17 = .set (.nm 7) (.bin .add (.var 7) (.lst (esOf k17))) := rfl
  have f18 : k18 = .set (.nm 7) (.bin .add (.var 7) (.lst (esOf k18))) := rfl
  have f19 : k19 = .set (.nm 7) (.bin .add (.var 7) (.lst (esOf k19))) := rfl
  have f20 : k20 = .set (.nm 7) (.bin .add (.var 7) (.lst (esOf k20))) := rfl
  have f21 : k21 = .set (.nm 7) (.bin .add (.var 7) (.lst (esOf k21))) := rfl
  rw [← f11] at e11
  rw [← f12] at e12
  rw [← f13] at e13
  rw [← f14] at e14
  rw [← f17] at e17
  rw [← f18] at e18
  rw [← f19] at e19
  rw [← f20] at e20
  rw [← f21] at e21
  have fin : ∃ m', gc M0 (.bl true) M24 = .ok (.bl true) m' := by
    unfold gc
    split
    · exact ⟨_, rfl⟩
    · exact ⟨_, rfl⟩
  obtain ⟨m', fin⟩ := fin
  refine ⟨m', ?_⟩
  rw [show K + 40 = (K + 39) + 1 from rfl, callD_succ, hl]
  show (if [D.ref 0].length = d_law.pars then finR M0 (evSs (wd T (K + 39)) T.exf T.sub d_law.body (startE d_law.slots [D.ref 0]) M0) else .bad) = _
  rw [if_pos (show [D.ref 0].length = d_law.pars from rfl)]
  show finR M0 (evSs (wd T (K + 39)) T.exf T.sub b_law [some (.ref 0), none, none, none, none, none, none, none, none, none, none, none, none, none] M0) = _
  rw [b_law_eq, evSs, s1, seqS_nx, evSs, s2, seqS_nx, evSs, s3, seqS_nx, evSs, s4, seqS_nx, evSs, e5, seqS_nx, evSs, e6, seqS_nx, evSs, e7, seqS_nx, evSs, e8, seqS_nx, evSs, e9, seqS_nx, evSs, e10, seqS_nx, evSs, e11, seqS_nx, evSs, e12, seqS_nx, evSs, e13, seqS_nx, evSs, e14, seqS_nx, evSs, e15, seqS_nx, evSs, e16, seqS_nx, evSs, e17, seqS_nx, evSs, e18, seqS_nx, evSs, e19, seqS_nx, evSs, e20, seqS_nx, evSs, e21, seqS_nx, evSs, e22, seqS_nx, evSs, e23, seqS_nx, evSs, e24, seqS_rt, finR_rt, fin]
end Pg

set_option Elab.async false
set_option linter.all false
set_option maxRecDepth 100000
set_option maxHeartbeats 4000000
namespace K01
open PySem PySem.Spec PyProof.Rows L2 Mp
def top (i : Nat) : Stmt := PySem.Challenge.pw_partchanges_k01_whole_programs.main.body.getD i (.Pass ⟨0, 0, 0, 0⟩)
def clsBody : Stmt → List Stmt
  | .ClassDef _ _ _ b _ _ _ _ _ _ _ => b
  | _ => []
def sub (i j : Nat) : Stmt := (clsBody (top i)).getD j (.Pass ⟨0, 0, 0, 0⟩)
def b_is_row : Mp.Ss :=
  (.cons (.ret (.isi (.var 0) [.ty .list, .ty .tuple])) .nil)
def d_is_row : Df := ⟨1, 1, b_is_row⟩
def b_is_number : Mp.Ss :=
  (.cons (.ret (.and (.isi (.var 0) [.ty .int]) (.and (.not (.isi (.var 0) [.ty .bool])) (.cmp .ge (.var 0) (.cst (.int 0)))))) .nil)
def d_is_number : Df := ⟨1, 1, b_is_number⟩
def b_is_below : Mp.Ss :=
  (.cons (.ret (.and (.call "is_number" (.cons false (.var 0) .nil)) (.cmp .lt (.var 0) (.var 1)))) .nil)
def d_is_below : Df := ⟨2, 2, b_is_below⟩
def b_deep_rows : Mp.Ss :=
  (.cons (.ret (.ife (.call "is_row" (.cons false (.var 0) .nil)) (.blt "tuple" (.cons false (.lc (.call "deep_rows" (.cons false (.var 1) .nil)) (.one [1] (.nm 1) (.seq (.var 0)) .nil)) .nil)) (.var 0))) .nil)
def d_deep_rows : Df := ⟨1, 2, b_deep_rows⟩
def b_check_expression : Mp.Ss :=
  (.cons (.ifs (.or (.cmp .eq (.var 4) (.cst (.int 0))) (.or (.not (.call "is_row" (.cons false (.var 0) .nil))) (.or (.cmp .eq (.blt "len" (.cons false (.var 0) .nil)) (.cst (.int 0))) (.not (.isi (.idx (.var 0) (.cst (.int 0))) [.ty .str]))))) 
    (.cons (.raise "BadProgram" (.var 3)) .nil) .nil) 
  (.cons (.set (.nm 5) (.idx (.var 0) (.cst (.int 0)))) 
  (.cons (.ifs (.and (.cmp .eq (.var 5) (.cst (.str "number"))) (.and (.cmp .eq (.blt "len" (.cons false (.var 0) .nil)) (.cst (.int 2))) (.and (.call "is_number" (.cons false (.idx (.var 0) (.cst (.int 1))) .nil)) (.cmp .le (.idx (.var 0) (.cst (.int 1))) (.glo "MOST_NUMBER"))))) 
    (.cons (.retN) .nil) .nil) 
  (.cons (.ifs (.and (.cmp .eq (.var 5) (.cst (.str "var"))) (.and (.cmp .eq (.blt "len" (.cons false (.var 0) .nil)) (.cst (.int 2))) (.call "is_below" (.cons false (.idx (.var 0) (.cst (.int 1))) (.cons false (.var 1) .nil))))) 
    (.cons (.retN) .nil) .nil) 
  (.cons (.ifs (.and (.cmp .eq (.var 5) (.cst (.str "letter"))) (.and (.cmp .eq (.blt "len" (.cons false (.var 0) .nil)) (.cst (.int 1))) (.var 2))) 
    (.cons (.retN) .nil) .nil) 
  (.cons (.ifs (.or (.cmp .notin (.var 5) (.glo "SUMS")) (.cmp .ne (.blt "len" (.cons false (.var 0) .nil)) (.cst (.int 3)))) 
    (.cons (.raise "BadProgram" (.var 3)) .nil) .nil) 
  (.cons (.expr (.call "check_expression" (.cons false (.idx (.var 0) (.cst (.int 1))) (.cons false (.var 1) (.cons false (.var 2) (.cons false (.tup (.cons true (.var 3) (.cons false (.cst (.str "left")) .nil))) (.cons false (.bin .sub (.var 4) (.cst (.int 1))) .nil))))))) 
  (.cons (.expr (.call "check_expression" (.cons false (.idx (.var 0) (.cst (.int 2))) (.cons false (.var 1) (.cons false (.var 2) (.cons false (.tup (.cons true (.var 3) (.cons false (.cst (.str "right")) .nil))) (.cons false (.bin .sub (.var 4) (.cst (.int 1))) .nil))))))) .nil))))))))
def d_check_expression : Df := ⟨5, 6, b_check_expression⟩
def b_check_condition : Mp.Ss :=
  (.cons (.ifs (.or (.cmp .eq (.var 4) (.cst (.int 0))) (.or (.not (.call "is_row" (.cons false (.var 0) .nil))) (.or (.cmp .eq (.blt "len" (.cons false (.var 0) .nil)) (.cst (.int 0))) (.not (.isi (.idx (.var 0) (.cst (.int 0))) [.ty .str]))))) 
    (.cons (.raise "BadProgram" (.var 3)) .nil) .nil) 
  (.cons (.set (.nm 5) (.idx (.var 0) (.cst (.int 0)))) 
  (.cons (.ifs (.and (.cmp .eq (.var 5) (.cst (.str "not"))) (.cmp .eq (.blt "len" (.cons false (.var 0) .nil)) (.cst (.int 2)))) 
    (.cons (.expr (.call "check_condition" (.cons false (.idx (.var 0) (.cst (.int 1))) (.cons false (.var 1) (.cons false (.var 2) (.cons false (.tup (.cons true (.var 3) (.cons false (.cst (.str "left")) .nil))) (.cons false (.bin .sub (.var 4) (.cst (.int 1))) .nil))))))) 
    (.cons (.retN) .nil)) .nil) 
  (.cons (.ifs (.or (.cmp .notin (.var 5) (.tup (.cons true (.glo "TESTS") (.cons true (.glo "JOINS") .nil)))) (.cmp .ne (.blt "len" (.cons false (.var 0) .nil)) (.cst (.int 3)))) 
    (.cons (.raise "BadProgram" (.var 3)) .nil) .nil) 
  (.cons (.for_ (.tu [.nm 6, .nm 7]) (.seq (.tup (.cons false (.tup (.cons false (.idx (.var 0) (.cst (.int 1))) (.cons false (.cst (.str "left")) .nil))) (.cons false (.tup (.cons false (.idx (.var 0) (.cst (.int 2))) (.cons false (.cst (.str "right")) .nil))) .nil)))) 
    (.cons (.ifs (.cmp .isin (.var 5) (.glo "TESTS")) 
      (.cons (.expr (.call "check_expression" (.cons false (.var 6) (.cons false (.var 1) (.cons false (.var 2) (.cons false (.tup (.cons true (.var 3) (.cons false (.var 7) .nil))) (.cons false (.glo "MOST_DEEP") .nil))))))) .nil) 
      (.cons (.expr (.call "check_condition" (.cons false (.var 6) (.cons false (.var 1) (.cons false (.var 2) (.cons false (.tup (.cons true (.var 3) (.cons false (.var 7) .nil))) (.cons false (.bin .sub (.var 4) (.cst (.int 1))) .nil))))))) .nil)) .nil)) .nil)))))
def d_check_condition : Df := ⟨5, 8, b_check_condition⟩
def b_Program_init : Mp.Ss :=
  (.cons (.ifs (.or (.not (.call "is_number" (.cons false (.var 1) .nil))) (.not (.chn .le .le (.cst (.int 1)) (.var 1) (.glo "MOST_LETTERS")))) 
    (.cons (.raise "BadProgram" (.cst (.str "letters"))) .nil) .nil) 
  (.cons (.ifs (.or (.not (.call "is_row" (.cons false (.var 2) .nil))) (.cmp .gt (.blt "len" (.cons false (.var 2) .nil)) (.glo "MOST_VARIABLES"))) 
    (.cons (.raise "BadProgram" (.cst (.str "sizes"))) .nil) .nil) 
  (.cons (.ifs (.not (.blt "all" (.cons false (.lc (.and (.call "is_number" (.cons false (.var 6) .nil)) (.chn .le .le (.cst (.int 1)) (.var 6) (.glo "MOST_SIZE"))) (.one [6] (.nm 6) (.seq (.var 2)) .nil)) .nil))) 
    (.cons (.raise "BadProgram" (.cst (.str "sizes"))) .nil) .nil) 
  (.cons (.for_ (.tu [.nm 7, .nm 8]) (.zip (.glo "PARTS") (.tup (.cons false (.var 3) (.cons false (.var 4) (.cons false (.var 5) .nil))))) 
    (.cons (.expr (.call "check_steps" (.cons false (.var 8) (.cons false (.blt "len" (.cons false (.var 2) .nil)) (.cons false (.cmp .eq (.var 7) (.cst (.str "each"))) (.cons false (.tup (.cons false (.var 7) .nil)) (.cons false (.glo "MOST_NESTED") .nil))))))) .nil)) 
  (.cons (.setF (.var 0) "letters" (.var 1)) 
  (.cons (.setF (.var 0) "sizes" (.blt "tuple" (.cons false (.var 2) .nil))) 
  (.cons (.setF (.var 0) "first" (.call "deep_rows" (.cons false (.var 3) .nil))) 
  (.cons (.setF (.var 0) "each" (.call "deep_rows" (.cons false (.var 4) .nil))) 
  (.cons (.setF (.var 0) "last" (.call "deep_rows" (.cons false (.var 5) .nil))) 
  (.cons (.set (.nm 9) (.bin .add (.bin .add (.call "count_steps" (.cons false (.att (.var 0) "first") .nil)) (.call "count_steps" (.cons false (.att (.var 0) "each") .nil))) (.call "count_steps" (.cons false (.att (.var 0) "last") .nil)))) 
  (.cons (.ifs (.cmp .gt (.var 9) (.glo "MOST_STEPS")) 
    (.cons (.raise "TooLarge" (.var 9)) .nil) .nil) .nil)))))))))))
def d_Program_init : Df := ⟨6, 10, b_Program_init⟩
def b_Program_eq : Mp.Ss :=
  (.cons (.ifs (.or (.not (.isi (.var 1) [.own "Program"])) (.cmp .ne (.tup (.cons false (.att (.var 0) "letters") (.cons false (.att (.var 0) "sizes") .nil))) (.tup (.cons false (.att (.var 1) "letters") (.cons false (.att (.var 1) "sizes") .nil))))) 
    (.cons (.ret (.cst (.bl false))) .nil) .nil) 
  (.cons (.ret (.cmp .eq (.tup (.cons false (.att (.var 0) "first") (.cons false (.att (.var 0) "each") (.cons false (.att (.var 0) "last") .nil)))) (.tup (.cons false (.att (.var 1) "first") (.cons false (.att (.var 1) "each") (.cons false (.att (.var 1) "last") .nil)))))) .nil))
def d_Program_eq : Df := ⟨2, 2, b_Program_eq⟩
def b_Program_part : Mp.Ss :=
  (.cons (.ret (.idx (.dct (.cons false (.cst (.str "first")) (.cons false (.att (.var 0) "first") (.cons false (.cst (.str "each")) (.cons false (.att (.var 0) "each") (.cons false (.cst (.str "last")) (.cons false (.att (.var 0) "last") .nil))))))) (.var 1))) .nil)
def d_Program_part : Df := ⟨2, 2, b_Program_part⟩
def b_check_steps : Mp.Ss :=
  (.cons (.ifs (.or (.cmp .eq (.var 4) (.cst (.int 0))) (.not (.call "is_row" (.cons false (.var 0) .nil)))) 
    (.cons (.raise "BadProgram" (.var 3)) .nil) .nil) 
  (.cons (.for_ (.tu [.nm 5, .nm 6]) (.enum (.var 0)) 
    (.cons (.expr (.call "check_step" (.cons false (.var 6) (.cons false (.var 1) (.cons false (.var 2) (.cons false (.tup (.cons true (.var 3) (.cons false (.var 5) .nil))) (.cons false (.var 4) .nil))))))) .nil)) .nil))
def d_check_steps : Df := ⟨5, 7, b_check_steps⟩
def b_check_step : Mp.Ss :=
  (.cons (.ifs (.or (.not (.call "is_row" (.cons false (.var 0) .nil))) (.or (.cmp .eq (.blt "len" (.cons false (.var 0) .nil)) (.cst (.int 0))) (.not (.isi (.idx (.var 0) (.cst (.int 0))) [.ty .str])))) 
    (.cons (.raise "BadProgram" (.var 3)) .nil) .nil) 
  (.cons (.ifs (.and (.cmp .eq (.idx (.var 0) (.cst (.int 0))) (.cst (.str "set"))) (.and (.cmp .eq (.blt "len" (.cons false (.var 0) .nil)) (.cst (.int 3))) (.call "is_below" (.cons false (.idx (.var 0) (.cst (.int 1))) (.cons false (.var 1) .nil))))) 
    (.cons (.expr (.call "check_expression" (.cons false (.idx (.var 0) (.cst (.int 2))) (.cons false (.var 1) (.cons false (.var 2) (.cons false (.tup (.cons true (.var 3) (.cons false (.cst (.str "value")) .nil))) (.cons false (.glo "MOST_DEEP") .nil))))))) 
    (.cons (.retN) .nil)) .nil) 
  (.cons (.ifs (.and (.cmp .eq (.idx (.var 0) (.cst (.int 0))) (.cst (.str "tell"))) (.cmp .eq (.blt "len" (.cons false (.var 0) .nil)) (.cst (.int 2)))) 
    (.cons (.expr (.call "check_expression" (.cons false (.idx (.var 0) (.cst (.int 1))) (.cons false (.var 1) (.cons false (.var 2) (.cons false (.tup (.cons true (.var 3) (.cons false (.cst (.str "value")) .nil))) (.cons false (.glo "MOST_DEEP") .nil))))))) 
    (.cons (.retN) .nil)) .nil) 
  (.cons (.ifs (.or (.cmp .ne (.idx (.var 0) (.cst (.int 0))) (.cst (.str "if"))) (.cmp .ne (.blt "len" (.cons false (.var 0) .nil)) (.cst (.int 4)))) 
    (.cons (.raise "BadProgram" (.var 3)) .nil) .nil) 
  (.cons (.expr (.call "check_condition" (.cons false (.idx (.var 0) (.cst (.int 1))) (.cons false (.var 1) (.cons false (.var 2) (.cons false (.tup (.cons true (.var 3) (.cons false (.cst (.str "if")) .nil))) (.cons false (.glo "MOST_DEEP") .nil))))))) 
  (.cons (.expr (.call "check_steps" (.cons false (.idx (.var 0) (.cst (.int 2))) (.cons false (.var 1) (.cons false (.var 2) (.cons false (.tup (.cons true (.var 3) (.cons false (.cst (.str "then")) .nil))) (.cons false (.bin .sub (.var 4) (.cst (.int 1))) .nil))))))) 
  (.cons (.expr (.call "check_steps" (.cons false (.idx (.var 0) (.cst (.int 3))) (.cons false (.var 1) (.cons false (.var 2) (.cons false (.tup (.cons true (.var 3) (.cons false (.cst (.str "else")) .nil))) (.cons false (.bin .sub (.var 4) (.cst (.int 1))) .nil))))))) .nil)))))))
def d_check_step : Df := ⟨5, 5, b_check_step⟩
def b_count_steps : Mp.Ss :=
  (.cons (.ret (.bin .add (.blt "len" (.cons false (.var 0) .nil)) (.blt "sum" (.cons false (.lc (.bin .add (.call "count_steps" (.cons false (.idx (.var 1) (.cst (.int 2))) .nil)) (.call "count_steps" (.cons false (.idx (.var 1) (.cst (.int 3))) .nil))) (.one [1] (.nm 1) (.seq (.var 0)) (.cons false (.cmp .eq (.idx (.var 1) (.cst (.int 0))) (.cst (.str "if"))) .nil))) .nil)))) .nil)
def d_count_steps : Df := ⟨1, 2, b_count_steps⟩
def b_check_program : Mp.Ss :=
  (.cons (.ifs (.not (.isi (.var 0) [.own "Program"])) 
    (.cons (.raise "BadProgram" (.cst (.str "program"))) .nil) .nil) .nil)
def d_check_program : Df := ⟨1, 1, b_check_program⟩
def b_steps_in : Mp.Ss :=
  (.cons (.expr (.call "check_program" (.cons false (.var 0) .nil))) 
  (.cons (.ret (.bin .add (.bin .add (.call "count_steps" (.cons false (.att (.var 0) "first") .nil)) (.call "count_steps" (.cons false (.att (.var 0) "each") .nil))) (.call "count_steps" (.cons false (.att (.var 0) "last") .nil)))) .nil))
def d_steps_in : Df := ⟨1, 1, b_steps_in⟩
def b_u_law_number : Mp.Ss :=
  (.cons (.set (.tu [.nm 2, .nm 3]) (.ife (.cmp .ne (.var 0) (.lst .nil)) (.tup (.cons false (.idx (.var 0) (.bin .mod (.var 1) (.blt "len" (.cons false (.var 0) .nil)))) (.cons false (.bin .fdiv (.var 1) (.blt "len" (.cons false (.var 0) .nil))) .nil))) (.tup (.cons false (.cst (.int 12345)) (.cons false (.cst (.int 0)) .nil))))) 
  (.cons (.set (.nm 4) (.ife (.cmp .lt (.var 3) (.cst (.int 60))) (.bin .sub (.var 2) (.bin .pow (.cst (.int 10)) (.cst (.int 18)))) (.cst (.int 0)))) 
  (.cons (.for_ (.nm 5) (.rng1 (.bin .mod (.blt "int" (.cons false (.var 3) .nil)) (.cst (.int 60)))) 
    (.cons (.set (.nm 4) (.bin .fdiv (.var 4) (.cst (.int 1009)))) .nil)) 
  (.cons (.ifs (.cmp .gt (.var 4) (.cst (.int 0))) 
    (.cons (.ret (.bin .mod (.blt "int" (.cons false (.var 4) .nil)) (.cst (.int 1009)))) .nil) .nil) 
  (.cons (.set (.nm 6) (.bin .mod (.bin .add (.bin .mul (.blt "int" (.cons false (.bin .add (.var 2) (.bin .mul (.cst (.int 977)) (.var 1))) .nil)) (.cst (.int 48271))) (.bin .mul (.cst (.int 31)) (.blt "len" (.cons false (.var 0) .nil)))) (.cst (.int 2147483647)))) 
  (.cons (.set (.nm 6) (.bin .mod (.bin .add (.bin .mul (.var 6) (.var 6)) (.bin .mul (.cst (.int 40503)) (.var 1))) (.cst (.int 2147483629)))) 
  (.cons (.ret (.blt "int" (.cons false (.bin .mod (.bin .add (.bin .mul (.var 6) (.cst (.int 69621))) (.bin .fdiv (.var 6) (.cst (.int 977)))) (.cst (.int 2147483587))) .nil))) .nil)))))))
def d_u_law_number : Df := ⟨2, 7, b_u_law_number⟩
def b_u_law_take : Mp.Ss :=
  (.cons (.augI .add (.var 0) (.cst (.int 1)) (.cst (.int 1))) 
  (.cons (.ret (.bin .mod (.blt "int" (.cons false (.call "_law_number" (.cons false (.idx (.var 0) (.cst (.int 0))) (.cons false (.blt "int" (.cons false (.idx (.var 0) (.cst (.int 1))) .nil)) .nil))) .nil)) (.var 1))) .nil))
def d_u_law_take : Df := ⟨2, 2, b_u_law_take⟩
def b_u_law_pick : Mp.Ss :=
  (.cons (.ret (.idx (.var 1) (.call "_law_take" (.cons false (.var 0) (.cons false (.blt "len" (.cons false (.var 1) .nil)) .nil))))) .nil)
def d_u_law_pick : Df := ⟨2, 2, b_u_law_pick⟩
def b_u_law_expression : Mp.Ss :=
  (.cons (.set (.nm 4) (.call "_law_take" (.cons false (.var 0) (.cons false (.cst (.int 7)) .nil)))) 
  (.cons (.ifs (.and (.cmp .eq (.var 4) (.cst (.int 6))) (.cmp .gt (.var 3) (.cst (.int 1)))) 
    (.cons (.ret (.tup (.cons false (.call "_law_pick" (.cons false (.var 0) (.cons false (.lst (.cons false (.cst (.str "plus")) (.cons false (.cst (.str "plus")) (.cons false (.cst (.str "times")) .nil)))) .nil))) (.cons false (.call "_law_expression" (.cons false (.var 0) (.cons false (.var 1) (.cons false (.var 2) (.cons false (.bin .sub (.var 3) (.cst (.int 1))) .nil))))) (.cons false (.call "_law_expression" (.cons false (.var 0) (.cons false (.var 1) (.cons false (.var 2) (.cons false (.bin .sub (.var 3) (.cst (.int 1))) .nil))))) .nil))))) .nil) .nil) 
  (.cons (.ifs (.and (.cmp .lt (.var 4) (.cst (.int 3))) (.cmp .gt (.var 1) (.cst (.int 0)))) 
    (.cons (.ret (.tup (.cons false (.cst (.str "var")) (.cons false (.call "_law_take" (.cons false (.var 0) (.cons false (.var 1) .nil))) .nil)))) .nil) .nil) 
  (.cons (.ret (.ife (.and (.var 2) (.cmp .gt (.var 4) (.cst (.int 3)))) (.tup (.cons false (.cst (.str "letter")) .nil)) (.tup (.cons false (.cst (.str "number")) (.cons false (.call "_law_take" (.cons false (.var 0) (.cons false (.cst (.int 3)) .nil))) .nil))))) .nil))))
def d_u_law_expression : Df := ⟨4, 5, b_u_law_expression⟩
def b_u_law_condition : Mp.Ss :=
  (.cons (.set (.nm 4) (.call "_law_take" (.cons false (.var 0) (.cons false (.cst (.int 6)) .nil)))) 
  (.cons (.ifs (.or (.cmp .lt (.var 4) (.cst (.int 4))) (.cmp .lt (.var 3) (.cst (.int 2)))) 
    (.cons (.ret (.tup (.cons false (.idx (.tup (.cons false (.cst (.str "less")) (.cons false (.cst (.str "same")) .nil))) (.bin .mod (.var 4) (.cst (.int 2)))) (.cons false (.call "_law_expression" (.cons false (.var 0) (.cons false (.var 1) (.cons false (.var 2) (.cons false (.cst (.int 1)) .nil))))) (.cons false (.call "_law_expression" (.cons false (.var 0) (.cons false (.var 1) (.cons false (.var 2) (.cons false (.cst (.int 2)) .nil))))) .nil))))) .nil) .nil) 
  (.cons (.ifs (.cmp .eq (.var 4) (.cst (.int 4))) 
    (.cons (.ret (.tup (.cons false (.cst (.str "not")) (.cons false (.call "_law_condition" (.cons false (.var 0) (.cons false (.var 1) (.cons false (.var 2) (.cons false (.bin .sub (.var 3) (.cst (.int 1))) .nil))))) .nil)))) .nil) .nil) 
  (.cons (.ret (.tup (.cons false (.call "_law_pick" (.cons false (.var 0) (.cons false (.lst (.cons false (.cst (.str "and")) (.cons false (.cst (.str "or")) .nil))) .nil))) (.cons false (.call "_law_condition" (.cons false (.var 0) (.cons false (.var 1) (.cons false (.var 2) (.cons false (.bin .sub (.var 3) (.cst (.int 1))) .nil))))) (.cons false (.call "_law_condition" (.cons false (.var 0) (.cons false (.var 1) (.cons false (.var 2) (.cons false (.bin .sub (.var 3) (.cst (.int 1))) .nil))))) .nil))))) .nil))))
def d_u_law_condition : Df := ⟨4, 5, b_u_law_condition⟩
def b_u_law_steps : Mp.Ss :=
  (.cons (.set (.nm 5) (.lst .nil)) 
  (.cons (.for_ (.nm 6) (.rng1 (.call "_law_take" (.cons false (.var 0) (.cons false (.bin .add (.var 4) (.cst (.int 1))) .nil)))) 
    (.cons (.set (.nm 7) (.call "_law_take" (.cons false (.var 0) (.cons false (.cst (.int 5)) .nil)))) 
    (.cons (.ifs (.and (.cmp .eq (.var 7) (.cst (.int 4))) (.cmp .gt (.var 3) (.cst (.int 1)))) 
      (.cons (.expr (.mth (.var 5) "append" (.cons false (.tup (.cons false (.cst (.str "if")) (.cons false (.call "_law_condition" (.cons false (.var 0) (.cons false (.var 1) (.cons false (.var 2) (.cons false (.cst (.int 2)) .nil))))) (.cons false (.call "_law_steps" (.cons false (.var 0) (.cons false (.var 1) (.cons false (.var 2) (.cons false (.bin .sub (.var 3) (.cst (.int 1))) (.cons false (.cst (.int 1)) .nil)))))) (.cons false (.call "_law_steps" (.cons false (.var 0) (.cons false (.var 1) (.cons false (.var 2) (.cons false (.bin .sub (.var 3) (.cst (.int 1))) (.cons false (.cst (.int 1)) .nil)))))) .nil))))) .nil))) .nil) 
      (.cons (.ifs (.and (.cmp .lt (.var 7) (.cst (.int 2))) (.cmp .gt (.var 1) (.cst (.int 0)))) 
        (.cons (.expr (.mth (.var 5) "append" (.cons false (.tup (.cons false (.cst (.str "set")) (.cons false (.call "_law_take" (.cons false (.var 0) (.cons false (.var 1) .nil))) (.cons false (.call "_law_expression" (.cons false (.var 0) (.cons false (.var 1) (.cons false (.var 2) (.cons false (.cst (.int 2)) .nil))))) .nil)))) .nil))) .nil) 
        (.cons (.expr (.mth (.var 5) "append" (.cons false (.tup (.cons false (.cst (.str "tell")) (.cons false (.call "_law_expression" (.cons false (.var 0) (.cons false (.var 1) (.cons false (.var 2) (.cons false (.cst (.int 2)) .nil))))) .nil))) .nil))) .nil)) .nil)) .nil))) 
  (.cons (.ret (.blt "tuple" (.cons false (.var 5) .nil))) .nil)))
def d_u_law_steps : Df := ⟨5, 8, b_u_law_steps⟩
def b_u_law_program : Mp.Ss :=
  (.cons (.set (.nm 1) (.blt "tuple" (.cons false (.lc (.call "_law_pick" (.cons false (.var 0) (.cons false (.lst (.cons false (.cst (.int 2)) (.cons false (.cst (.int 3)) (.cons false (.cst (.int 2)) (.cons false (.cst (.int 3)) (.cons false (.cst (.int 1)) (.cons false (.cst (.int 4)) .nil))))))) .nil))) (.one [2] (.nm 2) (.rng1 (.call "_law_pick" (.cons false (.var 0) (.cons false (.lst (.cons false (.cst (.int 0)) (.cons false (.cst (.int 1)) (.cons false (.cst (.int 1)) (.cons false (.cst (.int 2)) (.cons false (.cst (.int 2)) (.cons false (.cst (.int 3)) .nil))))))) .nil)))) .nil)) .nil))) 
  (.cons (.set (.tu [.nm 3, .nm 4, .nm 5]) (.tup (.cons false (.call "_law_steps" (.cons false (.var 0) (.cons false (.blt "len" (.cons false (.var 1) .nil)) (.cons false (.cst (.bl false)) (.cons false (.cst (.int 1)) (.cons false (.cst (.int 1)) .nil)))))) (.cons false (.call "_law_steps" (.cons false (.var 0) (.cons false (.blt "len" (.cons false (.var 1) .nil)) (.cons false (.cst (.bl true)) (.cons false (.cst (.int 2)) (.cons false (.cst (.int 3)) .nil)))))) (.cons false (.call "_law_steps" (.cons false (.var 0) (.cons false (.blt "len" (.cons false (.var 1) .nil)) (.cons false (.cst (.bl false)) (.cons false (.cst (.int 2)) (.cons false (.cst (.int 1)) .nil)))))) .nil))))) 
  (.cons (.ifs (.and (.cmp .ne (.var 1) (.tup .nil)) (.cmp .eq (.call "_law_take" (.cons false (.var 0) (.cons false (.cst (.int 2)) .nil))) (.cst (.int 0)))) 
    (.cons (.set (.nm 4) (.bin .add (.tup (.cons false (.tup (.cons false (.cst (.str "set")) (.cons false (.cst (.int 0)) (.cons false (.tup (.cons false (.cst (.str "plus")) (.cons false (.tup (.cons false (.cst (.str "var")) (.cons false (.cst (.int 0)) .nil))) (.cons false (.tup (.cons false (.cst (.str "letter")) .nil)) .nil)))) .nil)))) .nil)) (.var 4))) .nil) .nil) 
  (.cons (.set (.nm 6) (.dct (.cons false (.cst (.str "letters")) (.cons false (.call "_law_pick" (.cons false (.var 0) (.cons false (.lst (.cons false (.cst (.int 1)) (.cons false (.cst (.int 2)) (.cons false (.cst (.int 2)) (.cons false (.cst (.int 2)) (.cons false (.cst (.int 3)) .nil)))))) .nil))) (.cons false (.cst (.str "sizes")) (.cons false (.var 1) (.cons false (.cst (.str "first")) (.cons false (.var 3) (.cons false (.cst (.str "each")) (.cons false (.var 4) (.cons false (.cst (.str "last")) (.cons false (.var 5) .nil)))))))))))) 
  (.cons (.ret (.ife (.cmp .lt (.blt "len" (.cons false (.call "_law_all_places" (.cons false (.var 6) .nil)) .nil)) (.cst (.int 13))) (.var 6) (.blt "dict" (.cons false (.bin .add (.un "items" (.var 6)) (.lst (.cons false (.tup (.cons false (.cst (.str "last")) (.cons false (.tup .nil) .nil))) .nil))) .nil)))) .nil)))))
def d_u_law_program : Df := ⟨1, 7, b_u_law_program⟩
def b_u_law_made : Mp.Ss :=
  (.cons (.ret (.mk "Program" (.cons false (.idx (.var 0) (.cst (.str "letters"))) (.cons false (.idx (.var 0) (.cst (.str "sizes"))) (.cons false (.idx (.var 0) (.cst (.str "first"))) (.cons false (.idx (.var 0) (.cst (.str "each"))) (.cons false (.idx (.var 0) (.cst (.str "last"))) .nil))))))) .nil)
def d_u_law_made : Df := ⟨1, 1, b_u_law_made⟩
def b_u_law_places : Mp.Ss :=
  (.cons (.set (.nm 2) (.lst .nil)) 
  (.cons (.for_ (.tu [.nm 3, .nm 4]) (.enum (.var 0)) 
    (.cons (.expr (.mth (.var 2) "append" (.cons false (.bin .add (.var 1) (.tup (.cons false (.var 3) .nil))) .nil))) 
    (.cons (.ifs (.cmp .eq (.idx (.var 4) (.cst (.int 0))) (.cst (.str "if"))) 
      (.cons (.set (.nm 2) (.bin .add (.bin .add (.var 2) (.call "_law_places" (.cons false (.idx (.var 4) (.cst (.int 2))) (.cons false (.bin .add (.var 1) (.tup (.cons false (.var 3) (.cons false (.cst (.str "then")) .nil)))) .nil)))) (.call "_law_places" (.cons false (.idx (.var 4) (.cst (.int 3))) (.cons false (.bin .add (.var 1) (.tup (.cons false (.var 3) (.cons false (.cst (.str "else")) .nil)))) .nil))))) .nil) .nil) .nil))) 
  (.cons (.ret (.var 2)) .nil)))
def d_u_law_places : Df := ⟨2, 5, b_u_law_places⟩
def b_u_law_all_places : Mp.Ss :=
  (.cons (.ret (.bin .add (.bin .add (.call "_law_places" (.cons false (.idx (.var 0) (.cst (.str "first"))) (.cons false (.tup (.cons false (.cst (.str "first")) .nil)) .nil))) (.call "_law_places" (.cons false (.idx (.var 0) (.cst (.str "each"))) (.cons false (.tup (.cons false (.cst (.str "each")) .nil)) .nil)))) (.call "_law_places" (.cons false (.idx (.var 0) (.cst (.str "last"))) (.cons false (.tup (.cons false (.cst (.str "last")) .nil)) .nil))))) .nil)
def d_u_law_all_places : Df := ⟨1, 1, b_u_law_all_places⟩
def b_u_law_listed : Mp.Ss :=
  (.cons (.ret (.ife (.isi (.var 0) [.ty .tuple]) (.lc (.call "_law_listed" (.cons false (.var 1) .nil)) (.one [1] (.nm 1) (.seq (.var 0)) .nil)) (.var 0))) .nil)
def d_u_law_listed : Df := ⟨1, 2, b_u_law_listed⟩
def b_law : Mp.Ss :=
  (.cons (.set (.nm 1) (.lst (.cons false (.var 0) (.cons false (.cst (.int 0)) .nil)))) 
  (.cons (.set (.nm 2) (.call "_law_program" (.cons false (.var 1) .nil))) 
  (.cons (.set (.nm 3) (.call "_law_made" (.cons false (.var 2) .nil))) 
  (.cons (.ifs (.cmp .ne (.tup (.cons false (.att (.var 3) "letters") (.cons false (.att (.var 3) "sizes") (.cons false (.att (.var 3) "first") (.cons false (.att (.var 3) "each") (.cons false (.att (.var 3) "last") .nil)))))) (.tup (.cons false (.idx (.var 2) (.cst (.str "letters"))) (.cons false (.idx (.var 2) (.cst (.str "sizes"))) (.cons false (.idx (.var 2) (.cst (.str "first"))) (.cons false (.idx (.var 2) (.cst (.str "each"))) (.cons false (.idx (.var 2) (.cst (.str "last"))) .nil))))))) 
    (.cons (.ret (.cst (.bl false))) .nil) .nil) 
  (.cons (.ifs (.cmp .ne (.lc (.mth (.var 3) "part" (.cons false (.var 4) .nil)) (.one [4] (.nm 4) (.seq (.tup (.cons false (.cst (.str "first")) (.cons false (.cst (.str "each")) (.cons false (.cst (.str "last")) .nil))))) .nil)) (.lst (.cons false (.idx (.var 2) (.cst (.str "first"))) (.cons false (.idx (.var 2) (.cst (.str "each"))) (.cons false (.idx (.var 2) (.cst (.str "last"))) .nil))))) 
    (.cons (.ret (.cst (.bl false))) .nil) .nil) 
  (.cons (.set (.nm 5) (.lc (.call "_law_listed" (.cons false (.idx (.var 2) (.var 4)) .nil)) (.one [4] (.nm 4) (.seq (.tup (.cons false (.cst (.str "sizes")) (.cons false (.cst (.str "first")) (.cons false (.cst (.str "each")) (.cons false (.cst (.str "last")) .nil)))))) .nil))) 
  (.cons (.set (.nm 6) (.mk "Program" (.cons false (.idx (.var 2) (.cst (.str "letters"))) (.cons false (.idx (.var 5) (.cst (.int 0))) (.cons false (.idx (.var 5) (.cst (.int 1))) (.cons false (.idx (.var 5) (.cst (.int 2))) (.cons false (.idx (.var 5) (.cst (.int 3))) .nil))))))) 
  (.cons (.ifs (.or (.cmp .ne (.var 6) (.var 3)) (.or (.cmp .ne (.call "steps_in" (.cons false (.var 3) .nil)) (.blt "len" (.cons false (.call "_law_all_places" (.cons false (.var 2) .nil)) .nil))) (.or (.cmp .eq (.var 3) (.cst (.int 5))) (.cmp .eq (.var 3) (.mk "Program" (.cons false (.bin .add (.bin .mod (.idx (.var 2) (.cst (.str "letters"))) (.cst (.int 3))) (.cst (.int 1))) (.cons false (.idx (.var 2) (.cst (.str "sizes"))) (.cons false (.idx (.var 2) (.cst (.str "first"))) (.cons false (.idx (.var 2) (.cst (.str "each"))) (.cons false (.idx (.var 2) (.cst (.str "last"))) .nil)))))))))) 
    (.cons (.ret (.cst (.bl false))) .nil) .nil) 
  (.cons (.expr (.mth (.idx (.var 5) (.cst (.int 2))) "append" (.cons false (.lst (.cons false (.cst (.str "tell")) (.cons false (.lst (.cons false (.cst (.str "number")) (.cons false (.cst (.int 1)) .nil))) .nil))) .nil))) 
  (.cons (.ifs (.cmp .ne (.var 6) (.var 3)) 
    (.cons (.ret (.cst (.bl false))) .nil) .nil) 
  (.cons (.set (.nm 7) (.lst (.cons false (.tup (.cons false (.tup (.cons false (.cst (.int 0)) (.cons false (.lst .nil) (.cons false (.lst .nil) (.cons false (.lst .nil) (.cons false (.lst .nil) .nil)))))) (.cons false (.cst (.str "letters")) .nil))) (.cons false (.tup (.cons false (.tup (.cons false (.cst (.int 4)) (.cons false (.lst .nil) (.cons false (.lst .nil) (.cons false (.lst .nil) (.cons false (.lst .nil) .nil)))))) (.cons false (.cst (.str "letters")) .nil))) (.cons false (.tup (.cons false (.tup (.cons false (.cst (.bl true)) (.cons false (.lst .nil) (.cons false (.lst .nil) (.cons false (.lst .nil) (.cons false (.lst .nil) .nil)))))) (.cons false (.cst (.str "letters")) .nil))) (.cons false (.tup (.cons false (.tup (.cons false (.cst (.int 1)) (.cons false (.bin .mul (.lst (.cons false (.cst (.int 1)) .nil)) (.cst (.int 4))) (.cons false (.lst .nil) (.cons false (.lst .nil) (.cons false (.lst .nil) .nil)))))) (.cons false (.cst (.str "sizes")) .nil))) (.cons false (.tup (.cons false (.tup (.cons false (.cst (.int 1)) (.cons false (.lst (.cons false (.cst (.int 0)) .nil)) (.cons false (.lst .nil) (.cons false (.lst .nil) (.cons false (.lst .nil) .nil)))))) (.cons false (.cst (.str "sizes")) .nil))) .nil))))))) 
  (.cons (.set (.nm 7) (.bin .add (.var 7) (.lst (.cons false (.tup (.cons false (.tup (.cons false (.cst (.int 1)) (.cons false (.lst (.cons false (.cst (.int 5)) .nil)) (.cons false (.lst .nil) (.cons false (.lst .nil) (.cons false (.lst .nil) .nil)))))) (.cons false (.cst (.str "sizes")) .nil))) (.cons false (.tup (.cons false (.tup (.cons false (.cst (.int 1)) (.cons false (.cst .non) (.cons false (.lst .nil) (.cons false (.lst .nil) (.cons false (.lst .nil) .nil)))))) (.cons false (.cst (.str "sizes")) .nil))) (.cons false (.tup (.cons false (.tup (.cons false (.cst (.int 1)) (.cons false (.lst .nil) (.cons false (.cst .non) (.cons false (.lst .nil) (.cons false (.lst .nil) .nil)))))) (.cons false (.tup (.cons false (.cst (.str "first")) .nil)) .nil))) (.cons false (.tup (.cons false (.tup (.cons false (.cst (.int 1)) (.cons false (.lst .nil) (.cons false (.lst .nil) (.cons false (.lst (.cons false (.cst (.int 5)) .nil)) (.cons false (.lst .nil) .nil)))))) (.cons false (.tup (.cons false (.cst (.str "each")) (.cons false (.cst (.int 0)) .nil))) .nil))) .nil))))))) 
  (.cons (.set (.nm 7) (.bin .add (.var 7) (.lst (.cons false (.tup (.cons false (.tup (.cons false (.cst (.int 1)) (.cons false (.lst .nil) (.cons false (.lst .nil) (.cons false (.lst .nil) (.cons false (.lst (.cons false (.tup (.cons false (.cst (.str "zz")) .nil)) .nil)) .nil)))))) (.cons false (.tup (.cons false (.cst (.str "last")) (.cons false (.cst (.int 0)) .nil))) .nil))) (.cons false (.tup (.cons false (.tup (.cons false (.cst (.int 1)) (.cons false (.lst .nil) (.cons false (.lst (.cons false (.tup (.cons false (.cst (.str "set")) (.cons false (.cst (.int 0)) (.cons false (.tup (.cons false (.cst (.str "number")) (.cons false (.cst (.int 0)) .nil))) .nil)))) .nil)) (.cons false (.lst .nil) (.cons false (.lst .nil) .nil)))))) (.cons false (.tup (.cons false (.cst (.str "first")) (.cons false (.cst (.int 0)) .nil))) .nil))) (.cons false (.tup (.cons false (.tup (.cons false (.cst (.int 1)) (.cons false (.lst (.cons false (.cst (.int 2)) .nil)) (.cons false (.lst (.cons false (.tup (.cons false (.cst (.str "set")) (.cons false (.cst (.int 0)) (.cons false (.tup (.cons false (.cst (.str "number")) (.cons false (.cst (.int 4)) .nil))) .nil)))) .nil)) (.cons false (.lst .nil) (.cons false (.lst .nil) .nil)))))) (.cons false (.tup (.cons false (.cst (.str "first")) (.cons false (.cst (.int 0)) (.cons false (.cst (.str "value")) .nil)))) .nil))) .nil)))))) 
  (.cons (.set (.nm 7) (.bin .add (.var 7) (.lst (.cons false (.tup (.cons false (.tup (.cons false (.cst (.int 1)) (.cons false (.lst .nil) (.cons false (.lst (.cons false (.tup (.cons false (.cst (.str "tell")) (.cons false (.tup (.cons false (.cst (.str "letter")) .nil)) .nil))) .nil)) (.cons false (.lst .nil) (.cons false (.lst .nil) .nil)))))) (.cons false (.tup (.cons false (.cst (.str "first")) (.cons false (.cst (.int 0)) (.cons false (.cst (.str "value")) .nil)))) .nil))) (.cons false (.tup (.cons false (.tup (.cons false (.cst (.int 1)) (.cons false (.lst .nil) (.cons false (.lst .nil) (.cons false (.lst .nil) (.cons false (.lst (.cons false (.tup (.cons false (.cst (.str "tell")) (.cons false (.tup (.cons false (.cst (.str "letter")) .nil)) .nil))) .nil)) .nil)))))) (.cons false (.tup (.cons false (.cst (.str "last")) (.cons false (.cst (.int 0)) (.cons false (.cst (.str "value")) .nil)))) .nil))) .nil))))) 
  (.cons (.set (.tu [.nm 8, .nm 9]) (.tup (.cons false (.tup (.cons false (.cst (.str "number")) (.cons false (.cst (.int 0)) .nil))) (.cons false (.tup (.cons false (.cst (.str "plus")) (.cons false (.tup (.cons false (.cst (.str "number")) (.cons false (.cst (.int 0)) .nil))) (.cons false (.tup (.cons false (.cst (.str "plus")) (.cons false (.tup (.cons false (.cst (.str "number")) (.cons false (.cst (.int 0)) .nil))) (.cons false (.tup (.cons false (.cst (.str "plus")) (.cons false (.tup (.cons false (.cst (.str "number")) (.cons false (.cst (.int 0)) .nil))) (.cons false (.tup (.cons false (.cst (.str "number")) (.cons false (.cst (.int 0)) .nil))) .nil)))) .nil)))) .nil)))) .nil)))) 
  (.cons (.set (.nm 10) (.tup (.cons false (.cst (.str "same")) (.cons false (.var 8) (.cons false (.var 8) .nil))))) 
  (.cons (.set (.nm 7) (.bin .add (.var 7) (.lst (.cons false (.tup (.cons false (.tup (.cons false (.cst (.int 1)) (.cons false (.lst .nil) (.cons false (.lst .nil) (.cons false (.lst (.cons false (.tup (.cons false (.cst (.str "tell")) (.cons false (.tup (.cons false (.cst (.str "plus")) (.cons false (.var 8) (.cons false (.tup (.cons false (.cst (.str "var")) (.cons false (.cst (.int 0)) .nil))) .nil)))) .nil))) .nil)) (.cons false (.lst .nil) .nil)))))) (.cons false (.tup (.cons false (.cst (.str "each")) (.cons false (.cst (.int 0)) (.cons false (.cst (.str "value")) (.cons false (.cst (.str "right")) .nil))))) .nil))) (.cons false (.tup (.cons false (.tup (.cons false (.cst (.int 1)) (.cons false (.lst .nil) (.cons false (.lst .nil) (.cons false (.lst (.cons false (.tup (.cons false (.cst (.str "tell")) (.cons false (.var 9) .nil))) .nil)) (.cons false (.lst .nil) .nil)))))) (.cons false (.tup (.cons false (.cst (.str "each")) (.cons false (.cst (.int 0)) (.cons false (.cst (.str "value")) (.cons false (.cst (.str "right")) (.cons false (.cst (.str "right")) (.cons false (.cst (.str "left")) .nil))))))) .nil))) .nil))))) 
  (.cons (.set (.nm 7) (.bin .add (.var 7) (.lst (.cons false (.tup (.cons false (.tup (.cons false (.cst (.int 1)) (.cons false (.lst .nil) (.cons false (.lst .nil) (.cons false (.lst (.cons false (.tup (.cons false (.cst (.str "if")) (.cons false (.var 8) (.cons false (.lst .nil) (.cons false (.lst .nil) .nil))))) .nil)) (.cons false (.lst .nil) .nil)))))) (.cons false (.tup (.cons false (.cst (.str "each")) (.cons false (.cst (.int 0)) (.cons false (.cst (.str "if")) .nil)))) .nil))) (.cons false (.tup (.cons false (.tup (.cons false (.cst (.int 1)) (.cons false (.lst .nil) (.cons false (.lst .nil) (.cons false (.lst (.cons false (.tup (.cons false (.cst (.str "if")) (.cons false (.tup (.cons false (.cst (.str "not")) (.cons false (.tup (.cons false (.cst (.str "less")) (.cons false (.var 8) (.cons false (.cst (.int 5)) .nil)))) .nil))) (.cons false (.lst .nil) (.cons false (.lst .nil) .nil))))) .nil)) (.cons false (.lst .nil) .nil)))))) (.cons false (.tup (.cons false (.cst (.str "each")) (.cons false (.cst (.int 0)) (.cons false (.cst (.str "if")) (.cons false (.cst (.str "left")) (.cons false (.cst (.str "right")) .nil)))))) .nil))) .nil))))) 
  (.cons (.set (.nm 7) (.bin .add (.var 7) (.lst (.cons false (.tup (.cons false (.tup (.cons false (.cst (.int 1)) (.cons false (.lst .nil) (.cons false (.lst .nil) (.cons false (.lst (.cons false (.tup (.cons false (.cst (.str "if")) (.cons false (.tup (.cons false (.cst (.str "not")) (.cons false (.tup (.cons false (.cst (.str "not")) (.cons false (.tup (.cons false (.cst (.str "not")) (.cons false (.var 10) .nil))) .nil))) .nil))) (.cons false (.lst .nil) (.cons false (.lst .nil) .nil))))) .nil)) (.cons false (.lst .nil) .nil)))))) (.cons false (.tup (.cons false (.cst (.str "each")) (.cons false (.cst (.int 0)) (.cons false (.cst (.str "if")) (.cons false (.cst (.str "left")) (.cons false (.cst (.str "left")) (.cons false (.cst (.str "left")) .nil))))))) .nil))) .nil)))) 
  (.cons (.set (.nm 7) (.bin .add (.var 7) (.lst (.cons false (.tup (.cons false (.tup (.cons false (.cst (.int 1)) (.cons false (.lst .nil) (.cons false (.lst .nil) (.cons false (.lst (.cons false (.tup (.cons false (.cst (.str "if")) (.cons false (.var 10) (.cons false (.lst (.cons false (.tup (.cons false (.cst (.str "if")) (.cons false (.var 10) (.cons false (.lst (.cons false (.tup (.cons false (.cst (.str "if")) (.cons false (.var 10) (.cons false (.lst .nil) (.cons false (.lst .nil) .nil))))) .nil)) (.cons false (.lst .nil) .nil))))) .nil)) (.cons false (.lst .nil) .nil))))) .nil)) (.cons false (.lst .nil) .nil)))))) (.cons false (.tup (.cons false (.cst (.str "each")) (.cons false (.cst (.int 0)) (.cons false (.cst (.str "then")) (.cons false (.cst (.int 0)) (.cons false (.cst (.str "then")) (.cons false (.cst (.int 0)) (.cons false (.cst (.str "then")) .nil)))))))) .nil))) .nil)))) 
  (.cons (.set (.nm 7) (.bin .add (.var 7) (.lst (.cons false (.tup (.cons false (.tup (.cons false (.cst (.int 1)) (.cons false (.lst .nil) (.cons false (.lst .nil) (.cons false (.lst (.cons false (.tup (.cons false (.cst (.str "if")) (.cons false (.var 10) (.cons false (.lst .nil) (.cons false (.cst (.int 5)) .nil))))) .nil)) (.cons false (.lst .nil) .nil)))))) (.cons false (.tup (.cons false (.cst (.str "each")) (.cons false (.cst (.int 0)) (.cons false (.cst (.str "else")) .nil)))) .nil))) (.cons false (.tup (.cons false (.tup (.cons false (.cst (.int 1)) (.cons false (.lst .nil) (.cons false (.lst .nil) (.cons false (.lst (.cons false (.tup (.cons false (.cst (.str "tell")) .nil)) .nil)) (.cons false (.lst .nil) .nil)))))) (.cons false (.tup (.cons false (.cst (.str "each")) (.cons false (.cst (.int 0)) .nil))) .nil))) .nil))))) 
  (.cons (.for_ (.tu [.nm 11, .nm 12]) (.seq (.var 7)) 
    (.cons (.try_ 
      (.cons (.expr (.mk "Program" (.cons false (.idx (.var 11) (.cst (.int 0))) (.cons false (.idx (.var 11) (.cst (.int 1))) (.cons false (.idx (.var 11) (.cst (.int 2))) (.cons false (.idx (.var 11) (.cst (.int 3))) (.cons false (.idx (.var 11) (.cst (.int 4))) .nil))))))) 
      (.cons (.ret (.cst (.bl false))) .nil)) (.cons ["BadProgram"] (some 13) 
      (.cons (.ifs (.cmp .ne (.att (.var 13) "place") (.var 12)) 
        (.cons (.ret (.cst (.bl false))) .nil) .nil) .nil) .nil)) .nil)) 
  (.cons (.try_ 
    (.cons (.expr (.mk "Program" (.cons false (.cst (.int 1)) (.cons false (.lst .nil) (.cons false (.bin .mul (.lst (.cons false (.tup (.cons false (.cst (.str "tell")) (.cons false (.var 8) .nil))) .nil)) (.cst (.int 6))) (.cons false (.bin .mul (.lst (.cons false (.tup (.cons false (.cst (.str "tell")) (.cons false (.var 8) .nil))) .nil)) (.cst (.int 6))) (.cons false (.lst (.cons false (.tup (.cons false (.cst (.str "if")) (.cons false (.var 10) (.cons false (.lst (.cons false (.tup (.cons false (.cst (.str "tell")) (.cons false (.var 8) .nil))) .nil)) (.cons false (.lst .nil) .nil))))) .nil)) .nil))))))) 
    (.cons (.ret (.cst (.bl false))) .nil)) (.cons ["TooLarge"] (some 13) 
    (.cons (.ifs (.cmp .ne (.att (.var 13) "number") (.cst (.int 14))) 
      (.cons (.ret (.cst (.bl false))) .nil) .nil) .nil) .nil)) 
  (.cons (.try_ 
    (.cons (.expr (.call "steps_in" (.cons false (.cst .non) .nil))) 
    (.cons (.ret (.cst (.bl false))) .nil)) (.cons ["BadProgram"] (some 13) 
    (.cons (.ret (.cmp .eq (.att (.var 13) "place") (.cst (.str "program")))) .nil) .nil)) .nil))))))))))))))))))))))))
def d_law : Df := ⟨1, 14, b_law⟩
def c_is_row : DefC where
  g := ("is_row", none)
  d := d_is_row
  st := ⟨("is_row", none), "is_row", "is_row", defArgs (top 5), defBody (top 5), defScope (top 5), [], []⟩
  N := ["thing"]
  ps := ["thing"]
def c_is_number : DefC where
  g := ("is_number", none)
  d := d_is_number
  st := ⟨("is_number", none), "is_number", "is_number", defArgs (top 6), defBody (top 6), defScope (top 6), [], []⟩
  N := ["thing"]
  ps := ["thing"]
def c_is_below : DefC where
  g := ("is_below", none)
  d := d_is_below
  st := ⟨("is_below", none), "is_below", "is_below", defArgs (top 7), defBody (top 7), defScope (top 7), [], []⟩
  N := ["thing", "bound"]
  ps := ["thing", "bound"]
def c_deep_rows : DefC where
  g := ("deep_rows", none)
  d := d_deep_rows
  st := ⟨("deep_rows", none), "deep_rows", "deep_rows", defArgs (top 8), defBody (top 8), defScope (top 8), [], []⟩
  N := ["thing", "part"]
  ps := ["thing"]
def c_check_expression : DefC where
  g := ("check_expression", none)
  d := d_check_expression
  st := ⟨("check_expression", none), "check_expression", "check_expression", defArgs (top 15), defBody (top 15), defScope (top 15), [], []⟩
  N := ["term", "variables", "has_letter", "place", "deep", "word"]
  ps := ["term", "variables", "has_letter", "place", "deep"]
def c_check_condition : DefC where
  g := ("check_condition", none)
  d := d_check_condition
  st := ⟨("check_condition", none), "check_condition", "check_condition", defArgs (top 16), defBody (top 16), defScope (top 16), [], []⟩
  N := ["term", "variables", "has_letter", "place", "deep", "word", "part", "side"]
  ps := ["term", "variables", "has_letter", "place", "deep"]
def c_Program_init : DefC where
  g := ("Program", some ("__init__" : Str))
  d := d_Program_init
  st := ⟨("Program", some ("__init__" : Str)), "__init__", "Program.__init__", defArgs (sub 24 0), defBody (sub 24 0), defScope (sub 24 0), [], []⟩
  N := ["self", "letters", "sizes", "first", "each", "last", "size", "name", "steps", "many"]
  ps := ["self", "letters", "sizes", "first", "each", "last"]
def c_Program_eq : DefC where
  g := ("Program", some ("__eq__" : Str))
  d := d_Program_eq
  st := ⟨("Program", some ("__eq__" : Str)), "__eq__", "Program.__eq__", defArgs (sub 24 1), defBody (sub 24 1), defScope (sub 24 1), [], []⟩
  N := ["self", "other"]
  ps := ["self", "other"]
def c_Program_part : DefC where
  g := ("Program", some ("part" : Str))
  d := d_Program_part
  st := ⟨("Program", some ("part" : Str)), "part", "Program.part", defArgs (sub 24 2), defBody (sub 24 2), defScope (sub 24 2), [], []⟩
  N := ["self", "name"]
  ps := ["self", "name"]
def c_check_steps : DefC where
  g := ("check_steps", none)
  d := d_check_steps
  st := ⟨("check_steps", none), "check_steps", "check_steps", defArgs (top 25), defBody (top 25), defScope (top 25), [], []⟩
  N := ["steps", "variables", "has_letter", "place", "deep", "at", "step"]
  ps := ["steps", "variables", "has_letter", "place", "deep"]
def c_check_step : DefC where
  g := ("check_step", none)
  d := d_check_step
  st := ⟨("check_step", none), "check_step", "check_step", defArgs (top 26), defBody (top 26), defScope (top 26), [], []⟩
  N := ["step", "variables", "has_letter", "place", "deep"]
  ps := ["step", "variables", "has_letter", "place", "deep"]
def c_count_steps : DefC where
  g := ("count_steps", none)
  d := d_count_steps
  st := ⟨("count_steps", none), "count_steps", "count_steps", defArgs (top 27), defBody (top 27), defScope (top 27), [], []⟩
  N := ["steps", "step"]
  ps := ["steps"]
def c_check_program : DefC where
  g := ("check_program", none)
  d := d_check_program
  st := ⟨("check_program", none), "check_program", "check_program", defArgs (top 28), defBody (top 28), defScope (top 28), [], []⟩
  N := ["program"]
  ps := ["program"]
def c_steps_in : DefC where
  g := ("steps_in", none)
  d := d_steps_in
  st := ⟨("steps_in", none), "steps_in", "steps_in", defArgs (top 29), defBody (top 29), defScope (top 29), [], []⟩
  N := ["program"]
  ps := ["program"]
def c_u_law_number : DefC where
  g := ("_law_number", none)
  d := d_u_law_number
  st := ⟨("_law_number", none), "_law_number", "_law_number", defArgs (top 31), defBody (top 31), defScope (top 31), [], []⟩
  N := ["script", "index", "cell", "turn", "rest", "step", "blend"]
  ps := ["script", "index"]
def c_u_law_take : DefC where
  g := ("_law_take", none)
  d := d_u_law_take
  st := ⟨("_law_take", none), "_law_take", "_law_take", defArgs (top 32), defBody (top 32), defScope (top 32), [], []⟩
  N := ["draw", "many"]
  ps := ["draw", "many"]
def c_u_law_pick : DefC where
  g := ("_law_pick", none)
  d := d_u_law_pick
  st := ⟨("_law_pick", none), "_law_pick", "_law_pick", defArgs (top 33), defBody (top 33), defScope (top 33), [], []⟩
  N := ["draw", "items"]
  ps := ["draw", "items"]
def c_u_law_expression : DefC where
  g := ("_law_expression", none)
  d := d_u_law_expression
  st := ⟨("_law_expression", none), "_law_expression", "_law_expression", defArgs (top 34), defBody (top 34), defScope (top 34), [], []⟩
  N := ["draw", "many", "has_letter", "deep", "kind"]
  ps := ["draw", "many", "has_letter", "deep"]
def c_u_law_condition : DefC where
  g := ("_law_condition", none)
  d := d_u_law_condition
  st := ⟨("_law_condition", none), "_law_condition", "_law_condition", defArgs (top 35), defBody (top 35), defScope (top 35), [], []⟩
  N := ["draw", "many", "has_letter", "deep", "kind"]
  ps := ["draw", "many", "has_letter", "deep"]
def c_u_law_steps : DefC where
  g := ("_law_steps", none)
  d := d_u_law_steps
  st := ⟨("_law_steps", none), "_law_steps", "_law_steps", defArgs (top 36), defBody (top 36), defScope (top 36), [], []⟩
  N := ["draw", "many", "has_letter", "deep", "most", "found", "turn", "kind"]
  ps := ["draw", "many", "has_letter", "deep", "most"]
def c_u_law_program : DefC where
  g := ("_law_program", none)
  d := d_u_law_program
  st := ⟨("_law_program", none), "_law_program", "_law_program", defArgs (top 37), defBody (top 37), defScope (top 37), [], []⟩
  N := ["draw", "sizes", "turn", "first", "each", "last", "told"]
  ps := ["draw"]
def c_u_law_made : DefC where
  g := ("_law_made", none)
  d := d_u_law_made
  st := ⟨("_law_made", none), "_law_made", "_law_made", defArgs (top 38), defBody (top 38), defScope (top 38), [], []⟩
  N := ["told"]
  ps := ["told"]
def c_u_law_places : DefC where
  g := ("_law_places", none)
  d := d_u_law_places
  st := ⟨("_law_places", none), "_law_places", "_law_places", defArgs (top 39), defBody (top 39), defScope (top 39), [], []⟩
  N := ["steps", "place", "found", "at", "step"]
  ps := ["steps", "place"]
def c_u_law_all_places : DefC where
  g := ("_law_all_places", none)
  d := d_u_law_all_places
  st := ⟨("_law_all_places", none), "_law_all_places", "_law_all_places", defArgs (top 40), defBody (top 40), defScope (top 40), [], []⟩
  N := ["told"]
  ps := ["told"]
def c_u_law_listed : DefC where
  g := ("_law_listed", none)
  d := d_u_law_listed
  st := ⟨("_law_listed", none), "_law_listed", "_law_listed", defArgs (top 41), defBody (top 41), defScope (top 41), [], []⟩
  N := ["thing", "part"]
  ps := ["thing"]
def c_law : DefC where
  g := ("law", none)
  d := d_law
  st := ⟨("law", none), "law", "law", defArgs (top 42), defBody (top 42), defScope (top 42), [], []⟩
  N := ["script", "draw", "told", "program", "name", "rows", "late", "bads", "one", "deep", "same", "parts", "due", "fault"]
  ps := ["script"]
def e_BadProgram : ErC := ⟨"BadProgram", "place", ⟨("BadProgram", some ("__init__" : Str)), "__init__", "BadProgram.__init__", defArgs (sub 3 0), defBody (sub 3 0), defScope (sub 3 0), [], []⟩⟩
def e_TooLarge : ErC := ⟨"TooLarge", "number", ⟨("TooLarge", some ("__init__" : Str)), "__init__", "TooLarge.__init__", defArgs (sub 2 0), defBody (sub 2 0), defScope (sub 2 0), [], []⟩⟩
def cfg : Cfg where
  defs := [c_is_row, c_is_number, c_is_below, c_deep_rows, c_check_expression, c_check_condition, c_Program_init, c_Program_eq, c_Program_part, c_check_steps, c_check_step, c_count_steps, c_check_program, c_steps_in, c_u_law_number, c_u_law_take, c_u_law_pick, c_u_law_expression, c_u_law_condition, c_u_law_steps, c_u_law_program, c_u_law_made, c_u_law_places, c_u_law_all_places, c_u_law_listed, c_law]
  ers := [e_BadProgram, e_TooLarge]
  glos := [("JOINS", .tup [.str "and", .str "or"]), ("MOST_DEEP", .int 3), ("MOST_LETTERS", .int 3), ("MOST_NESTED", .int 3), ("MOST_NUMBER", .int 3), ("MOST_SIZE", .int 4), ("MOST_STEPS", .int 12), ("MOST_VARIABLES", .int 3), ("PARTS", .tup [.str "first", .str "each", .str "last"]), ("SUMS", .tup [.str "plus", .str "times"]), ("TESTS", .tup [.str "less", .str "same"])]
  cs := ["Program"]
  ks := ["BadProgram", "TooLarge"]
  subs := [("BadProgram", "BadProgram"), ("TooLarge", "TooLarge")]
  flds := [("Program", "each"), ("Program", "first"), ("Program", "last"), ("Program", "letters"), ("Program", "sizes")]
  turns := 200
theorem o_is_row : DefC.Ok cfg.T.exk c_is_row := ⟨rfl, rfl, rfl, ⟨by decide +kernel, by decide +kernel, by decide +kernel, by decide +kernel, by decide +kernel, by decide +kernel, by decide +kernel⟩, rfl, rfl, by decide +kernel, fun _ _ _ _ _ _ us hl => match us, hl with | [_], _ => by first | rfl | with_unfolding_all rfl⟩
theorem o_is_number : DefC.Ok cfg.T.exk c_is_number := ⟨rfl, rfl, rfl, ⟨by decide +kernel, by decide +kernel, by decide +kernel, by decide +kernel, by decide +kernel, by decide +kernel, by decide +kernel⟩, rfl, rfl, by decide +kernel, fun _ _ _ _ _ _ us hl => match us, hl with | [_], _ => by first | rfl | with_unfolding_all rfl⟩
theorem o_is_below : DefC.Ok cfg.T.exk c_is_below := ⟨rfl, rfl, rfl, ⟨by decide +kernel, by decide +kernel, by decide +kernel, by decide +kernel, by decide +kernel, by decide +kernel, by decide +kernel⟩, rfl, rfl, by decide +kernel, fun _ _ _ _ _ _ us hl => match us, hl with | [_, _], _ => by first | rfl | with_unfolding_all rfl⟩
theorem o_deep_rows : DefC.Ok cfg.T.exk c_deep_rows := ⟨rfl, rfl, rfl, ⟨by decide +kernel, by decide +kernel, by decide +kernel, by decide +kernel, by decide +kernel, by decide +kernel, by decide +kernel⟩, rfl, rfl, by decide +kernel, fun _ _ _ _ _ _ us hl => match us, hl with | [_], _ => by first | rfl | with_unfolding_all rfl⟩
theorem o_check_expression : DefC.Ok cfg.T.exk c_check_expression := ⟨rfl, rfl, rfl, ⟨by decide +kernel, by decide +kernel, by decide +kernel, by decide +kernel, by decide +kernel, by decide +kernel, by decide +kernel⟩, rfl, rfl, by decide +kernel, fun _ _ _ _ _ _ us hl => match us, hl with | [_, _, _, _, _], _ => by first | rfl | with_unfolding_all rfl⟩
theorem o_check_condition : DefC.Ok cfg.T.exk c_check_condition := ⟨rfl, rfl, rfl, ⟨by decide +kernel, by decide +kernel, by decide +kernel, by decide +kernel, by decide +kernel, by decide +kernel, by decide +kernel⟩, rfl, rfl, by decide +kernel, fun _ _ _ _ _ _ us hl => match us, hl with | [_, _, _, _, _], _ => by first | rfl | with_unfolding_all rfl⟩
theorem o_Program_init : DefC.Ok cfg.T.exk c_Program_init := ⟨rfl, rfl, rfl, ⟨by decide +kernel, by decide +kernel, by decide +kernel, by decide +kernel, by decide +kernel, by decide +kernel, by decide +kernel⟩, rfl, rfl, by decide +kernel, fun _ _ _ _ _ _ us hl => match us, hl with | [_, _, _, _, _, _], _ => by first | rfl | with_unfolding_all rfl⟩
theorem o_Program_eq : DefC.Ok cfg.T.exk c_Program_eq := ⟨rfl, rfl, rfl, ⟨by decide +kernel, by decide +kernel, by decide +kernel, by decide +kernel, by decide +kernel, by decide +kernel, by decide +kernel⟩, rfl, rfl, by decide +kernel, fun _ _ _ _ _ _ us hl => match us, hl with | [_, _], _ => by first | rfl | with_unfolding_all rfl⟩
theorem o_Program_part : DefC.Ok cfg.T.exk c_Program_part := ⟨rfl, rfl, rfl, ⟨by decide +kernel, by decide +kernel, by decide +kernel, by decide +kernel, by decide +kernel, by decide +kernel, by decide +kernel⟩, rfl, rfl, by decide +kernel, fun _ _ _ _ _ _ us hl => match us, hl with | [_, _], _ => by first | rfl | with_unfolding_all rfl⟩
theorem o_check_steps : DefC.Ok cfg.T.exk c_check_steps := ⟨rfl, rfl, rfl, ⟨by decide +kernel, by decide +kernel, by decide +kernel, by decide +kernel, by decide +kernel, by decide +kernel, by decide +kernel⟩, rfl, rfl, by decide +kernel, fun _ _ _ _ _ _ us hl => match us, hl with | [_, _, _, _, _], _ => by first | rfl | with_unfolding_all rfl⟩
theorem o_check_step : DefC.Ok cfg.T.exk c_check_step := ⟨rfl, rfl, rfl, ⟨by decide +kernel, by decide +kernel, by decide +kernel, by decide +kernel, by decide +kernel, by decide +kernel, by decide +kernel⟩, rfl, rfl, by decide +kernel, fun _ _ _ _ _ _ us hl => match us, hl with | [_, _, _, _, _], _ => by first | rfl | with_unfolding_all rfl⟩
theorem o_count_steps : DefC.Ok cfg.T.exk c_count_steps := ⟨rfl, rfl, rfl, ⟨by decide +kernel, by decide +kernel, by decide +kernel, by decide +kernel, by decide +kernel, by decide +kernel, by decide +kernel⟩, rfl, rfl, by decide +kernel, fun _ _ _ _ _ _ us hl => match us, hl with | [_], _ => by first | rfl | with_unfolding_all rfl⟩
theorem o_check_program : DefC.Ok cfg.T.exk c_check_program := ⟨rfl, rfl, rfl, ⟨by decide +kernel, by decide +kernel, by decide +kernel, by decide +kernel, by decide +kernel, by decide +kernel, by decide +kernel⟩, rfl, rfl, by decide +kernel, fun _ _ _ _ _ _ us hl => match us, hl with | [_], _ => by first | rfl | with_unfolding_all rfl⟩
theorem o_steps_in : DefC.Ok cfg.T.exk c_steps_in := ⟨rfl, rfl, rfl, ⟨by decide +kernel, by decide +kernel, by decide +kernel, by decide +kernel, by decide +kernel, by decide +kernel, by decide +kernel⟩, rfl, rfl, by decide +kernel, fun _ _ _ _ _ _ us hl => match us, hl with | [_], _ => by first | rfl | with_unfolding_all rfl⟩
theorem o_u_law_number : DefC.Ok cfg.T.exk c_u_law_number := ⟨rfl, rfl, rfl, ⟨by decide +kernel, by decide +kernel, by decide +kernel, by decide +kernel, by decide +kernel, by decide +kernel, by decide +kernel⟩, rfl, rfl, by decide +kernel, fun _ _ _ _ _ _ us hl => match us, hl with | [_, _], _ => by first | rfl | with_unfolding_all rfl⟩
theorem o_u_law_take : DefC.Ok cfg.T.exk c_u_law_take := ⟨rfl, rfl, rfl, ⟨by decide +kernel, by decide +kernel, by decide +kernel, by decide +kernel, by decide +kernel, by decide +kernel, by decide +kernel⟩, rfl, rfl, by decide +kernel, fun _ _ _ _ _ _ us hl => match us, hl with | [_, _], _ => by first | rfl | with_unfolding_all rfl⟩
theorem o_u_law_pick : DefC.Ok cfg.T.exk c_u_law_pick := ⟨rfl, rfl, rfl, ⟨by decide +kernel, by decide +kernel, by decide +kernel, by decide +kernel, by decide +kernel, by decide +kernel, by decide +kernel⟩, rfl, rfl, by decide +kernel, fun _ _ _ _ _ _ us hl => match us, hl with | [_, _], _ => by first | rfl | with_unfolding_all rfl⟩
theorem o_u_law_expression : DefC.Ok cfg.T.exk c_u_law_expression := ⟨rfl, rfl, rfl, ⟨by decide +kernel, by decide +kernel, by decide +kernel, by decide +kernel, by decide +kernel, by decide +kernel, by decide +kernel⟩, rfl, rfl, by decide +kernel, fun _ _ _ _ _ _ us hl => match us, hl with | [_, _, _, _], _ => by first | rfl | with_unfolding_all rfl⟩
theorem o_u_law_condition : DefC.Ok cfg.T.exk c_u_law_condition := ⟨rfl, rfl, rfl, ⟨by decide +kernel, by decide +kernel, by decide +kernel, by decide +kernel, by decide +kernel, by decide +kernel, by decide +kernel⟩, rfl, rfl, by decide +kernel, fun _ _ _ _ _ _ us hl => match us, hl with | [_, _, _, _], _ => by first | rfl | with_unfolding_all rfl⟩
theorem o_u_law_steps : DefC.Ok cfg.T.exk c_u_law_steps := ⟨rfl, rfl, rfl, ⟨by decide +kernel, by decide +kernel, by decide +kernel, by decide +kernel, by decide +kernel, by decide +kernel, by decide +kernel⟩, rfl, rfl, by decide +kernel, fun _ _ _ _ _ _ us hl => match us, hl with | [_, _, _, _, _], _ => by first | rfl | with_unfolding_all rfl⟩
theorem o_u_law_program : DefC.Ok cfg.T.exk c_u_law_program := ⟨rfl, rfl, rfl, ⟨by decide +kernel, by decide +kernel, by decide +kernel, by decide +kernel, by decide +kernel, by decide +kernel, by decide +kernel⟩, rfl, rfl, by decide +kernel, fun _ _ _ _ _ _ us hl => match us, hl with | [_], _ => by first | rfl | with_unfolding_all rfl⟩
theorem o_u_law_made : DefC.Ok cfg.T.exk c_u_law_made := ⟨rfl, rfl, rfl, ⟨by decide +kernel, by decide +kernel, by decide +kernel, by decide +kernel, by decide +kernel, by decide +kernel, by decide +kernel⟩, rfl, rfl, by decide +kernel, fun _ _ _ _ _ _ us hl => match us, hl with | [_], _ => by first | rfl | with_unfolding_all rfl⟩
theorem o_u_law_places : DefC.Ok cfg.T.exk c_u_law_places := ⟨rfl, rfl, rfl, ⟨by decide +kernel, by decide +kernel, by decide +kernel, by decide +kernel, by decide +kernel, by decide +kernel, by decide +kernel⟩, rfl, rfl, by decide +kernel, fun _ _ _ _ _ _ us hl => match us, hl with | [_, _], _ => by first | rfl | with_unfolding_all rfl⟩
theorem o_u_law_all_places : DefC.Ok cfg.T.exk c_u_law_all_places := ⟨rfl, rfl, rfl, ⟨by decide +kernel, by decide +kernel, by decide +kernel, by decide +kernel, by decide +kernel, by decide +kernel, by decide +kernel⟩, rfl, rfl, by decide +kernel, fun _ _ _ _ _ _ us hl => match us, hl with | [_], _ => by first | rfl | with_unfolding_all rfl⟩
theorem o_u_law_listed : DefC.Ok cfg.T.exk c_u_law_listed := ⟨rfl, rfl, rfl, ⟨by decide +kernel, by decide +kernel, by decide +kernel, by decide +kernel, by decide +kernel, by decide +kernel, by decide +kernel⟩, rfl, rfl, by decide +kernel, fun _ _ _ _ _ _ us hl => match us, hl with | [_], _ => by first | rfl | with_unfolding_all rfl⟩
theorem o_law : DefC.Ok cfg.T.exk c_law := ⟨rfl, rfl, rfl, ⟨by decide +kernel, by decide +kernel, by decide +kernel, by decide +kernel, by decide +kernel, by decide +kernel, by decide +kernel⟩, rfl, rfl, by decide +kernel, fun _ _ _ _ _ _ us hl => match us, hl with | [_], _ => by first | rfl | with_unfolding_all rfl⟩
theorem oe_BadProgram : ErC.Ok e_BadProgram := ⟨rfl, rfl, rfl, rfl, by decide +kernel, ⟨_, _, rfl⟩, ⟨_, _, _, _, rfl⟩, by decide +kernel⟩
theorem oe_TooLarge : ErC.Ok e_TooLarge := ⟨rfl, rfl, rfl, rfl, by decide +kernel, ⟨_, _, rfl⟩, ⟨_, _, _, _, rfl⟩, by decide +kernel⟩
end K01

set_option Elab.async false
set_option linter.all false
set_option maxRecDepth 100000
set_option maxHeartbeats 0
namespace K01
open PySem PySem.Spec PyProof.Rows L2 Mp
def loose0 : List PySem.Str := [("PartError" : PySem.Str), ("TooLarge" : PySem.Str), ("BadProgram" : PySem.Str), ("is_row" : PySem.Str), ("is_number" : PySem.Str), ("is_below" : PySem.Str), ("deep_rows" : PySem.Str), ("MOST_NUMBER" : PySem.Str), ("MOST_DEEP" : PySem.Str), ("SUMS" : PySem.Str), ("TESTS" : PySem.Str), ("JOINS" : PySem.Str), ("check_expression" : PySem.Str), ("check_condition" : PySem.Str), ("MOST_LETTERS" : PySem.Str), ("MOST_VARIABLES" : PySem.Str), ("MOST_SIZE" : PySem.Str), ("MOST_STEPS" : PySem.Str), ("MOST_NESTED" : PySem.Str), ("PARTS" : PySem.Str), ("Program" : PySem.Str), ("check_steps" : PySem.Str), ("check_step" : PySem.Str), ("count_steps" : PySem.Str), ("check_program" : PySem.Str), ("steps_in" : PySem.Str), ("_law_number" : PySem.Str), ("_law_take" : PySem.Str), ("_law_pick" : PySem.Str), ("_law_expression" : PySem.Str), ("_law_condition" : PySem.Str), ("_law_steps" : PySem.Str), ("_law_program" : PySem.Str), ("_law_made" : PySem.Str), ("_law_places" : PySem.Str)]
def loose1 : List PySem.Str := [("_law_all_places" : PySem.Str), ("_law_listed" : PySem.Str)]
def loose : List PySem.Str := loose0 ++ loose1
abbrev RR : PySem.W.OpenRow := PySem.W.OpenLaw.row PySem.Challenge.rw_partchanges_k01_whole_programs
abbrev hk : PySem.W.Hook := hookX 5 cfg
def ob (s : PySem.W.SharedT) : AlX := obsX 5 cfg (HandSHeadRun.getT s)
theorem ob_eq (s : PySem.W.SharedT) : ob s = hk.obs s.abs := obsX_eq (HandSHeadRun.getT_eq s)
theorem run (w : World) : HandSHeadRun.RunEq RR (PySem.W.view RR.prog [42]) hk ob 20000 loose w := by
  intro os
  kernel_rfl
end K01

set_option Elab.async false
set_option linter.all false
set_option maxRecDepth 100000
set_option maxHeartbeats 0
namespace K01
open PySem PySem.Spec PyProof.Rows L2 Mp
theorem hasProg : Pg.HasProg cfg.T where
  is_row := by kernel_rfl
  is_number := by kernel_rfl
  is_below := by kernel_rfl
  deep_rows := by kernel_rfl
  check_expression := by kernel_rfl
  check_condition := by kernel_rfl
  init := by kernel_rfl
  eq := by kernel_rfl
  part := by kernel_rfl
  check_steps := by kernel_rfl
  check_step := by kernel_rfl
  count_steps := by kernel_rfl
  check_program := by kernel_rfl
  steps_in := by kernel_rfl
  gNumber := by kernel_rfl
  gDeep := by kernel_rfl
  gSums := by kernel_rfl
  gTests := by kernel_rfl
  gJoins := by kernel_rfl
  gLetters := by kernel_rfl
  gVars := by kernel_rfl
  gSize := by kernel_rfl
  gSteps := by kernel_rfl
  gNested := by kernel_rfl
  gParts := by kernel_rfl
  bad := by kernel_rfl
  large := by kernel_rfl
  cls := by kernel_rfl
  fld := by decide +kernel
theorem hasDraw : Pg.HasDraw cfg.T := ⟨by kernel_rfl, by kernel_rfl, by kernel_rfl⟩
theorem hasDrawn : Pg.HasDrawn cfg.T := { hasDraw with expression := by kernel_rfl, condition := by kernel_rfl, steps := by kernel_rfl }
theorem hasHelp : Pg.HasHelp cfg.T := ⟨by kernel_rfl, by kernel_rfl, by kernel_rfl⟩
theorem hasTold : Pg.HasTold cfg.T := { hasDrawn, hasHelp with program := by kernel_rfl, made := by kernel_rfl }
theorem hasErr : Pg.HasErr cfg.T := ⟨by kernel_rfl, by kernel_rfl⟩
theorem hasLaw : cfg.T.df ("law", none) = some Pg.d_law := by kernel_rfl
theorem lawok : LawOk cfg 41 63 where
  defs := List.forall_mem_cons.mpr ⟨o_is_row, List.forall_mem_cons.mpr ⟨o_is_number, List.forall_mem_cons.mpr ⟨o_is_below, List.forall_mem_cons.mpr ⟨o_deep_rows, List.forall_mem_cons.mpr ⟨o_check_expression, List.forall_mem_cons.mpr ⟨o_check_condition, List.forall_mem_cons.mpr ⟨o_Program_init, List.forall_mem_cons.mpr ⟨o_Program_eq, List.forall_mem_cons.mpr ⟨o_Program_part, List.forall_mem_cons.mpr ⟨o_check_steps, List.forall_mem_cons.mpr ⟨o_check_step, List.forall_mem_cons.mpr ⟨o_count_steps, List.forall_mem_cons.mpr ⟨o_check_program, List.forall_mem_cons.mpr ⟨o_steps_in, List.forall_mem_cons.mpr ⟨o_u_law_number, List.forall_mem_cons.mpr ⟨o_u_law_take, List.forall_mem_cons.mpr ⟨o_u_law_pick, List.forall_mem_cons.mpr ⟨o_u_law_expression, List.forall_mem_cons.mpr ⟨o_u_law_condition, List.forall_mem_cons.mpr ⟨o_u_law_steps, List.forall_mem_cons.mpr ⟨o_u_law_program, List.forall_mem_cons.mpr ⟨o_u_law_made, List.forall_mem_cons.mpr ⟨o_u_law_places, List.forall_mem_cons.mpr ⟨o_u_law_all_places, List.forall_mem_cons.mpr ⟨o_u_law_listed, List.forall_mem_cons.mpr ⟨o_law, fun _ h => nomatch h⟩⟩⟩⟩⟩⟩⟩⟩⟩⟩⟩⟩⟩⟩⟩⟩⟩⟩⟩⟩⟩⟩⟩⟩⟩⟩
  ers := List.forall_mem_cons.mpr ⟨oe_BadProgram, List.forall_mem_cons.mpr ⟨oe_TooLarge, fun _ h => nomatch h⟩⟩
  law := ⟨_, hasLaw⟩
  pn := by decide +kernel
  holds := fun ns hn => Pg.holds_k01 hasProg hasTold hasErr hasLaw 1 ns hn
end K01
open PySem PySem.W PySem.Calls PyProof.Rows
theorem PySem.Challenge.cw_partchanges_k01_whole_programs_holds : PySem.Challenge.rw_partchanges_k01_whole_programs.Holds := by
  w_on; o_law
  refine HandSHeadRun.head_any (r := OpenLaw.row PySem.Challenge.rw_partchanges_k01_whole_programs) (q := view (OpenLaw.row PySem.Challenge.rw_partchanges_k01_whole_programs).prog [42]) (H := K01.hk) (ob := K01.ob) (M := 20000) (loose := K01.loose) (d := HandSHeadRun.topDef (OpenLaw.row PySem.Challenge.rw_partchanges_k01_whole_programs).prog 42) (kwd := []) K01.ob_eq
    (by kernel_rfl) (fun s => by kernel_rfl) K01.run (by kernel_rfl) (by kernel_rfl) (by kernel_rfl) (by rfl) (by first | assumption | decide +kernel) (by decide +kernel) ⟨rfl, rfl, rfl, rfl, rfl, by decide +kernel⟩ ?hw ?hc
  case hw => w_witness2
  case hc =>
    refine L2.walk_ofE (l := PySem.Challenge.rw_partchanges_k01_whole_programs) (n := 63) (k := 41) (x := "script") (CX := L2.CX0) rfl (by decide) (by kernel_rfl) ⟨rfl, by decide, by decide⟩ ?F (fun _ _ _ _ z => z)
    intro w mg fa h Y G hmg0
    obtain ⟨K, KX, tx, cs⟩ := Y
    have hmg : mg ("law" : PySem.Str) = some (.ref fa) := by
      have e : (HandSHeadRun.topDef (OpenLaw.row PySem.Challenge.rw_partchanges_k01_whole_programs).prog 42).name = ("law" : PySem.Str) := by kernel_rfl
      rw [← e]
      exact hmg0
    obtain ⟨fd, sp, hb, hs, hF⟩ := Mp.facts (P := (PySem.Challenge.rw_partchanges_k01_whole_programs).prog) (w := w) K01.lawok KX G hmg tx cs
    exact ⟨K, fd, sp, KX, hb, hs, hF⟩

