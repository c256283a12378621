import PyProof.Rows.All
import HandS.ForMost
import KE.SortData
import HandS.WordsExc
import HandS.TupAny
import HandS.Deep
import HandS.Wide
import HandS.IsInst
import HandS.Conv
import HandS.More
import HandS.DictTup
import HandS.Dict
import KE.KDictDisplayH
import KE.KeyNested
import KE.KDictCopyH
import KE.KDictSum
import PyProof.StrOps2
import KE.DataCmp
import HandS.DictComp
import KE.KEqDict
import HandS.TupLen
import HandS.Text
import HandS.RaiseMore
import KE.DataMinMax
import HandS.Zip
import PyProof.Draws
import PyProof.EnumMake
import KE.GoesEnum
import HandS.SetFor
import HandS.TupSets
import HandS.Iter
import KE.KDictWalk
import HandS.SetKeys
import HandS.Sort
import HandS.Style
import HandS.ForExc
import HandS.ExcOwn
import HandS.ExcValue
import HandS.ExcIs
import HandS.NoneIn
import HandS.TryOnly
import PySem.Challenge.RW_nohalfway_k65_whole_ways_end
import HandS.Codes
set_option Elab.async false
set_option linter.all false
set_option maxRecDepth 100000
/-! PyE: a small machine over plain data: what a def of the program's own subset of Python comes to, reckoned by functions. -/
namespace L3
open PySem L2

/-- a thing: tuples are trees, lists and dicts and instances stand in the store -/
inductive AV where
  | non | bl (b : Bool) | int (i : Int) | str (x : List Nat) | tup (xs : List AV) | ref (n : Nat) | rol (xs : List Int)
  deriving Inhabited
mutual
def AV.eqb : AV → AV → Bool
  | .non, .non => true
  | .bl a, .bl b => decide (a = b)
  | .int a, .int b => decide (a = b)
  | .str a, .str b => decide (a = b)
  | .tup a, .tup b => AV.eqbs a b
  | .ref a, .ref b => decide (a = b)
  | .rol a, .rol b => decide (a = b)
  | _, _ => false
def AV.eqbs : List AV → List AV → Bool
  | [], [] => true
  | x :: xs, y :: ys => AV.eqb x y && AV.eqbs xs ys
  | _, _ => false
end
mutual
theorem AV.eqb_iff : ∀ a b : AV, AV.eqb a b = true ↔ a = b
  | .non, b => by cases b <;> simp [AV.eqb]
  | .bl a, b => by cases b <;> simp [AV.eqb]
  | .int a, b => by cases b <;> simp [AV.eqb]
  | .str a, b => by cases b <;> simp [AV.eqb]
  | .ref a, b => by cases b <;> simp [AV.eqb]
  | .rol a, b => by cases b <;> simp [AV.eqb]
  | .tup a, b => by
    cases b with
    | tup b => simpa [AV.eqb] using AV.eqbs_iff a b
    | _ => simp [AV.eqb]
theorem AV.eqbs_iff : ∀ a b : List AV, AV.eqbs a b = true ↔ a = b
  | [], b => by cases b <;> simp [AV.eqbs]
  | x :: xs, b => by
    cases b with
    | nil => simp [AV.eqbs]
    | cons y ys => simp [AV.eqbs, AV.eqb_iff x y, AV.eqbs_iff xs ys]
end
instance : DecidableEq AV := fun a b => decidable_of_iff _ (AV.eqb_iff a b)

abbrev KN := (Int × Int) × Int
inductive AO where
  | lst (xs : List AV)
  | dK (kvs : List (Key × AV)) | dT (kvs : List (List Key × AV))
  | ins (c : Nat) (fs : List (Nat × AV)) | exc (c : Nat)
  | lkK (kvs : List (Key × AV)) | lkT (kvs : List (List Key × AV))
  | dN (kvs : List (KN × AV))
  deriving DecidableEq
abbrev Sto := List AO
abbrev Slots := List (Option AV)

inductive R (α : Type) where
  | ok (a : α) (s : Sto) | ex (c : Nat) (s : Sto) | no
namespace R
variable {α β : Type}
def bind (r : R α) (f : α → Sto → R β) : R β := match r with
  | .ok a s => f a s
  | .ex c s => .ex c s
  | .no => .no
/-- what is raised is not followed -/
def noex (r : R α) : R α := match r with
  | .ok a s => .ok a s
  | _ => .no
end R
inductive SR where
  | nx (e : Slots) (s : Sto) | rt (v : AV) (s : Sto) | ex (c : Nat) (e : Slots) (s : Sto) | no
def SR.bind (r : SR) (f : Slots → Sto → SR) : SR := match r with
  | .nx e s => f e s
  | r => r
def SR.noex (r : SR) : SR := match r with
  | .ex _ _ _ => .no
  | r => r
/-- an expression's end within a statement -/
def R.st {α : Type} (r : R α) (e : Slots) (f : α → Sto → SR) : SR := match r with
  | .ok a s => f a s
  | .ex c s => .ex c e s
  | .no => .no

inductive Bop where
  | add | sub | mul | fdiv | mod | pow | band | shr
  deriving DecidableEq
inductive Cop where
  | eq | ne | lt | le | gt | ge | isin | notin | is | isnot
  deriving DecidableEq
inductive Ty where
  | bool | int | str | list | tuple | dict | cls (c : Nat)
  deriving DecidableEq
inductive Bi where
  | len | int | str | list | tuple | abs | all | any | sorted | sum | max | min | range | set
  deriving DecidableEq
inductive Tg where
  | nm (i : Nat) | tp (is : List Nat)
  deriving DecidableEq

mutual
inductive E where
  | var (i : Nat) | con (v : AV) | kon (v : AV)
  | bin (op : Bop) (a b : E) | neg (a : E) | not (a : E) | and (es : Es) | or (es : Es)
  | cmp (op : Cop) (a b : E) | chain (o1 o2 : Cop) (a b c : E)
  | lst (es : Es) | tup (es : Es) | dnew (t : Bool) | dnn | ddsp (ks : List AV) (es : Es) | dn1 (a b : E)
  | call (g : Nat) (es : Es) | mk (c : Nat) (es : Es) | bcall (b : Bi) (es : Es) | isi (t : Ty) (a : E) | isx (d : Nat) (a : E)
  | meth (m : Nat) (o : E) (es : Es) | fld (o : E) (f : Nat)
  | idx (o i : E) | sl (o : E) (lo hi : Es) | lrng (a : E) | sset (a : E) | slen (a : E) | stp (k : Nat) (a : E) | inrg (a b : E) | rev (a : E)
  | lc (own : List Nat) (tg : Tg) (it : Iw) (cond : Es) (elt : E) | bad
inductive Es where
  | nil | cons (e : E) (es : Es)
inductive Iw where
  | seq (e : E) | rng1 (a : E) | rng2 (a b : E) | enum (e : E) | items (e : E) | vals (e : E) | keys (e : E) | zip (a b : E) | zipS (a b : E) | rng3 (a b c : E)
end

inductive S where
  | done | asg (i : Nat) (e : E) (k : S) | asgT (is : List Nat) (e : E) (k : S) | asgL (is : List Nat) (e : E) (k : S)
  | asgF (o : E) (f : Nat) (e : E) (k : S) | asgI (o i e : E) (k : S)
  | aug (i : Nat) (op : Bop) (e : E) (k : S) | augF (o : E) (f : Nat) (op : Bop) (e : E) (k : S)
  | expr (e : E) (k : S) | ret (e : E) | retN
  | ite (c : E) (a b k : S) | loop (tg : Tg) (it : Iw) (body k : S) | whil (c : E) (body k : S)
  | rais (c : Nat) | tryx (body : S) (c i : Nat) (su k : S) | tryn (body : S) (c : Nat) (su k : S) | lock (a : E) (b k : S) | bad

/-- names of methods of built-in types: append 0 extend 1 insert 2 pop 3 clear 4 reverse 5 index 6 count 7 get 8 split 9 join 10 find 11 -/
structure Tab where
  df : Nat → Option (Nat × Nat × S)
  mt : Nat → Nat → Option Nat
  ini : Nat → Option Nat
  fl : Nat → Nat → Bool
  sub : Nat → Nat → Option Bool

/-! ### values -/
abbrev lim : Nat := 16777216
def keyK : AV → Option Key
  | .int i => some (.inl i)
  | .str x => some (.inr ⟨x.toArray⟩)
  | _ => none
def keysK : List AV → Option (List Key)
  | [] => some []
  | x :: xs => match keyK x, keysK xs with
    | some k, some ks => some (k :: ks)
    | _, _ => none
def keyT : AV → Option (List Key)
  | .tup xs => keysK xs
  | _ => none
/-- keys ((int, int), int) -/
def keyN : AV → Option KN
  | .tup [.tup [.int h, .int d], .int n] => some ((h, d), n)
  | _ => none
def nkV (k : KN) : AV := .tup [.tup [.int k.1.1, .int k.1.2], .int k.2]
def knD (k : KN) : PyData := .tuple [.tuple [.int k.1.1, .int k.1.2], .int k.2]
def kD : Key → PyData
  | .inl i => .int i
  | .inr x => .str x
def tkD (k : List Key) : PyData := .tuple (k.map kD)
def unK : Key → AV
  | .inl i => .int i
  | .inr x => .str x.cps.toList
def seqA (st : Sto) : AV → Option (List AV)
  | .tup xs => some xs
  | .ref n => match st[n]? with
    | some (.lst xs) => some xs
    | _ => none
  | .rol xs => some (xs.map .int)
  | _ => none
def lstA (st : Sto) : AV → Option (List AV)
  | .ref n => match st[n]? with
    | some (.lst xs) => some xs
    | _ => none
  | .rol xs => some (xs.map .int)
  | _ => none
/-- all, from the left -/
def oAll {α β : Type} (f : α → Option β) : List α → Option (List β)
  | [] => some []
  | x :: xs => match f x, oAll f xs with
    | some d, some ds => some (d :: ds)
    | _, _ => none
/-- as data -/
def pd : Nat → Sto → AV → Option PyData
  | 0, _, _ => none
  | n + 1, st, v => match v with
    | .non => some .none
    | .bl b => some (.bool b)
    | .int i => some (.int i)
    | .str x => some (.str ⟨x.toArray⟩)
    | .tup xs => (oAll (pd n st) xs).map .tuple
    | .ref m => match st[m]? with
      | some (.lst xs) => (oAll (pd n st) xs).map .list
      | _ => none
    | .rol xs => some (.list (xs.map .int))
def pdS (st : Sto) (v : AV) : Option PyData := match pd 9 st v with
  | some d => if SeqAt.shaped d = true then some d else none
  | none => none
/-- a dict and an empty one -/
def eqD (st : Sto) (x y : AV) : Option Bool := match x, y with
  | .ref m, .ref n => match st[m]?, st[n]? with
    | some (.dK ks), some (.dK []) => some ks.isEmpty
    | _, _ => none
  | _, _ => none
def eqA (st : Sto) (x y : AV) : Option Bool := match pdS st x, pdS st y with
  | some d, some e => some (PyData.eqv d e)
  | _, _ => eqD st x y
/-- a text in a text -/
def subIn (x z : List Nat) : Bool := !(Builtin.Str.occurrences ⟨z.toArray⟩ ⟨x.toArray⟩ 0 z.length 1).isEmpty
def flA : AV → Option PyData
  | .non => some .none
  | .bl b => some (.bool b)
  | .int i => some (.int i)
  | .str x => some (.str ⟨x.toArray⟩)
  | _ => none
def hasK {κ : Type} [DecidableEq κ] (k : κ) (kvs : List (κ × AV)) : Bool := kvs.any fun p => decide (p.1 = k)
def getK {κ : Type} [DecidableEq κ] (k : κ) (kvs : List (κ × AV)) : Option AV := (kvs.find? fun p => decide (p.1 = k)).map (·.2)
def inA (st : Sto) (x y : AV) : Option Bool := match y with
  | .str z => match x with
    | .str c => some (subIn c z)
    | _ => none
  | .tup ys => match flA x, oAll flA ys with
    | some d, some es => some (es.any fun e => PyData.eqv e d)
    | _, _ => none
  | .rol ys => match flA x with
    | some d => some (ys.any fun e => PyData.eqv (.int e) d)
    | _ => none
  | .ref n => match st[n]? with
    | some (.lst _) => match pdS st x, pdS st (.ref n) with
      | some d, some (.list es) => some (es.any fun e => PyData.eqv e d)
      | _, _ => none
    | some (.dK kvs) => match keyK x with
      | some k => some (hasK k kvs)
      | none => none
    | some (.dT kvs) => match keyT x with
      | some k => some (hasK k kvs)
      | none => none
    | some (.dN kvs) => match keyN x with
      | some k => some (hasK k kvs)
      | none => none
    | _ => none
  | _ => none

def R.ofB (o : Option Bool) (st : Sto) : R AV := match o with
  | some b => .ok (.bl b) st
  | none => .no
def alloc (o : AO) (st : Sto) : R AV := .ok (.ref st.length) (st ++ [o])
def mulOk (i j : Int) : Bool := decide (i.natAbs < 18446744073709551616) || decide (j.natAbs < 18446744073709551616) || (decide (i.natAbs < 2 ^ 2000) && decide (j.natAbs < 2 ^ 2000))
def binA (op : Bop) (x y : AV) (st : Sto) : R AV := match op with
  | .add => match x with
    | .int i => match y with
      | .int j => .ok (.int (i + j)) st
      | _ => .no
    | .str a => match y with
      | .str b => if a.length + b.length ≤ lim then .ok (.str (a ++ b)) st else .no
      | _ => .no
    | .tup a => match y with
      | .tup b => if a.length + b.length ≤ lim then .ok (.tup (a ++ b)) st else .no
      | _ => .no
    | .ref m => match y with
      | .ref n => match st[m]?, st[n]? with
        | some (.lst a), some (.lst b) => if a.length + b.length ≤ lim then alloc (.lst (a ++ b)) st else .no
        | _, _ => .no
      | _ => .no
    | _ => .no
  | .sub => match x, y with
    | .int i, .int j => .ok (.int (i - j)) st
    | _, _ => .no
  | .mul => match x with
    | .int i => match y with
      | .int j => if mulOk i j then .ok (.int (i * j)) st else .no
      | _ => .no
    | .ref m => match y with
      | .int k => match st[m]? with
        | some (.lst a) => if -(2 ^ 63) ≤ k ∧ k < 2 ^ 63 ∧ a.length * k.toNat ≤ lim then alloc (.lst (List.replicate k.toNat a).flatten) st else .no
        | _ => .no
      | _ => .no
    | .str z => match y with
      | .int k => if k = 0 then .ok (.str []) st else if k = 1 then .ok (.str z) st else .no
      | _ => .no
    | _ => .no
  | .fdiv => match x, y with
    | .int i, .int j => if 0 < j ∧ j < 1073741824 then .ok (.int (i / j)) st else .no
    | _, _ => .no
  | .mod => match x, y with
    | .int i, .int j => if 0 < j then .ok (.int (i % j)) st else .no
    | _, _ => .no
  | .pow => match x, y with
    | .int i, .int j => if 0 ≤ j ∧ j ≤ 1000000 ∧ i.natAbs < 18446744073709551616 then .ok (.int (i ^ j.toNat)) st else .no
    | _, _ => .no
  | .band => match x, y with
    | .int i, .int j => .ok (.int (Builtin.bitAnd i j)) st
    | _, _ => .no
  | .shr => match x, y with
    | .int i, .int j => if 0 ≤ j then .ok (.int (i / 2 ^ j.toNat)) st else .no
    | _, _ => .no

/-- lists, tuples of alike things -/
def isNon : PyData → Bool
  | .none => true
  | _ => false
def ltD (x y : AV) (st : Sto) : R AV := match pd 9 st x, pd 9 st y with
  | some d, some e => if PySem.W.alike d e = true ∧ isNon d = false then .ok (.bl (PySem.W.dataLt d e)) st else .no
  | _, _ => .no
def cmpA (op : Cop) (x y : AV) (st : Sto) : R AV := match op with
  | .eq => .ofB (eqA st x y) st
  | .ne => .ofB ((eqA st x y).map not) st
  | .lt => match x, y with
    | .int i, .int j => .ok (.bl (decide (i < j))) st
    | x, y => ltD x y st
  | .le => match x, y with
    | .int i, .int j => .ok (.bl (decide (i ≤ j))) st
    | _, _ => .no
  | .gt => match x, y with
    | .int i, .int j => .ok (.bl (decide (j < i))) st
    | _, _ => .no
  | .ge => match x, y with
    | .int i, .int j => .ok (.bl (decide (j ≤ i))) st
    | _, _ => .no
  | .isin => .ofB (inA st x y) st
  | .notin => .ofB ((inA st x y).map not) st
  | .is => match y with
    | .non => .ok (.bl (decide (x = .non))) st
    | _ => .no
  | .isnot => match y with
    | .non => .ok (.bl (!decide (x = .non))) st
    | _ => .no

def idxA (o i : AV) (st : Sto) : R AV := match o with
  | .tup xs => match i with
    | .int i => match L2.ixN xs.length i with
      | some k => match xs[k]? with
        | some v => .ok v st
        | none => .no
      | none => .no
    | _ => .no
  | .str x => match i with
    | .int i => if x.length ≤ lim then match L2.ixN x.length i with
      | some k => match x[k]? with
        | some c => .ok (.str [c]) st
        | none => .no
      | none => .no else .no
    | _ => .no
  | .ref n => match st[n]? with
    | some (.lst xs) => match i with
      | .int i => match L2.ixN xs.length i with
        | some k => match xs[k]? with
          | some v => .ok v st
          | none => .no
        | none => .no
      | _ => .no
    | some (.dK kvs) => match keyK i with
      | some k => match getK k kvs with
        | some v => .ok v st
        | none => .no
      | none => .no
    | some (.dT kvs) => match keyT i with
      | some k => match getK k kvs with
        | some v => .ok v st
        | none => .no
      | none => .no
    | some (.dN kvs) => match keyN i with
      | some k => match getK k kvs with
        | some v => .ok v st
        | none => .no
      | none => .no
    | some (.lkK kvs) => match keyK i with
      | some k => match getK k kvs with
        | some v => .ok v st
        | none => .no
      | none => .no
    | _ => .no
  | .rol xs => match i with
    | .int i => match L2.ixN xs.length i with
      | some k => match xs[k]? with
        | some v => .ok (.int v) st
        | none => .no
      | none => .no
    | _ => .no
  | _ => .no
/-- a slice -/
def cutA {α : Type} (xs : List α) (lo hi : Option Int) : List α := (xs.drop (HT.sIx xs.length 0 lo)).take (HT.sIx xs.length xs.length hi - HT.sIx xs.length 0 lo)
def slA (o : AV) (lo hi : Option Int) (st : Sto) : R AV := match o with
  | .str x => if x.length ≤ lim then .ok (.str (cutA x lo hi)) st else .no
  | .tup xs => .ok (.tup (cutA xs lo hi)) st
  | .ref n => match st[n]? with
    | some (.lst xs) => alloc (.lst (cutA xs lo hi)) st
    | _ => .no
  | .rol xs => alloc (.lst (cutA (xs.map .int) lo hi)) st
  | _ => .no
def isA (T : Tab) (t : Ty) (v : AV) (st : Sto) : Option Bool := match v with
  | .non => some false
  | .bl _ => some (decide (t = .bool ∨ t = .int))
  | .int _ => some (decide (t = .int))
  | .str _ => some (decide (t = .str))
  | .tup _ => some (decide (t = .tuple))
  | .ref n => match st[n]? with
    | some (.lst _) => some (decide (t = .list))
    | some (.dK _) => some (decide (t = .dict))
    | some (.dT _) => some (decide (t = .dict))
    | some (.ins _ _) => none
    | some (.exc _) => none
    | some (.lkK _) => none
    | some (.lkT _) => none
    | some (.dN _) => none
    | none => none
  | .rol _ => some (decide (t = .list))

/-- whether an error is one of a class -/
def isxA (T : Tab) (v : AV) (d : Nat) (st : Sto) : R AV := match v with
  | .ref n => match st[n]? with
    | some (.exc c) => .ofB (T.sub c d) st
    | _ => .no
  | _ => .no
def boolsA : List AV → Option (List Bool)
  | [] => some []
  | .bl b :: r => (boolsA r).map (b :: ·)
  | _ => none
def intsA : List AV → Option (List Int)
  | [] => some []
  | .int b :: r => (intsA r).map (b :: ·)
  | _ => none
def isInt : AV → Option Int
  | .int i => some i
  | _ => none
def alikeB (ds : List PyData) : Bool := ds.all fun d => ds.all fun e => PySem.W.alike d e
def sortB (ds : List PyData) : Bool := (ds.all fun d => match d with
  | .tuple (_ :: _) => true
  | _ => false) || ds.all fun d => match d with
  | .none => false
  | .tuple _ => false
  | _ => true
def encA (st : Sto) (v : AV) : PyData := (pd 9 st v).getD .none
def sortA (st : Sto) (ys : List AV) : List AV := ys.mergeSort (PySem.W.dataLe false (encA st))
/-- the least of a list, where one alone is it -/
def leastD (x : PyData) (xs : List PyData) : PyData := xs.foldl (fun a y => if PySem.W.dataLt y a = true then y else a) x
def minA (ys : List AV) (ds : List PyData) (st : Sto) : R AV := match ds with
  | d :: r => if alikeB ds = true ∧ (ds.all PyData.canLay0) = true ∧ (ds.all fun d => !isNon d) = true then match (List.range ds.length).find? fun i => PyData.eqv (ds.getD i .none) (leastD d r) with
    | some i => match ys[i]? with
      | some v => if (List.range ds.length).all (fun j => !PyData.eqv (ds.getD j .none) (leastD d r) || decide (ys[j]? = some v)) = true then .ok v st else .no
      | none => .no
    | none => .no
    else .no
  | [] => .no
def inlK : List Key → Option (List Int)
  | [] => some []
  | .inl i :: r => (inlK r).map (i :: ·)
  | _ => none
/-- the keys of a dict, all whole numbers -/
def nkeysA (st : Sto) (v : AV) : Option (List KN) := match v with
  | .ref n => match st[n]? with
    | some (.dN kvs) => some (kvs.map (·.1))
    | _ => none
  | _ => none
def tkeysA (st : Sto) (v : AV) : Option (List (List Key)) := match v with
  | .ref n => match st[n]? with
    | some (.dT kvs) => some (kvs.map (·.1))
    | _ => none
  | _ => none
def dkeysA (st : Sto) (v : AV) : Option (List Int) := match v with
  | .ref n => match st[n]? with
    | some (.dK kvs) => inlK (kvs.map (·.1))
    | _ => none
  | _ => none
def callB (b : Bi) (xs : List AV) (st : Sto) : R AV := match b with
  | .len => match xs with
    | [.str x] => if x.length ≤ lim then .ok (.int x.length) st else .no
    | [.tup x] => .ok (.int x.length) st
    | [.ref n] => match st[n]? with
      | some (.lst x) => .ok (.int x.length) st
      | some (.dK x) => .ok (.int x.length) st
      | some (.dT x) => .ok (.int x.length) st
      | _ => .no
    | [.rol x] => .ok (.int x.length) st
    | _ => .no
  | .int => match xs with
    | [.int i] => .ok (.int i) st
    | [.bl k] => .ok (.int (if k then 1 else 0)) st
    | [.str x] => if x.length ≤ 640 then match PySem.intText? ⟨x.toArray⟩ with
      | some n => .ok (.int n) st
      | none => .no else .no
    | _ => .no
  | .str => match xs with
    | [.int i] => if i.natAbs.log2 < 1920 then .ok (.str ((toString i : String) : Str).cps.toList) st else .no
    | [.str x] => .ok (.str x) st
    | _ => .no
  | .list => match xs with
    | [v] => match seqA st v with
      | some ys => alloc (.lst ys) st
      | none => .no
    | _ => .no
  | .tuple => match xs with
    | [v] => match seqA st v with
      | some ys => .ok (.tup ys) st
      | none => .no
    | _ => .no
  | .abs => match xs with
    | [.int i] => .ok (.int (if i < 0 then -i else i)) st
    | _ => .no
  | .all => match xs with
    | [v] => match lstA st v with
      | some ys => .ofB ((boolsA ys).map fun bs => bs.all id) st
      | none => .no
    | _ => .no
  | .any => match xs with
    | [v] => match lstA st v with
      | some ys => .ofB ((boolsA ys).map fun bs => bs.any id) st
      | none => .no
    | _ => .no
  | .sum => match xs with
    | [v] => match lstA st v with
      | some ys => match intsA ys with
        | some ns => .ok (.int ns.sum) st
        | none => .no
      | none => .no
    | _ => .no
  | .max => match xs with
    | [.int i, .int j] => .ok (.int (if j > i then j else i)) st
    | _ => .no
  | .min => match xs with
    | [.int i, .int j] => .ok (.int (if j < i then j else i)) st
    | [v] => match lstA st v with
      | some ys => match oAll (pd 9 st) ys with
        | some ds => minA ys ds st
        | none => .no
      | none => .no
    | _ => .no
  | .sorted => match xs with
    | [v] => match lstA st v with
      | some ys => match oAll (pd 9 st) ys with
        | some ds => if alikeB ds = true ∧ sortB ds = true ∧ ys.length ≤ lim then alloc (.lst (sortA st ys)) st else .no
        | none => .no
      | none => match dkeysA st v with
        | some ks => if ks.length ≤ lim then alloc (.lst ((ks.mergeSort fun a b => decide (a ≤ b)).map .int)) st else .no
        | none => match nkeysA st v with
          | some ks => alloc (.lst ((ks.mergeSort (PySem.W.dataLe false knD)).map nkV)) st
          | none => match tkeysA st v with
            | some ks => if alikeB (ks.map tkD) = true ∧ sortB (ks.map tkD) = true then alloc (.lst ((ks.mergeSort (PySem.W.dataLe false tkD)).map fun k => .tup (k.map unK))) st else .no
            | none => .no
    | _ => .no
  | _ => .no

/-- a list's method -/
def lmeth (m n : Nat) (ys xs : List AV) (st : Sto) : R AV := match m with
  | 0 => match xs with
    | [v] => if ys.length < lim then .ok .non (st.set n (.lst (ys ++ [v]))) else .no
    | _ => .no
  | 1 => match xs with
    | [.ref m] => match st[m]? with
      | some (.lst zs) => if ys.length + zs.length ≤ lim then .ok .non (st.set n (.lst (ys ++ zs))) else .no
      | _ => .no
    | _ => .no
  | 2 => match xs with
    | [.int i, v] => if 0 ≤ i ∧ i < 2 ^ 63 ∧ ys.length < lim then .ok .non (st.set n (.lst (ys.take i.toNat ++ [v] ++ ys.drop i.toNat))) else .no
    | _ => .no
  | 3 => match xs with
    | [] => match ys[ys.length - 1]? with
      | some v => .ok v (st.set n (.lst ys.dropLast))
      | none => .no
    | [.int i] => if ys.length ≤ lim then match L2.ixN ys.length i with
      | some k => match ys[k]? with
        | some v => .ok v (st.set n (.lst (ys.eraseIdx k)))
        | none => .no
      | none => .no else .no
    | _ => .no
  | 4 => match xs with
    | [] => .ok .non (st.set n (.lst []))
    | _ => .no
  | 5 => match xs with
    | [] => .ok .non (st.set n (.lst ys.reverse))
    | _ => .no
  | 6 => match xs with
    | [v] => match pdS st (.ref n), pdS st v with
      | some (.list ds), some d => match ds.findIdx? fun e => PyData.eqv e d with
        | some j => .ok (.int (j : Nat)) st
        | none => .no
      | _, _ => .no
    | _ => .no
  | _ => .no
/-- whose method it is -/
inductive Sel where
  | own (g : Nat) | lst | str | dic | no
def selA (T : Tab) (m : Nat) (o : AV) (st : Sto) : Sel := match o with
  | .ref n => match st[n]? with
    | some (.ins c fs) => match T.mt c m, fs.lookup m with
      | some g, none => .own g
      | _, _ => .no
    | some (.lst _) => if m ≤ 6 then .lst else .no
    | some (.dK _) => if m = 8 ∨ m = 3 then .dic else .no
    | some (.dT _) => if m = 8 then .dic else .no
    | _ => .no
  | .str _ => if m = 10 ∨ m = 7 ∨ m = 11 ∨ m = 9 then .str else .no
  | _ => .no
def strsA : List AV → Option (List (List Nat))
  | [] => some []
  | .str b :: r => (strsA r).map (b :: ·)
  | _ => none
def joinA (a : List Nat) (ys : List (List Nat)) : List Nat := (Txt.join ⟨a.toArray⟩ (ys.map fun y => ⟨y.toArray⟩)).cps.toList
/-- a.join(list) -/
def sjoin (a : List Nat) (xs : List AV) (st : Sto) : R AV := match xs with
  | [.ref n] => match st[n]? with
    | some (.lst ys) => match strsA ys with
      | some zs => if (zs.map List.length).sum + zs.length * a.length ≤ lim then .ok (.str (joinA a zs)) st else .no
      | none => .no
    | _ => .no
  | _ => .no
/-- a.m(b) of texts -/
def smeth (m : Nat) (a : List Nat) (xs : List AV) (st : Sto) : R AV := match m with
  | 10 => sjoin a xs st
  | 7 => match xs with
    | [.str b] => .ok (.int (Txt.count ⟨a.toArray⟩ ⟨b.toArray⟩)) st
    | _ => .no
  | 11 => match xs with
    | [.str b] => .ok (.int (Txt.find ⟨a.toArray⟩ ⟨b.toArray⟩)) st
    | _ => .no
  | 9 => match xs with
    | [.str b] => if b ≠ [] ∧ a.length + 2 ≤ lim then alloc (.lst ((Txt.split ⟨a.toArray⟩ ⟨b.toArray⟩).map fun y => .str y.cps.toList)) st else .no
    | _ => .no
  | _ => .no
/-- d.get(k), d.get(k, v) -/
def dgetA (o : Option (Option AV)) (xs : List AV) (st : Sto) : R AV := match o with
  | some v => match xs with
    | [_] => .ok (v.getD .non) st
    | [_, d] => .ok (v.getD d) st
    | _ => .no
  | none => .no
def dlook (st : Sto) (n : Nat) (i : AV) : Option (Option AV) := match st[n]? with
  | some (.dK kvs) => (keyK i).map fun k => getK k kvs
  | some (.dT kvs) => (keyT i).map fun k => getK k kvs
  | _ => none
def dropA {κ : Type} [DecidableEq κ] (k : κ) (kvs : List (κ × AV)) : List (κ × AV) := kvs.filter fun p => decide (p.1 ≠ k)
/-- d.pop(k) -/
def dpopA (n : Nat) (xs : List AV) (st : Sto) : R AV := match xs with
  | [i] => match st[n]? with
    | some (.dK kvs) => match keyK i with
      | some k => match getK k kvs with
        | some v => .ok v (st.set n (.dK (dropA k kvs)))
        | none => .no
      | none => .no
    | _ => .no
  | _ => .no
/-- o.m(xs), o of a built-in type -/
def bmeth (s : Sel) (m : Nat) (o : AV) (xs : List AV) (st : Sto) : R AV := match s with
  | .lst => match o with
    | .ref n => match st[n]? with
      | some (.lst ys) => lmeth m n ys xs st
      | _ => .no
    | _ => .no
  | .str => match o with
    | .str a => smeth m a xs st
    | _ => .no
  | .dic => match o with
    | .ref n => if m = 3 then dpopA n xs st else match xs with
      | i :: _ => dgetA (dlook st n i) xs st
      | _ => .no
    | _ => .no
  | _ => .no

/-! ### expressions -/
abbrev CallF := Nat → List AV → Sto → R AV
def mkA (T : Tab) (cf1 : CallF) (c : Nat) (xs : List AV) (st : Sto) : R AV := match T.ini c with
  | some g => (cf1 g (.ref st.length :: xs) (st ++ [.ins c []])).bind fun v st' => if v = .non then .ok (.ref st.length) st' else .no
  | none => .no
def methA (cf : CallF) (s : Sel) (m : Nat) (o : AV) (xs : List AV) (st : Sto) : R AV := match s with
  | .own g => cf g (o :: xs) st
  | s => bmeth s m o xs st
/-- what is not there is not called -/
def Sel.ok (s : Sel) (r : R AV) : R AV := match s with
  | .no => .no
  | _ => r
def putA (f : Nat) (v : AV) : List (Nat × AV) → List (Nat × AV)
  | [] => [(f, v)]
  | (g, x) :: r => if g = f then (g, v) :: r else (g, x) :: putA f v r
def fldA (T : Tab) (o : AV) (f : Nat) (st : Sto) : R AV := match o with
  | .ref n => match st[n]? with
    | some (.ins c fs) => if T.fl c f = true then match fs.lookup f with
      | some v => .ok v st
      | none => .no else .no
    | _ => .no
  | _ => .no
def tgIds : Tg → List Nat
  | .nm i => [i]
  | .tp is => is
def bindT (tg : Tg) (x : AV) (e : Slots) : Option Slots := match tg with
  | .nm i => some (e.set i (some x))
  | .tp is => match x with
    | .tup xs => if is.length = xs.length then some (go is xs e) else none
    | _ => none
where go : List Nat → List AV → Slots → Slots
  | i :: is, x :: xs, e => go is xs (e.set i (some x))
  | _, _, e => e
/-- names taken out of a list -/
def bindL (is : List Nat) (x : AV) (e : Slots) (st : Sto) : Option Slots := match x with
  | .ref n => match st[n]? with
    | some (.lst xs) => if is.length = xs.length then some (bindT.go is xs e) else none
    | _ => none
  | _ => none
def wipeA (e : Slots) : List Nat → Slots
  | [] => e
  | i :: is => (wipeA e is).set i none
/-- what is walked: the things, and what must stand still meanwhile -/
structure Wk where
  xs : List AV
  at1 : Option (Nat × AO) := none
  at2 : Option (Nat × AO) := none
def Wk.ck (w : Wk) (st : Sto) : Bool :=
  (match w.at1 with | some (n, o) => decide (st[n]? = some o) | none => true) && (match w.at2 with | some (n, o) => decide (st[n]? = some o) | none => true)
def intsFrom (a : Int) (c : Int) : Nat → List AV
  | 0 => []
  | n + 1 => .int a :: intsFrom (a + c) c n
def numbered (k : Nat) : List AV → List AV
  | [] => []
  | x :: xs => .tup [.int k, x] :: numbered (k + 1) xs
def zipped : List AV → List AV → List AV
  | x :: xs, y :: ys => .tup [x, y] :: zipped xs ys
  | _, _ => []
def srcA (st : Sto) (v : AV) : Option Wk := match v with
  | .tup xs => some ⟨xs, none, none⟩
  | .str x => some ⟨x.map fun c => .str [c], none, none⟩
  | .ref n => match st[n]? with
    | some (.lst xs) => some ⟨xs, some (n, .lst xs), none⟩
    | _ => none
  | .rol xs => some ⟨xs.map .int, none, none⟩
  | _ => none
def enumA (st : Sto) (v : AV) : Option Wk := match v with
  | .str x => some ⟨numbered 0 (x.map fun c => .str [c]), none, none⟩
  | .ref n => match st[n]? with
    | some (.lst xs) => some ⟨numbered 0 xs, some (n, .lst xs), none⟩
    | _ => none
  | .rol xs => some ⟨numbered 0 (xs.map .int), none, none⟩
  | _ => none
/-- a locked dict is walked -/
def valsA (st : Sto) (v : AV) : Option Wk := match v with
  | .ref n => match st[n]? with
    | some (.lkK kvs) => some ⟨kvs.map (·.2), some (n, .lkK kvs), none⟩
    | _ => none
  | _ => none
def itemsA (st : Sto) (v : AV) : Option Wk := match v with
  | .ref n => match st[n]? with
    | some (.lkK kvs) => some ⟨kvs.map fun p => .tup [unK p.1, p.2], some (n, .lkK kvs), none⟩
    | some (.lkT kvs) => some ⟨kvs.map fun p => .tup [.tup (p.1.map unK), p.2], some (n, .lkT kvs), none⟩
    | _ => none
  | _ => none
def keysA (st : Sto) (v : AV) : Option Wk := match v with
  | .ref n => match st[n]? with
    | some (.lkK kvs) => some ⟨kvs.map fun p => unK p.1, some (n, .lkK kvs), none⟩
    | some (.lkT kvs) => some ⟨kvs.map fun p => .tup (p.1.map unK), some (n, .lkT kvs), none⟩
    | _ => none
  | _ => none
def atOf (v : AV) (xs : List AV) : Option (Nat × AO) := match v with
  | .ref n => some (n, .lst xs)
  | _ => none
def tpA : AV → Option (List AV)
  | .tup xs => some xs
  | _ => none
def zipA (st : Sto) (v u : AV) : Option Wk := match lstA st v, lstA st u with
  | some xs, some ys => some ⟨zipped xs ys, atOf v xs, atOf u ys⟩
  | _, _ => match tpA v, tpA u with
    | some xs, some ys => some ⟨zipped xs ys, none, none⟩
    | _, _ => none
/-- two texts -/
def zipSA (v u : AV) : Option Wk := match v with
  | .str x => match u with
    | .str y => some ⟨zipped (x.map fun c => .str [c]) (y.map fun c => .str [c]), none, none⟩
    | _ => none
  | _ => none
def okInt (i : Int) : Bool := decide (-(2 ^ 62) ≤ i) && decide (i < 2 ^ 62)
def rngA (xs : List AV) : Option Wk := match xs with
  | [.int j] => if okInt j then some ⟨intsFrom 0 1 j.toNat, none, none⟩ else none
  | [.int i, .int j] => if okInt i && okInt j then some ⟨intsFrom i 1 (j - i).toNat, none, none⟩ else none
  | _ => none
def rngC (x y z : AV) : Option Wk := match x, y, z with
  | .int i, .int j, .int c => if c ≠ 0 ∧ c.natAbs < 1073741824 ∧ Builtin.Range.small i j c = true ∧ 0 ≤ Builtin.Range.rangeSize i j c then some ⟨intsFrom i c (Builtin.Range.rangeSize i j c).toNat, none, none⟩ else none
  | _, _, _ => none
/-- put into a rising list, if it is not there -/
def insZ (a : Int) : List Int → List Int
  | [] => [a]
  | b :: l => if a < b then a :: b :: l else if a = b then b :: l else b :: insZ a l
def ssort (l : List Int) : List Int := l.foldr insZ []
/-- pairs of whole numbers -/
def pairsA : List AV → Option (List (Int × Int))
  | [] => some []
  | .tup [.int a, .int b] :: r => (pairsA r).map ((a, b) :: ·)
  | _ => none
def pairV (p : Int × Int) : AV := .tup [.int p.1, .int p.2]
def pLt (a b : Int × Int) : Prop := a.1 < b.1 ∨ (a.1 = b.1 ∧ a.2 < b.2)
instance (a b : Int × Int) : Decidable (pLt a b) := by unfold pLt; infer_instance
def insQ (a : Int × Int) : List (Int × Int) → List (Int × Int)
  | [] => [a]
  | b :: l => if pLt a b then a :: b :: l else if a = b then b :: l else b :: insQ a l
def psort (l : List (Int × Int)) : List (Int × Int) := l.foldr insQ []
def firsts {α : Type} [DecidableEq α] (l : List α) : List α := l.foldl (fun acc x => if x ∈ acc then acc else acc ++ [x]) []
def pSmall (p : Int × Int) : Bool := decide (0 ≤ p.1 ∧ p.1 < 64 ∧ 0 ≤ p.2 ∧ p.2 < 64)
/-- sorted(set(xs)) of whole numbers, of small pairs -/
def ssetA (x : AV) (st : Sto) : R AV := match lstA st x with
  | some xs => match intsA xs with
    | some is => if (ssort is).length < 64 ∧ is.length ≤ 4000 then alloc (.lst ((ssort is).map .int)) st else .no
    | none => match pairsA xs with
      | some ps => if ps.length < 64 ∧ ps.all pSmall = true then alloc (.lst ((psort ps).map pairV)) st else .no
      | none => .no
  | none => .no
/-- len(set(xs)) of pairs, of texts -/
def slenA (x : AV) (st : Sto) : R AV := match lstA st x with
  | some xs => match pairsA xs with
    | some ps => if ps.length < 64 then .ok (.int (firsts ps).length) st else .no
    | none => match strsA xs with
      | some zs => if zs.length ≤ 4000 then .ok (.int (firsts zs).length) st else .no
      | none => .no
  | none => .no
/-- xs[k::2] -/
def stpL {α : Type} (k : Nat) (xs : List α) : List α := (sliceRange (max 0 (min (k : Int) xs.length)) xs.length 2).filterMap (xs[·]?)
def stpA (k : Nat) (x : AV) (st : Sto) : R AV := match lstA st x with
  | some ys => alloc (.lst (stpL k ys)) st
  | none => .no
/-- x in range(y) -/
def inrA (x y : AV) (st : Sto) : R AV := match x, y with
  | .int i, .int j => if okInt j then .ok (.bl (decide (0 ≤ i ∧ i < j))) st else .no
  | _, _ => .no
def lrngA (x : AV) (st : Sto) : R AV := match x with
  | .int j => if 0 ≤ j ∧ j ≤ 1000000 then alloc (.lst (intsFrom 0 1 j.toNat)) st else .no
  | _ => .no
def revA (x : AV) (st : Sto) : R AV := match lstA st x with
  | some ys => alloc (.lst ys.reverse) st
  | none => .no
/-- the value of a test -/
def tst (r : R AV) : R Bool := r.bind fun v st => match v with
  | .bl b => .ok b st
  | _ => .no
def lcL (tg : Tg) (ck : Sto → Bool) (cond : Slots → Sto → R AV) (elt : Slots → Sto → R AV) (e0 : Slots) : List AV → List AV → Sto → R (List AV)
  | [], acc, st => if ck st = true then .ok acc st else .no
  | x :: xs, acc, st => if ck st = true then
      match bindT tg x e0 with
      | none => .no
      | some e => (tst (cond e st)).noex.bind fun c st =>
        if c = true then (elt e st).noex.bind fun v st => if acc.length < lim then lcL tg ck cond elt e0 xs (acc ++ [v]) st else .no
        else lcL tg ck cond elt e0 xs acc st
    else .no
def optI (v : AV) (st : Sto) : R (Option Int) := match v with
  | .int i => .ok (some i) st
  | _ => .no
def negA (v : AV) (st : Sto) : R AV := match v with
  | .int i => .ok (.int (-i)) st
  | _ => .no
def notA (v : AV) (st : Sto) : R AV := match v with
  | .bl b => .ok (.bl (!b)) st
  | _ => .no
def tupA (xs : List AV) (st : Sto) : R AV := if xs.length ≤ lim then .ok (.tup xs) st else .no
def wkA (o : Option Wk) (st : Sto) : R Wk := match o with
  | some w => .ok w st
  | none => .no

def putK {κ : Type} [DecidableEq κ] (k : κ) (v : AV) (kvs : List (κ × AV)) : List (κ × AV) :=
  if hasK k kvs = true then kvs.map fun p => if p.1 = k then (p.1, v) else p else kvs ++ [(k, v)]
def mergeA (kvs : List (Key × AV)) : List (Key × AV) := kvs.foldl (fun acc kv => putK kv.1 kv.2 acc) []
/-- the keys and values of a display are laid -/
def dispA (n : Nat) (ks : List AV) (xs : List AV) (st : Sto) : R AV := match st[n]? with
  | some (.dK []) => match keysK ks with
    | some kk => if kk.length = xs.length ∧ kk ≠ [] ∧ kk.length ≤ 15 then .ok (.ref n) (st.set n (.dK (mergeA (kk.zip xs)))) else .no
    | none => .no
  | _ => .no
/-- {k: v} with a nested key -/
def disp1 (n : Nat) (k v : AV) (st : Sto) : R AV := match st[n]? with
  | some (.dN []) => match keyN k with
    | some kk => .ok (.ref n) (st.set n (.dN [(kk, v)]))
    | none => .no
  | _ => .no
mutual
def ev (T : Tab) (cf cf1 : CallF) : E → Slots → Sto → R AV
  | .var i, e, st => match e[i]? with
    | some (some v) => .ok v st
    | _ => .no
  | .con v, _, st => .ok v st
  | .kon v, _, st => .ok v st
  | .bin op a b, e, st => (ev T cf cf1 a e st).bind fun x st => (ev T cf cf1 b e st).bind fun y st => binA op x y st
  | .neg a, e, st => (ev T cf cf1 a e st).bind negA
  | .not a, e, st => (ev T cf cf1 a e st).bind notA
  | .and es, e, st => evAnd T cf cf1 es e st
  | .or es, e, st => evOr T cf cf1 es e st
  | .cmp op a b, e, st => (ev T cf cf1 a e st).bind fun x st => (ev T cf cf1 b e st).bind fun y st => cmpA op x y st
  | .chain o1 o2 a b c, e, st => (ev T cf cf1 a e st).bind fun x st => (ev T cf cf1 b e st).bind fun y st => (cmpA o1 x y st).bind fun k st => match k with
    | .bl true => (ev T cf cf1 c e st).bind fun z st => cmpA o2 y z st
    | .bl false => .ok (.bl false) st
    | _ => .no
  | .lst es, e, st => (evs T cf cf1 es e st).bind fun xs st => if xs.length ≤ lim then alloc (.lst xs) st else .no
  | .tup es, e, st => (evs T cf cf1 es e st).bind tupA
  | .dnew t, _, st => alloc (if t then .dT [] else .dK []) st
  | .dnn, _, st => alloc (.dN []) st
  | .dn1 a b, e, st => (ev T cf cf1 a e (st ++ [.dN []])).bind fun k st1 => (ev T cf cf1 b e st1).bind fun v st2 => disp1 st.length k v st2
  | .ddsp ks es, e, st => (evs T cf cf1 es e (st ++ [.dK []])).bind fun xs st2 => dispA st.length ks xs st2
  | .call g es, e, st => (evs T cf cf1 es e st).bind fun xs st => cf g xs st
  | .mk c es, e, st => (evs T cf cf1 es e st).bind fun xs st => mkA T cf1 c xs st
  | .bcall b es, e, st => (evs T cf cf1 es e st).bind fun xs st => callB b xs st
  | .isi t a, e, st => (ev T cf cf1 a e st).bind fun v st => .ofB (isA T t v st) st
  | .isx d a, e, st => (ev T cf cf1 a e st).bind fun v st => isxA T v d st
  | .meth m o es, e, st => (ev T cf cf1 o e st).bind fun v st => (selA T m v st).ok ((evs T cf cf1 es e st).bind fun xs st1 => methA cf (selA T m v st) m v xs st1)
  | .fld o f, e, st => (ev T cf cf1 o e st).bind fun v st => fldA T v f st
  | .idx o i, e, st => (ev T cf cf1 o e st).bind fun v st => (ev T cf cf1 i e st).bind fun k st => idxA v k st
  | .sl o lo hi, e, st => (ev T cf cf1 o e st).bind fun v st => (evO T cf cf1 lo e st).bind fun a st => (evO T cf cf1 hi e st).bind fun b st => slA v a b st
  | .lrng a, e, st => (ev T cf cf1 a e st).bind fun x st => lrngA x st
  | .sset a, e, st => (ev T cf cf1 a e st).bind fun x st => ssetA x st
  | .slen a, e, st => (ev T cf cf1 a e st).bind fun x st => slenA x st
  | .stp k a, e, st => (ev T cf cf1 a e st).bind fun x st => stpA k x st
  | .inrg a b, e, st => (ev T cf cf1 a e st).bind fun x st => (ev T cf cf1 b e st).bind fun y st => inrA x y st
  | .rev a, e, st => (ev T cf cf1 a e st).bind fun x st => revA x st
  | .lc own tg it cond elt, e, st => (evIt T cf cf1 it e st).bind fun w st =>
      (lcL tg w.ck (fun e st => evAnd T cf cf1 cond e st) (fun e st => ev T cf cf1 elt e st) (wipeA e own) w.xs [] st).bind fun acc st => alloc (.lst acc) st
  | .bad, _, _ => .no
def evs (T : Tab) (cf cf1 : CallF) : Es → Slots → Sto → R (List AV)
  | .nil, _, st => .ok [] st
  | .cons a es, e, st => (ev T cf cf1 a e st).bind fun x st => (evs T cf cf1 es e st).bind fun xs st => .ok (x :: xs) st
def evO (T : Tab) (cf cf1 : CallF) : Es → Slots → Sto → R (Option Int)
  | .nil, _, st => .ok none st
  | .cons a _, e, st => (ev T cf cf1 a e st).bind optI
def evAnd (T : Tab) (cf cf1 : CallF) : Es → Slots → Sto → R AV
  | .nil, _, st => .ok (.bl true) st
  | .cons a es, e, st => (ev T cf cf1 a e st).bind fun x st => match x with
    | .bl true => evAnd T cf cf1 es e st
    | .bl false => .ok (.bl false) st
    | _ => .no
def evOr (T : Tab) (cf cf1 : CallF) : Es → Slots → Sto → R AV
  | .nil, _, st => .ok (.bl false) st
  | .cons a es, e, st => (ev T cf cf1 a e st).bind fun x st => match x with
    | .bl true => .ok (.bl true) st
    | .bl false => evOr T cf cf1 es e st
    | _ => .no
def evIt (T : Tab) (cf cf1 : CallF) : Iw → Slots → Sto → R Wk
  | .seq a, e, st => (ev T cf cf1 a e st).bind fun v st => wkA (srcA st v) st
  | .rng1 a, e, st => (ev T cf cf1 a e st).bind fun x st => wkA (rngA [x]) st
  | .rng2 a b, e, st => (ev T cf cf1 a e st).bind fun x st => (ev T cf cf1 b e st).bind fun y st => wkA (rngA [x, y]) st
  | .enum a, e, st => (ev T cf cf1 a e st).bind fun v st => wkA (enumA st v) st
  | .items a, e, st => (ev T cf cf1 a e st).bind fun v st => wkA (itemsA st v) st
  | .vals a, e, st => (ev T cf cf1 a e st).bind fun v st => wkA (valsA st v) st
  | .keys a, e, st => (ev T cf cf1 a e st).bind fun v st => wkA (keysA st v) st
  | .rng3 a b c, e, st => (ev T cf cf1 a e st).bind fun x st => (ev T cf cf1 b e st).bind fun y st => (ev T cf cf1 c e st).bind fun z st => wkA (rngC x y z) st
  | .zip a b, e, st => (ev T cf cf1 a e st).bind fun v st => (ev T cf cf1 b e st).bind fun u st => wkA (zipA st v u) st
  | .zipS a b, e, st => (ev T cf cf1 a e st).bind fun v st => (ev T cf cf1 b e st).bind fun u st => wkA (zipSA v u) st
end

/-! ### statements -/
def forL (tg : Tg) (ck : Sto → Bool) (body : Slots → Sto → SR) : List AV → Slots → Sto → SR
  | [], e, st => if ck st = true then .nx e st else .no
  | x :: xs, e, st => if ck st = true then
      match bindT tg x e with
      | none => .no
      | some e => (body e st).bind fun e st => forL tg ck body xs e st
    else .no
def whL (c : Slots → Sto → R AV) (body : Slots → Sto → SR) : Nat → Slots → Sto → SR
  | 0, _, _ => .no
  | n + 1, e, st => (c e st).st e fun v st => match v with
    | .bl true => (body e st).bind fun e st => whL c body n e st
    | .bl false => .nx e st
    | _ => .no
def wfuel : Nat := 4294967296
def setF (T : Tab) (o : AV) (f : Nat) (v : AV) (st : Sto) : Option Sto := match o with
  | .ref n => match st[n]? with
    | some (.ins c fs) => if T.fl c f = true ∧ fs.length < 900 then some (st.set n (.ins c (putA f v fs))) else none
    | _ => none
  | _ => none
def setI (o i v : AV) (st : Sto) : Option Sto := match o with
  | .ref n => match st[n]? with
    | some (.lst xs) => match i with
      | .int i => match L2.ixN xs.length i with
        | some k => some (st.set n (.lst (xs.set k v)))
        | none => none
      | _ => none
    | some (.dK kvs) => match keyK i with
      | some k => if kvs.length < lim then some (st.set n (.dK (putK k v kvs))) else none
      | none => none
    | some (.dT kvs) => match keyT i with
      | some k => if kvs.length < lim then some (st.set n (.dT (putK k v kvs))) else none
      | none => none
    | some (.dN kvs) => match keyN i with
      | some k => if kvs.length < lim then some (st.set n (.dN (putK k v kvs))) else none
      | none => none
    | _ => none
  | _ => none
def SR.of (o : Option Sto) (f : Sto → SR) : SR := match o with
  | some st => f st
  | none => .no
def SR.ofE (o : Option Slots) (f : Slots → SR) : SR := match o with
  | some e => f e
  | none => .no

/-- a dict is locked, unlocked -/
def lockA : AO → Option AO
  | .dK kvs => some (.lkK kvs)
  | .dT kvs => some (.lkT kvs)
  | _ => none
def unlk (n : Nat) (o l : AO) (r : SR) (f : Slots → Sto → SR) : SR := match r with
  | .nx e s => if s[n]? = some l then f e (s.set n o) else .no
  | .rt v s => if s[n]? = some l then .rt v (s.set n o) else .no
  | _ => .no
/-- which dict stands at a place -/
def spotA (r : R AV) (st : Sto) : Option (Nat × AO × AO) := match r with
  | .ok (.ref n) _ => match st[n]? with
    | some o => match lockA o with
      | some l => some (n, o, l)
      | none => none
    | none => none
  | _ => none
def exS (T : Tab) (cf cf1 : CallF) : S → Slots → Sto → SR
  | .done, e, st => .nx e st
  | .asg i a k, e, st => (ev T cf cf1 a e st).st e fun v st => exS T cf cf1 k (e.set i (some v)) st
  | .asgT is a k, e, st => (ev T cf cf1 a e st).st e fun v st => SR.ofE (bindT (.tp is) v e) fun e => exS T cf cf1 k e st
  | .asgL is a k, e, st => (ev T cf cf1 a e st).st e fun v st => SR.ofE (bindL is v e st) fun e => exS T cf cf1 k e st
  | .asgF o f a k, e, st => (ev T cf cf1 a e st).st e fun v st => (ev T cf cf1 o e st).st e fun o st => SR.of (setF T o f v st) fun st => exS T cf cf1 k e st
  | .asgI o i a k, e, st => (ev T cf cf1 a e st).st e fun v st => (ev T cf cf1 o e st).st e fun o st => (ev T cf cf1 i e st).st e fun i st => SR.of (setI o i v st) fun st => exS T cf cf1 k e st
  | .aug i op a k, e, st => match e[i]? with
    | some (some x) => (ev T cf cf1 a e st).st e fun v st => match x, v with
      | .int p, .int q => exS T cf cf1 k (e.set i (some (.int (p + q)))) st
      | _, _ => .no
    | _ => .no
  | .augF o f op a k, e, st => match a with
    | .con (.int q) => (ev T cf cf1 o e st).st e fun o st => (fldA T o f st).st e fun x st => match x with
      | .int p => SR.of (setF T o f (.int (p + q)) st) fun st => exS T cf cf1 k e st
      | _ => .no
    | _ => .no
  | .expr a k, e, st => (ev T cf cf1 a e st).st e fun _ st => exS T cf cf1 k e st
  | .ret a, e, st => (ev T cf cf1 a e st).st e fun v st => .rt v st
  | .retN, _, st => .rt .non st
  | .ite c a b k, e, st => (ev T cf cf1 c e st).st e fun v st => match v with
    | .bl true => (exS T cf cf1 a e st).bind fun e st => exS T cf cf1 k e st
    | .bl false => (exS T cf cf1 b e st).bind fun e st => exS T cf cf1 k e st
    | _ => .no
  | .loop tg it body k, e, st => (evIt T cf cf1 it e st).st e fun w st => (forL tg w.ck (fun e st => exS T cf cf1 body e st) w.xs e st).bind fun e st => exS T cf cf1 k e st
  | .whil c body k, e, st => (whL (fun e st => ev T cf cf1 c e st) (fun e st => exS T cf cf1 body e st) wfuel e st).bind fun e st => exS T cf cf1 k e st
  | .rais c, e, st => .ex c e st
  | .tryx body c i su k, e, st => match exS T cf cf1 body e st with
    | .nx e st => exS T cf cf1 k e st
    | .rt v st => .rt v st
    | .ex c' e st => if T.sub c' c = some true then (exS T cf cf1 su (e.set i (some (.ref st.length))) (st ++ [.exc c'])).noex.bind fun e st => exS T cf cf1 k (e.set i none) st else .no
    | .no => .no
  | .tryn body c su k, e, st => match exS T cf cf1 body e st with
    | .nx e st => exS T cf cf1 k e st
    | .rt v st => .rt v st
    | .ex c' e st => if T.sub c' c = some true then (exS T cf cf1 su e st).noex.bind fun e st => exS T cf cf1 k e st else .no
    | .no => .no
  | .lock a b k, e, st => match spotA (ev T cf cf1 a e st) st with
    | some (n, o, l) => unlk n o l (exS T cf cf1 b e (st.set n l)) fun e st => exS T cf cf1 k e st
    | none => .no
  | .bad, _, _ => .no

def runD (T : Tab) (cf cf1 : CallF) (g : Nat) (xs : List AV) (st : Sto) : R AV := match T.df g with
  | some (np, ns, body) => if xs.length = np then match exS T cf cf1 body (xs.map some ++ List.replicate (ns - np) none) st with
      | .nx _ st => .ok .non st
      | .rt v st => .ok v st
      | .ex c _ st => .ex c st
      | .no => .no
    else .no
  | none => .no
/-- the calls of level n + 1, and those of level n -/
def lev (T : Tab) : Nat → CallF × CallF
  | 0 => (fun _ _ _ => .no, fun _ _ _ => .no)
  | n + 1 => (runD T (lev T n).1 (lev T n).2, (lev T n).1)
def callF (T : Tab) (n : Nat) : CallF := (lev T n).1
end L3

/-! PyM: whether a code of the small machine is what a tree of the program says. -/
namespace L3
open PySem L2

structure MC where
  N : List Str
  nm : Nat → Str
  defs : List (Str × Nat)
  clss : List (Str × Nat)
  kons : List (Str × AV)
  ecls : List (Str × Nat) := []
  rcls : List Nat := []
def glb (sc : Scope) (x : Str) : Bool := (match sc.names.lookup x with | some .globalImplicit => true | _ => false) && !(x == ("__debug__" : Str)) && decide (x ≠ ("__name__" : Str))
def visB (sc : Scope) (x : Str) : Bool := match sc.names.lookup x with
  | some .local => true
  | some .cell => true
  | some .free => true
  | _ => false
def locB (sc : Scope) (x : Str) : Bool := match sc.names.lookup x with
  | some .local => true
  | _ => false
def lcellB (sc : Scope) (x : Str) : Bool := match sc.names.lookup x with
  | some .local => true
  | some .cell => true
  | _ => false
def biS : Bi → Str
  | .len => "len" | .int => "int" | .str => "str" | .list => "list" | .tuple => "tuple" | .abs => "abs" | .all => "all" | .any => "any" | .sorted => "sorted" | .sum => "sum" | .max => "max" | .min => "min" | .range => "range" | .set => "set"
def biOk : Bi → Bool
  | .range => false | .set => false | _ => true
def tyS : Ty → Option Str
  | .bool => some "bool" | .int => some "int" | .str => some "str" | .list => some "list" | .tuple => some "tuple" | .dict => some "dict" | .cls _ => none
def biNames : List Str := ["len", "int", "str", "list", "tuple", "abs", "all", "any", "sorted", "sum", "max", "min", "range", "set", "isinstance", "bool", "dict", "enumerate", "zip"]
def bopO : Bop → Operator
  | .add => .Add | .sub => .Sub | .mul => .Mult | .fdiv => .FloorDiv | .mod => .Mod | .pow => .Pow | .band => .BitAnd | .shr => .RShift
def copO : Cop → CmpOp
  | .eq => .Eq | .ne => .NotEq | .lt => .Lt | .le => .LtE | .gt => .Gt | .ge => .GtE | .isin => .In | .notin => .NotIn | .is => .Is | .isnot => .IsNot
def noStar : Expr → Bool
  | .Starred _ _ => false
  | _ => true
def noSlice : Expr → Bool
  | .Slice _ _ _ _ => false
  | _ => true
def noSuper : Expr → Bool
  | .Call (.Name id _) [] [] _ => decide (id ≠ ("super" : Str))
  | _ => true
def noComp : Expr → Bool
  | .ListComp _ _ _ _ => false
  | .SetComp _ _ _ _ => false
  | .DictComp _ _ _ _ _ => false
  | _ => true
def noTup : Expr → Bool
  | .Tuple _ _ _ => false
  | _ => true
def noSetD : Expr → Bool
  | .Set _ _ _ => false
  | _ => true
def conB : AV → Const → Bool
  | .non, .none => true
  | .bl b, .bool c => b == c
  | .int i, .int j => decide (i = j)
  | .str x, .str y => decide (y = ⟨x.toArray⟩)
  | _, _ => false
def slotB (m : MC) (i : Nat) (x : Str) : Bool := decide (m.N[i]? = some x)
def allN (_ : Str) : Bool := true
def cellN (sc : Scope) (x : Str) : Bool := sc.names.lookup x == some .cell
def locC (c : Str → Bool) (sc : Scope) (x : Str) : Bool := if c x = true then lcellB sc x else locB sc x
def tgB (m : MC) (c : Str → Bool) (sc : Scope) : Tg → Expr → Bool
  | .nm i, e => match e with
    | .Name x _ => slotB m i x && locC c sc x
    | _ => false
  | .tp is, e => match e with
    | .Tuple es _ _ => decide (es.length = is.length) && (es.zip is).all fun p => match p.1 with
      | .Name x _ => slotB m p.2 x && locC c sc x
      | _ => false
    | _ => false
def ownOf (m : MC) (own : List Nat) : List (Str × Nat) := own.map fun i => ((m.N[i]?).getD ⟨#[]⟩, i)

def keyB (p : Option Expr × AV) : Bool := match p.1 with
  | some (.Constant c _ _) => conB p.2 c && (keyK p.2).isSome
  | _ => false
mutual
def matE (m : MC) : E → Scope → Expr → Bool
  | .var i, sc, e => match e with
    | .Name x _ => slotB m i x && visB sc x && !(x == ("__debug__" : Str)) && !(x == ("__classdict__" : Str))
    | _ => false
  | .con v, sc, e => match e with
    | .Constant c _ _ => conB v c
    | _ => false
  | .kon v, sc, e => match e with
    | .Name x _ => glb sc x && decide ((x, v) ∈ m.kons)
    | _ => false
  | .bin op a b, sc, e => match e with
    | .BinOp a' op' b' _ => decide (op' = bopO op) && matE m a sc a' && matE m b sc b'
    | _ => false
  | .neg a, sc, e => match e with
    | .UnaryOp op' a' _ => decide (op' = .USub) && matE m a sc a'
    | _ => false
  | .not a, sc, e => match e with
    | .UnaryOp op' a' _ => decide (op' = .Not) && matE m a sc a'
    | _ => false
  | .and es, sc, e => match e with
    | .BoolOp op' vs _ => decide (op' = .And) && !vs.isEmpty && matEs m es sc vs
    | _ => false
  | .or es, sc, e => match e with
    | .BoolOp op' vs _ => decide (op' = .Or) && !vs.isEmpty && matEs m es sc vs
    | _ => false
  | .cmp op a b, sc, e => match e with
    | .Compare a' [op'] [b'] _ => decide (op' = copO op) && noSetD b' && matE m a sc a' && matE m b sc b'
    | _ => false
  | .chain o1 o2 a b c, sc, e => match e with
    | .Compare a' [p1, p2] [b', c'] _ => decide (p1 = copO o1) && decide (p2 = copO o2) && noSetD c' && matE m a sc a' && matE m b sc b' && matE m c sc c'
    | _ => false
  | .lst es, sc, e => match e with
    | .List vs _ => vs.all noStar && matEs m es sc vs
    | _ => false
  | .tup es, sc, e => match e with
    | .Tuple vs _ _ => vs.all noStar && matEs m es sc vs
    | _ => false
  | .dnew _, _, e => match e with
    | .Dict [] [] _ => true
    | _ => false
  | .dnn, _, e => match e with
    | .Dict [] [] _ => true
    | _ => false
  | .dn1 a b, sc, e => match e with
    | .Dict [some x] [y] _ => matE m a sc x && matE m b sc y
    | _ => false
  | .ddsp ks es, sc, e => match e with
    | .Dict keys vs _ => decide (keys.length = ks.length) && ((keys.zip ks).all keyB) && vs.all noStar && decide (keys.length = vs.length) && !keys.isEmpty && decide (keys.length ≤ 15) && matEs m es sc vs
    | _ => false
  | .call g es, sc, e => match e with
    | .Call (.Name x _) vs [] _ => glb sc x && decide ((x, g) ∈ m.defs) && vs.all noStar && matEs m es sc vs
    | _ => false
  | .mk c es, sc, e => match e with
    | .Call (.Name x _) vs [] _ => glb sc x && decide ((x, c) ∈ m.clss) && vs.all noStar && matEs m es sc vs
    | _ => false
  | .bcall b es, sc, e => match e with
    | .Call (.Name x _) vs [] _ => glb sc x && decide (x = biS b) && biOk b && !vs.isEmpty && vs.all noStar && matEs m es sc vs
    | _ => false
  | .isi t a, sc, e => match e with
    | .Call (.Name x _) [a', .Name y _] [] _ => glb sc x && glb sc y && decide (x = ("isinstance" : Str)) && decide (tyS t = some y) && noStar a' && matE m a sc a'
    | _ => false
  | .isx d a, sc, e => match e with
    | .Call (.Name x _) [a', .Name y _] [] _ => glb sc x && glb sc y && decide (x = ("isinstance" : Str)) && decide ((y, d) ∈ m.ecls) && noStar a' && matE m a sc a'
    | _ => false
  | .meth k o es, sc, e => match e with
    | .Call (.Attribute o' x ap) vs [] cp => decide (x = m.nm k) && (ap.endLine == cp.line) && noSuper o' && vs.all noStar && decide (vs.length < 25) && matE m o sc o' && matEs m es sc vs
    | _ => false
  | .fld o f, sc, e => match e with
    | .Attribute o' x _ => decide (x = m.nm f) && noSuper o' && matE m o sc o'
    | _ => false
  | .idx o i, sc, e => match e with
    | .Subscript o' i' _ => noSlice i' && matE m o sc o' && matE m i sc i'
    | _ => false
  | .sl o lo hi, sc, e => match e with
    | .Subscript o' (.Slice lo' hi' none _) _ => matE m o sc o' && matO m lo sc lo' && matO m hi sc hi'
    | _ => false
  | .lrng a, sc, e => match e with
    | .Call (.Name x _) [.Call (.Name y _) [a'] [] _] [] _ => glb sc x && glb sc y && decide (x = ("list" : Str)) && decide (y = ("range" : Str)) && noStar a' && matE m a sc a'
    | _ => false
  | .sset a, sc, e => match e with
    | .Call (.Name x _) [.Call (.Name y _) [a'] [] _] [] _ => glb sc x && glb sc y && decide (x = ("sorted" : Str)) && decide (y = ("set" : Str)) && noStar a' && matE m a sc a'
    | _ => false
  | .slen a, sc, e => match e with
    | .Call (.Name x _) [.Call (.Name y _) [a'] [] _] [] _ => glb sc x && glb sc y && decide (x = ("len" : Str)) && decide (y = ("set" : Str)) && noStar a' && matE m a sc a'
    | _ => false
  | .stp k a, sc, e => match e with
    | .Subscript o' (.Slice (some (.Constant (.int j) _ _)) none (some (.Constant (.int 2) _ _)) _) _ => decide (j = (k : Int)) && matE m a sc o'
    | _ => false
  | .inrg a b, sc, e => match e with
    | .Compare a' [.In] [.Call (.Name x _) [b'] [] _] _ => glb sc x && decide (x = ("range" : Str)) && noStar b' && matE m a sc a' && matE m b sc b'
    | _ => false
  | .rev a, sc, e => match e with
    | .Subscript o' (.Slice none none (some (.UnaryOp .USub (.Constant (.int 1) _ _) _)) _) _ => matE m a sc o'
    | _ => false
  | .lc own tg it cond elt, sc, e => match e with
    | .ListComp elt' [⟨tg', it', cs', 0⟩] scope _ => blkC m.N sc scope (ownOf m own) && decide (∀ i ∈ tgIds tg, i ∈ own) && noSetD it' && decide (cs'.length ≤ 1) && matI m it sc tg' it' &&
        tgB m (cellN scope) (relS scope sc) tg tg' && matEs m cond (relS scope sc) cs' && matE m elt (relS scope sc) elt'
    | _ => false
  | .bad, _, _ => true
def matEs (m : MC) : Es → Scope → List Expr → Bool
  | .nil, _, vs => match vs with
    | [] => true
    | _ => false
  | .cons a es, sc, vs => match vs with
    | v :: r => matE m a sc v && matEs m es sc r
    | _ => false
def matO (m : MC) : Es → Scope → Option Expr → Bool
  | .nil, _, v => match v with
    | none => true
    | _ => false
  | .cons a es, sc, v => match v with
    | some v => (match es with | .nil => true | _ => false) && matE m a sc v
    | none => false
def matI (m : MC) : Iw → Scope → Expr → Expr → Bool
  | .seq a, sc, _, e => matE m a sc e
  | .rng1 a, sc, _, e => match e with
    | .Call (.Name x _) [a'] [] _ => glb sc x && decide (x = ("range" : Str)) && noStar a' && matE m a sc a'
    | _ => false
  | .rng2 a b, sc, _, e => match e with
    | .Call (.Name x _) [a', b'] [] _ => glb sc x && decide (x = ("range" : Str)) && noStar a' && noStar b' && matE m a sc a' && matE m b sc b'
    | _ => false
  | .enum a, sc, tg, e => match tg with
    | .Tuple _ _ _ => match e with
      | .Call (.Name x _) [a'] [] _ => glb sc x && decide (x = ("enumerate" : Str)) && noStar a' && matE m a sc a'
      | _ => false
    | _ => false
  | .items a, sc, tg, e => match tg with
    | .Tuple _ _ _ => match e with
      | .Call (.Attribute a' x ap) [] [] cp => decide (x = ("items" : Str)) && (ap.endLine == cp.line) && noSuper a' && matE m a sc a'
      | _ => false
    | _ => false
  | .vals a, sc, _, e => match e with
    | .Call (.Attribute a' x ap) [] [] cp => decide (x = ("values" : Str)) && (ap.endLine == cp.line) && noSuper a' && matE m a sc a'
    | _ => false
  | .keys a, sc, _, e => matE m a sc e
  | .rng3 a b c, sc, _, e => match e with
    | .Call (.Name x _) [a', b', c'] [] _ => glb sc x && decide (x = ("range" : Str)) && noStar a' && noStar b' && noStar c' && matE m a sc a' && matE m b sc b' && matE m c sc c'
    | _ => false
  | .zip a b, sc, tg, e => match tg with
    | .Tuple _ _ _ => match e with
      | .Call (.Name x _) [a', b'] [] _ => glb sc x && decide (x = ("zip" : Str)) && noStar a' && noStar b' && matE m a sc a' && matE m b sc b'
      | _ => false
    | _ => false
  | .zipS a b, sc, tg, e => match tg with
    | .Tuple _ _ _ => match e with
      | .Call (.Name x _) [a', b'] [] _ => glb sc x && decide (x = ("zip" : Str)) && noStar a' && noStar b' && matE m a sc a' && matE m b sc b'
      | _ => false
    | _ => false
end

/-! ### statements -/
mutual
/-- what may stand in an except clause -/
def quE : E → Bool
  | .var _ => true
  | .con _ => true
  | .lst es => quEs es
  | .bin _ a b => quE a && quE b
  | .isx _ a => quE a
  | _ => false
def quEs : Es → Bool
  | .nil => true
  | .cons a es => quE a && quEs es
end
def quS : S → Bool
  | .done => true
  | .asg _ a k => quE a && quS k
  | _ => false
/-- whether name = value exchanges its stores (a comprehension right at a local name) -/
def swapB (sc : Scope) (x : Str) (p : Pos) : Expr → Bool
  | .ListComp _ _ scope pos => locB sc x && (p.line == pos.line) && !(scope.names.any fun (n, k) => n == x && (k == .local || k == .cell))
  | _ => false
def matS (m : MC) (sc : Scope) : S → List Stmt → Bool
  | .done, ss => match ss with
    | [] => true
    | _ => false
  | .asg i a k, ss => match ss with
    | .Assign [.Name x _] e _ :: r => slotB m i x && lcellB sc x && matE m a sc e && (noComp e || lcellB sc x) && matS m sc k r
    | _ => false
  | .asgT is a k, ss => match ss with
    | .Assign [.Tuple es tk tp] e _ :: r => tgB m allN sc (.tp is) (.Tuple es tk tp) && noComp e && noTup e && matE m a sc e && matS m sc k r
    | _ => false
  | .asgL is a k, ss => match ss with
    | .Assign [.Tuple es tk tp] e _ :: r => tgB m allN sc (.tp is) (.Tuple es tk tp) && noComp e && noTup e && matE m a sc e && matS m sc k r
    | _ => false
  | .asgF o f a k, ss => match ss with
    | .Assign [.Attribute o' x _] e _ :: r => decide (x = m.nm f) && matE m o sc o' && matE m a sc e && noComp e && matS m sc k r
    | _ => false
  | .asgI o i a k, ss => match ss with
    | .Assign [.Subscript o' i' _] e _ :: r => matE m o sc o' && noSlice i' && matE m i sc i' && matE m a sc e && matS m sc k r
    | _ => false
  | .aug i op a k, ss => match ss with
    | .AugAssign (.Name x _) op' e _ :: r => slotB m i x && lcellB sc x && decide (op' = .Add) && decide (op = .add) && matE m a sc e && matS m sc k r
    | _ => false
  | .augF o f op a k, ss => match ss with
    | .AugAssign (.Attribute o' x _) op' (.Constant c _ _) _ :: r => decide (x = m.nm f) && decide (op' = .Add) && matE m o sc o' && (match a with
      | .con (.int q) => conB (.int q) c
      | _ => false) && matS m sc k r
    | _ => false
  | .expr a k, ss => match ss with
    | .Expr e _ :: r => matE m a sc e && noComp e && matS m sc k r
    | _ => false
  | .ret a, ss => match ss with
    | [.Return (some e) _] => matE m a sc e
    | _ => false
  | .retN, ss => match ss with
    | [.Return none _] => true
    | _ => false
  | .ite c a b k, ss => match ss with
    | .If c' a' b' _ :: r => matE m c sc c' && matS m sc a a' && matS m sc b b' && matS m sc k r
    | _ => false
  | .loop tg it body k, ss => match ss with
    | .For tg' it' b' [] _ :: r => tgB m allN sc tg tg' && matI m it sc tg' it' && noSetD it' && matS m sc body b' && matS m sc k r
    | _ => false
  | .whil c body k, ss => match ss with
    | .While c' b' [] _ :: r => matE m c sc c' && matS m sc body b' && matS m sc k r
    | _ => false
  | .rais c, ss => match ss with
    | [.Raise (some (.Call (.Name x _) [.Constant (.str _) _ _] [] _)) none _] => glb sc x && decide ((x, c) ∈ m.ecls) && decide (c ∈ m.rcls)
    | _ => false
  | .bad, _ => true
  | .lock _ b k, ss => match ss with
    | s :: r => matS m sc b [s] && matS m sc k r
    | _ => false
  | .tryn body c su k, ss => match ss with
    | .Try b' [.ExceptHandler (some (.Name x _)) none s' _] [] [] _ :: r => glb sc x && decide ((x, c) ∈ m.ecls) && decide (c ≠ 999) && !s'.isEmpty && matS m sc body b' && quS su && matS m sc su s' && matS m sc k r
    | _ => false
  | .tryx body c i su k, ss => match ss with
    | .Try b' [.ExceptHandler (some (.Name x _)) (some n) s' _] [] [] _ :: r => glb sc x && decide ((x, c) ∈ m.ecls) && decide (c ≠ 999) && slotB m i n && locB sc n && !s'.isEmpty && matS m sc body b' && quS su && matS m sc su s' && matS m sc k r
    | _ => false
end L3

/-! SndN: dicts whose keys are ((int, int), int), in the hand layer. -/
namespace L3
open PySem PySem.Spec PyProof.Rows L2
def kN (k : KN) : NestedKey := .tup [.tup [.num k.1.1, .num k.1.2], .num k.2]
theorem kN_inj {a b : KN} (h : kN a = kN b) : a = b := by
  obtain ⟨⟨a1, a2⟩, a3⟩ := a
  obtain ⟨⟨b1, b2⟩, b3⟩ := b
  unfold kN at h
  simp only [NestedKey.tup.injEq, List.cons.injEq, NestedKey.num.injEq, and_true] at h
  obtain ⟨⟨h1, h2⟩, h3⟩ := h
  subst h1 h2 h3
  rfl
def hN (k : KN) : Int := reduceHash (Builtin.Tuple.tupleHashOf [reduceHash (Builtin.Tuple.tupleHashOf [hashInt k.1.1, hashInt k.1.2]), hashInt k.2])
theorem hN_eq (w : World) (k : KN) : (kN k).hash w = hN k := by
  unfold kN hN
  simp only [NestedKey.hash, NestedKey.hashes]
def knKind (P : Program) (w : World) : HeapKind P w KN where
  is := fun h k a => (nestedKind P w).is h (kN k) a
  hash := hN
  draws := fun k => (kN k).draws
  room := (nestedKind P w).room
  inj := fun hx hy => kN_inj ((nestedKind P w).inj hx hy)
  keeps := fun x ho hd hs => (nestedKind P w).keeps x ho hd hs
  pyHash := fun {A E s k a Q} hu hk h => (nestedKind P w).pyHash hu hk (by
    have h : Q (hN k) { s with toks := s.toks + (kN k).draws } := h
    rw [← hN_eq w] at h
    exact h)
  eqBool := fun {A E s x y a b Q} hu hx hy h => (nestedKind P w).eqBool hu hx hy (by
    have e : decide (kN x = kN y) = decide (x = y) := by
      by_cases q : x = y
      · rw [decide_eq_true q, decide_eq_true (by rw [q])]
      · rw [decide_eq_false q, decide_eq_false fun z => q (kN_inj z)]
    rw [e]
    exact h)
  quiet := fun hk h => (nestedKind P w).quiet hk h
theorem kn_room {P : Program} {w : World} {A : Around} (hu : A.units + 10 < cLine) : (knKind P w).room A.in1 := by show A.units + 1 + 8 < cLine; omega
/-- the tuple at b is the key -/
def KeyAt (H : Hp) (k : KN) (b : Addr) : Prop := ∃ c, H b = some (.tup [.ref c, .int k.2]) ∧ H c = some (.tup [.int k.1.1, .int k.1.2])
theorem KeyAt.keeps {H H' : Hp} {k : KN} {b : Addr} (h : KeyAt H k b) (ht : ∀ b ys, H b = some (.tup ys) → H' b = some (.tup ys)) : KeyAt H' k b := by
  obtain ⟨c, h1, h2⟩ := h
  exact ⟨c, ht _ _ h1, ht _ _ h2⟩
theorem keyN_of {P : Program} {w : World} {H : Hp} {h : Heap} {k : KN} {b : Addr} (ok : HOk P w H h) (e : KeyAt H k b) : (knKind P w).is h k b := by
  obtain ⟨c, e1, e2⟩ := e
  obtain ⟨_, its, r, o, h1, h2, n, h3⟩ := (show ObjOk P w H h b (.tup [.ref c, .int k.2]) from ok b _ e1)
  obtain ⟨_, its2, r2, o2, g1, g2, n2, g3⟩ := (show ObjOk P w H h c (.tup [.int k.1.1, .int k.1.2]) from ok c _ e2)
  cases r with
  | cons r1 rt =>
    cases rt with
    | cons r3 rt =>
      cases rt
      cases r2 with
      | cons q1 qt =>
        cases qt with
        | cons q3 qt =>
          cases qt
          obtain ⟨t1, rfl⟩ := r3
          obtain ⟨t2, rfl⟩ := q1
          obtain ⟨t3, rfl⟩ := q3
          cases (show _ = Value.ref c from r1)
          exact ⟨.tup h1 h2 h3 (by
            simp only
            exact .cons (.tup g1 g2 g3 (by simp only; exact .cons (.int _ _) (.cons (.int _ _) .nil))) (.cons (.int _ _) .nil)), by simp [kN, NestedKey.depth, NestedKey.depthAll]⟩
abbrev KTn (H : Hp) : List (KN × V) → List (KN × Addr × Value) → Prop := Paired fun p q => p.1 = q.1 ∧ KeyAt H p.1 q.2.1 ∧ RelV p.2 q.2.2
theorem KTn.val {H : Hp} {kvs : List (KN × V)} {xs : List (KN × Addr × Value)} (r : KTn H kvs xs) (k : KN) : RelO (valV kvs k) ((atKey xs k).map (·.2)) := by
  induction r with
  | nil => exact True.intro
  | @cons p q ps qs h t ih =>
    obtain ⟨h1, _, h2⟩ := h
    by_cases e : p.1 = k
    · have e' : q.1 = k := h1.symm.trans e
      have b : atKey (q :: qs) k = some q.2 := by simp [atKey, List.find?_cons, e']
      rw [valV_pos e, b]; exact h2
    · have e' : ¬ q.1 = k := fun z => e (h1.trans z)
      have b : atKey (q :: qs) k = atKey qs k := by simp [atKey, List.find?_cons, e']
      rw [valV_neg e, b]; exact ih
theorem KTn.repl {H : Hp} {kvs : List (KN × V)} {xs : List (KN × Addr × Value)} (r : KTn H kvs xs) (k : KN) {y : V} {u : Value} (ry : RelV y u) :
    KTn H (kvs.map fun kv => if kv.1 = k then (kv.1, y) else kv) (xs.map (putAt k u)) := by
  induction r with
  | nil => exact .nil
  | @cons p q ps qs h t ih =>
    rw [List.map_cons, List.map_cons]
    refine .cons ?_ ih
    obtain ⟨h1, h2, h3⟩ := h
    unfold putAt
    by_cases e : p.1 = k
    · rw [if_pos e, if_pos (h1.symm.trans e)]; exact ⟨h1, h2, ry⟩
    · rw [if_neg e, if_neg (fun z => e (h1.trans z))]; exact ⟨h1, h2, h3⟩
theorem KTn.put {H : Hp} {kvs : List (KN × V)} {xs : List (KN × Addr × Value)} (r : KTn H kvs xs) (k : KN) {b : Addr} {y : V} {u : Value} (hb : KeyAt H k b) (ry : RelV y u) :
    KTn H (L2.putK kvs k y) (storedH xs k b u) := by
  have e : (kvs.any fun kv => decide (kv.1 = k)) = (atKey xs k).isSome := by
    rw [valV_any, (r.val k).isSome_eq, Option.isSome_map]
  unfold L2.putK storedH
  rw [e]
  by_cases q : (atKey xs k).isSome = true
  · rw [if_pos q, if_pos q]; exact r.repl k ry
  · rw [if_neg q, if_neg q]; exact Paired.snoc r ⟨rfl, hb, ry⟩
theorem KTn.keeps {H H' : Hp} {kvs : List (KN × V)} {xs : List (KN × Addr × Value)} (r : KTn H kvs xs) (ht : ∀ b ys, H b = some (.tup ys) → H' b = some (.tup ys)) : KTn H' kvs xs :=
  Paired.mapP r fun _ _ z => ⟨z.1, z.2.1.keeps ht, z.2.2⟩
/-- the object itself -/
def NO (ob : Obj) (p : Addr) : HO := .ext fun h => h.get? p = some ob
theorem no_ok {P : Program} {w : World} {H : Hp} {h : Heap} {ob : Obj} {p : Addr} (e : h.get? p = some ob) : ObjOk P w H h p (NO ob p) := ⟨e, ⟨ob, e⟩, fun h1 h2 e1 k => k _ e1⟩
def entN (x : KN × Addr × Value) : DictEntry := ⟨hN x.1, .ref x.2.1, x.2.2⟩
/-- the dict's object -/
def NOb (H : Hp) (p : Addr) (ob : Obj) (ws : List (KN × V)) : Prop := ws.length ≤ sizeLine ∧ (p == sysModules) = false ∧ ∃ xs es ep, KTn H ws xs ∧ ob.ExactDict ∧ ob.data = .dict es ep ∧ es.toList = xs.map entN ∧ (xs.map (·.1)).Nodup
def NObj (H : Hp) (p : Addr) (ws : List (KN × V)) : Prop := ∃ ob, H p = some (NO ob p) ∧ NOb H p ob ws
theorem NOb.keeps {H H' : Hp} {p : Addr} {ob : Obj} {ws : List (KN × V)} (h : NOb H p ob ws) (ht : ∀ b ys, H b = some (.tup ys) → H' b = some (.tup ys)) : NOb H' p ob ws := by
  obtain ⟨z, hd, xs, es, ep, r, c⟩ := h
  exact ⟨z, hd, xs, es, ep, r.keeps ht, c⟩
theorem NObj.keeps {H H' : Hp} {p : Addr} {ws : List (KN × V)} (h : NObj H p ws) (e : H' p = H p) (ht : ∀ b ys, H b = some (.tup ys) → H' b = some (.tup ys)) : NObj H' p ws := by
  obtain ⟨ob, h1, h2⟩ := h
  exact ⟨ob, e.trans h1, h2.keeps ht⟩
theorem NObj.notup {H : Hp} {p : Addr} {ws : List (KN × V)} (h : NObj H p ws) : ∀ vs, H p ≠ some (.tup vs) := fun vs e => by
  obtain ⟨ob, h1, _⟩ := h
  rw [h1] at e
  exact nomatch (show HO.ext _ = HO.tup vs from Option.some.inj e)
theorem nd_of {P : Program} {w : World} {H : Hp} {h : Heap} {p : Addr} {ws : List (KN × V)} (ok : HOk P w H h) (e : NObj H p ws) : ws.length ≤ sizeLine ∧ (p == sysModules) = false ∧ ∃ xs, KTn H ws xs ∧ h.DictOfH (knKind P w) p xs := by
  obtain ⟨ob, h1, z, hd, xs, es, ep, r, c1, c2, c3, c4⟩ := e
  have hp : h.get? p = some ob := (show ObjOk P w H h p (NO ob p) from ok p _ h1).1
  refine ⟨z, hd, xs, r, ob, es, ep, hp, c1, c2, c3, fun x hx => ?_, c4⟩
  have all : ∀ {l : List (KN × V)} {m : List (KN × Addr × Value)}, KTn H l m → ∀ x ∈ m, (knKind P w).is h x.1 x.2.1 := by
    intro l m q
    induction q with
    | nil => intro x hx; exact nomatch hx
    | @cons p q ps qs hq t ih =>
      intro x hx
      rcases List.mem_cons.mp hx with e | hx
      · subst e
        exact keyN_of ok (by rw [← hq.1]; exact hq.2.1)
      · exact ih x hx
  exact all r x hx
section
variable {X : Cx} {pins : List (Addr × Obj)} {σ : L2.St} {H : Hp} {s : Shared}
/-- d[k] -/
theorem getN {A : Around} {E : Value → Shared → Prop} {a b : Addr} {k : KN} {ws : List (KN × V)} {v : V} {Q : Value → Shared → Prop} (hu : A.units + 10 < cLine) (I : Inv X pins σ H s) (g : NObj H a ws) (hb : KeyAt H k b) (l : valV ws k = some v) (h : ∀ w' s', Inv X pins σ H s' → RelV v w' → Q w' s') :
    wpAny (model X.prog X.w) A (getItem (.ref a) (.ref b)) Q E s := by
  obtain ⟨z, hd, xs, rel, dd⟩ := nd_of I.hok g
  obtain ⟨w', hw, rw'⟩ := RelO.some_of (v := v) (o := (atKey xs k).map (·.2)) (by rw [← l]; exact rel.val k)
  obtain ⟨p, hp, hp2⟩ := Option.map_eq_some_iff.mp hw
  refine wpAny_getItem_heap (kn_room hu) (keyN_of I.hok hb) dd hp ?_
  rw [hp2]
  exact h w' _ (I.tok _) rw'
theorem inN {A : Around} {E : Value → Shared → Prop} {a b : Addr} {k : KN} {ws : List (KN × V)} {Q : Value → Shared → Prop} (hu : A.units + 10 < cLine) (I : Inv X pins σ H s) (g : NObj H a ws) (hb : KeyAt H k b) (h : ∀ s', Inv X pins σ H s' → Q (.bool (valV ws k).isSome) s') :
    wpAny (model X.prog X.w) A (compareOp .In (.ref b) (.ref a)) Q E s := by
  obtain ⟨z, hd, xs, rel, dd⟩ := nd_of I.hok g
  refine wpAny_in_heap (kn_room hu) (keyN_of I.hok hb) hd dd ?_
  have q := (rel.val k).isSome_eq
  rw [Option.isSome_map] at q
  rw [← q]
  exact h _ (I.tok _)
theorem notInN {A : Around} {E : Value → Shared → Prop} {a b : Addr} {k : KN} {ws : List (KN × V)} {Q : Value → Shared → Prop} (hu : A.units + 10 < cLine) (I : Inv X pins σ H s) (g : NObj H a ws) (hb : KeyAt H k b) (h : ∀ s', Inv X pins σ H s' → Q (.bool (!(valV ws k).isSome)) s') :
    wpAny (model X.prog X.w) A (compareOp .NotIn (.ref b) (.ref a)) Q E s := by
  obtain ⟨z, hd, xs, rel, dd⟩ := nd_of I.hok g
  refine wpAny_notIn_heap (kn_room hu) (keyN_of I.hok hb) hd dd ?_
  have q := (rel.val k).isSome_eq
  rw [Option.isSome_map] at q
  rw [← q]
  exact h _ (I.tok _)
theorem setN {A : Around} {E : Value → Shared → Prop} {a b : Addr} {k : KN} {ws : List (KN × V)} {v : V} {r : Value} {Q : Unit → Shared → Prop} (hu : A.units + 10 < cLine) (I : Inv X pins σ H s) (g : NObj H a ws) (hb : KeyAt H k b) (rv : RelV v r) (hl : ws.length < sizeLine)
    (h : ∀ ob s', NOb (upd H a (NO ob a)) a ob (L2.putK ws k v) → Inv X pins σ (upd H a (NO ob a)) s' → Q () s') :
    wpAny (model X.prog X.w) A (setItem (.ref a) (.ref b) r) Q E s := by
  obtain ⟨z, hd, xs, rel, dd⟩ := nd_of I.hok g
  obtain ⟨ob0, e, _⟩ := g
  have hz : xs.length ≤ sizeLine := by rw [← Paired.length rel]; exact z
  have hl' : (L2.putK ws k v).length ≤ sizeLine := by have := length_putK ws k v; omega
  refine wpAny_setItem_heap (hsz := hz) (kn_room hu) (keyN_of I.hok hb) dd fun h' dd' hs => ?_
  obtain ⟨q, es, ep, hq, h2, h3, h4, _, h5⟩ := dd'
  refine h q _ ⟨hl', hd, _, es, ep, (rel.put k hb rv).keeps fun c ys ec => ?_, h2, h3, h4, h5⟩ (d_write (H := H) I (by rw [e]; exact True.intro) hs ⟨q, hq⟩ (no_ok hq))
  rw [upd_ne (ne_of ec e (fun z => nomatch (show HO.tup ys = HO.ext _ from z)))]
  exact ec
/-- {} -/
theorem pe_dnewN {pos : Pos} : PE X (.Dict [] [] pos) fun σ H Q => ∀ (p : Addr) (ob : Obj), H p = none → NOb (upd H p (NO ob p)) p ob [] → Q (.ref p) (upd H p (NO ob p)) := ⟨fun pins s σ H Q I h => by
  refine wpAny_Dict_empty ⟨.ref s.heap.objs.size, _, I.laid (a := s.heap.objs.size) (o := NO { cls := .type "dict", data := .dict #[] } s.heap.objs.size) (t' := s.toks) (fun _ _ q => Heap.get?_push_of_some _ q) (Nat.le_refl _) (no_ok (Heap.get?_push_size _ rfl)), rfl, h _ _ (I.hok.fresh (Nat.le_refl _)) ⟨Nat.zero_le _, ?_, [], #[], 0, .nil, ⟨rfl, rfl, rfl⟩, rfl, rfl, List.nodup_nil⟩⟩
  exact beq_eq_false_iff_ne.mpr (Nat.ne_of_gt I.big)⟩

/-- {k: v} -/
theorem pe_dispN1 {a b : Expr} {ta tb : TE} {pos : Pos} (hu : X.A.units + 10 < cLine) (pa : PE X a ta) (pb : PE X b tb) : PE X (.Dict [some a] [b] pos) fun σ H Q => ∀ (p : Addr) (ob0 : Obj), H p = none → NOb (upd H p (NO ob0 p)) p ob0 [] → ta σ (upd H p (NO ob0 p)) fun x H1 => tb σ H1 fun y H2 => ∃ (k : KN) (c : Addr), x = .ref c ∧ KeyAt H2 k c ∧ NObj H2 p [] ∧ ∀ ob, NOb (upd H2 p (NO ob p)) p ob [(k, y)] → Q (.ref p) (upd H2 p (NO ob p)) := by
  refine ⟨fun pins s σ H Q I q => ?_⟩
  have hn := I.hok.fresh (Nat.le_refl s.heap.objs.size)
  have I1 := I.laid (a := s.heap.objs.size) (o := NO { cls := .type "dict", data := .dict #[] } s.heap.objs.size) (h' := s.heap.push { cls := .type "dict", data := .dict #[] }) (t' := s.toks) (fun _ _ q => Heap.get?_push_of_some _ q) (Nat.le_refl _) (no_ok (Heap.get?_push_size _ rfl))
  have q := q s.heap.objs.size { cls := .type "dict", data := .dict #[] } hn ⟨Nat.zero_le _, beq_eq_false_iff_ne.mpr (Nat.ne_of_gt I.big), [], #[], 0, .nil, ⟨rfl, rfl, rfl⟩, rfl, rfl, List.nodup_nil⟩
  rw [arm_eval_Dict, zip_pairTrees [some a] [b] X.env pos rfl rfl, dictDisplay_pairs (pairTrees [some a] [b] X.env pos) (fun h => by
    have := congrArg List.length h
    rw [pairTrees_length [some a] [b] X.env pos rfl rfl] at this
    cases this) (by rw [pairTrees_length [some a] [b] X.env pos rfl rfl]; simp)]
  refine wpAny_bind (wpAny_standAt (wpAny_bind (wpAny_subDictH (knd := knKind X.prog X.w) (Q := fun d s' => wpAny (model X.prog X.w) X.A (pure (Value.ref d)) (EP X pins σ Q) X.xe s') (by show X.A.units + 8 < cLine; omega) (by rw [pairTrees_length [some a] [b] X.env pos rfl rfl]; simp) ?_)))
  refine thn ((pps_cons (pos := pos) pa pb pps_nil).run pins _ σ _ (fun ps H2 => match ps with
    | [(x, y)] => ∃ (k : KN) (c : Addr), x = .ref c ∧ KeyAt H2 k c ∧ NObj H2 s.heap.objs.size [] ∧ ∀ ob, NOb (upd H2 s.heap.objs.size (NO ob s.heap.objs.size)) s.heap.objs.size ob [(k, y)] → Q (.ref s.heap.objs.size) (upd H2 s.heap.objs.size (NO ob s.heap.objs.size))
    | _ => False) I1 q) fun ws s2 ⟨ps, H2, I2, rel, q2⟩ => ?_
  cases rel with
  | nil => exact q2.elim
  | @cons p0 w0 ps ws h t =>
    cases t with
    | cons _ _ => exact q2.elim
    | nil =>
      obtain ⟨x, y⟩ := p0
      obtain ⟨u, v⟩ := w0
      obtain ⟨k, c, ex, hk, hno, q3⟩ := q2
      obtain ⟨h1, h2⟩ := h
      have ex : x = .ref c := ex
      subst ex
      obtain rfl : u = Value.ref c := h1
      obtain ⟨z, hd, xs, rl, dd⟩ := nd_of I2.hok hno
      cases rl
      refine ⟨[(k, c, v)], ⟨rfl, rfl, keyN_of I2.hok hk, True.intro⟩, dd, fun h' tk dd' hs => wpAny_pure ?_⟩
      obtain ⟨ob, es, ep, hq, g2, g3, g4, _, g5⟩ := dd'
      obtain ⟨ob1, e, _⟩ := hno
      have hk' : KeyAt (upd H2 s.heap.objs.size (NO ob s.heap.objs.size)) k c := hk.keeps fun c ys ec => by
        rw [upd_ne (ne_of ec e (fun z => nomatch (show HO.tup ys = HO.ext _ from z)))]
        exact ec
      exact ⟨.ref s.heap.objs.size, _, d_write I2 (by rw [e]; exact True.intro) hs ⟨ob, hq⟩ (no_ok hq), rfl, q3 ob ⟨(by rw [sizeLine_eq]; simp), hd, _, es, ep, .cons ⟨rfl, hk', h2⟩ .nil, g2, g3, g4, g5⟩⟩

theorem each_ix {α β : Type} {R : α → β → Prop} : ∀ {as : List α} {bs : List β}, as.length = bs.length → (∀ (i : Nat) (a : α) (b : β), as[i]? = some a → bs[i]? = some b → R a b) → PySem.W.EachIs R as bs
  | [], [], _, _ => .nil
  | a :: as, b :: bs, h, k => .cons (k 0 a b rfl rfl) (each_ix (by simpa using h) fun i x y h1 h2 => k (i + 1) x y h1 h2)
  | [], _ :: _, h, _ => by simp at h
  | _ :: _, [], h, _ => by simp at h
theorem each_refs {H : Hp} : ∀ {out : List Value} {ks : List KN}, PySem.W.EachIs (fun u k => ∃ b, u = Value.ref b ∧ KeyAt H k b) out ks → ∃ bs : List Addr, out = bs.map Value.ref ∧ bs.length = ks.length ∧ ∀ (i : Nat) (b : Addr) (k : KN), bs[i]? = some b → ks[i]? = some k → KeyAt H k b
  | _, _, .nil => ⟨[], rfl, rfl, fun i b k h => by simp at h⟩
  | _, _, .cons ⟨b, h1, h2⟩ t => by
    obtain ⟨bs, e, l, h⟩ := each_refs t
    refine ⟨b :: bs, by rw [h1, e]; rfl, by simp [l], fun i c k k1 k2 => ?_⟩
    cases i with
    | zero => cases k1; cases k2; exact h2
    | succ i => exact h i c k k1 k2
theorem vals_refs : ∀ bs : List Addr, Vals (bs.map V.ref) (bs.map Value.ref)
  | [] => .nil
  | b :: bs => .cons rfl (vals_refs bs)
theorem knD_alike (ks : List KN) : PySem.W.AllAlike (ks.map knD) := PySem.W.AllAlike.of fun a b => by simp [knD, PySem.W.alike, PySem.W.alikeAll]
theorem knD_sort (ks : List KN) : PySem.W.Sortable (ks.map knD) := PySem.W.Sortable.tuples fun b => ⟨_, _, rfl⟩
theorem knD_dp {H : Hp} {k : KN} {b : Addr} (h : KeyAt H k b) : Dp X.K H (.ref b) (knD k) := by
  obtain ⟨c, h1, h2⟩ := h
  exact .tup (.inl (.inl h1)) (.cons (.tup (.inl (.inl h2)) (.cons (.int _) (.cons (.int _) .nil))) (.cons (.int _) .nil))
/-- sorted(d) -/
theorem call_sortedN (hcalm : X.calm = true) (hu : X.A.units + 65 < cLine) : CallR X (.builtin "sorted") (fun xs H Q => ∃ (a : Addr) (ws : List (KN × V)), xs = [.ref a] ∧ NObj H a ws ∧
    ∀ (bs : List Addr) (ks : List KN) (p : Addr), ks = (ws.map (·.1)).mergeSort (PySem.W.dataLe false knD) → bs.length = ks.length → (∀ (i : Nat) (b : Addr) (k : KN), bs[i]? = some b → ks[i]? = some k → KeyAt H k b) → H p = none → Q (.ref p) (upd H p (.lst (bs.map V.ref)))) := by
  intro pins s σ H xs us Q I r q
  obtain ⟨a, ws, ex, hd, q⟩ := q
  subst ex
  obtain ⟨u, eu, rx⟩ := vals1 r
  subst eu
  cases rx
  obtain ⟨z, lo, xs, rel, o, es, ep, ho, hc, hdat, hes, his, hn⟩ := nd_of I.hok hd
  have hl : ws.length = xs.length := Paired.length rel
  have hsz : es.size = xs.length := size_of_entries hes
  have h16 : es.size ≤ sizeLine := by omega
  refine Calls.call_function_entry PyProof.Rows.kind_sorted PyProof.Rows.plain_sorted PyProof.Rows.entry_sorted (PyProof.Rows.args_sorted1 _) ?_
  unfold Builtin.«sorted»
  refine wpAny_bind (m := checkCount "sorted" 1 1 _) (wpAny_pure ?_)
  refine wpAny_bind (PySem.W.kdu_collect (A := X.A.in1) (KdlSrc.rawDict (es := es) (ep := ep) lo) (I.ok.hd hcalm) ⟨o, ho, hc, hdat⟩ h16 fun h' tk acc hk hacc => ?_)
  have hal : acc.toList.length = (ws.map (·.1)).length := by rw [Array.length_toList, hacc.1, hsz, List.length_map, hl]
  have e0 : PySem.W.EachIs (fun u k => ∃ b, u = Value.ref b ∧ KeyAt H k b) acc.toList (ws.map (·.1)) := each_ix hal fun i u k h1 h2 => by
    obtain ⟨hi, hu2⟩ := hacc.2 i u (by rw [← Array.getElem?_toList]; exact h1)
    rw [List.getElem?_map] at h2
    obtain ⟨p, hp, rfl⟩ := Option.map_eq_some_iff.mp h2
    have hx : i < xs.length := by omega
    have e1 : es[i]? = some es[i] := Array.getElem?_eq_getElem hi
    have e2 := entry_at hes i
    rw [e1, List.getElem?_eq_getElem hx, Option.map_some] at e2
    have e3 : es[i] = entryOfKey (knKind X.prog X.w) xs[i] := Option.some.inj e2
    obtain ⟨p2, hp2, r1, r2, r3⟩ := L2.DX.pget rel (List.getElem?_eq_getElem hx)
    have : p2 = p := Option.some.inj (hp2.symm.trans hp)
    subst this
    exact ⟨xs[i].2.1, by rw [hu2, e3]; rfl, r2⟩
  have I1 : Inv X pins σ H { s with heap := h', toks := tk } := I.kept hk
  have er : PySem.W.EachIs (fun u k => ∃ as, Reads h' u (knD k) as) acc.toList (ws.map (·.1)) := e0.mono fun u k ⟨b, e1, e2⟩ => by
    subst e1
    exact (knD_dp e2).reads I1 (knD k) (.ref b) (Value.ref b) rfl
  refine wpAny_bind (wpAny_newList ?_ (by rw [hal, List.length_map]; exact z))
  have hoL : (h'.push (seqObj "list" acc.toList.toArray 0)).get? h'.objs.size = some (seqObj "list" acc.toList.toArray 0) := Heap.get?_push_size _ rfl
  have er' : PySem.W.EachIs (fun u k => ∃ as, Reads (PySem.W.sortingHeap (h'.push (seqObj "list" acc.toList.toArray 0)) h'.objs.size acc.toList) u (knD k) as) acc.toList (ws.map (·.1)) := er.mono fun u k ⟨as, r⟩ => ⟨as, PyProof.Rows.Reads.keeps (fun b o q => PySem.W.sortingHeap_old (Nat.ne_of_lt (Heap.lt_size q)) (Heap.get?_push_of_some _ q)) r⟩
  show wpAny _ _ _ _ _ { s with heap := h'.push (seqObj "list" acc.toList.toArray 0), toks := tk }
  refine wpAny_bind (wpAny_holding (wpAny_call_entry PyProof.Rows.slot_list_sort ⟨_, hoL, rfl⟩ PyProof.Rows.entry_list_sort
    (PySem.W.list_sort_vals (s := { s with heap := h'.push (seqObj "list" acc.toList.toArray 0), toks := tk }) (κ := PySem.W.dataKind (PySem.W.sortingHeap (h'.push (seqObj "list" acc.toList.toArray 0)) h'.objs.size acc.toList) ((ws.map (·.1)).map knD)) hoL
      (PySem.W.SortsAt.data (PySem.W.each_map (R := fun v d => ∃ as, Reads (PySem.W.sortingHeap (h'.push (seqObj "list" acc.toList.toArray 0)) h'.objs.size acc.toList) v d as) knD er') (knD_alike _) (knD_sort _) (PySem.W.bound_map fun k _ => ?_)) (by rw [hal, List.length_map]; exact z) ⟨_, rfl, ?_⟩) (PyProof.Rows.args_list_sort _)))
  · show X.A.units + 1 + 1 + (knD k).depth < cLine
    have : (knD k).depth ≤ 2 := by simp [knD, PyData.depth, PyData.depthAll]
    omega
  have eo := PySem.W.sortVals_data (R := fun u k => ∃ b, u = Value.ref b ∧ KeyAt H k b) false e0 er' (knD_alike _)
  obtain ⟨bs, e1, e2, e3⟩ := each_refs eo
  have hlen : (bs.map V.ref).length ≤ sizeLine := by
    rw [List.length_map, e2, List.length_mergeSort, List.length_map]
    exact z
  rw [e1]
  obtain ⟨e', he'⟩ := PyProof.Rows.sortedHeap_at (vs := acc.toList) (out := (bs.map Value.ref).toArray) hoL
  refine wpAny_pure ⟨_, rfl, .ref h'.objs.size, upd H h'.objs.size (.lst (bs.map V.ref)), I1.laid (t' := tk) (fun b u e => ?_) (Nat.le_refl _)
    (show ObjOk X.prog X.w _ _ _ (.lst (bs.map V.ref)) from ⟨hlen, bs.map Value.ref, e', vals_refs bs, he'⟩), rfl, q bs _ _ rfl e2 e3 (I1.hok.fresh (Nat.le_refl _))⟩
  have hb : b < h'.objs.size := Heap.lt_size e
  rw [PyProof.Rows.sortedHeap_old (Nat.ne_of_lt hb) (by rw [size_push']; exact Nat.lt_succ_of_lt hb)]
  exact Heap.get?_push_of_some _ e
theorem dp_keys {K : PySem.W.Frag} : ∀ ks : List Key, DpAll K H (ks.map kV) (ks.map kD)
  | [] => .nil
  | .inl i :: ks => .cons (.int i) (dp_keys ks)
  | .inr x :: ks => .cons (.str x) (dp_keys ks)
theorem depth_keys : ∀ ks : List Key, PyData.depthAll (ks.map kD) ≤ 1
  | [] => by simp [PyData.depthAll]
  | .inl i :: ks => by have := depth_keys ks; simp [PyData.depthAll, PyData.depth, kD]; omega
  | .inr x :: ks => by have := depth_keys ks; simp [PyData.depthAll, PyData.depth, kD]; omega
theorem each_refsT {H : Hp} : ∀ {out : List Value} {ks : List (List Key)}, PySem.W.EachIs (fun u k => ∃ b, u = Value.ref b ∧ H b = some (.tup (k.map kV))) out ks → ∃ bs : List Addr, out = bs.map Value.ref ∧ bs.length = ks.length ∧ ∀ (i : Nat) (b : Addr) (k : List Key), bs[i]? = some b → ks[i]? = some k → H b = some (.tup (k.map kV))
  | _, _, .nil => ⟨[], rfl, rfl, fun i b k h => by simp at h⟩
  | _, _, .cons ⟨b, h1, h2⟩ t => by
    obtain ⟨bs, e, l, h⟩ := each_refsT t
    refine ⟨b :: bs, by rw [h1, e]; rfl, by simp [l], fun i c k k1 k2 => ?_⟩
    cases i with
    | zero => cases k1; cases k2; exact h2
    | succ i => exact h i c k k1 k2
/-- sorted(d) of a dict with tuple keys -/
theorem call_sortedT (hcalm : X.calm = true) (hu : X.A.units + 65 < cLine) : CallR X (.builtin "sorted") (fun xs H Q => ∃ (a : Addr) (ws : List (List Key × V)), xs = [.ref a] ∧ H a = some (.dT ws) ∧ PySem.W.AllAlike ((ws.map (·.1)).map tkD) ∧ PySem.W.Sortable ((ws.map (·.1)).map tkD) ∧
    ∀ (bs : List Addr) (ks : List (List Key)) (p : Addr), ks = (ws.map (·.1)).mergeSort (PySem.W.dataLe false tkD) → bs.length = ks.length → (∀ (i : Nat) (b : Addr) (k : List Key), bs[i]? = some b → ks[i]? = some k → H b = some (.tup (k.map kV))) → H p = none → Q (.ref p) (upd H p (.lst (bs.map V.ref)))) := by
  intro pins s σ H xs us Q I r q
  obtain ⟨a, ws, ex, hd, hal0, hso, q⟩ := q
  subst ex
  obtain ⟨u, eu, rx⟩ := vals1 r
  subst eu
  cases rx
  obtain ⟨z, lo, xs, rel, o, es, ep, ho, hc, hdat, hes, his, hn⟩ := dt_of I.hok hd
  have hl : ws.length = xs.length := Paired.length rel
  have hsz : es.size = xs.length := size_of_entries hes
  have h16 : es.size ≤ sizeLine := by omega
  refine Calls.call_function_entry PyProof.Rows.kind_sorted PyProof.Rows.plain_sorted PyProof.Rows.entry_sorted (PyProof.Rows.args_sorted1 _) ?_
  unfold Builtin.«sorted»
  refine wpAny_bind (m := checkCount "sorted" 1 1 _) (wpAny_pure ?_)
  refine wpAny_bind (PySem.W.kdu_collect (A := X.A.in1) (KdlSrc.rawDict (es := es) (ep := ep) lo) (I.ok.hd hcalm) ⟨o, ho, hc, hdat⟩ h16 fun h' tk acc hk hacc => ?_)
  have hal : acc.toList.length = (ws.map (·.1)).length := by rw [Array.length_toList, hacc.1, hsz, List.length_map, hl]
  have e0 : PySem.W.EachIs (fun u k => ∃ b, u = Value.ref b ∧ H b = some (.tup (k.map kV))) acc.toList (ws.map (·.1)) := each_ix hal fun i u k h1 h2 => by
    obtain ⟨hi, hu2⟩ := hacc.2 i u (by rw [← Array.getElem?_toList]; exact h1)
    rw [List.getElem?_map] at h2
    obtain ⟨p, hp, rfl⟩ := Option.map_eq_some_iff.mp h2
    have hx : i < xs.length := by omega
    have e1 : es[i]? = some es[i] := Array.getElem?_eq_getElem hi
    have e2 := entry_at hes i
    rw [e1, List.getElem?_eq_getElem hx, Option.map_some] at e2
    have e3 : es[i] = entryOfKey (tupleKind (mixKind X.prog X.w)) xs[i] := Option.some.inj e2
    obtain ⟨p2, hp2, r1, r2, r3⟩ := L2.DX.pget rel (List.getElem?_eq_getElem hx)
    have : p2 = p := Option.some.inj (hp2.symm.trans hp)
    subst this
    exact ⟨xs[i].2.1, by rw [hu2, e3]; rfl, r2⟩
  have I1 : Inv X pins σ H { s with heap := h', toks := tk } := I.kept hk
  have er : PySem.W.EachIs (fun u k => ∃ as, Reads h' u (tkD k) as) acc.toList (ws.map (·.1)) := e0.mono fun u k ⟨b, e1, e2⟩ => by
    subst e1
    exact (Dp.tup (.inl (.inl e2)) (dp_keys k)).reads I1 (tkD k) (.ref b) (Value.ref b) rfl
  refine wpAny_bind (wpAny_newList ?_ (by rw [hal, List.length_map]; exact z))
  have hoL : (h'.push (seqObj "list" acc.toList.toArray 0)).get? h'.objs.size = some (seqObj "list" acc.toList.toArray 0) := Heap.get?_push_size _ rfl
  have er' : PySem.W.EachIs (fun u k => ∃ as, Reads (PySem.W.sortingHeap (h'.push (seqObj "list" acc.toList.toArray 0)) h'.objs.size acc.toList) u (tkD k) as) acc.toList (ws.map (·.1)) := er.mono fun u k ⟨as, r⟩ => ⟨as, PyProof.Rows.Reads.keeps (fun b o q => PySem.W.sortingHeap_old (Nat.ne_of_lt (Heap.lt_size q)) (Heap.get?_push_of_some _ q)) r⟩
  show wpAny _ _ _ _ _ { s with heap := h'.push (seqObj "list" acc.toList.toArray 0), toks := tk }
  refine wpAny_bind (wpAny_holding (wpAny_call_entry PyProof.Rows.slot_list_sort ⟨_, hoL, rfl⟩ PyProof.Rows.entry_list_sort
    (PySem.W.list_sort_vals (s := { s with heap := h'.push (seqObj "list" acc.toList.toArray 0), toks := tk }) (κ := PySem.W.dataKind (PySem.W.sortingHeap (h'.push (seqObj "list" acc.toList.toArray 0)) h'.objs.size acc.toList) ((ws.map (·.1)).map tkD)) hoL
      (PySem.W.SortsAt.data (PySem.W.each_map (R := fun v d => ∃ as, Reads (PySem.W.sortingHeap (h'.push (seqObj "list" acc.toList.toArray 0)) h'.objs.size acc.toList) v d as) tkD er') hal0 hso (PySem.W.bound_map fun k _ => ?_)) (by rw [hal, List.length_map]; exact z) ⟨_, rfl, ?_⟩) (PyProof.Rows.args_list_sort _)))
  · show X.A.units + 1 + 1 + (tkD k).depth < cLine
    have : (tkD k).depth ≤ 2 := by
      have := depth_keys k
      unfold tkD
      simp only [PyData.depth]
      omega
    omega
  have eo := PySem.W.sortVals_data (R := fun u k => ∃ b, u = Value.ref b ∧ H b = some (.tup (k.map kV))) false e0 er' hal0
  obtain ⟨bs, e1, e2, e3⟩ := each_refsT eo
  have hlen : (bs.map V.ref).length ≤ sizeLine := by
    rw [List.length_map, e2, List.length_mergeSort, List.length_map]
    exact z
  rw [e1]
  obtain ⟨e', he'⟩ := PyProof.Rows.sortedHeap_at (vs := acc.toList) (out := (bs.map Value.ref).toArray) hoL
  refine wpAny_pure ⟨_, rfl, .ref h'.objs.size, upd H h'.objs.size (.lst (bs.map V.ref)), I1.laid (t' := tk) (fun b u e => ?_) (Nat.le_refl _)
    (show ObjOk X.prog X.w _ _ _ (.lst (bs.map V.ref)) from ⟨hlen, bs.map Value.ref, e', vals_refs bs, he'⟩), rfl, q bs _ _ rfl e2 e3 (I1.hok.fresh (Nat.le_refl _))⟩
  have hb : b < h'.objs.size := Heap.lt_size e
  rw [PyProof.Rows.sortedHeap_old (Nat.ne_of_lt hb) (by rw [size_push']; exact Nat.lt_succ_of_lt hb)]
  exact Heap.get?_push_of_some _ e
end
end L3

/-! Snd1: how the machine's store lies in the model's heap; readings by the machine. -/
namespace L3
open PySem PySem.Spec PyProof.Rows L2

/-- an error of a class, of which its heap tells -/
def ExK (cls : Value) (a : Addr) : HO := .ext fun h => ∃ (oe : Obj) (vs : Array Value), h.get? a = some oe ∧ Zc cls none oe ∧ oe.data = .fields vs
/-- the ground -/
structure G where
  P : Program
  w : World
  K : PySem.W.Frag
  mg : Str → Option Value
  base : Heap
  T : Tab
  clsA : Nat → Addr
  nm : Nat → Str
  nmInj : ∀ a b, nm a = nm b → a = b

abbrev T8 (x : List Nat) : Str := ⟨x.toArray⟩
abbrev Al := Nat → Option Addr
/-- a list that is read alone -/
def SqR (K : PySem.W.Frag) (H : Hp) (a : Addr) (xs : List V) : Prop :=
  (∃ o, H a = some (.frz o (.lst xs))) ∨
    ∃ (o : Obj) (its : Array Value) (n : Nat), K.lookup a = some o ∧ o.cls = .type "list" ∧ o.dict = none ∧ o.data = .seq its n ∧ its.size ≤ sizeLine ∧ Vals xs its.toList
theorem SqR.sq {K : PySem.W.Frag} {H : Hp} {a : Addr} {xs : List V} (h : SqR K H a xs) : SqL K H a xs := by
  rcases h with h | h
  · exact .inl (.inr h)
  · exact .inr h
section
variable (K : PySem.W.Frag) (H : Hp) (al : Al)
mutual
/-- a thing and the model's value -/
def RV : AV → V → Prop
  | .non, v => v = .non
  | .bl b, v => v = .bl b
  | .int i, v => v = .int i
  | .str x, v => v = .str (T8 x)
  | .tup xs, v => ∃ p ws, v = .ref p ∧ H p = some (.tup ws) ∧ RVs xs ws
  | .ref n, v => ∃ p, al n = some p ∧ v = .ref p
  | .rol xs, v => ∃ p, v = .ref p ∧ SqR K H p (xs.map .int)
def RVs : List AV → List V → Prop
  | [], ws => ws = []
  | x :: xs, ws => ∃ w r, ws = w :: r ∧ RV x w ∧ RVs xs r
end
end
def RP {κ : Type} (K : PySem.W.Frag) (H : Hp) (al : Al) : List (κ × AV) → List (κ × V) → Prop
  | [], ws => ws = []
  | x :: xs, ws => ∃ w r, ws = (x.1, w) :: r ∧ RV K H al x.2 w ∧ RP K H al xs r
def RF (g : G) (H : Hp) (al : Al) : List (Nat × AV) → List (Str × V) → Prop
  | [], ws => ws = []
  | x :: xs, ws => ∃ w r, ws = (g.nm x.1, w) :: r ∧ RV g.K H al x.2 w ∧ RF g H al xs r
/-- an object and the model's -/
def RO (g : G) (H : Hp) (al : Al) (p : Addr) : AO → Prop
  | .lst xs => ∃ ws, H p = some (.lst ws) ∧ RVs g.K H al xs ws
  | .dK kvs => ∃ ws, H p = some (.dK ws) ∧ RP g.K H al kvs ws
  | .dT kvs => ∃ ws, H p = some (.dT ws) ∧ RP g.K H al kvs ws
  | .ins c fs => ∃ dx ws, H p = some (.ins (g.clsA c) dx ws) ∧ RF g H al fs ws
  | .exc c => H p = some (ExK (.ref (g.clsA c)) p)
  | .lkK kvs => ∃ o ws, H p = some (.frz o (.dK ws)) ∧ RP g.K H al kvs ws
  | .lkT kvs => ∃ o ws, H p = some (.frz o (.dT ws)) ∧ RP g.K H al kvs ws
  | .dN kvs => ∃ ws, NObj H p ws ∧ RP g.K H al kvs ws
structure Rel (g : G) (al : Al) (st : Sto) (H : Hp) : Prop where
  inj : ∀ m n p, al m = some p → al n = some p → m = n
  dom : ∀ n p, al n = some p → n < st.length
  obj : ∀ (n : Nat) (o : AO), st[n]? = some o → ∃ p, al n = some p ∧ RO g H al p o
/-- from one state on to a later one -/
structure Stp (al : Al) (H : Hp) (al' : Al) (H' : Hp) : Prop where
  up : ∀ n p, al n = some p → al' n = some p
  fr : ∀ p o, H p = some o → (∀ n, al n ≠ some p) → H' p = some o
  nw : ∀ n p, al' n = some p → al n = some p ∨ H p = none
  kp : ∀ p, H p ≠ none → H' p ≠ none
  lk : ∀ p o u, H p = some (.frz o u) → H' p = some (.frz o u)
theorem Stp.refl (al : Al) (H : Hp) : Stp al H al H := ⟨fun _ _ h => h, fun _ _ h _ => h, fun _ _ h => .inl h, fun _ h => h, fun _ _ _ h => h⟩
theorem Stp.trans {a b c : Al} {H1 H2 H3 : Hp} (s : Stp a H1 b H2) (t : Stp b H2 c H3) : Stp a H1 c H3 where
  up n p h := t.up n p (s.up n p h)
  fr p o h hn := t.fr p o (s.fr p o h hn) fun n e => by
    rcases s.nw n p e with q | q
    · exact hn n q
    · rw [h] at q; cases q
  nw n p h := by
    rcases t.nw n p h with q | q
    · exact s.nw n p q
    · by_cases z : H1 p = none
      · exact .inr z
      · exact absurd q (s.kp p z)
  kp p h := t.kp p (s.kp p h)
  lk p o u h := t.lk p o u (s.lk p o u h)

section
variable {g : G} {al al' : Al} {H H' : Hp} {st : Sto}
/-- the tracked objects of the store are no tuples -/
def NoTup (al : Al) (H : Hp) : Prop := ∀ n p, al n = some p → (∀ ws, H p ≠ some (.tup ws)) ∧ True
theorem RO.notup {p : Addr} {o : AO} (r : RO g H al p o) : (∀ ws, H p ≠ some (.tup ws)) ∧ True := by
  cases o with
  | lst xs =>
    obtain ⟨us, e, _⟩ := r
    exact ⟨fun ws h => (by rw [e] at h; cases h), trivial⟩
  | dK xs =>
    obtain ⟨us, e, _⟩ := r
    exact ⟨fun ws h => (by rw [e] at h; cases h), trivial⟩
  | dT xs =>
    obtain ⟨us, e, _⟩ := r
    exact ⟨fun ws h => (by rw [e] at h; cases h), trivial⟩
  | ins c fs =>
    obtain ⟨dx, us, e, _⟩ := r
    exact ⟨fun ws h => (by rw [e] at h; cases h), trivial⟩
  | exc c => exact ⟨fun ws h => (by rw [show H _ = _ from r] at h; cases h), trivial⟩
  | lkK xs =>
    obtain ⟨o, us, e, _⟩ := r
    exact ⟨fun ws h => (by rw [e] at h; cases h), trivial⟩
  | lkT xs =>
    obtain ⟨o, us, e, _⟩ := r
    exact ⟨fun ws h => (by rw [e] at h; cases h), trivial⟩
  | dN xs =>
    obtain ⟨us, e, _⟩ := r
    exact ⟨e.notup, trivial⟩
theorem Rel.notup (r : Rel g al st H) : NoTup al H := fun n p e => by
  have hn := r.dom n p e
  obtain ⟨q, e2, ro⟩ := r.obj n _ (List.getElem?_eq_getElem hn)
  rw [e] at e2; cases e2
  exact ro.notup
theorem tup_step {p : Addr} {ws : List V} (nt : NoTup al H) (s : Stp al H al' H') (h : H p = some (.tup ws)) : H' p = some (.tup ws) := s.fr _ _ h fun n e => (nt n p e).1 _ h
theorem sqr_step {K : PySem.W.Frag} {p : Addr} {ws : List V} (nt : NoTup al H) (s : Stp al H al' H') (h : SqR K H p ws) : SqR K H' p ws := by
  rcases h with ⟨o, h⟩ | h
  · exact .inl ⟨o, s.lk _ _ _ h⟩
  · exact .inr h
mutual
theorem RV.step {K : PySem.W.Frag} (nt : NoTup al H) (s : Stp al H al' H') : ∀ (v : AV) (w : V), RV K H al v w → RV K H' al' v w
  | .non, _, h => h
  | .bl _, _, h => h
  | .int _, _, h => h
  | .str _, _, h => h
  | .tup xs, _, ⟨p, ws, e, q, r⟩ => ⟨p, ws, e, tup_step nt s q, RVs.step nt s xs ws r⟩
  | .ref n, _, ⟨p, e, q⟩ => ⟨p, s.up n p e, q⟩
  | .rol xs, _, ⟨p, e, q⟩ => ⟨p, e, sqr_step nt s q⟩
theorem RVs.step {K : PySem.W.Frag} (nt : NoTup al H) (s : Stp al H al' H') : ∀ (v : List AV) (w : List V), RVs K H al v w → RVs K H' al' v w
  | [], _, h => h
  | x :: xs, _, ⟨w, r, e, h1, h2⟩ => ⟨w, r, e, RV.step nt s x w h1, RVs.step nt s xs r h2⟩
end
theorem RP.step {κ : Type} {K : PySem.W.Frag} (nt : NoTup al H) (s : Stp al H al' H') : ∀ (v : List (κ × AV)) (w : List (κ × V)), RP K H al v w → RP K H' al' v w
  | [], _, h => h
  | x :: xs, _, ⟨w, r, e, h1, h2⟩ => ⟨w, r, e, RV.step nt s x.2 w h1, RP.step nt s xs r h2⟩
theorem RF.step (nt : NoTup al H) (s : Stp al H al' H') : ∀ (v : List (Nat × AV)) (w : List (Str × V)), RF g H al v w → RF g H' al' v w
  | [], _, h => h
  | x :: xs, _, ⟨w, r, e, h1, h2⟩ => ⟨w, r, e, RV.step nt s x.2 w h1, RF.step nt s xs r h2⟩
theorem RVs.length {K : PySem.W.Frag} : ∀ {v : List AV} {w : List V}, RVs K H al v w → v.length = w.length
  | [], _, h => by
    have h' : _ = [] := h
    rw [h']; rfl
  | x :: xs, _, ⟨w, r, e, h1, h2⟩ => by
    rw [e, List.length_cons, List.length_cons, RVs.length h2]
theorem RVs.get {K : PySem.W.Frag} : ∀ {v : List AV} {w : List V} {i : Nat} {x : AV}, RVs K H al v w → v[i]? = some x → ∃ y, w[i]? = some y ∧ RV K H al x y
  | [], _, i, x, h, e => by simp at e
  | y :: ys, _, 0, x, ⟨w, r, e, h1, h2⟩, q => by
    simp at q
    subst q e
    exact ⟨w, rfl, h1⟩
  | y :: ys, _, i + 1, x, ⟨w, r, e, h1, h2⟩, q => by
    subst e
    obtain ⟨z, h3, h4⟩ := RVs.get (i := i) (x := x) h2 (by simpa using q)
    exact ⟨z, by simpa using h3, h4⟩
theorem RVs.append {K : PySem.W.Frag} : ∀ {v : List AV} {w : List V} {v2 : List AV} {w2 : List V}, RVs K H al v w → RVs K H al v2 w2 → RVs K H al (v ++ v2) (w ++ w2)
  | [], _, _, _, h, h2 => by
    have h' : _ = [] := h
    rw [h']; exact h2
  | x :: xs, _, _, _, ⟨w, r, e, h1, h2⟩, h3 => by
    subst e
    exact ⟨w, _, rfl, h1, RVs.append h2 h3⟩
theorem RVs.take {K : PySem.W.Frag} : ∀ (n : Nat) {v : List AV} {w : List V}, RVs K H al v w → RVs K H al (v.take n) (w.take n)
  | 0, _, _, _ => rfl
  | n + 1, [], _, h => by
    have h' : _ = [] := h
    rw [h']; rfl
  | n + 1, x :: xs, _, ⟨w, r, e, h1, h2⟩ => by
    subst e
    exact ⟨w, _, rfl, h1, RVs.take n h2⟩
theorem RVs.drop {K : PySem.W.Frag} : ∀ (n : Nat) {v : List AV} {w : List V}, RVs K H al v w → RVs K H al (v.drop n) (w.drop n)
  | 0, _, _, h => h
  | n + 1, [], _, h => by
    have h' : _ = [] := h
    rw [h']; rfl
  | n + 1, x :: xs, _, ⟨w, r, e, h1, h2⟩ => by
    subst e
    exact RVs.drop n h2
theorem RVs.one {K : PySem.W.Frag} {v : AV} {w : V} (h : RV K H al v w) : RVs K H al [v] [w] := ⟨w, [], rfl, h, rfl⟩
theorem RVs.setAt {K : PySem.W.Frag} {x : AV} {y : V} (r : RV K H al x y) : ∀ (i : Nat) {v : List AV} {w : List V}, RVs K H al v w → RVs K H al (v.set i x) (w.set i y)
  | _, [], _, h => by
    have h' : _ = [] := h
    rw [h']; rfl
  | 0, _ :: _, _, ⟨w, q, e, h1, h2⟩ => by
    subst e
    exact ⟨y, q, rfl, r, h2⟩
  | i + 1, z :: xs, _, ⟨w, q, e, h1, h2⟩ => by
    subst e
    exact ⟨w, _, rfl, h1, RVs.setAt r i h2⟩
theorem RVs.eraseAt {K : PySem.W.Frag} : ∀ (i : Nat) {v : List AV} {w : List V}, RVs K H al v w → RVs K H al (v.eraseIdx i) (w.eraseIdx i)
  | _, [], _, h => by
    have h' : _ = [] := h
    rw [h']; rfl
  | 0, _ :: _, _, ⟨w, q, e, h1, h2⟩ => by
    subst e
    exact h2
  | i + 1, z :: xs, _, ⟨w, q, e, h1, h2⟩ => by
    subst e
    exact ⟨w, _, rfl, h1, RVs.eraseAt i h2⟩
theorem RVs.rev {K : PySem.W.Frag} : ∀ {v : List AV} {w : List V}, RVs K H al v w → RVs K H al v.reverse w.reverse
  | [], _, h => by
    have h' : _ = [] := h
    rw [h']; rfl
  | z :: xs, _, ⟨w, q, e, h1, h2⟩ => by
    subst e
    rw [List.reverse_cons, List.reverse_cons]
    exact RVs.append (RVs.rev h2) (RVs.one h1)
theorem RVs.rep {K : PySem.W.Frag} {v : List AV} {w : List V} (h : RVs K H al v w) : ∀ n : Nat, RVs K H al (List.replicate n v).flatten (List.replicate n w).flatten
  | 0 => rfl
  | n + 1 => by
    rw [List.replicate_succ, List.replicate_succ, List.flatten_cons, List.flatten_cons]
    exact RVs.append h (RVs.rep h n)
theorem RO.step {p : Addr} {o : AO} (nt : NoTup al H) (s : Stp al H al' H') (e : H' p = H p) (r : RO g H al p o) : RO g H' al' p o := by
  cases o with
  | lst xs =>
    obtain ⟨ws, h, q⟩ := r
    exact ⟨ws, e.trans h, RVs.step nt s _ _ q⟩
  | dK xs =>
    obtain ⟨ws, h, q⟩ := r
    exact ⟨ws, e.trans h, RP.step nt s _ _ q⟩
  | dT xs =>
    obtain ⟨ws, h, q⟩ := r
    exact ⟨ws, e.trans h, RP.step nt s _ _ q⟩
  | ins c fs =>
    obtain ⟨dx, ws, h, q⟩ := r
    exact ⟨dx, ws, e.trans h, RF.step nt s _ _ q⟩
  | exc c => exact e.trans r
  | lkK kvs =>
    obtain ⟨o, ws, h, q⟩ := r
    exact ⟨o, ws, e.trans h, RP.step nt s _ _ q⟩
  | lkT kvs =>
    obtain ⟨o, ws, h, q⟩ := r
    exact ⟨o, ws, e.trans h, RP.step nt s _ _ q⟩
  | dN kvs =>
    obtain ⟨ws, h, q⟩ := r
    exact ⟨ws, h.keeps e fun b ys hb => tup_step nt s hb, RP.step nt s _ _ q⟩

/-- a new object of the store -/
def alUp (al : Al) (n : Nat) (p : Addr) : Al := fun m => if m = n then some p else al m
theorem stp_new {st : Sto} {p : Addr} {o : HO} (r : Rel g al st H) (hp : H p = none) (hq : ∀ n, al n ≠ some p) : Stp al H (alUp al st.length p) (upd H p o) where
  up n q h := by
    unfold alUp
    rw [if_neg (Nat.ne_of_lt (r.dom n q h))]
    exact h
  fr q o' h hn := by
    rw [upd_ne (ne_of_none h hp)]
    exact h
  nw n q h := by
    unfold alUp at h
    by_cases z : n = st.length
    · rw [if_pos z] at h; cases h; exact .inr hp
    · rw [if_neg z] at h; exact .inl h
  kp q h := by
    by_cases z : q = p
    · rw [z, upd_same]; intro e; cases e
    · rw [upd_ne z]; exact h
  lk q o' u h := by
    rw [upd_ne (ne_of_none h hp)]
    exact h
theorem rel_new {st : Sto} {p : Addr} {o : HO} {ao : AO} (r : Rel g al st H) (hp : H p = none) (hq : ∀ n, al n ≠ some p)
    (hr : RO g (upd H p o) (alUp al st.length p) p ao) : Rel g (alUp al st.length p) (st ++ [ao]) (upd H p o) where
  inj m n q h1 h2 := by
    unfold alUp at h1 h2
    by_cases z1 : m = st.length
    · rw [if_pos z1] at h1
      by_cases z2 : n = st.length
      · rw [z1, z2]
      · rw [if_neg z2] at h2
        cases h1
        exact absurd h2 (hq n)
    · rw [if_neg z1] at h1
      by_cases z2 : n = st.length
      · rw [if_pos z2] at h2
        cases h2
        exact absurd h1 (hq m)
      · rw [if_neg z2] at h2
        exact r.inj m n q h1 h2
  dom n q h := by
    rw [List.length_append]
    unfold alUp at h
    by_cases z : n = st.length
    · rw [z]; exact Nat.lt_succ_self _
    · rw [if_neg z] at h
      exact Nat.lt_succ_of_lt (r.dom n q h)
  obj n o' h := by
    by_cases z : n < st.length
    · rw [List.getElem?_append_left z] at h
      obtain ⟨q, e, ro⟩ := r.obj n o' h
      have s := stp_new (o := o) r hp hq
      have hqp : q ≠ p := fun z => hq n (by rw [e, z])
      exact ⟨q, s.up n q e, ro.step r.notup s (upd_ne hqp)⟩
    · have e : n = st.length := by
        have := (List.getElem?_eq_some_iff.mp h).1
        rw [List.length_append] at this
        have h1 : [ao].length = 1 := rfl
        omega
      rw [e, List.getElem?_append_right (Nat.le_refl _), Nat.sub_self] at h
      have h' : ao = o' := Option.some.inj h
      subst h'
      exact ⟨p, by unfold alUp; rw [if_pos e], hr⟩
/-- a free address is none of the store's -/
theorem Rel.free {p : Addr} (r : Rel g al st H) (hp : H p = none) : ∀ n, al n ≠ some p := fun n e => by
  have hn := r.dom n p e
  obtain ⟨q, e2, ro⟩ := r.obj n _ (List.getElem?_eq_getElem hn)
  rw [e] at e2; cases e2
  generalize st[n] = o at ro
  cases o with
  | lst xs => obtain ⟨us, e, _⟩ := ro; rw [hp] at e; cases e
  | dK xs => obtain ⟨us, e, _⟩ := ro; rw [hp] at e; cases e
  | dT xs => obtain ⟨us, e, _⟩ := ro; rw [hp] at e; cases e
  | ins c fs => obtain ⟨dx, us, e, _⟩ := ro; rw [hp] at e; cases e
  | exc c => rw [show H _ = _ from ro] at hp; cases hp
  | lkK xs => obtain ⟨o, us, e, _⟩ := ro; rw [hp] at e; cases e
  | lkT xs => obtain ⟨o, us, e, _⟩ := ro; rw [hp] at e; cases e
  | dN xs => obtain ⟨us, ⟨ob, e, _⟩, _⟩ := ro; rw [hp] at e; cases e
/-- the object n changed -/
theorem stp_set {n : Nat} {p : Addr} {o o' : HO} (e : al n = some p) (h : H p = some o') (hf : ∀ ob u, o' ≠ .frz ob u := by intro _ _ z; cases z) : Stp al H al (upd H p o) where
  up _ _ h := h
  fr q u hq hn := by
    have : q ≠ p := fun z => hn n (by rw [z]; exact e)
    rw [upd_ne this]; exact hq
  nw _ _ h := .inl h
  kp q hq := by
    by_cases z : q = p
    · rw [z, upd_same]; intro e; cases e
    · rw [upd_ne z]; exact hq
  lk q ob u hq := by
    have : q ≠ p := fun z => by
      subst z
      rw [h] at hq
      exact hf ob u (Option.some.inj hq)
    rw [upd_ne this]; exact hq
theorem rel_set {st : Sto} {n : Nat} {p : Addr} {o o' : HO} {ao : AO} (r : Rel g al st H) (e : al n = some p) (h : H p = some o') (hr : RO g (upd H p o) al p ao) (hf : ∀ ob u, o' ≠ .frz ob u := by intro _ _ z; cases z) : Rel g al (st.set n ao) (upd H p o) where
  inj := r.inj
  dom m q hm := by
    rw [List.length_set]
    exact r.dom m q hm
  obj m u hm := by
    by_cases z : m = n
    · subst z
      rw [List.getElem?_set_self (r.dom m p e)] at hm
      cases hm
      exact ⟨p, e, hr⟩
    · rw [List.getElem?_set_ne (Ne.symm z)] at hm
      obtain ⟨q, e2, ro⟩ := r.obj m u hm
      have hqp : q ≠ p := fun y => z (r.inj m n p (by rw [e2, y]) e)
      exact ⟨q, e2, ro.step r.notup (stp_set e h hf) (upd_ne hqp)⟩

/-! ### ends -/
/-- where a run of the machine stands, so does the model -/
def Post {A B : Type} (g : G) (RA : Hp → Al → A → B → Prop) (r : R A) (al : Al) (H : Hp) (Q : B → Hp → Prop) (W : Nat → Hp → Prop) : Prop := match r with
  | .ok a st => ∀ al' H' b, Stp al H al' H' → Rel g al' st H' → RA H' al' a b → Q b H'
  | .ex c st => ∀ al' H', Stp al H al' H' → Rel g al' st H' → W c H'
  | .no => False
theorem Post.bind {A B C D : Type} {RA : Hp → Al → A → B → Prop} {RC : Hp → Al → C → D → Prop} {r : R A} {f : A → Sto → R C} {Q : D → Hp → Prop} {W : Nat → Hp → Prop} (h : Post g RC (r.bind f) al H Q W) :
    Post g RA r al H (fun b H1 => ∃ al1 a st1, Stp al H al1 H1 ∧ Rel g al1 st1 H1 ∧ RA H1 al1 a b ∧ Post g RC (f a st1) al1 H1 Q W) W := by
  cases r with
  | ok a st =>
    intro al' H' b s rel rv
    refine ⟨al', a, st, s, rel, rv, ?_⟩
    have h' : Post g RC (f a st) al H Q W := h
    revert h'
    generalize f a st = x
    intro h'
    cases x with
    | ok c st2 => exact fun al2 H2 d s2 rel2 rv2 => h' al2 H2 d (s.trans s2) rel2 rv2
    | ex c st2 => exact fun al2 H2 s2 rel2 => h' al2 H2 (s.trans s2) rel2
    | no => exact h'
  | ex c st => exact h
  | no => exact h
theorem Post.ok {A B : Type} {RA : Hp → Al → A → B → Prop} {a : A} {st : Sto} {Q : B → Hp → Prop} {W : Nat → Hp → Prop} (h : Post g RA (.ok a st) al H Q W) (r : Rel g al st H) {b : B} (ra : RA H al a b) : Q b H :=
  h al H b (Stp.refl _ _) r ra
/-- slots -/
structure RS (K : PySem.W.Frag) (H : Hp) (al : Al) (e : Slots) (σ : L2.St) : Prop where
  len : e.length = σ.length
  at_ : ∀ (i : Nat) (v : AV), e[i]? = some (some v) → ∃ w, σ[i]? = some (some w) ∧ RV K H al v w
theorem RS.step {K : PySem.W.Frag} {e : Slots} {σ : L2.St} (r : RS K H al e σ) (nt : NoTup al H) (s : Stp al H al' H') : RS K H' al' e σ :=
  ⟨r.len, fun i v h => let ⟨w, h1, h2⟩ := r.at_ i v h; ⟨w, h1, RV.step nt s v w h2⟩⟩
theorem RS.put {K : PySem.W.Frag} {e : Slots} {σ : L2.St} (r : RS K H al e σ) (i : Nat) {v : AV} {w : V} (rv : RV K H al v w) : RS K H al (e.set i (some v)) (σ.set i (some w)) := by
  refine ⟨by rw [List.length_set, List.length_set, r.len], fun j u h => ?_⟩
  by_cases z : j = i
  · subst z
    have hj : j < e.length := by
      have := (List.getElem?_eq_some_iff.mp h).1
      rwa [List.length_set] at this
    rw [List.getElem?_set_self hj] at h
    cases h
    exact ⟨w, List.getElem?_set_self (r.len ▸ hj), rv⟩
  · rw [List.getElem?_set_ne (Ne.symm z)] at h
    obtain ⟨x, h1, h2⟩ := r.at_ j u h
    exact ⟨x, by rw [List.getElem?_set_ne (Ne.symm z)]; exact h1, h2⟩
theorem RS.drop1 {K : PySem.W.Frag} {e : Slots} {σ : L2.St} (r : RS K H al e σ) (i : Nat) (x : Option V) : RS K H al (e.set i none) (σ.set i x) := by
  refine ⟨by rw [List.length_set, List.length_set, r.len], fun j u h => ?_⟩
  by_cases z : j = i
  · subst z
    by_cases hj : j < e.length
    · rw [List.getElem?_set_self hj] at h; cases h
    · rw [List.getElem?_eq_none (by rw [List.length_set]; omega)] at h; cases h
  · rw [List.getElem?_set_ne (Ne.symm z)] at h
    obtain ⟨x, h1, h2⟩ := r.at_ j u h
    exact ⟨x, by rw [List.getElem?_set_ne (Ne.symm z)]; exact h1, h2⟩
theorem RS.wipe {K : PySem.W.Frag} {e : Slots} {σ : L2.St} (r : RS K H al e σ) : ∀ vs : List Nat, RS K H al (wipeA e vs) (L2.wipe σ vs)
  | [] => r
  | v :: vs => (RS.wipe r vs).drop1 v none

/-! ### readings -/
abbrev Run1 (A : Type) := Slots → Sto → R A
abbrev rvOf (g : G) : Hp → Al → AV → V → Prop := fun H al a b => RV g.K H al a b
abbrev rvsOf (g : G) : Hp → Al → List AV → List V → Prop := fun H al a b => RVs g.K H al a b
def wOf (g : G) (W : WX) (σ : L2.St) : Nat → Hp → Prop := fun c H => W (.ref (g.clsA c)) none σ H
def TV (g : G) (W : WX) (r : Run1 AV) : TE := fun σ H Q => ∃ al st e, Rel g al st H ∧ RS g.K H al e σ ∧ Post g (rvOf g) (r e st) al H Q (wOf g W σ)
def TVs (g : G) (W : WX) (r : Run1 (List AV)) : TA := fun σ H Q => ∃ al st e, Rel g al st H ∧ RS g.K H al e σ ∧ Post g (rvsOf g) (r e st) al H Q (wOf g W σ)
/-- r, then f of what it gives -/
theorem TV.then {C D : Type} {RC : Hp → Al → C → D → Prop} {W : WX} {ra : Run1 AV} {f : Slots → AV → Sto → R C} {σ : L2.St} {e : Slots} {Q : D → Hp → Prop} (r : Rel g al st H) (rs : RS g.K H al e σ)
    (h : Post g RC ((ra e st).bind (f e)) al H Q (wOf g W σ)) :
    TV g W ra σ H fun x H1 => ∃ al1 a st1, Rel g al1 st1 H1 ∧ RS g.K H1 al1 e σ ∧ RV g.K H1 al1 a x ∧ Post g RC (f e a st1) al1 H1 Q (wOf g W σ) ∧ Stp al H al1 H1 := by
  refine ⟨al, st, e, r, rs, ?_⟩
  have q := Post.bind (RA := rvOf g) h
  revert q
  generalize ra e st = x
  intro q
  cases x with
  | ok a st2 =>
    intro al' H' b s rel rv
    obtain ⟨al1, a1, st1, s1, rel1, rv1, p⟩ := q al' H' b s rel rv
    exact ⟨al1, a1, st1, rel1, rs.step r.notup s1, rv1, p, s1⟩
  | ex c st2 => exact q
  | no => exact q
theorem TVs.then {C D : Type} {RC : Hp → Al → C → D → Prop} {W : WX} {ra : Run1 (List AV)} {f : Slots → List AV → Sto → R C} {σ : L2.St} {e : Slots} {Q : D → Hp → Prop} (r : Rel g al st H) (rs : RS g.K H al e σ)
    (h : Post g RC ((ra e st).bind (f e)) al H Q (wOf g W σ)) :
    TVs g W ra σ H fun x H1 => ∃ al1 a st1, Rel g al1 st1 H1 ∧ RS g.K H1 al1 e σ ∧ RVs g.K H1 al1 a x ∧ Post g RC (f e a st1) al1 H1 Q (wOf g W σ) ∧ Stp al H al1 H1 := by
  refine ⟨al, st, e, r, rs, ?_⟩
  have q := Post.bind (RA := rvsOf g) h
  revert q
  generalize ra e st = x
  intro q
  cases x with
  | ok a st2 =>
    intro al' H' b s rel rv
    obtain ⟨al1, a1, st1, s1, rel1, rv1, p⟩ := q al' H' b s rel rv
    exact ⟨al1, a1, st1, rel1, rs.step r.notup s1, rv1, p, s1⟩
  | ex c st2 => exact q
  | no => exact q
end
theorem PE.imp {X : Cx} {e : Expr} {t t' : TE} (h : PE X e t) (i : ∀ σ H Q, t' σ H Q → t σ H Q) : PE X e t' := ⟨fun pins s σ H Q I q => h.run pins s σ H Q I (i σ H Q q)⟩
theorem PT.imp {X : Cx} {e : Expr} {t t' : TT} (h : PT X e t) (i : ∀ σ H Q, t' σ H Q → t σ H Q) : PT X e t' := ⟨fun pins s σ H Q I q => h.run pins s σ H Q I (i σ H Q q)⟩
theorem PA.imp {X : Cx} {e : List Expr} {t t' : TA} (h : PA X e t) (i : ∀ σ H Q, t' σ H Q → t σ H Q) : PA X e t' := ⟨fun pos pins s σ H Q I q => h.run pos pins s σ H Q I (i σ H Q q)⟩
end L3

/-! Snd2: operators, comparisons, subscripts. -/
namespace L3
open PySem PySem.Spec PyProof.Rows L2

section
variable {g : G} {al al' : Al} {H H' : Hp} {st : Sto}
/-- a free address filled with what is none of the store's -/
theorem stp_free {p : Addr} {o : HO} (hp : H p = none) : Stp al H al (upd H p o) where
  up _ _ h := h
  fr q u hq _ := by
    rw [upd_ne (ne_of_none hq hp)]; exact hq
  nw _ _ h := .inl h
  kp q hq := by
    by_cases z : q = p
    · rw [z, upd_same]; intro e; cases e
    · rw [upd_ne z]; exact hq
  lk q ob u hq := by
    rw [upd_ne (ne_of_none hq hp)]; exact hq
theorem rel_free {p : Addr} {o : HO} (r : Rel g al st H) (hp : H p = none) : Rel g al st (upd H p o) where
  inj := r.inj
  dom := r.dom
  obj m u hm := by
    obtain ⟨q, e2, ro⟩ := r.obj m u hm
    have hqp : q ≠ p := fun y => r.free hp m (by rw [e2, y])
    exact ⟨q, e2, ro.step r.notup (stp_free hp) (upd_ne hqp)⟩
theorem Post.mkNew {W : Nat → Hp → Prop} {Q : V → Hp → Prop} {ao : AO} {ho : HO} {p : Addr} (h : Post g (rvOf g) (L3.alloc ao st) al H Q W) (r : Rel g al st H) (hp : H p = none)
    (hr : RO g (upd H p ho) (alUp al st.length p) p ao) : Q (.ref p) (upd H p ho) := by
  have h' : Post g (rvOf g) (.ok (.ref st.length) (st ++ [ao])) al H Q W := h
  exact h' (alUp al st.length p) (upd H p ho) _ (stp_new r hp (r.free hp)) (rel_new r hp (r.free hp) hr) ⟨p, by unfold alUp; rw [if_pos rfl], rfl⟩
theorem Post.newL {W : Nat → Hp → Prop} {Q : V → Hp → Prop} {xs : List AV} {ws : List V} {p : Addr} (h : Post g (rvOf g) (L3.alloc (.lst xs) st) al H Q W) (r : Rel g al st H) (rv : RVs g.K H al xs ws) (hp : H p = none) :
    Q (.ref p) (upd H p (.lst ws)) :=
  h.mkNew r hp ⟨ws, upd_same, RVs.step r.notup (stp_new r hp (r.free hp)) _ _ rv⟩
theorem Post.newT {W : Nat → Hp → Prop} {Q : V → Hp → Prop} {xs : List AV} {ws : List V} {p : Addr} (h : Post g (rvOf g) (.ok (.tup xs) st) al H Q W) (r : Rel g al st H) (rv : RVs g.K H al xs ws) (hp : H p = none) :
    Q (.ref p) (upd H p (.tup ws)) :=
  h al (upd H p (.tup ws)) _ (stp_free hp) (rel_free r hp) ⟨p, ws, rfl, upd_same, RVs.step r.notup (stp_free hp) _ _ rv⟩
theorem Post.same {W : Nat → Hp → Prop} {Q : V → Hp → Prop} {v : AV} {w : V} (h : Post g (rvOf g) (.ok v st) al H Q W) (r : Rel g al st H) (rv : RV g.K H al v w) : Q w H := Post.ok h r rv
/-- the store's object changed -/
theorem Post.chg {W : Nat → Hp → Prop} {Q : V → Hp → Prop} {v : AV} {w : V} {n : Nat} {p : Addr} {ao : AO} {ho ho' : HO} (h : Post g (rvOf g) (.ok v (st.set n ao)) al H Q W) (r : Rel g al st H) (e : al n = some p) (e2 : H p = some ho')
    (rv : RV g.K H al v w) (hr : RO g (upd H p ho) al p ao) (hf : ∀ ob u, ho' ≠ .frz ob u := by intro _ _ z; cases z) : Q w (upd H p ho) :=
  h al (upd H p ho) w (stp_set e e2 hf) (rel_set r e e2 hr hf) (RV.step r.notup (stp_set e e2 hf) _ _ rv)

theorem T8_cat (a b : List Nat) : T8 a ++ T8 b = T8 (a ++ b) := by
  show (⟨a.toArray ++ b.toArray⟩ : Str) = ⟨(a ++ b).toArray⟩
  rw [List.append_toArray]
def opOf : Bop → Operator
  | .add => .Add | .sub => .Sub | .mul => .Mult | .fdiv => .FloorDiv | .mod => .Mod | .pow => .Pow | .band => .BitAnd | .shr => .RShift
/-- a two-place reading by the machine -/
def R2A (g : G) (f : AV → AV → Sto → R AV) : R2 := fun x y H Q => ∃ al st a b W, Rel g al st H ∧ RV g.K H al a x ∧ RV g.K H al b y ∧ Post g (rvOf g) (f a b st) al H Q W
theorem OpR.imp {X : Cx} {f : Value → Value → Sem Value} {r r' : R2} (h : OpR X f r) (i : ∀ x y H Q, r' x y H Q → r x y H Q) : OpR X f r' :=
  fun pins s σ H x y v u Q I rx ry q => h pins s σ H x y v u Q I rx ry (i _ _ _ _ q)
/-- a text, no time or once -/
theorem op_mulS {X : Cx} : OpR X (binaryOp .Mult) (fun x y H Q => ∃ (z : Str) (k : Int), x = V.str z ∧ y = V.int k ∧ (k = 0 ∧ Q (V.str Str.empty) H ∨ k = 1 ∧ Q (V.str z) H)) := by
  intro pins s σ H x y v u Q I rx ry h
  obtain ⟨z, k, rfl, rfl, h⟩ := h
  obtain ⟨t, rfl⟩ := rx
  obtain ⟨t2, rfl⟩ := ry
  rcases h with ⟨rfl, q⟩ | ⟨rfl, q⟩
  · exact PySem.P.mul_str_none (by decide) (by decide) ⟨.str Str.empty, H, I.tok _, ⟨_, rfl⟩, q⟩
  · refine PySem.P.mul_str (by decide) (fun _ h => by simp at h) (fun _ h => by simp at h) ?_
    rw [if_neg (by decide), if_pos (by simp)]
    exact ⟨.str z, H, I, ⟨_, rfl⟩, q⟩
theorem mulOk_ok {i j : Int} (h : mulOk i j = true) : CMulW i j ∨ CMul i j := by
  unfold mulOk at h
  simp only [Bool.or_eq_true, Bool.and_eq_true, decide_eq_true_eq] at h
  rcases h with (h | h) | ⟨h1, h2⟩
  · exact .inr (.inl (by omega))
  · exact .inr (.inr (by omega))
  · exact .inl (wide_mul h1 h2 (by decide) (by decide) (by decide))
theorem ref_lst {xs : List AV} {n : Nat} {w : V} (r : Rel g al st H) (rv : RV g.K H al (.ref n) w) (e : st[n]? = some (.lst xs)) : ∃ p ws, w = .ref p ∧ al n = some p ∧ H p = some (.lst ws) ∧ RVs g.K H al xs ws := by
  obtain ⟨p, e1, rfl⟩ := rv
  obtain ⟨q, e2, ws, h1, h2⟩ := r.obj n _ e
  rw [e1] at e2; cases e2
  exact ⟨p, ws, rfl, e1, h1, h2⟩
theorem op_bin {X : Cx} (op : Bop) : OpR X (binaryOp (opOf op)) (R2A g (binA op)) := by
  cases op with
  | add =>
    refine OpR.imp (op_add.or (op_add_str.or ((op_catA (X := X)).or op_cat))) fun x y H Q h => ?_
    obtain ⟨al, st, a, b, W, rel, ra, rb, h⟩ := h
    cases a with
    | int i =>
      cases b with
      | int j =>
        obtain rfl : x = .int i := ra
        obtain rfl : y = .int j := rb
        exact .inl ⟨i, j, rfl, rfl, Post.same h rel rfl⟩
      | _ => exact h.elim
    | str a =>
      cases b with
      | str b =>
        obtain rfl : x = .str (T8 a) := ra
        obtain rfl : y = .str (T8 b) := rb
        by_cases hz : a.length + b.length ≤ lim
        · have h : Post g (rvOf g) (if a.length + b.length ≤ lim then .ok (.str (a ++ b)) st else .no) al H Q W := h
          rw [if_pos hz] at h
          refine .inr (.inl ⟨_, _, rfl, rfl, ?_, ?_⟩)
          · simp only [Str.length, T8, List.size_toArray]
            rw [sizeLine_eq]; exact hz
          · refine Post.same h rel ?_
            show V.str (T8 a ++ T8 b) = V.str (T8 (a ++ b))
            rw [T8_cat]
        · have h : Post g (rvOf g) (if a.length + b.length ≤ lim then .ok (.str (a ++ b)) st else .no) al H Q W := h
          rw [if_neg hz] at h
          exact h.elim
      | _ => exact h.elim
    | tup a =>
      cases b with
      | tup b =>
        obtain ⟨p, ws, rfl, q1, v1⟩ := ra
        obtain ⟨p2, ws2, rfl, q2, v2⟩ := rb
        have h : Post g (rvOf g) (if a.length + b.length ≤ lim then .ok (.tup (a ++ b)) st else .no) al H Q W := h
        by_cases hz : a.length + b.length ≤ lim
        · rw [if_pos hz] at h
          refine .inr (.inr (.inl ⟨p, p2, ws, ws2, rfl, rfl, .inl (.inl q1), .inl (.inl q2), ?_, fun e => ?_, fun _ e => ?_, fun _ _ p' hp => ?_⟩))
          · rw [← v1.length, ← v2.length, sizeLine_eq]; exact hz
          · subst e
            have ea : a = [] := List.eq_nil_of_length_eq_zero (by rw [v1.length]; rfl)
            subst ea
            exact Post.same h rel ⟨p2, ws2, rfl, q2, v2⟩
          · subst e
            have eb : b = [] := List.eq_nil_of_length_eq_zero (by rw [v2.length]; rfl)
            subst eb
            rw [List.append_nil] at h
            exact Post.same h rel ⟨p, ws, rfl, q1, v1⟩
          · exact Post.newT h rel (v1.append v2) hp
        · rw [if_neg hz] at h
          exact h.elim
      | _ => exact h.elim
    | ref m =>
      cases b with
      | ref n =>
        have h : Post g (rvOf g) (match st[m]?, st[n]? with
          | some (.lst a), some (.lst b) => if a.length + b.length ≤ lim then alloc (.lst (a ++ b)) st else .no
          | _, _ => .no) al H Q W := h
        split at h
        · rename_i a b e1 e2
          obtain ⟨p, ws, rfl, _, h1, v1⟩ := ref_lst rel ra e1
          obtain ⟨p2, ws2, rfl, _, h2, v2⟩ := ref_lst rel rb e2
          by_cases hz : a.length + b.length ≤ lim
          · rw [if_pos hz] at h
            refine .inr (.inr (.inr ⟨p, p2, ws, ws2, rfl, rfl, h1, h2, ?_, fun p' hp => h.newL rel (v1.append v2) hp⟩))
            rw [← v1.length, ← v2.length, sizeLine_eq]; exact hz
          · rw [if_neg hz] at h
            exact h.elim
        · exact h.elim
      | _ => exact h.elim
    | _ => exact h.elim
  | sub =>
    refine OpR.imp op_sub fun x y H Q h => ?_
    obtain ⟨al, st, a, b, W, rel, ra, rb, h⟩ := h
    cases a with
    | int i =>
      cases b with
      | int j =>
        obtain rfl : x = .int i := ra
        obtain rfl : y = .int j := rb
        exact ⟨i, j, rfl, rfl, Post.same h rel rfl⟩
      | _ => exact h.elim
    | _ => exact h.elim
  | mul =>
    refine OpR.imp ((op_mulS (X := X)).or ((op_mulW (X := X)).or (op_mul.or op_rep))) fun x y H Q h => ?_
    obtain ⟨al, st, a, b, W, rel, ra, rb, h⟩ := h
    cases a with
    | int i =>
      cases b with
      | int j =>
        obtain rfl : x = .int i := ra
        obtain rfl : y = .int j := rb
        have h : Post g (rvOf g) (if mulOk i j then .ok (.int (i * j)) st else .no) al H Q W := h
        by_cases hz : mulOk i j = true
        · rw [if_pos hz] at h
          rcases mulOk_ok hz with c | c
          · exact .inr (.inl ⟨i, j, rfl, rfl, c, Post.same h rel rfl⟩)
          · exact .inr (.inr (.inl ⟨i, j, rfl, rfl, c, Post.same h rel rfl⟩))
        · rw [if_neg hz] at h
          exact h.elim
      | _ => exact h.elim
    | ref m =>
      cases b with
      | int k =>
        have h : Post g (rvOf g) (match st[m]? with
          | some (.lst a) => if -(2 ^ 63) ≤ k ∧ k < 2 ^ 63 ∧ a.length * k.toNat ≤ lim then alloc (.lst (List.replicate k.toNat a).flatten) st else .no
          | _ => .no) al H Q W := h
        split at h
        · rename_i a e1
          obtain ⟨p, ws, rfl, _, h1, v1⟩ := ref_lst rel ra e1
          obtain rfl : y = .int k := rb
          by_cases hz : -(2 ^ 63) ≤ k ∧ k < 2 ^ 63 ∧ a.length * k.toNat ≤ lim
          · rw [if_pos hz] at h
            obtain ⟨z1, z2, z3⟩ := hz
            refine .inr (.inr (.inr ⟨p, k, ws, rfl, rfl, h1, z1, z2, ?_, fun p' hp => h.newL rel (v1.rep _) hp⟩))
            rw [← v1.length, sizeLine_eq]; exact z3
          · rw [if_neg hz] at h
            exact h.elim
        · exact h.elim
      | _ => exact h.elim
    | str z =>
      cases b with
      | int k =>
        obtain rfl : x = .str (T8 z) := ra
        obtain rfl : y = .int k := rb
        have h : Post g (rvOf g) (if k = 0 then .ok (.str []) st else if k = 1 then .ok (.str z) st else .no) al H Q W := h
        by_cases h0 : k = 0
        · rw [if_pos h0] at h
          exact .inl ⟨_, k, rfl, rfl, .inl ⟨h0, Post.same h rel rfl⟩⟩
        · rw [if_neg h0] at h
          by_cases h1 : k = 1
          · rw [if_pos h1] at h
            exact .inl ⟨_, k, rfl, rfl, .inr ⟨h1, Post.same h rel rfl⟩⟩
          · rw [if_neg h1] at h
            exact h.elim
      | _ => exact h.elim
    | _ => exact h.elim
  | fdiv =>
    refine OpR.imp op_fdivN fun x y H Q h => ?_
    obtain ⟨al, st, a, b, W, rel, ra, rb, h⟩ := h
    cases a with
    | int i =>
      cases b with
      | int j =>
        obtain rfl : x = .int i := ra
        obtain rfl : y = .int j := rb
        have h : Post g (rvOf g) (if 0 < j ∧ j < 1073741824 then .ok (.int (i / j)) st else .no) al H Q W := h
        by_cases hz : 0 < j ∧ j < 1073741824
        · rw [if_pos hz] at h
          refine ⟨i, j, rfl, rfl, ⟨by omega, by omega⟩, ?_⟩
          show Q (.int (i.fdiv j)) H
          rw [Int.fdiv_eq_ediv_of_nonneg i (by omega)]
          exact Post.same h rel rfl
        · rw [if_neg hz] at h
          exact h.elim
      | _ => exact h.elim
    | _ => exact h.elim
  | mod =>
    refine OpR.imp op_mod fun x y H Q h => ?_
    obtain ⟨al, st, a, b, W, rel, ra, rb, h⟩ := h
    cases a with
    | int i =>
      cases b with
      | int j =>
        obtain rfl : x = .int i := ra
        obtain rfl : y = .int j := rb
        have h : Post g (rvOf g) (if 0 < j then .ok (.int (i % j)) st else .no) al H Q W := h
        by_cases hz : 0 < j
        · rw [if_pos hz] at h
          exact ⟨i, j, rfl, rfl, hz, Post.same h rel rfl⟩
        · rw [if_neg hz] at h
          exact h.elim
      | _ => exact h.elim
    | _ => exact h.elim
  | pow =>
    refine OpR.imp op_pow fun x y H Q h => ?_
    obtain ⟨al, st, a, b, W, rel, ra, rb, h⟩ := h
    cases a with
    | int i =>
      cases b with
      | int j =>
        obtain rfl : x = .int i := ra
        obtain rfl : y = .int j := rb
        have h : Post g (rvOf g) (if 0 ≤ j ∧ j ≤ 1000000 ∧ i.natAbs < 18446744073709551616 then .ok (.int (i ^ j.toNat)) st else .no) al H Q W := h
        by_cases hz : 0 ≤ j ∧ j ≤ 1000000 ∧ i.natAbs < 18446744073709551616
        · rw [if_pos hz] at h
          exact ⟨i, j, rfl, rfl, ⟨hz.1, hz.2.1, hz.2.2⟩, Post.same h rel rfl⟩
        · rw [if_neg hz] at h
          exact h.elim
      | _ => exact h.elim
    | _ => exact h.elim
  | band =>
    refine OpR.imp op_and fun x y H Q h => ?_
    obtain ⟨al, st, a, b, W, rel, ra, rb, h⟩ := h
    cases a with
    | int i =>
      cases b with
      | int j =>
        obtain rfl : x = .int i := ra
        obtain rfl : y = .int j := rb
        exact ⟨i, j, rfl, rfl, Post.same h rel rfl⟩
      | _ => exact h.elim
    | _ => exact h.elim
  | shr =>
    refine OpR.imp op_shr fun x y H Q h => ?_
    obtain ⟨al, st, a, b, W, rel, ra, rb, h⟩ := h
    cases a with
    | int i =>
      cases b with
      | int j =>
        obtain rfl : x = .int i := ra
        obtain rfl : y = .int j := rb
        have h : Post g (rvOf g) (if 0 ≤ j then .ok (.int (i / 2 ^ j.toNat)) st else .no) al H Q W := h
        by_cases hz : 0 ≤ j
        · rw [if_pos hz] at h
          exact ⟨i, j, rfl, rfl, hz, Post.same h rel rfl⟩
        · rw [if_neg hz] at h
          exact h.elim
      | _ => exact h.elim
    | _ => exact h.elim
end
end L3

/-! Snd3: comparisons, subscripts, slices, built-ins. -/
namespace L3
open PySem PySem.Spec PyProof.Rows L2

section
variable {g : G} {al al' : Al} {H H' : Hp} {st : Sto}
theorem RVs.ints {xs : List Int} {K : PySem.W.Frag} : RVs K H al (xs.map .int) (xs.map V.int) := by
  induction xs with
  | nil => rfl
  | cons x xs ih => exact ⟨_, _, rfl, rfl, ih⟩
theorem dpInts {K : PySem.W.Frag} : ∀ xs : List Int, DpAll K H (xs.map V.int) (xs.map PyData.int)
  | [] => .nil
  | x :: xs => .cons (.int x) (dpInts xs)
theorem dpAll_of {f : AV → Option PyData} (hf : ∀ v w d, RV g.K H al v w → f v = some d → Dp g.K H w d) : ∀ (xs : List AV) (ws : List V) (ds : List PyData), RVs g.K H al xs ws → oAll f xs = some ds → DpAll g.K H ws ds
  | [], ws, ds, h, e => by
    obtain rfl : ws = [] := h
    cases e
    exact .nil
  | x :: xs, ws, ds, ⟨w, r, e1, h1, h2⟩, e => by
    subst e1
    unfold oAll at e
    split at e
    · rename_i d ds' q1 q2
      cases e
      exact .cons (hf x w d h1 q1) (dpAll_of hf xs r ds' h2 q2)
    · cases e
theorem pd_dp (rel : Rel g al st H) : ∀ (n : Nat) (v : AV) (w : V) (d : PyData), RV g.K H al v w → pd n st v = some d → Dp g.K H w d
  | 0, _, _, _, _, e => by cases e
  | n + 1, v, w, d, rv, e => by
    cases v with
    | non => obtain rfl : w = .non := rv; cases e; exact .non
    | bl b => obtain rfl : w = .bl b := rv; cases e; exact .bl b
    | int b => obtain rfl : w = .int b := rv; cases e; exact .int b
    | str b => obtain rfl : w = .str (T8 b) := rv; cases e; exact .str _
    | rol xs =>
      obtain ⟨p, rfl, q⟩ := rv
      cases e
      exact .lst q.sq (dpInts xs)
    | tup xs =>
      obtain ⟨p, ws, rfl, hp, r⟩ := rv
      have e : (oAll (pd n st) xs).map .tuple = some d := e
      obtain ⟨ds, e1, rfl⟩ := Option.map_eq_some_iff.mp e
      exact .tup (.inl (.inl hp)) (dpAll_of (pd_dp rel n) xs ws ds r e1)
    | ref m =>
      have e : (match st[m]? with
        | some (.lst xs) => (oAll (pd n st) xs).map .list
        | _ => none) = some d := e
      split at e
      · rename_i xs q
        obtain ⟨p, ws, rfl, _, hp, r⟩ := ref_lst rel rv q
        obtain ⟨ds, e1, rfl⟩ := Option.map_eq_some_iff.mp e
        exact .lst (.inl (.inl hp)) (dpAll_of (pd_dp rel n) xs ws ds r e1)
      · cases e
theorem pdS_dp (rel : Rel g al st H) {v : AV} {w : V} {d : PyData} (rv : RV g.K H al v w) (e : pdS st v = some d) : Dp g.K H w d ∧ SeqAt.shaped d = true := by
  unfold pdS at e
  split at e
  · rename_i d' q
    by_cases z : SeqAt.shaped d' = true
    · rw [if_pos z] at e
      cases e
      exact ⟨pd_dp rel 9 v w _ rv q, z⟩
    · rw [if_neg z] at e; cases e
  · cases e
theorem Post.ofB {W : Nat → Hp → Prop} {Q : V → Hp → Prop} {o : Option Bool} (h : Post g (rvOf g) (R.ofB o st) al H Q W) (r : Rel g al st H) : ∃ b, o = some b ∧ Q (.bl b) H := by
  cases o with
  | some b => exact ⟨b, rfl, Post.ok (RA := rvOf g) (a := .bl b) h r rfl⟩
  | none => exact h.elim
/-- flat things -/
theorem flA_is {v : AV} {w : V} {d : PyData} (rv : RV g.K H al v w) (e : flA v = some d) : flatV w = true ∧ ∀ (v2 : AV) (w2 : V) (d2 : PyData), RV g.K H al v2 w2 → flA v2 = some d2 → eqV w w2 = PyData.eqv d d2 := by
  cases v with
  | non =>
    obtain rfl : w = .non := rv
    cases e
    refine ⟨rfl, fun v2 w2 d2 r2 e2 => ?_⟩
    cases v2 <;> first
      | (cases e2; obtain rfl : w2 = _ := r2; simp [eqV, PyData.eqv])
      | (cases e2)
  | bl b =>
    obtain rfl : w = .bl b := rv
    cases e
    refine ⟨rfl, fun v2 w2 d2 r2 e2 => ?_⟩
    cases v2 <;> first
      | (cases e2; obtain rfl : w2 = _ := r2; simp [eqV, PyData.eqv])
      | (cases e2)
  | int b =>
    obtain rfl : w = .int b := rv
    cases e
    refine ⟨rfl, fun v2 w2 d2 r2 e2 => ?_⟩
    cases v2 <;> first
      | (cases e2; obtain rfl : w2 = _ := r2; simp [eqV, PyData.eqv])
      | (cases e2)
  | str b =>
    obtain rfl : w = .str (T8 b) := rv
    cases e
    refine ⟨rfl, fun v2 w2 d2 r2 e2 => ?_⟩
    cases v2 <;> first
      | (cases e2; obtain rfl : w2 = _ := r2; simp [eqV, PyData.eqv])
      | (cases e2)
  | _ => cases e
theorem fl_any {x : AV} {w : V} {d : PyData} (rv : RV g.K H al x w) (e : flA x = some d) : ∀ (ys : List AV) (ws : List V) (ds : List PyData), RVs g.K H al ys ws → oAll flA ys = some ds → ws.all flatV = true ∧ inV w ws = ds.any fun z => PyData.eqv z d
  | [], ws, ds, h, q => by
    obtain rfl : ws = [] := h
    cases q
    exact ⟨rfl, rfl⟩
  | y :: ys, ws, ds, ⟨u, r, e1, h1, h2⟩, q => by
    subst e1
    unfold oAll at q
    split at q
    · rename_i d1 ds' q1 q2
      cases q
      obtain ⟨i1, i2⟩ := fl_any rv e ys r ds' h2 q2
      obtain ⟨j1, j2⟩ := flA_is h1 q1
      refine ⟨by rw [List.all_cons, j1, i1]; rfl, ?_⟩
      unfold inV at i2 ⊢
      rw [List.any_cons, List.any_cons, i2, j2 x w d rv e]
    · cases q
theorem ref_dK {xs : List (Key × AV)} {n : Nat} {w : V} (r : Rel g al st H) (rv : RV g.K H al (.ref n) w) (e : st[n]? = some (.dK xs)) : ∃ p ws, w = .ref p ∧ al n = some p ∧ H p = some (.dK ws) ∧ RP g.K H al xs ws := by
  obtain ⟨p, e1, rfl⟩ := rv
  obtain ⟨q, e2, ws, h1, h2⟩ := r.obj n _ e
  rw [e1] at e2; cases e2
  exact ⟨p, ws, rfl, e1, h1, h2⟩
theorem ref_dT {xs : List (List Key × AV)} {n : Nat} {w : V} (r : Rel g al st H) (rv : RV g.K H al (.ref n) w) (e : st[n]? = some (.dT xs)) : ∃ p ws, w = .ref p ∧ al n = some p ∧ H p = some (.dT ws) ∧ RP g.K H al xs ws := by
  obtain ⟨p, e1, rfl⟩ := rv
  obtain ⟨q, e2, ws, h1, h2⟩ := r.obj n _ e
  rw [e1] at e2; cases e2
  exact ⟨p, ws, rfl, e1, h1, h2⟩
theorem ref_dN {xs : List (KN × AV)} {n : Nat} {w : V} (r : Rel g al st H) (rv : RV g.K H al (.ref n) w) (e : st[n]? = some (.dN xs)) : ∃ p ws, w = .ref p ∧ al n = some p ∧ NObj H p ws ∧ RP g.K H al xs ws := by
  obtain ⟨p, e1, rfl⟩ := rv
  obtain ⟨q, e2, ws, h1, h2⟩ := r.obj n _ e
  rw [e1] at e2; cases e2
  exact ⟨p, ws, rfl, e1, h1, h2⟩
theorem keyN_is {v : AV} {w : V} {k : KN} (rv : RV g.K H al v w) (e : keyN v = some k) : ∃ b, w = .ref b ∧ KeyAt H k b := by
  unfold keyN at e
  split at e
  · cases e
    obtain ⟨p, ws, rfl, hp, w1, r1, rfl, ⟨p2, ws2, rfl, hp2, w2, r2, rfl, h2, w3, r3, rfl, h3, e3⟩, w4, r4, rfl, h4, e4⟩ := rv
    have e3 : r3 = [] := e3
    have e4 : r4 = [] := e4
    subst e3 e4
    have h2 : w2 = .int _ := h2
    have h3 : w3 = .int _ := h3
    have h4 : w4 = .int _ := h4
    subst h2 h3 h4
    exact ⟨p, rfl, p2, hp, hp2⟩
  · cases e
theorem keyK_is {v : AV} {w : V} {k : Key} (rv : RV g.K H al v w) (e : keyK v = some k) : w = kV k := by
  cases v with
  | int i => cases e; exact rv
  | str x => cases e; exact rv
  | _ => cases e
theorem keysK_is : ∀ {vs : List AV} {ws : List V} {ks : List Key}, RVs g.K H al vs ws → keysK vs = some ks → ws = ks.map kV
  | [], ws, ks, h, e => by
    obtain rfl : ws = [] := h
    cases e
    rfl
  | x :: xs, ws, ks, ⟨w, r, e1, h1, h2⟩, e => by
    subst e1
    unfold keysK at e
    split at e
    · rename_i k ks' q1 q2
      cases e
      rw [keyK_is h1 q1, keysK_is h2 q2]
      rfl
    · cases e
theorem keyT_is {v : AV} {w : V} {k : List Key} (rv : RV g.K H al v w) (e : keyT v = some k) : ∃ b, w = .ref b ∧ H b = some (.tup (k.map kV)) := by
  cases v with
  | tup xs =>
    obtain ⟨p, ws, rfl, hp, r⟩ := rv
    exact ⟨p, rfl, by rw [hp, keysK_is r e]⟩
  | _ => cases e
theorem RP.has {κ : Type} [DecidableEq κ] (k : κ) : ∀ {xs : List (κ × AV)} {ws : List (κ × V)}, RP g.K H al xs ws → (valV ws k).isSome = hasK k xs
  | [], ws, h => by
    obtain rfl : ws = [] := h
    rfl
  | x :: xs, ws, ⟨w, r, e1, h1, h2⟩ => by
    subst e1
    have ih := RP.has k h2
    unfold hasK at ih ⊢
    rw [List.any_cons]
    by_cases z : x.1 = k
    · rw [valV_pos z, decide_eq_true z]; rfl
    · rw [valV_neg z, decide_eq_false z, ih]; rfl
theorem RP.val {κ : Type} [DecidableEq κ] (k : κ) {v : AV} : ∀ {xs : List (κ × AV)} {ws : List (κ × V)}, RP g.K H al xs ws → getK k xs = some v → ∃ w, valV ws k = some w ∧ RV g.K H al v w
  | [], ws, h, e => by cases e
  | x :: xs, ws, ⟨w, r, e1, h1, h2⟩, e => by
    subst e1
    by_cases z : x.1 = k
    · have e' : getK k (x :: xs) = some x.2 := by
        unfold getK
        rw [List.find?_cons_of_pos (by simpa using z)]
        rfl
      rw [e'] at e; cases e
      exact ⟨w, valV_pos z, h1⟩
    · have e' : getK k (x :: xs) = getK k xs := by
        unfold getK
        rw [List.find?_cons_of_neg (by simpa using z)]
      rw [e'] at e
      obtain ⟨u, h3, h4⟩ := RP.val k h2 e
      exact ⟨u, by rw [valV_neg z]; exact h3, h4⟩
theorem RP.none {κ : Type} [DecidableEq κ] (k : κ) : ∀ {xs : List (κ × AV)} {ws : List (κ × V)}, RP g.K H al xs ws → getK k xs = .none → valV ws k = .none
  | [], ws, h, e => by
    obtain rfl : ws = [] := h
    rfl
  | x :: xs, ws, ⟨w, r, e1, h1, h2⟩, e => by
    subst e1
    by_cases z : x.1 = k
    · have e' : getK k (x :: xs) = some x.2 := by
        unfold getK
        rw [List.find?_cons_of_pos (by simpa using z)]
        rfl
      rw [e'] at e; cases e
    · have e' : getK k (x :: xs) = getK k xs := by
        unfold getK
        rw [List.find?_cons_of_neg (by simpa using z)]
      rw [e'] at e
      rw [valV_neg z]
      exact RP.none k h2 e
theorem RP.length {κ : Type} : ∀ {xs : List (κ × AV)} {ws : List (κ × V)}, RP g.K H al xs ws → xs.length = ws.length
  | [], ws, h => by
    obtain rfl : ws = [] := h
    rfl
  | x :: xs, ws, ⟨w, r, e1, h1, h2⟩ => by
    subst e1
    rw [List.length_cons, List.length_cons, RP.length h2]

/-! ### rules by values, of dicts -/
theorem op_inDict {X : Cx} (hu : X.A.units + 1 < cLine) : OpR X (compareOp .In) (fun x y H Q => ∃ a o, y = .ref a ∧ DGet H a x o ∧ Q (.bl o.isSome) H) := by
  intro pins s σ H x y v u Q I rx ry h
  obtain ⟨a, o, rfl, gd, q⟩ := h
  cases ry
  exact d_in hu I gd rx fun s' I' => ⟨.bl o.isSome, H, I', rfl, q⟩
theorem op_notInDict {X : Cx} (hu : X.A.units + 1 < cLine) : OpR X (compareOp .NotIn) (fun x y H Q => ∃ a o, y = .ref a ∧ DGet H a x o ∧ Q (.bl (!o.isSome)) H) := by
  intro pins s σ H x y v u Q I rx ry h
  obtain ⟨a, o, rfl, gd, q⟩ := h
  cases ry
  exact d_notIn hu I gd rx fun s' I' => ⟨.bl (!o.isSome), H, I', rfl, q⟩
theorem dp_ref {K : PySem.W.Frag} {p : Addr} {d : PyData} (h : Dp K H (.ref p) d) : (∃ ds, d = .list ds) ∨ ∃ ds, d = .tuple ds := by
  cases h with
  | lst _ _ => exact .inl ⟨_, rfl⟩
  | tup _ _ => exact .inr ⟨_, rfl⟩

/-- x in y: one of the four rules -/
def rInAll (K : PySem.W.Frag) (neg : Bool) : R2 := fun x y H Q =>
  (∃ i j, x = .str i ∧ y = .str j ∧ Q (.bl (if neg then !(!(Builtin.Str.occurrences j i 0 j.length 1).isEmpty) else !(Builtin.Str.occurrences j i 0 j.length 1).isEmpty)) H) ∨
  rIn K neg x y H Q ∨
  (∃ d ds, Dp K H x d ∧ Dp K H y (.list ds) ∧ SeqAt.shaped d = true ∧ SeqAt.shaped (.list ds) = true ∧ Q (.bl (if neg then !ds.any fun z => PyData.eqv z d else ds.any fun z => PyData.eqv z d)) H) ∨
  (∃ a o, y = .ref a ∧ DGet H a x o ∧ Q (.bl (if neg then !o.isSome else o.isSome)) H) ∨
  ∃ a b k ws, x = .ref b ∧ y = .ref a ∧ NObj H a ws ∧ KeyAt H k b ∧ Q (.bl (if neg then !(valV ws k).isSome else (valV ws k).isSome)) H
theorem op_inNst {X : Cx} (hu : X.A.units + 10 < cLine) : OpR X (compareOp .In) (fun x y H Q => ∃ a b k ws, x = .ref b ∧ y = .ref a ∧ NObj H a ws ∧ KeyAt H k b ∧ Q (.bl (valV ws k).isSome) H) := by
  intro pins s σ H x y v u Q I rx ry h
  obtain ⟨a, b, k, ws, rfl, rfl, h1, h2, q⟩ := h
  cases rx
  cases ry
  exact inN hu I h1 h2 fun s' I' => ⟨.bl _, H, I', rfl, q⟩
theorem op_ninNst {X : Cx} (hu : X.A.units + 10 < cLine) : OpR X (compareOp .NotIn) (fun x y H Q => ∃ a b k ws, x = .ref b ∧ y = .ref a ∧ NObj H a ws ∧ KeyAt H k b ∧ Q (.bl (!(valV ws k).isSome)) H) := by
  intro pins s σ H x y v u Q I rx ry h
  obtain ⟨a, b, k, ws, rfl, rfl, h1, h2, q⟩ := h
  cases rx
  cases ry
  exact notInN hu I h1 h2 fun s' I' => ⟨.bl _, H, I', rfl, q⟩
theorem op_inAll {X : Cx} (hu : X.A.units + 65 < cLine) : OpR X (compareOp .In) (rInAll X.K false) := by
  refine OpR.imp (op_in_str.or ((op_in_seq (X := X)).or ((op_inD hu).or ((op_inDict (by omega)).or (op_inNst (by omega)))))) fun x y H Q h => ?_
  exact h
theorem op_notInAll {X : Cx} (hu : X.A.units + 65 < cLine) : OpR X (compareOp .NotIn) (rInAll X.K true) := by
  refine OpR.imp (op_notin_str.or ((op_notIn_seq (X := X)).or ((op_notInD hu).or ((op_notInDict (by omega)).or (op_ninNst (by omega)))))) fun x y H Q h => ?_
  exact h
theorem inA_ok {x y : AV} {v w : V} {b : Bool} {neg : Bool} {Q : VK} (rel : Rel g al st H) (rx : RV g.K H al x v) (ry : RV g.K H al y w) (e : inA st x y = some b) (q : Q (.bl (if neg then !b else b)) H) : rInAll g.K neg v w H Q := by
  cases y with
  | str z =>
    obtain rfl : w = .str (T8 z) := ry
    cases x with
    | str c =>
      obtain rfl : v = .str (T8 c) := rx
      have e : some (subIn c z) = some b := e
      have e := Option.some.inj e
      refine .inl ⟨_, _, rfl, rfl, ?_⟩
      have hl : (T8 z).length = z.length := by simp [T8, Str.length]
      rw [hl]
      rw [← e] at q
      exact q
    | _ => cases e
  | tup ys =>
    obtain ⟨p, ws, rfl, hp, r⟩ := ry
    have e : (match flA x, oAll flA ys with
      | some d, some es => some (es.any fun e => PyData.eqv e d)
      | _, _ => none) = some b := e
    split at e
    · rename_i d es q1 q2
      have e := Option.some.inj e
      obtain ⟨h1, h2⟩ := fl_any rx q1 ys ws es r q2
      refine .inr (.inl ⟨p, ws, rfl, .inr (.inl (.inl hp)), (flA_is rx q1).1, h1, ?_⟩)
      rw [h2, e]
      exact q
    · cases e
  | rol ys =>
    obtain ⟨p, rfl, hp⟩ := ry
    have e : (match flA x with
      | some d => some (ys.any fun e => PyData.eqv (.int e) d)
      | _ => none) = some b := e
    split at e
    · rename_i d q1
      have e := Option.some.inj e
      have q2 : ∀ ys : List Int, oAll flA (ys.map .int) = some (ys.map .int) := fun ys => by
        induction ys with
        | nil => rfl
        | cons y ys ih =>
          rw [List.map_cons, List.map_cons]
          unfold oAll
          rw [ih]
          rfl
      obtain ⟨h1, h2⟩ := fl_any rx q1 (ys.map .int) (ys.map V.int) _ RVs.ints (q2 ys)
      refine .inr (.inl ⟨p, _, rfl, .inl hp.sq, (flA_is rx q1).1, h1, ?_⟩)
      rw [h2, List.any_map]
      have e3 : ((fun z => PyData.eqv z d) ∘ PyData.int) = fun e => PyData.eqv (.int e) d := rfl
      rw [e3, e]
      exact q
    · cases e
  | ref n =>
    have e : (match st[n]? with
      | some (.lst _) => match pdS st x, pdS st (.ref n) with
        | some d, some (.list es) => some (es.any fun e => PyData.eqv e d)
        | _, _ => none
      | some (.dK kvs) => match keyK x with
        | some k => some (hasK k kvs)
        | none => none
      | some (.dT kvs) => match keyT x with
        | some k => some (hasK k kvs)
        | none => none
      | some (.dN kvs) => match keyN x with
        | some k => some (hasK k kvs)
        | none => none
      | _ => none) = some b := e
    split at e
    · split at e
      · rename_i d es q1 q2
        have e := Option.some.inj e
        obtain ⟨h1, h2⟩ := pdS_dp rel rx q1
        obtain ⟨h3, h4⟩ := pdS_dp rel ry q2
        refine .inr (.inr (.inl ⟨d, es, h1, h3, h2, h4, ?_⟩))
        rw [e]
        exact q
      · cases e
    · rename_i kvs q0
      split at e
      · rename_i k q1
        have e := Option.some.inj e
        obtain ⟨p, ws, rfl, _, hp, r⟩ := ref_dK rel ry q0
        refine .inr (.inr (.inr (.inl ⟨p, _, rfl, by rw [keyK_is rx q1]; exact DGet.k hp, ?_⟩)))
        rw [RP.has k r, e]
        exact q
      · cases e
    · rename_i kvs q0
      split at e
      · rename_i k q1
        have e := Option.some.inj e
        obtain ⟨p, ws, rfl, _, hp, r⟩ := ref_dT rel ry q0
        obtain ⟨b2, rfl, hb⟩ := keyT_is rx q1
        refine .inr (.inr (.inr (.inl ⟨p, _, rfl, DGet.t hp hb, ?_⟩)))
        rw [RP.has k r, e]
        exact q
      · cases e
    · rename_i kvs q0
      split at e
      · rename_i k q1
        have e := Option.some.inj e
        obtain ⟨p, ws, rfl, _, hp, r⟩ := ref_dN rel ry q0
        obtain ⟨b2, rfl, hb⟩ := keyN_is rx q1
        refine .inr (.inr (.inr (.inr ⟨p, b2, k, ws, rfl, rfl, hp, hb, ?_⟩)))
        rw [RP.has k r, e]
        exact q
      · cases e
    · cases e
  | _ => cases e
theorem oAll_dep {st : Sto} {n : Nat} (h : ∀ v d, pd n st v = some d → d.depth ≤ n) : ∀ xs ds, oAll (pd n st) xs = some ds → PyData.depthAll ds ≤ n
  | [], _, e => by cases e; exact Nat.zero_le _
  | x :: xs, ds, e => by
    simp only [oAll] at e
    split at e
    · rename_i d r q1 q2
      cases e
      exact Nat.max_le.mpr ⟨h _ _ q1, oAll_dep h xs r q2⟩
    · cases e
theorem pd_dep {st : Sto} : ∀ (n : Nat) (v : AV) (d : PyData), pd n st v = some d → d.depth ≤ n
  | 0, _, _, e => by cases e
  | n + 1, v, d, e => by
    cases v with
    | non => cases e; exact Nat.zero_le _
    | bl b => cases e; exact Nat.zero_le _
    | int b => cases e; exact Nat.zero_le _
    | str b => cases e; exact Nat.zero_le _
    | rol xs =>
      cases e
      show PyData.depthAll (xs.map .int) + 1 ≤ n + 1
      rw [PySem.W.depth_ints]
      omega
    | tup xs =>
      have e : (oAll (pd n st) xs).map .tuple = some d := e
      obtain ⟨ds, e1, rfl⟩ := Option.map_eq_some_iff.mp e
      exact Nat.succ_le_succ (oAll_dep (pd_dep n) xs ds e1)
    | ref m =>
      have e : (match st[m]? with
        | some (.lst xs) => (oAll (pd n st) xs).map .list
        | _ => none) = some d := e
      split at e
      · obtain ⟨ds, e1, rfl⟩ := Option.map_eq_some_iff.mp e
        exact Nat.succ_le_succ (oAll_dep (pd_dep n) _ ds e1)
      · cases e
def copOf : Cop → CmpOp
  | .eq => .Eq | .ne => .NotEq | .lt => .Lt | .le => .LtE | .gt => .Gt | .ge => .GtE | .isin => .In | .notin => .NotIn | .is => .Is | .isnot => .IsNot
def rEqE (neg : Bool) : R2 := fun x y H Q => ∃ a b ks, x = .ref a ∧ y = .ref b ∧ H a = some (.dK ks) ∧ H b = some (.dK []) ∧ Q (.bl (if neg = true then !ks.isEmpty else ks.isEmpty)) H
theorem op_eqE {X : Cx} (hu : X.A.units < cLine) : OpR X (compareOp .Eq) (rEqE false) := by
  intro pins s σ H x y v u Q I rx ry h
  obtain ⟨a, b, ks, rfl, rfl, ea, eb, q⟩ := h
  obtain rfl : v = Value.ref a := rx
  obtain rfl : u = Value.ref b := ry
  obtain ⟨_, ya, va, ra, da⟩ := (show ObjOk X.prog X.w H s.heap a (.dK ks) from I.hok a _ ea)
  obtain ⟨_, yb, vb, rb, db⟩ := (show ObjOk X.prog X.w H s.heap b (.dK []) from I.hok b _ eb)
  have lb : vb = [] := List.eq_nil_of_length_eq_zero rb.length.symm
  have la := ra.length
  subst lb
  refine PySem.W.keq_eq (knd := mixKind X.prog X.w) (r := true) ya yb da db hu (fun h => ?_) (fin_bl I q ?_)
  · have : va = [] := List.eq_nil_of_length_eq_zero h
    subst this
    exact .nil
  · cases ks with
    | nil => have h0 : va = [] := List.eq_nil_of_length_eq_zero la.symm; subst h0; rfl
    | cons k ks => cases va with
      | nil => simp at la
      | cons v va => rfl
theorem op_neE {X : Cx} (hu : X.A.units < cLine) : OpR X (compareOp .NotEq) (rEqE true) := by
  intro pins s σ H x y v u Q I rx ry h
  obtain ⟨a, b, ks, rfl, rfl, ea, eb, q⟩ := h
  obtain rfl : v = Value.ref a := rx
  obtain rfl : u = Value.ref b := ry
  obtain ⟨_, ya, va, ra, da⟩ := (show ObjOk X.prog X.w H s.heap a (.dK ks) from I.hok a _ ea)
  obtain ⟨_, yb, vb, rb, db⟩ := (show ObjOk X.prog X.w H s.heap b (.dK []) from I.hok b _ eb)
  have lb : vb = [] := List.eq_nil_of_length_eq_zero rb.length.symm
  have la := ra.length
  subst lb
  refine PySem.W.keq_ne (knd := mixKind X.prog X.w) (r := true) ya yb da db hu (fun h => ?_) (fin_bl I q ?_)
  · have : va = [] := List.eq_nil_of_length_eq_zero h
    subst this
    exact .nil
  · cases ks with
    | nil => have h0 : va = [] := List.eq_nil_of_length_eq_zero la.symm; subst h0; rfl
    | cons k ks => cases va with
      | nil => simp at la
      | cons v va => rfl
theorem OpR.both {X : Cx} {f : Value → Value → Sem Value} {r r' : R2} (h : OpR X f r) (h' : OpR X f r') : OpR X f fun x y H Q => r x y H Q ∨ r' x y H Q := fun pins s σ H x y v u Q I rx ry q => q.elim (fun z => h pins s σ H x y v u Q I rx ry z) fun z => h' pins s σ H x y v u Q I rx ry z
theorem op_cmpA {X : Cx} (hK : X.K = g.K) (hu : X.A.units + 65 < cLine) (op : Cop) : OpR X (compareOp (copOf op)) (R2A g (cmpA op)) := by
  have eqc : ∀ {x y : AV} {v w : V} {b : Bool} {al : Al} {st : Sto} {H : Hp}, Rel g al st H → RV g.K H al x v → RV g.K H al y w → eqA st x y = some b → (∃ d e, Dp g.K H v d ∧ Dp g.K H w e ∧ SeqAt.shaped d = true ∧ SeqAt.shaped e = true ∧ PyData.eqv d e = b) ∨ ∃ p q ks, v = .ref p ∧ w = .ref q ∧ H p = some (.dK ks) ∧ H q = some (.dK []) ∧ ks.isEmpty = b := by
    intro x y v w b al st H rel rx ry e
    unfold eqA at e
    split at e
    · rename_i d d2 q1 q2
      obtain ⟨h1, h2⟩ := pdS_dp rel rx q1
      obtain ⟨h3, h4⟩ := pdS_dp rel ry q2
      exact .inl ⟨d, d2, h1, h3, h2, h4, Option.some.inj e⟩
    · unfold eqD at e
      split at e
      · split at e
        · rename_i ks q1 q2
          obtain ⟨p, ws, rfl, _, hp, r⟩ := ref_dK rel rx q1
          obtain ⟨p2, ws2, rfl, _, hp2, r2⟩ := ref_dK rel ry q2
          obtain rfl : ws2 = [] := r2
          refine .inr ⟨p, p2, ws, rfl, rfl, hp, hp2, ?_⟩
          rw [← Option.some.inj e]
          cases ks with
          | nil => obtain rfl : ws = [] := r; rfl
          | cons k ks => obtain ⟨w0, r0, e0, _⟩ := r; rw [e0]; rfl
        · cases e
      · cases e
  have onI : ∀ {r : Int → Int → Bool} {f : AV → AV → Sto → R AV} {c : CmpOp} (ho : OpR X (compareOp c) (rI0 fun i j => .bl (r i j))), (∀ i j st, f (.int i) (.int j) st = .ok (.bl (r i j)) st) →
      (∀ x y st, (∃ i j, x = AV.int i ∧ y = AV.int j) ∨ f x y st = .no) → OpR X (compareOp c) (R2A g f) := by
    intro r f c ho h1 h2
    refine OpR.imp ho fun x y H Q h => ?_
    obtain ⟨al, st, a, b, W, rel, ra, rb, h⟩ := h
    rcases h2 a b st with ⟨i, j, rfl, rfl⟩ | e
    · obtain rfl : x = .int i := ra
      obtain rfl : y = .int j := rb
      rw [h1] at h
      exact ⟨i, j, rfl, rfl, Post.same (v := .bl (r i j)) h rel rfl⟩
    · rw [e] at h
      exact h.elim
  have no2 : ∀ {f : AV → AV → Sto → R AV}, (∀ x y st, (¬ ∃ i j, x = AV.int i ∧ y = AV.int j) → f x y st = .no) → ∀ x y st, (∃ i j, x = AV.int i ∧ y = AV.int j) ∨ f x y st = .no := fun h x y st => by
    by_cases z : ∃ i j, x = AV.int i ∧ y = AV.int j
    · exact .inl z
    · exact .inr (h x y st z)
  cases op with
  | eq =>
    refine OpR.imp (OpR.both (op_eqD (X := X) (by omega)) (op_eqE (X := X) (by omega))) fun x y H Q h => ?_
    obtain ⟨al, st, a, b, W, rel, ra, rb, h⟩ := h
    obtain ⟨k, e, q⟩ := Post.ofB h rel
    rcases eqc rel ra rb e with ⟨d, d2, h1, h2, h3, h4, h5⟩ | ⟨p, p2, ks, h1, h2, h3, h4, h5⟩
    · rw [hK]
      exact .inl ⟨d, d2, h1, h2, h3, h4, by rw [h5]; exact q⟩
    · exact .inr ⟨p, p2, ks, h1, h2, h3, h4, by rw [if_neg Bool.false_ne_true, h5]; exact q⟩
  | ne =>
    refine OpR.imp (OpR.both (op_neD (X := X) (by omega)) (op_neE (X := X) (by omega))) fun x y H Q h => ?_
    obtain ⟨al, st, a, b, W, rel, ra, rb, h⟩ := h
    obtain ⟨k, e, q⟩ := Post.ofB h rel
    obtain ⟨k2, e2, rfl⟩ := Option.map_eq_some_iff.mp e
    rcases eqc rel ra rb e2 with ⟨d, d2, h1, h2, h3, h4, h5⟩ | ⟨p, p2, ks, h1, h2, h3, h4, h5⟩
    · rw [hK]
      exact .inl ⟨d, d2, h1, h2, h3, h4, by rw [h5]; exact q⟩
    · exact .inr ⟨p, p2, ks, h1, h2, h3, h4, by rw [if_pos rfl, h5]; exact q⟩
  | lt =>
    intro pins s σ H x y v u Q I rx ry h
    obtain ⟨al, st, a, b, W, rel, ra, rb, h⟩ := h
    by_cases z : ∃ i j, a = AV.int i ∧ b = AV.int j
    · obtain ⟨i, j, rfl, rfl⟩ := z
      obtain rfl : x = .int i := ra
      obtain rfl : y = .int j := rb
      exact op_lt pins s σ H _ _ v u Q I rx ry ⟨i, j, rfl, rfl, Post.same (v := .bl (decide (i < j))) h rel rfl⟩
    · have e : cmpA .lt a b st = ltD a b st := by
        cases a <;> first | rfl | (cases b <;> first | rfl | exact absurd ⟨_, _, rfl, rfl⟩ z)
      rw [e] at h
      unfold ltD at h
      split at h
      · rename_i d f q1 q2
        by_cases c : PySem.W.alike d f = true ∧ isNon d = false
        · rw [if_pos c] at h
          have h1 := pd_dp rel 9 a x d ra q1
          have h2 := pd_dp rel 9 b y f rb q2
          rw [← hK] at h1 h2
          obtain ⟨as1, r1⟩ := Dp.reads I d x v h1 rx
          obtain ⟨as2, r2⟩ := Dp.reads I f y u h2 ry
          have hd := pd_dep 9 a d q1
          have hn : d ≠ .none := fun e => by rw [e] at c; exact absurd c.2 (by decide)
          refine PySem.W.lt_data r1 r2 c.1 hn (by have := Nat.min_le_left d.depth f.depth; omega) ?_
          exact ⟨.bl (PySem.W.dataLt d f), H, I, rfl, Post.same (v := .bl (PySem.W.dataLt d f)) h rel rfl⟩
        · rw [if_neg c] at h
          exact h.elim
      · exact h.elim
  | le =>
    refine onI op_le (fun _ _ _ => rfl) (no2 fun x y st z => ?_)
    cases x <;> first | rfl | (cases y <;> first | rfl | exact absurd ⟨_, _, rfl, rfl⟩ z)
  | gt =>
    refine onI op_gt (fun _ _ _ => rfl) (no2 fun x y st z => ?_)
    cases x <;> first | rfl | (cases y <;> first | rfl | exact absurd ⟨_, _, rfl, rfl⟩ z)
  | ge =>
    refine onI op_ge (fun _ _ _ => rfl) (no2 fun x y st z => ?_)
    cases x <;> first | rfl | (cases y <;> first | rfl | exact absurd ⟨_, _, rfl, rfl⟩ z)
  | isin =>
    refine OpR.imp (op_inAll hu) fun x y H Q h => ?_
    obtain ⟨al, st, a, b, W, rel, ra, rb, h⟩ := h
    obtain ⟨k, e, q⟩ := Post.ofB h rel
    rw [hK]
    exact inA_ok (neg := false) rel ra rb e q
  | notin =>
    refine OpR.imp (op_notInAll hu) fun x y H Q h => ?_
    obtain ⟨al, st, a, b, W, rel, ra, rb, h⟩ := h
    obtain ⟨k, e, q⟩ := Post.ofB h rel
    obtain ⟨k2, e2, rfl⟩ := Option.map_eq_some_iff.mp e
    rw [hK]
    exact inA_ok (neg := true) rel ra rb e2 q
  | is =>
    refine OpR.imp op_isN fun x y H Q h => ?_
    obtain ⟨al, st, a, b, W, rel, ra, rb, h⟩ := h
    cases b with
    | non =>
      obtain rfl : y = .non := rb
      have q : Q (.bl (decide (a = .non))) H := Post.same (v := .bl (decide (a = .non))) h rel rfl
      refine ⟨rfl, ?_⟩
      have e : decide (x = V.non) = decide (a = AV.non) := by
        cases a <;> first
          | (obtain rfl : x = _ := ra; rfl)
          | (obtain ⟨_, _, rfl, _⟩ := ra; rfl)
          | (obtain ⟨_, _, rfl⟩ := ra; rfl)
          | (obtain ⟨_, rfl, _⟩ := ra; rfl)
      rw [e]
      exact q
    | _ => exact h.elim
  | isnot =>
    refine OpR.imp op_notN fun x y H Q h => ?_
    obtain ⟨al, st, a, b, W, rel, ra, rb, h⟩ := h
    cases b with
    | non =>
      obtain rfl : y = .non := rb
      have q : Q (.bl (!decide (a = .non))) H := Post.same (v := .bl (!decide (a = .non))) h rel rfl
      refine ⟨rfl, ?_⟩
      have e : decide (x = V.non) = decide (a = AV.non) := by
        cases a <;> first
          | (obtain rfl : x = _ := ra; rfl)
          | (obtain ⟨_, _, rfl, _⟩ := ra; rfl)
          | (obtain ⟨_, _, rfl⟩ := ra; rfl)
          | (obtain ⟨_, rfl, _⟩ := ra; rfl)
      rw [e]
      exact q
    | _ => exact h.elim
end
end L3

/-! Snd4: subscripts, slices, built-ins. -/
namespace L3
open PySem PySem.Spec PyProof.Rows L2

section
variable {g : G} {al al' : Al} {H H' : Hp} {st : Sto}
theorem IxR.imp {X : Cx} {r r' : R2} (h : IxR X r) (i : ∀ x y H Q, r' x y H Q → r x y H Q) : IxR X r' :=
  fun value slice pins s σ H x y v u Q I rx ry q hs => h value slice pins s σ H x y v u Q I rx ry (i _ _ _ _ q) hs
theorem at_of {xs : List AV} {ws : List V} {i : Int} {k : Nat} {v : AV} (r : RVs g.K H al xs ws) (e : L2.ixN xs.length i = some k) (e2 : xs[k]? = some v) : ∃ w, atI ws i = some w ∧ RV g.K H al v w := by
  obtain ⟨w, h1, h2⟩ := r.get e2
  refine ⟨w, ?_, h2⟩
  unfold atI
  rw [← r.length, e]
  exact h1
/-- o[i] -/
def rIdx (K : PySem.W.Frag) : R2 := fun x y H Q => rIx K x y H Q
theorem ix_or {x y : V} {a b : AV} {W : Nat → Hp → Prop} {Q : VK} (rel : Rel g al st H) (ra : RV g.K H al a x) (rb : RV g.K H al b y) (h : Post g (rvOf g) (idxA a b st) al H Q W) :
    rIx g.K x y H Q ∨ (∃ p v, x = .ref p ∧ DGet H p y (some v) ∧ Q v H) ∨ ∃ p b k ws v, x = .ref p ∧ y = .ref b ∧ NObj H p ws ∧ KeyAt H k b ∧ valV ws k = some v ∧ Q v H := by
  cases a with
  | tup xs =>
    obtain ⟨p, ws, rfl, hp, r⟩ := ra
    cases b with
    | int i =>
      obtain rfl : y = .int i := rb
      have h : Post g (rvOf g) (match L2.ixN xs.length i with
        | some k => match xs[k]? with
          | some v => .ok v st
          | none => .no
        | none => .no) al H Q W := h
      split at h
      · rename_i k e
        split at h
        · rename_i v e2
          obtain ⟨w, h1, h2⟩ := at_of r e e2
          exact .inl (.inr (.inl ⟨p, ws, i, w, rfl, rfl, .inl (.inl hp), h1, Post.same h rel h2⟩))
        · exact h.elim
      · exact h.elim
    | _ => exact h.elim
  | str xs =>
    obtain rfl : x = .str (T8 xs) := ra
    cases b with
    | int i =>
      obtain rfl : y = .int i := rb
      have h : Post g (rvOf g) (if xs.length ≤ lim then match L2.ixN xs.length i with
        | some k => match xs[k]? with
          | some c => .ok (.str [c]) st
          | none => .no
        | none => .no else .no) al H Q W := h
      by_cases hl : xs.length ≤ lim
      · rw [if_pos hl] at h
        split at h
        · rename_i k e
          split at h
          · rename_i c e2
            refine .inl (.inr (.inr ⟨_, i, c, rfl, rfl, ?_, ?_, Post.same h rel rfl⟩))
            · simp only [T8, Str.length, List.size_toArray]
              rw [sizeLine_eq]; exact hl
            · unfold atI
              have q : (T8 xs).cps.toList = xs := rfl
              rw [q, e]
              exact e2
          · exact h.elim
        · exact h.elim
      · rw [if_neg hl] at h
        exact h.elim
    | _ => exact h.elim
  | rol xs =>
    obtain ⟨p, rfl, hp⟩ := ra
    cases b with
    | int i =>
      obtain rfl : y = .int i := rb
      have h : Post g (rvOf g) (match L2.ixN xs.length i with
        | some k => match xs[k]? with
          | some v => .ok (.int v) st
          | none => .no
        | none => .no) al H Q W := h
      split at h
      · rename_i k e
        split at h
        · rename_i v e2
          refine .inl (.inl ⟨p, _, i, .int v, rfl, rfl, hp.sq, ?_, Post.same h rel rfl⟩)
          unfold atI
          rw [List.length_map, e]
          show (xs.map V.int)[k]? = _
          rw [List.getElem?_map, e2]
          rfl
        · exact h.elim
      · exact h.elim
    | _ => exact h.elim
  | ref n =>
    simp only [idxA] at h
    split at h
    · rename_i xs q
      obtain ⟨p, ws, rfl, _, hp, r⟩ := ref_lst rel ra q
      split at h
      · rename_i i
        obtain rfl : y = .int i := rb
        split at h
        · rename_i k e
          split at h
          · rename_i v e2
            obtain ⟨w, h1, h2⟩ := at_of r e e2
            exact .inl (.inl ⟨p, ws, i, w, rfl, rfl, .inl (.inl hp), h1, Post.same h rel h2⟩)
          · exact h.elim
        · exact h.elim
      · exact h.elim
    · rename_i kvs q
      obtain ⟨p, ws, rfl, _, hp, r⟩ := ref_dK rel ra q
      split at h
      · rename_i k e
        split at h
        · rename_i v e2
          obtain ⟨w, h1, h2⟩ := r.val k e2
          refine .inr (.inl ⟨p, w, rfl, ?_, Post.same h rel h2⟩)
          rw [keyK_is rb e, ← h1]
          exact DGet.k hp
        · exact h.elim
      · exact h.elim
    · rename_i kvs q
      obtain ⟨p, ws, rfl, _, hp, r⟩ := ref_dT rel ra q
      split at h
      · rename_i k e
        split at h
        · rename_i v e2
          obtain ⟨w, h1, h2⟩ := r.val k e2
          obtain ⟨b2, rfl, hb⟩ := keyT_is rb e
          refine .inr (.inl ⟨p, w, rfl, ?_, Post.same h rel h2⟩)
          rw [← h1]
          exact DGet.t hp hb
        · exact h.elim
      · exact h.elim
    · rename_i kvs q
      obtain ⟨p, ws, rfl, _, hp, r⟩ := ref_dN rel ra q
      split at h
      · rename_i k e
        split at h
        · rename_i v e2
          obtain ⟨w, h1, h2⟩ := r.val k e2
          obtain ⟨b2, rfl, hb⟩ := keyN_is rb e
          exact .inr (.inr ⟨p, b2, k, ws, w, rfl, rfl, hp, hb, h1, Post.same h rel h2⟩)
        · exact h.elim
      · exact h.elim
    · rename_i kvs q
      obtain ⟨p, ea, rfl⟩ := ra
      obtain ⟨p', e1, ob, ws, hp, r⟩ := rel.obj n _ q
      rw [ea] at e1
      cases e1
      split at h
      · rename_i k e
        split at h
        · rename_i v e2
          obtain ⟨w, h1, h2⟩ := r.val k e2
          refine .inr (.inl ⟨p, w, rfl, ?_, Post.same h rel h2⟩)
          rw [keyK_is rb e, ← h1]
          exact .inl ⟨ws, k, .inr ⟨ob, hp⟩, rfl, rfl⟩
        · exact h.elim
      · exact h.elim
    · exact h.elim
  | _ => exact h.elim

/-! ### slices -/
theorem cutA_rv {xs : List AV} {ws : List V} (r : RVs g.K H al xs ws) (lo hi : Option Int) : RVs g.K H al (cutA xs lo hi) (cutV ws lo hi) := by
  unfold cutA cutV
  rw [r.length]
  exact RVs.take _ (RVs.drop _ r)
def SlA (g : G) : V → Option Int → Option Int → Hp → VK → Prop := fun x lo hi H Q => ∃ al st a W, Rel g al st H ∧ RV g.K H al a x ∧ Post g (rvOf g) (slA a lo hi st) al H Q W
theorem SlR.imp {X : Cx} {r r' : V → Option Int → Option Int → Hp → VK → Prop} (h : SlR X r) (i : ∀ x lo hi H Q, r' x lo hi H Q → r x lo hi H Q) : SlR X r' :=
  fun pins s σ H x v vl vu lo hi sl Q I rx hs pl pu q => h pins s σ H x v vl vu lo hi sl Q I rx hs pl pu (i _ _ _ _ _ q)
theorem sl_A {X : Cx} (hK : X.K = g.K) : SlR X (SlA g) := by
  refine SlR.imp ((sl_list (X := X)).or (sl_tupA.or sl_str)) fun x lo hi H Q h => ?_
  obtain ⟨al, st, a, W, rel, ra, h⟩ := h
  cases a with
  | str z =>
    obtain rfl : x = .str (T8 z) := ra
    simp only [slA] at h
    by_cases hl : z.length ≤ lim
    · rw [if_pos hl] at h
      refine .inr (.inr ⟨_, rfl, ?_, ?_⟩)
      · simp only [T8, Str.length, List.size_toArray]
        rw [sizeLine_eq]; exact hl
      · exact Post.same h rel rfl
    · rw [if_neg hl] at h
      exact h.elim
  | tup xs =>
    obtain ⟨p, ws, rfl, hp, r⟩ := ra
    have h : Post g (rvOf g) (.ok (.tup (cutA xs lo hi)) st) al H Q W := h
    refine .inr (.inl ⟨p, ws, rfl, .inl (.inl hp), fun e => ?_, fun _ q hq => h.newT rel (cutA_rv r lo hi) hq⟩)
    have e2 : cutA xs lo hi = xs := by
      unfold cutA
      rw [r.length, e.1, e.2, List.drop_zero, Nat.sub_zero, ← r.length, List.take_length]
    rw [e2] at h
    exact Post.same h rel ⟨p, ws, rfl, hp, r⟩
  | rol xs =>
    obtain ⟨p, rfl, hp⟩ := ra
    refine .inl ⟨p, _, rfl, hK ▸ hp.sq, fun q hq => ?_⟩
    exact Post.newL (xs := cutA (xs.map .int) lo hi) h rel (cutA_rv RVs.ints lo hi) hq
  | ref n =>
    simp only [slA] at h
    split at h
    · rename_i xs q
      obtain ⟨p, ws, rfl, _, hp, r⟩ := ref_lst rel ra q
      exact .inl ⟨p, ws, rfl, .inl (.inl hp), fun q hq => h.newL rel (cutA_rv r lo hi) hq⟩
    · exact h.elim
  | _ => exact h.elim

/-! ### built-in functions -/
theorem CallR.imp {X : Cx} {f : Value} {r r' : List V → Hp → VK → Prop} (h : CallR X f r) (i : ∀ xs H Q, r' xs H Q → r xs H Q) : CallR X f r' :=
  fun pins s σ H xs us Q I rx q => h pins s σ H xs us Q I rx (i _ _ _ q)
theorem CallR.or2 {X : Cx} {f : Value} {r r' : List V → Hp → VK → Prop} (h : CallR X f r) (h' : CallR X f r') : CallR X f (fun xs H Q => r xs H Q ∨ r' xs H Q) := by
  intro pins s σ H xs us Q I rx q
  rcases q with q | q
  · exact h pins s σ H xs us Q I rx q
  · exact h' pins s σ H xs us Q I rx q
def CA (g : G) (f : List AV → Sto → R AV) : List V → Hp → VK → Prop := fun vs H Q => ∃ al st as W, Rel g al st H ∧ RVs g.K H al as vs ∧ Post g (rvOf g) (f as st) al H Q W
theorem RVs.nilI {K : PySem.W.Frag} {w : List V} (h : RVs K H al [] w) : w = [] := h
theorem RVs.oneI {K : PySem.W.Frag} {v : AV} {w : List V} (h : RVs K H al [v] w) : ∃ u, w = [u] ∧ RV K H al v u := by
  obtain ⟨u, r, rfl, h1, h2⟩ := h
  obtain rfl : r = [] := h2
  exact ⟨u, rfl, h1⟩
theorem RVs.twoI {K : PySem.W.Frag} {v v2 : AV} {w : List V} (h : RVs K H al [v, v2] w) : ∃ u u2, w = [u, u2] ∧ RV K H al v u ∧ RV K H al v2 u2 := by
  obtain ⟨u, r, rfl, h1, h2⟩ := h
  obtain ⟨u2, rfl, h3⟩ := RVs.oneI h2
  exact ⟨u, u2, rfl, h1, h3⟩
theorem lst_of {v : AV} {w : V} {xs : List AV} (rel : Rel g al st H) (rv : RV g.K H al v w) (e : lstA st v = some xs) : ∃ p ws, w = .ref p ∧ SqL g.K H p ws ∧ RVs g.K H al xs ws := by
  cases v with
  | ref n =>
    simp only [lstA] at e
    split at e
    · rename_i ys q
      cases e
      obtain ⟨p, ws, rfl, _, hp, r⟩ := ref_lst rel rv q
      exact ⟨p, ws, rfl, .inl (.inl hp), r⟩
    · cases e
  | rol ys =>
    cases e
    obtain ⟨p, rfl, hp⟩ := rv
    exact ⟨p, _, rfl, hp.sq, RVs.ints⟩
  | _ => cases e
theorem bools_of : ∀ {xs : List AV} {bs : List Bool} {ws : List V}, RVs g.K H al xs ws → boolsA xs = some bs → ws = bs.map V.bl
  | [], bs, ws, h, e => by
    cases e
    exact h
  | x :: xs, bs, ws, ⟨w, r, e1, h1, h2⟩, e => by
    subst e1
    cases x with
    | bl b =>
      have e : (boolsA xs).map (b :: ·) = some bs := e
      obtain ⟨cs, e2, rfl⟩ := Option.map_eq_some_iff.mp e
      obtain rfl : w = .bl b := h1
      rw [bools_of h2 e2]
      rfl
    | _ => cases e
theorem ints_of : ∀ {xs : List AV} {bs : List Int} {ws : List V}, RVs g.K H al xs ws → intsA xs = some bs → ws = bs.map V.int
  | [], bs, ws, h, e => by
    cases e
    exact h
  | x :: xs, bs, ws, ⟨w, r, e1, h1, h2⟩, e => by
    subst e1
    cases x with
    | int b =>
      have e : (intsA xs).map (b :: ·) = some bs := e
      obtain ⟨cs, e2, rfl⟩ := Option.map_eq_some_iff.mp e
      obtain rfl : w = .int b := h1
      rw [ints_of h2 e2]
      rfl
    | _ => cases e
theorem T8_len (x : List Nat) : (T8 x).length = x.length := by simp [T8, Str.length]
theorem T8_lim {x : List Nat} (h : x.length ≤ lim) : (T8 x).length ≤ sizeLine := by rw [T8_len, sizeLine_eq]; exact h
theorem cl_len {X : Cx} (hK : X.K = g.K) : CallR X (.builtin "len") (CA g (callB .len)) := by
  refine CallR.imp (CallR.or2 (call_len (X := X)) (CallR.or2 call_lenD call_len_dT)) fun vs H Q h => ?_
  obtain ⟨al, st, as, W, rel, ra, h⟩ := h
  simp only [callB] at h
  split at h
  · rename_i x
    obtain ⟨u, rfl, r⟩ := ra.oneI
    obtain rfl : u = .str (T8 x) := r
    by_cases hl : x.length ≤ lim
    · rw [if_pos hl] at h
      exact .inl ⟨_, x.length, rfl, ⟨T8_lim hl, (T8_len x).symm⟩, Post.same h rel rfl⟩
    · rw [if_neg hl] at h
      exact h.elim
  · rename_i x
    obtain ⟨u, rfl, r⟩ := ra.oneI
    obtain ⟨p, ws, rfl, hp, r⟩ := r
    exact .inl ⟨_, x.length, rfl, .inr ⟨ws, .inl (.inl hp), r.length⟩, Post.same h rel rfl⟩
  · rename_i n
    obtain ⟨u, rfl, r⟩ := ra.oneI
    split at h
    · rename_i x q
      obtain ⟨p, ws, rfl, _, hp, r⟩ := ref_lst rel r q
      exact .inl ⟨_, x.length, rfl, .inl ⟨ws, .inl (.inl hp), r.length⟩, Post.same h rel rfl⟩
    · rename_i x q
      obtain ⟨p, ws, rfl, _, hp, r⟩ := ref_dK rel r q
      refine .inr (.inl ⟨p, ws, rfl, hp, ?_⟩)
      rw [← r.length]
      exact Post.same h rel rfl
    · rename_i x q
      obtain ⟨p, ws, rfl, _, hp, r⟩ := ref_dT rel r q
      refine .inr (.inr ⟨p, ws, rfl, hp, ?_⟩)
      rw [← r.length]
      exact Post.same h rel rfl
    · exact h.elim
  · rename_i x
    obtain ⟨u, rfl, r⟩ := ra.oneI
    obtain ⟨p, rfl, hp⟩ := r
    refine .inl ⟨_, x.length, rfl, .inl ⟨_, hK ▸ hp.sq, by rw [List.length_map]⟩, Post.same h rel rfl⟩
  · exact h.elim
theorem cl_int {X : Cx} : CallR X (.type "int") (CA g (callB .int)) := by
  refine CallR.imp (CallR.or2 (call_int1 (X := X)) call_int_str) fun vs H Q h => ?_
  obtain ⟨al, st, as, W, rel, ra, h⟩ := h
  simp only [callB] at h
  split at h
  · rename_i x
    obtain ⟨u, rfl, r⟩ := ra.oneI
    obtain rfl : u = .int x := r
    exact .inl (.inl ⟨x, rfl, Post.same h rel rfl⟩)
  · rename_i x
    obtain ⟨u, rfl, r⟩ := ra.oneI
    obtain rfl : u = .bl x := r
    exact .inl (.inr ⟨x, rfl, Post.same h rel rfl⟩)
  · rename_i x
    obtain ⟨u, rfl, r⟩ := ra.oneI
    obtain rfl : u = .str (T8 x) := r
    by_cases hl : x.length ≤ 640
    · rw [if_pos hl] at h
      split at h
      · rename_i n e
        exact .inr ⟨_, n, rfl, e, by rw [T8_len]; exact hl, Post.same h rel rfl⟩
      · exact h.elim
    · rw [if_neg hl] at h
      exact h.elim
  · exact h.elim
theorem cl_str {X : Cx} : CallR X (.type "str") (CA g (callB .str)) := by
  refine CallR.imp (CallR.or2 (call_str_int (X := X)) SkE.call_str_str) fun vs H Q h => ?_
  obtain ⟨al, st, as, W, rel, ra, h⟩ := h
  simp only [callB] at h
  split at h
  · rename_i x
    obtain ⟨u, rfl, r⟩ := ra.oneI
    obtain rfl : u = .int x := r
    by_cases hl : x.natAbs.log2 < 1920
    · rw [if_pos hl] at h
      exact .inl ⟨x, rfl, hl, Post.same h rel rfl⟩
    · rw [if_neg hl] at h
      exact h.elim
  · rename_i x
    obtain ⟨u, rfl, r⟩ := ra.oneI
    obtain rfl : u = .str (T8 x) := r
    exact .inr ⟨_, rfl, Post.same h rel rfl⟩
  · exact h.elim
theorem seq_of {v : AV} {w : V} {xs : List AV} (rel : Rel g al st H) (rv : RV g.K H al v w) (e : seqA st v = some xs) : ∃ p ws, w = .ref p ∧ (SqL g.K H p ws ∨ SqT g.K H p ws ∧ v = .tup xs) ∧ RVs g.K H al xs ws := by
  cases v with
  | ref n =>
    simp only [seqA] at e
    split at e
    · rename_i ys q
      cases e
      obtain ⟨p, ws, rfl, _, hp, r⟩ := ref_lst rel rv q
      exact ⟨p, ws, rfl, .inl (.inl (.inl hp)), r⟩
    · cases e
  | rol ys =>
    cases e
    obtain ⟨p, rfl, hp⟩ := rv
    exact ⟨p, _, rfl, .inl hp.sq, RVs.ints⟩
  | tup ys =>
    cases e
    obtain ⟨p, ws, rfl, hp, r⟩ := rv
    exact ⟨p, ws, rfl, .inr ⟨.inl (.inl hp), rfl⟩, r⟩
  | _ => cases e
theorem cl_list {X : Cx} (hK : X.K = g.K) : CallR X (.type "list") (CA g (callB .list)) := by
  refine CallR.imp (call_list_of (X := X)) fun vs H Q h => ?_
  obtain ⟨al, st, as, W, rel, ra, h⟩ := h
  simp only [callB] at h
  split at h
  · obtain ⟨u, rfl, r⟩ := ra.oneI
    split at h
    · rename_i ys q
      obtain ⟨p, ws, rfl, hp, r⟩ := seq_of rel r q
      refine ⟨p, ws, rfl, ?_, fun q hq => h.newL rel r hq⟩
      rw [hK]
      rcases hp with hp | hp
      · exact .inl hp
      · exact .inr hp.1
    · exact h.elim
  · exact h.elim
theorem cl_tuple {X : Cx} (hK : X.K = g.K) : CallR X (.type "tuple") (CA g (callB .tuple)) := by
  refine CallR.imp (call_tuple_of (X := X)) fun vs H Q h => ?_
  obtain ⟨al, st, as, W, rel, ra, h⟩ := h
  simp only [callB] at h
  split at h
  · obtain ⟨u, rfl, r0⟩ := ra.oneI
    split at h
    · rename_i ys q
      obtain ⟨p, ws, rfl, hp, r⟩ := seq_of rel r0 q
      refine ⟨p, ws, rfl, ?_⟩
      rw [hK]
      rcases hp with hp | ⟨hp, rfl⟩
      · exact .inl ⟨hp, fun q hq => h.newT rel r hq⟩
      · exact .inr ⟨hp, Post.same h rel r0⟩
    · exact h.elim
  · exact h.elim
theorem cl_abs {X : Cx} : CallR X (.builtin "abs") (CA g (callB .abs)) := by
  refine CallR.imp (call_abs (X := X)) fun vs H Q h => ?_
  obtain ⟨al, st, as, W, rel, ra, h⟩ := h
  simp only [callB] at h
  split at h
  · rename_i x
    obtain ⟨u, rfl, r⟩ := ra.oneI
    obtain rfl : u = .int x := r
    exact ⟨x, rfl, Post.same h rel rfl⟩
  · exact h.elim
theorem cl_max {X : Cx} (hc : X.calm = true) : CallR X (.builtin "max") (CA g (callB .max)) := by
  refine CallR.imp (call_max2 hc) fun vs H Q h => ?_
  obtain ⟨al, st, as, W, rel, ra, h⟩ := h
  simp only [callB] at h
  split at h
  · rename_i x y
    obtain ⟨u, u2, rfl, r, r2⟩ := ra.twoI
    obtain rfl : u = .int x := r
    obtain rfl : u2 = .int y := r2
    exact ⟨x, y, rfl, Post.same h rel rfl⟩
  · exact h.elim
theorem cl_all {X : Cx} (hK : X.K = g.K) (hc : X.calm = true) : CallR X (.builtin "all") (CA g (callB .all)) := by
  refine CallR.imp (cr_all hc) fun vs H Q h => ?_
  obtain ⟨al, st, as, W, rel, ra, h⟩ := h
  simp only [callB] at h
  split at h
  · obtain ⟨u, rfl, r0⟩ := ra.oneI
    split at h
    · rename_i ys q
      obtain ⟨p, ws, rfl, hp, r⟩ := lst_of rel r0 q
      obtain ⟨b, e, q⟩ := Post.ofB h rel
      obtain ⟨bs, e1, rfl⟩ := Option.map_eq_some_iff.mp e
      refine ⟨p, bs, rfl, ?_, q⟩
      rw [hK, ← bools_of r e1]
      exact hp
    · exact h.elim
  · exact h.elim
theorem cl_any {X : Cx} (hK : X.K = g.K) (hc : X.calm = true) : CallR X (.builtin "any") (CA g (callB .any)) := by
  refine CallR.imp (cr_any hc) fun vs H Q h => ?_
  obtain ⟨al, st, as, W, rel, ra, h⟩ := h
  simp only [callB] at h
  split at h
  · obtain ⟨u, rfl, r0⟩ := ra.oneI
    split at h
    · rename_i ys q
      obtain ⟨p, ws, rfl, hp, r⟩ := lst_of rel r0 q
      obtain ⟨b, e, q⟩ := Post.ofB h rel
      obtain ⟨bs, e1, rfl⟩ := Option.map_eq_some_iff.mp e
      refine ⟨p, bs, rfl, ?_, q⟩
      rw [hK, ← bools_of r e1]
      exact hp
    · exact h.elim
  · exact h.elim
theorem cl_sum {X : Cx} (hK : X.K = g.K) (hc : X.calm = true) : CallR X (.builtin "sum") (CA g (callB .sum)) := by
  refine CallR.imp (cr_sum hc) fun vs H Q h => ?_
  obtain ⟨al, st, as, W, rel, ra, h⟩ := h
  simp only [callB] at h
  split at h
  · obtain ⟨u, rfl, r0⟩ := ra.oneI
    split at h
    · rename_i ys q
      obtain ⟨p, ws, rfl, hp, r⟩ := lst_of rel r0 q
      split at h
      · rename_i ns e
        refine ⟨p, ns, rfl, ?_, Post.same h rel rfl⟩
        rw [hK, ← ints_of r e]
        exact hp
      · exact h.elim
    · exact h.elim
  · exact h.elim

/-! ### isinstance -/
def tyOf : Ty → Option String
  | .bool => some "bool" | .int => some "int" | .str => some "str" | .list => some "list" | .tuple => some "tuple" | .dict => some "dict" | .cls _ => none
/-- the answers of the model's table -/
theorem kit_all : ∀ t ∈ [Ty.bool, .int, .str, .list, .tuple, .dict], ∀ n ∈ tyOf t,
    kitB "NoneType" n = some false ∧ kitB "bool" n = some (decide (t = .bool ∨ t = .int)) ∧ kitB "int" n = some (decide (t = .int)) ∧ kitB "str" n = some (decide (t = .str)) ∧
    kitB "tuple" n = some (decide (t = .tuple)) ∧ kitB "list" n = some (decide (t = .list)) ∧ kitB "dict" n = some (decide (t = .dict)) := by decide +kernel
theorem ty_mem {t : Ty} {n : String} (h : tyOf t = some n) : t ∈ [Ty.bool, .int, .str, .list, .tuple, .dict] := by
  cases t <;> first | (cases h; done) | (simp; done)
theorem isA_ok {v : AV} {w : V} {t : Ty} {n : String} {b : Bool} {T : Tab} (rel : Rel g al st H) (rv : RV g.K H al v w) (ht : tyOf t = some n) (e : isA T t v st = some b) : ∃ u, TyX g.K H w u ∧ PySem.W.kitOne g.K u (.type n) = some b := by
  obtain ⟨k1, k2, k3, k4, k5, k6, k7⟩ := kit_all t (ty_mem ht) n ht
  cases v with
  | non =>
    obtain rfl : w = .non := rv
    cases e
    exact ⟨_, .base .non, kit_ty k1⟩
  | bl x =>
    obtain rfl : w = .bl x := rv
    cases e
    exact ⟨_, .base (.bl x), kit_ty k2⟩
  | int x =>
    obtain rfl : w = .int x := rv
    cases e
    exact ⟨_, .base (.int x), kit_ty k3⟩
  | str x =>
    obtain rfl : w = .str (T8 x) := rv
    cases e
    exact ⟨_, .base (.str _), kit_ty k4⟩
  | tup x =>
    obtain ⟨p, ws, rfl, hp, r⟩ := rv
    cases e
    exact ⟨_, .base (.tup hp), kit_ty k5⟩
  | rol x =>
    obtain ⟨p, rfl, hp⟩ := rv
    cases e
    rcases hp with ⟨o, hp⟩ | ⟨o, its, m, h1, h2, _⟩
    · exact ⟨_, .base (.frz hp), kit_ty k6⟩
    · exact ⟨_, .kList h1 h2, kit_ty k6⟩
  | ref m =>
    simp only [isA] at e
    split at e
    · rename_i x q
      obtain ⟨p, ws, rfl, _, hp, r⟩ := ref_lst rel rv q
      cases e
      exact ⟨_, .base (.lst hp), kit_ty k6⟩
    · rename_i x q
      obtain ⟨p, ws, rfl, _, hp, r⟩ := ref_dK rel rv q
      cases e
      exact ⟨_, .base (.dK hp), kit_ty k7⟩
    · rename_i x q
      obtain ⟨p, ws, rfl, _, hp, r⟩ := ref_dT rel rv q
      cases e
      exact ⟨_, .base (.dT hp), kit_ty k7⟩
    all_goals cases e

/-! ### methods of lists -/
def MA (g : G) (s : Sel) (m : Nat) : V → List V → Hp → VK → Prop := fun x vs H Q => ∃ al st v as W, Rel g al st H ∧ RV g.K H al v x ∧ RVs g.K H al as vs ∧ Post g (rvOf g) (bmeth s m v as st) al H Q W
theorem MtM.imp {X : Cx} {id : String} {r r' : V → List V → Hp → VK → Prop} (h : MtM X id r) (i : ∀ x xs H Q, r' x xs H Q → r x xs H Q) : MtR X id r' :=
  fun pins s σ H x xs v us Q I rx ry q => h pins s σ H x xs v us Q I rx ry (i _ _ _ _ q)
theorem MtM.or2 {X : Cx} {id : String} {r r' : V → List V → Hp → VK → Prop} (h : MtM X id r) (h' : MtM X id r') : MtM X id (fun x xs H Q => r x xs H Q ∨ r' x xs H Q) := by
  intro pins s σ H x xs v us Q I rx ry q
  rcases q with q | q
  · exact h pins s σ H x xs v us Q I rx ry q
  · exact h' pins s σ H x xs v us Q I rx ry q
theorem bm_lst {m : Nat} {v : AV} {x : V} {as : List AV} {W : Nat → Hp → Prop} {Q : VK} (rel : Rel g al st H) (rx : RV g.K H al v x) (h : Post g (rvOf g) (bmeth .lst m v as st) al H Q W) :
    ∃ n ys p ws, x = .ref p ∧ al n = some p ∧ H p = some (.lst ws) ∧ RVs g.K H al ys ws ∧ Post g (rvOf g) (lmeth m n ys as st) al H Q W := by
  cases v with
  | ref n =>
    simp only [bmeth] at h
    split at h
    · rename_i ys e
      obtain ⟨p, ws, rfl, ea, hp, r⟩ := ref_lst rel rx e
      exact ⟨n, ys, p, ws, rfl, ea, hp, r, h⟩
    · exact h.elim
  | _ => exact h.elim
theorem Post.chgL {W : Nat → Hp → Prop} {Q : V → Hp → Prop} {v : AV} {w : V} {n : Nat} {p : Addr} {xs : List AV} {ws us : List V} (h : Post g (rvOf g) (.ok v (st.set n (.lst xs))) al H Q W) (r : Rel g al st H) (e : al n = some p) (e2 : H p = some (.lst us))
    (rv : RV g.K H al v w) (r2 : RVs g.K H al xs ws) : Q w (upd H p (.lst ws)) :=
  h.chg r e e2 rv ⟨ws, upd_same, RVs.step r.notup (stp_set e e2) _ _ r2⟩
theorem mt_app {X : Cx} : MtR X "list.append" (MA g .lst 0) := by
  refine MtM.imp (mt_append (X := X)) fun x vs H Q h => ?_
  obtain ⟨al, st, v0, as, W, rel, rx, ra, h⟩ := h
  replace h := bm_lst rel rx h
  obtain ⟨n, ys, p, ws, rfl, ea, hp, r, h⟩ := h
  simp only [lmeth] at h
  split at h
  · obtain ⟨u, rfl, r1⟩ := ra.oneI
    by_cases hl : ys.length < lim
    · rw [if_pos hl] at h
      exact ⟨p, ws, u, rfl, rfl, hp, by rw [← r.length, sizeLine_eq]; exact hl, h.chgL rel ea hp rfl (r.append (RVs.one r1))⟩
    · rw [if_neg hl] at h
      exact h.elim
  · exact h.elim
theorem mt_ext {X : Cx} : MtR X "list.extend" (MA g .lst 1) := by
  refine MtM.imp (mt_extend (X := X)) fun x vs H Q h => ?_
  obtain ⟨al, st, v0, as, W, rel, rx, ra, h⟩ := h
  replace h := bm_lst rel rx h
  obtain ⟨n, ys, p, ws, rfl, ea, hp, r, h⟩ := h
  simp only [lmeth] at h
  split at h
  · obtain ⟨u, rfl, r1⟩ := ra.oneI
    split at h
    · rename_i zs q
      obtain ⟨p2, ws2, rfl, _, hp2, r2⟩ := ref_lst rel r1 q
      by_cases hl : ys.length + zs.length ≤ lim
      · rw [if_pos hl] at h
        exact ⟨p, p2, ws, ws2, rfl, rfl, hp, hp2, by rw [← r.length, ← r2.length, sizeLine_eq]; exact hl, h.chgL rel ea hp rfl (r.append r2)⟩
      · rw [if_neg hl] at h
        exact h.elim
    · exact h.elim
  · exact h.elim
theorem mt_ins {X : Cx} : MtR X "list.insert" (MA g .lst 2) := by
  refine MtM.imp (mt_insert (X := X)) fun x vs H Q h => ?_
  obtain ⟨al, st, v0, as, W, rel, rx, ra, h⟩ := h
  replace h := bm_lst rel rx h
  obtain ⟨n, ys, p, ws, rfl, ea, hp, r, h⟩ := h
  simp only [lmeth] at h
  split at h
  · rename_i i v
    obtain ⟨u, u2, rfl, r1, r2⟩ := ra.twoI
    obtain rfl : u = .int i := r1
    by_cases hl : 0 ≤ i ∧ i < 2 ^ 63 ∧ ys.length < lim
    · rw [if_pos hl] at h
      exact ⟨p, ws, i, u2, rfl, rfl, hp, by rw [← r.length, sizeLine_eq]; exact hl.2.2, hl.1, hl.2.1, h.chgL rel ea hp rfl (((r.take _).append (RVs.one r2)).append (r.drop _))⟩
    · rw [if_neg hl] at h
      exact h.elim
  · exact h.elim
theorem RVs.dropLast {K : PySem.W.Frag} {v : List AV} {w : List V} (h : RVs K H al v w) : RVs K H al v.dropLast w.dropLast := by
  rw [List.dropLast_eq_take, List.dropLast_eq_take, h.length]
  exact h.take _
theorem mt_popA {X : Cx} : MtR X "list.pop" (MA g .lst 3) := by
  refine MtM.imp (MtM.or2 (mt_pop (X := X)) mt_popAt) fun x vs H Q h => ?_
  obtain ⟨al, st, v0, as, W, rel, rx, ra, h⟩ := h
  replace h := bm_lst rel rx h
  obtain ⟨n, ys, p, ws, rfl, ea, hp, r, h⟩ := h
  simp only [lmeth] at h
  split at h
  · obtain rfl := ra.nilI
    split at h
    · rename_i v q
      obtain ⟨w, h1, h2⟩ := r.get q
      exact .inl ⟨p, ws, w, rfl, rfl, hp, by rw [← r.length]; exact h1, h.chgL rel ea hp h2 r.dropLast⟩
    · exact h.elim
  · rename_i i
    obtain ⟨u, rfl, r1⟩ := ra.oneI
    obtain rfl : u = .int i := r1
    by_cases hl : ys.length ≤ lim
    · rw [if_pos hl] at h
      split at h
      · rename_i k q
        split at h
        · rename_i v q2
          obtain ⟨w, h1, h2⟩ := r.get q2
          rw [r.length] at q hl
          obtain ⟨z1, z2, z3, z4⟩ := ixN_seq q
          have hz : (lim : Nat) = 16777216 := rfl
          exact .inr ⟨p, ws, i, k, w, rfl, rfl, hp, by omega, by omega, z1, h1, h.chgL rel ea hp h2 (r.eraseAt k)⟩
        · exact h.elim
      · exact h.elim
    · rw [if_neg hl] at h
      exact h.elim
  · exact h.elim
theorem mt_clr {X : Cx} : MtR X "list.clear" (MA g .lst 4) := by
  refine MtM.imp (mt_clear (X := X)) fun x vs H Q h => ?_
  obtain ⟨al, st, v0, as, W, rel, rx, ra, h⟩ := h
  replace h := bm_lst rel rx h
  obtain ⟨n, ys, p, ws, rfl, ea, hp, r, h⟩ := h
  simp only [lmeth] at h
  split at h
  · obtain rfl := ra.nilI
    exact ⟨p, ws, rfl, rfl, hp, h.chgL rel ea hp rfl (show RVs g.K H al [] [] from rfl)⟩
  · exact h.elim
theorem mt_rev {X : Cx} : MtR X "list.reverse" (MA g .lst 5) := by
  refine MtM.imp (mt_reverse (X := X)) fun x vs H Q h => ?_
  obtain ⟨al, st, v0, as, W, rel, rx, ra, h⟩ := h
  replace h := bm_lst rel rx h
  obtain ⟨n, ys, p, ws, rfl, ea, hp, r, h⟩ := h
  simp only [lmeth] at h
  split at h
  · obtain rfl := ra.nilI
    exact ⟨p, ws, rfl, rfl, hp, h.chgL rel ea hp rfl r.rev⟩
  · exact h.elim
theorem strsA_rv : ∀ {ys : List AV} {zs : List (List Nat)} {ws : List V}, strsA ys = some zs → RVs g.K H al ys ws → ws = (zs.map T8).map V.str
  | [], zs, ws, h, r => by
    have h : some [] = some zs := h
    cases h
    exact r
  | y :: ys, zs, ws, h, ⟨w, r, e, h1, h2⟩ => by
    cases y with
    | str b =>
      have h : (strsA ys).map (b :: ·) = some zs := h
      cases q : strsA ys with
      | none => rw [q] at h; cases h
      | some us =>
        rw [q] at h
        cases h
        obtain rfl : w = .str (T8 b) := h1
        rw [e, strsA_rv q h2]
        rfl
    | _ => cases h
theorem mt_joinA {X : Cx} (hK : X.K = g.K) : MtR X "str.join" (MA g .str 10) := by
  refine MtM.imp (mt_join (X := X)) fun x vs H Q h => ?_
  obtain ⟨al, st, v0, as, W, rel, rx, ra, h⟩ := h
  cases v0 with
  | str a =>
    obtain rfl : x = .str (T8 a) := rx
    simp only [bmeth, smeth] at h
    unfold sjoin at h
    split at h
    · rename_i n
      split at h
      · rename_i ys q
        split at h
        · rename_i zs q2
          obtain ⟨u, rfl, r1⟩ := ra.oneI
          obtain ⟨p, ws, rfl, _, hp, r⟩ := ref_lst rel r1 q
          obtain rfl := strsA_rv q2 r
          have e1 : ((zs.map T8).map (·.length)).sum = (zs.map List.length).sum := by
            congr 1
            rw [List.map_map]
            apply List.map_congr_left
            intro y _
            simp [Str.length]
          by_cases hl : (zs.map List.length).sum + zs.length * a.length ≤ lim
          · rw [if_pos hl] at h
            refine ⟨T8 a, p, zs.map T8, rfl, rfl, .inl (.inl (.inl hp)), ?_, ?_⟩
            · rw [e1, List.length_map]
              have : (T8 a).length = a.length := by simp [Str.length]
              rw [this]
              exact hl
            · exact h al H (.str (Txt.join (T8 a) (zs.map T8))) (Stp.refl _ _) rel (by
                show V.str _ = V.str (T8 (joinA a zs))
                unfold joinA
                rfl)
          · rw [if_neg hl] at h
            exact h.elim
        · exact h.elim
      · exact h.elim
    · exact h.elim
  | _ => exact h.elim
theorem mt_countA {X : Cx} : MtR X "str.count" (MA g .str 7) := by
  refine MtM.imp (mt_count (X := X)) fun x vs H Q h => ?_
  obtain ⟨al, st, v0, as, W, rel, rx, ra, h⟩ := h
  cases v0 with
  | str a =>
    obtain rfl : x = .str (T8 a) := rx
    simp only [bmeth, smeth] at h
    split at h
    · rename_i b
      obtain ⟨u, rfl, r1⟩ := ra.oneI
      obtain rfl : u = .str (T8 b) := r1
      exact ⟨T8 a, T8 b, rfl, rfl, Post.same h rel rfl⟩
    · exact h.elim
  | _ => exact h.elim
theorem mt_findA {X : Cx} : MtR X "str.find" (MA g .str 11) := by
  refine MtM.imp (mt_find (X := X)) fun x vs H Q h => ?_
  obtain ⟨al, st, v0, as, W, rel, rx, ra, h⟩ := h
  cases v0 with
  | str a =>
    obtain rfl : x = .str (T8 a) := rx
    simp only [bmeth, smeth] at h
    split at h
    · rename_i b
      obtain ⟨u, rfl, r1⟩ := ra.oneI
      obtain rfl : u = .str (T8 b) := r1
      exact ⟨T8 a, T8 b, rfl, rfl, Post.same h rel rfl⟩
    · exact h.elim
  | _ => exact h.elim
theorem rvs_strs {K : PySem.W.Frag} : ∀ ys : List Str, RVs K H al (ys.map fun y => AV.str y.cps.toList) (ys.map V.str)
  | [] => rfl
  | y :: ys => ⟨_, _, rfl, (by show V.str y = V.str (T8 y.cps.toList); rfl), rvs_strs ys⟩
theorem mt_splitA {X : Cx} : MtR X "str.split" (MA g .str 9) := by
  refine MtM.imp (mt_split (X := X)) fun x vs H Q h => ?_
  obtain ⟨al, st, v0, as, W, rel, rx, ra, h⟩ := h
  cases v0 with
  | str a =>
    obtain rfl : x = .str (T8 a) := rx
    simp only [bmeth, smeth] at h
    split at h
    · rename_i b
      obtain ⟨u, rfl, r1⟩ := ra.oneI
      obtain rfl : u = .str (T8 b) := r1
      by_cases hb : b ≠ [] ∧ a.length + 2 ≤ lim
      · rw [if_pos hb] at h
        refine ⟨T8 a, T8 b, rfl, rfl, ?_, ?_, fun p hp => h.newL rel (rvs_strs _) hp⟩
        · have : (T8 b).length ≠ 0 := by rw [T8_len]; exact fun z => hb.1 (List.eq_nil_of_length_eq_zero z)
          simpa using this
        · rw [T8_len, sizeLine_eq]; exact hb.2
      · rw [if_neg hb] at h
        exact h.elim
    · exact h.elim
  | _ => exact h.elim
theorem mt_indexA {X : Cx} (hK : X.K = g.K) (hu : X.A.units + 65 < cLine) : MtR X "list.index" (MA g .lst 6) := by
  refine MtM.imp (mt_indexD hu) fun x vs H Q h => ?_
  obtain ⟨al, st, v0, as, W, rel, rx, ra, h⟩ := h
  cases v0 with
  | ref n =>
    simp only [bmeth] at h
    split at h
    · rename_i ys q
      simp only [lmeth] at h
      split at h
      · rename_i v
        obtain ⟨u, rfl, r1⟩ := ra.oneI
        split at h
        · rename_i ds d q1 q2
          split at h
          · rename_i j q3
            obtain ⟨h1, h2⟩ := pdS_dp rel rx q1
            obtain ⟨h3, h4⟩ := pdS_dp rel r1 q2
            obtain ⟨p, ws, rfl, _, hp, r⟩ := ref_lst rel rx q
            obtain ⟨hj, k1, k2⟩ := List.findIdx?_eq_some_iff_getElem.mp q3
            refine ⟨p, u, d, ds, j, ds[j], rfl, rfl, hK ▸ h1, hK ▸ h3, h2, h4, List.getElem?_eq_getElem hj, k1, fun m z' hm hz => ?_, Post.same h rel rfl⟩
            obtain ⟨hm2, rfl⟩ := List.getElem?_eq_some_iff.mp hz
            have := k2 m hm
            simpa using this
          · exact h.elim
        · exact h.elim
      · exact h.elim
    · exact h.elim
  | _ => exact h.elim
theorem mt_getA {X : Cx} (hu : X.A.units + 1 < cLine) : MtR X "dict.get" (MA g .dic 8) := by
  intro pins s σ H x xs v us Q I rx rs h
  obtain ⟨al, st, v0, as, W, rel, rv, ra, h⟩ := h
  cases v0 with
  | ref n =>
    simp only [bmeth, show ¬ (8 : Nat) = 3 by decide, if_false] at h
    split at h
    · rename_i i r0
      have key : ∀ {o : Option AV} {y : V}, dlook st n i = some o → RV g.K H al i y → ∃ a o2, x = .ref a ∧ DGet H a y o2 ∧ (∀ d w, RV g.K H al d w → RV g.K H al (o.getD d) (o2.getD w)) := by
        intro o y hd ry
        unfold dlook at hd
        split at hd
        · rename_i kvs q0
          cases q1 : keyK i with
          | none => rw [q1] at hd; cases hd
          | some k =>
            rw [q1] at hd
            cases hd
            obtain ⟨p, ws, rfl, _, hp, r⟩ := ref_dK rel rv q0
            refine ⟨p, _, rfl, by rw [keyK_is ry q1]; exact DGet.k hp, fun d w rd => ?_⟩
            show RV g.K H al ((getK k kvs).getD d) _
            cases q2 : getK k kvs with
            | none => rw [RP.none k r q2]; exact rd
            | some u =>
              obtain ⟨w2, e2, r2⟩ := RP.val k r q2
              rw [e2]; exact r2
        · rename_i kvs q0
          cases q1 : keyT i with
          | none => rw [q1] at hd; cases hd
          | some k =>
            rw [q1] at hd
            cases hd
            obtain ⟨p, ws, rfl, _, hp, r⟩ := ref_dT rel rv q0
            obtain ⟨b2, rfl, hb⟩ := keyT_is ry q1
            refine ⟨p, _, rfl, DGet.t hp hb, fun d w rd => ?_⟩
            show RV g.K H al ((getK k kvs).getD d) _
            cases q2 : getK k kvs with
            | none => rw [RP.none k r q2]; exact rd
            | some u =>
              obtain ⟨w2, e2, r2⟩ := RP.val k r q2
              rw [e2]; exact r2
        · cases hd
      cases hd : dlook st n i with
      | none => rw [hd] at h; exact h.elim
      | some o =>
        rw [hd] at h
        unfold dgetA at h
        dsimp only at h
        cases r0 with
        | nil =>
          obtain ⟨w, rfl, r1⟩ := ra.oneI
          obtain ⟨a, o2, rfl, hg, hr⟩ := key hd r1
          obtain rfl : v = Value.ref a := rx
          cases rs with
          | cons ru rs =>
            cases rs
            refine d_get1 hu I hg ru fun w' s' I' rw' => ⟨_, H, I', rw', ?_⟩
            exact h al H _ (Stp.refl _ _) rel (hr .non .non rfl)
        | cons d r1 =>
          cases r1 with
          | nil =>
            obtain ⟨w, wd, rfl, r1, r2⟩ := ra.twoI
            obtain ⟨a, o2, rfl, hg, hr⟩ := key hd r1
            obtain rfl : v = Value.ref a := rx
            cases rs with
            | cons ru rs =>
              cases rs with
              | cons rd rs =>
                cases rs
                refine d_get2 hu I hg ru rd fun w' s' I' rw' => ⟨_, H, I', rw', ?_⟩
                exact h al H _ (Stp.refl _ _) rel (hr d wd r2)
          | cons _ _ => exact h.elim
    · exact h.elim
  | _ => exact h.elim
theorem RP.drop {κ : Type} [DecidableEq κ] {k : κ} {K : PySem.W.Frag} {H : Hp} {al : Al} : ∀ {xs : List (κ × AV)} {ws : List (κ × V)}, RP K H al xs ws → RP K H al (dropA k xs) (dropK ws k)
  | [], ws, h => by
    obtain rfl : ws = [] := h
    rfl
  | x :: xs, ws, ⟨w, r, e1, h1, h2⟩ => by
    subst e1
    unfold dropA dropK
    rw [List.filter_cons, List.filter_cons]
    by_cases z : x.1 = k
    · rw [if_neg (by simp [z]), if_neg (by simp [z])]
      exact RP.drop h2
    · rw [if_pos (by simp [z]), if_pos (by simp [z])]
      exact ⟨w, _, rfl, h1, RP.drop h2⟩
theorem mt_dpopA {X : Cx} : MtR X "dict.pop" (MA g .dic 3) := by
  intro pins s σ H x xs v us Q I rx rs h
  obtain ⟨al, st, v0, as, W, rel, rv, ra, h⟩ := h
  cases v0 with
  | ref n =>
    simp only [bmeth, if_true] at h
    unfold dpopA at h
    split at h
    · rename_i i
      split at h
      · rename_i kvs q0
        split at h
        · rename_i k q1
          split at h
          · rename_i u q2
            obtain ⟨w, rfl, r1⟩ := ra.oneI
            obtain ⟨p, ws, rfl, ea, hp, r⟩ := ref_dK rel rv q0
            obtain rfl := keyK_is r1 q1
            obtain ⟨w2, e2, r2⟩ := RP.val k r q2
            obtain rfl : v = Value.ref p := rx
            cases rs with
            | cons ru rs =>
              cases rs
              refine d_pop I hp ru e2 (.inl rfl) fun w' s' I' rw' => ⟨w2, _, I', rw', ?_⟩
              exact h.chg rel ea hp r2 ⟨_, upd_same, RP.step rel.notup (stp_set ea hp) _ _ r.drop⟩
          · exact h.elim
        · exact h.elim
      · exact h.elim
    · exact h.elim
  | _ => exact h.elim
end
end L3

/-! SndS: sorted, index, methods of texts. -/
namespace L3
open PySem PySem.Spec PyProof.Rows L2

section
variable {g : G} {al al' : Al} {H H' : Hp} {st : Sto}
theorem RP.put {κ : Type} [DecidableEq κ] {k : κ} {v : AV} {w : V} {K : PySem.W.Frag} (rv : RV K H al v w) {xs : List (κ × AV)} {ws : List (κ × V)} (h : RP K H al xs ws) : RP K H al (L3.putK k v xs) (L2.putK ws k w) := by
  have hh : ∀ {xs : List (κ × AV)} {ws : List (κ × V)}, RP K H al xs ws → (ws.any fun kv => decide (kv.1 = k)) = hasK k xs := by
    intro xs
    induction xs with
    | nil => intro ws h; obtain rfl : ws = [] := h; rfl
    | cons x xs ih =>
      intro ws ⟨u, r, e1, h1, h2⟩
      subst e1
      unfold hasK
      rw [List.any_cons, List.any_cons, ih h2]
      rfl
  have hm : ∀ {xs : List (κ × AV)} {ws : List (κ × V)}, RP K H al xs ws → RP K H al (xs.map fun p => if p.1 = k then (p.1, v) else p) (ws.map fun kv => if kv.1 = k then (kv.1, w) else kv) := by
    intro xs
    induction xs with
    | nil => intro ws h; obtain rfl : ws = [] := h; rfl
    | cons x xs ih =>
      intro ws ⟨u, r, e1, h1, h2⟩
      subst e1
      rw [List.map_cons, List.map_cons]
      by_cases z : x.1 = k
      · rw [if_pos z, if_pos z]
        exact ⟨w, _, rfl, rv, ih h2⟩
      · rw [if_neg z, if_neg z]
        exact ⟨u, _, rfl, h1, ih h2⟩
  have ha : ∀ {xs : List (κ × AV)} {ws : List (κ × V)}, RP K H al xs ws → RP K H al (xs ++ [(k, v)]) (ws ++ [(k, w)]) := by
    intro xs
    induction xs with
    | nil => intro ws h; obtain rfl : ws = [] := h; exact ⟨w, [], rfl, rv, rfl⟩
    | cons x xs ih =>
      intro ws ⟨u, r, e1, h1, h2⟩
      subst e1
      exact ⟨u, _, rfl, h1, ih h2⟩
  unfold L3.putK L2.putK
  rw [hh h]
  by_cases z : hasK k xs = true
  · rw [if_pos z, if_pos z]; exact hm h
  · rw [if_neg z, if_neg z]; exact ha h
theorem oAll_mapD {α β : Type} {f : α → Option β} {d : β} : ∀ {xs : List α} {ds : List β}, oAll f xs = some ds → xs.map (fun x => (f x).getD d) = ds ∧ ∀ x ∈ xs, ∃ y, f x = some y
  | [], _, e => by cases e; exact ⟨rfl, fun x h => by cases h⟩
  | x :: xs, ds, e => by
    simp only [oAll] at e
    split at e
    · rename_i d' r q1 q2
      cases e
      obtain ⟨h1, h2⟩ := oAll_mapD (d := d) q2
      refine ⟨by rw [List.map_cons, q1, h1]; rfl, fun y hy => ?_⟩
      rcases List.mem_cons.mp hy with rfl | hy
      · exact ⟨_, q1⟩
      · exact h2 y hy
    · cases e
theorem alike_of {ds : List PyData} (h : alikeB ds = true) : PySem.W.AllAlike ds := fun d hd e he => List.all_eq_true.mp (List.all_eq_true.mp h d hd) e he
theorem sort_of {ds : List PyData} (h : sortB ds = true) : PySem.W.Sortable ds := by
  unfold sortB at h
  rw [Bool.or_eq_true] at h
  rcases h with h | h
  · refine .inl fun d hd => ?_
    have := List.all_eq_true.mp h d hd
    split at this
    · exact ⟨_, _, rfl⟩
    · cases this
  · refine .inr fun d hd => ?_
    have := List.all_eq_true.mp h d hd
    split at this
    · cases this
    · cases this
    · rename_i h1 h2
      exact ⟨h1, h2⟩
/-- values, and what they stand for -/
def RelA (g : G) (al : Al) (H : Hp) (u : Value) (y : AV) : Prop := ∃ w, RelV w u ∧ RV g.K H al y w
theorem each_rel : ∀ {ys : List AV} {ws : List V} {us : List Value}, RVs g.K H al ys ws → Vals ws us → PySem.W.EachIs (RelA g al H) us ys
  | [], ws, us, h, r => by
    obtain rfl : ws = [] := h
    cases r
    exact .nil
  | y :: ys, ws, us, ⟨w, r, e, h1, h2⟩, hv => by
    subst e
    cases hv with
    | cons a b => exact .cons ⟨w, a, h1⟩ (each_rel h2 b)
theorem rel_each : ∀ {ys : List AV} {us : List Value}, PySem.W.EachIs (RelA g al H) us ys → ∃ ws, RVs g.K H al ys ws ∧ Vals ws us
  | [], _, h => by cases h; exact ⟨[], rfl, .nil⟩
  | y :: ys, _, h => by
    cases h with
    | cons a b =>
      obtain ⟨w, h1, h2⟩ := a
      obtain ⟨ws, h3, h4⟩ := rel_each b
      exact ⟨w :: ws, ⟨w, ws, rfl, h2, h3⟩, .cons h1 h4⟩
theorem each_reads {X : Cx} {pins : List (Addr × Obj)} {σ : L2.St} {s : Shared} (hK : X.K = g.K) (I : Inv X pins σ H s) (rel : Rel g al st H) : ∀ {ys : List AV} {us : List Value}, PySem.W.EachIs (RelA g al H) us ys → (∀ y ∈ ys, ∃ d, pd 9 st y = some d) → PySem.W.EachIs (fun u y => ∃ as, Reads s.heap u (encA st y) as) us ys
  | [], _, h, _ => by cases h; exact .nil
  | y :: ys, _, h, k => by
    cases h with
    | cons a b =>
      obtain ⟨w, h1, h2⟩ := a
      obtain ⟨d, hd⟩ := k y List.mem_cons_self
      refine .cons ?_ (each_reads hK I rel b fun z hz => k z (List.mem_cons_of_mem _ hz))
      have dp := pd_dp rel 9 y w d h2 hd
      rw [← hK] at dp
      unfold encA
      rw [hd]
      exact dp.reads I d _ _ h1
theorem minD_eq (d : PyData) (r : List PyData) : PySem.W.minD d r = leastD d r := rfl
theorem cl_min {X : Cx} (hK : X.K = g.K) (hc : X.calm = true) (hu : X.A.units + 65 < cLine) : CallR X (.builtin "min") (CA g (callB .min)) := by
  intro pins s σ H xs us Q I r h
  obtain ⟨al, st, as, W, rel, ra, h⟩ := h
  simp only [callB] at h
  split at h
  · rename_i x y
    obtain ⟨u, u2, rfl, r1, r2⟩ := ra.twoI
    obtain rfl : u = .int x := r1
    obtain rfl : u2 = .int y := r2
    exact call_min2 hc pins s σ H _ us Q I r ⟨x, y, rfl, Post.same h rel rfl⟩
  · obtain ⟨u, rfl, r1⟩ := ra.oneI
    split at h
    · rename_i ys q
      split at h
      · rename_i ds q2
        unfold minA at h
        split at h
        · rename_i d rr
          by_cases c : alikeB (d :: rr) = true ∧ ((d :: rr).all PyData.canLay0) = true ∧ ((d :: rr).all fun d => !isNon d) = true
          · rw [if_pos c] at h
            split at h
            · rename_i i hf
              split at h
              · rename_i v hv
                split at h
                · rename_i hall
                  obtain ⟨p, ws, rfl, hq, rvs⟩ := lst_of rel r1 q
                  obtain ⟨vv, rfl, rx⟩ := vals1 r
                  cases rx
                  rw [← hK] at hq
                  obtain ⟨its, r', pl, hz⟩ := I.list hq
                  have dp := dpAll_of (fun v w d a b => pd_dp rel 9 v w d a b) ys ws (d :: rr) rvs q2
                  rw [← hK] at dp
                  obtain ⟨as2, hr⟩ := Dp.readsAll I (d :: rr) ws its dp r'
                  have hdep := oAll_dep (fun v d => pd_dep 9 v d) ys (d :: rr) q2
                  have nn : ∀ x ∈ d :: rr, x ≠ .none := fun x hx => by
                    have := List.all_eq_true.mp c.2.2 x hx
                    intro e
                    rw [e] at this
                    cases this
                  refine PySem.W.min_list_data (I.ok.hd hc) pl.isList (vs := its.toArray) hr ⟨alike_of c.1, nn⟩ (by omega) fun i' v' h' tk bs hv' hr' hk => ?_
                  obtain ⟨bs2, ri, hi1, hi2, _⟩ := PySem.W.readsAll_atA (vs := its.toArray) hr i' v' hv'
                  have ri' := PySem.W.reads_keeps hk ri
                  have cl := List.all_eq_true.mp c.2.1 _ hi2
                  have eq1 := (Reads.unique ri' _ _ hr').1
                  have hm := List.all_eq_true.mp hall i' (List.mem_range.mpr hi1)
                  have he : PyData.eqv ((d :: rr).getD i' .none) (leastD d rr) = true := by
                    rw [← minD_eq, ← eq1]
                    exact PySem.SeqAt.eqv_refl _ cl
                  rw [he] at hm
                  have hy : ys[i']? = some v := by simpa using hm
                  obtain ⟨w, hw, rvw⟩ := rvs.get hy
                  obtain ⟨u2, hu2, ru2⟩ := Vals.get r' hw
                  have ev : v' = u2 := by
                    have : its[i']? = some v' := by simpa using hv'
                    rw [hu2] at this
                    exact (Option.some.inj this).symm
                  subst ev
                  exact ⟨w, H, I.kept (t' := tk) hk, ru2, Post.same h rel rvw⟩
                · exact h.elim
              · exact h.elim
            · exact h.elim
          · rw [if_neg c] at h
            exact h.elim
        · exact h.elim
      · exact h.elim
    · exact h.elim
  · exact h.elim
theorem inlK_is : ∀ {ks : List Key} {is : List Int}, inlK ks = some is → ks = is.map Sum.inl
  | [], is, e => by cases e; rfl
  | .inl i :: r, is, e => by
    simp only [inlK, Option.map_eq_some_iff] at e
    obtain ⟨js, e1, rfl⟩ := e
    rw [inlK_is e1]
    rfl
  | .inr _ :: r, is, e => by cases e
theorem RP.keys {κ : Type} {K : PySem.W.Frag} : ∀ {xs : List (κ × AV)} {ws : List (κ × V)}, RP K H al xs ws → ws.map (·.1) = xs.map (·.1)
  | [], ws, h => by
    obtain rfl : ws = [] := h
    rfl
  | x :: xs, ws, ⟨w, r, e1, h1, h2⟩ => by
    subst e1
    rw [List.map_cons, List.map_cons, RP.keys h2]
theorem dkeys_of {v : AV} {w : V} {ks : List Int} (rel : Rel g al st H) (rv : RV g.K H al v w) (e : dkeysA st v = some ks) : ∃ p ws, w = .ref p ∧ H p = some (.dK ws) ∧ ws.map (·.1) = ks.map Sum.inl := by
  cases v with
  | ref n =>
    simp only [dkeysA] at e
    split at e
    · rename_i kvs q
      obtain ⟨p, ws, rfl, ea, hp, r⟩ := ref_dK rel rv q
      exact ⟨p, ws, rfl, hp, by rw [← inlK_is e]; exact r.keys⟩
    · cases e
  | _ => cases e
theorem nkeys_of {v : AV} {w : V} {ks : List KN} (rel : Rel g al st H) (rv : RV g.K H al v w) (e : nkeysA st v = some ks) : ∃ p ws, w = .ref p ∧ NObj H p ws ∧ ws.map (·.1) = ks := by
  cases v with
  | ref n =>
    simp only [nkeysA] at e
    split at e
    · rename_i kvs q
      obtain ⟨p, ws, rfl, ea, hp, r⟩ := ref_dN rel rv q
      cases e
      exact ⟨p, ws, rfl, hp, r.keys⟩
    · cases e
  | _ => cases e
theorem tkeys_of {v : AV} {w : V} {ks : List (List Key)} (rel : Rel g al st H) (rv : RV g.K H al v w) (e : tkeysA st v = some ks) : ∃ p ws, w = .ref p ∧ H p = some (.dT ws) ∧ ws.map (·.1) = ks := by
  cases v with
  | ref n =>
    simp only [tkeysA] at e
    split at e
    · rename_i kvs q
      obtain ⟨p, ws, rfl, ea, hp, r⟩ := ref_dT rel rv q
      cases e
      exact ⟨p, ws, rfl, hp, r.keys⟩
    · cases e
  | _ => cases e
theorem unKv {K : PySem.W.Frag} : ∀ ks : List Key, RVs K H al (ks.map unK) (ks.map kV)
  | [] => rfl
  | .inl i :: ks => ⟨_, _, rfl, rfl, unKv ks⟩
  | .inr x :: ks => ⟨_, _, rfl, by cases x; rfl, unKv ks⟩
theorem rvs_tkeys {K : PySem.W.Frag} : ∀ {bs : List Addr} {ks : List (List Key)}, bs.length = ks.length → (∀ (i : Nat) (b : Addr) (k : List Key), bs[i]? = some b → ks[i]? = some k → H b = some (.tup (k.map kV))) → RVs K H al (ks.map fun k => .tup (k.map unK)) (bs.map V.ref)
  | [], [], _, _ => rfl
  | b :: bs, k :: ks, h, hk => ⟨.ref b, _, rfl, ⟨b, _, rfl, hk 0 b k rfl rfl, unKv k⟩, rvs_tkeys (by simpa using h) fun i x y e1 e2 => hk (i + 1) x y e1 e2⟩
  | [], _ :: _, h, _ => by simp at h
  | _ :: _, [], h, _ => by simp at h
theorem rvs_keys {K : PySem.W.Frag} : ∀ {bs : List Addr} {ks : List KN}, bs.length = ks.length → (∀ (i : Nat) (b : Addr) (k : KN), bs[i]? = some b → ks[i]? = some k → KeyAt H k b) → RVs K H al (ks.map nkV) (bs.map V.ref)
  | [], [], _, _ => rfl
  | b :: bs, k :: ks, h, hk => by
    obtain ⟨c, h1, h2⟩ := hk 0 b k rfl rfl
    exact ⟨.ref b, _, rfl, ⟨b, _, rfl, h1, .ref c, _, rfl, ⟨c, _, rfl, h2, _, _, rfl, rfl, _, _, rfl, rfl, rfl⟩, _, _, rfl, rfl, rfl⟩, rvs_keys (by simpa using h) fun i x y e1 e2 => hk (i + 1) x y e1 e2⟩
  | [], _ :: _, h, _ => by simp at h
  | _ :: _, [], h, _ => by simp at h
/-- sorted(d) of a dict whose keys are all whole numbers, however many -/
theorem call_sortedDA {X : Cx} (hcalm : X.calm = true) : CallR X (.builtin "sorted") (fun xs H Q => ∃ (a : Addr) (kvs : List (Key × V)) (ks : List Int), xs = [.ref a] ∧ Rd H a (.dK kvs) ∧ kvs.map (·.1) = ks.map Sum.inl ∧
    ∀ (ys : List Int) (p : Addr), ys.Perm ks → ys.Pairwise (· ≤ ·) → H p = none → Q (.ref p) (upd H p (.lst (ys.map V.int)))) := by
  intro pins s σ H xs us Q I r q
  obtain ⟨a, kvs, ks, ex, hd, hks, q⟩ := q
  subst ex
  obtain ⟨u, eu, rx⟩ := vals1 r
  subst eu
  cases rx
  obtain ⟨z, lo, vs, rel, dd⟩ := dk_rd I.hok hd
  obtain ⟨ep, hat⟩ := dd.dictAt
  have hkeys : vs.map (·.1) = ks.map Sum.inl := rel.keys.symm.trans hks
  have len_of : ∀ {α β γ : Type} {f : α → γ} {g : β → γ} {as : List α} {bs : List β}, as.map f = bs.map g → as.length = bs.length := fun {α β γ f g as bs} e => by
    have := congrArg List.length e
    rwa [List.length_map, List.length_map] at this
  have hl := len_of hkeys
  have hsz : ks.length ≤ sizeLine := by rw [← len_of hks]; exact z
  refine Calls.call_function_entry PyProof.Rows.kind_sorted PyProof.Rows.plain_sorted PyProof.Rows.entry_sorted (PyProof.Rows.args_sorted1 _) ?_
  unfold Builtin.«sorted»
  refine wpAny_bind (m := checkCount "sorted" 1 1 _) (wpAny_pure ?_)
  refine wpAny_bind (PySem.W.kdu_collect (A := X.A.in1) (PySem.W.kdl_dict (knd := mixKind X.prog X.w) (kvs := vs) (ep := ep) lo) (I.ok.hd hcalm) hat (by rw [hl]; exact hsz) fun h' tk acc hk hacc => ?_)
  have hal : acc.toList.length = ks.length := by rw [Array.length_toList, hacc.1, hl]
  have hS : IntsAre acc.toList ks := ints_each hal fun j v e => by
    obtain ⟨k, x, e1, e2⟩ := hacc.2 j v (by rw [← Array.getElem?_toList]; exact e)
    have e3 : (ks.map (Sum.inl : Int → Key))[j]? = some k := by rw [← hkeys, List.getElem?_map, e1]; rfl
    rw [List.getElem?_map] at e3
    obtain ⟨y, e4, e5⟩ := Option.map_eq_some_iff.mp e3
    subst e5
    rcases keyIs_shape (show keyIs (Sum.inl y) v = true from e2) with ⟨i, t, ek, ev⟩ | ⟨w, t, ek, ev⟩
    · cases ek
      exact ⟨y, t, e4, ev⟩
    · cases ek
  have I1 : Inv X pins σ H { s with heap := h', toks := tk } := I.kept hk
  refine wpAny_bind (wpAny_newList ?_ (by rw [hal]; exact hsz))
  have hoL : (h'.push (seqObj "list" acc.toList.toArray 0)).get? h'.objs.size = some (seqObj "list" acc.toList.toArray 0) := Heap.get?_push_size _ rfl
  show wpAny _ _ _ _ _ { s with heap := h'.push (seqObj "list" acc.toList.toArray 0), toks := tk }
  refine wpAny_bind (wpAny_holding (wpAny_call_entry PyProof.Rows.slot_list_sort ⟨_, hoL, rfl⟩ PyProof.Rows.entry_list_sort
    (PyProof.Rows.list_sort_treeAny (s := { s with heap := h'.push (seqObj "list" acc.toList.toArray 0), toks := tk }) hoL hS (by rw [hal]; exact hsz) fun out ys g1 g2 g3 => ⟨_, rfl, ?_⟩) (PyProof.Rows.args_list_sort _)))
  obtain ⟨e', he'⟩ := PyProof.Rows.sortedHeap_at (vs := acc.toList) (out := out) hoL
  have hlen : (ys.map V.int).length ≤ sizeLine := by rw [List.length_map, g2.length_eq]; exact hsz
  refine wpAny_pure ⟨_, rfl, .ref h'.objs.size, upd H h'.objs.size (.lst (ys.map V.int)), I1.laid (t' := tk) (fun b u e => ?_) (Nat.le_refl _)
    (show ObjOk X.prog X.w _ _ _ (.lst (ys.map V.int)) from ⟨hlen, out.toList, e', vals_of_ints g1, by rw [Array.toArray_toList]; exact he'⟩), rfl, q ys _ g2 g3 (I1.hok.fresh (Nat.le_refl _))⟩
  have hb : b < h'.objs.size := Heap.lt_size e
  rw [PyProof.Rows.sortedHeap_old (Nat.ne_of_lt hb) (by rw [size_push']; exact Nat.lt_succ_of_lt hb)]
  exact Heap.get?_push_of_some _ e
theorem cl_sorted {X : Cx} (hK : X.K = g.K) (hcm : X.calm = true) (hu : X.A.units + 65 < cLine) : CallR X (.builtin "sorted") (CA g (callB .sorted)) := by
  intro pins s σ H xs us Q I r h
  obtain ⟨al, st, as, W, rel, ra, h⟩ := h
  simp only [callB] at h
  split at h
  · obtain ⟨u, rfl, r1⟩ := ra.oneI
    split at h
    · rename_i ys q
      split at h
      · rename_i ds q2
        by_cases hc : alikeB ds = true ∧ sortB ds = true ∧ ys.length ≤ lim
        · rw [if_pos hc] at h
          obtain ⟨c1, c2, c3⟩ := hc
          obtain ⟨p, ws, rfl, hq, rvs⟩ := lst_of rel r1 q
          obtain ⟨v, rfl, rx⟩ := vals1 r
          cases rx
          rw [← hK] at hq
          obtain ⟨its, r', pl, hz⟩ := I.list hq
          obtain ⟨em, ee⟩ := oAll_mapD (d := PyData.none) q2
          have em : ys.map (encA st) = ds := em
          have E1 := each_rel rvs r'
          refine PySem.W.sorted_data (enc := encA st) (R := RelA g al H) pl.isList E1 (each_reads hK I rel E1 ee) (em ▸ alike_of c1) (em ▸ sort_of c2) (by rw [sizeLine_eq]; exact c3) (fun y hy => ?_) fun out hl eo => ?_
          · obtain ⟨d, hd⟩ := ee y hy
            have := pd_dep 9 y d hd
            unfold encA
            rw [hd]
            show X.A.units + 2 + d.depth < cLine
            omega
          · obtain ⟨ws2, rv2, vals2⟩ := rel_each eo
            obtain ⟨c, hc⟩ := sortedAll_at s.heap its out.toArray
            have hn : H (s.heap.objs.size + 1) = none := I.hok.fresh (Nat.le_succ _)
            refine ⟨.ref (s.heap.objs.size + 1), _, I.laid (t' := s.toks) (fun _ _ => sortedAll_old) (Nat.le_succ _) (show ObjOk X.prog X.w _ _ _ (.lst ws2) from ⟨?_, out, c, vals2, hc⟩), rfl, h.newL rel rv2 hn⟩
            rw [vals2.length, hl, sizeLine_eq]
            exact c3
        · rw [if_neg hc] at h
          exact h.elim
      · exact h.elim
    · split at h
      · rename_i ks q
        by_cases h64 : ks.length ≤ lim
        · rw [if_pos h64] at h
          obtain ⟨p, ws, rfl, hp, hks⟩ := dkeys_of rel r1 q
          refine call_sortedDA hcm pins s σ H _ us Q I r ⟨p, ws, ks, rfl, .inl hp, hks, fun ys a hpm hpw hn => ?_⟩
          have ey : ys = ks.mergeSort fun a b => decide (a ≤ b) := by
            have h2 := List.pairwise_mergeSort (le := fun a b : Int => decide (a ≤ b)) (fun a b c h1 h2 => by simp only [decide_eq_true_eq] at *; omega) (fun a b => by simp only [Bool.or_eq_true, decide_eq_true_eq]; omega) ks
            exact (hpm.trans (List.mergeSort_perm ks _).symm).eq_of_pairwise (fun x y _ _ h1 h2 => Int.le_antisymm h1 h2) hpw (h2.imp fun h => of_decide_eq_true h)
          rw [ey]
          exact h.newL (xs := (ks.mergeSort fun a b => decide (a ≤ b)).map .int) rel RVs.ints hn
        · rw [if_neg h64] at h
          exact h.elim
      · split at h
        · rename_i ks q
          obtain ⟨p, ws, rfl, hp, hks⟩ := nkeys_of rel r1 q
          refine call_sortedN hcm hu pins s σ H _ us Q I r ⟨p, ws, rfl, hp, fun bs ks2 a e1 e2 e3 hn => ?_⟩
          rw [hks] at e1
          subst e1
          exact h.newL (xs := (ks.mergeSort (PySem.W.dataLe false knD)).map nkV) rel (rvs_keys e2 e3) hn
        · split at h
          · rename_i ks q
            by_cases hc : alikeB (ks.map tkD) = true ∧ sortB (ks.map tkD) = true
            · rw [if_pos hc] at h
              obtain ⟨p, ws, rfl, hp, hks⟩ := tkeys_of rel r1 q
              refine call_sortedT hcm hu pins s σ H _ us Q I r ⟨p, ws, rfl, hp, by rw [hks]; exact alike_of hc.1, by rw [hks]; exact sort_of hc.2, fun bs ks2 a e1 e2 e3 hn => ?_⟩
              rw [hks] at e1
              subst e1
              exact h.newL (xs := (ks.mergeSort (PySem.W.dataLe false tkD)).map fun k => .tup (k.map unK)) rel (rvs_tkeys e2 e3) hn
            · rw [if_neg hc] at h
              exact h.elim
          · exact h.elim
  · exact h.elim
end
end L3

/-! Snd5: what each construct reads as. -/
namespace L3
open PySem PySem.Spec PyProof.Rows L2

theorem PE.of {X : Cx} {e : Expr} {t' : TE} (h : ∀ σ H Q, t' σ H Q → ∃ t, PE X e t ∧ t σ H Q) : PE X e t' :=
  ⟨fun pins s σ H Q I q => let ⟨t, ht, q'⟩ := h σ H Q q; ht.run pins s σ H Q I q'⟩
theorem PI.imp {X : Cx} {tg e : Expr} {t t' : TI} (h : PI X tg e t) (i : ∀ σ H Q, t' σ H Q → t σ H Q) : PI X tg e t' := ⟨fun pins s σ H Q I q => h.run pins s σ H Q I (i σ H Q q)⟩
theorem PI.of {X : Cx} {tg e : Expr} {t' : TI} (h : ∀ σ H Q, t' σ H Q → ∃ t, PI X tg e t ∧ t σ H Q) : PI X tg e t' :=
  ⟨fun pins s σ H Q I q => let ⟨t, ht, q'⟩ := h σ H Q q; ht.run pins s σ H Q I q'⟩
theorem PG.of {X : Cx} {e : Expr} {t' : TG} (h : ∀ v σ H Q, t' v σ H Q → ∃ t, PG X e t ∧ t v σ H Q) : PG X e t' :=
  ⟨fun pins s σ H v u Q I r q => let ⟨t, ht, q'⟩ := h v σ H Q q; ht.run pins s σ H v u Q I r q'⟩

abbrev beOf : Hp → Al → Bool → Bool → Prop := fun _ _ a b => a = b
def TTv (g : G) (W : WX) (r : Run1 AV) : TT := fun σ H Q => ∃ al st e, Rel g al st H ∧ RS g.K H al e σ ∧ Post g beOf (tst (r e st)) al H Q (wOf g W σ)

section
variable {g : G} {m : MC} {X : Cx} {W : WX} {a b c : Expr} {ra rb rc : Run1 AV} {pos : Pos} {al al' : Al} {H H' : Hp} {st : Sto} {σ : L2.St} {e : Slots}

/-- a test, then what follows of it -/
theorem TTv.then {C D : Type} {RC : Hp → Al → C → D → Prop} {f : Slots → Bool → Sto → R C} {Q : D → Hp → Prop} (r : Rel g al st H) (rs : RS g.K H al e σ)
    (h : Post g RC ((tst (ra e st)).bind (f e)) al H Q (wOf g W σ)) :
    TTv g W ra σ H fun x H1 => ∃ al1 st1, Rel g al1 st1 H1 ∧ RS g.K H1 al1 e σ ∧ Post g RC (f e x st1) al1 H1 Q (wOf g W σ) ∧ Stp al H al1 H1 := by
  refine ⟨al, st, e, r, rs, ?_⟩
  have q := Post.bind (RA := beOf) h
  revert q
  generalize tst (ra e st) = x
  intro q
  cases x with
  | ok a st2 =>
    intro al' H' b s rel rv
    obtain ⟨al1, a1, st1, s1, rel1, rv1, p⟩ := q al' H' b s rel rv
    have e' : a1 = b := rv1
    subst e'
    exact ⟨al1, st1, rel1, rs.step r.notup s1, p, s1⟩
  | ex c st2 => exact q
  | no => exact q
theorem Post.imp {A B : Type} {RA : Hp → Al → A → B → Prop} {r : R A} {Q Q' : B → Hp → Prop} {W : Nat → Hp → Prop} (h : Post g RA r al H Q W) (i : ∀ b H, Q b H → Q' b H) : Post g RA r al H Q' W := by
  cases r with
  | ok a st => exact fun al' H' b s rel rv => i _ _ (h al' H' b s rel rv)
  | ex c st => exact h
  | no => exact h
/-- of a test: the value's -/
theorem tst_val {r : R AV} {Q : Bool → Hp → Prop} {W : Nat → Hp → Prop} (h : Post g beOf (tst r) al H Q W) : Post g (rvOf g) r al H (fun x H1 => ∃ c, x = .bl c ∧ Q c H1) W := by
  cases r with
  | ok v st =>
    cases v with
    | bl b =>
      intro al' H' x s rel rv
      exact ⟨b, rv, h al' H' b s rel rfl⟩
    | _ => exact h.elim
  | ex c st => exact h
  | no => exact h
theorem k_val (h : PE X a (TV g W ra)) (he : ∀ whole, isTrue a X.env whole = (do let v ← whole; standAt a.pos; holding [v] (truthy v))) : PT X a (TTv g W ra) := by
  refine PT.imp (pt_val h he) fun σ H Q q => ?_
  obtain ⟨al, st, e, rel, rs, p⟩ := q
  exact ⟨al, st, e, rel, rs, tst_val p⟩

/-! ### constants, names -/
theorem k_var {i : Nat} {x : Str} (h1 : slotB m i x = true) (h2 : visB X.env.scope x = true) (h3 : (x == ("__debug__" : Str)) = false) (h4 : (x == ("__classdict__" : Str)) = false) (hN : X.N = m.N) :
    PE X (.Name x pos) (TV g W fun e st => match e[i]? with | some (some v) => .ok v st | _ => .no) := by
  have hv : Vis X.env.scope x := by
    unfold visB at h2
    split at h2
    · rename_i z; exact .inl z
    · rename_i z; exact .inr (.inl z)
    · rename_i z; exact .inr (.inr z)
    · cases h2
  have hn : X.N[i]? = some x := by rw [hN]; exact of_decide_eq_true h1
  refine PE.imp (pe_var hn hv h3 h4) fun σ H Q q => ?_
  obtain ⟨al, st, e, rel, rs, p⟩ := q
  dsimp only at p
  split at p
  · rename_i v z
    obtain ⟨w, h5, h6⟩ := rs.at_ i v z
    exact ⟨w, h5, Post.same p rel h6⟩
  · exact p.elim
/-- the model's value of a constant -/
def conV : AV → Option V
  | .non => some .non
  | .bl b => some (.bl b)
  | .int i => some (.int i)
  | .str x => some (.str (T8 x))
  | _ => none
theorem conV_rv {K : PySem.W.Frag} {v : AV} {w : V} (h : conV v = some w) : RV K H al v w := by
  cases v <;> first
    | (cases h; rfl)
    | (cases h)
theorem k_con {v : AV} {c : Const} {k : Nat} (h : conB v c = true) : PE X (.Constant c k pos) (TV g W fun _ st => .ok v st) := by
  cases v with
  | non =>
    cases c with
    | none => exact PE.imp pe_non fun σ H Q ⟨al, st, e, rel, rs, p⟩ => Post.same p rel rfl
    | _ => cases h
  | bl b =>
    cases c with
    | bool d =>
      have e : b = d := by
        have h' : (b == d) = true := h
        exact beq_iff_eq.mp h'
      subst e
      exact PE.imp pe_bl fun σ H Q ⟨al, st, e, rel, rs, p⟩ => Post.same p rel rfl
    | _ => cases h
  | int i =>
    cases c with
    | int j =>
      have e : i = j := of_decide_eq_true h
      subst e
      exact PE.imp pe_int fun σ H Q ⟨al, st, e, rel, rs, p⟩ => Post.same p rel rfl
    | _ => cases h
  | str x =>
    cases c with
    | str y =>
      have e : y = T8 x := of_decide_eq_true h
      subst e
      exact PE.imp pe_str fun σ H Q ⟨al, st, e, rel, rs, p⟩ => Post.same p rel rfl
    | _ => cases h
  | _ => cases c <;> cases h
theorem glb_of {sc : Scope} {x : Str} (h : glb sc x = true) : sc.names.lookup x = some .globalImplicit ∧ (x == ("__debug__" : Str)) = false ∧ x ≠ "__name__" := by
  unfold glb at h
  simp only [Bool.and_eq_true, Bool.not_eq_true', decide_eq_true_eq] at h
  obtain ⟨⟨h1, h2⟩, h3⟩ := h
  refine ⟨?_, h2, h3⟩
  split at h1
  · assumption
  · cases h1
theorem k_kon {v : AV} {x : Str} {u : Value} {w : V} (h : glb X.env.scope x = true) (hm : X.mg x = some u) (hw : conV v = some w) (hr : RelV w u) : PE X (.Name x pos) (TV g W fun _ st => .ok v st) := by
  obtain ⟨h1, h2, h3⟩ := glb_of h
  exact PE.imp (pe_glob h1 hm hr h2) fun σ H Q ⟨al, st, e, rel, rs, p⟩ => Post.same p rel (conV_rv hw)

/-! ### operators -/
theorem opb {op : Bop} : OpR X (binaryOp (bopO op)) (R2A g (binA op)) := by
  rw [show bopO op = opOf op from by cases op <;> rfl]
  exact op_bin op
theorem opc {op : Cop} (hK : X.K = g.K) (hu : X.A.units + 65 < cLine) : OpR X (compareOp (copO op)) (R2A g (cmpA op)) := by
  rw [show copO op = copOf op from by cases op <;> rfl]
  exact op_cmpA hK hu op
theorem two {r : R2} {f : AV → AV → Sto → R AV} (hr : ∀ x y H Q, R2A g f x y H Q → r x y H Q) : ∀ σ H Q, TV g W (fun e st => (ra e st).bind fun x st => (rb e st).bind fun y st => f x y st) σ H Q → tOp r (TV g W ra) (TV g W rb) σ H Q := by
  intro σ H Q ⟨al, st, e, rel, rs, p⟩
  have q := TV.then (ra := ra) (f := fun e x st => (rb e st).bind fun y st => f x y st) rel rs p
  obtain ⟨al0, st0, e0, rel0, rs0, p0⟩ := q
  refine ⟨al0, st0, e0, rel0, rs0, Post.imp p0 fun x H1 ⟨al1, a1, st1, rel1, rs1, rv1, p1, s1⟩ => ?_⟩
  have q2 := TV.then (ra := rb) (f := fun _ y st => f a1 y st) rel1 rs1 p1
  obtain ⟨al2, st2, e2, rel2, rs2, p2⟩ := q2
  refine ⟨al2, st2, e2, rel2, rs2, Post.imp p2 fun y H2 ⟨al3, a3, st3, rel3, rs3, rv3, p3, s3⟩ => ?_⟩
  exact hr x y H2 Q ⟨al3, st3, a1, a3, _, rel3, RV.step rel1.notup s3 _ _ rv1, rv3, p3⟩
theorem k_bin {op : Bop} (ha : PE X a (TV g W ra)) (hb : PE X b (TV g W rb)) : PE X (.BinOp a (bopO op) b pos) (TV g W fun e st => (ra e st).bind fun x st => (rb e st).bind fun y st => binA op x y st) :=
  PE.imp (pe_op (op := bopO op) opb ha hb) (two fun _ _ _ _ h => h)
theorem noSetD_of {op : CmpOp} {b : Expr} (h : noSetD b = true) : behindInMarks op b = false := by
  cases b <;> first | rfl | (cases h)
theorem k_cmp {op : Cop} (hK : X.K = g.K) (hu : X.A.units + 65 < cLine) (h : noSetD b = true) (ha : PE X a (TV g W ra)) (hb : PE X b (TV g W rb)) : PE X (.Compare a [copO op] [b] pos) (TV g W fun e st => (ra e st).bind fun x st => (rb e st).bind fun y st => cmpA op x y st) :=
  PE.imp (pe_cmpR (op := copO op) (opc (op := op) hK hu) ha hb (noSetD_of h)) (two fun _ _ _ _ h => h)
theorem k_cmpT {op : Cop} (hK : X.K = g.K) (hu : X.A.units + 65 < cLine) (h : noSetD b = true) (ha : PE X a (TV g W ra)) (hb : PE X b (TV g W rb)) : PT X (.Compare a [copO op] [b] pos) (TTv g W fun e st => (ra e st).bind fun x st => (rb e st).bind fun y st => cmpA op x y st) := by
  refine PT.imp (pt_cmpR (op := copO op) (opc (op := op) hK hu) ha hb (noSetD_of h)) fun σ H Q q => ?_
  obtain ⟨al, st, e, rel, rs, p⟩ := q
  exact two (fun _ _ _ _ h => h) σ H _ ⟨al, st, e, rel, rs, tst_val p⟩
theorem chainR {o1 o2 : Cop} : ∀ σ H Q, TV g W (fun e st => (ra e st).bind fun x st => (rb e st).bind fun y st => (cmpA o1 x y st).bind fun k st => match k with
    | .bl true => (rc e st).bind fun z st => cmpA o2 y z st
    | .bl false => .ok (.bl false) st
    | _ => .no) σ H Q → tChain (R2A g (cmpA o1)) (R2A g (cmpA o2)) (TV g W ra) (TV g W rb) (TV g W rc) σ H Q := by
  intro σ H Q ⟨al, st, e, rel, rs, p⟩
  have q := TV.then (ra := ra) (f := fun e x st => (rb e st).bind fun y st => (cmpA o1 x y st).bind fun k st => match k with
    | .bl true => (rc e st).bind fun z st => cmpA o2 y z st
    | .bl false => .ok (.bl false) st
    | _ => .no) rel rs p
  obtain ⟨al0, st0, e0, rel0, rs0, p0⟩ := q
  refine ⟨al0, st0, e0, rel0, rs0, Post.imp p0 fun x H1 ⟨al1, a1, st1, rel1, rs1, rv1, p1, s1⟩ => ?_⟩
  have q2 := TV.then (ra := rb) (f := fun e y st => (cmpA o1 a1 y st).bind fun k st => match k with
    | .bl true => (rc e st).bind fun z st => cmpA o2 y z st
    | .bl false => .ok (.bl false) st
    | _ => .no) rel1 rs1 p1
  obtain ⟨al2, st2, e2, rel2, rs2, p2⟩ := q2
  refine ⟨al2, st2, e2, rel2, rs2, Post.imp p2 fun y H2 ⟨al3, a3, st3, rel3, rs3, rv3, p3, s3⟩ => ?_⟩
  refine ⟨al3, st3, a1, a3, _, rel3, RV.step rel1.notup s3 _ _ rv1, rv3, Post.imp (Post.bind (RA := rvOf g) p3) fun z H3 ⟨al4, a4, st4, s4, rel4, rv4, p4⟩ => ?_⟩
  cases a4 with
  | bl k =>
    refine ⟨k, rv4, ?_⟩
    cases k with
    | false =>
      rw [if_neg Bool.false_ne_true]
      exact Post.same p4 rel4 rfl
    | true =>
      rw [if_pos rfl]
      have q3 := TV.then (ra := rc) (f := fun _ z st => cmpA o2 a3 z st) rel4 (rs3.step rel3.notup s4) p4
      obtain ⟨al5, st5, e5, rel5, rs5, p5⟩ := q3
      refine ⟨al5, st5, e5, rel5, rs5, Post.imp p5 fun z' H4 ⟨al6, a6, st6, rel6, rs6, rv6, p6, s6⟩ => ?_⟩
      exact ⟨al6, st6, a3, a6, _, rel6, RV.step rel4.notup s6 _ _ (RV.step rel3.notup s4 _ _ rv3), rv6, p6⟩
  | _ => exact p4.elim
theorem lastM {o1 o2 : CmpOp} {b c : Expr} (h : noSetD c = true) : lastMarks [o1, o2] [b, c] = false := noSetD_of h
theorem k_chain {o1 o2 : Cop} (hK : X.K = g.K) (hu : X.A.units + 65 < cLine) (h : noSetD c = true) (ha : PE X a (TV g W ra)) (hb : PE X b (TV g W rb)) (hc : PE X c (TV g W rc)) : PE X (.Compare a [copO o1, copO o2] [b, c] pos) (TV g W fun e st => (ra e st).bind fun x st => (rb e st).bind fun y st => (cmpA o1 x y st).bind fun k st => match k with
    | .bl true => (rc e st).bind fun z st => cmpA o2 y z st
    | .bl false => .ok (.bl false) st
    | _ => .no) :=
  PE.imp (pe_chain (op := copO o1) (op' := copO o2) (opc (op := o1) hK hu) (opc (op := o2) hK hu) ha hb hc (lastM h)) chainR
theorem k_chainT {o1 o2 : Cop} (hK : X.K = g.K) (hu : X.A.units + 65 < cLine) (h : noSetD c = true) (ha : PE X a (TV g W ra)) (hb : PE X b (TV g W rb)) (hc : PE X c (TV g W rc)) : PT X (.Compare a [copO o1, copO o2] [b, c] pos) (TTv g W fun e st => (ra e st).bind fun x st => (rb e st).bind fun y st => (cmpA o1 x y st).bind fun k st => match k with
    | .bl true => (rc e st).bind fun z st => cmpA o2 y z st
    | .bl false => .ok (.bl false) st
    | _ => .no) := by
  refine PT.imp (pt_chain (op := copO o1) (op' := copO o2) (opc (op := o1) hK hu) (opc (op := o2) hK hu) ha hb hc (lastM h)) fun σ H Q q => ?_
  obtain ⟨al, st, e, rel, rs, p⟩ := q
  exact chainR σ H _ ⟨al, st, e, rel, rs, tst_val p⟩
theorem k_neg (ha : PE X a (TV g W ra)) : PE X (.UnaryOp .USub a pos) (TV g W fun e st => (ra e st).bind negA) := by
  refine PE.imp (pe_un un_neg ha) fun σ H Q ⟨al, st, e, rel, rs, p⟩ => ?_
  obtain ⟨al0, st0, e0, rel0, rs0, p0⟩ := TV.then (ra := ra) (f := fun _ => negA) rel rs p
  refine ⟨al0, st0, e0, rel0, rs0, Post.imp p0 fun x H1 ⟨al1, a1, st1, rel1, rs1, rv1, p1, s1⟩ => ?_⟩
  cases a1 with
  | int i => exact ⟨i, rv1, Post.same (v := .int (-i)) p1 rel1 rfl⟩
  | _ => exact p1.elim
theorem k_not (ha : PE X a (TV g W ra)) : PE X (.UnaryOp .Not a pos) (TV g W fun e st => (ra e st).bind notA) := by
  refine PE.imp (pe_not ha) fun σ H Q ⟨al, st, e, rel, rs, p⟩ => ?_
  obtain ⟨al0, st0, e0, rel0, rs0, p0⟩ := TV.then (ra := ra) (f := fun _ => notA) rel rs p
  refine ⟨al0, st0, e0, rel0, rs0, Post.imp p0 fun x H1 ⟨al1, a1, st1, rel1, rs1, rv1, p1, s1⟩ => ?_⟩
  cases a1 with
  | bl i => exact ⟨i, rv1, Post.same (v := .bl (!i)) p1 rel1 rfl⟩
  | _ => exact p1.elim
theorem tst_not (r : R AV) : tst (r.bind notA) = (tst r).bind fun b st => .ok (!b) st := by
  cases r with
  | ok v st => cases v <;> rfl
  | ex c st => rfl
  | no => rfl
theorem k_notT (ha : PT X a (TTv g W ra)) : PT X (.UnaryOp .Not a pos) (TTv g W fun e st => (ra e st).bind notA) := by
  refine PT.imp (pt_not ha) fun σ H Q ⟨al, st, e, rel, rs, p⟩ => ?_
  rw [tst_not] at p
  obtain ⟨al0, st0, e0, rel0, rs0, p0⟩ := TTv.then (ra := ra) (f := fun _ b st => .ok (!b) st) rel rs p
  refine ⟨al0, st0, e0, rel0, rs0, Post.imp p0 fun x H1 ⟨al1, st1, rel1, rs1, p1, s1⟩ => ?_⟩
  exact Post.ok p1 rel1 rfl
end
end L3

/-! Snd6: lists of expressions, calls, methods, fields, subscripts. -/
namespace L3
open PySem PySem.Spec PyProof.Rows L2

section
variable {g : G} {m : MC} {X : Cx} {W : WX} {a b c : Expr} {ra rb rc : Run1 AV} {pos : Pos} {al al' : Al} {H H' : Hp} {st : Sto} {σ : L2.St} {e : Slots}
/-! ### and, or -/
def andR (ra rb : Run1 AV) : Run1 AV := fun e st => (ra e st).bind fun x st => match x with
    | .bl true => rb e st
    | .bl false => .ok (.bl false) st
    | _ => .no
def orR (ra rb : Run1 AV) : Run1 AV := fun e st => (ra e st).bind fun x st => match x with
    | .bl true => .ok (.bl true) st
    | .bl false => rb e st
    | _ => .no
theorem tst_and (e : Slots) (st : Sto) : tst (andR ra rb e st) = (tst (ra e st)).bind fun b st => if b = true then tst (rb e st) else .ok false st := by
  unfold andR
  cases ra e st with
  | ok v st =>
    cases v with
    | bl b => cases b <;> rfl
    | _ => rfl
  | ex c st => rfl
  | no => rfl
theorem tst_or (e : Slots) (st : Sto) : tst (orR ra rb e st) = (tst (ra e st)).bind fun b st => if b = true then .ok true st else tst (rb e st) := by
  unfold orR
  cases ra e st with
  | ok v st =>
    cases v with
    | bl b => cases b <;> rfl
    | _ => rfl
  | ex c st => rfl
  | no => rfl
theorem k_andV {rest : List Expr} (ha : PE X a (TV g W ra)) (hb : PE X (.BoolOp .And (b :: rest) pos) (TV g W rb)) : PE X (.BoolOp .And (a :: b :: rest) pos) (TV g W (andR ra rb)) := by
  refine PE.imp (pe_and ha hb) fun σ H Q ⟨al, st, e, rel, rs, p⟩ => ?_
  obtain ⟨al0, st0, e0, rel0, rs0, p0⟩ := TV.then (ra := ra) (f := fun e x st => match x with
    | .bl true => rb e st
    | .bl false => .ok (.bl false) st
    | _ => .no) rel rs p
  refine ⟨al0, st0, e0, rel0, rs0, Post.imp p0 fun x H1 ⟨al1, a1, st1, rel1, rs1, rv1, p1, s1⟩ => ?_⟩
  cases a1 with
  | bl k =>
    refine ⟨k, rv1, ?_⟩
    cases k with
    | false => rw [if_neg Bool.false_ne_true]; exact Post.same p1 rel1 rfl
    | true => rw [if_pos rfl]; exact ⟨al1, st1, _, rel1, rs1, p1⟩
  | _ => exact p1.elim
theorem k_orV {rest : List Expr} (ha : PE X a (TV g W ra)) (hb : PE X (.BoolOp .Or (b :: rest) pos) (TV g W rb)) : PE X (.BoolOp .Or (a :: b :: rest) pos) (TV g W (orR ra rb)) := by
  refine PE.imp (pe_or ha hb) fun σ H Q ⟨al, st, e, rel, rs, p⟩ => ?_
  obtain ⟨al0, st0, e0, rel0, rs0, p0⟩ := TV.then (ra := ra) (f := fun e x st => match x with
    | .bl true => .ok (.bl true) st
    | .bl false => rb e st
    | _ => .no) rel rs p
  refine ⟨al0, st0, e0, rel0, rs0, Post.imp p0 fun x H1 ⟨al1, a1, st1, rel1, rs1, rv1, p1, s1⟩ => ?_⟩
  cases a1 with
  | bl k =>
    refine ⟨k, rv1, ?_⟩
    cases k with
    | true => rw [if_pos rfl]; exact Post.same p1 rel1 rfl
    | false => rw [if_neg Bool.false_ne_true]; exact ⟨al1, st1, _, rel1, rs1, p1⟩
  | _ => exact p1.elim
theorem PW.imp {X : Cx} {e : Expr} {t t' : TT} (h : PW X e t) (i : ∀ σ H Q, t' σ H Q → t σ H Q) : PW X e t' := ⟨fun wh pins s σ H Q I q => h.run wh pins s σ H Q I (i σ H Q q)⟩
theorem k_andW {rest : List Expr} (ha : PT X a (TTv g W ra)) (hb : PW X (.BoolOp .And (b :: rest) pos) (TTv g W rb)) : PW X (.BoolOp .And (a :: b :: rest) pos) (TTv g W (andR ra rb)) := by
  refine PW.imp (pw_and ha hb) fun σ H Q ⟨al, st, e, rel, rs, p⟩ => ?_
  rw [tst_and] at p
  obtain ⟨al0, st0, e0, rel0, rs0, p0⟩ := TTv.then (ra := ra) (f := fun e b st => if b = true then tst (rb e st) else .ok false st) rel rs p
  refine ⟨al0, st0, e0, rel0, rs0, Post.imp p0 fun k H1 ⟨al1, st1, rel1, rs1, p1, s1⟩ => ?_⟩
  cases k with
  | false => rw [if_neg Bool.false_ne_true] at p1 ⊢; exact Post.ok p1 rel1 rfl
  | true => rw [if_pos rfl] at p1 ⊢; exact ⟨al1, st1, _, rel1, rs1, p1⟩
theorem k_orW {rest : List Expr} (ha : PT X a (TTv g W ra)) (hb : PW X (.BoolOp .Or (b :: rest) pos) (TTv g W rb)) : PW X (.BoolOp .Or (a :: b :: rest) pos) (TTv g W (orR ra rb)) := by
  refine PW.imp (pw_or ha hb) fun σ H Q ⟨al, st, e, rel, rs, p⟩ => ?_
  rw [tst_or] at p
  obtain ⟨al0, st0, e0, rel0, rs0, p0⟩ := TTv.then (ra := ra) (f := fun e b st => if b = true then .ok true st else tst (rb e st)) rel rs p
  refine ⟨al0, st0, e0, rel0, rs0, Post.imp p0 fun k H1 ⟨al1, st1, rel1, rs1, p1, s1⟩ => ?_⟩
  cases k with
  | true => rw [if_pos rfl] at p1 ⊢; exact Post.ok p1 rel1 rfl
  | false => rw [if_neg Bool.false_ne_true] at p1 ⊢; exact ⟨al1, st1, _, rel1, rs1, p1⟩
/-- the last of an and: only its truth value -/
theorem and_nil (e : Slots) (st : Sto) {Q : V → Hp → Prop} {W : Nat → Hp → Prop} (h : Post g (rvOf g) (andR ra (fun _ st => .ok (.bl true) st) e st) al H Q W) : Post g (rvOf g) (ra e st) al H Q W := by
  unfold andR at h
  cases q : ra e st with
  | ok v st2 =>
    rw [q] at h
    cases v with
    | bl b => cases b <;> exact h
    | _ => exact h.elim
  | ex c st2 => rw [q] at h; exact h
  | no => rw [q] at h; exact h
theorem or_nil (e : Slots) (st : Sto) {Q : V → Hp → Prop} {W : Nat → Hp → Prop} (h : Post g (rvOf g) (orR ra (fun _ st => .ok (.bl false) st) e st) al H Q W) : Post g (rvOf g) (ra e st) al H Q W := by
  unfold orR at h
  cases q : ra e st with
  | ok v st2 =>
    rw [q] at h
    cases v with
    | bl b => cases b <;> exact h
    | _ => exact h.elim
  | ex c st2 => rw [q] at h; exact h
  | no => rw [q] at h; exact h
theorem and_nilT (e : Slots) (st : Sto) : tst (andR ra (fun _ st => .ok (.bl true) st) e st) = tst (ra e st) := by
  unfold andR
  cases ra e st with
  | ok v st =>
    cases v with
    | bl b => cases b <;> rfl
    | _ => rfl
  | ex c st => rfl
  | no => rfl
theorem or_nilT (e : Slots) (st : Sto) : tst (orR ra (fun _ st => .ok (.bl false) st) e st) = tst (ra e st) := by
  unfold orR
  cases ra e st with
  | ok v st =>
    cases v with
    | bl b => cases b <;> rfl
    | _ => rfl
  | ex c st => rfl
  | no => rfl

/-! ### lists of expressions -/
theorem star_of {x : Expr} {es : List Expr} {env : Env} (h : noStar x = true) : starEach (x :: es) env = (false, eval x env) :: starEach es env := by
  cases x <;> first | rfl | (cases h)
theorem stars_of {env : Env} {pos : Pos} : ∀ {es : List Expr}, es.all noStar = true → (backTo pos (starEach es env)).all (fun x => !x.1) = true
  | [], _ => by rfl
  | x :: es, h => by
    rw [List.all_cons, Bool.and_eq_true] at h
    have ih := stars_of (env := env) (pos := pos) h.2
    rw [star_of h.1]
    unfold backTo at ih ⊢
    simp only [List.map_cons, List.all_cons] at ih ⊢
    simpa using ih
theorem any_of_all {α : Type} {l : List (Bool × α)} (h : l.all (fun x => !x.1) = true) : l.any (·.1) = false := by
  induction l with
  | nil => rfl
  | cons x l ih =>
    rw [List.all_cons, Bool.and_eq_true] at h
    rw [List.any_cons, ih h.2]
    have := h.1
    simpa using this
theorem k_nil : PA X [] (TVs g W fun _ st => .ok [] st) := by
  refine PA.imp pa_nil fun σ H Q ⟨al, st, e, rel, rs, p⟩ => ?_
  exact Post.ok (RA := rvsOf g) p rel rfl
theorem k_cons {es : List Expr} {rr : Run1 (List AV)} (hs : noStar a = true) (ha : PE X a (TV g W ra)) (hr : PA X es (TVs g W rr)) : PA X (a :: es) (TVs g W fun e st => (ra e st).bind fun x st => (rr e st).bind fun xs st => .ok (x :: xs) st) := by
  refine PA.imp (pa_cons ha hr (star_of hs)) fun σ H Q ⟨al, st, e, rel, rs, p⟩ => ?_
  obtain ⟨al0, st0, e0, rel0, rs0, p0⟩ := TV.then (ra := ra) (f := fun e x st => (rr e st).bind fun xs st => .ok (x :: xs) st) rel rs p
  refine ⟨al0, st0, e0, rel0, rs0, Post.imp p0 fun x H1 ⟨al1, a1, st1, rel1, rs1, rv1, p1, s1⟩ => ?_⟩
  obtain ⟨al2, st2, e2, rel2, rs2, p2⟩ := TVs.then (ra := rr) (f := fun e xs st => .ok (a1 :: xs) st) rel1 rs1 p1
  refine ⟨al2, st2, e2, rel2, rs2, Post.imp p2 fun xs H2 ⟨al3, a3, st3, rel3, rs3, rv3, p3, s3⟩ => ?_⟩
  exact Post.ok (RA := rvsOf g) p3 rel3 ⟨x, xs, rfl, RV.step rel1.notup s3 _ _ rv1, rv3⟩
variable {es : List Expr} {rr : Run1 (List AV)}
theorem k_lst (h : PA X es (TVs g W rr)) : PE X (.List es pos) (TV g W fun e st => (rr e st).bind fun xs st => if xs.length ≤ lim then alloc (.lst xs) st else .no) := by
  refine PE.imp (pe_lst h) fun σ H Q ⟨al, st, e, rel, rs, p⟩ => ?_
  obtain ⟨al0, st0, e0, rel0, rs0, p0⟩ := TVs.then (ra := rr) (f := fun e xs st => if xs.length ≤ lim then alloc (.lst xs) st else .no) rel rs p
  refine ⟨al0, st0, e0, rel0, rs0, Post.imp p0 fun xs H1 ⟨al1, a1, st1, rel1, rs1, rv1, p1, s1⟩ => ?_⟩
  by_cases hl : a1.length ≤ lim
  · rw [if_pos hl] at p1
    exact ⟨by rw [← rv1.length, sizeLine_eq]; exact hl, fun q hq => Post.newL p1 rel1 rv1 hq⟩
  · rw [if_neg hl] at p1
    exact p1.elim
theorem k_tup {k : Nat} (h : PA X es (TVs g W rr)) : PE X (.Tuple es k pos) (TV g W fun e st => (rr e st).bind tupA) := by
  refine PE.imp (pe_tup h) fun σ H Q ⟨al, st, e, rel, rs, p⟩ => ?_
  obtain ⟨al0, st0, e0, rel0, rs0, p0⟩ := TVs.then (ra := rr) (f := fun e => tupA) rel rs p
  refine ⟨al0, st0, e0, rel0, rs0, Post.imp p0 fun xs H1 ⟨al1, a1, st1, rel1, rs1, rv1, p1, s1⟩ => ?_⟩
  unfold tupA at p1
  by_cases hl : a1.length ≤ lim
  · rw [if_pos hl] at p1
    exact ⟨by rw [← rv1.length, sizeLine_eq]; exact hl, fun q hq => Post.newT p1 rel1 rv1 hq⟩
  · rw [if_neg hl] at p1
    exact p1.elim
theorem k_dnew {t : Bool} : PE X (.Dict [] [] pos) (TV g W fun _ st => alloc (if t then .dT [] else .dK []) st) := by
  cases t with
  | false =>
    refine PE.imp pe_dnewK fun σ H Q ⟨al, st, e, rel, rs, p⟩ q hq => ?_
    exact Post.mkNew (ho := .dK []) p rel hq ⟨[], upd_same, rfl⟩
  | true =>
    refine PE.imp pe_dnewT fun σ H Q ⟨al, st, e, rel, rs, p⟩ q hq => ?_
    exact Post.mkNew (ho := .dT []) p rel hq ⟨[], upd_same, rfl⟩

theorem k_dnn : PE X (.Dict [] [] pos) (TV g W fun _ st => alloc (.dN []) st) := by
  refine PE.imp pe_dnewN fun σ H Q ⟨al, st, e, rel, rs, p⟩ q ob hq hob => ?_
  exact Post.mkNew (ho := NO ob q) p rel hq ⟨[], ⟨ob, upd_same, hob⟩, rfl⟩

/-! ### calls -/
/-- what a def of the program promises: what the machine reckons -/
def SpD (g : G) (np : Nat) (f : List AV → Sto → R AV) : Sp := fun vs H Q E => vs.length = np ∧ ∃ al st as, Rel g al st H ∧ RVs g.K H al as vs ∧ Post g (rvOf g) (f as st) al H Q fun c H' => E (.ref (g.clsA c)) none H'
structure DefOk (g : G) (n : Nat) (x : Str) (f : List AV → Sto → R AV) : Prop where
  ex : ∃ (a : Addr) (fd : FuncData) (ps : List Str), g.mg x = some (.ref a) ∧ PySem.W.keepIn g.K (.ref a) = true ∧ Binds g.K fd ps [] ∧ FnOk g.P g.w g.K g.mg g.base (L2.CX g.P g.w) n a fd ps (SpD g ps.length f) ∧ ∀ as st, as.length ≠ ps.length → f as st = .no
structure Same4 (g : G) (X : Cx) : Prop where
  P : X.prog = g.P
  w : X.w = g.w
  K : X.K = g.K
  mg : X.mg = g.mg
  base : X.base = g.base
theorem spd_of {np : Nat} {f : List AV → Sto → R AV} {vs : List V} {as : List AV} {Q : VK} {σ : L2.St} (rel : Rel g al st H) (rv : RVs g.K H al as vs) (hn : ∀ as st, as.length ≠ np → f as st = .no) (p : Post g (rvOf g) (f as st) al H Q (wOf g W σ)) :
    SpD g np f vs H Q fun c d H' => W c d σ H' := by
  by_cases h : as.length = np
  · exact ⟨by rw [← rv.length]; exact h, al, st, as, rel, rv, p⟩
  · rw [hn as st h] at p
    exact p.elim
/-- a wish that hangs on the slots: at each set of slots for itself -/
theorem PE.slots {e : Expr} {t : TE} (h : ∀ σ, ∃ t', PE X e t' ∧ ∀ H Q, t σ H Q → t' σ H Q) : PE X e t :=
  ⟨fun pins s σ H Q I q => let ⟨_, ht, i⟩ := h σ; ht.run pins s σ H Q I (i H Q q)⟩
theorem base_of {o : Expr} {n : Str} {env : Env} {w : Sem Value} (h : noSuper o = true) : attributeBase o n env w = w := by
  unfold attributeBase
  split
  · rename_i id p pos
    have h' : id ≠ ("super" : Str) := of_decide_eq_true h
    have e : (id != ("super" : Str)) = true := by simpa using h'
    simp only [e, Bool.true_or, if_true]
  · rfl
theorem few_of {vs : List Expr} {env : Env} {pos : Pos} (h : vs.all noStar = true) (h2 : vs.length < 25) : methodCallForm (vs.length + ([] : List Keyword).length) (backTo pos (starEach vs env)) (backToKw pos (keywordEach [] env)) = true := by
  unfold methodCallForm
  have h1 := stars_of (env := env) (pos := pos) h
  rw [h1]
  have h3 : (backToKw pos (keywordEach [] env)) = [] := rfl
  rw [h3]
  simp
  omega
theorem meth_eq {o : Expr} {n : Str} {env : Env} {vs : List Expr} {apos pos : Pos} (h0 : noSuper o = true) (h : vs.all noStar = true) (h2 : vs.length < 25) (h3 : (apos.endLine == pos.line) = true) :
    eval (.Call (.Attribute o n apos) vs [] pos) env = (do
      let ov ← eval o env
      standAt apos.atName
      let (f, first) ← holding [ov] (getMethod ov n (do return (← importBound o env).getD true))
      callWith pos f first (backTo pos (starEach vs env)) (backToKw pos (keywordEach [] env))) := by
  show (do
    let ov ← attributeBase o n env (eval o env)
    standAt apos.atName
    methodCall o n apos pos env ov (vs.length + ([] : List Keyword).length) (backTo pos (starEach vs env)) (backToKw pos (keywordEach [] env))) = _
  rw [base_of h0]
  unfold methodCall calleeOf methodCallPos
  rw [few_of h h2, h3]
  rfl

/-! ### calls, with what is raised wished for at the slots as they stand -/
theorem spd_run {np : Nat} {f : List AV → Sto → R AV} (hno : ∀ as st, as.length ≠ np → f as st = .no) {Q : VK} {vs : List V} {as : List AV} (rel : Rel g al st H) (rv : RVs g.K H al as vs) (p : Post g (rvOf g) (f as st) al H Q (wOf g W σ)) :
    SpD g np f vs H Q (WE W σ) := spd_of rel rv hno p
theorem k_call {n : Nat} {x : Str} {p : Pos} {f : List AV → Sto → R AV} (S : Same4 g X) (hr : Room n X.A) (tk : Takes X W) (hg : glb X.env.scope x = true) (D : DefOk g n x f) (hs : (a :: es).all noStar = true) (h : PA X (a :: es) (TVs g W rr)) :
    PE X (.Call (.Name x p) (a :: es) [] pos) (TV g W fun e st => (rr e st).bind fun xs st => f xs st) := by
  obtain ⟨fa, fd, ps, hm, hk, hb, F, hno⟩ := D.ex
  obtain ⟨h1, h2, h3⟩ := glb_of hg
  rw [← S.P, ← S.w, ← S.K, ← S.mg, ← S.base] at F
  rw [← S.K] at hk hb
  rw [← S.mg] at hm
  rw [List.all_cons, Bool.and_eq_true] at hs
  refine PE.imp (pe_callS (E := WE W) F hr h1 hm hk hb (fun σ => passAt tk σ) h h2 (star_of hs.1) (any_of_all (stars_of hs.2))) fun σ H Q ⟨al, st, e, rel, rs, pp⟩ => ?_
  obtain ⟨al0, st0, e0, rel0, rs0, p0⟩ := TVs.then (ra := rr) (f := fun _ xs st => f xs st) rel rs pp
  exact ⟨al0, st0, e0, rel0, rs0, Post.imp p0 fun vs H1 ⟨al1, a1, st1, rel1, rs1, rv1, p1, s1⟩ => spd_run hno rel1 rv1 p1⟩
theorem k_call0 {n : Nat} {x : Str} {p : Pos} {f : List AV → Sto → R AV} (S : Same4 g X) (hr : Room n X.A) (tk : Takes X W) (hg : glb X.env.scope x = true) (D : DefOk g n x f) :
    PE X (.Call (.Name x p) [] [] pos) (TV g W fun _ st => f [] st) := by
  obtain ⟨fa, fd, ps, hm, hk, hb, F, hno⟩ := D.ex
  obtain ⟨h1, h2, h3⟩ := glb_of hg
  rw [← S.P, ← S.w, ← S.K, ← S.mg, ← S.base] at F
  rw [← S.K] at hk hb
  rw [← S.mg] at hm
  refine ⟨fun pins s σ H Q I ⟨al, st, e, rel, rs, pp⟩ => ?_⟩
  exact wpAny_Call_Name_kw (ld_glob I h1 hm (PySem.W.callWith_K0 I.kIn hk (run_fnS (E := WE W) (us := []) (vs := []) F hr hb (passAt tk σ) I .nil (spd_run (as := []) hno rel rfl pp))) h2)

/-- an instance of a class, made -/
structure ClsOk (g : G) (n : Nat) (x : Str) (c : Nat) (f : List AV → Sto → R AV) : Prop where
  ex : ∃ (a : Addr) (fd : FuncData) (ps : List Str), g.mg x = some (.ref (g.clsA c)) ∧ Mk g.K (g.clsA c) a ∧ Binds g.K fd ps [] ∧ FnOk g.P g.w g.K g.mg g.base (L2.CX g.P g.w) n a fd ps (SpD g ps.length f) ∧ ∀ as st, as.length ≠ ps.length → f as st = .no
/-- two new addresses: the instance's own dict, the instance -/
theorem stp_mk {x dx : Addr} {c : Nat} (r : Rel g al st H) (hx : H x = none) (hd : H dx = none) (ne : dx ≠ x) :
    Stp al H (alUp al st.length x) (upd (upd H dx (.own x)) x (.ins (g.clsA c) dx [])) ∧ Rel g (alUp al st.length x) (st ++ [.ins c []]) (upd (upd H dx (.own x)) x (.ins (g.clsA c) dx [])) := by
  have r1 := rel_free (o := .own x) r hd
  have s1 : Stp al H al (upd H dx (.own x)) := stp_free hd
  have hx1 : upd H dx (.own x) x = none := by rw [upd_ne (Ne.symm ne)]; exact hx
  have hq := r1.free hx1
  refine ⟨s1.trans (stp_new r1 hx1 hq), rel_new r1 hx1 hq ⟨dx, [], upd_same, rfl⟩⟩
theorem run_new {C fi : Addr} {k : Nat} {fd : FuncData} {ps : List Str} {sp : Sp} {E : L2.St → XK} {pins : List (Addr × Obj)} {s : Shared} {Q : VK} {us : List Value} {vs : List V} (M : Mk X.K C fi) (F : FnOk X.prog X.w X.K X.mg X.base (L2.CX X.prog X.w) k fi fd ps sp)
    (hr : Room (k + 1) X.A) (hb : Binds X.K fd ps []) (hx : PassesAt (L2.CX X.prog X.w) X σ (E σ)) (I : Inv X pins σ H s) (r : Vals vs us)
    (h : ∀ x dx, H x = none → H dx = none → dx ≠ x → sp (.ref x :: vs) (upd (upd H dx (.own x)) x (.ins C dx [])) (fun v H2 => v = .non ∧ Q (.ref x) H2) (E σ)) :
    wpAny (model X.prog X.w) X.A (call (.ref C) us) (EP X pins σ Q) X.xe s := by
  have free1 : H (s.heap.objs.size + 1) = none := I.hok.fresh (Nat.le_succ _)
  have free2 : H s.heap.objs.size = none := I.hok.fresh (Nat.le_refl _)
  have want := h _ _ free1 free2 (Nat.ne_of_lt (Nat.lt_succ_self _))
  have J := Inv.made (C := C) I
  have rr : Vals (V.ref (s.heap.objs.size + 1) :: vs) (Value.ref (s.heap.objs.size + 1) :: us) := .cons rfl r
  have hl : (Value.ref (s.heap.objs.size + 1) :: us).length = ps.length := by
    rw [← rr.length]
    exact F.len _ _ _ _ want
  have bd := hb _ (Value.ref (s.heap.objs.size + 1) :: us) J.kIn (by rw [List.append_nil]; exact hl)
  rw [List.append_nil] at bd
  have go := F.run _ X.stack _ _ ⟨Value.ref (s.heap.objs.size + 1) :: us, []⟩ _ _ _ _ (hr.make C us []) (J.env0.make C us []) bd rr want
  refine wpAny_call (make_map (f := fi) I.kIn M.makes M.init (beq_iff_eq.mp M.fn) (codeAny_mono go fun res s2 out => ?_))
  cases res with
  | error ex => exact hx pins _ _ ex s2 J out
  | ok fl =>
    cases fl with
    | ret u =>
      obtain ⟨v, H2, J2, rv, ev, q⟩ := J.after out
      subst ev
      exact ⟨rv, V.ref (s.heap.objs.size + 1), H2, J2, rfl, q⟩
    | next => exact out.elim
    | brk => exact out.elim
    | cont => exact out.elim
def mkF (f : List AV → Sto → R AV) (c : Nat) (xs : List AV) (st : Sto) : R AV :=
  (f (.ref st.length :: xs) (st ++ [.ins c []])).bind fun v st' => if v = .non then .ok (.ref st.length) st' else .no
theorem mk_run {np c : Nat} {f : List AV → Sto → R AV} {Q : VK} {vs : List V} {as : List AV} (hno : ∀ as st, as.length ≠ np → f as st = .no) (rel : Rel g al st H) (rv : RVs g.K H al as vs) (p : Post g (rvOf g) (mkF f c as st) al H Q (wOf g W σ)) :
    ∀ x dx, H x = none → H dx = none → dx ≠ x → SpD g np f (.ref x :: vs) (upd (upd H dx (.own x)) x (.ins (g.clsA c) dx [])) (fun v H2 => v = .non ∧ Q (.ref x) H2) (WE W σ) := by
  intro x dx hx hd ne
  obtain ⟨s1, r1⟩ := stp_mk (c := c) rel hx hd ne
  have ax : alUp al st.length x st.length = some x := by unfold alUp; rw [if_pos rfl]
  refine spd_run (as := .ref st.length :: as) hno r1 ⟨_, _, rfl, ⟨x, ax, rfl⟩, RVs.step rel.notup s1 _ _ rv⟩ ?_
  unfold mkF at p
  revert p
  generalize f (.ref st.length :: as) (st ++ [.ins c []]) = y
  intro p
  cases y with
  | ok v st2 =>
    intro al2 H2 w s2 rel2 rv2
    have p : Post g (rvOf g) (if v = .non then .ok (.ref st.length) st2 else .no) al H Q (wOf g W σ) := p
    by_cases hv : v = .non
    · rw [if_pos hv] at p
      subst hv
      exact ⟨rv2, p al2 H2 _ (s1.trans s2) rel2 ⟨x, s2.up _ _ ax, rfl⟩⟩
    · rw [if_neg hv] at p
      exact p.elim
  | ex d st2 => exact fun al2 H2 s2 rel2 => p al2 H2 (s1.trans s2) rel2
  | no => exact p.elim
theorem k_mk {n c : Nat} {x : Str} {p : Pos} {f : List AV → Sto → R AV} (S : Same4 g X) (hr : Room (n + 1) X.A) (tk : Takes X W) (hg : glb X.env.scope x = true) (D : ClsOk g n x c f) (hs : (a :: es).all noStar = true) (h : PA X (a :: es) (TVs g W rr)) :
    PE X (.Call (.Name x p) (a :: es) [] pos) (TV g W fun e st => (rr e st).bind fun xs st => mkF f c xs st) := by
  obtain ⟨fa, fd, ps, hm, M, hb, F, hno⟩ := D.ex
  obtain ⟨h1, h2, h3⟩ := glb_of hg
  rw [← S.P, ← S.w, ← S.K, ← S.mg, ← S.base] at F
  rw [← S.K] at M hb
  rw [← S.mg] at hm
  rw [List.all_cons, Bool.and_eq_true] at hs
  refine ⟨fun pins s σ H Q I ⟨al, st, e, rel, rs, pp⟩ => ?_⟩
  refine wpAny_Call_Name_kw (ld_glob I h1 hm ?_ h2)
  have q := TVs.then (ra := rr) (f := fun _ xs st => mkF f c xs st) rel rs pp
  refine PySem.W.callWith_K (h₀ := X.base) I.ok.mod.kin M.kp (thn (h.run pos pins s σ H _ I q) fun us s1 ⟨vs, H1, I1, rv, al1, as, st1, rel1, rs1, rv1, p1, _⟩ => ⟨I1.kIn, ?_⟩) (star_of hs.1) (any_of_all (stars_of hs.2))
  exact run_new (E := WE W) M F hr hb (passAt tk σ) I1 rv (mk_run hno rel1 rv1 p1)
theorem k_mk0 {n c : Nat} {x : Str} {p : Pos} {f : List AV → Sto → R AV} (S : Same4 g X) (hr : Room (n + 1) X.A) (tk : Takes X W) (hg : glb X.env.scope x = true) (D : ClsOk g n x c f) :
    PE X (.Call (.Name x p) [] [] pos) (TV g W fun _ st => mkF f c [] st) := by
  obtain ⟨fa, fd, ps, hm, M, hb, F, hno⟩ := D.ex
  obtain ⟨h1, h2, h3⟩ := glb_of hg
  rw [← S.P, ← S.w, ← S.K, ← S.mg, ← S.base] at F
  rw [← S.K] at M hb
  rw [← S.mg] at hm
  refine ⟨fun pins s σ H Q I ⟨al, st, e, rel, rs, pp⟩ => ?_⟩
  exact wpAny_Call_Name_kw (ld_glob I h1 hm (PySem.W.callWith_K0 I.kIn M.kp (run_new (E := WE W) (us := []) (vs := []) M F hr hb (passAt tk σ) I .nil (mk_run (as := []) hno rel rfl pp))) h2)

/-! ### methods -/
structure MetOk (g : G) (n : Nat) (c : Nat) (k : Nat) (f : List AV → Sto → R AV) : Prop where
  ex : ∃ (a : Addr) (fd : FuncData) (ps : List Str), Cls g.K (g.clsA c) ∧ Meth g.K (g.clsA c) (g.nm k) a ∧ Binds g.K fd ps [] ∧ FnOk g.P g.w g.K g.mg g.base (L2.CX g.P g.w) n a fd ps (SpD g ps.length f) ∧ ∀ as st, as.length ≠ ps.length → f as st = .no
theorem rf_look {k : Nat} : ∀ {fs : List (Nat × AV)} {ws : List (Str × V)}, RF g H al fs ws → fs.lookup k = none → ws.lookup (g.nm k) = none
  | [], ws, h, _ => by
    obtain rfl : ws = [] := h
    rfl
  | x :: fs, ws, ⟨w, r, e1, h1, h2⟩, e => by
    subst e1
    obtain ⟨x1, x2⟩ := x
    by_cases z : k = x1
    · subst z
      rw [List.lookup_cons, beq_self_eq_true] at e
      cases e
    · have zb : (k == x1) = false := beq_eq_false_iff_ne.mpr z
      rw [List.lookup_cons, zb] at e
      have zn : (g.nm k == g.nm x1) = false := beq_eq_false_iff_ne.mpr fun q => z (g.nmInj _ _ q)
      rw [List.lookup_cons, zn]
      exact rf_look h2 e
theorem rf_get {k : Nat} {v : AV} : ∀ {fs : List (Nat × AV)} {ws : List (Str × V)}, RF g H al fs ws → fs.lookup k = some v → ∃ w, ws.lookup (g.nm k) = some w ∧ RV g.K H al v w
  | [], ws, h, e => by cases e
  | x :: fs, ws, ⟨w, r, e1, h1, h2⟩, e => by
    subst e1
    obtain ⟨x1, x2⟩ := x
    by_cases z : k = x1
    · subst z
      rw [List.lookup_cons, beq_self_eq_true] at e
      cases e
      exact ⟨w, by rw [List.lookup_cons, beq_self_eq_true], h1⟩
    · have zb : (k == x1) = false := beq_eq_false_iff_ne.mpr z
      rw [List.lookup_cons, zb] at e
      have zn : (g.nm k == g.nm x1) = false := beq_eq_false_iff_ne.mpr fun q => z (g.nmInj _ _ q)
      obtain ⟨u, h3, h4⟩ := rf_get h2 e
      exact ⟨u, by rw [List.lookup_cons, zn]; exact h3, h4⟩
theorem ref_ins {c : Nat} {fs : List (Nat × AV)} {n : Nat} {w : V} (r : Rel g al st H) (rv : RV g.K H al (.ref n) w) (e : st[n]? = some (.ins c fs)) : ∃ p dx ws, w = .ref p ∧ al n = some p ∧ H p = some (.ins (g.clsA c) dx ws) ∧ RF g H al fs ws := by
  obtain ⟨p, e1, rfl⟩ := rv
  obtain ⟨q, e2, dx, ws, h1, h2⟩ := r.obj n _ e
  rw [e1] at e2; cases e2
  exact ⟨p, dx, ws, rfl, e1, h1, h2⟩
/-- the names of the methods of built-in types -/
structure NmOk (g : G) : Prop where
  n0 : g.nm 0 = "append"
  n1 : g.nm 1 = "extend"
  n2 : g.nm 2 = "insert"
  n3 : g.nm 3 = "pop"
  n4 : g.nm 4 = "clear"
  n5 : g.nm 5 = "reverse"
  n8 : g.nm 8 = "get"
  n10 : g.nm 10 = "join"
  n6 : g.nm 6 = "index"
  n7 : g.nm 7 = "count"
  n9 : g.nm 9 = "split"
  n11 : g.nm 11 = "find"
def selTy : Sel → String
  | .lst => "list" | .str => "str" | _ => "dict"
theorem bm_ok {X : Cx} (hK : X.K = g.K) (hu : X.A.units + 65 < cLine) (N : NmOk g) {T : Tab} {k : Nat} {v : AV} {s : Sel} (h : selA T k v st = s) (h1 : s ≠ .no) (h2 : ∀ d, s ≠ .own d) :
    ∃ id, PlainAttrs (selTy s) ∧ Slot (selTy s) (g.nm k) id ∧ typeOf (.builtin id) = pure (.type "method_descriptor") ∧ MtR X id (MA g s k) := by
  cases v with
  | ref n =>
    simp only [selA] at h
    split at h
    · split at h
      · exact absurd h.symm (h2 _)
      · exact absurd h.symm h1
    · by_cases hk : k ≤ 6
      · rw [if_pos hk] at h
        subst h
        obtain h | h | h | h | h | h | h : k = 0 ∨ k = 1 ∨ k = 2 ∨ k = 3 ∨ k = 4 ∨ k = 5 ∨ k = 6 := by omega
        · subst h; rw [N.n0]; exact ⟨_, PySem.F.plainAttrs_list, PySem.F.slot_list_append, PySem.F.type_list_append, mt_app⟩
        · subst h; rw [N.n1]; exact ⟨_, PySem.F.plainAttrs_list, PySem.F.slot_list_extend, PySem.F.type_list_extend, mt_ext⟩
        · subst h; rw [N.n2]; exact ⟨_, PySem.F.plainAttrs_list, PySem.F.slot_list_insert, PySem.F.type_list_insert, mt_ins⟩
        · subst h; rw [N.n3]; exact ⟨_, PySem.F.plainAttrs_list, PySem.F.slot_list_pop, PySem.F.type_list_pop, mt_popA⟩
        · subst h; rw [N.n4]; exact ⟨_, PySem.F.plainAttrs_list, PySem.F.slot_list_clear, PySem.F.type_list_clear, mt_clr⟩
        · subst h; rw [N.n5]; exact ⟨_, PySem.F.plainAttrs_list, PySem.F.slot_list_reverse, PySem.F.type_list_reverse, mt_rev⟩
        · subst h; rw [N.n6]; exact ⟨_, PySem.F.plainAttrs_list, PySem.F.slot_list_index, PySem.F.type_list_index, mt_indexA hK hu⟩
      · rw [if_neg hk] at h
        exact absurd h.symm h1
    · by_cases hk : k = 8 ∨ k = 3
      · rw [if_pos hk] at h
        subst h
        rcases hk with hk | hk
        · subst hk; rw [N.n8]
          exact ⟨_, PySem.F.plainAttrs_dict, PySem.F.slot_dict_get, PySem.F.type_dict_get, mt_getA (by omega)⟩
        · subst hk; rw [N.n3]
          exact ⟨_, PySem.F.plainAttrs_dict, PySem.F.slot_dict_pop, PySem.F.type_dict_pop, mt_dpopA⟩
      · rw [if_neg hk] at h
        exact absurd h.symm h1
    · by_cases hk : k = 8
      · rw [if_pos hk] at h
        subst h; subst hk; rw [N.n8]
        exact ⟨_, PySem.F.plainAttrs_dict, PySem.F.slot_dict_get, PySem.F.type_dict_get, mt_getA (by omega)⟩
      · rw [if_neg hk] at h
        exact absurd h.symm h1
    · exact absurd h.symm h1
  | str z =>
    simp only [selA] at h
    by_cases hk : k = 10 ∨ k = 7 ∨ k = 11 ∨ k = 9
    · rw [if_pos hk] at h
      subst h
      rcases hk with hk | hk | hk | hk
      · subst hk; rw [N.n10]; exact ⟨_, PySem.F.plainAttrs_str, PySem.F.slot_str_join, PySem.F.type_str_join, mt_joinA hK⟩
      · subst hk; rw [N.n7]; exact ⟨_, PySem.F.plainAttrs_str, PySem.F.slot_str_count, PySem.F.type_str_count, mt_countA⟩
      · subst hk; rw [N.n11]; exact ⟨_, PySem.F.plainAttrs_str, PySem.F.slot_str_find, PySem.F.type_str_find, mt_findA⟩
      · subst hk; rw [N.n9]; exact ⟨_, PySem.F.plainAttrs_str, PySem.F.slot_str_split, PySem.F.type_str_split, mt_splitA⟩
    · rw [if_neg hk] at h
      exact absurd h.symm h1
  | _ => exact absurd h.symm h1
theorem sel_ty {T : Tab} {k : Nat} {v : AV} {x : V} {s : Sel} (rel : Rel g al st H) (rv : RV g.K H al v x) (h : selA T k v st = s) (h1 : s ≠ .no) (h2 : ∀ d, s ≠ .own d) : tyV g.K (selTy s) x H := by
  cases v with
  | ref n =>
    simp only [selA] at h
    split at h
    · split at h
      · exact absurd h.symm (h2 _)
      · exact absurd h.symm h1
    · rename_i ys q
      by_cases hk : k ≤ 6
      · rw [if_pos hk] at h
        subst h
        obtain ⟨p, ws, rfl, ea, hp, r⟩ := ref_lst rel rv q
        exact .inl ⟨rfl, _, .inl (.inl hp)⟩
      · rw [if_neg hk] at h
        exact absurd h.symm h1
    · rename_i kvs q
      by_cases hk : k = 8 ∨ k = 3
      · rw [if_pos hk] at h
        subst h
        obtain ⟨p, ws, rfl, ea, hp, r⟩ := ref_dK rel rv q
        exact .inr (.inr (.inl ⟨rfl, .inl ⟨_, hp⟩⟩))
      · rw [if_neg hk] at h
        exact absurd h.symm h1
    · rename_i kvs q
      by_cases hk : k = 8
      · rw [if_pos hk] at h
        subst h
        obtain ⟨p, ws, rfl, ea, hp, r⟩ := ref_dT rel rv q
        exact .inr (.inr (.inl ⟨rfl, .inr ⟨_, hp⟩⟩))
      · rw [if_neg hk] at h
        exact absurd h.symm h1
    · exact absurd h.symm h1
  | str z =>
    simp only [selA] at h
    by_cases hk : k = 10 ∨ k = 7 ∨ k = 11 ∨ k = 9
    · rw [if_pos hk] at h
      subst h
      obtain rfl : x = .str (T8 z) := rv
      rfl
    · rw [if_neg hk] at h
      exact absurd h.symm h1
  | _ => exact absurd h.symm h1
theorem sel_own {T : Tab} {k d : Nat} {v : AV} {x : V} (rel : Rel g al st H) (rv : RV g.K H al v x) (h : selA T k v st = .own d) : ∃ c p dx ws, T.mt c k = some d ∧ x = .ref p ∧ H p = some (.ins (g.clsA c) dx ws) ∧ ws.lookup (g.nm k) = none := by
  cases v with
  | ref n =>
    simp only [selA] at h
    split at h
    · rename_i c fs q
      split at h
      · rename_i d' e1 e2
        cases h
        obtain ⟨p, dx, ws, rfl, ea, hp, r⟩ := ref_ins rel rv q
        exact ⟨c, p, dx, ws, e1, rfl, hp, rf_look r e2⟩
      · cases h
    · split at h <;> cases h
    · split at h <;> cases h
    · split at h <;> cases h
    · cases h
  | str z =>
    simp only [selA] at h
    split at h <;> cases h
  | _ => cases h
theorem any_none {vs : List Expr} {env : Env} {pos : Pos} (h : vs.all noStar = true) : (backTo pos (starEach vs env)).any (·.1) = false := any_of_all (stars_of h)
theorem args_none {M : Model} {A : Around} {E : Value → Shared → Prop} {s : Shared} {f : Value} {U : List Value → Shared → Prop} {Q : Args → Shared → Prop} (z : wpAny M A (spliced []) U E s) (h : ∀ us s1, U us s1 → Q ⟨us, []⟩ s1) : wpAny M A (evalArgs f true [] []) Q E s := by
  unfold evalArgs
  show wpAny M A ((spliced []) >>= _) Q E s
  refine wpAny_bind (wpAny_mono z (fun us s1 q => wpAny_bind (wpAny_pure ?_)) fun _ _ q => q)
  exact wpAny_holding (by first | exact wpAny_bind (wpAny_pure (wpAny_pure (h us s1 q))) | exact wpAny_pure (h us s1 q) | exact wpAny_bind (wpAny_pure (h us s1 q)))
/-- the arguments, then a call with what stands ahead of them -/
theorem call_first {f : Value} {first : List Value} {pins : List (Addr × Obj)} {s : Shared} {Q : Value → Shared → Prop} {t : TA} {R : List V → Hp → Prop} (I : Inv X pins σ H s) (hk : PySem.W.keepIn X.K f = true) (hs : es.all noStar = true) (h : PA X es t) (q : t σ H R)
    (hc : ∀ us s1 vs H1, Inv X pins σ H1 s1 → Vals vs us → R vs H1 → wpAny (model X.prog X.w) X.A (call f (first ++ us)) Q X.xe s1) :
    wpAny (model X.prog X.w) X.A (callWith pos f first (backTo pos (starEach es X.env)) []) Q X.xe s := by
  have z := h.run pos pins s σ H _ I q
  cases es with
  | nil =>
    exact PySem.W.callWith_of rfl (PySem.W.keeps_K hk) (args_none z fun us s1 ⟨vs, H1, I1, r, q1⟩ => ⟨I1.kIn, hc us s1 vs H1 I1 r q1⟩)
  | cons a es =>
    rw [List.all_cons, Bool.and_eq_true] at hs
    exact PySem.W.callWith_K (h₀ := X.base) I.ok.mod.kin hk (thn z fun us s1 ⟨vs, H1, I1, r, q1⟩ => ⟨I1.kIn, hc us s1 vs H1 I1 r q1⟩) (star_of hs.1) (any_none hs.2)

theorem call_blt {id : String} {v : Value} {pins : List (Addr × Obj)} {s : Shared} {Q : Value → Shared → Prop} {t : TA} {R : List V → Hp → Prop} (I : Inv X pins σ H s) (hs : es.all noStar = true) (h : PA X es t) (q : t σ H R)
    (hc : ∀ us s1 vs H1, Inv X pins σ H1 s1 → Vals vs us → R vs H1 → wpAny (model X.prog X.w) X.A (call (.builtin id) (v :: us)) Q X.xe s1) :
    wpAny (model X.prog X.w) X.A (callWith pos (.builtin id) [v] (backTo pos (starEach es X.env)) []) Q X.xe s := by
  have z := h.run pos pins s σ H _ I q
  cases es with
  | nil => exact Calls.callWith_builtin rfl (args_none z fun us s1 ⟨vs, H1, I1, r, q1⟩ => hc us s1 vs H1 I1 r q1)
  | cons a es =>
    rw [List.all_cons, Bool.and_eq_true] at hs
    rw [star_of hs.1] at z ⊢
    refine Calls.callWith_builtin ?_ (Calls.evalArgs_plain (thn z fun us s1 ⟨vs, H1, I1, r, q1⟩ => hc us s1 vs H1 I1 r q1))
    show (false || (backTo pos (starEach es X.env)).any (·.1)) = false
    rw [any_none hs.2]
    rfl
theorem k_meth {n k : Nat} {o : Expr} {ro : Run1 AV} {cf : CallF} {ap : Pos} (S : Same4 g X) (hu : X.A.units + 65 < cLine) (N : NmOk g) (hr : Room n X.A) (tk : Takes X W) (ho : PE X o (TV g W ro)) (hs : es.all noStar = true) (h2 : es.length < 25) (h3 : (ap.endLine == pos.line) = true) (h0 : noSuper o = true)
    (h : PA X es (TVs g W rr)) (md : ∀ c d, g.T.mt c k = some d → MetOk g n c k (cf d)) :
    PE X (.Call (.Attribute o (g.nm k) ap) es [] pos) (TV g W fun e st => (ro e st).bind fun v st => (selA g.T k v st).ok ((rr e st).bind fun xs st1 => methA cf (selA g.T k v st) k v xs st1)) := by
  refine ⟨fun pins s σ H Q I ⟨al, st, e, rel, rs, pp⟩ => ?_⟩
  have q := TV.then (ra := ro) (f := fun e v st => (selA g.T k v st).ok ((rr e st).bind fun xs st1 => methA cf (selA g.T k v st) k v xs st1)) rel rs pp
  refine PySem.W.methodCall_KW (thn (ho.run pins s σ H _ I q) fun ov s1 ⟨x, H1, I1, rx, al1, v, st1, rel1, rs1, rv1, p1, _⟩ => ?_) (meth_eq h0 hs h2 h3)
  cases hsel : selA g.T k v st1 with
  | no =>
    rw [hsel] at p1
    exact p1.elim
  | own d =>
    rw [hsel] at p1
    obtain ⟨c, p, dx, ws, hmt, rfl, hp, hl⟩ := sel_own rel1 rv1 hsel
    obtain rfl : ov = Value.ref p := rx
    have D := md c d hmt
    obtain ⟨fa, fd, ps, hc, hm, hb, F, hno⟩ := D.ex
    rw [← S.P, ← S.w, ← S.K, ← S.mg, ← S.base] at F
    rw [← S.K] at hc hm hb
    refine getmeth_ok I1 hp hc hm hl ?_
    have q1 := TVs.then (ra := rr) (f := fun _ xs st2 => cf d (v :: xs) st2) rel1 rs1 p1
    refine call_first (f := .ref fa) (first := [.ref p]) I1 hm.kp hs h q1 fun us s2 vs H2 I2 rus ⟨al2, as, st2, rel2, rs2, rv2, p2, s2'⟩ => ?_
    exact run_fnS (E := WE W) (us := .ref p :: us) (vs := .ref p :: vs) F hr hb (passAt tk σ) I2 (.cons rfl rus) (spd_run (as := v :: as) hno rel2 ⟨_, _, rfl, RV.step rel1.notup s2' _ _ rv1, rv2⟩ p2)
  | lst =>
    rw [hsel] at p1
    obtain ⟨id, pa, sl, hty, hm⟩ := bm_ok (X := X) S.K hu N hsel (by intro z; cases z) (by intro d z; cases z)
    have ty := sel_ty rel1 rv1 hsel (by intro z; cases z) (by intro d z; cases z)
    rw [← S.K] at ty
    obtain ⟨h5, h6⟩ := tyV_is I1 rx ty
    refine getMethod_builtin h5 pa sl hty h6 ?_
    have q1 := TVs.then (ra := rr) (f := fun _ xs st2 => bmeth .lst k v xs st2) rel1 rs1 p1
    refine call_blt I1 hs h q1 fun us s2 vs H2 I2 rus ⟨al2, as, st2, rel2, rs2, rv2, p2, s2'⟩ => ?_
    exact hm pins s2 σ H2 x vs ov us Q I2 rx rus ⟨al2, st2, v, as, _, rel2, RV.step rel1.notup s2' _ _ rv1, rv2, p2⟩
  | str =>
    rw [hsel] at p1
    obtain ⟨id, pa, sl, hty, hm⟩ := bm_ok (X := X) S.K hu N hsel (by intro z; cases z) (by intro d z; cases z)
    have ty := sel_ty rel1 rv1 hsel (by intro z; cases z) (by intro d z; cases z)
    rw [← S.K] at ty
    obtain ⟨h5, h6⟩ := tyV_is I1 rx ty
    refine getMethod_builtin h5 pa sl hty h6 ?_
    have q1 := TVs.then (ra := rr) (f := fun _ xs st2 => bmeth .str k v xs st2) rel1 rs1 p1
    refine call_blt I1 hs h q1 fun us s2 vs H2 I2 rus ⟨al2, as, st2, rel2, rs2, rv2, p2, s2'⟩ => ?_
    exact hm pins s2 σ H2 x vs ov us Q I2 rx rus ⟨al2, st2, v, as, _, rel2, RV.step rel1.notup s2' _ _ rv1, rv2, p2⟩
  | dic =>
    rw [hsel] at p1
    obtain ⟨id, pa, sl, hty, hm⟩ := bm_ok (X := X) S.K hu N hsel (by intro z; cases z) (by intro d z; cases z)
    have ty := sel_ty rel1 rv1 hsel (by intro z; cases z) (by intro d z; cases z)
    rw [← S.K] at ty
    obtain ⟨h5, h6⟩ := tyV_is I1 rx ty
    refine getMethod_builtin h5 pa sl hty h6 ?_
    have q1 := TVs.then (ra := rr) (f := fun _ xs st2 => bmeth .dic k v xs st2) rel1 rs1 p1
    refine call_blt I1 hs h q1 fun us s2 vs H2 I2 rus ⟨al2, as, st2, rel2, rs2, rv2, p2, s2'⟩ => ?_
    exact hm pins s2 σ H2 x vs ov us Q I2 rx rus ⟨al2, st2, v, as, _, rel2, RV.step rel1.notup s2' _ _ rv1, rv2, p2⟩

/-! ### fields -/
theorem k_fld {o : Expr} {f : Nat} {ro : Run1 AV} (S : Same4 g X) (h0 : noSuper o = true) (ho : PE X o (TV g W ro)) (fl : ∀ c, g.T.fl c f = true → Cls g.K (g.clsA c) ∧ NoAttr g.K (g.clsA c) (g.nm f)) :
    PE X (.Attribute o (g.nm f) pos) (TV g W fun e st => (ro e st).bind fun v st => fldA g.T v f st) := by
  refine PE.imp (pe_fld ho (base_of h0)) fun σ H Q ⟨al, st, e, rel, rs, pp⟩ => ?_
  obtain ⟨al0, st0, e0, rel0, rs0, p0⟩ := TV.then (ra := ro) (f := fun e v st => fldA g.T v f st) rel rs pp
  refine ⟨al0, st0, e0, rel0, rs0, Post.imp p0 fun x H1 ⟨al1, v, st1, rel1, rs1, rv1, p1, s1⟩ => ?_⟩
  cases v with
  | ref n =>
    simp only [fldA] at p1
    split at p1
    · rename_i c fs q
      by_cases hf : g.T.fl c f = true
      · rw [if_pos hf] at p1
        split at p1
        · rename_i u hu
          obtain ⟨p, dx, ws, rfl, ea, hp, r⟩ := ref_ins rel1 rv1 q
          obtain ⟨w, h1, h2⟩ := rf_get r hu
          obtain ⟨c1, c2⟩ := fl c hf
          rw [S.K]
          exact ⟨p, _, dx, ws, w, rfl, hp, c1, c2, h1, Post.same p1 rel1 h2⟩
        · exact p1.elim
      · rw [if_neg hf] at p1
        exact p1.elim
    · exact p1.elim
  | _ => exact p1.elim

/-! ### subscripts, slices -/
theorem plain_of {b : Expr} (h : noSlice b = true) : ∀ o i, subscripted b false o i = operate [o, i] (getItem o i) := by
  intro o i
  cases b <;> first | rfl | (cases h)
theorem PE.or2 {X : Cx} {e : Expr} {t t' : TE} (h : PE X e t) (h' : PE X e t') : PE X e (fun σ H Q => t σ H Q ∨ t' σ H Q) :=
  ⟨fun pins s σ H Q I q => q.elim (fun z => h.run pins s σ H Q I z) fun z => h'.run pins s σ H Q I z⟩
theorem ix_dict {X : Cx} (hu : X.A.units + 1 < cLine) : IxR X (fun x y H Q => ∃ a v, x = .ref a ∧ DGet H a y (some v) ∧ Q v H) := by
  intro value slice pins s σ H x y v u Q I rx ry h hs
  obtain ⟨a, r, rfl, gd, q⟩ := h
  cases rx
  exact tail_any (dict_typeIs I gd) PySem.F.slot_dict_getitem.lookup (d_getItem hu I gd ry fun w' s' I' rw' => ⟨r, H, I', rw', q⟩) hs
theorem ix_nst {X : Cx} (hu : X.A.units + 10 < cLine) : IxR X (fun x y H Q => ∃ p b k ws v, x = .ref p ∧ y = .ref b ∧ NObj H p ws ∧ KeyAt H k b ∧ valV ws k = some v ∧ Q v H) := by
  intro value slice pins s σ H x y v u Q I rx ry h hs
  obtain ⟨a, b, k, ws, r, rfl, rfl, h1, h2, h3, q⟩ := h
  cases rx
  cases ry
  have ht : s.TypeIs (.ref a) "dict" := by
    obtain ⟨_, _, xs, _, dd⟩ := nd_of I.hok h1
    exact dd.typeIs
  exact tail_any ht PySem.F.slot_dict_getitem.lookup (getN hu I h1 h2 h3 fun w' s' I' rw' => ⟨r, H, I', rw', q⟩) hs
theorem k_idx (S : Same4 g X) (hu : X.A.units + 65 < cLine) (h : noSlice b = true) (ha : PE X a (TV g W ra)) (hb : PE X b (TV g W rb)) : PE X (.Subscript a b pos) (TV g W fun e st => (ra e st).bind fun x st => (rb e st).bind fun y st => idxA x y st) := by
  refine PE.imp (pe_ix ((ix_seq (X := X)).or ((ix_dict (by omega)).or (ix_nst (by omega)))) ha hb (plain_of h)) (two fun x y H Q hq => ?_)
  obtain ⟨al, st, a, b, W, rel, ra, rb, p⟩ := hq
  rcases ix_or rel ra rb p with z | z | z
  · rw [S.K]; exact .inl z
  · exact .inr (.inl z)
  · exact .inr (.inr z)
/-- an end of a slice that may be left out -/
abbrev oeOf : Hp → Al → Option Int → Option Int → Prop := fun _ _ a b => a = b
def TOv (g : G) (W : WX) (r : Run1 (Option Int)) : TO := fun σ H Q => ∃ al st e, Rel g al st H ∧ RS g.K H al e σ ∧ Post g oeOf (r e st) al H Q (wOf g W σ)
theorem TOv.then {C D : Type} {RC : Hp → Al → C → D → Prop} {rl : Run1 (Option Int)} {f : Slots → Option Int → Sto → R C} {Q : D → Hp → Prop} (r : Rel g al st H) (rs : RS g.K H al e σ)
    (h : Post g RC ((rl e st).bind (f e)) al H Q (wOf g W σ)) :
    TOv g W rl σ H fun x H1 => ∃ al1 st1, Rel g al1 st1 H1 ∧ RS g.K H1 al1 e σ ∧ Post g RC (f e x st1) al1 H1 Q (wOf g W σ) ∧ Stp al H al1 H1 := by
  refine ⟨al, st, e, r, rs, ?_⟩
  have q := Post.bind (RA := oeOf) h
  revert q
  generalize rl e st = x
  intro q
  cases x with
  | ok a st2 =>
    intro al' H' b s rel rv
    obtain ⟨al1, a1, st1, s1, rel1, rv1, p⟩ := q al' H' b s rel rv
    have e' : a1 = b := rv1
    subst e'
    exact ⟨al1, st1, rel1, rs.step r.notup s1, p, s1⟩
  | ex c st2 => exact q
  | no => exact q
theorem PO.imp {X : Cx} {e : Option Expr} {t t' : TO} (h : PO X e t) (i : ∀ σ H Q, t' σ H Q → t σ H Q) : PO X e t' := ⟨fun pins s σ H Q I q => h.run pins s σ H Q I (i σ H Q q)⟩
theorem k_oN : PO X none (TOv g W fun _ st => .ok none st) :=
  PO.imp po_none fun σ H Q ⟨al, st, e, rel, rs, p⟩ => Post.ok (RA := oeOf) p rel rfl
theorem k_oS (ha : PE X a (TV g W ra)) : PO X (some a) (TOv g W fun e st => (ra e st).bind optI) := by
  refine PO.imp (po_some ha) fun σ H Q ⟨al, st, e, rel, rs, p⟩ => ?_
  obtain ⟨al0, st0, e0, rel0, rs0, p0⟩ := TV.then (ra := ra) (f := fun _ => optI) rel rs p
  refine ⟨al0, st0, e0, rel0, rs0, Post.imp p0 fun x H1 ⟨al1, v, st1, rel1, rs1, rv1, p1, s1⟩ => ?_⟩
  cases v with
  | int i => exact ⟨i, rv1, Post.ok (RA := oeOf) p1 rel1 rfl⟩
  | _ => exact p1.elim
theorem k_sl {lo hi : Option Expr} {p2 : Pos} {rl rh : Run1 (Option Int)} (S : Same4 g X) (ha : PE X a (TV g W ra)) (hl : PO X lo (TOv g W rl)) (hh : PO X hi (TOv g W rh)) :
    PE X (.Subscript a (.Slice lo hi none p2) pos) (TV g W fun e st => (ra e st).bind fun v st => (rl e st).bind fun x st => (rh e st).bind fun y st => slA v x y st) := by
  refine PE.imp (pe_slice (sl_A S.K) ha hl hh) fun σ H Q ⟨al, st, e, rel, rs, p⟩ => ?_
  obtain ⟨al0, st0, e0, rel0, rs0, p0⟩ := TV.then (ra := ra) (f := fun e v st => (rl e st).bind fun x st => (rh e st).bind fun y st => slA v x y st) rel rs p
  refine ⟨al0, st0, e0, rel0, rs0, Post.imp p0 fun v H1 ⟨al1, av, st1, rel1, rs1, rv1, p1, s1⟩ => ?_⟩
  obtain ⟨al2, st2, e2, rel2, rs2, p2⟩ := TOv.then (rl := rl) (f := fun e x st => (rh e st).bind fun y st => slA av x y st) rel1 rs1 p1
  refine ⟨al2, st2, e2, rel2, rs2, Post.imp p2 fun x H2 ⟨al3, st3, rel3, rs3, p3, s3⟩ => ?_⟩
  obtain ⟨al4, st4, e4, rel4, rs4, p4⟩ := TOv.then (rl := rh) (f := fun e y st => slA av x y st) rel3 rs3 p3
  refine ⟨al4, st4, e4, rel4, rs4, Post.imp p4 fun y H3 ⟨al5, st5, rel5, rs5, p5, s5⟩ => ?_⟩
  exact ⟨al5, st5, av, _, rel5, RV.step rel3.notup s5 _ _ (RV.step rel1.notup s3 _ _ rv1), p5⟩

/-! ### built-in functions by name -/
theorem cbR {r : List V → Hp → VK → Prop} {f : List AV → Sto → R AV} (hr : ∀ vs H Q, CA g f vs H Q → r vs H Q) : ∀ σ H Q, TV g W (fun e st => (rr e st).bind fun xs st => f xs st) σ H Q → tCB r (TVs g W rr) σ H Q := by
  intro σ H Q ⟨al, st, e, rel, rs, p⟩
  obtain ⟨al0, st0, e0, rel0, rs0, p0⟩ := TVs.then (ra := rr) (f := fun _ xs st => f xs st) rel rs p
  exact ⟨al0, st0, e0, rel0, rs0, Post.imp p0 fun vs H1 ⟨al1, as, st1, rel1, rs1, rv1, p1, s1⟩ => hr _ _ _ ⟨al1, st1, as, _, rel1, rv1, p1⟩⟩
theorem k_blt {x : Str} {p : Pos} {id : String} {f : List AV → Sto → R AV} (hc : CallR X (.builtin id) (CA g f)) (hg : glb X.env.scope x = true) (hm : X.mg x = none) (hv : bootBuiltins x = some (.builtin id)) (hs : (a :: es).all noStar = true) (h : PA X (a :: es) (TVs g W rr)) :
    PE X (.Call (.Name x p) (a :: es) [] pos) (TV g W fun e st => (rr e st).bind fun xs st => f xs st) := by
  obtain ⟨h1, h2, h3⟩ := glb_of hg
  rw [List.all_cons, Bool.and_eq_true] at hs
  exact PE.imp (pe_callB hc h1 hm hv h h3 h2 (star_of hs.1) (any_none hs.2)) (cbR fun _ _ _ q => q)
theorem k_typ {x : Str} {p : Pos} {id : String} {f : List AV → Sto → R AV} (hc : CallR X (.type id) (CA g f)) (hg : glb X.env.scope x = true) (hm : X.mg x = none) (hv : bootBuiltins x = some (.type id)) (hs : (a :: es).all noStar = true) (h : PA X (a :: es) (TVs g W rr)) :
    PE X (.Call (.Name x p) (a :: es) [] pos) (TV g W fun e st => (rr e st).bind fun xs st => f xs st) := by
  obtain ⟨h1, h2, h3⟩ := glb_of hg
  rw [List.all_cons, Bool.and_eq_true] at hs
  exact PE.imp (pe_callTy hc h1 hm hv h h3 h2 (star_of hs.1) (any_none hs.2)) (cbR fun _ _ _ q => q)
theorem k_isi {t : Ty} {x y : Str} {p p' : Pos} (S : Same4 g X) (hg : glb X.env.scope x = true) (hg2 : glb X.env.scope y = true) (hx : x = "isinstance") (hy : tyS t = some y) (hm : X.mg "isinstance" = none) (hm2 : X.mg y = none) (hs : noStar a = true) (ha : PE X a (TV g W ra)) :
    PE X (.Call (.Name x p) [a, .Name y p'] [] pos) (TV g W fun e st => (ra e st).bind fun v st => .ofB (isA g.T t v st) st) := by
  subst hx
  obtain ⟨h1, h2, h3⟩ := glb_of hg
  obtain ⟨h4, h5, h6⟩ := glb_of hg2
  have hv : ∃ n, tyOf t = some n ∧ bootBuiltins y = some (.type n) := by
    cases t <;> first
      | (cases hy; exact ⟨_, rfl, by decide +kernel⟩)
      | (cases hy)
  obtain ⟨n, ht, hb⟩ := hv
  have hty : PE X (.Name y p') (tC (.ty n)) := pe_bltn h4 hm2 hb rfl h6 h5
  refine PE.imp (pe_callB (r := rIsi X.K) call_isi h1 hm (show bootBuiltins "isinstance" = some (.builtin "isinstance") by decide +kernel) (pa_cons ha (pa_cons hty pa_nil) (star_of hs)) h3 h2 (star_of hs) (by rfl)) fun σ H Q ⟨al, st, e, rel, rs, pp⟩ => ?_
  obtain ⟨al0, st0, e0, rel0, rs0, p0⟩ := TV.then (ra := ra) (f := fun e v st => R.ofB (isA g.T t v st) st) rel rs pp
  refine ⟨al0, st0, e0, rel0, rs0, Post.imp p0 fun v H1 ⟨al1, av, st1, rel1, rs1, rv1, p1, s1⟩ => ?_⟩
  obtain ⟨b, e1, q⟩ := Post.ofB p1 rel1
  obtain ⟨u, h7, h8⟩ := isA_ok rel1 rv1 ht e1
  rw [← S.K] at h7 h8
  exact ⟨v, .ty n, u, _, b, rfl, .ty n, h7, h8, q⟩

/-! ### what is walked -/
/-- a walk by the model gives what the machine's list says -/
def ItOk (g : G) (al0 : Al) (H0 : Hp) (w : Wk) (J : It) : Prop := ∀ (al : Al) (H : Hp) (st : Sto), Stp al0 H0 al H → Rel g al st H → w.ck st = true →
  (∀ (i : Nat) (x : AV), w.xs[i]? = some x → J.go i H ∧ ∀ v H', J.yld i H v H' → Stp al H al H' ∧ Rel g al st H' ∧ RV g.K H' al x v) ∧ J.stop w.xs.length H
def TIv (g : G) (W : WX) (r : Run1 Wk) : TI := fun σ H Q => ∃ al st e, Rel g al st H ∧ RS g.K H al e σ ∧ Post g (fun H al w J => ItOk g al H w J) (r e st) al H Q (wOf g W σ)
theorem Post.wk {Q : It → Hp → Prop} {W : Nat → Hp → Prop} {o : Option Wk} (h : Post g (fun H al w J => ItOk g al H w J) (wkA o st) al H Q W) (r : Rel g al st H) : ∃ w, o = some w ∧ ∀ J, ItOk g al H w J → Q J H := by
  cases o with
  | some w => exact ⟨w, rfl, fun J k => Post.ok (RA := fun H al w J => ItOk g al H w J) h r k⟩
  | none => exact h.elim
/-- the source's own check -/
theorem ck_at {w : Wk} {n : Nat} {o : AO} (h : w.ck st = true) (e : w.at1 = some (n, o)) : st[n]? = some o := by
  unfold Wk.ck at h
  rw [e, Bool.and_eq_true] at h
  exact of_decide_eq_true h.1
theorem ck_at2 {w : Wk} {n : Nat} {o : AO} (h : w.ck st = true) (e : w.at2 = some (n, o)) : st[n]? = some o := by
  unfold Wk.ck at h
  rw [e, Bool.and_eq_true] at h
  exact of_decide_eq_true h.2
/-- a list of the store, later on -/
theorem lst_later {n : Nat} {p : Addr} {xs : List AV} (r : Rel g al st H) (e : al n = some p) (h : st[n]? = some (.lst xs)) : ∃ ws, H p = some (.lst ws) ∧ RVs g.K H al xs ws := by
  obtain ⟨q, e2, ws, h1, h2⟩ := r.obj n _ h
  rw [e] at e2; cases e2
  exact ⟨ws, h1, h2⟩
/-- a list or tuple or text, what it is at each time -/
structure SrcOk (g : G) (al0 : Al) (H0 : Hp) (w : Wk) (p : Addr) (L : Bool) : Prop where
  at_ : ∀ (al : Al) (H : Hp) (st : Sto), Stp al0 H0 al H → Rel g al st H → w.ck st = true → ∃ ws, (if L = true then SqL g.K H p ws else SqT g.K H p ws) ∧ RVs g.K H al w.xs ws
theorem src_of {v : AV} {x : V} {w : Wk} (rel : Rel g al st H) (rv : RV g.K H al v x) (e : srcA st v = some w) (hstr : ∀ z, v ≠ .str z) : ∃ p L, x = .ref p ∧ SrcOk g al H w p L ∧ (∃ ws, if L = true then SqL g.K H p ws else SqT g.K H p ws) := by
  cases v with
  | tup xs =>
    cases e
    obtain ⟨p, ws, rfl, hp, r⟩ := rv
    refine ⟨p, false, rfl, ⟨fun al1 H1 st1 s r1 _ => ⟨ws, ?_, RVs.step rel.notup s _ _ r⟩⟩, ws, ?_⟩
    · rw [if_neg Bool.false_ne_true]; exact .inl (.inl (tup_step rel.notup s hp))
    · rw [if_neg Bool.false_ne_true]; exact .inl (.inl hp)
  | rol xs =>
    cases e
    obtain ⟨p, rfl, hp⟩ := rv
    refine ⟨p, true, rfl, ⟨fun al1 H1 st1 s r1 _ => ⟨xs.map V.int, ?_, RVs.ints⟩⟩, xs.map V.int, ?_⟩
    · rw [if_pos rfl]; exact (sqr_step rel.notup s hp).sq
    · rw [if_pos rfl]; exact hp.sq
  | ref n =>
    simp only [srcA] at e
    split at e
    · rename_i xs q
      cases e
      obtain ⟨p, ws, rfl, ea, hp, r⟩ := ref_lst rel rv q
      refine ⟨p, true, rfl, ⟨fun al1 H1 st1 s r1 hc => ?_⟩, ws, ?_⟩
      · obtain ⟨ws2, h1, h2⟩ := lst_later r1 (s.up n p ea) (ck_at hc rfl)
        exact ⟨ws2, by rw [if_pos rfl]; exact .inl (.inl h1), h2⟩
      · rw [if_pos rfl]; exact .inl (.inl hp)
    · cases e
  | str z => exact absurd rfl (hstr z)
  | _ => cases e
theorem it_lst {w : Wk} {p : Addr} (h : SrcOk g al H w p true) : ItOk g al H w (Itl g.K p) := by
  intro al1 H1 st1 s r1 hc
  obtain ⟨ws, h1, h2⟩ := h.at_ al1 H1 st1 s r1 hc
  rw [if_pos rfl] at h1
  refine ⟨fun i x hx => ?_, ws, h1, by rw [h2.length]; exact Nat.le_refl _⟩
  obtain ⟨y, h3, h4⟩ := h2.get hx
  refine ⟨⟨ws, y, h1, h3⟩, fun v H' hy => ?_⟩
  obtain ⟨rfl, h5⟩ := hy
  have e : v = y := Option.some.inj ((h5 ws h1).symm.trans h3)
  subst e
  exact ⟨Stp.refl _ _, r1, h4⟩
theorem it_tup {w : Wk} {p : Addr} (h : SrcOk g al H w p false) : ItOk g al H w (Itt g.K p) := by
  intro al1 H1 st1 s r1 hc
  obtain ⟨ws, h1, h2⟩ := h.at_ al1 H1 st1 s r1 hc
  rw [if_neg Bool.false_ne_true] at h1
  refine ⟨fun i x hx => ?_, ws, h1, by rw [h2.length]; exact Nat.le_refl _⟩
  obtain ⟨y, h3, h4⟩ := h2.get hx
  refine ⟨⟨ws, y, h1, h3⟩, fun v H' hy => ?_⟩
  obtain ⟨rfl, h5⟩ := hy
  have e : v = y := Option.some.inj ((h5 ws h1).symm.trans h3)
  subst e
  exact ⟨Stp.refl _ _, r1, h4⟩
theorem it_str {z : List Nat} : ItOk g al H ⟨z.map fun c => .str [c], none, none⟩ (Its (T8 z)) := by
  intro al1 H1 st1 s r1 hc
  have hsz : (T8 z).cps.size = z.length := by simp [T8]
  refine ⟨fun i x hx => ?_, ?_⟩
  · rw [List.getElem?_map] at hx
    obtain ⟨c, h1, rfl⟩ := Option.map_eq_some_iff.mp hx
    have hi : i < z.length := (List.getElem?_eq_some_iff.mp h1).1
    refine ⟨by show i < (T8 z).cps.size; rw [hsz]; exact hi, fun v H' hy => ?_⟩
    obtain ⟨rfl, d, h2, rfl⟩ := hy
    have h3 : (T8 z).cps[i]? = z[i]? := by simp [T8]
    rw [h3, h1] at h2
    cases h2
    exact ⟨Stp.refl _ _, r1, rfl⟩
  · show (T8 z).cps.size ≤ _
    rw [hsz, List.length_map]
    exact Nat.le_refl _
theorem ints_get {a c : Int} : ∀ {n i : Nat} {x : AV}, (intsFrom a c n)[i]? = some x → i < n ∧ x = .int (a + (i : Int) * c)
  | 0, i, x, h => by cases h
  | n + 1, 0, x, h => by
    have h' : some (AV.int a) = some x := h
    cases h'
    exact ⟨Nat.succ_pos _, by simp⟩
  | n + 1, i + 1, x, h => by
    have h' : (intsFrom (a + c) c n)[i]? = some x := h
    obtain ⟨h1, h2⟩ := ints_get h'
    refine ⟨by omega, ?_⟩
    rw [h2]
    have e : (((i + 1 : Nat) : Int)) * c = (i : Int) * c + c := by
      rw [Int.natCast_add, Int.add_mul]
      simp
    rw [e]
    congr 1
    omega
theorem ints_len (a c : Int) : ∀ n : Nat, (intsFrom a c n).length = n
  | 0 => rfl
  | n + 1 => by
    show (intsFrom (a + c) c n).length + 1 = n + 1
    rw [ints_len (a + c) c n]
theorem it_rng {a : Int} {n : Nat} : ItOk g al H ⟨intsFrom a 1 n, none, none⟩ (Itr a n) := by
  intro al1 H1 st1 s r1 hc
  refine ⟨fun i x hx => ?_, by show n ≤ _; rw [ints_len]; exact Nat.le_refl _⟩
  obtain ⟨h1, rfl⟩ := ints_get hx
  refine ⟨h1, fun v H' hy => ?_⟩
  obtain ⟨rfl, rfl⟩ := hy
  refine ⟨Stp.refl _ _, r1, ?_⟩
  show V.int _ = V.int _
  rw [Int.mul_one]
theorem numb_get : ∀ {xs : List AV} {k i : Nat} {x : AV}, (numbered k xs)[i]? = some x → ∃ y, xs[i]? = some y ∧ x = .tup [.int ((k + i : Nat) : Int), y]
  | [], k, i, x, h => by cases h
  | y :: ys, k, 0, x, h => by
    have h' : some (AV.tup [.int k, y]) = some x := h
    cases h'
    exact ⟨y, rfl, rfl⟩
  | y :: ys, k, i + 1, x, h => by
    have h' : (numbered (k + 1) ys)[i]? = some x := h
    obtain ⟨z, h1, h2⟩ := numb_get h'
    refine ⟨z, h1, ?_⟩
    rw [h2, show k + 1 + i = k + (i + 1) by omega]
theorem numb_len : ∀ (xs : List AV) (k : Nat), (numbered k xs).length = xs.length
  | [], _ => rfl
  | x :: xs, k => by
    show (numbered (k + 1) xs).length + 1 = xs.length + 1
    rw [numb_len xs (k + 1)]
theorem it_enum {w : Wk} {p : Addr} (h : SrcOk g al H w p true) : ItOk g al H ⟨numbered 0 w.xs, w.at1, w.at2⟩ (Ite g.K p) := by
  intro al1 H1 st1 s r1 hc
  obtain ⟨ws, h1, h2⟩ := h.at_ al1 H1 st1 s r1 hc
  rw [if_pos rfl] at h1
  refine ⟨fun i x hx => ?_, ws, h1, by rw [numb_len, h2.length]; exact Nat.le_refl _⟩
  obtain ⟨y, h3, rfl⟩ := numb_get hx
  obtain ⟨u, h4, h5⟩ := h2.get h3
  refine ⟨⟨ws, u, h1, h4⟩, fun v H' hy => ?_⟩
  obtain ⟨T, x, rfl, nT, rfl, f1⟩ := hy
  have e : x = u := Option.some.inj ((f1 ws h1).symm.trans h4)
  subst e
  have s2 : Stp al1 H1 al1 (upd H1 T (.tup [.int (i : Nat), x])) := stp_free nT
  refine ⟨s2, rel_free r1 nT, T, _, rfl, upd_same, ?_⟩
  refine ⟨_, _, rfl, ?_, RVs.one (RV.step r1.notup s2 _ _ h5)⟩
  show V.int _ = V.int _
  rw [Nat.zero_add]
theorem zip_get : ∀ (xs ys : List AV) (i : Nat) (x : AV), (zipped xs ys)[i]? = some x → ∃ y z, xs[i]? = some y ∧ ys[i]? = some z ∧ x = .tup [y, z]
  | [], _, i, x, h => by simp [zipped] at h
  | _ :: _, [], i, x, h => by simp [zipped] at h
  | a :: xs, b :: ys, 0, x, h => by
    have h' : some (AV.tup [a, b]) = some x := h
    cases h'
    exact ⟨a, b, rfl, rfl, rfl⟩
  | a :: xs, b :: ys, i + 1, x, h => by
    have h' : (zipped xs ys)[i]? = some x := h
    exact zip_get xs ys i x h'
theorem zip_len : ∀ (xs ys : List AV), xs.length ≤ (zipped xs ys).length ∨ ys.length ≤ (zipped xs ys).length
  | [], _ => .inl (Nat.zero_le _)
  | _ :: _, [] => .inr (Nat.zero_le _)
  | a :: xs, b :: ys => by
    show xs.length + 1 ≤ (zipped xs ys).length + 1 ∨ ys.length + 1 ≤ (zipped xs ys).length + 1
    rcases zip_len xs ys with h | h
    · exact .inl (by omega)
    · exact .inr (by omega)
theorem ck_l {xs : List AV} {a1 a2 : Option (Nat × AO)} (h : (Wk.mk xs a1 a2).ck st = true) {ys : List AV} : (Wk.mk ys a1 none).ck st = true := by
  unfold Wk.ck at h ⊢
  rw [Bool.and_eq_true] at h
  rw [Bool.and_eq_true]
  exact ⟨h.1, rfl⟩
theorem ck_r {xs : List AV} {a1 a2 : Option (Nat × AO)} (h : (Wk.mk xs a1 a2).ck st = true) {ys : List AV} : (Wk.mk ys a2 none).ck st = true := by
  unfold Wk.ck at h ⊢
  rw [Bool.and_eq_true] at h
  rw [Bool.and_eq_true]
  exact ⟨h.2, rfl⟩
theorem src_one {v : AV} {w : Wk} (e : srcA st v = some w) : w = ⟨w.xs, w.at1, none⟩ := by
  cases v with
  | ref n =>
    simp only [srcA] at e
    split at e
    · cases e; rfl
    · cases e
  | tup xs => cases e; rfl
  | str xs => cases e; rfl
  | rol xs => cases e; rfl
  | _ => cases e
theorem it_zip {w z : Wk} {p q : Addr} (ew : w = ⟨w.xs, w.at1, none⟩) (ez : z = ⟨z.xs, z.at1, none⟩) (h : SrcOk g al H w p true) (h' : SrcOk g al H z q true) : ItOk g al H ⟨zipped w.xs z.xs, w.at1, z.at1⟩ (Itz g.K p q) := by
  intro al1 H1 st1 s r1 hc
  obtain ⟨ws, h1, h2⟩ := h.at_ al1 H1 st1 s r1 (by rw [ew]; exact ck_l hc)
  obtain ⟨us, h3, h4⟩ := h'.at_ al1 H1 st1 s r1 (by rw [ez]; exact ck_r hc)
  rw [if_pos rfl] at h1 h3
  refine ⟨fun i x hx => ?_, ws, us, h1, h3, by rw [← h2.length, ← h4.length]; exact zip_len _ _⟩
  obtain ⟨y, y2, e1, e2, rfl⟩ := zip_get _ _ _ _ hx
  obtain ⟨u, h5, h6⟩ := h2.get e1
  obtain ⟨u2, h7, h8⟩ := h4.get e2
  refine ⟨⟨ws, us, u, u2, h1, h3, h5, h7⟩, fun v H' hy => ?_⟩
  obtain ⟨T, x, x2, rfl, nT, rfl, f1, f2⟩ := hy
  have e : x = u := Option.some.inj ((f1 ws h1).symm.trans h5)
  have e' : x2 = u2 := Option.some.inj ((f2 us h3).symm.trans h7)
  subst e e'
  have s2 : Stp al1 H1 al1 (upd H1 T (.tup [x, x2])) := stp_free nT
  exact ⟨s2, rel_free r1 nT, T, _, rfl, upd_same, _, _, rfl, RV.step r1.notup s2 _ _ h6, RVs.one (RV.step r1.notup s2 _ _ h8)⟩
variable {tg : Expr}
theorem k_seq (S : Same4 g X) (ha : PE X a (TV g W ra)) : PI X tg a (TIv g W fun e st => (ra e st).bind fun v st => wkA (srcA st v) st) := by
  refine ⟨fun pins s σ H Q I ⟨al, st, e, rel, rs, p⟩ => ?_⟩
  have q := TV.then (ra := ra) (f := fun e v st => wkA (srcA st v) st) rel rs p
  have U : PI X tg a (fun σ H R => iList X.K (TV g W ra) σ H R ∨ iTup X.K (TV g W ra) σ H R ∨ iStr (TV g W ra) σ H R) :=
    ⟨fun pins s σ H R I z => z.elim (fun z => (pi_list ha).run pins s σ H R I z) fun z => z.elim (fun z => (pi_tup ha).run pins s σ H R I z) fun z => (pi_str ha).run pins s σ H R I z⟩
  refine U.run pins s σ H Q I ?_
  rw [S.K]
  -- by what the machine gives
  cases hra : ra e st with
  | no =>
    have p : Post g (fun H al w J => ItOk g al H w J) ((ra e st).bind fun v st => wkA (srcA st v) st) al H Q (wOf g W σ) := p
    rw [hra] at p
    exact p.elim
  | ex c st2 =>
    have p : Post g (fun H al w J => ItOk g al H w J) ((ra e st).bind fun v st => wkA (srcA st v) st) al H Q (wOf g W σ) := p
    rw [hra] at p
    exact .inl ⟨al, st, e, rel, rs, by rw [hra]; exact p⟩
  | ok v st2 =>
    have p : Post g (fun H al w J => ItOk g al H w J) ((ra e st).bind fun v st => wkA (srcA st v) st) al H Q (wOf g W σ) := p
    rw [hra] at p
    have p : Post g (fun H al w J => ItOk g al H w J) (wkA (srcA st2 v) st2) al H Q (wOf g W σ) := p
    cases hw : srcA st2 v with
    | none => rw [hw] at p; exact p.elim
    | some w =>
      rw [hw] at p
      by_cases hz : ∃ z, v = .str z
      · obtain ⟨z, rfl⟩ := hz
        cases hw
        refine .inr (.inr ⟨al, st, e, rel, rs, ?_⟩)
        rw [hra]
        intro al1 H1 x s1 r1 rv
        exact ⟨_, rv, p al1 H1 _ s1 r1 it_str⟩
      · have hstr : ∀ z, v ≠ .str z := fun z q => hz ⟨z, q⟩
        cases v with
        | tup xs =>
          refine .inr (.inl ⟨al, st, e, rel, rs, ?_⟩)
          rw [hra]
          intro al1 H1 x s1 r1 rv
          cases hw
          obtain ⟨q0, ws, rfl, hp, r⟩ := rv
          obtain ⟨p0, L, e0, k, h5⟩ := src_of (v := .tup xs) (w := ⟨xs, none, none⟩) r1 ⟨q0, ws, rfl, hp, r⟩ rfl hstr
          have hso : SrcOk g al1 H1 ⟨xs, none, none⟩ q0 false := ⟨fun al2 H2 st3 s3 r3 _ => ⟨ws, by rw [if_neg Bool.false_ne_true]; exact .inl (.inl (tup_step r1.notup s3 hp)), RVs.step r1.notup s3 _ _ r⟩⟩
          exact ⟨q0, rfl, ⟨ws, .inl (.inl hp)⟩, p al1 H1 _ s1 r1 (it_tup hso)⟩
        | str z => exact absurd rfl (hstr z)
        | rol xs =>
          refine .inl ⟨al, st, e, rel, rs, ?_⟩
          rw [hra]
          intro al1 H1 x s1 r1 rv
          cases hw
          obtain ⟨q0, rfl, hp⟩ := rv
          have hso : SrcOk g al1 H1 ⟨xs.map .int, none, none⟩ q0 true := ⟨fun al2 H2 st3 s3 r3 _ => ⟨xs.map V.int, by rw [if_pos rfl]; exact (sqr_step r1.notup s3 hp).sq, RVs.ints⟩⟩
          exact ⟨q0, rfl, ⟨_, hp.sq⟩, p al1 H1 _ s1 r1 (it_lst hso)⟩
        | ref n =>
          refine .inl ⟨al, st, e, rel, rs, ?_⟩
          rw [hra]
          intro al1 H1 x s1 r1 rv
          simp only [srcA] at hw
          split at hw
          · rename_i xs q
            cases hw
            obtain ⟨q0, ws, rfl, ea, hp, r⟩ := ref_lst r1 rv q
            have hso : SrcOk g al1 H1 ⟨xs, some (n, .lst xs), none⟩ q0 true := ⟨fun al2 H2 st3 s3 r3 hc => by
              obtain ⟨ws2, h1, h2⟩ := lst_later r3 (s3.up n q0 ea) (ck_at hc rfl)
              exact ⟨ws2, by rw [if_pos rfl]; exact .inl (.inl h1), h2⟩⟩
            exact ⟨q0, rfl, ⟨ws, .inl (.inl hp)⟩, p al1 H1 _ s1 r1 (it_lst hso)⟩
          · cases hw
        | _ => cases hw
end
end L3

/-! Snd7: what is walked; comprehensions. -/
namespace L3
open PySem PySem.Spec PyProof.Rows L2

/-! ### enumerate(text) -/
/-- the signs of a text, each in a new pair -/
def IteS (x : Str) : L2.It :=
  ⟨fun i _ => i < x.cps.size, fun i H v H2 => ∃ T c, v = .ref T ∧ H T = none ∧ H2 = upd H T (.tup [.int (i : Nat), .str ⟨#[c]⟩]) ∧ x.cps[i]? = some c, fun i _ => x.cps.size ≤ i⟩
theorem draws_str {P : Program} {w : World} {A : Around} (hh : A.handled = none) (it : Addr) (x : Str) (t : Tok) :
    Draws P w A it [it] x.cps.size (fun i v => ∃ c u, x.cps[i]? = some c ∧ v = .str ⟨#[c]⟩ u) (fun i h => h.IsStrIter it (strIterType x) x t i) := by
  unfold strIterType
  by_cases h : x.cps.all (· < 128) = true
  · rw [if_pos h]; exact Draws.strAscii hh it x t
  · rw [if_neg h]; exact Draws.strWide hh it x t
theorem turn_enumS {P : Program} {w : World} {K : PySem.W.Frag} {elts : List Expr} {kk : Nat} {tp : Pos} (x : Str) (t : Tok) (e it : Addr) :
    Turn P w K (.Tuple elts kk tp) (IteS x) [e, it] e (fun i h => (∃ old, IsEnum h e it ((i : Nat) : Int) old) ∧ h.IsStrIter it (strIterType x) x t i ∧ e ≠ it ∧ i ≤ x.cps.size) where
  mem := List.mem_cons_self
  obj := by
    intro i h st b hb
    obtain ⟨⟨old, he⟩, ⟨o, ho, hc, hd⟩, _, _⟩ := st
    have two : b = e ∨ b = it := by simpa using hb
    rcases two with z | z
    · rw [z]
      exact ⟨_, he, fun v q => nomatch q⟩
    · rw [z]
      exact ⟨o, ho, fun v q => by rw [hd] at q; cases q⟩
  keep := by
    intro i h h2 st k
    obtain ⟨⟨old, he⟩, ⟨o, ho, hr⟩, ne, le⟩ := st
    exact ⟨⟨old, k e List.mem_cons_self _ he⟩, ⟨o, k it (List.mem_cons_of_mem _ List.mem_cons_self) o ho, hr⟩, ne, le⟩
  item := by
    intro X eP ew eK hc i pins s σ H E I hf st go
    obtain ⟨⟨old, he⟩, hit, ne, le⟩ := st
    subst eP ew eK
    have go' : i < x.cps.size := go
    have de : e < s.heap.objs.size := Heap.lt_size he
    have di : it < s.heap.objs.size := let ⟨_, q, _⟩ := hit; Heap.lt_size q
    have D := draws_str (P := X.prog) (w := X.w) (A := X.A.in1) (show X.A.in1.handled = none from I.ok.hd hc) it x t
    refine wpAny_pyNext_enum_itemD D he hit go ne (by simpa using ne) fun v h2 tk hv ho hit2 hT hsz hk => ?_
    obtain ⟨c, u, hx, rfl⟩ := hv
    refine ⟨_, rfl, wpAny_letOwnedTupleGo_enum (s := { s with heap := h2, toks := tk + 1 }) ho fun h3 he3 sb => ?_⟩
    have at3 : h3.get? s.heap.objs.size = some { cls := .type "tuple", data := .seq #[.int i tk, .str ⟨#[c]⟩ u] } := (sb.2 _ (Nat.ne_of_gt de)).trans hT
    have made : ObjOk X.prog X.w (upd H s.heap.objs.size (.tup [.int (i : Nat), .str ⟨#[c]⟩])) h3 s.heap.objs.size (.tup [.int (i : Nat), .str ⟨#[c]⟩]) := by
      refine ⟨by show 2 ≤ sizeLine; decide, [.int i tk, .str ⟨#[c]⟩ u], .cons ⟨_, rfl⟩ (.cons ⟨_, rfl⟩ .nil), ?_⟩
      exact ⟨_, at3, rfl, _, rfl⟩
    have J : Inv X pins σ (upd H s.heap.objs.size (.tup [.int (i : Nat), .str ⟨#[c]⟩])) { s with heap := h3, toks := tk + 1 } := by
      refine I.turnedNew (ch := [e, it]) (fun b ob hb q => ?_) hf (Nat.le_refl _) made
      have n1 : b ≠ e := fun z => hb (by simp [z])
      have n2 : b ≠ it := fun z => hb (by simp [z])
      exact (sb.2 b n1).trans (hk b ob n1 n2 q)
    refine ⟨.ref s.heap.objs.size, _, J, rfl, ⟨_, c, rfl, I.hok.fresh (Nat.le_refl _), rfl, hx⟩, ⟨⟨.str ⟨#[c]⟩ u, ?_⟩, ?_, ne, go'⟩, fun b hb => ?_⟩
    · rw [show ((i + 1 : Nat) : Int) = (i : Int) + 1 by omega]
      exact he3
    · obtain ⟨o, q, r⟩ := hit2
      exact ⟨o, (sb.2 it (Ne.symm ne)).trans q, r⟩
    · have lt : b < s.heap.objs.size := by
        have two : b = e ∨ b = it := by simpa using hb
        rcases two with z | z <;> (rw [z]; assumption)
      rw [upd_ne (Nat.ne_of_lt lt)]
      exact (hf b hb).1
  done := by
    intro X eP ew eK hc i pins s σ H E I hf st stop
    obtain ⟨⟨old, he⟩, hit, ne, le⟩ := st
    subst eP ew eK
    have ei : i = x.cps.size := Nat.le_antisymm le stop
    subst ei
    have D := draws_str (P := X.prog) (w := X.w) (A := X.A.in1) (show X.A.in1.handled = none from I.ok.hd hc) it x t
    obtain ⟨f0, f1, f2, f3, f4, f5⟩ := hf it (by simp)
    exact wpAny_pyNext_enum_endD D he hit fun h2 eb => ⟨rfl, I.turned (t' := s.toks) (fun b o hb q => eb b o hb q) f0 f1 f3 f4 f5⟩
  self := by
    intro A i s Q E st h
    obtain ⟨⟨_, he⟩, _⟩ := st
    exact wpAny_pyIter_enum he h

section
variable {g : G} {m : MC} {X : Cx} {W : WX} {a b c tg : Expr} {ra rb rc : Run1 AV} {pos : Pos} {al al' : Al} {H H' : Hp} {st : Sto} {σ : L2.St} {e : Slots}
/-- enumerate of a text, by values -/
def iEnumS (te : TE) : TI := fun σ H R => te σ H fun v H1 => ∃ x, v = .str x ∧ R (IteS x) H1
theorem TV.imp {Q Q' : VK} (h : TV g W ra σ H Q) (i : ∀ v H, Q v H → Q' v H) : TV g W ra σ H Q' := let ⟨al, st, e, r, rs, p⟩ := h; ⟨al, st, e, r, rs, p.imp i⟩
theorem call1 {pins : List (Addr × Obj)} {s : Shared} {T : String} {x : Str} {p : Pos} {R : VK} {Q : Value → Shared → Prop} (I : Inv X pins σ H s) (hg : glb X.env.scope x = true) (hm : X.mg x = none) (hv : bootBuiltins x = some (.type T)) (hs : noStar a = true) (ha : PE X a (TV g W ra)) (q : TV g W ra σ H R)
    (h : ∀ u s1 v H1, Inv X pins σ H1 s1 → RelV v u → R v H1 → wpAny (model X.prog X.w) X.A (call (.type T) [u]) Q X.xe s1) : wpAny (model X.prog X.w) X.A (eval (.Call (.Name x p) [a] [] pos) X.env) Q X.xe s := by
  obtain ⟨h1, h2, h3⟩ := glb_of hg
  refine Call_ (ld_blt I h1 hm hv (PyProof.Rows.callWith_type1 ?_ (star_of hs) rfl) h3 h2)
  refine thn ((pa_cons ha pa_nil (star_of hs)).run pos pins s σ H (fun vs H1 => ∃ v, vs = [v] ∧ R v H1) I (TV.imp q fun v H1 z => ⟨v, rfl, z⟩)) fun us s1 ⟨vs, H1, I1, r1, v, ev, q1⟩ => ?_
  subst ev
  obtain ⟨u, rfl, ru⟩ := vals1 r1
  exact h u s1 v H1 I1 ru q1
theorem it_enumS {z : List Nat} : ItOk g al H ⟨numbered 0 (z.map fun c => .str [c]), none, none⟩ (IteS (T8 z)) := by
  intro al1 H1 st1 s r1 hc
  have hsz : (T8 z).cps.size = z.length := by simp [T8]
  refine ⟨fun i x hx => ?_, ?_⟩
  · obtain ⟨y, h1, rfl⟩ := numb_get hx
    rw [List.getElem?_map] at h1
    obtain ⟨c, h2, rfl⟩ := Option.map_eq_some_iff.mp h1
    have hi : i < z.length := (List.getElem?_eq_some_iff.mp h2).1
    refine ⟨by show i < (T8 z).cps.size; rw [hsz]; exact hi, fun v H' hy => ?_⟩
    obtain ⟨T, d, rfl, nT, rfl, h3⟩ := hy
    have h4 : (T8 z).cps[i]? = z[i]? := by simp [T8]
    rw [h4, h2] at h3
    cases h3
    refine ⟨stp_free nT, rel_free r1 nT, T, _, rfl, upd_same, _, _, rfl, ?_, RVs.one rfl⟩
    show V.int _ = V.int _
    rw [Nat.zero_add]
  · show (T8 z).cps.size ≤ _
    rw [hsz, numb_len, List.length_map]
    exact Nat.le_refl _
theorem enum_go {elts : List Expr} {kk : Nat} {tp : Pos} {pins : List (Addr × Obj)} {s : Shared} {p : Addr} {ws : List V} {Q : L2.It → Hp → Prop} (I : Inv X pins σ H s) (hq : SqL X.K H p ws) (q : Q (Ite X.K p) H) :
    wpAny (model X.prog X.w) X.A (call (.type "enumerate") [.ref p]) (fun v s1 => wpAny (model X.prog X.w) X.A (pyIter v) (PIE X pins σ (.Tuple elts kk tp) Q) X.xe s1) X.xe s := by
  obtain ⟨its, rv, pl, hz⟩ := I.list hq
  refine call_enumerate_list pl.isList fun h2 he hit hsz hk => wpAny_pyIter_enum he ?_
  have I2 : Inv X pins σ H { s with heap := h2 } := I.kept (t' := s.toks) hk
  refine ⟨s.heap.objs.size + 1, [s.heap.objs.size + 1, s.heap.objs.size], _, _, H, rfl, I2, turn_enum p (s.heap.objs.size + 1) s.heap.objs.size, ⟨⟨.none, he⟩, hit, Nat.succ_ne_self _⟩, fun b hb => ?_, q⟩
  have le : s.heap.objs.size ≤ b := by
    have two : b = s.heap.objs.size + 1 ∨ b = s.heap.objs.size := by simpa using hb
    rcases two with z | z
    · rw [z]; exact Nat.le_succ _
    · rw [z]; exact Nat.le_refl _
  exact I.fpOk le (I.hok.fresh le)
theorem src_lst {v : AV} {p : Addr} {xs : List AV} (rel : Rel g al st H) (rv : RV g.K H al v (.ref p)) (e : lstA st v = some xs) : SrcOk g al H ⟨xs, atOf v xs, none⟩ p true := by
  cases v with
  | ref n =>
    simp only [lstA] at e
    split at e
    · rename_i ys q0
      cases e
      obtain ⟨p0, ws, ep, ea, hp, r⟩ := ref_lst rel rv q0
      cases ep
      exact ⟨fun al2 H2 st3 s3 r3 hc => by
        obtain ⟨ws2, h1, h2⟩ := lst_later r3 (s3.up n p ea) (ck_at hc rfl)
        exact ⟨ws2, by rw [if_pos rfl]; exact .inl (.inl h1), h2⟩⟩
    · cases e
  | rol ys =>
    cases e
    obtain ⟨p0, ep, hp⟩ := rv
    cases ep
    exact ⟨fun al2 H2 st3 s3 r3 _ => ⟨ys.map V.int, by rw [if_pos rfl]; exact (sqr_step rel.notup s3 hp).sq, RVs.ints⟩⟩
  | _ => cases e
theorem k_enum {elts : List Expr} {kk : Nat} {tp p : Pos} {x : Str} (S : Same4 g X) (hg : glb X.env.scope x = true) (hx : x = "enumerate") (hm : X.mg "enumerate" = none) (hs : noStar a = true) (ha : PE X a (TV g W ra)) :
    PI X (.Tuple elts kk tp) (.Call (.Name x p) [a] [] pos) (TIv g W fun e st => (ra e st).bind fun v st => wkA ((enumA st v)) st) := by
  subst hx
  obtain ⟨h1, h2, h3⟩ := glb_of hg
  refine ⟨fun pins s σ H Q I ⟨al, st, e, rel, rs, p⟩ => ?_⟩
  have q := TV.then (ra := ra) (f := fun e v st => wkA (enumA st v) st) rel rs p
  refine call1 I hg hm boot_enumerate hs ha q fun u s1 x H1 I1 ru ⟨al1, v, st1, rel1, rs1, rv1, p1, _⟩ => ?_
  obtain ⟨w, hw, hJ⟩ := Post.wk p1 rel1
  unfold enumA at hw
  cases v with
  | str z =>
    cases hw
    obtain rfl : x = .str (T8 z) := rv1
    obtain ⟨t, rfl⟩ := ru
    refine call_enumerate_str fun h2 he hit hsz hk => wpAny_pyIter_enum he ?_
    have I2 : Inv X pins σ H1 { s1 with heap := h2 } := I1.kept (t' := s1.toks) hk
    refine ⟨s1.heap.objs.size + 1, [s1.heap.objs.size + 1, s1.heap.objs.size], _, _, H1, rfl, I2, turn_enumS _ t (s1.heap.objs.size + 1) s1.heap.objs.size, ⟨⟨.none, he⟩, hit, Nat.succ_ne_self _, Nat.zero_le _⟩, fun b hb => ?_, hJ _ it_enumS⟩
    have le : s1.heap.objs.size ≤ b := by
      have two : b = s1.heap.objs.size + 1 ∨ b = s1.heap.objs.size := by simpa using hb
      rcases two with z | z
      · rw [z]; exact Nat.le_succ _
      · rw [z]; exact Nat.le_refl _
    exact I1.fpOk le (I1.hok.fresh le)
  | ref n =>
    simp only at hw
    split at hw
    · rename_i xs q0
      cases hw
      obtain ⟨p0, ws, rfl, ea, hp, r⟩ := ref_lst rel1 rv1 q0
      obtain rfl : u = Value.ref p0 := ru
      have hso : SrcOk g al1 H1 ⟨xs, some (n, .lst xs), none⟩ p0 true := ⟨fun al2 H2 st3 s3 r3 hc => by
        obtain ⟨ws2, h1, h2⟩ := lst_later r3 (s3.up n p0 ea) (ck_at hc rfl)
        exact ⟨ws2, by rw [if_pos rfl]; exact .inl (.inl h1), h2⟩⟩
      exact enum_go I1 (.inl (.inl hp)) (hJ _ (by rw [S.K]; exact it_enum hso))
    · cases hw
  | rol xs =>
    cases hw
    obtain ⟨p0, rfl, hp⟩ := rv1
    obtain rfl : u = Value.ref p0 := ru
    have hso : SrcOk g al1 H1 ⟨xs.map .int, none, none⟩ p0 true := ⟨fun al2 H2 st3 s3 r3 _ => ⟨xs.map V.int, by rw [if_pos rfl]; exact (sqr_step rel1.notup s3 hp).sq, RVs.ints⟩⟩
    exact enum_go I1 (by rw [S.K]; exact hp.sq) (hJ _ (by rw [S.K]; exact it_enum hso))
  | _ => cases hw
theorem src_tup {v : AV} {x : V} {xs : List AV} (rel : Rel g al st H) (rv : RV g.K H al v x) (e : tpA v = some xs) : ∃ p ws, x = .ref p ∧ SqT g.K H p ws ∧ RVs g.K H al xs ws ∧ SrcOk g al H ⟨xs, none, none⟩ p false := by
  cases v with
  | tup ys =>
    cases e
    obtain ⟨p, ws, rfl, hp, r⟩ := rv
    refine ⟨p, ws, rfl, .inl (.inl hp), r, ⟨fun al1 H1 st1 s r1 _ => ⟨ws, ?_, RVs.step rel.notup s _ _ r⟩⟩⟩
    rw [if_neg Bool.false_ne_true]
    exact .inl (.inl (tup_step rel.notup s hp))
  | _ => cases e
theorem it_zipT {w z : Wk} {p q : Addr} (ew : w = ⟨w.xs, none, none⟩) (ez : z = ⟨z.xs, none, none⟩) (h : SrcOk g al H w p false) (h' : SrcOk g al H z q false) : ItOk g al H ⟨zipped w.xs z.xs, none, none⟩ (RZ.ItzT g.K p q) := by
  intro al1 H1 st1 s r1 hc
  obtain ⟨ws, h1, h2⟩ := h.at_ al1 H1 st1 s r1 (by rw [ew]; rfl)
  obtain ⟨us, h3, h4⟩ := h'.at_ al1 H1 st1 s r1 (by rw [ez]; rfl)
  rw [if_neg Bool.false_ne_true] at h1 h3
  refine ⟨fun i x hx => ?_, ws, us, h1, h3, by rw [← h2.length, ← h4.length]; exact zip_len _ _⟩
  obtain ⟨y, y2, e1, e2, rfl⟩ := zip_get _ _ _ _ hx
  obtain ⟨u, h5, h6⟩ := h2.get e1
  obtain ⟨u2, h7, h8⟩ := h4.get e2
  refine ⟨⟨ws, us, u, u2, h1, h3, h5, h7⟩, fun v H' hy => ?_⟩
  obtain ⟨T, x, x2, rfl, nT, rfl, f1, f2⟩ := hy
  have e : x = u := Option.some.inj ((f1 ws h1).symm.trans h5)
  have e' : x2 = u2 := Option.some.inj ((f2 us h3).symm.trans h7)
  subst e e'
  have s2 : Stp al1 H1 al1 (upd H1 T (.tup [x, x2])) := stp_free nT
  exact ⟨s2, rel_free r1 nT, T, _, rfl, upd_same, _, _, rfl, RV.step r1.notup s2 _ _ h6, RVs.one (RV.step r1.notup s2 _ _ h8)⟩
theorem k_zip {elts : List Expr} {kk : Nat} {tp p : Pos} {x : Str} (S : Same4 g X) (hg : glb X.env.scope x = true) (hx : x = "zip") (hm : X.mg "zip" = none) (hs : noStar a = true) (hs2 : noStar b = true) (ha : PE X a (TV g W ra)) (hb : PE X b (TV g W rb)) :
    PI X (.Tuple elts kk tp) (.Call (.Name x p) [a, b] [] pos) (TIv g W fun e st => (ra e st).bind fun v st => (rb e st).bind fun u st => wkA (zipA st v u) st) := by
  subst hx
  obtain ⟨h1, h2, h3⟩ := glb_of hg
  refine PI.imp (RZ.pi_zipA h1 hm (pa_cons ha (pa_cons hb pa_nil (star_of hs2)) (star_of hs)) (star_of hs) (by rw [star_of hs2]; rfl)) fun σ H Q ⟨al, st, e, rel, rs, p⟩ => ?_
  obtain ⟨al0, st0, e0, rel0, rs0, p0⟩ := TV.then (ra := ra) (f := fun e v st => (rb e st).bind fun u st => wkA (zipA st v u) st) rel rs p
  refine ⟨al0, st0, e0, rel0, rs0, Post.imp p0 fun v H1 ⟨al1, av, st1, rel1, rs1, rv1, p1, s1⟩ => ?_⟩
  obtain ⟨al2, st2, e2, rel2, rs2, p2⟩ := TV.then (ra := rb) (f := fun e u st => wkA (zipA st av u) st) rel1 rs1 p1
  refine ⟨al2, st2, e2, rel2, rs2, Post.imp p2 fun u H2 ⟨al3, au, st3, rel3, rs3, rv3, p3, s3⟩ => ?_⟩
  obtain ⟨w, hw, hJ⟩ := Post.wk p3 rel3
  unfold zipA at hw
  split at hw
  · rename_i xs ys e1 e2
    cases hw
    have rv1' := RV.step rel1.notup s3 _ _ rv1
    obtain ⟨pa, ws, rfl, q1, r1⟩ := lst_of rel3 rv1' e1
    obtain ⟨pb, us, rfl, q2, r2⟩ := lst_of rel3 rv3 e2
    rw [S.K]
    refine ⟨pa, pb, ws, us, rfl, .inl ⟨q1, q2, hJ _ ?_⟩⟩
    have sa := src_lst rel3 rv1' e1
    have sb := src_lst rel3 rv3 e2
    exact it_zip rfl rfl sa sb
  · split at hw
    · rename_i xs ys e1 e2
      cases hw
      have rv1' := RV.step rel1.notup s3 _ _ rv1
      obtain ⟨pa, ws, rfl, q1, r1, sa⟩ := src_tup rel3 rv1' e1
      obtain ⟨pb, us, rfl, q2, r2, sb⟩ := src_tup rel3 rv3 e2
      rw [S.K]
      exact ⟨pa, pb, ws, us, rfl, .inr ⟨q1, q2, hJ _ (it_zipT rfl rfl sa sb)⟩⟩
    · cases hw
theorem okInt_of {i : Int} (h : okInt i = true) : -(2 ^ 62) ≤ i ∧ i < 2 ^ 62 := by
  unfold okInt at h
  simpa using h
theorem k_rng1 {p : Pos} {x : Str} (hg : glb X.env.scope x = true) (hx : x = "range") (hm : X.mg "range" = none) (hs : noStar a = true) (ha : PE X a (TV g W ra)) :
    PI X tg (.Call (.Name x p) [a] [] pos) (TIv g W fun e st => (ra e st).bind fun v st => wkA (rngA [v]) st) := by
  subst hx
  obtain ⟨h1, h2, h3⟩ := glb_of hg
  refine PI.imp (pi_range1 h1 hm (pa_cons ha pa_nil (star_of hs)) (star_of hs)) fun σ H Q ⟨al, st, e, rel, rs, p⟩ => ?_
  obtain ⟨al0, st0, e0, rel0, rs0, p0⟩ := TV.then (ra := ra) (f := fun e v st => wkA (rngA [v]) st) rel rs p
  refine ⟨al0, st0, e0, rel0, rs0, Post.imp p0 fun v H1 ⟨al1, av, st1, rel1, rs1, rv1, p1, s1⟩ => ?_⟩
  obtain ⟨w, hw, hJ⟩ := Post.wk p1 rel1
  cases av with
  | int j =>
    obtain rfl : v = .int j := rv1
    unfold rngA at hw
    by_cases hj : okInt j = true
    · simp only [if_pos hj] at hw
      cases hw
      exact ⟨j, rfl, (okInt_of hj).1, (okInt_of hj).2, hJ _ it_rng⟩
    · simp only [if_neg hj] at hw
      cases hw
  | _ => cases hw
theorem k_rng2 {p : Pos} {x : Str} (hg : glb X.env.scope x = true) (hx : x = "range") (hm : X.mg "range" = none) (hs : noStar a = true) (hs2 : noStar b = true) (ha : PE X a (TV g W ra)) (hb : PE X b (TV g W rb)) :
    PI X tg (.Call (.Name x p) [a, b] [] pos) (TIv g W fun e st => (ra e st).bind fun v st => (rb e st).bind fun u st => wkA (rngA [v, u]) st) := by
  subst hx
  obtain ⟨h1, h2, h3⟩ := glb_of hg
  refine PI.imp (pi_range2 h1 hm (pa_cons ha (pa_cons hb pa_nil (star_of hs2)) (star_of hs)) (by rw [star_of hs, star_of hs2]; rfl) (star_of hs2)) fun σ H Q ⟨al, st, e, rel, rs, p⟩ => ?_
  obtain ⟨al0, st0, e0, rel0, rs0, p0⟩ := TV.then (ra := ra) (f := fun e v st => (rb e st).bind fun u st => wkA (rngA [v, u]) st) rel rs p
  refine ⟨al0, st0, e0, rel0, rs0, Post.imp p0 fun v H1 ⟨al1, av, st1, rel1, rs1, rv1, p1, s1⟩ => ?_⟩
  obtain ⟨al2, st2, e2, rel2, rs2, p2⟩ := TV.then (ra := rb) (f := fun e u st => wkA (rngA [av, u]) st) rel1 rs1 p1
  refine ⟨al2, st2, e2, rel2, rs2, Post.imp p2 fun u H2 ⟨al3, au, st3, rel3, rs3, rv3, p3, s3⟩ => ?_⟩
  obtain ⟨w, hw, hJ⟩ := Post.wk p3 rel3
  cases av with
  | int i =>
    obtain rfl : v = .int i := rv1
    cases au with
    | int j =>
      obtain rfl : u = .int j := rv3
      unfold rngA at hw
      by_cases hj : (okInt i && okInt j) = true
      · simp only [if_pos hj] at hw
        cases hw
        rw [Bool.and_eq_true] at hj
        exact ⟨i, j, rfl, ⟨(okInt_of hj.1).1, (okInt_of hj.1).2, (okInt_of hj.2).1, (okInt_of hj.2).2⟩, hJ _ it_rng⟩
      · simp only [if_neg hj] at hw
        cases hw
    | _ => cases hw
  | _ => cases hw
theorem ints_getC {c : Int} : ∀ {n : Nat} {a : Int} {i : Nat} {x : AV}, (intsFrom a c n)[i]? = some x → i < n ∧ x = .int (a + (i : Nat) * c)
  | 0, a, i, x, h => by cases h
  | n + 1, a, 0, x, h => by
    have h : some (AV.int a) = some x := h
    cases h
    exact ⟨Nat.succ_pos _, by simp⟩
  | n + 1, a, i + 1, x, h => by
    have h : (intsFrom (a + c) c n)[i]? = some x := h
    obtain ⟨h1, h2⟩ := ints_getC h
    refine ⟨Nat.succ_lt_succ h1, ?_⟩
    rw [h2]
    congr 1
    rw [Int.natCast_add, Int.add_mul]
    show a + c + (i : Int) * c = a + ((i : Int) * c + 1 * c)
    omega
theorem it_rngC {a c : Int} {n : Nat} : ItOk g al H ⟨intsFrom a c n, none, none⟩ (Itc a c n) := by
  intro al1 H1 st1 s r1 hc
  refine ⟨fun i x hx => ?_, by show n ≤ _; rw [ints_len]; exact Nat.le_refl _⟩
  obtain ⟨h1, rfl⟩ := ints_getC hx
  refine ⟨h1, fun v H' hy => ?_⟩
  obtain ⟨rfl, rfl⟩ := hy
  exact ⟨Stp.refl _ _, r1, rfl⟩
theorem k_rng3 {c : Expr} {rc : Run1 AV} {p : Pos} {x : Str} (hg : glb X.env.scope x = true) (hx : x = "range") (hm : X.mg "range" = none) (hs : noStar a = true) (hs2 : noStar b = true) (hs3 : noStar c = true) (ha : PE X a (TV g W ra)) (hb : PE X b (TV g W rb)) (hc : PE X c (TV g W rc)) :
    PI X tg (.Call (.Name x p) [a, b, c] [] pos) (TIv g W fun e st => (ra e st).bind fun v st => (rb e st).bind fun u st => (rc e st).bind fun z st => wkA (rngC v u z) st) := by
  subst hx
  obtain ⟨h1, h2, h3⟩ := glb_of hg
  refine PI.imp (pi_range3 h1 hm (pa_cons ha (pa_cons hb (pa_cons hc pa_nil (star_of hs3)) (star_of hs2)) (star_of hs)) (star_of hs) (any_of_all (stars_of (by simp [hs2, hs3])))) fun σ H Q ⟨al, st, e, rel, rs, p⟩ => ?_
  obtain ⟨al0, st0, e0, rel0, rs0, p0⟩ := TV.then (ra := ra) (f := fun e v st => (rb e st).bind fun u st => (rc e st).bind fun z st => wkA (rngC v u z) st) rel rs p
  refine ⟨al0, st0, e0, rel0, rs0, Post.imp p0 fun v H1 ⟨al1, av, st1, rel1, rs1, rv1, p1, s1⟩ => ?_⟩
  obtain ⟨al2, st2, e2, rel2, rs2, p2⟩ := TV.then (ra := rb) (f := fun e u st => (rc e st).bind fun z st => wkA (rngC av u z) st) rel1 rs1 p1
  refine ⟨al2, st2, e2, rel2, rs2, Post.imp p2 fun u H2 ⟨al3, au, st3, rel3, rs3, rv3, p3, s3⟩ => ?_⟩
  obtain ⟨al4, st4, e4, rel4, rs4, p4⟩ := TV.then (ra := rc) (f := fun e z st => wkA (rngC av au z) st) rel3 rs3 p3
  refine ⟨al4, st4, e4, rel4, rs4, Post.imp p4 fun z H3 ⟨al5, az, st5, rel5, rs5, rv5, p5, s5⟩ => ?_⟩
  obtain ⟨w, hw, hJ⟩ := Post.wk p5 rel5
  unfold rngC at hw
  split at hw
  · rename_i x1 i j k x5 x6
    obtain rfl : v = .int i := rv1
    obtain rfl : u = .int j := rv3
    obtain rfl : z = .int k := rv5
    by_cases hj : k ≠ 0 ∧ k.natAbs < 1073741824 ∧ Builtin.Range.small i j k = true ∧ 0 ≤ Builtin.Range.rangeSize i j k
    · rw [if_pos hj] at hw
      cases hw
      exact ⟨i, j, k, _, rfl, ⟨hj.1, hj.2.1, hj.2.2.1, (Int.toNat_of_nonneg hj.2.2.2).symm⟩, hJ _ it_rngC⟩
    · rw [if_neg hj] at hw
      cases hw
  · cases hw
/-- list(range(n)) -/
theorem rvs_rg : ∀ (n : Nat) (a : Int), RVs g.K H al (intsFrom a 1 n) ((List.range n).map fun i => V.int (a + (i : Nat)))
  | 0, _ => rfl
  | n + 1, a => by
    rw [List.range_succ_eq_map, List.map_cons, List.map_map]
    refine ⟨_, _, rfl, ?_, ?_⟩
    · show V.int _ = V.int _
      congr 1
      omega
    · have e : ((fun i : Nat => V.int (a + (i : Nat))) ∘ Nat.succ) = fun i : Nat => V.int (a + 1 + (i : Nat)) := by
        funext i
        show V.int _ = V.int _
        congr 1
        have : ((Nat.succ i : Nat) : Int) = (i : Int) + 1 := rfl
        omega
      rw [e]
      exact rvs_rg n (a + 1)
theorem k_lrng {p p2 pos2 : Pos} {x y : Str} (hc : X.calm = true) (hg : glb X.env.scope x = true) (hg2 : glb X.env.scope y = true) (hx : x = "list") (hy : y = "range") (hm : X.mg "list" = none) (hm2 : X.mg "range" = none) (hs : noStar a = true) (ha : PE X a (TV g W ra)) :
    PE X (.Call (.Name x p) [.Call (.Name y p2) [a] [] pos2] [] pos) (TV g W fun e st => (ra e st).bind fun x st => lrngA x st) := by
  subst hx hy
  obtain ⟨h1, h2, h3⟩ := glb_of hg
  obtain ⟨h4, h5, h6⟩ := glb_of hg2
  refine PE.imp (pe_listRg hc h1 hm (prg_1 h4 hm2 ha (star_of hs))) fun σ H Q ⟨al, st, e, rel, rs, p⟩ => ?_
  obtain ⟨al0, st0, e0, rel0, rs0, p0⟩ := TV.then (ra := ra) (f := fun e v st => lrngA v st) rel rs p
  refine ⟨al0, st0, e0, rel0, rs0, Post.imp p0 fun v H1 ⟨al1, av, st1, rel1, rs1, rv1, p1, s1⟩ => ?_⟩
  cases av with
  | int j =>
    obtain rfl : v = .int j := rv1
    unfold lrngA at p1
    by_cases hj : 0 ≤ j ∧ j ≤ 1000000
    · simp only [if_pos hj] at p1
      refine ⟨j, rfl, RgOk.of_le (by omega) (by omega) (by omega) hj.1, fun q hq => ?_⟩
      unfold rgV
      rw [Int.sub_zero]
      exact Post.newL p1 rel1 (rvs_rg _ _) hq
    · simp only [if_neg hj] at p1
      exact p1.elim
  | _ => exact p1.elim
end
end L3

/-! SndZ: zip of two texts, in the hand layer. -/
namespace L3
open PySem PySem.Spec PyProof.Rows L2
/-- the pairs of two texts' signs, each pair a new tuple -/
def ItzS (x y : Str) : It where
  go := fun i _ => i < x.cps.size ∧ i < y.cps.size
  yld := fun i H v H' => ∃ T c d, v = .ref T ∧ H T = none ∧ H' = upd H T (.tup [.str ⟨#[c]⟩, .str ⟨#[d]⟩]) ∧ x.cps[i]? = some c ∧ y.cps[i]? = some d
  stop := fun i _ => i ≤ x.cps.size ∧ i ≤ y.cps.size ∧ (i = x.cps.size ∨ i = y.cps.size)
theorem five {a b c d e f : Addr} (h : f ∈ [a, b, c, d, e]) : f = a ∨ f = b ∨ f = c ∨ f = d ∨ f = e := by simpa using h
theorem it_data {h : Heap} {it : Addr} {ty : String} {x : Str} {t : Tok} {i : Nat} (z : h.IsStrIter it ty x t i) : ∃ o, h.get? it = some o ∧ ∀ v, o.data ≠ .cell v := by
  obtain ⟨o, e, _, dd⟩ := z
  refine ⟨o, e, fun v q => ?_⟩
  rw [dd] at q
  cases q
theorem turn_zipS {P : Program} {w : World} {K : PySem.W.Frag} {elts : List Expr} {kk : Nat} {tpos : Pos} {z TI TO i1 i2 : Addr} {x y : Str} {tx ty : Tok} (D : ZipSep2 z TI TO i1 i2 [i1] [i2]) :
    Turn P w K (.Tuple elts kk tpos) (ItzS x y) [z, TI, TO, i1, i2] z (fun i h => IsZip h z TI TO .none ∧ IsTupOf2 h TI (.ref i1) (.ref i2) ∧ (∃ a b, IsTupOf2 h TO a b) ∧ h.IsStrIter i1 (strIterType x) x tx i ∧ h.IsStrIter i2 (strIterType y) y ty i) where
  mem := by simp
  obj := fun i h st c hc => by
    obtain ⟨a1, a2, ⟨u, v, a3⟩, a4, a5⟩ := st
    rcases five hc with q | q | q | q | q
    · rw [q]
      refine ⟨_, a1, fun v q => ?_⟩
      cases q
    · rw [q]
      refine ⟨_, a2, fun v q => ?_⟩
      cases q
    · rw [q]
      refine ⟨_, a3, fun v q => ?_⟩
      cases q
    · rw [q]; exact it_data a4
    · rw [q]; exact it_data a5
  keep := fun i h h' st k => by
    obtain ⟨a1, a2, ⟨u, v, a3⟩, ⟨o4, b1, b2⟩, ⟨o5, c1, c2⟩⟩ := st
    have kk : ∀ {b o}, b ∈ [z, TI, TO, i1, i2] → h.get? b = some o → h'.get? b = some o := fun hb e => k _ hb _ e
    refine ⟨kk (by simp) a1, kk (by simp) a2, ⟨u, v, kk (by simp) a3⟩, ⟨o4, kk (by simp) b1, b2⟩, ⟨o5, kk (by simp) c1, c2⟩⟩
  item := by
    intro X hP hw hK hc i pins s σ H E I hf st hg
    subst hP hw hK
    obtain ⟨a1, a2, ⟨u, v, a3⟩, a4, a5⟩ := st
    have hd : X.A.in1.handled = none := I.ok.hd hc
    refine wpAny_pyNext_zipD2_item D (Draws.text hd i1 x tx) (Draws.text hd i2 y ty) a1 a2 a3 a4 a5 hg.1 hg.2 fun x1 x2 h' tk p1 p2 z' TO' st1 st2 hT hsz hk => ?_
    obtain ⟨c, k1, hc1, rfl⟩ := p1
    obtain ⟨d, k2, hd1, rfl⟩ := p2
    have hzl : z < s.heap.objs.size := Heap.lt_size a1
    refine ⟨_, rfl, wpAny_letOwnedTupleGo_zip (s := { s with heap := h', toks := tk }) z' fun h'' z'' sb => ?_⟩
    have hT2 : h''.get? s.heap.objs.size = some { cls := .type "tuple", data := .seq #[.str ⟨#[c]⟩ k1, .str ⟨#[d]⟩ k2] } := (sb.2 _ (Nat.ne_of_gt hzl)).trans hT
    have new : ObjOk X.prog X.w (upd H s.heap.objs.size (.tup [.str ⟨#[c]⟩, .str ⟨#[d]⟩])) h'' s.heap.objs.size (.tup [.str ⟨#[c]⟩, .str ⟨#[d]⟩]) := by
      refine ⟨by show 2 ≤ sizeLine; decide, [.str ⟨#[c]⟩ k1, .str ⟨#[d]⟩ k2], .cons ⟨_, rfl⟩ (.cons ⟨_, rfl⟩ .nil), ⟨_, hT2, rfl, _, rfl⟩⟩
    have hkeep : ∀ b o, b ∉ [z, TI, TO, i1, i2] → s.heap.get? b = some o → h''.get? b = some o := fun b o hb q => by
      have nb : ∀ e ∈ [z, TI, TO, i1, i2], b ≠ e := fun e he q' => hb (q' ▸ he)
      rw [sb.2 b (nb z (by simp))]
      exact hk b o (nb z (by simp)) (nb TO (by simp)) (nb i1 (by simp)) (nb i2 (by simp)) q
    have I1 : Inv X pins σ (upd H s.heap.objs.size (.tup [.str ⟨#[c]⟩, .str ⟨#[d]⟩])) { s with heap := h'', toks := tk } := I.turnedNew hkeep hf (Nat.le_refl _) new
    have up : ∀ {b o}, b ≠ z → h'.get? b = some o → h''.get? b = some o := fun hb e => (sb.2 _ hb).trans e
    have old : ∀ {b : Addr} {o}, s.heap.get? b = some o → b ≠ s.heap.objs.size := fun e => Nat.ne_of_lt (Heap.lt_size e)
    obtain ⟨o4, b1, b2⟩ := st1
    obtain ⟨o5, c1, c2⟩ := st2
    refine ⟨.ref s.heap.objs.size, _, I1, rfl, ⟨_, c, d, rfl, I.hok.fresh (Nat.le_refl _), rfl, hc1, hd1⟩, ⟨z'', up D.TIz (hk _ _ D.TIz D.TITO D.TIi1 D.TIi2 a2), ⟨_, _, up D.TOz TO'⟩, ⟨o4, up (Ne.symm D.zi1) b1, b2⟩, ⟨o5, up (Ne.symm D.zi2) c1, c2⟩⟩, fun b hb => ?_⟩
    have hne : b ≠ s.heap.objs.size := by
      rcases five hb with q | q | q | q | q
      · rw [q]; exact old a1
      · rw [q]; exact old a2
      · rw [q]; exact old a3
      · obtain ⟨_, e4, _⟩ := a4
        rw [q]; exact old e4
      · obtain ⟨_, e5, _⟩ := a5
        rw [q]; exact old e5
    rw [upd_ne hne]
    exact (hf b hb).1
  done := by
    intro X hP hw hK hc i pins s σ H E I hf st hg
    subst hP hw hK
    obtain ⟨a1, a2, ⟨u, v, a3⟩, a4, a5⟩ := st
    have hd : X.A.in1.handled = none := I.ok.hd hc
    refine wpAny_pyNext_zipD2_end D (Draws.text hd i1 x tx) (Draws.text hd i2 y ty) a1 a2 a3 a4 a5 hg.1 hg.2.1 hg.2.2 fun h' tk hk => ⟨rfl, I.turnedL (fun b o hb q => ?_) hf⟩
    have nb : ∀ e ∈ [z, TI, TO, i1, i2], b ≠ e := fun e he q' => hb (q' ▸ he)
    exact hk b o (nb z (by simp)) (nb TO (by simp)) (nb i1 (by simp)) (nb i2 (by simp)) q
  self := fun A i s Q E st h => wpAny_pyIter_zip st.1 h
def iZipS (ta : TA) : TI := fun σ H R => ta σ H fun vs H1 => ∃ x y, vs = [.str x, .str y] ∧ R (ItzS x y) H1
theorem pi_zipS {X : Cx} {e e2 : Expr} {ta : TA} {p pos tpos : Pos} {elts : List Expr} {kk : Nat} (hg : Gl X "zip") (hm : X.mg "zip" = none) (ha : PA X [e, e2] ta)
    (hs : starEach [e, e2] X.env = (false, eval e X.env) :: starEach [e2] X.env) (hpl : (backTo pos (starEach [e2] X.env)).any (·.1) = false) :
    PI X (.Tuple elts kk tpos) (.Call (.Name "zip" p) [e, e2] [] pos) (iZipS ta) := by
  refine ⟨fun pins s σ H R I h => ?_⟩
  refine Call_ (ld_blt I hg hm PyProof.Rows.boot_zip (PyProof.Rows.callWith_type1 (thn (ha.run pos pins s σ H _ I h) fun us s1 ⟨vs, H1, I1, r1, q1⟩ => ?_) hs hpl))
  obtain ⟨x, y, ex, q⟩ := q1
  subst ex
  cases r1 with
  | cons r rr =>
    cases rr with
    | cons r' rr =>
      cases rr
      obtain ⟨t1, rfl⟩ := r
      obtain ⟨t2, rfl⟩ := r'
      refine zip_begins2 (begins_text x t1) (begins_text y t2) True.intro True.intro fun h' hz hTI hTO h1 h2 hsz hk => wpAny_pyIter_zip hz ?_
      have I2 : Inv X pins σ H1 { s1 with heap := h' } := I1.kept (t' := s1.toks) hk
      have D := zip_sep2 (N := s1.heap.objs.size) (fp1 := []) (fp2 := []) (fun b hb => (nomatch hb)) (fun b hb => (nomatch hb))
      refine ⟨s1.heap.objs.size + 4, _, _, _, H1, rfl, I2, turn_zipS (tx := t1) (ty := t2) D, ⟨hz, hTI, ⟨_, _, hTO⟩, ⟨_, h1, rfl, rfl⟩, ⟨_, h2, rfl, rfl⟩⟩, fun c hc => ?_, q⟩
      have hle : s1.heap.objs.size ≤ c := by
        rcases five hc with e | e | e | e | e
        · rw [e]; exact Nat.le_add_right _ _
        · rw [e]; exact Nat.le_add_right _ _
        · rw [e]; exact Nat.le_add_right _ _
        · rw [e]; exact Nat.le_refl _
        · rw [e]; exact Nat.le_add_right _ _
      have e1 := I1.fpOk hle (I1.hok.fresh hle)
      exact e1
section
variable {g : G} {X : Cx} {W : WX} {a b : Expr} {ra rb : Run1 AV} {pos : Pos} {al : Al} {H : Hp}
theorem it_zipS {x y : List Nat} : ItOk g al H ⟨zipped (x.map fun c => .str [c]) (y.map fun c => .str [c]), none, none⟩ (ItzS (T8 x) (T8 y)) := by
  intro al1 H1 st1 s r1 hc
  have hx : (T8 x).cps.size = x.length := by simp [T8]
  have hy : (T8 y).cps.size = y.length := by simp [T8]
  have hgx : ∀ i : Nat, (T8 x).cps[i]? = x[i]? := fun i => by simp [T8]
  have hgy : ∀ i : Nat, (T8 y).cps[i]? = y[i]? := fun i => by simp [T8]
  have hlen : (zipped (x.map fun c => AV.str [c]) (y.map fun c => AV.str [c])).length = min x.length y.length := by
    have : ∀ (xs ys : List AV), (zipped xs ys).length = min xs.length ys.length := by
      intro xs
      induction xs with
      | nil => intro ys; simp [zipped]
      | cons u us ih =>
        intro ys
        cases ys with
        | nil => simp [zipped]
        | cons w ws =>
          show (zipped us ws).length + 1 = _
          rw [ih, List.length_cons, List.length_cons]
          omega
    rw [this, List.length_map, List.length_map]
  refine ⟨fun i v hv => ?_, ?_⟩
  · obtain ⟨y1, y2, e1, e2, rfl⟩ := zip_get _ _ _ _ hv
    rw [List.getElem?_map] at e1 e2
    obtain ⟨c, c1, rfl⟩ := Option.map_eq_some_iff.mp e1
    obtain ⟨d, d1, rfl⟩ := Option.map_eq_some_iff.mp e2
    have l1 := (List.getElem?_eq_some_iff.mp c1).1
    have l2 := (List.getElem?_eq_some_iff.mp d1).1
    refine ⟨⟨by rw [hx]; exact l1, by rw [hy]; exact l2⟩, fun v H' hq => ?_⟩
    obtain ⟨T, c', d', rfl, nT, rfl, f1, f2⟩ := hq
    rw [hgx, c1] at f1
    rw [hgy, d1] at f2
    cases f1
    cases f2
    have s2 : Stp al1 H1 al1 (upd H1 T (.tup [.str ⟨#[c]⟩, .str ⟨#[d]⟩])) := stp_free nT
    exact ⟨s2, rel_free r1 nT, T, _, rfl, upd_same, _, _, rfl, rfl, RVs.one rfl⟩
  · show (zipped (x.map fun c => AV.str [c]) (y.map fun c => AV.str [c])).length ≤ _ ∧ _ ≤ _ ∧ _
    rw [hlen, hx, hy]
    omega
theorem k_zipS {elts : List Expr} {kk : Nat} {tp p : Pos} {x : Str} (S : Same4 g X) (hg : glb X.env.scope x = true) (hx : x = "zip") (hm : X.mg "zip" = none) (hs : noStar a = true) (hs2 : noStar b = true) (ha : PE X a (TV g W ra)) (hb : PE X b (TV g W rb)) :
    PI X (.Tuple elts kk tp) (.Call (.Name x p) [a, b] [] pos) (TIv g W fun e st => (ra e st).bind fun v st => (rb e st).bind fun u st => wkA (zipSA v u) st) := by
  subst hx
  obtain ⟨h1, h2, h3⟩ := glb_of hg
  refine PI.imp (pi_zipS h1 hm (pa_cons ha (pa_cons hb pa_nil (star_of hs2)) (star_of hs)) (star_of hs) (by rw [star_of hs2]; rfl)) fun σ H Q ⟨al, st, e, rel, rs, p⟩ => ?_
  obtain ⟨al0, st0, e0, rel0, rs0, p0⟩ := TV.then (ra := ra) (f := fun e v st => (rb e st).bind fun u st => wkA (zipSA v u) st) rel rs p
  refine ⟨al0, st0, e0, rel0, rs0, Post.imp p0 fun v H1 ⟨al1, av, st1, rel1, rs1, rv1, p1, s1⟩ => ?_⟩
  obtain ⟨al2, st2, e2, rel2, rs2, p2⟩ := TV.then (ra := rb) (f := fun e u st => wkA (zipSA av u) st) rel1 rs1 p1
  refine ⟨al2, st2, e2, rel2, rs2, Post.imp p2 fun u H2 ⟨al3, au, st3, rel3, rs3, rv3, p3, s3⟩ => ?_⟩
  obtain ⟨w, hw, hJ⟩ := Post.wk p3 rel3
  unfold zipSA at hw
  cases av with
  | str xs =>
    cases au with
    | str ys =>
      cases hw
      obtain rfl : v = .str (T8 xs) := rv1
      obtain rfl : u = .str (T8 ys) := rv3
      exact ⟨_, _, rfl, hJ _ it_zipS⟩
    | _ => cases hw
  | _ => cases hw
end
end L3

/-! SndI: sorted(set(xs)) of a list of whole numbers. -/
namespace L2
open PySem PySem.Spec PyProof.Rows
section
variable {P : Program} {w : World} {A : Around} {E : Value → Shared → Prop} {s : Shared}
set_option maxRecDepth 100000 in
set_option maxHeartbeats 3200000 in
theorem call_set_lstI {l : Addr} {items : Array Value} (ns : List Int) {Q : Value → Shared → Prop} (hh : A.handled = none) (hl : s.heap.IsList l items) (hit : IntsAre items.toList ns) (hb : ns.length + 1 < scanBound)
    (h : ∀ (h' : Heap) (tk c : Nat), SetR w h' s.heap.objs.size (fun j => decide (j ∈ ns)) c → c ≤ ns.length → (∀ b o, s.heap.get? b = some o → h'.get? b = some o) → Q (.ref s.heap.objs.size) { s with heap := h', toks := tk }) :
    wpAny (model P w) A (call (.type "set") [.ref l]) Q E s := by
  have hisz : items.size = ns.length := by
    have q := IntsAre.length hit
    rw [Array.length_toList] at q
    exact q
  obtain ⟨c, tl, hmro⟩ := F.called_set.mro
  have hmade := F.called_set.made
  have hsub := F.called_set.sub
  refine wpAny_call (codeAny_of_tree ?_)
  show wpAny _ _ (callAny (.type "set") _) _ _ _
  refine wpAny_pure ⟨Code.quiet_builtin _ (by decide +kernel), codeAny_builtin F.entry_type_call ?_⟩
  rw [Around.under_plain (weight_type_call_type "set" [.ref l] []) rfl]
  have h1 := F.called_set.notType
  have h2 := F.called_set.canCreate
  have hct := F.typeCall_set_1 (.ref l)
  repeat (any_goals (first | assumption | wp_step))

  refine codeAny_mono (code_set_led1 (.ref l) (E := E) (Q₁ := fun obj s₁ => obj = .ref s.heap.objs.size ∧ s₁ = { s with heap := s.heap.push { cls := .type "set", dict := none, data := .set #[] 0 (.fresh 0 0 (!w.params.followText "set-order")) } }) ⟨rfl, rfl⟩) fun r s₁ hr => ?_
  cases r with
  | error e => exact hr
  | ok fl =>
    cases fl with
    | ret obj =>
      obtain ⟨rfl, rfl⟩ := hr
      have hS : (s.heap.push { cls := .type "set", dict := none, data := .set #[] 0 (.fresh 0 0 (!w.params.followText "set-order")) }).get? s.heap.objs.size = some { cls := .type "set", dict := none, data := .set #[] 0 (.fresh 0 0 (!w.params.followText "set-order")) } := Heap.get?_push_size _ rfl
      have hT : Shared.TypeIs { s with heap := s.heap.push { cls := .type "set", dict := none, data := .set #[] 0 (.fresh 0 0 (!w.params.followText "set-order")) } } (.ref s.heap.objs.size) "set" := ⟨_, hS, rfl⟩
      have hli := F.called_set.init.lookup
      have hbi := F.called_set.init.bind (.ref s.heap.objs.size)
      repeat (any_goals (first | assumption | wp_step))

      refine codeAny_mono (codeAny_call_builtin (R := wants (fun r s₂ => r = .none ∧ ∃ h' tk c, s₂ = { s with heap := h', toks := tk } ∧ SetR w h' s.heap.objs.size (fun j => decide (j ∈ ns)) c ∧ c ≤ ns.length ∧
          (∀ b o, s.heap.get? b = some o → h'.get? b = some o)) E) F.called_set.init.plain F.entry_set_init (check_set_init_1 hT ?_)) fun r₂ s₂ hr₂ => ?_
      · obtain ⟨ol, hol, hcl, nl, hdl⟩ := hl
        obtain ⟨ocls, odict, odata, oslots⟩ := ol
        simp only at hcl hdl
        subst hcl; subst hdl
        have hol' : (s.heap.push { cls := .type "set", dict := none, data := .set #[] 0 (.fresh 0 0 (!w.params.followText "set-order")) }).get? l = some { cls := .type "list", dict := odict, data := .seq items nl, slots := oslots } := Heap.get?_push_of_some _ hol
        have hsls := F.sub_list_set
        have hslf := F.sub_list_frozenset
        have hne : (Value.type "list" == Value.type "dict") = false := by decide
        have hl1 : (s.heap.push { cls := .type "set", dict := none, data := .set #[] 0 (.fresh 0 0 (!w.params.followText "set-order")) }).IsList l items := ⟨_, hol', rfl, nl, rfl⟩
        unfold Builtin.«set.__init__» noKeywords Builtin.Frozenset.updateFrom
        generalize hPI : pyIter = PI
        wp_walk
        subst hPI

        refine wpAny_pyIter_list hl1 ?_
        refine wpAny_bind (wpAny_runValue ?_)
        have hlS : l < s.heap.objs.size := Heap.lt_size hol
        have hh3 : A.in1.in1.in1.handled = none := by simp [hh]
        have hz1 : (s.heap.push { cls := .type "set", dict := none, data := .set #[] 0 (.fresh 0 0 (!w.params.followText "set-order")) }).objs.size = s.heap.objs.size + 1 := Heap.size_push ..
        have hneI : l ≠ (s.heap.push { cls := .type "set", dict := none, data := .set #[] 0 (.fresh 0 0 (!w.params.followText "set-order")) }).objs.size := by
          rw [Heap.size_push]; exact Nat.ne_of_lt (Nat.lt_succ_of_lt hlS)
        have hSf : s.heap.objs.size ∉ [(s.heap.push { cls := .type "set", dict := none, data := .set #[] 0 (.fresh 0 0 (!w.params.followText "set-order")) }).objs.size, l] := by
          rw [Heap.size_push]; simp only [List.mem_cons, List.mem_singleton, List.not_mem_nil, or_false, not_or]
          exact ⟨Nat.ne_of_lt (Nat.lt_succ_self _), Nat.ne_of_gt hlS⟩
        have hval : ∀ (i : Nat) (v : Value), items[i]? = some v → ∃ k t, ns[i]? = some k ∧ v = .int k t := fun i v hv => by
          have hi : i < ns.length := by rw [← hisz]; exact (Array.getElem?_eq_some_iff.mp hv).1
          obtain ⟨t, e⟩ := PyProof.Rows.IntsAre.int_at hit i v (by rw [Array.getElem?_toList]; exact hv)
          refine ⟨ns[i], t, List.getElem?_eq_getElem hi, ?_⟩
          rw [e, List.getD_eq_getElem?_getD, List.getElem?_eq_getElem hi] <;> rfl
        refine set_update_ints ((Walks.list hh3 _ l hneI items).toS) s.heap.objs.size
          hSf ns hisz hb hval (items.size - 0) 0 _ (by omega) (Nat.zero_le _)
          ⟨⟨_, Heap.get?_push_size _ rfl, rfl, rfl⟩, (hl1.push _)⟩ ?hS0 ?hR
        case hS0 =>
          have hget : ((s.heap.push { cls := .type "set", dict := none, data := .set #[] 0 (.fresh 0 0 (!w.params.followText "set-order")) }).push { cls := .type "list_iterator", data := .fields #[.ref l, .int 0 0] }).get? s.heap.objs.size
              = some { cls := .type "set", dict := none, data := .set #[] 0 (.fresh 0 0 (!w.params.followText "set-order")) } := Heap.get?_push_of_some _ hS
          exact ⟨0, Nat.le_refl 0, setR_new_at hget⟩
        case hR =>
          intro s' c' hm hc' hS'
          obtain ⟨h', g2, d', tk', os'⟩ := s'
          have eg : g2 = s.gens := hm.gens
          have ed : d' = s.drawn := hm.drawn
          have eo : os' = s.os := hm.os
          subst eg; subst ed; subst eo
          show wpAny _ _ _ _ _ _
          refine wpAny_pure ?_
          show wpAny _ _ (ret Value.none) _ _ _
          rw [hisz] at hc'
          refine wpAny_pure ⟨rfl, h', tk', c', rfl, hS', hc', fun b o e => ?_⟩
          have hb0 : b < s.heap.objs.size := Heap.lt_size e
          have hb1 : b ≠ s.heap.objs.size := Nat.ne_of_lt hb0
          have hb2 : b ≠ (s.heap.push { cls := .type "set", dict := none, data := .set #[] 0 (.fresh 0 0 (!w.params.followText "set-order")) }).objs.size := by
            rw [Heap.size_push]; exact Nat.ne_of_lt (Nat.lt_succ_of_lt hb0)
          exact hm.heap b o (by simp only [List.mem_cons, List.mem_singleton, List.not_mem_nil, or_false, not_or]; exact ⟨hb1, hb2⟩) (Heap.get?_push_of_some _ (Heap.get?_push_of_some _ e))

      · cases r₂ with
        | error e => exact hr₂
        | ok fl₂ =>
          cases fl₂ with
          | ret r =>
            obtain ⟨rfl, h', tk, c', rfl, hS', hc', hk'⟩ := hr₂
            repeat (any_goals (first | assumption | wp_step))
            exact h _ _ _ hS' hc' hk'
          | _ => exact hr₂.elim
    | _ => exact hr.elim
end
end L2
namespace L3
open PySem PySem.Spec PyProof.Rows L2
theorem mem_insZ {a k : Int} : ∀ {l : List Int}, k ∈ insZ a l ↔ k = a ∨ k ∈ l
  | [] => by simp [insZ]
  | b :: l => by
    unfold insZ
    split
    · simp
    · split
      · rename_i h
        subst h
        simp
      · rw [List.mem_cons, mem_insZ, List.mem_cons]
        constructor
        · rintro (h | h | h)
          · exact .inr (.inl h)
          · exact .inl h
          · exact .inr (.inr h)
        · rintro (h | h | h)
          · exact .inr (.inl h)
          · exact .inl h
          · exact .inr (.inr h)
theorem mem_ssort {k : Int} : ∀ {l : List Int}, k ∈ ssort l ↔ k ∈ l
  | [] => by simp [ssort]
  | b :: l => by
    show k ∈ insZ b (ssort l) ↔ _
    rw [mem_insZ, mem_ssort, List.mem_cons]
theorem pw_insZ {a : Int} : ∀ {l : List Int}, l.Pairwise (· < ·) → (insZ a l).Pairwise (· < ·)
  | [], _ => by simp [insZ]
  | b :: l, h => by
    rw [List.pairwise_cons] at h
    unfold insZ
    split
    · rename_i hab
      refine List.pairwise_cons.mpr ⟨fun z hz => ?_, List.pairwise_cons.mpr h⟩
      rcases List.mem_cons.mp hz with rfl | hz
      · exact hab
      · have := h.1 z hz; omega
    · split
      · exact List.pairwise_cons.mpr h
      · refine List.pairwise_cons.mpr ⟨fun z hz => ?_, pw_insZ h.2⟩
        rcases mem_insZ.mp hz with rfl | hz
        · omega
        · exact h.1 z hz
theorem pw_ssort : ∀ (l : List Int), (ssort l).Pairwise (· < ·)
  | [] => List.Pairwise.nil
  | b :: l => pw_insZ (pw_ssort l)
theorem rise_eq : ∀ {xs ys : List Int}, xs.Pairwise (· < ·) → ys.Pairwise (· < ·) → (∀ k, k ∈ xs ↔ k ∈ ys) → xs = ys := fun {xs ys} hx hy h => by
  have nd : ∀ {l : List Int}, l.Pairwise (· < ·) → l.Nodup := fun {l} h => h.imp fun h => Int.ne_of_lt h
  have pm : xs.Perm ys := (List.perm_ext_iff_of_nodup (nd hx) (nd hy)).mpr h
  exact pm.eq_of_pairwise (fun a b _ _ h1 h2 => Int.le_antisymm (Int.le_of_lt h1) (Int.le_of_lt h2)) hx hy
theorem nd_len {α : Type} [DecidableEq α] : ∀ (l D : List α), l.Nodup → (∀ x ∈ l, x ∈ D) → l.length ≤ D.length
  | [], D, _, _ => Nat.zero_le _
  | x :: l, D, nd, h => by
    rw [List.nodup_cons] at nd
    have hx := h x (by simp)
    have := nd_len l (D.erase x) nd.2 fun y hy => (List.mem_erase_of_ne (fun (e : y = x) => nd.1 (e ▸ hy))).mpr (h y (List.mem_cons_of_mem _ hy))
    rw [List.length_erase_of_mem hx] at this
    have : 0 < D.length := List.length_pos_of_mem hx
    rw [List.length_cons]
    omega
theorem setR_few {w : World} {h : Heap} {a : Addr} {ns : List Int} {c : Nat} (R : SetR w h a (fun j => decide (j ∈ ns)) c) : c ≤ (ssort ns).length := by
  obtain ⟨o, es, ep, t, ho, hx, hd, g, nd, hm, hb, hf, hn, _⟩ := R
  have := nd_len _ (ssort ns) nd fun k hk => mem_ssort.mpr (of_decide_eq_true ((hm k).mpr hk))
  rw [List.length_map, Array.length_toList] at this
  omega
section
variable {g : G} {X : Cx} {W : WX} {ra : Run1 AV} {a : Expr} {pos : Pos}
def tSset (K : PySem.W.Frag) (ta : TE) : TE := fun σ H Q => ta σ H fun x H1 => ∃ (l : Addr) (ns : List Int), x = V.ref l ∧ SqL K H1 l (ns.map V.int) ∧ (ssort ns).length < 64 ∧ ns.length ≤ 4000 ∧ ∀ q, H1 q = none → Q (.ref q) (upd H1 q (.lst ((ssort ns).map V.int)))
theorem pe_sset {a : Expr} {ta : TE} {p p2 q pos : Pos} (hc : X.calm = true) (hg : Gl X "sorted") (hm : X.mg "sorted" = none) (hg2 : Gl X "set") (hm2 : X.mg "set" = none) (ha : PE X a ta)
    (na : starEach [a] X.env = (false, eval a X.env) :: starEach [] X.env := by rfl) : PE X (.Call (.Name "sorted" p) [.Call (.Name "set" p2) [a] [] q] [] pos) (tSset X.K ta) := by
  refine ⟨fun pins s σ H Q I h => ?_⟩
  refine Call_ (ld_blt I hg hm PyProof.Rows.boot_sorted ?_)
  refine PyProof.Rows.callWith_builtin1 (PyProof.Rows.args_cons ?_ rfl) rfl rfl
  refine Call_ (ld_blt I hg2 hm2 PyProof.Rows.boot_set ?_)
  refine PyProof.Rows.callWith_type1 (PyProof.Rows.args_cons (thn (ha.run pins s σ H _ I h) fun v s1 ⟨x, H1, I1, r1, q1⟩ => PyProof.Rows.args_nil ?_) na) na rfl
  obtain ⟨l, ns, rfl, hq, h0, h1, q1⟩ := q1
  cases r1
  obtain ⟨its, r, pl, hz⟩ := I1.list hq
  refine call_set_lstI ns (I1.ok.hd hc) pl.isList (by simpa using r.ints) (by unfold scanBound; omega) fun h' tk c hS hcl hk => ?_
  refine PyProof.Rows.args_nil ?_
  have hc64 : c ≤ (ssort ns).length := setR_few hS
  refine sorted_set hS (I1.ok.hd hc) (by omega) fun s' p out c' ys k g o hp hg hout pm pw hn => ?_
  have ey : ys = ssort ns := rise_eq pm (pw_ssort ns) fun k => by rw [pw k, mem_ssort, decide_eq_true_eq]
  have hkk : ∀ b o, s1.heap.get? b = some o → s'.heap.get? b = some o := fun b o e => k b o (hk b o e)
  have hp1 : s1.heap.objs.size ≤ p := Nat.le_trans (Nat.le_of_lt hS.lt) hp
  have hn1 : H1 p = none := I1.hok.fresh hp1
  have hlen : (ys.map V.int).length ≤ sizeLine := by rw [List.length_map, sizeLine_eq, ey]; omega
  have J : Inv X pins σ (upd H1 p (.lst (ys.map V.int))) { s1 with heap := s'.heap, gens := s'.gens, drawn := s'.drawn, toks := s'.toks } :=
    I1.call (ch := []) (Un.laid hkk hp1 hn1) (I1.hok.laid hkk hp1 ⟨hlen, out.toList, c', vals_of_ints hout, by rw [Array.toArray_toList]; exact hg⟩) (by rw [g]; exact I1.bare) (fun _ z => nomatch z)
  have e : s' = { s1 with heap := s'.heap, gens := s'.gens, drawn := s'.drawn, toks := s'.toks } := by
    cases s'
    cases s1
    cases o
    rfl
  rw [e]
  refine ⟨.ref p, _, J, rfl, ?_⟩
  rw [ey]
  exact q1 p hn1
end
end L3

/-! SndL: locked dicts are walked. -/
namespace L3
open PySem PySem.Spec PyProof.Rows L2
/-- the pairs of a dict with tuple keys, each a new tuple -/
def ItiT (d : Addr) (o : Obj) (kvs : List (List Key × V)) : It :=
  ⟨fun i H => H d = some (.frz o (.dT kvs)) ∧ i < kvs.length, fun i H x H' => ∃ (T q : Addr) (k : List Key) (v : V), kvs[i]? = some (k, v) ∧ H q = some (.tup (k.map kV)) ∧ x = .ref T ∧ H T = none ∧ H' = upd H T (.tup [.ref q, v]), fun i H => H d = some (.frz o (.dT kvs)) ∧ kvs.length ≤ i⟩
theorem frzT2 {X : Cx} {pins : List (Addr × Obj)} {σ : L2.St} {H : Hp} {s : Shared} {d : Addr} {o : Obj} {kvs : List (List Key × V)} (I : Inv X pins σ H s) (h : H d = some (.frz o (.dT kvs))) :
    (d == sysModules) = false ∧ s.heap.get? d = some o ∧ o.ExactDict ∧ ∃ (es : Array DictEntry) (ep : Nat), o.data = .dict es ep ∧ es.size = kvs.length ∧
      ∀ (i : Nat) (k : List Key) (v : V), kvs[i]? = some (k, v) → ∃ (en : DictEntry) (q : Addr), es[i]? = some en ∧ en.key = .ref q ∧ H q = some (.tup (k.map kV)) ∧ RelV v en.val := by
  obtain ⟨hd, z, hs, xs, pr, o', es, ep, ho, hx, hdt, he, _⟩ := I.hok d _ h
  rw [hd] at ho
  cases ho
  refine ⟨hs, hd, hx, es, ep, hdt, ?_, fun i k v e => ?_⟩
  · have l1 : es.size = xs.length := size_of_entries he
    have l2 : kvs.length = xs.length := Paired.length pr
    omega
  · obtain ⟨b, hb, e1, e2, e3⟩ := paired_get pr e
    have q := entry_at he i
    rw [hb] at q
    exact ⟨_, b.2.1, q, rfl, e2, e3⟩
theorem turn_itemsT {P : Program} {w : World} {K : PySem.W.Frag} {d : Addr} {o : Obj} {es : Array DictEntry} {ep : Nat} {kvs : List (List Key × V)} {elts : List Expr} {kk : Nat} {tpos : Pos} (it : Addr) (hod : o.data = .dict es ep) :
    Turn P w K (.Tuple elts kk tpos) (ItiT d o kvs) [it] it (fun i h => ∃ ok ov, IsItemIter h it d i kvs.length ep ok ov) where
  mem := by simp
  obj := fun i h st b hb => by
    have e : b = it := by simpa using hb
    subst e
    obtain ⟨ok, ov, e⟩ := st
    exact ⟨_, e, fun v z => nomatch z⟩
  keep := fun i h h' st k => let ⟨ok, ov, e⟩ := st; ⟨ok, ov, k it (by simp) _ e⟩
  item := by
    intro X hP hw hK hc i pins s σ H E I hf st hg
    subst hP hw hK
    obtain ⟨hd, hi⟩ := hg
    obtain ⟨hs, hgd, hx, es', ep', hdt, hsz, ent⟩ := frzT2 I hd
    obtain ⟨rfl, rfl⟩ := dict_ep hod hdt
    obtain ⟨⟨k, v⟩, hkv⟩ : ∃ p, kvs[i]? = some p := ⟨kvs[i], List.getElem?_eq_getElem hi⟩
    obtain ⟨en, q, hen, hkey, hq, ru⟩ := ent i k v hkv
    have hie : i < es'.size := by omega
    have een : es'[i] = en := by
      rw [Array.getElem?_eq_getElem hie] at hen
      exact Option.some.inj hen
    obtain ⟨ok, ov, he⟩ := st
    rw [← hsz] at he
    have hlt : it < s.heap.objs.size := Heap.lt_size he
    refine wpAny_pyNext_items_item_raw he ⟨o, hgd, hx, hdt⟩ hie fun h' ho hT hz hk => ?_
    rw [een, hkey] at ho hT
    refine ⟨_, rfl, wpAny_letOwnedTupleGo_items (s := { s with heap := h' }) ho fun h'' he' sb => ?_⟩
    have hT2 : h''.get? s.heap.objs.size = some { cls := .type "tuple", data := .seq #[.ref q, en.val] } := (sb.2 _ (Nat.ne_of_gt hlt)).trans hT
    have new : ObjOk X.prog X.w (upd H s.heap.objs.size (.tup [.ref q, v])) h'' s.heap.objs.size (.tup [.ref q, v]) :=
      ⟨by show 2 ≤ sizeLine; decide, [.ref q, en.val], .cons rfl (.cons ru .nil), ⟨_, hT2, rfl, _, rfl⟩⟩
    have I1 : Inv X pins σ (upd H s.heap.objs.size (.tup [.ref q, v])) { s with heap := h'' } :=
      I.turnedNew (t' := s.toks) (ch := [it]) (fun b ob hb e => (sb.2 b (by simpa using hb)).trans (hk b ob (by simpa using hb) e)) hf (Nat.le_refl _) new
    refine ⟨.ref s.heap.objs.size, _, I1, rfl, ⟨_, q, k, v, hkv, hq, rfl, I.hok.fresh (Nat.le_refl _), rfl⟩, ⟨.ref q, en.val, ?_⟩, fun b hb => ?_⟩
    · rw [← hsz]; exact he'
    · have e : b = it := by simpa using hb
      rw [e, upd_ne (Nat.ne_of_lt hlt)]
      exact (hf it (by simp)).1
  done := by
    intro X hP hw hK hc i pins s σ H E I hf st hg
    subst hP hw hK
    obtain ⟨hd, hi⟩ := hg
    obtain ⟨f0, f1, f2, f3, f4, f5⟩ := hf it (by simp)
    obtain ⟨hs, hgd, hx, es', ep', hdt, hsz, ent⟩ := frzT2 I hd
    obtain ⟨rfl, rfl⟩ := dict_ep hod hdt
    obtain ⟨ok, ov, he⟩ := st
    rw [← hsz] at he
    exact wpAny_pyNext_items_end_raw (I.ok.hd hc) he ⟨o, hgd, hx, hdt⟩ (by omega) fun h' eb => ⟨rfl, I.turned (t' := s.toks) (fun b ob hb e => eb b ob hb e) f0 f1 f3 f4 f5⟩
  self := fun A i s Q E st h => let ⟨_, _, e⟩ := st; PySem.W.kcp_self e h
def iItemsT (td : TE) : TI := fun σ H R => td σ H fun x H1 => ∃ d o kvs, x = .ref d ∧ H1 d = some (.frz o (.dT kvs)) ∧ R (ItiT d o kvs) H1
theorem pi_itemsT {X : Cx} {e : Expr} {td : TE} {apos cpos : Pos} {elts : List Expr} {kk : Nat} {tpos : Pos} (he : PE X e td) (hbase : attributeBase e "items" X.env (eval e X.env) = eval e X.env) (hline : (apos.endLine == cpos.line) = true) :
    PI X (.Tuple elts kk tpos) (.Call (.Attribute e "items" apos) [] [] cpos) (iItemsT td) := by
  refine ⟨fun pins s σ H R I h => ?_⟩
  refine wpAny_Call_method (T := "dict") (id := "dict.items") hbase rfl hline F.plainAttrs_dict F.slot_dict_items F.type_dict_items (thn (he.run pins s σ H _ I h) fun u s1 ⟨x, H1, I1, rx, d, o, kvs, ex, hd, q⟩ => ?_)
  subst ex
  obtain rfl : u = Value.ref d := rx
  obtain ⟨hs, hgd, hx, es, ep, hdt, hsz, ent⟩ := frzT2 I1 hd
  have hm : s1.heap.DictRaw d es ep := ⟨o, hgd, hx, hdt⟩
  refine ⟨hm.typeIs, fun a e => (by cases e; exact ⟨o, hgd, hx.2.1⟩), ?_⟩
  have I2 : Inv X pins σ H1 { s1 with heap := s1.heap.push { cls := .type "dict_items", data := .fields #[.ref d] } } := I1.kept (t' := s1.toks) fun b ob q => Heap.get?_push_of_some _ q
  have fin : wpAny (model X.prog X.w) X.A (pyIter (.ref s1.heap.objs.size)) (PIE X pins σ (.Tuple elts kk tpos) R) X.xe { s1 with heap := s1.heap.push { cls := .type "dict_items", data := .fields #[.ref d] } } := by
    refine wpAny_pyIter_items_raw (d := d) ⟨_, Heap.get?_push_size _ rfl, rfl, rfl⟩ (hm.at fun ob eo => Heap.get?_push_of_some _ eo) (pi_one (tk := s1.toks) I2 _ (turn_itemsT _ hdt) ⟨.none, .none, ?_⟩ q)
    rw [← hsz]
    exact Heap.get?_push_size _ rfl
  show wpAny _ _ (callWith cpos (.builtin "dict.items") [.ref d] [] []) _ X.xe s1
  exact method_meetsIn F.slot_dict_items F.entry_dict_items rfl (PySem.evalArgs_none ⟨rfl, hm.typeIs, F.args_dict_items_1 _, _, meets_dict_items_raw d hs, ⟨es, ep, hm⟩, fin⟩)
section
variable {g : G} {X : Cx} {W : WX} {a tg : Expr} {ra : Run1 AV} {al al' : Al} {H H' : Hp} {st : Sto} {σ : L2.St}
theorem RP.get {κ : Type} {K : PySem.W.Frag} : ∀ {kvs : List (κ × AV)} {ws : List (κ × V)} {i : Nat} {x : κ × AV}, RP K H al kvs ws → kvs[i]? = some x → ∃ y, ws[i]? = some (x.1, y) ∧ RV K H al x.2 y
  | [], _, i, x, _, h => by cases h
  | p :: kvs, _, 0, x, ⟨w, r, e, h1, h2⟩, h => by
    have h : some p = some x := h
    cases h
    subst e
    exact ⟨w, rfl, h1⟩
  | p :: kvs, _, i + 1, x, ⟨w, r, e, h1, h2⟩, h => by
    subst e
    obtain ⟨y, q1, q2⟩ := RP.get (i := i) h2 h
    exact ⟨y, q1, q2⟩
theorem unK_kV {K : PySem.W.Frag} (k : Key) : RV K H al (unK k) (kV k) := by
  cases k with
  | inl i => rfl
  | inr x => rfl
theorem unKs_kV {K : PySem.W.Frag} : ∀ ks : List Key, RVs K H al (ks.map unK) (ks.map kV)
  | [] => rfl
  | k :: ks => ⟨_, _, rfl, unK_kV k, unKs_kV ks⟩
/-- what stands locked -/
theorem lk_later {n : Nat} {p : Addr} {kvs : List (Key × AV)} (r : Rel g al st H) (e : al n = some p) (h : st[n]? = some (.lkK kvs)) : ∃ o ws, H p = some (.frz o (.dK ws)) ∧ RP g.K H al kvs ws := by
  obtain ⟨q, e2, o, ws, h1, h2⟩ := r.obj n _ h
  rw [e] at e2; cases e2
  exact ⟨o, ws, h1, h2⟩
theorem lkT_later {n : Nat} {p : Addr} {kvs : List (List Key × AV)} (r : Rel g al st H) (e : al n = some p) (h : st[n]? = some (.lkT kvs)) : ∃ o ws, H p = some (.frz o (.dT ws)) ∧ RP g.K H al kvs ws := by
  obtain ⟨q, e2, o, ws, h1, h2⟩ := r.obj n _ h
  rw [e] at e2; cases e2
  exact ⟨o, ws, h1, h2⟩
theorem it_vals {n : Nat} {p : Addr} {o : Obj} {kvs : List (Key × AV)} {ws : List (Key × V)} (ea : al n = some p) (hp : H p = some (.frz o (.dK ws))) : ItOk g al H ⟨kvs.map (·.2), some (n, .lkK kvs), none⟩ (Itd p o ws) := by
  intro al1 H1 st1 s r1 hc
  obtain ⟨o2, ws2, h1, h2⟩ := lk_later r1 (s.up n p ea) (ck_at hc rfl)
  have hp1 := s.lk _ _ _ hp
  rw [hp1] at h1
  cases h1
  refine ⟨fun i x hx => ?_, hp1, by rw [List.length_map, h2.length]; exact Nat.le_refl _⟩
  rw [List.getElem?_map] at hx
  obtain ⟨kv, h3, rfl⟩ := Option.map_eq_some_iff.mp hx
  obtain ⟨y, h4, h5⟩ := h2.get h3
  refine ⟨⟨hp1, (List.getElem?_eq_some_iff.mp h4).1⟩, fun v H' hy => ?_⟩
  obtain ⟨rfl, k, h6⟩ := hy
  rw [h4] at h6
  cases h6
  exact ⟨Stp.refl _ _, r1, h5⟩
theorem it_keysK {n : Nat} {p : Addr} {o : Obj} {kvs : List (Key × AV)} {ws : List (Key × V)} (ea : al n = some p) (hp : H p = some (.frz o (.dK ws))) : ItOk g al H ⟨kvs.map fun q => unK q.1, some (n, .lkK kvs), none⟩ (Itk p o ws) := by
  intro al1 H1 st1 s r1 hc
  obtain ⟨o2, ws2, h1, h2⟩ := lk_later r1 (s.up n p ea) (ck_at hc rfl)
  have hp1 := s.lk _ _ _ hp
  rw [hp1] at h1
  cases h1
  refine ⟨fun i x hx => ?_, hp1, by rw [List.length_map, h2.length]; exact Nat.le_refl _⟩
  rw [List.getElem?_map] at hx
  obtain ⟨kv, h3, rfl⟩ := Option.map_eq_some_iff.mp hx
  obtain ⟨y, h4, h5⟩ := h2.get h3
  refine ⟨⟨hp1, (List.getElem?_eq_some_iff.mp h4).1⟩, fun v H' hy => ?_⟩
  obtain ⟨rfl, k, u, h6, rfl⟩ := hy
  rw [h4] at h6
  cases h6
  exact ⟨Stp.refl _ _, r1, unK_kV _⟩
theorem it_keysT {n : Nat} {p : Addr} {o : Obj} {kvs : List (List Key × AV)} {ws : List (List Key × V)} (ea : al n = some p) (hp : H p = some (.frz o (.dT ws))) : ItOk g al H ⟨kvs.map fun q => .tup (q.1.map unK), some (n, .lkT kvs), none⟩ (Itkt p o ws) := by
  intro al1 H1 st1 s r1 hc
  obtain ⟨o2, ws2, h1, h2⟩ := lkT_later r1 (s.up n p ea) (ck_at hc rfl)
  have hp1 := s.lk _ _ _ hp
  rw [hp1] at h1
  cases h1
  refine ⟨fun i x hx => ?_, hp1, by rw [List.length_map, h2.length]; exact Nat.le_refl _⟩
  rw [List.getElem?_map] at hx
  obtain ⟨kv, h3, rfl⟩ := Option.map_eq_some_iff.mp hx
  obtain ⟨y, h4, h5⟩ := h2.get h3
  refine ⟨⟨hp1, (List.getElem?_eq_some_iff.mp h4).1⟩, fun v H' hy => ?_⟩
  obtain ⟨rfl, k, u, q, h6, rfl, h7⟩ := hy
  rw [h4] at h6
  cases h6
  exact ⟨Stp.refl _ _, r1, q, _, rfl, h7, unKs_kV _⟩
theorem it_itemsK {n : Nat} {p : Addr} {o : Obj} {kvs : List (Key × AV)} {ws : List (Key × V)} (ea : al n = some p) (hp : H p = some (.frz o (.dK ws))) : ItOk g al H ⟨kvs.map fun q => .tup [unK q.1, q.2], some (n, .lkK kvs), none⟩ (Iti p o ws) := by
  intro al1 H1 st1 s r1 hc
  obtain ⟨o2, ws2, h1, h2⟩ := lk_later r1 (s.up n p ea) (ck_at hc rfl)
  have hp1 := s.lk _ _ _ hp
  rw [hp1] at h1
  cases h1
  refine ⟨fun i x hx => ?_, hp1, by rw [List.length_map, h2.length]; exact Nat.le_refl _⟩
  rw [List.getElem?_map] at hx
  obtain ⟨kv, h3, rfl⟩ := Option.map_eq_some_iff.mp hx
  obtain ⟨y, h4, h5⟩ := h2.get h3
  refine ⟨⟨hp1, (List.getElem?_eq_some_iff.mp h4).1⟩, fun v H' hy => ?_⟩
  obtain ⟨T, k, u, h6, rfl, nT, rfl⟩ := hy
  rw [h4] at h6
  cases h6
  have s2 : Stp al1 H1 al1 (upd H1 T (.tup [kV kv.1, y])) := stp_free nT
  exact ⟨s2, rel_free r1 nT, T, _, rfl, upd_same, _, _, rfl, unK_kV _, RVs.one (RV.step r1.notup s2 _ _ h5)⟩
theorem it_itemsT {n : Nat} {p : Addr} {o : Obj} {kvs : List (List Key × AV)} {ws : List (List Key × V)} (ea : al n = some p) (hp : H p = some (.frz o (.dT ws))) : ItOk g al H ⟨kvs.map fun q => .tup [.tup (q.1.map unK), q.2], some (n, .lkT kvs), none⟩ (ItiT p o ws) := by
  intro al1 H1 st1 s r1 hc
  obtain ⟨o2, ws2, h1, h2⟩ := lkT_later r1 (s.up n p ea) (ck_at hc rfl)
  have hp1 := s.lk _ _ _ hp
  rw [hp1] at h1
  cases h1
  refine ⟨fun i x hx => ?_, hp1, by rw [List.length_map, h2.length]; exact Nat.le_refl _⟩
  rw [List.getElem?_map] at hx
  obtain ⟨kv, h3, rfl⟩ := Option.map_eq_some_iff.mp hx
  obtain ⟨y, h4, h5⟩ := h2.get h3
  refine ⟨⟨hp1, (List.getElem?_eq_some_iff.mp h4).1⟩, fun v H' hy => ?_⟩
  obtain ⟨T, q, k, u, h6, h7, rfl, nT, rfl⟩ := hy
  rw [h4] at h6
  cases h6
  have s2 : Stp al1 H1 al1 (upd H1 T (.tup [.ref q, y])) := stp_free nT
  exact ⟨s2, rel_free r1 nT, T, _, rfl, upd_same, _, _, rfl, ⟨q, _, rfl, by rw [upd_ne (ne_of_none h7 nT)]; exact h7, unKs_kV _⟩, RVs.one (RV.step r1.notup s2 _ _ h5)⟩
theorem k_vals {p q : Pos} (ha : PE X a (TV g W ra)) (hb : attributeBase a "values" X.env (eval a X.env) = eval a X.env) (hl : (p.endLine == q.line) = true) : PI X tg (.Call (.Attribute a "values" p) [] [] q) (TIv g W fun e st => (ra e st).bind fun v st => wkA (valsA st v) st) := by
  refine ⟨fun pins s σ H Q I ⟨al, st, e, rel, rs, pp⟩ => ?_⟩
  have z := TV.then (ra := ra) (f := fun e v st => wkA (valsA st v) st) rel rs pp
  refine (pi_values ha hb hl).run pins s σ H Q I (TV.imp z fun x H1 ⟨al1, v, st1, rel1, rs1, rv1, p1, _⟩ => ?_)
  obtain ⟨w, hw, hJ⟩ := Post.wk p1 rel1
  unfold valsA at hw
  split at hw
  · split at hw
    · rename_i n kvs hn
      cases hw
      obtain ⟨d, ea, rfl⟩ := rv1
      obtain ⟨o, ws, h1, h2⟩ := lk_later rel1 ea hn
      exact ⟨d, o, ws, rfl, h1, hJ _ (it_vals ea h1)⟩
    · cases hw
  · cases hw
theorem k_keys (ha : PE X a (TV g W ra)) : PI X tg a (TIv g W fun e st => (ra e st).bind fun v st => wkA (keysA st v) st) := by
  refine ⟨fun pins s σ H Q I ⟨al, st, e, rel, rs, pp⟩ => ?_⟩
  have z := TV.then (ra := ra) (f := fun e v st => wkA (keysA st v) st) rel rs pp
  refine (pi_keys ha).run pins s σ H Q I (TV.imp z fun x H1 ⟨al1, v, st1, rel1, rs1, rv1, p1, _⟩ => ?_)
  obtain ⟨w, hw, hJ⟩ := Post.wk p1 rel1
  unfold keysA at hw
  split at hw
  · split at hw
    · rename_i n kvs hn
      cases hw
      obtain ⟨d, ea, rfl⟩ := rv1
      obtain ⟨o, ws, h1, h2⟩ := lk_later rel1 ea hn
      exact ⟨d, o, rfl, .inl ⟨ws, h1, hJ _ (it_keysK ea h1)⟩⟩
    · rename_i n kvs hn
      cases hw
      obtain ⟨d, ea, rfl⟩ := rv1
      obtain ⟨o, ws, h1, h2⟩ := lkT_later rel1 ea hn
      exact ⟨d, o, rfl, .inr ⟨ws, h1, hJ _ (it_keysT ea h1)⟩⟩
    · cases hw
  · cases hw
theorem k_items {elts : List Expr} {kk : Nat} {tp : Pos} {p q : Pos} (ha : PE X a (TV g W ra)) (hb : attributeBase a "items" X.env (eval a X.env) = eval a X.env) (hl : (p.endLine == q.line) = true) : PI X (.Tuple elts kk tp) (.Call (.Attribute a "items" p) [] [] q) (TIv g W fun e st => (ra e st).bind fun v st => wkA (itemsA st v) st) := by
  have U : PI X (.Tuple elts kk tp) (.Call (.Attribute a "items" p) [] [] q) (fun σ H R => iItems (TV g W ra) σ H R ∨ iItemsT (TV g W ra) σ H R) :=
    ⟨fun pins s σ H R I z => z.elim (fun z => (pi_items ha hb hl).run pins s σ H R I z) fun z => (pi_itemsT ha hb hl).run pins s σ H R I z⟩
  refine ⟨fun pins s σ H Q I ⟨al, st, e, rel, rs, pp⟩ => ?_⟩
  refine U.run pins s σ H Q I ?_
  cases hra : ra e st with
  | no =>
    have pp : Post g (fun H al w J => ItOk g al H w J) ((ra e st).bind fun v st => wkA (itemsA st v) st) al H Q (wOf g W σ) := pp
    rw [hra] at pp
    exact pp.elim
  | ex c st2 =>
    have pp : Post g (fun H al w J => ItOk g al H w J) ((ra e st).bind fun v st => wkA (itemsA st v) st) al H Q (wOf g W σ) := pp
    rw [hra] at pp
    exact .inl ⟨al, st, e, rel, rs, by rw [hra]; exact pp⟩
  | ok v st2 =>
    have pp : Post g (fun H al w J => ItOk g al H w J) ((ra e st).bind fun v st => wkA (itemsA st v) st) al H Q (wOf g W σ) := pp
    rw [hra] at pp
    have pp : Post g (fun H al w J => ItOk g al H w J) (wkA (itemsA st2 v) st2) al H Q (wOf g W σ) := pp
    cases hw : itemsA st2 v with
    | none => rw [hw] at pp; exact pp.elim
    | some w =>
      rw [hw] at pp
      unfold itemsA at hw
      split at hw
      · split at hw
        · rename_i n kvs hn
          cases hw
          refine .inl ⟨al, st, e, rel, rs, ?_⟩
          rw [hra]
          intro al1 H1 x s1 r1 rv
          obtain ⟨d, ea, rfl⟩ := rv
          obtain ⟨o, ws, h1, h2⟩ := lk_later r1 ea hn
          exact ⟨d, o, ws, rfl, h1, pp al1 H1 _ s1 r1 (it_itemsK ea h1)⟩
        · rename_i n kvs hn
          cases hw
          refine .inr ⟨al, st, e, rel, rs, ?_⟩
          rw [hra]
          intro al1 H1 x s1 r1 rv
          obtain ⟨d, ea, rfl⟩ := rv
          obtain ⟨o, ws, h1, h2⟩ := lkT_later r1 ea hn
          exact ⟨d, o, ws, rfl, h1, pp al1 H1 _ s1 r1 (it_itemsT ea h1)⟩
        · cases hw
      · cases hw
end
end L3

/-! Snd8: targets, comprehensions, all expressions. -/
namespace L3
open PySem PySem.Spec PyProof.Rows L2

section
variable {g : G} {m : MC} {X : Cx} {W : WX} {a b c tg : Expr} {ra rb rc : Run1 AV} {pos : Pos} {al al' : Al} {H H' : Hp} {st : Sto} {σ : L2.St} {e : Slots}
/-! ### targets -/
def setAll : List Nat → List V → L2.St → L2.St
  | i :: is, v :: vs, σ => setAll is vs (σ.set i (some v))
  | _, _, σ => σ
theorem go_set {K : PySem.W.Frag} : ∀ (is : List Nat) (xs : List AV) (vs : List V) (e : Slots) (σ : L2.St), RVs K H al xs vs → RS K H al e σ → RS K H al (bindT.go is xs e) (setAll is vs σ)
  | [], xs, vs, e, σ, _, rs => by
    cases xs <;> exact rs
  | i :: is, [], vs, e, σ, h, rs => by
    obtain rfl : vs = [] := h
    exact rs
  | i :: is, x :: xs, _, e, σ, ⟨w, r, e1, h1, h2⟩, rs => by
    subst e1
    exact go_set is xs r _ _ h2 (rs.put i h1)
def gNs (is : List Nat) : TGs := fun vs σ H Q => vs.length = is.length ∧ Q (setAll is vs σ) H
theorem PGs.imp {es : List Expr} {t t' : TGs} (h : PGs X es t) (i : ∀ vs σ H Q, t' vs σ H Q → t vs σ H Q) : PGs X es t' := ⟨fun pins s σ H vs us Q I r q => h.run pins s σ H vs us Q I r (i _ _ _ _ q)⟩
theorem PG.imp {e : Expr} {t t' : TG} (h : PG X e t) (i : ∀ v σ H Q, t' v σ H Q → t v σ H Q) : PG X e t' := ⟨fun pins s σ H v u Q I r q => h.run pins s σ H v u Q I r (i _ _ _ _ q)⟩
/-- a name of the slots -/
def nameB (m : MC) (c : Str → Bool) (sc : Scope) (p : Expr × Nat) : Bool := match p.1 with
  | .Name x _ => slotB m p.2 x && locC c sc x
  | _ => false
theorem loc_of {sc : Scope} {x : Str} (h : locB sc x = true) : sc.names.lookup x = some .local := by
  unfold locB at h
  split at h
  · assumption
  · cases h
theorem lcell_of {sc : Scope} {x : Str} (h : lcellB sc x = true) : Loc sc x := by
  unfold lcellB at h
  split at h
  · rename_i z; exact .inl z
  · rename_i z; exact .inr z
  · cases h
theorem k_name {c : Str → Bool} {i : Nat} {x : Str} (hf : ∀ x, c x = true → X.fn x = true) (hN : X.N = m.N) (nd : X.N.Nodup) (h1 : slotB m i x = true) (h2 : locC c X.env.scope x = true) : PG X (.Name x pos) (gName i) := by
  unfold locC at h2
  by_cases hc : c x = true
  · rw [if_pos hc] at h2
    exact pg_name nd (by rw [hN]; exact of_decide_eq_true h1) (lcell_of h2) (.inl (hf x hc))
  · rw [if_neg hc] at h2
    exact pg_name nd (by rw [hN]; exact of_decide_eq_true h1) (.inl (loc_of h2)) (.inr (loc_of h2))
theorem name_of {c : Str → Bool} {p : Expr × Nat} (h : nameB m c X.env.scope p = true) : ∃ x q, p.1 = .Name x q ∧ slotB m p.2 x = true ∧ locC c X.env.scope x = true := by
  obtain ⟨e, i⟩ := p
  unfold nameB at h
  cases e with
  | Name x q =>
    simp only [Bool.and_eq_true] at h
    exact ⟨x, q, rfl, h.1, h.2⟩
  | _ => cases h
theorem k_names {c : Str → Bool} (hf : ∀ x, c x = true → X.fn x = true) (hN : X.N = m.N) (nd : X.N.Nodup) : ∀ (es : List Expr) (is : List Nat), es.length = is.length → (es.zip is).all (nameB m c X.env.scope) = true → PGs X es (gNs is) ∧ (assignEach es X.env).length = is.length ∧ (assignEach es X.env).findIdx? (·.1) = none
  | [], [], _, _ => ⟨PGs.imp pgs_nil fun vs σ H Q ⟨h1, h2⟩ => by
      obtain rfl : vs = [] := List.eq_nil_of_length_eq_zero h1
      exact ⟨rfl, h2⟩, rfl, rfl⟩
  | [], _ :: _, h, _ => by cases h
  | _ :: _, [], h, _ => by cases h
  | e :: es, i :: is, h, hb => by
    rw [List.zip_cons_cons, List.all_cons, Bool.and_eq_true] at hb
    obtain ⟨x, q, e1, h1, h2⟩ := name_of hb.1
    have e1 : e = .Name x q := e1
    subst e1
    obtain ⟨k1, k2, k3⟩ := k_names hf hN nd es is (Nat.succ.inj h) hb.2
    refine ⟨PGs.imp (pgs_cons (k_name hf hN nd h1 h2) k1 rfl) fun vs σ H Q ⟨l, z⟩ => ?_, ?_, ?_⟩
    · cases vs with
      | nil => cases l
      | cons v vs => exact ⟨v, vs, rfl, Nat.succ.inj l, z⟩
    · show (assignEach es X.env).length + 1 = is.length + 1
      rw [k2]
    · show ((false, _) :: assignEach es X.env).findIdx? (·.1) = none
      rw [List.findIdx?_cons, k3]
      rfl
/-- a target, by the machine -/
def TGv (g : G) (t : Tg) : TG := fun v σ H Q => ∃ al st e x e2, Rel g al st H ∧ RS g.K H al e σ ∧ RV g.K H al x v ∧ bindT t x e = some e2 ∧ ∀ σ2, RS g.K H al e2 σ2 → σ2.length = σ.length → (∀ vs, (∀ i ∈ tgIds t, i ∈ vs) → L2.wipe σ2 vs = L2.wipe σ vs) → Q σ2 H
theorem wipe_set (σ : L2.St) (i : Nat) (v : Option V) : ∀ vs : List Nat, i ∈ vs → L2.wipe (σ.set i v) vs = L2.wipe σ vs
  | [], h => by cases h
  | j :: vs, h => by
    show (L2.wipe (σ.set i v) vs).set j none = (L2.wipe σ vs).set j none
    by_cases hi : i ∈ vs
    · rw [wipe_set σ i v vs hi]
    · have ej : i = j := by
        rcases List.mem_cons.mp h with z | z
        · exact z
        · exact absurd z hi
      subst ej
      have sw : ∀ (vs : List Nat) (σ : L2.St), i ∉ vs → L2.wipe (σ.set i v) vs = (L2.wipe σ vs).set i v := by
        intro vs
        induction vs with
        | nil => intro σ _; rfl
        | cons k r ih =>
          intro σ hk
          have h1 : i ≠ k := fun z => hk (by rw [z]; exact List.mem_cons_self)
          have h2 : i ∉ r := fun z => hk (List.mem_cons_of_mem _ z)
          show (L2.wipe (σ.set i v) r).set k none = ((L2.wipe σ r).set k none).set i v
          rw [ih σ h2, List.set_comm _ _ h1]
      rw [sw vs σ hi, List.set_set]
theorem wipe_all (vs : List Nat) : ∀ (is : List Nat) (ws : List V) (σ : L2.St), (∀ i ∈ is, i ∈ vs) → L2.wipe (setAll is ws σ) vs = L2.wipe σ vs
  | [], ws, σ, _ => rfl
  | i :: is, [], σ, _ => rfl
  | i :: is, w :: ws, σ, h => by
    show L2.wipe (setAll is ws (σ.set i (some w))) vs = _
    rw [wipe_all vs is ws _ fun j hj => h j (List.mem_cons_of_mem _ hj), wipe_set σ i _ vs (h i List.mem_cons_self)]
theorem setAll_len : ∀ (is : List Nat) (ws : List V) (σ : L2.St), (setAll is ws σ).length = σ.length
  | [], ws, σ => rfl
  | i :: is, [], σ => rfl
  | i :: is, w :: ws, σ => by
    show (setAll is ws (σ.set i (some w))).length = _
    rw [setAll_len is ws, List.length_set]
theorem k_tg {c : Str → Bool} {t : Tg} (hf : ∀ x, c x = true → X.fn x = true) (S : Same4 g X) (hc : X.calm = true) (hN : X.N = m.N) (nd : X.N.Nodup) (h : tgB m c X.env.scope t tg = true) : PG X tg (TGv g t) := by
  cases t with
  | nm i =>
    simp only [tgB] at h
    split at h
    · rename_i x q
      rw [Bool.and_eq_true] at h
      refine PG.imp (k_name hf hN nd h.1 h.2) fun v σ H Q ⟨al, st, e, y, e2, rel, rs, rv, eb, q⟩ => ?_
      cases eb
      exact q _ (rs.put i rv) (List.length_set) fun vs hv => wipe_set σ i _ vs (hv i List.mem_cons_self)
    · cases h
  | tp is =>
    simp only [tgB] at h
    split at h
    · rename_i es k q
      rw [Bool.and_eq_true] at h
      obtain ⟨k1, k2, k3⟩ := k_names hf hN nd es is (of_decide_eq_true h.1) (by
        have h2 := h.2
        exact h2)
      refine PG.imp (pg_tup hc k1 k2 k3) fun v σ H Q ⟨al, st, e, y, e2, rel, rs, rv, eb, q⟩ => ?_
      cases y with
      | tup xs =>
        simp only [bindT] at eb
        by_cases hl : is.length = xs.length
        · rw [if_pos hl] at eb
          cases eb
          obtain ⟨p, ws, rfl, hp, r⟩ := rv
          refine ⟨p, ws, rfl, .inl (.inl hp), by rw [hl, r.length], by rw [hl, r.length], ?_⟩
          exact q _ (go_set is xs ws e σ r rs) (setAll_len _ _ _) fun vs hv => wipe_all vs is ws σ (fun i hi => hv i hi)
        · rw [if_neg hl] at eb
          cases eb
      | _ => cases eb
    · cases h

/-! ### comprehensions -/
/-- what a thing leans on -/
structure Mono (K : PySem.W.Frag) (al : Al) (H : Hp) (al' : Al) (H' : Hp) : Prop where
  up : ∀ n p, al n = some p → al' n = some p
  tup : ∀ p ws, H p = some (.tup ws) → H' p = some (.tup ws)
  rd : ∀ p ws, SqR K H p ws → SqR K H' p ws
mutual
theorem RV.mono {K : PySem.W.Frag} (h : Mono K al H al' H') : ∀ (v : AV) (w : V), RV K H al v w → RV K H' al' v w
  | .non, _, r => r
  | .bl _, _, r => r
  | .int _, _, r => r
  | .str _, _, r => r
  | .tup xs, _, ⟨p, ws, e, q, r⟩ => ⟨p, ws, e, h.tup p ws q, RVs.mono h xs ws r⟩
  | .ref n, _, ⟨p, e, q⟩ => ⟨p, h.up n p e, q⟩
  | .rol xs, _, ⟨p, e, q⟩ => ⟨p, e, h.rd p _ q⟩
theorem RVs.mono {K : PySem.W.Frag} (h : Mono K al H al' H') : ∀ (v : List AV) (w : List V), RVs K H al v w → RVs K H' al' v w
  | [], _, r => r
  | x :: xs, _, ⟨w, r, e, h1, h2⟩ => ⟨w, r, e, RV.mono h x w h1, RVs.mono h xs r h2⟩
end
theorem RP.mono {κ : Type} {K : PySem.W.Frag} (h : Mono K al H al' H') : ∀ (v : List (κ × AV)) (w : List (κ × V)), RP K H al v w → RP K H' al' v w
  | [], _, r => r
  | x :: xs, _, ⟨w, r, e, h1, h2⟩ => ⟨w, r, e, RV.mono h x.2 w h1, RP.mono h xs r h2⟩
theorem RF.mono (h : Mono g.K al H al' H') : ∀ (v : List (Nat × AV)) (w : List (Str × V)), RF g H al v w → RF g H' al' v w
  | [], _, r => r
  | x :: xs, _, ⟨w, r, e, h1, h2⟩ => ⟨w, r, e, RV.mono h x.2 w h1, RF.mono h xs r h2⟩
theorem RO.mono {p : Addr} {o : AO} (h : Mono g.K al H al' H') (ep : H' p = H p) (r : RO g H al p o) : RO g H' al' p o := by
  cases o with
  | lst xs => obtain ⟨ws, e, q⟩ := r; exact ⟨ws, ep.trans e, RVs.mono h _ _ q⟩
  | dK xs => obtain ⟨ws, e, q⟩ := r; exact ⟨ws, ep.trans e, RP.mono h _ _ q⟩
  | dT xs => obtain ⟨ws, e, q⟩ := r; exact ⟨ws, ep.trans e, RP.mono h _ _ q⟩
  | ins c fs => obtain ⟨dx, ws, e, q⟩ := r; exact ⟨dx, ws, ep.trans e, RF.mono h _ _ q⟩
  | exc c => exact ep.trans r
  | lkK xs => obtain ⟨o, ws, e, q⟩ := r; exact ⟨o, ws, ep.trans e, RP.mono h _ _ q⟩
  | lkT xs => obtain ⟨o, ws, e, q⟩ := r; exact ⟨o, ws, ep.trans e, RP.mono h _ _ q⟩
  | dN xs => obtain ⟨ws, e, q⟩ := r; exact ⟨ws, e.keeps ep h.tup, RP.mono h _ _ q⟩
theorem Mono.ofAl {K : PySem.W.Frag} (h : ∀ n p, al n = some p → al' n = some p) : Mono K al H al' H := ⟨h, fun _ _ q => q, fun _ _ q => q⟩
/-- a list that stands aside changed -/
theorem Mono.aside {K : PySem.W.Frag} {D : Addr} {xs : List V} {o : HO} (e : H D = some (.lst xs)) : Mono K al H al (upd H D o) := by
  refine ⟨fun _ _ h => h, fun p ws h => ?_, fun p ws h => ?_⟩
  · rw [upd_ne (ne_of h e (by intro z; cases z))]; exact h
  · rcases h with ⟨q, h⟩ | h
    · exact .inl ⟨q, by rw [upd_ne (ne_of h e (by intro z; cases z))]; exact h⟩
    · exact .inr h
theorem rel_aside {D : Addr} {xs : List V} {o : HO} (r : Rel g al st H) (nD : ∀ n, al n ≠ some D) (e : H D = some (.lst xs)) : Rel g al st (upd H D o) where
  inj := r.inj
  dom := r.dom
  obj n o' h := by
    obtain ⟨q, e2, ro⟩ := r.obj n o' h
    exact ⟨q, e2, ro.mono (Mono.aside e) (upd_ne fun z => nD n (by rw [e2, z]))⟩
theorem stp_aside {al0 : Al} {H0 : Hp} {D : Addr} {o : HO} (s : Stp al0 H0 al H) (hD : H0 D = none) : Stp al0 H0 al (upd H D o) where
  up := s.up
  fr p u h hn := by
    rw [upd_ne (ne_of_none h hD)]
    exact s.fr p u h hn
  nw := s.nw
  kp p h := by
    by_cases z : p = D
    · rw [z, upd_same]; intro q; cases q
    · rw [upd_ne z]; exact s.kp p h
  lk p ob u h := by
    rw [upd_ne (ne_of_none h hD)]
    exact s.lk p ob u h
theorem stp_take {al0 : Al} {H0 : Hp} {D : Addr} {n : Nat} (s : Stp al0 H0 al H) (hD : H0 D = none) (hn : ∀ p, al n ≠ some p) : Stp al0 H0 (alUp al n D) H where
  up m p h := by
    have q := s.up m p h
    unfold alUp
    rw [if_neg fun z => hn p (by rw [← z]; exact q)]
    exact q
  fr := s.fr
  nw m p h := by
    unfold alUp at h
    by_cases z : m = n
    · rw [if_pos z] at h; cases h; exact .inr hD
    · rw [if_neg z] at h; exact s.nw m p h
  kp := s.kp
  lk := s.lk
theorem wipe_get (σ : L2.St) : ∀ (vs : List Nat) (i : Nat), (L2.wipe σ vs)[i]? = if i ∈ vs then (σ[i]?).map fun _ => none else σ[i]?
  | [], i => by simp [L2.wipe]
  | v :: vs, i => by
    show ((L2.wipe σ vs).set v none)[i]? = _
    rw [List.getElem?_set]
    by_cases z : v = i
    · subst z
      rw [if_pos rfl, if_pos List.mem_cons_self, wipe_length]
      by_cases hv : v < σ.length
      · rw [if_pos hv, List.getElem?_eq_getElem hv]; rfl
      · rw [if_neg hv, List.getElem?_eq_none (by omega)]; rfl
    · rw [if_neg z, wipe_get σ vs i]
      by_cases hi : i ∈ vs
      · rw [if_pos hi, if_pos (List.mem_cons_of_mem _ hi)]
      · rw [if_neg hi, if_neg fun q => (List.mem_cons.mp q).elim (fun y => z y.symm) hi]
theorem wipe_wipe (σ : L2.St) (vs : List Nat) : L2.wipe (L2.wipe σ vs) vs = L2.wipe σ vs := by
  apply List.ext_getElem?
  intro i
  rw [wipe_get, wipe_get]
  by_cases h : i ∈ vs
  · rw [if_pos h, if_pos h]
    cases σ[i]? <;> rfl
  · rw [if_neg h, if_neg h]
/-- an object that stood aside comes into the store -/
theorem rel_take {p : Addr} {o : AO} (r : Rel g al st H) (hq : ∀ n, al n ≠ some p) (hr : RO g H al p o) : Rel g (alUp al st.length p) (st ++ [o]) H where
  inj m n q h1 h2 := by
    unfold alUp at h1 h2
    by_cases z1 : m = st.length
    · rw [if_pos z1] at h1
      by_cases z2 : n = st.length
      · rw [z1, z2]
      · rw [if_neg z2] at h2; cases h1; exact absurd h2 (hq n)
    · rw [if_neg z1] at h1
      by_cases z2 : n = st.length
      · rw [if_pos z2] at h2; cases h2; exact absurd h1 (hq m)
      · rw [if_neg z2] at h2; exact r.inj m n q h1 h2
  dom n q h := by
    rw [List.length_append]
    unfold alUp at h
    by_cases z : n = st.length
    · rw [z]; exact Nat.lt_succ_self _
    · rw [if_neg z] at h; exact Nat.lt_succ_of_lt (r.dom n q h)
  obj n o' h := by
    have up : ∀ n q, al n = some q → alUp al st.length p n = some q := fun n q h => by
      unfold alUp
      rw [if_neg (Nat.ne_of_lt (r.dom n q h))]
      exact h
    by_cases z : n < st.length
    · rw [List.getElem?_append_left z] at h
      obtain ⟨q, e, ro⟩ := r.obj n o' h
      exact ⟨q, up n q e, ro.mono (Mono.ofAl up) rfl⟩
    · have e : n = st.length := by
        have := (List.getElem?_eq_some_iff.mp h).1
        rw [List.length_append] at this
        have h1 : [o].length = 1 := rfl
        omega
      rw [e, List.getElem?_append_right (Nat.le_refl _), Nat.sub_self] at h
      have h' : o = o' := Option.some.inj h
      subst h'
      exact ⟨p, by unfold alUp; rw [if_pos e], hr.mono (Mono.ofAl up) rfl⟩
def W0 : WX := fun _ _ _ _ => False
theorem RS.wipes {K : PySem.W.Frag} (rs : RS K H al e σ) (own : List Nat) : RS K H al (wipeA e own) (L2.wipe σ own) := rs.wipe own
/-- of what is run within: nothing raised -/
theorem noex_post {A B : Type} {RA : Hp → Al → A → B → Prop} {r : R A} {C D : Type} {RC : Hp → Al → C → D → Prop} {f : A → Sto → R C} {Q : D → Hp → Prop} {W' : Nat → Hp → Prop} {al0 : Al} {H0 : Hp} (s0 : Stp al0 H0 al H) (h : Post g RC (r.noex.bind f) al0 H0 Q W') :
    Post g RA r al H (fun b H1 => ∃ al1 a st1, Stp al H al1 H1 ∧ Rel g al1 st1 H1 ∧ RA H1 al1 a b ∧ Post g RC (f a st1) al0 H0 Q W') (wOf g W0 σ) := by
  cases r with
  | ok a st => exact fun al' H' b s rel rv => ⟨al', a, st, s, rel, rv, h⟩
  | ex c st => exact h.elim
  | no => exact h.elim
theorem k_lc {t : Tg} {own : List Nat} {elt iter : Expr} {ifs : List Expr} {scope : Scope} {ri : Run1 Wk} {rc rb : Run1 AV} (S : Same4 g X) (hc : X.calm = true) (nd : X.N.Nodup) (ok : BlkOk X.N X.env.scope scope (ownOf m own)) (hown : ∀ i ∈ tgIds t, i ∈ own)
    (hi : PI X tg iter (TIv g W ri)) (hset : noSetD iter = true) (hg : ∀ (s : Shared) (H : Hp) (C : Addr) (cl : List (Str × Addr)) (fp : List Addr), PG (X.blk s H scope (compEnvC scope cl C X.env) fp) tg (TGv g t))
    (ht : ∀ (s : Shared) (H : Hp) (C : Addr) (cl : List (Str × Addr)) (fp : List Addr), PTs (X.blk s H scope (compEnvC scope cl C X.env) fp) ifs (TTv g W0 rc))
    (he : ∀ (s : Shared) (H : Hp) (C : Addr) (cl : List (Str × Addr)) (fp : List Addr), PE (X.blk s H scope (compEnvC scope cl C X.env) fp) elt (TV g W0 rb)) :
    ∀ σ H Q, TV g W (fun e st => (ri e st).bind fun w st => (lcL t w.ck rc rb (wipeA e own) w.xs [] st).bind fun acc st => alloc (.lst acc) st) σ H Q → tLc (TIv g W ri) (TGv g t) (TTv g W0 rc) (TV g W0 rb) ((ownOf m own).map (·.2)) σ H Q := by
  intro σ H Q ⟨al, st, e, rel, rs, p⟩
  have eo : (ownOf m own).map (·.2) = own := by
    unfold ownOf
    rw [List.map_map]
    exact List.map_id _
  rw [eo]
  have q := Post.bind (RA := fun H al w J => ItOk g al H w J) p
  refine ⟨al, st, e, rel, rs, Post.imp q fun J H1 ⟨al1, w, st1, s1, rel1, hJ, p1⟩ D hD => ?_⟩
  let F : List AV → List AV → Sto → R AV := fun xs acc st => (lcL t w.ck rc rb (wipeA e own) xs acc st).bind fun acc st => alloc (.lst acc) st
  refine ⟨fun i k H' => ∃ al2 st2 acc accs, Stp al1 H1 al2 H' ∧ Rel g al2 st2 H' ∧ (∀ n, al2 n ≠ some D) ∧ H' D = some (.lst accs) ∧ RVs g.K H' al2 acc accs ∧ k = w.xs.length - i ∧ i ≤ w.xs.length ∧ Post g (rvOf g) (F (w.xs.drop i) acc st2) al1 H1 Q (wOf g W σ), ?_, ?_⟩
  · exact ⟨_, al1, st1, [], [], stp_free hD, rel_free rel1 hD, rel1.free hD, upd_same, rfl, rfl, Nat.zero_le _, p1⟩
  · intro i k H' ⟨al2, st2, acc, accs, s2, rel2, nD, eD, rA, ek, hle, p2⟩
    by_cases hck : w.ck st2 = true
    · obtain ⟨h1, h2⟩ := hJ al2 H' st2 s2 rel2 hck
      by_cases hi : i < w.xs.length
      · obtain ⟨j1, j2⟩ := h1 i _ (List.getElem?_eq_getElem hi)
        refine .inr ⟨j1, fun H3 => ∃ al2 st2 acc accs, Stp al1 H1 al2 H3 ∧ Rel g al2 st2 H3 ∧ (∀ n, al2 n ≠ some D) ∧ H3 D = some (.lst accs) ∧ RVs g.K H3 al2 acc accs ∧ Post g (rvOf g) (F (w.xs.drop (i + 1)) acc st2) al1 H1 Q (wOf g W σ), ?_, ?_⟩
        · intro H3 ⟨al3, st3, acc3, accs3, a1, a2, a3, a4, a5, a6⟩
          exact ⟨w.xs.length - (i + 1), by omega, al3, st3, acc3, accs3, a1, a2, a3, a4, a5, rfl, by omega, a6⟩
        · intro x H3 hy
          obtain ⟨s3, rel3, rv3⟩ := j2 x H3 hy
          have s13 := s2.trans s3
          have eD3 : H3 D = some (.lst accs) := s3.fr D _ eD nD
          rw [List.drop_eq_getElem_cons hi] at p2
          have p2 : Post g (rvOf g) ((lcL t w.ck rc rb (wipeA e own) (w.xs[i] :: w.xs.drop (i + 1)) acc st2).bind fun acc st => alloc (.lst acc) st) al1 H1 Q (wOf g W σ) := p2
          unfold lcL at p2
          rw [if_pos hck] at p2
          cases hb : bindT t w.xs[i] (wipeA e own) with
          | none => rw [hb] at p2; exact p2.elim
          | some e2 =>
            rw [hb] at p2
            dsimp only at p2
            have rs0 : RS g.K H3 al2 (wipeA e own) (L2.wipe σ own) := ((rs.step rel.notup (s1.trans s13)).wipe own)
            refine ⟨al2, st2, wipeA e own, w.xs[i], e2, rel3, rs0, rv3, hb, fun σ2 rs2 hl2 hw2 => ⟨?_, ?_⟩⟩
            · have z := hw2 own hown
              rw [z, wipe_wipe]
            · have p3 : Post g (rvOf g) ((tst (rc e2 st2)).noex.bind fun c st => (if c = true then (rb e2 st).noex.bind fun v st => if acc.length < lim then lcL t w.ck rc rb (wipeA e own) (w.xs.drop (i + 1)) (acc ++ [v]) st else .no else lcL t w.ck rc rb (wipeA e own) (w.xs.drop (i + 1)) acc st).bind fun acc st => alloc (.lst acc) st) al1 H1 Q (wOf g W σ) := by
                revert p2
                generalize tst (rc e2 st2) = y
                cases y <;> exact fun h => h
              refine ⟨al2, st2, e2, rel3, rs2, Post.imp (noex_post (RA := beOf) s13 p3) fun b H4 ⟨al4, b', st4, s4, rel4, eb, p4⟩ => ?_⟩
              have eb : b' = b := eb
              subst eb
              have eD4 : H4 D = some (.lst accs) := s4.fr D _ eD3 nD
              have nD4 : ∀ n, al4 n ≠ some D := fun n z => by
                rcases s4.nw n D z with y | y
                · exact nD n y
                · rw [eD3] at y; cases y
              have rA4 := RVs.step rel3.notup s4 _ _ (RVs.step rel2.notup s3 _ _ rA)
              cases b' with
              | false =>
                rw [if_neg Bool.false_ne_true] at p4 ⊢
                exact ⟨al4, st4, acc, accs, s13.trans s4, rel4, nD4, eD4, rA4, p4⟩
              | true =>
                rw [if_pos rfl] at p4 ⊢
                have p5 : Post g (rvOf g) ((rb e2 st4).noex.bind fun v st => (if acc.length < lim then lcL t w.ck rc rb (wipeA e own) (w.xs.drop (i + 1)) (acc ++ [v]) st else .no).bind fun acc st => alloc (.lst acc) st) al1 H1 Q (wOf g W σ) := by
                  revert p4
                  generalize rb e2 st4 = y
                  cases y <;> exact fun h => h
                refine ⟨al4, st4, e2, rel4, rs2.step rel3.notup s4, Post.imp (noex_post (RA := rvOf g) (s13.trans s4) p5) fun y H5 ⟨al5, v, st5, s5, rel5, rv5, p6⟩ => ?_⟩
                by_cases hl : acc.length < lim
                · rw [if_pos hl] at p6
                  have eD5 : H5 D = some (.lst accs) := s5.fr D _ eD4 nD4
                  have nD5 : ∀ n, al5 n ≠ some D := fun n z => by
                    rcases s5.nw n D z with y | y
                    · exact nD4 n y
                    · rw [eD4] at y; cases y
                  have rA5 := RVs.step rel4.notup s5 _ _ rA4
                  refine ⟨accs, eD5, by rw [← rA5.length, sizeLine_eq]; exact hl, al5, st5, acc ++ [v], accs ++ [y], ?_, ?_, nD5, upd_same, ?_, p6⟩
                  · exact stp_aside ((s13.trans s4).trans s5) hD
                  · exact rel_aside rel5 nD5 eD5
                  · exact RVs.mono (Mono.aside eD5) _ _ (rA5.append (RVs.one rv5))
                · rw [if_neg hl] at p6
                  exact p6.elim
      · have ei : i = w.xs.length := by omega
        subst ei
        refine .inl ⟨h2, ?_⟩
        have p2 : Post g (rvOf g) ((lcL t w.ck rc rb (wipeA e own) (w.xs.drop w.xs.length) acc st2).bind fun acc st => alloc (.lst acc) st) al1 H1 Q (wOf g W σ) := p2
        rw [List.drop_length] at p2
        unfold lcL at p2
        rw [if_pos hck] at p2
        have nn : ∀ p, al2 st2.length ≠ some p := fun p z => Nat.lt_irrefl _ (rel2.dom _ p z)
        exact p2 (alUp al2 st2.length D) H' _ (stp_take s2 hD nn) (rel_take rel2 nD ⟨accs, eD, rA⟩) ⟨D, by unfold alUp; rw [if_pos rfl], rfl⟩
    · have p2 : Post g (rvOf g) ((lcL t w.ck rc rb (wipeA e own) (w.xs.drop i) acc st2).bind fun acc st => alloc (.lst acc) st) al1 H1 Q (wOf g W σ) := p2
      revert p2
      generalize w.xs.drop i = l
      intro p2
      cases l with
      | nil =>
        unfold lcL at p2
        rw [if_neg hck] at p2
        exact p2.elim
      | cons x l =>
        unfold lcL at p2
        rw [if_neg hck] at p2
        exact p2.elim
end
end L3

/-! SndD: dict displays. -/
namespace L3
open PySem PySem.Spec PyProof.Rows L2

section
variable {g : G} {X : Cx} {W : WX} {a : Expr} {ra : Run1 AV} {rr : Run1 (List AV)} {pos : Pos} {al al' : Al} {H H' : Hp} {st : Sto} {σ : L2.St} {e : Slots}
theorem Post.shift {A B : Type} {RA : Hp → Al → A → B → Prop} {r : R A} {Q : B → Hp → Prop} {W : Nat → Hp → Prop} (s : Stp al H al' H') (h : Post g RA r al H Q W) : Post g RA r al' H' Q W := by
  cases r with
  | ok a st => exact fun al2 H2 b s2 => h al2 H2 b (s.trans s2)
  | ex c st => exact fun al2 H2 s2 => h al2 H2 (s.trans s2)
  | no => exact h
def kvV (k : AV) : V := match keyK k with
  | some k => kV k
  | none => .non
theorem key_of {p : Option Expr × AV} (h : keyB p = true) : ∃ b, p.1 = some b ∧ PE X b (tC (kvV p.2)) := by
  obtain ⟨o, k⟩ := p
  unfold keyB at h
  dsimp only at h
  split at h
  · rename_i c x y
    rw [Bool.and_eq_true] at h
    obtain ⟨h1, h2⟩ := h
    refine ⟨_, rfl, ?_⟩
    cases k with
    | int i =>
      cases c with
      | int j =>
        simp only [conB, decide_eq_true_eq] at h1
        subst h1
        exact pe_int
      | _ => cases h1
    | str s =>
      cases c with
      | str j =>
        simp only [conB, decide_eq_true_eq] at h1
        subst h1
        exact pe_str
      | _ => cases h1
    | _ => cases h2
  · cases h
def PpOk (g : G) (W : WX) (ks : List AV) (rr : Run1 (List AV)) (trs : List (TE × TE)) : Prop := ∀ (σ : L2.St) (H : Hp) (Q : List V → Hp → Prop) (Q2 : List (V × V) → Hp → Prop), TVs g W rr σ H Q → (∀ ws H2, ws.length = ks.length → Q ws H2 → Q2 ((ks.map kvV).zip ws) H2) → tPairs trs σ H Q2
def PpB (g : G) (X : Cx) (W : WX) (vs : List Expr) (rr : Run1 (List AV)) : Prop := ∀ (keys : List (Option Expr)) (ks : List AV) (pos : Pos), keys.length = ks.length → keys.length = vs.length → (keys.zip ks).all keyB = true → ∃ trs, PPs X pos keys vs trs ∧ PpOk g W ks rr trs
theorem pp_nil : PpB g X W [] (fun _ st => .ok [] st) := fun keys ks pos h1 h2 _ => by
  obtain rfl : keys = [] := List.eq_nil_of_length_eq_zero h2
  obtain rfl : ks = [] := List.eq_nil_of_length_eq_zero h1.symm
  exact ⟨[], pps_nil, fun σ H Q Q2 ⟨al, st, e, rel, rs, p⟩ i => i [] H rfl (Post.ok (RA := rvsOf g) p rel rfl)⟩
theorem pp_cons {es : List Expr} (ha : PE X a (TV g W ra)) (hr : PpB g X W es rr) : PpB g X W (a :: es) (fun e st => (ra e st).bind fun x st => (rr e st).bind fun xs st => .ok (x :: xs) st) := fun keys ks pos h1 h2 hb => by
  cases keys with
  | nil => cases h2
  | cons k keys =>
    cases ks with
    | nil => cases h1
    | cons c ks =>
      rw [List.zip_cons_cons, List.all_cons, Bool.and_eq_true] at hb
      obtain ⟨b, hk, pk⟩ := key_of (X := X) hb.1
      have hk : k = some b := hk
      subst hk
      obtain ⟨trs, p1, p2⟩ := hr keys ks pos (Nat.succ.inj h1) (Nat.succ.inj h2) hb.2
      refine ⟨_, pps_cons pk ha p1, fun σ H Q Q2 ⟨al, st, e, rel, rs, p⟩ i => ?_⟩
      show TV g W ra σ H fun y H2 => tPairs trs σ H2 fun ps H3 => Q2 ((kvV c, y) :: ps) H3
      refine TV.imp (TV.then (ra := ra) (f := fun e x st => (rr e st).bind fun xs st => .ok (x :: xs) st) rel rs p) fun y H1 ⟨al1, a1, st1, rel1, rs1, rv1, q1, s1⟩ => ?_
      obtain ⟨al2, st2, e2, rel2, rs2, q2⟩ := TVs.then (ra := rr) (f := fun e xs st => .ok (a1 :: xs) st) rel1 rs1 q1
      refine p2 _ _ (fun ws H3 => Q (y :: ws) H3) _ ⟨al2, st2, e2, rel2, rs2, Post.imp q2 fun xs H2 ⟨al3, a3, st3, rel3, rs3, rv3, p3, s3⟩ => Post.ok (RA := rvsOf g) p3 rel3 ⟨y, xs, rfl, RV.step rel1.notup s3 _ _ rv1, rv3⟩⟩ fun ws H3 hl q => ?_
      exact i (y :: ws) H3 (congrArg (· + 1) hl) q
theorem keys_of : ∀ {ks : List AV} {kk : List Key}, keysK ks = some kk → ks.map kvV = kk.map kV
  | [], _, e => by cases e; rfl
  | k :: ks, kk, e => by
    simp only [keysK] at e
    split at e
    · rename_i q r h1 h2
      cases e
      rw [List.map_cons, List.map_cons, keys_of h2]
      congr 1
      unfold kvV
      rw [h1]
    · cases e
theorem rp_zip {K : PySem.W.Frag} : ∀ {kk : List Key} {as : List AV} {ws : List V} {xs : List (Key × AV)} {ys : List (Key × V)}, RVs K H al as ws → RP K H al xs ys → RP K H al ((kk.zip as).foldl (fun acc kv => L3.putK kv.1 kv.2 acc) xs) ((kk.zip ws).foldl (fun acc kv => L2.putK acc kv.1 kv.2) ys)
  | [], _, _, _, _, _, h => h
  | k :: kk, [], ws, _, _, r, h => by
    obtain rfl : ws = [] := r
    exact h
  | k :: kk, a :: as, _, _, _, ⟨w, r, e, h1, h2⟩, h => by
    subst e
    have z := rp_zip (kk := kk) h2 (RP.put (k := k) h1 h)
    exact z
theorem k_ddsp {ks : List AV} {keys : List (Option Expr)} {vs : List Expr} (h : PpB g X W vs rr) (h1 : keys.length = ks.length) (h2 : keys.length = vs.length) (hb : (keys.zip ks).all keyB = true) (h0 : keys ≠ []) (h15 : keys.length ≤ 15) :
    PE X (.Dict keys vs pos) (TV g W fun e st => (rr e (st ++ [.dK []])).bind fun xs st2 => dispA st.length ks xs st2) := by
  obtain ⟨trs, p1, p2⟩ := h keys ks pos h1 h2 hb
  have hall : keys.all (·.isSome) = true := by
    refine List.all_eq_true.mpr fun k hk => ?_
    obtain ⟨i, hi, rfl⟩ := List.getElem_of_mem hk
    have hi2 : i < ks.length := by omega
    obtain ⟨b, e, _⟩ := key_of (X := X) (List.all_eq_true.mp hb (keys[i], ks[i]) (by
      have : (keys.zip ks)[i]'(by rw [List.length_zip]; omega) = (keys[i], ks[i]) := List.getElem_zip
      rw [← this]
      exact List.getElem_mem _))
    have e : keys[i] = some b := e
    rw [e]
    rfl
  refine PE.imp (pe_disp p1 hall h2 h0 h15) fun σ H Q ⟨al, st, e, rel, rs, p⟩ q hq => ?_
  have sn := stp_new (o := HO.dK []) rel hq (rel.free hq)
  have rel1 : Rel g (alUp al st.length q) (st ++ [.dK []]) (upd H q (.dK [])) := rel_new rel hq (rel.free hq) ⟨[], upd_same, rfl⟩
  have rs1 := rs.step rel.notup sn
  have p := Post.shift sn p
  obtain ⟨al2, st2, e2, rel2, rs2, q2⟩ := TVs.then (ra := rr) (f := fun e xs st2 => dispA st.length ks xs st2) rel1 rs1 p
  refine p2 _ _ _ _ ⟨al2, st2, e2, rel2, rs2, q2⟩ fun ws H2 hl ⟨al3, as, st3, rel3, rs3, rv3, p3, s3⟩ => ?_
  have eq3 : al3 st.length = some q := s3.up _ _ (by unfold alUp; rw [if_pos rfl])
  unfold dispA at p3
  split at p3
  · rename_i g0
    obtain ⟨q', eq', hp⟩ := rel3.obj _ _ g0
    rw [eq3] at eq'
    cases eq'
    obtain ⟨ys, hy, ry⟩ := hp
    obtain rfl : ys = [] := ry
    split at p3
    · rename_i kk hk
      have ek := keys_of hk
      by_cases hc : kk.length = as.length ∧ kk ≠ [] ∧ kk.length ≤ 15
      · rw [if_pos hc] at p3
        refine ⟨hy, kk.zip ws, ?_, ?_, ?_⟩
        · rw [ek]
          have : ∀ (kk : List Key) (ws : List V), (kk.map kV).zip ws = (kk.zip ws).map fun kv => (kV kv.1, kv.2) := by
            intro kk
            induction kk with
            | nil => intro ws; rfl
            | cons k kk ih =>
              intro ws
              cases ws with
              | nil => rfl
              | cons w ws => rw [List.map_cons, List.zip_cons_cons, List.zip_cons_cons, List.map_cons, ih]
          exact this kk ws
        · rw [List.length_zip]
          omega
        · exact Post.chg p3 rel3 eq3 hy ⟨q, eq3, rfl⟩ ⟨_, upd_same, rp_zip (RVs.step rel3.notup (stp_set eq3 hy) _ _ rv3) rfl⟩
      · rw [if_neg hc] at p3
        exact p3.elim
    · exact p3.elim
  · exact p3.elim
theorem k_dn1 {b : Expr} {rb : Run1 AV} (hu : X.A.units + 10 < cLine) (ha : PE X a (TV g W ra)) (hb : PE X b (TV g W rb)) :
    PE X (.Dict [some a] [b] pos) (TV g W fun e st => (ra e (st ++ [.dN []])).bind fun k st1 => (rb e st1).bind fun v st2 => disp1 st.length k v st2) := by
  refine PE.imp (pe_dispN1 hu ha hb) fun σ H Q ⟨al, st, e, rel, rs, p⟩ q ob0 hq hob => ?_
  have sn := stp_new (o := NO ob0 q) rel hq (rel.free hq)
  have rel1 : Rel g (alUp al st.length q) (st ++ [.dN []]) (upd H q (NO ob0 q)) := rel_new rel hq (rel.free hq) ⟨[], ⟨ob0, upd_same, hob⟩, rfl⟩
  have rs1 := rs.step rel.notup sn
  have p := Post.shift sn p
  refine TV.imp (TV.then (ra := ra) (f := fun e k st1 => (rb e st1).bind fun v st2 => disp1 st.length k v st2) rel1 rs1 p) fun x H1 ⟨al1, k, st1, rel2, rs2, rv2, p2, s2⟩ => ?_
  refine TV.imp (TV.then (ra := rb) (f := fun e v st2 => disp1 st.length k v st2) rel2 rs2 p2) fun y H2 ⟨al2, v, st2, rel3, rs3, rv3, p3, s3⟩ => ?_
  have eq3 : al2 st.length = some q := s3.up _ _ (s2.up _ _ (by unfold alUp; rw [if_pos rfl]))
  unfold disp1 at p3
  split at p3
  · rename_i g0
    obtain ⟨q', ws, ew, ea, hp, r⟩ := ref_dN (w := .ref q) rel3 ⟨q, eq3, rfl⟩ g0
    cases ew
    obtain rfl : ws = [] := r
    split at p3
    · rename_i kk hk
      obtain ⟨c, ex, hkc⟩ := keyN_is (RV.step rel2.notup s3 _ _ rv2) hk
      refine ⟨kk, c, ex, hkc, hp, fun ob hob2 => ?_⟩
      obtain ⟨ob1, hp0, _⟩ := hp
      exact Post.chg p3 rel3 eq3 hp0 ⟨q, eq3, rfl⟩ ⟨[(kk, y)], ⟨ob, upd_same, hob2⟩, ⟨y, [], rfl, RV.step rel3.notup (stp_set eq3 hp0 (fun _ _ z => nomatch (show HO.ext _ = HO.frz _ _ from z))) _ _ rv3, rfl⟩⟩ (fun _ _ z => nomatch (show HO.ext _ = HO.frz _ _ from z))
    · exact p3.elim
  · exact p3.elim
end
end L3

/-! SndJ: ranges asked, every second thing, sets of pairs and of texts. -/
namespace L3
theorem mem_firsts {α : Type} [DecidableEq α] {k : α} (l : List α) : k ∈ firsts l ↔ k ∈ l := by
  have gen : ∀ (l acc : List α), k ∈ l.foldl (fun acc x => if x ∈ acc then acc else acc ++ [x]) acc ↔ k ∈ acc ∨ k ∈ l := by
    intro l
    induction l with
    | nil => intro acc; simp
    | cons x l ih =>
      intro acc
      rw [List.foldl_cons, ih]
      by_cases h : x ∈ acc
      · rw [if_pos h]
        constructor
        · rintro (h1 | h1)
          · exact .inl h1
          · exact .inr (List.mem_cons_of_mem _ h1)
        · rintro (h1 | h1)
          · exact .inl h1
          · rcases List.mem_cons.mp h1 with rfl | h1
            · exact .inl h
            · exact .inr h1
      · rw [if_neg h, List.mem_append, List.mem_singleton, List.mem_cons, or_assoc]
  unfold firsts
  rw [gen]
  simp
theorem firsts_snoc {α : Type} [DecidableEq α] (l : List α) (x : α) : firsts (l ++ [x]) = if x ∈ l then firsts l else firsts l ++ [x] := by
  have e : firsts (l ++ [x]) = if x ∈ firsts l then firsts l else firsts l ++ [x] := by
    unfold firsts
    rw [List.foldl_append]
    rfl
  rw [e]
  by_cases h : x ∈ l
  · rw [if_pos h, if_pos ((mem_firsts l).mpr h)]
  · rw [if_neg h, if_neg fun z => h ((mem_firsts l).mp z)]
theorem firsts_nd {α : Type} [DecidableEq α] (l : List α) : (firsts l).Nodup := by
  have gen : ∀ (l acc : List α), acc.Nodup → (l.foldl (fun acc x => if x ∈ acc then acc else acc ++ [x]) acc).Nodup := by
    intro l
    induction l with
    | nil => intro acc h; exact h
    | cons x l ih =>
      intro acc h
      rw [List.foldl_cons]
      refine ih _ ?_
      by_cases hx : x ∈ acc
      · rw [if_pos hx]; exact h
      · rw [if_neg hx]
        refine List.nodup_append.mpr ⟨h, by simp, fun y hy z hz => ?_⟩
        rw [List.mem_singleton.mp hz]
        intro e
        exact hx (e ▸ hy)
  exact gen l [] List.nodup_nil
theorem firsts_le {α : Type} [DecidableEq α] (l : List α) : (firsts l).length ≤ l.length :=
  nd_len _ _ (firsts_nd l) fun k hk => (mem_firsts l).mp hk
theorem firsts_len {α : Type} [DecidableEq α] {l m : List α} (nd : m.Nodup) (h : ∀ k, k ∈ m ↔ k ∈ l) : m.length = (firsts l).length :=
  ((List.perm_ext_iff_of_nodup nd (firsts_nd l)).mpr fun k => by rw [h, mem_firsts]).length_eq
end L3
namespace L2
open PySem PySem.Spec PyProof.Rows
section
variable {P : Program} {w : World} {A : Around} {E : Value → Shared → Prop} {s : Shared}
def SetSx (P : Program) (w : World) (h : Heap) (a : Addr) (zs : List Str) : Prop := h.SetOf (PySem.strKind P w) a (fun k => decide (k ∈ zs)) (L3.firsts zs).length
theorem SetSx.at {h h' : Heap} {a : Addr} {zs : List Str} (R : SetSx P w h a zs) (k : ∀ o, h.get? a = some o → h'.get? a = some o) : SetSx P w h' a zs := by
  obtain ⟨o, es, ep, t, ho, r⟩ := R
  exact ⟨o, es, ep, t, k o ho, r⟩
theorem setSx_new {h : Heap} {a : Addr} (ho : h.get? a = some { cls := .type "set", dict := none, data := .set #[] 0 (.fresh 0 0 (!w.params.followText "set-order")) }) : SetSx P w h a [] :=
  ⟨_, #[], 0, _, ho, ⟨rfl, rfl, rfl⟩, rfl, (fun e he => by simp at he), (fun k => by simp), (by decide), (by rfl), rfl⟩
theorem set_update_strs {I : Addr} {fp wr : List Addr} {G : Array GenState → Array GenState → Prop} {n : Nat} {Pv : Nat → Value → Prop} {St : Nat → Shared → Prop} {R : Result → Shared → Prop}
    (W : WalksS P w A.in1 I fp wr G n Pv St) (S : Addr) (hSf : S ∉ fp) (ns : List Str) (hn : n = ns.length) (hb : ns.length + 1 < scanBound) (hval : ∀ i v, Pv i v → ∃ k t, ns[i]? = some k ∧ v = .str k t) :
    ∀ (k i : Nat) (s : Shared), n - i = k → i ≤ n → St i s → SetSx P w s.heap S (ns.take i) →
      (∀ s', Moved (S :: wr) G s s' → SetSx P w s'.heap S ns → R (.ok (.ret .none)) s') →
      codeAny (model P w) A (.builtin "set.update.loop" ⟨[.ref S, .ref I], []⟩) R s := by
  have hSw : S ∉ wr := fun h => hSf (W.sub _ h)
  have hsub : ∀ b ∈ wr, b ∈ S :: wr := fun b hb => List.mem_cons_of_mem _ hb
  intro k
  induction k with
  | zero =>
    intro i s hk' hi hst hS hR
    have hin : i = n := by omega
    subst hin
    refine codeAny_builtin F.entry_set_update_loop ?_
    rw [Around.under_plainId F.plain_set_update_loop _]
    show wpAny _ A.in1 (pyNext (.ref I) >>= _) _ _ s
    refine wpAny_bind (W.done s _ _ hst fun s' hm => ?_)
    show wpAny _ A.in1 (ret Value.none) _ _ s'
    have e : ns.take i = ns := List.take_of_length_le (by omega)
    rw [e] at hS
    exact wpAny_pure (hR s' (hm.mono hsub) (hS.at fun o e => hm.heap S o hSw e))
  | succ k ih =>
    intro i s hk' hi hst hS hR
    have hlt : i < n := by omega
    refine codeAny_builtin F.entry_set_update_loop ?_
    rw [Around.under_plainId F.plain_set_update_loop _]
    show wpAny _ A.in1 (pyNext (.ref I) >>= _) _ _ s
    refine wpAny_bind (W.item i s _ _ hlt hst fun v s' hP hst' hm => ?_)
    obtain ⟨z, t, hz, rfl⟩ := hval i v hP
    have hS' : SetSx P w s'.heap S (ns.take i) := hS.at fun o e => hm.heap S o hSw e
    show wpAny _ A.in1 (holding [Value.str z t] (setAdd S (.str z t)) >>= _) _ _ s'
    refine wpAny_bind (wpAny_holding ?_)
    unfold setAdd
    refine wpAny_holding ?_
    refine wpAny_bind ((PySem.strKind P w).pyHash (k := z) (strKind_is _ _ _ _) ?_)
    have hle : (L3.firsts (ns.take i)).length ≤ i := Nat.le_trans (L3.firsts_le _) (by rw [List.length_take]; omega)
    refine wpAny_setAddHashed_of (knd := PySem.strKind P w) (s := { s' with toks := s'.toks + 1 }) (strKind_is _ _ _ _) rfl hS' (by omega) fun h' hsb hS2 => ?_
    have hS3 : SetSx P w h' S (ns.take (i + 1)) := by
      have e1 : ns.take (i + 1) = ns.take i ++ [z] := by rw [List.take_add_one, hz]; rfl
      unfold SetSx
      rw [e1, L3.firsts_snoc]
      have e2 : (fun k => decide (k ∈ ns.take i ++ [z])) = fun k' => decide (k' ∈ ns.take i) || decide (k' = z) := by
        funext k'
        rw [Bool.eq_iff_iff]
        simp
      rw [e2]
      by_cases hm2 : z ∈ ns.take i
      · rw [if_pos hm2]
        rw [decide_eq_true hm2] at hS2
        exact hS2
      · rw [if_neg hm2, List.length_append]
        rw [decide_eq_false hm2] at hS2
        exact hS2
    refine wpAny_pure ⟨plainId_quiet F.plain_set_update_loop _, ih (i + 1) _ (by omega) hlt (W.frame _ s' _ _ hst' (Nat.le_succ _) fun b hb o e => ?_) hS3 fun s'' hm'' hS'' => ?_⟩
    · rw [hsb.2 b (fun h : b = S => hSf (by rw [← h]; exact hb))]; exact e
    · refine hR s'' (Moved.trans W.gtrans ((hm.mono hsub).then_heap (Nat.le_succ _) fun b o hb e => ?_) hm'') hS''
      rw [hsb.2 b (fun h : b = S => hb (by rw [h]; exact List.mem_cons_self))]; exact e
set_option maxRecDepth 100000 in
set_option maxHeartbeats 3200000 in
theorem call_set_lstS {l : Addr} {items : Array Value} (ns : List Str) {Q : Value → Shared → Prop} (hh : A.handled = none) (hl : s.heap.IsList l items) (hisz : items.size = ns.length) (hval : ∀ (i : Nat) (v : Value), items[i]? = some v → ∃ k t, ns[i]? = some k ∧ v = .str k t) (hb : ns.length + 1 < scanBound)
    (h : ∀ (h' : Heap) (tk : Nat), SetSx P w h' s.heap.objs.size ns → (∀ b o, s.heap.get? b = some o → h'.get? b = some o) → Q (.ref s.heap.objs.size) { s with heap := h', toks := tk }) :
    wpAny (model P w) A (call (.type "set") [.ref l]) Q E s := by
  obtain ⟨c, tl, hmro⟩ := F.called_set.mro
  have hmade := F.called_set.made
  have hsub := F.called_set.sub
  refine wpAny_call (codeAny_of_tree ?_)
  show wpAny _ _ (callAny (.type "set") _) _ _ _
  refine wpAny_pure ⟨Code.quiet_builtin _ (by decide +kernel), codeAny_builtin F.entry_type_call ?_⟩
  rw [Around.under_plain (weight_type_call_type "set" [.ref l] []) rfl]
  have h1 := F.called_set.notType
  have h2 := F.called_set.canCreate
  have hct := F.typeCall_set_1 (.ref l)
  repeat (any_goals (first | assumption | wp_step))

  refine codeAny_mono (code_set_led1 (.ref l) (E := E) (Q₁ := fun obj s₁ => obj = .ref s.heap.objs.size ∧ s₁ = { s with heap := s.heap.push { cls := .type "set", dict := none, data := .set #[] 0 (.fresh 0 0 (!w.params.followText "set-order")) } }) ⟨rfl, rfl⟩) fun r s₁ hr => ?_
  cases r with
  | error e => exact hr
  | ok fl =>
    cases fl with
    | ret obj =>
      obtain ⟨rfl, rfl⟩ := hr
      have hS : (s.heap.push { cls := .type "set", dict := none, data := .set #[] 0 (.fresh 0 0 (!w.params.followText "set-order")) }).get? s.heap.objs.size = some { cls := .type "set", dict := none, data := .set #[] 0 (.fresh 0 0 (!w.params.followText "set-order")) } := Heap.get?_push_size _ rfl
      have hT : Shared.TypeIs { s with heap := s.heap.push { cls := .type "set", dict := none, data := .set #[] 0 (.fresh 0 0 (!w.params.followText "set-order")) } } (.ref s.heap.objs.size) "set" := ⟨_, hS, rfl⟩
      have hli := F.called_set.init.lookup
      have hbi := F.called_set.init.bind (.ref s.heap.objs.size)
      repeat (any_goals (first | assumption | wp_step))

      refine codeAny_mono (codeAny_call_builtin (R := wants (fun r s₂ => r = .none ∧ ∃ h' tk, s₂ = { s with heap := h', toks := tk } ∧ SetSx P w h' s.heap.objs.size ns ∧
          (∀ b o, s.heap.get? b = some o → h'.get? b = some o)) E) F.called_set.init.plain F.entry_set_init (check_set_init_1 hT ?_)) fun r₂ s₂ hr₂ => ?_
      · obtain ⟨ol, hol, hcl, nl, hdl⟩ := hl
        obtain ⟨ocls, odict, odata, oslots⟩ := ol
        simp only at hcl hdl
        subst hcl; subst hdl
        have hol' : (s.heap.push { cls := .type "set", dict := none, data := .set #[] 0 (.fresh 0 0 (!w.params.followText "set-order")) }).get? l = some { cls := .type "list", dict := odict, data := .seq items nl, slots := oslots } := Heap.get?_push_of_some _ hol
        have hsls := F.sub_list_set
        have hslf := F.sub_list_frozenset
        have hne : (Value.type "list" == Value.type "dict") = false := by decide
        have hl1 : (s.heap.push { cls := .type "set", dict := none, data := .set #[] 0 (.fresh 0 0 (!w.params.followText "set-order")) }).IsList l items := ⟨_, hol', rfl, nl, rfl⟩
        unfold Builtin.«set.__init__» noKeywords Builtin.Frozenset.updateFrom
        generalize hPI : pyIter = PI
        wp_walk
        subst hPI

        refine wpAny_pyIter_list hl1 ?_
        refine wpAny_bind (wpAny_runValue ?_)
        have hlS : l < s.heap.objs.size := Heap.lt_size hol
        have hh3 : A.in1.in1.in1.handled = none := by simp [hh]
        have hneI : l ≠ (s.heap.push { cls := .type "set", dict := none, data := .set #[] 0 (.fresh 0 0 (!w.params.followText "set-order")) }).objs.size := by
          rw [Heap.size_push]; exact Nat.ne_of_lt (Nat.lt_succ_of_lt hlS)
        have hSf : s.heap.objs.size ∉ [(s.heap.push { cls := .type "set", dict := none, data := .set #[] 0 (.fresh 0 0 (!w.params.followText "set-order")) }).objs.size, l] := by
          rw [Heap.size_push]; simp only [List.mem_cons, List.mem_singleton, List.not_mem_nil, or_false, not_or]
          exact ⟨Nat.ne_of_lt (Nat.lt_succ_self _), Nat.ne_of_gt hlS⟩
        refine set_update_strs ((Walks.list hh3 _ l hneI items).toS) s.heap.objs.size
          hSf ns hisz hb hval (items.size - 0) 0 _ (by omega) (Nat.zero_le _)
          ⟨⟨_, Heap.get?_push_size _ rfl, rfl, rfl⟩, (hl1.push _)⟩ ?hS0 ?hR
        case hS0 =>
          have hget : ((s.heap.push { cls := .type "set", dict := none, data := .set #[] 0 (.fresh 0 0 (!w.params.followText "set-order")) }).push { cls := .type "list_iterator", data := .fields #[.ref l, .int 0 0] }).get? s.heap.objs.size
              = some { cls := .type "set", dict := none, data := .set #[] 0 (.fresh 0 0 (!w.params.followText "set-order")) } := Heap.get?_push_of_some _ hS
          exact setSx_new hget
        case hR =>
          intro s' hm hS'
          obtain ⟨h', g2, d', tk', os'⟩ := s'
          have eg : g2 = s.gens := hm.gens
          have ed : d' = s.drawn := hm.drawn
          have eo : os' = s.os := hm.os
          subst eg; subst ed; subst eo
          show wpAny _ _ _ _ _ _
          refine wpAny_pure ?_
          show wpAny _ _ (ret Value.none) _ _ _
          refine wpAny_pure ⟨rfl, h', tk', rfl, hS', fun b o e => ?_⟩
          have hb0 : b < s.heap.objs.size := Heap.lt_size e
          have hb1 : b ≠ s.heap.objs.size := Nat.ne_of_lt hb0
          have hb2 : b ≠ (s.heap.push { cls := .type "set", dict := none, data := .set #[] 0 (.fresh 0 0 (!w.params.followText "set-order")) }).objs.size := by
            rw [Heap.size_push]; exact Nat.ne_of_lt (Nat.lt_succ_of_lt hb0)
          exact hm.heap b o (by simp only [List.mem_cons, List.mem_singleton, List.not_mem_nil, or_false, not_or]; exact ⟨hb1, hb2⟩) (Heap.get?_push_of_some _ (Heap.get?_push_of_some _ e))

      · cases r₂ with
        | error e => exact hr₂
        | ok fl₂ =>
          cases fl₂ with
          | ret r =>
            obtain ⟨rfl, h', tk, rfl, hS', hk'⟩ := hr₂
            repeat (any_goals (first | assumption | wp_step))
            exact h _ _ hS' hk'
          | _ => exact hr₂.elim
    | _ => exact hr.elim
end
end L2
namespace L3
open PySem PySem.Spec PyProof.Rows L2
theorem cr_range1 {X : Cx} : CallR X (.type "range") (fun vs H Q => ∃ j, vs = [V.int j] ∧ ∀ p, H p = none → Q (.ref p) (upd H p (.rng 0 j))) := by
  intro pins s σ H vs us Q I r h
  obtain ⟨j, rfl, q⟩ := h
  obtain ⟨u, rfl, ri⟩ := vals1 r
  obtain ⟨t, rfl⟩ := ri
  refine call_range_1 ⟨.ref s.heap.objs.size, upd H s.heap.objs.size (.rng 0 j), I.laid (t' := s.toks + 1 + 1) (fun b o e => Heap.get?_push_of_some _ e) (Nat.le_refl _) ?_, rfl, q _ (I.hok.fresh (Nat.le_refl _))⟩
  exact ⟨s.toks, t, s.toks + 1, Heap.get?_push_size _ rfl⟩
theorem PE.either {X : Cx} {e : Expr} {t t' : TE} (h : PE X e t) (h' : PE X e t') : PE X e fun σ H Q => t σ H Q ∨ t' σ H Q := ⟨fun pins s σ H Q I q => q.elim (fun q => h.run pins s σ H Q I q) fun q => h'.run pins s σ H Q I q⟩
section
variable {g : G} {X : Cx} {W : WX} {ra rb : Run1 AV} {a b : Expr} {pos : Pos} {al : Al} {H : Hp} {st : Sto}
theorem TV.thenD {C D : Type} {RC : Hp → Al → C → D → Prop} {f : Slots → AV → Sto → R C} {σ : L2.St} {e : Slots} {Q : D → Hp → Prop} {v0 : AV} {st0 : Sto} (r : Rel g al st H) (rs : RS g.K H al e σ)
    (h : Post g RC ((ra e st).bind (f e)) al H Q (wOf g W σ)) (e1 : ra e st = .ok v0 st0) :
    TV g W ra σ H fun x H1 => ∃ al1, Rel g al1 st0 H1 ∧ RS g.K H1 al1 e σ ∧ RV g.K H1 al1 v0 x ∧ Post g RC (f e v0 st0) al1 H1 Q (wOf g W σ) ∧ Stp al H al1 H1 := by
  refine ⟨al, st, e, r, rs, ?_⟩
  rw [e1] at h ⊢
  intro al' H' b s rel rv
  exact ⟨al', rel, rs.step r.notup s, rv, Post.shift s h, s⟩
theorem inrg_rd {σ : L2.St} {Q : VK} : TV g W (fun e st => (ra e st).bind fun x st => (rb e st).bind fun y st => inrA x y st) σ H Q → tOp (fun x y H Q => ∃ i a lo hi, x = V.int i ∧ y = V.ref a ∧ H a = some (.rng lo hi) ∧ Q (.bl (decide (lo ≤ i ∧ i < hi))) H) (TV g W ra) (tCB (fun vs H Q => ∃ j, vs = [V.int j] ∧ ∀ p, H p = none → Q (.ref p) (upd H p (.rng 0 j))) (tCons (TV g W rb) tNil)) σ H Q := fun ⟨al, st, e, rel, rs, p⟩ => by
  obtain ⟨al0, st0, e0, rel0, rs0, p0⟩ := TV.then (ra := ra) (f := fun e x st => (rb e st).bind fun y st => inrA x y st) rel rs p
  refine ⟨al0, st0, e0, rel0, rs0, Post.imp p0 fun x H1 ⟨al1, a1, st1, rel1, rs1, rv1, p1, s1⟩ => ?_⟩
  refine TV.imp (TV.then (ra := rb) (f := fun _ y st => inrA a1 y st) rel1 rs1 p1) fun y H2 ⟨al3, a3, st3, rel3, rs3, rv3, p3, s3⟩ => ?_
  cases a1 with
  | int i =>
    cases a3 with
    | int j =>
      obtain rfl : x = .int i := rv1
      obtain rfl : y = .int j := rv3
      have p3 : Post g (rvOf g) (if okInt j = true then .ok (.bl (decide (0 ≤ i ∧ i < j))) st3 else .no) al3 H2 Q (wOf g W σ) := p3
      by_cases hj : okInt j = true
      · rw [if_pos hj] at p3
        refine ⟨j, rfl, fun q hq => ⟨i, q, 0, j, rfl, rfl, upd_same, ?_⟩⟩
        exact p3 al3 _ _ (stp_free hq) (rel_free rel3 hq) rfl
      · rw [if_neg hj] at p3
        exact p3.elim
    | _ => exact p3.elim
  | _ => exact p3.elim
theorem k_inrg {x : Str} {p p2 : Pos} (hg : glb X.env.scope x = true) (hx : x = "range") (hm : X.mg "range" = none) (hs : noStar b = true) (ha : PE X a (TV g W ra)) (hb : PE X b (TV g W rb)) :
    PE X (.Compare a [.In] [.Call (.Name x p) [b] [] p2] pos) (TV g W fun e st => (ra e st).bind fun x st => (rb e st).bind fun y st => inrA x y st) := by
  subst hx
  obtain ⟨h1, h2, h3⟩ := glb_of hg
  exact PE.imp (pe_cmpR (op := .In) op_in_rng ha (pe_callTy cr_range1 h1 hm PyProof.Rows.boot_range (pa_cons hb pa_nil (star_of hs)) (by decide) (by decide) (star_of hs) rfl) rfl) fun σ H Q q => inrg_rd q
theorem k_inrgT {x : Str} {p p2 : Pos} (hg : glb X.env.scope x = true) (hx : x = "range") (hm : X.mg "range" = none) (hs : noStar b = true) (ha : PE X a (TV g W ra)) (hb : PE X b (TV g W rb)) :
    PT X (.Compare a [.In] [.Call (.Name x p) [b] [] p2] pos) (TTv g W fun e st => (ra e st).bind fun x st => (rb e st).bind fun y st => inrA x y st) := by
  subst hx
  obtain ⟨h1, h2, h3⟩ := glb_of hg
  refine PT.imp (pt_cmpR (op := .In) op_in_rng ha (pe_callTy cr_range1 h1 hm PyProof.Rows.boot_range (pa_cons hb pa_nil (star_of hs)) (by decide) (by decide) (star_of hs) rfl) rfl) fun σ H Q q => ?_
  obtain ⟨al, st, e, rel, rs, p⟩ := q
  exact inrg_rd ⟨al, st, e, rel, rs, tst_val p⟩
/-! ### every second thing -/
theorem RVs.pick {K : PySem.W.Frag} {v : List AV} {w : List V} (h : RVs K H al v w) : ∀ is : List Nat, RVs K H al (is.filterMap (v[·]?)) (is.filterMap (w[·]?))
  | [] => rfl
  | i :: is => by
    have hl := h.length
    by_cases hi : i < v.length
    · obtain ⟨w1, e1, r1⟩ := RVs.get h (List.getElem?_eq_getElem hi)
      rw [List.filterMap_cons, List.filterMap_cons, List.getElem?_eq_getElem hi, e1]
      exact ⟨_, _, rfl, r1, RVs.pick h is⟩
    · rw [List.filterMap_cons, List.filterMap_cons, List.getElem?_eq_none (by omega), List.getElem?_eq_none (by omega)]
      exact RVs.pick h is
theorem Vals.pick {v : List V} {w : List Value} (h : Vals v w) : ∀ is : List Nat, Vals (is.filterMap (v[·]?)) (is.filterMap (w[·]?))
  | [] => .nil
  | i :: is => by
    have hl := h.length
    by_cases hi : i < v.length
    · obtain ⟨w1, e1, r1⟩ := h.get (List.getElem?_eq_getElem hi)
      rw [List.filterMap_cons, List.filterMap_cons, List.getElem?_eq_getElem hi, e1]
      exact .cons r1 (Vals.pick h is)
    · rw [List.filterMap_cons, List.filterMap_cons, List.getElem?_eq_none (by omega), List.getElem?_eq_none (by omega)]
      exact Vals.pick h is
theorem stp_pick (k : Nat) (its : List Value) : slicePick its.toArray (some (k : Int)) none (some 2) = (stpL k its).toArray := by
  unfold slicePick stpL sliceBounds
  have e : (fun x : Nat => its.toArray[x]?) = fun x => its[x]? := by funext x; simp
  have hk : ¬ ((k : Int) < 0) := by omega
  simp only [Option.getD_some, List.size_toArray]
  rw [if_neg hk]
  simp only [show (2 : Int) > 0 by decide, if_true]
  congr 1
  congr 1
def tStp (K : PySem.W.Frag) (k : Nat) (te : TE) : TE := fun σ H Q => te σ H fun x H1 => ∃ a xs, x = .ref a ∧ SqL K H1 a xs ∧ ∀ p, H1 p = none → Q (.ref p) (upd H1 p (.lst (stpL k xs)))
theorem stpL_len {α : Type} (k : Nat) (xs : List α) : (stpL k xs).length ≤ xs.length := by
  unfold stpL
  refine Nat.le_trans (List.length_filterMap_le _ _) ?_
  exact sliceRange_length_le _ _ _ _ (fun _ => ⟨by omega, Int.le_refl _⟩) fun h => absurd (by decide) h
theorem pe_stp {e : Expr} {te : TE} {k j1 j2 : Nat} {p1 p2 p3 pos : Pos} (he : PE X e te) : PE X (.Subscript e (.Slice (some (.Constant (.int (k : Int)) j1 p1)) none (some (.Constant (.int 2) j2 p2)) p3) pos) (tStp X.K k te) := by
  refine ⟨fun pins s σ H Q I h => ?_⟩
  refine Subscript_ (thn (he.run pins s σ H _ I h) fun v s1 ⟨x, H1, I1, r1, q1⟩ => ?_)
  obtain ⟨a, xs, ex, hx, q⟩ := q1
  subst ex
  cases r1
  have hlo : PO X (some (.Constant (.int (k : Int)) j1 p1)) (tPart (tC (.int (k : Int)))) := po_some pe_int
  have hst : PO X (some (.Constant (.int 2) j2 p2)) (tPart (tC (.int 2))) := po_some pe_int
  refine wpAny_Slice (thn (hlo.run pins s1 σ H1 (fun o H2 => o = some (k : Int) ∧ H2 = H1) I1 ⟨(k : Int), rfl, rfl, rfl⟩) fun vl s2 ⟨l, H2, I2, pl, el, e2⟩ => ?_)
  subst el e2
  refine thn (po_none.run pins s2 σ H2 (fun o H3 => o = none ∧ H3 = H2) I2 ⟨rfl, rfl⟩) fun vu s3 ⟨u, H3, I3, pu, eu, e3⟩ => ?_
  subst eu e3
  refine thn (hst.run pins s3 σ H3 (fun o H4 => o = some 2 ∧ H4 = H3) I3 ⟨2, rfl, rfl, rfl⟩) fun vs s4 ⟨o, H4, I4, ps, eo, e4⟩ => ?_
  subst eo e4
  have I5 : Inv X pins σ H4 { s4 with heap := s4.heap.push { cls := .type "slice", data := .fields #[vl, vu, vs] } } := I4.kept (t' := s4.toks) fun b ob q => Heap.get?_push_of_some _ q
  obtain ⟨its, r, ht, hz⟩ := I5.list hx
  have hlen := r.length
  show wpAny (model X.prog X.w) X.A (subscriptTail e (.Slice (some (.Constant (.int (k : Int)) j1 p1)) none (some (.Constant (.int 2) j2 p2)) p3) (.ref a) (.ref s4.heap.objs.size)) (EP X pins σ Q) X.xe { s4 with heap := s4.heap.push { cls := .type "slice", data := .fields #[vl, vu, vs] } }
  refine tail_any (ops := [.ref a, .ref s4.heap.objs.size]) ht.isList.typeIs (PySem.slot_list_getitem.lookup) ?_ (by with_unfolding_all rfl)
  refine wpAny_getItem_list_slice ht.isList (Heap.IsSliceOf.new _ vl vu vs) pl pu ps (by decide) ?_ (by rw [List.size_toArray]; omega)
  rw [stp_pick]
  refine ⟨.ref _, _, I5.laid (t' := s4.toks) (o := .lst (stpL k xs)) (fun b ob q => Heap.get?_push_of_some _ q) (Nat.le_refl _) ?_, rfl, q _ (I5.hok.fresh (Nat.le_refl _))⟩
  refine ⟨Nat.le_trans (stpL_len k xs) hz, _, 0, ?_, Heap.get?_push_size _ rfl⟩
  unfold stpL
  rw [← hlen]
  exact Vals.pick r _
theorem k_stp {k j1 j2 : Nat} {p1 p2 p3 : Pos} (S : Same4 g X) (ha : PE X a (TV g W ra)) :
    PE X (.Subscript a (.Slice (some (.Constant (.int (k : Int)) j1 p1)) none (some (.Constant (.int 2) j2 p2)) p3) pos) (TV g W fun e st => (ra e st).bind fun v st => stpA k v st) := by
  refine PE.imp (pe_stp ha) fun σ H Q ⟨al, st, e, rel, rs, pp⟩ => ?_
  refine TV.imp (TV.then (ra := ra) (f := fun e v st => stpA k v st) rel rs pp) fun v H1 ⟨al1, av, st1, rel1, rs1, rv1, p1, s1⟩ => ?_
  unfold stpA at p1
  split at p1
  · rename_i ys q
    obtain ⟨p, ws, rfl, hq, rvs⟩ := lst_of rel1 rv1 q
    rw [← S.K] at hq
    refine ⟨p, ws, rfl, hq, fun D hD => p1.newL rel1 ?_ hD⟩
    unfold stpL
    rw [← rvs.length]
    exact RVs.pick rvs _
  · exact p1.elim
/-! ### sets of pairs -/
theorem pw_insQ {a : Int × Int} : ∀ {l : List (Int × Int)}, l.Pairwise pLt → (insQ a l).Pairwise pLt ∧ ∀ k, k ∈ insQ a l ↔ k = a ∨ k ∈ l
  | [], _ => by simp [insQ]
  | b :: l, h => by
    rw [List.pairwise_cons] at h
    unfold insQ
    split
    · rename_i hab
      refine ⟨List.pairwise_cons.mpr ⟨fun z hz => ?_, List.pairwise_cons.mpr h⟩, fun k => by simp⟩
      rcases List.mem_cons.mp hz with rfl | hz
      · exact hab
      · have := h.1 z hz
        unfold pLt at *
        omega
    · split
      · rename_i e
        subst e
        exact ⟨List.pairwise_cons.mpr h, fun k => by simp⟩
      · rename_i h1 h2
        obtain ⟨i1, i2⟩ := pw_insQ (a := a) h.2
        refine ⟨List.pairwise_cons.mpr ⟨fun z hz => ?_, i1⟩, fun k => ?_⟩
        · rcases (i2 z).mp hz with rfl | hz
          · obtain ⟨z1, z2⟩ := z
            obtain ⟨b1, b2⟩ := b
            unfold pLt at *
            dsimp only at *
            have : ¬ (z1 = b1 ∧ z2 = b2) := fun e => h2 (by rw [e.1, e.2])
            omega
          · exact h.1 z hz
        · rw [List.mem_cons, i2, List.mem_cons]
          constructor
          · rintro (h | h | h)
            · exact .inr (.inl h)
            · exact .inl h
            · exact .inr (.inr h)
          · rintro (h | h | h)
            · exact .inr (.inl h)
            · exact .inl h
            · exact .inr (.inr h)
theorem psort_ok : ∀ (l : List (Int × Int)), (psort l).Pairwise pLt ∧ ∀ k, k ∈ psort l ↔ k ∈ l
  | [] => ⟨List.Pairwise.nil, fun k => by simp [psort]⟩
  | b :: l => by
    obtain ⟨i1, i2⟩ := psort_ok l
    obtain ⟨j1, j2⟩ := pw_insQ (a := b) i1
    exact ⟨j1, fun k => by
      show k ∈ insQ b (psort l) ↔ _
      rw [j2, i2, List.mem_cons]⟩
theorem pLt_ne {a b : Int × Int} (h : pLt a b) : a ≠ b := fun e => by
  subst e
  unfold pLt at h
  omega
theorem psort_eq {xs ys : List (Int × Int)} (hx : xs.Pairwise pLt) (hy : ys.Pairwise pLt) (h : ∀ k, k ∈ xs ↔ k ∈ ys) : xs = ys := by
  have pm : xs.Perm ys := (List.perm_ext_iff_of_nodup (hx.imp pLt_ne) (hy.imp pLt_ne)).mpr h
  exact pm.eq_of_pairwise (fun a b _ _ h1 h2 => by unfold pLt at h1 h2; omega) hx hy
def prL (p : Int × Int) : List Int := [p.1, p.2]
theorem prL_inj {p q : Int × Int} (h : prL p = prL q) : p = q := by
  unfold prL at h
  injection h with h1 h2
  injection h2 with h2 _
  exact Prod.ext h1 h2
/-- a list of pairs and the model's tuples -/
theorem pairs_of : ∀ {xs : List AV} {ps : List (Int × Int)} {ws : List V}, RVs g.K H al xs ws → pairsA xs = some ps → ∃ as : List Addr, as.length = ps.length ∧ ws = as.map V.ref ∧ ∀ p ∈ as.zip ps, H p.1 = some (.tup [.int p.2.1, .int p.2.2])
  | [], ps, ws, h, e => by
    cases e
    exact ⟨[], rfl, h, fun p hp => by cases hp⟩
  | x :: xs, ps, ws, ⟨w, r, e1, h1, h2⟩, e => by
    subst e1
    unfold pairsA at e
    split at e
    · rename_i q; cases q
    · rename_i i j r' q
      cases q
      obtain ⟨ps', hp, rfl⟩ := Option.map_eq_some_iff.mp e
      obtain ⟨as, l1, l2, l3⟩ := pairs_of h2 hp
      obtain ⟨p, vs, rfl, hq, v1, v2, e3, r1, u1, u2, e4, r2, r3⟩ := h1
      cases r1
      cases r2
      cases r3
      subst e4
      subst e3
      refine ⟨p :: as, by simp [l1], by rw [l2]; rfl, fun z hz => ?_⟩
      rcases List.mem_cons.mp hz with rfl | hz
      · exact hq
      · exact l3 z hz
    · cases e
theorem zip_fst {α β : Type} : ∀ {as : List α} {bs : List β}, as.length = bs.length → (as.zip bs).map (·.1) = as ∧ (as.zip bs).map (·.2) = bs
  | [], [], _ => ⟨rfl, rfl⟩
  | [], _ :: _, h => by cases h
  | _ :: _, [], h => by cases h
  | a :: as, b :: bs, h => by
    obtain ⟨h1, h2⟩ := zip_fst (Nat.succ.inj h)
    exact ⟨by rw [List.zip_cons_cons, List.map_cons, h1], by rw [List.zip_cons_cons, List.map_cons, h2]⟩
def rLenT (K : PySem.W.Frag) (P : Program) (w : World) : List V → Hp → VK → Prop := fun vs H Q => ∃ (a : Addr) (L : List (Addr × List Int)), vs = [V.ref a] ∧ H a = some (SetTO P w a L) ∧ (∀ p ∈ L, SqT K H p.1 (p.2.map V.int)) ∧ ((L.map (·.2)).Nodup → Q (.int L.length) H)
theorem cr_lenT : CallR X (.builtin "len") (rLenT X.K X.prog X.w) := by
  intro pins s σ H vs us Q I r h
  obtain ⟨a, L, rfl, ha, hk, q⟩ := h
  have R0 : SetT0 X.prog X.w s.heap a L := (I.hok a _ ha).1
  obtain ⟨es, ep, t, R⟩ := R0.full fun p hp => I.isT (hk p hp)
  rw [Vals.ref1 r]
  obtain ⟨o, ho, hex, hd⟩ := R.ob
  have hs := R.size
  have hf := R.few
  refine call_len_set ho hex hd R.fits (by omega) ⟨.int L.length, H, I.tok _, ⟨_, by rw [hs]⟩, q R.nd⟩
theorem SqT.up {K : PySem.W.Frag} {H : Hp} {p q : Addr} {xs : List V} {o : HO} (h : H p = some (.tup xs)) (hq : H q = none) : SqT K (upd H q o) p xs := SqT.of (by rw [upd_ne (fun e => by rw [e, hq] at h; cases h)]; exact h)
/-- set(xs) of pairs: what comes of it -/
theorem setT_of {K : PySem.W.Frag} {P : Program} {w : World} {l : Addr} {as : List Addr} {ps : List (Int × Int)} {H : Hp} {Q : V → Hp → Prop} (hl : as.length = ps.length) (hq : SqL K H l (as.map V.ref)) (ht : ∀ p ∈ as.zip ps, H p.1 = some (.tup [.int p.2.1, .int p.2.2])) (h64 : ps.length < 64)
    (q : ∀ a L, H a = none → (∀ p ∈ L, ∃ y ∈ as.zip ps, y.1 = p.1 ∧ prL y.2 = p.2) → (∀ z ∈ ps, prL z ∈ L.map (·.2)) → (∀ p ∈ L, SqT K (upd H a (SetTO P w a L)) p.1 (p.2.map V.int)) → Q (.ref a) (upd H a (SetTO P w a L))) : rSetOfT K P w [.ref l] H Q := by
  obtain ⟨z1, z2⟩ := zip_fst hl
  refine ⟨l, (as.zip ps).map fun p => (p.1, prL p.2), rfl, ?_, fun p hp => ?_, by rw [List.length_map, List.length_zip]; omega, fun a L ha h1 h2 => q a L ha (fun p hp => ?_) (fun z hz => ?_) fun p hp => ?_⟩
  · rw [List.map_map]
    have e : ((fun p : Addr × List Int => V.ref p.1) ∘ fun p : Addr × (Int × Int) => (p.1, prL p.2)) = V.ref ∘ (·.1) := rfl
    rw [e, ← List.map_map, z1]
    exact hq
  · obtain ⟨y, hy, rfl⟩ := List.mem_map.mp hp
    exact SqT.of (ht y hy)
  · obtain ⟨y, hy, rfl⟩ := List.mem_map.mp (h1 p hp)
    exact ⟨y, hy, rfl, rfl⟩
  · rw [← z2] at hz
    obtain ⟨y, hy, rfl⟩ := List.mem_map.mp hz
    exact h2 (y.1, prL y.2) (List.mem_map.mpr ⟨y, hy, rfl⟩)
  · obtain ⟨y, hy, rfl⟩ := List.mem_map.mp (h1 p hp)
    exact SqT.up (ht y hy) ha
def tSlenS (K : PySem.W.Frag) (ta : TE) : TE := fun σ H Q => ta σ H fun x H1 => ∃ (l : Addr) (zs : List Str), x = V.ref l ∧ SqL K H1 l (zs.map V.str) ∧ zs.length ≤ 4000 ∧ Q (.int (firsts zs).length) H1
theorem strs_get : ∀ {zs : List Str} {us : List Value}, Vals (zs.map V.str) us → ∀ (i : Nat) (v : Value), us[i]? = some v → ∃ k t, zs[i]? = some k ∧ v = .str k t
  | [], _, .nil, i, v, h => by simp at h
  | z :: zs, _, .cons r t, 0, v, h => by
    obtain ⟨k, rfl⟩ := r
    have h : some _ = some v := h
    cases h
    exact ⟨z, k, rfl, rfl⟩
  | z :: zs, _, .cons r t, i + 1, v, h => strs_get t i v h
theorem pe_slenS {a : Expr} {ta : TE} {p p2 q pos : Pos} (hc : X.calm = true) (hg : Gl X "len") (hm : X.mg "len" = none) (hg2 : Gl X "set") (hm2 : X.mg "set" = none) (ha : PE X a ta)
    (na : starEach [a] X.env = (false, eval a X.env) :: starEach [] X.env := by rfl) : PE X (.Call (.Name "len" p) [.Call (.Name "set" p2) [a] [] q] [] pos) (tSlenS X.K ta) := by
  refine ⟨fun pins s σ H Q I h => ?_⟩
  refine Call_ (ld_blt I hg hm boot_len ?_)
  refine PyProof.Rows.callWith_builtin1 (PyProof.Rows.args_cons ?_ rfl) rfl rfl
  refine Call_ (ld_blt I hg2 hm2 boot_set ?_)
  refine PyProof.Rows.callWith_type1 (PyProof.Rows.args_cons (thn (ha.run pins s σ H _ I h) fun v s1 ⟨x, H1, I1, r1, q1⟩ => PyProof.Rows.args_nil ?_) na) na rfl
  obtain ⟨l, zs, rfl, hq, h1, q1⟩ := q1
  cases r1
  obtain ⟨its, r, pl, hz⟩ := I1.list hq
  have hl : its.toArray.size = zs.length := by rw [List.size_toArray, ← r.length, List.length_map]
  refine call_set_lstS zs (I1.ok.hd hc) pl.isList hl (fun i v hv => strs_get r i v (by simpa using hv)) (by unfold scanBound; omega) fun h' tk hS hk => ?_
  refine PyProof.Rows.args_nil ?_
  obtain ⟨o, es, ep, t, ho, hex, hd, _, _, _, hf, hn⟩ := hS
  have hle := firsts_le zs
  have I2 : Inv X pins σ H1 { s1 with heap := h', toks := tk } := I1.kept fun b o e => hk b o e
  exact call_len_set ho hex hd hf (by rw [hn]; omega) ⟨.int (firsts zs).length, H1, I2.tok _, ⟨_, by rw [hn]⟩, q1⟩
theorem strsA_of : ∀ {xs : List AV} {zs : List (List Nat)} {ws : List V}, RVs g.K H al xs ws → strsA xs = some zs → ws = zs.map fun z => V.str (T8 z)
  | [], zs, ws, h, e => by
    cases e
    exact h
  | x :: xs, zs, ws, ⟨w, r, e1, h1, h2⟩, e => by
    subst e1
    cases x with
    | str b =>
      obtain ⟨zs', hz, rfl⟩ := Option.map_eq_some_iff.mp (show (strsA xs).map (b :: ·) = some zs from e)
      obtain rfl := strsA_of h2 hz
      obtain rfl : w = .str (T8 b) := h1
      rfl
    | _ => cases e
theorem T8_inj {a b : List Nat} (h : T8 a = T8 b) : a = b := by
  injection h with h
  exact congrArg Array.toList h
theorem firsts_map {α β : Type} [DecidableEq α] [DecidableEq β] {f : α → β} (hf : ∀ a b, f a = f b → a = b) (l : List α) : (firsts (l.map f)).length = (firsts l).length := by
  have := firsts_len (l := l.map f) (m := (firsts l).map f) ((firsts_nd l).map f fun a b h z => h (hf _ _ z)) fun k => by
    rw [List.mem_map, List.mem_map]
    constructor
    · rintro ⟨x, hx, rfl⟩
      exact ⟨x, (mem_firsts l).mp hx, rfl⟩
    · rintro ⟨x, hx, rfl⟩
      exact ⟨x, (mem_firsts l).mpr hx, rfl⟩
  rw [← this, List.length_map]
theorem k_slen {p p2 pos2 : Pos} {x y : Str} (hc : X.calm = true) (hu : X.A.units + 65 < cLine) (hg : glb X.env.scope x = true) (hg2 : glb X.env.scope y = true) (hx : x = "len") (hy : y = "set") (hm : X.mg "len" = none) (hm2 : X.mg "set" = none) (hs : noStar a = true) (hK : X.K = g.K) (ha : PE X a (TV g W ra)) :
    PE X (.Call (.Name x p) [.Call (.Name y p2) [a] [] pos2] [] pos) (TV g W fun e st => (ra e st).bind fun x st => slenA x st) := by
  subst hx hy
  obtain ⟨h1, h2, h3⟩ := glb_of hg
  obtain ⟨h4, h5, h6⟩ := glb_of hg2
  have pT := pe_callB (p := p) (pos := pos) (cr_lenT (X := X)) h1 hm boot_len (pa_cons (pe_callTy (p := p2) (pos := pos2) (cr_setOfT hc (by omega)) h4 hm2 boot_set (pa_cons ha pa_nil (star_of hs)) (by decide) (by decide) (star_of hs) rfl) pa_nil rfl) (by decide) (by decide) rfl rfl
  refine PE.imp (PE.either (pe_slenS (p := p) (pos := pos) hc h1 hm h4 hm2 ha (star_of hs)) pT) fun σ H Q ⟨al, st, e, rel, rs, pp⟩ => ?_
  have pp : Post g (rvOf g) ((ra e st).bind fun x st => slenA x st) al H Q (wOf g W σ) := pp
  by_cases hd : ∃ v st1 xs ps, ra e st = .ok v st1 ∧ lstA st1 v = some xs ∧ pairsA xs = some ps
  · right
    obtain ⟨v0, st0, xs, ps, e1, e2, e3⟩ := hd
    refine TV.imp (TV.thenD (ra := ra) (f := fun e v st => slenA v st) rel rs pp e1) fun v H1 ⟨al1, rel1, rs1, rv1, p1, s1⟩ => ?_
    unfold slenA at p1
    rw [e2] at p1
    dsimp only at p1
    rw [e3] at p1
    dsimp only at p1
    obtain ⟨q, ws, rfl, hq, hr⟩ := lst_of rel1 rv1 e2
    obtain ⟨as, l1, rfl, l3⟩ := pairs_of hr e3
    by_cases hj : ps.length < 64
    · rw [if_pos hj] at p1
      dsimp only [tNil]
      refine setT_of l1 (hK ▸ hq) l3 hj fun a L ha' c0 c2 c3 => ?_
      have c1 : ∀ y ∈ L, ∃ z ∈ ps, y.2 = prL z := fun y hy => by
        obtain ⟨y0, hy0, _, e⟩ := c0 y hy
        exact ⟨y0.2, (List.of_mem_zip hy0).2, e.symm⟩
      refine ⟨a, L, rfl, upd_same, c3, fun nd => ?_⟩
      have e4 : L.length = (firsts ps).length := by
        have := firsts_len (l := ps.map prL) nd fun k => by
          constructor
          · intro hk
            obtain ⟨y, hy, rfl⟩ := List.mem_map.mp hk
            obtain ⟨z, hz, e⟩ := c1 y hy
            exact List.mem_map.mpr ⟨z, hz, e.symm⟩
          · intro hk
            obtain ⟨z, hz, rfl⟩ := List.mem_map.mp hk
            exact c2 z hz
        rw [List.length_map, firsts_map (fun a b => prL_inj)] at this
        exact this
      rw [e4]
      exact p1 al1 _ _ (stp_free ha') (rel_free rel1 ha') rfl
    · rw [if_neg hj] at p1
      exact p1.elim
  · left
    cases hra : ra e st with
    | ok v st1 =>
      refine TV.imp (TV.thenD (ra := ra) (f := fun e v st => slenA v st) rel rs pp hra) fun v' H1 ⟨al1, rel1, rs1, rv1, p1, s1⟩ => ?_
      unfold slenA at p1
      cases hl : lstA st1 v with
      | none => rw [hl] at p1; exact p1.elim
      | some xs =>
        rw [hl] at p1
        dsimp only at p1
        cases hp : pairsA xs with
        | some ps => exact absurd ⟨v, st1, xs, ps, hra, hl, hp⟩ hd
        | none =>
          rw [hp] at p1
          dsimp only at p1
          cases hz : strsA xs with
          | none => rw [hz] at p1; exact p1.elim
          | some zs =>
            rw [hz] at p1
            dsimp only at p1
            obtain ⟨q, ws, rfl, hq, hr⟩ := lst_of rel1 rv1 hl
            obtain rfl := strsA_of hr hz
            by_cases hj : zs.length ≤ 4000
            · rw [if_pos hj] at p1
              refine ⟨q, zs.map T8, rfl, by rw [List.map_map]; exact hK ▸ hq, by rw [List.length_map]; exact hj, ?_⟩
              rw [firsts_map fun a b => T8_inj]
              exact p1 al1 _ _ (Stp.refl _ _) rel1 rfl
            · rw [if_neg hj] at p1
              exact p1.elim
    | ex c st1 =>
      refine ⟨al, st, e, rel, rs, ?_⟩
      rw [hra] at pp ⊢
      exact pp
    | no =>
      rw [hra] at pp
      exact pp.elim
theorem k_sset {p p2 pos2 : Pos} {x y : Str} (hc : X.calm = true) (hu : X.A.units + 65 < cLine) (hg : glb X.env.scope x = true) (hg2 : glb X.env.scope y = true) (hx : x = "sorted") (hy : y = "set") (hm : X.mg "sorted" = none) (hm2 : X.mg "set" = none) (hs : noStar a = true) (hK : X.K = g.K) (ha : PE X a (TV g W ra)) :
    PE X (.Call (.Name x p) [.Call (.Name y p2) [a] [] pos2] [] pos) (TV g W fun e st => (ra e st).bind fun x st => ssetA x st) := by
  subst hx hy
  obtain ⟨h1, h2, h3⟩ := glb_of hg
  obtain ⟨h4, h5, h6⟩ := glb_of hg2
  have pT := pe_callB (p := p) (pos := pos) (cr_sortedT (X := X) hc) h1 hm PyProof.Rows.boot_sorted (pa_cons (pe_callTy (p := p2) (pos := pos2) (cr_setOfT hc (by omega)) h4 hm2 boot_set (pa_cons ha pa_nil (star_of hs)) (by decide) (by decide) (star_of hs) rfl) pa_nil rfl) (by decide) (by decide) rfl rfl
  refine PE.imp (PE.either (pe_sset (p := p) (pos := pos) hc h1 hm h4 hm2 ha (star_of hs)) pT) fun σ H Q ⟨al, st, e, rel, rs, pp⟩ => ?_
  have pp : Post g (rvOf g) ((ra e st).bind fun x st => ssetA x st) al H Q (wOf g W σ) := pp
  by_cases hd : ∃ v st1 xs ps, ra e st = .ok v st1 ∧ lstA st1 v = some xs ∧ intsA xs = none ∧ pairsA xs = some ps
  · right
    obtain ⟨v0, st0, xs, ps, e1, e2, e0, e3⟩ := hd
    refine TV.imp (TV.thenD (ra := ra) (f := fun e v st => ssetA v st) rel rs pp e1) fun v H1 ⟨al1, rel1, rs1, rv1, p1, s1⟩ => ?_
    unfold ssetA at p1
    rw [e2] at p1
    dsimp only at p1
    rw [e0] at p1
    dsimp only at p1
    rw [e3] at p1
    dsimp only at p1
    obtain ⟨q, ws, rfl, hq, hr⟩ := lst_of rel1 rv1 e2
    obtain ⟨as, l1, rfl, l3⟩ := pairs_of hr e3
    by_cases hj : ps.length < 64 ∧ ps.all pSmall = true
    · rw [if_pos hj] at p1
      dsimp only [tNil]
      refine setT_of l1 (hK ▸ hq) l3 hj.1 fun a L ha' c0 c2 c3 => ?_
      have c1 : ∀ y ∈ L, ∃ z ∈ ps, y.2 = prL z := fun y hy => by
        obtain ⟨y0, hy0, _, e⟩ := c0 y hy
        exact ⟨y0.2, (List.of_mem_zip hy0).2, e.symm⟩
      have sm : ∀ y ∈ L, ∃ z ∈ ps, y.2 = prL z ∧ 0 ≤ z.1 ∧ z.1 < 64 ∧ 0 ≤ z.2 ∧ z.2 < 64 := fun y hy => by
        obtain ⟨z, hz, e⟩ := c1 y hy
        exact ⟨z, hz, e, of_decide_eq_true (List.all_eq_true.mp hj.2 z hz)⟩
      refine ⟨a, L, 2, 64, rfl, upd_same, c3, by decide, fun y hy => ?_, fun L' p hL' nd few pw hp => ?_⟩
      · obtain ⟨z, hz, e, b1, b2, b3, b4⟩ := sm y hy
        rw [e]
        refine ⟨rfl, fun i hi => ?_⟩
        simp only [prL, List.mem_cons, List.not_mem_nil, or_false] at hi
        rcases hi with rfl | rfl <;> omega
      · -- the pairs, sorted
        obtain ⟨zs, ez, hzs⟩ : ∃ zs : List (Int × Int), L'.map (·.2) = zs.map prL ∧ ∀ z ∈ zs, z ∈ ps ∧ 0 ≤ z.1 ∧ z.1 < 64 ∧ 0 ≤ z.2 ∧ z.2 < 64 := by
          have : ∀ M : List (Addr × List Int), (∀ y ∈ M, y ∈ L) → ∃ zs : List (Int × Int), M.map (·.2) = zs.map prL ∧ ∀ z ∈ zs, z ∈ ps ∧ 0 ≤ z.1 ∧ z.1 < 64 ∧ 0 ≤ z.2 ∧ z.2 < 64 := by
            intro M
            induction M with
            | nil => intro _; exact ⟨[], rfl, fun z hz => by cases hz⟩
            | cons y M ih =>
              intro hM
              obtain ⟨zs, e1, e2⟩ := ih fun y hy => hM y (List.mem_cons_of_mem _ hy)
              obtain ⟨z, hz, e, b⟩ := sm y (hM y (by simp))
              refine ⟨z :: zs, by rw [List.map_cons, e1, e, List.map_cons], fun z' hz' => ?_⟩
              rcases List.mem_cons.mp hz' with rfl | hz'
              · exact ⟨hz, b⟩
              · exact e2 z' hz'
          exact this L' fun y hy => hL'.mem_iff.mp hy
        have pw2 : zs.Pairwise pLt := by
          have n2 : (zs.map prL).Nodup := by rw [← ez]; exact nd
          have w2 : (zs.map prL).Pairwise fun x y => TS.code 64 x ≤ TS.code 64 y := by
            rw [← ez]
            exact List.pairwise_map.mpr pw
          have both := (List.pairwise_map.mp w2).and (List.pairwise_map.mp n2)
          refine List.Pairwise.imp_of_mem (fun {x y} hx hy h => ?_) both
          have bx := (hzs x hx).2
          have byy := (hzs y hy).2
          exact pair_lt h.1 h.2 ⟨bx.1, bx.2.1⟩ ⟨bx.2.2.1, bx.2.2.2⟩ ⟨byy.1, byy.2.1⟩ ⟨byy.2.2.1, byy.2.2.2⟩
        obtain ⟨q1, q2⟩ := psort_ok ps
        have eS : zs = psort ps := psort_eq pw2 q1 fun k => by
          rw [q2]
          constructor
          · exact fun hk => (hzs k hk).1
          · intro hk
            have := c2 k hk
            have : prL k ∈ L'.map (·.2) := (hL'.map (·.2)).mem_iff.mpr this
            rw [ez] at this
            obtain ⟨z, hz, e⟩ := List.mem_map.mp this
            rw [← prL_inj e]
            exact hz
        have rv : RVs g.K (upd H1 a (SetTO X.prog X.w a L)) al1 ((psort ps).map pairV) (L'.map fun y => V.ref y.1) := by
          rw [← eS]
          have : ∀ (M : List (Addr × List Int)) (zs : List (Int × Int)), (∀ y ∈ M, y ∈ L) → M.map (·.2) = zs.map prL → RVs g.K (upd H1 a (SetTO X.prog X.w a L)) al1 (zs.map pairV) (M.map fun y => V.ref y.1) := by
            intro M
            induction M with
            | nil =>
              intro zs _ e
              have e : [] = zs.map prL := e
              have : zs = [] := List.map_eq_nil_iff.mp e.symm
              subst this
              rfl
            | cons y M ih =>
              intro zs hM e
              cases zs with
              | nil => cases e
              | cons z zs =>
                rw [List.map_cons, List.map_cons] at e
                injection e with e1 e2
                refine ⟨_, _, rfl, ?_, ih zs (fun y hy => hM y (List.mem_cons_of_mem _ hy)) e2⟩
                refine ⟨y.1, [.int z.1, .int z.2], rfl, ?_, ⟨_, _, rfl, rfl, _, _, rfl, rfl, rfl⟩⟩
                obtain ⟨y0, hy0, ey0⟩ := c0 y (hM y (by simp))
                have hH : H1 y.1 = some (.tup [.int z.1, .int z.2]) := by
                  have := l3 y0 hy0
                  obtain ⟨f1, f2⟩ := ey0
                  rw [f1] at this
                  rw [this]
                  have : prL y0.2 = prL z := by rw [f2, e1]
                  rw [prL_inj this]
                rw [upd_ne (fun e => by rw [e, ha'] at hH; cases hH)]
                exact hH
          exact this L' zs (fun y hy => hL'.mem_iff.mp hy) ez
        have p2 : Post g (rvOf g) (alloc (.lst ((psort ps).map pairV)) st0) al1 (upd H1 a (SetTO X.prog X.w a L)) Q (wOf g W σ) := Post.shift (stp_free ha') p1
        exact p2.newL (rel_free rel1 ha') rv hp
    · rw [if_neg hj] at p1
      exact p1.elim
  · left
    cases hra : ra e st with
    | ok v st1 =>
      refine TV.imp (TV.thenD (ra := ra) (f := fun e v st => ssetA v st) rel rs pp hra) fun v' H1 ⟨al1, rel1, rs1, rv1, p1, s1⟩ => ?_
      unfold ssetA at p1
      cases hl : lstA st1 v with
      | none => rw [hl] at p1; exact p1.elim
      | some xs =>
        rw [hl] at p1
        dsimp only at p1
        cases hi : intsA xs with
        | none =>
          rw [hi] at p1
          dsimp only at p1
          cases hp : pairsA xs with
          | some ps => exact absurd ⟨v, st1, xs, ps, hra, hl, hi, hp⟩ hd
          | none => rw [hp] at p1; exact p1.elim
        | some is =>
          rw [hi] at p1
          dsimp only at p1
          obtain ⟨q, ws, rfl, hq, hr⟩ := lst_of rel1 rv1 hl
          obtain rfl := ints_of hr hi
          by_cases hj : (ssort is).length < 64 ∧ is.length ≤ 4000
          · rw [if_pos hj] at p1
            exact ⟨q, is, rfl, hK ▸ hq, hj.1, hj.2, fun z hz => Post.newL p1 rel1 RVs.ints hz⟩
          · rw [if_neg hj] at p1
            exact p1.elim
    | ex c st1 =>
      refine ⟨al, st, e, rel, rs, ?_⟩
      rw [hra] at pp ⊢
      exact pp
    | no =>
      rw [hra] at pp
      exact pp.elim
end
end L3

/-! SndX: errors that are caught and kept. -/
namespace L3
open PySem PySem.Spec PyProof.Rows L2

section
variable {X : Cx} {pins : List (Addr × Obj)} {σ : L2.St} {H : Hp} {s : Shared} {a : Addr} {cls : Value} {oe : Obj} {vs : Array Value}
/-- what flew and was caught is an object like others from now on -/
theorem tracked (I : Inv X pins σ H s) (na : H a = none) (ga : s.heap.get? a = some oe) (zc : Zc cls none oe) (fd : oe.data = .fields vs) (nw : X.s_0.heap.get? a = none) (nL : a ≠ X.env.locals) (nP : ∀ p ∈ X.pn ++ pins, p.1 ≠ a) : Inv X pins σ (upd H a (ExK cls a)) s := by
  have other : ∀ {b : Addr} {o : Obj}, X.s_0.heap.get? b = some o → b ≠ a := fun {b o} e z => by
    rw [z, nw] at e
    cases e
  have kept : ∀ {b : Addr} {o : HO}, H b = some o → upd H a (ExK cls a) b = some o := fun {b o} e => by
    rw [upd_ne (fun z => by rw [z, na] at e; cases e)]
    exact e
  have hn : HOk X.prog X.w (upd H a (ExK cls a)) s.heap := I.hok.laidN (fun _ _ z => z) na ⟨⟨oe, vs, ga, zc, fd⟩, ⟨oe, ga⟩, fun _ _ ⟨o, v, q, r⟩ k => ⟨o, v, k o q, r⟩⟩
  refine { ok := I.ok, os := I.os, bare := I.bare, base := ?_, loc := I.loc, cell := I.cell, free := ?_, freeC := fun x c e => ?_, pin := fun p hp => ?_, hok := hn, len := I.len }
  · exact { keep := I.base.keep, slot := I.base.slot, free := fun b o q n hx => by rw [upd_ne (other q)]; exact I.base.free b o q n hx, there := I.base.there, tups := fun b xs q => kept (I.base.tups b xs q), frzs := fun b o u q => kept (I.base.frzs b o u q), tbls := fun b ps q => let ⟨m, e⟩ := I.base.tbls b ps q; ⟨m, kept e⟩ }
  · rw [upd_ne (Ne.symm nL)]
    exact I.free
  · have ne : c ≠ a := fun z => by
      subst z
      obtain ⟨v, w⟩ := I.cell x c e
      obtain ⟨o, e1, e2⟩ := w
      rw [ga] at e1
      cases e1
      rw [fd] at e2
      cases e2
    rw [upd_ne ne]
    exact I.freeC x c e
  · obtain ⟨e1, e2, e3⟩ := I.pin p hp
    exact ⟨e1, by rw [upd_ne (nP p hp)]; exact e2, e3⟩
/-- into the hand of an except clause, and out of it -/
theorem inHand (I : Inv X pins σ H s) (b : Addr) : Inv (X.suite b (X.pn ++ pins)) [] σ H s :=
  { ok := I.ok.suite _ _, os := I.os, bare := I.bare, base := I.base, loc := I.loc, cell := I.cell, free := I.free, freeC := I.freeC, pin := fun p hp => I.pin p (by rw [List.append_nil] at hp; exact hp), hok := I.hok, len := I.len }
theorem outHand {b : Addr} {pn : List (Addr × Obj)} (I : Inv (X.suite b (X.pn ++ pins)) pn σ H s) (ok : X.Ok) : Inv X pins σ H s :=
  { ok := ok, os := I.os, bare := I.bare, base := I.base, loc := I.loc, cell := I.cell, free := I.free, freeC := I.freeC, pin := fun p hp => I.pin p (List.mem_append_left _ hp), hok := I.hok, len := I.len }
end
/-- what 'except c as n' (slot i) makes of an error: it is kept -/
def wKeep (K : PySem.W.Frag) (c : Value) (i : Nat) (ts : Addr → TS) (D : Ends) : WX := fun cls d σ H => d = none ∧ PySem.W.exmOne K cls c = some true ∧
  ∀ a, H a = none → ts a { nx := fun σ' H' => D.nx (σ'.set i none) H', rt := D.rt, bk := fun σ' H' => D.bk (σ'.set i none) H', ct := fun σ' H' => D.ct (σ'.set i none) H' } (σ.set i (some (.ref a))) (upd H a (ExK cls a))
section
variable {X : Cx} {x n : Str} {c : Value} {i : Nat} {body su : List Stmt} {b1 : Stmt} {q1 q2 q3 : Pos} {tb : WX → TS} {ts : Addr → TS}
theorem ps_try_keep (fs : X.stack = X.env :: X.outer) (fr : X.env.frame = some X.env.locals) (ex0 : X.ex = []) (nd : X.N.Nodup) (ni : X.N[i]? = some n) (lo : X.env.kindOf n = some .local) (nm : Names X x c)
    (hb : ∀ (W : WX) (pn : List (Addr × Obj)) (xe : Value → Shared → Prop), Takes (X.tr pn xe) W → PassesOwn (model X.prog X.w) X.A X.env xe → PSs (X.tr pn xe) body (tb W))
    (hs : ∀ (a : Addr) (pn : List (Addr × Obj)), PSs (X.suite a pn) (b1 :: su) (ts a)) :
    PS X (.Try body [.ExceptHandler (some (.Name x q1)) (some n) (b1 :: su) q2] [] [] q3) (fun D σ H => tb (wKeep X.K c i ts D) D σ H) := by
  constructor
  intro pins s σ H D I hyp
  have good := I.ok
  have frames : X.A.frames = some (X.env :: X.outer) := by rw [good.frames, fs]
  apply wpAny_Try_except
  let back : Value → Shared → Prop := fun e t1 => wpAny (model X.prog X.w) X.A (noteFrame e X.env)
    (fun _ t2 => wpAny (model X.prog X.w) X.A (setFlight e none)
      (fun _ t3 => wpAny (model X.prog X.w) X.A (handleBy e X.env [.ExceptHandler (some (.Name x q1)) (some n) (b1 :: su) q2]) (SP X pins D) X.xe t3) X.xe t2) X.xe t1
  have took : Takes (X.tr (X.pn ++ pins) back) (wKeep X.K c i ts D) := by
    rintro u s' ⟨a, B, sI, pins', σ', H', cls, d, rfl, J', nb, up, sky, na, os, ag, rfl, hit, go⟩
    have J : Inv X pins σ' H' sI := J'.ofTry good
    have sky' : Sky B (X.env :: X.outer) a (Zc cls none) X.env.locals s'.heap := fs ▸ sky
    refine Sky.land Zc.steady frames fr sky' fun h3 air up3 => ?_
    have J3 : Inv X pins σ' H' { s' with heap := h3 } := J.landed nb air.1 (up.trans up3) os ag
    have clear_of : ∀ {h : Heap} {o : Obj} {vs : Array Value}, h.FunFrames B (X.env :: X.outer) → h.get? a = some o → o.data = .fields vs → a ∉ frs (X.env :: X.outer) := by
      intro h o vs ff ge de hm
      obtain ⟨_, o', ge', bad⟩ := ff.mem hm
      rw [ge] at ge'
      cases ge'
      exact bad _ de
    obtain ⟨o3, v3, g3, z3, f3⟩ := air.there
    have away := clear_of air.2.2.1 g3 f3
    have nL : a ≠ X.env.locals := by
      intro z
      refine away (List.mem_filterMap.mpr ⟨X.env, List.mem_cons_self, ?_⟩)
      rw [fr, z]
    have notB : B.get? a = none := air.2.1
    have notI : sI.heap.get? a = none := by
      cases e : sI.heap.get? a with
      | none => rfl
      | some o =>
        have := nb a o e (by rw [fs]; exact away)
        rw [notB] at this
        cases this
    have not0 : X.s_0.heap.get? a = none := by
      cases e : X.s_0.heap.get? a with
      | none => rfl
      | some o =>
        obtain ⟨o', e'⟩ := J.base.there a o e (by rw [ex0]; exact List.not_mem_nil)
        rw [notI] at e'
        cases e'
    have notP : ∀ p ∈ X.pn ++ pins, p.1 ≠ a := by
      intro p hp z
      have := (J.pin p hp).1
      rw [z, notI] at this
      cases this
    have T3 := tracked J3 na g3 z3 f3 not0 nL notP
    have S3 := inHand T3 a
    refine wpAny_handleBy_cons (codeAny_handlers_test ?_) (by intro q; cases q)
    have kind : PySem.W.Looks (model X.prog X.w) h3 (typeOf (.ref a)) cls := fun A Q E t k q => wpAny_typeOf_ref (k _ _ g3) (by rw [z3.1]; exact q)
    have meets := PySem.W.exm_one (M := model X.prog X.w) J3.kIn kind hit
    have named : ∀ {Q : Value → Shared → Prop} {E : Value → Shared → Prop}, Q c { s' with heap := h3 } → wpAny (model X.prog X.w) (X.A.mark (some (.ref a))) (eval (.Name x q1) X.env) Q E { s' with heap := h3 } := by
      intro Q E q
      obtain ⟨hg, hd, hm | ⟨hm, hv, hnn⟩⟩ := nm
      · exact ld_glob (X := X.suite a (X.pn ++ pins)) S3 hg hm q hd
      · exact ld_blt (X := X.suite a (X.pn ++ pins)) S3 hg hm hv q hnn hd
    refine named (meets.here (codeAny_handlers_suite_as ?_))
    refine HandSPX.lands_againZ air fun h4 air4 up4 => ?_
    obtain ⟨o4, v4, g4, z4, f4⟩ := air4.there
    have J4 : Inv X pins σ' H' { s' with heap := h4 } := J.landed nb air4.1 ((up.trans up3).trans up4) os ag
    have S4 := inHand (tracked J4 na g4 z4 f4 not0 nL notP) a
    refine store_ok (X := X.suite a (X.pn ++ pins)) (v := .ref a) S4 nd ni (.inl lo) rfl (fun s5 S5 => ?_) (.inr lo)
    refine wpAny_mono ((hs a (X.pn ++ pins)).run [] s5 _ _ _ S5 (go a na)) (fun f s6 out => ?_) (fun _ _ z => False.elim z)
    have leave : ∀ {σ6 : L2.St} {H6 : Hp} {Q : Shared → Prop}, Inv (X.suite a (X.pn ++ pins)) [] σ6 H6 s6 → (∀ s7, Inv X pins (σ6.set i none) H6 s7 → Q s7) →
        wpAny (model X.prog X.w) X.A (do bindName X.env n .none; unbindBehindTheSuite X.env n q2) (fun _ s7 => Q s7) X.xe s6 := by
      intro σ6 H6 Q S6 k
      exact gone_ok (outHand S6 good) nd ni lo k
    cases f with
    | next => exact let ⟨_, _, S6, w6⟩ := out; leave S6 fun s7 J7 => ⟨_, _, J7, w6⟩
    | brk => exact let ⟨_, _, S6, w6⟩ := out; leave S6 fun s7 J7 => ⟨_, _, J7, w6⟩
    | cont => exact let ⟨_, _, S6, w6⟩ := out; leave S6 fun s7 J7 => ⟨_, _, J7, w6⟩
    | ret u => exact let ⟨_, _, _, S6, r6, w6⟩ := out; leave S6 fun s7 J7 => ⟨_, _, _, J7, r6, w6⟩
  refine wpAny_mono ((hb (wKeep X.K c i ts D) (X.pn ++ pins) back took PassesOwn.looking).run [] s σ H D (I.toTry _) hyp) (fun f s1 out => ?_) (fun e s1 he => he)
  cases f with
  | next => exact let ⟨_, _, J, w⟩ := out; wpAny_execs_nil ⟨_, _, J.ofTry good, w⟩
  | brk => exact let ⟨_, _, J, w⟩ := out; ⟨_, _, J.ofTry good, w⟩
  | cont => exact let ⟨_, _, J, w⟩ := out; ⟨_, _, J.ofTry good, w⟩
  | ret u => exact let ⟨_, _, _, J, r, w⟩ := out; ⟨_, _, _, J.ofTry good, r, w⟩
/-- isinstance(e, c), e a kept error -/
theorem call_isK {X : Cx} : CallR X (.builtin "isinstance") (fun xs H Q => ∃ (a D : Addr) (c : V) (cv : Value) (b : Bool), xs = [.ref a, c] ∧ H a = some (ExK (.ref D) a) ∧ ExcC X.K D ∧ (∀ u, RelV c u → u = cv) ∧ PySem.W.kitOne X.K (.ref D) cv = some b ∧ Q (.bl b) H) := by
  intro pins s σ H xs us Q I r h
  obtain ⟨a, D, c, cv, b, rfl, ha, C, hcv, e, q⟩ := h
  obtain ⟨⟨oe, vs, ho, hz, hd⟩, _, _⟩ := I.hok a _ ha
  cases r with
  | cons rx rr =>
    cases rr with
    | cons rt rr =>
      cases rr
      cases rx
      obtain rfl := hcv _ rt
      have J : PySem.W.InstAt s.heap a oe D none := by
        obtain ⟨oc, od, oda, osl⟩ := oe
        obtain ⟨h1, h2⟩ := hz
        dsimp only at h1 h2 hd
        subst h1 h2 hd
        exact ⟨ho, rfl, rfl, trivial⟩
      exact PySem.W.kia_one (PySem.W.handS_kitx_exc C.hg C.hk C.hs C.hd C.ha C.hn C.ht C.hm) I.kIn J e (fun z => nomatch z) fun tk => ⟨.bl b, H, I.kept (t' := tk) fun _ _ z => z, rfl, q⟩
end
theorem kit_sub {K : PySem.W.Frag} {C D : Addr} {b : Bool} (i : PySem.W.isClsIn K D = true) (t : PySem.W.typeIn K (.ref D) = some (.type "type")) (s : PySem.W.subIn K (.ref C) (.ref D) = some b) (n : b = true ∨ C ≠ D) : PySem.W.kitOne K (.ref C) (.ref D) = some b := by
  unfold PySem.W.kitOne
  by_cases e : (Value.ref C == Value.ref D) = true
  · rw [if_pos e]
    rcases n with n | n
    · rw [n]
    · exact absurd (by simpa using e) n
  · rw [if_neg e]
    unfold PySem.W.kitCls
    have i' : (PySem.W.clsIn K D).isSome = true := i
    have c : ((PySem.W.clsIn K D).isSome && PySem.W.typeIn K (.ref D) == some (.type "type")) = true := by
      rw [i', t]
      simp
    dsimp only
    rw [if_pos c, s]
theorem kit_ve {K : PySem.W.Frag} {C : Addr} {b : Bool} (s : PySem.W.subIn K (.ref C) (.type "ValueError") = some b) : PySem.W.kitOne K (.ref C) (.type "ValueError") = some b := by
  unfold PySem.W.kitOne
  rw [if_neg (by simp)]
  unfold PySem.W.kitCls
  dsimp only
  rw [if_pos (by decide), s]
end L3

/-! Snd9: all expressions. -/
namespace L3
open PySem PySem.Spec PyProof.Rows L2

structure Cxt (g : G) (m : MC) (n : Nat) (X : Cx) : Prop where
  S : Same4 g X
  N : X.N = m.N
  nd : X.N.Nodup
  calm : X.calm = true
  room : Room (n + 1) X.A
/-- classes of errors: their names, how they are raised, what they are -/
def clsV (g : G) (d : Nat) : Value := if d = 999 then .type "ValueError" else .ref (g.clsA d)
def EclOk (g : G) (x : Str) (d : Nat) : Prop := if d = 999 then x = "ValueError" ∧ g.mg x = none else g.mg x = some (.ref (g.clsA d))
structure RaisOk (g : G) (c : Nat) : Prop where
  ex : PySem.W.excIn g.K (g.clsA c) [.type "ValueError", .type "Exception", .type "BaseException", .type "object"] "ValueError.__new__" = true
  kp : PySem.W.keepIn g.K (.ref (g.clsA c)) = true
  sb : PySem.W.subIn g.K (.ref (g.clsA c)) (.type "BaseException") = some true
  ty : PySem.W.typeIn g.K (.ref (g.clsA c)) = some (.type "type")
  ne : c ≠ 999
structure SubOk (g : G) (c d : Nat) (b : Bool) : Prop where
  ec : ExcC g.K (g.clsA c)
  kt : PySem.W.kitOne g.K (.ref (g.clsA c)) (clsV g d) = some b
  em : b = true → d ≠ 999 → PySem.W.exmOne g.K (.ref (g.clsA c)) (.ref (g.clsA d)) = some true
structure GOk (g : G) (m : MC) (n : Nat) : Prop where
  nm : m.nm = g.nm
  nms : NmOk g
  bn : ∀ x ∈ biNames, g.mg x = none
  kon : ∀ p ∈ m.kons, ∃ u w, g.mg p.1 = some u ∧ conV p.2 = some w ∧ RelV w u
  dfs : ∀ p ∈ m.defs, DefOk g (n + 1) p.1 ((lev g.T n).1 p.2)
  cls : ∀ p ∈ m.clss, ∃ d, g.T.ini p.2 = some d ∧ ClsOk g n p.1 p.2 ((lev g.T n).2 d)
  mts : ∀ c k d, g.T.mt c k = some d → MetOk g (n + 1) c k ((lev g.T n).1 d)
  fls : ∀ c f, g.T.fl c f = true → Cls g.K (g.clsA c) ∧ NoAttr g.K (g.clsA c) (g.nm f)
  ecl : ∀ p ∈ m.ecls, EclOk g p.1 p.2
  exr : ∀ c ∈ m.rcls, RaisOk g c
  sub : ∀ c d b, g.T.sub c d = some b → SubOk g c d b
theorem Cxt.hu {g : G} {m : MC} {n : Nat} {X : Cx} (c : Cxt g m n X) : X.A.units + 65 < cLine := by
  have := c.room.un
  omega
theorem Cxt.blk {g : G} {m : MC} {n : Nat} {X : Cx} (c : Cxt g m n X) (s : Shared) (H : Hp) (scope : Scope) (C : Addr) (cl : List (Str × Addr)) (fp : List Addr) : Cxt g m n (X.blk s H scope (compEnvC scope cl C X.env) fp) where
  S := ⟨c.S.P, c.S.w, c.S.K, c.S.mg, c.S.base⟩
  N := c.N
  nd := c.nd
  calm := c.calm
  room := c.room
theorem takesW0 {X : Cx} : Takes X W0 := takes0
theorem bi_boot : ∀ b : Bi, biOk b = true → biS b ∈ biNames := by
  intro b h
  cases b <;> first | (simp [biS, biNames]; done) | (cases h)
section
variable {g : G} {m : MC} {n : Nat}
theorem k_bi {X : Cx} {W : WX} {b : Bi} {a : Expr} {es : List Expr} {rr : Run1 (List AV)} {p pos : Pos} (G0 : GOk g m n) (C : Cxt g m n X) (hb : biOk b = true) (hg : glb X.env.scope (biS b) = true) (hs : (a :: es).all noStar = true) (h : PA X (a :: es) (TVs g W rr)) :
    PE X (.Call (.Name (biS b) p) (a :: es) [] pos) (TV g W fun e st => (rr e st).bind fun xs st => callB b xs st) := by
  have hm : X.mg (biS b) = none := by rw [C.S.mg]; exact G0.bn _ (bi_boot b hb)
  cases b with
  | len => exact k_blt (cl_len C.S.K) hg hm (by decide +kernel) hs h
  | int => exact k_typ cl_int hg hm (by decide +kernel) hs h
  | str => exact k_typ cl_str hg hm (by decide +kernel) hs h
  | list => exact k_typ (cl_list C.S.K) hg hm (by decide +kernel) hs h
  | tuple => exact k_typ (cl_tuple C.S.K) hg hm (by decide +kernel) hs h
  | abs => exact k_blt cl_abs hg hm (by decide +kernel) hs h
  | all => exact k_blt (cl_all C.S.K C.calm) hg hm (by decide +kernel) hs h
  | any => exact k_blt (cl_any C.S.K C.calm) hg hm (by decide +kernel) hs h
  | sum => exact k_blt (cl_sum C.S.K C.calm) hg hm (by decide +kernel) hs h
  | max => exact k_blt (cl_max C.calm) hg hm (by decide +kernel) hs h
  | min => exact k_blt (cl_min C.S.K C.calm C.hu) hg hm (by decide +kernel) hs h
  | sorted => exact k_blt (cl_sorted C.S.K C.calm C.hu) hg hm (by decide +kernel) hs h
  | range => cases hb
  | set => cases hb
/-- isinstance(e, C), e a kept error -/
theorem k_isx {X : Cx} {W : WX} {a : Expr} {ra : Run1 AV} {d : Nat} {x y : Str} {p p' pos : Pos} (G0 : GOk g m n) (S : Same4 g X) (hg : glb X.env.scope x = true) (hg2 : glb X.env.scope y = true) (hx : x = "isinstance") (hd : (y, d) ∈ m.ecls) (hs : noStar a = true) (ha : PE X a (TV g W ra)) :
    PE X (.Call (.Name x p) [a, .Name y p'] [] pos) (TV g W fun e st => (ra e st).bind fun v st => isxA g.T v d st) := by
  subst hx
  have hm : X.mg "isinstance" = none := by rw [S.mg]; exact G0.bn _ (by simp [biNames])
  obtain ⟨h1, h2, h3⟩ := glb_of hg
  obtain ⟨h4, h5, h6⟩ := glb_of hg2
  have E := G0.ecl _ hd
  have hty : ∃ c : V, PE X (.Name y p') (tC c) ∧ ∀ u, RelV c u → u = clsV g d := by
    unfold EclOk at E
    by_cases e9 : d = 999
    · rw [if_pos e9] at E
      obtain ⟨rfl, hn⟩ := E
      rw [← S.mg] at hn
      refine ⟨.ty "ValueError", pe_bltn h4 hn (by decide +kernel) rfl h6 h5, fun u r => ?_⟩
      unfold clsV
      rw [if_pos e9]
      exact r
    · rw [if_neg e9] at E
      have E : g.mg y = some (.ref (g.clsA d)) := E
      rw [← S.mg] at E
      refine ⟨.ref (g.clsA d), pe_glob h4 E rfl h5, fun u r => ?_⟩
      unfold clsV
      rw [if_neg e9]
      exact r
  obtain ⟨c, hc, hr⟩ := hty
  refine PE.imp (pe_callB call_isK h1 hm (show bootBuiltins "isinstance" = some (.builtin "isinstance") by decide +kernel) (pa_cons ha (pa_cons hc pa_nil) (star_of hs)) h3 h2 (star_of hs) (by rfl)) fun σ H Q ⟨al, st, e, rel, rs, pp⟩ => ?_
  obtain ⟨al0, st0, e0, rel0, rs0, p0⟩ := TV.then (ra := ra) (f := fun e v st => isxA g.T v d st) rel rs pp
  refine ⟨al0, st0, e0, rel0, rs0, Post.imp p0 fun v H1 ⟨al1, av, st1, rel1, rs1, rv1, p1, s1⟩ => ?_⟩
  cases av with
  | ref k =>
    simp only [isxA] at p1
    split at p1
    · rename_i c0 q0
      obtain ⟨b, e1, q⟩ := Post.ofB p1 rel1
      have sk := G0.sub _ _ _ e1
      obtain ⟨pp, ep, rfl⟩ := rv1
      obtain ⟨q', eq', hp⟩ := rel1.obj _ _ q0
      rw [ep] at eq'
      cases eq'
      exact ⟨pp, g.clsA c0, c, clsV g d, b, rfl, hp, S.K ▸ sk.ec, hr, S.K ▸ sk.kt, q⟩
    · exact p1.elim
  | _ => exact p1.elim
/-- xs[::-1] -/
theorem k_rev {X : Cx} {W : WX} {a : Expr} {ra : Run1 AV} {k : Nat} {p1 p2 p3 pos : Pos} (S : Same4 g X) (ha : PE X a (TV g W ra)) :
    PE X (.Subscript a (.Slice none none (some (.UnaryOp .USub (.Constant (.int 1) k p1) p2)) p3) pos) (TV g W fun e st => (ra e st).bind fun v st => revA v st) := by
  refine PE.imp (pe_revL ha) fun σ H Q ⟨al, st, e, rel, rs, pp⟩ => ?_
  refine TV.imp (TV.then (ra := ra) (f := fun e v st => revA v st) rel rs pp) fun v H1 ⟨al1, av, st1, rel1, rs1, rv1, p1, s1⟩ => ?_
  unfold revA at p1
  split at p1
  · rename_i ys q
    obtain ⟨p, ws, rfl, hq, rvs⟩ := lst_of rel1 rv1 q
    rw [← S.K] at hq
    exact ⟨p, ws, rfl, hq, fun D hD => p1.newL rel1 rvs.rev hD⟩
  · exact p1.elim
theorem and3 {a b : Bool} (h : (a && b) = true) : a = true ∧ b = true := by rwa [Bool.and_eq_true] at h
theorem pts_1 {X : Cx} {W : WX} {a : Expr} {ra : Run1 AV} (h : PT X a (TTv g W ra)) : PTs X [a] (TTv g W (andR ra fun _ st => .ok (.bl true) st)) := by
  have k := pts_one h
  refine ⟨fun pins s σ H Q I ⟨al, st, e, rel, rs, p⟩ => k.run pins s σ H Q I ⟨al, st, e, rel, rs, ?_⟩⟩
  rw [and_nilT] at p
  exact p
theorem pts_0 {X : Cx} {W : WX} : PTs X [] (TTv g W fun _ st => .ok (.bl true) st) := by
  refine ⟨fun pins s σ H Q I ⟨al, st, e, rel, rs, p⟩ => pts_nil.run pins s σ H Q I ?_⟩
  exact Post.ok (RA := beOf) (a := true) p rel rfl
theorem ifs_one {a b : Expr} (h : noSetD a = true) (env : Env) : ∀ x, foldedSetIterable a env x = pure x := by
  intro x
  cases a <;> first | rfl | (cases h)

theorem pair {X : Cx} {W : WX} {a : Expr} {ra : Run1 AV} (k : PE X a (TV g W ra)) (he : ∀ whole, isTrue a X.env whole = (do let v ← whole; standAt a.pos; holding [v] (truthy v))) : PE X a (TV g W ra) ∧ PT X a (TTv g W ra) := ⟨k, k_val k he⟩
theorem len1 {es : List Expr} (h : es.length ≤ 1) : es = [] ∨ ∃ a, es = [a] := by
  match es, h with
  | [], _ => exact .inl rfl
  | [a], _ => exact .inr ⟨a, rfl⟩
  | _ :: _ :: _, h => simp at h
/-- what is shown of a list of expressions -/
structure LsOk (g : G) (m : MC) (n : Nat) (X : Cx) (W : WX) (xs : Es) (vs : List Expr) : Prop where
  pa : vs.all noStar = true → PA X vs (TVs g W (evs g.T (lev g.T n).1 (lev g.T n).2 xs))
  land : vs ≠ [] → ∀ pos, PE X (.BoolOp .And vs pos) (TV g W (evAnd g.T (lev g.T n).1 (lev g.T n).2 xs)) ∧ PW X (.BoolOp .And vs pos) (TTv g W (evAnd g.T (lev g.T n).1 (lev g.T n).2 xs))
  lor : vs ≠ [] → ∀ pos, PE X (.BoolOp .Or vs pos) (TV g W (evOr g.T (lev g.T n).1 (lev g.T n).2 xs)) ∧ PW X (.BoolOp .Or vs pos) (TTv g W (evOr g.T (lev g.T n).1 (lev g.T n).2 xs))
  ifs : vs.length ≤ 1 → PTs X vs (TTv g W (evAnd g.T (lev g.T n).1 (lev g.T n).2 xs))
  pp : PpB g X W vs (evs g.T (lev g.T n).1 (lev g.T n).2 xs)
theorem ls_nil {X : Cx} {W : WX} : LsOk g m n X W .nil [] := by
  refine ⟨fun _ => ?_, fun h => absurd rfl h, fun h => absurd rfl h, fun _ => ?_, ?_⟩
  · have e : evs g.T (lev g.T n).1 (lev g.T n).2 .nil = fun _ st => .ok [] st := by funext e st; unfold evs; rfl
    rw [e]; exact k_nil
  · have e : evAnd g.T (lev g.T n).1 (lev g.T n).2 .nil = fun _ st => .ok (.bl true) st := by funext e st; unfold evAnd; rfl
    rw [e]; exact pts_0
  · have e : evs g.T (lev g.T n).1 (lev g.T n).2 .nil = fun _ st => .ok [] st := by funext e st; unfold evs; rfl
    rw [e]; exact pp_nil
theorem ls_cons {X : Cx} {W : WX} {x : E} {xs : Es} {v : Expr} {vs : List Expr} (h : PE X v (TV g W (ev g.T (lev g.T n).1 (lev g.T n).2 x)) ∧ PT X v (TTv g W (ev g.T (lev g.T n).1 (lev g.T n).2 x))) (L : LsOk g m n X W xs vs) (hx : vs = [] → xs = .nil) : LsOk g m n X W (.cons x xs) (v :: vs) := by
  have ea : evAnd g.T (lev g.T n).1 (lev g.T n).2 (.cons x xs) = andR (ev g.T (lev g.T n).1 (lev g.T n).2 x) (evAnd g.T (lev g.T n).1 (lev g.T n).2 xs) := by funext e st; rw [evAnd]; rfl
  have eo : evOr g.T (lev g.T n).1 (lev g.T n).2 (.cons x xs) = orR (ev g.T (lev g.T n).1 (lev g.T n).2 x) (evOr g.T (lev g.T n).1 (lev g.T n).2 xs) := by funext e st; rw [evOr]; rfl
  have en : evAnd g.T (lev g.T n).1 (lev g.T n).2 .nil = fun _ st => .ok (.bl true) st := by funext e st; unfold evAnd; rfl
  have em : evOr g.T (lev g.T n).1 (lev g.T n).2 .nil = fun _ st => .ok (.bl false) st := by funext e st; unfold evOr; rfl
  refine ⟨fun hs => ?_, fun _ pos => ?_, fun _ pos => ?_, fun hl => ?_, ?_⟩
  · rw [List.all_cons, Bool.and_eq_true] at hs
    have e : evs g.T (lev g.T n).1 (lev g.T n).2 (.cons x xs) = fun e st => (ev g.T (lev g.T n).1 (lev g.T n).2 x e st).bind fun a st => (evs g.T (lev g.T n).1 (lev g.T n).2 xs e st).bind fun as st => .ok (a :: as) st := by funext e st; rw [evs]
    rw [e]
    exact k_cons hs.1 h.1 (L.pa hs.2)
  · rw [ea]
    cases vs with
    | nil =>
      rw [hx rfl, en]
      refine ⟨?_, ?_⟩
      · exact PE.imp (pe_one h.1) fun σ H Q ⟨al, st, e, rel, rs, p⟩ => ⟨al, st, e, rel, rs, and_nil e st p⟩
      · exact PW.imp (pw_and1 h.2) fun σ H Q ⟨al, st, e, rel, rs, p⟩ => ⟨al, st, e, rel, rs, by rw [and_nilT] at p; exact p⟩
    | cons u us =>
      obtain ⟨k1, k2⟩ := L.land (by intro z; cases z) pos
      exact ⟨k_andV h.1 k1, k_andW h.2 k2⟩
  · rw [eo]
    cases vs with
    | nil =>
      rw [hx rfl, em]
      refine ⟨?_, ?_⟩
      · exact PE.imp (pe_one h.1) fun σ H Q ⟨al, st, e, rel, rs, p⟩ => ⟨al, st, e, rel, rs, or_nil e st p⟩
      · exact PW.imp (pw_or1 h.2) fun σ H Q ⟨al, st, e, rel, rs, p⟩ => ⟨al, st, e, rel, rs, by rw [or_nilT] at p; exact p⟩
    | cons u us =>
      obtain ⟨k1, k2⟩ := L.lor (by intro z; cases z) pos
      exact ⟨k_orV h.1 k1, k_orW h.2 k2⟩
  · have e1 : vs = [] := List.eq_nil_of_length_eq_zero (by simpa using hl)
    subst e1
    rw [ea, hx rfl, en]
    exact pts_1 h.2
  · have e : evs g.T (lev g.T n).1 (lev g.T n).2 (.cons x xs) = fun e st => (ev g.T (lev g.T n).1 (lev g.T n).2 x e st).bind fun a st => (evs g.T (lev g.T n).1 (lev g.T n).2 xs e st).bind fun as st => .ok (a :: as) st := by funext e st; rw [evs]
    rw [e]
    exact pp_cons h.1 L.pp
theorem mats_nil {xs : Es} {sc : Scope} (h : matEs m xs sc [] = true) : xs = .nil := by
  cases xs with
  | nil => rfl
  | cons a as => unfold matEs at h; cases h
theorem ne_nil {α : Type} {l : List α} (h : (!l.isEmpty) = true) : l ≠ [] := by
  intro z
  subst z
  cases h

set_option maxHeartbeats 4000000 in
mutual
theorem sE (G0 : GOk g m n) : ∀ (x : E) (X : Cx) (W : WX) (e : Expr), Cxt g m n X → Takes X W → matE m x X.env.scope e = true →
    PE X e (TV g W (ev g.T (lev g.T n).1 (lev g.T n).2 x)) ∧ PT X e (TTv g W (ev g.T (lev g.T n).1 (lev g.T n).2 x))
  | .var i, X, W, e, C, tk, h => by
    unfold matE at h
    split at h
    · obtain ⟨h, h4⟩ := and3 h
      obtain ⟨h, h3⟩ := and3 h
      obtain ⟨h1, h2⟩ := and3 h
      exact pair (k_var h1 h2 (by simpa using h3) (by simpa using h4) C.N) fun _ => rfl
    · cases h
  | .con v, X, W, e, C, tk, h => by
    unfold matE at h
    split at h
    · exact pair (k_con h) fun _ => rfl
    · cases h
  | .kon v, X, W, e, C, tk, h => by
    unfold matE at h
    split at h
    · obtain ⟨h1, h2⟩ := and3 h
      obtain ⟨u, w, q1, q2, q3⟩ := G0.kon _ (of_decide_eq_true h2)
      exact pair (k_kon h1 (by rw [C.S.mg]; exact q1) q2 q3) fun _ => rfl
    · cases h
  | .bin op a b, X, W, e, C, tk, h => by
    unfold matE at h
    split at h
    · obtain ⟨h, h3⟩ := and3 h
      obtain ⟨h1, h2⟩ := and3 h
      have e1 := of_decide_eq_true h1
      subst e1
      exact pair (k_bin (sE G0 a X W _ C tk h2).1 (sE G0 b X W _ C tk h3).1) fun _ => rfl
    · cases h
  | .neg a, X, W, e, C, tk, h => by
    unfold matE at h
    split at h
    · obtain ⟨h1, h2⟩ := and3 h
      have e1 := of_decide_eq_true h1
      subst e1
      exact pair (k_neg (sE G0 a X W _ C tk h2).1) fun _ => rfl
    · cases h
  | .not a, X, W, e, C, tk, h => by
    unfold matE at h
    split at h
    · obtain ⟨h1, h2⟩ := and3 h
      have e1 := of_decide_eq_true h1
      subst e1
      have k := sE G0 a X W _ C tk h2
      exact ⟨k_not k.1, k_notT k.2⟩
    · cases h
  | .and es, X, W, e, C, tk, h => by
    unfold matE at h
    split at h
    · obtain ⟨h, h3⟩ := and3 h
      obtain ⟨h1, h2⟩ := and3 h
      have e1 := of_decide_eq_true h1
      subst e1
      obtain ⟨k1, k2⟩ := (sEs G0 es X W _ C tk h3).land (ne_nil h2) _
      exact ⟨k1, k2.pt⟩
    · cases h
  | .or es, X, W, e, C, tk, h => by
    unfold matE at h
    split at h
    · obtain ⟨h, h3⟩ := and3 h
      obtain ⟨h1, h2⟩ := and3 h
      have e1 := of_decide_eq_true h1
      subst e1
      obtain ⟨k1, k2⟩ := (sEs G0 es X W _ C tk h3).lor (ne_nil h2) _
      exact ⟨k1, k2.pt⟩
    · cases h
  | .cmp op a b, X, W, e, C, tk, h => by
    unfold matE at h
    split at h
    · obtain ⟨h, h4⟩ := and3 h
      obtain ⟨h, h3⟩ := and3 h
      obtain ⟨h1, h2⟩ := and3 h
      have e1 := of_decide_eq_true h1
      subst e1
      have ka := (sE G0 a X W _ C tk h3).1
      have kb := (sE G0 b X W _ C tk h4).1
      exact ⟨k_cmp C.S.K C.hu h2 ka kb, k_cmpT C.S.K C.hu h2 ka kb⟩
    · cases h
  | .chain o1 o2 a b c, X, W, e, C, tk, h => by
    unfold matE at h
    split at h
    · obtain ⟨h, h6⟩ := and3 h
      obtain ⟨h, h5⟩ := and3 h
      obtain ⟨h, h4⟩ := and3 h
      obtain ⟨h, h3⟩ := and3 h
      obtain ⟨h1, h2⟩ := and3 h
      have e1 := of_decide_eq_true h1
      have e2 := of_decide_eq_true h2
      subst e1 e2
      have ka := (sE G0 a X W _ C tk h4).1
      have kb := (sE G0 b X W _ C tk h5).1
      have kc := (sE G0 c X W _ C tk h6).1
      exact ⟨k_chain C.S.K C.hu h3 ka kb kc, k_chainT C.S.K C.hu h3 ka kb kc⟩
    · cases h
  | .lst es, X, W, e, C, tk, h => by
    unfold matE at h
    split at h
    · obtain ⟨h1, h2⟩ := and3 h
      exact pair (k_lst ((sEs G0 es X W _ C tk h2).pa h1)) fun _ => rfl
    · cases h
  | .tup es, X, W, e, C, tk, h => by
    unfold matE at h
    split at h
    · obtain ⟨h1, h2⟩ := and3 h
      exact pair (k_tup ((sEs G0 es X W _ C tk h2).pa h1)) fun _ => rfl
    · cases h
  | .dnew t, X, W, e, C, tk, h => by
    unfold matE at h
    split at h
    · exact pair k_dnew fun _ => rfl
    · cases h
  | .dnn, X, W, e, C, tk, h => by
    unfold matE at h
    split at h
    · exact pair k_dnn fun _ => rfl
    · cases h
  | .dn1 a b, X, W, e, C, tk, h => by
    unfold matE at h
    split at h
    · obtain ⟨h1, h2⟩ := and3 h
      have e1 : ev g.T (lev g.T n).1 (lev g.T n).2 (.dn1 a b) = fun e st => (ev g.T (lev g.T n).1 (lev g.T n).2 a e (st ++ [.dN []])).bind fun k st1 => (ev g.T (lev g.T n).1 (lev g.T n).2 b e st1).bind fun v st2 => disp1 st.length k v st2 := by funext e st; rw [ev]
      rw [e1]
      exact pair (k_dn1 (by have := C.hu; omega) (sE G0 a X W _ C tk h1).1 (sE G0 b X W _ C tk h2).1) fun _ => rfl
    · cases h
  | .ddsp ks es, X, W, e, C, tk, h => by
    unfold matE at h
    split at h
    · simp only [Bool.and_eq_true, decide_eq_true_eq, Bool.not_eq_true'] at h
      obtain ⟨⟨⟨⟨⟨⟨h1, h2⟩, h3⟩, h4⟩, h5⟩, h6⟩, h7⟩ := h
      have e1 : ev g.T (lev g.T n).1 (lev g.T n).2 (.ddsp ks es) = fun e st => (evs g.T (lev g.T n).1 (lev g.T n).2 es e (st ++ [.dK []])).bind fun xs st2 => dispA st.length ks xs st2 := by funext e st; rw [ev]
      rw [e1]
      exact pair (k_ddsp (sEs G0 es X W _ C tk h7).pp h1 h4 h2 (by intro z; rw [z] at h5; cases h5) h6) fun _ => rfl
    · cases h
  | .call d es, X, W, e, C, tk, h => by
    unfold matE at h
    split at h
    · rename_i x p vs pos
      obtain ⟨h, h4⟩ := and3 h
      obtain ⟨h, h3⟩ := and3 h
      obtain ⟨h1, h2⟩ := and3 h
      have D := G0.dfs _ (of_decide_eq_true h2)
      cases vs with
      | nil =>
        obtain rfl := mats_nil h4
        exact pair (k_call0 C.S C.room tk h1 D) fun _ => rfl
      | cons v vs => exact pair (k_call C.S C.room tk h1 D h3 ((sEs G0 es X W _ C tk h4).pa h3)) fun _ => rfl
    · cases h
  | .mk c es, X, W, e, C, tk, h => by
    unfold matE at h
    split at h
    · rename_i x p vs pos
      obtain ⟨h, h4⟩ := and3 h
      obtain ⟨h, h3⟩ := and3 h
      obtain ⟨h1, h2⟩ := and3 h
      obtain ⟨d, hd, D⟩ := G0.cls _ (of_decide_eq_true h2)
      have em : mkA g.T (lev g.T n).2 c = mkF ((lev g.T n).2 d) c := by
        funext xs st
        unfold mkA
        rw [hd]
        rfl
      have ee : ev g.T (lev g.T n).1 (lev g.T n).2 (.mk c es) = fun e st => (evs g.T (lev g.T n).1 (lev g.T n).2 es e st).bind fun xs st => mkF ((lev g.T n).2 d) c xs st := by
        funext e st
        rw [ev, em]
      rw [ee]
      cases vs with
      | nil =>
        obtain rfl := mats_nil h4
        exact pair (k_mk0 C.S C.room tk h1 D) fun _ => rfl
      | cons v vs => exact pair (k_mk C.S C.room tk h1 D h3 ((sEs G0 es X W _ C tk h4).pa h3)) fun _ => rfl
    · cases h
  | .bcall b es, X, W, e, C, tk, h => by
    unfold matE at h
    split at h
    · rename_i x p vs pos
      obtain ⟨h, h6⟩ := and3 h
      obtain ⟨h, h5⟩ := and3 h
      obtain ⟨h, h4⟩ := and3 h
      obtain ⟨h, h3⟩ := and3 h
      obtain ⟨h1, h2⟩ := and3 h
      have e1 := of_decide_eq_true h2
      subst e1
      cases vs with
      | nil => exact absurd rfl (ne_nil h4)
      | cons v vs => exact pair (k_bi G0 C h3 h1 h5 ((sEs G0 es X W _ C tk h6).pa h5)) fun _ => rfl
    · cases h
  | .isi t a, X, W, e, C, tk, h => by
    unfold matE at h
    split at h
    · rename_i x p a' y p' pos
      obtain ⟨h, h6⟩ := and3 h
      obtain ⟨h, h5⟩ := and3 h
      obtain ⟨h, h4⟩ := and3 h
      obtain ⟨h, h3⟩ := and3 h
      obtain ⟨h1, h2⟩ := and3 h
      have hy := of_decide_eq_true h4
      have hm : X.mg "isinstance" = none := by rw [C.S.mg]; exact G0.bn _ (by simp [biNames])
      have hm2 : X.mg y = none := by
        rw [C.S.mg]
        refine G0.bn _ ?_
        cases t <;> first
          | (cases hy; simp [biNames]; done)
          | (cases hy)
      exact pair (k_isi C.S h1 h2 (of_decide_eq_true h3) hy hm hm2 h5 (sE G0 a X W _ C tk h6).1) fun _ => rfl
    · cases h
  | .isx d a, X, W, e, C, tk, h => by
    unfold matE at h
    split at h
    · rename_i x p a' y p' pos
      obtain ⟨h, h6⟩ := and3 h
      obtain ⟨h, h5⟩ := and3 h
      obtain ⟨h, h4⟩ := and3 h
      obtain ⟨h, h3⟩ := and3 h
      obtain ⟨h1, h2⟩ := and3 h
      have e1 : ev g.T (lev g.T n).1 (lev g.T n).2 (.isx d a) = fun e st => (ev g.T (lev g.T n).1 (lev g.T n).2 a e st).bind fun v st => isxA g.T v d st := by funext e st; rw [ev]
      rw [e1]
      exact pair (k_isx G0 C.S h1 h2 (of_decide_eq_true h3) (of_decide_eq_true h4) h5 (sE G0 a X W _ C tk h6).1) fun _ => rfl
    · cases h
  | .meth k o es, X, W, e, C, tk, h => by
    unfold matE at h
    split at h
    · obtain ⟨h, h7⟩ := and3 h
      obtain ⟨h, h6⟩ := and3 h
      obtain ⟨h, h5⟩ := and3 h
      obtain ⟨h, h4⟩ := and3 h
      obtain ⟨h, h3⟩ := and3 h
      obtain ⟨h1, h2⟩ := and3 h
      have e1 := of_decide_eq_true h1
      rw [G0.nm] at e1
      subst e1
      exact pair (k_meth C.S C.hu G0.nms C.room tk (sE G0 o X W _ C tk h6).1 h4 (of_decide_eq_true h5) h2 h3 ((sEs G0 es X W _ C tk h7).pa h4) (G0.mts · k)) fun _ => rfl
    · cases h
  | .fld o f, X, W, e, C, tk, h => by
    unfold matE at h
    split at h
    · obtain ⟨h, h3⟩ := and3 h
      obtain ⟨h1, h2⟩ := and3 h
      have e1 := of_decide_eq_true h1
      rw [G0.nm] at e1
      subst e1
      exact pair (k_fld C.S h2 (sE G0 o X W _ C tk h3).1 (G0.fls · f)) fun _ => rfl
    · cases h
  | .idx o i, X, W, e, C, tk, h => by
    unfold matE at h
    split at h
    · obtain ⟨h, h3⟩ := and3 h
      obtain ⟨h1, h2⟩ := and3 h
      exact pair (k_idx C.S C.hu h1 (sE G0 o X W _ C tk h2).1 (sE G0 i X W _ C tk h3).1) fun _ => rfl
    · cases h
  | .sl o lo hi, X, W, e, C, tk, h => by
    unfold matE at h
    split at h
    · obtain ⟨h, h3⟩ := and3 h
      obtain ⟨h1, h2⟩ := and3 h
      exact pair (k_sl C.S (sE G0 o X W _ C tk h1).1 (sO G0 lo X W _ C tk h2) (sO G0 hi X W _ C tk h3)) fun _ => rfl
    · cases h
  | .lrng a, X, W, e, C, tk, h => by
    unfold matE at h
    split at h
    · obtain ⟨h, h6⟩ := and3 h
      obtain ⟨h, h5⟩ := and3 h
      obtain ⟨h, h4⟩ := and3 h
      obtain ⟨h, h3⟩ := and3 h
      obtain ⟨h1, h2⟩ := and3 h
      have hm : X.mg "list" = none := by rw [C.S.mg]; exact G0.bn _ (by simp [biNames])
      have hm2 : X.mg "range" = none := by rw [C.S.mg]; exact G0.bn _ (by simp [biNames])
      exact pair (k_lrng C.calm h1 h2 (of_decide_eq_true h3) (of_decide_eq_true h4) hm hm2 h5 (sE G0 a X W _ C tk h6).1) fun _ => rfl
    · cases h
  | .sset a, X, W, e, C, tk, h => by
    unfold matE at h
    split at h
    · obtain ⟨h, h6⟩ := and3 h
      obtain ⟨h, h5⟩ := and3 h
      obtain ⟨h, h4⟩ := and3 h
      obtain ⟨h, h3⟩ := and3 h
      obtain ⟨h1, h2⟩ := and3 h
      have hm : X.mg "sorted" = none := by rw [C.S.mg]; exact G0.bn _ (by simp [biNames])
      have hm2 : X.mg "set" = none := by rw [C.S.mg]; exact G0.bn _ (by simp [biNames])
      exact pair (k_sset C.calm C.hu h1 h2 (of_decide_eq_true h3) (of_decide_eq_true h4) hm hm2 h5 C.S.K (sE G0 a X W _ C tk h6).1) fun _ => rfl
    · cases h
  | .slen a, X, W, e, C, tk, h => by
    unfold matE at h
    split at h
    · obtain ⟨h, h6⟩ := and3 h
      obtain ⟨h, h5⟩ := and3 h
      obtain ⟨h, h4⟩ := and3 h
      obtain ⟨h, h3⟩ := and3 h
      obtain ⟨h1, h2⟩ := and3 h
      have hm : X.mg "len" = none := by rw [C.S.mg]; exact G0.bn _ (by simp [biNames])
      have hm2 : X.mg "set" = none := by rw [C.S.mg]; exact G0.bn _ (by simp [biNames])
      exact pair (k_slen C.calm C.hu h1 h2 (of_decide_eq_true h3) (of_decide_eq_true h4) hm hm2 h5 C.S.K (sE G0 a X W _ C tk h6).1) fun _ => rfl
    · cases h
  | .stp k a, X, W, e, C, tk, h => by
    unfold matE at h
    split at h
    · obtain ⟨h1, h2⟩ := and3 h
      have h1 := of_decide_eq_true h1
      subst h1
      exact pair (k_stp C.S (sE G0 a X W _ C tk h2).1) fun _ => rfl
    · cases h
  | .inrg a b, X, W, e, C, tk, h => by
    unfold matE at h
    split at h
    · obtain ⟨h, h5⟩ := and3 h
      obtain ⟨h, h4⟩ := and3 h
      obtain ⟨h, h3⟩ := and3 h
      obtain ⟨h1, h2⟩ := and3 h
      have hm : X.mg "range" = none := by rw [C.S.mg]; exact G0.bn _ (by simp [biNames])
      have ka := (sE G0 a X W _ C tk h4).1
      have kb := (sE G0 b X W _ C tk h5).1
      exact ⟨k_inrg h1 (of_decide_eq_true h2) hm h3 ka kb, k_inrgT h1 (of_decide_eq_true h2) hm h3 ka kb⟩
    · cases h
  | .rev a, X, W, e, C, tk, h => by
    unfold matE at h
    split at h
    · exact pair (k_rev C.S (sE G0 a X W _ C tk h).1) fun _ => rfl
    · cases h
  | .lc own tg it cond elt, X, W, e, C, tk, h => by
    unfold matE at h
    split at h
    · rename_i elt' tg' it' cs' scope pos
      obtain ⟨h, h8⟩ := and3 h
      obtain ⟨h, h7⟩ := and3 h
      obtain ⟨h, h6⟩ := and3 h
      obtain ⟨h, h5⟩ := and3 h
      obtain ⟨h, h4⟩ := and3 h
      obtain ⟨h, h3⟩ := and3 h
      obtain ⟨h1, h2⟩ := and3 h
      have ok := blkOk_by h1
      rw [← C.N] at ok
      have B := fun (s : Shared) (H : Hp) (Cc : Addr) (cl : List (Str × Addr)) (fp : List Addr) => C.blk s H scope Cc cl fp
      have hg := fun (s : Shared) (H : Hp) (Cc : Addr) (cl : List (Str × Addr)) (fp : List Addr) => k_tg (g := g) (m := m) (t := tg) (tg := tg') (X := X.blk s H scope (compEnvC scope cl Cc X.env) fp) (c := cellN scope) (fun x z => z) (B s H Cc cl fp).S C.calm C.N C.nd h6
      have ht := fun (s : Shared) (H : Hp) (Cc : Addr) (cl : List (Str × Addr)) (fp : List Addr) => (sEs G0 cond (X.blk s H scope (compEnvC scope cl Cc X.env) fp) W0 cs' (B s H Cc cl fp) takesW0 h7).ifs (of_decide_eq_true h4)
      have he := fun (s : Shared) (H : Hp) (Cc : Addr) (cl : List (Str × Addr)) (fp : List Addr) => (sE G0 elt (X.blk s H scope (compEnvC scope cl Cc X.env) fp) W0 elt' (B s H Cc cl fp) takesW0 h8).1
      have hi := sI G0 it X W tg' it' C tk h5
      refine pair ?_ fun _ => rfl
      have ee : ev g.T (lev g.T n).1 (lev g.T n).2 (.lc own tg it cond elt) = fun e st => (evIt g.T (lev g.T n).1 (lev g.T n).2 it e st).bind fun w st => (lcL tg w.ck (evAnd g.T (lev g.T n).1 (lev g.T n).2 cond) (ev g.T (lev g.T n).1 (lev g.T n).2 elt) (wipeA e own) w.xs [] st).bind fun acc st => alloc (.lst acc) st := by
        funext e st
        rw [ev]
      rw [ee]
      exact PE.imp (pe_lc C.calm C.nd hi (by rw [C.N] at ok ⊢; exact ok) hg ht he (ifs_one (b := it') h3 X.env)) (k_lc C.S C.calm C.nd ok (of_decide_eq_true h2) hi h3 hg ht he)
    · cases h
  | .bad, X, W, e, C, tk, h => ⟨⟨fun pins s σ H Q I ⟨al, st, e, rel, rs, p⟩ => p.elim⟩, ⟨fun pins s σ H Q I ⟨al, st, e, rel, rs, p⟩ => p.elim⟩⟩
theorem sEs (G0 : GOk g m n) : ∀ (xs : Es) (X : Cx) (W : WX) (vs : List Expr), Cxt g m n X → Takes X W → matEs m xs X.env.scope vs = true → LsOk g m n X W xs vs
  | .nil, X, W, vs, C, tk, h => by
    unfold matEs at h
    split at h
    · exact ls_nil
    · cases h
  | .cons a as, X, W, vs, C, tk, h => by
    unfold matEs at h
    split at h
    · obtain ⟨h1, h2⟩ := and3 h
      exact ls_cons (sE G0 a X W _ C tk h1) (sEs G0 as X W _ C tk h2) fun z => by
        rw [z] at h2
        exact mats_nil h2
    · cases h
theorem sO (G0 : GOk g m n) : ∀ (xs : Es) (X : Cx) (W : WX) (v : Option Expr), Cxt g m n X → Takes X W → matO m xs X.env.scope v = true → PO X v (TOv g W (evO g.T (lev g.T n).1 (lev g.T n).2 xs))
  | .nil, X, W, v, C, tk, h => by
    unfold matO at h
    split at h
    · exact k_oN
    · cases h
  | .cons a as, X, W, v, C, tk, h => by
    unfold matO at h
    split at h
    · obtain ⟨h1, h2⟩ := and3 h
      exact k_oS (sE G0 a X W _ C tk h2).1
    · cases h
theorem sI (G0 : GOk g m n) : ∀ (x : Iw) (X : Cx) (W : WX) (tg e : Expr), Cxt g m n X → Takes X W → matI m x X.env.scope tg e = true → PI X tg e (TIv g W (evIt g.T (lev g.T n).1 (lev g.T n).2 x))
  | .seq a, X, W, tg, e, C, tk, h => by
    unfold matI at h
    exact k_seq C.S (sE G0 a X W _ C tk h).1
  | .rng1 a, X, W, tg, e, C, tk, h => by
    unfold matI at h
    split at h
    · obtain ⟨h, h4⟩ := and3 h
      obtain ⟨h, h3⟩ := and3 h
      obtain ⟨h1, h2⟩ := and3 h
      exact k_rng1 h1 (of_decide_eq_true h2) (by rw [C.S.mg]; exact G0.bn _ (by simp [biNames])) h3 (sE G0 a X W _ C tk h4).1
    · cases h
  | .rng2 a b, X, W, tg, e, C, tk, h => by
    unfold matI at h
    split at h
    · obtain ⟨h, h6⟩ := and3 h
      obtain ⟨h, h5⟩ := and3 h
      obtain ⟨h, h4⟩ := and3 h
      obtain ⟨h, h3⟩ := and3 h
      obtain ⟨h1, h2⟩ := and3 h
      exact k_rng2 h1 (of_decide_eq_true h2) (by rw [C.S.mg]; exact G0.bn _ (by simp [biNames])) h3 h4 (sE G0 a X W _ C tk h5).1 (sE G0 b X W _ C tk h6).1
    · cases h
  | .rng3 a b c, X, W, tg, e, C, tk, h => by
    unfold matI at h
    split at h
    · obtain ⟨h, h8⟩ := and3 h
      obtain ⟨h, h7⟩ := and3 h
      obtain ⟨h, h6⟩ := and3 h
      obtain ⟨h, h5⟩ := and3 h
      obtain ⟨h, h4⟩ := and3 h
      obtain ⟨h, h3⟩ := and3 h
      obtain ⟨h1, h2⟩ := and3 h
      exact k_rng3 h1 (of_decide_eq_true h2) (by rw [C.S.mg]; exact G0.bn _ (by simp [biNames])) h3 h4 h5 (sE G0 a X W _ C tk h6).1 (sE G0 b X W _ C tk h7).1 (sE G0 c X W _ C tk h8).1
    · cases h
  | .enum a, X, W, tg, e, C, tk, h => by
    unfold matI at h
    split at h
    · split at h
      · obtain ⟨h, h4⟩ := and3 h
        obtain ⟨h, h3⟩ := and3 h
        obtain ⟨h1, h2⟩ := and3 h
        exact k_enum C.S h1 (of_decide_eq_true h2) (by rw [C.S.mg]; exact G0.bn _ (by simp [biNames])) h3 (sE G0 a X W _ C tk h4).1
      · cases h
    · cases h
  | .items a, X, W, tg, e, C, tk, h => by
    unfold matI at h
    split at h
    · split at h
      · obtain ⟨h, h4⟩ := and3 h
        obtain ⟨h, h3⟩ := and3 h
        obtain ⟨h1, h2⟩ := and3 h
        have e1 := of_decide_eq_true h1
        subst e1
        exact k_items (sE G0 a X W _ C tk h4).1 (base_of h3) h2
      · cases h
    · cases h
  | .vals a, X, W, tg, e, C, tk, h => by
    unfold matI at h
    split at h
    · obtain ⟨h, h4⟩ := and3 h
      obtain ⟨h, h3⟩ := and3 h
      obtain ⟨h1, h2⟩ := and3 h
      have e1 := of_decide_eq_true h1
      subst e1
      exact k_vals (sE G0 a X W _ C tk h4).1 (base_of h3) h2
    · cases h
  | .keys a, X, W, tg, e, C, tk, h => by
    unfold matI at h
    exact k_keys (sE G0 a X W _ C tk h).1
  | .zip a b, X, W, tg, e, C, tk, h => by
    unfold matI at h
    split at h
    · split at h
      · obtain ⟨h, h6⟩ := and3 h
        obtain ⟨h, h5⟩ := and3 h
        obtain ⟨h, h4⟩ := and3 h
        obtain ⟨h, h3⟩ := and3 h
        obtain ⟨h1, h2⟩ := and3 h
        exact k_zip C.S h1 (of_decide_eq_true h2) (by rw [C.S.mg]; exact G0.bn _ (by simp [biNames])) h3 h4 (sE G0 a X W _ C tk h5).1 (sE G0 b X W _ C tk h6).1
      · cases h
    · cases h
  | .zipS a b, X, W, tg, e, C, tk, h => by
    unfold matI at h
    split at h
    · split at h
      · obtain ⟨h, h6⟩ := and3 h
        obtain ⟨h, h5⟩ := and3 h
        obtain ⟨h, h4⟩ := and3 h
        obtain ⟨h, h3⟩ := and3 h
        obtain ⟨h1, h2⟩ := and3 h
        exact k_zipS C.S h1 (of_decide_eq_true h2) (by rw [C.S.mg]; exact G0.bn _ (by simp [biNames])) h3 h4 (sE G0 a X W _ C tk h5).1 (sE G0 b X W _ C tk h6).1
      · cases h
    · cases h
end
end
end L3

/-! Snd10: statements. -/
namespace L3
open PySem PySem.Spec PyProof.Rows L2

/-- where a statement's run of the machine stands, so does the model -/
def SPost (g : G) (r : SR) (al : Al) (H : Hp) (D : Ends) (W : WX) : Prop := match r with
  | .nx e st => ∀ al' H' σ', Stp al H al' H' → Rel g al' st H' → RS g.K H' al' e σ' → D.nx σ' H'
  | .rt v st => ∀ al' H' w, Stp al H al' H' → Rel g al' st H' → RV g.K H' al' v w → D.rt w H'
  | .ex c e st => ∀ al' H' σ', Stp al H al' H' → Rel g al' st H' → RS g.K H' al' e σ' → W (.ref (g.clsA c)) none σ' H'
  | .no => False
def TSv (g : G) (W : WX) (r : Slots → Sto → SR) : TS := fun D σ H => ∃ al st e, Rel g al st H ∧ RS g.K H al e σ ∧ SPost g (r e st) al H D W
theorem PS.imp {X : Cx} {s : Stmt} {t t' : TS} (h : PS X s t) (i : ∀ D σ H, t' D σ H → t D σ H) : PS X s t' := ⟨fun pins s σ H D I q => h.run pins s σ H D I (i D σ H q)⟩
theorem PSs.imp {X : Cx} {s : List Stmt} {t t' : TS} (h : PSs X s t) (i : ∀ D σ H, t' D σ H → t D σ H) : PSs X s t' := ⟨fun pins s σ H D I q => h.run pins s σ H D I (i D σ H q)⟩
section
variable {g : G} {m : MC} {n : Nat} {X : Cx} {W : WX} {a b c tg : Expr} {ra rb rc : Run1 AV} {pos : Pos} {al al' : Al} {H H' : Hp} {st : Sto} {σ : L2.St} {e : Slots} {D : Ends}
theorem SPost.shift {r : SR} (s : Stp al H al' H') (h : SPost g r al H D W) : SPost g r al' H' D W := by
  cases r with
  | nx e st => exact fun al2 H2 σ2 s2 => h al2 H2 σ2 (s.trans s2)
  | rt v st => exact fun al2 H2 w s2 => h al2 H2 w (s.trans s2)
  | ex c e st => exact fun al2 H2 σ2 s2 => h al2 H2 σ2 (s.trans s2)
  | no => exact h
/-- an expression, then the rest -/
theorem SPost.aft {A B : Type} {RA : Hp → Al → A → B → Prop} {r : R A} {f : A → Sto → SR} (rs : RS g.K H al e σ) (rel : Rel g al st H) (h : SPost g (r.st e f) al H D W) :
    Post g RA r al H (fun b H1 => ∃ al1 a st1, Stp al H al1 H1 ∧ Rel g al1 st1 H1 ∧ RA H1 al1 a b ∧ SPost g (f a st1) al1 H1 D W) (wOf g W σ) := by
  cases r with
  | ok a st1 => exact fun al1 H1 b s r1 ra => ⟨al1, a, st1, s, r1, ra, SPost.shift s h⟩
  | ex c st1 => exact fun al1 H1 s r1 => h al1 H1 σ s r1 (rs.step rel.notup s)
  | no => exact h
theorem SPost.bind {r : SR} {f : Slots → Sto → SR} (h : SPost g (r.bind f) al H D W) :
    SPost g r al H { D with nx := fun σ1 H1 => ∃ al1 st1 e1, Stp al H al1 H1 ∧ Rel g al1 st1 H1 ∧ RS g.K H1 al1 e1 σ1 ∧ SPost g (f e1 st1) al1 H1 D W } W := by
  cases r with
  | nx e st1 => exact fun al1 H1 σ1 s r1 rs => ⟨al1, st1, e, s, r1, rs, SPost.shift s h⟩
  | rt v st => exact h
  | ex c e st => exact h
  | no => exact h
theorem SPost.imp {r : SR} {D D' : Ends} (h : SPost g r al H D W) (i1 : ∀ σ H, D.nx σ H → D'.nx σ H) (i2 : ∀ v H, D.rt v H → D'.rt v H) : SPost g r al H D' W := by
  cases r with
  | nx e st1 => exact fun al1 H1 σ1 s r1 rs => i1 _ _ (h al1 H1 σ1 s r1 rs)
  | rt v st => exact fun al1 H1 w s r1 rv => i2 _ _ (h al1 H1 w s r1 rv)
  | ex c e st => exact h
  | no => exact h

/-! ### simple statements, each with what stands behind it -/
variable {rest : List Stmt} {k : Slots → Sto → SR}
theorem h_expr (ha : PE X a (TV g W ra)) (hc : noComp a = true) (hk : PSs X rest (TSv g W k)) : PSs X (.Expr a pos :: rest) (TSv g W fun e st => (ra e st).st e fun _ st => k e st) := by
  have sw : swapsWith a none pos.line X.env = pure false := by cases a <;> first | rfl | (cases hc)
  refine PSs.imp (pss_cons (ps_expr ha sw) hk) fun D σ H ⟨al, st, e, rel, rs, p⟩ => ?_
  refine ⟨al, st, e, rel, rs, Post.imp (SPost.aft (RA := rvOf g) rs rel p) fun x H1 ⟨al1, v, st1, s1, rel1, rv1, p1⟩ => ?_⟩
  exact ⟨al1, st1, e, rel1, rs.step rel.notup s1, p1⟩
theorem h_ret (ha : PE X a (TV g W ra)) : PSs X [.Return (some a) pos] (TSv g W fun e st => (ra e st).st e fun v st => .rt v st) := by
  refine PSs.imp (pss_one (ps_ret ha)) fun D σ H ⟨al, st, e, rel, rs, p⟩ => ?_
  refine ⟨al, st, e, rel, rs, Post.imp (SPost.aft (RA := rvOf g) rs rel p) fun x H1 ⟨al1, v, st1, s1, rel1, rv1, p1⟩ => ?_⟩
  exact p1 al1 H1 x (Stp.refl _ _) rel1 rv1
theorem h_retN : PSs X [.Return none pos] (TSv g W fun _ st => .rt .non st) :=
  PSs.imp (pss_one ps_retN) fun D σ H ⟨al, st, e, rel, rs, p⟩ => p al H .non (Stp.refl _ _) rel rfl
theorem h_done : PSs X [] (TSv g W fun e st => .nx e st) :=
  PSs.imp pss_nil fun D σ H ⟨al, st, e, rel, rs, p⟩ => p al H σ (Stp.refl _ _) rel rs
/-- name = value, by any rule that reads so -/
theorem h_asg {i : Nat} {s : Stmt} (hs : PS X s (tAsg (TV g W ra) (gName i))) (hk : PSs X rest (TSv g W k)) : PSs X (s :: rest) (TSv g W fun e st => (ra e st).st e fun v st => k (e.set i (some v)) st) := by
  refine PSs.imp (pss_cons hs hk) fun D σ H ⟨al, st, e, rel, rs, p⟩ => ?_
  refine ⟨al, st, e, rel, rs, Post.imp (SPost.aft (RA := rvOf g) rs rel p) fun x H1 ⟨al1, v, st1, s1, rel1, rv1, p1⟩ => ?_⟩
  exact ⟨al1, st1, _, rel1, (rs.step rel.notup s1).put i rv1, p1⟩
theorem h_asgT {is : List Nat} {es : List Expr} {tk : Nat} {tp : Pos} (hf : ∀ x, X.fn x = true) (S : Same4 g X) (hc : X.calm = true) (hN : X.N = m.N) (nd : X.N.Nodup) (h : tgB m allN X.env.scope (.tp is) (.Tuple es tk tp) = true) (ha : PE X a (TV g W ra)) (hn : noComp a = true)
    (ht : noTup a = true) (hk : PSs X rest (TSv g W k)) :
    PSs X (.Assign [.Tuple es tk tp] a pos :: rest) (TSv g W fun e st => (ra e st).st e fun v st => SR.ofE (bindT (.tp is) v e) fun e => k e st) := by
  have sw : swapsWithSole [.Tuple es tk tp] a pos.line X.env = pure false := by
    cases a <;> first | rfl | (cases hn)
  have ss : swappedStores [.Tuple es tk tp] a X.env = pure none := by
    cases a <;> first | rfl | (cases ht)
  refine PSs.imp (pss_cons (ps_asg ha (k_tg (fun x _ => hf x) S hc hN nd h) sw ss) hk) fun D σ H ⟨al, st, e, rel, rs, p⟩ => ?_
  refine ⟨al, st, e, rel, rs, Post.imp (SPost.aft (RA := rvOf g) rs rel p) fun x H1 ⟨al1, v, st1, s1, rel1, rv1, p1⟩ => ?_⟩
  cases hb : bindT (.tp is) v e with
  | none => rw [hb] at p1; exact p1.elim
  | some e2 =>
    rw [hb] at p1
    exact ⟨al1, st1, e, v, e2, rel1, rs.step rel.notup s1, rv1, hb, fun σ2 rs2 _ _ => ⟨al1, st1, e2, rel1, rs2, p1⟩⟩
theorem h_asgL {is : List Nat} {es : List Expr} {tk : Nat} {tp : Pos} (hf : ∀ x, X.fn x = true) (S : Same4 g X) (hc : X.calm = true) (hN : X.N = m.N) (nd : X.N.Nodup) (h : tgB m allN X.env.scope (.tp is) (.Tuple es tk tp) = true) (ha : PE X a (TV g W ra)) (hn : noComp a = true)
    (ht : noTup a = true) (hk : PSs X rest (TSv g W k)) :
    PSs X (.Assign [.Tuple es tk tp] a pos :: rest) (TSv g W fun e st => (ra e st).st e fun v st => SR.ofE (bindL is v e st) fun e => k e st) := by
  have sw : swapsWithSole [.Tuple es tk tp] a pos.line X.env = pure false := by
    cases a <;> first | rfl | (cases hn)
  have ss : swappedStores [.Tuple es tk tp] a X.env = pure none := by
    cases a <;> first | rfl | (cases ht)
  simp only [tgB] at h
  rw [Bool.and_eq_true] at h
  obtain ⟨k1, k2, k3⟩ := k_names (c := allN) (fun x _ => hf x) hN nd es is (of_decide_eq_true h.1) (by
    have h2 := h.2
    exact h2)
  refine PSs.imp (pss_cons (ps_asg ha (pg_unl hc k1 k2 k3) sw ss) hk) fun D σ H ⟨al, st, e, rel, rs, p⟩ => ?_
  refine ⟨al, st, e, rel, rs, Post.imp (SPost.aft (RA := rvOf g) rs rel p) fun x H1 ⟨al1, v, st1, s1, rel1, rv1, p1⟩ => ?_⟩
  unfold bindL at p1
  cases v with
  | ref n =>
    dsimp only at p1
    split at p1
    · rename_i xs q
      by_cases hl : is.length = xs.length
      · rw [if_pos hl] at p1
        obtain ⟨q0, ws, rfl, ea, hp, r⟩ := ref_lst rel1 rv1 q
        refine ⟨q0, ws, rfl, .inl (.inl hp), by rw [hl, r.length], by rw [hl, r.length], ?_⟩
        exact ⟨al1, st1, _, rel1, go_set is xs ws e σ r (rs.step rel.notup s1), p1⟩
      · rw [if_neg hl] at p1
        exact p1.elim
    · exact p1.elim
  | _ => exact p1.elim
theorem rf_put {f : Nat} {v : AV} {w : V} (rv : RV g.K H al v w) : ∀ {fs : List (Nat × AV)} {ws : List (Str × V)}, RF g H al fs ws → RF g H al (putA f v fs) (putF (g.nm f) w ws)
  | [], ws, h => by
    obtain rfl : ws = [] := h
    exact ⟨w, [], rfl, rv, rfl⟩
  | x :: fs, ws, ⟨u, r, e1, h1, h2⟩ => by
    subst e1
    obtain ⟨x1, x2⟩ := x
    by_cases z : x1 = f
    · subst z
      have e2 : putA x1 v ((x1, x2) :: fs) = (x1, v) :: fs := by unfold putA; rw [if_pos rfl]
      have e3 : putF (g.nm x1) w ((g.nm x1, u) :: r) = (g.nm x1, w) :: r := by unfold putF; rw [if_pos rfl]
      rw [e2, e3]
      exact ⟨w, r, rfl, rv, h2⟩
    · have e2 : putA f v ((x1, x2) :: fs) = (x1, x2) :: putA f v fs := by
        conv => lhs; unfold putA
        rw [if_neg z]
      have e3 : putF (g.nm f) w ((g.nm x1, u) :: r) = (g.nm x1, u) :: putF (g.nm f) w r := by
        conv => lhs; unfold putF
        rw [if_neg fun q => z (g.nmInj _ _ q)]
      rw [e2, e3]
      exact ⟨u, _, rfl, h1, rf_put rv h2⟩
theorem RF.length : ∀ {fs : List (Nat × AV)} {ws : List (Str × V)}, RF g H al fs ws → fs.length = ws.length
  | [], ws, h => by
    obtain rfl : ws = [] := h
    rfl
  | x :: fs, ws, ⟨w, r, e1, h1, h2⟩ => by
    subst e1
    rw [List.length_cons, List.length_cons, RF.length h2]
/-- a field put -/
theorem fld_put {o v : AV} {x w : V} {f : Nat} {st2 : Sto} (rel : Rel g al st H) (ro : RV g.K H al o x) (rv : RV g.K H al v w) (e : setF g.T o f v st = some st2) :
    ∃ p c dx ws, x = .ref p ∧ H p = some (.ins (g.clsA c) dx ws) ∧ g.T.fl c f = true ∧ ws.length < 1000 ∧ Stp al H al (upd H p (.ins (g.clsA c) dx (putF (g.nm f) w ws))) ∧ Rel g al st2 (upd H p (.ins (g.clsA c) dx (putF (g.nm f) w ws))) := by
  cases o with
  | ref n =>
    simp only [setF] at e
    split at e
    · rename_i c fs q
      by_cases hf : g.T.fl c f = true ∧ fs.length < 900
      · rw [if_pos hf] at e
        cases e
        obtain ⟨p, dx, ws, rfl, ea, hp, r⟩ := ref_ins rel ro q
        have s := stp_set (o := .ins (g.clsA c) dx (putF (g.nm f) w ws)) ea hp
        refine ⟨p, c, dx, ws, rfl, hp, hf.1, by rw [← r.length]; omega, s, rel_set rel ea hp ⟨dx, _, upd_same, ?_⟩⟩
        exact RF.step rel.notup s _ _ (rf_put rv r)
      · rw [if_neg hf] at e
        cases e
    · cases e
  | _ => cases e
theorem h_asgF {o : Expr} {f : Nat} {ro : Run1 AV} {p2 : Pos} (S : Same4 g X) (ho : PE X o (TV g W ro)) (ha : PE X a (TV g W ra)) (hn : noComp a = true) (fl : ∀ c, g.T.fl c f = true → Cls g.K (g.clsA c) ∧ NoAttr g.K (g.clsA c) (g.nm f)) (hk : PSs X rest (TSv g W k)) :
    PSs X (.Assign [.Attribute o (g.nm f) p2] a pos :: rest) (TSv g W fun e st => (ra e st).st e fun v st => (ro e st).st e fun o st => SR.of (setF g.T o f v st) fun st => k e st) := by
  have sw : swapsWith a (some (.Attribute o (g.nm f) p2)) pos.line X.env = pure false := by cases a <;> first | rfl | (cases hn)
  refine PSs.imp (pss_cons (ps_fld ho ha sw) hk) fun D σ H ⟨al, st, e, rel, rs, p⟩ => ?_
  refine ⟨al, st, e, rel, rs, Post.imp (SPost.aft (RA := rvOf g) rs rel p) fun x H1 ⟨al1, v, st1, s1, rel1, rv1, p1⟩ => ?_⟩
  have rs1 := rs.step rel.notup s1
  refine ⟨al1, st1, e, rel1, rs1, Post.imp (SPost.aft (RA := rvOf g) rs1 rel1 p1) fun y H2 ⟨al2, u, st2, s2, rel2, rv2, p2⟩ => ?_⟩
  cases hf : setF g.T u f v st2 with
  | none => rw [hf] at p2; exact p2.elim
  | some st3 =>
    rw [hf] at p2
    obtain ⟨q, c, dx, ws, rfl, hq, h1, h2, s3, rel3⟩ := fld_put rel2 rv2 (RV.step rel1.notup s2 _ _ rv1) hf
    obtain ⟨c1, c2⟩ := fl c h1
    rw [S.K]
    exact ⟨q, _, dx, ws, rfl, hq, c1, c2, h2, al2, st3, e, rel3, (rs1.step rel1.notup s2).step rel2.notup s3, SPost.shift s3 p2⟩
theorem PSet.or2 {t t' : TSet} (h : PSet X t) (h' : PSet X t') : PSet X fun o i v H Q => t o i v H Q ∨ t' o i v H Q :=
  fun pins s σ H o i v ov iv u Q I r1 r2 r3 q => q.elim (fun z => h pins s σ H o i v ov iv u Q I r1 r2 r3 z) fun z => h' pins s σ H o i v ov iv u Q I r1 r2 r3 z
theorem set_dict (hu : X.A.units + 1 < cLine) : PSet X fun o i v H Q => ∃ p H2, o = .ref p ∧ DPut H p i v H2 ∧ Q H2 := by
  intro pins s σ H o i v ov iv u Q I r1 r2 r3 h
  obtain ⟨p, H2, rfl, d, q⟩ := h
  cases r1
  exact d_setItem hu I d r2 r3 fun s2 I2 => ⟨H2, I2, q⟩
theorem set_nst {X : Cx} (hu : X.A.units + 10 < cLine) : PSet X fun o i v H Q => ∃ p b k ws, o = .ref p ∧ i = .ref b ∧ NObj H p ws ∧ KeyAt H k b ∧ ws.length < sizeLine ∧ ∀ ob, NOb (upd H p (NO ob p)) p ob (L2.putK ws k v) → Q (upd H p (NO ob p)) := by
  intro pins s σ H o i v ov iv u Q I ro ri rv h
  obtain ⟨p, b, k, ws, rfl, rfl, h1, h2, h3, q⟩ := h
  cases ro
  cases ri
  exact setN hu I h1 h2 rv h3 fun ob s' hob I' => ⟨_, I', q ob hob⟩
theorem setI_ok {o i v : AV} {x y w : V} {st2 : Sto} {Q : Hp → Prop} (rel : Rel g al st H) (ro : RV g.K H al o x) (ri : RV g.K H al i y) (rv : RV g.K H al v w) (e : setI o i v st = some st2) (q : ∀ H2, Stp al H al H2 → Rel g al st2 H2 → Q H2) :
    rSetL x y w H Q ∨ (∃ p H2, x = .ref p ∧ DPut H p y w H2 ∧ Q H2) ∨ ∃ p b k ws, x = .ref p ∧ y = .ref b ∧ NObj H p ws ∧ KeyAt H k b ∧ ws.length < sizeLine ∧ ∀ ob, NOb (upd H p (NO ob p)) p ob (L2.putK ws k w) → Q (upd H p (NO ob p)) := by
  cases o with
  | ref n =>
    simp only [setI] at e
    split at e
    · rename_i xs q0
      split at e
      · rename_i j
        split at e
        · rename_i jj q1
          cases e
          obtain ⟨p, ws, rfl, ea, hp, r⟩ := ref_lst rel ro q0
          obtain rfl : y = .int j := ri
          have s := stp_set (o := .lst (ws.set jj w)) ea hp
          refine .inl ⟨p, ws, j, jj, rfl, rfl, hp, by rw [← r.length]; exact q1, q _ s (rel_set rel ea hp ⟨_, upd_same, ?_⟩)⟩
          exact RVs.step rel.notup s _ _ (RVs.setAt rv jj r)
        · cases e
      · cases e
    · rename_i kvs q0
      split at e
      · rename_i kk q1
        by_cases hl : kvs.length < lim
        · rw [if_pos hl] at e
          cases e
          obtain ⟨p, ws, rfl, ea, hp, r⟩ := ref_dK rel ro q0
          have s := stp_set (o := .dK (L2.putK ws kk w)) ea hp
          refine .inr (.inl ⟨p, _, rfl, ?_, q _ s (rel_set rel ea hp ⟨_, upd_same, RP.step rel.notup s _ _ (RP.put rv r)⟩)⟩)
          rw [keyK_is ri q1]
          exact DPut.k hp (by rw [← r.length, sizeLine_eq]; exact hl)
        · rw [if_neg hl] at e
          cases e
      · cases e
    · rename_i kvs q0
      split at e
      · rename_i kk q1
        by_cases hl : kvs.length < lim
        · rw [if_pos hl] at e
          cases e
          obtain ⟨p, ws, rfl, ea, hp, r⟩ := ref_dT rel ro q0
          obtain ⟨b, rfl, hb⟩ := keyT_is ri q1
          have s := stp_set (o := .dT (L2.putK ws kk w)) ea hp
          exact .inr (.inl ⟨p, _, rfl, DPut.t hp hb (by rw [← r.length, sizeLine_eq]; exact hl), q _ s (rel_set rel ea hp ⟨_, upd_same, RP.step rel.notup s _ _ (RP.put rv r)⟩)⟩)
        · rw [if_neg hl] at e
          cases e
      · cases e
    · rename_i kvs q0
      split at e
      · rename_i kk q1
        by_cases hl : kvs.length < lim
        · rw [if_pos hl] at e
          cases e
          obtain ⟨p, ws, rfl, ea, hp, r⟩ := ref_dN rel ro q0
          obtain ⟨b, rfl, hb⟩ := keyN_is ri q1
          refine .inr (.inr ⟨p, b, kk, ws, rfl, rfl, hp, hb, by rw [← r.length, sizeLine_eq]; exact hl, fun ob hob => ?_⟩)
          obtain ⟨ob0, hp0, _⟩ := hp
          have s := stp_set (o := NO ob p) ea hp0 (fun _ _ z => nomatch (show HO.ext _ = HO.frz _ _ from z))
          exact q _ s (rel_set rel ea hp0 ⟨_, ⟨ob, upd_same, hob⟩, RP.step rel.notup s _ _ (RP.put rv r)⟩ (fun _ _ z => nomatch (show HO.ext _ = HO.frz _ _ from z)))
        · rw [if_neg hl] at e
          cases e
      · cases e
    · cases e
  | _ => cases e
theorem h_asgI {o i : Expr} {ro ri : Run1 AV} {p2 : Pos} (hsl : noSlice i = true) (S : Same4 g X) (hu : X.A.units + 65 < cLine) (ho : PE X o (TV g W ro)) (hi : PE X i (TV g W ri)) (ha : PE X a (TV g W ra)) (hk : PSs X rest (TSv g W k)) :
    PSs X (.Assign [.Subscript o i p2] a pos :: rest) (TSv g W fun e st => (ra e st).st e fun v st => (ro e st).st e fun o st => (ri e st).st e fun i st => SR.of (setI o i v st) fun st => k e st) := by
  have sw : swapsWithSole [.Subscript o i p2] a pos.line X.env = pure false := by
    cases a <;> rfl
  have ss : swappedStores [.Subscript o i p2] a X.env = pure none := by cases a <;> rfl
  refine PSs.imp (pss_cons (ps_asg ha (pg_sub ho hi (PSet.or2 set_list (PSet.or2 (set_dict (by omega)) (set_nst (by omega)))) (by intro v; cases i <;> first | rfl | (cases hsl))) sw ss) hk) fun D σ H ⟨al, st, e, rel, rs, p⟩ => ?_
  refine ⟨al, st, e, rel, rs, Post.imp (SPost.aft (RA := rvOf g) rs rel p) fun x H1 ⟨al1, v, st1, s1, rel1, rv1, p1⟩ => ?_⟩
  have rs1 := rs.step rel.notup s1
  refine ⟨al1, st1, e, rel1, rs1, Post.imp (SPost.aft (RA := rvOf g) rs1 rel1 p1) fun y H2 ⟨al2, u, st2, s2, rel2, rv2, p2⟩ => ?_⟩
  have rs2 := rs1.step rel1.notup s2
  refine ⟨al2, st2, e, rel2, rs2, Post.imp (SPost.aft (RA := rvOf g) rs2 rel2 p2) fun z H3 ⟨al3, j, st3, s3, rel3, rv3, p3⟩ => ?_⟩
  cases hf : setI u j v st3 with
  | none => rw [hf] at p3; exact p3.elim
  | some st4 =>
    rw [hf] at p3
    refine setI_ok rel3 (RV.step rel2.notup s3 _ _ rv2) rv3 (RV.step rel2.notup s3 _ _ (RV.step rel1.notup s2 _ _ rv1)) hf fun H4 s4 rel4 => ?_
    exact ⟨al3, st4, e, rel4, (rs2.step rel2.notup s3).step rel3.notup s4, SPost.shift s4 p3⟩
theorem h_aug {i : Nat} {x : Str} {p2 : Pos} (hf : ∀ x, X.fn x = true) (hN : X.N = m.N) (nd : X.N.Nodup) (h1 : slotB m i x = true) (h2 : lcellB X.env.scope x = true) (ha : PE X a (TV g W ra)) (hk : PSs X rest (TSv g W k)) :
    PSs X (.AugAssign (.Name x p2) .Add a pos :: rest) (TSv g W fun e st => match e[i]? with
      | some (some x) => (ra e st).st e fun v st => match x, v with
        | .int p, .int q => k (e.set i (some (.int (p + q)))) st
        | _, _ => .no
      | _ => .no) := by
  refine PSs.imp (pss_cons (ps_aug nd (by rw [hN]; exact of_decide_eq_true h1) (lcell_of h2) ha ip_add (.inl (hf x))) hk) fun D σ H ⟨al, st, e, rel, rs, p⟩ => ?_
  dsimp only at p
  split at p
  · rename_i y q0
    obtain ⟨w, h3, h4⟩ := rs.at_ i y q0
    refine ⟨w, h3, al, st, e, rel, rs, Post.imp (SPost.aft (RA := rvOf g) rs rel p) fun x H1 ⟨al1, v, st1, s1, rel1, rv1, p1⟩ => ?_⟩
    cases y with
    | int a1 =>
      cases v with
      | int a2 =>
        obtain rfl : w = .int a1 := h4
        obtain rfl : x = .int a2 := rv1
        exact ⟨a1, a2, rfl, rfl, al1, st1, _, rel1, (rs.step rel.notup s1).put i (v := .int (a1 + a2)) rfl, p1⟩
      | _ => exact p1.elim
    | _ => exact p1.elim
  · exact p.elim
theorem h_augF {o : Expr} {f : Nat} {ro : Run1 AV} {p2 : Pos} {z : Int} {kk : Nat} {p3 : Pos} (S : Same4 g X) (ho : PE X o (TV g W ro)) (fl : ∀ c, g.T.fl c f = true → Cls g.K (g.clsA c) ∧ NoAttr g.K (g.clsA c) (g.nm f)) (hk : PSs X rest (TSv g W k)) :
    PSs X (.AugAssign (.Attribute o (g.nm f) p2) .Add (.Constant (.int z) kk p3) pos :: rest) (TSv g W fun e st => (ro e st).st e fun o st => (fldA g.T o f st).st e fun x st => match x with
      | .int p => SR.of (setF g.T o f (.int (p + z)) st) fun st => k e st
      | _ => .no) := by
  refine PSs.imp (pss_cons (ps_fldaug ho pe_int ip_add) hk) fun D σ H ⟨al, st, e, rel, rs, p⟩ => ?_
  refine ⟨al, st, e, rel, rs, Post.imp (SPost.aft (RA := rvOf g) rs rel p) fun x H1 ⟨al1, v, st1, s1, rel1, rv1, p1⟩ => ?_⟩
  have rs1 := rs.step rel.notup s1
  cases v with
  | ref n =>
    simp only [fldA] at p1
    split at p1
    · rename_i c fs q
      by_cases hf : g.T.fl c f = true
      · rw [if_pos hf] at p1
        split at p1
        · rename_i u hu
          obtain ⟨b, dx, ws, rfl, ea, hp, r⟩ := ref_ins rel1 rv1 q
          obtain ⟨w, h1, h2⟩ := rf_get r hu
          obtain ⟨c1, c2⟩ := fl c hf
          rw [S.K]
          refine ⟨b, _, dx, ws, w, rfl, hp, c1, c2, h1, ?_⟩
          cases u with
          | int a1 =>
            obtain rfl : w = .int a1 := h2
            refine ⟨a1, z, rfl, rfl, ?_⟩
            dsimp only [R.st] at p1
            cases hs : setF g.T (.ref n) f (.int (a1 + z)) st1 with
            | none => rw [hs] at p1; exact p1.elim
            | some st3 =>
              rw [hs] at p1
              obtain ⟨q2, c2', dx2, ws2, e2, hq, g1, g2, s3, rel3⟩ := fld_put (v := .int (a1 + z)) (w := .int (a1 + z)) rel1 rv1 (show RV g.K H1 al1 (.int (a1 + z)) (.int (a1 + z)) from rfl) hs
              cases e2
              have eC : g.clsA c2' = g.clsA c ∧ dx2 = dx ∧ ws2 = ws := by
                rw [hp] at hq
                injection hq with hq
                injection hq with a1 a2 a3
                exact ⟨a1.symm, a2.symm, a3.symm⟩
              obtain ⟨eC, rfl, rfl⟩ := eC
              rw [eC] at s3 rel3
              exact ⟨_, _, hp, g2, al1, st3, e, rel3, rs1.step rel1.notup s3, SPost.shift s3 p1⟩
          | _ => exact p1.elim
        · exact p1.elim
      · rw [if_neg hf] at p1
        exact p1.elim
    · exact p1.elim
  | _ => exact p1.elim
theorem h_ite {ss us : List Stmt} {ka kb : Slots → Sto → SR} (ht : PT X c (TTv g W rc)) (ha : PSs X ss (TSv g W ka)) (hb : PSs X us (TSv g W kb)) (hk : PSs X rest (TSv g W k)) :
    PSs X (.If c ss us pos :: rest) (TSv g W fun e st => (rc e st).st e fun v st => match v with
      | .bl true => (ka e st).bind fun e st => k e st
      | .bl false => (kb e st).bind fun e st => k e st
      | _ => .no) := by
  refine PSs.imp (pss_cons (ps_if ht ha hb) hk) fun D σ H ⟨al, st, e, rel, rs, p⟩ => ?_
  have p2 : SPost g ((tst (rc e st)).st e fun v st => if v = true then (ka e st).bind fun e st => k e st else (kb e st).bind fun e st => k e st) al H D W := by
    dsimp only at p
    revert p
    generalize rc e st = y
    intro p
    cases y with
    | ok v st =>
      cases v with
      | bl b => cases b <;> exact p
      | _ => exact p.elim
    | ex c st => exact p
    | no => exact p
  refine ⟨al, st, e, rel, rs, Post.imp (SPost.aft (RA := beOf) rs rel p2) fun x H1 ⟨al1, v, st1, s1, rel1, rv1, p1⟩ => ?_⟩
  have rv1 : v = x := rv1
  subst rv1
  have rs1 := rs.step rel.notup s1
  cases v with
  | true =>
    rw [if_pos rfl] at p1 ⊢
    refine ⟨al1, st1, e, rel1, rs1, SPost.imp (SPost.bind p1) (fun σ2 H2 ⟨al2, st2, e2, s2, rel2, rs2, q⟩ => ⟨al2, st2, e2, rel2, rs2, q⟩) fun _ _ q => q⟩
  | false =>
    rw [if_neg Bool.false_ne_true] at p1 ⊢
    refine ⟨al1, st1, e, rel1, rs1, SPost.imp (SPost.bind p1) (fun σ2 H2 ⟨al2, st2, e2, s2, rel2, rs2, q⟩ => ⟨al2, st2, e2, rel2, rs2, q⟩) fun _ _ q => q⟩
theorem h_loop {t : Tg} {iter : Expr} {bs : List Stmt} {ri : Run1 Wk} {kb : Slots → Sto → SR} (hp : PassesOwn (model X.prog X.w) X.A X.env X.xe) (hc : X.calm = true) (hi : PI X tg iter (TIv g W ri)) (hg : PG X tg (TGv g t)) (hb : PSs X bs (TSv g W kb)) (hs : noSetD iter = true)
    (hk : PSs X rest (TSv g W k)) : PSs X (.For tg iter bs [] pos :: rest) (TSv g W fun e st => (ri e st).st e fun w st => (forL t w.ck kb w.xs e st).bind fun e st => k e st) := by
  refine PSs.imp (pss_cons (ps_for hp hc hi hg hb (ifs_one (b := iter) hs X.env)) hk) fun D σ H ⟨al, st, e, rel, rs, p⟩ => ?_
  refine ⟨al, st, e, rel, rs, Post.imp (SPost.aft (RA := fun H al w J => ItOk g al H w J) rs rel p) fun J H1 ⟨al1, w, st1, s1, rel1, hJ, p1⟩ => ?_⟩
  have rs1 := rs.step rel.notup s1
  let F : List AV → Slots → Sto → SR := fun xs e st => (forL t w.ck kb xs e st).bind fun e st => k e st
  refine ⟨fun i q σ2 H2 => ∃ al2 st2 e2, Stp al1 H1 al2 H2 ∧ Rel g al2 st2 H2 ∧ RS g.K H2 al2 e2 σ2 ∧ q = w.xs.length - i ∧ i ≤ w.xs.length ∧ SPost g (F (w.xs.drop i) e2 st2) al2 H2 D W, ?_, ?_⟩
  · exact ⟨_, al1, st1, e, Stp.refl _ _, rel1, rs1, rfl, Nat.zero_le _, p1⟩
  · intro i q σ2 H2 ⟨al2, st2, e2, s2, rel2, rs2, eq, hle, p2⟩
    by_cases hck : w.ck st2 = true
    · obtain ⟨h1, h2⟩ := hJ al2 H2 st2 s2 rel2 hck
      by_cases hi : i < w.xs.length
      · obtain ⟨j1, j2⟩ := h1 i _ (List.getElem?_eq_getElem hi)
        refine .inr ⟨j1, fun σ3 H3 => ∃ al3 st3 e3, Stp al1 H1 al3 H3 ∧ Rel g al3 st3 H3 ∧ RS g.K H3 al3 e3 σ3 ∧ SPost g (F (w.xs.drop (i + 1)) e3 st3) al3 H3 D W, ?_, ?_⟩
        · intro σ3 H3 ⟨al3, st3, e3, a1, a2, a3, a4⟩
          exact ⟨w.xs.length - (i + 1), by omega, al3, st3, e3, a1, a2, a3, rfl, by omega, a4⟩
        · intro x H3 hy
          obtain ⟨s3, rel3, rv3⟩ := j2 x H3 hy
          rw [List.drop_eq_getElem_cons hi] at p2
          have p2 : SPost g ((forL t w.ck kb (w.xs[i] :: w.xs.drop (i + 1)) e2 st2).bind fun e st => k e st) al2 H2 D W := p2
          unfold forL at p2
          rw [if_pos hck] at p2
          have rs3 := rs2.step rel2.notup s3
          cases hb : bindT t w.xs[i] e2 with
          | none => rw [hb] at p2; exact p2.elim
          | some e3 =>
            rw [hb] at p2
            dsimp only at p2
            refine ⟨al2, st2, e2, w.xs[i], e3, rel3, rs3, rv3, hb, fun σ4 rs4 _ _ => ?_⟩
            have p3 : SPost g ((kb e3 st2).bind fun e st => F (w.xs.drop (i + 1)) e st) al2 H2 D W := by
              revert p2
              generalize kb e3 st2 = y
              cases y <;> exact fun z => z
            refine ⟨al2, st2, e3, rel3, rs4, SPost.imp (SPost.shift s3 (SPost.bind p3)) (fun σ5 H5 ⟨al5, st5, e5, s5, rel5, rs5, q5⟩ => ?_) fun _ _ q => q⟩
            exact ⟨al5, st5, e5, s2.trans s5, rel5, rs5, q5⟩
      · have ei : i = w.xs.length := by omega
        subst ei
        refine .inl ⟨h2, ?_⟩
        have p2 : SPost g ((forL t w.ck kb (w.xs.drop w.xs.length) e2 st2).bind fun e st => k e st) al2 H2 D W := p2
        rw [List.drop_length] at p2
        unfold forL at p2
        rw [if_pos hck] at p2
        exact ⟨al2, st2, e2, rel2, rs2, p2⟩
    · have p2 : SPost g ((forL t w.ck kb (w.xs.drop i) e2 st2).bind fun e st => k e st) al2 H2 D W := p2
      revert p2
      generalize w.xs.drop i = l
      intro p2
      cases l with
      | nil =>
        unfold forL at p2
        rw [if_neg hck] at p2
        exact p2.elim
      | cons x l =>
        unfold forL at p2
        rw [if_neg hck] at p2
        exact p2.elim
theorem h_whil {bs : List Stmt} {kb : Slots → Sto → SR} (hp : PassesOwn (model X.prog X.w) X.A X.env X.xe) (ht : PT X c (TTv g W rc)) (hb : PSs X bs (TSv g W kb)) (hk : PSs X rest (TSv g W k)) :
    PSs X (.While c bs [] pos :: rest) (TSv g W fun e st => (whL rc kb wfuel e st).bind fun e st => k e st) := by
  refine PSs.imp (pss_cons (ps_while hp ht hb) hk) fun D σ H ⟨al, st, e, rel, rs, p⟩ => ?_
  let F : Nat → Slots → Sto → SR := fun q e st => (whL rc kb q e st).bind fun e st => k e st
  refine ⟨fun q σ2 H2 => ∃ al2 st2 e2, Rel g al2 st2 H2 ∧ RS g.K H2 al2 e2 σ2 ∧ SPost g (F q e2 st2) al2 H2 D W, ⟨wfuel, al, st, e, rel, rs, p⟩, ?_⟩
  intro q σ2 H2 ⟨al2, st2, e2, rel2, rs2, p2⟩
  cases q with
  | zero => exact p2.elim
  | succ q =>
    have p3 : SPost g ((tst (rc e2 st2)).st e2 fun v st => if v = true then (kb e2 st).bind fun e st => F q e st else k e2 st) al2 H2 D W := by
      have p2 : SPost g ((whL rc kb (q + 1) e2 st2).bind fun e st => k e st) al2 H2 D W := p2
      unfold whL at p2
      revert p2
      generalize rc e2 st2 = y
      intro p2
      cases y with
      | ok v st =>
        cases v with
        | bl b =>
          cases b with
          | true =>
            have p2 : SPost g (((kb e2 st).bind fun e st => whL rc kb q e st).bind fun e st => k e st) al2 H2 D W := p2
            show SPost g ((kb e2 st).bind fun e st => F q e st) al2 H2 D W
            revert p2
            generalize kb e2 st = y
            cases y <;> exact fun z => z
          | false => exact p2
        | _ => exact p2.elim
      | ex c st => exact p2
      | no => exact p2
    refine ⟨al2, st2, e2, rel2, rs2, Post.imp (SPost.aft (RA := beOf) rs2 rel2 p3) fun x H3 ⟨al3, v, st3, s3, rel3, rv3, p4⟩ => ?_⟩
    have rv3 : v = x := rv3
    subst rv3
    have rs3 := rs2.step rel2.notup s3
    cases v with
    | false =>
      rw [if_neg Bool.false_ne_true] at p4 ⊢
      exact ⟨al3, st3, e2, rel3, rs3, p4⟩
    | true =>
      rw [if_pos rfl] at p4 ⊢
      refine ⟨fun σ4 H4 => ∃ al4 st4 e4, Rel g al4 st4 H4 ∧ RS g.K H4 al4 e4 σ4 ∧ SPost g (F q e4 st4) al4 H4 D W, fun σ4 H4 z => ⟨q, Nat.lt_succ_self _, z⟩, ?_⟩
      exact ⟨al3, st3, e2, rel3, rs3, SPost.imp (SPost.bind p4) (fun σ5 H5 ⟨al5, st5, e5, s5, rel5, rs5, q5⟩ => ⟨al5, st5, e5, rel5, rs5, q5⟩) fun _ _ q => q⟩
end
end L3

/-! Snd11: all statements, all defs. -/
namespace L3
open PySem PySem.Spec PyProof.Rows L2

section
variable {g : G} {m : MC} {n : Nat}
/-- whether name = [..] exchanges its stores -/
theorem sw_eq {elt : Expr} {gs : List Comprehension} {scope : Scope} {pos py : Pos} {y : Str} {l : Nat} {env : Env} (hk : env.scope.kind = .function) (hy : env.scope.names.lookup y = some .local) :
    swapsWith (.ListComp elt gs scope pos) (some (.Name y py)) l env = pure ((py.line == pos.line) && !(scope.names.any fun (n, k) => n == y && (k == .local || k == .cell))) := by
  have ky : env.kindOf y = some .local := hy
  have hb : env.blockKind = .function := by unfold Env.blockKind; rw [hk]; rfl
  unfold swapsWith
  simp only [hb, ky, Expr.pos]
  rfl
/-- a cell's stores are not exchanged -/
theorem sw_no {e : Expr} {py : Pos} {y : Str} {l : Nat} {env : Env} (hy : env.scope.names.lookup y = some .cell) : swapsWith e (some (.Name y py)) l env = pure false := by
  have ky : env.kindOf y = some .cell := hy
  unfold swapsWith
  split
  · simp only [ky]
    have : (some NameKind.cell == some NameKind.local) = false := rfl
    simp only [this, Bool.and_false, Bool.false_and]
  · rfl
theorem s_asg {X : Cx} {W : WX} {i : Nat} {x : Str} {a : E} {e : Expr} {p pos : Pos} (G0 : GOk g m n) (C : Cxt g m n X) (kd : X.env.scope.kind = .function) (hf : ∀ x, X.fn x = true) (tk : Takes X W) (h1 : slotB m i x = true) (h2 : lcellB X.env.scope x = true) (h3 : matE m a X.env.scope e = true)
    (h4 : (noComp e || lcellB X.env.scope x) = true) : PS X (.Assign [.Name x p] e pos) (tAsg (TV g W (ev g.T (lev g.T n).1 (lev g.T n).2 a)) (gName i)) := by
  have hi : X.N[i]? = some x := by rw [C.N]; exact of_decide_eq_true h1
  have k := (sE G0 a X W e C tk h3).1
  by_cases hn : noComp e = true
  · exact ps_set C.nd hi (lcell_of h2) k (by cases e <;> first | rfl | (cases hn)) (.inl (hf x))
  · by_cases hl : locB X.env.scope x = true
    case neg =>
      have hcl : X.env.scope.names.lookup x = some .cell := by
        rcases lcell_of h2 with z | z
        · exact absurd (by unfold locB; rw [z]) hl
        · exact z
      refine ps_set C.nd hi (lcell_of h2) k (sw_no hcl) (.inl (hf x))
    cases a with
    | lc own tg it cond elt =>
      unfold matE at h3
      split at h3
      · rename_i elt' tg' it' cs' scope ps
        obtain ⟨h3, g8⟩ := and3 h3
        obtain ⟨h3, g7⟩ := and3 h3
        obtain ⟨h3, g6⟩ := and3 h3
        obtain ⟨h3, g5⟩ := and3 h3
        obtain ⟨h3, g4⟩ := and3 h3
        obtain ⟨h3, g3⟩ := and3 h3
        obtain ⟨g1, g2⟩ := and3 h3
        by_cases hb : ((p.line == ps.line) && !(scope.names.any fun (n, k) => n == x && (k == .local || k == .cell))) = true
        · have ok := blkOk_by g1
          rw [← C.N] at ok
          have B := fun (s : Shared) (H : Hp) (Cc : Addr) (cl : List (Str × Addr)) (fp : List Addr) => C.blk s H scope Cc cl fp
          have hg := fun (s : Shared) (H : Hp) (Cc : Addr) (cl : List (Str × Addr)) (fp : List Addr) => k_tg (g := g) (m := m) (t := tg) (tg := tg') (X := X.blk s H scope (compEnvC scope cl Cc X.env) fp) (c := cellN scope) (fun x z => z) (B s H Cc cl fp).S C.calm C.N C.nd g6
          have ht := fun (s : Shared) (H : Hp) (Cc : Addr) (cl : List (Str × Addr)) (fp : List Addr) => (sEs G0 cond (X.blk s H scope (compEnvC scope cl Cc X.env) fp) W0 cs' (B s H Cc cl fp) takesW0 g7).ifs (of_decide_eq_true g4)
          have he := fun (s : Shared) (H : Hp) (Cc : Addr) (cl : List (Str × Addr)) (fp : List Addr) => (sE G0 elt (X.blk s H scope (compEnvC scope cl Cc X.env) fp) W0 elt' (B s H Cc cl fp) takesW0 g8).1
          have hi2 := sI G0 it X W tg' it' C tk g5
          have ee : ev g.T (lev g.T n).1 (lev g.T n).2 (.lc own tg it cond elt) = fun e st => (evIt g.T (lev g.T n).1 (lev g.T n).2 it e st).bind fun w st => (lcL tg w.ck (evAnd g.T (lev g.T n).1 (lev g.T n).2 cond) (ev g.T (lev g.T n).1 (lev g.T n).2 elt) (wipeA e own) w.xs [] st).bind fun acc st => alloc (.lst acc) st := by
            funext e st
            rw [ev]
          rw [ee]
          refine PS.imp (ps_setLc C.calm C.nd hi (loc_of hl) (by rw [sw_eq kd (loc_of hl), hb]) hi2 ok hg ht he (ifs_one (b := it') g3 X.env)) fun D σ H q => ?_
          exact k_lc C.S C.calm C.nd ok (of_decide_eq_true g2) hi2 g3 hg ht he σ H _ q
        · have hb' : ((p.line == ps.line) && !(scope.names.any fun (n, k) => n == x && (k == .local || k == .cell))) = false := Bool.eq_false_iff.mpr hb
          exact ps_set C.nd hi (lcell_of h2) k (by rw [sw_eq kd (loc_of hl), hb']) (.inl (hf x))
      · cases h3
    | bad => exact ⟨fun pins s σ H D I ⟨al, st, e, rel, rs, p⟩ => p.elim⟩
    | _ =>
      unfold matE at h3
      split at h3 <;> first
        | (exact absurd rfl hn)
        | (cases h3)
/-! ### except clauses -/
theorem ql_nil {X : Cx} {W : WX} : PA X [] (TVs g W (evs g.T (lev g.T n).1 (lev g.T n).2 .nil)) := by
  have e : evs g.T (lev g.T n).1 (lev g.T n).2 .nil = fun _ st => .ok [] st := by funext e st; unfold evs; rfl
  rw [e]
  exact k_nil
mutual
theorem sQ (G0 : GOk g m n) : ∀ (x : E) (X : Cx) (W : WX) (e : Expr), Same4 g X → X.N = m.N → quE x = true → matE m x X.env.scope e = true → PE X e (TV g W (ev g.T (lev g.T n).1 (lev g.T n).2 x))
  | .var i, X, W, e, S, hN, q, h => by
    unfold matE at h
    split at h
    · rename_i x p
      simp only [Bool.and_eq_true, Bool.not_eq_true'] at h
      obtain ⟨⟨⟨h1, h2⟩, h3⟩, h4⟩ := h
      exact k_var h1 h2 h3 h4 hN
    · cases h
  | .con v, X, W, e, S, hN, q, h => by
    unfold matE at h
    split at h
    · have e1 : ev g.T (lev g.T n).1 (lev g.T n).2 (.con v) = fun _ st => .ok v st := by funext e st; rw [ev]
      rw [e1]
      exact k_con h
    · cases h
  | .lst es, X, W, e, S, hN, q, h => by
    unfold matE at h
    split at h
    · obtain ⟨h1, h2⟩ := and3 h
      have e1 : ev g.T (lev g.T n).1 (lev g.T n).2 (.lst es) = fun e st => (evs g.T (lev g.T n).1 (lev g.T n).2 es e st).bind fun xs st => if xs.length ≤ lim then alloc (.lst xs) st else .no := by funext e st; rw [ev]
      rw [e1]
      exact k_lst (sQs G0 es X W _ S hN q h1 h2)
    · cases h
  | .bin op a b, X, W, e, S, hN, q, h => by
    unfold matE at h
    split at h
    · obtain ⟨q1, q2⟩ := and3 q
      obtain ⟨h, h3⟩ := and3 h
      obtain ⟨h1, h2⟩ := and3 h
      have h1 := of_decide_eq_true h1
      subst h1
      have e1 : ev g.T (lev g.T n).1 (lev g.T n).2 (.bin op a b) = fun e st => (ev g.T (lev g.T n).1 (lev g.T n).2 a e st).bind fun x st => (ev g.T (lev g.T n).1 (lev g.T n).2 b e st).bind fun y st => binA op x y st := by funext e st; rw [ev]
      rw [e1]
      exact k_bin (sQ G0 a X W _ S hN q1 h2) (sQ G0 b X W _ S hN q2 h3)
    · cases h
  | .isx d a, X, W, e, S, hN, q, h => by
    unfold matE at h
    split at h
    · obtain ⟨h, h6⟩ := and3 h
      obtain ⟨h, h5⟩ := and3 h
      obtain ⟨h, h4⟩ := and3 h
      obtain ⟨h, h3⟩ := and3 h
      obtain ⟨h1, h2⟩ := and3 h
      have e1 : ev g.T (lev g.T n).1 (lev g.T n).2 (.isx d a) = fun e st => (ev g.T (lev g.T n).1 (lev g.T n).2 a e st).bind fun v st => isxA g.T v d st := by funext e st; rw [ev]
      rw [e1]
      exact k_isx G0 S h1 h2 (of_decide_eq_true h3) (of_decide_eq_true h4) h5 (sQ G0 a X W _ S hN q h6)
    · cases h
  | .kon _, _, _, _, _, _, q, _ => by cases q
  | .neg _, _, _, _, _, _, q, _ => by cases q
  | .not _, _, _, _, _, _, q, _ => by cases q
  | .and _, _, _, _, _, _, q, _ => by cases q
  | .or _, _, _, _, _, _, q, _ => by cases q
  | .cmp _ _ _, _, _, _, _, _, q, _ => by cases q
  | .chain _ _ _ _ _, _, _, _, _, _, q, _ => by cases q
  | .tup _, _, _, _, _, _, q, _ => by cases q
  | .dnew _, _, _, _, _, _, q, _ => by cases q
  | .dnn, _, _, _, _, _, q, _ => by cases q
  | .ddsp _ _, _, _, _, _, _, q, _ => by cases q
  | .dn1 _ _, _, _, _, _, _, q, _ => by cases q
  | .call _ _, _, _, _, _, _, q, _ => by cases q
  | .mk _ _, _, _, _, _, _, q, _ => by cases q
  | .bcall _ _, _, _, _, _, _, q, _ => by cases q
  | .isi _ _, _, _, _, _, _, q, _ => by cases q
  | .meth _ _ _, _, _, _, _, _, q, _ => by cases q
  | .fld _ _, _, _, _, _, _, q, _ => by cases q
  | .idx _ _, _, _, _, _, _, q, _ => by cases q
  | .sl _ _ _, _, _, _, _, _, q, _ => by cases q
  | .lrng _, _, _, _, _, _, q, _ => by cases q
  | .sset _, _, _, _, _, _, q, _ => by cases q
  | .slen _, _, _, _, _, _, q, _ => by cases q
  | .stp _ _, _, _, _, _, _, q, _ => by cases q
  | .inrg _ _, _, _, _, _, _, q, _ => by cases q
  | .rev _, _, _, _, _, _, q, _ => by cases q
  | .lc _ _ _ _ _, _, _, _, _, _, q, _ => by cases q
  | .bad, _, _, _, _, _, q, _ => by cases q
theorem sQs (G0 : GOk g m n) : ∀ (xs : Es) (X : Cx) (W : WX) (vs : List Expr), Same4 g X → X.N = m.N → quEs xs = true → vs.all noStar = true → matEs m xs X.env.scope vs = true → PA X vs (TVs g W (evs g.T (lev g.T n).1 (lev g.T n).2 xs))
  | .nil, X, W, vs, S, hN, q, hs, h => by
    unfold matEs at h
    split at h
    · exact ql_nil
    · cases h
  | .cons a as, X, W, vs, S, hN, q, hs, h => by
    unfold matEs at h
    split at h
    · obtain ⟨h1, h2⟩ := and3 h
      obtain ⟨q1, q2⟩ := and3 q
      rw [List.all_cons, Bool.and_eq_true] at hs
      have e : evs g.T (lev g.T n).1 (lev g.T n).2 (.cons a as) = fun e st => (ev g.T (lev g.T n).1 (lev g.T n).2 a e st).bind fun a st => (evs g.T (lev g.T n).1 (lev g.T n).2 as e st).bind fun as st => .ok (a :: as) st := by funext e st; rw [evs]
      rw [e]
      exact k_cons hs.1 (sQ G0 a X W _ S hN q1 h1) (sQs G0 as X W _ S hN q2 hs.2 h2)
    · cases h
end
set_option maxHeartbeats 1000000 in
/-- an except clause's statements -/
theorem sSu (G0 : GOk g m n) : ∀ (s : S) (X : Cx) (W : WX) (ss : List Stmt), Same4 g X → X.N = m.N → X.N.Nodup → (∀ x, X.fn x = true) → quS s = true → matS m X.env.scope s ss = true → PSs X ss (TSv g W (exS g.T (lev g.T n).1 (lev g.T n).2 s))
  | .done, X, W, ss, S, hN, nd, hf, q, h => by
    unfold matS at h
    split at h
    · exact h_done
    · cases h
  | .asg i a k, X, W, ss, S, hN, nd, hf, q, h => by
    unfold matS at h
    split at h
    · rename_i x p e pos r
      obtain ⟨q1, q2⟩ := and3 q
      obtain ⟨h, h5⟩ := and3 h
      obtain ⟨h, h4⟩ := and3 h
      obtain ⟨h, h3⟩ := and3 h
      obtain ⟨h1, h2⟩ := and3 h
      have hc : swapsWith e (some (.Name x p)) pos.line X.env = pure false := by
        cases a <;> first | (cases q1; done) | (unfold matE at h3; split at h3 <;> first | rfl | (cases h3))
      have hs : PS X (.Assign [.Name x p] e pos) (tAsg (TV g W (ev g.T (lev g.T n).1 (lev g.T n).2 a)) (gName i)) := ps_set nd (by rw [hN]; exact of_decide_eq_true h1) (lcell_of h2) (sQ G0 a X W _ S hN q1 h3) hc (.inl (hf x))
      exact h_asg hs (sSu G0 k X W _ S hN nd hf q2 h5)
    · cases h
  | .asgT _ _ _, _, _, _, _, _, _, _, q, _ => by cases q
  | .asgL _ _ _, _, _, _, _, _, _, _, q, _ => by cases q
  | .asgF _ _ _ _, _, _, _, _, _, _, _, q, _ => by cases q
  | .asgI _ _ _ _, _, _, _, _, _, _, _, q, _ => by cases q
  | .aug _ _ _ _, _, _, _, _, _, _, _, q, _ => by cases q
  | .augF _ _ _ _ _, _, _, _, _, _, _, _, q, _ => by cases q
  | .expr _ _, _, _, _, _, _, _, _, q, _ => by cases q
  | .ret _, _, _, _, _, _, _, _, q, _ => by cases q
  | .retN, _, _, _, _, _, _, _, q, _ => by cases q
  | .ite _ _ _ _, _, _, _, _, _, _, _, q, _ => by cases q
  | .loop _ _ _ _, _, _, _, _, _, _, _, q, _ => by cases q
  | .whil _ _ _, _, _, _, _, _, _, _, q, _ => by cases q
  | .rais _, _, _, _, _, _, _, _, q, _ => by cases q
  | .tryx _ _ _ _ _, _, _, _, _, _, _, _, q, _ => by cases q
  | .tryn _ _ _ _, _, _, _, _, _, _, _, q, _ => by cases q
  | .lock _ _ _, _, _, _, _, _, _, _, q, _ => by cases q
  | .bad, _, _, _, _, _, _, _, q, _ => by cases q
/-- how a def's own context stands -/
structure Own3 (X : Cx) : Prop where
  st : X.stack = X.env :: X.outer
  fr : X.env.frame = some X.env.locals
  ex : X.ex = []
theorem h_rais {X : Cx} {W : WX} {c : Nat} {x mm : Str} {j : Nat} {p p2 p3 pos : Pos} (G0 : GOk g m n) (C : Cxt g m n X) (tk : Takes X W) (hg : glb X.env.scope x = true) (hx : (x, c) ∈ m.ecls) (hc : c ∈ m.rcls) :
    PSs X [.Raise (some (.Call (.Name x p) [.Constant (.str mm) j p2] [] p3)) none pos] (TSv g W fun e st => .ex c e st) := by
  have R := G0.exr c hc
  have E := G0.ecl _ hx
  unfold EclOk at E
  rw [if_neg R.ne] at E
  have E : g.mg x = some (.ref (g.clsA c)) := E
  obtain ⟨h1, h2, h3⟩ := glb_of hg
  have K := C.S.K
  refine PSs.imp (pss_one (ps_raise C.calm tk (pmk_own PySem.F.excBase_ValueError (by rw [K]; exact R.ex) (by rw [C.S.mg]; exact E) (by rw [K]; exact R.kp) (raises_own (by rw [K]; exact R.sb) (by rw [K]; exact R.ty)) h1 h2))) fun D σ H ⟨al, st, e, rel, rs, p⟩ => ?_
  exact p al H σ (Stp.refl _ _) rel rs
theorem h_tryx {X : Cx} {W : WX} {c i : Nat} {x nn : Str} {q1 q2 q3 : Pos} {bs su rest : List Stmt} {b1 : Stmt} {body s2 k : S} (G0 : GOk g m n) (C : Cxt g m n X) (O : Own3 X) (hg : glb X.env.scope x = true) (hx : (x, c) ∈ m.ecls) (h9 : c ≠ 999) (hi : slotB m i nn = true) (hl : locB X.env.scope nn = true)
    (hb : ∀ (W : WX) (pn : List (Addr × Obj)) (xe : Value → Shared → Prop), Takes (X.tr pn xe) W → PassesOwn (model X.prog X.w) X.A X.env xe → PSs (X.tr pn xe) bs (TSv g W (exS g.T (lev g.T n).1 (lev g.T n).2 body)))
    (hs : ∀ (a : Addr) (pn : List (Addr × Obj)), PSs (X.suite a pn) (b1 :: su) (TSv g (fun _ _ _ _ => False) (exS g.T (lev g.T n).1 (lev g.T n).2 s2)))
    (hk : PSs X rest (TSv g W (exS g.T (lev g.T n).1 (lev g.T n).2 k))) :
    PSs X (.Try bs [.ExceptHandler (some (.Name x q1)) (some nn) (b1 :: su) q2] [] [] q3 :: rest) (TSv g W (exS g.T (lev g.T n).1 (lev g.T n).2 (.tryx body c i s2 k))) := by
  have E := G0.ecl _ hx
  unfold EclOk at E
  rw [if_neg h9] at E
  have E : g.mg x = some (.ref (g.clsA c)) := E
  obtain ⟨h1, h2, h3⟩ := glb_of hg
  have K := C.S.K
  have T := ps_try_keep (X := X) (q2 := q2) (q3 := q3) (q1 := q1) (ts := fun _ => TSv g (fun _ _ _ _ => False) (exS g.T (lev g.T n).1 (lev g.T n).2 s2)) (tb := fun W => TSv g W (exS g.T (lev g.T n).1 (lev g.T n).2 body)) O.st O.fr O.ex C.nd (by rw [C.N]; exact of_decide_eq_true hi) (loc_of hl) ⟨h1, h2, .inl (by rw [C.S.mg]; exact E)⟩ hb hs
  refine PSs.imp (pss_cons T hk) fun D σ H ⟨al, st, e, rel, rs, p⟩ => ?_
  refine ⟨al, st, e, rel, rs, ?_⟩
  rw [exS] at p
  revert p
  generalize exS g.T (lev g.T n).1 (lev g.T n).2 body e st = y
  intro p
  cases y with
  | no => exact p
  | rt v st1 => exact p
  | nx e1 st1 => exact fun al1 H1 σ1 s1 r1 rs1 => ⟨al1, st1, e1, r1, rs1, SPost.shift s1 p⟩
  | ex c' e1 st1 =>
    dsimp only at p
    by_cases hc : g.T.sub c' c = some true
    · rw [if_pos hc] at p
      intro al1 H1 σ1 s1 r1 rs1
      have sk := G0.sub _ _ _ hc
      refine ⟨rfl, by rw [K]; exact sk.em rfl h9, fun a ha => ?_⟩
      have sn := stp_new (o := ExK (.ref (g.clsA c')) a) r1 ha (r1.free ha)
      have rn : Rel g (alUp al1 st1.length a) (st1 ++ [.exc c']) (upd H1 a (ExK (.ref (g.clsA c')) a)) := rel_new r1 ha (r1.free ha) upd_same
      have rv : RV g.K (upd H1 a (ExK (.ref (g.clsA c')) a)) (alUp al1 st1.length a) (.ref st1.length) (.ref a) := ⟨a, by unfold alUp; rw [if_pos rfl], rfl⟩
      refine ⟨alUp al1 st1.length a, st1 ++ [.exc c'], e1.set i (some (.ref st1.length)), rn, (rs1.step r1.notup sn).put i rv, ?_⟩
      have p := SPost.shift (s1.trans sn) p
      have p := SPost.bind p
      revert p
      generalize exS g.T (lev g.T n).1 (lev g.T n).2 s2 (e1.set i (some (.ref st1.length))) (st1 ++ [.exc c']) = z
      intro p
      cases z with
      | no => exact p
      | ex c2 e2 st2 => exact p.elim
      | rt v st2 => exact p
      | nx e2 st2 =>
        intro al2 H2 σ2 s2' r2 rs2
        obtain ⟨al3, st3, e3, s3, r3, rs3, p3⟩ := p al2 H2 σ2 s2' r2 rs2
        exact ⟨al3, st3, e3.set i none, r3, rs3.drop1 i none, p3⟩
    · rw [if_neg hc] at p
      exact p.elim
theorem h_tryn {X : Cx} {W : WX} {c : Nat} {x : Str} {q1 q2 q3 : Pos} {bs su rest : List Stmt} {b1 : Stmt} {body s2 k : S} (G0 : GOk g m n) (C : Cxt g m n X) (O : Own3 X) (tk : Takes X W) (hg : glb X.env.scope x = true) (hx : (x, c) ∈ m.ecls) (h9 : c ≠ 999)
    (hb : ∀ (W : WX) (pn : List (Addr × Obj)) (xe : Value → Shared → Prop), Takes (X.tr pn xe) W → PassesOwn (model X.prog X.w) X.A X.env xe → PSs (X.tr pn xe) bs (TSv g W (exS g.T (lev g.T n).1 (lev g.T n).2 body)))
    (hs : ∀ (a : Addr) (pn : List (Addr × Obj)), PSs (X.suite a pn) (b1 :: su) (TSv g (fun _ _ _ _ => False) (exS g.T (lev g.T n).1 (lev g.T n).2 s2)))
    (hk : PSs X rest (TSv g W (exS g.T (lev g.T n).1 (lev g.T n).2 k))) :
    PSs X (.Try bs [.ExceptHandler (some (.Name x q1)) none (b1 :: su) q2] [] [] q3 :: rest) (TSv g W (exS g.T (lev g.T n).1 (lev g.T n).2 (.tryn body c s2 k))) := by
  have E := G0.ecl _ hx
  unfold EclOk at E
  rw [if_neg h9] at E
  have E : g.mg x = some (.ref (g.clsA c)) := E
  obtain ⟨h1, h2, h3⟩ := glb_of hg
  have K := C.S.K
  have T := ps_try_only (X := X) (pos' := q2) (pos := q3) (np := q1) (c := .ref (g.clsA c)) (Wout := W) (ts := fun _ _ _ => TSv g (fun _ _ _ _ => False) (exS g.T (lev g.T n).1 (lev g.T n).2 s2)) (tb := fun W => TSv g W (exS g.T (lev g.T n).1 (lev g.T n).2 body)) O.st O.fr ⟨h1, h2, .inl (by rw [C.S.mg]; exact E)⟩ tk hb (fun a oe cls d pn _ _ => hs a _)
  refine PSs.imp (pss_cons T hk) fun D σ H ⟨al, st, e, rel, rs, p⟩ => ?_
  refine ⟨al, st, e, rel, rs, ?_⟩
  rw [exS] at p
  revert p
  generalize exS g.T (lev g.T n).1 (lev g.T n).2 body e st = y
  intro p
  cases y with
  | no => exact p
  | rt v st1 => exact p
  | nx e1 st1 => exact fun al1 H1 σ1 s1 r1 rs1 => ⟨al1, st1, e1, r1, rs1, SPost.shift s1 p⟩
  | ex c' e1 st1 =>
    dsimp only at p
    by_cases hc : g.T.sub c' c = some true
    · rw [if_pos hc] at p
      intro al1 H1 σ1 s1 r1 rs1
      have sk := G0.sub _ _ _ hc
      refine ⟨true, by rw [K]; exact sk.em rfl h9, fun _ a ha => ?_, fun z => by cases z⟩
      refine ⟨al1, st1, e1, r1, rs1, ?_⟩
      have p := SPost.shift s1 p
      have p := SPost.bind p
      revert p
      generalize exS g.T (lev g.T n).1 (lev g.T n).2 s2 e1 st1 = z
      intro p
      cases z with
      | no => exact p
      | ex c2 e2 st2 => exact p.elim
      | rt v st2 => exact p
      | nx e2 st2 =>
        intro al2 H2 σ2 s2' r2 rs2
        obtain ⟨al3, st3, e3, s3, r3, rs3, p3⟩ := p al2 H2 σ2 s2' r2 rs2
        exact ⟨al3, st3, e3, r3, rs3, p3⟩
    · rw [if_neg hc] at p
      exact p.elim
/-! ### a dict is locked -/
theorem ps_of_one {X : Cx} {s1 : Stmt} {t : TS} (h : PSs X [s1] t) : PS X s1 t := by
  refine ⟨fun pins s σ H D I q => ?_⟩
  have z := h.run pins s σ H D I q
  intro Γ p hΓ
  have z := z Γ p hΓ
  rw [execs_cons, Sem.wp_bind'] at z
  refine Sem.wp_mono _ Γ _ (fun f p' s' h' => ?_) (fun _ _ _ h' => h') _ _ z
  cases f <;> exact h'
theorem Mono.unl {K : PySem.W.Frag} {al : Al} {H : Hp} {p : Addr} {od : Obj} {u o : HO} (h : H p = some (.frz od u)) (hn : ∀ xs, u ≠ .lst xs) : Mono K al H al (upd H p o) := by
  refine ⟨fun _ _ h => h, fun q ws h' => ?_, fun q ws h' => ?_⟩
  · rw [upd_ne (fun z => by rw [z, h] at h'; cases h')]; exact h'
  · rcases h' with ⟨ob, h'⟩ | h'
    · exact .inl ⟨ob, by rw [upd_ne (fun z => by rw [z, h] at h'; cases h'; exact hn _ rfl)]; exact h'⟩
    · exact .inr h'
theorem RS.mono {K : PySem.W.Frag} {H H' : Hp} {al al' : Al} {e : Slots} {σ : L2.St} (r : RS K H al e σ) (m : Mono K al H al' H') : RS K H' al' e σ := ⟨r.len, fun i v h => by
  obtain ⟨w, h1, h2⟩ := r.at_ i v h
  exact ⟨w, h1, RV.mono m _ _ h2⟩⟩
/-- the lock is taken off -/
structure Unl (g : G) (al : Al) (H : Hp) (al' : Al) (H' : Hp) (n : Nat) (p : Addr) (o l : AO) (od : Obj) (u : HO) : Prop where
  keep : H' p = some (.frz od u)
  stp : Stp al H al' (upd H' p u)
  mono : Mono g.K al' H' al' (upd H' p u)
  rel : ∀ st, Rel g al' st H' → st[n]? = some l → Rel g al' (st.set n o) (upd H' p u)
theorem unl_of {g : G} {al al' : Al} {H H' : Hp} {n : Nat} {p : Addr} {o l : AO} {od : Obj} {u : HO} (ea : al n = some p) (hu : H p = some u) (hf : ∀ ob v, u ≠ .frz ob v) (hn : ∀ xs, u ≠ .lst xs) (s : Stp al (upd H p (.frz od u)) al' H')
    (hr : RO g H' al' p l → ∀ H2, H2 p = some u → Mono g.K al' H' al' H2 → RO g H2 al' p o) : Unl g al H al' H' n p o l od u := by
  have k := s.lk p od u upd_same
  have mo : Mono g.K al' H' al' (upd H' p u) := Mono.unl k hn
  refine ⟨k, ⟨s.up, fun q v h hq => ?_, fun m q h => ?_, fun q h => ?_, fun q ob v h => ?_⟩, mo, fun st r hl => ⟨r.inj, fun m q h => ?_, fun m v h => ?_⟩⟩
  · have ne : q ≠ p := fun z => hq n (by rw [z]; exact ea)
    rw [upd_ne ne]
    exact s.fr q v (by rw [upd_ne ne]; exact h) hq
  · rcases s.nw m q h with z | z
    · exact .inl z
    · by_cases e : q = p
      · rw [e, upd_same] at z; cases z
      · rw [upd_ne e] at z; exact .inr z
  · by_cases e : q = p
    · rw [e, upd_same]; intro z; cases z
    · rw [upd_ne e]
      exact s.kp q (by rw [upd_ne e]; exact h)
  · have ne : q ≠ p := fun z => by
      rw [z, hu] at h
      exact hf ob v (Option.some.inj h)
    rw [upd_ne ne]
    exact s.lk q ob v (by rw [upd_ne ne]; exact h)
  · rw [List.length_set]; exact r.dom m q h
  · by_cases e : m = n
    · subst e
      rw [List.getElem?_set_self (r.dom m p (s.up m p ea))] at h
      cases h
      obtain ⟨q, e2, ro⟩ := r.obj m _ hl
      rw [s.up m p ea] at e2
      cases e2
      exact ⟨p, s.up m p ea, hr ro _ upd_same mo⟩
    · rw [List.getElem?_set_ne (Ne.symm e)] at h
      obtain ⟨q, e2, ro⟩ := r.obj m v h
      have hqp : q ≠ p := fun y => e (r.inj m n p (by rw [e2, y]) (s.up n p ea))
      exact ⟨q, e2, ro.mono mo (upd_ne hqp)⟩
theorem spot_of {r : R AV} {st : Sto} {n : Nat} {o l : AO} (h : spotA r st = some (n, o, l)) : st[n]? = some o ∧ lockA o = some l := by
  unfold spotA at h
  split at h
  · split at h
    · rename_i o1 q1
      cases hl : lockA o1 with
      | none => rw [hl] at h; cases h
      | some l1 =>
        rw [hl] at h
        cases h
        exact ⟨q1, hl⟩
    · cases h
  · cases h
theorem h_lock {X : Cx} {W : WX} {s1 : Stmt} {rest : List Stmt} {kb k : Slots → Sto → SR} {ra : Run1 AV} (hb : PSs X [s1] (TSv g W kb)) (hk : PSs X rest (TSv g W k)) :
    PSs X (s1 :: rest) (TSv g W fun e st => match spotA (ra e st) st with | some (n, o, l) => unlk n o l (kb e (st.set n l)) k | none => .no) := by
  refine PSs.imp (pss_cons (ps_lock (ps_of_one hb)) hk) fun D σ H ⟨al, st, e, rel, rs, p⟩ => ?_
  dsimp only at p
  cases hsp : spotA (ra e st) st with
  | none => rw [hsp] at p; exact p.elim
  | some t =>
    obtain ⟨n, o, l⟩ := t
    rw [hsp] at p
    have p : SPost g (unlk n o l (kb e (st.set n l)) k) al H D W := p
    obtain ⟨hn, hl⟩ := spot_of hsp
    obtain ⟨p0, ea, ro⟩ := rel.obj n o hn
    have main : ∀ (u : HO), H p0 = some u → Mut (some u) → (∀ ob v, u ≠ .frz ob v) → (∀ xs, u ≠ .lst xs) → (∀ od, RO g (upd H p0 (.frz od u)) al p0 l) → (∀ al' H' od, H' p0 = some (.frz od u) → RO g H' al' p0 l → ∀ H2, H2 p0 = some u → Mono g.K al' H' al' H2 → RO g H2 al' p0 o) →
        tSeq (tLock (TSv g W kb)) (TSv g W k) D σ H := by
      intro u hu mu hf hnl hL hR
      refine ⟨p0, u, hu, mu, fun od => ⟨al, st.set n l, e, rel_set rel ea hu (hL od) hf, rs.step rel.notup (stp_set ea hu hf), ?_⟩⟩
      have U : ∀ {al' : Al} {H' : Hp}, Stp al (upd H p0 (.frz od u)) al' H' → Unl g al H al' H' n p0 o l od u := fun {al' H'} s => unl_of ea hu hf hnl s fun r H2 h2 m => hR al' H' od (s.lk _ _ _ upd_same) r H2 h2 m
      revert p
      generalize kb e (st.set n l) = y
      intro p
      cases y with
      | nx e2 s2 =>
        unfold unlk at p
        dsimp only at p
        by_cases h2 : s2[n]? = some l
        · rw [if_pos h2] at p
          intro al' H' σ' s r rs'
          have z := U s
          exact ⟨z.keep, al', s2.set n o, e2, z.rel s2 r h2, rs'.mono z.mono, SPost.shift z.stp p⟩
        · rw [if_neg h2] at p
          exact p.elim
      | rt v s2 =>
        unfold unlk at p
        dsimp only at p
        by_cases h2 : s2[n]? = some l
        · rw [if_pos h2] at p
          intro al' H' w s r rv
          have z := U s
          exact ⟨z.keep, p al' _ w z.stp (z.rel s2 r h2) (RV.mono z.mono _ _ rv)⟩
        · rw [if_neg h2] at p
          exact p.elim
      | ex c e2 s2 => exact p.elim
      | no => exact p.elim
    cases o with
    | dK kvs =>
      cases hl
      obtain ⟨ws, hp, rp⟩ := ro
      refine main (.dK ws) hp trivial (fun _ _ z => by cases z) (fun _ z => by cases z) (fun od => ⟨od, ws, upd_same, RP.step rel.notup (stp_set ea hp) _ _ rp⟩) fun al' H' od hk r H2 h2 m => ?_
      obtain ⟨o2, ws2, q1, q2⟩ := r
      rw [hk] at q1
      cases q1
      exact ⟨ws, h2, RP.mono m _ _ q2⟩
    | dT kvs =>
      cases hl
      obtain ⟨ws, hp, rp⟩ := ro
      refine main (.dT ws) hp trivial (fun _ _ z => by cases z) (fun _ z => by cases z) (fun od => ⟨od, ws, upd_same, RP.step rel.notup (stp_set ea hp) _ _ rp⟩) fun al' H' od hk r H2 h2 m => ?_
      obtain ⟨o2, ws2, q1, q2⟩ := r
      rw [hk] at q1
      cases q1
      exact ⟨ws, h2, RP.mono m _ _ q2⟩
    | _ => cases hl
set_option maxHeartbeats 4000000 in
theorem sS (G0 : GOk g m n) : ∀ (s : S) (X : Cx) (W : WX) (ss : List Stmt), Cxt g m n X → X.env.scope.kind = .function → (∀ x, X.fn x = true) → PassesOwn (model X.prog X.w) X.A X.env X.xe → Takes X W → Own3 X → matS m X.env.scope s ss = true → PSs X ss (TSv g W (exS g.T (lev g.T n).1 (lev g.T n).2 s))
  | .done, X, W, ss, C, kd, hf, hp, tk, O, h => by
    unfold matS at h
    split at h
    · exact h_done
    · cases h
  | .asg i a k, X, W, ss, C, kd, hf, hp, tk, O, h => by
    unfold matS at h
    split at h
    · obtain ⟨h, h5⟩ := and3 h
      obtain ⟨h, h4⟩ := and3 h
      obtain ⟨h, h3⟩ := and3 h
      obtain ⟨h1, h2⟩ := and3 h
      exact h_asg (s_asg G0 C kd hf tk h1 h2 h3 h4) (sS G0 k X W _ C kd hf hp tk O h5)
    · cases h
  | .asgT is a k, X, W, ss, C, kd, hf, hp, tk, O, h => by
    unfold matS at h
    split at h
    · obtain ⟨h, h5⟩ := and3 h
      obtain ⟨h, h4⟩ := and3 h
      obtain ⟨h, h3⟩ := and3 h
      obtain ⟨h1, h2⟩ := and3 h
      exact h_asgT hf C.S C.calm C.N C.nd h1 (sE G0 a X W _ C tk h4).1 h2 h3 (sS G0 k X W _ C kd hf hp tk O h5)
    · cases h
  | .asgL is a k, X, W, ss, C, kd, hf, hp, tk, O, h => by
    unfold matS at h
    split at h
    · obtain ⟨h, h5⟩ := and3 h
      obtain ⟨h, h4⟩ := and3 h
      obtain ⟨h, h3⟩ := and3 h
      obtain ⟨h1, h2⟩ := and3 h
      exact h_asgL hf C.S C.calm C.N C.nd h1 (sE G0 a X W _ C tk h4).1 h2 h3 (sS G0 k X W _ C kd hf hp tk O h5)
    · cases h
  | .asgF o f a k, X, W, ss, C, kd, hf, hp, tk, O, h => by
    unfold matS at h
    split at h
    · obtain ⟨h, h5⟩ := and3 h
      obtain ⟨h, h4⟩ := and3 h
      obtain ⟨h, h3⟩ := and3 h
      obtain ⟨h1, h2⟩ := and3 h
      have e1 := of_decide_eq_true h1
      rw [G0.nm] at e1
      subst e1
      exact h_asgF C.S (sE G0 o X W _ C tk h2).1 (sE G0 a X W _ C tk h3).1 h4 (G0.fls · f) (sS G0 k X W _ C kd hf hp tk O h5)
    · cases h
  | .asgI o i a k, X, W, ss, C, kd, hf, hp, tk, O, h => by
    unfold matS at h
    split at h
    · obtain ⟨h, h5⟩ := and3 h
      obtain ⟨h, h4⟩ := and3 h
      obtain ⟨h, h3⟩ := and3 h
      obtain ⟨h1, h2⟩ := and3 h
      exact h_asgI h2 C.S C.hu (sE G0 o X W _ C tk h1).1 (sE G0 i X W _ C tk h3).1 (sE G0 a X W _ C tk h4).1 (sS G0 k X W _ C kd hf hp tk O h5)
    · cases h
  | .aug i op a k, X, W, ss, C, kd, hf, hp, tk, O, h => by
    unfold matS at h
    split at h
    · obtain ⟨h, h6⟩ := and3 h
      obtain ⟨h, h5⟩ := and3 h
      obtain ⟨h, h4⟩ := and3 h
      obtain ⟨h, h3⟩ := and3 h
      obtain ⟨h1, h2⟩ := and3 h
      have e1 := of_decide_eq_true h3
      subst e1
      exact h_aug hf C.N C.nd h1 h2 (sE G0 a X W _ C tk h5).1 (sS G0 k X W _ C kd hf hp tk O h6)
    · cases h
  | .augF o f op a k, X, W, ss, C, kd, hf, hp, tk, O, h => by
    unfold matS at h
    split at h
    · rename_i o' x p2 op' c kk p3 pos r
      obtain ⟨h, h5⟩ := and3 h
      obtain ⟨h, h4⟩ := and3 h
      obtain ⟨h, h3⟩ := and3 h
      obtain ⟨h1, h2⟩ := and3 h
      have e1 := of_decide_eq_true h1
      have e2 := of_decide_eq_true h2
      subst e2
      split at h4
      · cases c with
        | int j =>
          have e3 := of_decide_eq_true h4
          subst e3
          rw [G0.nm] at e1
          subst e1
          exact h_augF C.S (sE G0 o X W _ C tk h3).1 (G0.fls · f) (sS G0 k X W _ C kd hf hp tk O h5)
        | _ => cases h4
      · cases h4
    · cases h
  | .expr a k, X, W, ss, C, kd, hf, hp, tk, O, h => by
    unfold matS at h
    split at h
    · obtain ⟨h, h3⟩ := and3 h
      obtain ⟨h1, h2⟩ := and3 h
      exact h_expr (sE G0 a X W _ C tk h1).1 h2 (sS G0 k X W _ C kd hf hp tk O h3)
    · cases h
  | .ret a, X, W, ss, C, kd, hf, hp, tk, O, h => by
    unfold matS at h
    split at h
    · exact h_ret (sE G0 a X W _ C tk h).1
    · cases h
  | .retN, X, W, ss, C, kd, hf, hp, tk, O, h => by
    unfold matS at h
    split at h
    · exact h_retN
    · cases h
  | .ite c a b k, X, W, ss, C, kd, hf, hp, tk, O, h => by
    unfold matS at h
    split at h
    · obtain ⟨h, h4⟩ := and3 h
      obtain ⟨h, h3⟩ := and3 h
      obtain ⟨h1, h2⟩ := and3 h
      exact h_ite (sE G0 c X W _ C tk h1).2 (sS G0 a X W _ C kd hf hp tk O h2) (sS G0 b X W _ C kd hf hp tk O h3) (sS G0 k X W _ C kd hf hp tk O h4)
    · cases h
  | .loop tg it body k, X, W, ss, C, kd, hf, hp, tk, O, h => by
    unfold matS at h
    split at h
    · obtain ⟨h, h5⟩ := and3 h
      obtain ⟨h, h4⟩ := and3 h
      obtain ⟨h, h3⟩ := and3 h
      obtain ⟨h1, h2⟩ := and3 h
      exact h_loop hp C.calm (sI G0 it X W _ _ C tk h2) (k_tg (fun x _ => hf x) C.S C.calm C.N C.nd h1) (sS G0 body X W _ C kd hf hp tk O h4) h3 (sS G0 k X W _ C kd hf hp tk O h5)
    · cases h
  | .whil c body k, X, W, ss, C, kd, hf, hp, tk, O, h => by
    unfold matS at h
    split at h
    · obtain ⟨h, h3⟩ := and3 h
      obtain ⟨h1, h2⟩ := and3 h
      exact h_whil hp (sE G0 c X W _ C tk h1).2 (sS G0 body X W _ C kd hf hp tk O h2) (sS G0 k X W _ C kd hf hp tk O h3)
    · cases h
  | .rais c, X, W, ss, C, kd, hf, hp, tk, O, h => by
    unfold matS at h
    split at h
    · obtain ⟨h, h3⟩ := and3 h
      obtain ⟨h1, h2⟩ := and3 h
      have e1 : exS g.T (lev g.T n).1 (lev g.T n).2 (.rais c) = fun e st => .ex c e st := by funext e st; rw [exS]
      rw [e1]
      exact h_rais G0 C tk h1 (of_decide_eq_true h2) (of_decide_eq_true h3)
    · cases h
  | .tryx body c i su k, X, W, ss, C, kd, hf, hp, tk, O, h => by
    unfold matS at h
    split at h
    · rename_i b' x q1 nn s' q2 q3 r
      obtain ⟨h, k9⟩ := and3 h
      obtain ⟨h, k8⟩ := and3 h
      obtain ⟨h, k7⟩ := and3 h
      obtain ⟨h, k6⟩ := and3 h
      obtain ⟨h, k5⟩ := and3 h
      obtain ⟨h, k4⟩ := and3 h
      obtain ⟨h, k3⟩ := and3 h
      obtain ⟨h, k2⟩ := and3 h
      obtain ⟨k0, k1⟩ := and3 h
      cases s' with
      | nil => cases k5
      | cons b1 s' =>
        exact h_tryx G0 C O k0 (of_decide_eq_true k1) (of_decide_eq_true k2) k3 k4
          (fun W' pn xe tk' pa => sS G0 body (X.tr pn xe) W' _ ⟨⟨C.S.P, C.S.w, C.S.K, C.S.mg, C.S.base⟩, C.N, C.nd, C.calm, C.room⟩ kd hf pa tk' ⟨O.st, O.fr, O.ex⟩ k6)
          (fun a pn => sSu G0 su (X.suite a pn) _ _ ⟨C.S.P, C.S.w, C.S.K, C.S.mg, C.S.base⟩ C.N C.nd hf k7 k8)
          (sS G0 k X W _ C kd hf hp tk O k9)
    · cases h
  | .tryn body c su k, X, W, ss, C, kd, hf, hp, tk, O, h => by
    unfold matS at h
    split at h
    · rename_i b' x q1 s' q2 q3 r
      obtain ⟨h, k9⟩ := and3 h
      obtain ⟨h, k8⟩ := and3 h
      obtain ⟨h, k7⟩ := and3 h
      obtain ⟨h, k6⟩ := and3 h
      obtain ⟨h, k5⟩ := and3 h
      obtain ⟨h, k2⟩ := and3 h
      obtain ⟨k0, k1⟩ := and3 h
      cases s' with
      | nil => cases k5
      | cons b1 s' =>
        exact h_tryn G0 C O tk k0 (of_decide_eq_true k1) (of_decide_eq_true k2)
          (fun W' pn xe tk' pa => sS G0 body (X.tr pn xe) W' _ ⟨⟨C.S.P, C.S.w, C.S.K, C.S.mg, C.S.base⟩, C.N, C.nd, C.calm, C.room⟩ kd hf pa tk' ⟨O.st, O.fr, O.ex⟩ k6)
          (fun a pn => sSu G0 su (X.suite a pn) _ _ ⟨C.S.P, C.S.w, C.S.K, C.S.mg, C.S.base⟩ C.N C.nd hf k7 k8)
          (sS G0 k X W _ C kd hf hp tk O k9)
    · cases h
  | .lock a b k, X, W, ss, C, kd, hf, hp, tk, O, h => by
    unfold matS at h
    split at h
    · obtain ⟨h1, h2⟩ := and3 h
      have z := h_lock (ra := ev g.T (lev g.T n).1 (lev g.T n).2 a) (sS G0 b X W _ C kd hf hp tk O h1) (sS G0 k X W _ C kd hf hp tk O h2)
      refine PSs.imp z fun D σ H q => ?_
      obtain ⟨al, st, e, r1, r2, q⟩ := q
      refine ⟨al, st, e, r1, r2, ?_⟩
      rw [exS] at q
      dsimp only
      revert q
      cases spotA (ev g.T (lev g.T n).1 (lev g.T n).2 a e st) st <;> exact fun q => q
    · cases h
  | .bad, X, W, ss, C, kd, hf, hp, tk, O, h => ⟨fun pins s σ H D I ⟨al, st, e, rel, rs, p⟩ => p.elim⟩
end
end L3

/-! Snd12: all defs; the law. -/
namespace L3
open PySem PySem.Spec PyProof.Rows L2

def MC.at (m : MC) (N : List Str) : MC := { m with N := N }
/-- a def of the text, its code, where it stands -/
structure DF (g : G) (m0 : MC) (d : Nat) (a : Addr) (fd : FuncData) (ps : List Str) : Prop where
  ex : ∃ (x qual : Str) (st : Stmt) (N : List Str) (body : S), Fun g.K x qual st a fd ∧ FnScope N ps (defScope st) ∧ g.T.df d = some (ps.length, N.length, body) ∧ matS (m0.at N) (defScope st) body (defBody st) = true
  bd : L2.Binds g.K fd ps []
structure Facts (g : G) (m0 : MC) : Prop where
  nm : m0.nm = g.nm
  nms : NmOk g
  bn : ∀ x ∈ biNames, g.mg x = none
  kon : ∀ p ∈ m0.kons, ∃ u w, g.mg p.1 = some u ∧ conV p.2 = some w ∧ RelV w u
  dfs : ∀ p ∈ m0.defs, ∃ a fd ps, g.mg p.1 = some (.ref a) ∧ PySem.W.keepIn g.K (.ref a) = true ∧ DF g m0 p.2 a fd ps
  cls : ∀ p ∈ m0.clss, ∃ d a fd ps, g.T.ini p.2 = some d ∧ g.mg p.1 = some (.ref (g.clsA p.2)) ∧ Mk g.K (g.clsA p.2) a ∧ DF g m0 d a fd ps
  mts : ∀ c k d, g.T.mt c k = some d → ∃ a fd ps, Cls g.K (g.clsA c) ∧ Meth g.K (g.clsA c) (g.nm k) a ∧ DF g m0 d a fd ps
  fls : ∀ c f, g.T.fl c f = true → Cls g.K (g.clsA c) ∧ NoAttr g.K (g.clsA c) (g.nm f)
  ecl : ∀ p ∈ m0.ecls, EclOk g p.1 p.2
  exr : ∀ c ∈ m0.rcls, RaisOk g c
  sub : ∀ c d b, g.T.sub c d = some b → SubOk g c d b
section
variable {g : G} {m0 : MC} {n : Nat}
theorem spd_no {np : Nat} {vs : List V} {H : Hp} {Q : VK} {E : XK} : ¬ SpD g np (fun _ _ => .no) vs H Q E := by
  intro ⟨_, al, st, as, _, _, h⟩
  exact h
/-- what a level promises of the defs' codes -/
def Lev (g : G) (m0 : MC) (k : Nat) (f : CallF) : Prop := ∀ d a fd ps, DF g m0 d a fd ps → FnOk g.P g.w g.K g.mg g.base (L2.CX g.P g.w) k a fd ps (SpD g ps.length (f d)) ∧ ∀ as st, as.length ≠ ps.length → f d as st = .no
theorem lev_no (k : Nat) : Lev g m0 k (fun _ _ _ => .no) := fun d a fd ps D =>
  ⟨⟨fun vs H Q E h => (spd_no h).elim, fun A outer s H args us vs Q E _ _ _ _ h => (spd_no h).elim⟩, fun _ _ _ => rfl⟩
theorem gok_of (F : Facts g m0) (h1 : Lev g m0 (n + 1) (lev g.T n).1) (h2 : Lev g m0 n (lev g.T n).2) (N : List Str) : GOk g (m0.at N) n where
  nm := F.nm
  nms := F.nms
  bn := F.bn
  kon := F.kon
  dfs p hp := by
    obtain ⟨a, fd, ps, e1, e2, D⟩ := F.dfs p hp
    obtain ⟨f1, f2⟩ := h1 _ _ _ _ D
    exact ⟨a, fd, ps, e1, e2, D.bd, f1, f2⟩
  cls p hp := by
    obtain ⟨d, a, fd, ps, e1, e2, e3, D⟩ := F.cls p hp
    obtain ⟨f1, f2⟩ := h2 _ _ _ _ D
    exact ⟨d, e1, a, fd, ps, e2, e3, D.bd, f1, f2⟩
  mts c k d hd := by
    obtain ⟨a, fd, ps, e1, e2, D⟩ := F.mts c k d hd
    obtain ⟨f1, f2⟩ := h1 _ _ _ _ D
    exact ⟨a, fd, ps, e1, e2, D.bd, f1, f2⟩
  fls := F.fls
  ecl := F.ecl
  exr := F.exr
  sub := F.sub
theorem rs_start {K : PySem.W.Frag} {H : Hp} {al : Al} {N : List Str} {as : List AV} {vs : List V} {k : Nat} (rv : RVs K H al as vs) (hk : k = N.length) : RS K H al (as.map some ++ List.replicate (k - as.length) none) (L2.start N vs) := by
  subst hk
  unfold L2.start
  refine ⟨by simp [rv.length], fun i v h => ?_⟩
  by_cases hi : i < as.length
  · rw [List.getElem?_append_left (by simpa using hi), List.getElem?_map] at h
    obtain ⟨x, h1, h2⟩ := Option.map_eq_some_iff.mp h
    cases h2
    obtain ⟨w, h3, h4⟩ := rv.get h1
    refine ⟨w, ?_, h4⟩
    rw [List.getElem?_append_left (by rw [List.length_map, ← rv.length]; exact hi), List.getElem?_map, h3]
    rfl
  · rw [List.getElem?_append_right (by simpa using hi), List.getElem?_replicate] at h
    split at h <;> cases h
theorem lev_step (F : Facts g m0) (h1 : Lev g m0 (n + 1) (lev g.T n).1) (h2 : Lev g m0 n (lev g.T n).2) : Lev g m0 (n + 2) (lev g.T (n + 1)).1 := by
  intro d a fd ps D
  obtain ⟨x, qual, st, N, body, Fn, Sc, hdf, hm⟩ := D.ex
  have hno : ∀ as st, as.length ≠ ps.length → (lev g.T (n + 1)).1 d as st = .no := by
    intro as st hl
    show runD g.T (lev g.T n).1 (lev g.T n).2 d as st = .no
    unfold runD
    rw [hdf]
    dsimp only
    rw [if_neg hl]
  refine ⟨?_, hno⟩
  have G0 := gok_of F h1 h2 N
  refine Fn.okX Sc (fun vs H Q E h => h.1) fun cdv A outer s H vs Q E hr h => ?_
  obtain ⟨hl, al, st0, as, rel, rv, p⟩ := h
  have hla : as.length = ps.length := by rw [rv.length]; exact hl
  have C : Cxt g (m0.at N) n (cxOf (L2.CX g.P g.w) g.P g.w g.K g.mg g.base N qual (defScope st) a cdv A outer s H E) := ⟨⟨rfl, rfl, rfl, rfl, rfl⟩, rfl, Sc.nd, rfl, hr⟩
  have hp : PassesOwn (model g.P g.w) (A.deeper (envOfC qual (defScope st) s.heap.objs.size a cdv)) (envOfC qual (defScope st) s.heap.objs.size a cdv) (cxOf (L2.CX g.P g.w) g.P g.w g.K g.mg g.base N qual (defScope st) a cdv A outer s H E).xe := passes_of (X := cxOf (L2.CX g.P g.w) g.P g.w g.K g.mg g.base N qual (defScope st) a cdv A outer s H E) rfl
  have tk : Takes (cxOf (L2.CX g.P g.w) g.P g.w g.K g.mg g.base N qual (defScope st) a cdv A outer s H E) (fun cls dd _ H => E cls dd H) := takes_of rfl rfl rfl rfl
  refine ⟨_, sS G0 body _ (fun cls dd _ H => E cls dd H) _ C Sc.kind (fun _ => rfl) hp tk ⟨rfl, rfl, rfl⟩ hm, ?_⟩
  refine ⟨al, st0, as.map some ++ List.replicate (N.length - as.length) none, rel, rs_start rv rfl, ?_⟩
  have p : Post g (rvOf g) (runD g.T (lev g.T n).1 (lev g.T n).2 d as st0) al H Q fun c H' => E (.ref (g.clsA c)) none H' := p
  unfold runD at p
  rw [hdf] at p
  dsimp only at p
  rw [if_pos hla, ← hla] at p
  revert p
  generalize exS g.T (lev g.T n).1 (lev g.T n).2 body (as.map some ++ List.replicate (N.length - as.length) none) st0 = y
  intro p
  cases y with
  | nx e st2 => exact fun al1 H1 σ1 s1 r1 _ => p al1 H1 .non s1 r1 rfl
  | rt v st2 => exact fun al1 H1 w s1 r1 rv1 => p al1 H1 w s1 r1 rv1
  | ex c e st2 => exact fun al1 H1 σ1 s1 r1 _ => p al1 H1 s1 r1
  | no => exact p
theorem levels (F : Facts g m0) : ∀ n, Lev g m0 (n + 1) (lev g.T n).1 ∧ Lev g m0 n (lev g.T n).2
  | 0 => ⟨lev_no 1, lev_no 0⟩
  | n + 1 => ⟨lev_step F (levels F n).1 (levels F n).2, (levels F n).1⟩
/-- the law's promise -/
def spLaw (K : PySem.W.Frag) : Sp := fun vs H Q _ => ∃ (a : Addr) (ns : List Int), vs = [.ref a] ∧ Only H ∧ SqL K H a (ns.map V.int) ∧ ns.length ≤ 63 ∧ ∀ H', Q (.bl true) H'
theorem law_ok (F : Facts g m0) {d : Nat} {a : Addr} {fd : FuncData} {x : Str} (D : DF g m0 d a fd [x]) (n : Nat) (h : ∀ ns : List Int, ns.length ≤ 63 → ∃ st, callF g.T n d [.rol ns] [] = .ok (.bl true) st) :
    FnOk g.P g.w g.K g.mg g.base (L2.CX g.P g.w) (n + 1) a fd [x] (spLaw g.K) := by
  refine FnOk.imp ((levels F n).1 d a fd [x] D).1 fun vs H Q E ⟨b, ns, ev, ho, hq, hl, q⟩ => ?_
  subst ev
  obtain ⟨st, e⟩ := h ns hl
  refine ⟨rfl, fun _ => none, [], [.rol ns], ⟨fun _ _ _ h => by (cases h), fun _ _ h => by (cases h), fun _ _ h => by (simp at h)⟩, ⟨_, _, rfl, ⟨b, rfl, ?_⟩, rfl⟩, ?_⟩
  · rcases hq with (hq | ⟨o, hq⟩) | hq
    · rcases ho b with z | ⟨o, xs, z⟩
      · rw [z] at hq; cases hq
      · rw [z] at hq; cases hq
    · exact .inl ⟨o, hq⟩
    · exact .inr hq
  · have e : (lev g.T n).1 d [.rol ns] [] = .ok (.bl true) st := e
    rw [e]
    intro al' H' w s r rv
    obtain rfl : w = .bl true := rv
    exact q H'
end
theorem cx_no {P : Program} {w : World} {H : Hp} {s : Shared} {e : Value} {s' : Shared} (h : L2.CX P w [] H s (fun _ _ _ => False) e s') : False := by
  obtain ⟨_, _, _, _, _, h⟩ := h
  exact h.2.2.2.2.2.2.2
end L3

/-! PyP: tools to reckon what the machine gives. -/
namespace L3
open PySem L2

def R.Is {A : Type} (r : R A) (Q : A → Sto → Prop) : Prop := match r with
  | .ok a s => Q a s
  | _ => False
def SR.Is (r : SR) (N : Slots → Sto → Prop) (T : AV → Sto → Prop) : Prop := match r with
  | .nx e s => N e s
  | .rt v s => T v s
  | _ => False
section
variable {A B : Type} {T : Tab} {cf cf1 : CallF} {e : Slots} {st : Sto} {N : Slots → Sto → Prop} {Tr : AV → Sto → Prop}
theorem R.is_ok {a : A} {Q : A → Sto → Prop} : (R.ok a st).Is Q = Q a st := rfl
theorem R.is_no {Q : A → Sto → Prop} : (R.no : R A).Is Q = False := rfl
theorem R.is_ex {c : Nat} {Q : A → Sto → Prop} : (R.ex c st : R A).Is Q = False := rfl
theorem R.is_bind {r : R A} {f : A → Sto → R B} {Q : B → Sto → Prop} : (r.bind f).Is Q = r.Is fun a s => (f a s).Is Q := by cases r <;> rfl
theorem R.is_noex {r : R A} {f : A → Sto → R B} {Q : B → Sto → Prop} : (r.noex.bind f).Is Q = r.Is fun a s => (f a s).Is Q := by cases r <;> rfl
theorem R.is_st {r : R A} {f : A → Sto → SR} : (r.st e f).Is N Tr = r.Is fun a s => (f a s).Is N Tr := by cases r <;> rfl
theorem SR.is_nx : (SR.nx e st).Is N Tr = N e st := rfl
theorem SR.is_rt {v : AV} : (SR.rt v st).Is N Tr = Tr v st := rfl
theorem SR.is_no : SR.no.Is N Tr = False := rfl
theorem SR.is_bind {r : SR} {f : Slots → Sto → SR} : (r.bind f).Is N Tr = r.Is (fun e s => (f e s).Is N Tr) Tr := by cases r <;> rfl
theorem R.is_ofB {b : Bool} {Q : AV → Sto → Prop} : (R.ofB (some b) st).Is Q = Q (.bl b) st := rfl
theorem R.is_if {c : Prop} [Decidable c] {r r' : R A} {Q : A → Sto → Prop} : (if c then r else r').Is Q = if c then r.Is Q else r'.Is Q := by by_cases h : c <;> simp [h]
theorem SR.is_if {c : Prop} [Decidable c] {r r' : SR} : (if c then r else r').Is N Tr = if c then r.Is N Tr else r'.Is N Tr := by by_cases h : c <;> simp [h]
theorem R.Is.mono {r : R A} {Q Q' : A → Sto → Prop} (h : r.Is Q) (i : ∀ a s, Q a s → Q' a s) : r.Is Q' := by
  cases r with
  | ok a s => exact i _ _ h
  | _ => exact h
theorem SR.Is.mono {r : SR} {N N' : Slots → Sto → Prop} {Tr Tr' : AV → Sto → Prop} (h : r.Is N Tr) (i : ∀ a s, N a s → N' a s) (j : ∀ a s, Tr a s → Tr' a s) : r.Is N' Tr' := by
  cases r with
  | nx a s => exact i _ _ h
  | rt a s => exact j _ _ h
  | _ => exact h
theorem R.Is.eq {r : R A} {a : A} {s : Sto} (h : r = .ok a s) {Q : A → Sto → Prop} (q : Q a s) : r.Is Q := by rw [h]; exact q
theorem R.Is.get {r : R A} {Q : A → Sto → Prop} (h : r.Is Q) : ∃ a s, r = .ok a s ∧ Q a s := by
  cases r with
  | ok a s => exact ⟨a, s, rfl, h⟩
  | _ => exact h.elim
def slotIs : Slots → Nat → (AV → Prop) → Prop
  | some v :: _, 0, P => P v
  | _ :: e, n + 1, P => slotIs e n P
  | _, _, _ => False
theorem slot_0 {v : AV} {e : Slots} {P : AV → Prop} : slotIs (some v :: e) 0 P = P v := rfl
theorem slot_1 {o : Option AV} {n : Nat} {e : Slots} {P : AV → Prop} : slotIs (o :: e) (n + 1) P = slotIs e n P := by cases o <;> rfl
theorem slot_iff : ∀ {e : Slots} {i : Nat} {P : AV → Prop}, slotIs e i P = (match e[i]? with | some (some v) => P v | _ => False)
  | [], i, P => by cases i <;> rfl
  | o :: e, 0, P => by cases o <;> rfl
  | o :: e, i + 1, P => by rw [slot_1, slot_iff]; rfl
def setIs (e : Slots) (i : Nat) (o : Option AV) (K : Slots → Prop) : Prop := K (e.set i o)
theorem set_0 {o x : Option AV} {e : Slots} {K : Slots → Prop} : setIs (x :: e) 0 o K = K (o :: e) := rfl
theorem set_1 {o x : Option AV} {n : Nat} {e : Slots} {K : Slots → Prop} : setIs (x :: e) (n + 1) o K = setIs e n o fun e => K (x :: e) := rfl
def boolIs (v : AV) (P : Bool → Prop) : Prop := match v with
  | .bl b => P b
  | _ => False
theorem boolIs_b {b : Bool} {P : Bool → Prop} : boolIs (.bl b) P = P b := rfl
section
variable {Q : AV → Sto → Prop} {QL : List AV → Sto → Prop}
theorem i_var {i : Nat} : (ev T cf cf1 (.var i) e st).Is Q = slotIs e i fun v => Q v st := by
  rw [slot_iff]
  unfold ev
  cases e[i]? with
  | none => rfl
  | some o => cases o <;> rfl
theorem i_con {v : AV} : (ev T cf cf1 (.con v) e st).Is Q = Q v st := rfl
theorem i_kon {v : AV} : (ev T cf cf1 (.kon v) e st).Is Q = Q v st := rfl
theorem i_bin {op : Bop} {a b : E} : (ev T cf cf1 (.bin op a b) e st).Is Q = (ev T cf cf1 a e st).Is fun x st => (ev T cf cf1 b e st).Is fun y st => (binA op x y st).Is Q := by
  show (R.bind _ _).Is _ = _
  rw [R.is_bind]
  simp only [R.is_bind]
theorem i_neg {a : E} : (ev T cf cf1 (.neg a) e st).Is Q = (ev T cf cf1 a e st).Is fun x st => (negA x st).Is Q := R.is_bind
theorem i_not {a : E} : (ev T cf cf1 (.not a) e st).Is Q = (ev T cf cf1 a e st).Is fun x st => boolIs x fun b => Q (.bl !b) st := by
  refine R.is_bind.trans ?_
  congr 1
  funext v st
  cases v <;> rfl
theorem i_and {es : Es} : (ev T cf cf1 (.and es) e st).Is Q = (evAnd T cf cf1 es e st).Is Q := rfl
theorem i_or {es : Es} : (ev T cf cf1 (.or es) e st).Is Q = (evOr T cf cf1 es e st).Is Q := rfl
theorem i_and0 : (evAnd T cf cf1 .nil e st).Is Q = Q (.bl true) st := rfl
theorem i_or0 : (evOr T cf cf1 .nil e st).Is Q = Q (.bl false) st := rfl
theorem i_and1 {a : E} {es : Es} : (evAnd T cf cf1 (.cons a es) e st).Is Q = (ev T cf cf1 a e st).Is fun x st => boolIs x fun b => if b = true then (evAnd T cf cf1 es e st).Is Q else Q (.bl false) st := by
  refine R.is_bind.trans ?_
  congr 1
  funext v st
  cases v with
  | bl b => cases b <;> rfl
  | _ => rfl
theorem i_or1 {a : E} {es : Es} : (evOr T cf cf1 (.cons a es) e st).Is Q = (ev T cf cf1 a e st).Is fun x st => boolIs x fun b => if b = true then Q (.bl true) st else (evOr T cf cf1 es e st).Is Q := by
  refine R.is_bind.trans ?_
  congr 1
  funext v st
  cases v with
  | bl b => cases b <;> rfl
  | _ => rfl
theorem i_cmp {op : Cop} {a b : E} : (ev T cf cf1 (.cmp op a b) e st).Is Q = (ev T cf cf1 a e st).Is fun x st => (ev T cf cf1 b e st).Is fun y st => (cmpA op x y st).Is Q := by
  refine R.is_bind.trans ?_
  congr 1
  funext v st
  exact R.is_bind
theorem i_chain {o1 o2 : Cop} {a b c : E} : (ev T cf cf1 (.chain o1 o2 a b c) e st).Is Q = (ev T cf cf1 a e st).Is fun x st => (ev T cf cf1 b e st).Is fun y st => (cmpA o1 x y st).Is fun k st => boolIs k fun t => if t = true then (ev T cf cf1 c e st).Is fun z st => (cmpA o2 y z st).Is Q else Q (.bl false) st := by
  refine R.is_bind.trans ?_
  congr 1
  funext v st
  refine R.is_bind.trans ?_
  congr 1
  funext w st
  refine R.is_bind.trans ?_
  congr 1
  funext k st
  cases k with
  | bl b =>
    cases b
    · rfl
    · exact R.is_bind
  | _ => rfl
theorem i_lst {es : Es} : (ev T cf cf1 (.lst es) e st).Is Q = (evs T cf cf1 es e st).Is fun xs st => if xs.length ≤ lim then Q (.ref st.length) (st ++ [.lst xs]) else False := by
  refine R.is_bind.trans ?_
  congr 1
  funext v st
  exact R.is_if
theorem i_tup {es : Es} : (ev T cf cf1 (.tup es) e st).Is Q = (evs T cf cf1 es e st).Is fun xs st => if xs.length ≤ lim then Q (.tup xs) st else False := by
  refine R.is_bind.trans ?_
  congr 1
  funext v st
  exact R.is_if
theorem i_dn1 {a b : E} : (ev T cf cf1 (.dn1 a b) e st).Is Q = (ev T cf cf1 a e (st ++ [.dN []])).Is fun k st1 => (ev T cf cf1 b e st1).Is fun v st2 => (disp1 st.length k v st2).Is Q := by
  rw [ev, R.is_bind]
  congr 1
  funext k st1
  exact R.is_bind
theorem i_dnn : (ev T cf cf1 .dnn e st).Is Q = Q (.ref st.length) (st ++ [.dN []]) := rfl
theorem i_dnew {t : Bool} : (ev T cf cf1 (.dnew t) e st).Is Q = Q (.ref st.length) (st ++ [if t = true then .dT [] else .dK []]) := rfl
theorem i_call {g : Nat} {es : Es} : (ev T cf cf1 (.call g es) e st).Is Q = (evs T cf cf1 es e st).Is fun xs st => (cf g xs st).Is Q := R.is_bind
theorem i_mk {g : Nat} {es : Es} : (ev T cf cf1 (.mk g es) e st).Is Q = (evs T cf cf1 es e st).Is fun xs st => (mkA T cf1 g xs st).Is Q := R.is_bind
theorem i_bcall {g : Bi} {es : Es} : (ev T cf cf1 (.bcall g es) e st).Is Q = (evs T cf cf1 es e st).Is fun xs st => (callB g xs st).Is Q := R.is_bind
theorem i_isi {t : Ty} {a : E} : (ev T cf cf1 (.isi t a) e st).Is Q = (ev T cf cf1 a e st).Is fun v st => (R.ofB (isA T t v st) st).Is Q := R.is_bind
theorem i_meth {m : Nat} {o : E} {es : Es} : (ev T cf cf1 (.meth m o es) e st).Is Q = (ev T cf cf1 o e st).Is fun v st => ((selA T m v st).ok ((evs T cf cf1 es e st).bind fun xs st1 => methA cf (selA T m v st) m v xs st1)).Is Q := R.is_bind
theorem i_sel {g m : Nat} {v : AV} {f : CallF} {r : R (List AV)} : ((Sel.own g).ok (r.bind fun xs st1 => methA f (Sel.own g) m v xs st1)).Is Q = r.Is fun xs st1 => (f g (v :: xs) st1).Is Q := R.is_bind
theorem i_selL {m : Nat} {v : AV} {f : CallF} {r : R (List AV)} : (Sel.lst.ok (r.bind fun xs st1 => methA f Sel.lst m v xs st1)).Is Q = r.Is fun xs st1 => (bmeth Sel.lst m v xs st1).Is Q := R.is_bind
theorem i_fld {o : E} {f : Nat} : (ev T cf cf1 (.fld o f) e st).Is Q = (ev T cf cf1 o e st).Is fun v st => (fldA T v f st).Is Q := R.is_bind
theorem i_idx {a b : E} : (ev T cf cf1 (.idx a b) e st).Is Q = (ev T cf cf1 a e st).Is fun x st => (ev T cf cf1 b e st).Is fun y st => (idxA x y st).Is Q := by
  refine R.is_bind.trans ?_
  congr 1
  funext v st
  exact R.is_bind
theorem i_sl {a : E} {lo hi : Es} : (ev T cf cf1 (.sl a lo hi) e st).Is Q = (ev T cf cf1 a e st).Is fun v st => (evO T cf cf1 lo e st).Is fun a st => (evO T cf cf1 hi e st).Is fun b st => (slA v a b st).Is Q := by
  refine R.is_bind.trans ?_
  congr 1
  funext v st
  refine R.is_bind.trans ?_
  congr 1
  funext v st
  exact R.is_bind
theorem i_sset {a : E} : (ev T cf cf1 (.sset a) e st).Is Q = (ev T cf cf1 a e st).Is fun x st => (ssetA x st).Is Q := R.is_bind
theorem i_slen {a : E} : (ev T cf cf1 (.slen a) e st).Is Q = (ev T cf cf1 a e st).Is fun x st => (slenA x st).Is Q := R.is_bind
theorem i_stp {k : Nat} {a : E} : (ev T cf cf1 (.stp k a) e st).Is Q = (ev T cf cf1 a e st).Is fun x st => (stpA k x st).Is Q := R.is_bind
theorem i_inrg {a b : E} : (ev T cf cf1 (.inrg a b) e st).Is Q = (ev T cf cf1 a e st).Is fun x st => (ev T cf cf1 b e st).Is fun y st => (inrA x y st).Is Q := by
  refine R.is_bind.trans ?_
  congr 1
  funext v st
  exact R.is_bind
theorem i_lrng {a : E} : (ev T cf cf1 (.lrng a) e st).Is Q = (ev T cf cf1 a e st).Is fun x st => (lrngA x st).Is Q := R.is_bind
theorem i_lc {own : List Nat} {tg : Tg} {it : Iw} {cond : Es} {elt : E} : (ev T cf cf1 (.lc own tg it cond elt) e st).Is Q = (evIt T cf cf1 it e st).Is fun w st => (lcL tg w.ck (fun e st => evAnd T cf cf1 cond e st) (fun e st => ev T cf cf1 elt e st) (wipeA e own) w.xs [] st).Is fun acc st => Q (.ref st.length) (st ++ [.lst acc]) := by
  refine R.is_bind.trans ?_
  congr 1
  funext v st
  exact R.is_bind
theorem i_nil : (evs T cf cf1 .nil e st).Is QL = QL [] st := rfl
theorem i_cons {a : E} {es : Es} : (evs T cf cf1 (.cons a es) e st).Is QL = (ev T cf cf1 a e st).Is fun x st => (evs T cf cf1 es e st).Is fun xs st => QL (x :: xs) st := by
  refine R.is_bind.trans ?_
  congr 1
  funext v st
  exact R.is_bind
variable {QO : Option Int → Sto → Prop} {QW : Wk → Sto → Prop}
theorem i_o0 : (evO T cf cf1 .nil e st).Is QO = QO none st := rfl
theorem i_o1 {a : E} {es : Es} : (evO T cf cf1 (.cons a es) e st).Is QO = (ev T cf cf1 a e st).Is fun x st => (optI x st).Is QO := R.is_bind
theorem i_opt {i : Int} : (optI (.int i) st).Is QO = QO (some i) st := rfl
theorem i_seq {a : E} : (evIt T cf cf1 (.seq a) e st).Is QW = (ev T cf cf1 a e st).Is fun v st => (wkA (srcA st v) st).Is QW := R.is_bind
theorem i_rng1 {a : E} : (evIt T cf cf1 (.rng1 a) e st).Is QW = (ev T cf cf1 a e st).Is fun v st => (wkA (rngA [v]) st).Is QW := R.is_bind
theorem i_rng2 {a b : E} : (evIt T cf cf1 (.rng2 a b) e st).Is QW = (ev T cf cf1 a e st).Is fun v st => (ev T cf cf1 b e st).Is fun u st => (wkA (rngA [v, u]) st).Is QW := by
  refine R.is_bind.trans ?_
  congr 1
  funext v st
  exact R.is_bind
theorem i_enum {a : E} : (evIt T cf cf1 (.enum a) e st).Is QW = (ev T cf cf1 a e st).Is fun v st => (wkA (enumA st v) st).Is QW := R.is_bind
theorem i_zip {a b : E} : (evIt T cf cf1 (.zip a b) e st).Is QW = (ev T cf cf1 a e st).Is fun v st => (ev T cf cf1 b e st).Is fun u st => (wkA (zipA st v u) st).Is QW := by
  refine R.is_bind.trans ?_
  congr 1
  funext v st
  exact R.is_bind
theorem i_wk {w : Wk} : (wkA (some w) st).Is QW = QW w st := rfl
theorem i_tst {r : R AV} {QB : Bool → Sto → Prop} : (tst r).Is QB = r.Is fun v st => boolIs v fun b => QB b st := by
  refine R.is_bind.trans ?_
  congr 1
  funext v st
  cases v <;> rfl
end
theorem ws_done : (exS T cf cf1 .done e st).Is N Tr = N e st := rfl
theorem ws_asg {i : Nat} {a : E} {k : S} : (exS T cf cf1 (.asg i a k) e st).Is N Tr = (ev T cf cf1 a e st).Is fun v st => setIs e i (some v) fun e => (exS T cf cf1 k e st).Is N Tr := R.is_st
theorem ws_asgT {is : List Nat} {a : E} {k : S} : (exS T cf cf1 (.asgT is a k) e st).Is N Tr = (ev T cf cf1 a e st).Is fun v st => (SR.ofE (bindT (.tp is) v e) fun e => exS T cf cf1 k e st).Is N Tr := R.is_st
theorem ws_asgL {is : List Nat} {a : E} {k : S} : (exS T cf cf1 (.asgL is a k) e st).Is N Tr = (ev T cf cf1 a e st).Is fun v st => (SR.ofE (bindL is v e st) fun e => exS T cf cf1 k e st).Is N Tr := R.is_st
theorem bindL_l {is : List Nat} {n : Nat} {xs : List AV} (h : st[n]? = some (.lst xs)) (hl : is.length = xs.length) : bindL is (.ref n) e st = some (bindT.go is xs e) := by
  unfold bindL
  dsimp only
  rw [h]
  dsimp only
  rw [if_pos hl]
theorem ws_ofE {f : Slots → SR} {e : Slots} : (SR.ofE (some e) f).Is N Tr = (f e).Is N Tr := rfl
theorem ws_of {f : Sto → SR} {st : Sto} : (SR.of (some st) f).Is N Tr = (f st).Is N Tr := rfl
theorem ws_asgF {o : E} {f : Nat} {a : E} {k : S} : (exS T cf cf1 (.asgF o f a k) e st).Is N Tr = (ev T cf cf1 a e st).Is fun v st => (ev T cf cf1 o e st).Is fun o st => (SR.of (setF T o f v st) fun st => exS T cf cf1 k e st).Is N Tr := by
  refine R.is_st.trans ?_
  congr 1
  funext v st
  exact R.is_st
theorem ws_asgI {o i : E} {a : E} {k : S} : (exS T cf cf1 (.asgI o i a k) e st).Is N Tr = (ev T cf cf1 a e st).Is fun v st => (ev T cf cf1 o e st).Is fun o st => (ev T cf cf1 i e st).Is fun i st => (SR.of (setI o i v st) fun st => exS T cf cf1 k e st).Is N Tr := by
  refine R.is_st.trans ?_
  congr 1
  funext v st
  refine R.is_st.trans ?_
  congr 1
  funext v st
  exact R.is_st
def intIs (v : AV) (P : Int → Prop) : Prop := match v with
  | .int b => P b
  | _ => False
theorem intIs_i {b : Int} {P : Int → Prop} : intIs (.int b) P = P b := rfl
theorem ws_aug {i : Nat} {op : Bop} {a : E} {k : S} : (exS T cf cf1 (.aug i op a k) e st).Is N Tr = slotIs e i fun x => (ev T cf cf1 a e st).Is fun v st => intIs x fun p => intIs v fun q => setIs e i (some (.int (p + q))) fun e => (exS T cf cf1 k e st).Is N Tr := by
  rw [slot_iff]
  conv => lhs; unfold exS
  cases e[i]? with
  | none => rfl
  | some o =>
    cases o with
    | none => rfl
    | some x =>
      refine R.is_st.trans ?_
      congr 1
      funext v st
      cases x <;> cases v <;> rfl
theorem ws_expr {a : E} {k : S} : (exS T cf cf1 (.expr a k) e st).Is N Tr = (ev T cf cf1 a e st).Is fun _ st => (exS T cf cf1 k e st).Is N Tr := R.is_st
theorem ws_ret {a : E} : (exS T cf cf1 (.ret a) e st).Is N Tr = (ev T cf cf1 a e st).Is Tr := R.is_st
theorem ws_retN : (exS T cf cf1 .retN e st).Is N Tr = Tr .non st := rfl
theorem ws_ite {c : E} {a b k : S} : (exS T cf cf1 (.ite c a b k) e st).Is N Tr = (ev T cf cf1 c e st).Is fun v st => boolIs v fun t => if t = true then (exS T cf cf1 a e st).Is (fun e st => (exS T cf cf1 k e st).Is N Tr) Tr else (exS T cf cf1 b e st).Is (fun e st => (exS T cf cf1 k e st).Is N Tr) Tr := by
  refine R.is_st.trans ?_
  congr 1
  funext v st
  cases v with
  | bl b => cases b <;> exact SR.is_bind
  | _ => rfl
theorem ws_loop {tg : Tg} {it : Iw} {body k : S} : (exS T cf cf1 (.loop tg it body k) e st).Is N Tr = (evIt T cf cf1 it e st).Is fun w st => (forL tg w.ck (fun e st => exS T cf cf1 body e st) w.xs e st).Is (fun e st => (exS T cf cf1 k e st).Is N Tr) Tr := by
  refine R.is_st.trans ?_
  congr 1
  funext v st
  exact SR.is_bind
theorem ws_whil {c : E} {body k : S} : (exS T cf cf1 (.whil c body k) e st).Is N Tr = (whL (fun e st => ev T cf cf1 c e st) (fun e st => exS T cf cf1 body e st) wfuel e st).Is (fun e st => (exS T cf cf1 k e st).Is N Tr) Tr := SR.is_bind
/-- a call -/
theorem call_is {n d np ns : Nat} {body : S} {args : List AV} {Q : AV → Sto → Prop} (h : T.df d = some (np, ns, body)) (hl : args.length = np)
    (k : (exS T (callF T n) (lev T n).2 body (args.map some ++ List.replicate (ns - np) none) st).Is (fun _ s => Q .non s) Q) : (callF T (n + 1) d args st).Is Q := by
  show (runD T (lev T n).1 (lev T n).2 d args st).Is Q
  unfold runD
  rw [h]
  dsimp only
  rw [if_pos hl]
  revert k
  show (exS T (lev T n).1 (lev T n).2 body (args.map some ++ List.replicate (ns - np) none) st).Is _ _ → _
  generalize exS T (lev T n).1 (lev T n).2 body (args.map some ++ List.replicate (ns - np) none) st = y
  cases y <;> exact fun z => z

/-! ### loops -/
theorem for_is {tg : Tg} {ck : Sto → Bool} {body : Slots → Sto → SR} (I : Nat → Slots → Sto → Prop) : ∀ (xs : List AV) (k : Nat) (e : Slots) (st : Sto), I k e st →
    (∀ i x e st, xs[i]? = some x → I (k + i) e st → ck st = true ∧ ∃ e', bindT tg x e = some e' ∧ (body e' st).Is (I (k + i + 1)) Tr) → (∀ e st, I (k + xs.length) e st → ck st = true ∧ N e st) → (forL tg ck body xs e st).Is N Tr
  | [], k, e, st, h, _, hd => by
    obtain ⟨h1, h2⟩ := hd e st h
    unfold forL
    rw [if_pos h1]
    exact h2
  | x :: xs, k, e, st, h, hs, hd => by
    obtain ⟨h1, e', h2, h3⟩ := hs 0 x e st rfl h
    unfold forL
    rw [if_pos h1, h2]
    dsimp only
    rw [SR.is_bind]
    refine SR.Is.mono h3 (fun e2 s2 h4 => ?_) fun _ _ q => q
    refine for_is I xs (k + 1) e2 s2 h4 (fun i y e st hy hI => ?_) fun e st hI => hd e st (by rw [List.length_cons, show k + (xs.length + 1) = k + 1 + xs.length by omega]; exact hI)
    have e3 : k + 1 + i = k + (i + 1) := by omega
    rw [e3] at hI ⊢
    exact hs (i + 1) y e st hy hI
theorem lc_is {tg : Tg} {ck : Sto → Bool} {cond elt : Slots → Sto → R AV} {e0 : Slots} {Q : List AV → Sto → Prop} (I : Nat → List AV → Sto → Prop) : ∀ (xs : List AV) (k : Nat) (acc : List AV) (st : Sto), I k acc st →
    (∀ i x acc st, xs[i]? = some x → I (k + i) acc st → ck st = true ∧ ∃ e', bindT tg x e0 = some e' ∧ (tst (cond e' st)).Is fun b st => if b = true then (elt e' st).Is fun v st => acc.length < lim ∧ I (k + i + 1) (acc ++ [v]) st else I (k + i + 1) acc st) →
    (∀ acc st, I (k + xs.length) acc st → ck st = true ∧ Q acc st) → (lcL tg ck cond elt e0 xs acc st).Is Q
  | [], k, acc, st, h, _, hd => by
    obtain ⟨h1, h2⟩ := hd acc st h
    unfold lcL
    rw [if_pos h1]
    exact h2
  | x :: xs, k, acc, st, h, hs, hd => by
    obtain ⟨h1, e', h2, h3⟩ := hs 0 x acc st rfl h
    unfold lcL
    rw [if_pos h1, h2]
    dsimp only
    rw [R.is_noex]
    have nxt : ∀ acc st, I (k + 1) acc st → (lcL tg ck cond elt e0 xs acc st).Is Q := fun acc st hI => by
      refine lc_is I xs (k + 1) acc st hI (fun i y acc st hy hI => ?_) fun acc st hI => hd acc st (by rw [List.length_cons, show k + (xs.length + 1) = k + 1 + xs.length by omega]; exact hI)
      have e3 : k + 1 + i = k + (i + 1) := by omega
      rw [e3] at hI ⊢
      exact hs (i + 1) y acc st hy hI
    refine R.Is.mono h3 fun b s2 h4 => ?_
    cases b with
    | true =>
      rw [if_pos rfl] at h4 ⊢
      rw [R.is_noex]
      refine R.Is.mono h4 fun v s3 ⟨h5, h6⟩ => ?_
      rw [if_pos h5]
      exact nxt _ _ h6
    | false =>
      rw [if_neg Bool.false_ne_true] at h4 ⊢
      exact nxt _ _ h4
theorem wh_is {c : Slots → Sto → R AV} {body : Slots → Sto → SR} (I : Nat → Slots → Sto → Prop)
    (hs : ∀ k e st, I k e st → (tst (c e st)).Is fun b st => if b = true then (body e st).Is (fun e st => ∃ k', k' < k ∧ I k' e st) Tr else N e st) : ∀ (f k : Nat) (e : Slots) (st : Sto), k < f → I k e st → (whL c body f e st).Is N Tr
  | 0, k, e, st, hf, _ => by omega
  | f + 1, k, e, st, hf, h => by
    have q := hs k e st h
    unfold whL
    rw [R.is_st]
    revert q
    generalize c e st = y
    intro q
    cases y with
    | ok v s2 =>
      cases v with
      | bl b =>
        cases b with
        | true =>
          show (SR.bind (body e s2) fun e st => whL c body f e st).Is N Tr
          have q : if true = true then (body e s2).Is (fun e st => ∃ k', k' < k ∧ I k' e st) Tr else N e s2 := q
          rw [if_pos rfl] at q
          rw [SR.is_bind]
          exact SR.Is.mono q (fun e3 s3 ⟨k', h1, h2⟩ => wh_is I hs f k' e3 s3 (by omega) h2) fun _ _ z => z
        | false =>
          have q : if false = true then (body e s2).Is (fun e st => ∃ k', k' < k ∧ I k' e st) Tr else N e s2 := q
          rw [if_neg Bool.false_ne_true] at q
          exact q
      | _ => exact q.elim
    | _ => exact q.elim

/-! ### the store -/
def Ext (st st' : Sto) : Prop := ∀ (n : Nat) (o : AO), st[n]? = some o → st'[n]? = some o
theorem Ext.refl (st : Sto) : Ext st st := fun _ _ h => h
theorem Ext.trans {a b c : Sto} (h : Ext a b) (k : Ext b c) : Ext a c := fun n o q => k n o (h n o q)
theorem Ext.push (st : Sto) (o : AO) : Ext st (st ++ [o]) := fun n u h => by
  rw [List.getElem?_append_left (List.getElem?_eq_some_iff.mp h).1]; exact h
theorem get_push (st : Sto) (o : AO) : (st ++ [o])[st.length]? = some o := by simp
theorem Ext.lt {a b : Sto} (h : Ext a b) : a.length ≤ b.length := by
  cases q : a.length with
  | zero => exact Nat.zero_le _
  | succ k =>
    have : k < a.length := by omega
    have z := h k _ (List.getElem?_eq_getElem this)
    have := (List.getElem?_eq_some_iff.mp z).1
    omega
/-- a change at what is new -/
theorem Ext.set {a b : Sto} {n : Nat} {o : AO} (h : Ext a b) (hn : a.length ≤ n) : Ext a (b.set n o) := fun m u q => by
  have := (List.getElem?_eq_some_iff.mp q).1
  rw [List.getElem?_set_ne (by omega)]
  exact h m u q

/-! ### comparisons -/
def chOk (x : List Nat) : Bool := x.all (· < 0x110000)
theorem strOk_of {x : List Nat} (h : chOk x = true) : PyData.strOk ⟨x.toArray⟩ = true := by
  unfold PyData.strOk
  rw [← Array.all_toList]
  exact h
theorem pdS_int (st : Sto) (i : Int) : pdS st (.int i) = some (.int i) := by
  unfold pdS pd
  dsimp only
  rw [if_pos (by rfl)]
theorem pdS_bl (st : Sto) (i : Bool) : pdS st (.bl i) = some (.bool i) := by
  unfold pdS pd
  dsimp only
  rw [if_pos (by rfl)]
theorem pdS_non (st : Sto) : pdS st .non = some .none := by
  unfold pdS pd
  dsimp only
  rw [if_pos (by rfl)]
theorem pdS_str (st : Sto) {x : List Nat} (h : chOk x = true) : pdS st (.str x) = some (.str ⟨x.toArray⟩) := by
  unfold pdS pd
  dsimp only
  rw [if_pos]
  unfold SeqAt.shaped
  rw [Bool.and_eq_true]
  exact ⟨by show PyData.canLay0 (.str ⟨x.toArray⟩) = true; unfold PyData.canLay0; exact strOk_of h, by simp [PyData.depth]⟩
theorem str_beq (x y : List Nat) : ((⟨x.toArray⟩ : Str) == ⟨y.toArray⟩) = decide (x = y) := by
  by_cases h : x = y
  · subst h; simp
  · have : (⟨x.toArray⟩ : Str) ≠ ⟨y.toArray⟩ := fun e => h (by
      injection e with e
      exact congrArg Array.toList e)
    simp [h, this]
theorem eqA_int (st : Sto) (i j : Int) : eqA st (.int i) (.int j) = some (decide (i = j)) := by
  unfold eqA
  rw [pdS_int, pdS_int]
  simp only [PyData.eqv]
  rfl
theorem eqA_bl (st : Sto) (i j : Bool) : eqA st (.bl i) (.bl j) = some (i == j) := by
  unfold eqA
  rw [pdS_bl, pdS_bl]
  simp [PyData.eqv]
theorem eqA_str (st : Sto) {x y : List Nat} (h : chOk x = true) (h2 : chOk y = true) : eqA st (.str x) (.str y) = some (decide (x = y)) := by
  unfold eqA
  rw [pdS_str st h, pdS_str st h2]
  simp only [PyData.eqv, str_beq]
theorem subIn_one (c : Nat) (z : List Nat) : subIn [c] z = decide (c ∈ z) := by
  unfold subIn
  have h := PySem.StrLaws.found_one ⟨z.toArray⟩ c
  have e : (⟨z.toArray⟩ : Str).length = z.length := by simp [Str.length]
  rw [e] at h
  exact h
theorem bools_map (bs : List Bool) : boolsA (bs.map .bl) = some bs := by
  induction bs with
  | nil => rfl
  | cons b bs ih => simp [boolsA, ih]
theorem all_is {n : Nat} {bs : List Bool} (h : st[n]? = some (.lst (bs.map .bl))) : callB .all [.ref n] st = .ok (.bl (bs.all id)) st := by
  simp only [callB, lstA, h, bools_map]
  rfl
theorem any_is {n : Nat} {bs : List Bool} (h : st[n]? = some (.lst (bs.map .bl))) : callB .any [.ref n] st = .ok (.bl (bs.any id)) st := by
  simp only [callB, lstA, h, bools_map]
  rfl

/-! ### one step each -/
theorem b_add {i j : Int} : binA .add (.int i) (.int j) st = .ok (.int (i + j)) st := rfl
theorem b_sub {i j : Int} : binA .sub (.int i) (.int j) st = .ok (.int (i - j)) st := rfl
theorem b_addS {a b : List Nat} (h : a.length + b.length ≤ lim) : binA .add (.str a) (.str b) st = .ok (.str (a ++ b)) st := by
  show (if a.length + b.length ≤ lim then _ else _) = _
  rw [if_pos h]
theorem b_addT {a b : List AV} (h : a.length + b.length ≤ lim) : binA .add (.tup a) (.tup b) st = .ok (.tup (a ++ b)) st := by
  show (if a.length + b.length ≤ lim then _ else _) = _
  rw [if_pos h]
theorem b_mul {i j : Int} (h : mulOk i j = true) : binA .mul (.int i) (.int j) st = .ok (.int (i * j)) st := by
  show (if mulOk i j = true then _ else _) = _
  rw [if_pos h]
theorem b_fdiv {i j : Int} (h : 0 < j ∧ j < 1073741824) : binA .fdiv (.int i) (.int j) st = .ok (.int (i / j)) st := by
  show (if 0 < j ∧ j < 1073741824 then _ else _) = _
  rw [if_pos h]
theorem b_mod {i j : Int} (h : 0 < j) : binA .mod (.int i) (.int j) st = .ok (.int (i % j)) st := by
  show (if 0 < j then _ else _) = _
  rw [if_pos h]
theorem b_pow {i j : Int} (h : 0 ≤ j ∧ j ≤ 1000000 ∧ i.natAbs < 18446744073709551616) : binA .pow (.int i) (.int j) st = .ok (.int (i ^ j.toNat)) st := by
  show (if 0 ≤ j ∧ j ≤ 1000000 ∧ i.natAbs < 18446744073709551616 then _ else _) = _
  rw [if_pos h]
theorem b_band {i j : Int} : binA .band (.int i) (.int j) st = .ok (.int (Builtin.bitAnd i j)) st := rfl
theorem b_shr {i j : Int} (h : 0 ≤ j) : binA .shr (.int i) (.int j) st = .ok (.int (i / 2 ^ j.toNat)) st := by
  show (if 0 ≤ j then _ else _) = _
  rw [if_pos h]
theorem mulOk_l {i j : Int} (h0 : 0 ≤ i) (h : i < 18446744073709551616) : mulOk i j = true := by
  unfold mulOk
  have : i.natAbs < 18446744073709551616 := by omega
  simp [this]
theorem mulOk_r {i j : Int} (h0 : 0 ≤ j) (h : j < 18446744073709551616) : mulOk i j = true := by
  unfold mulOk
  have : j.natAbs < 18446744073709551616 := by omega
  simp [this]
theorem c_lt {i j : Int} : cmpA .lt (.int i) (.int j) st = .ok (.bl (decide (i < j))) st := rfl
theorem c_le {i j : Int} : cmpA .le (.int i) (.int j) st = .ok (.bl (decide (i ≤ j))) st := rfl
theorem c_gt {i j : Int} : cmpA .gt (.int i) (.int j) st = .ok (.bl (decide (j < i))) st := rfl
theorem c_ge {i j : Int} : cmpA .ge (.int i) (.int j) st = .ok (.bl (decide (j ≤ i))) st := rfl
theorem c_eq {x y : AV} {b : Bool} (h : eqA st x y = some b) : cmpA .eq x y st = .ok (.bl b) st := by
  show R.ofB (eqA st x y) st = _
  rw [h]; rfl
theorem c_ne {x y : AV} {b : Bool} (h : eqA st x y = some b) : cmpA .ne x y st = .ok (.bl (!b)) st := by
  show R.ofB ((eqA st x y).map not) st = _
  rw [h]; rfl
theorem c_in {x y : AV} {b : Bool} (h : inA st x y = some b) : cmpA .isin x y st = .ok (.bl b) st := by
  show R.ofB (inA st x y) st = _
  rw [h]; rfl
theorem c_nin {x y : AV} {b : Bool} (h : inA st x y = some b) : cmpA .notin x y st = .ok (.bl (!b)) st := by
  show R.ofB ((inA st x y).map not) st = _
  rw [h]; rfl
theorem c_is {x : AV} : cmpA .is x .non st = .ok (.bl (decide (x = .non))) st := rfl
theorem c_isnot {x : AV} : cmpA .isnot x .non st = .ok (.bl (!decide (x = .non))) st := rfl
theorem c_eqI {i j : Int} : cmpA .eq (.int i) (.int j) st = .ok (.bl (decide (i = j))) st := c_eq (eqA_int st i j)
theorem c_neI {i j : Int} : cmpA .ne (.int i) (.int j) st = .ok (.bl (!decide (i = j))) st := c_ne (eqA_int st i j)
theorem c_eqB {i j : Bool} : cmpA .eq (.bl i) (.bl j) st = .ok (.bl (i == j)) st := c_eq (eqA_bl st i j)
theorem c_eqS {i j : List Nat} (h : chOk i = true) (h2 : chOk j = true) : cmpA .eq (.str i) (.str j) st = .ok (.bl (decide (i = j))) st := c_eq (eqA_str st h h2)
theorem c_neS {i j : List Nat} (h : chOk i = true) (h2 : chOk j = true) : cmpA .ne (.str i) (.str j) st = .ok (.bl (!decide (i = j))) st := c_ne (eqA_str st h h2)
theorem c_in1 {c : Nat} {z : List Nat} : cmpA .isin (.str [c]) (.str z) st = .ok (.bl (decide (c ∈ z))) st := by
  refine c_in ?_
  show some (subIn [c] z) = _
  rw [subIn_one]
theorem l_lenS {x : List Nat} (h : x.length ≤ lim) : callB .len [.str x] st = .ok (.int x.length) st := by
  show (if x.length ≤ lim then _ else _) = _
  rw [if_pos h]
theorem l_lenT {x : List AV} : callB .len [.tup x] st = .ok (.int x.length) st := rfl
theorem l_len {n : Nat} {x : List AV} (h : st[n]? = some (.lst x)) : callB .len [.ref n] st = .ok (.int x.length) st := by
  simp only [callB, h]
theorem neg_i {i : Int} : negA (.int i) st = .ok (.int (-i)) st := rfl
theorem not_b {b : Bool} : notA (.bl b) st = .ok (.bl (!b)) st := rfl
theorem tst_b {b : Bool} : tst (.ok (.bl b) st) = .ok b st := rfl
theorem ix_t {xs : List AV} {i : Int} {k : Nat} {v : AV} (h : L2.ixN xs.length i = some k) (h2 : xs[k]? = some v) : idxA (.tup xs) (.int i) st = .ok v st := by
  simp only [idxA, h, h2]
theorem ix_l {n : Nat} {xs : List AV} {i : Int} {k : Nat} {v : AV} (h0 : st[n]? = some (.lst xs)) (h : L2.ixN xs.length i = some k) (h2 : xs[k]? = some v) : idxA (.ref n) (.int i) st = .ok v st := by
  simp only [idxA, h0, h, h2]
theorem ix_s {xs : List Nat} {i : Int} {k : Nat} {v : Nat} (hl : xs.length ≤ lim) (h : L2.ixN xs.length i = some k) (h2 : xs[k]? = some v) : idxA (.str xs) (.int i) st = .ok (.str [v]) st := by
  simp only [idxA, if_pos hl, h, h2]
theorem ixN_nat {n k : Nat} (h : k < n) : L2.ixN n (k : Int) = some k := by
  unfold L2.ixN
  rw [if_pos (by omega), if_pos (by omega)]
  simp
theorem ixN_of {n : Nat} {i : Int} (h0 : 0 ≤ i) (h : i < n) : L2.ixN n i = some i.toNat := by
  unfold L2.ixN
  rw [if_pos h0, if_pos h]
theorem ib_add {i j : Int} {Q : AV → Sto → Prop} : (binA .add (.int i) (.int j) st).Is Q = Q (.int (i + j)) st := by rw [b_add]; rfl
theorem ib_sub {i j : Int} {Q : AV → Sto → Prop} : (binA .sub (.int i) (.int j) st).Is Q = Q (.int (i - j)) st := by rw [b_sub]; rfl
theorem ib_addS {a b : List Nat} (h : a.length + b.length ≤ lim) {Q : AV → Sto → Prop} : (binA .add (.str a) (.str b) st).Is Q = Q (.str (a ++ b)) st := by rw [b_addS h]; rfl
theorem ib_addT {a b : List AV} (h : a.length + b.length ≤ lim) {Q : AV → Sto → Prop} : (binA .add (.tup a) (.tup b) st).Is Q = Q (.tup (a ++ b)) st := by rw [b_addT h]; rfl
theorem ib_mul {i j : Int} (h : mulOk i j = true) {Q : AV → Sto → Prop} : (binA .mul (.int i) (.int j) st).Is Q = Q (.int (i * j)) st := by rw [b_mul h]; rfl
theorem ib_fdiv {i j : Int} (h : 0 < j ∧ j < 1073741824) {Q : AV → Sto → Prop} : (binA .fdiv (.int i) (.int j) st).Is Q = Q (.int (i / j)) st := by rw [b_fdiv h]; rfl
theorem ib_mod {i j : Int} (h : 0 < j) {Q : AV → Sto → Prop} : (binA .mod (.int i) (.int j) st).Is Q = Q (.int (i % j)) st := by rw [b_mod h]; rfl
theorem ib_pow {i j : Int} (h : 0 ≤ j ∧ j ≤ 1000000 ∧ i.natAbs < 18446744073709551616) {Q : AV → Sto → Prop} : (binA .pow (.int i) (.int j) st).Is Q = Q (.int (i ^ j.toNat)) st := by rw [b_pow h]; rfl
theorem ib_band {i j : Int} {Q : AV → Sto → Prop} : (binA .band (.int i) (.int j) st).Is Q = Q (.int (Builtin.bitAnd i j)) st := by rw [b_band]; rfl
theorem ib_shr {i j : Int} (h : 0 ≤ j) {Q : AV → Sto → Prop} : (binA .shr (.int i) (.int j) st).Is Q = Q (.int (i / 2 ^ j.toNat)) st := by rw [b_shr h]; rfl
theorem ic_lt {i j : Int} {Q : AV → Sto → Prop} : (cmpA .lt (.int i) (.int j) st).Is Q = Q (.bl (decide (i < j))) st := by rw [c_lt]; rfl
theorem ic_le {i j : Int} {Q : AV → Sto → Prop} : (cmpA .le (.int i) (.int j) st).Is Q = Q (.bl (decide (i ≤ j))) st := by rw [c_le]; rfl
theorem ic_gt {i j : Int} {Q : AV → Sto → Prop} : (cmpA .gt (.int i) (.int j) st).Is Q = Q (.bl (decide (j < i))) st := by rw [c_gt]; rfl
theorem ic_ge {i j : Int} {Q : AV → Sto → Prop} : (cmpA .ge (.int i) (.int j) st).Is Q = Q (.bl (decide (j ≤ i))) st := by rw [c_ge]; rfl
theorem ic_eq {x y : AV} {b : Bool} (h : eqA st x y = some b) {Q : AV → Sto → Prop} : (cmpA .eq x y st).Is Q = Q (.bl b) st := by rw [c_eq h]; rfl
theorem ic_ne {x y : AV} {b : Bool} (h : eqA st x y = some b) {Q : AV → Sto → Prop} : (cmpA .ne x y st).Is Q = Q (.bl (!b)) st := by rw [c_ne h]; rfl
theorem ic_in {x y : AV} {b : Bool} (h : inA st x y = some b) {Q : AV → Sto → Prop} : (cmpA .isin x y st).Is Q = Q (.bl b) st := by rw [c_in h]; rfl
theorem ic_nin {x y : AV} {b : Bool} (h : inA st x y = some b) {Q : AV → Sto → Prop} : (cmpA .notin x y st).Is Q = Q (.bl (!b)) st := by rw [c_nin h]; rfl
theorem ic_is {x : AV} {Q : AV → Sto → Prop} : (cmpA .is x .non st).Is Q = Q (.bl (decide (x = .non))) st := by rw [c_is]; rfl
theorem ic_isnot {x : AV} {Q : AV → Sto → Prop} : (cmpA .isnot x .non st).Is Q = Q (.bl (!decide (x = .non))) st := by rw [c_isnot]; rfl
theorem ic_eqI {i j : Int} {Q : AV → Sto → Prop} : (cmpA .eq (.int i) (.int j) st).Is Q = Q (.bl (decide (i = j))) st := by rw [c_eqI]; rfl
theorem ic_neI {i j : Int} {Q : AV → Sto → Prop} : (cmpA .ne (.int i) (.int j) st).Is Q = Q (.bl (!decide (i = j))) st := by rw [c_neI]; rfl
theorem ic_eqB {i j : Bool} {Q : AV → Sto → Prop} : (cmpA .eq (.bl i) (.bl j) st).Is Q = Q (.bl (i == j)) st := by rw [c_eqB]; rfl
theorem ic_eqS {i j : List Nat} (h : chOk i = true) (h2 : chOk j = true) {Q : AV → Sto → Prop} : (cmpA .eq (.str i) (.str j) st).Is Q = Q (.bl (decide (i = j))) st := by rw [c_eqS h h2]; rfl
theorem ic_neS {i j : List Nat} (h : chOk i = true) (h2 : chOk j = true) {Q : AV → Sto → Prop} : (cmpA .ne (.str i) (.str j) st).Is Q = Q (.bl (!decide (i = j))) st := by rw [c_neS h h2]; rfl
theorem ic_in1 {c : Nat} {z : List Nat} {Q : AV → Sto → Prop} : (cmpA .isin (.str [c]) (.str z) st).Is Q = Q (.bl (decide (c ∈ z))) st := by rw [c_in1]; rfl
theorem il_lenS {x : List Nat} (h : x.length ≤ lim) {Q : AV → Sto → Prop} : (callB .len [.str x] st).Is Q = Q (.int x.length) st := by rw [l_lenS h]; rfl
theorem il_lenT {x : List AV} {Q : AV → Sto → Prop} : (callB .len [.tup x] st).Is Q = Q (.int x.length) st := by rw [l_lenT]; rfl
theorem il_len {n : Nat} {x : List AV} (h : st[n]? = some (.lst x)) {Q : AV → Sto → Prop} : (callB .len [.ref n] st).Is Q = Q (.int x.length) st := by rw [l_len h]; rfl
theorem ineg_i {i : Int} {Q : AV → Sto → Prop} : (negA (.int i) st).Is Q = Q (.int (-i)) st := by rw [neg_i]; rfl
theorem iix_t {xs : List AV} {i : Int} {k : Nat} {v : AV} (h : L2.ixN xs.length i = some k) (h2 : xs[k]? = some v) {Q : AV → Sto → Prop} : (idxA (.tup xs) (.int i) st).Is Q = Q v st := by rw [ix_t h h2]; rfl
theorem iix_l {n : Nat} {xs : List AV} {i : Int} {k : Nat} {v : AV} (h0 : st[n]? = some (.lst xs)) (h : L2.ixN xs.length i = some k) (h2 : xs[k]? = some v) {Q : AV → Sto → Prop} : (idxA (.ref n) (.int i) st).Is Q = Q v st := by rw [ix_l h0 h h2]; rfl
theorem iix_s {xs : List Nat} {i : Int} {k : Nat} {v : Nat} (hl : xs.length ≤ lim) (h : L2.ixN xs.length i = some k) (h2 : xs[k]? = some v) {Q : AV → Sto → Prop} : (idxA (.str xs) (.int i) st).Is Q = Q (.str [v]) st := by rw [ix_s hl h h2]; rfl
section
variable {t : Ty} {Q : AV → Sto → Prop}
theorem wt_non : (R.ofB (isA T t .non st) st).Is Q = Q (.bl false) st := rfl
theorem wt_bl {b : Bool} : (R.ofB (isA T t (.bl b) st) st).Is Q = Q (.bl (decide (t = .bool ∨ t = .int))) st := rfl
theorem wt_int {b : Int} : (R.ofB (isA T t (.int b) st) st).Is Q = Q (.bl (decide (t = .int))) st := rfl
theorem wt_str {b : List Nat} : (R.ofB (isA T t (.str b) st) st).Is Q = Q (.bl (decide (t = .str))) st := rfl
theorem wt_tup {b : List AV} : (R.ofB (isA T t (.tup b) st) st).Is Q = Q (.bl (decide (t = .tuple))) st := rfl
theorem wt_rol {b : List Int} : (R.ofB (isA T t (.rol b) st) st).Is Q = Q (.bl (decide (t = .list))) st := rfl
theorem wt_lst {n : Nat} {xs : List AV} (h : st[n]? = some (.lst xs)) : (R.ofB (isA T t (.ref n) st) st).Is Q = Q (.bl (decide (t = .list))) st := by
  unfold isA; dsimp only; rw [h]; rfl
theorem wt_dK {n : Nat} {xs : List (Key × AV)} (h : st[n]? = some (.dK xs)) : (R.ofB (isA T t (.ref n) st) st).Is Q = Q (.bl (decide (t = .dict))) st := by
  unfold isA; dsimp only; rw [h]; rfl
end
theorem i_ofB {b : Bool} {Q : AV → Sto → Prop} : (R.ofB (some b) st).Is Q = Q (.bl b) st := rfl
end
end L3

/-! PyP2: deep data, comprehensions, what is walked. -/
namespace L3
open PySem L2

/-! ### deep data -/
theorem oAll_map {α β γ : Type} {f : β → Option γ} {g : α → β} {h : α → γ} : ∀ (xs : List α), (∀ x ∈ xs, f (g x) = some (h x)) → oAll f (xs.map g) = some (xs.map h)
  | [], _ => rfl
  | x :: xs, k => by
    rw [List.map_cons, oAll, k x List.mem_cons_self, oAll_map xs fun y hy => k y (List.mem_cons_of_mem _ hy)]
    rfl
theorem oAll_imp {α β : Type} {f g : α → Option β} : ∀ {xs : List α} {ds : List β}, (∀ x ∈ xs, ∀ d, f x = some d → g x = some d) → oAll f xs = some ds → oAll g xs = some ds
  | [], ds, _, h => h
  | x :: xs, ds, k, h => by
    unfold oAll at h ⊢
    cases h1 : f x with
    | none => rw [h1] at h; exact absurd h (by simp)
    | some d =>
      cases h2 : oAll f xs with
      | none => rw [h1, h2] at h; exact absurd h (by simp)
      | some es =>
        rw [h1, h2] at h
        rw [k x List.mem_cons_self d h1, oAll_imp (fun y hy => k y (List.mem_cons_of_mem _ hy)) h2]
        exact h
theorem pd_imp {a b : Sto} (hx : Ext a b) : ∀ (n : Nat) (v : AV) (d : PyData), pd n a v = some d → pd (n + 1) b v = some d
  | 0, v, d, h => by exact absurd h (by simp [pd])
  | n + 1, v, d, h => by
    unfold pd at h ⊢
    cases v with
    | tup xs =>
      dsimp only at h ⊢
      cases h1 : oAll (pd n a) xs with
      | none => rw [h1] at h; exact absurd h (by simp)
      | some es =>
        rw [h1] at h
        rw [oAll_imp (fun x _ d q => pd_imp hx n x d q) h1]
        exact h
    | ref m =>
      dsimp only at h ⊢
      cases h0 : a[m]? with
      | none => rw [h0] at h; exact absurd h (by simp)
      | some o =>
        rw [h0] at h
        rw [hx m o h0]
        cases o with
        | lst xs =>
          dsimp only at h ⊢
          cases h1 : oAll (pd n a) xs with
          | none => rw [h1] at h; exact absurd h (by simp)
          | some es =>
            rw [h1] at h
            rw [oAll_imp (fun x _ d q => pd_imp hx n x d q) h1]
            exact h
        | _ => exact h
    | _ => exact h
theorem pd_up {a : Sto} {n : Nat} {v : AV} {d : PyData} (h : pd n a v = some d) : pd (n + 1) a v = some d := pd_imp (Ext.refl a) n v d h
theorem pd_le {a : Sto} {n m : Nat} {v : AV} {d : PyData} (h : pd n a v = some d) (q : n ≤ m) : pd m a v = some d := by
  induction m with
  | zero => have : n = 0 := by omega
            subst this; exact h
  | succ m ih =>
    by_cases e : n = m + 1
    · subst e; exact h
    · exact pd_up (ih (by omega))
theorem depthAll_le {β : Type} {n : Nat} {f : β → Option PyData} : ∀ {xs : List β} {ds : List PyData}, (∀ x ∈ xs, ∀ d, f x = some d → d.depth ≤ n) → oAll f xs = some ds → PyData.depthAll ds ≤ n
  | [], ds, _, h => by
    simp only [oAll, Option.some.injEq] at h
    subst h
    simp [PyData.depthAll]
  | x :: xs, ds, k, h => by
    unfold oAll at h
    cases h1 : f x with
    | none => rw [h1] at h; exact absurd h (by simp)
    | some d =>
      cases h2 : oAll f xs with
      | none => rw [h1, h2] at h; exact absurd h (by simp)
      | some es =>
        rw [h1, h2] at h
        simp only [Option.some.injEq] at h
        subst h
        have a := k x List.mem_cons_self d h1
        have b := depthAll_le (fun y hy => k y (List.mem_cons_of_mem _ hy)) h2
        simp only [PyData.depthAll]
        omega
theorem pd_depth {a : Sto} : ∀ (n : Nat) (v : AV) (d : PyData), pd n a v = some d → d.depth ≤ n + 1
  | 0, v, d, h => by exact absurd h (by simp [pd])
  | n + 1, v, d, h => by
    unfold pd at h
    cases v with
    | tup xs =>
      dsimp only at h
      cases h1 : oAll (pd n a) xs with
      | none => rw [h1] at h; exact absurd h (by simp)
      | some es =>
        rw [h1] at h
        simp only [Option.map_some, Option.some.injEq] at h
        subst h
        have := depthAll_le (fun x _ d q => pd_depth n x d q) h1
        simp only [PyData.depth]
        omega
    | ref m =>
      dsimp only at h
      cases h0 : a[m]? with
      | none => rw [h0] at h; exact absurd h (by simp)
      | some o =>
        rw [h0] at h
        cases o with
        | lst xs =>
          dsimp only at h
          cases h1 : oAll (pd n a) xs with
          | none => rw [h1] at h; exact absurd h (by simp)
          | some es =>
            rw [h1] at h
            simp only [Option.map_some, Option.some.injEq] at h
            subst h
            have := depthAll_le (fun x _ d q => pd_depth n x d q) h1
            simp only [PyData.depth]
            omega
        | _ => exact absurd h (by simp)
    | non => simp only [Option.some.injEq] at h; subst h; simp [PyData.depth]
    | bl b => simp only [Option.some.injEq] at h; subst h; simp [PyData.depth]
    | int b => simp only [Option.some.injEq] at h; subst h; simp [PyData.depth]
    | str b => simp only [Option.some.injEq] at h; subst h; simp [PyData.depth]
    | rol xs =>
      simp only [Option.some.injEq] at h
      subst h
      have e : ∀ ys : List Int, PyData.depthAll (ys.map .int) ≤ 1 := by
        intro ys
        induction ys with
        | nil => simp [PyData.depthAll]
        | cons y ys ih => simp only [List.map_cons, PyData.depthAll, PyData.depth]; omega
      have := e xs
      simp only [PyData.depth]
      omega
theorem pdS_of {st : Sto} {v : AV} {d : PyData} (h : pd 9 st v = some d) (c : d.canLay0 = true) : pdS st v = some d := by
  unfold pdS
  rw [h]
  dsimp only
  rw [if_pos]
  have := pd_depth 9 v d h
  simp [SeqAt.shaped, c, show d.depth ≤ 64 by omega]
theorem canAll (ds : List PyData) : PyData.canLayAll0 ds = ds.all PyData.canLay0 := by
  induction ds with
  | nil => rfl
  | cons d ds ih => rw [PyData.canLayAll0, List.all_cons, ih]
theorem can_ints (is : List Int) : (PyData.list (is.map .int)).canLay0 = true := by
  rw [PyData.canLay0, canAll, List.all_map, List.all_eq_true]
  intro x _
  rfl
theorem can_strs (ss : List (List Nat)) (h : ∀ s ∈ ss, chOk s = true) : (PyData.list (ss.map fun s => .str ⟨s.toArray⟩)).canLay0 = true := by
  rw [PyData.canLay0, canAll, List.all_map, List.all_eq_true]
  intro x hx
  show PyData.canLay0 (.str ⟨x.toArray⟩) = true
  unfold PyData.canLay0
  exact strOk_of (h x hx)
theorem pd_int (n : Nat) (st : Sto) (i : Int) : pd (n + 1) st (.int i) = some (.int i) := rfl
theorem pd_list {n m : Nat} {st : Sto} {xs : List AV} {ds : List PyData} (h : st[m]? = some (.lst xs)) (k : oAll (pd n st) xs = some ds) : pd (n + 1) st (.ref m) = some (.list ds) := by
  unfold pd
  dsimp only
  rw [h]
  dsimp only
  rw [k]
  rfl
theorem pdS_ints {st : Sto} {m : Nat} {is : List Int} (h : st[m]? = some (.lst (is.map .int))) : pdS st (.ref m) = some (.list (is.map .int)) :=
  pdS_of (pd_list h (oAll_map is fun _ _ => rfl)) (can_ints is)
theorem pdS_strs {st : Sto} {m : Nat} {ss : List (List Nat)} (h : st[m]? = some (.lst (ss.map .str))) (k : ∀ s ∈ ss, chOk s = true) : pdS st (.ref m) = some (.list (ss.map fun s => .str ⟨s.toArray⟩)) :=
  pdS_of (pd_list h (oAll_map ss fun _ _ => rfl)) (can_strs ss k)
theorem eqvAll_map {α : Type} [DecidableEq α] {f : α → PyData} (h : ∀ a b, PyData.eqv (f a) (f b) = decide (a = b)) : ∀ as bs : List α, PyData.eqvAll (as.map f) (bs.map f) = decide (as = bs)
  | [], [] => by simp [PyData.eqvAll]
  | [], b :: bs => by simp [PyData.eqvAll]
  | a :: as, [] => by simp [PyData.eqvAll]
  | a :: as, b :: bs => by
    rw [List.map_cons, List.map_cons, PyData.eqvAll, h, eqvAll_map h]
    by_cases e : a = b <;> by_cases f : as = bs <;> simp [e, f]
theorem eqv_int (i j : Int) : PyData.eqv (.int i) (.int j) = decide (i = j) := by
  simp only [PyData.eqv]
  rfl
theorem eqv_str (x y : List Nat) : PyData.eqv (.str ⟨x.toArray⟩) (.str ⟨y.toArray⟩) = decide (x = y) := by
  simp only [PyData.eqv, str_beq]
section
variable {st : Sto}
theorem eqA_ints {m n : Nat} {is js : List Int} (h : st[m]? = some (.lst (is.map .int))) (k : st[n]? = some (.lst (js.map .int))) : eqA st (.ref m) (.ref n) = some (decide (is = js)) := by
  unfold eqA
  rw [pdS_ints h, pdS_ints k]
  simp only [PyData.eqv]
  rw [eqvAll_map eqv_int]
theorem inA_ints {m : Nat} {i : Int} {is : List Int} (h : st[m]? = some (.lst (is.map .int))) : inA st (.int i) (.ref m) = some (decide (i ∈ is)) := by
  unfold inA
  dsimp only
  rw [h]
  dsimp only
  rw [pdS_int, pdS_ints h]
  dsimp only
  rw [List.any_map]
  congr 1
  rw [Bool.eq_iff_iff]
  simp [eqv_int]
theorem inA_strs {m : Nat} {i : List Nat} {is : List (List Nat)} (h : st[m]? = some (.lst (is.map .str))) (k : ∀ s ∈ is, chOk s = true) (q : chOk i = true) : inA st (.str i) (.ref m) = some (decide (i ∈ is)) := by
  unfold inA
  dsimp only
  rw [h]
  dsimp only
  rw [pdS_str st q, pdS_strs h k]
  dsimp only
  rw [List.any_map]
  congr 1
  rw [Bool.eq_iff_iff]
  simp [eqv_str]
end
/-! ### what is walked -/
theorem ck_ext {w : Wk} {a b : Sto} (h : w.ck a = true) (x : Ext a b) : w.ck b = true := by
  obtain ⟨xs, a1, a2⟩ := w
  unfold Wk.ck at h ⊢
  rw [Bool.and_eq_true] at h ⊢
  constructor
  · cases a1 with
    | none => rfl
    | some p => exact decide_eq_true (x _ _ (of_decide_eq_true h.1))
  · cases a2 with
    | none => rfl
    | some p => exact decide_eq_true (x _ _ (of_decide_eq_true h.2))
/-- a comprehension whose parts change nothing -/
theorem lc_fm {α : Type} {w : Wk} {tg : Tg} {cond elt : Slots → Sto → R AV} {e0 : Slots} {st : Sto} {Q : List AV → Sto → Prop} (zs : List α) (g : α → AV) (p : α → Bool) (f : α → AV) (hz : w.xs = zs.map g) (hc : w.ck st = true) (hl : zs.length ≤ lim)
    (hs : ∀ x ∈ zs, ∃ e', bindT tg (g x) e0 = some e' ∧ ∀ s, Ext st s → (cond e' s).Is fun v s1 => v = .bl (p x) ∧ Ext s s1 ∧ (p x = true → (elt e' s1).Is fun u s2 => u = f x ∧ Ext s1 s2))
    (q : ∀ s, Ext st s → Q ((zs.filter p).map f) s) : (lcL tg w.ck cond elt e0 w.xs [] st).Is Q := by
  rw [hz]
  refine lc_is (fun k acc s => acc = ((zs.take k).filter p).map f ∧ Ext st s ∧ k ≤ zs.length) (zs.map g) 0 [] st ⟨by simp, Ext.refl st, Nat.zero_le _⟩ (fun i y acc s hy hI => ?_) fun acc s hI => ?_
  · obtain ⟨h1, h2, h3⟩ := hI
    rw [Nat.zero_add] at h1 h3
    rw [List.getElem?_map] at hy
    obtain ⟨x, hx, rfl⟩ := Option.map_eq_some_iff.mp hy
    have hi := (List.getElem?_eq_some_iff.mp hx).1
    have tk : zs.take (0 + i + 1) = zs.take i ++ [x] := by
      rw [Nat.zero_add, List.take_add_one, hx]; rfl
    obtain ⟨e', b, hk⟩ := hs x (List.mem_of_getElem? hx)
    refine ⟨ck_ext hc h2, e', b, ?_⟩
    rw [i_tst]
    refine R.Is.mono (hk s h2) fun v s1 ⟨h4, h5, h6⟩ => ?_
    subst h4
    rw [boolIs_b]
    cases hp : p x with
    | true =>
      rw [if_pos rfl]
      refine R.Is.mono (h6 hp) fun u s2 ⟨h7, h8⟩ => ⟨?_, ?_, h2.trans (h5.trans h8), by omega⟩
      · rw [h1, List.length_map]
        have := List.length_filter_le p (zs.take i)
        rw [List.length_take] at this
        omega
      · rw [tk, List.filter_append, List.map_append, ← h1, h7]
        simp [hp]
    | false =>
      rw [if_neg Bool.false_ne_true]
      refine ⟨?_, h2.trans h5, by omega⟩
      rw [tk, List.filter_append, List.map_append, ← h1]
      simp [hp]
  · obtain ⟨h1, h2, h3⟩ := hI
    refine ⟨ck_ext hc h2, ?_⟩
    rw [h1, Nat.zero_add, List.length_map, List.take_length]
    exact q s h2
/-- no test -/
theorem lc_m {α : Type} {T : Tab} {cf cf1 : CallF} {w : Wk} {tg : Tg} {elt : Slots → Sto → R AV} {e0 : Slots} {st : Sto} {Q : List AV → Sto → Prop} (zs : List α) (g : α → AV) (f : α → AV) (hz : w.xs = zs.map g) (hc : w.ck st = true) (hl : zs.length ≤ lim)
    (hs : ∀ x ∈ zs, ∃ e', bindT tg (g x) e0 = some e' ∧ ∀ s, Ext st s → (elt e' s).Is fun u s2 => u = f x ∧ Ext s s2)
    (q : ∀ s, Ext st s → Q (zs.map f) s) : (lcL tg w.ck (fun e st => evAnd T cf cf1 .nil e st) elt e0 w.xs [] st).Is Q := by
  refine lc_fm zs g (fun _ => true) f hz hc hl (fun x hx => ?_) fun s hs => ?_
  · obtain ⟨e', b, k⟩ := hs x hx
    refine ⟨e', b, fun s h => ?_⟩
    rw [i_and0]
    exact ⟨rfl, Ext.refl s, fun _ => k s h⟩
  · rw [List.filter_eq_self.mpr fun _ _ => rfl]
    exact q s hs
theorem i_all {n : Nat} {α : Type} {zs : List α} {f : α → Bool} {st : Sto} {Q : AV → Sto → Prop} (h : st[n]? = some (.lst (zs.map fun z => .bl (f z)))) : (callB .all [.ref n] st).Is Q = Q (.bl (zs.all f)) st := by
  rw [all_is (bs := zs.map f) (by rw [h, List.map_map]; rfl), List.all_map]
  rfl
section
variable {st s : Sto} {QW : Wk → Sto → Prop}
theorem iw_str {x : List Nat} : (wkA (srcA st (.str x)) s).Is QW = QW ⟨x.map fun c => .str [c], none, none⟩ s := rfl
theorem iw_tup {x : List AV} : (wkA (srcA st (.tup x)) s).Is QW = QW ⟨x, none, none⟩ s := rfl
theorem iw_rol {x : List Int} : (wkA (srcA st (.rol x)) s).Is QW = QW ⟨x.map .int, none, none⟩ s := rfl
theorem iw_lst {n : Nat} {x : List AV} (h : st[n]? = some (.lst x)) : (wkA (srcA st (.ref n)) s).Is QW = QW ⟨x, some (n, .lst x), none⟩ s := by
  unfold srcA; dsimp only; rw [h]; rfl
theorem ie_str {x : List Nat} : (wkA (enumA st (.str x)) s).Is QW = QW ⟨numbered 0 (x.map fun c => .str [c]), none, none⟩ s := rfl
theorem ie_rol {x : List Int} : (wkA (enumA st (.rol x)) s).Is QW = QW ⟨numbered 0 (x.map .int), none, none⟩ s := rfl
theorem ie_lst {n : Nat} {x : List AV} (h : st[n]? = some (.lst x)) : (wkA (enumA st (.ref n)) s).Is QW = QW ⟨numbered 0 x, some (n, .lst x), none⟩ s := by
  unfold enumA; dsimp only; rw [h]; rfl
theorem ir_1 {j : Int} (h : j < 2 ^ 62) (k : -(2 ^ 62) ≤ j) : (wkA (rngA [.int j]) s).Is QW = QW ⟨intsFrom 0 1 j.toNat, none, none⟩ s := by
  simp only [rngA, okInt]
  simp only [h, k, decide_true, Bool.and_self, if_true]
  rfl
theorem ir_2 {i j : Int} (h0 : i < 2 ^ 62) (k0 : -(2 ^ 62) ≤ i) (h : j < 2 ^ 62) (k : -(2 ^ 62) ≤ j) : (wkA (rngA [.int i, .int j]) s).Is QW = QW ⟨intsFrom i 1 (j - i).toNat, none, none⟩ s := by
  simp only [rngA, okInt]
  simp only [h, k, h0, k0, decide_true, Bool.and_self, if_true]
  rfl
end
theorem intsFrom_1 (a : Int) : ∀ n : Nat, intsFrom a 1 n = (List.range n).map fun k => .int (a + k) := by
  intro n
  induction n generalizing a with
  | zero => rfl
  | succ n ih =>
    rw [intsFrom, ih, List.range_succ_eq_map]
    simp only [List.map_cons, List.map_map]
    congr 1
    · simp
    · apply List.map_congr_left
      intro x _
      simp only [Function.comp]
      congr 1
      omega
theorem intsFrom_0 (n : Nat) : intsFrom 0 1 n = (List.range n).map fun k => .int (k : Int) := by
  rw [intsFrom_1]
  simp
theorem numbered_get : ∀ (k : Nat) (xs : List AV) (i : Nat), (numbered k xs)[i]? = (xs[i]?).map fun x => .tup [.int ((k + i : Nat) : Int), x]
  | k, [], i => by simp [numbered]
  | k, x :: xs, 0 => by simp [numbered]
  | k, x :: xs, i + 1 => by
    rw [numbered, List.getElem?_cons_succ, numbered_get (k + 1) xs i, List.getElem?_cons_succ]
    congr 1
    funext y
    congr 4
    omega
theorem numbered_length : ∀ (k : Nat) (xs : List AV), (numbered k xs).length = xs.length
  | k, [] => rfl
  | k, x :: xs => by rw [numbered, List.length_cons, numbered_length (k + 1) xs, List.length_cons]
/-! ### list methods, slices -/
section
variable {T : Tab} {f : CallF} {st : Sto} {Q : AV → Sto → Prop}
theorem i_methL {n m : Nat} {ys : List AV} {r : R (List AV)} (h : st[n]? = some (.lst ys)) (hm : m ≤ 6) : ((selA T m (.ref n) st).ok (r.bind fun xs st1 => methA f (selA T m (.ref n) st) m (.ref n) xs st1)).Is Q = r.Is fun xs st1 => (bmeth Sel.lst m (.ref n) xs st1).Is Q := by
  have e : selA T m (.ref n) st = .lst := by
    unfold selA
    dsimp only
    rw [h]
    dsimp only
    rw [if_pos hm]
  rw [e]
  exact i_selL
theorem im_app {n : Nat} {ys : List AV} {v : AV} (h : st[n]? = some (.lst ys)) (hl : ys.length < lim) : (bmeth Sel.lst 0 (.ref n) [v] st).Is Q = Q .non (st.set n (.lst (ys ++ [v]))) := by
  unfold bmeth
  dsimp only
  rw [h]
  show (if ys.length < lim then _ else _ : R AV).Is Q = _
  rw [if_pos hl]
  rfl
theorem isl_str {x : List Nat} {lo hi : Option Int} (h : x.length ≤ lim) : (slA (.str x) lo hi st).Is Q = Q (.str (cutA x lo hi)) st := by
  show (if x.length ≤ lim then _ else _ : R AV).Is Q = _
  rw [if_pos h]
  rfl
theorem isl_rol {x : List Int} {lo hi : Option Int} : (slA (.rol x) lo hi st).Is Q = Q (.ref st.length) (st ++ [.lst (cutA (x.map .int) lo hi)]) := rfl
theorem isl_lst {n : Nat} {x : List AV} {lo hi : Option Int} (h : st[n]? = some (.lst x)) : (slA (.ref n) lo hi st).Is Q = Q (.ref st.length) (st ++ [.lst (cutA x lo hi)]) := by
  unfold slA; dsimp only; rw [h]; rfl
theorem cutA_len {α : Type} (xs : List α) (lo hi : Option Int) : (cutA xs lo hi).length ≤ xs.length := by
  unfold cutA
  rw [List.length_take, List.length_drop]
  omega
theorem cutA_map {α β : Type} (f : α → β) (xs : List α) (lo hi : Option Int) : cutA (xs.map f) lo hi = (cutA xs lo hi).map f := by
  unfold cutA
  rw [List.length_map, ← List.map_drop, ← List.map_take]
theorem ib_addL {m n : Nat} {a b : List AV} (h : st[m]? = some (.lst a)) (k : st[n]? = some (.lst b)) (hl : a.length + b.length ≤ lim) : (binA .add (.ref m) (.ref n) st).Is Q = Q (.ref st.length) (st ++ [.lst (a ++ b)]) := by
  unfold binA
  dsimp only
  rw [h, k]
  dsimp only
  rw [if_pos hl]
  rfl
theorem get_set_ne {n m : Nat} {o u : AO} (h : st[n]? = some u) (k : n < m) : (st.set m o)[n]? = some u := by
  rw [List.getElem?_set_ne (by omega)]; exact h
theorem get_lt {n : Nat} {u : AO} (h : st[n]? = some u) : n < st.length := (List.getElem?_eq_some_iff.mp h).1
end
theorem ck_lst {n : Nat} {st : Sto} {x : List AV} {xs : List AV} (h : st[n]? = some (.lst x)) : Wk.ck ⟨xs, some (n, .lst x), none⟩ st = true := by
  simp only [Wk.ck, h, decide_true, Bool.and_self]
theorem all_t {α : Type} (l : List α) : (l.all fun _ => true) = true := by simp
end L3

/-! PyP3: more steps; doors, wires, rows as data. -/
namespace L3
open PySem L2
section
variable {T : Tab} {f : CallF} {st : Sto} {Q : AV → Sto → Prop}
theorem get_set {n : Nat} {o u : AO} (h : st[n]? = some u) : (st.set n o)[n]? = some o := by
  rw [List.getElem?_set_self (get_lt h)]
theorem im_pop {n k : Nat} {ys : List AV} {i : Int} {v : AV} (h : st[n]? = some (.lst ys)) (hl : ys.length ≤ lim) (hk : L2.ixN ys.length i = some k) (hv : ys[k]? = some v) : (bmeth Sel.lst 3 (.ref n) [.int i] st).Is Q = Q v (st.set n (.lst (ys.eraseIdx k))) := by
  unfold bmeth
  dsimp only
  rw [h]
  show (if ys.length ≤ lim then _ else _ : R AV).Is Q = _
  rw [if_pos hl, hk]
  dsimp only
  rw [hv]
  rfl
theorem im_pop0 {n : Nat} {ys : List AV} {v : AV} (h : st[n]? = some (.lst ys)) (hv : ys[ys.length - 1]? = some v) : (bmeth Sel.lst 3 (.ref n) [] st).Is Q = Q v (st.set n (.lst ys.dropLast)) := by
  unfold bmeth
  dsimp only
  rw [h]
  simp only [lmeth, hv]
  rfl
theorem im_ext {n m : Nat} {ys zs : List AV} (h : st[n]? = some (.lst ys)) (h2 : st[m]? = some (.lst zs)) (hl : ys.length + zs.length ≤ lim) : (bmeth Sel.lst 1 (.ref n) [.ref m] st).Is Q = Q .non (st.set n (.lst (ys ++ zs))) := by
  unfold bmeth
  dsimp only
  rw [h]
  simp only [lmeth, h2]
  rw [if_pos hl]
  rfl
theorem im_clear {n : Nat} {ys : List AV} (h : st[n]? = some (.lst ys)) : (bmeth Sel.lst 4 (.ref n) [] st).Is Q = Q .non (st.set n (.lst [])) := by
  unfold bmeth
  dsimp only
  rw [h]
  rfl
theorem im_rev {n : Nat} {ys : List AV} (h : st[n]? = some (.lst ys)) : (bmeth Sel.lst 5 (.ref n) [] st).Is Q = Q .non (st.set n (.lst ys.reverse)) := by
  unfold bmeth
  dsimp only
  rw [h]
  rfl
theorem im_ins {n : Nat} {ys : List AV} {i : Int} {v : AV} (h : st[n]? = some (.lst ys)) (hi : 0 ≤ i ∧ i < 2 ^ 63 ∧ ys.length < lim) : (bmeth Sel.lst 2 (.ref n) [.int i, v] st).Is Q = Q .non (st.set n (.lst (ys.take i.toNat ++ [v] ++ ys.drop i.toNat))) := by
  unfold bmeth
  dsimp only
  rw [h]
  simp only [lmeth]
  rw [if_pos hi]
  rfl
theorem il_min {i j : Int} : (callB .min [.int i, .int j] st).Is Q = Q (.int (if j < i then j else i)) st := rfl
theorem il_max {i j : Int} : (callB .max [.int i, .int j] st).Is Q = Q (.int (if j > i then j else i)) st := rfl
theorem il_abs {i : Int} : (callB .abs [.int i] st).Is Q = Q (.int (if i < 0 then -i else i)) st := rfl
theorem il_lenR {x : List Int} : (callB .len [.rol x] st).Is Q = Q (.int x.length) st := rfl
theorem il_listL {n : Nat} {xs : List AV} (h : st[n]? = some (.lst xs)) : (callB .list [.ref n] st).Is Q = Q (.ref st.length) (st ++ [.lst xs]) := by
  simp only [callB, seqA, h]
  rfl
theorem il_listT {xs : List AV} : (callB .list [.tup xs] st).Is Q = Q (.ref st.length) (st ++ [.lst xs]) := rfl
theorem il_tupleL {n : Nat} {xs : List AV} (h : st[n]? = some (.lst xs)) : (callB .tuple [.ref n] st).Is Q = Q (.tup xs) st := by
  simp only [callB, seqA, h]
  rfl
theorem il_int {i : Int} : (callB .int [.int i] st).Is Q = Q (.int i) st := rfl
theorem il_intB {b : Bool} : (callB .int [.bl b] st).Is Q = Q (.int (if b then 1 else 0)) st := rfl
theorem i_lr {j : Int} (h : 0 ≤ j ∧ j ≤ 1000000) : (lrngA (.int j) st).Is Q = Q (.ref st.length) (st ++ [.lst ((List.range j.toNat).map fun k : Nat => .int (k : Int))]) := by
  unfold lrngA
  dsimp only
  rw [if_pos h, intsFrom_0]
  rfl
theorem iix_r {xs : List Int} {i : Int} {k : Nat} {v : Int} (h : L2.ixN xs.length i = some k) (h2 : xs[k]? = some v) : (idxA (.rol xs) (.int i) st).Is Q = Q (.int v) st := by
  simp only [idxA, h, h2]
  rfl
theorem isl_tup {x : List AV} {lo hi : Option Int} : (slA (.tup x) lo hi st).Is Q = Q (.tup (cutA x lo hi)) st := rfl
variable {N : Slots → Sto → Prop} {Tr : AV → Sto → Prop}
theorem ws_setL {n k : Nat} {xs : List AV} {i : Int} {v : AV} {g : Sto → SR} (h : st[n]? = some (.lst xs)) (hk : L2.ixN xs.length i = some k) : (SR.of (setI (.ref n) (.int i) v st) g).Is N Tr = (g (st.set n (.lst (xs.set k v)))).Is N Tr := by
  simp only [setI, h, hk]
  rfl
end
theorem ixN_some {n : Nat} {i : Int} (h0 : 0 ≤ i) (h : i < n) : ∃ k, L2.ixN n i = some k ∧ k < n := ⟨i.toNat, ixN_of h0 h, by omega⟩
/-- an index that is reckoned modulo the length -/
theorem ixN_mod {n : Nat} (i : Int) (h : 0 < n) : L2.ixN n (i % (n : Int)) = some (i % (n : Int)).toNat ∧ (i % (n : Int)).toNat < n := by
  have h1 := Int.emod_nonneg i (show (n : Int) ≠ 0 by omega)
  have h2 := Int.emod_lt_of_pos i (show (0 : Int) < n by omega)
  exact ⟨ixN_of h1 h2, by omega⟩

theorem tx_0 {T : Sto} {x : AV} {xs : List AV} {Q : AV → Sto → Prop} : (idxA (.tup (x :: xs)) (.int 0) T).Is Q = Q x T := by
  have h : L2.ixN (x :: xs).length 0 = some 0 := by
    unfold L2.ixN
    rw [if_pos (Int.le_refl 0), if_pos (by rw [List.length_cons]; omega)]
    rfl
  exact iix_t h rfl
theorem tx_1 {T : Sto} {x y : AV} {xs : List AV} {Q : AV → Sto → Prop} : (idxA (.tup (x :: y :: xs)) (.int 1) T).Is Q = Q y T := by
  have h : L2.ixN (x :: y :: xs).length 1 = some 1 := by
    unfold L2.ixN
    rw [if_pos (by decide), if_pos (by rw [List.length_cons, List.length_cons]; omega)]
    rfl
  exact iix_t h rfl
theorem tx_2 {T : Sto} {x y z : AV} {xs : List AV} {Q : AV → Sto → Prop} : (idxA (.tup (x :: y :: z :: xs)) (.int 2) T).Is Q = Q z T := by
  have h : L2.ixN (x :: y :: z :: xs).length 2 = some 2 := by
    unfold L2.ixN
    rw [if_pos (by decide), if_pos (by rw [List.length_cons, List.length_cons, List.length_cons]; omega)]
    rfl
  exact iix_t h rfl
/-! ### doors, wires, rows -/
abbrev Door := Int × Int
abbrev Wire := Door × Door
def doorV (d : Door) : AV := .tup [.int d.1, .int d.2]
def wireV (w : Wire) : AV := .tup [doorV w.1, doorV w.2]
def optV : Option Int → AV
  | none => .non
  | some i => .int i
abbrev Row := List Nat × Option Int × Option Int
def rowV (r : Row) : AV := .tup [.str r.1, optV r.2.1, optV r.2.2]
def doorD (d : Door) : PyData := .tuple [.int d.1, .int d.2]
def wireD (w : Wire) : PyData := .tuple [doorD w.1, doorD w.2]
def optD : Option Int → PyData
  | none => .none
  | some i => .int i
def rowD (r : Row) : PyData := .tuple [.str ⟨r.1.toArray⟩, optD r.2.1, optD r.2.2]
theorem pd_opt (n : Nat) (st : Sto) (o : Option Int) : pd (n + 1) st (optV o) = some (optD o) := by cases o <;> rfl
theorem pd_door (n : Nat) (st : Sto) (d : Door) : pd (n + 2) st (doorV d) = some (doorD d) := rfl
theorem pd_wire (n : Nat) (st : Sto) (d : Wire) : pd (n + 3) st (wireV d) = some (wireD d) := rfl
theorem pd_row (n : Nat) (st : Sto) (r : Row) : pd (n + 2) st (rowV r) = some (rowD r) := by
  obtain ⟨p, a, b⟩ := r
  cases a <;> cases b <;> rfl
theorem can_tuple (ds : List PyData) : (PyData.tuple ds).canLay0 = ds.all PyData.canLay0 := by rw [PyData.canLay0, canAll]
theorem can_list (ds : List PyData) : (PyData.list ds).canLay0 = ds.all PyData.canLay0 := by rw [PyData.canLay0, canAll]
theorem can_door (d : Door) : (doorD d).canLay0 = true := by rw [doorD, can_tuple]; rfl
theorem can_wire (d : Wire) : (wireD d).canLay0 = true := by
  rw [wireD, can_tuple, List.all_cons, List.all_cons, can_door, can_door]; rfl
theorem can_opt (o : Option Int) : (optD o).canLay0 = true := by cases o <;> rfl
theorem can_row {r : Row} (h : chOk r.1 = true) : (rowD r).canLay0 = true := by
  rw [rowD, can_tuple, List.all_cons, List.all_cons, List.all_cons, can_opt, can_opt]
  have : PyData.canLay0 (.str ⟨r.1.toArray⟩) = true := by unfold PyData.canLay0; exact strOk_of h
  rw [this]; rfl
theorem can_map {α : Type} {f : α → PyData} {xs : List α} (h : ∀ x ∈ xs, (f x).canLay0 = true) : (PyData.list (xs.map f)).canLay0 = true := by
  rw [can_list, List.all_map, List.all_eq_true]
  exact h
theorem eqv_tuple (xs ys : List PyData) : PyData.eqv (.tuple xs) (.tuple ys) = PyData.eqvAll xs ys := by rw [PyData.eqv]
theorem eqv_list (xs ys : List PyData) : PyData.eqv (.list xs) (.list ys) = PyData.eqvAll xs ys := by rw [PyData.eqv]
theorem eqvAll_cons (x y : PyData) (xs ys : List PyData) : PyData.eqvAll (x :: xs) (y :: ys) = (PyData.eqv x y && PyData.eqvAll xs ys) := by rw [PyData.eqvAll]
theorem eqvAll_nil : PyData.eqvAll [] [] = true := by rw [PyData.eqvAll]
theorem eqv_opt (a b : Option Int) : PyData.eqv (optD a) (optD b) = decide (a = b) := by
  cases a <;> cases b <;> simp [optD, PyData.eqv]
  rfl
theorem eqv_door (a b : Door) : PyData.eqv (doorD a) (doorD b) = decide (a = b) := by
  obtain ⟨a1, a2⟩ := a
  obtain ⟨b1, b2⟩ := b
  rw [doorD, doorD, eqv_tuple, eqvAll_cons, eqvAll_cons, eqvAll_nil, eqv_int, eqv_int]
  rw [Bool.eq_iff_iff]; simp
theorem eqv_wire (a b : Wire) : PyData.eqv (wireD a) (wireD b) = decide (a = b) := by
  obtain ⟨a1, a2⟩ := a
  obtain ⟨b1, b2⟩ := b
  rw [wireD, wireD, eqv_tuple, eqvAll_cons, eqvAll_cons, eqvAll_nil, eqv_door, eqv_door]
  rw [Bool.eq_iff_iff]; simp
theorem eqv_row (a b : Row) : PyData.eqv (rowD a) (rowD b) = decide (a = b) := by
  obtain ⟨a1, a2, a3⟩ := a
  obtain ⟨b1, b2, b3⟩ := b
  rw [rowD, rowD, eqv_tuple, eqvAll_cons, eqvAll_cons, eqvAll_cons, eqvAll_nil, eqv_str, eqv_opt, eqv_opt]
  rw [Bool.eq_iff_iff]; simp
theorem eqv_lists {α : Type} [DecidableEq α] {f : α → PyData} (h : ∀ a b, PyData.eqv (f a) (f b) = decide (a = b)) (as bs : List α) : PyData.eqv (.list (as.map f)) (.list (bs.map f)) = decide (as = bs) := by
  rw [eqv_list, eqvAll_map h]
/-- a list of things in the store -/
theorem pd_lst {α : Type} {n m : Nat} {st : Sto} {xs : List α} {g : α → AV} {f : α → PyData} (h : st[m]? = some (.lst (xs.map g))) (k : ∀ x ∈ xs, pd n st (g x) = some (f x)) : pd (n + 1) st (.ref m) = some (.list (xs.map f)) := pd_list h (oAll_map xs k)
/-- things of which each is a list in the store -/
theorem oAll_zip {α β γ : Type} {f : α → Option β} {h : γ → β} : ∀ (xs : List α) (ys : List γ), xs.length = ys.length → (∀ (i : Nat) (x : α) (y : γ), xs[i]? = some x → ys[i]? = some y → f x = some (h y)) → oAll f xs = some (ys.map h)
  | [], [], _, _ => rfl
  | [], _ :: _, e, _ => by cases e
  | _ :: _, [], e, _ => by cases e
  | x :: xs, y :: ys, e, k => by
    rw [oAll, k 0 x y rfl rfl, oAll_zip xs ys (Nat.succ.inj e) fun i x y h1 h2 => k (i + 1) x y h1 h2]
    rfl
theorem eqA_of {st : Sto} {x y : AV} {d e : PyData} (h : pd 9 st x = some d) (k : pd 9 st y = some e) (c : d.canLay0 = true) (c2 : e.canLay0 = true) : eqA st x y = some (PyData.eqv d e) := by
  unfold eqA
  rw [pdS_of h c, pdS_of k c2]

/-! ### comprehensions whose results are known by what holds of them -/
theorem lc_r {α β : Type} {T : Tab} {cf cf1 : CallF} {w : Wk} {tg : Tg} {elt : Slots → Sto → R AV} {e0 : Slots} {st : Sto} {Q : List AV → Sto → Prop} (zs : List α) (g : α → AV) (f : β → AV) (P : Sto → α → β → Prop) (mono : ∀ s s' x y, Ext s s' → P s x y → P s' x y)
    (hz : w.xs = zs.map g) (hc : w.ck st = true) (hl : zs.length ≤ lim)
    (hs : ∀ x ∈ zs, ∃ e', bindT tg (g x) e0 = some e' ∧ ∀ s, Ext st s → (elt e' s).Is fun u s2 => ∃ y, u = f y ∧ Ext s s2 ∧ P s2 x y)
    (q : ∀ (s : Sto) (ys : List β), Ext st s → ys.length = zs.length → (∀ (i : Nat) (x : α) (y : β), zs[i]? = some x → ys[i]? = some y → P s x y) → Q (ys.map f) s) : (lcL tg w.ck (fun e st => evAnd T cf cf1 .nil e st) elt e0 w.xs [] st).Is Q := by
  rw [hz]
  refine lc_is (fun k acc s => Ext st s ∧ ∃ ys : List β, acc = ys.map f ∧ ys.length = k ∧ k ≤ zs.length ∧ ∀ (i : Nat) (x : α) (y : β), zs[i]? = some x → ys[i]? = some y → P s x y) (zs.map g) 0 [] st ⟨Ext.refl st, [], rfl, rfl, Nat.zero_le _, fun i x y _ h => by cases h⟩ (fun i y acc s hy hI => ?_) fun acc s hI => ?_
  · obtain ⟨hE, ys, rfl, hk, hle, hP⟩ := hI
    rw [Nat.zero_add] at hk hle
    rw [List.getElem?_map] at hy
    obtain ⟨x, hx, rfl⟩ := Option.map_eq_some_iff.mp hy
    have hi := (List.getElem?_eq_some_iff.mp hx).1
    obtain ⟨e', b, hk2⟩ := hs x (List.mem_of_getElem? hx)
    refine ⟨ck_ext hc hE, e', b, ?_⟩
    rw [i_tst, i_and0, boolIs_b, if_pos rfl]
    refine R.Is.mono (hk2 s hE) fun u s2 ⟨y, h1, h2, h3⟩ => ⟨?_, hE.trans h2, ys ++ [y], ?_, ?_, by omega, fun j x' y' hx' hy' => ?_⟩
    · rw [List.length_map, hk]; omega
    · rw [h1, List.map_append]; rfl
    · rw [List.length_append, hk, Nat.zero_add]; rfl
    · by_cases hj : j < ys.length
      · rw [List.getElem?_append_left hj] at hy'
        exact mono s s2 _ _ h2 (hP j x' y' hx' hy')
      · have hj2 := (List.getElem?_eq_some_iff.mp hy').1
        rw [List.length_append, List.length_singleton] at hj2
        have ej : j = ys.length := by omega
        subst ej
        rw [List.getElem?_append_right (Nat.le_refl _), Nat.sub_self] at hy'
        cases hy'
        rw [hk] at hx'
        rw [hx] at hx'
        cases hx'
        exact h3
  · obtain ⟨hE, ys, rfl, hk, hle, hP⟩ := hI
    rw [Nat.zero_add, List.length_map] at hk
    exact ⟨ck_ext hc hE, q s ys hE hk hP⟩

/-! ### lists of lists -/
/-- at m stands a list of lists of things -/
def LLs {α : Type} (g : α → AV) (st : Sto) (lo m : Nat) (bs : List (List α)) : Prop := ∃ rs : List Nat, st[m]? = some (.lst (rs.map AV.ref)) ∧ rs.length = bs.length ∧ ∀ (i r : Nat) (b : List α), rs[i]? = some r → bs[i]? = some b → lo ≤ r ∧ st[r]? = some (.lst (b.map g))
theorem LLs.ext {α : Type} {g : α → AV} {a b : Sto} {lo m : Nat} {bs : List (List α)} (h : LLs g a lo m bs) (x : Ext a b) : LLs g b lo m bs := by
  obtain ⟨rs, h1, h2, h3⟩ := h
  exact ⟨rs, x _ _ h1, h2, fun i r b' k1 k2 => ⟨(h3 i r b' k1 k2).1, x _ _ (h3 i r b' k1 k2).2⟩⟩
theorem LLs.lo {α : Type} {g : α → AV} {a : Sto} {lo lo' m : Nat} {bs : List (List α)} (h : LLs g a lo m bs) (x : lo' ≤ lo) : LLs g a lo' m bs := by
  obtain ⟨rs, h1, h2, h3⟩ := h
  exact ⟨rs, h1, h2, fun i r b' k1 k2 => ⟨Nat.le_trans x (h3 i r b' k1 k2).1, (h3 i r b' k1 k2).2⟩⟩
theorem LLs.at_ {α : Type} {g : α → AV} {a : Sto} {lo m : Nat} {bs : List (List α)} (h : LLs g a lo m bs) {i : Nat} {b : List α} (k : bs[i]? = some b) : ∃ (xs : List AV) (r : Nat), a[m]? = some (.lst xs) ∧ xs.length = bs.length ∧ xs[i]? = some (.ref r) ∧ lo ≤ r ∧ a[r]? = some (.lst (b.map g)) := by
  obtain ⟨rs, h1, h2, h3⟩ := h
  have hi := (List.getElem?_eq_some_iff.mp k).1
  have e : rs[i]? = some rs[i] := List.getElem?_eq_getElem (by omega)
  exact ⟨_, rs[i], h1, by rw [List.length_map, h2], by rw [List.getElem?_map, e]; rfl, (h3 i _ b e k).1, (h3 i _ b e k).2⟩
theorem LLs.pd {α : Type} {g : α → AV} {f : α → PyData} {n : Nat} {a : Sto} {lo m : Nat} {bs : List (List α)} (h : LLs g a lo m bs) (k : ∀ b ∈ bs, ∀ x ∈ b, pd n a (g x) = some (f x)) : pd (n + 2) a (.ref m) = some (.list (bs.map fun b => .list (b.map f))) := by
  obtain ⟨rs, h1, h2, h3⟩ := h
  refine pd_list h1 (oAll_zip _ bs (by rw [List.length_map, h2]) fun i x b hx hb => ?_)
  rw [List.getElem?_map] at hx
  obtain ⟨r, hr, rfl⟩ := Option.map_eq_some_iff.mp hx
  exact pd_lst (h3 i r b hr hb).2 (k b (List.mem_of_getElem? hb))
theorem can_lls {α : Type} {f : α → PyData} {bs : List (List α)} (h : ∀ b ∈ bs, ∀ x ∈ b, (f x).canLay0 = true) : (PyData.list (bs.map fun b => .list (b.map f))).canLay0 = true :=
  can_map fun b hb => can_map (h b hb)
theorem eqv_lls {α : Type} [DecidableEq α] {f : α → PyData} (h : ∀ a b, PyData.eqv (f a) (f b) = decide (a = b)) (as bs : List (List α)) : PyData.eqv (.list (as.map fun b => .list (b.map f))) (.list (bs.map fun b => .list (b.map f))) = decide (as = bs) := by
  rw [eqv_list]
  exact eqvAll_map (f := fun b : List α => PyData.list (b.map f)) (fun a b => eqv_lists h a b) as bs
/-- a pattern -/
def legal (x : List Nat) : Bool := decide (x.length = 4) && x.all fun c => decide (c ∈ [48, 49, 120])
theorem legal_ch {x : List Nat} (h : legal x = true) : chOk x = true := by
  unfold legal at h
  rw [Bool.and_eq_true] at h
  refine List.all_eq_true.mpr fun c hc => ?_
  have := of_decide_eq_true (List.all_eq_true.mp h.2 c hc)
  simp only [List.mem_cons, List.not_mem_nil, or_false] at this
  exact decide_eq_true (by omega)
theorem legal_len {x : List Nat} (h : legal x = true) : x.length = 4 := by
  unfold legal at h; rw [Bool.and_eq_true] at h; exact of_decide_eq_true h.1
theorem legal_mk {x : List Nat} (h : x.length = 4) (k : ∀ c ∈ x, c = 48 ∨ c = 49 ∨ c = 120) : legal x = true := by
  unfold legal
  rw [Bool.and_eq_true]
  refine ⟨decide_eq_true h, List.all_eq_true.mpr fun c hc => decide_eq_true ?_⟩
  simp only [List.mem_cons, List.not_mem_nil, or_false]
  exact k c hc
def OptOk (count : Int) (o : Option Int) : Prop := ∀ i, o = some i → 0 ≤ i ∧ i < count
structure RowOk (count : Int) (r : Row) : Prop where
  pat : legal r.1 = true
  come : OptOk count r.2.1
  out : OptOk count r.2.2
/-- books of so many houses -/
def BooksOk (most : Nat) (cs : List Int) (bs : List (List Row)) : Prop := bs.length = cs.length ∧ ∀ (i : Nat) (c : Int) (b : List Row), cs[i]? = some c → bs[i]? = some b → b.length ≤ most ∧ ∀ r ∈ b, RowOk c r

/-! ### changes of lists of lists -/
theorem LLs.ne {α : Type} {g : α → AV} {a : Sto} {m : Nat} {rs : List Nat} {bs : List (List α)} (hg : ∀ x r, g x ≠ .ref r) (h1 : a[m]? = some (.lst (rs.map AV.ref))) (h3 : ∀ (i r : Nat) (b : List α), rs[i]? = some r → bs[i]? = some b → a[r]? = some (.lst (b.map g))) {i r : Nat} {b : List α} (k1 : rs[i]? = some r) (k2 : bs[i]? = some b) : r ≠ m := fun e => by
  have z := h3 i r b k1 k2
  rw [e, h1] at z
  simp only [Option.some.injEq, AO.lst.injEq] at z
  cases rs with
  | nil => cases k1
  | cons y rs =>
    cases b with
    | nil => cases z
    | cons x b =>
      simp only [List.map_cons, List.cons.injEq] at z
      exact hg x y z.1.symm
theorem LLs.set {α : Type} {g : α → AV} {a : Sto} {lo m : Nat} {rs : List Nat} {bs : List (List α)} (hg : ∀ x r, g x ≠ .ref r) (h1 : a[m]? = some (.lst (rs.map AV.ref))) (h2 : rs.length = bs.length) (h3 : ∀ (i r : Nat) (b : List α), rs[i]? = some r → bs[i]? = some b → lo ≤ r ∧ a[r]? = some (.lst (b.map g)))
    {i r : Nat} {b : List α} (hlo : lo ≤ r) (hr : a[r]? = some (.lst (b.map g))) (hrm : r ≠ m) : LLs g (a.set m (.lst ((rs.map AV.ref).set i (.ref r)))) lo m (bs.set i b) := by
  refine ⟨rs.set i r, ?_, by rw [List.length_set, List.length_set, h2], fun j r' b' k1 k2 => ?_⟩
  · rw [get_set h1, List.map_set]
  · by_cases hj : i = j
    · subst hj
      have hi := (List.getElem?_eq_some_iff.mp k1).1
      rw [List.length_set] at hi
      rw [List.getElem?_set_self hi] at k1
      rw [List.getElem?_set_self (by omega)] at k2
      cases k1
      cases k2
      exact ⟨hlo, by rw [List.getElem?_set_ne (Ne.symm hrm)]; exact hr⟩
    · rw [List.getElem?_set_ne hj] at k1 k2
      have z := LLs.ne hg h1 (fun i r b q1 q2 => (h3 i r b q1 q2).2) k1 k2
      exact ⟨(h3 j r' b' k1 k2).1, by rw [List.getElem?_set_ne (Ne.symm z)]; exact (h3 j r' b' k1 k2).2⟩
theorem LLs.snoc {α : Type} {g : α → AV} {a : Sto} {lo m : Nat} {rs : List Nat} {bs : List (List α)} (hg : ∀ x r, g x ≠ .ref r) (h1 : a[m]? = some (.lst (rs.map AV.ref))) (h2 : rs.length = bs.length) (h3 : ∀ (i r : Nat) (b : List α), rs[i]? = some r → bs[i]? = some b → lo ≤ r ∧ a[r]? = some (.lst (b.map g)))
    {r : Nat} {b : List α} (hlo : lo ≤ r) (hr : a[r]? = some (.lst (b.map g))) (hrm : r ≠ m) : LLs g (a.set m (.lst (rs.map AV.ref ++ [.ref r]))) lo m (bs ++ [b]) := by
  refine ⟨rs ++ [r], ?_, by rw [List.length_append, List.length_append, h2]; rfl, fun j r' b' k1 k2 => ?_⟩
  · rw [get_set h1, List.map_append]; rfl
  · by_cases hj : j < rs.length
    · rw [List.getElem?_append_left hj] at k1
      rw [List.getElem?_append_left (by omega)] at k2
      have z := LLs.ne hg h1 (fun i r b q1 q2 => (h3 i r b q1 q2).2) k1 k2
      exact ⟨(h3 j r' b' k1 k2).1, by rw [List.getElem?_set_ne (Ne.symm z)]; exact (h3 j r' b' k1 k2).2⟩
    · have hj2 := (List.getElem?_eq_some_iff.mp k1).1
      rw [List.length_append, List.length_singleton] at hj2
      have ej : j = rs.length := by omega
      subst ej
      rw [List.getElem?_append_right (Nat.le_refl _), Nat.sub_self] at k1
      rw [List.getElem?_append_right (by omega), h2, Nat.sub_self] at k2
      cases k1
      cases k2
      exact ⟨hlo, by rw [List.getElem?_set_ne (Ne.symm hrm)]; exact hr⟩
/-- [list(one) for one in things] -/
theorem copy_is {α : Type} {T : Tab} {cf cf1 : CallF} {g : α → AV} {st : Sto} {lo m i : Nat} {rs : List Nat} {bs : List (List α)} {e0 : Slots} {Q : List AV → Sto → Prop} (hi : i < e0.length) (h1 : st[m]? = some (.lst (rs.map AV.ref))) (h2 : rs.length = bs.length) (h3 : ∀ (i r : Nat) (b : List α), rs[i]? = some r → bs[i]? = some b → lo ≤ r ∧ st[r]? = some (.lst (b.map g))) (hl : rs.length ≤ lim)
    (q : ∀ (s : Sto) (ts : List Nat), Ext st s → ts.length = bs.length → (∀ (i r : Nat) (b : List α), ts[i]? = some r → bs[i]? = some b → st.length ≤ r ∧ s[r]? = some (.lst (b.map g))) → Q (ts.map AV.ref) s) :
    (lcL (.nm i) (Wk.ck ⟨rs.map AV.ref, some (m, .lst (rs.map AV.ref)), none⟩) (fun e st => evAnd T cf cf1 .nil e st) (fun e st => ev T cf cf1 (.bcall .list (.cons (.var i) .nil)) e st) e0 (rs.map AV.ref) [] st).Is Q := by
  refine lc_r (w := ⟨rs.map AV.ref, some (m, .lst (rs.map AV.ref)), none⟩) rs AV.ref AV.ref (fun s x y => ∀ b : List α, st[x]? = some (.lst (b.map g)) → st.length ≤ y ∧ s[y]? = some (.lst (b.map g))) (fun s s' x y hx h b hb => ⟨(h b hb).1, hx _ _ (h b hb).2⟩) rfl (ck_lst h1) hl (fun x hx => ⟨_, rfl, fun s hs => ?_⟩) fun s ys hs hy hP => q s ys hs (by omega) fun i r b k1 k2 => ?_
  · obtain ⟨j, hj, rfl⟩ := List.getElem_of_mem hx
    have e1 : rs[j]? = some rs[j] := List.getElem?_eq_getElem hj
    have e2 : bs[j]? = some bs[j] := List.getElem?_eq_getElem (by omega)
    have z := (h3 j _ _ e1 e2).2
    rw [i_bcall, i_cons, i_var, slot_iff, List.getElem?_set_self hi]
    dsimp only
    rw [i_nil, il_listL (hs _ _ z)]
    refine ⟨_, rfl, Ext.push _ _, fun b hb => ?_⟩
    rw [z] at hb
    have hb : (bs[j]).map g = b.map g := by simpa using hb
    rw [← hb]
    exact ⟨hs.lt, get_push _ _⟩
  · have hi := (List.getElem?_eq_some_iff.mp k1).1
    have e1 : rs[i]? = some rs[i] := List.getElem?_eq_getElem (by omega)
    exact hP i _ r e1 k1 b (h3 i _ b e1 k2).2
theorem for_cons {tg : Tg} {ck : Sto → Bool} {body : Slots → Sto → SR} {x : AV} {xs : List AV} {e e' : Slots} {st : Sto} {N : Slots → Sto → Prop} {Tr : AV → Sto → Prop} (h : ck st = true) (b : bindT tg x e = some e') (k : (body e' st).Is (fun e s => (forL tg ck body xs e s).Is N Tr) Tr) : (forL tg ck body (x :: xs) e st).Is N Tr := by
  unfold forL
  rw [if_pos h, b]
  dsimp only
  rw [SR.is_bind]
  exact k
theorem for_nil {tg : Tg} {ck : Sto → Bool} {body : Slots → Sto → SR} {e : Slots} {st : Sto} {N : Slots → Sto → Prop} {Tr : AV → Sto → Prop} (h : ck st = true) (k : N e st) : (forL tg ck body [] e st).Is N Tr := by
  unfold forL
  rw [if_pos h]
  exact k
end L3

/-! PyP4: what is raised and what is caught. -/
namespace L3
open PySem L2

def R.IsX {A : Type} (r : R A) (Q : A → Sto → Prop) (Z : Nat → Sto → Prop) : Prop := match r with
  | .ok a s => Q a s
  | .ex c s => Z c s
  | .no => False
def SR.IsX (r : SR) (N : Slots → Sto → Prop) (T : AV → Sto → Prop) (E : Nat → Slots → Sto → Prop) : Prop := match r with
  | .nx e s => N e s
  | .rt v s => T v s
  | .ex c e s => E c e s
  | .no => False
section
variable {A B : Type} {T : Tab} {cf cf1 : CallF} {e : Slots} {st : Sto} {N : Slots → Sto → Prop} {Tr : AV → Sto → Prop} {Z : Nat → Sto → Prop} {F : Nat → Slots → Sto → Prop}
theorem R.Is.x {r : R A} {Q : A → Sto → Prop} (h : r.Is Q) : r.IsX Q Z := by
  cases r with
  | ok a s => exact h
  | _ => exact h.elim
theorem SR.Is.x {r : SR} (h : r.Is N Tr) : r.IsX N Tr F := by
  cases r with
  | nx a s => exact h
  | rt a s => exact h
  | _ => exact h.elim
theorem R.IsX.mono {r : R A} {Q Q' : A → Sto → Prop} {Z' : Nat → Sto → Prop} (h : r.IsX Q Z) (i : ∀ a s, Q a s → Q' a s) (j : ∀ c s, Z c s → Z' c s) : r.IsX Q' Z' := by
  cases r with
  | ok a s => exact i _ _ h
  | ex c s => exact j _ _ h
  | no => exact h
theorem SR.IsX.mono {r : SR} {N' : Slots → Sto → Prop} {Tr' : AV → Sto → Prop} {F' : Nat → Slots → Sto → Prop} (h : r.IsX N Tr F) (i : ∀ a s, N a s → N' a s) (j : ∀ a s, Tr a s → Tr' a s) (l : ∀ c e s, F c e s → F' c e s) : r.IsX N' Tr' F' := by
  cases r with
  | nx a s => exact i _ _ h
  | rt a s => exact j _ _ h
  | ex c a s => exact l _ _ _ h
  | no => exact h
theorem R.x_bind {r : R A} {f : A → Sto → R B} {Q : B → Sto → Prop} : (r.bind f).IsX Q Z = r.IsX (fun a s => (f a s).IsX Q Z) Z := by cases r <;> rfl
theorem R.x_st {r : R A} {f : A → Sto → SR} : (r.st e f).IsX N Tr F = r.IsX (fun a s => (f a s).IsX N Tr F) (fun c s => F c e s) := by cases r <;> rfl
theorem SR.x_bind {r : SR} {f : Slots → Sto → SR} : (r.bind f).IsX N Tr F = r.IsX (fun e s => (f e s).IsX N Tr F) Tr F := by cases r <;> rfl
/-- an expression that does not raise -/
theorem xs_asg {i : Nat} {a : E} {k : S} (h : (ev T cf cf1 a e st).Is fun v st => setIs e i (some v) fun e => (exS T cf cf1 k e st).IsX N Tr F) : (exS T cf cf1 (.asg i a k) e st).IsX N Tr F := by
  show SR.IsX (R.st _ _ _) _ _ _
  rw [R.x_st]
  exact R.Is.x h
theorem xs_asgT {is : List Nat} {a : E} {k : S} (h : (ev T cf cf1 a e st).Is fun v st => (SR.ofE (bindT (.tp is) v e) fun e => exS T cf cf1 k e st).IsX N Tr F) : (exS T cf cf1 (.asgT is a k) e st).IsX N Tr F := by
  show SR.IsX (R.st _ _ _) _ _ _
  rw [R.x_st]
  exact R.Is.x h
theorem xs_ofE {f : Slots → SR} {e : Slots} : (SR.ofE (some e) f).IsX N Tr F = (f e).IsX N Tr F := rfl
theorem xs_expr {a : E} {k : S} (h : (ev T cf cf1 a e st).Is fun v st => (exS T cf cf1 k e st).IsX N Tr F) : (exS T cf cf1 (.expr a k) e st).IsX N Tr F := by
  show SR.IsX (R.st _ _ _) _ _ _
  rw [R.x_st]
  exact R.Is.x h
theorem xs_ite {c : E} {a b k : S} (h : (ev T cf cf1 c e st).Is fun v st => boolIs v fun t => if t = true then (exS T cf cf1 a e st).IsX (fun e st => (exS T cf cf1 k e st).IsX N Tr F) Tr F else (exS T cf cf1 b e st).IsX (fun e st => (exS T cf cf1 k e st).IsX N Tr F) Tr F) : (exS T cf cf1 (.ite c a b k) e st).IsX N Tr F := by
  show SR.IsX (R.st _ _ _) _ _ _
  rw [R.x_st]
  refine R.Is.x (R.Is.mono h fun v st q => ?_)
  cases v with
  | bl t =>
    cases t <;> dsimp only
    · rw [SR.x_bind]; exact q
    · rw [SR.x_bind]; exact q
  | _ => exact q.elim
theorem xs_loop {tg : Tg} {it : Iw} {body k : S} (h : (evIt T cf cf1 it e st).Is fun w st => (forL tg w.ck (fun e st => exS T cf cf1 body e st) w.xs e st).IsX (fun e st => (exS T cf cf1 k e st).IsX N Tr F) Tr F) : (exS T cf cf1 (.loop tg it body k) e st).IsX N Tr F := by
  show SR.IsX (R.st _ _ _) _ _ _
  rw [R.x_st]
  refine R.Is.x (R.Is.mono h fun v st q => ?_)
  rw [SR.x_bind]
  exact q
/-- an expression that may raise -/
theorem xx_asg {i : Nat} {a : E} {k : S} : (exS T cf cf1 (.asg i a k) e st).IsX N Tr F = (ev T cf cf1 a e st).IsX (fun v st => setIs e i (some v) fun e => (exS T cf cf1 k e st).IsX N Tr F) fun c s => F c e s := R.x_st
theorem xx_expr {a : E} {k : S} : (exS T cf cf1 (.expr a k) e st).IsX N Tr F = (ev T cf cf1 a e st).IsX (fun v st => (exS T cf cf1 k e st).IsX N Tr F) fun c s => F c e s := R.x_st
theorem xx_ret {a : E} : (exS T cf cf1 (.ret a) e st).IsX N Tr F = (ev T cf cf1 a e st).IsX Tr fun c s => F c e s := R.x_st
theorem xx_done : (exS T cf cf1 .done e st).IsX N Tr F = N e st := rfl
theorem xx_rais {c : Nat} : (exS T cf cf1 (.rais c) e st).IsX N Tr F = F c e st := rfl
theorem xx_call {g : Nat} {es : Es} {Q : AV → Sto → Prop} (h : (evs T cf cf1 es e st).Is fun xs st => (cf g xs st).IsX Q Z) : (ev T cf cf1 (.call g es) e st).IsX Q Z := by
  show R.IsX (R.bind _ _) _ _
  rw [R.x_bind]
  exact R.Is.x h
theorem xx_mk {g : Nat} {es : Es} {Q : AV → Sto → Prop} (h : (evs T cf cf1 es e st).Is fun xs st => (mkA T cf1 g xs st).IsX Q Z) : (ev T cf cf1 (.mk g es) e st).IsX Q Z := by
  show R.IsX (R.bind _ _) _ _
  rw [R.x_bind]
  exact R.Is.x h
theorem xx_meth {m : Nat} {o : E} {es : Es} {Q : AV → Sto → Prop} (h : (ev T cf cf1 o e st).Is fun v st => ((selA T m v st).ok ((evs T cf cf1 es e st).bind fun xs st1 => methA cf (selA T m v st) m v xs st1)).IsX Q Z) : (ev T cf cf1 (.meth m o es) e st).IsX Q Z := by
  show R.IsX (R.bind _ _) _ _
  rw [R.x_bind]
  exact R.Is.x h
theorem xx_sel {g m : Nat} {v : AV} {f : CallF} {r : R (List AV)} {Q : AV → Sto → Prop} (h : r.Is fun xs st1 => (f g (v :: xs) st1).IsX Q Z) : ((Sel.own g).ok (r.bind fun xs st1 => methA f (Sel.own g) m v xs st1)).IsX Q Z := by
  show R.IsX (R.bind _ _) _ _
  rw [R.x_bind]
  exact R.Is.x h
/-- a call that may raise -/
theorem call_x {n d np ns : Nat} {body : S} {args : List AV} {Q : AV → Sto → Prop} (h : T.df d = some (np, ns, body)) (hl : args.length = np)
    (k : (exS T (callF T n) (lev T n).2 body (args.map some ++ List.replicate (ns - np) none) st).IsX (fun _ s => Q .non s) Q (fun c _ s => Z c s)) : (callF T (n + 1) d args st).IsX Q Z := by
  show (runD T (lev T n).1 (lev T n).2 d args st).IsX Q Z
  unfold runD
  rw [h]
  dsimp only
  rw [if_pos hl]
  revert k
  show (exS T (lev T n).1 (lev T n).2 body (args.map some ++ List.replicate (ns - np) none) st).IsX _ _ _ → _
  generalize exS T (lev T n).1 (lev T n).2 body (args.map some ++ List.replicate (ns - np) none) st = y
  cases y <;> exact fun z => z
/-- a try -/
theorem ws_try {body su k : S} {c i : Nat} : (exS T cf cf1 (.tryx body c i su k) e st).Is N Tr = (exS T cf cf1 body e st).IsX (fun e st => (exS T cf cf1 k e st).Is N Tr) Tr fun c' e st => T.sub c' c = some true ∧ (exS T cf cf1 su (e.set i (some (.ref st.length))) (st ++ [.exc c'])).Is (fun e st => (exS T cf cf1 k (e.set i none) st).Is N Tr) Tr := by
  conv => lhs; unfold exS
  cases exS T cf cf1 body e st with
  | nx a s => rfl
  | rt a s => rfl
  | no => rfl
  | ex c' e s =>
    dsimp only [SR.IsX]
    by_cases h : T.sub c' c = some true
    · rw [if_pos h]
      have : ∀ (r : SR) (f : Slots → Sto → SR), (r.noex.bind f).Is N Tr = r.Is (fun e s => (f e s).Is N Tr) Tr := fun r f => by cases r <;> rfl
      rw [this]
      simp only [h, true_and]
    · rw [if_neg h]
      simp only [h, false_and]
      rfl
/-- a try whose error has no name -/
theorem ws_tryn {body su k : S} {c : Nat} : (exS T cf cf1 (.tryn body c su k) e st).Is N Tr = (exS T cf cf1 body e st).IsX (fun e st => (exS T cf cf1 k e st).Is N Tr) Tr fun c' e st => T.sub c' c = some true ∧ (exS T cf cf1 su e st).Is (fun e st => (exS T cf cf1 k e st).Is N Tr) Tr := by
  conv => lhs; unfold exS
  cases exS T cf cf1 body e st with
  | nx a s => rfl
  | rt a s => rfl
  | no => rfl
  | ex c' e s =>
    dsimp only [SR.IsX]
    by_cases h : T.sub c' c = some true
    · rw [if_pos h]
      have : ∀ (r : SR) (f : Slots → Sto → SR), (r.noex.bind f).Is N Tr = r.Is (fun e s => (f e s).Is N Tr) Tr := fun r f => by cases r <;> rfl
      rw [this]
      simp only [h, true_and]
    · rw [if_neg h]
      simp only [h, false_and]
      rfl
theorem i_isx {d : Nat} {a : E} {Q : AV → Sto → Prop} : (ev T cf cf1 (.isx d a) e st).Is Q = (ev T cf cf1 a e st).Is fun v st => (isxA T v d st).Is Q := R.is_bind
theorem ix_is {n c d : Nat} {b : Bool} {Q : AV → Sto → Prop} (h : st[n]? = some (.exc c)) (k : T.sub c d = some b) : (isxA T (.ref n) d st).Is Q = Q (.bl b) st := by
  unfold isxA
  dsimp only
  rw [h]
  dsimp only
  rw [k]
  rfl
/-- a walk that may raise -/
theorem for_x {tg : Tg} {ck : Sto → Bool} {body : Slots → Sto → SR} (I : Nat → Slots → Sto → Prop) : ∀ (xs : List AV) (k : Nat) (e : Slots) (st : Sto), I k e st →
    (∀ i x e st, xs[i]? = some x → I (k + i) e st → ck st = true ∧ ∃ e', bindT tg x e = some e' ∧ (body e' st).IsX (I (k + i + 1)) Tr F) → (∀ e st, I (k + xs.length) e st → ck st = true ∧ N e st) → (forL tg ck body xs e st).IsX N Tr F
  | [], k, e, st, h, _, hd => by
    obtain ⟨h1, h2⟩ := hd e st h
    unfold forL
    rw [if_pos h1]
    exact h2
  | x :: xs, k, e, st, h, hs, hd => by
    obtain ⟨h1, e', h2, h3⟩ := hs 0 x e st rfl h
    unfold forL
    rw [if_pos h1, h2]
    dsimp only
    rw [SR.x_bind]
    refine SR.IsX.mono h3 (fun e2 s2 h4 => ?_) (fun _ _ q => q) fun _ _ _ q => q
    refine for_x I xs (k + 1) e2 s2 h4 (fun i y e st hy hI => ?_) fun e st hI => hd e st (by rw [List.length_cons, show k + (xs.length + 1) = k + 1 + xs.length by omega]; exact hI)
    have e3 : k + 1 + i = k + (i + 1) := by omega
    rw [e3] at hI ⊢
    exact hs (i + 1) y e st hy hI
end
/-- an instance that may not come to be -/
theorem mk_x {T : Tab} {n c g : Nat} {xs : List AV} {st : Sto} {Q : AV → Sto → Prop} {Z : Nat → Sto → Prop} (h : T.ini c = some g)
    (k : (callF T n g (.ref st.length :: xs) (st ++ [.ins c []])).IsX (fun v s => v = .non ∧ Q (.ref st.length) s) Z) : (mkA T (callF T n) c xs st).IsX Q Z := by
  unfold mkA
  rw [h]
  dsimp only
  rw [R.x_bind]
  refine R.IsX.mono k (fun v s ⟨h1, h2⟩ => ?_) fun _ _ q => q
  rw [if_pos h1]
  exact h2

/-! ### pairs of signs -/
section
variable {T : Tab} {cf cf1 : CallF} {e : Slots} {st s : Sto} {QW : Wk → Sto → Prop}
theorem i_zipS {a b : E} : (evIt T cf cf1 (.zipS a b) e st).Is QW = (ev T cf cf1 a e st).Is fun v st => (ev T cf cf1 b e st).Is fun u st => (wkA (zipSA v u) st).Is QW := by
  refine R.is_bind.trans ?_
  congr 1
  funext v st
  exact R.is_bind
theorem iw_zipS {x y : List Nat} : (wkA (zipSA (.str x) (.str y)) s).Is QW = QW ⟨zipped (x.map fun c => .str [c]) (y.map fun c => .str [c]), none, none⟩ s := rfl
end

/-! ### locked dicts -/
section
variable {T : Tab} {cf cf1 : CallF} {e : Slots} {st : Sto} {N : Slots → Sto → Prop} {Tr : AV → Sto → Prop} {QW : Wk → Sto → Prop}
theorem i_items {a : E} : (evIt T cf cf1 (.items a) e st).Is QW = (ev T cf cf1 a e st).Is fun v st => (wkA (itemsA st v) st).Is QW := R.is_bind
theorem i_vals {a : E} : (evIt T cf cf1 (.vals a) e st).Is QW = (ev T cf cf1 a e st).Is fun v st => (wkA (valsA st v) st).Is QW := R.is_bind
theorem i_keys {a : E} : (evIt T cf cf1 (.keys a) e st).Is QW = (ev T cf cf1 a e st).Is fun v st => (wkA (keysA st v) st).Is QW := R.is_bind
theorem iw_vals {n : Nat} {kvs : List (Key × AV)} {s : Sto} (h : st[n]? = some (.lkK kvs)) : (wkA (valsA st (.ref n)) s).Is QW = QW ⟨kvs.map (·.2), some (n, .lkK kvs), none⟩ s := by
  unfold valsA; dsimp only; rw [h]; rfl
theorem iw_items {n : Nat} {kvs : List (Key × AV)} {s : Sto} (h : st[n]? = some (.lkK kvs)) : (wkA (itemsA st (.ref n)) s).Is QW = QW ⟨kvs.map fun p => .tup [unK p.1, p.2], some (n, .lkK kvs), none⟩ s := by
  unfold itemsA; dsimp only; rw [h]; rfl
theorem iw_itemsT {n : Nat} {kvs : List (List Key × AV)} {s : Sto} (h : st[n]? = some (.lkT kvs)) : (wkA (itemsA st (.ref n)) s).Is QW = QW ⟨kvs.map fun p => .tup [.tup (p.1.map unK), p.2], some (n, .lkT kvs), none⟩ s := by
  unfold itemsA; dsimp only; rw [h]; rfl
theorem iw_keys {n : Nat} {kvs : List (Key × AV)} {s : Sto} (h : st[n]? = some (.lkK kvs)) : (wkA (keysA st (.ref n)) s).Is QW = QW ⟨kvs.map fun p => unK p.1, some (n, .lkK kvs), none⟩ s := by
  unfold keysA; dsimp only; rw [h]; rfl
theorem iw_keysT {n : Nat} {kvs : List (List Key × AV)} {s : Sto} (h : st[n]? = some (.lkT kvs)) : (wkA (keysA st (.ref n)) s).Is QW = QW ⟨kvs.map fun p => .tup (p.1.map unK), some (n, .lkT kvs), none⟩ s := by
  unfold keysA; dsimp only; rw [h]; rfl
theorem ck_at1 {n : Nat} {o : AO} {xs : List AV} (h : st[n]? = some o) : Wk.ck ⟨xs, some (n, o), none⟩ st = true := by
  simp only [Wk.ck, h, decide_true, Bool.and_self]
theorem ws_augF {o : E} {f : Nat} {op : Bop} {z : Int} {k : S} : (exS T cf cf1 (.augF o f op (.con (.int z)) k) e st).Is N Tr = (ev T cf cf1 o e st).Is fun o st => (fldA T o f st).Is fun x st => intIs x fun p => (SR.of (setF T o f (.int (p + z)) st) fun st => exS T cf cf1 k e st).Is N Tr := by
  refine R.is_st.trans ?_
  congr 1
  funext o st
  refine R.is_st.trans ?_
  congr 1
  funext x st
  cases x <;> rfl
theorem i_methP {T : Tab} {f : CallF} {n : Nat} {kvs : List (Key × AV)} {r : R (List AV)} {Q : AV → Sto → Prop} (h : st[n]? = some (.dK kvs)) : ((selA T 3 (.ref n) st).ok (r.bind fun xs st1 => methA f (selA T 3 (.ref n) st) 3 (.ref n) xs st1)).Is Q = r.Is fun xs st1 => (bmeth Sel.dic 3 (.ref n) xs st1).Is Q := by
  have e : selA T 3 (.ref n) st = .dic := by
    unfold selA
    dsimp only
    rw [h]
    rfl
  rw [e]
  exact R.is_bind
theorem im_dpop {n : Nat} {kvs : List (Key × AV)} {i : Int} {v : AV} {Q : AV → Sto → Prop} (h : st[n]? = some (.dK kvs)) (k : getK (.inl i) kvs = some v) : (bmeth Sel.dic 3 (.ref n) [.int i] st).Is Q = Q v (st.set n (.dK (dropA (.inl i) kvs))) := by
  unfold bmeth
  dsimp only
  rw [if_pos rfl]
  unfold dpopA
  dsimp only
  rw [h]
  dsimp only [keyK]
  rw [k]
  rfl
theorem inlK_map (ks : List Int) : inlK (ks.map Sum.inl) = some ks := by
  induction ks with
  | nil => rfl
  | cons k ks ih => rw [List.map_cons, inlK, ih]; rfl
theorem il_srtD {n : Nat} {kvs : List (Key × AV)} {ks : List Int} {Q : AV → Sto → Prop} (h : st[n]? = some (.dK kvs)) (hk : kvs.map (·.1) = ks.map Sum.inl) (hl : ks.length ≤ lim) : (callB .sorted [.ref n] st).Is Q = Q (.ref st.length) (st ++ [.lst ((ks.mergeSort fun a b => decide (a ≤ b)).map .int)]) := by
  unfold callB lstA
  dsimp only
  rw [h]
  dsimp only [dkeysA]
  rw [h]
  dsimp only
  rw [hk, inlK_map]
  dsimp only
  rw [if_pos hl]
  rfl
theorem i_rev {a : E} {Q : AV → Sto → Prop} : (ev T cf cf1 (.rev a) e st).Is Q = (ev T cf cf1 a e st).Is fun x st => (revA x st).Is Q := R.is_bind
theorem irv_l {n : Nat} {x : List AV} {Q : AV → Sto → Prop} (h : st[n]? = some (.lst x)) : (revA (.ref n) st).Is Q = Q (.ref st.length) (st ++ [.lst x.reverse]) := by
  unfold revA lstA
  dsimp only
  rw [h]
  rfl
theorem ws_lock {a : E} {b k : S} {n : Nat} {o l : AO} (h : (ev T cf cf1 a e st).Is fun v _ => v = .ref n) (h1 : st[n]? = some o) (h2 : lockA o = some l)
    (q : (exS T cf cf1 b e (st.set n l)).Is (fun e s => s[n]? = some l ∧ (exS T cf cf1 k e (s.set n o)).Is N Tr) fun v s => s[n]? = some l ∧ Tr v (s.set n o)) : (exS T cf cf1 (.lock a b k) e st).Is N Tr := by
  obtain ⟨v, s0, e1, rfl⟩ := h.get
  unfold exS
  rw [e1]
  have es : spotA (.ok (.ref n) s0) st = some (n, o, l) := by
    unfold spotA
    dsimp only
    rw [h1]
    dsimp only
    rw [h2]
  rw [es]
  dsimp only
  revert q
  generalize exS T cf cf1 b e (st.set n l) = y
  cases y with
  | nx e s =>
    intro q
    obtain ⟨q1, q2⟩ := q
    unfold unlk
    dsimp only
    rw [if_pos q1]
    exact q2
  | rt v s =>
    intro q
    obtain ⟨q1, q2⟩ := q
    unfold unlk
    dsimp only
    rw [if_pos q1]
    exact q2
  | _ => exact fun q => q
end
/-! ### the names of an error -/
theorem names_eq {st : Sto} {m n : Nat} {ss ts : List (List Nat)} (h : st[m]? = some (.lst (ss.map .str))) (k : st[n]? = some (.lst (ts.map .str))) (h2 : ∀ s ∈ ss, chOk s = true) (k2 : ∀ s ∈ ts, chOk s = true) : eqA st (.ref m) (.ref n) = some (decide (ss = ts)) := by
  unfold eqA
  rw [pdS_strs h h2, pdS_strs k k2]
  dsimp only
  rw [eqv_lists (f := fun s : List Nat => PyData.str ⟨s.toArray⟩) eqv_str]
end L3
/-! ### dicts with keys ((int, int), int) -/
namespace L3
open PySem L2
section
variable {st : Sto} {n : Nat} {kvs : List (KN × AV)} {h d a : Int} {v : AV} {Q : AV → Sto → Prop}
theorem inA_dN (g : st[n]? = some (.dN kvs)) : inA st (.tup [.tup [.int h, .int d], .int a]) (.ref n) = some (hasK ((h, d), a) kvs) := by
  unfold inA
  dsimp only
  rw [g]
  rfl
theorem idx_dN (g : st[n]? = some (.dN kvs)) (k : getK ((h, d), a) kvs = some v) : (idxA (.ref n) (.tup [.tup [.int h, .int d], .int a]) st).Is Q = Q v st := by
  simp only [idxA, g, keyN, k]
  rfl
theorem ws_setN {g : Sto → SR} {N : Slots → Sto → Prop} {Tr : AV → Sto → Prop} (h1 : st[n]? = some (.dN kvs)) (hl : kvs.length < lim) : (SR.of (setI (.ref n) (.tup [.tup [.int h, .int d], .int a]) v st) g).Is N Tr = (g (st.set n (.dN (putK ((h, d), a) v kvs)))).Is N Tr := by
  unfold setI
  dsimp only
  rw [h1]
  dsimp only [keyN]
  rw [if_pos hl]
  rfl
theorem il_srtN (g : st[n]? = some (.dN kvs)) : (callB .sorted [.ref n] st).Is Q = Q (.ref st.length) (st ++ [.lst (((kvs.map (·.1)).mergeSort (PySem.W.dataLe false knD)).map nkV)]) := by
  have e1 : lstA st (.ref n) = none := by
    unfold lstA
    dsimp only
    rw [g]
  have e2 : dkeysA st (.ref n) = none := by
    unfold dkeysA
    dsimp only
    rw [g]
  have e3 : nkeysA st (.ref n) = some (kvs.map (·.1)) := by
    unfold nkeysA
    dsimp only
    rw [g]
  simp only [callB, e1, e2, e3]
  rfl
end
end L3
/-! ### sets -/
namespace L3
open PySem L2
section
variable {st : Sto} {Q : AV → Sto → Prop}
theorem il_ssetI {q : Nat} {is : List Int} (h : st[q]? = some (.lst (is.map AV.int))) (hl : (ssort is).length < 64 ∧ is.length ≤ 4000) : (ssetA (.ref q) st).Is Q = Q (.ref st.length) (st ++ [.lst ((ssort is).map .int)]) := by
  have e : intsA (is.map AV.int) = some is := by
    clear h hl
    induction is with
    | nil => rfl
    | cons i is ih => rw [List.map_cons, intsA, ih]; rfl
  unfold ssetA lstA
  dsimp only
  rw [h]
  dsimp only
  rw [e]
  dsimp only
  rw [if_pos hl]
  rfl
theorem pairsA_map (ps : List (Int × Int)) : pairsA (ps.map pairV) = some ps := by
  induction ps with
  | nil => rfl
  | cons i is ih =>
    rw [List.map_cons, pairV, pairsA, ih]
    rfl
theorem il_slenP {q : Nat} {ps : List (Int × Int)} (h : st[q]? = some (.lst (ps.map pairV))) (hl : ps.length < 64) : (slenA (.ref q) st).Is Q = Q (.int (firsts ps).length) st := by
  unfold slenA lstA
  dsimp only
  rw [h]
  dsimp only
  rw [pairsA_map]
  dsimp only
  rw [if_pos hl]
  rfl
theorem il_ssetP {q : Nat} {ps : List (Int × Int)} (h : st[q]? = some (.lst (ps.map pairV))) (hne : ps ≠ []) (hl : ps.length < 64 ∧ ps.all pSmall = true) : (ssetA (.ref q) st).Is Q = Q (.ref st.length) (st ++ [.lst ((psort ps).map pairV)]) := by
  have e : intsA (ps.map pairV) = none := by
    cases ps with
    | nil => exact absurd rfl hne
    | cons p ps => rfl
  unfold ssetA lstA
  dsimp only
  rw [h]
  dsimp only
  rw [e]
  dsimp only
  rw [pairsA_map]
  dsimp only
  rw [if_pos hl]
  rfl
theorem il_slenS {q : Nat} {zs : List (List Nat)} (h : st[q]? = some (.lst (zs.map AV.str))) (hl : zs.length ≤ 4000) : (slenA (.ref q) st).Is Q = Q (.int (firsts zs).length) st := by
  have e : ∀ zs : List (List Nat), strsA (zs.map AV.str) = some zs := fun zs => by
    induction zs with
    | nil => rfl
    | cons i is ih => rw [List.map_cons, strsA, ih]; rfl
  unfold slenA lstA
  dsimp only
  rw [h]
  dsimp only
  cases zs with
  | nil =>
    show (if (0 : Nat) < 64 then _ else _ : R AV).Is Q = _
    rfl
  | cons z zs =>
    have e2 : pairsA ((z :: zs).map AV.str) = none := rfl
    rw [e2]
    dsimp only
    rw [e]
    dsimp only
    rw [if_pos hl]
    rfl
theorem il_stp {q k : Nat} {xs : List AV} (h : st[q]? = some (.lst xs)) : (stpA k (.ref q) st).Is Q = Q (.ref st.length) (st ++ [.lst (stpL k xs)]) := by
  unfold stpA lstA
  dsimp only
  rw [h]
  rfl
theorem il_inr {i j : Int} (h : okInt j = true) : (inrA (.int i) (.int j) st).Is Q = Q (.bl (decide (0 ≤ i ∧ i < j))) st := by
  unfold inrA
  dsimp only
  rw [if_pos h]
  rfl
end
end L3

set_option hygiene false
local macro_rules
  | `(tactic| simp! [$ls,*]) => `(tactic| try simp (decide := true) only [↓i_var, ↓i_con, ↓i_kon, ↓i_bin, ↓i_neg, ↓i_not, ↓i_and, ↓i_or, ↓i_and0, ↓i_or0, ↓i_and1, ↓i_or1, ↓i_cmp, ↓i_chain, ↓i_lst, ↓i_tup, ↓i_dnew, ↓i_dnn, ↓i_dn1, ↓i_call, ↓i_mk, ↓i_bcall, ↓i_isi, ↓i_meth, ↓i_sel, ↓i_selL, ↓i_fld, ↓i_idx, ↓i_sl, ↓i_lrng, ↓i_sset, ↓i_slen, ↓i_stp, ↓i_inrg, ↓i_rev, ↓i_lc, ↓i_nil, ↓i_cons, ↓i_o0, ↓i_o1, ↓i_opt, ↓i_seq, ↓i_items, ↓i_vals, ↓i_keys, ↓i_rng1, ↓i_rng2, ↓i_enum, ↓i_zip, ↓i_wk, ↓i_tst, ↓ws_done, ↓ws_asg, ↓ws_asgT, ↓ws_asgL, ↓ws_ofE, ↓ws_of, ↓ws_asgF, ↓ws_asgI, ↓ws_aug, ↓ws_augF, ↓ws_expr, ↓ws_ret, ↓ws_retN, ↓ws_ite, ↓ws_loop, ↓ws_whil, ↓boolIs_b, ↓intIs_i, ↓slot_0, ↓slot_1, ↓set_0, ↓set_1, ↓R.is_ok, ↓SR.is_rt, ↓SR.is_nx, ↓i_ofB, ↓wt_non, ↓wt_bl, ↓wt_int, ↓wt_str, ↓wt_tup, ↓wt_rol, ↓ib_add, ↓ib_sub, ↓ib_fdiv, ↓ib_mod, ↓ib_pow, ↓ib_band, ↓ib_shr, ↓ic_lt, ↓ic_le, ↓ic_gt, ↓ic_ge, ↓ic_is, ↓ic_isnot, ↓ic_eqI, ↓ic_neI, ↓ic_eqB, ↓ic_in1, ↓il_lenT, ↓tx_0, ↓tx_1, ↓tx_2, ↓ineg_i, ↓ws_try, ↓ws_tryn, ↓i_isx, ↓xx_done, ↓xx_rais, decide_true, decide_false, Bool.not_true, Bool.not_false, List.length_cons, List.length_nil, Int.reduceToNat, decide_eq_true_eq, Bool.not_eq_true', decide_eq_false_iff_not, Bool.true_eq_false, Bool.false_eq_true, if_true, if_false, reduceCtorEq, not_false_eq_true, not_true_eq_false, or_false, or_true, and_true, true_and, List.nil_append, List.cons_append, $ls,*])
  | `(tactic| simp! only [$ls,*]) => `(tactic| try simp (decide := true) only [↓i_var, ↓i_con, ↓i_kon, ↓i_bin, ↓i_neg, ↓i_not, ↓i_and, ↓i_or, ↓i_and0, ↓i_or0, ↓i_and1, ↓i_or1, ↓i_cmp, ↓i_chain, ↓i_lst, ↓i_tup, ↓i_dnew, ↓i_dnn, ↓i_dn1, ↓i_call, ↓i_mk, ↓i_bcall, ↓i_isi, ↓i_meth, ↓i_sel, ↓i_selL, ↓i_fld, ↓i_idx, ↓i_sl, ↓i_lrng, ↓i_sset, ↓i_slen, ↓i_stp, ↓i_inrg, ↓i_rev, ↓i_lc, ↓i_nil, ↓i_cons, ↓i_o0, ↓i_o1, ↓i_opt, ↓i_seq, ↓i_items, ↓i_vals, ↓i_keys, ↓i_rng1, ↓i_rng2, ↓i_enum, ↓i_zip, ↓i_wk, ↓i_tst, ↓ws_done, ↓ws_asg, ↓ws_asgT, ↓ws_asgL, ↓ws_ofE, ↓ws_of, ↓ws_asgF, ↓ws_asgI, ↓ws_aug, ↓ws_augF, ↓ws_expr, ↓ws_ret, ↓ws_retN, ↓ws_loop, ↓ws_whil, ↓boolIs_b, ↓intIs_i, ↓slot_0, ↓slot_1, ↓set_0, ↓set_1, ↓R.is_ok, ↓SR.is_rt, ↓SR.is_nx, ↓i_ofB, ↓wt_non, ↓wt_bl, ↓wt_int, ↓wt_str, ↓wt_tup, ↓wt_rol, ↓ib_add, ↓ib_sub, ↓ib_fdiv, ↓ib_mod, ↓ib_pow, ↓ib_band, ↓ib_shr, ↓ic_lt, ↓ic_le, ↓ic_gt, ↓ic_ge, ↓ic_is, ↓ic_isnot, ↓ic_eqI, ↓ic_neI, ↓ic_eqB, ↓ic_in1, ↓il_lenT, ↓tx_0, ↓tx_1, ↓tx_2, ↓ineg_i, ↓ws_try, ↓ws_tryn, ↓i_isx, ↓xx_done, ↓xx_rais, decide_true, decide_false, Bool.not_true, Bool.not_false, List.length_cons, List.length_nil, Int.reduceToNat, decide_eq_true_eq, Bool.not_eq_true', decide_eq_false_iff_not, Bool.true_eq_false, Bool.false_eq_true, if_true, if_false, reduceCtorEq, not_false_eq_true, not_true_eq_false, or_false, or_true, and_true, true_and, List.nil_append, List.cons_append, $ls,*])
set_option hygiene true
/-! The codes of law_k65_whole_ways_end, printed by gen.py. -/
namespace L3
abbrev g_is_whole : Nat := 12
abbrev g_are_counts : Nat := 13
abbrev g_is_door_of : Nat := 14
abbrev g_are_wires : Nat := 15
abbrev g_is_pattern : Nat := 0
abbrev g_fits : Nat := 1
abbrev g_is_choice : Nat := 35
abbrev g_is_row : Nat := 36
abbrev g_is_book : Nat := 37
abbrev g_is_books : Nat := 38
abbrev g_look_at_books : Nat := 58
abbrev g_taken : Nat := 50
abbrev g_look_at_coming : Nat := 59
abbrev g_next_of : Nat := 60
abbrev g_walked : Nat := 61
abbrev g_way : Nat := 62
abbrev g_law_cell_at : Nat := 16
abbrev g_law_mix : Nat := 3
abbrev g_law_counts : Nat := 17
abbrev g_law_doors : Nat := 18
abbrev g_law_wires : Nat := 19
abbrev g_law_pattern : Nat := 39
abbrev g_law_row : Nat := 40
abbrev g_law_books : Nat := 41
abbrev g_law_digit : Nat := 51
abbrev g_law_net_by : Nat := 63
abbrev g_law_book_by : Nat := 52
abbrev g_law_world : Nat := 64
abbrev g_law_asked : Nat := 65
abbrev g_law_comes_to : Nat := 444
abbrev g_law_walked_well_2 : Nat := 802
abbrev g_law_from_2 : Nat := 803
abbrev g_law_alike_behind_2 : Nat := 804
abbrev g_law_marks : Nat := 448
abbrev g_law_more_rows : Nat := 449
abbrev g_law_fewer_rows : Nat := 450
abbrev g_law_otherwise : Nat := 451
abbrev g_law_address_right_3 : Nat := 805
abbrev g_law_151 : Nat := 812
abbrev g_Net___init : Nat := 27
abbrev g_Net_count : Nat := 28
abbrev g_Net_wires : Nat := 29
abbrev g_Net_beyond : Nat := 30
abbrev g_Net_outer : Nat := 31
abbrev g_Net_is_door : Nat := 32
abbrev g_Net_is_outer : Nat := 33
def c_is_whole : S :=
  (.ret (.and ((.cons (.isi .int (.var 0)) (.cons (.not (.isi .bool (.var 0))) .nil)))))
def c_are_counts_1 : E :=
  (.and ((.cons (.call g_is_whole ((.cons (.var 1) .nil))) (.cons (.chain .le .le (.con (.int 1)) (.var 1) (.kon (.int 4))) .nil))))
def c_are_counts : S :=
  (.ite (.or ((.cons (.not (.isi .list (.var 0))) (.cons (.not (.chain .le .le (.con (.int 1)) (.bcall .len ((.cons (.var 0) .nil))) (.kon (.int 6)))) .nil))))
  (.ret (.con (.bl false)))
  .done
  (.ret (.bcall .all ((.cons (.lc [1] (.nm 1) (.seq (.var 0)) .nil c_are_counts_1) .nil)))))
def c_is_door_of : S :=
  (.ite (.or ((.cons (.not (.isi .tuple (.var 0))) (.cons (.cmp .ne (.bcall .len ((.cons (.var 0) .nil))) (.con (.int 2))) (.cons (.not (.call g_is_whole ((.cons (.idx (.var 0) (.con (.int 0))) .nil)))) (.cons (.not (.call g_is_whole ((.cons (.idx (.var 0) (.con (.int 1))) .nil)))) .nil))))))
  (.ret (.con (.bl false)))
  .done
  (.ret (.and ((.cons (.chain .le .lt (.con (.int 0)) (.idx (.var 0) (.con (.int 0))) (.bcall .len ((.cons (.var 1) .nil)))) (.cons (.chain .le .lt (.con (.int 0)) (.idx (.var 0) (.con (.int 1))) (.idx (.var 1) (.idx (.var 0) (.con (.int 0))))) .nil))))))
def c_are_wires_1 : S :=
  (.ite (.or ((.cons (.not (.call g_is_door_of ((.cons (.var 4) (.cons (.var 1) .nil))))) (.cons (.cmp .isin (.var 4) (.var 2)) .nil))))
  (.ret (.con (.bl false)))
  .done
  (.asgI (.var 2) (.var 4) (.con (.bl true))
  .done))
def c_are_wires_2 : S :=
  (.ite (.or ((.cons (.not (.isi .tuple (.var 3))) (.cons (.cmp .ne (.bcall .len ((.cons (.var 3) .nil))) (.con (.int 2))) .nil))))
  (.ret (.con (.bl false)))
  .done
  (.loop (.nm 4) (.seq (.var 3)) c_are_wires_1
  .done))
def c_are_wires : S :=
  (.ite (.not (.isi .list (.var 0)))
  (.ret (.con (.bl false)))
  .done
  (.asg 2 (.dnew true)
  (.loop (.nm 3) (.seq (.var 0)) c_are_wires_2
  (.ret (.con (.bl true))))))
def c_is_pattern_1 : E :=
  (.cmp .isin (.var 1) (.kon (.str [48, 49, 120])))
def c_is_pattern : S :=
  (.ite (.or ((.cons (.not (.isi .str (.var 0))) (.cons (.cmp .ne (.bcall .len ((.cons (.var 0) .nil))) (.kon (.int 4))) .nil))))
  (.ret (.con (.bl false)))
  .done
  (.ret (.bcall .all ((.cons (.lc [1] (.nm 1) (.seq (.var 0)) .nil c_is_pattern_1) .nil)))))
def c_fits_1 : S :=
  (.asg 4 (.bin .band (.bin .shr (.var 1) (.bin .sub (.bin .sub (.kon (.int 4)) (.con (.int 1))) (.var 2))) (.con (.int 1)))
  (.ite (.and ((.cons (.cmp .ne (.var 3) (.con (.str [120]))) (.cons (.cmp .ne (.var 3) (.bcall .str ((.cons (.var 4) .nil)))) .nil))))
  (.ret (.con (.bl false)))
  .done
  .done))
def c_fits : S :=
  (.loop (.tp [2, 3]) (.enum (.var 0)) c_fits_1
  (.ret (.con (.bl true))))
def c_is_choice : S :=
  (.ret (.or ((.cons (.cmp .is (.var 0) (.con .non)) (.cons (.and ((.cons (.call g_is_whole ((.cons (.var 0) .nil))) (.cons (.chain .le .lt (.con (.int 0)) (.var 0) (.var 1)) .nil)))) .nil)))))
def c_is_row : S :=
  (.ite (.or ((.cons (.not (.isi .tuple (.var 0))) (.cons (.cmp .ne (.bcall .len ((.cons (.var 0) .nil))) (.con (.int 3))) (.cons (.not (.call g_is_pattern ((.cons (.idx (.var 0) (.con (.int 0))) .nil)))) .nil)))))
  (.ret (.con (.bl false)))
  .done
  (.ret (.and ((.cons (.call g_is_choice ((.cons (.idx (.var 0) (.con (.int 1))) (.cons (.var 1) .nil)))) (.cons (.call g_is_choice ((.cons (.idx (.var 0) (.con (.int 2))) (.cons (.var 1) .nil)))) .nil))))))
def c_is_book_1 : E :=
  (.call g_is_row ((.cons (.var 2) (.cons (.var 1) .nil))))
def c_is_book : S :=
  (.ite (.or ((.cons (.not (.isi .list (.var 0))) (.cons (.cmp .gt (.bcall .len ((.cons (.var 0) .nil))) (.kon (.int 12))) .nil))))
  (.ret (.con (.bl false)))
  .done
  (.ret (.bcall .all ((.cons (.lc [2] (.nm 2) (.seq (.var 0)) .nil c_is_book_1) .nil)))))
def c_is_books_1 : E :=
  (.call g_is_book ((.cons (.var 3) (.cons (.meth 7 (.var 1) ((.cons (.var 2) .nil))) .nil))))
def c_is_books : S :=
  (.ite (.or ((.cons (.not (.isi .list (.var 0))) (.cons (.cmp .ne (.bcall .len ((.cons (.var 0) .nil))) (.fld (.var 1) 22)) .nil))))
  (.ret (.con (.bl false)))
  .done
  (.ret (.bcall .all ((.cons (.lc [2, 3] (.tp [2, 3]) (.enum (.var 0)) .nil c_is_books_1) .nil)))))
def c_look_at_books : S :=
  (.ite (.not (.call g_is_books ((.cons (.var 1) (.cons (.var 0) .nil)))))
  (.rais 2)
  .done
  .done)
def c_taken_1 : S :=
  (.ite (.and ((.cons (.call g_fits ((.cons (.idx (.var 4) (.con (.int 0))) (.cons (.var 2) .nil)))) (.cons (.cmp .isin (.idx (.var 4) (.con (.int 1))) (.tup ((.cons (.con .non) (.cons (.var 1) .nil))))) .nil))))
  (.ret (.var 3))
  .done
  .done)
def c_taken : S :=
  (.loop (.tp [3, 4]) (.enum (.var 0)) c_taken_1
  (.ret (.con .non)))
def c_look_at_coming : S :=
  (.ite (.not (.meth 21 (.var 0) ((.cons (.var 1) .nil))))
  (.rais 3)
  .done
  (.ite (.or ((.cons (.not (.call g_is_whole ((.cons (.var 2) .nil)))) (.cons (.not (.chain .le .lt (.con (.int 0)) (.var 2) (.kon (.int 16)))) .nil))))
  (.rais 4)
  .done
  .done))
def c_next_of : S :=
  (.asgT [7, 8] (.var 2)
  (.asg 4 (.call g_taken ((.cons (.idx (.var 1) (.var 7)) (.cons (.var 8) (.cons (.var 3) .nil)))))
  (.ite (.or ((.cons (.cmp .is (.var 4) (.con .non)) (.cons (.cmp .is (.idx (.idx (.idx (.var 1) (.var 7)) (.var 4)) (.con (.int 2))) (.con .non)) .nil))))
  (.ret (.tup ((.cons (.con (.str [100, 114, 111, 112])) (.cons (.var 7) .nil)))))
  .done
  (.asg 5 (.tup ((.cons (.var 7) (.cons (.idx (.idx (.idx (.var 1) (.var 7)) (.var 4)) (.con (.int 2))) .nil))))
  (.asg 6 (.meth 24 (.var 0) ((.cons (.var 5) .nil)))
  (.ite (.cmp .is (.var 6) (.con .non))
  (.ret (.bin .add (.tup ((.cons (.con (.str [111, 117, 116])) .nil))) (.var 5)))
  .done
  (.ret (.bin .add (.tup ((.cons (.con (.str [97, 116])) .nil))) (.var 6)))))))))
def c_walked_1 : E :=
  (.con (.bl true))
def c_walked_2 : S :=
  (.asg 5 (.call g_next_of ((.cons (.var 0) (.cons (.var 1) (.cons (.idx (.var 4) (.neg (.con (.int 1)))) (.cons (.var 3) .nil))))))
  (.ite (.cmp .ne (.idx (.var 5) (.con (.int 0))) (.con (.str [97, 116])))
  (.ret (.tup ((.cons (.var 4) (.cons (.var 5) .nil)))))
  .done
  (.ite (.cmp .isin (.sl (.var 5) ((.cons (.con (.int 1)) .nil)) .nil) (.var 4))
  (.ret (.tup ((.cons (.var 4) (.cons (.tup ((.cons (.con (.str [114, 105, 110, 103])) (.cons (.meth 6 (.var 4) ((.cons (.sl (.var 5) ((.cons (.con (.int 1)) .nil)) .nil) .nil))) .nil)))) .nil)))))
  .done
  (.expr (.meth 0 (.var 4) ((.cons (.sl (.var 5) ((.cons (.con (.int 1)) .nil)) .nil) .nil)))
  .done))))
def c_walked : S :=
  (.asg 4 (.lst ((.cons (.var 2) .nil)))
  (.whil c_walked_1 c_walked_2
  .done))
def c_way : S :=
  (.expr (.call g_look_at_books ((.cons (.var 0) (.cons (.var 1) .nil))))
  (.expr (.call g_look_at_coming ((.cons (.var 0) (.cons (.var 2) (.cons (.var 3) .nil)))))
  (.ret (.call g_walked ((.cons (.var 0) (.cons (.var 1) (.cons (.var 2) (.cons (.var 3) .nil)))))))))
def c_law_cell_at : S :=
  (.ite (.cmp .lt (.var 1) (.bcall .len ((.cons (.var 0) .nil))))
  (.ret (.idx (.var 0) (.var 1)))
  .done
  (.ret (.con (.int 0))))
def c_law_mix : S :=
  (.ret (.bin .fdiv (.bin .mod (.bin .mul (.bin .add (.bin .mod (.var 0) (.bin .pow (.con (.int 10)) (.con (.int 30)))) (.con (.int 1))) (.bin .add (.bin .add (.con (.int 48271)) (.bin .mul (.bin .mul (.con (.int 2)) (.var 1)) (.var 1))) (.var 1))) (.con (.int 2147483647))) (.con (.int 7))))
def c_law_counts_1 : E :=
  (.bin .add (.con (.int 1)) (.bin .mod (.call g_law_mix ((.cons (.call g_law_cell_at ((.cons (.var 0) (.cons (.con (.int 1)) .nil)))) (.cons (.bin .add (.con (.int 3)) (.var 2)) .nil)))) (.con (.int 4))))
def c_law_counts : S :=
  (.asg 1 (.bin .add (.con (.int 1)) (.bin .mod (.call g_law_mix ((.cons (.call g_law_cell_at ((.cons (.var 0) (.cons (.con (.int 0)) .nil)))) (.cons (.con (.int 1)) .nil)))) (.con (.int 6))))
  (.ret (.lc [2] (.nm 2) (.rng1 (.var 1)) .nil c_law_counts_1)))
def c_law_doors_1 : E :=
  (.tup ((.cons (.var 2) (.cons (.var 3) .nil))))
def c_law_doors_2 : S :=
  (.expr (.meth 1 (.var 1) ((.cons (.lc [3] (.nm 3) (.rng1 (.idx (.var 0) (.var 2))) .nil c_law_doors_1) .nil)))
  .done)
def c_law_doors : S :=
  (.asg 1 (.lst .nil)
  (.loop (.nm 2) (.rng1 (.bcall .len ((.cons (.var 0) .nil)))) c_law_doors_2
  (.ret (.var 1))))
def c_law_wires_1 : S :=
  (.expr (.meth 0 (.var 3) ((.cons (.tup ((.cons (.call g_law_mix ((.cons (.bin .add (.call g_law_cell_at ((.cons (.var 0) (.cons (.con (.int 2)) .nil)))) (.bin .mul (.var 4) (.var 4))) (.cons (.bin .add (.con (.int 20)) (.var 4)) .nil)))) (.cons (.idx (.var 2) (.var 4)) .nil)))) .nil)))
  .done)
def c_law_wires_2 : E :=
  (.var 9)
def c_law_wires_3 : E :=
  (.tup ((.cons (.idx (.var 5) (.bin .mul (.con (.int 2)) (.var 4))) (.cons (.idx (.var 5) (.bin .add (.bin .mul (.con (.int 2)) (.var 4)) (.con (.int 1)))) .nil))))
def c_law_wires : S :=
  (.asg 2 (.call g_law_doors ((.cons (.var 1) .nil)))
  (.asg 3 (.lst .nil)
  (.loop (.nm 4) (.rng1 (.bcall .len ((.cons (.var 2) .nil)))) c_law_wires_1
  (.asg 5 (.lc [8, 9] (.tp [8, 9]) (.seq (.bcall .sorted ((.cons (.var 3) .nil)))) .nil c_law_wires_2)
  (.asg 6 (.bin .fdiv (.bin .sub (.bcall .len ((.cons (.var 2) .nil))) (.con (.int 1))) (.con (.int 2)))
  (.asg 7 (.bin .sub (.var 6) (.bin .mod (.call g_law_mix ((.cons (.call g_law_cell_at ((.cons (.var 0) (.cons (.con (.int 3)) .nil)))) (.cons (.con (.int 11)) .nil)))) (.bin .add (.bin .fdiv (.var 6) (.con (.int 3))) (.con (.int 1)))))
  (.ret (.lc [4] (.nm 4) (.rng1 (.var 7)) .nil c_law_wires_3))))))))
def c_law_pattern_1 : S :=
  (.asg 1 (.bin .add (.var 1) (.idx (.con (.str [48, 49, 120, 120])) (.bin .mod (.var 0) (.con (.int 4)))))
  (.asg 0 (.bin .fdiv (.var 0) (.con (.int 4)))
  .done))
def c_law_pattern : S :=
  (.asg 1 (.con (.str []))
  (.loop (.nm 2) (.rng1 (.con (.int 4))) c_law_pattern_1
  (.ret (.var 1))))
def c_law_row : S :=
  (.asg 3 (.call g_law_mix ((.cons (.var 0) (.cons (.var 1) .nil))))
  (.asg 4 (.idx (.lst ((.cons (.con .non) (.cons (.bin .mod (.bin .fdiv (.var 3) (.con (.int 700))) (.var 2)) .nil)))) (.bin .mod (.bin .fdiv (.var 3) (.con (.int 256))) (.con (.int 2))))
  (.asg 5 (.idx (.lst ((.cons (.bin .mod (.bin .fdiv (.var 3) (.con (.int 3000))) (.var 2)) (.cons (.con .non) .nil)))) (.bcall .int ((.cons (.cmp .eq (.bin .mod (.bin .fdiv (.var 3) (.con (.int 20000))) (.con (.int 9))) (.con (.int 0))) .nil))))
  (.ret (.tup ((.cons (.call g_law_pattern ((.cons (.var 3) .nil))) (.cons (.var 4) (.cons (.var 5) .nil)))))))))
def c_law_books_1 : E :=
  (.lst .nil)
def c_law_books_2 : S :=
  (.asg 5 (.bin .mod (.var 3) (.bcall .len ((.cons (.var 1) .nil))))
  (.ite (.cmp .lt (.bcall .len ((.cons (.idx (.var 2) (.var 5)) .nil))) (.con (.int 12)))
  (.expr (.meth 0 (.idx (.var 2) (.var 5)) ((.cons (.call g_law_row ((.cons (.var 4) (.cons (.bin .add (.con (.int 31)) (.var 3)) (.cons (.idx (.var 1) (.var 5)) .nil))))) .nil)))
  .done)
  .done
  .done))
def c_law_books : S :=
  (.asg 2 (.lc [5] (.nm 5) (.seq (.var 1)) .nil c_law_books_1)
  (.loop (.tp [3, 4]) (.enum (.var 0)) c_law_books_2
  (.ret (.var 2))))
def c_law_digit : S :=
  (.asg 2 (.bin .mod (.idx (.var 0) (.con (.int 0))) (.var 1))
  (.asgI (.var 0) (.con (.int 0)) (.bin .fdiv (.idx (.var 0) (.con (.int 0))) (.var 1))
  (.ret (.var 2))))
def c_law_net_by_1 : S :=
  (.expr (.meth 0 (.var 1) ((.cons (.bin .add (.con (.int 1)) (.call g_law_digit ((.cons (.var 0) (.cons (.con (.int 4)) .nil))))) .nil)))
  .done)
def c_law_net_by_2 : S :=
  (.asg 6 (.meth 3 (.var 3) ((.cons (.call g_law_digit ((.cons (.var 0) (.cons (.bcall .len ((.cons (.var 3) .nil))) .nil)))) .nil)))
  (.expr (.meth 0 (.var 4) ((.cons (.tup ((.cons (.var 6) (.cons (.meth 3 (.var 3) ((.cons (.call g_law_digit ((.cons (.var 0) (.cons (.bcall .len ((.cons (.var 3) .nil))) .nil)))) .nil))) .nil)))) .nil)))
  .done))
def c_law_net_by : S :=
  (.asg 1 (.lst .nil)
  (.loop (.nm 2) (.rng1 (.bin .add (.con (.int 1)) (.call g_law_digit ((.cons (.var 0) (.cons (.con (.int 6)) .nil)))))) c_law_net_by_1
  (.asg 3 (.call g_law_doors ((.cons (.var 1) .nil)))
  (.asg 4 (.lst .nil)
  (.loop (.nm 5) (.rng1 (.call g_law_digit ((.cons (.var 0) (.cons (.bin .add (.bin .fdiv (.bcall .len ((.cons (.var 3) .nil))) (.con (.int 2))) (.con (.int 1))) .nil))))) c_law_net_by_2
  (.ret (.tup ((.cons (.var 1) (.cons (.var 4) .nil))))))))))
def c_law_book_by_1 : E :=
  (.idx (.con (.str [48, 49, 120])) (.call g_law_digit ((.cons (.var 0) (.cons (.con (.int 3)) .nil)))))
def c_law_book_by_2 : S :=
  (.asg 4 (.meth 10 (.con (.str [])) ((.cons (.lc [6] (.nm 6) (.rng1 (.con (.int 4))) .nil c_law_book_by_1) .nil)))
  (.asg 5 (.idx (.bin .add (.lst ((.cons (.con .non) .nil))) (.lrng (.var 1))) (.call g_law_digit ((.cons (.var 0) (.cons (.bin .add (.var 1) (.con (.int 1))) .nil)))))
  (.expr (.meth 0 (.var 2) ((.cons (.tup ((.cons (.var 4) (.cons (.var 5) (.cons (.idx (.bin .add (.lst ((.cons (.con .non) .nil))) (.lrng (.var 1))) (.call g_law_digit ((.cons (.var 0) (.cons (.bin .add (.var 1) (.con (.int 1))) .nil))))) .nil))))) .nil)))
  .done)))
def c_law_book_by : S :=
  (.asg 2 (.lst .nil)
  (.loop (.nm 3) (.rng1 (.call g_law_digit ((.cons (.var 0) (.cons (.con (.int 13)) .nil))))) c_law_book_by_2
  (.ret (.var 2))))
def c_law_world_1 : E :=
  (.call g_law_book_by ((.cons (.var 2) (.cons (.var 4) .nil))))
def c_law_world : S :=
  (.ite (.cmp .eq (.bin .mod (.call g_law_cell_at ((.cons (.var 0) (.cons (.con (.int 0)) .nil)))) (.con (.int 2))) (.con (.int 1)))
  (.asgT [1, 3] (.call g_law_net_by ((.cons (.lst ((.cons (.bcall .abs ((.cons (.call g_law_cell_at ((.cons (.var 0) (.cons (.con (.int 1)) .nil)))) .nil))) .nil))) .nil)))
  (.asg 2 (.lst ((.cons (.bcall .abs ((.cons (.call g_law_cell_at ((.cons (.var 0) (.cons (.con (.int 2)) .nil)))) .nil))) .nil)))
  (.ret (.tup ((.cons (.var 1) (.cons (.var 3) (.cons (.lc [4] (.nm 4) (.seq (.var 1)) .nil c_law_world_1) .nil))))))))
  .done
  (.asg 1 (.call g_law_counts ((.cons (.var 0) .nil)))
  (.ret (.tup ((.cons (.var 1) (.cons (.call g_law_wires ((.cons (.var 0) (.cons (.var 1) .nil)))) (.cons (.call g_law_books ((.cons (.sl (.var 0) ((.cons (.con (.int 4)) .nil)) ((.cons (.con (.int 63)) .nil))) (.cons (.var 1) .nil)))) .nil))))))))
def c_law_asked_1 : E :=
  (.call g_law_digit ((.cons (.var 1) (.cons (.con (.int 16)) .nil))))
def c_law_asked : S :=
  (.ite (.cmp .eq (.bin .mod (.call g_law_cell_at ((.cons (.var 0) (.cons (.con (.int 0)) .nil)))) (.con (.int 2))) (.con (.int 0)))
  (.ret (.lrng (.con (.int 16))))
  .done
  (.asg 1 (.lst ((.cons (.bcall .abs ((.cons (.call g_law_cell_at ((.cons (.var 0) (.cons (.con (.int 3)) .nil)))) .nil))) .nil)))
  (.ret (.lc [2] (.nm 2) (.rng1 (.con (.int 4))) .nil c_law_asked_1))))
def c_law_comes_to : S :=
  (.asg 4 (.call g_taken ((.cons (.idx (.var 1) (.idx (.var 2) (.con (.int 0)))) (.cons (.idx (.var 2) (.con (.int 1))) (.cons (.var 3) .nil)))))
  (.ite (.or ((.cons (.cmp .is (.var 4) (.con .non)) (.cons (.cmp .is (.idx (.idx (.idx (.var 1) (.idx (.var 2) (.con (.int 0)))) (.var 4)) (.con (.int 2))) (.con .non)) .nil))))
  (.ret (.tup ((.cons (.con (.str [100, 114, 111, 112])) (.cons (.idx (.var 2) (.con (.int 0))) .nil)))))
  .done
  (.asg 5 (.tup ((.cons (.idx (.var 2) (.con (.int 0))) (.cons (.idx (.idx (.idx (.var 1) (.idx (.var 2) (.con (.int 0)))) (.var 4)) (.con (.int 2))) .nil))))
  (.ite (.cmp .is (.meth 24 (.var 0) ((.cons (.var 5) .nil))) (.con .non))
  (.ret (.bin .add (.tup ((.cons (.con (.str [111, 117, 116])) .nil))) (.var 5)))
  .done
  (.ret (.bin .add (.tup ((.cons (.con (.str [97, 116])) .nil))) (.meth 24 (.var 0) ((.cons (.var 5) .nil)))))))))
def c_law_walked_well_2_1 : S :=
  (.ite (.cmp .ne (.call g_law_comes_to ((.cons (.var 0) (.cons (.var 1) (.cons (.idx (.var 7) (.var 5)) (.cons (.var 3) .nil)))))) (.bin .add (.tup ((.cons (.con (.str [97, 116])) .nil))) (.idx (.var 7) (.bin .add (.var 5) (.con (.int 1))))))
  (.ret (.con (.bl false)))
  .done
  .done)
def c_law_walked_well_2 : S :=
  (.asgT [7, 8] (.var 4)
  (.ite (.or ((.cons (.cmp .ne (.sl (.var 7) .nil ((.cons (.con (.int 1)) .nil))) (.lst ((.cons (.var 2) .nil)))) (.cons (.cmp .lt (.slen (.var 7)) (.bcall .len ((.cons (.var 7) .nil)))) .nil))))
  (.ret (.con (.bl false)))
  .done
  (.loop (.nm 5) (.rng1 (.bin .sub (.bcall .len ((.cons (.var 7) .nil))) (.con (.int 1)))) c_law_walked_well_2_1
  (.asg 6 (.call g_law_comes_to ((.cons (.var 0) (.cons (.var 1) (.cons (.idx (.var 7) (.neg (.con (.int 1)))) (.cons (.var 3) .nil))))))
  (.ite (.cmp .eq (.idx (.var 6) (.con (.int 0))) (.con (.str [97, 116])))
  (.ret (.and ((.cons (.cmp .isin (.sl (.var 6) ((.cons (.con (.int 1)) .nil)) .nil) (.var 7)) (.cons (.cmp .eq (.var 8) (.tup ((.cons (.con (.str [114, 105, 110, 103])) (.cons (.meth 6 (.var 7) ((.cons (.sl (.var 6) ((.cons (.con (.int 1)) .nil)) .nil) .nil))) .nil))))) .nil)))))
  .done
  (.ret (.cmp .eq (.var 8) (.var 6))))))))
def c_law_from_2 : S :=
  (.asgT [3, 4] (.var 0)
  (.asg 2 (.meth 6 (.var 3) ((.cons (.var 1) .nil)))
  (.ite (.cmp .ne (.idx (.var 4) (.con (.int 0))) (.con (.str [114, 105, 110, 103])))
  (.ret (.tup ((.cons (.sl (.var 3) ((.cons (.var 2) .nil)) .nil) (.cons (.var 4) .nil)))))
  .done
  (.ret (.tup ((.cons (.sset (.bin .add (.sl (.var 3) ((.cons (.var 2) .nil)) .nil) (.sl (.var 3) ((.cons (.idx (.var 4) (.con (.int 1))) .nil)) .nil))) (.cons (.tup ((.cons (.con (.str [114, 105, 110, 103])) .nil))) .nil))))))))
def c_law_alike_behind_2_1 : S :=
  (.ite (.cmp .isin (.var 2) (.idx (.var 1) (.con (.int 0))))
  (.ret (.cmp .eq (.call g_law_from_2 ((.cons (.var 0) (.cons (.var 2) .nil)))) (.call g_law_from_2 ((.cons (.var 1) (.cons (.var 2) .nil))))))
  .done
  .done)
def c_law_alike_behind_2 : S :=
  (.loop (.nm 2) (.seq (.idx (.var 0) (.con (.int 0)))) c_law_alike_behind_2_1
  (.ret (.con (.bl true))))
def c_law_marks_1 : E :=
  (.call g_fits ((.cons (.idx (.var 3) (.con (.int 0))) (.cons (.var 1) .nil))))
def c_law_marks_2 : E :=
  (.lc [3] (.nm 3) (.seq (.var 2)) .nil c_law_marks_1)
def c_law_marks : S :=
  (.ret (.lc [2] (.nm 2) (.seq (.var 0)) .nil c_law_marks_2))
def c_law_more_rows_1 : E :=
  (.tup ((.cons (.bin .add (.bin .add (.sl (.idx (.var 3) (.con (.int 0))) .nil ((.cons (.var 4) .nil))) (.var 6)) (.sl (.idx (.var 3) (.con (.int 0))) ((.cons (.bin .add (.var 4) (.con (.int 1))) .nil)) .nil)) (.cons (.idx (.var 3) (.con (.int 1))) (.cons (.idx (.var 3) (.con (.int 2))) .nil)))))
def c_law_more_rows : S :=
  (.ite (.or ((.cons (.cmp .eq (.bcall .len ((.cons (.var 0) .nil))) (.con (.int 0))) (.cons (.cmp .gt (.bcall .len ((.cons (.var 0) .nil))) (.con (.int 11))) .nil))))
  (.ret (.bcall .list ((.cons (.var 0) .nil))))
  .done
  (.asg 2 (.bin .mod (.var 1) (.bcall .len ((.cons (.var 0) .nil))))
  (.asg 3 (.idx (.var 0) (.var 2))
  (.asg 4 (.meth 11 (.idx (.var 3) (.con (.int 0))) ((.cons (.con (.str [120])) .nil)))
  (.ite (.or ((.cons (.cmp .eq (.bin .mod (.bin .fdiv (.var 1) (.con (.int 12))) (.con (.int 2))) (.con (.int 0))) (.cons (.cmp .lt (.var 4) (.con (.int 0))) .nil))))
  (.ret (.bin .add (.bin .add (.sl (.var 0) .nil ((.cons (.bin .add (.var 2) (.con (.int 1))) .nil))) (.lst ((.cons (.var 3) .nil)))) (.sl (.var 0) ((.cons (.bin .add (.var 2) (.con (.int 1))) .nil)) .nil)))
  .done
  (.asg 5 (.lc [6] (.nm 6) (.seq (.con (.str [48, 49]))) .nil c_law_more_rows_1)
  (.ret (.bin .add (.bin .add (.sl (.var 0) .nil ((.cons (.var 2) .nil))) (.var 5)) (.sl (.var 0) ((.cons (.bin .add (.var 2) (.con (.int 1))) .nil)) .nil)))))))))
def c_law_fewer_rows_1 : S :=
  (.ite (.cmp .eq (.sl (.idx (.var 0) (.var 1)) .nil ((.cons (.con (.int 2)) .nil))) (.tup ((.cons (.con (.str [120, 120, 120, 120])) (.cons (.con .non) .nil)))))
  (.ret (.sl (.var 0) .nil ((.cons (.bin .add (.var 1) (.con (.int 1))) .nil))))
  .done
  .done)
def c_law_fewer_rows : S :=
  (.loop (.nm 1) (.rng1 (.bcall .len ((.cons (.var 0) .nil)))) c_law_fewer_rows_1
  (.ret (.bcall .list ((.cons (.var 0) .nil)))))
def c_law_otherwise_1 : S :=
  (.expr (.meth 0 (.var 2) ((.cons (.call g_law_fewer_rows ((.cons (.call g_law_more_rows ((.cons (.idx (.var 0) (.var 3)) (.cons (.bin .fdiv (.var 1) (.bin .add (.var 3) (.con (.int 1)))) .nil)))) .nil))) .nil)))
  .done)
def c_law_otherwise : S :=
  (.asg 2 (.lst .nil)
  (.loop (.nm 3) (.rng1 (.bcall .len ((.cons (.var 0) .nil)))) c_law_otherwise_1
  (.ret (.var 2))))
def c_law_address_right_3_1 : S :=
  (.ite (.not (.call g_law_walked_well_2 ((.cons (.var 0) (.cons (.var 1) (.cons (.var 6) (.cons (.var 3) (.cons (.idx (.var 4) (.tup ((.cons (.var 6) (.cons (.var 3) .nil))))) .nil))))))))
  (.ret (.con (.bl false)))
  .done
  (.ite (.cmp .ne (.call g_way ((.cons (.var 0) (.cons (.var 2) (.cons (.var 6) (.cons (.var 3) .nil)))))) (.idx (.var 4) (.tup ((.cons (.var 6) (.cons (.var 3) .nil))))))
  (.ret (.con (.bl false)))
  .done
  (.ite (.not (.call g_law_alike_behind_2 ((.cons (.idx (.var 4) (.tup ((.cons (.idx (.var 5) (.con (.int 0))) (.cons (.var 3) .nil))))) (.cons (.idx (.var 4) (.tup ((.cons (.var 6) (.cons (.var 3) .nil))))) .nil)))))
  (.ret (.con (.bl false)))
  .done
  .done)))
def c_law_address_right_3 : S :=
  (.asg 5 (.meth 25 (.var 0) .nil)
  (.loop (.nm 6) (.seq (.var 5)) c_law_address_right_3_1
  (.ret (.con (.bl true)))))
def c_law_151_1 : S :=
  (.asgI (.var 3) (.tup ((.cons (.var 10) (.cons (.var 5) .nil)))) (.call g_way ((.cons (.var 1) (.cons (.var 9) (.cons (.var 10) (.cons (.var 5) .nil))))))
  .done)
def c_law_151_2 : S :=
  (.loop (.nm 10) (.seq (.meth 25 (.var 1) .nil)) c_law_151_1
  .done)
def c_law_151_3 : E :=
  (.call g_law_marks ((.cons (.var 9) (.cons (.var 5) .nil))))
def c_law_151_4 : S :=
  (.ite (.cmp .ne (.idx (.var 3) (.tup ((.cons (.var 10) (.cons (.var 5) .nil))))) (.idx (.var 3) (.tup ((.cons (.var 10) (.cons (.var 12) .nil))))))
  (.ret (.con (.bl false)))
  .done
  .done)
def c_law_151_5 : S :=
  (.ite (.not (.call g_law_address_right_3 ((.cons (.var 1) (.cons (.var 9) (.cons (.var 2) (.cons (.var 5) (.cons (.var 3) .nil))))))))
  (.ret (.con (.bl false)))
  .done
  (.asg 12 (.idx (.var 4) (.meth 6 (.var 6) ((.cons (.idx (.var 6) (.var 11)) .nil))))
  (.loop (.nm 10) (.seq (.meth 25 (.var 1) .nil)) c_law_151_4
  .done)))
def c_law_151_6 : S :=
  (.loop (.tp [11, 5]) (.enum (.var 4)) c_law_151_5
  (.ret (.con (.bl true))))
def c_law_151_7 : S :=
  (.asg 6 (.lc [5] (.nm 5) (.seq (.var 4)) .nil c_law_151_3)
  c_law_151_6)
def c_law_151_8 : S :=
  (.loop (.nm 5) (.seq (.var 4)) c_law_151_2
  c_law_151_7)
def c_law_151_9 : S :=
  (.asg 4 (.call g_law_asked ((.cons (.var 0) .nil)))
  c_law_151_8)
def c_law_151_10 : S :=
  (.asg 3 .dnn
  c_law_151_9)
def c_law_151_11 : S :=
  (.asg 2 (.call g_law_otherwise ((.cons (.var 9) (.cons (.call g_law_mix ((.cons (.call g_law_cell_at ((.cons (.var 0) (.cons (.con (.int 3)) .nil)))) (.cons (.con (.int 77)) .nil)))) .nil))))
  c_law_151_10)
def c_law_151_12 : S :=
  (.asg 1 (.mk 10 ((.cons (.var 7) (.cons (.var 8) .nil))))
  c_law_151_11)
def c_law_151 : S :=
  (.asgT [7, 8, 9] (.call g_law_world ((.cons (.var 0) .nil)))
  c_law_151_12)
def c_Net___init_1 : S :=
  (.asgI (.fld (.var 0) 28) (.var 3) (.var 4)
  (.asgI (.fld (.var 0) 28) (.var 4) (.var 3)
  .done))
def c_Net___init : S :=
  (.ite (.or ((.cons (.not (.call g_are_counts ((.cons (.var 1) .nil)))) (.cons (.not (.call g_are_wires ((.cons (.var 2) (.cons (.var 1) .nil))))) .nil))))
  (.rais 1)
  .done
  (.asgF (.var 0) 22 (.bcall .len ((.cons (.var 1) .nil)))
  (.asgF (.var 0) 26 (.bcall .list ((.cons (.var 1) .nil)))
  (.asgF (.var 0) 27 (.bcall .list ((.cons (.var 2) .nil)))
  (.asgF (.var 0) 28 (.dnew true)
  (.loop (.tp [3, 4]) (.seq (.var 2)) c_Net___init_1
  .done))))))
def c_Net_count : S :=
  (.ret (.idx (.fld (.var 0) 26) (.var 1)))
def c_Net_wires : S :=
  (.ret (.bcall .list ((.cons (.fld (.var 0) 27) .nil))))
def c_Net_beyond : S :=
  (.ret (.meth 8 (.fld (.var 0) 28) ((.cons (.var 1) .nil))))
def c_Net_outer_1 : E :=
  (.tup ((.cons (.var 2) (.cons (.var 4) .nil))))
def c_Net_outer_2 : S :=
  (.expr (.meth 1 (.var 1) ((.cons (.lc [4] (.nm 4) (.rng1 (.idx (.fld (.var 0) 26) (.var 2))) .nil c_Net_outer_1) .nil)))
  .done)
def c_Net_outer_3 : Es :=
  ((.cons (.cmp .notin (.var 3) (.fld (.var 0) 28)) .nil))
def c_Net_outer_4 : E :=
  (.var 3)
def c_Net_outer : S :=
  (.asg 1 (.lst .nil)
  (.loop (.nm 2) (.rng1 (.fld (.var 0) 22)) c_Net_outer_2
  (.ret (.lc [3] (.nm 3) (.seq (.var 1)) c_Net_outer_3 c_Net_outer_4))))
def c_Net_is_door : S :=
  (.ret (.call g_is_door_of ((.cons (.var 1) (.cons (.fld (.var 0) 26) .nil)))))
def c_Net_is_outer : S :=
  (.ret (.and ((.cons (.meth 20 (.var 0) ((.cons (.var 1) .nil))) (.cons (.cmp .notin (.var 1) (.fld (.var 0) 28)) .nil)))))
def tdf : Nat → Option (Nat × Nat × S)
  | 0 => some (1, 2, c_is_pattern)
  | 1 => some (2, 5, c_fits)
  | 3 => some (2, 2, c_law_mix)
  | 12 => some (1, 1, c_is_whole)
  | 13 => some (1, 2, c_are_counts)
  | 14 => some (2, 2, c_is_door_of)
  | 15 => some (2, 5, c_are_wires)
  | 16 => some (2, 2, c_law_cell_at)
  | 17 => some (1, 3, c_law_counts)
  | 18 => some (1, 4, c_law_doors)
  | 19 => some (2, 10, c_law_wires)
  | 27 => some (3, 5, c_Net___init)
  | 28 => some (2, 2, c_Net_count)
  | 29 => some (1, 1, c_Net_wires)
  | 30 => some (2, 2, c_Net_beyond)
  | 31 => some (1, 5, c_Net_outer)
  | 32 => some (2, 2, c_Net_is_door)
  | 33 => some (2, 2, c_Net_is_outer)
  | 35 => some (2, 2, c_is_choice)
  | 36 => some (2, 2, c_is_row)
  | 37 => some (2, 3, c_is_book)
  | 38 => some (2, 4, c_is_books)
  | 39 => some (1, 3, c_law_pattern)
  | 40 => some (3, 6, c_law_row)
  | 41 => some (2, 6, c_law_books)
  | 50 => some (3, 5, c_taken)
  | 51 => some (2, 3, c_law_digit)
  | 52 => some (2, 7, c_law_book_by)
  | 58 => some (2, 2, c_look_at_books)
  | 59 => some (3, 3, c_look_at_coming)
  | 60 => some (4, 9, c_next_of)
  | 61 => some (4, 6, c_walked)
  | 62 => some (4, 4, c_way)
  | 63 => some (1, 7, c_law_net_by)
  | 64 => some (1, 5, c_law_world)
  | 65 => some (1, 3, c_law_asked)
  | 444 => some (4, 6, c_law_comes_to)
  | 448 => some (2, 4, c_law_marks)
  | 449 => some (2, 7, c_law_more_rows)
  | 450 => some (1, 2, c_law_fewer_rows)
  | 451 => some (2, 4, c_law_otherwise)
  | 802 => some (5, 9, c_law_walked_well_2)
  | 803 => some (2, 5, c_law_from_2)
  | 804 => some (2, 3, c_law_alike_behind_2)
  | 805 => some (5, 7, c_law_address_right_3)
  | 812 => some (1, 13, c_law_151)
  | _ => none
def tmt : Nat → Nat → Option Nat
  | 10, 7 => some 28
  | 10, 23 => some 29
  | 10, 24 => some 30
  | 10, 25 => some 31
  | 10, 20 => some 32
  | 10, 21 => some 33
  | _, _ => none
def tini : Nat → Option Nat
  | 10 => some 27
  | _ => none
def tfl : Nat → Nat → Bool
  | 10, 27 => true
  | 10, 22 => true
  | 10, 28 => true
  | 10, 26 => true
  | _, _ => false
def tsub : Nat → Nat → Option Bool
  | _, _ => none
def tab : Tab := { df := tdf, mt := tmt, ini := tini, fl := tfl, sub := tsub }
end L3

namespace L3
open PySem PySem.Spec PyProof.Rows L2
def topS (i : Nat) : Stmt := PySem.Challenge.pw_nohalfway_k65_whole_ways_end.main.body.getD i (.Pass ⟨0, 0, 0, 0⟩)
def nmL : List Str := (["append", "extend", "insert", "pop", "clear", "reverse", "index", "count", "get", "split", "join", "find", "_r12", "_r13", "_r14", "_r15", "_r16", "_r17", "_r18", "_r19", "is_door", "is_outer", "many", "wires", "beyond", "outer", "sizes", "joins", "other", "rest_of"] : List Str) ++ (["paper", "net", "old", "new", "sayings", "whole", "known", "move", "mark", "address", "road", "books", "steps", "done", "taught", "turned", "forgotten", "letters", "came", "ended", "let_in", "let_go", "do_step", "knows_book", "may_step", "place", "under", "journal", "may", "found"] : List Str) ++ (["shelves", "shunned", "looked", "roads", "tell", "look_round", "passes", "say", "web", "begin", "set_up", "moved", "asked", "going", "begun", "musts", "set_book", "ready", "look_at_house", "coming", "look_at_coming", "order_told", "fault_told", "keep_told", "meet_told", "spread"] : List Str)
def nmF (k : Nat) : Str := match nmL[k]? with
  | some x => x
  | none => ⟨#[1114112 + k]⟩
theorem nm_small : nmL.all (fun x => decide (x.cps.size ≠ 1)) = true := by decide +kernel
theorem nm_nodup : nmL.Nodup := by decide +kernel
theorem nmInj : ∀ a b, nmF a = nmF b → a = b := by
  intro a b h
  have big : ∀ {x : Str} {k : Nat}, x ∈ nmL → x = ⟨#[1114112 + k]⟩ → False := fun hx e => by
    have z := of_decide_eq_true (List.all_eq_true.mp nm_small _ hx)
    rw [e] at z
    exact z rfl
  unfold nmF at h
  cases ha : nmL[a]? with
  | some x =>
    cases hb : nmL[b]? with
    | some y =>
      rw [ha, hb] at h
      have h : x = y := h
      subst h
      obtain ⟨la, ea⟩ := List.getElem?_eq_some_iff.mp ha
      obtain ⟨lb, eb⟩ := List.getElem?_eq_some_iff.mp hb
      exact (List.getElem_inj nm_nodup).mp (ea.trans eb.symm)
    | none =>
      rw [ha, hb] at h
      exact (big (List.mem_of_getElem? ha) h).elim
  | none =>
    cases hb : nmL[b]? with
    | some y =>
      rw [ha, hb] at h
      exact (big (List.mem_of_getElem? hb) h.symm).elim
    | none =>
      rw [ha, hb] at h
      have h : (⟨#[1114112 + a]⟩ : Str) = ⟨#[1114112 + b]⟩ := h
      injection h with h
      injection h with h
      injection h with h
      omega
def m0 : MC := { N := [], nm := nmF, defs := ("is_whole", g_is_whole) :: ("are_counts", g_are_counts) :: ("is_door_of", g_is_door_of) :: ("are_wires", g_are_wires) :: ("is_pattern", g_is_pattern) :: ("fits", g_fits) :: ("is_choice", g_is_choice) :: ("is_row", g_is_row) :: ("is_book", g_is_book) :: ("is_books", g_is_books) :: ("look_at_books", g_look_at_books) :: ("taken", g_taken) :: ("look_at_coming", g_look_at_coming) :: ("next_of", g_next_of) :: ("walked", g_walked) :: ("way", g_way) :: ("_law_cell_at", g_law_cell_at) :: ("_law_mix", g_law_mix) :: ("_law_counts", g_law_counts) :: ("_law_doors", g_law_doors) :: ("_law_wires", g_law_wires) :: ("_law_pattern", g_law_pattern) :: ("_law_row", g_law_row) :: ("_law_books", g_law_books) :: ("_law_digit", g_law_digit) :: ("_law_net_by", g_law_net_by) :: ("_law_book_by", g_law_book_by) :: ("_law_world", g_law_world) :: ("_law_asked", g_law_asked) :: ("_law_comes_to", g_law_comes_to) :: ("_law_walked_well", g_law_walked_well_2) :: ("_law_from", g_law_from_2) :: ("_law_alike_behind", g_law_alike_behind_2) :: ("_law_marks", g_law_marks) :: ("_law_more_rows", g_law_more_rows) :: ("_law_fewer_rows", g_law_fewer_rows) :: ("_law_otherwise", g_law_otherwise) :: ("_law_address_right", g_law_address_right_3) :: ("law", g_law_151) :: [], clss := [("Net", 10)], kons := [("MOST_HOUSES", (.int 6)), ("MOST_DOORS", (.int 4)), ("SIGNS", (.str [48, 49, 120])), ("FIGURES", (.int 4)), ("MANY", (.int 16)), ("MOST_ROWS", (.int 12))], ecls := [("NoNet", 1), ("NoBooks", 2), ("NoDoor", 3), ("NoAddress", 4)], rcls := [1, 2, 3, 4] }
abbrev s_is_whole : Stmt := topS 9
theorem sc_is_whole : FnScope ["thing"] ["thing"] (defScope s_is_whole) := ⟨rfl, rfl, rfl, by decide +kernel, rfl, by decide +kernel, by decide +kernel⟩
theorem ma_is_whole : matS (m0.at ["thing"]) (defScope s_is_whole) c_is_whole (defBody s_is_whole) = true := by decide +kernel
abbrev s_are_counts : Stmt := topS 10
theorem sc_are_counts : FnScope ["thing", "many"] ["thing"] (defScope s_are_counts) := ⟨rfl, rfl, rfl, by decide +kernel, rfl, by decide +kernel, by decide +kernel⟩
theorem ma_are_counts : matS (m0.at ["thing", "many"]) (defScope s_are_counts) c_are_counts (defBody s_are_counts) = true := by decide +kernel
abbrev s_is_door_of : Stmt := topS 11
theorem sc_is_door_of : FnScope ["thing", "counts"] ["thing", "counts"] (defScope s_is_door_of) := ⟨rfl, rfl, rfl, by decide +kernel, rfl, by decide +kernel, by decide +kernel⟩
theorem ma_is_door_of : matS (m0.at ["thing", "counts"]) (defScope s_is_door_of) c_is_door_of (defBody s_is_door_of) = true := by decide +kernel
abbrev s_are_wires : Stmt := topS 12
theorem sc_are_wires : FnScope ["thing", "counts", "seen", "wire", "door"] ["thing", "counts"] (defScope s_are_wires) := ⟨rfl, rfl, rfl, by decide +kernel, rfl, by decide +kernel, by decide +kernel⟩
theorem ma_are_wires : matS (m0.at ["thing", "counts", "seen", "wire", "door"]) (defScope s_are_wires) c_are_wires (defBody s_are_wires) = true := by decide +kernel
abbrev s_is_pattern : Stmt := topS 18
theorem sc_is_pattern : FnScope ["thing", "sign"] ["thing"] (defScope s_is_pattern) := ⟨rfl, rfl, rfl, by decide +kernel, rfl, by decide +kernel, by decide +kernel⟩
theorem ma_is_pattern : matS (m0.at ["thing", "sign"]) (defScope s_is_pattern) c_is_pattern (defBody s_is_pattern) = true := by decide +kernel
abbrev s_fits : Stmt := topS 19
theorem sc_fits : FnScope ["pattern", "address", "k", "sign", "figure"] ["pattern", "address"] (defScope s_fits) := ⟨rfl, rfl, rfl, by decide +kernel, rfl, by decide +kernel, by decide +kernel⟩
theorem ma_fits : matS (m0.at ["pattern", "address", "k", "sign", "figure"]) (defScope s_fits) c_fits (defBody s_fits) = true := by decide +kernel
abbrev s_is_choice : Stmt := topS 22
theorem sc_is_choice : FnScope ["thing", "doors"] ["thing", "doors"] (defScope s_is_choice) := ⟨rfl, rfl, rfl, by decide +kernel, rfl, by decide +kernel, by decide +kernel⟩
theorem ma_is_choice : matS (m0.at ["thing", "doors"]) (defScope s_is_choice) c_is_choice (defBody s_is_choice) = true := by decide +kernel
abbrev s_is_row : Stmt := topS 23
theorem sc_is_row : FnScope ["thing", "doors"] ["thing", "doors"] (defScope s_is_row) := ⟨rfl, rfl, rfl, by decide +kernel, rfl, by decide +kernel, by decide +kernel⟩
theorem ma_is_row : matS (m0.at ["thing", "doors"]) (defScope s_is_row) c_is_row (defBody s_is_row) = true := by decide +kernel
abbrev s_is_book : Stmt := topS 24
theorem sc_is_book : FnScope ["thing", "doors", "row"] ["thing", "doors"] (defScope s_is_book) := ⟨rfl, rfl, rfl, by decide +kernel, rfl, by decide +kernel, by decide +kernel⟩
theorem ma_is_book : matS (m0.at ["thing", "doors", "row"]) (defScope s_is_book) c_is_book (defBody s_is_book) = true := by decide +kernel
abbrev s_is_books : Stmt := topS 25
theorem sc_is_books : FnScope ["thing", "net", "house", "book"] ["thing", "net"] (defScope s_is_books) := ⟨rfl, rfl, rfl, by decide +kernel, rfl, by decide +kernel, by decide +kernel⟩
theorem ma_is_books : matS (m0.at ["thing", "net", "house", "book"]) (defScope s_is_books) c_is_books (defBody s_is_books) = true := by decide +kernel
abbrev s_look_at_books : Stmt := topS 26
theorem sc_look_at_books : FnScope ["net", "books"] ["net", "books"] (defScope s_look_at_books) := ⟨rfl, rfl, rfl, by decide +kernel, rfl, by decide +kernel, by decide +kernel⟩
theorem ma_look_at_books : matS (m0.at ["net", "books"]) (defScope s_look_at_books) c_look_at_books (defBody s_look_at_books) = true := by decide +kernel
abbrev s_taken : Stmt := topS 27
theorem sc_taken : FnScope ["book", "door", "address", "k", "row"] ["book", "door", "address"] (defScope s_taken) := ⟨rfl, rfl, rfl, by decide +kernel, rfl, by decide +kernel, by decide +kernel⟩
theorem ma_taken : matS (m0.at ["book", "door", "address", "k", "row"]) (defScope s_taken) c_taken (defBody s_taken) = true := by decide +kernel
abbrev s_look_at_coming : Stmt := topS 29
theorem sc_look_at_coming : FnScope ["net", "door", "address"] ["net", "door", "address"] (defScope s_look_at_coming) := ⟨rfl, rfl, rfl, by decide +kernel, rfl, by decide +kernel, by decide +kernel⟩
theorem ma_look_at_coming : matS (m0.at ["net", "door", "address"]) (defScope s_look_at_coming) c_look_at_coming (defBody s_look_at_coming) = true := by decide +kernel
abbrev s_next_of : Stmt := topS 30
theorem sc_next_of : FnScope ["net", "books", "door", "address", "k", "behind", "there", "house", "number"] ["net", "books", "door", "address"] (defScope s_next_of) := ⟨rfl, rfl, rfl, by decide +kernel, rfl, by decide +kernel, by decide +kernel⟩
theorem ma_next_of : matS (m0.at ["net", "books", "door", "address", "k", "behind", "there", "house", "number"]) (defScope s_next_of) c_next_of (defBody s_next_of) = true := by decide +kernel
abbrev s_walked : Stmt := topS 31
theorem sc_walked : FnScope ["net", "books", "door", "address", "road", "told"] ["net", "books", "door", "address"] (defScope s_walked) := ⟨rfl, rfl, rfl, by decide +kernel, rfl, by decide +kernel, by decide +kernel⟩
theorem ma_walked : matS (m0.at ["net", "books", "door", "address", "road", "told"]) (defScope s_walked) c_walked (defBody s_walked) = true := by decide +kernel
abbrev s_way : Stmt := topS 32
theorem sc_way : FnScope ["net", "books", "door", "address"] ["net", "books", "door", "address"] (defScope s_way) := ⟨rfl, rfl, rfl, by decide +kernel, rfl, by decide +kernel, by decide +kernel⟩
theorem ma_way : matS (m0.at ["net", "books", "door", "address"]) (defScope s_way) c_way (defBody s_way) = true := by decide +kernel
abbrev s_law_cell_at : Stmt := topS 34
theorem sc_law_cell_at : FnScope ["script", "k"] ["script", "k"] (defScope s_law_cell_at) := ⟨rfl, rfl, rfl, by decide +kernel, rfl, by decide +kernel, by decide +kernel⟩
theorem ma_law_cell_at : matS (m0.at ["script", "k"]) (defScope s_law_cell_at) c_law_cell_at (defBody s_law_cell_at) = true := by decide +kernel
abbrev s_law_mix : Stmt := topS 35
theorem sc_law_mix : FnScope ["cell", "k"] ["cell", "k"] (defScope s_law_mix) := ⟨rfl, rfl, rfl, by decide +kernel, rfl, by decide +kernel, by decide +kernel⟩
theorem ma_law_mix : matS (m0.at ["cell", "k"]) (defScope s_law_mix) c_law_mix (defBody s_law_mix) = true := by decide +kernel
abbrev s_law_counts : Stmt := topS 36
theorem sc_law_counts : FnScope ["script", "many", "house"] ["script"] (defScope s_law_counts) := ⟨rfl, rfl, rfl, by decide +kernel, rfl, by decide +kernel, by decide +kernel⟩
theorem ma_law_counts : matS (m0.at ["script", "many", "house"]) (defScope s_law_counts) c_law_counts (defBody s_law_counts) = true := by decide +kernel
abbrev s_law_doors : Stmt := topS 37
theorem sc_law_doors : FnScope ["counts", "doors", "house", "number"] ["counts"] (defScope s_law_doors) := ⟨rfl, rfl, rfl, by decide +kernel, rfl, by decide +kernel, by decide +kernel⟩
theorem ma_law_doors : matS (m0.at ["counts", "doors", "house", "number"]) (defScope s_law_doors) c_law_doors (defBody s_law_doors) = true := by decide +kernel
abbrev s_law_wires : Stmt := topS 38
theorem sc_law_wires : FnScope ["script", "counts", "doors", "some", "k", "dealt", "most", "many", "number", "door"] ["script", "counts"] (defScope s_law_wires) := ⟨rfl, rfl, rfl, by decide +kernel, rfl, by decide +kernel, by decide +kernel⟩
theorem ma_law_wires : matS (m0.at ["script", "counts", "doors", "some", "k", "dealt", "most", "many", "number", "door"]) (defScope s_law_wires) c_law_wires (defBody s_law_wires) = true := by decide +kernel
abbrev s_law_pattern : Stmt := topS 39
theorem sc_law_pattern : FnScope ["number", "signs", "k"] ["number"] (defScope s_law_pattern) := ⟨rfl, rfl, rfl, by decide +kernel, rfl, by decide +kernel, by decide +kernel⟩
theorem ma_law_pattern : matS (m0.at ["number", "signs", "k"]) (defScope s_law_pattern) c_law_pattern (defBody s_law_pattern) = true := by decide +kernel
abbrev s_law_row : Stmt := topS 40
theorem sc_law_row : FnScope ["cell", "k", "doors", "number", "into", "out"] ["cell", "k", "doors"] (defScope s_law_row) := ⟨rfl, rfl, rfl, by decide +kernel, rfl, by decide +kernel, by decide +kernel⟩
theorem ma_law_row : matS (m0.at ["cell", "k", "doors", "number", "into", "out"]) (defScope s_law_row) c_law_row (defBody s_law_row) = true := by decide +kernel
abbrev s_law_books : Stmt := topS 41
theorem sc_law_books : FnScope ["cells", "counts", "books", "k", "cell", "house"] ["cells", "counts"] (defScope s_law_books) := ⟨rfl, rfl, rfl, by decide +kernel, rfl, by decide +kernel, by decide +kernel⟩
theorem ma_law_books : matS (m0.at ["cells", "counts", "books", "k", "cell", "house"]) (defScope s_law_books) c_law_books (defBody s_law_books) = true := by decide +kernel
abbrev s_law_digit : Stmt := topS 42
theorem sc_law_digit : FnScope ["state", "many", "found"] ["state", "many"] (defScope s_law_digit) := ⟨rfl, rfl, rfl, by decide +kernel, rfl, by decide +kernel, by decide +kernel⟩
theorem ma_law_digit : matS (m0.at ["state", "many", "found"]) (defScope s_law_digit) c_law_digit (defBody s_law_digit) = true := by decide +kernel
abbrev s_law_net_by : Stmt := topS 43
theorem sc_law_net_by : FnScope ["state", "counts", "house", "doors", "wires", "k", "one"] ["state"] (defScope s_law_net_by) := ⟨rfl, rfl, rfl, by decide +kernel, rfl, by decide +kernel, by decide +kernel⟩
theorem ma_law_net_by : matS (m0.at ["state", "counts", "house", "doors", "wires", "k", "one"]) (defScope s_law_net_by) c_law_net_by (defBody s_law_net_by) = true := by decide +kernel
abbrev s_law_book_by : Stmt := topS 44
theorem sc_law_book_by : FnScope ["state", "doors", "book", "k", "pattern", "into", "j"] ["state", "doors"] (defScope s_law_book_by) := ⟨rfl, rfl, rfl, by decide +kernel, rfl, by decide +kernel, by decide +kernel⟩
theorem ma_law_book_by : matS (m0.at ["state", "doors", "book", "k", "pattern", "into", "j"]) (defScope s_law_book_by) c_law_book_by (defBody s_law_book_by) = true := by decide +kernel
abbrev s_law_world : Stmt := topS 45
theorem sc_law_world : FnScope ["script", "counts", "state", "wires", "doors"] ["script"] (defScope s_law_world) := ⟨rfl, rfl, rfl, by decide +kernel, rfl, by decide +kernel, by decide +kernel⟩
theorem ma_law_world : matS (m0.at ["script", "counts", "state", "wires", "doors"]) (defScope s_law_world) c_law_world (defBody s_law_world) = true := by decide +kernel
abbrev s_law_asked : Stmt := topS 46
theorem sc_law_asked : FnScope ["script", "state", "k"] ["script"] (defScope s_law_asked) := ⟨rfl, rfl, rfl, by decide +kernel, rfl, by decide +kernel, by decide +kernel⟩
theorem ma_law_asked : matS (m0.at ["script", "state", "k"]) (defScope s_law_asked) c_law_asked (defBody s_law_asked) = true := by decide +kernel
abbrev s_law_comes_to : Stmt := topS 47
theorem sc_law_comes_to : FnScope ["net", "books", "door", "address", "k", "behind"] ["net", "books", "door", "address"] (defScope s_law_comes_to) := ⟨rfl, rfl, rfl, by decide +kernel, rfl, by decide +kernel, by decide +kernel⟩
theorem ma_law_comes_to : matS (m0.at ["net", "books", "door", "address", "k", "behind"]) (defScope s_law_comes_to) c_law_comes_to (defBody s_law_comes_to) = true := by decide +kernel
abbrev s_law_walked_well_2 : Stmt := topS 48
theorem sc_law_walked_well_2 : FnScope ["net", "books", "door", "address", "told", "k", "last", "road", "end"] ["net", "books", "door", "address", "told"] (defScope s_law_walked_well_2) := ⟨rfl, rfl, rfl, by decide +kernel, rfl, by decide +kernel, by decide +kernel⟩
theorem ma_law_walked_well_2 : matS (m0.at ["net", "books", "door", "address", "told", "k", "last", "road", "end"]) (defScope s_law_walked_well_2) c_law_walked_well_2 (defBody s_law_walked_well_2) = true := by decide +kernel
abbrev s_law_from_2 : Stmt := topS 49
theorem sc_law_from_2 : FnScope ["told", "door", "at", "road", "end"] ["told", "door"] (defScope s_law_from_2) := ⟨rfl, rfl, rfl, by decide +kernel, rfl, by decide +kernel, by decide +kernel⟩
theorem ma_law_from_2 : matS (m0.at ["told", "door", "at", "road", "end"]) (defScope s_law_from_2) c_law_from_2 (defBody s_law_from_2) = true := by decide +kernel
abbrev s_law_alike_behind_2 : Stmt := topS 50
theorem sc_law_alike_behind_2 : FnScope ["one", "other", "door"] ["one", "other"] (defScope s_law_alike_behind_2) := ⟨rfl, rfl, rfl, by decide +kernel, rfl, by decide +kernel, by decide +kernel⟩
theorem ma_law_alike_behind_2 : matS (m0.at ["one", "other", "door"]) (defScope s_law_alike_behind_2) c_law_alike_behind_2 (defBody s_law_alike_behind_2) = true := by decide +kernel
abbrev s_law_marks : Stmt := topS 51
theorem sc_law_marks : FnScope ["books", "address", "book", "row"] ["books", "address"] (defScope s_law_marks) := ⟨rfl, rfl, rfl, by decide +kernel, rfl, by decide +kernel, by decide +kernel⟩
theorem ma_law_marks : matS (m0.at ["books", "address", "book", "row"]) (defScope s_law_marks) c_law_marks (defBody s_law_marks) = true := by decide +kernel
abbrev s_law_more_rows : Stmt := topS 52
theorem sc_law_more_rows : FnScope ["book", "number", "at", "row", "spot", "two", "sign"] ["book", "number"] (defScope s_law_more_rows) := ⟨rfl, rfl, rfl, by decide +kernel, rfl, by decide +kernel, by decide +kernel⟩
theorem ma_law_more_rows : matS (m0.at ["book", "number", "at", "row", "spot", "two", "sign"]) (defScope s_law_more_rows) c_law_more_rows (defBody s_law_more_rows) = true := by decide +kernel
abbrev s_law_fewer_rows : Stmt := topS 53
theorem sc_law_fewer_rows : FnScope ["book", "k"] ["book"] (defScope s_law_fewer_rows) := ⟨rfl, rfl, rfl, by decide +kernel, rfl, by decide +kernel, by decide +kernel⟩
theorem ma_law_fewer_rows : matS (m0.at ["book", "k"]) (defScope s_law_fewer_rows) c_law_fewer_rows (defBody s_law_fewer_rows) = true := by decide +kernel
abbrev s_law_otherwise : Stmt := topS 54
theorem sc_law_otherwise : FnScope ["books", "number", "found", "k"] ["books", "number"] (defScope s_law_otherwise) := ⟨rfl, rfl, rfl, by decide +kernel, rfl, by decide +kernel, by decide +kernel⟩
theorem ma_law_otherwise : matS (m0.at ["books", "number", "found", "k"]) (defScope s_law_otherwise) c_law_otherwise (defBody s_law_otherwise) = true := by decide +kernel
abbrev s_law_address_right_3 : Stmt := topS 55
theorem sc_law_address_right_3 : FnScope ["net", "books", "other", "address", "told", "outer", "door"] ["net", "books", "other", "address", "told"] (defScope s_law_address_right_3) := ⟨rfl, rfl, rfl, by decide +kernel, rfl, by decide +kernel, by decide +kernel⟩
theorem ma_law_address_right_3 : matS (m0.at ["net", "books", "other", "address", "told", "outer", "door"]) (defScope s_law_address_right_3) c_law_address_right_3 (defBody s_law_address_right_3) = true := by decide +kernel
abbrev s_law_151 : Stmt := topS 56
theorem sc_law_151 : FnScope ["script", "net", "other", "told", "asked", "address", "marks", "counts", "wires", "books", "door", "k", "first"] ["script"] (defScope s_law_151) := ⟨rfl, rfl, rfl, by decide +kernel, rfl, by decide +kernel, by decide +kernel⟩
theorem ma_law_151 : matS (m0.at ["script", "net", "other", "told", "asked", "address", "marks", "counts", "wires", "books", "door", "k", "first"]) (defScope s_law_151) c_law_151 (defBody s_law_151) = true := by decide +kernel
abbrev s_Net___init : Stmt := inClass (topS 13) 0
theorem sc_Net___init : FnScope ["self", "counts", "wires", "one", "two"] ["self", "counts", "wires"] (defScope s_Net___init) := ⟨rfl, rfl, rfl, by decide +kernel, rfl, by decide +kernel, by decide +kernel⟩
theorem ma_Net___init : matS (m0.at ["self", "counts", "wires", "one", "two"]) (defScope s_Net___init) c_Net___init (defBody s_Net___init) = true := by decide +kernel
abbrev s_Net_count : Stmt := inClass (topS 13) 1
theorem sc_Net_count : FnScope ["self", "house"] ["self", "house"] (defScope s_Net_count) := ⟨rfl, rfl, rfl, by decide +kernel, rfl, by decide +kernel, by decide +kernel⟩
theorem ma_Net_count : matS (m0.at ["self", "house"]) (defScope s_Net_count) c_Net_count (defBody s_Net_count) = true := by decide +kernel
abbrev s_Net_wires : Stmt := inClass (topS 13) 2
theorem sc_Net_wires : FnScope ["self"] ["self"] (defScope s_Net_wires) := ⟨rfl, rfl, rfl, by decide +kernel, rfl, by decide +kernel, by decide +kernel⟩
theorem ma_Net_wires : matS (m0.at ["self"]) (defScope s_Net_wires) c_Net_wires (defBody s_Net_wires) = true := by decide +kernel
abbrev s_Net_beyond : Stmt := inClass (topS 13) 3
theorem sc_Net_beyond : FnScope ["self", "door"] ["self", "door"] (defScope s_Net_beyond) := ⟨rfl, rfl, rfl, by decide +kernel, rfl, by decide +kernel, by decide +kernel⟩
theorem ma_Net_beyond : matS (m0.at ["self", "door"]) (defScope s_Net_beyond) c_Net_beyond (defBody s_Net_beyond) = true := by decide +kernel
abbrev s_Net_outer : Stmt := inClass (topS 13) 4
theorem sc_Net_outer : FnScope ["self", "doors", "house", "door", "number"] ["self"] (defScope s_Net_outer) := ⟨rfl, rfl, rfl, by decide +kernel, rfl, by decide +kernel, by decide +kernel⟩
theorem ma_Net_outer : matS (m0.at ["self", "doors", "house", "door", "number"]) (defScope s_Net_outer) c_Net_outer (defBody s_Net_outer) = true := by decide +kernel
abbrev s_Net_is_door : Stmt := inClass (topS 13) 5
theorem sc_Net_is_door : FnScope ["self", "thing"] ["self", "thing"] (defScope s_Net_is_door) := ⟨rfl, rfl, rfl, by decide +kernel, rfl, by decide +kernel, by decide +kernel⟩
theorem ma_Net_is_door : matS (m0.at ["self", "thing"]) (defScope s_Net_is_door) c_Net_is_door (defBody s_Net_is_door) = true := by decide +kernel
abbrev s_Net_is_outer : Stmt := inClass (topS 13) 6
theorem sc_Net_is_outer : FnScope ["self", "thing"] ["self", "thing"] (defScope s_Net_is_outer) := ⟨rfl, rfl, rfl, by decide +kernel, rfl, by decide +kernel, by decide +kernel⟩
theorem ma_Net_is_outer : matS (m0.at ["self", "thing"]) (defScope s_Net_is_outer) c_Net_is_outer (defBody s_Net_is_outer) = true := by decide +kernel
set_option maxHeartbeats 0 in
theorem all_mk {l : PySem.W.OpenLaw} {w : World} {K : PySem.W.Frag} {h : Heap} {mg : Str → Option Value} {fa : Addr} (X : K.In h) (G : h.Ns mainGlobals mg) (hfa : mg "law" = some (.ref fa))
    {C_Net : Addr}
    {C_NoNet : Addr}
    {C_NoBooks : Addr}
    {C_NoDoor : Addr}
    {C_NoAddress : Addr}
    {f_is_whole : Addr} {od_is_whole an_is_whole : Option Addr} {sl_is_whole : Array (Option Value)} {oc_is_whole kv_is_whole dc_is_whole pm_is_whole cd_is_whole ct_is_whole : Value}
    {f_are_counts : Addr} {od_are_counts an_are_counts : Option Addr} {sl_are_counts : Array (Option Value)} {oc_are_counts kv_are_counts dc_are_counts pm_are_counts cd_are_counts ct_are_counts : Value}
    {f_is_door_of : Addr} {od_is_door_of an_is_door_of : Option Addr} {sl_is_door_of : Array (Option Value)} {oc_is_door_of kv_is_door_of dc_is_door_of pm_is_door_of cd_is_door_of ct_is_door_of : Value}
    {f_are_wires : Addr} {od_are_wires an_are_wires : Option Addr} {sl_are_wires : Array (Option Value)} {oc_are_wires kv_are_wires dc_are_wires pm_are_wires cd_are_wires ct_are_wires : Value}
    {f_is_pattern : Addr} {od_is_pattern an_is_pattern : Option Addr} {sl_is_pattern : Array (Option Value)} {oc_is_pattern kv_is_pattern dc_is_pattern pm_is_pattern cd_is_pattern ct_is_pattern : Value}
    {f_fits : Addr} {od_fits an_fits : Option Addr} {sl_fits : Array (Option Value)} {oc_fits kv_fits dc_fits pm_fits cd_fits ct_fits : Value}
    {f_is_choice : Addr} {od_is_choice an_is_choice : Option Addr} {sl_is_choice : Array (Option Value)} {oc_is_choice kv_is_choice dc_is_choice pm_is_choice cd_is_choice ct_is_choice : Value}
    {f_is_row : Addr} {od_is_row an_is_row : Option Addr} {sl_is_row : Array (Option Value)} {oc_is_row kv_is_row dc_is_row pm_is_row cd_is_row ct_is_row : Value}
    {f_is_book : Addr} {od_is_book an_is_book : Option Addr} {sl_is_book : Array (Option Value)} {oc_is_book kv_is_book dc_is_book pm_is_book cd_is_book ct_is_book : Value}
    {f_is_books : Addr} {od_is_books an_is_books : Option Addr} {sl_is_books : Array (Option Value)} {oc_is_books kv_is_books dc_is_books pm_is_books cd_is_books ct_is_books : Value}
    {f_look_at_books : Addr} {od_look_at_books an_look_at_books : Option Addr} {sl_look_at_books : Array (Option Value)} {oc_look_at_books kv_look_at_books dc_look_at_books pm_look_at_books cd_look_at_books ct_look_at_books : Value}
    {f_taken : Addr} {od_taken an_taken : Option Addr} {sl_taken : Array (Option Value)} {oc_taken kv_taken dc_taken pm_taken cd_taken ct_taken : Value}
    {f_look_at_coming : Addr} {od_look_at_coming an_look_at_coming : Option Addr} {sl_look_at_coming : Array (Option Value)} {oc_look_at_coming kv_look_at_coming dc_look_at_coming pm_look_at_coming cd_look_at_coming ct_look_at_coming : Value}
    {f_next_of : Addr} {od_next_of an_next_of : Option Addr} {sl_next_of : Array (Option Value)} {oc_next_of kv_next_of dc_next_of pm_next_of cd_next_of ct_next_of : Value}
    {f_walked : Addr} {od_walked an_walked : Option Addr} {sl_walked : Array (Option Value)} {oc_walked kv_walked dc_walked pm_walked cd_walked ct_walked : Value}
    {f_way : Addr} {od_way an_way : Option Addr} {sl_way : Array (Option Value)} {oc_way kv_way dc_way pm_way cd_way ct_way : Value}
    {f_law_cell_at : Addr} {od_law_cell_at an_law_cell_at : Option Addr} {sl_law_cell_at : Array (Option Value)} {oc_law_cell_at kv_law_cell_at dc_law_cell_at pm_law_cell_at cd_law_cell_at ct_law_cell_at : Value}
    {f_law_mix : Addr} {od_law_mix an_law_mix : Option Addr} {sl_law_mix : Array (Option Value)} {oc_law_mix kv_law_mix dc_law_mix pm_law_mix cd_law_mix ct_law_mix : Value}
    {f_law_counts : Addr} {od_law_counts an_law_counts : Option Addr} {sl_law_counts : Array (Option Value)} {oc_law_counts kv_law_counts dc_law_counts pm_law_counts cd_law_counts ct_law_counts : Value}
    {f_law_doors : Addr} {od_law_doors an_law_doors : Option Addr} {sl_law_doors : Array (Option Value)} {oc_law_doors kv_law_doors dc_law_doors pm_law_doors cd_law_doors ct_law_doors : Value}
    {f_law_wires : Addr} {od_law_wires an_law_wires : Option Addr} {sl_law_wires : Array (Option Value)} {oc_law_wires kv_law_wires dc_law_wires pm_law_wires cd_law_wires ct_law_wires : Value}
    {f_law_pattern : Addr} {od_law_pattern an_law_pattern : Option Addr} {sl_law_pattern : Array (Option Value)} {oc_law_pattern kv_law_pattern dc_law_pattern pm_law_pattern cd_law_pattern ct_law_pattern : Value}
    {f_law_row : Addr} {od_law_row an_law_row : Option Addr} {sl_law_row : Array (Option Value)} {oc_law_row kv_law_row dc_law_row pm_law_row cd_law_row ct_law_row : Value}
    {f_law_books : Addr} {od_law_books an_law_books : Option Addr} {sl_law_books : Array (Option Value)} {oc_law_books kv_law_books dc_law_books pm_law_books cd_law_books ct_law_books : Value}
    {f_law_digit : Addr} {od_law_digit an_law_digit : Option Addr} {sl_law_digit : Array (Option Value)} {oc_law_digit kv_law_digit dc_law_digit pm_law_digit cd_law_digit ct_law_digit : Value}
    {f_law_net_by : Addr} {od_law_net_by an_law_net_by : Option Addr} {sl_law_net_by : Array (Option Value)} {oc_law_net_by kv_law_net_by dc_law_net_by pm_law_net_by cd_law_net_by ct_law_net_by : Value}
    {f_law_book_by : Addr} {od_law_book_by an_law_book_by : Option Addr} {sl_law_book_by : Array (Option Value)} {oc_law_book_by kv_law_book_by dc_law_book_by pm_law_book_by cd_law_book_by ct_law_book_by : Value}
    {f_law_world : Addr} {od_law_world an_law_world : Option Addr} {sl_law_world : Array (Option Value)} {oc_law_world kv_law_world dc_law_world pm_law_world cd_law_world ct_law_world : Value}
    {f_law_asked : Addr} {od_law_asked an_law_asked : Option Addr} {sl_law_asked : Array (Option Value)} {oc_law_asked kv_law_asked dc_law_asked pm_law_asked cd_law_asked ct_law_asked : Value}
    {f_law_comes_to : Addr} {od_law_comes_to an_law_comes_to : Option Addr} {sl_law_comes_to : Array (Option Value)} {oc_law_comes_to kv_law_comes_to dc_law_comes_to pm_law_comes_to cd_law_comes_to ct_law_comes_to : Value}
    {f_law_walked_well_2 : Addr} {od_law_walked_well_2 an_law_walked_well_2 : Option Addr} {sl_law_walked_well_2 : Array (Option Value)} {oc_law_walked_well_2 kv_law_walked_well_2 dc_law_walked_well_2 pm_law_walked_well_2 cd_law_walked_well_2 ct_law_walked_well_2 : Value}
    {f_law_from_2 : Addr} {od_law_from_2 an_law_from_2 : Option Addr} {sl_law_from_2 : Array (Option Value)} {oc_law_from_2 kv_law_from_2 dc_law_from_2 pm_law_from_2 cd_law_from_2 ct_law_from_2 : Value}
    {f_law_alike_behind_2 : Addr} {od_law_alike_behind_2 an_law_alike_behind_2 : Option Addr} {sl_law_alike_behind_2 : Array (Option Value)} {oc_law_alike_behind_2 kv_law_alike_behind_2 dc_law_alike_behind_2 pm_law_alike_behind_2 cd_law_alike_behind_2 ct_law_alike_behind_2 : Value}
    {f_law_marks : Addr} {od_law_marks an_law_marks : Option Addr} {sl_law_marks : Array (Option Value)} {oc_law_marks kv_law_marks dc_law_marks pm_law_marks cd_law_marks ct_law_marks : Value}
    {f_law_more_rows : Addr} {od_law_more_rows an_law_more_rows : Option Addr} {sl_law_more_rows : Array (Option Value)} {oc_law_more_rows kv_law_more_rows dc_law_more_rows pm_law_more_rows cd_law_more_rows ct_law_more_rows : Value}
    {f_law_fewer_rows : Addr} {od_law_fewer_rows an_law_fewer_rows : Option Addr} {sl_law_fewer_rows : Array (Option Value)} {oc_law_fewer_rows kv_law_fewer_rows dc_law_fewer_rows pm_law_fewer_rows cd_law_fewer_rows ct_law_fewer_rows : Value}
    {f_law_otherwise : Addr} {od_law_otherwise an_law_otherwise : Option Addr} {sl_law_otherwise : Array (Option Value)} {oc_law_otherwise kv_law_otherwise dc_law_otherwise pm_law_otherwise cd_law_otherwise ct_law_otherwise : Value}
    {f_law_address_right_3 : Addr} {od_law_address_right_3 an_law_address_right_3 : Option Addr} {sl_law_address_right_3 : Array (Option Value)} {oc_law_address_right_3 kv_law_address_right_3 dc_law_address_right_3 pm_law_address_right_3 cd_law_address_right_3 ct_law_address_right_3 : Value}
    {f_law_151 : Addr} {od_law_151 an_law_151 : Option Addr} {sl_law_151 : Array (Option Value)} {oc_law_151 kv_law_151 dc_law_151 pm_law_151 cd_law_151 ct_law_151 : Value}
    {f_Net___init : Addr} {od_Net___init an_Net___init : Option Addr} {sl_Net___init : Array (Option Value)} {oc_Net___init kv_Net___init dc_Net___init pm_Net___init cd_Net___init ct_Net___init : Value}
    {f_Net_count : Addr} {od_Net_count an_Net_count : Option Addr} {sl_Net_count : Array (Option Value)} {oc_Net_count kv_Net_count dc_Net_count pm_Net_count cd_Net_count ct_Net_count : Value}
    {f_Net_wires : Addr} {od_Net_wires an_Net_wires : Option Addr} {sl_Net_wires : Array (Option Value)} {oc_Net_wires kv_Net_wires dc_Net_wires pm_Net_wires cd_Net_wires ct_Net_wires : Value}
    {f_Net_beyond : Addr} {od_Net_beyond an_Net_beyond : Option Addr} {sl_Net_beyond : Array (Option Value)} {oc_Net_beyond kv_Net_beyond dc_Net_beyond pm_Net_beyond cd_Net_beyond ct_Net_beyond : Value}
    {f_Net_outer : Addr} {od_Net_outer an_Net_outer : Option Addr} {sl_Net_outer : Array (Option Value)} {oc_Net_outer kv_Net_outer dc_Net_outer pm_Net_outer cd_Net_outer ct_Net_outer : Value}
    {f_Net_is_door : Addr} {od_Net_is_door an_Net_is_door : Option Addr} {sl_Net_is_door : Array (Option Value)} {oc_Net_is_door kv_Net_is_door dc_Net_is_door pm_Net_is_door cd_Net_is_door ct_Net_is_door : Value}
    {f_Net_is_outer : Addr} {od_Net_is_outer an_Net_is_outer : Option Addr} {sl_Net_is_outer : Array (Option Value)} {oc_Net_is_outer kv_Net_is_outer dc_Net_is_outer pm_Net_is_outer cd_Net_is_outer ct_Net_is_outer : Value}
    {t_MOST_HOUSES : Tok}
    {t_MOST_DOORS : Tok}
    {t_SIGNS : Tok}
    {t_FIGURES : Tok}
    {t_MANY : Tok}
    {t_MOST_ROWS : Tok}
    (a_is_whole : PySem.W.nsIn K mainGlobals "is_whole" = some (some (.ref f_is_whole))) (l_is_whole : K.lookup f_is_whole = some ⟨oc_is_whole, od_is_whole, .func (PySem.W.fnOf "is_whole" "is_whole" (defArgs s_is_whole) (defBody s_is_whole) (defScope s_is_whole) .none kv_is_whole dc_is_whole pm_is_whole an_is_whole cd_is_whole ct_is_whole), sl_is_whole⟩) (y_is_whole : PySem.W.codeIn K cd_is_whole "is_whole" = true) (k_is_whole : PySem.W.keepIn K (.ref f_is_whole) = true)
    (a_are_counts : PySem.W.nsIn K mainGlobals "are_counts" = some (some (.ref f_are_counts))) (l_are_counts : K.lookup f_are_counts = some ⟨oc_are_counts, od_are_counts, .func (PySem.W.fnOf "are_counts" "are_counts" (defArgs s_are_counts) (defBody s_are_counts) (defScope s_are_counts) .none kv_are_counts dc_are_counts pm_are_counts an_are_counts cd_are_counts ct_are_counts), sl_are_counts⟩) (y_are_counts : PySem.W.codeIn K cd_are_counts "are_counts" = true) (k_are_counts : PySem.W.keepIn K (.ref f_are_counts) = true)
    (a_is_door_of : PySem.W.nsIn K mainGlobals "is_door_of" = some (some (.ref f_is_door_of))) (l_is_door_of : K.lookup f_is_door_of = some ⟨oc_is_door_of, od_is_door_of, .func (PySem.W.fnOf "is_door_of" "is_door_of" (defArgs s_is_door_of) (defBody s_is_door_of) (defScope s_is_door_of) .none kv_is_door_of dc_is_door_of pm_is_door_of an_is_door_of cd_is_door_of ct_is_door_of), sl_is_door_of⟩) (y_is_door_of : PySem.W.codeIn K cd_is_door_of "is_door_of" = true) (k_is_door_of : PySem.W.keepIn K (.ref f_is_door_of) = true)
    (a_are_wires : PySem.W.nsIn K mainGlobals "are_wires" = some (some (.ref f_are_wires))) (l_are_wires : K.lookup f_are_wires = some ⟨oc_are_wires, od_are_wires, .func (PySem.W.fnOf "are_wires" "are_wires" (defArgs s_are_wires) (defBody s_are_wires) (defScope s_are_wires) .none kv_are_wires dc_are_wires pm_are_wires an_are_wires cd_are_wires ct_are_wires), sl_are_wires⟩) (y_are_wires : PySem.W.codeIn K cd_are_wires "are_wires" = true) (k_are_wires : PySem.W.keepIn K (.ref f_are_wires) = true)
    (a_is_pattern : PySem.W.nsIn K mainGlobals "is_pattern" = some (some (.ref f_is_pattern))) (l_is_pattern : K.lookup f_is_pattern = some ⟨oc_is_pattern, od_is_pattern, .func (PySem.W.fnOf "is_pattern" "is_pattern" (defArgs s_is_pattern) (defBody s_is_pattern) (defScope s_is_pattern) .none kv_is_pattern dc_is_pattern pm_is_pattern an_is_pattern cd_is_pattern ct_is_pattern), sl_is_pattern⟩) (y_is_pattern : PySem.W.codeIn K cd_is_pattern "is_pattern" = true) (k_is_pattern : PySem.W.keepIn K (.ref f_is_pattern) = true)
    (a_fits : PySem.W.nsIn K mainGlobals "fits" = some (some (.ref f_fits))) (l_fits : K.lookup f_fits = some ⟨oc_fits, od_fits, .func (PySem.W.fnOf "fits" "fits" (defArgs s_fits) (defBody s_fits) (defScope s_fits) .none kv_fits dc_fits pm_fits an_fits cd_fits ct_fits), sl_fits⟩) (y_fits : PySem.W.codeIn K cd_fits "fits" = true) (k_fits : PySem.W.keepIn K (.ref f_fits) = true)
    (a_is_choice : PySem.W.nsIn K mainGlobals "is_choice" = some (some (.ref f_is_choice))) (l_is_choice : K.lookup f_is_choice = some ⟨oc_is_choice, od_is_choice, .func (PySem.W.fnOf "is_choice" "is_choice" (defArgs s_is_choice) (defBody s_is_choice) (defScope s_is_choice) .none kv_is_choice dc_is_choice pm_is_choice an_is_choice cd_is_choice ct_is_choice), sl_is_choice⟩) (y_is_choice : PySem.W.codeIn K cd_is_choice "is_choice" = true) (k_is_choice : PySem.W.keepIn K (.ref f_is_choice) = true)
    (a_is_row : PySem.W.nsIn K mainGlobals "is_row" = some (some (.ref f_is_row))) (l_is_row : K.lookup f_is_row = some ⟨oc_is_row, od_is_row, .func (PySem.W.fnOf "is_row" "is_row" (defArgs s_is_row) (defBody s_is_row) (defScope s_is_row) .none kv_is_row dc_is_row pm_is_row an_is_row cd_is_row ct_is_row), sl_is_row⟩) (y_is_row : PySem.W.codeIn K cd_is_row "is_row" = true) (k_is_row : PySem.W.keepIn K (.ref f_is_row) = true)
    (a_is_book : PySem.W.nsIn K mainGlobals "is_book" = some (some (.ref f_is_book))) (l_is_book : K.lookup f_is_book = some ⟨oc_is_book, od_is_book, .func (PySem.W.fnOf "is_book" "is_book" (defArgs s_is_book) (defBody s_is_book) (defScope s_is_book) .none kv_is_book dc_is_book pm_is_book an_is_book cd_is_book ct_is_book), sl_is_book⟩) (y_is_book : PySem.W.codeIn K cd_is_book "is_book" = true) (k_is_book : PySem.W.keepIn K (.ref f_is_book) = true)
    (a_is_books : PySem.W.nsIn K mainGlobals "is_books" = some (some (.ref f_is_books))) (l_is_books : K.lookup f_is_books = some ⟨oc_is_books, od_is_books, .func (PySem.W.fnOf "is_books" "is_books" (defArgs s_is_books) (defBody s_is_books) (defScope s_is_books) .none kv_is_books dc_is_books pm_is_books an_is_books cd_is_books ct_is_books), sl_is_books⟩) (y_is_books : PySem.W.codeIn K cd_is_books "is_books" = true) (k_is_books : PySem.W.keepIn K (.ref f_is_books) = true)
    (a_look_at_books : PySem.W.nsIn K mainGlobals "look_at_books" = some (some (.ref f_look_at_books))) (l_look_at_books : K.lookup f_look_at_books = some ⟨oc_look_at_books, od_look_at_books, .func (PySem.W.fnOf "look_at_books" "look_at_books" (defArgs s_look_at_books) (defBody s_look_at_books) (defScope s_look_at_books) .none kv_look_at_books dc_look_at_books pm_look_at_books an_look_at_books cd_look_at_books ct_look_at_books), sl_look_at_books⟩) (y_look_at_books : PySem.W.codeIn K cd_look_at_books "look_at_books" = true) (k_look_at_books : PySem.W.keepIn K (.ref f_look_at_books) = true)
    (a_taken : PySem.W.nsIn K mainGlobals "taken" = some (some (.ref f_taken))) (l_taken : K.lookup f_taken = some ⟨oc_taken, od_taken, .func (PySem.W.fnOf "taken" "taken" (defArgs s_taken) (defBody s_taken) (defScope s_taken) .none kv_taken dc_taken pm_taken an_taken cd_taken ct_taken), sl_taken⟩) (y_taken : PySem.W.codeIn K cd_taken "taken" = true) (k_taken : PySem.W.keepIn K (.ref f_taken) = true)
    (a_look_at_coming : PySem.W.nsIn K mainGlobals "look_at_coming" = some (some (.ref f_look_at_coming))) (l_look_at_coming : K.lookup f_look_at_coming = some ⟨oc_look_at_coming, od_look_at_coming, .func (PySem.W.fnOf "look_at_coming" "look_at_coming" (defArgs s_look_at_coming) (defBody s_look_at_coming) (defScope s_look_at_coming) .none kv_look_at_coming dc_look_at_coming pm_look_at_coming an_look_at_coming cd_look_at_coming ct_look_at_coming), sl_look_at_coming⟩) (y_look_at_coming : PySem.W.codeIn K cd_look_at_coming "look_at_coming" = true) (k_look_at_coming : PySem.W.keepIn K (.ref f_look_at_coming) = true)
    (a_next_of : PySem.W.nsIn K mainGlobals "next_of" = some (some (.ref f_next_of))) (l_next_of : K.lookup f_next_of = some ⟨oc_next_of, od_next_of, .func (PySem.W.fnOf "next_of" "next_of" (defArgs s_next_of) (defBody s_next_of) (defScope s_next_of) .none kv_next_of dc_next_of pm_next_of an_next_of cd_next_of ct_next_of), sl_next_of⟩) (y_next_of : PySem.W.codeIn K cd_next_of "next_of" = true) (k_next_of : PySem.W.keepIn K (.ref f_next_of) = true)
    (a_walked : PySem.W.nsIn K mainGlobals "walked" = some (some (.ref f_walked))) (l_walked : K.lookup f_walked = some ⟨oc_walked, od_walked, .func (PySem.W.fnOf "walked" "walked" (defArgs s_walked) (defBody s_walked) (defScope s_walked) .none kv_walked dc_walked pm_walked an_walked cd_walked ct_walked), sl_walked⟩) (y_walked : PySem.W.codeIn K cd_walked "walked" = true) (k_walked : PySem.W.keepIn K (.ref f_walked) = true)
    (a_way : PySem.W.nsIn K mainGlobals "way" = some (some (.ref f_way))) (l_way : K.lookup f_way = some ⟨oc_way, od_way, .func (PySem.W.fnOf "way" "way" (defArgs s_way) (defBody s_way) (defScope s_way) .none kv_way dc_way pm_way an_way cd_way ct_way), sl_way⟩) (y_way : PySem.W.codeIn K cd_way "way" = true) (k_way : PySem.W.keepIn K (.ref f_way) = true)
    (a_law_cell_at : PySem.W.nsIn K mainGlobals "_law_cell_at" = some (some (.ref f_law_cell_at))) (l_law_cell_at : K.lookup f_law_cell_at = some ⟨oc_law_cell_at, od_law_cell_at, .func (PySem.W.fnOf "_law_cell_at" "_law_cell_at" (defArgs s_law_cell_at) (defBody s_law_cell_at) (defScope s_law_cell_at) .none kv_law_cell_at dc_law_cell_at pm_law_cell_at an_law_cell_at cd_law_cell_at ct_law_cell_at), sl_law_cell_at⟩) (y_law_cell_at : PySem.W.codeIn K cd_law_cell_at "_law_cell_at" = true) (k_law_cell_at : PySem.W.keepIn K (.ref f_law_cell_at) = true)
    (a_law_mix : PySem.W.nsIn K mainGlobals "_law_mix" = some (some (.ref f_law_mix))) (l_law_mix : K.lookup f_law_mix = some ⟨oc_law_mix, od_law_mix, .func (PySem.W.fnOf "_law_mix" "_law_mix" (defArgs s_law_mix) (defBody s_law_mix) (defScope s_law_mix) .none kv_law_mix dc_law_mix pm_law_mix an_law_mix cd_law_mix ct_law_mix), sl_law_mix⟩) (y_law_mix : PySem.W.codeIn K cd_law_mix "_law_mix" = true) (k_law_mix : PySem.W.keepIn K (.ref f_law_mix) = true)
    (a_law_counts : PySem.W.nsIn K mainGlobals "_law_counts" = some (some (.ref f_law_counts))) (l_law_counts : K.lookup f_law_counts = some ⟨oc_law_counts, od_law_counts, .func (PySem.W.fnOf "_law_counts" "_law_counts" (defArgs s_law_counts) (defBody s_law_counts) (defScope s_law_counts) .none kv_law_counts dc_law_counts pm_law_counts an_law_counts cd_law_counts ct_law_counts), sl_law_counts⟩) (y_law_counts : PySem.W.codeIn K cd_law_counts "_law_counts" = true) (k_law_counts : PySem.W.keepIn K (.ref f_law_counts) = true)
    (a_law_doors : PySem.W.nsIn K mainGlobals "_law_doors" = some (some (.ref f_law_doors))) (l_law_doors : K.lookup f_law_doors = some ⟨oc_law_doors, od_law_doors, .func (PySem.W.fnOf "_law_doors" "_law_doors" (defArgs s_law_doors) (defBody s_law_doors) (defScope s_law_doors) .none kv_law_doors dc_law_doors pm_law_doors an_law_doors cd_law_doors ct_law_doors), sl_law_doors⟩) (y_law_doors : PySem.W.codeIn K cd_law_doors "_law_doors" = true) (k_law_doors : PySem.W.keepIn K (.ref f_law_doors) = true)
    (a_law_wires : PySem.W.nsIn K mainGlobals "_law_wires" = some (some (.ref f_law_wires))) (l_law_wires : K.lookup f_law_wires = some ⟨oc_law_wires, od_law_wires, .func (PySem.W.fnOf "_law_wires" "_law_wires" (defArgs s_law_wires) (defBody s_law_wires) (defScope s_law_wires) .none kv_law_wires dc_law_wires pm_law_wires an_law_wires cd_law_wires ct_law_wires), sl_law_wires⟩) (y_law_wires : PySem.W.codeIn K cd_law_wires "_law_wires" = true) (k_law_wires : PySem.W.keepIn K (.ref f_law_wires) = true)
    (a_law_pattern : PySem.W.nsIn K mainGlobals "_law_pattern" = some (some (.ref f_law_pattern))) (l_law_pattern : K.lookup f_law_pattern = some ⟨oc_law_pattern, od_law_pattern, .func (PySem.W.fnOf "_law_pattern" "_law_pattern" (defArgs s_law_pattern) (defBody s_law_pattern) (defScope s_law_pattern) .none kv_law_pattern dc_law_pattern pm_law_pattern an_law_pattern cd_law_pattern ct_law_pattern), sl_law_pattern⟩) (y_law_pattern : PySem.W.codeIn K cd_law_pattern "_law_pattern" = true) (k_law_pattern : PySem.W.keepIn K (.ref f_law_pattern) = true)
    (a_law_row : PySem.W.nsIn K mainGlobals "_law_row" = some (some (.ref f_law_row))) (l_law_row : K.lookup f_law_row = some ⟨oc_law_row, od_law_row, .func (PySem.W.fnOf "_law_row" "_law_row" (defArgs s_law_row) (defBody s_law_row) (defScope s_law_row) .none kv_law_row dc_law_row pm_law_row an_law_row cd_law_row ct_law_row), sl_law_row⟩) (y_law_row : PySem.W.codeIn K cd_law_row "_law_row" = true) (k_law_row : PySem.W.keepIn K (.ref f_law_row) = true)
    (a_law_books : PySem.W.nsIn K mainGlobals "_law_books" = some (some (.ref f_law_books))) (l_law_books : K.lookup f_law_books = some ⟨oc_law_books, od_law_books, .func (PySem.W.fnOf "_law_books" "_law_books" (defArgs s_law_books) (defBody s_law_books) (defScope s_law_books) .none kv_law_books dc_law_books pm_law_books an_law_books cd_law_books ct_law_books), sl_law_books⟩) (y_law_books : PySem.W.codeIn K cd_law_books "_law_books" = true) (k_law_books : PySem.W.keepIn K (.ref f_law_books) = true)
    (a_law_digit : PySem.W.nsIn K mainGlobals "_law_digit" = some (some (.ref f_law_digit))) (l_law_digit : K.lookup f_law_digit = some ⟨oc_law_digit, od_law_digit, .func (PySem.W.fnOf "_law_digit" "_law_digit" (defArgs s_law_digit) (defBody s_law_digit) (defScope s_law_digit) .none kv_law_digit dc_law_digit pm_law_digit an_law_digit cd_law_digit ct_law_digit), sl_law_digit⟩) (y_law_digit : PySem.W.codeIn K cd_law_digit "_law_digit" = true) (k_law_digit : PySem.W.keepIn K (.ref f_law_digit) = true)
    (a_law_net_by : PySem.W.nsIn K mainGlobals "_law_net_by" = some (some (.ref f_law_net_by))) (l_law_net_by : K.lookup f_law_net_by = some ⟨oc_law_net_by, od_law_net_by, .func (PySem.W.fnOf "_law_net_by" "_law_net_by" (defArgs s_law_net_by) (defBody s_law_net_by) (defScope s_law_net_by) .none kv_law_net_by dc_law_net_by pm_law_net_by an_law_net_by cd_law_net_by ct_law_net_by), sl_law_net_by⟩) (y_law_net_by : PySem.W.codeIn K cd_law_net_by "_law_net_by" = true) (k_law_net_by : PySem.W.keepIn K (.ref f_law_net_by) = true)
    (a_law_book_by : PySem.W.nsIn K mainGlobals "_law_book_by" = some (some (.ref f_law_book_by))) (l_law_book_by : K.lookup f_law_book_by = some ⟨oc_law_book_by, od_law_book_by, .func (PySem.W.fnOf "_law_book_by" "_law_book_by" (defArgs s_law_book_by) (defBody s_law_book_by) (defScope s_law_book_by) .none kv_law_book_by dc_law_book_by pm_law_book_by an_law_book_by cd_law_book_by ct_law_book_by), sl_law_book_by⟩) (y_law_book_by : PySem.W.codeIn K cd_law_book_by "_law_book_by" = true) (k_law_book_by : PySem.W.keepIn K (.ref f_law_book_by) = true)
    (a_law_world : PySem.W.nsIn K mainGlobals "_law_world" = some (some (.ref f_law_world))) (l_law_world : K.lookup f_law_world = some ⟨oc_law_world, od_law_world, .func (PySem.W.fnOf "_law_world" "_law_world" (defArgs s_law_world) (defBody s_law_world) (defScope s_law_world) .none kv_law_world dc_law_world pm_law_world an_law_world cd_law_world ct_law_world), sl_law_world⟩) (y_law_world : PySem.W.codeIn K cd_law_world "_law_world" = true) (k_law_world : PySem.W.keepIn K (.ref f_law_world) = true)
    (a_law_asked : PySem.W.nsIn K mainGlobals "_law_asked" = some (some (.ref f_law_asked))) (l_law_asked : K.lookup f_law_asked = some ⟨oc_law_asked, od_law_asked, .func (PySem.W.fnOf "_law_asked" "_law_asked" (defArgs s_law_asked) (defBody s_law_asked) (defScope s_law_asked) .none kv_law_asked dc_law_asked pm_law_asked an_law_asked cd_law_asked ct_law_asked), sl_law_asked⟩) (y_law_asked : PySem.W.codeIn K cd_law_asked "_law_asked" = true) (k_law_asked : PySem.W.keepIn K (.ref f_law_asked) = true)
    (a_law_comes_to : PySem.W.nsIn K mainGlobals "_law_comes_to" = some (some (.ref f_law_comes_to))) (l_law_comes_to : K.lookup f_law_comes_to = some ⟨oc_law_comes_to, od_law_comes_to, .func (PySem.W.fnOf "_law_comes_to" "_law_comes_to" (defArgs s_law_comes_to) (defBody s_law_comes_to) (defScope s_law_comes_to) .none kv_law_comes_to dc_law_comes_to pm_law_comes_to an_law_comes_to cd_law_comes_to ct_law_comes_to), sl_law_comes_to⟩) (y_law_comes_to : PySem.W.codeIn K cd_law_comes_to "_law_comes_to" = true) (k_law_comes_to : PySem.W.keepIn K (.ref f_law_comes_to) = true)
    (a_law_walked_well_2 : PySem.W.nsIn K mainGlobals "_law_walked_well" = some (some (.ref f_law_walked_well_2))) (l_law_walked_well_2 : K.lookup f_law_walked_well_2 = some ⟨oc_law_walked_well_2, od_law_walked_well_2, .func (PySem.W.fnOf "_law_walked_well" "_law_walked_well" (defArgs s_law_walked_well_2) (defBody s_law_walked_well_2) (defScope s_law_walked_well_2) .none kv_law_walked_well_2 dc_law_walked_well_2 pm_law_walked_well_2 an_law_walked_well_2 cd_law_walked_well_2 ct_law_walked_well_2), sl_law_walked_well_2⟩) (y_law_walked_well_2 : PySem.W.codeIn K cd_law_walked_well_2 "_law_walked_well" = true) (k_law_walked_well_2 : PySem.W.keepIn K (.ref f_law_walked_well_2) = true)
    (a_law_from_2 : PySem.W.nsIn K mainGlobals "_law_from" = some (some (.ref f_law_from_2))) (l_law_from_2 : K.lookup f_law_from_2 = some ⟨oc_law_from_2, od_law_from_2, .func (PySem.W.fnOf "_law_from" "_law_from" (defArgs s_law_from_2) (defBody s_law_from_2) (defScope s_law_from_2) .none kv_law_from_2 dc_law_from_2 pm_law_from_2 an_law_from_2 cd_law_from_2 ct_law_from_2), sl_law_from_2⟩) (y_law_from_2 : PySem.W.codeIn K cd_law_from_2 "_law_from" = true) (k_law_from_2 : PySem.W.keepIn K (.ref f_law_from_2) = true)
    (a_law_alike_behind_2 : PySem.W.nsIn K mainGlobals "_law_alike_behind" = some (some (.ref f_law_alike_behind_2))) (l_law_alike_behind_2 : K.lookup f_law_alike_behind_2 = some ⟨oc_law_alike_behind_2, od_law_alike_behind_2, .func (PySem.W.fnOf "_law_alike_behind" "_law_alike_behind" (defArgs s_law_alike_behind_2) (defBody s_law_alike_behind_2) (defScope s_law_alike_behind_2) .none kv_law_alike_behind_2 dc_law_alike_behind_2 pm_law_alike_behind_2 an_law_alike_behind_2 cd_law_alike_behind_2 ct_law_alike_behind_2), sl_law_alike_behind_2⟩) (y_law_alike_behind_2 : PySem.W.codeIn K cd_law_alike_behind_2 "_law_alike_behind" = true) (k_law_alike_behind_2 : PySem.W.keepIn K (.ref f_law_alike_behind_2) = true)
    (a_law_marks : PySem.W.nsIn K mainGlobals "_law_marks" = some (some (.ref f_law_marks))) (l_law_marks : K.lookup f_law_marks = some ⟨oc_law_marks, od_law_marks, .func (PySem.W.fnOf "_law_marks" "_law_marks" (defArgs s_law_marks) (defBody s_law_marks) (defScope s_law_marks) .none kv_law_marks dc_law_marks pm_law_marks an_law_marks cd_law_marks ct_law_marks), sl_law_marks⟩) (y_law_marks : PySem.W.codeIn K cd_law_marks "_law_marks" = true) (k_law_marks : PySem.W.keepIn K (.ref f_law_marks) = true)
    (a_law_more_rows : PySem.W.nsIn K mainGlobals "_law_more_rows" = some (some (.ref f_law_more_rows))) (l_law_more_rows : K.lookup f_law_more_rows = some ⟨oc_law_more_rows, od_law_more_rows, .func (PySem.W.fnOf "_law_more_rows" "_law_more_rows" (defArgs s_law_more_rows) (defBody s_law_more_rows) (defScope s_law_more_rows) .none kv_law_more_rows dc_law_more_rows pm_law_more_rows an_law_more_rows cd_law_more_rows ct_law_more_rows), sl_law_more_rows⟩) (y_law_more_rows : PySem.W.codeIn K cd_law_more_rows "_law_more_rows" = true) (k_law_more_rows : PySem.W.keepIn K (.ref f_law_more_rows) = true)
    (a_law_fewer_rows : PySem.W.nsIn K mainGlobals "_law_fewer_rows" = some (some (.ref f_law_fewer_rows))) (l_law_fewer_rows : K.lookup f_law_fewer_rows = some ⟨oc_law_fewer_rows, od_law_fewer_rows, .func (PySem.W.fnOf "_law_fewer_rows" "_law_fewer_rows" (defArgs s_law_fewer_rows) (defBody s_law_fewer_rows) (defScope s_law_fewer_rows) .none kv_law_fewer_rows dc_law_fewer_rows pm_law_fewer_rows an_law_fewer_rows cd_law_fewer_rows ct_law_fewer_rows), sl_law_fewer_rows⟩) (y_law_fewer_rows : PySem.W.codeIn K cd_law_fewer_rows "_law_fewer_rows" = true) (k_law_fewer_rows : PySem.W.keepIn K (.ref f_law_fewer_rows) = true)
    (a_law_otherwise : PySem.W.nsIn K mainGlobals "_law_otherwise" = some (some (.ref f_law_otherwise))) (l_law_otherwise : K.lookup f_law_otherwise = some ⟨oc_law_otherwise, od_law_otherwise, .func (PySem.W.fnOf "_law_otherwise" "_law_otherwise" (defArgs s_law_otherwise) (defBody s_law_otherwise) (defScope s_law_otherwise) .none kv_law_otherwise dc_law_otherwise pm_law_otherwise an_law_otherwise cd_law_otherwise ct_law_otherwise), sl_law_otherwise⟩) (y_law_otherwise : PySem.W.codeIn K cd_law_otherwise "_law_otherwise" = true) (k_law_otherwise : PySem.W.keepIn K (.ref f_law_otherwise) = true)
    (a_law_address_right_3 : PySem.W.nsIn K mainGlobals "_law_address_right" = some (some (.ref f_law_address_right_3))) (l_law_address_right_3 : K.lookup f_law_address_right_3 = some ⟨oc_law_address_right_3, od_law_address_right_3, .func (PySem.W.fnOf "_law_address_right" "_law_address_right" (defArgs s_law_address_right_3) (defBody s_law_address_right_3) (defScope s_law_address_right_3) .none kv_law_address_right_3 dc_law_address_right_3 pm_law_address_right_3 an_law_address_right_3 cd_law_address_right_3 ct_law_address_right_3), sl_law_address_right_3⟩) (y_law_address_right_3 : PySem.W.codeIn K cd_law_address_right_3 "_law_address_right" = true) (k_law_address_right_3 : PySem.W.keepIn K (.ref f_law_address_right_3) = true)
    (a_law_151 : PySem.W.nsIn K mainGlobals "law" = some (some (.ref f_law_151))) (l_law_151 : K.lookup f_law_151 = some ⟨oc_law_151, od_law_151, .func (PySem.W.fnOf "law" "law" (defArgs s_law_151) (defBody s_law_151) (defScope s_law_151) .none kv_law_151 dc_law_151 pm_law_151 an_law_151 cd_law_151 ct_law_151), sl_law_151⟩) (y_law_151 : PySem.W.codeIn K cd_law_151 "law" = true) (k_law_151 : PySem.W.keepIn K (.ref f_law_151) = true)
    (aC_Net : PySem.W.nsIn K mainGlobals "Net" = some (some (.ref C_Net))) (pg_Net : PySem.W.plainGet K C_Net Str.empty = true) (hd_Net : PySem.W.hasDictIn K C_Net = true) (po_Net : PySem.W.plainOver K C_Net = true) (sa_Net : PySem.W.findIn K (.ref C_Net) "__setattr__" = some (some (.builtin "object.__setattr__"))) (mk_Net : PySem.W.makesIn K C_Net = true) (kc_Net : PySem.W.keepIn K (.ref C_Net) = true)
    (n_Net_joins : PySem.W.findIn K (.ref C_Net) "joins" = some none)
    (n_Net_many : PySem.W.findIn K (.ref C_Net) "many" = some none)
    (n_Net_other : PySem.W.findIn K (.ref C_Net) "other" = some none)
    (n_Net_sizes : PySem.W.findIn K (.ref C_Net) "sizes" = some none)
    (aE_NoNet : PySem.W.nsIn K mainGlobals "NoNet" = some (some (.ref C_NoNet)))
    (aE_NoBooks : PySem.W.nsIn K mainGlobals "NoBooks" = some (some (.ref C_NoBooks)))
    (aE_NoDoor : PySem.W.nsIn K mainGlobals "NoDoor" = some (some (.ref C_NoDoor)))
    (aE_NoAddress : PySem.W.nsIn K mainGlobals "NoAddress" = some (some (.ref C_NoAddress)))
    (xE_NoNet : PySem.W.excIn K C_NoNet [.type "ValueError", .type "Exception", .type "BaseException", .type "object"] "ValueError.__new__" = true)
    (kE_NoNet : PySem.W.keepIn K (.ref C_NoNet) = true)
    (bE_NoNet : PySem.W.subIn K (.ref C_NoNet) (.type "BaseException") = some true)
    (tE_NoNet : PySem.W.typeIn K (.ref C_NoNet) = some (.type "type"))
    (gE_NoNet : PySem.W.findIn K (.ref C_NoNet) "__getattribute__" = some (some (.builtin "BaseException.__getattribute__")))
    (hE_NoNet : PySem.W.findIn K (.ref C_NoNet) "__getattr__" = some none)
    (dE_NoNet : PySem.W.hasDictIn K C_NoNet = true)
    (cE_NoNet : PySem.W.findIn K (.ref C_NoNet) "__class__" = some (some (.builtin "object.__class__")))
    (mE_NoNet : PySem.W.mroIn K C_NoNet (.type "object") = some true)
    (xE_NoBooks : PySem.W.excIn K C_NoBooks [.type "ValueError", .type "Exception", .type "BaseException", .type "object"] "ValueError.__new__" = true)
    (kE_NoBooks : PySem.W.keepIn K (.ref C_NoBooks) = true)
    (bE_NoBooks : PySem.W.subIn K (.ref C_NoBooks) (.type "BaseException") = some true)
    (tE_NoBooks : PySem.W.typeIn K (.ref C_NoBooks) = some (.type "type"))
    (gE_NoBooks : PySem.W.findIn K (.ref C_NoBooks) "__getattribute__" = some (some (.builtin "BaseException.__getattribute__")))
    (hE_NoBooks : PySem.W.findIn K (.ref C_NoBooks) "__getattr__" = some none)
    (dE_NoBooks : PySem.W.hasDictIn K C_NoBooks = true)
    (cE_NoBooks : PySem.W.findIn K (.ref C_NoBooks) "__class__" = some (some (.builtin "object.__class__")))
    (mE_NoBooks : PySem.W.mroIn K C_NoBooks (.type "object") = some true)
    (xE_NoDoor : PySem.W.excIn K C_NoDoor [.type "ValueError", .type "Exception", .type "BaseException", .type "object"] "ValueError.__new__" = true)
    (kE_NoDoor : PySem.W.keepIn K (.ref C_NoDoor) = true)
    (bE_NoDoor : PySem.W.subIn K (.ref C_NoDoor) (.type "BaseException") = some true)
    (tE_NoDoor : PySem.W.typeIn K (.ref C_NoDoor) = some (.type "type"))
    (gE_NoDoor : PySem.W.findIn K (.ref C_NoDoor) "__getattribute__" = some (some (.builtin "BaseException.__getattribute__")))
    (hE_NoDoor : PySem.W.findIn K (.ref C_NoDoor) "__getattr__" = some none)
    (dE_NoDoor : PySem.W.hasDictIn K C_NoDoor = true)
    (cE_NoDoor : PySem.W.findIn K (.ref C_NoDoor) "__class__" = some (some (.builtin "object.__class__")))
    (mE_NoDoor : PySem.W.mroIn K C_NoDoor (.type "object") = some true)
    (xE_NoAddress : PySem.W.excIn K C_NoAddress [.type "ValueError", .type "Exception", .type "BaseException", .type "object"] "ValueError.__new__" = true)
    (kE_NoAddress : PySem.W.keepIn K (.ref C_NoAddress) = true)
    (bE_NoAddress : PySem.W.subIn K (.ref C_NoAddress) (.type "BaseException") = some true)
    (tE_NoAddress : PySem.W.typeIn K (.ref C_NoAddress) = some (.type "type"))
    (gE_NoAddress : PySem.W.findIn K (.ref C_NoAddress) "__getattribute__" = some (some (.builtin "BaseException.__getattribute__")))
    (hE_NoAddress : PySem.W.findIn K (.ref C_NoAddress) "__getattr__" = some none)
    (dE_NoAddress : PySem.W.hasDictIn K C_NoAddress = true)
    (cE_NoAddress : PySem.W.findIn K (.ref C_NoAddress) "__class__" = some (some (.builtin "object.__class__")))
    (mE_NoAddress : PySem.W.mroIn K C_NoAddress (.type "object") = some true)
    (eN : PySem.W.specialIn K (.builtin "object.__class__") "__get__" = some (some (.builtin "getset_descriptor.__get__")))
    (eT : PySem.W.takesIn K (.builtin "object.__class__") = some true)
    (a_Net___init : PySem.W.findIn K (.ref C_Net) "__init__" = some (some (.ref f_Net___init))) (i_Net___init : PySem.W.isFn K (.ref f_Net___init) = true) (l_Net___init : K.lookup f_Net___init = some ⟨oc_Net___init, od_Net___init, .func (PySem.W.fnOf "__init__" "Net.__init__" (defArgs s_Net___init) (defBody s_Net___init) (defScope s_Net___init) .none kv_Net___init dc_Net___init pm_Net___init an_Net___init cd_Net___init ct_Net___init), sl_Net___init⟩) (y_Net___init : PySem.W.codeIn K cd_Net___init "Net.__init__" = true) (k_Net___init : PySem.W.keepIn K (.ref f_Net___init) = true)
    (a_Net_count : PySem.W.findIn K (.ref C_Net) "count" = some (some (.ref f_Net_count))) (i_Net_count : PySem.W.isFn K (.ref f_Net_count) = true) (l_Net_count : K.lookup f_Net_count = some ⟨oc_Net_count, od_Net_count, .func (PySem.W.fnOf "count" "Net.count" (defArgs s_Net_count) (defBody s_Net_count) (defScope s_Net_count) .none kv_Net_count dc_Net_count pm_Net_count an_Net_count cd_Net_count ct_Net_count), sl_Net_count⟩) (y_Net_count : PySem.W.codeIn K cd_Net_count "Net.count" = true) (k_Net_count : PySem.W.keepIn K (.ref f_Net_count) = true)
    (a_Net_wires : PySem.W.findIn K (.ref C_Net) "wires" = some (some (.ref f_Net_wires))) (i_Net_wires : PySem.W.isFn K (.ref f_Net_wires) = true) (l_Net_wires : K.lookup f_Net_wires = some ⟨oc_Net_wires, od_Net_wires, .func (PySem.W.fnOf "wires" "Net.wires" (defArgs s_Net_wires) (defBody s_Net_wires) (defScope s_Net_wires) .none kv_Net_wires dc_Net_wires pm_Net_wires an_Net_wires cd_Net_wires ct_Net_wires), sl_Net_wires⟩) (y_Net_wires : PySem.W.codeIn K cd_Net_wires "Net.wires" = true) (k_Net_wires : PySem.W.keepIn K (.ref f_Net_wires) = true)
    (a_Net_beyond : PySem.W.findIn K (.ref C_Net) "beyond" = some (some (.ref f_Net_beyond))) (i_Net_beyond : PySem.W.isFn K (.ref f_Net_beyond) = true) (l_Net_beyond : K.lookup f_Net_beyond = some ⟨oc_Net_beyond, od_Net_beyond, .func (PySem.W.fnOf "beyond" "Net.beyond" (defArgs s_Net_beyond) (defBody s_Net_beyond) (defScope s_Net_beyond) .none kv_Net_beyond dc_Net_beyond pm_Net_beyond an_Net_beyond cd_Net_beyond ct_Net_beyond), sl_Net_beyond⟩) (y_Net_beyond : PySem.W.codeIn K cd_Net_beyond "Net.beyond" = true) (k_Net_beyond : PySem.W.keepIn K (.ref f_Net_beyond) = true)
    (a_Net_outer : PySem.W.findIn K (.ref C_Net) "outer" = some (some (.ref f_Net_outer))) (i_Net_outer : PySem.W.isFn K (.ref f_Net_outer) = true) (l_Net_outer : K.lookup f_Net_outer = some ⟨oc_Net_outer, od_Net_outer, .func (PySem.W.fnOf "outer" "Net.outer" (defArgs s_Net_outer) (defBody s_Net_outer) (defScope s_Net_outer) .none kv_Net_outer dc_Net_outer pm_Net_outer an_Net_outer cd_Net_outer ct_Net_outer), sl_Net_outer⟩) (y_Net_outer : PySem.W.codeIn K cd_Net_outer "Net.outer" = true) (k_Net_outer : PySem.W.keepIn K (.ref f_Net_outer) = true)
    (a_Net_is_door : PySem.W.findIn K (.ref C_Net) "is_door" = some (some (.ref f_Net_is_door))) (i_Net_is_door : PySem.W.isFn K (.ref f_Net_is_door) = true) (l_Net_is_door : K.lookup f_Net_is_door = some ⟨oc_Net_is_door, od_Net_is_door, .func (PySem.W.fnOf "is_door" "Net.is_door" (defArgs s_Net_is_door) (defBody s_Net_is_door) (defScope s_Net_is_door) .none kv_Net_is_door dc_Net_is_door pm_Net_is_door an_Net_is_door cd_Net_is_door ct_Net_is_door), sl_Net_is_door⟩) (y_Net_is_door : PySem.W.codeIn K cd_Net_is_door "Net.is_door" = true) (k_Net_is_door : PySem.W.keepIn K (.ref f_Net_is_door) = true)
    (a_Net_is_outer : PySem.W.findIn K (.ref C_Net) "is_outer" = some (some (.ref f_Net_is_outer))) (i_Net_is_outer : PySem.W.isFn K (.ref f_Net_is_outer) = true) (l_Net_is_outer : K.lookup f_Net_is_outer = some ⟨oc_Net_is_outer, od_Net_is_outer, .func (PySem.W.fnOf "is_outer" "Net.is_outer" (defArgs s_Net_is_outer) (defBody s_Net_is_outer) (defScope s_Net_is_outer) .none kv_Net_is_outer dc_Net_is_outer pm_Net_is_outer an_Net_is_outer cd_Net_is_outer ct_Net_is_outer), sl_Net_is_outer⟩) (y_Net_is_outer : PySem.W.codeIn K cd_Net_is_outer "Net.is_outer" = true) (k_Net_is_outer : PySem.W.keepIn K (.ref f_Net_is_outer) = true)
    (v_MOST_HOUSES : PySem.W.nsIn K mainGlobals "MOST_HOUSES" = some (some (.int 6 t_MOST_HOUSES)))
    (v_MOST_DOORS : PySem.W.nsIn K mainGlobals "MOST_DOORS" = some (some (.int 4 t_MOST_DOORS)))
    (v_SIGNS : PySem.W.nsIn K mainGlobals "SIGNS" = some (some (.str ⟨#[48, 49, 120]⟩ t_SIGNS)))
    (v_FIGURES : PySem.W.nsIn K mainGlobals "FIGURES" = some (some (.int 4 t_FIGURES)))
    (v_MANY : PySem.W.nsIn K mainGlobals "MANY" = some (some (.int 16 t_MANY)))
    (v_MOST_ROWS : PySem.W.nsIn K mainGlobals "MOST_ROWS" = some (some (.int 12 t_MOST_ROWS)))
    (z_len : PySem.W.nsIn K mainGlobals "len" = some none)
    (z_int : PySem.W.nsIn K mainGlobals "int" = some none)
    (z_str : PySem.W.nsIn K mainGlobals "str" = some none)
    (z_list : PySem.W.nsIn K mainGlobals "list" = some none)
    (z_tuple : PySem.W.nsIn K mainGlobals "tuple" = some none)
    (z_abs : PySem.W.nsIn K mainGlobals "abs" = some none)
    (z_all : PySem.W.nsIn K mainGlobals "all" = some none)
    (z_any : PySem.W.nsIn K mainGlobals "any" = some none)
    (z_sorted : PySem.W.nsIn K mainGlobals "sorted" = some none)
    (z_sum : PySem.W.nsIn K mainGlobals "sum" = some none)
    (z_max : PySem.W.nsIn K mainGlobals "max" = some none)
    (z_min : PySem.W.nsIn K mainGlobals "min" = some none)
    (z_range : PySem.W.nsIn K mainGlobals "range" = some none)
    (z_set : PySem.W.nsIn K mainGlobals "set" = some none)
    (z_isinstance : PySem.W.nsIn K mainGlobals "isinstance" = some none)
    (z_bool : PySem.W.nsIn K mainGlobals "bool" = some none)
    (z_dict : PySem.W.nsIn K mainGlobals "dict" = some none)
    (z_enumerate : PySem.W.nsIn K mainGlobals "enumerate" = some none)
    (z_zip : PySem.W.nsIn K mainGlobals "zip" = some none)
    (plain : ∀ ns : List Int, ns.length ≤ 63 → ∃ st, callF tab 60 g_law_151 [.rol ns] [] = .ok (.bl true) st) :
    ∃ fd : FuncData, (∀ (s : Shared) (v : Value), BindsTo s fd ⟨[v], []⟩ [("script", v)]) ∧ ∀ base : Heap, K.In base → base.Ns mainGlobals mg → FnOk l.prog w K mg base (L2.CX l.prog w) 61 fa fd ["script"] (spLaw K) := by
  have e := hfa.symm.trans (PySem.W.mg_of X G a_law_151)
  cases e
  refine ⟨PySem.W.fnOf "law" "law" (defArgs s_law_151) (defBody s_law_151) (defScope s_law_151) .none kv_law_151 dc_law_151 pm_law_151 an_law_151 cd_law_151 ct_law_151, fun s v => .of_eq rfl, fun base _ _ => ?_⟩
  let g : L3.G := { P := l.prog, w := w, K := K, mg := mg, base := base, T := tab, clsA := fun c => (match c with | 10 => C_Net | 1 => C_NoNet | 2 => C_NoBooks | 3 => C_NoDoor | 4 => C_NoAddress | _ => 0), nm := nmF, nmInj := nmInj }
  have F_is_whole := fun_mk (st := s_is_whole) l_is_whole y_is_whole k_is_whole
  have D_is_whole : DF g m0 g_is_whole f_is_whole _ ["thing"] := ⟨⟨_, _, s_is_whole, _, c_is_whole, F_is_whole, sc_is_whole, rfl, ma_is_whole⟩, F_is_whole.binds (ps := ["thing"]) fun _ _ _ _ _ _ us hl => match us, hl with | [_], _ => rfl⟩
  have F_are_counts := fun_mk (st := s_are_counts) l_are_counts y_are_counts k_are_counts
  have D_are_counts : DF g m0 g_are_counts f_are_counts _ ["thing"] := ⟨⟨_, _, s_are_counts, _, c_are_counts, F_are_counts, sc_are_counts, rfl, ma_are_counts⟩, F_are_counts.binds (ps := ["thing"]) fun _ _ _ _ _ _ us hl => match us, hl with | [_], _ => rfl⟩
  have F_is_door_of := fun_mk (st := s_is_door_of) l_is_door_of y_is_door_of k_is_door_of
  have D_is_door_of : DF g m0 g_is_door_of f_is_door_of _ ["thing", "counts"] := ⟨⟨_, _, s_is_door_of, _, c_is_door_of, F_is_door_of, sc_is_door_of, rfl, ma_is_door_of⟩, F_is_door_of.binds (ps := ["thing", "counts"]) fun _ _ _ _ _ _ us hl => match us, hl with | [_, _], _ => rfl⟩
  have F_are_wires := fun_mk (st := s_are_wires) l_are_wires y_are_wires k_are_wires
  have D_are_wires : DF g m0 g_are_wires f_are_wires _ ["thing", "counts"] := ⟨⟨_, _, s_are_wires, _, c_are_wires, F_are_wires, sc_are_wires, rfl, ma_are_wires⟩, F_are_wires.binds (ps := ["thing", "counts"]) fun _ _ _ _ _ _ us hl => match us, hl with | [_, _], _ => rfl⟩
  have F_is_pattern := fun_mk (st := s_is_pattern) l_is_pattern y_is_pattern k_is_pattern
  have D_is_pattern : DF g m0 g_is_pattern f_is_pattern _ ["thing"] := ⟨⟨_, _, s_is_pattern, _, c_is_pattern, F_is_pattern, sc_is_pattern, rfl, ma_is_pattern⟩, F_is_pattern.binds (ps := ["thing"]) fun _ _ _ _ _ _ us hl => match us, hl with | [_], _ => rfl⟩
  have F_fits := fun_mk (st := s_fits) l_fits y_fits k_fits
  have D_fits : DF g m0 g_fits f_fits _ ["pattern", "address"] := ⟨⟨_, _, s_fits, _, c_fits, F_fits, sc_fits, rfl, ma_fits⟩, F_fits.binds (ps := ["pattern", "address"]) fun _ _ _ _ _ _ us hl => match us, hl with | [_, _], _ => rfl⟩
  have F_is_choice := fun_mk (st := s_is_choice) l_is_choice y_is_choice k_is_choice
  have D_is_choice : DF g m0 g_is_choice f_is_choice _ ["thing", "doors"] := ⟨⟨_, _, s_is_choice, _, c_is_choice, F_is_choice, sc_is_choice, rfl, ma_is_choice⟩, F_is_choice.binds (ps := ["thing", "doors"]) fun _ _ _ _ _ _ us hl => match us, hl with | [_, _], _ => rfl⟩
  have F_is_row := fun_mk (st := s_is_row) l_is_row y_is_row k_is_row
  have D_is_row : DF g m0 g_is_row f_is_row _ ["thing", "doors"] := ⟨⟨_, _, s_is_row, _, c_is_row, F_is_row, sc_is_row, rfl, ma_is_row⟩, F_is_row.binds (ps := ["thing", "doors"]) fun _ _ _ _ _ _ us hl => match us, hl with | [_, _], _ => rfl⟩
  have F_is_book := fun_mk (st := s_is_book) l_is_book y_is_book k_is_book
  have D_is_book : DF g m0 g_is_book f_is_book _ ["thing", "doors"] := ⟨⟨_, _, s_is_book, _, c_is_book, F_is_book, sc_is_book, rfl, ma_is_book⟩, F_is_book.binds (ps := ["thing", "doors"]) fun _ _ _ _ _ _ us hl => match us, hl with | [_, _], _ => rfl⟩
  have F_is_books := fun_mk (st := s_is_books) l_is_books y_is_books k_is_books
  have D_is_books : DF g m0 g_is_books f_is_books _ ["thing", "net"] := ⟨⟨_, _, s_is_books, _, c_is_books, F_is_books, sc_is_books, rfl, ma_is_books⟩, F_is_books.binds (ps := ["thing", "net"]) fun _ _ _ _ _ _ us hl => match us, hl with | [_, _], _ => rfl⟩
  have F_look_at_books := fun_mk (st := s_look_at_books) l_look_at_books y_look_at_books k_look_at_books
  have D_look_at_books : DF g m0 g_look_at_books f_look_at_books _ ["net", "books"] := ⟨⟨_, _, s_look_at_books, _, c_look_at_books, F_look_at_books, sc_look_at_books, rfl, ma_look_at_books⟩, F_look_at_books.binds (ps := ["net", "books"]) fun _ _ _ _ _ _ us hl => match us, hl with | [_, _], _ => rfl⟩
  have F_taken := fun_mk (st := s_taken) l_taken y_taken k_taken
  have D_taken : DF g m0 g_taken f_taken _ ["book", "door", "address"] := ⟨⟨_, _, s_taken, _, c_taken, F_taken, sc_taken, rfl, ma_taken⟩, F_taken.binds (ps := ["book", "door", "address"]) fun _ _ _ _ _ _ us hl => match us, hl with | [_, _, _], _ => rfl⟩
  have F_look_at_coming := fun_mk (st := s_look_at_coming) l_look_at_coming y_look_at_coming k_look_at_coming
  have D_look_at_coming : DF g m0 g_look_at_coming f_look_at_coming _ ["net", "door", "address"] := ⟨⟨_, _, s_look_at_coming, _, c_look_at_coming, F_look_at_coming, sc_look_at_coming, rfl, ma_look_at_coming⟩, F_look_at_coming.binds (ps := ["net", "door", "address"]) fun _ _ _ _ _ _ us hl => match us, hl with | [_, _, _], _ => rfl⟩
  have F_next_of := fun_mk (st := s_next_of) l_next_of y_next_of k_next_of
  have D_next_of : DF g m0 g_next_of f_next_of _ ["net", "books", "door", "address"] := ⟨⟨_, _, s_next_of, _, c_next_of, F_next_of, sc_next_of, rfl, ma_next_of⟩, F_next_of.binds (ps := ["net", "books", "door", "address"]) fun _ _ _ _ _ _ us hl => match us, hl with | [_, _, _, _], _ => rfl⟩
  have F_walked := fun_mk (st := s_walked) l_walked y_walked k_walked
  have D_walked : DF g m0 g_walked f_walked _ ["net", "books", "door", "address"] := ⟨⟨_, _, s_walked, _, c_walked, F_walked, sc_walked, rfl, ma_walked⟩, F_walked.binds (ps := ["net", "books", "door", "address"]) fun _ _ _ _ _ _ us hl => match us, hl with | [_, _, _, _], _ => rfl⟩
  have F_way := fun_mk (st := s_way) l_way y_way k_way
  have D_way : DF g m0 g_way f_way _ ["net", "books", "door", "address"] := ⟨⟨_, _, s_way, _, c_way, F_way, sc_way, rfl, ma_way⟩, F_way.binds (ps := ["net", "books", "door", "address"]) fun _ _ _ _ _ _ us hl => match us, hl with | [_, _, _, _], _ => rfl⟩
  have F_law_cell_at := fun_mk (st := s_law_cell_at) l_law_cell_at y_law_cell_at k_law_cell_at
  have D_law_cell_at : DF g m0 g_law_cell_at f_law_cell_at _ ["script", "k"] := ⟨⟨_, _, s_law_cell_at, _, c_law_cell_at, F_law_cell_at, sc_law_cell_at, rfl, ma_law_cell_at⟩, F_law_cell_at.binds (ps := ["script", "k"]) fun _ _ _ _ _ _ us hl => match us, hl with | [_, _], _ => rfl⟩
  have F_law_mix := fun_mk (st := s_law_mix) l_law_mix y_law_mix k_law_mix
  have D_law_mix : DF g m0 g_law_mix f_law_mix _ ["cell", "k"] := ⟨⟨_, _, s_law_mix, _, c_law_mix, F_law_mix, sc_law_mix, rfl, ma_law_mix⟩, F_law_mix.binds (ps := ["cell", "k"]) fun _ _ _ _ _ _ us hl => match us, hl with | [_, _], _ => rfl⟩
  have F_law_counts := fun_mk (st := s_law_counts) l_law_counts y_law_counts k_law_counts
  have D_law_counts : DF g m0 g_law_counts f_law_counts _ ["script"] := ⟨⟨_, _, s_law_counts, _, c_law_counts, F_law_counts, sc_law_counts, rfl, ma_law_counts⟩, F_law_counts.binds (ps := ["script"]) fun _ _ _ _ _ _ us hl => match us, hl with | [_], _ => rfl⟩
  have F_law_doors := fun_mk (st := s_law_doors) l_law_doors y_law_doors k_law_doors
  have D_law_doors : DF g m0 g_law_doors f_law_doors _ ["counts"] := ⟨⟨_, _, s_law_doors, _, c_law_doors, F_law_doors, sc_law_doors, rfl, ma_law_doors⟩, F_law_doors.binds (ps := ["counts"]) fun _ _ _ _ _ _ us hl => match us, hl with | [_], _ => rfl⟩
  have F_law_wires := fun_mk (st := s_law_wires) l_law_wires y_law_wires k_law_wires
  have D_law_wires : DF g m0 g_law_wires f_law_wires _ ["script", "counts"] := ⟨⟨_, _, s_law_wires, _, c_law_wires, F_law_wires, sc_law_wires, rfl, ma_law_wires⟩, F_law_wires.binds (ps := ["script", "counts"]) fun _ _ _ _ _ _ us hl => match us, hl with | [_, _], _ => rfl⟩
  have F_law_pattern := fun_mk (st := s_law_pattern) l_law_pattern y_law_pattern k_law_pattern
  have D_law_pattern : DF g m0 g_law_pattern f_law_pattern _ ["number"] := ⟨⟨_, _, s_law_pattern, _, c_law_pattern, F_law_pattern, sc_law_pattern, rfl, ma_law_pattern⟩, F_law_pattern.binds (ps := ["number"]) fun _ _ _ _ _ _ us hl => match us, hl with | [_], _ => rfl⟩
  have F_law_row := fun_mk (st := s_law_row) l_law_row y_law_row k_law_row
  have D_law_row : DF g m0 g_law_row f_law_row _ ["cell", "k", "doors"] := ⟨⟨_, _, s_law_row, _, c_law_row, F_law_row, sc_law_row, rfl, ma_law_row⟩, F_law_row.binds (ps := ["cell", "k", "doors"]) fun _ _ _ _ _ _ us hl => match us, hl with | [_, _, _], _ => rfl⟩
  have F_law_books := fun_mk (st := s_law_books) l_law_books y_law_books k_law_books
  have D_law_books : DF g m0 g_law_books f_law_books _ ["cells", "counts"] := ⟨⟨_, _, s_law_books, _, c_law_books, F_law_books, sc_law_books, rfl, ma_law_books⟩, F_law_books.binds (ps := ["cells", "counts"]) fun _ _ _ _ _ _ us hl => match us, hl with | [_, _], _ => rfl⟩
  have F_law_digit := fun_mk (st := s_law_digit) l_law_digit y_law_digit k_law_digit
  have D_law_digit : DF g m0 g_law_digit f_law_digit _ ["state", "many"] := ⟨⟨_, _, s_law_digit, _, c_law_digit, F_law_digit, sc_law_digit, rfl, ma_law_digit⟩, F_law_digit.binds (ps := ["state", "many"]) fun _ _ _ _ _ _ us hl => match us, hl with | [_, _], _ => rfl⟩
  have F_law_net_by := fun_mk (st := s_law_net_by) l_law_net_by y_law_net_by k_law_net_by
  have D_law_net_by : DF g m0 g_law_net_by f_law_net_by _ ["state"] := ⟨⟨_, _, s_law_net_by, _, c_law_net_by, F_law_net_by, sc_law_net_by, rfl, ma_law_net_by⟩, F_law_net_by.binds (ps := ["state"]) fun _ _ _ _ _ _ us hl => match us, hl with | [_], _ => rfl⟩
  have F_law_book_by := fun_mk (st := s_law_book_by) l_law_book_by y_law_book_by k_law_book_by
  have D_law_book_by : DF g m0 g_law_book_by f_law_book_by _ ["state", "doors"] := ⟨⟨_, _, s_law_book_by, _, c_law_book_by, F_law_book_by, sc_law_book_by, rfl, ma_law_book_by⟩, F_law_book_by.binds (ps := ["state", "doors"]) fun _ _ _ _ _ _ us hl => match us, hl with | [_, _], _ => rfl⟩
  have F_law_world := fun_mk (st := s_law_world) l_law_world y_law_world k_law_world
  have D_law_world : DF g m0 g_law_world f_law_world _ ["script"] := ⟨⟨_, _, s_law_world, _, c_law_world, F_law_world, sc_law_world, rfl, ma_law_world⟩, F_law_world.binds (ps := ["script"]) fun _ _ _ _ _ _ us hl => match us, hl with | [_], _ => rfl⟩
  have F_law_asked := fun_mk (st := s_law_asked) l_law_asked y_law_asked k_law_asked
  have D_law_asked : DF g m0 g_law_asked f_law_asked _ ["script"] := ⟨⟨_, _, s_law_asked, _, c_law_asked, F_law_asked, sc_law_asked, rfl, ma_law_asked⟩, F_law_asked.binds (ps := ["script"]) fun _ _ _ _ _ _ us hl => match us, hl with | [_], _ => rfl⟩
  have F_law_comes_to := fun_mk (st := s_law_comes_to) l_law_comes_to y_law_comes_to k_law_comes_to
  have D_law_comes_to : DF g m0 g_law_comes_to f_law_comes_to _ ["net", "books", "door", "address"] := ⟨⟨_, _, s_law_comes_to, _, c_law_comes_to, F_law_comes_to, sc_law_comes_to, rfl, ma_law_comes_to⟩, F_law_comes_to.binds (ps := ["net", "books", "door", "address"]) fun _ _ _ _ _ _ us hl => match us, hl with | [_, _, _, _], _ => rfl⟩
  have F_law_walked_well_2 := fun_mk (st := s_law_walked_well_2) l_law_walked_well_2 y_law_walked_well_2 k_law_walked_well_2
  have D_law_walked_well_2 : DF g m0 g_law_walked_well_2 f_law_walked_well_2 _ ["net", "books", "door", "address", "told"] := ⟨⟨_, _, s_law_walked_well_2, _, c_law_walked_well_2, F_law_walked_well_2, sc_law_walked_well_2, rfl, ma_law_walked_well_2⟩, F_law_walked_well_2.binds (ps := ["net", "books", "door", "address", "told"]) fun _ _ _ _ _ _ us hl => match us, hl with | [_, _, _, _, _], _ => rfl⟩
  have F_law_from_2 := fun_mk (st := s_law_from_2) l_law_from_2 y_law_from_2 k_law_from_2
  have D_law_from_2 : DF g m0 g_law_from_2 f_law_from_2 _ ["told", "door"] := ⟨⟨_, _, s_law_from_2, _, c_law_from_2, F_law_from_2, sc_law_from_2, rfl, ma_law_from_2⟩, F_law_from_2.binds (ps := ["told", "door"]) fun _ _ _ _ _ _ us hl => match us, hl with | [_, _], _ => rfl⟩
  have F_law_alike_behind_2 := fun_mk (st := s_law_alike_behind_2) l_law_alike_behind_2 y_law_alike_behind_2 k_law_alike_behind_2
  have D_law_alike_behind_2 : DF g m0 g_law_alike_behind_2 f_law_alike_behind_2 _ ["one", "other"] := ⟨⟨_, _, s_law_alike_behind_2, _, c_law_alike_behind_2, F_law_alike_behind_2, sc_law_alike_behind_2, rfl, ma_law_alike_behind_2⟩, F_law_alike_behind_2.binds (ps := ["one", "other"]) fun _ _ _ _ _ _ us hl => match us, hl with | [_, _], _ => rfl⟩
  have F_law_marks := fun_mk (st := s_law_marks) l_law_marks y_law_marks k_law_marks
  have D_law_marks : DF g m0 g_law_marks f_law_marks _ ["books", "address"] := ⟨⟨_, _, s_law_marks, _, c_law_marks, F_law_marks, sc_law_marks, rfl, ma_law_marks⟩, F_law_marks.binds (ps := ["books", "address"]) fun _ _ _ _ _ _ us hl => match us, hl with | [_, _], _ => rfl⟩
  have F_law_more_rows := fun_mk (st := s_law_more_rows) l_law_more_rows y_law_more_rows k_law_more_rows
  have D_law_more_rows : DF g m0 g_law_more_rows f_law_more_rows _ ["book", "number"] := ⟨⟨_, _, s_law_more_rows, _, c_law_more_rows, F_law_more_rows, sc_law_more_rows, rfl, ma_law_more_rows⟩, F_law_more_rows.binds (ps := ["book", "number"]) fun _ _ _ _ _ _ us hl => match us, hl with | [_, _], _ => rfl⟩
  have F_law_fewer_rows := fun_mk (st := s_law_fewer_rows) l_law_fewer_rows y_law_fewer_rows k_law_fewer_rows
  have D_law_fewer_rows : DF g m0 g_law_fewer_rows f_law_fewer_rows _ ["book"] := ⟨⟨_, _, s_law_fewer_rows, _, c_law_fewer_rows, F_law_fewer_rows, sc_law_fewer_rows, rfl, ma_law_fewer_rows⟩, F_law_fewer_rows.binds (ps := ["book"]) fun _ _ _ _ _ _ us hl => match us, hl with | [_], _ => rfl⟩
  have F_law_otherwise := fun_mk (st := s_law_otherwise) l_law_otherwise y_law_otherwise k_law_otherwise
  have D_law_otherwise : DF g m0 g_law_otherwise f_law_otherwise _ ["books", "number"] := ⟨⟨_, _, s_law_otherwise, _, c_law_otherwise, F_law_otherwise, sc_law_otherwise, rfl, ma_law_otherwise⟩, F_law_otherwise.binds (ps := ["books", "number"]) fun _ _ _ _ _ _ us hl => match us, hl with | [_, _], _ => rfl⟩
  have F_law_address_right_3 := fun_mk (st := s_law_address_right_3) l_law_address_right_3 y_law_address_right_3 k_law_address_right_3
  have D_law_address_right_3 : DF g m0 g_law_address_right_3 f_law_address_right_3 _ ["net", "books", "other", "address", "told"] := ⟨⟨_, _, s_law_address_right_3, _, c_law_address_right_3, F_law_address_right_3, sc_law_address_right_3, rfl, ma_law_address_right_3⟩, F_law_address_right_3.binds (ps := ["net", "books", "other", "address", "told"]) fun _ _ _ _ _ _ us hl => match us, hl with | [_, _, _, _, _], _ => rfl⟩
  have F_law_151 := fun_mk (st := s_law_151) l_law_151 y_law_151 k_law_151
  have D_law_151 : DF g m0 g_law_151 fa _ ["script"] := ⟨⟨_, _, s_law_151, _, c_law_151, F_law_151, sc_law_151, rfl, ma_law_151⟩, F_law_151.binds (ps := ["script"]) fun _ _ _ _ _ _ us hl => match us, hl with | [_], _ => rfl⟩
  have F_Net___init := fun_mk (st := s_Net___init) l_Net___init y_Net___init k_Net___init
  have D_Net___init : DF g m0 g_Net___init f_Net___init _ ["self", "counts", "wires"] := ⟨⟨_, _, s_Net___init, _, c_Net___init, F_Net___init, sc_Net___init, rfl, ma_Net___init⟩, F_Net___init.binds (ps := ["self", "counts", "wires"]) fun _ _ _ _ _ _ us hl => match us, hl with | [_, _, _], _ => rfl⟩
  have F_Net_count := fun_mk (st := s_Net_count) l_Net_count y_Net_count k_Net_count
  have D_Net_count : DF g m0 g_Net_count f_Net_count _ ["self", "house"] := ⟨⟨_, _, s_Net_count, _, c_Net_count, F_Net_count, sc_Net_count, rfl, ma_Net_count⟩, F_Net_count.binds (ps := ["self", "house"]) fun _ _ _ _ _ _ us hl => match us, hl with | [_, _], _ => rfl⟩
  have F_Net_wires := fun_mk (st := s_Net_wires) l_Net_wires y_Net_wires k_Net_wires
  have D_Net_wires : DF g m0 g_Net_wires f_Net_wires _ ["self"] := ⟨⟨_, _, s_Net_wires, _, c_Net_wires, F_Net_wires, sc_Net_wires, rfl, ma_Net_wires⟩, F_Net_wires.binds (ps := ["self"]) fun _ _ _ _ _ _ us hl => match us, hl with | [_], _ => rfl⟩
  have F_Net_beyond := fun_mk (st := s_Net_beyond) l_Net_beyond y_Net_beyond k_Net_beyond
  have D_Net_beyond : DF g m0 g_Net_beyond f_Net_beyond _ ["self", "door"] := ⟨⟨_, _, s_Net_beyond, _, c_Net_beyond, F_Net_beyond, sc_Net_beyond, rfl, ma_Net_beyond⟩, F_Net_beyond.binds (ps := ["self", "door"]) fun _ _ _ _ _ _ us hl => match us, hl with | [_, _], _ => rfl⟩
  have F_Net_outer := fun_mk (st := s_Net_outer) l_Net_outer y_Net_outer k_Net_outer
  have D_Net_outer : DF g m0 g_Net_outer f_Net_outer _ ["self"] := ⟨⟨_, _, s_Net_outer, _, c_Net_outer, F_Net_outer, sc_Net_outer, rfl, ma_Net_outer⟩, F_Net_outer.binds (ps := ["self"]) fun _ _ _ _ _ _ us hl => match us, hl with | [_], _ => rfl⟩
  have F_Net_is_door := fun_mk (st := s_Net_is_door) l_Net_is_door y_Net_is_door k_Net_is_door
  have D_Net_is_door : DF g m0 g_Net_is_door f_Net_is_door _ ["self", "thing"] := ⟨⟨_, _, s_Net_is_door, _, c_Net_is_door, F_Net_is_door, sc_Net_is_door, rfl, ma_Net_is_door⟩, F_Net_is_door.binds (ps := ["self", "thing"]) fun _ _ _ _ _ _ us hl => match us, hl with | [_, _], _ => rfl⟩
  have F_Net_is_outer := fun_mk (st := s_Net_is_outer) l_Net_is_outer y_Net_is_outer k_Net_is_outer
  have D_Net_is_outer : DF g m0 g_Net_is_outer f_Net_is_outer _ ["self", "thing"] := ⟨⟨_, _, s_Net_is_outer, _, c_Net_is_outer, F_Net_is_outer, sc_Net_is_outer, rfl, ma_Net_is_outer⟩, F_Net_is_outer.binds (ps := ["self", "thing"]) fun _ _ _ _ _ _ us hl => match us, hl with | [_, _], _ => rfl⟩
  have Fa : Facts g m0 := {
    nm := rfl, nms := ⟨rfl, rfl, rfl, rfl, rfl, rfl, rfl, rfl, rfl, rfl, rfl, rfl⟩,
    bn := List.forall_mem_cons.mpr ⟨PySem.W.mg_none_of X G z_len, List.forall_mem_cons.mpr ⟨PySem.W.mg_none_of X G z_int, List.forall_mem_cons.mpr ⟨PySem.W.mg_none_of X G z_str, List.forall_mem_cons.mpr ⟨PySem.W.mg_none_of X G z_list, List.forall_mem_cons.mpr ⟨PySem.W.mg_none_of X G z_tuple, List.forall_mem_cons.mpr ⟨PySem.W.mg_none_of X G z_abs, List.forall_mem_cons.mpr ⟨PySem.W.mg_none_of X G z_all, List.forall_mem_cons.mpr ⟨PySem.W.mg_none_of X G z_any, List.forall_mem_cons.mpr ⟨PySem.W.mg_none_of X G z_sorted, List.forall_mem_cons.mpr ⟨PySem.W.mg_none_of X G z_sum, List.forall_mem_cons.mpr ⟨PySem.W.mg_none_of X G z_max, List.forall_mem_cons.mpr ⟨PySem.W.mg_none_of X G z_min, List.forall_mem_cons.mpr ⟨PySem.W.mg_none_of X G z_range, List.forall_mem_cons.mpr ⟨PySem.W.mg_none_of X G z_set, List.forall_mem_cons.mpr ⟨PySem.W.mg_none_of X G z_isinstance, List.forall_mem_cons.mpr ⟨PySem.W.mg_none_of X G z_bool, List.forall_mem_cons.mpr ⟨PySem.W.mg_none_of X G z_dict, List.forall_mem_cons.mpr ⟨PySem.W.mg_none_of X G z_enumerate, List.forall_mem_cons.mpr ⟨PySem.W.mg_none_of X G z_zip, fun _ z => (nomatch z)⟩⟩⟩⟩⟩⟩⟩⟩⟩⟩⟩⟩⟩⟩⟩⟩⟩⟩⟩,
    kon := List.forall_mem_cons.mpr ⟨⟨_, .int 6, PySem.W.mg_of X G v_MOST_HOUSES, rfl, t_MOST_HOUSES, rfl⟩, List.forall_mem_cons.mpr ⟨⟨_, .int 4, PySem.W.mg_of X G v_MOST_DOORS, rfl, t_MOST_DOORS, rfl⟩, List.forall_mem_cons.mpr ⟨⟨_, .str ⟨#[48, 49, 120]⟩, PySem.W.mg_of X G v_SIGNS, rfl, t_SIGNS, rfl⟩, List.forall_mem_cons.mpr ⟨⟨_, .int 4, PySem.W.mg_of X G v_FIGURES, rfl, t_FIGURES, rfl⟩, List.forall_mem_cons.mpr ⟨⟨_, .int 16, PySem.W.mg_of X G v_MANY, rfl, t_MANY, rfl⟩, List.forall_mem_cons.mpr ⟨⟨_, .int 12, PySem.W.mg_of X G v_MOST_ROWS, rfl, t_MOST_ROWS, rfl⟩, fun _ z => (nomatch z)⟩⟩⟩⟩⟩⟩,
    dfs := List.forall_mem_cons.mpr ⟨⟨f_is_whole, _, _, PySem.W.mg_of X G a_is_whole, k_is_whole, D_is_whole⟩, List.forall_mem_cons.mpr ⟨⟨f_are_counts, _, _, PySem.W.mg_of X G a_are_counts, k_are_counts, D_are_counts⟩, List.forall_mem_cons.mpr ⟨⟨f_is_door_of, _, _, PySem.W.mg_of X G a_is_door_of, k_is_door_of, D_is_door_of⟩, List.forall_mem_cons.mpr ⟨⟨f_are_wires, _, _, PySem.W.mg_of X G a_are_wires, k_are_wires, D_are_wires⟩, List.forall_mem_cons.mpr ⟨⟨f_is_pattern, _, _, PySem.W.mg_of X G a_is_pattern, k_is_pattern, D_is_pattern⟩, List.forall_mem_cons.mpr ⟨⟨f_fits, _, _, PySem.W.mg_of X G a_fits, k_fits, D_fits⟩, List.forall_mem_cons.mpr ⟨⟨f_is_choice, _, _, PySem.W.mg_of X G a_is_choice, k_is_choice, D_is_choice⟩, List.forall_mem_cons.mpr ⟨⟨f_is_row, _, _, PySem.W.mg_of X G a_is_row, k_is_row, D_is_row⟩, List.forall_mem_cons.mpr ⟨⟨f_is_book, _, _, PySem.W.mg_of X G a_is_book, k_is_book, D_is_book⟩, List.forall_mem_cons.mpr ⟨⟨f_is_books, _, _, PySem.W.mg_of X G a_is_books, k_is_books, D_is_books⟩, List.forall_mem_cons.mpr ⟨⟨f_look_at_books, _, _, PySem.W.mg_of X G a_look_at_books, k_look_at_books, D_look_at_books⟩, List.forall_mem_cons.mpr ⟨⟨f_taken, _, _, PySem.W.mg_of X G a_taken, k_taken, D_taken⟩, List.forall_mem_cons.mpr ⟨⟨f_look_at_coming, _, _, PySem.W.mg_of X G a_look_at_coming, k_look_at_coming, D_look_at_coming⟩, List.forall_mem_cons.mpr ⟨⟨f_next_of, _, _, PySem.W.mg_of X G a_next_of, k_next_of, D_next_of⟩, List.forall_mem_cons.mpr ⟨⟨f_walked, _, _, PySem.W.mg_of X G a_walked, k_walked, D_walked⟩, List.forall_mem_cons.mpr ⟨⟨f_way, _, _, PySem.W.mg_of X G a_way, k_way, D_way⟩, List.forall_mem_cons.mpr ⟨⟨f_law_cell_at, _, _, PySem.W.mg_of X G a_law_cell_at, k_law_cell_at, D_law_cell_at⟩, List.forall_mem_cons.mpr ⟨⟨f_law_mix, _, _, PySem.W.mg_of X G a_law_mix, k_law_mix, D_law_mix⟩, List.forall_mem_cons.mpr ⟨⟨f_law_counts, _, _, PySem.W.mg_of X G a_law_counts, k_law_counts, D_law_counts⟩, List.forall_mem_cons.mpr ⟨⟨f_law_doors, _, _, PySem.W.mg_of X G a_law_doors, k_law_doors, D_law_doors⟩, List.forall_mem_cons.mpr ⟨⟨f_law_wires, _, _, PySem.W.mg_of X G a_law_wires, k_law_wires, D_law_wires⟩, List.forall_mem_cons.mpr ⟨⟨f_law_pattern, _, _, PySem.W.mg_of X G a_law_pattern, k_law_pattern, D_law_pattern⟩, List.forall_mem_cons.mpr ⟨⟨f_law_row, _, _, PySem.W.mg_of X G a_law_row, k_law_row, D_law_row⟩, List.forall_mem_cons.mpr ⟨⟨f_law_books, _, _, PySem.W.mg_of X G a_law_books, k_law_books, D_law_books⟩, List.forall_mem_cons.mpr ⟨⟨f_law_digit, _, _, PySem.W.mg_of X G a_law_digit, k_law_digit, D_law_digit⟩, List.forall_mem_cons.mpr ⟨⟨f_law_net_by, _, _, PySem.W.mg_of X G a_law_net_by, k_law_net_by, D_law_net_by⟩, List.forall_mem_cons.mpr ⟨⟨f_law_book_by, _, _, PySem.W.mg_of X G a_law_book_by, k_law_book_by, D_law_book_by⟩, List.forall_mem_cons.mpr ⟨⟨f_law_world, _, _, PySem.W.mg_of X G a_law_world, k_law_world, D_law_world⟩, List.forall_mem_cons.mpr ⟨⟨f_law_asked, _, _, PySem.W.mg_of X G a_law_asked, k_law_asked, D_law_asked⟩, List.forall_mem_cons.mpr ⟨⟨f_law_comes_to, _, _, PySem.W.mg_of X G a_law_comes_to, k_law_comes_to, D_law_comes_to⟩, List.forall_mem_cons.mpr ⟨⟨f_law_walked_well_2, _, _, PySem.W.mg_of X G a_law_walked_well_2, k_law_walked_well_2, D_law_walked_well_2⟩, List.forall_mem_cons.mpr ⟨⟨f_law_from_2, _, _, PySem.W.mg_of X G a_law_from_2, k_law_from_2, D_law_from_2⟩, List.forall_mem_cons.mpr ⟨⟨f_law_alike_behind_2, _, _, PySem.W.mg_of X G a_law_alike_behind_2, k_law_alike_behind_2, D_law_alike_behind_2⟩, List.forall_mem_cons.mpr ⟨⟨f_law_marks, _, _, PySem.W.mg_of X G a_law_marks, k_law_marks, D_law_marks⟩, List.forall_mem_cons.mpr ⟨⟨f_law_more_rows, _, _, PySem.W.mg_of X G a_law_more_rows, k_law_more_rows, D_law_more_rows⟩, List.forall_mem_cons.mpr ⟨⟨f_law_fewer_rows, _, _, PySem.W.mg_of X G a_law_fewer_rows, k_law_fewer_rows, D_law_fewer_rows⟩, List.forall_mem_cons.mpr ⟨⟨f_law_otherwise, _, _, PySem.W.mg_of X G a_law_otherwise, k_law_otherwise, D_law_otherwise⟩, List.forall_mem_cons.mpr ⟨⟨f_law_address_right_3, _, _, PySem.W.mg_of X G a_law_address_right_3, k_law_address_right_3, D_law_address_right_3⟩, List.forall_mem_cons.mpr ⟨⟨fa, _, _, PySem.W.mg_of X G a_law_151, k_law_151, D_law_151⟩, fun _ z => (nomatch z)⟩⟩⟩⟩⟩⟩⟩⟩⟩⟩⟩⟩⟩⟩⟩⟩⟩⟩⟩⟩⟩⟩⟩⟩⟩⟩⟩⟩⟩⟩⟩⟩⟩⟩⟩⟩⟩⟩⟩,
    cls := List.forall_mem_cons.mpr ⟨⟨g_Net___init, f_Net___init, _, _, rfl, PySem.W.mg_of X G aC_Net, ⟨mk_Net, a_Net___init, i_Net___init, kc_Net⟩, D_Net___init⟩, fun _ z => (nomatch z)⟩,
    ecl := List.forall_mem_cons.mpr ⟨(by unfold EclOk; rw [if_neg (by decide)]; exact PySem.W.mg_of X G aE_NoNet), List.forall_mem_cons.mpr ⟨(by unfold EclOk; rw [if_neg (by decide)]; exact PySem.W.mg_of X G aE_NoBooks), List.forall_mem_cons.mpr ⟨(by unfold EclOk; rw [if_neg (by decide)]; exact PySem.W.mg_of X G aE_NoDoor), List.forall_mem_cons.mpr ⟨(by unfold EclOk; rw [if_neg (by decide)]; exact PySem.W.mg_of X G aE_NoAddress), fun _ z => (nomatch z)⟩⟩⟩⟩,
    exr := List.forall_mem_cons.mpr ⟨{ ex := xE_NoNet, kp := kE_NoNet, sb := bE_NoNet, ty := tE_NoNet, ne := by decide }, List.forall_mem_cons.mpr ⟨{ ex := xE_NoBooks, kp := kE_NoBooks, sb := bE_NoBooks, ty := tE_NoBooks, ne := by decide }, List.forall_mem_cons.mpr ⟨{ ex := xE_NoDoor, kp := kE_NoDoor, sb := bE_NoDoor, ty := tE_NoDoor, ne := by decide }, List.forall_mem_cons.mpr ⟨{ ex := xE_NoAddress, kp := kE_NoAddress, sb := bE_NoAddress, ty := tE_NoAddress, ne := by decide }, fun _ z => (nomatch z)⟩⟩⟩⟩,
    sub := fun c d b z => by
      have z : tsub c d = some b := z
      unfold tsub at z
      cases z
    mts := fun c k d z => by
      have z : tmt c k = some d := z
      unfold tmt at z
      split at z
      · cases z; exact ⟨f_Net_count, _, _, ⟨pg_Net, hd_Net, po_Net, sa_Net⟩, ⟨a_Net_count, i_Net_count, k_Net_count⟩, D_Net_count⟩
      · cases z; exact ⟨f_Net_wires, _, _, ⟨pg_Net, hd_Net, po_Net, sa_Net⟩, ⟨a_Net_wires, i_Net_wires, k_Net_wires⟩, D_Net_wires⟩
      · cases z; exact ⟨f_Net_beyond, _, _, ⟨pg_Net, hd_Net, po_Net, sa_Net⟩, ⟨a_Net_beyond, i_Net_beyond, k_Net_beyond⟩, D_Net_beyond⟩
      · cases z; exact ⟨f_Net_outer, _, _, ⟨pg_Net, hd_Net, po_Net, sa_Net⟩, ⟨a_Net_outer, i_Net_outer, k_Net_outer⟩, D_Net_outer⟩
      · cases z; exact ⟨f_Net_is_door, _, _, ⟨pg_Net, hd_Net, po_Net, sa_Net⟩, ⟨a_Net_is_door, i_Net_is_door, k_Net_is_door⟩, D_Net_is_door⟩
      · cases z; exact ⟨f_Net_is_outer, _, _, ⟨pg_Net, hd_Net, po_Net, sa_Net⟩, ⟨a_Net_is_outer, i_Net_is_outer, k_Net_is_outer⟩, D_Net_is_outer⟩
      · cases z
    fls := fun c f z => by
      have z : tfl c f = true := z
      unfold tfl at z
      split at z
      · exact ⟨⟨pg_Net, hd_Net, po_Net, sa_Net⟩, n_Net_joins⟩
      · exact ⟨⟨pg_Net, hd_Net, po_Net, sa_Net⟩, n_Net_many⟩
      · exact ⟨⟨pg_Net, hd_Net, po_Net, sa_Net⟩, n_Net_other⟩
      · exact ⟨⟨pg_Net, hd_Net, po_Net, sa_Net⟩, n_Net_sizes⟩
      · cases z }
  exact law_ok Fa D_law_151 60 plain
end L3

/-! LGen: words of all laws over nets. -/
namespace L3
open PySem L2
/-- the whole numbers below -/
def upto (n : Int) : List Int := (List.range n.toNat).map fun k : Nat => (k : Int)
theorem mem_upto {n x : Int} : x ∈ upto n ↔ 0 ≤ x ∧ x < n := by
  unfold upto
  rw [List.mem_map]
  constructor
  · rintro ⟨k, hk, rfl⟩
    have := List.mem_range.mp hk
    omega
  · intro ⟨h1, h2⟩
    exact ⟨x.toNat, List.mem_range.mpr (by omega), by omega⟩
theorem upto_len (n : Int) : (upto n).length = n.toNat := by unfold upto; simp
/-- all doors of the first houses -/
def doorsUpto (cs : List Int) : Nat → List Door
  | 0 => []
  | k + 1 => doorsUpto cs k ++ (upto (cs.getD k 0)).map fun n => ((k : Int), n)
def allD (cs : List Int) : List Door := doorsUpto cs cs.length
def endsOf (ws : List Wire) : List Door := ws.flatMap fun w => [w.1, w.2]
structure NetOk (most : Int) (cs : List Int) (ws : List Wire) : Prop where
  len1 : 1 ≤ cs.length
  len2 : (cs.length : Int) ≤ most
  cnt : ∀ c ∈ cs, 1 ≤ c ∧ c ≤ 4
  wl : ws.length ≤ 12
  outer : ∃ ds, ds ≠ [] ∧ (ds ++ endsOf ws).Perm (allD cs)
theorem doorsUpto_len {cs : List Int} (h : ∀ c ∈ cs, 1 ≤ c ∧ c ≤ 4) : ∀ k, k ≤ cs.length → (doorsUpto cs k).length ≤ 4 * k ∧ k ≤ (doorsUpto cs k).length
  | 0, _ => by simp [doorsUpto]
  | k + 1, hk => by
    have ih := doorsUpto_len h k (by omega)
    have e : cs[k]? = some cs[k] := List.getElem?_eq_getElem (by omega)
    have e2 : cs.getD k 0 = cs[k] := by rw [List.getD_eq_getElem?_getD, e]; rfl
    have := h _ (List.getElem_mem (show k < cs.length by omega))
    rw [doorsUpto, List.length_append, List.length_map, upto_len, e2]
    omega
theorem perm_pop {α : Type} : ∀ {xs : List α} {i : Nat} {x : α}, xs[i]? = some x → (x :: xs.eraseIdx i).Perm xs
  | [], _, _, h => by cases h
  | y :: xs, 0, x, h => by
    have h : some y = some x := h
    cases h
    exact List.Perm.refl _
  | y :: xs, i + 1, x, h => by
    have ih := perm_pop (xs := xs) (i := i) (x := x) h
    show (x :: y :: xs.eraseIdx i).Perm (y :: xs)
    exact (List.Perm.swap y x _).trans (ih.cons y)
theorem ix_ints {st : Sto} {Q : AV → Sto → Prop} {m : Nat} {xs : List Int} {i : Int} (h : st[m]? = some (.lst (xs.map AV.int))) (h0 : 0 ≤ i) (h1 : i < xs.length) : (idxA (.ref m) (.int i) st).Is Q = Q (.int (xs.getD i.toNat 0)) st := by
  have hi : i.toNat < xs.length := by omega
  refine iix_l h (k := i.toNat) ?_ ?_
  · rw [List.length_map]; exact ixN_of h0 h1
  · rw [List.getElem?_map, List.getElem?_eq_getElem hi, List.getD_eq_getElem?_getD, List.getElem?_eq_getElem hi]; rfl
theorem get_map {α : Type} {f : α → AV} {xs : List α} {k : Nat} {x : α} (h : xs[k]? = some x) : (xs.map f)[k]? = some (f x) := by
  rw [List.getElem?_map, h]; rfl
def dimL : List Int := [4, 4, 4, 3, 2, 2]
theorem dim_ok {k : Nat} (h : k < 6) : 2 ≤ dimL.getD k 0 ∧ dimL.getD k 0 ≤ 4 := by
  have : k = 0 ∨ k = 1 ∨ k = 2 ∨ k = 3 ∨ k = 4 ∨ k = 5 := by omega
  obtain h | h | h | h | h | h := this <;> subst h <;> decide
theorem eqA_nil {st : Sto} {α : Type} {m n : Nat} {xs : List α} {g : α → AV} {f : α → PyData} (h : st[m]? = some (.lst (xs.map g))) (k : ∀ x ∈ xs, pd 8 st (g x) = some (f x)) (c : ∀ x ∈ xs, (f x).canLay0 = true) (h2 : st[n]? = some (.lst [])) : eqA st (.ref m) (.ref n) = some xs.isEmpty := by
  have z : pd 9 st (.ref n) = some (.list []) := pd_list (n := 8) h2 rfl
  rw [eqA_of (pd_lst h k) z (can_map c) rfl]
  cases xs with
  | nil => rw [List.map_nil, eqv_list, PyData.eqvAll]; rfl
  | cons x xs => rw [List.map_cons, eqv_list, PyData.eqvAll]; rfl
theorem ends_snoc (ws : List Wire) (w : Wire) : endsOf (ws ++ [w]) = endsOf ws ++ [w.1, w.2] := by
  unfold endsOf
  rw [List.flatMap_append]
  rfl
theorem erase_map {α β : Type} (f : α → β) : ∀ (xs : List α) (i : Nat), (xs.map f).eraseIdx i = (xs.eraseIdx i).map f
  | [], _ => rfl
  | x :: xs, 0 => rfl
  | x :: xs, i + 1 => by
    show f x :: (xs.map f).eraseIdx i = f x :: (xs.eraseIdx i).map f
    rw [erase_map f xs i]
theorem get_set_o {st : Sto} {n m : Nat} {o u : AO} (h : st[n]? = some u) (k : n ≠ m) : (st.set m o)[n]? = some u := by
  rw [List.getElem?_set_ne (Ne.symm k)]; exact h
/-- all but two are as before -/
def But (r w : Nat) (a b : Sto) : Prop := ∀ (n : Nat) (u : AO), n ≠ r → n ≠ w → a[n]? = some u → b[n]? = some u
theorem But.of {r w : Nat} {a b : Sto} (h : Ext a b) : But r w a b := fun n u _ _ z => h n u z
theorem But.set1 {r w : Nat} {a b : Sto} {o : AO} (h : But r w a b) : But r w a (b.set r o) := fun n u h1 h2 z => by
  rw [List.getElem?_set_ne (Ne.symm h1)]; exact h n u h1 h2 z
theorem But.set2 {r w : Nat} {a b : Sto} {o : AO} (h : But r w a b) : But r w a (b.set w o) := fun n u h1 h2 z => by
  rw [List.getElem?_set_ne (Ne.symm h2)]; exact h n u h1 h2 z
theorem But.ext {r w : Nat} {a b c : Sto} (h : But r w b c) (k : Ext a b) (hr : a.length ≤ r) (hw : a.length ≤ w) : Ext a c := fun n u z => by
  have := get_lt z
  exact h n u (by omega) (by omega) (k n u z)
theorem ix_mem {α : Type} {st : Sto} {Q : AV → Sto → Prop} {m : Nat} {xs : List α} {f : α → AV} {i : Int} (h : st[m]? = some (.lst (xs.map f))) (h0 : 0 ≤ i) (h1 : i < xs.length) (q : ∀ x ∈ xs, Q (f x) st) : (idxA (.ref m) (.int i) st).Is Q := by
  have hi : i.toNat < xs.length := by omega
  refine Eq.mpr (iix_l h (k := i.toNat) (v := f xs[i.toNat]) ?_ ?_) (q _ (List.getElem_mem hi))
  · rw [List.length_map]; exact ixN_of h0 h1
  · rw [List.getElem?_map, List.getElem?_eq_getElem hi]; rfl
theorem ix_sign {zs : List Nat} {st : Sto} {Q : AV → Sto → Prop} {j : Int} (hz : ∀ c ∈ zs, c = 48 ∨ c = 49 ∨ c = 120) (hl : zs.length ≤ 10) (h0 : 0 ≤ j) (h1 : j < zs.length) (q : ∀ c : Nat, c = 48 ∨ c = 49 ∨ c = 120 → Q (.str [c]) st) : (idxA (.str zs) (.int j) st).Is Q := by
  have hi : j.toNat < zs.length := by omega
  refine Eq.mpr (iix_s (k := j.toNat) (v := zs[j.toNat]) (Nat.le_trans hl (by decide)) (ixN_of h0 h1) (List.getElem?_eq_getElem hi)) (q _ (hz _ (List.getElem_mem hi)))
/-! ### lists of things -/
theorem in_map {α : Type} [DecidableEq α] {st : Sto} {n : Nat} {xs : List α} {x : α} {g : α → AV} {f : α → PyData} (hv : ∀ a b, PyData.eqv (f a) (f b) = decide (a = b)) (hn : st[n]? = some (.lst (xs.map g))) (hp : ∀ y, pd 8 st (g y) = some (f y)) (hx : (f x).canLay0 = true) (hc : ∀ y ∈ xs, (f y).canLay0 = true) : inA st (g x) (.ref n) = some (decide (x ∈ xs)) := by
  have h1 : pdS st (.ref n) = some (.list (xs.map f)) := pdS_of (pd_lst hn fun y _ => hp y) (can_map hc)
  have up : ∀ (k : Nat) (v : AV) (d : PyData), pd k st v = some d → pd (k + 1) st v = some d := by
    have hm : ∀ (k : Nat), (∀ v d, pd k st v = some d → pd (k + 1) st v = some d) → ∀ (l : List AV) (ds : List PyData), oAll (pd k st) l = some ds → oAll (pd (k + 1) st) l = some ds := by
      intro k ih l
      induction l with
      | nil => intro ds e; exact e
      | cons a l il =>
        intro ds e
        simp only [oAll] at e
        split at e
        · rename_i d r q1 q2
          cases e
          simp only [oAll, ih _ _ q1, il _ q2]
        · cases e
    intro k
    induction k with
    | zero => intro v d e; cases e
    | succ k ih =>
      intro v d e
      cases v with
      | tup l =>
        have e : (oAll (pd k st) l).map PyData.tuple = some d := e
        obtain ⟨ds, e1, rfl⟩ := Option.map_eq_some_iff.mp e
        show (oAll (pd (k + 1) st) l).map PyData.tuple = _
        rw [hm k ih l ds e1]
        rfl
      | ref m =>
        have e : (match st[m]? with
          | some (.lst xs) => (oAll (pd k st) xs).map .list
          | _ => none) = some d := e
        show (match st[m]? with
          | some (.lst xs) => (oAll (pd (k + 1) st) xs).map .list
          | _ => none) = some d
        split at e
        · rename_i l q
          obtain ⟨ds, e1, rfl⟩ := Option.map_eq_some_iff.mp e
          rw [hm k ih l ds e1]
          rfl
        · cases e
      | _ => exact e
  have h2 : pdS st (g x) = some (f x) := pdS_of (up 8 _ _ (hp x)) hx
  unfold inA
  dsimp only
  rw [hn]
  dsimp only
  rw [h1, h2]
  dsimp only
  congr 1
  rw [List.any_map, Bool.eq_iff_iff]
  simp only [List.any_eq_true, Function.comp, hv, decide_eq_true_eq]
  constructor
  · rintro ⟨y, h, rfl⟩
    exact h
  · intro h
    exact ⟨x, h, rfl⟩
theorem inA_strT {st : Sto} {x : List Nat} {ws : List (List Nat)} : inA st (.str x) (.tup (ws.map .str)) = some (decide (x ∈ ws)) := by
  have h : ∀ ws : List (List Nat), oAll flA (ws.map AV.str) = some (ws.map fun w => PyData.str ⟨w.toArray⟩) := by
    intro ws
    induction ws with
    | nil => rfl
    | cons w ws ih =>
      rw [List.map_cons, oAll, ih]
      rfl
  unfold inA
  dsimp only
  rw [h, show flA (.str x) = some (.str ⟨x.toArray⟩) from rfl]
  dsimp only
  congr 1
  rw [List.any_map, Bool.eq_iff_iff]
  simp only [List.any_eq_true, Function.comp, eqv_str, decide_eq_true_eq]
  constructor
  · rintro ⟨y, h, rfl⟩
    exact h
  · intro h
    exact ⟨x, h, rfl⟩
theorem ib_mulR {m : Nat} {a : List AV} {k : Int} {st : Sto} {Q : AV → Sto → Prop} (h : st[m]? = some (.lst a)) (hk : -(2 ^ 63) ≤ k ∧ k < 2 ^ 63 ∧ a.length * k.toNat ≤ lim) : (binA .mul (.ref m) (.int k) st).Is Q = Q (.ref st.length) (st ++ [.lst (List.replicate k.toNat a).flatten]) := by
  unfold binA
  dsimp only
  rw [h]
  dsimp only
  rw [if_pos hk]
  rfl
theorem mem_cutA {α : Type} {xs : List α} {lo hi : Option Int} {x : α} (h : x ∈ cutA xs lo hi) : x ∈ xs := List.mem_of_mem_drop (List.mem_of_mem_take h)
theorem cut_cat {α : Type} {xs : List α} {z : Int} (h0 : 0 ≤ z) : cutA xs none (some z) ++ cutA xs (some z) none = xs := by
  unfold cutA
  have e : HT.sIx xs.length 0 (some z) = min z.toNat xs.length := by
    show (if z < 0 then _ else _) = _
    rw [if_neg (by omega)]
  have e2 : HT.sIx xs.length xs.length (some z) = min z.toNat xs.length := by
    show (if z < 0 then _ else _) = _
    rw [if_neg (by omega)]
  rw [e, e2, HT.sIx_none, HT.sIx_none, List.drop_zero, Nat.sub_zero]
  rw [List.take_of_length_le (l := xs.drop _) (by rw [List.length_drop]; omega)]
  exact List.take_append_drop _ _
theorem ite2 {p q : Prop} [Decidable p] [Decidable q] {A B : Prop} (h : ¬ (p ∧ q)) : (if p then (if q then A else B) else B) = B := by
  by_cases h1 : p
  · rw [if_pos h1, if_neg (fun h2 => h ⟨h1, h2⟩)]
  · rw [if_neg h1]
theorem ix_any {α : Type} {st : Sto} {Q : AV → Sto → Prop} {m : Nat} {xs : List α} {f : α → AV} {i : Int} (h : st[m]? = some (.lst (xs.map f))) (h0 : -(xs.length : Int) ≤ i) (h1 : i < xs.length) (q : ∀ x ∈ xs, Q (f x) st) : (idxA (.ref m) (.int i) st).Is Q := by
  have e : ∃ k, L2.ixN (xs.map f).length i = some k ∧ k < xs.length := by
    rw [List.length_map]
    unfold L2.ixN
    by_cases h2 : 0 ≤ i
    · rw [if_pos h2, if_pos h1]
      exact ⟨_, rfl, by omega⟩
    · rw [if_neg h2, if_pos h0]
      exact ⟨_, rfl, by omega⟩
  obtain ⟨k, e1, e2⟩ := e
  rw [iix_l h e1 (by rw [List.getElem?_map, List.getElem?_eq_getElem e2]; rfl)]
  exact q _ (List.getElem_mem e2)
end L3

/-! LGj: two ways that meet again; the same thing twice. -/
namespace L3
open PySem L2
theorem ws_join {T : Tab} {cf cf1 : CallF} {e : Slots} {st : Sto} {N : Slots → Sto → Prop} {Tr : AV → Sto → Prop} {c : E} {a b k : S} (I : Slots → Sto → Prop) (hc : (ev T cf cf1 c e st).Is fun v st => boolIs v fun t => if t = true then (exS T cf cf1 a e st).Is I Tr else (exS T cf cf1 b e st).Is I Tr) (hk : ∀ e st, I e st → (exS T cf cf1 k e st).Is N Tr) : (exS T cf cf1 (.ite c a b k) e st).Is N Tr := by
  rw [ws_ite]
  refine R.Is.mono hc fun v s h => ?_
  cases v with
  | bl t =>
    rw [boolIs_b] at h ⊢
    cases t with
    | true =>
      rw [if_pos rfl] at h ⊢
      exact SR.Is.mono h hk fun _ _ z => z
    | false =>
      rw [if_neg Bool.false_ne_true] at h ⊢
      exact SR.Is.mono h hk fun _ _ z => z
  | _ => exact h.elim
theorem eqA_same {st : Sto} {x y : AV} {d : PyData} (h : pd 9 st x = some d) (k : pd 9 st y = some d) (c : d.canLay0 = true) : eqA st x y = some true := by
  rw [eqA_of h k c c, PySem.SeqAt.eqv_refl _ c]
theorem pd_ints {n : Nat} {st : Sto} {m : Nat} {is : List Int} (h : st[m]? = some (.lst (is.map AV.int))) : pd (n + 2) st (.ref m) = some (.list (is.map .int)) := pd_list h (oAll_map is fun _ _ => rfl)
theorem eqA_ints' {st : Sto} {m n : Nat} {is js : List Int} (h : st[m]? = some (.lst (is.map AV.int))) (k : st[n]? = some (.lst (js.map AV.int))) : eqA st (.ref m) (.ref n) = some (decide (is = js)) := eqA_ints h k
theorem int_ne (x : Int) (r : Nat) : AV.int x ≠ .ref r := by intro h; cases h
end L3

/-! LGsp: sorted sets of pairs, and how many there are. -/
namespace L3
open PySem L2
theorem mem_insQ {a k : Int × Int} : ∀ {l : List (Int × Int)}, k ∈ insQ a l ↔ k = a ∨ k ∈ l
  | [] => by simp [insQ]
  | b :: l => by
    unfold insQ
    split
    · simp
    · split
      · rename_i h
        subst h
        simp
      · rw [List.mem_cons, mem_insQ, List.mem_cons]
        constructor
        · rintro (h | h | h)
          · exact .inr (.inl h)
          · exact .inl h
          · exact .inr (.inr h)
        · rintro (h | h | h)
          · exact .inr (.inl h)
          · exact .inl h
          · exact .inr (.inr h)
theorem mem_psort {k : Int × Int} : ∀ {l : List (Int × Int)}, k ∈ psort l ↔ k ∈ l
  | [] => by simp [psort]
  | b :: l => by
    show k ∈ insQ b (psort l) ↔ _
    rw [mem_insQ, mem_psort, List.mem_cons]
theorem pLt_tot {a b : Int × Int} (h : ¬ pLt a b) (k : a ≠ b) : pLt b a := by
  unfold pLt at *
  have : a.1 ≠ b.1 ∨ a.2 ≠ b.2 := by
    by_cases h1 : a.1 = b.1
    · by_cases h2 : a.2 = b.2
      · exact absurd (Prod.ext h1 h2) k
      · exact .inr h2
    · exact .inl h1
  omega
theorem pLt_trans {a b c : Int × Int} (h : pLt a b) (k : pLt b c) : pLt a c := by
  unfold pLt at *
  omega
theorem pLt_irr {a : Int × Int} : ¬ pLt a a := by
  unfold pLt
  omega
theorem insQ_pw {a : Int × Int} : ∀ {l : List (Int × Int)}, l.Pairwise pLt → (insQ a l).Pairwise pLt
  | [], _ => by
    show [a].Pairwise pLt
    exact List.pairwise_singleton _ _
  | b :: l, h => by
    unfold insQ
    obtain ⟨h1, h2⟩ := List.pairwise_cons.mp h
    split
    · rename_i c
      refine List.pairwise_cons.mpr ⟨fun x hx => ?_, h⟩
      rcases List.mem_cons.mp hx with rfl | hx
      · exact c
      · exact pLt_trans c (h1 x hx)
    · split
      · exact h
      · rename_i c1 c2
        refine List.pairwise_cons.mpr ⟨fun x hx => ?_, insQ_pw h2⟩
        rcases mem_insQ.mp hx with rfl | hx
        · exact pLt_tot c1 c2
        · exact h1 x hx
theorem psort_pw : ∀ l : List (Int × Int), (psort l).Pairwise pLt
  | [] => List.Pairwise.nil
  | b :: l => insQ_pw (psort_pw l)
theorem pw_ext : ∀ {a b : List (Int × Int)}, a.Pairwise pLt → b.Pairwise pLt → (∀ x, x ∈ a ↔ x ∈ b) → a = b
  | [], [], _, _, _ => rfl
  | [], y :: b, _, _, h => by
    have := (h y).mpr (List.mem_cons_self ..)
    cases this
  | x :: a, [], _, _, h => by
    have := (h x).mp (List.mem_cons_self ..)
    cases this
  | x :: a, y :: b, ha, hb, h => by
    obtain ⟨a1, a2⟩ := List.pairwise_cons.mp ha
    obtain ⟨b1, b2⟩ := List.pairwise_cons.mp hb
    have e : x = y := by
      rcases List.mem_cons.mp ((h x).mp (List.mem_cons_self ..)) with e | e
      · exact e
      · rcases List.mem_cons.mp ((h y).mpr (List.mem_cons_self ..)) with e' | e'
        · exact e'.symm
        · exact absurd (pLt_trans (a1 _ e') (b1 _ e)) pLt_irr
    subst e
    rw [pw_ext a2 b2 fun z => ?_]
    constructor
    · intro hz
      rcases List.mem_cons.mp ((h z).mp (List.mem_cons_of_mem _ hz)) with e | e
      · exact absurd (e ▸ a1 _ hz) pLt_irr
      · exact e
    · intro hz
      rcases List.mem_cons.mp ((h z).mpr (List.mem_cons_of_mem _ hz)) with e | e
      · exact absurd (e ▸ b1 _ hz) pLt_irr
      · exact e
theorem psort_ext {a b : List (Int × Int)} (h : ∀ x, x ∈ a ↔ x ∈ b) : psort a = psort b := pw_ext (psort_pw a) (psort_pw b) fun x => by rw [mem_psort, mem_psort, h x]
theorem insQ_len (a : Int × Int) : ∀ l : List (Int × Int), (insQ a l).length ≤ l.length + 1
  | [] => Nat.le_refl _
  | b :: l => by
    unfold insQ
    split
    · exact Nat.le_refl _
    · split
      · exact Nat.le_succ _
      · rw [List.length_cons, List.length_cons]
        have := insQ_len a l
        omega
theorem psort_len : ∀ l : List (Int × Int), (psort l).length ≤ l.length
  | [] => Nat.le_refl _
  | b :: l => by
    have h1 := insQ_len b (psort l)
    have h2 := psort_len l
    show (insQ b (psort l)).length ≤ _
    rw [List.length_cons]
    omega
theorem firsts_go {α : Type} [DecidableEq α] : ∀ (l acc : List α), (acc ++ l).Nodup → l.foldl (fun acc x => if x ∈ acc then acc else acc ++ [x]) acc = acc ++ l
  | [], acc, _ => by rw [List.append_nil]; rfl
  | x :: l, acc, h => by
    rw [List.foldl_cons]
    have h3 := (List.nodup_append.mp h).2.2
    rw [if_neg fun z => h3 x z x (List.mem_cons_self ..) rfl]
    rw [firsts_go l (acc ++ [x]) (by rw [List.append_assoc]; exact h), List.append_assoc]
    rfl
theorem firsts_all {α : Type} [DecidableEq α] {l : List α} (h : l.Nodup) : firsts l = l := firsts_go l [] h
end L3

/-! LMix: numbers, patterns, rows drawn from cells. -/
namespace L3
open PySem L2
def mixM (c k : Int) : Int := (c % 10 ^ 30 + 1) * (48271 + 2 * k * k + k) % 2147483647 / 7
theorem mixM_nn (c k : Int) : 0 ≤ mixM c k := Int.ediv_nonneg (Int.emod_nonneg _ (by decide)) (by decide)
theorem mix_is {n : Nat} {st : Sto} {c k : Int} {Q : AV → Sto → Prop} (h0 : 0 ≤ k) (h1 : k < 400) (q : Q (.int (mixM c k)) st) : (callF tab (n + 1) g_law_mix [.int c, .int k] st).Is Q := by
  refine call_is rfl rfl ?_; simp only [List.map_cons, List.map_nil, List.cons_append, List.nil_append, List.replicate_succ, List.replicate_zero, Nat.reduceSub]
  have e1 : 0 ≤ 2 * k * k ∧ 2 * k * k < 400000 := by
    have : 0 ≤ k * k := Int.mul_nonneg h0 h0
    have : k * k ≤ 399 * 399 := Int.mul_le_mul (by omega) (by omega) h0 (by omega)
    rw [Int.mul_assoc]
    omega
  simp! [c_law_mix, ↓ib_mul (mulOk_l (i := 2) (by decide) (by decide)), ↓ib_mul (mulOk_l (i := 2 * k) (j := k) (by omega) (by omega)), ↓ib_mul (mulOk_r (i := c % 10 ^ 30 + 1) (j := 48271 + 2 * k * k + k) (by omega) (by omega))]
  exact q
theorem cell_is {n : Nat} {st : Sto} {ns : List Int} {k : Int} {Q : AV → Sto → Prop} (hk : 0 ≤ k) (q : ∀ c, Q (.int c) st) : (callF tab (n + 1) g_law_cell_at [.rol ns, .int k] st).Is Q := by
  refine call_is rfl rfl ?_; simp only [List.map_cons, List.map_nil, List.cons_append, List.nil_append, List.replicate_succ, List.replicate_zero, Nat.reduceSub]
  simp! [c_law_cell_at, ↓il_lenR]
  split
  · rename_i h
    obtain ⟨j, hj, hj2⟩ := ixN_some hk h
    have hv : ns[j]? = some ns[j] := List.getElem?_eq_getElem hj2
    simp! [↓iix_r hj hv]
    exact q _
  · exact q _
end L3

/-! LDig: digits of a number. -/
namespace L3
open PySem L2
/-- a digit of a state -/
theorem digit_is {n : Nat} {st : Sto} {m : Nat} {x many : Int} {Q : AV → Sto → Prop} (hm : st[m]? = some (.lst [.int x])) (h0 : 0 < many) (h1 : many < 1073741824) (q : Q (.int (x % many)) (st.set m (.lst [.int (x / many)]))) : (callF tab (n + 1) g_law_digit [.ref m, .int many] st).Is Q := by
  have i0 : L2.ixN [AV.int x].length 0 = some 0 := rfl
  refine call_is rfl rfl ?_; simp only [List.map_cons, List.map_nil, List.cons_append, List.nil_append, List.replicate_succ, List.replicate_zero, Nat.reduceSub]
  simp! [c_law_digit, ↓iix_l hm i0 rfl, ↓ib_mod h0, ↓ib_fdiv (show 0 < many ∧ many < 1073741824 from ⟨h0, h1⟩)]
  rw [ws_setL hm i0]
  simp! [if_true]
  exact q
/-- the state as it goes on -/
def Dig (m : Nat) (a b : Sto) : Prop := (∀ (n : Nat) (u : AO), n ≠ m → a[n]? = some u → b[n]? = some u) ∧ (∃ x, b[m]? = some (.lst [.int x])) ∧ a.length ≤ b.length
theorem Dig.trans {m : Nat} {a b c : Sto} (h : Dig m a b) (k : Dig m b c) : Dig m a c := ⟨fun n u z q => k.1 n u z (h.1 n u z q), k.2.1, Nat.le_trans h.2.2 k.2.2⟩
theorem Dig.set {m : Nat} {a : Sto} {x y : Int} (h : a[m]? = some (.lst [.int x])) : Dig m a (a.set m (.lst [.int y])) := ⟨fun n u z q => get_set_o q z, ⟨y, get_set h⟩, by rw [List.length_set]; exact Nat.le_refl _⟩
theorem Dig.of {m : Nat} {a b : Sto} {x : Int} (h : a[m]? = some (.lst [.int x])) (e : Ext a b) : Dig m a b := ⟨fun n u _ q => e n u q, ⟨x, e _ _ h⟩, e.lt⟩
theorem digit_ok {n : Nat} {st : Sto} {m : Nat} {many : Int} {Q : AV → Sto → Prop} (hm : ∃ x, st[m]? = some (.lst [.int x])) (h0 : 0 < many) (h1 : many < 1073741824) (q : ∀ d s, 0 ≤ d → d < many → Dig m st s → Q (.int d) s) : (callF tab (n + 1) g_law_digit [.ref m, .int many] st).Is Q := by
  obtain ⟨x, hm⟩ := hm
  exact digit_is hm h0 h1 (q _ _ (Int.emod_nonneg _ (by omega)) (Int.emod_lt_of_pos _ h0) (Dig.set hm))
theorem joinL_ones : ∀ (ps : List Nat), TL.joinL [] (ps.map fun c => [c]) = ps
  | [] => rfl
  | [p] => rfl
  | p :: q :: ps => by
    show [p] ++ ([] ++ TL.joinL [] ((q :: ps).map fun c => [c])) = _
    rw [joinL_ones (q :: ps)]
    rfl
theorem joined (ps : List Nat) : joinA [] (ps.map fun c => [c]) = ps := by
  unfold joinA
  have e2 := SX.join_S [] (ps.map fun c => [c])
  rw [joinL_ones] at e2
  exact (congrArg (fun x : Str => x.cps.toList) e2)
theorem strs_map : ∀ (ps : List (List Nat)), strsA (ps.map AV.str) = some ps
  | [] => rfl
  | p :: ps => by
    show (strsA (ps.map AV.str)).map (p :: ·) = _
    rw [strs_map ps]
    rfl
theorem dig_lt {m : Nat} {a b : Sto} (h : Dig m a b) {n : Nat} {u : AO} (k : a[n]? = some u) (ne : n ≠ m) : b[n]? = some u := h.1 n u ne k
theorem sum_ones : ∀ ps : List Nat, ((ps.map fun c => ([c] : List Nat)).map List.length).sum = ps.length
  | [] => rfl
  | p :: ps => by
    show 1 + ((ps.map fun c => ([c] : List Nat)).map List.length).sum = ps.length + 1
    rw [sum_ones ps]
    omega
/-- a pattern by digits -/
theorem pat_by {n : Nat} {st : Sto} {m : Nat} {v1 v2 v3 v4 v5 v6 : Option AV} {Q : AV → Sto → Prop} (hm : ∃ x, st[m]? = some (.lst [.int x])) (q : ∀ p s, legal p = true → Dig m st s → Q (.str p) s) :
    (ev tab (callF tab (n + 1)) (lev tab (n + 1)).2 (.meth 10 (.con (.str [])) ((.cons (.lc [6] (.nm 6) (.rng1 (.con (.int 4))) .nil c_law_book_by_1) .nil))) [some (.ref m), v1, v2, v3, v4, v5, v6] st).Is Q := by
  rw [i_meth, i_con]
  have e : selA tab 10 (.str []) st = .str := rfl
  rw [e]
  refine Eq.mpr (R.is_bind (r := evs tab (callF tab (n + 1)) (lev tab (n + 1)).2 _ _ st)) ?_
  simp! [↓ir_1 (show (4 : Int) < 2 ^ 62 by decide) (show -(2 ^ 62) ≤ (4 : Int) by decide)]
  refine lc_is (fun k acc s => ∃ ps : List Nat, acc = (ps.map fun c => [c]).map AV.str ∧ ps.length = k ∧ k ≤ 4 ∧ (∀ c ∈ ps, c = 48 ∨ c = 49 ∨ c = 120) ∧ Dig m st s) _ 0 _ _ ⟨[], rfl, rfl, by omega, (fun c h => by cases h), ⟨fun _ _ _ h => h, hm, Nat.le_refl _⟩⟩ (fun i x acc s hx hI => ?_) fun acc s hI => ?_
  · obtain ⟨ps, rfl, h1, h2, h3, h4⟩ := hI
    have hi : i < 4 := by
      have := (List.getElem?_eq_some_iff.mp hx).1
      rw [show (intsFrom 0 1 4).length = 4 from rfl] at this
      exact this
    refine ⟨rfl, _, rfl, ?_⟩
    simp only [bindT, bindT.go, wipeA, List.set_cons_zero, List.set_cons_succ]
    simp! [c_law_book_by_1]
    refine digit_ok h4.2.1 (by decide) (by decide) fun d s' d0 d1 hd => ?_
    simp! [if_true]
    refine ix_sign (by decide) (by decide) d0 (by exact d1) fun c hc => ?_
    refine ⟨by simp [h1]; unfold lim; omega, ps ++ [c], by simp, by rw [List.length_append, h1]; rfl, by omega, fun c' h' => ?_, h4.trans hd⟩
    rcases List.mem_append.mp h' with h' | h'
    · exact h3 c' h'
    · rw [List.mem_singleton.mp h']; exact hc
  · obtain ⟨ps, rfl, h1, h2, h3, h4⟩ := hI
    have h1 : ps.length = 4 := by rw [h1]; rfl
    refine ⟨rfl, ?_⟩
    simp! [if_true]
    have g := get_push s (AO.lst ((ps.map fun c => [c]).map AV.str))
    have hb : ((ps.map fun c => [c]).map List.length).sum + (ps.map fun c => [c]).length * ([] : List Nat).length ≤ lim := by
      have e : ((ps.map fun c => ([c] : List Nat)).map List.length).sum = ps.length := sum_ones ps
      rw [e, h1]
      simp
      decide
    have e2 : methA (callF tab (n + 1)) Sel.str 10 (.str []) [.ref s.length] (s ++ [AO.lst ((ps.map fun c => [c]).map AV.str)]) = .ok (.str ps) (s ++ [AO.lst ((ps.map fun c => [c]).map AV.str)]) := by
      show sjoin [] [.ref s.length] _ = _
      unfold sjoin
      dsimp only
      rw [g]
      dsimp only
      rw [strs_map]
      dsimp only
      rw [if_pos hb, joined]
    rw [e2]
    obtain ⟨x, hx⟩ := h4.2.1
    exact q ps _ (legal_mk h1 h3) (h4.trans (Dig.of hx (Ext.push _ _)))
/-- a choice by digits -/
theorem opt_by {n : Nat} {st : Sto} {m : Nat} {count : Int} {v2 v3 v4 v5 v6 : Option AV} {Q : AV → Sto → Prop} (hm : ∃ x, st[m]? = some (.lst [.int x])) (hc : 0 < count ∧ count < 1000) (q : ∀ o s, OptOk count o → Dig m st s → Q (optV o) s) :
    (ev tab (callF tab (n + 1)) (lev tab (n + 1)).2 (.idx (.bin .add (.lst ((.cons (.con .non) .nil))) (.lrng (.var 1))) (.call g_law_digit ((.cons (.var 0) (.cons (.bin .add (.var 1) (.con (.int 1))) .nil))))) [some (.ref m), some (.int count), v2, v3, v4, v5, v6] st).Is Q := by
  obtain ⟨x, hm⟩ := hm
  simp! [↓i_lr (show 0 ≤ count ∧ count ≤ 1000000 by omega)]
  have e : (List.range count.toNat).map (fun k : Nat => AV.int (k : Int)) = (upto count).map AV.int := by unfold upto; rw [List.map_map]; rfl
  rw [e]
  have g1 := get_push st (AO.lst [AV.non])
  have x1 := Ext.push st (AO.lst [AV.non])
  generalize st ++ [AO.lst [AV.non]] = s1 at g1 x1 ⊢
  have g2 := get_push s1 (AO.lst ((upto count).map AV.int))
  have x2 := Ext.push s1 (AO.lst ((upto count).map AV.int))
  generalize s1 ++ [AO.lst ((upto count).map AV.int)] = s2 at g2 x2 ⊢
  rw [ib_addL (x2 _ _ g1) g2 (by rw [List.length_map, upto_len]; have : ([AV.non] : List AV).length = 1 := rfl; unfold lim; omega)]
  have e3 : [AV.non] ++ (upto count).map AV.int = (none :: (upto count).map some).map optV := by
    rw [List.map_cons, List.map_map]; rfl
  rw [e3]
  have g3 := get_push s2 (AO.lst ((none :: (upto count).map some).map optV))
  have x3 := Ext.push s2 (AO.lst ((none :: (upto count).map some).map optV))
  have hl := get_lt g3
  have d3 : Dig m st (s2 ++ [AO.lst ((none :: (upto count).map some).map optV)]) := Dig.of hm (x1.trans (x2.trans x3))
  have hne : s2.length ≠ m := by
    have := get_lt (x2 _ _ (x1 _ _ hm)); omega
  generalize s2 ++ [AO.lst ((none :: (upto count).map some).map optV)] = s3 at g3 d3 ⊢
  simp! [if_true]
  refine digit_ok d3.2.1 (by omega) (by omega) fun d s d0 d1 hd => ?_
  refine ix_mem (hd.1 _ _ hne g3) d0 (by rw [List.length_cons, List.length_map, upto_len]; omega) fun o ho => q o s ?_ (d3.trans hd)
  intro i hi
  subst hi
  simp only [List.mem_cons, reduceCtorEq, false_or, List.mem_map, Option.some.injEq, exists_eq_right] at ho
  exact mem_upto.mp ho
end L3

/-! LWalk: which row is taken. -/
namespace L3
open PySem L2
/-! ### fitting -/
/-- a sign takes a figure -/
def mt (s : Nat) (f : Int) : Bool := decide (s = 120) || decide ((s : Int) = 48 + f)
def fitM (x : List Nat) (a : Int) : Bool := (List.range 4).all fun i => mt (x.getD i 0) (a / 2 ^ (3 - i) % 2)
theorem fit_no {x : List Nat} {a : Int} {i : Nat} (hi : i < 4) (h : mt (x.getD i 0) (a / 2 ^ (3 - i) % 2) = false) : fitM x a = false := by
  refine Bool.eq_false_iff.mpr fun z => ?_
  have := List.all_eq_true.mp z i (List.mem_range.mpr hi)
  rw [h] at this
  exact Bool.false_ne_true this
theorem fit_yes {x : List Nat} {a : Int} (h : ∀ i < 4, mt (x.getD i 0) (a / 2 ^ (3 - i) % 2) = true) : fitM x a = true :=
  List.all_eq_true.mpr fun i hi => h i (List.mem_range.mp hi)
theorem fig_str {f : Int} (h : f = 0 ∨ f = 1) {st : Sto} {Q : AV → Sto → Prop} : (callB .str [.int f] st).Is Q = Q (.str [(48 + f).toNat]) st := by
  obtain h | h := h <;> subst h <;> rfl
theorem fits_is {n : Nat} {st : Sto} {x : List Nat} {a : Int} {Q : AV → Sto → Prop} (hl : legal x = true) (ha : 0 ≤ a) (q : Q (.bl (fitM x a)) st) : (callF tab (n + 1) g_fits [.str x, .int a] st).Is Q := by
  have hx : x.length = 4 := by
    unfold legal at hl; rw [Bool.and_eq_true] at hl; exact of_decide_eq_true hl.1
  have hs : ∀ i < 4, ∃ c, x[i]? = some c ∧ x.getD i 0 = c ∧ c ∈ [48, 49, 120] := fun i hi => by
    have e : x[i]? = some x[i] := List.getElem?_eq_getElem (by omega)
    refine ⟨x[i], e, by rw [List.getD_eq_getElem?_getD, e]; rfl, ?_⟩
    unfold legal at hl; rw [Bool.and_eq_true] at hl
    exact of_decide_eq_true (List.all_eq_true.mp hl.2 _ (List.getElem_mem _))
  refine call_is rfl rfl ?_; simp only [List.map_cons, List.map_nil, List.cons_append, List.nil_append, List.replicate_succ, List.replicate_zero, Nat.reduceSub]
  simp! [c_fits, ↓ie_str]
  refine for_is (fun k e s => s = st ∧ (∃ z2 z3 z4, e = [some (.str x), some (.int a), z2, z3, z4]) ∧ ∀ i < k, mt (x.getD i 0) (a / 2 ^ (3 - i) % 2) = true) _ 0 _ _ ⟨rfl, ⟨_, _, _, rfl⟩, fun i h => absurd h (Nat.not_lt_zero i)⟩ (fun i y e s hy hI => ?_) fun e s hI => ?_
  · obtain ⟨rfl, ⟨z2, z3, z4, rfl⟩, hm⟩ := hI
    rw [Nat.zero_add] at hm
    rw [numbered_get, List.getElem?_map] at hy
    obtain ⟨y1, hy1, rfl⟩ := Option.map_eq_some_iff.mp hy
    obtain ⟨c, hc, rfl⟩ := Option.map_eq_some_iff.mp hy1
    have hi : i < 4 := by rw [← hx]; exact (List.getElem?_eq_some_iff.mp hc).1
    obtain ⟨c', hc', hd, hm'⟩ := hs i hi
    have e1 : c' = c := Option.some.inj (hc'.symm.trans hc)
    subst e1
    refine ⟨rfl, _, rfl, ?_⟩
    have hsh : (0 : Int) ≤ 4 - 1 - ((0 + i : Nat) : Int) := by omega
    have ha2 : Builtin.bitAnd (a / 2 ^ (3 - i)) 1 = a / 2 ^ (3 - i) % 2 := Bits.bitAnd_mask 1 (Int.ediv_nonneg ha (Int.pow_nonneg (by decide)))
    have hp : (4 - 1 - ((0 + i : Nat) : Int)).toNat = 3 - i := by omega
    have hf : a / 2 ^ (3 - i) % 2 = 0 ∨ a / 2 ^ (3 - i) % 2 = 1 := by omega
    have ch : ∀ z : Nat, z < 0x110000 → chOk [z] = true := fun z h => by simp [chOk, h]
    have cc : chOk [c'] = true := ch _ (by
      simp only [List.mem_cons, List.not_mem_nil, or_false] at hm'; omega)
    have cf : chOk [(48 + a / 2 ^ (3 - i) % 2).toNat] = true := ch _ (by omega)
    simp only [bindT, bindT.go, wipeA, List.set_cons_zero, List.set_cons_succ]
    simp! [c_fits_1, ↓ib_shr hsh, ha2, hp, ↓fig_str hf, ↓ic_neS cc (show chOk [120] = true by decide), ↓ic_neS cc cf]
    have nx : mt c' (a / 2 ^ (3 - i) % 2) = true → ∀ j < 0 + i + 1, mt (x.getD j 0) (a / 2 ^ (3 - j) % 2) = true := fun z j hj => by
      by_cases e : j = i
      · subst e; rw [hd]; exact z
      · exact hm j (by omega)
    have no : mt c' (a / 2 ^ (3 - i) % 2) = false → Q (.bl false) s := fun z => by
      rw [fit_no hi (by rw [hd]; exact z)] at q; exact q
    generalize a / 2 ^ (3 - i) % 2 = f at *
    split
    · rename_i h1
      split
      · rename_i h2
        have e : mt c' f = false := by
          simp only [mt, Bool.or_eq_false_iff, decide_eq_false_iff_not]
          refine ⟨fun z => h1 (by rw [z]), fun z => h2 ?_⟩
          rw [← z]; rfl
        exact no e
      · rename_i h2
        refine ⟨⟨_, _, _, rfl⟩, nx ?_⟩
        have h2 := Classical.not_not.mp h2
        simp only [List.cons.injEq, and_true] at h2
        simp only [mt, Bool.or_eq_true, decide_eq_true_eq]
        omega
    · rename_i h1
      refine ⟨⟨_, _, _, rfl⟩, nx ?_⟩
      have h1 := Classical.not_not.mp h1
      simp only [List.cons.injEq, and_true] at h1
      simp only [mt, Bool.or_eq_true, decide_eq_true_eq]
      omega
  · obtain ⟨rfl, ⟨z2, z3, z4, rfl⟩, hm⟩ := hI
    rw [numbered_length, List.length_map, hx] at hm
    rw [fit_yes fun i hi => hm i (by omega)] at q
    exact ⟨rfl, q⟩

/-! ### rows taken -/
def hitR (door a : Int) (r : Row) : Bool := fitM r.1 a && (decide (r.2.1 = none) || decide (r.2.1 = some door))
def takenM (b : List Row) (door a : Int) : Option Nat := b.findIdx? (hitR door a)
theorem inA_opt {st : Sto} {o : Option Int} {d : Int} : inA st (optV o) (.tup [.non, .int d]) = some (decide (o = none) || decide (o = some d)) := by
  cases o with
  | none => rfl
  | some i =>
    show some _ = some _
    congr 1
    simp only [List.any_cons, List.any_nil, Bool.or_false]
    rw [show PyData.eqv .none (.int i) = false by rw [PyData.eqv], eqv_int]
    rw [Bool.eq_iff_iff]
    simp [eq_comm]
theorem find_step {α : Type} {p : α → Bool} : ∀ {xs : List α} {i : Nat} {x : α}, xs[i]? = some x → (∀ (j : Nat) (y : α), j < i → xs[j]? = some y → p y = false) → p x = true → xs.findIdx? p = some i
  | [], _, _, h, _, _ => by cases h
  | y :: xs, 0, x, h, _, hp => by
    cases h
    rw [List.findIdx?_cons, hp]
    rfl
  | y :: xs, i + 1, x, h, hn, hp => by
    have e := hn 0 y (Nat.succ_pos _) rfl
    rw [List.findIdx?_cons, e, find_step (xs := xs) (i := i) h (fun j z hj hz => hn (j + 1) z (Nat.succ_lt_succ hj) hz) hp]
    rfl
theorem find_none {α : Type} {p : α → Bool} {xs : List α} (h : ∀ (j : Nat) (y : α), xs[j]? = some y → p y = false) : xs.findIdx? p = none := by
  rw [List.findIdx?_eq_none_iff]
  intro x hx
  obtain ⟨i, hi, rfl⟩ := List.getElem_of_mem hx
  exact h i _ (List.getElem?_eq_getElem hi)
def natV : Option Nat → AV
  | none => .non
  | some i => .int i
theorem taken_is {n : Nat} {st : Sto} {m : Nat} {b : List Row} {door a : Int} {Q : AV → Sto → Prop} (hm : st[m]? = some (.lst (b.map rowV))) (hp : ∀ r ∈ b, legal r.1 = true) (ha : 0 ≤ a) (q : Q (natV (takenM b door a)) st) : (callF tab (n + 2) g_taken [.ref m, .int door, .int a] st).Is Q := by
  refine call_is rfl rfl ?_; simp only [List.map_cons, List.map_nil, List.cons_append, List.nil_append, List.replicate_succ, List.replicate_zero, Nat.reduceSub]
  simp! [c_taken, ↓ie_lst hm]
  refine for_is (fun k e s => s = st ∧ (∃ z3 z4, e = [some (.ref m), some (.int door), some (.int a), z3, z4]) ∧ ∀ j y, j < k → b[j]? = some y → hitR door a y = false) _ 0 _ _ ⟨rfl, ⟨_, _, rfl⟩, fun j y h => absurd h (Nat.not_lt_zero j)⟩ (fun i y e s hy hI => ?_) fun e s hI => ?_
  · obtain ⟨rfl, ⟨z3, z4, rfl⟩, hn⟩ := hI
    rw [Nat.zero_add] at hn
    rw [numbered_get, List.getElem?_map] at hy
    obtain ⟨y1, hy1, rfl⟩ := Option.map_eq_some_iff.mp hy
    obtain ⟨r, hr, rfl⟩ := Option.map_eq_some_iff.mp hy1
    refine ⟨ck_lst hm, _, rfl, ?_⟩
    simp only [bindT, bindT.go, wipeA, List.set_cons_zero, List.set_cons_succ]
    have hl := hp r (List.mem_of_getElem? hr)
    have i0 : L2.ixN [AV.str r.1, optV r.2.1, optV r.2.2].length 0 = some 0 := rfl
    have i1 : L2.ixN [AV.str r.1, optV r.2.1, optV r.2.2].length 1 = some 1 := rfl
    have nx : hitR door a r = false → ∀ j y, j < 0 + i + 1 → b[j]? = some y → hitR door a y = false := fun z j y hj h => by
      by_cases e : j = i
      · subst e
        rw [hr] at h
        cases h
        exact z
      · exact hn j y (by omega) h
    simp! [c_taken_1, rowV, ↓iix_t i0 rfl, ↓iix_t i1 rfl]
    refine fits_is hl ha ?_
    simp! [↓ic_in inA_opt]
    split
    · rename_i h1
      split
      · rename_i h2
        have e : takenM b door a = some i := find_step hr hn (by unfold hitR; rw [h1, h2]; rfl)
        rw [e] at q
        rw [Nat.zero_add]
        exact q
      · rename_i h2
        exact ⟨⟨_, _, rfl⟩, nx (by unfold hitR; rw [h1, Bool.eq_false_iff.mpr h2]; rfl)⟩
    · rename_i h1
      exact ⟨⟨_, _, rfl⟩, nx (by unfold hitR; rw [Bool.eq_false_iff.mpr h1]; rfl)⟩
  · obtain ⟨rfl, ⟨z3, z4, rfl⟩, hn⟩ := hI
    rw [numbered_length, List.length_map, Nat.zero_add] at hn
    have e : takenM b door a = none := find_none fun j y h => hn j y (List.getElem?_eq_some_iff.mp h).1 h
    rw [e] at q
    exact ⟨ck_lst hm, q⟩
end L3

/-! LByb: books by digits. -/
namespace L3
open PySem L2
theorem Dig.newset {m b : Nat} {a s : Sto} {o : AO} (h : Dig m a s) (k : a.length ≤ b) (ne : b ≠ m) : Dig m a (s.set b o) := ⟨fun n u z q => by
    have := get_lt q
    exact get_set_o (h.1 n u z q) (by omega), by
    obtain ⟨x, hx⟩ := h.2.1
    exact ⟨x, get_set_o hx (Ne.symm ne)⟩, by rw [List.length_set]; exact h.2.2⟩
theorem book_by {n : Nat} {st : Sto} {m : Nat} {count : Int} {Q : AV → Sto → Prop} (hm : ∃ x, st[m]? = some (.lst [.int x])) (hc : 0 < count ∧ count < 1000)
    (q : ∀ (s : Sto) (b : Nat) (rows : List Row), Dig m st s → st.length ≤ b → s[b]? = some (.lst (rows.map rowV)) → rows.length ≤ 12 → (∀ r ∈ rows, RowOk count r) → Q (.ref b) s) : (callF tab (n + 2) g_law_book_by [.ref m, .int count] st).Is Q := by
  obtain ⟨x, hx⟩ := hm
  refine call_is rfl rfl ?_; simp only [List.map_cons, List.map_nil, List.cons_append, List.nil_append, List.replicate_succ, List.replicate_zero, Nat.reduceSub]
  simp! [c_law_book_by]
  have g0 := get_push st (AO.lst [])
  have x0 := Ext.push st (AO.lst [])
  have hml := get_lt hx
  have d0 : Dig m st (st ++ [AO.lst []]) := Dig.of hx x0
  generalize st ++ [AO.lst []] = s0 at g0 x0 d0 ⊢
  refine digit_ok d0.2.1 (by decide) (by decide) fun B s1 hB0 hB1 d1 => ?_
  rw [ir_1 (by omega) (by omega)]
  rw [intsFrom_0]
  have g1 := d1.1 _ _ (show st.length ≠ m by omega) g0
  refine for_is (fun k e s => ∃ (rows : List Row) (z3 z4 z5 : Option AV), e = [some (.ref m), some (.int count), some (.ref st.length), z3, z4, z5, none] ∧ Dig m st s ∧ s[st.length]? = some (.lst (rows.map rowV)) ∧ rows.length = k ∧ (∀ r ∈ rows, RowOk count r)) _ 0 _ _ ⟨[], _, _, _, rfl, d0.trans d1, g1, rfl, fun r h => by cases h⟩ (fun i y e s hy hI => ?_) fun e s hI => ?_
  · obtain ⟨rows, z3, z4, z5, rfl, hd, hb, hl, hr⟩ := hI
    rw [List.getElem?_map] at hy
    obtain ⟨y1, hy1, rfl⟩ := Option.map_eq_some_iff.mp hy
    have hi := (List.getElem?_eq_some_iff.mp hy1).1
    rw [List.length_range] at hi
    refine ⟨rfl, _, rfl, ?_⟩
    simp only [bindT, bindT.go, wipeA, List.set_cons_zero, List.set_cons_succ]
    unfold c_law_book_by_2
    rw [ws_asg]
    refine pat_by hd.2.1 fun p s2 hp d2 => ?_
    have hb2 := d2.1 _ _ (show st.length ≠ m by omega) hb
    simp only [↓set_0, ↓set_1, ↓ws_asg]
    refine opt_by d2.2.1 hc fun o1 s3 h1 d3 => ?_
    have hb3 := d3.1 _ _ (show st.length ≠ m by omega) hb2
    simp only [↓set_0, ↓set_1, ↓ws_expr, ↓i_meth, ↓i_var, ↓slot_0, ↓slot_1, ↓i_methL hb3 (show 0 ≤ 6 by decide), ↓i_cons, ↓i_tup]
    refine opt_by d3.2.1 hc fun o2 s4 h2 d4 => ?_
    have hb4 := d4.1 _ _ (show st.length ≠ m by omega) hb3
    have hl4 : (rows.map rowV).length < lim := by rw [List.length_map]; unfold lim; omega
    simp! [↓im_app hb4 hl4]
    have e5 : rows.map rowV ++ [AV.tup [AV.str p, optV o1, optV o2]] = (rows ++ [(p, o1, o2)]).map rowV := by rw [List.map_append]; rfl
    rw [e5]
    refine ⟨rows ++ [(p, o1, o2)], _, _, _, rfl, (hd.trans (d2.trans (d3.trans d4))).newset (Nat.le_refl _) (by omega), get_set hb4, by rw [List.length_append, hl]; rfl, fun r h => ?_⟩
    rcases List.mem_append.mp h with h | h
    · exact hr r h
    · rw [List.mem_singleton.mp h]; exact ⟨hp, h1, h2⟩
  · obtain ⟨rows, z3, z4, z5, rfl, hd, hb, hl, hr⟩ := hI
    rw [Nat.zero_add, List.length_map, List.length_range] at hl
    refine ⟨rfl, ?_⟩
    simp! [if_true]
    exact q s _ rows hd (Nat.le_refl _) hb (by omega) hr
end L3

/-! LNet: nets. -/
namespace L3
open PySem L2

/-! ### dicts -/
section
variable {κ : Type} [DecidableEq κ]
theorem getK_map (k k' : κ) (v : AV) : ∀ kvs : List (κ × AV), hasK k kvs = true → getK k' (kvs.map fun p => if p.1 = k then (p.1, v) else p) = if k' = k then some v else getK k' kvs
  | [], h => by cases h
  | p :: kvs, h => by
    by_cases e : p.1 = k
    · by_cases e2 : k' = k
      · subst e2
        simp [getK, e]
      · have e3 : ¬ p.1 = k' := fun z => e2 (by rw [← z, e])
        rw [if_neg e2]
        by_cases h2 : hasK k kvs = true
        · have ih := getK_map k k' v kvs h2
          rw [if_neg e2] at ih
          simp only [getK, List.map_cons, if_pos e, List.find?_cons, e3, decide_false] at ih ⊢
          exact ih
        · have h3 : kvs.map (fun p => if p.1 = k then (p.1, v) else p) = kvs := by
            conv => rhs; rw [← List.map_id kvs]
            apply List.map_congr_left
            intro q hq
            have : ¬ q.1 = k := fun z => h2 (List.any_eq_true.mpr ⟨q, hq, decide_eq_true z⟩)
            rw [if_neg this]
            rfl
          rw [List.map_cons, if_pos e, h3]
          simp [getK, e3]
    · have h2 : hasK k kvs = true := by
        unfold hasK at h ⊢
        rw [List.any_cons, decide_eq_false e, Bool.false_or] at h
        exact h
      have ih := getK_map k k' v kvs h2
      rw [List.map_cons, if_neg e]
      by_cases e2 : p.1 = k'
      · have e3 : ¬ k' = k := fun z => e (by rw [e2, z])
        rw [if_neg e3]
        simp [getK, e2]
      · simp only [getK, List.find?_cons, e2, decide_false] at ih ⊢
        exact ih
theorem getK_no {k : κ} {kvs : List (κ × AV)} (h : hasK k kvs = false) : getK k kvs = none := by
  unfold getK
  rw [List.find?_eq_none.mpr]
  · rfl
  · intro p hp z
    have : hasK k kvs = true := List.any_eq_true.mpr ⟨p, hp, z⟩
    rw [h] at this
    exact Bool.false_ne_true this
theorem hasK_get {k : κ} {kvs : List (κ × AV)} : hasK k kvs = (getK k kvs).isSome := by
  unfold hasK getK
  rw [Option.isSome_map, List.isSome_find?]
theorem getK_put (k k' : κ) (v : AV) (kvs : List (κ × AV)) : getK k' (putK k v kvs) = if k' = k then some v else getK k' kvs := by
  unfold putK
  by_cases h : hasK k kvs = true
  · rw [if_pos h]; exact getK_map k k' v kvs h
  · rw [if_neg h]
    have h' : hasK k kvs = false := Bool.eq_false_iff.mpr h
    by_cases e : k' = k
    · subst e
      rw [if_pos rfl]
      have z := List.find?_eq_none.mp (show kvs.find? (fun p => decide (p.1 = k')) = none by
        have := getK_no h'
        unfold getK at this
        exact Option.map_eq_none_iff.mp this)
      unfold getK
      rw [List.find?_append, List.find?_eq_none.mpr z]
      simp
    · rw [if_neg e]
      unfold getK
      rw [List.find?_append]
      have : ([(k, v)] : List (κ × AV)).find? (fun p => decide (p.1 = k')) = none := by simp [Ne.symm e]
      rw [this]
      simp
theorem put_len (k : κ) (v : AV) (kvs : List (κ × AV)) : (putK k v kvs).length ≤ kvs.length + 1 := by
  unfold putK
  split
  · rw [List.length_map]; omega
  · rw [List.length_append]; exact Nat.le_refl _
end
def doorK (d : Door) : List Key := [.inl d.1, .inl d.2]
theorem keyT_door (d : Door) : keyT (doorV d) = some (doorK d) := rfl
theorem doorK_inj {a b : Door} : doorK a = doorK b ↔ a = b := by
  obtain ⟨a1, a2⟩ := a
  obtain ⟨b1, b2⟩ := b
  simp [doorK]

/-! ### nets -/
abbrev Tbl := List (List Key × AV)
def stepF (t : Tbl) (w : Wire) : Tbl := putK (doorK w.2) (doorV w.1) (putK (doorK w.1) (doorV w.2) t)
def tblF (ws : List Wire) : Tbl := ws.foldl stepF []
def beyS (d : Door) (o : Option Door) (w : Wire) : Option Door := if d = w.2 then some w.1 else if d = w.1 then some w.2 else o
/-- the other door of a wire -/
def beyF (ws : List Wire) (d : Door) : Option Door := ws.foldl (beyS d) none
theorem tblF_get (d : Door) : ∀ (ws : List Wire) (t : Tbl) (o : Option Door), getK (doorK d) t = o.map doorV → getK (doorK d) (ws.foldl stepF t) = (ws.foldl (beyS d) o).map doorV
  | [], t, o, h => h
  | w :: ws, t, o, h => by
    refine tblF_get d ws (stepF t w) (beyS d o w) ?_
    unfold stepF beyS
    rw [getK_put, getK_put]
    by_cases h1 : d = w.2
    · subst h1; simp
    · rw [if_neg (fun z => h1 (doorK_inj.mp z)), if_neg h1]
      by_cases h2 : d = w.1
      · subst h2; simp
      · rw [if_neg (fun z => h2 (doorK_inj.mp z)), if_neg h2, h]
theorem tbl_get (ws : List Wire) (d : Door) : getK (doorK d) (tblF ws) = (beyF ws d).map doorV := tblF_get d ws [] none rfl
theorem tbl_has (ws : List Wire) (d : Door) : hasK (doorK d) (tblF ws) = (beyF ws d).isSome := by
  rw [hasK_get, tbl_get, Option.isSome_map]
theorem step_len (t : Tbl) (w : Wire) : (stepF t w).length ≤ t.length + 2 := by
  have h1 := put_len (doorK w.1) (doorV w.2) t
  have h2 := put_len (doorK w.2) (doorV w.1) (putK (doorK w.1) (doorV w.2) t)
  unfold stepF
  omega
theorem tbl_len : ∀ (ws : List Wire) (t : Tbl), (ws.foldl stepF t).length ≤ t.length + 2 * ws.length
  | [], t => Nat.le_refl _
  | w :: ws, t => by
    have := tbl_len ws (stepF t w)
    have h1 := step_len t w
    rw [List.length_cons]
    show (List.foldl stepF (stepF t w) ws).length ≤ _
    omega
/-- a net's object -/
def NetIns (st : Sto) (n a b d : Nat) (cs : List Int) (ws : List Wire) : Prop :=
  st[n]? = some (.ins 10 [(22, .int (cs.length : Nat)), (26, .ref a), (27, .ref b), (28, .ref d)]) ∧ st[a]? = some (.lst (cs.map AV.int)) ∧ st[b]? = some (.lst (ws.map wireV)) ∧ st[d]? = some (.dT (tblF ws))
def NetAt (st : Sto) (n : Nat) (cs : List Int) (ws : List Wire) : Prop := ∃ a b d, NetIns st n a b d cs ws
theorem NetAt.ext {st st' : Sto} {n : Nat} {cs : List Int} {ws : List Wire} (h : NetAt st n cs ws) (x : Ext st st') : NetAt st' n cs ws := by
  obtain ⟨a, b, d, h1, h2, h3, h4⟩ := h
  exact ⟨a, b, d, x _ _ h1, x _ _ h2, x _ _ h3, x _ _ h4⟩
theorem fld_is {st : Sto} {n c f : Nat} {fs : List (Nat × AV)} {v : AV} {Q : AV → Sto → Prop} (h : st[n]? = some (.ins c fs)) (k : tab.fl c f = true) (l : fs.lookup f = some v) : (fldA tab (.ref n) f st).Is Q = Q v st := by
  unfold fldA
  dsimp only
  rw [h]
  dsimp only
  rw [if_pos k, l]
  rfl
theorem sel_is {st : Sto} {n c m g : Nat} {fs : List (Nat × AV)} {r : R (List AV)} {f : CallF} {Q : AV → Sto → Prop} (h : st[n]? = some (.ins c fs)) (k : tab.mt c m = some g) (l : fs.lookup m = none) :
    ((selA tab m (.ref n) st).ok (r.bind fun xs st1 => methA f (selA tab m (.ref n) st) m (.ref n) xs st1)).Is Q = r.Is fun xs st1 => (f g (.ref n :: xs) st1).Is Q := by
  have e : selA tab m (.ref n) st = .own g := by
    unfold selA
    dsimp only
    rw [h]
    dsimp only
    rw [k, l]
  rw [e]
  exact i_sel
theorem whole_i {n : Nat} {st : Sto} {i : Int} {Q : AV → Sto → Prop} (q : Q (.bl true) st) : (callF tab (n + 1) g_is_whole [.int i] st).Is Q := by
  refine call_is rfl rfl ?_; simp only [List.map_cons, List.map_nil, List.cons_append, List.nil_append, List.replicate_succ, List.replicate_zero, Nat.reduceSub]
  simp! [c_is_whole]
  exact q
def cntOk (c : Int) : Bool := decide (1 ≤ c) && decide (c ≤ 4)
theorem counts_is {n : Nat} {st : Sto} {a : Nat} {cs : List Int} {Q : AV → Sto → Prop} (ha : st[a]? = some (.lst (cs.map AV.int))) (h1 : 1 ≤ cs.length) (h2 : cs.length ≤ 6) (hc : ∀ c ∈ cs, 1 ≤ c ∧ c ≤ 4) (q : ∀ s, Ext st s → Q (.bl true) s) : (callF tab (n + 2) g_are_counts [.ref a] st).Is Q := by
  refine call_is rfl rfl ?_; simp only [List.map_cons, List.map_nil, List.cons_append, List.nil_append, List.replicate_succ, List.replicate_zero, Nat.reduceSub]
  simp! [c_are_counts, ↓wt_lst ha, ↓il_len ha, List.length_map, ↓iw_lst ha]
  have e1 : (1 : Int) ≤ (cs.length : Nat) := by omega
  have e2 : ((cs.length : Nat) : Int) ≤ 6 := by omega
  have done : (lcL (Tg.nm 1) (Wk.ck { xs := cs.map AV.int, at1 := some (a, AO.lst (cs.map AV.int)) }) (fun e st => evAnd tab (callF tab (n + 1)) (lev tab (n + 1)).2 .nil e st) (fun e st => ev tab (callF tab (n + 1)) (lev tab (n + 1)).2 c_are_counts_1 e st) (wipeA [some (.ref a), none] [1]) (cs.map AV.int) [] st).Is fun acc st => (callB .all [.ref st.length] (st ++ [AO.lst acc])).Is Q := by
    refine lc_m (w := { xs := cs.map AV.int, at1 := some (a, AO.lst (cs.map AV.int)) }) cs AV.int (fun _ => .bl true) rfl (ck_lst ha) (by unfold lim; omega) (fun c hcm => ⟨_, rfl, fun s hs => ?_⟩) fun s hs => ?_
    · have := hc c hcm
      simp only [bindT, bindT.go, wipeA, List.set_cons_zero, List.set_cons_succ]
      simp! [c_are_counts_1]
      refine whole_i ?_
      have e3 : (1 : Int) ≤ c := this.1
      have e4 : c ≤ 4 := this.2
      simp! [e3, e4]
      exact Ext.refl _
    · rw [i_all (get_push _ _), all_t]
      exact q _ (hs.trans (Ext.push _ _))
  simp only [e1, e2, if_true, decide_true]
  exact done
/-- a door of the houses -/
def isDoor (cs : List Int) (d : Door) : Bool := decide (0 ≤ d.1) && decide (d.1 < cs.length) && decide (0 ≤ d.2) && decide (d.2 < cs.getD d.1.toNat 0)
theorem doorOf_is {n : Nat} {st : Sto} {a : Nat} {cs : List Int} {d : Door} {Q : AV → Sto → Prop} (ha : st[a]? = some (.lst (cs.map AV.int))) (q : Q (.bl (isDoor cs d)) st) : (callF tab (n + 2) g_is_door_of [doorV d, .ref a] st).Is Q := by
  obtain ⟨h, i⟩ := d
  show (callF tab (n + 2) g_is_door_of [.tup [.int h, .int i], .ref a] st).Is Q
  have i0 : L2.ixN [AV.int h, AV.int i].length 0 = some 0 := rfl
  have i1 : L2.ixN [AV.int h, AV.int i].length 1 = some 1 := rfl
  refine call_is rfl rfl ?_; simp only [List.map_cons, List.map_nil, List.cons_append, List.nil_append, List.replicate_succ, List.replicate_zero, Nat.reduceSub]
  simp! [c_is_door_of, ↓iix_t i0 rfl, ↓iix_t i1 rfl]
  refine whole_i ?_
  simp! [↓iix_t i1 rfl]
  refine whole_i ?_
  simp! [↓iix_t i0 rfl, ↓iix_t i1 rfl, ↓il_len ha, List.length_map]
  by_cases h0 : 0 ≤ h
  · by_cases h1 : h < (cs.length : Nat)
    · simp! [h0, h1]
      rw [ix_ints ha h0 h1]
      simp! [if_true]
      by_cases h2 : 0 ≤ i
      · have e : isDoor cs (h, i) = decide (i < cs.getD h.toNat 0) := by simp [isDoor, h0, h1, h2]
        rw [e] at q
        by_cases h3 : i < cs.getD h.toNat 0
        · rw [decide_eq_true h3] at q
          simp! [h2, h3]
          exact q
        · rw [decide_eq_false h3] at q
          simp! [h2, h3]
          exact q
      · have e : isDoor cs (h, i) = false := by simp [isDoor, h2]
        rw [e] at q
        simp! [h2]
        exact q
    · have e : isDoor cs (h, i) = false := by simp [isDoor, h1]
      rw [e] at q
      simp! [h0, h1]
      exact q
  · have e : isDoor cs (h, i) = false := by simp [isDoor, h0]
    rw [e] at q
    simp! [h0]
    exact q
theorem inA_dT {st : Sto} {n : Nat} {kvs : Tbl} {d : Door} (h : st[n]? = some (.dT kvs)) : inA st (doorV d) (.ref n) = some (hasK (doorK d) kvs) := by
  unfold inA
  dsimp only
  rw [h]
  dsimp only
  rw [keyT_door]
theorem ws_setD {st : Sto} {n : Nat} {kvs : Tbl} {d : Door} {v : AV} {g : Sto → SR} {N : Slots → Sto → Prop} {Tr : AV → Sto → Prop} (h : st[n]? = some (.dT kvs)) (hl : kvs.length < lim) : (SR.of (setI (.ref n) (doorV d) v st) g).Is N Tr = (g (st.set n (.dT (putK (doorK d) v kvs)))).Is N Tr := by
  unfold setI
  dsimp only
  rw [h]
  dsimp only
  rw [keyT_door]
  dsimp only
  rw [if_pos hl]
  rfl
theorem has_put (k k' : List Key) (v : AV) (kvs : Tbl) : hasK k' (putK k v kvs) = (decide (k' = k) || hasK k' kvs) := by
  rw [hasK_get, getK_put, hasK_get]
  by_cases e : k' = k
  · rw [if_pos e, decide_eq_true e]; rfl
  · rw [if_neg e, decide_eq_false e, Bool.false_or]
theorem wires_1 {n : Nat} {s : Sto} {N : Slots → Sto → Prop} {Tr : AV → Sto → Prop} {a sd : Nat} {cs : List Int} {d : Door} {kvs : Tbl} {v0 z3 : Option AV} (ha : s[a]? = some (.lst (cs.map AV.int))) (hs : s[sd]? = some (.dT kvs)) (hk : hasK (doorK d) kvs = false) (hd : isDoor cs d = true) (hl : kvs.length < lim)
    (q : N [v0, some (.ref a), some (.ref sd), z3, some (doorV d)] (s.set sd (.dT (putK (doorK d) (.bl true) kvs)))) :
    (exS tab (callF tab (n + 2)) (lev tab (n + 2)).2 c_are_wires_1 [v0, some (.ref a), some (.ref sd), z3, some (doorV d)] s).Is N Tr := by
  simp! [c_are_wires_1]
  refine doorOf_is ha ?_
  rw [hd]
  have e := inA_dT (d := d) hs
  rw [hk] at e
  simp! [↓ic_in e]
  rw [ws_setD hs hl]
  exact q
theorem wires_is {n : Nat} {st : Sto} {a b : Nat} {cs : List Int} {ws : List Wire} {Q : AV → Sto → Prop} (ha : st[a]? = some (.lst (cs.map AV.int))) (hb : st[b]? = some (.lst (ws.map wireV))) (hd : ∀ d ∈ endsOf ws, isDoor cs d = true) (hn : (endsOf ws).Nodup) (hl : ws.length ≤ 1000) (q : ∀ s, Ext st s → Q (.bl true) s) : (callF tab (n + 3) g_are_wires [.ref b, .ref a] st).Is Q := by
  refine call_is rfl rfl ?_; simp only [List.map_cons, List.map_nil, List.cons_append, List.nil_append, List.replicate_succ, List.replicate_zero, Nat.reduceSub]
  simp! [c_are_wires, ↓wt_lst hb]
  have g0 := get_push st (AO.dT [])
  have x0 := Ext.push st (AO.dT [])
  generalize st ++ [AO.dT []] = s0 at g0 x0 ⊢
  rw [iw_lst (x0 _ _ hb)]
  refine for_is (fun k e s => ∃ (z3 z4 : Option AV) (kvs : Tbl), e = [some (.ref b), some (.ref a), some (.ref st.length), z3, z4] ∧ Ext st s ∧ s[st.length]? = some (.dT kvs) ∧ kvs.length ≤ 2 * k ∧ k ≤ ws.length ∧ ∀ d, hasK (doorK d) kvs = decide (d ∈ endsOf (ws.take k))) _ 0 _ _ ⟨_, _, [], rfl, x0, g0, Nat.le_refl _, Nat.zero_le _, fun d => by simp [endsOf, hasK]⟩ (fun i y e s hy hI => ?_) fun e s hI => ?_
  · obtain ⟨z3, z4, kvs, rfl, hE, hs, hkl, hk, hh⟩ := hI
    rw [Nat.zero_add] at hkl hk hh
    rw [List.getElem?_map] at hy
    obtain ⟨w, hw, rfl⟩ := Option.map_eq_some_iff.mp hy
    have hi := (List.getElem?_eq_some_iff.mp hw).1
    refine ⟨ck_lst (hE _ _ hb), _, rfl, ?_⟩
    have tk : ws.take (i + 1) = ws.take i ++ [w] := by rw [List.take_add_one, hw]; rfl
    have sp : endsOf ws = endsOf (ws.take (i + 1)) ++ endsOf (ws.drop (i + 1)) := by
      unfold endsOf
      rw [← List.flatMap_append, List.take_append_drop]
    rw [tk, ends_snoc] at sp
    have m1 : w.1 ∈ endsOf ws := by rw [sp]; simp
    have m2 : w.2 ∈ endsOf ws := by rw [sp]; simp
    have nd : w.1 ∉ endsOf (ws.take i) ∧ w.2 ∉ endsOf (ws.take i) ∧ w.1 ≠ w.2 := by
      rw [sp, List.append_assoc] at hn
      have h1 := List.nodup_append.mp hn
      have h2 := h1.2.1
      have h3 := h1.2.2
      refine ⟨fun z => h3 _ z _ (by simp) rfl, fun z => h3 _ z _ (by simp) rfl, fun z => ?_⟩
      rw [z] at h2
      simp at h2
    simp only [bindT, bindT.go, wipeA, List.set_cons_zero, List.set_cons_succ]
    simp! [c_are_wires_2]
    have hwt : (R.ofB (isA tab .tuple (wireV w) s) s) = .ok (.bl true) s := rfl
    rw [hwt]
    have e2 : ∀ Q : AV → Sto → Prop, (callB .len [wireV w] s).Is Q = Q (.int 2) s := fun Q => rfl
    simp! [↓e2]
    have e3 : ∀ QW : Wk → Sto → Prop, (wkA (srcA s (wireV w)) s).Is QW = QW ⟨[doorV w.1, doorV w.2], none, none⟩ s := fun QW => rfl
    rw [e3]
    have hml := get_lt hs
    refine for_cons rfl rfl ?_
    simp only [bindT, bindT.go, wipeA, List.set_cons_zero, List.set_cons_succ]
    refine wires_1 (hE _ _ ha) hs (by rw [hh, decide_eq_false nd.1]) (hd _ m1) (by unfold lim; omega) ?_
    have hs1 := get_set (o := AO.dT (putK (doorK w.1) (.bl true) kvs)) hs
    have hE1 : Ext st (s.set st.length (.dT (putK (doorK w.1) (.bl true) kvs))) := Ext.set hE (Nat.le_refl _)
    have pl := put_len (doorK w.1) (.bl true) kvs
    have hh1 : ∀ d, hasK (doorK d) (putK (doorK w.1) (.bl true) kvs) = (decide (d = w.1) || decide (d ∈ endsOf (ws.take i))) := fun d => by
      rw [has_put, hh]
      congr 1
      rw [decide_eq_decide]
      exact doorK_inj
    generalize s.set st.length (.dT (putK (doorK w.1) (.bl true) kvs)) = s1 at hs1 hE1 ⊢
    generalize putK (doorK w.1) (.bl true) kvs = kvs1 at hs1 pl hh1
    refine for_cons rfl rfl ?_
    simp only [bindT, bindT.go, wipeA, List.set_cons_zero, List.set_cons_succ]
    refine wires_1 (hE1 _ _ ha) hs1 (by rw [hh1, decide_eq_false nd.2.1, decide_eq_false (Ne.symm nd.2.2)]; rfl) (hd _ m2) (by unfold lim; omega) ?_
    have pl2 := put_len (doorK w.2) (.bl true) kvs1
    refine for_nil rfl ?_
    simp! [if_true]
    refine ⟨_, _, putK (doorK w.2) (.bl true) kvs1, rfl, Ext.set hE1 (Nat.le_refl _), get_set hs1, by omega, by omega, fun d => ?_⟩
    rw [has_put, hh1, show 0 + i + 1 = i + 1 by omega, tk, ends_snoc, Bool.eq_iff_iff]
    simp only [Bool.or_eq_true, decide_eq_true_eq, List.mem_append, List.mem_cons, List.not_mem_nil, or_false, doorK_inj]
    constructor
    · rintro (h | h | h)
      · exact .inr (.inr h)
      · exact .inr (.inl h)
      · exact .inl h
    · rintro (h | h | h)
      · exact .inr (.inr h)
      · exact .inr (.inl h)
      · exact .inl h
  · obtain ⟨z3, z4, kvs, rfl, hE, hs, hkl, hk, hh⟩ := hI
    refine ⟨ck_lst (hE _ _ hb), ?_⟩
    simp! [if_true]
    exact q s hE
theorem ws_setF {st : Sto} {n c f : Nat} {fs : List (Nat × AV)} {v : AV} {g : Sto → SR} {N : Slots → Sto → Prop} {Tr : AV → Sto → Prop} (h : st[n]? = some (.ins c fs)) (k : tab.fl c f = true) (hl : fs.length < 900) : (SR.of (setF tab (.ref n) f v st) g).Is N Tr = (g (st.set n (.ins c (putA f v fs)))).Is N Tr := by
  unfold setF
  dsimp only
  rw [h]
  dsimp only
  rw [if_pos ⟨k, hl⟩]
  rfl
structure NetWf (cs : List Int) (ws : List Wire) : Prop where
  len1 : 1 ≤ cs.length
  len2 : cs.length ≤ 6
  cnt : ∀ c ∈ cs, 1 ≤ c ∧ c ≤ 4
  doors : ∀ d ∈ endsOf ws, isDoor cs d = true
  nodup : (endsOf ws).Nodup
  wl : ws.length ≤ 12
theorem init_is {n : Nat} {st : Sto} {m a b : Nat} {cs : List Int} {ws : List Wire} {Q : AV → Sto → Prop} (W : NetWf cs ws) (hm : st[m]? = some (.ins 10 [])) (ha : st[a]? = some (.lst (cs.map AV.int))) (hb : st[b]? = some (.lst (ws.map wireV)))
    (q : ∀ (s : Sto) (a2 b2 d : Nat), (∀ i u, i ≠ m → st[i]? = some u → s[i]? = some u) → st.length ≤ a2 → st.length ≤ b2 → st.length ≤ d → NetIns s m a2 b2 d cs ws → Q .non s) : (callF tab (n + 4) g_Net___init [.ref m, .ref a, .ref b] st).Is Q := by
  have hml := get_lt hm
  have ham : a ≠ m := fun e => by rw [e, hm] at ha; cases ha
  have hbm : b ≠ m := fun e => by rw [e, hm] at hb; cases hb
  refine call_is rfl rfl ?_; simp only [List.map_cons, List.map_nil, List.cons_append, List.nil_append, List.replicate_succ, List.replicate_zero, Nat.reduceSub]
  simp! [c_Net___init]
  refine counts_is ha W.len1 W.len2 W.cnt fun s1 h1 => ?_
  simp! [if_true]
  refine wires_is (h1 _ _ ha) (h1 _ _ hb) W.doors W.nodup (by have := W.wl; omega) fun s2 h2 => ?_
  have hE := h1.trans h2
  have ha2 := hE _ _ ha
  simp! [↓il_len ha2, List.length_map]
  rw [ws_setF (hE _ _ hm) rfl (by decide)]
  have k1 := get_set (o := AO.ins 10 [(22, .int (cs.length : Nat))]) (hE _ _ hm)
  have ka1 := get_set_o (o := AO.ins 10 [(22, .int (cs.length : Nat))]) ha2 ham
  have kb1 := get_set_o (o := AO.ins 10 [(22, .int (cs.length : Nat))]) (hE _ _ hb) hbm
  have E1 : ∀ i u, i ≠ m → st[i]? = some u → (s2.set m (.ins 10 [(22, .int (cs.length : Nat))]))[i]? = some u := fun i u h z => get_set_o (hE _ _ z) h
  have l1 : st.length ≤ (s2.set m (.ins 10 [(22, .int (cs.length : Nat))])).length := by rw [List.length_set]; exact hE.lt
  show (exS tab _ _ _ _ (s2.set m (.ins 10 [(22, .int (cs.length : Nat))]))).Is _ _
  generalize s2.set m (.ins 10 [(22, .int (cs.length : Nat))]) = s3 at k1 ka1 kb1 E1 l1 ⊢
  simp! [↓il_listL ka1]
  have x1 := Ext.push s3 (AO.lst (cs.map AV.int))
  have g1 := get_push s3 (AO.lst (cs.map AV.int))
  have la2 : st.length ≤ s3.length := l1
  have na2 : s3.length ≠ m := by omega
  rw [ws_setF (x1 _ _ k1) rfl (by simp)]
  show (exS tab _ _ _ _ ((s3 ++ [AO.lst (cs.map AV.int)]).set m (.ins 10 [(22, .int (cs.length : Nat)), (26, .ref s3.length)]))).Is _ _
  have k2 := get_set (o := AO.ins 10 [(22, .int (cs.length : Nat)), (26, .ref s3.length)]) (x1 _ _ k1)
  have kb2 := get_set_o (o := AO.ins 10 [(22, .int (cs.length : Nat)), (26, .ref s3.length)]) (x1 _ _ kb1) hbm
  have kg2 := get_set_o (o := AO.ins 10 [(22, .int (cs.length : Nat)), (26, .ref s3.length)]) g1 na2
  have E2 : ∀ i u, i ≠ m → st[i]? = some u → ((s3 ++ [AO.lst (cs.map AV.int)]).set m (.ins 10 [(22, .int (cs.length : Nat)), (26, .ref s3.length)]))[i]? = some u := fun i u h z => get_set_o (x1 _ _ (E1 i u h z)) h
  have l2 : st.length ≤ ((s3 ++ [AO.lst (cs.map AV.int)]).set m (.ins 10 [(22, .int (cs.length : Nat)), (26, .ref s3.length)])).length := by rw [List.length_set, List.length_append]; omega
  generalize (s3 ++ [AO.lst (cs.map AV.int)]).set m (.ins 10 [(22, .int (cs.length : Nat)), (26, .ref s3.length)]) = s4 at k2 kb2 kg2 E2 l2 ⊢
  generalize s3.length = a2 at *
  simp! [↓il_listL kb2]
  have x2 := Ext.push s4 (AO.lst (ws.map wireV))
  have g2 := get_push s4 (AO.lst (ws.map wireV))
  have nb2 : s4.length ≠ m := by omega
  rw [ws_setF (x2 _ _ k2) rfl (by simp)]
  show (exS tab _ _ _ _ ((s4 ++ [AO.lst (ws.map wireV)]).set m (.ins 10 [(22, .int (cs.length : Nat)), (26, .ref a2), (27, .ref s4.length)]))).Is _ _
  have k3 := get_set (o := AO.ins 10 [(22, .int (cs.length : Nat)), (26, .ref a2), (27, .ref s4.length)]) (x2 _ _ k2)
  have kb3 := get_set_o (o := AO.ins 10 [(22, .int (cs.length : Nat)), (26, .ref a2), (27, .ref s4.length)]) (x2 _ _ kb2) hbm
  have kg3 := get_set_o (o := AO.ins 10 [(22, .int (cs.length : Nat)), (26, .ref a2), (27, .ref s4.length)]) (x2 _ _ kg2) na2
  have kh3 := get_set_o (o := AO.ins 10 [(22, .int (cs.length : Nat)), (26, .ref a2), (27, .ref s4.length)]) g2 nb2
  have E3 : ∀ i u, i ≠ m → st[i]? = some u → ((s4 ++ [AO.lst (ws.map wireV)]).set m (.ins 10 [(22, .int (cs.length : Nat)), (26, .ref a2), (27, .ref s4.length)]))[i]? = some u := fun i u h z => get_set_o (x2 _ _ (E2 i u h z)) h
  have l3 : st.length ≤ ((s4 ++ [AO.lst (ws.map wireV)]).set m (.ins 10 [(22, .int (cs.length : Nat)), (26, .ref a2), (27, .ref s4.length)])).length := by rw [List.length_set, List.length_append]; omega
  have lb2 : st.length ≤ s4.length := l2
  generalize (s4 ++ [AO.lst (ws.map wireV)]).set m (.ins 10 [(22, .int (cs.length : Nat)), (26, .ref a2), (27, .ref s4.length)]) = s5 at k3 kb3 kg3 kh3 E3 l3 ⊢
  generalize s4.length = b2 at *
  simp! [if_true]
  have x3 := Ext.push s5 (AO.dT [])
  have g3 := get_push s5 (AO.dT [])
  have nd2 : s5.length ≠ m := by omega
  rw [ws_setF (x3 _ _ k3) rfl (by simp)]
  show (exS tab _ _ _ _ ((s5 ++ [AO.dT []]).set m (.ins 10 [(22, .int (cs.length : Nat)), (26, .ref a2), (27, .ref b2), (28, .ref s5.length)]))).Is _ _
  have k4 := get_set (o := AO.ins 10 [(22, .int (cs.length : Nat)), (26, .ref a2), (27, .ref b2), (28, .ref s5.length)]) (x3 _ _ k3)
  have kb4 := get_set_o (o := AO.ins 10 [(22, .int (cs.length : Nat)), (26, .ref a2), (27, .ref b2), (28, .ref s5.length)]) (x3 _ _ kb3) hbm
  have kg4 := get_set_o (o := AO.ins 10 [(22, .int (cs.length : Nat)), (26, .ref a2), (27, .ref b2), (28, .ref s5.length)]) (x3 _ _ kg3) na2
  have kh4 := get_set_o (o := AO.ins 10 [(22, .int (cs.length : Nat)), (26, .ref a2), (27, .ref b2), (28, .ref s5.length)]) (x3 _ _ kh3) nb2
  have kd4 := get_set_o (o := AO.ins 10 [(22, .int (cs.length : Nat)), (26, .ref a2), (27, .ref b2), (28, .ref s5.length)]) g3 nd2
  have E4 : ∀ i u, i ≠ m → st[i]? = some u → ((s5 ++ [AO.dT []]).set m (.ins 10 [(22, .int (cs.length : Nat)), (26, .ref a2), (27, .ref b2), (28, .ref s5.length)]))[i]? = some u := fun i u h z => get_set_o (x3 _ _ (E3 i u h z)) h
  have ld2 : st.length ≤ s5.length := l3
  generalize (s5 ++ [AO.dT []]).set m (.ins 10 [(22, .int (cs.length : Nat)), (26, .ref a2), (27, .ref b2), (28, .ref s5.length)]) = s6 at k4 kb4 kg4 kh4 kd4 E4 ⊢
  generalize s5.length = d at *
  have da : a2 ≠ d := fun e => by rw [e, kd4] at kg4; cases kg4
  have db : b2 ≠ d := fun e => by rw [e, kd4] at kh4; cases kh4
  simp! [↓iw_lst kb4]
  refine for_is (fun k e s => ∃ z3 z4, e = [some (.ref m), some (.ref a), some (.ref b), z3, z4] ∧ (∀ i u, i ≠ m → st[i]? = some u → s[i]? = some u) ∧ s[m]? = some (.ins 10 [(22, .int (cs.length : Nat)), (26, .ref a2), (27, .ref b2), (28, .ref d)]) ∧ s[a2]? = some (.lst (cs.map AV.int)) ∧ s[b2]? = some (.lst (ws.map wireV)) ∧ s[d]? = some (.dT (tblF (ws.take k)))) _ 0 _ _ ⟨_, _, rfl, E4, k4, kg4, kh4, kd4⟩ (fun i y e s hy hI => ?_) fun e s hI => ?_
  · obtain ⟨z3, z4, rfl, hE5, hm5, ha5, hb5, hd5⟩ := hI
    rw [Nat.zero_add] at hd5
    rw [List.getElem?_map] at hy
    obtain ⟨w, hw, rfl⟩ := Option.map_eq_some_iff.mp hy
    refine ⟨ck_lst (hE5 _ _ hbm hb), _, rfl, ?_⟩
    have hfl : tab.fl 10 28 = true := rfl
    have tl := tbl_len (ws.take i) []
    rw [List.length_take] at tl
    have tl : (tblF (ws.take i)).length ≤ 24 := by have := W.wl; unfold tblF; simp at tl; omega
    simp only [bindT, bindT.go, wipeA, List.set_cons_zero, List.set_cons_succ]
    simp! [c_Net___init_1, ↓fld_is hm5 hfl rfl]
    rw [ws_setD hd5 (by unfold lim; omega)]
    have hd6 := get_set (o := AO.dT (putK (doorK w.1) (doorV w.2) (tblF (ws.take i)))) hd5
    have md : m ≠ d := fun e => by rw [e, hd5] at hm5; cases hm5
    have hm6 := get_set_o (o := AO.dT (putK (doorK w.1) (doorV w.2) (tblF (ws.take i)))) hm5 md
    have ha6 := get_set_o (o := AO.dT (putK (doorK w.1) (doorV w.2) (tblF (ws.take i)))) ha5 da
    have hb6 := get_set_o (o := AO.dT (putK (doorK w.1) (doorV w.2) (tblF (ws.take i)))) hb5 db
    have E6 : ∀ i' u, i' ≠ m → st[i']? = some u → (s.set d (.dT (putK (doorK w.1) (doorV w.2) (tblF (ws.take i)))))[i']? = some u := fun i' u h z => get_set_o (hE5 i' u h z) (by have := get_lt z; omega)
    have pl := put_len (doorK w.1) (doorV w.2) (tblF (ws.take i))
    generalize s.set d (.dT (putK (doorK w.1) (doorV w.2) (tblF (ws.take i)))) = s7 at hd6 hm6 ha6 hb6 E6 ⊢
    simp! [↓fld_is hm6 hfl rfl]
    rw [ws_setD hd6 (by unfold lim; omega)]
    simp! [if_true]
    refine ⟨_, _, rfl, fun i' u h z => get_set_o (E6 i' u h z) (by have := get_lt z; omega), get_set_o hm6 md, get_set_o ha6 da, get_set_o hb6 db, ?_⟩
    rw [get_set hd6, show 0 + i + 1 = i + 1 by omega, List.take_add_one, hw]
    show _ = some (AO.dT (tblF (ws.take i ++ [w])))
    unfold tblF
    rw [List.foldl_append]
    rfl
  · obtain ⟨z3, z4, rfl, hE5, hm5, ha5, hb5, hd5⟩ := hI
    rw [Nat.zero_add, List.length_map, List.take_length] at hd5
    refine ⟨ck_lst (hE5 _ _ hbm hb), ?_⟩
    simp! [if_true]
    exact q s a2 b2 d hE5 la2 lb2 ld2 ⟨hm5, ha5, hb5, hd5⟩
theorem mk_is {n : Nat} {st : Sto} {a b : Nat} {cs : List Int} {ws : List Wire} {Q : AV → Sto → Prop} (W : NetWf cs ws) (ha : st[a]? = some (.lst (cs.map AV.int))) (hb : st[b]? = some (.lst (ws.map wireV)))
    (q : ∀ (s : Sto) (a2 b2 d : Nat), Ext st s → st.length < a2 → st.length < b2 → st.length < d → NetIns s st.length a2 b2 d cs ws → Q (.ref st.length) s) : (mkA tab (callF tab (n + 4)) 10 [.ref a, .ref b] st).Is Q := by
  have e : mkA tab (callF tab (n + 4)) 10 [.ref a, .ref b] st = (callF tab (n + 4) g_Net___init [.ref st.length, .ref a, .ref b] (st ++ [.ins 10 []])).bind fun v st' => if v = .non then .ok (.ref st.length) st' else .no := rfl
  have x := Ext.push st (AO.ins 10 [])
  rw [e, R.is_bind]
  refine init_is W (get_push _ _) (x _ _ ha) (x _ _ hb) fun s a2 b2 d hE l1 l2 l3 hN => ?_
  rw [if_pos rfl]
  rw [List.length_append] at l1 l2 l3
  have l1 : st.length + 1 ≤ a2 := l1
  have l2 : st.length + 1 ≤ b2 := l2
  have l3 : st.length + 1 ≤ d := l3
  exact q s a2 b2 d (fun i u z => hE i u (by have := get_lt z; omega) (x _ _ z)) (by omega) (by omega) (by omega) hN
theorem i_methD {T : Tab} {f : CallF} {st : Sto} {n : Nat} {kvs : Tbl} {r : R (List AV)} {Q : AV → Sto → Prop} (h : st[n]? = some (.dT kvs)) : ((selA T 8 (.ref n) st).ok (r.bind fun xs st1 => methA f (selA T 8 (.ref n) st) 8 (.ref n) xs st1)).Is Q = r.Is fun xs st1 => (bmeth Sel.dic 8 (.ref n) xs st1).Is Q := by
  have e : selA T 8 (.ref n) st = .dic := by
    unfold selA
    dsimp only
    rw [h]
    rfl
  rw [e]
  exact R.is_bind
theorem im_get {st : Sto} {n : Nat} {kvs : Tbl} {d : Door} {Q : AV → Sto → Prop} (h : st[n]? = some (.dT kvs)) : (bmeth Sel.dic 8 (.ref n) [doorV d] st).Is Q = Q ((getK (doorK d) kvs).getD .non) st := by
  unfold bmeth
  dsimp only
  unfold dlook
  rw [h]
  dsimp only
  rw [keyT_door]
  rfl
def odV : Option Door → AV
  | none => .non
  | some d => doorV d
theorem f28 : tab.fl 10 28 = true := rfl
theorem f26 : tab.fl 10 26 = true := rfl
theorem f22 : tab.fl 10 22 = true := rfl
end L3

/-! LOk: the nets that a law makes are nets. -/
namespace L3
open PySem L2

theorem upto_nodup (n : Int) : (upto n).Nodup := by
  unfold upto
  refine List.Pairwise.map _ (fun a b (h : a ≠ b) => ?_) List.nodup_range
  omega
theorem mem_doorsUpto {cs : List Int} {d : Door} : ∀ k, d ∈ doorsUpto cs k ↔ 0 ≤ d.1 ∧ d.1 < k ∧ 0 ≤ d.2 ∧ d.2 < cs.getD d.1.toNat 0
  | 0 => by
    simp only [doorsUpto, List.not_mem_nil, false_iff]
    omega
  | k + 1 => by
    rw [doorsUpto, List.mem_append, mem_doorsUpto k]
    constructor
    · rintro (⟨h1, h2, h3, h4⟩ | h)
      · exact ⟨h1, by omega, h3, h4⟩
      · obtain ⟨i, hi, rfl⟩ := List.mem_map.mp h
        obtain ⟨h1, h2⟩ := mem_upto.mp hi
        refine ⟨Int.natCast_nonneg k, by show (k : Int) < ((k + 1 : Nat) : Int); omega, h1, ?_⟩
        show i < cs.getD (k : Int).toNat 0
        rw [Int.toNat_natCast]
        exact h2
    · rintro ⟨h1, h2, h3, h4⟩
      by_cases e : d.1 = k
      · refine .inr (List.mem_map.mpr ⟨d.2, mem_upto.mpr ⟨h3, ?_⟩, ?_⟩)
        · rw [e, Int.toNat_natCast] at h4; exact h4
        · rw [← e]
      · exact .inl ⟨h1, by omega, h3, h4⟩
theorem mem_allD {cs : List Int} {d : Door} : d ∈ allD cs ↔ isDoor cs d = true := by
  unfold allD isDoor
  rw [mem_doorsUpto]
  simp only [Bool.and_eq_true, decide_eq_true_eq]
  constructor
  · rintro ⟨h1, h2, h3, h4⟩; exact ⟨⟨⟨h1, h2⟩, h3⟩, h4⟩
  · rintro ⟨⟨⟨h1, h2⟩, h3⟩, h4⟩; exact ⟨h1, h2, h3, h4⟩
theorem doorsUpto_nodup (cs : List Int) : ∀ k, (doorsUpto cs k).Nodup
  | 0 => List.nodup_nil
  | k + 1 => by
    rw [doorsUpto, List.nodup_append]
    refine ⟨doorsUpto_nodup cs k, ?_, ?_⟩
    · refine List.Pairwise.map _ (fun a b (h : a ≠ b) e => h ?_) (upto_nodup _)
      injection e
    · intro x hx y hy e
      subst e
      obtain ⟨h1, h2, _, _⟩ := (mem_doorsUpto k).mp hx
      obtain ⟨i, _, rfl⟩ := List.mem_map.mp hy
      simp at h2
theorem NetOk.wf {most : Int} {cs : List Int} {ws : List Wire} (h : NetOk most cs ws) (hm : most ≤ 6) : NetWf cs ws := by
  obtain ⟨ds, _, hp⟩ := h.outer
  have nd : (ds ++ endsOf ws).Nodup := hp.nodup_iff.mpr (doorsUpto_nodup cs cs.length)
  exact ⟨h.len1, by have := h.len2; omega, h.cnt, fun d hd => mem_allD.mp (hp.mem_iff.mp (List.mem_append_right _ hd)), (List.nodup_append.mp nd).2.1, h.wl⟩
end L3

/-! LWir: houses, doors and wires dealt by cells. -/
namespace L3
open PySem L2

structure CntOk (cs : List Int) : Prop where
  len1 : 1 ≤ cs.length
  len2 : cs.length ≤ 6
  cnt : ∀ c ∈ cs, 1 ≤ c ∧ c ≤ 4
theorem counts_d {n : Nat} {st : Sto} {ns : List Int} {Q : AV → Sto → Prop} (q : ∀ s a cs, Ext st s → st.length ≤ a → s[a]? = some (.lst (cs.map AV.int)) → CntOk cs → Q (.ref a) s) : (callF tab (n + 2) g_law_counts [.rol ns] st).Is Q := by
  refine call_is rfl rfl ?_; simp only [List.map_cons, List.map_nil, List.cons_append, List.nil_append, List.replicate_succ, List.replicate_zero, Nat.reduceSub]
  simp! [c_law_counts]
  refine cell_is (by decide) fun c0 => ?_
  simp! [if_true]
  refine mix_is (by decide) (by decide) ?_
  simp! [if_true]
  have hm : 1 ≤ 1 + mixM c0 1 % 6 ∧ 1 + mixM c0 1 % 6 ≤ 6 := by omega
  generalize 1 + mixM c0 1 % 6 = many at hm ⊢
  rw [ir_1 (by omega) (by omega)]
  refine lc_r (List.range many.toNat) (fun k : Nat => AV.int (k : Int)) AV.int (fun _ _ y => 1 ≤ y ∧ y ≤ 4) (fun _ _ _ _ _ h => h) (intsFrom_0 _) rfl (by rw [List.length_range]; unfold lim; omega) (fun k hk => ⟨_, rfl, fun s hs => ?_⟩) fun s ys hs hl hP => ?_
  · have hk := List.mem_range.mp hk
    simp only [bindT, bindT.go, wipeA, List.set_cons_zero, List.set_cons_succ]
    simp! [c_law_counts_1]
    refine cell_is (by decide) fun c1 => ?_
    simp! [if_true]
    refine mix_is (by omega) (by omega) ?_
    simp! [if_true]
    exact ⟨_, rfl, Ext.refl _, by omega⟩
  · rw [List.length_range] at hl
    refine q _ _ ys (hs.trans (Ext.push _ _)) hs.lt (get_push _ _) ⟨by omega, by omega, fun c hc => ?_⟩
    obtain ⟨i, hi, rfl⟩ := List.getElem_of_mem hc
    exact hP i i _ (by rw [List.getElem?_range (by omega)]) (List.getElem?_eq_getElem hi)
theorem doors_d {n a : Nat} {st : Sto} {cs : List Int} {Q : AV → Sto → Prop} (ha : st[a]? = some (.lst (cs.map AV.int))) (hl : cs.length ≤ 6) (hc : ∀ c ∈ cs, 1 ≤ c ∧ c ≤ 4) (q : ∀ s r, Ext st s → st.length ≤ r → s[r]? = some (.lst ((allD cs).map doorV)) → Q (.ref r) s) : (callF tab (n + 1) g_law_doors [.ref a] st).Is Q := by
  refine call_is rfl rfl ?_; simp only [List.map_cons, List.map_nil, List.cons_append, List.nil_append, List.replicate_succ, List.replicate_zero, Nat.reduceSub]
  have x0 := Ext.push st (AO.lst [])
  have g0 := get_push st (AO.lst [])
  simp! [c_law_doors, ↓il_len (x0 _ _ ha)]
  rw [ir_1 (by rw [List.length_map]; omega) (by omega), List.length_map, Int.toNat_natCast, intsFrom_0]
  have har : a ≠ st.length := by have := get_lt ha; omega
  have hr0 : st.length ≤ st.length := Nat.le_refl _
  generalize hr1 : st.length = r at g0 har hr0 ⊢
  generalize st ++ [AO.lst []] = s0 at x0 g0 ⊢
  refine for_is (fun k e s => ∃ (z2 : Option AV), e = [some (.ref a), some (.ref r), z2, none] ∧ Ext st s ∧ s[r]? = some (.lst ((doorsUpto cs k).map doorV)) ∧ k ≤ cs.length) _ 0 _ _ ⟨_, rfl, x0, g0, Nat.zero_le _⟩ (fun i y e s hy hI => ?_) fun e s hI => ?_
  · obtain ⟨z2, rfl, hE, hr, hk⟩ := hI
    rw [Nat.zero_add] at hr hk
    rw [List.getElem?_map] at hy
    obtain ⟨y1, hy1, rfl⟩ := Option.map_eq_some_iff.mp hy
    obtain ⟨hi, e1⟩ := List.getElem?_eq_some_iff.mp hy1
    rw [List.getElem_range] at e1
    subst e1
    rw [List.length_range] at hi
    refine ⟨rfl, _, rfl, ?_⟩
    simp only [bindT, bindT.go, wipeA, List.set_cons_zero, List.set_cons_succ]
    have hD := doorsUpto_len hc i hk
    have e1 : cs.getD (i : Int).toNat 0 = cs.getD i 0 := by rw [Int.toNat_natCast]
    have b1 : 1 ≤ cs.getD i 0 ∧ cs.getD i 0 ≤ 4 := by
      rw [List.getD_eq_getElem?_getD, List.getElem?_eq_getElem hi]
      exact hc _ (List.getElem_mem hi)
    simp! [c_law_doors_2, ↓i_methL hr (show 1 ≤ 6 by decide), ↓ix_ints (hE _ _ ha) (show 0 ≤ (i : Int) by omega) (show (i : Int) < cs.length by omega)]
    rw [e1]
    have du : doorsUpto cs (i + 1) = doorsUpto cs i ++ (upto (cs.getD i 0)).map fun n => ((i : Int), n) := rfl
    generalize cs.getD i 0 = y at du b1
    rw [ir_1 (by omega) (by omega)]
    refine lc_m (upto y) .int (fun j => doorV (i, j)) (intsFrom_0 _ |>.trans (by unfold upto; rw [List.map_map]; rfl)) rfl (by rw [upto_len]; unfold lim; omega) (fun j hj => ⟨_, rfl, fun s' hs => ?_⟩) fun s2 h2 => ?_
    · simp only [bindT, bindT.go, wipeA, List.set_cons_zero, List.set_cons_succ]
      simp! [c_law_doors_1]
      exact ⟨rfl, Ext.refl _⟩
    · have g := get_push s2 (AO.lst ((upto y).map fun j => doorV (i, j)))
      have h3 := h2.trans (Ext.push s2 (AO.lst ((upto y).map fun j => doorV (i, j))))
      generalize s2 ++ [AO.lst ((upto y).map fun j => doorV (i, j))] = s3 at g h3 ⊢
      rw [im_ext (h3 _ _ hr) g (by rw [List.length_map, List.length_map, upto_len]; unfold lim; omega)]
      have e2 : (doorsUpto cs i).map doorV ++ (upto y).map (fun j => doorV (i, j)) = (doorsUpto cs (i + 1)).map doorV := by
        rw [du, List.map_append, List.map_map]; rfl
      rw [e2]
      simp! [if_true]
      exact ⟨_, rfl, Ext.set (hE.trans h3) (by omega), by rw [get_set (h3 _ _ hr), show 0 + i + 1 = i + 1 by omega], by omega⟩
  · obtain ⟨z2, rfl, hE, hr, hk⟩ := hI
    rw [List.length_map, List.length_range, Nat.zero_add] at hr
    refine ⟨rfl, ?_⟩
    simp! [if_true]
    exact q s r hE (by omega) hr
/-! ### sorting -/
def numDV (p : Int × Door) : AV := .tup [.int p.1, doorV p.2]
theorem perm_map {α β : Type} {f : α → β} : ∀ {l m : List β}, l.Perm m → ∀ P : List α, m = P.map f → ∃ P' : List α, P'.Perm P ∧ l = P'.map f := by
  intro l m h
  induction h with
  | nil =>
    intro P e
    cases P with
    | nil => exact ⟨[], List.Perm.refl _, rfl⟩
    | cons _ _ => cases e
  | cons x h ih =>
    intro P e
    cases P with
    | nil => cases e
    | cons p P =>
      rw [List.map_cons] at e
      injection e with e1 e2
      obtain ⟨P', h1, h2⟩ := ih P e2
      exact ⟨p :: P', h1.cons p, by rw [List.map_cons, e1, h2]⟩
  | swap x y l =>
    intro P e
    cases P with
    | nil => cases e
    | cons p P =>
      cases P with
      | nil => cases e
      | cons p2 P =>
        rw [List.map_cons, List.map_cons] at e
        injection e with e1 e2
        injection e2 with e3 e4
        exact ⟨p2 :: p :: P, .swap _ _ _, by rw [List.map_cons, List.map_cons, e1, e3, e4]⟩
  | trans h1 h2 ih1 ih2 =>
    intro P e
    obtain ⟨P1, a1, a2⟩ := ih2 P e
    obtain ⟨P2, b1, b2⟩ := ih1 P1 a2
    exact ⟨P2, b1.trans a1, b2⟩
theorem il_sorted {st : Sto} {r : Nat} {ys : List AV} {ds : List PyData} {Q : AV → Sto → Prop} (h : st[r]? = some (.lst ys)) (hd : oAll (pd 9 st) ys = some ds) (h1 : alikeB ds = true) (h2 : sortB ds = true) (hl : ys.length ≤ lim) : (callB .sorted [.ref r] st).Is Q = Q (.ref st.length) (st ++ [.lst (sortA st ys)]) := by
  have e : callB .sorted [.ref r] st = .ok (.ref st.length) (st ++ [.lst (sortA st ys)]) := by
    unfold callB
    dsimp only
    unfold lstA
    dsimp only
    rw [h]
    dsimp only
    rw [hd]
    dsimp only
    rw [if_pos ⟨h1, h2, hl⟩]
    rfl
  rw [e]
  rfl
theorem sortA_perm (st : Sto) (ys : List AV) : (sortA st ys).Perm ys := List.mergeSort_perm _ _
theorem sort_pairs {st : Sto} {r : Nat} {P : List (Int × Door)} {Q : AV → Sto → Prop} (h : st[r]? = some (.lst (P.map numDV))) (hl : P.length ≤ 1000) (q : ∀ P' : List (Int × Door), P'.Perm P → Q (.ref st.length) (st ++ [.lst (P'.map numDV)])) : (callB .sorted [.ref r] st).Is Q := by
  obtain ⟨P', h1, h2⟩ := perm_map (sortA_perm st (P.map numDV)) P rfl
  have hd : ∀ P : List (Int × Door), oAll (pd 9 st) (P.map numDV) = some (P.map fun p => PyData.tuple [.int p.1, doorD p.2]) := by
    intro P
    induction P with
    | nil => rfl
    | cons p P ih =>
      rw [List.map_cons, oAll, ih]
      rfl
  rw [il_sorted h (hd P) ?a ?b (by rw [List.length_map]; unfold lim; omega), h2]
  case a =>
    refine List.all_eq_true.mpr fun d hd => List.all_eq_true.mpr fun e he => ?_
    obtain ⟨p, _, rfl⟩ := List.mem_map.mp hd
    obtain ⟨q, _, rfl⟩ := List.mem_map.mp he
    simp [PySem.W.alike, PySem.W.alikeAll, doorD]
  case b =>
    unfold sortB
    rw [Bool.or_eq_true]
    refine .inl (List.all_eq_true.mpr fun d hd => ?_)
    obtain ⟨p, _, rfl⟩ := List.mem_map.mp hd
    rfl
  exact q P' h1
def pairsOf (D : List Door) (many : Nat) : List Wire := (List.range many).map fun k => (D.getD (2 * k) (0, 0), D.getD (2 * k + 1) (0, 0))
theorem ends_pairs (D : List Door) : ∀ many : Nat, 2 * many ≤ D.length → endsOf (pairsOf D many) = D.take (2 * many)
  | 0, _ => rfl
  | m + 1, h => by
    unfold pairsOf
    rw [List.range_succ, List.map_append, List.map_cons, List.map_nil, ends_snoc]
    have ih := ends_pairs D m (by omega)
    unfold pairsOf at ih
    rw [ih, show 2 * (m + 1) = 2 * m + 1 + 1 by omega, List.take_add_one, List.take_add_one]
    have e1 : D[2 * m]? = some D[2 * m] := List.getElem?_eq_getElem (by omega)
    have e2 : D[2 * m + 1]? = some D[2 * m + 1] := List.getElem?_eq_getElem (by omega)
    rw [List.getD_eq_getElem?_getD, List.getD_eq_getElem?_getD, e1, e2, List.append_assoc]
    rfl
theorem ix_doors {st : Sto} {Q : AV → Sto → Prop} {m : Nat} {D : List Door} {i : Int} (h : st[m]? = some (.lst (D.map doorV))) (h0 : 0 ≤ i) (h1 : i < D.length) : (idxA (.ref m) (.int i) st).Is Q = Q (doorV (D.getD i.toNat (0, 0))) st := by
  have hi : i.toNat < D.length := by omega
  have e : L2.ixN (D.map doorV).length i = some i.toNat := by
    rw [List.length_map]
    unfold L2.ixN
    rw [if_pos h0, if_pos h1]
  rw [iix_l h e (by rw [List.getElem?_map, List.getElem?_eq_getElem hi]; rfl), List.getD_eq_getElem?_getD, List.getElem?_eq_getElem hi]
  rfl
set_option maxHeartbeats 1000000 in
theorem wires_d2 {n a : Nat} {st : Sto} {ns cs : List Int} {Q : AV → Sto → Prop} (ha : st[a]? = some (.lst (cs.map AV.int))) (hC : CntOk cs) (q : ∀ s b ws, Ext st s → st.length ≤ b → s[b]? = some (.lst (ws.map wireV)) → NetWf cs ws → 2 * ws.length < (allD cs).length → Q (.ref b) s) : (callF tab (n + 2) g_law_wires [.rol ns, .ref a] st).Is Q := by
  have hDl := doorsUpto_len hC.cnt cs.length (Nat.le_refl _)
  have eD : doorsUpto cs cs.length = allD cs := rfl
  rw [eD] at hDl
  have hl2 := hC.len2
  have hl1 := hC.len1
  refine call_is rfl rfl ?_; simp only [List.map_cons, List.map_nil, List.cons_append, List.nil_append, List.replicate_succ, List.replicate_zero, Nat.reduceSub]
  simp! [c_law_wires]
  refine doors_d ha hC.len2 hC.cnt fun s1 r h1 l1 g1 => ?_
  have x2 := Ext.push s1 (AO.lst [])
  have g2 := get_push s1 (AO.lst [])
  simp! [↓il_len (x2 _ _ g1)]
  rw [ir_1 (by rw [List.length_map]; omega) (by omega), List.length_map, Int.toNat_natCast, intsFrom_0]
  generalize hp0 : s1.length = p at g2 ⊢
  generalize s1 ++ [AO.lst []] = s2 at x2 g2 ⊢
  refine for_is (fun k e s => ∃ (z4 : Option AV) (P : List (Int × Door)), e = [some (.rol ns), some (.ref a), some (.ref r), some (.ref p), z4, none, none, none, none, none] ∧ Ext s1 s ∧ s[p]? = some (.lst (P.map numDV)) ∧ P.map (·.2) = (allD cs).take k ∧ k ≤ (allD cs).length) _ 0 _ _ ⟨_, [], rfl, x2, g2, rfl, Nat.zero_le _⟩ (fun i y e s hy hI => ?_) fun e s hI => ?_
  · obtain ⟨z4, P, rfl, hE, hp, hm, hk⟩ := hI
    rw [Nat.zero_add] at hm hk
    rw [List.getElem?_map] at hy
    obtain ⟨y1, hy1, rfl⟩ := Option.map_eq_some_iff.mp hy
    obtain ⟨hi, e1⟩ := List.getElem?_eq_some_iff.mp hy1
    rw [List.getElem_range] at e1
    subst e1
    rw [List.length_range] at hi
    refine ⟨rfl, _, rfl, ?_⟩
    simp only [bindT, bindT.go, wipeA, List.set_cons_zero, List.set_cons_succ]
    have m1 : ∀ (st : Sto) (Q : AV → Sto → Prop), (binA .mul (.int (i : Nat)) (.int (i : Nat)) st).Is Q = Q (.int ((i : Nat) * (i : Nat))) st := fun st Q => ib_mul (mulOk_l (by omega) (by omega))
    have pl : P.length = i := by
      have := congrArg List.length hm
      rw [List.length_map, List.length_take] at this
      omega
    simp! [c_law_wires_1, ↓i_methL hp (show 0 ≤ 6 by decide)]
    refine cell_is (by decide) fun c => ?_
    simp! [↓m1]
    refine mix_is (by omega) (by omega) ?_
    simp! [↓ix_doors (hE _ _ g1) (show 0 ≤ (i : Int) by omega) (show (i : Int) < (allD cs).length by omega), ↓im_app hp (show (P.map numDV).length < lim by rw [List.length_map]; unfold lim; omega)]
    refine ⟨_, P ++ [(mixM (c + (i : Nat) * (i : Nat)) (20 + (i : Nat)), (allD cs).getD (i : Int).toNat (0, 0))], rfl, Ext.set hE (by omega), by rw [get_set hp, List.map_append]; rfl, ?_, by omega⟩
    rw [List.map_append, hm, show 0 + i + 1 = i + 1 by omega, List.take_add_one, Int.toNat_natCast, List.getD_eq_getElem?_getD, List.getElem?_eq_getElem hi]
    rfl
  · obtain ⟨z4, P, rfl, hE, hp, hm, hk⟩ := hI
    rw [Nat.zero_add, List.length_map, List.length_range, List.take_length] at hm
    refine ⟨rfl, ?_⟩
    have pl : P.length = (allD cs).length := by rw [← hm, List.length_map]
    simp! [if_true]
    refine sort_pairs hp (by omega) fun P' hP => ?_
    have g3 := get_push s (AO.lst (P'.map numDV))
    have x3 := Ext.push s (AO.lst (P'.map numDV))
    generalize s ++ [AO.lst (P'.map numDV)] = s3 at g3 x3 ⊢
    generalize s.length = p3 at g3 ⊢
    simp! [if_true]
    rw [iw_lst g3]
    have pl' : P'.length = (allD cs).length := by rw [hP.length_eq, pl]
    refine lc_m P' numDV (fun p => doorV p.2) rfl (ck_lst g3) (by unfold lim; omega) (fun p hp => ⟨_, rfl, fun s' hs => ?_⟩) fun s4 h4 => ?_
    · simp only [bindT, bindT.go, wipeA, List.set_cons_zero, List.set_cons_succ]
      simp! [c_law_wires_2]
      exact Ext.refl _
    have dl : P'.map (fun p => doorV p.2) = (P'.map (·.2)).map doorV := by rw [List.map_map]; rfl
    rw [dl]
    have pm : (P'.map (·.2)).Perm (allD cs) := hm ▸ hP.map _
    have pl2 : (P'.map (·.2)).length = (allD cs).length := pm.length_eq
    generalize P'.map (·.2) = D at pm pl2 ⊢
    have g5 := get_push s4 (AO.lst (D.map doorV))
    have x5 := h4.trans (Ext.push s4 (AO.lst (D.map doorV)))
    generalize s4 ++ [AO.lst (D.map doorV)] = s5 at g5 x5 ⊢
    generalize s4.length = p5 at g5 ⊢
    have E5 := hE.trans (x3.trans x5)
    simp! [↓il_len (E5 _ _ g1), List.length_map]
    refine cell_is (by decide) fun c3 => ?_
    simp! [if_true]
    refine mix_is (by decide) (by decide) ?_
    have mn := mixM_nn c3 11
    generalize hmost : (((allD cs).length : Int) - 1) / 2 = most
    have b1 : 0 ≤ most ∧ 2 * most + 1 ≤ (allD cs).length := by omega
    have hmod : (0 : Int) < most / 3 + 1 := by omega
    simp! [↓ib_mod hmod]
    have m0 := Int.emod_nonneg (mixM c3 11) (show most / 3 + 1 ≠ 0 by omega)
    generalize hmany : most - mixM c3 11 % (most / 3 + 1) = many
    have b2 : many ≤ most ∧ -1000 ≤ many := by
      have := Int.emod_lt_of_pos (mixM c3 11) hmod
      omega
    rw [ir_1 (by omega) (by omega)]
    refine lc_m (List.range many.toNat) (fun k : Nat => AV.int (k : Int)) (fun k : Nat => wireV (D.getD (2 * k) (0, 0), D.getD (2 * k + 1) (0, 0))) (intsFrom_0 _) rfl (by rw [List.length_range]; unfold lim; omega) (fun k hk => ⟨_, rfl, fun s' hs => ?_⟩) fun s6 h6 => ?_
    · have hk := List.mem_range.mp hk
      simp only [bindT, bindT.go, wipeA, List.set_cons_zero, List.set_cons_succ]
      have m2 : ∀ (st : Sto) (Q : AV → Sto → Prop), (binA .mul (.int 2) (.int (k : Nat)) st).Is Q = Q (.int (2 * (k : Nat))) st := fun st Q => ib_mul (mulOk_l (by decide) (by decide))
      simp! [c_law_wires_3, ↓m2, ↓ix_doors (hs _ _ g5) (show 0 ≤ 2 * (k : Int) by omega) (show 2 * (k : Int) < D.length by omega), ↓ix_doors (hs _ _ g5) (show 0 ≤ 2 * (k : Int) + 1 by omega) (show 2 * (k : Int) + 1 < D.length by omega)]
      rw [show (2 * (k : Int)).toNat = 2 * k by omega, show (2 * (k : Int) + 1).toNat = 2 * k + 1 by omega]
      exact ⟨rfl, Ext.refl _⟩
    have ep : (List.range many.toNat).map (fun k : Nat => wireV (D.getD (2 * k) (0, 0), D.getD (2 * k + 1) (0, 0))) = (pairsOf D many.toNat).map wireV := by unfold pairsOf; rw [List.map_map]; rfl
    rw [ep]
    have en := ends_pairs D many.toNat (by omega)
    have E6 := h1.trans (E5.trans h6)
    refine q _ _ (pairsOf D many.toNat) (E6.trans (Ext.push _ _)) E6.lt (get_push _ _) ⟨hC.len1, hC.len2, hC.cnt, fun d hd => ?_, ?_, ?_⟩ ?_
    · rw [en] at hd
      exact mem_allD.mp (pm.mem_iff.mp (List.mem_of_mem_take hd))
    · rw [en]
      exact (pm.nodup_iff.mpr (doorsUpto_nodup cs cs.length)).sublist (List.take_sublist _ _)
    · unfold pairsOf
      rw [List.length_map, List.length_range]
      omega
    · unfold pairsOf
      rw [List.length_map, List.length_range]
      omega
theorem wires_d {n a : Nat} {st : Sto} {ns cs : List Int} {Q : AV → Sto → Prop} (ha : st[a]? = some (.lst (cs.map AV.int))) (hC : CntOk cs) (q : ∀ s b ws, Ext st s → st.length ≤ b → s[b]? = some (.lst (ws.map wireV)) → NetWf cs ws → Q (.ref b) s) : (callF tab (n + 2) g_law_wires [.rol ns, .ref a] st).Is Q :=
  wires_d2 ha hC fun s b ws h1 h2 h3 h4 _ => q s b ws h1 h2 h3 h4
end L3

/-! LRw1: numbers, patterns, rows drawn from cells. -/
namespace L3
open PySem L2
theorem pat_1 {n : Nat} {st : Sto} {x : Int} {Q : AV → Sto → Prop} (q : ∀ p, legal p = true → Q (.str p) st) : (callF tab (n + 1) g_law_pattern [.int x] st).Is Q := by
  refine call_is rfl rfl ?_; simp only [List.map_cons, List.map_nil, List.cons_append, List.nil_append, List.replicate_succ, List.replicate_zero, Nat.reduceSub]
  simp! [c_law_pattern, ↓ir_1 (show (4 : Int) < 2 ^ 62 by decide) (show -(2 ^ 62) ≤ (4 : Int) by decide)]
  rw [intsFrom_0]
  refine for_is (fun k e s => s = st ∧ ∃ (y : Int) (p : List Nat) (z : Option AV), e = [some (.int y), some (.str p), z] ∧ p.length = k ∧ k ≤ 4 ∧ ∀ c ∈ p, c = 48 ∨ c = 49 ∨ c = 120) _ 0 _ _ ⟨rfl, x, [], none, rfl, rfl, by omega, fun c h => by cases h⟩ (fun i y e s hy hI => ?_) fun e s hI => ?_
  · obtain ⟨rfl, y, p, z, rfl, hp, hk, hc⟩ := hI
    rw [List.getElem?_map] at hy
    obtain ⟨y1, hy1, rfl⟩ := Option.map_eq_some_iff.mp hy
    have hi := (List.getElem?_eq_some_iff.mp hy1).1
    rw [List.length_range] at hi
    have hi : i < 4 := hi
    refine ⟨rfl, _, rfl, ?_⟩
    simp only [bindT, bindT.go, wipeA, List.set_cons_zero, List.set_cons_succ]
    simp! [c_law_pattern_1]
    refine ix_sign (by decide) (by decide) (by omega) (by show y % 4 < 4; omega) fun c h => ?_
    rw [ib_addS (by rw [hp]; have : ([c] : List Nat).length = 1 := rfl; unfold lim; omega)]
    simp! [if_true]
    refine ⟨_, p ++ [c], _, rfl, by rw [List.length_append, hp]; rfl, by omega, fun c' h' => ?_⟩
    rcases List.mem_append.mp h' with h' | h'
    · exact hc c' h'
    · rw [List.mem_singleton.mp h']; exact h
  · obtain ⟨rfl, y, p, z, rfl, hp, hk, hc⟩ := hI
    refine ⟨rfl, ?_⟩
    exact q p (legal_mk (by rw [hp]; simp) hc)
theorem row_1 {n : Nat} {st : Sto} {c k count : Int} {Q : AV → Sto → Prop} (h0 : 0 ≤ k) (h1 : k < 200) (hc : 0 < count) (q : ∀ s r, Ext st s → RowOk count r → Q (rowV r) s) : (callF tab (n + 2) g_law_row [.int c, .int k, .int count] st).Is Q := by
  have md : ∀ z : Int, 0 ≤ z % count ∧ z % count < count := fun z => ⟨Int.emod_nonneg _ (by omega), Int.emod_lt_of_pos _ hc⟩
  refine call_is rfl rfl ?_; simp only [List.map_cons, List.map_nil, List.cons_append, List.nil_append, List.replicate_succ, List.replicate_zero, Nat.reduceSub]
  simp! [c_law_row]
  refine mix_is h0 (by omega) ?_
  generalize mixM c k = x
  simp! [↓ib_mod hc]
  refine ix_mem (xs := [none, some (x / 700 % count)]) (f := optV) (get_push _ _) (by omega) (by show x / 256 % 2 < 2; omega) fun o1 h1 => ?_
  simp! [↓ib_mod hc, ↓il_intB]
  refine ix_mem (xs := [some (x / 3000 % count), none]) (f := optV) (get_push _ _) (by split <;> omega) (by show _ < (2 : Int); split <;> omega) fun o2 h2 => ?_
  simp! [if_true]
  refine pat_1 fun p hp => ?_
  simp! [if_true]
  refine q _ (p, o1, o2) ((Ext.push _ _).trans (Ext.push _ _)) ⟨hp, fun i hi => ?_, fun i hi => ?_⟩
  · subst hi
    simp only [List.mem_cons, reduceCtorEq, Option.some.injEq, List.not_mem_nil, or_false, false_or] at h1
    subst h1
    exact md _
  · subst hi
    simp only [List.mem_cons, reduceCtorEq, Option.some.injEq, List.not_mem_nil, or_false, false_or] at h2
    subst h2
    exact md _
end L3

/-! LDls: lists of rows, each an object of its own. -/
namespace L3
open PySem L2
/-- lists of rows, each an object of its own -/
def DLs (st : Sto) (lo m : Nat) (bs : List (List Row)) : Prop := ∃ rs : List Nat, st[m]? = some (.lst (rs.map AV.ref)) ∧ rs.length = bs.length ∧ rs.Nodup ∧ (∀ r ∈ rs, lo ≤ r ∧ r ≠ m) ∧ ∀ (i r : Nat) (b : List Row), rs[i]? = some r → bs[i]? = some b → st[r]? = some (.lst (b.map rowV))
theorem DLs.ext {a b : Sto} {lo m : Nat} {bs : List (List Row)} (h : DLs a lo m bs) (x : Ext a b) : DLs b lo m bs := by
  obtain ⟨rs, h1, h2, h3, h4, h5⟩ := h
  exact ⟨rs, x _ _ h1, h2, h3, h4, fun i r b k1 k2 => x _ _ (h5 i r b k1 k2)⟩
theorem DLs.lo {a : Sto} {lo lo' m : Nat} {bs : List (List Row)} (h : DLs a lo m bs) (x : lo' ≤ lo) : DLs a lo' m bs := by
  obtain ⟨rs, h1, h2, h3, h4, h5⟩ := h
  exact ⟨rs, h1, h2, h3, fun r hr => ⟨Nat.le_trans x (h4 r hr).1, (h4 r hr).2⟩, h5⟩
theorem DLs.lls {a : Sto} {lo m : Nat} {bs : List (List Row)} (h : DLs a lo m bs) : LLs rowV a lo m bs := by
  obtain ⟨rs, h1, h2, h3, h4, h5⟩ := h
  exact ⟨rs, h1, h2, fun i r b k1 k2 => ⟨(h4 r (List.mem_of_getElem? k1)).1, h5 i r b k1 k2⟩⟩
theorem DLs.at_ {a : Sto} {lo m : Nat} {bs : List (List Row)} (h : DLs a lo m bs) {i : Nat} {b : List Row} (k : bs[i]? = some b) : ∃ (rs : List Nat) (r : Nat), a[m]? = some (.lst (rs.map AV.ref)) ∧ rs.length = bs.length ∧ rs[i]? = some r ∧ lo ≤ r ∧ a[r]? = some (.lst (b.map rowV)) ∧ ∀ s', Ext a s' → ∀ b' : List Row, DLs (s'.set r (.lst (b'.map rowV))) lo m (bs.set i b') := by
  obtain ⟨rs, h1, h2, h3, h4, h5⟩ := h
  have hi := (List.getElem?_eq_some_iff.mp k).1
  have e : rs[i]? = some rs[i] := List.getElem?_eq_getElem (by omega)
  generalize rs[i] = r at e
  obtain ⟨q1, q2⟩ := h4 r (List.mem_of_getElem? e)
  refine ⟨rs, r, h1, h2, e, q1, h5 i r b e k, fun s' x b' => ⟨rs, get_set_o (x _ _ h1) (Ne.symm q2), by rw [List.length_set, h2], h3, h4, fun j r' b2 k1 k2 => ?_⟩⟩
  by_cases hj : i = j
  · subst hj
    rw [e] at k1
    cases k1
    rw [List.getElem?_set_self hi] at k2
    cases k2
    exact get_set (x _ _ (h5 i r b e k))
  · rw [List.getElem?_set_ne hj] at k2
    have ne : r' ≠ r := fun z => by
      subst z
      obtain ⟨u1, v1⟩ := List.getElem?_eq_some_iff.mp e
      obtain ⟨u2, v2⟩ := List.getElem?_eq_some_iff.mp k1
      exact hj ((List.getElem_inj h3).mp (v1.trans v2.symm))
    exact get_set_o (x _ _ (h5 j r' b2 k1 k2)) ne
end L3

/-! LBks: books dealt by cells. -/
namespace L3
open PySem L2

set_option maxHeartbeats 1000000 in
theorem books_d {n q0 a : Nat} {st : Sto} {cells cs : List Int} {Q : AV → Sto → Prop} (hq : st[q0]? = some (.lst (cells.map AV.int))) (hl : cells.length ≤ 100) (ha : st[a]? = some (.lst (cs.map AV.int))) (hC : CntOk cs) (q : ∀ s m bs, Ext st s → st.length ≤ m → DLs s st.length m bs → BooksOk 12 cs bs → Q (.ref m) s) : (callF tab (n + 3) g_law_books [.ref q0, .ref a] st).Is Q := by
  have hl1 := hC.len1
  have hl2 := hC.len2
  refine call_is rfl rfl ?_; simp only [List.map_cons, List.map_nil, List.cons_append, List.nil_append, List.replicate_succ, List.replicate_zero, Nat.reduceSub]
  simp! [c_law_books]
  rw [iw_lst ha]
  refine lc_is (fun k acc s => Ext st s ∧ ∃ rs : List Nat, acc = rs.map AV.ref ∧ rs.length = k ∧ k ≤ cs.length ∧ rs.Nodup ∧ (∀ r ∈ rs, st.length ≤ r ∧ r < s.length) ∧ ∀ r ∈ rs, s[r]? = some (.lst [])) _ 0 [] st ⟨Ext.refl _, [], rfl, rfl, Nat.zero_le _, List.nodup_nil, fun r h => (by cases h), fun r h => (by cases h)⟩ (fun i x acc s hx hI => ?_) fun acc s hI => ?_
  · obtain ⟨hE, rs, rfl, h1, h0, h2, h3, h4⟩ := hI
    have hi := (List.getElem?_eq_some_iff.mp hx).1
    rw [List.length_map] at hi
    refine ⟨ck_lst (hE _ _ ha), _, rfl, ?_⟩
    simp only [bindT, bindT.go, wipeA, List.set_cons_zero, List.set_cons_succ]
    rw [i_tst, i_and0, boolIs_b, if_pos rfl]
    simp! [c_law_books_1]
    have x := Ext.push s (AO.lst [])
    refine ⟨by rw [List.length_map]; unfold lim; omega, hE.trans x, rs ++ [s.length], by rw [List.map_append]; rfl, by rw [List.length_append, h1]; rfl, by omega, ?_, fun r hr => ?_, fun r hr => ?_⟩
    · refine List.nodup_append.mpr ⟨h2, by simp, fun r hr r' hr' => ?_⟩
      rw [List.mem_singleton.mp hr']
      have := (h3 r hr).2
      omega
    · rw [List.length_append]
      show st.length ≤ r ∧ r < s.length + 1
      rcases List.mem_append.mp hr with hr | hr
      · have := h3 r hr
        omega
      · rw [List.mem_singleton.mp hr]
        exact ⟨hE.lt, by omega⟩
    · rcases List.mem_append.mp hr with hr | hr
      · exact x _ _ (h4 r hr)
      · rw [List.mem_singleton.mp hr]
        exact get_push _ _
  obtain ⟨hE, rs, rfl, h1, h0, h2, h3, h4⟩ := hI
  refine ⟨ck_lst (hE _ _ ha), ?_⟩
  rw [Nat.zero_add, List.length_map] at h1
  have x5 := Ext.push s (AO.lst (rs.map AV.ref))
  have D0 : DLs (s ++ [AO.lst (rs.map AV.ref)]) st.length s.length (List.replicate cs.length []) := ⟨rs, get_push _ _, by rw [List.length_replicate, h1], h2, fun r hr => ⟨(h3 r hr).1, by have := (h3 r hr).2; omega⟩, fun i r b k1 k2 => by
    rw [x5 _ _ (h4 r (List.mem_of_getElem? k1))]
    have := List.eq_of_mem_replicate (List.mem_of_getElem? k2)
    rw [this]
    rfl⟩
  have ok0 : BooksOk 12 cs (List.replicate cs.length []) := ⟨by rw [List.length_replicate], fun i c b k1 k2 => by
    have := List.eq_of_mem_replicate (List.mem_of_getElem? k2)
    rw [this]
    exact ⟨by decide, fun r hr => by cases hr⟩⟩
  have E5 := hE.trans x5
  have lm : st.length ≤ s.length := hE.lt
  generalize s ++ [AO.lst (rs.map AV.ref)] = s5 at D0 E5 ⊢
  generalize s.length = m at D0 lm ⊢
  clear h1 h2 h3 h4 x5 hE
  simp! [if_true]
  rw [ie_lst (E5 _ _ hq)]
  refine for_is (fun k e s => ∃ (z3 z4 z5 : Option AV) (bs : List (List Row)), e = [some (.ref q0), some (.ref a), some (.ref m), z3, z4, z5] ∧ Ext st s ∧ DLs s st.length m bs ∧ BooksOk 12 cs bs) _ 0 _ _ ⟨_, _, _, _, rfl, E5, D0, ok0⟩ (fun i y e s hy hI => ?_) fun e s hI => ?_
  · obtain ⟨z3, z4, z5, bs, rfl, hE, hD, hB⟩ := hI
    rw [numbered_get, List.getElem?_map] at hy
    cases hc : cells[i]? with
    | none => rw [hc] at hy; cases hy
    | some c =>
      rw [hc] at hy
      cases hy
      have hi := (List.getElem?_eq_some_iff.mp hc).1
      refine ⟨ck_lst (hE _ _ hq), _, rfl, ?_⟩
      simp only [bindT, bindT.go, wipeA, List.set_cons_zero, List.set_cons_succ]
      have lc : (cs.map AV.int).length = cs.length := List.length_map _
      have cp : (0 : Int) < ((cs.map AV.int).length : Nat) := by omega
      simp! [c_law_books_2, ↓il_len (hE _ _ ha), ↓ib_mod cp]
      have m0 := Int.emod_nonneg ((0 + i : Nat) : Int) (show (((cs.map AV.int).length : Nat) : Int) ≠ 0 by omega)
      have m1 := Int.emod_lt_of_pos ((0 + i : Nat) : Int) cp
      generalize hh : ((0 + i : Nat) : Int) % (((cs.map AV.int).length : Nat) : Int) = house at m0 m1 ⊢
      obtain ⟨b, hb⟩ : ∃ b, bs[house.toNat]? = some b := ⟨_, List.getElem?_eq_getElem (by rw [hB.1]; omega)⟩
      obtain ⟨rs, r, d1, d2, d3, d4, d5, d6⟩ := hD.at_ hb
      have hx : L2.ixN (rs.map AV.ref).length house = some house.toNat := by
        rw [List.length_map]
        unfold L2.ixN
        rw [if_pos m0, if_pos (by have := hB.1; omega)]
      have hg : (rs.map AV.ref)[house.toNat]? = some (.ref r) := by rw [List.getElem?_map, d3]; rfl
      obtain ⟨b1, b2⟩ := hB.2 house.toNat _ b (List.getElem?_eq_getElem (by omega)) hb
      have c1 : cs.getD house.toNat 0 = cs[house.toNat]'(by omega) := by
        rw [List.getD_eq_getElem?_getD, List.getElem?_eq_getElem (by omega)]
        rfl
      have c2 := hC.cnt _ (List.getElem_mem (show house.toNat < cs.length by omega))
      have keep : ∃ (z3 z4 z5 : Option AV) (bs' : List (List Row)), ([some (.ref q0), some (.ref a), some (.ref m), some (.int ((0 + i : Nat) : Int)), some (.int c), some (.int house)] : Slots) = [some (.ref q0), some (.ref a), some (.ref m), z3, z4, z5] ∧ Ext st s ∧ DLs s st.length m bs' ∧ BooksOk 12 cs bs' := ⟨_, _, _, bs, rfl, hE, hD, hB⟩
      simp! [↓iix_l d1 hx hg, ↓il_len d5, List.length_map]
      split
      · rename_i hlt
        simp! [↓i_methL d5 (show 0 ≤ 6 by decide), ↓ix_ints (hE _ _ ha) m0 (show house < cs.length by omega)]
        rw [c1]
        refine row_1 (by omega) (by omega) (by omega) fun s' rw x rok => ?_
        have e5 := x _ _ d5
        simp! [↓im_app e5 (show (b.map rowV).length < lim by rw [List.length_map]; unfold lim; omega)]
        have er : b.map rowV ++ [rowV rw] = (b ++ [rw]).map rowV := by rw [List.map_append]; rfl
        rw [er]
        refine ⟨_, _, _, bs.set house.toNat (b ++ [rw]), rfl, Ext.set (hE.trans x) d4, d6 s' x _, by rw [List.length_set]; exact hB.1, fun j cj bj k1 k2 => ?_⟩
        by_cases hj : house.toNat = j
        · subst hj
          rw [List.getElem?_set_self (List.getElem?_eq_some_iff.mp hb).1] at k2
          cases k2
          rw [List.getElem?_eq_getElem (by omega)] at k1
          cases k1
          refine ⟨by rw [List.length_append]; show b.length + 1 ≤ 12; omega, fun r' hr' => ?_⟩
          rcases List.mem_append.mp hr' with hr' | hr'
          · exact b2 r' hr'
          · rw [List.mem_singleton.mp hr']
            exact rok
        · rw [List.getElem?_set_ne hj] at k2
          exact hB.2 j cj bj k1 k2
      · exact keep
  · obtain ⟨z3, z4, z5, bs, rfl, hE, hD, hB⟩ := hI
    refine ⟨ck_lst (hE _ _ hq), ?_⟩
    simp! [if_true]
    exact q s m bs hE lm hD hB
end L3

/-! LNtb: nets by digits. -/
namespace L3
open PySem L2

theorem Dig.ext {m : Nat} {a b : Sto} (h : Dig m a b) {lo : Nat} (hl : a.length ≤ m) : Ext a b := fun n u z => h.1 n u (by have := get_lt z; omega) z
theorem netby_1 {n m a k : Nat} {s : Sto} {N : Slots → Sto → Prop} {Tr : AV → Sto → Prop} {cs : List Int} {z3 z4 z5 z6 z2 : Option AV} (hm : ∃ x, s[m]? = some (.lst [.int x])) (ha : s[a]? = some (.lst (cs.map AV.int))) (ham : a ≠ m) (hl : cs.length ≤ 100)
    (q : ∀ s1 d, 0 ≤ d → d < 4 → Dig m s s1 → N [some (.ref m), some (.ref a), z2, z3, z4, z5, z6] (s1.set a (.lst ((cs ++ [1 + d]).map AV.int)))) :
    (exS tab (callF tab (n + 1)) (lev tab (n + 1)).2 c_law_net_by_1 [some (.ref m), some (.ref a), z2, z3, z4, z5, z6] s).Is N Tr := by
  simp! [c_law_net_by_1, ↓i_methL ha (show 0 ≤ 6 by decide)]
  refine digit_ok hm (by decide) (by decide) fun d s1 d0 d1 hd => ?_
  simp! [↓im_app (hd.1 _ _ ham ha) (show (cs.map AV.int).length < lim by rw [List.length_map]; unfold lim; omega)]
  rw [show cs.map AV.int ++ [AV.int (1 + d)] = (cs ++ [1 + d]).map AV.int by rw [List.map_append]; rfl]
  exact q s1 d d0 d1 hd
theorem netby_2 {n m r w : Nat} {s : Sto} {N : Slots → Sto → Prop} {Tr : AV → Sto → Prop} {D : List Door} {ws : List Wire} {z1 z2 z5 z6 : Option AV} (hm : ∃ x, s[m]? = some (.lst [.int x])) (hr : s[r]? = some (.lst (D.map doorV))) (hw : s[w]? = some (.lst (ws.map wireV))) (hrm : r ≠ m) (hwm : w ≠ m) (hrw : r ≠ w) (hD : D.length ≤ 100) (h2 : 2 ≤ D.length) (hW : ws.length ≤ 100)
    (q : ∀ (s' : Sto) (D' : List Door) (ws' : List Wire) (z6 : Option AV), (∀ j u, j ≠ m → j ≠ r → j ≠ w → s[j]? = some u → s'[j]? = some u) → (∀ lo, lo ≤ r → lo ≤ w → ∀ a, Dig m a s → a.length ≤ lo → Dig m a s') → s'[r]? = some (.lst (D'.map doorV)) → s'[w]? = some (.lst (ws'.map wireV)) → (D' ++ endsOf ws').Perm (D ++ endsOf ws) → ws'.length = ws.length + 1 → D'.length + 2 = D.length → N [some (.ref m), z1, z2, some (.ref r), some (.ref w), z5, z6] s') :
    (exS tab (callF tab (n + 1)) (lev tab (n + 1)).2 c_law_net_by_2 [some (.ref m), z1, z2, some (.ref r), some (.ref w), z5, z6] s).Is N Tr := by
  have ld : (D.map doorV).length = D.length := List.length_map _
  simp! [c_law_net_by_2, ↓i_methL hr (show 3 ≤ 6 by decide), ↓il_len hr]
  refine digit_ok hm (by omega) (by omega) fun d s1 d0 d1 hd => ?_
  have i3 : d.toNat < D.length := by omega
  have i1 : L2.ixN (D.map doorV).length d = some d.toNat := by
    unfold L2.ixN
    rw [if_pos d0, if_pos (by omega)]
  have g1 : D[d.toNat]? = some D[d.toNat] := List.getElem?_eq_getElem i3
  have g2 := get_map (f := doorV) g1
  have pm := perm_pop g1
  generalize D[d.toNat] = e1 at g1 g2 pm
  have ll : (D.map doorV).length ≤ lim := by unfold lim; omega
  have er : (D.map doorV).eraseIdx d.toNat = (D.eraseIdx d.toNat).map doorV := erase_map _ _ _
  simp! [↓im_pop (hd.1 _ _ hrm hr) ll i1 g2, er]
  have hrA := get_set (o := AO.lst ((D.eraseIdx d.toNat).map doorV)) (hd.1 _ _ hrm hr)
  have hwA := get_set_o (o := AO.lst ((D.eraseIdx d.toNat).map doorV)) (hd.1 _ _ hwm hw) (Ne.symm hrw)
  have hmA : ∃ x, (s1.set r (AO.lst ((D.eraseIdx d.toNat).map doorV)))[m]? = some (.lst [.int x]) := by
    obtain ⟨x, hx⟩ := hd.2.1
    exact ⟨x, get_set_o hx (Ne.symm hrm)⟩
  have bA : ∀ lo, lo ≤ r → lo ≤ w → ∀ a, Dig m a s → a.length ≤ lo → Dig m a (s1.set r (AO.lst ((D.eraseIdx d.toNat).map doorV))) := fun lo h1 h2 a ha hl => (ha.trans hd).newset (by omega) hrm
  have bK : ∀ j u, j ≠ m → j ≠ r → s[j]? = some u → (s1.set r (AO.lst ((D.eraseIdx d.toNat).map doorV)))[j]? = some u := fun j u h1 h2 z => get_set_o (hd.1 _ _ h1 z) h2
  generalize s1.set r (AO.lst ((D.eraseIdx d.toNat).map doorV)) = sA at hrA hwA hmA bA bK ⊢
  have l1 : (D.eraseIdx d.toNat).length + 1 = D.length := by have := pm.length_eq; simpa using this
  generalize D.eraseIdx d.toNat = D1 at hrA pm l1
  have ld1 : (D1.map doorV).length = D1.length := List.length_map _
  simp! [↓i_methL hwA (show 0 ≤ 6 by decide), ↓i_methL hrA (show 3 ≤ 6 by decide), ↓il_len hrA]
  refine digit_ok hmA (by omega) (by omega) fun d2 s2 d20 d21 hd2 => ?_
  have j3 : d2.toNat < D1.length := by omega
  have j1 : L2.ixN (D1.map doorV).length d2 = some d2.toNat := by
    unfold L2.ixN
    rw [if_pos d20, if_pos (by omega)]
  have k1 : D1[d2.toNat]? = some D1[d2.toNat] := List.getElem?_eq_getElem j3
  have k2 := get_map (f := doorV) k1
  have pm2 := perm_pop k1
  generalize D1[d2.toNat] = e2 at k1 k2 pm2
  have ll2 : (D1.map doorV).length ≤ lim := by unfold lim; omega
  have er2 : (D1.map doorV).eraseIdx d2.toNat = (D1.eraseIdx d2.toNat).map doorV := erase_map _ _ _
  have hwB := get_set_o (o := AO.lst ((D1.eraseIdx d2.toNat).map doorV)) (hd2.1 _ _ hwm hwA) (Ne.symm hrw)
  have hlw : (ws.map wireV).length < lim := by rw [List.length_map]; unfold lim; omega
  simp! [↓im_pop (hd2.1 _ _ hrm hrA) ll2 j1 k2, er2, ↓im_app hwB hlw]
  have ew : ws.map wireV ++ [AV.tup [doorV e1, doorV e2]] = (ws ++ [(e1, e2)]).map wireV := by rw [List.map_append]; rfl
  have l2 : (D1.eraseIdx d2.toNat).length + 1 = D1.length := by have := pm2.length_eq; simpa using this
  rw [ew]
  refine q _ (D1.eraseIdx d2.toNat) (ws ++ [(e1, e2)]) _ (fun j u h1 h2 h3 z => get_set_o (get_set_o (hd2.1 _ _ h1 (bK j u h1 h2 z)) h2) h3) (fun lo h1 h2 a ha hl => (((bA lo h1 h2 a ha hl).trans hd2).newset (by omega) hrm).newset (by omega) hwm) ?_ ?_ ?_ (by rw [List.length_append]; rfl) (by omega)
  · exact get_set_o (get_set (hd2.1 _ _ hrm hrA)) hrw
  · exact get_set hwB
  · rw [ends_snoc]
    have p3 : (e1 :: e2 :: D1.eraseIdx d2.toNat).Perm D := (pm2.cons e1).trans pm
    have p4 : (D1.eraseIdx d2.toNat ++ [e1, e2]).Perm D := (List.perm_append_comm).trans p3
    rw [← List.append_assoc]
    have p5 : (D1.eraseIdx d2.toNat ++ endsOf ws ++ [e1, e2]).Perm (D1.eraseIdx d2.toNat ++ [e1, e2] ++ endsOf ws) := by
      rw [List.append_assoc, List.append_assoc]
      exact List.Perm.append_left _ List.perm_append_comm
    exact p5.trans (p4.append_right _)
set_option maxHeartbeats 2000000 in
theorem netby_is {n m : Nat} {st : Sto} {Q : AV → Sto → Prop} (hm : ∃ x, st[m]? = some (.lst [.int x])) (q : ∀ s a b cs ws, Dig m st s → st.length ≤ a → st.length ≤ b → s[a]? = some (.lst (cs.map AV.int)) → s[b]? = some (.lst (ws.map wireV)) → CntOk cs → NetWf cs ws → Q (.tup [.ref a, .ref b]) s) : (callF tab (n + 2) g_law_net_by [.ref m] st).Is Q := by
  obtain ⟨x, hx⟩ := hm
  have hml := get_lt hx
  refine call_is rfl rfl ?_; simp only [List.map_cons, List.map_nil, List.cons_append, List.nil_append, List.replicate_succ, List.replicate_zero, Nat.reduceSub]
  simp! [c_law_net_by]
  have g0 := get_push st (AO.lst [])
  have x0 := Ext.push st (AO.lst [])
  have d0 : Dig m st (st ++ [AO.lst []]) := Dig.of hx x0
  have ha0 : st.length ≤ st.length := Nat.le_refl _
  have ham : st.length ≠ m := by omega
  generalize st ++ [AO.lst []] = s0 at g0 x0 d0 ⊢
  generalize hst : st.length = a at g0 ha0 ham ⊢
  refine digit_ok d0.2.1 (by decide) (by decide) fun B s1 hB0 hB1 d1 => ?_
  simp! [if_true]
  rw [ir_1 (by omega) (by omega), intsFrom_0]
  refine for_is (fun k e s => ∃ (z2 : Option AV) (cs : List Int), e = [some (.ref m), some (.ref a), z2, none, none, none, none] ∧ Dig m st s ∧ s[a]? = some (.lst (cs.map AV.int)) ∧ cs.length = k ∧ k ≤ 6 ∧ ∀ c ∈ cs, 1 ≤ c ∧ c ≤ 4) _ 0 _ _ ⟨_, [], rfl, d0.trans d1, d1.1 _ _ ham g0, rfl, by omega, fun c h => (by cases h)⟩ (fun i y e s hy hI => ?_) fun e s hI => ?_
  · obtain ⟨z2, cs, rfl, hE, hs, hl, h6, hc⟩ := hI
    rw [List.getElem?_map] at hy
    obtain ⟨y1, hy1, rfl⟩ := Option.map_eq_some_iff.mp hy
    have hi := (List.getElem?_eq_some_iff.mp hy1).1
    rw [List.length_range] at hi
    refine ⟨rfl, _, rfl, ?_⟩
    simp only [bindT, bindT.go, wipeA, List.set_cons_zero, List.set_cons_succ]
    refine netby_1 (k := i) hE.2.1 hs ham (by omega) fun s' d e0 e1 hd => ⟨_, cs ++ [1 + d], rfl, (hE.trans hd).newset (by omega) ham, get_set (hd.1 _ _ ham hs), by rw [List.length_append, hl]; rfl, by omega, fun c hc' => ?_⟩
    rcases List.mem_append.mp hc' with hc' | hc'
    · exact hc c hc'
    · rw [List.mem_singleton.mp hc']
      omega
  obtain ⟨z2, cs, rfl, hE, hs, hl, h6, hc⟩ := hI
  rw [Nat.zero_add, List.length_map, List.length_range] at hl
  refine ⟨rfl, ?_⟩
  have hC : CntOk cs := ⟨by omega, by omega, hc⟩
  simp! [if_true]
  refine doors_d hs hC.len2 hC.cnt fun s2 r h2 lr hr => ?_
  obtain ⟨x2, hx2⟩ := hE.2.1
  have dl := doorsUpto_len hc cs.length (Nat.le_refl _)
  have eD : doorsUpto cs cs.length = allD cs := rfl
  rw [eD] at dl
  have g3 := get_push s2 (AO.lst [])
  have x3 := Ext.push s2 (AO.lst [])
  have E3 : Dig m st (s2 ++ [AO.lst []]) := hE.trans (Dig.of hx2 (h2.trans x3))
  have hsl := hE.2.2
  have hs3 := (h2.trans x3) _ _ hs
  have hrw : r ≠ s2.length := by have := get_lt hr; omega
  have hrm : r ≠ m := by have := get_lt hx2; omega
  have hwm : s2.length ≠ m := by have := get_lt hx2; have := h2.lt; omega
  have hlw : st.length ≤ s2.length := by have := h2.lt; omega
  have har : a ≠ r := by have := get_lt hs; omega
  have haw : a ≠ s2.length := by have := get_lt hs; have := h2.lt; omega
  simp! [if_true]
  have hr3 := x3 _ _ hr
  generalize s2 ++ [AO.lst []] = s3 at g3 E3 hs3 hr3 ⊢
  generalize s2.length = w at g3 hrw hwm hlw haw ⊢
  have lD : ((allD cs).map doorV).length = (allD cs).length := List.length_map _
  simp! [↓il_len hr3]
  refine digit_ok E3.2.1 (by omega) (by omega) fun B2 s4 b20 b21 d4 => ?_
  rw [ir_1 (by omega) (by omega), intsFrom_0]
  refine for_is (fun k e s => ∃ (D : List Door) (ws : List Wire) (z2 z5 z6 : Option AV), e = [some (.ref m), some (.ref a), z2, some (.ref r), some (.ref w), z5, z6] ∧ Dig m st s ∧ s[a]? = some (.lst (cs.map AV.int)) ∧ s[r]? = some (.lst (D.map doorV)) ∧ s[w]? = some (.lst (ws.map wireV)) ∧ (D ++ endsOf ws).Perm (allD cs) ∧ ws.length = k ∧ D.length + 2 * k = (allD cs).length) _ 0 _ _ ⟨allD cs, [], _, _, _, rfl, E3.trans d4, d4.1 _ _ ham hs3, d4.1 _ _ hrm hr3, d4.1 _ _ hwm g3, by rw [show endsOf [] = [] from rfl, List.append_nil], rfl, by omega⟩ (fun i y e s hy hI => ?_) fun e s hI => ?_
  · obtain ⟨D, ws, z2, z5, z6, rfl, iE, ia, ir, iw, ip, il, iD⟩ := hI
    rw [List.getElem?_map] at hy
    obtain ⟨y1, hy1, rfl⟩ := Option.map_eq_some_iff.mp hy
    have hi := (List.getElem?_eq_some_iff.mp hy1).1
    rw [List.length_range] at hi
    refine ⟨rfl, _, rfl, ?_⟩
    simp only [bindT, bindT.go, wipeA, List.set_cons_zero, List.set_cons_succ]
    have hbig : i < (allD cs).length / 2 := by omega
    refine netby_2 iE.2.1 ir iw hrm hwm hrw (by omega) (by omega) (by omega) fun s' D' ws' z6 x0' x1 x2 x3 x4 x5 x6 => ⟨D', ws', _, _, _, rfl, x1 st.length (by omega) (by omega) st iE (Nat.le_refl _), x0' _ _ ham har haw ia, x2, x3, x4.trans ip, by omega, by omega⟩
  · obtain ⟨D, ws, z2, z5, z6, rfl, iE, ia, ir, iw, ip, il, iD⟩ := hI
    rw [Nat.zero_add, List.length_map, List.length_range] at il iD
    refine ⟨rfl, ?_⟩
    simp! [if_true]
    have nd : (D ++ endsOf ws).Nodup := ip.nodup_iff.mpr (doorsUpto_nodup cs cs.length)
    exact q s a w cs ws iE (by omega) (by omega) ia iw hC ⟨hC.len1, hC.len2, hC.cnt, fun d hd => mem_allD.mp (ip.mem_iff.mp (List.mem_append_right _ hd)), (List.nodup_append.mp nd).2.1, by omega⟩
end L3

/-! LWld: a net and books, by cells or by digits. -/
namespace L3
open PySem L2
theorem iabs_nn (c : Int) : True := trivial
set_option maxHeartbeats 2000000 in
theorem world_is {n : Nat} {st : Sto} {ns : List Int} {Q : AV → Sto → Prop} (hn : ns.length ≤ 63) (q : ∀ s a b m cs ws bs, Ext st s → s[a]? = some (.lst (cs.map AV.int)) → s[b]? = some (.lst (ws.map wireV)) → DLs s st.length m bs → CntOk cs → NetWf cs ws → BooksOk 12 cs bs → Q (.tup [.ref a, .ref b, .ref m]) s) : (callF tab (n + 4) g_law_world [.rol ns] st).Is Q := by
  refine call_is rfl rfl ?_; simp only [List.map_cons, List.map_nil, List.cons_append, List.nil_append, List.replicate_succ, List.replicate_zero, Nat.reduceSub]
  unfold c_law_world
  rw [ws_ite, i_cmp, i_bin, i_call]
  simp! [if_true]
  refine cell_is (by decide) fun c0 => ?_
  simp! [if_true]
  split
  · refine cell_is (by decide) fun c1 => ?_
    simp! [↓il_abs]
    have g1 := get_push st (AO.lst [AV.int (if c1 < 0 then -c1 else c1)])
    have x1 := Ext.push st (AO.lst [AV.int (if c1 < 0 then -c1 else c1)])
    have hm1 : st.length ≤ st.length := Nat.le_refl _
    generalize st ++ [AO.lst [AV.int (if c1 < 0 then -c1 else c1)]] = s1 at g1 x1 ⊢
    generalize hm1e : st.length = m1 at g1 ⊢
    refine netby_is ⟨_, g1⟩ fun s2 a b cs ws D2 la lb ha hb hC hW => ?_
    have X2 : Ext st s2 := fun j u z => D2.1 j u (by have := get_lt z; omega) (x1 _ _ z)
    have l2 : st.length ≤ s2.length := X2.lt
    simp only [bindT, bindT.go, wipeA, List.set_cons_zero, List.set_cons_succ]
    simp! [if_true]
    refine cell_is (by decide) fun c2 => ?_
    simp! [↓il_abs]
    have g3 := get_push s2 (AO.lst [AV.int (if c2 < 0 then -c2 else c2)])
    have x3 := Ext.push s2 (AO.lst [AV.int (if c2 < 0 then -c2 else c2)])
    generalize hs3e : s2 ++ [AO.lst [AV.int (if c2 < 0 then -c2 else c2)]] = s3 at g3 x3 ⊢
    have hm2 : s2.length ≤ s2.length := Nat.le_refl _
    have l3 : s3.length = s2.length + 1 := by rw [← hs3e, List.length_append]; rfl
    generalize hm2e : s2.length = m2 at g3 l3 hm2 ⊢
    have ham : a ≠ m2 := by have := get_lt ha; omega
    have hbm : b ≠ m2 := by have := get_lt hb; omega
    have hl2 := hC.len2
    rw [iw_lst (x3 _ _ ha)]
    refine lc_is (fun k acc s => Dig m2 s3 s ∧ ∃ (rs : List Nat) (bs : List (List Row)), acc = rs.map AV.ref ∧ rs.length = k ∧ bs.length = k ∧ k ≤ cs.length ∧ rs.Nodup ∧ (∀ r ∈ rs, s3.length ≤ r ∧ r < s.length) ∧ (∀ (i r : Nat) (b : List Row), rs[i]? = some r → bs[i]? = some b → s[r]? = some (.lst (b.map rowV))) ∧ ∀ (i : Nat) (c : Int) (b : List Row), cs[i]? = some c → bs[i]? = some b → b.length ≤ 12 ∧ ∀ r ∈ b, RowOk c r) _ 0 [] s3 ⟨⟨fun j u _ z => z, ⟨_, g3⟩, Nat.le_refl _⟩, [], [], rfl, rfl, rfl, Nat.zero_le _, List.nodup_nil, fun r h => (by cases h), fun i r b h => (by cases h), fun i c b h1 h2 => (by cases h2)⟩ (fun i x acc s hx hI => ?_) fun acc s hI => ?_
    · obtain ⟨hE, rs, bs, rfl, r1, b1, h0, r2, r3, r4, r5⟩ := hI
      rw [List.getElem?_map] at hx
      obtain ⟨c, hc, rfl⟩ := Option.map_eq_some_iff.mp hx
      have hi := (List.getElem?_eq_some_iff.mp hc).1
      have hcb := hC.cnt c (List.mem_of_getElem? hc)
      refine ⟨ck_lst (hE.1 _ _ ham (x3 _ _ ha)), _, rfl, ?_⟩
      simp only [bindT, bindT.go, wipeA, List.set_cons_zero, List.set_cons_succ]
      rw [i_tst, i_and0, boolIs_b, if_pos rfl]
      simp! [c_law_world_1]
      refine book_by hE.2.1 (by omega) fun s' bb rows hd lbb hbb hl hr => ?_
      have hbl := get_lt hbb
      refine ⟨by rw [List.length_map]; unfold lim; omega, hE.trans hd, rs ++ [bb], bs ++ [rows], by rw [List.map_append]; rfl, by rw [List.length_append, r1]; rfl, by rw [List.length_append, b1]; rfl, by omega, ?_, fun r hr' => ?_, fun j r b k1 k2 => ?_, fun j c' b k1 k2 => ?_⟩
      · refine List.nodup_append.mpr ⟨r2, by simp, fun r hr r' hr' => ?_⟩
        rw [List.mem_singleton.mp hr']
        have := (r3 r hr).2
        omega
      · rcases List.mem_append.mp hr' with hr' | hr'
        · have := r3 r hr'
          have := hd.2.2
          omega
        · rw [List.mem_singleton.mp hr']
          have := hE.2.2
          omega
      · by_cases hj : j < rs.length
        · rw [List.getElem?_append_left hj] at k1
          rw [List.getElem?_append_left (by omega)] at k2
          exact hd.1 _ _ (by have := (r3 r (List.mem_of_getElem? k1)).1; omega) (r4 j r b k1 k2)
        · have e : j = rs.length := by
            have := (List.getElem?_eq_some_iff.mp k1).1
            rw [List.length_append] at this
            simp at this
            omega
          subst e
          rw [List.getElem?_append_right (Nat.le_refl _), Nat.sub_self] at k1
          rw [List.getElem?_append_right (by omega), show rs.length - bs.length = 0 by omega] at k2
          cases k1
          cases k2
          exact hbb
      · by_cases hj : j < bs.length
        · rw [List.getElem?_append_left hj] at k2
          exact r5 j c' b k1 k2
        · have e : j = bs.length := by
            have := (List.getElem?_eq_some_iff.mp k2).1
            rw [List.length_append] at this
            simp at this
            omega
          subst e
          rw [List.getElem?_append_right (Nat.le_refl _), Nat.sub_self] at k2
          cases k2
          rw [show bs.length = 0 + i by omega, Nat.zero_add, hc] at k1
          cases k1
          exact ⟨hl, hr⟩
    · obtain ⟨hE, rs, bs, rfl, r1, b1, h0, r2, r3, r4, r5⟩ := hI
      rw [Nat.zero_add, List.length_map] at r1 b1
      refine ⟨ck_lst (hE.1 _ _ ham (x3 _ _ ha)), ?_⟩
      have x5 := Ext.push s (AO.lst (rs.map AV.ref))
      simp! [if_true]
      have X5 : Ext st (s ++ [AO.lst (rs.map AV.ref)]) := fun j u z => x5 _ _ (hE.1 _ _ (by have := get_lt z; omega) ((X2.trans x3) _ _ z))
      refine q _ a b s.length cs ws bs X5 (x5 _ _ (hE.1 _ _ ham (x3 _ _ ha))) (x5 _ _ (hE.1 _ _ hbm (x3 _ _ hb))) ⟨rs, get_push _ _, by omega, r2, fun r hr => ⟨by have := (r3 r hr).1; omega, by have := (r3 r hr).2; omega⟩, fun i r b k1 k2 => x5 _ _ (r4 i r b k1 k2)⟩ hC hW ⟨b1, r5⟩
  · refine counts_d fun s1 a cs x1 _ ha hC => ?_
    have l2 := hC.len2
    simp! [if_true]
    refine wires_d ha hC fun s2 b ws x2 _ hb hW => ?_
    simp! [↓isl_rol]
    rw [cutA_map]
    have g3 := get_push s2 (AO.lst ((cutA ns (some 4) (some 63)).map AV.int))
    have x3 := Ext.push s2 (AO.lst ((cutA ns (some 4) (some 63)).map AV.int))
    generalize s2 ++ [AO.lst ((cutA ns (some 4) (some 63)).map AV.int)] = s3 at g3 x3 ⊢
    have cl := cutA_len ns (some 4) (some 63)
    refine books_d g3 (by omega) ((x2.trans x3) _ _ ha) hC fun s4 m bs x4 lm hD hB => ?_
    simp! [if_true]
    have l3 := (x1.trans (x2.trans x3)).lt
    exact q s4 a b m cs ws bs (x1.trans (x2.trans (x3.trans x4))) ((x2.trans (x3.trans x4)) _ _ ha) ((x3.trans x4) _ _ hb) (hD.lo l3) hC hW hB
/-- the addresses that are asked -/
theorem asked_is {n : Nat} {st : Sto} {ns : List Int} {Q : AV → Sto → Prop} (q : ∀ (s : Sto) (r : Nat) (as : List Int), Ext st s → st.length ≤ r → s[r]? = some (.lst (as.map AV.int)) → (∀ x ∈ as, 0 ≤ x ∧ x < 16) → as.length ≤ 16 → Q (.ref r) s) : (callF tab (n + 2) g_law_asked [.rol ns] st).Is Q := by
  refine call_is rfl rfl ?_; simp only [List.map_cons, List.map_nil, List.cons_append, List.nil_append, List.replicate_succ, List.replicate_zero, Nat.reduceSub]
  simp! [c_law_asked]
  refine cell_is (by decide) fun c0 => ?_
  simp! [if_true]
  split
  · rw [i_lr (by decide)]
    have e : (List.range (16 : Int).toNat).map (fun k : Nat => AV.int (k : Int)) = (upto 16).map AV.int := by unfold upto; rw [List.map_map]; rfl
    rw [e]
    exact q _ _ _ (Ext.push _ _) (Nat.le_refl _) (get_push _ _) (fun x hx => mem_upto.mp hx) (by rw [upto_len]; decide)
  · refine cell_is (by decide) fun c3 => ?_
    simp! [↓il_abs]
    have g1 := get_push st (AO.lst [AV.int (if c3 < 0 then -c3 else c3)])
    have x1 := Ext.push st (AO.lst [AV.int (if c3 < 0 then -c3 else c3)])
    generalize st ++ [AO.lst [AV.int (if c3 < 0 then -c3 else c3)]] = s1 at g1 x1 ⊢
    generalize hme : st.length = m at g1 ⊢
    rw [ir_1 (by decide) (by decide)]
    refine lc_is (fun k acc s => Dig m s1 s ∧ ∃ as : List Int, acc = as.map AV.int ∧ as.length = k ∧ k ≤ 4 ∧ ∀ x ∈ as, 0 ≤ x ∧ x < 16) _ 0 [] s1 ⟨⟨fun j u _ z => z, ⟨_, g1⟩, Nat.le_refl _⟩, [], rfl, rfl, by omega, fun x h => (by cases h)⟩ (fun i x acc s hx hI => ?_) fun acc s hI => ?_
    · obtain ⟨hE, as, rfl, h1, h0, h2⟩ := hI
      have hi : i < 4 := by
        have := (List.getElem?_eq_some_iff.mp hx).1
        rw [show (intsFrom 0 1 (4 : Int).toNat).length = 4 from rfl] at this
        exact this
      refine ⟨rfl, _, rfl, ?_⟩
      simp only [bindT, bindT.go, wipeA, List.set_cons_zero, List.set_cons_succ]
      rw [i_tst, i_and0, boolIs_b, if_pos rfl]
      simp! [c_law_asked_1]
      refine digit_ok hE.2.1 (by decide) (by decide) fun d s' d0 d1 hd => ?_
      refine ⟨by rw [List.length_map]; unfold lim; omega, hE.trans hd, as ++ [d], by rw [List.map_append]; rfl, by rw [List.length_append, h1]; rfl, by omega, fun y hy => ?_⟩
      rcases List.mem_append.mp hy with hy | hy
      · exact h2 y hy
      · rw [List.mem_singleton.mp hy]
        exact ⟨d0, d1⟩
    · obtain ⟨hE, as, rfl, h1, h0, h2⟩ := hI
      refine ⟨rfl, ?_⟩
      have x5 := Ext.push s (AO.lst (as.map AV.int))
      refine q _ _ as (fun j u z => x5 _ _ (hE.1 _ _ (by have := get_lt z; omega) (x1 _ _ z))) (by have := x1.lt; have := hE.2.2; omega) (get_push _ _) h2 (by omega)
end L3

/-! LNet: doors of nets. -/
namespace L3
open PySem L2
section
variable {n m : Nat} {st : Sto} {cs : List Int} {ws : List Wire} {Q : AV → Sto → Prop} {a b t : Nat}
theorem beyond_is {d : Door} (h : NetIns st m a b t cs ws) (q : Q (odV (beyF ws d)) st) : (callF tab (n + 1) g_Net_beyond [.ref m, doorV d] st).Is Q := by
  obtain ⟨h1, h2, h3, h4⟩ := h
  refine call_is rfl rfl ?_; simp only [List.map_cons, List.map_nil, List.cons_append, List.nil_append, List.replicate_succ, List.replicate_zero, Nat.reduceSub]
  simp! [c_Net_beyond, ↓fld_is h1 f28 rfl, ↓i_methD h4, ↓im_get h4]
  rw [tbl_get]
  cases e : beyF ws d with
  | none => rw [e] at q; exact q
  | some e2 => rw [e] at q; exact q
/-- an outer door -/
def isOuter (cs : List Int) (ws : List Wire) (d : Door) : Bool := isDoor cs d && (beyF ws d).isNone
end
end L3

/-! LNeO: whether a door is an outer one. -/
namespace L3
open PySem L2
section
variable {n m : Nat} {st : Sto} {cs : List Int} {ws : List Wire} {Q : AV → Sto → Prop} {a b t : Nat}
theorem is_door_is {d : Door} (h : NetIns st m a b t cs ws) (q : Q (.bl (isDoor cs d)) st) : (callF tab (n + 3) g_Net_is_door [.ref m, doorV d] st).Is Q := by
  obtain ⟨h1, h2, h3, h4⟩ := h
  refine call_is rfl rfl ?_; simp only [List.map_cons, List.map_nil, List.cons_append, List.nil_append, List.replicate_succ, List.replicate_zero, Nat.reduceSub]
  simp! [c_Net_is_door, ↓fld_is h1 f26 rfl]
  exact doorOf_is h2 q
theorem m21 : tab.mt 10 21 = some g_Net_is_outer := rfl
theorem m20 : tab.mt 10 20 = some g_Net_is_door := rfl
theorem is_outer_is {d : Door} (h : NetIns st m a b t cs ws) (q : Q (.bl (isOuter cs ws d)) st) : (callF tab (n + 4) g_Net_is_outer [.ref m, doorV d] st).Is Q := by
  have h0 := h
  obtain ⟨h1, h2, h3, h4⟩ := h
  refine call_is rfl rfl ?_; simp only [List.map_cons, List.map_nil, List.cons_append, List.nil_append, List.replicate_succ, List.replicate_zero, Nat.reduceSub]
  simp! [c_Net_is_outer, ↓sel_is h1 m20 rfl]
  refine is_door_is h0 ?_
  simp! [↓fld_is h1 f28 rfl]
  have e := inA_dT (d := d) h4
  rw [tbl_has] at e
  unfold isOuter at q
  split
  · rename_i hd
    rw [hd, Bool.true_and] at q
    simp! [↓ic_nin e]
    cases e6 : beyF ws d with
    | none => rw [e6] at q; exact q
    | some _ => rw [e6] at q; exact q
  · rename_i hd
    rw [Bool.eq_false_iff.mpr hd, Bool.false_and] at q
    exact q
end
end L3

/-! LOk: outer doors of the nets that a law makes. -/
namespace L3
open PySem L2
theorem beyF_none {ws : List Wire} {d : Door} : ∀ {o : Option Door}, ws.foldl (beyS d) o = none ↔ o = none ∧ d ∉ endsOf ws := by
  induction ws with
  | nil => intro o; simp [endsOf]
  | cons w ws ih =>
    intro o
    show ws.foldl (beyS d) (beyS d o w) = none ↔ _
    rw [ih]
    have e : endsOf (w :: ws) = w.1 :: w.2 :: endsOf ws := rfl
    rw [e]
    unfold beyS
    by_cases h1 : d = w.2
    · simp [h1]
    · by_cases h2 : d = w.1
      · rw [if_neg h1, if_pos h2]
        simp [h2]
      · simp [h1, h2]
theorem bey_none {ws : List Wire} {d : Door} : beyF ws d = none ↔ d ∉ endsOf ws := by
  unfold beyF
  rw [beyF_none]
  simp
/-- the outer doors, rising -/
def outerL (cs : List Int) (ws : List Wire) : List Door := (allD cs).filter fun d => (beyF ws d).isNone
theorem mem_outer {cs : List Int} {ws : List Wire} {d : Door} : d ∈ outerL cs ws ↔ isOuter cs ws d = true := by
  unfold outerL isOuter
  rw [List.mem_filter, mem_allD, Bool.and_eq_true]
theorem NetOk.some_outer {most : Int} {cs : List Int} {ws : List Wire} (h : NetOk most cs ws) : outerL cs ws ≠ [] := by
  obtain ⟨ds, hne, hp⟩ := h.outer
  have nd : (ds ++ endsOf ws).Nodup := hp.nodup_iff.mpr (doorsUpto_nodup cs cs.length)
  cases ds with
  | nil => exact absurd rfl hne
  | cons d ds =>
    have m : d ∈ outerL cs ws := by
      rw [mem_outer]
      unfold isOuter
      rw [mem_allD.mp (hp.mem_iff.mp (by simp)), Bool.true_and]
      have : d ∉ endsOf ws := fun z => (List.nodup_append.mp nd).2.2 d (by simp) d z rfl
      rw [bey_none.mpr this]
      rfl
    intro z
    rw [z] at m
    cases m
theorem bey_keep {d : Door} : ∀ (ws : List Wire) (o : Option Door), d ∉ endsOf ws → ws.foldl (beyS d) o = o
  | [], o, _ => rfl
  | w :: ws, o, h => by
    have h2 : d ≠ w.1 ∧ d ≠ w.2 ∧ d ∉ endsOf ws := by
      unfold endsOf at h ⊢
      rw [List.flatMap_cons] at h
      simp only [List.mem_append, List.mem_cons, List.not_mem_nil, or_false, not_or] at h
      exact ⟨h.1.1, h.1.2, h.2⟩
    rw [List.foldl_cons, bey_keep ws _ h2.2.2]
    unfold beyS
    rw [if_neg h2.2.1, if_neg h2.1]
theorem bey_hit {d : Door} {w : Wire} : ∀ (ws : List Wire) (o : Option Door), (endsOf ws).Nodup → w ∈ ws → (d = w.1 → ws.foldl (beyS d) o = some w.2) ∧ (d = w.2 → ws.foldl (beyS d) o = some w.1)
  | [], _, _, h => by cases h
  | v :: ws, o, hn, h => by
    have hn2 : v.1 ≠ v.2 ∧ v.1 ∉ endsOf ws ∧ v.2 ∉ endsOf ws ∧ (endsOf ws).Nodup := by
      unfold endsOf at hn ⊢
      rw [List.flatMap_cons] at hn
      rw [List.nodup_append] at hn
      obtain ⟨h1, h2, h3⟩ := hn
      refine ⟨?_, fun z => h3 v.1 (by simp) v.1 z rfl, fun z => h3 v.2 (by simp) v.2 z rfl, h2⟩
      rw [List.nodup_cons] at h1
      intro e
      exact h1.1 (by rw [e]; simp)
    rw [List.foldl_cons]
    rcases List.mem_cons.mp h with rfl | h
    · refine ⟨fun e => ?_, fun e => ?_⟩
      · subst e
        rw [bey_keep ws _ hn2.2.1]
        unfold beyS
        rw [if_neg hn2.1, if_pos rfl]
      · subst e
        rw [bey_keep ws _ hn2.2.2.1]
        unfold beyS
        rw [if_pos rfl]
    · exact bey_hit ws _ hn2.2.2.2 h
theorem eqA_door {st : Sto} (d e : Door) : eqA st (doorV d) (doorV e) = some (decide (d = e)) := by
  rw [eqA_of (pd_door 7 st d) (pd_door 7 st e) (can_door d) (can_door e), eqv_door]
end L3

/-! LTyp: things whose kinds can be told. -/
namespace L3
open PySem L2
/-! ### things of any kind -/
/-- a thing whose kind can be told -/
def Ty1 (st : Sto) : AV → Prop
  | .ref n => (∃ xs, st[n]? = some (.lst xs)) ∨ ∃ xs, st[n]? = some (.dK xs)
  | .str x => chOk x = true ∧ x.length ≤ 1000
  | .rol _ => False
  | _ => True
def Ty2 (st : Sto) (v : AV) : Prop := Ty1 st v ∧ ∀ xs, v = .tup xs → ∀ x ∈ xs, Ty1 st x
def Ty3 (st : Sto) (v : AV) : Prop := Ty1 st v ∧ ∀ xs, v = .tup xs → ∀ x ∈ xs, Ty2 st x
theorem Ty1.ext {a b : Sto} {v : AV} (h : Ty1 a v) (x : Ext a b) : Ty1 b v := by
  cases v with
  | ref n =>
    rcases h with ⟨xs, h⟩ | ⟨xs, h⟩
    · exact .inl ⟨xs, x _ _ h⟩
    · exact .inr ⟨xs, x _ _ h⟩
  | str _ => exact h
  | rol _ => exact h
  | _ => trivial
theorem Ty2.ext {a b : Sto} {v : AV} (h : Ty2 a v) (x : Ext a b) : Ty2 b v := ⟨h.1.ext x, fun xs e y hy => (h.2 xs e y hy).ext x⟩
theorem Ty3.ext {a b : Sto} {v : AV} (h : Ty3 a v) (x : Ext a b) : Ty3 b v := ⟨h.1.ext x, fun xs e y hy => (h.2 xs e y hy).ext x⟩
def kndOf (st : Sto) : AV → Ty
  | .bl _ => .bool
  | .int _ => .int
  | .str _ => .str
  | .tup _ => .tuple
  | .ref n => match st[n]? with
    | some (.dK _) => .dict
    | _ => .list
  | .rol _ => .list
  | .non => .cls 0
/-- the kind of a thing, asked -/
theorem isi_any {T : Tab} {st : Sto} {v : AV} {t : Ty} {Q : AV → Sto → Prop} (h : Ty1 st v) (ht : ∀ c, t ≠ .cls c) : (R.ofB (isA T t v st) st).Is Q = Q (.bl (decide (t = kndOf st v) || (decide (t = .int) && decide (kndOf st v = .bool)))) st := by
  cases v with
  | ref n =>
    rcases h with ⟨xs, h⟩ | ⟨xs, h⟩
    · rw [wt_lst h]
      simp only [kndOf, h]
      cases t <;> rfl
    · rw [wt_dK h]
      simp only [kndOf, h]
      cases t <;> rfl
  | rol _ => exact h.elim
  | non =>
    rw [wt_non]
    cases t with
    | cls c => exact absurd rfl (ht c)
    | _ => rfl
  | bl b =>
    rw [wt_bl]
    cases t <;> rfl
  | int b =>
    rw [wt_int]
    cases t <;> rfl
  | str b =>
    rw [wt_str]
    cases t <;> rfl
  | tup b =>
    rw [wt_tup]
    cases t <;> rfl
def wholeM : AV → Option Int
  | .int i => some i
  | _ => none
theorem whole_any {n : Nat} {st : Sto} {v : AV} {Q : AV → Sto → Prop} (h : Ty1 st v) (q : Q (.bl (wholeM v).isSome) st) : (callF tab (n + 1) g_is_whole [v] st).Is Q := by
  refine call_is rfl rfl ?_; simp only [List.map_cons, List.map_nil, List.cons_append, List.nil_append, List.replicate_succ, List.replicate_zero, Nat.reduceSub]
  simp! [c_is_whole]
  rw [isi_any h (by intro c z; cases z)]
  cases v with
  | int i => exact q
  | ref m =>
    rcases h with ⟨xs, h⟩ | ⟨xs, h⟩
    · simp! [kndOf, h]
      exact q
    · simp! [kndOf, h]
      exact q
  | rol _ => exact h.elim
  | bl b =>
    simp! [kndOf]
    exact q
  | non =>
    simp! [kndOf]
    exact q
  | str b =>
    simp! [kndOf]
    exact q
  | tup b =>
    simp! [kndOf]
    exact q
end L3

/-! LPat: patterns. -/
namespace L3
open PySem L2
theorem isp_is {n : Nat} {st : Sto} {x : List Nat} {Q : AV → Sto → Prop} (hl : x.length ≤ lim) (q : ∀ st', Ext st st' → Q (.bl (legal x)) st') : (callF tab (n + 1) g_is_pattern [.str x] st).Is Q := by
  refine call_is rfl rfl ?_; simp only [List.map_cons, List.map_nil, List.cons_append, List.nil_append, List.replicate_succ, List.replicate_zero, Nat.reduceSub]
  simp! [c_is_pattern, ↓il_lenS hl, ↓iw_str]
  split
  · rename_i h
    have e : legal x = false := by unfold legal; rw [decide_eq_false (by omega)]; rfl
    rw [← e]
    exact q st (Ext.refl st)
  · rename_i h
    refine lc_m x (fun c => .str [c]) (fun c => .bl (decide (c ∈ [48, 49, 120]))) rfl rfl hl (fun c _ => ⟨_, rfl, fun s hs => ?_⟩) fun s hs => ?_
    · simp! [c_is_pattern_1, bindT, wipeA, List.set_cons_zero, List.set_cons_succ]
      exact Ext.refl s
    · rw [i_all (get_push _ _)]
      have e : x.all (fun c => decide (c ∈ [48, 49, 120])) = legal x := by
        unfold legal
        rw [decide_eq_true (by omega), Bool.true_and]
      rw [e]
      exact q _ (hs.trans (Ext.push _ _))
def patM : AV → Bool
  | .str x => legal x
  | _ => false
theorem isp_any {n : Nat} {st : Sto} {v : AV} {Q : AV → Sto → Prop} (h : Ty1 st v) (q : ∀ st', Ext st st' → Q (.bl (patM v)) st') : (callF tab (n + 1) g_is_pattern [v] st).Is Q := by
  cases v with
  | str x => exact isp_is (Nat.le_trans h.2 (by decide)) q
  | ref m =>
    rcases h with ⟨xs, h⟩ | ⟨xs, h⟩
    · refine call_is rfl rfl ?_; simp only [List.map_cons, List.map_nil, List.cons_append, List.nil_append, List.replicate_succ, List.replicate_zero, Nat.reduceSub]
      simp! [c_is_pattern, ↓wt_lst h]
      exact q _ (Ext.refl _)
    · refine call_is rfl rfl ?_; simp only [List.map_cons, List.map_nil, List.cons_append, List.nil_append, List.replicate_succ, List.replicate_zero, Nat.reduceSub]
      simp! [c_is_pattern, ↓wt_dK h]
      exact q _ (Ext.refl _)
  | rol _ => exact h.elim
  | non =>
    refine call_is rfl rfl ?_; simp only [List.map_cons, List.map_nil, List.cons_append, List.nil_append, List.replicate_succ, List.replicate_zero, Nat.reduceSub]
    simp! [c_is_pattern]
    exact q _ (Ext.refl _)
  | bl b =>
    refine call_is rfl rfl ?_; simp only [List.map_cons, List.map_nil, List.cons_append, List.nil_append, List.replicate_succ, List.replicate_zero, Nat.reduceSub]
    simp! [c_is_pattern]
    exact q _ (Ext.refl _)
  | int b =>
    refine call_is rfl rfl ?_; simp only [List.map_cons, List.map_nil, List.cons_append, List.nil_append, List.replicate_succ, List.replicate_zero, Nat.reduceSub]
    simp! [c_is_pattern]
    exact q _ (Ext.refl _)
  | tup b =>
    refine call_is rfl rfl ?_; simp only [List.map_cons, List.map_nil, List.cons_append, List.nil_append, List.replicate_succ, List.replicate_zero, Nat.reduceSub]
    simp! [c_is_pattern]
    exact q _ (Ext.refl _)
end L3

/-! LBok: whether things are rows, books, books of a net. -/
namespace L3
open PySem L2

theorem whole_ty {st : Sto} {v : AV} (h : Ty1 st v) : (Ty.int = kndOf st v ↔ ∃ i, v = .int i) := by
  cases v with
  | int i => simp [kndOf]
  | ref m =>
    rcases h with ⟨xs, h⟩ | ⟨xs, h⟩
    · simp [kndOf, h]
    · simp [kndOf, h]
  | rol _ => exact h.elim
  | _ => simp [kndOf]
def choM (doors : Int) : AV → Bool
  | .non => true
  | .int i => decide (0 ≤ i) && decide (i < doors)
  | _ => false
theorem cho_any {n : Nat} {st : Sto} {v : AV} {doors : Int} {Q : AV → Sto → Prop} (h : Ty1 st v) (q : Q (.bl (choM doors v)) st) : (callF tab (n + 2) g_is_choice [v, .int doors] st).Is Q := by
  by_cases hn : v = .non
  · subst hn
    refine call_is rfl rfl ?_; simp only [List.map_cons, List.map_nil, List.cons_append, List.nil_append, List.replicate_succ, List.replicate_zero, Nat.reduceSub]
    simp! [c_is_choice]
    exact q
  by_cases hi : ∃ i, v = .int i
  · obtain ⟨i, rfl⟩ := hi
    refine call_is rfl rfl ?_; simp only [List.map_cons, List.map_nil, List.cons_append, List.nil_append, List.replicate_succ, List.replicate_zero, Nat.reduceSub]
    simp! [c_is_choice]
    refine whole_any h ?_
    replace q : Q (.bl (decide (0 ≤ i) && decide (i < doors))) st := q
    simp! [wholeM, Option.isSome_some]
    by_cases h1 : 0 ≤ i
    · rw [decide_eq_true h1, Bool.true_and] at q
      simp! [h1]
      split
      · rename_i h2
        rw [decide_eq_true h2] at q
        exact q
      · rename_i h2
        rw [decide_eq_false h2] at q
        exact q
    · rw [decide_eq_false h1] at q
      simp! [h1]
      exact q
  · have e : choM doors v = false := by
      cases v with
      | non => exact absurd rfl hn
      | int i => exact absurd ⟨i, rfl⟩ hi
      | _ => rfl
    have e2 : wholeM v = none := by
      cases v with
      | int i => exact absurd ⟨i, rfl⟩ hi
      | _ => rfl
    rw [e] at q
    refine call_is rfl rfl ?_; simp only [List.map_cons, List.map_nil, List.cons_append, List.nil_append, List.replicate_succ, List.replicate_zero, Nat.reduceSub]
    simp! [c_is_choice, hn]
    refine whole_any h ?_
    rw [e2]
    simp! [Option.isSome_none]
    exact q
def rowM (doors : Int) : AV → Bool
  | .tup [p, a, b] => patM p && (choM doors a && choM doors b)
  | _ => false
theorem row_any {n : Nat} {st : Sto} {v : AV} {doors : Int} {Q : AV → Sto → Prop} (h : Ty2 st v) (q : ∀ s, Ext st s → Q (.bl (rowM doors v)) s) : (callF tab (n + 3) g_is_row [v, .int doors] st).Is Q := by
  by_cases ht : ∃ xs, v = .tup xs
  · obtain ⟨xs, rfl⟩ := ht
    by_cases hl : xs.length = 3
    · obtain ⟨p, a, b, rfl⟩ : ∃ p a b, xs = [p, a, b] := by
        match xs, hl with
        | [p, a, b], _ => exact ⟨p, a, b, rfl⟩
      have tp := h.2 _ rfl p (by simp)
      have ta := h.2 _ rfl a (by simp)
      have tb := h.2 _ rfl b (by simp)
      replace q : ∀ s, Ext st s → Q (.bl (patM p && (choM doors a && choM doors b))) s := q
      refine call_is rfl rfl ?_; simp only [List.map_cons, List.map_nil, List.cons_append, List.nil_append, List.replicate_succ, List.replicate_zero, Nat.reduceSub]
      simp! [c_is_row]
      refine isp_any tp fun s1 h1 => ?_
      cases hp : patM p with
      | false =>
        rw [hp, Bool.false_and] at q
        simp! [if_true]
        exact q s1 h1
      | true =>
        rw [hp, Bool.true_and] at q
        simp! [if_true]
        refine cho_any (ta.ext h1) ?_
        cases ha : choM doors a with
        | false =>
          rw [ha, Bool.false_and] at q
          simp! [if_true]
          exact q s1 h1
        | true =>
          rw [ha, Bool.true_and] at q
          simp! [if_true]
          refine cho_any (tb.ext h1) ?_
          cases hb : choM doors b with
          | false =>
            rw [hb] at q
            simp! [if_true]
            exact q s1 h1
          | true =>
            rw [hb] at q
            simp! [if_true]
            exact q s1 h1
    · have e : rowM doors (.tup xs) = false := by
        unfold rowM
        split
        · rename_i p a b he
          cases he
          exact absurd rfl hl
        · rfl
      rw [e] at q
      have hl3 : ¬ ((xs.length : Int) = 3) := by omega
      refine call_is rfl rfl ?_; simp only [List.map_cons, List.map_nil, List.cons_append, List.nil_append, List.replicate_succ, List.replicate_zero, Nat.reduceSub]
      simp! [c_is_row, ↓ic_neI, hl3]
      exact q st (Ext.refl _)
  · have e : rowM doors v = false := by
      cases v with
      | tup xs => exact absurd ⟨xs, rfl⟩ ht
      | _ => rfl
    rw [e] at q
    have hk : kndOf st v ≠ .tuple := by
      cases v with
      | tup xs => exact absurd ⟨xs, rfl⟩ ht
      | ref m =>
        rcases h.1 with ⟨xs, h⟩ | ⟨xs, h⟩
        · simp [kndOf, h]
        · simp [kndOf, h]
      | _ => intro z; cases z
    refine call_is rfl rfl ?_; simp only [List.map_cons, List.map_nil, List.cons_append, List.nil_append, List.replicate_succ, List.replicate_zero, Nat.reduceSub]
    simp! [c_is_row]
    rw [isi_any h.1 (by intro c z; cases z)]
    simp! [Ne.symm hk, hk]
    exact q st (Ext.refl _)
/-- what is_book tells of a thing, now and later -/
def BookB (doors : Int) (s : Sto) (v : AV) (b : Bool) : Prop := ∀ s', Ext s s' → ∀ (n : Nat) (Q : AV → Sto → Prop), (∀ s2, Ext s' s2 → Q (.bl b) s2) → (callF tab (n + 4) g_is_book [v, .int doors] s').Is Q
theorem BookB.ext {doors : Int} {s s2 : Sto} {v : AV} {b : Bool} (h : BookB doors s v b) (x : Ext s s2) : BookB doors s2 v b := fun s' y => h s' (x.trans y)
theorem book_list {doors : Int} {s : Sto} {r : Nat} {xs : List AV} (hr : s[r]? = some (.lst xs)) (hx : ∀ x ∈ xs, Ty2 s x) (hl : xs.length ≤ 1000) : BookB doors s (.ref r) (decide (xs.length ≤ 12) && xs.all (rowM doors)) := fun s' x n Q q => by
  have hr' := x _ _ hr
  refine call_is rfl rfl ?_; simp only [List.map_cons, List.map_nil, List.cons_append, List.nil_append, List.replicate_succ, List.replicate_zero, Nat.reduceSub]
  simp! [c_is_book, ↓wt_lst hr', ↓il_len hr']
  split
  · rename_i h
    rw [decide_eq_false (by omega), Bool.false_and] at q
    exact q s' (Ext.refl _)
  · rename_i h
    rw [decide_eq_true (by omega), Bool.true_and] at q
    rw [iw_lst hr']
    refine lc_m xs id (fun v => .bl (rowM doors v)) (List.map_id xs).symm (ck_lst hr') (by unfold lim; omega) (fun v hv => ⟨_, rfl, fun s2 hs => ?_⟩) fun s2 h2 => ?_
    · simp only [bindT, bindT.go, wipeA, List.set_cons_zero, List.set_cons_succ]
      simp! [c_is_book_1, id]
      refine row_any ((hx v hv).ext (x.trans hs)) fun s3 h3 => ⟨rfl, h3⟩
    · rw [i_all (get_push _ _)]
      exact q _ (h2.trans (Ext.push _ _))
theorem book_non {doors : Int} {s : Sto} {v : AV} (h : Ty1 s v) (hk : kndOf s v ≠ .list) : BookB doors s v false := fun s' x n Q q => by
  have hk' : kndOf s' v ≠ .list := by
    cases v with
    | ref m =>
      rcases h with ⟨xs, h⟩ | ⟨xs, h⟩
      · simp [kndOf, h] at hk
      · simp [kndOf, x _ _ h]
    | _ => exact hk
  refine call_is rfl rfl ?_; simp only [List.map_cons, List.map_nil, List.cons_append, List.nil_append, List.replicate_succ, List.replicate_zero, Nat.reduceSub]
  simp! [c_is_book]
  rw [isi_any (h.ext x) (by intro c z; cases z)]
  simp! [Ne.symm hk', hk']
  exact q s' (Ext.refl _)
theorem m7 : tab.mt 10 7 = some g_Net_count := rfl
theorem count_is {n m a b t : Nat} {st : Sto} {cs : List Int} {ws : List Wire} {i : Nat} {Q : AV → Sto → Prop} (hN : NetIns st m a b t cs ws) (hi : i < cs.length) (q : Q (.int (cs.getD i 0)) st) : (callF tab (n + 1) g_Net_count [.ref m, .int (i : Nat)] st).Is Q := by
  refine call_is rfl rfl ?_; simp only [List.map_cons, List.map_nil, List.cons_append, List.nil_append, List.replicate_succ, List.replicate_zero, Nat.reduceSub]
  simp! [c_Net_count, ↓fld_is hN.1 f26 rfl]
  rw [ix_ints hN.2.1 (by omega) (by omega), Int.toNat_natCast]
  exact q
/-- what is_books tells of a thing -/
theorem books_list {n m a b t r : Nat} {st : Sto} {cs : List Int} {ws : List Wire} {vs : List AV} {bs : List Bool} {Q : AV → Sto → Prop} (hN : NetIns st m a b t cs ws) (hr : st[r]? = some (.lst vs)) (hl : vs.length ≤ 100) (hb : vs.length = cs.length → bs.length = vs.length ∧ ∀ (i : Nat) (v : AV) (c : Bool), vs[i]? = some v → bs[i]? = some c → BookB (cs.getD i 0) st v c) (q : ∀ s, Ext st s → Q (.bl (decide (vs.length = cs.length) && bs.all id)) s) : (callF tab (n + 5) g_is_books [.ref r, .ref m] st).Is Q := by
  refine call_is rfl rfl ?_; simp only [List.map_cons, List.map_nil, List.cons_append, List.nil_append, List.replicate_succ, List.replicate_zero, Nat.reduceSub]
  simp! [c_is_books, ↓wt_lst hr, ↓il_len hr, ↓fld_is hN.1 f22 rfl]
  by_cases hv : vs.length = cs.length
  · obtain ⟨hb1, hb2⟩ := hb hv
    rw [decide_eq_true hv, Bool.true_and] at q
    have hv' : (vs.length : Int) = cs.length := by omega
    simp! [hv']
    rw [ie_lst hr]
    have hz : numbered 0 vs = (List.range vs.length).map fun i => AV.tup [.int (i : Nat), vs.getD i .non] := by
      refine List.ext_getElem? fun i => ?_
      rw [numbered_get, List.getElem?_map]
      by_cases hi : i < vs.length
      · rw [List.getElem?_range hi, List.getElem?_eq_getElem hi, Nat.zero_add]
        simp [List.getD_eq_getElem?_getD, List.getElem?_eq_getElem hi]
      · rw [List.getElem?_eq_none (by omega), List.getElem?_eq_none (by rw [List.length_range]; omega)]
        rfl
    refine lc_m (w := ⟨numbered 0 vs, some (r, .lst vs), none⟩) (List.range vs.length) (fun i => AV.tup [.int (i : Nat), vs.getD i .non]) (fun i => .bl (bs.getD i false)) hz (by simp only [Wk.ck, hr, decide_true, Bool.and_self]) (by rw [List.length_range]; unfold lim; omega) (fun i hi => ⟨_, rfl, fun s hs => ?_⟩) fun s hs => ?_
    · have hi := List.mem_range.mp hi
      have e1 : vs[i]? = some vs[i] := List.getElem?_eq_getElem hi
      have e2 : bs[i]? = some bs[i] := List.getElem?_eq_getElem (by omega)
      have B := hb2 i _ _ e1 e2
      have hN' : NetIns s m a b t cs ws := ⟨hs _ _ hN.1, hs _ _ hN.2.1, hs _ _ hN.2.2.1, hs _ _ hN.2.2.2⟩
      simp only [bindT, bindT.go, wipeA, List.set_cons_zero, List.set_cons_succ]
      simp! [c_is_books_1, ↓sel_is hN'.1 m7 rfl]
      refine count_is hN' (by omega) ?_
      rw [List.getD_eq_getElem?_getD (l := vs), e1]
      refine B s hs _ _ fun s2 h2 => ⟨?_, h2⟩
      rw [List.getD_eq_getElem?_getD, e2]
      rfl
    · rw [i_all (get_push _ _)]
      have e : (List.range vs.length).all (fun i => bs.getD i false) = bs.all id := by
        rw [Bool.eq_iff_iff, List.all_eq_true, List.all_eq_true]
        constructor
        · intro h c hc
          obtain ⟨i, hi, rfl⟩ := List.getElem_of_mem hc
          have := h i (List.mem_range.mpr (by omega))
          rw [List.getD_eq_getElem?_getD, List.getElem?_eq_getElem hi] at this
          exact this
        · intro h i hi
          have hi := List.mem_range.mp hi
          rw [List.getD_eq_getElem?_getD, List.getElem?_eq_getElem (by omega)]
          exact h _ (List.getElem_mem _)
      rw [e]
      exact q _ (hs.trans (Ext.push _ _))
  · rw [decide_eq_false hv, Bool.false_and] at q
    have hv' : ¬ ((vs.length : Int) = cs.length) := by omega
    simp! [hv']
    exact q st (Ext.refl _)
theorem books_non {n m : Nat} {st : Sto} {v : AV} {Q : AV → Sto → Prop} (h : Ty1 st v) (hk : kndOf st v ≠ .list) (q : Q (.bl false) st) : (callF tab (n + 1) g_is_books [v, .ref m] st).Is Q := by
  refine call_is rfl rfl ?_; simp only [List.map_cons, List.map_nil, List.cons_append, List.nil_append, List.replicate_succ, List.replicate_zero, Nat.reduceSub]
  simp! [c_is_books]
  rw [isi_any h (by intro c z; cases z)]
  simp! [Ne.symm hk, hk]
  exact q
/-! ### rows of books -/
theorem ty_opt (st : Sto) (o : Option Int) : Ty1 st (optV o) := by cases o <;> exact trivial
theorem ty_pat (st : Sto) {p : List Nat} (h : legal p = true) : Ty1 st (.str p) := ⟨legal_ch h, by rw [legal_len h]; decide⟩
theorem ty_row (st : Sto) {r : Row} (h : legal r.1 = true) : Ty2 st (rowV r) := ⟨trivial, fun xs e x hx => by
  cases e
  simp only [List.mem_cons, List.not_mem_nil, or_false] at hx
  rcases hx with rfl | rfl | rfl
  · exact ty_pat st h
  · exact ty_opt st _
  · exact ty_opt st _⟩
theorem cho_opt {doors : Int} {o : Option Int} (h : OptOk doors o) : choM doors (optV o) = true := by
  cases o with
  | none => rfl
  | some i =>
    have := h i rfl
    show (decide (0 ≤ i) && decide (i < doors)) = true
    rw [decide_eq_true this.1, decide_eq_true this.2]
    rfl
theorem row_ok {doors : Int} {r : Row} (h : RowOk doors r) : rowM doors (rowV r) = true := by
  show (patM (.str r.1) && (choM doors (optV r.2.1) && choM doors (optV r.2.2))) = true
  rw [cho_opt h.come, cho_opt h.out, show patM (.str r.1) = legal r.1 from rfl, h.pat]
  rfl
theorem book_ok {doors : Int} {s : Sto} {r : Nat} {b : List Row} (hr : s[r]? = some (.lst (b.map rowV))) (hl : b.length ≤ 12) (hb : ∀ x ∈ b, RowOk doors x) : BookB doors s (.ref r) true := by
  have h := book_list (doors := doors) hr (fun x hx => by
    obtain ⟨y, hy, rfl⟩ := List.mem_map.mp hx
    exact ty_row s (hb y hy).pat) (by rw [List.length_map]; omega)
  have e : (decide ((b.map rowV).length ≤ 12) && (b.map rowV).all (rowM doors)) = true := by
    rw [List.length_map, decide_eq_true hl, Bool.true_and, List.all_map, List.all_eq_true]
    exact fun x hx => row_ok (hb x hx)
  rw [e] at h
  exact h
end L3

/-! LNxa: where letters go next, by the program. -/
namespace L3
open PySem L2

abbrev wDrop : List Nat := [100, 114, 111, 112]
abbrev wOut : List Nat := [111, 117, 116]
abbrev wAt : List Nat := [97, 116]
abbrev wRing : List Nat := [114, 105, 110, 103]
/-- the door by which a letter goes on in its house -/
def outM (bs : List (List Row)) (d : Door) (a : Int) : Option Int := match takenM (bs.getD d.1.toNat []) d.2 a with
  | some k => ((bs.getD d.1.toNat []).getD k ([], none, none)).2.2
  | none => none
inductive NxM where
  | drop | out (o : Int) | at (d : Door)
def nextM (bs : List (List Row)) (ws : List Wire) (a : Int) (d : Door) : NxM := match outM bs d a with
  | none => .drop
  | some o => match beyF ws (d.1, o) with
    | none => .out o
    | some d' => .at d'
def nextV (d : Door) : NxM → AV
  | .drop => .tup [.str wDrop, .int d.1]
  | .out o => .tup [.str wOut, .int d.1, .int o]
  | .at d' => .tup [.str wAt, .int d'.1, .int d'.2]
def walkM (nx : Door → NxM) : Nat → List Door → List Door × AV
  | 0, road => (road, .non)
  | f + 1, road => match nx (road.getLastD (0, 0)) with
    | .drop => (road, .tup [.str wDrop, .int (road.getLastD (0, 0)).1])
    | .out o => (road, .tup [.str wOut, .int (road.getLastD (0, 0)).1, .int o])
    | .at d => if d ∈ road then (road, .tup [.str wRing, .int (((road.findIdx? fun y => decide (y = d)).getD 0 : Nat) : Int)]) else walkM nx f (road ++ [d])
/-- books that suit a net, in the store -/
structure BksAt (st : Sto) (mb : Nat) (cs : List Int) (bs : List (List Row)) : Prop where
  at_ : ∃ lo, LLs rowV st lo mb bs
  ok : BooksOk 12 cs bs
theorem BksAt.ext {a b : Sto} {mb : Nat} {cs : List Int} {bs : List (List Row)} (h : BksAt a mb cs bs) (x : Ext a b) : BksAt b mb cs bs := by
  obtain ⟨lo, hl⟩ := h.at_
  exact ⟨⟨lo, hl.ext x⟩, h.ok⟩
theorem door_house {cs : List Int} {d : Door} (h : isDoor cs d = true) : 0 ≤ d.1 ∧ d.1 < cs.length ∧ 0 ≤ d.2 ∧ d.2 < cs.getD d.1.toNat 0 := by
  unfold isDoor at h
  simp only [Bool.and_eq_true, decide_eq_true_eq] at h
  exact ⟨h.1.1.1, h.1.1.2, h.1.2, h.2⟩
theorem ix_house {st : Sto} {mb : Nat} {cs : List Int} {bs : List (List Row)} {i : Int} {Q : AV → Sto → Prop} (h : BksAt st mb cs bs) (h0 : 0 ≤ i) (h1 : i < cs.length) (q : ∀ r, st[r]? = some (.lst ((bs.getD i.toNat []).map rowV)) → Q (.ref r) st) : (idxA (.ref mb) (.int i) st).Is Q := by
  obtain ⟨lo, hl⟩ := h.at_
  have hb : i.toNat < bs.length := by rw [h.ok.1]; omega
  have e := List.getElem?_eq_getElem hb
  obtain ⟨xs, r, a1, a2, a3, a4, a5⟩ := hl.at_ e
  have hx : L2.ixN xs.length i = some i.toNat := by
    unfold L2.ixN
    rw [if_pos h0, if_pos (by have := h.ok.1; omega)]
  rw [iix_l a1 hx a3]
  refine q r ?_
  rw [List.getD_eq_getElem?_getD, e]
  exact a5
theorem house_ok {mb : Nat} {cs : List Int} {bs : List (List Row)} (h : BooksOk 12 cs bs) {i : Nat} (hi : i < cs.length) : (bs.getD i []).length ≤ 12 ∧ ∀ r ∈ bs.getD i [], RowOk (cs.getD i 0) r := by
  have hb : i < bs.length := by rw [h.1]; exact hi
  have e := List.getElem?_eq_getElem hb
  have e2 := List.getElem?_eq_getElem hi
  rw [List.getD_eq_getElem?_getD, List.getD_eq_getElem?_getD, e, e2]
  exact h.2 i _ _ e2 e
theorem taken_lt {b : List Row} {door a : Int} {k : Nat} (h : takenM b door a = some k) : k < b.length := by
  unfold takenM at h
  exact (List.findIdx?_eq_some_iff_getElem.mp h).1
theorem optV_non {o : Option Int} : (optV o = .non) ↔ o = none := by cases o <;> simp [optV]
theorem m24 : tab.mt 10 24 = some g_Net_beyond := rfl
theorem next_is {n m a b t mb : Nat} {st : Sto} {cs : List Int} {ws : List Wire} {bs : List (List Row)} {d : Door} {x : Int} {Q : AV → Sto → Prop} (hN : NetIns st m a b t cs ws) (hB : BksAt st mb cs bs) (hd : isDoor cs d = true) (hx : 0 ≤ x) (q : Q (nextV d (nextM bs ws x d)) st) : (callF tab (n + 3) g_next_of [.ref m, .ref mb, doorV d, .int x] st).Is Q := by
  obtain ⟨d1, d2, d3, d4⟩ := door_house hd
  obtain ⟨b1, b2⟩ := house_ok (mb := mb) hB.ok (show d.1.toNat < cs.length by omega)
  have lg : ∀ r ∈ bs.getD d.1.toNat [], legal r.1 = true := fun r hr => (b2 r hr).pat
  refine call_is rfl rfl ?_; simp only [List.map_cons, List.map_nil, List.cons_append, List.nil_append, List.replicate_succ, List.replicate_zero, Nat.reduceSub]
  unfold c_next_of
  rw [ws_asgT]
  have ed : doorV d = .tup [.int d.1, .int d.2] := rfl
  rw [ed]
  simp! [if_true]
  simp only [bindT, bindT.go, wipeA, List.set_cons_zero, List.set_cons_succ]
  simp! [if_true]
  unfold nextM outM at q
  have hH : ∀ {Q : AV → Sto → Prop}, (∀ r, st[r]? = some (.lst ((bs.getD d.1.toNat []).map rowV)) → Q (.ref r) st) → (idxA (.ref mb) (.int d.1) st).Is Q := fun {Q} k => ix_house hB d1 d2 k
  generalize bs.getD d.1.toNat [] = B at lg q hH
  refine hH fun r hr => ?_
  refine taken_is hr lg hx ?_
  cases hk : takenM B d.2 x with
  | none =>
    rw [hk] at q
    simp! [natV]
    exact q
  | some k =>
    have kl := taken_lt hk
    rw [hk] at q
    have hk0 : B[k]? = some B[k] := List.getElem?_eq_getElem kl
    have hk1 : B.getD k ([], none, none) = B[k] := by rw [List.getD_eq_getElem?_getD, hk0]; rfl
    have hg : (B.map rowV)[k]? = some (rowV B[k]) := by rw [List.getElem?_map, hk0]; rfl
    have hi : L2.ixN (B.map rowV).length (k : Int) = some k := by
      rw [List.length_map]
      unfold L2.ixN
      rw [if_pos (by omega), if_pos (by omega)]
      simp
    dsimp only at q
    rw [hk1] at q
    generalize B[k] = rw0 at q hg
    obtain ⟨p, o1, o2⟩ := rw0
    have er : rowV (p, o1, o2) = .tup [.str p, optV o1, optV o2] := rfl
    rw [er] at hg
    have hH2 : ∀ {Q : AV → Sto → Prop}, Q (optV o2) st → ((idxA (.ref mb) (.int d.1) st).Is fun x st => (idxA x (.int (k : Nat)) st).Is fun x st => (idxA x (.int 2) st).Is Q) := fun {Q} z => hH fun r' hr' => by
      rw [iix_l hr' hi hg, tx_2]
      exact z
    simp! [natV]
    refine hH2 ?_
    cases o2 with
    | none =>
      rw [show optV none = AV.non from rfl]
      simp! [if_true]
      exact q
    | some o =>
      rw [show optV (some o) = AV.int o from rfl] at hH2 ⊢
      simp! [if_true]
      refine hH2 ?_
      simp! [↓sel_is hN.1 m24 rfl]
      refine beyond_is (d := (d.1, o)) hN ?_
      dsimp only at q
      cases hb : beyF ws (d.1, o) with
      | none =>
        rw [hb] at q
        simp! [odV]
        rw [ib_addT (by simp; unfold lim; omega)]
        exact q
      | some d' =>
        rw [hb] at q
        have e : odV (some d') = .tup [.int d'.1, .int d'.2] := rfl
        rw [e]
        simp! [if_true]
        rw [ib_addT (by simp; unfold lim; omega)]
        exact q
/-! ### roads -/
theorem ix_last {st : Sto} {r : Nat} {D : List Door} {Q : AV → Sto → Prop} (h : st[r]? = some (.lst (D.map doorV))) (hn : D ≠ []) : (idxA (.ref r) (.int (-1)) st).Is Q = Q (doorV (D.getLastD (0, 0))) st := by
  have hl : 0 < D.length := List.length_pos_iff.mpr hn
  have e : L2.ixN (D.map doorV).length (-1) = some (D.length - 1) := by
    rw [List.length_map]
    unfold L2.ixN
    rw [if_neg (by omega), if_pos (by omega)]
    congr 1
    omega
  have hg : (D.map doorV)[D.length - 1]? = some (doorV (D.getLastD (0, 0))) := by
    rw [List.getElem?_map, List.getElem?_eq_getElem (by omega)]
    have : D.getLastD (0, 0) = D[D.length - 1] := by
      rw [List.getLastD_eq_getLast?, List.getLast?_eq_getElem?, List.getElem?_eq_getElem (by omega)]
      rfl
    rw [this]
    rfl
  rw [iix_l h e hg]
theorem im_idx {st : Sto} {r k : Nat} {D : List Door} {d : Door} {Q : AV → Sto → Prop} (h : st[r]? = some (.lst (D.map doorV))) (hk : D.findIdx? (fun y => decide (y = d)) = some k) : (bmeth Sel.lst 6 (.ref r) [doorV d] st).Is Q = Q (.int (k : Nat)) st := by
  have h1 : pdS st (.ref r) = some (.list (D.map doorD)) := pdS_of (pd_lst h fun y _ => pd_door 6 st y) (can_map fun y _ => can_door y)
  have h2 : pdS st (doorV d) = some (doorD d) := pdS_of (pd_door 7 st d) (can_door d)
  have e : bmeth Sel.lst 6 (.ref r) [doorV d] st = .ok (.int (k : Nat)) st := by
    simp only [bmeth, lmeth, h, h1, h2]
    rw [List.findIdx?_map]
    have ef : ((fun e => PyData.eqv e (doorD d)) ∘ doorD) = fun y => decide (y = d) := by
      funext y
      exact eqv_door y d
    rw [ef, hk]
  rw [e]
  rfl
theorem find_door {D : List Door} {d : Door} (h : d ∈ D) : ∃ k, D.findIdx? (fun y => decide (y = d)) = some k := by
  cases e : D.findIdx? (fun y => decide (y = d)) with
  | some k => exact ⟨k, rfl⟩
  | none =>
    have := List.findIdx?_eq_none_iff.mp e d h
    simp at this
theorem walk_step {nx : Door → NxM} {f : Nat} {road : List Door} {d : Door} (h : nx (road.getLastD (0, 0)) = .at d) (hm : d ∉ road) : walkM nx (f + 1) road = walkM nx f (road ++ [d]) := by
  rw [walkM, h]
  dsimp only
  rw [if_neg hm]
/-- where letters go within a net -/
structure Steady (cs : List Int) (nx : Door → NxM) : Prop where
  at_ : ∀ d d', isDoor cs d = true → nx d = .at d' → isDoor cs d' = true
theorem beyF_mem {ws : List Wire} {d d' : Door} : ∀ {o : Option Door}, ws.foldl (beyS d) o = some d' → o = some d' ∨ d' ∈ endsOf ws := by
  induction ws with
  | nil => intro o h; exact .inl h
  | cons w ws ih =>
    intro o h
    rcases ih (o := beyS d o w) h with h | h
    · unfold beyS at h
      split at h
      · injection h with h
        exact .inr (by rw [← h]; simp [endsOf])
      · split at h
        · injection h with h
          exact .inr (by rw [← h]; simp [endsOf])
        · exact .inl h
    · refine .inr ?_
      unfold endsOf at h ⊢
      rw [List.flatMap_cons]
      exact List.mem_append_right _ h
theorem next_steady {cs : List Int} {ws : List Wire} (hW : NetWf cs ws) (bs : List (List Row)) (x : Int) : Steady cs (nextM bs ws x) := ⟨fun d d' hd h => by
  unfold nextM at h
  split at h
  · cases h
  · split at h
    · cases h
    · rename_i e
      cases h
      rcases beyF_mem e with h | h
      · cases h
      · exact hW.doors _ h⟩
theorem road_len {cs : List Int} {road : List Door} (hc : ∀ c ∈ cs, 1 ≤ c ∧ c ≤ 4) (hl : cs.length ≤ 6) (hn : road.Nodup) (hd : ∀ d ∈ road, isDoor cs d = true) : road.length ≤ 24 := by
  have h1 : road.length ≤ (allD cs).length := List.Nodup.length_le_of_subset hn fun d h => mem_allD.mpr (hd d h)
  have h2 := doorsUpto_len hc cs.length (Nat.le_refl _)
  have e : doorsUpto cs cs.length = allD cs := rfl
  rw [e] at h2
  omega
theorem getLastD_mem {D : List Door} (h : D ≠ []) : D.getLastD (0, 0) ∈ D := by
  rw [List.getLastD_eq_getLast?, List.getLast?_eq_getElem?]
  have hl : 0 < D.length := List.length_pos_iff.mpr h
  rw [List.getElem?_eq_getElem (by omega)]
  exact List.getElem_mem _
theorem NetIns.ext {st s : Sto} {n a b d : Nat} {cs : List Int} {ws : List Wire} (h : NetIns st n a b d cs ws) (x : Ext st s) : NetIns s n a b d cs ws := ⟨x _ _ h.1, x _ _ h.2.1, x _ _ h.2.2.1, x _ _ h.2.2.2⟩
end L3

/-! LNxt: books at a place are books. -/
namespace L3
open PySem L2
/-! ### the look ahead of a way -/
theorem bks_yes {n m a b t mb : Nat} {st : Sto} {cs : List Int} {ws : List Wire} {bs : List (List Row)} {Q : AV → Sto → Prop} (hN : NetIns st m a b t cs ws) (hl : cs.length ≤ 6) (hB : BksAt st mb cs bs) (q : ∀ s, Ext st s → Q (.bl true) s) : (callF tab (n + 5) g_is_books [.ref mb, .ref m] st).Is Q := by
  obtain ⟨⟨lo, rs, o1, o2, o3⟩, hO⟩ := hB
  have lB := hO.1
  refine books_list (bs := List.replicate cs.length true) hN o1 (by rw [List.length_map]; omega) (fun _ => ⟨by rw [List.length_replicate, List.length_map]; omega, fun i u c k1 k2 => ?_⟩) fun s2 h2 => ?_
  · rw [List.eq_of_mem_replicate (List.mem_of_getElem? k2)]
    rw [List.getElem?_map] at k1
    obtain ⟨r', hr, rfl⟩ := Option.map_eq_some_iff.mp k1
    have hi : i < bs.length := by have := (List.getElem?_eq_some_iff.mp hr).1; omega
    have e5 : bs[i]? = some bs[i] := List.getElem?_eq_getElem hi
    have hi2 : i < cs.length := by omega
    have e6 : cs[i]? = some cs[i] := List.getElem?_eq_getElem hi2
    obtain ⟨d1, d2⟩ := hO.2 _ _ _ e6 e5
    rw [List.getD_eq_getElem?_getD, e6]
    exact book_ok (o3 i r' _ hr e5).2 d1 d2
  · rw [decide_eq_true (by rw [List.length_map]; omega), List.all_replicate]
    have e : (true && if cs.length = 0 then true else id true) = true := by split <;> rfl
    rw [e]
    exact q s2 h2
end L3

/-! LWay: ways of letters, by the program. -/
namespace L3
open PySem L2
set_option maxHeartbeats 2000000 in
theorem walked_is {n m a b t mb : Nat} {st : Sto} {cs : List Int} {ws : List Wire} {bs : List (List Row)} {d : Door} {x : Int} {Q : AV → Sto → Prop} (hN : NetIns st m a b t cs ws) (hW : NetWf cs ws) (hB : BksAt st mb cs bs) (hd : isDoor cs d = true) (hx : 0 ≤ x) (q : ∀ s r, Ext st s → st.length ≤ r → s[r]? = some (.lst ((walkM (nextM bs ws x) 30 [d]).1.map doorV)) → Q (.tup [.ref r, (walkM (nextM bs ws x) 30 [d]).2]) s) : (callF tab (n + 4) g_walked [.ref m, .ref mb, doorV d, .int x] st).Is Q := by
  have cA : chOk wAt = true := by decide
  have cD : chOk wDrop = true := by decide
  have cO : chOk wOut = true := by decide
  refine call_is rfl rfl ?_; simp only [List.map_cons, List.map_nil, List.cons_append, List.nil_append, List.replicate_succ, List.replicate_zero, Nat.reduceSub]
  simp! [c_walked]
  have g0 := get_push st (AO.lst [doorV d])
  have x0 := Ext.push st (AO.lst [doorV d])
  have r0 : st.length ≤ st.length := Nat.le_refl _
  generalize st ++ [AO.lst [doorV d]] = s0 at g0 x0 ⊢
  generalize hre : st.length = r at g0 r0 ⊢
  generalize hnx : nextM bs ws x = nx at q
  have hS : Steady cs nx := hnx ▸ next_steady hW bs x
  refine wh_is (fun k e s => ∃ (road : List Door) (z5 : Option AV), e = [some (.ref m), some (.ref mb), some (doorV d), some (.int x), some (.ref r), z5] ∧ Ext st s ∧ s[r]? = some (.lst (road.map doorV)) ∧ road ≠ [] ∧ road.Nodup ∧ (∀ y ∈ road, isDoor cs y = true) ∧ walkM nx k road = walkM nx 30 [d] ∧ road.length + k = 31) (fun k e s hI => ?_) _ 30 _ _ (by unfold wfuel; decide) ⟨[d], _, rfl, x0, g0, by simp, by simp, fun y hy => by rw [List.mem_singleton.mp hy]; exact hd, rfl, rfl⟩
  obtain ⟨road, z5, rfl, hE, hr, hne, hnd, hdo, hwk, hk⟩ := hI
  have hrl := road_len hW.cnt hW.len2 hnd hdo
  have hlast := hdo _ (getLastD_mem hne)
  have hN1 : NetIns s m a b t cs ws := ⟨hE _ _ hN.1, hE _ _ hN.2.1, hE _ _ hN.2.2.1, hE _ _ hN.2.2.2⟩
  have hB1 := hB.ext hE
  obtain ⟨f, rfl⟩ : ∃ f, k = f + 1 := ⟨k - 1, by omega⟩
  rw [walkM] at hwk
  simp! [c_walked_1, i_tst]
  unfold c_walked_2
  rw [ws_asg, i_call]
  simp! [↓ix_last hr hne]
  generalize road.getLastD (0, 0) = last at hwk hlast ⊢
  refine next_is hN1 hB1 hlast hx ?_
  rw [hnx]
  cases hn : nx last with
  | drop =>
    rw [hn] at hwk
    dsimp only at hwk
    rw [← hwk] at q
    simp! [nextV, ↓ic_neS cD cA]
    exact q s r hE (by omega) hr
  | out o =>
    rw [hn] at hwk
    dsimp only at hwk
    rw [← hwk] at q
    simp! [nextV, ↓ic_neS cO cA]
    exact q s r hE (by omega) hr
  | «at» d' =>
    rw [hn] at hwk
    dsimp only at hwk
    have ec : cutA [AV.str wAt, AV.int d'.1, AV.int d'.2] (some 1) none = [AV.int d'.1, AV.int d'.2] := rfl
    have ev : AV.tup [AV.int d'.1, AV.int d'.2] = doorV d' := rfl
    have hin := in_map (x := d') eqv_door hr (fun y => pd_door 6 s y) (can_door d') fun y _ => can_door y
    by_cases hm : d' ∈ road
    · rw [if_pos hm] at hwk
      have hin' : inA s (AV.tup [AV.int d'.1, AV.int d'.2]) (.ref r) = some true := by
        have h := hin
        simp only [hm, decide_true] at h
        exact h
      simp! [nextV, ↓ic_neS cA cA, ↓isl_tup, ec, ↓ic_in hin']
      obtain ⟨j, hj⟩ := find_door hm
      rw [hj] at hwk
      rw [← hwk] at q
      simp! [↓i_methL hr (show 6 ≤ 6 by decide), ↓isl_tup, ec]
      rw [ev, im_idx hr hj]
      simp! [if_true]
      exact q s r hE (by omega) hr
    · rw [if_neg hm] at hwk
      have hin' : inA s (AV.tup [AV.int d'.1, AV.int d'.2]) (.ref r) = some false := by
        have h := hin
        simp only [hm, decide_false] at h
        exact h
      simp! [nextV, ↓ic_neS cA cA, ↓isl_tup, ec, ↓ic_in hin']
      simp! [↓i_methL hr (show 0 ≤ 6 by decide), ↓isl_tup, ec, ↓im_app hr (show (road.map doorV).length < lim by rw [List.length_map]; unfold lim; omega)]
      refine ⟨f, by omega, road ++ [d'], _, rfl, Ext.set hE (by omega), by rw [get_set hr, List.map_append]; rfl, by simp, List.nodup_append.mpr ⟨hnd, by simp, fun y hy y' hy' => ?_⟩, fun y hy => ?_, hwk, by rw [List.length_append]; simp; omega⟩
      · rw [List.mem_singleton.mp hy']
        intro z
        exact hm (z ▸ hy)
      · rcases List.mem_append.mp hy with hy | hy
        · exact hdo y hy
        · rw [List.mem_singleton.mp hy]
          exact hS.at_ _ _ hlast hn
end L3

/-! LWy: the way told. -/
namespace L3
open PySem L2
theorem way_is {n m a b t mb : Nat} {st : Sto} {cs : List Int} {ws : List Wire} {bs : List (List Row)} {d : Door} {x : Int} {Q : AV → Sto → Prop} (hN : NetIns st m a b t cs ws) (hW : NetWf cs ws) (hB : BksAt st mb cs bs) (hd : isOuter cs ws d = true) (hx : 0 ≤ x ∧ x < 16) (q : ∀ s r, Ext st s → st.length ≤ r → s[r]? = some (.lst ((walkM (nextM bs ws x) 30 [d]).1.map doorV)) → Q (.tup [.ref r, (walkM (nextM bs ws x) 30 [d]).2]) s) : (callF tab (n + 7) g_way [.ref m, .ref mb, doorV d, .int x] st).Is Q := by
  have hd1 : isDoor cs d = true := by
    unfold isOuter at hd
    rw [Bool.and_eq_true] at hd
    exact hd.1
  refine call_is rfl rfl ?_; simp only [List.map_cons, List.map_nil, List.cons_append, List.nil_append, List.replicate_succ, List.replicate_zero, Nat.reduceSub]
  simp! [c_way]
  refine call_is rfl rfl ?_; simp only [List.map_cons, List.map_nil, List.cons_append, List.nil_append, List.replicate_succ, List.replicate_zero, Nat.reduceSub]
  simp! [c_look_at_books]
  refine bks_yes hN hW.len2 hB fun s1 h1 => ?_
  simp! [if_true]
  refine call_is rfl rfl ?_; simp only [List.map_cons, List.map_nil, List.cons_append, List.nil_append, List.replicate_succ, List.replicate_zero, Nat.reduceSub]
  simp! [c_look_at_coming, ↓sel_is (h1 _ _ hN.1) m21 rfl]
  refine is_outer_is (hN.ext h1) ?_
  rw [hd]
  simp! [if_true]
  refine whole_i ?_
  have h0 := hx.1
  have h16 := hx.2
  simp! [h0, h16]
  refine walked_is (hN.ext h1) hW (hB.ext h1) hd1 hx.1 fun s r h2 lr hr => ?_
  exact q s r (h1.trans h2) (by have := h1.lt; omega) hr
end L3

/-! LOut: the outer doors that a net tells. -/
namespace L3
open PySem L2
theorem m25 : tab.mt 10 25 = some g_Net_outer := rfl
set_option maxHeartbeats 1000000 in
theorem outer_is {n m a b t : Nat} {st : Sto} {cs : List Int} {ws : List Wire} {Q : AV → Sto → Prop} (hN : NetIns st m a b t cs ws) (hl : cs.length ≤ 6) (hc : ∀ c ∈ cs, 1 ≤ c ∧ c ≤ 4) (q : ∀ s r, Ext st s → st.length ≤ r → s[r]? = some (.lst ((outerL cs ws).map doorV)) → Q (.ref r) s) : (callF tab (n + 1) g_Net_outer [.ref m] st).Is Q := by
  refine call_is rfl rfl ?_; simp only [List.map_cons, List.map_nil, List.cons_append, List.nil_append, List.replicate_succ, List.replicate_zero, Nat.reduceSub]
  have x0 := Ext.push st (AO.lst [])
  have g0 := get_push st (AO.lst [])
  simp! [c_Net_outer, ↓fld_is (x0 _ _ hN.1) f22 rfl]
  rw [ir_1 (by omega) (by omega), Int.toNat_natCast, intsFrom_0]
  have hr0 : st.length ≤ st.length := Nat.le_refl _
  generalize hr1 : st.length = r at g0 hr0 ⊢
  generalize st ++ [AO.lst []] = s0 at x0 g0 ⊢
  refine for_is (fun k e s => ∃ (z2 : Option AV), e = [some (.ref m), some (.ref r), z2, none, none] ∧ Ext st s ∧ s[r]? = some (.lst ((doorsUpto cs k).map doorV)) ∧ k ≤ cs.length) _ 0 _ _ ⟨_, rfl, x0, g0, Nat.zero_le _⟩ (fun i y e s hy hI => ?_) fun e s hI => ?_
  · obtain ⟨z2, rfl, hE, hr, hk⟩ := hI
    rw [Nat.zero_add] at hr hk
    rw [List.getElem?_map] at hy
    obtain ⟨y1, hy1, rfl⟩ := Option.map_eq_some_iff.mp hy
    obtain ⟨hi, e1⟩ := List.getElem?_eq_some_iff.mp hy1
    rw [List.getElem_range] at e1
    subst e1
    rw [List.length_range] at hi
    refine ⟨rfl, _, rfl, ?_⟩
    simp only [bindT, bindT.go, wipeA, List.set_cons_zero, List.set_cons_succ]
    have hD := doorsUpto_len hc i hk
    have e1 : cs.getD (i : Int).toNat 0 = cs.getD i 0 := by rw [Int.toNat_natCast]
    have b1 : 1 ≤ cs.getD i 0 ∧ cs.getD i 0 ≤ 4 := by
      rw [List.getD_eq_getElem?_getD, List.getElem?_eq_getElem hi]
      exact hc _ (List.getElem_mem hi)
    simp! [c_Net_outer_2, ↓i_methL hr (show 1 ≤ 6 by decide), ↓fld_is (hE _ _ hN.1) f26 rfl, ↓ix_ints (hE _ _ hN.2.1) (show 0 ≤ (i : Int) by omega) (show (i : Int) < cs.length by omega)]
    rw [e1]
    have du : doorsUpto cs (i + 1) = doorsUpto cs i ++ (upto (cs.getD i 0)).map fun n => ((i : Int), n) := rfl
    generalize cs.getD i 0 = y at du b1
    rw [ir_1 (by omega) (by omega)]
    refine lc_m (upto y) .int (fun j => doorV (i, j)) (intsFrom_0 _ |>.trans (by unfold upto; rw [List.map_map]; rfl)) rfl (by rw [upto_len]; unfold lim; omega) (fun j hj => ⟨_, rfl, fun s' hs => ?_⟩) fun s2 h2 => ?_
    · simp only [bindT, bindT.go, wipeA, List.set_cons_zero, List.set_cons_succ]
      simp! [c_Net_outer_1]
      exact ⟨rfl, Ext.refl _⟩
    · have g := get_push s2 (AO.lst ((upto y).map fun j => doorV (i, j)))
      have h3 := h2.trans (Ext.push s2 (AO.lst ((upto y).map fun j => doorV (i, j))))
      generalize s2 ++ [AO.lst ((upto y).map fun j => doorV (i, j))] = s3 at g h3 ⊢
      rw [im_ext (h3 _ _ hr) g (by rw [List.length_map, List.length_map, upto_len]; unfold lim; omega)]
      have e2 : (doorsUpto cs i).map doorV ++ (upto y).map (fun j => doorV (i, j)) = (doorsUpto cs (i + 1)).map doorV := by
        rw [du, List.map_append, List.map_map]; rfl
      rw [e2]
      simp! [if_true]
      exact ⟨_, rfl, Ext.set (hE.trans h3) (by omega), by rw [get_set (h3 _ _ hr), show 0 + i + 1 = i + 1 by omega], by omega⟩
  · obtain ⟨z2, rfl, hE, hr, hk⟩ := hI
    rw [List.length_map, List.length_range, Nat.zero_add] at hr
    refine ⟨rfl, ?_⟩
    have hD := doorsUpto_len hc cs.length (Nat.le_refl _)
    simp! [if_true]
    rw [iw_lst hr]
    refine lc_fm (doorsUpto cs cs.length) doorV (fun d => (beyF ws d).isNone) doorV rfl (ck_lst hr) (by unfold lim; omega) (fun d hd => ⟨_, rfl, fun s' hs => ?_⟩) fun s3 h3 => ?_
    · have e := inA_dT (d := d) ((hE.trans hs) _ _ hN.2.2.2)
      rw [tbl_has] at e
      simp only [bindT, bindT.go, wipeA, List.set_cons_zero, List.set_cons_succ]
      simp! [c_Net_outer_3, c_Net_outer_4, ↓fld_is ((hE.trans hs) _ _ hN.1) f28 rfl, ↓ic_nin e]
      cases beyF ws d with
      | none => exact ⟨rfl, Ext.refl _, fun _ => Ext.refl _⟩
      | some _ => exact ⟨rfl, Ext.refl _, fun z => by cases z⟩
    · exact q _ _ (hE.trans (h3.trans (Ext.push _ _))) (by have := hE.lt; have := h3.lt; omega) (get_push _ _)
end L3

/-! K65p: ways, in plain words. -/
namespace L3
open PySem L2
/-! ### what a way is -/
def lkd (nx : Door → NxM) : List Door → Prop
  | [] => True
  | [_] => True
  | x :: y :: r => nx x = .at y ∧ lkd nx (y :: r)
abbrev idxD (R : List Door) (d : Door) : Nat := (R.findIdx? fun y => decide (y = d)).getD 0
abbrev lastR (R : List Door) : Door := R.getLastD (0, 0)
def endV (nx : Door → NxM) (R : List Door) : AV := match nx (lastR R) with
  | .at d => .tup [.str wRing, .int ((idxD R d : Nat) : Int)]
  | o => nextV (lastR R) o
structure WlkOk (cs : List Int) (nx : Door → NxM) (d : Door) (R : List Door) (e : AV) : Prop where
  hd : R[0]? = some d
  nd : R.Nodup
  lk : lkd nx R
  drs : ∀ y ∈ R, isDoor cs y = true
  cl : ∀ d', nx (lastR R) = .at d' → d' ∈ R
  fin : e = endV nx R
theorem lkd_snoc {nx : Door → NxM} {d : Door} : ∀ {R : List Door}, lkd nx R → R ≠ [] → nx (lastR R) = .at d → lkd nx (R ++ [d])
  | [], _, h, _ => absurd rfl h
  | [x], _, _, h => ⟨h, trivial⟩
  | x :: y :: r, ⟨h1, h2⟩, _, h => ⟨h1, lkd_snoc (R := y :: r) h2 (by simp) h⟩
theorem lkd_at {nx : Door → NxM} : ∀ {R : List Door} {i : Nat} {a b : Door}, lkd nx R → R[i]? = some a → R[i + 1]? = some b → nx a = .at b
  | [], _, _, _, _, h, _ => by cases h
  | [x], 0, _, _, _, _, h => by cases h
  | [x], i + 1, _, _, _, h, _ => by cases h
  | x :: y :: r, 0, a, b, h, h1, h2 => by
    cases h1
    cases h2
    exact h.1
  | x :: y :: r, i + 1, a, b, h, h1, h2 => lkd_at (R := y :: r) (i := i) h.2 h1 h2
theorem lkd_drop {nx : Door → NxM} : ∀ (k : Nat) {R : List Door}, lkd nx R → lkd nx (R.drop k)
  | 0, _, h => h
  | k + 1, [], _ => trivial
  | k + 1, [x], _ => by
    rw [List.drop_succ_cons, List.drop_nil]
    exact trivial
  | k + 1, x :: y :: r, h => lkd_drop k (R := y :: r) h.2
theorem walk_all {cs : List Int} {nx : Door → NxM} {d0 : Door} (hS : Steady cs nx) (hc : ∀ c ∈ cs, 1 ≤ c ∧ c ≤ 4) (hl : cs.length ≤ 6) : ∀ (k : Nat) (road : List Door), road[0]? = some d0 → road.Nodup → lkd nx road → (∀ y ∈ road, isDoor cs y = true) → road.length + k = 31 → WlkOk cs nx d0 (walkM nx k road).1 (walkM nx k road).2
  | 0, road, _, hn, _, hd, h => by
    have := road_len hc hl hn hd
    omega
  | f + 1, road, h0, hn, lk, hd, h => by
    have hne : road ≠ [] := fun z => by rw [z] at h0; cases h0
    have hlast := hd _ (getLastD_mem hne)
    unfold walkM
    cases hx : nx (road.getLastD (0, 0)) with
    | drop => exact ⟨h0, hn, lk, hd, fun d' e => (by rw [hx] at e; cases e), by
        unfold endV
        show _ = match nx (road.getLastD (0, 0)) with
          | .at d => AV.tup [.str wRing, .int ((idxD road d : Nat) : Int)]
          | o => nextV (lastR road) o
        rw [hx]
        rfl⟩
    | out o => exact ⟨h0, hn, lk, hd, fun d' e => (by rw [hx] at e; cases e), by
        unfold endV
        show _ = match nx (road.getLastD (0, 0)) with
          | .at d => AV.tup [.str wRing, .int ((idxD road d : Nat) : Int)]
          | o => nextV (lastR road) o
        rw [hx]
        rfl⟩
    | «at» d =>
      dsimp only
      by_cases hm : d ∈ road
      · rw [if_pos hm]
        exact ⟨h0, hn, lk, hd, fun d' e => (by rw [hx] at e; cases e; exact hm), by
          unfold endV
          show _ = match nx (road.getLastD (0, 0)) with
            | .at d => AV.tup [.str wRing, .int ((idxD road d : Nat) : Int)]
            | o => nextV (lastR road) o
          rw [hx]⟩
      · rw [if_neg hm]
        refine walk_all hS hc hl f (road ++ [d]) ?_ (List.nodup_append.mpr ⟨hn, by simp, fun y hy y' hy' => ?_⟩) (lkd_snoc lk hne hx) (fun y hy => ?_) (by rw [List.length_append]; simp; omega)
        · have : 0 < road.length := List.length_pos_iff.mpr hne
          rw [List.getElem?_append_left this]
          exact h0
        · rw [List.mem_singleton.mp hy']
          intro z
          exact hm (z ▸ hy)
        · rcases List.mem_append.mp hy with hy | hy
          · exact hd y hy
          · rw [List.mem_singleton.mp hy]
            exact hS.at_ _ _ hlast hx
theorem WlkOk.ne {cs : List Int} {nx : Door → NxM} {d : Door} {R : List Door} {e : AV} (h : WlkOk cs nx d R e) : R ≠ [] := fun z => by
  have := h.hd
  rw [z] at this
  cases this
theorem last_at {R : List Door} (h : R ≠ []) : R[R.length - 1]? = some (lastR R) := by
  have : 0 < R.length := List.length_pos_iff.mpr h
  unfold lastR
  rw [List.getLastD_eq_getLast?, List.getLast?_eq_getElem?, List.getElem?_eq_getElem (by omega)]
  rfl
/-! ### what lies behind a door -/
inductive Rch (nx : Door → NxM) (y : Door) : Door → Prop where
  | refl : Rch nx y y
  | step {z w : Door} : Rch nx y z → nx z = .at w → Rch nx y w
theorem Rch.trans {nx : Door → NxM} {a b c : Door} (h : Rch nx a b) (k : Rch nx b c) : Rch nx a c := by
  induction k with
  | refl => exact h
  | step _ e ih => exact ih.step e
theorem rch_on {nx : Door → NxM} {R : List Door} (h : lkd nx R) {i : Nat} {a : Door} (ha : R[i]? = some a) : ∀ (k : Nat) {b : Door}, R[i + k]? = some b → Rch nx a b
  | 0, b, hb => by
    rw [Nat.add_zero, ha] at hb
    cases hb
    exact .refl
  | k + 1, b, hb => by
    have hl := (List.getElem?_eq_some_iff.mp hb).1
    have e : R[i + k]? = some R[i + k] := List.getElem?_eq_getElem (by omega)
    exact (rch_on h ha k e).step (lkd_at (i := i + k) h e hb)
section
variable {cs : List Int} {nx : Door → NxM} {d : Door} {R : List Door} {e : AV}
theorem mem_drop {α : Type} {R : List α} {k : Nat} {z : α} : z ∈ R.drop k ↔ ∃ i, k ≤ i ∧ R[i]? = some z := by
  constructor
  · intro h
    obtain ⟨i, hi⟩ := List.getElem?_of_mem h
    rw [List.getElem?_drop] at hi
    exact ⟨k + i, by omega, hi⟩
  · rintro ⟨i, h1, h2⟩
    refine List.mem_of_getElem? (i := i - k) ?_
    rw [List.getElem?_drop, show k + (i - k) = i by omega]
    exact h2
theorem idx_at {R : List Door} {d : Door} (h : d ∈ R) : R[idxD R d]? = some d := by
  obtain ⟨k, hk⟩ := find_door h
  unfold idxD
  rw [hk]
  obtain ⟨h1, h2, _⟩ := List.findIdx?_eq_some_iff_getElem.mp hk
  show R[k]? = _
  rw [List.getElem?_eq_getElem h1, of_decide_eq_true h2]
theorem ring_mem (h : WlkOk cs nx d R e) {d' : Door} (hn : nx (lastR R) = .at d') {i : Nat} {y : Door} (hy : R[i]? = some y) (z : Door) : z ∈ R.drop i ++ R.drop (idxD R d') ↔ Rch nx y z := by
  have hc := idx_at (h.cl d' hn)
  have hl := last_at h.ne
  have hi := (List.getElem?_eq_some_iff.mp hy).1
  have rl : Rch nx y (lastR R) := rch_on h.lk hy (R.length - 1 - i) (by rw [show i + (R.length - 1 - i) = R.length - 1 by omega]; exact hl)
  rw [List.mem_append]
  constructor
  · rintro (hz | hz)
    · obtain ⟨j, h1, h2⟩ := mem_drop.mp hz
      exact rch_on h.lk hy (j - i) (by rw [show i + (j - i) = j by omega]; exact h2)
    · obtain ⟨j, h1, h2⟩ := mem_drop.mp hz
      exact (rl.step hn).trans (rch_on h.lk hc (j - idxD R d') (by rw [show idxD R d' + (j - idxD R d') = j by omega]; exact h2))
  · intro hr
    induction hr with
    | refl => exact .inl (mem_drop.mpr ⟨i, Nat.le_refl _, hy⟩)
    | @step z w _ hzw ih =>
      have go : ∀ k j, k ≤ j → R[j]? = some z → w ∈ R.drop k ∨ w = d' := fun k j hk hj => by
        have hjl := (List.getElem?_eq_some_iff.mp hj).1
        by_cases c : j + 1 < R.length
        · have e1 : R[j + 1]? = some R[j + 1] := List.getElem?_eq_getElem c
          have e2 := lkd_at h.lk hj e1
          rw [hzw] at e2
          cases e2
          exact .inl (mem_drop.mpr ⟨j + 1, by omega, e1⟩)
        · have : j = R.length - 1 := by omega
          subst this
          rw [hl] at hj
          cases hj
          rw [hn] at hzw
          cases hzw
          exact .inr rfl
      have dd : d' ∈ R.drop (idxD R d') := mem_drop.mpr ⟨_, Nat.le_refl _, hc⟩
      rcases ih with ih | ih
      · obtain ⟨j, h1, h2⟩ := mem_drop.mp ih
        rcases go i j h1 h2 with z | z
        · exact .inl z
        · exact .inr (z ▸ dd)
      · obtain ⟨j, h1, h2⟩ := mem_drop.mp ih
        rcases go _ j h1 h2 with z | z
        · exact .inr z
        · exact .inr (z ▸ dd)
theorem ring_goes (h : WlkOk cs nx d R e) {d' : Door} (hn : nx (lastR R) = .at d') {i : Nat} {y z : Door} (hy : R[i]? = some y) (hz : Rch nx y z) : ∃ w, nx z = .at w := by
  have hl := last_at h.ne
  have hm : z ∈ R := by
    rcases List.mem_append.mp ((ring_mem h hn hy z).mpr hz) with q | q
    · exact List.mem_of_mem_drop q
    · exact List.mem_of_mem_drop q
  obtain ⟨j, hj⟩ := List.getElem?_of_mem hm
  have hjl := (List.getElem?_eq_some_iff.mp hj).1
  by_cases c : j + 1 < R.length
  · exact ⟨_, lkd_at h.lk hj (List.getElem?_eq_getElem c)⟩
  · have : j = R.length - 1 := by omega
    subst this
    rw [hl] at hj
    cases hj
    exact ⟨_, hn⟩
theorem last_rch (h : WlkOk cs nx d R e) {i : Nat} {y : Door} (hy : R[i]? = some y) : Rch nx y (lastR R) := by
  have hi := (List.getElem?_eq_some_iff.mp hy).1
  exact rch_on h.lk hy (R.length - 1 - i) (by rw [show i + (R.length - 1 - i) = R.length - 1 by omega]; exact last_at h.ne)
end
theorem tails_eq {nx : Door → NxM} : ∀ (x : Door) (a b : List Door), lkd nx (x :: a) → lkd nx (x :: b) → (∀ d, nx (lastR (x :: a)) ≠ .at d) → (∀ d, nx (lastR (x :: b)) ≠ .at d) → a = b
  | x, [], [], _, _, _, _ => rfl
  | x, [], y :: b, _, h, h1, _ => absurd h.1 (h1 y)
  | x, y :: a, [], h, _, _, h1 => absurd h.1 (h1 y)
  | x, y :: a, z :: b, h, k, h1, k1 => by
    have e := h.1.symm.trans k.1
    injection e with e
    subst e
    rw [tails_eq y a b h.2 k.2 h1 k1]
theorem last_drop {R : List Door} {i : Nat} (h : i < R.length) : lastR (R.drop i) = lastR R := by
  unfold lastR
  rw [List.getLastD_eq_getLast?, List.getLastD_eq_getLast?, List.getLast?_drop, if_neg (by omega)]
/-! ### the way from a door on -/
def fromL (nx : Door → NxM) (R : List Door) (i : Nat) : List Door := match nx (lastR R) with
  | .at d => psort (R.drop i ++ R.drop (idxD R d))
  | _ => R.drop i
def fromE (nx : Door → NxM) (R : List Door) : AV := match nx (lastR R) with
  | .at _ => .tup [.str wRing]
  | o => nextV (lastR R) o
theorem from_alike {cs : List Int} {nx : Door → NxM} {d1 d2 : Door} {R1 R2 : List Door} {e1 e2 : AV} (h : WlkOk cs nx d1 R1 e1) (k : WlkOk cs nx d2 R2 e2) {i j : Nat} {y : Door} (hi : R1[i]? = some y) (hj : R2[j]? = some y) : fromL nx R1 i = fromL nx R2 j ∧ fromE nx R1 = fromE nx R2 := by
  have li := (List.getElem?_eq_some_iff.mp hi).1
  have lj := (List.getElem?_eq_some_iff.mp hj).1
  by_cases c1 : ∃ d, nx (lastR R1) = .at d
  · obtain ⟨d, hd⟩ := c1
    obtain ⟨d', hd'⟩ := ring_goes h hd hi (last_rch k hj)
    unfold fromL fromE
    rw [hd, hd']
    exact ⟨psort_ext fun z => by rw [ring_mem h hd hi, ring_mem k hd' hj], rfl⟩
  · by_cases c2 : ∃ d, nx (lastR R2) = .at d
    · obtain ⟨d, hd⟩ := c2
      exact absurd (ring_goes k hd hj (last_rch h hi)) c1
    · have n1 : ∀ d, nx (lastR R1) ≠ .at d := fun d z => c1 ⟨d, z⟩
      have n2 : ∀ d, nx (lastR R2) ≠ .at d := fun d z => c2 ⟨d, z⟩
      have t1 := lkd_drop i h.lk
      have t2 := lkd_drop j k.lk
      have l1 := last_drop li
      have l2 := last_drop lj
      rw [← l1] at n1
      rw [← l2] at n2
      have e1 : R1.drop i = y :: R1.drop (i + 1) := by
        rw [List.drop_eq_getElem_cons li, (List.getElem?_eq_some_iff.mp hi).2]
      have e2 : R2.drop j = y :: R2.drop (j + 1) := by
        rw [List.drop_eq_getElem_cons lj, (List.getElem?_eq_some_iff.mp hj).2]
      rw [e1] at t1 n1
      rw [e2] at t2 n2
      have ee := tails_eq y _ _ t1 t2 n1 n2
      have e3 : R1.drop i = R2.drop j := by rw [e1, e2, ee]
      have e4 : lastR R1 = lastR R2 := by rw [← l1, ← l2, e3]
      unfold fromL fromE
      rw [e4]
      cases hx : nx (lastR R2) with
      | «at» d => exact absurd ⟨d, hx⟩ c2
      | drop => exact ⟨e3, rfl⟩
      | out o => exact ⟨e3, rfl⟩
/-! ### books otherwise written -/
def outB (b : List Row) (door x : Int) : Option Int := (b.find? (hitR door x)).bind (·.2.2)
theorem outB_tk {door x : Int} : ∀ b : List Row, (match takenM b door x with | some k => (b.getD k ([], none, none)).2.2 | none => none) = outB b door x
  | [] => rfl
  | r :: b => by
    have ih := outB_tk (door := door) (x := x) b
    unfold takenM outB at *
    rw [List.findIdx?_cons, List.find?_cons]
    cases hitR door x r with
    | true => rfl
    | false =>
      dsimp only
      rw [← ih]
      cases b.findIdx? (hitR door x) with
      | none => rfl
      | some k => rfl
theorem outM_eq (bs : List (List Row)) (d : Door) (x : Int) : outM bs d x = outB (bs.getD d.1.toNat []) d.2 x := outB_tk _
structure Oth (c : Int) (b b' : List Row) : Prop where
  len : b'.length ≤ 12
  rows : ∀ r ∈ b', RowOk c r
  out : ∀ door x, outB b' door x = outB b door x
theorem Oth.refl {c : Int} {b : List Row} (h1 : b.length ≤ 12) (h2 : ∀ r ∈ b, RowOk c r) : Oth c b b := ⟨h1, h2, fun _ _ => rfl⟩
theorem Oth.trans {c : Int} {b b' b'' : List Row} (h : Oth c b b') (k : Oth c b' b'') : Oth c b b'' := ⟨k.len, k.rows, fun d x => (k.out d x).trans (h.out d x)⟩
theorem oth_once {c : Int} {a z : List Row} {r : Row} (h1 : (a ++ r :: z).length ≤ 11) (h2 : ∀ w ∈ a ++ r :: z, RowOk c w) : Oth c (a ++ r :: z) (a ++ [r] ++ [r] ++ z) := ⟨by simp at h1 ⊢; omega, fun w hw => h2 w (by
  rw [show a ++ [r] ++ [r] ++ z = a ++ r :: r :: z by simp] at hw
  rcases List.mem_append.mp hw with h | h
  · exact List.mem_append_left _ h
  · refine List.mem_append_right _ ?_
    rcases List.mem_cons.mp h with h | h
    · rw [h]; exact List.mem_cons_self ..
    · exact h), fun door x => by
  unfold outB
  rw [show a ++ [r] ++ [r] ++ z = a ++ (r :: r :: z) by simp, List.find?_append, List.find?_append, List.find?_cons, List.find?_cons]
  cases hitR door x r <;> rfl⟩
theorem oth_few {c : Int} {a z : List Row} {r : Row} (h1 : (a ++ r :: z).length ≤ 12) (h2 : ∀ w ∈ a ++ r :: z, RowOk c w) (hr : ∀ door x, hitR door x r = true) : Oth c (a ++ r :: z) (a ++ [r]) := ⟨by simp at h1 ⊢; omega, fun w hw => h2 w (by simp at hw ⊢; rcases hw with h | h <;> simp [h]), fun door x => by
  unfold outB
  rw [List.find?_append, List.find?_append, List.find?_cons, List.find?_cons, hr door x]⟩
theorem mt_two (f : Int) (h : f = 0 ∨ f = 1) : (mt 48 f || mt 49 f) = true := by
  rcases h with rfl | rfl <;> decide
theorem fig01 (a : Int) (i : Nat) : a / 2 ^ (3 - i) % 2 = 0 ∨ a / 2 ^ (3 - i) % 2 = 1 := by
  generalize a / 2 ^ (3 - i) = q
  omega
theorem fit4 (c0 c1 c2 c3 : Nat) (a : Int) : fitM [c0, c1, c2, c3] a = (mt c0 (a / 2 ^ (3 - 0) % 2) && (mt c1 (a / 2 ^ (3 - 1) % 2) && (mt c2 (a / 2 ^ (3 - 2) % 2) && (mt c3 (a / 2 ^ (3 - 3) % 2) && true)))) := rfl
theorem fit_two (c0 c1 c2 c3 : Nat) (a : Int) :
    (fitM [48, c1, c2, c3] a || fitM [49, c1, c2, c3] a) = fitM [120, c1, c2, c3] a ∧
    (fitM [c0, 48, c2, c3] a || fitM [c0, 49, c2, c3] a) = fitM [c0, 120, c2, c3] a ∧
    (fitM [c0, c1, 48, c3] a || fitM [c0, c1, 49, c3] a) = fitM [c0, c1, 120, c3] a ∧
    (fitM [c0, c1, c2, 48] a || fitM [c0, c1, c2, 49] a) = fitM [c0, c1, c2, 120] a := by
  have m0 := mt_two _ (fig01 a 0)
  have m1 := mt_two _ (fig01 a 1)
  have m2 := mt_two _ (fig01 a 2)
  have m3 := mt_two _ (fig01 a 3)
  have x0 : ∀ f, mt 120 f = true := fun f => rfl
  simp only [fit4]
  generalize a / 2 ^ (3 - 0) % 2 = f0 at *
  generalize a / 2 ^ (3 - 1) % 2 = f1 at *
  generalize a / 2 ^ (3 - 2) % 2 = f2 at *
  generalize a / 2 ^ (3 - 3) % 2 = f3 at *
  rw [x0, x0, x0, x0]
  generalize mt c0 f0 = g0
  generalize mt c1 f1 = g1
  generalize mt c2 f2 = g2
  generalize mt c3 f3 = g3
  generalize mt 48 f0 = u0 at *
  generalize mt 49 f0 = v0 at *
  generalize mt 48 f1 = u1 at *
  generalize mt 49 f1 = v1 at *
  generalize mt 48 f2 = u2 at *
  generalize mt 49 f2 = v2 at *
  generalize mt 48 f3 = u3 at *
  generalize mt 49 f3 = v3 at *
  refine ⟨?_, ?_, ?_, ?_⟩
  · clear m1 m2 m3; revert m0; cases u0 <;> cases v0 <;> cases g1 <;> cases g2 <;> cases g3 <;> decide
  · clear m0 m2 m3; revert m1; cases u1 <;> cases v1 <;> cases g0 <;> cases g2 <;> cases g3 <;> decide
  · clear m1 m0 m3; revert m2; cases u2 <;> cases v2 <;> cases g1 <;> cases g0 <;> cases g3 <;> decide
  · clear m1 m2 m0; revert m3; cases u3 <;> cases v3 <;> cases g1 <;> cases g2 <;> cases g0 <;> decide
/-- the two rows for a sign x at a spot -/
def twoP (p : List Nat) (s : Nat) (c : Nat) : List Nat := p.take s ++ [c] ++ p.drop (s + 1)
theorem two_fit {p : List Nat} {s : Nat} (hl : p.length = 4) (hs : p[s]? = some 120) (a : Int) : (fitM (twoP p s 48) a || fitM (twoP p s 49) a) = fitM p a := by
  match p, hl with
  | [c0, c1, c2, c3], _ =>
    obtain ⟨h0, h1, h2, h3⟩ := fit_two c0 c1 c2 c3 a
    match s with
    | 0 => cases hs; exact h0
    | 1 => cases hs; exact h1
    | 2 => cases hs; exact h2
    | 3 => cases hs; exact h3
    | s + 4 => cases hs
theorem two_legal {p : List Nat} {s : Nat} {c : Nat} (h : legal p = true) (hs : s < 4) (hc : c = 48 ∨ c = 49) : legal (twoP p s c) = true := by
  have hl := legal_len h
  refine legal_mk (by unfold twoP; simp; omega) fun z hz => ?_
  have hm : ∀ z ∈ p, z = 48 ∨ z = 49 ∨ z = 120 := fun z hz => by
    unfold legal at h
    rw [Bool.and_eq_true] at h
    have := of_decide_eq_true (List.all_eq_true.mp h.2 z hz)
    simpa using this
  unfold twoP at hz
  rcases List.mem_append.mp hz with hz | hz
  · rcases List.mem_append.mp hz with hz | hz
    · exact hm z (List.mem_of_mem_take hz)
    · rw [List.mem_singleton.mp hz]
      rcases hc with h | h <;> simp [h]
  · exact hm z (List.mem_of_mem_drop hz)
theorem oth_two {c : Int} {a z : List Row} {p : List Nat} {o1 o2 : Option Int} {s : Nat} (h1 : (a ++ (p, o1, o2) :: z).length ≤ 11) (h2 : ∀ w ∈ a ++ (p, o1, o2) :: z, RowOk c w) (hs : p[s]? = some 120) : Oth c (a ++ (p, o1, o2) :: z) (a ++ [(twoP p s 48, o1, o2), (twoP p s 49, o1, o2)] ++ z) := by
  have hr := h2 (p, o1, o2) (by simp)
  have hl := legal_len hr.pat
  have s4 : s < 4 := by have := (List.getElem?_eq_some_iff.mp hs).1; have hl' : p.length = 4 := hl; omega
  refine ⟨by simp at h1 ⊢; omega, fun w hw => ?_, fun door x => ?_⟩
  · simp at hw
    rcases hw with h | h | h | h
    · exact h2 w (by simp [h])
    · rw [h]; exact ⟨two_legal hr.pat s4 (.inl rfl), hr.come, hr.out⟩
    · rw [h]; exact ⟨two_legal hr.pat s4 (.inr rfl), hr.come, hr.out⟩
    · exact h2 w (by simp [h])
  · have hf := two_fit (a := x) hl hs
    have e0 : hitR door x (twoP p s 48, o1, o2) = (fitM (twoP p s 48) x && (decide (o1 = none) || decide (o1 = some door))) := rfl
    have e1 : hitR door x (twoP p s 49, o1, o2) = (fitM (twoP p s 49) x && (decide (o1 = none) || decide (o1 = some door))) := rfl
    have e2 : hitR door x (p, o1, o2) = (fitM p x && (decide (o1 = none) || decide (o1 = some door))) := rfl
    unfold outB
    rw [show a ++ [(twoP p s 48, o1, o2), (twoP p s 49, o1, o2)] ++ z = a ++ ((twoP p s 48, o1, o2) :: (twoP p s 49, o1, o2) :: z) by simp, List.find?_append, List.find?_append, List.find?_cons, List.find?_cons, List.find?_cons, e0, e1, e2, ← hf]
    generalize (decide (o1 = none) || decide (o1 = some door)) = g
    cases fitM (twoP p s 48) x <;> cases fitM (twoP p s 49) x <;> cases g <;> cases List.find? (hitR door x) a <;> rfl
/-! ### the same ways -/
theorem walk_same {cs : List Int} {nx nx' : Door → NxM} (hS : Steady cs nx) (hE : ∀ d, isDoor cs d = true → nx d = nx' d) : ∀ (k : Nat) (road : List Door), road ≠ [] → (∀ y ∈ road, isDoor cs y = true) → walkM nx k road = walkM nx' k road
  | 0, _, _, _ => rfl
  | k + 1, road, hne, h => by
    have hlast := h _ (getLastD_mem hne)
    unfold walkM
    rw [← hE _ hlast]
    cases hx : nx (road.getLastD (0, 0)) with
    | drop => rfl
    | out o => rfl
    | «at» d =>
      dsimp only
      by_cases c : d ∈ road
      · rw [if_pos c, if_pos c]
      · rw [if_neg c, if_neg c]
        refine walk_same hS hE k _ (by simp) fun y hy => ?_
        rcases List.mem_append.mp hy with hy | hy
        · exact h y hy
        · rw [List.mem_singleton.mp hy]
          exact hS.at_ _ _ hlast hx
theorem next_same {bs bs' : List (List Row)} {ws : List Wire} {x x' : Int} {d : Door} (h : outM bs d x = outM bs' d x') : nextM bs ws x d = nextM bs' ws x' d := by
  unfold nextM
  rw [h]
/-- addresses that fit the same patterns -/
theorem out_same {b : List Row} {door x x' : Int} (h : b.map (fun r => fitM r.1 x) = b.map fun r => fitM r.1 x') : outB b door x = outB b door x' := by
  induction b with
  | nil => rfl
  | cons r b ih =>
    rw [List.map_cons, List.map_cons] at h
    injection h with h1 h2
    have ih := ih h2
    unfold outB at *
    have e : hitR door x r = hitR door x' r := by
      unfold hitR
      rw [h1]
    rw [List.find?_cons, List.find?_cons, e]
    cases hitR door x' r with
    | true => rfl
    | false => exact ih
end L3

/-! K65a: what the law's own next step says, and its look at a way. -/
namespace L3
open PySem L2
theorem comes_is {n m a b t mb : Nat} {st : Sto} {cs : List Int} {ws : List Wire} {bs : List (List Row)} {d : Door} {x : Int} {Q : AV → Sto → Prop} (hN : NetIns st m a b t cs ws) (hB : BksAt st mb cs bs) (hd : isDoor cs d = true) (hx : 0 ≤ x) (q : Q (nextV d (nextM bs ws x d)) st) : (callF tab (n + 3) g_law_comes_to [.ref m, .ref mb, doorV d, .int x] st).Is Q := by
  obtain ⟨d1, d2, d3, d4⟩ := door_house hd
  obtain ⟨b1, b2⟩ := house_ok (mb := mb) hB.ok (show d.1.toNat < cs.length by omega)
  have lg : ∀ r ∈ bs.getD d.1.toNat [], legal r.1 = true := fun r hr => (b2 r hr).pat
  have ed : doorV d = .tup [.int d.1, .int d.2] := rfl
  rw [ed]
  refine call_is rfl rfl ?_; simp only [List.map_cons, List.map_nil, List.cons_append, List.nil_append, List.replicate_succ, List.replicate_zero, Nat.reduceSub]
  unfold c_law_comes_to
  rw [ws_asg, i_call]
  simp! [if_true]
  unfold nextM outM at q
  have hH : ∀ {Q : AV → Sto → Prop}, (∀ r, st[r]? = some (.lst ((bs.getD d.1.toNat []).map rowV)) → Q (.ref r) st) → (idxA (.ref mb) (.int d.1) st).Is Q := fun {Q} k => ix_house hB d1 d2 k
  generalize bs.getD d.1.toNat [] = B at lg q hH
  refine hH fun r hr => ?_
  refine taken_is hr lg hx ?_
  cases hk : takenM B d.2 x with
  | none =>
    rw [hk] at q
    simp! [natV]
    exact q
  | some k =>
    have kl := taken_lt hk
    rw [hk] at q
    have hk0 : B[k]? = some B[k] := List.getElem?_eq_getElem kl
    have hk1 : B.getD k ([], none, none) = B[k] := by rw [List.getD_eq_getElem?_getD, hk0]; rfl
    have hg : (B.map rowV)[k]? = some (rowV B[k]) := by rw [List.getElem?_map, hk0]; rfl
    have hi : L2.ixN (B.map rowV).length (k : Int) = some k := by
      rw [List.length_map]
      unfold L2.ixN
      rw [if_pos (by omega), if_pos (by omega)]
      simp
    dsimp only at q
    rw [hk1] at q
    generalize B[k] = rw0 at q hg
    obtain ⟨p, o1, o2⟩ := rw0
    have er : rowV (p, o1, o2) = .tup [.str p, optV o1, optV o2] := rfl
    rw [er] at hg
    have hH2 : ∀ {Q : AV → Sto → Prop}, Q (optV o2) st → ((idxA (.ref mb) (.int d.1) st).Is fun x st => (idxA x (.int (k : Nat)) st).Is fun x st => (idxA x (.int 2) st).Is Q) := fun {Q} z => hH fun r' hr' => by
      rw [iix_l hr' hi hg, tx_2]
      exact z
    simp! [natV]
    refine hH2 ?_
    cases o2 with
    | none =>
      rw [show optV none = AV.non from rfl]
      simp! [if_true]
      exact q
    | some o =>
      rw [show optV (some o) = AV.int o from rfl] at hH2 ⊢
      simp! [if_true]
      refine hH2 ?_
      simp! [↓sel_is hN.1 m24 rfl]
      refine beyond_is (d := (d.1, o)) hN ?_
      dsimp only at q
      cases hb : beyF ws (d.1, o) with
      | none =>
        rw [hb] at q
        simp! [odV]
        rw [ib_addT (by simp; unfold lim; omega)]
        exact q
      | some d' =>
        rw [hb] at q
        have e : odV (some d') = .tup [.int d'.1, .int d'.2] := rfl
        rw [e]
        simp! [↓sel_is hN.1 m24 rfl]
        refine beyond_is (d := (d.1, o)) hN ?_
        rw [hb, e]
        rw [ib_addT (by simp; unfold lim; omega)]
        exact q
/-! ### what is told as data -/
def eDat (nx : Door → NxM) (R : List Door) : PyData := match nx (lastR R) with
  | .at d => .tuple [.str ⟨wRing.toArray⟩, .int ((idxD R d : Nat) : Int)]
  | .drop => .tuple [.str ⟨wDrop.toArray⟩, .int (lastR R).1]
  | .out o => .tuple [.str ⟨wOut.toArray⟩, .int (lastR R).1, .int o]
theorem pd_end (n : Nat) (st : Sto) (nx : Door → NxM) (R' : List Door) : pd (n + 2) st (endV nx R') = some (eDat nx R') := by
  unfold endV eDat
  cases nx (lastR R') <;> rfl
theorem can_sg {x : List Nat} (h : chOk x = true) : (PyData.str ⟨x.toArray⟩).canLay0 = true := by
  unfold PyData.canLay0
  exact strOk_of h
theorem can_end (nx : Door → NxM) (W : List Door) : (eDat nx W).canLay0 = true := by
  have h1 := can_sg (x := wRing) (by decide)
  have h2 := can_sg (x := wDrop) (by decide)
  have h3 := can_sg (x := wOut) (by decide)
  unfold eDat
  cases nx (lastR W) with
  | drop => rw [can_tuple, List.all_cons, h2]; rfl
  | out o => rw [can_tuple, List.all_cons, h3]; rfl
  | «at» d => rw [can_tuple, List.all_cons, h1]; rfl
/-- a way in the store -/
structure WayAt (s : Sto) (v : AV) (nx : Door → NxM) (W : List Door) : Prop where
  at_ : ∃ r, v = .tup [.ref r, endV nx W] ∧ s[r]? = some (.lst (W.map doorV))
theorem WayAt.ext {s s' : Sto} {v : AV} {nx : Door → NxM} {W : List Door} (h : WayAt s v nx W) (x : Ext s s') : WayAt s' v nx W := by
  obtain ⟨r, h1, h2⟩ := h.at_
  exact ⟨r, h1, x _ _ h2⟩
def wayD (nx : Door → NxM) (W : List Door) : PyData := .tuple [.list (W.map doorD), eDat nx W]
theorem WayAt.pd {s : Sto} {v : AV} {nx : Door → NxM} {W : List Door} (h : WayAt s v nx W) (n : Nat) : L3.pd (n + 4) s v = some (wayD nx W) := by
  obtain ⟨r, rfl, h2⟩ := h.at_
  have e1 : L3.pd (n + 3) s (.ref r) = some (.list (W.map doorD)) := pd_lst h2 fun y _ => pd_door n s y
  have e2 : L3.pd (n + 3) s (endV nx W) = some (eDat nx W) := pd_end (n + 1) s nx W
  show (oAll (L3.pd (n + 3) s) [.ref r, endV nx W]).map PyData.tuple = _
  unfold oAll
  rw [e1]
  unfold oAll
  rw [e2]
  rfl
theorem can_way (nx : Door → NxM) (W : List Door) : (wayD nx W).canLay0 = true := by
  unfold wayD
  rw [can_tuple, List.all_cons, List.all_cons, can_end, can_map fun y _ => can_door y]
  rfl
theorem way_eq {s : Sto} {v u : AV} {nx nx' : Door → NxM} {W W' : List Door} (h : WayAt s v nx W) (k : WayAt s u nx' W') (e : wayD nx W = wayD nx' W') : eqA s v u = some true := eqA_same (h.pd 5) (e ▸ k.pd 5) (can_way nx W)
theorem cut_tz {α : Type} (xs : List α) {z : Int} (h0 : 0 ≤ z) : cutA xs none (some z) = xs.take z.toNat := by
  unfold cutA
  have e2 : HT.sIx xs.length xs.length (some z) = min z.toNat xs.length := by
    show (if z < 0 then _ else _) = _
    rw [if_neg (by omega)]
  rw [e2, HT.sIx_none, List.drop_zero, Nat.sub_zero]
  by_cases c : z.toNat ≤ xs.length
  · rw [Nat.min_eq_left c]
  · rw [Nat.min_eq_right (by omega), List.take_length, List.take_of_length_le (by omega)]
theorem cut_dz {α : Type} (xs : List α) {z : Int} (h0 : 0 ≤ z) : cutA xs (some z) none = xs.drop z.toNat := by
  unfold cutA
  have e : HT.sIx xs.length 0 (some z) = min z.toNat xs.length := by
    show (if z < 0 then _ else _) = _
    rw [if_neg (by omega)]
  rw [e, HT.sIx_none]
  rw [List.take_of_length_le (by rw [List.length_drop]; omega)]
  by_cases c : z.toNat ≤ xs.length
  · rw [Nat.min_eq_left c]
  · rw [Nat.min_eq_right (by omega), List.drop_length, List.drop_of_length_le (by omega)]
theorem cut_t {α : Type} (xs : List α) (k : Nat) : cutA xs none (some (k : Int)) = xs.take k := by rw [cut_tz xs (by omega), Int.toNat_natCast]
theorem cut_d {α : Type} (xs : List α) (k : Nat) : cutA xs (some (k : Int)) none = xs.drop k := by rw [cut_dz xs (by omega), Int.toNat_natCast]
theorem ix_door {st : Sto} {r i : Nat} {D : List Door} {d : Door} {Q : AV → Sto → Prop} (h : st[r]? = some (.lst (D.map doorV))) (hi : D[i]? = some d) : (idxA (.ref r) (.int (i : Int)) st).Is Q = Q (doorV d) st := by
  have hl := (List.getElem?_eq_some_iff.mp hi).1
  have e : L2.ixN (D.map doorV).length (i : Int) = some i := by
    rw [List.length_map]
    unfold L2.ixN
    rw [if_pos (by omega), if_pos (by omega), Int.toNat_natCast]
  rw [iix_l h e (get_map hi)]
theorem at_same {s : Sto} (d : Door) : eqA s (.tup [.str wAt, .int d.1, .int d.2]) (.tup [.str wAt, .int d.1, .int d.2]) = some true := by
  have h1 := can_sg (x := wAt) (by decide)
  refine eqA_same (d := .tuple [.str ⟨wAt.toArray⟩, .int d.1, .int d.2]) rfl rfl ?_
  rw [can_tuple, List.all_cons, h1]
  rfl
theorem end_same {s : Sto} (nx : Door → NxM) (W : List Door) : eqA s (endV nx W) (endV nx W) = some true := eqA_same (pd_end 7 s nx W) (pd_end 7 s nx W) (can_end nx W)
set_option maxHeartbeats 2000000 in
theorem well_is {n m a b t mb : Nat} {st : Sto} {cs : List Int} {ws : List Wire} {bs : List (List Row)} {d : Door} {x : Int} {W : List Door} {v : AV} {Q : AV → Sto → Prop} (hN : NetIns st m a b t cs ws) (hB : BksAt st mb cs bs) (hx : 0 ≤ x) (hw : WayAt st v (nextM bs ws x) W) (hok : WlkOk cs (nextM bs ws x) d W (endV (nextM bs ws x) W)) (h31 : W.length ≤ 31) (q : ∀ s, Ext st s → Q (.bl true) s) : (callF tab (n + 4) g_law_walked_well_2 [.ref m, .ref mb, doorV d, .int x, v] st).Is Q := by
  have cA : chOk wAt = true := by decide
  have cD : chOk wDrop = true := by decide
  have cO : chOk wOut = true := by decide
  obtain ⟨r, rfl, hr⟩ := hw.at_
  generalize hnx : nextM bs ws x = nx at *
  have hne := hok.ne
  have hlen : 0 < W.length := List.length_pos_iff.mpr hne
  refine call_is rfl rfl ?_; simp only [List.map_cons, List.map_nil, List.cons_append, List.nil_append, List.replicate_succ, List.replicate_zero, Nat.reduceSub]
  unfold c_law_walked_well_2
  rw [ws_asgT]
  simp! [if_true]
  simp only [bindT, bindT.go, wipeA, List.set_cons_zero, List.set_cons_succ]
  have ct : cutA (W.map doorV) none (some 1) = [doorV d] := by
    rw [cutA_map, show (1 : Int) = ((1 : Nat) : Int) from rfl, cut_t]
    have h0 := hok.hd
    cases W with
    | nil => exact absurd rfl hne
    | cons y W =>
      cases h0
      rfl
  simp! [↓isl_lst hr, ct]
  have g1 := get_push st (AO.lst [doorV d])
  have x1 := Ext.push st (AO.lst [doorV d])
  have l1 : (st ++ [AO.lst [doorV d]]).length = st.length + 1 := by rw [List.length_append]; rfl
  generalize st ++ [AO.lst [doorV d]] = s1 at g1 x1 l1 ⊢
  have g2 := get_push s1 (AO.lst [doorV d])
  have x2 := Ext.push s1 (AO.lst [doorV d])
  generalize s1 ++ [AO.lst [doorV d]] = s2 at g2 x2 ⊢
  have e12 : eqA s2 (.ref st.length) (.ref s1.length) = some true := by
    have p1 := pd_lst (xs := [d]) (g := doorV) (x2 _ _ g1) fun y _ => pd_door 6 s2 y
    have p2 := pd_lst (xs := [d]) (g := doorV) g2 fun y _ => pd_door 6 s2 y
    exact eqA_same p1 p2 (can_map fun y _ => can_door y)
  have E2 := x1.trans x2
  have hr2 := E2 _ _ hr
  have hll : (firsts W).length = W.length := by rw [firsts_all hok.nd]
  have hsl : ∀ {Q : AV → Sto → Prop}, (slenA (.ref r) s2).Is Q = Q (.int W.length) s2 := fun {Q} => by
    have := il_slenP (ps := W) (Q := Q) (show s2[r]? = some (.lst (W.map pairV)) from hr2) (by omega)
    rw [this, hll]
  have hlt : ¬ ((W.length : Int) < W.length) := by omega
  have hsub : ((W.length : Int) - 1).toNat = W.length - 1 := by omega
  simp! [↓ic_ne e12, ↓hsl, ↓il_len hr2, List.length_map, hlt]
  rw [ir_1 (by omega) (by omega), hsub, intsFrom_0]
  refine for_is (fun k e s => (∃ z5, e = [some (AV.ref m), some (AV.ref mb), some (doorV d), some (AV.int x), some (AV.tup [AV.ref r, endV nx W]), z5, none, some (AV.ref r), some (endV nx W)]) ∧ s = s2) _ 0 _ _ ⟨⟨_, rfl⟩, rfl⟩ (fun i y e s hy hI => ?_) fun e s hI => ?_
  · obtain ⟨⟨z5, rfl⟩, rfl⟩ := hI
    rw [List.getElem?_map] at hy
    obtain ⟨y1, hy1, rfl⟩ := Option.map_eq_some_iff.mp hy
    obtain ⟨hi, e1⟩ := List.getElem?_eq_some_iff.mp hy1
    rw [List.getElem_range] at e1
    subst e1
    rw [List.length_range] at hi
    refine ⟨rfl, _, rfl, ?_⟩
    simp only [bindT, bindT.go, wipeA, List.set_cons_zero, List.set_cons_succ]
    have ea : W[i]? = some W[i] := List.getElem?_eq_getElem (by omega)
    have eb : W[i + 1]? = some W[i + 1] := List.getElem?_eq_getElem (by omega)
    have hab := lkd_at hok.lk ea eb
    have hda := hok.drs _ (List.mem_of_getElem? ea)
    have ei : ((i : Nat) : Int) + 1 = ((i + 1 : Nat) : Int) := by omega
    unfold c_law_walked_well_2_1
    rw [ws_ite, i_cmp, i_call]
    simp! [↓ix_door hr2 ea]
    refine comes_is (hN.ext E2) (hB.ext E2) hda hx ?_
    rw [hnx, hab]
    simp! [nextV]
    rw [ei, ix_door hr2 eb, show doorV W[i + 1] = .tup [.int W[i + 1].1, .int W[i + 1].2] from rfl, ib_addT (by simp; unfold lim; omega)]
    simp! [↓ic_ne (at_same W[i + 1])]
    exact ⟨_, rfl⟩
  · obtain ⟨⟨z5, rfl⟩, rfl⟩ := hI
    have hlast := hok.drs _ (List.mem_of_getElem? (last_at hne))
    refine ⟨rfl, ?_⟩
    simp! [↓ix_last hr2 hne]
    refine comes_is (hN.ext E2) (hB.ext E2) hlast hx ?_
    have hcl := hok.cl
    have hen := end_same (s := s) nx W
    rw [hnx]
    unfold endV at hen ⊢
    have hll2 : lastR W = W.getLastD (0, 0) := rfl
    rw [hll2] at hen hcl ⊢
    cases hn : nx (W.getLastD (0, 0)) with
    | drop =>
      rw [hn] at hen
      dsimp only at hen ⊢
      simp! [nextV, ↓ic_eqS cD cA, ↓ic_eq hen]
      rw [nextV] at hen
      try rw [ic_eq hen]
      exact q s E2
    | out o =>
      rw [hn] at hen
      dsimp only at hen ⊢
      simp! [nextV, ↓ic_eqS cO cA]
      rw [nextV] at hen
      try rw [ic_eq hen]
      exact q s E2
    | «at» d' =>
      rw [hn] at hen
      dsimp only at hen ⊢
      have ec : cutA [AV.str wAt, AV.int d'.1, AV.int d'.2] (some 1) none = [AV.int d'.1, AV.int d'.2] := rfl
      have ev : AV.tup [AV.int d'.1, AV.int d'.2] = doorV d' := rfl
      have hm := hcl d' hn
      have hin := in_map (x := d') eqv_door hr2 (fun y => pd_door 6 s y) (can_door d') fun y _ => can_door y
      have hin' : inA s (AV.tup [AV.int d'.1, AV.int d'.2]) (.ref r) = some true := by
        have h := hin
        simp only [hm, decide_true] at h
        exact h
      obtain ⟨j, hj⟩ := find_door hm
      have hji : idxD W d' = j := by unfold idxD; rw [hj]; rfl
      rw [hji] at hen ⊢
      simp! [nextV, ↓ic_eqS cA cA, ↓isl_tup, ec, ↓ic_in hin', ↓i_methL hr2 (show 6 ≤ 6 by decide)]
      rw [ev, im_idx hr2 hj]
      simp! [↓ic_eq hen]
      exact q s E2
end L3

/-! K65b: a way from a door on. -/
namespace L3
open PySem L2
theorem frome_pd (nx : Door → NxM) (W : List Door) : ∃ D : PyData, (∀ n s, pd (n + 2) s (fromE nx W) = some D) ∧ D.canLay0 = true := by
  have h1 := can_sg (x := wRing) (by decide)
  have h2 := can_sg (x := wDrop) (by decide)
  have h3 := can_sg (x := wOut) (by decide)
  unfold fromE
  cases nx (lastR W) with
  | drop => exact ⟨.tuple [.str ⟨wDrop.toArray⟩, .int (lastR W).1], fun _ _ => rfl, by rw [can_tuple, List.all_cons, h2]; rfl⟩
  | out o => exact ⟨.tuple [.str ⟨wOut.toArray⟩, .int (lastR W).1, .int o], fun _ _ => rfl, by rw [can_tuple, List.all_cons, h3]; rfl⟩
  | «at» d => exact ⟨.tuple [.str ⟨wRing.toArray⟩], fun _ _ => rfl, by rw [can_tuple, List.all_cons, h1]; rfl⟩
def FromAt (s : Sto) (v : AV) (L : List Door) (E : AV) : Prop := ∃ r, v = .tup [.ref r, E] ∧ s[r]? = some (.lst (L.map doorV))
theorem FromAt.ext {s s' : Sto} {v : AV} {L : List Door} {E : AV} (h : FromAt s v L E) (x : Ext s s') : FromAt s' v L E := by
  obtain ⟨r, h1, h2⟩ := h
  exact ⟨r, h1, x _ _ h2⟩
theorem from_eq {s : Sto} {v u : AV} {L : List Door} {nx : Door → NxM} {W : List Door} (h : FromAt s v L (fromE nx W)) (k : FromAt s u L (fromE nx W)) : eqA s v u = some true := by
  obtain ⟨D, d1, d2⟩ := frome_pd nx W
  have go : ∀ {v : AV}, FromAt s v L (fromE nx W) → pd 9 s v = some (.tuple [.list (L.map doorD), D]) := fun {v} h => by
    obtain ⟨r, rfl, h2⟩ := h
    have e1 : pd 8 s (.ref r) = some (.list (L.map doorD)) := pd_lst h2 fun y _ => pd_door 5 s y
    have e2 : pd 8 s (fromE nx W) = some D := d1 6 s
    show (oAll (pd 8 s) [.ref r, fromE nx W]).map PyData.tuple = _
    unfold oAll
    rw [e1]
    unfold oAll
    rw [e2]
    rfl
  refine eqA_same (go h) (go k) ?_
  rw [can_tuple, List.all_cons, List.all_cons, d2, can_map fun y _ => can_door y]
  rfl
theorem small_door {cs : List Int} {d : Door} (hl : cs.length ≤ 6) (hc : ∀ c ∈ cs, 1 ≤ c ∧ c ≤ 4) (h : isDoor cs d = true) : pSmall d = true := by
  obtain ⟨e1, e2, e3, e4⟩ := door_house h
  have : cs.getD d.1.toNat 0 ≤ 4 := by
    have hi : d.1.toNat < cs.length := by omega
    rw [List.getD_eq_getElem?_getD, List.getElem?_eq_getElem hi]
    exact (hc _ (List.getElem_mem hi)).2
  unfold pSmall
  exact decide_eq_true ⟨e1, by omega, e3, by omega⟩
set_option maxHeartbeats 2000000 in
theorem from_is {n : Nat} {st : Sto} {cs : List Int} {nx : Door → NxM} {W : List Door} {v : AV} {d0 y : Door} {Q : AV → Sto → Prop} (hl : cs.length ≤ 6) (hc : ∀ c ∈ cs, 1 ≤ c ∧ c ≤ 4) (hw : WayAt st v nx W) (hok : WlkOk cs nx d0 W (endV nx W)) (h31 : W.length ≤ 24) (hy : y ∈ W) (q : ∀ s u i, Ext st s → W[i]? = some y → FromAt s u (fromL nx W i) (fromE nx W) → Q u s) : (callF tab (n + 1) g_law_from_2 [v, doorV y] st).Is Q := by
  have cR : chOk wRing = true := by decide
  have cD : chOk wDrop = true := by decide
  have cO : chOk wOut = true := by decide
  obtain ⟨r, rfl, hr⟩ := hw.at_
  obtain ⟨i, hi⟩ := find_door hy
  have hat : W[i]? = some y := by
    have := idx_at hy
    unfold idxD at this
    rw [hi] at this
    exact this
  have hne := hok.ne
  refine call_is rfl rfl ?_; simp only [List.map_cons, List.map_nil, List.cons_append, List.nil_append, List.replicate_succ, List.replicate_zero, Nat.reduceSub]
  unfold c_law_from_2
  rw [ws_asgT]
  simp! [if_true]
  simp only [bindT, bindT.go, wipeA, List.set_cons_zero, List.set_cons_succ]
  simp! [↓i_methL hr (show 6 ≤ 6 by decide), ↓im_idx hr hi]
  have hcl := hok.cl
  have em : ∀ k, (W.map doorV).drop k = (W.drop k).map doorV := fun k => List.map_drop.symm
  have q := fun s u => q s u i
  unfold fromL fromE at q
  unfold endV
  cases hn : nx (lastR W) with
  | drop =>
    rw [hn] at q
    dsimp only at q ⊢
    simp! [nextV, ↓ic_neS cD cR, ↓isl_lst hr, cut_d, em]
    refine q _ _ (Ext.push _ _) hat ⟨_, rfl, ?_⟩
    rw [get_push]
  | out o =>
    rw [hn] at q
    dsimp only at q ⊢
    simp! [nextV, ↓ic_neS cO cR, ↓isl_lst hr, cut_d, em]
    refine q _ _ (Ext.push _ _) hat ⟨_, rfl, ?_⟩
    rw [get_push]
  | «at» d' =>
    rw [hn] at q
    dsimp only at q ⊢
    simp! [↓ic_neS cR cR, ↓isl_lst hr, cut_d, em]
    generalize idxD W d' = j at q ⊢
    have g1 := get_push st (AO.lst (List.map doorV (W.drop i)))
    have x1 := Ext.push st (AO.lst (List.map doorV (W.drop i)))
    generalize st ++ [AO.lst (List.map doorV (W.drop i))] = s1 at g1 x1 ⊢
    simp! [↓isl_lst (x1 _ _ hr), cut_d, em]
    have g2 := get_push s1 (AO.lst (List.map doorV (W.drop j)))
    have x2 := Ext.push s1 (AO.lst (List.map doorV (W.drop j)))
    generalize s1 ++ [AO.lst (List.map doorV (W.drop j))] = s2 at g2 x2 ⊢
    rw [ib_addL (x2 _ _ g1) g2 (by rw [List.length_map, List.length_map, List.length_drop, List.length_drop]; unfold lim; omega), ← List.map_append]
    have g3 := get_push s2 (AO.lst (List.map doorV (W.drop i ++ W.drop j)))
    have x3 := Ext.push s2 (AO.lst (List.map doorV (W.drop i ++ W.drop j)))
    generalize s2 ++ [AO.lst (List.map doorV (W.drop i ++ W.drop j))] = s3 at g3 x3 ⊢
    have hil := (List.getElem?_eq_some_iff.mp hat).1
    have hps : ∀ p ∈ W.drop i ++ W.drop j, pSmall p = true := fun p hp => by
      refine small_door hl hc (hok.drs p ?_)
      rcases List.mem_append.mp hp with h | h
      · exact List.mem_of_mem_drop h
      · exact List.mem_of_mem_drop h
    rw [il_ssetP (ps := W.drop i ++ W.drop j) g3 (fun z => by
      have := congrArg List.length z
      rw [List.length_append, List.length_drop] at this
      simp at this
      omega) ⟨by rw [List.length_append, List.length_drop, List.length_drop]; omega, List.all_eq_true.mpr hps⟩]
    simp! [if_true]
    refine q _ _ (x1.trans (x2.trans (x3.trans (Ext.push _ _)))) hat ⟨_, rfl, ?_⟩
    exact get_push _ _
set_option maxHeartbeats 2000000 in
theorem abehind_is {n : Nat} {st : Sto} {cs : List Int} {nx : Door → NxM} {W W' : List Door} {v u : AV} {d0 d1 : Door} {Q : AV → Sto → Prop} (hl : cs.length ≤ 6) (hc : ∀ c ∈ cs, 1 ≤ c ∧ c ≤ 4) (hw : WayAt st v nx W) (hok : WlkOk cs nx d0 W (endV nx W)) (hw' : WayAt st u nx W') (hok' : WlkOk cs nx d1 W' (endV nx W')) (q : ∀ s, Ext st s → Q (.bl true) s) : (callF tab (n + 2) g_law_alike_behind_2 [v, u] st).Is Q := by
  have l1 := road_len hc hl hok.nd hok.drs
  have l2 := road_len hc hl hok'.nd hok'.drs
  obtain ⟨r, hv, hr⟩ := hw.at_
  obtain ⟨r', hu, hr'⟩ := hw'.at_
  refine call_is rfl rfl ?_; simp only [List.map_cons, List.map_nil, List.cons_append, List.nil_append, List.replicate_succ, List.replicate_zero, Nat.reduceSub]
  unfold c_law_alike_behind_2
  rw [ws_loop, i_seq]
  have ex0 : ∀ {s : Sto} {Q : AV → Sto → Prop}, (idxA v (.int 0) s).Is Q = Q (.ref r) s := fun {s Q} => by rw [hv, tx_0]
  have ex1 : ∀ {s : Sto} {Q : AV → Sto → Prop}, (idxA u (.int 0) s).Is Q = Q (.ref r') s := fun {s Q} => by rw [hu, tx_0]
  simp! [↓ex0]
  rw [iw_lst hr]
  refine for_is (fun k e s => (∃ z2, e = [some v, some u, z2]) ∧ s = st) _ 0 _ _ ⟨⟨_, rfl⟩, rfl⟩ (fun i y e s hy hI => ?_) fun e s hI => ?_
  · obtain ⟨⟨z2, rfl⟩, rfl⟩ := hI
    rw [List.getElem?_map] at hy
    obtain ⟨y1, hy1, rfl⟩ := Option.map_eq_some_iff.mp hy
    clear hy
    have hym := List.mem_of_getElem? hy1
    clear hy1
    revert hym
    generalize y1 = y
    intro hym
    refine ⟨ck_lst hr, _, rfl, ?_⟩
    simp only [bindT, bindT.go, wipeA, List.set_cons_zero, List.set_cons_succ]
    have hin := in_map (x := y) eqv_door hr' (fun y => pd_door 6 s y) (can_door y) fun y _ => can_door y
    unfold c_law_alike_behind_2_1
    rw [ws_ite, i_cmp]
    simp! [↓ex1, ↓ic_in hin]
    by_cases hm : y ∈ W'
    · simp only [hm, decide_true, if_true]
      refine from_is hl hc hw hok l1 hym fun s1 a i1 x1 e1 F1 => ?_
      refine from_is hl hc (hw'.ext x1) hok' l2 hm fun s2 b i2 x2 e2 F2 => ?_
      obtain ⟨c1, c2⟩ := from_alike hok hok' e1 e2
      rw [← c1, ← c2] at F2
      simp! [↓ic_eq (from_eq (F1.ext x2) F2)]
      exact q _ (x1.trans x2)
    · simp only [hm, decide_false, if_false]
      simp! [if_true]
      exact ⟨_, rfl⟩
  · obtain ⟨⟨z2, rfl⟩, rfl⟩ := hI
    refine ⟨ck_lst hr, ?_⟩
    simp! [if_true]
    exact q s (Ext.refl _)
end L3

/-! K65c: marks of an address, books otherwise written. -/
namespace L3
open PySem L2
def marksM (bs : List (List Row)) (x : Int) : List (List Bool) := bs.map fun b => b.map fun r => fitM r.1 x
theorem zip_fs5 {α β γ : Type} (f : α → γ) : ∀ {a : List α} {b : List β}, a.length = b.length → a.map f = (a.zip b).map fun p => f p.1
  | [], [], _ => rfl
  | [], _ :: _, h => by cases h
  | _ :: _, [], h => by cases h
  | x :: a, y :: b, h => by
    rw [List.map_cons, List.zip_cons_cons, List.map_cons, zip_fs5 f (a := a) (b := b) (by simpa using h)]
set_option maxHeartbeats 2000000 in
theorem marks_is {n mb : Nat} {st : Sto} {cs : List Int} {bs : List (List Row)} {x : Int} {Q : AV → Sto → Prop} (hB : BksAt st mb cs bs) (hl : cs.length ≤ 6) (hx : 0 ≤ x) (q : ∀ s r, Ext st s → LLs AV.bl s 0 r (marksM bs x) → Q (.ref r) s) : (callF tab (n + 2) g_law_marks [.ref mb, .int x] st).Is Q := by
  obtain ⟨⟨lo, rs, o1, o2, o3⟩, hO⟩ := hB
  have lB := hO.1
  refine call_is rfl rfl ?_; simp only [List.map_cons, List.map_nil, List.cons_append, List.nil_append, List.replicate_succ, List.replicate_zero, Nat.reduceSub]
  unfold c_law_marks
  rw [ws_ret, i_lc, i_seq]
  simp! [if_true]
  rw [iw_lst o1]
  refine lc_r (rs.zip bs) (fun p => AV.ref p.1) AV.ref (fun s p y => s[y]? = some (.lst ((p.2.map fun r => fitM r.1 x).map AV.bl))) (fun s s' _ _ e h => e _ _ h) (zip_fs5 AV.ref o2) (ck_lst o1) (by rw [List.length_zip]; unfold lim; omega) (fun p hp => ⟨_, rfl, fun s hs => ?_⟩) fun s ys hE hy hP => ?_
  · obtain ⟨i, hi, rfl⟩ := List.getElem_of_mem hp
    rw [List.length_zip] at hi
    have e1 : rs[i]? = some rs[i] := List.getElem?_eq_getElem (by omega)
    have e2 : bs[i]? = some bs[i] := List.getElem?_eq_getElem (by omega)
    have e3 : cs[i]? = some cs[i] := List.getElem?_eq_getElem (by omega)
    have h2 := hs _ _ (o3 i _ _ e1 e2).2
    obtain ⟨k1, k2⟩ := hO.2 i _ _ e3 e2
    rw [List.getElem_zip]
    generalize bs[i] = b at h2 k1 k2
    generalize rs[i] = rr at h2
    simp only [bindT, bindT.go, wipeA, List.set_cons_zero, List.set_cons_succ]
    unfold c_law_marks_2
    rw [i_lc, i_seq]
    simp! [if_true]
    rw [iw_lst h2]
    refine lc_m b rowV (fun r => .bl (fitM r.1 x)) rfl (ck_lst h2) (by unfold lim; omega) (fun r hr => ⟨_, rfl, fun s3 hs3 => ?_⟩) fun s3 hs3 => ?_
    · have hleg := (k2 r hr).pat
      obtain ⟨p, a, o⟩ := r
      simp only [bindT, bindT.go, wipeA, List.set_cons_zero, List.set_cons_succ]
      unfold c_law_marks_1
      rw [i_call]
      simp! [rowV]
      exact fits_is hleg hx ⟨rfl, Ext.refl _⟩
    · refine ⟨s3.length, rfl, hs3.trans (Ext.push _ _), ?_⟩
      rw [get_push, List.map_map]
      rfl
  · refine q _ _ (hE.trans (Ext.push _ _)) ⟨ys, get_push _ _, ?_, fun i r b k1 k2 => ⟨Nat.zero_le _, ?_⟩⟩
    · rw [hy, List.length_zip]
      unfold marksM
      rw [List.length_map]
      omega
    · unfold marksM at k2
      rw [List.getElem?_map] at k2
      obtain ⟨b0, hb0, rfl⟩ := Option.map_eq_some_iff.mp k2
      have hi := (List.getElem?_eq_some_iff.mp hb0).1
      have e1 : rs[i]? = some rs[i] := List.getElem?_eq_getElem (by omega)
      have ez : (rs.zip bs)[i]? = some (rs[i], b0) := by
        rw [List.getElem?_zip_eq_some]
        exact ⟨e1, hb0⟩
      exact Ext.push _ _ _ _ (hP i _ _ ez k1)
/-! ### the sign x in a pattern -/
def allP : List (List Nat) := [48, 49, 120].flatMap fun a => [48, 49, 120].flatMap fun b => [48, 49, 120].flatMap fun c => [48, 49, 120].map fun d => [a, b, c, d]
def findOk (p : List Nat) : Bool := decide (Txt.find ⟨p.toArray⟩ ⟨[120].toArray⟩ < 0) || (decide (0 ≤ Txt.find ⟨p.toArray⟩ ⟨[120].toArray⟩) && decide (p[(Txt.find ⟨p.toArray⟩ ⟨[120].toArray⟩).toNat]? = some 120))
set_option maxHeartbeats 4000000 in
theorem find_all : allP.all findOk = true := by decide +kernel
theorem find_x {p : List Nat} (h : legal p = true) : Txt.find ⟨p.toArray⟩ ⟨[120].toArray⟩ < 0 ∨ (0 ≤ Txt.find ⟨p.toArray⟩ ⟨[120].toArray⟩ ∧ p[(Txt.find ⟨p.toArray⟩ ⟨[120].toArray⟩).toNat]? = some 120) := by
  have hm : p ∈ allP := by
    have hl := legal_len h
    unfold legal at h
    rw [Bool.and_eq_true] at h
    match p, hl with
    | [c0, c1, c2, c3], _ =>
      have hc : ∀ z ∈ [c0, c1, c2, c3], z ∈ [48, 49, 120] := fun z hz => of_decide_eq_true (List.all_eq_true.mp h.2 z hz)
      unfold allP
      refine List.mem_flatMap.mpr ⟨c0, hc _ (by simp), List.mem_flatMap.mpr ⟨c1, hc _ (by simp), List.mem_flatMap.mpr ⟨c2, hc _ (by simp), List.mem_map.mpr ⟨c3, hc _ (by simp), rfl⟩⟩⟩⟩
  have := List.all_eq_true.mp find_all p hm
  unfold findOk at this
  simpa using this
end L3

/-! K65d: books otherwise written, by the law. -/
namespace L3
open PySem L2
theorem i_methS {T : Tab} {f : CallF} {st : Sto} {m : Nat} {a : List Nat} {r : R (List AV)} {Q : AV → Sto → Prop} (hm : m = 10 ∨ m = 7 ∨ m = 11 ∨ m = 9) : ((selA T m (.str a) st).ok (r.bind fun xs st1 => methA f (selA T m (.str a) st) m (.str a) xs st1)).Is Q = r.Is fun xs st1 => (smeth m a xs st1).Is Q := by
  have e : selA T m (.str a) st = .str := by
    unfold selA
    dsimp only
    rw [if_pos hm]
  rw [e]
  exact R.is_bind
theorem im_find {a b : List Nat} {st : Sto} {Q : AV → Sto → Prop} : (smeth 11 a [.str b] st).Is Q = Q (.int (Txt.find ⟨a.toArray⟩ ⟨b.toArray⟩)) st := rfl
theorem cat_at {α : Type} {xs : List α} {i : Nat} {x : α} (h : xs[i]? = some x) : xs = xs.take i ++ x :: xs.drop (i + 1) := by
  obtain ⟨h1, h2⟩ := List.getElem?_eq_some_iff.mp h
  rw [← h2, ← List.drop_eq_getElem_cons h1, List.take_append_drop]
set_option maxHeartbeats 4000000 in
theorem more_is {n r : Nat} {st : Sto} {c num : Int} {b : List Row} {Q : AV → Sto → Prop} (hr : st[r]? = some (.lst (b.map rowV))) (hl : b.length ≤ 12) (hb : ∀ w ∈ b, RowOk c w) (q : ∀ s r' b', Ext st s → st.length ≤ r' → s[r']? = some (.lst (b'.map rowV)) → Oth c b b' → Q (.ref r') s) : (callF tab (n + 1) g_law_more_rows [.ref r, .int num] st).Is Q := by
  refine call_is rfl rfl ?_; simp only [List.map_cons, List.map_nil, List.cons_append, List.nil_append, List.replicate_succ, List.replicate_zero, Nat.reduceSub]
  unfold c_law_more_rows
  rw [ws_ite]
  simp! [↓il_len hr, List.length_map]
  by_cases h0 : (b.length : Int) = 0
  · simp! [h0, ↓il_listL hr]
    exact q _ _ b (Ext.push _ _) (Nat.le_refl _) (get_push _ _) (Oth.refl hl hb)
  by_cases h11 : (11 : Int) < b.length
  · simp! [h0, h11, ↓il_listL hr]
    exact q _ _ b (Ext.push _ _) (Nat.le_refl _) (get_push _ _) (Oth.refl hl hb)
  simp! [h0, h11, ↓il_len hr, List.length_map]
  rw [ib_mod (by omega)]
  obtain ⟨i1, i2⟩ := ixN_mod (n := b.length) num (by omega)
  have hge : 0 ≤ num % (b.length : Int) := Int.emod_nonneg _ h0
  generalize num % (b.length : Int) = at_ at i1 i2 hge ⊢
  obtain ⟨i, rfl⟩ : ∃ i : Nat, at_ = i := ⟨at_.toNat, by omega⟩
  rw [Int.toNat_natCast] at i1 i2
  have hbi : b[i]? = some b[i] := List.getElem?_eq_getElem i2
  have hcat := cat_at hbi
  have hlg := (hb _ (List.mem_of_getElem? hbi)).pat
  generalize hrow : b[i] = row at hbi hcat hlg
  obtain ⟨p, o1, o2⟩ := row
  have hg : (b.map rowV)[i]? = some (.tup [.str p, optV o1, optV o2]) := get_map hbi
  have i1' : L2.ixN (b.map rowV).length (i : Int) = some i := by rw [List.length_map]; exact i1
  have hp4 : p.length = 4 := legal_len hlg
  have l11 : b.length ≤ 11 := by omega
  have h1' : (b.take i ++ (p, o1, o2) :: b.drop (i + 1)).length ≤ 11 := by rw [← hcat]; exact l11
  have h2' : ∀ w ∈ b.take i ++ (p, o1, o2) :: b.drop (i + 1), RowOk c w := by rw [← hcat]; exact hb
  have ei : ((i : Nat) : Int) + 1 = ((i + 1 : Nat) : Int) := by omega
  have emd : ∀ k, (b.map rowV).drop k = (b.drop k).map rowV := fun k => List.map_drop.symm
  have emt : ∀ k, (b.map rowV).take k = (b.take k).map rowV := fun k => List.map_take.symm
  have hfd := find_x hlg
  simp! [↓iix_l hr i1' hg, ↓i_methS (show 11 = 10 ∨ 11 = 7 ∨ 11 = 11 ∨ 11 = 9 by decide), ↓im_find]
  generalize Txt.find ⟨p.toArray⟩ ⟨[120].toArray⟩ = spot at hfd ⊢
  have hsm : b.length ≤ lim := by unfold lim; omega
  have ltk : ∀ k, (b.take k).length ≤ 11 := fun k => by rw [List.length_take]; omega
  have ldr : ∀ k, (b.drop k).length ≤ 11 := fun k => by rw [List.length_drop]; omega
  have e12 : ∀ {xs ys : List AV} {s : Sto} {m m' : Nat} {Q : AV → Sto → Prop}, s[m]? = some (.lst xs) → s[m']? = some (.lst ys) → xs.length ≤ 100 → ys.length ≤ 100 → (binA .add (.ref m) (.ref m') s).Is Q = Q (.ref s.length) (s ++ [.lst (xs ++ ys)]) := fun h1 h2 l1 l2 => ib_addL h1 h2 (by unfold lim; omega)
  -- once more
  have once : (slA (AV.ref r) none (some ((i : Int) + 1)) st).Is fun x st => (binA Bop.add x (AV.ref (List.length st)) (st ++ [AO.lst [AV.tup [AV.str p, optV o1, optV o2]]])).Is fun x st => (slA (AV.ref r) (some ((i : Int) + 1)) none st).Is fun y st => (binA Bop.add x y st).Is Q := by
    rw [ei, isl_lst hr, cut_t, emt]
    have g1 := get_push st (AO.lst ((b.take (i + 1)).map rowV))
    have x1 := Ext.push st (AO.lst ((b.take (i + 1)).map rowV))
    generalize st ++ [AO.lst ((b.take (i + 1)).map rowV)] = s1 at g1 x1 ⊢
    have g2 := get_push s1 (AO.lst [AV.tup [AV.str p, optV o1, optV o2]])
    have x2 := Ext.push s1 (AO.lst [AV.tup [AV.str p, optV o1, optV o2]])
    generalize s1 ++ [AO.lst [AV.tup [AV.str p, optV o1, optV o2]]] = s2 at g2 x2 ⊢
    have lt1 := ltk (i + 1)
    have ld1 := ldr (i + 1)
    rw [e12 (x2 _ _ g1) g2 (by rw [List.length_map]; omega) (by simp)]
    generalize hM : (b.take (i + 1)).map rowV ++ [AV.tup [AV.str p, optV o1, optV o2]] = M
    have hM2 : M = (b.take (i + 1) ++ [(p, o1, o2)]).map rowV := by rw [← hM, List.map_append]; rfl
    have g3 := get_push s2 (AO.lst M)
    have x3 := Ext.push s2 (AO.lst M)
    generalize s2 ++ [AO.lst M] = s3 at g3 x3 ⊢
    rw [isl_lst ((x1.trans (x2.trans x3)) _ _ hr), cut_d, emd]
    have g4 := get_push s3 (AO.lst ((b.drop (i + 1)).map rowV))
    have x4 := Ext.push s3 (AO.lst ((b.drop (i + 1)).map rowV))
    generalize s3 ++ [AO.lst ((b.drop (i + 1)).map rowV)] = s4 at g4 x4 ⊢
    rw [e12 (x4 _ _ g3) g4 (by rw [hM2, List.length_map, List.length_append]; simp; omega) (by rw [List.length_map]; omega)]
    have E := x1.trans (x2.trans (x3.trans x4))
    refine q _ _ (b.take i ++ [(p, o1, o2)] ++ [(p, o1, o2)] ++ b.drop (i + 1)) (E.trans (Ext.push _ _)) E.lt ?_ ?_
    · rw [get_push, hM2, ← List.map_append, List.take_add_one, hbi]
      rfl
    · have := oth_once h1' h2'
      rw [← hcat] at this
      exact this
  by_cases c1 : num / 12 % 2 = 0
  · rw [if_pos c1]
    exact once
  rw [if_neg c1]
  by_cases c2 : spot < 0
  · rw [if_pos c2]
    exact once
  rw [if_neg c2]
  obtain ⟨s0, hs0⟩ := hfd.resolve_left c2
  obtain ⟨sp, rfl⟩ : ∃ sp : Nat, spot = sp := ⟨spot.toNat, by omega⟩
  rw [Int.toNat_natCast] at hs0
  have hs0 : p[sp]? = some 120 := hs0
  have hsl := (List.getElem?_eq_some_iff.mp hs0).1
  have esp : ((sp : Nat) : Int) + 1 = ((sp + 1 : Nat) : Int) := by omega
  rw [iw_str]
  refine lc_m [48, 49] (fun c => .str [c]) (fun c => rowV (twoP p sp c, o1, o2)) rfl rfl (by decide) (fun w hw => ⟨_, rfl, fun s hs => ?_⟩) fun s1 x1 => ?_
  · simp only [bindT, bindT.go, wipeA, List.set_cons_zero, List.set_cons_succ]
    unfold c_law_more_rows_1
    have hpl : p.length ≤ lim := by rw [hp4]; unfold lim; omega
    simp! [↓isl_str hpl]
    rw [cut_t]
    have la : (p.take sp).length ≤ 4 := by rw [List.length_take]; omega
    have ld : (p.drop (sp + 1)).length ≤ 4 := by rw [List.length_drop]; omega
    rw [ib_addS (by simp; unfold lim; omega), esp, cut_d, ib_addS (by simp; unfold lim; omega)]
    exact ⟨rfl, Ext.refl _⟩
  · have eTwo : ([48, 49].map fun c => rowV (twoP p sp c, o1, o2)) = ([(twoP p sp 48, o1, o2), (twoP p sp 49, o1, o2)] : List Row).map rowV := rfl
    rw [eTwo]
    generalize hT : ([(twoP p sp 48, o1, o2), (twoP p sp 49, o1, o2)] : List Row) = T
    have lT : T.length = 2 := by rw [← hT]; rfl
    have g2 := get_push s1 (AO.lst (T.map rowV))
    have x2 := Ext.push s1 (AO.lst (T.map rowV))
    generalize s1 ++ [AO.lst (T.map rowV)] = s2 at g2 x2 ⊢
    rw [isl_lst ((x1.trans x2) _ _ hr), cut_t, emt]
    have g3 := get_push s2 (AO.lst ((b.take i).map rowV))
    have x3 := Ext.push s2 (AO.lst ((b.take i).map rowV))
    generalize s2 ++ [AO.lst ((b.take i).map rowV)] = s3 at g3 x3 ⊢
    have lt1 := ltk i
    have ld1 := ldr (i + 1)
    rw [e12 g3 (x3 _ _ g2) (by rw [List.length_map]; omega) (by rw [List.length_map]; omega), ← List.map_append]
    have g4 := get_push s3 (AO.lst ((b.take i ++ T).map rowV))
    have x4 := Ext.push s3 (AO.lst ((b.take i ++ T).map rowV))
    generalize s3 ++ [AO.lst ((b.take i ++ T).map rowV)] = s4 at g4 x4 ⊢
    rw [isl_lst ((x1.trans (x2.trans (x3.trans x4))) _ _ hr), ei, cut_d, emd]
    have g5 := get_push s4 (AO.lst ((b.drop (i + 1)).map rowV))
    have x5 := Ext.push s4 (AO.lst ((b.drop (i + 1)).map rowV))
    generalize s4 ++ [AO.lst ((b.drop (i + 1)).map rowV)] = s5 at g5 x5 ⊢
    rw [e12 (x5 _ _ g4) g5 (by rw [List.length_map, List.length_append]; omega) (by rw [List.length_map]; omega), ← List.map_append]
    have E := x1.trans (x2.trans (x3.trans (x4.trans x5)))
    refine q _ _ (b.take i ++ T ++ b.drop (i + 1)) (E.trans (Ext.push _ _)) E.lt (get_push _ _) ?_
    have := oth_two h1' h2' hs0
    rw [← hcat, hT] at this
    exact this
def allX : List Nat := [120, 120, 120, 120]
theorem hit_all {p : List Nat} {o1 o2 : Option Int} (h1 : p = allX) (h2 : o1 = none) (door x : Int) : hitR door x (p, o1, o2) = true := by
  subst h1 h2
  rfl
set_option maxHeartbeats 4000000 in
theorem fewer_is {n r : Nat} {st : Sto} {c : Int} {b : List Row} {Q : AV → Sto → Prop} (hr : st[r]? = some (.lst (b.map rowV))) (hl : b.length ≤ 12) (hb : ∀ w ∈ b, RowOk c w) (q : ∀ s r' b', Ext st s → st.length ≤ r' → s[r']? = some (.lst (b'.map rowV)) → Oth c b b' → Q (.ref r') s) : (callF tab (n + 1) g_law_fewer_rows [.ref r] st).Is Q := by
  refine call_is rfl rfl ?_; simp only [List.map_cons, List.map_nil, List.cons_append, List.nil_append, List.replicate_succ, List.replicate_zero, Nat.reduceSub]
  unfold c_law_fewer_rows
  rw [ws_loop]
  simp! [↓il_len hr, List.length_map]
  rw [ir_1 (by omega) (by omega), Int.toNat_natCast, intsFrom_0]
  refine for_is (fun k e s => (∃ z1, e = [some (.ref r), z1]) ∧ s = st) _ 0 _ _ ⟨⟨_, rfl⟩, rfl⟩ (fun i y e s hy hI => ?_) fun e s hI => ?_
  · obtain ⟨⟨z1, rfl⟩, rfl⟩ := hI
    rw [List.getElem?_map] at hy
    obtain ⟨y1, hy1, rfl⟩ := Option.map_eq_some_iff.mp hy
    obtain ⟨hi, e1⟩ := List.getElem?_eq_some_iff.mp hy1
    rw [List.getElem_range] at e1
    subst e1
    rw [List.length_range] at hi
    refine ⟨rfl, _, rfl, ?_⟩
    simp only [bindT, bindT.go, wipeA, List.set_cons_zero, List.set_cons_succ]
    have hbi : b[i]? = some b[i] := List.getElem?_eq_getElem hi
    have hcat := cat_at hbi
    have hlg := (hb _ (List.mem_of_getElem? hbi)).pat
    generalize hrow : b[i] = row at hbi hcat hlg
    obtain ⟨p, o1, o2⟩ := row
    have hg : (b.map rowV)[i]? = some (.tup [.str p, optV o1, optV o2]) := get_map hbi
    have i1' : L2.ixN (b.map rowV).length (i : Int) = some i := by
      rw [List.length_map]
      unfold L2.ixN
      rw [if_pos (by omega), if_pos (by omega), Int.toNat_natCast]
    have ec : cutA [AV.str p, optV o1, optV o2] none (some 2) = [AV.str p, optV o1] := rfl
    have eq1 : eqA s (.tup [.str p, optV o1]) (.tup [.str [120, 120, 120, 120], .non]) = some (decide (p = allX ∧ o1 = none)) := by
      have p1 : pd 9 s (.tup [.str p, optV o1]) = some (.tuple [.str ⟨p.toArray⟩, optD o1]) := by cases o1 <;> rfl
      have p2 : pd 9 s (.tup [.str [120, 120, 120, 120], .non]) = some (.tuple [.str ⟨allX.toArray⟩, optD none]) := rfl
      have c1 : (PyData.tuple [.str ⟨p.toArray⟩, optD o1]).canLay0 = true := by
        rw [can_tuple, List.all_cons, List.all_cons, can_sg (legal_ch hlg), can_opt]
        rfl
      have c2 : (PyData.tuple [.str ⟨allX.toArray⟩, optD none]).canLay0 = true := by
        rw [can_tuple, List.all_cons, List.all_cons, can_sg (x := allX) (by decide), can_opt]
        rfl
      rw [eqA_of p1 p2 c1 c2, eqv_tuple, eqvAll_cons, eqvAll_cons, eqvAll_nil, eqv_str, eqv_opt]
      by_cases h1 : p = allX <;> by_cases h2 : o1 = none <;> simp [h1, h2]
    unfold c_law_fewer_rows_1
    rw [ws_ite, i_cmp]
    simp! [↓iix_l hr i1' hg, ↓isl_tup, ec, ↓ic_eq eq1]
    by_cases hh : p = allX ∧ o1 = none
    · simp only [hh, and_self, decide_true, if_true]
      have ei : ((i : Nat) : Int) + 1 = ((i + 1 : Nat) : Int) := by omega
      simp! [↓isl_lst hr]
      rw [ei, cut_t, show (b.map rowV).take (i + 1) = (b.take (i + 1)).map rowV from List.map_take.symm]
      refine q _ _ (b.take i ++ [(p, o1, o2)]) (Ext.push _ _) (Nat.le_refl _) ?_ ?_
      · rw [get_push, List.take_add_one, hbi]
        rfl
      · have := oth_few (c := c) (a := b.take i) (z := b.drop (i + 1)) (r := (p, o1, o2)) (by rw [← hcat]; exact hl) (by rw [← hcat]; exact hb) (hit_all hh.1 hh.2)
        rw [← hcat] at this
        exact this
    · simp only [hh, decide_false, if_false]
      simp! [if_true]
      exact ⟨_, rfl⟩
  · obtain ⟨⟨z1, rfl⟩, rfl⟩ := hI
    refine ⟨rfl, ?_⟩
    simp! [↓il_listL hr]
    exact q _ _ b (Ext.push _ _) (Nat.le_refl _) (get_push _ _) (Oth.refl hl hb)
end L3

/-! K65e: the books otherwise written, and the look at one address. -/
namespace L3
open PySem L2
def SameOut (cs : List Int) (bs bs' : List (List Row)) : Prop := ∀ d x, isDoor cs d = true → outM bs' d x = outM bs d x
set_option maxHeartbeats 4000000 in
theorem other_is {n mb : Nat} {st : Sto} {cs : List Int} {bs : List (List Row)} {num : Int} {Q : AV → Sto → Prop} (hB : BksAt st mb cs bs) (hl : cs.length ≤ 6) (q : ∀ s m bs', Ext st s → BksAt s m cs bs' → SameOut cs bs bs' → Q (.ref m) s) : (callF tab (n + 2) g_law_otherwise [.ref mb, .int num] st).Is Q := by
  obtain ⟨⟨lo, rs, o1, o2, o3⟩, hO⟩ := hB
  have lB := hO.1
  refine call_is rfl rfl ?_; simp only [List.map_cons, List.map_nil, List.cons_append, List.nil_append, List.replicate_succ, List.replicate_zero, Nat.reduceSub]
  unfold c_law_otherwise
  rw [ws_asg]
  simp! [if_true]
  have g0 := get_push st (AO.lst [])
  have x0 := Ext.push st (AO.lst [])
  have r0 : st.length ≤ st.length := Nat.le_refl _
  generalize st ++ [AO.lst []] = s0 at g0 x0 ⊢
  generalize hre : st.length = r at g0 r0 ⊢
  simp! [↓il_len (x0 _ _ o1), List.length_map]
  rw [ir_1 (by omega) (by omega), Int.toNat_natCast, intsFrom_0]
  refine for_is (fun k e s => ∃ (ts : List Nat) (bs' : List (List Row)) (z3 : Option AV), e = [some (.ref mb), some (.int num), some (.ref r), z3] ∧ Ext st s ∧ s[r]? = some (.lst (ts.map AV.ref)) ∧ ts.length = k ∧ bs'.length = k ∧ (∀ (j t : Nat) (b : List Row), ts[j]? = some t → bs'[j]? = some b → r ≠ t ∧ s[t]? = some (.lst (b.map rowV))) ∧ ∀ (j : Nat) (c : Int) (b b' : List Row), cs[j]? = some c → bs[j]? = some b → bs'[j]? = some b' → Oth c b b') _ 0 _ _ ⟨[], [], _, rfl, x0, g0, rfl, rfl, (fun j t b h => by cases h), (fun j c b b' _ _ h => by cases h)⟩ (fun i y e s hy hI => ?_) fun e s hI => ?_
  · obtain ⟨ts, bs', z3, rfl, hE, hr, t1, b1, h1, h2⟩ := hI
    rw [Nat.zero_add] at t1 b1
    rw [List.getElem?_map] at hy
    obtain ⟨y1, hy1, rfl⟩ := Option.map_eq_some_iff.mp hy
    obtain ⟨hi, e1⟩ := List.getElem?_eq_some_iff.mp hy1
    rw [List.getElem_range] at e1
    subst e1
    rw [List.length_range] at hi
    refine ⟨rfl, _, rfl, ?_⟩
    simp only [bindT, bindT.go, wipeA, List.set_cons_zero, List.set_cons_succ]
    have er : rs[i]? = some rs[i] := List.getElem?_eq_getElem hi
    have eb : bs[i]? = some bs[i] := List.getElem?_eq_getElem (by omega)
    have ec : cs[i]? = some cs[i] := List.getElem?_eq_getElem (by omega)
    obtain ⟨k1, k2⟩ := hO.2 i _ _ ec eb
    have hri := hE _ _ (o3 i _ _ er eb).2
    have hx : L2.ixN (rs.map AV.ref).length (i : Int) = some i := by
      rw [List.length_map]
      unfold L2.ixN
      rw [if_pos (by omega), if_pos (by omega), Int.toNat_natCast]
    have hg : (rs.map AV.ref)[i]? = some (.ref rs[i]) := get_map er
    unfold c_law_otherwise_1
    rw [ws_expr, i_meth]
    simp! [↓i_methL hr (show 0 ≤ 6 by decide), ↓iix_l (hE _ _ o1) hx hg]
    rw [ib_fdiv (by omega)]
    refine more_is hri k1 k2 fun s1 r1 b1' x1 l1 g1 O1 => ?_
    refine fewer_is g1 O1.len O1.rows fun s2 r2 b2' x2 l2 g2 O2 => ?_
    have X2 := x1.trans x2
    have hr2 := X2 _ _ hr
    have hrl := get_lt hr
    have hle := x1.lt
    rw [im_app hr2 (by rw [List.length_map]; unfold lim; omega)]
    have hne : r ≠ r2 := by omega
    refine ⟨ts ++ [r2], bs' ++ [b2'], _, rfl, Ext.set (hE.trans X2) (by omega), by rw [get_set hr2, List.map_append]; rfl, by rw [List.length_append, t1]; simp, by rw [List.length_append, b1]; simp, fun j t b q1 q2 => ?_, fun j c b b' q1 q2 q3 => ?_⟩
    · by_cases hj : j < ts.length
      · rw [List.getElem?_append_left hj] at q1
        rw [List.getElem?_append_left (by omega)] at q2
        obtain ⟨n1, n2⟩ := h1 j t b q1 q2
        exact ⟨n1, get_set_o (X2 _ _ n2) (Ne.symm n1)⟩
      · have e : j = ts.length := by
          have := (List.getElem?_eq_some_iff.mp q1).1
          rw [List.length_append] at this
          simp at this
          omega
        subst e
        rw [List.getElem?_append_right (Nat.le_refl _), Nat.sub_self] at q1
        rw [List.getElem?_append_right (by omega), show ts.length - bs'.length = 0 by omega] at q2
        cases q1
        cases q2
        exact ⟨hne, get_set_o g2 (Ne.symm hne)⟩
    · by_cases hj : j < bs'.length
      · rw [List.getElem?_append_left hj] at q3
        exact h2 j c b b' q1 q2 q3
      · have e : j = bs'.length := by
          have := (List.getElem?_eq_some_iff.mp q3).1
          rw [List.length_append] at this
          simp at this
          omega
        subst e
        rw [List.getElem?_append_right (Nat.le_refl _), Nat.sub_self] at q3
        cases q3
        rw [b1] at q1 q2
        rw [eb] at q2
        rw [ec] at q1
        cases q1
        cases q2
        exact O1.trans O2
  · obtain ⟨ts, bs', z3, rfl, hE, hr, t1, b1, h1, h2⟩ := hI
    rw [Nat.zero_add, List.length_map, List.length_range] at t1 b1
    refine ⟨rfl, ?_⟩
    simp! [if_true]
    refine q s r bs' hE ⟨⟨0, ts, hr, by omega, fun i t b q1 q2 => ⟨Nat.zero_le _, (h1 i t b q1 q2).2⟩⟩, by omega, fun i c b q1 q2 => ?_⟩ fun d x hd => ?_
    · have hi := (List.getElem?_eq_some_iff.mp q2).1
      have eb : bs[i]? = some bs[i] := List.getElem?_eq_getElem (by omega)
      have := h2 i c _ b q1 eb q2
      exact ⟨this.len, this.rows⟩
    · obtain ⟨d1, d2, _, _⟩ := door_house hd
      have ec : cs[d.1.toNat]? = some cs[d.1.toNat] := List.getElem?_eq_getElem (by omega)
      have eb : bs[d.1.toNat]? = some bs[d.1.toNat] := List.getElem?_eq_getElem (by omega)
      have eb' : bs'[d.1.toNat]? = some bs'[d.1.toNat] := List.getElem?_eq_getElem (by omega)
      rw [outM_eq, outM_eq, List.getD_eq_getElem?_getD, List.getD_eq_getElem?_getD, eb, eb']
      exact (h2 _ _ _ _ ec eb eb').out d.2 x
/-! ### one address -/
abbrev nxW (bs : List (List Row)) (ws : List Wire) (x : Int) : Door → NxM := nextM bs ws x
abbrev roadW (bs : List (List Row)) (ws : List Wire) (x : Int) (d : Door) : List Door := (walkM (nextM bs ws x) 30 [d]).1
theorem road_ok {cs : List Int} {ws : List Wire} (hW : NetWf cs ws) (bs : List (List Row)) (x : Int) {d : Door} (hd : isDoor cs d = true) : WlkOk cs (nextM bs ws x) d (roadW bs ws x d) (endV (nextM bs ws x) (roadW bs ws x d)) ∧ (walkM (nextM bs ws x) 30 [d]).2 = endV (nextM bs ws x) (roadW bs ws x d) := by
  have h := walk_all (next_steady hW bs x) hW.cnt hW.len2 30 [d] rfl (by simp) trivial (fun y hy => by rw [List.mem_singleton.mp hy]; exact hd) rfl
  have e := h.fin
  exact ⟨e ▸ h, e⟩
theorem same_road {cs : List Int} {ws : List Wire} (hW : NetWf cs ws) {bs bs' : List (List Row)} {x x' : Int} (h : ∀ d, isDoor cs d = true → outM bs' d x' = outM bs d x) {d : Door} (hd : isDoor cs d = true) : walkM (nextM bs' ws x') 30 [d] = walkM (nextM bs ws x) 30 [d] :=
  (walk_same (next_steady hW bs x) (fun d hd => (next_same (h d hd)).symm) 30 [d] (by simp) fun y hy => by rw [List.mem_singleton.mp hy]; exact hd).symm
/-- a way told: data -/
structure TldAt (s : Sto) (v : AV) (p : List Door × AV) : Prop where
  at_ : ∃ r, v = .tup [.ref r, p.2] ∧ s[r]? = some (.lst (p.1.map doorV))
theorem TldAt.ext {s s' : Sto} {v : AV} {p : List Door × AV} (h : TldAt s v p) (x : Ext s s') : TldAt s' v p := by
  obtain ⟨r, h1, h2⟩ := h.at_
  exact ⟨r, h1, x _ _ h2⟩
theorem TldAt.way {s : Sto} {v : AV} {cs : List Int} {ws : List Wire} (hW : NetWf cs ws) {bs : List (List Row)} {x : Int} {d : Door} (hd : isDoor cs d = true) (h : TldAt s v (walkM (nextM bs ws x) 30 [d])) : WayAt s v (nextM bs ws x) (roadW bs ws x d) := by
  obtain ⟨r, h1, h2⟩ := h.at_
  rw [(road_ok hW bs x hd).2] at h1
  exact ⟨r, h1, h2⟩
theorem tld_eq {s : Sto} {v u : AV} {cs : List Int} {ws : List Wire} (hW : NetWf cs ws) {bs : List (List Row)} {x : Int} {d : Door} (hd : isDoor cs d = true) (h : TldAt s v (walkM (nextM bs ws x) 30 [d])) (k : TldAt s u (walkM (nextM bs ws x) 30 [d])) : eqA s v u = some true := way_eq (h.way hW hd) (k.way hW hd) rfl
/-- the dict of what is told: every outer door, these addresses -/
def ToldK (cs : List Int) (ws : List Wire) (bs : List (List Row)) (s : Sto) (kvs : List (KN × AV)) (as : List Int) : Prop := ∀ d x, d ∈ outerL cs ws → x ∈ as → ∃ v, getK (d, x) kvs = some v ∧ TldAt s v (walkM (nextM bs ws x) 30 [d])
theorem ToldK.ext {cs : List Int} {ws : List Wire} {bs : List (List Row)} {s s' : Sto} {kvs : List (KN × AV)} {as : List Int} (h : ToldK cs ws bs s kvs as) (e : Ext s s') : ToldK cs ws bs s' kvs as := fun d x hd hx => by
  obtain ⟨v, h1, h2⟩ := h d x hd hx
  exact ⟨v, h1, h2.ext e⟩
theorem outer_d {cs : List Int} {ws : List Wire} {d : Door} (h : d ∈ outerL cs ws) : isDoor cs d = true ∧ isOuter cs ws d = true := by
  have h := mem_outer.mp h
  refine ⟨?_, h⟩
  unfold isOuter at h
  rw [Bool.and_eq_true] at h
  exact h.1
set_option maxHeartbeats 4000000 in
theorem aright_is {n m a b t mb mo td : Nat} {st : Sto} {cs : List Int} {ws : List Wire} {bs bs' : List (List Row)} {kvs : List (KN × AV)} {as : List Int} {x : Int} {Q : AV → Sto → Prop} (hN : NetIns st m a b t cs ws) (hW : NetWf cs ws) (hB : BksAt st mb cs bs) (hB' : BksAt st mo cs bs') (hS : SameOut cs bs bs') (hx : 0 ≤ x ∧ x < 16) (hm : x ∈ as) (ht : st[td]? = some (.dN kvs)) (hT : ToldK cs ws bs st kvs as) (q : ∀ s, Ext st s → Q (.bl true) s) : (callF tab (n + 9) g_law_address_right_3 [.ref m, .ref mb, .ref mo, .int x, .ref td] st).Is Q := by
  refine call_is rfl rfl ?_; simp only [List.map_cons, List.map_nil, List.cons_append, List.nil_append, List.replicate_succ, List.replicate_zero, Nat.reduceSub]
  unfold c_law_address_right_3
  rw [ws_asg]
  simp! [↓sel_is hN.1 m25 rfl]
  refine outer_is hN hW.len2 hW.cnt fun s0 o x0 lo0 ho => ?_
  rw [iw_lst ho]
  refine for_is (fun k e s => (∃ z6, e = [some (.ref m), some (.ref mb), some (.ref mo), some (.int x), some (.ref td), some (.ref o), z6]) ∧ Ext s0 s) _ 0 _ _ ⟨⟨_, rfl⟩, Ext.refl _⟩ (fun i y e s hy hI => ?_) fun e s hI => ?_
  · obtain ⟨⟨z6, rfl⟩, hE⟩ := hI
    rw [List.getElem?_map] at hy
    obtain ⟨d, hd, rfl⟩ := Option.map_eq_some_iff.mp hy
    have hdm := List.mem_of_getElem? hd
    obtain ⟨hd1, hd2⟩ := outer_d hdm
    have E := x0.trans hE
    refine ⟨ck_lst (hE _ _ ho), _, rfl, ?_⟩
    simp only [bindT, bindT.go, wipeA, List.set_cons_zero, List.set_cons_succ]
    obtain ⟨v, hv, hvt⟩ := hT d x hdm hm
    have hlen : 0 < (outerL cs ws).length := List.length_pos_iff.mpr fun z => by rw [z] at hdm; cases hdm
    obtain ⟨d0, hd0⟩ : ∃ d0, (outerL cs ws)[0]? = some d0 := ⟨_, List.getElem?_eq_getElem hlen⟩
    have hdm0 := List.mem_of_getElem? hd0
    obtain ⟨hd01, _⟩ := outer_d hdm0
    obtain ⟨v0, hv0, hvt0⟩ := hT d0 x hdm0 hm
    have ed : doorV d = .tup [.int d.1, .int d.2] := rfl
    have ed0 : doorV d0 = .tup [.int d0.1, .int d0.2] := rfl
    have ix : ∀ {s' : Sto} {Q : AV → Sto → Prop}, Ext st s' → (idxA (.ref td) (.tup [doorV d, .int x]) s').Is Q = Q v s' := fun h => by rw [ed]; exact idx_dN (h _ _ ht) hv
    have ix0 : ∀ {s' : Sto} {Q : AV → Sto → Prop}, Ext st s' → (idxA (.ref td) (.tup [doorV d0, .int x]) s').Is Q = Q v0 s' := fun h => by rw [ed0]; exact idx_dN (h _ _ ht) hv0
    obtain ⟨ok1, _⟩ := road_ok hW bs x hd1
    obtain ⟨ok0, _⟩ := road_ok hW bs x hd01
    have lr := road_len hW.cnt hW.len2 ok1.nd ok1.drs
    unfold c_law_address_right_3_1
    rw [ws_ite, i_not, i_call]
    simp! [↓ix E]
    refine well_is (hN.ext E) (hB.ext E) hx.1 ((hvt.ext E).way hW hd1) ok1 (by omega) fun s1 x1 => ?_
    have E1 := E.trans x1
    simp! [if_true]
    refine way_is (hN.ext E1) hW (hB'.ext E1) hd2 hx fun s2 r2 x2 l2 g2 => ?_
    have E2 := E1.trans x2
    rw [same_road hW (fun d hd => hS d x hd) hd1] at g2 ⊢
    have T2 : TldAt s2 (.tup [.ref r2, (walkM (nextM bs ws x) 30 [d]).2]) (walkM (nextM bs ws x) 30 [d]) := ⟨r2, rfl, g2⟩
    simp! [↓ix E2, ↓ic_ne (tld_eq hW hd1 T2 (hvt.ext E2))]
    rw [show ((0 : Int)) = ((0 : Nat) : Int) from rfl, ix_door ((hE.trans (x1.trans x2)) _ _ ho) hd0]
    simp! [↓ix E2, ↓ix0 E2]
    refine abehind_is hW.len2 hW.cnt ((hvt0.ext E2).way hW hd01) ok0 ((hvt.ext E2).way hW hd1) ok1 fun s3 x3 => ?_
    simp! [if_true]
    exact ⟨⟨_, rfl⟩, hE.trans (x1.trans (x2.trans x3))⟩
  · obtain ⟨⟨z6, rfl⟩, hE⟩ := hI
    refine ⟨ck_lst (hE _ _ ho), ?_⟩
    simp! [if_true]
    exact q s (x0.trans hE)
end L3

/-! K65: ways end. -/
namespace L3
open PySem L2
/-! ### what is told -/
def ToldP (cs : List Int) (ws : List Wire) (bs : List (List Row)) (s : Sto) (kvs : List (KN × AV)) (P : Door → Int → Prop) : Prop := ∀ d x, P d x → ∃ v, getK (d, x) kvs = some v ∧ TldAt s v (walkM (nextM bs ws x) 30 [d])
theorem ToldP.step {cs : List Int} {ws : List Wire} {bs : List (List Row)} {s s' : Sto} {kvs : List (KN × AV)} {P P' : Door → Int → Prop} {d : Door} {x : Int} {v : AV} (h : ToldP cs ws bs s kvs P) (e : Ext s s') {td : Nat} {o : AO} (hd : ∃ k, s'[td]? = some (.dN k)) (ht : TldAt s' v (walkM (nextM bs ws x) 30 [d])) (hp : ∀ d' x', P' d' x' → P d' x' ∨ (d' = d ∧ x' = x)) : ToldP cs ws bs (s'.set td o) (putK (d, x) v kvs) P' := by
  obtain ⟨k, hk⟩ := hd
  have keep : ∀ {v : AV} {p : List Door × AV}, TldAt s' v p → TldAt (s'.set td o) v p := fun {v p} h => by
    obtain ⟨r, h1, h2⟩ := h.at_
    refine ⟨r, h1, get_set_o h2 fun z => ?_⟩
    rw [z, hk] at h2
    cases h2
  intro d' x' hP
  by_cases c : ((d', x') : KN) = (d, x)
  · have c1 : d' = d := congrArg (·.1) c
    have c2 : x' = x := congrArg (·.2) c
    subst c1 c2
    exact ⟨v, by rw [getK_put, if_pos rfl], keep ht⟩
  · rcases hp d' x' hP with h1 | ⟨h1, h2⟩
    · obtain ⟨u, u1, u2⟩ := h d' x' h1
      exact ⟨u, by rw [getK_put, if_neg c]; exact u1, keep (u2.ext e)⟩
    · exact absurd (by rw [h1, h2]) c
theorem put_l1 {k : KN} {v : AV} {kvs : List (KN × AV)} : (putK k v kvs).length ≤ kvs.length + 1 := by
  unfold putK
  split
  · rw [List.length_map]; omega
  · rw [List.length_append]; exact Nat.le_refl _
theorem mem_take_s {α : Type} {xs : List α} {k : Nat} {x y : α} (h : xs[k]? = some x) (hy : y ∈ xs.take (k + 1)) : y ∈ xs.take k ∨ y = x := by
  rw [List.take_add_one, h] at hy
  rcases List.mem_append.mp hy with hy | hy
  · exact .inl hy
  · exact .inr (List.mem_singleton.mp hy)
theorem outer_len {cs : List Int} {ws : List Wire} (hc : ∀ c ∈ cs, 1 ≤ c ∧ c ≤ 4) (hl : cs.length ≤ 6) : (outerL cs ws).length ≤ 24 := by
  have h1 := doorsUpto_len hc cs.length (Nat.le_refl _)
  have h2 : (outerL cs ws).length ≤ (allD cs).length := List.length_filter_le _ _
  have h3 : allD cs = doorsUpto cs cs.length := rfl
  rw [h3] at h2
  omega
/-! ### marks as data -/
def marksD (bs : List (List Row)) (x : Int) : PyData := .list ((marksM bs x).map fun b => .list (b.map .bool))
theorem eqv_bool (a b : Bool) : PyData.eqv (.bool a) (.bool b) = decide (a = b) := by cases a <;> cases b <;> rfl
theorem marks_pd {s : Sto} {r n : Nat} {bs : List (List Row)} {x : Int} (h : LLs AV.bl s 0 r (marksM bs x)) : pd (n + 3) s (.ref r) = some (marksD bs x) := h.pd (f := PyData.bool) fun _ _ _ _ => rfl
theorem marks_can (bs : List (List Row)) (x : Int) : (marksD bs x).canLay0 = true := can_lls fun _ _ _ _ => rfl
theorem marks_eqv (bs : List (List Row)) (x y : Int) : PyData.eqv (marksD bs x) (marksD bs y) = decide (marksM bs x = marksM bs y) := eqv_lls eqv_bool _ _
theorem marks_ix {s : Sto} {mm rk : Nat} {bs : List (List Row)} {as : List Int} {ys : List Nat} {x : Int} {Q : AV → Sto → Prop} (h : s[mm]? = some (.lst (ys.map AV.ref))) (hl : ys.length = as.length) (hy : ∀ (i : Nat) (x : Int) (y : Nat), as[i]? = some x → ys[i]? = some y → LLs AV.bl s 0 y (marksM bs x)) (hk : LLs AV.bl s 0 rk (marksM bs x)) (hx : x ∈ as) (q : ∀ (j : Nat) (x' : Int), as[j]? = some x' → marksM bs x' = marksM bs x → Q (.int (j : Nat)) s) : (bmeth Sel.lst 6 (.ref mm) [.ref rk] s).Is Q := by
  have h1 : pdS s (.ref mm) = some (.list (as.map (marksD bs))) := by
    refine pdS_of (pd_list h (oAll_zip _ as (by rw [List.length_map, hl]) fun i u a hu ha => ?_)) (can_map fun x _ => marks_can bs x)
    rw [List.getElem?_map] at hu
    obtain ⟨y, hy', rfl⟩ := Option.map_eq_some_iff.mp hu
    exact marks_pd (n := 5) (hy i a y ha hy')
  have h2 : pdS s (.ref rk) = some (marksD bs x) := pdS_of (marks_pd (n := 6) hk) (marks_can bs x)
  have ef : ((fun e => PyData.eqv e (marksD bs x)) ∘ marksD bs) = fun y => decide (marksM bs y = marksM bs x) := by
    funext y
    exact marks_eqv bs y x
  obtain ⟨j, hj⟩ : ∃ j, as.findIdx? (fun y => decide (marksM bs y = marksM bs x)) = some j := by
    cases e : as.findIdx? (fun y => decide (marksM bs y = marksM bs x)) with
    | some k => exact ⟨k, rfl⟩
    | none =>
      have := List.findIdx?_eq_none_iff.mp e x hx
      simp at this
  obtain ⟨j1, j2, _⟩ := List.findIdx?_eq_some_iff_getElem.mp hj
  have e : bmeth Sel.lst 6 (.ref mm) [.ref rk] s = .ok (.int (j : Nat)) s := by
    simp only [bmeth, lmeth, h, h1, h2]
    rw [List.findIdx?_map, ef, hj]
  rw [e]
  exact q j _ (List.getElem?_eq_getElem j1) (of_decide_eq_true j2)
theorem marks_out {cs : List Int} {bs : List (List Row)} (hl : bs.length = cs.length) {x x' : Int} (h : marksM bs x' = marksM bs x) (d : Door) (hd : isDoor cs d = true) : outM bs d x' = outM bs d x := by
  obtain ⟨d1, d2, _, _⟩ := door_house hd
  have eb : bs[d.1.toNat]? = some bs[d.1.toNat] := List.getElem?_eq_getElem (by omega)
  rw [outM_eq, outM_eq, List.getD_eq_getElem?_getD, eb]
  refine out_same ?_
  have e := congrArg (·[d.1.toNat]?) h
  unfold marksM at e
  simp only [List.getElem?_map, eb, Option.map_some, Option.some.injEq] at e
  exact e
set_option maxHeartbeats 8000000 in
theorem law_is {ns : List Int} (hn : ns.length ≤ 63) : (callF tab 60 g_law_151 [.rol ns] []).Is fun v _ => v = .bl true := by
  refine call_is rfl rfl ?_; simp only [List.map_cons, List.map_nil, List.cons_append, List.nil_append, List.replicate_succ, List.replicate_zero, Nat.reduceSub]
  unfold c_law_151
  rw [ws_asgT, i_call]
  simp! [if_true]
  refine world_is hn fun s1 a b mb cs ws bs x1 ha hb hD hC hW hB => ?_
  have l26 := hW.len2
  have lB := hB.1
  simp only [bindT, bindT.go, wipeA, List.set_cons_zero, List.set_cons_succ]
  simp! [if_true]
  unfold c_law_151_12
  rw [ws_asg]
  simp! [if_true]
  refine mk_is hW ha hb fun s2 a2 b2 t x2 _ _ _ hN => ?_
  have oN : s1.length < s2.length := by have := get_lt hN.1; omega
  generalize s1.length = nn at hN oN ⊢
  have hM2 : BksAt s2 mb cs bs := ⟨⟨_, (hD.lls).ext x2⟩, hB⟩
  unfold c_law_151_11
  rw [ws_asg, i_call]
  simp! [if_true]
  refine cell_is (by decide) fun c3 => ?_
  refine mix_is (by decide) (by decide) ?_
  refine other_is hM2 l26 fun s3 mo bs' x3 hO hS => ?_
  unfold c_law_151_10
  simp! [if_true]
  have g4 := get_push s3 (AO.dN [])
  have x4 := Ext.push s3 (AO.dN [])
  generalize s3 ++ [AO.dN []] = s4 at g4 x4 ⊢
  generalize htd : s3.length = td at g4 ⊢
  unfold c_law_151_9
  rw [ws_asg, i_call]
  simp! [if_true]
  refine asked_is fun s5 ra as x5 _ hra has hal => ?_
  have hN5 := hN.ext (x3.trans (x4.trans x5))
  have hM5 := hM2.ext (x3.trans (x4.trans x5))
  have hO5 := hO.ext (x4.trans x5)
  have g5 := x5 _ _ g4
  -- what stands apart from the dict
  have hNt : ∀ s, (∀ i u, i ≠ td → s5[i]? = some u → s[i]? = some u) → NetIns s nn a2 b2 t cs ws ∧ BksAt s mb cs bs ∧ BksAt s mo cs bs' ∧ s[ra]? = some (.lst (as.map AV.int)) := fun s h => by
    have ne : ∀ {i : Nat} {u : AO}, s5[i]? = some u → (∀ k, u ≠ .dN k) → s[i]? = some u := fun {i u} hu hk => h i u (fun z => by rw [z, g5] at hu; cases hu; exact hk _ rfl) hu
    obtain ⟨n1, n2, n3, n4⟩ := hN5
    have bk : ∀ {m : Nat} {bs : List (List Row)}, BksAt s5 m cs bs → BksAt s m cs bs := fun {m bs} hB => by
      obtain ⟨⟨lo, rs, o1, o2, o3⟩, hO⟩ := hB
      exact ⟨⟨lo, rs, ne o1 (fun k z => by cases z), o2, fun i r b k1 k2 => ⟨(o3 i r b k1 k2).1, ne (o3 i r b k1 k2).2 (fun k z => by cases z)⟩⟩, hO⟩
    exact ⟨⟨ne n1 (fun k z => by cases z), ne n2 (fun k z => by cases z), ne n3 (fun k z => by cases z), ne n4 (fun k z => by cases z)⟩, bk hM5, bk hO5, ne hra (fun k z => by cases z)⟩
  have hol := outer_len (ws := ws) hW.cnt l26
  unfold c_law_151_8
  rw [ws_loop, i_seq]
  simp! [if_true]
  rw [iw_lst hra]
  refine for_is (fun k e s => (∃ z5 z10, e = [some (.rol ns), some (.ref nn), some (.ref mo), some (.ref td), some (.ref ra), z5, none, some (.ref a), some (.ref b), some (.ref mb), z10, none, none]) ∧ (∀ i u, i ≠ td → s5[i]? = some u → s[i]? = some u) ∧ ∃ kvs, s[td]? = some (.dN kvs) ∧ kvs.length ≤ 24 * k ∧ ToldP cs ws bs s kvs fun d x => d ∈ outerL cs ws ∧ x ∈ as.take k) _ 0 _ _ ⟨⟨_, _, rfl⟩, fun i u _ h => h, [], g5, by simp, fun d x h => by simp at h⟩ (fun i y e s hy hI => ?_) fun e s hI => ?_
  · obtain ⟨⟨z5, z10, rfl⟩, hE, kvs, hk, hkl, hT⟩ := hI
    rw [Nat.zero_add] at hkl hT
    rw [List.getElem?_map] at hy
    obtain ⟨x, hx, rfl⟩ := Option.map_eq_some_iff.mp hy
    have hil := (List.getElem?_eq_some_iff.mp hx).1
    have hxb := has x (List.mem_of_getElem? hx)
    obtain ⟨n1, n2, n3, n4⟩ := hNt s hE
    refine ⟨ck_lst n4, _, rfl, ?_⟩
    simp only [bindT, bindT.go, wipeA, List.set_cons_zero, List.set_cons_succ]
    unfold c_law_151_2
    rw [ws_loop, i_seq]
    simp! [↓sel_is n1.1 m25 rfl]
    refine outer_is n1 l26 hW.cnt fun s6 o x6 l6 ho => ?_
    rw [iw_lst ho]
    have hE6 : ∀ i u, i ≠ td → s5[i]? = some u → s6[i]? = some u := fun i u h1 h2 => x6 _ _ (hE i u h1 h2)
    have hne : o ≠ td := fun z => by
      have := get_lt hk
      omega
    refine for_is (fun k e s => (∃ z10, e = [some (.rol ns), some (.ref nn), some (.ref mo), some (.ref td), some (.ref ra), some (.int x), none, some (.ref a), some (.ref b), some (.ref mb), z10, none, none]) ∧ (∀ i u, i ≠ td → s6[i]? = some u → s[i]? = some u) ∧ ∃ kvs, s[td]? = some (.dN kvs) ∧ kvs.length ≤ 24 * i + k ∧ ToldP cs ws bs s kvs fun d x' => (d ∈ outerL cs ws ∧ x' ∈ as.take i) ∨ (d ∈ (outerL cs ws).take k ∧ x' = x)) _ 0 _ _ ⟨⟨_, rfl⟩, fun i u _ h => h, kvs, x6 _ _ hk, by omega, fun d x' h => ?_⟩ (fun j y e s hy hI => ?_) fun e s hI => ?_
    · rcases h with h | ⟨h, _⟩
      · obtain ⟨v, v1, v2⟩ := hT d x' h
        exact ⟨v, v1, v2.ext x6⟩
      · simp at h
    · obtain ⟨⟨z10, rfl⟩, hF, kvs, hk, hkl, hT⟩ := hI
      rw [Nat.zero_add] at hkl hT
      rw [List.getElem?_map] at hy
      obtain ⟨d, hd, rfl⟩ := Option.map_eq_some_iff.mp hy
      have hjl := (List.getElem?_eq_some_iff.mp hd).1
      have hdm := List.mem_of_getElem? hd
      obtain ⟨hd1, hd2⟩ := outer_d hdm
      obtain ⟨n1, n2, n3, n4⟩ := hNt s fun i u h1 h2 => hF i u h1 (hE6 i u h1 h2)
      refine ⟨ck_lst (hF _ _ hne ho), _, rfl, ?_⟩
      simp only [bindT, bindT.go, wipeA, List.set_cons_zero, List.set_cons_succ]
      unfold c_law_151_1
      rw [ws_asgI, i_call]
      simp! [if_true]
      refine way_is n1 hW n2 hd2 hxb fun s7 r7 x7 l7 g7 => ?_
      have ed : doorV d = .tup [.int d.1, .int d.2] := rfl
      rw [ed]
      simp! [if_true]
      have hk7 := x7 _ _ hk
      rw [ws_setN hk7 (by unfold lim; omega)]
      simp! [if_true]
      have T7 : TldAt s7 (.tup [.ref r7, (walkM (nextM bs ws x) 30 [d]).2]) (walkM (nextM bs ws x) 30 [d]) := ⟨r7, rfl, g7⟩
      refine ⟨⟨_, rfl⟩, fun i u h1 h2 => get_set_o (x7 _ _ (hF i u h1 h2)) h1, _, get_set hk7, by have := put_l1 (k := ((d.1, d.2), x)) (v := .tup [.ref r7, (walkM (nextM bs ws x) 30 [d]).2]) (kvs := kvs); omega, ?_⟩
      refine hT.step x7 ⟨_, hk7⟩ T7 fun d' x' h => ?_
      rcases h with h | ⟨h1, h2⟩
      · exact .inl (.inl h)
      · rw [Nat.zero_add] at h1
        rcases mem_take_s hd h1 with h1 | h1
        · exact .inl (.inr ⟨h1, h2⟩)
        · exact .inr ⟨h1, h2⟩
    · obtain ⟨⟨z10, rfl⟩, hF, kvs, hk, hkl, hT⟩ := hI
      rw [List.length_map, Nat.zero_add] at hkl hT
      refine ⟨ck_lst (hF _ _ hne ho), ?_⟩
      simp! [if_true]
      refine ⟨⟨_, _, rfl⟩, fun i u h1 h2 => hF i u h1 (hE6 i u h1 h2), kvs, hk, by omega, fun d x' ⟨h1, h2⟩ => hT d x' ?_⟩
      rw [Nat.zero_add] at h2
      rcases mem_take_s hx h2 with h2 | h2
      · exact .inl ⟨h1, h2⟩
      · rw [List.take_length]
        exact .inr ⟨h1, h2⟩
  · obtain ⟨⟨z5, z10, rfl⟩, hE, kvs, hk, hkl, hT⟩ := hI
    rw [List.length_map, Nat.zero_add, List.take_length] at hT
    obtain ⟨n1, n2, n3, n4⟩ := hNt s hE
    refine ⟨ck_lst n4, ?_⟩
    have hTK : ToldK cs ws bs s kvs as := fun d x h1 h2 => hT d x ⟨h1, h2⟩
    clear hNt hT hE
    unfold c_law_151_7
    rw [ws_asg, i_lc, i_seq]
    simp! [if_true]
    rw [iw_lst n4]
    refine lc_r as AV.int AV.ref (fun s x y => LLs AV.bl s 0 y (marksM bs x)) (fun s s' _ _ e h => h.ext e) rfl (ck_lst n4) (by unfold lim; omega) (fun x hx => ⟨_, rfl, fun s6 x6 => ?_⟩) fun s6 ys x6 hyl hyp => ?_
    · have hxb := has x hx
      simp only [bindT, bindT.go, wipeA, List.set_cons_zero, List.set_cons_succ]
      unfold c_law_151_3
      rw [i_call]
      simp! [if_true]
      refine marks_is (n2.ext x6) l26 hxb.1 fun s7 r7 x7 h7 => ?_
      exact ⟨r7, rfl, x7, h7⟩
    · have g7 := get_push s6 (AO.lst (ys.map AV.ref))
      have x7 := x6.trans (Ext.push s6 (AO.lst (ys.map AV.ref)))
      have hyp7 : ∀ (i : Nat) (x : Int) (y : Nat), as[i]? = some x → ys[i]? = some y → LLs AV.bl (s6 ++ [AO.lst (ys.map AV.ref)]) 0 y (marksM bs x) := fun i x y h1 h2 => (hyp i x y h1 h2).ext (Ext.push _ _)
      generalize s6 ++ [AO.lst (ys.map AV.ref)] = s7 at g7 x7 hyp7 ⊢
      generalize s6.length = mm at g7 ⊢
      unfold c_law_151_6
      rw [ws_loop, i_enum]
      simp! [if_true]
      have n4' := x7 _ _ n4
      rw [ie_lst n4']
      refine for_is (fun k e s' => (∃ z5 z10 z11 z12, e = [some (.rol ns), some (.ref nn), some (.ref mo), some (.ref td), some (.ref ra), z5, some (.ref mm), some (.ref a), some (.ref b), some (.ref mb), z10, z11, z12]) ∧ Ext s7 s') _ 0 _ _ ⟨⟨_, _, _, _, rfl⟩, Ext.refl _⟩ (fun i y e s' hy hI => ?_) fun e s' hI => ?_
      · obtain ⟨⟨z5, z10, z11, z12, rfl⟩, hX⟩ := hI
        rw [numbered_get, List.getElem?_map] at hy
        cases hxx : as[i]? with
        | none => rw [hxx] at hy; cases hy
        | some x =>
          rw [hxx] at hy
          cases hy
          have hxm := List.mem_of_getElem? hxx
          have hxb := has x hxm
          have hil := (List.getElem?_eq_some_iff.mp hxx).1
          refine ⟨by simp only [Wk.ck, hX _ _ n4', decide_true, Bool.and_self], _, rfl, ?_⟩
          have XX := x7.trans hX
          simp only [bindT, bindT.go, wipeA, List.set_cons_zero, List.set_cons_succ]
          unfold c_law_151_5
          rw [ws_ite, i_not, i_call]
          simp! [if_true]
          refine aright_is (n1.ext XX) hW (n2.ext XX) (n3.ext XX) hS hxb hxm (XX _ _ hk) (hTK.ext XX) fun s8 x8 => ?_
          have Y8 := hX.trans x8
          have eyi : ys[i]? = some ys[i] := List.getElem?_eq_getElem (by omega)
          have ixi : L2.ixN (ys.map AV.ref).length ((0 + i : Nat) : Int) = some i := by
            rw [List.length_map, Nat.zero_add]
            unfold L2.ixN
            rw [if_pos (by omega), if_pos (by omega), Int.toNat_natCast]
          have gyi : (ys.map AV.ref)[i]? = some (.ref ys[i]) := get_map eyi
          simp! [↓i_methL (Y8 _ _ g7) (show 6 ≤ 6 by decide), ↓iix_l (Y8 _ _ g7) ixi gyi]
          refine marks_ix (Y8 _ _ g7) hyl (fun i x y h1 h2 => (hyp7 i x y h1 h2).ext Y8) ((hyp7 i x _ hxx eyi).ext Y8) hxm fun j x' hj hme => ?_
          have hjm := List.mem_of_getElem? hj
          have hjl := (List.getElem?_eq_some_iff.mp hj).1
          have ixj : L2.ixN (as.map AV.int).length (j : Int) = some j := by
            rw [List.length_map]
            unfold L2.ixN
            rw [if_pos (by omega), if_pos (by omega), Int.toNat_natCast]
          rw [iix_l (Y8 _ _ n4') ixj (get_map hj)]
          have E8 := x7.trans Y8
          simp! [↓sel_is (E8 _ _ n1.1) m25 rfl]
          refine outer_is (n1.ext E8) l26 hW.cnt fun s9 o x9 l9 ho => ?_
          rw [iw_lst ho]
          refine for_is (fun k e s' => (∃ z10, e = [some (.rol ns), some (.ref nn), some (.ref mo), some (.ref td), some (.ref ra), some (.int x), some (.ref mm), some (.ref a), some (.ref b), some (.ref mb), z10, some (.int ((0 + i : Nat) : Int)), some (.int x')]) ∧ s' = s9) _ 0 _ _ ⟨⟨_, rfl⟩, rfl⟩ (fun i2 y e s' hy hI => ?_) fun e s' hI => ?_
          · obtain ⟨⟨z10, rfl⟩, rfl⟩ := hI
            rw [List.getElem?_map] at hy
            obtain ⟨d, hd, rfl⟩ := Option.map_eq_some_iff.mp hy
            have hdm := List.mem_of_getElem? hd
            obtain ⟨hd1, hd2⟩ := outer_d hdm
            refine ⟨ck_lst ho, _, rfl, ?_⟩
            simp only [bindT, bindT.go, wipeA, List.set_cons_zero, List.set_cons_succ]
            obtain ⟨v, hv, hvt⟩ := hTK d x hdm hxm
            obtain ⟨u, hu, hut⟩ := hTK d x' hdm hjm
            have E9 := E8.trans x9
            rw [same_road hW (marks_out lB hme) hd1] at hut
            have ed : doorV d = .tup [.int d.1, .int d.2] := rfl
            rw [ed]
            unfold c_law_151_4
            simp! [↓idx_dN (E9 _ _ hk) hv, ↓idx_dN (E9 _ _ hk) hu, ↓ic_ne (tld_eq hW hd1 (hvt.ext E9) (hut.ext E9))]
            exact ⟨_, rfl⟩
          · obtain ⟨⟨z10, rfl⟩, rfl⟩ := hI
            refine ⟨ck_lst ho, ?_⟩
            simp! [if_true]
            exact ⟨⟨_, _, _, _, rfl⟩, Y8.trans x9⟩
      · obtain ⟨⟨z5, z10, z11, z12, rfl⟩, hX⟩ := hI
        refine ⟨by simp only [Wk.ck, hX _ _ n4', decide_true, Bool.and_self], ?_⟩
        simp! [if_true]
end L3

namespace L3
theorem plain : ∀ ns : List Int, ns.length ≤ 63 → ∃ st, callF tab 60 g_law_151 [.rol ns] [] = .ok (.bl true) st := fun ns h => by
  obtain ⟨v, st, e, q⟩ := (law_is h).get
  exact ⟨st, by rw [e, q]⟩
end L3
open PySem PySem.W PyProof.Rows
set_option maxHeartbeats 0 in
theorem PySem.Challenge.cw_nohalfway_k65_whole_ways_end_holds : PySem.Challenge.rw_nohalfway_k65_whole_ways_end.Holds := by
  w_on; o_law; k_head; (case hw => w_witness2)
  k_fill
  refine L2.walk_of (l := PySem.Challenge.rw_nohalfway_k65_whole_ways_end) (n := 63) (k := 61) (x := "script") (CX := fun w => L2.CX PySem.Challenge.rw_nohalfway_k65_whole_ways_end.prog w) (sp := fun w => L3.spLaw _) rfl (by decide) rfl ⟨rfl, by decide, by decide⟩ (fun w h Y => PySem.W.kIn_of Y) ?F (fun _ _ a ns hl ho hS => ⟨a, ns, rfl, ho, hS, hl, fun _ => rfl⟩) (fun _ _ _ _ _ h => L3.cx_no h)
  case F =>
    intro w mg fa h KX G hmg
    refine' L3.all_mk KX G hmg ?a_is_whole ?l_is_whole ?y_is_whole ?k_is_whole ?a_are_counts ?l_are_counts ?y_are_counts ?k_are_counts ?a_is_door_of ?l_is_door_of ?y_is_door_of ?k_is_door_of ?a_are_wires ?l_are_wires ?y_are_wires ?k_are_wires ?a_is_pattern ?l_is_pattern ?y_is_pattern ?k_is_pattern ?a_fits ?l_fits ?y_fits ?k_fits ?a_is_choice ?l_is_choice ?y_is_choice ?k_is_choice ?a_is_row ?l_is_row ?y_is_row ?k_is_row ?a_is_book ?l_is_book ?y_is_book ?k_is_book ?a_is_books ?l_is_books ?y_is_books ?k_is_books ?a_look_at_books ?l_look_at_books ?y_look_at_books ?k_look_at_books ?a_taken ?l_taken ?y_taken ?k_taken ?a_look_at_coming ?l_look_at_coming ?y_look_at_coming ?k_look_at_coming ?a_next_of ?l_next_of ?y_next_of ?k_next_of ?a_walked ?l_walked ?y_walked ?k_walked ?a_way ?l_way ?y_way ?k_way ?a_law_cell_at ?l_law_cell_at ?y_law_cell_at ?k_law_cell_at ?a_law_mix ?l_law_mix ?y_law_mix ?k_law_mix ?a_law_counts ?l_law_counts ?y_law_counts ?k_law_counts ?a_law_doors ?l_law_doors ?y_law_doors ?k_law_doors ?a_law_wires ?l_law_wires ?y_law_wires ?k_law_wires ?a_law_pattern ?l_law_pattern ?y_law_pattern ?k_law_pattern ?a_law_row ?l_law_row ?y_law_row ?k_law_row ?a_law_books ?l_law_books ?y_law_books ?k_law_books ?a_law_digit ?l_law_digit ?y_law_digit ?k_law_digit ?a_law_net_by ?l_law_net_by ?y_law_net_by ?k_law_net_by ?a_law_book_by ?l_law_book_by ?y_law_book_by ?k_law_book_by ?a_law_world ?l_law_world ?y_law_world ?k_law_world ?a_law_asked ?l_law_asked ?y_law_asked ?k_law_asked ?a_law_comes_to ?l_law_comes_to ?y_law_comes_to ?k_law_comes_to ?a_law_walked_well_2 ?l_law_walked_well_2 ?y_law_walked_well_2 ?k_law_walked_well_2 ?a_law_from_2 ?l_law_from_2 ?y_law_from_2 ?k_law_from_2 ?a_law_alike_behind_2 ?l_law_alike_behind_2 ?y_law_alike_behind_2 ?k_law_alike_behind_2 ?a_law_marks ?l_law_marks ?y_law_marks ?k_law_marks ?a_law_more_rows ?l_law_more_rows ?y_law_more_rows ?k_law_more_rows ?a_law_fewer_rows ?l_law_fewer_rows ?y_law_fewer_rows ?k_law_fewer_rows ?a_law_otherwise ?l_law_otherwise ?y_law_otherwise ?k_law_otherwise ?a_law_address_right_3 ?l_law_address_right_3 ?y_law_address_right_3 ?k_law_address_right_3 ?a_law_151 ?l_law_151 ?y_law_151 ?k_law_151 ?aC_Net ?pg_Net ?hd_Net ?po_Net ?sa_Net ?mk_Net ?kc_Net ?n_Net_joins ?n_Net_many ?n_Net_other ?n_Net_sizes ?aE_NoNet ?aE_NoBooks ?aE_NoDoor ?aE_NoAddress ?xE_NoNet ?kE_NoNet ?bE_NoNet ?tE_NoNet ?gE_NoNet ?hE_NoNet ?dE_NoNet ?cE_NoNet ?mE_NoNet ?xE_NoBooks ?kE_NoBooks ?bE_NoBooks ?tE_NoBooks ?gE_NoBooks ?hE_NoBooks ?dE_NoBooks ?cE_NoBooks ?mE_NoBooks ?xE_NoDoor ?kE_NoDoor ?bE_NoDoor ?tE_NoDoor ?gE_NoDoor ?hE_NoDoor ?dE_NoDoor ?cE_NoDoor ?mE_NoDoor ?xE_NoAddress ?kE_NoAddress ?bE_NoAddress ?tE_NoAddress ?gE_NoAddress ?hE_NoAddress ?dE_NoAddress ?cE_NoAddress ?mE_NoAddress ?eN ?eT ?a_Net___init ?i_Net___init ?l_Net___init ?y_Net___init ?k_Net___init ?a_Net_count ?i_Net_count ?l_Net_count ?y_Net_count ?k_Net_count ?a_Net_wires ?i_Net_wires ?l_Net_wires ?y_Net_wires ?k_Net_wires ?a_Net_beyond ?i_Net_beyond ?l_Net_beyond ?y_Net_beyond ?k_Net_beyond ?a_Net_outer ?i_Net_outer ?l_Net_outer ?y_Net_outer ?k_Net_outer ?a_Net_is_door ?i_Net_is_door ?l_Net_is_door ?y_Net_is_door ?k_Net_is_door ?a_Net_is_outer ?i_Net_is_outer ?l_Net_is_outer ?y_Net_is_outer ?k_Net_is_outer ?v_MOST_HOUSES ?v_MOST_DOORS ?v_SIGNS ?v_FIGURES ?v_MANY ?v_MOST_ROWS ?z_len ?z_int ?z_str ?z_list ?z_tuple ?z_abs ?z_all ?z_any ?z_sorted ?z_sum ?z_max ?z_min ?z_range ?z_set ?z_isinstance ?z_bool ?z_dict ?z_enumerate ?z_zip L3.plain
    (case a_is_whole => k_is); (case l_is_whole => k_is); (case y_is_whole => k_is); (case k_is_whole => k_is); (case a_are_counts => k_is); (case l_are_counts => k_is); (case y_are_counts => k_is); (case k_are_counts => k_is); (case a_is_door_of => k_is); (case l_is_door_of => k_is); (case y_is_door_of => k_is); (case k_is_door_of => k_is); (case a_are_wires => k_is); (case l_are_wires => k_is); (case y_are_wires => k_is); (case k_are_wires => k_is); (case a_is_pattern => k_is); (case l_is_pattern => k_is); (case y_is_pattern => k_is); (case k_is_pattern => k_is); (case a_fits => k_is); (case l_fits => k_is); (case y_fits => k_is); (case k_fits => k_is); (case a_is_choice => k_is); (case l_is_choice => k_is); (case y_is_choice => k_is); (case k_is_choice => k_is); (case a_is_row => k_is); (case l_is_row => k_is); (case y_is_row => k_is); (case k_is_row => k_is); (case a_is_book => k_is); (case l_is_book => k_is); (case y_is_book => k_is); (case k_is_book => k_is); (case a_is_books => k_is); (case l_is_books => k_is); (case y_is_books => k_is); (case k_is_books => k_is); (case a_look_at_books => k_is); (case l_look_at_books => k_is); (case y_look_at_books => k_is); (case k_look_at_books => k_is); (case a_taken => k_is); (case l_taken => k_is); (case y_taken => k_is); (case k_taken => k_is); (case a_look_at_coming => k_is); (case l_look_at_coming => k_is); (case y_look_at_coming => k_is); (case k_look_at_coming => k_is); (case a_next_of => k_is); (case l_next_of => k_is); (case y_next_of => k_is); (case k_next_of => k_is); (case a_walked => k_is); (case l_walked => k_is); (case y_walked => k_is); (case k_walked => k_is); (case a_way => k_is); (case l_way => k_is); (case y_way => k_is); (case k_way => k_is); (case a_law_cell_at => k_is); (case l_law_cell_at => k_is); (case y_law_cell_at => k_is); (case k_law_cell_at => k_is); (case a_law_mix => k_is); (case l_law_mix => k_is); (case y_law_mix => k_is); (case k_law_mix => k_is); (case a_law_counts => k_is); (case l_law_counts => k_is); (case y_law_counts => k_is); (case k_law_counts => k_is); (case a_law_doors => k_is); (case l_law_doors => k_is); (case y_law_doors => k_is); (case k_law_doors => k_is); (case a_law_wires => k_is); (case l_law_wires => k_is); (case y_law_wires => k_is); (case k_law_wires => k_is); (case a_law_pattern => k_is); (case l_law_pattern => k_is); (case y_law_pattern => k_is); (case k_law_pattern => k_is); (case a_law_row => k_is); (case l_law_row => k_is); (case y_law_row => k_is); (case k_law_row => k_is); (case a_law_books => k_is); (case l_law_books => k_is); (case y_law_books => k_is); (case k_law_books => k_is); (case a_law_digit => k_is); (case l_law_digit => k_is); (case y_law_digit => k_is); (case k_law_digit => k_is); (case a_law_net_by => k_is); (case l_law_net_by => k_is); (case y_law_net_by => k_is); (case k_law_net_by => k_is); (case a_law_book_by => k_is); (case l_law_book_by => k_is); (case y_law_book_by => k_is); (case k_law_book_by => k_is); (case a_law_world => k_is); (case l_law_world => k_is); (case y_law_world => k_is); (case k_law_world => k_is); (case a_law_asked => k_is); (case l_law_asked => k_is); (case y_law_asked => k_is); (case k_law_asked => k_is); (case a_law_comes_to => k_is); (case l_law_comes_to => k_is); (case y_law_comes_to => k_is); (case k_law_comes_to => k_is); (case a_law_walked_well_2 => k_is); (case l_law_walked_well_2 => k_is); (case y_law_walked_well_2 => k_is); (case k_law_walked_well_2 => k_is); (case a_law_from_2 => k_is); (case l_law_from_2 => k_is); (case y_law_from_2 => k_is); (case k_law_from_2 => k_is); (case a_law_alike_behind_2 => k_is); (case l_law_alike_behind_2 => k_is); (case y_law_alike_behind_2 => k_is); (case k_law_alike_behind_2 => k_is); (case a_law_marks => k_is); (case l_law_marks => k_is); (case y_law_marks => k_is); (case k_law_marks => k_is); (case a_law_more_rows => k_is); (case l_law_more_rows => k_is); (case y_law_more_rows => k_is); (case k_law_more_rows => k_is); (case a_law_fewer_rows => k_is); (case l_law_fewer_rows => k_is); (case y_law_fewer_rows => k_is); (case k_law_fewer_rows => k_is); (case a_law_otherwise => k_is); (case l_law_otherwise => k_is); (case y_law_otherwise => k_is); (case k_law_otherwise => k_is); (case a_law_address_right_3 => k_is); (case l_law_address_right_3 => k_is); (case y_law_address_right_3 => k_is); (case k_law_address_right_3 => k_is); (case a_law_151 => k_is); (case l_law_151 => k_is); (case y_law_151 => k_is); (case k_law_151 => k_is); (case aC_Net => k_is); (case pg_Net => k_is); (case hd_Net => k_is); (case po_Net => k_is); (case sa_Net => k_is); (case mk_Net => k_is); (case kc_Net => k_is); (case n_Net_joins => k_is); (case n_Net_many => k_is); (case n_Net_other => k_is); (case n_Net_sizes => k_is); (case aE_NoNet => k_is); (case aE_NoBooks => k_is); (case aE_NoDoor => k_is); (case aE_NoAddress => k_is); (case xE_NoNet => k_exc); (case kE_NoNet => k_is); (case bE_NoNet => k_is); (case tE_NoNet => k_is); (case gE_NoNet => k_is); (case hE_NoNet => k_is); (case dE_NoNet => k_is); (case cE_NoNet => k_is); (case mE_NoNet => k_is); (case xE_NoBooks => k_exc); (case kE_NoBooks => k_is); (case bE_NoBooks => k_is); (case tE_NoBooks => k_is); (case gE_NoBooks => k_is); (case hE_NoBooks => k_is); (case dE_NoBooks => k_is); (case cE_NoBooks => k_is); (case mE_NoBooks => k_is); (case xE_NoDoor => k_exc); (case kE_NoDoor => k_is); (case bE_NoDoor => k_is); (case tE_NoDoor => k_is); (case gE_NoDoor => k_is); (case hE_NoDoor => k_is); (case dE_NoDoor => k_is); (case cE_NoDoor => k_is); (case mE_NoDoor => k_is); (case xE_NoAddress => k_exc); (case kE_NoAddress => k_is); (case bE_NoAddress => k_is); (case tE_NoAddress => k_is); (case gE_NoAddress => k_is); (case hE_NoAddress => k_is); (case dE_NoAddress => k_is); (case cE_NoAddress => k_is); (case mE_NoAddress => k_is); (case eN => k_is); (case eT => k_is); (case a_Net___init => k_is); (case i_Net___init => k_is); (case l_Net___init => k_is); (case y_Net___init => k_is); (case k_Net___init => k_is); (case a_Net_count => k_is); (case i_Net_count => k_is); (case l_Net_count => k_is); (case y_Net_count => k_is); (case k_Net_count => k_is); (case a_Net_wires => k_is); (case i_Net_wires => k_is); (case l_Net_wires => k_is); (case y_Net_wires => k_is); (case k_Net_wires => k_is); (case a_Net_beyond => k_is); (case i_Net_beyond => k_is); (case l_Net_beyond => k_is); (case y_Net_beyond => k_is); (case k_Net_beyond => k_is); (case a_Net_outer => k_is); (case i_Net_outer => k_is); (case l_Net_outer => k_is); (case y_Net_outer => k_is); (case k_Net_outer => k_is); (case a_Net_is_door => k_is); (case i_Net_is_door => k_is); (case l_Net_is_door => k_is); (case y_Net_is_door => k_is); (case k_Net_is_door => k_is); (case a_Net_is_outer => k_is); (case i_Net_is_outer => k_is); (case l_Net_is_outer => k_is); (case y_Net_is_outer => k_is); (case k_Net_is_outer => k_is); (case v_MOST_HOUSES => k_is); (case v_MOST_DOORS => k_is); (case v_SIGNS => k_is); (case v_FIGURES => k_is); (case v_MANY => k_is); (case v_MOST_ROWS => k_is); (case z_len => k_is); (case z_int => k_is); (case z_str => k_is); (case z_list => k_is); (case z_tuple => k_is); (case z_abs => k_is); (case z_all => k_is); (case z_any => k_is); (case z_sorted => k_is); (case z_sum => k_is); (case z_max => k_is); (case z_min => k_is); (case z_range => k_is); (case z_set => k_is); (case z_isinstance => k_is); (case z_bool => k_is); (case z_dict => k_is); (case z_enumerate => k_is); (case z_zip => k_is)
