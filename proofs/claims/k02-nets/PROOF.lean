import PyProof.Rows.All
import HandS.ForMost
import KE.SortData
import HandS.WordsExc
import HandS.TupAny
import HandS.Deep
import HandS.Wide
import HandS.IsInst
import HandS.TupLen
import HandS.Text
import HandS.RaiseMore
import HandS.More
import HandS.Conv
import HandS.Zip
import PyProof.Draws
import PyProof.EnumMake
import HandS.ForExc
import HandS.ExcOwn
import HandS.ExcValue
import HandS.ExcIs
import PySem.Challenge.RW_nohalfway_k02_nets
set_option Elab.async false
set_option linter.all false
set_option maxRecDepth 100000
/-! PyE: a small machine over plain data: what a def of the program's own subset of Python comes to, reckoned by functions. -/
namespace L3
open PySem L2

/-- a thing: tuples are trees, lists and dicts and instances stand in the store -/
inductive AV where
  | non | bl (b : Bool) | int (i : Int) | str (x : List Nat) | tup (xs : List AV) | ref (n : Nat) | rol (xs : List Int)
  deriving Inhabited
mutual
def AV.eqb : AV → AV → Bool
  | .non, .non => true
  | .bl a, .bl b => decide (a = b)
  | .int a, .int b => decide (a = b)
  | .str a, .str b => decide (a = b)
  | .tup a, .tup b => AV.eqbs a b
  | .ref a, .ref b => decide (a = b)
  | .rol a, .rol b => decide (a = b)
  | _, _ => false
def AV.eqbs : List AV → List AV → Bool
  | [], [] => true
  | x :: xs, y :: ys => AV.eqb x y && AV.eqbs xs ys
  | _, _ => false
end
mutual
theorem AV.eqb_iff : ∀ a b : AV, AV.eqb a b = true ↔ a = b
  | .non, b => by cases b <;> simp [AV.eqb]
  | .bl a, b => by cases b <;> simp [AV.eqb]
  | .int a, b => by cases b <;> simp [AV.eqb]
  | .str a, b => by cases b <;> simp [AV.eqb]
  | .ref a, b => by cases b <;> simp [AV.eqb]
  | .rol a, b => by cases b <;> simp [AV.eqb]
  | .tup a, b => by
    cases b with
    | tup b => simpa [AV.eqb] using AV.eqbs_iff a b
    | _ => simp [AV.eqb]
theorem AV.eqbs_iff : ∀ a b : List AV, AV.eqbs a b = true ↔ a = b
  | [], b => by cases b <;> simp [AV.eqbs]
  | x :: xs, b => by
    cases b with
    | nil => simp [AV.eqbs]
    | cons y ys => simp [AV.eqbs, AV.eqb_iff x y, AV.eqbs_iff xs ys]
end
instance : DecidableEq AV := fun a b => decidable_of_iff _ (AV.eqb_iff a b)

inductive AO where
  | lst (xs : List AV)
  | dK (kvs : List (Key × AV)) | dT (kvs : List (List Key × AV))
  | ins (c : Nat) (fs : List (Nat × AV)) | exc (c : Nat)
  deriving DecidableEq
abbrev Sto := List AO
abbrev Slots := List (Option AV)

inductive R (α : Type) where
  | ok (a : α) (s : Sto) | ex (c : Nat) (s : Sto) | no
namespace R
variable {α β : Type}
def bind (r : R α) (f : α → Sto → R β) : R β := match r with
  | .ok a s => f a s
  | .ex c s => .ex c s
  | .no => .no
/-- what is raised is not followed -/
def noex (r : R α) : R α := match r with
  | .ok a s => .ok a s
  | _ => .no
end R
inductive SR where
  | nx (e : Slots) (s : Sto) | rt (v : AV) (s : Sto) | ex (c : Nat) (e : Slots) (s : Sto) | no
def SR.bind (r : SR) (f : Slots → Sto → SR) : SR := match r with
  | .nx e s => f e s
  | r => r
def SR.noex (r : SR) : SR := match r with
  | .ex _ _ _ => .no
  | r => r
/-- an expression's end within a statement -/
def R.st {α : Type} (r : R α) (e : Slots) (f : α → Sto → SR) : SR := match r with
  | .ok a s => f a s
  | .ex c s => .ex c e s
  | .no => .no

inductive Bop where
  | add | sub | mul | fdiv | mod | pow | band | shr
  deriving DecidableEq
inductive Cop where
  | eq | ne | lt | le | gt | ge | isin | notin | is | isnot
  deriving DecidableEq
inductive Ty where
  | bool | int | str | list | tuple | dict | cls (c : Nat)
  deriving DecidableEq
inductive Bi where
  | len | int | str | list | tuple | abs | all | any | sorted | sum | max | min | range | set
  deriving DecidableEq
inductive Tg where
  | nm (i : Nat) | tp (is : List Nat)
  deriving DecidableEq

mutual
inductive E where
  | var (i : Nat) | con (v : AV) | kon (v : AV)
  | bin (op : Bop) (a b : E) | neg (a : E) | not (a : E) | and (es : Es) | or (es : Es)
  | cmp (op : Cop) (a b : E) | chain (o1 o2 : Cop) (a b c : E)
  | lst (es : Es) | tup (es : Es) | dnew (t : Bool) | ddsp (ks : List AV) (es : Es)
  | call (g : Nat) (es : Es) | mk (c : Nat) (es : Es) | bcall (b : Bi) (es : Es) | isi (t : Ty) (a : E) | isx (d : Nat) (a : E)
  | meth (m : Nat) (o : E) (es : Es) | fld (o : E) (f : Nat)
  | idx (o i : E) | sl (o : E) (lo hi : Es) | lrng (a : E)
  | lc (own : List Nat) (tg : Tg) (it : Iw) (cond : Es) (elt : E) | bad
inductive Es where
  | nil | cons (e : E) (es : Es)
inductive Iw where
  | seq (e : E) | rng1 (a : E) | rng2 (a b : E) | enum (e : E) | items (e : E) | vals (e : E) | zip (a b : E) | rng3 (a b c : E)
end

inductive S where
  | done | asg (i : Nat) (e : E) (k : S) | asgT (is : List Nat) (e : E) (k : S)
  | asgF (o : E) (f : Nat) (e : E) (k : S) | asgI (o i e : E) (k : S)
  | aug (i : Nat) (op : Bop) (e : E) (k : S) | augF (o : E) (f : Nat) (op : Bop) (e : E) (k : S)
  | expr (e : E) (k : S) | ret (e : E) | retN
  | ite (c : E) (a b k : S) | loop (tg : Tg) (it : Iw) (body k : S) | whil (c : E) (body k : S)
  | rais (c : Nat) | tryx (body : S) (c i : Nat) (su k : S) | bad

/-- names of methods of built-in types: append 0 extend 1 insert 2 pop 3 clear 4 reverse 5 index 6 count 7 get 8 split 9 join 10 find 11 -/
structure Tab where
  df : Nat → Option (Nat × Nat × S)
  mt : Nat → Nat → Option Nat
  ini : Nat → Option Nat
  fl : Nat → Nat → Bool
  sub : Nat → Nat → Option Bool

/-! ### values -/
abbrev lim : Nat := 16777216
def keyK : AV → Option Key
  | .int i => some (.inl i)
  | .str x => some (.inr ⟨x.toArray⟩)
  | _ => none
def keysK : List AV → Option (List Key)
  | [] => some []
  | x :: xs => match keyK x, keysK xs with
    | some k, some ks => some (k :: ks)
    | _, _ => none
def keyT : AV → Option (List Key)
  | .tup xs => keysK xs
  | _ => none
def unK : Key → AV
  | .inl i => .int i
  | .inr x => .str x.cps.toList
def seqA (st : Sto) : AV → Option (List AV)
  | .tup xs => some xs
  | .ref n => match st[n]? with
    | some (.lst xs) => some xs
    | _ => none
  | .rol xs => some (xs.map .int)
  | _ => none
def lstA (st : Sto) : AV → Option (List AV)
  | .ref n => match st[n]? with
    | some (.lst xs) => some xs
    | _ => none
  | .rol xs => some (xs.map .int)
  | _ => none
/-- all, from the left -/
def oAll {α β : Type} (f : α → Option β) : List α → Option (List β)
  | [] => some []
  | x :: xs => match f x, oAll f xs with
    | some d, some ds => some (d :: ds)
    | _, _ => none
/-- as data -/
def pd : Nat → Sto → AV → Option PyData
  | 0, _, _ => none
  | n + 1, st, v => match v with
    | .non => some .none
    | .bl b => some (.bool b)
    | .int i => some (.int i)
    | .str x => some (.str ⟨x.toArray⟩)
    | .tup xs => (oAll (pd n st) xs).map .tuple
    | .ref m => match st[m]? with
      | some (.lst xs) => (oAll (pd n st) xs).map .list
      | _ => none
    | .rol xs => some (.list (xs.map .int))
def pdS (st : Sto) (v : AV) : Option PyData := match pd 9 st v with
  | some d => if SeqAt.shaped d = true then some d else none
  | none => none
def eqA (st : Sto) (x y : AV) : Option Bool := match pdS st x, pdS st y with
  | some d, some e => some (PyData.eqv d e)
  | _, _ => none
/-- a text in a text -/
def subIn (x z : List Nat) : Bool := !(Builtin.Str.occurrences ⟨z.toArray⟩ ⟨x.toArray⟩ 0 z.length 1).isEmpty
def flA : AV → Option PyData
  | .non => some .none
  | .bl b => some (.bool b)
  | .int i => some (.int i)
  | .str x => some (.str ⟨x.toArray⟩)
  | _ => none
def hasK {κ : Type} [DecidableEq κ] (k : κ) (kvs : List (κ × AV)) : Bool := kvs.any fun p => decide (p.1 = k)
def getK {κ : Type} [DecidableEq κ] (k : κ) (kvs : List (κ × AV)) : Option AV := (kvs.find? fun p => decide (p.1 = k)).map (·.2)
def inA (st : Sto) (x y : AV) : Option Bool := match y with
  | .str z => match x with
    | .str c => some (subIn c z)
    | _ => none
  | .tup ys => match flA x, oAll flA ys with
    | some d, some es => some (es.any fun e => PyData.eqv e d)
    | _, _ => none
  | .rol ys => match flA x with
    | some d => some (ys.any fun e => PyData.eqv (.int e) d)
    | _ => none
  | .ref n => match st[n]? with
    | some (.lst _) => match pdS st x, pdS st (.ref n) with
      | some d, some (.list es) => some (es.any fun e => PyData.eqv e d)
      | _, _ => none
    | some (.dK kvs) => match keyK x with
      | some k => some (hasK k kvs)
      | none => none
    | some (.dT kvs) => match keyT x with
      | some k => some (hasK k kvs)
      | none => none
    | _ => none
  | _ => none

def R.ofB (o : Option Bool) (st : Sto) : R AV := match o with
  | some b => .ok (.bl b) st
  | none => .no
def alloc (o : AO) (st : Sto) : R AV := .ok (.ref st.length) (st ++ [o])
def mulOk (i j : Int) : Bool := decide (i.natAbs < 18446744073709551616) || decide (j.natAbs < 18446744073709551616) || (decide (i.natAbs < 2 ^ 2000) && decide (j.natAbs < 2 ^ 2000))
def binA (op : Bop) (x y : AV) (st : Sto) : R AV := match op with
  | .add => match x with
    | .int i => match y with
      | .int j => .ok (.int (i + j)) st
      | _ => .no
    | .str a => match y with
      | .str b => if a.length + b.length ≤ lim then .ok (.str (a ++ b)) st else .no
      | _ => .no
    | .tup a => match y with
      | .tup b => if a.length + b.length ≤ lim then .ok (.tup (a ++ b)) st else .no
      | _ => .no
    | .ref m => match y with
      | .ref n => match st[m]?, st[n]? with
        | some (.lst a), some (.lst b) => if a.length + b.length ≤ lim then alloc (.lst (a ++ b)) st else .no
        | _, _ => .no
      | _ => .no
    | _ => .no
  | .sub => match x, y with
    | .int i, .int j => .ok (.int (i - j)) st
    | _, _ => .no
  | .mul => match x with
    | .int i => match y with
      | .int j => if mulOk i j then .ok (.int (i * j)) st else .no
      | _ => .no
    | .ref m => match y with
      | .int k => match st[m]? with
        | some (.lst a) => if -(2 ^ 63) ≤ k ∧ k < 2 ^ 63 ∧ a.length * k.toNat ≤ lim then alloc (.lst (List.replicate k.toNat a).flatten) st else .no
        | _ => .no
      | _ => .no
    | _ => .no
  | .fdiv => match x, y with
    | .int i, .int j => if 0 < j ∧ j < 1073741824 then .ok (.int (i / j)) st else .no
    | _, _ => .no
  | .mod => match x, y with
    | .int i, .int j => if 0 < j then .ok (.int (i % j)) st else .no
    | _, _ => .no
  | .pow => match x, y with
    | .int i, .int j => if 0 ≤ j ∧ j ≤ 1000000 ∧ i.natAbs < 18446744073709551616 then .ok (.int (i ^ j.toNat)) st else .no
    | _, _ => .no
  | .band => match x, y with
    | .int i, .int j => .ok (.int (Builtin.bitAnd i j)) st
    | _, _ => .no
  | .shr => match x, y with
    | .int i, .int j => if 0 ≤ j then .ok (.int (i / 2 ^ j.toNat)) st else .no
    | _, _ => .no

def cmpA (op : Cop) (x y : AV) (st : Sto) : R AV := match op with
  | .eq => .ofB (eqA st x y) st
  | .ne => .ofB ((eqA st x y).map not) st
  | .lt => match x, y with
    | .int i, .int j => .ok (.bl (decide (i < j))) st
    | _, _ => .no
  | .le => match x, y with
    | .int i, .int j => .ok (.bl (decide (i ≤ j))) st
    | _, _ => .no
  | .gt => match x, y with
    | .int i, .int j => .ok (.bl (decide (j < i))) st
    | _, _ => .no
  | .ge => match x, y with
    | .int i, .int j => .ok (.bl (decide (j ≤ i))) st
    | _, _ => .no
  | .isin => .ofB (inA st x y) st
  | .notin => .ofB ((inA st x y).map not) st
  | .is => match y with
    | .non => .ok (.bl (decide (x = .non))) st
    | _ => .no
  | .isnot => match y with
    | .non => .ok (.bl (!decide (x = .non))) st
    | _ => .no

def idxA (o i : AV) (st : Sto) : R AV := match o with
  | .tup xs => match i with
    | .int i => match L2.ixN xs.length i with
      | some k => match xs[k]? with
        | some v => .ok v st
        | none => .no
      | none => .no
    | _ => .no
  | .str x => match i with
    | .int i => if x.length ≤ lim then match L2.ixN x.length i with
      | some k => match x[k]? with
        | some c => .ok (.str [c]) st
        | none => .no
      | none => .no else .no
    | _ => .no
  | .ref n => match st[n]? with
    | some (.lst xs) => match i with
      | .int i => match L2.ixN xs.length i with
        | some k => match xs[k]? with
          | some v => .ok v st
          | none => .no
        | none => .no
      | _ => .no
    | some (.dK kvs) => match keyK i with
      | some k => match getK k kvs with
        | some v => .ok v st
        | none => .no
      | none => .no
    | some (.dT kvs) => match keyT i with
      | some k => match getK k kvs with
        | some v => .ok v st
        | none => .no
      | none => .no
    | _ => .no
  | .rol xs => match i with
    | .int i => match L2.ixN xs.length i with
      | some k => match xs[k]? with
        | some v => .ok (.int v) st
        | none => .no
      | none => .no
    | _ => .no
  | _ => .no
/-- a slice -/
def cutA {α : Type} (xs : List α) (lo hi : Option Int) : List α := (xs.drop (HT.sIx xs.length 0 lo)).take (HT.sIx xs.length xs.length hi - HT.sIx xs.length 0 lo)
def slA (o : AV) (lo hi : Option Int) (st : Sto) : R AV := match o with
  | .str x => if x.length ≤ lim then .ok (.str (cutA x lo hi)) st else .no
  | .tup xs => .ok (.tup (cutA xs lo hi)) st
  | .ref n => match st[n]? with
    | some (.lst xs) => alloc (.lst (cutA xs lo hi)) st
    | _ => .no
  | .rol xs => alloc (.lst (cutA (xs.map .int) lo hi)) st
  | _ => .no
def isA (T : Tab) (t : Ty) (v : AV) (st : Sto) : Option Bool := match v with
  | .non => some false
  | .bl _ => some (decide (t = .bool ∨ t = .int))
  | .int _ => some (decide (t = .int))
  | .str _ => some (decide (t = .str))
  | .tup _ => some (decide (t = .tuple))
  | .ref n => match st[n]? with
    | some (.lst _) => some (decide (t = .list))
    | some (.dK _) => some (decide (t = .dict))
    | some (.dT _) => some (decide (t = .dict))
    | some (.ins _ _) => none
    | some (.exc _) => none
    | none => none
  | .rol _ => some (decide (t = .list))

/-- whether an error is one of a class -/
def isxA (T : Tab) (v : AV) (d : Nat) (st : Sto) : R AV := match v with
  | .ref n => match st[n]? with
    | some (.exc c) => .ofB (T.sub c d) st
    | _ => .no
  | _ => .no
def boolsA : List AV → Option (List Bool)
  | [] => some []
  | .bl b :: r => (boolsA r).map (b :: ·)
  | _ => none
def intsA : List AV → Option (List Int)
  | [] => some []
  | .int b :: r => (intsA r).map (b :: ·)
  | _ => none
def isInt : AV → Option Int
  | .int i => some i
  | _ => none
def alikeB (ds : List PyData) : Bool := ds.all fun d => ds.all fun e => PySem.W.alike d e
def sortB (ds : List PyData) : Bool := (ds.all fun d => match d with
  | .tuple (_ :: _) => true
  | _ => false) || ds.all fun d => match d with
  | .none => false
  | .tuple _ => false
  | _ => true
def encA (st : Sto) (v : AV) : PyData := (pd 9 st v).getD .none
def sortA (st : Sto) (ys : List AV) : List AV := ys.mergeSort (PySem.W.dataLe false (encA st))
def callB (b : Bi) (xs : List AV) (st : Sto) : R AV := match b with
  | .len => match xs with
    | [.str x] => if x.length ≤ lim then .ok (.int x.length) st else .no
    | [.tup x] => .ok (.int x.length) st
    | [.ref n] => match st[n]? with
      | some (.lst x) => .ok (.int x.length) st
      | some (.dK x) => .ok (.int x.length) st
      | some (.dT x) => .ok (.int x.length) st
      | _ => .no
    | [.rol x] => .ok (.int x.length) st
    | _ => .no
  | .int => match xs with
    | [.int i] => .ok (.int i) st
    | [.bl k] => .ok (.int (if k then 1 else 0)) st
    | [.str x] => if x.length ≤ 640 then match PySem.intText? ⟨x.toArray⟩ with
      | some n => .ok (.int n) st
      | none => .no else .no
    | _ => .no
  | .str => match xs with
    | [.int i] => if i.natAbs.log2 < 1920 then .ok (.str ((toString i : String) : Str).cps.toList) st else .no
    | [.str x] => .ok (.str x) st
    | _ => .no
  | .list => match xs with
    | [v] => match seqA st v with
      | some ys => alloc (.lst ys) st
      | none => .no
    | _ => .no
  | .tuple => match xs with
    | [v] => match seqA st v with
      | some ys => .ok (.tup ys) st
      | none => .no
    | _ => .no
  | .abs => match xs with
    | [.int i] => .ok (.int (if i < 0 then -i else i)) st
    | _ => .no
  | .all => match xs with
    | [v] => match lstA st v with
      | some ys => .ofB ((boolsA ys).map fun bs => bs.all id) st
      | none => .no
    | _ => .no
  | .any => match xs with
    | [v] => match lstA st v with
      | some ys => .ofB ((boolsA ys).map fun bs => bs.any id) st
      | none => .no
    | _ => .no
  | .sum => match xs with
    | [v] => match lstA st v with
      | some ys => match intsA ys with
        | some ns => .ok (.int ns.sum) st
        | none => .no
      | none => .no
    | _ => .no
  | .max => match xs with
    | [.int i, .int j] => .ok (.int (if j > i then j else i)) st
    | _ => .no
  | .min => match xs with
    | [.int i, .int j] => .ok (.int (if j < i then j else i)) st
    | _ => .no
  | .sorted => match xs with
    | [v] => match lstA st v with
      | some ys => match oAll (pd 9 st) ys with
        | some ds => if alikeB ds = true ∧ sortB ds = true ∧ ys.length ≤ lim then alloc (.lst (sortA st ys)) st else .no
        | none => .no
      | none => .no
    | _ => .no
  | _ => .no

/-- a list's method -/
def lmeth (m n : Nat) (ys xs : List AV) (st : Sto) : R AV := match m with
  | 0 => match xs with
    | [v] => if ys.length < lim then .ok .non (st.set n (.lst (ys ++ [v]))) else .no
    | _ => .no
  | 1 => match xs with
    | [.ref m] => match st[m]? with
      | some (.lst zs) => if ys.length + zs.length ≤ lim then .ok .non (st.set n (.lst (ys ++ zs))) else .no
      | _ => .no
    | _ => .no
  | 2 => match xs with
    | [.int i, v] => if 0 ≤ i ∧ i < 2 ^ 63 ∧ ys.length < lim then .ok .non (st.set n (.lst (ys.take i.toNat ++ [v] ++ ys.drop i.toNat))) else .no
    | _ => .no
  | 3 => match xs with
    | [] => match ys[ys.length - 1]? with
      | some v => .ok v (st.set n (.lst ys.dropLast))
      | none => .no
    | [.int i] => if ys.length ≤ lim then match L2.ixN ys.length i with
      | some k => match ys[k]? with
        | some v => .ok v (st.set n (.lst (ys.eraseIdx k)))
        | none => .no
      | none => .no else .no
    | _ => .no
  | 4 => match xs with
    | [] => .ok .non (st.set n (.lst []))
    | _ => .no
  | 5 => match xs with
    | [] => .ok .non (st.set n (.lst ys.reverse))
    | _ => .no
  | 6 => match xs with
    | [v] => match pdS st (.ref n), pdS st v with
      | some (.list ds), some d => match ds.findIdx? fun e => PyData.eqv e d with
        | some j => .ok (.int (j : Nat)) st
        | none => .no
      | _, _ => .no
    | _ => .no
  | _ => .no
/-- whose method it is -/
inductive Sel where
  | own (g : Nat) | lst | str | dic | no
def selA (T : Tab) (m : Nat) (o : AV) (st : Sto) : Sel := match o with
  | .ref n => match st[n]? with
    | some (.ins c fs) => match T.mt c m, fs.lookup m with
      | some g, none => .own g
      | _, _ => .no
    | some (.lst _) => if m ≤ 6 then .lst else .no
    | some (.dK _) => if m = 8 then .dic else .no
    | some (.dT _) => if m = 8 then .dic else .no
    | _ => .no
  | .str _ => if m = 10 ∨ m = 7 ∨ m = 11 ∨ m = 9 then .str else .no
  | _ => .no
def strsA : List AV → Option (List (List Nat))
  | [] => some []
  | .str b :: r => (strsA r).map (b :: ·)
  | _ => none
def joinA (a : List Nat) (ys : List (List Nat)) : List Nat := (Txt.join ⟨a.toArray⟩ (ys.map fun y => ⟨y.toArray⟩)).cps.toList
/-- a.join(list) -/
def sjoin (a : List Nat) (xs : List AV) (st : Sto) : R AV := match xs with
  | [.ref n] => match st[n]? with
    | some (.lst ys) => match strsA ys with
      | some zs => if (zs.map List.length).sum + zs.length * a.length ≤ lim then .ok (.str (joinA a zs)) st else .no
      | none => .no
    | _ => .no
  | _ => .no
/-- a.m(b) of texts -/
def smeth (m : Nat) (a : List Nat) (xs : List AV) (st : Sto) : R AV := match m with
  | 10 => sjoin a xs st
  | 7 => match xs with
    | [.str b] => .ok (.int (Txt.count ⟨a.toArray⟩ ⟨b.toArray⟩)) st
    | _ => .no
  | 11 => match xs with
    | [.str b] => .ok (.int (Txt.find ⟨a.toArray⟩ ⟨b.toArray⟩)) st
    | _ => .no
  | 9 => match xs with
    | [.str b] => if b ≠ [] ∧ a.length + 2 ≤ lim then alloc (.lst ((Txt.split ⟨a.toArray⟩ ⟨b.toArray⟩).map fun y => .str y.cps.toList)) st else .no
    | _ => .no
  | _ => .no
/-- d.get(k), d.get(k, v) -/
def dgetA (o : Option (Option AV)) (xs : List AV) (st : Sto) : R AV := match o with
  | some v => match xs with
    | [_] => .ok (v.getD .non) st
    | [_, d] => .ok (v.getD d) st
    | _ => .no
  | none => .no
def dlook (st : Sto) (n : Nat) (i : AV) : Option (Option AV) := match st[n]? with
  | some (.dK kvs) => (keyK i).map fun k => getK k kvs
  | some (.dT kvs) => (keyT i).map fun k => getK k kvs
  | _ => none
/-- o.m(xs), o of a built-in type -/
def bmeth (s : Sel) (m : Nat) (o : AV) (xs : List AV) (st : Sto) : R AV := match s with
  | .lst => match o with
    | .ref n => match st[n]? with
      | some (.lst ys) => lmeth m n ys xs st
      | _ => .no
    | _ => .no
  | .str => match o with
    | .str a => smeth m a xs st
    | _ => .no
  | .dic => match o with
    | .ref n => match xs with
      | i :: _ => dgetA (dlook st n i) xs st
      | _ => .no
    | _ => .no
  | _ => .no

/-! ### expressions -/
abbrev CallF := Nat → List AV → Sto → R AV
def mkA (T : Tab) (cf1 : CallF) (c : Nat) (xs : List AV) (st : Sto) : R AV := match T.ini c with
  | some g => (cf1 g (.ref st.length :: xs) (st ++ [.ins c []])).bind fun v st' => if v = .non then .ok (.ref st.length) st' else .no
  | none => .no
def methA (cf : CallF) (s : Sel) (m : Nat) (o : AV) (xs : List AV) (st : Sto) : R AV := match s with
  | .own g => cf g (o :: xs) st
  | s => bmeth s m o xs st
/-- what is not there is not called -/
def Sel.ok (s : Sel) (r : R AV) : R AV := match s with
  | .no => .no
  | _ => r
def putA (f : Nat) (v : AV) : List (Nat × AV) → List (Nat × AV)
  | [] => [(f, v)]
  | (g, x) :: r => if g = f then (g, v) :: r else (g, x) :: putA f v r
def fldA (T : Tab) (o : AV) (f : Nat) (st : Sto) : R AV := match o with
  | .ref n => match st[n]? with
    | some (.ins c fs) => if T.fl c f = true then match fs.lookup f with
      | some v => .ok v st
      | none => .no else .no
    | _ => .no
  | _ => .no
def tgIds : Tg → List Nat
  | .nm i => [i]
  | .tp is => is
def bindT (tg : Tg) (x : AV) (e : Slots) : Option Slots := match tg with
  | .nm i => some (e.set i (some x))
  | .tp is => match x with
    | .tup xs => if is.length = xs.length then some (go is xs e) else none
    | _ => none
where go : List Nat → List AV → Slots → Slots
  | i :: is, x :: xs, e => go is xs (e.set i (some x))
  | _, _, e => e
def wipeA (e : Slots) : List Nat → Slots
  | [] => e
  | i :: is => (wipeA e is).set i none
/-- what is walked: the things, and what must stand still meanwhile -/
structure Wk where
  xs : List AV
  at1 : Option (Nat × AO) := none
  at2 : Option (Nat × AO) := none
def Wk.ck (w : Wk) (st : Sto) : Bool :=
  (match w.at1 with | some (n, o) => decide (st[n]? = some o) | none => true) && (match w.at2 with | some (n, o) => decide (st[n]? = some o) | none => true)
def intsFrom (a : Int) (c : Int) : Nat → List AV
  | 0 => []
  | n + 1 => .int a :: intsFrom (a + c) c n
def numbered (k : Nat) : List AV → List AV
  | [] => []
  | x :: xs => .tup [.int k, x] :: numbered (k + 1) xs
def zipped : List AV → List AV → List AV
  | x :: xs, y :: ys => .tup [x, y] :: zipped xs ys
  | _, _ => []
def srcA (st : Sto) (v : AV) : Option Wk := match v with
  | .tup xs => some ⟨xs, none, none⟩
  | .str x => some ⟨x.map fun c => .str [c], none, none⟩
  | .ref n => match st[n]? with
    | some (.lst xs) => some ⟨xs, some (n, .lst xs), none⟩
    | _ => none
  | .rol xs => some ⟨xs.map .int, none, none⟩
  | _ => none
def enumA (st : Sto) (v : AV) : Option Wk := match v with
  | .str x => some ⟨numbered 0 (x.map fun c => .str [c]), none, none⟩
  | .ref n => match st[n]? with
    | some (.lst xs) => some ⟨numbered 0 xs, some (n, .lst xs), none⟩
    | _ => none
  | .rol xs => some ⟨numbered 0 (xs.map .int), none, none⟩
  | _ => none
def atOf (v : AV) (xs : List AV) : Option (Nat × AO) := match v with
  | .ref n => some (n, .lst xs)
  | _ => none
def tpA : AV → Option (List AV)
  | .tup xs => some xs
  | _ => none
def zipA (st : Sto) (v u : AV) : Option Wk := match lstA st v, lstA st u with
  | some xs, some ys => some ⟨zipped xs ys, atOf v xs, atOf u ys⟩
  | _, _ => match tpA v, tpA u with
    | some xs, some ys => some ⟨zipped xs ys, none, none⟩
    | _, _ => none
def okInt (i : Int) : Bool := decide (-(2 ^ 62) ≤ i) && decide (i < 2 ^ 62)
def rngA (xs : List AV) : Option Wk := match xs with
  | [.int j] => if okInt j then some ⟨intsFrom 0 1 j.toNat, none, none⟩ else none
  | [.int i, .int j] => if okInt i && okInt j then some ⟨intsFrom i 1 (j - i).toNat, none, none⟩ else none
  | _ => none
def rngC (x y z : AV) : Option Wk := match x, y, z with
  | .int i, .int j, .int c => if c ≠ 0 ∧ c.natAbs < 1073741824 ∧ Builtin.Range.small i j c = true ∧ 0 ≤ Builtin.Range.rangeSize i j c then some ⟨intsFrom i c (Builtin.Range.rangeSize i j c).toNat, none, none⟩ else none
  | _, _, _ => none
def lrngA (x : AV) (st : Sto) : R AV := match x with
  | .int j => if 0 ≤ j ∧ j ≤ 1000000 then alloc (.lst (intsFrom 0 1 j.toNat)) st else .no
  | _ => .no
/-- the value of a test -/
def tst (r : R AV) : R Bool := r.bind fun v st => match v with
  | .bl b => .ok b st
  | _ => .no
def lcL (tg : Tg) (ck : Sto → Bool) (cond : Slots → Sto → R AV) (elt : Slots → Sto → R AV) (e0 : Slots) : List AV → List AV → Sto → R (List AV)
  | [], acc, st => if ck st = true then .ok acc st else .no
  | x :: xs, acc, st => if ck st = true then
      match bindT tg x e0 with
      | none => .no
      | some e => (tst (cond e st)).noex.bind fun c st =>
        if c = true then (elt e st).noex.bind fun v st => if acc.length < lim then lcL tg ck cond elt e0 xs (acc ++ [v]) st else .no
        else lcL tg ck cond elt e0 xs acc st
    else .no
def optI (v : AV) (st : Sto) : R (Option Int) := match v with
  | .int i => .ok (some i) st
  | _ => .no
def negA (v : AV) (st : Sto) : R AV := match v with
  | .int i => .ok (.int (-i)) st
  | _ => .no
def notA (v : AV) (st : Sto) : R AV := match v with
  | .bl b => .ok (.bl (!b)) st
  | _ => .no
def tupA (xs : List AV) (st : Sto) : R AV := if xs.length ≤ lim then .ok (.tup xs) st else .no
def wkA (o : Option Wk) (st : Sto) : R Wk := match o with
  | some w => .ok w st
  | none => .no

def putK {κ : Type} [DecidableEq κ] (k : κ) (v : AV) (kvs : List (κ × AV)) : List (κ × AV) :=
  if hasK k kvs = true then kvs.map fun p => if p.1 = k then (p.1, v) else p else kvs ++ [(k, v)]
def mergeA (kvs : List (Key × AV)) : List (Key × AV) := kvs.foldl (fun acc kv => putK kv.1 kv.2 acc) []
/-- the keys and values of a display are laid -/
def dispA (n : Nat) (ks : List AV) (xs : List AV) (st : Sto) : R AV := match st[n]? with
  | some (.dK []) => match keysK ks with
    | some kk => if kk.length = xs.length ∧ kk ≠ [] ∧ kk.length ≤ 15 then .ok (.ref n) (st.set n (.dK (mergeA (kk.zip xs)))) else .no
    | none => .no
  | _ => .no
mutual
def ev (T : Tab) (cf cf1 : CallF) : E → Slots → Sto → R AV
  | .var i, e, st => match e[i]? with
    | some (some v) => .ok v st
    | _ => .no
  | .con v, _, st => .ok v st
  | .kon v, _, st => .ok v st
  | .bin op a b, e, st => (ev T cf cf1 a e st).bind fun x st => (ev T cf cf1 b e st).bind fun y st => binA op x y st
  | .neg a, e, st => (ev T cf cf1 a e st).bind negA
  | .not a, e, st => (ev T cf cf1 a e st).bind notA
  | .and es, e, st => evAnd T cf cf1 es e st
  | .or es, e, st => evOr T cf cf1 es e st
  | .cmp op a b, e, st => (ev T cf cf1 a e st).bind fun x st => (ev T cf cf1 b e st).bind fun y st => cmpA op x y st
  | .chain o1 o2 a b c, e, st => (ev T cf cf1 a e st).bind fun x st => (ev T cf cf1 b e st).bind fun y st => (cmpA o1 x y st).bind fun k st => match k with
    | .bl true => (ev T cf cf1 c e st).bind fun z st => cmpA o2 y z st
    | .bl false => .ok (.bl false) st
    | _ => .no
  | .lst es, e, st => (evs T cf cf1 es e st).bind fun xs st => if xs.length ≤ lim then alloc (.lst xs) st else .no
  | .tup es, e, st => (evs T cf cf1 es e st).bind tupA
  | .dnew t, _, st => alloc (if t then .dT [] else .dK []) st
  | .ddsp ks es, e, st => (evs T cf cf1 es e (st ++ [.dK []])).bind fun xs st2 => dispA st.length ks xs st2
  | .call g es, e, st => (evs T cf cf1 es e st).bind fun xs st => cf g xs st
  | .mk c es, e, st => (evs T cf cf1 es e st).bind fun xs st => mkA T cf1 c xs st
  | .bcall b es, e, st => (evs T cf cf1 es e st).bind fun xs st => callB b xs st
  | .isi t a, e, st => (ev T cf cf1 a e st).bind fun v st => .ofB (isA T t v st) st
  | .isx d a, e, st => (ev T cf cf1 a e st).bind fun v st => isxA T v d st
  | .meth m o es, e, st => (ev T cf cf1 o e st).bind fun v st => (selA T m v st).ok ((evs T cf cf1 es e st).bind fun xs st1 => methA cf (selA T m v st) m v xs st1)
  | .fld o f, e, st => (ev T cf cf1 o e st).bind fun v st => fldA T v f st
  | .idx o i, e, st => (ev T cf cf1 o e st).bind fun v st => (ev T cf cf1 i e st).bind fun k st => idxA v k st
  | .sl o lo hi, e, st => (ev T cf cf1 o e st).bind fun v st => (evO T cf cf1 lo e st).bind fun a st => (evO T cf cf1 hi e st).bind fun b st => slA v a b st
  | .lrng a, e, st => (ev T cf cf1 a e st).bind fun x st => lrngA x st
  | .lc own tg it cond elt, e, st => (evIt T cf cf1 it e st).bind fun w st =>
      (lcL tg w.ck (fun e st => evAnd T cf cf1 cond e st) (fun e st => ev T cf cf1 elt e st) (wipeA e own) w.xs [] st).bind fun acc st => alloc (.lst acc) st
  | .bad, _, _ => .no
def evs (T : Tab) (cf cf1 : CallF) : Es → Slots → Sto → R (List AV)
  | .nil, _, st => .ok [] st
  | .cons a es, e, st => (ev T cf cf1 a e st).bind fun x st => (evs T cf cf1 es e st).bind fun xs st => .ok (x :: xs) st
def evO (T : Tab) (cf cf1 : CallF) : Es → Slots → Sto → R (Option Int)
  | .nil, _, st => .ok none st
  | .cons a _, e, st => (ev T cf cf1 a e st).bind optI
def evAnd (T : Tab) (cf cf1 : CallF) : Es → Slots → Sto → R AV
  | .nil, _, st => .ok (.bl true) st
  | .cons a es, e, st => (ev T cf cf1 a e st).bind fun x st => match x with
    | .bl true => evAnd T cf cf1 es e st
    | .bl false => .ok (.bl false) st
    | _ => .no
def evOr (T : Tab) (cf cf1 : CallF) : Es → Slots → Sto → R AV
  | .nil, _, st => .ok (.bl false) st
  | .cons a es, e, st => (ev T cf cf1 a e st).bind fun x st => match x with
    | .bl true => .ok (.bl true) st
    | .bl false => evOr T cf cf1 es e st
    | _ => .no
def evIt (T : Tab) (cf cf1 : CallF) : Iw → Slots → Sto → R Wk
  | .seq a, e, st => (ev T cf cf1 a e st).bind fun v st => wkA (srcA st v) st
  | .rng1 a, e, st => (ev T cf cf1 a e st).bind fun x st => wkA (rngA [x]) st
  | .rng2 a b, e, st => (ev T cf cf1 a e st).bind fun x st => (ev T cf cf1 b e st).bind fun y st => wkA (rngA [x, y]) st
  | .enum a, e, st => (ev T cf cf1 a e st).bind fun v st => wkA (enumA st v) st
  | .items _, _, _ => .no
  | .vals _, _, _ => .no
  | .rng3 a b c, e, st => (ev T cf cf1 a e st).bind fun x st => (ev T cf cf1 b e st).bind fun y st => (ev T cf cf1 c e st).bind fun z st => wkA (rngC x y z) st
  | .zip a b, e, st => (ev T cf cf1 a e st).bind fun v st => (ev T cf cf1 b e st).bind fun u st => wkA (zipA st v u) st
end

/-! ### statements -/
def forL (tg : Tg) (ck : Sto → Bool) (body : Slots → Sto → SR) : List AV → Slots → Sto → SR
  | [], e, st => if ck st = true then .nx e st else .no
  | x :: xs, e, st => if ck st = true then
      match bindT tg x e with
      | none => .no
      | some e => (body e st).bind fun e st => forL tg ck body xs e st
    else .no
def whL (c : Slots → Sto → R AV) (body : Slots → Sto → SR) : Nat → Slots → Sto → SR
  | 0, _, _ => .no
  | n + 1, e, st => (c e st).st e fun v st => match v with
    | .bl true => (body e st).bind fun e st => whL c body n e st
    | .bl false => .nx e st
    | _ => .no
def wfuel : Nat := 4294967296
def setF (T : Tab) (o : AV) (f : Nat) (v : AV) (st : Sto) : Option Sto := match o with
  | .ref n => match st[n]? with
    | some (.ins c fs) => if T.fl c f = true ∧ fs.length < 900 then some (st.set n (.ins c (putA f v fs))) else none
    | _ => none
  | _ => none
def setI (o i v : AV) (st : Sto) : Option Sto := match o with
  | .ref n => match st[n]? with
    | some (.lst xs) => match i with
      | .int i => match L2.ixN xs.length i with
        | some k => some (st.set n (.lst (xs.set k v)))
        | none => none
      | _ => none
    | some (.dK kvs) => match keyK i with
      | some k => if kvs.length < lim then some (st.set n (.dK (putK k v kvs))) else none
      | none => none
    | some (.dT kvs) => match keyT i with
      | some k => if kvs.length < lim then some (st.set n (.dT (putK k v kvs))) else none
      | none => none
    | _ => none
  | _ => none
def SR.of (o : Option Sto) (f : Sto → SR) : SR := match o with
  | some st => f st
  | none => .no
def SR.ofE (o : Option Slots) (f : Slots → SR) : SR := match o with
  | some e => f e
  | none => .no

def exS (T : Tab) (cf cf1 : CallF) : S → Slots → Sto → SR
  | .done, e, st => .nx e st
  | .asg i a k, e, st => (ev T cf cf1 a e st).st e fun v st => exS T cf cf1 k (e.set i (some v)) st
  | .asgT is a k, e, st => (ev T cf cf1 a e st).st e fun v st => SR.ofE (bindT (.tp is) v e) fun e => exS T cf cf1 k e st
  | .asgF o f a k, e, st => (ev T cf cf1 a e st).st e fun v st => (ev T cf cf1 o e st).st e fun o st => SR.of (setF T o f v st) fun st => exS T cf cf1 k e st
  | .asgI o i a k, e, st => (ev T cf cf1 a e st).st e fun v st => (ev T cf cf1 o e st).st e fun o st => (ev T cf cf1 i e st).st e fun i st => SR.of (setI o i v st) fun st => exS T cf cf1 k e st
  | .aug i op a k, e, st => match e[i]? with
    | some (some x) => (ev T cf cf1 a e st).st e fun v st => match x, v with
      | .int p, .int q => exS T cf cf1 k (e.set i (some (.int (p + q)))) st
      | _, _ => .no
    | _ => .no
  | .augF o f op a k, e, st => (ev T cf cf1 o e st).st e fun o st => (fldA T o f st).st e fun x st => (ev T cf cf1 a e st).st e fun v st => match x, v with
      | .int p, .int q => SR.of (setF T o f (.int (p + q)) st) fun st => exS T cf cf1 k e st
      | _, _ => .no
  | .expr a k, e, st => (ev T cf cf1 a e st).st e fun _ st => exS T cf cf1 k e st
  | .ret a, e, st => (ev T cf cf1 a e st).st e fun v st => .rt v st
  | .retN, _, st => .rt .non st
  | .ite c a b k, e, st => (ev T cf cf1 c e st).st e fun v st => match v with
    | .bl true => (exS T cf cf1 a e st).bind fun e st => exS T cf cf1 k e st
    | .bl false => (exS T cf cf1 b e st).bind fun e st => exS T cf cf1 k e st
    | _ => .no
  | .loop tg it body k, e, st => (evIt T cf cf1 it e st).st e fun w st => (forL tg w.ck (fun e st => exS T cf cf1 body e st) w.xs e st).bind fun e st => exS T cf cf1 k e st
  | .whil c body k, e, st => (whL (fun e st => ev T cf cf1 c e st) (fun e st => exS T cf cf1 body e st) wfuel e st).bind fun e st => exS T cf cf1 k e st
  | .rais c, e, st => .ex c e st
  | .tryx body c i su k, e, st => match exS T cf cf1 body e st with
    | .nx e st => exS T cf cf1 k e st
    | .rt v st => .rt v st
    | .ex c' e st => if T.sub c' c = some true then (exS T cf cf1 su (e.set i (some (.ref st.length))) (st ++ [.exc c'])).noex.bind fun e st => exS T cf cf1 k (e.set i none) st else .no
    | .no => .no
  | .bad, _, _ => .no

def runD (T : Tab) (cf cf1 : CallF) (g : Nat) (xs : List AV) (st : Sto) : R AV := match T.df g with
  | some (np, ns, body) => if xs.length = np then match exS T cf cf1 body (xs.map some ++ List.replicate (ns - np) none) st with
      | .nx _ st => .ok .non st
      | .rt v st => .ok v st
      | .ex c _ st => .ex c st
      | .no => .no
    else .no
  | none => .no
/-- the calls of level n + 1, and those of level n -/
def lev (T : Tab) : Nat → CallF × CallF
  | 0 => (fun _ _ _ => .no, fun _ _ _ => .no)
  | n + 1 => (runD T (lev T n).1 (lev T n).2, (lev T n).1)
def callF (T : Tab) (n : Nat) : CallF := (lev T n).1
end L3

/-! PyM: whether a code of the small machine is what a tree of the program says. -/
namespace L3
open PySem L2

structure MC where
  N : List Str
  nm : Nat → Str
  defs : List (Str × Nat)
  clss : List (Str × Nat)
  kons : List (Str × AV)
  ecls : List (Str × Nat) := []
  rcls : List Nat := []
def glb (sc : Scope) (x : Str) : Bool := (match sc.names.lookup x with | some .globalImplicit => true | _ => false) && !(x == ("__debug__" : Str)) && decide (x ≠ ("__name__" : Str))
def visB (sc : Scope) (x : Str) : Bool := match sc.names.lookup x with
  | some .local => true
  | some .cell => true
  | some .free => true
  | _ => false
def locB (sc : Scope) (x : Str) : Bool := match sc.names.lookup x with
  | some .local => true
  | _ => false
def lcellB (sc : Scope) (x : Str) : Bool := match sc.names.lookup x with
  | some .local => true
  | some .cell => true
  | _ => false
def biS : Bi → Str
  | .len => "len" | .int => "int" | .str => "str" | .list => "list" | .tuple => "tuple" | .abs => "abs" | .all => "all" | .any => "any" | .sorted => "sorted" | .sum => "sum" | .max => "max" | .min => "min" | .range => "range" | .set => "set"
def biOk : Bi → Bool
  | .range => false | .set => false | _ => true
def tyS : Ty → Option Str
  | .bool => some "bool" | .int => some "int" | .str => some "str" | .list => some "list" | .tuple => some "tuple" | .dict => some "dict" | .cls _ => none
def biNames : List Str := ["len", "int", "str", "list", "tuple", "abs", "all", "any", "sorted", "sum", "max", "min", "range", "set", "isinstance", "bool", "dict", "enumerate", "zip"]
def bopO : Bop → Operator
  | .add => .Add | .sub => .Sub | .mul => .Mult | .fdiv => .FloorDiv | .mod => .Mod | .pow => .Pow | .band => .BitAnd | .shr => .RShift
def copO : Cop → CmpOp
  | .eq => .Eq | .ne => .NotEq | .lt => .Lt | .le => .LtE | .gt => .Gt | .ge => .GtE | .isin => .In | .notin => .NotIn | .is => .Is | .isnot => .IsNot
def noStar : Expr → Bool
  | .Starred _ _ => false
  | _ => true
def noSlice : Expr → Bool
  | .Slice _ _ _ _ => false
  | _ => true
def noSuper : Expr → Bool
  | .Call (.Name id _) [] [] _ => decide (id ≠ ("super" : Str))
  | _ => true
def noComp : Expr → Bool
  | .ListComp _ _ _ _ => false
  | .SetComp _ _ _ _ => false
  | .DictComp _ _ _ _ _ => false
  | _ => true
def noTup : Expr → Bool
  | .Tuple _ _ _ => false
  | _ => true
def noSetD : Expr → Bool
  | .Set _ _ _ => false
  | _ => true
def conB : AV → Const → Bool
  | .non, .none => true
  | .bl b, .bool c => b == c
  | .int i, .int j => decide (i = j)
  | .str x, .str y => decide (y = ⟨x.toArray⟩)
  | _, _ => false
def slotB (m : MC) (i : Nat) (x : Str) : Bool := decide (m.N[i]? = some x)
def locC (c : Bool) (sc : Scope) (x : Str) : Bool := if c = true then lcellB sc x else locB sc x
def tgB (m : MC) (c : Bool) (sc : Scope) : Tg → Expr → Bool
  | .nm i, e => match e with
    | .Name x _ => slotB m i x && locC c sc x
    | _ => false
  | .tp is, e => match e with
    | .Tuple es _ _ => decide (es.length = is.length) && (es.zip is).all fun p => match p.1 with
      | .Name x _ => slotB m p.2 x && locC c sc x
      | _ => false
    | _ => false
def ownOf (m : MC) (own : List Nat) : List (Str × Nat) := own.map fun i => ((m.N[i]?).getD ⟨#[]⟩, i)

def keyB (p : Option Expr × AV) : Bool := match p.1 with
  | some (.Constant c _ _) => conB p.2 c && (keyK p.2).isSome
  | _ => false
mutual
def matE (m : MC) : E → Scope → Expr → Bool
  | .var i, sc, e => match e with
    | .Name x _ => slotB m i x && visB sc x && !(x == ("__debug__" : Str)) && !(x == ("__classdict__" : Str))
    | _ => false
  | .con v, sc, e => match e with
    | .Constant c _ _ => conB v c
    | _ => false
  | .kon v, sc, e => match e with
    | .Name x _ => glb sc x && decide ((x, v) ∈ m.kons)
    | _ => false
  | .bin op a b, sc, e => match e with
    | .BinOp a' op' b' _ => decide (op' = bopO op) && matE m a sc a' && matE m b sc b'
    | _ => false
  | .neg a, sc, e => match e with
    | .UnaryOp op' a' _ => decide (op' = .USub) && matE m a sc a'
    | _ => false
  | .not a, sc, e => match e with
    | .UnaryOp op' a' _ => decide (op' = .Not) && matE m a sc a'
    | _ => false
  | .and es, sc, e => match e with
    | .BoolOp op' vs _ => decide (op' = .And) && !vs.isEmpty && matEs m es sc vs
    | _ => false
  | .or es, sc, e => match e with
    | .BoolOp op' vs _ => decide (op' = .Or) && !vs.isEmpty && matEs m es sc vs
    | _ => false
  | .cmp op a b, sc, e => match e with
    | .Compare a' [op'] [b'] _ => decide (op' = copO op) && noSetD b' && matE m a sc a' && matE m b sc b'
    | _ => false
  | .chain o1 o2 a b c, sc, e => match e with
    | .Compare a' [p1, p2] [b', c'] _ => decide (p1 = copO o1) && decide (p2 = copO o2) && noSetD c' && matE m a sc a' && matE m b sc b' && matE m c sc c'
    | _ => false
  | .lst es, sc, e => match e with
    | .List vs _ => vs.all noStar && matEs m es sc vs
    | _ => false
  | .tup es, sc, e => match e with
    | .Tuple vs _ _ => vs.all noStar && matEs m es sc vs
    | _ => false
  | .dnew _, _, e => match e with
    | .Dict [] [] _ => true
    | _ => false
  | .ddsp ks es, sc, e => match e with
    | .Dict keys vs _ => decide (keys.length = ks.length) && ((keys.zip ks).all keyB) && vs.all noStar && decide (keys.length = vs.length) && !keys.isEmpty && decide (keys.length ≤ 15) && matEs m es sc vs
    | _ => false
  | .call g es, sc, e => match e with
    | .Call (.Name x _) vs [] _ => glb sc x && decide ((x, g) ∈ m.defs) && vs.all noStar && matEs m es sc vs
    | _ => false
  | .mk c es, sc, e => match e with
    | .Call (.Name x _) vs [] _ => glb sc x && decide ((x, c) ∈ m.clss) && vs.all noStar && matEs m es sc vs
    | _ => false
  | .bcall b es, sc, e => match e with
    | .Call (.Name x _) vs [] _ => glb sc x && decide (x = biS b) && biOk b && !vs.isEmpty && vs.all noStar && matEs m es sc vs
    | _ => false
  | .isi t a, sc, e => match e with
    | .Call (.Name x _) [a', .Name y _] [] _ => glb sc x && glb sc y && decide (x = ("isinstance" : Str)) && decide (tyS t = some y) && noStar a' && matE m a sc a'
    | _ => false
  | .isx d a, sc, e => match e with
    | .Call (.Name x _) [a', .Name y _] [] _ => glb sc x && glb sc y && decide (x = ("isinstance" : Str)) && decide ((y, d) ∈ m.ecls) && noStar a' && matE m a sc a'
    | _ => false
  | .meth k o es, sc, e => match e with
    | .Call (.Attribute o' x ap) vs [] cp => decide (x = m.nm k) && (ap.endLine == cp.line) && noSuper o' && vs.all noStar && decide (vs.length < 25) && matE m o sc o' && matEs m es sc vs
    | _ => false
  | .fld o f, sc, e => match e with
    | .Attribute o' x _ => decide (x = m.nm f) && noSuper o' && matE m o sc o'
    | _ => false
  | .idx o i, sc, e => match e with
    | .Subscript o' i' _ => noSlice i' && matE m o sc o' && matE m i sc i'
    | _ => false
  | .sl o lo hi, sc, e => match e with
    | .Subscript o' (.Slice lo' hi' none _) _ => matE m o sc o' && matO m lo sc lo' && matO m hi sc hi'
    | _ => false
  | .lrng a, sc, e => match e with
    | .Call (.Name x _) [.Call (.Name y _) [a'] [] _] [] _ => glb sc x && glb sc y && decide (x = ("list" : Str)) && decide (y = ("range" : Str)) && noStar a' && matE m a sc a'
    | _ => false
  | .lc own tg it cond elt, sc, e => match e with
    | .ListComp elt' [⟨tg', it', cs', 0⟩] scope _ => blkC m.N sc scope (ownOf m own) && decide (∀ i ∈ tgIds tg, i ∈ own) && noSetD it' && decide (cs'.length ≤ 1) && matI m it sc tg' it' &&
        tgB m false (relS scope sc) tg tg' && matEs m cond (relS scope sc) cs' && matE m elt (relS scope sc) elt'
    | _ => false
  | .bad, _, _ => true
def matEs (m : MC) : Es → Scope → List Expr → Bool
  | .nil, _, vs => match vs with
    | [] => true
    | _ => false
  | .cons a es, sc, vs => match vs with
    | v :: r => matE m a sc v && matEs m es sc r
    | _ => false
def matO (m : MC) : Es → Scope → Option Expr → Bool
  | .nil, _, v => match v with
    | none => true
    | _ => false
  | .cons a es, sc, v => match v with
    | some v => (match es with | .nil => true | _ => false) && matE m a sc v
    | none => false
def matI (m : MC) : Iw → Scope → Expr → Expr → Bool
  | .seq a, sc, _, e => matE m a sc e
  | .rng1 a, sc, _, e => match e with
    | .Call (.Name x _) [a'] [] _ => glb sc x && decide (x = ("range" : Str)) && noStar a' && matE m a sc a'
    | _ => false
  | .rng2 a b, sc, _, e => match e with
    | .Call (.Name x _) [a', b'] [] _ => glb sc x && decide (x = ("range" : Str)) && noStar a' && noStar b' && matE m a sc a' && matE m b sc b'
    | _ => false
  | .enum a, sc, tg, e => match tg with
    | .Tuple _ _ _ => match e with
      | .Call (.Name x _) [a'] [] _ => glb sc x && decide (x = ("enumerate" : Str)) && noStar a' && matE m a sc a'
      | _ => false
    | _ => false
  | .items _, _, _, _ => false
  | .vals _, _, _, _ => false
  | .rng3 a b c, sc, _, e => match e with
    | .Call (.Name x _) [a', b', c'] [] _ => glb sc x && decide (x = ("range" : Str)) && noStar a' && noStar b' && noStar c' && matE m a sc a' && matE m b sc b' && matE m c sc c'
    | _ => false
  | .zip a b, sc, tg, e => match tg with
    | .Tuple _ _ _ => match e with
      | .Call (.Name x _) [a', b'] [] _ => glb sc x && decide (x = ("zip" : Str)) && noStar a' && noStar b' && matE m a sc a' && matE m b sc b'
      | _ => false
    | _ => false
end

/-! ### statements -/
mutual
/-- what may stand in an except clause -/
def quE : E → Bool
  | .var _ => true
  | .con _ => true
  | .lst es => quEs es
  | .bin _ a b => quE a && quE b
  | .isx _ a => quE a
  | _ => false
def quEs : Es → Bool
  | .nil => true
  | .cons a es => quE a && quEs es
end
def quS : S → Bool
  | .done => true
  | .asg _ a k => quE a && quS k
  | _ => false
/-- whether name = value exchanges its stores (a comprehension right at a local name) -/
def swapB (sc : Scope) (x : Str) (p : Pos) : Expr → Bool
  | .ListComp _ _ scope pos => locB sc x && (p.line == pos.line) && !(scope.names.any fun (n, k) => n == x && (k == .local || k == .cell))
  | _ => false
def matS (m : MC) (sc : Scope) : S → List Stmt → Bool
  | .done, ss => match ss with
    | [] => true
    | _ => false
  | .asg i a k, ss => match ss with
    | .Assign [.Name x _] e _ :: r => slotB m i x && lcellB sc x && matE m a sc e && (noComp e || lcellB sc x) && matS m sc k r
    | _ => false
  | .asgT is a k, ss => match ss with
    | .Assign [.Tuple es tk tp] e _ :: r => tgB m true sc (.tp is) (.Tuple es tk tp) && noComp e && noTup e && matE m a sc e && matS m sc k r
    | _ => false
  | .asgF o f a k, ss => match ss with
    | .Assign [.Attribute o' x _] e _ :: r => decide (x = m.nm f) && matE m o sc o' && matE m a sc e && noComp e && matS m sc k r
    | _ => false
  | .asgI o i a k, ss => match ss with
    | .Assign [.Subscript o' i' _] e _ :: r => matE m o sc o' && noSlice i' && matE m i sc i' && matE m a sc e && noComp e && matS m sc k r
    | _ => false
  | .aug i op a k, ss => match ss with
    | .AugAssign (.Name x _) op' e _ :: r => slotB m i x && lcellB sc x && decide (op' = .Add) && decide (op = .add) && matE m a sc e && matS m sc k r
    | _ => false
  | .augF _ _ _ _ _, _ => false
  | .expr a k, ss => match ss with
    | .Expr e _ :: r => matE m a sc e && noComp e && matS m sc k r
    | _ => false
  | .ret a, ss => match ss with
    | [.Return (some e) _] => matE m a sc e
    | _ => false
  | .retN, ss => match ss with
    | [.Return none _] => true
    | _ => false
  | .ite c a b k, ss => match ss with
    | .If c' a' b' _ :: r => matE m c sc c' && matS m sc a a' && matS m sc b b' && matS m sc k r
    | _ => false
  | .loop tg it body k, ss => match ss with
    | .For tg' it' b' [] _ :: r => tgB m true sc tg tg' && matI m it sc tg' it' && noSetD it' && matS m sc body b' && matS m sc k r
    | _ => false
  | .whil c body k, ss => match ss with
    | .While c' b' [] _ :: r => matE m c sc c' && matS m sc body b' && matS m sc k r
    | _ => false
  | .rais c, ss => match ss with
    | [.Raise (some (.Call (.Name x _) [.Constant (.str _) _ _] [] _)) none _] => glb sc x && decide ((x, c) ∈ m.ecls) && decide (c ∈ m.rcls)
    | _ => false
  | .bad, _ => true
  | .tryx body c i su k, ss => match ss with
    | .Try b' [.ExceptHandler (some (.Name x _)) (some n) s' _] [] [] _ :: r => glb sc x && decide ((x, c) ∈ m.ecls) && decide (c ≠ 999) && slotB m i n && locB sc n && !s'.isEmpty && matS m sc body b' && quS su && matS m sc su s' && matS m sc k r
    | _ => false
end L3

/-! Snd1: how the machine's store lies in the model's heap; readings by the machine. -/
namespace L3
open PySem PySem.Spec PyProof.Rows L2

/-- an error of a class, of which its heap tells -/
def ExK (cls : Value) (a : Addr) : HO := .ext fun h => ∃ (oe : Obj) (vs : Array Value), h.get? a = some oe ∧ Zc cls none oe ∧ oe.data = .fields vs
/-- the ground -/
structure G where
  P : Program
  w : World
  K : PySem.W.Frag
  mg : Str → Option Value
  base : Heap
  T : Tab
  clsA : Nat → Addr
  nm : Nat → Str
  nmInj : ∀ a b, nm a = nm b → a = b

abbrev T8 (x : List Nat) : Str := ⟨x.toArray⟩
abbrev Al := Nat → Option Addr
/-- a list that is read alone -/
def SqR (K : PySem.W.Frag) (H : Hp) (a : Addr) (xs : List V) : Prop :=
  (∃ o, H a = some (.frz o (.lst xs))) ∨
    ∃ (o : Obj) (its : Array Value) (n : Nat), K.lookup a = some o ∧ o.cls = .type "list" ∧ o.dict = none ∧ o.data = .seq its n ∧ its.size ≤ sizeLine ∧ Vals xs its.toList
theorem SqR.sq {K : PySem.W.Frag} {H : Hp} {a : Addr} {xs : List V} (h : SqR K H a xs) : SqL K H a xs := by
  rcases h with h | h
  · exact .inl (.inr h)
  · exact .inr h
section
variable (K : PySem.W.Frag) (H : Hp) (al : Al)
mutual
/-- a thing and the model's value -/
def RV : AV → V → Prop
  | .non, v => v = .non
  | .bl b, v => v = .bl b
  | .int i, v => v = .int i
  | .str x, v => v = .str (T8 x)
  | .tup xs, v => ∃ p ws, v = .ref p ∧ H p = some (.tup ws) ∧ RVs xs ws
  | .ref n, v => ∃ p, al n = some p ∧ v = .ref p
  | .rol xs, v => ∃ p, v = .ref p ∧ SqR K H p (xs.map .int)
def RVs : List AV → List V → Prop
  | [], ws => ws = []
  | x :: xs, ws => ∃ w r, ws = w :: r ∧ RV x w ∧ RVs xs r
end
end
def RP {κ : Type} (K : PySem.W.Frag) (H : Hp) (al : Al) : List (κ × AV) → List (κ × V) → Prop
  | [], ws => ws = []
  | x :: xs, ws => ∃ w r, ws = (x.1, w) :: r ∧ RV K H al x.2 w ∧ RP K H al xs r
def RF (g : G) (H : Hp) (al : Al) : List (Nat × AV) → List (Str × V) → Prop
  | [], ws => ws = []
  | x :: xs, ws => ∃ w r, ws = (g.nm x.1, w) :: r ∧ RV g.K H al x.2 w ∧ RF g H al xs r
/-- an object and the model's -/
def RO (g : G) (H : Hp) (al : Al) (p : Addr) : AO → Prop
  | .lst xs => ∃ ws, H p = some (.lst ws) ∧ RVs g.K H al xs ws
  | .dK kvs => ∃ ws, H p = some (.dK ws) ∧ RP g.K H al kvs ws
  | .dT kvs => ∃ ws, H p = some (.dT ws) ∧ RP g.K H al kvs ws
  | .ins c fs => ∃ dx ws, H p = some (.ins (g.clsA c) dx ws) ∧ RF g H al fs ws
  | .exc c => H p = some (ExK (.ref (g.clsA c)) p)
structure Rel (g : G) (al : Al) (st : Sto) (H : Hp) : Prop where
  inj : ∀ m n p, al m = some p → al n = some p → m = n
  dom : ∀ n p, al n = some p → n < st.length
  obj : ∀ (n : Nat) (o : AO), st[n]? = some o → ∃ p, al n = some p ∧ RO g H al p o
/-- from one state on to a later one -/
structure Stp (al : Al) (H : Hp) (al' : Al) (H' : Hp) : Prop where
  up : ∀ n p, al n = some p → al' n = some p
  fr : ∀ p o, H p = some o → (∀ n, al n ≠ some p) → H' p = some o
  nw : ∀ n p, al' n = some p → al n = some p ∨ H p = none
  kp : ∀ p, H p ≠ none → H' p ≠ none
theorem Stp.refl (al : Al) (H : Hp) : Stp al H al H := ⟨fun _ _ h => h, fun _ _ h _ => h, fun _ _ h => .inl h, fun _ h => h⟩
theorem Stp.trans {a b c : Al} {H1 H2 H3 : Hp} (s : Stp a H1 b H2) (t : Stp b H2 c H3) : Stp a H1 c H3 where
  up n p h := t.up n p (s.up n p h)
  fr p o h hn := t.fr p o (s.fr p o h hn) fun n e => by
    rcases s.nw n p e with q | q
    · exact hn n q
    · rw [h] at q; cases q
  nw n p h := by
    rcases t.nw n p h with q | q
    · exact s.nw n p q
    · by_cases z : H1 p = none
      · exact .inr z
      · exact absurd q (s.kp p z)
  kp p h := t.kp p (s.kp p h)

section
variable {g : G} {al al' : Al} {H H' : Hp} {st : Sto}
/-- the tracked objects of the store are no tuples, nor locked -/
def NoTup (al : Al) (H : Hp) : Prop := ∀ n p, al n = some p → (∀ ws, H p ≠ some (.tup ws)) ∧ ∀ o u, H p ≠ some (.frz o u)
theorem RO.notup {p : Addr} {o : AO} (r : RO g H al p o) : (∀ ws, H p ≠ some (.tup ws)) ∧ ∀ o u, H p ≠ some (.frz o u) := by
  cases o with
  | lst xs =>
    obtain ⟨us, e, _⟩ := r
    exact ⟨fun ws h => (by rw [e] at h; cases h), fun o u h => (by rw [e] at h; cases h)⟩
  | dK xs =>
    obtain ⟨us, e, _⟩ := r
    exact ⟨fun ws h => (by rw [e] at h; cases h), fun o u h => (by rw [e] at h; cases h)⟩
  | dT xs =>
    obtain ⟨us, e, _⟩ := r
    exact ⟨fun ws h => (by rw [e] at h; cases h), fun o u h => (by rw [e] at h; cases h)⟩
  | ins c fs =>
    obtain ⟨dx, us, e, _⟩ := r
    exact ⟨fun ws h => (by rw [e] at h; cases h), fun o u h => (by rw [e] at h; cases h)⟩
  | exc c => exact ⟨fun ws h => (by rw [show H _ = _ from r] at h; cases h), fun o u h => (by rw [show H _ = _ from r] at h; cases h)⟩
theorem Rel.notup (r : Rel g al st H) : NoTup al H := fun n p e => by
  have hn := r.dom n p e
  obtain ⟨q, e2, ro⟩ := r.obj n _ (List.getElem?_eq_getElem hn)
  rw [e] at e2; cases e2
  exact ro.notup
theorem tup_step {p : Addr} {ws : List V} (nt : NoTup al H) (s : Stp al H al' H') (h : H p = some (.tup ws)) : H' p = some (.tup ws) := s.fr _ _ h fun n e => (nt n p e).1 _ h
theorem sqr_step {K : PySem.W.Frag} {p : Addr} {ws : List V} (nt : NoTup al H) (s : Stp al H al' H') (h : SqR K H p ws) : SqR K H' p ws := by
  rcases h with ⟨o, h⟩ | h
  · exact .inl ⟨o, s.fr _ _ h fun n e => (nt n p e).2 _ _ h⟩
  · exact .inr h
mutual
theorem RV.step {K : PySem.W.Frag} (nt : NoTup al H) (s : Stp al H al' H') : ∀ (v : AV) (w : V), RV K H al v w → RV K H' al' v w
  | .non, _, h => h
  | .bl _, _, h => h
  | .int _, _, h => h
  | .str _, _, h => h
  | .tup xs, _, ⟨p, ws, e, q, r⟩ => ⟨p, ws, e, tup_step nt s q, RVs.step nt s xs ws r⟩
  | .ref n, _, ⟨p, e, q⟩ => ⟨p, s.up n p e, q⟩
  | .rol xs, _, ⟨p, e, q⟩ => ⟨p, e, sqr_step nt s q⟩
theorem RVs.step {K : PySem.W.Frag} (nt : NoTup al H) (s : Stp al H al' H') : ∀ (v : List AV) (w : List V), RVs K H al v w → RVs K H' al' v w
  | [], _, h => h
  | x :: xs, _, ⟨w, r, e, h1, h2⟩ => ⟨w, r, e, RV.step nt s x w h1, RVs.step nt s xs r h2⟩
end
theorem RP.step {κ : Type} {K : PySem.W.Frag} (nt : NoTup al H) (s : Stp al H al' H') : ∀ (v : List (κ × AV)) (w : List (κ × V)), RP K H al v w → RP K H' al' v w
  | [], _, h => h
  | x :: xs, _, ⟨w, r, e, h1, h2⟩ => ⟨w, r, e, RV.step nt s x.2 w h1, RP.step nt s xs r h2⟩
theorem RF.step (nt : NoTup al H) (s : Stp al H al' H') : ∀ (v : List (Nat × AV)) (w : List (Str × V)), RF g H al v w → RF g H' al' v w
  | [], _, h => h
  | x :: xs, _, ⟨w, r, e, h1, h2⟩ => ⟨w, r, e, RV.step nt s x.2 w h1, RF.step nt s xs r h2⟩
theorem RVs.length {K : PySem.W.Frag} : ∀ {v : List AV} {w : List V}, RVs K H al v w → v.length = w.length
  | [], _, h => by
    have h' : _ = [] := h
    rw [h']; rfl
  | x :: xs, _, ⟨w, r, e, h1, h2⟩ => by
    rw [e, List.length_cons, List.length_cons, RVs.length h2]
theorem RVs.get {K : PySem.W.Frag} : ∀ {v : List AV} {w : List V} {i : Nat} {x : AV}, RVs K H al v w → v[i]? = some x → ∃ y, w[i]? = some y ∧ RV K H al x y
  | [], _, i, x, h, e => by simp at e
  | y :: ys, _, 0, x, ⟨w, r, e, h1, h2⟩, q => by
    simp at q
    subst q e
    exact ⟨w, rfl, h1⟩
  | y :: ys, _, i + 1, x, ⟨w, r, e, h1, h2⟩, q => by
    subst e
    obtain ⟨z, h3, h4⟩ := RVs.get (i := i) (x := x) h2 (by simpa using q)
    exact ⟨z, by simpa using h3, h4⟩
theorem RVs.append {K : PySem.W.Frag} : ∀ {v : List AV} {w : List V} {v2 : List AV} {w2 : List V}, RVs K H al v w → RVs K H al v2 w2 → RVs K H al (v ++ v2) (w ++ w2)
  | [], _, _, _, h, h2 => by
    have h' : _ = [] := h
    rw [h']; exact h2
  | x :: xs, _, _, _, ⟨w, r, e, h1, h2⟩, h3 => by
    subst e
    exact ⟨w, _, rfl, h1, RVs.append h2 h3⟩
theorem RVs.take {K : PySem.W.Frag} : ∀ (n : Nat) {v : List AV} {w : List V}, RVs K H al v w → RVs K H al (v.take n) (w.take n)
  | 0, _, _, _ => rfl
  | n + 1, [], _, h => by
    have h' : _ = [] := h
    rw [h']; rfl
  | n + 1, x :: xs, _, ⟨w, r, e, h1, h2⟩ => by
    subst e
    exact ⟨w, _, rfl, h1, RVs.take n h2⟩
theorem RVs.drop {K : PySem.W.Frag} : ∀ (n : Nat) {v : List AV} {w : List V}, RVs K H al v w → RVs K H al (v.drop n) (w.drop n)
  | 0, _, _, h => h
  | n + 1, [], _, h => by
    have h' : _ = [] := h
    rw [h']; rfl
  | n + 1, x :: xs, _, ⟨w, r, e, h1, h2⟩ => by
    subst e
    exact RVs.drop n h2
theorem RVs.one {K : PySem.W.Frag} {v : AV} {w : V} (h : RV K H al v w) : RVs K H al [v] [w] := ⟨w, [], rfl, h, rfl⟩
theorem RVs.setAt {K : PySem.W.Frag} {x : AV} {y : V} (r : RV K H al x y) : ∀ (i : Nat) {v : List AV} {w : List V}, RVs K H al v w → RVs K H al (v.set i x) (w.set i y)
  | _, [], _, h => by
    have h' : _ = [] := h
    rw [h']; rfl
  | 0, _ :: _, _, ⟨w, q, e, h1, h2⟩ => by
    subst e
    exact ⟨y, q, rfl, r, h2⟩
  | i + 1, z :: xs, _, ⟨w, q, e, h1, h2⟩ => by
    subst e
    exact ⟨w, _, rfl, h1, RVs.setAt r i h2⟩
theorem RVs.eraseAt {K : PySem.W.Frag} : ∀ (i : Nat) {v : List AV} {w : List V}, RVs K H al v w → RVs K H al (v.eraseIdx i) (w.eraseIdx i)
  | _, [], _, h => by
    have h' : _ = [] := h
    rw [h']; rfl
  | 0, _ :: _, _, ⟨w, q, e, h1, h2⟩ => by
    subst e
    exact h2
  | i + 1, z :: xs, _, ⟨w, q, e, h1, h2⟩ => by
    subst e
    exact ⟨w, _, rfl, h1, RVs.eraseAt i h2⟩
theorem RVs.rev {K : PySem.W.Frag} : ∀ {v : List AV} {w : List V}, RVs K H al v w → RVs K H al v.reverse w.reverse
  | [], _, h => by
    have h' : _ = [] := h
    rw [h']; rfl
  | z :: xs, _, ⟨w, q, e, h1, h2⟩ => by
    subst e
    rw [List.reverse_cons, List.reverse_cons]
    exact RVs.append (RVs.rev h2) (RVs.one h1)
theorem RVs.rep {K : PySem.W.Frag} {v : List AV} {w : List V} (h : RVs K H al v w) : ∀ n : Nat, RVs K H al (List.replicate n v).flatten (List.replicate n w).flatten
  | 0 => rfl
  | n + 1 => by
    rw [List.replicate_succ, List.replicate_succ, List.flatten_cons, List.flatten_cons]
    exact RVs.append h (RVs.rep h n)
theorem RO.step {p : Addr} {o : AO} (nt : NoTup al H) (s : Stp al H al' H') (e : H' p = H p) (r : RO g H al p o) : RO g H' al' p o := by
  cases o with
  | lst xs =>
    obtain ⟨ws, h, q⟩ := r
    exact ⟨ws, e.trans h, RVs.step nt s _ _ q⟩
  | dK xs =>
    obtain ⟨ws, h, q⟩ := r
    exact ⟨ws, e.trans h, RP.step nt s _ _ q⟩
  | dT xs =>
    obtain ⟨ws, h, q⟩ := r
    exact ⟨ws, e.trans h, RP.step nt s _ _ q⟩
  | ins c fs =>
    obtain ⟨dx, ws, h, q⟩ := r
    exact ⟨dx, ws, e.trans h, RF.step nt s _ _ q⟩
  | exc c => exact e.trans r

/-- a new object of the store -/
def alUp (al : Al) (n : Nat) (p : Addr) : Al := fun m => if m = n then some p else al m
theorem stp_new {st : Sto} {p : Addr} {o : HO} (r : Rel g al st H) (hp : H p = none) (hq : ∀ n, al n ≠ some p) : Stp al H (alUp al st.length p) (upd H p o) where
  up n q h := by
    unfold alUp
    rw [if_neg (Nat.ne_of_lt (r.dom n q h))]
    exact h
  fr q o' h hn := by
    rw [upd_ne (ne_of_none h hp)]
    exact h
  nw n q h := by
    unfold alUp at h
    by_cases z : n = st.length
    · rw [if_pos z] at h; cases h; exact .inr hp
    · rw [if_neg z] at h; exact .inl h
  kp q h := by
    by_cases z : q = p
    · rw [z, upd_same]; intro e; cases e
    · rw [upd_ne z]; exact h
theorem rel_new {st : Sto} {p : Addr} {o : HO} {ao : AO} (r : Rel g al st H) (hp : H p = none) (hq : ∀ n, al n ≠ some p)
    (hr : RO g (upd H p o) (alUp al st.length p) p ao) : Rel g (alUp al st.length p) (st ++ [ao]) (upd H p o) where
  inj m n q h1 h2 := by
    unfold alUp at h1 h2
    by_cases z1 : m = st.length
    · rw [if_pos z1] at h1
      by_cases z2 : n = st.length
      · rw [z1, z2]
      · rw [if_neg z2] at h2
        cases h1
        exact absurd h2 (hq n)
    · rw [if_neg z1] at h1
      by_cases z2 : n = st.length
      · rw [if_pos z2] at h2
        cases h2
        exact absurd h1 (hq m)
      · rw [if_neg z2] at h2
        exact r.inj m n q h1 h2
  dom n q h := by
    rw [List.length_append]
    unfold alUp at h
    by_cases z : n = st.length
    · rw [z]; exact Nat.lt_succ_self _
    · rw [if_neg z] at h
      exact Nat.lt_succ_of_lt (r.dom n q h)
  obj n o' h := by
    by_cases z : n < st.length
    · rw [List.getElem?_append_left z] at h
      obtain ⟨q, e, ro⟩ := r.obj n o' h
      have s := stp_new (o := o) r hp hq
      have hqp : q ≠ p := fun z => hq n (by rw [e, z])
      exact ⟨q, s.up n q e, ro.step r.notup s (upd_ne hqp)⟩
    · have e : n = st.length := by
        have := (List.getElem?_eq_some_iff.mp h).1
        rw [List.length_append] at this
        have h1 : [ao].length = 1 := rfl
        omega
      rw [e, List.getElem?_append_right (Nat.le_refl _), Nat.sub_self] at h
      have h' : ao = o' := Option.some.inj h
      subst h'
      exact ⟨p, by unfold alUp; rw [if_pos e], hr⟩
/-- a free address is none of the store's -/
theorem Rel.free {p : Addr} (r : Rel g al st H) (hp : H p = none) : ∀ n, al n ≠ some p := fun n e => by
  have hn := r.dom n p e
  obtain ⟨q, e2, ro⟩ := r.obj n _ (List.getElem?_eq_getElem hn)
  rw [e] at e2; cases e2
  generalize st[n] = o at ro
  cases o with
  | lst xs => obtain ⟨us, e, _⟩ := ro; rw [hp] at e; cases e
  | dK xs => obtain ⟨us, e, _⟩ := ro; rw [hp] at e; cases e
  | dT xs => obtain ⟨us, e, _⟩ := ro; rw [hp] at e; cases e
  | ins c fs => obtain ⟨dx, us, e, _⟩ := ro; rw [hp] at e; cases e
  | exc c => rw [show H _ = _ from ro] at hp; cases hp
/-- the object n changed -/
theorem stp_set {n : Nat} {p : Addr} {o o' : HO} (e : al n = some p) (h : H p = some o') : Stp al H al (upd H p o) where
  up _ _ h := h
  fr q u hq hn := by
    have : q ≠ p := fun z => hn n (by rw [z]; exact e)
    rw [upd_ne this]; exact hq
  nw _ _ h := .inl h
  kp q hq := by
    by_cases z : q = p
    · rw [z, upd_same]; intro e; cases e
    · rw [upd_ne z]; exact hq
theorem rel_set {st : Sto} {n : Nat} {p : Addr} {o o' : HO} {ao : AO} (r : Rel g al st H) (e : al n = some p) (h : H p = some o') (hr : RO g (upd H p o) al p ao) : Rel g al (st.set n ao) (upd H p o) where
  inj := r.inj
  dom m q hm := by
    rw [List.length_set]
    exact r.dom m q hm
  obj m u hm := by
    by_cases z : m = n
    · subst z
      rw [List.getElem?_set_self (r.dom m p e)] at hm
      cases hm
      exact ⟨p, e, hr⟩
    · rw [List.getElem?_set_ne (Ne.symm z)] at hm
      obtain ⟨q, e2, ro⟩ := r.obj m u hm
      have hqp : q ≠ p := fun y => z (r.inj m n p (by rw [e2, y]) e)
      exact ⟨q, e2, ro.step r.notup (stp_set e h) (upd_ne hqp)⟩

/-! ### ends -/
/-- where a run of the machine stands, so does the model -/
def Post {A B : Type} (g : G) (RA : Hp → Al → A → B → Prop) (r : R A) (al : Al) (H : Hp) (Q : B → Hp → Prop) (W : Nat → Hp → Prop) : Prop := match r with
  | .ok a st => ∀ al' H' b, Stp al H al' H' → Rel g al' st H' → RA H' al' a b → Q b H'
  | .ex c st => ∀ al' H', Stp al H al' H' → Rel g al' st H' → W c H'
  | .no => False
theorem Post.bind {A B C D : Type} {RA : Hp → Al → A → B → Prop} {RC : Hp → Al → C → D → Prop} {r : R A} {f : A → Sto → R C} {Q : D → Hp → Prop} {W : Nat → Hp → Prop} (h : Post g RC (r.bind f) al H Q W) :
    Post g RA r al H (fun b H1 => ∃ al1 a st1, Stp al H al1 H1 ∧ Rel g al1 st1 H1 ∧ RA H1 al1 a b ∧ Post g RC (f a st1) al1 H1 Q W) W := by
  cases r with
  | ok a st =>
    intro al' H' b s rel rv
    refine ⟨al', a, st, s, rel, rv, ?_⟩
    have h' : Post g RC (f a st) al H Q W := h
    revert h'
    generalize f a st = x
    intro h'
    cases x with
    | ok c st2 => exact fun al2 H2 d s2 rel2 rv2 => h' al2 H2 d (s.trans s2) rel2 rv2
    | ex c st2 => exact fun al2 H2 s2 rel2 => h' al2 H2 (s.trans s2) rel2
    | no => exact h'
  | ex c st => exact h
  | no => exact h
theorem Post.ok {A B : Type} {RA : Hp → Al → A → B → Prop} {a : A} {st : Sto} {Q : B → Hp → Prop} {W : Nat → Hp → Prop} (h : Post g RA (.ok a st) al H Q W) (r : Rel g al st H) {b : B} (ra : RA H al a b) : Q b H :=
  h al H b (Stp.refl _ _) r ra
/-- slots -/
structure RS (K : PySem.W.Frag) (H : Hp) (al : Al) (e : Slots) (σ : L2.St) : Prop where
  len : e.length = σ.length
  at_ : ∀ (i : Nat) (v : AV), e[i]? = some (some v) → ∃ w, σ[i]? = some (some w) ∧ RV K H al v w
theorem RS.step {K : PySem.W.Frag} {e : Slots} {σ : L2.St} (r : RS K H al e σ) (nt : NoTup al H) (s : Stp al H al' H') : RS K H' al' e σ :=
  ⟨r.len, fun i v h => let ⟨w, h1, h2⟩ := r.at_ i v h; ⟨w, h1, RV.step nt s v w h2⟩⟩
theorem RS.put {K : PySem.W.Frag} {e : Slots} {σ : L2.St} (r : RS K H al e σ) (i : Nat) {v : AV} {w : V} (rv : RV K H al v w) : RS K H al (e.set i (some v)) (σ.set i (some w)) := by
  refine ⟨by rw [List.length_set, List.length_set, r.len], fun j u h => ?_⟩
  by_cases z : j = i
  · subst z
    have hj : j < e.length := by
      have := (List.getElem?_eq_some_iff.mp h).1
      rwa [List.length_set] at this
    rw [List.getElem?_set_self hj] at h
    cases h
    exact ⟨w, List.getElem?_set_self (r.len ▸ hj), rv⟩
  · rw [List.getElem?_set_ne (Ne.symm z)] at h
    obtain ⟨x, h1, h2⟩ := r.at_ j u h
    exact ⟨x, by rw [List.getElem?_set_ne (Ne.symm z)]; exact h1, h2⟩
theorem RS.drop1 {K : PySem.W.Frag} {e : Slots} {σ : L2.St} (r : RS K H al e σ) (i : Nat) (x : Option V) : RS K H al (e.set i none) (σ.set i x) := by
  refine ⟨by rw [List.length_set, List.length_set, r.len], fun j u h => ?_⟩
  by_cases z : j = i
  · subst z
    by_cases hj : j < e.length
    · rw [List.getElem?_set_self hj] at h; cases h
    · rw [List.getElem?_eq_none (by rw [List.length_set]; omega)] at h; cases h
  · rw [List.getElem?_set_ne (Ne.symm z)] at h
    obtain ⟨x, h1, h2⟩ := r.at_ j u h
    exact ⟨x, by rw [List.getElem?_set_ne (Ne.symm z)]; exact h1, h2⟩
theorem RS.wipe {K : PySem.W.Frag} {e : Slots} {σ : L2.St} (r : RS K H al e σ) : ∀ vs : List Nat, RS K H al (wipeA e vs) (L2.wipe σ vs)
  | [] => r
  | v :: vs => (RS.wipe r vs).drop1 v none

/-! ### readings -/
abbrev Run1 (A : Type) := Slots → Sto → R A
abbrev rvOf (g : G) : Hp → Al → AV → V → Prop := fun H al a b => RV g.K H al a b
abbrev rvsOf (g : G) : Hp → Al → List AV → List V → Prop := fun H al a b => RVs g.K H al a b
def wOf (g : G) (W : WX) (σ : L2.St) : Nat → Hp → Prop := fun c H => W (.ref (g.clsA c)) none σ H
def TV (g : G) (W : WX) (r : Run1 AV) : TE := fun σ H Q => ∃ al st e, Rel g al st H ∧ RS g.K H al e σ ∧ Post g (rvOf g) (r e st) al H Q (wOf g W σ)
def TVs (g : G) (W : WX) (r : Run1 (List AV)) : TA := fun σ H Q => ∃ al st e, Rel g al st H ∧ RS g.K H al e σ ∧ Post g (rvsOf g) (r e st) al H Q (wOf g W σ)
/-- r, then f of what it gives -/
theorem TV.then {C D : Type} {RC : Hp → Al → C → D → Prop} {W : WX} {ra : Run1 AV} {f : Slots → AV → Sto → R C} {σ : L2.St} {e : Slots} {Q : D → Hp → Prop} (r : Rel g al st H) (rs : RS g.K H al e σ)
    (h : Post g RC ((ra e st).bind (f e)) al H Q (wOf g W σ)) :
    TV g W ra σ H fun x H1 => ∃ al1 a st1, Rel g al1 st1 H1 ∧ RS g.K H1 al1 e σ ∧ RV g.K H1 al1 a x ∧ Post g RC (f e a st1) al1 H1 Q (wOf g W σ) ∧ Stp al H al1 H1 := by
  refine ⟨al, st, e, r, rs, ?_⟩
  have q := Post.bind (RA := rvOf g) h
  revert q
  generalize ra e st = x
  intro q
  cases x with
  | ok a st2 =>
    intro al' H' b s rel rv
    obtain ⟨al1, a1, st1, s1, rel1, rv1, p⟩ := q al' H' b s rel rv
    exact ⟨al1, a1, st1, rel1, rs.step r.notup s1, rv1, p, s1⟩
  | ex c st2 => exact q
  | no => exact q
theorem TVs.then {C D : Type} {RC : Hp → Al → C → D → Prop} {W : WX} {ra : Run1 (List AV)} {f : Slots → List AV → Sto → R C} {σ : L2.St} {e : Slots} {Q : D → Hp → Prop} (r : Rel g al st H) (rs : RS g.K H al e σ)
    (h : Post g RC ((ra e st).bind (f e)) al H Q (wOf g W σ)) :
    TVs g W ra σ H fun x H1 => ∃ al1 a st1, Rel g al1 st1 H1 ∧ RS g.K H1 al1 e σ ∧ RVs g.K H1 al1 a x ∧ Post g RC (f e a st1) al1 H1 Q (wOf g W σ) ∧ Stp al H al1 H1 := by
  refine ⟨al, st, e, r, rs, ?_⟩
  have q := Post.bind (RA := rvsOf g) h
  revert q
  generalize ra e st = x
  intro q
  cases x with
  | ok a st2 =>
    intro al' H' b s rel rv
    obtain ⟨al1, a1, st1, s1, rel1, rv1, p⟩ := q al' H' b s rel rv
    exact ⟨al1, a1, st1, rel1, rs.step r.notup s1, rv1, p, s1⟩
  | ex c st2 => exact q
  | no => exact q
end
theorem PE.imp {X : Cx} {e : Expr} {t t' : TE} (h : PE X e t) (i : ∀ σ H Q, t' σ H Q → t σ H Q) : PE X e t' := ⟨fun pins s σ H Q I q => h.run pins s σ H Q I (i σ H Q q)⟩
theorem PT.imp {X : Cx} {e : Expr} {t t' : TT} (h : PT X e t) (i : ∀ σ H Q, t' σ H Q → t σ H Q) : PT X e t' := ⟨fun pins s σ H Q I q => h.run pins s σ H Q I (i σ H Q q)⟩
theorem PA.imp {X : Cx} {e : List Expr} {t t' : TA} (h : PA X e t) (i : ∀ σ H Q, t' σ H Q → t σ H Q) : PA X e t' := ⟨fun pos pins s σ H Q I q => h.run pos pins s σ H Q I (i σ H Q q)⟩
end L3

/-! Snd2: operators, comparisons, subscripts. -/
namespace L3
open PySem PySem.Spec PyProof.Rows L2

section
variable {g : G} {al al' : Al} {H H' : Hp} {st : Sto}
/-- a free address filled with what is none of the store's -/
theorem stp_free {p : Addr} {o : HO} (hp : H p = none) : Stp al H al (upd H p o) where
  up _ _ h := h
  fr q u hq _ := by
    rw [upd_ne (ne_of_none hq hp)]; exact hq
  nw _ _ h := .inl h
  kp q hq := by
    by_cases z : q = p
    · rw [z, upd_same]; intro e; cases e
    · rw [upd_ne z]; exact hq
theorem rel_free {p : Addr} {o : HO} (r : Rel g al st H) (hp : H p = none) : Rel g al st (upd H p o) where
  inj := r.inj
  dom := r.dom
  obj m u hm := by
    obtain ⟨q, e2, ro⟩ := r.obj m u hm
    have hqp : q ≠ p := fun y => r.free hp m (by rw [e2, y])
    exact ⟨q, e2, ro.step r.notup (stp_free hp) (upd_ne hqp)⟩
theorem Post.mkNew {W : Nat → Hp → Prop} {Q : V → Hp → Prop} {ao : AO} {ho : HO} {p : Addr} (h : Post g (rvOf g) (L3.alloc ao st) al H Q W) (r : Rel g al st H) (hp : H p = none)
    (hr : RO g (upd H p ho) (alUp al st.length p) p ao) : Q (.ref p) (upd H p ho) := by
  have h' : Post g (rvOf g) (.ok (.ref st.length) (st ++ [ao])) al H Q W := h
  exact h' (alUp al st.length p) (upd H p ho) _ (stp_new r hp (r.free hp)) (rel_new r hp (r.free hp) hr) ⟨p, by unfold alUp; rw [if_pos rfl], rfl⟩
theorem Post.newL {W : Nat → Hp → Prop} {Q : V → Hp → Prop} {xs : List AV} {ws : List V} {p : Addr} (h : Post g (rvOf g) (L3.alloc (.lst xs) st) al H Q W) (r : Rel g al st H) (rv : RVs g.K H al xs ws) (hp : H p = none) :
    Q (.ref p) (upd H p (.lst ws)) :=
  h.mkNew r hp ⟨ws, upd_same, RVs.step r.notup (stp_new r hp (r.free hp)) _ _ rv⟩
theorem Post.newT {W : Nat → Hp → Prop} {Q : V → Hp → Prop} {xs : List AV} {ws : List V} {p : Addr} (h : Post g (rvOf g) (.ok (.tup xs) st) al H Q W) (r : Rel g al st H) (rv : RVs g.K H al xs ws) (hp : H p = none) :
    Q (.ref p) (upd H p (.tup ws)) :=
  h al (upd H p (.tup ws)) _ (stp_free hp) (rel_free r hp) ⟨p, ws, rfl, upd_same, RVs.step r.notup (stp_free hp) _ _ rv⟩
theorem Post.same {W : Nat → Hp → Prop} {Q : V → Hp → Prop} {v : AV} {w : V} (h : Post g (rvOf g) (.ok v st) al H Q W) (r : Rel g al st H) (rv : RV g.K H al v w) : Q w H := Post.ok h r rv
/-- the store's object changed -/
theorem Post.chg {W : Nat → Hp → Prop} {Q : V → Hp → Prop} {v : AV} {w : V} {n : Nat} {p : Addr} {ao : AO} {ho ho' : HO} (h : Post g (rvOf g) (.ok v (st.set n ao)) al H Q W) (r : Rel g al st H) (e : al n = some p) (e2 : H p = some ho')
    (rv : RV g.K H al v w) (hr : RO g (upd H p ho) al p ao) : Q w (upd H p ho) :=
  h al (upd H p ho) w (stp_set e e2) (rel_set r e e2 hr) (RV.step r.notup (stp_set e e2) _ _ rv)

theorem T8_cat (a b : List Nat) : T8 a ++ T8 b = T8 (a ++ b) := by
  show (⟨a.toArray ++ b.toArray⟩ : Str) = ⟨(a ++ b).toArray⟩
  rw [List.append_toArray]
def opOf : Bop → Operator
  | .add => .Add | .sub => .Sub | .mul => .Mult | .fdiv => .FloorDiv | .mod => .Mod | .pow => .Pow | .band => .BitAnd | .shr => .RShift
/-- a two-place reading by the machine -/
def R2A (g : G) (f : AV → AV → Sto → R AV) : R2 := fun x y H Q => ∃ al st a b W, Rel g al st H ∧ RV g.K H al a x ∧ RV g.K H al b y ∧ Post g (rvOf g) (f a b st) al H Q W
theorem OpR.imp {X : Cx} {f : Value → Value → Sem Value} {r r' : R2} (h : OpR X f r) (i : ∀ x y H Q, r' x y H Q → r x y H Q) : OpR X f r' :=
  fun pins s σ H x y v u Q I rx ry q => h pins s σ H x y v u Q I rx ry (i _ _ _ _ q)
theorem mulOk_ok {i j : Int} (h : mulOk i j = true) : CMulW i j ∨ CMul i j := by
  unfold mulOk at h
  simp only [Bool.or_eq_true, Bool.and_eq_true, decide_eq_true_eq] at h
  rcases h with (h | h) | ⟨h1, h2⟩
  · exact .inr (.inl (by omega))
  · exact .inr (.inr (by omega))
  · exact .inl (wide_mul h1 h2 (by decide) (by decide) (by decide))
theorem ref_lst {xs : List AV} {n : Nat} {w : V} (r : Rel g al st H) (rv : RV g.K H al (.ref n) w) (e : st[n]? = some (.lst xs)) : ∃ p ws, w = .ref p ∧ al n = some p ∧ H p = some (.lst ws) ∧ RVs g.K H al xs ws := by
  obtain ⟨p, e1, rfl⟩ := rv
  obtain ⟨q, e2, ws, h1, h2⟩ := r.obj n _ e
  rw [e1] at e2; cases e2
  exact ⟨p, ws, rfl, e1, h1, h2⟩
theorem op_bin {X : Cx} (op : Bop) : OpR X (binaryOp (opOf op)) (R2A g (binA op)) := by
  cases op with
  | add =>
    refine OpR.imp (op_add.or (op_add_str.or ((op_catA (X := X)).or op_cat))) fun x y H Q h => ?_
    obtain ⟨al, st, a, b, W, rel, ra, rb, h⟩ := h
    cases a with
    | int i =>
      cases b with
      | int j =>
        obtain rfl : x = .int i := ra
        obtain rfl : y = .int j := rb
        exact .inl ⟨i, j, rfl, rfl, Post.same h rel rfl⟩
      | _ => exact h.elim
    | str a =>
      cases b with
      | str b =>
        obtain rfl : x = .str (T8 a) := ra
        obtain rfl : y = .str (T8 b) := rb
        by_cases hz : a.length + b.length ≤ lim
        · have h : Post g (rvOf g) (if a.length + b.length ≤ lim then .ok (.str (a ++ b)) st else .no) al H Q W := h
          rw [if_pos hz] at h
          refine .inr (.inl ⟨_, _, rfl, rfl, ?_, ?_⟩)
          · simp only [Str.length, T8, List.size_toArray]
            rw [sizeLine_eq]; exact hz
          · refine Post.same h rel ?_
            show V.str (T8 a ++ T8 b) = V.str (T8 (a ++ b))
            rw [T8_cat]
        · have h : Post g (rvOf g) (if a.length + b.length ≤ lim then .ok (.str (a ++ b)) st else .no) al H Q W := h
          rw [if_neg hz] at h
          exact h.elim
      | _ => exact h.elim
    | tup a =>
      cases b with
      | tup b =>
        obtain ⟨p, ws, rfl, q1, v1⟩ := ra
        obtain ⟨p2, ws2, rfl, q2, v2⟩ := rb
        have h : Post g (rvOf g) (if a.length + b.length ≤ lim then .ok (.tup (a ++ b)) st else .no) al H Q W := h
        by_cases hz : a.length + b.length ≤ lim
        · rw [if_pos hz] at h
          refine .inr (.inr (.inl ⟨p, p2, ws, ws2, rfl, rfl, .inl (.inl q1), .inl (.inl q2), ?_, fun e => ?_, fun _ e => ?_, fun _ _ p' hp => ?_⟩))
          · rw [← v1.length, ← v2.length, sizeLine_eq]; exact hz
          · subst e
            have ea : a = [] := List.eq_nil_of_length_eq_zero (by rw [v1.length]; rfl)
            subst ea
            exact Post.same h rel ⟨p2, ws2, rfl, q2, v2⟩
          · subst e
            have eb : b = [] := List.eq_nil_of_length_eq_zero (by rw [v2.length]; rfl)
            subst eb
            rw [List.append_nil] at h
            exact Post.same h rel ⟨p, ws, rfl, q1, v1⟩
          · exact Post.newT h rel (v1.append v2) hp
        · rw [if_neg hz] at h
          exact h.elim
      | _ => exact h.elim
    | ref m =>
      cases b with
      | ref n =>
        have h : Post g (rvOf g) (match st[m]?, st[n]? with
          | some (.lst a), some (.lst b) => if a.length + b.length ≤ lim then alloc (.lst (a ++ b)) st else .no
          | _, _ => .no) al H Q W := h
        split at h
        · rename_i a b e1 e2
          obtain ⟨p, ws, rfl, _, h1, v1⟩ := ref_lst rel ra e1
          obtain ⟨p2, ws2, rfl, _, h2, v2⟩ := ref_lst rel rb e2
          by_cases hz : a.length + b.length ≤ lim
          · rw [if_pos hz] at h
            refine .inr (.inr (.inr ⟨p, p2, ws, ws2, rfl, rfl, h1, h2, ?_, fun p' hp => h.newL rel (v1.append v2) hp⟩))
            rw [← v1.length, ← v2.length, sizeLine_eq]; exact hz
          · rw [if_neg hz] at h
            exact h.elim
        · exact h.elim
      | _ => exact h.elim
    | _ => exact h.elim
  | sub =>
    refine OpR.imp op_sub fun x y H Q h => ?_
    obtain ⟨al, st, a, b, W, rel, ra, rb, h⟩ := h
    cases a with
    | int i =>
      cases b with
      | int j =>
        obtain rfl : x = .int i := ra
        obtain rfl : y = .int j := rb
        exact ⟨i, j, rfl, rfl, Post.same h rel rfl⟩
      | _ => exact h.elim
    | _ => exact h.elim
  | mul =>
    refine OpR.imp ((op_mulW (X := X)).or (op_mul.or op_rep)) fun x y H Q h => ?_
    obtain ⟨al, st, a, b, W, rel, ra, rb, h⟩ := h
    cases a with
    | int i =>
      cases b with
      | int j =>
        obtain rfl : x = .int i := ra
        obtain rfl : y = .int j := rb
        have h : Post g (rvOf g) (if mulOk i j then .ok (.int (i * j)) st else .no) al H Q W := h
        by_cases hz : mulOk i j = true
        · rw [if_pos hz] at h
          rcases mulOk_ok hz with c | c
          · exact .inl ⟨i, j, rfl, rfl, c, Post.same h rel rfl⟩
          · exact .inr (.inl ⟨i, j, rfl, rfl, c, Post.same h rel rfl⟩)
        · rw [if_neg hz] at h
          exact h.elim
      | _ => exact h.elim
    | ref m =>
      cases b with
      | int k =>
        have h : Post g (rvOf g) (match st[m]? with
          | some (.lst a) => if -(2 ^ 63) ≤ k ∧ k < 2 ^ 63 ∧ a.length * k.toNat ≤ lim then alloc (.lst (List.replicate k.toNat a).flatten) st else .no
          | _ => .no) al H Q W := h
        split at h
        · rename_i a e1
          obtain ⟨p, ws, rfl, _, h1, v1⟩ := ref_lst rel ra e1
          obtain rfl : y = .int k := rb
          by_cases hz : -(2 ^ 63) ≤ k ∧ k < 2 ^ 63 ∧ a.length * k.toNat ≤ lim
          · rw [if_pos hz] at h
            obtain ⟨z1, z2, z3⟩ := hz
            refine .inr (.inr ⟨p, k, ws, rfl, rfl, h1, z1, z2, ?_, fun p' hp => h.newL rel (v1.rep _) hp⟩)
            rw [← v1.length, sizeLine_eq]; exact z3
          · rw [if_neg hz] at h
            exact h.elim
        · exact h.elim
      | _ => exact h.elim
    | _ => exact h.elim
  | fdiv =>
    refine OpR.imp op_fdivN fun x y H Q h => ?_
    obtain ⟨al, st, a, b, W, rel, ra, rb, h⟩ := h
    cases a with
    | int i =>
      cases b with
      | int j =>
        obtain rfl : x = .int i := ra
        obtain rfl : y = .int j := rb
        have h : Post g (rvOf g) (if 0 < j ∧ j < 1073741824 then .ok (.int (i / j)) st else .no) al H Q W := h
        by_cases hz : 0 < j ∧ j < 1073741824
        · rw [if_pos hz] at h
          refine ⟨i, j, rfl, rfl, ⟨by omega, by omega⟩, ?_⟩
          show Q (.int (i.fdiv j)) H
          rw [Int.fdiv_eq_ediv_of_nonneg i (by omega)]
          exact Post.same h rel rfl
        · rw [if_neg hz] at h
          exact h.elim
      | _ => exact h.elim
    | _ => exact h.elim
  | mod =>
    refine OpR.imp op_mod fun x y H Q h => ?_
    obtain ⟨al, st, a, b, W, rel, ra, rb, h⟩ := h
    cases a with
    | int i =>
      cases b with
      | int j =>
        obtain rfl : x = .int i := ra
        obtain rfl : y = .int j := rb
        have h : Post g (rvOf g) (if 0 < j then .ok (.int (i % j)) st else .no) al H Q W := h
        by_cases hz : 0 < j
        · rw [if_pos hz] at h
          exact ⟨i, j, rfl, rfl, hz, Post.same h rel rfl⟩
        · rw [if_neg hz] at h
          exact h.elim
      | _ => exact h.elim
    | _ => exact h.elim
  | pow =>
    refine OpR.imp op_pow fun x y H Q h => ?_
    obtain ⟨al, st, a, b, W, rel, ra, rb, h⟩ := h
    cases a with
    | int i =>
      cases b with
      | int j =>
        obtain rfl : x = .int i := ra
        obtain rfl : y = .int j := rb
        have h : Post g (rvOf g) (if 0 ≤ j ∧ j ≤ 1000000 ∧ i.natAbs < 18446744073709551616 then .ok (.int (i ^ j.toNat)) st else .no) al H Q W := h
        by_cases hz : 0 ≤ j ∧ j ≤ 1000000 ∧ i.natAbs < 18446744073709551616
        · rw [if_pos hz] at h
          exact ⟨i, j, rfl, rfl, ⟨hz.1, hz.2.1, hz.2.2⟩, Post.same h rel rfl⟩
        · rw [if_neg hz] at h
          exact h.elim
      | _ => exact h.elim
    | _ => exact h.elim
  | band =>
    refine OpR.imp op_and fun x y H Q h => ?_
    obtain ⟨al, st, a, b, W, rel, ra, rb, h⟩ := h
    cases a with
    | int i =>
      cases b with
      | int j =>
        obtain rfl : x = .int i := ra
        obtain rfl : y = .int j := rb
        exact ⟨i, j, rfl, rfl, Post.same h rel rfl⟩
      | _ => exact h.elim
    | _ => exact h.elim
  | shr =>
    refine OpR.imp op_shr fun x y H Q h => ?_
    obtain ⟨al, st, a, b, W, rel, ra, rb, h⟩ := h
    cases a with
    | int i =>
      cases b with
      | int j =>
        obtain rfl : x = .int i := ra
        obtain rfl : y = .int j := rb
        have h : Post g (rvOf g) (if 0 ≤ j then .ok (.int (i / 2 ^ j.toNat)) st else .no) al H Q W := h
        by_cases hz : 0 ≤ j
        · rw [if_pos hz] at h
          exact ⟨i, j, rfl, rfl, hz, Post.same h rel rfl⟩
        · rw [if_neg hz] at h
          exact h.elim
      | _ => exact h.elim
    | _ => exact h.elim
end
end L3

/-! Snd3: comparisons, subscripts, slices, built-ins. -/
namespace L3
open PySem PySem.Spec PyProof.Rows L2

section
variable {g : G} {al al' : Al} {H H' : Hp} {st : Sto}
theorem RVs.ints {xs : List Int} {K : PySem.W.Frag} : RVs K H al (xs.map .int) (xs.map V.int) := by
  induction xs with
  | nil => rfl
  | cons x xs ih => exact ⟨_, _, rfl, rfl, ih⟩
theorem dpInts {K : PySem.W.Frag} : ∀ xs : List Int, DpAll K H (xs.map V.int) (xs.map PyData.int)
  | [] => .nil
  | x :: xs => .cons (.int x) (dpInts xs)
theorem dpAll_of {f : AV → Option PyData} (hf : ∀ v w d, RV g.K H al v w → f v = some d → Dp g.K H w d) : ∀ (xs : List AV) (ws : List V) (ds : List PyData), RVs g.K H al xs ws → oAll f xs = some ds → DpAll g.K H ws ds
  | [], ws, ds, h, e => by
    obtain rfl : ws = [] := h
    cases e
    exact .nil
  | x :: xs, ws, ds, ⟨w, r, e1, h1, h2⟩, e => by
    subst e1
    unfold oAll at e
    split at e
    · rename_i d ds' q1 q2
      cases e
      exact .cons (hf x w d h1 q1) (dpAll_of hf xs r ds' h2 q2)
    · cases e
theorem pd_dp (rel : Rel g al st H) : ∀ (n : Nat) (v : AV) (w : V) (d : PyData), RV g.K H al v w → pd n st v = some d → Dp g.K H w d
  | 0, _, _, _, _, e => by cases e
  | n + 1, v, w, d, rv, e => by
    cases v with
    | non => obtain rfl : w = .non := rv; cases e; exact .non
    | bl b => obtain rfl : w = .bl b := rv; cases e; exact .bl b
    | int b => obtain rfl : w = .int b := rv; cases e; exact .int b
    | str b => obtain rfl : w = .str (T8 b) := rv; cases e; exact .str _
    | rol xs =>
      obtain ⟨p, rfl, q⟩ := rv
      cases e
      exact .lst q.sq (dpInts xs)
    | tup xs =>
      obtain ⟨p, ws, rfl, hp, r⟩ := rv
      have e : (oAll (pd n st) xs).map .tuple = some d := e
      obtain ⟨ds, e1, rfl⟩ := Option.map_eq_some_iff.mp e
      exact .tup (.inl (.inl hp)) (dpAll_of (pd_dp rel n) xs ws ds r e1)
    | ref m =>
      have e : (match st[m]? with
        | some (.lst xs) => (oAll (pd n st) xs).map .list
        | _ => none) = some d := e
      split at e
      · rename_i xs q
        obtain ⟨p, ws, rfl, _, hp, r⟩ := ref_lst rel rv q
        obtain ⟨ds, e1, rfl⟩ := Option.map_eq_some_iff.mp e
        exact .lst (.inl (.inl hp)) (dpAll_of (pd_dp rel n) xs ws ds r e1)
      · cases e
theorem pdS_dp (rel : Rel g al st H) {v : AV} {w : V} {d : PyData} (rv : RV g.K H al v w) (e : pdS st v = some d) : Dp g.K H w d ∧ SeqAt.shaped d = true := by
  unfold pdS at e
  split at e
  · rename_i d' q
    by_cases z : SeqAt.shaped d' = true
    · rw [if_pos z] at e
      cases e
      exact ⟨pd_dp rel 9 v w _ rv q, z⟩
    · rw [if_neg z] at e; cases e
  · cases e
theorem Post.ofB {W : Nat → Hp → Prop} {Q : V → Hp → Prop} {o : Option Bool} (h : Post g (rvOf g) (R.ofB o st) al H Q W) (r : Rel g al st H) : ∃ b, o = some b ∧ Q (.bl b) H := by
  cases o with
  | some b => exact ⟨b, rfl, Post.ok (RA := rvOf g) (a := .bl b) h r rfl⟩
  | none => exact h.elim
/-- flat things -/
theorem flA_is {v : AV} {w : V} {d : PyData} (rv : RV g.K H al v w) (e : flA v = some d) : flatV w = true ∧ ∀ (v2 : AV) (w2 : V) (d2 : PyData), RV g.K H al v2 w2 → flA v2 = some d2 → eqV w w2 = PyData.eqv d d2 := by
  cases v with
  | non =>
    obtain rfl : w = .non := rv
    cases e
    refine ⟨rfl, fun v2 w2 d2 r2 e2 => ?_⟩
    cases v2 <;> first
      | (cases e2; obtain rfl : w2 = _ := r2; simp [eqV, PyData.eqv])
      | (cases e2)
  | bl b =>
    obtain rfl : w = .bl b := rv
    cases e
    refine ⟨rfl, fun v2 w2 d2 r2 e2 => ?_⟩
    cases v2 <;> first
      | (cases e2; obtain rfl : w2 = _ := r2; simp [eqV, PyData.eqv])
      | (cases e2)
  | int b =>
    obtain rfl : w = .int b := rv
    cases e
    refine ⟨rfl, fun v2 w2 d2 r2 e2 => ?_⟩
    cases v2 <;> first
      | (cases e2; obtain rfl : w2 = _ := r2; simp [eqV, PyData.eqv])
      | (cases e2)
  | str b =>
    obtain rfl : w = .str (T8 b) := rv
    cases e
    refine ⟨rfl, fun v2 w2 d2 r2 e2 => ?_⟩
    cases v2 <;> first
      | (cases e2; obtain rfl : w2 = _ := r2; simp [eqV, PyData.eqv])
      | (cases e2)
  | _ => cases e
theorem fl_any {x : AV} {w : V} {d : PyData} (rv : RV g.K H al x w) (e : flA x = some d) : ∀ (ys : List AV) (ws : List V) (ds : List PyData), RVs g.K H al ys ws → oAll flA ys = some ds → ws.all flatV = true ∧ inV w ws = ds.any fun z => PyData.eqv z d
  | [], ws, ds, h, q => by
    obtain rfl : ws = [] := h
    cases q
    exact ⟨rfl, rfl⟩
  | y :: ys, ws, ds, ⟨u, r, e1, h1, h2⟩, q => by
    subst e1
    unfold oAll at q
    split at q
    · rename_i d1 ds' q1 q2
      cases q
      obtain ⟨i1, i2⟩ := fl_any rv e ys r ds' h2 q2
      obtain ⟨j1, j2⟩ := flA_is h1 q1
      refine ⟨by rw [List.all_cons, j1, i1]; rfl, ?_⟩
      unfold inV at i2 ⊢
      rw [List.any_cons, List.any_cons, i2, j2 x w d rv e]
    · cases q
theorem ref_dK {xs : List (Key × AV)} {n : Nat} {w : V} (r : Rel g al st H) (rv : RV g.K H al (.ref n) w) (e : st[n]? = some (.dK xs)) : ∃ p ws, w = .ref p ∧ al n = some p ∧ H p = some (.dK ws) ∧ RP g.K H al xs ws := by
  obtain ⟨p, e1, rfl⟩ := rv
  obtain ⟨q, e2, ws, h1, h2⟩ := r.obj n _ e
  rw [e1] at e2; cases e2
  exact ⟨p, ws, rfl, e1, h1, h2⟩
theorem ref_dT {xs : List (List Key × AV)} {n : Nat} {w : V} (r : Rel g al st H) (rv : RV g.K H al (.ref n) w) (e : st[n]? = some (.dT xs)) : ∃ p ws, w = .ref p ∧ al n = some p ∧ H p = some (.dT ws) ∧ RP g.K H al xs ws := by
  obtain ⟨p, e1, rfl⟩ := rv
  obtain ⟨q, e2, ws, h1, h2⟩ := r.obj n _ e
  rw [e1] at e2; cases e2
  exact ⟨p, ws, rfl, e1, h1, h2⟩
theorem keyK_is {v : AV} {w : V} {k : Key} (rv : RV g.K H al v w) (e : keyK v = some k) : w = kV k := by
  cases v with
  | int i => cases e; exact rv
  | str x => cases e; exact rv
  | _ => cases e
theorem keysK_is : ∀ {vs : List AV} {ws : List V} {ks : List Key}, RVs g.K H al vs ws → keysK vs = some ks → ws = ks.map kV
  | [], ws, ks, h, e => by
    obtain rfl : ws = [] := h
    cases e
    rfl
  | x :: xs, ws, ks, ⟨w, r, e1, h1, h2⟩, e => by
    subst e1
    unfold keysK at e
    split at e
    · rename_i k ks' q1 q2
      cases e
      rw [keyK_is h1 q1, keysK_is h2 q2]
      rfl
    · cases e
theorem keyT_is {v : AV} {w : V} {k : List Key} (rv : RV g.K H al v w) (e : keyT v = some k) : ∃ b, w = .ref b ∧ H b = some (.tup (k.map kV)) := by
  cases v with
  | tup xs =>
    obtain ⟨p, ws, rfl, hp, r⟩ := rv
    exact ⟨p, rfl, by rw [hp, keysK_is r e]⟩
  | _ => cases e
theorem RP.has {κ : Type} [DecidableEq κ] (k : κ) : ∀ {xs : List (κ × AV)} {ws : List (κ × V)}, RP g.K H al xs ws → (valV ws k).isSome = hasK k xs
  | [], ws, h => by
    obtain rfl : ws = [] := h
    rfl
  | x :: xs, ws, ⟨w, r, e1, h1, h2⟩ => by
    subst e1
    have ih := RP.has k h2
    unfold hasK at ih ⊢
    rw [List.any_cons]
    by_cases z : x.1 = k
    · rw [valV_pos z, decide_eq_true z]; rfl
    · rw [valV_neg z, decide_eq_false z, ih]; rfl
theorem RP.val {κ : Type} [DecidableEq κ] (k : κ) {v : AV} : ∀ {xs : List (κ × AV)} {ws : List (κ × V)}, RP g.K H al xs ws → getK k xs = some v → ∃ w, valV ws k = some w ∧ RV g.K H al v w
  | [], ws, h, e => by cases e
  | x :: xs, ws, ⟨w, r, e1, h1, h2⟩, e => by
    subst e1
    by_cases z : x.1 = k
    · have e' : getK k (x :: xs) = some x.2 := by
        unfold getK
        rw [List.find?_cons_of_pos (by simpa using z)]
        rfl
      rw [e'] at e; cases e
      exact ⟨w, valV_pos z, h1⟩
    · have e' : getK k (x :: xs) = getK k xs := by
        unfold getK
        rw [List.find?_cons_of_neg (by simpa using z)]
      rw [e'] at e
      obtain ⟨u, h3, h4⟩ := RP.val k h2 e
      exact ⟨u, by rw [valV_neg z]; exact h3, h4⟩
theorem RP.none {κ : Type} [DecidableEq κ] (k : κ) : ∀ {xs : List (κ × AV)} {ws : List (κ × V)}, RP g.K H al xs ws → getK k xs = .none → valV ws k = .none
  | [], ws, h, e => by
    obtain rfl : ws = [] := h
    rfl
  | x :: xs, ws, ⟨w, r, e1, h1, h2⟩, e => by
    subst e1
    by_cases z : x.1 = k
    · have e' : getK k (x :: xs) = some x.2 := by
        unfold getK
        rw [List.find?_cons_of_pos (by simpa using z)]
        rfl
      rw [e'] at e; cases e
    · have e' : getK k (x :: xs) = getK k xs := by
        unfold getK
        rw [List.find?_cons_of_neg (by simpa using z)]
      rw [e'] at e
      rw [valV_neg z]
      exact RP.none k h2 e
theorem RP.length {κ : Type} : ∀ {xs : List (κ × AV)} {ws : List (κ × V)}, RP g.K H al xs ws → xs.length = ws.length
  | [], ws, h => by
    obtain rfl : ws = [] := h
    rfl
  | x :: xs, ws, ⟨w, r, e1, h1, h2⟩ => by
    subst e1
    rw [List.length_cons, List.length_cons, RP.length h2]

/-! ### rules by values, of dicts -/
theorem op_inDict {X : Cx} (hu : X.A.units + 1 < cLine) : OpR X (compareOp .In) (fun x y H Q => ∃ a o, y = .ref a ∧ DGet H a x o ∧ Q (.bl o.isSome) H) := by
  intro pins s σ H x y v u Q I rx ry h
  obtain ⟨a, o, rfl, gd, q⟩ := h
  cases ry
  exact d_in hu I gd rx fun s' I' => ⟨.bl o.isSome, H, I', rfl, q⟩
theorem op_notInDict {X : Cx} (hu : X.A.units + 1 < cLine) : OpR X (compareOp .NotIn) (fun x y H Q => ∃ a o, y = .ref a ∧ DGet H a x o ∧ Q (.bl (!o.isSome)) H) := by
  intro pins s σ H x y v u Q I rx ry h
  obtain ⟨a, o, rfl, gd, q⟩ := h
  cases ry
  exact d_notIn hu I gd rx fun s' I' => ⟨.bl (!o.isSome), H, I', rfl, q⟩
theorem dp_ref {K : PySem.W.Frag} {p : Addr} {d : PyData} (h : Dp K H (.ref p) d) : (∃ ds, d = .list ds) ∨ ∃ ds, d = .tuple ds := by
  cases h with
  | lst _ _ => exact .inl ⟨_, rfl⟩
  | tup _ _ => exact .inr ⟨_, rfl⟩

/-- x in y: one of the four rules -/
def rInAll (K : PySem.W.Frag) (neg : Bool) : R2 := fun x y H Q =>
  (∃ i j, x = .str i ∧ y = .str j ∧ Q (.bl (if neg then !(!(Builtin.Str.occurrences j i 0 j.length 1).isEmpty) else !(Builtin.Str.occurrences j i 0 j.length 1).isEmpty)) H) ∨
  rIn K neg x y H Q ∨
  (∃ d ds, Dp K H x d ∧ Dp K H y (.list ds) ∧ SeqAt.shaped d = true ∧ SeqAt.shaped (.list ds) = true ∧ Q (.bl (if neg then !ds.any fun z => PyData.eqv z d else ds.any fun z => PyData.eqv z d)) H) ∨
  ∃ a o, y = .ref a ∧ DGet H a x o ∧ Q (.bl (if neg then !o.isSome else o.isSome)) H
theorem op_inAll {X : Cx} (hu : X.A.units + 65 < cLine) : OpR X (compareOp .In) (rInAll X.K false) := by
  refine OpR.imp (op_in_str.or ((op_in_seq (X := X)).or ((op_inD hu).or (op_inDict (by omega))))) fun x y H Q h => ?_
  exact h
theorem op_notInAll {X : Cx} (hu : X.A.units + 65 < cLine) : OpR X (compareOp .NotIn) (rInAll X.K true) := by
  refine OpR.imp (op_notin_str.or ((op_notIn_seq (X := X)).or ((op_notInD hu).or (op_notInDict (by omega))))) fun x y H Q h => ?_
  exact h
theorem inA_ok {x y : AV} {v w : V} {b : Bool} {neg : Bool} {Q : VK} (rel : Rel g al st H) (rx : RV g.K H al x v) (ry : RV g.K H al y w) (e : inA st x y = some b) (q : Q (.bl (if neg then !b else b)) H) : rInAll g.K neg v w H Q := by
  cases y with
  | str z =>
    obtain rfl : w = .str (T8 z) := ry
    cases x with
    | str c =>
      obtain rfl : v = .str (T8 c) := rx
      have e : some (subIn c z) = some b := e
      have e := Option.some.inj e
      refine .inl ⟨_, _, rfl, rfl, ?_⟩
      have hl : (T8 z).length = z.length := by simp [T8, Str.length]
      rw [hl]
      rw [← e] at q
      exact q
    | _ => cases e
  | tup ys =>
    obtain ⟨p, ws, rfl, hp, r⟩ := ry
    have e : (match flA x, oAll flA ys with
      | some d, some es => some (es.any fun e => PyData.eqv e d)
      | _, _ => none) = some b := e
    split at e
    · rename_i d es q1 q2
      have e := Option.some.inj e
      obtain ⟨h1, h2⟩ := fl_any rx q1 ys ws es r q2
      refine .inr (.inl ⟨p, ws, rfl, .inr (.inl (.inl hp)), (flA_is rx q1).1, h1, ?_⟩)
      rw [h2, e]
      exact q
    · cases e
  | rol ys =>
    obtain ⟨p, rfl, hp⟩ := ry
    have e : (match flA x with
      | some d => some (ys.any fun e => PyData.eqv (.int e) d)
      | _ => none) = some b := e
    split at e
    · rename_i d q1
      have e := Option.some.inj e
      have q2 : ∀ ys : List Int, oAll flA (ys.map .int) = some (ys.map .int) := fun ys => by
        induction ys with
        | nil => rfl
        | cons y ys ih =>
          rw [List.map_cons, List.map_cons]
          unfold oAll
          rw [ih]
          rfl
      obtain ⟨h1, h2⟩ := fl_any rx q1 (ys.map .int) (ys.map V.int) _ RVs.ints (q2 ys)
      refine .inr (.inl ⟨p, _, rfl, .inl hp.sq, (flA_is rx q1).1, h1, ?_⟩)
      rw [h2, List.any_map]
      have e3 : ((fun z => PyData.eqv z d) ∘ PyData.int) = fun e => PyData.eqv (.int e) d := rfl
      rw [e3, e]
      exact q
    · cases e
  | ref n =>
    have e : (match st[n]? with
      | some (.lst _) => match pdS st x, pdS st (.ref n) with
        | some d, some (.list es) => some (es.any fun e => PyData.eqv e d)
        | _, _ => none
      | some (.dK kvs) => match keyK x with
        | some k => some (hasK k kvs)
        | none => none
      | some (.dT kvs) => match keyT x with
        | some k => some (hasK k kvs)
        | none => none
      | _ => none) = some b := e
    split at e
    · split at e
      · rename_i d es q1 q2
        have e := Option.some.inj e
        obtain ⟨h1, h2⟩ := pdS_dp rel rx q1
        obtain ⟨h3, h4⟩ := pdS_dp rel ry q2
        refine .inr (.inr (.inl ⟨d, es, h1, h3, h2, h4, ?_⟩))
        rw [e]
        exact q
      · cases e
    · rename_i kvs q0
      split at e
      · rename_i k q1
        have e := Option.some.inj e
        obtain ⟨p, ws, rfl, _, hp, r⟩ := ref_dK rel ry q0
        refine .inr (.inr (.inr ⟨p, _, rfl, by rw [keyK_is rx q1]; exact DGet.k hp, ?_⟩))
        rw [RP.has k r, e]
        exact q
      · cases e
    · rename_i kvs q0
      split at e
      · rename_i k q1
        have e := Option.some.inj e
        obtain ⟨p, ws, rfl, _, hp, r⟩ := ref_dT rel ry q0
        obtain ⟨b2, rfl, hb⟩ := keyT_is rx q1
        refine .inr (.inr (.inr ⟨p, _, rfl, DGet.t hp hb, ?_⟩))
        rw [RP.has k r, e]
        exact q
      · cases e
    · cases e
  | _ => cases e
def copOf : Cop → CmpOp
  | .eq => .Eq | .ne => .NotEq | .lt => .Lt | .le => .LtE | .gt => .Gt | .ge => .GtE | .isin => .In | .notin => .NotIn | .is => .Is | .isnot => .IsNot
theorem op_cmpA {X : Cx} (hK : X.K = g.K) (hu : X.A.units + 65 < cLine) (op : Cop) : OpR X (compareOp (copOf op)) (R2A g (cmpA op)) := by
  have eqc : ∀ {x y : AV} {v w : V} {b : Bool} {al : Al} {st : Sto} {H : Hp}, Rel g al st H → RV g.K H al x v → RV g.K H al y w → eqA st x y = some b → ∃ d e, Dp g.K H v d ∧ Dp g.K H w e ∧ SeqAt.shaped d = true ∧ SeqAt.shaped e = true ∧ PyData.eqv d e = b := by
    intro x y v w b al st H rel rx ry e
    unfold eqA at e
    split at e
    · rename_i d d2 q1 q2
      obtain ⟨h1, h2⟩ := pdS_dp rel rx q1
      obtain ⟨h3, h4⟩ := pdS_dp rel ry q2
      exact ⟨d, d2, h1, h3, h2, h4, Option.some.inj e⟩
    · cases e
  have onI : ∀ {r : Int → Int → Bool} {f : AV → AV → Sto → R AV} {c : CmpOp} (ho : OpR X (compareOp c) (rI0 fun i j => .bl (r i j))), (∀ i j st, f (.int i) (.int j) st = .ok (.bl (r i j)) st) →
      (∀ x y st, (∃ i j, x = AV.int i ∧ y = AV.int j) ∨ f x y st = .no) → OpR X (compareOp c) (R2A g f) := by
    intro r f c ho h1 h2
    refine OpR.imp ho fun x y H Q h => ?_
    obtain ⟨al, st, a, b, W, rel, ra, rb, h⟩ := h
    rcases h2 a b st with ⟨i, j, rfl, rfl⟩ | e
    · obtain rfl : x = .int i := ra
      obtain rfl : y = .int j := rb
      rw [h1] at h
      exact ⟨i, j, rfl, rfl, Post.same (v := .bl (r i j)) h rel rfl⟩
    · rw [e] at h
      exact h.elim
  have no2 : ∀ {f : AV → AV → Sto → R AV}, (∀ x y st, (¬ ∃ i j, x = AV.int i ∧ y = AV.int j) → f x y st = .no) → ∀ x y st, (∃ i j, x = AV.int i ∧ y = AV.int j) ∨ f x y st = .no := fun h x y st => by
    by_cases z : ∃ i j, x = AV.int i ∧ y = AV.int j
    · exact .inl z
    · exact .inr (h x y st z)
  cases op with
  | eq =>
    refine OpR.imp (op_eqD (X := X) (by omega)) fun x y H Q h => ?_
    obtain ⟨al, st, a, b, W, rel, ra, rb, h⟩ := h
    obtain ⟨k, e, q⟩ := Post.ofB h rel
    obtain ⟨d, d2, h1, h2, h3, h4, h5⟩ := eqc rel ra rb e
    rw [hK]
    exact ⟨d, d2, h1, h2, h3, h4, by rw [h5]; exact q⟩
  | ne =>
    refine OpR.imp (op_neD (X := X) (by omega)) fun x y H Q h => ?_
    obtain ⟨al, st, a, b, W, rel, ra, rb, h⟩ := h
    obtain ⟨k, e, q⟩ := Post.ofB h rel
    obtain ⟨k2, e2, rfl⟩ := Option.map_eq_some_iff.mp e
    obtain ⟨d, d2, h1, h2, h3, h4, h5⟩ := eqc rel ra rb e2
    rw [hK]
    exact ⟨d, d2, h1, h2, h3, h4, by rw [h5]; exact q⟩
  | lt =>
    refine onI op_lt (fun _ _ _ => rfl) (no2 fun x y st z => ?_)
    cases x <;> first | rfl | (cases y <;> first | rfl | exact absurd ⟨_, _, rfl, rfl⟩ z)
  | le =>
    refine onI op_le (fun _ _ _ => rfl) (no2 fun x y st z => ?_)
    cases x <;> first | rfl | (cases y <;> first | rfl | exact absurd ⟨_, _, rfl, rfl⟩ z)
  | gt =>
    refine onI op_gt (fun _ _ _ => rfl) (no2 fun x y st z => ?_)
    cases x <;> first | rfl | (cases y <;> first | rfl | exact absurd ⟨_, _, rfl, rfl⟩ z)
  | ge =>
    refine onI op_ge (fun _ _ _ => rfl) (no2 fun x y st z => ?_)
    cases x <;> first | rfl | (cases y <;> first | rfl | exact absurd ⟨_, _, rfl, rfl⟩ z)
  | isin =>
    refine OpR.imp (op_inAll hu) fun x y H Q h => ?_
    obtain ⟨al, st, a, b, W, rel, ra, rb, h⟩ := h
    obtain ⟨k, e, q⟩ := Post.ofB h rel
    rw [hK]
    exact inA_ok (neg := false) rel ra rb e q
  | notin =>
    refine OpR.imp (op_notInAll hu) fun x y H Q h => ?_
    obtain ⟨al, st, a, b, W, rel, ra, rb, h⟩ := h
    obtain ⟨k, e, q⟩ := Post.ofB h rel
    obtain ⟨k2, e2, rfl⟩ := Option.map_eq_some_iff.mp e
    rw [hK]
    exact inA_ok (neg := true) rel ra rb e2 q
  | is =>
    refine OpR.imp op_isN fun x y H Q h => ?_
    obtain ⟨al, st, a, b, W, rel, ra, rb, h⟩ := h
    cases b with
    | non =>
      obtain rfl : y = .non := rb
      have q : Q (.bl (decide (a = .non))) H := Post.same (v := .bl (decide (a = .non))) h rel rfl
      refine ⟨rfl, ?_⟩
      have e : decide (x = V.non) = decide (a = AV.non) := by
        cases a <;> first
          | (obtain rfl : x = _ := ra; rfl)
          | (obtain ⟨_, _, rfl, _⟩ := ra; rfl)
          | (obtain ⟨_, _, rfl⟩ := ra; rfl)
          | (obtain ⟨_, rfl, _⟩ := ra; rfl)
      rw [e]
      exact q
    | _ => exact h.elim
  | isnot =>
    refine OpR.imp op_notN fun x y H Q h => ?_
    obtain ⟨al, st, a, b, W, rel, ra, rb, h⟩ := h
    cases b with
    | non =>
      obtain rfl : y = .non := rb
      have q : Q (.bl (!decide (a = .non))) H := Post.same (v := .bl (!decide (a = .non))) h rel rfl
      refine ⟨rfl, ?_⟩
      have e : decide (x = V.non) = decide (a = AV.non) := by
        cases a <;> first
          | (obtain rfl : x = _ := ra; rfl)
          | (obtain ⟨_, _, rfl, _⟩ := ra; rfl)
          | (obtain ⟨_, _, rfl⟩ := ra; rfl)
          | (obtain ⟨_, rfl, _⟩ := ra; rfl)
      rw [e]
      exact q
    | _ => exact h.elim
end
end L3

/-! Snd4: subscripts, slices, built-ins. -/
namespace L3
open PySem PySem.Spec PyProof.Rows L2

section
variable {g : G} {al al' : Al} {H H' : Hp} {st : Sto}
theorem IxR.imp {X : Cx} {r r' : R2} (h : IxR X r) (i : ∀ x y H Q, r' x y H Q → r x y H Q) : IxR X r' :=
  fun value slice pins s σ H x y v u Q I rx ry q hs => h value slice pins s σ H x y v u Q I rx ry (i _ _ _ _ q) hs
theorem at_of {xs : List AV} {ws : List V} {i : Int} {k : Nat} {v : AV} (r : RVs g.K H al xs ws) (e : L2.ixN xs.length i = some k) (e2 : xs[k]? = some v) : ∃ w, atI ws i = some w ∧ RV g.K H al v w := by
  obtain ⟨w, h1, h2⟩ := r.get e2
  refine ⟨w, ?_, h2⟩
  unfold atI
  rw [← r.length, e]
  exact h1
/-- o[i] -/
def rIdx (K : PySem.W.Frag) : R2 := fun x y H Q => rIx K x y H Q
theorem ix_or {x y : V} {a b : AV} {W : Nat → Hp → Prop} {Q : VK} (rel : Rel g al st H) (ra : RV g.K H al a x) (rb : RV g.K H al b y) (h : Post g (rvOf g) (idxA a b st) al H Q W) :
    rIx g.K x y H Q ∨ ∃ p v, x = .ref p ∧ DGet H p y (some v) ∧ Q v H := by
  cases a with
  | tup xs =>
    obtain ⟨p, ws, rfl, hp, r⟩ := ra
    cases b with
    | int i =>
      obtain rfl : y = .int i := rb
      have h : Post g (rvOf g) (match L2.ixN xs.length i with
        | some k => match xs[k]? with
          | some v => .ok v st
          | none => .no
        | none => .no) al H Q W := h
      split at h
      · rename_i k e
        split at h
        · rename_i v e2
          obtain ⟨w, h1, h2⟩ := at_of r e e2
          exact .inl (.inr (.inl ⟨p, ws, i, w, rfl, rfl, .inl (.inl hp), h1, Post.same h rel h2⟩))
        · exact h.elim
      · exact h.elim
    | _ => exact h.elim
  | str xs =>
    obtain rfl : x = .str (T8 xs) := ra
    cases b with
    | int i =>
      obtain rfl : y = .int i := rb
      have h : Post g (rvOf g) (if xs.length ≤ lim then match L2.ixN xs.length i with
        | some k => match xs[k]? with
          | some c => .ok (.str [c]) st
          | none => .no
        | none => .no else .no) al H Q W := h
      by_cases hl : xs.length ≤ lim
      · rw [if_pos hl] at h
        split at h
        · rename_i k e
          split at h
          · rename_i c e2
            refine .inl (.inr (.inr ⟨_, i, c, rfl, rfl, ?_, ?_, Post.same h rel rfl⟩))
            · simp only [T8, Str.length, List.size_toArray]
              rw [sizeLine_eq]; exact hl
            · unfold atI
              have q : (T8 xs).cps.toList = xs := rfl
              rw [q, e]
              exact e2
          · exact h.elim
        · exact h.elim
      · rw [if_neg hl] at h
        exact h.elim
    | _ => exact h.elim
  | rol xs =>
    obtain ⟨p, rfl, hp⟩ := ra
    cases b with
    | int i =>
      obtain rfl : y = .int i := rb
      have h : Post g (rvOf g) (match L2.ixN xs.length i with
        | some k => match xs[k]? with
          | some v => .ok (.int v) st
          | none => .no
        | none => .no) al H Q W := h
      split at h
      · rename_i k e
        split at h
        · rename_i v e2
          refine .inl (.inl ⟨p, _, i, .int v, rfl, rfl, hp.sq, ?_, Post.same h rel rfl⟩)
          unfold atI
          rw [List.length_map, e]
          show (xs.map V.int)[k]? = _
          rw [List.getElem?_map, e2]
          rfl
        · exact h.elim
      · exact h.elim
    | _ => exact h.elim
  | ref n =>
    simp only [idxA] at h
    split at h
    · rename_i xs q
      obtain ⟨p, ws, rfl, _, hp, r⟩ := ref_lst rel ra q
      split at h
      · rename_i i
        obtain rfl : y = .int i := rb
        split at h
        · rename_i k e
          split at h
          · rename_i v e2
            obtain ⟨w, h1, h2⟩ := at_of r e e2
            exact .inl (.inl ⟨p, ws, i, w, rfl, rfl, .inl (.inl hp), h1, Post.same h rel h2⟩)
          · exact h.elim
        · exact h.elim
      · exact h.elim
    · rename_i kvs q
      obtain ⟨p, ws, rfl, _, hp, r⟩ := ref_dK rel ra q
      split at h
      · rename_i k e
        split at h
        · rename_i v e2
          obtain ⟨w, h1, h2⟩ := r.val k e2
          refine .inr ⟨p, w, rfl, ?_, Post.same h rel h2⟩
          rw [keyK_is rb e, ← h1]
          exact DGet.k hp
        · exact h.elim
      · exact h.elim
    · rename_i kvs q
      obtain ⟨p, ws, rfl, _, hp, r⟩ := ref_dT rel ra q
      split at h
      · rename_i k e
        split at h
        · rename_i v e2
          obtain ⟨w, h1, h2⟩ := r.val k e2
          obtain ⟨b2, rfl, hb⟩ := keyT_is rb e
          refine .inr ⟨p, w, rfl, ?_, Post.same h rel h2⟩
          rw [← h1]
          exact DGet.t hp hb
        · exact h.elim
      · exact h.elim
    · exact h.elim
  | _ => exact h.elim

/-! ### slices -/
theorem cutA_rv {xs : List AV} {ws : List V} (r : RVs g.K H al xs ws) (lo hi : Option Int) : RVs g.K H al (cutA xs lo hi) (cutV ws lo hi) := by
  unfold cutA cutV
  rw [r.length]
  exact RVs.take _ (RVs.drop _ r)
def SlA (g : G) : V → Option Int → Option Int → Hp → VK → Prop := fun x lo hi H Q => ∃ al st a W, Rel g al st H ∧ RV g.K H al a x ∧ Post g (rvOf g) (slA a lo hi st) al H Q W
theorem SlR.imp {X : Cx} {r r' : V → Option Int → Option Int → Hp → VK → Prop} (h : SlR X r) (i : ∀ x lo hi H Q, r' x lo hi H Q → r x lo hi H Q) : SlR X r' :=
  fun pins s σ H x v vl vu lo hi sl Q I rx hs pl pu q => h pins s σ H x v vl vu lo hi sl Q I rx hs pl pu (i _ _ _ _ _ q)
theorem sl_A {X : Cx} (hK : X.K = g.K) : SlR X (SlA g) := by
  refine SlR.imp ((sl_list (X := X)).or (sl_tupA.or sl_str)) fun x lo hi H Q h => ?_
  obtain ⟨al, st, a, W, rel, ra, h⟩ := h
  cases a with
  | str z =>
    obtain rfl : x = .str (T8 z) := ra
    simp only [slA] at h
    by_cases hl : z.length ≤ lim
    · rw [if_pos hl] at h
      refine .inr (.inr ⟨_, rfl, ?_, ?_⟩)
      · simp only [T8, Str.length, List.size_toArray]
        rw [sizeLine_eq]; exact hl
      · exact Post.same h rel rfl
    · rw [if_neg hl] at h
      exact h.elim
  | tup xs =>
    obtain ⟨p, ws, rfl, hp, r⟩ := ra
    have h : Post g (rvOf g) (.ok (.tup (cutA xs lo hi)) st) al H Q W := h
    refine .inr (.inl ⟨p, ws, rfl, .inl (.inl hp), fun e => ?_, fun _ q hq => h.newT rel (cutA_rv r lo hi) hq⟩)
    have e2 : cutA xs lo hi = xs := by
      unfold cutA
      rw [r.length, e.1, e.2, List.drop_zero, Nat.sub_zero, ← r.length, List.take_length]
    rw [e2] at h
    exact Post.same h rel ⟨p, ws, rfl, hp, r⟩
  | rol xs =>
    obtain ⟨p, rfl, hp⟩ := ra
    refine .inl ⟨p, _, rfl, hK ▸ hp.sq, fun q hq => ?_⟩
    exact Post.newL (xs := cutA (xs.map .int) lo hi) h rel (cutA_rv RVs.ints lo hi) hq
  | ref n =>
    simp only [slA] at h
    split at h
    · rename_i xs q
      obtain ⟨p, ws, rfl, _, hp, r⟩ := ref_lst rel ra q
      exact .inl ⟨p, ws, rfl, .inl (.inl hp), fun q hq => h.newL rel (cutA_rv r lo hi) hq⟩
    · exact h.elim
  | _ => exact h.elim

/-! ### built-in functions -/
theorem CallR.imp {X : Cx} {f : Value} {r r' : List V → Hp → VK → Prop} (h : CallR X f r) (i : ∀ xs H Q, r' xs H Q → r xs H Q) : CallR X f r' :=
  fun pins s σ H xs us Q I rx q => h pins s σ H xs us Q I rx (i _ _ _ q)
theorem CallR.or2 {X : Cx} {f : Value} {r r' : List V → Hp → VK → Prop} (h : CallR X f r) (h' : CallR X f r') : CallR X f (fun xs H Q => r xs H Q ∨ r' xs H Q) := by
  intro pins s σ H xs us Q I rx q
  rcases q with q | q
  · exact h pins s σ H xs us Q I rx q
  · exact h' pins s σ H xs us Q I rx q
def CA (g : G) (f : List AV → Sto → R AV) : List V → Hp → VK → Prop := fun vs H Q => ∃ al st as W, Rel g al st H ∧ RVs g.K H al as vs ∧ Post g (rvOf g) (f as st) al H Q W
theorem RVs.nilI {K : PySem.W.Frag} {w : List V} (h : RVs K H al [] w) : w = [] := h
theorem RVs.oneI {K : PySem.W.Frag} {v : AV} {w : List V} (h : RVs K H al [v] w) : ∃ u, w = [u] ∧ RV K H al v u := by
  obtain ⟨u, r, rfl, h1, h2⟩ := h
  obtain rfl : r = [] := h2
  exact ⟨u, rfl, h1⟩
theorem RVs.twoI {K : PySem.W.Frag} {v v2 : AV} {w : List V} (h : RVs K H al [v, v2] w) : ∃ u u2, w = [u, u2] ∧ RV K H al v u ∧ RV K H al v2 u2 := by
  obtain ⟨u, r, rfl, h1, h2⟩ := h
  obtain ⟨u2, rfl, h3⟩ := RVs.oneI h2
  exact ⟨u, u2, rfl, h1, h3⟩
theorem lst_of {v : AV} {w : V} {xs : List AV} (rel : Rel g al st H) (rv : RV g.K H al v w) (e : lstA st v = some xs) : ∃ p ws, w = .ref p ∧ SqL g.K H p ws ∧ RVs g.K H al xs ws := by
  cases v with
  | ref n =>
    simp only [lstA] at e
    split at e
    · rename_i ys q
      cases e
      obtain ⟨p, ws, rfl, _, hp, r⟩ := ref_lst rel rv q
      exact ⟨p, ws, rfl, .inl (.inl hp), r⟩
    · cases e
  | rol ys =>
    cases e
    obtain ⟨p, rfl, hp⟩ := rv
    exact ⟨p, _, rfl, hp.sq, RVs.ints⟩
  | _ => cases e
theorem bools_of : ∀ {xs : List AV} {bs : List Bool} {ws : List V}, RVs g.K H al xs ws → boolsA xs = some bs → ws = bs.map V.bl
  | [], bs, ws, h, e => by
    cases e
    exact h
  | x :: xs, bs, ws, ⟨w, r, e1, h1, h2⟩, e => by
    subst e1
    cases x with
    | bl b =>
      have e : (boolsA xs).map (b :: ·) = some bs := e
      obtain ⟨cs, e2, rfl⟩ := Option.map_eq_some_iff.mp e
      obtain rfl : w = .bl b := h1
      rw [bools_of h2 e2]
      rfl
    | _ => cases e
theorem ints_of : ∀ {xs : List AV} {bs : List Int} {ws : List V}, RVs g.K H al xs ws → intsA xs = some bs → ws = bs.map V.int
  | [], bs, ws, h, e => by
    cases e
    exact h
  | x :: xs, bs, ws, ⟨w, r, e1, h1, h2⟩, e => by
    subst e1
    cases x with
    | int b =>
      have e : (intsA xs).map (b :: ·) = some bs := e
      obtain ⟨cs, e2, rfl⟩ := Option.map_eq_some_iff.mp e
      obtain rfl : w = .int b := h1
      rw [ints_of h2 e2]
      rfl
    | _ => cases e
theorem T8_len (x : List Nat) : (T8 x).length = x.length := by simp [T8, Str.length]
theorem T8_lim {x : List Nat} (h : x.length ≤ lim) : (T8 x).length ≤ sizeLine := by rw [T8_len, sizeLine_eq]; exact h
theorem cl_len {X : Cx} (hK : X.K = g.K) : CallR X (.builtin "len") (CA g (callB .len)) := by
  refine CallR.imp (CallR.or2 (call_len (X := X)) (CallR.or2 call_lenD call_len_dT)) fun vs H Q h => ?_
  obtain ⟨al, st, as, W, rel, ra, h⟩ := h
  simp only [callB] at h
  split at h
  · rename_i x
    obtain ⟨u, rfl, r⟩ := ra.oneI
    obtain rfl : u = .str (T8 x) := r
    by_cases hl : x.length ≤ lim
    · rw [if_pos hl] at h
      exact .inl ⟨_, x.length, rfl, ⟨T8_lim hl, (T8_len x).symm⟩, Post.same h rel rfl⟩
    · rw [if_neg hl] at h
      exact h.elim
  · rename_i x
    obtain ⟨u, rfl, r⟩ := ra.oneI
    obtain ⟨p, ws, rfl, hp, r⟩ := r
    exact .inl ⟨_, x.length, rfl, .inr ⟨ws, .inl (.inl hp), r.length⟩, Post.same h rel rfl⟩
  · rename_i n
    obtain ⟨u, rfl, r⟩ := ra.oneI
    split at h
    · rename_i x q
      obtain ⟨p, ws, rfl, _, hp, r⟩ := ref_lst rel r q
      exact .inl ⟨_, x.length, rfl, .inl ⟨ws, .inl (.inl hp), r.length⟩, Post.same h rel rfl⟩
    · rename_i x q
      obtain ⟨p, ws, rfl, _, hp, r⟩ := ref_dK rel r q
      refine .inr (.inl ⟨p, ws, rfl, hp, ?_⟩)
      rw [← r.length]
      exact Post.same h rel rfl
    · rename_i x q
      obtain ⟨p, ws, rfl, _, hp, r⟩ := ref_dT rel r q
      refine .inr (.inr ⟨p, ws, rfl, hp, ?_⟩)
      rw [← r.length]
      exact Post.same h rel rfl
    · exact h.elim
  · rename_i x
    obtain ⟨u, rfl, r⟩ := ra.oneI
    obtain ⟨p, rfl, hp⟩ := r
    refine .inl ⟨_, x.length, rfl, .inl ⟨_, hK ▸ hp.sq, by rw [List.length_map]⟩, Post.same h rel rfl⟩
  · exact h.elim
theorem cl_int {X : Cx} : CallR X (.type "int") (CA g (callB .int)) := by
  refine CallR.imp (CallR.or2 (call_int1 (X := X)) call_int_str) fun vs H Q h => ?_
  obtain ⟨al, st, as, W, rel, ra, h⟩ := h
  simp only [callB] at h
  split at h
  · rename_i x
    obtain ⟨u, rfl, r⟩ := ra.oneI
    obtain rfl : u = .int x := r
    exact .inl (.inl ⟨x, rfl, Post.same h rel rfl⟩)
  · rename_i x
    obtain ⟨u, rfl, r⟩ := ra.oneI
    obtain rfl : u = .bl x := r
    exact .inl (.inr ⟨x, rfl, Post.same h rel rfl⟩)
  · rename_i x
    obtain ⟨u, rfl, r⟩ := ra.oneI
    obtain rfl : u = .str (T8 x) := r
    by_cases hl : x.length ≤ 640
    · rw [if_pos hl] at h
      split at h
      · rename_i n e
        exact .inr ⟨_, n, rfl, e, by rw [T8_len]; exact hl, Post.same h rel rfl⟩
      · exact h.elim
    · rw [if_neg hl] at h
      exact h.elim
  · exact h.elim
theorem cl_str {X : Cx} : CallR X (.type "str") (CA g (callB .str)) := by
  refine CallR.imp (CallR.or2 (call_str_int (X := X)) SkE.call_str_str) fun vs H Q h => ?_
  obtain ⟨al, st, as, W, rel, ra, h⟩ := h
  simp only [callB] at h
  split at h
  · rename_i x
    obtain ⟨u, rfl, r⟩ := ra.oneI
    obtain rfl : u = .int x := r
    by_cases hl : x.natAbs.log2 < 1920
    · rw [if_pos hl] at h
      exact .inl ⟨x, rfl, hl, Post.same h rel rfl⟩
    · rw [if_neg hl] at h
      exact h.elim
  · rename_i x
    obtain ⟨u, rfl, r⟩ := ra.oneI
    obtain rfl : u = .str (T8 x) := r
    exact .inr ⟨_, rfl, Post.same h rel rfl⟩
  · exact h.elim
theorem seq_of {v : AV} {w : V} {xs : List AV} (rel : Rel g al st H) (rv : RV g.K H al v w) (e : seqA st v = some xs) : ∃ p ws, w = .ref p ∧ (SqL g.K H p ws ∨ SqT g.K H p ws ∧ v = .tup xs) ∧ RVs g.K H al xs ws := by
  cases v with
  | ref n =>
    simp only [seqA] at e
    split at e
    · rename_i ys q
      cases e
      obtain ⟨p, ws, rfl, _, hp, r⟩ := ref_lst rel rv q
      exact ⟨p, ws, rfl, .inl (.inl (.inl hp)), r⟩
    · cases e
  | rol ys =>
    cases e
    obtain ⟨p, rfl, hp⟩ := rv
    exact ⟨p, _, rfl, .inl hp.sq, RVs.ints⟩
  | tup ys =>
    cases e
    obtain ⟨p, ws, rfl, hp, r⟩ := rv
    exact ⟨p, ws, rfl, .inr ⟨.inl (.inl hp), rfl⟩, r⟩
  | _ => cases e
theorem cl_list {X : Cx} (hK : X.K = g.K) : CallR X (.type "list") (CA g (callB .list)) := by
  refine CallR.imp (call_list_of (X := X)) fun vs H Q h => ?_
  obtain ⟨al, st, as, W, rel, ra, h⟩ := h
  simp only [callB] at h
  split at h
  · obtain ⟨u, rfl, r⟩ := ra.oneI
    split at h
    · rename_i ys q
      obtain ⟨p, ws, rfl, hp, r⟩ := seq_of rel r q
      refine ⟨p, ws, rfl, ?_, fun q hq => h.newL rel r hq⟩
      rw [hK]
      rcases hp with hp | hp
      · exact .inl hp
      · exact .inr hp.1
    · exact h.elim
  · exact h.elim
theorem cl_tuple {X : Cx} (hK : X.K = g.K) : CallR X (.type "tuple") (CA g (callB .tuple)) := by
  refine CallR.imp (call_tuple_of (X := X)) fun vs H Q h => ?_
  obtain ⟨al, st, as, W, rel, ra, h⟩ := h
  simp only [callB] at h
  split at h
  · obtain ⟨u, rfl, r0⟩ := ra.oneI
    split at h
    · rename_i ys q
      obtain ⟨p, ws, rfl, hp, r⟩ := seq_of rel r0 q
      refine ⟨p, ws, rfl, ?_⟩
      rw [hK]
      rcases hp with hp | ⟨hp, rfl⟩
      · exact .inl ⟨hp, fun q hq => h.newT rel r hq⟩
      · exact .inr ⟨hp, Post.same h rel r0⟩
    · exact h.elim
  · exact h.elim
theorem cl_abs {X : Cx} : CallR X (.builtin "abs") (CA g (callB .abs)) := by
  refine CallR.imp (call_abs (X := X)) fun vs H Q h => ?_
  obtain ⟨al, st, as, W, rel, ra, h⟩ := h
  simp only [callB] at h
  split at h
  · rename_i x
    obtain ⟨u, rfl, r⟩ := ra.oneI
    obtain rfl : u = .int x := r
    exact ⟨x, rfl, Post.same h rel rfl⟩
  · exact h.elim
theorem cl_max {X : Cx} (hc : X.calm = true) : CallR X (.builtin "max") (CA g (callB .max)) := by
  refine CallR.imp (call_max2 hc) fun vs H Q h => ?_
  obtain ⟨al, st, as, W, rel, ra, h⟩ := h
  simp only [callB] at h
  split at h
  · rename_i x y
    obtain ⟨u, u2, rfl, r, r2⟩ := ra.twoI
    obtain rfl : u = .int x := r
    obtain rfl : u2 = .int y := r2
    exact ⟨x, y, rfl, Post.same h rel rfl⟩
  · exact h.elim
theorem cl_min {X : Cx} (hc : X.calm = true) : CallR X (.builtin "min") (CA g (callB .min)) := by
  refine CallR.imp (call_min2 hc) fun vs H Q h => ?_
  obtain ⟨al, st, as, W, rel, ra, h⟩ := h
  simp only [callB] at h
  split at h
  · rename_i x y
    obtain ⟨u, u2, rfl, r, r2⟩ := ra.twoI
    obtain rfl : u = .int x := r
    obtain rfl : u2 = .int y := r2
    exact ⟨x, y, rfl, Post.same h rel rfl⟩
  · exact h.elim
theorem cl_all {X : Cx} (hK : X.K = g.K) (hc : X.calm = true) : CallR X (.builtin "all") (CA g (callB .all)) := by
  refine CallR.imp (cr_all hc) fun vs H Q h => ?_
  obtain ⟨al, st, as, W, rel, ra, h⟩ := h
  simp only [callB] at h
  split at h
  · obtain ⟨u, rfl, r0⟩ := ra.oneI
    split at h
    · rename_i ys q
      obtain ⟨p, ws, rfl, hp, r⟩ := lst_of rel r0 q
      obtain ⟨b, e, q⟩ := Post.ofB h rel
      obtain ⟨bs, e1, rfl⟩ := Option.map_eq_some_iff.mp e
      refine ⟨p, bs, rfl, ?_, q⟩
      rw [hK, ← bools_of r e1]
      exact hp
    · exact h.elim
  · exact h.elim
theorem cl_any {X : Cx} (hK : X.K = g.K) (hc : X.calm = true) : CallR X (.builtin "any") (CA g (callB .any)) := by
  refine CallR.imp (cr_any hc) fun vs H Q h => ?_
  obtain ⟨al, st, as, W, rel, ra, h⟩ := h
  simp only [callB] at h
  split at h
  · obtain ⟨u, rfl, r0⟩ := ra.oneI
    split at h
    · rename_i ys q
      obtain ⟨p, ws, rfl, hp, r⟩ := lst_of rel r0 q
      obtain ⟨b, e, q⟩ := Post.ofB h rel
      obtain ⟨bs, e1, rfl⟩ := Option.map_eq_some_iff.mp e
      refine ⟨p, bs, rfl, ?_, q⟩
      rw [hK, ← bools_of r e1]
      exact hp
    · exact h.elim
  · exact h.elim
theorem cl_sum {X : Cx} (hK : X.K = g.K) (hc : X.calm = true) : CallR X (.builtin "sum") (CA g (callB .sum)) := by
  refine CallR.imp (cr_sum hc) fun vs H Q h => ?_
  obtain ⟨al, st, as, W, rel, ra, h⟩ := h
  simp only [callB] at h
  split at h
  · obtain ⟨u, rfl, r0⟩ := ra.oneI
    split at h
    · rename_i ys q
      obtain ⟨p, ws, rfl, hp, r⟩ := lst_of rel r0 q
      split at h
      · rename_i ns e
        refine ⟨p, ns, rfl, ?_, Post.same h rel rfl⟩
        rw [hK, ← ints_of r e]
        exact hp
      · exact h.elim
    · exact h.elim
  · exact h.elim

/-! ### isinstance -/
def tyOf : Ty → Option String
  | .bool => some "bool" | .int => some "int" | .str => some "str" | .list => some "list" | .tuple => some "tuple" | .dict => some "dict" | .cls _ => none
/-- the answers of the model's table -/
theorem kit_all : ∀ t ∈ [Ty.bool, .int, .str, .list, .tuple, .dict], ∀ n ∈ tyOf t,
    kitB "NoneType" n = some false ∧ kitB "bool" n = some (decide (t = .bool ∨ t = .int)) ∧ kitB "int" n = some (decide (t = .int)) ∧ kitB "str" n = some (decide (t = .str)) ∧
    kitB "tuple" n = some (decide (t = .tuple)) ∧ kitB "list" n = some (decide (t = .list)) ∧ kitB "dict" n = some (decide (t = .dict)) := by decide +kernel
theorem ty_mem {t : Ty} {n : String} (h : tyOf t = some n) : t ∈ [Ty.bool, .int, .str, .list, .tuple, .dict] := by
  cases t <;> first | (cases h; done) | (simp; done)
theorem isA_ok {v : AV} {w : V} {t : Ty} {n : String} {b : Bool} {T : Tab} (rel : Rel g al st H) (rv : RV g.K H al v w) (ht : tyOf t = some n) (e : isA T t v st = some b) : ∃ u, TyX g.K H w u ∧ PySem.W.kitOne g.K u (.type n) = some b := by
  obtain ⟨k1, k2, k3, k4, k5, k6, k7⟩ := kit_all t (ty_mem ht) n ht
  cases v with
  | non =>
    obtain rfl : w = .non := rv
    cases e
    exact ⟨_, .base .non, kit_ty k1⟩
  | bl x =>
    obtain rfl : w = .bl x := rv
    cases e
    exact ⟨_, .base (.bl x), kit_ty k2⟩
  | int x =>
    obtain rfl : w = .int x := rv
    cases e
    exact ⟨_, .base (.int x), kit_ty k3⟩
  | str x =>
    obtain rfl : w = .str (T8 x) := rv
    cases e
    exact ⟨_, .base (.str _), kit_ty k4⟩
  | tup x =>
    obtain ⟨p, ws, rfl, hp, r⟩ := rv
    cases e
    exact ⟨_, .base (.tup hp), kit_ty k5⟩
  | rol x =>
    obtain ⟨p, rfl, hp⟩ := rv
    cases e
    rcases hp with ⟨o, hp⟩ | ⟨o, its, m, h1, h2, _⟩
    · exact ⟨_, .base (.frz hp), kit_ty k6⟩
    · exact ⟨_, .kList h1 h2, kit_ty k6⟩
  | ref m =>
    simp only [isA] at e
    split at e
    · rename_i x q
      obtain ⟨p, ws, rfl, _, hp, r⟩ := ref_lst rel rv q
      cases e
      exact ⟨_, .base (.lst hp), kit_ty k6⟩
    · rename_i x q
      obtain ⟨p, ws, rfl, _, hp, r⟩ := ref_dK rel rv q
      cases e
      exact ⟨_, .base (.dK hp), kit_ty k7⟩
    · rename_i x q
      obtain ⟨p, ws, rfl, _, hp, r⟩ := ref_dT rel rv q
      cases e
      exact ⟨_, .base (.dT hp), kit_ty k7⟩
    · cases e
    · cases e
    · cases e

/-! ### methods of lists -/
def MA (g : G) (s : Sel) (m : Nat) : V → List V → Hp → VK → Prop := fun x vs H Q => ∃ al st v as W, Rel g al st H ∧ RV g.K H al v x ∧ RVs g.K H al as vs ∧ Post g (rvOf g) (bmeth s m v as st) al H Q W
theorem MtM.imp {X : Cx} {id : String} {r r' : V → List V → Hp → VK → Prop} (h : MtM X id r) (i : ∀ x xs H Q, r' x xs H Q → r x xs H Q) : MtR X id r' :=
  fun pins s σ H x xs v us Q I rx ry q => h pins s σ H x xs v us Q I rx ry (i _ _ _ _ q)
theorem MtM.or2 {X : Cx} {id : String} {r r' : V → List V → Hp → VK → Prop} (h : MtM X id r) (h' : MtM X id r') : MtM X id (fun x xs H Q => r x xs H Q ∨ r' x xs H Q) := by
  intro pins s σ H x xs v us Q I rx ry q
  rcases q with q | q
  · exact h pins s σ H x xs v us Q I rx ry q
  · exact h' pins s σ H x xs v us Q I rx ry q
theorem bm_lst {m : Nat} {v : AV} {x : V} {as : List AV} {W : Nat → Hp → Prop} {Q : VK} (rel : Rel g al st H) (rx : RV g.K H al v x) (h : Post g (rvOf g) (bmeth .lst m v as st) al H Q W) :
    ∃ n ys p ws, x = .ref p ∧ al n = some p ∧ H p = some (.lst ws) ∧ RVs g.K H al ys ws ∧ Post g (rvOf g) (lmeth m n ys as st) al H Q W := by
  cases v with
  | ref n =>
    simp only [bmeth] at h
    split at h
    · rename_i ys e
      obtain ⟨p, ws, rfl, ea, hp, r⟩ := ref_lst rel rx e
      exact ⟨n, ys, p, ws, rfl, ea, hp, r, h⟩
    · exact h.elim
  | _ => exact h.elim
theorem Post.chgL {W : Nat → Hp → Prop} {Q : V → Hp → Prop} {v : AV} {w : V} {n : Nat} {p : Addr} {xs : List AV} {ws us : List V} (h : Post g (rvOf g) (.ok v (st.set n (.lst xs))) al H Q W) (r : Rel g al st H) (e : al n = some p) (e2 : H p = some (.lst us))
    (rv : RV g.K H al v w) (r2 : RVs g.K H al xs ws) : Q w (upd H p (.lst ws)) :=
  h.chg r e e2 rv ⟨ws, upd_same, RVs.step r.notup (stp_set e e2) _ _ r2⟩
theorem mt_app {X : Cx} : MtR X "list.append" (MA g .lst 0) := by
  refine MtM.imp (mt_append (X := X)) fun x vs H Q h => ?_
  obtain ⟨al, st, v0, as, W, rel, rx, ra, h⟩ := h
  replace h := bm_lst rel rx h
  obtain ⟨n, ys, p, ws, rfl, ea, hp, r, h⟩ := h
  simp only [lmeth] at h
  split at h
  · obtain ⟨u, rfl, r1⟩ := ra.oneI
    by_cases hl : ys.length < lim
    · rw [if_pos hl] at h
      exact ⟨p, ws, u, rfl, rfl, hp, by rw [← r.length, sizeLine_eq]; exact hl, h.chgL rel ea hp rfl (r.append (RVs.one r1))⟩
    · rw [if_neg hl] at h
      exact h.elim
  · exact h.elim
theorem mt_ext {X : Cx} : MtR X "list.extend" (MA g .lst 1) := by
  refine MtM.imp (mt_extend (X := X)) fun x vs H Q h => ?_
  obtain ⟨al, st, v0, as, W, rel, rx, ra, h⟩ := h
  replace h := bm_lst rel rx h
  obtain ⟨n, ys, p, ws, rfl, ea, hp, r, h⟩ := h
  simp only [lmeth] at h
  split at h
  · obtain ⟨u, rfl, r1⟩ := ra.oneI
    split at h
    · rename_i zs q
      obtain ⟨p2, ws2, rfl, _, hp2, r2⟩ := ref_lst rel r1 q
      by_cases hl : ys.length + zs.length ≤ lim
      · rw [if_pos hl] at h
        exact ⟨p, p2, ws, ws2, rfl, rfl, hp, hp2, by rw [← r.length, ← r2.length, sizeLine_eq]; exact hl, h.chgL rel ea hp rfl (r.append r2)⟩
      · rw [if_neg hl] at h
        exact h.elim
    · exact h.elim
  · exact h.elim
theorem mt_ins {X : Cx} : MtR X "list.insert" (MA g .lst 2) := by
  refine MtM.imp (mt_insert (X := X)) fun x vs H Q h => ?_
  obtain ⟨al, st, v0, as, W, rel, rx, ra, h⟩ := h
  replace h := bm_lst rel rx h
  obtain ⟨n, ys, p, ws, rfl, ea, hp, r, h⟩ := h
  simp only [lmeth] at h
  split at h
  · rename_i i v
    obtain ⟨u, u2, rfl, r1, r2⟩ := ra.twoI
    obtain rfl : u = .int i := r1
    by_cases hl : 0 ≤ i ∧ i < 2 ^ 63 ∧ ys.length < lim
    · rw [if_pos hl] at h
      exact ⟨p, ws, i, u2, rfl, rfl, hp, by rw [← r.length, sizeLine_eq]; exact hl.2.2, hl.1, hl.2.1, h.chgL rel ea hp rfl (((r.take _).append (RVs.one r2)).append (r.drop _))⟩
    · rw [if_neg hl] at h
      exact h.elim
  · exact h.elim
theorem RVs.dropLast {K : PySem.W.Frag} {v : List AV} {w : List V} (h : RVs K H al v w) : RVs K H al v.dropLast w.dropLast := by
  rw [List.dropLast_eq_take, List.dropLast_eq_take, h.length]
  exact h.take _
theorem mt_popA {X : Cx} : MtR X "list.pop" (MA g .lst 3) := by
  refine MtM.imp (MtM.or2 (mt_pop (X := X)) mt_popAt) fun x vs H Q h => ?_
  obtain ⟨al, st, v0, as, W, rel, rx, ra, h⟩ := h
  replace h := bm_lst rel rx h
  obtain ⟨n, ys, p, ws, rfl, ea, hp, r, h⟩ := h
  simp only [lmeth] at h
  split at h
  · obtain rfl := ra.nilI
    split at h
    · rename_i v q
      obtain ⟨w, h1, h2⟩ := r.get q
      exact .inl ⟨p, ws, w, rfl, rfl, hp, by rw [← r.length]; exact h1, h.chgL rel ea hp h2 r.dropLast⟩
    · exact h.elim
  · rename_i i
    obtain ⟨u, rfl, r1⟩ := ra.oneI
    obtain rfl : u = .int i := r1
    by_cases hl : ys.length ≤ lim
    · rw [if_pos hl] at h
      split at h
      · rename_i k q
        split at h
        · rename_i v q2
          obtain ⟨w, h1, h2⟩ := r.get q2
          rw [r.length] at q hl
          obtain ⟨z1, z2, z3, z4⟩ := ixN_seq q
          have hz : (lim : Nat) = 16777216 := rfl
          exact .inr ⟨p, ws, i, k, w, rfl, rfl, hp, by omega, by omega, z1, h1, h.chgL rel ea hp h2 (r.eraseAt k)⟩
        · exact h.elim
      · exact h.elim
    · rw [if_neg hl] at h
      exact h.elim
  · exact h.elim
theorem mt_clr {X : Cx} : MtR X "list.clear" (MA g .lst 4) := by
  refine MtM.imp (mt_clear (X := X)) fun x vs H Q h => ?_
  obtain ⟨al, st, v0, as, W, rel, rx, ra, h⟩ := h
  replace h := bm_lst rel rx h
  obtain ⟨n, ys, p, ws, rfl, ea, hp, r, h⟩ := h
  simp only [lmeth] at h
  split at h
  · obtain rfl := ra.nilI
    exact ⟨p, ws, rfl, rfl, hp, h.chgL rel ea hp rfl (show RVs g.K H al [] [] from rfl)⟩
  · exact h.elim
theorem mt_rev {X : Cx} : MtR X "list.reverse" (MA g .lst 5) := by
  refine MtM.imp (mt_reverse (X := X)) fun x vs H Q h => ?_
  obtain ⟨al, st, v0, as, W, rel, rx, ra, h⟩ := h
  replace h := bm_lst rel rx h
  obtain ⟨n, ys, p, ws, rfl, ea, hp, r, h⟩ := h
  simp only [lmeth] at h
  split at h
  · obtain rfl := ra.nilI
    exact ⟨p, ws, rfl, rfl, hp, h.chgL rel ea hp rfl r.rev⟩
  · exact h.elim
theorem strsA_rv : ∀ {ys : List AV} {zs : List (List Nat)} {ws : List V}, strsA ys = some zs → RVs g.K H al ys ws → ws = (zs.map T8).map V.str
  | [], zs, ws, h, r => by
    have h : some [] = some zs := h
    cases h
    exact r
  | y :: ys, zs, ws, h, ⟨w, r, e, h1, h2⟩ => by
    cases y with
    | str b =>
      have h : (strsA ys).map (b :: ·) = some zs := h
      cases q : strsA ys with
      | none => rw [q] at h; cases h
      | some us =>
        rw [q] at h
        cases h
        obtain rfl : w = .str (T8 b) := h1
        rw [e, strsA_rv q h2]
        rfl
    | _ => cases h
theorem mt_joinA {X : Cx} (hK : X.K = g.K) : MtR X "str.join" (MA g .str 10) := by
  refine MtM.imp (mt_join (X := X)) fun x vs H Q h => ?_
  obtain ⟨al, st, v0, as, W, rel, rx, ra, h⟩ := h
  cases v0 with
  | str a =>
    obtain rfl : x = .str (T8 a) := rx
    simp only [bmeth, smeth] at h
    unfold sjoin at h
    split at h
    · rename_i n
      split at h
      · rename_i ys q
        split at h
        · rename_i zs q2
          obtain ⟨u, rfl, r1⟩ := ra.oneI
          obtain ⟨p, ws, rfl, _, hp, r⟩ := ref_lst rel r1 q
          obtain rfl := strsA_rv q2 r
          have e1 : ((zs.map T8).map (·.length)).sum = (zs.map List.length).sum := by
            congr 1
            rw [List.map_map]
            apply List.map_congr_left
            intro y _
            simp [Str.length]
          by_cases hl : (zs.map List.length).sum + zs.length * a.length ≤ lim
          · rw [if_pos hl] at h
            refine ⟨T8 a, p, zs.map T8, rfl, rfl, .inl (.inl (.inl hp)), ?_, ?_⟩
            · rw [e1, List.length_map]
              have : (T8 a).length = a.length := by simp [Str.length]
              rw [this]
              exact hl
            · exact h al H (.str (Txt.join (T8 a) (zs.map T8))) (Stp.refl _ _) rel (by
                show V.str _ = V.str (T8 (joinA a zs))
                unfold joinA
                rfl)
          · rw [if_neg hl] at h
            exact h.elim
        · exact h.elim
      · exact h.elim
    · exact h.elim
  | _ => exact h.elim
theorem mt_countA {X : Cx} : MtR X "str.count" (MA g .str 7) := by
  refine MtM.imp (mt_count (X := X)) fun x vs H Q h => ?_
  obtain ⟨al, st, v0, as, W, rel, rx, ra, h⟩ := h
  cases v0 with
  | str a =>
    obtain rfl : x = .str (T8 a) := rx
    simp only [bmeth, smeth] at h
    split at h
    · rename_i b
      obtain ⟨u, rfl, r1⟩ := ra.oneI
      obtain rfl : u = .str (T8 b) := r1
      exact ⟨T8 a, T8 b, rfl, rfl, Post.same h rel rfl⟩
    · exact h.elim
  | _ => exact h.elim
theorem mt_findA {X : Cx} : MtR X "str.find" (MA g .str 11) := by
  refine MtM.imp (mt_find (X := X)) fun x vs H Q h => ?_
  obtain ⟨al, st, v0, as, W, rel, rx, ra, h⟩ := h
  cases v0 with
  | str a =>
    obtain rfl : x = .str (T8 a) := rx
    simp only [bmeth, smeth] at h
    split at h
    · rename_i b
      obtain ⟨u, rfl, r1⟩ := ra.oneI
      obtain rfl : u = .str (T8 b) := r1
      exact ⟨T8 a, T8 b, rfl, rfl, Post.same h rel rfl⟩
    · exact h.elim
  | _ => exact h.elim
theorem rvs_strs {K : PySem.W.Frag} : ∀ ys : List Str, RVs K H al (ys.map fun y => AV.str y.cps.toList) (ys.map V.str)
  | [] => rfl
  | y :: ys => ⟨_, _, rfl, (by show V.str y = V.str (T8 y.cps.toList); rfl), rvs_strs ys⟩
theorem mt_splitA {X : Cx} : MtR X "str.split" (MA g .str 9) := by
  refine MtM.imp (mt_split (X := X)) fun x vs H Q h => ?_
  obtain ⟨al, st, v0, as, W, rel, rx, ra, h⟩ := h
  cases v0 with
  | str a =>
    obtain rfl : x = .str (T8 a) := rx
    simp only [bmeth, smeth] at h
    split at h
    · rename_i b
      obtain ⟨u, rfl, r1⟩ := ra.oneI
      obtain rfl : u = .str (T8 b) := r1
      by_cases hb : b ≠ [] ∧ a.length + 2 ≤ lim
      · rw [if_pos hb] at h
        refine ⟨T8 a, T8 b, rfl, rfl, ?_, ?_, fun p hp => h.newL rel (rvs_strs _) hp⟩
        · have : (T8 b).length ≠ 0 := by rw [T8_len]; exact fun z => hb.1 (List.eq_nil_of_length_eq_zero z)
          simpa using this
        · rw [T8_len, sizeLine_eq]; exact hb.2
      · rw [if_neg hb] at h
        exact h.elim
    · exact h.elim
  | _ => exact h.elim
theorem mt_indexA {X : Cx} (hK : X.K = g.K) (hu : X.A.units + 65 < cLine) : MtR X "list.index" (MA g .lst 6) := by
  refine MtM.imp (mt_indexD hu) fun x vs H Q h => ?_
  obtain ⟨al, st, v0, as, W, rel, rx, ra, h⟩ := h
  cases v0 with
  | ref n =>
    simp only [bmeth] at h
    split at h
    · rename_i ys q
      simp only [lmeth] at h
      split at h
      · rename_i v
        obtain ⟨u, rfl, r1⟩ := ra.oneI
        split at h
        · rename_i ds d q1 q2
          split at h
          · rename_i j q3
            obtain ⟨h1, h2⟩ := pdS_dp rel rx q1
            obtain ⟨h3, h4⟩ := pdS_dp rel r1 q2
            obtain ⟨p, ws, rfl, _, hp, r⟩ := ref_lst rel rx q
            obtain ⟨hj, k1, k2⟩ := List.findIdx?_eq_some_iff_getElem.mp q3
            refine ⟨p, u, d, ds, j, ds[j], rfl, rfl, hK ▸ h1, hK ▸ h3, h2, h4, List.getElem?_eq_getElem hj, k1, fun m z' hm hz => ?_, Post.same h rel rfl⟩
            obtain ⟨hm2, rfl⟩ := List.getElem?_eq_some_iff.mp hz
            have := k2 m hm
            simpa using this
          · exact h.elim
        · exact h.elim
      · exact h.elim
    · exact h.elim
  | _ => exact h.elim
theorem mt_getA {X : Cx} (hu : X.A.units + 1 < cLine) : MtR X "dict.get" (MA g .dic 8) := by
  intro pins s σ H x xs v us Q I rx rs h
  obtain ⟨al, st, v0, as, W, rel, rv, ra, h⟩ := h
  cases v0 with
  | ref n =>
    simp only [bmeth] at h
    split at h
    · rename_i i r0
      have key : ∀ {o : Option AV} {y : V}, dlook st n i = some o → RV g.K H al i y → ∃ a o2, x = .ref a ∧ DGet H a y o2 ∧ (∀ d w, RV g.K H al d w → RV g.K H al (o.getD d) (o2.getD w)) := by
        intro o y hd ry
        unfold dlook at hd
        split at hd
        · rename_i kvs q0
          cases q1 : keyK i with
          | none => rw [q1] at hd; cases hd
          | some k =>
            rw [q1] at hd
            cases hd
            obtain ⟨p, ws, rfl, _, hp, r⟩ := ref_dK rel rv q0
            refine ⟨p, _, rfl, by rw [keyK_is ry q1]; exact DGet.k hp, fun d w rd => ?_⟩
            show RV g.K H al ((getK k kvs).getD d) _
            cases q2 : getK k kvs with
            | none => rw [RP.none k r q2]; exact rd
            | some u =>
              obtain ⟨w2, e2, r2⟩ := RP.val k r q2
              rw [e2]; exact r2
        · rename_i kvs q0
          cases q1 : keyT i with
          | none => rw [q1] at hd; cases hd
          | some k =>
            rw [q1] at hd
            cases hd
            obtain ⟨p, ws, rfl, _, hp, r⟩ := ref_dT rel rv q0
            obtain ⟨b2, rfl, hb⟩ := keyT_is ry q1
            refine ⟨p, _, rfl, DGet.t hp hb, fun d w rd => ?_⟩
            show RV g.K H al ((getK k kvs).getD d) _
            cases q2 : getK k kvs with
            | none => rw [RP.none k r q2]; exact rd
            | some u =>
              obtain ⟨w2, e2, r2⟩ := RP.val k r q2
              rw [e2]; exact r2
        · cases hd
      cases hd : dlook st n i with
      | none => rw [hd] at h; exact h.elim
      | some o =>
        rw [hd] at h
        unfold dgetA at h
        dsimp only at h
        cases r0 with
        | nil =>
          obtain ⟨w, rfl, r1⟩ := ra.oneI
          obtain ⟨a, o2, rfl, hg, hr⟩ := key hd r1
          obtain rfl : v = Value.ref a := rx
          cases rs with
          | cons ru rs =>
            cases rs
            refine d_get1 hu I hg ru fun w' s' I' rw' => ⟨_, H, I', rw', ?_⟩
            exact h al H _ (Stp.refl _ _) rel (hr .non .non rfl)
        | cons d r1 =>
          cases r1 with
          | nil =>
            obtain ⟨w, wd, rfl, r1, r2⟩ := ra.twoI
            obtain ⟨a, o2, rfl, hg, hr⟩ := key hd r1
            obtain rfl : v = Value.ref a := rx
            cases rs with
            | cons ru rs =>
              cases rs with
              | cons rd rs =>
                cases rs
                refine d_get2 hu I hg ru rd fun w' s' I' rw' => ⟨_, H, I', rw', ?_⟩
                exact h al H _ (Stp.refl _ _) rel (hr d wd r2)
          | cons _ _ => exact h.elim
    · exact h.elim
  | _ => exact h.elim
end
end L3

/-! SndS: sorted, index, methods of texts. -/
namespace L3
open PySem PySem.Spec PyProof.Rows L2

section
variable {g : G} {al al' : Al} {H H' : Hp} {st : Sto}
theorem RP.put {κ : Type} [DecidableEq κ] {k : κ} {v : AV} {w : V} {K : PySem.W.Frag} (rv : RV K H al v w) {xs : List (κ × AV)} {ws : List (κ × V)} (h : RP K H al xs ws) : RP K H al (L3.putK k v xs) (L2.putK ws k w) := by
  have hh : ∀ {xs : List (κ × AV)} {ws : List (κ × V)}, RP K H al xs ws → (ws.any fun kv => decide (kv.1 = k)) = hasK k xs := by
    intro xs
    induction xs with
    | nil => intro ws h; obtain rfl : ws = [] := h; rfl
    | cons x xs ih =>
      intro ws ⟨u, r, e1, h1, h2⟩
      subst e1
      unfold hasK
      rw [List.any_cons, List.any_cons, ih h2]
      rfl
  have hm : ∀ {xs : List (κ × AV)} {ws : List (κ × V)}, RP K H al xs ws → RP K H al (xs.map fun p => if p.1 = k then (p.1, v) else p) (ws.map fun kv => if kv.1 = k then (kv.1, w) else kv) := by
    intro xs
    induction xs with
    | nil => intro ws h; obtain rfl : ws = [] := h; rfl
    | cons x xs ih =>
      intro ws ⟨u, r, e1, h1, h2⟩
      subst e1
      rw [List.map_cons, List.map_cons]
      by_cases z : x.1 = k
      · rw [if_pos z, if_pos z]
        exact ⟨w, _, rfl, rv, ih h2⟩
      · rw [if_neg z, if_neg z]
        exact ⟨u, _, rfl, h1, ih h2⟩
  have ha : ∀ {xs : List (κ × AV)} {ws : List (κ × V)}, RP K H al xs ws → RP K H al (xs ++ [(k, v)]) (ws ++ [(k, w)]) := by
    intro xs
    induction xs with
    | nil => intro ws h; obtain rfl : ws = [] := h; exact ⟨w, [], rfl, rv, rfl⟩
    | cons x xs ih =>
      intro ws ⟨u, r, e1, h1, h2⟩
      subst e1
      exact ⟨u, _, rfl, h1, ih h2⟩
  unfold L3.putK L2.putK
  rw [hh h]
  by_cases z : hasK k xs = true
  · rw [if_pos z, if_pos z]; exact hm h
  · rw [if_neg z, if_neg z]; exact ha h
theorem oAll_dep {st : Sto} {n : Nat} (h : ∀ v d, pd n st v = some d → d.depth ≤ n) : ∀ xs ds, oAll (pd n st) xs = some ds → PyData.depthAll ds ≤ n
  | [], _, e => by cases e; exact Nat.zero_le _
  | x :: xs, ds, e => by
    simp only [oAll] at e
    split at e
    · rename_i d r q1 q2
      cases e
      exact Nat.max_le.mpr ⟨h _ _ q1, oAll_dep h xs r q2⟩
    · cases e
theorem pd_dep {st : Sto} : ∀ (n : Nat) (v : AV) (d : PyData), pd n st v = some d → d.depth ≤ n
  | 0, _, _, e => by cases e
  | n + 1, v, d, e => by
    cases v with
    | non => cases e; exact Nat.zero_le _
    | bl b => cases e; exact Nat.zero_le _
    | int b => cases e; exact Nat.zero_le _
    | str b => cases e; exact Nat.zero_le _
    | rol xs =>
      cases e
      show PyData.depthAll (xs.map .int) + 1 ≤ n + 1
      rw [PySem.W.depth_ints]
      omega
    | tup xs =>
      have e : (oAll (pd n st) xs).map .tuple = some d := e
      obtain ⟨ds, e1, rfl⟩ := Option.map_eq_some_iff.mp e
      exact Nat.succ_le_succ (oAll_dep (pd_dep n) xs ds e1)
    | ref m =>
      have e : (match st[m]? with
        | some (.lst xs) => (oAll (pd n st) xs).map .list
        | _ => none) = some d := e
      split at e
      · obtain ⟨ds, e1, rfl⟩ := Option.map_eq_some_iff.mp e
        exact Nat.succ_le_succ (oAll_dep (pd_dep n) _ ds e1)
      · cases e
theorem oAll_mapD {α β : Type} {f : α → Option β} {d : β} : ∀ {xs : List α} {ds : List β}, oAll f xs = some ds → xs.map (fun x => (f x).getD d) = ds ∧ ∀ x ∈ xs, ∃ y, f x = some y
  | [], _, e => by cases e; exact ⟨rfl, fun x h => by cases h⟩
  | x :: xs, ds, e => by
    simp only [oAll] at e
    split at e
    · rename_i d' r q1 q2
      cases e
      obtain ⟨h1, h2⟩ := oAll_mapD (d := d) q2
      refine ⟨by rw [List.map_cons, q1, h1]; rfl, fun y hy => ?_⟩
      rcases List.mem_cons.mp hy with rfl | hy
      · exact ⟨_, q1⟩
      · exact h2 y hy
    · cases e
theorem alike_of {ds : List PyData} (h : alikeB ds = true) : PySem.W.AllAlike ds := fun d hd e he => List.all_eq_true.mp (List.all_eq_true.mp h d hd) e he
theorem sort_of {ds : List PyData} (h : sortB ds = true) : PySem.W.Sortable ds := by
  unfold sortB at h
  rw [Bool.or_eq_true] at h
  rcases h with h | h
  · refine .inl fun d hd => ?_
    have := List.all_eq_true.mp h d hd
    split at this
    · exact ⟨_, _, rfl⟩
    · cases this
  · refine .inr fun d hd => ?_
    have := List.all_eq_true.mp h d hd
    split at this
    · cases this
    · cases this
    · rename_i h1 h2
      exact ⟨h1, h2⟩
/-- values, and what they stand for -/
def RelA (g : G) (al : Al) (H : Hp) (u : Value) (y : AV) : Prop := ∃ w, RelV w u ∧ RV g.K H al y w
theorem each_rel : ∀ {ys : List AV} {ws : List V} {us : List Value}, RVs g.K H al ys ws → Vals ws us → PySem.W.EachIs (RelA g al H) us ys
  | [], ws, us, h, r => by
    obtain rfl : ws = [] := h
    cases r
    exact .nil
  | y :: ys, ws, us, ⟨w, r, e, h1, h2⟩, hv => by
    subst e
    cases hv with
    | cons a b => exact .cons ⟨w, a, h1⟩ (each_rel h2 b)
theorem rel_each : ∀ {ys : List AV} {us : List Value}, PySem.W.EachIs (RelA g al H) us ys → ∃ ws, RVs g.K H al ys ws ∧ Vals ws us
  | [], _, h => by cases h; exact ⟨[], rfl, .nil⟩
  | y :: ys, _, h => by
    cases h with
    | cons a b =>
      obtain ⟨w, h1, h2⟩ := a
      obtain ⟨ws, h3, h4⟩ := rel_each b
      exact ⟨w :: ws, ⟨w, ws, rfl, h2, h3⟩, .cons h1 h4⟩
theorem each_reads {X : Cx} {pins : List (Addr × Obj)} {σ : L2.St} {s : Shared} (hK : X.K = g.K) (I : Inv X pins σ H s) (rel : Rel g al st H) : ∀ {ys : List AV} {us : List Value}, PySem.W.EachIs (RelA g al H) us ys → (∀ y ∈ ys, ∃ d, pd 9 st y = some d) → PySem.W.EachIs (fun u y => ∃ as, Reads s.heap u (encA st y) as) us ys
  | [], _, h, _ => by cases h; exact .nil
  | y :: ys, _, h, k => by
    cases h with
    | cons a b =>
      obtain ⟨w, h1, h2⟩ := a
      obtain ⟨d, hd⟩ := k y List.mem_cons_self
      refine .cons ?_ (each_reads hK I rel b fun z hz => k z (List.mem_cons_of_mem _ hz))
      have dp := pd_dp rel 9 y w d h2 hd
      rw [← hK] at dp
      unfold encA
      rw [hd]
      exact dp.reads I d _ _ h1
theorem cl_sorted {X : Cx} (hK : X.K = g.K) (hu : X.A.units + 65 < cLine) : CallR X (.builtin "sorted") (CA g (callB .sorted)) := by
  intro pins s σ H xs us Q I r h
  obtain ⟨al, st, as, W, rel, ra, h⟩ := h
  simp only [callB] at h
  split at h
  · obtain ⟨u, rfl, r1⟩ := ra.oneI
    split at h
    · rename_i ys q
      split at h
      · rename_i ds q2
        by_cases hc : alikeB ds = true ∧ sortB ds = true ∧ ys.length ≤ lim
        · rw [if_pos hc] at h
          obtain ⟨c1, c2, c3⟩ := hc
          obtain ⟨p, ws, rfl, hq, rvs⟩ := lst_of rel r1 q
          obtain ⟨v, rfl, rx⟩ := vals1 r
          cases rx
          rw [← hK] at hq
          obtain ⟨its, r', pl, hz⟩ := I.list hq
          obtain ⟨em, ee⟩ := oAll_mapD (d := PyData.none) q2
          have em : ys.map (encA st) = ds := em
          have E1 := each_rel rvs r'
          refine PySem.W.sorted_data (enc := encA st) (R := RelA g al H) pl.isList E1 (each_reads hK I rel E1 ee) (em ▸ alike_of c1) (em ▸ sort_of c2) (by rw [sizeLine_eq]; exact c3) (fun y hy => ?_) fun out hl eo => ?_
          · obtain ⟨d, hd⟩ := ee y hy
            have := pd_dep 9 y d hd
            unfold encA
            rw [hd]
            show X.A.units + 2 + d.depth < cLine
            omega
          · obtain ⟨ws2, rv2, vals2⟩ := rel_each eo
            obtain ⟨c, hc⟩ := sortedAll_at s.heap its out.toArray
            have hn : H (s.heap.objs.size + 1) = none := I.hok.fresh (Nat.le_succ _)
            refine ⟨.ref (s.heap.objs.size + 1), _, I.laid (t' := s.toks) (fun _ _ => sortedAll_old) (Nat.le_succ _) (show ObjOk X.prog X.w _ _ _ (.lst ws2) from ⟨?_, out, c, vals2, hc⟩), rfl, h.newL rel rv2 hn⟩
            rw [vals2.length, hl, sizeLine_eq]
            exact c3
        · rw [if_neg hc] at h
          exact h.elim
      · exact h.elim
    · exact h.elim
  · exact h.elim
end
end L3

/-! Snd5: what each construct reads as. -/
namespace L3
open PySem PySem.Spec PyProof.Rows L2

theorem PE.of {X : Cx} {e : Expr} {t' : TE} (h : ∀ σ H Q, t' σ H Q → ∃ t, PE X e t ∧ t σ H Q) : PE X e t' :=
  ⟨fun pins s σ H Q I q => let ⟨t, ht, q'⟩ := h σ H Q q; ht.run pins s σ H Q I q'⟩
theorem PI.imp {X : Cx} {tg e : Expr} {t t' : TI} (h : PI X tg e t) (i : ∀ σ H Q, t' σ H Q → t σ H Q) : PI X tg e t' := ⟨fun pins s σ H Q I q => h.run pins s σ H Q I (i σ H Q q)⟩
theorem PI.of {X : Cx} {tg e : Expr} {t' : TI} (h : ∀ σ H Q, t' σ H Q → ∃ t, PI X tg e t ∧ t σ H Q) : PI X tg e t' :=
  ⟨fun pins s σ H Q I q => let ⟨t, ht, q'⟩ := h σ H Q q; ht.run pins s σ H Q I q'⟩
theorem PG.of {X : Cx} {e : Expr} {t' : TG} (h : ∀ v σ H Q, t' v σ H Q → ∃ t, PG X e t ∧ t v σ H Q) : PG X e t' :=
  ⟨fun pins s σ H v u Q I r q => let ⟨t, ht, q'⟩ := h v σ H Q q; ht.run pins s σ H v u Q I r q'⟩

abbrev beOf : Hp → Al → Bool → Bool → Prop := fun _ _ a b => a = b
def TTv (g : G) (W : WX) (r : Run1 AV) : TT := fun σ H Q => ∃ al st e, Rel g al st H ∧ RS g.K H al e σ ∧ Post g beOf (tst (r e st)) al H Q (wOf g W σ)

section
variable {g : G} {m : MC} {X : Cx} {W : WX} {a b c : Expr} {ra rb rc : Run1 AV} {pos : Pos} {al al' : Al} {H H' : Hp} {st : Sto} {σ : L2.St} {e : Slots}

/-- a test, then what follows of it -/
theorem TTv.then {C D : Type} {RC : Hp → Al → C → D → Prop} {f : Slots → Bool → Sto → R C} {Q : D → Hp → Prop} (r : Rel g al st H) (rs : RS g.K H al e σ)
    (h : Post g RC ((tst (ra e st)).bind (f e)) al H Q (wOf g W σ)) :
    TTv g W ra σ H fun x H1 => ∃ al1 st1, Rel g al1 st1 H1 ∧ RS g.K H1 al1 e σ ∧ Post g RC (f e x st1) al1 H1 Q (wOf g W σ) ∧ Stp al H al1 H1 := by
  refine ⟨al, st, e, r, rs, ?_⟩
  have q := Post.bind (RA := beOf) h
  revert q
  generalize tst (ra e st) = x
  intro q
  cases x with
  | ok a st2 =>
    intro al' H' b s rel rv
    obtain ⟨al1, a1, st1, s1, rel1, rv1, p⟩ := q al' H' b s rel rv
    have e' : a1 = b := rv1
    subst e'
    exact ⟨al1, st1, rel1, rs.step r.notup s1, p, s1⟩
  | ex c st2 => exact q
  | no => exact q
theorem Post.imp {A B : Type} {RA : Hp → Al → A → B → Prop} {r : R A} {Q Q' : B → Hp → Prop} {W : Nat → Hp → Prop} (h : Post g RA r al H Q W) (i : ∀ b H, Q b H → Q' b H) : Post g RA r al H Q' W := by
  cases r with
  | ok a st => exact fun al' H' b s rel rv => i _ _ (h al' H' b s rel rv)
  | ex c st => exact h
  | no => exact h
/-- of a test: the value's -/
theorem tst_val {r : R AV} {Q : Bool → Hp → Prop} {W : Nat → Hp → Prop} (h : Post g beOf (tst r) al H Q W) : Post g (rvOf g) r al H (fun x H1 => ∃ c, x = .bl c ∧ Q c H1) W := by
  cases r with
  | ok v st =>
    cases v with
    | bl b =>
      intro al' H' x s rel rv
      exact ⟨b, rv, h al' H' b s rel rfl⟩
    | _ => exact h.elim
  | ex c st => exact h
  | no => exact h
theorem k_val (h : PE X a (TV g W ra)) (he : ∀ whole, isTrue a X.env whole = (do let v ← whole; standAt a.pos; holding [v] (truthy v))) : PT X a (TTv g W ra) := by
  refine PT.imp (pt_val h he) fun σ H Q q => ?_
  obtain ⟨al, st, e, rel, rs, p⟩ := q
  exact ⟨al, st, e, rel, rs, tst_val p⟩

/-! ### constants, names -/
theorem k_var {i : Nat} {x : Str} (h1 : slotB m i x = true) (h2 : visB X.env.scope x = true) (h3 : (x == ("__debug__" : Str)) = false) (h4 : (x == ("__classdict__" : Str)) = false) (hN : X.N = m.N) :
    PE X (.Name x pos) (TV g W fun e st => match e[i]? with | some (some v) => .ok v st | _ => .no) := by
  have hv : Vis X.env.scope x := by
    unfold visB at h2
    split at h2
    · rename_i z; exact .inl z
    · rename_i z; exact .inr (.inl z)
    · rename_i z; exact .inr (.inr z)
    · cases h2
  have hn : X.N[i]? = some x := by rw [hN]; exact of_decide_eq_true h1
  refine PE.imp (pe_var hn hv h3 h4) fun σ H Q q => ?_
  obtain ⟨al, st, e, rel, rs, p⟩ := q
  dsimp only at p
  split at p
  · rename_i v z
    obtain ⟨w, h5, h6⟩ := rs.at_ i v z
    exact ⟨w, h5, Post.same p rel h6⟩
  · exact p.elim
/-- the model's value of a constant -/
def conV : AV → Option V
  | .non => some .non
  | .bl b => some (.bl b)
  | .int i => some (.int i)
  | .str x => some (.str (T8 x))
  | _ => none
theorem conV_rv {K : PySem.W.Frag} {v : AV} {w : V} (h : conV v = some w) : RV K H al v w := by
  cases v <;> first
    | (cases h; rfl)
    | (cases h)
theorem k_con {v : AV} {c : Const} {k : Nat} (h : conB v c = true) : PE X (.Constant c k pos) (TV g W fun _ st => .ok v st) := by
  cases v with
  | non =>
    cases c with
    | none => exact PE.imp pe_non fun σ H Q ⟨al, st, e, rel, rs, p⟩ => Post.same p rel rfl
    | _ => cases h
  | bl b =>
    cases c with
    | bool d =>
      have e : b = d := by
        have h' : (b == d) = true := h
        exact beq_iff_eq.mp h'
      subst e
      exact PE.imp pe_bl fun σ H Q ⟨al, st, e, rel, rs, p⟩ => Post.same p rel rfl
    | _ => cases h
  | int i =>
    cases c with
    | int j =>
      have e : i = j := of_decide_eq_true h
      subst e
      exact PE.imp pe_int fun σ H Q ⟨al, st, e, rel, rs, p⟩ => Post.same p rel rfl
    | _ => cases h
  | str x =>
    cases c with
    | str y =>
      have e : y = T8 x := of_decide_eq_true h
      subst e
      exact PE.imp pe_str fun σ H Q ⟨al, st, e, rel, rs, p⟩ => Post.same p rel rfl
    | _ => cases h
  | _ => cases c <;> cases h
theorem glb_of {sc : Scope} {x : Str} (h : glb sc x = true) : sc.names.lookup x = some .globalImplicit ∧ (x == ("__debug__" : Str)) = false ∧ x ≠ "__name__" := by
  unfold glb at h
  simp only [Bool.and_eq_true, Bool.not_eq_true', decide_eq_true_eq] at h
  obtain ⟨⟨h1, h2⟩, h3⟩ := h
  refine ⟨?_, h2, h3⟩
  split at h1
  · assumption
  · cases h1
theorem k_kon {v : AV} {x : Str} {u : Value} {w : V} (h : glb X.env.scope x = true) (hm : X.mg x = some u) (hw : conV v = some w) (hr : RelV w u) : PE X (.Name x pos) (TV g W fun _ st => .ok v st) := by
  obtain ⟨h1, h2, h3⟩ := glb_of h
  exact PE.imp (pe_glob h1 hm hr h2) fun σ H Q ⟨al, st, e, rel, rs, p⟩ => Post.same p rel (conV_rv hw)

/-! ### operators -/
theorem opb {op : Bop} : OpR X (binaryOp (bopO op)) (R2A g (binA op)) := by
  rw [show bopO op = opOf op from by cases op <;> rfl]
  exact op_bin op
theorem opc {op : Cop} (hK : X.K = g.K) (hu : X.A.units + 65 < cLine) : OpR X (compareOp (copO op)) (R2A g (cmpA op)) := by
  rw [show copO op = copOf op from by cases op <;> rfl]
  exact op_cmpA hK hu op
theorem two {r : R2} {f : AV → AV → Sto → R AV} (hr : ∀ x y H Q, R2A g f x y H Q → r x y H Q) : ∀ σ H Q, TV g W (fun e st => (ra e st).bind fun x st => (rb e st).bind fun y st => f x y st) σ H Q → tOp r (TV g W ra) (TV g W rb) σ H Q := by
  intro σ H Q ⟨al, st, e, rel, rs, p⟩
  have q := TV.then (ra := ra) (f := fun e x st => (rb e st).bind fun y st => f x y st) rel rs p
  obtain ⟨al0, st0, e0, rel0, rs0, p0⟩ := q
  refine ⟨al0, st0, e0, rel0, rs0, Post.imp p0 fun x H1 ⟨al1, a1, st1, rel1, rs1, rv1, p1, s1⟩ => ?_⟩
  have q2 := TV.then (ra := rb) (f := fun _ y st => f a1 y st) rel1 rs1 p1
  obtain ⟨al2, st2, e2, rel2, rs2, p2⟩ := q2
  refine ⟨al2, st2, e2, rel2, rs2, Post.imp p2 fun y H2 ⟨al3, a3, st3, rel3, rs3, rv3, p3, s3⟩ => ?_⟩
  exact hr x y H2 Q ⟨al3, st3, a1, a3, _, rel3, RV.step rel1.notup s3 _ _ rv1, rv3, p3⟩
theorem k_bin {op : Bop} (ha : PE X a (TV g W ra)) (hb : PE X b (TV g W rb)) : PE X (.BinOp a (bopO op) b pos) (TV g W fun e st => (ra e st).bind fun x st => (rb e st).bind fun y st => binA op x y st) :=
  PE.imp (pe_op (op := bopO op) opb ha hb) (two fun _ _ _ _ h => h)
theorem noSetD_of {op : CmpOp} {b : Expr} (h : noSetD b = true) : behindInMarks op b = false := by
  cases b <;> first | rfl | (cases h)
theorem k_cmp {op : Cop} (hK : X.K = g.K) (hu : X.A.units + 65 < cLine) (h : noSetD b = true) (ha : PE X a (TV g W ra)) (hb : PE X b (TV g W rb)) : PE X (.Compare a [copO op] [b] pos) (TV g W fun e st => (ra e st).bind fun x st => (rb e st).bind fun y st => cmpA op x y st) :=
  PE.imp (pe_cmpR (op := copO op) (opc (op := op) hK hu) ha hb (noSetD_of h)) (two fun _ _ _ _ h => h)
theorem k_cmpT {op : Cop} (hK : X.K = g.K) (hu : X.A.units + 65 < cLine) (h : noSetD b = true) (ha : PE X a (TV g W ra)) (hb : PE X b (TV g W rb)) : PT X (.Compare a [copO op] [b] pos) (TTv g W fun e st => (ra e st).bind fun x st => (rb e st).bind fun y st => cmpA op x y st) := by
  refine PT.imp (pt_cmpR (op := copO op) (opc (op := op) hK hu) ha hb (noSetD_of h)) fun σ H Q q => ?_
  obtain ⟨al, st, e, rel, rs, p⟩ := q
  exact two (fun _ _ _ _ h => h) σ H _ ⟨al, st, e, rel, rs, tst_val p⟩
theorem chainR {o1 o2 : Cop} : ∀ σ H Q, TV g W (fun e st => (ra e st).bind fun x st => (rb e st).bind fun y st => (cmpA o1 x y st).bind fun k st => match k with
    | .bl true => (rc e st).bind fun z st => cmpA o2 y z st
    | .bl false => .ok (.bl false) st
    | _ => .no) σ H Q → tChain (R2A g (cmpA o1)) (R2A g (cmpA o2)) (TV g W ra) (TV g W rb) (TV g W rc) σ H Q := by
  intro σ H Q ⟨al, st, e, rel, rs, p⟩
  have q := TV.then (ra := ra) (f := fun e x st => (rb e st).bind fun y st => (cmpA o1 x y st).bind fun k st => match k with
    | .bl true => (rc e st).bind fun z st => cmpA o2 y z st
    | .bl false => .ok (.bl false) st
    | _ => .no) rel rs p
  obtain ⟨al0, st0, e0, rel0, rs0, p0⟩ := q
  refine ⟨al0, st0, e0, rel0, rs0, Post.imp p0 fun x H1 ⟨al1, a1, st1, rel1, rs1, rv1, p1, s1⟩ => ?_⟩
  have q2 := TV.then (ra := rb) (f := fun e y st => (cmpA o1 a1 y st).bind fun k st => match k with
    | .bl true => (rc e st).bind fun z st => cmpA o2 y z st
    | .bl false => .ok (.bl false) st
    | _ => .no) rel1 rs1 p1
  obtain ⟨al2, st2, e2, rel2, rs2, p2⟩ := q2
  refine ⟨al2, st2, e2, rel2, rs2, Post.imp p2 fun y H2 ⟨al3, a3, st3, rel3, rs3, rv3, p3, s3⟩ => ?_⟩
  refine ⟨al3, st3, a1, a3, _, rel3, RV.step rel1.notup s3 _ _ rv1, rv3, Post.imp (Post.bind (RA := rvOf g) p3) fun z H3 ⟨al4, a4, st4, s4, rel4, rv4, p4⟩ => ?_⟩
  cases a4 with
  | bl k =>
    refine ⟨k, rv4, ?_⟩
    cases k with
    | false =>
      rw [if_neg Bool.false_ne_true]
      exact Post.same p4 rel4 rfl
    | true =>
      rw [if_pos rfl]
      have q3 := TV.then (ra := rc) (f := fun _ z st => cmpA o2 a3 z st) rel4 (rs3.step rel3.notup s4) p4
      obtain ⟨al5, st5, e5, rel5, rs5, p5⟩ := q3
      refine ⟨al5, st5, e5, rel5, rs5, Post.imp p5 fun z' H4 ⟨al6, a6, st6, rel6, rs6, rv6, p6, s6⟩ => ?_⟩
      exact ⟨al6, st6, a3, a6, _, rel6, RV.step rel4.notup s6 _ _ (RV.step rel3.notup s4 _ _ rv3), rv6, p6⟩
  | _ => exact p4.elim
theorem lastM {o1 o2 : CmpOp} {b c : Expr} (h : noSetD c = true) : lastMarks [o1, o2] [b, c] = false := noSetD_of h
theorem k_chain {o1 o2 : Cop} (hK : X.K = g.K) (hu : X.A.units + 65 < cLine) (h : noSetD c = true) (ha : PE X a (TV g W ra)) (hb : PE X b (TV g W rb)) (hc : PE X c (TV g W rc)) : PE X (.Compare a [copO o1, copO o2] [b, c] pos) (TV g W fun e st => (ra e st).bind fun x st => (rb e st).bind fun y st => (cmpA o1 x y st).bind fun k st => match k with
    | .bl true => (rc e st).bind fun z st => cmpA o2 y z st
    | .bl false => .ok (.bl false) st
    | _ => .no) :=
  PE.imp (pe_chain (op := copO o1) (op' := copO o2) (opc (op := o1) hK hu) (opc (op := o2) hK hu) ha hb hc (lastM h)) chainR
theorem k_chainT {o1 o2 : Cop} (hK : X.K = g.K) (hu : X.A.units + 65 < cLine) (h : noSetD c = true) (ha : PE X a (TV g W ra)) (hb : PE X b (TV g W rb)) (hc : PE X c (TV g W rc)) : PT X (.Compare a [copO o1, copO o2] [b, c] pos) (TTv g W fun e st => (ra e st).bind fun x st => (rb e st).bind fun y st => (cmpA o1 x y st).bind fun k st => match k with
    | .bl true => (rc e st).bind fun z st => cmpA o2 y z st
    | .bl false => .ok (.bl false) st
    | _ => .no) := by
  refine PT.imp (pt_chain (op := copO o1) (op' := copO o2) (opc (op := o1) hK hu) (opc (op := o2) hK hu) ha hb hc (lastM h)) fun σ H Q q => ?_
  obtain ⟨al, st, e, rel, rs, p⟩ := q
  exact chainR σ H _ ⟨al, st, e, rel, rs, tst_val p⟩
theorem k_neg (ha : PE X a (TV g W ra)) : PE X (.UnaryOp .USub a pos) (TV g W fun e st => (ra e st).bind negA) := by
  refine PE.imp (pe_un un_neg ha) fun σ H Q ⟨al, st, e, rel, rs, p⟩ => ?_
  obtain ⟨al0, st0, e0, rel0, rs0, p0⟩ := TV.then (ra := ra) (f := fun _ => negA) rel rs p
  refine ⟨al0, st0, e0, rel0, rs0, Post.imp p0 fun x H1 ⟨al1, a1, st1, rel1, rs1, rv1, p1, s1⟩ => ?_⟩
  cases a1 with
  | int i => exact ⟨i, rv1, Post.same (v := .int (-i)) p1 rel1 rfl⟩
  | _ => exact p1.elim
theorem k_not (ha : PE X a (TV g W ra)) : PE X (.UnaryOp .Not a pos) (TV g W fun e st => (ra e st).bind notA) := by
  refine PE.imp (pe_not ha) fun σ H Q ⟨al, st, e, rel, rs, p⟩ => ?_
  obtain ⟨al0, st0, e0, rel0, rs0, p0⟩ := TV.then (ra := ra) (f := fun _ => notA) rel rs p
  refine ⟨al0, st0, e0, rel0, rs0, Post.imp p0 fun x H1 ⟨al1, a1, st1, rel1, rs1, rv1, p1, s1⟩ => ?_⟩
  cases a1 with
  | bl i => exact ⟨i, rv1, Post.same (v := .bl (!i)) p1 rel1 rfl⟩
  | _ => exact p1.elim
theorem tst_not (r : R AV) : tst (r.bind notA) = (tst r).bind fun b st => .ok (!b) st := by
  cases r with
  | ok v st => cases v <;> rfl
  | ex c st => rfl
  | no => rfl
theorem k_notT (ha : PT X a (TTv g W ra)) : PT X (.UnaryOp .Not a pos) (TTv g W fun e st => (ra e st).bind notA) := by
  refine PT.imp (pt_not ha) fun σ H Q ⟨al, st, e, rel, rs, p⟩ => ?_
  rw [tst_not] at p
  obtain ⟨al0, st0, e0, rel0, rs0, p0⟩ := TTv.then (ra := ra) (f := fun _ b st => .ok (!b) st) rel rs p
  refine ⟨al0, st0, e0, rel0, rs0, Post.imp p0 fun x H1 ⟨al1, st1, rel1, rs1, p1, s1⟩ => ?_⟩
  exact Post.ok p1 rel1 rfl
end
end L3

/-! Snd6: lists of expressions, calls, methods, fields, subscripts. -/
namespace L3
open PySem PySem.Spec PyProof.Rows L2

section
variable {g : G} {m : MC} {X : Cx} {W : WX} {a b c : Expr} {ra rb rc : Run1 AV} {pos : Pos} {al al' : Al} {H H' : Hp} {st : Sto} {σ : L2.St} {e : Slots}
/-! ### and, or -/
def andR (ra rb : Run1 AV) : Run1 AV := fun e st => (ra e st).bind fun x st => match x with
    | .bl true => rb e st
    | .bl false => .ok (.bl false) st
    | _ => .no
def orR (ra rb : Run1 AV) : Run1 AV := fun e st => (ra e st).bind fun x st => match x with
    | .bl true => .ok (.bl true) st
    | .bl false => rb e st
    | _ => .no
theorem tst_and (e : Slots) (st : Sto) : tst (andR ra rb e st) = (tst (ra e st)).bind fun b st => if b = true then tst (rb e st) else .ok false st := by
  unfold andR
  cases ra e st with
  | ok v st =>
    cases v with
    | bl b => cases b <;> rfl
    | _ => rfl
  | ex c st => rfl
  | no => rfl
theorem tst_or (e : Slots) (st : Sto) : tst (orR ra rb e st) = (tst (ra e st)).bind fun b st => if b = true then .ok true st else tst (rb e st) := by
  unfold orR
  cases ra e st with
  | ok v st =>
    cases v with
    | bl b => cases b <;> rfl
    | _ => rfl
  | ex c st => rfl
  | no => rfl
theorem k_andV {rest : List Expr} (ha : PE X a (TV g W ra)) (hb : PE X (.BoolOp .And (b :: rest) pos) (TV g W rb)) : PE X (.BoolOp .And (a :: b :: rest) pos) (TV g W (andR ra rb)) := by
  refine PE.imp (pe_and ha hb) fun σ H Q ⟨al, st, e, rel, rs, p⟩ => ?_
  obtain ⟨al0, st0, e0, rel0, rs0, p0⟩ := TV.then (ra := ra) (f := fun e x st => match x with
    | .bl true => rb e st
    | .bl false => .ok (.bl false) st
    | _ => .no) rel rs p
  refine ⟨al0, st0, e0, rel0, rs0, Post.imp p0 fun x H1 ⟨al1, a1, st1, rel1, rs1, rv1, p1, s1⟩ => ?_⟩
  cases a1 with
  | bl k =>
    refine ⟨k, rv1, ?_⟩
    cases k with
    | false => rw [if_neg Bool.false_ne_true]; exact Post.same p1 rel1 rfl
    | true => rw [if_pos rfl]; exact ⟨al1, st1, _, rel1, rs1, p1⟩
  | _ => exact p1.elim
theorem k_orV {rest : List Expr} (ha : PE X a (TV g W ra)) (hb : PE X (.BoolOp .Or (b :: rest) pos) (TV g W rb)) : PE X (.BoolOp .Or (a :: b :: rest) pos) (TV g W (orR ra rb)) := by
  refine PE.imp (pe_or ha hb) fun σ H Q ⟨al, st, e, rel, rs, p⟩ => ?_
  obtain ⟨al0, st0, e0, rel0, rs0, p0⟩ := TV.then (ra := ra) (f := fun e x st => match x with
    | .bl true => .ok (.bl true) st
    | .bl false => rb e st
    | _ => .no) rel rs p
  refine ⟨al0, st0, e0, rel0, rs0, Post.imp p0 fun x H1 ⟨al1, a1, st1, rel1, rs1, rv1, p1, s1⟩ => ?_⟩
  cases a1 with
  | bl k =>
    refine ⟨k, rv1, ?_⟩
    cases k with
    | true => rw [if_pos rfl]; exact Post.same p1 rel1 rfl
    | false => rw [if_neg Bool.false_ne_true]; exact ⟨al1, st1, _, rel1, rs1, p1⟩
  | _ => exact p1.elim
theorem PW.imp {X : Cx} {e : Expr} {t t' : TT} (h : PW X e t) (i : ∀ σ H Q, t' σ H Q → t σ H Q) : PW X e t' := ⟨fun wh pins s σ H Q I q => h.run wh pins s σ H Q I (i σ H Q q)⟩
theorem k_andW {rest : List Expr} (ha : PT X a (TTv g W ra)) (hb : PW X (.BoolOp .And (b :: rest) pos) (TTv g W rb)) : PW X (.BoolOp .And (a :: b :: rest) pos) (TTv g W (andR ra rb)) := by
  refine PW.imp (pw_and ha hb) fun σ H Q ⟨al, st, e, rel, rs, p⟩ => ?_
  rw [tst_and] at p
  obtain ⟨al0, st0, e0, rel0, rs0, p0⟩ := TTv.then (ra := ra) (f := fun e b st => if b = true then tst (rb e st) else .ok false st) rel rs p
  refine ⟨al0, st0, e0, rel0, rs0, Post.imp p0 fun k H1 ⟨al1, st1, rel1, rs1, p1, s1⟩ => ?_⟩
  cases k with
  | false => rw [if_neg Bool.false_ne_true] at p1 ⊢; exact Post.ok p1 rel1 rfl
  | true => rw [if_pos rfl] at p1 ⊢; exact ⟨al1, st1, _, rel1, rs1, p1⟩
theorem k_orW {rest : List Expr} (ha : PT X a (TTv g W ra)) (hb : PW X (.BoolOp .Or (b :: rest) pos) (TTv g W rb)) : PW X (.BoolOp .Or (a :: b :: rest) pos) (TTv g W (orR ra rb)) := by
  refine PW.imp (pw_or ha hb) fun σ H Q ⟨al, st, e, rel, rs, p⟩ => ?_
  rw [tst_or] at p
  obtain ⟨al0, st0, e0, rel0, rs0, p0⟩ := TTv.then (ra := ra) (f := fun e b st => if b = true then .ok true st else tst (rb e st)) rel rs p
  refine ⟨al0, st0, e0, rel0, rs0, Post.imp p0 fun k H1 ⟨al1, st1, rel1, rs1, p1, s1⟩ => ?_⟩
  cases k with
  | true => rw [if_pos rfl] at p1 ⊢; exact Post.ok p1 rel1 rfl
  | false => rw [if_neg Bool.false_ne_true] at p1 ⊢; exact ⟨al1, st1, _, rel1, rs1, p1⟩
/-- the last of an and: only its truth value -/
theorem and_nil (e : Slots) (st : Sto) {Q : V → Hp → Prop} {W : Nat → Hp → Prop} (h : Post g (rvOf g) (andR ra (fun _ st => .ok (.bl true) st) e st) al H Q W) : Post g (rvOf g) (ra e st) al H Q W := by
  unfold andR at h
  cases q : ra e st with
  | ok v st2 =>
    rw [q] at h
    cases v with
    | bl b => cases b <;> exact h
    | _ => exact h.elim
  | ex c st2 => rw [q] at h; exact h
  | no => rw [q] at h; exact h
theorem or_nil (e : Slots) (st : Sto) {Q : V → Hp → Prop} {W : Nat → Hp → Prop} (h : Post g (rvOf g) (orR ra (fun _ st => .ok (.bl false) st) e st) al H Q W) : Post g (rvOf g) (ra e st) al H Q W := by
  unfold orR at h
  cases q : ra e st with
  | ok v st2 =>
    rw [q] at h
    cases v with
    | bl b => cases b <;> exact h
    | _ => exact h.elim
  | ex c st2 => rw [q] at h; exact h
  | no => rw [q] at h; exact h
theorem and_nilT (e : Slots) (st : Sto) : tst (andR ra (fun _ st => .ok (.bl true) st) e st) = tst (ra e st) := by
  unfold andR
  cases ra e st with
  | ok v st =>
    cases v with
    | bl b => cases b <;> rfl
    | _ => rfl
  | ex c st => rfl
  | no => rfl
theorem or_nilT (e : Slots) (st : Sto) : tst (orR ra (fun _ st => .ok (.bl false) st) e st) = tst (ra e st) := by
  unfold orR
  cases ra e st with
  | ok v st =>
    cases v with
    | bl b => cases b <;> rfl
    | _ => rfl
  | ex c st => rfl
  | no => rfl

/-! ### lists of expressions -/
theorem star_of {x : Expr} {es : List Expr} {env : Env} (h : noStar x = true) : starEach (x :: es) env = (false, eval x env) :: starEach es env := by
  cases x <;> first | rfl | (cases h)
theorem stars_of {env : Env} {pos : Pos} : ∀ {es : List Expr}, es.all noStar = true → (backTo pos (starEach es env)).all (fun x => !x.1) = true
  | [], _ => by rfl
  | x :: es, h => by
    rw [List.all_cons, Bool.and_eq_true] at h
    have ih := stars_of (env := env) (pos := pos) h.2
    rw [star_of h.1]
    unfold backTo at ih ⊢
    simp only [List.map_cons, List.all_cons] at ih ⊢
    simpa using ih
theorem any_of_all {α : Type} {l : List (Bool × α)} (h : l.all (fun x => !x.1) = true) : l.any (·.1) = false := by
  induction l with
  | nil => rfl
  | cons x l ih =>
    rw [List.all_cons, Bool.and_eq_true] at h
    rw [List.any_cons, ih h.2]
    have := h.1
    simpa using this
theorem k_nil : PA X [] (TVs g W fun _ st => .ok [] st) := by
  refine PA.imp pa_nil fun σ H Q ⟨al, st, e, rel, rs, p⟩ => ?_
  exact Post.ok (RA := rvsOf g) p rel rfl
theorem k_cons {es : List Expr} {rr : Run1 (List AV)} (hs : noStar a = true) (ha : PE X a (TV g W ra)) (hr : PA X es (TVs g W rr)) : PA X (a :: es) (TVs g W fun e st => (ra e st).bind fun x st => (rr e st).bind fun xs st => .ok (x :: xs) st) := by
  refine PA.imp (pa_cons ha hr (star_of hs)) fun σ H Q ⟨al, st, e, rel, rs, p⟩ => ?_
  obtain ⟨al0, st0, e0, rel0, rs0, p0⟩ := TV.then (ra := ra) (f := fun e x st => (rr e st).bind fun xs st => .ok (x :: xs) st) rel rs p
  refine ⟨al0, st0, e0, rel0, rs0, Post.imp p0 fun x H1 ⟨al1, a1, st1, rel1, rs1, rv1, p1, s1⟩ => ?_⟩
  obtain ⟨al2, st2, e2, rel2, rs2, p2⟩ := TVs.then (ra := rr) (f := fun e xs st => .ok (a1 :: xs) st) rel1 rs1 p1
  refine ⟨al2, st2, e2, rel2, rs2, Post.imp p2 fun xs H2 ⟨al3, a3, st3, rel3, rs3, rv3, p3, s3⟩ => ?_⟩
  exact Post.ok (RA := rvsOf g) p3 rel3 ⟨x, xs, rfl, RV.step rel1.notup s3 _ _ rv1, rv3⟩
variable {es : List Expr} {rr : Run1 (List AV)}
theorem k_lst (h : PA X es (TVs g W rr)) : PE X (.List es pos) (TV g W fun e st => (rr e st).bind fun xs st => if xs.length ≤ lim then alloc (.lst xs) st else .no) := by
  refine PE.imp (pe_lst h) fun σ H Q ⟨al, st, e, rel, rs, p⟩ => ?_
  obtain ⟨al0, st0, e0, rel0, rs0, p0⟩ := TVs.then (ra := rr) (f := fun e xs st => if xs.length ≤ lim then alloc (.lst xs) st else .no) rel rs p
  refine ⟨al0, st0, e0, rel0, rs0, Post.imp p0 fun xs H1 ⟨al1, a1, st1, rel1, rs1, rv1, p1, s1⟩ => ?_⟩
  by_cases hl : a1.length ≤ lim
  · rw [if_pos hl] at p1
    exact ⟨by rw [← rv1.length, sizeLine_eq]; exact hl, fun q hq => Post.newL p1 rel1 rv1 hq⟩
  · rw [if_neg hl] at p1
    exact p1.elim
theorem k_tup {k : Nat} (h : PA X es (TVs g W rr)) : PE X (.Tuple es k pos) (TV g W fun e st => (rr e st).bind tupA) := by
  refine PE.imp (pe_tup h) fun σ H Q ⟨al, st, e, rel, rs, p⟩ => ?_
  obtain ⟨al0, st0, e0, rel0, rs0, p0⟩ := TVs.then (ra := rr) (f := fun e => tupA) rel rs p
  refine ⟨al0, st0, e0, rel0, rs0, Post.imp p0 fun xs H1 ⟨al1, a1, st1, rel1, rs1, rv1, p1, s1⟩ => ?_⟩
  unfold tupA at p1
  by_cases hl : a1.length ≤ lim
  · rw [if_pos hl] at p1
    exact ⟨by rw [← rv1.length, sizeLine_eq]; exact hl, fun q hq => Post.newT p1 rel1 rv1 hq⟩
  · rw [if_neg hl] at p1
    exact p1.elim
theorem k_dnew {t : Bool} : PE X (.Dict [] [] pos) (TV g W fun _ st => alloc (if t then .dT [] else .dK []) st) := by
  cases t with
  | false =>
    refine PE.imp pe_dnewK fun σ H Q ⟨al, st, e, rel, rs, p⟩ q hq => ?_
    exact Post.mkNew (ho := .dK []) p rel hq ⟨[], upd_same, rfl⟩
  | true =>
    refine PE.imp pe_dnewT fun σ H Q ⟨al, st, e, rel, rs, p⟩ q hq => ?_
    exact Post.mkNew (ho := .dT []) p rel hq ⟨[], upd_same, rfl⟩

/-! ### calls -/
/-- what a def of the program promises: what the machine reckons -/
def SpD (g : G) (np : Nat) (f : List AV → Sto → R AV) : Sp := fun vs H Q E => vs.length = np ∧ ∃ al st as, Rel g al st H ∧ RVs g.K H al as vs ∧ Post g (rvOf g) (f as st) al H Q fun c H' => E (.ref (g.clsA c)) none H'
structure DefOk (g : G) (n : Nat) (x : Str) (f : List AV → Sto → R AV) : Prop where
  ex : ∃ (a : Addr) (fd : FuncData) (ps : List Str), g.mg x = some (.ref a) ∧ PySem.W.keepIn g.K (.ref a) = true ∧ Binds g.K fd ps [] ∧ FnOk g.P g.w g.K g.mg g.base (L2.CX g.P g.w) n a fd ps (SpD g ps.length f) ∧ ∀ as st, as.length ≠ ps.length → f as st = .no
structure Same4 (g : G) (X : Cx) : Prop where
  P : X.prog = g.P
  w : X.w = g.w
  K : X.K = g.K
  mg : X.mg = g.mg
  base : X.base = g.base
theorem spd_of {np : Nat} {f : List AV → Sto → R AV} {vs : List V} {as : List AV} {Q : VK} {σ : L2.St} (rel : Rel g al st H) (rv : RVs g.K H al as vs) (hn : ∀ as st, as.length ≠ np → f as st = .no) (p : Post g (rvOf g) (f as st) al H Q (wOf g W σ)) :
    SpD g np f vs H Q fun c d H' => W c d σ H' := by
  by_cases h : as.length = np
  · exact ⟨by rw [← rv.length]; exact h, al, st, as, rel, rv, p⟩
  · rw [hn as st h] at p
    exact p.elim
/-- a wish that hangs on the slots: at each set of slots for itself -/
theorem PE.slots {e : Expr} {t : TE} (h : ∀ σ, ∃ t', PE X e t' ∧ ∀ H Q, t σ H Q → t' σ H Q) : PE X e t :=
  ⟨fun pins s σ H Q I q => let ⟨_, ht, i⟩ := h σ; ht.run pins s σ H Q I (i H Q q)⟩
theorem base_of {o : Expr} {n : Str} {env : Env} {w : Sem Value} (h : noSuper o = true) : attributeBase o n env w = w := by
  unfold attributeBase
  split
  · rename_i id p pos
    have h' : id ≠ ("super" : Str) := of_decide_eq_true h
    have e : (id != ("super" : Str)) = true := by simpa using h'
    simp only [e, Bool.true_or, if_true]
  · rfl
theorem few_of {vs : List Expr} {env : Env} {pos : Pos} (h : vs.all noStar = true) (h2 : vs.length < 25) : methodCallForm (vs.length + ([] : List Keyword).length) (backTo pos (starEach vs env)) (backToKw pos (keywordEach [] env)) = true := by
  unfold methodCallForm
  have h1 := stars_of (env := env) (pos := pos) h
  rw [h1]
  have h3 : (backToKw pos (keywordEach [] env)) = [] := rfl
  rw [h3]
  simp
  omega
theorem meth_eq {o : Expr} {n : Str} {env : Env} {vs : List Expr} {apos pos : Pos} (h0 : noSuper o = true) (h : vs.all noStar = true) (h2 : vs.length < 25) (h3 : (apos.endLine == pos.line) = true) :
    eval (.Call (.Attribute o n apos) vs [] pos) env = (do
      let ov ← eval o env
      standAt apos.atName
      let (f, first) ← holding [ov] (getMethod ov n (do return (← importBound o env).getD true))
      callWith pos f first (backTo pos (starEach vs env)) (backToKw pos (keywordEach [] env))) := by
  show (do
    let ov ← attributeBase o n env (eval o env)
    standAt apos.atName
    methodCall o n apos pos env ov (vs.length + ([] : List Keyword).length) (backTo pos (starEach vs env)) (backToKw pos (keywordEach [] env))) = _
  rw [base_of h0]
  unfold methodCall calleeOf methodCallPos
  rw [few_of h h2, h3]
  rfl

/-! ### calls, with what is raised wished for at the slots as they stand -/
theorem spd_run {np : Nat} {f : List AV → Sto → R AV} (hno : ∀ as st, as.length ≠ np → f as st = .no) {Q : VK} {vs : List V} {as : List AV} (rel : Rel g al st H) (rv : RVs g.K H al as vs) (p : Post g (rvOf g) (f as st) al H Q (wOf g W σ)) :
    SpD g np f vs H Q (WE W σ) := spd_of rel rv hno p
theorem k_call {n : Nat} {x : Str} {p : Pos} {f : List AV → Sto → R AV} (S : Same4 g X) (hr : Room n X.A) (tk : Takes X W) (hg : glb X.env.scope x = true) (D : DefOk g n x f) (hs : (a :: es).all noStar = true) (h : PA X (a :: es) (TVs g W rr)) :
    PE X (.Call (.Name x p) (a :: es) [] pos) (TV g W fun e st => (rr e st).bind fun xs st => f xs st) := by
  obtain ⟨fa, fd, ps, hm, hk, hb, F, hno⟩ := D.ex
  obtain ⟨h1, h2, h3⟩ := glb_of hg
  rw [← S.P, ← S.w, ← S.K, ← S.mg, ← S.base] at F
  rw [← S.K] at hk hb
  rw [← S.mg] at hm
  rw [List.all_cons, Bool.and_eq_true] at hs
  refine PE.imp (pe_callS (E := WE W) F hr h1 hm hk hb (fun σ => passAt tk σ) h h2 (star_of hs.1) (any_of_all (stars_of hs.2))) fun σ H Q ⟨al, st, e, rel, rs, pp⟩ => ?_
  obtain ⟨al0, st0, e0, rel0, rs0, p0⟩ := TVs.then (ra := rr) (f := fun _ xs st => f xs st) rel rs pp
  exact ⟨al0, st0, e0, rel0, rs0, Post.imp p0 fun vs H1 ⟨al1, a1, st1, rel1, rs1, rv1, p1, s1⟩ => spd_run hno rel1 rv1 p1⟩
theorem k_call0 {n : Nat} {x : Str} {p : Pos} {f : List AV → Sto → R AV} (S : Same4 g X) (hr : Room n X.A) (tk : Takes X W) (hg : glb X.env.scope x = true) (D : DefOk g n x f) :
    PE X (.Call (.Name x p) [] [] pos) (TV g W fun _ st => f [] st) := by
  obtain ⟨fa, fd, ps, hm, hk, hb, F, hno⟩ := D.ex
  obtain ⟨h1, h2, h3⟩ := glb_of hg
  rw [← S.P, ← S.w, ← S.K, ← S.mg, ← S.base] at F
  rw [← S.K] at hk hb
  rw [← S.mg] at hm
  refine ⟨fun pins s σ H Q I ⟨al, st, e, rel, rs, pp⟩ => ?_⟩
  exact wpAny_Call_Name_kw (ld_glob I h1 hm (PySem.W.callWith_K0 I.kIn hk (run_fnS (E := WE W) (us := []) (vs := []) F hr hb (passAt tk σ) I .nil (spd_run (as := []) hno rel rfl pp))) h2)

/-- an instance of a class, made -/
structure ClsOk (g : G) (n : Nat) (x : Str) (c : Nat) (f : List AV → Sto → R AV) : Prop where
  ex : ∃ (a : Addr) (fd : FuncData) (ps : List Str), g.mg x = some (.ref (g.clsA c)) ∧ Mk g.K (g.clsA c) a ∧ Binds g.K fd ps [] ∧ FnOk g.P g.w g.K g.mg g.base (L2.CX g.P g.w) n a fd ps (SpD g ps.length f) ∧ ∀ as st, as.length ≠ ps.length → f as st = .no
/-- two new addresses: the instance's own dict, the instance -/
theorem stp_mk {x dx : Addr} {c : Nat} (r : Rel g al st H) (hx : H x = none) (hd : H dx = none) (ne : dx ≠ x) :
    Stp al H (alUp al st.length x) (upd (upd H dx (.own x)) x (.ins (g.clsA c) dx [])) ∧ Rel g (alUp al st.length x) (st ++ [.ins c []]) (upd (upd H dx (.own x)) x (.ins (g.clsA c) dx [])) := by
  have r1 := rel_free (o := .own x) r hd
  have s1 : Stp al H al (upd H dx (.own x)) := stp_free hd
  have hx1 : upd H dx (.own x) x = none := by rw [upd_ne (Ne.symm ne)]; exact hx
  have hq := r1.free hx1
  refine ⟨s1.trans (stp_new r1 hx1 hq), rel_new r1 hx1 hq ⟨dx, [], upd_same, rfl⟩⟩
theorem run_new {C fi : Addr} {k : Nat} {fd : FuncData} {ps : List Str} {sp : Sp} {E : L2.St → XK} {pins : List (Addr × Obj)} {s : Shared} {Q : VK} {us : List Value} {vs : List V} (M : Mk X.K C fi) (F : FnOk X.prog X.w X.K X.mg X.base (L2.CX X.prog X.w) k fi fd ps sp)
    (hr : Room (k + 1) X.A) (hb : Binds X.K fd ps []) (hx : PassesAt (L2.CX X.prog X.w) X σ (E σ)) (I : Inv X pins σ H s) (r : Vals vs us)
    (h : ∀ x dx, H x = none → H dx = none → dx ≠ x → sp (.ref x :: vs) (upd (upd H dx (.own x)) x (.ins C dx [])) (fun v H2 => v = .non ∧ Q (.ref x) H2) (E σ)) :
    wpAny (model X.prog X.w) X.A (call (.ref C) us) (EP X pins σ Q) X.xe s := by
  have free1 : H (s.heap.objs.size + 1) = none := I.hok.fresh (Nat.le_succ _)
  have free2 : H s.heap.objs.size = none := I.hok.fresh (Nat.le_refl _)
  have want := h _ _ free1 free2 (Nat.ne_of_lt (Nat.lt_succ_self _))
  have J := Inv.made (C := C) I
  have rr : Vals (V.ref (s.heap.objs.size + 1) :: vs) (Value.ref (s.heap.objs.size + 1) :: us) := .cons rfl r
  have hl : (Value.ref (s.heap.objs.size + 1) :: us).length = ps.length := by
    rw [← rr.length]
    exact F.len _ _ _ _ want
  have bd := hb _ (Value.ref (s.heap.objs.size + 1) :: us) J.kIn (by rw [List.append_nil]; exact hl)
  rw [List.append_nil] at bd
  have go := F.run _ X.stack _ _ ⟨Value.ref (s.heap.objs.size + 1) :: us, []⟩ _ _ _ _ (hr.make C us []) (J.env0.make C us []) bd rr want
  refine wpAny_call (make_map (f := fi) I.kIn M.makes M.init (beq_iff_eq.mp M.fn) (codeAny_mono go fun res s2 out => ?_))
  cases res with
  | error ex => exact hx pins _ _ ex s2 J out
  | ok fl =>
    cases fl with
    | ret u =>
      obtain ⟨v, H2, J2, rv, ev, q⟩ := J.after out
      subst ev
      exact ⟨rv, V.ref (s.heap.objs.size + 1), H2, J2, rfl, q⟩
    | next => exact out.elim
    | brk => exact out.elim
    | cont => exact out.elim
def mkF (f : List AV → Sto → R AV) (c : Nat) (xs : List AV) (st : Sto) : R AV :=
  (f (.ref st.length :: xs) (st ++ [.ins c []])).bind fun v st' => if v = .non then .ok (.ref st.length) st' else .no
theorem mk_run {np c : Nat} {f : List AV → Sto → R AV} {Q : VK} {vs : List V} {as : List AV} (hno : ∀ as st, as.length ≠ np → f as st = .no) (rel : Rel g al st H) (rv : RVs g.K H al as vs) (p : Post g (rvOf g) (mkF f c as st) al H Q (wOf g W σ)) :
    ∀ x dx, H x = none → H dx = none → dx ≠ x → SpD g np f (.ref x :: vs) (upd (upd H dx (.own x)) x (.ins (g.clsA c) dx [])) (fun v H2 => v = .non ∧ Q (.ref x) H2) (WE W σ) := by
  intro x dx hx hd ne
  obtain ⟨s1, r1⟩ := stp_mk (c := c) rel hx hd ne
  have ax : alUp al st.length x st.length = some x := by unfold alUp; rw [if_pos rfl]
  refine spd_run (as := .ref st.length :: as) hno r1 ⟨_, _, rfl, ⟨x, ax, rfl⟩, RVs.step rel.notup s1 _ _ rv⟩ ?_
  unfold mkF at p
  revert p
  generalize f (.ref st.length :: as) (st ++ [.ins c []]) = y
  intro p
  cases y with
  | ok v st2 =>
    intro al2 H2 w s2 rel2 rv2
    have p : Post g (rvOf g) (if v = .non then .ok (.ref st.length) st2 else .no) al H Q (wOf g W σ) := p
    by_cases hv : v = .non
    · rw [if_pos hv] at p
      subst hv
      exact ⟨rv2, p al2 H2 _ (s1.trans s2) rel2 ⟨x, s2.up _ _ ax, rfl⟩⟩
    · rw [if_neg hv] at p
      exact p.elim
  | ex d st2 => exact fun al2 H2 s2 rel2 => p al2 H2 (s1.trans s2) rel2
  | no => exact p.elim
theorem k_mk {n c : Nat} {x : Str} {p : Pos} {f : List AV → Sto → R AV} (S : Same4 g X) (hr : Room (n + 1) X.A) (tk : Takes X W) (hg : glb X.env.scope x = true) (D : ClsOk g n x c f) (hs : (a :: es).all noStar = true) (h : PA X (a :: es) (TVs g W rr)) :
    PE X (.Call (.Name x p) (a :: es) [] pos) (TV g W fun e st => (rr e st).bind fun xs st => mkF f c xs st) := by
  obtain ⟨fa, fd, ps, hm, M, hb, F, hno⟩ := D.ex
  obtain ⟨h1, h2, h3⟩ := glb_of hg
  rw [← S.P, ← S.w, ← S.K, ← S.mg, ← S.base] at F
  rw [← S.K] at M hb
  rw [← S.mg] at hm
  rw [List.all_cons, Bool.and_eq_true] at hs
  refine ⟨fun pins s σ H Q I ⟨al, st, e, rel, rs, pp⟩ => ?_⟩
  refine wpAny_Call_Name_kw (ld_glob I h1 hm ?_ h2)
  have q := TVs.then (ra := rr) (f := fun _ xs st => mkF f c xs st) rel rs pp
  refine PySem.W.callWith_K (h₀ := X.base) I.ok.mod.kin M.kp (thn (h.run pos pins s σ H _ I q) fun us s1 ⟨vs, H1, I1, rv, al1, as, st1, rel1, rs1, rv1, p1, _⟩ => ⟨I1.kIn, ?_⟩) (star_of hs.1) (any_of_all (stars_of hs.2))
  exact run_new (E := WE W) M F hr hb (passAt tk σ) I1 rv (mk_run hno rel1 rv1 p1)
theorem k_mk0 {n c : Nat} {x : Str} {p : Pos} {f : List AV → Sto → R AV} (S : Same4 g X) (hr : Room (n + 1) X.A) (tk : Takes X W) (hg : glb X.env.scope x = true) (D : ClsOk g n x c f) :
    PE X (.Call (.Name x p) [] [] pos) (TV g W fun _ st => mkF f c [] st) := by
  obtain ⟨fa, fd, ps, hm, M, hb, F, hno⟩ := D.ex
  obtain ⟨h1, h2, h3⟩ := glb_of hg
  rw [← S.P, ← S.w, ← S.K, ← S.mg, ← S.base] at F
  rw [← S.K] at M hb
  rw [← S.mg] at hm
  refine ⟨fun pins s σ H Q I ⟨al, st, e, rel, rs, pp⟩ => ?_⟩
  exact wpAny_Call_Name_kw (ld_glob I h1 hm (PySem.W.callWith_K0 I.kIn M.kp (run_new (E := WE W) (us := []) (vs := []) M F hr hb (passAt tk σ) I .nil (mk_run (as := []) hno rel rfl pp))) h2)

/-! ### methods -/
structure MetOk (g : G) (n : Nat) (c : Nat) (k : Nat) (f : List AV → Sto → R AV) : Prop where
  ex : ∃ (a : Addr) (fd : FuncData) (ps : List Str), Cls g.K (g.clsA c) ∧ Meth g.K (g.clsA c) (g.nm k) a ∧ Binds g.K fd ps [] ∧ FnOk g.P g.w g.K g.mg g.base (L2.CX g.P g.w) n a fd ps (SpD g ps.length f) ∧ ∀ as st, as.length ≠ ps.length → f as st = .no
theorem rf_look {k : Nat} : ∀ {fs : List (Nat × AV)} {ws : List (Str × V)}, RF g H al fs ws → fs.lookup k = none → ws.lookup (g.nm k) = none
  | [], ws, h, _ => by
    obtain rfl : ws = [] := h
    rfl
  | x :: fs, ws, ⟨w, r, e1, h1, h2⟩, e => by
    subst e1
    obtain ⟨x1, x2⟩ := x
    by_cases z : k = x1
    · subst z
      rw [List.lookup_cons, beq_self_eq_true] at e
      cases e
    · have zb : (k == x1) = false := beq_eq_false_iff_ne.mpr z
      rw [List.lookup_cons, zb] at e
      have zn : (g.nm k == g.nm x1) = false := beq_eq_false_iff_ne.mpr fun q => z (g.nmInj _ _ q)
      rw [List.lookup_cons, zn]
      exact rf_look h2 e
theorem rf_get {k : Nat} {v : AV} : ∀ {fs : List (Nat × AV)} {ws : List (Str × V)}, RF g H al fs ws → fs.lookup k = some v → ∃ w, ws.lookup (g.nm k) = some w ∧ RV g.K H al v w
  | [], ws, h, e => by cases e
  | x :: fs, ws, ⟨w, r, e1, h1, h2⟩, e => by
    subst e1
    obtain ⟨x1, x2⟩ := x
    by_cases z : k = x1
    · subst z
      rw [List.lookup_cons, beq_self_eq_true] at e
      cases e
      exact ⟨w, by rw [List.lookup_cons, beq_self_eq_true], h1⟩
    · have zb : (k == x1) = false := beq_eq_false_iff_ne.mpr z
      rw [List.lookup_cons, zb] at e
      have zn : (g.nm k == g.nm x1) = false := beq_eq_false_iff_ne.mpr fun q => z (g.nmInj _ _ q)
      obtain ⟨u, h3, h4⟩ := rf_get h2 e
      exact ⟨u, by rw [List.lookup_cons, zn]; exact h3, h4⟩
theorem ref_ins {c : Nat} {fs : List (Nat × AV)} {n : Nat} {w : V} (r : Rel g al st H) (rv : RV g.K H al (.ref n) w) (e : st[n]? = some (.ins c fs)) : ∃ p dx ws, w = .ref p ∧ al n = some p ∧ H p = some (.ins (g.clsA c) dx ws) ∧ RF g H al fs ws := by
  obtain ⟨p, e1, rfl⟩ := rv
  obtain ⟨q, e2, dx, ws, h1, h2⟩ := r.obj n _ e
  rw [e1] at e2; cases e2
  exact ⟨p, dx, ws, rfl, e1, h1, h2⟩
/-- the names of the methods of built-in types -/
structure NmOk (g : G) : Prop where
  n0 : g.nm 0 = "append"
  n1 : g.nm 1 = "extend"
  n2 : g.nm 2 = "insert"
  n3 : g.nm 3 = "pop"
  n4 : g.nm 4 = "clear"
  n5 : g.nm 5 = "reverse"
  n8 : g.nm 8 = "get"
  n10 : g.nm 10 = "join"
  n6 : g.nm 6 = "index"
  n7 : g.nm 7 = "count"
  n9 : g.nm 9 = "split"
  n11 : g.nm 11 = "find"
def selTy : Sel → String
  | .lst => "list" | .str => "str" | _ => "dict"
theorem bm_ok {X : Cx} (hK : X.K = g.K) (hu : X.A.units + 65 < cLine) (N : NmOk g) {T : Tab} {k : Nat} {v : AV} {s : Sel} (h : selA T k v st = s) (h1 : s ≠ .no) (h2 : ∀ d, s ≠ .own d) :
    ∃ id, PlainAttrs (selTy s) ∧ Slot (selTy s) (g.nm k) id ∧ typeOf (.builtin id) = pure (.type "method_descriptor") ∧ MtR X id (MA g s k) := by
  cases v with
  | ref n =>
    simp only [selA] at h
    split at h
    · split at h
      · exact absurd h.symm (h2 _)
      · exact absurd h.symm h1
    · by_cases hk : k ≤ 6
      · rw [if_pos hk] at h
        subst h
        obtain h | h | h | h | h | h | h : k = 0 ∨ k = 1 ∨ k = 2 ∨ k = 3 ∨ k = 4 ∨ k = 5 ∨ k = 6 := by omega
        · subst h; rw [N.n0]; exact ⟨_, PySem.F.plainAttrs_list, PySem.F.slot_list_append, PySem.F.type_list_append, mt_app⟩
        · subst h; rw [N.n1]; exact ⟨_, PySem.F.plainAttrs_list, PySem.F.slot_list_extend, PySem.F.type_list_extend, mt_ext⟩
        · subst h; rw [N.n2]; exact ⟨_, PySem.F.plainAttrs_list, PySem.F.slot_list_insert, PySem.F.type_list_insert, mt_ins⟩
        · subst h; rw [N.n3]; exact ⟨_, PySem.F.plainAttrs_list, PySem.F.slot_list_pop, PySem.F.type_list_pop, mt_popA⟩
        · subst h; rw [N.n4]; exact ⟨_, PySem.F.plainAttrs_list, PySem.F.slot_list_clear, PySem.F.type_list_clear, mt_clr⟩
        · subst h; rw [N.n5]; exact ⟨_, PySem.F.plainAttrs_list, PySem.F.slot_list_reverse, PySem.F.type_list_reverse, mt_rev⟩
        · subst h; rw [N.n6]; exact ⟨_, PySem.F.plainAttrs_list, PySem.F.slot_list_index, PySem.F.type_list_index, mt_indexA hK hu⟩
      · rw [if_neg hk] at h
        exact absurd h.symm h1
    · by_cases hk : k = 8
      · rw [if_pos hk] at h
        subst h; subst hk; rw [N.n8]
        exact ⟨_, PySem.F.plainAttrs_dict, PySem.F.slot_dict_get, PySem.F.type_dict_get, mt_getA (by omega)⟩
      · rw [if_neg hk] at h
        exact absurd h.symm h1
    · by_cases hk : k = 8
      · rw [if_pos hk] at h
        subst h; subst hk; rw [N.n8]
        exact ⟨_, PySem.F.plainAttrs_dict, PySem.F.slot_dict_get, PySem.F.type_dict_get, mt_getA (by omega)⟩
      · rw [if_neg hk] at h
        exact absurd h.symm h1
    · exact absurd h.symm h1
  | str z =>
    simp only [selA] at h
    by_cases hk : k = 10 ∨ k = 7 ∨ k = 11 ∨ k = 9
    · rw [if_pos hk] at h
      subst h
      rcases hk with hk | hk | hk | hk
      · subst hk; rw [N.n10]; exact ⟨_, PySem.F.plainAttrs_str, PySem.F.slot_str_join, PySem.F.type_str_join, mt_joinA hK⟩
      · subst hk; rw [N.n7]; exact ⟨_, PySem.F.plainAttrs_str, PySem.F.slot_str_count, PySem.F.type_str_count, mt_countA⟩
      · subst hk; rw [N.n11]; exact ⟨_, PySem.F.plainAttrs_str, PySem.F.slot_str_find, PySem.F.type_str_find, mt_findA⟩
      · subst hk; rw [N.n9]; exact ⟨_, PySem.F.plainAttrs_str, PySem.F.slot_str_split, PySem.F.type_str_split, mt_splitA⟩
    · rw [if_neg hk] at h
      exact absurd h.symm h1
  | _ => exact absurd h.symm h1
theorem sel_ty {T : Tab} {k : Nat} {v : AV} {x : V} {s : Sel} (rel : Rel g al st H) (rv : RV g.K H al v x) (h : selA T k v st = s) (h1 : s ≠ .no) (h2 : ∀ d, s ≠ .own d) : tyV g.K (selTy s) x H := by
  cases v with
  | ref n =>
    simp only [selA] at h
    split at h
    · split at h
      · exact absurd h.symm (h2 _)
      · exact absurd h.symm h1
    · rename_i ys q
      by_cases hk : k ≤ 6
      · rw [if_pos hk] at h
        subst h
        obtain ⟨p, ws, rfl, ea, hp, r⟩ := ref_lst rel rv q
        exact .inl ⟨rfl, _, .inl (.inl hp)⟩
      · rw [if_neg hk] at h
        exact absurd h.symm h1
    · rename_i kvs q
      by_cases hk : k = 8
      · rw [if_pos hk] at h
        subst h
        obtain ⟨p, ws, rfl, ea, hp, r⟩ := ref_dK rel rv q
        exact .inr (.inr (.inl ⟨rfl, .inl ⟨_, hp⟩⟩))
      · rw [if_neg hk] at h
        exact absurd h.symm h1
    · rename_i kvs q
      by_cases hk : k = 8
      · rw [if_pos hk] at h
        subst h
        obtain ⟨p, ws, rfl, ea, hp, r⟩ := ref_dT rel rv q
        exact .inr (.inr (.inl ⟨rfl, .inr ⟨_, hp⟩⟩))
      · rw [if_neg hk] at h
        exact absurd h.symm h1
    · exact absurd h.symm h1
  | str z =>
    simp only [selA] at h
    by_cases hk : k = 10 ∨ k = 7 ∨ k = 11 ∨ k = 9
    · rw [if_pos hk] at h
      subst h
      obtain rfl : x = .str (T8 z) := rv
      rfl
    · rw [if_neg hk] at h
      exact absurd h.symm h1
  | _ => exact absurd h.symm h1
theorem sel_own {T : Tab} {k d : Nat} {v : AV} {x : V} (rel : Rel g al st H) (rv : RV g.K H al v x) (h : selA T k v st = .own d) : ∃ c p dx ws, T.mt c k = some d ∧ x = .ref p ∧ H p = some (.ins (g.clsA c) dx ws) ∧ ws.lookup (g.nm k) = none := by
  cases v with
  | ref n =>
    simp only [selA] at h
    split at h
    · rename_i c fs q
      split at h
      · rename_i d' e1 e2
        cases h
        obtain ⟨p, dx, ws, rfl, ea, hp, r⟩ := ref_ins rel rv q
        exact ⟨c, p, dx, ws, e1, rfl, hp, rf_look r e2⟩
      · cases h
    · split at h <;> cases h
    · split at h <;> cases h
    · split at h <;> cases h
    · cases h
  | str z =>
    simp only [selA] at h
    split at h <;> cases h
  | _ => cases h
theorem any_none {vs : List Expr} {env : Env} {pos : Pos} (h : vs.all noStar = true) : (backTo pos (starEach vs env)).any (·.1) = false := any_of_all (stars_of h)
theorem args_none {M : Model} {A : Around} {E : Value → Shared → Prop} {s : Shared} {f : Value} {U : List Value → Shared → Prop} {Q : Args → Shared → Prop} (z : wpAny M A (spliced []) U E s) (h : ∀ us s1, U us s1 → Q ⟨us, []⟩ s1) : wpAny M A (evalArgs f true [] []) Q E s := by
  unfold evalArgs
  show wpAny M A ((spliced []) >>= _) Q E s
  refine wpAny_bind (wpAny_mono z (fun us s1 q => wpAny_bind (wpAny_pure ?_)) fun _ _ q => q)
  exact wpAny_holding (by first | exact wpAny_bind (wpAny_pure (wpAny_pure (h us s1 q))) | exact wpAny_pure (h us s1 q) | exact wpAny_bind (wpAny_pure (h us s1 q)))
/-- the arguments, then a call with what stands ahead of them -/
theorem call_first {f : Value} {first : List Value} {pins : List (Addr × Obj)} {s : Shared} {Q : Value → Shared → Prop} {t : TA} {R : List V → Hp → Prop} (I : Inv X pins σ H s) (hk : PySem.W.keepIn X.K f = true) (hs : es.all noStar = true) (h : PA X es t) (q : t σ H R)
    (hc : ∀ us s1 vs H1, Inv X pins σ H1 s1 → Vals vs us → R vs H1 → wpAny (model X.prog X.w) X.A (call f (first ++ us)) Q X.xe s1) :
    wpAny (model X.prog X.w) X.A (callWith pos f first (backTo pos (starEach es X.env)) []) Q X.xe s := by
  have z := h.run pos pins s σ H _ I q
  cases es with
  | nil =>
    exact PySem.W.callWith_of rfl (PySem.W.keeps_K hk) (args_none z fun us s1 ⟨vs, H1, I1, r, q1⟩ => ⟨I1.kIn, hc us s1 vs H1 I1 r q1⟩)
  | cons a es =>
    rw [List.all_cons, Bool.and_eq_true] at hs
    exact PySem.W.callWith_K (h₀ := X.base) I.ok.mod.kin hk (thn z fun us s1 ⟨vs, H1, I1, r, q1⟩ => ⟨I1.kIn, hc us s1 vs H1 I1 r q1⟩) (star_of hs.1) (any_none hs.2)

theorem call_blt {id : String} {v : Value} {pins : List (Addr × Obj)} {s : Shared} {Q : Value → Shared → Prop} {t : TA} {R : List V → Hp → Prop} (I : Inv X pins σ H s) (hs : es.all noStar = true) (h : PA X es t) (q : t σ H R)
    (hc : ∀ us s1 vs H1, Inv X pins σ H1 s1 → Vals vs us → R vs H1 → wpAny (model X.prog X.w) X.A (call (.builtin id) (v :: us)) Q X.xe s1) :
    wpAny (model X.prog X.w) X.A (callWith pos (.builtin id) [v] (backTo pos (starEach es X.env)) []) Q X.xe s := by
  have z := h.run pos pins s σ H _ I q
  cases es with
  | nil => exact Calls.callWith_builtin rfl (args_none z fun us s1 ⟨vs, H1, I1, r, q1⟩ => hc us s1 vs H1 I1 r q1)
  | cons a es =>
    rw [List.all_cons, Bool.and_eq_true] at hs
    rw [star_of hs.1] at z ⊢
    refine Calls.callWith_builtin ?_ (Calls.evalArgs_plain (thn z fun us s1 ⟨vs, H1, I1, r, q1⟩ => hc us s1 vs H1 I1 r q1))
    show (false || (backTo pos (starEach es X.env)).any (·.1)) = false
    rw [any_none hs.2]
    rfl
theorem k_meth {n k : Nat} {o : Expr} {ro : Run1 AV} {cf : CallF} {ap : Pos} (S : Same4 g X) (hu : X.A.units + 65 < cLine) (N : NmOk g) (hr : Room n X.A) (tk : Takes X W) (ho : PE X o (TV g W ro)) (hs : es.all noStar = true) (h2 : es.length < 25) (h3 : (ap.endLine == pos.line) = true) (h0 : noSuper o = true)
    (h : PA X es (TVs g W rr)) (md : ∀ c d, g.T.mt c k = some d → MetOk g n c k (cf d)) :
    PE X (.Call (.Attribute o (g.nm k) ap) es [] pos) (TV g W fun e st => (ro e st).bind fun v st => (selA g.T k v st).ok ((rr e st).bind fun xs st1 => methA cf (selA g.T k v st) k v xs st1)) := by
  refine ⟨fun pins s σ H Q I ⟨al, st, e, rel, rs, pp⟩ => ?_⟩
  have q := TV.then (ra := ro) (f := fun e v st => (selA g.T k v st).ok ((rr e st).bind fun xs st1 => methA cf (selA g.T k v st) k v xs st1)) rel rs pp
  refine PySem.W.methodCall_KW (thn (ho.run pins s σ H _ I q) fun ov s1 ⟨x, H1, I1, rx, al1, v, st1, rel1, rs1, rv1, p1, _⟩ => ?_) (meth_eq h0 hs h2 h3)
  cases hsel : selA g.T k v st1 with
  | no =>
    rw [hsel] at p1
    exact p1.elim
  | own d =>
    rw [hsel] at p1
    obtain ⟨c, p, dx, ws, hmt, rfl, hp, hl⟩ := sel_own rel1 rv1 hsel
    obtain rfl : ov = Value.ref p := rx
    have D := md c d hmt
    obtain ⟨fa, fd, ps, hc, hm, hb, F, hno⟩ := D.ex
    rw [← S.P, ← S.w, ← S.K, ← S.mg, ← S.base] at F
    rw [← S.K] at hc hm hb
    refine getmeth_ok I1 hp hc hm hl ?_
    have q1 := TVs.then (ra := rr) (f := fun _ xs st2 => cf d (v :: xs) st2) rel1 rs1 p1
    refine call_first (f := .ref fa) (first := [.ref p]) I1 hm.kp hs h q1 fun us s2 vs H2 I2 rus ⟨al2, as, st2, rel2, rs2, rv2, p2, s2'⟩ => ?_
    exact run_fnS (E := WE W) (us := .ref p :: us) (vs := .ref p :: vs) F hr hb (passAt tk σ) I2 (.cons rfl rus) (spd_run (as := v :: as) hno rel2 ⟨_, _, rfl, RV.step rel1.notup s2' _ _ rv1, rv2⟩ p2)
  | lst =>
    rw [hsel] at p1
    obtain ⟨id, pa, sl, hty, hm⟩ := bm_ok (X := X) S.K hu N hsel (by intro z; cases z) (by intro d z; cases z)
    have ty := sel_ty rel1 rv1 hsel (by intro z; cases z) (by intro d z; cases z)
    rw [← S.K] at ty
    obtain ⟨h5, h6⟩ := tyV_is I1 rx ty
    refine getMethod_builtin h5 pa sl hty h6 ?_
    have q1 := TVs.then (ra := rr) (f := fun _ xs st2 => bmeth .lst k v xs st2) rel1 rs1 p1
    refine call_blt I1 hs h q1 fun us s2 vs H2 I2 rus ⟨al2, as, st2, rel2, rs2, rv2, p2, s2'⟩ => ?_
    exact hm pins s2 σ H2 x vs ov us Q I2 rx rus ⟨al2, st2, v, as, _, rel2, RV.step rel1.notup s2' _ _ rv1, rv2, p2⟩
  | str =>
    rw [hsel] at p1
    obtain ⟨id, pa, sl, hty, hm⟩ := bm_ok (X := X) S.K hu N hsel (by intro z; cases z) (by intro d z; cases z)
    have ty := sel_ty rel1 rv1 hsel (by intro z; cases z) (by intro d z; cases z)
    rw [← S.K] at ty
    obtain ⟨h5, h6⟩ := tyV_is I1 rx ty
    refine getMethod_builtin h5 pa sl hty h6 ?_
    have q1 := TVs.then (ra := rr) (f := fun _ xs st2 => bmeth .str k v xs st2) rel1 rs1 p1
    refine call_blt I1 hs h q1 fun us s2 vs H2 I2 rus ⟨al2, as, st2, rel2, rs2, rv2, p2, s2'⟩ => ?_
    exact hm pins s2 σ H2 x vs ov us Q I2 rx rus ⟨al2, st2, v, as, _, rel2, RV.step rel1.notup s2' _ _ rv1, rv2, p2⟩
  | dic =>
    rw [hsel] at p1
    obtain ⟨id, pa, sl, hty, hm⟩ := bm_ok (X := X) S.K hu N hsel (by intro z; cases z) (by intro d z; cases z)
    have ty := sel_ty rel1 rv1 hsel (by intro z; cases z) (by intro d z; cases z)
    rw [← S.K] at ty
    obtain ⟨h5, h6⟩ := tyV_is I1 rx ty
    refine getMethod_builtin h5 pa sl hty h6 ?_
    have q1 := TVs.then (ra := rr) (f := fun _ xs st2 => bmeth .dic k v xs st2) rel1 rs1 p1
    refine call_blt I1 hs h q1 fun us s2 vs H2 I2 rus ⟨al2, as, st2, rel2, rs2, rv2, p2, s2'⟩ => ?_
    exact hm pins s2 σ H2 x vs ov us Q I2 rx rus ⟨al2, st2, v, as, _, rel2, RV.step rel1.notup s2' _ _ rv1, rv2, p2⟩

/-! ### fields -/
theorem k_fld {o : Expr} {f : Nat} {ro : Run1 AV} (S : Same4 g X) (h0 : noSuper o = true) (ho : PE X o (TV g W ro)) (fl : ∀ c, g.T.fl c f = true → Cls g.K (g.clsA c) ∧ NoAttr g.K (g.clsA c) (g.nm f)) :
    PE X (.Attribute o (g.nm f) pos) (TV g W fun e st => (ro e st).bind fun v st => fldA g.T v f st) := by
  refine PE.imp (pe_fld ho (base_of h0)) fun σ H Q ⟨al, st, e, rel, rs, pp⟩ => ?_
  obtain ⟨al0, st0, e0, rel0, rs0, p0⟩ := TV.then (ra := ro) (f := fun e v st => fldA g.T v f st) rel rs pp
  refine ⟨al0, st0, e0, rel0, rs0, Post.imp p0 fun x H1 ⟨al1, v, st1, rel1, rs1, rv1, p1, s1⟩ => ?_⟩
  cases v with
  | ref n =>
    simp only [fldA] at p1
    split at p1
    · rename_i c fs q
      by_cases hf : g.T.fl c f = true
      · rw [if_pos hf] at p1
        split at p1
        · rename_i u hu
          obtain ⟨p, dx, ws, rfl, ea, hp, r⟩ := ref_ins rel1 rv1 q
          obtain ⟨w, h1, h2⟩ := rf_get r hu
          obtain ⟨c1, c2⟩ := fl c hf
          rw [S.K]
          exact ⟨p, _, dx, ws, w, rfl, hp, c1, c2, h1, Post.same p1 rel1 h2⟩
        · exact p1.elim
      · rw [if_neg hf] at p1
        exact p1.elim
    · exact p1.elim
  | _ => exact p1.elim

/-! ### subscripts, slices -/
theorem plain_of {b : Expr} (h : noSlice b = true) : ∀ o i, subscripted b false o i = operate [o, i] (getItem o i) := by
  intro o i
  cases b <;> first | rfl | (cases h)
theorem PE.or2 {X : Cx} {e : Expr} {t t' : TE} (h : PE X e t) (h' : PE X e t') : PE X e (fun σ H Q => t σ H Q ∨ t' σ H Q) :=
  ⟨fun pins s σ H Q I q => q.elim (fun z => h.run pins s σ H Q I z) fun z => h'.run pins s σ H Q I z⟩
theorem ix_dict {X : Cx} (hu : X.A.units + 1 < cLine) : IxR X (fun x y H Q => ∃ a v, x = .ref a ∧ DGet H a y (some v) ∧ Q v H) := by
  intro value slice pins s σ H x y v u Q I rx ry h hs
  obtain ⟨a, r, rfl, gd, q⟩ := h
  cases rx
  exact tail_any (dict_typeIs I gd) PySem.F.slot_dict_getitem.lookup (d_getItem hu I gd ry fun w' s' I' rw' => ⟨r, H, I', rw', q⟩) hs
theorem k_idx (S : Same4 g X) (hu : X.A.units + 65 < cLine) (h : noSlice b = true) (ha : PE X a (TV g W ra)) (hb : PE X b (TV g W rb)) : PE X (.Subscript a b pos) (TV g W fun e st => (ra e st).bind fun x st => (rb e st).bind fun y st => idxA x y st) := by
  refine PE.imp (pe_ix ((ix_seq (X := X)).or (ix_dict (by omega))) ha hb (plain_of h)) (two fun x y H Q hq => ?_)
  obtain ⟨al, st, a, b, W, rel, ra, rb, p⟩ := hq
  rcases ix_or rel ra rb p with z | ⟨q, v, e1, e2, e3⟩
  · rw [S.K]; exact .inl z
  · exact .inr ⟨q, v, e1, e2, e3⟩
/-- an end of a slice that may be left out -/
abbrev oeOf : Hp → Al → Option Int → Option Int → Prop := fun _ _ a b => a = b
def TOv (g : G) (W : WX) (r : Run1 (Option Int)) : TO := fun σ H Q => ∃ al st e, Rel g al st H ∧ RS g.K H al e σ ∧ Post g oeOf (r e st) al H Q (wOf g W σ)
theorem TOv.then {C D : Type} {RC : Hp → Al → C → D → Prop} {rl : Run1 (Option Int)} {f : Slots → Option Int → Sto → R C} {Q : D → Hp → Prop} (r : Rel g al st H) (rs : RS g.K H al e σ)
    (h : Post g RC ((rl e st).bind (f e)) al H Q (wOf g W σ)) :
    TOv g W rl σ H fun x H1 => ∃ al1 st1, Rel g al1 st1 H1 ∧ RS g.K H1 al1 e σ ∧ Post g RC (f e x st1) al1 H1 Q (wOf g W σ) ∧ Stp al H al1 H1 := by
  refine ⟨al, st, e, r, rs, ?_⟩
  have q := Post.bind (RA := oeOf) h
  revert q
  generalize rl e st = x
  intro q
  cases x with
  | ok a st2 =>
    intro al' H' b s rel rv
    obtain ⟨al1, a1, st1, s1, rel1, rv1, p⟩ := q al' H' b s rel rv
    have e' : a1 = b := rv1
    subst e'
    exact ⟨al1, st1, rel1, rs.step r.notup s1, p, s1⟩
  | ex c st2 => exact q
  | no => exact q
theorem PO.imp {X : Cx} {e : Option Expr} {t t' : TO} (h : PO X e t) (i : ∀ σ H Q, t' σ H Q → t σ H Q) : PO X e t' := ⟨fun pins s σ H Q I q => h.run pins s σ H Q I (i σ H Q q)⟩
theorem k_oN : PO X none (TOv g W fun _ st => .ok none st) :=
  PO.imp po_none fun σ H Q ⟨al, st, e, rel, rs, p⟩ => Post.ok (RA := oeOf) p rel rfl
theorem k_oS (ha : PE X a (TV g W ra)) : PO X (some a) (TOv g W fun e st => (ra e st).bind optI) := by
  refine PO.imp (po_some ha) fun σ H Q ⟨al, st, e, rel, rs, p⟩ => ?_
  obtain ⟨al0, st0, e0, rel0, rs0, p0⟩ := TV.then (ra := ra) (f := fun _ => optI) rel rs p
  refine ⟨al0, st0, e0, rel0, rs0, Post.imp p0 fun x H1 ⟨al1, v, st1, rel1, rs1, rv1, p1, s1⟩ => ?_⟩
  cases v with
  | int i => exact ⟨i, rv1, Post.ok (RA := oeOf) p1 rel1 rfl⟩
  | _ => exact p1.elim
theorem k_sl {lo hi : Option Expr} {p2 : Pos} {rl rh : Run1 (Option Int)} (S : Same4 g X) (ha : PE X a (TV g W ra)) (hl : PO X lo (TOv g W rl)) (hh : PO X hi (TOv g W rh)) :
    PE X (.Subscript a (.Slice lo hi none p2) pos) (TV g W fun e st => (ra e st).bind fun v st => (rl e st).bind fun x st => (rh e st).bind fun y st => slA v x y st) := by
  refine PE.imp (pe_slice (sl_A S.K) ha hl hh) fun σ H Q ⟨al, st, e, rel, rs, p⟩ => ?_
  obtain ⟨al0, st0, e0, rel0, rs0, p0⟩ := TV.then (ra := ra) (f := fun e v st => (rl e st).bind fun x st => (rh e st).bind fun y st => slA v x y st) rel rs p
  refine ⟨al0, st0, e0, rel0, rs0, Post.imp p0 fun v H1 ⟨al1, av, st1, rel1, rs1, rv1, p1, s1⟩ => ?_⟩
  obtain ⟨al2, st2, e2, rel2, rs2, p2⟩ := TOv.then (rl := rl) (f := fun e x st => (rh e st).bind fun y st => slA av x y st) rel1 rs1 p1
  refine ⟨al2, st2, e2, rel2, rs2, Post.imp p2 fun x H2 ⟨al3, st3, rel3, rs3, p3, s3⟩ => ?_⟩
  obtain ⟨al4, st4, e4, rel4, rs4, p4⟩ := TOv.then (rl := rh) (f := fun e y st => slA av x y st) rel3 rs3 p3
  refine ⟨al4, st4, e4, rel4, rs4, Post.imp p4 fun y H3 ⟨al5, st5, rel5, rs5, p5, s5⟩ => ?_⟩
  exact ⟨al5, st5, av, _, rel5, RV.step rel3.notup s5 _ _ (RV.step rel1.notup s3 _ _ rv1), p5⟩

/-! ### built-in functions by name -/
theorem cbR {r : List V → Hp → VK → Prop} {f : List AV → Sto → R AV} (hr : ∀ vs H Q, CA g f vs H Q → r vs H Q) : ∀ σ H Q, TV g W (fun e st => (rr e st).bind fun xs st => f xs st) σ H Q → tCB r (TVs g W rr) σ H Q := by
  intro σ H Q ⟨al, st, e, rel, rs, p⟩
  obtain ⟨al0, st0, e0, rel0, rs0, p0⟩ := TVs.then (ra := rr) (f := fun _ xs st => f xs st) rel rs p
  exact ⟨al0, st0, e0, rel0, rs0, Post.imp p0 fun vs H1 ⟨al1, as, st1, rel1, rs1, rv1, p1, s1⟩ => hr _ _ _ ⟨al1, st1, as, _, rel1, rv1, p1⟩⟩
theorem k_blt {x : Str} {p : Pos} {id : String} {f : List AV → Sto → R AV} (hc : CallR X (.builtin id) (CA g f)) (hg : glb X.env.scope x = true) (hm : X.mg x = none) (hv : bootBuiltins x = some (.builtin id)) (hs : (a :: es).all noStar = true) (h : PA X (a :: es) (TVs g W rr)) :
    PE X (.Call (.Name x p) (a :: es) [] pos) (TV g W fun e st => (rr e st).bind fun xs st => f xs st) := by
  obtain ⟨h1, h2, h3⟩ := glb_of hg
  rw [List.all_cons, Bool.and_eq_true] at hs
  exact PE.imp (pe_callB hc h1 hm hv h h3 h2 (star_of hs.1) (any_none hs.2)) (cbR fun _ _ _ q => q)
theorem k_typ {x : Str} {p : Pos} {id : String} {f : List AV → Sto → R AV} (hc : CallR X (.type id) (CA g f)) (hg : glb X.env.scope x = true) (hm : X.mg x = none) (hv : bootBuiltins x = some (.type id)) (hs : (a :: es).all noStar = true) (h : PA X (a :: es) (TVs g W rr)) :
    PE X (.Call (.Name x p) (a :: es) [] pos) (TV g W fun e st => (rr e st).bind fun xs st => f xs st) := by
  obtain ⟨h1, h2, h3⟩ := glb_of hg
  rw [List.all_cons, Bool.and_eq_true] at hs
  exact PE.imp (pe_callTy hc h1 hm hv h h3 h2 (star_of hs.1) (any_none hs.2)) (cbR fun _ _ _ q => q)
theorem k_isi {t : Ty} {x y : Str} {p p' : Pos} (S : Same4 g X) (hg : glb X.env.scope x = true) (hg2 : glb X.env.scope y = true) (hx : x = "isinstance") (hy : tyS t = some y) (hm : X.mg "isinstance" = none) (hm2 : X.mg y = none) (hs : noStar a = true) (ha : PE X a (TV g W ra)) :
    PE X (.Call (.Name x p) [a, .Name y p'] [] pos) (TV g W fun e st => (ra e st).bind fun v st => .ofB (isA g.T t v st) st) := by
  subst hx
  obtain ⟨h1, h2, h3⟩ := glb_of hg
  obtain ⟨h4, h5, h6⟩ := glb_of hg2
  have hv : ∃ n, tyOf t = some n ∧ bootBuiltins y = some (.type n) := by
    cases t <;> first
      | (cases hy; exact ⟨_, rfl, by decide +kernel⟩)
      | (cases hy)
  obtain ⟨n, ht, hb⟩ := hv
  have hty : PE X (.Name y p') (tC (.ty n)) := pe_bltn h4 hm2 hb rfl h6 h5
  refine PE.imp (pe_callB (r := rIsi X.K) call_isi h1 hm (show bootBuiltins "isinstance" = some (.builtin "isinstance") by decide +kernel) (pa_cons ha (pa_cons hty pa_nil) (star_of hs)) h3 h2 (star_of hs) (by rfl)) fun σ H Q ⟨al, st, e, rel, rs, pp⟩ => ?_
  obtain ⟨al0, st0, e0, rel0, rs0, p0⟩ := TV.then (ra := ra) (f := fun e v st => R.ofB (isA g.T t v st) st) rel rs pp
  refine ⟨al0, st0, e0, rel0, rs0, Post.imp p0 fun v H1 ⟨al1, av, st1, rel1, rs1, rv1, p1, s1⟩ => ?_⟩
  obtain ⟨b, e1, q⟩ := Post.ofB p1 rel1
  obtain ⟨u, h7, h8⟩ := isA_ok rel1 rv1 ht e1
  rw [← S.K] at h7 h8
  exact ⟨v, .ty n, u, _, b, rfl, .ty n, h7, h8, q⟩

/-! ### what is walked -/
/-- a walk by the model gives what the machine's list says -/
def ItOk (g : G) (al0 : Al) (H0 : Hp) (w : Wk) (J : It) : Prop := ∀ (al : Al) (H : Hp) (st : Sto), Stp al0 H0 al H → Rel g al st H → w.ck st = true →
  (∀ (i : Nat) (x : AV), w.xs[i]? = some x → J.go i H ∧ ∀ v H', J.yld i H v H' → Stp al H al H' ∧ Rel g al st H' ∧ RV g.K H' al x v) ∧ J.stop w.xs.length H
def TIv (g : G) (W : WX) (r : Run1 Wk) : TI := fun σ H Q => ∃ al st e, Rel g al st H ∧ RS g.K H al e σ ∧ Post g (fun H al w J => ItOk g al H w J) (r e st) al H Q (wOf g W σ)
theorem Post.wk {Q : It → Hp → Prop} {W : Nat → Hp → Prop} {o : Option Wk} (h : Post g (fun H al w J => ItOk g al H w J) (wkA o st) al H Q W) (r : Rel g al st H) : ∃ w, o = some w ∧ ∀ J, ItOk g al H w J → Q J H := by
  cases o with
  | some w => exact ⟨w, rfl, fun J k => Post.ok (RA := fun H al w J => ItOk g al H w J) h r k⟩
  | none => exact h.elim
/-- the source's own check -/
theorem ck_at {w : Wk} {n : Nat} {o : AO} (h : w.ck st = true) (e : w.at1 = some (n, o)) : st[n]? = some o := by
  unfold Wk.ck at h
  rw [e, Bool.and_eq_true] at h
  exact of_decide_eq_true h.1
theorem ck_at2 {w : Wk} {n : Nat} {o : AO} (h : w.ck st = true) (e : w.at2 = some (n, o)) : st[n]? = some o := by
  unfold Wk.ck at h
  rw [e, Bool.and_eq_true] at h
  exact of_decide_eq_true h.2
/-- a list of the store, later on -/
theorem lst_later {n : Nat} {p : Addr} {xs : List AV} (r : Rel g al st H) (e : al n = some p) (h : st[n]? = some (.lst xs)) : ∃ ws, H p = some (.lst ws) ∧ RVs g.K H al xs ws := by
  obtain ⟨q, e2, ws, h1, h2⟩ := r.obj n _ h
  rw [e] at e2; cases e2
  exact ⟨ws, h1, h2⟩
/-- a list or tuple or text, what it is at each time -/
structure SrcOk (g : G) (al0 : Al) (H0 : Hp) (w : Wk) (p : Addr) (L : Bool) : Prop where
  at_ : ∀ (al : Al) (H : Hp) (st : Sto), Stp al0 H0 al H → Rel g al st H → w.ck st = true → ∃ ws, (if L = true then SqL g.K H p ws else SqT g.K H p ws) ∧ RVs g.K H al w.xs ws
theorem src_of {v : AV} {x : V} {w : Wk} (rel : Rel g al st H) (rv : RV g.K H al v x) (e : srcA st v = some w) (hstr : ∀ z, v ≠ .str z) : ∃ p L, x = .ref p ∧ SrcOk g al H w p L ∧ (∃ ws, if L = true then SqL g.K H p ws else SqT g.K H p ws) := by
  cases v with
  | tup xs =>
    cases e
    obtain ⟨p, ws, rfl, hp, r⟩ := rv
    refine ⟨p, false, rfl, ⟨fun al1 H1 st1 s r1 _ => ⟨ws, ?_, RVs.step rel.notup s _ _ r⟩⟩, ws, ?_⟩
    · rw [if_neg Bool.false_ne_true]; exact .inl (.inl (tup_step rel.notup s hp))
    · rw [if_neg Bool.false_ne_true]; exact .inl (.inl hp)
  | rol xs =>
    cases e
    obtain ⟨p, rfl, hp⟩ := rv
    refine ⟨p, true, rfl, ⟨fun al1 H1 st1 s r1 _ => ⟨xs.map V.int, ?_, RVs.ints⟩⟩, xs.map V.int, ?_⟩
    · rw [if_pos rfl]; exact (sqr_step rel.notup s hp).sq
    · rw [if_pos rfl]; exact hp.sq
  | ref n =>
    simp only [srcA] at e
    split at e
    · rename_i xs q
      cases e
      obtain ⟨p, ws, rfl, ea, hp, r⟩ := ref_lst rel rv q
      refine ⟨p, true, rfl, ⟨fun al1 H1 st1 s r1 hc => ?_⟩, ws, ?_⟩
      · obtain ⟨ws2, h1, h2⟩ := lst_later r1 (s.up n p ea) (ck_at hc rfl)
        exact ⟨ws2, by rw [if_pos rfl]; exact .inl (.inl h1), h2⟩
      · rw [if_pos rfl]; exact .inl (.inl hp)
    · cases e
  | str z => exact absurd rfl (hstr z)
  | _ => cases e
theorem it_lst {w : Wk} {p : Addr} (h : SrcOk g al H w p true) : ItOk g al H w (Itl g.K p) := by
  intro al1 H1 st1 s r1 hc
  obtain ⟨ws, h1, h2⟩ := h.at_ al1 H1 st1 s r1 hc
  rw [if_pos rfl] at h1
  refine ⟨fun i x hx => ?_, ws, h1, by rw [h2.length]; exact Nat.le_refl _⟩
  obtain ⟨y, h3, h4⟩ := h2.get hx
  refine ⟨⟨ws, y, h1, h3⟩, fun v H' hy => ?_⟩
  obtain ⟨rfl, h5⟩ := hy
  have e : v = y := Option.some.inj ((h5 ws h1).symm.trans h3)
  subst e
  exact ⟨Stp.refl _ _, r1, h4⟩
theorem it_tup {w : Wk} {p : Addr} (h : SrcOk g al H w p false) : ItOk g al H w (Itt g.K p) := by
  intro al1 H1 st1 s r1 hc
  obtain ⟨ws, h1, h2⟩ := h.at_ al1 H1 st1 s r1 hc
  rw [if_neg Bool.false_ne_true] at h1
  refine ⟨fun i x hx => ?_, ws, h1, by rw [h2.length]; exact Nat.le_refl _⟩
  obtain ⟨y, h3, h4⟩ := h2.get hx
  refine ⟨⟨ws, y, h1, h3⟩, fun v H' hy => ?_⟩
  obtain ⟨rfl, h5⟩ := hy
  have e : v = y := Option.some.inj ((h5 ws h1).symm.trans h3)
  subst e
  exact ⟨Stp.refl _ _, r1, h4⟩
theorem it_str {z : List Nat} : ItOk g al H ⟨z.map fun c => .str [c], none, none⟩ (Its (T8 z)) := by
  intro al1 H1 st1 s r1 hc
  have hsz : (T8 z).cps.size = z.length := by simp [T8]
  refine ⟨fun i x hx => ?_, ?_⟩
  · rw [List.getElem?_map] at hx
    obtain ⟨c, h1, rfl⟩ := Option.map_eq_some_iff.mp hx
    have hi : i < z.length := (List.getElem?_eq_some_iff.mp h1).1
    refine ⟨by show i < (T8 z).cps.size; rw [hsz]; exact hi, fun v H' hy => ?_⟩
    obtain ⟨rfl, d, h2, rfl⟩ := hy
    have h3 : (T8 z).cps[i]? = z[i]? := by simp [T8]
    rw [h3, h1] at h2
    cases h2
    exact ⟨Stp.refl _ _, r1, rfl⟩
  · show (T8 z).cps.size ≤ _
    rw [hsz, List.length_map]
    exact Nat.le_refl _
theorem ints_get {a c : Int} : ∀ {n i : Nat} {x : AV}, (intsFrom a c n)[i]? = some x → i < n ∧ x = .int (a + (i : Int) * c)
  | 0, i, x, h => by cases h
  | n + 1, 0, x, h => by
    have h' : some (AV.int a) = some x := h
    cases h'
    exact ⟨Nat.succ_pos _, by simp⟩
  | n + 1, i + 1, x, h => by
    have h' : (intsFrom (a + c) c n)[i]? = some x := h
    obtain ⟨h1, h2⟩ := ints_get h'
    refine ⟨by omega, ?_⟩
    rw [h2]
    have e : (((i + 1 : Nat) : Int)) * c = (i : Int) * c + c := by
      rw [Int.natCast_add, Int.add_mul]
      simp
    rw [e]
    congr 1
    omega
theorem ints_len (a c : Int) : ∀ n : Nat, (intsFrom a c n).length = n
  | 0 => rfl
  | n + 1 => by
    show (intsFrom (a + c) c n).length + 1 = n + 1
    rw [ints_len (a + c) c n]
theorem it_rng {a : Int} {n : Nat} : ItOk g al H ⟨intsFrom a 1 n, none, none⟩ (Itr a n) := by
  intro al1 H1 st1 s r1 hc
  refine ⟨fun i x hx => ?_, by show n ≤ _; rw [ints_len]; exact Nat.le_refl _⟩
  obtain ⟨h1, rfl⟩ := ints_get hx
  refine ⟨h1, fun v H' hy => ?_⟩
  obtain ⟨rfl, rfl⟩ := hy
  refine ⟨Stp.refl _ _, r1, ?_⟩
  show V.int _ = V.int _
  rw [Int.mul_one]
theorem numb_get : ∀ {xs : List AV} {k i : Nat} {x : AV}, (numbered k xs)[i]? = some x → ∃ y, xs[i]? = some y ∧ x = .tup [.int ((k + i : Nat) : Int), y]
  | [], k, i, x, h => by cases h
  | y :: ys, k, 0, x, h => by
    have h' : some (AV.tup [.int k, y]) = some x := h
    cases h'
    exact ⟨y, rfl, rfl⟩
  | y :: ys, k, i + 1, x, h => by
    have h' : (numbered (k + 1) ys)[i]? = some x := h
    obtain ⟨z, h1, h2⟩ := numb_get h'
    refine ⟨z, h1, ?_⟩
    rw [h2, show k + 1 + i = k + (i + 1) by omega]
theorem numb_len : ∀ (xs : List AV) (k : Nat), (numbered k xs).length = xs.length
  | [], _ => rfl
  | x :: xs, k => by
    show (numbered (k + 1) xs).length + 1 = xs.length + 1
    rw [numb_len xs (k + 1)]
theorem it_enum {w : Wk} {p : Addr} (h : SrcOk g al H w p true) : ItOk g al H ⟨numbered 0 w.xs, w.at1, w.at2⟩ (Ite g.K p) := by
  intro al1 H1 st1 s r1 hc
  obtain ⟨ws, h1, h2⟩ := h.at_ al1 H1 st1 s r1 hc
  rw [if_pos rfl] at h1
  refine ⟨fun i x hx => ?_, ws, h1, by rw [numb_len, h2.length]; exact Nat.le_refl _⟩
  obtain ⟨y, h3, rfl⟩ := numb_get hx
  obtain ⟨u, h4, h5⟩ := h2.get h3
  refine ⟨⟨ws, u, h1, h4⟩, fun v H' hy => ?_⟩
  obtain ⟨T, x, rfl, nT, rfl, f1⟩ := hy
  have e : x = u := Option.some.inj ((f1 ws h1).symm.trans h4)
  subst e
  have s2 : Stp al1 H1 al1 (upd H1 T (.tup [.int (i : Nat), x])) := stp_free nT
  refine ⟨s2, rel_free r1 nT, T, _, rfl, upd_same, ?_⟩
  refine ⟨_, _, rfl, ?_, RVs.one (RV.step r1.notup s2 _ _ h5)⟩
  show V.int _ = V.int _
  rw [Nat.zero_add]
theorem zip_get : ∀ (xs ys : List AV) (i : Nat) (x : AV), (zipped xs ys)[i]? = some x → ∃ y z, xs[i]? = some y ∧ ys[i]? = some z ∧ x = .tup [y, z]
  | [], _, i, x, h => by simp [zipped] at h
  | _ :: _, [], i, x, h => by simp [zipped] at h
  | a :: xs, b :: ys, 0, x, h => by
    have h' : some (AV.tup [a, b]) = some x := h
    cases h'
    exact ⟨a, b, rfl, rfl, rfl⟩
  | a :: xs, b :: ys, i + 1, x, h => by
    have h' : (zipped xs ys)[i]? = some x := h
    exact zip_get xs ys i x h'
theorem zip_len : ∀ (xs ys : List AV), xs.length ≤ (zipped xs ys).length ∨ ys.length ≤ (zipped xs ys).length
  | [], _ => .inl (Nat.zero_le _)
  | _ :: _, [] => .inr (Nat.zero_le _)
  | a :: xs, b :: ys => by
    show xs.length + 1 ≤ (zipped xs ys).length + 1 ∨ ys.length + 1 ≤ (zipped xs ys).length + 1
    rcases zip_len xs ys with h | h
    · exact .inl (by omega)
    · exact .inr (by omega)
theorem ck_l {xs : List AV} {a1 a2 : Option (Nat × AO)} (h : (Wk.mk xs a1 a2).ck st = true) {ys : List AV} : (Wk.mk ys a1 none).ck st = true := by
  unfold Wk.ck at h ⊢
  rw [Bool.and_eq_true] at h
  rw [Bool.and_eq_true]
  exact ⟨h.1, rfl⟩
theorem ck_r {xs : List AV} {a1 a2 : Option (Nat × AO)} (h : (Wk.mk xs a1 a2).ck st = true) {ys : List AV} : (Wk.mk ys a2 none).ck st = true := by
  unfold Wk.ck at h ⊢
  rw [Bool.and_eq_true] at h
  rw [Bool.and_eq_true]
  exact ⟨h.2, rfl⟩
theorem src_one {v : AV} {w : Wk} (e : srcA st v = some w) : w = ⟨w.xs, w.at1, none⟩ := by
  cases v with
  | ref n =>
    simp only [srcA] at e
    split at e
    · cases e; rfl
    · cases e
  | tup xs => cases e; rfl
  | str xs => cases e; rfl
  | rol xs => cases e; rfl
  | _ => cases e
theorem it_zip {w z : Wk} {p q : Addr} (ew : w = ⟨w.xs, w.at1, none⟩) (ez : z = ⟨z.xs, z.at1, none⟩) (h : SrcOk g al H w p true) (h' : SrcOk g al H z q true) : ItOk g al H ⟨zipped w.xs z.xs, w.at1, z.at1⟩ (Itz g.K p q) := by
  intro al1 H1 st1 s r1 hc
  obtain ⟨ws, h1, h2⟩ := h.at_ al1 H1 st1 s r1 (by rw [ew]; exact ck_l hc)
  obtain ⟨us, h3, h4⟩ := h'.at_ al1 H1 st1 s r1 (by rw [ez]; exact ck_r hc)
  rw [if_pos rfl] at h1 h3
  refine ⟨fun i x hx => ?_, ws, us, h1, h3, by rw [← h2.length, ← h4.length]; exact zip_len _ _⟩
  obtain ⟨y, y2, e1, e2, rfl⟩ := zip_get _ _ _ _ hx
  obtain ⟨u, h5, h6⟩ := h2.get e1
  obtain ⟨u2, h7, h8⟩ := h4.get e2
  refine ⟨⟨ws, us, u, u2, h1, h3, h5, h7⟩, fun v H' hy => ?_⟩
  obtain ⟨T, x, x2, rfl, nT, rfl, f1, f2⟩ := hy
  have e : x = u := Option.some.inj ((f1 ws h1).symm.trans h5)
  have e' : x2 = u2 := Option.some.inj ((f2 us h3).symm.trans h7)
  subst e e'
  have s2 : Stp al1 H1 al1 (upd H1 T (.tup [x, x2])) := stp_free nT
  exact ⟨s2, rel_free r1 nT, T, _, rfl, upd_same, _, _, rfl, RV.step r1.notup s2 _ _ h6, RVs.one (RV.step r1.notup s2 _ _ h8)⟩
variable {tg : Expr}
theorem k_seq (S : Same4 g X) (ha : PE X a (TV g W ra)) : PI X tg a (TIv g W fun e st => (ra e st).bind fun v st => wkA (srcA st v) st) := by
  refine ⟨fun pins s σ H Q I ⟨al, st, e, rel, rs, p⟩ => ?_⟩
  have q := TV.then (ra := ra) (f := fun e v st => wkA (srcA st v) st) rel rs p
  have U : PI X tg a (fun σ H R => iList X.K (TV g W ra) σ H R ∨ iTup X.K (TV g W ra) σ H R ∨ iStr (TV g W ra) σ H R) :=
    ⟨fun pins s σ H R I z => z.elim (fun z => (pi_list ha).run pins s σ H R I z) fun z => z.elim (fun z => (pi_tup ha).run pins s σ H R I z) fun z => (pi_str ha).run pins s σ H R I z⟩
  refine U.run pins s σ H Q I ?_
  rw [S.K]
  -- by what the machine gives
  cases hra : ra e st with
  | no =>
    have p : Post g (fun H al w J => ItOk g al H w J) ((ra e st).bind fun v st => wkA (srcA st v) st) al H Q (wOf g W σ) := p
    rw [hra] at p
    exact p.elim
  | ex c st2 =>
    have p : Post g (fun H al w J => ItOk g al H w J) ((ra e st).bind fun v st => wkA (srcA st v) st) al H Q (wOf g W σ) := p
    rw [hra] at p
    exact .inl ⟨al, st, e, rel, rs, by rw [hra]; exact p⟩
  | ok v st2 =>
    have p : Post g (fun H al w J => ItOk g al H w J) ((ra e st).bind fun v st => wkA (srcA st v) st) al H Q (wOf g W σ) := p
    rw [hra] at p
    have p : Post g (fun H al w J => ItOk g al H w J) (wkA (srcA st2 v) st2) al H Q (wOf g W σ) := p
    cases hw : srcA st2 v with
    | none => rw [hw] at p; exact p.elim
    | some w =>
      rw [hw] at p
      by_cases hz : ∃ z, v = .str z
      · obtain ⟨z, rfl⟩ := hz
        cases hw
        refine .inr (.inr ⟨al, st, e, rel, rs, ?_⟩)
        rw [hra]
        intro al1 H1 x s1 r1 rv
        exact ⟨_, rv, p al1 H1 _ s1 r1 it_str⟩
      · have hstr : ∀ z, v ≠ .str z := fun z q => hz ⟨z, q⟩
        cases v with
        | tup xs =>
          refine .inr (.inl ⟨al, st, e, rel, rs, ?_⟩)
          rw [hra]
          intro al1 H1 x s1 r1 rv
          cases hw
          obtain ⟨q0, ws, rfl, hp, r⟩ := rv
          obtain ⟨p0, L, e0, k, h5⟩ := src_of (v := .tup xs) (w := ⟨xs, none, none⟩) r1 ⟨q0, ws, rfl, hp, r⟩ rfl hstr
          have hso : SrcOk g al1 H1 ⟨xs, none, none⟩ q0 false := ⟨fun al2 H2 st3 s3 r3 _ => ⟨ws, by rw [if_neg Bool.false_ne_true]; exact .inl (.inl (tup_step r1.notup s3 hp)), RVs.step r1.notup s3 _ _ r⟩⟩
          exact ⟨q0, rfl, ⟨ws, .inl (.inl hp)⟩, p al1 H1 _ s1 r1 (it_tup hso)⟩
        | str z => exact absurd rfl (hstr z)
        | rol xs =>
          refine .inl ⟨al, st, e, rel, rs, ?_⟩
          rw [hra]
          intro al1 H1 x s1 r1 rv
          cases hw
          obtain ⟨q0, rfl, hp⟩ := rv
          have hso : SrcOk g al1 H1 ⟨xs.map .int, none, none⟩ q0 true := ⟨fun al2 H2 st3 s3 r3 _ => ⟨xs.map V.int, by rw [if_pos rfl]; exact (sqr_step r1.notup s3 hp).sq, RVs.ints⟩⟩
          exact ⟨q0, rfl, ⟨_, hp.sq⟩, p al1 H1 _ s1 r1 (it_lst hso)⟩
        | ref n =>
          refine .inl ⟨al, st, e, rel, rs, ?_⟩
          rw [hra]
          intro al1 H1 x s1 r1 rv
          simp only [srcA] at hw
          split at hw
          · rename_i xs q
            cases hw
            obtain ⟨q0, ws, rfl, ea, hp, r⟩ := ref_lst r1 rv q
            have hso : SrcOk g al1 H1 ⟨xs, some (n, .lst xs), none⟩ q0 true := ⟨fun al2 H2 st3 s3 r3 hc => by
              obtain ⟨ws2, h1, h2⟩ := lst_later r3 (s3.up n q0 ea) (ck_at hc rfl)
              exact ⟨ws2, by rw [if_pos rfl]; exact .inl (.inl h1), h2⟩⟩
            exact ⟨q0, rfl, ⟨ws, .inl (.inl hp)⟩, p al1 H1 _ s1 r1 (it_lst hso)⟩
          · cases hw
        | _ => cases hw
end
end L3

/-! Snd7: what is walked; comprehensions. -/
namespace L3
open PySem PySem.Spec PyProof.Rows L2

/-! ### enumerate(text) -/
/-- the signs of a text, each in a new pair -/
def IteS (x : Str) : L2.It :=
  ⟨fun i _ => i < x.cps.size, fun i H v H2 => ∃ T c, v = .ref T ∧ H T = none ∧ H2 = upd H T (.tup [.int (i : Nat), .str ⟨#[c]⟩]) ∧ x.cps[i]? = some c, fun i _ => x.cps.size ≤ i⟩
theorem draws_str {P : Program} {w : World} {A : Around} (hh : A.handled = none) (it : Addr) (x : Str) (t : Tok) :
    Draws P w A it [it] x.cps.size (fun i v => ∃ c u, x.cps[i]? = some c ∧ v = .str ⟨#[c]⟩ u) (fun i h => h.IsStrIter it (strIterType x) x t i) := by
  unfold strIterType
  by_cases h : x.cps.all (· < 128) = true
  · rw [if_pos h]; exact Draws.strAscii hh it x t
  · rw [if_neg h]; exact Draws.strWide hh it x t
theorem turn_enumS {P : Program} {w : World} {K : PySem.W.Frag} {elts : List Expr} {kk : Nat} {tp : Pos} (x : Str) (t : Tok) (e it : Addr) :
    Turn P w K (.Tuple elts kk tp) (IteS x) [e, it] e (fun i h => (∃ old, IsEnum h e it ((i : Nat) : Int) old) ∧ h.IsStrIter it (strIterType x) x t i ∧ e ≠ it ∧ i ≤ x.cps.size) where
  mem := List.mem_cons_self
  obj := by
    intro i h st b hb
    obtain ⟨⟨old, he⟩, ⟨o, ho, hc, hd⟩, _, _⟩ := st
    have two : b = e ∨ b = it := by simpa using hb
    rcases two with z | z
    · rw [z]
      exact ⟨_, he, fun v q => nomatch q⟩
    · rw [z]
      exact ⟨o, ho, fun v q => by rw [hd] at q; cases q⟩
  keep := by
    intro i h h2 st k
    obtain ⟨⟨old, he⟩, ⟨o, ho, hr⟩, ne, le⟩ := st
    exact ⟨⟨old, k e List.mem_cons_self _ he⟩, ⟨o, k it (List.mem_cons_of_mem _ List.mem_cons_self) o ho, hr⟩, ne, le⟩
  item := by
    intro X eP ew eK hc i pins s σ H E I hf st go
    obtain ⟨⟨old, he⟩, hit, ne, le⟩ := st
    subst eP ew eK
    have go' : i < x.cps.size := go
    have de : e < s.heap.objs.size := Heap.lt_size he
    have di : it < s.heap.objs.size := let ⟨_, q, _⟩ := hit; Heap.lt_size q
    have D := draws_str (P := X.prog) (w := X.w) (A := X.A.in1) (show X.A.in1.handled = none from I.ok.hd hc) it x t
    refine wpAny_pyNext_enum_itemD D he hit go ne (by simpa using ne) fun v h2 tk hv ho hit2 hT hsz hk => ?_
    obtain ⟨c, u, hx, rfl⟩ := hv
    refine ⟨_, rfl, wpAny_letOwnedTupleGo_enum (s := { s with heap := h2, toks := tk + 1 }) ho fun h3 he3 sb => ?_⟩
    have at3 : h3.get? s.heap.objs.size = some { cls := .type "tuple", data := .seq #[.int i tk, .str ⟨#[c]⟩ u] } := (sb.2 _ (Nat.ne_of_gt de)).trans hT
    have made : ObjOk X.prog X.w (upd H s.heap.objs.size (.tup [.int (i : Nat), .str ⟨#[c]⟩])) h3 s.heap.objs.size (.tup [.int (i : Nat), .str ⟨#[c]⟩]) := by
      refine ⟨by show 2 ≤ sizeLine; decide, [.int i tk, .str ⟨#[c]⟩ u], .cons ⟨_, rfl⟩ (.cons ⟨_, rfl⟩ .nil), ?_⟩
      exact ⟨_, at3, rfl, _, rfl⟩
    have J : Inv X pins σ (upd H s.heap.objs.size (.tup [.int (i : Nat), .str ⟨#[c]⟩])) { s with heap := h3, toks := tk + 1 } := by
      refine I.turnedNew (ch := [e, it]) (fun b ob hb q => ?_) hf (Nat.le_refl _) made
      have n1 : b ≠ e := fun z => hb (by simp [z])
      have n2 : b ≠ it := fun z => hb (by simp [z])
      exact (sb.2 b n1).trans (hk b ob n1 n2 q)
    refine ⟨.ref s.heap.objs.size, _, J, rfl, ⟨_, c, rfl, I.hok.fresh (Nat.le_refl _), rfl, hx⟩, ⟨⟨.str ⟨#[c]⟩ u, ?_⟩, ?_, ne, go'⟩, fun b hb => ?_⟩
    · rw [show ((i + 1 : Nat) : Int) = (i : Int) + 1 by omega]
      exact he3
    · obtain ⟨o, q, r⟩ := hit2
      exact ⟨o, (sb.2 it (Ne.symm ne)).trans q, r⟩
    · have lt : b < s.heap.objs.size := by
        have two : b = e ∨ b = it := by simpa using hb
        rcases two with z | z <;> (rw [z]; assumption)
      rw [upd_ne (Nat.ne_of_lt lt)]
      exact (hf b hb).1
  done := by
    intro X eP ew eK hc i pins s σ H E I hf st stop
    obtain ⟨⟨old, he⟩, hit, ne, le⟩ := st
    subst eP ew eK
    have ei : i = x.cps.size := Nat.le_antisymm le stop
    subst ei
    have D := draws_str (P := X.prog) (w := X.w) (A := X.A.in1) (show X.A.in1.handled = none from I.ok.hd hc) it x t
    obtain ⟨f0, f1, f2, f3, f4, f5⟩ := hf it (by simp)
    exact wpAny_pyNext_enum_endD D he hit fun h2 eb => ⟨rfl, I.turned (t' := s.toks) (fun b o hb q => eb b o hb q) f0 f1 f3 f4 f5⟩
  self := by
    intro A i s Q E st h
    obtain ⟨⟨_, he⟩, _⟩ := st
    exact wpAny_pyIter_enum he h

section
variable {g : G} {m : MC} {X : Cx} {W : WX} {a b c tg : Expr} {ra rb rc : Run1 AV} {pos : Pos} {al al' : Al} {H H' : Hp} {st : Sto} {σ : L2.St} {e : Slots}
/-- enumerate of a text, by values -/
def iEnumS (te : TE) : TI := fun σ H R => te σ H fun v H1 => ∃ x, v = .str x ∧ R (IteS x) H1
theorem TV.imp {Q Q' : VK} (h : TV g W ra σ H Q) (i : ∀ v H, Q v H → Q' v H) : TV g W ra σ H Q' := let ⟨al, st, e, r, rs, p⟩ := h; ⟨al, st, e, r, rs, p.imp i⟩
theorem call1 {pins : List (Addr × Obj)} {s : Shared} {T : String} {x : Str} {p : Pos} {R : VK} {Q : Value → Shared → Prop} (I : Inv X pins σ H s) (hg : glb X.env.scope x = true) (hm : X.mg x = none) (hv : bootBuiltins x = some (.type T)) (hs : noStar a = true) (ha : PE X a (TV g W ra)) (q : TV g W ra σ H R)
    (h : ∀ u s1 v H1, Inv X pins σ H1 s1 → RelV v u → R v H1 → wpAny (model X.prog X.w) X.A (call (.type T) [u]) Q X.xe s1) : wpAny (model X.prog X.w) X.A (eval (.Call (.Name x p) [a] [] pos) X.env) Q X.xe s := by
  obtain ⟨h1, h2, h3⟩ := glb_of hg
  refine Call_ (ld_blt I h1 hm hv (PyProof.Rows.callWith_type1 ?_ (star_of hs) rfl) h3 h2)
  refine thn ((pa_cons ha pa_nil (star_of hs)).run pos pins s σ H (fun vs H1 => ∃ v, vs = [v] ∧ R v H1) I (TV.imp q fun v H1 z => ⟨v, rfl, z⟩)) fun us s1 ⟨vs, H1, I1, r1, v, ev, q1⟩ => ?_
  subst ev
  obtain ⟨u, rfl, ru⟩ := vals1 r1
  exact h u s1 v H1 I1 ru q1
theorem it_enumS {z : List Nat} : ItOk g al H ⟨numbered 0 (z.map fun c => .str [c]), none, none⟩ (IteS (T8 z)) := by
  intro al1 H1 st1 s r1 hc
  have hsz : (T8 z).cps.size = z.length := by simp [T8]
  refine ⟨fun i x hx => ?_, ?_⟩
  · obtain ⟨y, h1, rfl⟩ := numb_get hx
    rw [List.getElem?_map] at h1
    obtain ⟨c, h2, rfl⟩ := Option.map_eq_some_iff.mp h1
    have hi : i < z.length := (List.getElem?_eq_some_iff.mp h2).1
    refine ⟨by show i < (T8 z).cps.size; rw [hsz]; exact hi, fun v H' hy => ?_⟩
    obtain ⟨T, d, rfl, nT, rfl, h3⟩ := hy
    have h4 : (T8 z).cps[i]? = z[i]? := by simp [T8]
    rw [h4, h2] at h3
    cases h3
    refine ⟨stp_free nT, rel_free r1 nT, T, _, rfl, upd_same, _, _, rfl, ?_, RVs.one rfl⟩
    show V.int _ = V.int _
    rw [Nat.zero_add]
  · show (T8 z).cps.size ≤ _
    rw [hsz, numb_len, List.length_map]
    exact Nat.le_refl _
theorem enum_go {elts : List Expr} {kk : Nat} {tp : Pos} {pins : List (Addr × Obj)} {s : Shared} {p : Addr} {ws : List V} {Q : L2.It → Hp → Prop} (I : Inv X pins σ H s) (hq : SqL X.K H p ws) (q : Q (Ite X.K p) H) :
    wpAny (model X.prog X.w) X.A (call (.type "enumerate") [.ref p]) (fun v s1 => wpAny (model X.prog X.w) X.A (pyIter v) (PIE X pins σ (.Tuple elts kk tp) Q) X.xe s1) X.xe s := by
  obtain ⟨its, rv, pl, hz⟩ := I.list hq
  refine call_enumerate_list pl.isList fun h2 he hit hsz hk => wpAny_pyIter_enum he ?_
  have I2 : Inv X pins σ H { s with heap := h2 } := I.kept (t' := s.toks) hk
  refine ⟨s.heap.objs.size + 1, [s.heap.objs.size + 1, s.heap.objs.size], _, _, H, rfl, I2, turn_enum p (s.heap.objs.size + 1) s.heap.objs.size, ⟨⟨.none, he⟩, hit, Nat.succ_ne_self _⟩, fun b hb => ?_, q⟩
  have le : s.heap.objs.size ≤ b := by
    have two : b = s.heap.objs.size + 1 ∨ b = s.heap.objs.size := by simpa using hb
    rcases two with z | z
    · rw [z]; exact Nat.le_succ _
    · rw [z]; exact Nat.le_refl _
  exact I.fpOk le (I.hok.fresh le)
theorem src_lst {v : AV} {p : Addr} {xs : List AV} (rel : Rel g al st H) (rv : RV g.K H al v (.ref p)) (e : lstA st v = some xs) : SrcOk g al H ⟨xs, atOf v xs, none⟩ p true := by
  cases v with
  | ref n =>
    simp only [lstA] at e
    split at e
    · rename_i ys q0
      cases e
      obtain ⟨p0, ws, ep, ea, hp, r⟩ := ref_lst rel rv q0
      cases ep
      exact ⟨fun al2 H2 st3 s3 r3 hc => by
        obtain ⟨ws2, h1, h2⟩ := lst_later r3 (s3.up n p ea) (ck_at hc rfl)
        exact ⟨ws2, by rw [if_pos rfl]; exact .inl (.inl h1), h2⟩⟩
    · cases e
  | rol ys =>
    cases e
    obtain ⟨p0, ep, hp⟩ := rv
    cases ep
    exact ⟨fun al2 H2 st3 s3 r3 _ => ⟨ys.map V.int, by rw [if_pos rfl]; exact (sqr_step rel.notup s3 hp).sq, RVs.ints⟩⟩
  | _ => cases e
theorem k_enum {elts : List Expr} {kk : Nat} {tp p : Pos} {x : Str} (S : Same4 g X) (hg : glb X.env.scope x = true) (hx : x = "enumerate") (hm : X.mg "enumerate" = none) (hs : noStar a = true) (ha : PE X a (TV g W ra)) :
    PI X (.Tuple elts kk tp) (.Call (.Name x p) [a] [] pos) (TIv g W fun e st => (ra e st).bind fun v st => wkA ((enumA st v)) st) := by
  subst hx
  obtain ⟨h1, h2, h3⟩ := glb_of hg
  refine ⟨fun pins s σ H Q I ⟨al, st, e, rel, rs, p⟩ => ?_⟩
  have q := TV.then (ra := ra) (f := fun e v st => wkA (enumA st v) st) rel rs p
  refine call1 I hg hm boot_enumerate hs ha q fun u s1 x H1 I1 ru ⟨al1, v, st1, rel1, rs1, rv1, p1, _⟩ => ?_
  obtain ⟨w, hw, hJ⟩ := Post.wk p1 rel1
  unfold enumA at hw
  cases v with
  | str z =>
    cases hw
    obtain rfl : x = .str (T8 z) := rv1
    obtain ⟨t, rfl⟩ := ru
    refine call_enumerate_str fun h2 he hit hsz hk => wpAny_pyIter_enum he ?_
    have I2 : Inv X pins σ H1 { s1 with heap := h2 } := I1.kept (t' := s1.toks) hk
    refine ⟨s1.heap.objs.size + 1, [s1.heap.objs.size + 1, s1.heap.objs.size], _, _, H1, rfl, I2, turn_enumS _ t (s1.heap.objs.size + 1) s1.heap.objs.size, ⟨⟨.none, he⟩, hit, Nat.succ_ne_self _, Nat.zero_le _⟩, fun b hb => ?_, hJ _ it_enumS⟩
    have le : s1.heap.objs.size ≤ b := by
      have two : b = s1.heap.objs.size + 1 ∨ b = s1.heap.objs.size := by simpa using hb
      rcases two with z | z
      · rw [z]; exact Nat.le_succ _
      · rw [z]; exact Nat.le_refl _
    exact I1.fpOk le (I1.hok.fresh le)
  | ref n =>
    simp only at hw
    split at hw
    · rename_i xs q0
      cases hw
      obtain ⟨p0, ws, rfl, ea, hp, r⟩ := ref_lst rel1 rv1 q0
      obtain rfl : u = Value.ref p0 := ru
      have hso : SrcOk g al1 H1 ⟨xs, some (n, .lst xs), none⟩ p0 true := ⟨fun al2 H2 st3 s3 r3 hc => by
        obtain ⟨ws2, h1, h2⟩ := lst_later r3 (s3.up n p0 ea) (ck_at hc rfl)
        exact ⟨ws2, by rw [if_pos rfl]; exact .inl (.inl h1), h2⟩⟩
      exact enum_go I1 (.inl (.inl hp)) (hJ _ (by rw [S.K]; exact it_enum hso))
    · cases hw
  | rol xs =>
    cases hw
    obtain ⟨p0, rfl, hp⟩ := rv1
    obtain rfl : u = Value.ref p0 := ru
    have hso : SrcOk g al1 H1 ⟨xs.map .int, none, none⟩ p0 true := ⟨fun al2 H2 st3 s3 r3 _ => ⟨xs.map V.int, by rw [if_pos rfl]; exact (sqr_step rel1.notup s3 hp).sq, RVs.ints⟩⟩
    exact enum_go I1 (by rw [S.K]; exact hp.sq) (hJ _ (by rw [S.K]; exact it_enum hso))
  | _ => cases hw
theorem src_tup {v : AV} {x : V} {xs : List AV} (rel : Rel g al st H) (rv : RV g.K H al v x) (e : tpA v = some xs) : ∃ p ws, x = .ref p ∧ SqT g.K H p ws ∧ RVs g.K H al xs ws ∧ SrcOk g al H ⟨xs, none, none⟩ p false := by
  cases v with
  | tup ys =>
    cases e
    obtain ⟨p, ws, rfl, hp, r⟩ := rv
    refine ⟨p, ws, rfl, .inl (.inl hp), r, ⟨fun al1 H1 st1 s r1 _ => ⟨ws, ?_, RVs.step rel.notup s _ _ r⟩⟩⟩
    rw [if_neg Bool.false_ne_true]
    exact .inl (.inl (tup_step rel.notup s hp))
  | _ => cases e
theorem it_zipT {w z : Wk} {p q : Addr} (ew : w = ⟨w.xs, none, none⟩) (ez : z = ⟨z.xs, none, none⟩) (h : SrcOk g al H w p false) (h' : SrcOk g al H z q false) : ItOk g al H ⟨zipped w.xs z.xs, none, none⟩ (RZ.ItzT g.K p q) := by
  intro al1 H1 st1 s r1 hc
  obtain ⟨ws, h1, h2⟩ := h.at_ al1 H1 st1 s r1 (by rw [ew]; rfl)
  obtain ⟨us, h3, h4⟩ := h'.at_ al1 H1 st1 s r1 (by rw [ez]; rfl)
  rw [if_neg Bool.false_ne_true] at h1 h3
  refine ⟨fun i x hx => ?_, ws, us, h1, h3, by rw [← h2.length, ← h4.length]; exact zip_len _ _⟩
  obtain ⟨y, y2, e1, e2, rfl⟩ := zip_get _ _ _ _ hx
  obtain ⟨u, h5, h6⟩ := h2.get e1
  obtain ⟨u2, h7, h8⟩ := h4.get e2
  refine ⟨⟨ws, us, u, u2, h1, h3, h5, h7⟩, fun v H' hy => ?_⟩
  obtain ⟨T, x, x2, rfl, nT, rfl, f1, f2⟩ := hy
  have e : x = u := Option.some.inj ((f1 ws h1).symm.trans h5)
  have e' : x2 = u2 := Option.some.inj ((f2 us h3).symm.trans h7)
  subst e e'
  have s2 : Stp al1 H1 al1 (upd H1 T (.tup [x, x2])) := stp_free nT
  exact ⟨s2, rel_free r1 nT, T, _, rfl, upd_same, _, _, rfl, RV.step r1.notup s2 _ _ h6, RVs.one (RV.step r1.notup s2 _ _ h8)⟩
theorem k_zip {elts : List Expr} {kk : Nat} {tp p : Pos} {x : Str} (S : Same4 g X) (hg : glb X.env.scope x = true) (hx : x = "zip") (hm : X.mg "zip" = none) (hs : noStar a = true) (hs2 : noStar b = true) (ha : PE X a (TV g W ra)) (hb : PE X b (TV g W rb)) :
    PI X (.Tuple elts kk tp) (.Call (.Name x p) [a, b] [] pos) (TIv g W fun e st => (ra e st).bind fun v st => (rb e st).bind fun u st => wkA (zipA st v u) st) := by
  subst hx
  obtain ⟨h1, h2, h3⟩ := glb_of hg
  refine PI.imp (RZ.pi_zipA h1 hm (pa_cons ha (pa_cons hb pa_nil (star_of hs2)) (star_of hs)) (star_of hs) (by rw [star_of hs2]; rfl)) fun σ H Q ⟨al, st, e, rel, rs, p⟩ => ?_
  obtain ⟨al0, st0, e0, rel0, rs0, p0⟩ := TV.then (ra := ra) (f := fun e v st => (rb e st).bind fun u st => wkA (zipA st v u) st) rel rs p
  refine ⟨al0, st0, e0, rel0, rs0, Post.imp p0 fun v H1 ⟨al1, av, st1, rel1, rs1, rv1, p1, s1⟩ => ?_⟩
  obtain ⟨al2, st2, e2, rel2, rs2, p2⟩ := TV.then (ra := rb) (f := fun e u st => wkA (zipA st av u) st) rel1 rs1 p1
  refine ⟨al2, st2, e2, rel2, rs2, Post.imp p2 fun u H2 ⟨al3, au, st3, rel3, rs3, rv3, p3, s3⟩ => ?_⟩
  obtain ⟨w, hw, hJ⟩ := Post.wk p3 rel3
  unfold zipA at hw
  split at hw
  · rename_i xs ys e1 e2
    cases hw
    have rv1' := RV.step rel1.notup s3 _ _ rv1
    obtain ⟨pa, ws, rfl, q1, r1⟩ := lst_of rel3 rv1' e1
    obtain ⟨pb, us, rfl, q2, r2⟩ := lst_of rel3 rv3 e2
    rw [S.K]
    refine ⟨pa, pb, ws, us, rfl, .inl ⟨q1, q2, hJ _ ?_⟩⟩
    have sa := src_lst rel3 rv1' e1
    have sb := src_lst rel3 rv3 e2
    exact it_zip rfl rfl sa sb
  · split at hw
    · rename_i xs ys e1 e2
      cases hw
      have rv1' := RV.step rel1.notup s3 _ _ rv1
      obtain ⟨pa, ws, rfl, q1, r1, sa⟩ := src_tup rel3 rv1' e1
      obtain ⟨pb, us, rfl, q2, r2, sb⟩ := src_tup rel3 rv3 e2
      rw [S.K]
      exact ⟨pa, pb, ws, us, rfl, .inr ⟨q1, q2, hJ _ (it_zipT rfl rfl sa sb)⟩⟩
    · cases hw
theorem okInt_of {i : Int} (h : okInt i = true) : -(2 ^ 62) ≤ i ∧ i < 2 ^ 62 := by
  unfold okInt at h
  simpa using h
theorem k_rng1 {p : Pos} {x : Str} (hg : glb X.env.scope x = true) (hx : x = "range") (hm : X.mg "range" = none) (hs : noStar a = true) (ha : PE X a (TV g W ra)) :
    PI X tg (.Call (.Name x p) [a] [] pos) (TIv g W fun e st => (ra e st).bind fun v st => wkA (rngA [v]) st) := by
  subst hx
  obtain ⟨h1, h2, h3⟩ := glb_of hg
  refine PI.imp (pi_range1 h1 hm (pa_cons ha pa_nil (star_of hs)) (star_of hs)) fun σ H Q ⟨al, st, e, rel, rs, p⟩ => ?_
  obtain ⟨al0, st0, e0, rel0, rs0, p0⟩ := TV.then (ra := ra) (f := fun e v st => wkA (rngA [v]) st) rel rs p
  refine ⟨al0, st0, e0, rel0, rs0, Post.imp p0 fun v H1 ⟨al1, av, st1, rel1, rs1, rv1, p1, s1⟩ => ?_⟩
  obtain ⟨w, hw, hJ⟩ := Post.wk p1 rel1
  cases av with
  | int j =>
    obtain rfl : v = .int j := rv1
    unfold rngA at hw
    by_cases hj : okInt j = true
    · simp only [if_pos hj] at hw
      cases hw
      exact ⟨j, rfl, (okInt_of hj).1, (okInt_of hj).2, hJ _ it_rng⟩
    · simp only [if_neg hj] at hw
      cases hw
  | _ => cases hw
theorem k_rng2 {p : Pos} {x : Str} (hg : glb X.env.scope x = true) (hx : x = "range") (hm : X.mg "range" = none) (hs : noStar a = true) (hs2 : noStar b = true) (ha : PE X a (TV g W ra)) (hb : PE X b (TV g W rb)) :
    PI X tg (.Call (.Name x p) [a, b] [] pos) (TIv g W fun e st => (ra e st).bind fun v st => (rb e st).bind fun u st => wkA (rngA [v, u]) st) := by
  subst hx
  obtain ⟨h1, h2, h3⟩ := glb_of hg
  refine PI.imp (pi_range2 h1 hm (pa_cons ha (pa_cons hb pa_nil (star_of hs2)) (star_of hs)) (by rw [star_of hs, star_of hs2]; rfl) (star_of hs2)) fun σ H Q ⟨al, st, e, rel, rs, p⟩ => ?_
  obtain ⟨al0, st0, e0, rel0, rs0, p0⟩ := TV.then (ra := ra) (f := fun e v st => (rb e st).bind fun u st => wkA (rngA [v, u]) st) rel rs p
  refine ⟨al0, st0, e0, rel0, rs0, Post.imp p0 fun v H1 ⟨al1, av, st1, rel1, rs1, rv1, p1, s1⟩ => ?_⟩
  obtain ⟨al2, st2, e2, rel2, rs2, p2⟩ := TV.then (ra := rb) (f := fun e u st => wkA (rngA [av, u]) st) rel1 rs1 p1
  refine ⟨al2, st2, e2, rel2, rs2, Post.imp p2 fun u H2 ⟨al3, au, st3, rel3, rs3, rv3, p3, s3⟩ => ?_⟩
  obtain ⟨w, hw, hJ⟩ := Post.wk p3 rel3
  cases av with
  | int i =>
    obtain rfl : v = .int i := rv1
    cases au with
    | int j =>
      obtain rfl : u = .int j := rv3
      unfold rngA at hw
      by_cases hj : (okInt i && okInt j) = true
      · simp only [if_pos hj] at hw
        cases hw
        rw [Bool.and_eq_true] at hj
        exact ⟨i, j, rfl, ⟨(okInt_of hj.1).1, (okInt_of hj.1).2, (okInt_of hj.2).1, (okInt_of hj.2).2⟩, hJ _ it_rng⟩
      · simp only [if_neg hj] at hw
        cases hw
    | _ => cases hw
  | _ => cases hw
theorem ints_getC {c : Int} : ∀ {n : Nat} {a : Int} {i : Nat} {x : AV}, (intsFrom a c n)[i]? = some x → i < n ∧ x = .int (a + (i : Nat) * c)
  | 0, a, i, x, h => by cases h
  | n + 1, a, 0, x, h => by
    have h : some (AV.int a) = some x := h
    cases h
    exact ⟨Nat.succ_pos _, by simp⟩
  | n + 1, a, i + 1, x, h => by
    have h : (intsFrom (a + c) c n)[i]? = some x := h
    obtain ⟨h1, h2⟩ := ints_getC h
    refine ⟨Nat.succ_lt_succ h1, ?_⟩
    rw [h2]
    congr 1
    rw [Int.natCast_add, Int.add_mul]
    show a + c + (i : Int) * c = a + ((i : Int) * c + 1 * c)
    omega
theorem it_rngC {a c : Int} {n : Nat} : ItOk g al H ⟨intsFrom a c n, none, none⟩ (Itc a c n) := by
  intro al1 H1 st1 s r1 hc
  refine ⟨fun i x hx => ?_, by show n ≤ _; rw [ints_len]; exact Nat.le_refl _⟩
  obtain ⟨h1, rfl⟩ := ints_getC hx
  refine ⟨h1, fun v H' hy => ?_⟩
  obtain ⟨rfl, rfl⟩ := hy
  exact ⟨Stp.refl _ _, r1, rfl⟩
theorem k_rng3 {c : Expr} {rc : Run1 AV} {p : Pos} {x : Str} (hg : glb X.env.scope x = true) (hx : x = "range") (hm : X.mg "range" = none) (hs : noStar a = true) (hs2 : noStar b = true) (hs3 : noStar c = true) (ha : PE X a (TV g W ra)) (hb : PE X b (TV g W rb)) (hc : PE X c (TV g W rc)) :
    PI X tg (.Call (.Name x p) [a, b, c] [] pos) (TIv g W fun e st => (ra e st).bind fun v st => (rb e st).bind fun u st => (rc e st).bind fun z st => wkA (rngC v u z) st) := by
  subst hx
  obtain ⟨h1, h2, h3⟩ := glb_of hg
  refine PI.imp (pi_range3 h1 hm (pa_cons ha (pa_cons hb (pa_cons hc pa_nil (star_of hs3)) (star_of hs2)) (star_of hs)) (star_of hs) (any_of_all (stars_of (by simp [hs2, hs3])))) fun σ H Q ⟨al, st, e, rel, rs, p⟩ => ?_
  obtain ⟨al0, st0, e0, rel0, rs0, p0⟩ := TV.then (ra := ra) (f := fun e v st => (rb e st).bind fun u st => (rc e st).bind fun z st => wkA (rngC v u z) st) rel rs p
  refine ⟨al0, st0, e0, rel0, rs0, Post.imp p0 fun v H1 ⟨al1, av, st1, rel1, rs1, rv1, p1, s1⟩ => ?_⟩
  obtain ⟨al2, st2, e2, rel2, rs2, p2⟩ := TV.then (ra := rb) (f := fun e u st => (rc e st).bind fun z st => wkA (rngC av u z) st) rel1 rs1 p1
  refine ⟨al2, st2, e2, rel2, rs2, Post.imp p2 fun u H2 ⟨al3, au, st3, rel3, rs3, rv3, p3, s3⟩ => ?_⟩
  obtain ⟨al4, st4, e4, rel4, rs4, p4⟩ := TV.then (ra := rc) (f := fun e z st => wkA (rngC av au z) st) rel3 rs3 p3
  refine ⟨al4, st4, e4, rel4, rs4, Post.imp p4 fun z H3 ⟨al5, az, st5, rel5, rs5, rv5, p5, s5⟩ => ?_⟩
  obtain ⟨w, hw, hJ⟩ := Post.wk p5 rel5
  unfold rngC at hw
  split at hw
  · rename_i x1 i j k x5 x6
    obtain rfl : v = .int i := rv1
    obtain rfl : u = .int j := rv3
    obtain rfl : z = .int k := rv5
    by_cases hj : k ≠ 0 ∧ k.natAbs < 1073741824 ∧ Builtin.Range.small i j k = true ∧ 0 ≤ Builtin.Range.rangeSize i j k
    · rw [if_pos hj] at hw
      cases hw
      exact ⟨i, j, k, _, rfl, ⟨hj.1, hj.2.1, hj.2.2.1, (Int.toNat_of_nonneg hj.2.2.2).symm⟩, hJ _ it_rngC⟩
    · rw [if_neg hj] at hw
      cases hw
  · cases hw
/-- list(range(n)) -/
theorem rvs_rg : ∀ (n : Nat) (a : Int), RVs g.K H al (intsFrom a 1 n) ((List.range n).map fun i => V.int (a + (i : Nat)))
  | 0, _ => rfl
  | n + 1, a => by
    rw [List.range_succ_eq_map, List.map_cons, List.map_map]
    refine ⟨_, _, rfl, ?_, ?_⟩
    · show V.int _ = V.int _
      congr 1
      omega
    · have e : ((fun i : Nat => V.int (a + (i : Nat))) ∘ Nat.succ) = fun i : Nat => V.int (a + 1 + (i : Nat)) := by
        funext i
        show V.int _ = V.int _
        congr 1
        have : ((Nat.succ i : Nat) : Int) = (i : Int) + 1 := rfl
        omega
      rw [e]
      exact rvs_rg n (a + 1)
theorem k_lrng {p p2 pos2 : Pos} {x y : Str} (hc : X.calm = true) (hg : glb X.env.scope x = true) (hg2 : glb X.env.scope y = true) (hx : x = "list") (hy : y = "range") (hm : X.mg "list" = none) (hm2 : X.mg "range" = none) (hs : noStar a = true) (ha : PE X a (TV g W ra)) :
    PE X (.Call (.Name x p) [.Call (.Name y p2) [a] [] pos2] [] pos) (TV g W fun e st => (ra e st).bind fun x st => lrngA x st) := by
  subst hx hy
  obtain ⟨h1, h2, h3⟩ := glb_of hg
  obtain ⟨h4, h5, h6⟩ := glb_of hg2
  refine PE.imp (pe_listRg hc h1 hm (prg_1 h4 hm2 ha (star_of hs))) fun σ H Q ⟨al, st, e, rel, rs, p⟩ => ?_
  obtain ⟨al0, st0, e0, rel0, rs0, p0⟩ := TV.then (ra := ra) (f := fun e v st => lrngA v st) rel rs p
  refine ⟨al0, st0, e0, rel0, rs0, Post.imp p0 fun v H1 ⟨al1, av, st1, rel1, rs1, rv1, p1, s1⟩ => ?_⟩
  cases av with
  | int j =>
    obtain rfl : v = .int j := rv1
    unfold lrngA at p1
    by_cases hj : 0 ≤ j ∧ j ≤ 1000000
    · simp only [if_pos hj] at p1
      refine ⟨j, rfl, RgOk.of_le (by omega) (by omega) (by omega) hj.1, fun q hq => ?_⟩
      unfold rgV
      rw [Int.sub_zero]
      exact Post.newL p1 rel1 (rvs_rg _ _) hq
    · simp only [if_neg hj] at p1
      exact p1.elim
  | _ => exact p1.elim
end
end L3

/-! Snd8: targets, comprehensions, all expressions. -/
namespace L3
open PySem PySem.Spec PyProof.Rows L2

section
variable {g : G} {m : MC} {X : Cx} {W : WX} {a b c tg : Expr} {ra rb rc : Run1 AV} {pos : Pos} {al al' : Al} {H H' : Hp} {st : Sto} {σ : L2.St} {e : Slots}
/-! ### targets -/
def setAll : List Nat → List V → L2.St → L2.St
  | i :: is, v :: vs, σ => setAll is vs (σ.set i (some v))
  | _, _, σ => σ
theorem go_set {K : PySem.W.Frag} : ∀ (is : List Nat) (xs : List AV) (vs : List V) (e : Slots) (σ : L2.St), RVs K H al xs vs → RS K H al e σ → RS K H al (bindT.go is xs e) (setAll is vs σ)
  | [], xs, vs, e, σ, _, rs => by
    cases xs <;> exact rs
  | i :: is, [], vs, e, σ, h, rs => by
    obtain rfl : vs = [] := h
    exact rs
  | i :: is, x :: xs, _, e, σ, ⟨w, r, e1, h1, h2⟩, rs => by
    subst e1
    exact go_set is xs r _ _ h2 (rs.put i h1)
def gNs (is : List Nat) : TGs := fun vs σ H Q => vs.length = is.length ∧ Q (setAll is vs σ) H
theorem PGs.imp {es : List Expr} {t t' : TGs} (h : PGs X es t) (i : ∀ vs σ H Q, t' vs σ H Q → t vs σ H Q) : PGs X es t' := ⟨fun pins s σ H vs us Q I r q => h.run pins s σ H vs us Q I r (i _ _ _ _ q)⟩
theorem PG.imp {e : Expr} {t t' : TG} (h : PG X e t) (i : ∀ v σ H Q, t' v σ H Q → t v σ H Q) : PG X e t' := ⟨fun pins s σ H v u Q I r q => h.run pins s σ H v u Q I r (i _ _ _ _ q)⟩
/-- a name of the slots -/
def nameB (m : MC) (c : Bool) (sc : Scope) (p : Expr × Nat) : Bool := match p.1 with
  | .Name x _ => slotB m p.2 x && locC c sc x
  | _ => false
theorem loc_of {sc : Scope} {x : Str} (h : locB sc x = true) : sc.names.lookup x = some .local := by
  unfold locB at h
  split at h
  · assumption
  · cases h
theorem lcell_of {sc : Scope} {x : Str} (h : lcellB sc x = true) : Loc sc x := by
  unfold lcellB at h
  split at h
  · rename_i z; exact .inl z
  · rename_i z; exact .inr z
  · cases h
theorem k_name {c : Bool} {i : Nat} {x : Str} (hf : c = true → ∀ x, X.fn x = true) (hN : X.N = m.N) (nd : X.N.Nodup) (h1 : slotB m i x = true) (h2 : locC c X.env.scope x = true) : PG X (.Name x pos) (gName i) := by
  cases c with
  | true => exact pg_name nd (by rw [hN]; exact of_decide_eq_true h1) (lcell_of h2) (.inl (hf rfl x))
  | false => exact pg_name nd (by rw [hN]; exact of_decide_eq_true h1) (.inl (loc_of h2)) (.inr (loc_of h2))
theorem name_of {c : Bool} {p : Expr × Nat} (h : nameB m c X.env.scope p = true) : ∃ x q, p.1 = .Name x q ∧ slotB m p.2 x = true ∧ locC c X.env.scope x = true := by
  obtain ⟨e, i⟩ := p
  unfold nameB at h
  cases e with
  | Name x q =>
    simp only [Bool.and_eq_true] at h
    exact ⟨x, q, rfl, h.1, h.2⟩
  | _ => cases h
theorem k_names {c : Bool} (hf : c = true → ∀ x, X.fn x = true) (hN : X.N = m.N) (nd : X.N.Nodup) : ∀ (es : List Expr) (is : List Nat), es.length = is.length → (es.zip is).all (nameB m c X.env.scope) = true → PGs X es (gNs is) ∧ (assignEach es X.env).length = is.length ∧ (assignEach es X.env).findIdx? (·.1) = none
  | [], [], _, _ => ⟨PGs.imp pgs_nil fun vs σ H Q ⟨h1, h2⟩ => by
      obtain rfl : vs = [] := List.eq_nil_of_length_eq_zero h1
      exact ⟨rfl, h2⟩, rfl, rfl⟩
  | [], _ :: _, h, _ => by cases h
  | _ :: _, [], h, _ => by cases h
  | e :: es, i :: is, h, hb => by
    rw [List.zip_cons_cons, List.all_cons, Bool.and_eq_true] at hb
    obtain ⟨x, q, e1, h1, h2⟩ := name_of hb.1
    have e1 : e = .Name x q := e1
    subst e1
    obtain ⟨k1, k2, k3⟩ := k_names hf hN nd es is (Nat.succ.inj h) hb.2
    refine ⟨PGs.imp (pgs_cons (k_name hf hN nd h1 h2) k1 rfl) fun vs σ H Q ⟨l, z⟩ => ?_, ?_, ?_⟩
    · cases vs with
      | nil => cases l
      | cons v vs => exact ⟨v, vs, rfl, Nat.succ.inj l, z⟩
    · show (assignEach es X.env).length + 1 = is.length + 1
      rw [k2]
    · show ((false, _) :: assignEach es X.env).findIdx? (·.1) = none
      rw [List.findIdx?_cons, k3]
      rfl
/-- a target, by the machine -/
def TGv (g : G) (t : Tg) : TG := fun v σ H Q => ∃ al st e x e2, Rel g al st H ∧ RS g.K H al e σ ∧ RV g.K H al x v ∧ bindT t x e = some e2 ∧ ∀ σ2, RS g.K H al e2 σ2 → σ2.length = σ.length → (∀ vs, (∀ i ∈ tgIds t, i ∈ vs) → L2.wipe σ2 vs = L2.wipe σ vs) → Q σ2 H
theorem wipe_set (σ : L2.St) (i : Nat) (v : Option V) : ∀ vs : List Nat, i ∈ vs → L2.wipe (σ.set i v) vs = L2.wipe σ vs
  | [], h => by cases h
  | j :: vs, h => by
    show (L2.wipe (σ.set i v) vs).set j none = (L2.wipe σ vs).set j none
    by_cases hi : i ∈ vs
    · rw [wipe_set σ i v vs hi]
    · have ej : i = j := by
        rcases List.mem_cons.mp h with z | z
        · exact z
        · exact absurd z hi
      subst ej
      have sw : ∀ (vs : List Nat) (σ : L2.St), i ∉ vs → L2.wipe (σ.set i v) vs = (L2.wipe σ vs).set i v := by
        intro vs
        induction vs with
        | nil => intro σ _; rfl
        | cons k r ih =>
          intro σ hk
          have h1 : i ≠ k := fun z => hk (by rw [z]; exact List.mem_cons_self)
          have h2 : i ∉ r := fun z => hk (List.mem_cons_of_mem _ z)
          show (L2.wipe (σ.set i v) r).set k none = ((L2.wipe σ r).set k none).set i v
          rw [ih σ h2, List.set_comm _ _ h1]
      rw [sw vs σ hi, List.set_set]
theorem wipe_all (vs : List Nat) : ∀ (is : List Nat) (ws : List V) (σ : L2.St), (∀ i ∈ is, i ∈ vs) → L2.wipe (setAll is ws σ) vs = L2.wipe σ vs
  | [], ws, σ, _ => rfl
  | i :: is, [], σ, _ => rfl
  | i :: is, w :: ws, σ, h => by
    show L2.wipe (setAll is ws (σ.set i (some w))) vs = _
    rw [wipe_all vs is ws _ fun j hj => h j (List.mem_cons_of_mem _ hj), wipe_set σ i _ vs (h i List.mem_cons_self)]
theorem setAll_len : ∀ (is : List Nat) (ws : List V) (σ : L2.St), (setAll is ws σ).length = σ.length
  | [], ws, σ => rfl
  | i :: is, [], σ => rfl
  | i :: is, w :: ws, σ => by
    show (setAll is ws (σ.set i (some w))).length = _
    rw [setAll_len is ws, List.length_set]
theorem k_tg {c : Bool} {t : Tg} (hf : c = true → ∀ x, X.fn x = true) (S : Same4 g X) (hc : X.calm = true) (hN : X.N = m.N) (nd : X.N.Nodup) (h : tgB m c X.env.scope t tg = true) : PG X tg (TGv g t) := by
  cases t with
  | nm i =>
    simp only [tgB] at h
    split at h
    · rename_i x q
      rw [Bool.and_eq_true] at h
      refine PG.imp (k_name hf hN nd h.1 h.2) fun v σ H Q ⟨al, st, e, y, e2, rel, rs, rv, eb, q⟩ => ?_
      cases eb
      exact q _ (rs.put i rv) (List.length_set) fun vs hv => wipe_set σ i _ vs (hv i List.mem_cons_self)
    · cases h
  | tp is =>
    simp only [tgB] at h
    split at h
    · rename_i es k q
      rw [Bool.and_eq_true] at h
      obtain ⟨k1, k2, k3⟩ := k_names hf hN nd es is (of_decide_eq_true h.1) (by
        have h2 := h.2
        exact h2)
      refine PG.imp (pg_tup hc k1 k2 k3) fun v σ H Q ⟨al, st, e, y, e2, rel, rs, rv, eb, q⟩ => ?_
      cases y with
      | tup xs =>
        simp only [bindT] at eb
        by_cases hl : is.length = xs.length
        · rw [if_pos hl] at eb
          cases eb
          obtain ⟨p, ws, rfl, hp, r⟩ := rv
          refine ⟨p, ws, rfl, .inl (.inl hp), by rw [hl, r.length], by rw [hl, r.length], ?_⟩
          exact q _ (go_set is xs ws e σ r rs) (setAll_len _ _ _) fun vs hv => wipe_all vs is ws σ (fun i hi => hv i hi)
        · rw [if_neg hl] at eb
          cases eb
      | _ => cases eb
    · cases h

/-! ### comprehensions -/
/-- what a thing leans on -/
structure Mono (K : PySem.W.Frag) (al : Al) (H : Hp) (al' : Al) (H' : Hp) : Prop where
  up : ∀ n p, al n = some p → al' n = some p
  tup : ∀ p ws, H p = some (.tup ws) → H' p = some (.tup ws)
  rd : ∀ p ws, SqR K H p ws → SqR K H' p ws
mutual
theorem RV.mono {K : PySem.W.Frag} (h : Mono K al H al' H') : ∀ (v : AV) (w : V), RV K H al v w → RV K H' al' v w
  | .non, _, r => r
  | .bl _, _, r => r
  | .int _, _, r => r
  | .str _, _, r => r
  | .tup xs, _, ⟨p, ws, e, q, r⟩ => ⟨p, ws, e, h.tup p ws q, RVs.mono h xs ws r⟩
  | .ref n, _, ⟨p, e, q⟩ => ⟨p, h.up n p e, q⟩
  | .rol xs, _, ⟨p, e, q⟩ => ⟨p, e, h.rd p _ q⟩
theorem RVs.mono {K : PySem.W.Frag} (h : Mono K al H al' H') : ∀ (v : List AV) (w : List V), RVs K H al v w → RVs K H' al' v w
  | [], _, r => r
  | x :: xs, _, ⟨w, r, e, h1, h2⟩ => ⟨w, r, e, RV.mono h x w h1, RVs.mono h xs r h2⟩
end
theorem RP.mono {κ : Type} {K : PySem.W.Frag} (h : Mono K al H al' H') : ∀ (v : List (κ × AV)) (w : List (κ × V)), RP K H al v w → RP K H' al' v w
  | [], _, r => r
  | x :: xs, _, ⟨w, r, e, h1, h2⟩ => ⟨w, r, e, RV.mono h x.2 w h1, RP.mono h xs r h2⟩
theorem RF.mono (h : Mono g.K al H al' H') : ∀ (v : List (Nat × AV)) (w : List (Str × V)), RF g H al v w → RF g H' al' v w
  | [], _, r => r
  | x :: xs, _, ⟨w, r, e, h1, h2⟩ => ⟨w, r, e, RV.mono h x.2 w h1, RF.mono h xs r h2⟩
theorem RO.mono {p : Addr} {o : AO} (h : Mono g.K al H al' H') (ep : H' p = H p) (r : RO g H al p o) : RO g H' al' p o := by
  cases o with
  | lst xs => obtain ⟨ws, e, q⟩ := r; exact ⟨ws, ep.trans e, RVs.mono h _ _ q⟩
  | dK xs => obtain ⟨ws, e, q⟩ := r; exact ⟨ws, ep.trans e, RP.mono h _ _ q⟩
  | dT xs => obtain ⟨ws, e, q⟩ := r; exact ⟨ws, ep.trans e, RP.mono h _ _ q⟩
  | ins c fs => obtain ⟨dx, ws, e, q⟩ := r; exact ⟨dx, ws, ep.trans e, RF.mono h _ _ q⟩
  | exc c => exact ep.trans r
theorem Mono.ofAl {K : PySem.W.Frag} (h : ∀ n p, al n = some p → al' n = some p) : Mono K al H al' H := ⟨h, fun _ _ q => q, fun _ _ q => q⟩
/-- a list that stands aside changed -/
theorem Mono.aside {K : PySem.W.Frag} {D : Addr} {xs : List V} {o : HO} (e : H D = some (.lst xs)) : Mono K al H al (upd H D o) := by
  refine ⟨fun _ _ h => h, fun p ws h => ?_, fun p ws h => ?_⟩
  · rw [upd_ne (ne_of h e (by intro z; cases z))]; exact h
  · rcases h with ⟨q, h⟩ | h
    · exact .inl ⟨q, by rw [upd_ne (ne_of h e (by intro z; cases z))]; exact h⟩
    · exact .inr h
theorem rel_aside {D : Addr} {xs : List V} {o : HO} (r : Rel g al st H) (nD : ∀ n, al n ≠ some D) (e : H D = some (.lst xs)) : Rel g al st (upd H D o) where
  inj := r.inj
  dom := r.dom
  obj n o' h := by
    obtain ⟨q, e2, ro⟩ := r.obj n o' h
    exact ⟨q, e2, ro.mono (Mono.aside e) (upd_ne fun z => nD n (by rw [e2, z]))⟩
theorem stp_aside {al0 : Al} {H0 : Hp} {D : Addr} {o : HO} (s : Stp al0 H0 al H) (hD : H0 D = none) : Stp al0 H0 al (upd H D o) where
  up := s.up
  fr p u h hn := by
    rw [upd_ne (ne_of_none h hD)]
    exact s.fr p u h hn
  nw := s.nw
  kp p h := by
    by_cases z : p = D
    · rw [z, upd_same]; intro q; cases q
    · rw [upd_ne z]; exact s.kp p h
theorem stp_take {al0 : Al} {H0 : Hp} {D : Addr} {n : Nat} (s : Stp al0 H0 al H) (hD : H0 D = none) (hn : ∀ p, al n ≠ some p) : Stp al0 H0 (alUp al n D) H where
  up m p h := by
    have q := s.up m p h
    unfold alUp
    rw [if_neg fun z => hn p (by rw [← z]; exact q)]
    exact q
  fr := s.fr
  nw m p h := by
    unfold alUp at h
    by_cases z : m = n
    · rw [if_pos z] at h; cases h; exact .inr hD
    · rw [if_neg z] at h; exact s.nw m p h
  kp := s.kp
theorem wipe_get (σ : L2.St) : ∀ (vs : List Nat) (i : Nat), (L2.wipe σ vs)[i]? = if i ∈ vs then (σ[i]?).map fun _ => none else σ[i]?
  | [], i => by simp [L2.wipe]
  | v :: vs, i => by
    show ((L2.wipe σ vs).set v none)[i]? = _
    rw [List.getElem?_set]
    by_cases z : v = i
    · subst z
      rw [if_pos rfl, if_pos List.mem_cons_self, wipe_length]
      by_cases hv : v < σ.length
      · rw [if_pos hv, List.getElem?_eq_getElem hv]; rfl
      · rw [if_neg hv, List.getElem?_eq_none (by omega)]; rfl
    · rw [if_neg z, wipe_get σ vs i]
      by_cases hi : i ∈ vs
      · rw [if_pos hi, if_pos (List.mem_cons_of_mem _ hi)]
      · rw [if_neg hi, if_neg fun q => (List.mem_cons.mp q).elim (fun y => z y.symm) hi]
theorem wipe_wipe (σ : L2.St) (vs : List Nat) : L2.wipe (L2.wipe σ vs) vs = L2.wipe σ vs := by
  apply List.ext_getElem?
  intro i
  rw [wipe_get, wipe_get]
  by_cases h : i ∈ vs
  · rw [if_pos h, if_pos h]
    cases σ[i]? <;> rfl
  · rw [if_neg h, if_neg h]
/-- an object that stood aside comes into the store -/
theorem rel_take {p : Addr} {o : AO} (r : Rel g al st H) (hq : ∀ n, al n ≠ some p) (hr : RO g H al p o) : Rel g (alUp al st.length p) (st ++ [o]) H where
  inj m n q h1 h2 := by
    unfold alUp at h1 h2
    by_cases z1 : m = st.length
    · rw [if_pos z1] at h1
      by_cases z2 : n = st.length
      · rw [z1, z2]
      · rw [if_neg z2] at h2; cases h1; exact absurd h2 (hq n)
    · rw [if_neg z1] at h1
      by_cases z2 : n = st.length
      · rw [if_pos z2] at h2; cases h2; exact absurd h1 (hq m)
      · rw [if_neg z2] at h2; exact r.inj m n q h1 h2
  dom n q h := by
    rw [List.length_append]
    unfold alUp at h
    by_cases z : n = st.length
    · rw [z]; exact Nat.lt_succ_self _
    · rw [if_neg z] at h; exact Nat.lt_succ_of_lt (r.dom n q h)
  obj n o' h := by
    have up : ∀ n q, al n = some q → alUp al st.length p n = some q := fun n q h => by
      unfold alUp
      rw [if_neg (Nat.ne_of_lt (r.dom n q h))]
      exact h
    by_cases z : n < st.length
    · rw [List.getElem?_append_left z] at h
      obtain ⟨q, e, ro⟩ := r.obj n o' h
      exact ⟨q, up n q e, ro.mono (Mono.ofAl up) rfl⟩
    · have e : n = st.length := by
        have := (List.getElem?_eq_some_iff.mp h).1
        rw [List.length_append] at this
        have h1 : [o].length = 1 := rfl
        omega
      rw [e, List.getElem?_append_right (Nat.le_refl _), Nat.sub_self] at h
      have h' : o = o' := Option.some.inj h
      subst h'
      exact ⟨p, by unfold alUp; rw [if_pos e], hr.mono (Mono.ofAl up) rfl⟩
def W0 : WX := fun _ _ _ _ => False
theorem RS.wipes {K : PySem.W.Frag} (rs : RS K H al e σ) (own : List Nat) : RS K H al (wipeA e own) (L2.wipe σ own) := rs.wipe own
/-- of what is run within: nothing raised -/
theorem noex_post {A B : Type} {RA : Hp → Al → A → B → Prop} {r : R A} {C D : Type} {RC : Hp → Al → C → D → Prop} {f : A → Sto → R C} {Q : D → Hp → Prop} {W' : Nat → Hp → Prop} {al0 : Al} {H0 : Hp} (s0 : Stp al0 H0 al H) (h : Post g RC (r.noex.bind f) al0 H0 Q W') :
    Post g RA r al H (fun b H1 => ∃ al1 a st1, Stp al H al1 H1 ∧ Rel g al1 st1 H1 ∧ RA H1 al1 a b ∧ Post g RC (f a st1) al0 H0 Q W') (wOf g W0 σ) := by
  cases r with
  | ok a st => exact fun al' H' b s rel rv => ⟨al', a, st, s, rel, rv, h⟩
  | ex c st => exact h.elim
  | no => exact h.elim
theorem k_lc {t : Tg} {own : List Nat} {elt iter : Expr} {ifs : List Expr} {scope : Scope} {ri : Run1 Wk} {rc rb : Run1 AV} (S : Same4 g X) (hc : X.calm = true) (nd : X.N.Nodup) (ok : BlkOk X.N X.env.scope scope (ownOf m own)) (hown : ∀ i ∈ tgIds t, i ∈ own)
    (hi : PI X tg iter (TIv g W ri)) (hset : noSetD iter = true) (hg : ∀ (s : Shared) (H : Hp) (C : Addr) (cl : List (Str × Addr)) (fp : List Addr), PG (X.blk s H scope (compEnvC scope cl C X.env) fp) tg (TGv g t))
    (ht : ∀ (s : Shared) (H : Hp) (C : Addr) (cl : List (Str × Addr)) (fp : List Addr), PTs (X.blk s H scope (compEnvC scope cl C X.env) fp) ifs (TTv g W0 rc))
    (he : ∀ (s : Shared) (H : Hp) (C : Addr) (cl : List (Str × Addr)) (fp : List Addr), PE (X.blk s H scope (compEnvC scope cl C X.env) fp) elt (TV g W0 rb)) :
    ∀ σ H Q, TV g W (fun e st => (ri e st).bind fun w st => (lcL t w.ck rc rb (wipeA e own) w.xs [] st).bind fun acc st => alloc (.lst acc) st) σ H Q → tLc (TIv g W ri) (TGv g t) (TTv g W0 rc) (TV g W0 rb) ((ownOf m own).map (·.2)) σ H Q := by
  intro σ H Q ⟨al, st, e, rel, rs, p⟩
  have eo : (ownOf m own).map (·.2) = own := by
    unfold ownOf
    rw [List.map_map]
    exact List.map_id _
  rw [eo]
  have q := Post.bind (RA := fun H al w J => ItOk g al H w J) p
  refine ⟨al, st, e, rel, rs, Post.imp q fun J H1 ⟨al1, w, st1, s1, rel1, hJ, p1⟩ D hD => ?_⟩
  let F : List AV → List AV → Sto → R AV := fun xs acc st => (lcL t w.ck rc rb (wipeA e own) xs acc st).bind fun acc st => alloc (.lst acc) st
  refine ⟨fun i k H' => ∃ al2 st2 acc accs, Stp al1 H1 al2 H' ∧ Rel g al2 st2 H' ∧ (∀ n, al2 n ≠ some D) ∧ H' D = some (.lst accs) ∧ RVs g.K H' al2 acc accs ∧ k = w.xs.length - i ∧ i ≤ w.xs.length ∧ Post g (rvOf g) (F (w.xs.drop i) acc st2) al1 H1 Q (wOf g W σ), ?_, ?_⟩
  · exact ⟨_, al1, st1, [], [], stp_free hD, rel_free rel1 hD, rel1.free hD, upd_same, rfl, rfl, Nat.zero_le _, p1⟩
  · intro i k H' ⟨al2, st2, acc, accs, s2, rel2, nD, eD, rA, ek, hle, p2⟩
    by_cases hck : w.ck st2 = true
    · obtain ⟨h1, h2⟩ := hJ al2 H' st2 s2 rel2 hck
      by_cases hi : i < w.xs.length
      · obtain ⟨j1, j2⟩ := h1 i _ (List.getElem?_eq_getElem hi)
        refine .inr ⟨j1, fun H3 => ∃ al2 st2 acc accs, Stp al1 H1 al2 H3 ∧ Rel g al2 st2 H3 ∧ (∀ n, al2 n ≠ some D) ∧ H3 D = some (.lst accs) ∧ RVs g.K H3 al2 acc accs ∧ Post g (rvOf g) (F (w.xs.drop (i + 1)) acc st2) al1 H1 Q (wOf g W σ), ?_, ?_⟩
        · intro H3 ⟨al3, st3, acc3, accs3, a1, a2, a3, a4, a5, a6⟩
          exact ⟨w.xs.length - (i + 1), by omega, al3, st3, acc3, accs3, a1, a2, a3, a4, a5, rfl, by omega, a6⟩
        · intro x H3 hy
          obtain ⟨s3, rel3, rv3⟩ := j2 x H3 hy
          have s13 := s2.trans s3
          have eD3 : H3 D = some (.lst accs) := s3.fr D _ eD nD
          rw [List.drop_eq_getElem_cons hi] at p2
          have p2 : Post g (rvOf g) ((lcL t w.ck rc rb (wipeA e own) (w.xs[i] :: w.xs.drop (i + 1)) acc st2).bind fun acc st => alloc (.lst acc) st) al1 H1 Q (wOf g W σ) := p2
          unfold lcL at p2
          rw [if_pos hck] at p2
          cases hb : bindT t w.xs[i] (wipeA e own) with
          | none => rw [hb] at p2; exact p2.elim
          | some e2 =>
            rw [hb] at p2
            dsimp only at p2
            have rs0 : RS g.K H3 al2 (wipeA e own) (L2.wipe σ own) := ((rs.step rel.notup (s1.trans s13)).wipe own)
            refine ⟨al2, st2, wipeA e own, w.xs[i], e2, rel3, rs0, rv3, hb, fun σ2 rs2 hl2 hw2 => ⟨?_, ?_⟩⟩
            · have z := hw2 own hown
              rw [z, wipe_wipe]
            · have p3 : Post g (rvOf g) ((tst (rc e2 st2)).noex.bind fun c st => (if c = true then (rb e2 st).noex.bind fun v st => if acc.length < lim then lcL t w.ck rc rb (wipeA e own) (w.xs.drop (i + 1)) (acc ++ [v]) st else .no else lcL t w.ck rc rb (wipeA e own) (w.xs.drop (i + 1)) acc st).bind fun acc st => alloc (.lst acc) st) al1 H1 Q (wOf g W σ) := by
                revert p2
                generalize tst (rc e2 st2) = y
                cases y <;> exact fun h => h
              refine ⟨al2, st2, e2, rel3, rs2, Post.imp (noex_post (RA := beOf) s13 p3) fun b H4 ⟨al4, b', st4, s4, rel4, eb, p4⟩ => ?_⟩
              have eb : b' = b := eb
              subst eb
              have eD4 : H4 D = some (.lst accs) := s4.fr D _ eD3 nD
              have nD4 : ∀ n, al4 n ≠ some D := fun n z => by
                rcases s4.nw n D z with y | y
                · exact nD n y
                · rw [eD3] at y; cases y
              have rA4 := RVs.step rel3.notup s4 _ _ (RVs.step rel2.notup s3 _ _ rA)
              cases b' with
              | false =>
                rw [if_neg Bool.false_ne_true] at p4 ⊢
                exact ⟨al4, st4, acc, accs, s13.trans s4, rel4, nD4, eD4, rA4, p4⟩
              | true =>
                rw [if_pos rfl] at p4 ⊢
                have p5 : Post g (rvOf g) ((rb e2 st4).noex.bind fun v st => (if acc.length < lim then lcL t w.ck rc rb (wipeA e own) (w.xs.drop (i + 1)) (acc ++ [v]) st else .no).bind fun acc st => alloc (.lst acc) st) al1 H1 Q (wOf g W σ) := by
                  revert p4
                  generalize rb e2 st4 = y
                  cases y <;> exact fun h => h
                refine ⟨al4, st4, e2, rel4, rs2.step rel3.notup s4, Post.imp (noex_post (RA := rvOf g) (s13.trans s4) p5) fun y H5 ⟨al5, v, st5, s5, rel5, rv5, p6⟩ => ?_⟩
                by_cases hl : acc.length < lim
                · rw [if_pos hl] at p6
                  have eD5 : H5 D = some (.lst accs) := s5.fr D _ eD4 nD4
                  have nD5 : ∀ n, al5 n ≠ some D := fun n z => by
                    rcases s5.nw n D z with y | y
                    · exact nD4 n y
                    · rw [eD4] at y; cases y
                  have rA5 := RVs.step rel4.notup s5 _ _ rA4
                  refine ⟨accs, eD5, by rw [← rA5.length, sizeLine_eq]; exact hl, al5, st5, acc ++ [v], accs ++ [y], ?_, ?_, nD5, upd_same, ?_, p6⟩
                  · exact stp_aside ((s13.trans s4).trans s5) hD
                  · exact rel_aside rel5 nD5 eD5
                  · exact RVs.mono (Mono.aside eD5) _ _ (rA5.append (RVs.one rv5))
                · rw [if_neg hl] at p6
                  exact p6.elim
      · have ei : i = w.xs.length := by omega
        subst ei
        refine .inl ⟨h2, ?_⟩
        have p2 : Post g (rvOf g) ((lcL t w.ck rc rb (wipeA e own) (w.xs.drop w.xs.length) acc st2).bind fun acc st => alloc (.lst acc) st) al1 H1 Q (wOf g W σ) := p2
        rw [List.drop_length] at p2
        unfold lcL at p2
        rw [if_pos hck] at p2
        have nn : ∀ p, al2 st2.length ≠ some p := fun p z => Nat.lt_irrefl _ (rel2.dom _ p z)
        exact p2 (alUp al2 st2.length D) H' _ (stp_take s2 hD nn) (rel_take rel2 nD ⟨accs, eD, rA⟩) ⟨D, by unfold alUp; rw [if_pos rfl], rfl⟩
    · have p2 : Post g (rvOf g) ((lcL t w.ck rc rb (wipeA e own) (w.xs.drop i) acc st2).bind fun acc st => alloc (.lst acc) st) al1 H1 Q (wOf g W σ) := p2
      revert p2
      generalize w.xs.drop i = l
      intro p2
      cases l with
      | nil =>
        unfold lcL at p2
        rw [if_neg hck] at p2
        exact p2.elim
      | cons x l =>
        unfold lcL at p2
        rw [if_neg hck] at p2
        exact p2.elim
end
end L3

/-! SndD: dict displays. -/
namespace L3
open PySem PySem.Spec PyProof.Rows L2

section
variable {g : G} {X : Cx} {W : WX} {a : Expr} {ra : Run1 AV} {rr : Run1 (List AV)} {pos : Pos} {al al' : Al} {H H' : Hp} {st : Sto} {σ : L2.St} {e : Slots}
theorem Post.shift {A B : Type} {RA : Hp → Al → A → B → Prop} {r : R A} {Q : B → Hp → Prop} {W : Nat → Hp → Prop} (s : Stp al H al' H') (h : Post g RA r al H Q W) : Post g RA r al' H' Q W := by
  cases r with
  | ok a st => exact fun al2 H2 b s2 => h al2 H2 b (s.trans s2)
  | ex c st => exact fun al2 H2 s2 => h al2 H2 (s.trans s2)
  | no => exact h
def kvV (k : AV) : V := match keyK k with
  | some k => kV k
  | none => .non
theorem key_of {p : Option Expr × AV} (h : keyB p = true) : ∃ b, p.1 = some b ∧ PE X b (tC (kvV p.2)) := by
  obtain ⟨o, k⟩ := p
  unfold keyB at h
  dsimp only at h
  split at h
  · rename_i c x y
    rw [Bool.and_eq_true] at h
    obtain ⟨h1, h2⟩ := h
    refine ⟨_, rfl, ?_⟩
    cases k with
    | int i =>
      cases c with
      | int j =>
        simp only [conB, decide_eq_true_eq] at h1
        subst h1
        exact pe_int
      | _ => cases h1
    | str s =>
      cases c with
      | str j =>
        simp only [conB, decide_eq_true_eq] at h1
        subst h1
        exact pe_str
      | _ => cases h1
    | _ => cases h2
  · cases h
def PpOk (g : G) (W : WX) (ks : List AV) (rr : Run1 (List AV)) (trs : List (TE × TE)) : Prop := ∀ (σ : L2.St) (H : Hp) (Q : List V → Hp → Prop) (Q2 : List (V × V) → Hp → Prop), TVs g W rr σ H Q → (∀ ws H2, ws.length = ks.length → Q ws H2 → Q2 ((ks.map kvV).zip ws) H2) → tPairs trs σ H Q2
def PpB (g : G) (X : Cx) (W : WX) (vs : List Expr) (rr : Run1 (List AV)) : Prop := ∀ (keys : List (Option Expr)) (ks : List AV) (pos : Pos), keys.length = ks.length → keys.length = vs.length → (keys.zip ks).all keyB = true → ∃ trs, PPs X pos keys vs trs ∧ PpOk g W ks rr trs
theorem pp_nil : PpB g X W [] (fun _ st => .ok [] st) := fun keys ks pos h1 h2 _ => by
  obtain rfl : keys = [] := List.eq_nil_of_length_eq_zero h2
  obtain rfl : ks = [] := List.eq_nil_of_length_eq_zero h1.symm
  exact ⟨[], pps_nil, fun σ H Q Q2 ⟨al, st, e, rel, rs, p⟩ i => i [] H rfl (Post.ok (RA := rvsOf g) p rel rfl)⟩
theorem pp_cons {es : List Expr} (ha : PE X a (TV g W ra)) (hr : PpB g X W es rr) : PpB g X W (a :: es) (fun e st => (ra e st).bind fun x st => (rr e st).bind fun xs st => .ok (x :: xs) st) := fun keys ks pos h1 h2 hb => by
  cases keys with
  | nil => cases h2
  | cons k keys =>
    cases ks with
    | nil => cases h1
    | cons c ks =>
      rw [List.zip_cons_cons, List.all_cons, Bool.and_eq_true] at hb
      obtain ⟨b, hk, pk⟩ := key_of (X := X) hb.1
      have hk : k = some b := hk
      subst hk
      obtain ⟨trs, p1, p2⟩ := hr keys ks pos (Nat.succ.inj h1) (Nat.succ.inj h2) hb.2
      refine ⟨_, pps_cons pk ha p1, fun σ H Q Q2 ⟨al, st, e, rel, rs, p⟩ i => ?_⟩
      show TV g W ra σ H fun y H2 => tPairs trs σ H2 fun ps H3 => Q2 ((kvV c, y) :: ps) H3
      refine TV.imp (TV.then (ra := ra) (f := fun e x st => (rr e st).bind fun xs st => .ok (x :: xs) st) rel rs p) fun y H1 ⟨al1, a1, st1, rel1, rs1, rv1, q1, s1⟩ => ?_
      obtain ⟨al2, st2, e2, rel2, rs2, q2⟩ := TVs.then (ra := rr) (f := fun e xs st => .ok (a1 :: xs) st) rel1 rs1 q1
      refine p2 _ _ (fun ws H3 => Q (y :: ws) H3) _ ⟨al2, st2, e2, rel2, rs2, Post.imp q2 fun xs H2 ⟨al3, a3, st3, rel3, rs3, rv3, p3, s3⟩ => Post.ok (RA := rvsOf g) p3 rel3 ⟨y, xs, rfl, RV.step rel1.notup s3 _ _ rv1, rv3⟩⟩ fun ws H3 hl q => ?_
      exact i (y :: ws) H3 (congrArg (· + 1) hl) q
theorem keys_of : ∀ {ks : List AV} {kk : List Key}, keysK ks = some kk → ks.map kvV = kk.map kV
  | [], _, e => by cases e; rfl
  | k :: ks, kk, e => by
    simp only [keysK] at e
    split at e
    · rename_i q r h1 h2
      cases e
      rw [List.map_cons, List.map_cons, keys_of h2]
      congr 1
      unfold kvV
      rw [h1]
    · cases e
theorem rp_zip {K : PySem.W.Frag} : ∀ {kk : List Key} {as : List AV} {ws : List V} {xs : List (Key × AV)} {ys : List (Key × V)}, RVs K H al as ws → RP K H al xs ys → RP K H al ((kk.zip as).foldl (fun acc kv => L3.putK kv.1 kv.2 acc) xs) ((kk.zip ws).foldl (fun acc kv => L2.putK acc kv.1 kv.2) ys)
  | [], _, _, _, _, _, h => h
  | k :: kk, [], ws, _, _, r, h => by
    obtain rfl : ws = [] := r
    exact h
  | k :: kk, a :: as, _, _, _, ⟨w, r, e, h1, h2⟩, h => by
    subst e
    have z := rp_zip (kk := kk) h2 (RP.put (k := k) h1 h)
    exact z
theorem k_ddsp {ks : List AV} {keys : List (Option Expr)} {vs : List Expr} (h : PpB g X W vs rr) (h1 : keys.length = ks.length) (h2 : keys.length = vs.length) (hb : (keys.zip ks).all keyB = true) (h0 : keys ≠ []) (h15 : keys.length ≤ 15) :
    PE X (.Dict keys vs pos) (TV g W fun e st => (rr e (st ++ [.dK []])).bind fun xs st2 => dispA st.length ks xs st2) := by
  obtain ⟨trs, p1, p2⟩ := h keys ks pos h1 h2 hb
  have hall : keys.all (·.isSome) = true := by
    refine List.all_eq_true.mpr fun k hk => ?_
    obtain ⟨i, hi, rfl⟩ := List.getElem_of_mem hk
    have hi2 : i < ks.length := by omega
    obtain ⟨b, e, _⟩ := key_of (X := X) (List.all_eq_true.mp hb (keys[i], ks[i]) (by
      have : (keys.zip ks)[i]'(by rw [List.length_zip]; omega) = (keys[i], ks[i]) := List.getElem_zip
      rw [← this]
      exact List.getElem_mem _))
    have e : keys[i] = some b := e
    rw [e]
    rfl
  refine PE.imp (pe_disp p1 hall h2 h0 h15) fun σ H Q ⟨al, st, e, rel, rs, p⟩ q hq => ?_
  have sn := stp_new (o := HO.dK []) rel hq (rel.free hq)
  have rel1 : Rel g (alUp al st.length q) (st ++ [.dK []]) (upd H q (.dK [])) := rel_new rel hq (rel.free hq) ⟨[], upd_same, rfl⟩
  have rs1 := rs.step rel.notup sn
  have p := Post.shift sn p
  obtain ⟨al2, st2, e2, rel2, rs2, q2⟩ := TVs.then (ra := rr) (f := fun e xs st2 => dispA st.length ks xs st2) rel1 rs1 p
  refine p2 _ _ _ _ ⟨al2, st2, e2, rel2, rs2, q2⟩ fun ws H2 hl ⟨al3, as, st3, rel3, rs3, rv3, p3, s3⟩ => ?_
  have eq3 : al3 st.length = some q := s3.up _ _ (by unfold alUp; rw [if_pos rfl])
  unfold dispA at p3
  split at p3
  · rename_i g0
    obtain ⟨q', eq', hp⟩ := rel3.obj _ _ g0
    rw [eq3] at eq'
    cases eq'
    obtain ⟨ys, hy, ry⟩ := hp
    obtain rfl : ys = [] := ry
    split at p3
    · rename_i kk hk
      have ek := keys_of hk
      by_cases hc : kk.length = as.length ∧ kk ≠ [] ∧ kk.length ≤ 15
      · rw [if_pos hc] at p3
        refine ⟨hy, kk.zip ws, ?_, ?_, ?_⟩
        · rw [ek]
          have : ∀ (kk : List Key) (ws : List V), (kk.map kV).zip ws = (kk.zip ws).map fun kv => (kV kv.1, kv.2) := by
            intro kk
            induction kk with
            | nil => intro ws; rfl
            | cons k kk ih =>
              intro ws
              cases ws with
              | nil => rfl
              | cons w ws => rw [List.map_cons, List.zip_cons_cons, List.zip_cons_cons, List.map_cons, ih]
          exact this kk ws
        · rw [List.length_zip]
          omega
        · exact Post.chg p3 rel3 eq3 hy ⟨q, eq3, rfl⟩ ⟨_, upd_same, rp_zip (RVs.step rel3.notup (stp_set eq3 hy) _ _ rv3) rfl⟩
      · rw [if_neg hc] at p3
        exact p3.elim
    · exact p3.elim
  · exact p3.elim
end
end L3

/-! SndX: errors that are caught and kept. -/
namespace L3
open PySem PySem.Spec PyProof.Rows L2

section
variable {X : Cx} {pins : List (Addr × Obj)} {σ : L2.St} {H : Hp} {s : Shared} {a : Addr} {cls : Value} {oe : Obj} {vs : Array Value}
/-- what flew and was caught is an object like others from now on -/
theorem tracked (I : Inv X pins σ H s) (na : H a = none) (ga : s.heap.get? a = some oe) (zc : Zc cls none oe) (fd : oe.data = .fields vs) (nw : X.s_0.heap.get? a = none) (nL : a ≠ X.env.locals) (nP : ∀ p ∈ X.pn ++ pins, p.1 ≠ a) : Inv X pins σ (upd H a (ExK cls a)) s := by
  have other : ∀ {b : Addr} {o : Obj}, X.s_0.heap.get? b = some o → b ≠ a := fun {b o} e z => by
    rw [z, nw] at e
    cases e
  have kept : ∀ {b : Addr} {o : HO}, H b = some o → upd H a (ExK cls a) b = some o := fun {b o} e => by
    rw [upd_ne (fun z => by rw [z, na] at e; cases e)]
    exact e
  have hn : HOk X.prog X.w (upd H a (ExK cls a)) s.heap := I.hok.laidN (fun _ _ z => z) na ⟨⟨oe, vs, ga, zc, fd⟩, ⟨oe, ga⟩, fun _ _ ⟨o, v, q, r⟩ k => ⟨o, v, k o q, r⟩⟩
  refine { ok := I.ok, os := I.os, bare := I.bare, base := ?_, loc := I.loc, cell := I.cell, free := ?_, freeC := fun x c e => ?_, pin := fun p hp => ?_, hok := hn, len := I.len }
  · exact { keep := I.base.keep, slot := I.base.slot, free := fun b o q n hx => by rw [upd_ne (other q)]; exact I.base.free b o q n hx, there := I.base.there, tups := fun b xs q => kept (I.base.tups b xs q), frzs := fun b o u q => kept (I.base.frzs b o u q), tbls := fun b ps q => let ⟨m, e⟩ := I.base.tbls b ps q; ⟨m, kept e⟩ }
  · rw [upd_ne (Ne.symm nL)]
    exact I.free
  · have ne : c ≠ a := fun z => by
      subst z
      obtain ⟨v, w⟩ := I.cell x c e
      obtain ⟨o, e1, e2⟩ := w
      rw [ga] at e1
      cases e1
      rw [fd] at e2
      cases e2
    rw [upd_ne ne]
    exact I.freeC x c e
  · obtain ⟨e1, e2, e3⟩ := I.pin p hp
    exact ⟨e1, by rw [upd_ne (nP p hp)]; exact e2, e3⟩
/-- into the hand of an except clause, and out of it -/
theorem inHand (I : Inv X pins σ H s) (b : Addr) : Inv (X.suite b (X.pn ++ pins)) [] σ H s :=
  { ok := I.ok.suite _ _, os := I.os, bare := I.bare, base := I.base, loc := I.loc, cell := I.cell, free := I.free, freeC := I.freeC, pin := fun p hp => I.pin p (by rw [List.append_nil] at hp; exact hp), hok := I.hok, len := I.len }
theorem outHand {b : Addr} {pn : List (Addr × Obj)} (I : Inv (X.suite b (X.pn ++ pins)) pn σ H s) (ok : X.Ok) : Inv X pins σ H s :=
  { ok := ok, os := I.os, bare := I.bare, base := I.base, loc := I.loc, cell := I.cell, free := I.free, freeC := I.freeC, pin := fun p hp => I.pin p (List.mem_append_left _ hp), hok := I.hok, len := I.len }
end
/-- what 'except c as n' (slot i) makes of an error: it is kept -/
def wKeep (K : PySem.W.Frag) (c : Value) (i : Nat) (ts : Addr → TS) (D : Ends) : WX := fun cls d σ H => d = none ∧ PySem.W.exmOne K cls c = some true ∧
  ∀ a, H a = none → ts a { nx := fun σ' H' => D.nx (σ'.set i none) H', rt := D.rt, bk := fun σ' H' => D.bk (σ'.set i none) H', ct := fun σ' H' => D.ct (σ'.set i none) H' } (σ.set i (some (.ref a))) (upd H a (ExK cls a))
section
variable {X : Cx} {x n : Str} {c : Value} {i : Nat} {body su : List Stmt} {b1 : Stmt} {q1 q2 q3 : Pos} {tb : WX → TS} {ts : Addr → TS}
theorem ps_try_keep (fs : X.stack = X.env :: X.outer) (fr : X.env.frame = some X.env.locals) (ex0 : X.ex = []) (nd : X.N.Nodup) (ni : X.N[i]? = some n) (lo : X.env.kindOf n = some .local) (nm : Names X x c)
    (hb : ∀ (W : WX) (pn : List (Addr × Obj)) (xe : Value → Shared → Prop), Takes (X.tr pn xe) W → PassesOwn (model X.prog X.w) X.A X.env xe → PSs (X.tr pn xe) body (tb W))
    (hs : ∀ (a : Addr) (pn : List (Addr × Obj)), PSs (X.suite a pn) (b1 :: su) (ts a)) :
    PS X (.Try body [.ExceptHandler (some (.Name x q1)) (some n) (b1 :: su) q2] [] [] q3) (fun D σ H => tb (wKeep X.K c i ts D) D σ H) := by
  constructor
  intro pins s σ H D I hyp
  have good := I.ok
  have frames : X.A.frames = some (X.env :: X.outer) := by rw [good.frames, fs]
  apply wpAny_Try_except
  let back : Value → Shared → Prop := fun e t1 => wpAny (model X.prog X.w) X.A (noteFrame e X.env)
    (fun _ t2 => wpAny (model X.prog X.w) X.A (setFlight e none)
      (fun _ t3 => wpAny (model X.prog X.w) X.A (handleBy e X.env [.ExceptHandler (some (.Name x q1)) (some n) (b1 :: su) q2]) (SP X pins D) X.xe t3) X.xe t2) X.xe t1
  have took : Takes (X.tr (X.pn ++ pins) back) (wKeep X.K c i ts D) := by
    rintro u s' ⟨a, B, sI, pins', σ', H', cls, d, rfl, J', nb, up, sky, na, os, ag, rfl, hit, go⟩
    have J : Inv X pins σ' H' sI := J'.ofTry good
    have sky' : Sky B (X.env :: X.outer) a (Zc cls none) X.env.locals s'.heap := fs ▸ sky
    refine Sky.land Zc.steady frames fr sky' fun h3 air up3 => ?_
    have J3 : Inv X pins σ' H' { s' with heap := h3 } := J.landed nb air.1 (up.trans up3) os ag
    have clear_of : ∀ {h : Heap} {o : Obj} {vs : Array Value}, h.FunFrames B (X.env :: X.outer) → h.get? a = some o → o.data = .fields vs → a ∉ frs (X.env :: X.outer) := by
      intro h o vs ff ge de hm
      obtain ⟨_, o', ge', bad⟩ := ff.mem hm
      rw [ge] at ge'
      cases ge'
      exact bad _ de
    obtain ⟨o3, v3, g3, z3, f3⟩ := air.there
    have away := clear_of air.2.2.1 g3 f3
    have nL : a ≠ X.env.locals := by
      intro z
      refine away (List.mem_filterMap.mpr ⟨X.env, List.mem_cons_self, ?_⟩)
      rw [fr, z]
    have notB : B.get? a = none := air.2.1
    have notI : sI.heap.get? a = none := by
      cases e : sI.heap.get? a with
      | none => rfl
      | some o =>
        have := nb a o e (by rw [fs]; exact away)
        rw [notB] at this
        cases this
    have not0 : X.s_0.heap.get? a = none := by
      cases e : X.s_0.heap.get? a with
      | none => rfl
      | some o =>
        obtain ⟨o', e'⟩ := J.base.there a o e (by rw [ex0]; exact List.not_mem_nil)
        rw [notI] at e'
        cases e'
    have notP : ∀ p ∈ X.pn ++ pins, p.1 ≠ a := by
      intro p hp z
      have := (J.pin p hp).1
      rw [z, notI] at this
      cases this
    have T3 := tracked J3 na g3 z3 f3 not0 nL notP
    have S3 := inHand T3 a
    refine wpAny_handleBy_cons (codeAny_handlers_test ?_) (by intro q; cases q)
    have kind : PySem.W.Looks (model X.prog X.w) h3 (typeOf (.ref a)) cls := fun A Q E t k q => wpAny_typeOf_ref (k _ _ g3) (by rw [z3.1]; exact q)
    have meets := PySem.W.exm_one (M := model X.prog X.w) J3.kIn kind hit
    have named : ∀ {Q : Value → Shared → Prop} {E : Value → Shared → Prop}, Q c { s' with heap := h3 } → wpAny (model X.prog X.w) (X.A.mark (some (.ref a))) (eval (.Name x q1) X.env) Q E { s' with heap := h3 } := by
      intro Q E q
      obtain ⟨hg, hd, hm | ⟨hm, hv, hnn⟩⟩ := nm
      · exact ld_glob (X := X.suite a (X.pn ++ pins)) S3 hg hm q hd
      · exact ld_blt (X := X.suite a (X.pn ++ pins)) S3 hg hm hv q hnn hd
    refine named (meets.here (codeAny_handlers_suite_as ?_))
    refine HandSPX.lands_againZ air fun h4 air4 up4 => ?_
    obtain ⟨o4, v4, g4, z4, f4⟩ := air4.there
    have J4 : Inv X pins σ' H' { s' with heap := h4 } := J.landed nb air4.1 ((up.trans up3).trans up4) os ag
    have S4 := inHand (tracked J4 na g4 z4 f4 not0 nL notP) a
    refine store_ok (X := X.suite a (X.pn ++ pins)) (v := .ref a) S4 nd ni (.inl lo) rfl (fun s5 S5 => ?_) (.inr lo)
    refine wpAny_mono ((hs a (X.pn ++ pins)).run [] s5 _ _ _ S5 (go a na)) (fun f s6 out => ?_) (fun _ _ z => False.elim z)
    have leave : ∀ {σ6 : L2.St} {H6 : Hp} {Q : Shared → Prop}, Inv (X.suite a (X.pn ++ pins)) [] σ6 H6 s6 → (∀ s7, Inv X pins (σ6.set i none) H6 s7 → Q s7) →
        wpAny (model X.prog X.w) X.A (do bindName X.env n .none; unbindBehindTheSuite X.env n q2) (fun _ s7 => Q s7) X.xe s6 := by
      intro σ6 H6 Q S6 k
      exact gone_ok (outHand S6 good) nd ni lo k
    cases f with
    | next => exact let ⟨_, _, S6, w6⟩ := out; leave S6 fun s7 J7 => ⟨_, _, J7, w6⟩
    | brk => exact let ⟨_, _, S6, w6⟩ := out; leave S6 fun s7 J7 => ⟨_, _, J7, w6⟩
    | cont => exact let ⟨_, _, S6, w6⟩ := out; leave S6 fun s7 J7 => ⟨_, _, J7, w6⟩
    | ret u => exact let ⟨_, _, _, S6, r6, w6⟩ := out; leave S6 fun s7 J7 => ⟨_, _, _, J7, r6, w6⟩
  refine wpAny_mono ((hb (wKeep X.K c i ts D) (X.pn ++ pins) back took PassesOwn.looking).run [] s σ H D (I.toTry _) hyp) (fun f s1 out => ?_) (fun e s1 he => he)
  cases f with
  | next => exact let ⟨_, _, J, w⟩ := out; wpAny_execs_nil ⟨_, _, J.ofTry good, w⟩
  | brk => exact let ⟨_, _, J, w⟩ := out; ⟨_, _, J.ofTry good, w⟩
  | cont => exact let ⟨_, _, J, w⟩ := out; ⟨_, _, J.ofTry good, w⟩
  | ret u => exact let ⟨_, _, _, J, r, w⟩ := out; ⟨_, _, _, J.ofTry good, r, w⟩
/-- isinstance(e, c), e a kept error -/
theorem call_isK {X : Cx} : CallR X (.builtin "isinstance") (fun xs H Q => ∃ (a D : Addr) (c : V) (cv : Value) (b : Bool), xs = [.ref a, c] ∧ H a = some (ExK (.ref D) a) ∧ ExcC X.K D ∧ (∀ u, RelV c u → u = cv) ∧ PySem.W.kitOne X.K (.ref D) cv = some b ∧ Q (.bl b) H) := by
  intro pins s σ H xs us Q I r h
  obtain ⟨a, D, c, cv, b, rfl, ha, C, hcv, e, q⟩ := h
  obtain ⟨⟨oe, vs, ho, hz, hd⟩, _, _⟩ := I.hok a _ ha
  cases r with
  | cons rx rr =>
    cases rr with
    | cons rt rr =>
      cases rr
      cases rx
      obtain rfl := hcv _ rt
      have J : PySem.W.InstAt s.heap a oe D none := by
        obtain ⟨oc, od, oda, osl⟩ := oe
        obtain ⟨h1, h2⟩ := hz
        dsimp only at h1 h2 hd
        subst h1 h2 hd
        exact ⟨ho, rfl, rfl, trivial⟩
      exact PySem.W.kia_one (PySem.W.handS_kitx_exc C.hg C.hk C.hs C.hd C.ha C.hn C.ht C.hm) I.kIn J e (fun z => nomatch z) fun tk => ⟨.bl b, H, I.kept (t' := tk) fun _ _ z => z, rfl, q⟩
end
theorem kit_sub {K : PySem.W.Frag} {C D : Addr} {b : Bool} (i : PySem.W.isClsIn K D = true) (t : PySem.W.typeIn K (.ref D) = some (.type "type")) (s : PySem.W.subIn K (.ref C) (.ref D) = some b) (n : b = true ∨ C ≠ D) : PySem.W.kitOne K (.ref C) (.ref D) = some b := by
  unfold PySem.W.kitOne
  by_cases e : (Value.ref C == Value.ref D) = true
  · rw [if_pos e]
    rcases n with n | n
    · rw [n]
    · exact absurd (by simpa using e) n
  · rw [if_neg e]
    unfold PySem.W.kitCls
    have i' : (PySem.W.clsIn K D).isSome = true := i
    have c : ((PySem.W.clsIn K D).isSome && PySem.W.typeIn K (.ref D) == some (.type "type")) = true := by
      rw [i', t]
      simp
    dsimp only
    rw [if_pos c, s]
theorem kit_ve {K : PySem.W.Frag} {C : Addr} {b : Bool} (s : PySem.W.subIn K (.ref C) (.type "ValueError") = some b) : PySem.W.kitOne K (.ref C) (.type "ValueError") = some b := by
  unfold PySem.W.kitOne
  rw [if_neg (by simp)]
  unfold PySem.W.kitCls
  dsimp only
  rw [if_pos (by decide), s]
end L3

/-! Snd9: all expressions. -/
namespace L3
open PySem PySem.Spec PyProof.Rows L2

structure Cxt (g : G) (m : MC) (n : Nat) (X : Cx) : Prop where
  S : Same4 g X
  N : X.N = m.N
  nd : X.N.Nodup
  calm : X.calm = true
  room : Room (n + 1) X.A
/-- classes of errors: their names, how they are raised, what they are -/
def clsV (g : G) (d : Nat) : Value := if d = 999 then .type "ValueError" else .ref (g.clsA d)
def EclOk (g : G) (x : Str) (d : Nat) : Prop := if d = 999 then x = "ValueError" ∧ g.mg x = none else g.mg x = some (.ref (g.clsA d))
structure RaisOk (g : G) (c : Nat) : Prop where
  ex : PySem.W.excIn g.K (g.clsA c) [.type "ValueError", .type "Exception", .type "BaseException", .type "object"] "ValueError.__new__" = true
  kp : PySem.W.keepIn g.K (.ref (g.clsA c)) = true
  sb : PySem.W.subIn g.K (.ref (g.clsA c)) (.type "BaseException") = some true
  ty : PySem.W.typeIn g.K (.ref (g.clsA c)) = some (.type "type")
  ne : c ≠ 999
structure SubOk (g : G) (c d : Nat) (b : Bool) : Prop where
  ec : ExcC g.K (g.clsA c)
  kt : PySem.W.kitOne g.K (.ref (g.clsA c)) (clsV g d) = some b
  em : b = true → d ≠ 999 → PySem.W.exmOne g.K (.ref (g.clsA c)) (.ref (g.clsA d)) = some true
structure GOk (g : G) (m : MC) (n : Nat) : Prop where
  nm : m.nm = g.nm
  nms : NmOk g
  bn : ∀ x ∈ biNames, g.mg x = none
  kon : ∀ p ∈ m.kons, ∃ u w, g.mg p.1 = some u ∧ conV p.2 = some w ∧ RelV w u
  dfs : ∀ p ∈ m.defs, DefOk g (n + 1) p.1 ((lev g.T n).1 p.2)
  cls : ∀ p ∈ m.clss, ∃ d, g.T.ini p.2 = some d ∧ ClsOk g n p.1 p.2 ((lev g.T n).2 d)
  mts : ∀ c k d, g.T.mt c k = some d → MetOk g (n + 1) c k ((lev g.T n).1 d)
  fls : ∀ c f, g.T.fl c f = true → Cls g.K (g.clsA c) ∧ NoAttr g.K (g.clsA c) (g.nm f)
  ecl : ∀ p ∈ m.ecls, EclOk g p.1 p.2
  exr : ∀ c ∈ m.rcls, RaisOk g c
  sub : ∀ c d b, g.T.sub c d = some b → SubOk g c d b
theorem Cxt.hu {g : G} {m : MC} {n : Nat} {X : Cx} (c : Cxt g m n X) : X.A.units + 65 < cLine := by
  have := c.room.un
  omega
theorem Cxt.blk {g : G} {m : MC} {n : Nat} {X : Cx} (c : Cxt g m n X) (s : Shared) (H : Hp) (scope : Scope) (C : Addr) (cl : List (Str × Addr)) (fp : List Addr) : Cxt g m n (X.blk s H scope (compEnvC scope cl C X.env) fp) where
  S := ⟨c.S.P, c.S.w, c.S.K, c.S.mg, c.S.base⟩
  N := c.N
  nd := c.nd
  calm := c.calm
  room := c.room
theorem takesW0 {X : Cx} : Takes X W0 := takes0
theorem bi_boot : ∀ b : Bi, biOk b = true → biS b ∈ biNames := by
  intro b h
  cases b <;> first | (simp [biS, biNames]; done) | (cases h)
section
variable {g : G} {m : MC} {n : Nat}
theorem k_bi {X : Cx} {W : WX} {b : Bi} {a : Expr} {es : List Expr} {rr : Run1 (List AV)} {p pos : Pos} (G0 : GOk g m n) (C : Cxt g m n X) (hb : biOk b = true) (hg : glb X.env.scope (biS b) = true) (hs : (a :: es).all noStar = true) (h : PA X (a :: es) (TVs g W rr)) :
    PE X (.Call (.Name (biS b) p) (a :: es) [] pos) (TV g W fun e st => (rr e st).bind fun xs st => callB b xs st) := by
  have hm : X.mg (biS b) = none := by rw [C.S.mg]; exact G0.bn _ (bi_boot b hb)
  cases b with
  | len => exact k_blt (cl_len C.S.K) hg hm (by decide +kernel) hs h
  | int => exact k_typ cl_int hg hm (by decide +kernel) hs h
  | str => exact k_typ cl_str hg hm (by decide +kernel) hs h
  | list => exact k_typ (cl_list C.S.K) hg hm (by decide +kernel) hs h
  | tuple => exact k_typ (cl_tuple C.S.K) hg hm (by decide +kernel) hs h
  | abs => exact k_blt cl_abs hg hm (by decide +kernel) hs h
  | all => exact k_blt (cl_all C.S.K C.calm) hg hm (by decide +kernel) hs h
  | any => exact k_blt (cl_any C.S.K C.calm) hg hm (by decide +kernel) hs h
  | sum => exact k_blt (cl_sum C.S.K C.calm) hg hm (by decide +kernel) hs h
  | max => exact k_blt (cl_max C.calm) hg hm (by decide +kernel) hs h
  | min => exact k_blt (cl_min C.calm) hg hm (by decide +kernel) hs h
  | sorted => exact k_blt (cl_sorted C.S.K C.hu) hg hm (by decide +kernel) hs h
  | range => cases hb
  | set => cases hb
/-- isinstance(e, C), e a kept error -/
theorem k_isx {X : Cx} {W : WX} {a : Expr} {ra : Run1 AV} {d : Nat} {x y : Str} {p p' pos : Pos} (G0 : GOk g m n) (S : Same4 g X) (hg : glb X.env.scope x = true) (hg2 : glb X.env.scope y = true) (hx : x = "isinstance") (hd : (y, d) ∈ m.ecls) (hs : noStar a = true) (ha : PE X a (TV g W ra)) :
    PE X (.Call (.Name x p) [a, .Name y p'] [] pos) (TV g W fun e st => (ra e st).bind fun v st => isxA g.T v d st) := by
  subst hx
  have hm : X.mg "isinstance" = none := by rw [S.mg]; exact G0.bn _ (by simp [biNames])
  obtain ⟨h1, h2, h3⟩ := glb_of hg
  obtain ⟨h4, h5, h6⟩ := glb_of hg2
  have E := G0.ecl _ hd
  have hty : ∃ c : V, PE X (.Name y p') (tC c) ∧ ∀ u, RelV c u → u = clsV g d := by
    unfold EclOk at E
    by_cases e9 : d = 999
    · rw [if_pos e9] at E
      obtain ⟨rfl, hn⟩ := E
      rw [← S.mg] at hn
      refine ⟨.ty "ValueError", pe_bltn h4 hn (by decide +kernel) rfl h6 h5, fun u r => ?_⟩
      unfold clsV
      rw [if_pos e9]
      exact r
    · rw [if_neg e9] at E
      have E : g.mg y = some (.ref (g.clsA d)) := E
      rw [← S.mg] at E
      refine ⟨.ref (g.clsA d), pe_glob h4 E rfl h5, fun u r => ?_⟩
      unfold clsV
      rw [if_neg e9]
      exact r
  obtain ⟨c, hc, hr⟩ := hty
  refine PE.imp (pe_callB call_isK h1 hm (show bootBuiltins "isinstance" = some (.builtin "isinstance") by decide +kernel) (pa_cons ha (pa_cons hc pa_nil) (star_of hs)) h3 h2 (star_of hs) (by rfl)) fun σ H Q ⟨al, st, e, rel, rs, pp⟩ => ?_
  obtain ⟨al0, st0, e0, rel0, rs0, p0⟩ := TV.then (ra := ra) (f := fun e v st => isxA g.T v d st) rel rs pp
  refine ⟨al0, st0, e0, rel0, rs0, Post.imp p0 fun v H1 ⟨al1, av, st1, rel1, rs1, rv1, p1, s1⟩ => ?_⟩
  cases av with
  | ref k =>
    simp only [isxA] at p1
    split at p1
    · rename_i c0 q0
      obtain ⟨b, e1, q⟩ := Post.ofB p1 rel1
      have sk := G0.sub _ _ _ e1
      obtain ⟨pp, ep, rfl⟩ := rv1
      obtain ⟨q', eq', hp⟩ := rel1.obj _ _ q0
      rw [ep] at eq'
      cases eq'
      exact ⟨pp, g.clsA c0, c, clsV g d, b, rfl, hp, S.K ▸ sk.ec, hr, S.K ▸ sk.kt, q⟩
    · exact p1.elim
  | _ => exact p1.elim
theorem and3 {a b : Bool} (h : (a && b) = true) : a = true ∧ b = true := by rwa [Bool.and_eq_true] at h
theorem pts_1 {X : Cx} {W : WX} {a : Expr} {ra : Run1 AV} (h : PT X a (TTv g W ra)) : PTs X [a] (TTv g W (andR ra fun _ st => .ok (.bl true) st)) := by
  have k := pts_one h
  refine ⟨fun pins s σ H Q I ⟨al, st, e, rel, rs, p⟩ => k.run pins s σ H Q I ⟨al, st, e, rel, rs, ?_⟩⟩
  rw [and_nilT] at p
  exact p
theorem pts_0 {X : Cx} {W : WX} : PTs X [] (TTv g W fun _ st => .ok (.bl true) st) := by
  refine ⟨fun pins s σ H Q I ⟨al, st, e, rel, rs, p⟩ => pts_nil.run pins s σ H Q I ?_⟩
  exact Post.ok (RA := beOf) (a := true) p rel rfl
theorem ifs_one {a b : Expr} (h : noSetD a = true) (env : Env) : ∀ x, foldedSetIterable a env x = pure x := by
  intro x
  cases a <;> first | rfl | (cases h)

theorem pair {X : Cx} {W : WX} {a : Expr} {ra : Run1 AV} (k : PE X a (TV g W ra)) (he : ∀ whole, isTrue a X.env whole = (do let v ← whole; standAt a.pos; holding [v] (truthy v))) : PE X a (TV g W ra) ∧ PT X a (TTv g W ra) := ⟨k, k_val k he⟩
theorem len1 {es : List Expr} (h : es.length ≤ 1) : es = [] ∨ ∃ a, es = [a] := by
  match es, h with
  | [], _ => exact .inl rfl
  | [a], _ => exact .inr ⟨a, rfl⟩
  | _ :: _ :: _, h => simp at h
/-- what is shown of a list of expressions -/
structure LsOk (g : G) (m : MC) (n : Nat) (X : Cx) (W : WX) (xs : Es) (vs : List Expr) : Prop where
  pa : vs.all noStar = true → PA X vs (TVs g W (evs g.T (lev g.T n).1 (lev g.T n).2 xs))
  land : vs ≠ [] → ∀ pos, PE X (.BoolOp .And vs pos) (TV g W (evAnd g.T (lev g.T n).1 (lev g.T n).2 xs)) ∧ PW X (.BoolOp .And vs pos) (TTv g W (evAnd g.T (lev g.T n).1 (lev g.T n).2 xs))
  lor : vs ≠ [] → ∀ pos, PE X (.BoolOp .Or vs pos) (TV g W (evOr g.T (lev g.T n).1 (lev g.T n).2 xs)) ∧ PW X (.BoolOp .Or vs pos) (TTv g W (evOr g.T (lev g.T n).1 (lev g.T n).2 xs))
  ifs : vs.length ≤ 1 → PTs X vs (TTv g W (evAnd g.T (lev g.T n).1 (lev g.T n).2 xs))
  pp : PpB g X W vs (evs g.T (lev g.T n).1 (lev g.T n).2 xs)
theorem ls_nil {X : Cx} {W : WX} : LsOk g m n X W .nil [] := by
  refine ⟨fun _ => ?_, fun h => absurd rfl h, fun h => absurd rfl h, fun _ => ?_, ?_⟩
  · have e : evs g.T (lev g.T n).1 (lev g.T n).2 .nil = fun _ st => .ok [] st := by funext e st; unfold evs; rfl
    rw [e]; exact k_nil
  · have e : evAnd g.T (lev g.T n).1 (lev g.T n).2 .nil = fun _ st => .ok (.bl true) st := by funext e st; unfold evAnd; rfl
    rw [e]; exact pts_0
  · have e : evs g.T (lev g.T n).1 (lev g.T n).2 .nil = fun _ st => .ok [] st := by funext e st; unfold evs; rfl
    rw [e]; exact pp_nil
theorem ls_cons {X : Cx} {W : WX} {x : E} {xs : Es} {v : Expr} {vs : List Expr} (h : PE X v (TV g W (ev g.T (lev g.T n).1 (lev g.T n).2 x)) ∧ PT X v (TTv g W (ev g.T (lev g.T n).1 (lev g.T n).2 x))) (L : LsOk g m n X W xs vs) (hx : vs = [] → xs = .nil) : LsOk g m n X W (.cons x xs) (v :: vs) := by
  have ea : evAnd g.T (lev g.T n).1 (lev g.T n).2 (.cons x xs) = andR (ev g.T (lev g.T n).1 (lev g.T n).2 x) (evAnd g.T (lev g.T n).1 (lev g.T n).2 xs) := by funext e st; rw [evAnd]; rfl
  have eo : evOr g.T (lev g.T n).1 (lev g.T n).2 (.cons x xs) = orR (ev g.T (lev g.T n).1 (lev g.T n).2 x) (evOr g.T (lev g.T n).1 (lev g.T n).2 xs) := by funext e st; rw [evOr]; rfl
  have en : evAnd g.T (lev g.T n).1 (lev g.T n).2 .nil = fun _ st => .ok (.bl true) st := by funext e st; unfold evAnd; rfl
  have em : evOr g.T (lev g.T n).1 (lev g.T n).2 .nil = fun _ st => .ok (.bl false) st := by funext e st; unfold evOr; rfl
  refine ⟨fun hs => ?_, fun _ pos => ?_, fun _ pos => ?_, fun hl => ?_, ?_⟩
  · rw [List.all_cons, Bool.and_eq_true] at hs
    have e : evs g.T (lev g.T n).1 (lev g.T n).2 (.cons x xs) = fun e st => (ev g.T (lev g.T n).1 (lev g.T n).2 x e st).bind fun a st => (evs g.T (lev g.T n).1 (lev g.T n).2 xs e st).bind fun as st => .ok (a :: as) st := by funext e st; rw [evs]
    rw [e]
    exact k_cons hs.1 h.1 (L.pa hs.2)
  · rw [ea]
    cases vs with
    | nil =>
      rw [hx rfl, en]
      refine ⟨?_, ?_⟩
      · exact PE.imp (pe_one h.1) fun σ H Q ⟨al, st, e, rel, rs, p⟩ => ⟨al, st, e, rel, rs, and_nil e st p⟩
      · exact PW.imp (pw_and1 h.2) fun σ H Q ⟨al, st, e, rel, rs, p⟩ => ⟨al, st, e, rel, rs, by rw [and_nilT] at p; exact p⟩
    | cons u us =>
      obtain ⟨k1, k2⟩ := L.land (by intro z; cases z) pos
      exact ⟨k_andV h.1 k1, k_andW h.2 k2⟩
  · rw [eo]
    cases vs with
    | nil =>
      rw [hx rfl, em]
      refine ⟨?_, ?_⟩
      · exact PE.imp (pe_one h.1) fun σ H Q ⟨al, st, e, rel, rs, p⟩ => ⟨al, st, e, rel, rs, or_nil e st p⟩
      · exact PW.imp (pw_or1 h.2) fun σ H Q ⟨al, st, e, rel, rs, p⟩ => ⟨al, st, e, rel, rs, by rw [or_nilT] at p; exact p⟩
    | cons u us =>
      obtain ⟨k1, k2⟩ := L.lor (by intro z; cases z) pos
      exact ⟨k_orV h.1 k1, k_orW h.2 k2⟩
  · have e1 : vs = [] := List.eq_nil_of_length_eq_zero (by simpa using hl)
    subst e1
    rw [ea, hx rfl, en]
    exact pts_1 h.2
  · have e : evs g.T (lev g.T n).1 (lev g.T n).2 (.cons x xs) = fun e st => (ev g.T (lev g.T n).1 (lev g.T n).2 x e st).bind fun a st => (evs g.T (lev g.T n).1 (lev g.T n).2 xs e st).bind fun as st => .ok (a :: as) st := by funext e st; rw [evs]
    rw [e]
    exact pp_cons h.1 L.pp
theorem mats_nil {xs : Es} {sc : Scope} (h : matEs m xs sc [] = true) : xs = .nil := by
  cases xs with
  | nil => rfl
  | cons a as => unfold matEs at h; cases h
theorem ne_nil {α : Type} {l : List α} (h : (!l.isEmpty) = true) : l ≠ [] := by
  intro z
  subst z
  cases h

set_option maxHeartbeats 4000000 in
mutual
theorem sE (G0 : GOk g m n) : ∀ (x : E) (X : Cx) (W : WX) (e : Expr), Cxt g m n X → Takes X W → matE m x X.env.scope e = true →
    PE X e (TV g W (ev g.T (lev g.T n).1 (lev g.T n).2 x)) ∧ PT X e (TTv g W (ev g.T (lev g.T n).1 (lev g.T n).2 x))
  | .var i, X, W, e, C, tk, h => by
    unfold matE at h
    split at h
    · obtain ⟨h, h4⟩ := and3 h
      obtain ⟨h, h3⟩ := and3 h
      obtain ⟨h1, h2⟩ := and3 h
      exact pair (k_var h1 h2 (by simpa using h3) (by simpa using h4) C.N) fun _ => rfl
    · cases h
  | .con v, X, W, e, C, tk, h => by
    unfold matE at h
    split at h
    · exact pair (k_con h) fun _ => rfl
    · cases h
  | .kon v, X, W, e, C, tk, h => by
    unfold matE at h
    split at h
    · obtain ⟨h1, h2⟩ := and3 h
      obtain ⟨u, w, q1, q2, q3⟩ := G0.kon _ (of_decide_eq_true h2)
      exact pair (k_kon h1 (by rw [C.S.mg]; exact q1) q2 q3) fun _ => rfl
    · cases h
  | .bin op a b, X, W, e, C, tk, h => by
    unfold matE at h
    split at h
    · obtain ⟨h, h3⟩ := and3 h
      obtain ⟨h1, h2⟩ := and3 h
      have e1 := of_decide_eq_true h1
      subst e1
      exact pair (k_bin (sE G0 a X W _ C tk h2).1 (sE G0 b X W _ C tk h3).1) fun _ => rfl
    · cases h
  | .neg a, X, W, e, C, tk, h => by
    unfold matE at h
    split at h
    · obtain ⟨h1, h2⟩ := and3 h
      have e1 := of_decide_eq_true h1
      subst e1
      exact pair (k_neg (sE G0 a X W _ C tk h2).1) fun _ => rfl
    · cases h
  | .not a, X, W, e, C, tk, h => by
    unfold matE at h
    split at h
    · obtain ⟨h1, h2⟩ := and3 h
      have e1 := of_decide_eq_true h1
      subst e1
      have k := sE G0 a X W _ C tk h2
      exact ⟨k_not k.1, k_notT k.2⟩
    · cases h
  | .and es, X, W, e, C, tk, h => by
    unfold matE at h
    split at h
    · obtain ⟨h, h3⟩ := and3 h
      obtain ⟨h1, h2⟩ := and3 h
      have e1 := of_decide_eq_true h1
      subst e1
      obtain ⟨k1, k2⟩ := (sEs G0 es X W _ C tk h3).land (ne_nil h2) _
      exact ⟨k1, k2.pt⟩
    · cases h
  | .or es, X, W, e, C, tk, h => by
    unfold matE at h
    split at h
    · obtain ⟨h, h3⟩ := and3 h
      obtain ⟨h1, h2⟩ := and3 h
      have e1 := of_decide_eq_true h1
      subst e1
      obtain ⟨k1, k2⟩ := (sEs G0 es X W _ C tk h3).lor (ne_nil h2) _
      exact ⟨k1, k2.pt⟩
    · cases h
  | .cmp op a b, X, W, e, C, tk, h => by
    unfold matE at h
    split at h
    · obtain ⟨h, h4⟩ := and3 h
      obtain ⟨h, h3⟩ := and3 h
      obtain ⟨h1, h2⟩ := and3 h
      have e1 := of_decide_eq_true h1
      subst e1
      have ka := (sE G0 a X W _ C tk h3).1
      have kb := (sE G0 b X W _ C tk h4).1
      exact ⟨k_cmp C.S.K C.hu h2 ka kb, k_cmpT C.S.K C.hu h2 ka kb⟩
    · cases h
  | .chain o1 o2 a b c, X, W, e, C, tk, h => by
    unfold matE at h
    split at h
    · obtain ⟨h, h6⟩ := and3 h
      obtain ⟨h, h5⟩ := and3 h
      obtain ⟨h, h4⟩ := and3 h
      obtain ⟨h, h3⟩ := and3 h
      obtain ⟨h1, h2⟩ := and3 h
      have e1 := of_decide_eq_true h1
      have e2 := of_decide_eq_true h2
      subst e1 e2
      have ka := (sE G0 a X W _ C tk h4).1
      have kb := (sE G0 b X W _ C tk h5).1
      have kc := (sE G0 c X W _ C tk h6).1
      exact ⟨k_chain C.S.K C.hu h3 ka kb kc, k_chainT C.S.K C.hu h3 ka kb kc⟩
    · cases h
  | .lst es, X, W, e, C, tk, h => by
    unfold matE at h
    split at h
    · obtain ⟨h1, h2⟩ := and3 h
      exact pair (k_lst ((sEs G0 es X W _ C tk h2).pa h1)) fun _ => rfl
    · cases h
  | .tup es, X, W, e, C, tk, h => by
    unfold matE at h
    split at h
    · obtain ⟨h1, h2⟩ := and3 h
      exact pair (k_tup ((sEs G0 es X W _ C tk h2).pa h1)) fun _ => rfl
    · cases h
  | .dnew t, X, W, e, C, tk, h => by
    unfold matE at h
    split at h
    · exact pair k_dnew fun _ => rfl
    · cases h
  | .ddsp ks es, X, W, e, C, tk, h => by
    unfold matE at h
    split at h
    · simp only [Bool.and_eq_true, decide_eq_true_eq, Bool.not_eq_true'] at h
      obtain ⟨⟨⟨⟨⟨⟨h1, h2⟩, h3⟩, h4⟩, h5⟩, h6⟩, h7⟩ := h
      have e1 : ev g.T (lev g.T n).1 (lev g.T n).2 (.ddsp ks es) = fun e st => (evs g.T (lev g.T n).1 (lev g.T n).2 es e (st ++ [.dK []])).bind fun xs st2 => dispA st.length ks xs st2 := by funext e st; rw [ev]
      rw [e1]
      exact pair (k_ddsp (sEs G0 es X W _ C tk h7).pp h1 h4 h2 (by intro z; rw [z] at h5; cases h5) h6) fun _ => rfl
    · cases h
  | .call d es, X, W, e, C, tk, h => by
    unfold matE at h
    split at h
    · rename_i x p vs pos
      obtain ⟨h, h4⟩ := and3 h
      obtain ⟨h, h3⟩ := and3 h
      obtain ⟨h1, h2⟩ := and3 h
      have D := G0.dfs _ (of_decide_eq_true h2)
      cases vs with
      | nil =>
        obtain rfl := mats_nil h4
        exact pair (k_call0 C.S C.room tk h1 D) fun _ => rfl
      | cons v vs => exact pair (k_call C.S C.room tk h1 D h3 ((sEs G0 es X W _ C tk h4).pa h3)) fun _ => rfl
    · cases h
  | .mk c es, X, W, e, C, tk, h => by
    unfold matE at h
    split at h
    · rename_i x p vs pos
      obtain ⟨h, h4⟩ := and3 h
      obtain ⟨h, h3⟩ := and3 h
      obtain ⟨h1, h2⟩ := and3 h
      obtain ⟨d, hd, D⟩ := G0.cls _ (of_decide_eq_true h2)
      have em : mkA g.T (lev g.T n).2 c = mkF ((lev g.T n).2 d) c := by
        funext xs st
        unfold mkA
        rw [hd]
        rfl
      have ee : ev g.T (lev g.T n).1 (lev g.T n).2 (.mk c es) = fun e st => (evs g.T (lev g.T n).1 (lev g.T n).2 es e st).bind fun xs st => mkF ((lev g.T n).2 d) c xs st := by
        funext e st
        rw [ev, em]
      rw [ee]
      cases vs with
      | nil =>
        obtain rfl := mats_nil h4
        exact pair (k_mk0 C.S C.room tk h1 D) fun _ => rfl
      | cons v vs => exact pair (k_mk C.S C.room tk h1 D h3 ((sEs G0 es X W _ C tk h4).pa h3)) fun _ => rfl
    · cases h
  | .bcall b es, X, W, e, C, tk, h => by
    unfold matE at h
    split at h
    · rename_i x p vs pos
      obtain ⟨h, h6⟩ := and3 h
      obtain ⟨h, h5⟩ := and3 h
      obtain ⟨h, h4⟩ := and3 h
      obtain ⟨h, h3⟩ := and3 h
      obtain ⟨h1, h2⟩ := and3 h
      have e1 := of_decide_eq_true h2
      subst e1
      cases vs with
      | nil => exact absurd rfl (ne_nil h4)
      | cons v vs => exact pair (k_bi G0 C h3 h1 h5 ((sEs G0 es X W _ C tk h6).pa h5)) fun _ => rfl
    · cases h
  | .isi t a, X, W, e, C, tk, h => by
    unfold matE at h
    split at h
    · rename_i x p a' y p' pos
      obtain ⟨h, h6⟩ := and3 h
      obtain ⟨h, h5⟩ := and3 h
      obtain ⟨h, h4⟩ := and3 h
      obtain ⟨h, h3⟩ := and3 h
      obtain ⟨h1, h2⟩ := and3 h
      have hy := of_decide_eq_true h4
      have hm : X.mg "isinstance" = none := by rw [C.S.mg]; exact G0.bn _ (by simp [biNames])
      have hm2 : X.mg y = none := by
        rw [C.S.mg]
        refine G0.bn _ ?_
        cases t <;> first
          | (cases hy; simp [biNames]; done)
          | (cases hy)
      exact pair (k_isi C.S h1 h2 (of_decide_eq_true h3) hy hm hm2 h5 (sE G0 a X W _ C tk h6).1) fun _ => rfl
    · cases h
  | .isx d a, X, W, e, C, tk, h => by
    unfold matE at h
    split at h
    · rename_i x p a' y p' pos
      obtain ⟨h, h6⟩ := and3 h
      obtain ⟨h, h5⟩ := and3 h
      obtain ⟨h, h4⟩ := and3 h
      obtain ⟨h, h3⟩ := and3 h
      obtain ⟨h1, h2⟩ := and3 h
      have e1 : ev g.T (lev g.T n).1 (lev g.T n).2 (.isx d a) = fun e st => (ev g.T (lev g.T n).1 (lev g.T n).2 a e st).bind fun v st => isxA g.T v d st := by funext e st; rw [ev]
      rw [e1]
      exact pair (k_isx G0 C.S h1 h2 (of_decide_eq_true h3) (of_decide_eq_true h4) h5 (sE G0 a X W _ C tk h6).1) fun _ => rfl
    · cases h
  | .meth k o es, X, W, e, C, tk, h => by
    unfold matE at h
    split at h
    · obtain ⟨h, h7⟩ := and3 h
      obtain ⟨h, h6⟩ := and3 h
      obtain ⟨h, h5⟩ := and3 h
      obtain ⟨h, h4⟩ := and3 h
      obtain ⟨h, h3⟩ := and3 h
      obtain ⟨h1, h2⟩ := and3 h
      have e1 := of_decide_eq_true h1
      rw [G0.nm] at e1
      subst e1
      exact pair (k_meth C.S C.hu G0.nms C.room tk (sE G0 o X W _ C tk h6).1 h4 (of_decide_eq_true h5) h2 h3 ((sEs G0 es X W _ C tk h7).pa h4) (G0.mts · k)) fun _ => rfl
    · cases h
  | .fld o f, X, W, e, C, tk, h => by
    unfold matE at h
    split at h
    · obtain ⟨h, h3⟩ := and3 h
      obtain ⟨h1, h2⟩ := and3 h
      have e1 := of_decide_eq_true h1
      rw [G0.nm] at e1
      subst e1
      exact pair (k_fld C.S h2 (sE G0 o X W _ C tk h3).1 (G0.fls · f)) fun _ => rfl
    · cases h
  | .idx o i, X, W, e, C, tk, h => by
    unfold matE at h
    split at h
    · obtain ⟨h, h3⟩ := and3 h
      obtain ⟨h1, h2⟩ := and3 h
      exact pair (k_idx C.S C.hu h1 (sE G0 o X W _ C tk h2).1 (sE G0 i X W _ C tk h3).1) fun _ => rfl
    · cases h
  | .sl o lo hi, X, W, e, C, tk, h => by
    unfold matE at h
    split at h
    · obtain ⟨h, h3⟩ := and3 h
      obtain ⟨h1, h2⟩ := and3 h
      exact pair (k_sl C.S (sE G0 o X W _ C tk h1).1 (sO G0 lo X W _ C tk h2) (sO G0 hi X W _ C tk h3)) fun _ => rfl
    · cases h
  | .lrng a, X, W, e, C, tk, h => by
    unfold matE at h
    split at h
    · obtain ⟨h, h6⟩ := and3 h
      obtain ⟨h, h5⟩ := and3 h
      obtain ⟨h, h4⟩ := and3 h
      obtain ⟨h, h3⟩ := and3 h
      obtain ⟨h1, h2⟩ := and3 h
      have hm : X.mg "list" = none := by rw [C.S.mg]; exact G0.bn _ (by simp [biNames])
      have hm2 : X.mg "range" = none := by rw [C.S.mg]; exact G0.bn _ (by simp [biNames])
      exact pair (k_lrng C.calm h1 h2 (of_decide_eq_true h3) (of_decide_eq_true h4) hm hm2 h5 (sE G0 a X W _ C tk h6).1) fun _ => rfl
    · cases h
  | .lc own tg it cond elt, X, W, e, C, tk, h => by
    unfold matE at h
    split at h
    · rename_i elt' tg' it' cs' scope pos
      obtain ⟨h, h8⟩ := and3 h
      obtain ⟨h, h7⟩ := and3 h
      obtain ⟨h, h6⟩ := and3 h
      obtain ⟨h, h5⟩ := and3 h
      obtain ⟨h, h4⟩ := and3 h
      obtain ⟨h, h3⟩ := and3 h
      obtain ⟨h1, h2⟩ := and3 h
      have ok := blkOk_by h1
      rw [← C.N] at ok
      have B := fun (s : Shared) (H : Hp) (Cc : Addr) (cl : List (Str × Addr)) (fp : List Addr) => C.blk s H scope Cc cl fp
      have hg := fun (s : Shared) (H : Hp) (Cc : Addr) (cl : List (Str × Addr)) (fp : List Addr) => k_tg (g := g) (m := m) (t := tg) (tg := tg') (X := X.blk s H scope (compEnvC scope cl Cc X.env) fp) (c := false) (fun z => (by cases z)) (B s H Cc cl fp).S C.calm C.N C.nd h6
      have ht := fun (s : Shared) (H : Hp) (Cc : Addr) (cl : List (Str × Addr)) (fp : List Addr) => (sEs G0 cond (X.blk s H scope (compEnvC scope cl Cc X.env) fp) W0 cs' (B s H Cc cl fp) takesW0 h7).ifs (of_decide_eq_true h4)
      have he := fun (s : Shared) (H : Hp) (Cc : Addr) (cl : List (Str × Addr)) (fp : List Addr) => (sE G0 elt (X.blk s H scope (compEnvC scope cl Cc X.env) fp) W0 elt' (B s H Cc cl fp) takesW0 h8).1
      have hi := sI G0 it X W tg' it' C tk h5
      refine pair ?_ fun _ => rfl
      have ee : ev g.T (lev g.T n).1 (lev g.T n).2 (.lc own tg it cond elt) = fun e st => (evIt g.T (lev g.T n).1 (lev g.T n).2 it e st).bind fun w st => (lcL tg w.ck (evAnd g.T (lev g.T n).1 (lev g.T n).2 cond) (ev g.T (lev g.T n).1 (lev g.T n).2 elt) (wipeA e own) w.xs [] st).bind fun acc st => alloc (.lst acc) st := by
        funext e st
        rw [ev]
      rw [ee]
      exact PE.imp (pe_lc C.calm C.nd hi (by rw [C.N] at ok ⊢; exact ok) hg ht he (ifs_one (b := it') h3 X.env)) (k_lc C.S C.calm C.nd ok (of_decide_eq_true h2) hi h3 hg ht he)
    · cases h
  | .bad, X, W, e, C, tk, h => ⟨⟨fun pins s σ H Q I ⟨al, st, e, rel, rs, p⟩ => p.elim⟩, ⟨fun pins s σ H Q I ⟨al, st, e, rel, rs, p⟩ => p.elim⟩⟩
theorem sEs (G0 : GOk g m n) : ∀ (xs : Es) (X : Cx) (W : WX) (vs : List Expr), Cxt g m n X → Takes X W → matEs m xs X.env.scope vs = true → LsOk g m n X W xs vs
  | .nil, X, W, vs, C, tk, h => by
    unfold matEs at h
    split at h
    · exact ls_nil
    · cases h
  | .cons a as, X, W, vs, C, tk, h => by
    unfold matEs at h
    split at h
    · obtain ⟨h1, h2⟩ := and3 h
      exact ls_cons (sE G0 a X W _ C tk h1) (sEs G0 as X W _ C tk h2) fun z => by
        rw [z] at h2
        exact mats_nil h2
    · cases h
theorem sO (G0 : GOk g m n) : ∀ (xs : Es) (X : Cx) (W : WX) (v : Option Expr), Cxt g m n X → Takes X W → matO m xs X.env.scope v = true → PO X v (TOv g W (evO g.T (lev g.T n).1 (lev g.T n).2 xs))
  | .nil, X, W, v, C, tk, h => by
    unfold matO at h
    split at h
    · exact k_oN
    · cases h
  | .cons a as, X, W, v, C, tk, h => by
    unfold matO at h
    split at h
    · obtain ⟨h1, h2⟩ := and3 h
      exact k_oS (sE G0 a X W _ C tk h2).1
    · cases h
theorem sI (G0 : GOk g m n) : ∀ (x : Iw) (X : Cx) (W : WX) (tg e : Expr), Cxt g m n X → Takes X W → matI m x X.env.scope tg e = true → PI X tg e (TIv g W (evIt g.T (lev g.T n).1 (lev g.T n).2 x))
  | .seq a, X, W, tg, e, C, tk, h => by
    unfold matI at h
    exact k_seq C.S (sE G0 a X W _ C tk h).1
  | .rng1 a, X, W, tg, e, C, tk, h => by
    unfold matI at h
    split at h
    · obtain ⟨h, h4⟩ := and3 h
      obtain ⟨h, h3⟩ := and3 h
      obtain ⟨h1, h2⟩ := and3 h
      exact k_rng1 h1 (of_decide_eq_true h2) (by rw [C.S.mg]; exact G0.bn _ (by simp [biNames])) h3 (sE G0 a X W _ C tk h4).1
    · cases h
  | .rng2 a b, X, W, tg, e, C, tk, h => by
    unfold matI at h
    split at h
    · obtain ⟨h, h6⟩ := and3 h
      obtain ⟨h, h5⟩ := and3 h
      obtain ⟨h, h4⟩ := and3 h
      obtain ⟨h, h3⟩ := and3 h
      obtain ⟨h1, h2⟩ := and3 h
      exact k_rng2 h1 (of_decide_eq_true h2) (by rw [C.S.mg]; exact G0.bn _ (by simp [biNames])) h3 h4 (sE G0 a X W _ C tk h5).1 (sE G0 b X W _ C tk h6).1
    · cases h
  | .rng3 a b c, X, W, tg, e, C, tk, h => by
    unfold matI at h
    split at h
    · obtain ⟨h, h8⟩ := and3 h
      obtain ⟨h, h7⟩ := and3 h
      obtain ⟨h, h6⟩ := and3 h
      obtain ⟨h, h5⟩ := and3 h
      obtain ⟨h, h4⟩ := and3 h
      obtain ⟨h, h3⟩ := and3 h
      obtain ⟨h1, h2⟩ := and3 h
      exact k_rng3 h1 (of_decide_eq_true h2) (by rw [C.S.mg]; exact G0.bn _ (by simp [biNames])) h3 h4 h5 (sE G0 a X W _ C tk h6).1 (sE G0 b X W _ C tk h7).1 (sE G0 c X W _ C tk h8).1
    · cases h
  | .enum a, X, W, tg, e, C, tk, h => by
    unfold matI at h
    split at h
    · split at h
      · obtain ⟨h, h4⟩ := and3 h
        obtain ⟨h, h3⟩ := and3 h
        obtain ⟨h1, h2⟩ := and3 h
        exact k_enum C.S h1 (of_decide_eq_true h2) (by rw [C.S.mg]; exact G0.bn _ (by simp [biNames])) h3 (sE G0 a X W _ C tk h4).1
      · cases h
    · cases h
  | .items a, X, W, tg, e, C, tk, h => by
    unfold matI at h
    cases h
  | .vals a, X, W, tg, e, C, tk, h => by
    unfold matI at h
    cases h
  | .zip a b, X, W, tg, e, C, tk, h => by
    unfold matI at h
    split at h
    · split at h
      · obtain ⟨h, h6⟩ := and3 h
        obtain ⟨h, h5⟩ := and3 h
        obtain ⟨h, h4⟩ := and3 h
        obtain ⟨h, h3⟩ := and3 h
        obtain ⟨h1, h2⟩ := and3 h
        exact k_zip C.S h1 (of_decide_eq_true h2) (by rw [C.S.mg]; exact G0.bn _ (by simp [biNames])) h3 h4 (sE G0 a X W _ C tk h5).1 (sE G0 b X W _ C tk h6).1
      · cases h
    · cases h
end
end
end L3

/-! Snd10: statements. -/
namespace L3
open PySem PySem.Spec PyProof.Rows L2

/-- where a statement's run of the machine stands, so does the model -/
def SPost (g : G) (r : SR) (al : Al) (H : Hp) (D : Ends) (W : WX) : Prop := match r with
  | .nx e st => ∀ al' H' σ', Stp al H al' H' → Rel g al' st H' → RS g.K H' al' e σ' → D.nx σ' H'
  | .rt v st => ∀ al' H' w, Stp al H al' H' → Rel g al' st H' → RV g.K H' al' v w → D.rt w H'
  | .ex c e st => ∀ al' H' σ', Stp al H al' H' → Rel g al' st H' → RS g.K H' al' e σ' → W (.ref (g.clsA c)) none σ' H'
  | .no => False
def TSv (g : G) (W : WX) (r : Slots → Sto → SR) : TS := fun D σ H => ∃ al st e, Rel g al st H ∧ RS g.K H al e σ ∧ SPost g (r e st) al H D W
theorem PS.imp {X : Cx} {s : Stmt} {t t' : TS} (h : PS X s t) (i : ∀ D σ H, t' D σ H → t D σ H) : PS X s t' := ⟨fun pins s σ H D I q => h.run pins s σ H D I (i D σ H q)⟩
theorem PSs.imp {X : Cx} {s : List Stmt} {t t' : TS} (h : PSs X s t) (i : ∀ D σ H, t' D σ H → t D σ H) : PSs X s t' := ⟨fun pins s σ H D I q => h.run pins s σ H D I (i D σ H q)⟩
section
variable {g : G} {m : MC} {n : Nat} {X : Cx} {W : WX} {a b c tg : Expr} {ra rb rc : Run1 AV} {pos : Pos} {al al' : Al} {H H' : Hp} {st : Sto} {σ : L2.St} {e : Slots} {D : Ends}
theorem SPost.shift {r : SR} (s : Stp al H al' H') (h : SPost g r al H D W) : SPost g r al' H' D W := by
  cases r with
  | nx e st => exact fun al2 H2 σ2 s2 => h al2 H2 σ2 (s.trans s2)
  | rt v st => exact fun al2 H2 w s2 => h al2 H2 w (s.trans s2)
  | ex c e st => exact fun al2 H2 σ2 s2 => h al2 H2 σ2 (s.trans s2)
  | no => exact h
/-- an expression, then the rest -/
theorem SPost.aft {A B : Type} {RA : Hp → Al → A → B → Prop} {r : R A} {f : A → Sto → SR} (rs : RS g.K H al e σ) (rel : Rel g al st H) (h : SPost g (r.st e f) al H D W) :
    Post g RA r al H (fun b H1 => ∃ al1 a st1, Stp al H al1 H1 ∧ Rel g al1 st1 H1 ∧ RA H1 al1 a b ∧ SPost g (f a st1) al1 H1 D W) (wOf g W σ) := by
  cases r with
  | ok a st1 => exact fun al1 H1 b s r1 ra => ⟨al1, a, st1, s, r1, ra, SPost.shift s h⟩
  | ex c st1 => exact fun al1 H1 s r1 => h al1 H1 σ s r1 (rs.step rel.notup s)
  | no => exact h
theorem SPost.bind {r : SR} {f : Slots → Sto → SR} (h : SPost g (r.bind f) al H D W) :
    SPost g r al H { D with nx := fun σ1 H1 => ∃ al1 st1 e1, Stp al H al1 H1 ∧ Rel g al1 st1 H1 ∧ RS g.K H1 al1 e1 σ1 ∧ SPost g (f e1 st1) al1 H1 D W } W := by
  cases r with
  | nx e st1 => exact fun al1 H1 σ1 s r1 rs => ⟨al1, st1, e, s, r1, rs, SPost.shift s h⟩
  | rt v st => exact h
  | ex c e st => exact h
  | no => exact h
theorem SPost.imp {r : SR} {D D' : Ends} (h : SPost g r al H D W) (i1 : ∀ σ H, D.nx σ H → D'.nx σ H) (i2 : ∀ v H, D.rt v H → D'.rt v H) : SPost g r al H D' W := by
  cases r with
  | nx e st1 => exact fun al1 H1 σ1 s r1 rs => i1 _ _ (h al1 H1 σ1 s r1 rs)
  | rt v st => exact fun al1 H1 w s r1 rv => i2 _ _ (h al1 H1 w s r1 rv)
  | ex c e st => exact h
  | no => exact h

/-! ### simple statements, each with what stands behind it -/
variable {rest : List Stmt} {k : Slots → Sto → SR}
theorem h_expr (ha : PE X a (TV g W ra)) (hc : noComp a = true) (hk : PSs X rest (TSv g W k)) : PSs X (.Expr a pos :: rest) (TSv g W fun e st => (ra e st).st e fun _ st => k e st) := by
  have sw : swapsWith a none pos.line X.env = pure false := by cases a <;> first | rfl | (cases hc)
  refine PSs.imp (pss_cons (ps_expr ha sw) hk) fun D σ H ⟨al, st, e, rel, rs, p⟩ => ?_
  refine ⟨al, st, e, rel, rs, Post.imp (SPost.aft (RA := rvOf g) rs rel p) fun x H1 ⟨al1, v, st1, s1, rel1, rv1, p1⟩ => ?_⟩
  exact ⟨al1, st1, e, rel1, rs.step rel.notup s1, p1⟩
theorem h_ret (ha : PE X a (TV g W ra)) : PSs X [.Return (some a) pos] (TSv g W fun e st => (ra e st).st e fun v st => .rt v st) := by
  refine PSs.imp (pss_one (ps_ret ha)) fun D σ H ⟨al, st, e, rel, rs, p⟩ => ?_
  refine ⟨al, st, e, rel, rs, Post.imp (SPost.aft (RA := rvOf g) rs rel p) fun x H1 ⟨al1, v, st1, s1, rel1, rv1, p1⟩ => ?_⟩
  exact p1 al1 H1 x (Stp.refl _ _) rel1 rv1
theorem h_retN : PSs X [.Return none pos] (TSv g W fun _ st => .rt .non st) :=
  PSs.imp (pss_one ps_retN) fun D σ H ⟨al, st, e, rel, rs, p⟩ => p al H .non (Stp.refl _ _) rel rfl
theorem h_done : PSs X [] (TSv g W fun e st => .nx e st) :=
  PSs.imp pss_nil fun D σ H ⟨al, st, e, rel, rs, p⟩ => p al H σ (Stp.refl _ _) rel rs
/-- name = value, by any rule that reads so -/
theorem h_asg {i : Nat} {s : Stmt} (hs : PS X s (tAsg (TV g W ra) (gName i))) (hk : PSs X rest (TSv g W k)) : PSs X (s :: rest) (TSv g W fun e st => (ra e st).st e fun v st => k (e.set i (some v)) st) := by
  refine PSs.imp (pss_cons hs hk) fun D σ H ⟨al, st, e, rel, rs, p⟩ => ?_
  refine ⟨al, st, e, rel, rs, Post.imp (SPost.aft (RA := rvOf g) rs rel p) fun x H1 ⟨al1, v, st1, s1, rel1, rv1, p1⟩ => ?_⟩
  exact ⟨al1, st1, _, rel1, (rs.step rel.notup s1).put i rv1, p1⟩
theorem h_asgT {is : List Nat} {es : List Expr} {tk : Nat} {tp : Pos} (hf : ∀ x, X.fn x = true) (S : Same4 g X) (hc : X.calm = true) (hN : X.N = m.N) (nd : X.N.Nodup) (h : tgB m true X.env.scope (.tp is) (.Tuple es tk tp) = true) (ha : PE X a (TV g W ra)) (hn : noComp a = true)
    (ht : noTup a = true) (hk : PSs X rest (TSv g W k)) :
    PSs X (.Assign [.Tuple es tk tp] a pos :: rest) (TSv g W fun e st => (ra e st).st e fun v st => SR.ofE (bindT (.tp is) v e) fun e => k e st) := by
  have sw : swapsWithSole [.Tuple es tk tp] a pos.line X.env = pure false := by
    cases a <;> first | rfl | (cases hn)
  have ss : swappedStores [.Tuple es tk tp] a X.env = pure none := by
    cases a <;> first | rfl | (cases ht)
  refine PSs.imp (pss_cons (ps_asg ha (k_tg (fun _ => hf) S hc hN nd h) sw ss) hk) fun D σ H ⟨al, st, e, rel, rs, p⟩ => ?_
  refine ⟨al, st, e, rel, rs, Post.imp (SPost.aft (RA := rvOf g) rs rel p) fun x H1 ⟨al1, v, st1, s1, rel1, rv1, p1⟩ => ?_⟩
  cases hb : bindT (.tp is) v e with
  | none => rw [hb] at p1; exact p1.elim
  | some e2 =>
    rw [hb] at p1
    exact ⟨al1, st1, e, v, e2, rel1, rs.step rel.notup s1, rv1, hb, fun σ2 rs2 _ _ => ⟨al1, st1, e2, rel1, rs2, p1⟩⟩
theorem rf_put {f : Nat} {v : AV} {w : V} (rv : RV g.K H al v w) : ∀ {fs : List (Nat × AV)} {ws : List (Str × V)}, RF g H al fs ws → RF g H al (putA f v fs) (putF (g.nm f) w ws)
  | [], ws, h => by
    obtain rfl : ws = [] := h
    exact ⟨w, [], rfl, rv, rfl⟩
  | x :: fs, ws, ⟨u, r, e1, h1, h2⟩ => by
    subst e1
    obtain ⟨x1, x2⟩ := x
    by_cases z : x1 = f
    · subst z
      have e2 : putA x1 v ((x1, x2) :: fs) = (x1, v) :: fs := by unfold putA; rw [if_pos rfl]
      have e3 : putF (g.nm x1) w ((g.nm x1, u) :: r) = (g.nm x1, w) :: r := by unfold putF; rw [if_pos rfl]
      rw [e2, e3]
      exact ⟨w, r, rfl, rv, h2⟩
    · have e2 : putA f v ((x1, x2) :: fs) = (x1, x2) :: putA f v fs := by
        conv => lhs; unfold putA
        rw [if_neg z]
      have e3 : putF (g.nm f) w ((g.nm x1, u) :: r) = (g.nm x1, u) :: putF (g.nm f) w r := by
        conv => lhs; unfold putF
        rw [if_neg fun q => z (g.nmInj _ _ q)]
      rw [e2, e3]
      exact ⟨u, _, rfl, h1, rf_put rv h2⟩
theorem RF.length : ∀ {fs : List (Nat × AV)} {ws : List (Str × V)}, RF g H al fs ws → fs.length = ws.length
  | [], ws, h => by
    obtain rfl : ws = [] := h
    rfl
  | x :: fs, ws, ⟨w, r, e1, h1, h2⟩ => by
    subst e1
    rw [List.length_cons, List.length_cons, RF.length h2]
/-- a field put -/
theorem fld_put {o v : AV} {x w : V} {f : Nat} {st2 : Sto} (rel : Rel g al st H) (ro : RV g.K H al o x) (rv : RV g.K H al v w) (e : setF g.T o f v st = some st2) :
    ∃ p c dx ws, x = .ref p ∧ H p = some (.ins (g.clsA c) dx ws) ∧ g.T.fl c f = true ∧ ws.length < 1000 ∧ Stp al H al (upd H p (.ins (g.clsA c) dx (putF (g.nm f) w ws))) ∧ Rel g al st2 (upd H p (.ins (g.clsA c) dx (putF (g.nm f) w ws))) := by
  cases o with
  | ref n =>
    simp only [setF] at e
    split at e
    · rename_i c fs q
      by_cases hf : g.T.fl c f = true ∧ fs.length < 900
      · rw [if_pos hf] at e
        cases e
        obtain ⟨p, dx, ws, rfl, ea, hp, r⟩ := ref_ins rel ro q
        have s := stp_set (o := .ins (g.clsA c) dx (putF (g.nm f) w ws)) ea hp
        refine ⟨p, c, dx, ws, rfl, hp, hf.1, by rw [← r.length]; omega, s, rel_set rel ea hp ⟨dx, _, upd_same, ?_⟩⟩
        exact RF.step rel.notup s _ _ (rf_put rv r)
      · rw [if_neg hf] at e
        cases e
    · cases e
  | _ => cases e
theorem h_asgF {o : Expr} {f : Nat} {ro : Run1 AV} {p2 : Pos} (S : Same4 g X) (ho : PE X o (TV g W ro)) (ha : PE X a (TV g W ra)) (hn : noComp a = true) (fl : ∀ c, g.T.fl c f = true → Cls g.K (g.clsA c) ∧ NoAttr g.K (g.clsA c) (g.nm f)) (hk : PSs X rest (TSv g W k)) :
    PSs X (.Assign [.Attribute o (g.nm f) p2] a pos :: rest) (TSv g W fun e st => (ra e st).st e fun v st => (ro e st).st e fun o st => SR.of (setF g.T o f v st) fun st => k e st) := by
  have sw : swapsWith a (some (.Attribute o (g.nm f) p2)) pos.line X.env = pure false := by cases a <;> first | rfl | (cases hn)
  refine PSs.imp (pss_cons (ps_fld ho ha sw) hk) fun D σ H ⟨al, st, e, rel, rs, p⟩ => ?_
  refine ⟨al, st, e, rel, rs, Post.imp (SPost.aft (RA := rvOf g) rs rel p) fun x H1 ⟨al1, v, st1, s1, rel1, rv1, p1⟩ => ?_⟩
  have rs1 := rs.step rel.notup s1
  refine ⟨al1, st1, e, rel1, rs1, Post.imp (SPost.aft (RA := rvOf g) rs1 rel1 p1) fun y H2 ⟨al2, u, st2, s2, rel2, rv2, p2⟩ => ?_⟩
  cases hf : setF g.T u f v st2 with
  | none => rw [hf] at p2; exact p2.elim
  | some st3 =>
    rw [hf] at p2
    obtain ⟨q, c, dx, ws, rfl, hq, h1, h2, s3, rel3⟩ := fld_put rel2 rv2 (RV.step rel1.notup s2 _ _ rv1) hf
    obtain ⟨c1, c2⟩ := fl c h1
    rw [S.K]
    exact ⟨q, _, dx, ws, rfl, hq, c1, c2, h2, al2, st3, e, rel3, (rs1.step rel1.notup s2).step rel2.notup s3, SPost.shift s3 p2⟩
theorem PSet.or2 {t t' : TSet} (h : PSet X t) (h' : PSet X t') : PSet X fun o i v H Q => t o i v H Q ∨ t' o i v H Q :=
  fun pins s σ H o i v ov iv u Q I r1 r2 r3 q => q.elim (fun z => h pins s σ H o i v ov iv u Q I r1 r2 r3 z) fun z => h' pins s σ H o i v ov iv u Q I r1 r2 r3 z
theorem set_dict (hu : X.A.units + 1 < cLine) : PSet X fun o i v H Q => ∃ p H2, o = .ref p ∧ DPut H p i v H2 ∧ Q H2 := by
  intro pins s σ H o i v ov iv u Q I r1 r2 r3 h
  obtain ⟨p, H2, rfl, d, q⟩ := h
  cases r1
  exact d_setItem hu I d r2 r3 fun s2 I2 => ⟨H2, I2, q⟩
theorem setI_ok {o i v : AV} {x y w : V} {st2 : Sto} {Q : Hp → Prop} (rel : Rel g al st H) (ro : RV g.K H al o x) (ri : RV g.K H al i y) (rv : RV g.K H al v w) (e : setI o i v st = some st2) (q : ∀ H2, Stp al H al H2 → Rel g al st2 H2 → Q H2) :
    rSetL x y w H Q ∨ ∃ p H2, x = .ref p ∧ DPut H p y w H2 ∧ Q H2 := by
  cases o with
  | ref n =>
    simp only [setI] at e
    split at e
    · rename_i xs q0
      split at e
      · rename_i j
        split at e
        · rename_i jj q1
          cases e
          obtain ⟨p, ws, rfl, ea, hp, r⟩ := ref_lst rel ro q0
          obtain rfl : y = .int j := ri
          have s := stp_set (o := .lst (ws.set jj w)) ea hp
          refine .inl ⟨p, ws, j, jj, rfl, rfl, hp, by rw [← r.length]; exact q1, q _ s (rel_set rel ea hp ⟨_, upd_same, ?_⟩)⟩
          exact RVs.step rel.notup s _ _ (RVs.setAt rv jj r)
        · cases e
      · cases e
    · rename_i kvs q0
      split at e
      · rename_i kk q1
        by_cases hl : kvs.length < lim
        · rw [if_pos hl] at e
          cases e
          obtain ⟨p, ws, rfl, ea, hp, r⟩ := ref_dK rel ro q0
          have s := stp_set (o := .dK (L2.putK ws kk w)) ea hp
          refine .inr ⟨p, _, rfl, ?_, q _ s (rel_set rel ea hp ⟨_, upd_same, RP.step rel.notup s _ _ (RP.put rv r)⟩)⟩
          rw [keyK_is ri q1]
          exact DPut.k hp (by rw [← r.length, sizeLine_eq]; exact hl)
        · rw [if_neg hl] at e
          cases e
      · cases e
    · rename_i kvs q0
      split at e
      · rename_i kk q1
        by_cases hl : kvs.length < lim
        · rw [if_pos hl] at e
          cases e
          obtain ⟨p, ws, rfl, ea, hp, r⟩ := ref_dT rel ro q0
          obtain ⟨b, rfl, hb⟩ := keyT_is ri q1
          have s := stp_set (o := .dT (L2.putK ws kk w)) ea hp
          exact .inr ⟨p, _, rfl, DPut.t hp hb (by rw [← r.length, sizeLine_eq]; exact hl), q _ s (rel_set rel ea hp ⟨_, upd_same, RP.step rel.notup s _ _ (RP.put rv r)⟩)⟩
        · rw [if_neg hl] at e
          cases e
      · cases e
    · cases e
  | _ => cases e
theorem h_asgI {o i : Expr} {ro ri : Run1 AV} {p2 : Pos} (hsl : noSlice i = true) (S : Same4 g X) (hu : X.A.units + 65 < cLine) (ho : PE X o (TV g W ro)) (hi : PE X i (TV g W ri)) (ha : PE X a (TV g W ra)) (hn : noComp a = true) (hk : PSs X rest (TSv g W k)) :
    PSs X (.Assign [.Subscript o i p2] a pos :: rest) (TSv g W fun e st => (ra e st).st e fun v st => (ro e st).st e fun o st => (ri e st).st e fun i st => SR.of (setI o i v st) fun st => k e st) := by
  have sw : swapsWithSole [.Subscript o i p2] a pos.line X.env = pure false := by
    cases a <;> first | rfl | (cases hn)
  have ss : swappedStores [.Subscript o i p2] a X.env = pure none := by cases a <;> rfl
  refine PSs.imp (pss_cons (ps_asg ha (pg_sub ho hi (PSet.or2 set_list (set_dict (by omega))) (by intro v; cases i <;> first | rfl | (cases hsl))) sw ss) hk) fun D σ H ⟨al, st, e, rel, rs, p⟩ => ?_
  refine ⟨al, st, e, rel, rs, Post.imp (SPost.aft (RA := rvOf g) rs rel p) fun x H1 ⟨al1, v, st1, s1, rel1, rv1, p1⟩ => ?_⟩
  have rs1 := rs.step rel.notup s1
  refine ⟨al1, st1, e, rel1, rs1, Post.imp (SPost.aft (RA := rvOf g) rs1 rel1 p1) fun y H2 ⟨al2, u, st2, s2, rel2, rv2, p2⟩ => ?_⟩
  have rs2 := rs1.step rel1.notup s2
  refine ⟨al2, st2, e, rel2, rs2, Post.imp (SPost.aft (RA := rvOf g) rs2 rel2 p2) fun z H3 ⟨al3, j, st3, s3, rel3, rv3, p3⟩ => ?_⟩
  cases hf : setI u j v st3 with
  | none => rw [hf] at p3; exact p3.elim
  | some st4 =>
    rw [hf] at p3
    refine setI_ok rel3 (RV.step rel2.notup s3 _ _ rv2) rv3 (RV.step rel2.notup s3 _ _ (RV.step rel1.notup s2 _ _ rv1)) hf fun H4 s4 rel4 => ?_
    exact ⟨al3, st4, e, rel4, (rs2.step rel2.notup s3).step rel3.notup s4, SPost.shift s4 p3⟩
theorem h_aug {i : Nat} {x : Str} {p2 : Pos} (hf : ∀ x, X.fn x = true) (hN : X.N = m.N) (nd : X.N.Nodup) (h1 : slotB m i x = true) (h2 : lcellB X.env.scope x = true) (ha : PE X a (TV g W ra)) (hk : PSs X rest (TSv g W k)) :
    PSs X (.AugAssign (.Name x p2) .Add a pos :: rest) (TSv g W fun e st => match e[i]? with
      | some (some x) => (ra e st).st e fun v st => match x, v with
        | .int p, .int q => k (e.set i (some (.int (p + q)))) st
        | _, _ => .no
      | _ => .no) := by
  refine PSs.imp (pss_cons (ps_aug nd (by rw [hN]; exact of_decide_eq_true h1) (lcell_of h2) ha ip_add (.inl (hf x))) hk) fun D σ H ⟨al, st, e, rel, rs, p⟩ => ?_
  dsimp only at p
  split at p
  · rename_i y q0
    obtain ⟨w, h3, h4⟩ := rs.at_ i y q0
    refine ⟨w, h3, al, st, e, rel, rs, Post.imp (SPost.aft (RA := rvOf g) rs rel p) fun x H1 ⟨al1, v, st1, s1, rel1, rv1, p1⟩ => ?_⟩
    cases y with
    | int a1 =>
      cases v with
      | int a2 =>
        obtain rfl : w = .int a1 := h4
        obtain rfl : x = .int a2 := rv1
        exact ⟨a1, a2, rfl, rfl, al1, st1, _, rel1, (rs.step rel.notup s1).put i (v := .int (a1 + a2)) rfl, p1⟩
      | _ => exact p1.elim
    | _ => exact p1.elim
  · exact p.elim
theorem h_ite {ss us : List Stmt} {ka kb : Slots → Sto → SR} (ht : PT X c (TTv g W rc)) (ha : PSs X ss (TSv g W ka)) (hb : PSs X us (TSv g W kb)) (hk : PSs X rest (TSv g W k)) :
    PSs X (.If c ss us pos :: rest) (TSv g W fun e st => (rc e st).st e fun v st => match v with
      | .bl true => (ka e st).bind fun e st => k e st
      | .bl false => (kb e st).bind fun e st => k e st
      | _ => .no) := by
  refine PSs.imp (pss_cons (ps_if ht ha hb) hk) fun D σ H ⟨al, st, e, rel, rs, p⟩ => ?_
  have p2 : SPost g ((tst (rc e st)).st e fun v st => if v = true then (ka e st).bind fun e st => k e st else (kb e st).bind fun e st => k e st) al H D W := by
    dsimp only at p
    revert p
    generalize rc e st = y
    intro p
    cases y with
    | ok v st =>
      cases v with
      | bl b => cases b <;> exact p
      | _ => exact p.elim
    | ex c st => exact p
    | no => exact p
  refine ⟨al, st, e, rel, rs, Post.imp (SPost.aft (RA := beOf) rs rel p2) fun x H1 ⟨al1, v, st1, s1, rel1, rv1, p1⟩ => ?_⟩
  have rv1 : v = x := rv1
  subst rv1
  have rs1 := rs.step rel.notup s1
  cases v with
  | true =>
    rw [if_pos rfl] at p1 ⊢
    refine ⟨al1, st1, e, rel1, rs1, SPost.imp (SPost.bind p1) (fun σ2 H2 ⟨al2, st2, e2, s2, rel2, rs2, q⟩ => ⟨al2, st2, e2, rel2, rs2, q⟩) fun _ _ q => q⟩
  | false =>
    rw [if_neg Bool.false_ne_true] at p1 ⊢
    refine ⟨al1, st1, e, rel1, rs1, SPost.imp (SPost.bind p1) (fun σ2 H2 ⟨al2, st2, e2, s2, rel2, rs2, q⟩ => ⟨al2, st2, e2, rel2, rs2, q⟩) fun _ _ q => q⟩
theorem h_loop {t : Tg} {iter : Expr} {bs : List Stmt} {ri : Run1 Wk} {kb : Slots → Sto → SR} (hp : PassesOwn (model X.prog X.w) X.A X.env X.xe) (hc : X.calm = true) (hi : PI X tg iter (TIv g W ri)) (hg : PG X tg (TGv g t)) (hb : PSs X bs (TSv g W kb)) (hs : noSetD iter = true)
    (hk : PSs X rest (TSv g W k)) : PSs X (.For tg iter bs [] pos :: rest) (TSv g W fun e st => (ri e st).st e fun w st => (forL t w.ck kb w.xs e st).bind fun e st => k e st) := by
  refine PSs.imp (pss_cons (ps_for hp hc hi hg hb (ifs_one (b := iter) hs X.env)) hk) fun D σ H ⟨al, st, e, rel, rs, p⟩ => ?_
  refine ⟨al, st, e, rel, rs, Post.imp (SPost.aft (RA := fun H al w J => ItOk g al H w J) rs rel p) fun J H1 ⟨al1, w, st1, s1, rel1, hJ, p1⟩ => ?_⟩
  have rs1 := rs.step rel.notup s1
  let F : List AV → Slots → Sto → SR := fun xs e st => (forL t w.ck kb xs e st).bind fun e st => k e st
  refine ⟨fun i q σ2 H2 => ∃ al2 st2 e2, Stp al1 H1 al2 H2 ∧ Rel g al2 st2 H2 ∧ RS g.K H2 al2 e2 σ2 ∧ q = w.xs.length - i ∧ i ≤ w.xs.length ∧ SPost g (F (w.xs.drop i) e2 st2) al2 H2 D W, ?_, ?_⟩
  · exact ⟨_, al1, st1, e, Stp.refl _ _, rel1, rs1, rfl, Nat.zero_le _, p1⟩
  · intro i q σ2 H2 ⟨al2, st2, e2, s2, rel2, rs2, eq, hle, p2⟩
    by_cases hck : w.ck st2 = true
    · obtain ⟨h1, h2⟩ := hJ al2 H2 st2 s2 rel2 hck
      by_cases hi : i < w.xs.length
      · obtain ⟨j1, j2⟩ := h1 i _ (List.getElem?_eq_getElem hi)
        refine .inr ⟨j1, fun σ3 H3 => ∃ al3 st3 e3, Stp al1 H1 al3 H3 ∧ Rel g al3 st3 H3 ∧ RS g.K H3 al3 e3 σ3 ∧ SPost g (F (w.xs.drop (i + 1)) e3 st3) al3 H3 D W, ?_, ?_⟩
        · intro σ3 H3 ⟨al3, st3, e3, a1, a2, a3, a4⟩
          exact ⟨w.xs.length - (i + 1), by omega, al3, st3, e3, a1, a2, a3, rfl, by omega, a4⟩
        · intro x H3 hy
          obtain ⟨s3, rel3, rv3⟩ := j2 x H3 hy
          rw [List.drop_eq_getElem_cons hi] at p2
          have p2 : SPost g ((forL t w.ck kb (w.xs[i] :: w.xs.drop (i + 1)) e2 st2).bind fun e st => k e st) al2 H2 D W := p2
          unfold forL at p2
          rw [if_pos hck] at p2
          have rs3 := rs2.step rel2.notup s3
          cases hb : bindT t w.xs[i] e2 with
          | none => rw [hb] at p2; exact p2.elim
          | some e3 =>
            rw [hb] at p2
            dsimp only at p2
            refine ⟨al2, st2, e2, w.xs[i], e3, rel3, rs3, rv3, hb, fun σ4 rs4 _ _ => ?_⟩
            have p3 : SPost g ((kb e3 st2).bind fun e st => F (w.xs.drop (i + 1)) e st) al2 H2 D W := by
              revert p2
              generalize kb e3 st2 = y
              cases y <;> exact fun z => z
            refine ⟨al2, st2, e3, rel3, rs4, SPost.imp (SPost.shift s3 (SPost.bind p3)) (fun σ5 H5 ⟨al5, st5, e5, s5, rel5, rs5, q5⟩ => ?_) fun _ _ q => q⟩
            exact ⟨al5, st5, e5, s2.trans s5, rel5, rs5, q5⟩
      · have ei : i = w.xs.length := by omega
        subst ei
        refine .inl ⟨h2, ?_⟩
        have p2 : SPost g ((forL t w.ck kb (w.xs.drop w.xs.length) e2 st2).bind fun e st => k e st) al2 H2 D W := p2
        rw [List.drop_length] at p2
        unfold forL at p2
        rw [if_pos hck] at p2
        exact ⟨al2, st2, e2, rel2, rs2, p2⟩
    · have p2 : SPost g ((forL t w.ck kb (w.xs.drop i) e2 st2).bind fun e st => k e st) al2 H2 D W := p2
      revert p2
      generalize w.xs.drop i = l
      intro p2
      cases l with
      | nil =>
        unfold forL at p2
        rw [if_neg hck] at p2
        exact p2.elim
      | cons x l =>
        unfold forL at p2
        rw [if_neg hck] at p2
        exact p2.elim
theorem h_whil {bs : List Stmt} {kb : Slots → Sto → SR} (hp : PassesOwn (model X.prog X.w) X.A X.env X.xe) (ht : PT X c (TTv g W rc)) (hb : PSs X bs (TSv g W kb)) (hk : PSs X rest (TSv g W k)) :
    PSs X (.While c bs [] pos :: rest) (TSv g W fun e st => (whL rc kb wfuel e st).bind fun e st => k e st) := by
  refine PSs.imp (pss_cons (ps_while hp ht hb) hk) fun D σ H ⟨al, st, e, rel, rs, p⟩ => ?_
  let F : Nat → Slots → Sto → SR := fun q e st => (whL rc kb q e st).bind fun e st => k e st
  refine ⟨fun q σ2 H2 => ∃ al2 st2 e2, Rel g al2 st2 H2 ∧ RS g.K H2 al2 e2 σ2 ∧ SPost g (F q e2 st2) al2 H2 D W, ⟨wfuel, al, st, e, rel, rs, p⟩, ?_⟩
  intro q σ2 H2 ⟨al2, st2, e2, rel2, rs2, p2⟩
  cases q with
  | zero => exact p2.elim
  | succ q =>
    have p3 : SPost g ((tst (rc e2 st2)).st e2 fun v st => if v = true then (kb e2 st).bind fun e st => F q e st else k e2 st) al2 H2 D W := by
      have p2 : SPost g ((whL rc kb (q + 1) e2 st2).bind fun e st => k e st) al2 H2 D W := p2
      unfold whL at p2
      revert p2
      generalize rc e2 st2 = y
      intro p2
      cases y with
      | ok v st =>
        cases v with
        | bl b =>
          cases b with
          | true =>
            have p2 : SPost g (((kb e2 st).bind fun e st => whL rc kb q e st).bind fun e st => k e st) al2 H2 D W := p2
            show SPost g ((kb e2 st).bind fun e st => F q e st) al2 H2 D W
            revert p2
            generalize kb e2 st = y
            cases y <;> exact fun z => z
          | false => exact p2
        | _ => exact p2.elim
      | ex c st => exact p2
      | no => exact p2
    refine ⟨al2, st2, e2, rel2, rs2, Post.imp (SPost.aft (RA := beOf) rs2 rel2 p3) fun x H3 ⟨al3, v, st3, s3, rel3, rv3, p4⟩ => ?_⟩
    have rv3 : v = x := rv3
    subst rv3
    have rs3 := rs2.step rel2.notup s3
    cases v with
    | false =>
      rw [if_neg Bool.false_ne_true] at p4 ⊢
      exact ⟨al3, st3, e2, rel3, rs3, p4⟩
    | true =>
      rw [if_pos rfl] at p4 ⊢
      refine ⟨fun σ4 H4 => ∃ al4 st4 e4, Rel g al4 st4 H4 ∧ RS g.K H4 al4 e4 σ4 ∧ SPost g (F q e4 st4) al4 H4 D W, fun σ4 H4 z => ⟨q, Nat.lt_succ_self _, z⟩, ?_⟩
      exact ⟨al3, st3, e2, rel3, rs3, SPost.imp (SPost.bind p4) (fun σ5 H5 ⟨al5, st5, e5, s5, rel5, rs5, q5⟩ => ⟨al5, st5, e5, rel5, rs5, q5⟩) fun _ _ q => q⟩
end
end L3

/-! Snd11: all statements, all defs. -/
namespace L3
open PySem PySem.Spec PyProof.Rows L2

section
variable {g : G} {m : MC} {n : Nat}
/-- whether name = [..] exchanges its stores -/
theorem sw_eq {elt : Expr} {gs : List Comprehension} {scope : Scope} {pos py : Pos} {y : Str} {l : Nat} {env : Env} (hk : env.scope.kind = .function) (hy : env.scope.names.lookup y = some .local) :
    swapsWith (.ListComp elt gs scope pos) (some (.Name y py)) l env = pure ((py.line == pos.line) && !(scope.names.any fun (n, k) => n == y && (k == .local || k == .cell))) := by
  have ky : env.kindOf y = some .local := hy
  have hb : env.blockKind = .function := by unfold Env.blockKind; rw [hk]; rfl
  unfold swapsWith
  simp only [hb, ky, Expr.pos]
  rfl
/-- a cell's stores are not exchanged -/
theorem sw_no {e : Expr} {py : Pos} {y : Str} {l : Nat} {env : Env} (hy : env.scope.names.lookup y = some .cell) : swapsWith e (some (.Name y py)) l env = pure false := by
  have ky : env.kindOf y = some .cell := hy
  unfold swapsWith
  split
  · simp only [ky]
    have : (some NameKind.cell == some NameKind.local) = false := rfl
    simp only [this, Bool.and_false, Bool.false_and]
  · rfl
theorem s_asg {X : Cx} {W : WX} {i : Nat} {x : Str} {a : E} {e : Expr} {p pos : Pos} (G0 : GOk g m n) (C : Cxt g m n X) (kd : X.env.scope.kind = .function) (hf : ∀ x, X.fn x = true) (tk : Takes X W) (h1 : slotB m i x = true) (h2 : lcellB X.env.scope x = true) (h3 : matE m a X.env.scope e = true)
    (h4 : (noComp e || lcellB X.env.scope x) = true) : PS X (.Assign [.Name x p] e pos) (tAsg (TV g W (ev g.T (lev g.T n).1 (lev g.T n).2 a)) (gName i)) := by
  have hi : X.N[i]? = some x := by rw [C.N]; exact of_decide_eq_true h1
  have k := (sE G0 a X W e C tk h3).1
  by_cases hn : noComp e = true
  · exact ps_set C.nd hi (lcell_of h2) k (by cases e <;> first | rfl | (cases hn)) (.inl (hf x))
  · by_cases hl : locB X.env.scope x = true
    case neg =>
      have hcl : X.env.scope.names.lookup x = some .cell := by
        rcases lcell_of h2 with z | z
        · exact absurd (by unfold locB; rw [z]) hl
        · exact z
      refine ps_set C.nd hi (lcell_of h2) k (sw_no hcl) (.inl (hf x))
    cases a with
    | lc own tg it cond elt =>
      unfold matE at h3
      split at h3
      · rename_i elt' tg' it' cs' scope ps
        obtain ⟨h3, g8⟩ := and3 h3
        obtain ⟨h3, g7⟩ := and3 h3
        obtain ⟨h3, g6⟩ := and3 h3
        obtain ⟨h3, g5⟩ := and3 h3
        obtain ⟨h3, g4⟩ := and3 h3
        obtain ⟨h3, g3⟩ := and3 h3
        obtain ⟨g1, g2⟩ := and3 h3
        by_cases hb : ((p.line == ps.line) && !(scope.names.any fun (n, k) => n == x && (k == .local || k == .cell))) = true
        · have ok := blkOk_by g1
          rw [← C.N] at ok
          have B := fun (s : Shared) (H : Hp) (Cc : Addr) (cl : List (Str × Addr)) (fp : List Addr) => C.blk s H scope Cc cl fp
          have hg := fun (s : Shared) (H : Hp) (Cc : Addr) (cl : List (Str × Addr)) (fp : List Addr) => k_tg (g := g) (m := m) (t := tg) (tg := tg') (X := X.blk s H scope (compEnvC scope cl Cc X.env) fp) (c := false) (fun z => (by cases z)) (B s H Cc cl fp).S C.calm C.N C.nd g6
          have ht := fun (s : Shared) (H : Hp) (Cc : Addr) (cl : List (Str × Addr)) (fp : List Addr) => (sEs G0 cond (X.blk s H scope (compEnvC scope cl Cc X.env) fp) W0 cs' (B s H Cc cl fp) takesW0 g7).ifs (of_decide_eq_true g4)
          have he := fun (s : Shared) (H : Hp) (Cc : Addr) (cl : List (Str × Addr)) (fp : List Addr) => (sE G0 elt (X.blk s H scope (compEnvC scope cl Cc X.env) fp) W0 elt' (B s H Cc cl fp) takesW0 g8).1
          have hi2 := sI G0 it X W tg' it' C tk g5
          have ee : ev g.T (lev g.T n).1 (lev g.T n).2 (.lc own tg it cond elt) = fun e st => (evIt g.T (lev g.T n).1 (lev g.T n).2 it e st).bind fun w st => (lcL tg w.ck (evAnd g.T (lev g.T n).1 (lev g.T n).2 cond) (ev g.T (lev g.T n).1 (lev g.T n).2 elt) (wipeA e own) w.xs [] st).bind fun acc st => alloc (.lst acc) st := by
            funext e st
            rw [ev]
          rw [ee]
          refine PS.imp (ps_setLc C.calm C.nd hi (loc_of hl) (by rw [sw_eq kd (loc_of hl), hb]) hi2 ok hg ht he (ifs_one (b := it') g3 X.env)) fun D σ H q => ?_
          exact k_lc C.S C.calm C.nd ok (of_decide_eq_true g2) hi2 g3 hg ht he σ H _ q
        · have hb' : ((p.line == ps.line) && !(scope.names.any fun (n, k) => n == x && (k == .local || k == .cell))) = false := Bool.eq_false_iff.mpr hb
          exact ps_set C.nd hi (lcell_of h2) k (by rw [sw_eq kd (loc_of hl), hb']) (.inl (hf x))
      · cases h3
    | bad => exact ⟨fun pins s σ H D I ⟨al, st, e, rel, rs, p⟩ => p.elim⟩
    | _ =>
      unfold matE at h3
      split at h3 <;> first
        | (exact absurd rfl hn)
        | (cases h3)
/-! ### except clauses -/
theorem ql_nil {X : Cx} {W : WX} : PA X [] (TVs g W (evs g.T (lev g.T n).1 (lev g.T n).2 .nil)) := by
  have e : evs g.T (lev g.T n).1 (lev g.T n).2 .nil = fun _ st => .ok [] st := by funext e st; unfold evs; rfl
  rw [e]
  exact k_nil
mutual
theorem sQ (G0 : GOk g m n) : ∀ (x : E) (X : Cx) (W : WX) (e : Expr), Same4 g X → X.N = m.N → quE x = true → matE m x X.env.scope e = true → PE X e (TV g W (ev g.T (lev g.T n).1 (lev g.T n).2 x))
  | .var i, X, W, e, S, hN, q, h => by
    unfold matE at h
    split at h
    · rename_i x p
      simp only [Bool.and_eq_true, Bool.not_eq_true'] at h
      obtain ⟨⟨⟨h1, h2⟩, h3⟩, h4⟩ := h
      exact k_var h1 h2 h3 h4 hN
    · cases h
  | .con v, X, W, e, S, hN, q, h => by
    unfold matE at h
    split at h
    · have e1 : ev g.T (lev g.T n).1 (lev g.T n).2 (.con v) = fun _ st => .ok v st := by funext e st; rw [ev]
      rw [e1]
      exact k_con h
    · cases h
  | .lst es, X, W, e, S, hN, q, h => by
    unfold matE at h
    split at h
    · obtain ⟨h1, h2⟩ := and3 h
      have e1 : ev g.T (lev g.T n).1 (lev g.T n).2 (.lst es) = fun e st => (evs g.T (lev g.T n).1 (lev g.T n).2 es e st).bind fun xs st => if xs.length ≤ lim then alloc (.lst xs) st else .no := by funext e st; rw [ev]
      rw [e1]
      exact k_lst (sQs G0 es X W _ S hN q h1 h2)
    · cases h
  | .bin op a b, X, W, e, S, hN, q, h => by
    unfold matE at h
    split at h
    · obtain ⟨q1, q2⟩ := and3 q
      obtain ⟨h, h3⟩ := and3 h
      obtain ⟨h1, h2⟩ := and3 h
      have h1 := of_decide_eq_true h1
      subst h1
      have e1 : ev g.T (lev g.T n).1 (lev g.T n).2 (.bin op a b) = fun e st => (ev g.T (lev g.T n).1 (lev g.T n).2 a e st).bind fun x st => (ev g.T (lev g.T n).1 (lev g.T n).2 b e st).bind fun y st => binA op x y st := by funext e st; rw [ev]
      rw [e1]
      exact k_bin (sQ G0 a X W _ S hN q1 h2) (sQ G0 b X W _ S hN q2 h3)
    · cases h
  | .isx d a, X, W, e, S, hN, q, h => by
    unfold matE at h
    split at h
    · obtain ⟨h, h6⟩ := and3 h
      obtain ⟨h, h5⟩ := and3 h
      obtain ⟨h, h4⟩ := and3 h
      obtain ⟨h, h3⟩ := and3 h
      obtain ⟨h1, h2⟩ := and3 h
      have e1 : ev g.T (lev g.T n).1 (lev g.T n).2 (.isx d a) = fun e st => (ev g.T (lev g.T n).1 (lev g.T n).2 a e st).bind fun v st => isxA g.T v d st := by funext e st; rw [ev]
      rw [e1]
      exact k_isx G0 S h1 h2 (of_decide_eq_true h3) (of_decide_eq_true h4) h5 (sQ G0 a X W _ S hN q h6)
    · cases h
  | .kon _, _, _, _, _, _, q, _ => by cases q
  | .neg _, _, _, _, _, _, q, _ => by cases q
  | .not _, _, _, _, _, _, q, _ => by cases q
  | .and _, _, _, _, _, _, q, _ => by cases q
  | .or _, _, _, _, _, _, q, _ => by cases q
  | .cmp _ _ _, _, _, _, _, _, q, _ => by cases q
  | .chain _ _ _ _ _, _, _, _, _, _, q, _ => by cases q
  | .tup _, _, _, _, _, _, q, _ => by cases q
  | .dnew _, _, _, _, _, _, q, _ => by cases q
  | .ddsp _ _, _, _, _, _, _, q, _ => by cases q
  | .call _ _, _, _, _, _, _, q, _ => by cases q
  | .mk _ _, _, _, _, _, _, q, _ => by cases q
  | .bcall _ _, _, _, _, _, _, q, _ => by cases q
  | .isi _ _, _, _, _, _, _, q, _ => by cases q
  | .meth _ _ _, _, _, _, _, _, q, _ => by cases q
  | .fld _ _, _, _, _, _, _, q, _ => by cases q
  | .idx _ _, _, _, _, _, _, q, _ => by cases q
  | .sl _ _ _, _, _, _, _, _, q, _ => by cases q
  | .lrng _, _, _, _, _, _, q, _ => by cases q
  | .lc _ _ _ _ _, _, _, _, _, _, q, _ => by cases q
  | .bad, _, _, _, _, _, q, _ => by cases q
theorem sQs (G0 : GOk g m n) : ∀ (xs : Es) (X : Cx) (W : WX) (vs : List Expr), Same4 g X → X.N = m.N → quEs xs = true → vs.all noStar = true → matEs m xs X.env.scope vs = true → PA X vs (TVs g W (evs g.T (lev g.T n).1 (lev g.T n).2 xs))
  | .nil, X, W, vs, S, hN, q, hs, h => by
    unfold matEs at h
    split at h
    · exact ql_nil
    · cases h
  | .cons a as, X, W, vs, S, hN, q, hs, h => by
    unfold matEs at h
    split at h
    · obtain ⟨h1, h2⟩ := and3 h
      obtain ⟨q1, q2⟩ := and3 q
      rw [List.all_cons, Bool.and_eq_true] at hs
      have e : evs g.T (lev g.T n).1 (lev g.T n).2 (.cons a as) = fun e st => (ev g.T (lev g.T n).1 (lev g.T n).2 a e st).bind fun a st => (evs g.T (lev g.T n).1 (lev g.T n).2 as e st).bind fun as st => .ok (a :: as) st := by funext e st; rw [evs]
      rw [e]
      exact k_cons hs.1 (sQ G0 a X W _ S hN q1 h1) (sQs G0 as X W _ S hN q2 hs.2 h2)
    · cases h
end
/-- an except clause's statements -/
theorem sSu (G0 : GOk g m n) : ∀ (s : S) (X : Cx) (W : WX) (ss : List Stmt), Same4 g X → X.N = m.N → X.N.Nodup → (∀ x, X.fn x = true) → quS s = true → matS m X.env.scope s ss = true → PSs X ss (TSv g W (exS g.T (lev g.T n).1 (lev g.T n).2 s))
  | .done, X, W, ss, S, hN, nd, hf, q, h => by
    unfold matS at h
    split at h
    · exact h_done
    · cases h
  | .asg i a k, X, W, ss, S, hN, nd, hf, q, h => by
    unfold matS at h
    split at h
    · rename_i x p e pos r
      obtain ⟨q1, q2⟩ := and3 q
      obtain ⟨h, h5⟩ := and3 h
      obtain ⟨h, h4⟩ := and3 h
      obtain ⟨h, h3⟩ := and3 h
      obtain ⟨h1, h2⟩ := and3 h
      have hc : swapsWith e (some (.Name x p)) pos.line X.env = pure false := by
        cases a <;> first | (cases q1; done) | (unfold matE at h3; split at h3 <;> first | rfl | (cases h3))
      have hs : PS X (.Assign [.Name x p] e pos) (tAsg (TV g W (ev g.T (lev g.T n).1 (lev g.T n).2 a)) (gName i)) := ps_set nd (by rw [hN]; exact of_decide_eq_true h1) (lcell_of h2) (sQ G0 a X W _ S hN q1 h3) hc (.inl (hf x))
      exact h_asg hs (sSu G0 k X W _ S hN nd hf q2 h5)
    · cases h
  | .asgT _ _ _, _, _, _, _, _, _, _, q, _ => by cases q
  | .asgF _ _ _ _, _, _, _, _, _, _, _, q, _ => by cases q
  | .asgI _ _ _ _, _, _, _, _, _, _, _, q, _ => by cases q
  | .aug _ _ _ _, _, _, _, _, _, _, _, q, _ => by cases q
  | .augF _ _ _ _ _, _, _, _, _, _, _, _, q, _ => by cases q
  | .expr _ _, _, _, _, _, _, _, _, q, _ => by cases q
  | .ret _, _, _, _, _, _, _, _, q, _ => by cases q
  | .retN, _, _, _, _, _, _, _, q, _ => by cases q
  | .ite _ _ _ _, _, _, _, _, _, _, _, q, _ => by cases q
  | .loop _ _ _ _, _, _, _, _, _, _, _, q, _ => by cases q
  | .whil _ _ _, _, _, _, _, _, _, _, q, _ => by cases q
  | .rais _, _, _, _, _, _, _, _, q, _ => by cases q
  | .tryx _ _ _ _ _, _, _, _, _, _, _, _, q, _ => by cases q
  | .bad, _, _, _, _, _, _, _, q, _ => by cases q
/-- how a def's own context stands -/
structure Own3 (X : Cx) : Prop where
  st : X.stack = X.env :: X.outer
  fr : X.env.frame = some X.env.locals
  ex : X.ex = []
theorem h_rais {X : Cx} {W : WX} {c : Nat} {x mm : Str} {j : Nat} {p p2 p3 pos : Pos} (G0 : GOk g m n) (C : Cxt g m n X) (tk : Takes X W) (hg : glb X.env.scope x = true) (hx : (x, c) ∈ m.ecls) (hc : c ∈ m.rcls) :
    PSs X [.Raise (some (.Call (.Name x p) [.Constant (.str mm) j p2] [] p3)) none pos] (TSv g W fun e st => .ex c e st) := by
  have R := G0.exr c hc
  have E := G0.ecl _ hx
  unfold EclOk at E
  rw [if_neg R.ne] at E
  have E : g.mg x = some (.ref (g.clsA c)) := E
  obtain ⟨h1, h2, h3⟩ := glb_of hg
  have K := C.S.K
  refine PSs.imp (pss_one (ps_raise C.calm tk (pmk_own PySem.F.excBase_ValueError (by rw [K]; exact R.ex) (by rw [C.S.mg]; exact E) (by rw [K]; exact R.kp) (raises_own (by rw [K]; exact R.sb) (by rw [K]; exact R.ty)) h1 h2))) fun D σ H ⟨al, st, e, rel, rs, p⟩ => ?_
  exact p al H σ (Stp.refl _ _) rel rs
theorem h_tryx {X : Cx} {W : WX} {c i : Nat} {x nn : Str} {q1 q2 q3 : Pos} {bs su rest : List Stmt} {b1 : Stmt} {body s2 k : S} (G0 : GOk g m n) (C : Cxt g m n X) (O : Own3 X) (hg : glb X.env.scope x = true) (hx : (x, c) ∈ m.ecls) (h9 : c ≠ 999) (hi : slotB m i nn = true) (hl : locB X.env.scope nn = true)
    (hb : ∀ (W : WX) (pn : List (Addr × Obj)) (xe : Value → Shared → Prop), Takes (X.tr pn xe) W → PassesOwn (model X.prog X.w) X.A X.env xe → PSs (X.tr pn xe) bs (TSv g W (exS g.T (lev g.T n).1 (lev g.T n).2 body)))
    (hs : ∀ (a : Addr) (pn : List (Addr × Obj)), PSs (X.suite a pn) (b1 :: su) (TSv g (fun _ _ _ _ => False) (exS g.T (lev g.T n).1 (lev g.T n).2 s2)))
    (hk : PSs X rest (TSv g W (exS g.T (lev g.T n).1 (lev g.T n).2 k))) :
    PSs X (.Try bs [.ExceptHandler (some (.Name x q1)) (some nn) (b1 :: su) q2] [] [] q3 :: rest) (TSv g W (exS g.T (lev g.T n).1 (lev g.T n).2 (.tryx body c i s2 k))) := by
  have E := G0.ecl _ hx
  unfold EclOk at E
  rw [if_neg h9] at E
  have E : g.mg x = some (.ref (g.clsA c)) := E
  obtain ⟨h1, h2, h3⟩ := glb_of hg
  have K := C.S.K
  have T := ps_try_keep (X := X) (q2 := q2) (q3 := q3) (q1 := q1) (ts := fun _ => TSv g (fun _ _ _ _ => False) (exS g.T (lev g.T n).1 (lev g.T n).2 s2)) (tb := fun W => TSv g W (exS g.T (lev g.T n).1 (lev g.T n).2 body)) O.st O.fr O.ex C.nd (by rw [C.N]; exact of_decide_eq_true hi) (loc_of hl) ⟨h1, h2, .inl (by rw [C.S.mg]; exact E)⟩ hb hs
  refine PSs.imp (pss_cons T hk) fun D σ H ⟨al, st, e, rel, rs, p⟩ => ?_
  refine ⟨al, st, e, rel, rs, ?_⟩
  rw [exS] at p
  revert p
  generalize exS g.T (lev g.T n).1 (lev g.T n).2 body e st = y
  intro p
  cases y with
  | no => exact p
  | rt v st1 => exact p
  | nx e1 st1 => exact fun al1 H1 σ1 s1 r1 rs1 => ⟨al1, st1, e1, r1, rs1, SPost.shift s1 p⟩
  | ex c' e1 st1 =>
    dsimp only at p
    by_cases hc : g.T.sub c' c = some true
    · rw [if_pos hc] at p
      intro al1 H1 σ1 s1 r1 rs1
      have sk := G0.sub _ _ _ hc
      refine ⟨rfl, by rw [K]; exact sk.em rfl h9, fun a ha => ?_⟩
      have sn := stp_new (o := ExK (.ref (g.clsA c')) a) r1 ha (r1.free ha)
      have rn : Rel g (alUp al1 st1.length a) (st1 ++ [.exc c']) (upd H1 a (ExK (.ref (g.clsA c')) a)) := rel_new r1 ha (r1.free ha) upd_same
      have rv : RV g.K (upd H1 a (ExK (.ref (g.clsA c')) a)) (alUp al1 st1.length a) (.ref st1.length) (.ref a) := ⟨a, by unfold alUp; rw [if_pos rfl], rfl⟩
      refine ⟨alUp al1 st1.length a, st1 ++ [.exc c'], e1.set i (some (.ref st1.length)), rn, (rs1.step r1.notup sn).put i rv, ?_⟩
      have p := SPost.shift (s1.trans sn) p
      have p := SPost.bind p
      revert p
      generalize exS g.T (lev g.T n).1 (lev g.T n).2 s2 (e1.set i (some (.ref st1.length))) (st1 ++ [.exc c']) = z
      intro p
      cases z with
      | no => exact p
      | ex c2 e2 st2 => exact p.elim
      | rt v st2 => exact p
      | nx e2 st2 =>
        intro al2 H2 σ2 s2' r2 rs2
        obtain ⟨al3, st3, e3, s3, r3, rs3, p3⟩ := p al2 H2 σ2 s2' r2 rs2
        exact ⟨al3, st3, e3.set i none, r3, rs3.drop1 i none, p3⟩
    · rw [if_neg hc] at p
      exact p.elim
set_option maxHeartbeats 4000000 in
theorem sS (G0 : GOk g m n) : ∀ (s : S) (X : Cx) (W : WX) (ss : List Stmt), Cxt g m n X → X.env.scope.kind = .function → (∀ x, X.fn x = true) → PassesOwn (model X.prog X.w) X.A X.env X.xe → Takes X W → Own3 X → matS m X.env.scope s ss = true → PSs X ss (TSv g W (exS g.T (lev g.T n).1 (lev g.T n).2 s))
  | .done, X, W, ss, C, kd, hf, hp, tk, O, h => by
    unfold matS at h
    split at h
    · exact h_done
    · cases h
  | .asg i a k, X, W, ss, C, kd, hf, hp, tk, O, h => by
    unfold matS at h
    split at h
    · obtain ⟨h, h5⟩ := and3 h
      obtain ⟨h, h4⟩ := and3 h
      obtain ⟨h, h3⟩ := and3 h
      obtain ⟨h1, h2⟩ := and3 h
      exact h_asg (s_asg G0 C kd hf tk h1 h2 h3 h4) (sS G0 k X W _ C kd hf hp tk O h5)
    · cases h
  | .asgT is a k, X, W, ss, C, kd, hf, hp, tk, O, h => by
    unfold matS at h
    split at h
    · obtain ⟨h, h5⟩ := and3 h
      obtain ⟨h, h4⟩ := and3 h
      obtain ⟨h, h3⟩ := and3 h
      obtain ⟨h1, h2⟩ := and3 h
      exact h_asgT hf C.S C.calm C.N C.nd h1 (sE G0 a X W _ C tk h4).1 h2 h3 (sS G0 k X W _ C kd hf hp tk O h5)
    · cases h
  | .asgF o f a k, X, W, ss, C, kd, hf, hp, tk, O, h => by
    unfold matS at h
    split at h
    · obtain ⟨h, h5⟩ := and3 h
      obtain ⟨h, h4⟩ := and3 h
      obtain ⟨h, h3⟩ := and3 h
      obtain ⟨h1, h2⟩ := and3 h
      have e1 := of_decide_eq_true h1
      rw [G0.nm] at e1
      subst e1
      exact h_asgF C.S (sE G0 o X W _ C tk h2).1 (sE G0 a X W _ C tk h3).1 h4 (G0.fls · f) (sS G0 k X W _ C kd hf hp tk O h5)
    · cases h
  | .asgI o i a k, X, W, ss, C, kd, hf, hp, tk, O, h => by
    unfold matS at h
    split at h
    · obtain ⟨h, h6⟩ := and3 h
      obtain ⟨h, h5⟩ := and3 h
      obtain ⟨h, h4⟩ := and3 h
      obtain ⟨h, h3⟩ := and3 h
      obtain ⟨h1, h2⟩ := and3 h
      exact h_asgI h2 C.S C.hu (sE G0 o X W _ C tk h1).1 (sE G0 i X W _ C tk h3).1 (sE G0 a X W _ C tk h4).1 h5 (sS G0 k X W _ C kd hf hp tk O h6)
    · cases h
  | .aug i op a k, X, W, ss, C, kd, hf, hp, tk, O, h => by
    unfold matS at h
    split at h
    · obtain ⟨h, h6⟩ := and3 h
      obtain ⟨h, h5⟩ := and3 h
      obtain ⟨h, h4⟩ := and3 h
      obtain ⟨h, h3⟩ := and3 h
      obtain ⟨h1, h2⟩ := and3 h
      have e1 := of_decide_eq_true h3
      subst e1
      exact h_aug hf C.N C.nd h1 h2 (sE G0 a X W _ C tk h5).1 (sS G0 k X W _ C kd hf hp tk O h6)
    · cases h
  | .augF o f op a k, X, W, ss, C, kd, hf, hp, tk, O, h => by
    unfold matS at h
    cases h
  | .expr a k, X, W, ss, C, kd, hf, hp, tk, O, h => by
    unfold matS at h
    split at h
    · obtain ⟨h, h3⟩ := and3 h
      obtain ⟨h1, h2⟩ := and3 h
      exact h_expr (sE G0 a X W _ C tk h1).1 h2 (sS G0 k X W _ C kd hf hp tk O h3)
    · cases h
  | .ret a, X, W, ss, C, kd, hf, hp, tk, O, h => by
    unfold matS at h
    split at h
    · exact h_ret (sE G0 a X W _ C tk h).1
    · cases h
  | .retN, X, W, ss, C, kd, hf, hp, tk, O, h => by
    unfold matS at h
    split at h
    · exact h_retN
    · cases h
  | .ite c a b k, X, W, ss, C, kd, hf, hp, tk, O, h => by
    unfold matS at h
    split at h
    · obtain ⟨h, h4⟩ := and3 h
      obtain ⟨h, h3⟩ := and3 h
      obtain ⟨h1, h2⟩ := and3 h
      exact h_ite (sE G0 c X W _ C tk h1).2 (sS G0 a X W _ C kd hf hp tk O h2) (sS G0 b X W _ C kd hf hp tk O h3) (sS G0 k X W _ C kd hf hp tk O h4)
    · cases h
  | .loop tg it body k, X, W, ss, C, kd, hf, hp, tk, O, h => by
    unfold matS at h
    split at h
    · obtain ⟨h, h5⟩ := and3 h
      obtain ⟨h, h4⟩ := and3 h
      obtain ⟨h, h3⟩ := and3 h
      obtain ⟨h1, h2⟩ := and3 h
      exact h_loop hp C.calm (sI G0 it X W _ _ C tk h2) (k_tg (fun _ => hf) C.S C.calm C.N C.nd h1) (sS G0 body X W _ C kd hf hp tk O h4) h3 (sS G0 k X W _ C kd hf hp tk O h5)
    · cases h
  | .whil c body k, X, W, ss, C, kd, hf, hp, tk, O, h => by
    unfold matS at h
    split at h
    · obtain ⟨h, h3⟩ := and3 h
      obtain ⟨h1, h2⟩ := and3 h
      exact h_whil hp (sE G0 c X W _ C tk h1).2 (sS G0 body X W _ C kd hf hp tk O h2) (sS G0 k X W _ C kd hf hp tk O h3)
    · cases h
  | .rais c, X, W, ss, C, kd, hf, hp, tk, O, h => by
    unfold matS at h
    split at h
    · obtain ⟨h, h3⟩ := and3 h
      obtain ⟨h1, h2⟩ := and3 h
      have e1 : exS g.T (lev g.T n).1 (lev g.T n).2 (.rais c) = fun e st => .ex c e st := by funext e st; rw [exS]
      rw [e1]
      exact h_rais G0 C tk h1 (of_decide_eq_true h2) (of_decide_eq_true h3)
    · cases h
  | .tryx body c i su k, X, W, ss, C, kd, hf, hp, tk, O, h => by
    unfold matS at h
    split at h
    · rename_i b' x q1 nn s' q2 q3 r
      obtain ⟨h, k9⟩ := and3 h
      obtain ⟨h, k8⟩ := and3 h
      obtain ⟨h, k7⟩ := and3 h
      obtain ⟨h, k6⟩ := and3 h
      obtain ⟨h, k5⟩ := and3 h
      obtain ⟨h, k4⟩ := and3 h
      obtain ⟨h, k3⟩ := and3 h
      obtain ⟨h, k2⟩ := and3 h
      obtain ⟨k0, k1⟩ := and3 h
      cases s' with
      | nil => cases k5
      | cons b1 s' =>
        exact h_tryx G0 C O k0 (of_decide_eq_true k1) (of_decide_eq_true k2) k3 k4
          (fun W' pn xe tk' pa => sS G0 body (X.tr pn xe) W' _ ⟨⟨C.S.P, C.S.w, C.S.K, C.S.mg, C.S.base⟩, C.N, C.nd, C.calm, C.room⟩ kd hf pa tk' ⟨O.st, O.fr, O.ex⟩ k6)
          (fun a pn => sSu G0 su (X.suite a pn) _ _ ⟨C.S.P, C.S.w, C.S.K, C.S.mg, C.S.base⟩ C.N C.nd hf k7 k8)
          (sS G0 k X W _ C kd hf hp tk O k9)
    · cases h
  | .bad, X, W, ss, C, kd, hf, hp, tk, O, h => ⟨fun pins s σ H D I ⟨al, st, e, rel, rs, p⟩ => p.elim⟩
end
end L3

/-! Snd12: all defs; the law. -/
namespace L3
open PySem PySem.Spec PyProof.Rows L2

def MC.at (m : MC) (N : List Str) : MC := { m with N := N }
/-- a def of the text, its code, where it stands -/
structure DF (g : G) (m0 : MC) (d : Nat) (a : Addr) (fd : FuncData) (ps : List Str) : Prop where
  ex : ∃ (x qual : Str) (st : Stmt) (N : List Str) (body : S), Fun g.K x qual st a fd ∧ FnScope N ps (defScope st) ∧ g.T.df d = some (ps.length, N.length, body) ∧ matS (m0.at N) (defScope st) body (defBody st) = true
  bd : L2.Binds g.K fd ps []
structure Facts (g : G) (m0 : MC) : Prop where
  nm : m0.nm = g.nm
  nms : NmOk g
  bn : ∀ x ∈ biNames, g.mg x = none
  kon : ∀ p ∈ m0.kons, ∃ u w, g.mg p.1 = some u ∧ conV p.2 = some w ∧ RelV w u
  dfs : ∀ p ∈ m0.defs, ∃ a fd ps, g.mg p.1 = some (.ref a) ∧ PySem.W.keepIn g.K (.ref a) = true ∧ DF g m0 p.2 a fd ps
  cls : ∀ p ∈ m0.clss, ∃ d a fd ps, g.T.ini p.2 = some d ∧ g.mg p.1 = some (.ref (g.clsA p.2)) ∧ Mk g.K (g.clsA p.2) a ∧ DF g m0 d a fd ps
  mts : ∀ c k d, g.T.mt c k = some d → ∃ a fd ps, Cls g.K (g.clsA c) ∧ Meth g.K (g.clsA c) (g.nm k) a ∧ DF g m0 d a fd ps
  fls : ∀ c f, g.T.fl c f = true → Cls g.K (g.clsA c) ∧ NoAttr g.K (g.clsA c) (g.nm f)
  ecl : ∀ p ∈ m0.ecls, EclOk g p.1 p.2
  exr : ∀ c ∈ m0.rcls, RaisOk g c
  sub : ∀ c d b, g.T.sub c d = some b → SubOk g c d b
section
variable {g : G} {m0 : MC} {n : Nat}
theorem spd_no {np : Nat} {vs : List V} {H : Hp} {Q : VK} {E : XK} : ¬ SpD g np (fun _ _ => .no) vs H Q E := by
  intro ⟨_, al, st, as, _, _, h⟩
  exact h
/-- what a level promises of the defs' codes -/
def Lev (g : G) (m0 : MC) (k : Nat) (f : CallF) : Prop := ∀ d a fd ps, DF g m0 d a fd ps → FnOk g.P g.w g.K g.mg g.base (L2.CX g.P g.w) k a fd ps (SpD g ps.length (f d)) ∧ ∀ as st, as.length ≠ ps.length → f d as st = .no
theorem lev_no (k : Nat) : Lev g m0 k (fun _ _ _ => .no) := fun d a fd ps D =>
  ⟨⟨fun vs H Q E h => (spd_no h).elim, fun A outer s H args us vs Q E _ _ _ _ h => (spd_no h).elim⟩, fun _ _ _ => rfl⟩
theorem gok_of (F : Facts g m0) (h1 : Lev g m0 (n + 1) (lev g.T n).1) (h2 : Lev g m0 n (lev g.T n).2) (N : List Str) : GOk g (m0.at N) n where
  nm := F.nm
  nms := F.nms
  bn := F.bn
  kon := F.kon
  dfs p hp := by
    obtain ⟨a, fd, ps, e1, e2, D⟩ := F.dfs p hp
    obtain ⟨f1, f2⟩ := h1 _ _ _ _ D
    exact ⟨a, fd, ps, e1, e2, D.bd, f1, f2⟩
  cls p hp := by
    obtain ⟨d, a, fd, ps, e1, e2, e3, D⟩ := F.cls p hp
    obtain ⟨f1, f2⟩ := h2 _ _ _ _ D
    exact ⟨d, e1, a, fd, ps, e2, e3, D.bd, f1, f2⟩
  mts c k d hd := by
    obtain ⟨a, fd, ps, e1, e2, D⟩ := F.mts c k d hd
    obtain ⟨f1, f2⟩ := h1 _ _ _ _ D
    exact ⟨a, fd, ps, e1, e2, D.bd, f1, f2⟩
  fls := F.fls
  ecl := F.ecl
  exr := F.exr
  sub := F.sub
theorem rs_start {K : PySem.W.Frag} {H : Hp} {al : Al} {N : List Str} {as : List AV} {vs : List V} {k : Nat} (rv : RVs K H al as vs) (hk : k = N.length) : RS K H al (as.map some ++ List.replicate (k - as.length) none) (L2.start N vs) := by
  subst hk
  unfold L2.start
  refine ⟨by simp [rv.length], fun i v h => ?_⟩
  by_cases hi : i < as.length
  · rw [List.getElem?_append_left (by simpa using hi), List.getElem?_map] at h
    obtain ⟨x, h1, h2⟩ := Option.map_eq_some_iff.mp h
    cases h2
    obtain ⟨w, h3, h4⟩ := rv.get h1
    refine ⟨w, ?_, h4⟩
    rw [List.getElem?_append_left (by rw [List.length_map, ← rv.length]; exact hi), List.getElem?_map, h3]
    rfl
  · rw [List.getElem?_append_right (by simpa using hi), List.getElem?_replicate] at h
    split at h <;> cases h
theorem lev_step (F : Facts g m0) (h1 : Lev g m0 (n + 1) (lev g.T n).1) (h2 : Lev g m0 n (lev g.T n).2) : Lev g m0 (n + 2) (lev g.T (n + 1)).1 := by
  intro d a fd ps D
  obtain ⟨x, qual, st, N, body, Fn, Sc, hdf, hm⟩ := D.ex
  have hno : ∀ as st, as.length ≠ ps.length → (lev g.T (n + 1)).1 d as st = .no := by
    intro as st hl
    show runD g.T (lev g.T n).1 (lev g.T n).2 d as st = .no
    unfold runD
    rw [hdf]
    dsimp only
    rw [if_neg hl]
  refine ⟨?_, hno⟩
  have G0 := gok_of F h1 h2 N
  refine Fn.okX Sc (fun vs H Q E h => h.1) fun cdv A outer s H vs Q E hr h => ?_
  obtain ⟨hl, al, st0, as, rel, rv, p⟩ := h
  have hla : as.length = ps.length := by rw [rv.length]; exact hl
  have C : Cxt g (m0.at N) n (cxOf (L2.CX g.P g.w) g.P g.w g.K g.mg g.base N qual (defScope st) a cdv A outer s H E) := ⟨⟨rfl, rfl, rfl, rfl, rfl⟩, rfl, Sc.nd, rfl, hr⟩
  have hp : PassesOwn (model g.P g.w) (A.deeper (envOfC qual (defScope st) s.heap.objs.size a cdv)) (envOfC qual (defScope st) s.heap.objs.size a cdv) (cxOf (L2.CX g.P g.w) g.P g.w g.K g.mg g.base N qual (defScope st) a cdv A outer s H E).xe := passes_of (X := cxOf (L2.CX g.P g.w) g.P g.w g.K g.mg g.base N qual (defScope st) a cdv A outer s H E) rfl
  have tk : Takes (cxOf (L2.CX g.P g.w) g.P g.w g.K g.mg g.base N qual (defScope st) a cdv A outer s H E) (fun cls dd _ H => E cls dd H) := takes_of rfl rfl rfl rfl
  refine ⟨_, sS G0 body _ (fun cls dd _ H => E cls dd H) _ C Sc.kind (fun _ => rfl) hp tk ⟨rfl, rfl, rfl⟩ hm, ?_⟩
  refine ⟨al, st0, as.map some ++ List.replicate (N.length - as.length) none, rel, rs_start rv rfl, ?_⟩
  have p : Post g (rvOf g) (runD g.T (lev g.T n).1 (lev g.T n).2 d as st0) al H Q fun c H' => E (.ref (g.clsA c)) none H' := p
  unfold runD at p
  rw [hdf] at p
  dsimp only at p
  rw [if_pos hla, ← hla] at p
  revert p
  generalize exS g.T (lev g.T n).1 (lev g.T n).2 body (as.map some ++ List.replicate (N.length - as.length) none) st0 = y
  intro p
  cases y with
  | nx e st2 => exact fun al1 H1 σ1 s1 r1 _ => p al1 H1 .non s1 r1 rfl
  | rt v st2 => exact fun al1 H1 w s1 r1 rv1 => p al1 H1 w s1 r1 rv1
  | ex c e st2 => exact fun al1 H1 σ1 s1 r1 _ => p al1 H1 s1 r1
  | no => exact p
theorem levels (F : Facts g m0) : ∀ n, Lev g m0 (n + 1) (lev g.T n).1 ∧ Lev g m0 n (lev g.T n).2
  | 0 => ⟨lev_no 1, lev_no 0⟩
  | n + 1 => ⟨lev_step F (levels F n).1 (levels F n).2, (levels F n).1⟩
/-- the law's promise -/
def spLaw (K : PySem.W.Frag) : Sp := fun vs H Q _ => ∃ (a : Addr) (ns : List Int), vs = [.ref a] ∧ Only H ∧ SqL K H a (ns.map V.int) ∧ ns.length ≤ 63 ∧ ∀ H', Q (.bl true) H'
theorem law_ok (F : Facts g m0) {d : Nat} {a : Addr} {fd : FuncData} {x : Str} (D : DF g m0 d a fd [x]) (n : Nat) (h : ∀ ns : List Int, ns.length ≤ 63 → ∃ st, callF g.T n d [.rol ns] [] = .ok (.bl true) st) :
    FnOk g.P g.w g.K g.mg g.base (L2.CX g.P g.w) (n + 1) a fd [x] (spLaw g.K) := by
  refine FnOk.imp ((levels F n).1 d a fd [x] D).1 fun vs H Q E ⟨b, ns, ev, ho, hq, hl, q⟩ => ?_
  subst ev
  obtain ⟨st, e⟩ := h ns hl
  refine ⟨rfl, fun _ => none, [], [.rol ns], ⟨fun _ _ _ h => by (cases h), fun _ _ h => by (cases h), fun _ _ h => by (simp at h)⟩, ⟨_, _, rfl, ⟨b, rfl, ?_⟩, rfl⟩, ?_⟩
  · rcases hq with (hq | ⟨o, hq⟩) | hq
    · rcases ho b with z | ⟨o, xs, z⟩
      · rw [z] at hq; cases hq
      · rw [z] at hq; cases hq
    · exact .inl ⟨o, hq⟩
    · exact .inr hq
  · have e : (lev g.T n).1 d [.rol ns] [] = .ok (.bl true) st := e
    rw [e]
    intro al' H' w s r rv
    obtain rfl : w = .bl true := rv
    exact q H'
end
theorem cx_no {P : Program} {w : World} {H : Hp} {s : Shared} {e : Value} {s' : Shared} (h : L2.CX P w [] H s (fun _ _ _ => False) e s') : False := by
  obtain ⟨_, _, _, _, _, h⟩ := h
  exact h.2.2.2.2.2.2.2
end L3

/-! PyP: tools to reckon what the machine gives. -/
namespace L3
open PySem L2

def R.Is {A : Type} (r : R A) (Q : A → Sto → Prop) : Prop := match r with
  | .ok a s => Q a s
  | _ => False
def SR.Is (r : SR) (N : Slots → Sto → Prop) (T : AV → Sto → Prop) : Prop := match r with
  | .nx e s => N e s
  | .rt v s => T v s
  | _ => False
section
variable {A B : Type} {T : Tab} {cf cf1 : CallF} {e : Slots} {st : Sto} {N : Slots → Sto → Prop} {Tr : AV → Sto → Prop}
theorem R.is_ok {a : A} {Q : A → Sto → Prop} : (R.ok a st).Is Q = Q a st := rfl
theorem R.is_no {Q : A → Sto → Prop} : (R.no : R A).Is Q = False := rfl
theorem R.is_ex {c : Nat} {Q : A → Sto → Prop} : (R.ex c st : R A).Is Q = False := rfl
theorem R.is_bind {r : R A} {f : A → Sto → R B} {Q : B → Sto → Prop} : (r.bind f).Is Q = r.Is fun a s => (f a s).Is Q := by cases r <;> rfl
theorem R.is_noex {r : R A} {f : A → Sto → R B} {Q : B → Sto → Prop} : (r.noex.bind f).Is Q = r.Is fun a s => (f a s).Is Q := by cases r <;> rfl
theorem R.is_st {r : R A} {f : A → Sto → SR} : (r.st e f).Is N Tr = r.Is fun a s => (f a s).Is N Tr := by cases r <;> rfl
theorem SR.is_nx : (SR.nx e st).Is N Tr = N e st := rfl
theorem SR.is_rt {v : AV} : (SR.rt v st).Is N Tr = Tr v st := rfl
theorem SR.is_no : SR.no.Is N Tr = False := rfl
theorem SR.is_bind {r : SR} {f : Slots → Sto → SR} : (r.bind f).Is N Tr = r.Is (fun e s => (f e s).Is N Tr) Tr := by cases r <;> rfl
theorem R.is_ofB {b : Bool} {Q : AV → Sto → Prop} : (R.ofB (some b) st).Is Q = Q (.bl b) st := rfl
theorem R.is_if {c : Prop} [Decidable c] {r r' : R A} {Q : A → Sto → Prop} : (if c then r else r').Is Q = if c then r.Is Q else r'.Is Q := by by_cases h : c <;> simp [h]
theorem SR.is_if {c : Prop} [Decidable c] {r r' : SR} : (if c then r else r').Is N Tr = if c then r.Is N Tr else r'.Is N Tr := by by_cases h : c <;> simp [h]
theorem R.Is.mono {r : R A} {Q Q' : A → Sto → Prop} (h : r.Is Q) (i : ∀ a s, Q a s → Q' a s) : r.Is Q' := by
  cases r with
  | ok a s => exact i _ _ h
  | _ => exact h
theorem SR.Is.mono {r : SR} {N N' : Slots → Sto → Prop} {Tr Tr' : AV → Sto → Prop} (h : r.Is N Tr) (i : ∀ a s, N a s → N' a s) (j : ∀ a s, Tr a s → Tr' a s) : r.Is N' Tr' := by
  cases r with
  | nx a s => exact i _ _ h
  | rt a s => exact j _ _ h
  | _ => exact h
theorem R.Is.eq {r : R A} {a : A} {s : Sto} (h : r = .ok a s) {Q : A → Sto → Prop} (q : Q a s) : r.Is Q := by rw [h]; exact q
theorem R.Is.get {r : R A} {Q : A → Sto → Prop} (h : r.Is Q) : ∃ a s, r = .ok a s ∧ Q a s := by
  cases r with
  | ok a s => exact ⟨a, s, rfl, h⟩
  | _ => exact h.elim
def slotIs : Slots → Nat → (AV → Prop) → Prop
  | some v :: _, 0, P => P v
  | _ :: e, n + 1, P => slotIs e n P
  | _, _, _ => False
theorem slot_0 {v : AV} {e : Slots} {P : AV → Prop} : slotIs (some v :: e) 0 P = P v := rfl
theorem slot_1 {o : Option AV} {n : Nat} {e : Slots} {P : AV → Prop} : slotIs (o :: e) (n + 1) P = slotIs e n P := by cases o <;> rfl
theorem slot_iff : ∀ {e : Slots} {i : Nat} {P : AV → Prop}, slotIs e i P = (match e[i]? with | some (some v) => P v | _ => False)
  | [], i, P => by cases i <;> rfl
  | o :: e, 0, P => by cases o <;> rfl
  | o :: e, i + 1, P => by rw [slot_1, slot_iff]; rfl
def setIs (e : Slots) (i : Nat) (o : Option AV) (K : Slots → Prop) : Prop := K (e.set i o)
theorem set_0 {o x : Option AV} {e : Slots} {K : Slots → Prop} : setIs (x :: e) 0 o K = K (o :: e) := rfl
theorem set_1 {o x : Option AV} {n : Nat} {e : Slots} {K : Slots → Prop} : setIs (x :: e) (n + 1) o K = setIs e n o fun e => K (x :: e) := rfl
def boolIs (v : AV) (P : Bool → Prop) : Prop := match v with
  | .bl b => P b
  | _ => False
theorem boolIs_b {b : Bool} {P : Bool → Prop} : boolIs (.bl b) P = P b := rfl
section
variable {Q : AV → Sto → Prop} {QL : List AV → Sto → Prop}
theorem i_var {i : Nat} : (ev T cf cf1 (.var i) e st).Is Q = slotIs e i fun v => Q v st := by
  rw [slot_iff]
  unfold ev
  cases e[i]? with
  | none => rfl
  | some o => cases o <;> rfl
theorem i_con {v : AV} : (ev T cf cf1 (.con v) e st).Is Q = Q v st := rfl
theorem i_kon {v : AV} : (ev T cf cf1 (.kon v) e st).Is Q = Q v st := rfl
theorem i_bin {op : Bop} {a b : E} : (ev T cf cf1 (.bin op a b) e st).Is Q = (ev T cf cf1 a e st).Is fun x st => (ev T cf cf1 b e st).Is fun y st => (binA op x y st).Is Q := by
  show (R.bind _ _).Is _ = _
  rw [R.is_bind]
  simp only [R.is_bind]
theorem i_neg {a : E} : (ev T cf cf1 (.neg a) e st).Is Q = (ev T cf cf1 a e st).Is fun x st => (negA x st).Is Q := R.is_bind
theorem i_not {a : E} : (ev T cf cf1 (.not a) e st).Is Q = (ev T cf cf1 a e st).Is fun x st => boolIs x fun b => Q (.bl !b) st := by
  refine R.is_bind.trans ?_
  congr 1
  funext v st
  cases v <;> rfl
theorem i_and {es : Es} : (ev T cf cf1 (.and es) e st).Is Q = (evAnd T cf cf1 es e st).Is Q := rfl
theorem i_or {es : Es} : (ev T cf cf1 (.or es) e st).Is Q = (evOr T cf cf1 es e st).Is Q := rfl
theorem i_and0 : (evAnd T cf cf1 .nil e st).Is Q = Q (.bl true) st := rfl
theorem i_or0 : (evOr T cf cf1 .nil e st).Is Q = Q (.bl false) st := rfl
theorem i_and1 {a : E} {es : Es} : (evAnd T cf cf1 (.cons a es) e st).Is Q = (ev T cf cf1 a e st).Is fun x st => boolIs x fun b => if b = true then (evAnd T cf cf1 es e st).Is Q else Q (.bl false) st := by
  refine R.is_bind.trans ?_
  congr 1
  funext v st
  cases v with
  | bl b => cases b <;> rfl
  | _ => rfl
theorem i_or1 {a : E} {es : Es} : (evOr T cf cf1 (.cons a es) e st).Is Q = (ev T cf cf1 a e st).Is fun x st => boolIs x fun b => if b = true then Q (.bl true) st else (evOr T cf cf1 es e st).Is Q := by
  refine R.is_bind.trans ?_
  congr 1
  funext v st
  cases v with
  | bl b => cases b <;> rfl
  | _ => rfl
theorem i_cmp {op : Cop} {a b : E} : (ev T cf cf1 (.cmp op a b) e st).Is Q = (ev T cf cf1 a e st).Is fun x st => (ev T cf cf1 b e st).Is fun y st => (cmpA op x y st).Is Q := by
  refine R.is_bind.trans ?_
  congr 1
  funext v st
  exact R.is_bind
theorem i_chain {o1 o2 : Cop} {a b c : E} : (ev T cf cf1 (.chain o1 o2 a b c) e st).Is Q = (ev T cf cf1 a e st).Is fun x st => (ev T cf cf1 b e st).Is fun y st => (cmpA o1 x y st).Is fun k st => boolIs k fun t => if t = true then (ev T cf cf1 c e st).Is fun z st => (cmpA o2 y z st).Is Q else Q (.bl false) st := by
  refine R.is_bind.trans ?_
  congr 1
  funext v st
  refine R.is_bind.trans ?_
  congr 1
  funext w st
  refine R.is_bind.trans ?_
  congr 1
  funext k st
  cases k with
  | bl b =>
    cases b
    · rfl
    · exact R.is_bind
  | _ => rfl
theorem i_lst {es : Es} : (ev T cf cf1 (.lst es) e st).Is Q = (evs T cf cf1 es e st).Is fun xs st => if xs.length ≤ lim then Q (.ref st.length) (st ++ [.lst xs]) else False := by
  refine R.is_bind.trans ?_
  congr 1
  funext v st
  exact R.is_if
theorem i_tup {es : Es} : (ev T cf cf1 (.tup es) e st).Is Q = (evs T cf cf1 es e st).Is fun xs st => if xs.length ≤ lim then Q (.tup xs) st else False := by
  refine R.is_bind.trans ?_
  congr 1
  funext v st
  exact R.is_if
theorem i_dnew {t : Bool} : (ev T cf cf1 (.dnew t) e st).Is Q = Q (.ref st.length) (st ++ [if t = true then .dT [] else .dK []]) := rfl
theorem i_call {g : Nat} {es : Es} : (ev T cf cf1 (.call g es) e st).Is Q = (evs T cf cf1 es e st).Is fun xs st => (cf g xs st).Is Q := R.is_bind
theorem i_mk {g : Nat} {es : Es} : (ev T cf cf1 (.mk g es) e st).Is Q = (evs T cf cf1 es e st).Is fun xs st => (mkA T cf1 g xs st).Is Q := R.is_bind
theorem i_bcall {g : Bi} {es : Es} : (ev T cf cf1 (.bcall g es) e st).Is Q = (evs T cf cf1 es e st).Is fun xs st => (callB g xs st).Is Q := R.is_bind
theorem i_isi {t : Ty} {a : E} : (ev T cf cf1 (.isi t a) e st).Is Q = (ev T cf cf1 a e st).Is fun v st => (R.ofB (isA T t v st) st).Is Q := R.is_bind
theorem i_meth {m : Nat} {o : E} {es : Es} : (ev T cf cf1 (.meth m o es) e st).Is Q = (ev T cf cf1 o e st).Is fun v st => ((selA T m v st).ok ((evs T cf cf1 es e st).bind fun xs st1 => methA cf (selA T m v st) m v xs st1)).Is Q := R.is_bind
theorem i_sel {g m : Nat} {v : AV} {f : CallF} {r : R (List AV)} : ((Sel.own g).ok (r.bind fun xs st1 => methA f (Sel.own g) m v xs st1)).Is Q = r.Is fun xs st1 => (f g (v :: xs) st1).Is Q := R.is_bind
theorem i_selL {m : Nat} {v : AV} {f : CallF} {r : R (List AV)} : (Sel.lst.ok (r.bind fun xs st1 => methA f Sel.lst m v xs st1)).Is Q = r.Is fun xs st1 => (bmeth Sel.lst m v xs st1).Is Q := R.is_bind
theorem i_fld {o : E} {f : Nat} : (ev T cf cf1 (.fld o f) e st).Is Q = (ev T cf cf1 o e st).Is fun v st => (fldA T v f st).Is Q := R.is_bind
theorem i_idx {a b : E} : (ev T cf cf1 (.idx a b) e st).Is Q = (ev T cf cf1 a e st).Is fun x st => (ev T cf cf1 b e st).Is fun y st => (idxA x y st).Is Q := by
  refine R.is_bind.trans ?_
  congr 1
  funext v st
  exact R.is_bind
theorem i_sl {a : E} {lo hi : Es} : (ev T cf cf1 (.sl a lo hi) e st).Is Q = (ev T cf cf1 a e st).Is fun v st => (evO T cf cf1 lo e st).Is fun a st => (evO T cf cf1 hi e st).Is fun b st => (slA v a b st).Is Q := by
  refine R.is_bind.trans ?_
  congr 1
  funext v st
  refine R.is_bind.trans ?_
  congr 1
  funext v st
  exact R.is_bind
theorem i_lrng {a : E} : (ev T cf cf1 (.lrng a) e st).Is Q = (ev T cf cf1 a e st).Is fun x st => (lrngA x st).Is Q := R.is_bind
theorem i_lc {own : List Nat} {tg : Tg} {it : Iw} {cond : Es} {elt : E} : (ev T cf cf1 (.lc own tg it cond elt) e st).Is Q = (evIt T cf cf1 it e st).Is fun w st => (lcL tg w.ck (fun e st => evAnd T cf cf1 cond e st) (fun e st => ev T cf cf1 elt e st) (wipeA e own) w.xs [] st).Is fun acc st => Q (.ref st.length) (st ++ [.lst acc]) := by
  refine R.is_bind.trans ?_
  congr 1
  funext v st
  exact R.is_bind
theorem i_nil : (evs T cf cf1 .nil e st).Is QL = QL [] st := rfl
theorem i_cons {a : E} {es : Es} : (evs T cf cf1 (.cons a es) e st).Is QL = (ev T cf cf1 a e st).Is fun x st => (evs T cf cf1 es e st).Is fun xs st => QL (x :: xs) st := by
  refine R.is_bind.trans ?_
  congr 1
  funext v st
  exact R.is_bind
variable {QO : Option Int → Sto → Prop} {QW : Wk → Sto → Prop}
theorem i_o0 : (evO T cf cf1 .nil e st).Is QO = QO none st := rfl
theorem i_o1 {a : E} {es : Es} : (evO T cf cf1 (.cons a es) e st).Is QO = (ev T cf cf1 a e st).Is fun x st => (optI x st).Is QO := R.is_bind
theorem i_opt {i : Int} : (optI (.int i) st).Is QO = QO (some i) st := rfl
theorem i_seq {a : E} : (evIt T cf cf1 (.seq a) e st).Is QW = (ev T cf cf1 a e st).Is fun v st => (wkA (srcA st v) st).Is QW := R.is_bind
theorem i_rng1 {a : E} : (evIt T cf cf1 (.rng1 a) e st).Is QW = (ev T cf cf1 a e st).Is fun v st => (wkA (rngA [v]) st).Is QW := R.is_bind
theorem i_rng2 {a b : E} : (evIt T cf cf1 (.rng2 a b) e st).Is QW = (ev T cf cf1 a e st).Is fun v st => (ev T cf cf1 b e st).Is fun u st => (wkA (rngA [v, u]) st).Is QW := by
  refine R.is_bind.trans ?_
  congr 1
  funext v st
  exact R.is_bind
theorem i_enum {a : E} : (evIt T cf cf1 (.enum a) e st).Is QW = (ev T cf cf1 a e st).Is fun v st => (wkA (enumA st v) st).Is QW := R.is_bind
theorem i_zip {a b : E} : (evIt T cf cf1 (.zip a b) e st).Is QW = (ev T cf cf1 a e st).Is fun v st => (ev T cf cf1 b e st).Is fun u st => (wkA (zipA st v u) st).Is QW := by
  refine R.is_bind.trans ?_
  congr 1
  funext v st
  exact R.is_bind
theorem i_wk {w : Wk} : (wkA (some w) st).Is QW = QW w st := rfl
theorem i_tst {r : R AV} {QB : Bool → Sto → Prop} : (tst r).Is QB = r.Is fun v st => boolIs v fun b => QB b st := by
  refine R.is_bind.trans ?_
  congr 1
  funext v st
  cases v <;> rfl
end
theorem ws_done : (exS T cf cf1 .done e st).Is N Tr = N e st := rfl
theorem ws_asg {i : Nat} {a : E} {k : S} : (exS T cf cf1 (.asg i a k) e st).Is N Tr = (ev T cf cf1 a e st).Is fun v st => setIs e i (some v) fun e => (exS T cf cf1 k e st).Is N Tr := R.is_st
theorem ws_asgT {is : List Nat} {a : E} {k : S} : (exS T cf cf1 (.asgT is a k) e st).Is N Tr = (ev T cf cf1 a e st).Is fun v st => (SR.ofE (bindT (.tp is) v e) fun e => exS T cf cf1 k e st).Is N Tr := R.is_st
theorem ws_ofE {f : Slots → SR} {e : Slots} : (SR.ofE (some e) f).Is N Tr = (f e).Is N Tr := rfl
theorem ws_of {f : Sto → SR} {st : Sto} : (SR.of (some st) f).Is N Tr = (f st).Is N Tr := rfl
theorem ws_asgF {o : E} {f : Nat} {a : E} {k : S} : (exS T cf cf1 (.asgF o f a k) e st).Is N Tr = (ev T cf cf1 a e st).Is fun v st => (ev T cf cf1 o e st).Is fun o st => (SR.of (setF T o f v st) fun st => exS T cf cf1 k e st).Is N Tr := by
  refine R.is_st.trans ?_
  congr 1
  funext v st
  exact R.is_st
theorem ws_asgI {o i : E} {a : E} {k : S} : (exS T cf cf1 (.asgI o i a k) e st).Is N Tr = (ev T cf cf1 a e st).Is fun v st => (ev T cf cf1 o e st).Is fun o st => (ev T cf cf1 i e st).Is fun i st => (SR.of (setI o i v st) fun st => exS T cf cf1 k e st).Is N Tr := by
  refine R.is_st.trans ?_
  congr 1
  funext v st
  refine R.is_st.trans ?_
  congr 1
  funext v st
  exact R.is_st
def intIs (v : AV) (P : Int → Prop) : Prop := match v with
  | .int b => P b
  | _ => False
theorem intIs_i {b : Int} {P : Int → Prop} : intIs (.int b) P = P b := rfl
theorem ws_aug {i : Nat} {op : Bop} {a : E} {k : S} : (exS T cf cf1 (.aug i op a k) e st).Is N Tr = slotIs e i fun x => (ev T cf cf1 a e st).Is fun v st => intIs x fun p => intIs v fun q => setIs e i (some (.int (p + q))) fun e => (exS T cf cf1 k e st).Is N Tr := by
  rw [slot_iff]
  conv => lhs; unfold exS
  cases e[i]? with
  | none => rfl
  | some o =>
    cases o with
    | none => rfl
    | some x =>
      refine R.is_st.trans ?_
      congr 1
      funext v st
      cases x <;> cases v <;> rfl
theorem ws_expr {a : E} {k : S} : (exS T cf cf1 (.expr a k) e st).Is N Tr = (ev T cf cf1 a e st).Is fun _ st => (exS T cf cf1 k e st).Is N Tr := R.is_st
theorem ws_ret {a : E} : (exS T cf cf1 (.ret a) e st).Is N Tr = (ev T cf cf1 a e st).Is Tr := R.is_st
theorem ws_retN : (exS T cf cf1 .retN e st).Is N Tr = Tr .non st := rfl
theorem ws_ite {c : E} {a b k : S} : (exS T cf cf1 (.ite c a b k) e st).Is N Tr = (ev T cf cf1 c e st).Is fun v st => boolIs v fun t => if t = true then (exS T cf cf1 a e st).Is (fun e st => (exS T cf cf1 k e st).Is N Tr) Tr else (exS T cf cf1 b e st).Is (fun e st => (exS T cf cf1 k e st).Is N Tr) Tr := by
  refine R.is_st.trans ?_
  congr 1
  funext v st
  cases v with
  | bl b => cases b <;> exact SR.is_bind
  | _ => rfl
theorem ws_loop {tg : Tg} {it : Iw} {body k : S} : (exS T cf cf1 (.loop tg it body k) e st).Is N Tr = (evIt T cf cf1 it e st).Is fun w st => (forL tg w.ck (fun e st => exS T cf cf1 body e st) w.xs e st).Is (fun e st => (exS T cf cf1 k e st).Is N Tr) Tr := by
  refine R.is_st.trans ?_
  congr 1
  funext v st
  exact SR.is_bind
theorem ws_whil {c : E} {body k : S} : (exS T cf cf1 (.whil c body k) e st).Is N Tr = (whL (fun e st => ev T cf cf1 c e st) (fun e st => exS T cf cf1 body e st) wfuel e st).Is (fun e st => (exS T cf cf1 k e st).Is N Tr) Tr := SR.is_bind
/-- a call -/
theorem call_is {n d np ns : Nat} {body : S} {args : List AV} {Q : AV → Sto → Prop} (h : T.df d = some (np, ns, body)) (hl : args.length = np)
    (k : (exS T (callF T n) (lev T n).2 body (args.map some ++ List.replicate (ns - np) none) st).Is (fun _ s => Q .non s) Q) : (callF T (n + 1) d args st).Is Q := by
  show (runD T (lev T n).1 (lev T n).2 d args st).Is Q
  unfold runD
  rw [h]
  dsimp only
  rw [if_pos hl]
  revert k
  show (exS T (lev T n).1 (lev T n).2 body (args.map some ++ List.replicate (ns - np) none) st).Is _ _ → _
  generalize exS T (lev T n).1 (lev T n).2 body (args.map some ++ List.replicate (ns - np) none) st = y
  cases y <;> exact fun z => z

/-! ### loops -/
theorem for_is {tg : Tg} {ck : Sto → Bool} {body : Slots → Sto → SR} (I : Nat → Slots → Sto → Prop) : ∀ (xs : List AV) (k : Nat) (e : Slots) (st : Sto), I k e st →
    (∀ i x e st, xs[i]? = some x → I (k + i) e st → ck st = true ∧ ∃ e', bindT tg x e = some e' ∧ (body e' st).Is (I (k + i + 1)) Tr) → (∀ e st, I (k + xs.length) e st → ck st = true ∧ N e st) → (forL tg ck body xs e st).Is N Tr
  | [], k, e, st, h, _, hd => by
    obtain ⟨h1, h2⟩ := hd e st h
    unfold forL
    rw [if_pos h1]
    exact h2
  | x :: xs, k, e, st, h, hs, hd => by
    obtain ⟨h1, e', h2, h3⟩ := hs 0 x e st rfl h
    unfold forL
    rw [if_pos h1, h2]
    dsimp only
    rw [SR.is_bind]
    refine SR.Is.mono h3 (fun e2 s2 h4 => ?_) fun _ _ q => q
    refine for_is I xs (k + 1) e2 s2 h4 (fun i y e st hy hI => ?_) fun e st hI => hd e st (by rw [List.length_cons, show k + (xs.length + 1) = k + 1 + xs.length by omega]; exact hI)
    have e3 : k + 1 + i = k + (i + 1) := by omega
    rw [e3] at hI ⊢
    exact hs (i + 1) y e st hy hI
theorem lc_is {tg : Tg} {ck : Sto → Bool} {cond elt : Slots → Sto → R AV} {e0 : Slots} {Q : List AV → Sto → Prop} (I : Nat → List AV → Sto → Prop) : ∀ (xs : List AV) (k : Nat) (acc : List AV) (st : Sto), I k acc st →
    (∀ i x acc st, xs[i]? = some x → I (k + i) acc st → ck st = true ∧ ∃ e', bindT tg x e0 = some e' ∧ (tst (cond e' st)).Is fun b st => if b = true then (elt e' st).Is fun v st => acc.length < lim ∧ I (k + i + 1) (acc ++ [v]) st else I (k + i + 1) acc st) →
    (∀ acc st, I (k + xs.length) acc st → ck st = true ∧ Q acc st) → (lcL tg ck cond elt e0 xs acc st).Is Q
  | [], k, acc, st, h, _, hd => by
    obtain ⟨h1, h2⟩ := hd acc st h
    unfold lcL
    rw [if_pos h1]
    exact h2
  | x :: xs, k, acc, st, h, hs, hd => by
    obtain ⟨h1, e', h2, h3⟩ := hs 0 x acc st rfl h
    unfold lcL
    rw [if_pos h1, h2]
    dsimp only
    rw [R.is_noex]
    have nxt : ∀ acc st, I (k + 1) acc st → (lcL tg ck cond elt e0 xs acc st).Is Q := fun acc st hI => by
      refine lc_is I xs (k + 1) acc st hI (fun i y acc st hy hI => ?_) fun acc st hI => hd acc st (by rw [List.length_cons, show k + (xs.length + 1) = k + 1 + xs.length by omega]; exact hI)
      have e3 : k + 1 + i = k + (i + 1) := by omega
      rw [e3] at hI ⊢
      exact hs (i + 1) y acc st hy hI
    refine R.Is.mono h3 fun b s2 h4 => ?_
    cases b with
    | true =>
      rw [if_pos rfl] at h4 ⊢
      rw [R.is_noex]
      refine R.Is.mono h4 fun v s3 ⟨h5, h6⟩ => ?_
      rw [if_pos h5]
      exact nxt _ _ h6
    | false =>
      rw [if_neg Bool.false_ne_true] at h4 ⊢
      exact nxt _ _ h4
theorem wh_is {c : Slots → Sto → R AV} {body : Slots → Sto → SR} (I : Nat → Slots → Sto → Prop)
    (hs : ∀ k e st, I k e st → (tst (c e st)).Is fun b st => if b = true then (body e st).Is (fun e st => ∃ k', k' < k ∧ I k' e st) Tr else N e st) : ∀ (f k : Nat) (e : Slots) (st : Sto), k < f → I k e st → (whL c body f e st).Is N Tr
  | 0, k, e, st, hf, _ => by omega
  | f + 1, k, e, st, hf, h => by
    have q := hs k e st h
    unfold whL
    rw [R.is_st]
    revert q
    generalize c e st = y
    intro q
    cases y with
    | ok v s2 =>
      cases v with
      | bl b =>
        cases b with
        | true =>
          show (SR.bind (body e s2) fun e st => whL c body f e st).Is N Tr
          have q : if true = true then (body e s2).Is (fun e st => ∃ k', k' < k ∧ I k' e st) Tr else N e s2 := q
          rw [if_pos rfl] at q
          rw [SR.is_bind]
          exact SR.Is.mono q (fun e3 s3 ⟨k', h1, h2⟩ => wh_is I hs f k' e3 s3 (by omega) h2) fun _ _ z => z
        | false =>
          have q : if false = true then (body e s2).Is (fun e st => ∃ k', k' < k ∧ I k' e st) Tr else N e s2 := q
          rw [if_neg Bool.false_ne_true] at q
          exact q
      | _ => exact q.elim
    | _ => exact q.elim

/-! ### the store -/
def Ext (st st' : Sto) : Prop := ∀ (n : Nat) (o : AO), st[n]? = some o → st'[n]? = some o
theorem Ext.refl (st : Sto) : Ext st st := fun _ _ h => h
theorem Ext.trans {a b c : Sto} (h : Ext a b) (k : Ext b c) : Ext a c := fun n o q => k n o (h n o q)
theorem Ext.push (st : Sto) (o : AO) : Ext st (st ++ [o]) := fun n u h => by
  rw [List.getElem?_append_left (List.getElem?_eq_some_iff.mp h).1]; exact h
theorem get_push (st : Sto) (o : AO) : (st ++ [o])[st.length]? = some o := by simp
theorem Ext.lt {a b : Sto} (h : Ext a b) : a.length ≤ b.length := by
  cases q : a.length with
  | zero => exact Nat.zero_le _
  | succ k =>
    have : k < a.length := by omega
    have z := h k _ (List.getElem?_eq_getElem this)
    have := (List.getElem?_eq_some_iff.mp z).1
    omega
/-- a change at what is new -/
theorem Ext.set {a b : Sto} {n : Nat} {o : AO} (h : Ext a b) (hn : a.length ≤ n) : Ext a (b.set n o) := fun m u q => by
  have := (List.getElem?_eq_some_iff.mp q).1
  rw [List.getElem?_set_ne (by omega)]
  exact h m u q

/-! ### comparisons -/
def chOk (x : List Nat) : Bool := x.all (· < 0x110000)
theorem strOk_of {x : List Nat} (h : chOk x = true) : PyData.strOk ⟨x.toArray⟩ = true := by
  unfold PyData.strOk
  rw [← Array.all_toList]
  exact h
theorem pdS_int (st : Sto) (i : Int) : pdS st (.int i) = some (.int i) := by
  unfold pdS pd
  dsimp only
  rw [if_pos (by rfl)]
theorem pdS_bl (st : Sto) (i : Bool) : pdS st (.bl i) = some (.bool i) := by
  unfold pdS pd
  dsimp only
  rw [if_pos (by rfl)]
theorem pdS_non (st : Sto) : pdS st .non = some .none := by
  unfold pdS pd
  dsimp only
  rw [if_pos (by rfl)]
theorem pdS_str (st : Sto) {x : List Nat} (h : chOk x = true) : pdS st (.str x) = some (.str ⟨x.toArray⟩) := by
  unfold pdS pd
  dsimp only
  rw [if_pos]
  unfold SeqAt.shaped
  rw [Bool.and_eq_true]
  exact ⟨by show PyData.canLay0 (.str ⟨x.toArray⟩) = true; unfold PyData.canLay0; exact strOk_of h, by simp [PyData.depth]⟩
theorem str_beq (x y : List Nat) : ((⟨x.toArray⟩ : Str) == ⟨y.toArray⟩) = decide (x = y) := by
  by_cases h : x = y
  · subst h; simp
  · have : (⟨x.toArray⟩ : Str) ≠ ⟨y.toArray⟩ := fun e => h (by
      injection e with e
      exact congrArg Array.toList e)
    simp [h, this]
theorem eqA_int (st : Sto) (i j : Int) : eqA st (.int i) (.int j) = some (decide (i = j)) := by
  unfold eqA
  rw [pdS_int, pdS_int]
  simp only [PyData.eqv]
  rfl
theorem eqA_bl (st : Sto) (i j : Bool) : eqA st (.bl i) (.bl j) = some (i == j) := by
  unfold eqA
  rw [pdS_bl, pdS_bl]
  simp [PyData.eqv]
theorem eqA_str (st : Sto) {x y : List Nat} (h : chOk x = true) (h2 : chOk y = true) : eqA st (.str x) (.str y) = some (decide (x = y)) := by
  unfold eqA
  rw [pdS_str st h, pdS_str st h2]
  simp only [PyData.eqv, str_beq]
theorem subIn_one (c : Nat) (z : List Nat) : subIn [c] z = decide (c ∈ z) := by
  unfold subIn
  have h := PySem.StrLaws.found_one ⟨z.toArray⟩ c
  have e : (⟨z.toArray⟩ : Str).length = z.length := by simp [Str.length]
  rw [e] at h
  exact h
theorem bools_map (bs : List Bool) : boolsA (bs.map .bl) = some bs := by
  induction bs with
  | nil => rfl
  | cons b bs ih => simp [boolsA, ih]
theorem all_is {n : Nat} {bs : List Bool} (h : st[n]? = some (.lst (bs.map .bl))) : callB .all [.ref n] st = .ok (.bl (bs.all id)) st := by
  simp only [callB, lstA, h, bools_map]
  rfl
theorem any_is {n : Nat} {bs : List Bool} (h : st[n]? = some (.lst (bs.map .bl))) : callB .any [.ref n] st = .ok (.bl (bs.any id)) st := by
  simp only [callB, lstA, h, bools_map]
  rfl

/-! ### one step each -/
theorem b_add {i j : Int} : binA .add (.int i) (.int j) st = .ok (.int (i + j)) st := rfl
theorem b_sub {i j : Int} : binA .sub (.int i) (.int j) st = .ok (.int (i - j)) st := rfl
theorem b_addS {a b : List Nat} (h : a.length + b.length ≤ lim) : binA .add (.str a) (.str b) st = .ok (.str (a ++ b)) st := by
  show (if a.length + b.length ≤ lim then _ else _) = _
  rw [if_pos h]
theorem b_addT {a b : List AV} (h : a.length + b.length ≤ lim) : binA .add (.tup a) (.tup b) st = .ok (.tup (a ++ b)) st := by
  show (if a.length + b.length ≤ lim then _ else _) = _
  rw [if_pos h]
theorem b_mul {i j : Int} (h : mulOk i j = true) : binA .mul (.int i) (.int j) st = .ok (.int (i * j)) st := by
  show (if mulOk i j = true then _ else _) = _
  rw [if_pos h]
theorem b_fdiv {i j : Int} (h : 0 < j ∧ j < 1073741824) : binA .fdiv (.int i) (.int j) st = .ok (.int (i / j)) st := by
  show (if 0 < j ∧ j < 1073741824 then _ else _) = _
  rw [if_pos h]
theorem b_mod {i j : Int} (h : 0 < j) : binA .mod (.int i) (.int j) st = .ok (.int (i % j)) st := by
  show (if 0 < j then _ else _) = _
  rw [if_pos h]
theorem b_pow {i j : Int} (h : 0 ≤ j ∧ j ≤ 1000000 ∧ i.natAbs < 18446744073709551616) : binA .pow (.int i) (.int j) st = .ok (.int (i ^ j.toNat)) st := by
  show (if 0 ≤ j ∧ j ≤ 1000000 ∧ i.natAbs < 18446744073709551616 then _ else _) = _
  rw [if_pos h]
theorem b_band {i j : Int} : binA .band (.int i) (.int j) st = .ok (.int (Builtin.bitAnd i j)) st := rfl
theorem b_shr {i j : Int} (h : 0 ≤ j) : binA .shr (.int i) (.int j) st = .ok (.int (i / 2 ^ j.toNat)) st := by
  show (if 0 ≤ j then _ else _) = _
  rw [if_pos h]
theorem mulOk_l {i j : Int} (h0 : 0 ≤ i) (h : i < 18446744073709551616) : mulOk i j = true := by
  unfold mulOk
  have : i.natAbs < 18446744073709551616 := by omega
  simp [this]
theorem mulOk_r {i j : Int} (h0 : 0 ≤ j) (h : j < 18446744073709551616) : mulOk i j = true := by
  unfold mulOk
  have : j.natAbs < 18446744073709551616 := by omega
  simp [this]
theorem c_lt {i j : Int} : cmpA .lt (.int i) (.int j) st = .ok (.bl (decide (i < j))) st := rfl
theorem c_le {i j : Int} : cmpA .le (.int i) (.int j) st = .ok (.bl (decide (i ≤ j))) st := rfl
theorem c_gt {i j : Int} : cmpA .gt (.int i) (.int j) st = .ok (.bl (decide (j < i))) st := rfl
theorem c_ge {i j : Int} : cmpA .ge (.int i) (.int j) st = .ok (.bl (decide (j ≤ i))) st := rfl
theorem c_eq {x y : AV} {b : Bool} (h : eqA st x y = some b) : cmpA .eq x y st = .ok (.bl b) st := by
  show R.ofB (eqA st x y) st = _
  rw [h]; rfl
theorem c_ne {x y : AV} {b : Bool} (h : eqA st x y = some b) : cmpA .ne x y st = .ok (.bl (!b)) st := by
  show R.ofB ((eqA st x y).map not) st = _
  rw [h]; rfl
theorem c_in {x y : AV} {b : Bool} (h : inA st x y = some b) : cmpA .isin x y st = .ok (.bl b) st := by
  show R.ofB (inA st x y) st = _
  rw [h]; rfl
theorem c_nin {x y : AV} {b : Bool} (h : inA st x y = some b) : cmpA .notin x y st = .ok (.bl (!b)) st := by
  show R.ofB ((inA st x y).map not) st = _
  rw [h]; rfl
theorem c_is {x : AV} : cmpA .is x .non st = .ok (.bl (decide (x = .non))) st := rfl
theorem c_isnot {x : AV} : cmpA .isnot x .non st = .ok (.bl (!decide (x = .non))) st := rfl
theorem c_eqI {i j : Int} : cmpA .eq (.int i) (.int j) st = .ok (.bl (decide (i = j))) st := c_eq (eqA_int st i j)
theorem c_neI {i j : Int} : cmpA .ne (.int i) (.int j) st = .ok (.bl (!decide (i = j))) st := c_ne (eqA_int st i j)
theorem c_eqB {i j : Bool} : cmpA .eq (.bl i) (.bl j) st = .ok (.bl (i == j)) st := c_eq (eqA_bl st i j)
theorem c_eqS {i j : List Nat} (h : chOk i = true) (h2 : chOk j = true) : cmpA .eq (.str i) (.str j) st = .ok (.bl (decide (i = j))) st := c_eq (eqA_str st h h2)
theorem c_neS {i j : List Nat} (h : chOk i = true) (h2 : chOk j = true) : cmpA .ne (.str i) (.str j) st = .ok (.bl (!decide (i = j))) st := c_ne (eqA_str st h h2)
theorem c_in1 {c : Nat} {z : List Nat} : cmpA .isin (.str [c]) (.str z) st = .ok (.bl (decide (c ∈ z))) st := by
  refine c_in ?_
  show some (subIn [c] z) = _
  rw [subIn_one]
theorem l_lenS {x : List Nat} (h : x.length ≤ lim) : callB .len [.str x] st = .ok (.int x.length) st := by
  show (if x.length ≤ lim then _ else _) = _
  rw [if_pos h]
theorem l_lenT {x : List AV} : callB .len [.tup x] st = .ok (.int x.length) st := rfl
theorem l_len {n : Nat} {x : List AV} (h : st[n]? = some (.lst x)) : callB .len [.ref n] st = .ok (.int x.length) st := by
  simp only [callB, h]
theorem neg_i {i : Int} : negA (.int i) st = .ok (.int (-i)) st := rfl
theorem not_b {b : Bool} : notA (.bl b) st = .ok (.bl (!b)) st := rfl
theorem tst_b {b : Bool} : tst (.ok (.bl b) st) = .ok b st := rfl
theorem ix_t {xs : List AV} {i : Int} {k : Nat} {v : AV} (h : L2.ixN xs.length i = some k) (h2 : xs[k]? = some v) : idxA (.tup xs) (.int i) st = .ok v st := by
  simp only [idxA, h, h2]
theorem ix_l {n : Nat} {xs : List AV} {i : Int} {k : Nat} {v : AV} (h0 : st[n]? = some (.lst xs)) (h : L2.ixN xs.length i = some k) (h2 : xs[k]? = some v) : idxA (.ref n) (.int i) st = .ok v st := by
  simp only [idxA, h0, h, h2]
theorem ix_s {xs : List Nat} {i : Int} {k : Nat} {v : Nat} (hl : xs.length ≤ lim) (h : L2.ixN xs.length i = some k) (h2 : xs[k]? = some v) : idxA (.str xs) (.int i) st = .ok (.str [v]) st := by
  simp only [idxA, if_pos hl, h, h2]
theorem ixN_nat {n k : Nat} (h : k < n) : L2.ixN n (k : Int) = some k := by
  unfold L2.ixN
  rw [if_pos (by omega), if_pos (by omega)]
  simp
theorem ixN_of {n : Nat} {i : Int} (h0 : 0 ≤ i) (h : i < n) : L2.ixN n i = some i.toNat := by
  unfold L2.ixN
  rw [if_pos h0, if_pos h]
theorem ib_add {i j : Int} {Q : AV → Sto → Prop} : (binA .add (.int i) (.int j) st).Is Q = Q (.int (i + j)) st := by rw [b_add]; rfl
theorem ib_sub {i j : Int} {Q : AV → Sto → Prop} : (binA .sub (.int i) (.int j) st).Is Q = Q (.int (i - j)) st := by rw [b_sub]; rfl
theorem ib_addS {a b : List Nat} (h : a.length + b.length ≤ lim) {Q : AV → Sto → Prop} : (binA .add (.str a) (.str b) st).Is Q = Q (.str (a ++ b)) st := by rw [b_addS h]; rfl
theorem ib_addT {a b : List AV} (h : a.length + b.length ≤ lim) {Q : AV → Sto → Prop} : (binA .add (.tup a) (.tup b) st).Is Q = Q (.tup (a ++ b)) st := by rw [b_addT h]; rfl
theorem ib_mul {i j : Int} (h : mulOk i j = true) {Q : AV → Sto → Prop} : (binA .mul (.int i) (.int j) st).Is Q = Q (.int (i * j)) st := by rw [b_mul h]; rfl
theorem ib_fdiv {i j : Int} (h : 0 < j ∧ j < 1073741824) {Q : AV → Sto → Prop} : (binA .fdiv (.int i) (.int j) st).Is Q = Q (.int (i / j)) st := by rw [b_fdiv h]; rfl
theorem ib_mod {i j : Int} (h : 0 < j) {Q : AV → Sto → Prop} : (binA .mod (.int i) (.int j) st).Is Q = Q (.int (i % j)) st := by rw [b_mod h]; rfl
theorem ib_pow {i j : Int} (h : 0 ≤ j ∧ j ≤ 1000000 ∧ i.natAbs < 18446744073709551616) {Q : AV → Sto → Prop} : (binA .pow (.int i) (.int j) st).Is Q = Q (.int (i ^ j.toNat)) st := by rw [b_pow h]; rfl
theorem ib_band {i j : Int} {Q : AV → Sto → Prop} : (binA .band (.int i) (.int j) st).Is Q = Q (.int (Builtin.bitAnd i j)) st := by rw [b_band]; rfl
theorem ib_shr {i j : Int} (h : 0 ≤ j) {Q : AV → Sto → Prop} : (binA .shr (.int i) (.int j) st).Is Q = Q (.int (i / 2 ^ j.toNat)) st := by rw [b_shr h]; rfl
theorem ic_lt {i j : Int} {Q : AV → Sto → Prop} : (cmpA .lt (.int i) (.int j) st).Is Q = Q (.bl (decide (i < j))) st := by rw [c_lt]; rfl
theorem ic_le {i j : Int} {Q : AV → Sto → Prop} : (cmpA .le (.int i) (.int j) st).Is Q = Q (.bl (decide (i ≤ j))) st := by rw [c_le]; rfl
theorem ic_gt {i j : Int} {Q : AV → Sto → Prop} : (cmpA .gt (.int i) (.int j) st).Is Q = Q (.bl (decide (j < i))) st := by rw [c_gt]; rfl
theorem ic_ge {i j : Int} {Q : AV → Sto → Prop} : (cmpA .ge (.int i) (.int j) st).Is Q = Q (.bl (decide (j ≤ i))) st := by rw [c_ge]; rfl
theorem ic_eq {x y : AV} {b : Bool} (h : eqA st x y = some b) {Q : AV → Sto → Prop} : (cmpA .eq x y st).Is Q = Q (.bl b) st := by rw [c_eq h]; rfl
theorem ic_ne {x y : AV} {b : Bool} (h : eqA st x y = some b) {Q : AV → Sto → Prop} : (cmpA .ne x y st).Is Q = Q (.bl (!b)) st := by rw [c_ne h]; rfl
theorem ic_in {x y : AV} {b : Bool} (h : inA st x y = some b) {Q : AV → Sto → Prop} : (cmpA .isin x y st).Is Q = Q (.bl b) st := by rw [c_in h]; rfl
theorem ic_nin {x y : AV} {b : Bool} (h : inA st x y = some b) {Q : AV → Sto → Prop} : (cmpA .notin x y st).Is Q = Q (.bl (!b)) st := by rw [c_nin h]; rfl
theorem ic_is {x : AV} {Q : AV → Sto → Prop} : (cmpA .is x .non st).Is Q = Q (.bl (decide (x = .non))) st := by rw [c_is]; rfl
theorem ic_isnot {x : AV} {Q : AV → Sto → Prop} : (cmpA .isnot x .non st).Is Q = Q (.bl (!decide (x = .non))) st := by rw [c_isnot]; rfl
theorem ic_eqI {i j : Int} {Q : AV → Sto → Prop} : (cmpA .eq (.int i) (.int j) st).Is Q = Q (.bl (decide (i = j))) st := by rw [c_eqI]; rfl
theorem ic_neI {i j : Int} {Q : AV → Sto → Prop} : (cmpA .ne (.int i) (.int j) st).Is Q = Q (.bl (!decide (i = j))) st := by rw [c_neI]; rfl
theorem ic_eqB {i j : Bool} {Q : AV → Sto → Prop} : (cmpA .eq (.bl i) (.bl j) st).Is Q = Q (.bl (i == j)) st := by rw [c_eqB]; rfl
theorem ic_eqS {i j : List Nat} (h : chOk i = true) (h2 : chOk j = true) {Q : AV → Sto → Prop} : (cmpA .eq (.str i) (.str j) st).Is Q = Q (.bl (decide (i = j))) st := by rw [c_eqS h h2]; rfl
theorem ic_neS {i j : List Nat} (h : chOk i = true) (h2 : chOk j = true) {Q : AV → Sto → Prop} : (cmpA .ne (.str i) (.str j) st).Is Q = Q (.bl (!decide (i = j))) st := by rw [c_neS h h2]; rfl
theorem ic_in1 {c : Nat} {z : List Nat} {Q : AV → Sto → Prop} : (cmpA .isin (.str [c]) (.str z) st).Is Q = Q (.bl (decide (c ∈ z))) st := by rw [c_in1]; rfl
theorem il_lenS {x : List Nat} (h : x.length ≤ lim) {Q : AV → Sto → Prop} : (callB .len [.str x] st).Is Q = Q (.int x.length) st := by rw [l_lenS h]; rfl
theorem il_lenT {x : List AV} {Q : AV → Sto → Prop} : (callB .len [.tup x] st).Is Q = Q (.int x.length) st := by rw [l_lenT]; rfl
theorem il_len {n : Nat} {x : List AV} (h : st[n]? = some (.lst x)) {Q : AV → Sto → Prop} : (callB .len [.ref n] st).Is Q = Q (.int x.length) st := by rw [l_len h]; rfl
theorem ineg_i {i : Int} {Q : AV → Sto → Prop} : (negA (.int i) st).Is Q = Q (.int (-i)) st := by rw [neg_i]; rfl
theorem iix_t {xs : List AV} {i : Int} {k : Nat} {v : AV} (h : L2.ixN xs.length i = some k) (h2 : xs[k]? = some v) {Q : AV → Sto → Prop} : (idxA (.tup xs) (.int i) st).Is Q = Q v st := by rw [ix_t h h2]; rfl
theorem iix_l {n : Nat} {xs : List AV} {i : Int} {k : Nat} {v : AV} (h0 : st[n]? = some (.lst xs)) (h : L2.ixN xs.length i = some k) (h2 : xs[k]? = some v) {Q : AV → Sto → Prop} : (idxA (.ref n) (.int i) st).Is Q = Q v st := by rw [ix_l h0 h h2]; rfl
theorem iix_s {xs : List Nat} {i : Int} {k : Nat} {v : Nat} (hl : xs.length ≤ lim) (h : L2.ixN xs.length i = some k) (h2 : xs[k]? = some v) {Q : AV → Sto → Prop} : (idxA (.str xs) (.int i) st).Is Q = Q (.str [v]) st := by rw [ix_s hl h h2]; rfl
section
variable {t : Ty} {Q : AV → Sto → Prop}
theorem wt_non : (R.ofB (isA T t .non st) st).Is Q = Q (.bl false) st := rfl
theorem wt_bl {b : Bool} : (R.ofB (isA T t (.bl b) st) st).Is Q = Q (.bl (decide (t = .bool ∨ t = .int))) st := rfl
theorem wt_int {b : Int} : (R.ofB (isA T t (.int b) st) st).Is Q = Q (.bl (decide (t = .int))) st := rfl
theorem wt_str {b : List Nat} : (R.ofB (isA T t (.str b) st) st).Is Q = Q (.bl (decide (t = .str))) st := rfl
theorem wt_tup {b : List AV} : (R.ofB (isA T t (.tup b) st) st).Is Q = Q (.bl (decide (t = .tuple))) st := rfl
theorem wt_rol {b : List Int} : (R.ofB (isA T t (.rol b) st) st).Is Q = Q (.bl (decide (t = .list))) st := rfl
theorem wt_lst {n : Nat} {xs : List AV} (h : st[n]? = some (.lst xs)) : (R.ofB (isA T t (.ref n) st) st).Is Q = Q (.bl (decide (t = .list))) st := by
  unfold isA; dsimp only; rw [h]; rfl
theorem wt_dK {n : Nat} {xs : List (Key × AV)} (h : st[n]? = some (.dK xs)) : (R.ofB (isA T t (.ref n) st) st).Is Q = Q (.bl (decide (t = .dict))) st := by
  unfold isA; dsimp only; rw [h]; rfl
end
theorem i_ofB {b : Bool} {Q : AV → Sto → Prop} : (R.ofB (some b) st).Is Q = Q (.bl b) st := rfl
end
end L3

/-! PyP2: deep data, comprehensions, what is walked. -/
namespace L3
open PySem L2

/-! ### deep data -/
theorem oAll_map {α β γ : Type} {f : β → Option γ} {g : α → β} {h : α → γ} : ∀ (xs : List α), (∀ x ∈ xs, f (g x) = some (h x)) → oAll f (xs.map g) = some (xs.map h)
  | [], _ => rfl
  | x :: xs, k => by
    rw [List.map_cons, oAll, k x List.mem_cons_self, oAll_map xs fun y hy => k y (List.mem_cons_of_mem _ hy)]
    rfl
theorem oAll_imp {α β : Type} {f g : α → Option β} : ∀ {xs : List α} {ds : List β}, (∀ x ∈ xs, ∀ d, f x = some d → g x = some d) → oAll f xs = some ds → oAll g xs = some ds
  | [], ds, _, h => h
  | x :: xs, ds, k, h => by
    unfold oAll at h ⊢
    cases h1 : f x with
    | none => rw [h1] at h; exact absurd h (by simp)
    | some d =>
      cases h2 : oAll f xs with
      | none => rw [h1, h2] at h; exact absurd h (by simp)
      | some es =>
        rw [h1, h2] at h
        rw [k x List.mem_cons_self d h1, oAll_imp (fun y hy => k y (List.mem_cons_of_mem _ hy)) h2]
        exact h
theorem pd_imp {a b : Sto} (hx : Ext a b) : ∀ (n : Nat) (v : AV) (d : PyData), pd n a v = some d → pd (n + 1) b v = some d
  | 0, v, d, h => by exact absurd h (by simp [pd])
  | n + 1, v, d, h => by
    unfold pd at h ⊢
    cases v with
    | tup xs =>
      dsimp only at h ⊢
      cases h1 : oAll (pd n a) xs with
      | none => rw [h1] at h; exact absurd h (by simp)
      | some es =>
        rw [h1] at h
        rw [oAll_imp (fun x _ d q => pd_imp hx n x d q) h1]
        exact h
    | ref m =>
      dsimp only at h ⊢
      cases h0 : a[m]? with
      | none => rw [h0] at h; exact absurd h (by simp)
      | some o =>
        rw [h0] at h
        rw [hx m o h0]
        cases o with
        | lst xs =>
          dsimp only at h ⊢
          cases h1 : oAll (pd n a) xs with
          | none => rw [h1] at h; exact absurd h (by simp)
          | some es =>
            rw [h1] at h
            rw [oAll_imp (fun x _ d q => pd_imp hx n x d q) h1]
            exact h
        | _ => exact h
    | _ => exact h
theorem pd_up {a : Sto} {n : Nat} {v : AV} {d : PyData} (h : pd n a v = some d) : pd (n + 1) a v = some d := pd_imp (Ext.refl a) n v d h
theorem pd_le {a : Sto} {n m : Nat} {v : AV} {d : PyData} (h : pd n a v = some d) (q : n ≤ m) : pd m a v = some d := by
  induction m with
  | zero => have : n = 0 := by omega
            subst this; exact h
  | succ m ih =>
    by_cases e : n = m + 1
    · subst e; exact h
    · exact pd_up (ih (by omega))
theorem depthAll_le {β : Type} {n : Nat} {f : β → Option PyData} : ∀ {xs : List β} {ds : List PyData}, (∀ x ∈ xs, ∀ d, f x = some d → d.depth ≤ n) → oAll f xs = some ds → PyData.depthAll ds ≤ n
  | [], ds, _, h => by
    simp only [oAll, Option.some.injEq] at h
    subst h
    simp [PyData.depthAll]
  | x :: xs, ds, k, h => by
    unfold oAll at h
    cases h1 : f x with
    | none => rw [h1] at h; exact absurd h (by simp)
    | some d =>
      cases h2 : oAll f xs with
      | none => rw [h1, h2] at h; exact absurd h (by simp)
      | some es =>
        rw [h1, h2] at h
        simp only [Option.some.injEq] at h
        subst h
        have a := k x List.mem_cons_self d h1
        have b := depthAll_le (fun y hy => k y (List.mem_cons_of_mem _ hy)) h2
        simp only [PyData.depthAll]
        omega
theorem pd_depth {a : Sto} : ∀ (n : Nat) (v : AV) (d : PyData), pd n a v = some d → d.depth ≤ n + 1
  | 0, v, d, h => by exact absurd h (by simp [pd])
  | n + 1, v, d, h => by
    unfold pd at h
    cases v with
    | tup xs =>
      dsimp only at h
      cases h1 : oAll (pd n a) xs with
      | none => rw [h1] at h; exact absurd h (by simp)
      | some es =>
        rw [h1] at h
        simp only [Option.map_some, Option.some.injEq] at h
        subst h
        have := depthAll_le (fun x _ d q => pd_depth n x d q) h1
        simp only [PyData.depth]
        omega
    | ref m =>
      dsimp only at h
      cases h0 : a[m]? with
      | none => rw [h0] at h; exact absurd h (by simp)
      | some o =>
        rw [h0] at h
        cases o with
        | lst xs =>
          dsimp only at h
          cases h1 : oAll (pd n a) xs with
          | none => rw [h1] at h; exact absurd h (by simp)
          | some es =>
            rw [h1] at h
            simp only [Option.map_some, Option.some.injEq] at h
            subst h
            have := depthAll_le (fun x _ d q => pd_depth n x d q) h1
            simp only [PyData.depth]
            omega
        | _ => exact absurd h (by simp)
    | non => simp only [Option.some.injEq] at h; subst h; simp [PyData.depth]
    | bl b => simp only [Option.some.injEq] at h; subst h; simp [PyData.depth]
    | int b => simp only [Option.some.injEq] at h; subst h; simp [PyData.depth]
    | str b => simp only [Option.some.injEq] at h; subst h; simp [PyData.depth]
    | rol xs =>
      simp only [Option.some.injEq] at h
      subst h
      have e : ∀ ys : List Int, PyData.depthAll (ys.map .int) ≤ 1 := by
        intro ys
        induction ys with
        | nil => simp [PyData.depthAll]
        | cons y ys ih => simp only [List.map_cons, PyData.depthAll, PyData.depth]; omega
      have := e xs
      simp only [PyData.depth]
      omega
theorem pdS_of {st : Sto} {v : AV} {d : PyData} (h : pd 9 st v = some d) (c : d.canLay0 = true) : pdS st v = some d := by
  unfold pdS
  rw [h]
  dsimp only
  rw [if_pos]
  have := pd_depth 9 v d h
  simp [SeqAt.shaped, c, show d.depth ≤ 64 by omega]
theorem canAll (ds : List PyData) : PyData.canLayAll0 ds = ds.all PyData.canLay0 := by
  induction ds with
  | nil => rfl
  | cons d ds ih => rw [PyData.canLayAll0, List.all_cons, ih]
theorem can_ints (is : List Int) : (PyData.list (is.map .int)).canLay0 = true := by
  rw [PyData.canLay0, canAll, List.all_map, List.all_eq_true]
  intro x _
  rfl
theorem can_strs (ss : List (List Nat)) (h : ∀ s ∈ ss, chOk s = true) : (PyData.list (ss.map fun s => .str ⟨s.toArray⟩)).canLay0 = true := by
  rw [PyData.canLay0, canAll, List.all_map, List.all_eq_true]
  intro x hx
  show PyData.canLay0 (.str ⟨x.toArray⟩) = true
  unfold PyData.canLay0
  exact strOk_of (h x hx)
theorem pd_int (n : Nat) (st : Sto) (i : Int) : pd (n + 1) st (.int i) = some (.int i) := rfl
theorem pd_list {n m : Nat} {st : Sto} {xs : List AV} {ds : List PyData} (h : st[m]? = some (.lst xs)) (k : oAll (pd n st) xs = some ds) : pd (n + 1) st (.ref m) = some (.list ds) := by
  unfold pd
  dsimp only
  rw [h]
  dsimp only
  rw [k]
  rfl
theorem pdS_ints {st : Sto} {m : Nat} {is : List Int} (h : st[m]? = some (.lst (is.map .int))) : pdS st (.ref m) = some (.list (is.map .int)) :=
  pdS_of (pd_list h (oAll_map is fun _ _ => rfl)) (can_ints is)
theorem pdS_strs {st : Sto} {m : Nat} {ss : List (List Nat)} (h : st[m]? = some (.lst (ss.map .str))) (k : ∀ s ∈ ss, chOk s = true) : pdS st (.ref m) = some (.list (ss.map fun s => .str ⟨s.toArray⟩)) :=
  pdS_of (pd_list h (oAll_map ss fun _ _ => rfl)) (can_strs ss k)
theorem eqvAll_map {α : Type} [DecidableEq α] {f : α → PyData} (h : ∀ a b, PyData.eqv (f a) (f b) = decide (a = b)) : ∀ as bs : List α, PyData.eqvAll (as.map f) (bs.map f) = decide (as = bs)
  | [], [] => by simp [PyData.eqvAll]
  | [], b :: bs => by simp [PyData.eqvAll]
  | a :: as, [] => by simp [PyData.eqvAll]
  | a :: as, b :: bs => by
    rw [List.map_cons, List.map_cons, PyData.eqvAll, h, eqvAll_map h]
    by_cases e : a = b <;> by_cases f : as = bs <;> simp [e, f]
theorem eqv_int (i j : Int) : PyData.eqv (.int i) (.int j) = decide (i = j) := by
  simp only [PyData.eqv]
  rfl
theorem eqv_str (x y : List Nat) : PyData.eqv (.str ⟨x.toArray⟩) (.str ⟨y.toArray⟩) = decide (x = y) := by
  simp only [PyData.eqv, str_beq]
section
variable {st : Sto}
theorem eqA_ints {m n : Nat} {is js : List Int} (h : st[m]? = some (.lst (is.map .int))) (k : st[n]? = some (.lst (js.map .int))) : eqA st (.ref m) (.ref n) = some (decide (is = js)) := by
  unfold eqA
  rw [pdS_ints h, pdS_ints k]
  simp only [PyData.eqv]
  rw [eqvAll_map eqv_int]
theorem inA_ints {m : Nat} {i : Int} {is : List Int} (h : st[m]? = some (.lst (is.map .int))) : inA st (.int i) (.ref m) = some (decide (i ∈ is)) := by
  unfold inA
  dsimp only
  rw [h]
  dsimp only
  rw [pdS_int, pdS_ints h]
  dsimp only
  rw [List.any_map]
  congr 1
  rw [Bool.eq_iff_iff]
  simp [eqv_int]
theorem inA_strs {m : Nat} {i : List Nat} {is : List (List Nat)} (h : st[m]? = some (.lst (is.map .str))) (k : ∀ s ∈ is, chOk s = true) (q : chOk i = true) : inA st (.str i) (.ref m) = some (decide (i ∈ is)) := by
  unfold inA
  dsimp only
  rw [h]
  dsimp only
  rw [pdS_str st q, pdS_strs h k]
  dsimp only
  rw [List.any_map]
  congr 1
  rw [Bool.eq_iff_iff]
  simp [eqv_str]
end
/-! ### what is walked -/
theorem ck_ext {w : Wk} {a b : Sto} (h : w.ck a = true) (x : Ext a b) : w.ck b = true := by
  obtain ⟨xs, a1, a2⟩ := w
  unfold Wk.ck at h ⊢
  rw [Bool.and_eq_true] at h ⊢
  constructor
  · cases a1 with
    | none => rfl
    | some p => exact decide_eq_true (x _ _ (of_decide_eq_true h.1))
  · cases a2 with
    | none => rfl
    | some p => exact decide_eq_true (x _ _ (of_decide_eq_true h.2))
/-- a comprehension whose parts change nothing -/
theorem lc_fm {α : Type} {w : Wk} {tg : Tg} {cond elt : Slots → Sto → R AV} {e0 : Slots} {st : Sto} {Q : List AV → Sto → Prop} (zs : List α) (g : α → AV) (p : α → Bool) (f : α → AV) (hz : w.xs = zs.map g) (hc : w.ck st = true) (hl : zs.length ≤ lim)
    (hs : ∀ x ∈ zs, ∃ e', bindT tg (g x) e0 = some e' ∧ ∀ s, Ext st s → (cond e' s).Is fun v s1 => v = .bl (p x) ∧ Ext s s1 ∧ (p x = true → (elt e' s1).Is fun u s2 => u = f x ∧ Ext s1 s2))
    (q : ∀ s, Ext st s → Q ((zs.filter p).map f) s) : (lcL tg w.ck cond elt e0 w.xs [] st).Is Q := by
  rw [hz]
  refine lc_is (fun k acc s => acc = ((zs.take k).filter p).map f ∧ Ext st s ∧ k ≤ zs.length) (zs.map g) 0 [] st ⟨by simp, Ext.refl st, Nat.zero_le _⟩ (fun i y acc s hy hI => ?_) fun acc s hI => ?_
  · obtain ⟨h1, h2, h3⟩ := hI
    rw [Nat.zero_add] at h1 h3
    rw [List.getElem?_map] at hy
    obtain ⟨x, hx, rfl⟩ := Option.map_eq_some_iff.mp hy
    have hi := (List.getElem?_eq_some_iff.mp hx).1
    have tk : zs.take (0 + i + 1) = zs.take i ++ [x] := by
      rw [Nat.zero_add, List.take_add_one, hx]; rfl
    obtain ⟨e', b, hk⟩ := hs x (List.mem_of_getElem? hx)
    refine ⟨ck_ext hc h2, e', b, ?_⟩
    rw [i_tst]
    refine R.Is.mono (hk s h2) fun v s1 ⟨h4, h5, h6⟩ => ?_
    subst h4
    rw [boolIs_b]
    cases hp : p x with
    | true =>
      rw [if_pos rfl]
      refine R.Is.mono (h6 hp) fun u s2 ⟨h7, h8⟩ => ⟨?_, ?_, h2.trans (h5.trans h8), by omega⟩
      · rw [h1, List.length_map]
        have := List.length_filter_le p (zs.take i)
        rw [List.length_take] at this
        omega
      · rw [tk, List.filter_append, List.map_append, ← h1, h7]
        simp [hp]
    | false =>
      rw [if_neg Bool.false_ne_true]
      refine ⟨?_, h2.trans h5, by omega⟩
      rw [tk, List.filter_append, List.map_append, ← h1]
      simp [hp]
  · obtain ⟨h1, h2, h3⟩ := hI
    refine ⟨ck_ext hc h2, ?_⟩
    rw [h1, Nat.zero_add, List.length_map, List.take_length]
    exact q s h2
/-- no test -/
theorem lc_m {α : Type} {T : Tab} {cf cf1 : CallF} {w : Wk} {tg : Tg} {elt : Slots → Sto → R AV} {e0 : Slots} {st : Sto} {Q : List AV → Sto → Prop} (zs : List α) (g : α → AV) (f : α → AV) (hz : w.xs = zs.map g) (hc : w.ck st = true) (hl : zs.length ≤ lim)
    (hs : ∀ x ∈ zs, ∃ e', bindT tg (g x) e0 = some e' ∧ ∀ s, Ext st s → (elt e' s).Is fun u s2 => u = f x ∧ Ext s s2)
    (q : ∀ s, Ext st s → Q (zs.map f) s) : (lcL tg w.ck (fun e st => evAnd T cf cf1 .nil e st) elt e0 w.xs [] st).Is Q := by
  refine lc_fm zs g (fun _ => true) f hz hc hl (fun x hx => ?_) fun s hs => ?_
  · obtain ⟨e', b, k⟩ := hs x hx
    refine ⟨e', b, fun s h => ?_⟩
    rw [i_and0]
    exact ⟨rfl, Ext.refl s, fun _ => k s h⟩
  · rw [List.filter_eq_self.mpr fun _ _ => rfl]
    exact q s hs
theorem i_all {n : Nat} {α : Type} {zs : List α} {f : α → Bool} {st : Sto} {Q : AV → Sto → Prop} (h : st[n]? = some (.lst (zs.map fun z => .bl (f z)))) : (callB .all [.ref n] st).Is Q = Q (.bl (zs.all f)) st := by
  rw [all_is (bs := zs.map f) (by rw [h, List.map_map]; rfl), List.all_map]
  rfl
section
variable {st s : Sto} {QW : Wk → Sto → Prop}
theorem iw_str {x : List Nat} : (wkA (srcA st (.str x)) s).Is QW = QW ⟨x.map fun c => .str [c], none, none⟩ s := rfl
theorem iw_tup {x : List AV} : (wkA (srcA st (.tup x)) s).Is QW = QW ⟨x, none, none⟩ s := rfl
theorem iw_rol {x : List Int} : (wkA (srcA st (.rol x)) s).Is QW = QW ⟨x.map .int, none, none⟩ s := rfl
theorem iw_lst {n : Nat} {x : List AV} (h : st[n]? = some (.lst x)) : (wkA (srcA st (.ref n)) s).Is QW = QW ⟨x, some (n, .lst x), none⟩ s := by
  unfold srcA; dsimp only; rw [h]; rfl
theorem ie_str {x : List Nat} : (wkA (enumA st (.str x)) s).Is QW = QW ⟨numbered 0 (x.map fun c => .str [c]), none, none⟩ s := rfl
theorem ie_rol {x : List Int} : (wkA (enumA st (.rol x)) s).Is QW = QW ⟨numbered 0 (x.map .int), none, none⟩ s := rfl
theorem ie_lst {n : Nat} {x : List AV} (h : st[n]? = some (.lst x)) : (wkA (enumA st (.ref n)) s).Is QW = QW ⟨numbered 0 x, some (n, .lst x), none⟩ s := by
  unfold enumA; dsimp only; rw [h]; rfl
theorem ir_1 {j : Int} (h : j < 2 ^ 62) (k : -(2 ^ 62) ≤ j) : (wkA (rngA [.int j]) s).Is QW = QW ⟨intsFrom 0 1 j.toNat, none, none⟩ s := by
  simp only [rngA, okInt]
  simp only [h, k, decide_true, Bool.and_self, if_true]
  rfl
theorem ir_2 {i j : Int} (h0 : i < 2 ^ 62) (k0 : -(2 ^ 62) ≤ i) (h : j < 2 ^ 62) (k : -(2 ^ 62) ≤ j) : (wkA (rngA [.int i, .int j]) s).Is QW = QW ⟨intsFrom i 1 (j - i).toNat, none, none⟩ s := by
  simp only [rngA, okInt]
  simp only [h, k, h0, k0, decide_true, Bool.and_self, if_true]
  rfl
end
theorem intsFrom_1 (a : Int) : ∀ n : Nat, intsFrom a 1 n = (List.range n).map fun k => .int (a + k) := by
  intro n
  induction n generalizing a with
  | zero => rfl
  | succ n ih =>
    rw [intsFrom, ih, List.range_succ_eq_map]
    simp only [List.map_cons, List.map_map]
    congr 1
    · simp
    · apply List.map_congr_left
      intro x _
      simp only [Function.comp]
      congr 1
      omega
theorem intsFrom_0 (n : Nat) : intsFrom 0 1 n = (List.range n).map fun k => .int (k : Int) := by
  rw [intsFrom_1]
  simp
theorem numbered_get : ∀ (k : Nat) (xs : List AV) (i : Nat), (numbered k xs)[i]? = (xs[i]?).map fun x => .tup [.int ((k + i : Nat) : Int), x]
  | k, [], i => by simp [numbered]
  | k, x :: xs, 0 => by simp [numbered]
  | k, x :: xs, i + 1 => by
    rw [numbered, List.getElem?_cons_succ, numbered_get (k + 1) xs i, List.getElem?_cons_succ]
    congr 1
    funext y
    congr 4
    omega
theorem numbered_length : ∀ (k : Nat) (xs : List AV), (numbered k xs).length = xs.length
  | k, [] => rfl
  | k, x :: xs => by rw [numbered, List.length_cons, numbered_length (k + 1) xs, List.length_cons]
/-! ### list methods, slices -/
section
variable {T : Tab} {f : CallF} {st : Sto} {Q : AV → Sto → Prop}
theorem i_methL {n m : Nat} {ys : List AV} {r : R (List AV)} (h : st[n]? = some (.lst ys)) (hm : m ≤ 6) : ((selA T m (.ref n) st).ok (r.bind fun xs st1 => methA f (selA T m (.ref n) st) m (.ref n) xs st1)).Is Q = r.Is fun xs st1 => (bmeth Sel.lst m (.ref n) xs st1).Is Q := by
  have e : selA T m (.ref n) st = .lst := by
    unfold selA
    dsimp only
    rw [h]
    dsimp only
    rw [if_pos hm]
  rw [e]
  exact i_selL
theorem im_app {n : Nat} {ys : List AV} {v : AV} (h : st[n]? = some (.lst ys)) (hl : ys.length < lim) : (bmeth Sel.lst 0 (.ref n) [v] st).Is Q = Q .non (st.set n (.lst (ys ++ [v]))) := by
  unfold bmeth
  dsimp only
  rw [h]
  show (if ys.length < lim then _ else _ : R AV).Is Q = _
  rw [if_pos hl]
  rfl
theorem isl_str {x : List Nat} {lo hi : Option Int} (h : x.length ≤ lim) : (slA (.str x) lo hi st).Is Q = Q (.str (cutA x lo hi)) st := by
  show (if x.length ≤ lim then _ else _ : R AV).Is Q = _
  rw [if_pos h]
  rfl
theorem isl_rol {x : List Int} {lo hi : Option Int} : (slA (.rol x) lo hi st).Is Q = Q (.ref st.length) (st ++ [.lst (cutA (x.map .int) lo hi)]) := rfl
theorem isl_lst {n : Nat} {x : List AV} {lo hi : Option Int} (h : st[n]? = some (.lst x)) : (slA (.ref n) lo hi st).Is Q = Q (.ref st.length) (st ++ [.lst (cutA x lo hi)]) := by
  unfold slA; dsimp only; rw [h]; rfl
theorem cutA_len {α : Type} (xs : List α) (lo hi : Option Int) : (cutA xs lo hi).length ≤ xs.length := by
  unfold cutA
  rw [List.length_take, List.length_drop]
  omega
theorem cutA_map {α β : Type} (f : α → β) (xs : List α) (lo hi : Option Int) : cutA (xs.map f) lo hi = (cutA xs lo hi).map f := by
  unfold cutA
  rw [List.length_map, ← List.map_drop, ← List.map_take]
theorem ib_addL {m n : Nat} {a b : List AV} (h : st[m]? = some (.lst a)) (k : st[n]? = some (.lst b)) (hl : a.length + b.length ≤ lim) : (binA .add (.ref m) (.ref n) st).Is Q = Q (.ref st.length) (st ++ [.lst (a ++ b)]) := by
  unfold binA
  dsimp only
  rw [h, k]
  dsimp only
  rw [if_pos hl]
  rfl
theorem get_set_ne {n m : Nat} {o u : AO} (h : st[n]? = some u) (k : n < m) : (st.set m o)[n]? = some u := by
  rw [List.getElem?_set_ne (by omega)]; exact h
theorem get_lt {n : Nat} {u : AO} (h : st[n]? = some u) : n < st.length := (List.getElem?_eq_some_iff.mp h).1
end
theorem ck_lst {n : Nat} {st : Sto} {x : List AV} {xs : List AV} (h : st[n]? = some (.lst x)) : Wk.ck ⟨xs, some (n, .lst x), none⟩ st = true := by
  simp only [Wk.ck, h, decide_true, Bool.and_self]
theorem all_t {α : Type} (l : List α) : (l.all fun _ => true) = true := by simp
end L3

/-! PyP3: more steps; doors, wires, rows as data. -/
namespace L3
open PySem L2
section
variable {T : Tab} {f : CallF} {st : Sto} {Q : AV → Sto → Prop}
theorem get_set {n : Nat} {o u : AO} (h : st[n]? = some u) : (st.set n o)[n]? = some o := by
  rw [List.getElem?_set_self (get_lt h)]
theorem im_pop {n k : Nat} {ys : List AV} {i : Int} {v : AV} (h : st[n]? = some (.lst ys)) (hl : ys.length ≤ lim) (hk : L2.ixN ys.length i = some k) (hv : ys[k]? = some v) : (bmeth Sel.lst 3 (.ref n) [.int i] st).Is Q = Q v (st.set n (.lst (ys.eraseIdx k))) := by
  unfold bmeth
  dsimp only
  rw [h]
  show (if ys.length ≤ lim then _ else _ : R AV).Is Q = _
  rw [if_pos hl, hk]
  dsimp only
  rw [hv]
  rfl
theorem im_pop0 {n : Nat} {ys : List AV} {v : AV} (h : st[n]? = some (.lst ys)) (hv : ys[ys.length - 1]? = some v) : (bmeth Sel.lst 3 (.ref n) [] st).Is Q = Q v (st.set n (.lst ys.dropLast)) := by
  unfold bmeth
  dsimp only
  rw [h]
  simp only [lmeth, hv]
  rfl
theorem im_ext {n m : Nat} {ys zs : List AV} (h : st[n]? = some (.lst ys)) (h2 : st[m]? = some (.lst zs)) (hl : ys.length + zs.length ≤ lim) : (bmeth Sel.lst 1 (.ref n) [.ref m] st).Is Q = Q .non (st.set n (.lst (ys ++ zs))) := by
  unfold bmeth
  dsimp only
  rw [h]
  simp only [lmeth, h2]
  rw [if_pos hl]
  rfl
theorem im_clear {n : Nat} {ys : List AV} (h : st[n]? = some (.lst ys)) : (bmeth Sel.lst 4 (.ref n) [] st).Is Q = Q .non (st.set n (.lst [])) := by
  unfold bmeth
  dsimp only
  rw [h]
  rfl
theorem im_rev {n : Nat} {ys : List AV} (h : st[n]? = some (.lst ys)) : (bmeth Sel.lst 5 (.ref n) [] st).Is Q = Q .non (st.set n (.lst ys.reverse)) := by
  unfold bmeth
  dsimp only
  rw [h]
  rfl
theorem im_ins {n : Nat} {ys : List AV} {i : Int} {v : AV} (h : st[n]? = some (.lst ys)) (hi : 0 ≤ i ∧ i < 2 ^ 63 ∧ ys.length < lim) : (bmeth Sel.lst 2 (.ref n) [.int i, v] st).Is Q = Q .non (st.set n (.lst (ys.take i.toNat ++ [v] ++ ys.drop i.toNat))) := by
  unfold bmeth
  dsimp only
  rw [h]
  simp only [lmeth]
  rw [if_pos hi]
  rfl
theorem il_min {i j : Int} : (callB .min [.int i, .int j] st).Is Q = Q (.int (if j < i then j else i)) st := rfl
theorem il_max {i j : Int} : (callB .max [.int i, .int j] st).Is Q = Q (.int (if j > i then j else i)) st := rfl
theorem il_abs {i : Int} : (callB .abs [.int i] st).Is Q = Q (.int (if i < 0 then -i else i)) st := rfl
theorem il_lenR {x : List Int} : (callB .len [.rol x] st).Is Q = Q (.int x.length) st := rfl
theorem il_listL {n : Nat} {xs : List AV} (h : st[n]? = some (.lst xs)) : (callB .list [.ref n] st).Is Q = Q (.ref st.length) (st ++ [.lst xs]) := by
  simp only [callB, seqA, h]
  rfl
theorem il_listT {xs : List AV} : (callB .list [.tup xs] st).Is Q = Q (.ref st.length) (st ++ [.lst xs]) := rfl
theorem il_tupleL {n : Nat} {xs : List AV} (h : st[n]? = some (.lst xs)) : (callB .tuple [.ref n] st).Is Q = Q (.tup xs) st := by
  simp only [callB, seqA, h]
  rfl
theorem il_int {i : Int} : (callB .int [.int i] st).Is Q = Q (.int i) st := rfl
theorem il_intB {b : Bool} : (callB .int [.bl b] st).Is Q = Q (.int (if b then 1 else 0)) st := rfl
theorem i_lr {j : Int} (h : 0 ≤ j ∧ j ≤ 1000000) : (lrngA (.int j) st).Is Q = Q (.ref st.length) (st ++ [.lst ((List.range j.toNat).map fun k : Nat => .int (k : Int))]) := by
  unfold lrngA
  dsimp only
  rw [if_pos h, intsFrom_0]
  rfl
theorem iix_r {xs : List Int} {i : Int} {k : Nat} {v : Int} (h : L2.ixN xs.length i = some k) (h2 : xs[k]? = some v) : (idxA (.rol xs) (.int i) st).Is Q = Q (.int v) st := by
  simp only [idxA, h, h2]
  rfl
theorem isl_tup {x : List AV} {lo hi : Option Int} : (slA (.tup x) lo hi st).Is Q = Q (.tup (cutA x lo hi)) st := rfl
variable {N : Slots → Sto → Prop} {Tr : AV → Sto → Prop}
theorem ws_setL {n k : Nat} {xs : List AV} {i : Int} {v : AV} {g : Sto → SR} (h : st[n]? = some (.lst xs)) (hk : L2.ixN xs.length i = some k) : (SR.of (setI (.ref n) (.int i) v st) g).Is N Tr = (g (st.set n (.lst (xs.set k v)))).Is N Tr := by
  simp only [setI, h, hk]
  rfl
end
theorem ixN_some {n : Nat} {i : Int} (h0 : 0 ≤ i) (h : i < n) : ∃ k, L2.ixN n i = some k ∧ k < n := ⟨i.toNat, ixN_of h0 h, by omega⟩
/-- an index that is reckoned modulo the length -/
theorem ixN_mod {n : Nat} (i : Int) (h : 0 < n) : L2.ixN n (i % (n : Int)) = some (i % (n : Int)).toNat ∧ (i % (n : Int)).toNat < n := by
  have h1 := Int.emod_nonneg i (show (n : Int) ≠ 0 by omega)
  have h2 := Int.emod_lt_of_pos i (show (0 : Int) < n by omega)
  exact ⟨ixN_of h1 h2, by omega⟩

theorem tx_0 {T : Sto} {x : AV} {xs : List AV} {Q : AV → Sto → Prop} : (idxA (.tup (x :: xs)) (.int 0) T).Is Q = Q x T := by
  have h : L2.ixN (x :: xs).length 0 = some 0 := by
    unfold L2.ixN
    rw [if_pos (Int.le_refl 0), if_pos (by rw [List.length_cons]; omega)]
    rfl
  exact iix_t h rfl
theorem tx_1 {T : Sto} {x y : AV} {xs : List AV} {Q : AV → Sto → Prop} : (idxA (.tup (x :: y :: xs)) (.int 1) T).Is Q = Q y T := by
  have h : L2.ixN (x :: y :: xs).length 1 = some 1 := by
    unfold L2.ixN
    rw [if_pos (by decide), if_pos (by rw [List.length_cons, List.length_cons]; omega)]
    rfl
  exact iix_t h rfl
theorem tx_2 {T : Sto} {x y z : AV} {xs : List AV} {Q : AV → Sto → Prop} : (idxA (.tup (x :: y :: z :: xs)) (.int 2) T).Is Q = Q z T := by
  have h : L2.ixN (x :: y :: z :: xs).length 2 = some 2 := by
    unfold L2.ixN
    rw [if_pos (by decide), if_pos (by rw [List.length_cons, List.length_cons, List.length_cons]; omega)]
    rfl
  exact iix_t h rfl
/-! ### doors, wires, rows -/
abbrev Door := Int × Int
abbrev Wire := Door × Door
def doorV (d : Door) : AV := .tup [.int d.1, .int d.2]
def wireV (w : Wire) : AV := .tup [doorV w.1, doorV w.2]
def optV : Option Int → AV
  | none => .non
  | some i => .int i
abbrev Row := List Nat × Option Int × Option Int
def rowV (r : Row) : AV := .tup [.str r.1, optV r.2.1, optV r.2.2]
def doorD (d : Door) : PyData := .tuple [.int d.1, .int d.2]
def wireD (w : Wire) : PyData := .tuple [doorD w.1, doorD w.2]
def optD : Option Int → PyData
  | none => .none
  | some i => .int i
def rowD (r : Row) : PyData := .tuple [.str ⟨r.1.toArray⟩, optD r.2.1, optD r.2.2]
theorem pd_opt (n : Nat) (st : Sto) (o : Option Int) : pd (n + 1) st (optV o) = some (optD o) := by cases o <;> rfl
theorem pd_door (n : Nat) (st : Sto) (d : Door) : pd (n + 2) st (doorV d) = some (doorD d) := rfl
theorem pd_wire (n : Nat) (st : Sto) (d : Wire) : pd (n + 3) st (wireV d) = some (wireD d) := rfl
theorem pd_row (n : Nat) (st : Sto) (r : Row) : pd (n + 2) st (rowV r) = some (rowD r) := by
  obtain ⟨p, a, b⟩ := r
  cases a <;> cases b <;> rfl
theorem can_tuple (ds : List PyData) : (PyData.tuple ds).canLay0 = ds.all PyData.canLay0 := by rw [PyData.canLay0, canAll]
theorem can_list (ds : List PyData) : (PyData.list ds).canLay0 = ds.all PyData.canLay0 := by rw [PyData.canLay0, canAll]
theorem can_door (d : Door) : (doorD d).canLay0 = true := by rw [doorD, can_tuple]; rfl
theorem can_wire (d : Wire) : (wireD d).canLay0 = true := by
  rw [wireD, can_tuple, List.all_cons, List.all_cons, can_door, can_door]; rfl
theorem can_opt (o : Option Int) : (optD o).canLay0 = true := by cases o <;> rfl
theorem can_row {r : Row} (h : chOk r.1 = true) : (rowD r).canLay0 = true := by
  rw [rowD, can_tuple, List.all_cons, List.all_cons, List.all_cons, can_opt, can_opt]
  have : PyData.canLay0 (.str ⟨r.1.toArray⟩) = true := by unfold PyData.canLay0; exact strOk_of h
  rw [this]; rfl
theorem can_map {α : Type} {f : α → PyData} {xs : List α} (h : ∀ x ∈ xs, (f x).canLay0 = true) : (PyData.list (xs.map f)).canLay0 = true := by
  rw [can_list, List.all_map, List.all_eq_true]
  exact h
theorem eqv_tuple (xs ys : List PyData) : PyData.eqv (.tuple xs) (.tuple ys) = PyData.eqvAll xs ys := by rw [PyData.eqv]
theorem eqv_list (xs ys : List PyData) : PyData.eqv (.list xs) (.list ys) = PyData.eqvAll xs ys := by rw [PyData.eqv]
theorem eqvAll_cons (x y : PyData) (xs ys : List PyData) : PyData.eqvAll (x :: xs) (y :: ys) = (PyData.eqv x y && PyData.eqvAll xs ys) := by rw [PyData.eqvAll]
theorem eqvAll_nil : PyData.eqvAll [] [] = true := by rw [PyData.eqvAll]
theorem eqv_opt (a b : Option Int) : PyData.eqv (optD a) (optD b) = decide (a = b) := by
  cases a <;> cases b <;> simp [optD, PyData.eqv]
  rfl
theorem eqv_door (a b : Door) : PyData.eqv (doorD a) (doorD b) = decide (a = b) := by
  obtain ⟨a1, a2⟩ := a
  obtain ⟨b1, b2⟩ := b
  rw [doorD, doorD, eqv_tuple, eqvAll_cons, eqvAll_cons, eqvAll_nil, eqv_int, eqv_int]
  rw [Bool.eq_iff_iff]; simp
theorem eqv_wire (a b : Wire) : PyData.eqv (wireD a) (wireD b) = decide (a = b) := by
  obtain ⟨a1, a2⟩ := a
  obtain ⟨b1, b2⟩ := b
  rw [wireD, wireD, eqv_tuple, eqvAll_cons, eqvAll_cons, eqvAll_nil, eqv_door, eqv_door]
  rw [Bool.eq_iff_iff]; simp
theorem eqv_row (a b : Row) : PyData.eqv (rowD a) (rowD b) = decide (a = b) := by
  obtain ⟨a1, a2, a3⟩ := a
  obtain ⟨b1, b2, b3⟩ := b
  rw [rowD, rowD, eqv_tuple, eqvAll_cons, eqvAll_cons, eqvAll_cons, eqvAll_nil, eqv_str, eqv_opt, eqv_opt]
  rw [Bool.eq_iff_iff]; simp
theorem eqv_lists {α : Type} [DecidableEq α] {f : α → PyData} (h : ∀ a b, PyData.eqv (f a) (f b) = decide (a = b)) (as bs : List α) : PyData.eqv (.list (as.map f)) (.list (bs.map f)) = decide (as = bs) := by
  rw [eqv_list, eqvAll_map h]
/-- a list of things in the store -/
theorem pd_lst {α : Type} {n m : Nat} {st : Sto} {xs : List α} {g : α → AV} {f : α → PyData} (h : st[m]? = some (.lst (xs.map g))) (k : ∀ x ∈ xs, pd n st (g x) = some (f x)) : pd (n + 1) st (.ref m) = some (.list (xs.map f)) := pd_list h (oAll_map xs k)
/-- things of which each is a list in the store -/
theorem oAll_zip {α β γ : Type} {f : α → Option β} {h : γ → β} : ∀ (xs : List α) (ys : List γ), xs.length = ys.length → (∀ (i : Nat) (x : α) (y : γ), xs[i]? = some x → ys[i]? = some y → f x = some (h y)) → oAll f xs = some (ys.map h)
  | [], [], _, _ => rfl
  | [], _ :: _, e, _ => by cases e
  | _ :: _, [], e, _ => by cases e
  | x :: xs, y :: ys, e, k => by
    rw [oAll, k 0 x y rfl rfl, oAll_zip xs ys (Nat.succ.inj e) fun i x y h1 h2 => k (i + 1) x y h1 h2]
    rfl
theorem eqA_of {st : Sto} {x y : AV} {d e : PyData} (h : pd 9 st x = some d) (k : pd 9 st y = some e) (c : d.canLay0 = true) (c2 : e.canLay0 = true) : eqA st x y = some (PyData.eqv d e) := by
  unfold eqA
  rw [pdS_of h c, pdS_of k c2]

/-! ### comprehensions whose results are known by what holds of them -/
theorem lc_r {α β : Type} {T : Tab} {cf cf1 : CallF} {w : Wk} {tg : Tg} {elt : Slots → Sto → R AV} {e0 : Slots} {st : Sto} {Q : List AV → Sto → Prop} (zs : List α) (g : α → AV) (f : β → AV) (P : Sto → α → β → Prop) (mono : ∀ s s' x y, Ext s s' → P s x y → P s' x y)
    (hz : w.xs = zs.map g) (hc : w.ck st = true) (hl : zs.length ≤ lim)
    (hs : ∀ x ∈ zs, ∃ e', bindT tg (g x) e0 = some e' ∧ ∀ s, Ext st s → (elt e' s).Is fun u s2 => ∃ y, u = f y ∧ Ext s s2 ∧ P s2 x y)
    (q : ∀ (s : Sto) (ys : List β), Ext st s → ys.length = zs.length → (∀ (i : Nat) (x : α) (y : β), zs[i]? = some x → ys[i]? = some y → P s x y) → Q (ys.map f) s) : (lcL tg w.ck (fun e st => evAnd T cf cf1 .nil e st) elt e0 w.xs [] st).Is Q := by
  rw [hz]
  refine lc_is (fun k acc s => Ext st s ∧ ∃ ys : List β, acc = ys.map f ∧ ys.length = k ∧ k ≤ zs.length ∧ ∀ (i : Nat) (x : α) (y : β), zs[i]? = some x → ys[i]? = some y → P s x y) (zs.map g) 0 [] st ⟨Ext.refl st, [], rfl, rfl, Nat.zero_le _, fun i x y _ h => by cases h⟩ (fun i y acc s hy hI => ?_) fun acc s hI => ?_
  · obtain ⟨hE, ys, rfl, hk, hle, hP⟩ := hI
    rw [Nat.zero_add] at hk hle
    rw [List.getElem?_map] at hy
    obtain ⟨x, hx, rfl⟩ := Option.map_eq_some_iff.mp hy
    have hi := (List.getElem?_eq_some_iff.mp hx).1
    obtain ⟨e', b, hk2⟩ := hs x (List.mem_of_getElem? hx)
    refine ⟨ck_ext hc hE, e', b, ?_⟩
    rw [i_tst, i_and0, boolIs_b, if_pos rfl]
    refine R.Is.mono (hk2 s hE) fun u s2 ⟨y, h1, h2, h3⟩ => ⟨?_, hE.trans h2, ys ++ [y], ?_, ?_, by omega, fun j x' y' hx' hy' => ?_⟩
    · rw [List.length_map, hk]; omega
    · rw [h1, List.map_append]; rfl
    · rw [List.length_append, hk, Nat.zero_add]; rfl
    · by_cases hj : j < ys.length
      · rw [List.getElem?_append_left hj] at hy'
        exact mono s s2 _ _ h2 (hP j x' y' hx' hy')
      · have hj2 := (List.getElem?_eq_some_iff.mp hy').1
        rw [List.length_append, List.length_singleton] at hj2
        have ej : j = ys.length := by omega
        subst ej
        rw [List.getElem?_append_right (Nat.le_refl _), Nat.sub_self] at hy'
        cases hy'
        rw [hk] at hx'
        rw [hx] at hx'
        cases hx'
        exact h3
  · obtain ⟨hE, ys, rfl, hk, hle, hP⟩ := hI
    rw [Nat.zero_add, List.length_map] at hk
    exact ⟨ck_ext hc hE, q s ys hE hk hP⟩

/-! ### lists of lists -/
/-- at m stands a list of lists of things -/
def LLs {α : Type} (g : α → AV) (st : Sto) (lo m : Nat) (bs : List (List α)) : Prop := ∃ rs : List Nat, st[m]? = some (.lst (rs.map AV.ref)) ∧ rs.length = bs.length ∧ ∀ (i r : Nat) (b : List α), rs[i]? = some r → bs[i]? = some b → lo ≤ r ∧ st[r]? = some (.lst (b.map g))
theorem LLs.ext {α : Type} {g : α → AV} {a b : Sto} {lo m : Nat} {bs : List (List α)} (h : LLs g a lo m bs) (x : Ext a b) : LLs g b lo m bs := by
  obtain ⟨rs, h1, h2, h3⟩ := h
  exact ⟨rs, x _ _ h1, h2, fun i r b' k1 k2 => ⟨(h3 i r b' k1 k2).1, x _ _ (h3 i r b' k1 k2).2⟩⟩
theorem LLs.lo {α : Type} {g : α → AV} {a : Sto} {lo lo' m : Nat} {bs : List (List α)} (h : LLs g a lo m bs) (x : lo' ≤ lo) : LLs g a lo' m bs := by
  obtain ⟨rs, h1, h2, h3⟩ := h
  exact ⟨rs, h1, h2, fun i r b' k1 k2 => ⟨Nat.le_trans x (h3 i r b' k1 k2).1, (h3 i r b' k1 k2).2⟩⟩
theorem LLs.at_ {α : Type} {g : α → AV} {a : Sto} {lo m : Nat} {bs : List (List α)} (h : LLs g a lo m bs) {i : Nat} {b : List α} (k : bs[i]? = some b) : ∃ (xs : List AV) (r : Nat), a[m]? = some (.lst xs) ∧ xs.length = bs.length ∧ xs[i]? = some (.ref r) ∧ lo ≤ r ∧ a[r]? = some (.lst (b.map g)) := by
  obtain ⟨rs, h1, h2, h3⟩ := h
  have hi := (List.getElem?_eq_some_iff.mp k).1
  have e : rs[i]? = some rs[i] := List.getElem?_eq_getElem (by omega)
  exact ⟨_, rs[i], h1, by rw [List.length_map, h2], by rw [List.getElem?_map, e]; rfl, (h3 i _ b e k).1, (h3 i _ b e k).2⟩
theorem LLs.pd {α : Type} {g : α → AV} {f : α → PyData} {n : Nat} {a : Sto} {lo m : Nat} {bs : List (List α)} (h : LLs g a lo m bs) (k : ∀ b ∈ bs, ∀ x ∈ b, pd n a (g x) = some (f x)) : pd (n + 2) a (.ref m) = some (.list (bs.map fun b => .list (b.map f))) := by
  obtain ⟨rs, h1, h2, h3⟩ := h
  refine pd_list h1 (oAll_zip _ bs (by rw [List.length_map, h2]) fun i x b hx hb => ?_)
  rw [List.getElem?_map] at hx
  obtain ⟨r, hr, rfl⟩ := Option.map_eq_some_iff.mp hx
  exact pd_lst (h3 i r b hr hb).2 (k b (List.mem_of_getElem? hb))
theorem can_lls {α : Type} {f : α → PyData} {bs : List (List α)} (h : ∀ b ∈ bs, ∀ x ∈ b, (f x).canLay0 = true) : (PyData.list (bs.map fun b => .list (b.map f))).canLay0 = true :=
  can_map fun b hb => can_map (h b hb)
theorem eqv_lls {α : Type} [DecidableEq α] {f : α → PyData} (h : ∀ a b, PyData.eqv (f a) (f b) = decide (a = b)) (as bs : List (List α)) : PyData.eqv (.list (as.map fun b => .list (b.map f))) (.list (bs.map fun b => .list (b.map f))) = decide (as = bs) := by
  rw [eqv_list]
  exact eqvAll_map (f := fun b : List α => PyData.list (b.map f)) (fun a b => eqv_lists h a b) as bs
/-- a pattern -/
def legal (x : List Nat) : Bool := decide (x.length = 4) && x.all fun c => decide (c ∈ [48, 49, 120])
theorem legal_ch {x : List Nat} (h : legal x = true) : chOk x = true := by
  unfold legal at h
  rw [Bool.and_eq_true] at h
  refine List.all_eq_true.mpr fun c hc => ?_
  have := of_decide_eq_true (List.all_eq_true.mp h.2 c hc)
  simp only [List.mem_cons, List.not_mem_nil, or_false] at this
  exact decide_eq_true (by omega)
theorem legal_len {x : List Nat} (h : legal x = true) : x.length = 4 := by
  unfold legal at h; rw [Bool.and_eq_true] at h; exact of_decide_eq_true h.1
theorem legal_mk {x : List Nat} (h : x.length = 4) (k : ∀ c ∈ x, c = 48 ∨ c = 49 ∨ c = 120) : legal x = true := by
  unfold legal
  rw [Bool.and_eq_true]
  refine ⟨decide_eq_true h, List.all_eq_true.mpr fun c hc => decide_eq_true ?_⟩
  simp only [List.mem_cons, List.not_mem_nil, or_false]
  exact k c hc
def OptOk (count : Int) (o : Option Int) : Prop := ∀ i, o = some i → 0 ≤ i ∧ i < count
structure RowOk (count : Int) (r : Row) : Prop where
  pat : legal r.1 = true
  come : OptOk count r.2.1
  out : OptOk count r.2.2
/-- books of so many houses -/
def BooksOk (most : Nat) (cs : List Int) (bs : List (List Row)) : Prop := bs.length = cs.length ∧ ∀ (i : Nat) (c : Int) (b : List Row), cs[i]? = some c → bs[i]? = some b → b.length ≤ most ∧ ∀ r ∈ b, RowOk c r

/-! ### changes of lists of lists -/
theorem LLs.ne {α : Type} {g : α → AV} {a : Sto} {m : Nat} {rs : List Nat} {bs : List (List α)} (hg : ∀ x r, g x ≠ .ref r) (h1 : a[m]? = some (.lst (rs.map AV.ref))) (h3 : ∀ (i r : Nat) (b : List α), rs[i]? = some r → bs[i]? = some b → a[r]? = some (.lst (b.map g))) {i r : Nat} {b : List α} (k1 : rs[i]? = some r) (k2 : bs[i]? = some b) : r ≠ m := fun e => by
  have z := h3 i r b k1 k2
  rw [e, h1] at z
  simp only [Option.some.injEq, AO.lst.injEq] at z
  cases rs with
  | nil => cases k1
  | cons y rs =>
    cases b with
    | nil => cases z
    | cons x b =>
      simp only [List.map_cons, List.cons.injEq] at z
      exact hg x y z.1.symm
theorem LLs.set {α : Type} {g : α → AV} {a : Sto} {lo m : Nat} {rs : List Nat} {bs : List (List α)} (hg : ∀ x r, g x ≠ .ref r) (h1 : a[m]? = some (.lst (rs.map AV.ref))) (h2 : rs.length = bs.length) (h3 : ∀ (i r : Nat) (b : List α), rs[i]? = some r → bs[i]? = some b → lo ≤ r ∧ a[r]? = some (.lst (b.map g)))
    {i r : Nat} {b : List α} (hlo : lo ≤ r) (hr : a[r]? = some (.lst (b.map g))) (hrm : r ≠ m) : LLs g (a.set m (.lst ((rs.map AV.ref).set i (.ref r)))) lo m (bs.set i b) := by
  refine ⟨rs.set i r, ?_, by rw [List.length_set, List.length_set, h2], fun j r' b' k1 k2 => ?_⟩
  · rw [get_set h1, List.map_set]
  · by_cases hj : i = j
    · subst hj
      have hi := (List.getElem?_eq_some_iff.mp k1).1
      rw [List.length_set] at hi
      rw [List.getElem?_set_self hi] at k1
      rw [List.getElem?_set_self (by omega)] at k2
      cases k1
      cases k2
      exact ⟨hlo, by rw [List.getElem?_set_ne (Ne.symm hrm)]; exact hr⟩
    · rw [List.getElem?_set_ne hj] at k1 k2
      have z := LLs.ne hg h1 (fun i r b q1 q2 => (h3 i r b q1 q2).2) k1 k2
      exact ⟨(h3 j r' b' k1 k2).1, by rw [List.getElem?_set_ne (Ne.symm z)]; exact (h3 j r' b' k1 k2).2⟩
theorem LLs.snoc {α : Type} {g : α → AV} {a : Sto} {lo m : Nat} {rs : List Nat} {bs : List (List α)} (hg : ∀ x r, g x ≠ .ref r) (h1 : a[m]? = some (.lst (rs.map AV.ref))) (h2 : rs.length = bs.length) (h3 : ∀ (i r : Nat) (b : List α), rs[i]? = some r → bs[i]? = some b → lo ≤ r ∧ a[r]? = some (.lst (b.map g)))
    {r : Nat} {b : List α} (hlo : lo ≤ r) (hr : a[r]? = some (.lst (b.map g))) (hrm : r ≠ m) : LLs g (a.set m (.lst (rs.map AV.ref ++ [.ref r]))) lo m (bs ++ [b]) := by
  refine ⟨rs ++ [r], ?_, by rw [List.length_append, List.length_append, h2]; rfl, fun j r' b' k1 k2 => ?_⟩
  · rw [get_set h1, List.map_append]; rfl
  · by_cases hj : j < rs.length
    · rw [List.getElem?_append_left hj] at k1
      rw [List.getElem?_append_left (by omega)] at k2
      have z := LLs.ne hg h1 (fun i r b q1 q2 => (h3 i r b q1 q2).2) k1 k2
      exact ⟨(h3 j r' b' k1 k2).1, by rw [List.getElem?_set_ne (Ne.symm z)]; exact (h3 j r' b' k1 k2).2⟩
    · have hj2 := (List.getElem?_eq_some_iff.mp k1).1
      rw [List.length_append, List.length_singleton] at hj2
      have ej : j = rs.length := by omega
      subst ej
      rw [List.getElem?_append_right (Nat.le_refl _), Nat.sub_self] at k1
      rw [List.getElem?_append_right (by omega), h2, Nat.sub_self] at k2
      cases k1
      cases k2
      exact ⟨hlo, by rw [List.getElem?_set_ne (Ne.symm hrm)]; exact hr⟩
/-- [list(one) for one in things] -/
theorem copy_is {α : Type} {T : Tab} {cf cf1 : CallF} {g : α → AV} {st : Sto} {lo m i : Nat} {rs : List Nat} {bs : List (List α)} {e0 : Slots} {Q : List AV → Sto → Prop} (hi : i < e0.length) (h1 : st[m]? = some (.lst (rs.map AV.ref))) (h2 : rs.length = bs.length) (h3 : ∀ (i r : Nat) (b : List α), rs[i]? = some r → bs[i]? = some b → lo ≤ r ∧ st[r]? = some (.lst (b.map g))) (hl : rs.length ≤ lim)
    (q : ∀ (s : Sto) (ts : List Nat), Ext st s → ts.length = bs.length → (∀ (i r : Nat) (b : List α), ts[i]? = some r → bs[i]? = some b → st.length ≤ r ∧ s[r]? = some (.lst (b.map g))) → Q (ts.map AV.ref) s) :
    (lcL (.nm i) (Wk.ck ⟨rs.map AV.ref, some (m, .lst (rs.map AV.ref)), none⟩) (fun e st => evAnd T cf cf1 .nil e st) (fun e st => ev T cf cf1 (.bcall .list (.cons (.var i) .nil)) e st) e0 (rs.map AV.ref) [] st).Is Q := by
  refine lc_r (w := ⟨rs.map AV.ref, some (m, .lst (rs.map AV.ref)), none⟩) rs AV.ref AV.ref (fun s x y => ∀ b : List α, st[x]? = some (.lst (b.map g)) → st.length ≤ y ∧ s[y]? = some (.lst (b.map g))) (fun s s' x y hx h b hb => ⟨(h b hb).1, hx _ _ (h b hb).2⟩) rfl (ck_lst h1) hl (fun x hx => ⟨_, rfl, fun s hs => ?_⟩) fun s ys hs hy hP => q s ys hs (by omega) fun i r b k1 k2 => ?_
  · obtain ⟨j, hj, rfl⟩ := List.getElem_of_mem hx
    have e1 : rs[j]? = some rs[j] := List.getElem?_eq_getElem hj
    have e2 : bs[j]? = some bs[j] := List.getElem?_eq_getElem (by omega)
    have z := (h3 j _ _ e1 e2).2
    rw [i_bcall, i_cons, i_var, slot_iff, List.getElem?_set_self hi]
    dsimp only
    rw [i_nil, il_listL (hs _ _ z)]
    refine ⟨_, rfl, Ext.push _ _, fun b hb => ?_⟩
    rw [z] at hb
    have hb : (bs[j]).map g = b.map g := by simpa using hb
    rw [← hb]
    exact ⟨hs.lt, get_push _ _⟩
  · have hi := (List.getElem?_eq_some_iff.mp k1).1
    have e1 : rs[i]? = some rs[i] := List.getElem?_eq_getElem (by omega)
    exact hP i _ r e1 k1 b (h3 i _ b e1 k2).2
theorem for_cons {tg : Tg} {ck : Sto → Bool} {body : Slots → Sto → SR} {x : AV} {xs : List AV} {e e' : Slots} {st : Sto} {N : Slots → Sto → Prop} {Tr : AV → Sto → Prop} (h : ck st = true) (b : bindT tg x e = some e') (k : (body e' st).Is (fun e s => (forL tg ck body xs e s).Is N Tr) Tr) : (forL tg ck body (x :: xs) e st).Is N Tr := by
  unfold forL
  rw [if_pos h, b]
  dsimp only
  rw [SR.is_bind]
  exact k
theorem for_nil {tg : Tg} {ck : Sto → Bool} {body : Slots → Sto → SR} {e : Slots} {st : Sto} {N : Slots → Sto → Prop} {Tr : AV → Sto → Prop} (h : ck st = true) (k : N e st) : (forL tg ck body [] e st).Is N Tr := by
  unfold forL
  rw [if_pos h]
  exact k
end L3

/-! PyP4: what is raised and what is caught. -/
namespace L3
open PySem L2

def R.IsX {A : Type} (r : R A) (Q : A → Sto → Prop) (Z : Nat → Sto → Prop) : Prop := match r with
  | .ok a s => Q a s
  | .ex c s => Z c s
  | .no => False
def SR.IsX (r : SR) (N : Slots → Sto → Prop) (T : AV → Sto → Prop) (E : Nat → Slots → Sto → Prop) : Prop := match r with
  | .nx e s => N e s
  | .rt v s => T v s
  | .ex c e s => E c e s
  | .no => False
section
variable {A B : Type} {T : Tab} {cf cf1 : CallF} {e : Slots} {st : Sto} {N : Slots → Sto → Prop} {Tr : AV → Sto → Prop} {Z : Nat → Sto → Prop} {F : Nat → Slots → Sto → Prop}
theorem R.Is.x {r : R A} {Q : A → Sto → Prop} (h : r.Is Q) : r.IsX Q Z := by
  cases r with
  | ok a s => exact h
  | _ => exact h.elim
theorem SR.Is.x {r : SR} (h : r.Is N Tr) : r.IsX N Tr F := by
  cases r with
  | nx a s => exact h
  | rt a s => exact h
  | _ => exact h.elim
theorem R.IsX.mono {r : R A} {Q Q' : A → Sto → Prop} {Z' : Nat → Sto → Prop} (h : r.IsX Q Z) (i : ∀ a s, Q a s → Q' a s) (j : ∀ c s, Z c s → Z' c s) : r.IsX Q' Z' := by
  cases r with
  | ok a s => exact i _ _ h
  | ex c s => exact j _ _ h
  | no => exact h
theorem SR.IsX.mono {r : SR} {N' : Slots → Sto → Prop} {Tr' : AV → Sto → Prop} {F' : Nat → Slots → Sto → Prop} (h : r.IsX N Tr F) (i : ∀ a s, N a s → N' a s) (j : ∀ a s, Tr a s → Tr' a s) (l : ∀ c e s, F c e s → F' c e s) : r.IsX N' Tr' F' := by
  cases r with
  | nx a s => exact i _ _ h
  | rt a s => exact j _ _ h
  | ex c a s => exact l _ _ _ h
  | no => exact h
theorem R.x_bind {r : R A} {f : A → Sto → R B} {Q : B → Sto → Prop} : (r.bind f).IsX Q Z = r.IsX (fun a s => (f a s).IsX Q Z) Z := by cases r <;> rfl
theorem R.x_st {r : R A} {f : A → Sto → SR} : (r.st e f).IsX N Tr F = r.IsX (fun a s => (f a s).IsX N Tr F) (fun c s => F c e s) := by cases r <;> rfl
theorem SR.x_bind {r : SR} {f : Slots → Sto → SR} : (r.bind f).IsX N Tr F = r.IsX (fun e s => (f e s).IsX N Tr F) Tr F := by cases r <;> rfl
/-- an expression that does not raise -/
theorem xs_asg {i : Nat} {a : E} {k : S} (h : (ev T cf cf1 a e st).Is fun v st => setIs e i (some v) fun e => (exS T cf cf1 k e st).IsX N Tr F) : (exS T cf cf1 (.asg i a k) e st).IsX N Tr F := by
  show SR.IsX (R.st _ _ _) _ _ _
  rw [R.x_st]
  exact R.Is.x h
theorem xs_asgT {is : List Nat} {a : E} {k : S} (h : (ev T cf cf1 a e st).Is fun v st => (SR.ofE (bindT (.tp is) v e) fun e => exS T cf cf1 k e st).IsX N Tr F) : (exS T cf cf1 (.asgT is a k) e st).IsX N Tr F := by
  show SR.IsX (R.st _ _ _) _ _ _
  rw [R.x_st]
  exact R.Is.x h
theorem xs_ofE {f : Slots → SR} {e : Slots} : (SR.ofE (some e) f).IsX N Tr F = (f e).IsX N Tr F := rfl
theorem xs_expr {a : E} {k : S} (h : (ev T cf cf1 a e st).Is fun v st => (exS T cf cf1 k e st).IsX N Tr F) : (exS T cf cf1 (.expr a k) e st).IsX N Tr F := by
  show SR.IsX (R.st _ _ _) _ _ _
  rw [R.x_st]
  exact R.Is.x h
theorem xs_ite {c : E} {a b k : S} (h : (ev T cf cf1 c e st).Is fun v st => boolIs v fun t => if t = true then (exS T cf cf1 a e st).IsX (fun e st => (exS T cf cf1 k e st).IsX N Tr F) Tr F else (exS T cf cf1 b e st).IsX (fun e st => (exS T cf cf1 k e st).IsX N Tr F) Tr F) : (exS T cf cf1 (.ite c a b k) e st).IsX N Tr F := by
  show SR.IsX (R.st _ _ _) _ _ _
  rw [R.x_st]
  refine R.Is.x (R.Is.mono h fun v st q => ?_)
  cases v with
  | bl t =>
    cases t <;> dsimp only
    · rw [SR.x_bind]; exact q
    · rw [SR.x_bind]; exact q
  | _ => exact q.elim
theorem xs_loop {tg : Tg} {it : Iw} {body k : S} (h : (evIt T cf cf1 it e st).Is fun w st => (forL tg w.ck (fun e st => exS T cf cf1 body e st) w.xs e st).IsX (fun e st => (exS T cf cf1 k e st).IsX N Tr F) Tr F) : (exS T cf cf1 (.loop tg it body k) e st).IsX N Tr F := by
  show SR.IsX (R.st _ _ _) _ _ _
  rw [R.x_st]
  refine R.Is.x (R.Is.mono h fun v st q => ?_)
  rw [SR.x_bind]
  exact q
/-- an expression that may raise -/
theorem xx_asg {i : Nat} {a : E} {k : S} : (exS T cf cf1 (.asg i a k) e st).IsX N Tr F = (ev T cf cf1 a e st).IsX (fun v st => setIs e i (some v) fun e => (exS T cf cf1 k e st).IsX N Tr F) fun c s => F c e s := R.x_st
theorem xx_expr {a : E} {k : S} : (exS T cf cf1 (.expr a k) e st).IsX N Tr F = (ev T cf cf1 a e st).IsX (fun v st => (exS T cf cf1 k e st).IsX N Tr F) fun c s => F c e s := R.x_st
theorem xx_ret {a : E} : (exS T cf cf1 (.ret a) e st).IsX N Tr F = (ev T cf cf1 a e st).IsX Tr fun c s => F c e s := R.x_st
theorem xx_done : (exS T cf cf1 .done e st).IsX N Tr F = N e st := rfl
theorem xx_rais {c : Nat} : (exS T cf cf1 (.rais c) e st).IsX N Tr F = F c e st := rfl
theorem xx_call {g : Nat} {es : Es} {Q : AV → Sto → Prop} (h : (evs T cf cf1 es e st).Is fun xs st => (cf g xs st).IsX Q Z) : (ev T cf cf1 (.call g es) e st).IsX Q Z := by
  show R.IsX (R.bind _ _) _ _
  rw [R.x_bind]
  exact R.Is.x h
theorem xx_mk {g : Nat} {es : Es} {Q : AV → Sto → Prop} (h : (evs T cf cf1 es e st).Is fun xs st => (mkA T cf1 g xs st).IsX Q Z) : (ev T cf cf1 (.mk g es) e st).IsX Q Z := by
  show R.IsX (R.bind _ _) _ _
  rw [R.x_bind]
  exact R.Is.x h
theorem xx_meth {m : Nat} {o : E} {es : Es} {Q : AV → Sto → Prop} (h : (ev T cf cf1 o e st).Is fun v st => ((selA T m v st).ok ((evs T cf cf1 es e st).bind fun xs st1 => methA cf (selA T m v st) m v xs st1)).IsX Q Z) : (ev T cf cf1 (.meth m o es) e st).IsX Q Z := by
  show R.IsX (R.bind _ _) _ _
  rw [R.x_bind]
  exact R.Is.x h
theorem xx_sel {g m : Nat} {v : AV} {f : CallF} {r : R (List AV)} {Q : AV → Sto → Prop} (h : r.Is fun xs st1 => (f g (v :: xs) st1).IsX Q Z) : ((Sel.own g).ok (r.bind fun xs st1 => methA f (Sel.own g) m v xs st1)).IsX Q Z := by
  show R.IsX (R.bind _ _) _ _
  rw [R.x_bind]
  exact R.Is.x h
/-- a call that may raise -/
theorem call_x {n d np ns : Nat} {body : S} {args : List AV} {Q : AV → Sto → Prop} (h : T.df d = some (np, ns, body)) (hl : args.length = np)
    (k : (exS T (callF T n) (lev T n).2 body (args.map some ++ List.replicate (ns - np) none) st).IsX (fun _ s => Q .non s) Q (fun c _ s => Z c s)) : (callF T (n + 1) d args st).IsX Q Z := by
  show (runD T (lev T n).1 (lev T n).2 d args st).IsX Q Z
  unfold runD
  rw [h]
  dsimp only
  rw [if_pos hl]
  revert k
  show (exS T (lev T n).1 (lev T n).2 body (args.map some ++ List.replicate (ns - np) none) st).IsX _ _ _ → _
  generalize exS T (lev T n).1 (lev T n).2 body (args.map some ++ List.replicate (ns - np) none) st = y
  cases y <;> exact fun z => z
/-- a try -/
theorem ws_try {body su k : S} {c i : Nat} : (exS T cf cf1 (.tryx body c i su k) e st).Is N Tr = (exS T cf cf1 body e st).IsX (fun e st => (exS T cf cf1 k e st).Is N Tr) Tr fun c' e st => T.sub c' c = some true ∧ (exS T cf cf1 su (e.set i (some (.ref st.length))) (st ++ [.exc c'])).Is (fun e st => (exS T cf cf1 k (e.set i none) st).Is N Tr) Tr := by
  conv => lhs; unfold exS
  cases exS T cf cf1 body e st with
  | nx a s => rfl
  | rt a s => rfl
  | no => rfl
  | ex c' e s =>
    dsimp only [SR.IsX]
    by_cases h : T.sub c' c = some true
    · rw [if_pos h]
      have : ∀ (r : SR) (f : Slots → Sto → SR), (r.noex.bind f).Is N Tr = r.Is (fun e s => (f e s).Is N Tr) Tr := fun r f => by cases r <;> rfl
      rw [this]
      simp only [h, true_and]
    · rw [if_neg h]
      simp only [h, false_and]
      rfl
theorem i_isx {d : Nat} {a : E} {Q : AV → Sto → Prop} : (ev T cf cf1 (.isx d a) e st).Is Q = (ev T cf cf1 a e st).Is fun v st => (isxA T v d st).Is Q := R.is_bind
theorem ix_is {n c d : Nat} {b : Bool} {Q : AV → Sto → Prop} (h : st[n]? = some (.exc c)) (k : T.sub c d = some b) : (isxA T (.ref n) d st).Is Q = Q (.bl b) st := by
  unfold isxA
  dsimp only
  rw [h]
  dsimp only
  rw [k]
  rfl
/-- a walk that may raise -/
theorem for_x {tg : Tg} {ck : Sto → Bool} {body : Slots → Sto → SR} (I : Nat → Slots → Sto → Prop) : ∀ (xs : List AV) (k : Nat) (e : Slots) (st : Sto), I k e st →
    (∀ i x e st, xs[i]? = some x → I (k + i) e st → ck st = true ∧ ∃ e', bindT tg x e = some e' ∧ (body e' st).IsX (I (k + i + 1)) Tr F) → (∀ e st, I (k + xs.length) e st → ck st = true ∧ N e st) → (forL tg ck body xs e st).IsX N Tr F
  | [], k, e, st, h, _, hd => by
    obtain ⟨h1, h2⟩ := hd e st h
    unfold forL
    rw [if_pos h1]
    exact h2
  | x :: xs, k, e, st, h, hs, hd => by
    obtain ⟨h1, e', h2, h3⟩ := hs 0 x e st rfl h
    unfold forL
    rw [if_pos h1, h2]
    dsimp only
    rw [SR.x_bind]
    refine SR.IsX.mono h3 (fun e2 s2 h4 => ?_) (fun _ _ q => q) fun _ _ _ q => q
    refine for_x I xs (k + 1) e2 s2 h4 (fun i y e st hy hI => ?_) fun e st hI => hd e st (by rw [List.length_cons, show k + (xs.length + 1) = k + 1 + xs.length by omega]; exact hI)
    have e3 : k + 1 + i = k + (i + 1) := by omega
    rw [e3] at hI ⊢
    exact hs (i + 1) y e st hy hI
end
/-- an instance that may not come to be -/
theorem mk_x {T : Tab} {n c g : Nat} {xs : List AV} {st : Sto} {Q : AV → Sto → Prop} {Z : Nat → Sto → Prop} (h : T.ini c = some g)
    (k : (callF T n g (.ref st.length :: xs) (st ++ [.ins c []])).IsX (fun v s => v = .non ∧ Q (.ref st.length) s) Z) : (mkA T (callF T n) c xs st).IsX Q Z := by
  unfold mkA
  rw [h]
  dsimp only
  rw [R.x_bind]
  refine R.IsX.mono k (fun v s ⟨h1, h2⟩ => ?_) fun _ _ q => q
  rw [if_pos h1]
  exact h2

/-! ### the names of an error -/
theorem names_eq {st : Sto} {m n : Nat} {ss ts : List (List Nat)} (h : st[m]? = some (.lst (ss.map .str))) (k : st[n]? = some (.lst (ts.map .str))) (h2 : ∀ s ∈ ss, chOk s = true) (k2 : ∀ s ∈ ts, chOk s = true) : eqA st (.ref m) (.ref n) = some (decide (ss = ts)) := by
  unfold eqA
  rw [pdS_strs h h2, pdS_strs k k2]
  dsimp only
  rw [eqv_lists (f := fun s : List Nat => PyData.str ⟨s.toArray⟩) eqv_str]
end L3

/-! The codes of law_k02_nets, printed by gen.py. -/
namespace L3
abbrev g_is_whole : Nat := 12
abbrev g_are_counts : Nat := 13
abbrev g_is_door_of : Nat := 14
abbrev g_are_wires : Nat := 15
abbrev g_law_cell_at : Nat := 16
abbrev g_law_mix : Nat := 3
abbrev g_law_counts : Nat := 17
abbrev g_law_doors : Nat := 18
abbrev g_law_wires : Nat := 19
abbrev g_law_names_3 : Nat := 576
abbrev g_law_refused_7 : Nat := 577
abbrev g_law_bad_wires : Nat := 22
abbrev g_law_bad_counts : Nat := 23
abbrev g_law_truth : Nat := 9
abbrev g_law_doors_right : Nat := 24
abbrev g_law_right_11 : Nat := 609
abbrev g_law_81 : Nat := 610
abbrev g_Net___init : Nat := 27
abbrev g_Net_count : Nat := 28
abbrev g_Net_wires : Nat := 29
abbrev g_Net_beyond : Nat := 30
abbrev g_Net_outer : Nat := 31
abbrev g_Net_is_door : Nat := 32
abbrev g_Net_is_outer : Nat := 33
def c_is_whole : S :=
  (.ret (.and ((.cons (.isi .int (.var 0)) (.cons (.not (.isi .bool (.var 0))) .nil)))))
def c_are_counts_1 : E :=
  (.and ((.cons (.call g_is_whole ((.cons (.var 1) .nil))) (.cons (.chain .le .le (.con (.int 1)) (.var 1) (.kon (.int 4))) .nil))))
def c_are_counts : S :=
  (.ite (.or ((.cons (.not (.isi .list (.var 0))) (.cons (.not (.chain .le .le (.con (.int 1)) (.bcall .len ((.cons (.var 0) .nil))) (.kon (.int 6)))) .nil))))
  (.ret (.con (.bl false)))
  .done
  (.ret (.bcall .all ((.cons (.lc [1] (.nm 1) (.seq (.var 0)) .nil c_are_counts_1) .nil)))))
def c_is_door_of : S :=
  (.ite (.or ((.cons (.not (.isi .tuple (.var 0))) (.cons (.cmp .ne (.bcall .len ((.cons (.var 0) .nil))) (.con (.int 2))) (.cons (.not (.call g_is_whole ((.cons (.idx (.var 0) (.con (.int 0))) .nil)))) (.cons (.not (.call g_is_whole ((.cons (.idx (.var 0) (.con (.int 1))) .nil)))) .nil))))))
  (.ret (.con (.bl false)))
  .done
  (.ret (.and ((.cons (.chain .le .lt (.con (.int 0)) (.idx (.var 0) (.con (.int 0))) (.bcall .len ((.cons (.var 1) .nil)))) (.cons (.chain .le .lt (.con (.int 0)) (.idx (.var 0) (.con (.int 1))) (.idx (.var 1) (.idx (.var 0) (.con (.int 0))))) .nil))))))
def c_are_wires_1 : S :=
  (.ite (.or ((.cons (.not (.call g_is_door_of ((.cons (.var 4) (.cons (.var 1) .nil))))) (.cons (.cmp .isin (.var 4) (.var 2)) .nil))))
  (.ret (.con (.bl false)))
  .done
  (.asgI (.var 2) (.var 4) (.con (.bl true))
  .done))
def c_are_wires_2 : S :=
  (.ite (.or ((.cons (.not (.isi .tuple (.var 3))) (.cons (.cmp .ne (.bcall .len ((.cons (.var 3) .nil))) (.con (.int 2))) .nil))))
  (.ret (.con (.bl false)))
  .done
  (.loop (.nm 4) (.seq (.var 3)) c_are_wires_1
  .done))
def c_are_wires : S :=
  (.ite (.not (.isi .list (.var 0)))
  (.ret (.con (.bl false)))
  .done
  (.asg 2 (.dnew true)
  (.loop (.nm 3) (.seq (.var 0)) c_are_wires_2
  (.ret (.con (.bl true))))))
def c_law_cell_at : S :=
  (.ite (.cmp .lt (.var 1) (.bcall .len ((.cons (.var 0) .nil))))
  (.ret (.idx (.var 0) (.var 1)))
  .done
  (.ret (.con (.int 0))))
def c_law_mix : S :=
  (.ret (.bin .fdiv (.bin .mod (.bin .mul (.bin .add (.bin .mod (.var 0) (.bin .pow (.con (.int 10)) (.con (.int 30)))) (.con (.int 1))) (.bin .add (.bin .add (.con (.int 48271)) (.bin .mul (.bin .mul (.con (.int 2)) (.var 1)) (.var 1))) (.var 1))) (.con (.int 2147483647))) (.con (.int 7))))
def c_law_counts_1 : E :=
  (.bin .add (.con (.int 1)) (.bin .mod (.call g_law_mix ((.cons (.call g_law_cell_at ((.cons (.var 0) (.cons (.con (.int 1)) .nil)))) (.cons (.bin .add (.con (.int 3)) (.var 2)) .nil)))) (.con (.int 4))))
def c_law_counts : S :=
  (.asg 1 (.bin .add (.con (.int 1)) (.bin .mod (.call g_law_mix ((.cons (.call g_law_cell_at ((.cons (.var 0) (.cons (.con (.int 0)) .nil)))) (.cons (.con (.int 1)) .nil)))) (.con (.int 6))))
  (.ret (.lc [2] (.nm 2) (.rng1 (.var 1)) .nil c_law_counts_1)))
def c_law_doors_1 : E :=
  (.tup ((.cons (.var 2) (.cons (.var 3) .nil))))
def c_law_doors_2 : S :=
  (.expr (.meth 1 (.var 1) ((.cons (.lc [3] (.nm 3) (.rng1 (.idx (.var 0) (.var 2))) .nil c_law_doors_1) .nil)))
  .done)
def c_law_doors : S :=
  (.asg 1 (.lst .nil)
  (.loop (.nm 2) (.rng1 (.bcall .len ((.cons (.var 0) .nil)))) c_law_doors_2
  (.ret (.var 1))))
def c_law_wires_1 : S :=
  (.expr (.meth 0 (.var 3) ((.cons (.tup ((.cons (.call g_law_mix ((.cons (.bin .add (.call g_law_cell_at ((.cons (.var 0) (.cons (.con (.int 2)) .nil)))) (.bin .mul (.var 4) (.var 4))) (.cons (.bin .add (.con (.int 20)) (.var 4)) .nil)))) (.cons (.idx (.var 2) (.var 4)) .nil)))) .nil)))
  .done)
def c_law_wires_2 : E :=
  (.var 9)
def c_law_wires_3 : E :=
  (.tup ((.cons (.idx (.var 5) (.bin .mul (.con (.int 2)) (.var 4))) (.cons (.idx (.var 5) (.bin .add (.bin .mul (.con (.int 2)) (.var 4)) (.con (.int 1)))) .nil))))
def c_law_wires : S :=
  (.asg 2 (.call g_law_doors ((.cons (.var 1) .nil)))
  (.asg 3 (.lst .nil)
  (.loop (.nm 4) (.rng1 (.bcall .len ((.cons (.var 2) .nil)))) c_law_wires_1
  (.asg 5 (.lc [8, 9] (.tp [8, 9]) (.seq (.bcall .sorted ((.cons (.var 3) .nil)))) .nil c_law_wires_2)
  (.asg 6 (.bin .fdiv (.bin .sub (.bcall .len ((.cons (.var 2) .nil))) (.con (.int 1))) (.con (.int 2)))
  (.asg 7 (.bin .sub (.var 6) (.bin .mod (.call g_law_mix ((.cons (.call g_law_cell_at ((.cons (.var 0) (.cons (.con (.int 3)) .nil)))) (.cons (.con (.int 11)) .nil)))) (.bin .add (.bin .fdiv (.var 6) (.con (.int 3))) (.con (.int 1)))))
  (.ret (.lc [4] (.nm 4) (.rng1 (.var 7)) .nil c_law_wires_3))))))))
def c_law_names_3_1 : Es :=
  ((.cons (.var 3) .nil))
def c_law_names_3_2 : E :=
  (.var 2)
def c_law_names_3 : S :=
  (.asg 1 (.lst ((.cons (.tup ((.cons (.con (.str [78, 111, 78, 101, 116])) (.cons (.isx 1 (.var 0)) .nil)))) (.cons (.tup ((.cons (.con (.str [78, 111, 66, 111, 111, 107, 115])) (.cons (.isx 2 (.var 0)) .nil)))) (.cons (.tup ((.cons (.con (.str [78, 111, 68, 111, 111, 114])) (.cons (.isx 3 (.var 0)) .nil)))) .nil)))))
  (.asg 1 (.bin .add (.var 1) (.lst ((.cons (.tup ((.cons (.con (.str [78, 111, 65, 100, 100, 114, 101, 115, 115])) (.cons (.isx 4 (.var 0)) .nil)))) (.cons (.tup ((.cons (.con (.str [78, 111, 83, 97, 121, 105, 110, 103])) (.cons (.isx 5 (.var 0)) .nil)))) .nil)))))
  (.asg 1 (.bin .add (.var 1) (.lst ((.cons (.tup ((.cons (.con (.str [78, 111, 82, 111, 119])) (.cons (.isx 6 (.var 0)) .nil)))) (.cons (.tup ((.cons (.con (.str [78, 111, 80, 108, 97, 110])) (.cons (.isx 7 (.var 0)) .nil)))) .nil)))))
  (.asg 1 (.bin .add (.var 1) (.lst ((.cons (.tup ((.cons (.con (.str [78, 111, 77, 111, 118, 101])) (.cons (.isx 8 (.var 0)) .nil)))) (.cons (.tup ((.cons (.con (.str [78, 111, 84, 101, 120, 116])) (.cons (.isx 9 (.var 0)) .nil)))) .nil)))))
  (.asg 1 (.bin .add (.var 1) (.lst ((.cons (.tup ((.cons (.con (.str [112, 108, 97, 105, 110])) (.cons (.not (.isx 999 (.var 0))) .nil)))) .nil))))
  (.ret (.lc [2, 3] (.tp [2, 3]) (.seq (.var 1)) c_law_names_3_1 c_law_names_3_2)))))))
def c_law_refused_7 : S :=
  (.asg 2 (.con .non)
  (.tryx (.expr (.mk 10 ((.cons (.var 0) (.cons (.var 1) .nil))))
  .done) 11 3
  (.asg 2 (.var 3)
  .done)
  (.ret (.and ((.cons (.cmp .isnot (.var 2) (.con .non)) (.cons (.cmp .eq (.call g_law_names_3 ((.cons (.var 2) .nil))) (.lst ((.cons (.con (.str [78, 111, 78, 101, 116])) .nil)))) .nil)))))))
def c_law_bad_wires : S :=
  (.asg 3 (.tup ((.cons (.con (.int 0)) (.cons (.con (.int 0)) .nil))))
  (.asg 4 (.lst ((.cons (.tup ((.cons (.tup ((.cons (.con (.int 0)) (.cons (.idx (.var 0) (.con (.int 0))) .nil)))) (.cons (.var 3) .nil)))) (.cons (.tup ((.cons (.var 3) (.cons (.tup ((.cons (.bcall .len ((.cons (.var 0) .nil))) (.cons (.con (.int 0)) .nil)))) .nil)))) (.cons (.tup ((.cons (.tup ((.cons (.con (.int 0)) (.cons (.neg (.con (.int 1))) .nil)))) (.cons (.var 3) .nil)))) (.cons (.tup ((.cons (.tup ((.cons (.neg (.con (.int 1))) (.cons (.con (.int 0)) .nil)))) (.cons (.var 3) .nil)))) (.cons (.tup ((.cons (.var 3) (.cons (.var 3) .nil)))) (.cons (.tup ((.cons (.var 3) .nil))) .nil))))))))
  (.asg 4 (.bin .add (.var 4) (.lst ((.cons (.tup ((.cons (.tup ((.cons (.con (.int 0)) (.cons (.con (.int 0)) .nil)))) (.cons (.tup ((.cons (.con (.int 0)) (.cons (.con (.int 0)) .nil)))) (.cons (.tup ((.cons (.con (.int 0)) (.cons (.con (.int 0)) .nil)))) .nil))))) (.cons (.tup ((.cons (.tup ((.cons (.con (.bl true)) (.cons (.con (.int 0)) .nil)))) (.cons (.var 3) .nil)))) (.cons (.tup ((.cons (.var 3) (.cons (.tup ((.cons (.con (.int 0)) (.cons (.con (.bl false)) .nil)))) .nil)))) (.cons (.tup ((.cons (.lst ((.cons (.con (.int 0)) (.cons (.con (.int 0)) .nil)))) (.cons (.var 3) .nil)))) (.cons (.tup ((.cons (.con .non) (.cons (.var 3) .nil)))) (.cons (.con (.str [])) (.cons (.con .non) .nil))))))))))
  (.asg 4 (.bin .add (.var 4) (.lst ((.cons (.lst ((.cons (.var 3) (.cons (.var 3) .nil)))) (.cons (.tup ((.cons (.var 3) (.cons (.tup ((.cons (.con (.int 0)) .nil))) .nil)))) (.cons (.tup ((.cons (.var 3) (.cons (.tup ((.cons (.con (.int 0)) (.cons (.con (.int 0)) (.cons (.con (.int 0)) .nil))))) .nil)))) (.cons (.con (.int 0)) (.cons (.tup ((.cons (.var 3) (.cons (.con (.str [48, 48])) .nil)))) .nil))))))))
  (.asg 5 (.bcall .list ((.cons (.var 1) .nil)))
  (.asg 6 (.idx (.var 4) (.bin .mod (.var 2) (.con (.int 18))))
  (.ite (.and ((.cons (.cmp .eq (.bin .mod (.bin .fdiv (.var 2) (.con (.int 18))) (.con (.int 3))) (.con (.int 0))) (.cons (.cmp .gt (.bcall .len ((.cons (.var 1) .nil))) (.con (.int 0))) .nil))))
  (.asg 7 (.idx (.var 1) (.bin .mod (.bin .fdiv (.var 2) (.con (.int 54))) (.bcall .len ((.cons (.var 1) .nil)))))
  (.asg 6 (.idx (.lst ((.cons (.tup ((.cons (.idx (.var 7) (.con (.int 0))) (.cons (.tup ((.cons (.con (.int 0)) (.cons (.con (.int 0)) .nil)))) .nil)))) (.cons (.tup ((.cons (.idx (.var 7) (.con (.int 1))) (.cons (.idx (.var 7) (.con (.int 0))) .nil)))) (.cons (.var 7) .nil))))) (.bin .mod (.bin .fdiv (.var 2) (.con (.int 540))) (.con (.int 3))))
  .done))
  .done
  (.expr (.meth 2 (.var 5) ((.cons (.bin .mod (.bin .fdiv (.var 2) (.con (.int 5400))) (.bin .add (.bcall .len ((.cons (.var 1) .nil))) (.con (.int 1)))) (.cons (.var 6) .nil))))
  (.ret (.var 5))))))))))
def c_law_bad_counts : S :=
  (.ite (.cmp .eq (.bin .mod (.var 1) (.con (.int 8))) (.con (.int 0)))
  (.ret (.idx (.lst ((.cons (.lst .nil) (.cons (.bin .mul (.lst ((.cons (.con (.int 1)) .nil))) (.con (.int 7))) (.cons (.con .non) (.cons (.bcall .tuple ((.cons (.var 0) .nil))) (.cons (.con (.str [50])) (.cons (.con (.int 3)) (.cons (.dnew false) (.cons (.lst ((.cons (.con (.int 4)) (.cons (.con (.int 4)) (.cons (.con (.int 4)) (.cons (.con (.int 4)) (.cons (.con (.int 4)) (.cons (.con (.int 4)) (.cons (.con (.int 4)) (.cons (.con (.int 4)) .nil)))))))))) .nil)))))))))) (.bin .mod (.bin .fdiv (.var 1) (.con (.int 8))) (.con (.int 8)))))
  .done
  (.asg 2 (.bcall .list ((.cons (.var 0) .nil)))
  (.asgI (.var 2) (.bin .mod (.bin .fdiv (.var 1) (.con (.int 8))) (.bcall .len ((.cons (.var 0) .nil)))) (.idx (.lst ((.cons (.con (.int 0)) (.cons (.con (.int 5)) (.cons (.neg (.con (.int 1))) (.cons (.con (.bl true)) (.cons (.con (.str [50])) (.cons (.con .non) (.cons (.lst ((.cons (.con (.int 2)) .nil))) (.cons (.bin .pow (.con (.int 10)) (.con (.int 40))) .nil)))))))))) (.bin .mod (.bin .fdiv (.var 1) (.con (.int 56))) (.con (.int 8))))
  (.ret (.var 2)))))
def c_law_truth : S :=
  (.ret (.and ((.cons (.isi .bool (.var 0)) (.cons (.cmp .eq (.var 0) (.var 1)) .nil)))))
def c_law_doors_right_1 : S :=
  (.asg 7 (.cmp .isin (.var 5) (.var 3))
  (.ite (.not (.call g_law_truth ((.cons (.meth 20 (.var 0) ((.cons (.var 5) .nil))) (.cons (.var 7) .nil)))))
  (.ret (.con (.bl false)))
  .done
  (.ite (.not (.call g_law_truth ((.cons (.meth 21 (.var 0) ((.cons (.var 5) .nil))) (.cons (.and ((.cons (.var 7) (.cons (.cmp .notin (.var 5) (.var 4)) .nil)))) .nil)))))
  (.ret (.con (.bl false)))
  .done
  .done)))
def c_law_doors_right_2 : S :=
  (.ite (.or ((.cons (.not (.call g_law_truth ((.cons (.meth 20 (.var 0) ((.cons (.var 6) .nil))) (.cons (.con (.bl false)) .nil))))) (.cons (.not (.call g_law_truth ((.cons (.meth 21 (.var 0) ((.cons (.var 6) .nil))) (.cons (.con (.bl false)) .nil))))) .nil))))
  (.ret (.con (.bl false)))
  .done
  .done)
def c_law_doors_right : S :=
  (.loop (.nm 5) (.seq (.bin .add (.var 3) (.lst ((.cons (.tup ((.cons (.con (.int 0)) (.cons (.idx (.var 1) (.con (.int 0))) .nil)))) (.cons (.tup ((.cons (.bcall .len ((.cons (.var 1) .nil))) (.cons (.con (.int 0)) .nil)))) (.cons (.tup ((.cons (.neg (.con (.int 1))) (.cons (.con (.int 0)) .nil)))) (.cons (.tup ((.cons (.con (.int 0)) (.cons (.neg (.con (.int 1))) .nil)))) .nil)))))))) c_law_doors_right_1
  (.loop (.nm 6) (.seq (.lst ((.cons (.con .non) (.cons (.con (.int 0)) (.cons (.con (.str [48, 46, 48])) (.cons (.lst ((.cons (.con (.int 0)) (.cons (.con (.int 0)) .nil)))) (.cons (.tup ((.cons (.con (.int 0)) .nil))) (.cons (.tup ((.cons (.con (.int 0)) (.cons (.con (.int 0)) (.cons (.con (.int 0)) .nil))))) (.cons (.tup ((.cons (.con (.bl false)) (.cons (.con (.int 0)) .nil)))) (.cons (.tup ((.cons (.con (.int 0)) (.cons (.con .non) .nil)))) (.cons (.tup ((.cons (.tup ((.cons (.con (.int 0)) (.cons (.con (.int 0)) .nil)))) (.cons (.tup ((.cons (.con (.int 0)) (.cons (.con (.int 0)) .nil)))) .nil)))) (.cons (.var 2) .nil))))))))))))) c_law_doors_right_2
  (.ret (.con (.bl true)))))
def c_law_right_11_1 : S :=
  (.asgI (.var 5) (.var 8) (.var 9)
  (.asgI (.var 5) (.var 9) (.var 8)
  .done))
def c_law_right_11_2 : S :=
  (.ite (.or ((.cons (.cmp .ne (.meth 7 (.var 0) ((.cons (.var 6) .nil))) (.idx (.var 1) (.var 6))) (.cons (.isi .bool (.meth 7 (.var 0) ((.cons (.var 6) .nil)))) .nil))))
  (.ret (.con (.bl false)))
  .done
  .done)
def c_law_right_11_3 : S :=
  (.ite (.cmp .ne (.meth 24 (.var 0) ((.cons (.var 7) .nil))) (.meth 8 (.var 5) ((.cons (.var 7) .nil))))
  (.ret (.con (.bl false)))
  .done
  .done)
def c_law_right_11_4 : Es :=
  ((.cons (.cmp .notin (.var 7) (.var 5)) .nil))
def c_law_right_11_5 : E :=
  (.var 7)
def c_law_right_11 : S :=
  (.asg 4 (.call g_law_doors ((.cons (.var 1) .nil)))
  (.asg 5 (.dnew true)
  (.loop (.tp [8, 9]) (.seq (.var 2)) c_law_right_11_1
  (.ite (.or ((.cons (.cmp .ne (.fld (.var 0) 22) (.bcall .len ((.cons (.var 1) .nil)))) (.cons (.isi .bool (.fld (.var 0) 22)) (.cons (.cmp .ne (.meth 23 (.var 0) .nil) (.var 2)) .nil)))))
  (.ret (.con (.bl false)))
  .done
  (.loop (.nm 6) (.rng1 (.bcall .len ((.cons (.var 1) .nil)))) c_law_right_11_2
  (.loop (.nm 7) (.seq (.var 4)) c_law_right_11_3
  (.ite (.cmp .ne (.meth 25 (.var 0) .nil) (.lc [7] (.nm 7) (.seq (.var 4)) c_law_right_11_4 c_law_right_11_5))
  (.ret (.con (.bl false)))
  .done
  (.ret (.call g_law_doors_right ((.cons (.var 0) (.cons (.var 1) (.cons (.var 3) (.cons (.var 4) (.cons (.var 5) .nil)))))))))))))))
def c_law_81_1 : S :=
  (.asg 8 (.call g_law_mix ((.cons (.var 7) (.cons (.bin .add (.con (.int 40)) (.var 6)) .nil))))
  (.ite (.not (.call g_law_refused_7 ((.cons (.bcall .list ((.cons (.var 1) .nil))) (.cons (.call g_law_bad_wires ((.cons (.var 1) (.cons (.var 2) (.cons (.bin .fdiv (.var 8) (.con (.int 2))) .nil))))) .nil)))))
  (.ret (.con (.bl false)))
  .done
  (.ite (.not (.call g_law_refused_7 ((.cons (.call g_law_bad_counts ((.cons (.var 1) (.cons (.var 8) .nil)))) (.cons (.bcall .list ((.cons (.var 2) .nil))) .nil)))))
  (.ret (.con (.bl false)))
  .done
  .done)))
def c_law_81 : S :=
  (.asg 1 (.call g_law_counts ((.cons (.var 0) .nil)))
  (.asg 2 (.call g_law_wires ((.cons (.var 0) (.cons (.var 1) .nil))))
  (.asg 3 (.lst ((.cons (.bcall .list ((.cons (.var 1) .nil))) (.cons (.bcall .list ((.cons (.var 2) .nil))) .nil))))
  (.asg 4 (.mk 10 ((.cons (.idx (.var 3) (.con (.int 0))) (.cons (.idx (.var 3) (.con (.int 1))) .nil))))
  (.asg 5 (.tup ((.cons (.bin .add (.con (.int 6)) (.call g_law_mix ((.cons (.call g_law_cell_at ((.cons (.var 0) (.cons (.con (.int 4)) .nil)))) (.cons (.con (.int 2)) .nil))))) (.cons (.con (.int 0)) .nil))))
  (.ite (.or ((.cons (.cmp .ne (.var 3) (.lst ((.cons (.var 1) (.cons (.var 2) .nil))))) (.cons (.not (.call g_law_right_11 ((.cons (.var 4) (.cons (.var 1) (.cons (.var 2) (.cons (.var 5) .nil))))))) .nil))))
  (.ret (.con (.bl false)))
  .done
  (.expr (.meth 0 (.idx (.var 3) (.con (.int 0))) ((.cons (.con (.int 1)) .nil)))
  (.expr (.meth 4 (.idx (.var 3) (.con (.int 1))) .nil)
  (.expr (.meth 0 (.meth 23 (.var 4) .nil) ((.cons (.tup ((.cons (.tup ((.cons (.con (.int 0)) (.cons (.con (.int 0)) .nil)))) (.cons (.tup ((.cons (.con (.int 0)) (.cons (.con (.int 0)) .nil)))) .nil)))) .nil)))
  (.expr (.meth 0 (.meth 25 (.var 4) .nil) ((.cons (.tup ((.cons (.con (.int 9)) (.cons (.con (.int 9)) .nil)))) .nil)))
  (.ite (.not (.call g_law_right_11 ((.cons (.var 4) (.cons (.var 1) (.cons (.var 2) (.cons (.var 5) .nil)))))))
  (.ret (.con (.bl false)))
  .done
  (.loop (.tp [6, 7]) (.enum (.bin .add (.lst ((.cons (.con (.int 0)) (.cons (.con (.int 1)) (.cons (.con (.int 2)) (.cons (.con (.int 3)) .nil)))))) (.sl (.var 0) .nil ((.cons (.con (.int 63)) .nil))))) c_law_81_1
  (.ret (.and ((.cons (.call g_law_refused_7 ((.cons (.bcall .list ((.cons (.var 1) .nil))) (.cons (.con .non) .nil)))) (.cons (.call g_law_refused_7 ((.cons (.bcall .list ((.cons (.var 1) .nil))) (.cons (.bcall .tuple ((.cons (.var 2) .nil))) .nil)))) .nil)))))))))))))))))
def c_Net___init_1 : S :=
  (.asgI (.fld (.var 0) 28) (.var 3) (.var 4)
  (.asgI (.fld (.var 0) 28) (.var 4) (.var 3)
  .done))
def c_Net___init : S :=
  (.ite (.or ((.cons (.not (.call g_are_counts ((.cons (.var 1) .nil)))) (.cons (.not (.call g_are_wires ((.cons (.var 2) (.cons (.var 1) .nil))))) .nil))))
  (.rais 1)
  .done
  (.asgF (.var 0) 22 (.bcall .len ((.cons (.var 1) .nil)))
  (.asgF (.var 0) 26 (.bcall .list ((.cons (.var 1) .nil)))
  (.asgF (.var 0) 27 (.bcall .list ((.cons (.var 2) .nil)))
  (.asgF (.var 0) 28 (.dnew true)
  (.loop (.tp [3, 4]) (.seq (.var 2)) c_Net___init_1
  .done))))))
def c_Net_count : S :=
  (.ret (.idx (.fld (.var 0) 26) (.var 1)))
def c_Net_wires : S :=
  (.ret (.bcall .list ((.cons (.fld (.var 0) 27) .nil))))
def c_Net_beyond : S :=
  (.ret (.meth 8 (.fld (.var 0) 28) ((.cons (.var 1) .nil))))
def c_Net_outer_1 : E :=
  (.tup ((.cons (.var 2) (.cons (.var 4) .nil))))
def c_Net_outer_2 : S :=
  (.expr (.meth 1 (.var 1) ((.cons (.lc [4] (.nm 4) (.rng1 (.idx (.fld (.var 0) 26) (.var 2))) .nil c_Net_outer_1) .nil)))
  .done)
def c_Net_outer_3 : Es :=
  ((.cons (.cmp .notin (.var 3) (.fld (.var 0) 28)) .nil))
def c_Net_outer_4 : E :=
  (.var 3)
def c_Net_outer : S :=
  (.asg 1 (.lst .nil)
  (.loop (.nm 2) (.rng1 (.fld (.var 0) 22)) c_Net_outer_2
  (.ret (.lc [3] (.nm 3) (.seq (.var 1)) c_Net_outer_3 c_Net_outer_4))))
def c_Net_is_door : S :=
  (.ret (.call g_is_door_of ((.cons (.var 1) (.cons (.fld (.var 0) 26) .nil)))))
def c_Net_is_outer : S :=
  (.ret (.and ((.cons (.meth 20 (.var 0) ((.cons (.var 1) .nil))) (.cons (.cmp .notin (.var 1) (.fld (.var 0) 28)) .nil)))))
def tdf : Nat → Option (Nat × Nat × S)
  | 3 => some (2, 2, c_law_mix)
  | 9 => some (2, 2, c_law_truth)
  | 12 => some (1, 1, c_is_whole)
  | 13 => some (1, 2, c_are_counts)
  | 14 => some (2, 2, c_is_door_of)
  | 15 => some (2, 5, c_are_wires)
  | 16 => some (2, 2, c_law_cell_at)
  | 17 => some (1, 3, c_law_counts)
  | 18 => some (1, 4, c_law_doors)
  | 19 => some (2, 10, c_law_wires)
  | 22 => some (3, 8, c_law_bad_wires)
  | 23 => some (2, 3, c_law_bad_counts)
  | 24 => some (5, 8, c_law_doors_right)
  | 27 => some (3, 5, c_Net___init)
  | 28 => some (2, 2, c_Net_count)
  | 29 => some (1, 1, c_Net_wires)
  | 30 => some (2, 2, c_Net_beyond)
  | 31 => some (1, 5, c_Net_outer)
  | 32 => some (2, 2, c_Net_is_door)
  | 33 => some (2, 2, c_Net_is_outer)
  | 576 => some (1, 4, c_law_names_3)
  | 577 => some (2, 4, c_law_refused_7)
  | 609 => some (4, 10, c_law_right_11)
  | 610 => some (1, 9, c_law_81)
  | _ => none
def tmt : Nat → Nat → Option Nat
  | 10, 7 => some 28
  | 10, 23 => some 29
  | 10, 24 => some 30
  | 10, 25 => some 31
  | 10, 20 => some 32
  | 10, 21 => some 33
  | _, _ => none
def tini : Nat → Option Nat
  | 10 => some 27
  | _ => none
def tfl : Nat → Nat → Bool
  | 10, 27 => true
  | 10, 22 => true
  | 10, 28 => true
  | 10, 26 => true
  | _, _ => false
def tsub : Nat → Nat → Option Bool
  | 1, 1 => some true
  | 1, 2 => some false
  | 1, 3 => some false
  | 1, 4 => some false
  | 1, 5 => some false
  | 1, 6 => some false
  | 1, 7 => some false
  | 1, 8 => some false
  | 1, 9 => some false
  | 1, 11 => some true
  | 1, 999 => some true
  | _, _ => none
def tab : Tab := { df := tdf, mt := tmt, ini := tini, fl := tfl, sub := tsub }
end L3

namespace L3
open PySem PySem.Spec PyProof.Rows L2
def topS (i : Nat) : Stmt := PySem.Challenge.pw_nohalfway_k02_nets.main.body.getD i (.Pass ⟨0, 0, 0, 0⟩)
def nmL : List Str := (["append", "extend", "insert", "pop", "clear", "reverse", "index", "count", "get", "split", "join", "find", "_r12", "_r13", "_r14", "_r15", "_r16", "_r17", "_r18", "_r19", "is_door", "is_outer", "many", "wires", "beyond", "outer", "sizes", "joins", "other", "rest_of"] : List Str) ++ (["paper", "net", "old", "new", "sayings", "whole", "known", "move", "mark", "address", "road", "books", "steps", "done", "taught", "turned", "forgotten", "letters", "came", "ended", "let_in", "let_go", "do_step", "knows_book", "may_step", "place", "under", "journal", "may", "found"] : List Str) ++ (["shelves", "shunned", "looked", "roads", "tell", "look_round", "passes", "say", "web", "begin", "set_up", "moved", "asked", "going", "begun", "musts", "set_book", "ready", "look_at_house", "coming", "look_at_coming", "order_told", "fault_told", "keep_told", "meet_told"] : List Str)
def nmF (k : Nat) : Str := match nmL[k]? with
  | some x => x
  | none => ⟨#[1114112 + k]⟩
theorem nm_small : nmL.all (fun x => decide (x.cps.size ≠ 1)) = true := by decide +kernel
theorem nm_nodup : nmL.Nodup := by decide +kernel
theorem nmInj : ∀ a b, nmF a = nmF b → a = b := by
  intro a b h
  have big : ∀ {x : Str} {k : Nat}, x ∈ nmL → x = ⟨#[1114112 + k]⟩ → False := fun hx e => by
    have z := of_decide_eq_true (List.all_eq_true.mp nm_small _ hx)
    rw [e] at z
    exact z rfl
  unfold nmF at h
  cases ha : nmL[a]? with
  | some x =>
    cases hb : nmL[b]? with
    | some y =>
      rw [ha, hb] at h
      have h : x = y := h
      subst h
      obtain ⟨la, ea⟩ := List.getElem?_eq_some_iff.mp ha
      obtain ⟨lb, eb⟩ := List.getElem?_eq_some_iff.mp hb
      exact (List.getElem_inj nm_nodup).mp (ea.trans eb.symm)
    | none =>
      rw [ha, hb] at h
      exact (big (List.mem_of_getElem? ha) h).elim
  | none =>
    cases hb : nmL[b]? with
    | some y =>
      rw [ha, hb] at h
      exact (big (List.mem_of_getElem? hb) h.symm).elim
    | none =>
      rw [ha, hb] at h
      have h : (⟨#[1114112 + a]⟩ : Str) = ⟨#[1114112 + b]⟩ := h
      injection h with h
      injection h with h
      injection h with h
      omega
def m0 : MC := { N := [], nm := nmF, defs := ("is_whole", g_is_whole) :: ("are_counts", g_are_counts) :: ("is_door_of", g_is_door_of) :: ("are_wires", g_are_wires) :: ("_law_cell_at", g_law_cell_at) :: ("_law_mix", g_law_mix) :: ("_law_counts", g_law_counts) :: ("_law_doors", g_law_doors) :: ("_law_wires", g_law_wires) :: ("_law_names", g_law_names_3) :: ("_law_refused", g_law_refused_7) :: ("_law_bad_wires", g_law_bad_wires) :: ("_law_bad_counts", g_law_bad_counts) :: ("_law_truth", g_law_truth) :: ("_law_doors_right", g_law_doors_right) :: ("_law_right", g_law_right_11) :: ("law", g_law_81) :: [], clss := [("Net", 10)], kons := [("MOST_HOUSES", (.int 6)), ("MOST_DOORS", (.int 4))], ecls := [("NoNet", 1), ("NoBooks", 2), ("NoDoor", 3), ("NoAddress", 4), ("NoSaying", 5), ("NoRow", 6), ("NoPlan", 7), ("NoMove", 8), ("NoText", 9), ("WayError", 11), ("ValueError", 999)], rcls := [1] }
abbrev s_is_whole : Stmt := topS 14
theorem sc_is_whole : FnScope ["thing"] ["thing"] (defScope s_is_whole) := ⟨rfl, rfl, rfl, by decide +kernel, rfl, by decide +kernel, by decide +kernel⟩
theorem ma_is_whole : matS (m0.at ["thing"]) (defScope s_is_whole) c_is_whole (defBody s_is_whole) = true := by decide +kernel
abbrev s_are_counts : Stmt := topS 15
theorem sc_are_counts : FnScope ["thing", "many"] ["thing"] (defScope s_are_counts) := ⟨rfl, rfl, rfl, by decide +kernel, rfl, by decide +kernel, by decide +kernel⟩
theorem ma_are_counts : matS (m0.at ["thing", "many"]) (defScope s_are_counts) c_are_counts (defBody s_are_counts) = true := by decide +kernel
abbrev s_is_door_of : Stmt := topS 16
theorem sc_is_door_of : FnScope ["thing", "counts"] ["thing", "counts"] (defScope s_is_door_of) := ⟨rfl, rfl, rfl, by decide +kernel, rfl, by decide +kernel, by decide +kernel⟩
theorem ma_is_door_of : matS (m0.at ["thing", "counts"]) (defScope s_is_door_of) c_is_door_of (defBody s_is_door_of) = true := by decide +kernel
abbrev s_are_wires : Stmt := topS 17
theorem sc_are_wires : FnScope ["thing", "counts", "seen", "wire", "door"] ["thing", "counts"] (defScope s_are_wires) := ⟨rfl, rfl, rfl, by decide +kernel, rfl, by decide +kernel, by decide +kernel⟩
theorem ma_are_wires : matS (m0.at ["thing", "counts", "seen", "wire", "door"]) (defScope s_are_wires) c_are_wires (defBody s_are_wires) = true := by decide +kernel
abbrev s_law_cell_at : Stmt := topS 20
theorem sc_law_cell_at : FnScope ["script", "k"] ["script", "k"] (defScope s_law_cell_at) := ⟨rfl, rfl, rfl, by decide +kernel, rfl, by decide +kernel, by decide +kernel⟩
theorem ma_law_cell_at : matS (m0.at ["script", "k"]) (defScope s_law_cell_at) c_law_cell_at (defBody s_law_cell_at) = true := by decide +kernel
abbrev s_law_mix : Stmt := topS 21
theorem sc_law_mix : FnScope ["cell", "k"] ["cell", "k"] (defScope s_law_mix) := ⟨rfl, rfl, rfl, by decide +kernel, rfl, by decide +kernel, by decide +kernel⟩
theorem ma_law_mix : matS (m0.at ["cell", "k"]) (defScope s_law_mix) c_law_mix (defBody s_law_mix) = true := by decide +kernel
abbrev s_law_counts : Stmt := topS 22
theorem sc_law_counts : FnScope ["script", "many", "house"] ["script"] (defScope s_law_counts) := ⟨rfl, rfl, rfl, by decide +kernel, rfl, by decide +kernel, by decide +kernel⟩
theorem ma_law_counts : matS (m0.at ["script", "many", "house"]) (defScope s_law_counts) c_law_counts (defBody s_law_counts) = true := by decide +kernel
abbrev s_law_doors : Stmt := topS 23
theorem sc_law_doors : FnScope ["counts", "doors", "house", "number"] ["counts"] (defScope s_law_doors) := ⟨rfl, rfl, rfl, by decide +kernel, rfl, by decide +kernel, by decide +kernel⟩
theorem ma_law_doors : matS (m0.at ["counts", "doors", "house", "number"]) (defScope s_law_doors) c_law_doors (defBody s_law_doors) = true := by decide +kernel
abbrev s_law_wires : Stmt := topS 24
theorem sc_law_wires : FnScope ["script", "counts", "doors", "some", "k", "dealt", "most", "many", "number", "door"] ["script", "counts"] (defScope s_law_wires) := ⟨rfl, rfl, rfl, by decide +kernel, rfl, by decide +kernel, by decide +kernel⟩
theorem ma_law_wires : matS (m0.at ["script", "counts", "doors", "some", "k", "dealt", "most", "many", "number", "door"]) (defScope s_law_wires) c_law_wires (defBody s_law_wires) = true := by decide +kernel
abbrev s_law_names_3 : Stmt := topS 25
theorem sc_law_names_3 : FnScope ["e", "some", "word", "truth"] ["e"] (defScope s_law_names_3) := ⟨rfl, rfl, rfl, by decide +kernel, rfl, by decide +kernel, by decide +kernel⟩
theorem ma_law_names_3 : matS (m0.at ["e", "some", "word", "truth"]) (defScope s_law_names_3) c_law_names_3 (defBody s_law_names_3) = true := by decide +kernel
abbrev s_law_refused_7 : Stmt := topS 26
theorem sc_law_refused_7 : FnScope ["counts", "wires", "error", "e"] ["counts", "wires"] (defScope s_law_refused_7) := ⟨rfl, rfl, rfl, by decide +kernel, rfl, by decide +kernel, by decide +kernel⟩
theorem ma_law_refused_7 : matS (m0.at ["counts", "wires", "error", "e"]) (defScope s_law_refused_7) c_law_refused_7 (defBody s_law_refused_7) = true := by decide +kernel
abbrev s_law_bad_wires : Stmt := topS 27
theorem sc_law_bad_wires : FnScope ["counts", "wires", "number", "one", "some", "spoiled", "bad", "first"] ["counts", "wires", "number"] (defScope s_law_bad_wires) := ⟨rfl, rfl, rfl, by decide +kernel, rfl, by decide +kernel, by decide +kernel⟩
theorem ma_law_bad_wires : matS (m0.at ["counts", "wires", "number", "one", "some", "spoiled", "bad", "first"]) (defScope s_law_bad_wires) c_law_bad_wires (defBody s_law_bad_wires) = true := by decide +kernel
abbrev s_law_bad_counts : Stmt := topS 28
theorem sc_law_bad_counts : FnScope ["counts", "number", "spoiled"] ["counts", "number"] (defScope s_law_bad_counts) := ⟨rfl, rfl, rfl, by decide +kernel, rfl, by decide +kernel, by decide +kernel⟩
theorem ma_law_bad_counts : matS (m0.at ["counts", "number", "spoiled"]) (defScope s_law_bad_counts) c_law_bad_counts (defBody s_law_bad_counts) = true := by decide +kernel
abbrev s_law_truth : Stmt := topS 29
theorem sc_law_truth : FnScope ["found", "due"] ["found", "due"] (defScope s_law_truth) := ⟨rfl, rfl, rfl, by decide +kernel, rfl, by decide +kernel, by decide +kernel⟩
theorem ma_law_truth : matS (m0.at ["found", "due"]) (defScope s_law_truth) c_law_truth (defBody s_law_truth) = true := by decide +kernel
abbrev s_law_doors_right : Stmt := topS 30
theorem sc_law_doors_right : FnScope ["net", "counts", "far", "doors", "in_wires", "door", "thing", "there"] ["net", "counts", "far", "doors", "in_wires"] (defScope s_law_doors_right) := ⟨rfl, rfl, rfl, by decide +kernel, rfl, by decide +kernel, by decide +kernel⟩
theorem ma_law_doors_right : matS (m0.at ["net", "counts", "far", "doors", "in_wires", "door", "thing", "there"]) (defScope s_law_doors_right) c_law_doors_right (defBody s_law_doors_right) = true := by decide +kernel
abbrev s_law_right_11 : Stmt := topS 31
theorem sc_law_right_11 : FnScope ["net", "counts", "wires", "far", "doors", "beyond", "house", "door", "one", "two"] ["net", "counts", "wires", "far"] (defScope s_law_right_11) := ⟨rfl, rfl, rfl, by decide +kernel, rfl, by decide +kernel, by decide +kernel⟩
theorem ma_law_right_11 : matS (m0.at ["net", "counts", "wires", "far", "doors", "beyond", "house", "door", "one", "two"]) (defScope s_law_right_11) c_law_right_11 (defBody s_law_right_11) = true := by decide +kernel
abbrev s_law_81 : Stmt := topS 32
theorem sc_law_81 : FnScope ["script", "counts", "wires", "handed", "net", "far", "k", "cell", "number"] ["script"] (defScope s_law_81) := ⟨rfl, rfl, rfl, by decide +kernel, rfl, by decide +kernel, by decide +kernel⟩
theorem ma_law_81 : matS (m0.at ["script", "counts", "wires", "handed", "net", "far", "k", "cell", "number"]) (defScope s_law_81) c_law_81 (defBody s_law_81) = true := by decide +kernel
abbrev s_Net___init : Stmt := inClass (topS 18) 0
theorem sc_Net___init : FnScope ["self", "counts", "wires", "one", "two"] ["self", "counts", "wires"] (defScope s_Net___init) := ⟨rfl, rfl, rfl, by decide +kernel, rfl, by decide +kernel, by decide +kernel⟩
theorem ma_Net___init : matS (m0.at ["self", "counts", "wires", "one", "two"]) (defScope s_Net___init) c_Net___init (defBody s_Net___init) = true := by decide +kernel
abbrev s_Net_count : Stmt := inClass (topS 18) 1
theorem sc_Net_count : FnScope ["self", "house"] ["self", "house"] (defScope s_Net_count) := ⟨rfl, rfl, rfl, by decide +kernel, rfl, by decide +kernel, by decide +kernel⟩
theorem ma_Net_count : matS (m0.at ["self", "house"]) (defScope s_Net_count) c_Net_count (defBody s_Net_count) = true := by decide +kernel
abbrev s_Net_wires : Stmt := inClass (topS 18) 2
theorem sc_Net_wires : FnScope ["self"] ["self"] (defScope s_Net_wires) := ⟨rfl, rfl, rfl, by decide +kernel, rfl, by decide +kernel, by decide +kernel⟩
theorem ma_Net_wires : matS (m0.at ["self"]) (defScope s_Net_wires) c_Net_wires (defBody s_Net_wires) = true := by decide +kernel
abbrev s_Net_beyond : Stmt := inClass (topS 18) 3
theorem sc_Net_beyond : FnScope ["self", "door"] ["self", "door"] (defScope s_Net_beyond) := ⟨rfl, rfl, rfl, by decide +kernel, rfl, by decide +kernel, by decide +kernel⟩
theorem ma_Net_beyond : matS (m0.at ["self", "door"]) (defScope s_Net_beyond) c_Net_beyond (defBody s_Net_beyond) = true := by decide +kernel
abbrev s_Net_outer : Stmt := inClass (topS 18) 4
theorem sc_Net_outer : FnScope ["self", "doors", "house", "door", "number"] ["self"] (defScope s_Net_outer) := ⟨rfl, rfl, rfl, by decide +kernel, rfl, by decide +kernel, by decide +kernel⟩
theorem ma_Net_outer : matS (m0.at ["self", "doors", "house", "door", "number"]) (defScope s_Net_outer) c_Net_outer (defBody s_Net_outer) = true := by decide +kernel
abbrev s_Net_is_door : Stmt := inClass (topS 18) 5
theorem sc_Net_is_door : FnScope ["self", "thing"] ["self", "thing"] (defScope s_Net_is_door) := ⟨rfl, rfl, rfl, by decide +kernel, rfl, by decide +kernel, by decide +kernel⟩
theorem ma_Net_is_door : matS (m0.at ["self", "thing"]) (defScope s_Net_is_door) c_Net_is_door (defBody s_Net_is_door) = true := by decide +kernel
abbrev s_Net_is_outer : Stmt := inClass (topS 18) 6
theorem sc_Net_is_outer : FnScope ["self", "thing"] ["self", "thing"] (defScope s_Net_is_outer) := ⟨rfl, rfl, rfl, by decide +kernel, rfl, by decide +kernel, by decide +kernel⟩
theorem ma_Net_is_outer : matS (m0.at ["self", "thing"]) (defScope s_Net_is_outer) c_Net_is_outer (defBody s_Net_is_outer) = true := by decide +kernel
set_option maxHeartbeats 0 in
theorem all_mk {l : PySem.W.OpenLaw} {w : World} {K : PySem.W.Frag} {h : Heap} {mg : Str → Option Value} {fa : Addr} (X : K.In h) (G : h.Ns mainGlobals mg) (hfa : mg "law" = some (.ref fa))
    {C_Net : Addr}
    {C_NoNet : Addr}
    {C_NoBooks : Addr}
    {C_NoDoor : Addr}
    {C_NoAddress : Addr}
    {C_NoSaying : Addr}
    {C_NoRow : Addr}
    {C_NoPlan : Addr}
    {C_NoMove : Addr}
    {C_NoText : Addr}
    {C_WayError : Addr}
    {f_is_whole : Addr} {od_is_whole an_is_whole : Option Addr} {sl_is_whole : Array (Option Value)} {oc_is_whole kv_is_whole dc_is_whole pm_is_whole cd_is_whole ct_is_whole : Value}
    {f_are_counts : Addr} {od_are_counts an_are_counts : Option Addr} {sl_are_counts : Array (Option Value)} {oc_are_counts kv_are_counts dc_are_counts pm_are_counts cd_are_counts ct_are_counts : Value}
    {f_is_door_of : Addr} {od_is_door_of an_is_door_of : Option Addr} {sl_is_door_of : Array (Option Value)} {oc_is_door_of kv_is_door_of dc_is_door_of pm_is_door_of cd_is_door_of ct_is_door_of : Value}
    {f_are_wires : Addr} {od_are_wires an_are_wires : Option Addr} {sl_are_wires : Array (Option Value)} {oc_are_wires kv_are_wires dc_are_wires pm_are_wires cd_are_wires ct_are_wires : Value}
    {f_law_cell_at : Addr} {od_law_cell_at an_law_cell_at : Option Addr} {sl_law_cell_at : Array (Option Value)} {oc_law_cell_at kv_law_cell_at dc_law_cell_at pm_law_cell_at cd_law_cell_at ct_law_cell_at : Value}
    {f_law_mix : Addr} {od_law_mix an_law_mix : Option Addr} {sl_law_mix : Array (Option Value)} {oc_law_mix kv_law_mix dc_law_mix pm_law_mix cd_law_mix ct_law_mix : Value}
    {f_law_counts : Addr} {od_law_counts an_law_counts : Option Addr} {sl_law_counts : Array (Option Value)} {oc_law_counts kv_law_counts dc_law_counts pm_law_counts cd_law_counts ct_law_counts : Value}
    {f_law_doors : Addr} {od_law_doors an_law_doors : Option Addr} {sl_law_doors : Array (Option Value)} {oc_law_doors kv_law_doors dc_law_doors pm_law_doors cd_law_doors ct_law_doors : Value}
    {f_law_wires : Addr} {od_law_wires an_law_wires : Option Addr} {sl_law_wires : Array (Option Value)} {oc_law_wires kv_law_wires dc_law_wires pm_law_wires cd_law_wires ct_law_wires : Value}
    {f_law_names_3 : Addr} {od_law_names_3 an_law_names_3 : Option Addr} {sl_law_names_3 : Array (Option Value)} {oc_law_names_3 kv_law_names_3 dc_law_names_3 pm_law_names_3 cd_law_names_3 ct_law_names_3 : Value}
    {f_law_refused_7 : Addr} {od_law_refused_7 an_law_refused_7 : Option Addr} {sl_law_refused_7 : Array (Option Value)} {oc_law_refused_7 kv_law_refused_7 dc_law_refused_7 pm_law_refused_7 cd_law_refused_7 ct_law_refused_7 : Value}
    {f_law_bad_wires : Addr} {od_law_bad_wires an_law_bad_wires : Option Addr} {sl_law_bad_wires : Array (Option Value)} {oc_law_bad_wires kv_law_bad_wires dc_law_bad_wires pm_law_bad_wires cd_law_bad_wires ct_law_bad_wires : Value}
    {f_law_bad_counts : Addr} {od_law_bad_counts an_law_bad_counts : Option Addr} {sl_law_bad_counts : Array (Option Value)} {oc_law_bad_counts kv_law_bad_counts dc_law_bad_counts pm_law_bad_counts cd_law_bad_counts ct_law_bad_counts : Value}
    {f_law_truth : Addr} {od_law_truth an_law_truth : Option Addr} {sl_law_truth : Array (Option Value)} {oc_law_truth kv_law_truth dc_law_truth pm_law_truth cd_law_truth ct_law_truth : Value}
    {f_law_doors_right : Addr} {od_law_doors_right an_law_doors_right : Option Addr} {sl_law_doors_right : Array (Option Value)} {oc_law_doors_right kv_law_doors_right dc_law_doors_right pm_law_doors_right cd_law_doors_right ct_law_doors_right : Value}
    {f_law_right_11 : Addr} {od_law_right_11 an_law_right_11 : Option Addr} {sl_law_right_11 : Array (Option Value)} {oc_law_right_11 kv_law_right_11 dc_law_right_11 pm_law_right_11 cd_law_right_11 ct_law_right_11 : Value}
    {f_law_81 : Addr} {od_law_81 an_law_81 : Option Addr} {sl_law_81 : Array (Option Value)} {oc_law_81 kv_law_81 dc_law_81 pm_law_81 cd_law_81 ct_law_81 : Value}
    {f_Net___init : Addr} {od_Net___init an_Net___init : Option Addr} {sl_Net___init : Array (Option Value)} {oc_Net___init kv_Net___init dc_Net___init pm_Net___init cd_Net___init ct_Net___init : Value}
    {f_Net_count : Addr} {od_Net_count an_Net_count : Option Addr} {sl_Net_count : Array (Option Value)} {oc_Net_count kv_Net_count dc_Net_count pm_Net_count cd_Net_count ct_Net_count : Value}
    {f_Net_wires : Addr} {od_Net_wires an_Net_wires : Option Addr} {sl_Net_wires : Array (Option Value)} {oc_Net_wires kv_Net_wires dc_Net_wires pm_Net_wires cd_Net_wires ct_Net_wires : Value}
    {f_Net_beyond : Addr} {od_Net_beyond an_Net_beyond : Option Addr} {sl_Net_beyond : Array (Option Value)} {oc_Net_beyond kv_Net_beyond dc_Net_beyond pm_Net_beyond cd_Net_beyond ct_Net_beyond : Value}
    {f_Net_outer : Addr} {od_Net_outer an_Net_outer : Option Addr} {sl_Net_outer : Array (Option Value)} {oc_Net_outer kv_Net_outer dc_Net_outer pm_Net_outer cd_Net_outer ct_Net_outer : Value}
    {f_Net_is_door : Addr} {od_Net_is_door an_Net_is_door : Option Addr} {sl_Net_is_door : Array (Option Value)} {oc_Net_is_door kv_Net_is_door dc_Net_is_door pm_Net_is_door cd_Net_is_door ct_Net_is_door : Value}
    {f_Net_is_outer : Addr} {od_Net_is_outer an_Net_is_outer : Option Addr} {sl_Net_is_outer : Array (Option Value)} {oc_Net_is_outer kv_Net_is_outer dc_Net_is_outer pm_Net_is_outer cd_Net_is_outer ct_Net_is_outer : Value}
    {t_MOST_HOUSES : Tok}
    {t_MOST_DOORS : Tok}
    (a_is_whole : PySem.W.nsIn K mainGlobals "is_whole" = some (some (.ref f_is_whole))) (l_is_whole : K.lookup f_is_whole = some ⟨oc_is_whole, od_is_whole, .func (PySem.W.fnOf "is_whole" "is_whole" (defArgs s_is_whole) (defBody s_is_whole) (defScope s_is_whole) .none kv_is_whole dc_is_whole pm_is_whole an_is_whole cd_is_whole ct_is_whole), sl_is_whole⟩) (y_is_whole : PySem.W.codeIn K cd_is_whole "is_whole" = true) (k_is_whole : PySem.W.keepIn K (.ref f_is_whole) = true)
    (a_are_counts : PySem.W.nsIn K mainGlobals "are_counts" = some (some (.ref f_are_counts))) (l_are_counts : K.lookup f_are_counts = some ⟨oc_are_counts, od_are_counts, .func (PySem.W.fnOf "are_counts" "are_counts" (defArgs s_are_counts) (defBody s_are_counts) (defScope s_are_counts) .none kv_are_counts dc_are_counts pm_are_counts an_are_counts cd_are_counts ct_are_counts), sl_are_counts⟩) (y_are_counts : PySem.W.codeIn K cd_are_counts "are_counts" = true) (k_are_counts : PySem.W.keepIn K (.ref f_are_counts) = true)
    (a_is_door_of : PySem.W.nsIn K mainGlobals "is_door_of" = some (some (.ref f_is_door_of))) (l_is_door_of : K.lookup f_is_door_of = some ⟨oc_is_door_of, od_is_door_of, .func (PySem.W.fnOf "is_door_of" "is_door_of" (defArgs s_is_door_of) (defBody s_is_door_of) (defScope s_is_door_of) .none kv_is_door_of dc_is_door_of pm_is_door_of an_is_door_of cd_is_door_of ct_is_door_of), sl_is_door_of⟩) (y_is_door_of : PySem.W.codeIn K cd_is_door_of "is_door_of" = true) (k_is_door_of : PySem.W.keepIn K (.ref f_is_door_of) = true)
    (a_are_wires : PySem.W.nsIn K mainGlobals "are_wires" = some (some (.ref f_are_wires))) (l_are_wires : K.lookup f_are_wires = some ⟨oc_are_wires, od_are_wires, .func (PySem.W.fnOf "are_wires" "are_wires" (defArgs s_are_wires) (defBody s_are_wires) (defScope s_are_wires) .none kv_are_wires dc_are_wires pm_are_wires an_are_wires cd_are_wires ct_are_wires), sl_are_wires⟩) (y_are_wires : PySem.W.codeIn K cd_are_wires "are_wires" = true) (k_are_wires : PySem.W.keepIn K (.ref f_are_wires) = true)
    (a_law_cell_at : PySem.W.nsIn K mainGlobals "_law_cell_at" = some (some (.ref f_law_cell_at))) (l_law_cell_at : K.lookup f_law_cell_at = some ⟨oc_law_cell_at, od_law_cell_at, .func (PySem.W.fnOf "_law_cell_at" "_law_cell_at" (defArgs s_law_cell_at) (defBody s_law_cell_at) (defScope s_law_cell_at) .none kv_law_cell_at dc_law_cell_at pm_law_cell_at an_law_cell_at cd_law_cell_at ct_law_cell_at), sl_law_cell_at⟩) (y_law_cell_at : PySem.W.codeIn K cd_law_cell_at "_law_cell_at" = true) (k_law_cell_at : PySem.W.keepIn K (.ref f_law_cell_at) = true)
    (a_law_mix : PySem.W.nsIn K mainGlobals "_law_mix" = some (some (.ref f_law_mix))) (l_law_mix : K.lookup f_law_mix = some ⟨oc_law_mix, od_law_mix, .func (PySem.W.fnOf "_law_mix" "_law_mix" (defArgs s_law_mix) (defBody s_law_mix) (defScope s_law_mix) .none kv_law_mix dc_law_mix pm_law_mix an_law_mix cd_law_mix ct_law_mix), sl_law_mix⟩) (y_law_mix : PySem.W.codeIn K cd_law_mix "_law_mix" = true) (k_law_mix : PySem.W.keepIn K (.ref f_law_mix) = true)
    (a_law_counts : PySem.W.nsIn K mainGlobals "_law_counts" = some (some (.ref f_law_counts))) (l_law_counts : K.lookup f_law_counts = some ⟨oc_law_counts, od_law_counts, .func (PySem.W.fnOf "_law_counts" "_law_counts" (defArgs s_law_counts) (defBody s_law_counts) (defScope s_law_counts) .none kv_law_counts dc_law_counts pm_law_counts an_law_counts cd_law_counts ct_law_counts), sl_law_counts⟩) (y_law_counts : PySem.W.codeIn K cd_law_counts "_law_counts" = true) (k_law_counts : PySem.W.keepIn K (.ref f_law_counts) = true)
    (a_law_doors : PySem.W.nsIn K mainGlobals "_law_doors" = some (some (.ref f_law_doors))) (l_law_doors : K.lookup f_law_doors = some ⟨oc_law_doors, od_law_doors, .func (PySem.W.fnOf "_law_doors" "_law_doors" (defArgs s_law_doors) (defBody s_law_doors) (defScope s_law_doors) .none kv_law_doors dc_law_doors pm_law_doors an_law_doors cd_law_doors ct_law_doors), sl_law_doors⟩) (y_law_doors : PySem.W.codeIn K cd_law_doors "_law_doors" = true) (k_law_doors : PySem.W.keepIn K (.ref f_law_doors) = true)
    (a_law_wires : PySem.W.nsIn K mainGlobals "_law_wires" = some (some (.ref f_law_wires))) (l_law_wires : K.lookup f_law_wires = some ⟨oc_law_wires, od_law_wires, .func (PySem.W.fnOf "_law_wires" "_law_wires" (defArgs s_law_wires) (defBody s_law_wires) (defScope s_law_wires) .none kv_law_wires dc_law_wires pm_law_wires an_law_wires cd_law_wires ct_law_wires), sl_law_wires⟩) (y_law_wires : PySem.W.codeIn K cd_law_wires "_law_wires" = true) (k_law_wires : PySem.W.keepIn K (.ref f_law_wires) = true)
    (a_law_names_3 : PySem.W.nsIn K mainGlobals "_law_names" = some (some (.ref f_law_names_3))) (l_law_names_3 : K.lookup f_law_names_3 = some ⟨oc_law_names_3, od_law_names_3, .func (PySem.W.fnOf "_law_names" "_law_names" (defArgs s_law_names_3) (defBody s_law_names_3) (defScope s_law_names_3) .none kv_law_names_3 dc_law_names_3 pm_law_names_3 an_law_names_3 cd_law_names_3 ct_law_names_3), sl_law_names_3⟩) (y_law_names_3 : PySem.W.codeIn K cd_law_names_3 "_law_names" = true) (k_law_names_3 : PySem.W.keepIn K (.ref f_law_names_3) = true)
    (a_law_refused_7 : PySem.W.nsIn K mainGlobals "_law_refused" = some (some (.ref f_law_refused_7))) (l_law_refused_7 : K.lookup f_law_refused_7 = some ⟨oc_law_refused_7, od_law_refused_7, .func (PySem.W.fnOf "_law_refused" "_law_refused" (defArgs s_law_refused_7) (defBody s_law_refused_7) (defScope s_law_refused_7) .none kv_law_refused_7 dc_law_refused_7 pm_law_refused_7 an_law_refused_7 cd_law_refused_7 ct_law_refused_7), sl_law_refused_7⟩) (y_law_refused_7 : PySem.W.codeIn K cd_law_refused_7 "_law_refused" = true) (k_law_refused_7 : PySem.W.keepIn K (.ref f_law_refused_7) = true)
    (a_law_bad_wires : PySem.W.nsIn K mainGlobals "_law_bad_wires" = some (some (.ref f_law_bad_wires))) (l_law_bad_wires : K.lookup f_law_bad_wires = some ⟨oc_law_bad_wires, od_law_bad_wires, .func (PySem.W.fnOf "_law_bad_wires" "_law_bad_wires" (defArgs s_law_bad_wires) (defBody s_law_bad_wires) (defScope s_law_bad_wires) .none kv_law_bad_wires dc_law_bad_wires pm_law_bad_wires an_law_bad_wires cd_law_bad_wires ct_law_bad_wires), sl_law_bad_wires⟩) (y_law_bad_wires : PySem.W.codeIn K cd_law_bad_wires "_law_bad_wires" = true) (k_law_bad_wires : PySem.W.keepIn K (.ref f_law_bad_wires) = true)
    (a_law_bad_counts : PySem.W.nsIn K mainGlobals "_law_bad_counts" = some (some (.ref f_law_bad_counts))) (l_law_bad_counts : K.lookup f_law_bad_counts = some ⟨oc_law_bad_counts, od_law_bad_counts, .func (PySem.W.fnOf "_law_bad_counts" "_law_bad_counts" (defArgs s_law_bad_counts) (defBody s_law_bad_counts) (defScope s_law_bad_counts) .none kv_law_bad_counts dc_law_bad_counts pm_law_bad_counts an_law_bad_counts cd_law_bad_counts ct_law_bad_counts), sl_law_bad_counts⟩) (y_law_bad_counts : PySem.W.codeIn K cd_law_bad_counts "_law_bad_counts" = true) (k_law_bad_counts : PySem.W.keepIn K (.ref f_law_bad_counts) = true)
    (a_law_truth : PySem.W.nsIn K mainGlobals "_law_truth" = some (some (.ref f_law_truth))) (l_law_truth : K.lookup f_law_truth = some ⟨oc_law_truth, od_law_truth, .func (PySem.W.fnOf "_law_truth" "_law_truth" (defArgs s_law_truth) (defBody s_law_truth) (defScope s_law_truth) .none kv_law_truth dc_law_truth pm_law_truth an_law_truth cd_law_truth ct_law_truth), sl_law_truth⟩) (y_law_truth : PySem.W.codeIn K cd_law_truth "_law_truth" = true) (k_law_truth : PySem.W.keepIn K (.ref f_law_truth) = true)
    (a_law_doors_right : PySem.W.nsIn K mainGlobals "_law_doors_right" = some (some (.ref f_law_doors_right))) (l_law_doors_right : K.lookup f_law_doors_right = some ⟨oc_law_doors_right, od_law_doors_right, .func (PySem.W.fnOf "_law_doors_right" "_law_doors_right" (defArgs s_law_doors_right) (defBody s_law_doors_right) (defScope s_law_doors_right) .none kv_law_doors_right dc_law_doors_right pm_law_doors_right an_law_doors_right cd_law_doors_right ct_law_doors_right), sl_law_doors_right⟩) (y_law_doors_right : PySem.W.codeIn K cd_law_doors_right "_law_doors_right" = true) (k_law_doors_right : PySem.W.keepIn K (.ref f_law_doors_right) = true)
    (a_law_right_11 : PySem.W.nsIn K mainGlobals "_law_right" = some (some (.ref f_law_right_11))) (l_law_right_11 : K.lookup f_law_right_11 = some ⟨oc_law_right_11, od_law_right_11, .func (PySem.W.fnOf "_law_right" "_law_right" (defArgs s_law_right_11) (defBody s_law_right_11) (defScope s_law_right_11) .none kv_law_right_11 dc_law_right_11 pm_law_right_11 an_law_right_11 cd_law_right_11 ct_law_right_11), sl_law_right_11⟩) (y_law_right_11 : PySem.W.codeIn K cd_law_right_11 "_law_right" = true) (k_law_right_11 : PySem.W.keepIn K (.ref f_law_right_11) = true)
    (a_law_81 : PySem.W.nsIn K mainGlobals "law" = some (some (.ref f_law_81))) (l_law_81 : K.lookup f_law_81 = some ⟨oc_law_81, od_law_81, .func (PySem.W.fnOf "law" "law" (defArgs s_law_81) (defBody s_law_81) (defScope s_law_81) .none kv_law_81 dc_law_81 pm_law_81 an_law_81 cd_law_81 ct_law_81), sl_law_81⟩) (y_law_81 : PySem.W.codeIn K cd_law_81 "law" = true) (k_law_81 : PySem.W.keepIn K (.ref f_law_81) = true)
    (aC_Net : PySem.W.nsIn K mainGlobals "Net" = some (some (.ref C_Net))) (pg_Net : PySem.W.plainGet K C_Net Str.empty = true) (hd_Net : PySem.W.hasDictIn K C_Net = true) (po_Net : PySem.W.plainOver K C_Net = true) (sa_Net : PySem.W.findIn K (.ref C_Net) "__setattr__" = some (some (.builtin "object.__setattr__"))) (mk_Net : PySem.W.makesIn K C_Net = true) (kc_Net : PySem.W.keepIn K (.ref C_Net) = true)
    (n_Net_joins : PySem.W.findIn K (.ref C_Net) "joins" = some none)
    (n_Net_many : PySem.W.findIn K (.ref C_Net) "many" = some none)
    (n_Net_other : PySem.W.findIn K (.ref C_Net) "other" = some none)
    (n_Net_sizes : PySem.W.findIn K (.ref C_Net) "sizes" = some none)
    (aE_NoNet : PySem.W.nsIn K mainGlobals "NoNet" = some (some (.ref C_NoNet)))
    (aE_NoBooks : PySem.W.nsIn K mainGlobals "NoBooks" = some (some (.ref C_NoBooks)))
    (aE_NoDoor : PySem.W.nsIn K mainGlobals "NoDoor" = some (some (.ref C_NoDoor)))
    (aE_NoAddress : PySem.W.nsIn K mainGlobals "NoAddress" = some (some (.ref C_NoAddress)))
    (aE_NoSaying : PySem.W.nsIn K mainGlobals "NoSaying" = some (some (.ref C_NoSaying)))
    (aE_NoRow : PySem.W.nsIn K mainGlobals "NoRow" = some (some (.ref C_NoRow)))
    (aE_NoPlan : PySem.W.nsIn K mainGlobals "NoPlan" = some (some (.ref C_NoPlan)))
    (aE_NoMove : PySem.W.nsIn K mainGlobals "NoMove" = some (some (.ref C_NoMove)))
    (aE_NoText : PySem.W.nsIn K mainGlobals "NoText" = some (some (.ref C_NoText)))
    (aE_WayError : PySem.W.nsIn K mainGlobals "WayError" = some (some (.ref C_WayError)))
    (xE_NoNet : PySem.W.excIn K C_NoNet [.type "ValueError", .type "Exception", .type "BaseException", .type "object"] "ValueError.__new__" = true)
    (kE_NoNet : PySem.W.keepIn K (.ref C_NoNet) = true)
    (bE_NoNet : PySem.W.subIn K (.ref C_NoNet) (.type "BaseException") = some true)
    (tE_NoNet : PySem.W.typeIn K (.ref C_NoNet) = some (.type "type"))
    (gE_NoNet : PySem.W.findIn K (.ref C_NoNet) "__getattribute__" = some (some (.builtin "BaseException.__getattribute__")))
    (hE_NoNet : PySem.W.findIn K (.ref C_NoNet) "__getattr__" = some none)
    (dE_NoNet : PySem.W.hasDictIn K C_NoNet = true)
    (cE_NoNet : PySem.W.findIn K (.ref C_NoNet) "__class__" = some (some (.builtin "object.__class__")))
    (mE_NoNet : PySem.W.mroIn K C_NoNet (.type "object") = some true)
    (eN : PySem.W.specialIn K (.builtin "object.__class__") "__get__" = some (some (.builtin "getset_descriptor.__get__")))
    (eT : PySem.W.takesIn K (.builtin "object.__class__") = some true)
    (iE_NoNet : PySem.W.isClsIn K C_NoNet = true)
    (iE_NoBooks : PySem.W.isClsIn K C_NoBooks = true)
    (tE_NoBooks : PySem.W.typeIn K (.ref C_NoBooks) = some (.type "type"))
    (iE_NoDoor : PySem.W.isClsIn K C_NoDoor = true)
    (tE_NoDoor : PySem.W.typeIn K (.ref C_NoDoor) = some (.type "type"))
    (iE_NoAddress : PySem.W.isClsIn K C_NoAddress = true)
    (tE_NoAddress : PySem.W.typeIn K (.ref C_NoAddress) = some (.type "type"))
    (iE_NoSaying : PySem.W.isClsIn K C_NoSaying = true)
    (tE_NoSaying : PySem.W.typeIn K (.ref C_NoSaying) = some (.type "type"))
    (iE_NoRow : PySem.W.isClsIn K C_NoRow = true)
    (tE_NoRow : PySem.W.typeIn K (.ref C_NoRow) = some (.type "type"))
    (iE_NoPlan : PySem.W.isClsIn K C_NoPlan = true)
    (tE_NoPlan : PySem.W.typeIn K (.ref C_NoPlan) = some (.type "type"))
    (iE_NoMove : PySem.W.isClsIn K C_NoMove = true)
    (tE_NoMove : PySem.W.typeIn K (.ref C_NoMove) = some (.type "type"))
    (iE_NoText : PySem.W.isClsIn K C_NoText = true)
    (tE_NoText : PySem.W.typeIn K (.ref C_NoText) = some (.type "type"))
    (iE_WayError : PySem.W.isClsIn K C_WayError = true)
    (tE_WayError : PySem.W.typeIn K (.ref C_WayError) = some (.type "type"))
    (bE_WayError : PySem.W.subIn K (.ref C_WayError) (.type "BaseException") = some true)
    (dE_WayError : PySem.W.hasDictIn K C_WayError = true)
    (sE_NoNet_NoNet : PySem.W.subIn K (.ref C_NoNet) (.ref C_NoNet) = some true)
    (sE_NoNet_NoBooks : PySem.W.subIn K (.ref C_NoNet) (.ref C_NoBooks) = some false)
    (nE_NoNet_NoBooks : C_NoNet ≠ C_NoBooks)
    (sE_NoNet_NoDoor : PySem.W.subIn K (.ref C_NoNet) (.ref C_NoDoor) = some false)
    (nE_NoNet_NoDoor : C_NoNet ≠ C_NoDoor)
    (sE_NoNet_NoAddress : PySem.W.subIn K (.ref C_NoNet) (.ref C_NoAddress) = some false)
    (nE_NoNet_NoAddress : C_NoNet ≠ C_NoAddress)
    (sE_NoNet_NoSaying : PySem.W.subIn K (.ref C_NoNet) (.ref C_NoSaying) = some false)
    (nE_NoNet_NoSaying : C_NoNet ≠ C_NoSaying)
    (sE_NoNet_NoRow : PySem.W.subIn K (.ref C_NoNet) (.ref C_NoRow) = some false)
    (nE_NoNet_NoRow : C_NoNet ≠ C_NoRow)
    (sE_NoNet_NoPlan : PySem.W.subIn K (.ref C_NoNet) (.ref C_NoPlan) = some false)
    (nE_NoNet_NoPlan : C_NoNet ≠ C_NoPlan)
    (sE_NoNet_NoMove : PySem.W.subIn K (.ref C_NoNet) (.ref C_NoMove) = some false)
    (nE_NoNet_NoMove : C_NoNet ≠ C_NoMove)
    (sE_NoNet_NoText : PySem.W.subIn K (.ref C_NoNet) (.ref C_NoText) = some false)
    (nE_NoNet_NoText : C_NoNet ≠ C_NoText)
    (sE_NoNet_WayError : PySem.W.subIn K (.ref C_NoNet) (.ref C_WayError) = some true)
    (sE_NoNet_ValueError : PySem.W.subIn K (.ref C_NoNet) (.type "ValueError") = some true)
    (z_ValueError : PySem.W.nsIn K mainGlobals "ValueError" = some none)
    (a_Net___init : PySem.W.findIn K (.ref C_Net) "__init__" = some (some (.ref f_Net___init))) (i_Net___init : PySem.W.isFn K (.ref f_Net___init) = true) (l_Net___init : K.lookup f_Net___init = some ⟨oc_Net___init, od_Net___init, .func (PySem.W.fnOf "__init__" "Net.__init__" (defArgs s_Net___init) (defBody s_Net___init) (defScope s_Net___init) .none kv_Net___init dc_Net___init pm_Net___init an_Net___init cd_Net___init ct_Net___init), sl_Net___init⟩) (y_Net___init : PySem.W.codeIn K cd_Net___init "Net.__init__" = true) (k_Net___init : PySem.W.keepIn K (.ref f_Net___init) = true)
    (a_Net_count : PySem.W.findIn K (.ref C_Net) "count" = some (some (.ref f_Net_count))) (i_Net_count : PySem.W.isFn K (.ref f_Net_count) = true) (l_Net_count : K.lookup f_Net_count = some ⟨oc_Net_count, od_Net_count, .func (PySem.W.fnOf "count" "Net.count" (defArgs s_Net_count) (defBody s_Net_count) (defScope s_Net_count) .none kv_Net_count dc_Net_count pm_Net_count an_Net_count cd_Net_count ct_Net_count), sl_Net_count⟩) (y_Net_count : PySem.W.codeIn K cd_Net_count "Net.count" = true) (k_Net_count : PySem.W.keepIn K (.ref f_Net_count) = true)
    (a_Net_wires : PySem.W.findIn K (.ref C_Net) "wires" = some (some (.ref f_Net_wires))) (i_Net_wires : PySem.W.isFn K (.ref f_Net_wires) = true) (l_Net_wires : K.lookup f_Net_wires = some ⟨oc_Net_wires, od_Net_wires, .func (PySem.W.fnOf "wires" "Net.wires" (defArgs s_Net_wires) (defBody s_Net_wires) (defScope s_Net_wires) .none kv_Net_wires dc_Net_wires pm_Net_wires an_Net_wires cd_Net_wires ct_Net_wires), sl_Net_wires⟩) (y_Net_wires : PySem.W.codeIn K cd_Net_wires "Net.wires" = true) (k_Net_wires : PySem.W.keepIn K (.ref f_Net_wires) = true)
    (a_Net_beyond : PySem.W.findIn K (.ref C_Net) "beyond" = some (some (.ref f_Net_beyond))) (i_Net_beyond : PySem.W.isFn K (.ref f_Net_beyond) = true) (l_Net_beyond : K.lookup f_Net_beyond = some ⟨oc_Net_beyond, od_Net_beyond, .func (PySem.W.fnOf "beyond" "Net.beyond" (defArgs s_Net_beyond) (defBody s_Net_beyond) (defScope s_Net_beyond) .none kv_Net_beyond dc_Net_beyond pm_Net_beyond an_Net_beyond cd_Net_beyond ct_Net_beyond), sl_Net_beyond⟩) (y_Net_beyond : PySem.W.codeIn K cd_Net_beyond "Net.beyond" = true) (k_Net_beyond : PySem.W.keepIn K (.ref f_Net_beyond) = true)
    (a_Net_outer : PySem.W.findIn K (.ref C_Net) "outer" = some (some (.ref f_Net_outer))) (i_Net_outer : PySem.W.isFn K (.ref f_Net_outer) = true) (l_Net_outer : K.lookup f_Net_outer = some ⟨oc_Net_outer, od_Net_outer, .func (PySem.W.fnOf "outer" "Net.outer" (defArgs s_Net_outer) (defBody s_Net_outer) (defScope s_Net_outer) .none kv_Net_outer dc_Net_outer pm_Net_outer an_Net_outer cd_Net_outer ct_Net_outer), sl_Net_outer⟩) (y_Net_outer : PySem.W.codeIn K cd_Net_outer "Net.outer" = true) (k_Net_outer : PySem.W.keepIn K (.ref f_Net_outer) = true)
    (a_Net_is_door : PySem.W.findIn K (.ref C_Net) "is_door" = some (some (.ref f_Net_is_door))) (i_Net_is_door : PySem.W.isFn K (.ref f_Net_is_door) = true) (l_Net_is_door : K.lookup f_Net_is_door = some ⟨oc_Net_is_door, od_Net_is_door, .func (PySem.W.fnOf "is_door" "Net.is_door" (defArgs s_Net_is_door) (defBody s_Net_is_door) (defScope s_Net_is_door) .none kv_Net_is_door dc_Net_is_door pm_Net_is_door an_Net_is_door cd_Net_is_door ct_Net_is_door), sl_Net_is_door⟩) (y_Net_is_door : PySem.W.codeIn K cd_Net_is_door "Net.is_door" = true) (k_Net_is_door : PySem.W.keepIn K (.ref f_Net_is_door) = true)
    (a_Net_is_outer : PySem.W.findIn K (.ref C_Net) "is_outer" = some (some (.ref f_Net_is_outer))) (i_Net_is_outer : PySem.W.isFn K (.ref f_Net_is_outer) = true) (l_Net_is_outer : K.lookup f_Net_is_outer = some ⟨oc_Net_is_outer, od_Net_is_outer, .func (PySem.W.fnOf "is_outer" "Net.is_outer" (defArgs s_Net_is_outer) (defBody s_Net_is_outer) (defScope s_Net_is_outer) .none kv_Net_is_outer dc_Net_is_outer pm_Net_is_outer an_Net_is_outer cd_Net_is_outer ct_Net_is_outer), sl_Net_is_outer⟩) (y_Net_is_outer : PySem.W.codeIn K cd_Net_is_outer "Net.is_outer" = true) (k_Net_is_outer : PySem.W.keepIn K (.ref f_Net_is_outer) = true)
    (v_MOST_HOUSES : PySem.W.nsIn K mainGlobals "MOST_HOUSES" = some (some (.int 6 t_MOST_HOUSES)))
    (v_MOST_DOORS : PySem.W.nsIn K mainGlobals "MOST_DOORS" = some (some (.int 4 t_MOST_DOORS)))
    (z_len : PySem.W.nsIn K mainGlobals "len" = some none)
    (z_int : PySem.W.nsIn K mainGlobals "int" = some none)
    (z_str : PySem.W.nsIn K mainGlobals "str" = some none)
    (z_list : PySem.W.nsIn K mainGlobals "list" = some none)
    (z_tuple : PySem.W.nsIn K mainGlobals "tuple" = some none)
    (z_abs : PySem.W.nsIn K mainGlobals "abs" = some none)
    (z_all : PySem.W.nsIn K mainGlobals "all" = some none)
    (z_any : PySem.W.nsIn K mainGlobals "any" = some none)
    (z_sorted : PySem.W.nsIn K mainGlobals "sorted" = some none)
    (z_sum : PySem.W.nsIn K mainGlobals "sum" = some none)
    (z_max : PySem.W.nsIn K mainGlobals "max" = some none)
    (z_min : PySem.W.nsIn K mainGlobals "min" = some none)
    (z_range : PySem.W.nsIn K mainGlobals "range" = some none)
    (z_set : PySem.W.nsIn K mainGlobals "set" = some none)
    (z_isinstance : PySem.W.nsIn K mainGlobals "isinstance" = some none)
    (z_bool : PySem.W.nsIn K mainGlobals "bool" = some none)
    (z_dict : PySem.W.nsIn K mainGlobals "dict" = some none)
    (z_enumerate : PySem.W.nsIn K mainGlobals "enumerate" = some none)
    (z_zip : PySem.W.nsIn K mainGlobals "zip" = some none)
    (plain : ∀ ns : List Int, ns.length ≤ 63 → ∃ st, callF tab 60 g_law_81 [.rol ns] [] = .ok (.bl true) st) :
    ∃ fd : FuncData, (∀ (s : Shared) (v : Value), BindsTo s fd ⟨[v], []⟩ [("script", v)]) ∧ ∀ base : Heap, K.In base → base.Ns mainGlobals mg → FnOk l.prog w K mg base (L2.CX l.prog w) 61 fa fd ["script"] (spLaw K) := by
  have e := hfa.symm.trans (PySem.W.mg_of X G a_law_81)
  cases e
  refine ⟨PySem.W.fnOf "law" "law" (defArgs s_law_81) (defBody s_law_81) (defScope s_law_81) .none kv_law_81 dc_law_81 pm_law_81 an_law_81 cd_law_81 ct_law_81, fun s v => .of_eq rfl, fun base _ _ => ?_⟩
  let g : L3.G := { P := l.prog, w := w, K := K, mg := mg, base := base, T := tab, clsA := fun c => (match c with | 10 => C_Net | 1 => C_NoNet | 2 => C_NoBooks | 3 => C_NoDoor | 4 => C_NoAddress | 5 => C_NoSaying | 6 => C_NoRow | 7 => C_NoPlan | 8 => C_NoMove | 9 => C_NoText | 11 => C_WayError | _ => 0), nm := nmF, nmInj := nmInj }
  have F_is_whole := fun_mk (st := s_is_whole) l_is_whole y_is_whole k_is_whole
  have D_is_whole : DF g m0 g_is_whole f_is_whole _ ["thing"] := ⟨⟨_, _, s_is_whole, _, c_is_whole, F_is_whole, sc_is_whole, rfl, ma_is_whole⟩, F_is_whole.binds (ps := ["thing"]) fun _ _ _ _ _ _ us hl => match us, hl with | [_], _ => rfl⟩
  have F_are_counts := fun_mk (st := s_are_counts) l_are_counts y_are_counts k_are_counts
  have D_are_counts : DF g m0 g_are_counts f_are_counts _ ["thing"] := ⟨⟨_, _, s_are_counts, _, c_are_counts, F_are_counts, sc_are_counts, rfl, ma_are_counts⟩, F_are_counts.binds (ps := ["thing"]) fun _ _ _ _ _ _ us hl => match us, hl with | [_], _ => rfl⟩
  have F_is_door_of := fun_mk (st := s_is_door_of) l_is_door_of y_is_door_of k_is_door_of
  have D_is_door_of : DF g m0 g_is_door_of f_is_door_of _ ["thing", "counts"] := ⟨⟨_, _, s_is_door_of, _, c_is_door_of, F_is_door_of, sc_is_door_of, rfl, ma_is_door_of⟩, F_is_door_of.binds (ps := ["thing", "counts"]) fun _ _ _ _ _ _ us hl => match us, hl with | [_, _], _ => rfl⟩
  have F_are_wires := fun_mk (st := s_are_wires) l_are_wires y_are_wires k_are_wires
  have D_are_wires : DF g m0 g_are_wires f_are_wires _ ["thing", "counts"] := ⟨⟨_, _, s_are_wires, _, c_are_wires, F_are_wires, sc_are_wires, rfl, ma_are_wires⟩, F_are_wires.binds (ps := ["thing", "counts"]) fun _ _ _ _ _ _ us hl => match us, hl with | [_, _], _ => rfl⟩
  have F_law_cell_at := fun_mk (st := s_law_cell_at) l_law_cell_at y_law_cell_at k_law_cell_at
  have D_law_cell_at : DF g m0 g_law_cell_at f_law_cell_at _ ["script", "k"] := ⟨⟨_, _, s_law_cell_at, _, c_law_cell_at, F_law_cell_at, sc_law_cell_at, rfl, ma_law_cell_at⟩, F_law_cell_at.binds (ps := ["script", "k"]) fun _ _ _ _ _ _ us hl => match us, hl with | [_, _], _ => rfl⟩
  have F_law_mix := fun_mk (st := s_law_mix) l_law_mix y_law_mix k_law_mix
  have D_law_mix : DF g m0 g_law_mix f_law_mix _ ["cell", "k"] := ⟨⟨_, _, s_law_mix, _, c_law_mix, F_law_mix, sc_law_mix, rfl, ma_law_mix⟩, F_law_mix.binds (ps := ["cell", "k"]) fun _ _ _ _ _ _ us hl => match us, hl with | [_, _], _ => rfl⟩
  have F_law_counts := fun_mk (st := s_law_counts) l_law_counts y_law_counts k_law_counts
  have D_law_counts : DF g m0 g_law_counts f_law_counts _ ["script"] := ⟨⟨_, _, s_law_counts, _, c_law_counts, F_law_counts, sc_law_counts, rfl, ma_law_counts⟩, F_law_counts.binds (ps := ["script"]) fun _ _ _ _ _ _ us hl => match us, hl with | [_], _ => rfl⟩
  have F_law_doors := fun_mk (st := s_law_doors) l_law_doors y_law_doors k_law_doors
  have D_law_doors : DF g m0 g_law_doors f_law_doors _ ["counts"] := ⟨⟨_, _, s_law_doors, _, c_law_doors, F_law_doors, sc_law_doors, rfl, ma_law_doors⟩, F_law_doors.binds (ps := ["counts"]) fun _ _ _ _ _ _ us hl => match us, hl with | [_], _ => rfl⟩
  have F_law_wires := fun_mk (st := s_law_wires) l_law_wires y_law_wires k_law_wires
  have D_law_wires : DF g m0 g_law_wires f_law_wires _ ["script", "counts"] := ⟨⟨_, _, s_law_wires, _, c_law_wires, F_law_wires, sc_law_wires, rfl, ma_law_wires⟩, F_law_wires.binds (ps := ["script", "counts"]) fun _ _ _ _ _ _ us hl => match us, hl with | [_, _], _ => rfl⟩
  have F_law_names_3 := fun_mk (st := s_law_names_3) l_law_names_3 y_law_names_3 k_law_names_3
  have D_law_names_3 : DF g m0 g_law_names_3 f_law_names_3 _ ["e"] := ⟨⟨_, _, s_law_names_3, _, c_law_names_3, F_law_names_3, sc_law_names_3, rfl, ma_law_names_3⟩, F_law_names_3.binds (ps := ["e"]) fun _ _ _ _ _ _ us hl => match us, hl with | [_], _ => rfl⟩
  have F_law_refused_7 := fun_mk (st := s_law_refused_7) l_law_refused_7 y_law_refused_7 k_law_refused_7
  have D_law_refused_7 : DF g m0 g_law_refused_7 f_law_refused_7 _ ["counts", "wires"] := ⟨⟨_, _, s_law_refused_7, _, c_law_refused_7, F_law_refused_7, sc_law_refused_7, rfl, ma_law_refused_7⟩, F_law_refused_7.binds (ps := ["counts", "wires"]) fun _ _ _ _ _ _ us hl => match us, hl with | [_, _], _ => rfl⟩
  have F_law_bad_wires := fun_mk (st := s_law_bad_wires) l_law_bad_wires y_law_bad_wires k_law_bad_wires
  have D_law_bad_wires : DF g m0 g_law_bad_wires f_law_bad_wires _ ["counts", "wires", "number"] := ⟨⟨_, _, s_law_bad_wires, _, c_law_bad_wires, F_law_bad_wires, sc_law_bad_wires, rfl, ma_law_bad_wires⟩, F_law_bad_wires.binds (ps := ["counts", "wires", "number"]) fun _ _ _ _ _ _ us hl => match us, hl with | [_, _, _], _ => rfl⟩
  have F_law_bad_counts := fun_mk (st := s_law_bad_counts) l_law_bad_counts y_law_bad_counts k_law_bad_counts
  have D_law_bad_counts : DF g m0 g_law_bad_counts f_law_bad_counts _ ["counts", "number"] := ⟨⟨_, _, s_law_bad_counts, _, c_law_bad_counts, F_law_bad_counts, sc_law_bad_counts, rfl, ma_law_bad_counts⟩, F_law_bad_counts.binds (ps := ["counts", "number"]) fun _ _ _ _ _ _ us hl => match us, hl with | [_, _], _ => rfl⟩
  have F_law_truth := fun_mk (st := s_law_truth) l_law_truth y_law_truth k_law_truth
  have D_law_truth : DF g m0 g_law_truth f_law_truth _ ["found", "due"] := ⟨⟨_, _, s_law_truth, _, c_law_truth, F_law_truth, sc_law_truth, rfl, ma_law_truth⟩, F_law_truth.binds (ps := ["found", "due"]) fun _ _ _ _ _ _ us hl => match us, hl with | [_, _], _ => rfl⟩
  have F_law_doors_right := fun_mk (st := s_law_doors_right) l_law_doors_right y_law_doors_right k_law_doors_right
  have D_law_doors_right : DF g m0 g_law_doors_right f_law_doors_right _ ["net", "counts", "far", "doors", "in_wires"] := ⟨⟨_, _, s_law_doors_right, _, c_law_doors_right, F_law_doors_right, sc_law_doors_right, rfl, ma_law_doors_right⟩, F_law_doors_right.binds (ps := ["net", "counts", "far", "doors", "in_wires"]) fun _ _ _ _ _ _ us hl => match us, hl with | [_, _, _, _, _], _ => rfl⟩
  have F_law_right_11 := fun_mk (st := s_law_right_11) l_law_right_11 y_law_right_11 k_law_right_11
  have D_law_right_11 : DF g m0 g_law_right_11 f_law_right_11 _ ["net", "counts", "wires", "far"] := ⟨⟨_, _, s_law_right_11, _, c_law_right_11, F_law_right_11, sc_law_right_11, rfl, ma_law_right_11⟩, F_law_right_11.binds (ps := ["net", "counts", "wires", "far"]) fun _ _ _ _ _ _ us hl => match us, hl with | [_, _, _, _], _ => rfl⟩
  have F_law_81 := fun_mk (st := s_law_81) l_law_81 y_law_81 k_law_81
  have D_law_81 : DF g m0 g_law_81 fa _ ["script"] := ⟨⟨_, _, s_law_81, _, c_law_81, F_law_81, sc_law_81, rfl, ma_law_81⟩, F_law_81.binds (ps := ["script"]) fun _ _ _ _ _ _ us hl => match us, hl with | [_], _ => rfl⟩
  have F_Net___init := fun_mk (st := s_Net___init) l_Net___init y_Net___init k_Net___init
  have D_Net___init : DF g m0 g_Net___init f_Net___init _ ["self", "counts", "wires"] := ⟨⟨_, _, s_Net___init, _, c_Net___init, F_Net___init, sc_Net___init, rfl, ma_Net___init⟩, F_Net___init.binds (ps := ["self", "counts", "wires"]) fun _ _ _ _ _ _ us hl => match us, hl with | [_, _, _], _ => rfl⟩
  have F_Net_count := fun_mk (st := s_Net_count) l_Net_count y_Net_count k_Net_count
  have D_Net_count : DF g m0 g_Net_count f_Net_count _ ["self", "house"] := ⟨⟨_, _, s_Net_count, _, c_Net_count, F_Net_count, sc_Net_count, rfl, ma_Net_count⟩, F_Net_count.binds (ps := ["self", "house"]) fun _ _ _ _ _ _ us hl => match us, hl with | [_, _], _ => rfl⟩
  have F_Net_wires := fun_mk (st := s_Net_wires) l_Net_wires y_Net_wires k_Net_wires
  have D_Net_wires : DF g m0 g_Net_wires f_Net_wires _ ["self"] := ⟨⟨_, _, s_Net_wires, _, c_Net_wires, F_Net_wires, sc_Net_wires, rfl, ma_Net_wires⟩, F_Net_wires.binds (ps := ["self"]) fun _ _ _ _ _ _ us hl => match us, hl with | [_], _ => rfl⟩
  have F_Net_beyond := fun_mk (st := s_Net_beyond) l_Net_beyond y_Net_beyond k_Net_beyond
  have D_Net_beyond : DF g m0 g_Net_beyond f_Net_beyond _ ["self", "door"] := ⟨⟨_, _, s_Net_beyond, _, c_Net_beyond, F_Net_beyond, sc_Net_beyond, rfl, ma_Net_beyond⟩, F_Net_beyond.binds (ps := ["self", "door"]) fun _ _ _ _ _ _ us hl => match us, hl with | [_, _], _ => rfl⟩
  have F_Net_outer := fun_mk (st := s_Net_outer) l_Net_outer y_Net_outer k_Net_outer
  have D_Net_outer : DF g m0 g_Net_outer f_Net_outer _ ["self"] := ⟨⟨_, _, s_Net_outer, _, c_Net_outer, F_Net_outer, sc_Net_outer, rfl, ma_Net_outer⟩, F_Net_outer.binds (ps := ["self"]) fun _ _ _ _ _ _ us hl => match us, hl with | [_], _ => rfl⟩
  have F_Net_is_door := fun_mk (st := s_Net_is_door) l_Net_is_door y_Net_is_door k_Net_is_door
  have D_Net_is_door : DF g m0 g_Net_is_door f_Net_is_door _ ["self", "thing"] := ⟨⟨_, _, s_Net_is_door, _, c_Net_is_door, F_Net_is_door, sc_Net_is_door, rfl, ma_Net_is_door⟩, F_Net_is_door.binds (ps := ["self", "thing"]) fun _ _ _ _ _ _ us hl => match us, hl with | [_, _], _ => rfl⟩
  have F_Net_is_outer := fun_mk (st := s_Net_is_outer) l_Net_is_outer y_Net_is_outer k_Net_is_outer
  have D_Net_is_outer : DF g m0 g_Net_is_outer f_Net_is_outer _ ["self", "thing"] := ⟨⟨_, _, s_Net_is_outer, _, c_Net_is_outer, F_Net_is_outer, sc_Net_is_outer, rfl, ma_Net_is_outer⟩, F_Net_is_outer.binds (ps := ["self", "thing"]) fun _ _ _ _ _ _ us hl => match us, hl with | [_, _], _ => rfl⟩
  have Fa : Facts g m0 := {
    nm := rfl, nms := ⟨rfl, rfl, rfl, rfl, rfl, rfl, rfl, rfl, rfl, rfl, rfl, rfl⟩,
    bn := List.forall_mem_cons.mpr ⟨PySem.W.mg_none_of X G z_len, List.forall_mem_cons.mpr ⟨PySem.W.mg_none_of X G z_int, List.forall_mem_cons.mpr ⟨PySem.W.mg_none_of X G z_str, List.forall_mem_cons.mpr ⟨PySem.W.mg_none_of X G z_list, List.forall_mem_cons.mpr ⟨PySem.W.mg_none_of X G z_tuple, List.forall_mem_cons.mpr ⟨PySem.W.mg_none_of X G z_abs, List.forall_mem_cons.mpr ⟨PySem.W.mg_none_of X G z_all, List.forall_mem_cons.mpr ⟨PySem.W.mg_none_of X G z_any, List.forall_mem_cons.mpr ⟨PySem.W.mg_none_of X G z_sorted, List.forall_mem_cons.mpr ⟨PySem.W.mg_none_of X G z_sum, List.forall_mem_cons.mpr ⟨PySem.W.mg_none_of X G z_max, List.forall_mem_cons.mpr ⟨PySem.W.mg_none_of X G z_min, List.forall_mem_cons.mpr ⟨PySem.W.mg_none_of X G z_range, List.forall_mem_cons.mpr ⟨PySem.W.mg_none_of X G z_set, List.forall_mem_cons.mpr ⟨PySem.W.mg_none_of X G z_isinstance, List.forall_mem_cons.mpr ⟨PySem.W.mg_none_of X G z_bool, List.forall_mem_cons.mpr ⟨PySem.W.mg_none_of X G z_dict, List.forall_mem_cons.mpr ⟨PySem.W.mg_none_of X G z_enumerate, List.forall_mem_cons.mpr ⟨PySem.W.mg_none_of X G z_zip, fun _ z => (nomatch z)⟩⟩⟩⟩⟩⟩⟩⟩⟩⟩⟩⟩⟩⟩⟩⟩⟩⟩⟩,
    kon := List.forall_mem_cons.mpr ⟨⟨_, .int 6, PySem.W.mg_of X G v_MOST_HOUSES, rfl, t_MOST_HOUSES, rfl⟩, List.forall_mem_cons.mpr ⟨⟨_, .int 4, PySem.W.mg_of X G v_MOST_DOORS, rfl, t_MOST_DOORS, rfl⟩, fun _ z => (nomatch z)⟩⟩,
    dfs := List.forall_mem_cons.mpr ⟨⟨f_is_whole, _, _, PySem.W.mg_of X G a_is_whole, k_is_whole, D_is_whole⟩, List.forall_mem_cons.mpr ⟨⟨f_are_counts, _, _, PySem.W.mg_of X G a_are_counts, k_are_counts, D_are_counts⟩, List.forall_mem_cons.mpr ⟨⟨f_is_door_of, _, _, PySem.W.mg_of X G a_is_door_of, k_is_door_of, D_is_door_of⟩, List.forall_mem_cons.mpr ⟨⟨f_are_wires, _, _, PySem.W.mg_of X G a_are_wires, k_are_wires, D_are_wires⟩, List.forall_mem_cons.mpr ⟨⟨f_law_cell_at, _, _, PySem.W.mg_of X G a_law_cell_at, k_law_cell_at, D_law_cell_at⟩, List.forall_mem_cons.mpr ⟨⟨f_law_mix, _, _, PySem.W.mg_of X G a_law_mix, k_law_mix, D_law_mix⟩, List.forall_mem_cons.mpr ⟨⟨f_law_counts, _, _, PySem.W.mg_of X G a_law_counts, k_law_counts, D_law_counts⟩, List.forall_mem_cons.mpr ⟨⟨f_law_doors, _, _, PySem.W.mg_of X G a_law_doors, k_law_doors, D_law_doors⟩, List.forall_mem_cons.mpr ⟨⟨f_law_wires, _, _, PySem.W.mg_of X G a_law_wires, k_law_wires, D_law_wires⟩, List.forall_mem_cons.mpr ⟨⟨f_law_names_3, _, _, PySem.W.mg_of X G a_law_names_3, k_law_names_3, D_law_names_3⟩, List.forall_mem_cons.mpr ⟨⟨f_law_refused_7, _, _, PySem.W.mg_of X G a_law_refused_7, k_law_refused_7, D_law_refused_7⟩, List.forall_mem_cons.mpr ⟨⟨f_law_bad_wires, _, _, PySem.W.mg_of X G a_law_bad_wires, k_law_bad_wires, D_law_bad_wires⟩, List.forall_mem_cons.mpr ⟨⟨f_law_bad_counts, _, _, PySem.W.mg_of X G a_law_bad_counts, k_law_bad_counts, D_law_bad_counts⟩, List.forall_mem_cons.mpr ⟨⟨f_law_truth, _, _, PySem.W.mg_of X G a_law_truth, k_law_truth, D_law_truth⟩, List.forall_mem_cons.mpr ⟨⟨f_law_doors_right, _, _, PySem.W.mg_of X G a_law_doors_right, k_law_doors_right, D_law_doors_right⟩, List.forall_mem_cons.mpr ⟨⟨f_law_right_11, _, _, PySem.W.mg_of X G a_law_right_11, k_law_right_11, D_law_right_11⟩, List.forall_mem_cons.mpr ⟨⟨fa, _, _, PySem.W.mg_of X G a_law_81, k_law_81, D_law_81⟩, fun _ z => (nomatch z)⟩⟩⟩⟩⟩⟩⟩⟩⟩⟩⟩⟩⟩⟩⟩⟩⟩,
    cls := List.forall_mem_cons.mpr ⟨⟨g_Net___init, f_Net___init, _, _, rfl, PySem.W.mg_of X G aC_Net, ⟨mk_Net, a_Net___init, i_Net___init, kc_Net⟩, D_Net___init⟩, fun _ z => (nomatch z)⟩,
    ecl := List.forall_mem_cons.mpr ⟨(by unfold EclOk; rw [if_neg (by decide)]; exact PySem.W.mg_of X G aE_NoNet), List.forall_mem_cons.mpr ⟨(by unfold EclOk; rw [if_neg (by decide)]; exact PySem.W.mg_of X G aE_NoBooks), List.forall_mem_cons.mpr ⟨(by unfold EclOk; rw [if_neg (by decide)]; exact PySem.W.mg_of X G aE_NoDoor), List.forall_mem_cons.mpr ⟨(by unfold EclOk; rw [if_neg (by decide)]; exact PySem.W.mg_of X G aE_NoAddress), List.forall_mem_cons.mpr ⟨(by unfold EclOk; rw [if_neg (by decide)]; exact PySem.W.mg_of X G aE_NoSaying), List.forall_mem_cons.mpr ⟨(by unfold EclOk; rw [if_neg (by decide)]; exact PySem.W.mg_of X G aE_NoRow), List.forall_mem_cons.mpr ⟨(by unfold EclOk; rw [if_neg (by decide)]; exact PySem.W.mg_of X G aE_NoPlan), List.forall_mem_cons.mpr ⟨(by unfold EclOk; rw [if_neg (by decide)]; exact PySem.W.mg_of X G aE_NoMove), List.forall_mem_cons.mpr ⟨(by unfold EclOk; rw [if_neg (by decide)]; exact PySem.W.mg_of X G aE_NoText), List.forall_mem_cons.mpr ⟨(by unfold EclOk; rw [if_neg (by decide)]; exact PySem.W.mg_of X G aE_WayError), List.forall_mem_cons.mpr ⟨(by unfold EclOk; rw [if_pos rfl]; exact ⟨rfl, PySem.W.mg_none_of X G z_ValueError⟩), fun _ z => (nomatch z)⟩⟩⟩⟩⟩⟩⟩⟩⟩⟩⟩,
    exr := List.forall_mem_cons.mpr ⟨{ ex := xE_NoNet, kp := kE_NoNet, sb := bE_NoNet, ty := tE_NoNet, ne := by decide }, fun _ z => (nomatch z)⟩,
    sub := fun c d b z => by
      have z : tsub c d = some b := z
      unfold tsub at z
      split at z
      · cases z; exact { ec := ⟨gE_NoNet, hE_NoNet, bE_NoNet, dE_NoNet, cE_NoNet, eN, eT, mE_NoNet⟩, kt := (by unfold clsV; rw [if_neg (by decide)]; exact kit_sub iE_NoNet tE_NoNet sE_NoNet_NoNet (.inl rfl)), em := fun z9 n9 => (PySem.W.exm_ref bE_NoNet dE_NoNet tE_NoNet sE_NoNet_NoNet) }
      · cases z; exact { ec := ⟨gE_NoNet, hE_NoNet, bE_NoNet, dE_NoNet, cE_NoNet, eN, eT, mE_NoNet⟩, kt := (by unfold clsV; rw [if_neg (by decide)]; exact kit_sub iE_NoBooks tE_NoBooks sE_NoNet_NoBooks (.inr nE_NoNet_NoBooks)), em := fun z9 n9 => (by cases z9) }
      · cases z; exact { ec := ⟨gE_NoNet, hE_NoNet, bE_NoNet, dE_NoNet, cE_NoNet, eN, eT, mE_NoNet⟩, kt := (by unfold clsV; rw [if_neg (by decide)]; exact kit_sub iE_NoDoor tE_NoDoor sE_NoNet_NoDoor (.inr nE_NoNet_NoDoor)), em := fun z9 n9 => (by cases z9) }
      · cases z; exact { ec := ⟨gE_NoNet, hE_NoNet, bE_NoNet, dE_NoNet, cE_NoNet, eN, eT, mE_NoNet⟩, kt := (by unfold clsV; rw [if_neg (by decide)]; exact kit_sub iE_NoAddress tE_NoAddress sE_NoNet_NoAddress (.inr nE_NoNet_NoAddress)), em := fun z9 n9 => (by cases z9) }
      · cases z; exact { ec := ⟨gE_NoNet, hE_NoNet, bE_NoNet, dE_NoNet, cE_NoNet, eN, eT, mE_NoNet⟩, kt := (by unfold clsV; rw [if_neg (by decide)]; exact kit_sub iE_NoSaying tE_NoSaying sE_NoNet_NoSaying (.inr nE_NoNet_NoSaying)), em := fun z9 n9 => (by cases z9) }
      · cases z; exact { ec := ⟨gE_NoNet, hE_NoNet, bE_NoNet, dE_NoNet, cE_NoNet, eN, eT, mE_NoNet⟩, kt := (by unfold clsV; rw [if_neg (by decide)]; exact kit_sub iE_NoRow tE_NoRow sE_NoNet_NoRow (.inr nE_NoNet_NoRow)), em := fun z9 n9 => (by cases z9) }
      · cases z; exact { ec := ⟨gE_NoNet, hE_NoNet, bE_NoNet, dE_NoNet, cE_NoNet, eN, eT, mE_NoNet⟩, kt := (by unfold clsV; rw [if_neg (by decide)]; exact kit_sub iE_NoPlan tE_NoPlan sE_NoNet_NoPlan (.inr nE_NoNet_NoPlan)), em := fun z9 n9 => (by cases z9) }
      · cases z; exact { ec := ⟨gE_NoNet, hE_NoNet, bE_NoNet, dE_NoNet, cE_NoNet, eN, eT, mE_NoNet⟩, kt := (by unfold clsV; rw [if_neg (by decide)]; exact kit_sub iE_NoMove tE_NoMove sE_NoNet_NoMove (.inr nE_NoNet_NoMove)), em := fun z9 n9 => (by cases z9) }
      · cases z; exact { ec := ⟨gE_NoNet, hE_NoNet, bE_NoNet, dE_NoNet, cE_NoNet, eN, eT, mE_NoNet⟩, kt := (by unfold clsV; rw [if_neg (by decide)]; exact kit_sub iE_NoText tE_NoText sE_NoNet_NoText (.inr nE_NoNet_NoText)), em := fun z9 n9 => (by cases z9) }
      · cases z; exact { ec := ⟨gE_NoNet, hE_NoNet, bE_NoNet, dE_NoNet, cE_NoNet, eN, eT, mE_NoNet⟩, kt := (by unfold clsV; rw [if_neg (by decide)]; exact kit_sub iE_WayError tE_WayError sE_NoNet_WayError (.inl rfl)), em := fun z9 n9 => (PySem.W.exm_ref bE_WayError dE_WayError tE_WayError sE_NoNet_WayError) }
      · cases z; exact { ec := ⟨gE_NoNet, hE_NoNet, bE_NoNet, dE_NoNet, cE_NoNet, eN, eT, mE_NoNet⟩, kt := (by unfold clsV; rw [if_pos rfl]; exact kit_ve sE_NoNet_ValueError), em := fun z9 n9 => (absurd rfl n9) }
      · cases z
    mts := fun c k d z => by
      have z : tmt c k = some d := z
      unfold tmt at z
      split at z
      · cases z; exact ⟨f_Net_count, _, _, ⟨pg_Net, hd_Net, po_Net, sa_Net⟩, ⟨a_Net_count, i_Net_count, k_Net_count⟩, D_Net_count⟩
      · cases z; exact ⟨f_Net_wires, _, _, ⟨pg_Net, hd_Net, po_Net, sa_Net⟩, ⟨a_Net_wires, i_Net_wires, k_Net_wires⟩, D_Net_wires⟩
      · cases z; exact ⟨f_Net_beyond, _, _, ⟨pg_Net, hd_Net, po_Net, sa_Net⟩, ⟨a_Net_beyond, i_Net_beyond, k_Net_beyond⟩, D_Net_beyond⟩
      · cases z; exact ⟨f_Net_outer, _, _, ⟨pg_Net, hd_Net, po_Net, sa_Net⟩, ⟨a_Net_outer, i_Net_outer, k_Net_outer⟩, D_Net_outer⟩
      · cases z; exact ⟨f_Net_is_door, _, _, ⟨pg_Net, hd_Net, po_Net, sa_Net⟩, ⟨a_Net_is_door, i_Net_is_door, k_Net_is_door⟩, D_Net_is_door⟩
      · cases z; exact ⟨f_Net_is_outer, _, _, ⟨pg_Net, hd_Net, po_Net, sa_Net⟩, ⟨a_Net_is_outer, i_Net_is_outer, k_Net_is_outer⟩, D_Net_is_outer⟩
      · cases z
    fls := fun c f z => by
      have z : tfl c f = true := z
      unfold tfl at z
      split at z
      · exact ⟨⟨pg_Net, hd_Net, po_Net, sa_Net⟩, n_Net_joins⟩
      · exact ⟨⟨pg_Net, hd_Net, po_Net, sa_Net⟩, n_Net_many⟩
      · exact ⟨⟨pg_Net, hd_Net, po_Net, sa_Net⟩, n_Net_other⟩
      · exact ⟨⟨pg_Net, hd_Net, po_Net, sa_Net⟩, n_Net_sizes⟩
      · cases z }
  exact law_ok Fa D_law_81 60 plain
end L3

/-! LGen: words of all laws over nets. -/
namespace L3
open PySem L2
/-- the whole numbers below -/
def upto (n : Int) : List Int := (List.range n.toNat).map fun k : Nat => (k : Int)
theorem mem_upto {n x : Int} : x ∈ upto n ↔ 0 ≤ x ∧ x < n := by
  unfold upto
  rw [List.mem_map]
  constructor
  · rintro ⟨k, hk, rfl⟩
    have := List.mem_range.mp hk
    omega
  · intro ⟨h1, h2⟩
    exact ⟨x.toNat, List.mem_range.mpr (by omega), by omega⟩
theorem upto_len (n : Int) : (upto n).length = n.toNat := by unfold upto; simp
/-- all doors of the first houses -/
def doorsUpto (cs : List Int) : Nat → List Door
  | 0 => []
  | k + 1 => doorsUpto cs k ++ (upto (cs.getD k 0)).map fun n => ((k : Int), n)
def allD (cs : List Int) : List Door := doorsUpto cs cs.length
def endsOf (ws : List Wire) : List Door := ws.flatMap fun w => [w.1, w.2]
structure NetOk (most : Int) (cs : List Int) (ws : List Wire) : Prop where
  len1 : 1 ≤ cs.length
  len2 : (cs.length : Int) ≤ most
  cnt : ∀ c ∈ cs, 1 ≤ c ∧ c ≤ 4
  wl : ws.length ≤ 12
  outer : ∃ ds, ds ≠ [] ∧ (ds ++ endsOf ws).Perm (allD cs)
theorem doorsUpto_len {cs : List Int} (h : ∀ c ∈ cs, 1 ≤ c ∧ c ≤ 4) : ∀ k, k ≤ cs.length → (doorsUpto cs k).length ≤ 4 * k ∧ k ≤ (doorsUpto cs k).length
  | 0, _ => by simp [doorsUpto]
  | k + 1, hk => by
    have ih := doorsUpto_len h k (by omega)
    have e : cs[k]? = some cs[k] := List.getElem?_eq_getElem (by omega)
    have e2 : cs.getD k 0 = cs[k] := by rw [List.getD_eq_getElem?_getD, e]; rfl
    have := h _ (List.getElem_mem (show k < cs.length by omega))
    rw [doorsUpto, List.length_append, List.length_map, upto_len, e2]
    omega
theorem perm_pop {α : Type} : ∀ {xs : List α} {i : Nat} {x : α}, xs[i]? = some x → (x :: xs.eraseIdx i).Perm xs
  | [], _, _, h => by cases h
  | y :: xs, 0, x, h => by
    have h : some y = some x := h
    cases h
    exact List.Perm.refl _
  | y :: xs, i + 1, x, h => by
    have ih := perm_pop (xs := xs) (i := i) (x := x) h
    show (x :: y :: xs.eraseIdx i).Perm (y :: xs)
    exact (List.Perm.swap y x _).trans (ih.cons y)
theorem ix_ints {st : Sto} {Q : AV → Sto → Prop} {m : Nat} {xs : List Int} {i : Int} (h : st[m]? = some (.lst (xs.map AV.int))) (h0 : 0 ≤ i) (h1 : i < xs.length) : (idxA (.ref m) (.int i) st).Is Q = Q (.int (xs.getD i.toNat 0)) st := by
  have hi : i.toNat < xs.length := by omega
  refine iix_l h (k := i.toNat) ?_ ?_
  · rw [List.length_map]; exact ixN_of h0 h1
  · rw [List.getElem?_map, List.getElem?_eq_getElem hi, List.getD_eq_getElem?_getD, List.getElem?_eq_getElem hi]; rfl
theorem get_map {α : Type} {f : α → AV} {xs : List α} {k : Nat} {x : α} (h : xs[k]? = some x) : (xs.map f)[k]? = some (f x) := by
  rw [List.getElem?_map, h]; rfl
def dimL : List Int := [4, 4, 4, 3, 2, 2]
theorem dim_ok {k : Nat} (h : k < 6) : 2 ≤ dimL.getD k 0 ∧ dimL.getD k 0 ≤ 4 := by
  have : k = 0 ∨ k = 1 ∨ k = 2 ∨ k = 3 ∨ k = 4 ∨ k = 5 := by omega
  obtain h | h | h | h | h | h := this <;> subst h <;> decide
theorem eqA_nil {st : Sto} {α : Type} {m n : Nat} {xs : List α} {g : α → AV} {f : α → PyData} (h : st[m]? = some (.lst (xs.map g))) (k : ∀ x ∈ xs, pd 8 st (g x) = some (f x)) (c : ∀ x ∈ xs, (f x).canLay0 = true) (h2 : st[n]? = some (.lst [])) : eqA st (.ref m) (.ref n) = some xs.isEmpty := by
  have z : pd 9 st (.ref n) = some (.list []) := pd_list (n := 8) h2 rfl
  rw [eqA_of (pd_lst h k) z (can_map c) rfl]
  cases xs with
  | nil => rw [List.map_nil, eqv_list, PyData.eqvAll]; rfl
  | cons x xs => rw [List.map_cons, eqv_list, PyData.eqvAll]; rfl
theorem ends_snoc (ws : List Wire) (w : Wire) : endsOf (ws ++ [w]) = endsOf ws ++ [w.1, w.2] := by
  unfold endsOf
  rw [List.flatMap_append]
  rfl
theorem erase_map {α β : Type} (f : α → β) : ∀ (xs : List α) (i : Nat), (xs.map f).eraseIdx i = (xs.eraseIdx i).map f
  | [], _ => rfl
  | x :: xs, 0 => rfl
  | x :: xs, i + 1 => by
    show f x :: (xs.map f).eraseIdx i = f x :: (xs.eraseIdx i).map f
    rw [erase_map f xs i]
theorem get_set_o {st : Sto} {n m : Nat} {o u : AO} (h : st[n]? = some u) (k : n ≠ m) : (st.set m o)[n]? = some u := by
  rw [List.getElem?_set_ne (Ne.symm k)]; exact h
/-- all but two are as before -/
def But (r w : Nat) (a b : Sto) : Prop := ∀ (n : Nat) (u : AO), n ≠ r → n ≠ w → a[n]? = some u → b[n]? = some u
theorem But.of {r w : Nat} {a b : Sto} (h : Ext a b) : But r w a b := fun n u _ _ z => h n u z
theorem But.set1 {r w : Nat} {a b : Sto} {o : AO} (h : But r w a b) : But r w a (b.set r o) := fun n u h1 h2 z => by
  rw [List.getElem?_set_ne (Ne.symm h1)]; exact h n u h1 h2 z
theorem But.set2 {r w : Nat} {a b : Sto} {o : AO} (h : But r w a b) : But r w a (b.set w o) := fun n u h1 h2 z => by
  rw [List.getElem?_set_ne (Ne.symm h2)]; exact h n u h1 h2 z
theorem But.ext {r w : Nat} {a b c : Sto} (h : But r w b c) (k : Ext a b) (hr : a.length ≤ r) (hw : a.length ≤ w) : Ext a c := fun n u z => by
  have := get_lt z
  exact h n u (by omega) (by omega) (k n u z)
theorem ix_mem {α : Type} {st : Sto} {Q : AV → Sto → Prop} {m : Nat} {xs : List α} {f : α → AV} {i : Int} (h : st[m]? = some (.lst (xs.map f))) (h0 : 0 ≤ i) (h1 : i < xs.length) (q : ∀ x ∈ xs, Q (f x) st) : (idxA (.ref m) (.int i) st).Is Q := by
  have hi : i.toNat < xs.length := by omega
  refine Eq.mpr (iix_l h (k := i.toNat) (v := f xs[i.toNat]) ?_ ?_) (q _ (List.getElem_mem hi))
  · rw [List.length_map]; exact ixN_of h0 h1
  · rw [List.getElem?_map, List.getElem?_eq_getElem hi]; rfl
theorem ix_sign {zs : List Nat} {st : Sto} {Q : AV → Sto → Prop} {j : Int} (hz : ∀ c ∈ zs, c = 48 ∨ c = 49 ∨ c = 120) (hl : zs.length ≤ 10) (h0 : 0 ≤ j) (h1 : j < zs.length) (q : ∀ c : Nat, c = 48 ∨ c = 49 ∨ c = 120 → Q (.str [c]) st) : (idxA (.str zs) (.int j) st).Is Q := by
  have hi : j.toNat < zs.length := by omega
  refine Eq.mpr (iix_s (k := j.toNat) (v := zs[j.toNat]) (Nat.le_trans hl (by decide)) (ixN_of h0 h1) (List.getElem?_eq_getElem hi)) (q _ (hz _ (List.getElem_mem hi)))
/-! ### lists of things -/
theorem in_map {α : Type} [DecidableEq α] {st : Sto} {n : Nat} {xs : List α} {x : α} {g : α → AV} {f : α → PyData} (hv : ∀ a b, PyData.eqv (f a) (f b) = decide (a = b)) (hn : st[n]? = some (.lst (xs.map g))) (hp : ∀ y, pd 8 st (g y) = some (f y)) (hx : (f x).canLay0 = true) (hc : ∀ y ∈ xs, (f y).canLay0 = true) : inA st (g x) (.ref n) = some (decide (x ∈ xs)) := by
  have h1 : pdS st (.ref n) = some (.list (xs.map f)) := pdS_of (pd_lst hn fun y _ => hp y) (can_map hc)
  have up : ∀ (k : Nat) (v : AV) (d : PyData), pd k st v = some d → pd (k + 1) st v = some d := by
    have hm : ∀ (k : Nat), (∀ v d, pd k st v = some d → pd (k + 1) st v = some d) → ∀ (l : List AV) (ds : List PyData), oAll (pd k st) l = some ds → oAll (pd (k + 1) st) l = some ds := by
      intro k ih l
      induction l with
      | nil => intro ds e; exact e
      | cons a l il =>
        intro ds e
        simp only [oAll] at e
        split at e
        · rename_i d r q1 q2
          cases e
          simp only [oAll, ih _ _ q1, il _ q2]
        · cases e
    intro k
    induction k with
    | zero => intro v d e; cases e
    | succ k ih =>
      intro v d e
      cases v with
      | tup l =>
        have e : (oAll (pd k st) l).map PyData.tuple = some d := e
        obtain ⟨ds, e1, rfl⟩ := Option.map_eq_some_iff.mp e
        show (oAll (pd (k + 1) st) l).map PyData.tuple = _
        rw [hm k ih l ds e1]
        rfl
      | ref m =>
        have e : (match st[m]? with
          | some (.lst xs) => (oAll (pd k st) xs).map .list
          | _ => none) = some d := e
        show (match st[m]? with
          | some (.lst xs) => (oAll (pd (k + 1) st) xs).map .list
          | _ => none) = some d
        split at e
        · rename_i l q
          obtain ⟨ds, e1, rfl⟩ := Option.map_eq_some_iff.mp e
          rw [hm k ih l ds e1]
          rfl
        · cases e
      | _ => exact e
  have h2 : pdS st (g x) = some (f x) := pdS_of (up 8 _ _ (hp x)) hx
  unfold inA
  dsimp only
  rw [hn]
  dsimp only
  rw [h1, h2]
  dsimp only
  congr 1
  rw [List.any_map, Bool.eq_iff_iff]
  simp only [List.any_eq_true, Function.comp, hv, decide_eq_true_eq]
  constructor
  · rintro ⟨y, h, rfl⟩
    exact h
  · intro h
    exact ⟨x, h, rfl⟩
theorem inA_strT {st : Sto} {x : List Nat} {ws : List (List Nat)} : inA st (.str x) (.tup (ws.map .str)) = some (decide (x ∈ ws)) := by
  have h : ∀ ws : List (List Nat), oAll flA (ws.map AV.str) = some (ws.map fun w => PyData.str ⟨w.toArray⟩) := by
    intro ws
    induction ws with
    | nil => rfl
    | cons w ws ih =>
      rw [List.map_cons, oAll, ih]
      rfl
  unfold inA
  dsimp only
  rw [h, show flA (.str x) = some (.str ⟨x.toArray⟩) from rfl]
  dsimp only
  congr 1
  rw [List.any_map, Bool.eq_iff_iff]
  simp only [List.any_eq_true, Function.comp, eqv_str, decide_eq_true_eq]
  constructor
  · rintro ⟨y, h, rfl⟩
    exact h
  · intro h
    exact ⟨x, h, rfl⟩
theorem ib_mulR {m : Nat} {a : List AV} {k : Int} {st : Sto} {Q : AV → Sto → Prop} (h : st[m]? = some (.lst a)) (hk : -(2 ^ 63) ≤ k ∧ k < 2 ^ 63 ∧ a.length * k.toNat ≤ lim) : (binA .mul (.ref m) (.int k) st).Is Q = Q (.ref st.length) (st ++ [.lst (List.replicate k.toNat a).flatten]) := by
  unfold binA
  dsimp only
  rw [h]
  dsimp only
  rw [if_pos hk]
  rfl
theorem mem_cutA {α : Type} {xs : List α} {lo hi : Option Int} {x : α} (h : x ∈ cutA xs lo hi) : x ∈ xs := List.mem_of_mem_drop (List.mem_of_mem_take h)
theorem cut_cat {α : Type} {xs : List α} {z : Int} (h0 : 0 ≤ z) : cutA xs none (some z) ++ cutA xs (some z) none = xs := by
  unfold cutA
  have e : HT.sIx xs.length 0 (some z) = min z.toNat xs.length := by
    show (if z < 0 then _ else _) = _
    rw [if_neg (by omega)]
  have e2 : HT.sIx xs.length xs.length (some z) = min z.toNat xs.length := by
    show (if z < 0 then _ else _) = _
    rw [if_neg (by omega)]
  rw [e, e2, HT.sIx_none, HT.sIx_none, List.drop_zero, Nat.sub_zero]
  rw [List.take_of_length_le (l := xs.drop _) (by rw [List.length_drop]; omega)]
  exact List.take_append_drop _ _
theorem ite2 {p q : Prop} [Decidable p] [Decidable q] {A B : Prop} (h : ¬ (p ∧ q)) : (if p then (if q then A else B) else B) = B := by
  by_cases h1 : p
  · rw [if_pos h1, if_neg (fun h2 => h ⟨h1, h2⟩)]
  · rw [if_neg h1]
theorem ix_any {α : Type} {st : Sto} {Q : AV → Sto → Prop} {m : Nat} {xs : List α} {f : α → AV} {i : Int} (h : st[m]? = some (.lst (xs.map f))) (h0 : -(xs.length : Int) ≤ i) (h1 : i < xs.length) (q : ∀ x ∈ xs, Q (f x) st) : (idxA (.ref m) (.int i) st).Is Q := by
  have e : ∃ k, L2.ixN (xs.map f).length i = some k ∧ k < xs.length := by
    rw [List.length_map]
    unfold L2.ixN
    by_cases h2 : 0 ≤ i
    · rw [if_pos h2, if_pos h1]
      exact ⟨_, rfl, by omega⟩
    · rw [if_neg h2, if_pos h0]
      exact ⟨_, rfl, by omega⟩
  obtain ⟨k, e1, e2⟩ := e
  rw [iix_l h e1 (by rw [List.getElem?_map, List.getElem?_eq_getElem e2]; rfl)]
  exact q _ (List.getElem_mem e2)
end L3

/-! LMix: numbers, patterns, rows drawn from cells. -/
namespace L3
open PySem L2
def mixM (c k : Int) : Int := (c % 10 ^ 30 + 1) * (48271 + 2 * k * k + k) % 2147483647 / 7
theorem mixM_nn (c k : Int) : 0 ≤ mixM c k := Int.ediv_nonneg (Int.emod_nonneg _ (by decide)) (by decide)
theorem mix_is {n : Nat} {st : Sto} {c k : Int} {Q : AV → Sto → Prop} (h0 : 0 ≤ k) (h1 : k < 200) (q : Q (.int (mixM c k)) st) : (callF tab (n + 1) g_law_mix [.int c, .int k] st).Is Q := by
  refine call_is rfl rfl ?_; simp only [List.map_cons, List.map_nil, List.cons_append, List.nil_append, List.replicate_succ, List.replicate_zero, Nat.reduceSub]
  have e1 : 0 ≤ 2 * k * k ∧ 2 * k * k < 80000 := by
    have : 0 ≤ k * k := Int.mul_nonneg h0 h0
    have : k * k ≤ 199 * 199 := Int.mul_le_mul (by omega) (by omega) h0 (by omega)
    rw [Int.mul_assoc]
    omega
  try simp (decide := true) only [↓i_var, ↓i_con, ↓i_kon, ↓i_bin, ↓i_neg, ↓i_not, ↓i_and, ↓i_or, ↓i_and0, ↓i_or0, ↓i_and1, ↓i_or1, ↓i_cmp, ↓i_chain, ↓i_lst, ↓i_tup, ↓i_dnew, ↓i_call, ↓i_mk, ↓i_bcall, ↓i_isi, ↓i_meth, ↓i_sel, ↓i_selL, ↓i_fld, ↓i_idx, ↓i_sl, ↓i_lrng, ↓i_lc, ↓i_nil, ↓i_cons, ↓i_o0, ↓i_o1, ↓i_opt, ↓i_seq, ↓i_rng1, ↓i_rng2, ↓i_enum, ↓i_zip, ↓i_wk, ↓i_tst, ↓ws_done, ↓ws_asg, ↓ws_asgT, ↓ws_ofE, ↓ws_of, ↓ws_asgF, ↓ws_asgI, ↓ws_aug, ↓ws_expr, ↓ws_ret, ↓ws_retN, ↓ws_ite, ↓ws_loop, ↓ws_whil, ↓boolIs_b, ↓intIs_i, ↓slot_0, ↓slot_1, ↓set_0, ↓set_1, ↓R.is_ok, ↓SR.is_rt, ↓SR.is_nx, ↓i_ofB, ↓wt_non, ↓wt_bl, ↓wt_int, ↓wt_str, ↓wt_tup, ↓wt_rol, ↓ib_add, ↓ib_sub, ↓ib_fdiv, ↓ib_mod, ↓ib_pow, ↓ib_band, ↓ib_shr, ↓ic_lt, ↓ic_le, ↓ic_gt, ↓ic_ge, ↓ic_is, ↓ic_isnot, ↓ic_eqI, ↓ic_neI, ↓ic_eqB, ↓ic_in1, ↓il_lenT, ↓tx_0, ↓tx_1, ↓tx_2, ↓ineg_i, ↓ws_try, ↓i_isx, ↓xx_done, ↓xx_rais, decide_true, decide_false, Bool.not_true, Bool.not_false, List.length_cons, List.length_nil, Int.reduceToNat, decide_eq_true_eq, Bool.not_eq_true', decide_eq_false_iff_not, Bool.true_eq_false, Bool.false_eq_true, if_true, if_false, reduceCtorEq, not_false_eq_true, not_true_eq_false, or_false, or_true, and_true, true_and, List.nil_append, List.cons_append, c_law_mix, ↓ib_mul (mulOk_l (i := 2) (by decide) (by decide)), ↓ib_mul (mulOk_l (i := 2 * k) (j := k) (by omega) (by omega)), ↓ib_mul (mulOk_r (i := c % 10 ^ 30 + 1) (j := 48271 + 2 * k * k + k) (by omega) (by omega))]
  exact q
theorem cell_is {n : Nat} {st : Sto} {ns : List Int} {k : Int} {Q : AV → Sto → Prop} (hk : 0 ≤ k) (q : ∀ c, Q (.int c) st) : (callF tab (n + 1) g_law_cell_at [.rol ns, .int k] st).Is Q := by
  refine call_is rfl rfl ?_; simp only [List.map_cons, List.map_nil, List.cons_append, List.nil_append, List.replicate_succ, List.replicate_zero, Nat.reduceSub]
  try simp (decide := true) only [↓i_var, ↓i_con, ↓i_kon, ↓i_bin, ↓i_neg, ↓i_not, ↓i_and, ↓i_or, ↓i_and0, ↓i_or0, ↓i_and1, ↓i_or1, ↓i_cmp, ↓i_chain, ↓i_lst, ↓i_tup, ↓i_dnew, ↓i_call, ↓i_mk, ↓i_bcall, ↓i_isi, ↓i_meth, ↓i_sel, ↓i_selL, ↓i_fld, ↓i_idx, ↓i_sl, ↓i_lrng, ↓i_lc, ↓i_nil, ↓i_cons, ↓i_o0, ↓i_o1, ↓i_opt, ↓i_seq, ↓i_rng1, ↓i_rng2, ↓i_enum, ↓i_zip, ↓i_wk, ↓i_tst, ↓ws_done, ↓ws_asg, ↓ws_asgT, ↓ws_ofE, ↓ws_of, ↓ws_asgF, ↓ws_asgI, ↓ws_aug, ↓ws_expr, ↓ws_ret, ↓ws_retN, ↓ws_ite, ↓ws_loop, ↓ws_whil, ↓boolIs_b, ↓intIs_i, ↓slot_0, ↓slot_1, ↓set_0, ↓set_1, ↓R.is_ok, ↓SR.is_rt, ↓SR.is_nx, ↓i_ofB, ↓wt_non, ↓wt_bl, ↓wt_int, ↓wt_str, ↓wt_tup, ↓wt_rol, ↓ib_add, ↓ib_sub, ↓ib_fdiv, ↓ib_mod, ↓ib_pow, ↓ib_band, ↓ib_shr, ↓ic_lt, ↓ic_le, ↓ic_gt, ↓ic_ge, ↓ic_is, ↓ic_isnot, ↓ic_eqI, ↓ic_neI, ↓ic_eqB, ↓ic_in1, ↓il_lenT, ↓tx_0, ↓tx_1, ↓tx_2, ↓ineg_i, ↓ws_try, ↓i_isx, ↓xx_done, ↓xx_rais, decide_true, decide_false, Bool.not_true, Bool.not_false, List.length_cons, List.length_nil, Int.reduceToNat, decide_eq_true_eq, Bool.not_eq_true', decide_eq_false_iff_not, Bool.true_eq_false, Bool.false_eq_true, if_true, if_false, reduceCtorEq, not_false_eq_true, not_true_eq_false, or_false, or_true, and_true, true_and, List.nil_append, List.cons_append, c_law_cell_at, ↓il_lenR]
  split
  · rename_i h
    obtain ⟨j, hj, hj2⟩ := ixN_some hk h
    have hv : ns[j]? = some ns[j] := List.getElem?_eq_getElem hj2
    try simp (decide := true) only [↓i_var, ↓i_con, ↓i_kon, ↓i_bin, ↓i_neg, ↓i_not, ↓i_and, ↓i_or, ↓i_and0, ↓i_or0, ↓i_and1, ↓i_or1, ↓i_cmp, ↓i_chain, ↓i_lst, ↓i_tup, ↓i_dnew, ↓i_call, ↓i_mk, ↓i_bcall, ↓i_isi, ↓i_meth, ↓i_sel, ↓i_selL, ↓i_fld, ↓i_idx, ↓i_sl, ↓i_lrng, ↓i_lc, ↓i_nil, ↓i_cons, ↓i_o0, ↓i_o1, ↓i_opt, ↓i_seq, ↓i_rng1, ↓i_rng2, ↓i_enum, ↓i_zip, ↓i_wk, ↓i_tst, ↓ws_done, ↓ws_asg, ↓ws_asgT, ↓ws_ofE, ↓ws_of, ↓ws_asgF, ↓ws_asgI, ↓ws_aug, ↓ws_expr, ↓ws_ret, ↓ws_retN, ↓ws_ite, ↓ws_loop, ↓ws_whil, ↓boolIs_b, ↓intIs_i, ↓slot_0, ↓slot_1, ↓set_0, ↓set_1, ↓R.is_ok, ↓SR.is_rt, ↓SR.is_nx, ↓i_ofB, ↓wt_non, ↓wt_bl, ↓wt_int, ↓wt_str, ↓wt_tup, ↓wt_rol, ↓ib_add, ↓ib_sub, ↓ib_fdiv, ↓ib_mod, ↓ib_pow, ↓ib_band, ↓ib_shr, ↓ic_lt, ↓ic_le, ↓ic_gt, ↓ic_ge, ↓ic_is, ↓ic_isnot, ↓ic_eqI, ↓ic_neI, ↓ic_eqB, ↓ic_in1, ↓il_lenT, ↓tx_0, ↓tx_1, ↓tx_2, ↓ineg_i, ↓ws_try, ↓i_isx, ↓xx_done, ↓xx_rais, decide_true, decide_false, Bool.not_true, Bool.not_false, List.length_cons, List.length_nil, Int.reduceToNat, decide_eq_true_eq, Bool.not_eq_true', decide_eq_false_iff_not, Bool.true_eq_false, Bool.false_eq_true, if_true, if_false, reduceCtorEq, not_false_eq_true, not_true_eq_false, or_false, or_true, and_true, true_and, List.nil_append, List.cons_append, ↓iix_r hj hv]
    exact q _
  · exact q _
end L3

/-! LNet: nets. -/
namespace L3
open PySem L2

/-! ### dicts -/
section
variable {κ : Type} [DecidableEq κ]
theorem getK_map (k k' : κ) (v : AV) : ∀ kvs : List (κ × AV), hasK k kvs = true → getK k' (kvs.map fun p => if p.1 = k then (p.1, v) else p) = if k' = k then some v else getK k' kvs
  | [], h => by cases h
  | p :: kvs, h => by
    by_cases e : p.1 = k
    · by_cases e2 : k' = k
      · subst e2
        simp [getK, e]
      · have e3 : ¬ p.1 = k' := fun z => e2 (by rw [← z, e])
        rw [if_neg e2]
        by_cases h2 : hasK k kvs = true
        · have ih := getK_map k k' v kvs h2
          rw [if_neg e2] at ih
          simp only [getK, List.map_cons, if_pos e, List.find?_cons, e3, decide_false] at ih ⊢
          exact ih
        · have h3 : kvs.map (fun p => if p.1 = k then (p.1, v) else p) = kvs := by
            conv => rhs; rw [← List.map_id kvs]
            apply List.map_congr_left
            intro q hq
            have : ¬ q.1 = k := fun z => h2 (List.any_eq_true.mpr ⟨q, hq, decide_eq_true z⟩)
            rw [if_neg this]
            rfl
          rw [List.map_cons, if_pos e, h3]
          simp [getK, e3]
    · have h2 : hasK k kvs = true := by
        unfold hasK at h ⊢
        rw [List.any_cons, decide_eq_false e, Bool.false_or] at h
        exact h
      have ih := getK_map k k' v kvs h2
      rw [List.map_cons, if_neg e]
      by_cases e2 : p.1 = k'
      · have e3 : ¬ k' = k := fun z => e (by rw [e2, z])
        rw [if_neg e3]
        simp [getK, e2]
      · simp only [getK, List.find?_cons, e2, decide_false] at ih ⊢
        exact ih
theorem getK_no {k : κ} {kvs : List (κ × AV)} (h : hasK k kvs = false) : getK k kvs = none := by
  unfold getK
  rw [List.find?_eq_none.mpr]
  · rfl
  · intro p hp z
    have : hasK k kvs = true := List.any_eq_true.mpr ⟨p, hp, z⟩
    rw [h] at this
    exact Bool.false_ne_true this
theorem hasK_get {k : κ} {kvs : List (κ × AV)} : hasK k kvs = (getK k kvs).isSome := by
  unfold hasK getK
  rw [Option.isSome_map, List.isSome_find?]
theorem getK_put (k k' : κ) (v : AV) (kvs : List (κ × AV)) : getK k' (putK k v kvs) = if k' = k then some v else getK k' kvs := by
  unfold putK
  by_cases h : hasK k kvs = true
  · rw [if_pos h]; exact getK_map k k' v kvs h
  · rw [if_neg h]
    have h' : hasK k kvs = false := Bool.eq_false_iff.mpr h
    by_cases e : k' = k
    · subst e
      rw [if_pos rfl]
      have z := List.find?_eq_none.mp (show kvs.find? (fun p => decide (p.1 = k')) = none by
        have := getK_no h'
        unfold getK at this
        exact Option.map_eq_none_iff.mp this)
      unfold getK
      rw [List.find?_append, List.find?_eq_none.mpr z]
      simp
    · rw [if_neg e]
      unfold getK
      rw [List.find?_append]
      have : ([(k, v)] : List (κ × AV)).find? (fun p => decide (p.1 = k')) = none := by simp [Ne.symm e]
      rw [this]
      simp
theorem put_len (k : κ) (v : AV) (kvs : List (κ × AV)) : (putK k v kvs).length ≤ kvs.length + 1 := by
  unfold putK
  split
  · rw [List.length_map]; omega
  · rw [List.length_append]; exact Nat.le_refl _
end
def doorK (d : Door) : List Key := [.inl d.1, .inl d.2]
theorem keyT_door (d : Door) : keyT (doorV d) = some (doorK d) := rfl
theorem doorK_inj {a b : Door} : doorK a = doorK b ↔ a = b := by
  obtain ⟨a1, a2⟩ := a
  obtain ⟨b1, b2⟩ := b
  simp [doorK]

/-! ### nets -/
abbrev Tbl := List (List Key × AV)
def stepF (t : Tbl) (w : Wire) : Tbl := putK (doorK w.2) (doorV w.1) (putK (doorK w.1) (doorV w.2) t)
def tblF (ws : List Wire) : Tbl := ws.foldl stepF []
def beyS (d : Door) (o : Option Door) (w : Wire) : Option Door := if d = w.2 then some w.1 else if d = w.1 then some w.2 else o
/-- the other door of a wire -/
def beyF (ws : List Wire) (d : Door) : Option Door := ws.foldl (beyS d) none
theorem tblF_get (d : Door) : ∀ (ws : List Wire) (t : Tbl) (o : Option Door), getK (doorK d) t = o.map doorV → getK (doorK d) (ws.foldl stepF t) = (ws.foldl (beyS d) o).map doorV
  | [], t, o, h => h
  | w :: ws, t, o, h => by
    refine tblF_get d ws (stepF t w) (beyS d o w) ?_
    unfold stepF beyS
    rw [getK_put, getK_put]
    by_cases h1 : d = w.2
    · subst h1; simp
    · rw [if_neg (fun z => h1 (doorK_inj.mp z)), if_neg h1]
      by_cases h2 : d = w.1
      · subst h2; simp
      · rw [if_neg (fun z => h2 (doorK_inj.mp z)), if_neg h2, h]
theorem tbl_get (ws : List Wire) (d : Door) : getK (doorK d) (tblF ws) = (beyF ws d).map doorV := tblF_get d ws [] none rfl
theorem tbl_has (ws : List Wire) (d : Door) : hasK (doorK d) (tblF ws) = (beyF ws d).isSome := by
  rw [hasK_get, tbl_get, Option.isSome_map]
theorem step_len (t : Tbl) (w : Wire) : (stepF t w).length ≤ t.length + 2 := by
  have h1 := put_len (doorK w.1) (doorV w.2) t
  have h2 := put_len (doorK w.2) (doorV w.1) (putK (doorK w.1) (doorV w.2) t)
  unfold stepF
  omega
theorem tbl_len : ∀ (ws : List Wire) (t : Tbl), (ws.foldl stepF t).length ≤ t.length + 2 * ws.length
  | [], t => Nat.le_refl _
  | w :: ws, t => by
    have := tbl_len ws (stepF t w)
    have h1 := step_len t w
    rw [List.length_cons]
    show (List.foldl stepF (stepF t w) ws).length ≤ _
    omega
/-- a net's object -/
def NetIns (st : Sto) (n a b d : Nat) (cs : List Int) (ws : List Wire) : Prop :=
  st[n]? = some (.ins 10 [(22, .int (cs.length : Nat)), (26, .ref a), (27, .ref b), (28, .ref d)]) ∧ st[a]? = some (.lst (cs.map AV.int)) ∧ st[b]? = some (.lst (ws.map wireV)) ∧ st[d]? = some (.dT (tblF ws))
def NetAt (st : Sto) (n : Nat) (cs : List Int) (ws : List Wire) : Prop := ∃ a b d, NetIns st n a b d cs ws
theorem NetAt.ext {st st' : Sto} {n : Nat} {cs : List Int} {ws : List Wire} (h : NetAt st n cs ws) (x : Ext st st') : NetAt st' n cs ws := by
  obtain ⟨a, b, d, h1, h2, h3, h4⟩ := h
  exact ⟨a, b, d, x _ _ h1, x _ _ h2, x _ _ h3, x _ _ h4⟩
theorem fld_is {st : Sto} {n c f : Nat} {fs : List (Nat × AV)} {v : AV} {Q : AV → Sto → Prop} (h : st[n]? = some (.ins c fs)) (k : tab.fl c f = true) (l : fs.lookup f = some v) : (fldA tab (.ref n) f st).Is Q = Q v st := by
  unfold fldA
  dsimp only
  rw [h]
  dsimp only
  rw [if_pos k, l]
  rfl
theorem sel_is {st : Sto} {n c m g : Nat} {fs : List (Nat × AV)} {r : R (List AV)} {f : CallF} {Q : AV → Sto → Prop} (h : st[n]? = some (.ins c fs)) (k : tab.mt c m = some g) (l : fs.lookup m = none) :
    ((selA tab m (.ref n) st).ok (r.bind fun xs st1 => methA f (selA tab m (.ref n) st) m (.ref n) xs st1)).Is Q = r.Is fun xs st1 => (f g (.ref n :: xs) st1).Is Q := by
  have e : selA tab m (.ref n) st = .own g := by
    unfold selA
    dsimp only
    rw [h]
    dsimp only
    rw [k, l]
  rw [e]
  exact i_sel
theorem whole_i {n : Nat} {st : Sto} {i : Int} {Q : AV → Sto → Prop} (q : Q (.bl true) st) : (callF tab (n + 1) g_is_whole [.int i] st).Is Q := by
  refine call_is rfl rfl ?_; simp only [List.map_cons, List.map_nil, List.cons_append, List.nil_append, List.replicate_succ, List.replicate_zero, Nat.reduceSub]
  try simp (decide := true) only [↓i_var, ↓i_con, ↓i_kon, ↓i_bin, ↓i_neg, ↓i_not, ↓i_and, ↓i_or, ↓i_and0, ↓i_or0, ↓i_and1, ↓i_or1, ↓i_cmp, ↓i_chain, ↓i_lst, ↓i_tup, ↓i_dnew, ↓i_call, ↓i_mk, ↓i_bcall, ↓i_isi, ↓i_meth, ↓i_sel, ↓i_selL, ↓i_fld, ↓i_idx, ↓i_sl, ↓i_lrng, ↓i_lc, ↓i_nil, ↓i_cons, ↓i_o0, ↓i_o1, ↓i_opt, ↓i_seq, ↓i_rng1, ↓i_rng2, ↓i_enum, ↓i_zip, ↓i_wk, ↓i_tst, ↓ws_done, ↓ws_asg, ↓ws_asgT, ↓ws_ofE, ↓ws_of, ↓ws_asgF, ↓ws_asgI, ↓ws_aug, ↓ws_expr, ↓ws_ret, ↓ws_retN, ↓ws_ite, ↓ws_loop, ↓ws_whil, ↓boolIs_b, ↓intIs_i, ↓slot_0, ↓slot_1, ↓set_0, ↓set_1, ↓R.is_ok, ↓SR.is_rt, ↓SR.is_nx, ↓i_ofB, ↓wt_non, ↓wt_bl, ↓wt_int, ↓wt_str, ↓wt_tup, ↓wt_rol, ↓ib_add, ↓ib_sub, ↓ib_fdiv, ↓ib_mod, ↓ib_pow, ↓ib_band, ↓ib_shr, ↓ic_lt, ↓ic_le, ↓ic_gt, ↓ic_ge, ↓ic_is, ↓ic_isnot, ↓ic_eqI, ↓ic_neI, ↓ic_eqB, ↓ic_in1, ↓il_lenT, ↓tx_0, ↓tx_1, ↓tx_2, ↓ineg_i, ↓ws_try, ↓i_isx, ↓xx_done, ↓xx_rais, decide_true, decide_false, Bool.not_true, Bool.not_false, List.length_cons, List.length_nil, Int.reduceToNat, decide_eq_true_eq, Bool.not_eq_true', decide_eq_false_iff_not, Bool.true_eq_false, Bool.false_eq_true, if_true, if_false, reduceCtorEq, not_false_eq_true, not_true_eq_false, or_false, or_true, and_true, true_and, List.nil_append, List.cons_append, c_is_whole]
  exact q
def cntOk (c : Int) : Bool := decide (1 ≤ c) && decide (c ≤ 4)
theorem counts_is {n : Nat} {st : Sto} {a : Nat} {cs : List Int} {Q : AV → Sto → Prop} (ha : st[a]? = some (.lst (cs.map AV.int))) (h1 : 1 ≤ cs.length) (h2 : cs.length ≤ 6) (hc : ∀ c ∈ cs, 1 ≤ c ∧ c ≤ 4) (q : ∀ s, Ext st s → Q (.bl true) s) : (callF tab (n + 2) g_are_counts [.ref a] st).Is Q := by
  refine call_is rfl rfl ?_; simp only [List.map_cons, List.map_nil, List.cons_append, List.nil_append, List.replicate_succ, List.replicate_zero, Nat.reduceSub]
  try simp (decide := true) only [↓i_var, ↓i_con, ↓i_kon, ↓i_bin, ↓i_neg, ↓i_not, ↓i_and, ↓i_or, ↓i_and0, ↓i_or0, ↓i_and1, ↓i_or1, ↓i_cmp, ↓i_chain, ↓i_lst, ↓i_tup, ↓i_dnew, ↓i_call, ↓i_mk, ↓i_bcall, ↓i_isi, ↓i_meth, ↓i_sel, ↓i_selL, ↓i_fld, ↓i_idx, ↓i_sl, ↓i_lrng, ↓i_lc, ↓i_nil, ↓i_cons, ↓i_o0, ↓i_o1, ↓i_opt, ↓i_seq, ↓i_rng1, ↓i_rng2, ↓i_enum, ↓i_zip, ↓i_wk, ↓i_tst, ↓ws_done, ↓ws_asg, ↓ws_asgT, ↓ws_ofE, ↓ws_of, ↓ws_asgF, ↓ws_asgI, ↓ws_aug, ↓ws_expr, ↓ws_ret, ↓ws_retN, ↓ws_ite, ↓ws_loop, ↓ws_whil, ↓boolIs_b, ↓intIs_i, ↓slot_0, ↓slot_1, ↓set_0, ↓set_1, ↓R.is_ok, ↓SR.is_rt, ↓SR.is_nx, ↓i_ofB, ↓wt_non, ↓wt_bl, ↓wt_int, ↓wt_str, ↓wt_tup, ↓wt_rol, ↓ib_add, ↓ib_sub, ↓ib_fdiv, ↓ib_mod, ↓ib_pow, ↓ib_band, ↓ib_shr, ↓ic_lt, ↓ic_le, ↓ic_gt, ↓ic_ge, ↓ic_is, ↓ic_isnot, ↓ic_eqI, ↓ic_neI, ↓ic_eqB, ↓ic_in1, ↓il_lenT, ↓tx_0, ↓tx_1, ↓tx_2, ↓ineg_i, ↓ws_try, ↓i_isx, ↓xx_done, ↓xx_rais, decide_true, decide_false, Bool.not_true, Bool.not_false, List.length_cons, List.length_nil, Int.reduceToNat, decide_eq_true_eq, Bool.not_eq_true', decide_eq_false_iff_not, Bool.true_eq_false, Bool.false_eq_true, if_true, if_false, reduceCtorEq, not_false_eq_true, not_true_eq_false, or_false, or_true, and_true, true_and, List.nil_append, List.cons_append, c_are_counts, ↓wt_lst ha, ↓il_len ha, List.length_map, ↓iw_lst ha]
  have e1 : (1 : Int) ≤ (cs.length : Nat) := by omega
  have e2 : ((cs.length : Nat) : Int) ≤ 6 := by omega
  have done : (lcL (Tg.nm 1) (Wk.ck { xs := cs.map AV.int, at1 := some (a, AO.lst (cs.map AV.int)) }) (fun e st => evAnd tab (callF tab (n + 1)) (lev tab (n + 1)).2 .nil e st) (fun e st => ev tab (callF tab (n + 1)) (lev tab (n + 1)).2 c_are_counts_1 e st) (wipeA [some (.ref a), none] [1]) (cs.map AV.int) [] st).Is fun acc st => (callB .all [.ref st.length] (st ++ [AO.lst acc])).Is Q := by
    refine lc_m (w := { xs := cs.map AV.int, at1 := some (a, AO.lst (cs.map AV.int)) }) cs AV.int (fun _ => .bl true) rfl (ck_lst ha) (by unfold lim; omega) (fun c hcm => ⟨_, rfl, fun s hs => ?_⟩) fun s hs => ?_
    · have := hc c hcm
      simp only [bindT, bindT.go, wipeA, List.set_cons_zero, List.set_cons_succ]
      try simp (decide := true) only [↓i_var, ↓i_con, ↓i_kon, ↓i_bin, ↓i_neg, ↓i_not, ↓i_and, ↓i_or, ↓i_and0, ↓i_or0, ↓i_and1, ↓i_or1, ↓i_cmp, ↓i_chain, ↓i_lst, ↓i_tup, ↓i_dnew, ↓i_call, ↓i_mk, ↓i_bcall, ↓i_isi, ↓i_meth, ↓i_sel, ↓i_selL, ↓i_fld, ↓i_idx, ↓i_sl, ↓i_lrng, ↓i_lc, ↓i_nil, ↓i_cons, ↓i_o0, ↓i_o1, ↓i_opt, ↓i_seq, ↓i_rng1, ↓i_rng2, ↓i_enum, ↓i_zip, ↓i_wk, ↓i_tst, ↓ws_done, ↓ws_asg, ↓ws_asgT, ↓ws_ofE, ↓ws_of, ↓ws_asgF, ↓ws_asgI, ↓ws_aug, ↓ws_expr, ↓ws_ret, ↓ws_retN, ↓ws_ite, ↓ws_loop, ↓ws_whil, ↓boolIs_b, ↓intIs_i, ↓slot_0, ↓slot_1, ↓set_0, ↓set_1, ↓R.is_ok, ↓SR.is_rt, ↓SR.is_nx, ↓i_ofB, ↓wt_non, ↓wt_bl, ↓wt_int, ↓wt_str, ↓wt_tup, ↓wt_rol, ↓ib_add, ↓ib_sub, ↓ib_fdiv, ↓ib_mod, ↓ib_pow, ↓ib_band, ↓ib_shr, ↓ic_lt, ↓ic_le, ↓ic_gt, ↓ic_ge, ↓ic_is, ↓ic_isnot, ↓ic_eqI, ↓ic_neI, ↓ic_eqB, ↓ic_in1, ↓il_lenT, ↓tx_0, ↓tx_1, ↓tx_2, ↓ineg_i, ↓ws_try, ↓i_isx, ↓xx_done, ↓xx_rais, decide_true, decide_false, Bool.not_true, Bool.not_false, List.length_cons, List.length_nil, Int.reduceToNat, decide_eq_true_eq, Bool.not_eq_true', decide_eq_false_iff_not, Bool.true_eq_false, Bool.false_eq_true, if_true, if_false, reduceCtorEq, not_false_eq_true, not_true_eq_false, or_false, or_true, and_true, true_and, List.nil_append, List.cons_append, c_are_counts_1]
      refine whole_i ?_
      have e3 : (1 : Int) ≤ c := this.1
      have e4 : c ≤ 4 := this.2
      try simp (decide := true) only [↓i_var, ↓i_con, ↓i_kon, ↓i_bin, ↓i_neg, ↓i_not, ↓i_and, ↓i_or, ↓i_and0, ↓i_or0, ↓i_and1, ↓i_or1, ↓i_cmp, ↓i_chain, ↓i_lst, ↓i_tup, ↓i_dnew, ↓i_call, ↓i_mk, ↓i_bcall, ↓i_isi, ↓i_meth, ↓i_sel, ↓i_selL, ↓i_fld, ↓i_idx, ↓i_sl, ↓i_lrng, ↓i_lc, ↓i_nil, ↓i_cons, ↓i_o0, ↓i_o1, ↓i_opt, ↓i_seq, ↓i_rng1, ↓i_rng2, ↓i_enum, ↓i_zip, ↓i_wk, ↓i_tst, ↓ws_done, ↓ws_asg, ↓ws_asgT, ↓ws_ofE, ↓ws_of, ↓ws_asgF, ↓ws_asgI, ↓ws_aug, ↓ws_expr, ↓ws_ret, ↓ws_retN, ↓ws_ite, ↓ws_loop, ↓ws_whil, ↓boolIs_b, ↓intIs_i, ↓slot_0, ↓slot_1, ↓set_0, ↓set_1, ↓R.is_ok, ↓SR.is_rt, ↓SR.is_nx, ↓i_ofB, ↓wt_non, ↓wt_bl, ↓wt_int, ↓wt_str, ↓wt_tup, ↓wt_rol, ↓ib_add, ↓ib_sub, ↓ib_fdiv, ↓ib_mod, ↓ib_pow, ↓ib_band, ↓ib_shr, ↓ic_lt, ↓ic_le, ↓ic_gt, ↓ic_ge, ↓ic_is, ↓ic_isnot, ↓ic_eqI, ↓ic_neI, ↓ic_eqB, ↓ic_in1, ↓il_lenT, ↓tx_0, ↓tx_1, ↓tx_2, ↓ineg_i, ↓ws_try, ↓i_isx, ↓xx_done, ↓xx_rais, decide_true, decide_false, Bool.not_true, Bool.not_false, List.length_cons, List.length_nil, Int.reduceToNat, decide_eq_true_eq, Bool.not_eq_true', decide_eq_false_iff_not, Bool.true_eq_false, Bool.false_eq_true, if_true, if_false, reduceCtorEq, not_false_eq_true, not_true_eq_false, or_false, or_true, and_true, true_and, List.nil_append, List.cons_append, e3, e4]
      exact Ext.refl _
    · rw [i_all (get_push _ _), all_t]
      exact q _ (hs.trans (Ext.push _ _))
  simp only [e1, e2, if_true, decide_true]
  exact done
/-- a door of the houses -/
def isDoor (cs : List Int) (d : Door) : Bool := decide (0 ≤ d.1) && decide (d.1 < cs.length) && decide (0 ≤ d.2) && decide (d.2 < cs.getD d.1.toNat 0)
theorem doorOf_is {n : Nat} {st : Sto} {a : Nat} {cs : List Int} {d : Door} {Q : AV → Sto → Prop} (ha : st[a]? = some (.lst (cs.map AV.int))) (q : Q (.bl (isDoor cs d)) st) : (callF tab (n + 2) g_is_door_of [doorV d, .ref a] st).Is Q := by
  obtain ⟨h, i⟩ := d
  show (callF tab (n + 2) g_is_door_of [.tup [.int h, .int i], .ref a] st).Is Q
  have i0 : L2.ixN [AV.int h, AV.int i].length 0 = some 0 := rfl
  have i1 : L2.ixN [AV.int h, AV.int i].length 1 = some 1 := rfl
  refine call_is rfl rfl ?_; simp only [List.map_cons, List.map_nil, List.cons_append, List.nil_append, List.replicate_succ, List.replicate_zero, Nat.reduceSub]
  try simp (decide := true) only [↓i_var, ↓i_con, ↓i_kon, ↓i_bin, ↓i_neg, ↓i_not, ↓i_and, ↓i_or, ↓i_and0, ↓i_or0, ↓i_and1, ↓i_or1, ↓i_cmp, ↓i_chain, ↓i_lst, ↓i_tup, ↓i_dnew, ↓i_call, ↓i_mk, ↓i_bcall, ↓i_isi, ↓i_meth, ↓i_sel, ↓i_selL, ↓i_fld, ↓i_idx, ↓i_sl, ↓i_lrng, ↓i_lc, ↓i_nil, ↓i_cons, ↓i_o0, ↓i_o1, ↓i_opt, ↓i_seq, ↓i_rng1, ↓i_rng2, ↓i_enum, ↓i_zip, ↓i_wk, ↓i_tst, ↓ws_done, ↓ws_asg, ↓ws_asgT, ↓ws_ofE, ↓ws_of, ↓ws_asgF, ↓ws_asgI, ↓ws_aug, ↓ws_expr, ↓ws_ret, ↓ws_retN, ↓ws_ite, ↓ws_loop, ↓ws_whil, ↓boolIs_b, ↓intIs_i, ↓slot_0, ↓slot_1, ↓set_0, ↓set_1, ↓R.is_ok, ↓SR.is_rt, ↓SR.is_nx, ↓i_ofB, ↓wt_non, ↓wt_bl, ↓wt_int, ↓wt_str, ↓wt_tup, ↓wt_rol, ↓ib_add, ↓ib_sub, ↓ib_fdiv, ↓ib_mod, ↓ib_pow, ↓ib_band, ↓ib_shr, ↓ic_lt, ↓ic_le, ↓ic_gt, ↓ic_ge, ↓ic_is, ↓ic_isnot, ↓ic_eqI, ↓ic_neI, ↓ic_eqB, ↓ic_in1, ↓il_lenT, ↓tx_0, ↓tx_1, ↓tx_2, ↓ineg_i, ↓ws_try, ↓i_isx, ↓xx_done, ↓xx_rais, decide_true, decide_false, Bool.not_true, Bool.not_false, List.length_cons, List.length_nil, Int.reduceToNat, decide_eq_true_eq, Bool.not_eq_true', decide_eq_false_iff_not, Bool.true_eq_false, Bool.false_eq_true, if_true, if_false, reduceCtorEq, not_false_eq_true, not_true_eq_false, or_false, or_true, and_true, true_and, List.nil_append, List.cons_append, c_is_door_of, ↓iix_t i0 rfl, ↓iix_t i1 rfl]
  refine whole_i ?_
  try simp (decide := true) only [↓i_var, ↓i_con, ↓i_kon, ↓i_bin, ↓i_neg, ↓i_not, ↓i_and, ↓i_or, ↓i_and0, ↓i_or0, ↓i_and1, ↓i_or1, ↓i_cmp, ↓i_chain, ↓i_lst, ↓i_tup, ↓i_dnew, ↓i_call, ↓i_mk, ↓i_bcall, ↓i_isi, ↓i_meth, ↓i_sel, ↓i_selL, ↓i_fld, ↓i_idx, ↓i_sl, ↓i_lrng, ↓i_lc, ↓i_nil, ↓i_cons, ↓i_o0, ↓i_o1, ↓i_opt, ↓i_seq, ↓i_rng1, ↓i_rng2, ↓i_enum, ↓i_zip, ↓i_wk, ↓i_tst, ↓ws_done, ↓ws_asg, ↓ws_asgT, ↓ws_ofE, ↓ws_of, ↓ws_asgF, ↓ws_asgI, ↓ws_aug, ↓ws_expr, ↓ws_ret, ↓ws_retN, ↓ws_ite, ↓ws_loop, ↓ws_whil, ↓boolIs_b, ↓intIs_i, ↓slot_0, ↓slot_1, ↓set_0, ↓set_1, ↓R.is_ok, ↓SR.is_rt, ↓SR.is_nx, ↓i_ofB, ↓wt_non, ↓wt_bl, ↓wt_int, ↓wt_str, ↓wt_tup, ↓wt_rol, ↓ib_add, ↓ib_sub, ↓ib_fdiv, ↓ib_mod, ↓ib_pow, ↓ib_band, ↓ib_shr, ↓ic_lt, ↓ic_le, ↓ic_gt, ↓ic_ge, ↓ic_is, ↓ic_isnot, ↓ic_eqI, ↓ic_neI, ↓ic_eqB, ↓ic_in1, ↓il_lenT, ↓tx_0, ↓tx_1, ↓tx_2, ↓ineg_i, ↓ws_try, ↓i_isx, ↓xx_done, ↓xx_rais, decide_true, decide_false, Bool.not_true, Bool.not_false, List.length_cons, List.length_nil, Int.reduceToNat, decide_eq_true_eq, Bool.not_eq_true', decide_eq_false_iff_not, Bool.true_eq_false, Bool.false_eq_true, if_true, if_false, reduceCtorEq, not_false_eq_true, not_true_eq_false, or_false, or_true, and_true, true_and, List.nil_append, List.cons_append, ↓iix_t i1 rfl]
  refine whole_i ?_
  try simp (decide := true) only [↓i_var, ↓i_con, ↓i_kon, ↓i_bin, ↓i_neg, ↓i_not, ↓i_and, ↓i_or, ↓i_and0, ↓i_or0, ↓i_and1, ↓i_or1, ↓i_cmp, ↓i_chain, ↓i_lst, ↓i_tup, ↓i_dnew, ↓i_call, ↓i_mk, ↓i_bcall, ↓i_isi, ↓i_meth, ↓i_sel, ↓i_selL, ↓i_fld, ↓i_idx, ↓i_sl, ↓i_lrng, ↓i_lc, ↓i_nil, ↓i_cons, ↓i_o0, ↓i_o1, ↓i_opt, ↓i_seq, ↓i_rng1, ↓i_rng2, ↓i_enum, ↓i_zip, ↓i_wk, ↓i_tst, ↓ws_done, ↓ws_asg, ↓ws_asgT, ↓ws_ofE, ↓ws_of, ↓ws_asgF, ↓ws_asgI, ↓ws_aug, ↓ws_expr, ↓ws_ret, ↓ws_retN, ↓ws_ite, ↓ws_loop, ↓ws_whil, ↓boolIs_b, ↓intIs_i, ↓slot_0, ↓slot_1, ↓set_0, ↓set_1, ↓R.is_ok, ↓SR.is_rt, ↓SR.is_nx, ↓i_ofB, ↓wt_non, ↓wt_bl, ↓wt_int, ↓wt_str, ↓wt_tup, ↓wt_rol, ↓ib_add, ↓ib_sub, ↓ib_fdiv, ↓ib_mod, ↓ib_pow, ↓ib_band, ↓ib_shr, ↓ic_lt, ↓ic_le, ↓ic_gt, ↓ic_ge, ↓ic_is, ↓ic_isnot, ↓ic_eqI, ↓ic_neI, ↓ic_eqB, ↓ic_in1, ↓il_lenT, ↓tx_0, ↓tx_1, ↓tx_2, ↓ineg_i, ↓ws_try, ↓i_isx, ↓xx_done, ↓xx_rais, decide_true, decide_false, Bool.not_true, Bool.not_false, List.length_cons, List.length_nil, Int.reduceToNat, decide_eq_true_eq, Bool.not_eq_true', decide_eq_false_iff_not, Bool.true_eq_false, Bool.false_eq_true, if_true, if_false, reduceCtorEq, not_false_eq_true, not_true_eq_false, or_false, or_true, and_true, true_and, List.nil_append, List.cons_append, ↓iix_t i0 rfl, ↓iix_t i1 rfl, ↓il_len ha, List.length_map]
  by_cases h0 : 0 ≤ h
  · by_cases h1 : h < (cs.length : Nat)
    · try simp (decide := true) only [↓i_var, ↓i_con, ↓i_kon, ↓i_bin, ↓i_neg, ↓i_not, ↓i_and, ↓i_or, ↓i_and0, ↓i_or0, ↓i_and1, ↓i_or1, ↓i_cmp, ↓i_chain, ↓i_lst, ↓i_tup, ↓i_dnew, ↓i_call, ↓i_mk, ↓i_bcall, ↓i_isi, ↓i_meth, ↓i_sel, ↓i_selL, ↓i_fld, ↓i_idx, ↓i_sl, ↓i_lrng, ↓i_lc, ↓i_nil, ↓i_cons, ↓i_o0, ↓i_o1, ↓i_opt, ↓i_seq, ↓i_rng1, ↓i_rng2, ↓i_enum, ↓i_zip, ↓i_wk, ↓i_tst, ↓ws_done, ↓ws_asg, ↓ws_asgT, ↓ws_ofE, ↓ws_of, ↓ws_asgF, ↓ws_asgI, ↓ws_aug, ↓ws_expr, ↓ws_ret, ↓ws_retN, ↓ws_ite, ↓ws_loop, ↓ws_whil, ↓boolIs_b, ↓intIs_i, ↓slot_0, ↓slot_1, ↓set_0, ↓set_1, ↓R.is_ok, ↓SR.is_rt, ↓SR.is_nx, ↓i_ofB, ↓wt_non, ↓wt_bl, ↓wt_int, ↓wt_str, ↓wt_tup, ↓wt_rol, ↓ib_add, ↓ib_sub, ↓ib_fdiv, ↓ib_mod, ↓ib_pow, ↓ib_band, ↓ib_shr, ↓ic_lt, ↓ic_le, ↓ic_gt, ↓ic_ge, ↓ic_is, ↓ic_isnot, ↓ic_eqI, ↓ic_neI, ↓ic_eqB, ↓ic_in1, ↓il_lenT, ↓tx_0, ↓tx_1, ↓tx_2, ↓ineg_i, ↓ws_try, ↓i_isx, ↓xx_done, ↓xx_rais, decide_true, decide_false, Bool.not_true, Bool.not_false, List.length_cons, List.length_nil, Int.reduceToNat, decide_eq_true_eq, Bool.not_eq_true', decide_eq_false_iff_not, Bool.true_eq_false, Bool.false_eq_true, if_true, if_false, reduceCtorEq, not_false_eq_true, not_true_eq_false, or_false, or_true, and_true, true_and, List.nil_append, List.cons_append, h0, h1]
      rw [ix_ints ha h0 h1]
      try simp (decide := true) only [↓i_var, ↓i_con, ↓i_kon, ↓i_bin, ↓i_neg, ↓i_not, ↓i_and, ↓i_or, ↓i_and0, ↓i_or0, ↓i_and1, ↓i_or1, ↓i_cmp, ↓i_chain, ↓i_lst, ↓i_tup, ↓i_dnew, ↓i_call, ↓i_mk, ↓i_bcall, ↓i_isi, ↓i_meth, ↓i_sel, ↓i_selL, ↓i_fld, ↓i_idx, ↓i_sl, ↓i_lrng, ↓i_lc, ↓i_nil, ↓i_cons, ↓i_o0, ↓i_o1, ↓i_opt, ↓i_seq, ↓i_rng1, ↓i_rng2, ↓i_enum, ↓i_zip, ↓i_wk, ↓i_tst, ↓ws_done, ↓ws_asg, ↓ws_asgT, ↓ws_ofE, ↓ws_of, ↓ws_asgF, ↓ws_asgI, ↓ws_aug, ↓ws_expr, ↓ws_ret, ↓ws_retN, ↓ws_ite, ↓ws_loop, ↓ws_whil, ↓boolIs_b, ↓intIs_i, ↓slot_0, ↓slot_1, ↓set_0, ↓set_1, ↓R.is_ok, ↓SR.is_rt, ↓SR.is_nx, ↓i_ofB, ↓wt_non, ↓wt_bl, ↓wt_int, ↓wt_str, ↓wt_tup, ↓wt_rol, ↓ib_add, ↓ib_sub, ↓ib_fdiv, ↓ib_mod, ↓ib_pow, ↓ib_band, ↓ib_shr, ↓ic_lt, ↓ic_le, ↓ic_gt, ↓ic_ge, ↓ic_is, ↓ic_isnot, ↓ic_eqI, ↓ic_neI, ↓ic_eqB, ↓ic_in1, ↓il_lenT, ↓tx_0, ↓tx_1, ↓tx_2, ↓ineg_i, ↓ws_try, ↓i_isx, ↓xx_done, ↓xx_rais, decide_true, decide_false, Bool.not_true, Bool.not_false, List.length_cons, List.length_nil, Int.reduceToNat, decide_eq_true_eq, Bool.not_eq_true', decide_eq_false_iff_not, Bool.true_eq_false, Bool.false_eq_true, if_true, if_false, reduceCtorEq, not_false_eq_true, not_true_eq_false, or_false, or_true, and_true, true_and, List.nil_append, List.cons_append]
      by_cases h2 : 0 ≤ i
      · have e : isDoor cs (h, i) = decide (i < cs.getD h.toNat 0) := by simp [isDoor, h0, h1, h2]
        rw [e] at q
        by_cases h3 : i < cs.getD h.toNat 0
        · rw [decide_eq_true h3] at q
          try simp (decide := true) only [↓i_var, ↓i_con, ↓i_kon, ↓i_bin, ↓i_neg, ↓i_not, ↓i_and, ↓i_or, ↓i_and0, ↓i_or0, ↓i_and1, ↓i_or1, ↓i_cmp, ↓i_chain, ↓i_lst, ↓i_tup, ↓i_dnew, ↓i_call, ↓i_mk, ↓i_bcall, ↓i_isi, ↓i_meth, ↓i_sel, ↓i_selL, ↓i_fld, ↓i_idx, ↓i_sl, ↓i_lrng, ↓i_lc, ↓i_nil, ↓i_cons, ↓i_o0, ↓i_o1, ↓i_opt, ↓i_seq, ↓i_rng1, ↓i_rng2, ↓i_enum, ↓i_zip, ↓i_wk, ↓i_tst, ↓ws_done, ↓ws_asg, ↓ws_asgT, ↓ws_ofE, ↓ws_of, ↓ws_asgF, ↓ws_asgI, ↓ws_aug, ↓ws_expr, ↓ws_ret, ↓ws_retN, ↓ws_ite, ↓ws_loop, ↓ws_whil, ↓boolIs_b, ↓intIs_i, ↓slot_0, ↓slot_1, ↓set_0, ↓set_1, ↓R.is_ok, ↓SR.is_rt, ↓SR.is_nx, ↓i_ofB, ↓wt_non, ↓wt_bl, ↓wt_int, ↓wt_str, ↓wt_tup, ↓wt_rol, ↓ib_add, ↓ib_sub, ↓ib_fdiv, ↓ib_mod, ↓ib_pow, ↓ib_band, ↓ib_shr, ↓ic_lt, ↓ic_le, ↓ic_gt, ↓ic_ge, ↓ic_is, ↓ic_isnot, ↓ic_eqI, ↓ic_neI, ↓ic_eqB, ↓ic_in1, ↓il_lenT, ↓tx_0, ↓tx_1, ↓tx_2, ↓ineg_i, ↓ws_try, ↓i_isx, ↓xx_done, ↓xx_rais, decide_true, decide_false, Bool.not_true, Bool.not_false, List.length_cons, List.length_nil, Int.reduceToNat, decide_eq_true_eq, Bool.not_eq_true', decide_eq_false_iff_not, Bool.true_eq_false, Bool.false_eq_true, if_true, if_false, reduceCtorEq, not_false_eq_true, not_true_eq_false, or_false, or_true, and_true, true_and, List.nil_append, List.cons_append, h2, h3]
          exact q
        · rw [decide_eq_false h3] at q
          try simp (decide := true) only [↓i_var, ↓i_con, ↓i_kon, ↓i_bin, ↓i_neg, ↓i_not, ↓i_and, ↓i_or, ↓i_and0, ↓i_or0, ↓i_and1, ↓i_or1, ↓i_cmp, ↓i_chain, ↓i_lst, ↓i_tup, ↓i_dnew, ↓i_call, ↓i_mk, ↓i_bcall, ↓i_isi, ↓i_meth, ↓i_sel, ↓i_selL, ↓i_fld, ↓i_idx, ↓i_sl, ↓i_lrng, ↓i_lc, ↓i_nil, ↓i_cons, ↓i_o0, ↓i_o1, ↓i_opt, ↓i_seq, ↓i_rng1, ↓i_rng2, ↓i_enum, ↓i_zip, ↓i_wk, ↓i_tst, ↓ws_done, ↓ws_asg, ↓ws_asgT, ↓ws_ofE, ↓ws_of, ↓ws_asgF, ↓ws_asgI, ↓ws_aug, ↓ws_expr, ↓ws_ret, ↓ws_retN, ↓ws_ite, ↓ws_loop, ↓ws_whil, ↓boolIs_b, ↓intIs_i, ↓slot_0, ↓slot_1, ↓set_0, ↓set_1, ↓R.is_ok, ↓SR.is_rt, ↓SR.is_nx, ↓i_ofB, ↓wt_non, ↓wt_bl, ↓wt_int, ↓wt_str, ↓wt_tup, ↓wt_rol, ↓ib_add, ↓ib_sub, ↓ib_fdiv, ↓ib_mod, ↓ib_pow, ↓ib_band, ↓ib_shr, ↓ic_lt, ↓ic_le, ↓ic_gt, ↓ic_ge, ↓ic_is, ↓ic_isnot, ↓ic_eqI, ↓ic_neI, ↓ic_eqB, ↓ic_in1, ↓il_lenT, ↓tx_0, ↓tx_1, ↓tx_2, ↓ineg_i, ↓ws_try, ↓i_isx, ↓xx_done, ↓xx_rais, decide_true, decide_false, Bool.not_true, Bool.not_false, List.length_cons, List.length_nil, Int.reduceToNat, decide_eq_true_eq, Bool.not_eq_true', decide_eq_false_iff_not, Bool.true_eq_false, Bool.false_eq_true, if_true, if_false, reduceCtorEq, not_false_eq_true, not_true_eq_false, or_false, or_true, and_true, true_and, List.nil_append, List.cons_append, h2, h3]
          exact q
      · have e : isDoor cs (h, i) = false := by simp [isDoor, h2]
        rw [e] at q
        try simp (decide := true) only [↓i_var, ↓i_con, ↓i_kon, ↓i_bin, ↓i_neg, ↓i_not, ↓i_and, ↓i_or, ↓i_and0, ↓i_or0, ↓i_and1, ↓i_or1, ↓i_cmp, ↓i_chain, ↓i_lst, ↓i_tup, ↓i_dnew, ↓i_call, ↓i_mk, ↓i_bcall, ↓i_isi, ↓i_meth, ↓i_sel, ↓i_selL, ↓i_fld, ↓i_idx, ↓i_sl, ↓i_lrng, ↓i_lc, ↓i_nil, ↓i_cons, ↓i_o0, ↓i_o1, ↓i_opt, ↓i_seq, ↓i_rng1, ↓i_rng2, ↓i_enum, ↓i_zip, ↓i_wk, ↓i_tst, ↓ws_done, ↓ws_asg, ↓ws_asgT, ↓ws_ofE, ↓ws_of, ↓ws_asgF, ↓ws_asgI, ↓ws_aug, ↓ws_expr, ↓ws_ret, ↓ws_retN, ↓ws_ite, ↓ws_loop, ↓ws_whil, ↓boolIs_b, ↓intIs_i, ↓slot_0, ↓slot_1, ↓set_0, ↓set_1, ↓R.is_ok, ↓SR.is_rt, ↓SR.is_nx, ↓i_ofB, ↓wt_non, ↓wt_bl, ↓wt_int, ↓wt_str, ↓wt_tup, ↓wt_rol, ↓ib_add, ↓ib_sub, ↓ib_fdiv, ↓ib_mod, ↓ib_pow, ↓ib_band, ↓ib_shr, ↓ic_lt, ↓ic_le, ↓ic_gt, ↓ic_ge, ↓ic_is, ↓ic_isnot, ↓ic_eqI, ↓ic_neI, ↓ic_eqB, ↓ic_in1, ↓il_lenT, ↓tx_0, ↓tx_1, ↓tx_2, ↓ineg_i, ↓ws_try, ↓i_isx, ↓xx_done, ↓xx_rais, decide_true, decide_false, Bool.not_true, Bool.not_false, List.length_cons, List.length_nil, Int.reduceToNat, decide_eq_true_eq, Bool.not_eq_true', decide_eq_false_iff_not, Bool.true_eq_false, Bool.false_eq_true, if_true, if_false, reduceCtorEq, not_false_eq_true, not_true_eq_false, or_false, or_true, and_true, true_and, List.nil_append, List.cons_append, h2]
        exact q
    · have e : isDoor cs (h, i) = false := by simp [isDoor, h1]
      rw [e] at q
      try simp (decide := true) only [↓i_var, ↓i_con, ↓i_kon, ↓i_bin, ↓i_neg, ↓i_not, ↓i_and, ↓i_or, ↓i_and0, ↓i_or0, ↓i_and1, ↓i_or1, ↓i_cmp, ↓i_chain, ↓i_lst, ↓i_tup, ↓i_dnew, ↓i_call, ↓i_mk, ↓i_bcall, ↓i_isi, ↓i_meth, ↓i_sel, ↓i_selL, ↓i_fld, ↓i_idx, ↓i_sl, ↓i_lrng, ↓i_lc, ↓i_nil, ↓i_cons, ↓i_o0, ↓i_o1, ↓i_opt, ↓i_seq, ↓i_rng1, ↓i_rng2, ↓i_enum, ↓i_zip, ↓i_wk, ↓i_tst, ↓ws_done, ↓ws_asg, ↓ws_asgT, ↓ws_ofE, ↓ws_of, ↓ws_asgF, ↓ws_asgI, ↓ws_aug, ↓ws_expr, ↓ws_ret, ↓ws_retN, ↓ws_ite, ↓ws_loop, ↓ws_whil, ↓boolIs_b, ↓intIs_i, ↓slot_0, ↓slot_1, ↓set_0, ↓set_1, ↓R.is_ok, ↓SR.is_rt, ↓SR.is_nx, ↓i_ofB, ↓wt_non, ↓wt_bl, ↓wt_int, ↓wt_str, ↓wt_tup, ↓wt_rol, ↓ib_add, ↓ib_sub, ↓ib_fdiv, ↓ib_mod, ↓ib_pow, ↓ib_band, ↓ib_shr, ↓ic_lt, ↓ic_le, ↓ic_gt, ↓ic_ge, ↓ic_is, ↓ic_isnot, ↓ic_eqI, ↓ic_neI, ↓ic_eqB, ↓ic_in1, ↓il_lenT, ↓tx_0, ↓tx_1, ↓tx_2, ↓ineg_i, ↓ws_try, ↓i_isx, ↓xx_done, ↓xx_rais, decide_true, decide_false, Bool.not_true, Bool.not_false, List.length_cons, List.length_nil, Int.reduceToNat, decide_eq_true_eq, Bool.not_eq_true', decide_eq_false_iff_not, Bool.true_eq_false, Bool.false_eq_true, if_true, if_false, reduceCtorEq, not_false_eq_true, not_true_eq_false, or_false, or_true, and_true, true_and, List.nil_append, List.cons_append, h0, h1]
      exact q
  · have e : isDoor cs (h, i) = false := by simp [isDoor, h0]
    rw [e] at q
    try simp (decide := true) only [↓i_var, ↓i_con, ↓i_kon, ↓i_bin, ↓i_neg, ↓i_not, ↓i_and, ↓i_or, ↓i_and0, ↓i_or0, ↓i_and1, ↓i_or1, ↓i_cmp, ↓i_chain, ↓i_lst, ↓i_tup, ↓i_dnew, ↓i_call, ↓i_mk, ↓i_bcall, ↓i_isi, ↓i_meth, ↓i_sel, ↓i_selL, ↓i_fld, ↓i_idx, ↓i_sl, ↓i_lrng, ↓i_lc, ↓i_nil, ↓i_cons, ↓i_o0, ↓i_o1, ↓i_opt, ↓i_seq, ↓i_rng1, ↓i_rng2, ↓i_enum, ↓i_zip, ↓i_wk, ↓i_tst, ↓ws_done, ↓ws_asg, ↓ws_asgT, ↓ws_ofE, ↓ws_of, ↓ws_asgF, ↓ws_asgI, ↓ws_aug, ↓ws_expr, ↓ws_ret, ↓ws_retN, ↓ws_ite, ↓ws_loop, ↓ws_whil, ↓boolIs_b, ↓intIs_i, ↓slot_0, ↓slot_1, ↓set_0, ↓set_1, ↓R.is_ok, ↓SR.is_rt, ↓SR.is_nx, ↓i_ofB, ↓wt_non, ↓wt_bl, ↓wt_int, ↓wt_str, ↓wt_tup, ↓wt_rol, ↓ib_add, ↓ib_sub, ↓ib_fdiv, ↓ib_mod, ↓ib_pow, ↓ib_band, ↓ib_shr, ↓ic_lt, ↓ic_le, ↓ic_gt, ↓ic_ge, ↓ic_is, ↓ic_isnot, ↓ic_eqI, ↓ic_neI, ↓ic_eqB, ↓ic_in1, ↓il_lenT, ↓tx_0, ↓tx_1, ↓tx_2, ↓ineg_i, ↓ws_try, ↓i_isx, ↓xx_done, ↓xx_rais, decide_true, decide_false, Bool.not_true, Bool.not_false, List.length_cons, List.length_nil, Int.reduceToNat, decide_eq_true_eq, Bool.not_eq_true', decide_eq_false_iff_not, Bool.true_eq_false, Bool.false_eq_true, if_true, if_false, reduceCtorEq, not_false_eq_true, not_true_eq_false, or_false, or_true, and_true, true_and, List.nil_append, List.cons_append, h0]
    exact q
theorem inA_dT {st : Sto} {n : Nat} {kvs : Tbl} {d : Door} (h : st[n]? = some (.dT kvs)) : inA st (doorV d) (.ref n) = some (hasK (doorK d) kvs) := by
  unfold inA
  dsimp only
  rw [h]
  dsimp only
  rw [keyT_door]
theorem ws_setD {st : Sto} {n : Nat} {kvs : Tbl} {d : Door} {v : AV} {g : Sto → SR} {N : Slots → Sto → Prop} {Tr : AV → Sto → Prop} (h : st[n]? = some (.dT kvs)) (hl : kvs.length < lim) : (SR.of (setI (.ref n) (doorV d) v st) g).Is N Tr = (g (st.set n (.dT (putK (doorK d) v kvs)))).Is N Tr := by
  unfold setI
  dsimp only
  rw [h]
  dsimp only
  rw [keyT_door]
  dsimp only
  rw [if_pos hl]
  rfl
theorem has_put (k k' : List Key) (v : AV) (kvs : Tbl) : hasK k' (putK k v kvs) = (decide (k' = k) || hasK k' kvs) := by
  rw [hasK_get, getK_put, hasK_get]
  by_cases e : k' = k
  · rw [if_pos e, decide_eq_true e]; rfl
  · rw [if_neg e, decide_eq_false e, Bool.false_or]
theorem wires_1 {n : Nat} {s : Sto} {N : Slots → Sto → Prop} {Tr : AV → Sto → Prop} {a sd : Nat} {cs : List Int} {d : Door} {kvs : Tbl} {v0 z3 : Option AV} (ha : s[a]? = some (.lst (cs.map AV.int))) (hs : s[sd]? = some (.dT kvs)) (hk : hasK (doorK d) kvs = false) (hd : isDoor cs d = true) (hl : kvs.length < lim)
    (q : N [v0, some (.ref a), some (.ref sd), z3, some (doorV d)] (s.set sd (.dT (putK (doorK d) (.bl true) kvs)))) :
    (exS tab (callF tab (n + 2)) (lev tab (n + 2)).2 c_are_wires_1 [v0, some (.ref a), some (.ref sd), z3, some (doorV d)] s).Is N Tr := by
  try simp (decide := true) only [↓i_var, ↓i_con, ↓i_kon, ↓i_bin, ↓i_neg, ↓i_not, ↓i_and, ↓i_or, ↓i_and0, ↓i_or0, ↓i_and1, ↓i_or1, ↓i_cmp, ↓i_chain, ↓i_lst, ↓i_tup, ↓i_dnew, ↓i_call, ↓i_mk, ↓i_bcall, ↓i_isi, ↓i_meth, ↓i_sel, ↓i_selL, ↓i_fld, ↓i_idx, ↓i_sl, ↓i_lrng, ↓i_lc, ↓i_nil, ↓i_cons, ↓i_o0, ↓i_o1, ↓i_opt, ↓i_seq, ↓i_rng1, ↓i_rng2, ↓i_enum, ↓i_zip, ↓i_wk, ↓i_tst, ↓ws_done, ↓ws_asg, ↓ws_asgT, ↓ws_ofE, ↓ws_of, ↓ws_asgF, ↓ws_asgI, ↓ws_aug, ↓ws_expr, ↓ws_ret, ↓ws_retN, ↓ws_ite, ↓ws_loop, ↓ws_whil, ↓boolIs_b, ↓intIs_i, ↓slot_0, ↓slot_1, ↓set_0, ↓set_1, ↓R.is_ok, ↓SR.is_rt, ↓SR.is_nx, ↓i_ofB, ↓wt_non, ↓wt_bl, ↓wt_int, ↓wt_str, ↓wt_tup, ↓wt_rol, ↓ib_add, ↓ib_sub, ↓ib_fdiv, ↓ib_mod, ↓ib_pow, ↓ib_band, ↓ib_shr, ↓ic_lt, ↓ic_le, ↓ic_gt, ↓ic_ge, ↓ic_is, ↓ic_isnot, ↓ic_eqI, ↓ic_neI, ↓ic_eqB, ↓ic_in1, ↓il_lenT, ↓tx_0, ↓tx_1, ↓tx_2, ↓ineg_i, ↓ws_try, ↓i_isx, ↓xx_done, ↓xx_rais, decide_true, decide_false, Bool.not_true, Bool.not_false, List.length_cons, List.length_nil, Int.reduceToNat, decide_eq_true_eq, Bool.not_eq_true', decide_eq_false_iff_not, Bool.true_eq_false, Bool.false_eq_true, if_true, if_false, reduceCtorEq, not_false_eq_true, not_true_eq_false, or_false, or_true, and_true, true_and, List.nil_append, List.cons_append, c_are_wires_1]
  refine doorOf_is ha ?_
  rw [hd]
  have e := inA_dT (d := d) hs
  rw [hk] at e
  try simp (decide := true) only [↓i_var, ↓i_con, ↓i_kon, ↓i_bin, ↓i_neg, ↓i_not, ↓i_and, ↓i_or, ↓i_and0, ↓i_or0, ↓i_and1, ↓i_or1, ↓i_cmp, ↓i_chain, ↓i_lst, ↓i_tup, ↓i_dnew, ↓i_call, ↓i_mk, ↓i_bcall, ↓i_isi, ↓i_meth, ↓i_sel, ↓i_selL, ↓i_fld, ↓i_idx, ↓i_sl, ↓i_lrng, ↓i_lc, ↓i_nil, ↓i_cons, ↓i_o0, ↓i_o1, ↓i_opt, ↓i_seq, ↓i_rng1, ↓i_rng2, ↓i_enum, ↓i_zip, ↓i_wk, ↓i_tst, ↓ws_done, ↓ws_asg, ↓ws_asgT, ↓ws_ofE, ↓ws_of, ↓ws_asgF, ↓ws_asgI, ↓ws_aug, ↓ws_expr, ↓ws_ret, ↓ws_retN, ↓ws_ite, ↓ws_loop, ↓ws_whil, ↓boolIs_b, ↓intIs_i, ↓slot_0, ↓slot_1, ↓set_0, ↓set_1, ↓R.is_ok, ↓SR.is_rt, ↓SR.is_nx, ↓i_ofB, ↓wt_non, ↓wt_bl, ↓wt_int, ↓wt_str, ↓wt_tup, ↓wt_rol, ↓ib_add, ↓ib_sub, ↓ib_fdiv, ↓ib_mod, ↓ib_pow, ↓ib_band, ↓ib_shr, ↓ic_lt, ↓ic_le, ↓ic_gt, ↓ic_ge, ↓ic_is, ↓ic_isnot, ↓ic_eqI, ↓ic_neI, ↓ic_eqB, ↓ic_in1, ↓il_lenT, ↓tx_0, ↓tx_1, ↓tx_2, ↓ineg_i, ↓ws_try, ↓i_isx, ↓xx_done, ↓xx_rais, decide_true, decide_false, Bool.not_true, Bool.not_false, List.length_cons, List.length_nil, Int.reduceToNat, decide_eq_true_eq, Bool.not_eq_true', decide_eq_false_iff_not, Bool.true_eq_false, Bool.false_eq_true, if_true, if_false, reduceCtorEq, not_false_eq_true, not_true_eq_false, or_false, or_true, and_true, true_and, List.nil_append, List.cons_append, ↓ic_in e]
  rw [ws_setD hs hl]
  exact q
theorem wires_is {n : Nat} {st : Sto} {a b : Nat} {cs : List Int} {ws : List Wire} {Q : AV → Sto → Prop} (ha : st[a]? = some (.lst (cs.map AV.int))) (hb : st[b]? = some (.lst (ws.map wireV))) (hd : ∀ d ∈ endsOf ws, isDoor cs d = true) (hn : (endsOf ws).Nodup) (hl : ws.length ≤ 1000) (q : ∀ s, Ext st s → Q (.bl true) s) : (callF tab (n + 3) g_are_wires [.ref b, .ref a] st).Is Q := by
  refine call_is rfl rfl ?_; simp only [List.map_cons, List.map_nil, List.cons_append, List.nil_append, List.replicate_succ, List.replicate_zero, Nat.reduceSub]
  try simp (decide := true) only [↓i_var, ↓i_con, ↓i_kon, ↓i_bin, ↓i_neg, ↓i_not, ↓i_and, ↓i_or, ↓i_and0, ↓i_or0, ↓i_and1, ↓i_or1, ↓i_cmp, ↓i_chain, ↓i_lst, ↓i_tup, ↓i_dnew, ↓i_call, ↓i_mk, ↓i_bcall, ↓i_isi, ↓i_meth, ↓i_sel, ↓i_selL, ↓i_fld, ↓i_idx, ↓i_sl, ↓i_lrng, ↓i_lc, ↓i_nil, ↓i_cons, ↓i_o0, ↓i_o1, ↓i_opt, ↓i_seq, ↓i_rng1, ↓i_rng2, ↓i_enum, ↓i_zip, ↓i_wk, ↓i_tst, ↓ws_done, ↓ws_asg, ↓ws_asgT, ↓ws_ofE, ↓ws_of, ↓ws_asgF, ↓ws_asgI, ↓ws_aug, ↓ws_expr, ↓ws_ret, ↓ws_retN, ↓ws_ite, ↓ws_loop, ↓ws_whil, ↓boolIs_b, ↓intIs_i, ↓slot_0, ↓slot_1, ↓set_0, ↓set_1, ↓R.is_ok, ↓SR.is_rt, ↓SR.is_nx, ↓i_ofB, ↓wt_non, ↓wt_bl, ↓wt_int, ↓wt_str, ↓wt_tup, ↓wt_rol, ↓ib_add, ↓ib_sub, ↓ib_fdiv, ↓ib_mod, ↓ib_pow, ↓ib_band, ↓ib_shr, ↓ic_lt, ↓ic_le, ↓ic_gt, ↓ic_ge, ↓ic_is, ↓ic_isnot, ↓ic_eqI, ↓ic_neI, ↓ic_eqB, ↓ic_in1, ↓il_lenT, ↓tx_0, ↓tx_1, ↓tx_2, ↓ineg_i, ↓ws_try, ↓i_isx, ↓xx_done, ↓xx_rais, decide_true, decide_false, Bool.not_true, Bool.not_false, List.length_cons, List.length_nil, Int.reduceToNat, decide_eq_true_eq, Bool.not_eq_true', decide_eq_false_iff_not, Bool.true_eq_false, Bool.false_eq_true, if_true, if_false, reduceCtorEq, not_false_eq_true, not_true_eq_false, or_false, or_true, and_true, true_and, List.nil_append, List.cons_append, c_are_wires, ↓wt_lst hb]
  have g0 := get_push st (AO.dT [])
  have x0 := Ext.push st (AO.dT [])
  generalize st ++ [AO.dT []] = s0 at g0 x0 ⊢
  rw [iw_lst (x0 _ _ hb)]
  refine for_is (fun k e s => ∃ (z3 z4 : Option AV) (kvs : Tbl), e = [some (.ref b), some (.ref a), some (.ref st.length), z3, z4] ∧ Ext st s ∧ s[st.length]? = some (.dT kvs) ∧ kvs.length ≤ 2 * k ∧ k ≤ ws.length ∧ ∀ d, hasK (doorK d) kvs = decide (d ∈ endsOf (ws.take k))) _ 0 _ _ ⟨_, _, [], rfl, x0, g0, Nat.le_refl _, Nat.zero_le _, fun d => by simp [endsOf, hasK]⟩ (fun i y e s hy hI => ?_) fun e s hI => ?_
  · obtain ⟨z3, z4, kvs, rfl, hE, hs, hkl, hk, hh⟩ := hI
    rw [Nat.zero_add] at hkl hk hh
    rw [List.getElem?_map] at hy
    obtain ⟨w, hw, rfl⟩ := Option.map_eq_some_iff.mp hy
    have hi := (List.getElem?_eq_some_iff.mp hw).1
    refine ⟨ck_lst (hE _ _ hb), _, rfl, ?_⟩
    have tk : ws.take (i + 1) = ws.take i ++ [w] := by rw [List.take_add_one, hw]; rfl
    have sp : endsOf ws = endsOf (ws.take (i + 1)) ++ endsOf (ws.drop (i + 1)) := by
      unfold endsOf
      rw [← List.flatMap_append, List.take_append_drop]
    rw [tk, ends_snoc] at sp
    have m1 : w.1 ∈ endsOf ws := by rw [sp]; simp
    have m2 : w.2 ∈ endsOf ws := by rw [sp]; simp
    have nd : w.1 ∉ endsOf (ws.take i) ∧ w.2 ∉ endsOf (ws.take i) ∧ w.1 ≠ w.2 := by
      rw [sp, List.append_assoc] at hn
      have h1 := List.nodup_append.mp hn
      have h2 := h1.2.1
      have h3 := h1.2.2
      refine ⟨fun z => h3 _ z _ (by simp) rfl, fun z => h3 _ z _ (by simp) rfl, fun z => ?_⟩
      rw [z] at h2
      simp at h2
    simp only [bindT, bindT.go, wipeA, List.set_cons_zero, List.set_cons_succ]
    try simp (decide := true) only [↓i_var, ↓i_con, ↓i_kon, ↓i_bin, ↓i_neg, ↓i_not, ↓i_and, ↓i_or, ↓i_and0, ↓i_or0, ↓i_and1, ↓i_or1, ↓i_cmp, ↓i_chain, ↓i_lst, ↓i_tup, ↓i_dnew, ↓i_call, ↓i_mk, ↓i_bcall, ↓i_isi, ↓i_meth, ↓i_sel, ↓i_selL, ↓i_fld, ↓i_idx, ↓i_sl, ↓i_lrng, ↓i_lc, ↓i_nil, ↓i_cons, ↓i_o0, ↓i_o1, ↓i_opt, ↓i_seq, ↓i_rng1, ↓i_rng2, ↓i_enum, ↓i_zip, ↓i_wk, ↓i_tst, ↓ws_done, ↓ws_asg, ↓ws_asgT, ↓ws_ofE, ↓ws_of, ↓ws_asgF, ↓ws_asgI, ↓ws_aug, ↓ws_expr, ↓ws_ret, ↓ws_retN, ↓ws_ite, ↓ws_loop, ↓ws_whil, ↓boolIs_b, ↓intIs_i, ↓slot_0, ↓slot_1, ↓set_0, ↓set_1, ↓R.is_ok, ↓SR.is_rt, ↓SR.is_nx, ↓i_ofB, ↓wt_non, ↓wt_bl, ↓wt_int, ↓wt_str, ↓wt_tup, ↓wt_rol, ↓ib_add, ↓ib_sub, ↓ib_fdiv, ↓ib_mod, ↓ib_pow, ↓ib_band, ↓ib_shr, ↓ic_lt, ↓ic_le, ↓ic_gt, ↓ic_ge, ↓ic_is, ↓ic_isnot, ↓ic_eqI, ↓ic_neI, ↓ic_eqB, ↓ic_in1, ↓il_lenT, ↓tx_0, ↓tx_1, ↓tx_2, ↓ineg_i, ↓ws_try, ↓i_isx, ↓xx_done, ↓xx_rais, decide_true, decide_false, Bool.not_true, Bool.not_false, List.length_cons, List.length_nil, Int.reduceToNat, decide_eq_true_eq, Bool.not_eq_true', decide_eq_false_iff_not, Bool.true_eq_false, Bool.false_eq_true, if_true, if_false, reduceCtorEq, not_false_eq_true, not_true_eq_false, or_false, or_true, and_true, true_and, List.nil_append, List.cons_append, c_are_wires_2]
    have hwt : (R.ofB (isA tab .tuple (wireV w) s) s) = .ok (.bl true) s := rfl
    rw [hwt]
    have e2 : ∀ Q : AV → Sto → Prop, (callB .len [wireV w] s).Is Q = Q (.int 2) s := fun Q => rfl
    try simp (decide := true) only [↓i_var, ↓i_con, ↓i_kon, ↓i_bin, ↓i_neg, ↓i_not, ↓i_and, ↓i_or, ↓i_and0, ↓i_or0, ↓i_and1, ↓i_or1, ↓i_cmp, ↓i_chain, ↓i_lst, ↓i_tup, ↓i_dnew, ↓i_call, ↓i_mk, ↓i_bcall, ↓i_isi, ↓i_meth, ↓i_sel, ↓i_selL, ↓i_fld, ↓i_idx, ↓i_sl, ↓i_lrng, ↓i_lc, ↓i_nil, ↓i_cons, ↓i_o0, ↓i_o1, ↓i_opt, ↓i_seq, ↓i_rng1, ↓i_rng2, ↓i_enum, ↓i_zip, ↓i_wk, ↓i_tst, ↓ws_done, ↓ws_asg, ↓ws_asgT, ↓ws_ofE, ↓ws_of, ↓ws_asgF, ↓ws_asgI, ↓ws_aug, ↓ws_expr, ↓ws_ret, ↓ws_retN, ↓ws_ite, ↓ws_loop, ↓ws_whil, ↓boolIs_b, ↓intIs_i, ↓slot_0, ↓slot_1, ↓set_0, ↓set_1, ↓R.is_ok, ↓SR.is_rt, ↓SR.is_nx, ↓i_ofB, ↓wt_non, ↓wt_bl, ↓wt_int, ↓wt_str, ↓wt_tup, ↓wt_rol, ↓ib_add, ↓ib_sub, ↓ib_fdiv, ↓ib_mod, ↓ib_pow, ↓ib_band, ↓ib_shr, ↓ic_lt, ↓ic_le, ↓ic_gt, ↓ic_ge, ↓ic_is, ↓ic_isnot, ↓ic_eqI, ↓ic_neI, ↓ic_eqB, ↓ic_in1, ↓il_lenT, ↓tx_0, ↓tx_1, ↓tx_2, ↓ineg_i, ↓ws_try, ↓i_isx, ↓xx_done, ↓xx_rais, decide_true, decide_false, Bool.not_true, Bool.not_false, List.length_cons, List.length_nil, Int.reduceToNat, decide_eq_true_eq, Bool.not_eq_true', decide_eq_false_iff_not, Bool.true_eq_false, Bool.false_eq_true, if_true, if_false, reduceCtorEq, not_false_eq_true, not_true_eq_false, or_false, or_true, and_true, true_and, List.nil_append, List.cons_append, ↓e2]
    have e3 : ∀ QW : Wk → Sto → Prop, (wkA (srcA s (wireV w)) s).Is QW = QW ⟨[doorV w.1, doorV w.2], none, none⟩ s := fun QW => rfl
    rw [e3]
    have hml := get_lt hs
    refine for_cons rfl rfl ?_
    simp only [bindT, bindT.go, wipeA, List.set_cons_zero, List.set_cons_succ]
    refine wires_1 (hE _ _ ha) hs (by rw [hh, decide_eq_false nd.1]) (hd _ m1) (by unfold lim; omega) ?_
    have hs1 := get_set (o := AO.dT (putK (doorK w.1) (.bl true) kvs)) hs
    have hE1 : Ext st (s.set st.length (.dT (putK (doorK w.1) (.bl true) kvs))) := Ext.set hE (Nat.le_refl _)
    have pl := put_len (doorK w.1) (.bl true) kvs
    have hh1 : ∀ d, hasK (doorK d) (putK (doorK w.1) (.bl true) kvs) = (decide (d = w.1) || decide (d ∈ endsOf (ws.take i))) := fun d => by
      rw [has_put, hh]
      congr 1
      rw [decide_eq_decide]
      exact doorK_inj
    generalize s.set st.length (.dT (putK (doorK w.1) (.bl true) kvs)) = s1 at hs1 hE1 ⊢
    generalize putK (doorK w.1) (.bl true) kvs = kvs1 at hs1 pl hh1
    refine for_cons rfl rfl ?_
    simp only [bindT, bindT.go, wipeA, List.set_cons_zero, List.set_cons_succ]
    refine wires_1 (hE1 _ _ ha) hs1 (by rw [hh1, decide_eq_false nd.2.1, decide_eq_false (Ne.symm nd.2.2)]; rfl) (hd _ m2) (by unfold lim; omega) ?_
    have pl2 := put_len (doorK w.2) (.bl true) kvs1
    refine for_nil rfl ?_
    try simp (decide := true) only [↓i_var, ↓i_con, ↓i_kon, ↓i_bin, ↓i_neg, ↓i_not, ↓i_and, ↓i_or, ↓i_and0, ↓i_or0, ↓i_and1, ↓i_or1, ↓i_cmp, ↓i_chain, ↓i_lst, ↓i_tup, ↓i_dnew, ↓i_call, ↓i_mk, ↓i_bcall, ↓i_isi, ↓i_meth, ↓i_sel, ↓i_selL, ↓i_fld, ↓i_idx, ↓i_sl, ↓i_lrng, ↓i_lc, ↓i_nil, ↓i_cons, ↓i_o0, ↓i_o1, ↓i_opt, ↓i_seq, ↓i_rng1, ↓i_rng2, ↓i_enum, ↓i_zip, ↓i_wk, ↓i_tst, ↓ws_done, ↓ws_asg, ↓ws_asgT, ↓ws_ofE, ↓ws_of, ↓ws_asgF, ↓ws_asgI, ↓ws_aug, ↓ws_expr, ↓ws_ret, ↓ws_retN, ↓ws_ite, ↓ws_loop, ↓ws_whil, ↓boolIs_b, ↓intIs_i, ↓slot_0, ↓slot_1, ↓set_0, ↓set_1, ↓R.is_ok, ↓SR.is_rt, ↓SR.is_nx, ↓i_ofB, ↓wt_non, ↓wt_bl, ↓wt_int, ↓wt_str, ↓wt_tup, ↓wt_rol, ↓ib_add, ↓ib_sub, ↓ib_fdiv, ↓ib_mod, ↓ib_pow, ↓ib_band, ↓ib_shr, ↓ic_lt, ↓ic_le, ↓ic_gt, ↓ic_ge, ↓ic_is, ↓ic_isnot, ↓ic_eqI, ↓ic_neI, ↓ic_eqB, ↓ic_in1, ↓il_lenT, ↓tx_0, ↓tx_1, ↓tx_2, ↓ineg_i, ↓ws_try, ↓i_isx, ↓xx_done, ↓xx_rais, decide_true, decide_false, Bool.not_true, Bool.not_false, List.length_cons, List.length_nil, Int.reduceToNat, decide_eq_true_eq, Bool.not_eq_true', decide_eq_false_iff_not, Bool.true_eq_false, Bool.false_eq_true, if_true, if_false, reduceCtorEq, not_false_eq_true, not_true_eq_false, or_false, or_true, and_true, true_and, List.nil_append, List.cons_append]
    refine ⟨_, _, putK (doorK w.2) (.bl true) kvs1, rfl, Ext.set hE1 (Nat.le_refl _), get_set hs1, by omega, by omega, fun d => ?_⟩
    rw [has_put, hh1, show 0 + i + 1 = i + 1 by omega, tk, ends_snoc, Bool.eq_iff_iff]
    simp only [Bool.or_eq_true, decide_eq_true_eq, List.mem_append, List.mem_cons, List.not_mem_nil, or_false, doorK_inj]
    constructor
    · rintro (h | h | h)
      · exact .inr (.inr h)
      · exact .inr (.inl h)
      · exact .inl h
    · rintro (h | h | h)
      · exact .inr (.inr h)
      · exact .inr (.inl h)
      · exact .inl h
  · obtain ⟨z3, z4, kvs, rfl, hE, hs, hkl, hk, hh⟩ := hI
    refine ⟨ck_lst (hE _ _ hb), ?_⟩
    try simp (decide := true) only [↓i_var, ↓i_con, ↓i_kon, ↓i_bin, ↓i_neg, ↓i_not, ↓i_and, ↓i_or, ↓i_and0, ↓i_or0, ↓i_and1, ↓i_or1, ↓i_cmp, ↓i_chain, ↓i_lst, ↓i_tup, ↓i_dnew, ↓i_call, ↓i_mk, ↓i_bcall, ↓i_isi, ↓i_meth, ↓i_sel, ↓i_selL, ↓i_fld, ↓i_idx, ↓i_sl, ↓i_lrng, ↓i_lc, ↓i_nil, ↓i_cons, ↓i_o0, ↓i_o1, ↓i_opt, ↓i_seq, ↓i_rng1, ↓i_rng2, ↓i_enum, ↓i_zip, ↓i_wk, ↓i_tst, ↓ws_done, ↓ws_asg, ↓ws_asgT, ↓ws_ofE, ↓ws_of, ↓ws_asgF, ↓ws_asgI, ↓ws_aug, ↓ws_expr, ↓ws_ret, ↓ws_retN, ↓ws_ite, ↓ws_loop, ↓ws_whil, ↓boolIs_b, ↓intIs_i, ↓slot_0, ↓slot_1, ↓set_0, ↓set_1, ↓R.is_ok, ↓SR.is_rt, ↓SR.is_nx, ↓i_ofB, ↓wt_non, ↓wt_bl, ↓wt_int, ↓wt_str, ↓wt_tup, ↓wt_rol, ↓ib_add, ↓ib_sub, ↓ib_fdiv, ↓ib_mod, ↓ib_pow, ↓ib_band, ↓ib_shr, ↓ic_lt, ↓ic_le, ↓ic_gt, ↓ic_ge, ↓ic_is, ↓ic_isnot, ↓ic_eqI, ↓ic_neI, ↓ic_eqB, ↓ic_in1, ↓il_lenT, ↓tx_0, ↓tx_1, ↓tx_2, ↓ineg_i, ↓ws_try, ↓i_isx, ↓xx_done, ↓xx_rais, decide_true, decide_false, Bool.not_true, Bool.not_false, List.length_cons, List.length_nil, Int.reduceToNat, decide_eq_true_eq, Bool.not_eq_true', decide_eq_false_iff_not, Bool.true_eq_false, Bool.false_eq_true, if_true, if_false, reduceCtorEq, not_false_eq_true, not_true_eq_false, or_false, or_true, and_true, true_and, List.nil_append, List.cons_append]
    exact q s hE
theorem ws_setF {st : Sto} {n c f : Nat} {fs : List (Nat × AV)} {v : AV} {g : Sto → SR} {N : Slots → Sto → Prop} {Tr : AV → Sto → Prop} (h : st[n]? = some (.ins c fs)) (k : tab.fl c f = true) (hl : fs.length < 900) : (SR.of (setF tab (.ref n) f v st) g).Is N Tr = (g (st.set n (.ins c (putA f v fs)))).Is N Tr := by
  unfold setF
  dsimp only
  rw [h]
  dsimp only
  rw [if_pos ⟨k, hl⟩]
  rfl
structure NetWf (cs : List Int) (ws : List Wire) : Prop where
  len1 : 1 ≤ cs.length
  len2 : cs.length ≤ 6
  cnt : ∀ c ∈ cs, 1 ≤ c ∧ c ≤ 4
  doors : ∀ d ∈ endsOf ws, isDoor cs d = true
  nodup : (endsOf ws).Nodup
  wl : ws.length ≤ 12
theorem init_is {n : Nat} {st : Sto} {m a b : Nat} {cs : List Int} {ws : List Wire} {Q : AV → Sto → Prop} (W : NetWf cs ws) (hm : st[m]? = some (.ins 10 [])) (ha : st[a]? = some (.lst (cs.map AV.int))) (hb : st[b]? = some (.lst (ws.map wireV)))
    (q : ∀ (s : Sto) (a2 b2 d : Nat), (∀ i u, i ≠ m → st[i]? = some u → s[i]? = some u) → st.length ≤ a2 → st.length ≤ b2 → st.length ≤ d → NetIns s m a2 b2 d cs ws → Q .non s) : (callF tab (n + 4) g_Net___init [.ref m, .ref a, .ref b] st).Is Q := by
  have hml := get_lt hm
  have ham : a ≠ m := fun e => by rw [e, hm] at ha; cases ha
  have hbm : b ≠ m := fun e => by rw [e, hm] at hb; cases hb
  refine call_is rfl rfl ?_; simp only [List.map_cons, List.map_nil, List.cons_append, List.nil_append, List.replicate_succ, List.replicate_zero, Nat.reduceSub]
  try simp (decide := true) only [↓i_var, ↓i_con, ↓i_kon, ↓i_bin, ↓i_neg, ↓i_not, ↓i_and, ↓i_or, ↓i_and0, ↓i_or0, ↓i_and1, ↓i_or1, ↓i_cmp, ↓i_chain, ↓i_lst, ↓i_tup, ↓i_dnew, ↓i_call, ↓i_mk, ↓i_bcall, ↓i_isi, ↓i_meth, ↓i_sel, ↓i_selL, ↓i_fld, ↓i_idx, ↓i_sl, ↓i_lrng, ↓i_lc, ↓i_nil, ↓i_cons, ↓i_o0, ↓i_o1, ↓i_opt, ↓i_seq, ↓i_rng1, ↓i_rng2, ↓i_enum, ↓i_zip, ↓i_wk, ↓i_tst, ↓ws_done, ↓ws_asg, ↓ws_asgT, ↓ws_ofE, ↓ws_of, ↓ws_asgF, ↓ws_asgI, ↓ws_aug, ↓ws_expr, ↓ws_ret, ↓ws_retN, ↓ws_ite, ↓ws_loop, ↓ws_whil, ↓boolIs_b, ↓intIs_i, ↓slot_0, ↓slot_1, ↓set_0, ↓set_1, ↓R.is_ok, ↓SR.is_rt, ↓SR.is_nx, ↓i_ofB, ↓wt_non, ↓wt_bl, ↓wt_int, ↓wt_str, ↓wt_tup, ↓wt_rol, ↓ib_add, ↓ib_sub, ↓ib_fdiv, ↓ib_mod, ↓ib_pow, ↓ib_band, ↓ib_shr, ↓ic_lt, ↓ic_le, ↓ic_gt, ↓ic_ge, ↓ic_is, ↓ic_isnot, ↓ic_eqI, ↓ic_neI, ↓ic_eqB, ↓ic_in1, ↓il_lenT, ↓tx_0, ↓tx_1, ↓tx_2, ↓ineg_i, ↓ws_try, ↓i_isx, ↓xx_done, ↓xx_rais, decide_true, decide_false, Bool.not_true, Bool.not_false, List.length_cons, List.length_nil, Int.reduceToNat, decide_eq_true_eq, Bool.not_eq_true', decide_eq_false_iff_not, Bool.true_eq_false, Bool.false_eq_true, if_true, if_false, reduceCtorEq, not_false_eq_true, not_true_eq_false, or_false, or_true, and_true, true_and, List.nil_append, List.cons_append, c_Net___init]
  refine counts_is ha W.len1 W.len2 W.cnt fun s1 h1 => ?_
  try simp (decide := true) only [↓i_var, ↓i_con, ↓i_kon, ↓i_bin, ↓i_neg, ↓i_not, ↓i_and, ↓i_or, ↓i_and0, ↓i_or0, ↓i_and1, ↓i_or1, ↓i_cmp, ↓i_chain, ↓i_lst, ↓i_tup, ↓i_dnew, ↓i_call, ↓i_mk, ↓i_bcall, ↓i_isi, ↓i_meth, ↓i_sel, ↓i_selL, ↓i_fld, ↓i_idx, ↓i_sl, ↓i_lrng, ↓i_lc, ↓i_nil, ↓i_cons, ↓i_o0, ↓i_o1, ↓i_opt, ↓i_seq, ↓i_rng1, ↓i_rng2, ↓i_enum, ↓i_zip, ↓i_wk, ↓i_tst, ↓ws_done, ↓ws_asg, ↓ws_asgT, ↓ws_ofE, ↓ws_of, ↓ws_asgF, ↓ws_asgI, ↓ws_aug, ↓ws_expr, ↓ws_ret, ↓ws_retN, ↓ws_ite, ↓ws_loop, ↓ws_whil, ↓boolIs_b, ↓intIs_i, ↓slot_0, ↓slot_1, ↓set_0, ↓set_1, ↓R.is_ok, ↓SR.is_rt, ↓SR.is_nx, ↓i_ofB, ↓wt_non, ↓wt_bl, ↓wt_int, ↓wt_str, ↓wt_tup, ↓wt_rol, ↓ib_add, ↓ib_sub, ↓ib_fdiv, ↓ib_mod, ↓ib_pow, ↓ib_band, ↓ib_shr, ↓ic_lt, ↓ic_le, ↓ic_gt, ↓ic_ge, ↓ic_is, ↓ic_isnot, ↓ic_eqI, ↓ic_neI, ↓ic_eqB, ↓ic_in1, ↓il_lenT, ↓tx_0, ↓tx_1, ↓tx_2, ↓ineg_i, ↓ws_try, ↓i_isx, ↓xx_done, ↓xx_rais, decide_true, decide_false, Bool.not_true, Bool.not_false, List.length_cons, List.length_nil, Int.reduceToNat, decide_eq_true_eq, Bool.not_eq_true', decide_eq_false_iff_not, Bool.true_eq_false, Bool.false_eq_true, if_true, if_false, reduceCtorEq, not_false_eq_true, not_true_eq_false, or_false, or_true, and_true, true_and, List.nil_append, List.cons_append]
  refine wires_is (h1 _ _ ha) (h1 _ _ hb) W.doors W.nodup (by have := W.wl; omega) fun s2 h2 => ?_
  have hE := h1.trans h2
  have ha2 := hE _ _ ha
  try simp (decide := true) only [↓i_var, ↓i_con, ↓i_kon, ↓i_bin, ↓i_neg, ↓i_not, ↓i_and, ↓i_or, ↓i_and0, ↓i_or0, ↓i_and1, ↓i_or1, ↓i_cmp, ↓i_chain, ↓i_lst, ↓i_tup, ↓i_dnew, ↓i_call, ↓i_mk, ↓i_bcall, ↓i_isi, ↓i_meth, ↓i_sel, ↓i_selL, ↓i_fld, ↓i_idx, ↓i_sl, ↓i_lrng, ↓i_lc, ↓i_nil, ↓i_cons, ↓i_o0, ↓i_o1, ↓i_opt, ↓i_seq, ↓i_rng1, ↓i_rng2, ↓i_enum, ↓i_zip, ↓i_wk, ↓i_tst, ↓ws_done, ↓ws_asg, ↓ws_asgT, ↓ws_ofE, ↓ws_of, ↓ws_asgF, ↓ws_asgI, ↓ws_aug, ↓ws_expr, ↓ws_ret, ↓ws_retN, ↓ws_ite, ↓ws_loop, ↓ws_whil, ↓boolIs_b, ↓intIs_i, ↓slot_0, ↓slot_1, ↓set_0, ↓set_1, ↓R.is_ok, ↓SR.is_rt, ↓SR.is_nx, ↓i_ofB, ↓wt_non, ↓wt_bl, ↓wt_int, ↓wt_str, ↓wt_tup, ↓wt_rol, ↓ib_add, ↓ib_sub, ↓ib_fdiv, ↓ib_mod, ↓ib_pow, ↓ib_band, ↓ib_shr, ↓ic_lt, ↓ic_le, ↓ic_gt, ↓ic_ge, ↓ic_is, ↓ic_isnot, ↓ic_eqI, ↓ic_neI, ↓ic_eqB, ↓ic_in1, ↓il_lenT, ↓tx_0, ↓tx_1, ↓tx_2, ↓ineg_i, ↓ws_try, ↓i_isx, ↓xx_done, ↓xx_rais, decide_true, decide_false, Bool.not_true, Bool.not_false, List.length_cons, List.length_nil, Int.reduceToNat, decide_eq_true_eq, Bool.not_eq_true', decide_eq_false_iff_not, Bool.true_eq_false, Bool.false_eq_true, if_true, if_false, reduceCtorEq, not_false_eq_true, not_true_eq_false, or_false, or_true, and_true, true_and, List.nil_append, List.cons_append, ↓il_len ha2, List.length_map]
  rw [ws_setF (hE _ _ hm) rfl (by decide)]
  have k1 := get_set (o := AO.ins 10 [(22, .int (cs.length : Nat))]) (hE _ _ hm)
  have ka1 := get_set_o (o := AO.ins 10 [(22, .int (cs.length : Nat))]) ha2 ham
  have kb1 := get_set_o (o := AO.ins 10 [(22, .int (cs.length : Nat))]) (hE _ _ hb) hbm
  have E1 : ∀ i u, i ≠ m → st[i]? = some u → (s2.set m (.ins 10 [(22, .int (cs.length : Nat))]))[i]? = some u := fun i u h z => get_set_o (hE _ _ z) h
  have l1 : st.length ≤ (s2.set m (.ins 10 [(22, .int (cs.length : Nat))])).length := by rw [List.length_set]; exact hE.lt
  show (exS tab _ _ _ _ (s2.set m (.ins 10 [(22, .int (cs.length : Nat))]))).Is _ _
  generalize s2.set m (.ins 10 [(22, .int (cs.length : Nat))]) = s3 at k1 ka1 kb1 E1 l1 ⊢
  try simp (decide := true) only [↓i_var, ↓i_con, ↓i_kon, ↓i_bin, ↓i_neg, ↓i_not, ↓i_and, ↓i_or, ↓i_and0, ↓i_or0, ↓i_and1, ↓i_or1, ↓i_cmp, ↓i_chain, ↓i_lst, ↓i_tup, ↓i_dnew, ↓i_call, ↓i_mk, ↓i_bcall, ↓i_isi, ↓i_meth, ↓i_sel, ↓i_selL, ↓i_fld, ↓i_idx, ↓i_sl, ↓i_lrng, ↓i_lc, ↓i_nil, ↓i_cons, ↓i_o0, ↓i_o1, ↓i_opt, ↓i_seq, ↓i_rng1, ↓i_rng2, ↓i_enum, ↓i_zip, ↓i_wk, ↓i_tst, ↓ws_done, ↓ws_asg, ↓ws_asgT, ↓ws_ofE, ↓ws_of, ↓ws_asgF, ↓ws_asgI, ↓ws_aug, ↓ws_expr, ↓ws_ret, ↓ws_retN, ↓ws_ite, ↓ws_loop, ↓ws_whil, ↓boolIs_b, ↓intIs_i, ↓slot_0, ↓slot_1, ↓set_0, ↓set_1, ↓R.is_ok, ↓SR.is_rt, ↓SR.is_nx, ↓i_ofB, ↓wt_non, ↓wt_bl, ↓wt_int, ↓wt_str, ↓wt_tup, ↓wt_rol, ↓ib_add, ↓ib_sub, ↓ib_fdiv, ↓ib_mod, ↓ib_pow, ↓ib_band, ↓ib_shr, ↓ic_lt, ↓ic_le, ↓ic_gt, ↓ic_ge, ↓ic_is, ↓ic_isnot, ↓ic_eqI, ↓ic_neI, ↓ic_eqB, ↓ic_in1, ↓il_lenT, ↓tx_0, ↓tx_1, ↓tx_2, ↓ineg_i, ↓ws_try, ↓i_isx, ↓xx_done, ↓xx_rais, decide_true, decide_false, Bool.not_true, Bool.not_false, List.length_cons, List.length_nil, Int.reduceToNat, decide_eq_true_eq, Bool.not_eq_true', decide_eq_false_iff_not, Bool.true_eq_false, Bool.false_eq_true, if_true, if_false, reduceCtorEq, not_false_eq_true, not_true_eq_false, or_false, or_true, and_true, true_and, List.nil_append, List.cons_append, ↓il_listL ka1]
  have x1 := Ext.push s3 (AO.lst (cs.map AV.int))
  have g1 := get_push s3 (AO.lst (cs.map AV.int))
  have la2 : st.length ≤ s3.length := l1
  have na2 : s3.length ≠ m := by omega
  rw [ws_setF (x1 _ _ k1) rfl (by simp)]
  show (exS tab _ _ _ _ ((s3 ++ [AO.lst (cs.map AV.int)]).set m (.ins 10 [(22, .int (cs.length : Nat)), (26, .ref s3.length)]))).Is _ _
  have k2 := get_set (o := AO.ins 10 [(22, .int (cs.length : Nat)), (26, .ref s3.length)]) (x1 _ _ k1)
  have kb2 := get_set_o (o := AO.ins 10 [(22, .int (cs.length : Nat)), (26, .ref s3.length)]) (x1 _ _ kb1) hbm
  have kg2 := get_set_o (o := AO.ins 10 [(22, .int (cs.length : Nat)), (26, .ref s3.length)]) g1 na2
  have E2 : ∀ i u, i ≠ m → st[i]? = some u → ((s3 ++ [AO.lst (cs.map AV.int)]).set m (.ins 10 [(22, .int (cs.length : Nat)), (26, .ref s3.length)]))[i]? = some u := fun i u h z => get_set_o (x1 _ _ (E1 i u h z)) h
  have l2 : st.length ≤ ((s3 ++ [AO.lst (cs.map AV.int)]).set m (.ins 10 [(22, .int (cs.length : Nat)), (26, .ref s3.length)])).length := by rw [List.length_set, List.length_append]; omega
  generalize (s3 ++ [AO.lst (cs.map AV.int)]).set m (.ins 10 [(22, .int (cs.length : Nat)), (26, .ref s3.length)]) = s4 at k2 kb2 kg2 E2 l2 ⊢
  generalize s3.length = a2 at *
  try simp (decide := true) only [↓i_var, ↓i_con, ↓i_kon, ↓i_bin, ↓i_neg, ↓i_not, ↓i_and, ↓i_or, ↓i_and0, ↓i_or0, ↓i_and1, ↓i_or1, ↓i_cmp, ↓i_chain, ↓i_lst, ↓i_tup, ↓i_dnew, ↓i_call, ↓i_mk, ↓i_bcall, ↓i_isi, ↓i_meth, ↓i_sel, ↓i_selL, ↓i_fld, ↓i_idx, ↓i_sl, ↓i_lrng, ↓i_lc, ↓i_nil, ↓i_cons, ↓i_o0, ↓i_o1, ↓i_opt, ↓i_seq, ↓i_rng1, ↓i_rng2, ↓i_enum, ↓i_zip, ↓i_wk, ↓i_tst, ↓ws_done, ↓ws_asg, ↓ws_asgT, ↓ws_ofE, ↓ws_of, ↓ws_asgF, ↓ws_asgI, ↓ws_aug, ↓ws_expr, ↓ws_ret, ↓ws_retN, ↓ws_ite, ↓ws_loop, ↓ws_whil, ↓boolIs_b, ↓intIs_i, ↓slot_0, ↓slot_1, ↓set_0, ↓set_1, ↓R.is_ok, ↓SR.is_rt, ↓SR.is_nx, ↓i_ofB, ↓wt_non, ↓wt_bl, ↓wt_int, ↓wt_str, ↓wt_tup, ↓wt_rol, ↓ib_add, ↓ib_sub, ↓ib_fdiv, ↓ib_mod, ↓ib_pow, ↓ib_band, ↓ib_shr, ↓ic_lt, ↓ic_le, ↓ic_gt, ↓ic_ge, ↓ic_is, ↓ic_isnot, ↓ic_eqI, ↓ic_neI, ↓ic_eqB, ↓ic_in1, ↓il_lenT, ↓tx_0, ↓tx_1, ↓tx_2, ↓ineg_i, ↓ws_try, ↓i_isx, ↓xx_done, ↓xx_rais, decide_true, decide_false, Bool.not_true, Bool.not_false, List.length_cons, List.length_nil, Int.reduceToNat, decide_eq_true_eq, Bool.not_eq_true', decide_eq_false_iff_not, Bool.true_eq_false, Bool.false_eq_true, if_true, if_false, reduceCtorEq, not_false_eq_true, not_true_eq_false, or_false, or_true, and_true, true_and, List.nil_append, List.cons_append, ↓il_listL kb2]
  have x2 := Ext.push s4 (AO.lst (ws.map wireV))
  have g2 := get_push s4 (AO.lst (ws.map wireV))
  have nb2 : s4.length ≠ m := by omega
  rw [ws_setF (x2 _ _ k2) rfl (by simp)]
  show (exS tab _ _ _ _ ((s4 ++ [AO.lst (ws.map wireV)]).set m (.ins 10 [(22, .int (cs.length : Nat)), (26, .ref a2), (27, .ref s4.length)]))).Is _ _
  have k3 := get_set (o := AO.ins 10 [(22, .int (cs.length : Nat)), (26, .ref a2), (27, .ref s4.length)]) (x2 _ _ k2)
  have kb3 := get_set_o (o := AO.ins 10 [(22, .int (cs.length : Nat)), (26, .ref a2), (27, .ref s4.length)]) (x2 _ _ kb2) hbm
  have kg3 := get_set_o (o := AO.ins 10 [(22, .int (cs.length : Nat)), (26, .ref a2), (27, .ref s4.length)]) (x2 _ _ kg2) na2
  have kh3 := get_set_o (o := AO.ins 10 [(22, .int (cs.length : Nat)), (26, .ref a2), (27, .ref s4.length)]) g2 nb2
  have E3 : ∀ i u, i ≠ m → st[i]? = some u → ((s4 ++ [AO.lst (ws.map wireV)]).set m (.ins 10 [(22, .int (cs.length : Nat)), (26, .ref a2), (27, .ref s4.length)]))[i]? = some u := fun i u h z => get_set_o (x2 _ _ (E2 i u h z)) h
  have l3 : st.length ≤ ((s4 ++ [AO.lst (ws.map wireV)]).set m (.ins 10 [(22, .int (cs.length : Nat)), (26, .ref a2), (27, .ref s4.length)])).length := by rw [List.length_set, List.length_append]; omega
  have lb2 : st.length ≤ s4.length := l2
  generalize (s4 ++ [AO.lst (ws.map wireV)]).set m (.ins 10 [(22, .int (cs.length : Nat)), (26, .ref a2), (27, .ref s4.length)]) = s5 at k3 kb3 kg3 kh3 E3 l3 ⊢
  generalize s4.length = b2 at *
  try simp (decide := true) only [↓i_var, ↓i_con, ↓i_kon, ↓i_bin, ↓i_neg, ↓i_not, ↓i_and, ↓i_or, ↓i_and0, ↓i_or0, ↓i_and1, ↓i_or1, ↓i_cmp, ↓i_chain, ↓i_lst, ↓i_tup, ↓i_dnew, ↓i_call, ↓i_mk, ↓i_bcall, ↓i_isi, ↓i_meth, ↓i_sel, ↓i_selL, ↓i_fld, ↓i_idx, ↓i_sl, ↓i_lrng, ↓i_lc, ↓i_nil, ↓i_cons, ↓i_o0, ↓i_o1, ↓i_opt, ↓i_seq, ↓i_rng1, ↓i_rng2, ↓i_enum, ↓i_zip, ↓i_wk, ↓i_tst, ↓ws_done, ↓ws_asg, ↓ws_asgT, ↓ws_ofE, ↓ws_of, ↓ws_asgF, ↓ws_asgI, ↓ws_aug, ↓ws_expr, ↓ws_ret, ↓ws_retN, ↓ws_ite, ↓ws_loop, ↓ws_whil, ↓boolIs_b, ↓intIs_i, ↓slot_0, ↓slot_1, ↓set_0, ↓set_1, ↓R.is_ok, ↓SR.is_rt, ↓SR.is_nx, ↓i_ofB, ↓wt_non, ↓wt_bl, ↓wt_int, ↓wt_str, ↓wt_tup, ↓wt_rol, ↓ib_add, ↓ib_sub, ↓ib_fdiv, ↓ib_mod, ↓ib_pow, ↓ib_band, ↓ib_shr, ↓ic_lt, ↓ic_le, ↓ic_gt, ↓ic_ge, ↓ic_is, ↓ic_isnot, ↓ic_eqI, ↓ic_neI, ↓ic_eqB, ↓ic_in1, ↓il_lenT, ↓tx_0, ↓tx_1, ↓tx_2, ↓ineg_i, ↓ws_try, ↓i_isx, ↓xx_done, ↓xx_rais, decide_true, decide_false, Bool.not_true, Bool.not_false, List.length_cons, List.length_nil, Int.reduceToNat, decide_eq_true_eq, Bool.not_eq_true', decide_eq_false_iff_not, Bool.true_eq_false, Bool.false_eq_true, if_true, if_false, reduceCtorEq, not_false_eq_true, not_true_eq_false, or_false, or_true, and_true, true_and, List.nil_append, List.cons_append]
  have x3 := Ext.push s5 (AO.dT [])
  have g3 := get_push s5 (AO.dT [])
  have nd2 : s5.length ≠ m := by omega
  rw [ws_setF (x3 _ _ k3) rfl (by simp)]
  show (exS tab _ _ _ _ ((s5 ++ [AO.dT []]).set m (.ins 10 [(22, .int (cs.length : Nat)), (26, .ref a2), (27, .ref b2), (28, .ref s5.length)]))).Is _ _
  have k4 := get_set (o := AO.ins 10 [(22, .int (cs.length : Nat)), (26, .ref a2), (27, .ref b2), (28, .ref s5.length)]) (x3 _ _ k3)
  have kb4 := get_set_o (o := AO.ins 10 [(22, .int (cs.length : Nat)), (26, .ref a2), (27, .ref b2), (28, .ref s5.length)]) (x3 _ _ kb3) hbm
  have kg4 := get_set_o (o := AO.ins 10 [(22, .int (cs.length : Nat)), (26, .ref a2), (27, .ref b2), (28, .ref s5.length)]) (x3 _ _ kg3) na2
  have kh4 := get_set_o (o := AO.ins 10 [(22, .int (cs.length : Nat)), (26, .ref a2), (27, .ref b2), (28, .ref s5.length)]) (x3 _ _ kh3) nb2
  have kd4 := get_set_o (o := AO.ins 10 [(22, .int (cs.length : Nat)), (26, .ref a2), (27, .ref b2), (28, .ref s5.length)]) g3 nd2
  have E4 : ∀ i u, i ≠ m → st[i]? = some u → ((s5 ++ [AO.dT []]).set m (.ins 10 [(22, .int (cs.length : Nat)), (26, .ref a2), (27, .ref b2), (28, .ref s5.length)]))[i]? = some u := fun i u h z => get_set_o (x3 _ _ (E3 i u h z)) h
  have ld2 : st.length ≤ s5.length := l3
  generalize (s5 ++ [AO.dT []]).set m (.ins 10 [(22, .int (cs.length : Nat)), (26, .ref a2), (27, .ref b2), (28, .ref s5.length)]) = s6 at k4 kb4 kg4 kh4 kd4 E4 ⊢
  generalize s5.length = d at *
  have da : a2 ≠ d := fun e => by rw [e, kd4] at kg4; cases kg4
  have db : b2 ≠ d := fun e => by rw [e, kd4] at kh4; cases kh4
  try simp (decide := true) only [↓i_var, ↓i_con, ↓i_kon, ↓i_bin, ↓i_neg, ↓i_not, ↓i_and, ↓i_or, ↓i_and0, ↓i_or0, ↓i_and1, ↓i_or1, ↓i_cmp, ↓i_chain, ↓i_lst, ↓i_tup, ↓i_dnew, ↓i_call, ↓i_mk, ↓i_bcall, ↓i_isi, ↓i_meth, ↓i_sel, ↓i_selL, ↓i_fld, ↓i_idx, ↓i_sl, ↓i_lrng, ↓i_lc, ↓i_nil, ↓i_cons, ↓i_o0, ↓i_o1, ↓i_opt, ↓i_seq, ↓i_rng1, ↓i_rng2, ↓i_enum, ↓i_zip, ↓i_wk, ↓i_tst, ↓ws_done, ↓ws_asg, ↓ws_asgT, ↓ws_ofE, ↓ws_of, ↓ws_asgF, ↓ws_asgI, ↓ws_aug, ↓ws_expr, ↓ws_ret, ↓ws_retN, ↓ws_ite, ↓ws_loop, ↓ws_whil, ↓boolIs_b, ↓intIs_i, ↓slot_0, ↓slot_1, ↓set_0, ↓set_1, ↓R.is_ok, ↓SR.is_rt, ↓SR.is_nx, ↓i_ofB, ↓wt_non, ↓wt_bl, ↓wt_int, ↓wt_str, ↓wt_tup, ↓wt_rol, ↓ib_add, ↓ib_sub, ↓ib_fdiv, ↓ib_mod, ↓ib_pow, ↓ib_band, ↓ib_shr, ↓ic_lt, ↓ic_le, ↓ic_gt, ↓ic_ge, ↓ic_is, ↓ic_isnot, ↓ic_eqI, ↓ic_neI, ↓ic_eqB, ↓ic_in1, ↓il_lenT, ↓tx_0, ↓tx_1, ↓tx_2, ↓ineg_i, ↓ws_try, ↓i_isx, ↓xx_done, ↓xx_rais, decide_true, decide_false, Bool.not_true, Bool.not_false, List.length_cons, List.length_nil, Int.reduceToNat, decide_eq_true_eq, Bool.not_eq_true', decide_eq_false_iff_not, Bool.true_eq_false, Bool.false_eq_true, if_true, if_false, reduceCtorEq, not_false_eq_true, not_true_eq_false, or_false, or_true, and_true, true_and, List.nil_append, List.cons_append, ↓iw_lst kb4]
  refine for_is (fun k e s => ∃ z3 z4, e = [some (.ref m), some (.ref a), some (.ref b), z3, z4] ∧ (∀ i u, i ≠ m → st[i]? = some u → s[i]? = some u) ∧ s[m]? = some (.ins 10 [(22, .int (cs.length : Nat)), (26, .ref a2), (27, .ref b2), (28, .ref d)]) ∧ s[a2]? = some (.lst (cs.map AV.int)) ∧ s[b2]? = some (.lst (ws.map wireV)) ∧ s[d]? = some (.dT (tblF (ws.take k)))) _ 0 _ _ ⟨_, _, rfl, E4, k4, kg4, kh4, kd4⟩ (fun i y e s hy hI => ?_) fun e s hI => ?_
  · obtain ⟨z3, z4, rfl, hE5, hm5, ha5, hb5, hd5⟩ := hI
    rw [Nat.zero_add] at hd5
    rw [List.getElem?_map] at hy
    obtain ⟨w, hw, rfl⟩ := Option.map_eq_some_iff.mp hy
    refine ⟨ck_lst (hE5 _ _ hbm hb), _, rfl, ?_⟩
    have hfl : tab.fl 10 28 = true := rfl
    have tl := tbl_len (ws.take i) []
    rw [List.length_take] at tl
    have tl : (tblF (ws.take i)).length ≤ 24 := by have := W.wl; unfold tblF; simp at tl; omega
    simp only [bindT, bindT.go, wipeA, List.set_cons_zero, List.set_cons_succ]
    try simp (decide := true) only [↓i_var, ↓i_con, ↓i_kon, ↓i_bin, ↓i_neg, ↓i_not, ↓i_and, ↓i_or, ↓i_and0, ↓i_or0, ↓i_and1, ↓i_or1, ↓i_cmp, ↓i_chain, ↓i_lst, ↓i_tup, ↓i_dnew, ↓i_call, ↓i_mk, ↓i_bcall, ↓i_isi, ↓i_meth, ↓i_sel, ↓i_selL, ↓i_fld, ↓i_idx, ↓i_sl, ↓i_lrng, ↓i_lc, ↓i_nil, ↓i_cons, ↓i_o0, ↓i_o1, ↓i_opt, ↓i_seq, ↓i_rng1, ↓i_rng2, ↓i_enum, ↓i_zip, ↓i_wk, ↓i_tst, ↓ws_done, ↓ws_asg, ↓ws_asgT, ↓ws_ofE, ↓ws_of, ↓ws_asgF, ↓ws_asgI, ↓ws_aug, ↓ws_expr, ↓ws_ret, ↓ws_retN, ↓ws_ite, ↓ws_loop, ↓ws_whil, ↓boolIs_b, ↓intIs_i, ↓slot_0, ↓slot_1, ↓set_0, ↓set_1, ↓R.is_ok, ↓SR.is_rt, ↓SR.is_nx, ↓i_ofB, ↓wt_non, ↓wt_bl, ↓wt_int, ↓wt_str, ↓wt_tup, ↓wt_rol, ↓ib_add, ↓ib_sub, ↓ib_fdiv, ↓ib_mod, ↓ib_pow, ↓ib_band, ↓ib_shr, ↓ic_lt, ↓ic_le, ↓ic_gt, ↓ic_ge, ↓ic_is, ↓ic_isnot, ↓ic_eqI, ↓ic_neI, ↓ic_eqB, ↓ic_in1, ↓il_lenT, ↓tx_0, ↓tx_1, ↓tx_2, ↓ineg_i, ↓ws_try, ↓i_isx, ↓xx_done, ↓xx_rais, decide_true, decide_false, Bool.not_true, Bool.not_false, List.length_cons, List.length_nil, Int.reduceToNat, decide_eq_true_eq, Bool.not_eq_true', decide_eq_false_iff_not, Bool.true_eq_false, Bool.false_eq_true, if_true, if_false, reduceCtorEq, not_false_eq_true, not_true_eq_false, or_false, or_true, and_true, true_and, List.nil_append, List.cons_append, c_Net___init_1, ↓fld_is hm5 hfl rfl]
    rw [ws_setD hd5 (by unfold lim; omega)]
    have hd6 := get_set (o := AO.dT (putK (doorK w.1) (doorV w.2) (tblF (ws.take i)))) hd5
    have md : m ≠ d := fun e => by rw [e, hd5] at hm5; cases hm5
    have hm6 := get_set_o (o := AO.dT (putK (doorK w.1) (doorV w.2) (tblF (ws.take i)))) hm5 md
    have ha6 := get_set_o (o := AO.dT (putK (doorK w.1) (doorV w.2) (tblF (ws.take i)))) ha5 da
    have hb6 := get_set_o (o := AO.dT (putK (doorK w.1) (doorV w.2) (tblF (ws.take i)))) hb5 db
    have E6 : ∀ i' u, i' ≠ m → st[i']? = some u → (s.set d (.dT (putK (doorK w.1) (doorV w.2) (tblF (ws.take i)))))[i']? = some u := fun i' u h z => get_set_o (hE5 i' u h z) (by have := get_lt z; omega)
    have pl := put_len (doorK w.1) (doorV w.2) (tblF (ws.take i))
    generalize s.set d (.dT (putK (doorK w.1) (doorV w.2) (tblF (ws.take i)))) = s7 at hd6 hm6 ha6 hb6 E6 ⊢
    try simp (decide := true) only [↓i_var, ↓i_con, ↓i_kon, ↓i_bin, ↓i_neg, ↓i_not, ↓i_and, ↓i_or, ↓i_and0, ↓i_or0, ↓i_and1, ↓i_or1, ↓i_cmp, ↓i_chain, ↓i_lst, ↓i_tup, ↓i_dnew, ↓i_call, ↓i_mk, ↓i_bcall, ↓i_isi, ↓i_meth, ↓i_sel, ↓i_selL, ↓i_fld, ↓i_idx, ↓i_sl, ↓i_lrng, ↓i_lc, ↓i_nil, ↓i_cons, ↓i_o0, ↓i_o1, ↓i_opt, ↓i_seq, ↓i_rng1, ↓i_rng2, ↓i_enum, ↓i_zip, ↓i_wk, ↓i_tst, ↓ws_done, ↓ws_asg, ↓ws_asgT, ↓ws_ofE, ↓ws_of, ↓ws_asgF, ↓ws_asgI, ↓ws_aug, ↓ws_expr, ↓ws_ret, ↓ws_retN, ↓ws_ite, ↓ws_loop, ↓ws_whil, ↓boolIs_b, ↓intIs_i, ↓slot_0, ↓slot_1, ↓set_0, ↓set_1, ↓R.is_ok, ↓SR.is_rt, ↓SR.is_nx, ↓i_ofB, ↓wt_non, ↓wt_bl, ↓wt_int, ↓wt_str, ↓wt_tup, ↓wt_rol, ↓ib_add, ↓ib_sub, ↓ib_fdiv, ↓ib_mod, ↓ib_pow, ↓ib_band, ↓ib_shr, ↓ic_lt, ↓ic_le, ↓ic_gt, ↓ic_ge, ↓ic_is, ↓ic_isnot, ↓ic_eqI, ↓ic_neI, ↓ic_eqB, ↓ic_in1, ↓il_lenT, ↓tx_0, ↓tx_1, ↓tx_2, ↓ineg_i, ↓ws_try, ↓i_isx, ↓xx_done, ↓xx_rais, decide_true, decide_false, Bool.not_true, Bool.not_false, List.length_cons, List.length_nil, Int.reduceToNat, decide_eq_true_eq, Bool.not_eq_true', decide_eq_false_iff_not, Bool.true_eq_false, Bool.false_eq_true, if_true, if_false, reduceCtorEq, not_false_eq_true, not_true_eq_false, or_false, or_true, and_true, true_and, List.nil_append, List.cons_append, ↓fld_is hm6 hfl rfl]
    rw [ws_setD hd6 (by unfold lim; omega)]
    try simp (decide := true) only [↓i_var, ↓i_con, ↓i_kon, ↓i_bin, ↓i_neg, ↓i_not, ↓i_and, ↓i_or, ↓i_and0, ↓i_or0, ↓i_and1, ↓i_or1, ↓i_cmp, ↓i_chain, ↓i_lst, ↓i_tup, ↓i_dnew, ↓i_call, ↓i_mk, ↓i_bcall, ↓i_isi, ↓i_meth, ↓i_sel, ↓i_selL, ↓i_fld, ↓i_idx, ↓i_sl, ↓i_lrng, ↓i_lc, ↓i_nil, ↓i_cons, ↓i_o0, ↓i_o1, ↓i_opt, ↓i_seq, ↓i_rng1, ↓i_rng2, ↓i_enum, ↓i_zip, ↓i_wk, ↓i_tst, ↓ws_done, ↓ws_asg, ↓ws_asgT, ↓ws_ofE, ↓ws_of, ↓ws_asgF, ↓ws_asgI, ↓ws_aug, ↓ws_expr, ↓ws_ret, ↓ws_retN, ↓ws_ite, ↓ws_loop, ↓ws_whil, ↓boolIs_b, ↓intIs_i, ↓slot_0, ↓slot_1, ↓set_0, ↓set_1, ↓R.is_ok, ↓SR.is_rt, ↓SR.is_nx, ↓i_ofB, ↓wt_non, ↓wt_bl, ↓wt_int, ↓wt_str, ↓wt_tup, ↓wt_rol, ↓ib_add, ↓ib_sub, ↓ib_fdiv, ↓ib_mod, ↓ib_pow, ↓ib_band, ↓ib_shr, ↓ic_lt, ↓ic_le, ↓ic_gt, ↓ic_ge, ↓ic_is, ↓ic_isnot, ↓ic_eqI, ↓ic_neI, ↓ic_eqB, ↓ic_in1, ↓il_lenT, ↓tx_0, ↓tx_1, ↓tx_2, ↓ineg_i, ↓ws_try, ↓i_isx, ↓xx_done, ↓xx_rais, decide_true, decide_false, Bool.not_true, Bool.not_false, List.length_cons, List.length_nil, Int.reduceToNat, decide_eq_true_eq, Bool.not_eq_true', decide_eq_false_iff_not, Bool.true_eq_false, Bool.false_eq_true, if_true, if_false, reduceCtorEq, not_false_eq_true, not_true_eq_false, or_false, or_true, and_true, true_and, List.nil_append, List.cons_append]
    refine ⟨_, _, rfl, fun i' u h z => get_set_o (E6 i' u h z) (by have := get_lt z; omega), get_set_o hm6 md, get_set_o ha6 da, get_set_o hb6 db, ?_⟩
    rw [get_set hd6, show 0 + i + 1 = i + 1 by omega, List.take_add_one, hw]
    show _ = some (AO.dT (tblF (ws.take i ++ [w])))
    unfold tblF
    rw [List.foldl_append]
    rfl
  · obtain ⟨z3, z4, rfl, hE5, hm5, ha5, hb5, hd5⟩ := hI
    rw [Nat.zero_add, List.length_map, List.take_length] at hd5
    refine ⟨ck_lst (hE5 _ _ hbm hb), ?_⟩
    try simp (decide := true) only [↓i_var, ↓i_con, ↓i_kon, ↓i_bin, ↓i_neg, ↓i_not, ↓i_and, ↓i_or, ↓i_and0, ↓i_or0, ↓i_and1, ↓i_or1, ↓i_cmp, ↓i_chain, ↓i_lst, ↓i_tup, ↓i_dnew, ↓i_call, ↓i_mk, ↓i_bcall, ↓i_isi, ↓i_meth, ↓i_sel, ↓i_selL, ↓i_fld, ↓i_idx, ↓i_sl, ↓i_lrng, ↓i_lc, ↓i_nil, ↓i_cons, ↓i_o0, ↓i_o1, ↓i_opt, ↓i_seq, ↓i_rng1, ↓i_rng2, ↓i_enum, ↓i_zip, ↓i_wk, ↓i_tst, ↓ws_done, ↓ws_asg, ↓ws_asgT, ↓ws_ofE, ↓ws_of, ↓ws_asgF, ↓ws_asgI, ↓ws_aug, ↓ws_expr, ↓ws_ret, ↓ws_retN, ↓ws_ite, ↓ws_loop, ↓ws_whil, ↓boolIs_b, ↓intIs_i, ↓slot_0, ↓slot_1, ↓set_0, ↓set_1, ↓R.is_ok, ↓SR.is_rt, ↓SR.is_nx, ↓i_ofB, ↓wt_non, ↓wt_bl, ↓wt_int, ↓wt_str, ↓wt_tup, ↓wt_rol, ↓ib_add, ↓ib_sub, ↓ib_fdiv, ↓ib_mod, ↓ib_pow, ↓ib_band, ↓ib_shr, ↓ic_lt, ↓ic_le, ↓ic_gt, ↓ic_ge, ↓ic_is, ↓ic_isnot, ↓ic_eqI, ↓ic_neI, ↓ic_eqB, ↓ic_in1, ↓il_lenT, ↓tx_0, ↓tx_1, ↓tx_2, ↓ineg_i, ↓ws_try, ↓i_isx, ↓xx_done, ↓xx_rais, decide_true, decide_false, Bool.not_true, Bool.not_false, List.length_cons, List.length_nil, Int.reduceToNat, decide_eq_true_eq, Bool.not_eq_true', decide_eq_false_iff_not, Bool.true_eq_false, Bool.false_eq_true, if_true, if_false, reduceCtorEq, not_false_eq_true, not_true_eq_false, or_false, or_true, and_true, true_and, List.nil_append, List.cons_append]
    exact q s a2 b2 d hE5 la2 lb2 ld2 ⟨hm5, ha5, hb5, hd5⟩
theorem mk_is {n : Nat} {st : Sto} {a b : Nat} {cs : List Int} {ws : List Wire} {Q : AV → Sto → Prop} (W : NetWf cs ws) (ha : st[a]? = some (.lst (cs.map AV.int))) (hb : st[b]? = some (.lst (ws.map wireV)))
    (q : ∀ (s : Sto) (a2 b2 d : Nat), Ext st s → st.length < a2 → st.length < b2 → st.length < d → NetIns s st.length a2 b2 d cs ws → Q (.ref st.length) s) : (mkA tab (callF tab (n + 4)) 10 [.ref a, .ref b] st).Is Q := by
  have e : mkA tab (callF tab (n + 4)) 10 [.ref a, .ref b] st = (callF tab (n + 4) g_Net___init [.ref st.length, .ref a, .ref b] (st ++ [.ins 10 []])).bind fun v st' => if v = .non then .ok (.ref st.length) st' else .no := rfl
  have x := Ext.push st (AO.ins 10 [])
  rw [e, R.is_bind]
  refine init_is W (get_push _ _) (x _ _ ha) (x _ _ hb) fun s a2 b2 d hE l1 l2 l3 hN => ?_
  rw [if_pos rfl]
  rw [List.length_append] at l1 l2 l3
  have l1 : st.length + 1 ≤ a2 := l1
  have l2 : st.length + 1 ≤ b2 := l2
  have l3 : st.length + 1 ≤ d := l3
  exact q s a2 b2 d (fun i u z => hE i u (by have := get_lt z; omega) (x _ _ z)) (by omega) (by omega) (by omega) hN
theorem i_methD {T : Tab} {f : CallF} {st : Sto} {n : Nat} {kvs : Tbl} {r : R (List AV)} {Q : AV → Sto → Prop} (h : st[n]? = some (.dT kvs)) : ((selA T 8 (.ref n) st).ok (r.bind fun xs st1 => methA f (selA T 8 (.ref n) st) 8 (.ref n) xs st1)).Is Q = r.Is fun xs st1 => (bmeth Sel.dic 8 (.ref n) xs st1).Is Q := by
  have e : selA T 8 (.ref n) st = .dic := by
    unfold selA
    dsimp only
    rw [h]
    rfl
  rw [e]
  exact R.is_bind
theorem im_get {st : Sto} {n : Nat} {kvs : Tbl} {d : Door} {Q : AV → Sto → Prop} (h : st[n]? = some (.dT kvs)) : (bmeth Sel.dic 8 (.ref n) [doorV d] st).Is Q = Q ((getK (doorK d) kvs).getD .non) st := by
  unfold bmeth
  dsimp only
  unfold dlook
  rw [h]
  dsimp only
  rw [keyT_door]
  rfl
def odV : Option Door → AV
  | none => .non
  | some d => doorV d
theorem f28 : tab.fl 10 28 = true := rfl
theorem f26 : tab.fl 10 26 = true := rfl
theorem f22 : tab.fl 10 22 = true := rfl
end L3

/-! LNet: doors of nets. -/
namespace L3
open PySem L2
section
variable {n m : Nat} {st : Sto} {cs : List Int} {ws : List Wire} {Q : AV → Sto → Prop} {a b t : Nat}
theorem beyond_is {d : Door} (h : NetIns st m a b t cs ws) (q : Q (odV (beyF ws d)) st) : (callF tab (n + 1) g_Net_beyond [.ref m, doorV d] st).Is Q := by
  obtain ⟨h1, h2, h3, h4⟩ := h
  refine call_is rfl rfl ?_; simp only [List.map_cons, List.map_nil, List.cons_append, List.nil_append, List.replicate_succ, List.replicate_zero, Nat.reduceSub]
  try simp (decide := true) only [↓i_var, ↓i_con, ↓i_kon, ↓i_bin, ↓i_neg, ↓i_not, ↓i_and, ↓i_or, ↓i_and0, ↓i_or0, ↓i_and1, ↓i_or1, ↓i_cmp, ↓i_chain, ↓i_lst, ↓i_tup, ↓i_dnew, ↓i_call, ↓i_mk, ↓i_bcall, ↓i_isi, ↓i_meth, ↓i_sel, ↓i_selL, ↓i_fld, ↓i_idx, ↓i_sl, ↓i_lrng, ↓i_lc, ↓i_nil, ↓i_cons, ↓i_o0, ↓i_o1, ↓i_opt, ↓i_seq, ↓i_rng1, ↓i_rng2, ↓i_enum, ↓i_zip, ↓i_wk, ↓i_tst, ↓ws_done, ↓ws_asg, ↓ws_asgT, ↓ws_ofE, ↓ws_of, ↓ws_asgF, ↓ws_asgI, ↓ws_aug, ↓ws_expr, ↓ws_ret, ↓ws_retN, ↓ws_ite, ↓ws_loop, ↓ws_whil, ↓boolIs_b, ↓intIs_i, ↓slot_0, ↓slot_1, ↓set_0, ↓set_1, ↓R.is_ok, ↓SR.is_rt, ↓SR.is_nx, ↓i_ofB, ↓wt_non, ↓wt_bl, ↓wt_int, ↓wt_str, ↓wt_tup, ↓wt_rol, ↓ib_add, ↓ib_sub, ↓ib_fdiv, ↓ib_mod, ↓ib_pow, ↓ib_band, ↓ib_shr, ↓ic_lt, ↓ic_le, ↓ic_gt, ↓ic_ge, ↓ic_is, ↓ic_isnot, ↓ic_eqI, ↓ic_neI, ↓ic_eqB, ↓ic_in1, ↓il_lenT, ↓tx_0, ↓tx_1, ↓tx_2, ↓ineg_i, ↓ws_try, ↓i_isx, ↓xx_done, ↓xx_rais, decide_true, decide_false, Bool.not_true, Bool.not_false, List.length_cons, List.length_nil, Int.reduceToNat, decide_eq_true_eq, Bool.not_eq_true', decide_eq_false_iff_not, Bool.true_eq_false, Bool.false_eq_true, if_true, if_false, reduceCtorEq, not_false_eq_true, not_true_eq_false, or_false, or_true, and_true, true_and, List.nil_append, List.cons_append, c_Net_beyond, ↓fld_is h1 f28 rfl, ↓i_methD h4, ↓im_get h4]
  rw [tbl_get]
  cases e : beyF ws d with
  | none => rw [e] at q; exact q
  | some e2 => rw [e] at q; exact q
theorem is_door_is {d : Door} (h : NetIns st m a b t cs ws) (q : Q (.bl (isDoor cs d)) st) : (callF tab (n + 3) g_Net_is_door [.ref m, doorV d] st).Is Q := by
  obtain ⟨h1, h2, h3, h4⟩ := h
  refine call_is rfl rfl ?_; simp only [List.map_cons, List.map_nil, List.cons_append, List.nil_append, List.replicate_succ, List.replicate_zero, Nat.reduceSub]
  try simp (decide := true) only [↓i_var, ↓i_con, ↓i_kon, ↓i_bin, ↓i_neg, ↓i_not, ↓i_and, ↓i_or, ↓i_and0, ↓i_or0, ↓i_and1, ↓i_or1, ↓i_cmp, ↓i_chain, ↓i_lst, ↓i_tup, ↓i_dnew, ↓i_call, ↓i_mk, ↓i_bcall, ↓i_isi, ↓i_meth, ↓i_sel, ↓i_selL, ↓i_fld, ↓i_idx, ↓i_sl, ↓i_lrng, ↓i_lc, ↓i_nil, ↓i_cons, ↓i_o0, ↓i_o1, ↓i_opt, ↓i_seq, ↓i_rng1, ↓i_rng2, ↓i_enum, ↓i_zip, ↓i_wk, ↓i_tst, ↓ws_done, ↓ws_asg, ↓ws_asgT, ↓ws_ofE, ↓ws_of, ↓ws_asgF, ↓ws_asgI, ↓ws_aug, ↓ws_expr, ↓ws_ret, ↓ws_retN, ↓ws_ite, ↓ws_loop, ↓ws_whil, ↓boolIs_b, ↓intIs_i, ↓slot_0, ↓slot_1, ↓set_0, ↓set_1, ↓R.is_ok, ↓SR.is_rt, ↓SR.is_nx, ↓i_ofB, ↓wt_non, ↓wt_bl, ↓wt_int, ↓wt_str, ↓wt_tup, ↓wt_rol, ↓ib_add, ↓ib_sub, ↓ib_fdiv, ↓ib_mod, ↓ib_pow, ↓ib_band, ↓ib_shr, ↓ic_lt, ↓ic_le, ↓ic_gt, ↓ic_ge, ↓ic_is, ↓ic_isnot, ↓ic_eqI, ↓ic_neI, ↓ic_eqB, ↓ic_in1, ↓il_lenT, ↓tx_0, ↓tx_1, ↓tx_2, ↓ineg_i, ↓ws_try, ↓i_isx, ↓xx_done, ↓xx_rais, decide_true, decide_false, Bool.not_true, Bool.not_false, List.length_cons, List.length_nil, Int.reduceToNat, decide_eq_true_eq, Bool.not_eq_true', decide_eq_false_iff_not, Bool.true_eq_false, Bool.false_eq_true, if_true, if_false, reduceCtorEq, not_false_eq_true, not_true_eq_false, or_false, or_true, and_true, true_and, List.nil_append, List.cons_append, c_Net_is_door, ↓fld_is h1 f26 rfl]
  exact doorOf_is h2 q
/-- an outer door -/
def isOuter (cs : List Int) (ws : List Wire) (d : Door) : Bool := isDoor cs d && (beyF ws d).isNone
theorem m20 : tab.mt 10 20 = some g_Net_is_door := rfl
theorem is_outer_is {d : Door} (h : NetIns st m a b t cs ws) (q : Q (.bl (isOuter cs ws d)) st) : (callF tab (n + 4) g_Net_is_outer [.ref m, doorV d] st).Is Q := by
  have h0 := h
  obtain ⟨h1, h2, h3, h4⟩ := h
  refine call_is rfl rfl ?_; simp only [List.map_cons, List.map_nil, List.cons_append, List.nil_append, List.replicate_succ, List.replicate_zero, Nat.reduceSub]
  try simp (decide := true) only [↓i_var, ↓i_con, ↓i_kon, ↓i_bin, ↓i_neg, ↓i_not, ↓i_and, ↓i_or, ↓i_and0, ↓i_or0, ↓i_and1, ↓i_or1, ↓i_cmp, ↓i_chain, ↓i_lst, ↓i_tup, ↓i_dnew, ↓i_call, ↓i_mk, ↓i_bcall, ↓i_isi, ↓i_meth, ↓i_sel, ↓i_selL, ↓i_fld, ↓i_idx, ↓i_sl, ↓i_lrng, ↓i_lc, ↓i_nil, ↓i_cons, ↓i_o0, ↓i_o1, ↓i_opt, ↓i_seq, ↓i_rng1, ↓i_rng2, ↓i_enum, ↓i_zip, ↓i_wk, ↓i_tst, ↓ws_done, ↓ws_asg, ↓ws_asgT, ↓ws_ofE, ↓ws_of, ↓ws_asgF, ↓ws_asgI, ↓ws_aug, ↓ws_expr, ↓ws_ret, ↓ws_retN, ↓ws_ite, ↓ws_loop, ↓ws_whil, ↓boolIs_b, ↓intIs_i, ↓slot_0, ↓slot_1, ↓set_0, ↓set_1, ↓R.is_ok, ↓SR.is_rt, ↓SR.is_nx, ↓i_ofB, ↓wt_non, ↓wt_bl, ↓wt_int, ↓wt_str, ↓wt_tup, ↓wt_rol, ↓ib_add, ↓ib_sub, ↓ib_fdiv, ↓ib_mod, ↓ib_pow, ↓ib_band, ↓ib_shr, ↓ic_lt, ↓ic_le, ↓ic_gt, ↓ic_ge, ↓ic_is, ↓ic_isnot, ↓ic_eqI, ↓ic_neI, ↓ic_eqB, ↓ic_in1, ↓il_lenT, ↓tx_0, ↓tx_1, ↓tx_2, ↓ineg_i, ↓ws_try, ↓i_isx, ↓xx_done, ↓xx_rais, decide_true, decide_false, Bool.not_true, Bool.not_false, List.length_cons, List.length_nil, Int.reduceToNat, decide_eq_true_eq, Bool.not_eq_true', decide_eq_false_iff_not, Bool.true_eq_false, Bool.false_eq_true, if_true, if_false, reduceCtorEq, not_false_eq_true, not_true_eq_false, or_false, or_true, and_true, true_and, List.nil_append, List.cons_append, c_Net_is_outer, ↓sel_is h1 m20 rfl]
  refine is_door_is h0 ?_
  try simp (decide := true) only [↓i_var, ↓i_con, ↓i_kon, ↓i_bin, ↓i_neg, ↓i_not, ↓i_and, ↓i_or, ↓i_and0, ↓i_or0, ↓i_and1, ↓i_or1, ↓i_cmp, ↓i_chain, ↓i_lst, ↓i_tup, ↓i_dnew, ↓i_call, ↓i_mk, ↓i_bcall, ↓i_isi, ↓i_meth, ↓i_sel, ↓i_selL, ↓i_fld, ↓i_idx, ↓i_sl, ↓i_lrng, ↓i_lc, ↓i_nil, ↓i_cons, ↓i_o0, ↓i_o1, ↓i_opt, ↓i_seq, ↓i_rng1, ↓i_rng2, ↓i_enum, ↓i_zip, ↓i_wk, ↓i_tst, ↓ws_done, ↓ws_asg, ↓ws_asgT, ↓ws_ofE, ↓ws_of, ↓ws_asgF, ↓ws_asgI, ↓ws_aug, ↓ws_expr, ↓ws_ret, ↓ws_retN, ↓ws_ite, ↓ws_loop, ↓ws_whil, ↓boolIs_b, ↓intIs_i, ↓slot_0, ↓slot_1, ↓set_0, ↓set_1, ↓R.is_ok, ↓SR.is_rt, ↓SR.is_nx, ↓i_ofB, ↓wt_non, ↓wt_bl, ↓wt_int, ↓wt_str, ↓wt_tup, ↓wt_rol, ↓ib_add, ↓ib_sub, ↓ib_fdiv, ↓ib_mod, ↓ib_pow, ↓ib_band, ↓ib_shr, ↓ic_lt, ↓ic_le, ↓ic_gt, ↓ic_ge, ↓ic_is, ↓ic_isnot, ↓ic_eqI, ↓ic_neI, ↓ic_eqB, ↓ic_in1, ↓il_lenT, ↓tx_0, ↓tx_1, ↓tx_2, ↓ineg_i, ↓ws_try, ↓i_isx, ↓xx_done, ↓xx_rais, decide_true, decide_false, Bool.not_true, Bool.not_false, List.length_cons, List.length_nil, Int.reduceToNat, decide_eq_true_eq, Bool.not_eq_true', decide_eq_false_iff_not, Bool.true_eq_false, Bool.false_eq_true, if_true, if_false, reduceCtorEq, not_false_eq_true, not_true_eq_false, or_false, or_true, and_true, true_and, List.nil_append, List.cons_append, ↓fld_is h1 f28 rfl]
  have e := inA_dT (d := d) h4
  rw [tbl_has] at e
  unfold isOuter at q
  split
  · rename_i hd
    rw [hd, Bool.true_and] at q
    try simp (decide := true) only [↓i_var, ↓i_con, ↓i_kon, ↓i_bin, ↓i_neg, ↓i_not, ↓i_and, ↓i_or, ↓i_and0, ↓i_or0, ↓i_and1, ↓i_or1, ↓i_cmp, ↓i_chain, ↓i_lst, ↓i_tup, ↓i_dnew, ↓i_call, ↓i_mk, ↓i_bcall, ↓i_isi, ↓i_meth, ↓i_sel, ↓i_selL, ↓i_fld, ↓i_idx, ↓i_sl, ↓i_lrng, ↓i_lc, ↓i_nil, ↓i_cons, ↓i_o0, ↓i_o1, ↓i_opt, ↓i_seq, ↓i_rng1, ↓i_rng2, ↓i_enum, ↓i_zip, ↓i_wk, ↓i_tst, ↓ws_done, ↓ws_asg, ↓ws_asgT, ↓ws_ofE, ↓ws_of, ↓ws_asgF, ↓ws_asgI, ↓ws_aug, ↓ws_expr, ↓ws_ret, ↓ws_retN, ↓ws_ite, ↓ws_loop, ↓ws_whil, ↓boolIs_b, ↓intIs_i, ↓slot_0, ↓slot_1, ↓set_0, ↓set_1, ↓R.is_ok, ↓SR.is_rt, ↓SR.is_nx, ↓i_ofB, ↓wt_non, ↓wt_bl, ↓wt_int, ↓wt_str, ↓wt_tup, ↓wt_rol, ↓ib_add, ↓ib_sub, ↓ib_fdiv, ↓ib_mod, ↓ib_pow, ↓ib_band, ↓ib_shr, ↓ic_lt, ↓ic_le, ↓ic_gt, ↓ic_ge, ↓ic_is, ↓ic_isnot, ↓ic_eqI, ↓ic_neI, ↓ic_eqB, ↓ic_in1, ↓il_lenT, ↓tx_0, ↓tx_1, ↓tx_2, ↓ineg_i, ↓ws_try, ↓i_isx, ↓xx_done, ↓xx_rais, decide_true, decide_false, Bool.not_true, Bool.not_false, List.length_cons, List.length_nil, Int.reduceToNat, decide_eq_true_eq, Bool.not_eq_true', decide_eq_false_iff_not, Bool.true_eq_false, Bool.false_eq_true, if_true, if_false, reduceCtorEq, not_false_eq_true, not_true_eq_false, or_false, or_true, and_true, true_and, List.nil_append, List.cons_append, ↓ic_nin e]
    cases e6 : beyF ws d with
    | none => rw [e6] at q; exact q
    | some _ => rw [e6] at q; exact q
  · rename_i hd
    rw [Bool.eq_false_iff.mpr hd, Bool.false_and] at q
    exact q
end
end L3

/-! LOk: the nets that a law makes are nets. -/
namespace L3
open PySem L2

theorem upto_nodup (n : Int) : (upto n).Nodup := by
  unfold upto
  refine List.Pairwise.map _ (fun a b (h : a ≠ b) => ?_) List.nodup_range
  omega
theorem mem_doorsUpto {cs : List Int} {d : Door} : ∀ k, d ∈ doorsUpto cs k ↔ 0 ≤ d.1 ∧ d.1 < k ∧ 0 ≤ d.2 ∧ d.2 < cs.getD d.1.toNat 0
  | 0 => by
    simp only [doorsUpto, List.not_mem_nil, false_iff]
    omega
  | k + 1 => by
    rw [doorsUpto, List.mem_append, mem_doorsUpto k]
    constructor
    · rintro (⟨h1, h2, h3, h4⟩ | h)
      · exact ⟨h1, by omega, h3, h4⟩
      · obtain ⟨i, hi, rfl⟩ := List.mem_map.mp h
        obtain ⟨h1, h2⟩ := mem_upto.mp hi
        refine ⟨Int.natCast_nonneg k, by show (k : Int) < ((k + 1 : Nat) : Int); omega, h1, ?_⟩
        show i < cs.getD (k : Int).toNat 0
        rw [Int.toNat_natCast]
        exact h2
    · rintro ⟨h1, h2, h3, h4⟩
      by_cases e : d.1 = k
      · refine .inr (List.mem_map.mpr ⟨d.2, mem_upto.mpr ⟨h3, ?_⟩, ?_⟩)
        · rw [e, Int.toNat_natCast] at h4; exact h4
        · rw [← e]
      · exact .inl ⟨h1, by omega, h3, h4⟩
theorem mem_allD {cs : List Int} {d : Door} : d ∈ allD cs ↔ isDoor cs d = true := by
  unfold allD isDoor
  rw [mem_doorsUpto]
  simp only [Bool.and_eq_true, decide_eq_true_eq]
  constructor
  · rintro ⟨h1, h2, h3, h4⟩; exact ⟨⟨⟨h1, h2⟩, h3⟩, h4⟩
  · rintro ⟨⟨⟨h1, h2⟩, h3⟩, h4⟩; exact ⟨h1, h2, h3, h4⟩
theorem doorsUpto_nodup (cs : List Int) : ∀ k, (doorsUpto cs k).Nodup
  | 0 => List.nodup_nil
  | k + 1 => by
    rw [doorsUpto, List.nodup_append]
    refine ⟨doorsUpto_nodup cs k, ?_, ?_⟩
    · refine List.Pairwise.map _ (fun a b (h : a ≠ b) e => h ?_) (upto_nodup _)
      injection e
    · intro x hx y hy e
      subst e
      obtain ⟨h1, h2, _, _⟩ := (mem_doorsUpto k).mp hx
      obtain ⟨i, _, rfl⟩ := List.mem_map.mp hy
      simp at h2
theorem NetOk.wf {most : Int} {cs : List Int} {ws : List Wire} (h : NetOk most cs ws) (hm : most ≤ 6) : NetWf cs ws := by
  obtain ⟨ds, _, hp⟩ := h.outer
  have nd : (ds ++ endsOf ws).Nodup := hp.nodup_iff.mpr (doorsUpto_nodup cs cs.length)
  exact ⟨h.len1, by have := h.len2; omega, h.cnt, fun d hd => mem_allD.mp (hp.mem_iff.mp (List.mem_append_right _ hd)), (List.nodup_append.mp nd).2.1, h.wl⟩
end L3

/-! LOk: outer doors of the nets that a law makes. -/
namespace L3
open PySem L2
theorem beyF_none {ws : List Wire} {d : Door} : ∀ {o : Option Door}, ws.foldl (beyS d) o = none ↔ o = none ∧ d ∉ endsOf ws := by
  induction ws with
  | nil => intro o; simp [endsOf]
  | cons w ws ih =>
    intro o
    show ws.foldl (beyS d) (beyS d o w) = none ↔ _
    rw [ih]
    have e : endsOf (w :: ws) = w.1 :: w.2 :: endsOf ws := rfl
    rw [e]
    unfold beyS
    by_cases h1 : d = w.2
    · simp [h1]
    · by_cases h2 : d = w.1
      · rw [if_neg h1, if_pos h2]
        simp [h2]
      · simp [h1, h2]
theorem bey_none {ws : List Wire} {d : Door} : beyF ws d = none ↔ d ∉ endsOf ws := by
  unfold beyF
  rw [beyF_none]
  simp
/-- the outer doors, rising -/
def outerL (cs : List Int) (ws : List Wire) : List Door := (allD cs).filter fun d => (beyF ws d).isNone
theorem mem_outer {cs : List Int} {ws : List Wire} {d : Door} : d ∈ outerL cs ws ↔ isOuter cs ws d = true := by
  unfold outerL isOuter
  rw [List.mem_filter, mem_allD, Bool.and_eq_true]
theorem NetOk.some_outer {most : Int} {cs : List Int} {ws : List Wire} (h : NetOk most cs ws) : outerL cs ws ≠ [] := by
  obtain ⟨ds, hne, hp⟩ := h.outer
  have nd : (ds ++ endsOf ws).Nodup := hp.nodup_iff.mpr (doorsUpto_nodup cs cs.length)
  cases ds with
  | nil => exact absurd rfl hne
  | cons d ds =>
    have m : d ∈ outerL cs ws := by
      rw [mem_outer]
      unfold isOuter
      rw [mem_allD.mp (hp.mem_iff.mp (by simp)), Bool.true_and]
      have : d ∉ endsOf ws := fun z => (List.nodup_append.mp nd).2.2 d (by simp) d z rfl
      rw [bey_none.mpr this]
      rfl
    intro z
    rw [z] at m
    cases m
end L3

/-! LWir: houses, doors and wires dealt by cells. -/
namespace L3
open PySem L2

structure CntOk (cs : List Int) : Prop where
  len1 : 1 ≤ cs.length
  len2 : cs.length ≤ 6
  cnt : ∀ c ∈ cs, 1 ≤ c ∧ c ≤ 4
theorem counts_d {n : Nat} {st : Sto} {ns : List Int} {Q : AV → Sto → Prop} (q : ∀ s a cs, Ext st s → st.length ≤ a → s[a]? = some (.lst (cs.map AV.int)) → CntOk cs → Q (.ref a) s) : (callF tab (n + 2) g_law_counts [.rol ns] st).Is Q := by
  refine call_is rfl rfl ?_; simp only [List.map_cons, List.map_nil, List.cons_append, List.nil_append, List.replicate_succ, List.replicate_zero, Nat.reduceSub]
  try simp (decide := true) only [↓i_var, ↓i_con, ↓i_kon, ↓i_bin, ↓i_neg, ↓i_not, ↓i_and, ↓i_or, ↓i_and0, ↓i_or0, ↓i_and1, ↓i_or1, ↓i_cmp, ↓i_chain, ↓i_lst, ↓i_tup, ↓i_dnew, ↓i_call, ↓i_mk, ↓i_bcall, ↓i_isi, ↓i_meth, ↓i_sel, ↓i_selL, ↓i_fld, ↓i_idx, ↓i_sl, ↓i_lrng, ↓i_lc, ↓i_nil, ↓i_cons, ↓i_o0, ↓i_o1, ↓i_opt, ↓i_seq, ↓i_rng1, ↓i_rng2, ↓i_enum, ↓i_zip, ↓i_wk, ↓i_tst, ↓ws_done, ↓ws_asg, ↓ws_asgT, ↓ws_ofE, ↓ws_of, ↓ws_asgF, ↓ws_asgI, ↓ws_aug, ↓ws_expr, ↓ws_ret, ↓ws_retN, ↓ws_ite, ↓ws_loop, ↓ws_whil, ↓boolIs_b, ↓intIs_i, ↓slot_0, ↓slot_1, ↓set_0, ↓set_1, ↓R.is_ok, ↓SR.is_rt, ↓SR.is_nx, ↓i_ofB, ↓wt_non, ↓wt_bl, ↓wt_int, ↓wt_str, ↓wt_tup, ↓wt_rol, ↓ib_add, ↓ib_sub, ↓ib_fdiv, ↓ib_mod, ↓ib_pow, ↓ib_band, ↓ib_shr, ↓ic_lt, ↓ic_le, ↓ic_gt, ↓ic_ge, ↓ic_is, ↓ic_isnot, ↓ic_eqI, ↓ic_neI, ↓ic_eqB, ↓ic_in1, ↓il_lenT, ↓tx_0, ↓tx_1, ↓tx_2, ↓ineg_i, ↓ws_try, ↓i_isx, ↓xx_done, ↓xx_rais, decide_true, decide_false, Bool.not_true, Bool.not_false, List.length_cons, List.length_nil, Int.reduceToNat, decide_eq_true_eq, Bool.not_eq_true', decide_eq_false_iff_not, Bool.true_eq_false, Bool.false_eq_true, if_true, if_false, reduceCtorEq, not_false_eq_true, not_true_eq_false, or_false, or_true, and_true, true_and, List.nil_append, List.cons_append, c_law_counts]
  refine cell_is (by decide) fun c0 => ?_
  try simp (decide := true) only [↓i_var, ↓i_con, ↓i_kon, ↓i_bin, ↓i_neg, ↓i_not, ↓i_and, ↓i_or, ↓i_and0, ↓i_or0, ↓i_and1, ↓i_or1, ↓i_cmp, ↓i_chain, ↓i_lst, ↓i_tup, ↓i_dnew, ↓i_call, ↓i_mk, ↓i_bcall, ↓i_isi, ↓i_meth, ↓i_sel, ↓i_selL, ↓i_fld, ↓i_idx, ↓i_sl, ↓i_lrng, ↓i_lc, ↓i_nil, ↓i_cons, ↓i_o0, ↓i_o1, ↓i_opt, ↓i_seq, ↓i_rng1, ↓i_rng2, ↓i_enum, ↓i_zip, ↓i_wk, ↓i_tst, ↓ws_done, ↓ws_asg, ↓ws_asgT, ↓ws_ofE, ↓ws_of, ↓ws_asgF, ↓ws_asgI, ↓ws_aug, ↓ws_expr, ↓ws_ret, ↓ws_retN, ↓ws_ite, ↓ws_loop, ↓ws_whil, ↓boolIs_b, ↓intIs_i, ↓slot_0, ↓slot_1, ↓set_0, ↓set_1, ↓R.is_ok, ↓SR.is_rt, ↓SR.is_nx, ↓i_ofB, ↓wt_non, ↓wt_bl, ↓wt_int, ↓wt_str, ↓wt_tup, ↓wt_rol, ↓ib_add, ↓ib_sub, ↓ib_fdiv, ↓ib_mod, ↓ib_pow, ↓ib_band, ↓ib_shr, ↓ic_lt, ↓ic_le, ↓ic_gt, ↓ic_ge, ↓ic_is, ↓ic_isnot, ↓ic_eqI, ↓ic_neI, ↓ic_eqB, ↓ic_in1, ↓il_lenT, ↓tx_0, ↓tx_1, ↓tx_2, ↓ineg_i, ↓ws_try, ↓i_isx, ↓xx_done, ↓xx_rais, decide_true, decide_false, Bool.not_true, Bool.not_false, List.length_cons, List.length_nil, Int.reduceToNat, decide_eq_true_eq, Bool.not_eq_true', decide_eq_false_iff_not, Bool.true_eq_false, Bool.false_eq_true, if_true, if_false, reduceCtorEq, not_false_eq_true, not_true_eq_false, or_false, or_true, and_true, true_and, List.nil_append, List.cons_append]
  refine mix_is (by decide) (by decide) ?_
  try simp (decide := true) only [↓i_var, ↓i_con, ↓i_kon, ↓i_bin, ↓i_neg, ↓i_not, ↓i_and, ↓i_or, ↓i_and0, ↓i_or0, ↓i_and1, ↓i_or1, ↓i_cmp, ↓i_chain, ↓i_lst, ↓i_tup, ↓i_dnew, ↓i_call, ↓i_mk, ↓i_bcall, ↓i_isi, ↓i_meth, ↓i_sel, ↓i_selL, ↓i_fld, ↓i_idx, ↓i_sl, ↓i_lrng, ↓i_lc, ↓i_nil, ↓i_cons, ↓i_o0, ↓i_o1, ↓i_opt, ↓i_seq, ↓i_rng1, ↓i_rng2, ↓i_enum, ↓i_zip, ↓i_wk, ↓i_tst, ↓ws_done, ↓ws_asg, ↓ws_asgT, ↓ws_ofE, ↓ws_of, ↓ws_asgF, ↓ws_asgI, ↓ws_aug, ↓ws_expr, ↓ws_ret, ↓ws_retN, ↓ws_ite, ↓ws_loop, ↓ws_whil, ↓boolIs_b, ↓intIs_i, ↓slot_0, ↓slot_1, ↓set_0, ↓set_1, ↓R.is_ok, ↓SR.is_rt, ↓SR.is_nx, ↓i_ofB, ↓wt_non, ↓wt_bl, ↓wt_int, ↓wt_str, ↓wt_tup, ↓wt_rol, ↓ib_add, ↓ib_sub, ↓ib_fdiv, ↓ib_mod, ↓ib_pow, ↓ib_band, ↓ib_shr, ↓ic_lt, ↓ic_le, ↓ic_gt, ↓ic_ge, ↓ic_is, ↓ic_isnot, ↓ic_eqI, ↓ic_neI, ↓ic_eqB, ↓ic_in1, ↓il_lenT, ↓tx_0, ↓tx_1, ↓tx_2, ↓ineg_i, ↓ws_try, ↓i_isx, ↓xx_done, ↓xx_rais, decide_true, decide_false, Bool.not_true, Bool.not_false, List.length_cons, List.length_nil, Int.reduceToNat, decide_eq_true_eq, Bool.not_eq_true', decide_eq_false_iff_not, Bool.true_eq_false, Bool.false_eq_true, if_true, if_false, reduceCtorEq, not_false_eq_true, not_true_eq_false, or_false, or_true, and_true, true_and, List.nil_append, List.cons_append]
  have hm : 1 ≤ 1 + mixM c0 1 % 6 ∧ 1 + mixM c0 1 % 6 ≤ 6 := by omega
  generalize 1 + mixM c0 1 % 6 = many at hm ⊢
  rw [ir_1 (by omega) (by omega)]
  refine lc_r (List.range many.toNat) (fun k : Nat => AV.int (k : Int)) AV.int (fun _ _ y => 1 ≤ y ∧ y ≤ 4) (fun _ _ _ _ _ h => h) (intsFrom_0 _) rfl (by rw [List.length_range]; unfold lim; omega) (fun k hk => ⟨_, rfl, fun s hs => ?_⟩) fun s ys hs hl hP => ?_
  · have hk := List.mem_range.mp hk
    simp only [bindT, bindT.go, wipeA, List.set_cons_zero, List.set_cons_succ]
    try simp (decide := true) only [↓i_var, ↓i_con, ↓i_kon, ↓i_bin, ↓i_neg, ↓i_not, ↓i_and, ↓i_or, ↓i_and0, ↓i_or0, ↓i_and1, ↓i_or1, ↓i_cmp, ↓i_chain, ↓i_lst, ↓i_tup, ↓i_dnew, ↓i_call, ↓i_mk, ↓i_bcall, ↓i_isi, ↓i_meth, ↓i_sel, ↓i_selL, ↓i_fld, ↓i_idx, ↓i_sl, ↓i_lrng, ↓i_lc, ↓i_nil, ↓i_cons, ↓i_o0, ↓i_o1, ↓i_opt, ↓i_seq, ↓i_rng1, ↓i_rng2, ↓i_enum, ↓i_zip, ↓i_wk, ↓i_tst, ↓ws_done, ↓ws_asg, ↓ws_asgT, ↓ws_ofE, ↓ws_of, ↓ws_asgF, ↓ws_asgI, ↓ws_aug, ↓ws_expr, ↓ws_ret, ↓ws_retN, ↓ws_ite, ↓ws_loop, ↓ws_whil, ↓boolIs_b, ↓intIs_i, ↓slot_0, ↓slot_1, ↓set_0, ↓set_1, ↓R.is_ok, ↓SR.is_rt, ↓SR.is_nx, ↓i_ofB, ↓wt_non, ↓wt_bl, ↓wt_int, ↓wt_str, ↓wt_tup, ↓wt_rol, ↓ib_add, ↓ib_sub, ↓ib_fdiv, ↓ib_mod, ↓ib_pow, ↓ib_band, ↓ib_shr, ↓ic_lt, ↓ic_le, ↓ic_gt, ↓ic_ge, ↓ic_is, ↓ic_isnot, ↓ic_eqI, ↓ic_neI, ↓ic_eqB, ↓ic_in1, ↓il_lenT, ↓tx_0, ↓tx_1, ↓tx_2, ↓ineg_i, ↓ws_try, ↓i_isx, ↓xx_done, ↓xx_rais, decide_true, decide_false, Bool.not_true, Bool.not_false, List.length_cons, List.length_nil, Int.reduceToNat, decide_eq_true_eq, Bool.not_eq_true', decide_eq_false_iff_not, Bool.true_eq_false, Bool.false_eq_true, if_true, if_false, reduceCtorEq, not_false_eq_true, not_true_eq_false, or_false, or_true, and_true, true_and, List.nil_append, List.cons_append, c_law_counts_1]
    refine cell_is (by decide) fun c1 => ?_
    try simp (decide := true) only [↓i_var, ↓i_con, ↓i_kon, ↓i_bin, ↓i_neg, ↓i_not, ↓i_and, ↓i_or, ↓i_and0, ↓i_or0, ↓i_and1, ↓i_or1, ↓i_cmp, ↓i_chain, ↓i_lst, ↓i_tup, ↓i_dnew, ↓i_call, ↓i_mk, ↓i_bcall, ↓i_isi, ↓i_meth, ↓i_sel, ↓i_selL, ↓i_fld, ↓i_idx, ↓i_sl, ↓i_lrng, ↓i_lc, ↓i_nil, ↓i_cons, ↓i_o0, ↓i_o1, ↓i_opt, ↓i_seq, ↓i_rng1, ↓i_rng2, ↓i_enum, ↓i_zip, ↓i_wk, ↓i_tst, ↓ws_done, ↓ws_asg, ↓ws_asgT, ↓ws_ofE, ↓ws_of, ↓ws_asgF, ↓ws_asgI, ↓ws_aug, ↓ws_expr, ↓ws_ret, ↓ws_retN, ↓ws_ite, ↓ws_loop, ↓ws_whil, ↓boolIs_b, ↓intIs_i, ↓slot_0, ↓slot_1, ↓set_0, ↓set_1, ↓R.is_ok, ↓SR.is_rt, ↓SR.is_nx, ↓i_ofB, ↓wt_non, ↓wt_bl, ↓wt_int, ↓wt_str, ↓wt_tup, ↓wt_rol, ↓ib_add, ↓ib_sub, ↓ib_fdiv, ↓ib_mod, ↓ib_pow, ↓ib_band, ↓ib_shr, ↓ic_lt, ↓ic_le, ↓ic_gt, ↓ic_ge, ↓ic_is, ↓ic_isnot, ↓ic_eqI, ↓ic_neI, ↓ic_eqB, ↓ic_in1, ↓il_lenT, ↓tx_0, ↓tx_1, ↓tx_2, ↓ineg_i, ↓ws_try, ↓i_isx, ↓xx_done, ↓xx_rais, decide_true, decide_false, Bool.not_true, Bool.not_false, List.length_cons, List.length_nil, Int.reduceToNat, decide_eq_true_eq, Bool.not_eq_true', decide_eq_false_iff_not, Bool.true_eq_false, Bool.false_eq_true, if_true, if_false, reduceCtorEq, not_false_eq_true, not_true_eq_false, or_false, or_true, and_true, true_and, List.nil_append, List.cons_append]
    refine mix_is (by omega) (by omega) ?_
    try simp (decide := true) only [↓i_var, ↓i_con, ↓i_kon, ↓i_bin, ↓i_neg, ↓i_not, ↓i_and, ↓i_or, ↓i_and0, ↓i_or0, ↓i_and1, ↓i_or1, ↓i_cmp, ↓i_chain, ↓i_lst, ↓i_tup, ↓i_dnew, ↓i_call, ↓i_mk, ↓i_bcall, ↓i_isi, ↓i_meth, ↓i_sel, ↓i_selL, ↓i_fld, ↓i_idx, ↓i_sl, ↓i_lrng, ↓i_lc, ↓i_nil, ↓i_cons, ↓i_o0, ↓i_o1, ↓i_opt, ↓i_seq, ↓i_rng1, ↓i_rng2, ↓i_enum, ↓i_zip, ↓i_wk, ↓i_tst, ↓ws_done, ↓ws_asg, ↓ws_asgT, ↓ws_ofE, ↓ws_of, ↓ws_asgF, ↓ws_asgI, ↓ws_aug, ↓ws_expr, ↓ws_ret, ↓ws_retN, ↓ws_ite, ↓ws_loop, ↓ws_whil, ↓boolIs_b, ↓intIs_i, ↓slot_0, ↓slot_1, ↓set_0, ↓set_1, ↓R.is_ok, ↓SR.is_rt, ↓SR.is_nx, ↓i_ofB, ↓wt_non, ↓wt_bl, ↓wt_int, ↓wt_str, ↓wt_tup, ↓wt_rol, ↓ib_add, ↓ib_sub, ↓ib_fdiv, ↓ib_mod, ↓ib_pow, ↓ib_band, ↓ib_shr, ↓ic_lt, ↓ic_le, ↓ic_gt, ↓ic_ge, ↓ic_is, ↓ic_isnot, ↓ic_eqI, ↓ic_neI, ↓ic_eqB, ↓ic_in1, ↓il_lenT, ↓tx_0, ↓tx_1, ↓tx_2, ↓ineg_i, ↓ws_try, ↓i_isx, ↓xx_done, ↓xx_rais, decide_true, decide_false, Bool.not_true, Bool.not_false, List.length_cons, List.length_nil, Int.reduceToNat, decide_eq_true_eq, Bool.not_eq_true', decide_eq_false_iff_not, Bool.true_eq_false, Bool.false_eq_true, if_true, if_false, reduceCtorEq, not_false_eq_true, not_true_eq_false, or_false, or_true, and_true, true_and, List.nil_append, List.cons_append]
    exact ⟨_, rfl, Ext.refl _, by omega⟩
  · rw [List.length_range] at hl
    refine q _ _ ys (hs.trans (Ext.push _ _)) hs.lt (get_push _ _) ⟨by omega, by omega, fun c hc => ?_⟩
    obtain ⟨i, hi, rfl⟩ := List.getElem_of_mem hc
    exact hP i i _ (by rw [List.getElem?_range (by omega)]) (List.getElem?_eq_getElem hi)
theorem doors_d {n a : Nat} {st : Sto} {cs : List Int} {Q : AV → Sto → Prop} (ha : st[a]? = some (.lst (cs.map AV.int))) (hl : cs.length ≤ 6) (hc : ∀ c ∈ cs, 1 ≤ c ∧ c ≤ 4) (q : ∀ s r, Ext st s → st.length ≤ r → s[r]? = some (.lst ((allD cs).map doorV)) → Q (.ref r) s) : (callF tab (n + 1) g_law_doors [.ref a] st).Is Q := by
  refine call_is rfl rfl ?_; simp only [List.map_cons, List.map_nil, List.cons_append, List.nil_append, List.replicate_succ, List.replicate_zero, Nat.reduceSub]
  have x0 := Ext.push st (AO.lst [])
  have g0 := get_push st (AO.lst [])
  try simp (decide := true) only [↓i_var, ↓i_con, ↓i_kon, ↓i_bin, ↓i_neg, ↓i_not, ↓i_and, ↓i_or, ↓i_and0, ↓i_or0, ↓i_and1, ↓i_or1, ↓i_cmp, ↓i_chain, ↓i_lst, ↓i_tup, ↓i_dnew, ↓i_call, ↓i_mk, ↓i_bcall, ↓i_isi, ↓i_meth, ↓i_sel, ↓i_selL, ↓i_fld, ↓i_idx, ↓i_sl, ↓i_lrng, ↓i_lc, ↓i_nil, ↓i_cons, ↓i_o0, ↓i_o1, ↓i_opt, ↓i_seq, ↓i_rng1, ↓i_rng2, ↓i_enum, ↓i_zip, ↓i_wk, ↓i_tst, ↓ws_done, ↓ws_asg, ↓ws_asgT, ↓ws_ofE, ↓ws_of, ↓ws_asgF, ↓ws_asgI, ↓ws_aug, ↓ws_expr, ↓ws_ret, ↓ws_retN, ↓ws_ite, ↓ws_loop, ↓ws_whil, ↓boolIs_b, ↓intIs_i, ↓slot_0, ↓slot_1, ↓set_0, ↓set_1, ↓R.is_ok, ↓SR.is_rt, ↓SR.is_nx, ↓i_ofB, ↓wt_non, ↓wt_bl, ↓wt_int, ↓wt_str, ↓wt_tup, ↓wt_rol, ↓ib_add, ↓ib_sub, ↓ib_fdiv, ↓ib_mod, ↓ib_pow, ↓ib_band, ↓ib_shr, ↓ic_lt, ↓ic_le, ↓ic_gt, ↓ic_ge, ↓ic_is, ↓ic_isnot, ↓ic_eqI, ↓ic_neI, ↓ic_eqB, ↓ic_in1, ↓il_lenT, ↓tx_0, ↓tx_1, ↓tx_2, ↓ineg_i, ↓ws_try, ↓i_isx, ↓xx_done, ↓xx_rais, decide_true, decide_false, Bool.not_true, Bool.not_false, List.length_cons, List.length_nil, Int.reduceToNat, decide_eq_true_eq, Bool.not_eq_true', decide_eq_false_iff_not, Bool.true_eq_false, Bool.false_eq_true, if_true, if_false, reduceCtorEq, not_false_eq_true, not_true_eq_false, or_false, or_true, and_true, true_and, List.nil_append, List.cons_append, c_law_doors, ↓il_len (x0 _ _ ha)]
  rw [ir_1 (by rw [List.length_map]; omega) (by omega), List.length_map, Int.toNat_natCast, intsFrom_0]
  have har : a ≠ st.length := by have := get_lt ha; omega
  have hr0 : st.length ≤ st.length := Nat.le_refl _
  generalize hr1 : st.length = r at g0 har hr0 ⊢
  generalize st ++ [AO.lst []] = s0 at x0 g0 ⊢
  refine for_is (fun k e s => ∃ (z2 : Option AV), e = [some (.ref a), some (.ref r), z2, none] ∧ Ext st s ∧ s[r]? = some (.lst ((doorsUpto cs k).map doorV)) ∧ k ≤ cs.length) _ 0 _ _ ⟨_, rfl, x0, g0, Nat.zero_le _⟩ (fun i y e s hy hI => ?_) fun e s hI => ?_
  · obtain ⟨z2, rfl, hE, hr, hk⟩ := hI
    rw [Nat.zero_add] at hr hk
    rw [List.getElem?_map] at hy
    obtain ⟨y1, hy1, rfl⟩ := Option.map_eq_some_iff.mp hy
    obtain ⟨hi, e1⟩ := List.getElem?_eq_some_iff.mp hy1
    rw [List.getElem_range] at e1
    subst e1
    rw [List.length_range] at hi
    refine ⟨rfl, _, rfl, ?_⟩
    simp only [bindT, bindT.go, wipeA, List.set_cons_zero, List.set_cons_succ]
    have hD := doorsUpto_len hc i hk
    have e1 : cs.getD (i : Int).toNat 0 = cs.getD i 0 := by rw [Int.toNat_natCast]
    have b1 : 1 ≤ cs.getD i 0 ∧ cs.getD i 0 ≤ 4 := by
      rw [List.getD_eq_getElem?_getD, List.getElem?_eq_getElem hi]
      exact hc _ (List.getElem_mem hi)
    try simp (decide := true) only [↓i_var, ↓i_con, ↓i_kon, ↓i_bin, ↓i_neg, ↓i_not, ↓i_and, ↓i_or, ↓i_and0, ↓i_or0, ↓i_and1, ↓i_or1, ↓i_cmp, ↓i_chain, ↓i_lst, ↓i_tup, ↓i_dnew, ↓i_call, ↓i_mk, ↓i_bcall, ↓i_isi, ↓i_meth, ↓i_sel, ↓i_selL, ↓i_fld, ↓i_idx, ↓i_sl, ↓i_lrng, ↓i_lc, ↓i_nil, ↓i_cons, ↓i_o0, ↓i_o1, ↓i_opt, ↓i_seq, ↓i_rng1, ↓i_rng2, ↓i_enum, ↓i_zip, ↓i_wk, ↓i_tst, ↓ws_done, ↓ws_asg, ↓ws_asgT, ↓ws_ofE, ↓ws_of, ↓ws_asgF, ↓ws_asgI, ↓ws_aug, ↓ws_expr, ↓ws_ret, ↓ws_retN, ↓ws_ite, ↓ws_loop, ↓ws_whil, ↓boolIs_b, ↓intIs_i, ↓slot_0, ↓slot_1, ↓set_0, ↓set_1, ↓R.is_ok, ↓SR.is_rt, ↓SR.is_nx, ↓i_ofB, ↓wt_non, ↓wt_bl, ↓wt_int, ↓wt_str, ↓wt_tup, ↓wt_rol, ↓ib_add, ↓ib_sub, ↓ib_fdiv, ↓ib_mod, ↓ib_pow, ↓ib_band, ↓ib_shr, ↓ic_lt, ↓ic_le, ↓ic_gt, ↓ic_ge, ↓ic_is, ↓ic_isnot, ↓ic_eqI, ↓ic_neI, ↓ic_eqB, ↓ic_in1, ↓il_lenT, ↓tx_0, ↓tx_1, ↓tx_2, ↓ineg_i, ↓ws_try, ↓i_isx, ↓xx_done, ↓xx_rais, decide_true, decide_false, Bool.not_true, Bool.not_false, List.length_cons, List.length_nil, Int.reduceToNat, decide_eq_true_eq, Bool.not_eq_true', decide_eq_false_iff_not, Bool.true_eq_false, Bool.false_eq_true, if_true, if_false, reduceCtorEq, not_false_eq_true, not_true_eq_false, or_false, or_true, and_true, true_and, List.nil_append, List.cons_append, c_law_doors_2, ↓i_methL hr (show 1 ≤ 6 by decide), ↓ix_ints (hE _ _ ha) (show 0 ≤ (i : Int) by omega) (show (i : Int) < cs.length by omega)]
    rw [e1]
    have du : doorsUpto cs (i + 1) = doorsUpto cs i ++ (upto (cs.getD i 0)).map fun n => ((i : Int), n) := rfl
    generalize cs.getD i 0 = y at du b1
    rw [ir_1 (by omega) (by omega)]
    refine lc_m (upto y) .int (fun j => doorV (i, j)) (intsFrom_0 _ |>.trans (by unfold upto; rw [List.map_map]; rfl)) rfl (by rw [upto_len]; unfold lim; omega) (fun j hj => ⟨_, rfl, fun s' hs => ?_⟩) fun s2 h2 => ?_
    · simp only [bindT, bindT.go, wipeA, List.set_cons_zero, List.set_cons_succ]
      try simp (decide := true) only [↓i_var, ↓i_con, ↓i_kon, ↓i_bin, ↓i_neg, ↓i_not, ↓i_and, ↓i_or, ↓i_and0, ↓i_or0, ↓i_and1, ↓i_or1, ↓i_cmp, ↓i_chain, ↓i_lst, ↓i_tup, ↓i_dnew, ↓i_call, ↓i_mk, ↓i_bcall, ↓i_isi, ↓i_meth, ↓i_sel, ↓i_selL, ↓i_fld, ↓i_idx, ↓i_sl, ↓i_lrng, ↓i_lc, ↓i_nil, ↓i_cons, ↓i_o0, ↓i_o1, ↓i_opt, ↓i_seq, ↓i_rng1, ↓i_rng2, ↓i_enum, ↓i_zip, ↓i_wk, ↓i_tst, ↓ws_done, ↓ws_asg, ↓ws_asgT, ↓ws_ofE, ↓ws_of, ↓ws_asgF, ↓ws_asgI, ↓ws_aug, ↓ws_expr, ↓ws_ret, ↓ws_retN, ↓ws_ite, ↓ws_loop, ↓ws_whil, ↓boolIs_b, ↓intIs_i, ↓slot_0, ↓slot_1, ↓set_0, ↓set_1, ↓R.is_ok, ↓SR.is_rt, ↓SR.is_nx, ↓i_ofB, ↓wt_non, ↓wt_bl, ↓wt_int, ↓wt_str, ↓wt_tup, ↓wt_rol, ↓ib_add, ↓ib_sub, ↓ib_fdiv, ↓ib_mod, ↓ib_pow, ↓ib_band, ↓ib_shr, ↓ic_lt, ↓ic_le, ↓ic_gt, ↓ic_ge, ↓ic_is, ↓ic_isnot, ↓ic_eqI, ↓ic_neI, ↓ic_eqB, ↓ic_in1, ↓il_lenT, ↓tx_0, ↓tx_1, ↓tx_2, ↓ineg_i, ↓ws_try, ↓i_isx, ↓xx_done, ↓xx_rais, decide_true, decide_false, Bool.not_true, Bool.not_false, List.length_cons, List.length_nil, Int.reduceToNat, decide_eq_true_eq, Bool.not_eq_true', decide_eq_false_iff_not, Bool.true_eq_false, Bool.false_eq_true, if_true, if_false, reduceCtorEq, not_false_eq_true, not_true_eq_false, or_false, or_true, and_true, true_and, List.nil_append, List.cons_append, c_law_doors_1]
      exact ⟨rfl, Ext.refl _⟩
    · have g := get_push s2 (AO.lst ((upto y).map fun j => doorV (i, j)))
      have h3 := h2.trans (Ext.push s2 (AO.lst ((upto y).map fun j => doorV (i, j))))
      generalize s2 ++ [AO.lst ((upto y).map fun j => doorV (i, j))] = s3 at g h3 ⊢
      rw [im_ext (h3 _ _ hr) g (by rw [List.length_map, List.length_map, upto_len]; unfold lim; omega)]
      have e2 : (doorsUpto cs i).map doorV ++ (upto y).map (fun j => doorV (i, j)) = (doorsUpto cs (i + 1)).map doorV := by
        rw [du, List.map_append, List.map_map]; rfl
      rw [e2]
      try simp (decide := true) only [↓i_var, ↓i_con, ↓i_kon, ↓i_bin, ↓i_neg, ↓i_not, ↓i_and, ↓i_or, ↓i_and0, ↓i_or0, ↓i_and1, ↓i_or1, ↓i_cmp, ↓i_chain, ↓i_lst, ↓i_tup, ↓i_dnew, ↓i_call, ↓i_mk, ↓i_bcall, ↓i_isi, ↓i_meth, ↓i_sel, ↓i_selL, ↓i_fld, ↓i_idx, ↓i_sl, ↓i_lrng, ↓i_lc, ↓i_nil, ↓i_cons, ↓i_o0, ↓i_o1, ↓i_opt, ↓i_seq, ↓i_rng1, ↓i_rng2, ↓i_enum, ↓i_zip, ↓i_wk, ↓i_tst, ↓ws_done, ↓ws_asg, ↓ws_asgT, ↓ws_ofE, ↓ws_of, ↓ws_asgF, ↓ws_asgI, ↓ws_aug, ↓ws_expr, ↓ws_ret, ↓ws_retN, ↓ws_ite, ↓ws_loop, ↓ws_whil, ↓boolIs_b, ↓intIs_i, ↓slot_0, ↓slot_1, ↓set_0, ↓set_1, ↓R.is_ok, ↓SR.is_rt, ↓SR.is_nx, ↓i_ofB, ↓wt_non, ↓wt_bl, ↓wt_int, ↓wt_str, ↓wt_tup, ↓wt_rol, ↓ib_add, ↓ib_sub, ↓ib_fdiv, ↓ib_mod, ↓ib_pow, ↓ib_band, ↓ib_shr, ↓ic_lt, ↓ic_le, ↓ic_gt, ↓ic_ge, ↓ic_is, ↓ic_isnot, ↓ic_eqI, ↓ic_neI, ↓ic_eqB, ↓ic_in1, ↓il_lenT, ↓tx_0, ↓tx_1, ↓tx_2, ↓ineg_i, ↓ws_try, ↓i_isx, ↓xx_done, ↓xx_rais, decide_true, decide_false, Bool.not_true, Bool.not_false, List.length_cons, List.length_nil, Int.reduceToNat, decide_eq_true_eq, Bool.not_eq_true', decide_eq_false_iff_not, Bool.true_eq_false, Bool.false_eq_true, if_true, if_false, reduceCtorEq, not_false_eq_true, not_true_eq_false, or_false, or_true, and_true, true_and, List.nil_append, List.cons_append]
      exact ⟨_, rfl, Ext.set (hE.trans h3) (by omega), by rw [get_set (h3 _ _ hr), show 0 + i + 1 = i + 1 by omega], by omega⟩
  · obtain ⟨z2, rfl, hE, hr, hk⟩ := hI
    rw [List.length_map, List.length_range, Nat.zero_add] at hr
    refine ⟨rfl, ?_⟩
    try simp (decide := true) only [↓i_var, ↓i_con, ↓i_kon, ↓i_bin, ↓i_neg, ↓i_not, ↓i_and, ↓i_or, ↓i_and0, ↓i_or0, ↓i_and1, ↓i_or1, ↓i_cmp, ↓i_chain, ↓i_lst, ↓i_tup, ↓i_dnew, ↓i_call, ↓i_mk, ↓i_bcall, ↓i_isi, ↓i_meth, ↓i_sel, ↓i_selL, ↓i_fld, ↓i_idx, ↓i_sl, ↓i_lrng, ↓i_lc, ↓i_nil, ↓i_cons, ↓i_o0, ↓i_o1, ↓i_opt, ↓i_seq, ↓i_rng1, ↓i_rng2, ↓i_enum, ↓i_zip, ↓i_wk, ↓i_tst, ↓ws_done, ↓ws_asg, ↓ws_asgT, ↓ws_ofE, ↓ws_of, ↓ws_asgF, ↓ws_asgI, ↓ws_aug, ↓ws_expr, ↓ws_ret, ↓ws_retN, ↓ws_ite, ↓ws_loop, ↓ws_whil, ↓boolIs_b, ↓intIs_i, ↓slot_0, ↓slot_1, ↓set_0, ↓set_1, ↓R.is_ok, ↓SR.is_rt, ↓SR.is_nx, ↓i_ofB, ↓wt_non, ↓wt_bl, ↓wt_int, ↓wt_str, ↓wt_tup, ↓wt_rol, ↓ib_add, ↓ib_sub, ↓ib_fdiv, ↓ib_mod, ↓ib_pow, ↓ib_band, ↓ib_shr, ↓ic_lt, ↓ic_le, ↓ic_gt, ↓ic_ge, ↓ic_is, ↓ic_isnot, ↓ic_eqI, ↓ic_neI, ↓ic_eqB, ↓ic_in1, ↓il_lenT, ↓tx_0, ↓tx_1, ↓tx_2, ↓ineg_i, ↓ws_try, ↓i_isx, ↓xx_done, ↓xx_rais, decide_true, decide_false, Bool.not_true, Bool.not_false, List.length_cons, List.length_nil, Int.reduceToNat, decide_eq_true_eq, Bool.not_eq_true', decide_eq_false_iff_not, Bool.true_eq_false, Bool.false_eq_true, if_true, if_false, reduceCtorEq, not_false_eq_true, not_true_eq_false, or_false, or_true, and_true, true_and, List.nil_append, List.cons_append]
    exact q s r hE (by omega) hr
/-! ### sorting -/
def numDV (p : Int × Door) : AV := .tup [.int p.1, doorV p.2]
theorem perm_map {α β : Type} {f : α → β} : ∀ {l m : List β}, l.Perm m → ∀ P : List α, m = P.map f → ∃ P' : List α, P'.Perm P ∧ l = P'.map f := by
  intro l m h
  induction h with
  | nil =>
    intro P e
    cases P with
    | nil => exact ⟨[], List.Perm.refl _, rfl⟩
    | cons _ _ => cases e
  | cons x h ih =>
    intro P e
    cases P with
    | nil => cases e
    | cons p P =>
      rw [List.map_cons] at e
      injection e with e1 e2
      obtain ⟨P', h1, h2⟩ := ih P e2
      exact ⟨p :: P', h1.cons p, by rw [List.map_cons, e1, h2]⟩
  | swap x y l =>
    intro P e
    cases P with
    | nil => cases e
    | cons p P =>
      cases P with
      | nil => cases e
      | cons p2 P =>
        rw [List.map_cons, List.map_cons] at e
        injection e with e1 e2
        injection e2 with e3 e4
        exact ⟨p2 :: p :: P, .swap _ _ _, by rw [List.map_cons, List.map_cons, e1, e3, e4]⟩
  | trans h1 h2 ih1 ih2 =>
    intro P e
    obtain ⟨P1, a1, a2⟩ := ih2 P e
    obtain ⟨P2, b1, b2⟩ := ih1 P1 a2
    exact ⟨P2, b1.trans a1, b2⟩
theorem il_sorted {st : Sto} {r : Nat} {ys : List AV} {ds : List PyData} {Q : AV → Sto → Prop} (h : st[r]? = some (.lst ys)) (hd : oAll (pd 9 st) ys = some ds) (h1 : alikeB ds = true) (h2 : sortB ds = true) (hl : ys.length ≤ lim) : (callB .sorted [.ref r] st).Is Q = Q (.ref st.length) (st ++ [.lst (sortA st ys)]) := by
  have e : callB .sorted [.ref r] st = .ok (.ref st.length) (st ++ [.lst (sortA st ys)]) := by
    unfold callB
    dsimp only
    unfold lstA
    dsimp only
    rw [h]
    dsimp only
    rw [hd]
    dsimp only
    rw [if_pos ⟨h1, h2, hl⟩]
    rfl
  rw [e]
  rfl
theorem sortA_perm (st : Sto) (ys : List AV) : (sortA st ys).Perm ys := List.mergeSort_perm _ _
theorem sort_pairs {st : Sto} {r : Nat} {P : List (Int × Door)} {Q : AV → Sto → Prop} (h : st[r]? = some (.lst (P.map numDV))) (hl : P.length ≤ 1000) (q : ∀ P' : List (Int × Door), P'.Perm P → Q (.ref st.length) (st ++ [.lst (P'.map numDV)])) : (callB .sorted [.ref r] st).Is Q := by
  obtain ⟨P', h1, h2⟩ := perm_map (sortA_perm st (P.map numDV)) P rfl
  have hd : ∀ P : List (Int × Door), oAll (pd 9 st) (P.map numDV) = some (P.map fun p => PyData.tuple [.int p.1, doorD p.2]) := by
    intro P
    induction P with
    | nil => rfl
    | cons p P ih =>
      rw [List.map_cons, oAll, ih]
      rfl
  rw [il_sorted h (hd P) ?a ?b (by rw [List.length_map]; unfold lim; omega), h2]
  case a =>
    refine List.all_eq_true.mpr fun d hd => List.all_eq_true.mpr fun e he => ?_
    obtain ⟨p, _, rfl⟩ := List.mem_map.mp hd
    obtain ⟨q, _, rfl⟩ := List.mem_map.mp he
    simp [PySem.W.alike, PySem.W.alikeAll, doorD]
  case b =>
    unfold sortB
    rw [Bool.or_eq_true]
    refine .inl (List.all_eq_true.mpr fun d hd => ?_)
    obtain ⟨p, _, rfl⟩ := List.mem_map.mp hd
    rfl
  exact q P' h1
def pairsOf (D : List Door) (many : Nat) : List Wire := (List.range many).map fun k => (D.getD (2 * k) (0, 0), D.getD (2 * k + 1) (0, 0))
theorem ends_pairs (D : List Door) : ∀ many : Nat, 2 * many ≤ D.length → endsOf (pairsOf D many) = D.take (2 * many)
  | 0, _ => rfl
  | m + 1, h => by
    unfold pairsOf
    rw [List.range_succ, List.map_append, List.map_cons, List.map_nil, ends_snoc]
    have ih := ends_pairs D m (by omega)
    unfold pairsOf at ih
    rw [ih, show 2 * (m + 1) = 2 * m + 1 + 1 by omega, List.take_add_one, List.take_add_one]
    have e1 : D[2 * m]? = some D[2 * m] := List.getElem?_eq_getElem (by omega)
    have e2 : D[2 * m + 1]? = some D[2 * m + 1] := List.getElem?_eq_getElem (by omega)
    rw [List.getD_eq_getElem?_getD, List.getD_eq_getElem?_getD, e1, e2, List.append_assoc]
    rfl
theorem ix_doors {st : Sto} {Q : AV → Sto → Prop} {m : Nat} {D : List Door} {i : Int} (h : st[m]? = some (.lst (D.map doorV))) (h0 : 0 ≤ i) (h1 : i < D.length) : (idxA (.ref m) (.int i) st).Is Q = Q (doorV (D.getD i.toNat (0, 0))) st := by
  have hi : i.toNat < D.length := by omega
  have e : L2.ixN (D.map doorV).length i = some i.toNat := by
    rw [List.length_map]
    unfold L2.ixN
    rw [if_pos h0, if_pos h1]
  rw [iix_l h e (by rw [List.getElem?_map, List.getElem?_eq_getElem hi]; rfl), List.getD_eq_getElem?_getD, List.getElem?_eq_getElem hi]
  rfl
set_option maxHeartbeats 1000000 in
theorem wires_d {n a : Nat} {st : Sto} {ns cs : List Int} {Q : AV → Sto → Prop} (ha : st[a]? = some (.lst (cs.map AV.int))) (hC : CntOk cs) (q : ∀ s b ws, Ext st s → st.length ≤ b → s[b]? = some (.lst (ws.map wireV)) → NetWf cs ws → Q (.ref b) s) : (callF tab (n + 2) g_law_wires [.rol ns, .ref a] st).Is Q := by
  have hDl := doorsUpto_len hC.cnt cs.length (Nat.le_refl _)
  have eD : doorsUpto cs cs.length = allD cs := rfl
  rw [eD] at hDl
  have hl2 := hC.len2
  have hl1 := hC.len1
  refine call_is rfl rfl ?_; simp only [List.map_cons, List.map_nil, List.cons_append, List.nil_append, List.replicate_succ, List.replicate_zero, Nat.reduceSub]
  try simp (decide := true) only [↓i_var, ↓i_con, ↓i_kon, ↓i_bin, ↓i_neg, ↓i_not, ↓i_and, ↓i_or, ↓i_and0, ↓i_or0, ↓i_and1, ↓i_or1, ↓i_cmp, ↓i_chain, ↓i_lst, ↓i_tup, ↓i_dnew, ↓i_call, ↓i_mk, ↓i_bcall, ↓i_isi, ↓i_meth, ↓i_sel, ↓i_selL, ↓i_fld, ↓i_idx, ↓i_sl, ↓i_lrng, ↓i_lc, ↓i_nil, ↓i_cons, ↓i_o0, ↓i_o1, ↓i_opt, ↓i_seq, ↓i_rng1, ↓i_rng2, ↓i_enum, ↓i_zip, ↓i_wk, ↓i_tst, ↓ws_done, ↓ws_asg, ↓ws_asgT, ↓ws_ofE, ↓ws_of, ↓ws_asgF, ↓ws_asgI, ↓ws_aug, ↓ws_expr, ↓ws_ret, ↓ws_retN, ↓ws_ite, ↓ws_loop, ↓ws_whil, ↓boolIs_b, ↓intIs_i, ↓slot_0, ↓slot_1, ↓set_0, ↓set_1, ↓R.is_ok, ↓SR.is_rt, ↓SR.is_nx, ↓i_ofB, ↓wt_non, ↓wt_bl, ↓wt_int, ↓wt_str, ↓wt_tup, ↓wt_rol, ↓ib_add, ↓ib_sub, ↓ib_fdiv, ↓ib_mod, ↓ib_pow, ↓ib_band, ↓ib_shr, ↓ic_lt, ↓ic_le, ↓ic_gt, ↓ic_ge, ↓ic_is, ↓ic_isnot, ↓ic_eqI, ↓ic_neI, ↓ic_eqB, ↓ic_in1, ↓il_lenT, ↓tx_0, ↓tx_1, ↓tx_2, ↓ineg_i, ↓ws_try, ↓i_isx, ↓xx_done, ↓xx_rais, decide_true, decide_false, Bool.not_true, Bool.not_false, List.length_cons, List.length_nil, Int.reduceToNat, decide_eq_true_eq, Bool.not_eq_true', decide_eq_false_iff_not, Bool.true_eq_false, Bool.false_eq_true, if_true, if_false, reduceCtorEq, not_false_eq_true, not_true_eq_false, or_false, or_true, and_true, true_and, List.nil_append, List.cons_append, c_law_wires]
  refine doors_d ha hC.len2 hC.cnt fun s1 r h1 l1 g1 => ?_
  have x2 := Ext.push s1 (AO.lst [])
  have g2 := get_push s1 (AO.lst [])
  try simp (decide := true) only [↓i_var, ↓i_con, ↓i_kon, ↓i_bin, ↓i_neg, ↓i_not, ↓i_and, ↓i_or, ↓i_and0, ↓i_or0, ↓i_and1, ↓i_or1, ↓i_cmp, ↓i_chain, ↓i_lst, ↓i_tup, ↓i_dnew, ↓i_call, ↓i_mk, ↓i_bcall, ↓i_isi, ↓i_meth, ↓i_sel, ↓i_selL, ↓i_fld, ↓i_idx, ↓i_sl, ↓i_lrng, ↓i_lc, ↓i_nil, ↓i_cons, ↓i_o0, ↓i_o1, ↓i_opt, ↓i_seq, ↓i_rng1, ↓i_rng2, ↓i_enum, ↓i_zip, ↓i_wk, ↓i_tst, ↓ws_done, ↓ws_asg, ↓ws_asgT, ↓ws_ofE, ↓ws_of, ↓ws_asgF, ↓ws_asgI, ↓ws_aug, ↓ws_expr, ↓ws_ret, ↓ws_retN, ↓ws_ite, ↓ws_loop, ↓ws_whil, ↓boolIs_b, ↓intIs_i, ↓slot_0, ↓slot_1, ↓set_0, ↓set_1, ↓R.is_ok, ↓SR.is_rt, ↓SR.is_nx, ↓i_ofB, ↓wt_non, ↓wt_bl, ↓wt_int, ↓wt_str, ↓wt_tup, ↓wt_rol, ↓ib_add, ↓ib_sub, ↓ib_fdiv, ↓ib_mod, ↓ib_pow, ↓ib_band, ↓ib_shr, ↓ic_lt, ↓ic_le, ↓ic_gt, ↓ic_ge, ↓ic_is, ↓ic_isnot, ↓ic_eqI, ↓ic_neI, ↓ic_eqB, ↓ic_in1, ↓il_lenT, ↓tx_0, ↓tx_1, ↓tx_2, ↓ineg_i, ↓ws_try, ↓i_isx, ↓xx_done, ↓xx_rais, decide_true, decide_false, Bool.not_true, Bool.not_false, List.length_cons, List.length_nil, Int.reduceToNat, decide_eq_true_eq, Bool.not_eq_true', decide_eq_false_iff_not, Bool.true_eq_false, Bool.false_eq_true, if_true, if_false, reduceCtorEq, not_false_eq_true, not_true_eq_false, or_false, or_true, and_true, true_and, List.nil_append, List.cons_append, ↓il_len (x2 _ _ g1)]
  rw [ir_1 (by rw [List.length_map]; omega) (by omega), List.length_map, Int.toNat_natCast, intsFrom_0]
  generalize hp0 : s1.length = p at g2 ⊢
  generalize s1 ++ [AO.lst []] = s2 at x2 g2 ⊢
  refine for_is (fun k e s => ∃ (z4 : Option AV) (P : List (Int × Door)), e = [some (.rol ns), some (.ref a), some (.ref r), some (.ref p), z4, none, none, none, none, none] ∧ Ext s1 s ∧ s[p]? = some (.lst (P.map numDV)) ∧ P.map (·.2) = (allD cs).take k ∧ k ≤ (allD cs).length) _ 0 _ _ ⟨_, [], rfl, x2, g2, rfl, Nat.zero_le _⟩ (fun i y e s hy hI => ?_) fun e s hI => ?_
  · obtain ⟨z4, P, rfl, hE, hp, hm, hk⟩ := hI
    rw [Nat.zero_add] at hm hk
    rw [List.getElem?_map] at hy
    obtain ⟨y1, hy1, rfl⟩ := Option.map_eq_some_iff.mp hy
    obtain ⟨hi, e1⟩ := List.getElem?_eq_some_iff.mp hy1
    rw [List.getElem_range] at e1
    subst e1
    rw [List.length_range] at hi
    refine ⟨rfl, _, rfl, ?_⟩
    simp only [bindT, bindT.go, wipeA, List.set_cons_zero, List.set_cons_succ]
    have m1 : ∀ (st : Sto) (Q : AV → Sto → Prop), (binA .mul (.int (i : Nat)) (.int (i : Nat)) st).Is Q = Q (.int ((i : Nat) * (i : Nat))) st := fun st Q => ib_mul (mulOk_l (by omega) (by omega))
    have pl : P.length = i := by
      have := congrArg List.length hm
      rw [List.length_map, List.length_take] at this
      omega
    try simp (decide := true) only [↓i_var, ↓i_con, ↓i_kon, ↓i_bin, ↓i_neg, ↓i_not, ↓i_and, ↓i_or, ↓i_and0, ↓i_or0, ↓i_and1, ↓i_or1, ↓i_cmp, ↓i_chain, ↓i_lst, ↓i_tup, ↓i_dnew, ↓i_call, ↓i_mk, ↓i_bcall, ↓i_isi, ↓i_meth, ↓i_sel, ↓i_selL, ↓i_fld, ↓i_idx, ↓i_sl, ↓i_lrng, ↓i_lc, ↓i_nil, ↓i_cons, ↓i_o0, ↓i_o1, ↓i_opt, ↓i_seq, ↓i_rng1, ↓i_rng2, ↓i_enum, ↓i_zip, ↓i_wk, ↓i_tst, ↓ws_done, ↓ws_asg, ↓ws_asgT, ↓ws_ofE, ↓ws_of, ↓ws_asgF, ↓ws_asgI, ↓ws_aug, ↓ws_expr, ↓ws_ret, ↓ws_retN, ↓ws_ite, ↓ws_loop, ↓ws_whil, ↓boolIs_b, ↓intIs_i, ↓slot_0, ↓slot_1, ↓set_0, ↓set_1, ↓R.is_ok, ↓SR.is_rt, ↓SR.is_nx, ↓i_ofB, ↓wt_non, ↓wt_bl, ↓wt_int, ↓wt_str, ↓wt_tup, ↓wt_rol, ↓ib_add, ↓ib_sub, ↓ib_fdiv, ↓ib_mod, ↓ib_pow, ↓ib_band, ↓ib_shr, ↓ic_lt, ↓ic_le, ↓ic_gt, ↓ic_ge, ↓ic_is, ↓ic_isnot, ↓ic_eqI, ↓ic_neI, ↓ic_eqB, ↓ic_in1, ↓il_lenT, ↓tx_0, ↓tx_1, ↓tx_2, ↓ineg_i, ↓ws_try, ↓i_isx, ↓xx_done, ↓xx_rais, decide_true, decide_false, Bool.not_true, Bool.not_false, List.length_cons, List.length_nil, Int.reduceToNat, decide_eq_true_eq, Bool.not_eq_true', decide_eq_false_iff_not, Bool.true_eq_false, Bool.false_eq_true, if_true, if_false, reduceCtorEq, not_false_eq_true, not_true_eq_false, or_false, or_true, and_true, true_and, List.nil_append, List.cons_append, c_law_wires_1, ↓i_methL hp (show 0 ≤ 6 by decide)]
    refine cell_is (by decide) fun c => ?_
    try simp (decide := true) only [↓i_var, ↓i_con, ↓i_kon, ↓i_bin, ↓i_neg, ↓i_not, ↓i_and, ↓i_or, ↓i_and0, ↓i_or0, ↓i_and1, ↓i_or1, ↓i_cmp, ↓i_chain, ↓i_lst, ↓i_tup, ↓i_dnew, ↓i_call, ↓i_mk, ↓i_bcall, ↓i_isi, ↓i_meth, ↓i_sel, ↓i_selL, ↓i_fld, ↓i_idx, ↓i_sl, ↓i_lrng, ↓i_lc, ↓i_nil, ↓i_cons, ↓i_o0, ↓i_o1, ↓i_opt, ↓i_seq, ↓i_rng1, ↓i_rng2, ↓i_enum, ↓i_zip, ↓i_wk, ↓i_tst, ↓ws_done, ↓ws_asg, ↓ws_asgT, ↓ws_ofE, ↓ws_of, ↓ws_asgF, ↓ws_asgI, ↓ws_aug, ↓ws_expr, ↓ws_ret, ↓ws_retN, ↓ws_ite, ↓ws_loop, ↓ws_whil, ↓boolIs_b, ↓intIs_i, ↓slot_0, ↓slot_1, ↓set_0, ↓set_1, ↓R.is_ok, ↓SR.is_rt, ↓SR.is_nx, ↓i_ofB, ↓wt_non, ↓wt_bl, ↓wt_int, ↓wt_str, ↓wt_tup, ↓wt_rol, ↓ib_add, ↓ib_sub, ↓ib_fdiv, ↓ib_mod, ↓ib_pow, ↓ib_band, ↓ib_shr, ↓ic_lt, ↓ic_le, ↓ic_gt, ↓ic_ge, ↓ic_is, ↓ic_isnot, ↓ic_eqI, ↓ic_neI, ↓ic_eqB, ↓ic_in1, ↓il_lenT, ↓tx_0, ↓tx_1, ↓tx_2, ↓ineg_i, ↓ws_try, ↓i_isx, ↓xx_done, ↓xx_rais, decide_true, decide_false, Bool.not_true, Bool.not_false, List.length_cons, List.length_nil, Int.reduceToNat, decide_eq_true_eq, Bool.not_eq_true', decide_eq_false_iff_not, Bool.true_eq_false, Bool.false_eq_true, if_true, if_false, reduceCtorEq, not_false_eq_true, not_true_eq_false, or_false, or_true, and_true, true_and, List.nil_append, List.cons_append, ↓m1]
    refine mix_is (by omega) (by omega) ?_
    try simp (decide := true) only [↓i_var, ↓i_con, ↓i_kon, ↓i_bin, ↓i_neg, ↓i_not, ↓i_and, ↓i_or, ↓i_and0, ↓i_or0, ↓i_and1, ↓i_or1, ↓i_cmp, ↓i_chain, ↓i_lst, ↓i_tup, ↓i_dnew, ↓i_call, ↓i_mk, ↓i_bcall, ↓i_isi, ↓i_meth, ↓i_sel, ↓i_selL, ↓i_fld, ↓i_idx, ↓i_sl, ↓i_lrng, ↓i_lc, ↓i_nil, ↓i_cons, ↓i_o0, ↓i_o1, ↓i_opt, ↓i_seq, ↓i_rng1, ↓i_rng2, ↓i_enum, ↓i_zip, ↓i_wk, ↓i_tst, ↓ws_done, ↓ws_asg, ↓ws_asgT, ↓ws_ofE, ↓ws_of, ↓ws_asgF, ↓ws_asgI, ↓ws_aug, ↓ws_expr, ↓ws_ret, ↓ws_retN, ↓ws_ite, ↓ws_loop, ↓ws_whil, ↓boolIs_b, ↓intIs_i, ↓slot_0, ↓slot_1, ↓set_0, ↓set_1, ↓R.is_ok, ↓SR.is_rt, ↓SR.is_nx, ↓i_ofB, ↓wt_non, ↓wt_bl, ↓wt_int, ↓wt_str, ↓wt_tup, ↓wt_rol, ↓ib_add, ↓ib_sub, ↓ib_fdiv, ↓ib_mod, ↓ib_pow, ↓ib_band, ↓ib_shr, ↓ic_lt, ↓ic_le, ↓ic_gt, ↓ic_ge, ↓ic_is, ↓ic_isnot, ↓ic_eqI, ↓ic_neI, ↓ic_eqB, ↓ic_in1, ↓il_lenT, ↓tx_0, ↓tx_1, ↓tx_2, ↓ineg_i, ↓ws_try, ↓i_isx, ↓xx_done, ↓xx_rais, decide_true, decide_false, Bool.not_true, Bool.not_false, List.length_cons, List.length_nil, Int.reduceToNat, decide_eq_true_eq, Bool.not_eq_true', decide_eq_false_iff_not, Bool.true_eq_false, Bool.false_eq_true, if_true, if_false, reduceCtorEq, not_false_eq_true, not_true_eq_false, or_false, or_true, and_true, true_and, List.nil_append, List.cons_append, ↓ix_doors (hE _ _ g1) (show 0 ≤ (i : Int) by omega) (show (i : Int) < (allD cs).length by omega), ↓im_app hp (show (P.map numDV).length < lim by rw [List.length_map]; unfold lim; omega)]
    refine ⟨_, P ++ [(mixM (c + (i : Nat) * (i : Nat)) (20 + (i : Nat)), (allD cs).getD (i : Int).toNat (0, 0))], rfl, Ext.set hE (by omega), by rw [get_set hp, List.map_append]; rfl, ?_, by omega⟩
    rw [List.map_append, hm, show 0 + i + 1 = i + 1 by omega, List.take_add_one, Int.toNat_natCast, List.getD_eq_getElem?_getD, List.getElem?_eq_getElem hi]
    rfl
  · obtain ⟨z4, P, rfl, hE, hp, hm, hk⟩ := hI
    rw [Nat.zero_add, List.length_map, List.length_range, List.take_length] at hm
    refine ⟨rfl, ?_⟩
    have pl : P.length = (allD cs).length := by rw [← hm, List.length_map]
    try simp (decide := true) only [↓i_var, ↓i_con, ↓i_kon, ↓i_bin, ↓i_neg, ↓i_not, ↓i_and, ↓i_or, ↓i_and0, ↓i_or0, ↓i_and1, ↓i_or1, ↓i_cmp, ↓i_chain, ↓i_lst, ↓i_tup, ↓i_dnew, ↓i_call, ↓i_mk, ↓i_bcall, ↓i_isi, ↓i_meth, ↓i_sel, ↓i_selL, ↓i_fld, ↓i_idx, ↓i_sl, ↓i_lrng, ↓i_lc, ↓i_nil, ↓i_cons, ↓i_o0, ↓i_o1, ↓i_opt, ↓i_seq, ↓i_rng1, ↓i_rng2, ↓i_enum, ↓i_zip, ↓i_wk, ↓i_tst, ↓ws_done, ↓ws_asg, ↓ws_asgT, ↓ws_ofE, ↓ws_of, ↓ws_asgF, ↓ws_asgI, ↓ws_aug, ↓ws_expr, ↓ws_ret, ↓ws_retN, ↓ws_ite, ↓ws_loop, ↓ws_whil, ↓boolIs_b, ↓intIs_i, ↓slot_0, ↓slot_1, ↓set_0, ↓set_1, ↓R.is_ok, ↓SR.is_rt, ↓SR.is_nx, ↓i_ofB, ↓wt_non, ↓wt_bl, ↓wt_int, ↓wt_str, ↓wt_tup, ↓wt_rol, ↓ib_add, ↓ib_sub, ↓ib_fdiv, ↓ib_mod, ↓ib_pow, ↓ib_band, ↓ib_shr, ↓ic_lt, ↓ic_le, ↓ic_gt, ↓ic_ge, ↓ic_is, ↓ic_isnot, ↓ic_eqI, ↓ic_neI, ↓ic_eqB, ↓ic_in1, ↓il_lenT, ↓tx_0, ↓tx_1, ↓tx_2, ↓ineg_i, ↓ws_try, ↓i_isx, ↓xx_done, ↓xx_rais, decide_true, decide_false, Bool.not_true, Bool.not_false, List.length_cons, List.length_nil, Int.reduceToNat, decide_eq_true_eq, Bool.not_eq_true', decide_eq_false_iff_not, Bool.true_eq_false, Bool.false_eq_true, if_true, if_false, reduceCtorEq, not_false_eq_true, not_true_eq_false, or_false, or_true, and_true, true_and, List.nil_append, List.cons_append]
    refine sort_pairs hp (by omega) fun P' hP => ?_
    have g3 := get_push s (AO.lst (P'.map numDV))
    have x3 := Ext.push s (AO.lst (P'.map numDV))
    generalize s ++ [AO.lst (P'.map numDV)] = s3 at g3 x3 ⊢
    generalize s.length = p3 at g3 ⊢
    try simp (decide := true) only [↓i_var, ↓i_con, ↓i_kon, ↓i_bin, ↓i_neg, ↓i_not, ↓i_and, ↓i_or, ↓i_and0, ↓i_or0, ↓i_and1, ↓i_or1, ↓i_cmp, ↓i_chain, ↓i_lst, ↓i_tup, ↓i_dnew, ↓i_call, ↓i_mk, ↓i_bcall, ↓i_isi, ↓i_meth, ↓i_sel, ↓i_selL, ↓i_fld, ↓i_idx, ↓i_sl, ↓i_lrng, ↓i_lc, ↓i_nil, ↓i_cons, ↓i_o0, ↓i_o1, ↓i_opt, ↓i_seq, ↓i_rng1, ↓i_rng2, ↓i_enum, ↓i_zip, ↓i_wk, ↓i_tst, ↓ws_done, ↓ws_asg, ↓ws_asgT, ↓ws_ofE, ↓ws_of, ↓ws_asgF, ↓ws_asgI, ↓ws_aug, ↓ws_expr, ↓ws_ret, ↓ws_retN, ↓ws_ite, ↓ws_loop, ↓ws_whil, ↓boolIs_b, ↓intIs_i, ↓slot_0, ↓slot_1, ↓set_0, ↓set_1, ↓R.is_ok, ↓SR.is_rt, ↓SR.is_nx, ↓i_ofB, ↓wt_non, ↓wt_bl, ↓wt_int, ↓wt_str, ↓wt_tup, ↓wt_rol, ↓ib_add, ↓ib_sub, ↓ib_fdiv, ↓ib_mod, ↓ib_pow, ↓ib_band, ↓ib_shr, ↓ic_lt, ↓ic_le, ↓ic_gt, ↓ic_ge, ↓ic_is, ↓ic_isnot, ↓ic_eqI, ↓ic_neI, ↓ic_eqB, ↓ic_in1, ↓il_lenT, ↓tx_0, ↓tx_1, ↓tx_2, ↓ineg_i, ↓ws_try, ↓i_isx, ↓xx_done, ↓xx_rais, decide_true, decide_false, Bool.not_true, Bool.not_false, List.length_cons, List.length_nil, Int.reduceToNat, decide_eq_true_eq, Bool.not_eq_true', decide_eq_false_iff_not, Bool.true_eq_false, Bool.false_eq_true, if_true, if_false, reduceCtorEq, not_false_eq_true, not_true_eq_false, or_false, or_true, and_true, true_and, List.nil_append, List.cons_append]
    rw [iw_lst g3]
    have pl' : P'.length = (allD cs).length := by rw [hP.length_eq, pl]
    refine lc_m P' numDV (fun p => doorV p.2) rfl (ck_lst g3) (by unfold lim; omega) (fun p hp => ⟨_, rfl, fun s' hs => ?_⟩) fun s4 h4 => ?_
    · simp only [bindT, bindT.go, wipeA, List.set_cons_zero, List.set_cons_succ]
      try simp (decide := true) only [↓i_var, ↓i_con, ↓i_kon, ↓i_bin, ↓i_neg, ↓i_not, ↓i_and, ↓i_or, ↓i_and0, ↓i_or0, ↓i_and1, ↓i_or1, ↓i_cmp, ↓i_chain, ↓i_lst, ↓i_tup, ↓i_dnew, ↓i_call, ↓i_mk, ↓i_bcall, ↓i_isi, ↓i_meth, ↓i_sel, ↓i_selL, ↓i_fld, ↓i_idx, ↓i_sl, ↓i_lrng, ↓i_lc, ↓i_nil, ↓i_cons, ↓i_o0, ↓i_o1, ↓i_opt, ↓i_seq, ↓i_rng1, ↓i_rng2, ↓i_enum, ↓i_zip, ↓i_wk, ↓i_tst, ↓ws_done, ↓ws_asg, ↓ws_asgT, ↓ws_ofE, ↓ws_of, ↓ws_asgF, ↓ws_asgI, ↓ws_aug, ↓ws_expr, ↓ws_ret, ↓ws_retN, ↓ws_ite, ↓ws_loop, ↓ws_whil, ↓boolIs_b, ↓intIs_i, ↓slot_0, ↓slot_1, ↓set_0, ↓set_1, ↓R.is_ok, ↓SR.is_rt, ↓SR.is_nx, ↓i_ofB, ↓wt_non, ↓wt_bl, ↓wt_int, ↓wt_str, ↓wt_tup, ↓wt_rol, ↓ib_add, ↓ib_sub, ↓ib_fdiv, ↓ib_mod, ↓ib_pow, ↓ib_band, ↓ib_shr, ↓ic_lt, ↓ic_le, ↓ic_gt, ↓ic_ge, ↓ic_is, ↓ic_isnot, ↓ic_eqI, ↓ic_neI, ↓ic_eqB, ↓ic_in1, ↓il_lenT, ↓tx_0, ↓tx_1, ↓tx_2, ↓ineg_i, ↓ws_try, ↓i_isx, ↓xx_done, ↓xx_rais, decide_true, decide_false, Bool.not_true, Bool.not_false, List.length_cons, List.length_nil, Int.reduceToNat, decide_eq_true_eq, Bool.not_eq_true', decide_eq_false_iff_not, Bool.true_eq_false, Bool.false_eq_true, if_true, if_false, reduceCtorEq, not_false_eq_true, not_true_eq_false, or_false, or_true, and_true, true_and, List.nil_append, List.cons_append, c_law_wires_2]
      exact Ext.refl _
    have dl : P'.map (fun p => doorV p.2) = (P'.map (·.2)).map doorV := by rw [List.map_map]; rfl
    rw [dl]
    have pm : (P'.map (·.2)).Perm (allD cs) := hm ▸ hP.map _
    have pl2 : (P'.map (·.2)).length = (allD cs).length := pm.length_eq
    generalize P'.map (·.2) = D at pm pl2 ⊢
    have g5 := get_push s4 (AO.lst (D.map doorV))
    have x5 := h4.trans (Ext.push s4 (AO.lst (D.map doorV)))
    generalize s4 ++ [AO.lst (D.map doorV)] = s5 at g5 x5 ⊢
    generalize s4.length = p5 at g5 ⊢
    have E5 := hE.trans (x3.trans x5)
    try simp (decide := true) only [↓i_var, ↓i_con, ↓i_kon, ↓i_bin, ↓i_neg, ↓i_not, ↓i_and, ↓i_or, ↓i_and0, ↓i_or0, ↓i_and1, ↓i_or1, ↓i_cmp, ↓i_chain, ↓i_lst, ↓i_tup, ↓i_dnew, ↓i_call, ↓i_mk, ↓i_bcall, ↓i_isi, ↓i_meth, ↓i_sel, ↓i_selL, ↓i_fld, ↓i_idx, ↓i_sl, ↓i_lrng, ↓i_lc, ↓i_nil, ↓i_cons, ↓i_o0, ↓i_o1, ↓i_opt, ↓i_seq, ↓i_rng1, ↓i_rng2, ↓i_enum, ↓i_zip, ↓i_wk, ↓i_tst, ↓ws_done, ↓ws_asg, ↓ws_asgT, ↓ws_ofE, ↓ws_of, ↓ws_asgF, ↓ws_asgI, ↓ws_aug, ↓ws_expr, ↓ws_ret, ↓ws_retN, ↓ws_ite, ↓ws_loop, ↓ws_whil, ↓boolIs_b, ↓intIs_i, ↓slot_0, ↓slot_1, ↓set_0, ↓set_1, ↓R.is_ok, ↓SR.is_rt, ↓SR.is_nx, ↓i_ofB, ↓wt_non, ↓wt_bl, ↓wt_int, ↓wt_str, ↓wt_tup, ↓wt_rol, ↓ib_add, ↓ib_sub, ↓ib_fdiv, ↓ib_mod, ↓ib_pow, ↓ib_band, ↓ib_shr, ↓ic_lt, ↓ic_le, ↓ic_gt, ↓ic_ge, ↓ic_is, ↓ic_isnot, ↓ic_eqI, ↓ic_neI, ↓ic_eqB, ↓ic_in1, ↓il_lenT, ↓tx_0, ↓tx_1, ↓tx_2, ↓ineg_i, ↓ws_try, ↓i_isx, ↓xx_done, ↓xx_rais, decide_true, decide_false, Bool.not_true, Bool.not_false, List.length_cons, List.length_nil, Int.reduceToNat, decide_eq_true_eq, Bool.not_eq_true', decide_eq_false_iff_not, Bool.true_eq_false, Bool.false_eq_true, if_true, if_false, reduceCtorEq, not_false_eq_true, not_true_eq_false, or_false, or_true, and_true, true_and, List.nil_append, List.cons_append, ↓il_len (E5 _ _ g1), List.length_map]
    refine cell_is (by decide) fun c3 => ?_
    try simp (decide := true) only [↓i_var, ↓i_con, ↓i_kon, ↓i_bin, ↓i_neg, ↓i_not, ↓i_and, ↓i_or, ↓i_and0, ↓i_or0, ↓i_and1, ↓i_or1, ↓i_cmp, ↓i_chain, ↓i_lst, ↓i_tup, ↓i_dnew, ↓i_call, ↓i_mk, ↓i_bcall, ↓i_isi, ↓i_meth, ↓i_sel, ↓i_selL, ↓i_fld, ↓i_idx, ↓i_sl, ↓i_lrng, ↓i_lc, ↓i_nil, ↓i_cons, ↓i_o0, ↓i_o1, ↓i_opt, ↓i_seq, ↓i_rng1, ↓i_rng2, ↓i_enum, ↓i_zip, ↓i_wk, ↓i_tst, ↓ws_done, ↓ws_asg, ↓ws_asgT, ↓ws_ofE, ↓ws_of, ↓ws_asgF, ↓ws_asgI, ↓ws_aug, ↓ws_expr, ↓ws_ret, ↓ws_retN, ↓ws_ite, ↓ws_loop, ↓ws_whil, ↓boolIs_b, ↓intIs_i, ↓slot_0, ↓slot_1, ↓set_0, ↓set_1, ↓R.is_ok, ↓SR.is_rt, ↓SR.is_nx, ↓i_ofB, ↓wt_non, ↓wt_bl, ↓wt_int, ↓wt_str, ↓wt_tup, ↓wt_rol, ↓ib_add, ↓ib_sub, ↓ib_fdiv, ↓ib_mod, ↓ib_pow, ↓ib_band, ↓ib_shr, ↓ic_lt, ↓ic_le, ↓ic_gt, ↓ic_ge, ↓ic_is, ↓ic_isnot, ↓ic_eqI, ↓ic_neI, ↓ic_eqB, ↓ic_in1, ↓il_lenT, ↓tx_0, ↓tx_1, ↓tx_2, ↓ineg_i, ↓ws_try, ↓i_isx, ↓xx_done, ↓xx_rais, decide_true, decide_false, Bool.not_true, Bool.not_false, List.length_cons, List.length_nil, Int.reduceToNat, decide_eq_true_eq, Bool.not_eq_true', decide_eq_false_iff_not, Bool.true_eq_false, Bool.false_eq_true, if_true, if_false, reduceCtorEq, not_false_eq_true, not_true_eq_false, or_false, or_true, and_true, true_and, List.nil_append, List.cons_append]
    refine mix_is (by decide) (by decide) ?_
    have mn := mixM_nn c3 11
    generalize hmost : (((allD cs).length : Int) - 1) / 2 = most
    have b1 : 0 ≤ most ∧ 2 * most + 1 ≤ (allD cs).length := by omega
    have hmod : (0 : Int) < most / 3 + 1 := by omega
    try simp (decide := true) only [↓i_var, ↓i_con, ↓i_kon, ↓i_bin, ↓i_neg, ↓i_not, ↓i_and, ↓i_or, ↓i_and0, ↓i_or0, ↓i_and1, ↓i_or1, ↓i_cmp, ↓i_chain, ↓i_lst, ↓i_tup, ↓i_dnew, ↓i_call, ↓i_mk, ↓i_bcall, ↓i_isi, ↓i_meth, ↓i_sel, ↓i_selL, ↓i_fld, ↓i_idx, ↓i_sl, ↓i_lrng, ↓i_lc, ↓i_nil, ↓i_cons, ↓i_o0, ↓i_o1, ↓i_opt, ↓i_seq, ↓i_rng1, ↓i_rng2, ↓i_enum, ↓i_zip, ↓i_wk, ↓i_tst, ↓ws_done, ↓ws_asg, ↓ws_asgT, ↓ws_ofE, ↓ws_of, ↓ws_asgF, ↓ws_asgI, ↓ws_aug, ↓ws_expr, ↓ws_ret, ↓ws_retN, ↓ws_ite, ↓ws_loop, ↓ws_whil, ↓boolIs_b, ↓intIs_i, ↓slot_0, ↓slot_1, ↓set_0, ↓set_1, ↓R.is_ok, ↓SR.is_rt, ↓SR.is_nx, ↓i_ofB, ↓wt_non, ↓wt_bl, ↓wt_int, ↓wt_str, ↓wt_tup, ↓wt_rol, ↓ib_add, ↓ib_sub, ↓ib_fdiv, ↓ib_mod, ↓ib_pow, ↓ib_band, ↓ib_shr, ↓ic_lt, ↓ic_le, ↓ic_gt, ↓ic_ge, ↓ic_is, ↓ic_isnot, ↓ic_eqI, ↓ic_neI, ↓ic_eqB, ↓ic_in1, ↓il_lenT, ↓tx_0, ↓tx_1, ↓tx_2, ↓ineg_i, ↓ws_try, ↓i_isx, ↓xx_done, ↓xx_rais, decide_true, decide_false, Bool.not_true, Bool.not_false, List.length_cons, List.length_nil, Int.reduceToNat, decide_eq_true_eq, Bool.not_eq_true', decide_eq_false_iff_not, Bool.true_eq_false, Bool.false_eq_true, if_true, if_false, reduceCtorEq, not_false_eq_true, not_true_eq_false, or_false, or_true, and_true, true_and, List.nil_append, List.cons_append, ↓ib_mod hmod]
    have m0 := Int.emod_nonneg (mixM c3 11) (show most / 3 + 1 ≠ 0 by omega)
    generalize hmany : most - mixM c3 11 % (most / 3 + 1) = many
    have b2 : many ≤ most ∧ -1000 ≤ many := by
      have := Int.emod_lt_of_pos (mixM c3 11) hmod
      omega
    rw [ir_1 (by omega) (by omega)]
    refine lc_m (List.range many.toNat) (fun k : Nat => AV.int (k : Int)) (fun k : Nat => wireV (D.getD (2 * k) (0, 0), D.getD (2 * k + 1) (0, 0))) (intsFrom_0 _) rfl (by rw [List.length_range]; unfold lim; omega) (fun k hk => ⟨_, rfl, fun s' hs => ?_⟩) fun s6 h6 => ?_
    · have hk := List.mem_range.mp hk
      simp only [bindT, bindT.go, wipeA, List.set_cons_zero, List.set_cons_succ]
      have m2 : ∀ (st : Sto) (Q : AV → Sto → Prop), (binA .mul (.int 2) (.int (k : Nat)) st).Is Q = Q (.int (2 * (k : Nat))) st := fun st Q => ib_mul (mulOk_l (by decide) (by decide))
      try simp (decide := true) only [↓i_var, ↓i_con, ↓i_kon, ↓i_bin, ↓i_neg, ↓i_not, ↓i_and, ↓i_or, ↓i_and0, ↓i_or0, ↓i_and1, ↓i_or1, ↓i_cmp, ↓i_chain, ↓i_lst, ↓i_tup, ↓i_dnew, ↓i_call, ↓i_mk, ↓i_bcall, ↓i_isi, ↓i_meth, ↓i_sel, ↓i_selL, ↓i_fld, ↓i_idx, ↓i_sl, ↓i_lrng, ↓i_lc, ↓i_nil, ↓i_cons, ↓i_o0, ↓i_o1, ↓i_opt, ↓i_seq, ↓i_rng1, ↓i_rng2, ↓i_enum, ↓i_zip, ↓i_wk, ↓i_tst, ↓ws_done, ↓ws_asg, ↓ws_asgT, ↓ws_ofE, ↓ws_of, ↓ws_asgF, ↓ws_asgI, ↓ws_aug, ↓ws_expr, ↓ws_ret, ↓ws_retN, ↓ws_ite, ↓ws_loop, ↓ws_whil, ↓boolIs_b, ↓intIs_i, ↓slot_0, ↓slot_1, ↓set_0, ↓set_1, ↓R.is_ok, ↓SR.is_rt, ↓SR.is_nx, ↓i_ofB, ↓wt_non, ↓wt_bl, ↓wt_int, ↓wt_str, ↓wt_tup, ↓wt_rol, ↓ib_add, ↓ib_sub, ↓ib_fdiv, ↓ib_mod, ↓ib_pow, ↓ib_band, ↓ib_shr, ↓ic_lt, ↓ic_le, ↓ic_gt, ↓ic_ge, ↓ic_is, ↓ic_isnot, ↓ic_eqI, ↓ic_neI, ↓ic_eqB, ↓ic_in1, ↓il_lenT, ↓tx_0, ↓tx_1, ↓tx_2, ↓ineg_i, ↓ws_try, ↓i_isx, ↓xx_done, ↓xx_rais, decide_true, decide_false, Bool.not_true, Bool.not_false, List.length_cons, List.length_nil, Int.reduceToNat, decide_eq_true_eq, Bool.not_eq_true', decide_eq_false_iff_not, Bool.true_eq_false, Bool.false_eq_true, if_true, if_false, reduceCtorEq, not_false_eq_true, not_true_eq_false, or_false, or_true, and_true, true_and, List.nil_append, List.cons_append, c_law_wires_3, ↓m2, ↓ix_doors (hs _ _ g5) (show 0 ≤ 2 * (k : Int) by omega) (show 2 * (k : Int) < D.length by omega), ↓ix_doors (hs _ _ g5) (show 0 ≤ 2 * (k : Int) + 1 by omega) (show 2 * (k : Int) + 1 < D.length by omega)]
      rw [show (2 * (k : Int)).toNat = 2 * k by omega, show (2 * (k : Int) + 1).toNat = 2 * k + 1 by omega]
      exact ⟨rfl, Ext.refl _⟩
    have ep : (List.range many.toNat).map (fun k : Nat => wireV (D.getD (2 * k) (0, 0), D.getD (2 * k + 1) (0, 0))) = (pairsOf D many.toNat).map wireV := by unfold pairsOf; rw [List.map_map]; rfl
    rw [ep]
    have en := ends_pairs D many.toNat (by omega)
    have E6 := h1.trans (E5.trans h6)
    refine q _ _ (pairsOf D many.toNat) (E6.trans (Ext.push _ _)) E6.lt (get_push _ _) ⟨hC.len1, hC.len2, hC.cnt, fun d hd => ?_, ?_, ?_⟩
    · rw [en] at hd
      exact mem_allD.mp (pm.mem_iff.mp (List.mem_of_mem_take hd))
    · rw [en]
      exact (pm.nodup_iff.mpr (doorsUpto_nodup cs cs.length)).sublist (List.take_sublist _ _)
    · unfold pairsOf
      rw [List.length_map, List.length_range]
      omega
end L3

/-! LTyp: things whose kinds can be told. -/
namespace L3
open PySem L2
/-! ### things of any kind -/
/-- a thing whose kind can be told -/
def Ty1 (st : Sto) : AV → Prop
  | .ref n => (∃ xs, st[n]? = some (.lst xs)) ∨ ∃ xs, st[n]? = some (.dK xs)
  | .str x => chOk x = true ∧ x.length ≤ 1000
  | .rol _ => False
  | _ => True
def Ty2 (st : Sto) (v : AV) : Prop := Ty1 st v ∧ ∀ xs, v = .tup xs → ∀ x ∈ xs, Ty1 st x
def Ty3 (st : Sto) (v : AV) : Prop := Ty1 st v ∧ ∀ xs, v = .tup xs → ∀ x ∈ xs, Ty2 st x
theorem Ty1.ext {a b : Sto} {v : AV} (h : Ty1 a v) (x : Ext a b) : Ty1 b v := by
  cases v with
  | ref n =>
    rcases h with ⟨xs, h⟩ | ⟨xs, h⟩
    · exact .inl ⟨xs, x _ _ h⟩
    · exact .inr ⟨xs, x _ _ h⟩
  | str _ => exact h
  | rol _ => exact h
  | _ => trivial
theorem Ty2.ext {a b : Sto} {v : AV} (h : Ty2 a v) (x : Ext a b) : Ty2 b v := ⟨h.1.ext x, fun xs e y hy => (h.2 xs e y hy).ext x⟩
theorem Ty3.ext {a b : Sto} {v : AV} (h : Ty3 a v) (x : Ext a b) : Ty3 b v := ⟨h.1.ext x, fun xs e y hy => (h.2 xs e y hy).ext x⟩
def kndOf (st : Sto) : AV → Ty
  | .bl _ => .bool
  | .int _ => .int
  | .str _ => .str
  | .tup _ => .tuple
  | .ref n => match st[n]? with
    | some (.dK _) => .dict
    | _ => .list
  | .rol _ => .list
  | .non => .cls 0
/-- the kind of a thing, asked -/
theorem isi_any {T : Tab} {st : Sto} {v : AV} {t : Ty} {Q : AV → Sto → Prop} (h : Ty1 st v) (ht : ∀ c, t ≠ .cls c) : (R.ofB (isA T t v st) st).Is Q = Q (.bl (decide (t = kndOf st v) || (decide (t = .int) && decide (kndOf st v = .bool)))) st := by
  cases v with
  | ref n =>
    rcases h with ⟨xs, h⟩ | ⟨xs, h⟩
    · rw [wt_lst h]
      simp only [kndOf, h]
      cases t <;> rfl
    · rw [wt_dK h]
      simp only [kndOf, h]
      cases t <;> rfl
  | rol _ => exact h.elim
  | non =>
    rw [wt_non]
    cases t with
    | cls c => exact absurd rfl (ht c)
    | _ => rfl
  | bl b =>
    rw [wt_bl]
    cases t <;> rfl
  | int b =>
    rw [wt_int]
    cases t <;> rfl
  | str b =>
    rw [wt_str]
    cases t <;> rfl
  | tup b =>
    rw [wt_tup]
    cases t <;> rfl
def wholeM : AV → Option Int
  | .int i => some i
  | _ => none
theorem whole_any {n : Nat} {st : Sto} {v : AV} {Q : AV → Sto → Prop} (h : Ty1 st v) (q : Q (.bl (wholeM v).isSome) st) : (callF tab (n + 1) g_is_whole [v] st).Is Q := by
  refine call_is rfl rfl ?_; simp only [List.map_cons, List.map_nil, List.cons_append, List.nil_append, List.replicate_succ, List.replicate_zero, Nat.reduceSub]
  try simp (decide := true) only [↓i_var, ↓i_con, ↓i_kon, ↓i_bin, ↓i_neg, ↓i_not, ↓i_and, ↓i_or, ↓i_and0, ↓i_or0, ↓i_and1, ↓i_or1, ↓i_cmp, ↓i_chain, ↓i_lst, ↓i_tup, ↓i_dnew, ↓i_call, ↓i_mk, ↓i_bcall, ↓i_isi, ↓i_meth, ↓i_sel, ↓i_selL, ↓i_fld, ↓i_idx, ↓i_sl, ↓i_lrng, ↓i_lc, ↓i_nil, ↓i_cons, ↓i_o0, ↓i_o1, ↓i_opt, ↓i_seq, ↓i_rng1, ↓i_rng2, ↓i_enum, ↓i_zip, ↓i_wk, ↓i_tst, ↓ws_done, ↓ws_asg, ↓ws_asgT, ↓ws_ofE, ↓ws_of, ↓ws_asgF, ↓ws_asgI, ↓ws_aug, ↓ws_expr, ↓ws_ret, ↓ws_retN, ↓ws_ite, ↓ws_loop, ↓ws_whil, ↓boolIs_b, ↓intIs_i, ↓slot_0, ↓slot_1, ↓set_0, ↓set_1, ↓R.is_ok, ↓SR.is_rt, ↓SR.is_nx, ↓i_ofB, ↓wt_non, ↓wt_bl, ↓wt_int, ↓wt_str, ↓wt_tup, ↓wt_rol, ↓ib_add, ↓ib_sub, ↓ib_fdiv, ↓ib_mod, ↓ib_pow, ↓ib_band, ↓ib_shr, ↓ic_lt, ↓ic_le, ↓ic_gt, ↓ic_ge, ↓ic_is, ↓ic_isnot, ↓ic_eqI, ↓ic_neI, ↓ic_eqB, ↓ic_in1, ↓il_lenT, ↓tx_0, ↓tx_1, ↓tx_2, ↓ineg_i, ↓ws_try, ↓i_isx, ↓xx_done, ↓xx_rais, decide_true, decide_false, Bool.not_true, Bool.not_false, List.length_cons, List.length_nil, Int.reduceToNat, decide_eq_true_eq, Bool.not_eq_true', decide_eq_false_iff_not, Bool.true_eq_false, Bool.false_eq_true, if_true, if_false, reduceCtorEq, not_false_eq_true, not_true_eq_false, or_false, or_true, and_true, true_and, List.nil_append, List.cons_append, c_is_whole]
  rw [isi_any h (by intro c z; cases z)]
  cases v with
  | int i => exact q
  | ref m =>
    rcases h with ⟨xs, h⟩ | ⟨xs, h⟩
    · try simp (decide := true) only [↓i_var, ↓i_con, ↓i_kon, ↓i_bin, ↓i_neg, ↓i_not, ↓i_and, ↓i_or, ↓i_and0, ↓i_or0, ↓i_and1, ↓i_or1, ↓i_cmp, ↓i_chain, ↓i_lst, ↓i_tup, ↓i_dnew, ↓i_call, ↓i_mk, ↓i_bcall, ↓i_isi, ↓i_meth, ↓i_sel, ↓i_selL, ↓i_fld, ↓i_idx, ↓i_sl, ↓i_lrng, ↓i_lc, ↓i_nil, ↓i_cons, ↓i_o0, ↓i_o1, ↓i_opt, ↓i_seq, ↓i_rng1, ↓i_rng2, ↓i_enum, ↓i_zip, ↓i_wk, ↓i_tst, ↓ws_done, ↓ws_asg, ↓ws_asgT, ↓ws_ofE, ↓ws_of, ↓ws_asgF, ↓ws_asgI, ↓ws_aug, ↓ws_expr, ↓ws_ret, ↓ws_retN, ↓ws_ite, ↓ws_loop, ↓ws_whil, ↓boolIs_b, ↓intIs_i, ↓slot_0, ↓slot_1, ↓set_0, ↓set_1, ↓R.is_ok, ↓SR.is_rt, ↓SR.is_nx, ↓i_ofB, ↓wt_non, ↓wt_bl, ↓wt_int, ↓wt_str, ↓wt_tup, ↓wt_rol, ↓ib_add, ↓ib_sub, ↓ib_fdiv, ↓ib_mod, ↓ib_pow, ↓ib_band, ↓ib_shr, ↓ic_lt, ↓ic_le, ↓ic_gt, ↓ic_ge, ↓ic_is, ↓ic_isnot, ↓ic_eqI, ↓ic_neI, ↓ic_eqB, ↓ic_in1, ↓il_lenT, ↓tx_0, ↓tx_1, ↓tx_2, ↓ineg_i, ↓ws_try, ↓i_isx, ↓xx_done, ↓xx_rais, decide_true, decide_false, Bool.not_true, Bool.not_false, List.length_cons, List.length_nil, Int.reduceToNat, decide_eq_true_eq, Bool.not_eq_true', decide_eq_false_iff_not, Bool.true_eq_false, Bool.false_eq_true, if_true, if_false, reduceCtorEq, not_false_eq_true, not_true_eq_false, or_false, or_true, and_true, true_and, List.nil_append, List.cons_append, kndOf, h]
      exact q
    · try simp (decide := true) only [↓i_var, ↓i_con, ↓i_kon, ↓i_bin, ↓i_neg, ↓i_not, ↓i_and, ↓i_or, ↓i_and0, ↓i_or0, ↓i_and1, ↓i_or1, ↓i_cmp, ↓i_chain, ↓i_lst, ↓i_tup, ↓i_dnew, ↓i_call, ↓i_mk, ↓i_bcall, ↓i_isi, ↓i_meth, ↓i_sel, ↓i_selL, ↓i_fld, ↓i_idx, ↓i_sl, ↓i_lrng, ↓i_lc, ↓i_nil, ↓i_cons, ↓i_o0, ↓i_o1, ↓i_opt, ↓i_seq, ↓i_rng1, ↓i_rng2, ↓i_enum, ↓i_zip, ↓i_wk, ↓i_tst, ↓ws_done, ↓ws_asg, ↓ws_asgT, ↓ws_ofE, ↓ws_of, ↓ws_asgF, ↓ws_asgI, ↓ws_aug, ↓ws_expr, ↓ws_ret, ↓ws_retN, ↓ws_ite, ↓ws_loop, ↓ws_whil, ↓boolIs_b, ↓intIs_i, ↓slot_0, ↓slot_1, ↓set_0, ↓set_1, ↓R.is_ok, ↓SR.is_rt, ↓SR.is_nx, ↓i_ofB, ↓wt_non, ↓wt_bl, ↓wt_int, ↓wt_str, ↓wt_tup, ↓wt_rol, ↓ib_add, ↓ib_sub, ↓ib_fdiv, ↓ib_mod, ↓ib_pow, ↓ib_band, ↓ib_shr, ↓ic_lt, ↓ic_le, ↓ic_gt, ↓ic_ge, ↓ic_is, ↓ic_isnot, ↓ic_eqI, ↓ic_neI, ↓ic_eqB, ↓ic_in1, ↓il_lenT, ↓tx_0, ↓tx_1, ↓tx_2, ↓ineg_i, ↓ws_try, ↓i_isx, ↓xx_done, ↓xx_rais, decide_true, decide_false, Bool.not_true, Bool.not_false, List.length_cons, List.length_nil, Int.reduceToNat, decide_eq_true_eq, Bool.not_eq_true', decide_eq_false_iff_not, Bool.true_eq_false, Bool.false_eq_true, if_true, if_false, reduceCtorEq, not_false_eq_true, not_true_eq_false, or_false, or_true, and_true, true_and, List.nil_append, List.cons_append, kndOf, h]
      exact q
  | rol _ => exact h.elim
  | bl b =>
    try simp (decide := true) only [↓i_var, ↓i_con, ↓i_kon, ↓i_bin, ↓i_neg, ↓i_not, ↓i_and, ↓i_or, ↓i_and0, ↓i_or0, ↓i_and1, ↓i_or1, ↓i_cmp, ↓i_chain, ↓i_lst, ↓i_tup, ↓i_dnew, ↓i_call, ↓i_mk, ↓i_bcall, ↓i_isi, ↓i_meth, ↓i_sel, ↓i_selL, ↓i_fld, ↓i_idx, ↓i_sl, ↓i_lrng, ↓i_lc, ↓i_nil, ↓i_cons, ↓i_o0, ↓i_o1, ↓i_opt, ↓i_seq, ↓i_rng1, ↓i_rng2, ↓i_enum, ↓i_zip, ↓i_wk, ↓i_tst, ↓ws_done, ↓ws_asg, ↓ws_asgT, ↓ws_ofE, ↓ws_of, ↓ws_asgF, ↓ws_asgI, ↓ws_aug, ↓ws_expr, ↓ws_ret, ↓ws_retN, ↓ws_ite, ↓ws_loop, ↓ws_whil, ↓boolIs_b, ↓intIs_i, ↓slot_0, ↓slot_1, ↓set_0, ↓set_1, ↓R.is_ok, ↓SR.is_rt, ↓SR.is_nx, ↓i_ofB, ↓wt_non, ↓wt_bl, ↓wt_int, ↓wt_str, ↓wt_tup, ↓wt_rol, ↓ib_add, ↓ib_sub, ↓ib_fdiv, ↓ib_mod, ↓ib_pow, ↓ib_band, ↓ib_shr, ↓ic_lt, ↓ic_le, ↓ic_gt, ↓ic_ge, ↓ic_is, ↓ic_isnot, ↓ic_eqI, ↓ic_neI, ↓ic_eqB, ↓ic_in1, ↓il_lenT, ↓tx_0, ↓tx_1, ↓tx_2, ↓ineg_i, ↓ws_try, ↓i_isx, ↓xx_done, ↓xx_rais, decide_true, decide_false, Bool.not_true, Bool.not_false, List.length_cons, List.length_nil, Int.reduceToNat, decide_eq_true_eq, Bool.not_eq_true', decide_eq_false_iff_not, Bool.true_eq_false, Bool.false_eq_true, if_true, if_false, reduceCtorEq, not_false_eq_true, not_true_eq_false, or_false, or_true, and_true, true_and, List.nil_append, List.cons_append, kndOf]
    exact q
  | non =>
    try simp (decide := true) only [↓i_var, ↓i_con, ↓i_kon, ↓i_bin, ↓i_neg, ↓i_not, ↓i_and, ↓i_or, ↓i_and0, ↓i_or0, ↓i_and1, ↓i_or1, ↓i_cmp, ↓i_chain, ↓i_lst, ↓i_tup, ↓i_dnew, ↓i_call, ↓i_mk, ↓i_bcall, ↓i_isi, ↓i_meth, ↓i_sel, ↓i_selL, ↓i_fld, ↓i_idx, ↓i_sl, ↓i_lrng, ↓i_lc, ↓i_nil, ↓i_cons, ↓i_o0, ↓i_o1, ↓i_opt, ↓i_seq, ↓i_rng1, ↓i_rng2, ↓i_enum, ↓i_zip, ↓i_wk, ↓i_tst, ↓ws_done, ↓ws_asg, ↓ws_asgT, ↓ws_ofE, ↓ws_of, ↓ws_asgF, ↓ws_asgI, ↓ws_aug, ↓ws_expr, ↓ws_ret, ↓ws_retN, ↓ws_ite, ↓ws_loop, ↓ws_whil, ↓boolIs_b, ↓intIs_i, ↓slot_0, ↓slot_1, ↓set_0, ↓set_1, ↓R.is_ok, ↓SR.is_rt, ↓SR.is_nx, ↓i_ofB, ↓wt_non, ↓wt_bl, ↓wt_int, ↓wt_str, ↓wt_tup, ↓wt_rol, ↓ib_add, ↓ib_sub, ↓ib_fdiv, ↓ib_mod, ↓ib_pow, ↓ib_band, ↓ib_shr, ↓ic_lt, ↓ic_le, ↓ic_gt, ↓ic_ge, ↓ic_is, ↓ic_isnot, ↓ic_eqI, ↓ic_neI, ↓ic_eqB, ↓ic_in1, ↓il_lenT, ↓tx_0, ↓tx_1, ↓tx_2, ↓ineg_i, ↓ws_try, ↓i_isx, ↓xx_done, ↓xx_rais, decide_true, decide_false, Bool.not_true, Bool.not_false, List.length_cons, List.length_nil, Int.reduceToNat, decide_eq_true_eq, Bool.not_eq_true', decide_eq_false_iff_not, Bool.true_eq_false, Bool.false_eq_true, if_true, if_false, reduceCtorEq, not_false_eq_true, not_true_eq_false, or_false, or_true, and_true, true_and, List.nil_append, List.cons_append, kndOf]
    exact q
  | str b =>
    try simp (decide := true) only [↓i_var, ↓i_con, ↓i_kon, ↓i_bin, ↓i_neg, ↓i_not, ↓i_and, ↓i_or, ↓i_and0, ↓i_or0, ↓i_and1, ↓i_or1, ↓i_cmp, ↓i_chain, ↓i_lst, ↓i_tup, ↓i_dnew, ↓i_call, ↓i_mk, ↓i_bcall, ↓i_isi, ↓i_meth, ↓i_sel, ↓i_selL, ↓i_fld, ↓i_idx, ↓i_sl, ↓i_lrng, ↓i_lc, ↓i_nil, ↓i_cons, ↓i_o0, ↓i_o1, ↓i_opt, ↓i_seq, ↓i_rng1, ↓i_rng2, ↓i_enum, ↓i_zip, ↓i_wk, ↓i_tst, ↓ws_done, ↓ws_asg, ↓ws_asgT, ↓ws_ofE, ↓ws_of, ↓ws_asgF, ↓ws_asgI, ↓ws_aug, ↓ws_expr, ↓ws_ret, ↓ws_retN, ↓ws_ite, ↓ws_loop, ↓ws_whil, ↓boolIs_b, ↓intIs_i, ↓slot_0, ↓slot_1, ↓set_0, ↓set_1, ↓R.is_ok, ↓SR.is_rt, ↓SR.is_nx, ↓i_ofB, ↓wt_non, ↓wt_bl, ↓wt_int, ↓wt_str, ↓wt_tup, ↓wt_rol, ↓ib_add, ↓ib_sub, ↓ib_fdiv, ↓ib_mod, ↓ib_pow, ↓ib_band, ↓ib_shr, ↓ic_lt, ↓ic_le, ↓ic_gt, ↓ic_ge, ↓ic_is, ↓ic_isnot, ↓ic_eqI, ↓ic_neI, ↓ic_eqB, ↓ic_in1, ↓il_lenT, ↓tx_0, ↓tx_1, ↓tx_2, ↓ineg_i, ↓ws_try, ↓i_isx, ↓xx_done, ↓xx_rais, decide_true, decide_false, Bool.not_true, Bool.not_false, List.length_cons, List.length_nil, Int.reduceToNat, decide_eq_true_eq, Bool.not_eq_true', decide_eq_false_iff_not, Bool.true_eq_false, Bool.false_eq_true, if_true, if_false, reduceCtorEq, not_false_eq_true, not_true_eq_false, or_false, or_true, and_true, true_and, List.nil_append, List.cons_append, kndOf]
    exact q
  | tup b =>
    try simp (decide := true) only [↓i_var, ↓i_con, ↓i_kon, ↓i_bin, ↓i_neg, ↓i_not, ↓i_and, ↓i_or, ↓i_and0, ↓i_or0, ↓i_and1, ↓i_or1, ↓i_cmp, ↓i_chain, ↓i_lst, ↓i_tup, ↓i_dnew, ↓i_call, ↓i_mk, ↓i_bcall, ↓i_isi, ↓i_meth, ↓i_sel, ↓i_selL, ↓i_fld, ↓i_idx, ↓i_sl, ↓i_lrng, ↓i_lc, ↓i_nil, ↓i_cons, ↓i_o0, ↓i_o1, ↓i_opt, ↓i_seq, ↓i_rng1, ↓i_rng2, ↓i_enum, ↓i_zip, ↓i_wk, ↓i_tst, ↓ws_done, ↓ws_asg, ↓ws_asgT, ↓ws_ofE, ↓ws_of, ↓ws_asgF, ↓ws_asgI, ↓ws_aug, ↓ws_expr, ↓ws_ret, ↓ws_retN, ↓ws_ite, ↓ws_loop, ↓ws_whil, ↓boolIs_b, ↓intIs_i, ↓slot_0, ↓slot_1, ↓set_0, ↓set_1, ↓R.is_ok, ↓SR.is_rt, ↓SR.is_nx, ↓i_ofB, ↓wt_non, ↓wt_bl, ↓wt_int, ↓wt_str, ↓wt_tup, ↓wt_rol, ↓ib_add, ↓ib_sub, ↓ib_fdiv, ↓ib_mod, ↓ib_pow, ↓ib_band, ↓ib_shr, ↓ic_lt, ↓ic_le, ↓ic_gt, ↓ic_ge, ↓ic_is, ↓ic_isnot, ↓ic_eqI, ↓ic_neI, ↓ic_eqB, ↓ic_in1, ↓il_lenT, ↓tx_0, ↓tx_1, ↓tx_2, ↓ineg_i, ↓ws_try, ↓i_isx, ↓xx_done, ↓xx_rais, decide_true, decide_false, Bool.not_true, Bool.not_false, List.length_cons, List.length_nil, Int.reduceToNat, decide_eq_true_eq, Bool.not_eq_true', decide_eq_false_iff_not, Bool.true_eq_false, Bool.false_eq_true, if_true, if_false, reduceCtorEq, not_false_eq_true, not_true_eq_false, or_false, or_true, and_true, true_and, List.nil_append, List.cons_append, kndOf]
    exact q
end L3

/-! LDor: any thing as a door. -/
namespace L3
open PySem L2
def doorM : AV → Option Door
  | .tup [.int h, .int i] => some (h, i)
  | _ => none
theorem doorM_some {v : AV} {d : Door} (h : doorM v = some d) : v = doorV d := by
  unfold doorM at h
  split at h
  · cases h; rfl
  · cases h
theorem wholeM_some {v : AV} {i : Int} (h : wholeM v = some i) : v = .int i := by
  unfold wholeM at h
  split at h
  · cases h; rfl
  · cases h
/-- not a tuple of two whole numbers -/
theorem doorM_none {x y : AV} (h : doorM (.tup [x, y]) = none) : wholeM x = none ∨ wholeM y = none := by
  cases x with
  | int i =>
    cases y with
    | int j => cases h
    | _ => exact .inr rfl
  | _ => exact .inl rfl
def doorOkM (cs : List Int) (v : AV) : Bool := match doorM v with
  | some d => isDoor cs d
  | none => false
theorem doorOf_any {n : Nat} {st : Sto} {a : Nat} {cs : List Int} {v : AV} {Q : AV → Sto → Prop} (ha : st[a]? = some (.lst (cs.map AV.int))) (h : Ty2 st v) (q : Q (.bl (doorOkM cs v)) st) : (callF tab (n + 2) g_is_door_of [v, .ref a] st).Is Q := by
  cases hd : doorM v with
  | some d =>
    rw [doorM_some hd]
    refine doorOf_is ha ?_
    unfold doorOkM at q
    rw [hd] at q
    exact q
  | none =>
    replace q : Q (.bl false) st := by
      unfold doorOkM at q
      rw [hd] at q
      exact q
    by_cases ht : ∃ xs, v = .tup xs
    · obtain ⟨xs, rfl⟩ := ht
      refine call_is rfl rfl ?_; simp only [List.map_cons, List.map_nil, List.cons_append, List.nil_append, List.replicate_succ, List.replicate_zero, Nat.reduceSub]
      try simp (decide := true) only [↓i_var, ↓i_con, ↓i_kon, ↓i_bin, ↓i_neg, ↓i_not, ↓i_and, ↓i_or, ↓i_and0, ↓i_or0, ↓i_and1, ↓i_or1, ↓i_cmp, ↓i_chain, ↓i_lst, ↓i_tup, ↓i_dnew, ↓i_call, ↓i_mk, ↓i_bcall, ↓i_isi, ↓i_meth, ↓i_sel, ↓i_selL, ↓i_fld, ↓i_idx, ↓i_sl, ↓i_lrng, ↓i_lc, ↓i_nil, ↓i_cons, ↓i_o0, ↓i_o1, ↓i_opt, ↓i_seq, ↓i_rng1, ↓i_rng2, ↓i_enum, ↓i_zip, ↓i_wk, ↓i_tst, ↓ws_done, ↓ws_asg, ↓ws_asgT, ↓ws_ofE, ↓ws_of, ↓ws_asgF, ↓ws_asgI, ↓ws_aug, ↓ws_expr, ↓ws_ret, ↓ws_retN, ↓ws_ite, ↓ws_loop, ↓ws_whil, ↓boolIs_b, ↓intIs_i, ↓slot_0, ↓slot_1, ↓set_0, ↓set_1, ↓R.is_ok, ↓SR.is_rt, ↓SR.is_nx, ↓i_ofB, ↓wt_non, ↓wt_bl, ↓wt_int, ↓wt_str, ↓wt_tup, ↓wt_rol, ↓ib_add, ↓ib_sub, ↓ib_fdiv, ↓ib_mod, ↓ib_pow, ↓ib_band, ↓ib_shr, ↓ic_lt, ↓ic_le, ↓ic_gt, ↓ic_ge, ↓ic_is, ↓ic_isnot, ↓ic_eqI, ↓ic_neI, ↓ic_eqB, ↓ic_in1, ↓il_lenT, ↓tx_0, ↓tx_1, ↓tx_2, ↓ineg_i, ↓ws_try, ↓i_isx, ↓xx_done, ↓xx_rais, decide_true, decide_false, Bool.not_true, Bool.not_false, List.length_cons, List.length_nil, Int.reduceToNat, decide_eq_true_eq, Bool.not_eq_true', decide_eq_false_iff_not, Bool.true_eq_false, Bool.false_eq_true, if_true, if_false, reduceCtorEq, not_false_eq_true, not_true_eq_false, or_false, or_true, and_true, true_and, List.nil_append, List.cons_append, c_is_door_of]
      by_cases hl : xs.length = 2
      · obtain ⟨x, y, rfl⟩ : ∃ x y, xs = [x, y] := by
          match xs, hl with
          | [x, y], _ => exact ⟨x, y, rfl⟩
        have t0 := h.2 _ rfl x (by simp)
        have t1 := h.2 _ rfl y (by simp)
        have i0 : L2.ixN [x, y].length 0 = some 0 := rfl
        have i1 : L2.ixN [x, y].length 1 = some 1 := rfl
        try simp (decide := true) only [↓i_var, ↓i_con, ↓i_kon, ↓i_bin, ↓i_neg, ↓i_not, ↓i_and, ↓i_or, ↓i_and0, ↓i_or0, ↓i_and1, ↓i_or1, ↓i_cmp, ↓i_chain, ↓i_lst, ↓i_tup, ↓i_dnew, ↓i_call, ↓i_mk, ↓i_bcall, ↓i_isi, ↓i_meth, ↓i_sel, ↓i_selL, ↓i_fld, ↓i_idx, ↓i_sl, ↓i_lrng, ↓i_lc, ↓i_nil, ↓i_cons, ↓i_o0, ↓i_o1, ↓i_opt, ↓i_seq, ↓i_rng1, ↓i_rng2, ↓i_enum, ↓i_zip, ↓i_wk, ↓i_tst, ↓ws_done, ↓ws_asg, ↓ws_asgT, ↓ws_ofE, ↓ws_of, ↓ws_asgF, ↓ws_asgI, ↓ws_aug, ↓ws_expr, ↓ws_ret, ↓ws_retN, ↓ws_ite, ↓ws_loop, ↓ws_whil, ↓boolIs_b, ↓intIs_i, ↓slot_0, ↓slot_1, ↓set_0, ↓set_1, ↓R.is_ok, ↓SR.is_rt, ↓SR.is_nx, ↓i_ofB, ↓wt_non, ↓wt_bl, ↓wt_int, ↓wt_str, ↓wt_tup, ↓wt_rol, ↓ib_add, ↓ib_sub, ↓ib_fdiv, ↓ib_mod, ↓ib_pow, ↓ib_band, ↓ib_shr, ↓ic_lt, ↓ic_le, ↓ic_gt, ↓ic_ge, ↓ic_is, ↓ic_isnot, ↓ic_eqI, ↓ic_neI, ↓ic_eqB, ↓ic_in1, ↓il_lenT, ↓tx_0, ↓tx_1, ↓tx_2, ↓ineg_i, ↓ws_try, ↓i_isx, ↓xx_done, ↓xx_rais, decide_true, decide_false, Bool.not_true, Bool.not_false, List.length_cons, List.length_nil, Int.reduceToNat, decide_eq_true_eq, Bool.not_eq_true', decide_eq_false_iff_not, Bool.true_eq_false, Bool.false_eq_true, if_true, if_false, reduceCtorEq, not_false_eq_true, not_true_eq_false, or_false, or_true, and_true, true_and, List.nil_append, List.cons_append, ↓iix_t i0 rfl]
        refine whole_any t0 ?_
        rcases doorM_none hd with e | e
        · rw [e]
          try simp (decide := true) only [↓i_var, ↓i_con, ↓i_kon, ↓i_bin, ↓i_neg, ↓i_not, ↓i_and, ↓i_or, ↓i_and0, ↓i_or0, ↓i_and1, ↓i_or1, ↓i_cmp, ↓i_chain, ↓i_lst, ↓i_tup, ↓i_dnew, ↓i_call, ↓i_mk, ↓i_bcall, ↓i_isi, ↓i_meth, ↓i_sel, ↓i_selL, ↓i_fld, ↓i_idx, ↓i_sl, ↓i_lrng, ↓i_lc, ↓i_nil, ↓i_cons, ↓i_o0, ↓i_o1, ↓i_opt, ↓i_seq, ↓i_rng1, ↓i_rng2, ↓i_enum, ↓i_zip, ↓i_wk, ↓i_tst, ↓ws_done, ↓ws_asg, ↓ws_asgT, ↓ws_ofE, ↓ws_of, ↓ws_asgF, ↓ws_asgI, ↓ws_aug, ↓ws_expr, ↓ws_ret, ↓ws_retN, ↓ws_ite, ↓ws_loop, ↓ws_whil, ↓boolIs_b, ↓intIs_i, ↓slot_0, ↓slot_1, ↓set_0, ↓set_1, ↓R.is_ok, ↓SR.is_rt, ↓SR.is_nx, ↓i_ofB, ↓wt_non, ↓wt_bl, ↓wt_int, ↓wt_str, ↓wt_tup, ↓wt_rol, ↓ib_add, ↓ib_sub, ↓ib_fdiv, ↓ib_mod, ↓ib_pow, ↓ib_band, ↓ib_shr, ↓ic_lt, ↓ic_le, ↓ic_gt, ↓ic_ge, ↓ic_is, ↓ic_isnot, ↓ic_eqI, ↓ic_neI, ↓ic_eqB, ↓ic_in1, ↓il_lenT, ↓tx_0, ↓tx_1, ↓tx_2, ↓ineg_i, ↓ws_try, ↓i_isx, ↓xx_done, ↓xx_rais, decide_true, decide_false, Bool.not_true, Bool.not_false, List.length_cons, List.length_nil, Int.reduceToNat, decide_eq_true_eq, Bool.not_eq_true', decide_eq_false_iff_not, Bool.true_eq_false, Bool.false_eq_true, if_true, if_false, reduceCtorEq, not_false_eq_true, not_true_eq_false, or_false, or_true, and_true, true_and, List.nil_append, List.cons_append, Option.isSome_none]
          exact q
        · cases ex : wholeM x with
          | none =>
            try simp (decide := true) only [↓i_var, ↓i_con, ↓i_kon, ↓i_bin, ↓i_neg, ↓i_not, ↓i_and, ↓i_or, ↓i_and0, ↓i_or0, ↓i_and1, ↓i_or1, ↓i_cmp, ↓i_chain, ↓i_lst, ↓i_tup, ↓i_dnew, ↓i_call, ↓i_mk, ↓i_bcall, ↓i_isi, ↓i_meth, ↓i_sel, ↓i_selL, ↓i_fld, ↓i_idx, ↓i_sl, ↓i_lrng, ↓i_lc, ↓i_nil, ↓i_cons, ↓i_o0, ↓i_o1, ↓i_opt, ↓i_seq, ↓i_rng1, ↓i_rng2, ↓i_enum, ↓i_zip, ↓i_wk, ↓i_tst, ↓ws_done, ↓ws_asg, ↓ws_asgT, ↓ws_ofE, ↓ws_of, ↓ws_asgF, ↓ws_asgI, ↓ws_aug, ↓ws_expr, ↓ws_ret, ↓ws_retN, ↓ws_ite, ↓ws_loop, ↓ws_whil, ↓boolIs_b, ↓intIs_i, ↓slot_0, ↓slot_1, ↓set_0, ↓set_1, ↓R.is_ok, ↓SR.is_rt, ↓SR.is_nx, ↓i_ofB, ↓wt_non, ↓wt_bl, ↓wt_int, ↓wt_str, ↓wt_tup, ↓wt_rol, ↓ib_add, ↓ib_sub, ↓ib_fdiv, ↓ib_mod, ↓ib_pow, ↓ib_band, ↓ib_shr, ↓ic_lt, ↓ic_le, ↓ic_gt, ↓ic_ge, ↓ic_is, ↓ic_isnot, ↓ic_eqI, ↓ic_neI, ↓ic_eqB, ↓ic_in1, ↓il_lenT, ↓tx_0, ↓tx_1, ↓tx_2, ↓ineg_i, ↓ws_try, ↓i_isx, ↓xx_done, ↓xx_rais, decide_true, decide_false, Bool.not_true, Bool.not_false, List.length_cons, List.length_nil, Int.reduceToNat, decide_eq_true_eq, Bool.not_eq_true', decide_eq_false_iff_not, Bool.true_eq_false, Bool.false_eq_true, if_true, if_false, reduceCtorEq, not_false_eq_true, not_true_eq_false, or_false, or_true, and_true, true_and, List.nil_append, List.cons_append, Option.isSome_none]
            exact q
          | some i =>
            try simp (decide := true) only [↓i_var, ↓i_con, ↓i_kon, ↓i_bin, ↓i_neg, ↓i_not, ↓i_and, ↓i_or, ↓i_and0, ↓i_or0, ↓i_and1, ↓i_or1, ↓i_cmp, ↓i_chain, ↓i_lst, ↓i_tup, ↓i_dnew, ↓i_call, ↓i_mk, ↓i_bcall, ↓i_isi, ↓i_meth, ↓i_sel, ↓i_selL, ↓i_fld, ↓i_idx, ↓i_sl, ↓i_lrng, ↓i_lc, ↓i_nil, ↓i_cons, ↓i_o0, ↓i_o1, ↓i_opt, ↓i_seq, ↓i_rng1, ↓i_rng2, ↓i_enum, ↓i_zip, ↓i_wk, ↓i_tst, ↓ws_done, ↓ws_asg, ↓ws_asgT, ↓ws_ofE, ↓ws_of, ↓ws_asgF, ↓ws_asgI, ↓ws_aug, ↓ws_expr, ↓ws_ret, ↓ws_retN, ↓ws_ite, ↓ws_loop, ↓ws_whil, ↓boolIs_b, ↓intIs_i, ↓slot_0, ↓slot_1, ↓set_0, ↓set_1, ↓R.is_ok, ↓SR.is_rt, ↓SR.is_nx, ↓i_ofB, ↓wt_non, ↓wt_bl, ↓wt_int, ↓wt_str, ↓wt_tup, ↓wt_rol, ↓ib_add, ↓ib_sub, ↓ib_fdiv, ↓ib_mod, ↓ib_pow, ↓ib_band, ↓ib_shr, ↓ic_lt, ↓ic_le, ↓ic_gt, ↓ic_ge, ↓ic_is, ↓ic_isnot, ↓ic_eqI, ↓ic_neI, ↓ic_eqB, ↓ic_in1, ↓il_lenT, ↓tx_0, ↓tx_1, ↓tx_2, ↓ineg_i, ↓ws_try, ↓i_isx, ↓xx_done, ↓xx_rais, decide_true, decide_false, Bool.not_true, Bool.not_false, List.length_cons, List.length_nil, Int.reduceToNat, decide_eq_true_eq, Bool.not_eq_true', decide_eq_false_iff_not, Bool.true_eq_false, Bool.false_eq_true, if_true, if_false, reduceCtorEq, not_false_eq_true, not_true_eq_false, or_false, or_true, and_true, true_and, List.nil_append, List.cons_append, Option.isSome_some, ↓iix_t i1 rfl]
            refine whole_any t1 ?_
            rw [e]
            try simp (decide := true) only [↓i_var, ↓i_con, ↓i_kon, ↓i_bin, ↓i_neg, ↓i_not, ↓i_and, ↓i_or, ↓i_and0, ↓i_or0, ↓i_and1, ↓i_or1, ↓i_cmp, ↓i_chain, ↓i_lst, ↓i_tup, ↓i_dnew, ↓i_call, ↓i_mk, ↓i_bcall, ↓i_isi, ↓i_meth, ↓i_sel, ↓i_selL, ↓i_fld, ↓i_idx, ↓i_sl, ↓i_lrng, ↓i_lc, ↓i_nil, ↓i_cons, ↓i_o0, ↓i_o1, ↓i_opt, ↓i_seq, ↓i_rng1, ↓i_rng2, ↓i_enum, ↓i_zip, ↓i_wk, ↓i_tst, ↓ws_done, ↓ws_asg, ↓ws_asgT, ↓ws_ofE, ↓ws_of, ↓ws_asgF, ↓ws_asgI, ↓ws_aug, ↓ws_expr, ↓ws_ret, ↓ws_retN, ↓ws_ite, ↓ws_loop, ↓ws_whil, ↓boolIs_b, ↓intIs_i, ↓slot_0, ↓slot_1, ↓set_0, ↓set_1, ↓R.is_ok, ↓SR.is_rt, ↓SR.is_nx, ↓i_ofB, ↓wt_non, ↓wt_bl, ↓wt_int, ↓wt_str, ↓wt_tup, ↓wt_rol, ↓ib_add, ↓ib_sub, ↓ib_fdiv, ↓ib_mod, ↓ib_pow, ↓ib_band, ↓ib_shr, ↓ic_lt, ↓ic_le, ↓ic_gt, ↓ic_ge, ↓ic_is, ↓ic_isnot, ↓ic_eqI, ↓ic_neI, ↓ic_eqB, ↓ic_in1, ↓il_lenT, ↓tx_0, ↓tx_1, ↓tx_2, ↓ineg_i, ↓ws_try, ↓i_isx, ↓xx_done, ↓xx_rais, decide_true, decide_false, Bool.not_true, Bool.not_false, List.length_cons, List.length_nil, Int.reduceToNat, decide_eq_true_eq, Bool.not_eq_true', decide_eq_false_iff_not, Bool.true_eq_false, Bool.false_eq_true, if_true, if_false, reduceCtorEq, not_false_eq_true, not_true_eq_false, or_false, or_true, and_true, true_and, List.nil_append, List.cons_append, Option.isSome_none]
            exact q
      · have hl2 : ¬ ((xs.length : Int) = 2) := by omega
        try simp (decide := true) only [↓i_var, ↓i_con, ↓i_kon, ↓i_bin, ↓i_neg, ↓i_not, ↓i_and, ↓i_or, ↓i_and0, ↓i_or0, ↓i_and1, ↓i_or1, ↓i_cmp, ↓i_chain, ↓i_lst, ↓i_tup, ↓i_dnew, ↓i_call, ↓i_mk, ↓i_bcall, ↓i_isi, ↓i_meth, ↓i_sel, ↓i_selL, ↓i_fld, ↓i_idx, ↓i_sl, ↓i_lrng, ↓i_lc, ↓i_nil, ↓i_cons, ↓i_o0, ↓i_o1, ↓i_opt, ↓i_seq, ↓i_rng1, ↓i_rng2, ↓i_enum, ↓i_zip, ↓i_wk, ↓i_tst, ↓ws_done, ↓ws_asg, ↓ws_asgT, ↓ws_ofE, ↓ws_of, ↓ws_asgF, ↓ws_asgI, ↓ws_aug, ↓ws_expr, ↓ws_ret, ↓ws_retN, ↓ws_ite, ↓ws_loop, ↓ws_whil, ↓boolIs_b, ↓intIs_i, ↓slot_0, ↓slot_1, ↓set_0, ↓set_1, ↓R.is_ok, ↓SR.is_rt, ↓SR.is_nx, ↓i_ofB, ↓wt_non, ↓wt_bl, ↓wt_int, ↓wt_str, ↓wt_tup, ↓wt_rol, ↓ib_add, ↓ib_sub, ↓ib_fdiv, ↓ib_mod, ↓ib_pow, ↓ib_band, ↓ib_shr, ↓ic_lt, ↓ic_le, ↓ic_gt, ↓ic_ge, ↓ic_is, ↓ic_isnot, ↓ic_eqI, ↓ic_neI, ↓ic_eqB, ↓ic_in1, ↓il_lenT, ↓tx_0, ↓tx_1, ↓tx_2, ↓ineg_i, ↓ws_try, ↓i_isx, ↓xx_done, ↓xx_rais, decide_true, decide_false, Bool.not_true, Bool.not_false, List.length_cons, List.length_nil, Int.reduceToNat, decide_eq_true_eq, Bool.not_eq_true', decide_eq_false_iff_not, Bool.true_eq_false, Bool.false_eq_true, if_true, if_false, reduceCtorEq, not_false_eq_true, not_true_eq_false, or_false, or_true, and_true, true_and, List.nil_append, List.cons_append, hl2]
        exact q
    · refine call_is rfl rfl ?_; simp only [List.map_cons, List.map_nil, List.cons_append, List.nil_append, List.replicate_succ, List.replicate_zero, Nat.reduceSub]
      try simp (decide := true) only [↓i_var, ↓i_con, ↓i_kon, ↓i_bin, ↓i_neg, ↓i_not, ↓i_and, ↓i_or, ↓i_and0, ↓i_or0, ↓i_and1, ↓i_or1, ↓i_cmp, ↓i_chain, ↓i_lst, ↓i_tup, ↓i_dnew, ↓i_call, ↓i_mk, ↓i_bcall, ↓i_isi, ↓i_meth, ↓i_sel, ↓i_selL, ↓i_fld, ↓i_idx, ↓i_sl, ↓i_lrng, ↓i_lc, ↓i_nil, ↓i_cons, ↓i_o0, ↓i_o1, ↓i_opt, ↓i_seq, ↓i_rng1, ↓i_rng2, ↓i_enum, ↓i_zip, ↓i_wk, ↓i_tst, ↓ws_done, ↓ws_asg, ↓ws_asgT, ↓ws_ofE, ↓ws_of, ↓ws_asgF, ↓ws_asgI, ↓ws_aug, ↓ws_expr, ↓ws_ret, ↓ws_retN, ↓ws_ite, ↓ws_loop, ↓ws_whil, ↓boolIs_b, ↓intIs_i, ↓slot_0, ↓slot_1, ↓set_0, ↓set_1, ↓R.is_ok, ↓SR.is_rt, ↓SR.is_nx, ↓i_ofB, ↓wt_non, ↓wt_bl, ↓wt_int, ↓wt_str, ↓wt_tup, ↓wt_rol, ↓ib_add, ↓ib_sub, ↓ib_fdiv, ↓ib_mod, ↓ib_pow, ↓ib_band, ↓ib_shr, ↓ic_lt, ↓ic_le, ↓ic_gt, ↓ic_ge, ↓ic_is, ↓ic_isnot, ↓ic_eqI, ↓ic_neI, ↓ic_eqB, ↓ic_in1, ↓il_lenT, ↓tx_0, ↓tx_1, ↓tx_2, ↓ineg_i, ↓ws_try, ↓i_isx, ↓xx_done, ↓xx_rais, decide_true, decide_false, Bool.not_true, Bool.not_false, List.length_cons, List.length_nil, Int.reduceToNat, decide_eq_true_eq, Bool.not_eq_true', decide_eq_false_iff_not, Bool.true_eq_false, Bool.false_eq_true, if_true, if_false, reduceCtorEq, not_false_eq_true, not_true_eq_false, or_false, or_true, and_true, true_and, List.nil_append, List.cons_append, c_is_door_of]
      rw [isi_any h.1 (by intro c z; cases z)]
      have hk : kndOf st v ≠ .tuple := by
        cases v with
        | tup xs => exact absurd ⟨xs, rfl⟩ ht
        | ref m =>
          rcases h.1 with ⟨xs, h⟩ | ⟨xs, h⟩
          · simp [kndOf, h]
          · simp [kndOf, h]
        | _ => intro z; cases z
      try simp (decide := true) only [↓i_var, ↓i_con, ↓i_kon, ↓i_bin, ↓i_neg, ↓i_not, ↓i_and, ↓i_or, ↓i_and0, ↓i_or0, ↓i_and1, ↓i_or1, ↓i_cmp, ↓i_chain, ↓i_lst, ↓i_tup, ↓i_dnew, ↓i_call, ↓i_mk, ↓i_bcall, ↓i_isi, ↓i_meth, ↓i_sel, ↓i_selL, ↓i_fld, ↓i_idx, ↓i_sl, ↓i_lrng, ↓i_lc, ↓i_nil, ↓i_cons, ↓i_o0, ↓i_o1, ↓i_opt, ↓i_seq, ↓i_rng1, ↓i_rng2, ↓i_enum, ↓i_zip, ↓i_wk, ↓i_tst, ↓ws_done, ↓ws_asg, ↓ws_asgT, ↓ws_ofE, ↓ws_of, ↓ws_asgF, ↓ws_asgI, ↓ws_aug, ↓ws_expr, ↓ws_ret, ↓ws_retN, ↓ws_ite, ↓ws_loop, ↓ws_whil, ↓boolIs_b, ↓intIs_i, ↓slot_0, ↓slot_1, ↓set_0, ↓set_1, ↓R.is_ok, ↓SR.is_rt, ↓SR.is_nx, ↓i_ofB, ↓wt_non, ↓wt_bl, ↓wt_int, ↓wt_str, ↓wt_tup, ↓wt_rol, ↓ib_add, ↓ib_sub, ↓ib_fdiv, ↓ib_mod, ↓ib_pow, ↓ib_band, ↓ib_shr, ↓ic_lt, ↓ic_le, ↓ic_gt, ↓ic_ge, ↓ic_is, ↓ic_isnot, ↓ic_eqI, ↓ic_neI, ↓ic_eqB, ↓ic_in1, ↓il_lenT, ↓tx_0, ↓tx_1, ↓tx_2, ↓ineg_i, ↓ws_try, ↓i_isx, ↓xx_done, ↓xx_rais, decide_true, decide_false, Bool.not_true, Bool.not_false, List.length_cons, List.length_nil, Int.reduceToNat, decide_eq_true_eq, Bool.not_eq_true', decide_eq_false_iff_not, Bool.true_eq_false, Bool.false_eq_true, if_true, if_false, reduceCtorEq, not_false_eq_true, not_true_eq_false, or_false, or_true, and_true, true_and, List.nil_append, List.cons_append, Ne.symm hk, hk]
      exact q
def outM (cs : List Int) (ws : List Wire) (v : AV) : Bool := match doorM v with
  | some d => isOuter cs ws d
  | none => false
theorem is_outer_any {n m a b t : Nat} {st : Sto} {cs : List Int} {ws : List Wire} {v : AV} {Q : AV → Sto → Prop} (h : NetIns st m a b t cs ws) (hv : Ty2 st v) (q : Q (.bl (outM cs ws v)) st) : (callF tab (n + 4) g_Net_is_outer [.ref m, v] st).Is Q := by
  cases hd : doorM v with
  | some d =>
    rw [doorM_some hd]
    refine is_outer_is h ?_
    unfold outM at q
    rw [hd] at q
    exact q
  | none =>
    have q : Q (.bl false) st := by
      unfold outM at q
      rw [hd] at q
      exact q
    have h0 := h
    obtain ⟨h1, h2, h3, h4⟩ := h
    refine call_is rfl rfl ?_; simp only [List.map_cons, List.map_nil, List.cons_append, List.nil_append, List.replicate_succ, List.replicate_zero, Nat.reduceSub]
    try simp (decide := true) only [↓i_var, ↓i_con, ↓i_kon, ↓i_bin, ↓i_neg, ↓i_not, ↓i_and, ↓i_or, ↓i_and0, ↓i_or0, ↓i_and1, ↓i_or1, ↓i_cmp, ↓i_chain, ↓i_lst, ↓i_tup, ↓i_dnew, ↓i_call, ↓i_mk, ↓i_bcall, ↓i_isi, ↓i_meth, ↓i_sel, ↓i_selL, ↓i_fld, ↓i_idx, ↓i_sl, ↓i_lrng, ↓i_lc, ↓i_nil, ↓i_cons, ↓i_o0, ↓i_o1, ↓i_opt, ↓i_seq, ↓i_rng1, ↓i_rng2, ↓i_enum, ↓i_zip, ↓i_wk, ↓i_tst, ↓ws_done, ↓ws_asg, ↓ws_asgT, ↓ws_ofE, ↓ws_of, ↓ws_asgF, ↓ws_asgI, ↓ws_aug, ↓ws_expr, ↓ws_ret, ↓ws_retN, ↓ws_ite, ↓ws_loop, ↓ws_whil, ↓boolIs_b, ↓intIs_i, ↓slot_0, ↓slot_1, ↓set_0, ↓set_1, ↓R.is_ok, ↓SR.is_rt, ↓SR.is_nx, ↓i_ofB, ↓wt_non, ↓wt_bl, ↓wt_int, ↓wt_str, ↓wt_tup, ↓wt_rol, ↓ib_add, ↓ib_sub, ↓ib_fdiv, ↓ib_mod, ↓ib_pow, ↓ib_band, ↓ib_shr, ↓ic_lt, ↓ic_le, ↓ic_gt, ↓ic_ge, ↓ic_is, ↓ic_isnot, ↓ic_eqI, ↓ic_neI, ↓ic_eqB, ↓ic_in1, ↓il_lenT, ↓tx_0, ↓tx_1, ↓tx_2, ↓ineg_i, ↓ws_try, ↓i_isx, ↓xx_done, ↓xx_rais, decide_true, decide_false, Bool.not_true, Bool.not_false, List.length_cons, List.length_nil, Int.reduceToNat, decide_eq_true_eq, Bool.not_eq_true', decide_eq_false_iff_not, Bool.true_eq_false, Bool.false_eq_true, if_true, if_false, reduceCtorEq, not_false_eq_true, not_true_eq_false, or_false, or_true, and_true, true_and, List.nil_append, List.cons_append, c_Net_is_outer, ↓sel_is h1 m20 rfl]
    refine call_is rfl rfl ?_; simp only [List.map_cons, List.map_nil, List.cons_append, List.nil_append, List.replicate_succ, List.replicate_zero, Nat.reduceSub]
    try simp (decide := true) only [↓i_var, ↓i_con, ↓i_kon, ↓i_bin, ↓i_neg, ↓i_not, ↓i_and, ↓i_or, ↓i_and0, ↓i_or0, ↓i_and1, ↓i_or1, ↓i_cmp, ↓i_chain, ↓i_lst, ↓i_tup, ↓i_dnew, ↓i_call, ↓i_mk, ↓i_bcall, ↓i_isi, ↓i_meth, ↓i_sel, ↓i_selL, ↓i_fld, ↓i_idx, ↓i_sl, ↓i_lrng, ↓i_lc, ↓i_nil, ↓i_cons, ↓i_o0, ↓i_o1, ↓i_opt, ↓i_seq, ↓i_rng1, ↓i_rng2, ↓i_enum, ↓i_zip, ↓i_wk, ↓i_tst, ↓ws_done, ↓ws_asg, ↓ws_asgT, ↓ws_ofE, ↓ws_of, ↓ws_asgF, ↓ws_asgI, ↓ws_aug, ↓ws_expr, ↓ws_ret, ↓ws_retN, ↓ws_ite, ↓ws_loop, ↓ws_whil, ↓boolIs_b, ↓intIs_i, ↓slot_0, ↓slot_1, ↓set_0, ↓set_1, ↓R.is_ok, ↓SR.is_rt, ↓SR.is_nx, ↓i_ofB, ↓wt_non, ↓wt_bl, ↓wt_int, ↓wt_str, ↓wt_tup, ↓wt_rol, ↓ib_add, ↓ib_sub, ↓ib_fdiv, ↓ib_mod, ↓ib_pow, ↓ib_band, ↓ib_shr, ↓ic_lt, ↓ic_le, ↓ic_gt, ↓ic_ge, ↓ic_is, ↓ic_isnot, ↓ic_eqI, ↓ic_neI, ↓ic_eqB, ↓ic_in1, ↓il_lenT, ↓tx_0, ↓tx_1, ↓tx_2, ↓ineg_i, ↓ws_try, ↓i_isx, ↓xx_done, ↓xx_rais, decide_true, decide_false, Bool.not_true, Bool.not_false, List.length_cons, List.length_nil, Int.reduceToNat, decide_eq_true_eq, Bool.not_eq_true', decide_eq_false_iff_not, Bool.true_eq_false, Bool.false_eq_true, if_true, if_false, reduceCtorEq, not_false_eq_true, not_true_eq_false, or_false, or_true, and_true, true_and, List.nil_append, List.cons_append, c_Net_is_door, ↓fld_is h1 f26 rfl]
    refine doorOf_any h2 hv ?_
    have e : doorOkM cs v = false := by unfold doorOkM; rw [hd]
    rw [e]
    try simp (decide := true) only [↓i_var, ↓i_con, ↓i_kon, ↓i_bin, ↓i_neg, ↓i_not, ↓i_and, ↓i_or, ↓i_and0, ↓i_or0, ↓i_and1, ↓i_or1, ↓i_cmp, ↓i_chain, ↓i_lst, ↓i_tup, ↓i_dnew, ↓i_call, ↓i_mk, ↓i_bcall, ↓i_isi, ↓i_meth, ↓i_sel, ↓i_selL, ↓i_fld, ↓i_idx, ↓i_sl, ↓i_lrng, ↓i_lc, ↓i_nil, ↓i_cons, ↓i_o0, ↓i_o1, ↓i_opt, ↓i_seq, ↓i_rng1, ↓i_rng2, ↓i_enum, ↓i_zip, ↓i_wk, ↓i_tst, ↓ws_done, ↓ws_asg, ↓ws_asgT, ↓ws_ofE, ↓ws_of, ↓ws_asgF, ↓ws_asgI, ↓ws_aug, ↓ws_expr, ↓ws_ret, ↓ws_retN, ↓ws_ite, ↓ws_loop, ↓ws_whil, ↓boolIs_b, ↓intIs_i, ↓slot_0, ↓slot_1, ↓set_0, ↓set_1, ↓R.is_ok, ↓SR.is_rt, ↓SR.is_nx, ↓i_ofB, ↓wt_non, ↓wt_bl, ↓wt_int, ↓wt_str, ↓wt_tup, ↓wt_rol, ↓ib_add, ↓ib_sub, ↓ib_fdiv, ↓ib_mod, ↓ib_pow, ↓ib_band, ↓ib_shr, ↓ic_lt, ↓ic_le, ↓ic_gt, ↓ic_ge, ↓ic_is, ↓ic_isnot, ↓ic_eqI, ↓ic_neI, ↓ic_eqB, ↓ic_in1, ↓il_lenT, ↓tx_0, ↓tx_1, ↓tx_2, ↓ineg_i, ↓ws_try, ↓i_isx, ↓xx_done, ↓xx_rais, decide_true, decide_false, Bool.not_true, Bool.not_false, List.length_cons, List.length_nil, Int.reduceToNat, decide_eq_true_eq, Bool.not_eq_true', decide_eq_false_iff_not, Bool.true_eq_false, Bool.false_eq_true, if_true, if_false, reduceCtorEq, not_false_eq_true, not_true_eq_false, or_false, or_true, and_true, true_and, List.nil_append, List.cons_append]
    exact q
theorem ty2_door (st : Sto) (d : Door) : Ty2 st (doorV d) := by
  refine ⟨trivial, fun xs e x hx => ?_⟩
  cases e
  simp only [List.mem_cons, List.not_mem_nil, or_false] at hx
  rcases hx with rfl | rfl <;> exact trivial
theorem ty2_flat {st : Sto} {v : AV} (h : Ty1 st v) (k : ∀ xs, v ≠ .tup xs) : Ty2 st v := ⟨h, fun xs e => absurd e (k xs)⟩
end L3

/-! LNms: the names of an error. -/
namespace L3
open PySem L2
def nmZ (c : Nat) : List (List Nat × Bool) := [([78, 111, 78, 101, 116], decide (1 = c)), ([78, 111, 66, 111, 111, 107, 115], decide (2 = c)), ([78, 111, 68, 111, 111, 114], decide (3 = c)),
  ([78, 111, 65, 100, 100, 114, 101, 115, 115], decide (4 = c)), ([78, 111, 83, 97, 121, 105, 110, 103], decide (5 = c)), ([78, 111, 82, 111, 119], decide (6 = c)), ([78, 111, 80, 108, 97, 110], decide (7 = c)),
  ([78, 111, 77, 111, 118, 101], decide (8 = c)), ([78, 111, 84, 101, 120, 116], decide (9 = c)), ([112, 108, 97, 105, 110], false)]
def nmV (p : List Nat × Bool) : AV := .tup [.str p.1, .bl p.2]
def nmOf (c : Nat) : List (List Nat) := ((nmZ c).filter (·.2)).map (·.1)
/-- an error of a class, that is none of the other classes -/
structure SubC (c : Nat) : Prop where
  one : ∀ d ∈ [1, 2, 3, 4, 5, 6, 7, 8, 9], tab.sub c d = some (decide (d = c))
  val : tab.sub c 999 = some true
theorem names_is {n m c : Nat} {st : Sto} {Q : AV → Sto → Prop} (C : SubC c) (h : st[m]? = some (.exc c)) (q : ∀ s r, Ext st s → st.length ≤ r → s[r]? = some (.lst ((nmOf c).map .str)) → Q (.ref r) s) : (callF tab (n + 1) g_law_names_3 [.ref m] st).Is Q := by
  have o1 := C.one 1 (by decide)
  have o2 := C.one 2 (by decide)
  have o3 := C.one 3 (by decide)
  have o4 := C.one 4 (by decide)
  have o5 := C.one 5 (by decide)
  have o6 := C.one 6 (by decide)
  have o7 := C.one 7 (by decide)
  have o8 := C.one 8 (by decide)
  have o9 := C.one 9 (by decide)
  have ov := C.val
  generalize hz : nmOf c = z at q
  unfold nmOf nmZ at hz
  generalize hb1 : decide (1 = c) = b1 at *
  generalize hb2 : decide (2 = c) = b2 at *
  generalize hb3 : decide (3 = c) = b3 at *
  generalize hb4 : decide (4 = c) = b4 at *
  generalize hb5 : decide (5 = c) = b5 at *
  generalize hb6 : decide (6 = c) = b6 at *
  generalize hb7 : decide (7 = c) = b7 at *
  generalize hb8 : decide (8 = c) = b8 at *
  generalize hb9 : decide (9 = c) = b9 at *
  refine call_is rfl rfl ?_; simp only [List.map_cons, List.map_nil, List.cons_append, List.nil_append, List.replicate_succ, List.replicate_zero, Nat.reduceSub]
  have step : ∀ (s : Sto) (xs ys : List AV) (r : Nat) (K : AV → Sto → Prop), Ext st s → s[r]? = some (.lst xs) → xs.length + ys.length ≤ 100 → (∀ s' r', Ext st s' → st.length ≤ r' → s'[r']? = some (.lst (xs ++ ys)) → K (.ref r') s') → (binA .add (.ref r) (.ref s.length) (s ++ [.lst ys])).Is K := fun s xs ys r K hs hr hl k => by
    rw [ib_addL (Ext.push _ _ _ _ hr) (get_push _ _) (by unfold lim; omega)]
    refine k _ _ ((hs.trans (Ext.push _ _)).trans (Ext.push _ _)) ?_ (get_push _ _)
    exact (hs.trans (Ext.push _ _)).lt
  try simp (decide := true) only [↓i_var, ↓i_con, ↓i_kon, ↓i_bin, ↓i_neg, ↓i_not, ↓i_and, ↓i_or, ↓i_and0, ↓i_or0, ↓i_and1, ↓i_or1, ↓i_cmp, ↓i_chain, ↓i_lst, ↓i_tup, ↓i_dnew, ↓i_call, ↓i_mk, ↓i_bcall, ↓i_isi, ↓i_meth, ↓i_sel, ↓i_selL, ↓i_fld, ↓i_idx, ↓i_sl, ↓i_lrng, ↓i_lc, ↓i_nil, ↓i_cons, ↓i_o0, ↓i_o1, ↓i_opt, ↓i_seq, ↓i_rng1, ↓i_rng2, ↓i_enum, ↓i_zip, ↓i_wk, ↓i_tst, ↓ws_done, ↓ws_asg, ↓ws_asgT, ↓ws_ofE, ↓ws_of, ↓ws_asgF, ↓ws_asgI, ↓ws_aug, ↓ws_expr, ↓ws_ret, ↓ws_retN, ↓ws_ite, ↓ws_loop, ↓ws_whil, ↓boolIs_b, ↓intIs_i, ↓slot_0, ↓slot_1, ↓set_0, ↓set_1, ↓R.is_ok, ↓SR.is_rt, ↓SR.is_nx, ↓i_ofB, ↓wt_non, ↓wt_bl, ↓wt_int, ↓wt_str, ↓wt_tup, ↓wt_rol, ↓ib_add, ↓ib_sub, ↓ib_fdiv, ↓ib_mod, ↓ib_pow, ↓ib_band, ↓ib_shr, ↓ic_lt, ↓ic_le, ↓ic_gt, ↓ic_ge, ↓ic_is, ↓ic_isnot, ↓ic_eqI, ↓ic_neI, ↓ic_eqB, ↓ic_in1, ↓il_lenT, ↓tx_0, ↓tx_1, ↓tx_2, ↓ineg_i, ↓ws_try, ↓i_isx, ↓xx_done, ↓xx_rais, decide_true, decide_false, Bool.not_true, Bool.not_false, List.length_cons, List.length_nil, Int.reduceToNat, decide_eq_true_eq, Bool.not_eq_true', decide_eq_false_iff_not, Bool.true_eq_false, Bool.false_eq_true, if_true, if_false, reduceCtorEq, not_false_eq_true, not_true_eq_false, or_false, or_true, and_true, true_and, List.nil_append, List.cons_append, c_law_names_3, ↓ix_is h o1, ↓ix_is h o2, ↓ix_is h o3]
  have g1 := get_push st (AO.lst [nmV ([78, 111, 78, 101, 116], b1), nmV ([78, 111, 66, 111, 111, 107, 115], b2), nmV ([78, 111, 68, 111, 111, 114], b3)])
  have x1 := Ext.push st (AO.lst [nmV ([78, 111, 78, 101, 116], b1), nmV ([78, 111, 66, 111, 111, 107, 115], b2), nmV ([78, 111, 68, 111, 111, 114], b3)])
  simp only [nmV] at g1 x1
  generalize st ++ [AO.lst [.tup [.str [78, 111, 78, 101, 116], .bl b1], .tup [.str [78, 111, 66, 111, 111, 107, 115], .bl b2], .tup [.str [78, 111, 68, 111, 111, 114], .bl b3]]] = s1 at g1 x1 ⊢
  try simp (decide := true) only [↓i_var, ↓i_con, ↓i_kon, ↓i_bin, ↓i_neg, ↓i_not, ↓i_and, ↓i_or, ↓i_and0, ↓i_or0, ↓i_and1, ↓i_or1, ↓i_cmp, ↓i_chain, ↓i_lst, ↓i_tup, ↓i_dnew, ↓i_call, ↓i_mk, ↓i_bcall, ↓i_isi, ↓i_meth, ↓i_sel, ↓i_selL, ↓i_fld, ↓i_idx, ↓i_sl, ↓i_lrng, ↓i_lc, ↓i_nil, ↓i_cons, ↓i_o0, ↓i_o1, ↓i_opt, ↓i_seq, ↓i_rng1, ↓i_rng2, ↓i_enum, ↓i_zip, ↓i_wk, ↓i_tst, ↓ws_done, ↓ws_asg, ↓ws_asgT, ↓ws_ofE, ↓ws_of, ↓ws_asgF, ↓ws_asgI, ↓ws_aug, ↓ws_expr, ↓ws_ret, ↓ws_retN, ↓ws_ite, ↓ws_loop, ↓ws_whil, ↓boolIs_b, ↓intIs_i, ↓slot_0, ↓slot_1, ↓set_0, ↓set_1, ↓R.is_ok, ↓SR.is_rt, ↓SR.is_nx, ↓i_ofB, ↓wt_non, ↓wt_bl, ↓wt_int, ↓wt_str, ↓wt_tup, ↓wt_rol, ↓ib_add, ↓ib_sub, ↓ib_fdiv, ↓ib_mod, ↓ib_pow, ↓ib_band, ↓ib_shr, ↓ic_lt, ↓ic_le, ↓ic_gt, ↓ic_ge, ↓ic_is, ↓ic_isnot, ↓ic_eqI, ↓ic_neI, ↓ic_eqB, ↓ic_in1, ↓il_lenT, ↓tx_0, ↓tx_1, ↓tx_2, ↓ineg_i, ↓ws_try, ↓i_isx, ↓xx_done, ↓xx_rais, decide_true, decide_false, Bool.not_true, Bool.not_false, List.length_cons, List.length_nil, Int.reduceToNat, decide_eq_true_eq, Bool.not_eq_true', decide_eq_false_iff_not, Bool.true_eq_false, Bool.false_eq_true, if_true, if_false, reduceCtorEq, not_false_eq_true, not_true_eq_false, or_false, or_true, and_true, true_and, List.nil_append, List.cons_append, ↓ix_is (x1 _ _ h) o4, ↓ix_is (x1 _ _ h) o5]
  refine step _ _ _ _ _ x1 g1 (by simp) fun s2 r2 x2 _ g2 => ?_
  clear g1 x1
  try simp (decide := true) only [↓i_var, ↓i_con, ↓i_kon, ↓i_bin, ↓i_neg, ↓i_not, ↓i_and, ↓i_or, ↓i_and0, ↓i_or0, ↓i_and1, ↓i_or1, ↓i_cmp, ↓i_chain, ↓i_lst, ↓i_tup, ↓i_dnew, ↓i_call, ↓i_mk, ↓i_bcall, ↓i_isi, ↓i_meth, ↓i_sel, ↓i_selL, ↓i_fld, ↓i_idx, ↓i_sl, ↓i_lrng, ↓i_lc, ↓i_nil, ↓i_cons, ↓i_o0, ↓i_o1, ↓i_opt, ↓i_seq, ↓i_rng1, ↓i_rng2, ↓i_enum, ↓i_zip, ↓i_wk, ↓i_tst, ↓ws_done, ↓ws_asg, ↓ws_asgT, ↓ws_ofE, ↓ws_of, ↓ws_asgF, ↓ws_asgI, ↓ws_aug, ↓ws_expr, ↓ws_ret, ↓ws_retN, ↓ws_ite, ↓ws_loop, ↓ws_whil, ↓boolIs_b, ↓intIs_i, ↓slot_0, ↓slot_1, ↓set_0, ↓set_1, ↓R.is_ok, ↓SR.is_rt, ↓SR.is_nx, ↓i_ofB, ↓wt_non, ↓wt_bl, ↓wt_int, ↓wt_str, ↓wt_tup, ↓wt_rol, ↓ib_add, ↓ib_sub, ↓ib_fdiv, ↓ib_mod, ↓ib_pow, ↓ib_band, ↓ib_shr, ↓ic_lt, ↓ic_le, ↓ic_gt, ↓ic_ge, ↓ic_is, ↓ic_isnot, ↓ic_eqI, ↓ic_neI, ↓ic_eqB, ↓ic_in1, ↓il_lenT, ↓tx_0, ↓tx_1, ↓tx_2, ↓ineg_i, ↓ws_try, ↓i_isx, ↓xx_done, ↓xx_rais, decide_true, decide_false, Bool.not_true, Bool.not_false, List.length_cons, List.length_nil, Int.reduceToNat, decide_eq_true_eq, Bool.not_eq_true', decide_eq_false_iff_not, Bool.true_eq_false, Bool.false_eq_true, if_true, if_false, reduceCtorEq, not_false_eq_true, not_true_eq_false, or_false, or_true, and_true, true_and, List.nil_append, List.cons_append, ↓ix_is (x2 _ _ h) o6, ↓ix_is (x2 _ _ h) o7]
  refine step _ _ _ _ _ x2 g2 (by simp) fun s3 r3 x3 _ g3 => ?_
  clear g2 x2
  try simp (decide := true) only [↓i_var, ↓i_con, ↓i_kon, ↓i_bin, ↓i_neg, ↓i_not, ↓i_and, ↓i_or, ↓i_and0, ↓i_or0, ↓i_and1, ↓i_or1, ↓i_cmp, ↓i_chain, ↓i_lst, ↓i_tup, ↓i_dnew, ↓i_call, ↓i_mk, ↓i_bcall, ↓i_isi, ↓i_meth, ↓i_sel, ↓i_selL, ↓i_fld, ↓i_idx, ↓i_sl, ↓i_lrng, ↓i_lc, ↓i_nil, ↓i_cons, ↓i_o0, ↓i_o1, ↓i_opt, ↓i_seq, ↓i_rng1, ↓i_rng2, ↓i_enum, ↓i_zip, ↓i_wk, ↓i_tst, ↓ws_done, ↓ws_asg, ↓ws_asgT, ↓ws_ofE, ↓ws_of, ↓ws_asgF, ↓ws_asgI, ↓ws_aug, ↓ws_expr, ↓ws_ret, ↓ws_retN, ↓ws_ite, ↓ws_loop, ↓ws_whil, ↓boolIs_b, ↓intIs_i, ↓slot_0, ↓slot_1, ↓set_0, ↓set_1, ↓R.is_ok, ↓SR.is_rt, ↓SR.is_nx, ↓i_ofB, ↓wt_non, ↓wt_bl, ↓wt_int, ↓wt_str, ↓wt_tup, ↓wt_rol, ↓ib_add, ↓ib_sub, ↓ib_fdiv, ↓ib_mod, ↓ib_pow, ↓ib_band, ↓ib_shr, ↓ic_lt, ↓ic_le, ↓ic_gt, ↓ic_ge, ↓ic_is, ↓ic_isnot, ↓ic_eqI, ↓ic_neI, ↓ic_eqB, ↓ic_in1, ↓il_lenT, ↓tx_0, ↓tx_1, ↓tx_2, ↓ineg_i, ↓ws_try, ↓i_isx, ↓xx_done, ↓xx_rais, decide_true, decide_false, Bool.not_true, Bool.not_false, List.length_cons, List.length_nil, Int.reduceToNat, decide_eq_true_eq, Bool.not_eq_true', decide_eq_false_iff_not, Bool.true_eq_false, Bool.false_eq_true, if_true, if_false, reduceCtorEq, not_false_eq_true, not_true_eq_false, or_false, or_true, and_true, true_and, List.nil_append, List.cons_append, ↓ix_is (x3 _ _ h) o8, ↓ix_is (x3 _ _ h) o9]
  refine step _ _ _ _ _ x3 g3 (by simp) fun s4 r4 x4 _ g4 => ?_
  clear g3 x3
  try simp (decide := true) only [↓i_var, ↓i_con, ↓i_kon, ↓i_bin, ↓i_neg, ↓i_not, ↓i_and, ↓i_or, ↓i_and0, ↓i_or0, ↓i_and1, ↓i_or1, ↓i_cmp, ↓i_chain, ↓i_lst, ↓i_tup, ↓i_dnew, ↓i_call, ↓i_mk, ↓i_bcall, ↓i_isi, ↓i_meth, ↓i_sel, ↓i_selL, ↓i_fld, ↓i_idx, ↓i_sl, ↓i_lrng, ↓i_lc, ↓i_nil, ↓i_cons, ↓i_o0, ↓i_o1, ↓i_opt, ↓i_seq, ↓i_rng1, ↓i_rng2, ↓i_enum, ↓i_zip, ↓i_wk, ↓i_tst, ↓ws_done, ↓ws_asg, ↓ws_asgT, ↓ws_ofE, ↓ws_of, ↓ws_asgF, ↓ws_asgI, ↓ws_aug, ↓ws_expr, ↓ws_ret, ↓ws_retN, ↓ws_ite, ↓ws_loop, ↓ws_whil, ↓boolIs_b, ↓intIs_i, ↓slot_0, ↓slot_1, ↓set_0, ↓set_1, ↓R.is_ok, ↓SR.is_rt, ↓SR.is_nx, ↓i_ofB, ↓wt_non, ↓wt_bl, ↓wt_int, ↓wt_str, ↓wt_tup, ↓wt_rol, ↓ib_add, ↓ib_sub, ↓ib_fdiv, ↓ib_mod, ↓ib_pow, ↓ib_band, ↓ib_shr, ↓ic_lt, ↓ic_le, ↓ic_gt, ↓ic_ge, ↓ic_is, ↓ic_isnot, ↓ic_eqI, ↓ic_neI, ↓ic_eqB, ↓ic_in1, ↓il_lenT, ↓tx_0, ↓tx_1, ↓tx_2, ↓ineg_i, ↓ws_try, ↓i_isx, ↓xx_done, ↓xx_rais, decide_true, decide_false, Bool.not_true, Bool.not_false, List.length_cons, List.length_nil, Int.reduceToNat, decide_eq_true_eq, Bool.not_eq_true', decide_eq_false_iff_not, Bool.true_eq_false, Bool.false_eq_true, if_true, if_false, reduceCtorEq, not_false_eq_true, not_true_eq_false, or_false, or_true, and_true, true_and, List.nil_append, List.cons_append, ↓ix_is (x4 _ _ h) ov]
  refine step _ _ _ _ _ x4 g4 (by simp) fun s5 r5 x5 _ g5 => ?_
  clear g4 x4
  try simp (decide := true) only [↓i_var, ↓i_con, ↓i_kon, ↓i_bin, ↓i_neg, ↓i_not, ↓i_and, ↓i_or, ↓i_and0, ↓i_or0, ↓i_and1, ↓i_or1, ↓i_cmp, ↓i_chain, ↓i_lst, ↓i_tup, ↓i_dnew, ↓i_call, ↓i_mk, ↓i_bcall, ↓i_isi, ↓i_meth, ↓i_sel, ↓i_selL, ↓i_fld, ↓i_idx, ↓i_sl, ↓i_lrng, ↓i_lc, ↓i_nil, ↓i_cons, ↓i_o0, ↓i_o1, ↓i_opt, ↓i_seq, ↓i_rng1, ↓i_rng2, ↓i_enum, ↓i_zip, ↓i_wk, ↓i_tst, ↓ws_done, ↓ws_asg, ↓ws_asgT, ↓ws_ofE, ↓ws_of, ↓ws_asgF, ↓ws_asgI, ↓ws_aug, ↓ws_expr, ↓ws_ret, ↓ws_retN, ↓ws_ite, ↓ws_loop, ↓ws_whil, ↓boolIs_b, ↓intIs_i, ↓slot_0, ↓slot_1, ↓set_0, ↓set_1, ↓R.is_ok, ↓SR.is_rt, ↓SR.is_nx, ↓i_ofB, ↓wt_non, ↓wt_bl, ↓wt_int, ↓wt_str, ↓wt_tup, ↓wt_rol, ↓ib_add, ↓ib_sub, ↓ib_fdiv, ↓ib_mod, ↓ib_pow, ↓ib_band, ↓ib_shr, ↓ic_lt, ↓ic_le, ↓ic_gt, ↓ic_ge, ↓ic_is, ↓ic_isnot, ↓ic_eqI, ↓ic_neI, ↓ic_eqB, ↓ic_in1, ↓il_lenT, ↓tx_0, ↓tx_1, ↓tx_2, ↓ineg_i, ↓ws_try, ↓i_isx, ↓xx_done, ↓xx_rais, decide_true, decide_false, Bool.not_true, Bool.not_false, List.length_cons, List.length_nil, Int.reduceToNat, decide_eq_true_eq, Bool.not_eq_true', decide_eq_false_iff_not, Bool.true_eq_false, Bool.false_eq_true, if_true, if_false, reduceCtorEq, not_false_eq_true, not_true_eq_false, or_false, or_true, and_true, true_and, List.nil_append, List.cons_append]
  rw [iw_lst g5]
  generalize hzz : ([([78, 111, 78, 101, 116], b1), ([78, 111, 66, 111, 111, 107, 115], b2), ([78, 111, 68, 111, 111, 114], b3), ([78, 111, 65, 100, 100, 114, 101, 115, 115], b4), ([78, 111, 83, 97, 121, 105, 110, 103], b5), ([78, 111, 82, 111, 119], b6), ([78, 111, 80, 108, 97, 110], b7), ([78, 111, 77, 111, 118, 101], b8), ([78, 111, 84, 101, 120, 116], b9), ([112, 108, 97, 105, 110], false)] : List (List Nat × Bool)) = zz at hz
  have eq : ∀ l : List AV, l = zz.map nmV → s5[r5]? = some (.lst l) → s5[r5]? = some (.lst (zz.map nmV)) := fun l e w => e ▸ w
  have g5 := eq _ (by rw [← hzz]; rfl) g5
  have hl : zz.length ≤ lim := by rw [← hzz]; exact (by decide : 10 ≤ lim)
  refine lc_fm zz nmV (·.2) (fun p => AV.str p.1) (by rw [← hzz]; rfl) (ck_lst (by rw [g5, ← hzz]; rfl)) hl (fun p hp => ⟨_, rfl, fun s hs => ?_⟩) fun s6 h6 => ?_
  · simp only [bindT, bindT.go, wipeA, List.set_cons_zero, List.set_cons_succ]
    try simp (decide := true) only [↓i_var, ↓i_con, ↓i_kon, ↓i_bin, ↓i_neg, ↓i_not, ↓i_and, ↓i_or, ↓i_and0, ↓i_or0, ↓i_and1, ↓i_or1, ↓i_cmp, ↓i_chain, ↓i_lst, ↓i_tup, ↓i_dnew, ↓i_call, ↓i_mk, ↓i_bcall, ↓i_isi, ↓i_meth, ↓i_sel, ↓i_selL, ↓i_fld, ↓i_idx, ↓i_sl, ↓i_lrng, ↓i_lc, ↓i_nil, ↓i_cons, ↓i_o0, ↓i_o1, ↓i_opt, ↓i_seq, ↓i_rng1, ↓i_rng2, ↓i_enum, ↓i_zip, ↓i_wk, ↓i_tst, ↓ws_done, ↓ws_asg, ↓ws_asgT, ↓ws_ofE, ↓ws_of, ↓ws_asgF, ↓ws_asgI, ↓ws_aug, ↓ws_expr, ↓ws_ret, ↓ws_retN, ↓ws_ite, ↓ws_loop, ↓ws_whil, ↓boolIs_b, ↓intIs_i, ↓slot_0, ↓slot_1, ↓set_0, ↓set_1, ↓R.is_ok, ↓SR.is_rt, ↓SR.is_nx, ↓i_ofB, ↓wt_non, ↓wt_bl, ↓wt_int, ↓wt_str, ↓wt_tup, ↓wt_rol, ↓ib_add, ↓ib_sub, ↓ib_fdiv, ↓ib_mod, ↓ib_pow, ↓ib_band, ↓ib_shr, ↓ic_lt, ↓ic_le, ↓ic_gt, ↓ic_ge, ↓ic_is, ↓ic_isnot, ↓ic_eqI, ↓ic_neI, ↓ic_eqB, ↓ic_in1, ↓il_lenT, ↓tx_0, ↓tx_1, ↓tx_2, ↓ineg_i, ↓ws_try, ↓i_isx, ↓xx_done, ↓xx_rais, decide_true, decide_false, Bool.not_true, Bool.not_false, List.length_cons, List.length_nil, Int.reduceToNat, decide_eq_true_eq, Bool.not_eq_true', decide_eq_false_iff_not, Bool.true_eq_false, Bool.false_eq_true, if_true, if_false, reduceCtorEq, not_false_eq_true, not_true_eq_false, or_false, or_true, and_true, true_and, List.nil_append, List.cons_append, c_law_names_3_1, c_law_names_3_2]
    obtain ⟨w, b⟩ := p
    cases b
    · exact ⟨rfl, Ext.refl _, fun z => by cases z⟩
    · exact ⟨rfl, Ext.refl _, fun _ => Ext.refl _⟩
  · have e : (zz.filter (·.2)).map (fun p => AV.str p.1) = z.map .str := by rw [← hz, List.map_map]; rfl
    rw [e]
    exact q _ _ (x5.trans (h6.trans (Ext.push _ _))) (x5.trans h6).lt (get_push _ _)
end L3

/-! LOut: the outer doors that a net tells. -/
namespace L3
open PySem L2
theorem m25 : tab.mt 10 25 = some g_Net_outer := rfl
set_option maxHeartbeats 1000000 in
theorem outer_is {n m a b t : Nat} {st : Sto} {cs : List Int} {ws : List Wire} {Q : AV → Sto → Prop} (hN : NetIns st m a b t cs ws) (hl : cs.length ≤ 6) (hc : ∀ c ∈ cs, 1 ≤ c ∧ c ≤ 4) (q : ∀ s r, Ext st s → st.length ≤ r → s[r]? = some (.lst ((outerL cs ws).map doorV)) → Q (.ref r) s) : (callF tab (n + 1) g_Net_outer [.ref m] st).Is Q := by
  refine call_is rfl rfl ?_; simp only [List.map_cons, List.map_nil, List.cons_append, List.nil_append, List.replicate_succ, List.replicate_zero, Nat.reduceSub]
  have x0 := Ext.push st (AO.lst [])
  have g0 := get_push st (AO.lst [])
  try simp (decide := true) only [↓i_var, ↓i_con, ↓i_kon, ↓i_bin, ↓i_neg, ↓i_not, ↓i_and, ↓i_or, ↓i_and0, ↓i_or0, ↓i_and1, ↓i_or1, ↓i_cmp, ↓i_chain, ↓i_lst, ↓i_tup, ↓i_dnew, ↓i_call, ↓i_mk, ↓i_bcall, ↓i_isi, ↓i_meth, ↓i_sel, ↓i_selL, ↓i_fld, ↓i_idx, ↓i_sl, ↓i_lrng, ↓i_lc, ↓i_nil, ↓i_cons, ↓i_o0, ↓i_o1, ↓i_opt, ↓i_seq, ↓i_rng1, ↓i_rng2, ↓i_enum, ↓i_zip, ↓i_wk, ↓i_tst, ↓ws_done, ↓ws_asg, ↓ws_asgT, ↓ws_ofE, ↓ws_of, ↓ws_asgF, ↓ws_asgI, ↓ws_aug, ↓ws_expr, ↓ws_ret, ↓ws_retN, ↓ws_ite, ↓ws_loop, ↓ws_whil, ↓boolIs_b, ↓intIs_i, ↓slot_0, ↓slot_1, ↓set_0, ↓set_1, ↓R.is_ok, ↓SR.is_rt, ↓SR.is_nx, ↓i_ofB, ↓wt_non, ↓wt_bl, ↓wt_int, ↓wt_str, ↓wt_tup, ↓wt_rol, ↓ib_add, ↓ib_sub, ↓ib_fdiv, ↓ib_mod, ↓ib_pow, ↓ib_band, ↓ib_shr, ↓ic_lt, ↓ic_le, ↓ic_gt, ↓ic_ge, ↓ic_is, ↓ic_isnot, ↓ic_eqI, ↓ic_neI, ↓ic_eqB, ↓ic_in1, ↓il_lenT, ↓tx_0, ↓tx_1, ↓tx_2, ↓ineg_i, ↓ws_try, ↓i_isx, ↓xx_done, ↓xx_rais, decide_true, decide_false, Bool.not_true, Bool.not_false, List.length_cons, List.length_nil, Int.reduceToNat, decide_eq_true_eq, Bool.not_eq_true', decide_eq_false_iff_not, Bool.true_eq_false, Bool.false_eq_true, if_true, if_false, reduceCtorEq, not_false_eq_true, not_true_eq_false, or_false, or_true, and_true, true_and, List.nil_append, List.cons_append, c_Net_outer, ↓fld_is (x0 _ _ hN.1) f22 rfl]
  rw [ir_1 (by omega) (by omega), Int.toNat_natCast, intsFrom_0]
  have hr0 : st.length ≤ st.length := Nat.le_refl _
  generalize hr1 : st.length = r at g0 hr0 ⊢
  generalize st ++ [AO.lst []] = s0 at x0 g0 ⊢
  refine for_is (fun k e s => ∃ (z2 : Option AV), e = [some (.ref m), some (.ref r), z2, none, none] ∧ Ext st s ∧ s[r]? = some (.lst ((doorsUpto cs k).map doorV)) ∧ k ≤ cs.length) _ 0 _ _ ⟨_, rfl, x0, g0, Nat.zero_le _⟩ (fun i y e s hy hI => ?_) fun e s hI => ?_
  · obtain ⟨z2, rfl, hE, hr, hk⟩ := hI
    rw [Nat.zero_add] at hr hk
    rw [List.getElem?_map] at hy
    obtain ⟨y1, hy1, rfl⟩ := Option.map_eq_some_iff.mp hy
    obtain ⟨hi, e1⟩ := List.getElem?_eq_some_iff.mp hy1
    rw [List.getElem_range] at e1
    subst e1
    rw [List.length_range] at hi
    refine ⟨rfl, _, rfl, ?_⟩
    simp only [bindT, bindT.go, wipeA, List.set_cons_zero, List.set_cons_succ]
    have hD := doorsUpto_len hc i hk
    have e1 : cs.getD (i : Int).toNat 0 = cs.getD i 0 := by rw [Int.toNat_natCast]
    have b1 : 1 ≤ cs.getD i 0 ∧ cs.getD i 0 ≤ 4 := by
      rw [List.getD_eq_getElem?_getD, List.getElem?_eq_getElem hi]
      exact hc _ (List.getElem_mem hi)
    try simp (decide := true) only [↓i_var, ↓i_con, ↓i_kon, ↓i_bin, ↓i_neg, ↓i_not, ↓i_and, ↓i_or, ↓i_and0, ↓i_or0, ↓i_and1, ↓i_or1, ↓i_cmp, ↓i_chain, ↓i_lst, ↓i_tup, ↓i_dnew, ↓i_call, ↓i_mk, ↓i_bcall, ↓i_isi, ↓i_meth, ↓i_sel, ↓i_selL, ↓i_fld, ↓i_idx, ↓i_sl, ↓i_lrng, ↓i_lc, ↓i_nil, ↓i_cons, ↓i_o0, ↓i_o1, ↓i_opt, ↓i_seq, ↓i_rng1, ↓i_rng2, ↓i_enum, ↓i_zip, ↓i_wk, ↓i_tst, ↓ws_done, ↓ws_asg, ↓ws_asgT, ↓ws_ofE, ↓ws_of, ↓ws_asgF, ↓ws_asgI, ↓ws_aug, ↓ws_expr, ↓ws_ret, ↓ws_retN, ↓ws_ite, ↓ws_loop, ↓ws_whil, ↓boolIs_b, ↓intIs_i, ↓slot_0, ↓slot_1, ↓set_0, ↓set_1, ↓R.is_ok, ↓SR.is_rt, ↓SR.is_nx, ↓i_ofB, ↓wt_non, ↓wt_bl, ↓wt_int, ↓wt_str, ↓wt_tup, ↓wt_rol, ↓ib_add, ↓ib_sub, ↓ib_fdiv, ↓ib_mod, ↓ib_pow, ↓ib_band, ↓ib_shr, ↓ic_lt, ↓ic_le, ↓ic_gt, ↓ic_ge, ↓ic_is, ↓ic_isnot, ↓ic_eqI, ↓ic_neI, ↓ic_eqB, ↓ic_in1, ↓il_lenT, ↓tx_0, ↓tx_1, ↓tx_2, ↓ineg_i, ↓ws_try, ↓i_isx, ↓xx_done, ↓xx_rais, decide_true, decide_false, Bool.not_true, Bool.not_false, List.length_cons, List.length_nil, Int.reduceToNat, decide_eq_true_eq, Bool.not_eq_true', decide_eq_false_iff_not, Bool.true_eq_false, Bool.false_eq_true, if_true, if_false, reduceCtorEq, not_false_eq_true, not_true_eq_false, or_false, or_true, and_true, true_and, List.nil_append, List.cons_append, c_Net_outer_2, ↓i_methL hr (show 1 ≤ 6 by decide), ↓fld_is (hE _ _ hN.1) f26 rfl, ↓ix_ints (hE _ _ hN.2.1) (show 0 ≤ (i : Int) by omega) (show (i : Int) < cs.length by omega)]
    rw [e1]
    have du : doorsUpto cs (i + 1) = doorsUpto cs i ++ (upto (cs.getD i 0)).map fun n => ((i : Int), n) := rfl
    generalize cs.getD i 0 = y at du b1
    rw [ir_1 (by omega) (by omega)]
    refine lc_m (upto y) .int (fun j => doorV (i, j)) (intsFrom_0 _ |>.trans (by unfold upto; rw [List.map_map]; rfl)) rfl (by rw [upto_len]; unfold lim; omega) (fun j hj => ⟨_, rfl, fun s' hs => ?_⟩) fun s2 h2 => ?_
    · simp only [bindT, bindT.go, wipeA, List.set_cons_zero, List.set_cons_succ]
      try simp (decide := true) only [↓i_var, ↓i_con, ↓i_kon, ↓i_bin, ↓i_neg, ↓i_not, ↓i_and, ↓i_or, ↓i_and0, ↓i_or0, ↓i_and1, ↓i_or1, ↓i_cmp, ↓i_chain, ↓i_lst, ↓i_tup, ↓i_dnew, ↓i_call, ↓i_mk, ↓i_bcall, ↓i_isi, ↓i_meth, ↓i_sel, ↓i_selL, ↓i_fld, ↓i_idx, ↓i_sl, ↓i_lrng, ↓i_lc, ↓i_nil, ↓i_cons, ↓i_o0, ↓i_o1, ↓i_opt, ↓i_seq, ↓i_rng1, ↓i_rng2, ↓i_enum, ↓i_zip, ↓i_wk, ↓i_tst, ↓ws_done, ↓ws_asg, ↓ws_asgT, ↓ws_ofE, ↓ws_of, ↓ws_asgF, ↓ws_asgI, ↓ws_aug, ↓ws_expr, ↓ws_ret, ↓ws_retN, ↓ws_ite, ↓ws_loop, ↓ws_whil, ↓boolIs_b, ↓intIs_i, ↓slot_0, ↓slot_1, ↓set_0, ↓set_1, ↓R.is_ok, ↓SR.is_rt, ↓SR.is_nx, ↓i_ofB, ↓wt_non, ↓wt_bl, ↓wt_int, ↓wt_str, ↓wt_tup, ↓wt_rol, ↓ib_add, ↓ib_sub, ↓ib_fdiv, ↓ib_mod, ↓ib_pow, ↓ib_band, ↓ib_shr, ↓ic_lt, ↓ic_le, ↓ic_gt, ↓ic_ge, ↓ic_is, ↓ic_isnot, ↓ic_eqI, ↓ic_neI, ↓ic_eqB, ↓ic_in1, ↓il_lenT, ↓tx_0, ↓tx_1, ↓tx_2, ↓ineg_i, ↓ws_try, ↓i_isx, ↓xx_done, ↓xx_rais, decide_true, decide_false, Bool.not_true, Bool.not_false, List.length_cons, List.length_nil, Int.reduceToNat, decide_eq_true_eq, Bool.not_eq_true', decide_eq_false_iff_not, Bool.true_eq_false, Bool.false_eq_true, if_true, if_false, reduceCtorEq, not_false_eq_true, not_true_eq_false, or_false, or_true, and_true, true_and, List.nil_append, List.cons_append, c_Net_outer_1]
      exact ⟨rfl, Ext.refl _⟩
    · have g := get_push s2 (AO.lst ((upto y).map fun j => doorV (i, j)))
      have h3 := h2.trans (Ext.push s2 (AO.lst ((upto y).map fun j => doorV (i, j))))
      generalize s2 ++ [AO.lst ((upto y).map fun j => doorV (i, j))] = s3 at g h3 ⊢
      rw [im_ext (h3 _ _ hr) g (by rw [List.length_map, List.length_map, upto_len]; unfold lim; omega)]
      have e2 : (doorsUpto cs i).map doorV ++ (upto y).map (fun j => doorV (i, j)) = (doorsUpto cs (i + 1)).map doorV := by
        rw [du, List.map_append, List.map_map]; rfl
      rw [e2]
      try simp (decide := true) only [↓i_var, ↓i_con, ↓i_kon, ↓i_bin, ↓i_neg, ↓i_not, ↓i_and, ↓i_or, ↓i_and0, ↓i_or0, ↓i_and1, ↓i_or1, ↓i_cmp, ↓i_chain, ↓i_lst, ↓i_tup, ↓i_dnew, ↓i_call, ↓i_mk, ↓i_bcall, ↓i_isi, ↓i_meth, ↓i_sel, ↓i_selL, ↓i_fld, ↓i_idx, ↓i_sl, ↓i_lrng, ↓i_lc, ↓i_nil, ↓i_cons, ↓i_o0, ↓i_o1, ↓i_opt, ↓i_seq, ↓i_rng1, ↓i_rng2, ↓i_enum, ↓i_zip, ↓i_wk, ↓i_tst, ↓ws_done, ↓ws_asg, ↓ws_asgT, ↓ws_ofE, ↓ws_of, ↓ws_asgF, ↓ws_asgI, ↓ws_aug, ↓ws_expr, ↓ws_ret, ↓ws_retN, ↓ws_ite, ↓ws_loop, ↓ws_whil, ↓boolIs_b, ↓intIs_i, ↓slot_0, ↓slot_1, ↓set_0, ↓set_1, ↓R.is_ok, ↓SR.is_rt, ↓SR.is_nx, ↓i_ofB, ↓wt_non, ↓wt_bl, ↓wt_int, ↓wt_str, ↓wt_tup, ↓wt_rol, ↓ib_add, ↓ib_sub, ↓ib_fdiv, ↓ib_mod, ↓ib_pow, ↓ib_band, ↓ib_shr, ↓ic_lt, ↓ic_le, ↓ic_gt, ↓ic_ge, ↓ic_is, ↓ic_isnot, ↓ic_eqI, ↓ic_neI, ↓ic_eqB, ↓ic_in1, ↓il_lenT, ↓tx_0, ↓tx_1, ↓tx_2, ↓ineg_i, ↓ws_try, ↓i_isx, ↓xx_done, ↓xx_rais, decide_true, decide_false, Bool.not_true, Bool.not_false, List.length_cons, List.length_nil, Int.reduceToNat, decide_eq_true_eq, Bool.not_eq_true', decide_eq_false_iff_not, Bool.true_eq_false, Bool.false_eq_true, if_true, if_false, reduceCtorEq, not_false_eq_true, not_true_eq_false, or_false, or_true, and_true, true_and, List.nil_append, List.cons_append]
      exact ⟨_, rfl, Ext.set (hE.trans h3) (by omega), by rw [get_set (h3 _ _ hr), show 0 + i + 1 = i + 1 by omega], by omega⟩
  · obtain ⟨z2, rfl, hE, hr, hk⟩ := hI
    rw [List.length_map, List.length_range, Nat.zero_add] at hr
    refine ⟨rfl, ?_⟩
    have hD := doorsUpto_len hc cs.length (Nat.le_refl _)
    try simp (decide := true) only [↓i_var, ↓i_con, ↓i_kon, ↓i_bin, ↓i_neg, ↓i_not, ↓i_and, ↓i_or, ↓i_and0, ↓i_or0, ↓i_and1, ↓i_or1, ↓i_cmp, ↓i_chain, ↓i_lst, ↓i_tup, ↓i_dnew, ↓i_call, ↓i_mk, ↓i_bcall, ↓i_isi, ↓i_meth, ↓i_sel, ↓i_selL, ↓i_fld, ↓i_idx, ↓i_sl, ↓i_lrng, ↓i_lc, ↓i_nil, ↓i_cons, ↓i_o0, ↓i_o1, ↓i_opt, ↓i_seq, ↓i_rng1, ↓i_rng2, ↓i_enum, ↓i_zip, ↓i_wk, ↓i_tst, ↓ws_done, ↓ws_asg, ↓ws_asgT, ↓ws_ofE, ↓ws_of, ↓ws_asgF, ↓ws_asgI, ↓ws_aug, ↓ws_expr, ↓ws_ret, ↓ws_retN, ↓ws_ite, ↓ws_loop, ↓ws_whil, ↓boolIs_b, ↓intIs_i, ↓slot_0, ↓slot_1, ↓set_0, ↓set_1, ↓R.is_ok, ↓SR.is_rt, ↓SR.is_nx, ↓i_ofB, ↓wt_non, ↓wt_bl, ↓wt_int, ↓wt_str, ↓wt_tup, ↓wt_rol, ↓ib_add, ↓ib_sub, ↓ib_fdiv, ↓ib_mod, ↓ib_pow, ↓ib_band, ↓ib_shr, ↓ic_lt, ↓ic_le, ↓ic_gt, ↓ic_ge, ↓ic_is, ↓ic_isnot, ↓ic_eqI, ↓ic_neI, ↓ic_eqB, ↓ic_in1, ↓il_lenT, ↓tx_0, ↓tx_1, ↓tx_2, ↓ineg_i, ↓ws_try, ↓i_isx, ↓xx_done, ↓xx_rais, decide_true, decide_false, Bool.not_true, Bool.not_false, List.length_cons, List.length_nil, Int.reduceToNat, decide_eq_true_eq, Bool.not_eq_true', decide_eq_false_iff_not, Bool.true_eq_false, Bool.false_eq_true, if_true, if_false, reduceCtorEq, not_false_eq_true, not_true_eq_false, or_false, or_true, and_true, true_and, List.nil_append, List.cons_append]
    rw [iw_lst hr]
    refine lc_fm (doorsUpto cs cs.length) doorV (fun d => (beyF ws d).isNone) doorV rfl (ck_lst hr) (by unfold lim; omega) (fun d hd => ⟨_, rfl, fun s' hs => ?_⟩) fun s3 h3 => ?_
    · have e := inA_dT (d := d) ((hE.trans hs) _ _ hN.2.2.2)
      rw [tbl_has] at e
      simp only [bindT, bindT.go, wipeA, List.set_cons_zero, List.set_cons_succ]
      try simp (decide := true) only [↓i_var, ↓i_con, ↓i_kon, ↓i_bin, ↓i_neg, ↓i_not, ↓i_and, ↓i_or, ↓i_and0, ↓i_or0, ↓i_and1, ↓i_or1, ↓i_cmp, ↓i_chain, ↓i_lst, ↓i_tup, ↓i_dnew, ↓i_call, ↓i_mk, ↓i_bcall, ↓i_isi, ↓i_meth, ↓i_sel, ↓i_selL, ↓i_fld, ↓i_idx, ↓i_sl, ↓i_lrng, ↓i_lc, ↓i_nil, ↓i_cons, ↓i_o0, ↓i_o1, ↓i_opt, ↓i_seq, ↓i_rng1, ↓i_rng2, ↓i_enum, ↓i_zip, ↓i_wk, ↓i_tst, ↓ws_done, ↓ws_asg, ↓ws_asgT, ↓ws_ofE, ↓ws_of, ↓ws_asgF, ↓ws_asgI, ↓ws_aug, ↓ws_expr, ↓ws_ret, ↓ws_retN, ↓ws_ite, ↓ws_loop, ↓ws_whil, ↓boolIs_b, ↓intIs_i, ↓slot_0, ↓slot_1, ↓set_0, ↓set_1, ↓R.is_ok, ↓SR.is_rt, ↓SR.is_nx, ↓i_ofB, ↓wt_non, ↓wt_bl, ↓wt_int, ↓wt_str, ↓wt_tup, ↓wt_rol, ↓ib_add, ↓ib_sub, ↓ib_fdiv, ↓ib_mod, ↓ib_pow, ↓ib_band, ↓ib_shr, ↓ic_lt, ↓ic_le, ↓ic_gt, ↓ic_ge, ↓ic_is, ↓ic_isnot, ↓ic_eqI, ↓ic_neI, ↓ic_eqB, ↓ic_in1, ↓il_lenT, ↓tx_0, ↓tx_1, ↓tx_2, ↓ineg_i, ↓ws_try, ↓i_isx, ↓xx_done, ↓xx_rais, decide_true, decide_false, Bool.not_true, Bool.not_false, List.length_cons, List.length_nil, Int.reduceToNat, decide_eq_true_eq, Bool.not_eq_true', decide_eq_false_iff_not, Bool.true_eq_false, Bool.false_eq_true, if_true, if_false, reduceCtorEq, not_false_eq_true, not_true_eq_false, or_false, or_true, and_true, true_and, List.nil_append, List.cons_append, c_Net_outer_3, c_Net_outer_4, ↓fld_is ((hE.trans hs) _ _ hN.1) f28 rfl, ↓ic_nin e]
      cases beyF ws d with
      | none => exact ⟨rfl, Ext.refl _, fun _ => Ext.refl _⟩
      | some _ => exact ⟨rfl, Ext.refl _, fun z => by cases z⟩
    · exact q _ _ (hE.trans (h3.trans (Ext.push _ _))) (by have := hE.lt; have := h3.lt; omega) (get_push _ _)
end L3

/-! K02a: nets that are none. -/
namespace L3
open PySem L2

theorem knd_ext {s s' : Sto} {v : AV} (h : Ty1 s v) (x : Ext s s') (hk : kndOf s v ≠ .list) : kndOf s' v ≠ .list := by
  cases v with
  | ref m =>
    rcases h with ⟨xs, h⟩ | ⟨xs, h⟩
    · simp [kndOf, h] at hk
    · simp [kndOf, x _ _ h]
  | _ => exact hk
/-! ### counts -/
def BadC (st : Sto) (v : AV) : Prop := ∀ (s : Sto) (n : Nat) (Q : AV → Sto → Prop), Ext st s → (∀ s', Ext s s' → Q (.bl false) s') → (callF tab (n + 2) g_are_counts [v] s).Is Q
def GoodC (st : Sto) (v : AV) : Prop := ∀ (s : Sto) (n : Nat) (Q : AV → Sto → Prop), Ext st s → (∀ s', Ext s s' → Q (.bl true) s') → (callF tab (n + 2) g_are_counts [v] s).Is Q
def cntA (v : AV) : Bool := match wholeM v with
  | some c => decide (1 ≤ c) && decide (c ≤ 4)
  | none => false
theorem bad_c_list {st : Sto} {a : Nat} {xs : List AV} (ha : st[a]? = some (.lst xs)) (hx : ∀ x ∈ xs, Ty1 st x) (hb : xs.length < 1 ∨ 6 < xs.length ∨ ∃ x ∈ xs, cntA x = false) : BadC st (.ref a) := fun s n Q E q => by
  have ha' := E _ _ ha
  refine call_is rfl rfl ?_; simp only [List.map_cons, List.map_nil, List.cons_append, List.nil_append, List.replicate_succ, List.replicate_zero, Nat.reduceSub]
  try simp (decide := true) only [↓i_var, ↓i_con, ↓i_kon, ↓i_bin, ↓i_neg, ↓i_not, ↓i_and, ↓i_or, ↓i_and0, ↓i_or0, ↓i_and1, ↓i_or1, ↓i_cmp, ↓i_chain, ↓i_lst, ↓i_tup, ↓i_dnew, ↓i_call, ↓i_mk, ↓i_bcall, ↓i_isi, ↓i_meth, ↓i_sel, ↓i_selL, ↓i_fld, ↓i_idx, ↓i_sl, ↓i_lrng, ↓i_lc, ↓i_nil, ↓i_cons, ↓i_o0, ↓i_o1, ↓i_opt, ↓i_seq, ↓i_rng1, ↓i_rng2, ↓i_enum, ↓i_zip, ↓i_wk, ↓i_tst, ↓ws_done, ↓ws_asg, ↓ws_asgT, ↓ws_ofE, ↓ws_of, ↓ws_asgF, ↓ws_asgI, ↓ws_aug, ↓ws_expr, ↓ws_ret, ↓ws_retN, ↓ws_ite, ↓ws_loop, ↓ws_whil, ↓boolIs_b, ↓intIs_i, ↓slot_0, ↓slot_1, ↓set_0, ↓set_1, ↓R.is_ok, ↓SR.is_rt, ↓SR.is_nx, ↓i_ofB, ↓wt_non, ↓wt_bl, ↓wt_int, ↓wt_str, ↓wt_tup, ↓wt_rol, ↓ib_add, ↓ib_sub, ↓ib_fdiv, ↓ib_mod, ↓ib_pow, ↓ib_band, ↓ib_shr, ↓ic_lt, ↓ic_le, ↓ic_gt, ↓ic_ge, ↓ic_is, ↓ic_isnot, ↓ic_eqI, ↓ic_neI, ↓ic_eqB, ↓ic_in1, ↓il_lenT, ↓tx_0, ↓tx_1, ↓tx_2, ↓ineg_i, ↓ws_try, ↓i_isx, ↓xx_done, ↓xx_rais, decide_true, decide_false, Bool.not_true, Bool.not_false, List.length_cons, List.length_nil, Int.reduceToNat, decide_eq_true_eq, Bool.not_eq_true', decide_eq_false_iff_not, Bool.true_eq_false, Bool.false_eq_true, if_true, if_false, reduceCtorEq, not_false_eq_true, not_true_eq_false, or_false, or_true, and_true, true_and, List.nil_append, List.cons_append, c_are_counts, ↓wt_lst ha', ↓il_len ha']
  by_cases h1 : (1 : Int) ≤ (xs.length : Nat)
  · by_cases h2 : ((xs.length : Nat) : Int) ≤ 6
    · try simp (decide := true) only [↓i_var, ↓i_con, ↓i_kon, ↓i_bin, ↓i_neg, ↓i_not, ↓i_and, ↓i_or, ↓i_and0, ↓i_or0, ↓i_and1, ↓i_or1, ↓i_cmp, ↓i_chain, ↓i_lst, ↓i_tup, ↓i_dnew, ↓i_call, ↓i_mk, ↓i_bcall, ↓i_isi, ↓i_meth, ↓i_sel, ↓i_selL, ↓i_fld, ↓i_idx, ↓i_sl, ↓i_lrng, ↓i_lc, ↓i_nil, ↓i_cons, ↓i_o0, ↓i_o1, ↓i_opt, ↓i_seq, ↓i_rng1, ↓i_rng2, ↓i_enum, ↓i_zip, ↓i_wk, ↓i_tst, ↓ws_done, ↓ws_asg, ↓ws_asgT, ↓ws_ofE, ↓ws_of, ↓ws_asgF, ↓ws_asgI, ↓ws_aug, ↓ws_expr, ↓ws_ret, ↓ws_retN, ↓ws_ite, ↓ws_loop, ↓ws_whil, ↓boolIs_b, ↓intIs_i, ↓slot_0, ↓slot_1, ↓set_0, ↓set_1, ↓R.is_ok, ↓SR.is_rt, ↓SR.is_nx, ↓i_ofB, ↓wt_non, ↓wt_bl, ↓wt_int, ↓wt_str, ↓wt_tup, ↓wt_rol, ↓ib_add, ↓ib_sub, ↓ib_fdiv, ↓ib_mod, ↓ib_pow, ↓ib_band, ↓ib_shr, ↓ic_lt, ↓ic_le, ↓ic_gt, ↓ic_ge, ↓ic_is, ↓ic_isnot, ↓ic_eqI, ↓ic_neI, ↓ic_eqB, ↓ic_in1, ↓il_lenT, ↓tx_0, ↓tx_1, ↓tx_2, ↓ineg_i, ↓ws_try, ↓i_isx, ↓xx_done, ↓xx_rais, decide_true, decide_false, Bool.not_true, Bool.not_false, List.length_cons, List.length_nil, Int.reduceToNat, decide_eq_true_eq, Bool.not_eq_true', decide_eq_false_iff_not, Bool.true_eq_false, Bool.false_eq_true, if_true, if_false, reduceCtorEq, not_false_eq_true, not_true_eq_false, or_false, or_true, and_true, true_and, List.nil_append, List.cons_append, h1, h2]
      rw [iw_lst ha']
      refine lc_m xs id (fun v => .bl (cntA v)) (List.map_id xs).symm (ck_lst ha') (by unfold lim; omega) (fun v hv => ⟨_, rfl, fun s2 hs => ?_⟩) fun s2 h2 => ?_
      · simp only [bindT, bindT.go, wipeA, List.set_cons_zero, List.set_cons_succ]
        try simp (decide := true) only [↓i_var, ↓i_con, ↓i_kon, ↓i_bin, ↓i_neg, ↓i_not, ↓i_and, ↓i_or, ↓i_and0, ↓i_or0, ↓i_and1, ↓i_or1, ↓i_cmp, ↓i_chain, ↓i_lst, ↓i_tup, ↓i_dnew, ↓i_call, ↓i_mk, ↓i_bcall, ↓i_isi, ↓i_meth, ↓i_sel, ↓i_selL, ↓i_fld, ↓i_idx, ↓i_sl, ↓i_lrng, ↓i_lc, ↓i_nil, ↓i_cons, ↓i_o0, ↓i_o1, ↓i_opt, ↓i_seq, ↓i_rng1, ↓i_rng2, ↓i_enum, ↓i_zip, ↓i_wk, ↓i_tst, ↓ws_done, ↓ws_asg, ↓ws_asgT, ↓ws_ofE, ↓ws_of, ↓ws_asgF, ↓ws_asgI, ↓ws_aug, ↓ws_expr, ↓ws_ret, ↓ws_retN, ↓ws_ite, ↓ws_loop, ↓ws_whil, ↓boolIs_b, ↓intIs_i, ↓slot_0, ↓slot_1, ↓set_0, ↓set_1, ↓R.is_ok, ↓SR.is_rt, ↓SR.is_nx, ↓i_ofB, ↓wt_non, ↓wt_bl, ↓wt_int, ↓wt_str, ↓wt_tup, ↓wt_rol, ↓ib_add, ↓ib_sub, ↓ib_fdiv, ↓ib_mod, ↓ib_pow, ↓ib_band, ↓ib_shr, ↓ic_lt, ↓ic_le, ↓ic_gt, ↓ic_ge, ↓ic_is, ↓ic_isnot, ↓ic_eqI, ↓ic_neI, ↓ic_eqB, ↓ic_in1, ↓il_lenT, ↓tx_0, ↓tx_1, ↓tx_2, ↓ineg_i, ↓ws_try, ↓i_isx, ↓xx_done, ↓xx_rais, decide_true, decide_false, Bool.not_true, Bool.not_false, List.length_cons, List.length_nil, Int.reduceToNat, decide_eq_true_eq, Bool.not_eq_true', decide_eq_false_iff_not, Bool.true_eq_false, Bool.false_eq_true, if_true, if_false, reduceCtorEq, not_false_eq_true, not_true_eq_false, or_false, or_true, and_true, true_and, List.nil_append, List.cons_append, c_are_counts_1, id]
        refine whole_any ((hx v hv).ext (E.trans hs)) ?_
        unfold cntA
        cases e : wholeM v with
        | none =>
          try simp (decide := true) only [↓i_var, ↓i_con, ↓i_kon, ↓i_bin, ↓i_neg, ↓i_not, ↓i_and, ↓i_or, ↓i_and0, ↓i_or0, ↓i_and1, ↓i_or1, ↓i_cmp, ↓i_chain, ↓i_lst, ↓i_tup, ↓i_dnew, ↓i_call, ↓i_mk, ↓i_bcall, ↓i_isi, ↓i_meth, ↓i_sel, ↓i_selL, ↓i_fld, ↓i_idx, ↓i_sl, ↓i_lrng, ↓i_lc, ↓i_nil, ↓i_cons, ↓i_o0, ↓i_o1, ↓i_opt, ↓i_seq, ↓i_rng1, ↓i_rng2, ↓i_enum, ↓i_zip, ↓i_wk, ↓i_tst, ↓ws_done, ↓ws_asg, ↓ws_asgT, ↓ws_ofE, ↓ws_of, ↓ws_asgF, ↓ws_asgI, ↓ws_aug, ↓ws_expr, ↓ws_ret, ↓ws_retN, ↓ws_ite, ↓ws_loop, ↓ws_whil, ↓boolIs_b, ↓intIs_i, ↓slot_0, ↓slot_1, ↓set_0, ↓set_1, ↓R.is_ok, ↓SR.is_rt, ↓SR.is_nx, ↓i_ofB, ↓wt_non, ↓wt_bl, ↓wt_int, ↓wt_str, ↓wt_tup, ↓wt_rol, ↓ib_add, ↓ib_sub, ↓ib_fdiv, ↓ib_mod, ↓ib_pow, ↓ib_band, ↓ib_shr, ↓ic_lt, ↓ic_le, ↓ic_gt, ↓ic_ge, ↓ic_is, ↓ic_isnot, ↓ic_eqI, ↓ic_neI, ↓ic_eqB, ↓ic_in1, ↓il_lenT, ↓tx_0, ↓tx_1, ↓tx_2, ↓ineg_i, ↓ws_try, ↓i_isx, ↓xx_done, ↓xx_rais, decide_true, decide_false, Bool.not_true, Bool.not_false, List.length_cons, List.length_nil, Int.reduceToNat, decide_eq_true_eq, Bool.not_eq_true', decide_eq_false_iff_not, Bool.true_eq_false, Bool.false_eq_true, if_true, if_false, reduceCtorEq, not_false_eq_true, not_true_eq_false, or_false, or_true, and_true, true_and, List.nil_append, List.cons_append, Option.isSome_none]
          first | exact ⟨rfl, Ext.refl _⟩ | exact Ext.refl _
        | some c =>
          have e2 := wholeM_some e
          subst e2
          try simp (decide := true) only [↓i_var, ↓i_con, ↓i_kon, ↓i_bin, ↓i_neg, ↓i_not, ↓i_and, ↓i_or, ↓i_and0, ↓i_or0, ↓i_and1, ↓i_or1, ↓i_cmp, ↓i_chain, ↓i_lst, ↓i_tup, ↓i_dnew, ↓i_call, ↓i_mk, ↓i_bcall, ↓i_isi, ↓i_meth, ↓i_sel, ↓i_selL, ↓i_fld, ↓i_idx, ↓i_sl, ↓i_lrng, ↓i_lc, ↓i_nil, ↓i_cons, ↓i_o0, ↓i_o1, ↓i_opt, ↓i_seq, ↓i_rng1, ↓i_rng2, ↓i_enum, ↓i_zip, ↓i_wk, ↓i_tst, ↓ws_done, ↓ws_asg, ↓ws_asgT, ↓ws_ofE, ↓ws_of, ↓ws_asgF, ↓ws_asgI, ↓ws_aug, ↓ws_expr, ↓ws_ret, ↓ws_retN, ↓ws_ite, ↓ws_loop, ↓ws_whil, ↓boolIs_b, ↓intIs_i, ↓slot_0, ↓slot_1, ↓set_0, ↓set_1, ↓R.is_ok, ↓SR.is_rt, ↓SR.is_nx, ↓i_ofB, ↓wt_non, ↓wt_bl, ↓wt_int, ↓wt_str, ↓wt_tup, ↓wt_rol, ↓ib_add, ↓ib_sub, ↓ib_fdiv, ↓ib_mod, ↓ib_pow, ↓ib_band, ↓ib_shr, ↓ic_lt, ↓ic_le, ↓ic_gt, ↓ic_ge, ↓ic_is, ↓ic_isnot, ↓ic_eqI, ↓ic_neI, ↓ic_eqB, ↓ic_in1, ↓il_lenT, ↓tx_0, ↓tx_1, ↓tx_2, ↓ineg_i, ↓ws_try, ↓i_isx, ↓xx_done, ↓xx_rais, decide_true, decide_false, Bool.not_true, Bool.not_false, List.length_cons, List.length_nil, Int.reduceToNat, decide_eq_true_eq, Bool.not_eq_true', decide_eq_false_iff_not, Bool.true_eq_false, Bool.false_eq_true, if_true, if_false, reduceCtorEq, not_false_eq_true, not_true_eq_false, or_false, or_true, and_true, true_and, List.nil_append, List.cons_append, Option.isSome_some]
          by_cases k1 : 1 ≤ c
          · try simp (decide := true) only [↓i_var, ↓i_con, ↓i_kon, ↓i_bin, ↓i_neg, ↓i_not, ↓i_and, ↓i_or, ↓i_and0, ↓i_or0, ↓i_and1, ↓i_or1, ↓i_cmp, ↓i_chain, ↓i_lst, ↓i_tup, ↓i_dnew, ↓i_call, ↓i_mk, ↓i_bcall, ↓i_isi, ↓i_meth, ↓i_sel, ↓i_selL, ↓i_fld, ↓i_idx, ↓i_sl, ↓i_lrng, ↓i_lc, ↓i_nil, ↓i_cons, ↓i_o0, ↓i_o1, ↓i_opt, ↓i_seq, ↓i_rng1, ↓i_rng2, ↓i_enum, ↓i_zip, ↓i_wk, ↓i_tst, ↓ws_done, ↓ws_asg, ↓ws_asgT, ↓ws_ofE, ↓ws_of, ↓ws_asgF, ↓ws_asgI, ↓ws_aug, ↓ws_expr, ↓ws_ret, ↓ws_retN, ↓ws_ite, ↓ws_loop, ↓ws_whil, ↓boolIs_b, ↓intIs_i, ↓slot_0, ↓slot_1, ↓set_0, ↓set_1, ↓R.is_ok, ↓SR.is_rt, ↓SR.is_nx, ↓i_ofB, ↓wt_non, ↓wt_bl, ↓wt_int, ↓wt_str, ↓wt_tup, ↓wt_rol, ↓ib_add, ↓ib_sub, ↓ib_fdiv, ↓ib_mod, ↓ib_pow, ↓ib_band, ↓ib_shr, ↓ic_lt, ↓ic_le, ↓ic_gt, ↓ic_ge, ↓ic_is, ↓ic_isnot, ↓ic_eqI, ↓ic_neI, ↓ic_eqB, ↓ic_in1, ↓il_lenT, ↓tx_0, ↓tx_1, ↓tx_2, ↓ineg_i, ↓ws_try, ↓i_isx, ↓xx_done, ↓xx_rais, decide_true, decide_false, Bool.not_true, Bool.not_false, List.length_cons, List.length_nil, Int.reduceToNat, decide_eq_true_eq, Bool.not_eq_true', decide_eq_false_iff_not, Bool.true_eq_false, Bool.false_eq_true, if_true, if_false, reduceCtorEq, not_false_eq_true, not_true_eq_false, or_false, or_true, and_true, true_and, List.nil_append, List.cons_append, k1]
            by_cases k2 : c ≤ 4
            · try simp (decide := true) only [↓i_var, ↓i_con, ↓i_kon, ↓i_bin, ↓i_neg, ↓i_not, ↓i_and, ↓i_or, ↓i_and0, ↓i_or0, ↓i_and1, ↓i_or1, ↓i_cmp, ↓i_chain, ↓i_lst, ↓i_tup, ↓i_dnew, ↓i_call, ↓i_mk, ↓i_bcall, ↓i_isi, ↓i_meth, ↓i_sel, ↓i_selL, ↓i_fld, ↓i_idx, ↓i_sl, ↓i_lrng, ↓i_lc, ↓i_nil, ↓i_cons, ↓i_o0, ↓i_o1, ↓i_opt, ↓i_seq, ↓i_rng1, ↓i_rng2, ↓i_enum, ↓i_zip, ↓i_wk, ↓i_tst, ↓ws_done, ↓ws_asg, ↓ws_asgT, ↓ws_ofE, ↓ws_of, ↓ws_asgF, ↓ws_asgI, ↓ws_aug, ↓ws_expr, ↓ws_ret, ↓ws_retN, ↓ws_ite, ↓ws_loop, ↓ws_whil, ↓boolIs_b, ↓intIs_i, ↓slot_0, ↓slot_1, ↓set_0, ↓set_1, ↓R.is_ok, ↓SR.is_rt, ↓SR.is_nx, ↓i_ofB, ↓wt_non, ↓wt_bl, ↓wt_int, ↓wt_str, ↓wt_tup, ↓wt_rol, ↓ib_add, ↓ib_sub, ↓ib_fdiv, ↓ib_mod, ↓ib_pow, ↓ib_band, ↓ib_shr, ↓ic_lt, ↓ic_le, ↓ic_gt, ↓ic_ge, ↓ic_is, ↓ic_isnot, ↓ic_eqI, ↓ic_neI, ↓ic_eqB, ↓ic_in1, ↓il_lenT, ↓tx_0, ↓tx_1, ↓tx_2, ↓ineg_i, ↓ws_try, ↓i_isx, ↓xx_done, ↓xx_rais, decide_true, decide_false, Bool.not_true, Bool.not_false, List.length_cons, List.length_nil, Int.reduceToNat, decide_eq_true_eq, Bool.not_eq_true', decide_eq_false_iff_not, Bool.true_eq_false, Bool.false_eq_true, if_true, if_false, reduceCtorEq, not_false_eq_true, not_true_eq_false, or_false, or_true, and_true, true_and, List.nil_append, List.cons_append, k2]
              first | exact ⟨rfl, Ext.refl _⟩ | exact Ext.refl _
            · try simp (decide := true) only [↓i_var, ↓i_con, ↓i_kon, ↓i_bin, ↓i_neg, ↓i_not, ↓i_and, ↓i_or, ↓i_and0, ↓i_or0, ↓i_and1, ↓i_or1, ↓i_cmp, ↓i_chain, ↓i_lst, ↓i_tup, ↓i_dnew, ↓i_call, ↓i_mk, ↓i_bcall, ↓i_isi, ↓i_meth, ↓i_sel, ↓i_selL, ↓i_fld, ↓i_idx, ↓i_sl, ↓i_lrng, ↓i_lc, ↓i_nil, ↓i_cons, ↓i_o0, ↓i_o1, ↓i_opt, ↓i_seq, ↓i_rng1, ↓i_rng2, ↓i_enum, ↓i_zip, ↓i_wk, ↓i_tst, ↓ws_done, ↓ws_asg, ↓ws_asgT, ↓ws_ofE, ↓ws_of, ↓ws_asgF, ↓ws_asgI, ↓ws_aug, ↓ws_expr, ↓ws_ret, ↓ws_retN, ↓ws_ite, ↓ws_loop, ↓ws_whil, ↓boolIs_b, ↓intIs_i, ↓slot_0, ↓slot_1, ↓set_0, ↓set_1, ↓R.is_ok, ↓SR.is_rt, ↓SR.is_nx, ↓i_ofB, ↓wt_non, ↓wt_bl, ↓wt_int, ↓wt_str, ↓wt_tup, ↓wt_rol, ↓ib_add, ↓ib_sub, ↓ib_fdiv, ↓ib_mod, ↓ib_pow, ↓ib_band, ↓ib_shr, ↓ic_lt, ↓ic_le, ↓ic_gt, ↓ic_ge, ↓ic_is, ↓ic_isnot, ↓ic_eqI, ↓ic_neI, ↓ic_eqB, ↓ic_in1, ↓il_lenT, ↓tx_0, ↓tx_1, ↓tx_2, ↓ineg_i, ↓ws_try, ↓i_isx, ↓xx_done, ↓xx_rais, decide_true, decide_false, Bool.not_true, Bool.not_false, List.length_cons, List.length_nil, Int.reduceToNat, decide_eq_true_eq, Bool.not_eq_true', decide_eq_false_iff_not, Bool.true_eq_false, Bool.false_eq_true, if_true, if_false, reduceCtorEq, not_false_eq_true, not_true_eq_false, or_false, or_true, and_true, true_and, List.nil_append, List.cons_append, k2]
              first | exact ⟨rfl, Ext.refl _⟩ | exact Ext.refl _
          · try simp (decide := true) only [↓i_var, ↓i_con, ↓i_kon, ↓i_bin, ↓i_neg, ↓i_not, ↓i_and, ↓i_or, ↓i_and0, ↓i_or0, ↓i_and1, ↓i_or1, ↓i_cmp, ↓i_chain, ↓i_lst, ↓i_tup, ↓i_dnew, ↓i_call, ↓i_mk, ↓i_bcall, ↓i_isi, ↓i_meth, ↓i_sel, ↓i_selL, ↓i_fld, ↓i_idx, ↓i_sl, ↓i_lrng, ↓i_lc, ↓i_nil, ↓i_cons, ↓i_o0, ↓i_o1, ↓i_opt, ↓i_seq, ↓i_rng1, ↓i_rng2, ↓i_enum, ↓i_zip, ↓i_wk, ↓i_tst, ↓ws_done, ↓ws_asg, ↓ws_asgT, ↓ws_ofE, ↓ws_of, ↓ws_asgF, ↓ws_asgI, ↓ws_aug, ↓ws_expr, ↓ws_ret, ↓ws_retN, ↓ws_ite, ↓ws_loop, ↓ws_whil, ↓boolIs_b, ↓intIs_i, ↓slot_0, ↓slot_1, ↓set_0, ↓set_1, ↓R.is_ok, ↓SR.is_rt, ↓SR.is_nx, ↓i_ofB, ↓wt_non, ↓wt_bl, ↓wt_int, ↓wt_str, ↓wt_tup, ↓wt_rol, ↓ib_add, ↓ib_sub, ↓ib_fdiv, ↓ib_mod, ↓ib_pow, ↓ib_band, ↓ib_shr, ↓ic_lt, ↓ic_le, ↓ic_gt, ↓ic_ge, ↓ic_is, ↓ic_isnot, ↓ic_eqI, ↓ic_neI, ↓ic_eqB, ↓ic_in1, ↓il_lenT, ↓tx_0, ↓tx_1, ↓tx_2, ↓ineg_i, ↓ws_try, ↓i_isx, ↓xx_done, ↓xx_rais, decide_true, decide_false, Bool.not_true, Bool.not_false, List.length_cons, List.length_nil, Int.reduceToNat, decide_eq_true_eq, Bool.not_eq_true', decide_eq_false_iff_not, Bool.true_eq_false, Bool.false_eq_true, if_true, if_false, reduceCtorEq, not_false_eq_true, not_true_eq_false, or_false, or_true, and_true, true_and, List.nil_append, List.cons_append, k1]
            first | exact ⟨rfl, Ext.refl _⟩ | exact Ext.refl _
      · rw [i_all (get_push _ _)]
        have e : xs.all cntA = false := by
          rcases hb with h | h | ⟨x, hx, hc⟩
          · omega
          · omega
          · exact List.all_eq_false.mpr ⟨x, hx, by rw [hc]; exact Bool.false_ne_true⟩
        rw [e]
        exact q _ (h2.trans (Ext.push _ _))
    · try simp (decide := true) only [↓i_var, ↓i_con, ↓i_kon, ↓i_bin, ↓i_neg, ↓i_not, ↓i_and, ↓i_or, ↓i_and0, ↓i_or0, ↓i_and1, ↓i_or1, ↓i_cmp, ↓i_chain, ↓i_lst, ↓i_tup, ↓i_dnew, ↓i_call, ↓i_mk, ↓i_bcall, ↓i_isi, ↓i_meth, ↓i_sel, ↓i_selL, ↓i_fld, ↓i_idx, ↓i_sl, ↓i_lrng, ↓i_lc, ↓i_nil, ↓i_cons, ↓i_o0, ↓i_o1, ↓i_opt, ↓i_seq, ↓i_rng1, ↓i_rng2, ↓i_enum, ↓i_zip, ↓i_wk, ↓i_tst, ↓ws_done, ↓ws_asg, ↓ws_asgT, ↓ws_ofE, ↓ws_of, ↓ws_asgF, ↓ws_asgI, ↓ws_aug, ↓ws_expr, ↓ws_ret, ↓ws_retN, ↓ws_ite, ↓ws_loop, ↓ws_whil, ↓boolIs_b, ↓intIs_i, ↓slot_0, ↓slot_1, ↓set_0, ↓set_1, ↓R.is_ok, ↓SR.is_rt, ↓SR.is_nx, ↓i_ofB, ↓wt_non, ↓wt_bl, ↓wt_int, ↓wt_str, ↓wt_tup, ↓wt_rol, ↓ib_add, ↓ib_sub, ↓ib_fdiv, ↓ib_mod, ↓ib_pow, ↓ib_band, ↓ib_shr, ↓ic_lt, ↓ic_le, ↓ic_gt, ↓ic_ge, ↓ic_is, ↓ic_isnot, ↓ic_eqI, ↓ic_neI, ↓ic_eqB, ↓ic_in1, ↓il_lenT, ↓tx_0, ↓tx_1, ↓tx_2, ↓ineg_i, ↓ws_try, ↓i_isx, ↓xx_done, ↓xx_rais, decide_true, decide_false, Bool.not_true, Bool.not_false, List.length_cons, List.length_nil, Int.reduceToNat, decide_eq_true_eq, Bool.not_eq_true', decide_eq_false_iff_not, Bool.true_eq_false, Bool.false_eq_true, if_true, if_false, reduceCtorEq, not_false_eq_true, not_true_eq_false, or_false, or_true, and_true, true_and, List.nil_append, List.cons_append, h1, h2]
      exact q _ (Ext.refl _)
  · try simp (decide := true) only [↓i_var, ↓i_con, ↓i_kon, ↓i_bin, ↓i_neg, ↓i_not, ↓i_and, ↓i_or, ↓i_and0, ↓i_or0, ↓i_and1, ↓i_or1, ↓i_cmp, ↓i_chain, ↓i_lst, ↓i_tup, ↓i_dnew, ↓i_call, ↓i_mk, ↓i_bcall, ↓i_isi, ↓i_meth, ↓i_sel, ↓i_selL, ↓i_fld, ↓i_idx, ↓i_sl, ↓i_lrng, ↓i_lc, ↓i_nil, ↓i_cons, ↓i_o0, ↓i_o1, ↓i_opt, ↓i_seq, ↓i_rng1, ↓i_rng2, ↓i_enum, ↓i_zip, ↓i_wk, ↓i_tst, ↓ws_done, ↓ws_asg, ↓ws_asgT, ↓ws_ofE, ↓ws_of, ↓ws_asgF, ↓ws_asgI, ↓ws_aug, ↓ws_expr, ↓ws_ret, ↓ws_retN, ↓ws_ite, ↓ws_loop, ↓ws_whil, ↓boolIs_b, ↓intIs_i, ↓slot_0, ↓slot_1, ↓set_0, ↓set_1, ↓R.is_ok, ↓SR.is_rt, ↓SR.is_nx, ↓i_ofB, ↓wt_non, ↓wt_bl, ↓wt_int, ↓wt_str, ↓wt_tup, ↓wt_rol, ↓ib_add, ↓ib_sub, ↓ib_fdiv, ↓ib_mod, ↓ib_pow, ↓ib_band, ↓ib_shr, ↓ic_lt, ↓ic_le, ↓ic_gt, ↓ic_ge, ↓ic_is, ↓ic_isnot, ↓ic_eqI, ↓ic_neI, ↓ic_eqB, ↓ic_in1, ↓il_lenT, ↓tx_0, ↓tx_1, ↓tx_2, ↓ineg_i, ↓ws_try, ↓i_isx, ↓xx_done, ↓xx_rais, decide_true, decide_false, Bool.not_true, Bool.not_false, List.length_cons, List.length_nil, Int.reduceToNat, decide_eq_true_eq, Bool.not_eq_true', decide_eq_false_iff_not, Bool.true_eq_false, Bool.false_eq_true, if_true, if_false, reduceCtorEq, not_false_eq_true, not_true_eq_false, or_false, or_true, and_true, true_and, List.nil_append, List.cons_append, h1]
    exact q _ (Ext.refl _)
theorem bad_c_non {st : Sto} {v : AV} (h : Ty1 st v) (hk : kndOf st v ≠ .list) : BadC st v := fun s n Q E q => by
  have hk' := knd_ext h E hk
  refine call_is rfl rfl ?_; simp only [List.map_cons, List.map_nil, List.cons_append, List.nil_append, List.replicate_succ, List.replicate_zero, Nat.reduceSub]
  try simp (decide := true) only [↓i_var, ↓i_con, ↓i_kon, ↓i_bin, ↓i_neg, ↓i_not, ↓i_and, ↓i_or, ↓i_and0, ↓i_or0, ↓i_and1, ↓i_or1, ↓i_cmp, ↓i_chain, ↓i_lst, ↓i_tup, ↓i_dnew, ↓i_call, ↓i_mk, ↓i_bcall, ↓i_isi, ↓i_meth, ↓i_sel, ↓i_selL, ↓i_fld, ↓i_idx, ↓i_sl, ↓i_lrng, ↓i_lc, ↓i_nil, ↓i_cons, ↓i_o0, ↓i_o1, ↓i_opt, ↓i_seq, ↓i_rng1, ↓i_rng2, ↓i_enum, ↓i_zip, ↓i_wk, ↓i_tst, ↓ws_done, ↓ws_asg, ↓ws_asgT, ↓ws_ofE, ↓ws_of, ↓ws_asgF, ↓ws_asgI, ↓ws_aug, ↓ws_expr, ↓ws_ret, ↓ws_retN, ↓ws_ite, ↓ws_loop, ↓ws_whil, ↓boolIs_b, ↓intIs_i, ↓slot_0, ↓slot_1, ↓set_0, ↓set_1, ↓R.is_ok, ↓SR.is_rt, ↓SR.is_nx, ↓i_ofB, ↓wt_non, ↓wt_bl, ↓wt_int, ↓wt_str, ↓wt_tup, ↓wt_rol, ↓ib_add, ↓ib_sub, ↓ib_fdiv, ↓ib_mod, ↓ib_pow, ↓ib_band, ↓ib_shr, ↓ic_lt, ↓ic_le, ↓ic_gt, ↓ic_ge, ↓ic_is, ↓ic_isnot, ↓ic_eqI, ↓ic_neI, ↓ic_eqB, ↓ic_in1, ↓il_lenT, ↓tx_0, ↓tx_1, ↓tx_2, ↓ineg_i, ↓ws_try, ↓i_isx, ↓xx_done, ↓xx_rais, decide_true, decide_false, Bool.not_true, Bool.not_false, List.length_cons, List.length_nil, Int.reduceToNat, decide_eq_true_eq, Bool.not_eq_true', decide_eq_false_iff_not, Bool.true_eq_false, Bool.false_eq_true, if_true, if_false, reduceCtorEq, not_false_eq_true, not_true_eq_false, or_false, or_true, and_true, true_and, List.nil_append, List.cons_append, c_are_counts]
  rw [isi_any (h.ext E) (by intro c z; cases z)]
  try simp (decide := true) only [↓i_var, ↓i_con, ↓i_kon, ↓i_bin, ↓i_neg, ↓i_not, ↓i_and, ↓i_or, ↓i_and0, ↓i_or0, ↓i_and1, ↓i_or1, ↓i_cmp, ↓i_chain, ↓i_lst, ↓i_tup, ↓i_dnew, ↓i_call, ↓i_mk, ↓i_bcall, ↓i_isi, ↓i_meth, ↓i_sel, ↓i_selL, ↓i_fld, ↓i_idx, ↓i_sl, ↓i_lrng, ↓i_lc, ↓i_nil, ↓i_cons, ↓i_o0, ↓i_o1, ↓i_opt, ↓i_seq, ↓i_rng1, ↓i_rng2, ↓i_enum, ↓i_zip, ↓i_wk, ↓i_tst, ↓ws_done, ↓ws_asg, ↓ws_asgT, ↓ws_ofE, ↓ws_of, ↓ws_asgF, ↓ws_asgI, ↓ws_aug, ↓ws_expr, ↓ws_ret, ↓ws_retN, ↓ws_ite, ↓ws_loop, ↓ws_whil, ↓boolIs_b, ↓intIs_i, ↓slot_0, ↓slot_1, ↓set_0, ↓set_1, ↓R.is_ok, ↓SR.is_rt, ↓SR.is_nx, ↓i_ofB, ↓wt_non, ↓wt_bl, ↓wt_int, ↓wt_str, ↓wt_tup, ↓wt_rol, ↓ib_add, ↓ib_sub, ↓ib_fdiv, ↓ib_mod, ↓ib_pow, ↓ib_band, ↓ib_shr, ↓ic_lt, ↓ic_le, ↓ic_gt, ↓ic_ge, ↓ic_is, ↓ic_isnot, ↓ic_eqI, ↓ic_neI, ↓ic_eqB, ↓ic_in1, ↓il_lenT, ↓tx_0, ↓tx_1, ↓tx_2, ↓ineg_i, ↓ws_try, ↓i_isx, ↓xx_done, ↓xx_rais, decide_true, decide_false, Bool.not_true, Bool.not_false, List.length_cons, List.length_nil, Int.reduceToNat, decide_eq_true_eq, Bool.not_eq_true', decide_eq_false_iff_not, Bool.true_eq_false, Bool.false_eq_true, if_true, if_false, reduceCtorEq, not_false_eq_true, not_true_eq_false, or_false, or_true, and_true, true_and, List.nil_append, List.cons_append, Ne.symm hk', hk']
  exact q s (Ext.refl _)
theorem good_c {st : Sto} {a : Nat} {cs : List Int} (ha : st[a]? = some (.lst (cs.map AV.int))) (h1 : 1 ≤ cs.length) (h2 : cs.length ≤ 6) (hc : ∀ c ∈ cs, 1 ≤ c ∧ c ≤ 4) : GoodC st (.ref a) := fun s n Q E q => counts_is (E _ _ ha) h1 h2 hc q

/-! ### wires -/
def BadW (st : Sto) (w c : AV) : Prop := ∀ (s : Sto) (n : Nat) (Q : AV → Sto → Prop), Ext st s → (∀ s', Ext s s' → Q (.bl false) s') → (callF tab (n + 3) g_are_wires [w, c] s).Is Q
def stepD (cs : List Int) (seen : List Door) (x : AV) : Option (List Door) := match doorM x with
  | some d => if isDoor cs d = true ∧ d ∉ seen then some (d :: seen) else none
  | none => none
def goodW (cs : List Int) : List AV → List Door → Bool
  | [], _ => true
  | .tup [x, y] :: r, seen => match stepD cs seen x with
    | some s1 => match stepD cs s1 y with
      | some s2 => goodW cs r s2
      | none => false
    | none => false
  | _ :: _, _ => false
theorem w1_any {n : Nat} {s : Sto} {N : Slots → Sto → Prop} {Tr : AV → Sto → Prop} {a sd : Nat} {cs : List Int} {seen : List Door} {x : AV} {kvs : Tbl} {v0 z3 : Option AV} (ha : s[a]? = some (.lst (cs.map AV.int))) (hs : s[sd]? = some (.dT kvs)) (hh : ∀ d, hasK (doorK d) kvs = decide (d ∈ seen)) (hx : Ty2 s x) (hl : kvs.length < lim)
    (q0 : stepD cs seen x = none → Tr (.bl false) s)
    (q1 : ∀ seen' kvs', stepD cs seen x = some seen' → (∀ d, hasK (doorK d) kvs' = decide (d ∈ seen')) → kvs'.length ≤ kvs.length + 1 → N [v0, some (.ref a), some (.ref sd), z3, some x] (s.set sd (.dT kvs'))) :
    (exS tab (callF tab (n + 2)) (lev tab (n + 2)).2 c_are_wires_1 [v0, some (.ref a), some (.ref sd), z3, some x] s).Is N Tr := by
  try simp (decide := true) only [↓i_var, ↓i_con, ↓i_kon, ↓i_bin, ↓i_neg, ↓i_not, ↓i_and, ↓i_or, ↓i_and0, ↓i_or0, ↓i_and1, ↓i_or1, ↓i_cmp, ↓i_chain, ↓i_lst, ↓i_tup, ↓i_dnew, ↓i_call, ↓i_mk, ↓i_bcall, ↓i_isi, ↓i_meth, ↓i_sel, ↓i_selL, ↓i_fld, ↓i_idx, ↓i_sl, ↓i_lrng, ↓i_lc, ↓i_nil, ↓i_cons, ↓i_o0, ↓i_o1, ↓i_opt, ↓i_seq, ↓i_rng1, ↓i_rng2, ↓i_enum, ↓i_zip, ↓i_wk, ↓i_tst, ↓ws_done, ↓ws_asg, ↓ws_asgT, ↓ws_ofE, ↓ws_of, ↓ws_asgF, ↓ws_asgI, ↓ws_aug, ↓ws_expr, ↓ws_ret, ↓ws_retN, ↓ws_ite, ↓ws_loop, ↓ws_whil, ↓boolIs_b, ↓intIs_i, ↓slot_0, ↓slot_1, ↓set_0, ↓set_1, ↓R.is_ok, ↓SR.is_rt, ↓SR.is_nx, ↓i_ofB, ↓wt_non, ↓wt_bl, ↓wt_int, ↓wt_str, ↓wt_tup, ↓wt_rol, ↓ib_add, ↓ib_sub, ↓ib_fdiv, ↓ib_mod, ↓ib_pow, ↓ib_band, ↓ib_shr, ↓ic_lt, ↓ic_le, ↓ic_gt, ↓ic_ge, ↓ic_is, ↓ic_isnot, ↓ic_eqI, ↓ic_neI, ↓ic_eqB, ↓ic_in1, ↓il_lenT, ↓tx_0, ↓tx_1, ↓tx_2, ↓ineg_i, ↓ws_try, ↓i_isx, ↓xx_done, ↓xx_rais, decide_true, decide_false, Bool.not_true, Bool.not_false, List.length_cons, List.length_nil, Int.reduceToNat, decide_eq_true_eq, Bool.not_eq_true', decide_eq_false_iff_not, Bool.true_eq_false, Bool.false_eq_true, if_true, if_false, reduceCtorEq, not_false_eq_true, not_true_eq_false, or_false, or_true, and_true, true_and, List.nil_append, List.cons_append, c_are_wires_1]
  refine doorOf_any ha hx ?_
  unfold stepD at q0 q1
  unfold doorOkM
  cases hd : doorM x with
  | none =>
    rw [hd] at q0
    try simp (decide := true) only [↓i_var, ↓i_con, ↓i_kon, ↓i_bin, ↓i_neg, ↓i_not, ↓i_and, ↓i_or, ↓i_and0, ↓i_or0, ↓i_and1, ↓i_or1, ↓i_cmp, ↓i_chain, ↓i_lst, ↓i_tup, ↓i_dnew, ↓i_call, ↓i_mk, ↓i_bcall, ↓i_isi, ↓i_meth, ↓i_sel, ↓i_selL, ↓i_fld, ↓i_idx, ↓i_sl, ↓i_lrng, ↓i_lc, ↓i_nil, ↓i_cons, ↓i_o0, ↓i_o1, ↓i_opt, ↓i_seq, ↓i_rng1, ↓i_rng2, ↓i_enum, ↓i_zip, ↓i_wk, ↓i_tst, ↓ws_done, ↓ws_asg, ↓ws_asgT, ↓ws_ofE, ↓ws_of, ↓ws_asgF, ↓ws_asgI, ↓ws_aug, ↓ws_expr, ↓ws_ret, ↓ws_retN, ↓ws_ite, ↓ws_loop, ↓ws_whil, ↓boolIs_b, ↓intIs_i, ↓slot_0, ↓slot_1, ↓set_0, ↓set_1, ↓R.is_ok, ↓SR.is_rt, ↓SR.is_nx, ↓i_ofB, ↓wt_non, ↓wt_bl, ↓wt_int, ↓wt_str, ↓wt_tup, ↓wt_rol, ↓ib_add, ↓ib_sub, ↓ib_fdiv, ↓ib_mod, ↓ib_pow, ↓ib_band, ↓ib_shr, ↓ic_lt, ↓ic_le, ↓ic_gt, ↓ic_ge, ↓ic_is, ↓ic_isnot, ↓ic_eqI, ↓ic_neI, ↓ic_eqB, ↓ic_in1, ↓il_lenT, ↓tx_0, ↓tx_1, ↓tx_2, ↓ineg_i, ↓ws_try, ↓i_isx, ↓xx_done, ↓xx_rais, decide_true, decide_false, Bool.not_true, Bool.not_false, List.length_cons, List.length_nil, Int.reduceToNat, decide_eq_true_eq, Bool.not_eq_true', decide_eq_false_iff_not, Bool.true_eq_false, Bool.false_eq_true, if_true, if_false, reduceCtorEq, not_false_eq_true, not_true_eq_false, or_false, or_true, and_true, true_and, List.nil_append, List.cons_append]
    exact q0 rfl
  | some d =>
    have e := doorM_some hd
    subst e
    rw [hd] at q0 q1
    dsimp only at q0 q1 ⊢
    cases hi : isDoor cs d with
    | false =>
      try simp (decide := true) only [↓i_var, ↓i_con, ↓i_kon, ↓i_bin, ↓i_neg, ↓i_not, ↓i_and, ↓i_or, ↓i_and0, ↓i_or0, ↓i_and1, ↓i_or1, ↓i_cmp, ↓i_chain, ↓i_lst, ↓i_tup, ↓i_dnew, ↓i_call, ↓i_mk, ↓i_bcall, ↓i_isi, ↓i_meth, ↓i_sel, ↓i_selL, ↓i_fld, ↓i_idx, ↓i_sl, ↓i_lrng, ↓i_lc, ↓i_nil, ↓i_cons, ↓i_o0, ↓i_o1, ↓i_opt, ↓i_seq, ↓i_rng1, ↓i_rng2, ↓i_enum, ↓i_zip, ↓i_wk, ↓i_tst, ↓ws_done, ↓ws_asg, ↓ws_asgT, ↓ws_ofE, ↓ws_of, ↓ws_asgF, ↓ws_asgI, ↓ws_aug, ↓ws_expr, ↓ws_ret, ↓ws_retN, ↓ws_ite, ↓ws_loop, ↓ws_whil, ↓boolIs_b, ↓intIs_i, ↓slot_0, ↓slot_1, ↓set_0, ↓set_1, ↓R.is_ok, ↓SR.is_rt, ↓SR.is_nx, ↓i_ofB, ↓wt_non, ↓wt_bl, ↓wt_int, ↓wt_str, ↓wt_tup, ↓wt_rol, ↓ib_add, ↓ib_sub, ↓ib_fdiv, ↓ib_mod, ↓ib_pow, ↓ib_band, ↓ib_shr, ↓ic_lt, ↓ic_le, ↓ic_gt, ↓ic_ge, ↓ic_is, ↓ic_isnot, ↓ic_eqI, ↓ic_neI, ↓ic_eqB, ↓ic_in1, ↓il_lenT, ↓tx_0, ↓tx_1, ↓tx_2, ↓ineg_i, ↓ws_try, ↓i_isx, ↓xx_done, ↓xx_rais, decide_true, decide_false, Bool.not_true, Bool.not_false, List.length_cons, List.length_nil, Int.reduceToNat, decide_eq_true_eq, Bool.not_eq_true', decide_eq_false_iff_not, Bool.true_eq_false, Bool.false_eq_true, if_true, if_false, reduceCtorEq, not_false_eq_true, not_true_eq_false, or_false, or_true, and_true, true_and, List.nil_append, List.cons_append]
      exact q0 (by rw [if_neg]; intro z; rw [hi] at z; exact Bool.false_ne_true z.1)
    | true =>
      have e := inA_dT (d := d) hs
      rw [hh] at e
      by_cases hm : d ∈ seen
      · rw [decide_eq_true hm] at e
        try simp (decide := true) only [↓i_var, ↓i_con, ↓i_kon, ↓i_bin, ↓i_neg, ↓i_not, ↓i_and, ↓i_or, ↓i_and0, ↓i_or0, ↓i_and1, ↓i_or1, ↓i_cmp, ↓i_chain, ↓i_lst, ↓i_tup, ↓i_dnew, ↓i_call, ↓i_mk, ↓i_bcall, ↓i_isi, ↓i_meth, ↓i_sel, ↓i_selL, ↓i_fld, ↓i_idx, ↓i_sl, ↓i_lrng, ↓i_lc, ↓i_nil, ↓i_cons, ↓i_o0, ↓i_o1, ↓i_opt, ↓i_seq, ↓i_rng1, ↓i_rng2, ↓i_enum, ↓i_zip, ↓i_wk, ↓i_tst, ↓ws_done, ↓ws_asg, ↓ws_asgT, ↓ws_ofE, ↓ws_of, ↓ws_asgF, ↓ws_asgI, ↓ws_aug, ↓ws_expr, ↓ws_ret, ↓ws_retN, ↓ws_ite, ↓ws_loop, ↓ws_whil, ↓boolIs_b, ↓intIs_i, ↓slot_0, ↓slot_1, ↓set_0, ↓set_1, ↓R.is_ok, ↓SR.is_rt, ↓SR.is_nx, ↓i_ofB, ↓wt_non, ↓wt_bl, ↓wt_int, ↓wt_str, ↓wt_tup, ↓wt_rol, ↓ib_add, ↓ib_sub, ↓ib_fdiv, ↓ib_mod, ↓ib_pow, ↓ib_band, ↓ib_shr, ↓ic_lt, ↓ic_le, ↓ic_gt, ↓ic_ge, ↓ic_is, ↓ic_isnot, ↓ic_eqI, ↓ic_neI, ↓ic_eqB, ↓ic_in1, ↓il_lenT, ↓tx_0, ↓tx_1, ↓tx_2, ↓ineg_i, ↓ws_try, ↓i_isx, ↓xx_done, ↓xx_rais, decide_true, decide_false, Bool.not_true, Bool.not_false, List.length_cons, List.length_nil, Int.reduceToNat, decide_eq_true_eq, Bool.not_eq_true', decide_eq_false_iff_not, Bool.true_eq_false, Bool.false_eq_true, if_true, if_false, reduceCtorEq, not_false_eq_true, not_true_eq_false, or_false, or_true, and_true, true_and, List.nil_append, List.cons_append, ↓ic_in e]
        exact q0 (by rw [if_neg]; exact fun z => z.2 hm)
      · rw [decide_eq_false hm] at e
        try simp (decide := true) only [↓i_var, ↓i_con, ↓i_kon, ↓i_bin, ↓i_neg, ↓i_not, ↓i_and, ↓i_or, ↓i_and0, ↓i_or0, ↓i_and1, ↓i_or1, ↓i_cmp, ↓i_chain, ↓i_lst, ↓i_tup, ↓i_dnew, ↓i_call, ↓i_mk, ↓i_bcall, ↓i_isi, ↓i_meth, ↓i_sel, ↓i_selL, ↓i_fld, ↓i_idx, ↓i_sl, ↓i_lrng, ↓i_lc, ↓i_nil, ↓i_cons, ↓i_o0, ↓i_o1, ↓i_opt, ↓i_seq, ↓i_rng1, ↓i_rng2, ↓i_enum, ↓i_zip, ↓i_wk, ↓i_tst, ↓ws_done, ↓ws_asg, ↓ws_asgT, ↓ws_ofE, ↓ws_of, ↓ws_asgF, ↓ws_asgI, ↓ws_aug, ↓ws_expr, ↓ws_ret, ↓ws_retN, ↓ws_ite, ↓ws_loop, ↓ws_whil, ↓boolIs_b, ↓intIs_i, ↓slot_0, ↓slot_1, ↓set_0, ↓set_1, ↓R.is_ok, ↓SR.is_rt, ↓SR.is_nx, ↓i_ofB, ↓wt_non, ↓wt_bl, ↓wt_int, ↓wt_str, ↓wt_tup, ↓wt_rol, ↓ib_add, ↓ib_sub, ↓ib_fdiv, ↓ib_mod, ↓ib_pow, ↓ib_band, ↓ib_shr, ↓ic_lt, ↓ic_le, ↓ic_gt, ↓ic_ge, ↓ic_is, ↓ic_isnot, ↓ic_eqI, ↓ic_neI, ↓ic_eqB, ↓ic_in1, ↓il_lenT, ↓tx_0, ↓tx_1, ↓tx_2, ↓ineg_i, ↓ws_try, ↓i_isx, ↓xx_done, ↓xx_rais, decide_true, decide_false, Bool.not_true, Bool.not_false, List.length_cons, List.length_nil, Int.reduceToNat, decide_eq_true_eq, Bool.not_eq_true', decide_eq_false_iff_not, Bool.true_eq_false, Bool.false_eq_true, if_true, if_false, reduceCtorEq, not_false_eq_true, not_true_eq_false, or_false, or_true, and_true, true_and, List.nil_append, List.cons_append, ↓ic_in e]
        rw [ws_setD hs hl]
        refine q1 (d :: seen) (putK (doorK d) (.bl true) kvs) (if_pos ⟨hi, hm⟩) (fun d' => ?_) (put_len _ _ _)
        rw [has_put, hh, Bool.eq_iff_iff]
        simp [doorK_inj]
theorem loop_no {n : Nat} {st : Sto} {N : Slots → Sto → Prop} {a b sd : Nat} {cs : List Int} {all : List AV} {Q : AV → Sto → Prop} (ha : st[a]? = some (.lst (cs.map AV.int))) (hb : st[b]? = some (.lst all)) (hsd : st.length ≤ sd) (hQ : ∀ s, Ext st s → Q (.bl false) s) : ∀ (xs : List AV) (seen : List Door) (z3 z4 : Option AV) (kvs : Tbl) (s : Sto),
    Ext st s → s[sd]? = some (.dT kvs) → (∀ d, hasK (doorK d) kvs = decide (d ∈ seen)) → kvs.length + 2 * xs.length < lim → (∀ x ∈ xs, Ty3 st x) → goodW cs xs seen = false →
    (forL (.nm 3) (Wk.ck { xs := all, at1 := some (b, AO.lst all) }) (fun e st => exS tab (callF tab (n + 2)) (lev tab (n + 2)).2 c_are_wires_2 e st) xs [some (.ref b), some (.ref a), some (.ref sd), z3, z4] s).Is N Q
  | [], seen, z3, z4, kvs, s, _, _, _, _, _, hg => by cases hg
  | w :: r, seen, z3, z4, kvs, s, hE, hs, hh, hl, hx, hg => by
    refine for_cons (ck_lst (hE _ _ hb)) rfl ?_
    have hw := (hx w (by simp)).ext hE
    simp only [bindT, bindT.go, wipeA, List.set_cons_zero, List.set_cons_succ]
    try simp (decide := true) only [↓i_var, ↓i_con, ↓i_kon, ↓i_bin, ↓i_neg, ↓i_not, ↓i_and, ↓i_or, ↓i_and0, ↓i_or0, ↓i_and1, ↓i_or1, ↓i_cmp, ↓i_chain, ↓i_lst, ↓i_tup, ↓i_dnew, ↓i_call, ↓i_mk, ↓i_bcall, ↓i_isi, ↓i_meth, ↓i_sel, ↓i_selL, ↓i_fld, ↓i_idx, ↓i_sl, ↓i_lrng, ↓i_lc, ↓i_nil, ↓i_cons, ↓i_o0, ↓i_o1, ↓i_opt, ↓i_seq, ↓i_rng1, ↓i_rng2, ↓i_enum, ↓i_zip, ↓i_wk, ↓i_tst, ↓ws_done, ↓ws_asg, ↓ws_asgT, ↓ws_ofE, ↓ws_of, ↓ws_asgF, ↓ws_asgI, ↓ws_aug, ↓ws_expr, ↓ws_ret, ↓ws_retN, ↓ws_ite, ↓ws_loop, ↓ws_whil, ↓boolIs_b, ↓intIs_i, ↓slot_0, ↓slot_1, ↓set_0, ↓set_1, ↓R.is_ok, ↓SR.is_rt, ↓SR.is_nx, ↓i_ofB, ↓wt_non, ↓wt_bl, ↓wt_int, ↓wt_str, ↓wt_tup, ↓wt_rol, ↓ib_add, ↓ib_sub, ↓ib_fdiv, ↓ib_mod, ↓ib_pow, ↓ib_band, ↓ib_shr, ↓ic_lt, ↓ic_le, ↓ic_gt, ↓ic_ge, ↓ic_is, ↓ic_isnot, ↓ic_eqI, ↓ic_neI, ↓ic_eqB, ↓ic_in1, ↓il_lenT, ↓tx_0, ↓tx_1, ↓tx_2, ↓ineg_i, ↓ws_try, ↓i_isx, ↓xx_done, ↓xx_rais, decide_true, decide_false, Bool.not_true, Bool.not_false, List.length_cons, List.length_nil, Int.reduceToNat, decide_eq_true_eq, Bool.not_eq_true', decide_eq_false_iff_not, Bool.true_eq_false, Bool.false_eq_true, if_true, if_false, reduceCtorEq, not_false_eq_true, not_true_eq_false, or_false, or_true, and_true, true_and, List.nil_append, List.cons_append, c_are_wires_2]
    rw [isi_any hw.1 (by intro c z; cases z)]
    by_cases ht : ∃ ys, w = .tup ys
    · obtain ⟨ys, rfl⟩ := ht
      try simp (decide := true) only [↓i_var, ↓i_con, ↓i_kon, ↓i_bin, ↓i_neg, ↓i_not, ↓i_and, ↓i_or, ↓i_and0, ↓i_or0, ↓i_and1, ↓i_or1, ↓i_cmp, ↓i_chain, ↓i_lst, ↓i_tup, ↓i_dnew, ↓i_call, ↓i_mk, ↓i_bcall, ↓i_isi, ↓i_meth, ↓i_sel, ↓i_selL, ↓i_fld, ↓i_idx, ↓i_sl, ↓i_lrng, ↓i_lc, ↓i_nil, ↓i_cons, ↓i_o0, ↓i_o1, ↓i_opt, ↓i_seq, ↓i_rng1, ↓i_rng2, ↓i_enum, ↓i_zip, ↓i_wk, ↓i_tst, ↓ws_done, ↓ws_asg, ↓ws_asgT, ↓ws_ofE, ↓ws_of, ↓ws_asgF, ↓ws_asgI, ↓ws_aug, ↓ws_expr, ↓ws_ret, ↓ws_retN, ↓ws_ite, ↓ws_loop, ↓ws_whil, ↓boolIs_b, ↓intIs_i, ↓slot_0, ↓slot_1, ↓set_0, ↓set_1, ↓R.is_ok, ↓SR.is_rt, ↓SR.is_nx, ↓i_ofB, ↓wt_non, ↓wt_bl, ↓wt_int, ↓wt_str, ↓wt_tup, ↓wt_rol, ↓ib_add, ↓ib_sub, ↓ib_fdiv, ↓ib_mod, ↓ib_pow, ↓ib_band, ↓ib_shr, ↓ic_lt, ↓ic_le, ↓ic_gt, ↓ic_ge, ↓ic_is, ↓ic_isnot, ↓ic_eqI, ↓ic_neI, ↓ic_eqB, ↓ic_in1, ↓il_lenT, ↓tx_0, ↓tx_1, ↓tx_2, ↓ineg_i, ↓ws_try, ↓i_isx, ↓xx_done, ↓xx_rais, decide_true, decide_false, Bool.not_true, Bool.not_false, List.length_cons, List.length_nil, Int.reduceToNat, decide_eq_true_eq, Bool.not_eq_true', decide_eq_false_iff_not, Bool.true_eq_false, Bool.false_eq_true, if_true, if_false, reduceCtorEq, not_false_eq_true, not_true_eq_false, or_false, or_true, and_true, true_and, List.nil_append, List.cons_append, kndOf]
      by_cases h2 : ys.length = 2
      · match ys, h2 with
        | [x, y], _ =>
          have hx1 := hw.2 _ rfl x (by simp)
          have hy1 := hw.2 _ rfl y (by simp)
          have hls := get_lt hs
          rw [List.length_cons] at hl
          try simp (decide := true) only [↓i_var, ↓i_con, ↓i_kon, ↓i_bin, ↓i_neg, ↓i_not, ↓i_and, ↓i_or, ↓i_and0, ↓i_or0, ↓i_and1, ↓i_or1, ↓i_cmp, ↓i_chain, ↓i_lst, ↓i_tup, ↓i_dnew, ↓i_call, ↓i_mk, ↓i_bcall, ↓i_isi, ↓i_meth, ↓i_sel, ↓i_selL, ↓i_fld, ↓i_idx, ↓i_sl, ↓i_lrng, ↓i_lc, ↓i_nil, ↓i_cons, ↓i_o0, ↓i_o1, ↓i_opt, ↓i_seq, ↓i_rng1, ↓i_rng2, ↓i_enum, ↓i_zip, ↓i_wk, ↓i_tst, ↓ws_done, ↓ws_asg, ↓ws_asgT, ↓ws_ofE, ↓ws_of, ↓ws_asgF, ↓ws_asgI, ↓ws_aug, ↓ws_expr, ↓ws_ret, ↓ws_retN, ↓ws_ite, ↓ws_loop, ↓ws_whil, ↓boolIs_b, ↓intIs_i, ↓slot_0, ↓slot_1, ↓set_0, ↓set_1, ↓R.is_ok, ↓SR.is_rt, ↓SR.is_nx, ↓i_ofB, ↓wt_non, ↓wt_bl, ↓wt_int, ↓wt_str, ↓wt_tup, ↓wt_rol, ↓ib_add, ↓ib_sub, ↓ib_fdiv, ↓ib_mod, ↓ib_pow, ↓ib_band, ↓ib_shr, ↓ic_lt, ↓ic_le, ↓ic_gt, ↓ic_ge, ↓ic_is, ↓ic_isnot, ↓ic_eqI, ↓ic_neI, ↓ic_eqB, ↓ic_in1, ↓il_lenT, ↓tx_0, ↓tx_1, ↓tx_2, ↓ineg_i, ↓ws_try, ↓i_isx, ↓xx_done, ↓xx_rais, decide_true, decide_false, Bool.not_true, Bool.not_false, List.length_cons, List.length_nil, Int.reduceToNat, decide_eq_true_eq, Bool.not_eq_true', decide_eq_false_iff_not, Bool.true_eq_false, Bool.false_eq_true, if_true, if_false, reduceCtorEq, not_false_eq_true, not_true_eq_false, or_false, or_true, and_true, true_and, List.nil_append, List.cons_append]
          rw [iw_tup]
          refine for_cons rfl rfl ?_
          simp only [bindT, bindT.go, wipeA, List.set_cons_zero, List.set_cons_succ]
          refine w1_any (hE _ _ ha) hs hh hx1 (by omega) (fun _ => hQ _ hE) fun seen1 kvs1 e1 hh1 hl1 => ?_
          have hs1 := get_set (o := AO.dT kvs1) hs
          have hE1 : Ext st (s.set sd (.dT kvs1)) := Ext.set hE hsd
          have hy2 : Ty2 (s.set sd (.dT kvs1)) y := ((hx (.tup [x, y]) (by simp)).ext hE1).2 _ rfl y (by simp)
          generalize s.set sd (.dT kvs1) = s1 at hs1 hE1 hy2 ⊢
          refine for_cons rfl rfl ?_
          simp only [bindT, bindT.go, wipeA, List.set_cons_zero, List.set_cons_succ]
          refine w1_any (hE1 _ _ ha) hs1 hh1 hy2 (by omega) (fun _ => hQ _ hE1) fun seen2 kvs2 e2 hh2 hl2 => ?_
          have hs2 := get_set (o := AO.dT kvs2) hs1
          have hE2 : Ext st (s1.set sd (.dT kvs2)) := Ext.set hE1 hsd
          generalize s1.set sd (.dT kvs2) = s2 at hs2 hE2 ⊢
          refine for_nil rfl ?_
          try simp (decide := true) only [↓i_var, ↓i_con, ↓i_kon, ↓i_bin, ↓i_neg, ↓i_not, ↓i_and, ↓i_or, ↓i_and0, ↓i_or0, ↓i_and1, ↓i_or1, ↓i_cmp, ↓i_chain, ↓i_lst, ↓i_tup, ↓i_dnew, ↓i_call, ↓i_mk, ↓i_bcall, ↓i_isi, ↓i_meth, ↓i_sel, ↓i_selL, ↓i_fld, ↓i_idx, ↓i_sl, ↓i_lrng, ↓i_lc, ↓i_nil, ↓i_cons, ↓i_o0, ↓i_o1, ↓i_opt, ↓i_seq, ↓i_rng1, ↓i_rng2, ↓i_enum, ↓i_zip, ↓i_wk, ↓i_tst, ↓ws_done, ↓ws_asg, ↓ws_asgT, ↓ws_ofE, ↓ws_of, ↓ws_asgF, ↓ws_asgI, ↓ws_aug, ↓ws_expr, ↓ws_ret, ↓ws_retN, ↓ws_ite, ↓ws_loop, ↓ws_whil, ↓boolIs_b, ↓intIs_i, ↓slot_0, ↓slot_1, ↓set_0, ↓set_1, ↓R.is_ok, ↓SR.is_rt, ↓SR.is_nx, ↓i_ofB, ↓wt_non, ↓wt_bl, ↓wt_int, ↓wt_str, ↓wt_tup, ↓wt_rol, ↓ib_add, ↓ib_sub, ↓ib_fdiv, ↓ib_mod, ↓ib_pow, ↓ib_band, ↓ib_shr, ↓ic_lt, ↓ic_le, ↓ic_gt, ↓ic_ge, ↓ic_is, ↓ic_isnot, ↓ic_eqI, ↓ic_neI, ↓ic_eqB, ↓ic_in1, ↓il_lenT, ↓tx_0, ↓tx_1, ↓tx_2, ↓ineg_i, ↓ws_try, ↓i_isx, ↓xx_done, ↓xx_rais, decide_true, decide_false, Bool.not_true, Bool.not_false, List.length_cons, List.length_nil, Int.reduceToNat, decide_eq_true_eq, Bool.not_eq_true', decide_eq_false_iff_not, Bool.true_eq_false, Bool.false_eq_true, if_true, if_false, reduceCtorEq, not_false_eq_true, not_true_eq_false, or_false, or_true, and_true, true_and, List.nil_append, List.cons_append]
          refine loop_no ha hb hsd hQ r seen2 _ _ kvs2 s2 hE2 hs2 hh2 (by omega) (fun x' h' => hx x' (by simp [h'])) ?_
          have : goodW cs (.tup [x, y] :: r) seen = goodW cs r seen2 := by
            rw [goodW, e1]
            dsimp only
            rw [e2]
          rw [← this]
          exact hg
      · have h2' : ¬ ((ys.length : Nat) : Int) = 2 := by omega
        try simp (decide := true) only [↓i_var, ↓i_con, ↓i_kon, ↓i_bin, ↓i_neg, ↓i_not, ↓i_and, ↓i_or, ↓i_and0, ↓i_or0, ↓i_and1, ↓i_or1, ↓i_cmp, ↓i_chain, ↓i_lst, ↓i_tup, ↓i_dnew, ↓i_call, ↓i_mk, ↓i_bcall, ↓i_isi, ↓i_meth, ↓i_sel, ↓i_selL, ↓i_fld, ↓i_idx, ↓i_sl, ↓i_lrng, ↓i_lc, ↓i_nil, ↓i_cons, ↓i_o0, ↓i_o1, ↓i_opt, ↓i_seq, ↓i_rng1, ↓i_rng2, ↓i_enum, ↓i_zip, ↓i_wk, ↓i_tst, ↓ws_done, ↓ws_asg, ↓ws_asgT, ↓ws_ofE, ↓ws_of, ↓ws_asgF, ↓ws_asgI, ↓ws_aug, ↓ws_expr, ↓ws_ret, ↓ws_retN, ↓ws_ite, ↓ws_loop, ↓ws_whil, ↓boolIs_b, ↓intIs_i, ↓slot_0, ↓slot_1, ↓set_0, ↓set_1, ↓R.is_ok, ↓SR.is_rt, ↓SR.is_nx, ↓i_ofB, ↓wt_non, ↓wt_bl, ↓wt_int, ↓wt_str, ↓wt_tup, ↓wt_rol, ↓ib_add, ↓ib_sub, ↓ib_fdiv, ↓ib_mod, ↓ib_pow, ↓ib_band, ↓ib_shr, ↓ic_lt, ↓ic_le, ↓ic_gt, ↓ic_ge, ↓ic_is, ↓ic_isnot, ↓ic_eqI, ↓ic_neI, ↓ic_eqB, ↓ic_in1, ↓il_lenT, ↓tx_0, ↓tx_1, ↓tx_2, ↓ineg_i, ↓ws_try, ↓i_isx, ↓xx_done, ↓xx_rais, decide_true, decide_false, Bool.not_true, Bool.not_false, List.length_cons, List.length_nil, Int.reduceToNat, decide_eq_true_eq, Bool.not_eq_true', decide_eq_false_iff_not, Bool.true_eq_false, Bool.false_eq_true, if_true, if_false, reduceCtorEq, not_false_eq_true, not_true_eq_false, or_false, or_true, and_true, true_and, List.nil_append, List.cons_append, h2']
        exact hQ _ hE
    · have hk : ¬ Ty.tuple = kndOf s w := by
        cases w with
        | tup ys => exact absurd ⟨ys, rfl⟩ ht
        | ref m =>
          rcases hw.1 with ⟨xs, h⟩ | ⟨xs, h⟩
          · simp [kndOf, h]
          · simp [kndOf, h]
        | rol _ => exact hw.1.elim
        | _ => simp [kndOf]
      try simp (decide := true) only [↓i_var, ↓i_con, ↓i_kon, ↓i_bin, ↓i_neg, ↓i_not, ↓i_and, ↓i_or, ↓i_and0, ↓i_or0, ↓i_and1, ↓i_or1, ↓i_cmp, ↓i_chain, ↓i_lst, ↓i_tup, ↓i_dnew, ↓i_call, ↓i_mk, ↓i_bcall, ↓i_isi, ↓i_meth, ↓i_sel, ↓i_selL, ↓i_fld, ↓i_idx, ↓i_sl, ↓i_lrng, ↓i_lc, ↓i_nil, ↓i_cons, ↓i_o0, ↓i_o1, ↓i_opt, ↓i_seq, ↓i_rng1, ↓i_rng2, ↓i_enum, ↓i_zip, ↓i_wk, ↓i_tst, ↓ws_done, ↓ws_asg, ↓ws_asgT, ↓ws_ofE, ↓ws_of, ↓ws_asgF, ↓ws_asgI, ↓ws_aug, ↓ws_expr, ↓ws_ret, ↓ws_retN, ↓ws_ite, ↓ws_loop, ↓ws_whil, ↓boolIs_b, ↓intIs_i, ↓slot_0, ↓slot_1, ↓set_0, ↓set_1, ↓R.is_ok, ↓SR.is_rt, ↓SR.is_nx, ↓i_ofB, ↓wt_non, ↓wt_bl, ↓wt_int, ↓wt_str, ↓wt_tup, ↓wt_rol, ↓ib_add, ↓ib_sub, ↓ib_fdiv, ↓ib_mod, ↓ib_pow, ↓ib_band, ↓ib_shr, ↓ic_lt, ↓ic_le, ↓ic_gt, ↓ic_ge, ↓ic_is, ↓ic_isnot, ↓ic_eqI, ↓ic_neI, ↓ic_eqB, ↓ic_in1, ↓il_lenT, ↓tx_0, ↓tx_1, ↓tx_2, ↓ineg_i, ↓ws_try, ↓i_isx, ↓xx_done, ↓xx_rais, decide_true, decide_false, Bool.not_true, Bool.not_false, List.length_cons, List.length_nil, Int.reduceToNat, decide_eq_true_eq, Bool.not_eq_true', decide_eq_false_iff_not, Bool.true_eq_false, Bool.false_eq_true, if_true, if_false, reduceCtorEq, not_false_eq_true, not_true_eq_false, or_false, or_true, and_true, true_and, List.nil_append, List.cons_append, hk]
      exact hQ _ hE
theorem bad_w_list {st : Sto} {a b : Nat} {cs : List Int} {xs : List AV} (ha : st[a]? = some (.lst (cs.map AV.int))) (hb : st[b]? = some (.lst xs)) (hx : ∀ x ∈ xs, Ty3 st x) (hl : xs.length ≤ 1000) (hg : goodW cs xs [] = false) : BadW st (.ref b) (.ref a) := fun s n Q E q => by
  have hb' := E _ _ hb
  refine call_is rfl rfl ?_; simp only [List.map_cons, List.map_nil, List.cons_append, List.nil_append, List.replicate_succ, List.replicate_zero, Nat.reduceSub]
  try simp (decide := true) only [↓i_var, ↓i_con, ↓i_kon, ↓i_bin, ↓i_neg, ↓i_not, ↓i_and, ↓i_or, ↓i_and0, ↓i_or0, ↓i_and1, ↓i_or1, ↓i_cmp, ↓i_chain, ↓i_lst, ↓i_tup, ↓i_dnew, ↓i_call, ↓i_mk, ↓i_bcall, ↓i_isi, ↓i_meth, ↓i_sel, ↓i_selL, ↓i_fld, ↓i_idx, ↓i_sl, ↓i_lrng, ↓i_lc, ↓i_nil, ↓i_cons, ↓i_o0, ↓i_o1, ↓i_opt, ↓i_seq, ↓i_rng1, ↓i_rng2, ↓i_enum, ↓i_zip, ↓i_wk, ↓i_tst, ↓ws_done, ↓ws_asg, ↓ws_asgT, ↓ws_ofE, ↓ws_of, ↓ws_asgF, ↓ws_asgI, ↓ws_aug, ↓ws_expr, ↓ws_ret, ↓ws_retN, ↓ws_ite, ↓ws_loop, ↓ws_whil, ↓boolIs_b, ↓intIs_i, ↓slot_0, ↓slot_1, ↓set_0, ↓set_1, ↓R.is_ok, ↓SR.is_rt, ↓SR.is_nx, ↓i_ofB, ↓wt_non, ↓wt_bl, ↓wt_int, ↓wt_str, ↓wt_tup, ↓wt_rol, ↓ib_add, ↓ib_sub, ↓ib_fdiv, ↓ib_mod, ↓ib_pow, ↓ib_band, ↓ib_shr, ↓ic_lt, ↓ic_le, ↓ic_gt, ↓ic_ge, ↓ic_is, ↓ic_isnot, ↓ic_eqI, ↓ic_neI, ↓ic_eqB, ↓ic_in1, ↓il_lenT, ↓tx_0, ↓tx_1, ↓tx_2, ↓ineg_i, ↓ws_try, ↓i_isx, ↓xx_done, ↓xx_rais, decide_true, decide_false, Bool.not_true, Bool.not_false, List.length_cons, List.length_nil, Int.reduceToNat, decide_eq_true_eq, Bool.not_eq_true', decide_eq_false_iff_not, Bool.true_eq_false, Bool.false_eq_true, if_true, if_false, reduceCtorEq, not_false_eq_true, not_true_eq_false, or_false, or_true, and_true, true_and, List.nil_append, List.cons_append, c_are_wires, ↓wt_lst hb']
  have g0 := get_push s (AO.dT [])
  have x0 := Ext.push s (AO.dT [])
  generalize s ++ [AO.dT []] = s0 at g0 x0 ⊢
  rw [iw_lst (x0 _ _ hb')]
  exact loop_no (E _ _ ha) hb' (Nat.le_refl _) q xs [] _ _ [] s0 x0 g0 (fun d => by simp [hasK]) (by simp; unfold lim; omega) (fun x h => (hx x h).ext E) hg
theorem bad_w_non {st : Sto} {v c : AV} (h : Ty1 st v) (hk : kndOf st v ≠ .list) : BadW st v c := fun s n Q E q => by
  have hk' := knd_ext h E hk
  refine call_is rfl rfl ?_; simp only [List.map_cons, List.map_nil, List.cons_append, List.nil_append, List.replicate_succ, List.replicate_zero, Nat.reduceSub]
  try simp (decide := true) only [↓i_var, ↓i_con, ↓i_kon, ↓i_bin, ↓i_neg, ↓i_not, ↓i_and, ↓i_or, ↓i_and0, ↓i_or0, ↓i_and1, ↓i_or1, ↓i_cmp, ↓i_chain, ↓i_lst, ↓i_tup, ↓i_dnew, ↓i_call, ↓i_mk, ↓i_bcall, ↓i_isi, ↓i_meth, ↓i_sel, ↓i_selL, ↓i_fld, ↓i_idx, ↓i_sl, ↓i_lrng, ↓i_lc, ↓i_nil, ↓i_cons, ↓i_o0, ↓i_o1, ↓i_opt, ↓i_seq, ↓i_rng1, ↓i_rng2, ↓i_enum, ↓i_zip, ↓i_wk, ↓i_tst, ↓ws_done, ↓ws_asg, ↓ws_asgT, ↓ws_ofE, ↓ws_of, ↓ws_asgF, ↓ws_asgI, ↓ws_aug, ↓ws_expr, ↓ws_ret, ↓ws_retN, ↓ws_ite, ↓ws_loop, ↓ws_whil, ↓boolIs_b, ↓intIs_i, ↓slot_0, ↓slot_1, ↓set_0, ↓set_1, ↓R.is_ok, ↓SR.is_rt, ↓SR.is_nx, ↓i_ofB, ↓wt_non, ↓wt_bl, ↓wt_int, ↓wt_str, ↓wt_tup, ↓wt_rol, ↓ib_add, ↓ib_sub, ↓ib_fdiv, ↓ib_mod, ↓ib_pow, ↓ib_band, ↓ib_shr, ↓ic_lt, ↓ic_le, ↓ic_gt, ↓ic_ge, ↓ic_is, ↓ic_isnot, ↓ic_eqI, ↓ic_neI, ↓ic_eqB, ↓ic_in1, ↓il_lenT, ↓tx_0, ↓tx_1, ↓tx_2, ↓ineg_i, ↓ws_try, ↓i_isx, ↓xx_done, ↓xx_rais, decide_true, decide_false, Bool.not_true, Bool.not_false, List.length_cons, List.length_nil, Int.reduceToNat, decide_eq_true_eq, Bool.not_eq_true', decide_eq_false_iff_not, Bool.true_eq_false, Bool.false_eq_true, if_true, if_false, reduceCtorEq, not_false_eq_true, not_true_eq_false, or_false, or_true, and_true, true_and, List.nil_append, List.cons_append, c_are_wires]
  rw [isi_any (h.ext E) (by intro c z; cases z)]
  try simp (decide := true) only [↓i_var, ↓i_con, ↓i_kon, ↓i_bin, ↓i_neg, ↓i_not, ↓i_and, ↓i_or, ↓i_and0, ↓i_or0, ↓i_and1, ↓i_or1, ↓i_cmp, ↓i_chain, ↓i_lst, ↓i_tup, ↓i_dnew, ↓i_call, ↓i_mk, ↓i_bcall, ↓i_isi, ↓i_meth, ↓i_sel, ↓i_selL, ↓i_fld, ↓i_idx, ↓i_sl, ↓i_lrng, ↓i_lc, ↓i_nil, ↓i_cons, ↓i_o0, ↓i_o1, ↓i_opt, ↓i_seq, ↓i_rng1, ↓i_rng2, ↓i_enum, ↓i_zip, ↓i_wk, ↓i_tst, ↓ws_done, ↓ws_asg, ↓ws_asgT, ↓ws_ofE, ↓ws_of, ↓ws_asgF, ↓ws_asgI, ↓ws_aug, ↓ws_expr, ↓ws_ret, ↓ws_retN, ↓ws_ite, ↓ws_loop, ↓ws_whil, ↓boolIs_b, ↓intIs_i, ↓slot_0, ↓slot_1, ↓set_0, ↓set_1, ↓R.is_ok, ↓SR.is_rt, ↓SR.is_nx, ↓i_ofB, ↓wt_non, ↓wt_bl, ↓wt_int, ↓wt_str, ↓wt_tup, ↓wt_rol, ↓ib_add, ↓ib_sub, ↓ib_fdiv, ↓ib_mod, ↓ib_pow, ↓ib_band, ↓ib_shr, ↓ic_lt, ↓ic_le, ↓ic_gt, ↓ic_ge, ↓ic_is, ↓ic_isnot, ↓ic_eqI, ↓ic_neI, ↓ic_eqB, ↓ic_in1, ↓il_lenT, ↓tx_0, ↓tx_1, ↓tx_2, ↓ineg_i, ↓ws_try, ↓i_isx, ↓xx_done, ↓xx_rais, decide_true, decide_false, Bool.not_true, Bool.not_false, List.length_cons, List.length_nil, Int.reduceToNat, decide_eq_true_eq, Bool.not_eq_true', decide_eq_false_iff_not, Bool.true_eq_false, Bool.false_eq_true, if_true, if_false, reduceCtorEq, not_false_eq_true, not_true_eq_false, or_false, or_true, and_true, true_and, List.nil_append, List.cons_append, Ne.symm hk', hk']
  exact q s (Ext.refl _)

/-! ### refused -/
def BadNet (st : Sto) (vc vw : AV) : Prop := BadC st vc ∨ (GoodC st vc ∧ BadW st vw vc)
theorem mk_no {n : Nat} {st : Sto} {vc vw : AV} {Q : AV → Sto → Prop} {Z : Nat → Sto → Prop} (h : BadNet st vc vw) (q : ∀ s, Ext st s → Z 1 s) : (mkA tab (callF tab (n + 4)) 10 [vc, vw] st).IsX Q Z := by
  refine mk_x (show tab.ini 10 = some g_Net___init from rfl) ?_
  have x0 := Ext.push st (AO.ins 10 [])
  generalize st ++ [AO.ins 10 []] = s0 at x0 ⊢
  refine call_x rfl rfl ?_
  simp only [List.map_cons, List.map_nil, List.cons_append, List.nil_append, List.replicate_succ, List.replicate_zero, Nat.reduceSub]
  unfold c_Net___init
  refine xs_ite ?_
  try simp (decide := true) only [↓i_var, ↓i_con, ↓i_kon, ↓i_bin, ↓i_neg, ↓i_not, ↓i_and, ↓i_or, ↓i_and0, ↓i_or0, ↓i_and1, ↓i_or1, ↓i_cmp, ↓i_chain, ↓i_lst, ↓i_tup, ↓i_dnew, ↓i_call, ↓i_mk, ↓i_bcall, ↓i_isi, ↓i_meth, ↓i_sel, ↓i_selL, ↓i_fld, ↓i_idx, ↓i_sl, ↓i_lrng, ↓i_lc, ↓i_nil, ↓i_cons, ↓i_o0, ↓i_o1, ↓i_opt, ↓i_seq, ↓i_rng1, ↓i_rng2, ↓i_enum, ↓i_zip, ↓i_wk, ↓i_tst, ↓ws_done, ↓ws_asg, ↓ws_asgT, ↓ws_ofE, ↓ws_of, ↓ws_asgF, ↓ws_asgI, ↓ws_aug, ↓ws_expr, ↓ws_ret, ↓ws_retN, ↓ws_ite, ↓ws_loop, ↓ws_whil, ↓boolIs_b, ↓intIs_i, ↓slot_0, ↓slot_1, ↓set_0, ↓set_1, ↓R.is_ok, ↓SR.is_rt, ↓SR.is_nx, ↓i_ofB, ↓wt_non, ↓wt_bl, ↓wt_int, ↓wt_str, ↓wt_tup, ↓wt_rol, ↓ib_add, ↓ib_sub, ↓ib_fdiv, ↓ib_mod, ↓ib_pow, ↓ib_band, ↓ib_shr, ↓ic_lt, ↓ic_le, ↓ic_gt, ↓ic_ge, ↓ic_is, ↓ic_isnot, ↓ic_eqI, ↓ic_neI, ↓ic_eqB, ↓ic_in1, ↓il_lenT, ↓tx_0, ↓tx_1, ↓tx_2, ↓ineg_i, ↓ws_try, ↓i_isx, ↓xx_done, ↓xx_rais, decide_true, decide_false, Bool.not_true, Bool.not_false, List.length_cons, List.length_nil, Int.reduceToNat, decide_eq_true_eq, Bool.not_eq_true', decide_eq_false_iff_not, Bool.true_eq_false, Bool.false_eq_true, if_true, if_false, reduceCtorEq, not_false_eq_true, not_true_eq_false, or_false, or_true, and_true, true_and, List.nil_append, List.cons_append]
  rcases h with h | ⟨h1, h2⟩
  · refine h s0 _ _ x0 fun s1 x1 => ?_
    try simp (decide := true) only [↓i_var, ↓i_con, ↓i_kon, ↓i_bin, ↓i_neg, ↓i_not, ↓i_and, ↓i_or, ↓i_and0, ↓i_or0, ↓i_and1, ↓i_or1, ↓i_cmp, ↓i_chain, ↓i_lst, ↓i_tup, ↓i_dnew, ↓i_call, ↓i_mk, ↓i_bcall, ↓i_isi, ↓i_meth, ↓i_sel, ↓i_selL, ↓i_fld, ↓i_idx, ↓i_sl, ↓i_lrng, ↓i_lc, ↓i_nil, ↓i_cons, ↓i_o0, ↓i_o1, ↓i_opt, ↓i_seq, ↓i_rng1, ↓i_rng2, ↓i_enum, ↓i_zip, ↓i_wk, ↓i_tst, ↓ws_done, ↓ws_asg, ↓ws_asgT, ↓ws_ofE, ↓ws_of, ↓ws_asgF, ↓ws_asgI, ↓ws_aug, ↓ws_expr, ↓ws_ret, ↓ws_retN, ↓ws_ite, ↓ws_loop, ↓ws_whil, ↓boolIs_b, ↓intIs_i, ↓slot_0, ↓slot_1, ↓set_0, ↓set_1, ↓R.is_ok, ↓SR.is_rt, ↓SR.is_nx, ↓i_ofB, ↓wt_non, ↓wt_bl, ↓wt_int, ↓wt_str, ↓wt_tup, ↓wt_rol, ↓ib_add, ↓ib_sub, ↓ib_fdiv, ↓ib_mod, ↓ib_pow, ↓ib_band, ↓ib_shr, ↓ic_lt, ↓ic_le, ↓ic_gt, ↓ic_ge, ↓ic_is, ↓ic_isnot, ↓ic_eqI, ↓ic_neI, ↓ic_eqB, ↓ic_in1, ↓il_lenT, ↓tx_0, ↓tx_1, ↓tx_2, ↓ineg_i, ↓ws_try, ↓i_isx, ↓xx_done, ↓xx_rais, decide_true, decide_false, Bool.not_true, Bool.not_false, List.length_cons, List.length_nil, Int.reduceToNat, decide_eq_true_eq, Bool.not_eq_true', decide_eq_false_iff_not, Bool.true_eq_false, Bool.false_eq_true, if_true, if_false, reduceCtorEq, not_false_eq_true, not_true_eq_false, or_false, or_true, and_true, true_and, List.nil_append, List.cons_append]
    exact q _ (x0.trans x1)
  · refine h1 s0 _ _ x0 fun s1 x1 => ?_
    try simp (decide := true) only [↓i_var, ↓i_con, ↓i_kon, ↓i_bin, ↓i_neg, ↓i_not, ↓i_and, ↓i_or, ↓i_and0, ↓i_or0, ↓i_and1, ↓i_or1, ↓i_cmp, ↓i_chain, ↓i_lst, ↓i_tup, ↓i_dnew, ↓i_call, ↓i_mk, ↓i_bcall, ↓i_isi, ↓i_meth, ↓i_sel, ↓i_selL, ↓i_fld, ↓i_idx, ↓i_sl, ↓i_lrng, ↓i_lc, ↓i_nil, ↓i_cons, ↓i_o0, ↓i_o1, ↓i_opt, ↓i_seq, ↓i_rng1, ↓i_rng2, ↓i_enum, ↓i_zip, ↓i_wk, ↓i_tst, ↓ws_done, ↓ws_asg, ↓ws_asgT, ↓ws_ofE, ↓ws_of, ↓ws_asgF, ↓ws_asgI, ↓ws_aug, ↓ws_expr, ↓ws_ret, ↓ws_retN, ↓ws_ite, ↓ws_loop, ↓ws_whil, ↓boolIs_b, ↓intIs_i, ↓slot_0, ↓slot_1, ↓set_0, ↓set_1, ↓R.is_ok, ↓SR.is_rt, ↓SR.is_nx, ↓i_ofB, ↓wt_non, ↓wt_bl, ↓wt_int, ↓wt_str, ↓wt_tup, ↓wt_rol, ↓ib_add, ↓ib_sub, ↓ib_fdiv, ↓ib_mod, ↓ib_pow, ↓ib_band, ↓ib_shr, ↓ic_lt, ↓ic_le, ↓ic_gt, ↓ic_ge, ↓ic_is, ↓ic_isnot, ↓ic_eqI, ↓ic_neI, ↓ic_eqB, ↓ic_in1, ↓il_lenT, ↓tx_0, ↓tx_1, ↓tx_2, ↓ineg_i, ↓ws_try, ↓i_isx, ↓xx_done, ↓xx_rais, decide_true, decide_false, Bool.not_true, Bool.not_false, List.length_cons, List.length_nil, Int.reduceToNat, decide_eq_true_eq, Bool.not_eq_true', decide_eq_false_iff_not, Bool.true_eq_false, Bool.false_eq_true, if_true, if_false, reduceCtorEq, not_false_eq_true, not_true_eq_false, or_false, or_true, and_true, true_and, List.nil_append, List.cons_append]
    refine h2 s1 _ _ (x0.trans x1) fun s2 x2 => ?_
    try simp (decide := true) only [↓i_var, ↓i_con, ↓i_kon, ↓i_bin, ↓i_neg, ↓i_not, ↓i_and, ↓i_or, ↓i_and0, ↓i_or0, ↓i_and1, ↓i_or1, ↓i_cmp, ↓i_chain, ↓i_lst, ↓i_tup, ↓i_dnew, ↓i_call, ↓i_mk, ↓i_bcall, ↓i_isi, ↓i_meth, ↓i_sel, ↓i_selL, ↓i_fld, ↓i_idx, ↓i_sl, ↓i_lrng, ↓i_lc, ↓i_nil, ↓i_cons, ↓i_o0, ↓i_o1, ↓i_opt, ↓i_seq, ↓i_rng1, ↓i_rng2, ↓i_enum, ↓i_zip, ↓i_wk, ↓i_tst, ↓ws_done, ↓ws_asg, ↓ws_asgT, ↓ws_ofE, ↓ws_of, ↓ws_asgF, ↓ws_asgI, ↓ws_aug, ↓ws_expr, ↓ws_ret, ↓ws_retN, ↓ws_ite, ↓ws_loop, ↓ws_whil, ↓boolIs_b, ↓intIs_i, ↓slot_0, ↓slot_1, ↓set_0, ↓set_1, ↓R.is_ok, ↓SR.is_rt, ↓SR.is_nx, ↓i_ofB, ↓wt_non, ↓wt_bl, ↓wt_int, ↓wt_str, ↓wt_tup, ↓wt_rol, ↓ib_add, ↓ib_sub, ↓ib_fdiv, ↓ib_mod, ↓ib_pow, ↓ib_band, ↓ib_shr, ↓ic_lt, ↓ic_le, ↓ic_gt, ↓ic_ge, ↓ic_is, ↓ic_isnot, ↓ic_eqI, ↓ic_neI, ↓ic_eqB, ↓ic_in1, ↓il_lenT, ↓tx_0, ↓tx_1, ↓tx_2, ↓ineg_i, ↓ws_try, ↓i_isx, ↓xx_done, ↓xx_rais, decide_true, decide_false, Bool.not_true, Bool.not_false, List.length_cons, List.length_nil, Int.reduceToNat, decide_eq_true_eq, Bool.not_eq_true', decide_eq_false_iff_not, Bool.true_eq_false, Bool.false_eq_true, if_true, if_false, reduceCtorEq, not_false_eq_true, not_true_eq_false, or_false, or_true, and_true, true_and, List.nil_append, List.cons_append]
    exact q _ ((x0.trans x1).trans x2)
theorem sub_1 : SubC 1 := ⟨by decide, by decide⟩
theorem refused_is {n : Nat} {st : Sto} {vc vw : AV} {Q : AV → Sto → Prop} (h : BadNet st vc vw) (q : ∀ s, Ext st s → Q (.bl true) s) : (callF tab (n + 6) g_law_refused_7 [vc, vw] st).Is Q := by
  refine call_is rfl rfl ?_; simp only [List.map_cons, List.map_nil, List.cons_append, List.nil_append, List.replicate_succ, List.replicate_zero, Nat.reduceSub]
  try simp (decide := true) only [↓i_var, ↓i_con, ↓i_kon, ↓i_bin, ↓i_neg, ↓i_not, ↓i_and, ↓i_or, ↓i_and0, ↓i_or0, ↓i_and1, ↓i_or1, ↓i_cmp, ↓i_chain, ↓i_lst, ↓i_tup, ↓i_dnew, ↓i_call, ↓i_mk, ↓i_bcall, ↓i_isi, ↓i_meth, ↓i_sel, ↓i_selL, ↓i_fld, ↓i_idx, ↓i_sl, ↓i_lrng, ↓i_lc, ↓i_nil, ↓i_cons, ↓i_o0, ↓i_o1, ↓i_opt, ↓i_seq, ↓i_rng1, ↓i_rng2, ↓i_enum, ↓i_zip, ↓i_wk, ↓i_tst, ↓ws_done, ↓ws_asg, ↓ws_asgT, ↓ws_ofE, ↓ws_of, ↓ws_asgF, ↓ws_asgI, ↓ws_aug, ↓ws_expr, ↓ws_ret, ↓ws_retN, ↓ws_ite, ↓ws_loop, ↓ws_whil, ↓boolIs_b, ↓intIs_i, ↓slot_0, ↓slot_1, ↓set_0, ↓set_1, ↓R.is_ok, ↓SR.is_rt, ↓SR.is_nx, ↓i_ofB, ↓wt_non, ↓wt_bl, ↓wt_int, ↓wt_str, ↓wt_tup, ↓wt_rol, ↓ib_add, ↓ib_sub, ↓ib_fdiv, ↓ib_mod, ↓ib_pow, ↓ib_band, ↓ib_shr, ↓ic_lt, ↓ic_le, ↓ic_gt, ↓ic_ge, ↓ic_is, ↓ic_isnot, ↓ic_eqI, ↓ic_neI, ↓ic_eqB, ↓ic_in1, ↓il_lenT, ↓tx_0, ↓tx_1, ↓tx_2, ↓ineg_i, ↓ws_try, ↓i_isx, ↓xx_done, ↓xx_rais, decide_true, decide_false, Bool.not_true, Bool.not_false, List.length_cons, List.length_nil, Int.reduceToNat, decide_eq_true_eq, Bool.not_eq_true', decide_eq_false_iff_not, Bool.true_eq_false, Bool.false_eq_true, if_true, if_false, reduceCtorEq, not_false_eq_true, not_true_eq_false, or_false, or_true, and_true, true_and, List.nil_append, List.cons_append, c_law_refused_7]
  rw [xx_expr]
  refine xx_mk ?_
  try simp (decide := true) only [↓i_var, ↓i_con, ↓i_kon, ↓i_bin, ↓i_neg, ↓i_not, ↓i_and, ↓i_or, ↓i_and0, ↓i_or0, ↓i_and1, ↓i_or1, ↓i_cmp, ↓i_chain, ↓i_lst, ↓i_tup, ↓i_dnew, ↓i_call, ↓i_mk, ↓i_bcall, ↓i_isi, ↓i_meth, ↓i_sel, ↓i_selL, ↓i_fld, ↓i_idx, ↓i_sl, ↓i_lrng, ↓i_lc, ↓i_nil, ↓i_cons, ↓i_o0, ↓i_o1, ↓i_opt, ↓i_seq, ↓i_rng1, ↓i_rng2, ↓i_enum, ↓i_zip, ↓i_wk, ↓i_tst, ↓ws_done, ↓ws_asg, ↓ws_asgT, ↓ws_ofE, ↓ws_of, ↓ws_asgF, ↓ws_asgI, ↓ws_aug, ↓ws_expr, ↓ws_ret, ↓ws_retN, ↓ws_ite, ↓ws_loop, ↓ws_whil, ↓boolIs_b, ↓intIs_i, ↓slot_0, ↓slot_1, ↓set_0, ↓set_1, ↓R.is_ok, ↓SR.is_rt, ↓SR.is_nx, ↓i_ofB, ↓wt_non, ↓wt_bl, ↓wt_int, ↓wt_str, ↓wt_tup, ↓wt_rol, ↓ib_add, ↓ib_sub, ↓ib_fdiv, ↓ib_mod, ↓ib_pow, ↓ib_band, ↓ib_shr, ↓ic_lt, ↓ic_le, ↓ic_gt, ↓ic_ge, ↓ic_is, ↓ic_isnot, ↓ic_eqI, ↓ic_neI, ↓ic_eqB, ↓ic_in1, ↓il_lenT, ↓tx_0, ↓tx_1, ↓tx_2, ↓ineg_i, ↓ws_try, ↓i_isx, ↓xx_done, ↓xx_rais, decide_true, decide_false, Bool.not_true, Bool.not_false, List.length_cons, List.length_nil, Int.reduceToNat, decide_eq_true_eq, Bool.not_eq_true', decide_eq_false_iff_not, Bool.true_eq_false, Bool.false_eq_true, if_true, if_false, reduceCtorEq, not_false_eq_true, not_true_eq_false, or_false, or_true, and_true, true_and, List.nil_append, List.cons_append]
  refine mk_no h fun s E => ?_
  refine ⟨by decide, ?_⟩
  have g1 := get_push s (AO.exc 1)
  have x1 := Ext.push s (AO.exc 1)
  simp only [List.set_cons_zero, List.set_cons_succ]
  generalize s ++ [AO.exc 1] = s1 at g1 x1 ⊢
  generalize s.length = r at g1 ⊢
  try simp (decide := true) only [↓i_var, ↓i_con, ↓i_kon, ↓i_bin, ↓i_neg, ↓i_not, ↓i_and, ↓i_or, ↓i_and0, ↓i_or0, ↓i_and1, ↓i_or1, ↓i_cmp, ↓i_chain, ↓i_lst, ↓i_tup, ↓i_dnew, ↓i_call, ↓i_mk, ↓i_bcall, ↓i_isi, ↓i_meth, ↓i_sel, ↓i_selL, ↓i_fld, ↓i_idx, ↓i_sl, ↓i_lrng, ↓i_lc, ↓i_nil, ↓i_cons, ↓i_o0, ↓i_o1, ↓i_opt, ↓i_seq, ↓i_rng1, ↓i_rng2, ↓i_enum, ↓i_zip, ↓i_wk, ↓i_tst, ↓ws_done, ↓ws_asg, ↓ws_asgT, ↓ws_ofE, ↓ws_of, ↓ws_asgF, ↓ws_asgI, ↓ws_aug, ↓ws_expr, ↓ws_ret, ↓ws_retN, ↓ws_ite, ↓ws_loop, ↓ws_whil, ↓boolIs_b, ↓intIs_i, ↓slot_0, ↓slot_1, ↓set_0, ↓set_1, ↓R.is_ok, ↓SR.is_rt, ↓SR.is_nx, ↓i_ofB, ↓wt_non, ↓wt_bl, ↓wt_int, ↓wt_str, ↓wt_tup, ↓wt_rol, ↓ib_add, ↓ib_sub, ↓ib_fdiv, ↓ib_mod, ↓ib_pow, ↓ib_band, ↓ib_shr, ↓ic_lt, ↓ic_le, ↓ic_gt, ↓ic_ge, ↓ic_is, ↓ic_isnot, ↓ic_eqI, ↓ic_neI, ↓ic_eqB, ↓ic_in1, ↓il_lenT, ↓tx_0, ↓tx_1, ↓tx_2, ↓ineg_i, ↓ws_try, ↓i_isx, ↓xx_done, ↓xx_rais, decide_true, decide_false, Bool.not_true, Bool.not_false, List.length_cons, List.length_nil, Int.reduceToNat, decide_eq_true_eq, Bool.not_eq_true', decide_eq_false_iff_not, Bool.true_eq_false, Bool.false_eq_true, if_true, if_false, reduceCtorEq, not_false_eq_true, not_true_eq_false, or_false, or_true, and_true, true_and, List.nil_append, List.cons_append, List.set_cons_zero, List.set_cons_succ]
  refine names_is sub_1 g1 fun s2 r2 x2 _ g2 => ?_
  try simp (decide := true) only [↓i_var, ↓i_con, ↓i_kon, ↓i_bin, ↓i_neg, ↓i_not, ↓i_and, ↓i_or, ↓i_and0, ↓i_or0, ↓i_and1, ↓i_or1, ↓i_cmp, ↓i_chain, ↓i_lst, ↓i_tup, ↓i_dnew, ↓i_call, ↓i_mk, ↓i_bcall, ↓i_isi, ↓i_meth, ↓i_sel, ↓i_selL, ↓i_fld, ↓i_idx, ↓i_sl, ↓i_lrng, ↓i_lc, ↓i_nil, ↓i_cons, ↓i_o0, ↓i_o1, ↓i_opt, ↓i_seq, ↓i_rng1, ↓i_rng2, ↓i_enum, ↓i_zip, ↓i_wk, ↓i_tst, ↓ws_done, ↓ws_asg, ↓ws_asgT, ↓ws_ofE, ↓ws_of, ↓ws_asgF, ↓ws_asgI, ↓ws_aug, ↓ws_expr, ↓ws_ret, ↓ws_retN, ↓ws_ite, ↓ws_loop, ↓ws_whil, ↓boolIs_b, ↓intIs_i, ↓slot_0, ↓slot_1, ↓set_0, ↓set_1, ↓R.is_ok, ↓SR.is_rt, ↓SR.is_nx, ↓i_ofB, ↓wt_non, ↓wt_bl, ↓wt_int, ↓wt_str, ↓wt_tup, ↓wt_rol, ↓ib_add, ↓ib_sub, ↓ib_fdiv, ↓ib_mod, ↓ib_pow, ↓ib_band, ↓ib_shr, ↓ic_lt, ↓ic_le, ↓ic_gt, ↓ic_ge, ↓ic_is, ↓ic_isnot, ↓ic_eqI, ↓ic_neI, ↓ic_eqB, ↓ic_in1, ↓il_lenT, ↓tx_0, ↓tx_1, ↓tx_2, ↓ineg_i, ↓ws_try, ↓i_isx, ↓xx_done, ↓xx_rais, decide_true, decide_false, Bool.not_true, Bool.not_false, List.length_cons, List.length_nil, Int.reduceToNat, decide_eq_true_eq, Bool.not_eq_true', decide_eq_false_iff_not, Bool.true_eq_false, Bool.false_eq_true, if_true, if_false, reduceCtorEq, not_false_eq_true, not_true_eq_false, or_false, or_true, and_true, true_and, List.nil_append, List.cons_append]
  have g3 := get_push s2 (AO.lst ([[78, 111, 78, 101, 116]].map AV.str))
  have x3 := Ext.push s2 (AO.lst ([[78, 111, 78, 101, 116]].map AV.str))
  have e := names_eq (x3 _ _ g2) g3 (by decide) (by decide)
  have e2 : decide (nmOf 1 = [[78, 111, 78, 101, 116]]) = true := by decide
  rw [e2] at e
  simp only [List.map_cons, List.map_nil] at e x3
  try simp (decide := true) only [↓i_var, ↓i_con, ↓i_kon, ↓i_bin, ↓i_neg, ↓i_not, ↓i_and, ↓i_or, ↓i_and0, ↓i_or0, ↓i_and1, ↓i_or1, ↓i_cmp, ↓i_chain, ↓i_lst, ↓i_tup, ↓i_dnew, ↓i_call, ↓i_mk, ↓i_bcall, ↓i_isi, ↓i_meth, ↓i_sel, ↓i_selL, ↓i_fld, ↓i_idx, ↓i_sl, ↓i_lrng, ↓i_lc, ↓i_nil, ↓i_cons, ↓i_o0, ↓i_o1, ↓i_opt, ↓i_seq, ↓i_rng1, ↓i_rng2, ↓i_enum, ↓i_zip, ↓i_wk, ↓i_tst, ↓ws_done, ↓ws_asg, ↓ws_asgT, ↓ws_ofE, ↓ws_of, ↓ws_asgF, ↓ws_asgI, ↓ws_aug, ↓ws_expr, ↓ws_ret, ↓ws_retN, ↓ws_ite, ↓ws_loop, ↓ws_whil, ↓boolIs_b, ↓intIs_i, ↓slot_0, ↓slot_1, ↓set_0, ↓set_1, ↓R.is_ok, ↓SR.is_rt, ↓SR.is_nx, ↓i_ofB, ↓wt_non, ↓wt_bl, ↓wt_int, ↓wt_str, ↓wt_tup, ↓wt_rol, ↓ib_add, ↓ib_sub, ↓ib_fdiv, ↓ib_mod, ↓ib_pow, ↓ib_band, ↓ib_shr, ↓ic_lt, ↓ic_le, ↓ic_gt, ↓ic_ge, ↓ic_is, ↓ic_isnot, ↓ic_eqI, ↓ic_neI, ↓ic_eqB, ↓ic_in1, ↓il_lenT, ↓tx_0, ↓tx_1, ↓tx_2, ↓ineg_i, ↓ws_try, ↓i_isx, ↓xx_done, ↓xx_rais, decide_true, decide_false, Bool.not_true, Bool.not_false, List.length_cons, List.length_nil, Int.reduceToNat, decide_eq_true_eq, Bool.not_eq_true', decide_eq_false_iff_not, Bool.true_eq_false, Bool.false_eq_true, if_true, if_false, reduceCtorEq, not_false_eq_true, not_true_eq_false, or_false, or_true, and_true, true_and, List.nil_append, List.cons_append, ↓ic_eq e]
  exact q _ (E.trans (x1.trans (x2.trans x3)))
end L3

/-! K02b: what is spoiled. -/
namespace L3
open PySem L2
theorem cat_is {st s : Sto} {xs ys : List AV} {r : Nat} {K : AV → Sto → Prop} (hs : Ext st s) (hr : s[r]? = some (.lst xs)) (hl : xs.length + ys.length ≤ 100) (k : ∀ s' r', Ext s s' → Ext st s' → st.length ≤ r' → s'[r']? = some (.lst (xs ++ ys)) → K (.ref r') s') : (binA .add (.ref r) (.ref s.length) (s ++ [.lst ys])).Is K := by
  rw [ib_addL (Ext.push _ _ _ _ hr) (get_push _ _) (by unfold lim; omega)]
  exact k _ _ ((Ext.push _ _).trans (Ext.push _ _)) ((hs.trans (Ext.push _ _)).trans (Ext.push _ _)) (hs.trans (Ext.push _ _)).lt (get_push _ _)
theorem stepD_some {cs : List Int} {seen s1 : List Door} {x : AV} (h : stepD cs seen x = some s1) : ∃ d, x = doorV d ∧ isDoor cs d = true ∧ d ∉ seen ∧ s1 = d :: seen := by
  unfold stepD at h
  cases hd : doorM x with
  | none => rw [hd] at h; cases h
  | some d =>
    rw [hd] at h
    dsimp only at h
    by_cases e : isDoor cs d = true ∧ d ∉ seen
    · rw [if_pos e] at h
      exact ⟨d, doorM_some hd, e.1, e.2, (Option.some.inj h).symm⟩
    · rw [if_neg e] at h; cases h
theorem goodW_true {cs : List Int} : ∀ (xs : List AV) (seen : List Door), goodW cs xs seen = true → ∃ ws : List Wire, xs = ws.map wireV ∧ (∀ d ∈ endsOf ws, isDoor cs d = true ∧ d ∉ seen) ∧ (endsOf ws).Nodup
  | [], _, _ => ⟨[], rfl, by intro d h; exact absurd h (by simp [endsOf]), List.nodup_nil⟩
  | w :: r, seen, h => by
    by_cases ht : ∃ x y, w = .tup [x, y]
    · obtain ⟨x, y, rfl⟩ := ht
      rw [goodW] at h
      cases e1 : stepD cs seen x with
      | none => rw [e1] at h; cases h
      | some s1 =>
        rw [e1] at h
        dsimp only at h
        cases e2 : stepD cs s1 y with
        | none => rw [e2] at h; cases h
        | some s2 =>
          rw [e2] at h
          dsimp only at h
          obtain ⟨d, rfl, d1, d2, rfl⟩ := stepD_some e1
          obtain ⟨e, rfl, f1, f2, rfl⟩ := stepD_some e2
          obtain ⟨ws, rfl, k1, k2⟩ := goodW_true r _ h
          refine ⟨(d, e) :: ws, rfl, fun z hz => ?_, ?_⟩
          · have hz : z = d ∨ z = e ∨ z ∈ endsOf ws := by
              simpa [endsOf] using hz
            rcases hz with rfl | rfl | hz
            · exact ⟨d1, d2⟩
            · exact ⟨f1, fun q => f2 (List.mem_cons_of_mem _ q)⟩
            · exact ⟨(k1 z hz).1, fun q => (k1 z hz).2 (by simp [q])⟩
          · show (d :: e :: endsOf ws).Nodup
            rw [List.nodup_cons, List.nodup_cons]
            refine ⟨fun q => ?_, fun q => (k1 e q).2 (by simp), k2⟩
            rcases List.mem_cons.mp q with q | q
            · exact f2 (by rw [q]; simp)
            · exact (k1 d q).2 (by simp)
    · exfalso
      unfold goodW at h
      split at h
      · rename_i q
        cases q
      · rename_i q
        cases q
        exact ht ⟨_, _, rfl⟩
      · cases h
/-- a thing that is no wire of the houses -/
def BadE (cs : List Int) (s : Sto) (x : AV) : Prop := Ty3 s x ∧ ∀ d e : Door, x = wireV (d, e) → isDoor cs d = true → isDoor cs e = true → d = e
abbrev oneV : AV := .tup [.int 0, .int 0]
def l1 (c0 len : Int) : List AV := [.tup [.tup [.int 0, .int c0], oneV], .tup [oneV, .tup [.int len, .int 0]], .tup [.tup [.int 0, .int (-1)], oneV], .tup [.tup [.int (-1), .int 0], oneV], .tup [oneV, oneV], .tup [oneV]]
def l2 (p1 : Nat) : List AV := [.tup [oneV, oneV, oneV], .tup [.tup [.bl true, .int 0], oneV], .tup [oneV, .tup [.int 0, .bl false]], .tup [.ref p1, oneV], .tup [.non, oneV], .str [], .non]
def l3 (p2 : Nat) : List AV := [.ref p2, .tup [oneV, .tup [.int 0]], .tup [oneV, .tup [.int 0, .int 0, .int 0]], .int 0, .tup [oneV, .str [48, 48]]]
theorem ty2_m {st : Sto} {xs : List AV} (h : ∀ x ∈ xs, Ty1 st x) : Ty2 st (.tup xs) := ⟨trivial, fun ys e => by cases e; exact h⟩
theorem ty3_m {st : Sto} {xs : List AV} (h : ∀ x ∈ xs, Ty2 st x) : Ty3 st (.tup xs) := ⟨trivial, fun ys e => by cases e; exact h⟩
theorem ty3_flat {st : Sto} {v : AV} (h : Ty1 st v) (k : ∀ xs, v ≠ .tup xs) : Ty3 st v := ⟨h, fun xs e => absurd e (k xs)⟩
theorem ty2_one (st : Sto) : Ty2 st oneV := ty2_door st (0, 0)
theorem bad_1 {cs : List Int} {s : Sto} (h : cs.length ≥ 1) : ∀ x ∈ l1 (cs.getD 0 0) (cs.length : Nat), BadE cs s x := by
  intro x hx
  simp only [l1, List.mem_cons, List.not_mem_nil, or_false] at hx
  have d2 : ∀ a b : Int, Ty2 s (.tup [.int a, .int b]) := fun a b => ty2_door s (a, b)
  have m2 : ∀ a b : AV, Ty2 s a → Ty2 s b → Ty3 s (.tup [a, b]) := fun a b h k => ty3_m (by simp; exact ⟨h, k⟩)
  rcases hx with rfl | rfl | rfl | rfl | rfl | rfl
  · refine ⟨m2 _ _ (d2 _ _) (d2 _ _), fun d e z h1 h2 => ?_⟩
    simp only [wireV, doorV, AV.tup.injEq, List.cons.injEq, AV.int.injEq, and_true] at z
    obtain ⟨⟨z1, z2⟩, z3, z4⟩ := z
    simp [isDoor, ← z1, ← z2] at h1
  · refine ⟨m2 _ _ (d2 _ _) (d2 _ _), fun d e z h1 h2 => ?_⟩
    simp only [wireV, doorV, AV.tup.injEq, List.cons.injEq, AV.int.injEq, and_true] at z
    obtain ⟨⟨z1, z2⟩, z3, z4⟩ := z
    simp [isDoor, ← z3, ← z4] at h2
  · refine ⟨m2 _ _ (d2 _ _) (d2 _ _), fun d e z h1 h2 => ?_⟩
    simp only [wireV, doorV, AV.tup.injEq, List.cons.injEq, AV.int.injEq, and_true] at z
    obtain ⟨⟨z1, z2⟩, z3, z4⟩ := z
    simp [isDoor, ← z1, ← z2] at h1
  · refine ⟨m2 _ _ (d2 _ _) (d2 _ _), fun d e z h1 h2 => ?_⟩
    simp only [wireV, doorV, AV.tup.injEq, List.cons.injEq, AV.int.injEq, and_true] at z
    obtain ⟨⟨z1, z2⟩, z3, z4⟩ := z
    simp [isDoor, ← z1, ← z2] at h1
  · refine ⟨m2 _ _ (d2 _ _) (d2 _ _), fun d e z h1 h2 => ?_⟩
    simp only [wireV, doorV, AV.tup.injEq, List.cons.injEq, AV.int.injEq, and_true] at z
    obtain ⟨⟨z1, z2⟩, z3, z4⟩ := z
    exact Prod.ext (by rw [← z1, ← z3]) (by rw [← z2, ← z4])
  · refine ⟨ty3_m (by simp; exact d2 _ _), fun d e z h1 h2 => ?_⟩
    simp [wireV, doorV] at z
theorem bad_2 {cs : List Int} {s : Sto} {p1 : Nat} {ys : List AV} (h : s[p1]? = some (.lst ys)) : ∀ x ∈ l2 p1, BadE cs s x := by
  intro x hx
  simp only [l2, List.mem_cons, List.not_mem_nil, or_false] at hx
  have d2 : ∀ a b : Int, Ty2 s (.tup [.int a, .int b]) := fun a b => ty2_door s (a, b)
  have m2 : ∀ a b : AV, Ty2 s a → Ty2 s b → Ty3 s (.tup [a, b]) := fun a b h k => ty3_m (by simp; exact ⟨h, k⟩)
  have t2 : ∀ a b : AV, Ty1 s a → Ty1 s b → Ty2 s (.tup [a, b]) := fun a b h k => ty2_m (by simp; exact ⟨h, k⟩)
  rcases hx with rfl | rfl | rfl | rfl | rfl | rfl | rfl
  · exact ⟨ty3_m (by simp; exact d2 _ _), fun d e z => by simp [wireV, doorV] at z⟩
  · exact ⟨m2 _ _ (t2 _ _ trivial trivial) (d2 _ _), fun d e z => by simp [wireV, doorV] at z⟩
  · exact ⟨m2 _ _ (d2 _ _) (t2 _ _ trivial trivial), fun d e z => by simp [wireV, doorV] at z⟩
  · exact ⟨m2 _ _ (ty2_flat (.inl ⟨ys, h⟩) (by intro xs z; cases z)) (d2 _ _), fun d e z => by simp [wireV, doorV] at z⟩
  · exact ⟨m2 _ _ (ty2_flat trivial (by intro xs z; cases z)) (d2 _ _), fun d e z => by simp [wireV, doorV] at z⟩
  · exact ⟨ty3_flat ⟨rfl, by decide⟩ (by intro xs z; cases z), fun d e z => by simp [wireV, doorV] at z⟩
  · exact ⟨ty3_flat trivial (by intro xs z; cases z), fun d e z => by simp [wireV, doorV] at z⟩
theorem bad_3 {cs : List Int} {s : Sto} {p2 : Nat} {ys : List AV} (h : s[p2]? = some (.lst ys)) : ∀ x ∈ l3 p2, BadE cs s x := by
  intro x hx
  simp only [l3, List.mem_cons, List.not_mem_nil, or_false] at hx
  have d2 : ∀ a b : Int, Ty2 s (.tup [.int a, .int b]) := fun a b => ty2_door s (a, b)
  have m2 : ∀ a b : AV, Ty2 s a → Ty2 s b → Ty3 s (.tup [a, b]) := fun a b h k => ty3_m (by simp; exact ⟨h, k⟩)
  rcases hx with rfl | rfl | rfl | rfl | rfl
  · exact ⟨ty3_flat (.inl ⟨ys, h⟩) (by intro xs z; cases z), fun d e z => by simp [wireV, doorV] at z⟩
  · exact ⟨m2 _ _ (d2 _ _) (ty2_m (by simp; exact trivial)), fun d e z => by simp [wireV, doorV] at z⟩
  · exact ⟨m2 _ _ (d2 _ _) (ty2_m (by simp; exact trivial)), fun d e z => by simp [wireV, doorV] at z⟩
  · exact ⟨ty3_flat trivial (by intro xs z; cases z), fun d e z => by simp [wireV, doorV] at z⟩
  · exact ⟨m2 _ _ (d2 _ _) (ty2_flat ⟨rfl, by decide⟩ (by intro xs z; cases z)), fun d e z => by simp [wireV, doorV] at z⟩
theorem ty3_wire (s : Sto) (w : Wire) : Ty3 s (wireV w) := ty3_m (by simp; exact ⟨ty2_door s w.1, ty2_door s w.2⟩)
theorem wireV_inj {a b : Wire} (h : wireV a = wireV b) : a = b := by
  obtain ⟨⟨a1, a2⟩, a3, a4⟩ := a
  obtain ⟨⟨b1, b2⟩, b3, b4⟩ := b
  simp only [wireV, doorV, AV.tup.injEq, List.cons.injEq, AV.int.injEq, and_true] at h
  obtain ⟨⟨rfl, rfl⟩, rfl, rfl⟩ := h
  rfl
theorem map_wire_inj {xs ys : List Wire} (h : xs.map wireV = ys.map wireV) : xs = ys := List.map_inj_right (fun a b => wireV_inj) |>.mp h
/-- either no wire at all, or one more at a door that has one -/
theorem spoiled_w {cs : List Int} {ws : List Wire} {s : Sto} {x : AV} (i : Nat) (h : BadE cs s x ∨ ∃ v : Wire, x = wireV v ∧ v.1 ∈ endsOf ws) : goodW cs ((ws.map wireV).take i ++ [x] ++ (ws.map wireV).drop i) [] = false := by
  refine Bool.eq_false_iff.mpr fun z => ?_
  obtain ⟨ws', e, k1, k2⟩ := goodW_true _ _ z
  rcases h with ⟨h1, h2⟩ | ⟨v, rfl, hv⟩
  · have m : x ∈ ws'.map wireV := by rw [← e]; simp
    obtain ⟨w, hw, rfl⟩ := List.mem_map.mp m
    have m1 : w.1 ∈ endsOf ws' := List.mem_flatMap.mpr ⟨w, hw, by simp⟩
    have m2 : w.2 ∈ endsOf ws' := List.mem_flatMap.mpr ⟨w, hw, by simp⟩
    have := h2 w.1 w.2 rfl (k1 _ m1).1 (k1 _ m2).1
    obtain ⟨p, q, rfl⟩ := List.append_of_mem hw
    have e2 : endsOf (p ++ w :: q) = endsOf p ++ (w.1 :: w.2 :: endsOf q) := by unfold endsOf; rw [List.flatMap_append]; rfl
    rw [e2] at k2
    have := (List.nodup_append.mp k2).2.1
    rw [List.nodup_cons] at this
    exact this.1 (by simp [*])
  · have e' : ws' = ws.take i ++ [v] ++ ws.drop i := map_wire_inj (by rw [← e]; simp)
    rw [e'] at k2
    have e2 : endsOf (ws.take i ++ [v] ++ ws.drop i) = endsOf (ws.take i) ++ (v.1 :: v.2 :: endsOf (ws.drop i)) := by unfold endsOf; simp
    rw [e2] at k2
    have h3 := List.nodup_append.mp k2
    have hv : v.1 ∈ endsOf (ws.take i) ∨ v.1 ∈ endsOf (ws.drop i) := by
      rw [← List.take_append_drop i ws] at hv
      unfold endsOf at hv ⊢
      rw [List.flatMap_append, List.mem_append] at hv
      exact hv
    rcases hv with hv | hv
    · exact h3.2.2 _ hv _ (by simp) rfl
    · have := h3.2.1
      rw [List.nodup_cons] at this
      exact this.1 (by simp [hv])
theorem Ty1.setL {s : Sto} {r : Nat} {zs ys : List AV} {v : AV} (h : Ty1 s v) (hr : s[r]? = some (.lst zs)) : Ty1 (s.set r (.lst ys)) v := by
  cases v with
  | ref n =>
    by_cases e : n = r
    · subst e
      exact .inl ⟨ys, get_set hr⟩
    · rcases h with ⟨xs, h⟩ | ⟨xs, h⟩
      · exact .inl ⟨xs, get_set_o h e⟩
      · exact .inr ⟨xs, get_set_o h e⟩
  | str _ => exact h
  | rol _ => exact h
  | _ => trivial
theorem Ty2.setL {s : Sto} {r : Nat} {zs ys : List AV} {v : AV} (h : Ty2 s v) (hr : s[r]? = some (.lst zs)) : Ty2 (s.set r (.lst ys)) v := ⟨h.1.setL hr, fun xs e y hy => (h.2 xs e y hy).setL hr⟩
theorem Ty3.setL {s : Sto} {r : Nat} {zs ys : List AV} {v : AV} (h : Ty3 s v) (hr : s[r]? = some (.lst zs)) : Ty3 (s.set r (.lst ys)) v := ⟨h.1.setL hr, fun xs e y hy => (h.2 xs e y hy).setL hr⟩
theorem ins_bad {n a b : Nat} {st s : Sto} {cs : List Int} {ws : List Wire} {N : Int} {Q : AV → Sto → Prop} {r5 : Nat} {x : AV} {v3 v4 v7 : Option AV} (hN : 0 ≤ N) (hE : Ext st s) (hr : st.length ≤ r5) (hb : st[b]? = some (.lst (ws.map wireV))) (hl : ws.length ≤ 12)
    (h5 : s[r5]? = some (.lst (ws.map wireV))) (tx : Ty3 s x) (hx : BadE cs s x ∨ ∃ v : Wire, x = wireV v ∧ v.1 ∈ endsOf ws)
    (q : ∀ s r xs, Ext st s → s[r]? = some (.lst xs) → (∀ x ∈ xs, Ty3 s x) → xs.length ≤ 1000 → goodW cs xs [] = false → Q (.ref r) s) :
    ((selA tab 2 (.ref r5) s).ok ((evs tab (callF tab n) (lev tab n).2 (.cons (.bin .mod (.bin .fdiv (.var 2) (.con (.int 5400))) (.bin .add (.bcall .len (.cons (.var 1) .nil)) (.con (.int 1)))) (.cons (.var 6) .nil)) [some (.ref a), some (.ref b), some (.int N), v3, v4, some (.ref r5), some x, v7] s).bind fun xs st1 => methA (callF tab n) (selA tab 2 (.ref r5) s) 2 (.ref r5) xs st1)).Is fun _ s => Q (.ref r5) s := by
  have hm : (0 : Int) < (ws.length : Nat) + 1 := by omega
  have m0 := Int.emod_nonneg (N / 5400) (show ((ws.length : Nat) : Int) + 1 ≠ 0 by omega)
  have m1 := Int.emod_lt_of_pos (N / 5400) hm
  have bt : Ty3 (s.set r5 (.lst ((ws.map wireV).take (N / 5400 % ((ws.length : Nat) + 1)).toNat ++ [x] ++ (ws.map wireV).drop (N / 5400 % ((ws.length : Nat) + 1)).toNat))) x := tx.setL h5
  try simp (decide := true) only [↓i_var, ↓i_con, ↓i_kon, ↓i_bin, ↓i_neg, ↓i_not, ↓i_and, ↓i_or, ↓i_and0, ↓i_or0, ↓i_and1, ↓i_or1, ↓i_cmp, ↓i_chain, ↓i_lst, ↓i_tup, ↓i_dnew, ↓i_call, ↓i_mk, ↓i_bcall, ↓i_isi, ↓i_meth, ↓i_sel, ↓i_selL, ↓i_fld, ↓i_idx, ↓i_sl, ↓i_lrng, ↓i_lc, ↓i_nil, ↓i_cons, ↓i_o0, ↓i_o1, ↓i_opt, ↓i_seq, ↓i_rng1, ↓i_rng2, ↓i_enum, ↓i_zip, ↓i_wk, ↓i_tst, ↓ws_done, ↓ws_asg, ↓ws_asgT, ↓ws_ofE, ↓ws_of, ↓ws_asgF, ↓ws_asgI, ↓ws_aug, ↓ws_expr, ↓ws_ret, ↓ws_retN, ↓ws_ite, ↓ws_loop, ↓ws_whil, ↓boolIs_b, ↓intIs_i, ↓slot_0, ↓slot_1, ↓set_0, ↓set_1, ↓R.is_ok, ↓SR.is_rt, ↓SR.is_nx, ↓i_ofB, ↓wt_non, ↓wt_bl, ↓wt_int, ↓wt_str, ↓wt_tup, ↓wt_rol, ↓ib_add, ↓ib_sub, ↓ib_fdiv, ↓ib_mod, ↓ib_pow, ↓ib_band, ↓ib_shr, ↓ic_lt, ↓ic_le, ↓ic_gt, ↓ic_ge, ↓ic_is, ↓ic_isnot, ↓ic_eqI, ↓ic_neI, ↓ic_eqB, ↓ic_in1, ↓il_lenT, ↓tx_0, ↓tx_1, ↓tx_2, ↓ineg_i, ↓ws_try, ↓i_isx, ↓xx_done, ↓xx_rais, decide_true, decide_false, Bool.not_true, Bool.not_false, List.length_cons, List.length_nil, Int.reduceToNat, decide_eq_true_eq, Bool.not_eq_true', decide_eq_false_iff_not, Bool.true_eq_false, Bool.false_eq_true, if_true, if_false, reduceCtorEq, not_false_eq_true, not_true_eq_false, or_false, or_true, and_true, true_and, List.nil_append, List.cons_append, ↓i_methL h5 (show 2 ≤ 6 by decide), ↓il_len (hE _ _ hb), List.length_map, ↓ib_mod hm]
  rw [im_ins h5 ⟨m0, by omega, by rw [List.length_map]; unfold lim; omega⟩]
  refine q _ _ _ (Ext.set hE hr) (get_set h5) (fun y hy => ?_) ?_ (spoiled_w _ hx)
  · rcases List.mem_append.mp hy with hy | hy
    · rcases List.mem_append.mp hy with hy | hy
      · obtain ⟨w, _, rfl⟩ := List.mem_map.mp (List.mem_of_mem_take hy)
        exact ty3_wire _ w
      · rw [List.mem_singleton.mp hy]
        exact bt
    · obtain ⟨w, _, rfl⟩ := List.mem_map.mp (List.mem_of_mem_drop hy)
      exact ty3_wire _ w
  · simp only [List.length_append, List.length_take, List.length_drop, List.length_map, List.length_cons, List.length_nil]
    omega
set_option maxHeartbeats 1000000 in
theorem bad_wires {n a b : Nat} {st : Sto} {cs : List Int} {ws : List Wire} {N : Int} {Q : AV → Sto → Prop} (hN : 0 ≤ N) (ha : st[a]? = some (.lst (cs.map AV.int))) (hb : st[b]? = some (.lst (ws.map wireV))) (hC : CntOk cs) (hl : ws.length ≤ 12)
    (q : ∀ s r xs, Ext st s → s[r]? = some (.lst xs) → (∀ x ∈ xs, Ty3 s x) → xs.length ≤ 1000 → goodW cs xs [] = false → Q (.ref r) s) : (callF tab (n + 1) g_law_bad_wires [.ref a, .ref b, .int N] st).Is Q := by
  have c0 : (0 : Int) < cs.length := by have := hC.len1; omega
  refine call_is rfl rfl ?_; simp only [List.map_cons, List.map_nil, List.cons_append, List.nil_append, List.replicate_succ, List.replicate_zero, Nat.reduceSub]
  try simp (decide := true) only [↓i_var, ↓i_con, ↓i_kon, ↓i_bin, ↓i_neg, ↓i_not, ↓i_and, ↓i_or, ↓i_and0, ↓i_or0, ↓i_and1, ↓i_or1, ↓i_cmp, ↓i_chain, ↓i_lst, ↓i_tup, ↓i_dnew, ↓i_call, ↓i_mk, ↓i_bcall, ↓i_isi, ↓i_meth, ↓i_sel, ↓i_selL, ↓i_fld, ↓i_idx, ↓i_sl, ↓i_lrng, ↓i_lc, ↓i_nil, ↓i_cons, ↓i_o0, ↓i_o1, ↓i_opt, ↓i_seq, ↓i_rng1, ↓i_rng2, ↓i_enum, ↓i_zip, ↓i_wk, ↓i_tst, ↓ws_done, ↓ws_asg, ↓ws_asgT, ↓ws_ofE, ↓ws_of, ↓ws_asgF, ↓ws_asgI, ↓ws_aug, ↓ws_expr, ↓ws_ret, ↓ws_retN, ↓ws_ite, ↓ws_loop, ↓ws_whil, ↓boolIs_b, ↓intIs_i, ↓slot_0, ↓slot_1, ↓set_0, ↓set_1, ↓R.is_ok, ↓SR.is_rt, ↓SR.is_nx, ↓i_ofB, ↓wt_non, ↓wt_bl, ↓wt_int, ↓wt_str, ↓wt_tup, ↓wt_rol, ↓ib_add, ↓ib_sub, ↓ib_fdiv, ↓ib_mod, ↓ib_pow, ↓ib_band, ↓ib_shr, ↓ic_lt, ↓ic_le, ↓ic_gt, ↓ic_ge, ↓ic_is, ↓ic_isnot, ↓ic_eqI, ↓ic_neI, ↓ic_eqB, ↓ic_in1, ↓il_lenT, ↓tx_0, ↓tx_1, ↓tx_2, ↓ineg_i, ↓ws_try, ↓i_isx, ↓xx_done, ↓xx_rais, decide_true, decide_false, Bool.not_true, Bool.not_false, List.length_cons, List.length_nil, Int.reduceToNat, decide_eq_true_eq, Bool.not_eq_true', decide_eq_false_iff_not, Bool.true_eq_false, Bool.false_eq_true, if_true, if_false, reduceCtorEq, not_false_eq_true, not_true_eq_false, or_false, or_true, and_true, true_and, List.nil_append, List.cons_append, c_law_bad_wires, ↓ix_ints ha (show (0 : Int) ≤ 0 by decide) c0, ↓il_len ha, List.length_map]
  have g1 := get_push st (AO.lst (l1 (cs.getD 0 0) (cs.length : Nat)))
  have x1 := Ext.push st (AO.lst (l1 (cs.getD 0 0) (cs.length : Nat)))
  have e1 : (.lst (l1 (cs.getD 0 0) (cs.length : Nat)) : AO) = AO.lst [.tup [.tup [.int 0, .int (cs.getD 0 0)], oneV], .tup [oneV, .tup [.int (cs.length : Nat), .int 0]], .tup [.tup [.int 0, .int (-1)], oneV], .tup [.tup [.int (-1), .int 0], oneV], .tup [oneV, oneV], .tup [oneV]] := rfl
  rw [e1] at x1
  generalize hs1 : st ++ [AO.lst [.tup [.tup [.int 0, .int (cs.getD 0 0)], oneV], .tup [oneV, .tup [.int (cs.length : Nat), .int 0]], .tup [.tup [.int 0, .int (-1)], oneV], .tup [.tup [.int (-1), .int 0], oneV], .tup [oneV, oneV], .tup [oneV]]] = s1 at x1 ⊢
  have g1' : s1[st.length]? = some (.lst (l1 (cs.getD 0 0) (cs.length : Nat))) := by rw [← hs1]; exact g1
  clear g1 e1 hs1
  refine cat_is (st := st) (ys := l2 s1.length) (x1.trans (Ext.push _ _)) (Ext.push _ _ _ _ g1') (by simp [l1, l2]) fun s2 r2 y2 x2 _ g2 => ?_
  have p1 := y2 _ _ (get_push s1 (AO.lst [.int 0, .int 0]))
  clear g1' x1
  try simp (decide := true) only [↓i_var, ↓i_con, ↓i_kon, ↓i_bin, ↓i_neg, ↓i_not, ↓i_and, ↓i_or, ↓i_and0, ↓i_or0, ↓i_and1, ↓i_or1, ↓i_cmp, ↓i_chain, ↓i_lst, ↓i_tup, ↓i_dnew, ↓i_call, ↓i_mk, ↓i_bcall, ↓i_isi, ↓i_meth, ↓i_sel, ↓i_selL, ↓i_fld, ↓i_idx, ↓i_sl, ↓i_lrng, ↓i_lc, ↓i_nil, ↓i_cons, ↓i_o0, ↓i_o1, ↓i_opt, ↓i_seq, ↓i_rng1, ↓i_rng2, ↓i_enum, ↓i_zip, ↓i_wk, ↓i_tst, ↓ws_done, ↓ws_asg, ↓ws_asgT, ↓ws_ofE, ↓ws_of, ↓ws_asgF, ↓ws_asgI, ↓ws_aug, ↓ws_expr, ↓ws_ret, ↓ws_retN, ↓ws_ite, ↓ws_loop, ↓ws_whil, ↓boolIs_b, ↓intIs_i, ↓slot_0, ↓slot_1, ↓set_0, ↓set_1, ↓R.is_ok, ↓SR.is_rt, ↓SR.is_nx, ↓i_ofB, ↓wt_non, ↓wt_bl, ↓wt_int, ↓wt_str, ↓wt_tup, ↓wt_rol, ↓ib_add, ↓ib_sub, ↓ib_fdiv, ↓ib_mod, ↓ib_pow, ↓ib_band, ↓ib_shr, ↓ic_lt, ↓ic_le, ↓ic_gt, ↓ic_ge, ↓ic_is, ↓ic_isnot, ↓ic_eqI, ↓ic_neI, ↓ic_eqB, ↓ic_in1, ↓il_lenT, ↓tx_0, ↓tx_1, ↓tx_2, ↓ineg_i, ↓ws_try, ↓i_isx, ↓xx_done, ↓xx_rais, decide_true, decide_false, Bool.not_true, Bool.not_false, List.length_cons, List.length_nil, Int.reduceToNat, decide_eq_true_eq, Bool.not_eq_true', decide_eq_false_iff_not, Bool.true_eq_false, Bool.false_eq_true, if_true, if_false, reduceCtorEq, not_false_eq_true, not_true_eq_false, or_false, or_true, and_true, true_and, List.nil_append, List.cons_append]
  refine cat_is (st := st) (ys := l3 s2.length) (x2.trans (Ext.push _ _)) (Ext.push _ _ _ _ g2) (by simp [l1, l2, l3]) fun s3 r3 y3 x3 _ g3 => ?_
  have p2 := y3 _ _ (get_push s2 (AO.lst [oneV, oneV]))
  have p1 := y3 _ _ (Ext.push s2 (AO.lst [oneV, oneV]) _ _ p1)
  clear g2 x2 y2 y3
  try simp (decide := true) only [↓i_var, ↓i_con, ↓i_kon, ↓i_bin, ↓i_neg, ↓i_not, ↓i_and, ↓i_or, ↓i_and0, ↓i_or0, ↓i_and1, ↓i_or1, ↓i_cmp, ↓i_chain, ↓i_lst, ↓i_tup, ↓i_dnew, ↓i_call, ↓i_mk, ↓i_bcall, ↓i_isi, ↓i_meth, ↓i_sel, ↓i_selL, ↓i_fld, ↓i_idx, ↓i_sl, ↓i_lrng, ↓i_lc, ↓i_nil, ↓i_cons, ↓i_o0, ↓i_o1, ↓i_opt, ↓i_seq, ↓i_rng1, ↓i_rng2, ↓i_enum, ↓i_zip, ↓i_wk, ↓i_tst, ↓ws_done, ↓ws_asg, ↓ws_asgT, ↓ws_ofE, ↓ws_of, ↓ws_asgF, ↓ws_asgI, ↓ws_aug, ↓ws_expr, ↓ws_ret, ↓ws_retN, ↓ws_ite, ↓ws_loop, ↓ws_whil, ↓boolIs_b, ↓intIs_i, ↓slot_0, ↓slot_1, ↓set_0, ↓set_1, ↓R.is_ok, ↓SR.is_rt, ↓SR.is_nx, ↓i_ofB, ↓wt_non, ↓wt_bl, ↓wt_int, ↓wt_str, ↓wt_tup, ↓wt_rol, ↓ib_add, ↓ib_sub, ↓ib_fdiv, ↓ib_mod, ↓ib_pow, ↓ib_band, ↓ib_shr, ↓ic_lt, ↓ic_le, ↓ic_gt, ↓ic_ge, ↓ic_is, ↓ic_isnot, ↓ic_eqI, ↓ic_neI, ↓ic_eqB, ↓ic_in1, ↓il_lenT, ↓tx_0, ↓tx_1, ↓tx_2, ↓ineg_i, ↓ws_try, ↓i_isx, ↓xx_done, ↓xx_rais, decide_true, decide_false, Bool.not_true, Bool.not_false, List.length_cons, List.length_nil, Int.reduceToNat, decide_eq_true_eq, Bool.not_eq_true', decide_eq_false_iff_not, Bool.true_eq_false, Bool.false_eq_true, if_true, if_false, reduceCtorEq, not_false_eq_true, not_true_eq_false, or_false, or_true, and_true, true_and, List.nil_append, List.cons_append, ↓il_listL (x3 _ _ hb)]
  have x4 := Ext.push s3 (AO.lst (ws.map wireV))
  have g4 := get_push s3 (AO.lst (ws.map wireV))
  have l4 := x3.lt
  generalize s3 ++ [AO.lst (ws.map wireV)] = s4 at x4 g4 ⊢
  generalize s3.length = r5 at g4 l4 ⊢
  have m18 : 0 ≤ N % 18 ∧ N % 18 < 18 := by omega
  refine ix_mem (xs := l1 (cs.getD 0 0) (cs.length : Nat) ++ l2 s1.length ++ l3 s2.length) (f := fun x => x) (by rw [List.map_id']; exact x4 _ _ g3) m18.1 (by simp only [l1, l2, l3, List.length_append, List.length_cons, List.length_nil]; exact m18.2) fun x hx => ?_
  have hx : BadE cs s4 x := by
    rcases List.mem_append.mp hx with hx | hx
    · rcases List.mem_append.mp hx with hx | hx
      · exact bad_1 (by have := hC.len1; omega) x hx
      · exact bad_2 (x4 _ _ p1) x hx
    · exact bad_3 (x4 _ _ p2) x hx
  have hE := x3.trans x4
  have hb4 := hE _ _ hb
  split
  · try simp (decide := true) only [↓i_var, ↓i_con, ↓i_kon, ↓i_bin, ↓i_neg, ↓i_not, ↓i_and, ↓i_or, ↓i_and0, ↓i_or0, ↓i_and1, ↓i_or1, ↓i_cmp, ↓i_chain, ↓i_lst, ↓i_tup, ↓i_dnew, ↓i_call, ↓i_mk, ↓i_bcall, ↓i_isi, ↓i_meth, ↓i_sel, ↓i_selL, ↓i_fld, ↓i_idx, ↓i_sl, ↓i_lrng, ↓i_lc, ↓i_nil, ↓i_cons, ↓i_o0, ↓i_o1, ↓i_opt, ↓i_seq, ↓i_rng1, ↓i_rng2, ↓i_enum, ↓i_zip, ↓i_wk, ↓i_tst, ↓ws_done, ↓ws_asg, ↓ws_asgT, ↓ws_ofE, ↓ws_of, ↓ws_asgF, ↓ws_asgI, ↓ws_aug, ↓ws_expr, ↓ws_ret, ↓ws_retN, ↓ws_ite, ↓ws_loop, ↓ws_whil, ↓boolIs_b, ↓intIs_i, ↓slot_0, ↓slot_1, ↓set_0, ↓set_1, ↓R.is_ok, ↓SR.is_rt, ↓SR.is_nx, ↓i_ofB, ↓wt_non, ↓wt_bl, ↓wt_int, ↓wt_str, ↓wt_tup, ↓wt_rol, ↓ib_add, ↓ib_sub, ↓ib_fdiv, ↓ib_mod, ↓ib_pow, ↓ib_band, ↓ib_shr, ↓ic_lt, ↓ic_le, ↓ic_gt, ↓ic_ge, ↓ic_is, ↓ic_isnot, ↓ic_eqI, ↓ic_neI, ↓ic_eqB, ↓ic_in1, ↓il_lenT, ↓tx_0, ↓tx_1, ↓tx_2, ↓ineg_i, ↓ws_try, ↓i_isx, ↓xx_done, ↓xx_rais, decide_true, decide_false, Bool.not_true, Bool.not_false, List.length_cons, List.length_nil, Int.reduceToNat, decide_eq_true_eq, Bool.not_eq_true', decide_eq_false_iff_not, Bool.true_eq_false, Bool.false_eq_true, if_true, if_false, reduceCtorEq, not_false_eq_true, not_true_eq_false, or_false, or_true, and_true, true_and, List.nil_append, List.cons_append, ↓il_len hb4, List.length_map]
    split
    · rename_i h0
      have hm : (0 : Int) < (ws.length : Nat) := h0
      try simp (decide := true) only [↓i_var, ↓i_con, ↓i_kon, ↓i_bin, ↓i_neg, ↓i_not, ↓i_and, ↓i_or, ↓i_and0, ↓i_or0, ↓i_and1, ↓i_or1, ↓i_cmp, ↓i_chain, ↓i_lst, ↓i_tup, ↓i_dnew, ↓i_call, ↓i_mk, ↓i_bcall, ↓i_isi, ↓i_meth, ↓i_sel, ↓i_selL, ↓i_fld, ↓i_idx, ↓i_sl, ↓i_lrng, ↓i_lc, ↓i_nil, ↓i_cons, ↓i_o0, ↓i_o1, ↓i_opt, ↓i_seq, ↓i_rng1, ↓i_rng2, ↓i_enum, ↓i_zip, ↓i_wk, ↓i_tst, ↓ws_done, ↓ws_asg, ↓ws_asgT, ↓ws_ofE, ↓ws_of, ↓ws_asgF, ↓ws_asgI, ↓ws_aug, ↓ws_expr, ↓ws_ret, ↓ws_retN, ↓ws_ite, ↓ws_loop, ↓ws_whil, ↓boolIs_b, ↓intIs_i, ↓slot_0, ↓slot_1, ↓set_0, ↓set_1, ↓R.is_ok, ↓SR.is_rt, ↓SR.is_nx, ↓i_ofB, ↓wt_non, ↓wt_bl, ↓wt_int, ↓wt_str, ↓wt_tup, ↓wt_rol, ↓ib_add, ↓ib_sub, ↓ib_fdiv, ↓ib_mod, ↓ib_pow, ↓ib_band, ↓ib_shr, ↓ic_lt, ↓ic_le, ↓ic_gt, ↓ic_ge, ↓ic_is, ↓ic_isnot, ↓ic_eqI, ↓ic_neI, ↓ic_eqB, ↓ic_in1, ↓il_lenT, ↓tx_0, ↓tx_1, ↓tx_2, ↓ineg_i, ↓ws_try, ↓i_isx, ↓xx_done, ↓xx_rais, decide_true, decide_false, Bool.not_true, Bool.not_false, List.length_cons, List.length_nil, Int.reduceToNat, decide_eq_true_eq, Bool.not_eq_true', decide_eq_false_iff_not, Bool.true_eq_false, Bool.false_eq_true, if_true, if_false, reduceCtorEq, not_false_eq_true, not_true_eq_false, or_false, or_true, and_true, true_and, List.nil_append, List.cons_append, ↓il_len hb4, List.length_map, ↓ib_mod hm]
      refine ix_mem hb4 (Int.emod_nonneg _ (by omega)) (Int.emod_lt_of_pos _ hm) fun w hw => ?_
      try simp (decide := true) only [↓i_var, ↓i_con, ↓i_kon, ↓i_bin, ↓i_neg, ↓i_not, ↓i_and, ↓i_or, ↓i_and0, ↓i_or0, ↓i_and1, ↓i_or1, ↓i_cmp, ↓i_chain, ↓i_lst, ↓i_tup, ↓i_dnew, ↓i_call, ↓i_mk, ↓i_bcall, ↓i_isi, ↓i_meth, ↓i_sel, ↓i_selL, ↓i_fld, ↓i_idx, ↓i_sl, ↓i_lrng, ↓i_lc, ↓i_nil, ↓i_cons, ↓i_o0, ↓i_o1, ↓i_opt, ↓i_seq, ↓i_rng1, ↓i_rng2, ↓i_enum, ↓i_zip, ↓i_wk, ↓i_tst, ↓ws_done, ↓ws_asg, ↓ws_asgT, ↓ws_ofE, ↓ws_of, ↓ws_asgF, ↓ws_asgI, ↓ws_aug, ↓ws_expr, ↓ws_ret, ↓ws_retN, ↓ws_ite, ↓ws_loop, ↓ws_whil, ↓boolIs_b, ↓intIs_i, ↓slot_0, ↓slot_1, ↓set_0, ↓set_1, ↓R.is_ok, ↓SR.is_rt, ↓SR.is_nx, ↓i_ofB, ↓wt_non, ↓wt_bl, ↓wt_int, ↓wt_str, ↓wt_tup, ↓wt_rol, ↓ib_add, ↓ib_sub, ↓ib_fdiv, ↓ib_mod, ↓ib_pow, ↓ib_band, ↓ib_shr, ↓ic_lt, ↓ic_le, ↓ic_gt, ↓ic_ge, ↓ic_is, ↓ic_isnot, ↓ic_eqI, ↓ic_neI, ↓ic_eqB, ↓ic_in1, ↓il_lenT, ↓tx_0, ↓tx_1, ↓tx_2, ↓ineg_i, ↓ws_try, ↓i_isx, ↓xx_done, ↓xx_rais, decide_true, decide_false, Bool.not_true, Bool.not_false, List.length_cons, List.length_nil, Int.reduceToNat, decide_eq_true_eq, Bool.not_eq_true', decide_eq_false_iff_not, Bool.true_eq_false, Bool.false_eq_true, if_true, if_false, reduceCtorEq, not_false_eq_true, not_true_eq_false, or_false, or_true, and_true, true_and, List.nil_append, List.cons_append, wireV]
      have x5 := Ext.push s4 (AO.lst ([(w.1, (0, 0)), (w.2, w.1), w].map wireV))
      have g5 := get_push s4 (AO.lst ([(w.1, (0, 0)), (w.2, w.1), w].map wireV))
      have m3 : 0 ≤ N / 540 % 3 ∧ N / 540 % 3 < 3 := by omega
      refine ix_mem (xs := [(w.1, (0, 0)), (w.2, w.1), w]) (f := wireV) g5 m3.1 m3.2 fun v hv => ?_
      have w1 : w.1 ∈ endsOf ws := List.mem_flatMap.mpr ⟨w, hw, by simp⟩
      have w2 : w.2 ∈ endsOf ws := List.mem_flatMap.mpr ⟨w, hw, by simp⟩
      try simp (decide := true) only [↓i_var, ↓i_con, ↓i_kon, ↓i_bin, ↓i_neg, ↓i_not, ↓i_and, ↓i_or, ↓i_and0, ↓i_or0, ↓i_and1, ↓i_or1, ↓i_cmp, ↓i_chain, ↓i_lst, ↓i_tup, ↓i_dnew, ↓i_call, ↓i_mk, ↓i_bcall, ↓i_isi, ↓i_meth, ↓i_sel, ↓i_selL, ↓i_fld, ↓i_idx, ↓i_sl, ↓i_lrng, ↓i_lc, ↓i_nil, ↓i_cons, ↓i_o0, ↓i_o1, ↓i_opt, ↓i_seq, ↓i_rng1, ↓i_rng2, ↓i_enum, ↓i_zip, ↓i_wk, ↓i_tst, ↓ws_done, ↓ws_asg, ↓ws_asgT, ↓ws_ofE, ↓ws_of, ↓ws_asgF, ↓ws_asgI, ↓ws_aug, ↓ws_expr, ↓ws_ret, ↓ws_retN, ↓ws_ite, ↓ws_loop, ↓ws_whil, ↓boolIs_b, ↓intIs_i, ↓slot_0, ↓slot_1, ↓set_0, ↓set_1, ↓R.is_ok, ↓SR.is_rt, ↓SR.is_nx, ↓i_ofB, ↓wt_non, ↓wt_bl, ↓wt_int, ↓wt_str, ↓wt_tup, ↓wt_rol, ↓ib_add, ↓ib_sub, ↓ib_fdiv, ↓ib_mod, ↓ib_pow, ↓ib_band, ↓ib_shr, ↓ic_lt, ↓ic_le, ↓ic_gt, ↓ic_ge, ↓ic_is, ↓ic_isnot, ↓ic_eqI, ↓ic_neI, ↓ic_eqB, ↓ic_in1, ↓il_lenT, ↓tx_0, ↓tx_1, ↓tx_2, ↓ineg_i, ↓ws_try, ↓i_isx, ↓xx_done, ↓xx_rais, decide_true, decide_false, Bool.not_true, Bool.not_false, List.length_cons, List.length_nil, Int.reduceToNat, decide_eq_true_eq, Bool.not_eq_true', decide_eq_false_iff_not, Bool.true_eq_false, Bool.false_eq_true, if_true, if_false, reduceCtorEq, not_false_eq_true, not_true_eq_false, or_false, or_true, and_true, true_and, List.nil_append, List.cons_append]
      refine ins_bad hN (hE.trans x5) l4 hb hl (x5 _ _ g4) (ty3_wire _ v) (.inr ⟨v, rfl, ?_⟩) q
      simp only [List.mem_cons, List.not_mem_nil, or_false] at hv
      rcases hv with rfl | rfl | rfl
      · exact w1
      · exact w2
      · exact w1
    · try simp (decide := true) only [↓i_var, ↓i_con, ↓i_kon, ↓i_bin, ↓i_neg, ↓i_not, ↓i_and, ↓i_or, ↓i_and0, ↓i_or0, ↓i_and1, ↓i_or1, ↓i_cmp, ↓i_chain, ↓i_lst, ↓i_tup, ↓i_dnew, ↓i_call, ↓i_mk, ↓i_bcall, ↓i_isi, ↓i_meth, ↓i_sel, ↓i_selL, ↓i_fld, ↓i_idx, ↓i_sl, ↓i_lrng, ↓i_lc, ↓i_nil, ↓i_cons, ↓i_o0, ↓i_o1, ↓i_opt, ↓i_seq, ↓i_rng1, ↓i_rng2, ↓i_enum, ↓i_zip, ↓i_wk, ↓i_tst, ↓ws_done, ↓ws_asg, ↓ws_asgT, ↓ws_ofE, ↓ws_of, ↓ws_asgF, ↓ws_asgI, ↓ws_aug, ↓ws_expr, ↓ws_ret, ↓ws_retN, ↓ws_ite, ↓ws_loop, ↓ws_whil, ↓boolIs_b, ↓intIs_i, ↓slot_0, ↓slot_1, ↓set_0, ↓set_1, ↓R.is_ok, ↓SR.is_rt, ↓SR.is_nx, ↓i_ofB, ↓wt_non, ↓wt_bl, ↓wt_int, ↓wt_str, ↓wt_tup, ↓wt_rol, ↓ib_add, ↓ib_sub, ↓ib_fdiv, ↓ib_mod, ↓ib_pow, ↓ib_band, ↓ib_shr, ↓ic_lt, ↓ic_le, ↓ic_gt, ↓ic_ge, ↓ic_is, ↓ic_isnot, ↓ic_eqI, ↓ic_neI, ↓ic_eqB, ↓ic_in1, ↓il_lenT, ↓tx_0, ↓tx_1, ↓tx_2, ↓ineg_i, ↓ws_try, ↓i_isx, ↓xx_done, ↓xx_rais, decide_true, decide_false, Bool.not_true, Bool.not_false, List.length_cons, List.length_nil, Int.reduceToNat, decide_eq_true_eq, Bool.not_eq_true', decide_eq_false_iff_not, Bool.true_eq_false, Bool.false_eq_true, if_true, if_false, reduceCtorEq, not_false_eq_true, not_true_eq_false, or_false, or_true, and_true, true_and, List.nil_append, List.cons_append]
      exact ins_bad hN hE l4 hb hl g4 hx.1 (.inl hx) q
  · try simp (decide := true) only [↓i_var, ↓i_con, ↓i_kon, ↓i_bin, ↓i_neg, ↓i_not, ↓i_and, ↓i_or, ↓i_and0, ↓i_or0, ↓i_and1, ↓i_or1, ↓i_cmp, ↓i_chain, ↓i_lst, ↓i_tup, ↓i_dnew, ↓i_call, ↓i_mk, ↓i_bcall, ↓i_isi, ↓i_meth, ↓i_sel, ↓i_selL, ↓i_fld, ↓i_idx, ↓i_sl, ↓i_lrng, ↓i_lc, ↓i_nil, ↓i_cons, ↓i_o0, ↓i_o1, ↓i_opt, ↓i_seq, ↓i_rng1, ↓i_rng2, ↓i_enum, ↓i_zip, ↓i_wk, ↓i_tst, ↓ws_done, ↓ws_asg, ↓ws_asgT, ↓ws_ofE, ↓ws_of, ↓ws_asgF, ↓ws_asgI, ↓ws_aug, ↓ws_expr, ↓ws_ret, ↓ws_retN, ↓ws_ite, ↓ws_loop, ↓ws_whil, ↓boolIs_b, ↓intIs_i, ↓slot_0, ↓slot_1, ↓set_0, ↓set_1, ↓R.is_ok, ↓SR.is_rt, ↓SR.is_nx, ↓i_ofB, ↓wt_non, ↓wt_bl, ↓wt_int, ↓wt_str, ↓wt_tup, ↓wt_rol, ↓ib_add, ↓ib_sub, ↓ib_fdiv, ↓ib_mod, ↓ib_pow, ↓ib_band, ↓ib_shr, ↓ic_lt, ↓ic_le, ↓ic_gt, ↓ic_ge, ↓ic_is, ↓ic_isnot, ↓ic_eqI, ↓ic_neI, ↓ic_eqB, ↓ic_in1, ↓il_lenT, ↓tx_0, ↓tx_1, ↓tx_2, ↓ineg_i, ↓ws_try, ↓i_isx, ↓xx_done, ↓xx_rais, decide_true, decide_false, Bool.not_true, Bool.not_false, List.length_cons, List.length_nil, Int.reduceToNat, decide_eq_true_eq, Bool.not_eq_true', decide_eq_false_iff_not, Bool.true_eq_false, Bool.false_eq_true, if_true, if_false, reduceCtorEq, not_false_eq_true, not_true_eq_false, or_false, or_true, and_true, true_and, List.nil_append, List.cons_append]
    exact ins_bad hN hE l4 hb hl g4 hx.1 (.inl hx) q
/-! ### counts that are none -/
theorem bad_counts {n a : Nat} {st : Sto} {cs : List Int} {N : Int} {Q : AV → Sto → Prop} (hN : 0 ≤ N) (ha : st[a]? = some (.lst (cs.map AV.int))) (hC : CntOk cs) (q : ∀ s v, Ext st s → BadC s v → Q v s) : (callF tab (n + 1) g_law_bad_counts [.ref a, .int N] st).Is Q := by
  have c0 : (0 : Int) < cs.length := by have := hC.len1; omega
  have m8 : 0 ≤ N / 8 % 8 ∧ N / 8 % 8 < 8 := by omega
  have m56 : 0 ≤ N / 56 % 8 ∧ N / 56 % 8 < 8 := by omega
  have bl : ∀ (s : Sto) (r : Nat) (xs : List Int), s[r]? = some (.lst (xs.map AV.int)) → (xs.length < 1 ∨ 6 < xs.length) → BadC s (.ref r) := fun s r xs h k => bad_c_list h (fun x hx => by obtain ⟨i, _, rfl⟩ := List.mem_map.mp hx; exact trivial) (by rw [List.length_map]; exact k.elim .inl fun k => .inr (.inl k))
  refine call_is rfl rfl ?_; simp only [List.map_cons, List.map_nil, List.cons_append, List.nil_append, List.replicate_succ, List.replicate_zero, Nat.reduceSub]
  try simp (decide := true) only [↓i_var, ↓i_con, ↓i_kon, ↓i_bin, ↓i_neg, ↓i_not, ↓i_and, ↓i_or, ↓i_and0, ↓i_or0, ↓i_and1, ↓i_or1, ↓i_cmp, ↓i_chain, ↓i_lst, ↓i_tup, ↓i_dnew, ↓i_call, ↓i_mk, ↓i_bcall, ↓i_isi, ↓i_meth, ↓i_sel, ↓i_selL, ↓i_fld, ↓i_idx, ↓i_sl, ↓i_lrng, ↓i_lc, ↓i_nil, ↓i_cons, ↓i_o0, ↓i_o1, ↓i_opt, ↓i_seq, ↓i_rng1, ↓i_rng2, ↓i_enum, ↓i_zip, ↓i_wk, ↓i_tst, ↓ws_done, ↓ws_asg, ↓ws_asgT, ↓ws_ofE, ↓ws_of, ↓ws_asgF, ↓ws_asgI, ↓ws_aug, ↓ws_expr, ↓ws_ret, ↓ws_retN, ↓ws_ite, ↓ws_loop, ↓ws_whil, ↓boolIs_b, ↓intIs_i, ↓slot_0, ↓slot_1, ↓set_0, ↓set_1, ↓R.is_ok, ↓SR.is_rt, ↓SR.is_nx, ↓i_ofB, ↓wt_non, ↓wt_bl, ↓wt_int, ↓wt_str, ↓wt_tup, ↓wt_rol, ↓ib_add, ↓ib_sub, ↓ib_fdiv, ↓ib_mod, ↓ib_pow, ↓ib_band, ↓ib_shr, ↓ic_lt, ↓ic_le, ↓ic_gt, ↓ic_ge, ↓ic_is, ↓ic_isnot, ↓ic_eqI, ↓ic_neI, ↓ic_eqB, ↓ic_in1, ↓il_lenT, ↓tx_0, ↓tx_1, ↓tx_2, ↓ineg_i, ↓ws_try, ↓i_isx, ↓xx_done, ↓xx_rais, decide_true, decide_false, Bool.not_true, Bool.not_false, List.length_cons, List.length_nil, Int.reduceToNat, decide_eq_true_eq, Bool.not_eq_true', decide_eq_false_iff_not, Bool.true_eq_false, Bool.false_eq_true, if_true, if_false, reduceCtorEq, not_false_eq_true, not_true_eq_false, or_false, or_true, and_true, true_and, List.nil_append, List.cons_append, c_law_bad_counts]
  split
  · have a0 := get_push st (AO.lst [])
    have z0 := Ext.push st (AO.lst [])
    generalize st ++ [AO.lst []] = s0 at a0 z0 ⊢
    have ek : -(2 ^ 63) ≤ (7 : Int) ∧ (7 : Int) < 2 ^ 63 ∧ [AV.int 1].length * (7 : Int).toNat ≤ lim := by decide
    rw [ib_mulR (get_push s0 (AO.lst [.int 1])) ek]
    have z1 := z0.trans (Ext.push s0 (AO.lst [.int 1]))
    have a0 := Ext.push s0 (AO.lst [.int 1]) _ _ a0
    generalize s0 ++ [AO.lst [.int 1]] = s1 at a0 z1 ⊢
    have e7 : (List.replicate (7 : Int).toNat [AV.int 1]).flatten = [1, 1, 1, 1, 1, 1, 1].map AV.int := rfl
    rw [e7]
    have a1 := get_push s1 (AO.lst ([1, 1, 1, 1, 1, 1, 1].map AV.int))
    have z2 := z1.trans (Ext.push s1 (AO.lst ([1, 1, 1, 1, 1, 1, 1].map AV.int)))
    have a0 := Ext.push s1 (AO.lst ([1, 1, 1, 1, 1, 1, 1].map AV.int)) _ _ a0
    generalize s1 ++ [AO.lst ([1, 1, 1, 1, 1, 1, 1].map AV.int)] = s2 at a0 a1 z2 ⊢
    try simp (decide := true) only [↓i_var, ↓i_con, ↓i_kon, ↓i_bin, ↓i_neg, ↓i_not, ↓i_and, ↓i_or, ↓i_and0, ↓i_or0, ↓i_and1, ↓i_or1, ↓i_cmp, ↓i_chain, ↓i_lst, ↓i_tup, ↓i_dnew, ↓i_call, ↓i_mk, ↓i_bcall, ↓i_isi, ↓i_meth, ↓i_sel, ↓i_selL, ↓i_fld, ↓i_idx, ↓i_sl, ↓i_lrng, ↓i_lc, ↓i_nil, ↓i_cons, ↓i_o0, ↓i_o1, ↓i_opt, ↓i_seq, ↓i_rng1, ↓i_rng2, ↓i_enum, ↓i_zip, ↓i_wk, ↓i_tst, ↓ws_done, ↓ws_asg, ↓ws_asgT, ↓ws_ofE, ↓ws_of, ↓ws_asgF, ↓ws_asgI, ↓ws_aug, ↓ws_expr, ↓ws_ret, ↓ws_retN, ↓ws_ite, ↓ws_loop, ↓ws_whil, ↓boolIs_b, ↓intIs_i, ↓slot_0, ↓slot_1, ↓set_0, ↓set_1, ↓R.is_ok, ↓SR.is_rt, ↓SR.is_nx, ↓i_ofB, ↓wt_non, ↓wt_bl, ↓wt_int, ↓wt_str, ↓wt_tup, ↓wt_rol, ↓ib_add, ↓ib_sub, ↓ib_fdiv, ↓ib_mod, ↓ib_pow, ↓ib_band, ↓ib_shr, ↓ic_lt, ↓ic_le, ↓ic_gt, ↓ic_ge, ↓ic_is, ↓ic_isnot, ↓ic_eqI, ↓ic_neI, ↓ic_eqB, ↓ic_in1, ↓il_lenT, ↓tx_0, ↓tx_1, ↓tx_2, ↓ineg_i, ↓ws_try, ↓i_isx, ↓xx_done, ↓xx_rais, decide_true, decide_false, Bool.not_true, Bool.not_false, List.length_cons, List.length_nil, Int.reduceToNat, decide_eq_true_eq, Bool.not_eq_true', decide_eq_false_iff_not, Bool.true_eq_false, Bool.false_eq_true, if_true, if_false, reduceCtorEq, not_false_eq_true, not_true_eq_false, or_false, or_true, and_true, true_and, List.nil_append, List.cons_append, ↓il_tupleL (z2 _ _ ha)]
    have a2 := get_push s2 (AO.dK [])
    have z3 := z2.trans (Ext.push s2 (AO.dK []))
    have a1 := Ext.push s2 (AO.dK []) _ _ a1
    have a0 := Ext.push s2 (AO.dK []) _ _ a0
    generalize s2 ++ [AO.dK []] = s3 at a0 a1 a2 z3 ⊢
    have a3 := get_push s3 (AO.lst ([4, 4, 4, 4, 4, 4, 4, 4].map AV.int))
    have z4 := z3.trans (Ext.push s3 (AO.lst ([4, 4, 4, 4, 4, 4, 4, 4].map AV.int)))
    have a2 := Ext.push s3 (AO.lst ([4, 4, 4, 4, 4, 4, 4, 4].map AV.int)) _ _ a2
    have a1 := Ext.push s3 (AO.lst ([4, 4, 4, 4, 4, 4, 4, 4].map AV.int)) _ _ a1
    have a0 := Ext.push s3 (AO.lst ([4, 4, 4, 4, 4, 4, 4, 4].map AV.int)) _ _ a0
    simp only [List.map_cons, List.map_nil] at a0 a1 a2 a3 z4
    generalize s3 ++ [AO.lst [.int 4, .int 4, .int 4, .int 4, .int 4, .int 4, .int 4, .int 4]] = s4 at a0 a1 a2 a3 z4 ⊢
    generalize hL : ([.ref st.length, .ref s1.length, .non, .tup (cs.map AV.int), .str [50], .int 3, .ref s2.length, .ref s3.length] : List AV) = L
    have z5 := Ext.push s4 (AO.lst L)
    have g5 := get_push s4 (AO.lst L)
    have zz := z4.trans z5
    generalize s4 ++ [AO.lst L] = s5 at g5 z5 zz ⊢
    have hl8 : (L.length : Int) = 8 := by rw [← hL]; rfl
    refine ix_mem (xs := L) (f := fun x => x) (by rw [List.map_id']; exact g5) m8.1 (by rw [hl8]; exact m8.2) fun x hx => q _ _ zz ?_
    rw [← hL] at hx
    simp only [List.mem_cons, List.not_mem_nil, or_false] at hx
    rcases hx with rfl | rfl | rfl | rfl | rfl | rfl | rfl | rfl
    · exact bl s5 _ [] (z5 _ _ a0) (.inl (by decide))
    · exact bl s5 _ [1, 1, 1, 1, 1, 1, 1] (z5 _ _ a1) (.inr (by decide))
    · exact bad_c_non trivial (by intro z; cases z)
    · exact bad_c_non trivial (by intro z; cases z)
    · exact bad_c_non ⟨rfl, by decide⟩ (by intro z; cases z)
    · exact bad_c_non trivial (by intro z; cases z)
    · exact bad_c_non (.inr ⟨[], z5 _ _ a2⟩) (by simp [kndOf, z5 _ _ a2])
    · exact bl s5 _ [4, 4, 4, 4, 4, 4, 4, 4] (z5 _ _ a3) (.inr (by decide))
  · try simp (decide := true) only [↓i_var, ↓i_con, ↓i_kon, ↓i_bin, ↓i_neg, ↓i_not, ↓i_and, ↓i_or, ↓i_and0, ↓i_or0, ↓i_and1, ↓i_or1, ↓i_cmp, ↓i_chain, ↓i_lst, ↓i_tup, ↓i_dnew, ↓i_call, ↓i_mk, ↓i_bcall, ↓i_isi, ↓i_meth, ↓i_sel, ↓i_selL, ↓i_fld, ↓i_idx, ↓i_sl, ↓i_lrng, ↓i_lc, ↓i_nil, ↓i_cons, ↓i_o0, ↓i_o1, ↓i_opt, ↓i_seq, ↓i_rng1, ↓i_rng2, ↓i_enum, ↓i_zip, ↓i_wk, ↓i_tst, ↓ws_done, ↓ws_asg, ↓ws_asgT, ↓ws_ofE, ↓ws_of, ↓ws_asgF, ↓ws_asgI, ↓ws_aug, ↓ws_expr, ↓ws_ret, ↓ws_retN, ↓ws_ite, ↓ws_loop, ↓ws_whil, ↓boolIs_b, ↓intIs_i, ↓slot_0, ↓slot_1, ↓set_0, ↓set_1, ↓R.is_ok, ↓SR.is_rt, ↓SR.is_nx, ↓i_ofB, ↓wt_non, ↓wt_bl, ↓wt_int, ↓wt_str, ↓wt_tup, ↓wt_rol, ↓ib_add, ↓ib_sub, ↓ib_fdiv, ↓ib_mod, ↓ib_pow, ↓ib_band, ↓ib_shr, ↓ic_lt, ↓ic_le, ↓ic_gt, ↓ic_ge, ↓ic_is, ↓ic_isnot, ↓ic_eqI, ↓ic_neI, ↓ic_eqB, ↓ic_in1, ↓il_lenT, ↓tx_0, ↓tx_1, ↓tx_2, ↓ineg_i, ↓ws_try, ↓i_isx, ↓xx_done, ↓xx_rais, decide_true, decide_false, Bool.not_true, Bool.not_false, List.length_cons, List.length_nil, Int.reduceToNat, decide_eq_true_eq, Bool.not_eq_true', decide_eq_false_iff_not, Bool.true_eq_false, Bool.false_eq_true, if_true, if_false, reduceCtorEq, not_false_eq_true, not_true_eq_false, or_false, or_true, and_true, true_and, List.nil_append, List.cons_append, ↓il_listL ha]
    have x1 := Ext.push st (AO.lst (cs.map AV.int))
    have g1 := get_push st (AO.lst (cs.map AV.int))
    generalize st ++ [AO.lst (cs.map AV.int)] = s1 at x1 g1 ⊢
    have a2 := get_push s1 (AO.lst [.int 2])
    have z2 := x1.trans (Ext.push s1 (AO.lst [.int 2]))
    have g1 := Ext.push s1 (AO.lst [.int 2]) _ _ g1
    generalize s1 ++ [AO.lst [.int 2]] = s2 at a2 z2 g1 ⊢
    generalize hL : ([AV.int 0, AV.int 5, AV.int (-1), AV.bl true, AV.str [50], AV.non, AV.ref s1.length, AV.int (10 ^ 40)] : List AV) = L
    have z3 := Ext.push s2 (AO.lst L)
    have g3 := get_push s2 (AO.lst L)
    have zz := z2.trans z3
    have a3 := z3 _ _ a2
    have g4 := z3 _ _ g1
    generalize s2 ++ [AO.lst L] = s3 at g3 z3 zz a3 g4 ⊢
    have hl8 : (L.length : Int) = 8 := by rw [← hL]; rfl
    refine ix_mem (xs := L) (f := fun x => x) (by rw [List.map_id']; exact g3) m56.1 (by rw [hl8]; exact m56.2) fun x hx => ?_
    have hx : Ty1 s3 x ∧ cntA x = false := by
      rw [← hL] at hx
      simp only [List.mem_cons, List.not_mem_nil, or_false] at hx
      rcases hx with rfl | rfl | rfl | rfl | rfl | rfl | rfl | rfl
      · exact ⟨trivial, rfl⟩
      · exact ⟨trivial, rfl⟩
      · exact ⟨trivial, rfl⟩
      · exact ⟨trivial, rfl⟩
      · exact ⟨⟨rfl, by decide⟩, rfl⟩
      · exact ⟨trivial, rfl⟩
      · exact ⟨.inl ⟨_, a3⟩, rfl⟩
      · exact ⟨trivial, rfl⟩
    obtain ⟨k, hk, hk2⟩ := ixN_some (n := cs.length) (Int.emod_nonneg (N / 8) (show ((cs.length : Nat) : Int) ≠ 0 by omega)) (Int.emod_lt_of_pos (N / 8) c0)
    try simp (decide := true) only [↓i_var, ↓i_con, ↓i_kon, ↓i_bin, ↓i_neg, ↓i_not, ↓i_and, ↓i_or, ↓i_and0, ↓i_or0, ↓i_and1, ↓i_or1, ↓i_cmp, ↓i_chain, ↓i_lst, ↓i_tup, ↓i_dnew, ↓i_call, ↓i_mk, ↓i_bcall, ↓i_isi, ↓i_meth, ↓i_sel, ↓i_selL, ↓i_fld, ↓i_idx, ↓i_sl, ↓i_lrng, ↓i_lc, ↓i_nil, ↓i_cons, ↓i_o0, ↓i_o1, ↓i_opt, ↓i_seq, ↓i_rng1, ↓i_rng2, ↓i_enum, ↓i_zip, ↓i_wk, ↓i_tst, ↓ws_done, ↓ws_asg, ↓ws_asgT, ↓ws_ofE, ↓ws_of, ↓ws_asgF, ↓ws_asgI, ↓ws_aug, ↓ws_expr, ↓ws_ret, ↓ws_retN, ↓ws_ite, ↓ws_loop, ↓ws_whil, ↓boolIs_b, ↓intIs_i, ↓slot_0, ↓slot_1, ↓set_0, ↓set_1, ↓R.is_ok, ↓SR.is_rt, ↓SR.is_nx, ↓i_ofB, ↓wt_non, ↓wt_bl, ↓wt_int, ↓wt_str, ↓wt_tup, ↓wt_rol, ↓ib_add, ↓ib_sub, ↓ib_fdiv, ↓ib_mod, ↓ib_pow, ↓ib_band, ↓ib_shr, ↓ic_lt, ↓ic_le, ↓ic_gt, ↓ic_ge, ↓ic_is, ↓ic_isnot, ↓ic_eqI, ↓ic_neI, ↓ic_eqB, ↓ic_in1, ↓il_lenT, ↓tx_0, ↓tx_1, ↓tx_2, ↓ineg_i, ↓ws_try, ↓i_isx, ↓xx_done, ↓xx_rais, decide_true, decide_false, Bool.not_true, Bool.not_false, List.length_cons, List.length_nil, Int.reduceToNat, decide_eq_true_eq, Bool.not_eq_true', decide_eq_false_iff_not, Bool.true_eq_false, Bool.false_eq_true, if_true, if_false, reduceCtorEq, not_false_eq_true, not_true_eq_false, or_false, or_true, and_true, true_and, List.nil_append, List.cons_append, ↓il_len (zz _ _ ha), List.length_map, ↓ib_mod c0]
    have hk' : L2.ixN (cs.map AV.int).length (N / 8 % (cs.length : Nat)) = some k := by rw [List.length_map]; exact hk
    rw [ws_setL g4 hk']
    try simp (decide := true) only [↓i_var, ↓i_con, ↓i_kon, ↓i_bin, ↓i_neg, ↓i_not, ↓i_and, ↓i_or, ↓i_and0, ↓i_or0, ↓i_and1, ↓i_or1, ↓i_cmp, ↓i_chain, ↓i_lst, ↓i_tup, ↓i_dnew, ↓i_call, ↓i_mk, ↓i_bcall, ↓i_isi, ↓i_meth, ↓i_sel, ↓i_selL, ↓i_fld, ↓i_idx, ↓i_sl, ↓i_lrng, ↓i_lc, ↓i_nil, ↓i_cons, ↓i_o0, ↓i_o1, ↓i_opt, ↓i_seq, ↓i_rng1, ↓i_rng2, ↓i_enum, ↓i_zip, ↓i_wk, ↓i_tst, ↓ws_done, ↓ws_asg, ↓ws_asgT, ↓ws_ofE, ↓ws_of, ↓ws_asgF, ↓ws_asgI, ↓ws_aug, ↓ws_expr, ↓ws_ret, ↓ws_retN, ↓ws_ite, ↓ws_loop, ↓ws_whil, ↓boolIs_b, ↓intIs_i, ↓slot_0, ↓slot_1, ↓set_0, ↓set_1, ↓R.is_ok, ↓SR.is_rt, ↓SR.is_nx, ↓i_ofB, ↓wt_non, ↓wt_bl, ↓wt_int, ↓wt_str, ↓wt_tup, ↓wt_rol, ↓ib_add, ↓ib_sub, ↓ib_fdiv, ↓ib_mod, ↓ib_pow, ↓ib_band, ↓ib_shr, ↓ic_lt, ↓ic_le, ↓ic_gt, ↓ic_ge, ↓ic_is, ↓ic_isnot, ↓ic_eqI, ↓ic_neI, ↓ic_eqB, ↓ic_in1, ↓il_lenT, ↓tx_0, ↓tx_1, ↓tx_2, ↓ineg_i, ↓ws_try, ↓i_isx, ↓xx_done, ↓xx_rais, decide_true, decide_false, Bool.not_true, Bool.not_false, List.length_cons, List.length_nil, Int.reduceToNat, decide_eq_true_eq, Bool.not_eq_true', decide_eq_false_iff_not, Bool.true_eq_false, Bool.false_eq_true, if_true, if_false, reduceCtorEq, not_false_eq_true, not_true_eq_false, or_false, or_true, and_true, true_and, List.nil_append, List.cons_append]
    refine q _ _ (Ext.set zz (Nat.le_refl _)) (bad_c_list (get_set g4) (fun y hy => ?_) (.inr (.inr ⟨x, ?_, hx.2⟩)))
    · rcases List.mem_or_eq_of_mem_set hy with hy | rfl
      · obtain ⟨i, _, rfl⟩ := List.mem_map.mp hy
        exact trivial
      · exact hx.1.setL g4
    · exact List.mem_set (show k < (cs.map AV.int).length by rw [List.length_map]; exact hk2) x
end L3

/-! K02c: what a net tells. -/
namespace L3
open PySem L2
theorem NetIns.ext {st s : Sto} {n a b d : Nat} {cs : List Int} {ws : List Wire} (h : NetIns st n a b d cs ws) (x : Ext st s) : NetIns s n a b d cs ws := ⟨x _ _ h.1, x _ _ h.2.1, x _ _ h.2.2.1, x _ _ h.2.2.2⟩
theorem m7 : tab.mt 10 7 = some g_Net_count := rfl
theorem m21 : tab.mt 10 21 = some g_Net_is_outer := rfl
theorem m23 : tab.mt 10 23 = some g_Net_wires := rfl
theorem m24 : tab.mt 10 24 = some g_Net_beyond := rfl
theorem f27 : tab.fl 10 27 = true := rfl
theorem truth_is {n : Nat} {st : Sto} {p q : Bool} {Q : AV → Sto → Prop} (h : p = q) (k : Q (.bl true) st) : (callF tab (n + 1) g_law_truth [.bl p, .bl q] st).Is Q := by
  refine call_is rfl rfl ?_; simp only [List.map_cons, List.map_nil, List.cons_append, List.nil_append, List.replicate_succ, List.replicate_zero, Nat.reduceSub]
  subst h
  try simp (decide := true) only [↓i_var, ↓i_con, ↓i_kon, ↓i_bin, ↓i_neg, ↓i_not, ↓i_and, ↓i_or, ↓i_and0, ↓i_or0, ↓i_and1, ↓i_or1, ↓i_cmp, ↓i_chain, ↓i_lst, ↓i_tup, ↓i_dnew, ↓i_call, ↓i_mk, ↓i_bcall, ↓i_isi, ↓i_meth, ↓i_sel, ↓i_selL, ↓i_fld, ↓i_idx, ↓i_sl, ↓i_lrng, ↓i_lc, ↓i_nil, ↓i_cons, ↓i_o0, ↓i_o1, ↓i_opt, ↓i_seq, ↓i_rng1, ↓i_rng2, ↓i_enum, ↓i_zip, ↓i_wk, ↓i_tst, ↓ws_done, ↓ws_asg, ↓ws_asgT, ↓ws_ofE, ↓ws_of, ↓ws_asgF, ↓ws_asgI, ↓ws_aug, ↓ws_expr, ↓ws_ret, ↓ws_retN, ↓ws_ite, ↓ws_loop, ↓ws_whil, ↓boolIs_b, ↓intIs_i, ↓slot_0, ↓slot_1, ↓set_0, ↓set_1, ↓R.is_ok, ↓SR.is_rt, ↓SR.is_nx, ↓i_ofB, ↓wt_non, ↓wt_bl, ↓wt_int, ↓wt_str, ↓wt_tup, ↓wt_rol, ↓ib_add, ↓ib_sub, ↓ib_fdiv, ↓ib_mod, ↓ib_pow, ↓ib_band, ↓ib_shr, ↓ic_lt, ↓ic_le, ↓ic_gt, ↓ic_ge, ↓ic_is, ↓ic_isnot, ↓ic_eqI, ↓ic_neI, ↓ic_eqB, ↓ic_in1, ↓il_lenT, ↓tx_0, ↓tx_1, ↓tx_2, ↓ineg_i, ↓ws_try, ↓i_isx, ↓xx_done, ↓xx_rais, decide_true, decide_false, Bool.not_true, Bool.not_false, List.length_cons, List.length_nil, Int.reduceToNat, decide_eq_true_eq, Bool.not_eq_true', decide_eq_false_iff_not, Bool.true_eq_false, Bool.false_eq_true, if_true, if_false, reduceCtorEq, not_false_eq_true, not_true_eq_false, or_false, or_true, and_true, true_and, List.nil_append, List.cons_append, c_law_truth]
  cases p <;> exact k
section
variable {n m : Nat} {st : Sto} {cs : List Int} {ws : List Wire} {Q : AV → Sto → Prop} {a b t : Nat}
theorem count_is {i : Nat} (hN : NetIns st m a b t cs ws) (hi : i < cs.length) (q : Q (.int (cs.getD i 0)) st) : (callF tab (n + 1) g_Net_count [.ref m, .int (i : Nat)] st).Is Q := by
  obtain ⟨h1, h2, h3, h4⟩ := hN
  refine call_is rfl rfl ?_; simp only [List.map_cons, List.map_nil, List.cons_append, List.nil_append, List.replicate_succ, List.replicate_zero, Nat.reduceSub]
  try simp (decide := true) only [↓i_var, ↓i_con, ↓i_kon, ↓i_bin, ↓i_neg, ↓i_not, ↓i_and, ↓i_or, ↓i_and0, ↓i_or0, ↓i_and1, ↓i_or1, ↓i_cmp, ↓i_chain, ↓i_lst, ↓i_tup, ↓i_dnew, ↓i_call, ↓i_mk, ↓i_bcall, ↓i_isi, ↓i_meth, ↓i_sel, ↓i_selL, ↓i_fld, ↓i_idx, ↓i_sl, ↓i_lrng, ↓i_lc, ↓i_nil, ↓i_cons, ↓i_o0, ↓i_o1, ↓i_opt, ↓i_seq, ↓i_rng1, ↓i_rng2, ↓i_enum, ↓i_zip, ↓i_wk, ↓i_tst, ↓ws_done, ↓ws_asg, ↓ws_asgT, ↓ws_ofE, ↓ws_of, ↓ws_asgF, ↓ws_asgI, ↓ws_aug, ↓ws_expr, ↓ws_ret, ↓ws_retN, ↓ws_ite, ↓ws_loop, ↓ws_whil, ↓boolIs_b, ↓intIs_i, ↓slot_0, ↓slot_1, ↓set_0, ↓set_1, ↓R.is_ok, ↓SR.is_rt, ↓SR.is_nx, ↓i_ofB, ↓wt_non, ↓wt_bl, ↓wt_int, ↓wt_str, ↓wt_tup, ↓wt_rol, ↓ib_add, ↓ib_sub, ↓ib_fdiv, ↓ib_mod, ↓ib_pow, ↓ib_band, ↓ib_shr, ↓ic_lt, ↓ic_le, ↓ic_gt, ↓ic_ge, ↓ic_is, ↓ic_isnot, ↓ic_eqI, ↓ic_neI, ↓ic_eqB, ↓ic_in1, ↓il_lenT, ↓tx_0, ↓tx_1, ↓tx_2, ↓ineg_i, ↓ws_try, ↓i_isx, ↓xx_done, ↓xx_rais, decide_true, decide_false, Bool.not_true, Bool.not_false, List.length_cons, List.length_nil, Int.reduceToNat, decide_eq_true_eq, Bool.not_eq_true', decide_eq_false_iff_not, Bool.true_eq_false, Bool.false_eq_true, if_true, if_false, reduceCtorEq, not_false_eq_true, not_true_eq_false, or_false, or_true, and_true, true_and, List.nil_append, List.cons_append, c_Net_count, ↓fld_is h1 f26 rfl]
  rw [ix_ints h2 (by omega) (by omega)]
  exact q
theorem wires_r (hN : NetIns st m a b t cs ws) (q : Q (.ref st.length) (st ++ [.lst (ws.map wireV)])) : (callF tab (n + 1) g_Net_wires [.ref m] st).Is Q := by
  obtain ⟨h1, h2, h3, h4⟩ := hN
  refine call_is rfl rfl ?_; simp only [List.map_cons, List.map_nil, List.cons_append, List.nil_append, List.replicate_succ, List.replicate_zero, Nat.reduceSub]
  try simp (decide := true) only [↓i_var, ↓i_con, ↓i_kon, ↓i_bin, ↓i_neg, ↓i_not, ↓i_and, ↓i_or, ↓i_and0, ↓i_or0, ↓i_and1, ↓i_or1, ↓i_cmp, ↓i_chain, ↓i_lst, ↓i_tup, ↓i_dnew, ↓i_call, ↓i_mk, ↓i_bcall, ↓i_isi, ↓i_meth, ↓i_sel, ↓i_selL, ↓i_fld, ↓i_idx, ↓i_sl, ↓i_lrng, ↓i_lc, ↓i_nil, ↓i_cons, ↓i_o0, ↓i_o1, ↓i_opt, ↓i_seq, ↓i_rng1, ↓i_rng2, ↓i_enum, ↓i_zip, ↓i_wk, ↓i_tst, ↓ws_done, ↓ws_asg, ↓ws_asgT, ↓ws_ofE, ↓ws_of, ↓ws_asgF, ↓ws_asgI, ↓ws_aug, ↓ws_expr, ↓ws_ret, ↓ws_retN, ↓ws_ite, ↓ws_loop, ↓ws_whil, ↓boolIs_b, ↓intIs_i, ↓slot_0, ↓slot_1, ↓set_0, ↓set_1, ↓R.is_ok, ↓SR.is_rt, ↓SR.is_nx, ↓i_ofB, ↓wt_non, ↓wt_bl, ↓wt_int, ↓wt_str, ↓wt_tup, ↓wt_rol, ↓ib_add, ↓ib_sub, ↓ib_fdiv, ↓ib_mod, ↓ib_pow, ↓ib_band, ↓ib_shr, ↓ic_lt, ↓ic_le, ↓ic_gt, ↓ic_ge, ↓ic_is, ↓ic_isnot, ↓ic_eqI, ↓ic_neI, ↓ic_eqB, ↓ic_in1, ↓il_lenT, ↓tx_0, ↓tx_1, ↓tx_2, ↓ineg_i, ↓ws_try, ↓i_isx, ↓xx_done, ↓xx_rais, decide_true, decide_false, Bool.not_true, Bool.not_false, List.length_cons, List.length_nil, Int.reduceToNat, decide_eq_true_eq, Bool.not_eq_true', decide_eq_false_iff_not, Bool.true_eq_false, Bool.false_eq_true, if_true, if_false, reduceCtorEq, not_false_eq_true, not_true_eq_false, or_false, or_true, and_true, true_and, List.nil_append, List.cons_append, c_Net_wires, ↓fld_is h1 f27 rfl, ↓il_listL h3]
  exact q
/-- any thing that is no door -/
theorem is_door_any {v : AV} (h : NetIns st m a b t cs ws) (hv : Ty2 st v) (q : Q (.bl (doorOkM cs v)) st) : (callF tab (n + 3) g_Net_is_door [.ref m, v] st).Is Q := by
  obtain ⟨h1, h2, h3, h4⟩ := h
  refine call_is rfl rfl ?_; simp only [List.map_cons, List.map_nil, List.cons_append, List.nil_append, List.replicate_succ, List.replicate_zero, Nat.reduceSub]
  try simp (decide := true) only [↓i_var, ↓i_con, ↓i_kon, ↓i_bin, ↓i_neg, ↓i_not, ↓i_and, ↓i_or, ↓i_and0, ↓i_or0, ↓i_and1, ↓i_or1, ↓i_cmp, ↓i_chain, ↓i_lst, ↓i_tup, ↓i_dnew, ↓i_call, ↓i_mk, ↓i_bcall, ↓i_isi, ↓i_meth, ↓i_sel, ↓i_selL, ↓i_fld, ↓i_idx, ↓i_sl, ↓i_lrng, ↓i_lc, ↓i_nil, ↓i_cons, ↓i_o0, ↓i_o1, ↓i_opt, ↓i_seq, ↓i_rng1, ↓i_rng2, ↓i_enum, ↓i_zip, ↓i_wk, ↓i_tst, ↓ws_done, ↓ws_asg, ↓ws_asgT, ↓ws_ofE, ↓ws_of, ↓ws_asgF, ↓ws_asgI, ↓ws_aug, ↓ws_expr, ↓ws_ret, ↓ws_retN, ↓ws_ite, ↓ws_loop, ↓ws_whil, ↓boolIs_b, ↓intIs_i, ↓slot_0, ↓slot_1, ↓set_0, ↓set_1, ↓R.is_ok, ↓SR.is_rt, ↓SR.is_nx, ↓i_ofB, ↓wt_non, ↓wt_bl, ↓wt_int, ↓wt_str, ↓wt_tup, ↓wt_rol, ↓ib_add, ↓ib_sub, ↓ib_fdiv, ↓ib_mod, ↓ib_pow, ↓ib_band, ↓ib_shr, ↓ic_lt, ↓ic_le, ↓ic_gt, ↓ic_ge, ↓ic_is, ↓ic_isnot, ↓ic_eqI, ↓ic_neI, ↓ic_eqB, ↓ic_in1, ↓il_lenT, ↓tx_0, ↓tx_1, ↓tx_2, ↓ineg_i, ↓ws_try, ↓i_isx, ↓xx_done, ↓xx_rais, decide_true, decide_false, Bool.not_true, Bool.not_false, List.length_cons, List.length_nil, Int.reduceToNat, decide_eq_true_eq, Bool.not_eq_true', decide_eq_false_iff_not, Bool.true_eq_false, Bool.false_eq_true, if_true, if_false, reduceCtorEq, not_false_eq_true, not_true_eq_false, or_false, or_true, and_true, true_and, List.nil_append, List.cons_append, c_Net_is_door, ↓fld_is h1 f26 rfl]
  exact doorOf_any h2 hv q
theorem doorOk_door (cs : List Int) (d : Door) : doorOkM cs (doorV d) = isDoor cs d := rfl
theorem outM_door (cs : List Int) (ws : List Wire) (d : Door) : outM cs ws (doorV d) = isOuter cs ws d := rfl
end
set_option maxHeartbeats 1000000 in
theorem doors_right {n m a b t a1 dl d1 : Nat} {st : Sto} {cs : List Int} {ws : List Wire} {z : Int} {Q : AV → Sto → Prop} (hN : NetIns st m a b t cs ws) (hC : CntOk cs) (ha : st[a1]? = some (.lst (cs.map AV.int))) (hd : st[dl]? = some (.lst ((allD cs).map doorV))) (ht : st[d1]? = some (.dT (tblF ws))) (hz : 6 ≤ z)
    (q : ∀ s, Ext st s → Q (.bl true) s) : (callF tab (n + 6) g_law_doors_right [.ref m, .ref a1, .tup [.int z, .int 0], .ref dl, .ref d1] st).Is Q := by
  have c0 : (0 : Int) < cs.length := by have := hC.len1; omega
  have hDl := doorsUpto_len hC.cnt cs.length (Nat.le_refl _)
  have eD : doorsUpto cs cs.length = allD cs := rfl
  rw [eD] at hDl
  have hl2 := hC.len2
  refine call_is rfl rfl ?_; simp only [List.map_cons, List.map_nil, List.cons_append, List.nil_append, List.replicate_succ, List.replicate_zero, Nat.reduceSub]
  try simp (decide := true) only [↓i_var, ↓i_con, ↓i_kon, ↓i_bin, ↓i_neg, ↓i_not, ↓i_and, ↓i_or, ↓i_and0, ↓i_or0, ↓i_and1, ↓i_or1, ↓i_cmp, ↓i_chain, ↓i_lst, ↓i_tup, ↓i_dnew, ↓i_call, ↓i_mk, ↓i_bcall, ↓i_isi, ↓i_meth, ↓i_sel, ↓i_selL, ↓i_fld, ↓i_idx, ↓i_sl, ↓i_lrng, ↓i_lc, ↓i_nil, ↓i_cons, ↓i_o0, ↓i_o1, ↓i_opt, ↓i_seq, ↓i_rng1, ↓i_rng2, ↓i_enum, ↓i_zip, ↓i_wk, ↓i_tst, ↓ws_done, ↓ws_asg, ↓ws_asgT, ↓ws_ofE, ↓ws_of, ↓ws_asgF, ↓ws_asgI, ↓ws_aug, ↓ws_expr, ↓ws_ret, ↓ws_retN, ↓ws_ite, ↓ws_loop, ↓ws_whil, ↓boolIs_b, ↓intIs_i, ↓slot_0, ↓slot_1, ↓set_0, ↓set_1, ↓R.is_ok, ↓SR.is_rt, ↓SR.is_nx, ↓i_ofB, ↓wt_non, ↓wt_bl, ↓wt_int, ↓wt_str, ↓wt_tup, ↓wt_rol, ↓ib_add, ↓ib_sub, ↓ib_fdiv, ↓ib_mod, ↓ib_pow, ↓ib_band, ↓ib_shr, ↓ic_lt, ↓ic_le, ↓ic_gt, ↓ic_ge, ↓ic_is, ↓ic_isnot, ↓ic_eqI, ↓ic_neI, ↓ic_eqB, ↓ic_in1, ↓il_lenT, ↓tx_0, ↓tx_1, ↓tx_2, ↓ineg_i, ↓ws_try, ↓i_isx, ↓xx_done, ↓xx_rais, decide_true, decide_false, Bool.not_true, Bool.not_false, List.length_cons, List.length_nil, Int.reduceToNat, decide_eq_true_eq, Bool.not_eq_true', decide_eq_false_iff_not, Bool.true_eq_false, Bool.false_eq_true, if_true, if_false, reduceCtorEq, not_false_eq_true, not_true_eq_false, or_false, or_true, and_true, true_and, List.nil_append, List.cons_append, c_law_doors_right, ↓ix_ints ha (show (0 : Int) ≤ 0 by decide) c0, ↓il_len ha, List.length_map]
  have x1 := Ext.push st (AO.lst ([((0 : Int), cs.getD 0 0), ((cs.length : Nat), 0), (-1, 0), (0, -1)].map doorV))
  have g1 := get_push st (AO.lst ([((0 : Int), cs.getD 0 0), ((cs.length : Nat), 0), (-1, 0), (0, -1)].map doorV))
  rw [show (AV.tup [.int 0, .int (cs.getD 0 0)] :: [AV.tup [.int (cs.length : Nat), .int 0], .tup [.int (-1), .int 0], .tup [.int 0, .int (-1)]]) = [((0 : Int), cs.getD 0 0), (((cs.length : Nat) : Int), 0), (-1, 0), (0, -1)].map doorV from rfl]
  generalize hD : [((0 : Int), cs.getD 0 0), (((cs.length : Nat) : Int), 0), (-1, 0), (0, -1)] = D4 at x1 g1 ⊢
  have hD4 : D4.length = 4 := by rw [← hD]; rfl
  rw [ib_addL (x1 _ _ hd) g1 (by rw [List.length_map, List.length_map, hD4]; unfold lim; omega)]
  generalize st ++ [AO.lst (D4.map doorV)] = s1 at x1 g1 ⊢
  rw [← List.map_append]
  have x2 := x1.trans (Ext.push s1 (AO.lst ((allD cs ++ D4).map doorV)))
  have g2 := get_push s1 (AO.lst ((allD cs ++ D4).map doorV))
  generalize s1 ++ [AO.lst ((allD cs ++ D4).map doorV)] = s2 at x2 g2 ⊢
  generalize s1.length = r2 at g2 ⊢
  try simp (decide := true) only [↓i_var, ↓i_con, ↓i_kon, ↓i_bin, ↓i_neg, ↓i_not, ↓i_and, ↓i_or, ↓i_and0, ↓i_or0, ↓i_and1, ↓i_or1, ↓i_cmp, ↓i_chain, ↓i_lst, ↓i_tup, ↓i_dnew, ↓i_call, ↓i_mk, ↓i_bcall, ↓i_isi, ↓i_meth, ↓i_sel, ↓i_selL, ↓i_fld, ↓i_idx, ↓i_sl, ↓i_lrng, ↓i_lc, ↓i_nil, ↓i_cons, ↓i_o0, ↓i_o1, ↓i_opt, ↓i_seq, ↓i_rng1, ↓i_rng2, ↓i_enum, ↓i_zip, ↓i_wk, ↓i_tst, ↓ws_done, ↓ws_asg, ↓ws_asgT, ↓ws_ofE, ↓ws_of, ↓ws_asgF, ↓ws_asgI, ↓ws_aug, ↓ws_expr, ↓ws_ret, ↓ws_retN, ↓ws_ite, ↓ws_loop, ↓ws_whil, ↓boolIs_b, ↓intIs_i, ↓slot_0, ↓slot_1, ↓set_0, ↓set_1, ↓R.is_ok, ↓SR.is_rt, ↓SR.is_nx, ↓i_ofB, ↓wt_non, ↓wt_bl, ↓wt_int, ↓wt_str, ↓wt_tup, ↓wt_rol, ↓ib_add, ↓ib_sub, ↓ib_fdiv, ↓ib_mod, ↓ib_pow, ↓ib_band, ↓ib_shr, ↓ic_lt, ↓ic_le, ↓ic_gt, ↓ic_ge, ↓ic_is, ↓ic_isnot, ↓ic_eqI, ↓ic_neI, ↓ic_eqB, ↓ic_in1, ↓il_lenT, ↓tx_0, ↓tx_1, ↓tx_2, ↓ineg_i, ↓ws_try, ↓i_isx, ↓xx_done, ↓xx_rais, decide_true, decide_false, Bool.not_true, Bool.not_false, List.length_cons, List.length_nil, Int.reduceToNat, decide_eq_true_eq, Bool.not_eq_true', decide_eq_false_iff_not, Bool.true_eq_false, Bool.false_eq_true, if_true, if_false, reduceCtorEq, not_false_eq_true, not_true_eq_false, or_false, or_true, and_true, true_and, List.nil_append, List.cons_append]
  rw [iw_lst g2]
  refine for_is (fun k e s => ∃ z5 z7, e = [some (.ref m), some (.ref a1), some (.tup [.int z, .int 0]), some (.ref dl), some (.ref d1), z5, none, z7] ∧ Ext s2 s) _ 0 _ _ ⟨_, _, rfl, Ext.refl _⟩ (fun i y e s hy hI => ?_) fun e s hI => ?_
  · obtain ⟨z5, z7, rfl, hE⟩ := hI
    rw [List.getElem?_map] at hy
    obtain ⟨d, _, rfl⟩ := Option.map_eq_some_iff.mp hy
    have E := x2.trans hE
    have N1 := hN.ext E
    have hin := in_map (x := d) eqv_door (E _ _ hd) (fun y => pd_door 6 s y) (can_door d) fun y _ => can_door y
    have hit := inA_dT (d := d) (E _ _ ht)
    rw [tbl_has] at hit
    refine ⟨ck_lst (hE _ _ g2), _, rfl, ?_⟩
    have e2 : isOuter cs ws d = (isDoor cs d && (beyF ws d).isNone) := rfl
    simp only [bindT, bindT.go, wipeA, List.set_cons_zero, List.set_cons_succ]
    by_cases hm : d ∈ allD cs
    · have hi := mem_allD.mp hm
      have hin : inA s (doorV d) (.ref dl) = some true := by rw [hin]; simp [hm]
      rw [hi] at e2
      try simp (decide := true) only [↓i_var, ↓i_con, ↓i_kon, ↓i_bin, ↓i_neg, ↓i_not, ↓i_and, ↓i_or, ↓i_and0, ↓i_or0, ↓i_and1, ↓i_or1, ↓i_cmp, ↓i_chain, ↓i_lst, ↓i_tup, ↓i_dnew, ↓i_call, ↓i_mk, ↓i_bcall, ↓i_isi, ↓i_meth, ↓i_sel, ↓i_selL, ↓i_fld, ↓i_idx, ↓i_sl, ↓i_lrng, ↓i_lc, ↓i_nil, ↓i_cons, ↓i_o0, ↓i_o1, ↓i_opt, ↓i_seq, ↓i_rng1, ↓i_rng2, ↓i_enum, ↓i_zip, ↓i_wk, ↓i_tst, ↓ws_done, ↓ws_asg, ↓ws_asgT, ↓ws_ofE, ↓ws_of, ↓ws_asgF, ↓ws_asgI, ↓ws_aug, ↓ws_expr, ↓ws_ret, ↓ws_retN, ↓ws_ite, ↓ws_loop, ↓ws_whil, ↓boolIs_b, ↓intIs_i, ↓slot_0, ↓slot_1, ↓set_0, ↓set_1, ↓R.is_ok, ↓SR.is_rt, ↓SR.is_nx, ↓i_ofB, ↓wt_non, ↓wt_bl, ↓wt_int, ↓wt_str, ↓wt_tup, ↓wt_rol, ↓ib_add, ↓ib_sub, ↓ib_fdiv, ↓ib_mod, ↓ib_pow, ↓ib_band, ↓ib_shr, ↓ic_lt, ↓ic_le, ↓ic_gt, ↓ic_ge, ↓ic_is, ↓ic_isnot, ↓ic_eqI, ↓ic_neI, ↓ic_eqB, ↓ic_in1, ↓il_lenT, ↓tx_0, ↓tx_1, ↓tx_2, ↓ineg_i, ↓ws_try, ↓i_isx, ↓xx_done, ↓xx_rais, decide_true, decide_false, Bool.not_true, Bool.not_false, List.length_cons, List.length_nil, Int.reduceToNat, decide_eq_true_eq, Bool.not_eq_true', decide_eq_false_iff_not, Bool.true_eq_false, Bool.false_eq_true, if_true, if_false, reduceCtorEq, not_false_eq_true, not_true_eq_false, or_false, or_true, and_true, true_and, List.nil_append, List.cons_append, c_law_doors_right_1, ↓ic_in hin, ↓sel_is N1.1 m20 rfl]
      refine is_door_any N1 (ty2_door s d) ?_
      rw [doorOk_door, hi]
      try simp (decide := true) only [↓i_var, ↓i_con, ↓i_kon, ↓i_bin, ↓i_neg, ↓i_not, ↓i_and, ↓i_or, ↓i_and0, ↓i_or0, ↓i_and1, ↓i_or1, ↓i_cmp, ↓i_chain, ↓i_lst, ↓i_tup, ↓i_dnew, ↓i_call, ↓i_mk, ↓i_bcall, ↓i_isi, ↓i_meth, ↓i_sel, ↓i_selL, ↓i_fld, ↓i_idx, ↓i_sl, ↓i_lrng, ↓i_lc, ↓i_nil, ↓i_cons, ↓i_o0, ↓i_o1, ↓i_opt, ↓i_seq, ↓i_rng1, ↓i_rng2, ↓i_enum, ↓i_zip, ↓i_wk, ↓i_tst, ↓ws_done, ↓ws_asg, ↓ws_asgT, ↓ws_ofE, ↓ws_of, ↓ws_asgF, ↓ws_asgI, ↓ws_aug, ↓ws_expr, ↓ws_ret, ↓ws_retN, ↓ws_ite, ↓ws_loop, ↓ws_whil, ↓boolIs_b, ↓intIs_i, ↓slot_0, ↓slot_1, ↓set_0, ↓set_1, ↓R.is_ok, ↓SR.is_rt, ↓SR.is_nx, ↓i_ofB, ↓wt_non, ↓wt_bl, ↓wt_int, ↓wt_str, ↓wt_tup, ↓wt_rol, ↓ib_add, ↓ib_sub, ↓ib_fdiv, ↓ib_mod, ↓ib_pow, ↓ib_band, ↓ib_shr, ↓ic_lt, ↓ic_le, ↓ic_gt, ↓ic_ge, ↓ic_is, ↓ic_isnot, ↓ic_eqI, ↓ic_neI, ↓ic_eqB, ↓ic_in1, ↓il_lenT, ↓tx_0, ↓tx_1, ↓tx_2, ↓ineg_i, ↓ws_try, ↓i_isx, ↓xx_done, ↓xx_rais, decide_true, decide_false, Bool.not_true, Bool.not_false, List.length_cons, List.length_nil, Int.reduceToNat, decide_eq_true_eq, Bool.not_eq_true', decide_eq_false_iff_not, Bool.true_eq_false, Bool.false_eq_true, if_true, if_false, reduceCtorEq, not_false_eq_true, not_true_eq_false, or_false, or_true, and_true, true_and, List.nil_append, List.cons_append]
      refine truth_is rfl ?_
      try simp (decide := true) only [↓i_var, ↓i_con, ↓i_kon, ↓i_bin, ↓i_neg, ↓i_not, ↓i_and, ↓i_or, ↓i_and0, ↓i_or0, ↓i_and1, ↓i_or1, ↓i_cmp, ↓i_chain, ↓i_lst, ↓i_tup, ↓i_dnew, ↓i_call, ↓i_mk, ↓i_bcall, ↓i_isi, ↓i_meth, ↓i_sel, ↓i_selL, ↓i_fld, ↓i_idx, ↓i_sl, ↓i_lrng, ↓i_lc, ↓i_nil, ↓i_cons, ↓i_o0, ↓i_o1, ↓i_opt, ↓i_seq, ↓i_rng1, ↓i_rng2, ↓i_enum, ↓i_zip, ↓i_wk, ↓i_tst, ↓ws_done, ↓ws_asg, ↓ws_asgT, ↓ws_ofE, ↓ws_of, ↓ws_asgF, ↓ws_asgI, ↓ws_aug, ↓ws_expr, ↓ws_ret, ↓ws_retN, ↓ws_ite, ↓ws_loop, ↓ws_whil, ↓boolIs_b, ↓intIs_i, ↓slot_0, ↓slot_1, ↓set_0, ↓set_1, ↓R.is_ok, ↓SR.is_rt, ↓SR.is_nx, ↓i_ofB, ↓wt_non, ↓wt_bl, ↓wt_int, ↓wt_str, ↓wt_tup, ↓wt_rol, ↓ib_add, ↓ib_sub, ↓ib_fdiv, ↓ib_mod, ↓ib_pow, ↓ib_band, ↓ib_shr, ↓ic_lt, ↓ic_le, ↓ic_gt, ↓ic_ge, ↓ic_is, ↓ic_isnot, ↓ic_eqI, ↓ic_neI, ↓ic_eqB, ↓ic_in1, ↓il_lenT, ↓tx_0, ↓tx_1, ↓tx_2, ↓ineg_i, ↓ws_try, ↓i_isx, ↓xx_done, ↓xx_rais, decide_true, decide_false, Bool.not_true, Bool.not_false, List.length_cons, List.length_nil, Int.reduceToNat, decide_eq_true_eq, Bool.not_eq_true', decide_eq_false_iff_not, Bool.true_eq_false, Bool.false_eq_true, if_true, if_false, reduceCtorEq, not_false_eq_true, not_true_eq_false, or_false, or_true, and_true, true_and, List.nil_append, List.cons_append, ↓sel_is N1.1 m21 rfl]
      refine is_outer_any N1 (ty2_door s d) ?_
      rw [outM_door, e2]
      cases hb : beyF ws d with
      | none =>
        rw [hb] at hit
        have hit : inA s (doorV d) (.ref d1) = some false := hit
        try simp (decide := true) only [↓i_var, ↓i_con, ↓i_kon, ↓i_bin, ↓i_neg, ↓i_not, ↓i_and, ↓i_or, ↓i_and0, ↓i_or0, ↓i_and1, ↓i_or1, ↓i_cmp, ↓i_chain, ↓i_lst, ↓i_tup, ↓i_dnew, ↓i_call, ↓i_mk, ↓i_bcall, ↓i_isi, ↓i_meth, ↓i_sel, ↓i_selL, ↓i_fld, ↓i_idx, ↓i_sl, ↓i_lrng, ↓i_lc, ↓i_nil, ↓i_cons, ↓i_o0, ↓i_o1, ↓i_opt, ↓i_seq, ↓i_rng1, ↓i_rng2, ↓i_enum, ↓i_zip, ↓i_wk, ↓i_tst, ↓ws_done, ↓ws_asg, ↓ws_asgT, ↓ws_ofE, ↓ws_of, ↓ws_asgF, ↓ws_asgI, ↓ws_aug, ↓ws_expr, ↓ws_ret, ↓ws_retN, ↓ws_ite, ↓ws_loop, ↓ws_whil, ↓boolIs_b, ↓intIs_i, ↓slot_0, ↓slot_1, ↓set_0, ↓set_1, ↓R.is_ok, ↓SR.is_rt, ↓SR.is_nx, ↓i_ofB, ↓wt_non, ↓wt_bl, ↓wt_int, ↓wt_str, ↓wt_tup, ↓wt_rol, ↓ib_add, ↓ib_sub, ↓ib_fdiv, ↓ib_mod, ↓ib_pow, ↓ib_band, ↓ib_shr, ↓ic_lt, ↓ic_le, ↓ic_gt, ↓ic_ge, ↓ic_is, ↓ic_isnot, ↓ic_eqI, ↓ic_neI, ↓ic_eqB, ↓ic_in1, ↓il_lenT, ↓tx_0, ↓tx_1, ↓tx_2, ↓ineg_i, ↓ws_try, ↓i_isx, ↓xx_done, ↓xx_rais, decide_true, decide_false, Bool.not_true, Bool.not_false, List.length_cons, List.length_nil, Int.reduceToNat, decide_eq_true_eq, Bool.not_eq_true', decide_eq_false_iff_not, Bool.true_eq_false, Bool.false_eq_true, if_true, if_false, reduceCtorEq, not_false_eq_true, not_true_eq_false, or_false, or_true, and_true, true_and, List.nil_append, List.cons_append, ↓ic_nin hit]
        refine truth_is rfl ?_
        try simp (decide := true) only [↓i_var, ↓i_con, ↓i_kon, ↓i_bin, ↓i_neg, ↓i_not, ↓i_and, ↓i_or, ↓i_and0, ↓i_or0, ↓i_and1, ↓i_or1, ↓i_cmp, ↓i_chain, ↓i_lst, ↓i_tup, ↓i_dnew, ↓i_call, ↓i_mk, ↓i_bcall, ↓i_isi, ↓i_meth, ↓i_sel, ↓i_selL, ↓i_fld, ↓i_idx, ↓i_sl, ↓i_lrng, ↓i_lc, ↓i_nil, ↓i_cons, ↓i_o0, ↓i_o1, ↓i_opt, ↓i_seq, ↓i_rng1, ↓i_rng2, ↓i_enum, ↓i_zip, ↓i_wk, ↓i_tst, ↓ws_done, ↓ws_asg, ↓ws_asgT, ↓ws_ofE, ↓ws_of, ↓ws_asgF, ↓ws_asgI, ↓ws_aug, ↓ws_expr, ↓ws_ret, ↓ws_retN, ↓ws_ite, ↓ws_loop, ↓ws_whil, ↓boolIs_b, ↓intIs_i, ↓slot_0, ↓slot_1, ↓set_0, ↓set_1, ↓R.is_ok, ↓SR.is_rt, ↓SR.is_nx, ↓i_ofB, ↓wt_non, ↓wt_bl, ↓wt_int, ↓wt_str, ↓wt_tup, ↓wt_rol, ↓ib_add, ↓ib_sub, ↓ib_fdiv, ↓ib_mod, ↓ib_pow, ↓ib_band, ↓ib_shr, ↓ic_lt, ↓ic_le, ↓ic_gt, ↓ic_ge, ↓ic_is, ↓ic_isnot, ↓ic_eqI, ↓ic_neI, ↓ic_eqB, ↓ic_in1, ↓il_lenT, ↓tx_0, ↓tx_1, ↓tx_2, ↓ineg_i, ↓ws_try, ↓i_isx, ↓xx_done, ↓xx_rais, decide_true, decide_false, Bool.not_true, Bool.not_false, List.length_cons, List.length_nil, Int.reduceToNat, decide_eq_true_eq, Bool.not_eq_true', decide_eq_false_iff_not, Bool.true_eq_false, Bool.false_eq_true, if_true, if_false, reduceCtorEq, not_false_eq_true, not_true_eq_false, or_false, or_true, and_true, true_and, List.nil_append, List.cons_append]
        exact ⟨_, _, rfl, hE⟩
      | some _ =>
        rw [hb] at hit
        have hit : inA s (doorV d) (.ref d1) = some true := hit
        try simp (decide := true) only [↓i_var, ↓i_con, ↓i_kon, ↓i_bin, ↓i_neg, ↓i_not, ↓i_and, ↓i_or, ↓i_and0, ↓i_or0, ↓i_and1, ↓i_or1, ↓i_cmp, ↓i_chain, ↓i_lst, ↓i_tup, ↓i_dnew, ↓i_call, ↓i_mk, ↓i_bcall, ↓i_isi, ↓i_meth, ↓i_sel, ↓i_selL, ↓i_fld, ↓i_idx, ↓i_sl, ↓i_lrng, ↓i_lc, ↓i_nil, ↓i_cons, ↓i_o0, ↓i_o1, ↓i_opt, ↓i_seq, ↓i_rng1, ↓i_rng2, ↓i_enum, ↓i_zip, ↓i_wk, ↓i_tst, ↓ws_done, ↓ws_asg, ↓ws_asgT, ↓ws_ofE, ↓ws_of, ↓ws_asgF, ↓ws_asgI, ↓ws_aug, ↓ws_expr, ↓ws_ret, ↓ws_retN, ↓ws_ite, ↓ws_loop, ↓ws_whil, ↓boolIs_b, ↓intIs_i, ↓slot_0, ↓slot_1, ↓set_0, ↓set_1, ↓R.is_ok, ↓SR.is_rt, ↓SR.is_nx, ↓i_ofB, ↓wt_non, ↓wt_bl, ↓wt_int, ↓wt_str, ↓wt_tup, ↓wt_rol, ↓ib_add, ↓ib_sub, ↓ib_fdiv, ↓ib_mod, ↓ib_pow, ↓ib_band, ↓ib_shr, ↓ic_lt, ↓ic_le, ↓ic_gt, ↓ic_ge, ↓ic_is, ↓ic_isnot, ↓ic_eqI, ↓ic_neI, ↓ic_eqB, ↓ic_in1, ↓il_lenT, ↓tx_0, ↓tx_1, ↓tx_2, ↓ineg_i, ↓ws_try, ↓i_isx, ↓xx_done, ↓xx_rais, decide_true, decide_false, Bool.not_true, Bool.not_false, List.length_cons, List.length_nil, Int.reduceToNat, decide_eq_true_eq, Bool.not_eq_true', decide_eq_false_iff_not, Bool.true_eq_false, Bool.false_eq_true, if_true, if_false, reduceCtorEq, not_false_eq_true, not_true_eq_false, or_false, or_true, and_true, true_and, List.nil_append, List.cons_append, ↓ic_nin hit]
        refine truth_is rfl ?_
        try simp (decide := true) only [↓i_var, ↓i_con, ↓i_kon, ↓i_bin, ↓i_neg, ↓i_not, ↓i_and, ↓i_or, ↓i_and0, ↓i_or0, ↓i_and1, ↓i_or1, ↓i_cmp, ↓i_chain, ↓i_lst, ↓i_tup, ↓i_dnew, ↓i_call, ↓i_mk, ↓i_bcall, ↓i_isi, ↓i_meth, ↓i_sel, ↓i_selL, ↓i_fld, ↓i_idx, ↓i_sl, ↓i_lrng, ↓i_lc, ↓i_nil, ↓i_cons, ↓i_o0, ↓i_o1, ↓i_opt, ↓i_seq, ↓i_rng1, ↓i_rng2, ↓i_enum, ↓i_zip, ↓i_wk, ↓i_tst, ↓ws_done, ↓ws_asg, ↓ws_asgT, ↓ws_ofE, ↓ws_of, ↓ws_asgF, ↓ws_asgI, ↓ws_aug, ↓ws_expr, ↓ws_ret, ↓ws_retN, ↓ws_ite, ↓ws_loop, ↓ws_whil, ↓boolIs_b, ↓intIs_i, ↓slot_0, ↓slot_1, ↓set_0, ↓set_1, ↓R.is_ok, ↓SR.is_rt, ↓SR.is_nx, ↓i_ofB, ↓wt_non, ↓wt_bl, ↓wt_int, ↓wt_str, ↓wt_tup, ↓wt_rol, ↓ib_add, ↓ib_sub, ↓ib_fdiv, ↓ib_mod, ↓ib_pow, ↓ib_band, ↓ib_shr, ↓ic_lt, ↓ic_le, ↓ic_gt, ↓ic_ge, ↓ic_is, ↓ic_isnot, ↓ic_eqI, ↓ic_neI, ↓ic_eqB, ↓ic_in1, ↓il_lenT, ↓tx_0, ↓tx_1, ↓tx_2, ↓ineg_i, ↓ws_try, ↓i_isx, ↓xx_done, ↓xx_rais, decide_true, decide_false, Bool.not_true, Bool.not_false, List.length_cons, List.length_nil, Int.reduceToNat, decide_eq_true_eq, Bool.not_eq_true', decide_eq_false_iff_not, Bool.true_eq_false, Bool.false_eq_true, if_true, if_false, reduceCtorEq, not_false_eq_true, not_true_eq_false, or_false, or_true, and_true, true_and, List.nil_append, List.cons_append]
        exact ⟨_, _, rfl, hE⟩
    · have hi : isDoor cs d = false := Bool.eq_false_iff.mpr fun z => hm (mem_allD.mpr z)
      have hin : inA s (doorV d) (.ref dl) = some false := by rw [hin]; simp [hm]
      rw [hi] at e2
      try simp (decide := true) only [↓i_var, ↓i_con, ↓i_kon, ↓i_bin, ↓i_neg, ↓i_not, ↓i_and, ↓i_or, ↓i_and0, ↓i_or0, ↓i_and1, ↓i_or1, ↓i_cmp, ↓i_chain, ↓i_lst, ↓i_tup, ↓i_dnew, ↓i_call, ↓i_mk, ↓i_bcall, ↓i_isi, ↓i_meth, ↓i_sel, ↓i_selL, ↓i_fld, ↓i_idx, ↓i_sl, ↓i_lrng, ↓i_lc, ↓i_nil, ↓i_cons, ↓i_o0, ↓i_o1, ↓i_opt, ↓i_seq, ↓i_rng1, ↓i_rng2, ↓i_enum, ↓i_zip, ↓i_wk, ↓i_tst, ↓ws_done, ↓ws_asg, ↓ws_asgT, ↓ws_ofE, ↓ws_of, ↓ws_asgF, ↓ws_asgI, ↓ws_aug, ↓ws_expr, ↓ws_ret, ↓ws_retN, ↓ws_ite, ↓ws_loop, ↓ws_whil, ↓boolIs_b, ↓intIs_i, ↓slot_0, ↓slot_1, ↓set_0, ↓set_1, ↓R.is_ok, ↓SR.is_rt, ↓SR.is_nx, ↓i_ofB, ↓wt_non, ↓wt_bl, ↓wt_int, ↓wt_str, ↓wt_tup, ↓wt_rol, ↓ib_add, ↓ib_sub, ↓ib_fdiv, ↓ib_mod, ↓ib_pow, ↓ib_band, ↓ib_shr, ↓ic_lt, ↓ic_le, ↓ic_gt, ↓ic_ge, ↓ic_is, ↓ic_isnot, ↓ic_eqI, ↓ic_neI, ↓ic_eqB, ↓ic_in1, ↓il_lenT, ↓tx_0, ↓tx_1, ↓tx_2, ↓ineg_i, ↓ws_try, ↓i_isx, ↓xx_done, ↓xx_rais, decide_true, decide_false, Bool.not_true, Bool.not_false, List.length_cons, List.length_nil, Int.reduceToNat, decide_eq_true_eq, Bool.not_eq_true', decide_eq_false_iff_not, Bool.true_eq_false, Bool.false_eq_true, if_true, if_false, reduceCtorEq, not_false_eq_true, not_true_eq_false, or_false, or_true, and_true, true_and, List.nil_append, List.cons_append, c_law_doors_right_1, ↓ic_in hin, ↓sel_is N1.1 m20 rfl]
      refine is_door_any N1 (ty2_door s d) ?_
      rw [doorOk_door, hi]
      try simp (decide := true) only [↓i_var, ↓i_con, ↓i_kon, ↓i_bin, ↓i_neg, ↓i_not, ↓i_and, ↓i_or, ↓i_and0, ↓i_or0, ↓i_and1, ↓i_or1, ↓i_cmp, ↓i_chain, ↓i_lst, ↓i_tup, ↓i_dnew, ↓i_call, ↓i_mk, ↓i_bcall, ↓i_isi, ↓i_meth, ↓i_sel, ↓i_selL, ↓i_fld, ↓i_idx, ↓i_sl, ↓i_lrng, ↓i_lc, ↓i_nil, ↓i_cons, ↓i_o0, ↓i_o1, ↓i_opt, ↓i_seq, ↓i_rng1, ↓i_rng2, ↓i_enum, ↓i_zip, ↓i_wk, ↓i_tst, ↓ws_done, ↓ws_asg, ↓ws_asgT, ↓ws_ofE, ↓ws_of, ↓ws_asgF, ↓ws_asgI, ↓ws_aug, ↓ws_expr, ↓ws_ret, ↓ws_retN, ↓ws_ite, ↓ws_loop, ↓ws_whil, ↓boolIs_b, ↓intIs_i, ↓slot_0, ↓slot_1, ↓set_0, ↓set_1, ↓R.is_ok, ↓SR.is_rt, ↓SR.is_nx, ↓i_ofB, ↓wt_non, ↓wt_bl, ↓wt_int, ↓wt_str, ↓wt_tup, ↓wt_rol, ↓ib_add, ↓ib_sub, ↓ib_fdiv, ↓ib_mod, ↓ib_pow, ↓ib_band, ↓ib_shr, ↓ic_lt, ↓ic_le, ↓ic_gt, ↓ic_ge, ↓ic_is, ↓ic_isnot, ↓ic_eqI, ↓ic_neI, ↓ic_eqB, ↓ic_in1, ↓il_lenT, ↓tx_0, ↓tx_1, ↓tx_2, ↓ineg_i, ↓ws_try, ↓i_isx, ↓xx_done, ↓xx_rais, decide_true, decide_false, Bool.not_true, Bool.not_false, List.length_cons, List.length_nil, Int.reduceToNat, decide_eq_true_eq, Bool.not_eq_true', decide_eq_false_iff_not, Bool.true_eq_false, Bool.false_eq_true, if_true, if_false, reduceCtorEq, not_false_eq_true, not_true_eq_false, or_false, or_true, and_true, true_and, List.nil_append, List.cons_append]
      refine truth_is rfl ?_
      try simp (decide := true) only [↓i_var, ↓i_con, ↓i_kon, ↓i_bin, ↓i_neg, ↓i_not, ↓i_and, ↓i_or, ↓i_and0, ↓i_or0, ↓i_and1, ↓i_or1, ↓i_cmp, ↓i_chain, ↓i_lst, ↓i_tup, ↓i_dnew, ↓i_call, ↓i_mk, ↓i_bcall, ↓i_isi, ↓i_meth, ↓i_sel, ↓i_selL, ↓i_fld, ↓i_idx, ↓i_sl, ↓i_lrng, ↓i_lc, ↓i_nil, ↓i_cons, ↓i_o0, ↓i_o1, ↓i_opt, ↓i_seq, ↓i_rng1, ↓i_rng2, ↓i_enum, ↓i_zip, ↓i_wk, ↓i_tst, ↓ws_done, ↓ws_asg, ↓ws_asgT, ↓ws_ofE, ↓ws_of, ↓ws_asgF, ↓ws_asgI, ↓ws_aug, ↓ws_expr, ↓ws_ret, ↓ws_retN, ↓ws_ite, ↓ws_loop, ↓ws_whil, ↓boolIs_b, ↓intIs_i, ↓slot_0, ↓slot_1, ↓set_0, ↓set_1, ↓R.is_ok, ↓SR.is_rt, ↓SR.is_nx, ↓i_ofB, ↓wt_non, ↓wt_bl, ↓wt_int, ↓wt_str, ↓wt_tup, ↓wt_rol, ↓ib_add, ↓ib_sub, ↓ib_fdiv, ↓ib_mod, ↓ib_pow, ↓ib_band, ↓ib_shr, ↓ic_lt, ↓ic_le, ↓ic_gt, ↓ic_ge, ↓ic_is, ↓ic_isnot, ↓ic_eqI, ↓ic_neI, ↓ic_eqB, ↓ic_in1, ↓il_lenT, ↓tx_0, ↓tx_1, ↓tx_2, ↓ineg_i, ↓ws_try, ↓i_isx, ↓xx_done, ↓xx_rais, decide_true, decide_false, Bool.not_true, Bool.not_false, List.length_cons, List.length_nil, Int.reduceToNat, decide_eq_true_eq, Bool.not_eq_true', decide_eq_false_iff_not, Bool.true_eq_false, Bool.false_eq_true, if_true, if_false, reduceCtorEq, not_false_eq_true, not_true_eq_false, or_false, or_true, and_true, true_and, List.nil_append, List.cons_append, ↓sel_is N1.1 m21 rfl]
      refine is_outer_any N1 (ty2_door s d) ?_
      rw [outM_door, e2]
      try simp (decide := true) only [↓i_var, ↓i_con, ↓i_kon, ↓i_bin, ↓i_neg, ↓i_not, ↓i_and, ↓i_or, ↓i_and0, ↓i_or0, ↓i_and1, ↓i_or1, ↓i_cmp, ↓i_chain, ↓i_lst, ↓i_tup, ↓i_dnew, ↓i_call, ↓i_mk, ↓i_bcall, ↓i_isi, ↓i_meth, ↓i_sel, ↓i_selL, ↓i_fld, ↓i_idx, ↓i_sl, ↓i_lrng, ↓i_lc, ↓i_nil, ↓i_cons, ↓i_o0, ↓i_o1, ↓i_opt, ↓i_seq, ↓i_rng1, ↓i_rng2, ↓i_enum, ↓i_zip, ↓i_wk, ↓i_tst, ↓ws_done, ↓ws_asg, ↓ws_asgT, ↓ws_ofE, ↓ws_of, ↓ws_asgF, ↓ws_asgI, ↓ws_aug, ↓ws_expr, ↓ws_ret, ↓ws_retN, ↓ws_ite, ↓ws_loop, ↓ws_whil, ↓boolIs_b, ↓intIs_i, ↓slot_0, ↓slot_1, ↓set_0, ↓set_1, ↓R.is_ok, ↓SR.is_rt, ↓SR.is_nx, ↓i_ofB, ↓wt_non, ↓wt_bl, ↓wt_int, ↓wt_str, ↓wt_tup, ↓wt_rol, ↓ib_add, ↓ib_sub, ↓ib_fdiv, ↓ib_mod, ↓ib_pow, ↓ib_band, ↓ib_shr, ↓ic_lt, ↓ic_le, ↓ic_gt, ↓ic_ge, ↓ic_is, ↓ic_isnot, ↓ic_eqI, ↓ic_neI, ↓ic_eqB, ↓ic_in1, ↓il_lenT, ↓tx_0, ↓tx_1, ↓tx_2, ↓ineg_i, ↓ws_try, ↓i_isx, ↓xx_done, ↓xx_rais, decide_true, decide_false, Bool.not_true, Bool.not_false, List.length_cons, List.length_nil, Int.reduceToNat, decide_eq_true_eq, Bool.not_eq_true', decide_eq_false_iff_not, Bool.true_eq_false, Bool.false_eq_true, if_true, if_false, reduceCtorEq, not_false_eq_true, not_true_eq_false, or_false, or_true, and_true, true_and, List.nil_append, List.cons_append]
      refine truth_is rfl ?_
      try simp (decide := true) only [↓i_var, ↓i_con, ↓i_kon, ↓i_bin, ↓i_neg, ↓i_not, ↓i_and, ↓i_or, ↓i_and0, ↓i_or0, ↓i_and1, ↓i_or1, ↓i_cmp, ↓i_chain, ↓i_lst, ↓i_tup, ↓i_dnew, ↓i_call, ↓i_mk, ↓i_bcall, ↓i_isi, ↓i_meth, ↓i_sel, ↓i_selL, ↓i_fld, ↓i_idx, ↓i_sl, ↓i_lrng, ↓i_lc, ↓i_nil, ↓i_cons, ↓i_o0, ↓i_o1, ↓i_opt, ↓i_seq, ↓i_rng1, ↓i_rng2, ↓i_enum, ↓i_zip, ↓i_wk, ↓i_tst, ↓ws_done, ↓ws_asg, ↓ws_asgT, ↓ws_ofE, ↓ws_of, ↓ws_asgF, ↓ws_asgI, ↓ws_aug, ↓ws_expr, ↓ws_ret, ↓ws_retN, ↓ws_ite, ↓ws_loop, ↓ws_whil, ↓boolIs_b, ↓intIs_i, ↓slot_0, ↓slot_1, ↓set_0, ↓set_1, ↓R.is_ok, ↓SR.is_rt, ↓SR.is_nx, ↓i_ofB, ↓wt_non, ↓wt_bl, ↓wt_int, ↓wt_str, ↓wt_tup, ↓wt_rol, ↓ib_add, ↓ib_sub, ↓ib_fdiv, ↓ib_mod, ↓ib_pow, ↓ib_band, ↓ib_shr, ↓ic_lt, ↓ic_le, ↓ic_gt, ↓ic_ge, ↓ic_is, ↓ic_isnot, ↓ic_eqI, ↓ic_neI, ↓ic_eqB, ↓ic_in1, ↓il_lenT, ↓tx_0, ↓tx_1, ↓tx_2, ↓ineg_i, ↓ws_try, ↓i_isx, ↓xx_done, ↓xx_rais, decide_true, decide_false, Bool.not_true, Bool.not_false, List.length_cons, List.length_nil, Int.reduceToNat, decide_eq_true_eq, Bool.not_eq_true', decide_eq_false_iff_not, Bool.true_eq_false, Bool.false_eq_true, if_true, if_false, reduceCtorEq, not_false_eq_true, not_true_eq_false, or_false, or_true, and_true, true_and, List.nil_append, List.cons_append]
      exact ⟨_, _, rfl, hE⟩
  · obtain ⟨z5, z7, rfl, hE⟩ := hI
    refine ⟨ck_lst (hE _ _ g2), ?_⟩
    have E := x2.trans hE
    try simp (decide := true) only [↓i_var, ↓i_con, ↓i_kon, ↓i_bin, ↓i_neg, ↓i_not, ↓i_and, ↓i_or, ↓i_and0, ↓i_or0, ↓i_and1, ↓i_or1, ↓i_cmp, ↓i_chain, ↓i_lst, ↓i_tup, ↓i_dnew, ↓i_call, ↓i_mk, ↓i_bcall, ↓i_isi, ↓i_meth, ↓i_sel, ↓i_selL, ↓i_fld, ↓i_idx, ↓i_sl, ↓i_lrng, ↓i_lc, ↓i_nil, ↓i_cons, ↓i_o0, ↓i_o1, ↓i_opt, ↓i_seq, ↓i_rng1, ↓i_rng2, ↓i_enum, ↓i_zip, ↓i_wk, ↓i_tst, ↓ws_done, ↓ws_asg, ↓ws_asgT, ↓ws_ofE, ↓ws_of, ↓ws_asgF, ↓ws_asgI, ↓ws_aug, ↓ws_expr, ↓ws_ret, ↓ws_retN, ↓ws_ite, ↓ws_loop, ↓ws_whil, ↓boolIs_b, ↓intIs_i, ↓slot_0, ↓slot_1, ↓set_0, ↓set_1, ↓R.is_ok, ↓SR.is_rt, ↓SR.is_nx, ↓i_ofB, ↓wt_non, ↓wt_bl, ↓wt_int, ↓wt_str, ↓wt_tup, ↓wt_rol, ↓ib_add, ↓ib_sub, ↓ib_fdiv, ↓ib_mod, ↓ib_pow, ↓ib_band, ↓ib_shr, ↓ic_lt, ↓ic_le, ↓ic_gt, ↓ic_ge, ↓ic_is, ↓ic_isnot, ↓ic_eqI, ↓ic_neI, ↓ic_eqB, ↓ic_in1, ↓il_lenT, ↓tx_0, ↓tx_1, ↓tx_2, ↓ineg_i, ↓ws_try, ↓i_isx, ↓xx_done, ↓xx_rais, decide_true, decide_false, Bool.not_true, Bool.not_false, List.length_cons, List.length_nil, Int.reduceToNat, decide_eq_true_eq, Bool.not_eq_true', decide_eq_false_iff_not, Bool.true_eq_false, Bool.false_eq_true, if_true, if_false, reduceCtorEq, not_false_eq_true, not_true_eq_false, or_false, or_true, and_true, true_and, List.nil_append, List.cons_append]
    have y1 := Ext.push s (AO.lst [.int 0, .int 0])
    have k1 := get_push s (AO.lst [.int 0, .int 0])
    generalize s ++ [AO.lst [.int 0, .int 0]] = s3 at y1 k1 ⊢
    generalize hL : ([AV.non, AV.int 0, AV.str [48, 46, 48], AV.ref s.length, AV.tup [AV.int 0], AV.tup [AV.int 0, AV.int 0, AV.int 0], AV.tup [AV.bl false, AV.int 0], AV.tup [AV.int 0, AV.non], AV.tup [AV.tup [AV.int 0, AV.int 0], AV.tup [AV.int 0, AV.int 0]], AV.tup [AV.int z, AV.int 0]] : List AV) = L
    have y2 := Ext.push s3 (AO.lst L)
    have k2 := get_push s3 (AO.lst L)
    have k1 := y2 _ _ k1
    generalize s3 ++ [AO.lst L] = s4 at y2 k1 k2 ⊢
    have F := E.trans (y1.trans y2)
    have hty : ∀ x ∈ L, Ty2 s4 x ∧ doorOkM cs x = false := by
      intro x hx
      rw [← hL] at hx
      simp only [List.mem_cons, List.not_mem_nil, or_false] at hx
      have fl : ∀ v : AV, Ty1 s4 v → (∀ xs, v ≠ .tup xs) → doorOkM cs v = false → Ty2 s4 v ∧ doorOkM cs v = false := fun v h k r => ⟨ty2_flat h k, r⟩
      rcases hx with rfl | rfl | rfl | rfl | rfl | rfl | rfl | rfl | rfl | rfl
      · exact fl _ trivial (by intro xs z; cases z) rfl
      · exact fl _ trivial (by intro xs z; cases z) rfl
      · exact fl _ ⟨rfl, by decide⟩ (by intro xs z; cases z) rfl
      · exact fl _ (.inl ⟨_, k1⟩) (by intro xs z; cases z) rfl
      · exact ⟨ty2_m (by simp; exact trivial), rfl⟩
      · exact ⟨ty2_m (by simp; exact trivial), rfl⟩
      · exact ⟨ty2_m (by simp; exact ⟨trivial, trivial⟩), rfl⟩
      · exact ⟨ty2_m (by simp; exact ⟨trivial, trivial⟩), rfl⟩
      · exact ⟨ty2_m (by simp; exact trivial), rfl⟩
      · refine ⟨ty2_m (by simp; exact ⟨trivial, trivial⟩), ?_⟩
        show isDoor cs (z, 0) = false
        unfold isDoor
        rw [show decide (z < (cs.length : Nat)) = false from decide_eq_false (by omega)]
        simp
    rw [iw_lst k2]
    refine for_is (fun k e s => ∃ z5 z6 z7, e = [some (.ref m), some (.ref a1), some (.tup [.int z, .int 0]), some (.ref dl), some (.ref d1), z5, z6, z7] ∧ Ext s4 s) _ 0 _ _ ⟨_, _, _, rfl, Ext.refl _⟩ (fun i y e s hy hI => ?_) fun e s hI => ?_
    · obtain ⟨z5, z6, z7, rfl, hE⟩ := hI
      obtain ⟨t1, t2⟩ := hty y (List.mem_of_getElem? hy)
      have t1 := t1.ext hE
      have N1 := hN.ext (F.trans hE)
      have t3 : outM cs ws y = false := by
        unfold outM
        unfold doorOkM at t2
        cases e : doorM y with
        | none => rfl
        | some d =>
          rw [e] at t2
          show isOuter cs ws d = false
          unfold isOuter
          rw [show isDoor cs d = false from t2]
          rfl
      refine ⟨ck_lst (hE _ _ k2), _, rfl, ?_⟩
      simp only [bindT, bindT.go, wipeA, List.set_cons_zero, List.set_cons_succ]
      try simp (decide := true) only [↓i_var, ↓i_con, ↓i_kon, ↓i_bin, ↓i_neg, ↓i_not, ↓i_and, ↓i_or, ↓i_and0, ↓i_or0, ↓i_and1, ↓i_or1, ↓i_cmp, ↓i_chain, ↓i_lst, ↓i_tup, ↓i_dnew, ↓i_call, ↓i_mk, ↓i_bcall, ↓i_isi, ↓i_meth, ↓i_sel, ↓i_selL, ↓i_fld, ↓i_idx, ↓i_sl, ↓i_lrng, ↓i_lc, ↓i_nil, ↓i_cons, ↓i_o0, ↓i_o1, ↓i_opt, ↓i_seq, ↓i_rng1, ↓i_rng2, ↓i_enum, ↓i_zip, ↓i_wk, ↓i_tst, ↓ws_done, ↓ws_asg, ↓ws_asgT, ↓ws_ofE, ↓ws_of, ↓ws_asgF, ↓ws_asgI, ↓ws_aug, ↓ws_expr, ↓ws_ret, ↓ws_retN, ↓ws_ite, ↓ws_loop, ↓ws_whil, ↓boolIs_b, ↓intIs_i, ↓slot_0, ↓slot_1, ↓set_0, ↓set_1, ↓R.is_ok, ↓SR.is_rt, ↓SR.is_nx, ↓i_ofB, ↓wt_non, ↓wt_bl, ↓wt_int, ↓wt_str, ↓wt_tup, ↓wt_rol, ↓ib_add, ↓ib_sub, ↓ib_fdiv, ↓ib_mod, ↓ib_pow, ↓ib_band, ↓ib_shr, ↓ic_lt, ↓ic_le, ↓ic_gt, ↓ic_ge, ↓ic_is, ↓ic_isnot, ↓ic_eqI, ↓ic_neI, ↓ic_eqB, ↓ic_in1, ↓il_lenT, ↓tx_0, ↓tx_1, ↓tx_2, ↓ineg_i, ↓ws_try, ↓i_isx, ↓xx_done, ↓xx_rais, decide_true, decide_false, Bool.not_true, Bool.not_false, List.length_cons, List.length_nil, Int.reduceToNat, decide_eq_true_eq, Bool.not_eq_true', decide_eq_false_iff_not, Bool.true_eq_false, Bool.false_eq_true, if_true, if_false, reduceCtorEq, not_false_eq_true, not_true_eq_false, or_false, or_true, and_true, true_and, List.nil_append, List.cons_append, c_law_doors_right_2, ↓sel_is N1.1 m20 rfl]
      refine is_door_any N1 t1 ?_
      rw [t2]
      try simp (decide := true) only [↓i_var, ↓i_con, ↓i_kon, ↓i_bin, ↓i_neg, ↓i_not, ↓i_and, ↓i_or, ↓i_and0, ↓i_or0, ↓i_and1, ↓i_or1, ↓i_cmp, ↓i_chain, ↓i_lst, ↓i_tup, ↓i_dnew, ↓i_call, ↓i_mk, ↓i_bcall, ↓i_isi, ↓i_meth, ↓i_sel, ↓i_selL, ↓i_fld, ↓i_idx, ↓i_sl, ↓i_lrng, ↓i_lc, ↓i_nil, ↓i_cons, ↓i_o0, ↓i_o1, ↓i_opt, ↓i_seq, ↓i_rng1, ↓i_rng2, ↓i_enum, ↓i_zip, ↓i_wk, ↓i_tst, ↓ws_done, ↓ws_asg, ↓ws_asgT, ↓ws_ofE, ↓ws_of, ↓ws_asgF, ↓ws_asgI, ↓ws_aug, ↓ws_expr, ↓ws_ret, ↓ws_retN, ↓ws_ite, ↓ws_loop, ↓ws_whil, ↓boolIs_b, ↓intIs_i, ↓slot_0, ↓slot_1, ↓set_0, ↓set_1, ↓R.is_ok, ↓SR.is_rt, ↓SR.is_nx, ↓i_ofB, ↓wt_non, ↓wt_bl, ↓wt_int, ↓wt_str, ↓wt_tup, ↓wt_rol, ↓ib_add, ↓ib_sub, ↓ib_fdiv, ↓ib_mod, ↓ib_pow, ↓ib_band, ↓ib_shr, ↓ic_lt, ↓ic_le, ↓ic_gt, ↓ic_ge, ↓ic_is, ↓ic_isnot, ↓ic_eqI, ↓ic_neI, ↓ic_eqB, ↓ic_in1, ↓il_lenT, ↓tx_0, ↓tx_1, ↓tx_2, ↓ineg_i, ↓ws_try, ↓i_isx, ↓xx_done, ↓xx_rais, decide_true, decide_false, Bool.not_true, Bool.not_false, List.length_cons, List.length_nil, Int.reduceToNat, decide_eq_true_eq, Bool.not_eq_true', decide_eq_false_iff_not, Bool.true_eq_false, Bool.false_eq_true, if_true, if_false, reduceCtorEq, not_false_eq_true, not_true_eq_false, or_false, or_true, and_true, true_and, List.nil_append, List.cons_append]
      refine truth_is rfl ?_
      try simp (decide := true) only [↓i_var, ↓i_con, ↓i_kon, ↓i_bin, ↓i_neg, ↓i_not, ↓i_and, ↓i_or, ↓i_and0, ↓i_or0, ↓i_and1, ↓i_or1, ↓i_cmp, ↓i_chain, ↓i_lst, ↓i_tup, ↓i_dnew, ↓i_call, ↓i_mk, ↓i_bcall, ↓i_isi, ↓i_meth, ↓i_sel, ↓i_selL, ↓i_fld, ↓i_idx, ↓i_sl, ↓i_lrng, ↓i_lc, ↓i_nil, ↓i_cons, ↓i_o0, ↓i_o1, ↓i_opt, ↓i_seq, ↓i_rng1, ↓i_rng2, ↓i_enum, ↓i_zip, ↓i_wk, ↓i_tst, ↓ws_done, ↓ws_asg, ↓ws_asgT, ↓ws_ofE, ↓ws_of, ↓ws_asgF, ↓ws_asgI, ↓ws_aug, ↓ws_expr, ↓ws_ret, ↓ws_retN, ↓ws_ite, ↓ws_loop, ↓ws_whil, ↓boolIs_b, ↓intIs_i, ↓slot_0, ↓slot_1, ↓set_0, ↓set_1, ↓R.is_ok, ↓SR.is_rt, ↓SR.is_nx, ↓i_ofB, ↓wt_non, ↓wt_bl, ↓wt_int, ↓wt_str, ↓wt_tup, ↓wt_rol, ↓ib_add, ↓ib_sub, ↓ib_fdiv, ↓ib_mod, ↓ib_pow, ↓ib_band, ↓ib_shr, ↓ic_lt, ↓ic_le, ↓ic_gt, ↓ic_ge, ↓ic_is, ↓ic_isnot, ↓ic_eqI, ↓ic_neI, ↓ic_eqB, ↓ic_in1, ↓il_lenT, ↓tx_0, ↓tx_1, ↓tx_2, ↓ineg_i, ↓ws_try, ↓i_isx, ↓xx_done, ↓xx_rais, decide_true, decide_false, Bool.not_true, Bool.not_false, List.length_cons, List.length_nil, Int.reduceToNat, decide_eq_true_eq, Bool.not_eq_true', decide_eq_false_iff_not, Bool.true_eq_false, Bool.false_eq_true, if_true, if_false, reduceCtorEq, not_false_eq_true, not_true_eq_false, or_false, or_true, and_true, true_and, List.nil_append, List.cons_append, ↓sel_is N1.1 m21 rfl]
      refine is_outer_any N1 t1 ?_
      rw [t3]
      try simp (decide := true) only [↓i_var, ↓i_con, ↓i_kon, ↓i_bin, ↓i_neg, ↓i_not, ↓i_and, ↓i_or, ↓i_and0, ↓i_or0, ↓i_and1, ↓i_or1, ↓i_cmp, ↓i_chain, ↓i_lst, ↓i_tup, ↓i_dnew, ↓i_call, ↓i_mk, ↓i_bcall, ↓i_isi, ↓i_meth, ↓i_sel, ↓i_selL, ↓i_fld, ↓i_idx, ↓i_sl, ↓i_lrng, ↓i_lc, ↓i_nil, ↓i_cons, ↓i_o0, ↓i_o1, ↓i_opt, ↓i_seq, ↓i_rng1, ↓i_rng2, ↓i_enum, ↓i_zip, ↓i_wk, ↓i_tst, ↓ws_done, ↓ws_asg, ↓ws_asgT, ↓ws_ofE, ↓ws_of, ↓ws_asgF, ↓ws_asgI, ↓ws_aug, ↓ws_expr, ↓ws_ret, ↓ws_retN, ↓ws_ite, ↓ws_loop, ↓ws_whil, ↓boolIs_b, ↓intIs_i, ↓slot_0, ↓slot_1, ↓set_0, ↓set_1, ↓R.is_ok, ↓SR.is_rt, ↓SR.is_nx, ↓i_ofB, ↓wt_non, ↓wt_bl, ↓wt_int, ↓wt_str, ↓wt_tup, ↓wt_rol, ↓ib_add, ↓ib_sub, ↓ib_fdiv, ↓ib_mod, ↓ib_pow, ↓ib_band, ↓ib_shr, ↓ic_lt, ↓ic_le, ↓ic_gt, ↓ic_ge, ↓ic_is, ↓ic_isnot, ↓ic_eqI, ↓ic_neI, ↓ic_eqB, ↓ic_in1, ↓il_lenT, ↓tx_0, ↓tx_1, ↓tx_2, ↓ineg_i, ↓ws_try, ↓i_isx, ↓xx_done, ↓xx_rais, decide_true, decide_false, Bool.not_true, Bool.not_false, List.length_cons, List.length_nil, Int.reduceToNat, decide_eq_true_eq, Bool.not_eq_true', decide_eq_false_iff_not, Bool.true_eq_false, Bool.false_eq_true, if_true, if_false, reduceCtorEq, not_false_eq_true, not_true_eq_false, or_false, or_true, and_true, true_and, List.nil_append, List.cons_append]
      refine truth_is rfl ?_
      try simp (decide := true) only [↓i_var, ↓i_con, ↓i_kon, ↓i_bin, ↓i_neg, ↓i_not, ↓i_and, ↓i_or, ↓i_and0, ↓i_or0, ↓i_and1, ↓i_or1, ↓i_cmp, ↓i_chain, ↓i_lst, ↓i_tup, ↓i_dnew, ↓i_call, ↓i_mk, ↓i_bcall, ↓i_isi, ↓i_meth, ↓i_sel, ↓i_selL, ↓i_fld, ↓i_idx, ↓i_sl, ↓i_lrng, ↓i_lc, ↓i_nil, ↓i_cons, ↓i_o0, ↓i_o1, ↓i_opt, ↓i_seq, ↓i_rng1, ↓i_rng2, ↓i_enum, ↓i_zip, ↓i_wk, ↓i_tst, ↓ws_done, ↓ws_asg, ↓ws_asgT, ↓ws_ofE, ↓ws_of, ↓ws_asgF, ↓ws_asgI, ↓ws_aug, ↓ws_expr, ↓ws_ret, ↓ws_retN, ↓ws_ite, ↓ws_loop, ↓ws_whil, ↓boolIs_b, ↓intIs_i, ↓slot_0, ↓slot_1, ↓set_0, ↓set_1, ↓R.is_ok, ↓SR.is_rt, ↓SR.is_nx, ↓i_ofB, ↓wt_non, ↓wt_bl, ↓wt_int, ↓wt_str, ↓wt_tup, ↓wt_rol, ↓ib_add, ↓ib_sub, ↓ib_fdiv, ↓ib_mod, ↓ib_pow, ↓ib_band, ↓ib_shr, ↓ic_lt, ↓ic_le, ↓ic_gt, ↓ic_ge, ↓ic_is, ↓ic_isnot, ↓ic_eqI, ↓ic_neI, ↓ic_eqB, ↓ic_in1, ↓il_lenT, ↓tx_0, ↓tx_1, ↓tx_2, ↓ineg_i, ↓ws_try, ↓i_isx, ↓xx_done, ↓xx_rais, decide_true, decide_false, Bool.not_true, Bool.not_false, List.length_cons, List.length_nil, Int.reduceToNat, decide_eq_true_eq, Bool.not_eq_true', decide_eq_false_iff_not, Bool.true_eq_false, Bool.false_eq_true, if_true, if_false, reduceCtorEq, not_false_eq_true, not_true_eq_false, or_false, or_true, and_true, true_and, List.nil_append, List.cons_append]
      exact ⟨_, _, _, rfl, hE⟩
    · obtain ⟨z5, z6, z7, rfl, hE⟩ := hI
      refine ⟨ck_lst (hE _ _ k2), ?_⟩
      try simp (decide := true) only [↓i_var, ↓i_con, ↓i_kon, ↓i_bin, ↓i_neg, ↓i_not, ↓i_and, ↓i_or, ↓i_and0, ↓i_or0, ↓i_and1, ↓i_or1, ↓i_cmp, ↓i_chain, ↓i_lst, ↓i_tup, ↓i_dnew, ↓i_call, ↓i_mk, ↓i_bcall, ↓i_isi, ↓i_meth, ↓i_sel, ↓i_selL, ↓i_fld, ↓i_idx, ↓i_sl, ↓i_lrng, ↓i_lc, ↓i_nil, ↓i_cons, ↓i_o0, ↓i_o1, ↓i_opt, ↓i_seq, ↓i_rng1, ↓i_rng2, ↓i_enum, ↓i_zip, ↓i_wk, ↓i_tst, ↓ws_done, ↓ws_asg, ↓ws_asgT, ↓ws_ofE, ↓ws_of, ↓ws_asgF, ↓ws_asgI, ↓ws_aug, ↓ws_expr, ↓ws_ret, ↓ws_retN, ↓ws_ite, ↓ws_loop, ↓ws_whil, ↓boolIs_b, ↓intIs_i, ↓slot_0, ↓slot_1, ↓set_0, ↓set_1, ↓R.is_ok, ↓SR.is_rt, ↓SR.is_nx, ↓i_ofB, ↓wt_non, ↓wt_bl, ↓wt_int, ↓wt_str, ↓wt_tup, ↓wt_rol, ↓ib_add, ↓ib_sub, ↓ib_fdiv, ↓ib_mod, ↓ib_pow, ↓ib_band, ↓ib_shr, ↓ic_lt, ↓ic_le, ↓ic_gt, ↓ic_ge, ↓ic_is, ↓ic_isnot, ↓ic_eqI, ↓ic_neI, ↓ic_eqB, ↓ic_in1, ↓il_lenT, ↓tx_0, ↓tx_1, ↓tx_2, ↓ineg_i, ↓ws_try, ↓i_isx, ↓xx_done, ↓xx_rais, decide_true, decide_false, Bool.not_true, Bool.not_false, List.length_cons, List.length_nil, Int.reduceToNat, decide_eq_true_eq, Bool.not_eq_true', decide_eq_false_iff_not, Bool.true_eq_false, Bool.false_eq_true, if_true, if_false, reduceCtorEq, not_false_eq_true, not_true_eq_false, or_false, or_true, and_true, true_and, List.nil_append, List.cons_append]
      exact q _ (F.trans hE)
theorem eqA_wires {st : Sto} {m n : Nat} {ws : List Wire} (h : st[m]? = some (.lst (ws.map wireV))) (k : st[n]? = some (.lst (ws.map wireV))) : eqA st (.ref m) (.ref n) = some true := by
  rw [eqA_of (pd_lst h fun x _ => pd_wire 5 st x) (pd_lst k fun x _ => pd_wire 5 st x) (can_map fun x _ => can_wire x) (can_map fun x _ => can_wire x), eqv_lists eqv_wire]
  simp
theorem eqA_doors {st : Sto} {m n : Nat} {ws : List Door} (h : st[m]? = some (.lst (ws.map doorV))) (k : st[n]? = some (.lst (ws.map doorV))) : eqA st (.ref m) (.ref n) = some true := by
  rw [eqA_of (pd_lst h fun x _ => pd_door 6 st x) (pd_lst k fun x _ => pd_door 6 st x) (can_map fun x _ => can_door x) (can_map fun x _ => can_door x), eqv_lists eqv_door]
  simp
theorem eqA_od {st : Sto} (o : Option Door) : eqA st (odV o) (odV o) = some true := by
  cases o with
  | none => rfl
  | some d =>
    show eqA st (doorV d) (doorV d) = some true
    rw [eqA_of (pd_door 7 st d) (pd_door 7 st d) (can_door d) (can_door d), eqv_door]
    simp
theorem get_od (ws : List Wire) (d : Door) : (getK (doorK d) (tblF ws)).getD .non = odV (beyF ws d) := by
  rw [tbl_get]
  cases beyF ws d <;> rfl
set_option maxHeartbeats 1000000 in
theorem right_is {n m a b t a1 b1 : Nat} {st : Sto} {cs : List Int} {ws : List Wire} {z : Int} {Q : AV → Sto → Prop} (hN : NetIns st m a b t cs ws) (hC : CntOk cs) (hwl : ws.length ≤ 12) (ha : st[a1]? = some (.lst (cs.map AV.int))) (hb : st[b1]? = some (.lst (ws.map wireV))) (hz : 6 ≤ z)
    (q : ∀ s, Ext st s → Q (.bl true) s) : (callF tab (n + 7) g_law_right_11 [.ref m, .ref a1, .ref b1, .tup [.int z, .int 0]] st).Is Q := by
  have c0 : (0 : Int) < cs.length := by have := hC.len1; omega
  have hDl := doorsUpto_len hC.cnt cs.length (Nat.le_refl _)
  have eD : doorsUpto cs cs.length = allD cs := rfl
  rw [eD] at hDl
  have hl2 := hC.len2
  refine call_is rfl rfl ?_; simp only [List.map_cons, List.map_nil, List.cons_append, List.nil_append, List.replicate_succ, List.replicate_zero, Nat.reduceSub]
  try simp (decide := true) only [↓i_var, ↓i_con, ↓i_kon, ↓i_bin, ↓i_neg, ↓i_not, ↓i_and, ↓i_or, ↓i_and0, ↓i_or0, ↓i_and1, ↓i_or1, ↓i_cmp, ↓i_chain, ↓i_lst, ↓i_tup, ↓i_dnew, ↓i_call, ↓i_mk, ↓i_bcall, ↓i_isi, ↓i_meth, ↓i_sel, ↓i_selL, ↓i_fld, ↓i_idx, ↓i_sl, ↓i_lrng, ↓i_lc, ↓i_nil, ↓i_cons, ↓i_o0, ↓i_o1, ↓i_opt, ↓i_seq, ↓i_rng1, ↓i_rng2, ↓i_enum, ↓i_zip, ↓i_wk, ↓i_tst, ↓ws_done, ↓ws_asg, ↓ws_asgT, ↓ws_ofE, ↓ws_of, ↓ws_asgF, ↓ws_asgI, ↓ws_aug, ↓ws_expr, ↓ws_ret, ↓ws_retN, ↓ws_ite, ↓ws_loop, ↓ws_whil, ↓boolIs_b, ↓intIs_i, ↓slot_0, ↓slot_1, ↓set_0, ↓set_1, ↓R.is_ok, ↓SR.is_rt, ↓SR.is_nx, ↓i_ofB, ↓wt_non, ↓wt_bl, ↓wt_int, ↓wt_str, ↓wt_tup, ↓wt_rol, ↓ib_add, ↓ib_sub, ↓ib_fdiv, ↓ib_mod, ↓ib_pow, ↓ib_band, ↓ib_shr, ↓ic_lt, ↓ic_le, ↓ic_gt, ↓ic_ge, ↓ic_is, ↓ic_isnot, ↓ic_eqI, ↓ic_neI, ↓ic_eqB, ↓ic_in1, ↓il_lenT, ↓tx_0, ↓tx_1, ↓tx_2, ↓ineg_i, ↓ws_try, ↓i_isx, ↓xx_done, ↓xx_rais, decide_true, decide_false, Bool.not_true, Bool.not_false, List.length_cons, List.length_nil, Int.reduceToNat, decide_eq_true_eq, Bool.not_eq_true', decide_eq_false_iff_not, Bool.true_eq_false, Bool.false_eq_true, if_true, if_false, reduceCtorEq, not_false_eq_true, not_true_eq_false, or_false, or_true, and_true, true_and, List.nil_append, List.cons_append, c_law_right_11]
  refine doors_d ha hC.len2 hC.cnt fun s1 dl h1 _ hd => ?_
  try simp (decide := true) only [↓i_var, ↓i_con, ↓i_kon, ↓i_bin, ↓i_neg, ↓i_not, ↓i_and, ↓i_or, ↓i_and0, ↓i_or0, ↓i_and1, ↓i_or1, ↓i_cmp, ↓i_chain, ↓i_lst, ↓i_tup, ↓i_dnew, ↓i_call, ↓i_mk, ↓i_bcall, ↓i_isi, ↓i_meth, ↓i_sel, ↓i_selL, ↓i_fld, ↓i_idx, ↓i_sl, ↓i_lrng, ↓i_lc, ↓i_nil, ↓i_cons, ↓i_o0, ↓i_o1, ↓i_opt, ↓i_seq, ↓i_rng1, ↓i_rng2, ↓i_enum, ↓i_zip, ↓i_wk, ↓i_tst, ↓ws_done, ↓ws_asg, ↓ws_asgT, ↓ws_ofE, ↓ws_of, ↓ws_asgF, ↓ws_asgI, ↓ws_aug, ↓ws_expr, ↓ws_ret, ↓ws_retN, ↓ws_ite, ↓ws_loop, ↓ws_whil, ↓boolIs_b, ↓intIs_i, ↓slot_0, ↓slot_1, ↓set_0, ↓set_1, ↓R.is_ok, ↓SR.is_rt, ↓SR.is_nx, ↓i_ofB, ↓wt_non, ↓wt_bl, ↓wt_int, ↓wt_str, ↓wt_tup, ↓wt_rol, ↓ib_add, ↓ib_sub, ↓ib_fdiv, ↓ib_mod, ↓ib_pow, ↓ib_band, ↓ib_shr, ↓ic_lt, ↓ic_le, ↓ic_gt, ↓ic_ge, ↓ic_is, ↓ic_isnot, ↓ic_eqI, ↓ic_neI, ↓ic_eqB, ↓ic_in1, ↓il_lenT, ↓tx_0, ↓tx_1, ↓tx_2, ↓ineg_i, ↓ws_try, ↓i_isx, ↓xx_done, ↓xx_rais, decide_true, decide_false, Bool.not_true, Bool.not_false, List.length_cons, List.length_nil, Int.reduceToNat, decide_eq_true_eq, Bool.not_eq_true', decide_eq_false_iff_not, Bool.true_eq_false, Bool.false_eq_true, if_true, if_false, reduceCtorEq, not_false_eq_true, not_true_eq_false, or_false, or_true, and_true, true_and, List.nil_append, List.cons_append]
  have g0 := get_push s1 (AO.dT [])
  have x0 := Ext.push s1 (AO.dT [])
  have E0 := h1.trans x0
  have hr0 : s1.length ≤ s1.length := Nat.le_refl _
  generalize s1 ++ [AO.dT []] = s0 at g0 x0 E0 ⊢
  generalize hr1 : s1.length = r at g0 hr0 ⊢
  rw [iw_lst (E0 _ _ hb)]
  refine for_is (fun k e s => ∃ z8 z9, e = [some (.ref m), some (.ref a1), some (.ref b1), some (.tup [.int z, .int 0]), some (.ref dl), some (.ref r), none, none, z8, z9] ∧ Ext s1 s ∧ s[r]? = some (.dT (tblF (ws.take k)))) _ 0 _ _ ⟨_, _, rfl, x0, g0⟩ (fun i y e s hy hI => ?_) fun e s hI => ?_
  · obtain ⟨z8, z9, rfl, hE, hdd⟩ := hI
    rw [Nat.zero_add] at hdd
    rw [List.getElem?_map] at hy
    obtain ⟨w, hw, rfl⟩ := Option.map_eq_some_iff.mp hy
    refine ⟨ck_lst (hE _ _ (h1 _ _ hb)), _, rfl, ?_⟩
    have tl := tbl_len (ws.take i) []
    rw [List.length_take] at tl
    have tl : (tblF (ws.take i)).length ≤ 200 := by unfold tblF; simp at tl; omega
    have pl := put_len (doorK w.1) (doorV w.2) (tblF (ws.take i))
    simp only [bindT, bindT.go, wipeA, List.set_cons_zero, List.set_cons_succ]
    try simp (decide := true) only [↓i_var, ↓i_con, ↓i_kon, ↓i_bin, ↓i_neg, ↓i_not, ↓i_and, ↓i_or, ↓i_and0, ↓i_or0, ↓i_and1, ↓i_or1, ↓i_cmp, ↓i_chain, ↓i_lst, ↓i_tup, ↓i_dnew, ↓i_call, ↓i_mk, ↓i_bcall, ↓i_isi, ↓i_meth, ↓i_sel, ↓i_selL, ↓i_fld, ↓i_idx, ↓i_sl, ↓i_lrng, ↓i_lc, ↓i_nil, ↓i_cons, ↓i_o0, ↓i_o1, ↓i_opt, ↓i_seq, ↓i_rng1, ↓i_rng2, ↓i_enum, ↓i_zip, ↓i_wk, ↓i_tst, ↓ws_done, ↓ws_asg, ↓ws_asgT, ↓ws_ofE, ↓ws_of, ↓ws_asgF, ↓ws_asgI, ↓ws_aug, ↓ws_expr, ↓ws_ret, ↓ws_retN, ↓ws_ite, ↓ws_loop, ↓ws_whil, ↓boolIs_b, ↓intIs_i, ↓slot_0, ↓slot_1, ↓set_0, ↓set_1, ↓R.is_ok, ↓SR.is_rt, ↓SR.is_nx, ↓i_ofB, ↓wt_non, ↓wt_bl, ↓wt_int, ↓wt_str, ↓wt_tup, ↓wt_rol, ↓ib_add, ↓ib_sub, ↓ib_fdiv, ↓ib_mod, ↓ib_pow, ↓ib_band, ↓ib_shr, ↓ic_lt, ↓ic_le, ↓ic_gt, ↓ic_ge, ↓ic_is, ↓ic_isnot, ↓ic_eqI, ↓ic_neI, ↓ic_eqB, ↓ic_in1, ↓il_lenT, ↓tx_0, ↓tx_1, ↓tx_2, ↓ineg_i, ↓ws_try, ↓i_isx, ↓xx_done, ↓xx_rais, decide_true, decide_false, Bool.not_true, Bool.not_false, List.length_cons, List.length_nil, Int.reduceToNat, decide_eq_true_eq, Bool.not_eq_true', decide_eq_false_iff_not, Bool.true_eq_false, Bool.false_eq_true, if_true, if_false, reduceCtorEq, not_false_eq_true, not_true_eq_false, or_false, or_true, and_true, true_and, List.nil_append, List.cons_append, c_law_right_11_1]
    rw [ws_setD hdd (by unfold lim; omega)]
    have hd6 := get_set (o := AO.dT (putK (doorK w.1) (doorV w.2) (tblF (ws.take i)))) hdd
    have E6 : Ext s1 (s.set r (.dT (putK (doorK w.1) (doorV w.2) (tblF (ws.take i))))) := Ext.set hE (by omega)
    generalize s.set r (.dT (putK (doorK w.1) (doorV w.2) (tblF (ws.take i)))) = s7 at hd6 E6 ⊢
    try simp (decide := true) only [↓i_var, ↓i_con, ↓i_kon, ↓i_bin, ↓i_neg, ↓i_not, ↓i_and, ↓i_or, ↓i_and0, ↓i_or0, ↓i_and1, ↓i_or1, ↓i_cmp, ↓i_chain, ↓i_lst, ↓i_tup, ↓i_dnew, ↓i_call, ↓i_mk, ↓i_bcall, ↓i_isi, ↓i_meth, ↓i_sel, ↓i_selL, ↓i_fld, ↓i_idx, ↓i_sl, ↓i_lrng, ↓i_lc, ↓i_nil, ↓i_cons, ↓i_o0, ↓i_o1, ↓i_opt, ↓i_seq, ↓i_rng1, ↓i_rng2, ↓i_enum, ↓i_zip, ↓i_wk, ↓i_tst, ↓ws_done, ↓ws_asg, ↓ws_asgT, ↓ws_ofE, ↓ws_of, ↓ws_asgF, ↓ws_asgI, ↓ws_aug, ↓ws_expr, ↓ws_ret, ↓ws_retN, ↓ws_ite, ↓ws_loop, ↓ws_whil, ↓boolIs_b, ↓intIs_i, ↓slot_0, ↓slot_1, ↓set_0, ↓set_1, ↓R.is_ok, ↓SR.is_rt, ↓SR.is_nx, ↓i_ofB, ↓wt_non, ↓wt_bl, ↓wt_int, ↓wt_str, ↓wt_tup, ↓wt_rol, ↓ib_add, ↓ib_sub, ↓ib_fdiv, ↓ib_mod, ↓ib_pow, ↓ib_band, ↓ib_shr, ↓ic_lt, ↓ic_le, ↓ic_gt, ↓ic_ge, ↓ic_is, ↓ic_isnot, ↓ic_eqI, ↓ic_neI, ↓ic_eqB, ↓ic_in1, ↓il_lenT, ↓tx_0, ↓tx_1, ↓tx_2, ↓ineg_i, ↓ws_try, ↓i_isx, ↓xx_done, ↓xx_rais, decide_true, decide_false, Bool.not_true, Bool.not_false, List.length_cons, List.length_nil, Int.reduceToNat, decide_eq_true_eq, Bool.not_eq_true', decide_eq_false_iff_not, Bool.true_eq_false, Bool.false_eq_true, if_true, if_false, reduceCtorEq, not_false_eq_true, not_true_eq_false, or_false, or_true, and_true, true_and, List.nil_append, List.cons_append]
    rw [ws_setD hd6 (by unfold lim; omega)]
    try simp (decide := true) only [↓i_var, ↓i_con, ↓i_kon, ↓i_bin, ↓i_neg, ↓i_not, ↓i_and, ↓i_or, ↓i_and0, ↓i_or0, ↓i_and1, ↓i_or1, ↓i_cmp, ↓i_chain, ↓i_lst, ↓i_tup, ↓i_dnew, ↓i_call, ↓i_mk, ↓i_bcall, ↓i_isi, ↓i_meth, ↓i_sel, ↓i_selL, ↓i_fld, ↓i_idx, ↓i_sl, ↓i_lrng, ↓i_lc, ↓i_nil, ↓i_cons, ↓i_o0, ↓i_o1, ↓i_opt, ↓i_seq, ↓i_rng1, ↓i_rng2, ↓i_enum, ↓i_zip, ↓i_wk, ↓i_tst, ↓ws_done, ↓ws_asg, ↓ws_asgT, ↓ws_ofE, ↓ws_of, ↓ws_asgF, ↓ws_asgI, ↓ws_aug, ↓ws_expr, ↓ws_ret, ↓ws_retN, ↓ws_ite, ↓ws_loop, ↓ws_whil, ↓boolIs_b, ↓intIs_i, ↓slot_0, ↓slot_1, ↓set_0, ↓set_1, ↓R.is_ok, ↓SR.is_rt, ↓SR.is_nx, ↓i_ofB, ↓wt_non, ↓wt_bl, ↓wt_int, ↓wt_str, ↓wt_tup, ↓wt_rol, ↓ib_add, ↓ib_sub, ↓ib_fdiv, ↓ib_mod, ↓ib_pow, ↓ib_band, ↓ib_shr, ↓ic_lt, ↓ic_le, ↓ic_gt, ↓ic_ge, ↓ic_is, ↓ic_isnot, ↓ic_eqI, ↓ic_neI, ↓ic_eqB, ↓ic_in1, ↓il_lenT, ↓tx_0, ↓tx_1, ↓tx_2, ↓ineg_i, ↓ws_try, ↓i_isx, ↓xx_done, ↓xx_rais, decide_true, decide_false, Bool.not_true, Bool.not_false, List.length_cons, List.length_nil, Int.reduceToNat, decide_eq_true_eq, Bool.not_eq_true', decide_eq_false_iff_not, Bool.true_eq_false, Bool.false_eq_true, if_true, if_false, reduceCtorEq, not_false_eq_true, not_true_eq_false, or_false, or_true, and_true, true_and, List.nil_append, List.cons_append]
    refine ⟨_, _, rfl, Ext.set E6 (by omega), ?_⟩
    rw [get_set hd6, show 0 + i + 1 = i + 1 by omega, List.take_add_one, hw]
    show _ = some (AO.dT (tblF (ws.take i ++ [w])))
    unfold tblF
    rw [List.foldl_append]
    rfl
  · obtain ⟨z8, z9, rfl, hE, hdd⟩ := hI
    rw [Nat.zero_add, List.length_map, List.take_length] at hdd
    refine ⟨ck_lst (hE _ _ (h1 _ _ hb)), ?_⟩
    have E1 := h1.trans hE
    have N1 := hN.ext E1
    try simp (decide := true) only [↓i_var, ↓i_con, ↓i_kon, ↓i_bin, ↓i_neg, ↓i_not, ↓i_and, ↓i_or, ↓i_and0, ↓i_or0, ↓i_and1, ↓i_or1, ↓i_cmp, ↓i_chain, ↓i_lst, ↓i_tup, ↓i_dnew, ↓i_call, ↓i_mk, ↓i_bcall, ↓i_isi, ↓i_meth, ↓i_sel, ↓i_selL, ↓i_fld, ↓i_idx, ↓i_sl, ↓i_lrng, ↓i_lc, ↓i_nil, ↓i_cons, ↓i_o0, ↓i_o1, ↓i_opt, ↓i_seq, ↓i_rng1, ↓i_rng2, ↓i_enum, ↓i_zip, ↓i_wk, ↓i_tst, ↓ws_done, ↓ws_asg, ↓ws_asgT, ↓ws_ofE, ↓ws_of, ↓ws_asgF, ↓ws_asgI, ↓ws_aug, ↓ws_expr, ↓ws_ret, ↓ws_retN, ↓ws_ite, ↓ws_loop, ↓ws_whil, ↓boolIs_b, ↓intIs_i, ↓slot_0, ↓slot_1, ↓set_0, ↓set_1, ↓R.is_ok, ↓SR.is_rt, ↓SR.is_nx, ↓i_ofB, ↓wt_non, ↓wt_bl, ↓wt_int, ↓wt_str, ↓wt_tup, ↓wt_rol, ↓ib_add, ↓ib_sub, ↓ib_fdiv, ↓ib_mod, ↓ib_pow, ↓ib_band, ↓ib_shr, ↓ic_lt, ↓ic_le, ↓ic_gt, ↓ic_ge, ↓ic_is, ↓ic_isnot, ↓ic_eqI, ↓ic_neI, ↓ic_eqB, ↓ic_in1, ↓il_lenT, ↓tx_0, ↓tx_1, ↓tx_2, ↓ineg_i, ↓ws_try, ↓i_isx, ↓xx_done, ↓xx_rais, decide_true, decide_false, Bool.not_true, Bool.not_false, List.length_cons, List.length_nil, Int.reduceToNat, decide_eq_true_eq, Bool.not_eq_true', decide_eq_false_iff_not, Bool.true_eq_false, Bool.false_eq_true, if_true, if_false, reduceCtorEq, not_false_eq_true, not_true_eq_false, or_false, or_true, and_true, true_and, List.nil_append, List.cons_append, ↓fld_is N1.1 f22 rfl, ↓il_len (E1 _ _ ha), List.length_map, ↓sel_is N1.1 m23 rfl]
    refine wires_r N1 ?_
    have y1 := Ext.push s (AO.lst (ws.map wireV))
    have k1 := get_push s (AO.lst (ws.map wireV))
    have e1 := eqA_wires k1 (y1 _ _ (E1 _ _ hb))
    generalize s ++ [AO.lst (ws.map wireV)] = s2 at y1 k1 e1 ⊢
    have E2 := E1.trans y1
    try simp (decide := true) only [↓i_var, ↓i_con, ↓i_kon, ↓i_bin, ↓i_neg, ↓i_not, ↓i_and, ↓i_or, ↓i_and0, ↓i_or0, ↓i_and1, ↓i_or1, ↓i_cmp, ↓i_chain, ↓i_lst, ↓i_tup, ↓i_dnew, ↓i_call, ↓i_mk, ↓i_bcall, ↓i_isi, ↓i_meth, ↓i_sel, ↓i_selL, ↓i_fld, ↓i_idx, ↓i_sl, ↓i_lrng, ↓i_lc, ↓i_nil, ↓i_cons, ↓i_o0, ↓i_o1, ↓i_opt, ↓i_seq, ↓i_rng1, ↓i_rng2, ↓i_enum, ↓i_zip, ↓i_wk, ↓i_tst, ↓ws_done, ↓ws_asg, ↓ws_asgT, ↓ws_ofE, ↓ws_of, ↓ws_asgF, ↓ws_asgI, ↓ws_aug, ↓ws_expr, ↓ws_ret, ↓ws_retN, ↓ws_ite, ↓ws_loop, ↓ws_whil, ↓boolIs_b, ↓intIs_i, ↓slot_0, ↓slot_1, ↓set_0, ↓set_1, ↓R.is_ok, ↓SR.is_rt, ↓SR.is_nx, ↓i_ofB, ↓wt_non, ↓wt_bl, ↓wt_int, ↓wt_str, ↓wt_tup, ↓wt_rol, ↓ib_add, ↓ib_sub, ↓ib_fdiv, ↓ib_mod, ↓ib_pow, ↓ib_band, ↓ib_shr, ↓ic_lt, ↓ic_le, ↓ic_gt, ↓ic_ge, ↓ic_is, ↓ic_isnot, ↓ic_eqI, ↓ic_neI, ↓ic_eqB, ↓ic_in1, ↓il_lenT, ↓tx_0, ↓tx_1, ↓tx_2, ↓ineg_i, ↓ws_try, ↓i_isx, ↓xx_done, ↓xx_rais, decide_true, decide_false, Bool.not_true, Bool.not_false, List.length_cons, List.length_nil, Int.reduceToNat, decide_eq_true_eq, Bool.not_eq_true', decide_eq_false_iff_not, Bool.true_eq_false, Bool.false_eq_true, if_true, if_false, reduceCtorEq, not_false_eq_true, not_true_eq_false, or_false, or_true, and_true, true_and, List.nil_append, List.cons_append, ↓ic_ne e1, ↓il_len (E2 _ _ ha), List.length_map]
    have N2 := hN.ext E2
    rw [ir_1 (by omega) (by omega), Int.toNat_natCast, intsFrom_0]
    refine for_is (fun k e s => ∃ z6, e = [some (.ref m), some (.ref a1), some (.ref b1), some (.tup [.int z, .int 0]), some (.ref dl), some (.ref r), z6, none, z8, z9] ∧ Ext s2 s) _ 0 _ _ ⟨_, rfl, Ext.refl _⟩ (fun i y e s hy hI => ?_) fun e s hI => ?_
    · obtain ⟨z6, rfl, hF⟩ := hI
      rw [List.getElem?_map] at hy
      obtain ⟨y1, hy1, rfl⟩ := Option.map_eq_some_iff.mp hy
      obtain ⟨hi, e1⟩ := List.getElem?_eq_some_iff.mp hy1
      rw [List.getElem_range] at e1
      subst e1
      rw [List.length_range] at hi
      have N3 := N2.ext hF
      refine ⟨rfl, _, rfl, ?_⟩
      simp only [bindT, bindT.go, wipeA, List.set_cons_zero, List.set_cons_succ]
      try simp (decide := true) only [↓i_var, ↓i_con, ↓i_kon, ↓i_bin, ↓i_neg, ↓i_not, ↓i_and, ↓i_or, ↓i_and0, ↓i_or0, ↓i_and1, ↓i_or1, ↓i_cmp, ↓i_chain, ↓i_lst, ↓i_tup, ↓i_dnew, ↓i_call, ↓i_mk, ↓i_bcall, ↓i_isi, ↓i_meth, ↓i_sel, ↓i_selL, ↓i_fld, ↓i_idx, ↓i_sl, ↓i_lrng, ↓i_lc, ↓i_nil, ↓i_cons, ↓i_o0, ↓i_o1, ↓i_opt, ↓i_seq, ↓i_rng1, ↓i_rng2, ↓i_enum, ↓i_zip, ↓i_wk, ↓i_tst, ↓ws_done, ↓ws_asg, ↓ws_asgT, ↓ws_ofE, ↓ws_of, ↓ws_asgF, ↓ws_asgI, ↓ws_aug, ↓ws_expr, ↓ws_ret, ↓ws_retN, ↓ws_ite, ↓ws_loop, ↓ws_whil, ↓boolIs_b, ↓intIs_i, ↓slot_0, ↓slot_1, ↓set_0, ↓set_1, ↓R.is_ok, ↓SR.is_rt, ↓SR.is_nx, ↓i_ofB, ↓wt_non, ↓wt_bl, ↓wt_int, ↓wt_str, ↓wt_tup, ↓wt_rol, ↓ib_add, ↓ib_sub, ↓ib_fdiv, ↓ib_mod, ↓ib_pow, ↓ib_band, ↓ib_shr, ↓ic_lt, ↓ic_le, ↓ic_gt, ↓ic_ge, ↓ic_is, ↓ic_isnot, ↓ic_eqI, ↓ic_neI, ↓ic_eqB, ↓ic_in1, ↓il_lenT, ↓tx_0, ↓tx_1, ↓tx_2, ↓ineg_i, ↓ws_try, ↓i_isx, ↓xx_done, ↓xx_rais, decide_true, decide_false, Bool.not_true, Bool.not_false, List.length_cons, List.length_nil, Int.reduceToNat, decide_eq_true_eq, Bool.not_eq_true', decide_eq_false_iff_not, Bool.true_eq_false, Bool.false_eq_true, if_true, if_false, reduceCtorEq, not_false_eq_true, not_true_eq_false, or_false, or_true, and_true, true_and, List.nil_append, List.cons_append, c_law_right_11_2, ↓sel_is N3.1 m7 rfl]
      refine count_is N3 hi ?_
      try simp (decide := true) only [↓i_var, ↓i_con, ↓i_kon, ↓i_bin, ↓i_neg, ↓i_not, ↓i_and, ↓i_or, ↓i_and0, ↓i_or0, ↓i_and1, ↓i_or1, ↓i_cmp, ↓i_chain, ↓i_lst, ↓i_tup, ↓i_dnew, ↓i_call, ↓i_mk, ↓i_bcall, ↓i_isi, ↓i_meth, ↓i_sel, ↓i_selL, ↓i_fld, ↓i_idx, ↓i_sl, ↓i_lrng, ↓i_lc, ↓i_nil, ↓i_cons, ↓i_o0, ↓i_o1, ↓i_opt, ↓i_seq, ↓i_rng1, ↓i_rng2, ↓i_enum, ↓i_zip, ↓i_wk, ↓i_tst, ↓ws_done, ↓ws_asg, ↓ws_asgT, ↓ws_ofE, ↓ws_of, ↓ws_asgF, ↓ws_asgI, ↓ws_aug, ↓ws_expr, ↓ws_ret, ↓ws_retN, ↓ws_ite, ↓ws_loop, ↓ws_whil, ↓boolIs_b, ↓intIs_i, ↓slot_0, ↓slot_1, ↓set_0, ↓set_1, ↓R.is_ok, ↓SR.is_rt, ↓SR.is_nx, ↓i_ofB, ↓wt_non, ↓wt_bl, ↓wt_int, ↓wt_str, ↓wt_tup, ↓wt_rol, ↓ib_add, ↓ib_sub, ↓ib_fdiv, ↓ib_mod, ↓ib_pow, ↓ib_band, ↓ib_shr, ↓ic_lt, ↓ic_le, ↓ic_gt, ↓ic_ge, ↓ic_is, ↓ic_isnot, ↓ic_eqI, ↓ic_neI, ↓ic_eqB, ↓ic_in1, ↓il_lenT, ↓tx_0, ↓tx_1, ↓tx_2, ↓ineg_i, ↓ws_try, ↓i_isx, ↓xx_done, ↓xx_rais, decide_true, decide_false, Bool.not_true, Bool.not_false, List.length_cons, List.length_nil, Int.reduceToNat, decide_eq_true_eq, Bool.not_eq_true', decide_eq_false_iff_not, Bool.true_eq_false, Bool.false_eq_true, if_true, if_false, reduceCtorEq, not_false_eq_true, not_true_eq_false, or_false, or_true, and_true, true_and, List.nil_append, List.cons_append, ↓ix_ints ((E2.trans hF) _ _ ha) (show 0 ≤ (i : Int) by omega) (show (i : Int) < cs.length by omega), Int.toNat_natCast, ↓sel_is N3.1 m7 rfl]
      refine count_is N3 hi ?_
      try simp (decide := true) only [↓i_var, ↓i_con, ↓i_kon, ↓i_bin, ↓i_neg, ↓i_not, ↓i_and, ↓i_or, ↓i_and0, ↓i_or0, ↓i_and1, ↓i_or1, ↓i_cmp, ↓i_chain, ↓i_lst, ↓i_tup, ↓i_dnew, ↓i_call, ↓i_mk, ↓i_bcall, ↓i_isi, ↓i_meth, ↓i_sel, ↓i_selL, ↓i_fld, ↓i_idx, ↓i_sl, ↓i_lrng, ↓i_lc, ↓i_nil, ↓i_cons, ↓i_o0, ↓i_o1, ↓i_opt, ↓i_seq, ↓i_rng1, ↓i_rng2, ↓i_enum, ↓i_zip, ↓i_wk, ↓i_tst, ↓ws_done, ↓ws_asg, ↓ws_asgT, ↓ws_ofE, ↓ws_of, ↓ws_asgF, ↓ws_asgI, ↓ws_aug, ↓ws_expr, ↓ws_ret, ↓ws_retN, ↓ws_ite, ↓ws_loop, ↓ws_whil, ↓boolIs_b, ↓intIs_i, ↓slot_0, ↓slot_1, ↓set_0, ↓set_1, ↓R.is_ok, ↓SR.is_rt, ↓SR.is_nx, ↓i_ofB, ↓wt_non, ↓wt_bl, ↓wt_int, ↓wt_str, ↓wt_tup, ↓wt_rol, ↓ib_add, ↓ib_sub, ↓ib_fdiv, ↓ib_mod, ↓ib_pow, ↓ib_band, ↓ib_shr, ↓ic_lt, ↓ic_le, ↓ic_gt, ↓ic_ge, ↓ic_is, ↓ic_isnot, ↓ic_eqI, ↓ic_neI, ↓ic_eqB, ↓ic_in1, ↓il_lenT, ↓tx_0, ↓tx_1, ↓tx_2, ↓ineg_i, ↓ws_try, ↓i_isx, ↓xx_done, ↓xx_rais, decide_true, decide_false, Bool.not_true, Bool.not_false, List.length_cons, List.length_nil, Int.reduceToNat, decide_eq_true_eq, Bool.not_eq_true', decide_eq_false_iff_not, Bool.true_eq_false, Bool.false_eq_true, if_true, if_false, reduceCtorEq, not_false_eq_true, not_true_eq_false, or_false, or_true, and_true, true_and, List.nil_append, List.cons_append]
      exact ⟨_, rfl, hF⟩
    · obtain ⟨z6, rfl, hF⟩ := hI
      refine ⟨rfl, ?_⟩
      have E3 := E2.trans hF
      try simp (decide := true) only [↓i_var, ↓i_con, ↓i_kon, ↓i_bin, ↓i_neg, ↓i_not, ↓i_and, ↓i_or, ↓i_and0, ↓i_or0, ↓i_and1, ↓i_or1, ↓i_cmp, ↓i_chain, ↓i_lst, ↓i_tup, ↓i_dnew, ↓i_call, ↓i_mk, ↓i_bcall, ↓i_isi, ↓i_meth, ↓i_sel, ↓i_selL, ↓i_fld, ↓i_idx, ↓i_sl, ↓i_lrng, ↓i_lc, ↓i_nil, ↓i_cons, ↓i_o0, ↓i_o1, ↓i_opt, ↓i_seq, ↓i_rng1, ↓i_rng2, ↓i_enum, ↓i_zip, ↓i_wk, ↓i_tst, ↓ws_done, ↓ws_asg, ↓ws_asgT, ↓ws_ofE, ↓ws_of, ↓ws_asgF, ↓ws_asgI, ↓ws_aug, ↓ws_expr, ↓ws_ret, ↓ws_retN, ↓ws_ite, ↓ws_loop, ↓ws_whil, ↓boolIs_b, ↓intIs_i, ↓slot_0, ↓slot_1, ↓set_0, ↓set_1, ↓R.is_ok, ↓SR.is_rt, ↓SR.is_nx, ↓i_ofB, ↓wt_non, ↓wt_bl, ↓wt_int, ↓wt_str, ↓wt_tup, ↓wt_rol, ↓ib_add, ↓ib_sub, ↓ib_fdiv, ↓ib_mod, ↓ib_pow, ↓ib_band, ↓ib_shr, ↓ic_lt, ↓ic_le, ↓ic_gt, ↓ic_ge, ↓ic_is, ↓ic_isnot, ↓ic_eqI, ↓ic_neI, ↓ic_eqB, ↓ic_in1, ↓il_lenT, ↓tx_0, ↓tx_1, ↓tx_2, ↓ineg_i, ↓ws_try, ↓i_isx, ↓xx_done, ↓xx_rais, decide_true, decide_false, Bool.not_true, Bool.not_false, List.length_cons, List.length_nil, Int.reduceToNat, decide_eq_true_eq, Bool.not_eq_true', decide_eq_false_iff_not, Bool.true_eq_false, Bool.false_eq_true, if_true, if_false, reduceCtorEq, not_false_eq_true, not_true_eq_false, or_false, or_true, and_true, true_and, List.nil_append, List.cons_append]
      rw [iw_lst ((y1.trans hF) _ _ (hE _ _ hd))]
      refine for_is (fun k e s' => ∃ z7, e = [some (.ref m), some (.ref a1), some (.ref b1), some (.tup [.int z, .int 0]), some (.ref dl), some (.ref r), z6, z7, z8, z9] ∧ Ext s s') _ 0 _ _ ⟨_, rfl, Ext.refl _⟩ (fun i y e s' hy hI => ?_) fun e s' hI => ?_
      · obtain ⟨z7, rfl, hG⟩ := hI
        rw [List.getElem?_map] at hy
        obtain ⟨d, _, rfl⟩ := Option.map_eq_some_iff.mp hy
        have N3 := hN.ext (E3.trans hG)
        have d3 := hG _ _ ((y1.trans hF) _ _ hdd)
        have eq := eqA_od (st := s') (beyF ws d)
        refine ⟨ck_lst (hG _ _ ((y1.trans hF) _ _ (hE _ _ hd))), _, rfl, ?_⟩
        simp only [bindT, bindT.go, wipeA, List.set_cons_zero, List.set_cons_succ]
        try simp (decide := true) only [↓i_var, ↓i_con, ↓i_kon, ↓i_bin, ↓i_neg, ↓i_not, ↓i_and, ↓i_or, ↓i_and0, ↓i_or0, ↓i_and1, ↓i_or1, ↓i_cmp, ↓i_chain, ↓i_lst, ↓i_tup, ↓i_dnew, ↓i_call, ↓i_mk, ↓i_bcall, ↓i_isi, ↓i_meth, ↓i_sel, ↓i_selL, ↓i_fld, ↓i_idx, ↓i_sl, ↓i_lrng, ↓i_lc, ↓i_nil, ↓i_cons, ↓i_o0, ↓i_o1, ↓i_opt, ↓i_seq, ↓i_rng1, ↓i_rng2, ↓i_enum, ↓i_zip, ↓i_wk, ↓i_tst, ↓ws_done, ↓ws_asg, ↓ws_asgT, ↓ws_ofE, ↓ws_of, ↓ws_asgF, ↓ws_asgI, ↓ws_aug, ↓ws_expr, ↓ws_ret, ↓ws_retN, ↓ws_ite, ↓ws_loop, ↓ws_whil, ↓boolIs_b, ↓intIs_i, ↓slot_0, ↓slot_1, ↓set_0, ↓set_1, ↓R.is_ok, ↓SR.is_rt, ↓SR.is_nx, ↓i_ofB, ↓wt_non, ↓wt_bl, ↓wt_int, ↓wt_str, ↓wt_tup, ↓wt_rol, ↓ib_add, ↓ib_sub, ↓ib_fdiv, ↓ib_mod, ↓ib_pow, ↓ib_band, ↓ib_shr, ↓ic_lt, ↓ic_le, ↓ic_gt, ↓ic_ge, ↓ic_is, ↓ic_isnot, ↓ic_eqI, ↓ic_neI, ↓ic_eqB, ↓ic_in1, ↓il_lenT, ↓tx_0, ↓tx_1, ↓tx_2, ↓ineg_i, ↓ws_try, ↓i_isx, ↓xx_done, ↓xx_rais, decide_true, decide_false, Bool.not_true, Bool.not_false, List.length_cons, List.length_nil, Int.reduceToNat, decide_eq_true_eq, Bool.not_eq_true', decide_eq_false_iff_not, Bool.true_eq_false, Bool.false_eq_true, if_true, if_false, reduceCtorEq, not_false_eq_true, not_true_eq_false, or_false, or_true, and_true, true_and, List.nil_append, List.cons_append, c_law_right_11_3, ↓sel_is N3.1 m24 rfl]
        refine beyond_is N3 ?_
        try simp (decide := true) only [↓i_var, ↓i_con, ↓i_kon, ↓i_bin, ↓i_neg, ↓i_not, ↓i_and, ↓i_or, ↓i_and0, ↓i_or0, ↓i_and1, ↓i_or1, ↓i_cmp, ↓i_chain, ↓i_lst, ↓i_tup, ↓i_dnew, ↓i_call, ↓i_mk, ↓i_bcall, ↓i_isi, ↓i_meth, ↓i_sel, ↓i_selL, ↓i_fld, ↓i_idx, ↓i_sl, ↓i_lrng, ↓i_lc, ↓i_nil, ↓i_cons, ↓i_o0, ↓i_o1, ↓i_opt, ↓i_seq, ↓i_rng1, ↓i_rng2, ↓i_enum, ↓i_zip, ↓i_wk, ↓i_tst, ↓ws_done, ↓ws_asg, ↓ws_asgT, ↓ws_ofE, ↓ws_of, ↓ws_asgF, ↓ws_asgI, ↓ws_aug, ↓ws_expr, ↓ws_ret, ↓ws_retN, ↓ws_ite, ↓ws_loop, ↓ws_whil, ↓boolIs_b, ↓intIs_i, ↓slot_0, ↓slot_1, ↓set_0, ↓set_1, ↓R.is_ok, ↓SR.is_rt, ↓SR.is_nx, ↓i_ofB, ↓wt_non, ↓wt_bl, ↓wt_int, ↓wt_str, ↓wt_tup, ↓wt_rol, ↓ib_add, ↓ib_sub, ↓ib_fdiv, ↓ib_mod, ↓ib_pow, ↓ib_band, ↓ib_shr, ↓ic_lt, ↓ic_le, ↓ic_gt, ↓ic_ge, ↓ic_is, ↓ic_isnot, ↓ic_eqI, ↓ic_neI, ↓ic_eqB, ↓ic_in1, ↓il_lenT, ↓tx_0, ↓tx_1, ↓tx_2, ↓ineg_i, ↓ws_try, ↓i_isx, ↓xx_done, ↓xx_rais, decide_true, decide_false, Bool.not_true, Bool.not_false, List.length_cons, List.length_nil, Int.reduceToNat, decide_eq_true_eq, Bool.not_eq_true', decide_eq_false_iff_not, Bool.true_eq_false, Bool.false_eq_true, if_true, if_false, reduceCtorEq, not_false_eq_true, not_true_eq_false, or_false, or_true, and_true, true_and, List.nil_append, List.cons_append, ↓i_methD d3, ↓im_get d3, get_od, ↓ic_ne eq]
        exact ⟨_, rfl, hG⟩
      · obtain ⟨z7, rfl, hG⟩ := hI
        refine ⟨ck_lst (hG _ _ ((y1.trans hF) _ _ (hE _ _ hd))), ?_⟩
        have E4 := E3.trans hG
        have N4 := hN.ext E4
        have S4 := (y1.trans hF).trans hG
        try simp (decide := true) only [↓i_var, ↓i_con, ↓i_kon, ↓i_bin, ↓i_neg, ↓i_not, ↓i_and, ↓i_or, ↓i_and0, ↓i_or0, ↓i_and1, ↓i_or1, ↓i_cmp, ↓i_chain, ↓i_lst, ↓i_tup, ↓i_dnew, ↓i_call, ↓i_mk, ↓i_bcall, ↓i_isi, ↓i_meth, ↓i_sel, ↓i_selL, ↓i_fld, ↓i_idx, ↓i_sl, ↓i_lrng, ↓i_lc, ↓i_nil, ↓i_cons, ↓i_o0, ↓i_o1, ↓i_opt, ↓i_seq, ↓i_rng1, ↓i_rng2, ↓i_enum, ↓i_zip, ↓i_wk, ↓i_tst, ↓ws_done, ↓ws_asg, ↓ws_asgT, ↓ws_ofE, ↓ws_of, ↓ws_asgF, ↓ws_asgI, ↓ws_aug, ↓ws_expr, ↓ws_ret, ↓ws_retN, ↓ws_ite, ↓ws_loop, ↓ws_whil, ↓boolIs_b, ↓intIs_i, ↓slot_0, ↓slot_1, ↓set_0, ↓set_1, ↓R.is_ok, ↓SR.is_rt, ↓SR.is_nx, ↓i_ofB, ↓wt_non, ↓wt_bl, ↓wt_int, ↓wt_str, ↓wt_tup, ↓wt_rol, ↓ib_add, ↓ib_sub, ↓ib_fdiv, ↓ib_mod, ↓ib_pow, ↓ib_band, ↓ib_shr, ↓ic_lt, ↓ic_le, ↓ic_gt, ↓ic_ge, ↓ic_is, ↓ic_isnot, ↓ic_eqI, ↓ic_neI, ↓ic_eqB, ↓ic_in1, ↓il_lenT, ↓tx_0, ↓tx_1, ↓tx_2, ↓ineg_i, ↓ws_try, ↓i_isx, ↓xx_done, ↓xx_rais, decide_true, decide_false, Bool.not_true, Bool.not_false, List.length_cons, List.length_nil, Int.reduceToNat, decide_eq_true_eq, Bool.not_eq_true', decide_eq_false_iff_not, Bool.true_eq_false, Bool.false_eq_true, if_true, if_false, reduceCtorEq, not_false_eq_true, not_true_eq_false, or_false, or_true, and_true, true_and, List.nil_append, List.cons_append, ↓sel_is N4.1 m25 rfl]
        refine outer_is N4 hC.len2 hC.cnt fun s5 ro h5 _ ho => ?_
        try simp (decide := true) only [↓i_var, ↓i_con, ↓i_kon, ↓i_bin, ↓i_neg, ↓i_not, ↓i_and, ↓i_or, ↓i_and0, ↓i_or0, ↓i_and1, ↓i_or1, ↓i_cmp, ↓i_chain, ↓i_lst, ↓i_tup, ↓i_dnew, ↓i_call, ↓i_mk, ↓i_bcall, ↓i_isi, ↓i_meth, ↓i_sel, ↓i_selL, ↓i_fld, ↓i_idx, ↓i_sl, ↓i_lrng, ↓i_lc, ↓i_nil, ↓i_cons, ↓i_o0, ↓i_o1, ↓i_opt, ↓i_seq, ↓i_rng1, ↓i_rng2, ↓i_enum, ↓i_zip, ↓i_wk, ↓i_tst, ↓ws_done, ↓ws_asg, ↓ws_asgT, ↓ws_ofE, ↓ws_of, ↓ws_asgF, ↓ws_asgI, ↓ws_aug, ↓ws_expr, ↓ws_ret, ↓ws_retN, ↓ws_ite, ↓ws_loop, ↓ws_whil, ↓boolIs_b, ↓intIs_i, ↓slot_0, ↓slot_1, ↓set_0, ↓set_1, ↓R.is_ok, ↓SR.is_rt, ↓SR.is_nx, ↓i_ofB, ↓wt_non, ↓wt_bl, ↓wt_int, ↓wt_str, ↓wt_tup, ↓wt_rol, ↓ib_add, ↓ib_sub, ↓ib_fdiv, ↓ib_mod, ↓ib_pow, ↓ib_band, ↓ib_shr, ↓ic_lt, ↓ic_le, ↓ic_gt, ↓ic_ge, ↓ic_is, ↓ic_isnot, ↓ic_eqI, ↓ic_neI, ↓ic_eqB, ↓ic_in1, ↓il_lenT, ↓tx_0, ↓tx_1, ↓tx_2, ↓ineg_i, ↓ws_try, ↓i_isx, ↓xx_done, ↓xx_rais, decide_true, decide_false, Bool.not_true, Bool.not_false, List.length_cons, List.length_nil, Int.reduceToNat, decide_eq_true_eq, Bool.not_eq_true', decide_eq_false_iff_not, Bool.true_eq_false, Bool.false_eq_true, if_true, if_false, reduceCtorEq, not_false_eq_true, not_true_eq_false, or_false, or_true, and_true, true_and, List.nil_append, List.cons_append]
        rw [iw_lst (h5 _ _ (S4 _ _ (hE _ _ hd)))]
        refine lc_fm (allD cs) doorV (fun d => (beyF ws d).isNone) doorV rfl (ck_lst (h5 _ _ (S4 _ _ (hE _ _ hd)))) (by unfold lim; omega) (fun d hdm => ⟨_, rfl, fun s6 h6 => ?_⟩) fun s6 h6 => ?_
        · have e := inA_dT (d := d) (h6 _ _ (h5 _ _ (S4 _ _ hdd)))
          rw [tbl_has] at e
          simp only [bindT, bindT.go, wipeA, List.set_cons_zero, List.set_cons_succ]
          cases hbb : beyF ws d with
          | none =>
            rw [hbb] at e
            have e : inA s6 (doorV d) (.ref r) = some false := e
            try simp (decide := true) only [↓i_var, ↓i_con, ↓i_kon, ↓i_bin, ↓i_neg, ↓i_not, ↓i_and, ↓i_or, ↓i_and0, ↓i_or0, ↓i_and1, ↓i_or1, ↓i_cmp, ↓i_chain, ↓i_lst, ↓i_tup, ↓i_dnew, ↓i_call, ↓i_mk, ↓i_bcall, ↓i_isi, ↓i_meth, ↓i_sel, ↓i_selL, ↓i_fld, ↓i_idx, ↓i_sl, ↓i_lrng, ↓i_lc, ↓i_nil, ↓i_cons, ↓i_o0, ↓i_o1, ↓i_opt, ↓i_seq, ↓i_rng1, ↓i_rng2, ↓i_enum, ↓i_zip, ↓i_wk, ↓i_tst, ↓ws_done, ↓ws_asg, ↓ws_asgT, ↓ws_ofE, ↓ws_of, ↓ws_asgF, ↓ws_asgI, ↓ws_aug, ↓ws_expr, ↓ws_ret, ↓ws_retN, ↓ws_ite, ↓ws_loop, ↓ws_whil, ↓boolIs_b, ↓intIs_i, ↓slot_0, ↓slot_1, ↓set_0, ↓set_1, ↓R.is_ok, ↓SR.is_rt, ↓SR.is_nx, ↓i_ofB, ↓wt_non, ↓wt_bl, ↓wt_int, ↓wt_str, ↓wt_tup, ↓wt_rol, ↓ib_add, ↓ib_sub, ↓ib_fdiv, ↓ib_mod, ↓ib_pow, ↓ib_band, ↓ib_shr, ↓ic_lt, ↓ic_le, ↓ic_gt, ↓ic_ge, ↓ic_is, ↓ic_isnot, ↓ic_eqI, ↓ic_neI, ↓ic_eqB, ↓ic_in1, ↓il_lenT, ↓tx_0, ↓tx_1, ↓tx_2, ↓ineg_i, ↓ws_try, ↓i_isx, ↓xx_done, ↓xx_rais, decide_true, decide_false, Bool.not_true, Bool.not_false, List.length_cons, List.length_nil, Int.reduceToNat, decide_eq_true_eq, Bool.not_eq_true', decide_eq_false_iff_not, Bool.true_eq_false, Bool.false_eq_true, if_true, if_false, reduceCtorEq, not_false_eq_true, not_true_eq_false, or_false, or_true, and_true, true_and, List.nil_append, List.cons_append, c_law_right_11_4, c_law_right_11_5, ↓ic_nin e]
            first | exact ⟨rfl, Ext.refl _, fun _ => Ext.refl _⟩ | exact ⟨Ext.refl _, fun _ => Ext.refl _⟩
          | some _ =>
            rw [hbb] at e
            have e : inA s6 (doorV d) (.ref r) = some true := e
            try simp (decide := true) only [↓i_var, ↓i_con, ↓i_kon, ↓i_bin, ↓i_neg, ↓i_not, ↓i_and, ↓i_or, ↓i_and0, ↓i_or0, ↓i_and1, ↓i_or1, ↓i_cmp, ↓i_chain, ↓i_lst, ↓i_tup, ↓i_dnew, ↓i_call, ↓i_mk, ↓i_bcall, ↓i_isi, ↓i_meth, ↓i_sel, ↓i_selL, ↓i_fld, ↓i_idx, ↓i_sl, ↓i_lrng, ↓i_lc, ↓i_nil, ↓i_cons, ↓i_o0, ↓i_o1, ↓i_opt, ↓i_seq, ↓i_rng1, ↓i_rng2, ↓i_enum, ↓i_zip, ↓i_wk, ↓i_tst, ↓ws_done, ↓ws_asg, ↓ws_asgT, ↓ws_ofE, ↓ws_of, ↓ws_asgF, ↓ws_asgI, ↓ws_aug, ↓ws_expr, ↓ws_ret, ↓ws_retN, ↓ws_ite, ↓ws_loop, ↓ws_whil, ↓boolIs_b, ↓intIs_i, ↓slot_0, ↓slot_1, ↓set_0, ↓set_1, ↓R.is_ok, ↓SR.is_rt, ↓SR.is_nx, ↓i_ofB, ↓wt_non, ↓wt_bl, ↓wt_int, ↓wt_str, ↓wt_tup, ↓wt_rol, ↓ib_add, ↓ib_sub, ↓ib_fdiv, ↓ib_mod, ↓ib_pow, ↓ib_band, ↓ib_shr, ↓ic_lt, ↓ic_le, ↓ic_gt, ↓ic_ge, ↓ic_is, ↓ic_isnot, ↓ic_eqI, ↓ic_neI, ↓ic_eqB, ↓ic_in1, ↓il_lenT, ↓tx_0, ↓tx_1, ↓tx_2, ↓ineg_i, ↓ws_try, ↓i_isx, ↓xx_done, ↓xx_rais, decide_true, decide_false, Bool.not_true, Bool.not_false, List.length_cons, List.length_nil, Int.reduceToNat, decide_eq_true_eq, Bool.not_eq_true', decide_eq_false_iff_not, Bool.true_eq_false, Bool.false_eq_true, if_true, if_false, reduceCtorEq, not_false_eq_true, not_true_eq_false, or_false, or_true, and_true, true_and, List.nil_append, List.cons_append, c_law_right_11_4, c_law_right_11_5, ↓ic_nin e]
            exact ⟨rfl, Ext.refl _, fun z => by cases z⟩
        · have x7 := Ext.push s6 (AO.lst ((outerL cs ws).map doorV))
          have g7 := get_push s6 (AO.lst ((outerL cs ws).map doorV))
          have eo : ((allD cs).filter fun d => (beyF ws d).isNone).map doorV = (outerL cs ws).map doorV := rfl
          rw [eo]
          have e8 := eqA_doors (x7 _ _ (h6 _ _ ho)) g7
          generalize s6 ++ [AO.lst ((outerL cs ws).map doorV)] = s7 at x7 g7 e8 ⊢
          have E7 := E4.trans (h5.trans (h6.trans x7))
          have S7 := S4.trans (h5.trans (h6.trans x7))
          try simp (decide := true) only [↓i_var, ↓i_con, ↓i_kon, ↓i_bin, ↓i_neg, ↓i_not, ↓i_and, ↓i_or, ↓i_and0, ↓i_or0, ↓i_and1, ↓i_or1, ↓i_cmp, ↓i_chain, ↓i_lst, ↓i_tup, ↓i_dnew, ↓i_call, ↓i_mk, ↓i_bcall, ↓i_isi, ↓i_meth, ↓i_sel, ↓i_selL, ↓i_fld, ↓i_idx, ↓i_sl, ↓i_lrng, ↓i_lc, ↓i_nil, ↓i_cons, ↓i_o0, ↓i_o1, ↓i_opt, ↓i_seq, ↓i_rng1, ↓i_rng2, ↓i_enum, ↓i_zip, ↓i_wk, ↓i_tst, ↓ws_done, ↓ws_asg, ↓ws_asgT, ↓ws_ofE, ↓ws_of, ↓ws_asgF, ↓ws_asgI, ↓ws_aug, ↓ws_expr, ↓ws_ret, ↓ws_retN, ↓ws_ite, ↓ws_loop, ↓ws_whil, ↓boolIs_b, ↓intIs_i, ↓slot_0, ↓slot_1, ↓set_0, ↓set_1, ↓R.is_ok, ↓SR.is_rt, ↓SR.is_nx, ↓i_ofB, ↓wt_non, ↓wt_bl, ↓wt_int, ↓wt_str, ↓wt_tup, ↓wt_rol, ↓ib_add, ↓ib_sub, ↓ib_fdiv, ↓ib_mod, ↓ib_pow, ↓ib_band, ↓ib_shr, ↓ic_lt, ↓ic_le, ↓ic_gt, ↓ic_ge, ↓ic_is, ↓ic_isnot, ↓ic_eqI, ↓ic_neI, ↓ic_eqB, ↓ic_in1, ↓il_lenT, ↓tx_0, ↓tx_1, ↓tx_2, ↓ineg_i, ↓ws_try, ↓i_isx, ↓xx_done, ↓xx_rais, decide_true, decide_false, Bool.not_true, Bool.not_false, List.length_cons, List.length_nil, Int.reduceToNat, decide_eq_true_eq, Bool.not_eq_true', decide_eq_false_iff_not, Bool.true_eq_false, Bool.false_eq_true, if_true, if_false, reduceCtorEq, not_false_eq_true, not_true_eq_false, or_false, or_true, and_true, true_and, List.nil_append, List.cons_append, ↓ic_ne e8]
          exact doors_right (hN.ext E7) hC (E7 _ _ ha) (S7 _ _ (hE _ _ hd)) (S7 _ _ hdd) hz fun s8 h8 => q _ (E7.trans h8)
end L3

/-! K02: the law. -/
namespace L3
open PySem L2
theorem hand_eq {s : Sto} {h0 h1 a b c d : Nat} {cs : List Int} {ws : List Wire} (k0 : s[c]? = some (.lst [.ref h0, .ref h1])) (k1 : s[d]? = some (.lst [.ref a, .ref b])) (e0 : s[h0]? = some (.lst (cs.map AV.int))) (e1 : s[h1]? = some (.lst (ws.map wireV))) (f0 : s[a]? = some (.lst (cs.map AV.int))) (f1 : s[b]? = some (.lst (ws.map wireV))) : eqA s (.ref c) (.ref d) = some true := by
  have p : ∀ (x y z : Nat), s[z]? = some (.lst [.ref x, .ref y]) → s[x]? = some (.lst (cs.map AV.int)) → s[y]? = some (.lst (ws.map wireV)) → pd 9 s (.ref z) = some (.list [.list (cs.map .int), .list (ws.map wireD)]) := fun x y z h hx hy => by
    have p1 : pd 8 s (.ref x) = some (.list (cs.map .int)) := pd_lst (n := 7) hx fun _ _ => rfl
    have p2 : pd 8 s (.ref y) = some (.list (ws.map wireD)) := pd_lst (n := 7) hy fun w _ => pd_wire 4 s w
    exact pd_list (n := 8) h (by rw [oAll, p1, oAll, p2, oAll])
  have c : (PyData.list [.list (cs.map .int), .list (ws.map wireD)]).canLay0 = true := by
    rw [can_list, List.all_cons, List.all_cons, can_ints, can_map fun x _ => can_wire x]
    rfl
  rw [eqA_of (p _ _ _ k0 e0 e1) (p _ _ _ k1 f0 f1) c c, eqv_list, eqvAll_cons, eqvAll_cons, eqvAll_nil, eqv_lists eqv_int, eqv_lists eqv_wire]
  simp
set_option maxHeartbeats 1000000 in
theorem law_is {ns : List Int} (hl : ns.length ≤ 63) : (callF tab 60 g_law_81 [.rol ns] []).Is fun v _ => v = .bl true := by
  refine call_is rfl rfl ?_; simp only [List.map_cons, List.map_nil, List.cons_append, List.nil_append, List.replicate_succ, List.replicate_zero, Nat.reduceSub]
  try simp (decide := true) only [↓i_var, ↓i_con, ↓i_kon, ↓i_bin, ↓i_neg, ↓i_not, ↓i_and, ↓i_or, ↓i_and0, ↓i_or0, ↓i_and1, ↓i_or1, ↓i_cmp, ↓i_chain, ↓i_lst, ↓i_tup, ↓i_dnew, ↓i_call, ↓i_mk, ↓i_bcall, ↓i_isi, ↓i_meth, ↓i_sel, ↓i_selL, ↓i_fld, ↓i_idx, ↓i_sl, ↓i_lrng, ↓i_lc, ↓i_nil, ↓i_cons, ↓i_o0, ↓i_o1, ↓i_opt, ↓i_seq, ↓i_rng1, ↓i_rng2, ↓i_enum, ↓i_zip, ↓i_wk, ↓i_tst, ↓ws_done, ↓ws_asg, ↓ws_asgT, ↓ws_ofE, ↓ws_of, ↓ws_asgF, ↓ws_asgI, ↓ws_aug, ↓ws_expr, ↓ws_ret, ↓ws_retN, ↓ws_ite, ↓ws_loop, ↓ws_whil, ↓boolIs_b, ↓intIs_i, ↓slot_0, ↓slot_1, ↓set_0, ↓set_1, ↓R.is_ok, ↓SR.is_rt, ↓SR.is_nx, ↓i_ofB, ↓wt_non, ↓wt_bl, ↓wt_int, ↓wt_str, ↓wt_tup, ↓wt_rol, ↓ib_add, ↓ib_sub, ↓ib_fdiv, ↓ib_mod, ↓ib_pow, ↓ib_band, ↓ib_shr, ↓ic_lt, ↓ic_le, ↓ic_gt, ↓ic_ge, ↓ic_is, ↓ic_isnot, ↓ic_eqI, ↓ic_neI, ↓ic_eqB, ↓ic_in1, ↓il_lenT, ↓tx_0, ↓tx_1, ↓tx_2, ↓ineg_i, ↓ws_try, ↓i_isx, ↓xx_done, ↓xx_rais, decide_true, decide_false, Bool.not_true, Bool.not_false, List.length_cons, List.length_nil, Int.reduceToNat, decide_eq_true_eq, Bool.not_eq_true', decide_eq_false_iff_not, Bool.true_eq_false, Bool.false_eq_true, if_true, if_false, reduceCtorEq, not_false_eq_true, not_true_eq_false, or_false, or_true, and_true, true_and, List.nil_append, List.cons_append, c_law_81]
  refine counts_d fun s1 a cs _ la ha hC => ?_
  try simp (decide := true) only [↓i_var, ↓i_con, ↓i_kon, ↓i_bin, ↓i_neg, ↓i_not, ↓i_and, ↓i_or, ↓i_and0, ↓i_or0, ↓i_and1, ↓i_or1, ↓i_cmp, ↓i_chain, ↓i_lst, ↓i_tup, ↓i_dnew, ↓i_call, ↓i_mk, ↓i_bcall, ↓i_isi, ↓i_meth, ↓i_sel, ↓i_selL, ↓i_fld, ↓i_idx, ↓i_sl, ↓i_lrng, ↓i_lc, ↓i_nil, ↓i_cons, ↓i_o0, ↓i_o1, ↓i_opt, ↓i_seq, ↓i_rng1, ↓i_rng2, ↓i_enum, ↓i_zip, ↓i_wk, ↓i_tst, ↓ws_done, ↓ws_asg, ↓ws_asgT, ↓ws_ofE, ↓ws_of, ↓ws_asgF, ↓ws_asgI, ↓ws_aug, ↓ws_expr, ↓ws_ret, ↓ws_retN, ↓ws_ite, ↓ws_loop, ↓ws_whil, ↓boolIs_b, ↓intIs_i, ↓slot_0, ↓slot_1, ↓set_0, ↓set_1, ↓R.is_ok, ↓SR.is_rt, ↓SR.is_nx, ↓i_ofB, ↓wt_non, ↓wt_bl, ↓wt_int, ↓wt_str, ↓wt_tup, ↓wt_rol, ↓ib_add, ↓ib_sub, ↓ib_fdiv, ↓ib_mod, ↓ib_pow, ↓ib_band, ↓ib_shr, ↓ic_lt, ↓ic_le, ↓ic_gt, ↓ic_ge, ↓ic_is, ↓ic_isnot, ↓ic_eqI, ↓ic_neI, ↓ic_eqB, ↓ic_in1, ↓il_lenT, ↓tx_0, ↓tx_1, ↓tx_2, ↓ineg_i, ↓ws_try, ↓i_isx, ↓xx_done, ↓xx_rais, decide_true, decide_false, Bool.not_true, Bool.not_false, List.length_cons, List.length_nil, Int.reduceToNat, decide_eq_true_eq, Bool.not_eq_true', decide_eq_false_iff_not, Bool.true_eq_false, Bool.false_eq_true, if_true, if_false, reduceCtorEq, not_false_eq_true, not_true_eq_false, or_false, or_true, and_true, true_and, List.nil_append, List.cons_append]
  refine wires_d ha hC fun s2 b ws h2 lb hb hW => ?_
  try simp (decide := true) only [↓i_var, ↓i_con, ↓i_kon, ↓i_bin, ↓i_neg, ↓i_not, ↓i_and, ↓i_or, ↓i_and0, ↓i_or0, ↓i_and1, ↓i_or1, ↓i_cmp, ↓i_chain, ↓i_lst, ↓i_tup, ↓i_dnew, ↓i_call, ↓i_mk, ↓i_bcall, ↓i_isi, ↓i_meth, ↓i_sel, ↓i_selL, ↓i_fld, ↓i_idx, ↓i_sl, ↓i_lrng, ↓i_lc, ↓i_nil, ↓i_cons, ↓i_o0, ↓i_o1, ↓i_opt, ↓i_seq, ↓i_rng1, ↓i_rng2, ↓i_enum, ↓i_zip, ↓i_wk, ↓i_tst, ↓ws_done, ↓ws_asg, ↓ws_asgT, ↓ws_ofE, ↓ws_of, ↓ws_asgF, ↓ws_asgI, ↓ws_aug, ↓ws_expr, ↓ws_ret, ↓ws_retN, ↓ws_ite, ↓ws_loop, ↓ws_whil, ↓boolIs_b, ↓intIs_i, ↓slot_0, ↓slot_1, ↓set_0, ↓set_1, ↓R.is_ok, ↓SR.is_rt, ↓SR.is_nx, ↓i_ofB, ↓wt_non, ↓wt_bl, ↓wt_int, ↓wt_str, ↓wt_tup, ↓wt_rol, ↓ib_add, ↓ib_sub, ↓ib_fdiv, ↓ib_mod, ↓ib_pow, ↓ib_band, ↓ib_shr, ↓ic_lt, ↓ic_le, ↓ic_gt, ↓ic_ge, ↓ic_is, ↓ic_isnot, ↓ic_eqI, ↓ic_neI, ↓ic_eqB, ↓ic_in1, ↓il_lenT, ↓tx_0, ↓tx_1, ↓tx_2, ↓ineg_i, ↓ws_try, ↓i_isx, ↓xx_done, ↓xx_rais, decide_true, decide_false, Bool.not_true, Bool.not_false, List.length_cons, List.length_nil, Int.reduceToNat, decide_eq_true_eq, Bool.not_eq_true', decide_eq_false_iff_not, Bool.true_eq_false, Bool.false_eq_true, if_true, if_false, reduceCtorEq, not_false_eq_true, not_true_eq_false, or_false, or_true, and_true, true_and, List.nil_append, List.cons_append]
  have hwl := hW.wl
  have ha2 := h2 _ _ ha
  have hab : a ≠ b := by have := get_lt ha; omega
  try simp (decide := true) only [↓i_var, ↓i_con, ↓i_kon, ↓i_bin, ↓i_neg, ↓i_not, ↓i_and, ↓i_or, ↓i_and0, ↓i_or0, ↓i_and1, ↓i_or1, ↓i_cmp, ↓i_chain, ↓i_lst, ↓i_tup, ↓i_dnew, ↓i_call, ↓i_mk, ↓i_bcall, ↓i_isi, ↓i_meth, ↓i_sel, ↓i_selL, ↓i_fld, ↓i_idx, ↓i_sl, ↓i_lrng, ↓i_lc, ↓i_nil, ↓i_cons, ↓i_o0, ↓i_o1, ↓i_opt, ↓i_seq, ↓i_rng1, ↓i_rng2, ↓i_enum, ↓i_zip, ↓i_wk, ↓i_tst, ↓ws_done, ↓ws_asg, ↓ws_asgT, ↓ws_ofE, ↓ws_of, ↓ws_asgF, ↓ws_asgI, ↓ws_aug, ↓ws_expr, ↓ws_ret, ↓ws_retN, ↓ws_ite, ↓ws_loop, ↓ws_whil, ↓boolIs_b, ↓intIs_i, ↓slot_0, ↓slot_1, ↓set_0, ↓set_1, ↓R.is_ok, ↓SR.is_rt, ↓SR.is_nx, ↓i_ofB, ↓wt_non, ↓wt_bl, ↓wt_int, ↓wt_str, ↓wt_tup, ↓wt_rol, ↓ib_add, ↓ib_sub, ↓ib_fdiv, ↓ib_mod, ↓ib_pow, ↓ib_band, ↓ib_shr, ↓ic_lt, ↓ic_le, ↓ic_gt, ↓ic_ge, ↓ic_is, ↓ic_isnot, ↓ic_eqI, ↓ic_neI, ↓ic_eqB, ↓ic_in1, ↓il_lenT, ↓tx_0, ↓tx_1, ↓tx_2, ↓ineg_i, ↓ws_try, ↓i_isx, ↓xx_done, ↓xx_rais, decide_true, decide_false, Bool.not_true, Bool.not_false, List.length_cons, List.length_nil, Int.reduceToNat, decide_eq_true_eq, Bool.not_eq_true', decide_eq_false_iff_not, Bool.true_eq_false, Bool.false_eq_true, if_true, if_false, reduceCtorEq, not_false_eq_true, not_true_eq_false, or_false, or_true, and_true, true_and, List.nil_append, List.cons_append, ↓il_listL ha2]
  have x3 := Ext.push s2 (AO.lst (cs.map AV.int))
  have g0 := get_push s2 (AO.lst (cs.map AV.int))
  have n0 : a < s2.length := get_lt ha2
  have n1 : b < s2.length := get_lt hb
  generalize hs3 : s2 ++ [AO.lst (cs.map AV.int)] = s3 at x3 g0 ⊢
  have e3 : s3.length = s2.length + 1 := by rw [← hs3]; simp
  clear hs3
  generalize s2.length = p0 at g0 n0 n1 e3 ⊢
  try simp (decide := true) only [↓i_var, ↓i_con, ↓i_kon, ↓i_bin, ↓i_neg, ↓i_not, ↓i_and, ↓i_or, ↓i_and0, ↓i_or0, ↓i_and1, ↓i_or1, ↓i_cmp, ↓i_chain, ↓i_lst, ↓i_tup, ↓i_dnew, ↓i_call, ↓i_mk, ↓i_bcall, ↓i_isi, ↓i_meth, ↓i_sel, ↓i_selL, ↓i_fld, ↓i_idx, ↓i_sl, ↓i_lrng, ↓i_lc, ↓i_nil, ↓i_cons, ↓i_o0, ↓i_o1, ↓i_opt, ↓i_seq, ↓i_rng1, ↓i_rng2, ↓i_enum, ↓i_zip, ↓i_wk, ↓i_tst, ↓ws_done, ↓ws_asg, ↓ws_asgT, ↓ws_ofE, ↓ws_of, ↓ws_asgF, ↓ws_asgI, ↓ws_aug, ↓ws_expr, ↓ws_ret, ↓ws_retN, ↓ws_ite, ↓ws_loop, ↓ws_whil, ↓boolIs_b, ↓intIs_i, ↓slot_0, ↓slot_1, ↓set_0, ↓set_1, ↓R.is_ok, ↓SR.is_rt, ↓SR.is_nx, ↓i_ofB, ↓wt_non, ↓wt_bl, ↓wt_int, ↓wt_str, ↓wt_tup, ↓wt_rol, ↓ib_add, ↓ib_sub, ↓ib_fdiv, ↓ib_mod, ↓ib_pow, ↓ib_band, ↓ib_shr, ↓ic_lt, ↓ic_le, ↓ic_gt, ↓ic_ge, ↓ic_is, ↓ic_isnot, ↓ic_eqI, ↓ic_neI, ↓ic_eqB, ↓ic_in1, ↓il_lenT, ↓tx_0, ↓tx_1, ↓tx_2, ↓ineg_i, ↓ws_try, ↓i_isx, ↓xx_done, ↓xx_rais, decide_true, decide_false, Bool.not_true, Bool.not_false, List.length_cons, List.length_nil, Int.reduceToNat, decide_eq_true_eq, Bool.not_eq_true', decide_eq_false_iff_not, Bool.true_eq_false, Bool.false_eq_true, if_true, if_false, reduceCtorEq, not_false_eq_true, not_true_eq_false, or_false, or_true, and_true, true_and, List.nil_append, List.cons_append, ↓il_listL (x3 _ _ hb)]
  have x4 := Ext.push s3 (AO.lst (ws.map wireV))
  have g1 := get_push s3 (AO.lst (ws.map wireV))
  have g0 := x4 _ _ g0
  have h4 := x3.trans x4
  generalize hs4 : s3 ++ [AO.lst (ws.map wireV)] = s4 at x4 g1 g0 h4 ⊢
  have e4 : s4.length = s3.length + 1 := by rw [← hs4]; simp
  clear hs4 x3 x4
  generalize s3.length = p1 at g1 e3 e4 ⊢
  have x5 := Ext.push s4 (AO.lst [.ref p0, .ref p1])
  have g2 := get_push s4 (AO.lst [.ref p0, .ref p1])
  have g0 := x5 _ _ g0
  have g1 := x5 _ _ g1
  have h5 := h4.trans x5
  generalize hs5 : s4 ++ [AO.lst [.ref p0, .ref p1]] = s5 at x5 g0 g1 g2 h5 ⊢
  have e5 : s5.length = s4.length + 1 := by rw [← hs5]; simp
  clear hs5 x5 h4
  generalize s4.length = p2 at g2 e4 e5 ⊢
  have i0 : L2.ixN ([.ref p0, .ref p1] : List AV).length 0 = some 0 := rfl
  have i1 : L2.ixN ([.ref p0, .ref p1] : List AV).length 1 = some 1 := rfl
  have ha5 := h5 _ _ ha2
  have hb5 := h5 _ _ hb
  try simp (decide := true) only [↓i_var, ↓i_con, ↓i_kon, ↓i_bin, ↓i_neg, ↓i_not, ↓i_and, ↓i_or, ↓i_and0, ↓i_or0, ↓i_and1, ↓i_or1, ↓i_cmp, ↓i_chain, ↓i_lst, ↓i_tup, ↓i_dnew, ↓i_call, ↓i_mk, ↓i_bcall, ↓i_isi, ↓i_meth, ↓i_sel, ↓i_selL, ↓i_fld, ↓i_idx, ↓i_sl, ↓i_lrng, ↓i_lc, ↓i_nil, ↓i_cons, ↓i_o0, ↓i_o1, ↓i_opt, ↓i_seq, ↓i_rng1, ↓i_rng2, ↓i_enum, ↓i_zip, ↓i_wk, ↓i_tst, ↓ws_done, ↓ws_asg, ↓ws_asgT, ↓ws_ofE, ↓ws_of, ↓ws_asgF, ↓ws_asgI, ↓ws_aug, ↓ws_expr, ↓ws_ret, ↓ws_retN, ↓ws_ite, ↓ws_loop, ↓ws_whil, ↓boolIs_b, ↓intIs_i, ↓slot_0, ↓slot_1, ↓set_0, ↓set_1, ↓R.is_ok, ↓SR.is_rt, ↓SR.is_nx, ↓i_ofB, ↓wt_non, ↓wt_bl, ↓wt_int, ↓wt_str, ↓wt_tup, ↓wt_rol, ↓ib_add, ↓ib_sub, ↓ib_fdiv, ↓ib_mod, ↓ib_pow, ↓ib_band, ↓ib_shr, ↓ic_lt, ↓ic_le, ↓ic_gt, ↓ic_ge, ↓ic_is, ↓ic_isnot, ↓ic_eqI, ↓ic_neI, ↓ic_eqB, ↓ic_in1, ↓il_lenT, ↓tx_0, ↓tx_1, ↓tx_2, ↓ineg_i, ↓ws_try, ↓i_isx, ↓xx_done, ↓xx_rais, decide_true, decide_false, Bool.not_true, Bool.not_false, List.length_cons, List.length_nil, Int.reduceToNat, decide_eq_true_eq, Bool.not_eq_true', decide_eq_false_iff_not, Bool.true_eq_false, Bool.false_eq_true, if_true, if_false, reduceCtorEq, not_false_eq_true, not_true_eq_false, or_false, or_true, and_true, true_and, List.nil_append, List.cons_append, ↓iix_l g2 i0 rfl, ↓iix_l g2 i1 rfl]
  refine mk_is hW g0 g1 fun s6 a2 b2 t x6 l1 l2 l3 hN => ?_
  have g0 := x6 _ _ g0
  have g1 := x6 _ _ g1
  have g2 := x6 _ _ g2
  have ha6 := x6 _ _ ha5
  have hb6 := x6 _ _ hb5
  generalize s5.length = m at hN l1 l2 l3 e5 ⊢
  clear x6 ha5 hb5 h5
  try simp (decide := true) only [↓i_var, ↓i_con, ↓i_kon, ↓i_bin, ↓i_neg, ↓i_not, ↓i_and, ↓i_or, ↓i_and0, ↓i_or0, ↓i_and1, ↓i_or1, ↓i_cmp, ↓i_chain, ↓i_lst, ↓i_tup, ↓i_dnew, ↓i_call, ↓i_mk, ↓i_bcall, ↓i_isi, ↓i_meth, ↓i_sel, ↓i_selL, ↓i_fld, ↓i_idx, ↓i_sl, ↓i_lrng, ↓i_lc, ↓i_nil, ↓i_cons, ↓i_o0, ↓i_o1, ↓i_opt, ↓i_seq, ↓i_rng1, ↓i_rng2, ↓i_enum, ↓i_zip, ↓i_wk, ↓i_tst, ↓ws_done, ↓ws_asg, ↓ws_asgT, ↓ws_ofE, ↓ws_of, ↓ws_asgF, ↓ws_asgI, ↓ws_aug, ↓ws_expr, ↓ws_ret, ↓ws_retN, ↓ws_ite, ↓ws_loop, ↓ws_whil, ↓boolIs_b, ↓intIs_i, ↓slot_0, ↓slot_1, ↓set_0, ↓set_1, ↓R.is_ok, ↓SR.is_rt, ↓SR.is_nx, ↓i_ofB, ↓wt_non, ↓wt_bl, ↓wt_int, ↓wt_str, ↓wt_tup, ↓wt_rol, ↓ib_add, ↓ib_sub, ↓ib_fdiv, ↓ib_mod, ↓ib_pow, ↓ib_band, ↓ib_shr, ↓ic_lt, ↓ic_le, ↓ic_gt, ↓ic_ge, ↓ic_is, ↓ic_isnot, ↓ic_eqI, ↓ic_neI, ↓ic_eqB, ↓ic_in1, ↓il_lenT, ↓tx_0, ↓tx_1, ↓tx_2, ↓ineg_i, ↓ws_try, ↓i_isx, ↓xx_done, ↓xx_rais, decide_true, decide_false, Bool.not_true, Bool.not_false, List.length_cons, List.length_nil, Int.reduceToNat, decide_eq_true_eq, Bool.not_eq_true', decide_eq_false_iff_not, Bool.true_eq_false, Bool.false_eq_true, if_true, if_false, reduceCtorEq, not_false_eq_true, not_true_eq_false, or_false, or_true, and_true, true_and, List.nil_append, List.cons_append]
  refine cell_is (by decide) fun c4 => ?_
  try simp (decide := true) only [↓i_var, ↓i_con, ↓i_kon, ↓i_bin, ↓i_neg, ↓i_not, ↓i_and, ↓i_or, ↓i_and0, ↓i_or0, ↓i_and1, ↓i_or1, ↓i_cmp, ↓i_chain, ↓i_lst, ↓i_tup, ↓i_dnew, ↓i_call, ↓i_mk, ↓i_bcall, ↓i_isi, ↓i_meth, ↓i_sel, ↓i_selL, ↓i_fld, ↓i_idx, ↓i_sl, ↓i_lrng, ↓i_lc, ↓i_nil, ↓i_cons, ↓i_o0, ↓i_o1, ↓i_opt, ↓i_seq, ↓i_rng1, ↓i_rng2, ↓i_enum, ↓i_zip, ↓i_wk, ↓i_tst, ↓ws_done, ↓ws_asg, ↓ws_asgT, ↓ws_ofE, ↓ws_of, ↓ws_asgF, ↓ws_asgI, ↓ws_aug, ↓ws_expr, ↓ws_ret, ↓ws_retN, ↓ws_ite, ↓ws_loop, ↓ws_whil, ↓boolIs_b, ↓intIs_i, ↓slot_0, ↓slot_1, ↓set_0, ↓set_1, ↓R.is_ok, ↓SR.is_rt, ↓SR.is_nx, ↓i_ofB, ↓wt_non, ↓wt_bl, ↓wt_int, ↓wt_str, ↓wt_tup, ↓wt_rol, ↓ib_add, ↓ib_sub, ↓ib_fdiv, ↓ib_mod, ↓ib_pow, ↓ib_band, ↓ib_shr, ↓ic_lt, ↓ic_le, ↓ic_gt, ↓ic_ge, ↓ic_is, ↓ic_isnot, ↓ic_eqI, ↓ic_neI, ↓ic_eqB, ↓ic_in1, ↓il_lenT, ↓tx_0, ↓tx_1, ↓tx_2, ↓ineg_i, ↓ws_try, ↓i_isx, ↓xx_done, ↓xx_rais, decide_true, decide_false, Bool.not_true, Bool.not_false, List.length_cons, List.length_nil, Int.reduceToNat, decide_eq_true_eq, Bool.not_eq_true', decide_eq_false_iff_not, Bool.true_eq_false, Bool.false_eq_true, if_true, if_false, reduceCtorEq, not_false_eq_true, not_true_eq_false, or_false, or_true, and_true, true_and, List.nil_append, List.cons_append]
  refine mix_is (by decide) (by decide) ?_
  try simp (decide := true) only [↓i_var, ↓i_con, ↓i_kon, ↓i_bin, ↓i_neg, ↓i_not, ↓i_and, ↓i_or, ↓i_and0, ↓i_or0, ↓i_and1, ↓i_or1, ↓i_cmp, ↓i_chain, ↓i_lst, ↓i_tup, ↓i_dnew, ↓i_call, ↓i_mk, ↓i_bcall, ↓i_isi, ↓i_meth, ↓i_sel, ↓i_selL, ↓i_fld, ↓i_idx, ↓i_sl, ↓i_lrng, ↓i_lc, ↓i_nil, ↓i_cons, ↓i_o0, ↓i_o1, ↓i_opt, ↓i_seq, ↓i_rng1, ↓i_rng2, ↓i_enum, ↓i_zip, ↓i_wk, ↓i_tst, ↓ws_done, ↓ws_asg, ↓ws_asgT, ↓ws_ofE, ↓ws_of, ↓ws_asgF, ↓ws_asgI, ↓ws_aug, ↓ws_expr, ↓ws_ret, ↓ws_retN, ↓ws_ite, ↓ws_loop, ↓ws_whil, ↓boolIs_b, ↓intIs_i, ↓slot_0, ↓slot_1, ↓set_0, ↓set_1, ↓R.is_ok, ↓SR.is_rt, ↓SR.is_nx, ↓i_ofB, ↓wt_non, ↓wt_bl, ↓wt_int, ↓wt_str, ↓wt_tup, ↓wt_rol, ↓ib_add, ↓ib_sub, ↓ib_fdiv, ↓ib_mod, ↓ib_pow, ↓ib_band, ↓ib_shr, ↓ic_lt, ↓ic_le, ↓ic_gt, ↓ic_ge, ↓ic_is, ↓ic_isnot, ↓ic_eqI, ↓ic_neI, ↓ic_eqB, ↓ic_in1, ↓il_lenT, ↓tx_0, ↓tx_1, ↓tx_2, ↓ineg_i, ↓ws_try, ↓i_isx, ↓xx_done, ↓xx_rais, decide_true, decide_false, Bool.not_true, Bool.not_false, List.length_cons, List.length_nil, Int.reduceToNat, decide_eq_true_eq, Bool.not_eq_true', decide_eq_false_iff_not, Bool.true_eq_false, Bool.false_eq_true, if_true, if_false, reduceCtorEq, not_false_eq_true, not_true_eq_false, or_false, or_true, and_true, true_and, List.nil_append, List.cons_append]
  have hz : 6 ≤ 6 + mixM c4 2 := by have := mixM_nn c4 2; omega
  generalize 6 + mixM c4 2 = z at hz ⊢
  have x7 := Ext.push s6 (AO.lst [.ref a, .ref b])
  have g7 := get_push s6 (AO.lst [.ref a, .ref b])
  have e7 := hand_eq (x7 _ _ g2) g7 (x7 _ _ g0) (x7 _ _ g1) (x7 _ _ ha6) (x7 _ _ hb6)
  generalize s6 ++ [AO.lst [.ref a, .ref b]] = s7 at x7 g7 e7 ⊢
  try simp (decide := true) only [↓i_var, ↓i_con, ↓i_kon, ↓i_bin, ↓i_neg, ↓i_not, ↓i_and, ↓i_or, ↓i_and0, ↓i_or0, ↓i_and1, ↓i_or1, ↓i_cmp, ↓i_chain, ↓i_lst, ↓i_tup, ↓i_dnew, ↓i_call, ↓i_mk, ↓i_bcall, ↓i_isi, ↓i_meth, ↓i_sel, ↓i_selL, ↓i_fld, ↓i_idx, ↓i_sl, ↓i_lrng, ↓i_lc, ↓i_nil, ↓i_cons, ↓i_o0, ↓i_o1, ↓i_opt, ↓i_seq, ↓i_rng1, ↓i_rng2, ↓i_enum, ↓i_zip, ↓i_wk, ↓i_tst, ↓ws_done, ↓ws_asg, ↓ws_asgT, ↓ws_ofE, ↓ws_of, ↓ws_asgF, ↓ws_asgI, ↓ws_aug, ↓ws_expr, ↓ws_ret, ↓ws_retN, ↓ws_ite, ↓ws_loop, ↓ws_whil, ↓boolIs_b, ↓intIs_i, ↓slot_0, ↓slot_1, ↓set_0, ↓set_1, ↓R.is_ok, ↓SR.is_rt, ↓SR.is_nx, ↓i_ofB, ↓wt_non, ↓wt_bl, ↓wt_int, ↓wt_str, ↓wt_tup, ↓wt_rol, ↓ib_add, ↓ib_sub, ↓ib_fdiv, ↓ib_mod, ↓ib_pow, ↓ib_band, ↓ib_shr, ↓ic_lt, ↓ic_le, ↓ic_gt, ↓ic_ge, ↓ic_is, ↓ic_isnot, ↓ic_eqI, ↓ic_neI, ↓ic_eqB, ↓ic_in1, ↓il_lenT, ↓tx_0, ↓tx_1, ↓tx_2, ↓ineg_i, ↓ws_try, ↓i_isx, ↓xx_done, ↓xx_rais, decide_true, decide_false, Bool.not_true, Bool.not_false, List.length_cons, List.length_nil, Int.reduceToNat, decide_eq_true_eq, Bool.not_eq_true', decide_eq_false_iff_not, Bool.true_eq_false, Bool.false_eq_true, if_true, if_false, reduceCtorEq, not_false_eq_true, not_true_eq_false, or_false, or_true, and_true, true_and, List.nil_append, List.cons_append, ↓ic_ne e7]
  refine right_is (hN.ext x7) hC hwl (x7 _ _ ha6) (x7 _ _ hb6) hz fun s8 x8 => ?_
  have E8 := x7.trans x8
  have g0 := E8 _ _ g0
  have g1 := E8 _ _ g1
  have g2 := E8 _ _ g2
  have ha8 := E8 _ _ ha6
  have hb8 := E8 _ _ hb6
  have hN8 := hN.ext E8
  clear x7 g7 e7 x8 E8 hN ha6 hb6
  try simp (decide := true) only [↓i_var, ↓i_con, ↓i_kon, ↓i_bin, ↓i_neg, ↓i_not, ↓i_and, ↓i_or, ↓i_and0, ↓i_or0, ↓i_and1, ↓i_or1, ↓i_cmp, ↓i_chain, ↓i_lst, ↓i_tup, ↓i_dnew, ↓i_call, ↓i_mk, ↓i_bcall, ↓i_isi, ↓i_meth, ↓i_sel, ↓i_selL, ↓i_fld, ↓i_idx, ↓i_sl, ↓i_lrng, ↓i_lc, ↓i_nil, ↓i_cons, ↓i_o0, ↓i_o1, ↓i_opt, ↓i_seq, ↓i_rng1, ↓i_rng2, ↓i_enum, ↓i_zip, ↓i_wk, ↓i_tst, ↓ws_done, ↓ws_asg, ↓ws_asgT, ↓ws_ofE, ↓ws_of, ↓ws_asgF, ↓ws_asgI, ↓ws_aug, ↓ws_expr, ↓ws_ret, ↓ws_retN, ↓ws_ite, ↓ws_loop, ↓ws_whil, ↓boolIs_b, ↓intIs_i, ↓slot_0, ↓slot_1, ↓set_0, ↓set_1, ↓R.is_ok, ↓SR.is_rt, ↓SR.is_nx, ↓i_ofB, ↓wt_non, ↓wt_bl, ↓wt_int, ↓wt_str, ↓wt_tup, ↓wt_rol, ↓ib_add, ↓ib_sub, ↓ib_fdiv, ↓ib_mod, ↓ib_pow, ↓ib_band, ↓ib_shr, ↓ic_lt, ↓ic_le, ↓ic_gt, ↓ic_ge, ↓ic_is, ↓ic_isnot, ↓ic_eqI, ↓ic_neI, ↓ic_eqB, ↓ic_in1, ↓il_lenT, ↓tx_0, ↓tx_1, ↓tx_2, ↓ineg_i, ↓ws_try, ↓i_isx, ↓xx_done, ↓xx_rais, decide_true, decide_false, Bool.not_true, Bool.not_false, List.length_cons, List.length_nil, Int.reduceToNat, decide_eq_true_eq, Bool.not_eq_true', decide_eq_false_iff_not, Bool.true_eq_false, Bool.false_eq_true, if_true, if_false, reduceCtorEq, not_false_eq_true, not_true_eq_false, or_false, or_true, and_true, true_and, List.nil_append, List.cons_append, ↓iix_l g2 i0 rfl, ↓i_methL g0 (show 0 ≤ 6 by decide), ↓im_app g0 (show (cs.map AV.int).length < lim by rw [List.length_map]; have := hC.len2; unfold lim; omega)]
  have r0 : ∀ i u, i ≠ p0 → s8[i]? = some u → (s8.set p0 (.lst (cs.map AV.int ++ [.int 1])))[i]? = some u := fun i u h k => get_set_o k h
  have g1 := r0 _ _ (by omega) g1
  have g2 := r0 _ _ (by omega) g2
  have ha9 := r0 _ _ (by omega) ha8
  have hb9 := r0 _ _ (by omega) hb8
  have hN9 : NetIns (s8.set p0 (.lst (cs.map AV.int ++ [.int 1]))) m a2 b2 t cs ws := ⟨r0 _ _ (by omega) hN8.1, r0 _ _ (by omega) hN8.2.1, r0 _ _ (by omega) hN8.2.2.1, r0 _ _ (by omega) hN8.2.2.2⟩
  generalize s8.set p0 (.lst (cs.map AV.int ++ [.int 1])) = s9 at g1 g2 ha9 hb9 hN9 ⊢
  clear r0 ha8 hb8 hN8 g0
  try simp (decide := true) only [↓i_var, ↓i_con, ↓i_kon, ↓i_bin, ↓i_neg, ↓i_not, ↓i_and, ↓i_or, ↓i_and0, ↓i_or0, ↓i_and1, ↓i_or1, ↓i_cmp, ↓i_chain, ↓i_lst, ↓i_tup, ↓i_dnew, ↓i_call, ↓i_mk, ↓i_bcall, ↓i_isi, ↓i_meth, ↓i_sel, ↓i_selL, ↓i_fld, ↓i_idx, ↓i_sl, ↓i_lrng, ↓i_lc, ↓i_nil, ↓i_cons, ↓i_o0, ↓i_o1, ↓i_opt, ↓i_seq, ↓i_rng1, ↓i_rng2, ↓i_enum, ↓i_zip, ↓i_wk, ↓i_tst, ↓ws_done, ↓ws_asg, ↓ws_asgT, ↓ws_ofE, ↓ws_of, ↓ws_asgF, ↓ws_asgI, ↓ws_aug, ↓ws_expr, ↓ws_ret, ↓ws_retN, ↓ws_ite, ↓ws_loop, ↓ws_whil, ↓boolIs_b, ↓intIs_i, ↓slot_0, ↓slot_1, ↓set_0, ↓set_1, ↓R.is_ok, ↓SR.is_rt, ↓SR.is_nx, ↓i_ofB, ↓wt_non, ↓wt_bl, ↓wt_int, ↓wt_str, ↓wt_tup, ↓wt_rol, ↓ib_add, ↓ib_sub, ↓ib_fdiv, ↓ib_mod, ↓ib_pow, ↓ib_band, ↓ib_shr, ↓ic_lt, ↓ic_le, ↓ic_gt, ↓ic_ge, ↓ic_is, ↓ic_isnot, ↓ic_eqI, ↓ic_neI, ↓ic_eqB, ↓ic_in1, ↓il_lenT, ↓tx_0, ↓tx_1, ↓tx_2, ↓ineg_i, ↓ws_try, ↓i_isx, ↓xx_done, ↓xx_rais, decide_true, decide_false, Bool.not_true, Bool.not_false, List.length_cons, List.length_nil, Int.reduceToNat, decide_eq_true_eq, Bool.not_eq_true', decide_eq_false_iff_not, Bool.true_eq_false, Bool.false_eq_true, if_true, if_false, reduceCtorEq, not_false_eq_true, not_true_eq_false, or_false, or_true, and_true, true_and, List.nil_append, List.cons_append, ↓iix_l g2 i1 rfl, ↓i_methL g1 (show 4 ≤ 6 by decide), ↓im_clear g1]
  have r1 : ∀ i u, i ≠ p1 → s9[i]? = some u → (s9.set p1 (.lst []))[i]? = some u := fun i u h k => get_set_o k h
  have ha := r1 _ _ (by omega) ha9
  have hb := r1 _ _ (by omega) hb9
  have hN : NetIns (s9.set p1 (.lst [])) m a2 b2 t cs ws := ⟨r1 _ _ (by omega) hN9.1, r1 _ _ (by omega) hN9.2.1, r1 _ _ (by omega) hN9.2.2.1, r1 _ _ (by omega) hN9.2.2.2⟩
  generalize s9.set p1 (.lst []) = s10 at ha hb hN ⊢
  clear r1 ha9 hb9 hN9 g1 g2 ha2
  try simp (decide := true) only [↓i_var, ↓i_con, ↓i_kon, ↓i_bin, ↓i_neg, ↓i_not, ↓i_and, ↓i_or, ↓i_and0, ↓i_or0, ↓i_and1, ↓i_or1, ↓i_cmp, ↓i_chain, ↓i_lst, ↓i_tup, ↓i_dnew, ↓i_call, ↓i_mk, ↓i_bcall, ↓i_isi, ↓i_meth, ↓i_sel, ↓i_selL, ↓i_fld, ↓i_idx, ↓i_sl, ↓i_lrng, ↓i_lc, ↓i_nil, ↓i_cons, ↓i_o0, ↓i_o1, ↓i_opt, ↓i_seq, ↓i_rng1, ↓i_rng2, ↓i_enum, ↓i_zip, ↓i_wk, ↓i_tst, ↓ws_done, ↓ws_asg, ↓ws_asgT, ↓ws_ofE, ↓ws_of, ↓ws_asgF, ↓ws_asgI, ↓ws_aug, ↓ws_expr, ↓ws_ret, ↓ws_retN, ↓ws_ite, ↓ws_loop, ↓ws_whil, ↓boolIs_b, ↓intIs_i, ↓slot_0, ↓slot_1, ↓set_0, ↓set_1, ↓R.is_ok, ↓SR.is_rt, ↓SR.is_nx, ↓i_ofB, ↓wt_non, ↓wt_bl, ↓wt_int, ↓wt_str, ↓wt_tup, ↓wt_rol, ↓ib_add, ↓ib_sub, ↓ib_fdiv, ↓ib_mod, ↓ib_pow, ↓ib_band, ↓ib_shr, ↓ic_lt, ↓ic_le, ↓ic_gt, ↓ic_ge, ↓ic_is, ↓ic_isnot, ↓ic_eqI, ↓ic_neI, ↓ic_eqB, ↓ic_in1, ↓il_lenT, ↓tx_0, ↓tx_1, ↓tx_2, ↓ineg_i, ↓ws_try, ↓i_isx, ↓xx_done, ↓xx_rais, decide_true, decide_false, Bool.not_true, Bool.not_false, List.length_cons, List.length_nil, Int.reduceToNat, decide_eq_true_eq, Bool.not_eq_true', decide_eq_false_iff_not, Bool.true_eq_false, Bool.false_eq_true, if_true, if_false, reduceCtorEq, not_false_eq_true, not_true_eq_false, or_false, or_true, and_true, true_and, List.nil_append, List.cons_append, ↓sel_is hN.1 m23 rfl]
  refine wires_r hN ?_
  have y1 := Ext.push s10 (AO.lst (ws.map wireV))
  have k1 := get_push s10 (AO.lst (ws.map wireV))
  generalize s10 ++ [AO.lst (ws.map wireV)] = s11 at y1 k1 ⊢
  have dz : s10.length ≤ s10.length := Nat.le_refl _
  try simp (decide := true) only [↓i_var, ↓i_con, ↓i_kon, ↓i_bin, ↓i_neg, ↓i_not, ↓i_and, ↓i_or, ↓i_and0, ↓i_or0, ↓i_and1, ↓i_or1, ↓i_cmp, ↓i_chain, ↓i_lst, ↓i_tup, ↓i_dnew, ↓i_call, ↓i_mk, ↓i_bcall, ↓i_isi, ↓i_meth, ↓i_sel, ↓i_selL, ↓i_fld, ↓i_idx, ↓i_sl, ↓i_lrng, ↓i_lc, ↓i_nil, ↓i_cons, ↓i_o0, ↓i_o1, ↓i_opt, ↓i_seq, ↓i_rng1, ↓i_rng2, ↓i_enum, ↓i_zip, ↓i_wk, ↓i_tst, ↓ws_done, ↓ws_asg, ↓ws_asgT, ↓ws_ofE, ↓ws_of, ↓ws_asgF, ↓ws_asgI, ↓ws_aug, ↓ws_expr, ↓ws_ret, ↓ws_retN, ↓ws_ite, ↓ws_loop, ↓ws_whil, ↓boolIs_b, ↓intIs_i, ↓slot_0, ↓slot_1, ↓set_0, ↓set_1, ↓R.is_ok, ↓SR.is_rt, ↓SR.is_nx, ↓i_ofB, ↓wt_non, ↓wt_bl, ↓wt_int, ↓wt_str, ↓wt_tup, ↓wt_rol, ↓ib_add, ↓ib_sub, ↓ib_fdiv, ↓ib_mod, ↓ib_pow, ↓ib_band, ↓ib_shr, ↓ic_lt, ↓ic_le, ↓ic_gt, ↓ic_ge, ↓ic_is, ↓ic_isnot, ↓ic_eqI, ↓ic_neI, ↓ic_eqB, ↓ic_in1, ↓il_lenT, ↓tx_0, ↓tx_1, ↓tx_2, ↓ineg_i, ↓ws_try, ↓i_isx, ↓xx_done, ↓xx_rais, decide_true, decide_false, Bool.not_true, Bool.not_false, List.length_cons, List.length_nil, Int.reduceToNat, decide_eq_true_eq, Bool.not_eq_true', decide_eq_false_iff_not, Bool.true_eq_false, Bool.false_eq_true, if_true, if_false, reduceCtorEq, not_false_eq_true, not_true_eq_false, or_false, or_true, and_true, true_and, List.nil_append, List.cons_append, ↓i_methL k1 (show 0 ≤ 6 by decide), ↓im_app k1 (show (ws.map wireV).length < lim by rw [List.length_map]; unfold lim; omega)]
  have y2 : Ext s10 (s11.set s10.length (.lst (ws.map wireV ++ [.tup [.tup [.int 0, .int 0], .tup [.int 0, .int 0]]]))) := Ext.set y1 dz
  generalize s11.set s10.length (.lst (ws.map wireV ++ [.tup [.tup [.int 0, .int 0], .tup [.int 0, .int 0]]])) = s12 at y2 ⊢
  have N2 := hN.ext y2
  have ha2 := y2 _ _ ha
  have hb2 := y2 _ _ hb
  clear y1 k1 dz y2 hN ha hb
  try simp (decide := true) only [↓i_var, ↓i_con, ↓i_kon, ↓i_bin, ↓i_neg, ↓i_not, ↓i_and, ↓i_or, ↓i_and0, ↓i_or0, ↓i_and1, ↓i_or1, ↓i_cmp, ↓i_chain, ↓i_lst, ↓i_tup, ↓i_dnew, ↓i_call, ↓i_mk, ↓i_bcall, ↓i_isi, ↓i_meth, ↓i_sel, ↓i_selL, ↓i_fld, ↓i_idx, ↓i_sl, ↓i_lrng, ↓i_lc, ↓i_nil, ↓i_cons, ↓i_o0, ↓i_o1, ↓i_opt, ↓i_seq, ↓i_rng1, ↓i_rng2, ↓i_enum, ↓i_zip, ↓i_wk, ↓i_tst, ↓ws_done, ↓ws_asg, ↓ws_asgT, ↓ws_ofE, ↓ws_of, ↓ws_asgF, ↓ws_asgI, ↓ws_aug, ↓ws_expr, ↓ws_ret, ↓ws_retN, ↓ws_ite, ↓ws_loop, ↓ws_whil, ↓boolIs_b, ↓intIs_i, ↓slot_0, ↓slot_1, ↓set_0, ↓set_1, ↓R.is_ok, ↓SR.is_rt, ↓SR.is_nx, ↓i_ofB, ↓wt_non, ↓wt_bl, ↓wt_int, ↓wt_str, ↓wt_tup, ↓wt_rol, ↓ib_add, ↓ib_sub, ↓ib_fdiv, ↓ib_mod, ↓ib_pow, ↓ib_band, ↓ib_shr, ↓ic_lt, ↓ic_le, ↓ic_gt, ↓ic_ge, ↓ic_is, ↓ic_isnot, ↓ic_eqI, ↓ic_neI, ↓ic_eqB, ↓ic_in1, ↓il_lenT, ↓tx_0, ↓tx_1, ↓tx_2, ↓ineg_i, ↓ws_try, ↓i_isx, ↓xx_done, ↓xx_rais, decide_true, decide_false, Bool.not_true, Bool.not_false, List.length_cons, List.length_nil, Int.reduceToNat, decide_eq_true_eq, Bool.not_eq_true', decide_eq_false_iff_not, Bool.true_eq_false, Bool.false_eq_true, if_true, if_false, reduceCtorEq, not_false_eq_true, not_true_eq_false, or_false, or_true, and_true, true_and, List.nil_append, List.cons_append, ↓sel_is N2.1 m25 rfl]
  refine outer_is N2 hC.len2 hC.cnt fun s13 ro h13 lo ho => ?_
  have fl : ((outerL cs ws).map doorV).length < lim := by
    have hDl := doorsUpto_len hC.cnt cs.length (Nat.le_refl _)
    have eD : doorsUpto cs cs.length = allD cs := rfl
    rw [eD] at hDl
    have := List.length_filter_le (fun d => (beyF ws d).isNone) (allD cs)
    have := hC.len2
    rw [List.length_map]
    unfold outerL lim
    omega
  try simp (decide := true) only [↓i_var, ↓i_con, ↓i_kon, ↓i_bin, ↓i_neg, ↓i_not, ↓i_and, ↓i_or, ↓i_and0, ↓i_or0, ↓i_and1, ↓i_or1, ↓i_cmp, ↓i_chain, ↓i_lst, ↓i_tup, ↓i_dnew, ↓i_call, ↓i_mk, ↓i_bcall, ↓i_isi, ↓i_meth, ↓i_sel, ↓i_selL, ↓i_fld, ↓i_idx, ↓i_sl, ↓i_lrng, ↓i_lc, ↓i_nil, ↓i_cons, ↓i_o0, ↓i_o1, ↓i_opt, ↓i_seq, ↓i_rng1, ↓i_rng2, ↓i_enum, ↓i_zip, ↓i_wk, ↓i_tst, ↓ws_done, ↓ws_asg, ↓ws_asgT, ↓ws_ofE, ↓ws_of, ↓ws_asgF, ↓ws_asgI, ↓ws_aug, ↓ws_expr, ↓ws_ret, ↓ws_retN, ↓ws_ite, ↓ws_loop, ↓ws_whil, ↓boolIs_b, ↓intIs_i, ↓slot_0, ↓slot_1, ↓set_0, ↓set_1, ↓R.is_ok, ↓SR.is_rt, ↓SR.is_nx, ↓i_ofB, ↓wt_non, ↓wt_bl, ↓wt_int, ↓wt_str, ↓wt_tup, ↓wt_rol, ↓ib_add, ↓ib_sub, ↓ib_fdiv, ↓ib_mod, ↓ib_pow, ↓ib_band, ↓ib_shr, ↓ic_lt, ↓ic_le, ↓ic_gt, ↓ic_ge, ↓ic_is, ↓ic_isnot, ↓ic_eqI, ↓ic_neI, ↓ic_eqB, ↓ic_in1, ↓il_lenT, ↓tx_0, ↓tx_1, ↓tx_2, ↓ineg_i, ↓ws_try, ↓i_isx, ↓xx_done, ↓xx_rais, decide_true, decide_false, Bool.not_true, Bool.not_false, List.length_cons, List.length_nil, Int.reduceToNat, decide_eq_true_eq, Bool.not_eq_true', decide_eq_false_iff_not, Bool.true_eq_false, Bool.false_eq_true, if_true, if_false, reduceCtorEq, not_false_eq_true, not_true_eq_false, or_false, or_true, and_true, true_and, List.nil_append, List.cons_append, ↓i_methL ho (show 0 ≤ 6 by decide), ↓im_app ho fl]
  have y3 : Ext s12 (s13.set ro (.lst ((outerL cs ws).map doorV ++ [.tup [.int 9, .int 9]]))) := Ext.set h13 lo
  generalize s13.set ro (.lst ((outerL cs ws).map doorV ++ [.tup [.int 9, .int 9]])) = s14 at y3 ⊢
  have N3 := N2.ext y3
  have ha3 := y3 _ _ ha2
  have hb3 := y3 _ _ hb2
  clear y3 N2 ha2 hb2 h13 lo ho
  refine right_is N3 hC hwl ha3 hb3 hz fun s15 x15 => ?_
  have ha := x15 _ _ ha3
  have hb := x15 _ _ hb3
  clear N3 ha3 hb3 x15
  try simp (decide := true) only [↓i_var, ↓i_con, ↓i_kon, ↓i_bin, ↓i_neg, ↓i_not, ↓i_and, ↓i_or, ↓i_and0, ↓i_or0, ↓i_and1, ↓i_or1, ↓i_cmp, ↓i_chain, ↓i_lst, ↓i_tup, ↓i_dnew, ↓i_call, ↓i_mk, ↓i_bcall, ↓i_isi, ↓i_meth, ↓i_sel, ↓i_selL, ↓i_fld, ↓i_idx, ↓i_sl, ↓i_lrng, ↓i_lc, ↓i_nil, ↓i_cons, ↓i_o0, ↓i_o1, ↓i_opt, ↓i_seq, ↓i_rng1, ↓i_rng2, ↓i_enum, ↓i_zip, ↓i_wk, ↓i_tst, ↓ws_done, ↓ws_asg, ↓ws_asgT, ↓ws_ofE, ↓ws_of, ↓ws_asgF, ↓ws_asgI, ↓ws_aug, ↓ws_expr, ↓ws_ret, ↓ws_retN, ↓ws_ite, ↓ws_loop, ↓ws_whil, ↓boolIs_b, ↓intIs_i, ↓slot_0, ↓slot_1, ↓set_0, ↓set_1, ↓R.is_ok, ↓SR.is_rt, ↓SR.is_nx, ↓i_ofB, ↓wt_non, ↓wt_bl, ↓wt_int, ↓wt_str, ↓wt_tup, ↓wt_rol, ↓ib_add, ↓ib_sub, ↓ib_fdiv, ↓ib_mod, ↓ib_pow, ↓ib_band, ↓ib_shr, ↓ic_lt, ↓ic_le, ↓ic_gt, ↓ic_ge, ↓ic_is, ↓ic_isnot, ↓ic_eqI, ↓ic_neI, ↓ic_eqB, ↓ic_in1, ↓il_lenT, ↓tx_0, ↓tx_1, ↓tx_2, ↓ineg_i, ↓ws_try, ↓i_isx, ↓xx_done, ↓xx_rais, decide_true, decide_false, Bool.not_true, Bool.not_false, List.length_cons, List.length_nil, Int.reduceToNat, decide_eq_true_eq, Bool.not_eq_true', decide_eq_false_iff_not, Bool.true_eq_false, Bool.false_eq_true, if_true, if_false, reduceCtorEq, not_false_eq_true, not_true_eq_false, or_false, or_true, and_true, true_and, List.nil_append, List.cons_append]
  have x16 := Ext.push s15 (AO.lst ([0, 1, 2, 3].map AV.int))
  have g16 := get_push s15 (AO.lst ([0, 1, 2, 3].map AV.int))
  have e16 : ([0, 1, 2, 3] : List Int).map AV.int = [AV.int 0, AV.int 1, AV.int 2, AV.int 3] := rfl
  rw [e16] at g16 x16
  generalize s15 ++ [AO.lst [AV.int 0, AV.int 1, AV.int 2, AV.int 3]] = s16 at x16 g16 ⊢
  rw [← e16] at g16
  rw [isl_rol, cutA_map]
  have cl := cutA_len ns none (some 63)
  have cl : (cutA ns none (some 63)).length ≤ 63 := by omega
  generalize cutA ns none (some 63) = ms at cl ⊢
  have x17 := x16.trans (Ext.push s16 (AO.lst (ms.map AV.int)))
  have g17 := get_push s16 (AO.lst (ms.map AV.int))
  have g16 := Ext.push s16 (AO.lst (ms.map AV.int)) _ _ g16
  generalize s16 ++ [AO.lst (ms.map AV.int)] = s17 at x17 g16 g17 ⊢
  rw [ib_addL g16 g17 (by rw [List.length_map, List.length_map]; unfold lim; simp; omega), ← List.map_append]
  have hms : ([0, 1, 2, 3] ++ ms).length ≤ 67 := by simp; omega
  generalize [0, 1, 2, 3] ++ ms = xs at hms ⊢
  have x18 := x17.trans (Ext.push s17 (AO.lst (xs.map AV.int)))
  have g18 := get_push s17 (AO.lst (xs.map AV.int))
  generalize s17 ++ [AO.lst (xs.map AV.int)] = s18 at x18 g18 ⊢
  generalize s17.length = r18 at g18 ⊢
  rw [ie_lst g18]
  have E18a := x18 _ _ ha
  have E18b := x18 _ _ hb
  refine for_is (fun k e s => ∃ z6 z7 z8, e = [some (.rol ns), some (.ref a), some (.ref b), some (.ref p2), some (.ref m), some (.tup [.int z, .int 0]), z6, z7, z8] ∧ Ext s18 s) _ 0 _ _ ⟨_, _, _, rfl, Ext.refl _⟩ (fun i y e s hy hI => ?_) fun e s hI => ?_
  · obtain ⟨z6, z7, z8, rfl, hE⟩ := hI
    rw [numbered_get, List.getElem?_map] at hy
    obtain ⟨y1, hy1, rfl⟩ := Option.map_eq_some_iff.mp hy
    obtain ⟨c, hc, rfl⟩ := Option.map_eq_some_iff.mp hy1
    have hi := (List.getElem?_eq_some_iff.mp hc).1
    have ha1 := hE _ _ E18a
    have hb1 := hE _ _ E18b
    refine ⟨ck_lst (hE _ _ g18), _, rfl, ?_⟩
    simp only [bindT, bindT.go, wipeA, List.set_cons_zero, List.set_cons_succ]
    try simp (decide := true) only [↓i_var, ↓i_con, ↓i_kon, ↓i_bin, ↓i_neg, ↓i_not, ↓i_and, ↓i_or, ↓i_and0, ↓i_or0, ↓i_and1, ↓i_or1, ↓i_cmp, ↓i_chain, ↓i_lst, ↓i_tup, ↓i_dnew, ↓i_call, ↓i_mk, ↓i_bcall, ↓i_isi, ↓i_meth, ↓i_sel, ↓i_selL, ↓i_fld, ↓i_idx, ↓i_sl, ↓i_lrng, ↓i_lc, ↓i_nil, ↓i_cons, ↓i_o0, ↓i_o1, ↓i_opt, ↓i_seq, ↓i_rng1, ↓i_rng2, ↓i_enum, ↓i_zip, ↓i_wk, ↓i_tst, ↓ws_done, ↓ws_asg, ↓ws_asgT, ↓ws_ofE, ↓ws_of, ↓ws_asgF, ↓ws_asgI, ↓ws_aug, ↓ws_expr, ↓ws_ret, ↓ws_retN, ↓ws_ite, ↓ws_loop, ↓ws_whil, ↓boolIs_b, ↓intIs_i, ↓slot_0, ↓slot_1, ↓set_0, ↓set_1, ↓R.is_ok, ↓SR.is_rt, ↓SR.is_nx, ↓i_ofB, ↓wt_non, ↓wt_bl, ↓wt_int, ↓wt_str, ↓wt_tup, ↓wt_rol, ↓ib_add, ↓ib_sub, ↓ib_fdiv, ↓ib_mod, ↓ib_pow, ↓ib_band, ↓ib_shr, ↓ic_lt, ↓ic_le, ↓ic_gt, ↓ic_ge, ↓ic_is, ↓ic_isnot, ↓ic_eqI, ↓ic_neI, ↓ic_eqB, ↓ic_in1, ↓il_lenT, ↓tx_0, ↓tx_1, ↓tx_2, ↓ineg_i, ↓ws_try, ↓i_isx, ↓xx_done, ↓xx_rais, decide_true, decide_false, Bool.not_true, Bool.not_false, List.length_cons, List.length_nil, Int.reduceToNat, decide_eq_true_eq, Bool.not_eq_true', decide_eq_false_iff_not, Bool.true_eq_false, Bool.false_eq_true, if_true, if_false, reduceCtorEq, not_false_eq_true, not_true_eq_false, or_false, or_true, and_true, true_and, List.nil_append, List.cons_append, c_law_81_1]
    refine mix_is (by omega) (by omega) ?_
    have hn := mixM_nn c (40 + ((0 + i : Nat) : Int))
    generalize mixM c (40 + ((0 + i : Nat) : Int)) = N at hn ⊢
    try simp (decide := true) only [↓i_var, ↓i_con, ↓i_kon, ↓i_bin, ↓i_neg, ↓i_not, ↓i_and, ↓i_or, ↓i_and0, ↓i_or0, ↓i_and1, ↓i_or1, ↓i_cmp, ↓i_chain, ↓i_lst, ↓i_tup, ↓i_dnew, ↓i_call, ↓i_mk, ↓i_bcall, ↓i_isi, ↓i_meth, ↓i_sel, ↓i_selL, ↓i_fld, ↓i_idx, ↓i_sl, ↓i_lrng, ↓i_lc, ↓i_nil, ↓i_cons, ↓i_o0, ↓i_o1, ↓i_opt, ↓i_seq, ↓i_rng1, ↓i_rng2, ↓i_enum, ↓i_zip, ↓i_wk, ↓i_tst, ↓ws_done, ↓ws_asg, ↓ws_asgT, ↓ws_ofE, ↓ws_of, ↓ws_asgF, ↓ws_asgI, ↓ws_aug, ↓ws_expr, ↓ws_ret, ↓ws_retN, ↓ws_ite, ↓ws_loop, ↓ws_whil, ↓boolIs_b, ↓intIs_i, ↓slot_0, ↓slot_1, ↓set_0, ↓set_1, ↓R.is_ok, ↓SR.is_rt, ↓SR.is_nx, ↓i_ofB, ↓wt_non, ↓wt_bl, ↓wt_int, ↓wt_str, ↓wt_tup, ↓wt_rol, ↓ib_add, ↓ib_sub, ↓ib_fdiv, ↓ib_mod, ↓ib_pow, ↓ib_band, ↓ib_shr, ↓ic_lt, ↓ic_le, ↓ic_gt, ↓ic_ge, ↓ic_is, ↓ic_isnot, ↓ic_eqI, ↓ic_neI, ↓ic_eqB, ↓ic_in1, ↓il_lenT, ↓tx_0, ↓tx_1, ↓tx_2, ↓ineg_i, ↓ws_try, ↓i_isx, ↓xx_done, ↓xx_rais, decide_true, decide_false, Bool.not_true, Bool.not_false, List.length_cons, List.length_nil, Int.reduceToNat, decide_eq_true_eq, Bool.not_eq_true', decide_eq_false_iff_not, Bool.true_eq_false, Bool.false_eq_true, if_true, if_false, reduceCtorEq, not_false_eq_true, not_true_eq_false, or_false, or_true, and_true, true_and, List.nil_append, List.cons_append, ↓il_listL ha1]
    have y1 := Ext.push s (AO.lst (cs.map AV.int))
    have k1 := get_push s (AO.lst (cs.map AV.int))
    generalize s ++ [AO.lst (cs.map AV.int)] = t1 at y1 k1 ⊢
    generalize s.length = q1 at k1 ⊢
    refine bad_wires (by omega) (y1 _ _ ha1) (y1 _ _ hb1) hC hwl fun t2 r vs y2 g2 hv hvl hg => ?_
    try simp (decide := true) only [↓i_var, ↓i_con, ↓i_kon, ↓i_bin, ↓i_neg, ↓i_not, ↓i_and, ↓i_or, ↓i_and0, ↓i_or0, ↓i_and1, ↓i_or1, ↓i_cmp, ↓i_chain, ↓i_lst, ↓i_tup, ↓i_dnew, ↓i_call, ↓i_mk, ↓i_bcall, ↓i_isi, ↓i_meth, ↓i_sel, ↓i_selL, ↓i_fld, ↓i_idx, ↓i_sl, ↓i_lrng, ↓i_lc, ↓i_nil, ↓i_cons, ↓i_o0, ↓i_o1, ↓i_opt, ↓i_seq, ↓i_rng1, ↓i_rng2, ↓i_enum, ↓i_zip, ↓i_wk, ↓i_tst, ↓ws_done, ↓ws_asg, ↓ws_asgT, ↓ws_ofE, ↓ws_of, ↓ws_asgF, ↓ws_asgI, ↓ws_aug, ↓ws_expr, ↓ws_ret, ↓ws_retN, ↓ws_ite, ↓ws_loop, ↓ws_whil, ↓boolIs_b, ↓intIs_i, ↓slot_0, ↓slot_1, ↓set_0, ↓set_1, ↓R.is_ok, ↓SR.is_rt, ↓SR.is_nx, ↓i_ofB, ↓wt_non, ↓wt_bl, ↓wt_int, ↓wt_str, ↓wt_tup, ↓wt_rol, ↓ib_add, ↓ib_sub, ↓ib_fdiv, ↓ib_mod, ↓ib_pow, ↓ib_band, ↓ib_shr, ↓ic_lt, ↓ic_le, ↓ic_gt, ↓ic_ge, ↓ic_is, ↓ic_isnot, ↓ic_eqI, ↓ic_neI, ↓ic_eqB, ↓ic_in1, ↓il_lenT, ↓tx_0, ↓tx_1, ↓tx_2, ↓ineg_i, ↓ws_try, ↓i_isx, ↓xx_done, ↓xx_rais, decide_true, decide_false, Bool.not_true, Bool.not_false, List.length_cons, List.length_nil, Int.reduceToNat, decide_eq_true_eq, Bool.not_eq_true', decide_eq_false_iff_not, Bool.true_eq_false, Bool.false_eq_true, if_true, if_false, reduceCtorEq, not_false_eq_true, not_true_eq_false, or_false, or_true, and_true, true_and, List.nil_append, List.cons_append]
    refine refused_is (.inr ⟨good_c (y2 _ _ k1) hC.len1 hC.len2 hC.cnt, bad_w_list (y2 _ _ k1) g2 hv hvl hg⟩) fun t3 y3 => ?_
    have F3 := y1.trans (y2.trans y3)
    try simp (decide := true) only [↓i_var, ↓i_con, ↓i_kon, ↓i_bin, ↓i_neg, ↓i_not, ↓i_and, ↓i_or, ↓i_and0, ↓i_or0, ↓i_and1, ↓i_or1, ↓i_cmp, ↓i_chain, ↓i_lst, ↓i_tup, ↓i_dnew, ↓i_call, ↓i_mk, ↓i_bcall, ↓i_isi, ↓i_meth, ↓i_sel, ↓i_selL, ↓i_fld, ↓i_idx, ↓i_sl, ↓i_lrng, ↓i_lc, ↓i_nil, ↓i_cons, ↓i_o0, ↓i_o1, ↓i_opt, ↓i_seq, ↓i_rng1, ↓i_rng2, ↓i_enum, ↓i_zip, ↓i_wk, ↓i_tst, ↓ws_done, ↓ws_asg, ↓ws_asgT, ↓ws_ofE, ↓ws_of, ↓ws_asgF, ↓ws_asgI, ↓ws_aug, ↓ws_expr, ↓ws_ret, ↓ws_retN, ↓ws_ite, ↓ws_loop, ↓ws_whil, ↓boolIs_b, ↓intIs_i, ↓slot_0, ↓slot_1, ↓set_0, ↓set_1, ↓R.is_ok, ↓SR.is_rt, ↓SR.is_nx, ↓i_ofB, ↓wt_non, ↓wt_bl, ↓wt_int, ↓wt_str, ↓wt_tup, ↓wt_rol, ↓ib_add, ↓ib_sub, ↓ib_fdiv, ↓ib_mod, ↓ib_pow, ↓ib_band, ↓ib_shr, ↓ic_lt, ↓ic_le, ↓ic_gt, ↓ic_ge, ↓ic_is, ↓ic_isnot, ↓ic_eqI, ↓ic_neI, ↓ic_eqB, ↓ic_in1, ↓il_lenT, ↓tx_0, ↓tx_1, ↓tx_2, ↓ineg_i, ↓ws_try, ↓i_isx, ↓xx_done, ↓xx_rais, decide_true, decide_false, Bool.not_true, Bool.not_false, List.length_cons, List.length_nil, Int.reduceToNat, decide_eq_true_eq, Bool.not_eq_true', decide_eq_false_iff_not, Bool.true_eq_false, Bool.false_eq_true, if_true, if_false, reduceCtorEq, not_false_eq_true, not_true_eq_false, or_false, or_true, and_true, true_and, List.nil_append, List.cons_append]
    refine bad_counts hn (F3 _ _ ha1) hC fun t4 v y4 hb4 => ?_
    try simp (decide := true) only [↓i_var, ↓i_con, ↓i_kon, ↓i_bin, ↓i_neg, ↓i_not, ↓i_and, ↓i_or, ↓i_and0, ↓i_or0, ↓i_and1, ↓i_or1, ↓i_cmp, ↓i_chain, ↓i_lst, ↓i_tup, ↓i_dnew, ↓i_call, ↓i_mk, ↓i_bcall, ↓i_isi, ↓i_meth, ↓i_sel, ↓i_selL, ↓i_fld, ↓i_idx, ↓i_sl, ↓i_lrng, ↓i_lc, ↓i_nil, ↓i_cons, ↓i_o0, ↓i_o1, ↓i_opt, ↓i_seq, ↓i_rng1, ↓i_rng2, ↓i_enum, ↓i_zip, ↓i_wk, ↓i_tst, ↓ws_done, ↓ws_asg, ↓ws_asgT, ↓ws_ofE, ↓ws_of, ↓ws_asgF, ↓ws_asgI, ↓ws_aug, ↓ws_expr, ↓ws_ret, ↓ws_retN, ↓ws_ite, ↓ws_loop, ↓ws_whil, ↓boolIs_b, ↓intIs_i, ↓slot_0, ↓slot_1, ↓set_0, ↓set_1, ↓R.is_ok, ↓SR.is_rt, ↓SR.is_nx, ↓i_ofB, ↓wt_non, ↓wt_bl, ↓wt_int, ↓wt_str, ↓wt_tup, ↓wt_rol, ↓ib_add, ↓ib_sub, ↓ib_fdiv, ↓ib_mod, ↓ib_pow, ↓ib_band, ↓ib_shr, ↓ic_lt, ↓ic_le, ↓ic_gt, ↓ic_ge, ↓ic_is, ↓ic_isnot, ↓ic_eqI, ↓ic_neI, ↓ic_eqB, ↓ic_in1, ↓il_lenT, ↓tx_0, ↓tx_1, ↓tx_2, ↓ineg_i, ↓ws_try, ↓i_isx, ↓xx_done, ↓xx_rais, decide_true, decide_false, Bool.not_true, Bool.not_false, List.length_cons, List.length_nil, Int.reduceToNat, decide_eq_true_eq, Bool.not_eq_true', decide_eq_false_iff_not, Bool.true_eq_false, Bool.false_eq_true, if_true, if_false, reduceCtorEq, not_false_eq_true, not_true_eq_false, or_false, or_true, and_true, true_and, List.nil_append, List.cons_append, ↓il_listL (y4 _ _ (F3 _ _ hb1))]
    have y5 := Ext.push t4 (AO.lst (ws.map wireV))
    refine refused_is (.inl fun s' n' Q' E' => hb4 s' n' Q' (y5.trans E')) fun t6 y6 => ?_
    try simp (decide := true) only [↓i_var, ↓i_con, ↓i_kon, ↓i_bin, ↓i_neg, ↓i_not, ↓i_and, ↓i_or, ↓i_and0, ↓i_or0, ↓i_and1, ↓i_or1, ↓i_cmp, ↓i_chain, ↓i_lst, ↓i_tup, ↓i_dnew, ↓i_call, ↓i_mk, ↓i_bcall, ↓i_isi, ↓i_meth, ↓i_sel, ↓i_selL, ↓i_fld, ↓i_idx, ↓i_sl, ↓i_lrng, ↓i_lc, ↓i_nil, ↓i_cons, ↓i_o0, ↓i_o1, ↓i_opt, ↓i_seq, ↓i_rng1, ↓i_rng2, ↓i_enum, ↓i_zip, ↓i_wk, ↓i_tst, ↓ws_done, ↓ws_asg, ↓ws_asgT, ↓ws_ofE, ↓ws_of, ↓ws_asgF, ↓ws_asgI, ↓ws_aug, ↓ws_expr, ↓ws_ret, ↓ws_retN, ↓ws_ite, ↓ws_loop, ↓ws_whil, ↓boolIs_b, ↓intIs_i, ↓slot_0, ↓slot_1, ↓set_0, ↓set_1, ↓R.is_ok, ↓SR.is_rt, ↓SR.is_nx, ↓i_ofB, ↓wt_non, ↓wt_bl, ↓wt_int, ↓wt_str, ↓wt_tup, ↓wt_rol, ↓ib_add, ↓ib_sub, ↓ib_fdiv, ↓ib_mod, ↓ib_pow, ↓ib_band, ↓ib_shr, ↓ic_lt, ↓ic_le, ↓ic_gt, ↓ic_ge, ↓ic_is, ↓ic_isnot, ↓ic_eqI, ↓ic_neI, ↓ic_eqB, ↓ic_in1, ↓il_lenT, ↓tx_0, ↓tx_1, ↓tx_2, ↓ineg_i, ↓ws_try, ↓i_isx, ↓xx_done, ↓xx_rais, decide_true, decide_false, Bool.not_true, Bool.not_false, List.length_cons, List.length_nil, Int.reduceToNat, decide_eq_true_eq, Bool.not_eq_true', decide_eq_false_iff_not, Bool.true_eq_false, Bool.false_eq_true, if_true, if_false, reduceCtorEq, not_false_eq_true, not_true_eq_false, or_false, or_true, and_true, true_and, List.nil_append, List.cons_append]
    exact ⟨_, _, _, rfl, hE.trans (F3.trans (y4.trans (y5.trans y6)))⟩
  · obtain ⟨z6, z7, z8, rfl, hE⟩ := hI
    refine ⟨ck_lst (hE _ _ g18), ?_⟩
    have ha1 := hE _ _ E18a
    have hb1 := hE _ _ E18b
    try simp (decide := true) only [↓i_var, ↓i_con, ↓i_kon, ↓i_bin, ↓i_neg, ↓i_not, ↓i_and, ↓i_or, ↓i_and0, ↓i_or0, ↓i_and1, ↓i_or1, ↓i_cmp, ↓i_chain, ↓i_lst, ↓i_tup, ↓i_dnew, ↓i_call, ↓i_mk, ↓i_bcall, ↓i_isi, ↓i_meth, ↓i_sel, ↓i_selL, ↓i_fld, ↓i_idx, ↓i_sl, ↓i_lrng, ↓i_lc, ↓i_nil, ↓i_cons, ↓i_o0, ↓i_o1, ↓i_opt, ↓i_seq, ↓i_rng1, ↓i_rng2, ↓i_enum, ↓i_zip, ↓i_wk, ↓i_tst, ↓ws_done, ↓ws_asg, ↓ws_asgT, ↓ws_ofE, ↓ws_of, ↓ws_asgF, ↓ws_asgI, ↓ws_aug, ↓ws_expr, ↓ws_ret, ↓ws_retN, ↓ws_ite, ↓ws_loop, ↓ws_whil, ↓boolIs_b, ↓intIs_i, ↓slot_0, ↓slot_1, ↓set_0, ↓set_1, ↓R.is_ok, ↓SR.is_rt, ↓SR.is_nx, ↓i_ofB, ↓wt_non, ↓wt_bl, ↓wt_int, ↓wt_str, ↓wt_tup, ↓wt_rol, ↓ib_add, ↓ib_sub, ↓ib_fdiv, ↓ib_mod, ↓ib_pow, ↓ib_band, ↓ib_shr, ↓ic_lt, ↓ic_le, ↓ic_gt, ↓ic_ge, ↓ic_is, ↓ic_isnot, ↓ic_eqI, ↓ic_neI, ↓ic_eqB, ↓ic_in1, ↓il_lenT, ↓tx_0, ↓tx_1, ↓tx_2, ↓ineg_i, ↓ws_try, ↓i_isx, ↓xx_done, ↓xx_rais, decide_true, decide_false, Bool.not_true, Bool.not_false, List.length_cons, List.length_nil, Int.reduceToNat, decide_eq_true_eq, Bool.not_eq_true', decide_eq_false_iff_not, Bool.true_eq_false, Bool.false_eq_true, if_true, if_false, reduceCtorEq, not_false_eq_true, not_true_eq_false, or_false, or_true, and_true, true_and, List.nil_append, List.cons_append, ↓il_listL ha1]
    have y1 := Ext.push s (AO.lst (cs.map AV.int))
    have k1 := get_push s (AO.lst (cs.map AV.int))
    generalize s ++ [AO.lst (cs.map AV.int)] = t1 at y1 k1 ⊢
    generalize s.length = q1 at k1 ⊢
    refine refused_is (.inr ⟨good_c k1 hC.len1 hC.len2 hC.cnt, bad_w_non trivial (by intro z; cases z)⟩) fun t3 y3 => ?_
    have F3 := y1.trans y3
    try simp (decide := true) only [↓i_var, ↓i_con, ↓i_kon, ↓i_bin, ↓i_neg, ↓i_not, ↓i_and, ↓i_or, ↓i_and0, ↓i_or0, ↓i_and1, ↓i_or1, ↓i_cmp, ↓i_chain, ↓i_lst, ↓i_tup, ↓i_dnew, ↓i_call, ↓i_mk, ↓i_bcall, ↓i_isi, ↓i_meth, ↓i_sel, ↓i_selL, ↓i_fld, ↓i_idx, ↓i_sl, ↓i_lrng, ↓i_lc, ↓i_nil, ↓i_cons, ↓i_o0, ↓i_o1, ↓i_opt, ↓i_seq, ↓i_rng1, ↓i_rng2, ↓i_enum, ↓i_zip, ↓i_wk, ↓i_tst, ↓ws_done, ↓ws_asg, ↓ws_asgT, ↓ws_ofE, ↓ws_of, ↓ws_asgF, ↓ws_asgI, ↓ws_aug, ↓ws_expr, ↓ws_ret, ↓ws_retN, ↓ws_ite, ↓ws_loop, ↓ws_whil, ↓boolIs_b, ↓intIs_i, ↓slot_0, ↓slot_1, ↓set_0, ↓set_1, ↓R.is_ok, ↓SR.is_rt, ↓SR.is_nx, ↓i_ofB, ↓wt_non, ↓wt_bl, ↓wt_int, ↓wt_str, ↓wt_tup, ↓wt_rol, ↓ib_add, ↓ib_sub, ↓ib_fdiv, ↓ib_mod, ↓ib_pow, ↓ib_band, ↓ib_shr, ↓ic_lt, ↓ic_le, ↓ic_gt, ↓ic_ge, ↓ic_is, ↓ic_isnot, ↓ic_eqI, ↓ic_neI, ↓ic_eqB, ↓ic_in1, ↓il_lenT, ↓tx_0, ↓tx_1, ↓tx_2, ↓ineg_i, ↓ws_try, ↓i_isx, ↓xx_done, ↓xx_rais, decide_true, decide_false, Bool.not_true, Bool.not_false, List.length_cons, List.length_nil, Int.reduceToNat, decide_eq_true_eq, Bool.not_eq_true', decide_eq_false_iff_not, Bool.true_eq_false, Bool.false_eq_true, if_true, if_false, reduceCtorEq, not_false_eq_true, not_true_eq_false, or_false, or_true, and_true, true_and, List.nil_append, List.cons_append, ↓il_listL (F3 _ _ ha1)]
    have y4 := Ext.push t3 (AO.lst (cs.map AV.int))
    have k4 := get_push t3 (AO.lst (cs.map AV.int))
    generalize t3 ++ [AO.lst (cs.map AV.int)] = t4 at y4 k4 ⊢
    generalize t3.length = q4 at k4 ⊢
    try simp (decide := true) only [↓i_var, ↓i_con, ↓i_kon, ↓i_bin, ↓i_neg, ↓i_not, ↓i_and, ↓i_or, ↓i_and0, ↓i_or0, ↓i_and1, ↓i_or1, ↓i_cmp, ↓i_chain, ↓i_lst, ↓i_tup, ↓i_dnew, ↓i_call, ↓i_mk, ↓i_bcall, ↓i_isi, ↓i_meth, ↓i_sel, ↓i_selL, ↓i_fld, ↓i_idx, ↓i_sl, ↓i_lrng, ↓i_lc, ↓i_nil, ↓i_cons, ↓i_o0, ↓i_o1, ↓i_opt, ↓i_seq, ↓i_rng1, ↓i_rng2, ↓i_enum, ↓i_zip, ↓i_wk, ↓i_tst, ↓ws_done, ↓ws_asg, ↓ws_asgT, ↓ws_ofE, ↓ws_of, ↓ws_asgF, ↓ws_asgI, ↓ws_aug, ↓ws_expr, ↓ws_ret, ↓ws_retN, ↓ws_ite, ↓ws_loop, ↓ws_whil, ↓boolIs_b, ↓intIs_i, ↓slot_0, ↓slot_1, ↓set_0, ↓set_1, ↓R.is_ok, ↓SR.is_rt, ↓SR.is_nx, ↓i_ofB, ↓wt_non, ↓wt_bl, ↓wt_int, ↓wt_str, ↓wt_tup, ↓wt_rol, ↓ib_add, ↓ib_sub, ↓ib_fdiv, ↓ib_mod, ↓ib_pow, ↓ib_band, ↓ib_shr, ↓ic_lt, ↓ic_le, ↓ic_gt, ↓ic_ge, ↓ic_is, ↓ic_isnot, ↓ic_eqI, ↓ic_neI, ↓ic_eqB, ↓ic_in1, ↓il_lenT, ↓tx_0, ↓tx_1, ↓tx_2, ↓ineg_i, ↓ws_try, ↓i_isx, ↓xx_done, ↓xx_rais, decide_true, decide_false, Bool.not_true, Bool.not_false, List.length_cons, List.length_nil, Int.reduceToNat, decide_eq_true_eq, Bool.not_eq_true', decide_eq_false_iff_not, Bool.true_eq_false, Bool.false_eq_true, if_true, if_false, reduceCtorEq, not_false_eq_true, not_true_eq_false, or_false, or_true, and_true, true_and, List.nil_append, List.cons_append, ↓il_tupleL (y4 _ _ (F3 _ _ hb1))]
    refine refused_is (.inr ⟨good_c k4 hC.len1 hC.len2 hC.cnt, bad_w_non trivial (by intro z; cases z)⟩) fun t5 y5 => ?_
    try simp (decide := true) only [↓i_var, ↓i_con, ↓i_kon, ↓i_bin, ↓i_neg, ↓i_not, ↓i_and, ↓i_or, ↓i_and0, ↓i_or0, ↓i_and1, ↓i_or1, ↓i_cmp, ↓i_chain, ↓i_lst, ↓i_tup, ↓i_dnew, ↓i_call, ↓i_mk, ↓i_bcall, ↓i_isi, ↓i_meth, ↓i_sel, ↓i_selL, ↓i_fld, ↓i_idx, ↓i_sl, ↓i_lrng, ↓i_lc, ↓i_nil, ↓i_cons, ↓i_o0, ↓i_o1, ↓i_opt, ↓i_seq, ↓i_rng1, ↓i_rng2, ↓i_enum, ↓i_zip, ↓i_wk, ↓i_tst, ↓ws_done, ↓ws_asg, ↓ws_asgT, ↓ws_ofE, ↓ws_of, ↓ws_asgF, ↓ws_asgI, ↓ws_aug, ↓ws_expr, ↓ws_ret, ↓ws_retN, ↓ws_ite, ↓ws_loop, ↓ws_whil, ↓boolIs_b, ↓intIs_i, ↓slot_0, ↓slot_1, ↓set_0, ↓set_1, ↓R.is_ok, ↓SR.is_rt, ↓SR.is_nx, ↓i_ofB, ↓wt_non, ↓wt_bl, ↓wt_int, ↓wt_str, ↓wt_tup, ↓wt_rol, ↓ib_add, ↓ib_sub, ↓ib_fdiv, ↓ib_mod, ↓ib_pow, ↓ib_band, ↓ib_shr, ↓ic_lt, ↓ic_le, ↓ic_gt, ↓ic_ge, ↓ic_is, ↓ic_isnot, ↓ic_eqI, ↓ic_neI, ↓ic_eqB, ↓ic_in1, ↓il_lenT, ↓tx_0, ↓tx_1, ↓tx_2, ↓ineg_i, ↓ws_try, ↓i_isx, ↓xx_done, ↓xx_rais, decide_true, decide_false, Bool.not_true, Bool.not_false, List.length_cons, List.length_nil, Int.reduceToNat, decide_eq_true_eq, Bool.not_eq_true', decide_eq_false_iff_not, Bool.true_eq_false, Bool.false_eq_true, if_true, if_false, reduceCtorEq, not_false_eq_true, not_true_eq_false, or_false, or_true, and_true, true_and, List.nil_append, List.cons_append]
end L3

namespace L3
theorem plain : ∀ ns : List Int, ns.length ≤ 63 → ∃ st, callF tab 60 g_law_81 [.rol ns] [] = .ok (.bl true) st := fun ns h => by
  obtain ⟨v, st, e, q⟩ := (law_is h).get
  exact ⟨st, by rw [e, q]⟩
end L3
open PySem PySem.W PyProof.Rows
set_option maxHeartbeats 0 in
theorem PySem.Challenge.cw_nohalfway_k02_nets_holds : PySem.Challenge.rw_nohalfway_k02_nets.Holds := by
  w_on; o_law; k_head; (case hw => w_witness2)
  k_fill
  refine L2.walk_of (l := PySem.Challenge.rw_nohalfway_k02_nets) (n := 63) (k := 61) (x := "script") (CX := fun w => L2.CX PySem.Challenge.rw_nohalfway_k02_nets.prog w) (sp := fun w => L3.spLaw _) rfl (by decide) rfl ⟨rfl, by decide, by decide⟩ (fun w h Y => PySem.W.kIn_of Y) ?F (fun _ _ a ns hl ho hS => ⟨a, ns, rfl, ho, hS, hl, fun _ => rfl⟩) (fun _ _ _ _ _ h => L3.cx_no h)
  case F =>
    intro w mg fa h KX G hmg
    refine' L3.all_mk KX G hmg ?a_is_whole ?l_is_whole ?y_is_whole ?k_is_whole ?a_are_counts ?l_are_counts ?y_are_counts ?k_are_counts ?a_is_door_of ?l_is_door_of ?y_is_door_of ?k_is_door_of ?a_are_wires ?l_are_wires ?y_are_wires ?k_are_wires ?a_law_cell_at ?l_law_cell_at ?y_law_cell_at ?k_law_cell_at ?a_law_mix ?l_law_mix ?y_law_mix ?k_law_mix ?a_law_counts ?l_law_counts ?y_law_counts ?k_law_counts ?a_law_doors ?l_law_doors ?y_law_doors ?k_law_doors ?a_law_wires ?l_law_wires ?y_law_wires ?k_law_wires ?a_law_names_3 ?l_law_names_3 ?y_law_names_3 ?k_law_names_3 ?a_law_refused_7 ?l_law_refused_7 ?y_law_refused_7 ?k_law_refused_7 ?a_law_bad_wires ?l_law_bad_wires ?y_law_bad_wires ?k_law_bad_wires ?a_law_bad_counts ?l_law_bad_counts ?y_law_bad_counts ?k_law_bad_counts ?a_law_truth ?l_law_truth ?y_law_truth ?k_law_truth ?a_law_doors_right ?l_law_doors_right ?y_law_doors_right ?k_law_doors_right ?a_law_right_11 ?l_law_right_11 ?y_law_right_11 ?k_law_right_11 ?a_law_81 ?l_law_81 ?y_law_81 ?k_law_81 ?aC_Net ?pg_Net ?hd_Net ?po_Net ?sa_Net ?mk_Net ?kc_Net ?n_Net_joins ?n_Net_many ?n_Net_other ?n_Net_sizes ?aE_NoNet ?aE_NoBooks ?aE_NoDoor ?aE_NoAddress ?aE_NoSaying ?aE_NoRow ?aE_NoPlan ?aE_NoMove ?aE_NoText ?aE_WayError ?xE_NoNet ?kE_NoNet ?bE_NoNet ?tE_NoNet ?gE_NoNet ?hE_NoNet ?dE_NoNet ?cE_NoNet ?mE_NoNet ?eN ?eT ?iE_NoNet ?iE_NoBooks ?tE_NoBooks ?iE_NoDoor ?tE_NoDoor ?iE_NoAddress ?tE_NoAddress ?iE_NoSaying ?tE_NoSaying ?iE_NoRow ?tE_NoRow ?iE_NoPlan ?tE_NoPlan ?iE_NoMove ?tE_NoMove ?iE_NoText ?tE_NoText ?iE_WayError ?tE_WayError ?bE_WayError ?dE_WayError ?sE_NoNet_NoNet ?sE_NoNet_NoBooks ?nE_NoNet_NoBooks ?sE_NoNet_NoDoor ?nE_NoNet_NoDoor ?sE_NoNet_NoAddress ?nE_NoNet_NoAddress ?sE_NoNet_NoSaying ?nE_NoNet_NoSaying ?sE_NoNet_NoRow ?nE_NoNet_NoRow ?sE_NoNet_NoPlan ?nE_NoNet_NoPlan ?sE_NoNet_NoMove ?nE_NoNet_NoMove ?sE_NoNet_NoText ?nE_NoNet_NoText ?sE_NoNet_WayError ?sE_NoNet_ValueError ?z_ValueError ?a_Net___init ?i_Net___init ?l_Net___init ?y_Net___init ?k_Net___init ?a_Net_count ?i_Net_count ?l_Net_count ?y_Net_count ?k_Net_count ?a_Net_wires ?i_Net_wires ?l_Net_wires ?y_Net_wires ?k_Net_wires ?a_Net_beyond ?i_Net_beyond ?l_Net_beyond ?y_Net_beyond ?k_Net_beyond ?a_Net_outer ?i_Net_outer ?l_Net_outer ?y_Net_outer ?k_Net_outer ?a_Net_is_door ?i_Net_is_door ?l_Net_is_door ?y_Net_is_door ?k_Net_is_door ?a_Net_is_outer ?i_Net_is_outer ?l_Net_is_outer ?y_Net_is_outer ?k_Net_is_outer ?v_MOST_HOUSES ?v_MOST_DOORS ?z_len ?z_int ?z_str ?z_list ?z_tuple ?z_abs ?z_all ?z_any ?z_sorted ?z_sum ?z_max ?z_min ?z_range ?z_set ?z_isinstance ?z_bool ?z_dict ?z_enumerate ?z_zip L3.plain
    (case a_is_whole => k_is); (case l_is_whole => k_is); (case y_is_whole => k_is); (case k_is_whole => k_is); (case a_are_counts => k_is); (case l_are_counts => k_is); (case y_are_counts => k_is); (case k_are_counts => k_is); (case a_is_door_of => k_is); (case l_is_door_of => k_is); (case y_is_door_of => k_is); (case k_is_door_of => k_is); (case a_are_wires => k_is); (case l_are_wires => k_is); (case y_are_wires => k_is); (case k_are_wires => k_is); (case a_law_cell_at => k_is); (case l_law_cell_at => k_is); (case y_law_cell_at => k_is); (case k_law_cell_at => k_is); (case a_law_mix => k_is); (case l_law_mix => k_is); (case y_law_mix => k_is); (case k_law_mix => k_is); (case a_law_counts => k_is); (case l_law_counts => k_is); (case y_law_counts => k_is); (case k_law_counts => k_is); (case a_law_doors => k_is); (case l_law_doors => k_is); (case y_law_doors => k_is); (case k_law_doors => k_is); (case a_law_wires => k_is); (case l_law_wires => k_is); (case y_law_wires => k_is); (case k_law_wires => k_is); (case a_law_names_3 => k_is); (case l_law_names_3 => k_is); (case y_law_names_3 => k_is); (case k_law_names_3 => k_is); (case a_law_refused_7 => k_is); (case l_law_refused_7 => k_is); (case y_law_refused_7 => k_is); (case k_law_refused_7 => k_is); (case a_law_bad_wires => k_is); (case l_law_bad_wires => k_is); (case y_law_bad_wires => k_is); (case k_law_bad_wires => k_is); (case a_law_bad_counts => k_is); (case l_law_bad_counts => k_is); (case y_law_bad_counts => k_is); (case k_law_bad_counts => k_is); (case a_law_truth => k_is); (case l_law_truth => k_is); (case y_law_truth => k_is); (case k_law_truth => k_is); (case a_law_doors_right => k_is); (case l_law_doors_right => k_is); (case y_law_doors_right => k_is); (case k_law_doors_right => k_is); (case a_law_right_11 => k_is); (case l_law_right_11 => k_is); (case y_law_right_11 => k_is); (case k_law_right_11 => k_is); (case a_law_81 => k_is); (case l_law_81 => k_is); (case y_law_81 => k_is); (case k_law_81 => k_is); (case aC_Net => k_is); (case pg_Net => k_is); (case hd_Net => k_is); (case po_Net => k_is); (case sa_Net => k_is); (case mk_Net => k_is); (case kc_Net => k_is); (case n_Net_joins => k_is); (case n_Net_many => k_is); (case n_Net_other => k_is); (case n_Net_sizes => k_is); (case aE_NoNet => k_is); (case aE_NoBooks => k_is); (case aE_NoDoor => k_is); (case aE_NoAddress => k_is); (case aE_NoSaying => k_is); (case aE_NoRow => k_is); (case aE_NoPlan => k_is); (case aE_NoMove => k_is); (case aE_NoText => k_is); (case aE_WayError => k_is); (case xE_NoNet => k_exc); (case kE_NoNet => k_is); (case bE_NoNet => k_is); (case tE_NoNet => k_is); (case gE_NoNet => k_is); (case hE_NoNet => k_is); (case dE_NoNet => k_is); (case cE_NoNet => k_is); (case mE_NoNet => k_is); (case eN => k_is); (case eT => k_is); (case iE_NoNet => k_is); (case iE_NoBooks => k_is); (case tE_NoBooks => k_is); (case iE_NoDoor => k_is); (case tE_NoDoor => k_is); (case iE_NoAddress => k_is); (case tE_NoAddress => k_is); (case iE_NoSaying => k_is); (case tE_NoSaying => k_is); (case iE_NoRow => k_is); (case tE_NoRow => k_is); (case iE_NoPlan => k_is); (case tE_NoPlan => k_is); (case iE_NoMove => k_is); (case tE_NoMove => k_is); (case iE_NoText => k_is); (case tE_NoText => k_is); (case iE_WayError => k_is); (case tE_WayError => k_is); (case bE_WayError => k_is); (case dE_WayError => k_is); (case sE_NoNet_NoNet => k_is); (case sE_NoNet_NoBooks => k_is); (case nE_NoNet_NoBooks => decide); (case sE_NoNet_NoDoor => k_is); (case nE_NoNet_NoDoor => decide); (case sE_NoNet_NoAddress => k_is); (case nE_NoNet_NoAddress => decide); (case sE_NoNet_NoSaying => k_is); (case nE_NoNet_NoSaying => decide); (case sE_NoNet_NoRow => k_is); (case nE_NoNet_NoRow => decide); (case sE_NoNet_NoPlan => k_is); (case nE_NoNet_NoPlan => decide); (case sE_NoNet_NoMove => k_is); (case nE_NoNet_NoMove => decide); (case sE_NoNet_NoText => k_is); (case nE_NoNet_NoText => decide); (case sE_NoNet_WayError => k_is); (case sE_NoNet_ValueError => k_is); (case z_ValueError => k_is); (case a_Net___init => k_is); (case i_Net___init => k_is); (case l_Net___init => k_is); (case y_Net___init => k_is); (case k_Net___init => k_is); (case a_Net_count => k_is); (case i_Net_count => k_is); (case l_Net_count => k_is); (case y_Net_count => k_is); (case k_Net_count => k_is); (case a_Net_wires => k_is); (case i_Net_wires => k_is); (case l_Net_wires => k_is); (case y_Net_wires => k_is); (case k_Net_wires => k_is); (case a_Net_beyond => k_is); (case i_Net_beyond => k_is); (case l_Net_beyond => k_is); (case y_Net_beyond => k_is); (case k_Net_beyond => k_is); (case a_Net_outer => k_is); (case i_Net_outer => k_is); (case l_Net_outer => k_is); (case y_Net_outer => k_is); (case k_Net_outer => k_is); (case a_Net_is_door => k_is); (case i_Net_is_door => k_is); (case l_Net_is_door => k_is); (case y_Net_is_door => k_is); (case k_Net_is_door => k_is); (case a_Net_is_outer => k_is); (case i_Net_is_outer => k_is); (case l_Net_is_outer => k_is); (case y_Net_is_outer => k_is); (case k_Net_is_outer => k_is); (case v_MOST_HOUSES => k_is); (case v_MOST_DOORS => k_is); (case z_len => k_is); (case z_int => k_is); (case z_str => k_is); (case z_list => k_is); (case z_tuple => k_is); (case z_abs => k_is); (case z_all => k_is); (case z_any => k_is); (case z_sorted => k_is); (case z_sum => k_is); (case z_max => k_is); (case z_min => k_is); (case z_range => k_is); (case z_set => k_is); (case z_isinstance => k_is); (case z_bool => k_is); (case z_dict => k_is); (case z_enumerate => k_is); (case z_zip => k_is)
