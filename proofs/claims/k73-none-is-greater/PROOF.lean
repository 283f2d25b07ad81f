import PyProof.Rows.All
import Wide.All
import OpenK.AllK
import Wide.FinOn
import HandS.ForMost
import HandS.TupAny
import HandS.Style
import HandS.ForExc
import HandS.StrMore
import HandS.RevTup
import HandS.TupMul
import HandS.Small
import KE.GoesEnum
import KE.DataEq
import KE.KDictKeyed
import HandS.Exc
import HandS.ExcOwn
import HandS.WordsExc
import HandS.CallSlots
import HandS.TryMany
import HandS.SetKeys
import HandS.More
import HandS.Wide
import HandS.Zip
import KE.KRevSl
import HandS.SortKw
import HandS.Iter
import KE.DataMinMax
import HandS.IsInst
import HandS.Conv
import HandS.Ends
import KE.RegKTryMore
import PySem.Challenge.RW_graftsay_k73_none_is_greater
set_option Elab.async false
set_option linter.all false
set_option maxRecDepth 100000
set_option maxHeartbeats 4000000
/-! WA: a small language of values and a store, with exceptions, what its programs do. -/
namespace VM
open PySem

inductive D where
  | non | bl (b : Bool) | int (i : Int) | str (x : Str) | tup (ds : List D) | ref (n : Nat) | fz (ds : List D)

inductive O where
  | lst (ds : List D)
  | dic (kvs : List (L2.Key × D))
  | din (kvs : List (NestedKey × D × D))
  | ins (c : Nat) (fs : List (Str × D))
  | lk (o : O)

abbrev Sto := List O
abbrev Rho := List (Option D)

inductive Rs (α : Type) where
  | ok (a : α) (S : Sto)
  | ex (c : Nat) (xs : List (Str × D)) (S : Sto)
abbrev Out (α : Type) := Option (Rs α)
def ok {α : Type} (a : α) (S : Sto) : Out α := some (.ok a S)
def bd {α β : Type} (m : Out α) (f : α → Sto → Out β) : Out β :=
  match m with
  | none => none
  | some (.ok a S) => f a S
  | some (.ex c xs S) => some (.ex c xs S)

inductive Op2 where | add | sub | mul | fdiv | mod | pow
inductive Cm where | eq | ne | lt | le | gt | ge | is | isnot | inn | notin
inductive Bi where | len | tuple | list | sum | all | any | max | min | int | str
inductive Bm where | append | insert | extend
inductive Sm where | lower | upper
inductive Ty where | int | bool | str | tuple | list
inductive Tg where | nm (i : Nat) | tp (is : List Nat)

mutual
inductive E where
  | var (i : Nat)
  | non | bl (b : Bool) | int (i : Int) | str (x : Str)
  | gc (x : Str) (d : D)
  | tup (es : Es) | lst (es : Es)
  | bin (op : Op2) (a b : E)
  | neg (a : E)
  | cmp (op : Cm) (a b : E)
  | chain (op op' : Cm) (a b c : E)
  | and (a b : E) | or (a b : E) | one (a : E) | not (a : E)
  | ite (c : T) (a b : E)
  | idx (a i : E)
  | sl (a : E) (lo hi : P)
  | rev (a : E)
  | call (f : Nat) (es : Es)
  | bi (b : Bi) (es : Es)
  | bm (m : Bm) (o : E) (es : Es)
  | isi (a : E) (t : Ty)
  | lrg (a : E)
  | dnk | dnt
  | disp (ks : List Str) (es : Es)
  | get1 (d k : E) | get2 (d k x : E)
  | sm (m : Sm) (a : E)
  | strip1 (a b : E)
  | pop0 (o : E)
  | popk (d k : E)
  | setdef (d k x : E)
  | maxd (e d : E)
  | slst (a lo st : E)
  | lc (elt : E) (tg : Tg) (it : I) (c : T) (own : List (Str × Nat))
inductive Es where
  | nil | cons (e : E) (es : Es)
/-- a slice's part -/
inductive P where
  | no | e (e : E)
/-- a test -/
inductive T where
  | yes
  | v (e : E)
  | cmp (op : Cm) (a b : E)
  | chain (op op' : Cm) (a b c : E)
  | not (t : T)
  | and (a b : T) | or (a b : T) | one (a : T)
/-- what is walked -/
inductive I where
  | seq (e : E)
  | rng1 (a : E)
  | rng2 (a b : E)
  | rng3 (a b c : E)
  | items (a : E)
  | enum (a : E)
  | zip (a b : E)
end

/-- what an except suite may say -/
inductive SE where
  | non | bl (b : Bool) | int (i : Int) | str (x : Str)
structure Su where
  sets : List (Nat × SE)
  ret : Option SE
mutual
inductive C where
  | pass | brk | cnt | dead
  | set (i : Nat) (e : E)
  | asg (tg : Tg) (e : E)
  | aug (i : Nat) (op : Op2) (e : E)
  | seti (o i e : E)
  | augi (o i : E) (op : Op2) (e : E)
  | rais (c : Nat) (msg : Str)
  | tryc (b : Cs) (hs : List (Nat × Su))
  | ex (e : E)
  | ret (e : E) | retn
  | ife (c : T) (a b : Cs)
  | whl (c : T) (b : Cs)
  | for_ (tg : Tg) (it : I) (b : Cs)
inductive Cs where
  | nil | cons (c : C) (cs : Cs)
end

/-! ### values -/
mutual
def pd : D → Option PyData
  | .non => some .none
  | .bl b => some (.bool b)
  | .int i => some (.int i)
  | .str x => some (.str x)
  | .tup ds => (pds ds).map .tuple
  | .fz ds => (pds ds).map .list
  | .ref _ => none
def pds : List D → Option (List PyData)
  | [] => some []
  | d :: ds => match pd d, pds ds with
    | some p, some ps => some (p :: ps)
    | _, _ => none
end
def mapO (f : D → Option PyData) : List D → Option (List PyData)
  | [] => some []
  | d :: ds => match f d, mapO f ds with
    | some p, some ps => some (p :: ps)
    | _, _ => none
/-- as data, lists read off the store -/
def toP (S : Sto) : Nat → D → Option PyData
  | _, .non => some .none
  | _, .bl b => some (.bool b)
  | _, .int i => some (.int i)
  | _, .str x => some (.str x)
  | n + 1, .tup ds => (mapO (toP S n) ds).map .tuple
  | n + 1, .fz ds => (mapO (toP S n) ds).map .list
  | n + 1, .ref k => match S[k]? with
    | some (.lst ds) => (mapO (toP S n) ds).map .list
    | _ => none
  | 0, _ => none

def eqD (x y : D) (S : Sto) : Option Bool :=
  match toP S 150 x, toP S 150 y with
  | some a, some b => some (PyData.eqv a b)
  | _, _ => none
/-! ### keys -/
def keyD : D → Option L2.Key
  | .int i => some (.inl i)
  | .str x => some (.inr x)
  | _ => none
def keysD : List D → Option (List L2.Key)
  | [] => some []
  | d :: ds => match keyD d, keysD ds with
    | some k, some ks => some (k :: ks)
    | _, _ => none
/-- as the key of a dict, of any depth -/
def nkF (f : D → Option NestedKey) : List D → Option (List NestedKey)
  | [] => some []
  | d :: ds => match f d, nkF f ds with
    | some k, some ks => some (k :: ks)
    | _, _ => none
def nkD : Nat → D → Option NestedKey
  | _, .non => some .none
  | _, .bl b => some (.num (if b then 1 else 0))
  | _, .int i => some (.num i)
  | _, .str x => some (.text x)
  | n + 1, .tup ds => (nkF (nkD n) ds).map .tup
  | _, _ => none
def tkD : D → Option NestedKey
  | .tup ds => nkD 8 (.tup ds)
  | _ => none
def lkN (kvs : List (NestedKey × D × D)) (k : NestedKey) : Option D := (kvs.find? fun kv => decide (kv.1 = k)).map (·.2.2)
def putN (kvs : List (NestedKey × D × D)) (k : NestedKey) (kd v : D) : List (NestedKey × D × D) :=
  if (kvs.any fun kv => decide (kv.1 = k)) = true then kvs.map (fun kv => if kv.1 = k then (kv.1, kv.2.1, v) else kv) else kvs ++ [(k, kd, v)]
/-- what is locked, read -/
def O.core : O → O
  | .lk o => o
  | o => o
section
variable {κ : Type} [DecidableEq κ]
def lkD (kvs : List (κ × D)) (k : κ) : Option D := (kvs.find? fun kv => decide (kv.1 = k)).map (·.2)
def putD (kvs : List (κ × D)) (k : κ) (v : D) : List (κ × D) :=
  if (kvs.any fun kv => decide (kv.1 = k)) = true then kvs.map (fun kv => if kv.1 = k then (kv.1, v) else kv) else kvs ++ [(k, v)]
end
/-- what a dict has at a key; the outer none: no dict, or no key of its kind -/
def dgetD (S : Sto) (n : Nat) (k : D) : Option (Option D) := match (S[n]?).map O.core with
  | some (.dic kvs) => (keyD k).map (lkD kvs)
  | some (.din kvs) => (tkD k).map (lkN kvs)
  | _ => none
def dputD (S : Sto) (n : Nat) (k v : D) : Option Sto := match S[n]? with
  | some (.dic kvs) => match keyD k with
    | some k => if kvs.length < sizeLine then some (S.set n (.dic (putD kvs k v))) else none
    | none => none
  | some (.din kvs) => match tkD k with
    | some nk => if kvs.length < sizeLine then some (S.set n (.din (putN kvs nk k v))) else none
    | none => none
  | _ => none
/-- without a key -/
def dropD (S : Sto) (n : Nat) (k : D) : Option (D × Sto) := match S[n]? with
  | some (.dic kvs) => match keyD k with
    | some kk => match lkD kvs kk with
      | some v => some (v, S.set n (.dic (kvs.filter fun kv => decide (kv.1 ≠ kk))))
      | none => none
    | none => none
  | _ => none
def kD : L2.Key → D
  | .inl i => .int i
  | .inr x => .str x
/-- the keys of a dict, its pairs -/
def keysOf : O → Option (List D)
  | .dic kvs => some (kvs.map fun kv => kD kv.1)
  | _ => none
def pairsOf : O → Option (List D)
  | .dic kvs => some (kvs.map fun kv => .tup [kD kv.1, kv.2])
  | _ => none
def itemsOf (S : Sto) : D → Option (List D)
  | .tup ds => some ds
  | .fz ds => some ds
  | .ref n => match S[n]? with
    | some (.lst ds) => some ds
    | _ => none
  | _ => none
def inD (x y : D) (S : Sto) : Option Bool :=
  match x, y with
  | .str i, .str j => match i.cps.toList with
    | [c] => some (decide (c ∈ j.cps.toList))
    | _ => none
  | x, .ref n => match S[n]? with
    | some (.lst ds) => match toP S 150 x, mapO (toP S 149) ds with
      | some a, some bs => some (bs.any fun b => PyData.eqv b a)
      | _, _ => none
    | _ => (dgetD S n x).map Option.isSome
  | _, _ => match toP S 150 x, toP S 150 y with
    | some a, some (.tuple bs) => some (bs.any fun b => PyData.eqv b a)
    | some a, some (.list bs) => some (bs.any fun b => PyData.eqv b a)
    | _, _ => none
def copB (op : Cm) (x y : D) (S : Sto) : Option Bool :=
  match op with
  | .eq => eqD x y S
  | .ne => (eqD x y S).map (!·)
  | .lt => match x, y with | .int i, .int j => some (decide (i < j)) | _, _ => none
  | .le => match x, y with | .int i, .int j => some (decide (i ≤ j)) | _, _ => none
  | .gt => match x, y with | .int i, .int j => some (decide (j < i)) | _, _ => none
  | .ge => match x, y with | .int i, .int j => some (decide (j ≤ i)) | _, _ => none
  | .is => match y with | .non => some (match x with | .non => true | _ => false) | .bl c => (match x with | .bl b => some (b == c) | _ => none) | _ => none
  | .isnot => match y with | .non => some (match x with | .non => false | _ => true) | .bl c => (match x with | .bl b => some (!(b == c)) | _ => none) | _ => none
  | .inn => inD x y S
  | .notin => (inD x y S).map (!·)
def lift (o : Option Bool) (S : Sto) : Out D := match o with
  | some b => ok (.bl b) S
  | none => none
def cop (op : Cm) (x y : D) (S : Sto) : Out D := lift (copB op x y S) S
def cutL {α : Type} (xs : List α) (lo hi : Option Int) : List α := (xs.drop (HT.sIx xs.length 0 lo)).take (HT.sIx xs.length xs.length hi - HT.sIx xs.length 0 lo)
def bop (op : Op2) (x y : D) (S : Sto) : Out D :=
  match op, x, y with
  | .add, .int i, .int j => ok (.int (i + j)) S
  | .sub, .int i, .int j => ok (.int (i - j)) S
  | .mul, .int i, .int j => if (-(2 ^ 64) < i ∧ i < 2 ^ 64) ∨ (-(2 ^ 64) < j ∧ j < 2 ^ 64) ∨ i.natAbs.log2 + j.natAbs.log2 < 1000000 then ok (.int (i * j)) S else none
  | .fdiv, .int i, .int j => if 0 < j ∧ j < 1073741824 then ok (.int (i / j)) S else none
  | .mod, .int i, .int j => if 0 < j then ok (.int (i % j)) S else none
  | .pow, .int i, .int j => if 0 ≤ j ∧ j ≤ 1000000 ∧ i.natAbs < 2 ^ 64 then ok (.int (i ^ j.toNat)) S else none
  | .add, .str a, .str b => if a.length + b.length ≤ sizeLine then ok (.str (a ++ b)) S else none
  | .add, .tup a, .tup b => if a.length + b.length ≤ sizeLine then ok (.tup (a ++ b)) S else none
  | .add, .ref a, .ref b => match S[a]?, S[b]? with
    | some (.lst xs), some (.lst ys) => if xs.length + ys.length ≤ sizeLine then ok (.ref S.length) (S ++ [.lst (xs ++ ys)]) else none
    | _, _ => none
  | .mul, .tup a, .int k => if a ≠ [] ∧ 2 ≤ k ∧ k ≤ 1000 ∧ a.length ≤ 1000 then ok (.tup (List.replicate k.toNat a).flatten) S else none
  | .mul, .str a, .int k => if 0 ≤ k ∧ k ≤ 1000 ∧ a.length ≤ 1000 then ok (.str ⟨(List.replicate k.toNat a.cps.toList).flatten.toArray⟩) S else none
  | .mul, .ref a, .int k => match S[a]? with
    | some (.lst xs) => if 0 ≤ k ∧ k ≤ 1000000 ∧ xs.length * k.toNat ≤ sizeLine then ok (.ref S.length) (S ++ [.lst (List.replicate k.toNat xs).flatten]) else none
    | _ => none
  | _, _, _ => none
def augD (op : Op2) (x y : D) (S : Sto) : Out D :=
  match op, x, y with
  | .add, .int i, .int j => ok (.int (i + j)) S
  | .sub, .int i, .int j => ok (.int (i - j)) S
  | _, _, _ => none
def tru (x : D) (S : Sto) : Option Bool :=
  match x with
  | .non => some false
  | .bl b => some b
  | .int i => some (i != 0)
  | .str z => if z.length ≤ sizeLine then some ((z.length : Int) != 0) else none
  | .tup ds => some (!ds.isEmpty)
  | .fz ds => some (!ds.isEmpty)
  | .ref n => match S[n]? with
    | some (.lst ds) => some (!ds.isEmpty)
    | _ => none
def liftB (o : Option Bool) (S : Sto) : Out Bool := match o with
  | some b => ok b S
  | none => none
def idxD (x i : D) (S : Sto) : Out D :=
  match x, i with
  | .str z, .int i => if z.length ≤ sizeLine then (match L2.atI z.cps.toList i with | some c => ok (.str ⟨#[c]⟩) S | none => none) else none
  | .tup ds, .int i => (match L2.atI ds i with | some d => ok d S | none => none)
  | .fz ds, .int i => (match L2.atI ds i with | some d => ok d S | none => none)
  | .ref n, .int i => match S[n]? with
    | some (.lst ds) => (match L2.atI ds i with | some d => ok d S | none => none)
    | _ => none
  | .ref n, i => (match dgetD S n i with | some (some d) => ok d S | _ => none)
  | _, _ => none
/-- o[i] of an object of the store -/
def idxRf (x i : D) (S : Sto) : Out D := match x with
  | .ref n => match S[n]? with
    | some (.lst ds) => (match i with
      | .int k => (match L2.atI ds k with | some d => ok d S | none => none)
      | _ => none)
    | _ => (match dgetD S n i with | some (some d) => ok d S | _ => none)
  | _ => none
def slD (x : D) (lo hi : Option Int) (S : Sto) : Out D :=
  match x with
  | .str z => if z.length ≤ sizeLine then ok (.str (L2.cutS z lo hi)) S else none
  | .tup ds => ok (.tup (cutL ds lo hi)) S
  | x => match itemsOf S x with
    | some ds => ok (.ref S.length) (S ++ [.lst (cutL ds lo hi)])
    | none => none
def revD (x : D) (S : Sto) : Out D :=
  match x with
  | .tup ds => ok (.tup ds.reverse) S
  | x => match itemsOf S x with
    | some ds => ok (.ref S.length) (S ++ [.lst ds.reverse])
    | none => none
def dicLen (S : Sto) : D → Option Nat
  | .ref n => match (S[n]?).map O.core with
    | some (.dic kvs) => some kvs.length
    | some (.din kvs) => some kvs.length
    | _ => none
  | _ => none
def lenD (x : D) (S : Sto) : Out D :=
  match x with
  | .str z => if z.length ≤ sizeLine then ok (.int z.length) S else none
  | x => match itemsOf S x with
    | some ds => ok (.int ds.length) S
    | none => match dicLen S x with
      | some n => ok (.int n) S
      | none => none
/-- a dict's keys -/
def dKeys (S : Sto) : D → Option (List D)
  | .ref n => match (S[n]?).map O.core with
    | some (.dic kvs) => some (kvs.map fun kv => kD kv.1)
    | _ => none
  | _ => none
/-- a list's items -/
def listOf (S : Sto) : D → Option (List D)
  | .fz ds => some ds
  | .ref n => match S[n]? with
    | some (.lst ds) => some ds
    | _ => none
  | _ => none
def intsD : List D → Option (List Int)
  | [] => some []
  | d :: ds => match d, intsD ds with
    | .int i, some ns => some (i :: ns)
    | _, _ => none
def boolsD : List D → Option (List Bool)
  | [] => some []
  | d :: ds => match d, boolsD ds with
    | .bl b, some bs => some (b :: bs)
    | _, _ => none
def biD (b : Bi) (ds : List D) (S : Sto) : Out D :=
  match b, ds with
  | .len, [x] => lenD x S
  | .tuple, [.tup ds] => ok (.tup ds) S
  | .tuple, [x] => match itemsOf S x with
    | some ds => ok (.tup ds) S
    | none => none
  | .list, [x] => match itemsOf S x with
    | some ds => ok (.ref S.length) (S ++ [.lst ds])
    | none => match dKeys S x with
      | some ds => ok (.ref S.length) (S ++ [.lst ds])
      | none => none
  | .sum, [x] => match (listOf S x).bind intsD with
    | some ns => ok (.int ns.sum) S
    | none => none
  | .max, [.int i, .int j] => ok (.int (if j > i then j else i)) S
  | .min, [.int i, .int j] => ok (.int (if j < i then j else i)) S
  | .max, [x] => match (listOf S x).bind intsD with
    | some ns => match ns.max? with
      | some m => ok (.int m) S
      | none => none
    | none => none
  | .any, [x] => match (listOf S x).bind boolsD with
    | some bs => ok (.bl (bs.any id)) S
    | none => none
  | .all, [x] => match (listOf S x).bind boolsD with
    | some bs => ok (.bl (bs.all id)) S
    | none => none
  | .int, [.int i] => ok (.int i) S
  | .int, [.bl b] => ok (.int (if b then 1 else 0)) S
  | .str, [.int i] => if i.natAbs.log2 < 1920 then ok (.str (toString i)) S else none
  | _, _ => none
def bmD (m : Bm) (o : D) (ds : List D) (S : Sto) : Out D :=
  match m, o, ds with
  | .append, .ref n, [x] => match S[n]? with
    | some (.lst xs) => if xs.length < sizeLine then ok .non (S.set n (.lst (xs ++ [x]))) else none
    | _ => none
  | .insert, .ref n, [.int i, x] => match S[n]? with
    | some (.lst xs) => if xs.length < sizeLine ∧ 0 ≤ i ∧ i < 2 ^ 63 then ok .non (S.set n (.lst (xs.take i.toNat ++ x :: xs.drop i.toNat))) else none
    | _ => none
  | .extend, .ref n, [.ref m] => match S[n]?, S[m]? with
    | some (.lst xs), some (.lst ys) => if xs.length + ys.length ≤ sizeLine then ok .non (S.set n (.lst (xs ++ ys))) else none
    | _, _ => none
  | _, _, _ => none
def popD (x : D) (S : Sto) : Out D := match x with
  | .ref n => match S[n]? with
    | some (.lst xs) => match xs[xs.length - 1]? with
      | some y => ok y (S.set n (.lst xs.dropLast))
      | none => none
    | _ => none
  | _ => none
/-- every st-th item from lo on -/
def pickL {α : Type} (xs : List α) (lo st : Int) : List α :=
  (sliceRange (sliceBounds (some lo) none (some st) xs.length).1 (sliceBounds (some lo) none (some st) xs.length).2.1 (sliceBounds (some lo) none (some st) xs.length).2.2).filterMap (xs[·]?)
def sstD (x : D) (lo st : Int) (S : Sto) : Out D := match x with
  | .tup _ => none
  | x => match itemsOf S x with
    | some ds => if st ≠ 0 ∧ (pickL ds lo st).length ≤ sizeLine then ok (.ref S.length) (S ++ [.lst (pickL ds lo st)]) else none
    | none => none
def smD (m : Sm) (x : D) (S : Sto) : Out D := match m, x with
  | .lower, .str z => if z.length ≤ 5592405 then ok (.str (Txt.lower z)) S else none
  | .upper, .str z => if z.length ≤ 5592405 then ok (.str (Txt.upper z)) S else none
  | _, _ => none
def stripD (x y : D) (S : Sto) : Out D := match x, y with
  | .str a, .str b => if a.length ≤ sizeLine then ok (.str (Txt.stripChars a b)) S else none
  | _, _ => none
def disD (ks : List Str) (ds : List D) : List (L2.Key × D) := (ks.zip ds).foldl (fun acc kv => putD acc (.inr kv.1) kv.2) []
def bmTy (m : Bm) (x : D) (S : Sto) : Bool :=
  match m with
  | _ => match x with
    | .ref n => match S[n]? with
      | some (.lst _) => true
      | _ => false
    | _ => false
inductive Kd where | non | bool | int | str | tuple | list
def kdOf (x : D) (S : Sto) : Option Kd :=
  match x with
  | .non => some .non
  | .bl _ => some .bool
  | .int _ => some .int
  | .str _ => some .str
  | .tup _ => some .tuple
  | .fz _ => some .list
  | .ref n => match S[n]? with
    | some (.lst _) => some .list
    | _ => none
def isKd : Ty → Kd → Bool
  | .int, .int => true | .int, .bool => true | .bool, .bool => true | .str, .str => true | .tuple, .tuple => true | .list, .list => true
  | _, _ => false
def isiD (t : Ty) (x : D) (S : Sto) : Option Bool := (kdOf x S).map (isKd t)

/-! ### walks -/
/-- how a list that may change is walked: its items, its items with their places, beside a tuple's -/
inductive Dm where
  | plain | enum | zip (fs : List D) (len : Nat)
  /-- beside a list of the store -/
  | zip2 (n : Nat)
def dynAt (m : Dm) (S : Sto) (ds : List D) (i : Nat) : Option (Option D) := match m with
  | .zip2 n => match S[n]? with
    | some (.lst es) => some (match ds[i]?, es[i]? with | some a, some b => some (.tup [a, b]) | _, _ => none)
    | _ => none
  | .plain => some ds[i]?
  | .enum => some (ds[i]?.map fun d => .tup [.int i, d])
  | .zip fs len => if ds.length = len then some (match fs[i]?, ds[i]? with | some a, some b => some (.tup [a, b]) | _, _ => none) else none
inductive It where
  | fix (ds : List D)
  | dyn (n : Nat) (m : Dm)
  | lkd (n : Nat) (ds : List D)
/-- a step: on with a, or the end with b -/
def foldF {α β : Type} (f : D → α → Sto → Out (α ⊕ β)) : List D → α → Sto → Out (α ⊕ β)
  | [], a, S => ok (.inl a) S
  | d :: ds, a, S => bd (f d a S) fun r S1 => match r with
    | .inl a' => foldF f ds a' S1
    | .inr b => ok (.inr b) S1
def foldR {α β : Type} (f : D → α → Sto → Out (α ⊕ β)) (n : Nat) (w : Dm) (i : Nat) (a : α) (S : Sto) : Out (α ⊕ β) :=
  match S[n]? with
  | some (.lst ds) =>
    match dynAt w S ds i with
    | none => none
    | some none => some (.ok (.inl a) S)
    | some (some d) => match f d a S with
      | none => none
      | some (.ex c xs S1) => some (.ex c xs S1)
      | some (.ok (.inr b) S1) => some (.ok (.inr b) S1)
      | some (.ok (.inl a') S1) => foldR f n w (i + 1) a' S1
  | _ => none
partial_fixpoint
def foldI {α β : Type} (f : D → α → Sto → Out (α ⊕ β)) (it : It) (a : α) (S : Sto) : Out (α ⊕ β) :=
  match it with
  | .fix ds => foldF f ds a S
  | .dyn n w => foldR f n w 0 a S
  | .lkd _ ds => foldF f ds a S
/-- a dict is locked while it is walked -/
def lockI (n : Nat) (ds : List D) (S : Sto) : Out It := match S[n]? with
  | some (.lk _) => ok (.fix ds) S
  | some _ => ok (.lkd n ds) S
  | none => none
def lkI (it : It) (S : Sto) : Sto := match it with
  | .lkd n _ => match S[n]? with
    | some o => S.set n (.lk o)
    | none => S
  | _ => S
def unl (it : It) (S : Sto) : Sto := match it with
  | .lkd n _ => match S[n]? with
    | some (.lk o) => S.set n o
    | _ => S
  | _ => S
def setMany : List Nat → List D → Rho → Option Rho
  | [], [], ρ => some ρ
  | i :: is, d :: ds, ρ => setMany is ds (ρ.set i (some d))
  | _, _, _ => none
def bindT (tg : Tg) (d : D) (ρ : Rho) : Option Rho :=
  match tg with
  | .nm i => some (ρ.set i (some d))
  | .tp is => match d with
    | .tup ds => setMany is ds ρ
    | _ => none
def wipeR (ρ : Rho) : List Nat → Rho
  | [] => ρ
  | v :: vs => (wipeR ρ vs).set v none
inductive Fl where
  | nx (ρ : Rho) | brk (ρ : Rho) | cnt (ρ : Rho) | ret (d : D) | rz (ρ : Rho) (c : Nat) (xs : List (Str × D))
/-- in a statement: what an expression raises goes on with the slots as they are -/
def bx {α : Type} (m : Out α) (ρ : Rho) (f : α → Sto → Out Fl) : Out Fl :=
  match m with
  | none => none
  | some (.ok a S) => f a S
  | some (.ex c xs S) => ok (.rz ρ c xs) S
/-- where nothing may be raised -/
def nox {α : Type} (m : Out α) : Out α :=
  match m with
  | some (.ex _ _ _) => none
  | o => o
def whileL (c : Rho → Sto → Out Bool) (b : Rho → Sto → Out Fl) (ρ : Rho) (S : Sto) : Out Fl :=
  match c ρ S with
  | none => none
  | some (.ex x xs S1) => some (.ok (.rz ρ x xs) S1)
  | some (.ok false S1) => some (.ok (.nx ρ) S1)
  | some (.ok true S1) => match b ρ S1 with
    | none => none
    | some (.ex x xs S2) => some (.ex x xs S2)
    | some (.ok (.nx ρ') S2) => whileL c b ρ' S2
    | some (.ok (.cnt ρ') S2) => whileL c b ρ' S2
    | some (.ok (.brk ρ') S2) => some (.ok (.nx ρ') S2)
    | some (.ok (.ret d) S2) => some (.ok (.ret d) S2)
    | some (.ok (.rz ρ' x xs) S2) => some (.ok (.rz ρ' x xs) S2)
partial_fixpoint
/-- a for's turn, by what the body does -/
def forStep (tg : Tg) (b : Rho → Sto → Out Fl) (d : D) (ρ : Rho) (S : Sto) : Out (Rho ⊕ Fl) :=
  match bindT tg d ρ with
  | none => none
  | some ρ1 => bd (b ρ1 S) fun f S1 => match f with
    | .nx ρ2 => ok (.inl ρ2) S1
    | .cnt ρ2 => ok (.inl ρ2) S1
    | .brk ρ2 => ok (.inr (.nx ρ2)) S1
    | .ret d => ok (.inr (.ret d)) S1
    | .rz ρ2 x xs => ok (.inr (.rz ρ2 x xs)) S1
def forEnd (it : It) (r : Rho ⊕ Fl) (S : Sto) : Out Fl := match r with
  | .inl ρ => ok (.nx ρ) (unl it S)
  | .inr (.rz ρ x xs) => match it with
    | .lkd _ _ => none
    | _ => ok (.rz ρ x xs) S
  | .inr f => ok f (unl it S)

def enumL (k : Nat) : List D → List D
  | [] => []
  | d :: ds => .tup [.int k, d] :: enumL (k + 1) ds
def isDic (S : Sto) (n : Nat) : Bool := match (S[n]?).map O.core with
  | some (.dic _) => true
  | some (.din _) => true
  | _ => false
structure Orc where
  call : Nat → List D → Sto → Out D
  /-- is an exception of the one class caught by the other -/
  sub : Nat → Nat → Bool
def seD : SE → D
  | .non => .non
  | .bl b => .bl b
  | .int i => .int i
  | .str x => .str x
def suSets : List (Nat × SE) → Rho → Rho
  | [], ρ => ρ
  | (i, e) :: r, ρ => suSets r (ρ.set i (some (seD e)))
def suRun (s : Su) (ρ : Rho) (S : Sto) : Out Fl := match s.ret with
  | none => ok (.nx (suSets s.sets ρ)) S
  | some e => ok (.ret (seD e)) S
def caught (F : Orc) (hs : List (Nat × Su)) (ρ : Rho) (c : Nat) (xs : List (Str × D)) (S : Sto) : Out Fl := match hs with
  | [] => ok (.rz ρ c xs) S
  | (h, s) :: r => if F.sub c h = true then suRun s ρ S else caught F r ρ c xs S

mutual
def evE (F : Orc) : E → Rho → Sto → Out D
  | .var i, ρ, S => match ρ[i]? with
    | some (some d) => ok d S
    | _ => none
  | .non, _, S => ok .non S
  | .bl b, _, S => ok (.bl b) S
  | .int i, _, S => ok (.int i) S
  | .str x, _, S => ok (.str x) S
  | .gc _ d, _, S => ok d S
  | .tup es, ρ, S => bd (evEs F es ρ S) fun ds S1 => ok (.tup ds) S1
  | .lst es, ρ, S => bd (evEs F es ρ S) fun ds S1 => ok (.ref S1.length) (S1 ++ [.lst ds])
  | .bin op a b, ρ, S => bd (evE F a ρ S) fun x S1 => bd (evE F b ρ S1) fun y S2 => bop op x y S2
  | .neg a, ρ, S => bd (evE F a ρ S) fun x S1 => match x with
    | .int i => ok (.int (-i)) S1
    | _ => none
  | .cmp op a b, ρ, S => bd (evE F a ρ S) fun x S1 => bd (evE F b ρ S1) fun y S2 => cop op x y S2
  | .chain op op' a b c, ρ, S => bd (evE F a ρ S) fun x S1 => bd (evE F b ρ S1) fun y S2 => match copB op x y S2 with
    | some true => bd (evE F c ρ S2) fun z S3 => cop op' y z S3
    | some false => ok (.bl false) S2
    | none => none
  | .and a b, ρ, S => bd (evE F a ρ S) fun x S1 => match x with
    | .bl true => evE F b ρ S1
    | .bl false => ok (.bl false) S1
    | _ => none
  | .or a b, ρ, S => bd (evE F a ρ S) fun x S1 => match x with
    | .bl true => ok (.bl true) S1
    | .bl false => evE F b ρ S1
    | _ => none
  | .one a, ρ, S => evE F a ρ S
  | .not a, ρ, S => bd (evE F a ρ S) fun x S1 => match x with
    | .bl b => ok (.bl (!b)) S1
    | _ => none
  | .ite c a b, ρ, S => bd (evT F c ρ S) fun t S1 => match t with
    | true => evE F a ρ S1
    | false => evE F b ρ S1
  | .idx a i, ρ, S => bd (evE F a ρ S) fun x S1 => bd (evE F i ρ S1) fun y S2 => idxD x y S2
  | .sl a lo hi, ρ, S => bd (evE F a ρ S) fun x S1 => bd (evP F lo ρ S1) fun l S2 => bd (evP F hi ρ S2) fun h S3 => slD x l h S3
  | .rev a, ρ, S => bd (evE F a ρ S) fun x S1 => revD x S1
  | .call f es, ρ, S => bd (evEs F es ρ S) fun ds S1 => F.call f ds S1
  | .bi b es, ρ, S => bd (evEs F es ρ S) fun ds S1 => biD b ds S1
  | .bm m o es, ρ, S => bd (evE F o ρ S) fun x S1 => match bmTy m x S1 with
    | true => bd (evEs F es ρ S1) fun ds S2 => bmD m x ds S2
    | false => none
  | .isi a t, ρ, S => bd (evE F a ρ S) fun x S1 => lift (isiD t x S1) S1
  | .lrg a, ρ, S => bd (evE F a ρ S) fun x S1 => match x with
    | .int j => if -(2 ^ 62) ≤ j ∧ j < 2 ^ 62 ∧ j.toNat ≤ 2 ^ 24 then ok (.ref S1.length) (S1 ++ [.lst ((List.range j.toNat).map fun (k : Nat) => .int k)]) else none
    | _ => none
  | .dnk, _, S => ok (.ref S.length) (S ++ [.dic []])
  | .dnt, _, S => ok (.ref S.length) (S ++ [.din []])
  | .disp ks es, ρ, S => bd (evEs F es ρ S) fun ds S1 => if ds.length = ks.length then ok (.ref S1.length) (S1 ++ [.dic (disD ks ds)]) else none
  | .get1 d k, ρ, S => bd (evE F d ρ S) fun x S1 => match x with
    | .ref n => match isDic S1 n with
      | true => bd (evE F k ρ S1) fun y S2 => match dgetD S2 n y with
        | some (some v) => ok v S2
        | some none => ok .non S2
        | none => none
      | false => none
    | _ => none
  | .get2 d k e, ρ, S => bd (evE F d ρ S) fun x S1 => match x with
    | .ref n => match isDic S1 n with
      | true => bd (evE F k ρ S1) fun y S2 => bd (evE F e ρ S2) fun z S3 => match dgetD S3 n y with
        | some (some v) => ok v S3
        | some none => ok z S3
        | none => none
      | false => none
    | _ => none
  | .sm m a, ρ, S => bd (evE F a ρ S) fun x S1 => smD m x S1
  | .strip1 a b, ρ, S => bd (evE F a ρ S) fun x S1 => match x with
    | .str _ => bd (evE F b ρ S1) fun y S2 => stripD x y S2
    | _ => none
  | .pop0 o, ρ, S => bd (evE F o ρ S) fun x S1 => popD x S1
  | .popk d k, ρ, S => bd (evE F d ρ S) fun x S1 => match x with
    | .ref n => match isDic S1 n with
      | true => bd (evE F k ρ S1) fun y S2 => match dropD S2 n y with
        | some (v, S3) => ok v S3
        | none => none
      | false => none
    | _ => none
  | .setdef d k e, ρ, S => bd (evE F d ρ S) fun x S1 => match x with
    | .ref n => match isDic S1 n with
      | true => bd (evE F k ρ S1) fun y S2 => bd (evE F e ρ S2) fun z S3 => match dgetD S3 n y with
        | some (some v) => (match dputD S3 n y v with | some _ => ok v S3 | none => none)
        | some none => (match dputD S3 n y z with | some S4 => ok z S4 | none => none)
        | none => none
      | false => none
    | _ => none
  | .maxd e d, ρ, S => bd (evE F e ρ S) fun x S1 => bd (evE F d ρ S1) fun y S2 => match (listOf S2 x).bind intsD, y with
    | some ns, .int j => ok (.int (ns.max?.getD j)) S2
    | _, _ => none
  | .slst a lo st, ρ, S => bd (evE F a ρ S) fun x S1 => bd (evE F lo ρ S1) fun l S2 => bd (evE F st ρ S2) fun s S3 => match l, s with
    | .int l, .int s => sstD x l s S3
    | _, _ => none
  | .lc elt tg it c own, ρ, S => bd (evI F it ρ S) fun i S1 => match i with
      | .lkd _ _ => none
      | i => bd (nox (foldI (fun d acc S2 => match bindT tg d (wipeR ρ (own.map (·.2))) with
        | none => none
        | some ρ1 => bd (evT F c ρ1 S2) fun t S3 => match t with
          | true => bd (evE F elt ρ1 S3) fun y S4 => if acc.length < sizeLine then ok (.inl (acc ++ [y]) : List D ⊕ Empty) S4 else none
          | false => ok (.inl acc) S3) i [] S1)) fun r S5 => match r with
        | .inl acc => ok (.ref S5.length) (S5 ++ [.lst acc])
        | .inr e => nomatch e
def evEs (F : Orc) : Es → Rho → Sto → Out (List D)
  | .nil, _, S => ok [] S
  | .cons e es, ρ, S => bd (evE F e ρ S) fun d S1 => bd (evEs F es ρ S1) fun ds S2 => ok (d :: ds) S2
def evP (F : Orc) : P → Rho → Sto → Out (Option Int)
  | .no, _, S => ok none S
  | .e e, ρ, S => bd (evE F e ρ S) fun x S1 => match x with
    | .int i => ok (some i) S1
    | _ => none
def evT (F : Orc) : T → Rho → Sto → Out Bool
  | .yes, _, S => ok true S
  | .v e, ρ, S => bd (evE F e ρ S) fun x S1 => liftB (tru x S1) S1
  | .cmp op a b, ρ, S => bd (evE F a ρ S) fun x S1 => bd (evE F b ρ S1) fun y S2 => liftB (copB op x y S2) S2
  | .chain op op' a b c, ρ, S => bd (evE F a ρ S) fun x S1 => bd (evE F b ρ S1) fun y S2 => match copB op x y S2 with
    | some true => bd (evE F c ρ S2) fun z S3 => liftB (copB op' y z S3) S3
    | some false => ok false S2
    | none => none
  | .not t, ρ, S => bd (evT F t ρ S) fun b S1 => ok (!b) S1
  | .and a b, ρ, S => bd (evT F a ρ S) fun t S1 => match t with
    | true => evT F b ρ S1
    | false => ok false S1
  | .or a b, ρ, S => bd (evT F a ρ S) fun t S1 => match t with
    | true => ok true S1
    | false => evT F b ρ S1
  | .one a, ρ, S => evT F a ρ S
def evI (F : Orc) : I → Rho → Sto → Out It
  | .seq e, ρ, S => bd (evE F e ρ S) fun x S1 => match x with
    | .tup ds => ok (.fix ds) S1
    | .fz ds => ok (.fix ds) S1
    | .str z => ok (.fix (z.cps.toList.map fun c => .str ⟨#[c]⟩)) S1
    | .ref n => match S1[n]? with
      | some (.lst _) => ok (.dyn n .plain) S1
      | some o => (match keysOf o.core with | some ds => lockI n ds S1 | none => none)
      | none => none
    | _ => none
  | .rng3 a b c, ρ, S => bd (evE F a ρ S) fun x S1 => bd (evE F b ρ S1) fun y S2 => bd (evE F c ρ S2) fun z S3 => match x, y, z with
    | .int i, .int j, .int c => if c ≠ 0 ∧ c.natAbs < 1073741824 ∧ Builtin.Range.small i j c = true ∧ 0 ≤ Builtin.Range.rangeSize i j c then ok (.fix ((List.range (Builtin.Range.rangeSize i j c).toNat).map fun (k : Nat) => .int (i + k * c))) S3 else none
    | _, _, _ => none
  | .items a, ρ, S => bd (evE F a ρ S) fun x S1 => match x with
    | .ref n => match S1[n]? with
      | some o => (match pairsOf o.core with | some ds => lockI n ds S1 | none => none)
      | none => none
    | _ => none
  | .rng1 a, ρ, S => bd (evE F a ρ S) fun x S1 => match x with
    | .int j => if -(2 ^ 62) ≤ j ∧ j < 2 ^ 62 then ok (.fix ((List.range j.toNat).map fun (k : Nat) => .int k)) S1 else none
    | _ => none
  | .rng2 a b, ρ, S => bd (evE F a ρ S) fun x S1 => bd (evE F b ρ S1) fun y S2 => match x, y with
    | .int i, .int j => if -(2 ^ 62) ≤ i ∧ i < 2 ^ 62 ∧ -(2 ^ 62) ≤ j ∧ j < 2 ^ 62 then ok (.fix ((List.range (j - i).toNat).map fun (k : Nat) => .int (i + k))) S2 else none
    | _, _ => none
  | .enum a, ρ, S => bd (evE F a ρ S) fun x S1 => match x with
    | .tup ds => ok (.fix (enumL 0 ds)) S1
    | .ref n => match S1[n]? with
      | some (.lst _) => ok (.dyn n .enum) S1
      | _ => none
    | _ => none
  | .zip a b, ρ, S => bd (evE F a ρ S) fun x S1 => bd (evE F b ρ S1) fun y S2 => match x, y with
    | .tup ds, .ref n => match S2[n]? with
      | some (.lst es) => ok (.dyn n (.zip ds es.length)) S2
      | _ => none
    | .ref m, .ref n => match S2[m]?, S2[n]? with
      | some (.lst _), some (.lst _) => ok (.dyn m (.zip2 n)) S2
      | _, _ => none
    | _, _ => none
end

def setiD (o i v : D) (S : Sto) : Option Sto :=
  match o, i with
  | .ref n, .int k => match S[n]? with
    | some (.lst xs) => match L2.ixN xs.length k with
      | some j => some (S.set n (.lst (xs.set j v)))
      | none => none
    | _ => none
  | .ref n, i => dputD S n i v
  | _, _ => none

mutual
def exC (F : Orc) : C → Rho → Sto → Out Fl
  | .pass, ρ, S => ok (.nx ρ) S
  | .brk, ρ, S => ok (.brk ρ) S
  | .cnt, ρ, S => ok (.cnt ρ) S
  | .dead, _, _ => none
  | .set i e, ρ, S => bx (evE F e ρ S) ρ fun d S1 => ok (.nx (ρ.set i (some d))) S1
  | .asg tg e, ρ, S => bx (evE F e ρ S) ρ fun d S1 => match bindT tg d ρ with
    | some ρ1 => ok (.nx ρ1) S1
    | none => none
  | .aug i op e, ρ, S => match ρ[i]? with
    | some (some x) => bx (evE F e ρ S) ρ fun y S1 => bd (augD op x y S1) fun z S2 => ok (.nx (ρ.set i (some z))) S2
    | _ => none
  | .seti o i e, ρ, S => bx (evE F e ρ S) ρ fun v S1 => bx (evE F o ρ S1) ρ fun x S2 => bx (evE F i ρ S2) ρ fun y S3 => match setiD x y v S3 with
    | some S4 => ok (.nx ρ) S4
    | none => none
  | .augi o i op e, ρ, S => bx (evE F o ρ S) ρ fun x S1 => bx (evE F i ρ S1) ρ fun y S2 => bd (idxRf x y S2) fun a S3 => bx (evE F e ρ S3) ρ fun b S4 => bd (augD op a b S4) fun z S5 => match setiD x y z S5 with
    | some S6 => ok (.nx ρ) S6
    | none => none
  | .rais c _, ρ, S => ok (.rz ρ c []) S
  | .tryc b hs, ρ, S => bd (exCs F b ρ S) fun f S1 => match f with
    | .rz ρ1 c xs => caught F hs ρ1 c xs S1
    | f => ok f S1
  | .ex e, ρ, S => bx (evE F e ρ S) ρ fun _ S1 => ok (.nx ρ) S1
  | .ret e, ρ, S => bx (evE F e ρ S) ρ fun d S1 => ok (.ret d) S1
  | .retn, _, S => ok (.ret .non) S
  | .ife c a b, ρ, S => bx (evT F c ρ S) ρ fun t S1 => match t with
    | true => exCs F a ρ S1
    | false => exCs F b ρ S1
  | .whl c b, ρ, S => whileL (fun ρ S => evT F c ρ S) (fun ρ S => exCs F b ρ S) ρ S
  | .for_ tg it b, ρ, S => bx (evI F it ρ S) ρ fun i S1 => bd (foldI (forStep tg fun ρ S => exCs F b ρ S) i ρ (lkI i S1)) fun r S2 => forEnd i r S2
def exCs (F : Orc) : Cs → Rho → Sto → Out Fl
  | .nil, ρ, S => ok (.nx ρ) S
  | .cons c cs, ρ, S => bd (exC F c ρ S) fun f S1 => match f with
    | .nx ρ1 => exCs F cs ρ1 S1
    | .brk ρ1 => ok (.brk ρ1) S1
    | .cnt ρ1 => ok (.cnt ρ1) S1
    | .ret d => ok (.ret d) S1
    | .rz ρ1 x xs => ok (.rz ρ1 x xs) S1
end

/-- a def: its parameters, its slots, its body -/
structure Fd where
  np : Nat
  ns : Nat
  body : Cs
def callN (sub : Nat → Nat → Bool) (tbl : List (Nat × Fd)) : Nat → Nat → List D → Sto → Out D
  | 0, _, _, _ => none
  | k + 1, f, ds, S => match tbl.lookup f with
    | none => none
    | some fd => if ds.length = fd.np then
        bd (nox (exCs ⟨callN sub tbl k, sub⟩ fd.body (ds.map some ++ List.replicate (fd.ns - fd.np) none) S)) fun r S1 => match r with
          | .ret d => ok d S1
          | .nx _ => ok .non S1
          | .rz _ c xs => some (.ex c xs S1)
          | _ => none
      else none
end VM
/-! WB: how values and stores lie in the layer's abstract heap; reading of expressions. -/
namespace VM
open PySem PySem.Spec PyProof.Rows L2

/-- what is fixed: the written part, the program, the world, the own classes of exceptions by their numbers -/
structure Kx where
  K : PySem.W.Frag
  P : Program
  w : World
  cl : Nat → Option Addr
instance : Coe Kx PySem.W.Frag := ⟨Kx.K⟩
/-! ### representation -/
/-- a frozen list -/
def Fz (K : Kx) (H : Hp) (js : List Addr) (a : Addr) (xs : List V) : Prop := (∃ o, H a = some (.frz o (.lst xs)) ∧ a ∉ js) ∨
    ∃ (o : Obj) (its : Array Value) (n : Nat), K.K.lookup a = some o ∧ o.cls = .type "list" ∧ o.dict = none ∧ o.data = .seq its n ∧ its.size ≤ sizeLine ∧ Vals xs its.toList
theorem Fz.sq {K : Kx} {H : Hp} {js : List Addr} {a : Addr} {xs : List V} (h : Fz K H js a xs) : SqL K H a xs := by
  rcases h with ⟨o, h, _⟩ | h
  · exact .inl (.inr ⟨o, h⟩)
  · exact .inr h
mutual
inductive RepV (K : Kx) (H : Hp) (js : List Addr) : D → V → Prop where
  | non : RepV K H js .non .non
  | bl (b : Bool) : RepV K H js (.bl b) (.bl b)
  | int (i : Int) : RepV K H js (.int i) (.int i)
  | str (x : Str) : RepV K H js (.str x) (.str x)
  | tup {ds : List D} {a : Addr} {xs : List V} (h : H a = some (.tup xs)) (n : a ∉ js) (r : RepVs K H js ds xs) : RepV K H js (.tup ds) (.ref a)
  | ref {n : Nat} {a : Addr} (h : js[n]? = some a) : RepV K H js (.ref n) (.ref a)
  | fz {ds : List D} {a : Addr} {xs : List V} (h : Fz K H js a xs) (r : RepVs K H js ds xs) : RepV K H js (.fz ds) (.ref a)
inductive RepVs (K : Kx) (H : Hp) (js : List Addr) : List D → List V → Prop where
  | nil : RepVs K H js [] []
  | cons {d : D} {v : V} {ds : List D} {vs : List V} (h : RepV K H js d v) (t : RepVs K H js ds vs) : RepVs K H js (d :: ds) (v :: vs)
end
structure Grow (H : Hp) (js : List Addr) (H' : Hp) (js' : List Addr) : Prop where
  pre : ∃ new, js' = js ++ new ∧ ∀ a ∈ new, a ∉ js ∧ H a = none
  keep : ∀ a o, a ∉ js → H a = some o → H' a = some o
  frz : ∀ a o u, H a = some (.frz o u) → H' a = some (.frz o u)

section
variable {K : Kx} {H H1 H2 : Hp} {js js1 js2 : List Addr}
theorem Grow.refl : Grow H js H js := ⟨⟨[], by simp, by simp⟩, fun _ _ _ h => h, fun _ _ _ h => h⟩
theorem Grow.notin (g : Grow H js H1 js1) {a : Addr} {o : HO} (n : a ∉ js) (h : H a = some o) : a ∉ js1 := by
  obtain ⟨new, rfl, hn⟩ := g.pre
  intro m
  rcases List.mem_append.mp m with m | m
  · exact n m
  · rw [(hn a m).2] at h; cases h
theorem Grow.trans (g : Grow H js H1 js1) (g' : Grow H1 js1 H2 js2) : Grow H js H2 js2 := by
  obtain ⟨new, e, hn⟩ := g.pre
  obtain ⟨new', e', hn'⟩ := g'.pre
  refine ⟨⟨new ++ new', by rw [e', e, List.append_assoc], fun a ha => ?_⟩, fun a o n h => g'.keep a o (g.notin n h) (g.keep a o n h), fun a o u h => g'.frz a o u (g.frz a o u h)⟩
  rcases List.mem_append.mp ha with m | m
  · exact hn a m
  · obtain ⟨n1, z⟩ := hn' a m
    have n0 : a ∉ js := fun q => n1 (by rw [e]; exact List.mem_append_left _ q)
    refine ⟨n0, ?_⟩
    cases q : H a with
    | none => rfl
    | some o =>
      have := g.keep a o n0 q
      rw [z] at this; cases this
theorem Grow.at (g : Grow H js H1 js1) {n : Nat} {a : Addr} (h : js[n]? = some a) : js1[n]? = some a := by
  obtain ⟨new, rfl, _⟩ := g.pre
  rw [List.getElem?_append_left (List.getElem?_eq_some_iff.mp h).1]
  exact h
theorem Fz.mono {a : Addr} {xs : List V} (h : Fz K H js a xs) (g : Grow H js H1 js1) : Fz K H1 js1 a xs := by
  rcases h with ⟨o, h, n⟩ | h
  · exact .inl ⟨o, g.keep _ _ n h, g.notin n h⟩
  · exact .inr h
mutual
theorem RepV.mono (g : Grow H js H1 js1) : ∀ {d : D} {v : V}, RepV K H js d v → RepV K H1 js1 d v
  | _, _, .non => .non
  | _, _, .bl b => .bl b
  | _, _, .int i => .int i
  | _, _, .str x => .str x
  | _, _, .tup h n r => .tup (g.keep _ _ n h) (g.notin n h) (RepVs.mono g r)
  | _, _, .ref h => .ref (g.at h)
  | _, _, .fz h r => .fz (h.mono g) (RepVs.mono g r)
theorem RepVs.mono (g : Grow H js H1 js1) : ∀ {ds : List D} {vs : List V}, RepVs K H js ds vs → RepVs K H1 js1 ds vs
  | _, _, .nil => .nil
  | _, _, .cons h t => .cons (RepV.mono g h) (RepVs.mono g t)
end
theorem RepVs.length : ∀ {ds : List D} {vs : List V}, RepVs K H js ds vs → ds.length = vs.length
  | _, _, .nil => rfl
  | _, _, .cons h t => by rw [List.length_cons, List.length_cons, RepVs.length t]
theorem RepVs.get : ∀ {ds : List D} {vs : List V} {i : Nat} {d : D}, RepVs K H js ds vs → ds[i]? = some d → ∃ v, vs[i]? = some v ∧ RepV K H js d v
  | _, _, _, _, .nil, e => by simp at e
  | _, _, 0, _, .cons h t, e => by simp at e; subst e; exact ⟨_, rfl, h⟩
  | _, _, i + 1, d, .cons h t, e => by
    obtain ⟨v, h1, h2⟩ := RepVs.get (i := i) (d := d) t (by simpa using e)
    exact ⟨v, by simpa using h1, h2⟩
theorem RepVs.append : ∀ {ds es : List D} {vs ws : List V}, RepVs K H js ds vs → RepVs K H js es ws → RepVs K H js (ds ++ es) (vs ++ ws)
  | _, _, _, _, .nil, s => s
  | _, _, _, _, .cons h t, s => .cons h (RepVs.append t s)
theorem RepVs.take : ∀ {ds : List D} {vs : List V} (n : Nat), RepVs K H js ds vs → RepVs K H js (ds.take n) (vs.take n)
  | _, _, 0, _ => .nil
  | _, _, _ + 1, .nil => .nil
  | _, _, n + 1, .cons h t => .cons h (RepVs.take n t)
theorem RepVs.drop : ∀ {ds : List D} {vs : List V} (n : Nat), RepVs K H js ds vs → RepVs K H js (ds.drop n) (vs.drop n)
  | _, _, 0, r => r
  | _, _, _ + 1, .nil => .nil
  | _, _, n + 1, .cons _ t => RepVs.drop n t
theorem RepVs.set {d : D} {v : V} (h : RepV K H js d v) : ∀ {ds : List D} {vs : List V} (i : Nat), RepVs K H js ds vs → RepVs K H js (ds.set i d) (vs.set i v)
  | _, _, _, .nil => .nil
  | _, _, 0, .cons _ t => .cons h t
  | _, _, i + 1, .cons q t => .cons q (RepVs.set h i t)
theorem RepVs.reverse {ds : List D} {vs : List V} (r : RepVs K H js ds vs) : RepVs K H js ds.reverse vs.reverse := by
  induction ds generalizing vs with
  | nil => cases r; exact .nil
  | cons d ds ih =>
    cases r with
    | cons h t => rw [List.reverse_cons, List.reverse_cons]; exact (ih t).append (.cons h .nil)
theorem RepVs.ints {ns : List Int} : RepVs K H js (ns.map D.int) (ns.map V.int) := by
  induction ns with
  | nil => exact .nil
  | cons n ns ih => exact .cons (.int n) ih
theorem RepVs.of_ints : ∀ {ds : List D} {ns : List Int} {vs : List V}, ds = ns.map D.int → RepVs K H js ds vs → vs = ns.map V.int
  | _, [], _, e, r => by subst e; cases r; rfl
  | _, n :: ns, _, e, r => by
    subst e
    cases r with
    | cons h t => cases h; rw [List.map_cons, RepVs.of_ints rfl t]
end

/-- an object of the store -/
def RepK {κ : Type} (K : Kx) (H : Hp) (js : List Addr) (kvs : List (κ × D)) (vs : List (κ × V)) : Prop := kvs.map (·.1) = vs.map (·.1) ∧ RepVs K H js (kvs.map (·.2)) (vs.map (·.2))
/-- the entries of a dict with keys of any depth -/
inductive RepN (K : Kx) (H : Hp) (js : List Addr) : List (NestedKey × D × D) → List (NestedKey × Addr × Value) → Prop where
  | nil : RepN K H js [] []
  | cons {nk : NestedKey} {kd d : D} {b : Addr} {u : Value} {v : V} {kvs : List (NestedKey × D × D)} {xs : List (NestedKey × Addr × Value)} (hk : tkD kd = some nk) (rk : RepV K H js kd (.ref b)) (rv : RelV v u) (r : RepV K H js d v)
      (t : RepN K H js kvs xs) : RepN K H js ((nk, kd, d) :: kvs) ((nk, b, u) :: xs)
def DinO (K : Kx) (a : Addr) (xs : List (NestedKey × Addr × Value)) : HO := .ext fun h => (a == sysModules) = false ∧
  ∃ o es ep, h.get? a = some o ∧ o.ExactDict ∧ o.data = .dict es ep ∧ es.toList = xs.map (entryOfKey (nestedKind K.P K.w)) ∧ (xs.map (·.1)).Nodup
def RepO (K : Kx) (H : Hp) (js : List Addr) (a : Addr) : O → Option HO → Prop
  | .lst ds, some (.lst xs) => RepVs K H js ds xs
  | .dic kvs, some (.dK vs) => RepK K H js kvs vs
  | .din kvs, some (.ext φ) => kvs.length ≤ sizeLine ∧ ∃ xs, HO.ext φ = DinO K a xs ∧ RepN K H js kvs xs
  | .lk (.dic kvs), some (.frz _ (.dK vs)) => RepK K H js kvs vs
  | .lk (.din kvs), some (.frz _ (.ext φ)) => kvs.length ≤ sizeLine ∧ ∃ xs, HO.ext φ = DinO K a xs ∧ RepN K H js kvs xs
  | _, _ => False
structure RelS (K : Kx) (H : Hp) (js : List Addr) (S : Sto) : Prop where
  len : js.length = S.length
  nd : js.Nodup
  obj : ∀ (n : Nat) (a : Addr) (o : O), js[n]? = some a → S[n]? = some o → RepO K H js a o (H a)
/-- the slots -/
structure RepR (K : Kx) (H : Hp) (js : List Addr) (ρ : Rho) (σ : L2.St) : Prop where
  len : ρ.length = σ.length
  at_ : ∀ (i : Nat) (d : D), ρ[i]? = some (some d) → ∃ v, σ[i]? = some (some v) ∧ RepV K H js d v

section
variable {K : Kx} {H H1 H2 : Hp} {js js1 js2 : List Addr} {S S1 : Sto}
theorem RepN.mono {kvs : List (NestedKey × D × D)} {xs : List (NestedKey × Addr × Value)} (r : RepN K H js kvs xs) (g : Grow H js H1 js1) : RepN K H1 js1 kvs xs := by
  induction r with
  | nil => exact .nil
  | cons hk rk rv r t ih => exact .cons hk (rk.mono g) rv (r.mono g) ih
theorem RepN.length {kvs : List (NestedKey × D × D)} {xs : List (NestedKey × Addr × Value)} (r : RepN K H js kvs xs) : kvs.length = xs.length := by
  induction r with
  | nil => rfl
  | cons hk rk rv r t ih => rw [List.length_cons, List.length_cons, ih]
theorem RepO.lst {a : Addr} {ds : List D} {o : Option HO} (h : RepO K H js a (.lst ds) o) : ∃ xs, o = some (.lst xs) ∧ RepVs K H js ds xs := by
  unfold RepO at h
  split at h <;> first
    | (rename_i e; cases e; exact ⟨_, rfl, h⟩)
    | (rename_i e; cases e; done)
    | exact h.elim
theorem RepO.dic {a : Addr} {kvs : List (L2.Key × D)} {o : Option HO} (h : RepO K H js a (.dic kvs) o) : ∃ vs, o = some (.dK vs) ∧ RepK K H js kvs vs := by
  unfold RepO at h
  split at h <;> first
    | (rename_i e; cases e; exact ⟨_, rfl, h⟩)
    | (rename_i e; cases e; done)
    | exact h.elim
theorem RepO.din {a : Addr} {kvs : List (NestedKey × D × D)} {o : Option HO} (h : RepO K H js a (.din kvs) o) : kvs.length ≤ sizeLine ∧ ∃ xs, o = some (DinO K a xs) ∧ RepN K H js kvs xs := by
  unfold RepO at h
  split at h <;> first
    | (rename_i e; cases e; obtain ⟨hl, xs, e, r⟩ := h; exact ⟨hl, xs, by rw [e], r⟩)
    | (rename_i e; cases e; done)
    | exact h.elim
/-- a dict, locked or not -/
theorem RepO.dicR {a : Addr} {q : O} {kvs : List (L2.Key × D)} {o : Option HO} (h : RepO K H js a q o) (e : q.core = .dic kvs) : ∃ vs, (o = some (.dK vs) ∨ ∃ u, o = some (.frz u (.dK vs))) ∧ RepK K H js kvs vs := by
  unfold RepO at h
  split at h <;> first
    | (cases e; exact ⟨_, .inl rfl, h⟩)
    | (cases e; exact ⟨_, .inr ⟨_, rfl⟩, h⟩)
    | (cases e; done)
    | exact h.elim
theorem RepO.dinR {a : Addr} {q : O} {kvs : List (NestedKey × D × D)} {o : Option HO} (h : RepO K H js a q o) (e : q.core = .din kvs) : kvs.length ≤ sizeLine ∧ ∃ xs, (o = some (DinO K a xs) ∨ ∃ u, o = some (.frz u (DinO K a xs))) ∧ RepN K H js kvs xs := by
  unfold RepO at h
  split at h <;> first
    | (cases e; obtain ⟨hl, xs, e, r⟩ := h; exact ⟨hl, xs, .inl (congrArg some e), r⟩)
    | (cases e; obtain ⟨hl, xs, e, r⟩ := h; exact ⟨hl, xs, .inr ⟨_, congrArg (fun z => some (HO.frz _ z)) e⟩, r⟩)
    | (cases e; done)
    | exact h.elim
theorem RepO.held {a : Addr} {o : O} {h : Option HO} (r : RepO K H js a o h) : ∃ u, h = some u ∧ ∀ xs, u ≠ .tup xs := by
  unfold RepO at r
  split at r <;> first
    | exact ⟨_, rfl, fun _ e => nomatch e⟩
    | exact r.elim
/-- what is not locked -/
theorem RepO.nofrz {a : Addr} {o : O} {h : Option HO} (r : RepO K H js a o h) (nl : ∀ q, o ≠ .lk q) : ∃ u, h = some u ∧ Mut (some u) ∧ ∀ b q, u ≠ .frz b q := by
  unfold RepO at r
  split at r <;> first
    | exact ⟨_, rfl, True.intro, fun _ _ e => nomatch e⟩
    | exact (nl _ rfl).elim
    | exact r.elim
theorem RepO.mono {a : Addr} {o : O} {h : Option HO} (r : RepO K H js a o h) (g : Grow H js H1 js1) : RepO K H1 js1 a o h := by
  unfold RepO at r
  split at r
  · exact RepVs.mono g r
  · exact ⟨r.1, RepVs.mono g r.2⟩
  · obtain ⟨hl, xs, e, q⟩ := r
    exact ⟨hl, xs, e, q.mono g⟩
  · exact ⟨r.1, RepVs.mono g r.2⟩
  · obtain ⟨hl, xs, e, q⟩ := r
    exact ⟨hl, xs, e, q.mono g⟩
  · exact r.elim
theorem RelS.at (r : RelS K H js S) {n : Nat} {o : O} (h : S[n]? = some o) : ∃ a, js[n]? = some a ∧ RepO K H js a o (H a) := by
  have hn : n < js.length := by rw [r.len]; exact (List.getElem?_eq_some_iff.mp h).1
  exact ⟨js[n], List.getElem?_eq_getElem hn, r.obj n _ o (List.getElem?_eq_getElem hn) h⟩
theorem RelS.held (r : RelS K H js S) {a : Addr} (h : a ∈ js) : ∃ u, H a = some u ∧ ∀ xs, u ≠ .tup xs := by
  obtain ⟨n, hn, e⟩ := List.getElem_of_mem h
  have hS : n < S.length := by rw [← r.len]; exact hn
  exact (r.obj n a S[n] (by rw [List.getElem?_eq_getElem hn, e]) (List.getElem?_eq_getElem hS)).held
theorem RelS.fresh (r : RelS K H js S) {p : Addr} (h : H p = none) : p ∉ js := fun m => by
  obtain ⟨u, e, _⟩ := r.held m
  rw [h] at e; cases e
theorem RelS.list (r : RelS K H js S) {n : Nat} {ds : List D} (h : S[n]? = some (.lst ds)) : ∃ a xs, js[n]? = some a ∧ H a = some (.lst xs) ∧ RepVs K H js ds xs := by
  obtain ⟨a, e, q⟩ := r.at h
  obtain ⟨xs, e2, q2⟩ := q.lst
  exact ⟨a, xs, e, e2, q2⟩
theorem RelS.dict (r : RelS K H js S) {n : Nat} {kvs : List (L2.Key × D)} (h : S[n]? = some (.dic kvs)) : ∃ a vs, js[n]? = some a ∧ H a = some (.dK vs) ∧ RepK K H js kvs vs := by
  obtain ⟨a, e, q⟩ := r.at h
  obtain ⟨xs, e2, q2⟩ := q.dic
  exact ⟨a, xs, e, e2, q2⟩
/-- a thing laid that the store does not hold -/
theorem Grow.lay (r : RelS K H js S) {p : Addr} {o : HO} (h : H p = none) : Grow H js (upd H p o) js :=
  ⟨⟨[], by simp, by simp⟩, fun a u _ e => by rw [upd_ne (ne_of_none e h)]; exact e, fun a u q e => by rw [upd_ne (ne_of_none e h)]; exact e⟩
theorem RelS.lay (r : RelS K H js S) {p : Addr} {o : HO} (h : H p = none) : RelS K (upd H p o) js S :=
  ⟨r.len, r.nd, fun n a o' e e' => by
    have q := (r.obj n a o' e e')
    obtain ⟨u, eu, _⟩ := q.held
    have na : a ≠ p := ne_of_none eu h
    rw [upd_ne na]
    exact q.mono (Grow.lay r h)⟩
/-- a new object of the store -/
theorem Grow.new (r : RelS K H js S) {p : Addr} {o : HO} (h : H p = none) : Grow H js (upd H p o) (js ++ [p]) :=
  ⟨⟨[p], rfl, fun a m => by
    have e : a = p := by simpa using m
    subst e
    exact ⟨r.fresh h, h⟩⟩, fun a u _ e => by rw [upd_ne (ne_of_none e h)]; exact e, fun a u q e => by rw [upd_ne (ne_of_none e h)]; exact e⟩
theorem RelS.newO (r : RelS K H js S) {p : Addr} {ob : O} {u : HO} (h : H p = none) (q : RepO K H js p ob (some u)) : RelS K (upd H p u) (js ++ [p]) (S ++ [ob]) := by
  have g : Grow H js (upd H p u) (js ++ [p]) := Grow.new r h
  refine ⟨by rw [List.length_append, List.length_append, r.len]; rfl, ?_, fun n a o e e' => ?_⟩
  · refine List.nodup_append.mpr ⟨r.nd, by simp, fun a ha b hb => ?_⟩
    have e : b = p := by simpa using hb
    subst e
    intro e
    subst e
    exact r.fresh h ha
  · by_cases hn : n < js.length
    · rw [List.getElem?_append_left hn] at e
      rw [List.getElem?_append_left (by rw [← r.len]; exact hn)] at e'
      have q' := r.obj n a o e e'
      obtain ⟨u', eu, _⟩ := q'.held
      rw [upd_ne (ne_of_none eu h)]
      exact q'.mono g
    · have hn' : n = js.length := by
        have := (List.getElem?_eq_some_iff.mp e).1
        rw [List.length_append] at this
        simp at this
        omega
      subst hn'
      rw [List.getElem?_append_right (Nat.le_refl _)] at e
      simp at e
      subst e
      rw [r.len, List.getElem?_append_right (Nat.le_refl _)] at e'
      simp at e'
      subst e'
      rw [upd_same]
      exact q.mono g
theorem RelS.new (r : RelS K H js S) {p : Addr} {ds : List D} {xs : List V} (h : H p = none) (q : RepVs K H js ds xs) : RelS K (upd H p (.lst xs)) (js ++ [p]) (S ++ [.lst ds]) := r.newO (ob := .lst ds) h q
/-- an object of the store written -/
theorem Grow.put (r : RelS K H js S) {n : Nat} {a : Addr} {o : HO} {ob : O} (e : js[n]? = some a) (e' : S[n]? = some ob) (nl : ∀ q, ob ≠ .lk q) : Grow H js (upd H a o) js :=
  ⟨⟨[], by simp, by simp⟩, fun b u nb h => by
    have : b ≠ a := fun q => nb (by rw [q]; exact List.mem_of_getElem? e)
    rw [upd_ne this]; exact h, fun b u q h => by
    have : b ≠ a := fun z => by
      subst z
      obtain ⟨u', e1, _, e2⟩ := (r.obj n b ob e e').nofrz nl
      rw [h] at e1
      cases e1
      exact e2 _ _ rfl
    rw [upd_ne this]; exact h⟩
theorem RelS.putO (r : RelS K H js S) {n : Nat} {a : Addr} {ob oo : O} {u : HO} (e : js[n]? = some a) (e' : S[n]? = some oo) (nl : ∀ q, oo ≠ .lk q) (q : RepO K H js a ob (some u)) : RelS K (upd H a u) js (S.set n ob) := by
  have g : Grow H js (upd H a u) js := Grow.put r e e' nl
  refine ⟨by rw [List.length_set]; exact r.len, r.nd, fun m b o e1 e2 => ?_⟩
  by_cases hm : m = n
  · subst hm
    rw [e] at e1; cases e1
    have hl : m < S.length := by rw [← r.len]; exact (List.getElem?_eq_some_iff.mp e).1
    rw [List.getElem?_set_self hl] at e2; cases e2
    rw [upd_same]
    exact q.mono g
  · rw [List.getElem?_set_ne (Ne.symm hm)] at e2
    have q' := r.obj m b o e1 e2
    have nb : b ≠ a := fun z => by
      subst z
      obtain ⟨h1, x1⟩ := List.getElem?_eq_some_iff.mp e
      obtain ⟨h2, x2⟩ := List.getElem?_eq_some_iff.mp e1
      exact hm ((List.getElem_inj r.nd).mp (x2.trans x1.symm))
    rw [upd_ne nb]
    exact q'.mono g
theorem RelS.put (r : RelS K H js S) {n : Nat} {a : Addr} {oo : O} {ds : List D} {xs : List V} (e : js[n]? = some a) (e' : S[n]? = some oo) (nl : ∀ q, oo ≠ .lk q) (q : RepVs K H js ds xs) : RelS K (upd H a (.lst xs)) js (S.set n (.lst ds)) := r.putO (ob := .lst ds) e e' nl q
theorem RepR.mono {ρ : Rho} {σ : L2.St} (r : RepR K H js ρ σ) (g : Grow H js H1 js1) : RepR K H1 js1 ρ σ :=
  ⟨r.len, fun i d e => let ⟨v, h1, h2⟩ := r.at_ i d e; ⟨v, h1, h2.mono g⟩⟩
theorem RepR.set {ρ : Rho} {σ : L2.St} (r : RepR K H js ρ σ) {d : D} {v : V} (h : RepV K H js d v) (i : Nat) : RepR K H js (ρ.set i (some d)) (σ.set i (some v)) := by
  refine ⟨by rw [List.length_set, List.length_set]; exact r.len, fun j e q => ?_⟩
  by_cases hj : j = i
  · subst hj
    have hl : j < ρ.length := by
      have := (List.getElem?_eq_some_iff.mp q).1
      rw [List.length_set] at this; exact this
    rw [List.getElem?_set_self hl] at q
    cases q
    exact ⟨v, List.getElem?_set_self (by rw [← r.len]; exact hl), h⟩
  · rw [List.getElem?_set_ne (Ne.symm hj)] at q
    rw [List.getElem?_set_ne (Ne.symm hj)]
    exact r.at_ j e q
theorem RepR.unset {ρ : Rho} {σ : L2.St} (r : RepR K H js ρ σ) (i : Nat) : RepR K H js (ρ.set i none) (σ.set i none) := by
  refine ⟨by rw [List.length_set, List.length_set]; exact r.len, fun j e q => ?_⟩
  by_cases hj : j = i
  · subst hj
    have hl : j < ρ.length := by
      have := (List.getElem?_eq_some_iff.mp q).1
      rw [List.length_set] at this; exact this
    rw [List.getElem?_set_self hl] at q
    cases q
  · rw [List.getElem?_set_ne (Ne.symm hj)] at q
    rw [List.getElem?_set_ne (Ne.symm hj)]
    exact r.at_ j e q
theorem RepR.wipe {ρ : Rho} {σ : L2.St} (r : RepR K H js ρ σ) : ∀ vs : List Nat, RepR K H js (wipeR ρ vs) (wipe σ vs)
  | [] => r
  | v :: vs => (RepR.wipe r vs).unset v
end

/-! ### exceptions -/
def ExRep (K : Kx) (H : Hp) (js : List Addr) (c : Nat) (xs : List (Str × D)) (cls : Value) (d : Option Addr) : Prop :=
  ∃ C, K.cl c = some C ∧ cls = .ref C ∧ ((d = none ∧ xs = []) ∨ ∃ dd fs, d = some dd ∧ dd ∉ js ∧ H dd = some (.xd fs) ∧ fs.map (·.1) = xs.map (·.1) ∧ RepVs K H js (xs.map (·.2)) (fs.map (·.2)))
theorem ExRep.mono {K : Kx} {H H1 : Hp} {js js1 : List Addr} {c : Nat} {xs : List (Str × D)} {cls : Value} {d : Option Addr} (h : ExRep K H js c xs cls d) (g : Grow H js H1 js1) : ExRep K H1 js1 c xs cls d := by
  obtain ⟨C, e1, e2, h⟩ := h
  refine ⟨C, e1, e2, ?_⟩
  rcases h with h | ⟨dd, fs, e3, n, e4, e5, r⟩
  · exact .inl h
  · exact .inr ⟨dd, fs, e3, g.notin n e4, g.keep _ _ n e4, e5, RepVs.mono g r⟩

/-! ### what a run asks of what follows -/
/-- a thing comes, R tells how it lies there; or an exception -/
def OkG {α β : Type} (R : Kx → Hp → List Addr → α → β → Prop) (K : Kx) (H : Hp) (js : List Addr) (o : Out α) (W : XK) (Q : β → Hp → Prop) : Prop :=
  match o with
  | some (.ok d S') => ∀ v H' js', Grow H js H' js' → RelS K H' js' S' → R K H' js' d v → Q v H'
  | some (.ex c xs S') => ∀ cls d H' js', Grow H js H' js' → RelS K H' js' S' → ExRep K H' js' c xs cls d → W cls d H'
  | none => False
def RepX {α : Type} (K : Kx) (H : Hp) (js : List Addr) (a b : α) : Prop := a = b
abbrev OkE := @OkG D V RepV
abbrev OkA := @OkG (List D) (List V) RepVs
abbrev OkX {α : Type} := @OkG α α RepX
section
variable {K : Kx} {H H1 : Hp} {js js1 : List Addr} {S : Sto} {α β γ δ : Type} {W : XK} {R : Kx → Hp → List Addr → α → β → Prop} {R' : Kx → Hp → List Addr → γ → δ → Prop}
theorem bd_ok {α β : Type} (a : α) (S : Sto) (f : α → Sto → Out β) : bd (some (.ok a S)) f = f a S := rfl
theorem OkG.mono {o : Out α} {Q : β → Hp → Prop} (h : OkG R K H js o W Q) (g : Grow H js H1 js1) : OkG R K H1 js1 o W Q := by
  unfold OkG at h ⊢
  split at h
  · exact fun v H' js' g' => h v H' js' (g.trans g')
  · exact fun c d H' js' g' => h c d H' js' (g.trans g')
  · exact h.elim
theorem OkG.bind {m : Out α} {f : α → Sto → Out γ} {Q : δ → Hp → Prop} {Q1 : β → Hp → Prop} (h : OkG R' K H js (bd m f) W Q)
    (k : ∀ b H1 js1 S1 a, m = some (.ok a S1) → Grow H js H1 js1 → RelS K H1 js1 S1 → R K H1 js1 a b → OkG R' K H1 js1 (f a S1) W Q → Q1 b H1) : OkG R K H js m W Q1 := by
  cases m with
  | none => exact h
  | some r =>
    cases r with
    | ok a S => exact fun v H1 js1 g rs r => k v H1 js1 S a rfl g rs r (OkG.mono (o := f a S) h g)
    | ex c xs S => exact h
/-- without an exception -/
theorem OkG.nobd {f : α → Sto → Out γ} {m : Out α} {Q : δ → Hp → Prop} (h : OkG R' K H js (bd m f) W Q) (hn : ∀ c xs S, m ≠ some (.ex c xs S)) : ∃ a S, m = some (.ok a S) ∧ OkG R' K H js (f a S) W Q := by
  cases m with
  | none => exact h.elim
  | some r =>
    cases r with
    | ok a S => exact ⟨a, S, rfl, h⟩
    | ex c xs S => exact (hn _ _ _ rfl).elim
/-- the value as it is -/
theorem OkG.pure {d : α} {Q : β → Hp → Prop} {v : β} (h : OkG R K H js (ok d S) W Q) (r : RelS K H js S) (q : R K H js d v) : Q v H := h v H js Grow.refl r q
theorem OkG.pureX {d : α} {Q : α → Hp → Prop} (h : OkX K H js (ok d S) W Q) (r : RelS K H js S) : Q d H := h d H js Grow.refl r rfl
/-- a new tuple -/
theorem OkG.tup {ds : List D} {Q : VK} {vs : List V} {p : Addr} (h : OkE K H js (ok (.tup ds) S) W Q) (r : RelS K H js S) (q : RepVs K H js ds vs) (hp : H p = none) : Q (.ref p) (upd H p (.tup vs)) :=
  h _ _ js (Grow.lay r hp) (r.lay hp) (.tup upd_same (r.fresh hp) (q.mono (Grow.lay r hp)))
/-- a new list -/
theorem OkG.lst {ds : List D} {Q : VK} {vs : List V} {p : Addr} (h : OkE K H js (ok (.ref S.length) (S ++ [.lst ds])) W Q) (r : RelS K H js S) (q : RepVs K H js ds vs) (hp : H p = none) : Q (.ref p) (upd H p (.lst vs)) :=
  h _ _ (js ++ [p]) (Grow.new r hp) (r.new hp q) (.ref (by rw [← r.len]; simp))
/-- a new object -/
theorem OkG.newO {ob : O} {Q : VK} {u : HO} {p : Addr} (h : OkE K H js (ok (.ref S.length) (S ++ [ob])) W Q) (r : RelS K H js S) (q : RepO K H js p ob (some u)) (hp : H p = none) : Q (.ref p) (upd H p u) :=
  h _ _ (js ++ [p]) (Grow.new r hp) (r.newO hp q) (.ref (by rw [← r.len]; simp))
end

/-- the readings -/
def rdE (K : Kx) (F : Orc) (W : WX) (e : E) : TE := fun σ H Q => ∃ js S ρ, RelS K H js S ∧ RepR K H js ρ σ ∧ OkE K H js (evE F e ρ S) (fun c d H' => W c d σ H') Q
def rdEs (K : Kx) (F : Orc) (W : WX) (e : Es) : TA := fun σ H Q => ∃ js S ρ, RelS K H js S ∧ RepR K H js ρ σ ∧ OkA K H js (evEs F e ρ S) (fun c d H' => W c d σ H') Q
def rdT (K : Kx) (F : Orc) (W : WX) (e : T) : TT := fun σ H Q => ∃ js S ρ, RelS K H js S ∧ RepR K H js ρ σ ∧ OkX K H js (evT F e ρ S) (fun c d H' => W c d σ H') Q
def rdP (K : Kx) (F : Orc) (W : WX) (e : P) : TO := fun σ H Q => ∃ js S ρ, RelS K H js S ∧ RepR K H js ρ σ ∧ OkX K H js (evP F e ρ S) (fun c d H' => W c d σ H') Q
section
variable {K : Kx} {H : Hp} {js : List Addr} {S : Sto} {F : Orc} {ρ : Rho} {σ : L2.St} {W : WX} {γ δ : Type} {R' : Kx → Hp → List Addr → γ → δ → Prop}
theorem rdE.bd {e : E} {Q1 : VK} {f : D → Sto → Out γ} {Q : δ → Hp → Prop} (q : OkG R' K H js (bd (evE F e ρ S) f) (fun c d H' => W c d σ H') Q) (rs : RelS K H js S) (rr : RepR K H js ρ σ)
    (k : ∀ v H1 js1 S1 x, Grow H js H1 js1 → RelS K H1 js1 S1 → RepV K H1 js1 x v → OkG R' K H1 js1 (f x S1) (fun c d H' => W c d σ H') Q → Q1 v H1) : rdE K F W e σ H Q1 :=
  ⟨js, S, ρ, rs, rr, q.bind fun v H1 js1 S1 x _ => k v H1 js1 S1 x⟩
theorem rdEs.bd {e : Es} {Q1 : List V → Hp → Prop} {f : List D → Sto → Out γ} {Q : δ → Hp → Prop} (q : OkG R' K H js (bd (evEs F e ρ S) f) (fun c d H' => W c d σ H') Q) (rs : RelS K H js S) (rr : RepR K H js ρ σ)
    (k : ∀ v H1 js1 S1 x, evEs F e ρ S = some (.ok x S1) → Grow H js H1 js1 → RelS K H1 js1 S1 → RepVs K H1 js1 x v → OkG R' K H1 js1 (f x S1) (fun c d H' => W c d σ H') Q → Q1 v H1) : rdEs K F W e σ H Q1 :=
  ⟨js, S, ρ, rs, rr, q.bind k⟩
theorem rdT.bd {e : T} {Q1 : Bool → Hp → Prop} {f : Bool → Sto → Out γ} {Q : δ → Hp → Prop} (q : OkG R' K H js (bd (evT F e ρ S) f) (fun c d H' => W c d σ H') Q) (rs : RelS K H js S) (rr : RepR K H js ρ σ)
    (k : ∀ t H1 js1 S1, Grow H js H1 js1 → RelS K H1 js1 S1 → OkG R' K H1 js1 (f t S1) (fun c d H' => W c d σ H') Q → Q1 t H1) : rdT K F W e σ H Q1 :=
  ⟨js, S, ρ, rs, rr, q.bind (R := RepX) fun v H1 js1 S1 x _ g r e q => by
    have e : x = v := e
    subst e
    exact k x H1 js1 S1 g r q⟩
theorem rdP.bd {e : P} {Q1 : Option Int → Hp → Prop} {f : Option Int → Sto → Out γ} {Q : δ → Hp → Prop} (q : OkG R' K H js (bd (evP F e ρ S) f) (fun c d H' => W c d σ H') Q) (rs : RelS K H js S) (rr : RepR K H js ρ σ)
    (k : ∀ t H1 js1 S1, Grow H js H1 js1 → RelS K H1 js1 S1 → OkG R' K H1 js1 (f t S1) (fun c d H' => W c d σ H') Q → Q1 t H1) : rdP K F W e σ H Q1 :=
  ⟨js, S, ρ, rs, rr, q.bind (R := RepX) fun v H1 js1 S1 x _ g r e q => by
    have e : x = v := e
    subst e
    exact k x H1 js1 S1 g r q⟩
end
end VM
/-! WN: dicts with keys of any depth, over the layer. -/
namespace VM
open PySem PySem.Spec PyProof.Rows L2

abbrev kxOf (X : Cx) (cl : Nat → Option Addr) : Kx := ⟨X.K, X.prog, X.w, cl⟩
/-- at b lies the key nk -/
def NK (K : Kx) (H : Hp) (nk : NestedKey) (b : Addr) : Prop := ∀ h, HOk K.P K.w H h → (nestedKind K.P K.w).is h nk b
def NKs (K : Kx) (H : Hp) (xs : List (NestedKey × Addr × Value)) : Prop := ∀ x ∈ xs, NK K H x.1 x.2.1
theorem din_rd {K : Kx} {H : Hp} {h : Heap} {a : Addr} {xs : List (NestedKey × Addr × Value)} (ok : HOk K.P K.w H h) (e : Rd H a (DinO K a xs)) (hk : NKs K H xs) : (a == sysModules) = false ∧ h.DictOfH (nestedKind K.P K.w) a xs := by
  obtain ⟨⟨hs, o, es, ep, h1, h2, h3, h4, h5⟩, _, _⟩ := (show ObjOk K.P K.w H h a (DinO K a xs) from e.ok ok)
  exact ⟨hs, o, es, ep, h1, h2, h3, h4, fun x hx => hk x hx h ok, h5⟩
theorem din_ok {K : Kx} {H : Hp} {h : Heap} {a : Addr} {xs : List (NestedKey × Addr × Value)} (hs : (a == sysModules) = false) (d : h.DictOfH (nestedKind K.P K.w) a xs) : ObjOk K.P K.w H h a (DinO K a xs) := by
  obtain ⟨o, es, ep, h1, h2, h3, h4, _, h5⟩ := d
  refine ⟨⟨hs, o, es, ep, h1, h2, h3, h4, h5⟩, ⟨o, h1⟩, fun g1 g2 p k => ?_⟩
  obtain ⟨hs, o, es, ep, h1, h2⟩ := p
  exact ⟨hs, o, es, ep, k _ h1, h2⟩
theorem din_new {K : Kx} {H : Hp} (h : Heap) (hb : sysModules < h.objs.size) : ObjOk K.P K.w H (h.push { cls := .type "dict", data := .dict #[] }) h.objs.size (DinO K h.objs.size []) :=
  din_ok (beq_eq_false_iff_ne.mpr (Ne.symm (Nat.ne_of_lt hb))) (Heap.DictOfH.new h)

/-- what the dict at a holds at the key y -/
def DG (K : Kx) (H : Hp) (a : Addr) (y : V) (r : Option V) : Prop :=
  (∃ kvs k, Rd H a (.dK kvs) ∧ y = kV k ∧ r = valV kvs k) ∨ ∃ xs nk b, y = .ref b ∧ Rd H a (DinO K a xs) ∧ NKs K H xs ∧ NK K H nk b ∧ RelO r ((atKey xs nk).map (·.2))
/-- of the heap behind a[y] = v holds Qc -/
def DP (K : Kx) (H : Hp) (a : Addr) (y v : V) (Qc : Hp → Prop) : Prop :=
  (∃ kvs k, H a = some (.dK kvs) ∧ y = kV k ∧ kvs.length < sizeLine ∧ Qc (upd H a (.dK (putK kvs k v)))) ∨
  ∃ xs nk b, y = .ref b ∧ H a = some (DinO K a xs) ∧ NKs K H xs ∧ NK K H nk b ∧ xs.length < sizeLine ∧ ∀ u, RelV v u → Qc (upd H a (DinO K a (storedH xs nk b u)))
/-- a is a dict -/
def DK (K : Kx) (H : Hp) (a : Addr) : Prop := (∃ kvs, Rd H a (.dK kvs)) ∨ ∃ xs, Rd H a (DinO K a xs) ∧ NKs K H xs

section
variable {X : Cx} {cl : Nat → Option Addr} {pins : List (Addr × Obj)} {σ : L2.St} {H : Hp} {s : Shared} {a : Addr} {y v : V} {u r : Value} {o : Option V} {A : Around} {E : Value → Shared → Prop}
theorem rm_in1 (hu : A.units + 200 < cLine) {prog : Program} {w : World} : (nestedKind prog w).room A.in1 := by
  show A.units + 1 + 8 < cLine
  omega
theorem DG.old (g : (∃ kvs k, Rd H a (.dK kvs) ∧ y = kV k ∧ o = valV kvs k)) : DGet H a y o := .inl g
theorem dg_getItem {Q : Value → Shared → Prop} (hu : A.units + 200 < cLine) (I : Inv X pins σ H s) (g : DG (kxOf X cl) H a y (some v)) (ry : RelV y u) (h : ∀ w' s', Inv X pins σ H s' → RelV v w' → Q w' s') :
    wpAny (model X.prog X.w) A (getItem (.ref a) u) Q E s := by
  rcases g with g | ⟨xs, nk, b, ey, e, ks, k, l⟩
  · exact d_getItem (by omega) I (.inl g) ry h
  · subst ey
    cases (show u = Value.ref b from ry)
    obtain ⟨hd, dd⟩ := din_rd I.hok e ks
    obtain ⟨w', hw, rw'⟩ := RelO.some_of (v := v) l
    obtain ⟨p, hp, hp2⟩ := Option.map_eq_some_iff.mp hw
    refine wpAny_getItem_heap (rm_in1 hu) (k _ I.hok) dd hp ?_
    rw [hp2]
    exact h w' _ (I.tok _) rw'
theorem dg_in {Q : Value → Shared → Prop} (hu : A.units + 200 < cLine) (I : Inv X pins σ H s) (g : DG (kxOf X cl) H a y o) (ry : RelV y u) (h : ∀ s', Inv X pins σ H s' → Q (.bool o.isSome) s') :
    wpAny (model X.prog X.w) A (compareOp .In u (.ref a)) Q E s := by
  rcases g with g | ⟨xs, nk, b, ey, e, ks, k, l⟩
  · exact d_in (by omega) I (.inl g) ry h
  · subst ey
    cases (show u = Value.ref b from ry)
    obtain ⟨hd, dd⟩ := din_rd I.hok e ks
    refine wpAny_in_heap (rm_in1 hu) (k _ I.hok) hd dd ?_
    have q := l.isSome_eq
    rw [Option.isSome_map] at q
    rw [← q]
    exact h _ (I.tok _)
theorem dg_notIn {Q : Value → Shared → Prop} (hu : A.units + 200 < cLine) (I : Inv X pins σ H s) (g : DG (kxOf X cl) H a y o) (ry : RelV y u) (h : ∀ s', Inv X pins σ H s' → Q (.bool (!o.isSome)) s') :
    wpAny (model X.prog X.w) A (compareOp .NotIn u (.ref a)) Q E s := by
  rcases g with g | ⟨xs, nk, b, ey, e, ks, k, l⟩
  · exact d_notIn (by omega) I (.inl g) ry h
  · subst ey
    cases (show u = Value.ref b from ry)
    obtain ⟨hd, dd⟩ := din_rd I.hok e ks
    refine wpAny_notIn_heap (rm_in1 hu) (k _ I.hok) hd dd ?_
    have q := l.isSome_eq
    rw [Option.isSome_map] at q
    rw [← q]
    exact h _ (I.tok _)
theorem dg_get1 {Q : Value → Shared → Prop} (hu : A.units + 200 < cLine) (I : Inv X pins σ H s) (g : DG (kxOf X cl) H a y o) (ry : RelV y u) (h : ∀ w' s', Inv X pins σ H s' → RelV (o.getD .non) w' → Q w' s') :
    wpAny (model X.prog X.w) A (call (.builtin "dict.get") [.ref a, u]) Q E s := by
  rcases g with g | ⟨xs, nk, b, ey, e, ks, k, l⟩
  · exact d_get1 (by omega) I (.inl g) ry h
  · subst ey
    cases (show u = Value.ref b from ry)
    obtain ⟨hd, dd⟩ := din_rd I.hok e ks
    exact call_meetsIn PySem.F.slot_dict_get dd.typeIs PySem.F.entry_dict_get (PySem.F.args_dict_get_2 _ _) (meetsH_dict_get (nestedKind X.prog X.w) a b hd) ⟨rm_in1 hu, nk, xs, k _ I.hok, dd, h _ _ (I.tok _) (l.getD rfl)⟩
theorem dg_get2 {d : V} {Q : Value → Shared → Prop} (hu : A.units + 200 < cLine) (I : Inv X pins σ H s) (g : DG (kxOf X cl) H a y o) (ry : RelV y u) (rd : RelV d r) (h : ∀ w' s', Inv X pins σ H s' → RelV (o.getD d) w' → Q w' s') :
    wpAny (model X.prog X.w) A (call (.builtin "dict.get") [.ref a, u, r]) Q E s := by
  rcases g with g | ⟨xs, nk, b, ey, e, ks, k, l⟩
  · exact d_get2 (by omega) I (.inl g) ry rd h
  · subst ey
    cases (show u = Value.ref b from ry)
    obtain ⟨hd, dd⟩ := din_rd I.hok e ks
    exact call_meetsIn PySem.F.slot_dict_get dd.typeIs PySem.F.entry_dict_get (PySem.F.args_dict_get_3 _ _ _) (meetsH_dict_get_default (nestedKind X.prog X.w) a b hd r) ⟨rm_in1 hu, nk, xs, k _ I.hok, dd, h _ _ (I.tok _) (l.getD rd)⟩
theorem length_storedH (xs : List (NestedKey × Addr × Value)) (k : NestedKey) (b : Addr) (u : Value) : (storedH xs k b u).length ≤ xs.length + 1 := by
  unfold storedH
  split
  · rw [List.length_map]; omega
  · rw [List.length_append, List.length_cons, List.length_nil]; omega
theorem dg_setItem {Qc : Hp → Prop} {Q : Unit → Shared → Prop} (hu : A.units + 200 < cLine) (I : Inv X pins σ H s) (g : DP (kxOf X cl) H a y v Qc) (ry : RelV y u) (rv : RelV v r) (h : ∀ H' s', Inv X pins σ H' s' → Qc H' → Q () s') :
    wpAny (model X.prog X.w) A (setItem (.ref a) u r) Q E s := by
  rcases g with ⟨kvs, k, e, ey, l, eH⟩ | ⟨xs, nk, b, ey, e, ks, k, l, eH⟩
  · exact d_setItem (by omega) I (.inl ⟨kvs, k, e, ey, l, rfl⟩) ry rv fun s' I' => h _ s' I' eH
  · subst ey
    have eH := eH r rv
    cases (show u = Value.ref b from ry)
    obtain ⟨hd, dd⟩ := din_rd I.hok (.inl e) ks
    refine wpAny_setItem_heap (hsz := by omega) (rm_in1 hu) (k _ I.hok) dd fun h' dd' hs => h _ _ ?_ eH
    have he : ∃ q, h'.get? a = some q := let ⟨q, _, _, hq, _⟩ := dd'; ⟨q, hq⟩
    exact d_write I (by rw [e]; exact True.intro) hs he (din_ok (K := kxOf X cl) hd dd')
/-- setdefault: there; or not -/
theorem dg_setd {d : V} {Q : Value → Shared → Prop} (hu : A.units + 200 < cLine) (I : Inv X pins σ H s)
    (g : (∃ v, DG (kxOf X cl) H a y (some v) ∧ DP (kxOf X cl) H a y d (fun _ => True) ∧ ∀ (w' : Value) (s' : Shared), Inv X pins σ H s' → RelV v w' → Q w' s') ∨
      (DG (kxOf X cl) H a y none ∧ DP (kxOf X cl) H a y d fun H' => ∀ (w' : Value) (s' : Shared), Inv X pins σ H' s' → RelV d w' → Q w' s')) (ry : RelV y u) (rd : RelV d r) :
    wpAny (model X.prog X.w) A (call (.builtin "dict.setdefault") [.ref a, u, r]) Q E s := by
  have noK : ∀ {kvs : List (L2.Key × V)} {xs}, H a = some (.dK kvs) → ¬ Rd H a (DinO (kxOf X cl) a xs) := fun e q => by
    rcases q with q | ⟨_, q⟩
    · rw [e] at q; cases q
    · rw [e] at q; cases q
  have noN : ∀ {kvs : List (L2.Key × V)} {xs}, H a = some (DinO (kxOf X cl) a xs) → ¬ Rd H a (.dK kvs) := fun e q => by
    rcases q with q | ⟨_, q⟩
    · rw [e] at q; cases q
    · rw [e] at q; cases q
  rcases g with ⟨v, g, p, q⟩ | ⟨g, p⟩
  · rcases p with ⟨kvs, k, e, ey, l, _⟩ | ⟨xs, nk, b, ey, e, ks, k, l, _⟩
    · rcases g with ⟨kvs', k', e', ey', l'⟩ | ⟨xs, nk, b, _, e', _⟩
      · rcases e' with e' | ⟨_, e'⟩
        · rw [e] at e'; cases e'
          subst ey
          have := kV_inj ey'
          subst this
          exact d_setd I e ry rd l (fun v' hv w' s' I' r' => by rw [hv] at l'; cases l'; exact q w' s' I' r') (fun hn => by rw [hn] at l'; cases l')
        · rw [e] at e'; cases e'
      · exact (noK e e').elim
    · rcases g with ⟨kvs', k', e', _⟩ | ⟨xs', nk', b', ey', e', ks', k', l'⟩
      · exact (noN e e').elim
      · subst ey
        cases ey'
        cases (show u = Value.ref b from ry)
        obtain ⟨hd, dd⟩ := din_rd I.hok (.inl e) ks
        rcases e' with e' | ⟨_, e'⟩
        · have hx : xs' = xs ∨ True := .inr trivial
          obtain ⟨hd', dd'⟩ := din_rd I.hok (.inl e') ks'
          obtain ⟨w', hw, rw'⟩ := RelO.some_of (v := v) l'
          obtain ⟨p, hp, hp2⟩ := Option.map_eq_some_iff.mp hw
          have hl' : xs'.length ≤ sizeLine := by
            obtain ⟨o1, es1, ep1, g1, _, g3, g4, _⟩ := dd
            obtain ⟨o2, es2, ep2, f1, _, f3, f4, _⟩ := dd'
            rw [g1] at f1; cases f1
            rw [g3] at f3; cases f3
            have := congrArg List.length (g4.symm.trans f4)
            rw [List.length_map, List.length_map] at this
            omega
          refine call_setdefault_heap (hsz := hl') (rm_in1 hu) (k' _ I.hok) hd' dd' (fun p' hp' => ?_) (fun hn => by rw [hn] at hp; cases hp)
          rw [hp] at hp'
          cases hp'
          rw [hp2]
          exact q w' _ (I.tok _) rw'
        · rw [e] at e'; cases e'
  · rcases p with ⟨kvs, k, e, ey, l, q⟩ | ⟨xs, nk, b, ey, e, ks, k, l, q⟩
    · rcases g with ⟨kvs', k', e', ey', l'⟩ | ⟨xs, nk, b, _, e', _⟩
      · rcases e' with e' | ⟨_, e'⟩
        · rw [e] at e'; cases e'
          subst ey
          have := kV_inj ey'
          subst this
          exact d_setd I e ry rd l (fun v' hv => by rw [hv] at l'; cases l') (fun hn w' s' I' r' => q w' s' I' r')
        · rw [e] at e'; cases e'
      · exact (noK e e').elim
    · rcases g with ⟨kvs', k', e', _⟩ | ⟨xs', nk', b', ey', e', ks', k', l'⟩
      · exact (noN e e').elim
      · subst ey
        cases ey'
        cases (show u = Value.ref b from ry)
        obtain ⟨hd, dd⟩ := din_rd I.hok (.inl e) ks
        have q := q r rd
        rcases e' with e' | ⟨_, e'⟩
        · obtain ⟨hd', dd'⟩ := din_rd I.hok (.inl e') ks'
          have hn' : (atKey xs' nk').map (·.2) = none := RelO.none_of l'
          have same : ∀ j, (atKey xs j).isSome = (atKey xs' j).isSome ∧ ((nestedKind X.prog X.w).is s.heap j b → j = nk) := fun j => ⟨?_, fun z => (nestedKind X.prog X.w).inj z (k _ I.hok)⟩
          · have ek : nk' = nk := (nestedKind X.prog X.w).inj (k' _ I.hok) (k _ I.hok)
            subst ek
            have hn : atKey xs nk' = none := by
              have h1 := (same nk').1
              rw [Option.map_eq_none_iff.mp hn'] at h1
              cases hz : atKey xs nk' with
              | none => rfl
              | some z => rw [hz] at h1; cases h1
            refine call_setdefault_heap (hsz := by omega) (rm_in1 hu) (k _ I.hok) hd dd (fun p' hp' => by rw [hn] at hp'; cases hp') fun _ h' dd2 hs => ?_
            have he : ∃ q, h'.get? a = some q := let ⟨q, _, _, hq, _⟩ := dd2; ⟨q, hq⟩
            exact q _ _ (d_write I (by rw [e]; exact True.intro) hs he (din_ok (K := kxOf X cl) hd dd2)) rd
          · obtain ⟨o1, es1, ep1, g1, _, g3, g4, g5, g6⟩ := dd
            obtain ⟨o2, es2, ep2, f1, _, f3, f4, f5, f6⟩ := dd'
            rw [g1] at f1; cases f1
            rw [g3] at f3; cases f3
            have ee := g4.symm.trans f4
            have key : xs.map (·.1) = xs'.map (·.1) := by
              have gen : ∀ (l m : List (NestedKey × Addr × Value)), l.map (entryOfKey (nestedKind X.prog X.w)) = m.map (entryOfKey (nestedKind X.prog X.w)) → (∀ x ∈ l, (nestedKind X.prog X.w).is s.heap x.1 x.2.1) → (∀ x ∈ m, (nestedKind X.prog X.w).is s.heap x.1 x.2.1) → l.map (·.1) = m.map (·.1) := by
                intro l
                induction l with
                | nil => intro m h _ _; cases m with
                  | nil => rfl
                  | cons _ _ => simp at h
                | cons x l ih =>
                  intro m h hl hm
                  cases m with
                  | nil => simp at h
                  | cons z m =>
                    rw [List.map_cons, List.map_cons] at h
                    injection h with h1 h2
                    have ea : x.2.1 = z.2.1 := by
                      have := congrArg DictEntry.key h1
                      exact Value.ref.inj this
                    have ek : x.1 = z.1 := (nestedKind X.prog X.w).inj (hl x List.mem_cons_self) (by rw [ea]; exact hm z List.mem_cons_self)
                    rw [List.map_cons, List.map_cons, ek, ih m h2 (fun q hq => hl q (List.mem_cons_of_mem _ hq)) (fun q hq => hm q (List.mem_cons_of_mem _ hq))]
              exact gen xs xs' ee g5 f5
            have an : ∀ l : List (NestedKey × Addr × Value), (atKey l j).isSome = (l.map (·.1)).any fun x => decide (x = j) := by
              intro l
              induction l with
              | nil => rfl
              | cons x l ih =>
                by_cases hx : x.1 = j
                · simp [atKey, hx]
                · simpa [atKey, hx] using ih
            rw [an, an, key]
        · rw [e] at e'; cases e'
theorem dk_at (I : Inv X pins σ H s) (d : DK (kxOf X cl) H a) :
    s.TypeIs (.ref a) "dict" ∧ (∀ b, Value.ref a = .ref b → ∃ ob, s.heap.get? b = some ob ∧ ob.dict = none) ∧ (a == sysModules) = false := by
  rcases d with d | ⟨xs, e, ks⟩
  · exact isD_at I (.inl d)
  · obtain ⟨hd, dd⟩ := din_rd I.hok e ks
    refine ⟨dd.typeIs, fun b q => ?_, hd⟩
    cases q
    obtain ⟨ob, _, _, h1, h2, _⟩ := dd
    exact ⟨ob, h1, h2.2.1⟩
theorem dg_typeIs (I : Inv X pins σ H s) (g : DG (kxOf X cl) H a y o) : s.TypeIs (.ref a) "dict" := by
  rcases g with ⟨kvs, k, e, _⟩ | ⟨xs, nk, b, _, e, ks, _⟩
  · exact (dk_at (cl := cl) I (.inl ⟨kvs, e⟩)).1
  · exact (dk_at (cl := cl) I (.inr ⟨xs, e, ks⟩)).1
end
/-! ### readings -/
def tGet1 (K : Kx) (td ty : TE) : TE := fun σ H Q => td σ H fun x H1 => ∃ a, x = .ref a ∧ DK K H1 a ∧ ty σ H1 fun y H2 => ∃ o, DG K H2 a y o ∧ Q (o.getD .non) H2
def tGet2 (K : Kx) (td ty tx : TE) : TE := fun σ H Q => td σ H fun x H1 => ∃ a, x = .ref a ∧ DK K H1 a ∧ ty σ H1 fun y H2 => tx σ H2 fun z H3 => ∃ o, DG K H3 a y o ∧ Q (o.getD z) H3
def tSetd (K : Kx) (td ty tx : TE) : TE := fun σ H Q => td σ H fun x H1 => ∃ a, x = .ref a ∧ DK K H1 a ∧ ty σ H1 fun y H2 => tx σ H2 fun z H3 =>
  (∃ v, DG K H3 a y (some v) ∧ DP K H3 a y z (fun _ => True) ∧ Q v H3) ∨ (DG K H3 a y none ∧ DP K H3 a y z (Q z))
def tPop1 (K : Kx) (td ty : TE) : TE := fun σ H Q => td σ H fun x H1 => ∃ a, x = .ref a ∧ DK K H1 a ∧ ty σ H1 fun y H2 => ∃ kvs k v, H2 a = some (.dK kvs) ∧ y = kV k ∧ valV kvs k = some v ∧ Q v (upd H2 a (.dK (dropK kvs k)))
section
variable {X : Cx} {cl : Nat → Option Addr} {o e f : Expr} {apos cpos : Pos} {td ty tx : TE}
theorem pe_get1 (hu : X.A.units + 200 < cLine) (ho : PE X o td) (he : PE X e ty) (m : M1 X o "get" apos e cpos) : PE X (.Call (.Attribute o "get" apos) [e] [] cpos) (tGet1 (kxOf X cl) td ty) := by
  refine ⟨fun pins s σ H Q I h => ?_⟩
  refine wpAny_Call_method m.base m.few m.line PySem.F.plainAttrs_dict PySem.F.slot_dict_get PySem.F.type_dict_get (thn (ho.run pins s σ H _ I h) fun u s1 ⟨x, H1, I1, rx, a, ex, d, q1⟩ => ?_)
  subst ex
  obtain rfl : u = Value.ref a := rx
  obtain ⟨t1, t2, _⟩ := dk_at I1 d
  refine ⟨t1, t2, ?_⟩
  rw [m.trees]
  refine Calls.callWith_builtin rfl (Calls.evalArgs_plain (Calls.spliced_cons (thn (he.run pins s1 σ H1 _ I1 q1) fun iv s2 ⟨y, H2, I2, ry, ov, g, q2⟩ => Calls.spliced_nil ?_)))
  exact dg_get1 hu I2 g ry fun w' s3 I3 rw' => ⟨_, H2, I3, rw', q2⟩
theorem pe_get2 (hu : X.A.units + 200 < cLine) (ho : PE X o td) (he : PE X e ty) (hf : PE X f tx) (m : M2 X o "get" apos e f cpos) : PE X (.Call (.Attribute o "get" apos) [e, f] [] cpos) (tGet2 (kxOf X cl) td ty tx) := by
  refine ⟨fun pins s σ H Q I h => ?_⟩
  refine wpAny_Call_method m.base m.few m.line PySem.F.plainAttrs_dict PySem.F.slot_dict_get PySem.F.type_dict_get (thn (ho.run pins s σ H _ I h) fun u s1 ⟨x, H1, I1, rx, a, ex, d, q1⟩ => ?_)
  subst ex
  obtain rfl : u = Value.ref a := rx
  obtain ⟨t1, t2, _⟩ := dk_at I1 d
  refine ⟨t1, t2, ?_⟩
  rw [m.trees]
  refine Calls.callWith_builtin rfl (Calls.evalArgs_plain (Calls.spliced_cons (thn (he.run pins s1 σ H1 _ I1 q1) fun iv s2 ⟨y, H2, I2, ry, q2⟩ =>
    Calls.spliced_cons (thn (hf.run pins s2 σ H2 _ I2 q2) fun fv s3 ⟨z, H3, I3, rz, ov, g, q3⟩ => Calls.spliced_nil ?_))))
  exact dg_get2 hu I3 g ry rz fun w' s4 I4 rw' => ⟨_, H3, I4, rw', q3⟩
theorem pe_setd (hu : X.A.units + 200 < cLine) (ho : PE X o td) (he : PE X e ty) (hf : PE X f tx) (m : M2 X o "setdefault" apos e f cpos) : PE X (.Call (.Attribute o "setdefault" apos) [e, f] [] cpos) (tSetd (kxOf X cl) td ty tx) := by
  refine ⟨fun pins s σ H Q I h => ?_⟩
  refine wpAny_Call_method m.base m.few m.line PySem.F.plainAttrs_dict PySem.F.slot_dict_setdefault PySem.F.type_dict_setdefault (thn (ho.run pins s σ H _ I h) fun u s1 ⟨x, H1, I1, rx, a, ex, d, q1⟩ => ?_)
  subst ex
  obtain rfl : u = Value.ref a := rx
  obtain ⟨t1, t2, _⟩ := dk_at I1 d
  refine ⟨t1, t2, ?_⟩
  rw [m.trees]
  refine Calls.callWith_builtin rfl (Calls.evalArgs_plain (Calls.spliced_cons (thn (he.run pins s1 σ H1 _ I1 q1) fun iv s2 ⟨y, H2, I2, ry, q2⟩ =>
    Calls.spliced_cons (thn (hf.run pins s2 σ H2 _ I2 q2) fun fv s3 ⟨z, H3, I3, rz, q3⟩ => Calls.spliced_nil ?_))))
  refine dg_setd (cl := cl) hu I3 ?_ ry rz
  rcases q3 with ⟨v, g, p, q⟩ | ⟨g, p⟩
  · exact .inl ⟨v, g, p, fun w' s' I' r' => ⟨v, H3, I', r', q⟩⟩
  · refine .inr ⟨g, ?_⟩
    rcases p with ⟨kvs, k, e, ey, l, q⟩ | ⟨xs, nk, b, ey, e, ks, k, l, q⟩
    · exact .inl ⟨kvs, k, e, ey, l, fun w' s' I' r' => ⟨z, _, I', r', q⟩⟩
    · exact .inr ⟨xs, nk, b, ey, e, ks, k, l, fun u0 r0 w' s' I' r' => ⟨z, _, I', r', q u0 r0⟩⟩
theorem pe_pop1 (ho : PE X o td) (he : PE X e ty) (m : M1 X o "pop" apos e cpos) : PE X (.Call (.Attribute o "pop" apos) [e] [] cpos) (tPop1 (kxOf X cl) td ty) := by
  refine ⟨fun pins s σ H Q I h => ?_⟩
  refine wpAny_Call_method m.base m.few m.line PySem.F.plainAttrs_dict PySem.F.slot_dict_pop PySem.F.type_dict_pop (thn (ho.run pins s σ H _ I h) fun u s1 ⟨x, H1, I1, rx, a, ex, d, q1⟩ => ?_)
  subst ex
  obtain rfl : u = Value.ref a := rx
  obtain ⟨t1, t2, _⟩ := dk_at I1 d
  refine ⟨t1, t2, ?_⟩
  rw [m.trees]
  refine Calls.callWith_builtin rfl (Calls.evalArgs_plain (Calls.spliced_cons (thn (he.run pins s1 σ H1 _ I1 q1) fun iv s2 ⟨y, H2, I2, ry, kvs, k, v, ea, ey, l, q2⟩ => Calls.spliced_nil ?_)))
  subst ey
  exact d_pop I2 ea ry l (.inl rfl) fun w' s3 I3 rw' => ⟨v, _, I3, rw', q2⟩
end
/-- {}, to be a dict with keys of any depth -/
def tDNewN (K : Kx) : TE := fun _ H Q => ∀ p, H p = none → Q (.ref p) (upd H p (DinO K p []))
theorem pe_dnewN {X : Cx} {cl : Nat → Option Addr} {pos : Pos} : PE X (.Dict [] [] pos) (tDNewN (kxOf X cl)) := ⟨fun pins s σ H Q I h =>
  wpAny_Dict_empty ⟨.ref s.heap.objs.size, _, I.laid (a := s.heap.objs.size) (o := DinO (kxOf X cl) s.heap.objs.size []) (t' := s.toks) (fun _ _ q => Heap.get?_push_of_some _ q) (Nat.le_refl _) (din_new (K := kxOf X cl) s.heap I.big), rfl, h _ (I.hok.fresh (Nat.le_refl _))⟩⟩
end VM
/-! WC: the operations by values, over the layer. -/
namespace VM
open PySem PySem.Spec PyProof.Rows L2

section
variable {K : Kx} {H : Hp} {js : List Addr} {S : Sto}
theorem itemsOf_seq {x : D} {ds : List D} {v : V} (h : itemsOf S x = some ds) (rs : RelS K H js S) (r : RepV K H js x v) :
    ∃ a xs, v = .ref a ∧ RepVs K H js ds xs ∧ ((H a = some (.tup xs) ∧ x = .tup ds) ∨ (SqL K.K H a xs ∧ ∀ es, x ≠ .tup es)) := by
  cases r with
  | tup h1 n q => cases h; exact ⟨_, _, rfl, q, .inl ⟨h1, rfl⟩⟩
  | fz h1 q => cases h; exact ⟨_, _, rfl, q, .inr ⟨h1.sq, fun _ e => nomatch e⟩⟩
  | @ref n a h1 =>
    have h : (match S[n]? with
      | some (.lst ds) => some ds
      | _ => none) = some ds := h
    split at h
    · rename_i e2
      cases h
      obtain ⟨a', xs, e3, e4, e5⟩ := rs.list e2
      rw [h1] at e3; cases e3
      exact ⟨a, xs, rfl, e5, .inr ⟨.inl (.inl e4), fun _ e => nomatch e⟩⟩
    · cases h
  | _ => cases h
theorem listOf_rep {x : D} {ds : List D} {v : V} (h : listOf S x = some ds) (rs : RelS K H js S) (r : RepV K H js x v) : ∃ a xs, v = .ref a ∧ RepVs K H js ds xs ∧ SqL K.K H a xs := by
  cases r with
  | fz h1 q => cases h; exact ⟨_, _, rfl, q, h1.sq⟩
  | @ref n a h1 =>
    unfold listOf at h
    simp only at h
    split at h
    · rename_i e2
      cases h
      obtain ⟨a', xs, e3, e4, e5⟩ := rs.list e2
      rw [h1] at e3; cases e3
      exact ⟨a, xs, rfl, e5, .inl (.inl e4)⟩
    · cases h
  | _ => cases h
theorem intsD_rep : ∀ {ds : List D} {ns : List Int} {vs : List V}, intsD ds = some ns → RepVs K H js ds vs → vs = ns.map V.int
  | [], _, _, e, .nil => by cases e; rfl
  | d :: ds, _, _, e, .cons r t => by
    unfold intsD at e
    split at e
    · rename_i i ns e1
      cases e
      cases r
      rw [List.map_cons, intsD_rep e1 t]
    · cases e
theorem boolsD_rep : ∀ {ds : List D} {ns : List Bool} {vs : List V}, boolsD ds = some ns → RepVs K H js ds vs → vs = ns.map V.bl
  | [], _, _, e, .nil => by cases e; rfl
  | d :: ds, _, _, e, .cons r t => by
    unfold boolsD at e
    split at e
    · rename_i i ns e1
      cases e
      cases r
      rw [List.map_cons, boolsD_rep e1 t]
    · cases e
theorem itemsOf_any {x : D} {ds : List D} {v : V} (h : itemsOf S x = some ds) (rs : RelS K H js S) (r : RepV K H js x v) :
    ∃ a xs, v = .ref a ∧ RepVs K H js ds xs ∧ (SqL K.K H a xs ∨ SqT K.K H a xs) := by
  obtain ⟨a, xs, e, q, h⟩ := itemsOf_seq h rs r
  rcases h with ⟨h, _⟩ | ⟨h, _⟩
  · exact ⟨a, xs, e, q, .inr (.inl (.inl h))⟩
  · exact ⟨a, xs, e, q, .inl h⟩

/-! ### keys -/
theorem keyD_rep {d : D} {k : L2.Key} {v : V} (h : keyD d = some k) (r : RepV K H js d v) : v = kV k := by
  cases r <;> (unfold keyD at h; cases h) <;> rfl
theorem keysD_rep : ∀ {ds : List D} {ks : List L2.Key} {vs : List V}, keysD ds = some ks → RepVs K H js ds vs → vs = ks.map kV
  | [], ks, _, h, .nil => by cases h; rfl
  | d :: ds, ks, _, h, .cons r t => by
    unfold keysD at h
    split at h
    · rename_i k ks' e1 e2
      cases h
      rw [List.map_cons, keyD_rep e1 r, keysD_rep e2 t]
    · cases h
theorem RepK.lk {κ : Type} [DecidableEq κ] {k : κ} : ∀ {kvs : List (κ × D)} {vs : List (κ × V)}, RepK K H js kvs vs →
    (lkD kvs k = none ∧ valV vs k = none) ∨ ∃ d v, lkD kvs k = some d ∧ valV vs k = some v ∧ RepV K H js d v
  | [], [], _ => .inl ⟨rfl, rfl⟩
  | [], _ :: _, h => by cases h.1
  | _ :: _, [], h => by cases h.1
  | p :: kvs, q :: vs, h => by
    obtain ⟨h1, h2⟩ := h
    rw [List.map_cons, List.map_cons] at h1
    injection h1 with e1 e2
    cases h2 with
    | cons r t =>
      by_cases e : p.1 = k
      · refine .inr ⟨p.2, q.2, ?_, valV_pos (by rw [← e1]; exact e), r⟩
        simp [lkD, List.find?_cons, e]
      · rcases RepK.lk (k := k) (kvs := kvs) (vs := vs) ⟨e2, t⟩ with ⟨a, b⟩ | ⟨d, v, a, b, c⟩
        · refine .inl ⟨?_, by rw [valV_neg (by rw [← e1]; exact e)]; exact b⟩
          simpa [lkD, List.find?_cons, e] using a
        · refine .inr ⟨d, v, ?_, by rw [valV_neg (by rw [← e1]; exact e)]; exact b, c⟩
          simpa [lkD, List.find?_cons, e] using a
theorem RepK.len {κ : Type} {kvs : List (κ × D)} {vs : List (κ × V)} (h : RepK K H js kvs vs) : kvs.length = vs.length := by
  have := congrArg List.length h.1
  simpa using this
theorem RepK.put {κ : Type} [DecidableEq κ] {k : κ} {d : D} {v : V} {kvs : List (κ × D)} {vs : List (κ × V)} (h : RepK K H js kvs vs) (r : RepV K H js d v) : RepK K H js (putD kvs k d) (putK vs k v) := by
  have ea : (kvs.any fun kv => decide (kv.1 = k)) = (vs.any fun kv => decide (kv.1 = k)) := by
    have e1 : (kvs.any fun kv => decide (kv.1 = k)) = (kvs.map (·.1)).any fun x => decide (x = k) := by rw [List.any_map]; rfl
    have e2 : (vs.any fun kv => decide (kv.1 = k)) = (vs.map (·.1)).any fun x => decide (x = k) := by rw [List.any_map]; rfl
    rw [e1, e2, h.1]
  unfold putD putK
  rw [ea]
  by_cases a : (vs.any fun kv => decide (kv.1 = k)) = true
  · rw [if_pos a, if_pos a]
    clear a ea
    induction kvs generalizing vs with
    | nil =>
      cases vs with
      | nil => exact ⟨rfl, .nil⟩
      | cons _ _ => cases h.1
    | cons p kvs ih =>
      cases vs with
      | nil => cases h.1
      | cons q vs =>
        obtain ⟨h1, h2⟩ := h
        rw [List.map_cons, List.map_cons] at h1
        injection h1 with e1 e2
        cases h2 with
        | cons r0 t =>
          obtain ⟨i1, i2⟩ := ih (vs := vs) ⟨e2, t⟩
          have e3 : p.1 = q.1 := e1
          constructor
          · simp only [List.map_cons]
            rw [i1]
            congr 1
            rw [← e3]
            by_cases e : p.1 = k
            · rw [if_pos e, if_pos e]
            · rw [if_neg e, if_neg e, e3]
          · simp only [List.map_cons]
            refine .cons ?_ i2
            rw [← e3]
            by_cases e : p.1 = k
            · rw [if_pos e, if_pos e]; exact r
            · rw [if_neg e, if_neg e]; exact r0
  · rw [if_neg a, if_neg a]
    refine ⟨by rw [List.map_append, List.map_append, h.1]; rfl, ?_⟩
    rw [List.map_append, List.map_append]
    exact h.2.append (.cons r .nil)
theorem nkF_rep {f : D → Option NestedKey} {h : Heap} {n : Nat} (hf : ∀ d v nk u, f d = some nk → RepV K H js d v → RelV v u → NestedIs h nk u ∧ nk.depth ≤ n) :
    ∀ {ds : List D} {vs : List V} {ks : List NestedKey} {us : List Value}, nkF f ds = some ks → RepVs K H js ds vs → Vals vs us → NestedAll h ks us ∧ NestedKey.depthAll ks ≤ n
  | [], _, _, _, e, .nil, r => by cases e; cases r; exact ⟨.nil, Nat.zero_le _⟩
  | d :: ds, _, ks, _, e, .cons r t, q => by
    unfold nkF at e
    split at e
    · rename_i k ks' e1 e2
      cases e
      cases q with
      | cons q1 q2 =>
        obtain ⟨a1, a2⟩ := hf _ _ _ _ e1 r q1
        obtain ⟨b1, b2⟩ := nkF_rep hf e2 t q2
        exact ⟨.cons a1 b1, by simp only [NestedKey.depthAll]; omega⟩
    · cases e
theorem nkD_rep {h : Heap} (ok : HOk K.P K.w H h) : ∀ (n : Nat) (d : D) (v : V) (nk : NestedKey) (u : Value), nkD n d = some nk → RepV K H js d v → RelV v u → NestedIs h nk u ∧ nk.depth ≤ n := by
  intro n
  induction n with
  | zero =>
    intro d v nk u e r q
    cases r with
    | non => cases e; cases q; exact ⟨.none, Nat.zero_le _⟩
    | bl b => cases e; cases q; exact ⟨.bool rfl, Nat.zero_le _⟩
    | int i => cases e; obtain ⟨t, q⟩ := q; subst q; exact ⟨.int _ _, Nat.zero_le _⟩
    | str x => cases e; obtain ⟨t, q⟩ := q; subst q; exact ⟨.text _ _, Nat.zero_le _⟩
    | _ => cases e
  | succ n ih =>
    intro d v nk u e r q
    cases r with
    | non => cases e; cases q; exact ⟨.none, Nat.zero_le _⟩
    | bl b => cases e; cases q; exact ⟨.bool rfl, Nat.zero_le _⟩
    | int i => cases e; obtain ⟨t, q⟩ := q; subst q; exact ⟨.int _ _, Nat.zero_le _⟩
    | str x => cases e; obtain ⟨t, q⟩ := q; subst q; exact ⟨.text _ _, Nat.zero_le _⟩
    | tup hh n1 q1 =>
      unfold nkD at e
      cases e1 : nkF (nkD n) _ with
      | none => rw [e1] at e; cases e
      | some ks =>
        rw [e1] at e
        cases e
        cases q
        obtain ⟨_, its, r2, o, g1, g2, m, g3⟩ := (show ObjOk K.P K.w H h _ (.tup _) from ok _ _ hh)
        obtain ⟨a1, a2⟩ := nkF_rep ih e1 q1 r2
        exact ⟨.tup g1 g2 g3 (by simpa using a1), by simp only [NestedKey.depth]; omega⟩
    | _ => cases e
/-- a key of any depth -/
theorem tkD_rep {d : D} {nk : NestedKey} {v : V} (e : tkD d = some nk) (r : RepV K H js d v) : ∃ b, v = .ref b ∧ NK K H nk b := by
  unfold tkD at e
  split at e
  · cases r with
    | tup h1 n1 q1 =>
      refine ⟨_, rfl, fun h ok => ?_⟩
      exact nkD_rep ok 8 _ _ _ _ e (.tup h1 n1 q1) rfl
  · cases e
theorem RepN.keys {kvs : List (NestedKey × D × D)} {xs : List (NestedKey × Addr × Value)} (r : RepN K H js kvs xs) : NKs K H xs := by
  induction r with
  | nil => intro x hx; cases hx
  | cons hk rk rv r t ih =>
    intro x hx
    rcases List.mem_cons.mp hx with e | hx
    · subst e
      obtain ⟨b, e1, e2⟩ := tkD_rep hk rk
      cases e1
      exact e2
    · exact ih x hx
theorem RepN.lk {k : NestedKey} {kvs : List (NestedKey × D × D)} {xs : List (NestedKey × Addr × Value)} (r : RepN K H js kvs xs) :
    (lkN kvs k = none ∧ atKey xs k = none) ∨ ∃ d v b u, lkN kvs k = some d ∧ atKey xs k = some (b, u) ∧ RelV v u ∧ RepV K H js d v := by
  induction r with
  | nil => exact .inl ⟨rfl, rfl⟩
  | @cons nk kd d b u v kvs xs hk rk rv r t ih =>
    by_cases e : nk = k
    · exact .inr ⟨d, v, b, u, by simp [lkN, List.find?_cons, e], by simp [atKey, List.find?_cons, e], rv, r⟩
    · rcases ih with ⟨a, c⟩ | ⟨d, v, b, u, a, c, q⟩
      · exact .inl ⟨by simpa [lkN, List.find?_cons, e] using a, by simpa [atKey, List.find?_cons, e] using c⟩
      · exact .inr ⟨d, v, b, u, by simpa [lkN, List.find?_cons, e] using a, by simpa [atKey, List.find?_cons, e] using c, q⟩
theorem RepN.any {k : NestedKey} {kvs : List (NestedKey × D × D)} {xs : List (NestedKey × Addr × Value)} (r : RepN K H js kvs xs) : (kvs.any fun kv => decide (kv.1 = k)) = (atKey xs k).isSome := by
  induction r with
  | nil => rfl
  | @cons nk kd d b u v kvs xs hk rk rv r t ih =>
    rw [List.any_cons]
    by_cases e : nk = k
    · simp [atKey, List.find?_cons, e]
    · rw [ih]
      simp [atKey, List.find?_cons, e]
theorem RepN.repl {k : NestedKey} {dv : D} {vv : V} {u : Value} (rv' : RelV vv u) (r' : RepV K H js dv vv) {kvs : List (NestedKey × D × D)} {xs : List (NestedKey × Addr × Value)} (r : RepN K H js kvs xs) :
    RepN K H js (kvs.map fun kv => if kv.1 = k then (kv.1, kv.2.1, dv) else kv) (xs.map (putAt k u)) := by
  induction r with
  | nil => exact .nil
  | @cons nk kd d b u0 v kvs xs hk rk rv r t ih =>
    rw [List.map_cons, List.map_cons]
    unfold putAt
    by_cases e : nk = k
    · simp only [e, if_true]
      exact .cons (by rw [← e]; exact hk) rk rv' r' ih
    · simp only [e, if_false]
      exact .cons hk rk rv r ih
theorem RepN.snoc {nk : NestedKey} {kd d : D} {b : Addr} {u : Value} {v : V} (hk : tkD kd = some nk) (rk : RepV K H js kd (.ref b)) (rv : RelV v u) (r' : RepV K H js d v) {kvs : List (NestedKey × D × D)} {xs : List (NestedKey × Addr × Value)} (r : RepN K H js kvs xs) :
    RepN K H js (kvs ++ [(nk, kd, d)]) (xs ++ [(nk, b, u)]) := by
  induction r with
  | nil => exact .cons hk rk rv r' .nil
  | cons hk0 rk0 rv0 r0 t ih => exact .cons hk0 rk0 rv0 r0 ih
theorem RepN.put {nk : NestedKey} {kd d : D} {b : Addr} {u : Value} {v : V} (hk : tkD kd = some nk) (rk : RepV K H js kd (.ref b)) (rv : RelV v u) (r' : RepV K H js d v) {kvs : List (NestedKey × D × D)} {xs : List (NestedKey × Addr × Value)} (r : RepN K H js kvs xs) :
    RepN K H js (putN kvs nk kd d) (storedH xs nk b u) := by
  unfold putN storedH
  rw [r.any]
  by_cases e : (atKey xs nk).isSome = true
  · rw [if_pos e, if_pos e]; exact r.repl rv r'
  · rw [if_neg e, if_neg e]; exact r.snoc hk rk rv r'
theorem putN_len (kvs : List (NestedKey × D × D)) (k : NestedKey) (kd d : D) : (putN kvs k kd d).length ≤ kvs.length + 1 := by
  unfold putN
  split
  · rw [List.length_map]; omega
  · simp
/-- d[k] -/
theorem dget_rep {n : Nat} {k : D} {vk : V} {o : Option D} (h : dgetD S n k = some o) (rs : RelS K H js S) (rk : RepV K H js k vk) :
    ∃ a, js[n]? = some a ∧ ((o = none ∧ DG K H a vk none) ∨ ∃ d v, o = some d ∧ DG K H a vk (some v) ∧ RepV K H js d v) ∧ DK K H a := by
  unfold dgetD at h
  cases e0 : S[n]? with
  | none => rw [e0] at h; cases h
  | some ob =>
    rw [e0] at h
    simp only [Option.map_some] at h
    obtain ⟨a, e1, q⟩ := rs.at e0
    split at h
    · rename_i kvs e
      have e := Option.some.inj e
      obtain ⟨vs, ho, q⟩ := q.dicR e
      have rd : Rd H a (.dK vs) := by
        rcases ho with ho | ⟨u, ho⟩
        · exact .inl ho
        · exact .inr ⟨u, ho⟩
      cases ek : keyD k with
      | none => rw [ek] at h; cases h
      | some kk =>
        rw [ek] at h
        cases h
        have := keyD_rep ek rk
        subst this
        refine ⟨a, e1, ?_, .inl ⟨vs, rd⟩⟩
        rcases q.lk (k := kk) with ⟨x, y⟩ | ⟨d, v, x, y, z⟩
        · exact .inl ⟨x, .inl ⟨vs, kk, rd, rfl, y.symm⟩⟩
        · exact .inr ⟨d, v, x, .inl ⟨vs, kk, rd, rfl, y.symm⟩, z⟩
    · rename_i kvs e
      have e := Option.some.inj e
      obtain ⟨_, xs, ho, q⟩ := q.dinR e
      have rd : Rd H a (DinO K a xs) := by
        rcases ho with ho | ⟨u, ho⟩
        · exact .inl ho
        · exact .inr ⟨u, ho⟩
      cases ek : tkD k with
      | none => rw [ek] at h; cases h
      | some kk =>
        rw [ek] at h
        cases h
        obtain ⟨b, eb, nb⟩ := tkD_rep ek rk
        subst eb
        refine ⟨a, e1, ?_, .inr ⟨xs, rd, q.keys⟩⟩
        rcases q.lk (k := kk) with ⟨x, y⟩ | ⟨d, v, b', u, x, y, z1, z2⟩
        · exact .inl ⟨x, .inr ⟨xs, kk, b, rfl, rd, q.keys, nb, by rw [y]; exact True.intro⟩⟩
        · exact .inr ⟨d, v, x, .inr ⟨xs, kk, b, rfl, rd, q.keys, nb, by rw [y]; exact z1⟩, z2⟩
    · cases h
/-- d[k] = v -/
theorem dput_rep {n : Nat} {k v : D} {vk vv : V} {S' : Sto} (h : dputD S n k v = some S') (rs : RelS K H js S) (rk : RepV K H js k vk) (rv : RepV K H js v vv) :
    ∃ a, js[n]? = some a ∧ DP K H a vk vv fun H' => Grow H js H' js ∧ RelS K H' js S' := by
  unfold dputD at h
  split at h
  · rename_i kvs e
    obtain ⟨a, vs, e1, e2, q⟩ := rs.dict e
    split at h
    · rename_i kk ek
      split at h
      · rename_i hl
        cases h
        have := keyD_rep ek rk
        subst this
        exact ⟨a, e1, .inl ⟨vs, kk, e2, rfl, by rw [← q.len]; exact hl, Grow.put rs e1 e (fun _ z => nomatch z), rs.putO (ob := .dic _) e1 e (fun _ z => nomatch z) (q.put rv)⟩⟩
      · cases h
    · cases h
  · rename_i kvs e
    obtain ⟨a, e1, q⟩ := rs.at e
    obtain ⟨hlen, xs, e2, q⟩ := q.din
    split at h
    · rename_i nk ek
      split at h
      · rename_i hl
        cases h
        obtain ⟨b, eb, nb⟩ := tkD_rep ek rk
        subst eb
        refine ⟨a, e1, .inr ⟨xs, nk, b, rfl, e2, q.keys, nb, by rw [← q.length]; exact hl, fun u ru => ⟨Grow.put rs e1 e (fun _ z => nomatch z), rs.putO (ob := .din _) e1 e (fun _ z => nomatch z) ?_⟩⟩⟩
        have := putN_len kvs nk k v
        exact ⟨by omega, _, rfl, q.put ek rk ru rv⟩
      · cases h
    · cases h
  · cases h
/-- d.pop(k) -/
theorem ddrop_rep {n : Nat} {k v : D} {vk : V} {S' : Sto} (h : dropD S n k = some (v, S')) (rs : RelS K H js S) (rk : RepV K H js k vk) :
    ∃ a kvs kk w, js[n]? = some a ∧ H a = some (.dK kvs) ∧ vk = kV kk ∧ valV kvs kk = some w ∧ RepV K H js v w ∧ Grow H js (upd H a (.dK (dropK kvs kk))) js ∧ RelS K (upd H a (.dK (dropK kvs kk))) js S' := by
  unfold dropD at h
  split at h
  · rename_i kvs e
    obtain ⟨a, vs, e1, e2, q⟩ := rs.dict e
    split at h
    · rename_i kk ek
      split at h
      · rename_i d el
        cases h
        have := keyD_rep ek rk
        subst this
        rcases q.lk (k := kk) with ⟨x, y⟩ | ⟨d', w, x, y, z⟩
        · rw [el] at x; cases x
        · rw [el] at x; cases x
          refine ⟨a, vs, kk, w, e1, e2, rfl, y, z, Grow.put rs e1 e (fun _ z => nomatch z), rs.putO (ob := .dic _) e1 e (fun _ z => nomatch z) ?_⟩
          have gen : ∀ (l : List (L2.Key × D)) (m : List (L2.Key × V)), RepK K H js l m → RepK K H js (l.filter fun kv => decide (kv.1 ≠ kk)) (dropK m kk) := by
            intro l
            induction l with
            | nil => intro m hm; cases m with
              | nil => exact ⟨rfl, .nil⟩
              | cons _ _ => cases hm.1
            | cons p l ih =>
              intro m hm
              cases m with
              | nil => cases hm.1
              | cons q m =>
                obtain ⟨h1, h2⟩ := hm
                rw [List.map_cons, List.map_cons] at h1
                injection h1 with f1 f2
                cases h2 with
                | cons r t =>
                  obtain ⟨i1, i2⟩ := ih m ⟨f2, t⟩
                  unfold dropK at i1 i2 ⊢
                  rw [List.filter_cons, List.filter_cons]
                  have f1 : p.1 = q.1 := f1
                  by_cases e : p.1 = kk
                  · rw [if_neg (by simp [e]), if_neg (by simp [← f1, e])]
                    exact ⟨i1, i2⟩
                  · rw [if_pos (by simp [e]), if_pos (by simp [← f1, e])]
                    exact ⟨by rw [List.map_cons, List.map_cons, f1, i1], .cons r i2⟩
          exact gen kvs vs q
      · cases h
    · cases h
  · cases h

/-! ### data -/
theorem mapO_rep {f : D → Option PyData} {n : Nat} (hf : ∀ d v p, f d = some p → RepV K H js d v → Dp K.K H v p ∧ p.plain = true ∧ p.depth ≤ n) :
    ∀ {ds : List D} {vs : List V} {ps : List PyData}, mapO f ds = some ps → RepVs K H js ds vs → DpAll K.K H vs ps ∧ PyData.plainAll ps = true ∧ PyData.depthAll ps ≤ n
  | [], _, _, e, .nil => by cases e; exact ⟨.nil, rfl, by simp [PyData.depthAll]⟩
  | d :: ds, _, ps, e, .cons h t => by
    unfold mapO at e
    split at e
    · rename_i p q e1 e2
      cases e
      obtain ⟨a1, a2, a3⟩ := hf _ _ _ e1 h
      obtain ⟨b1, b2, b3⟩ := mapO_rep hf e2 t
      refine ⟨.cons a1 b1, by rw [PyData.plainAll, a2, b2]; rfl, ?_⟩
      simp only [PyData.depthAll]
      omega
    · cases e
theorem toP_rep (rs : RelS K H js S) : ∀ (n : Nat) (d : D) (v : V) (p : PyData), toP S n d = some p → RepV K H js d v → Dp K.K H v p ∧ p.plain = true ∧ p.depth ≤ n := by
  intro n
  induction n with
  | zero =>
    intro d v p e r
    cases r <;> (unfold toP at e; cases e) <;> first
      | exact ⟨.non, rfl, by simp [PyData.depth]⟩
      | exact ⟨.bl _, rfl, by simp [PyData.depth]⟩
      | exact ⟨.int _, rfl, by simp [PyData.depth]⟩
      | exact ⟨.str _, rfl, by simp [PyData.depth]⟩
  | succ n ih =>
    intro d v p e r
    have flat : ∀ (a b : Nat), a ≤ b → a ≤ b := fun _ _ h => h
    cases r with
    | non => unfold toP at e; cases e; exact ⟨.non, rfl, by simp [PyData.depth]⟩
    | bl b => unfold toP at e; cases e; exact ⟨.bl _, rfl, by simp [PyData.depth]⟩
    | int i => unfold toP at e; cases e; exact ⟨.int _, rfl, by simp [PyData.depth]⟩
    | str x => unfold toP at e; cases e; exact ⟨.str _, rfl, by simp [PyData.depth]⟩
    | tup h m q =>
      unfold toP at e
      cases e1 : mapO (toP S n) _ with
      | none => rw [e1] at e; cases e
      | some ps =>
        rw [e1] at e; cases e
        obtain ⟨b1, b2, b3⟩ := mapO_rep ih e1 q
        exact ⟨.tup (.inl (.inl h)) b1, b2, by simp only [PyData.depth]; omega⟩
    | fz h q =>
      unfold toP at e
      cases e1 : mapO (toP S n) _ with
      | none => rw [e1] at e; cases e
      | some ps =>
        rw [e1] at e; cases e
        obtain ⟨b1, b2, b3⟩ := mapO_rep ih e1 q
        exact ⟨.lst h.sq b1, b2, by simp only [PyData.depth]; omega⟩
    | @ref k a h =>
      unfold toP at e
      cases e0 : S[k]? with
      | none => rw [e0] at e; cases e
      | some o =>
        rw [e0] at e
        cases o with
        | lst ds =>
          cases e1 : mapO (toP S n) ds with
          | none =>
            have e' : Option.map PyData.list (mapO (toP S n) ds) = some p := e
            rw [e1] at e'; cases e'
          | some ps =>
            have e' : Option.map PyData.list (mapO (toP S n) ds) = some p := e
            rw [e1] at e'; cases e'
            obtain ⟨a', xs, e3, e4, e5⟩ := rs.list e0
            rw [h] at e3; cases e3
            obtain ⟨b1, b2, b3⟩ := mapO_rep ih e1 e5
            exact ⟨.lst (.inl (.inl e4)) b1, b2, by simp only [PyData.depth]; omega⟩
        | dic _ => cases e
        | din _ => cases e
        | ins _ _ => cases e
        | lk _ => cases e
end

/-! ### operators -/
def rOp (K : Kx) (f : D → D → Sto → Out D) : R2 := fun vx vy H Q => ∃ js S x y W, RelS K H js S ∧ RepV K H js x vx ∧ RepV K H js y vy ∧ OkE K H js (f x y S) W Q
def opOf : Op2 → Operator
  | .add => .Add | .sub => .Sub | .mul => .Mult | .fdiv => .FloorDiv | .mod => .Mod | .pow => .Pow
def cmOf : Cm → CmpOp
  | .eq => .Eq | .ne => .NotEq | .lt => .Lt | .le => .LtE | .gt => .Gt | .ge => .GtE | .is => .Is | .isnot => .IsNot | .inn => .In | .notin => .NotIn
section
variable {X : Cx} {cl : Nat → Option Addr}
theorem rep_fold (z : Array Nat) : ∀ (n : Nat) (acc : Array Nat), (List.replicate n z).foldl (· ++ ·) acc = acc ++ (List.replicate n z.toList).flatten.toArray
  | 0, acc => by simp
  | n + 1, acc => by
    rw [List.replicate_succ, List.foldl_cons, rep_fold z n, List.replicate_succ, List.flatten_cons]
    apply Array.toList_inj.mp
    simp
theorem op_mulS : OpR X (binaryOp .Mult) (fun x y H Q => ∃ (z : Str) (k : Int), x = .str z ∧ y = .int k ∧ 0 ≤ k ∧ k ≤ 1000 ∧ z.length ≤ 1000 ∧ Q (.str ⟨(List.replicate k.toNat z.cps.toList).flatten.toArray⟩) H) := by
  intro pins s σ H x y v u Q I rx ry h
  obtain ⟨z, k, rfl, rfl, h0, h1, h2, q⟩ := h
  obtain ⟨t, rfl⟩ := rx
  obtain ⟨t', rfl⟩ := ry
  have hm : z.length * k.toNat ≤ 1000 * 1000 := Nat.mul_le_mul h2 (by omega)
  refine PySem.P.mul_str ?_ (fun _ _ => ?_) (fun _ _ => ?_) ?_
  · rw [decide_eq_false (by omega), decide_eq_false (by omega)]; rfl
  · intro hgt
    have h3 : (z.length : Int) ≤ (2 ^ 63 - 1) / k := by
      refine (Int.le_ediv_iff_mul_le (by omega)).mpr ?_
      have e : ((z.length : Int) * k) = ((z.length * k.toNat : Nat) : Int) := by
        rw [Int.natCast_mul, Int.toNat_of_nonneg h0]
      rw [e]
      omega
    omega
  · unfold Builtin.Str.tooLong
    exact decide_eq_false (by rw [sizeLine_eq]; omega)
  · have fin : ∀ y : Str, y = ⟨(List.replicate k.toNat z.cps.toList).flatten.toArray⟩ → ∀ (s' : Shared) (tk : Tok), Inv X pins σ H s' → EP X pins σ Q (.str y tk) s' := fun y e s' tk J => ⟨.str y, H, J, ⟨_, rfl⟩, by rw [e]; exact q⟩
    by_cases hk : k < 1
    · rw [if_pos hk]
      have e : k = 0 := by omega
      subst e
      exact ⟨by decide, fin _ rfl _ _ (I.tok _)⟩
    · rw [if_neg hk]
      by_cases hz : (k == 1 || z.length == 0) = true
      · rw [if_pos hz]
        refine fin _ ?_ _ _ I
        rcases Bool.or_eq_true_iff.mp hz with e | e
        · have e : k = 1 := eq_of_beq e
          subst e
          simp
        · have e : z.length = 0 := eq_of_beq e
          have e' : z.cps = #[] := Array.size_eq_zero_iff.mp e
          have e2 : z = ⟨#[]⟩ := by cases z; simp at e'; rw [e']
          rw [e2]
          simp
      · rw [if_neg hz]
        refine ⟨?_, fin _ ?_ _ _ (I.tok _)⟩
        · rw [rep_fold]
          show (#[] ++ (List.replicate k.toNat z.cps.toList).flatten.toArray).size ≤ sizeLine
          have e1 : (#[] ++ (List.replicate k.toNat z.cps.toList).flatten.toArray).size = k.toNat * z.length := by
            simp [Str.length]
          rw [e1, Nat.mul_comm, sizeLine_eq]
          omega
        · rw [rep_fold]; simp
theorem bop_ok (op : Op2) : OpR X (binaryOp (opOf op)) (rOp (kxOf X cl) (bop op)) := by
  intro pins s σ H vx vy v u Q I rx ry h
  obtain ⟨js, S, x, y, W, rs, r1, r2, h⟩ := h
  unfold bop at h
  split at h
  · cases r1; cases r2
    exact op_add pins s σ H _ _ v u Q I rx ry ⟨_, _, rfl, rfl, h.pure rs (.int _)⟩
  · cases r1; cases r2
    exact op_sub pins s σ H _ _ v u Q I rx ry ⟨_, _, rfl, rfl, h.pure rs (.int _)⟩
  · cases r1; cases r2
    split at h
    · rename_i c
      rcases c with c | c | c
      · exact op_mul pins s σ H _ _ v u Q I rx ry ⟨_, _, rfl, rfl, .inl c, h.pure rs (.int _)⟩
      · exact op_mul pins s σ H _ _ v u Q I rx ry ⟨_, _, rfl, rfl, .inr c, h.pure rs (.int _)⟩
      · exact op_mulW pins s σ H _ _ v u Q I rx ry ⟨_, _, rfl, rfl, c, h.pure rs (.int _)⟩
    · exact h.elim
  · cases r1; cases r2
    split at h
    · rename_i c
      exact op_fdiv pins s σ H _ _ v u Q I rx ry ⟨_, _, rfl, rfl, c, h.pure rs (.int _)⟩
    · exact h.elim
  · cases r1; cases r2
    split at h
    · rename_i c
      exact op_mod pins s σ H _ _ v u Q I rx ry ⟨_, _, rfl, rfl, c, h.pure rs (.int _)⟩
    · exact h.elim
  · cases r1; cases r2
    split at h
    · rename_i c
      exact op_pow pins s σ H _ _ v u Q I rx ry ⟨_, _, rfl, rfl, c, h.pure rs (.int _)⟩
    · exact h.elim
  · cases r1; cases r2
    split at h
    · rename_i c
      exact op_add_str pins s σ H _ _ v u Q I rx ry ⟨_, _, rfl, rfl, c, h.pure rs (.str _)⟩
    · exact h.elim
  · rename_i a b
    cases r1 with
    | @tup _ pa xs h1 n1 q1 =>
      cases r2 with
      | @tup _ pb ys h2 n2 q2 =>
        split at h
        · rename_i c
          refine op_catA pins s σ H _ _ v u Q I rx ry ⟨pa, pb, xs, ys, rfl, rfl, .inl (.inl h1), .inl (.inl h2), by rw [← q1.length, ← q2.length]; exact c, fun e => ?_, fun e e' => ?_, fun e e' p hp => ?_⟩
          · subst e
            cases q1
            exact h.pure rs (.tup h2 n2 q2)
          · subst e'
            cases q2
            rw [List.append_nil] at h
            exact h.pure rs (.tup h1 n1 q1)
          · exact h.tup rs (q1.append q2) hp
        · exact h.elim
  · cases r1 with
    | ref h1 =>
      cases r2 with
      | ref h2 =>
        split at h
        · rename_i xs ys e1 e2
          split at h
          · rename_i c
            obtain ⟨a', xs', e3, e4, e5⟩ := rs.list e1
            obtain ⟨b', ys', f3, f4, f5⟩ := rs.list e2
            rw [h1] at e3; cases e3
            rw [h2] at f3; cases f3
            refine op_cat pins s σ H _ _ v u Q I rx ry ⟨_, _, _, _, rfl, rfl, e4, f4, by rw [← e5.length, ← f5.length]; exact c, fun p hp => ?_⟩
            exact h.lst rs (e5.append f5) hp
          · exact h.elim
        · exact h.elim
  · rename_i a k
    cases r2
    cases r1 with
    | @tup _ pa xs h1 n1 q1 =>
      split at h
      · rename_i c
        obtain ⟨c1, c2, c3, c4⟩ := c
        refine op_repT pins s σ H _ _ v u Q I rx ry ⟨pa, _, xs, rfl, rfl, .inl (.inl h1), ?_, c2, c3, by rw [← q1.length]; exact c4, fun p hp => h.tup rs ?_ hp⟩
        · intro z
          subst z
          cases q1
          exact c1 rfl
        · clear h c2 c3 ry
          induction k.toNat with
          | zero => exact .nil
          | succ m ih =>
            rw [List.replicate_succ, List.replicate_succ, List.flatten_cons, List.flatten_cons]
            exact q1.append ih
      · exact h.elim
  · cases r1; cases r2
    split at h
    · rename_i c
      exact op_mulS pins s σ H _ _ v u Q I rx ry ⟨_, _, rfl, rfl, c.1, c.2.1, c.2.2, h.pure rs (.str _)⟩
    · exact h.elim
  · rename_i a k
    cases r2
    cases r1 with
    | ref h1 =>
      split at h
      · rename_i xs e1
        split at h
        · rename_i c
          obtain ⟨c1, c2, c3⟩ := c
          obtain ⟨a', xs', e3, e4, e5⟩ := rs.list e1
          rw [h1] at e3; cases e3
          refine op_rep pins s σ H _ _ v u Q I rx ry ⟨_, _, _, rfl, rfl, e4, by omega, by omega, by rw [← e5.length]; exact c3, fun p hp => h.lst rs ?_ hp⟩
          clear h c2 c3 ry
          induction k.toNat with
          | zero => exact .nil
          | succ m ih =>
            rw [List.replicate_succ, List.replicate_succ, List.flatten_cons, List.flatten_cons]
            exact e5.append ih
        · exact h.elim
      · exact h.elim
  · exact h.elim
theorem aug_ok (op : Op2) : PIp X (opOf op) (rOp (kxOf X cl) (augD op)) := by
  intro pins s σ H vx vy v u Q I rx ry h
  obtain ⟨js, S, x, y, W, rs, r1, r2, h⟩ := h
  unfold augD at h
  split at h
  · cases r1; cases r2
    exact ip_add pins s σ H _ _ v u Q I rx ry ⟨_, _, rfl, rfl, h.pure rs (.int _)⟩
  · cases r1; cases r2
    exact ip_sub pins s σ H _ _ v u Q I rx ry ⟨_, _, rfl, rfl, h.pure rs (.int _)⟩
  · exact h.elim

/-! ### comparisons -/
theorem OkG.lift {K : Kx} {H : Hp} {js : List Addr} {S : Sto} {o : Option Bool} {Q : VK} {W : XK} (h : OkE K H js (lift o S) W Q) (rs : RelS K H js S) : ∃ b, o = some b ∧ Q (.bl b) H := by
  cases o with
  | none => exact h.elim
  | some b => exact ⟨b, rfl, OkG.pure (R := RepV) (d := .bl b) h rs (.bl b)⟩
theorem eqD_ok {K : Kx} {H : Hp} {js : List Addr} {S : Sto} {x y : D} {vx vy : V} {b : Bool} (h : eqD x y S = some b) (rs : RelS K H js S) (r1 : RepV K H js x vx) (r2 : RepV K H js y vy) :
    ∃ p q, Dp K.K H vx p ∧ Dp K.K H vy q ∧ p.plain = true ∧ q.plain = true ∧ min p.depth q.depth ≤ 150 ∧ PyData.eqv p q = b := by
  unfold eqD at h
  split at h
  · rename_i p q e1 e2
    cases h
    obtain ⟨a1, a2, a3⟩ := toP_rep rs _ _ _ _ e1 r1
    obtain ⟨b1, b2, b3⟩ := toP_rep rs _ _ _ _ e2 r2
    exact ⟨p, q, a1, b1, a2, b2, by omega, rfl⟩
  · cases h
theorem inD_ok {x y : D} {vx vy : V} {b : Bool} {pins : List (Addr × Obj)} {s : Shared} {σ : L2.St} {H : Hp} {js : List Addr} {S : Sto} {v u : Value} {R : Value → Shared → Prop} (hu : X.A.units + 200 < cLine) (h : inD x y S = some b) (rs : RelS (kxOf X cl) H js S) (r1 : RepV (kxOf X cl) H js x vx) (r2 : RepV (kxOf X cl) H js y vy)
    (I : Inv X pins σ H s) (rx : RelV vx v) (ry : RelV vy u) (neg : Bool) (Q : VK) (q : Q (.bl (if neg then !b else b)) H) :
    wpAny (model X.prog X.w) X.A (compareOp (if neg then .NotIn else .In) v u) (EP X pins σ Q) X.xe s := by
  unfold inD at h
  split at h
  · split at h
    · rename_i i j _ c e
      cases h
      cases r1; cases r2
      have ei : i = ⟨#[c]⟩ := by
        cases i with
        | mk cps =>
          have e' : cps.toList = [c] := e
          have : cps = #[c] := Array.toList_inj.mp (by rw [e'])
          rw [this]
      subst ei
      cases neg with
      | false => exact op_in_sign pins s σ H _ _ v u Q I rx ry ⟨c, j, rfl, rfl, q⟩
      | true => exact op_notIn_sign pins s σ H _ _ v u Q I rx ry ⟨c, j, rfl, rfl, q⟩
    · cases h
  · rename_i n
    split at h
    · rename_i ds e
      split at h
      · rename_i p qs e1 e2
        cases h
        obtain ⟨a1, a2, a3⟩ := toP_rep rs _ _ _ _ e1 r1
        have e3 : toP S 150 (.ref n) = some (.list qs) := by
          show (match S[n]? with
            | some (.lst ds) => (mapO (toP S 149) ds).map PyData.list
            | _ => none) = _
          rw [e]
          show (mapO (toP S 149) ds).map PyData.list = _
          rw [e2]
          rfl
        obtain ⟨b1, b2, b3⟩ := toP_rep rs _ _ _ _ e3 r2
        obtain ⟨as, q1⟩ := Dp.reads I p vx v a1 rx
        have hu' : X.A.units + 1 + min (PyData.depthAll qs) p.depth < cLine := by omega
        obtain ⟨bs, q2⟩ := Dp.reads I (.list qs) vy u b1 ry
        cases neg with
        | false => exact SeqAt.in_list_data q2 q1 b2 a2 hu' ⟨.bl _, H, I, rfl, q⟩
        | true => exact SeqAt.notIn_list_data q2 q1 b2 a2 hu' ⟨.bl _, H, I, rfl, q⟩
      · cases h
    · cases e : dgetD S n x with
      | none => rw [e] at h; cases h
      | some o =>
        rw [e] at h
        cases h
        obtain ⟨a, e1, g, _⟩ := dget_rep e rs r1
        cases r2 with
        | ref h2 =>
          rw [h2] at e1
          cases e1
          cases (show u = Value.ref _ from ry)
          rcases g with ⟨eo, g⟩ | ⟨d, w, eo, g, _⟩
          · subst eo
            cases neg with
            | false => exact dg_in hu I g rx fun s3 I3 => ⟨.bl false, H, I3, rfl, q⟩
            | true => exact dg_notIn hu I g rx fun s3 I3 => ⟨.bl true, H, I3, rfl, q⟩
          · subst eo
            cases neg with
            | false => exact dg_in hu I g rx fun s3 I3 => ⟨.bl true, H, I3, rfl, q⟩
            | true => exact dg_notIn hu I g rx fun s3 I3 => ⟨.bl false, H, I3, rfl, q⟩
  · have go : ∀ (p : PyData) (qs : List PyData), Dp X.K H vx p → p.plain = true → p.depth ≤ 150 → PyData.plainAll qs = true → b = (qs.any fun z => PyData.eqv z p) → (Dp X.K H vy (.tuple qs) ∨ Dp X.K H vy (.list qs)) →
        wpAny (model X.prog X.w) X.A (compareOp (if neg then .NotIn else .In) v u) (EP X pins σ Q) X.xe s := by
      intro p qs a1 a2 a3 b2 eb b1
      subst eb
      obtain ⟨as, q1⟩ := Dp.reads I p vx v a1 rx
      have hu' : X.A.units + 1 + min (PyData.depthAll qs) p.depth < cLine := by omega
      rcases b1 with b1 | b1
      · obtain ⟨bs, q2⟩ := Dp.reads I (.tuple qs) vy u b1 ry
        cases neg with
        | false => exact SeqAt.in_tuple_data q2 q1 b2 a2 hu' ⟨.bl _, H, I, rfl, q⟩
        | true => exact SeqAt.notIn_tuple_data q2 q1 b2 a2 hu' ⟨.bl _, H, I, rfl, q⟩
      · obtain ⟨bs, q2⟩ := Dp.reads I (.list qs) vy u b1 ry
        cases neg with
        | false => exact SeqAt.in_list_data q2 q1 b2 a2 hu' ⟨.bl _, H, I, rfl, q⟩
        | true => exact SeqAt.notIn_list_data q2 q1 b2 a2 hu' ⟨.bl _, H, I, rfl, q⟩
    split at h
    · rename_i p qs e1 e2
      cases h
      obtain ⟨a1, a2, a3⟩ := toP_rep rs _ _ _ _ e1 r1
      obtain ⟨b1, b2, b3⟩ := toP_rep rs _ _ _ _ e2 r2
      exact go p qs a1 a2 a3 b2 rfl (.inl b1)
    · rename_i p qs e1 e2
      cases h
      obtain ⟨a1, a2, a3⟩ := toP_rep rs _ _ _ _ e1 r1
      obtain ⟨b1, b2, b3⟩ := toP_rep rs _ _ _ _ e2 r2
      exact go p qs a1 a2 a3 b2 rfl (.inr b1)
    · cases h
theorem cop_ok (op : Cm) (hu : X.A.units + 200 < cLine) : OpR X (compareOp (cmOf op)) (rOp (kxOf X cl) (cop op)) := by
  intro pins s σ H vx vy v u Q I rx ry h
  obtain ⟨js, S, x, y, W, rs, r1, r2, h⟩ := h
  obtain ⟨b, e, q⟩ := OkG.lift h rs
  cases op with
  | eq =>
    obtain ⟨p, p', a1, b1, a2, b2, l, eb⟩ := eqD_ok e rs r1 r2
    subst eb
    obtain ⟨as, q1⟩ := Dp.reads I p vx v a1 rx
    obtain ⟨bs, q2⟩ := Dp.reads I p' vy u b1 ry
    exact SeqAt.eq_plain q1 q2 a2 b2 (by omega) ⟨.bl _, H, I, rfl, q⟩
  | ne =>
    have e : (eqD x y S).map (!·) = some b := e
    cases e2 : eqD x y S with
    | none => rw [e2] at e; cases e
    | some b' =>
      rw [e2] at e
      cases e
      obtain ⟨p, p', a1, b1, a2, b2, l, eb⟩ := eqD_ok e2 rs r1 r2
      subst eb
      obtain ⟨as, q1⟩ := Dp.reads I p vx v a1 rx
      obtain ⟨bs, q2⟩ := Dp.reads I p' vy u b1 ry
      exact SeqAt.ne_plain q1 q2 a2 b2 (by omega) ⟨.bl _, H, I, rfl, q⟩
  | lt =>
    unfold copB at e
    simp only at e
    split at e
    · cases e; cases r1; cases r2
      exact op_lt pins s σ H _ _ v u Q I rx ry ⟨_, _, rfl, rfl, q⟩
    · cases e
  | le =>
    unfold copB at e
    simp only at e
    split at e
    · cases e; cases r1; cases r2
      exact op_le pins s σ H _ _ v u Q I rx ry ⟨_, _, rfl, rfl, q⟩
    · cases e
  | gt =>
    unfold copB at e
    simp only at e
    split at e
    · cases e; cases r1; cases r2
      exact op_gt pins s σ H _ _ v u Q I rx ry ⟨_, _, rfl, rfl, q⟩
    · cases e
  | ge =>
    unfold copB at e
    simp only at e
    split at e
    · cases e; cases r1; cases r2
      exact op_ge pins s σ H _ _ v u Q I rx ry ⟨_, _, rfl, rfl, q⟩
    · cases e
  | is =>
    unfold copB at e
    simp only at e
    split at e
    · cases r2
      cases e
      refine op_isN pins s σ H _ _ v u Q I rx ry ⟨rfl, ?_⟩
      cases r1 <;> exact q
    · cases r2
      split at e
      · cases e
        cases r1
        exact op_isBl pins s σ H _ _ v u Q I rx ry ⟨_, _, rfl, rfl, q⟩
      · cases e
    · cases e
  | isnot =>
    unfold copB at e
    simp only at e
    split at e
    · cases r2
      cases e
      refine op_notN pins s σ H _ _ v u Q I rx ry ⟨rfl, ?_⟩
      cases r1 <;> exact q
    · cases r2
      split at e
      · cases e
        cases r1
        exact op_notBl pins s σ H _ _ v u Q I rx ry ⟨_, _, rfl, rfl, q⟩
      · cases e
    · cases e
  | inn => exact inD_ok hu e rs r1 r2 I rx ry false Q q (R := fun _ _ => True)
  | notin =>
    have e : (inD x y S).map (!·) = some b := e
    cases e2 : inD x y S with
    | none => rw [e2] at e; cases e
    | some b' =>
      rw [e2] at e
      cases e
      exact inD_ok hu e2 rs r1 r2 I rx ry true Q q (R := fun _ _ => True)
/-- one comparison's answer, for tests and chains -/
theorem copB_ok {op : Cm} {K : Kx} {H : Hp} {js : List Addr} {S : Sto} {x y : D} {b : Bool} {Q : VK} {W : XK} (h : copB op x y S = some b) (q : ∀ H' js', Grow H js H' js' → RelS K H' js' S → Q (.bl b) H') : OkE K H js (cop op x y S) W Q := by
  unfold cop
  rw [h]
  intro v H' js' g r q'
  cases q'
  exact q H' js' g r

/-! ### truth -/
theorem tru_rep {K : Kx} {H : Hp} {js : List Addr} {S : Sto} {x : D} {v : V} {b : Bool} (h : tru x S = some b) (rs : RelS K H js S) (r : RepV K H js x v) : TruV K.K v H b := by
  cases r with
  | non => cases h; rfl
  | bl c => cases h; rfl
  | int i => cases h; rfl
  | str z =>
    have h : (if z.length ≤ sizeLine then some ((z.length : Int) != 0) else none) = some b := h
    split at h
    · cases h; rename_i c; exact ⟨c, rfl⟩
    · cases h
  | tup h1 n q =>
    cases h
    refine .inr (.inl ⟨_, .inl (.inl h1), ?_⟩)
    cases q <;> rfl
  | fz h1 q =>
    cases h
    refine .inl ⟨_, h1.sq, ?_⟩
    cases q <;> rfl
  | @ref n a h1 =>
    have h : (match S[n]? with
      | some (.lst ds) => some (!ds.isEmpty)
      | _ => none) = some b := h
    split at h
    · rename_i e
      cases h
      obtain ⟨a', xs, e3, e4, e5⟩ := rs.list e
      rw [h1] at e3; cases e3
      refine .inl ⟨xs, .inl (.inl e4), ?_⟩
      cases e5 <;> rfl
    · cases h

/-! ### items, slices, len -/
theorem atI_rep {K : Kx} {H : Hp} {js : List Addr} {ds : List D} {vs : List V} {i : Int} {d : D} (h : atI ds i = some d) (r : RepVs K H js ds vs) : ∃ v, atI vs i = some v ∧ RepV K H js d v := by
  unfold atI at h ⊢
  rw [← r.length]
  cases e : ixN ds.length i with
  | none => rw [e] at h; cases h
  | some j =>
    rw [e] at h
    exact r.get h
theorem idx_ok (hu : X.A.units + 200 < cLine) : IxR X (rOp (kxOf X cl) idxD) := by
  intro value slice pins s σ H vx vy v u Q I rx ry h hs
  obtain ⟨js, S, x, y, W, rs, r1, r2, h⟩ := h
  unfold idxD at h
  split at h
  · cases r1; cases r2
    split at h
    · rename_i c
      split at h
      · rename_i c' e
        exact ix_str value slice pins s σ H _ _ v u Q I rx ry ⟨_, _, _, rfl, rfl, c, e, h.pure rs (.str _)⟩ hs
      · exact h.elim
    · exact h.elim
  · cases r2
    cases r1 with
    | tup h1 n1 q1 =>
      split at h
      · rename_i d e2
        obtain ⟨w, e3, r3⟩ := atI_rep e2 q1
        exact ix_tup value slice pins s σ H _ _ v u Q I rx ry ⟨_, _, _, _, rfl, rfl, .inl (.inl h1), e3, h.pure rs r3⟩ hs
      · exact h.elim
  · cases r2
    cases r1 with
    | fz h1 q1 =>
      split at h
      · rename_i d e2
        obtain ⟨w, e3, r3⟩ := atI_rep e2 q1
        exact ix_list value slice pins s σ H _ _ v u Q I rx ry ⟨_, _, _, _, rfl, rfl, h1.sq, e3, h.pure rs r3⟩ hs
      · exact h.elim
  · cases r2
    cases r1 with
    | ref h1 =>
      split at h
      · rename_i ds e
        obtain ⟨a', xs, e3, e4, e5⟩ := rs.list e
        rw [h1] at e3; cases e3
        split at h
        · rename_i d e2
          obtain ⟨w, e6, r3⟩ := atI_rep e2 e5
          exact ix_list value slice pins s σ H _ _ v u Q I rx ry ⟨_, _, _, _, rfl, rfl, .inl (.inl e4), e6, h.pure rs r3⟩ hs
        · exact h.elim
      · exact h.elim
  · cases r1 with
    | ref h1 =>
      split at h
      · rename_i d e
        obtain ⟨a', e3, g, _⟩ := dget_rep e rs r2
        rw [h1] at e3; cases e3
        cases (show v = Value.ref _ from rx)
        rcases g with ⟨z, _⟩ | ⟨d', w, z, g, rw'⟩
        · cases z
        · cases z
          exact tail_any (dg_typeIs I g) PySem.F.slot_dict_getitem.lookup (dg_getItem hu I g ry fun w' s3 I3 r3 => ⟨w, H, I3, r3, h.pure rs rw'⟩) hs
      · exact h.elim
  · exact h.elim
theorem cut_rep {K : Kx} {H : Hp} {js : List Addr} {ds : List D} {vs : List V} (lo hi : Option Int) (r : RepVs K H js ds vs) : RepVs K H js (cutL ds lo hi) (cutV vs lo hi) := by
  unfold cutL cutV
  rw [r.length]
  exact (r.drop _).take _
def rSl (K : Kx) : V → Option Int → Option Int → Hp → VK → Prop := fun vx lo hi H Q => ∃ js S x W, RelS K H js S ∧ RepV K H js x vx ∧ OkE K H js (slD x lo hi S) W Q
theorem cutV_whole {xs : List V} {lo hi : Option Int} (h : HT.sIx xs.length 0 lo = 0 ∧ HT.sIx xs.length xs.length hi = xs.length) : cutV xs lo hi = xs := by
  unfold cutV
  rw [h.1, h.2]
  simp
theorem sl_ok : SlR X (rSl (kxOf X cl)) := by
  intro pins s σ H vx v vl vu lo hi sl Q I rx hs pl pu h
  obtain ⟨js, S, x, W, rs, r1, h⟩ := h
  unfold slD at h
  split at h
  · cases r1
    split at h
    · rename_i c
      exact sl_str pins s σ H _ v vl vu lo hi sl Q I rx hs pl pu ⟨_, rfl, c, h.pure rs (.str _)⟩
    · exact h.elim
  · cases r1 with
    | @tup _ a xs h1 n1 q1 =>
      have q2 := cut_rep lo hi q1
      refine sl_tupA pins s σ H _ v vl vu lo hi sl Q I rx hs pl pu ⟨a, xs, rfl, .inl (.inl h1), fun hw => ?_, fun _ p hp => h.tup rs q2 hp⟩
      rw [cutV_whole hw] at q2
      exact h.pure rs (.tup h1 n1 q2)
  · rename_i n1 n2
    split at h
    · rename_i ds e
      obtain ⟨a, xs, ev, q, hh⟩ := itemsOf_seq e rs r1
      subst ev
      rcases hh with ⟨_, hh⟩ | ⟨hh, _⟩
      · exact absurd hh (n2 ds)
      · exact sl_list pins s σ H _ v vl vu lo hi sl Q I rx hs pl pu ⟨a, xs, rfl, hh, fun p hp => h.lst rs (cut_rep lo hi q) hp⟩
    · exact h.elim

/-! ### built-in functions -/
theorem rep_keys {K : Kx} {H : Hp} {js : List Addr} {kvs : List (L2.Key × D)} {vs : List (L2.Key × V)} (q : RepK K H js kvs vs) : RepVs K H js (kvs.map fun kv => kD kv.1) (vs.map fun kv => kV kv.1) := by
  have hk : kvs.map (fun kv => kD kv.1) = (kvs.map (·.1)).map kD := by rw [List.map_map]; rfl
  have hv : vs.map (fun kv => kV kv.1) = (vs.map (·.1)).map kV := by rw [List.map_map]; rfl
  rw [hk, hv, q.1]
  clear hk hv q
  induction vs with
  | nil => exact .nil
  | cons p vs ih =>
    rw [List.map_cons, List.map_cons, List.map_cons]
    refine .cons ?_ ih
    cases p.1 with
    | inl i => exact .int i
    | inr x => exact .str x
def rBi (K : Kx) (f : List D → Sto → Out D) : List V → Hp → VK → Prop := fun vs H Q => ∃ js S ds W, RelS K H js S ∧ RepVs K H js ds vs ∧ OkE K H js (f ds S) W Q
def biN : Bi → Str
  | .len => "len" | .tuple => "tuple" | .list => "list" | .sum => "sum" | .all => "all" | .any => "any" | .max => "max" | .min => "min" | .int => "int" | .str => "str"
def biV : Bi → Value
  | .len => .builtin "len" | .tuple => .type "tuple" | .list => .type "list" | .sum => .builtin "sum" | .all => .builtin "all" | .any => .builtin "any" | .max => .builtin "max" | .min => .builtin "min" | .int => .type "int" | .str => .type "str"
theorem dicLen_ok {x : D} {v : V} {u : Value} {n : Nat} {pins : List (Addr × Obj)} {s : Shared} {σ : L2.St} {H : Hp} {js : List Addr} {S : Sto} {Q : VK} (e : dicLen S x = some n) (rs : RelS (kxOf X cl) H js S) (rv : RepV (kxOf X cl) H js x v) (I : Inv X pins σ H s) (ru : RelV v u) (q : Q (.int n) H) :
    wpAny (model X.prog X.w) X.A (call (.builtin "len") [u]) (EP X pins σ Q) X.xe s := by
  cases rv with
  | @ref m a0 h1 =>
    cases ru
    unfold dicLen at e
    simp only at e
    cases e0 : S[m]? with
    | none => rw [e0] at e; cases e
    | some ob =>
      rw [e0] at e
      simp only [Option.map_some] at e
      obtain ⟨a, e1, r⟩ := rs.at e0
      rw [h1] at e1; cases e1
      split at e
      · rename_i kvs e2
        cases e
        obtain ⟨vs, ho, r⟩ := r.dicR (Option.some.inj e2)
        refine d_len (kvs := vs) I (by rcases ho with ho | ⟨w, ho⟩; exact .inl ho; exact .inr ⟨w, ho⟩) fun t s' I' => ?_
        rw [← r.len]
        exact ⟨.int _, H, I', ⟨t, rfl⟩, q⟩
      · rename_i kvs e2
        cases e
        obtain ⟨hl, xs, ho, r⟩ := r.dinR (Option.some.inj e2)
        obtain ⟨hd, dd⟩ := din_rd (K := kxOf X cl) I.hok (by rcases ho with ho | ⟨w, ho⟩; exact .inl ho; exact .inr ⟨w, ho⟩) r.keys
        have hk : s.heap.DictKeyed (nestedKind X.prog X.w) _ (pairsH xs) := ⟨xs, dd, rfl⟩
        have hn : (pairsH xs).length = kvs.length := by rw [pairsH_length, r.length]
        refine PyProof.Rows.call_len_slot (n := (pairsH xs).length) hk.typeIs PySem.F.slot_dict_len (fun Q' hq => len_keyed hd hk hq) (by omega) (by rw [sizeLine_eq] at hl; omega) ?_
        rw [hn]
        exact ⟨.int _, H, I.tok _, ⟨_, rfl⟩, q⟩
      · cases e
  | _ => cases e
theorem bi_ok (hc : X.calm = true) (b : Bi) : CallR X (biV b) (rBi (kxOf X cl) (biD b)) := by
  intro pins s σ H vs us Q I r h
  obtain ⟨js, S, ds, W, rs, rv, h⟩ := h
  unfold biD at h
  split at h
  · cases rv with
    | cons r1 t =>
      cases t
      unfold lenD at h
      split at h
      · cases r1
        split at h
        · rename_i c
          exact call_len_str pins s σ H _ us Q I r ⟨_, rfl, c, h.pure rs (.int _)⟩
        · exact h.elim
      · split at h
        · rename_i es e
          obtain ⟨a, xs, ev, q, hh⟩ := itemsOf_any e rs r1
          subst ev
          have hq : Q (.int xs.length) H := by rw [← q.length]; exact h.pure rs (.int _)
          exact call_len_seq pins s σ H _ us Q I r ⟨_, _, rfl, hh, hq⟩
        · split at h
          · rename_i n e
            cases r with
            | cons ru tt =>
              cases tt
              exact dicLen_ok (cl := cl) e rs r1 I ru (h.pure rs (.int _))
          · exact h.elim
  · cases rv with
    | cons r1 t =>
      cases t
      cases r1 with
      | tup h1 n1 q1 => exact call_tupleT pins s σ H _ us Q I r ⟨_, _, rfl, .inl (.inl h1), h.pure rs (.tup h1 n1 q1)⟩
  · rename_i x nx
    cases rv with
    | cons r1 t =>
      cases t
      split at h
      · rename_i es e
        obtain ⟨a, xs, ev, q, hh⟩ := itemsOf_seq e rs r1
        subst ev
        rcases hh with ⟨_, hh⟩ | ⟨hh, _⟩
        · exact absurd hh (nx es)
        · exact call_tuple_of pins s σ H _ us Q I r ⟨_, _, rfl, .inl ⟨hh, fun p hp => h.tup rs q hp⟩⟩
      · exact h.elim
  · cases rv with
    | cons r1 t =>
      cases t
      split at h
      · rename_i es e
        obtain ⟨a, xs, ev, q, hh⟩ := itemsOf_any e rs r1
        subst ev
        exact call_list_of pins s σ H _ us Q I r ⟨_, _, rfl, hh, fun p hp => h.lst rs q hp⟩
      · split at h
        · rename_i es e
          cases r1 with
          | @ref m a0 h1 =>
            unfold dKeys at e
            simp only at e
            cases e0 : S[m]? with
            | none => rw [e0] at e; cases e
            | some ob =>
              rw [e0] at e
              simp only [Option.map_some] at e
              obtain ⟨a, e1, r0⟩ := rs.at e0
              rw [h1] at e1; cases e1
              split at e
              · rename_i kvs e2
                cases e
                obtain ⟨vs, ho, r0⟩ := r0.dicR (Option.some.inj e2)
                exact call_listD hc pins s σ H _ us Q I r ⟨_, vs, rfl, by rcases ho with ho | ⟨w, ho⟩; exact .inl ho; exact .inr ⟨w, ho⟩, fun p hp => h.lst rs (rep_keys r0) hp⟩
              · cases e
          | _ => cases e
        · exact h.elim
  · cases rv with
    | cons r1 t =>
      cases t
      split at h
      · rename_i ns e
        obtain ⟨ds, e1, e2⟩ := Option.bind_eq_some_iff.mp e
        obtain ⟨a, xs, ev, q, hh⟩ := listOf_rep e1 rs r1
        subst ev
        have := intsD_rep e2 q
        subst this
        exact cr_sum hc pins s σ H _ us Q I r ⟨_, _, rfl, hh, h.pure rs (.int _)⟩
      · exact h.elim
  · cases rv with
    | cons r1 t =>
      cases t with
      | cons r2 t =>
        cases t
        cases r1
        cases r2
        exact call_max2 hc pins s σ H _ us Q I r ⟨_, _, rfl, h.pure rs (.int _)⟩
  · cases rv with
    | cons r1 t =>
      cases t with
      | cons r2 t =>
        cases t
        cases r1
        cases r2
        exact call_min2 hc pins s σ H _ us Q I r ⟨_, _, rfl, h.pure rs (.int _)⟩
  · cases rv with
    | cons r1 t =>
      cases t
      split at h
      · rename_i ns e
        split at h
        · rename_i m em
          obtain ⟨ds, e1, e2⟩ := Option.bind_eq_some_iff.mp e
          obtain ⟨a, xs, ev, q, hh⟩ := listOf_rep e1 rs r1
          subst ev
          have := intsD_rep e2 q
          subst this
          obtain ⟨m1, m2⟩ := List.max?_eq_some_iff.mp em
          refine cr_max hc pins s σ H _ us Q I r ⟨_, _, rfl, hh, List.length_pos_of_mem m1, fun m' h1 h2 => ?_⟩
          have : m' = m := Int.le_antisymm (m2 _ h1) (h2 _ m1)
          subst this
          exact h.pure rs (.int _)
        · exact h.elim
      · exact h.elim
  · cases rv with
    | cons r1 t =>
      cases t
      split at h
      · rename_i ns e
        obtain ⟨ds, e1, e2⟩ := Option.bind_eq_some_iff.mp e
        obtain ⟨a, xs, ev, q, hh⟩ := listOf_rep e1 rs r1
        subst ev
        have := boolsD_rep e2 q
        subst this
        exact cr_any hc pins s σ H _ us Q I r ⟨_, _, rfl, hh, h.pure rs (.bl _)⟩
      · exact h.elim
  · cases rv with
    | cons r1 t =>
      cases t
      split at h
      · rename_i ns e
        obtain ⟨ds, e1, e2⟩ := Option.bind_eq_some_iff.mp e
        obtain ⟨a, xs, ev, q, hh⟩ := listOf_rep e1 rs r1
        subst ev
        have := boolsD_rep e2 q
        subst this
        exact cr_all hc pins s σ H _ us Q I r ⟨_, _, rfl, hh, h.pure rs (.bl _)⟩
      · exact h.elim
  · cases rv with
    | cons r1 t =>
      cases t
      cases r1
      exact call_int1 pins s σ H _ us Q I r (.inl ⟨_, rfl, h.pure rs (.int _)⟩)
  · cases rv with
    | cons r1 t =>
      cases t
      cases r1
      exact call_int1 pins s σ H _ us Q I r (.inr ⟨_, rfl, h.pure rs (.int _)⟩)
  · cases rv with
    | cons r1 t =>
      cases t
      cases r1
      split at h
      · rename_i c
        exact call_str_int pins s σ H _ us Q I r ⟨_, rfl, c, h.pure rs (.str _)⟩
      · exact h.elim
  · exact h.elim
def rBm (K : Kx) (f : D → List D → Sto → Out D) : V → List V → Hp → VK → Prop := fun vx vs H Q => ∃ js S x ds W, RelS K H js S ∧ RepV K H js x vx ∧ RepVs K H js ds vs ∧ OkE K H js (f x ds S) W Q
theorem append_ok : MtR X "list.append" (rBm (kxOf X cl) (bmD .append)) := by
  intro pins s σ H vx vs v us Q I rx rv h
  obtain ⟨js, S, x, ds, W, rs, r1, r2, h⟩ := h
  unfold bmD at h
  split at h
  · cases r1 with
    | ref h1 =>
      cases r2 with
      | cons r3 t =>
        cases t
        split at h
        · rename_i xs e
          split at h
          · rename_i c
            obtain ⟨a', ws, e3, e4, e5⟩ := rs.list e
            rw [h1] at e3; cases e3
            have q5 := e5.append (RepVs.cons r3 .nil)
            refine mt_append pins s σ H _ _ v us Q I rx rv ⟨_, _, _, rfl, rfl, e4, by rw [← e5.length]; exact c, ?_⟩
            exact h .non _ js (Grow.put rs h1 e (fun _ z => nomatch z)) (rs.put h1 e (fun _ z => nomatch z) q5) .non
          · exact h.elim
        · exact h.elim
  · contradiction
  · contradiction
  · exact h.elim
theorem insert_ok : MtR X "list.insert" (rBm (kxOf X cl) (bmD .insert)) := by
  intro pins s σ H vx vs v us Q I rx rv h
  obtain ⟨js, S, x, ds, W, rs, r1, r2, h⟩ := h
  unfold bmD at h
  split at h
  · contradiction
  · cases r1 with
    | ref h1 =>
      cases r2 with
      | cons ri t =>
        cases ri
        cases t with
        | cons r3 t =>
          cases t
          split at h
          · rename_i xs e
            split at h
            · rename_i c
              obtain ⟨a', ws, e3, e4, e5⟩ := rs.list e
              rw [h1] at e3; cases e3
              have q5 := fun i : Nat => ((e5.take i).append (RepVs.cons r3 .nil)).append (e5.drop i)
              refine mt_insert pins s σ H _ _ v us Q I rx rv ⟨_, _, _, _, rfl, rfl, e4, by rw [← e5.length]; exact c.1, c.2.1, c.2.2, ?_⟩
              refine h .non _ js (Grow.put rs h1 e (fun _ z => nomatch z)) (rs.put h1 e (fun _ z => nomatch z) ?_) .non
              simp only [List.append_assoc, List.cons_append, List.nil_append] at q5 ⊢
              exact q5 _
            · exact h.elim
          · exact h.elim
  · contradiction
  · exact h.elim
theorem extend_ok : MtR X "list.extend" (rBm (kxOf X cl) (bmD .extend)) := by
  intro pins s σ H vx vs v us Q I rx rv h
  obtain ⟨js, S, x, ds, W, rs, r1, r2, h⟩ := h
  unfold bmD at h
  split at h
  · contradiction
  · contradiction
  · cases r1 with
    | ref h1 =>
      cases r2 with
      | cons r3 t =>
        cases t
        cases r3 with
        | ref h3 =>
          split at h
          · rename_i xs ys e e'
            split at h
            · rename_i c
              obtain ⟨a', ws, e3, e4, e5⟩ := rs.list e
              rw [h1] at e3; cases e3
              obtain ⟨b', zs, f3, f4, f5⟩ := rs.list e'
              rw [h3] at f3; cases f3
              refine mt_extend pins s σ H _ _ v us Q I rx rv ⟨_, _, _, _, rfl, rfl, e4, f4, by rw [← e5.length, ← f5.length]; exact c, ?_⟩
              exact h .non _ js (Grow.put rs h1 e (fun _ z => nomatch z)) (rs.put h1 e (fun _ z => nomatch z) (e5.append f5)) .non
            · exact h.elim
          · exact h.elim
  · exact h.elim
def rPop (K : Kx) : V → List V → Hp → VK → Prop := fun vx vs H Q => ∃ js S x W, vs = [] ∧ RelS K H js S ∧ RepV K H js x vx ∧ OkE K H js (popD x S) W Q
theorem pop_ok : MtR X "list.pop" (rPop (kxOf X cl)) := by
  intro pins s σ H vx vs v us Q I rx rv h
  obtain ⟨js, S, x, W, ev, rs, r1, h⟩ := h
  subst ev
  unfold popD at h
  split at h
  · cases r1 with
    | ref h1 =>
      split at h
      · rename_i xs e
        split at h
        · rename_i y ey
          obtain ⟨a', ws, e3, e4, e5⟩ := rs.list e
          rw [h1] at e3; cases e3
          rw [e5.length] at ey
          obtain ⟨vy, e6, ry⟩ := e5.get ey
          have tk := e5.take (xs.length - 1)
          rw [← List.dropLast_eq_take] at tk
          have tk2 : RepVs (kxOf X cl) H js xs.dropLast ws.dropLast := by
            rw [List.dropLast_eq_take (l := ws), ← e5.length]
            exact tk
          have g := Grow.put (o := .lst ws.dropLast) rs h1 e (fun _ z => nomatch z)
          exact mt_pop pins s σ H _ _ v us Q I rx rv ⟨_, _, _, rfl, rfl, e4, e6, h _ _ js g (rs.put h1 e (fun _ z => nomatch z) tk2) (ry.mono g)⟩
        · exact h.elim
      · exact h.elim
  · exact h.elim
end
end VM
/-! VT: enumerate over a tuple, zip over a tuple and a list. -/
namespace VM
open PySem PySem.Spec PyProof.Rows L2

theorem meets_enumerate_newT (l : Addr) (items : Array Value) :
    Meets (Builtin.«enumerate.__new__» ⟨[.type "enumerate", .ref l], []⟩) (fun _ R s => s.heap.IsTuple l items ∧
      R (.ok (.ret (.ref (s.heap.push { cls := .type "tuple_iterator", data := .fields #[.ref l, .int 0 0] }).objs.size)))
        { s with heap := (s.heap.push { cls := .type "tuple_iterator", data := .fields #[.ref l, .int 0 0] }).push { cls := .type "enumerate", data := .fields #[.none, .bool false, .ref s.heap.objs.size, rawInt 0, .none, .none] } }) :=
  .of_wp fun prog w A R s h => by
    obtain ⟨hp, g, d, tk, os⟩ := s; obtain ⟨hl, h⟩ := h
    have hsub := sub_enumerate
    have q1 : ∀ {A' : Around} {E : Value → Shared → Prop} {Q : Value → Shared → Prop}, Q (.ref hp.objs.size) ⟨hp.push { cls := .type "tuple_iterator", data := .fields #[.ref l, .int 0 0] }, g, d, tk, os⟩ → wpAny (model prog w) A' (pyIter (.ref l)) Q E ⟨hp, g, d, tk, os⟩ :=
      fun q => wpAny_pyIter_tuple hl q
    wp_walk using q1
    refine wpAny_stack_any fun st => wpAny_pure ?_
    split
    · rename_i c _ _ _ _ _
      cases (c == Value.type "enumerate")
      · wp_walk using q1
        exact ⟨_, rfl, h⟩
      · wp_walk using q1
        exact ⟨_, rfl, h⟩
    · wp_walk using q1
      exact ⟨_, rfl, h⟩
section
variable {prog : Program} {w : World} {A : Around} {E : Value → Shared → Prop} {s : Shared}
theorem call_enumerate_tuple {l : Addr} {items : Array Value} {Q : Value → Shared → Prop} (hL : s.heap.IsTuple l items)
    (h : ∀ h', IsEnum h' (s.heap.objs.size + 1) s.heap.objs.size 0 .none → h'.IsTupleIter s.heap.objs.size l 0 → h'.objs.size = s.heap.objs.size + 2 →
      (∀ b o, s.heap.get? b = some o → h'.get? b = some o) → Q (.ref (s.heap.objs.size + 1)) { s with heap := h' }) :
    wpAny (model prog w) A (call (.type "enumerate") [.ref l]) Q E s := by
  refine callType_new PySem.F.called_enumerate (by decide) (PySem.F.typeCall_enumerate_1 _) (PySem.F.newCall_enumerate_1 _) (fun obj => PySem.F.args_object_init_2 obj _) PySem.F.entry_enumerate_new
    (meets_enumerate_newT l items) ⟨hL, ?_⟩
  have hz : (s.heap.push { cls := .type "tuple_iterator", data := .fields #[.ref l, .int 0 0] }).objs.size = s.heap.objs.size + 1 := Heap.size_push ..
  show _ ∧ _
  rw [hz]
  have he : IsEnum ((s.heap.push { cls := .type "tuple_iterator", data := .fields #[.ref l, .int 0 0] }).push
      { cls := .type "enumerate", data := .fields #[.none, .bool false, .ref s.heap.objs.size, rawInt 0, .none, .none] }) (s.heap.objs.size + 1) s.heap.objs.size 0 .none := by
    have := Heap.get?_push_size (s.heap.push { cls := .type "tuple_iterator", data := .fields #[.ref l, .int 0 0] })
      (o := { cls := .type "enumerate", data := .fields #[.none, .bool false, .ref s.heap.objs.size, rawInt 0, .none, .none] }) rfl
    rw [hz] at this; exact this
  refine ⟨⟨_, he, rfl⟩, h _ he ⟨_, Heap.get?_push_of_some _ (Heap.get?_push_size _ rfl), rfl, rfl⟩ (by rw [Heap.size_push, hz]) fun b o x => Heap.get?_push_of_some _ (Heap.get?_push_of_some _ x)⟩
end
/-- the tuple at a, n items, each in a new pair -/
def IteT (K : PySem.W.Frag) (a : Addr) (n : Nat) : L2.It :=
  ⟨fun i H => ∃ (xs : List V) (x : V), SqT K H a xs ∧ xs.length = n ∧ xs[i]? = some x, fun i H v H' => ∃ T x, v = .ref T ∧ H T = none ∧ H' = upd H T (.tup [.int (i : Nat), x]) ∧ ∀ xs, SqT K H a xs → xs[i]? = some x,
    fun i H => ∃ xs : List V, SqT K H a xs ∧ xs.length = n ∧ n ≤ i⟩
theorem turn_enumT {P : Program} {w : World} {K : PySem.W.Frag} {elts : List Expr} {kk : Nat} {tpos : Pos} (a e it : Addr) (n : Nat) (hai : a ≠ it) (hae : a ≠ e) :
    Turn P w K (.Tuple elts kk tpos) (IteT K a n) [e, it] e (fun i h => (∃ old, IsEnum h e it ((i : Nat) : Int) old) ∧ h.IsTupleIter it a i ∧ e ≠ it ∧ i ≤ n) where
  mem := by simp
  obj := fun i h st b hb => by
    obtain ⟨⟨old, he⟩, ⟨o, ho, hc, hd⟩, _⟩ := st
    have e' : b = e ∨ b = it := by simpa using hb
    rcases e' with z | z
    · rw [z]; exact ⟨_, he, fun v q => nomatch q⟩
    · rw [z]; exact ⟨o, ho, fun v q => by rw [hd] at q; cases q⟩
  keep := fun i h h' st k => let ⟨⟨old, he⟩, hi, hne⟩ := st; ⟨⟨old, k e (by simp) _ he⟩, hi.at fun o q => k it (by simp) o q, hne⟩
  item := by
    intro X hP hw hK hc i pins s σ H E I hf st hg
    subst hP hw hK
    obtain ⟨⟨old, he⟩, hit, hne, hin⟩ := st
    obtain ⟨xs, x, hq, hn, hx⟩ := hg
    obtain ⟨its, rv, p, hz⟩ := I.tuple hq
    obtain ⟨u, hu, ru⟩ := rv.get hx
    have hel : e < s.heap.objs.size := Heap.lt_size he
    have hil : it < s.heap.objs.size := by obtain ⟨_, q, _⟩ := hit; exact Heap.lt_size q
    have hlt : i < its.toArray.size := by
      have := (List.getElem?_eq_some_iff.mp hu).1
      simpa using this
    have hh : X.A.in1.handled = none := I.ok.hd hc
    refine wpAny_pyNext_enum_itemD (Draws.tuple hh it a hai its.toArray) he ⟨hit, p⟩ hlt hne (by simp [hne, Ne.symm hae]) fun x' h' tk hP ho hst hT hsz hk => ?_
    have hxu : x' = u := by
      have : its.toArray[i]? = some x' := hP
      rw [show its.toArray[i]? = its[i]? by simp, hu] at this
      exact (Option.some.inj this).symm
    subst hxu
    refine ⟨_, rfl, wpAny_letOwnedTupleGo_enum (s := { s with heap := h', toks := tk + 1 }) ho fun h'' he' sb => ?_⟩
    have hT2 : h''.get? s.heap.objs.size = some { cls := .type "tuple", data := .seq #[.int i tk, x'] } := (sb.2 _ (Nat.ne_of_gt hel)).trans hT
    have new : ObjOk X.prog X.w (upd H s.heap.objs.size (.tup [.int (i : Nat), x])) h'' s.heap.objs.size (.tup [.int (i : Nat), x]) :=
      ⟨by show 2 ≤ sizeLine; decide, [.int i tk, x'], .cons ⟨_, rfl⟩ (.cons ru .nil), ⟨_, hT2, rfl, _, rfl⟩⟩
    have I1 : Inv X pins σ (upd H s.heap.objs.size (.tup [.int (i : Nat), x])) { s with heap := h'', toks := tk + 1 } :=
      I.turnedNew (ch := [e, it]) (fun b ob hb q => (sb.2 b (fun z => hb (by simp [z]))).trans (hk b ob (fun z => hb (by simp [z])) (fun z => hb (by simp [z])) q)) hf (Nat.le_refl _) new
    have hsiz : its.length = n := by rw [← rv.length]; exact hn
    refine ⟨.ref s.heap.objs.size, _, I1, rfl, ⟨_, x, rfl, I.hok.fresh (Nat.le_refl _), rfl, fun ys hy => by rw [I.tuple_inj hy hq]; exact hx⟩, ⟨⟨x', ?_⟩, hst.1.at fun o q => (sb.2 it (Ne.symm hne)).trans q, hne, ?_⟩, fun b hb => ?_⟩
    · have e1 : ((i + 1 : Nat) : Int) = (i : Int) + 1 := by omega
      rw [e1]; exact he'
    · have : i < its.length := by simpa using hlt
      omega
    · have hb' : b < s.heap.objs.size := by
        have e' : b = e ∨ b = it := by simpa using hb
        rcases e' with z | z
        · rw [z]; exact hel
        · rw [z]; exact hil
      rw [upd_ne (Nat.ne_of_lt hb')]
      exact (hf b hb).1
  done := by
    intro X hP hw hK hc i pins s σ H E I hf st hg
    subst hP hw hK
    obtain ⟨⟨old, he⟩, hit, hne, hin⟩ := st
    obtain ⟨xs, hq, hn, hx⟩ := hg
    obtain ⟨its, rv, p, hz⟩ := I.tuple hq
    obtain ⟨f0, f1, f2, f3, f4, f5⟩ := hf it (by simp)
    have hl := rv.length
    have hh : X.A.in1.handled = none := I.ok.hd hc
    have hi : i = its.toArray.size := by simp; omega
    subst hi
    exact wpAny_pyNext_enum_endD (Draws.tuple hh it a hai its.toArray) he ⟨hit, p⟩ fun h' eb => ⟨rfl, I.turned (t' := s.toks) (fun b o hb q => eb b o hb q) f0 f1 f3 f4 f5⟩
  self := fun A i s Q E st h => let ⟨⟨_, he⟩, _⟩ := st; wpAny_pyIter_enum he h
def iEnumT (K : PySem.W.Frag) (ta : TA) : TI := fun σ H R => ta σ H fun vs H1 => ∃ a xs, vs = [.ref a] ∧ ((SqL K H1 a xs ∧ R (Ite K a) H1) ∨ (SqT K H1 a xs ∧ R (IteT K a xs.length) H1))
theorem pi_enumT {X : Cx} {e : Expr} {ta : TA} {p pos tpos : Pos} {elts : List Expr} {kk : Nat} (hg : Gl X "enumerate") (hm : X.mg "enumerate" = none) (ha : PA X [e] ta) (hs : starEach [e] X.env = [(false, eval e X.env)] := by rfl) :
    PI X (.Tuple elts kk tpos) (.Call (.Name "enumerate" p) [e] [] pos) (iEnumT X.K ta) := by
  refine ⟨fun pins s σ H R I h => ?_⟩
  refine Call_ (ld_blt I hg hm boot_enumerate (PyProof.Rows.callWith_type1 (thn (ha.run pos pins s σ H _ I h) fun us s1 ⟨vs, H1, I1, r1, q1⟩ => ?_) hs rfl))
  obtain ⟨a, xs, ex, hq⟩ := q1
  subst ex
  cases r1 with
  | cons r rr =>
    cases rr
    cases r
    have apart : ∀ b, b ∈ [s1.heap.objs.size + 1, s1.heap.objs.size] → FpOk X pins H1 b := fun b hb => by
      have e' : b = s1.heap.objs.size + 1 ∨ b = s1.heap.objs.size := by simpa using hb
      have hle : s1.heap.objs.size ≤ b := by
        rcases e' with z | z
        · rw [z]; exact Nat.le_add_right _ _
        · rw [z]; exact Nat.le_refl _
      exact I1.fpOk hle (I1.hok.fresh hle)
    rcases hq with ⟨hq, q⟩ | ⟨hq, q⟩
    · obtain ⟨its, rv, p', hz⟩ := I1.list hq
      refine call_enumerate_list p'.isList fun h' he hit hsz hk => wpAny_pyIter_enum he ?_
      have I2 : Inv X pins σ H1 { s1 with heap := h' } := I1.kept (t' := s1.toks) hk
      exact ⟨s1.heap.objs.size + 1, [s1.heap.objs.size + 1, s1.heap.objs.size], _, _, H1, rfl, I2, turn_enum a (s1.heap.objs.size + 1) s1.heap.objs.size, ⟨⟨.none, he⟩, hit, Nat.succ_ne_self _⟩, apart, q⟩
    · obtain ⟨its, rv, p', hz⟩ := I1.tuple hq
      have la : a < s1.heap.objs.size := by obtain ⟨_, q, _⟩ := p'; exact Heap.lt_size q
      refine call_enumerate_tuple p' fun h' he hit hsz hk => wpAny_pyIter_enum he ?_
      have I2 : Inv X pins σ H1 { s1 with heap := h' } := I1.kept (t' := s1.toks) hk
      exact ⟨s1.heap.objs.size + 1, [s1.heap.objs.size + 1, s1.heap.objs.size], _, _, H1, rfl, I2, turn_enumT a (s1.heap.objs.size + 1) s1.heap.objs.size xs.length (Nat.ne_of_lt la) (Nat.ne_of_lt (Nat.lt_succ_of_lt la)), ⟨⟨.none, he⟩, hit, Nat.succ_ne_self _, Nat.zero_le _⟩, apart, q⟩

/-- the tuple at a (n items) and the list at b (m items), the items in new pairs -/
def ItzTL (K : PySem.W.Frag) (a b : Addr) (n m : Nat) : L2.It :=
  ⟨fun i H => ∃ (xs ys : List V) (x y : V), SqT K H a xs ∧ SqL K H b ys ∧ xs.length = n ∧ ys.length = m ∧ xs[i]? = some x ∧ ys[i]? = some y,
    fun i H v H' => ∃ T x y, v = .ref T ∧ H T = none ∧ H' = upd H T (.tup [x, y]) ∧ (∀ xs, SqT K H a xs → xs[i]? = some x) ∧ ∀ ys, SqL K H b ys → ys[i]? = some y,
    fun i H => ∃ xs ys : List V, SqT K H a xs ∧ SqL K H b ys ∧ xs.length = n ∧ ys.length = m ∧ (n ≤ i ∨ m ≤ i)⟩
theorem turn_zipTL {P : Program} {w : World} {K : PySem.W.Frag} {elts : List Expr} {kk : Nat} {tpos : Pos} {a b z TI TO i1 i2 : Addr} {n m : Nat} (D : ZipSep2 z TI TO i1 i2 [i1, a] [i2, b]) (ha1 : a ≠ i1) (hb2 : b ≠ i2) (h12 : i1 ≠ i2) :
    Turn P w K (.Tuple elts kk tpos) (ItzTL K a b n m) [z, TI, TO, i1, i2] z (fun i h => IsZip h z TI TO .none ∧ IsTupOf2 h TI (.ref i1) (.ref i2) ∧ (∃ x y, IsTupOf2 h TO x y) ∧ h.IsTupleIter i1 a i ∧ h.IsListIter i2 b i ∧ i ≤ n ∧ i ≤ m) where
  mem := by simp
  obj := fun i h st c hc => by
    obtain ⟨hz, hTI, ⟨x, y, hTO⟩, ⟨o1, e1, _, d1⟩, ⟨o2, e2, _, d2⟩, _⟩ := st
    have e' : c = z ∨ c = TI ∨ c = TO ∨ c = i1 ∨ c = i2 := by simpa using hc
    rcases e' with q | q | q | q | q
    · rw [q]; exact ⟨_, hz, fun v q => nomatch q⟩
    · rw [q]; exact ⟨_, hTI, fun v q => nomatch q⟩
    · rw [q]; exact ⟨_, hTO, fun v q => nomatch q⟩
    · rw [q]; exact ⟨o1, e1, fun v q => by rw [d1] at q; cases q⟩
    · rw [q]; exact ⟨o2, e2, fun v q => by rw [d2] at q; cases q⟩
  keep := fun i h h' st k => by
    obtain ⟨hz, hTI, ⟨x, y, hTO⟩, h1, h2, hn⟩ := st
    exact ⟨k z (by simp) _ hz, k TI (by simp) _ hTI, ⟨x, y, k TO (by simp) _ hTO⟩, h1.at fun o q => k i1 (by simp) o q, h2.at fun o q => k i2 (by simp) o q, hn⟩
  item := by
    intro X hP hw hK hc i pins s σ H E I hf st hg
    subst hP hw hK
    obtain ⟨hz, hTI, ⟨x0, y0, hTO⟩, h1, h2, hn1, hn2⟩ := st
    obtain ⟨xs, ys, x, y, hqx, hqy, ln, lm, hx, hy⟩ := hg
    obtain ⟨its, rv, p, _⟩ := I.tuple hqx
    obtain ⟨its2, rv2, p2, _⟩ := I.list hqy
    obtain ⟨u, hu, ru⟩ := rv.get hx
    obtain ⟨u2, hu2, ru2⟩ := rv2.get hy
    have hzl : z < s.heap.objs.size := Heap.lt_size hz
    have hh : X.A.in1.handled = none := I.ok.hd hc
    have hl1 : i < its.length := (List.getElem?_eq_some_iff.mp hu).1
    have hl2 : i < its2.length := (List.getElem?_eq_some_iff.mp hu2).1
    refine wpAny_pyNext_zipD2_item D (Draws.tuple hh i1 a ha1 its.toArray) (Draws.list hh i2 b hb2 its2.toArray) hz hTI hTO ⟨h1, p⟩ ⟨h2, p2.isList⟩ (by simpa using hl1) (by simpa using hl2) fun x' y' h' tk hP1 hP2 z' TO' st1 st2 hT hsz hk => ?_
    have hxu : x' = u := by
      have : its.toArray[i]? = some x' := hP1
      rw [show its.toArray[i]? = its[i]? by simp, hu] at this
      exact (Option.some.inj this).symm
    have hyu : y' = u2 := by
      have : its2.toArray[i]? = some y' := hP2
      rw [show its2.toArray[i]? = its2[i]? by simp, hu2] at this
      exact (Option.some.inj this).symm
    subst hxu hyu
    have kTI : h'.get? TI = some { cls := .type "tuple", data := .seq #[.ref i1, .ref i2] } := hk TI _ D.TIz D.TITO D.TIi1 D.TIi2 hTI
    refine ⟨_, rfl, wpAny_letOwnedTupleGo_zip (s := { s with heap := h', toks := tk }) z' fun h'' z'' sb => ?_⟩
    have hT2 : h''.get? s.heap.objs.size = some { cls := .type "tuple", data := .seq #[x', y'] } := (sb.2 _ (Nat.ne_of_gt hzl)).trans hT
    have new : ObjOk X.prog X.w (upd H s.heap.objs.size (.tup [x, y])) h'' s.heap.objs.size (.tup [x, y]) :=
      ⟨by show 2 ≤ sizeLine; decide, [x', y'], .cons ru (.cons ru2 .nil), ⟨_, hT2, rfl, _, rfl⟩⟩
    have I1 : Inv X pins σ (upd H s.heap.objs.size (.tup [x, y])) { s with heap := h'', toks := tk } :=
      I.turnedNew (t' := tk) (ch := [z, TI, TO, i1, i2]) (fun c o hb q => (sb.2 c (fun q' => hb (by simp [q']))).trans (hk c o (fun q' => hb (by simp [q'])) (fun q' => hb (by simp [q'])) (fun q' => hb (by simp [q'])) (fun q' => hb (by simp [q'])) q)) hf (Nat.le_refl _) new
    have zi1 := D.zi1
    have zi2 := D.zi2
    have s1 : its.length = n := by rw [← rv.length]; exact ln
    have s2 : its2.length = m := by rw [← rv2.length]; exact lm
    refine ⟨.ref s.heap.objs.size, _, I1, rfl, ⟨_, x, y, rfl, I.hok.fresh (Nat.le_refl _), rfl, fun l hl => by rw [I.tuple_inj hl hqx]; exact hx, fun l hl => by rw [I.list_inj hl hqy]; exact hy⟩, ⟨z'', ?_, ⟨x', y', ?_⟩, ?_, ?_, by omega, by omega⟩, fun c hcm => ?_⟩
    · exact (sb.2 _ D.TIz).trans kTI
    · exact (sb.2 _ D.TOz).trans TO'
    · exact st1.1.at fun o q => (sb.2 _ (Ne.symm zi1)).trans q
    · exact st2.1.at fun o q => (sb.2 _ (Ne.symm zi2)).trans q
    · have hlt : c < s.heap.objs.size := by
        have e' : c = z ∨ c = TI ∨ c = TO ∨ c = i1 ∨ c = i2 := by simpa using hcm
        rcases e' with q | q | q | q | q
        · rw [q]; exact hzl
        · rw [q]; exact Heap.lt_size hTI
        · rw [q]; exact Heap.lt_size hTO
        · rw [q]; obtain ⟨_, e1, _⟩ := h1; exact Heap.lt_size e1
        · rw [q]; obtain ⟨_, e2, _⟩ := h2; exact Heap.lt_size e2
      rw [upd_ne (Nat.ne_of_lt hlt)]
      exact (hf c hcm).1
  done := by
    intro X hP hw hK hc i pins s σ H E I hf st hg
    subst hP hw hK
    obtain ⟨hz, hTI, ⟨x0, y0, hTO⟩, h1, h2, hn1, hn2⟩ := st
    obtain ⟨xs, ys, hqx, hqy, ln, lm, hend⟩ := hg
    obtain ⟨its, rv, p, _⟩ := I.tuple hqx
    obtain ⟨its2, rv2, p2, _⟩ := I.list hqy
    have s1 : its.length = n := by rw [← rv.length]; exact ln
    have s2 : its2.length = m := by rw [← rv2.length]; exact lm
    have hh : X.A.in1.handled = none := I.ok.hd hc
    exact wpAny_pyNext_zipD2_end D (Draws.tuple hh i1 a ha1 its.toArray) (Draws.list hh i2 b hb2 its2.toArray) hz hTI hTO ⟨h1, p⟩ ⟨h2, p2.isList⟩ (by simp; omega) (by simp; omega) (by simp; omega) fun h' tk hk => ⟨rfl, I.turnedL (t' := tk) (ch := [z, TI, TO, i1, i2]) (fun c o hb q =>
      hk c o (fun q' => hb (by simp [q'])) (fun q' => hb (by simp [q'])) (fun q' => hb (by simp [q'])) (fun q' => hb (by simp [q'])) q) hf⟩
  self := fun A i s Q E st h => wpAny_pyIter_zip st.1 h
theorem nm2 {x y z : Nat} (h : x ≠ y) (h' : x ≠ z) : x ∉ [y, z] := by simp [h, h']
theorem nn {x y : Nat} (h : x ≠ y) : x ≠ y := h
theorem sep5 (N a b : Nat) (la : a < N) (lb : b < N) : ZipSep2 (N + 4) (N + 2) (N + 3) N (N + 1) [N, a] [N + 1, b] where
  TIz := nn (by omega)
  TOz := nn (by omega)
  TITO := nn (by omega)
  TIi1 := nn (by omega)
  mem1 := by simp
  zf1 := nm2 (by omega) (by omega)
  Tf1 := nm2 (by omega) (by omega)
  TIi2 := nn (by omega)
  mem2 := by simp
  zf2 := nm2 (by omega) (by omega)
  Tf2 := nm2 (by omega) (by omega)
  sep1_2 := nm2 (by omega) (by omega)
  sep2_1 := nm2 (by omega) (by omega)
def iZipTL (K : PySem.W.Frag) (ta : TA) : TI := fun σ H R => ta σ H fun vs H1 => ∃ a b xs ys, vs = [.ref a, .ref b] ∧ SqT K H1 a xs ∧ SqL K H1 b ys ∧ R (ItzTL K a b xs.length ys.length) H1
theorem pi_zipTL {X : Cx} {e e2 : Expr} {ta : TA} {p pos tpos : Pos} {elts : List Expr} {kk : Nat} (hg : Gl X "zip") (hm : X.mg "zip" = none) (ha : PA X [e, e2] ta)
    (hs : starEach [e, e2] X.env = (false, eval e X.env) :: starEach [e2] X.env := by rfl) (hpl : (backTo pos (starEach [e2] X.env)).any (·.1) = false := by rfl) :
    PI X (.Tuple elts kk tpos) (.Call (.Name "zip" p) [e, e2] [] pos) (iZipTL X.K ta) := by
  refine ⟨fun pins s σ H R I h => ?_⟩
  refine Call_ (ld_blt I hg hm PyProof.Rows.boot_zip (PyProof.Rows.callWith_type1 (thn (ha.run pos pins s σ H _ I h) fun us s1 ⟨vs, H1, I1, r1, q1⟩ => ?_) hs hpl))
  obtain ⟨a, b, xs, ys, ex, hqx, hqy, q⟩ := q1
  subst ex
  cases r1 with
  | cons r rr =>
    cases rr with
    | cons r' rr =>
      cases rr
      cases r
      cases r'
      have fresh5 : ∀ c, c ∈ [s1.heap.objs.size + 4, s1.heap.objs.size + 2, s1.heap.objs.size + 3, s1.heap.objs.size, s1.heap.objs.size + 1] → FpOk X pins H1 c := fun c hcm => by
        have e' : c = s1.heap.objs.size + 4 ∨ c = s1.heap.objs.size + 2 ∨ c = s1.heap.objs.size + 3 ∨ c = s1.heap.objs.size ∨ c = s1.heap.objs.size + 1 := by simpa using hcm
        have hle : s1.heap.objs.size ≤ c := by
          rcases e' with z | z | z | z | z
          · rw [z]; exact Nat.le_add_right _ _
          · rw [z]; exact Nat.le_add_right _ _
          · rw [z]; exact Nat.le_add_right _ _
          · rw [z]; exact Nat.le_refl _
          · rw [z]; exact Nat.le_add_right _ _
        exact I1.fpOk hle (I1.hok.fresh hle)
      obtain ⟨its, rv, p1, _⟩ := I1.tuple hqx
      obtain ⟨its2, rv2, p2, _⟩ := I1.list hqy
      have la : a < s1.heap.objs.size := by obtain ⟨_, q, _⟩ := p1; exact Heap.lt_size q
      have lb : b < s1.heap.objs.size := p2.lt
      refine zip_begins2 (begins_tuple a its.toArray) (begins_list b its2.toArray) p1 p2.isList fun h' hz hTI hTO h1 h2 hsz hk => wpAny_pyIter_zip hz ?_
      have I2 : Inv X pins σ H1 { s1 with heap := h' } := I1.kept (t' := s1.toks) hk
      have S : ZipSep2 (s1.heap.objs.size + 4) (s1.heap.objs.size + 2) (s1.heap.objs.size + 3) s1.heap.objs.size (s1.heap.objs.size + 1) [s1.heap.objs.size, a] [s1.heap.objs.size + 1, b] := by
        exact sep5 _ _ _ la lb
      exact ⟨s1.heap.objs.size + 4, [s1.heap.objs.size + 4, s1.heap.objs.size + 2, s1.heap.objs.size + 3, s1.heap.objs.size, s1.heap.objs.size + 1], _, _, H1, rfl, I2, turn_zipTL S (Nat.ne_of_lt la) (Nat.ne_of_lt (Nat.lt_succ_of_lt lb)) (Nat.ne_of_lt (Nat.lt_succ_self _)), ⟨hz, hTI, ⟨_, _, hTO⟩, ⟨_, h1, rfl, rfl⟩, ⟨_, h2, rfl, rfl⟩, Nat.zero_le _, Nat.zero_le _⟩, fresh5, q⟩

/-! ### t[::-1], a tuple -/
section
variable {prog : Program} {w : World} {A : Around} {E : Value → Shared → Prop} {s : Shared}
theorem sliceApplied_rev {sl : Addr} {vl vu vs : Value} {n : Nat} {Q : Int × Int × Nat → Shared → Prop} (hs : s.heap.IsSliceOf sl vl vu vs) (pl : IsPart vl none) (pu : IsPart vu none) (ps : IsPart vs (some (-1)))
    (h : Q ((n : Int) - 1, -1, n) s) : wpAny (model prog w) A (Builtin.Slice.sliceApplied (.ref sl) (pure (n : Int))) Q E s := by
  obtain ⟨os, hos, hcs, hds⟩ := id hs
  unfold Builtin.Slice.sliceApplied Builtin.Slice.sliceFields
  refine wpAny_bind (wpAny_bind (wpAny_field hos hds (x := vl) rfl (wpAny_bind (wpAny_field hos hds (x := vu) rfl (wpAny_bind (wpAny_field hos hds (x := vs) rfl (wpAny_pure ?_)))))))
  refine wpAny_bind (HT.slicePart_ ps ?_)
  show wpAny _ _ (if ((-1 : Int) == 0) = true then _ else _) _ _ s
  rw [if_neg (by decide)]
  refine wpAny_bind (HT.slicePart_ pl (wpAny_bind (HT.slicePart_ pu (wpAny_bind (wpAny_pure ?_)))))
  show wpAny _ _ (match Builtin.Slice.sliceAdjust none none (-1) (n : Int) with | (lo, hi) => pure (lo, (-1 : Int), Builtin.Slice.slicePlaces lo hi (-1))) _ _ s
  have e1 : Builtin.Slice.sliceAdjust none none (-1) (n : Int) = ((n : Int) - 1, -1) := rfl
  rw [e1]
  show wpAny _ _ (pure ((n : Int) - 1, (-1 : Int), Builtin.Slice.slicePlaces ((n : Int) - 1) (-1) (-1))) _ _ s
  have e2 : Builtin.Slice.slicePlaces ((n : Int) - 1) (-1) (-1) = n := by
    unfold Builtin.Slice.slicePlaces
    have h1 : ¬ ((-1 : Int) > 0) := by omega
    simp only [h1, if_false]
    have h2 : (- -1 : Int) = 1 := by decide
    rw [h2, Int.ediv_one]
    split <;> omega
  rw [e2]
  exact wpAny_pure h
theorem fm_congr {α β : Type} {f g : α → Option β} : ∀ l : List α, (∀ x ∈ l, f x = g x) → l.filterMap f = l.filterMap g
  | [], _ => rfl
  | x :: l, h => by rw [List.filterMap_cons, List.filterMap_cons, h x List.mem_cons_self, fm_congr l fun y hy => h y (List.mem_cons_of_mem _ hy)]
theorem pick_rev (xs : Array Value) : ((List.range xs.size).filterMap fun (m : Nat) => xs[((xs.size : Int) - 1 + (m : Int) * (-1)).toNat]?).toArray = xs.toList.reverse.toArray := by
  have e : ((List.range xs.size).filterMap fun (m : Nat) => xs[((xs.size : Int) - 1 + (m : Int) * (-1)).toNat]?) = ((List.range xs.size).map fun k => xs.size - 1 - k).filterMap (xs[·]?) := by
    rw [List.filterMap_map]
    refine fm_congr _ fun m hm => ?_
    have hm' := List.mem_range.mp hm
    have : ((xs.size : Int) - 1 + (m : Int) * (-1)).toNat = xs.size - 1 - m := by omega
    show xs[((xs.size : Int) - 1 + (m : Int) * (-1)).toNat]? = xs[xs.size - 1 - m]?
    rw [this]
  rw [e, PySem.W.krv_range, List.filterMap_reverse, PySem.W.krv_all]
theorem getItem_tuple_rev {t sl : Addr} {items : Array Value} {vl vu vs : Value} {Q : Value → Shared → Prop} (ht : IsTup s.heap t items) (hs : s.heap.IsSliceOf sl vl vu vs) (pl : IsPart vl none) (pu : IsPart vu none) (ps : IsPart vs (some (-1)))
    (h : Q (.ref s.heap.objs.size) { s with heap := s.heap.push { cls := .type "tuple", data := .seq items.toList.reverse.toArray } })
    (hsz : items.size ≤ sizeLine) : wpAny (model prog w) A (getItem (.ref t) (.ref sl)) Q E s := by
  have htake : sizeOk (.seq items.toList.reverse.toArray) := by
    show items.toList.reverse.toArray.size ≤ sizeLine
    rw [List.size_toArray, List.length_reverse, Array.length_toList]
    exact hsz
  obtain ⟨os, hos, hcs, hds⟩ := id hs
  have hTs : s.TypeIs (.ref sl) "slice" := ⟨os, hos, hcs⟩
  unfold getItem
  try with_reducible refine wpAny_holding ?_
  first | refine wpAny_bind (wpAny_pure ?_) | skip
  refine wpAny_bind (wpAny_sequenceKey ht.typeIs (by decide) ?_)
  refine wpAny_bind (wpAny_callSpecial?_slot (name := Str.ofString "__getitem__") ht.typeIs PyProof.Rows.slot_tuple_getitem
    (wpAny_call_entry PyProof.Rows.slot_tuple_getitem ht.typeIs entry_tuple_getitem ?_ (args_tuple_getitem _ _)))
  show wpAny _ _ (Builtin.Tuple.tupleItemsOf (.ref t) >>= _) _ _ s
  refine wpAny_bind (tupleItemsOf_ ht ?_)
  refine wpAny_bind (wpAny_typeOf hTs ?_)
  rw [if_pos (by decide)]
  refine wpAny_bind (sliceApplied_rev hs pl pu ps ?_)
  have hno : ¬ ((((items.size : Int) - 1) == 0 && (-1 : Int) == 1 && items.size == items.size) = true) := by
    have e : ((-1 : Int) == 1) = false := by decide
    rw [e]
    simp
  show wpAny _ _ (if (((items.size : Int) - 1) == 0 && (-1 : Int) == 1 && items.size == items.size) = true then _ else _) _ _ s
  rw [if_neg hno, pick_rev]
  first
    | exact wpAny_bind (m := Builtin.Tuple.tupleExact _) (wpAny_newObj_type (wpAny_pure ⟨_, rfl, wpAny_pure h⟩) htake)
    | exact wpAny_bind (m := Builtin.Tuple.tupleExact _) (wpAny_newObj_type (wpAny_bind (wpAny_pure (wpAny_pure ⟨_, rfl, wpAny_pure h⟩))) htake)
    | exact wpAny_bind (wpAny_bind (m := Builtin.Tuple.tupleExact _) (wpAny_newObj_type (wpAny_pure (wpAny_pure ⟨_, rfl, wpAny_pure h⟩)) htake))
    | exact wpAny_bind (wpAny_bind (m := Builtin.Tuple.tupleExact _) (wpAny_newObj_type (wpAny_pure ⟨_, rfl, wpAny_pure h⟩) htake))
end
def tRevA (K : PySem.W.Frag) (te : TE) : TE := fun σ H Q => te σ H fun x H1 => ∃ a xs, x = .ref a ∧ ((SqL K H1 a xs ∧ ∀ p, H1 p = none → Q (.ref p) (upd H1 p (.lst xs.reverse))) ∨ (SqT K H1 a xs ∧ ∀ p, H1 p = none → Q (.ref p) (upd H1 p (.tup xs.reverse))))
theorem pe_revA {X : Cx} {e : Expr} {te : TE} {k : Nat} {p1 p2 p3 pos : Pos} (he : PE X e te) : PE X (.Subscript e (.Slice none none (some (.UnaryOp .USub (.Constant (.int 1) k p1) p2)) p3) pos) (tRevA X.K te) := by
  refine ⟨fun pins s σ H Q I h => ?_⟩
  refine Subscript_ (thn (he.run pins s σ H _ I h) fun v s1 ⟨x, H1, I1, r1, q1⟩ => ?_)
  obtain ⟨a, xs, ex, hx⟩ := q1
  subst ex
  cases r1
  have hst : PO X (some (.UnaryOp .USub (.Constant (.int 1) k p1) p2)) (tPart (tUn (rU fun i => .int (-i)) (tC (.int 1)))) := po_some (pe_un un_neg pe_int)
  refine wpAny_Slice (thn (po_none.run pins s1 σ H1 (fun o H2 => o = none ∧ H2 = H1) I1 ⟨rfl, rfl⟩) fun vl s2 ⟨l, H2, I2, pl, el, e2⟩ => ?_)
  subst el e2
  refine thn (po_none.run pins s2 σ H2 (fun o H3 => o = none ∧ H3 = H2) I2 ⟨rfl, rfl⟩) fun vu s3 ⟨u, H3, I3, pu, eu, e3⟩ => ?_
  subst eu e3
  refine thn (hst.run pins s3 σ H3 (fun o H4 => o = some (-1) ∧ H4 = H3) I3 ⟨1, rfl, -1, rfl, rfl, rfl⟩) fun vs s4 ⟨o, H4, I4, ps, eo, e4⟩ => ?_
  subst eo e4
  have I5 : Inv X pins σ H4 { s4 with heap := s4.heap.push { cls := .type "slice", data := .fields #[vl, vu, vs] } } := I4.kept (t' := s4.toks) fun b ob q => Heap.get?_push_of_some _ q
  show wpAny (model X.prog X.w) X.A (subscriptTail e (.Slice none none (some (.UnaryOp .USub (.Constant (.int 1) k p1) p2)) p3) (.ref a) (.ref s4.heap.objs.size)) (EP X pins σ Q) X.xe { s4 with heap := s4.heap.push { cls := .type "slice", data := .fields #[vl, vu, vs] } }
  rcases hx with ⟨hx, q⟩ | ⟨hx, q⟩
  · obtain ⟨its, r, ht, hz⟩ := I5.list hx
    have hlen := r.length
    refine tail_any (ops := [.ref a, .ref s4.heap.objs.size]) ht.isList.typeIs (PySem.slot_list_getitem.lookup) ?_ (by with_unfolding_all rfl)
    refine wpAny_getItem_list_slice ht.isList (Heap.IsSliceOf.new _ vl vu vs) pl pu ps (by decide) ?_ (by rw [List.size_toArray]; omega)
    rw [PySem.W.krv_pick]
    refine ⟨.ref _, _, I5.laid (t' := s4.toks) (o := .lst xs.reverse) (fun b ob q => Heap.get?_push_of_some _ q) (Nat.le_refl _) ?_, rfl, q _ (I5.hok.fresh (Nat.le_refl _))⟩
    exact ⟨by rw [List.length_reverse]; exact hz, _, 0, r.reverse, Heap.get?_push_size _ rfl⟩
  · obtain ⟨its, r, ht, hz⟩ := I5.tuple hx
    have hlen := r.length
    refine tail_any (ops := [.ref a, .ref s4.heap.objs.size]) ht.typeIs (PyProof.Rows.slot_tuple_getitem.lookup) ?_ (by with_unfolding_all rfl)
    refine getItem_tuple_rev ht (Heap.IsSliceOf.new _ vl vu vs) pl pu ps ?_ (by rw [List.size_toArray]; omega)
    refine ⟨.ref _, _, I5.laid (t' := s4.toks) (o := .tup xs.reverse) (fun b ob q => Heap.get?_push_of_some _ q) (Nat.le_refl _) ?_, rfl, q _ (I5.hok.fresh (Nat.le_refl _))⟩
    exact ⟨by rw [List.length_reverse]; exact hz, its.reverse, r.reverse, ⟨_, Heap.get?_push_size _ rfl, rfl, 0, by simp⟩⟩
end VM
/-! WT: more rules over the layer: slices with a step, max with a default, locking a dict that is walked. -/
namespace VM
open PySem PySem.Spec PyProof.Rows L2

/-! ### xs[i::k] -/
theorem Vals.pick {xs : List V} {us : List Value} (r : Vals xs us) : ∀ ix : List Nat, Vals (ix.filterMap (xs[·]?)) (ix.filterMap (us[·]?))
  | [] => .nil
  | i :: ix => by
    rw [List.filterMap_cons, List.filterMap_cons]
    cases e : xs[i]? with
    | none => rw [r.none_of e]; exact Vals.pick r ix
    | some x =>
      obtain ⟨u, e1, r1⟩ := r.get e
      rw [e1]
      exact .cons r1 (Vals.pick r ix)
def pickVs (xs : List V) (lo st : Int) : List V :=
  (sliceRange (sliceBounds (some lo) none (some st) xs.length).1 (sliceBounds (some lo) none (some st) xs.length).2.1 (sliceBounds (some lo) none (some st) xs.length).2.2).filterMap (xs[·]?)
theorem RepVs.pick {K : Kx} {H : Hp} {js : List Addr} {ds : List D} {xs : List V} (r : RepVs K H js ds xs) : ∀ ix : List Nat, RepVs K H js (ix.filterMap (ds[·]?)) (ix.filterMap (xs[·]?))
  | [] => .nil
  | i :: ix => by
    rw [List.filterMap_cons, List.filterMap_cons]
    cases e : ds[i]? with
    | none =>
      have : xs[i]? = none := by
        rw [List.getElem?_eq_none_iff] at e ⊢
        rw [← r.length]; exact e
      rw [this]; exact RepVs.pick r ix
    | some x =>
      obtain ⟨u, e1, r1⟩ := r.get e
      rw [e1]
      exact .cons r1 (RepVs.pick r ix)
def tSlst (K : PySem.W.Frag) (te tl ts : TE) : TE := fun σ H Q => te σ H fun x H1 => tl σ H1 fun l H2 => ts σ H2 fun t H3 => ∃ a xs lo st, x = .ref a ∧ l = .int lo ∧ t = .int st ∧ SqL K H3 a xs ∧ st ≠ 0 ∧ (pickVs xs lo st).length ≤ sizeLine ∧
  ∀ p, H3 p = none → Q (.ref p) (upd H3 p (.lst (pickVs xs lo st)))
theorem pick_eq {xs : List V} {its : List Value} (r : Vals xs its) (lo st : Int) : Vals (pickVs xs lo st) (slicePick its.toArray (some lo) none (some st)).toList := by
  have := Vals.pick r (sliceRange (sliceBounds (some lo) none (some st) xs.length).1 (sliceBounds (some lo) none (some st) xs.length).2.1 (sliceBounds (some lo) none (some st) xs.length).2.2)
  unfold pickVs slicePick
  rw [List.size_toArray, ← r.length]
  simpa using this
theorem pe_slst {X : Cx} {e l t : Expr} {te tl ts : TE} {p3 pos : Pos} (he : PE X e te) (hl : PE X l tl) (hs : PE X t ts) : PE X (.Subscript e (.Slice (some l) none (some t) p3) pos) (tSlst X.K te tl ts) := by
  refine ⟨fun pins s σ H Q I h => ?_⟩
  refine Subscript_ (thn (he.run pins s σ H _ I h) fun v s1 ⟨x, H1, I1, r1, q1⟩ => ?_)
  have q1' : tPart tl σ H1 (fun o H2 => ts σ H2 fun t H3 => ∃ a xs lo st, x = .ref a ∧ o = some lo ∧ t = .int st ∧ SqL X.K H3 a xs ∧ st ≠ 0 ∧ (pickVs xs lo st).length ≤ sizeLine ∧ ∀ p, H3 p = none → Q (.ref p) (upd H3 p (.lst (pickVs xs lo st)))) ∨ True := .inr trivial
  refine wpAny_Slice ?_
  rw [evalPart_some]
  refine thn (hl.run pins s1 σ H1 _ I1 q1) fun vl s2 ⟨l, H2, I2, pl, q2⟩ => ?_
  refine thn (po_none.run pins s2 σ H2 (fun o H3 => o = none ∧ H3 = H2) I2 ⟨rfl, rfl⟩) fun vu s3 ⟨u, H3, I3, pu, eu, e3⟩ => ?_
  subst eu e3
  rw [evalPart_some]
  refine thn (hs.run pins s3 σ H3 _ I3 q2) fun vs s4 ⟨t, H4, I4, ps, a, xs, lo, st, ex, el, et, hx, h0, hz, q⟩ => ?_
  subst ex el et
  cases r1
  obtain ⟨tl', rfl⟩ := pl
  obtain ⟨ts', rfl⟩ := ps
  have I5 : Inv X pins σ H4 { s4 with heap := s4.heap.push { cls := .type "slice", data := .fields #[.int lo tl', vu, .int st ts'] } } := I4.kept (t' := s4.toks) fun b ob q => Heap.get?_push_of_some _ q
  obtain ⟨its, r, ht, hz'⟩ := I5.list hx
  have hlen := r.length
  refine tail_any (ops := [.ref a, .ref s4.heap.objs.size]) ht.isList.typeIs (PySem.slot_list_getitem.lookup) ?_ (by with_unfolding_all rfl)
  refine wpAny_getItem_list_slice ht.isList (Heap.IsSliceOf.new _ _ vu _) (.int lo tl') pu (.int st ts') (by intro z; cases z; exact h0 rfl) ?_ (by rw [List.size_toArray]; omega)
  have rp := pick_eq r lo st
  refine ⟨.ref _, _, I5.laid (t' := s4.toks) (o := .lst (pickVs xs lo st)) (fun b ob q => Heap.get?_push_of_some _ q) (Nat.le_refl _) ?_, rfl, q _ (I5.hok.fresh (Nat.le_refl _))⟩
  exact ⟨hz, _, 0, rp, Heap.get?_push_size _ rfl⟩

/-! ### max(xs, default=d) of ints -/
def rMaxDf (K : PySem.W.Frag) : List V → List V → Hp → VK → Prop := fun vs zs H Q => ∃ (a : Addr) (ns : List Int) (j : Int), vs = [.ref a] ∧ zs = [.int j] ∧ SqL K H a (ns.map V.int) ∧ Q (.int (ns.max?.getD j)) H
theorem ints_reads {h : Heap} : ∀ {ns : List Int} {us : List Value}, Vals (ns.map V.int) us → ReadsAll h us (ns.map PyData.int) []
  | [], _, r => by cases r; exact .nil
  | n :: ns, _, r => by
    cases r with
    | cons r1 t =>
      obtain ⟨tk, rfl⟩ := r1
      exact .cons (.int n tk) (ints_reads t)
theorem maxD_max (n : Int) (ns : List Int) (j : Int) : PySem.W.maxD (.int n) (ns.map .int) = .int ((n :: ns).max?.getD j) := by
  rw [PySem.W.maxD_ints, List.max?_cons']
  rfl
theorem ints_alike (ns : List Int) : PySem.W.AlikeAll (ns.map PyData.int) := by
  refine ⟨fun x hx y hy => ?_, fun x hx => ?_⟩
  · obtain ⟨a, _, rfl⟩ := List.mem_map.mp hx
    obtain ⟨b, _, rfl⟩ := List.mem_map.mp hy
    rfl
  · obtain ⟨a, _, rfl⟩ := List.mem_map.mp hx
    intro z; cases z
theorem ints_depth : ∀ ns : List Int, PyData.depthAll (ns.map PyData.int) = 0
  | [] => rfl
  | n :: ns => by rw [List.map_cons, PyData.depthAll, ints_depth ns]; rfl
theorem cr_maxDf {X : Cx} (hc : X.calm = true) (hu : X.A.units + 200 < cLine) : CallRK X (.builtin "max") ["default"] (rMaxDf X.K) := by
  intro pins s σ H xs zs us ws Q I r rz h
  obtain ⟨a, ns, j, rfl, rfl, hx, q⟩ := h
  cases r with
  | cons r1 t =>
    cases t
    cases r1
    cases rz with
    | cons r2 t =>
      cases t
      obtain ⟨tj, rfl⟩ := r2
      obtain ⟨its, rr, ht, hz⟩ := I.list hx
      show wpAny _ _ (call (.builtin "max") [.ref a] [(("default" : Str), Value.int j tj)]) _ _ _
      refine PySem.W.max_list_default (I.ok.hd hc) ht.isList (xs := ns.map PyData.int) (as := []) (by simpa using ints_reads rr) (ints_alike ns) (by rw [ints_depth]; omega) (fun e h' tk hk => ?_) (fun y ys i v h' tk bs e hi rd hk => ?_)
      · have : ns = [] := by simpa using e
        subst this
        exact ⟨.int j, H, I.kept hk, ⟨tj, rfl⟩, q⟩
      · cases ns with
        | nil => cases e
        | cons n ns =>
          rw [List.map_cons] at e
          injection e with e1 e2
          subst e1 e2
          rw [maxD_max n ns j] at rd
          cases rd
          exact ⟨.int _, H, I.kept hk, ⟨_, rfl⟩, q⟩

/-! ### zip of a tuple and a list, of two lists -/
def iZipX (K : PySem.W.Frag) (ta : TA) : TI := fun σ H R => ta σ H fun vs H1 => ∃ a b xs ys, vs = [.ref a, .ref b] ∧ ((SqT K H1 a xs ∧ SqL K H1 b ys ∧ R (ItzTL K a b xs.length ys.length) H1) ∨ (SqL K H1 a xs ∧ SqL K H1 b ys ∧ R (Itz K a b) H1))
theorem pi_zipX {X : Cx} {e e2 : Expr} {ta : TA} {p pos tpos : Pos} {elts : List Expr} {kk : Nat} (hg : Gl X "zip") (hm : X.mg "zip" = none) (ha : PA X [e, e2] ta)
    (hs : starEach [e, e2] X.env = (false, eval e X.env) :: starEach [e2] X.env := by rfl) (hpl : (backTo pos (starEach [e2] X.env)).any (·.1) = false := by rfl) :
    PI X (.Tuple elts kk tpos) (.Call (.Name "zip" p) [e, e2] [] pos) (iZipX X.K ta) := by
  refine ⟨fun pins s σ H R I h => ?_⟩
  refine Call_ (ld_blt I hg hm PyProof.Rows.boot_zip (PyProof.Rows.callWith_type1 (thn (ha.run pos pins s σ H _ I h) fun us s1 ⟨vs, H1, I1, r1, q1⟩ => ?_) hs hpl))
  obtain ⟨a, b, xs, ys, ex, q1⟩ := q1
  subst ex
  cases r1 with
  | cons r rr =>
    cases rr with
    | cons r' rr =>
      cases rr
      cases r
      cases r'
      have fresh5 : ∀ c, c ∈ [s1.heap.objs.size + 4, s1.heap.objs.size + 2, s1.heap.objs.size + 3, s1.heap.objs.size, s1.heap.objs.size + 1] → FpOk X pins H1 c := fun c hcm => by
        have e' : c = s1.heap.objs.size + 4 ∨ c = s1.heap.objs.size + 2 ∨ c = s1.heap.objs.size + 3 ∨ c = s1.heap.objs.size ∨ c = s1.heap.objs.size + 1 := by simpa using hcm
        have hle : s1.heap.objs.size ≤ c := by
          rcases e' with z | z | z | z | z
          · rw [z]; exact Nat.le_add_right _ _
          · rw [z]; exact Nat.le_add_right _ _
          · rw [z]; exact Nat.le_add_right _ _
          · rw [z]; exact Nat.le_refl _
          · rw [z]; exact Nat.le_add_right _ _
        exact I1.fpOk hle (I1.hok.fresh hle)
      rcases q1 with ⟨hqx, hqy, q⟩ | ⟨hqx, hqy, q⟩
      · obtain ⟨its, rv, p1, _⟩ := I1.tuple hqx
        obtain ⟨its2, rv2, p2, _⟩ := I1.list hqy
        have la : a < s1.heap.objs.size := by obtain ⟨_, q, _⟩ := p1; exact Heap.lt_size q
        have lb : b < s1.heap.objs.size := p2.lt
        refine zip_begins2 (begins_tuple a its.toArray) (begins_list b its2.toArray) p1 p2.isList fun h' hz hTI hTO h1 h2 hsz hk => wpAny_pyIter_zip hz ?_
        have I2 : Inv X pins σ H1 { s1 with heap := h' } := I1.kept (t' := s1.toks) hk
        have S : ZipSep2 (s1.heap.objs.size + 4) (s1.heap.objs.size + 2) (s1.heap.objs.size + 3) s1.heap.objs.size (s1.heap.objs.size + 1) [s1.heap.objs.size, a] [s1.heap.objs.size + 1, b] := by
          exact sep5 _ _ _ la lb
        exact ⟨s1.heap.objs.size + 4, [s1.heap.objs.size + 4, s1.heap.objs.size + 2, s1.heap.objs.size + 3, s1.heap.objs.size, s1.heap.objs.size + 1], _, _, H1, rfl, I2, turn_zipTL S (Nat.ne_of_lt la) (Nat.ne_of_lt (Nat.lt_succ_of_lt lb)) (Nat.ne_of_lt (Nat.lt_succ_self _)), ⟨hz, hTI, ⟨_, _, hTO⟩, ⟨_, h1, rfl, rfl⟩, ⟨_, h2, rfl, rfl⟩, Nat.zero_le _, Nat.zero_le _⟩, fresh5, q⟩
      · obtain ⟨its, rv, p1, _⟩ := I1.list hqx
        obtain ⟨its2, rv2, p2, _⟩ := I1.list hqy
        refine call_zip_2 p1.isList p2.isList fun h' hz hTI hTO h1 h2 hsz hk => wpAny_pyIter_zip hz ?_
        have I2 : Inv X pins σ H1 { s1 with heap := h' } := I1.kept (t' := s1.toks) hk
        exact ⟨s1.heap.objs.size + 4, [s1.heap.objs.size + 4, s1.heap.objs.size + 2, s1.heap.objs.size + 3, s1.heap.objs.size, s1.heap.objs.size + 1], _, _, H1, rfl, I2, turn_zip (PySem.W.ktu_apart s1.heap.objs.size a b p1.lt p2.lt), ⟨hz, hTI, ⟨_, _, hTO⟩, h1, h2⟩, fresh5, q⟩
/-! ### locking what is walked -/
def tLk (X : Cx) (te : TE) : TE := fun σ H Q => te σ H fun x H1 => Q x H1 ∨ ∃ d u, H1 d = some u ∧ Mut (some u) ∧ ∀ od, (∀ o' u', X.H_0 d ≠ some (.frz o' u')) → Q x (upd H1 d (.frz od u))
theorem pe_lk {X : Cx} {e : Expr} {te : TE} (he : PE X e te) : PE X e (tLk X te) := by
  refine ⟨fun pins s σ H Q I h => ?_⟩
  refine thn (he.run pins s σ H _ I h) fun u s1 ⟨x, H1, I1, r1, q⟩ => ?_
  rcases q with q | ⟨d, u, hd, mu, q⟩
  · exact ⟨x, H1, I1, r1, q⟩
  · obtain ⟨od, I2⟩ := I1.lock hd mu
    exact ⟨x, _, I2, r1, q od (I1.nofrz hd mu)⟩
def Unl (X : Cx) (P : Hp → Prop) (H : Hp) : Prop := P H ∨ ∃ d od u, H d = some (.frz od u) ∧ (∀ o' u', X.H_0 d ≠ some (.frz o' u')) ∧ P (upd H d u)
theorem Unl.run {X : Cx} {P : Hp → Prop} {H : Hp} {pins : List (Addr × Obj)} {σ : L2.St} {s : Shared} (h : Unl X P H) (I : Inv X pins σ H s) : ∃ H', Inv X pins σ H' s ∧ P H' := by
  rcases h with h | ⟨d, od, u, e, hn, h⟩
  · exact ⟨H, I, h⟩
  · exact ⟨_, I.unlock e hn, h⟩
theorem ps_unl {X : Cx} {st : Stmt} {t : TS} (h : PS X st t) : PS X st (fun D σ H => t ⟨fun σ' => Unl X (D.nx σ'), fun v => Unl X (D.rt v), fun σ' => Unl X (D.bk σ'), fun σ' => Unl X (D.ct σ')⟩ σ H) := by
  refine ⟨fun pins s σ H D I q => ?_⟩
  refine thn (h.run pins s σ H _ I q) fun f s1 q1 => ?_
  cases f with
  | next => obtain ⟨σ', H', I2, q⟩ := q1; obtain ⟨H2, I3, q⟩ := q.run I2; exact ⟨σ', _, I3, q⟩
  | brk => obtain ⟨σ', H', I2, q⟩ := q1; obtain ⟨H2, I3, q⟩ := q.run I2; exact ⟨σ', _, I3, q⟩
  | cont => obtain ⟨σ', H', I2, q⟩ := q1; obtain ⟨H2, I3, q⟩ := q.run I2; exact ⟨σ', _, I3, q⟩
  | ret v => obtain ⟨x, σ', H', I2, r, q⟩ := q1; obtain ⟨H2, I3, q⟩ := q.run I2; exact ⟨x, σ', _, I3, r, q⟩
end VM
/-! WD: when a term of the small language is what an expression of the text says; then the expression does what the term does. -/
namespace VM
open PySem PySem.Spec PyProof.Rows L2

/-! ### the look -/
structure Nm where
  N : List Str
  sc : Scope
  osc : Option Scope
  fs : List (Nat × Str)
  bs : List Str
  gs : List (Str × D)
  cs : List (Nat × Str)
def Nm.blk (nm : Nm) (scope : Scope) : Nm := { nm with sc := relS scope nm.sc, osc := some scope }
def visB (sc : Scope) (x : Str) : Bool := match sc.names.lookup x with
  | some .local => true | some .cell => true | some .free => true | _ => false
def locB (sc : Scope) (x : Str) : Bool := match sc.names.lookup x with
  | some .local => true | some .cell => true | _ => false
def glB (sc : Scope) (x : Str) : Bool := match sc.names.lookup x with
  | some .globalImplicit => true | _ => false
def cellB (sc : Scope) (x : Str) : Bool := match sc.names.lookup x with
  | some .cell => true | _ => false
def localB (sc : Scope) (x : Str) : Bool := match sc.names.lookup x with
  | some .local => true | _ => false
def fnB (nm : Nm) (x : Str) : Bool := match nm.osc with
  | none => true
  | some s => s.names.lookup x == some .cell
def tgB (nm : Nm) (i : Nat) (x : Str) : Bool := decide (nm.N[i]? = some x) && locB nm.sc x && (fnB nm x || localB nm.sc x)
def dbg (x : Str) : Bool := !(x == ("__debug__" : Str))
def flatB : D → D → Bool
  | .int i, .int j => decide (i = j)
  | .str x, .str y => decide (x = y)
  | _, _ => false
def gsB (gs : List (Str × D)) (x : Str) (d : D) : Bool := gs.any fun p => decide (p.1 = x) && flatB p.2 d
def opB : Op2 → Operator → Bool
  | .add, .Add => true | .sub, .Sub => true | .mul, .Mult => true | .fdiv, .FloorDiv => true | .mod, .Mod => true | .pow, .Pow => true | _, _ => false
def cmB : Cm → CmpOp → Bool
  | .eq, .Eq => true | .ne, .NotEq => true | .lt, .Lt => true | .le, .LtE => true | .gt, .Gt => true | .ge, .GtE => true | .is, .Is => true | .isnot, .IsNot => true | .inn, .In => true | .notin, .NotIn => true | _, _ => false
theorem opB_of {op : Op2} {o : Operator} (h : opB op o = true) : o = opOf op := by cases op <;> cases o <;> first | rfl | cases h
theorem cmB_of {op : Cm} {o : CmpOp} (h : cmB op o = true) : o = cmOf op := by cases op <;> cases o <;> first | rfl | cases h
def plainX : Expr → Bool
  | .Starred .. => false | .Set .. => false | .Slice .. => false | .SetComp .. => false | .DictComp .. => false | _ => true
def testX : Expr → Bool
  | .UnaryOp .Not _ _ => false | .BoolOp .. => false | .IfExp .. => false | .Compare .. => false | _ => true
def noSup : Expr → Bool
  | .Call (.Name _ _) [] [] _ => false | _ => true
def bmN : Bm → Str
  | .append => "append" | .insert => "insert" | .extend => "extend"
def tyN : Ty → Str
  | .int => "int" | .bool => "bool" | .str => "str" | .tuple => "tuple" | .list => "list"
def tyS : Ty → String
  | .int => "int" | .bool => "bool" | .str => "str" | .tuple => "tuple" | .list => "list"
def smN : Sm → Str
  | .lower => "lower" | .upper => "upper"
def disKeys : List Str → List (Option Expr) → Bool
  | [], [] => true
  | k :: ks, some (.Constant (.str t) _ _) :: xs => decide (k = t) && disKeys ks xs
  | _, _ => false
/-- what gives pairs is walked by a tuple of names -/
def itTup : I → Expr → Bool
  | .items _, .Tuple .. => true
  | .items _, _ => false
  | .enum _, .Tuple .. => true
  | .zip _ _, .Tuple .. => true
  | .enum _, _ => false
  | .zip _ _, _ => false
  | _, _ => true
def tgSl : Tg → List Nat
  | .nm i => [i]
  | .tp is => is
def mNames (nm : Nm) : List Nat → List Expr → Bool
  | [], [] => true
  | i :: is, .Name x _ :: xs => tgB nm i x && mNames nm is xs
  | _, _ => false
def mTg (nm : Nm) : Tg → Expr → Bool
  | .nm i, .Name x _ => tgB nm i x
  | .tp is, .Tuple xs _ _ => mNames nm is xs
  | _, _ => false
mutual
def mE (nm : Nm) : E → Expr → Bool
  | .var i, x => match x with
    | .Name s _ => decide (nm.N[i]? = some s) && visB nm.sc s && dbg s && !(s == ("__classdict__" : Str))
    | _ => false
  | .non, x => match x with | .Constant .none _ _ => true | _ => false
  | .bl b, x => match x with | .Constant (.bool c) _ _ => decide (b = c) | _ => false
  | .int i, x => match x with | .Constant (.int j) _ _ => decide (i = j) | _ => false
  | .str s, x => match x with | .Constant (.str t) _ _ => decide (s = t) | _ => false
  | .gc s d, x => match x with | .Name t _ => decide (s = t) && glB nm.sc s && dbg s && gsB nm.gs s d | _ => false
  | .tup es, x => match x with | .Tuple xs _ _ => decide (xs.length ≤ 1000) && mEs nm es xs | _ => false
  | .lst es, x => match x with | .List xs _ => decide (xs.length ≤ 1000) && mEs nm es xs | _ => false
  | .bin op a b, x => match x with | .BinOp l o r _ => opB op o && plainX l && mE nm a l && plainX r && mE nm b r | _ => false
  | .neg a, x => match x with | .UnaryOp .USub y _ => plainX y && mE nm a y | _ => false
  | .cmp op a b, x => match x with | .Compare l [o] [r] _ => cmB op o && plainX l && mE nm a l && plainX r && mE nm b r | _ => false
  | .chain op op' a b c, x => match x with
    | .Compare l [o, o'] [r, t] _ => cmB op o && cmB op' o' && plainX l && mE nm a l && plainX r && mE nm b r && plainX t && mE nm c t
    | _ => false
  | .and a b, x => match x with | .BoolOp .And (y :: z :: r) p => plainX y && mE nm a y && mE nm b (.BoolOp .And (z :: r) p) | _ => false
  | .or a b, x => match x with | .BoolOp .Or (y :: z :: r) p => plainX y && mE nm a y && mE nm b (.BoolOp .Or (z :: r) p) | _ => false
  | .one a, x => match x with | .BoolOp _ [y] _ => plainX y && mE nm a y | _ => false
  | .not a, x => match x with | .UnaryOp .Not y _ => plainX y && mE nm a y | _ => false
  | .ite c a b, x => match x with | .IfExp t y z _ => plainX t && mT nm c t && plainX y && mE nm a y && plainX z && mE nm b z | _ => false
  | .idx a i, x => match x with | .Subscript y z _ => plainX y && mE nm a y && plainX z && mE nm i z | _ => false
  | .sl a lo hi, x => match x with | .Subscript y (.Slice l h none _) _ => plainX y && mE nm a y && mP nm lo l && mP nm hi h | _ => false
  | .rev a, x => match x with
    | .Subscript y (.Slice none none (some (.UnaryOp .USub (.Constant (.int j) _ _) _)) _) _ => decide (j = 1) && plainX y && mE nm a y
    | _ => false
  | .call f es, x => match x with | .Call (.Name s _) xs [] _ => decide (nm.fs.lookup f = some s) && glB nm.sc s && dbg s && mEs nm es xs | _ => false
  | .bi b es, x => match x with | .Call (.Name s _) (y :: ys) [] _ => decide (s = biN b) && glB nm.sc s && decide (s ∈ nm.bs) && mEs nm es (y :: ys) | _ => false
  | .bm m o es, x => match x with
    | .Call (.Attribute y a apos) (z :: zs) [] cpos => decide (a = bmN m) && noSup y && (apos.endLine == cpos.line) && decide ((z :: zs).length < 20) && plainX y && mE nm o y && mEs nm es (z :: zs)
    | _ => false
  | .isi a t, x => match x with
    | .Call (.Name s _) [y, .Name z _] [] _ => decide (s = ("isinstance" : Str)) && glB nm.sc s && decide (s ∈ nm.bs) && decide (z = tyN t) && glB nm.sc z && decide (z ∈ nm.bs) && plainX y && mE nm a y
    | _ => false
  | .lrg a, x => match x with
    | .Call (.Name s _) [.Call (.Name z _) [y] [] _] [] _ => decide (s = ("list" : Str)) && glB nm.sc s && decide (s ∈ nm.bs) && decide (z = ("range" : Str)) && glB nm.sc z && decide (z ∈ nm.bs) && plainX y && mE nm a y
    | _ => false
  | .dnk, x => match x with | .Dict [] [] _ => true | _ => false
  | .dnt, x => match x with | .Dict [] [] _ => true | _ => false
  | .disp ks es, x => match x with | .Dict keys vals _ => decide (keys ≠ []) && decide (keys.length ≤ 15) && decide (keys.length = vals.length) && disKeys ks keys && mEs nm es vals | _ => false
  | .get1 d k, x => match x with
    | .Call (.Attribute y a apos) [z] [] cpos => decide (a = ("get" : Str)) && noSup y && (apos.endLine == cpos.line) && plainX y && mE nm d y && plainX z && mE nm k z
    | _ => false
  | .get2 d k e, x => match x with
    | .Call (.Attribute y a apos) [z, u] [] cpos => decide (a = ("get" : Str)) && noSup y && (apos.endLine == cpos.line) && plainX y && mE nm d y && plainX z && mE nm k z && plainX u && mE nm e u
    | _ => false
  | .sm m a, x => match x with
    | .Call (.Attribute y s apos) [] [] cpos => decide (s = smN m) && noSup y && (apos.endLine == cpos.line) && plainX y && mE nm a y
    | _ => false
  | .strip1 a b, x => match x with
    | .Call (.Attribute y s apos) [z] [] cpos => decide (s = ("strip" : Str)) && noSup y && (apos.endLine == cpos.line) && plainX y && mE nm a y && plainX z && mE nm b z
    | _ => false
  | .pop0 o, x => match x with
    | .Call (.Attribute y a apos) [] [] cpos => decide (a = ("pop" : Str)) && noSup y && (apos.endLine == cpos.line) && plainX y && mE nm o y
    | _ => false
  | .popk d k, x => match x with
    | .Call (.Attribute y a apos) [z] [] cpos => decide (a = ("pop" : Str)) && noSup y && (apos.endLine == cpos.line) && plainX y && mE nm d y && plainX z && mE nm k z
    | _ => false
  | .setdef d k e, x => match x with
    | .Call (.Attribute y a apos) [z, u] [] cpos => decide (a = ("setdefault" : Str)) && noSup y && (apos.endLine == cpos.line) && plainX y && mE nm d y && plainX z && mE nm k z && plainX u && mE nm e u
    | _ => false
  | .maxd e d, x => match x with
    | .Call (.Name s _) [y] [⟨some kw, z, _⟩] _ => decide (s = ("max" : Str)) && glB nm.sc s && decide (s ∈ nm.bs) && decide (kw = ("default" : Str)) && plainX y && mE nm e y && plainX z && mE nm d z
    | _ => false
  | .slst a lo st, x => match x with
    | .Subscript y (.Slice (some l) none (some t) _) _ => plainX y && mE nm a y && plainX l && mE nm lo l && plainX t && mE nm st t
    | _ => false
  | .lc elt tg it c own, x => match x with
    | .ListComp y [⟨tx, ix, ifs, n⟩] scope _ => itTup it tx && decide (n = 0) && (tgSl tg).all (fun i => decide (i ∈ own.map (·.2))) && blkC nm.N nm.sc scope own && mTg (nm.blk scope) tg tx && plainX ix && mI nm it ix &&
        (match ifs with
         | [] => (match c with | .yes => true | _ => false)
         | [z] => plainX z && mT (nm.blk scope) c z
         | _ => false) && plainX y && mE (nm.blk scope) elt y
    | _ => false
def mEs (nm : Nm) : Es → List Expr → Bool
  | .nil, xs => match xs with | [] => true | _ => false
  | .cons e es, xs => match xs with | x :: xs => plainX x && mE nm e x && mEs nm es xs | _ => false
def mP (nm : Nm) : P → Option Expr → Bool
  | .no, x => match x with | none => true | _ => false
  | .e e, x => match x with | some y => plainX y && mE nm e y | _ => false
def mT (nm : Nm) : T → Expr → Bool
  | .yes, _ => false
  | .v e, x => testX x && mE nm e x
  | .cmp op a b, x => match x with | .Compare l [o] [r] _ => cmB op o && plainX l && mE nm a l && plainX r && mE nm b r | _ => false
  | .chain op op' a b c, x => match x with
    | .Compare l [o, o'] [r, t] _ => cmB op o && cmB op' o' && plainX l && mE nm a l && plainX r && mE nm b r && plainX t && mE nm c t
    | _ => false
  | .not t, x => match x with | .UnaryOp .Not y _ => plainX y && mT nm t y | _ => false
  | .and a b, x => match x with | .BoolOp .And (y :: z :: r) p => plainX y && mT nm a y && mT nm b (.BoolOp .And (z :: r) p) | _ => false
  | .or a b, x => match x with | .BoolOp .Or (y :: z :: r) p => plainX y && mT nm a y && mT nm b (.BoolOp .Or (z :: r) p) | _ => false
  | .one a, x => match x with | .BoolOp _ [y] _ => plainX y && mT nm a y | _ => false
def mI (nm : Nm) : I → Expr → Bool
  | .seq e, x => mE nm e x
  | .rng1 a, x => match x with
    | .Call (.Name s _) [y] [] _ => decide (s = ("range" : Str)) && glB nm.sc s && decide (s ∈ nm.bs) && plainX y && mE nm a y
    | _ => false
  | .rng2 a b, x => match x with
    | .Call (.Name s _) [y, z] [] _ => decide (s = ("range" : Str)) && glB nm.sc s && decide (s ∈ nm.bs) && plainX y && mE nm a y && plainX z && mE nm b z
    | _ => false
  | .rng3 a b c, x => match x with
    | .Call (.Name s _) [y, z, u] [] _ => decide (s = ("range" : Str)) && glB nm.sc s && decide (s ∈ nm.bs) && plainX y && mE nm a y && plainX z && mE nm b z && plainX u && mE nm c u
    | _ => false
  | .items a, x => match x with
    | .Call (.Attribute y s apos) [] [] cpos => decide (s = ("items" : Str)) && noSup y && (apos.endLine == cpos.line) && plainX y && mE nm a y
    | _ => false
  | .enum a, x => match x with
    | .Call (.Name s _) [y] [] _ => decide (s = ("enumerate" : Str)) && glB nm.sc s && decide (s ∈ nm.bs) && plainX y && mE nm a y
    | _ => false
  | .zip a b, x => match x with
    | .Call (.Name s _) [y, z] [] _ => decide (s = ("zip" : Str)) && glB nm.sc s && decide (s ∈ nm.bs) && plainX y && mE nm a y && plainX z && mE nm b z
    | _ => false
end

/-! ### facts of the text -/
theorem star_plain {x : Expr} (h : plainX x = true) (xs : List Expr) (env : Env) : starEach (x :: xs) env = (false, eval x env) :: starEach xs env := by
  cases x <;> first | rfl | cases h
theorem folded_plain {x : Expr} (h : plainX x = true) (env : Env) : ∀ v, foldedSetIterable x env v = pure v := by
  intro v
  cases x <;> first | rfl | cases h
theorem behind_plain {x : Expr} (h : plainX x = true) (op : CmpOp) : behindInMarks op x = false := by
  cases x <;> first | rfl | cases h
theorem plainIx {x : Expr} (h : plainX x = true) : PlainIx x := by
  intro o i
  cases x <;> first | rfl | cases h
theorem noSup_base {x : Expr} (h : noSup x = true) (n : Str) (env : Env) : attributeBase x n env (eval x env) = eval x env := by
  unfold attributeBase
  split
  · rename_i id p pos
    cases h
  · rfl
theorem test_plain {x : Expr} (h : testX x = true) (env : Env) : ∀ whole, isTrue x env whole = (do let v ← whole; standAt x.pos; holding [v] (truthy v)) := by
  intro whole
  cases x <;> first
    | rfl
    | cases h
    | (rename_i op _ _; cases op <;> first | rfl | cases h)

/-! ### a context that fits -/
def rCall (K : Kx) (f : List D → Sto → Out D) : List V → Hp → VK → XK → Prop := fun vs H Q E => ∃ js S ds, RelS K H js S ∧ RepVs K H js ds vs ∧ OkE K H js (f ds S) E Q
structure CallOk (X : Cx) (cl : Nat → Option Addr) (F : Orc) (f : Nat) (x : Str) (k : Nat) (a : Addr) (fd : FuncData) (ps : List Str) (sp : Sp) : Prop where
  fn : FnOk X.prog X.w X.K X.mg X.base (L2.CX X.prog X.w) k a fd ps sp
  room : Room k X.A
  mg : X.mg x = some (.ref a)
  kp : PySem.W.keepIn X.K (.ref a) = true
  bi : Binds X.K fd ps []
  sp : ∀ vs H Q E, rCall (kxOf X cl) (F.call f) vs H Q E → sp vs H Q E
structure Good (X : Cx) (cl : Nat → Option Addr) (nm : Nm) (F : Orc) (W : WX) : Prop where
  calm : X.calm = true
  N : X.N = nm.N
  nd : X.N.Nodup
  sc : X.env.scope = nm.sc
  kind : X.env.scope.kind = .function
  fn : ∀ x, fnB nm x = true → X.fn x = true
  hu : X.A.units + 200 < cLine
  bs : ∀ x ∈ nm.bs, X.mg x = none
  gs : ∀ x d, gsB nm.gs x d = true → ∃ u v, X.mg x = some u ∧ RelV v u ∧ ∀ H js, RepV (kxOf X cl) H js d v
  call : ∀ f x, nm.fs.lookup f = some x → ∃ k a fd ps sp, CallOk X cl F f x k a fd ps sp
  tk : Takes X W
section
variable {X : Cx} {cl : Nat → Option Addr} {nm : Nm} {F : Orc} {W : WX}
theorem Good.vis (g : Good X cl nm F W) {x : Str} (h : visB nm.sc x = true) : Vis X.env.scope x := by
  rw [g.sc]
  unfold visB at h
  split at h <;> first | exact .inl (by assumption) | exact .inr (.inl (by assumption)) | exact .inr (.inr (by assumption)) | cases h
theorem Good.loc (g : Good X cl nm F W) {x : Str} (h : locB nm.sc x = true) : Loc X.env.scope x := by
  rw [g.sc]
  unfold locB at h
  split at h <;> first | exact .inl (by assumption) | exact .inr (by assumption) | cases h
theorem Good.gl (g : Good X cl nm F W) {x : Str} (h : glB nm.sc x = true) : Gl X x := by
  show X.env.scope.names.lookup x = some .globalImplicit
  rw [g.sc]
  unfold glB at h
  split at h <;> first | assumption | cases h
theorem Good.at (g : Good X cl nm F W) {i : Nat} {x : Str} (h : nm.N[i]? = some x) : X.N[i]? = some x := by rw [g.N]; exact h
theorem dbg_of {x : Str} (h : dbg x = true) : (x == ("__debug__" : Str)) = false := by
  unfold dbg at h
  simpa using h
structure TgOk (X : Cx) (i : Nat) (x : Str) : Prop where
  ix : X.N[i]? = some x
  loc : Loc X.env.scope x
  fn : X.fn x = true ∨ X.env.scope.names.lookup x = some .local
theorem Good.tg (g : Good X cl nm F W) {i : Nat} {x : Str} (h : tgB nm i x = true) : TgOk X i x := by
  unfold tgB at h
  rw [Bool.and_eq_true, Bool.and_eq_true, decide_eq_true_eq, Bool.or_eq_true] at h
  obtain ⟨⟨h1, h2⟩, h3⟩ := h
  refine ⟨g.at h1, g.loc h2, ?_⟩
  rcases h3 with h3 | h3
  · exact .inl (g.fn x h3)
  · refine .inr ?_
    rw [g.sc]
    unfold localB at h3
    split at h3 <;> first | assumption | cases h3

/-! ### targets -/
theorem setMany_len : ∀ (is : List Nat) (ds : List D) (ρ ρ' : Rho), setMany is ds ρ = some ρ' → ds.length = is.length ∧ ρ'.length = ρ.length
  | [], [], _, _, e => by cases e; exact ⟨rfl, rfl⟩
  | [], _ :: _, _, _, e => by cases e
  | _ :: _, [], _, _, e => by cases e
  | i :: is, d :: ds, ρ, ρ', e => by
    obtain ⟨h1, h2⟩ := setMany_len is ds _ _ e
    rw [List.length_set] at h2
    exact ⟨by rw [List.length_cons, List.length_cons, h1], h2⟩
def TgOut (K : Kx) (sl : List Nat) (σ : L2.St) (ρ' : Rho) (js : List Addr) (H : Hp) (Q : L2.St → Hp → Prop) : Prop :=
  ∀ σ', RepR K H js ρ' σ' → σ'.length = σ.length → (∀ j, j ∉ sl → σ'[j]? = σ[j]?) → Q σ' H
def rdTg (K : Kx) (tg : Tg) : TG := fun v σ H Q => ∃ js d ρ ρ', RepV K H js d v ∧ RepR K H js ρ σ ∧ bindT tg d ρ = some ρ' ∧ TgOut K (tgSl tg) σ ρ' js H Q
def rdTgs (K : Kx) (is : List Nat) : TGs := fun vs σ H Q => ∃ js ds ρ ρ', RepVs K H js ds vs ∧ RepR K H js ρ σ ∧ setMany is ds ρ = some ρ' ∧ TgOut K is σ ρ' js H Q
theorem sTgs (g : Good X cl nm F W) : ∀ (is : List Nat) (xs : List Expr), mNames nm is xs = true →
    PGs X xs (rdTgs (kxOf X cl) is) ∧ (assignEach xs X.env).length = is.length ∧ (assignEach xs X.env).findIdx? (·.1) = none
  | [], [], _ => ⟨⟨fun pins s σ H vs us Q I r h => by
      obtain ⟨js, ds, ρ, ρ', rv, rr, e, q⟩ := h
      cases ds with
      | cons _ _ => cases e
      | nil =>
        cases rv
        cases e
        exact pgs_nil.run pins s σ H [] us Q I r ⟨rfl, q σ rr rfl fun _ _ => rfl⟩⟩, rfl, rfl⟩
  | [], _ :: _, h => by unfold mNames at h; cases h
  | _ :: _, [], h => by unfold mNames at h; cases h
  | i :: is, x :: xs, h => by
    cases x with
    | Name y p =>
      unfold mNames at h
      rw [Bool.and_eq_true] at h
      obtain ⟨h1, h2⟩ := h
      have t := g.tg h1
      obtain ⟨r1, r2, r3⟩ := sTgs g is xs h2
      refine ⟨⟨fun pins s σ H vs us Q I r h => ?_⟩, ?_, ?_⟩
      · obtain ⟨js, ds, ρ, ρ', rv, rr, e, q⟩ := h
        cases ds with
        | nil => cases e
        | cons d ds =>
          cases rv with
          | cons rv1 rv2 =>
            refine (pgs_cons (pg_name g.nd t.ix t.loc t.fn) r1 (by rfl)).run pins s σ H _ us Q I r ⟨_, _, rfl, ?_⟩
            refine ⟨js, ds, ρ.set i (some d), ρ', rv2, rr.set rv1 i, e, fun σ' r' hl hj => q σ' r' (by rw [hl, List.length_set]) fun j hn => ?_⟩
            rw [hj j fun z => hn (List.mem_cons_of_mem _ z), List.getElem?_set_ne fun z => hn (by rw [z]; exact List.mem_cons_self)]
      · show (assignEach xs X.env).length + 1 = is.length + 1
        rw [r2]
      · show List.findIdx? (·.1) ((false, assign (.Name y p) X.env) :: assignEach xs X.env) = none
        rw [List.findIdx?_cons, r3]
        rfl
    | _ => unfold mNames at h; cases h
theorem sTg (g : Good X cl nm F W) (tg : Tg) (x : Expr) (h : mTg nm tg x = true) : PG X x (rdTg (kxOf X cl) tg) := by
  cases tg with
  | nm i =>
    cases x with
    | Name y p =>
      have t := g.tg (show tgB nm i y = true from h)
      refine ⟨fun pins s σ H v u Q I r h => ?_⟩
      obtain ⟨js, d, ρ, ρ', rv, rr, e, q⟩ := h
      cases e
      exact (pg_name g.nd t.ix t.loc t.fn).run pins s σ H v u Q I r (q _ (rr.set rv i) (by rw [List.length_set]) fun j hn => List.getElem?_set_ne fun z => hn (by rw [z]; exact List.mem_cons_self))
    | _ => cases h
  | tp is =>
    cases x with
    | Tuple xs k p =>
      obtain ⟨r1, r2, r3⟩ := sTgs g is xs h
      refine ⟨fun pins s σ H v u Q I r h => ?_⟩
      obtain ⟨js, d, ρ, ρ', rv, rr, e, q⟩ := h
      cases rv with
      | tup h1 n1 q1 =>
        refine (pg_tup g.calm r1 r2 r3).run pins s σ H _ u Q I r ⟨_, _, rfl, .inl (.inl h1), ?_, js, _, ρ, ρ', q1, rr, e, q⟩
        rw [← q1.length]
        exact (setMany_len _ _ _ _ e).1
      | _ => cases e
    | _ => cases h
end
end VM
/-! WE: what is walked; the soundness of expressions. -/
namespace VM
open PySem PySem.Spec PyProof.Rows L2

/-! ### walks -/
/-- the iterator yields these -/
def Yl (K : Kx) (J : L2.It) (ds : List D) (H : Hp) (js : List Addr) : Prop :=
  ∀ H' js' S', Grow H js H' js' → RelS K H' js' S' →
    (∀ i d, ds[i]? = some d → J.go i H' ∧ ∀ x H'', J.yld i H' x H'' → Grow H' js' H'' js' ∧ RelS K H'' js' S' ∧ RepV K H'' js' d x) ∧ J.stop ds.length H'
def Wk (K : Kx) (H : Hp) (js : List Addr) (it : It) (J : L2.It) : Prop :=
  match it with
  | .fix ds => Yl K J ds H js
  | .dyn n m => ∃ a, js[n]? = some a ∧ match m with
    | .plain => J = Itl K a
    | .enum => J = Ite K a
    | .zip fs len => ∃ p xs, H p = some (.tup xs) ∧ p ∉ js ∧ RepVs K H js fs xs ∧ J = ItzTL K p a fs.length len
    | .zip2 n2 => ∃ b, js[n2]? = some b ∧ J = Itz K a b
  | .lkd _ ds => Yl K J ds H js
/-- .. and the heap in which it is walked: a dict is locked -/
def WkI (H0 : Hp) (K : Kx) (H : Hp) (js : List Addr) (it : It) (JH : L2.It × Hp) : Prop :=
  match it with
  | .lkd n ds => ∃ a u od, js[n]? = some a ∧ H a = some u ∧ Mut (some u) ∧ ((∃ vs, u = .dK vs) ∨ ∃ xs, u = DinO K a xs) ∧ (∀ o v, H0 a ≠ some (.frz o v)) ∧ JH.2 = upd H a (.frz od u) ∧ Yl K JH.1 ds JH.2 js
  | it => JH.2 = H ∧ Wk K H js it JH.1
def rdI (H0 : Hp) (K : Kx) (F : Orc) (W : WX) (i : I) : TI := fun σ H R => ∃ js S ρ, RelS K H js S ∧ RepR K H js ρ σ ∧ OkG (WkI H0) K H js (evI F i ρ S) (fun c d H' => W c d σ H') (fun JH _ => R JH.1 JH.2)
section
variable {K : Kx} {H H1 : Hp} {js js1 : List Addr}
theorem Yl.mono {J : L2.It} {ds : List D} (y : Yl K J ds H js) (g : Grow H js H1 js1) : Yl K J ds H1 js1 := fun H' js' S' g' r => y H' js' S' (g.trans g') r
theorem yl_tup {ds : List D} {a : Addr} {xs : List V} (h : H a = some (.tup xs)) (n : a ∉ js) (q : RepVs K H js ds xs) : Yl K (Itt K a) ds H js := by
  intro H' js' S' g r
  have h' := g.keep _ _ n h
  have q' := RepVs.mono g q
  refine ⟨fun i d e => ?_, ⟨xs, .inl (.inl h'), by rw [← q.length]; exact Nat.le_refl _⟩⟩
  obtain ⟨v, e1, r1⟩ := q'.get e
  refine ⟨⟨xs, v, .inl (.inl h'), e1⟩, fun x H'' y => ?_⟩
  obtain ⟨e2, y⟩ := y
  subst e2
  have := y xs (.inl (.inl h'))
  rw [e1] at this
  cases this
  exact ⟨Grow.refl, r, r1⟩
theorem yl_fz {ds : List D} {a : Addr} {xs : List V} (h : Fz K H js a xs) (q : RepVs K H js ds xs) : Yl K (Itl K a) ds H js := by
  intro H' js' S' g r
  have h' := (h.mono g).sq
  have q' := RepVs.mono g q
  refine ⟨fun i d e => ?_, ⟨xs, h', by rw [← q.length]; exact Nat.le_refl _⟩⟩
  obtain ⟨v, e1, r1⟩ := q'.get e
  refine ⟨⟨xs, v, h', e1⟩, fun x H'' y => ?_⟩
  obtain ⟨e2, y⟩ := y
  subst e2
  have := y xs h'
  rw [e1] at this
  cases this
  exact ⟨Grow.refl, r, r1⟩
theorem yl_rng {lo : Int} {n : Nat} : Yl K (Itr lo n) ((List.range n).map fun (k : Nat) => D.int (lo + k)) H js := by
  intro H' js' S' g r
  refine ⟨fun i d e => ?_, by
    show n ≤ _
    simp⟩
  rw [List.getElem?_map] at e
  cases h : (List.range n)[i]? with
  | none => rw [h] at e; cases e
  | some k =>
    rw [h] at e
    cases e
    obtain ⟨h1, h2⟩ := List.getElem?_eq_some_iff.mp h
    rw [List.getElem_range] at h2
    subst h2
    refine ⟨(show i < n by simpa using h1), fun x H'' y => ?_⟩
    obtain ⟨e2, e3⟩ := y
    subst e2 e3
    exact ⟨Grow.refl, r, .int _⟩
theorem yl_keys {a : Addr} {o : Obj} {kvs : List (L2.Key × D)} {vs : List (L2.Key × V)} (h : H a = some (.frz o (.dK vs))) (q : RepK K H js kvs vs) : Yl K (Itk a o vs) (kvs.map fun kv => kD kv.1) H js := by
  intro H' js' S' g r
  have h' := g.frz _ _ _ h
  have hl : kvs.length = vs.length := q.len
  refine ⟨fun i d e => ?_, h', by rw [List.length_map, hl]; exact Nat.le_refl _⟩
  rw [List.getElem?_map] at e
  cases e0 : kvs[i]? with
  | none => rw [e0] at e; cases e
  | some p =>
    rw [e0] at e
    cases e
    have hi := (List.getElem?_eq_some_iff.mp e0).1
    refine ⟨⟨h', by omega⟩, fun x H'' y => ?_⟩
    obtain ⟨e1, k, v, e2, e3⟩ := y
    subst e1 e3
    have : k = p.1 := by
      have h1 := congrArg (fun l : List L2.Key => l[i]?) q.1
      simp only [List.getElem?_map, e0, e2, Option.map_some] at h1
      exact (Option.some.inj h1).symm
    subst this
    refine ⟨Grow.refl, r, ?_⟩
    show RepV K H'' js' (kD p.1) (kV p.1)
    cases p.1 with
    | inl i => exact .int i
    | inr x => exact .str x
theorem yl_items {a : Addr} {o : Obj} {kvs : List (L2.Key × D)} {vs : List (L2.Key × V)} (h : H a = some (.frz o (.dK vs))) (q : RepK K H js kvs vs) : Yl K (Iti a o vs) (kvs.map fun kv => .tup [kD kv.1, kv.2]) H js := by
  intro H' js' S' g r
  have h' := g.frz _ _ _ h
  have hl : kvs.length = vs.length := q.len
  refine ⟨fun i d e => ?_, h', by rw [List.length_map, hl]; exact Nat.le_refl _⟩
  rw [List.getElem?_map] at e
  cases e0 : kvs[i]? with
  | none => rw [e0] at e; cases e
  | some p =>
    rw [e0] at e
    cases e
    have hi := (List.getElem?_eq_some_iff.mp e0).1
    refine ⟨⟨h', by omega⟩, fun x H'' y => ?_⟩
    obtain ⟨T, k, v, e2, rfl, hT, rfl⟩ := y
    have : k = p.1 := by
      have h1 := congrArg (fun l : List L2.Key => l[i]?) q.1
      simp only [List.getElem?_map, e0, e2, Option.map_some] at h1
      exact (Option.some.inj h1).symm
    subst this
    have rv : RepV K H' js' p.2 v := by
      obtain ⟨w, e4, r4⟩ := (RepVs.mono g q.2).get (i := i) (d := p.2) (by rw [List.getElem?_map, e0]; rfl)
      rw [List.getElem?_map, e2] at e4
      cases e4
      exact r4
    have gg := Grow.lay (o := .tup [kV p.1, v]) r hT
    refine ⟨gg, r.lay hT, .tup upd_same (r.fresh hT) (.cons ?_ (.cons (rv.mono gg) .nil))⟩
    cases p.1 with
    | inl i => exact .int i
    | inr x => exact .str x
theorem enumL_len (k : Nat) : ∀ ds : List D, (enumL k ds).length = ds.length
  | [] => rfl
  | _ :: ds => by rw [enumL, List.length_cons, List.length_cons, enumL_len (k + 1) ds]
theorem enumL_get (k : Nat) : ∀ (ds : List D) (i : Nat), (enumL k ds)[i]? = ds[i]?.map fun d => .tup [.int ((k + i : Nat) : Int), d]
  | [], i => by simp [enumL]
  | d :: ds, 0 => by simp [enumL]
  | d :: ds, i + 1 => by
    rw [enumL, List.getElem?_cons_succ, List.getElem?_cons_succ, enumL_get (k + 1) ds i]
    congr 2
    funext d
    rw [show k + 1 + i = k + (i + 1) by omega]
theorem yl_enum {ds : List D} {a : Addr} {xs : List V} (h : H a = some (.tup xs)) (n : a ∉ js) (q : RepVs K H js ds xs) : Yl K (IteT K a xs.length) (enumL 0 ds) H js := by
  intro H' js' S' g r
  have h' := g.keep _ _ n h
  have q' := RepVs.mono g q
  refine ⟨fun i d e => ?_, ⟨xs, .inl (.inl h'), rfl, by rw [enumL_len, q.length]; exact Nat.le_refl _⟩⟩
  rw [enumL_get] at e
  cases e0 : ds[i]? with
  | none => rw [e0] at e; cases e
  | some d0 =>
    rw [e0] at e
    cases e
    obtain ⟨v, e1, r1⟩ := q'.get e0
    refine ⟨⟨xs, v, .inl (.inl h'), rfl, e1⟩, fun x H'' y => ?_⟩
    obtain ⟨T, y0, rfl, hT, rfl, hy⟩ := y
    have := hy xs (.inl (.inl h'))
    rw [e1] at this
    cases this
    have gg := Grow.lay (o := .tup [.int (i : Nat), v]) r hT
    refine ⟨gg, r.lay hT, .tup upd_same (r.fresh hT) (.cons ?_ (.cons (r1.mono gg) .nil))⟩
    rw [Nat.zero_add]
    exact .int _
theorem yl_str {z : Str} : Yl K (Its z) (z.cps.toList.map fun c => D.str ⟨#[c]⟩) H js := by
  intro H' js' S' g r
  refine ⟨fun i d e => ?_, by
    show z.cps.size ≤ _
    simp⟩
  rw [List.getElem?_map] at e
  cases h : z.cps.toList[i]? with
  | none => rw [h] at e; cases e
  | some k =>
    rw [h] at e
    cases e
    have h1 : i < z.cps.size := by
      have := (List.getElem?_eq_some_iff.mp h).1
      simpa using this
    refine ⟨h1, fun x H'' y => ?_⟩
    obtain ⟨e2, c, e3, e4⟩ := y
    subst e2 e4
    have e5 : z.cps.toList[i]? = some c := by simpa using e3
    rw [h] at e5
    cases e5
    exact ⟨Grow.refl, r, .str _⟩
end

/-! ### runs by steps -/
def foldRn {α β : Type} (f : D → α → Sto → Out (α ⊕ β)) (n : Nat) (w : Dm) : Nat → Nat → α → Sto → Out (α ⊕ β)
  | 0, _, _, _ => none
  | m + 1, i, a, S => match S[n]? with
    | some (.lst ds) =>
      match dynAt w S ds i with
      | none => none
      | some none => some (.ok (.inl a) S)
      | some (some d) => bd (f d a S) fun r S1 => match r with
        | .inl a' => foldRn f n w m (i + 1) a' S1
        | .inr b => some (.ok (.inr b) S1)
    | _ => none
theorem foldR_n {α β : Type} (f : D → α → Sto → Out (α ⊕ β)) (n : Nat) (w : Dm) : ∀ (i : Nat) (a : α) (S : Sto) (r : Rs (α ⊕ β)), foldR f n w i a S = some r → ∃ m, foldRn f n w m i a S = some r := by
  refine foldR.partial_correctness f n w (fun i a S r => ∃ m, foldRn f n w m i a S = some r) ?_
  intro g ih i a S r h
  split at h
  · rename_i ds e
    split at h
    · cases h
    · rename_i e2
      refine ⟨1, ?_⟩
      unfold foldRn
      rw [e]
      simp only [e2]
      exact h
    · rename_i d e2
      split at h
      · cases h
      · rename_i c xs S1 e3
        refine ⟨1, ?_⟩
        unfold foldRn
        rw [e]
        simp only [e2]
        rw [e3]
        exact h
      · rename_i b S1 e3
        refine ⟨1, ?_⟩
        unfold foldRn
        rw [e]
        simp only [e2]
        rw [e3]
        exact h
      · rename_i a' S1 e3
        obtain ⟨m, hm⟩ := ih _ _ _ _ h
        refine ⟨m + 1, ?_⟩
        unfold foldRn
        rw [e]
        simp only [e2]
        rw [e3]
        exact hm
  · cases h
def whileN (c : Rho → Sto → Out Bool) (b : Rho → Sto → Out Fl) : Nat → Rho → Sto → Out Fl
  | 0, _, _ => none
  | m + 1, ρ, S => bx (c ρ S) ρ fun t S1 => match t with
    | false => some (.ok (.nx ρ) S1)
    | true => bd (b ρ S1) fun f S2 => match f with
      | .nx ρ' => whileN c b m ρ' S2
      | .cnt ρ' => whileN c b m ρ' S2
      | .brk ρ' => some (.ok (.nx ρ') S2)
      | .ret d => some (.ok (.ret d) S2)
      | .rz ρ' x xs => some (.ok (.rz ρ' x xs) S2)
theorem whileL_n (c : Rho → Sto → Out Bool) (b : Rho → Sto → Out Fl) : ∀ (ρ : Rho) (S : Sto) (r : Rs Fl), whileL c b ρ S = some r → ∃ m, whileN c b m ρ S = some r := by
  refine whileL.partial_correctness c b (fun ρ S r => ∃ m, whileN c b m ρ S = some r) ?_
  intro g ih ρ S r h
  split at h
  · cases h
  · rename_i e; exact ⟨1, by unfold whileN; rw [e]; exact h⟩
  · rename_i e; exact ⟨1, by unfold whileN; rw [e]; exact h⟩
  · rename_i S1 e
    split at h
    · cases h
    · rename_i e2; exact ⟨1, by unfold whileN; rw [e]; simp only [bx]; rw [e2]; exact h⟩
    · rename_i e2
      obtain ⟨m, hm⟩ := ih _ _ _ h
      exact ⟨m + 1, by unfold whileN; rw [e]; simp only [bx]; rw [e2]; exact hm⟩
    · rename_i e2
      obtain ⟨m, hm⟩ := ih _ _ _ h
      exact ⟨m + 1, by unfold whileN; rw [e]; simp only [bx]; rw [e2]; exact hm⟩
    · rename_i e2; exact ⟨1, by unfold whileN; rw [e]; simp only [bx]; rw [e2]; exact h⟩
    · rename_i e2; exact ⟨1, by unfold whileN; rw [e]; simp only [bx]; rw [e2]; exact h⟩
    · rename_i e2; exact ⟨1, by unfold whileN; rw [e]; simp only [bx]; rw [e2]; exact h⟩

/-! ### a list that grows beside the store -/
section
variable {K : Kx} {H H1 : Hp} {js js1 : List Addr}
theorem RepN.imp (f : ∀ {d : D} {v : V}, RepV K H js d v → RepV K H1 js1 d v) {kvs : List (NestedKey × D × D)} {xs : List (NestedKey × Addr × Value)} (r : RepN K H js kvs xs) : RepN K H1 js1 kvs xs := by
  induction r with
  | nil => exact .nil
  | cons hk rk rv r t ih => exact .cons hk (f rk) rv (f r) ih
theorem RepO.imp {a : Addr} {o : O} {h : Option HO} (f : ∀ {d : D} {v : V}, RepV K H js d v → RepV K H1 js1 d v) (fs : ∀ {ds : List D} {vs : List V}, RepVs K H js ds vs → RepVs K H1 js1 ds vs) (r : RepO K H js a o h) : RepO K H1 js1 a o h := by
  unfold RepO at r
  split at r
  · exact fs r
  · exact ⟨r.1, fs r.2⟩
  · obtain ⟨hl, xs, e, q⟩ := r
    exact ⟨hl, xs, e, q.imp f⟩
  · exact ⟨r.1, fs r.2⟩
  · obtain ⟨hl, xs, e, q⟩ := r
    exact ⟨hl, xs, e, q.imp f⟩
  · exact r.elim
end
section
variable {K : Kx} {H H1 : Hp} {js js1 : List Addr} {S : Sto} {Da : Addr} {l l' : List V}
mutual
theorem RepV.beside (hD : H Da = some (.lst l)) : ∀ {d : D} {v : V}, RepV K H js d v → RepV K (upd H Da (.lst l')) js d v
  | _, _, .non => .non
  | _, _, .bl b => .bl b
  | _, _, .int i => .int i
  | _, _, .str x => .str x
  | _, _, .tup h n r => .tup (by rw [upd_ne (ne_of h hD (by intro z; cases z))]; exact h) n (RepVs.beside hD r)
  | _, _, .ref h => .ref h
  | _, _, .fz h r => .fz (by
      rcases h with ⟨o, h, n⟩ | h
      · exact .inl ⟨o, by rw [upd_ne (ne_of h hD (by intro z; cases z))]; exact h, n⟩
      · exact .inr h) (RepVs.beside hD r)
theorem RepVs.beside (hD : H Da = some (.lst l)) : ∀ {ds : List D} {vs : List V}, RepVs K H js ds vs → RepVs K (upd H Da (.lst l')) js ds vs
  | _, _, .nil => .nil
  | _, _, .cons h t => .cons (RepV.beside hD h) (RepVs.beside hD t)
end
theorem RelS.beside (r : RelS K H js S) (n : Da ∉ js) (hD : H Da = some (.lst l)) : RelS K (upd H Da (.lst l')) js S :=
  ⟨r.len, r.nd, fun m a o e e' => by
    have q := r.obj m a o e e'
    have na : a ≠ Da := fun z => n (by rw [← z]; exact List.mem_of_getElem? e)
    rw [upd_ne na]
    exact q.imp (RepV.beside hD) (RepVs.beside hD)⟩
theorem Grow.beside (g : Grow H js H1 js1) (hD : H Da = none) : Grow H js (upd H1 Da (.lst l')) js1 :=
  ⟨g.pre, fun a o n h => by rw [upd_ne (ne_of_none h hD)]; exact g.keep a o n h, fun a o u h => by rw [upd_ne (ne_of_none h hD)]; exact g.frz a o u h⟩
end
theorem wipe_get (σ : L2.St) : ∀ (vs : List Nat) (j : Nat), (wipe σ vs)[j]? = if j ∈ vs then (σ[j]?).map (fun _ => none) else σ[j]?
  | [], j => by simp [wipe]
  | v :: vs, j => by
    unfold wipe
    by_cases h : v = j
    · subst h
      rw [if_pos List.mem_cons_self]
      by_cases hl : v < σ.length
      · rw [List.getElem?_set_self (by rw [wipe_length]; exact hl), List.getElem?_eq_getElem hl]
        rfl
      · rw [List.getElem?_eq_none (by rw [List.length_set, wipe_length]; omega), List.getElem?_eq_none (by omega)]
        rfl
    · rw [List.getElem?_set_ne h, wipe_get σ vs j]
      have e : (j ∈ v :: vs) ↔ j ∈ vs := by
        rw [List.mem_cons]
        exact ⟨fun z => z.elim (fun q => absurd q.symm h) id, .inr⟩
      by_cases hj : j ∈ vs
      · rw [if_pos hj, if_pos (e.mpr hj)]
      · rw [if_neg hj, if_neg fun z => hj (e.mp z)]
theorem wipe_back {σ σ2 : L2.St} {vs : List Nat} (hl : σ2.length = σ.length) (h : ∀ j, j ∉ vs → σ2[j]? = (wipe σ vs)[j]?) : wipe σ2 vs = wipe σ vs := by
  refine List.ext_getElem? fun j => ?_
  rw [wipe_get, wipe_get]
  by_cases hj : j ∈ vs
  · rw [if_pos hj, if_pos hj]
    by_cases h1 : j < σ.length
    · rw [List.getElem?_eq_getElem h1, List.getElem?_eq_getElem (by rw [hl]; exact h1)]
      rfl
    · rw [List.getElem?_eq_none (show σ.length ≤ j by omega), List.getElem?_eq_none (show σ2.length ≤ j by omega)]
  · rw [if_neg hj, if_neg hj]
    have := h j hj
    rw [wipe_get, if_neg hj] at this
    exact this

/-! ### one turn of a run -/
def Run {α β : Type} (it : It) (f : D → α → Sto → Out (α ⊕ β)) (i m : Nat) (a : α) (S : Sto) (r : α ⊕ β) (S5 : Sto) : Prop :=
  match it with
  | .fix ds => i + m = ds.length ∧ foldF f (ds.drop i) a S = some (.ok r S5)
  | .dyn n w => foldRn f n w m i a S = some (.ok r S5)
  | .lkd _ ds => i + m = ds.length ∧ foldF f (ds.drop i) a S = some (.ok r S5)
theorem run_start {α β : Type} {it : It} {f : D → α → Sto → Out (α ⊕ β)} {a : α} {S S5 : Sto} {r : α ⊕ β} (h : foldI f it a S = some (.ok r S5)) : ∃ m, Run it f 0 m a S r S5 := by
  cases it with
  | fix ds => exact ⟨ds.length, by omega, h⟩
  | dyn n w => exact foldR_n f n w 0 a S _ h
  | lkd n ds => exact ⟨ds.length, by omega, h⟩
theorem dyn_at {K : Kx} {H0 H : Hp} {js0 js : List Addr} {J : L2.It} {n : Nat} {w : Dm} {S : Sto} {ds : List D} {i : Nat} (wk : Wk K H0 js0 (.dyn n w) J) (g : Grow H0 js0 H js) (rs : RelS K H js S) (e : S[n]? = some (.lst ds)) :
    (dynAt w S ds i = some none → J.stop i H) ∧ ∀ d, dynAt w S ds i = some (some d) → J.go i H ∧ ∀ x H'', J.yld i H x H'' → Grow H js H'' js ∧ RelS K H'' js S ∧ RepV K H'' js d x := by
  obtain ⟨p, hp, wk⟩ := wk
  have hp := g.at hp
  obtain ⟨p', xs, e1, e2, q⟩ := rs.list e
  rw [hp] at e1; cases e1
  have sq : SqL K H p xs := .inl (.inl e2)
  cases w with
  | plain =>
    cases wk
    refine ⟨fun h => ?_, fun d h => ?_⟩
    · have h : ds[i]? = none := Option.some.inj h
      exact ⟨xs, sq, by rw [← q.length]; exact List.getElem?_eq_none_iff.mp h⟩
    · have h : ds[i]? = some d := Option.some.inj h
      obtain ⟨v, e4, r4⟩ := q.get h
      refine ⟨⟨xs, v, sq, e4⟩, fun x H'' y => ?_⟩
      obtain ⟨y1, y2⟩ := y
      subst y1
      have := y2 xs sq
      rw [e4] at this
      cases this
      exact ⟨Grow.refl, rs, r4⟩
  | enum =>
    cases wk
    refine ⟨fun h => ?_, fun d h => ?_⟩
    · have h : (ds[i]?.map fun d => D.tup [.int i, d]) = none := Option.some.inj h
      rw [Option.map_eq_none_iff] at h
      exact ⟨xs, sq, by rw [← q.length]; exact List.getElem?_eq_none_iff.mp h⟩
    · have h : (ds[i]?.map fun d => D.tup [.int i, d]) = some d := Option.some.inj h
      cases e0 : ds[i]? with
      | none => rw [e0] at h; cases h
      | some d0 =>
        rw [e0] at h
        cases h
        obtain ⟨v, e4, r4⟩ := q.get e0
        refine ⟨⟨xs, v, sq, e4⟩, fun x H'' y => ?_⟩
        obtain ⟨T, y0, rfl, hT, rfl, hy⟩ := y
        have := hy xs sq
        rw [e4] at this
        cases this
        have gg := Grow.lay (o := .tup [.int (i : Nat), v]) rs hT
        exact ⟨gg, rs.lay hT, .tup upd_same (rs.fresh hT) (.cons (.int _) (.cons (r4.mono gg) .nil))⟩
  | zip2 n2 =>
    obtain ⟨b, hb, rfl⟩ := wk
    have hb := g.at hb
    refine ⟨fun h => ?_, fun d h => ?_⟩
    · unfold dynAt at h
      simp only at h
      split at h
      · rename_i es e8
        have h := Option.some.inj h
        obtain ⟨p2, ys, f1, f2, q2⟩ := rs.list e8
        rw [hb] at f1; cases f1
        refine ⟨xs, ys, sq, .inl (.inl f2), ?_⟩
        cases ea : ds[i]? with
        | none => exact .inl (by rw [← q.length]; exact List.getElem?_eq_none_iff.mp ea)
        | some a =>
          cases eb : es[i]? with
          | none => exact .inr (by rw [← q2.length]; exact List.getElem?_eq_none_iff.mp eb)
          | some b => rw [ea, eb] at h; cases h
      · cases h
    · unfold dynAt at h
      simp only at h
      split at h
      · rename_i es e8
        have h := Option.some.inj h
        obtain ⟨p2, ys, f1, f2, q2⟩ := rs.list e8
        rw [hb] at f1; cases f1
        have sq2 : SqL K H b ys := .inl (.inl f2)
        cases ea : ds[i]? with
        | none => rw [ea] at h; cases h
        | some a =>
          cases eb : es[i]? with
          | none => rw [ea, eb] at h; cases h
          | some b =>
            rw [ea, eb] at h
            cases h
            obtain ⟨va, e4, r4⟩ := q.get ea
            obtain ⟨vb, e5, r5⟩ := q2.get eb
            refine ⟨⟨xs, ys, va, vb, sq, sq2, e4, e5⟩, fun x H'' y => ?_⟩
            obtain ⟨T, y0, y1, rfl, hT, rfl, hy, hz⟩ := y
            have t1 := hy xs sq
            have t2 := hz ys sq2
            rw [e4] at t1
            rw [e5] at t2
            cases t1
            cases t2
            have gg := Grow.lay (o := .tup [va, vb]) rs hT
            exact ⟨gg, rs.lay hT, .tup upd_same (rs.fresh hT) (.cons (r4.mono gg) (.cons (r5.mono gg) .nil))⟩
      · cases h
  | zip fs len =>
    obtain ⟨t, ys, h1, n1, q1, rfl⟩ := wk
    have h1' := g.keep _ _ n1 h1
    have q1' := RepVs.mono g q1
    have st : SqT K H t ys := .inl (.inl h1')
    refine ⟨fun h => ?_, fun d h => ?_⟩
    · unfold dynAt at h
      simp only at h
      split at h
      · rename_i hl
        have h := Option.some.inj h
        refine ⟨ys, xs, st, sq, by rw [q1.length], by rw [← q.length]; exact hl, ?_⟩
        cases ea : fs[i]? with
        | none => exact .inl (List.getElem?_eq_none_iff.mp ea)
        | some a =>
          cases eb : ds[i]? with
          | none => exact .inr (by rw [← hl]; exact List.getElem?_eq_none_iff.mp eb)
          | some b => rw [ea, eb] at h; cases h
      · cases h
    · unfold dynAt at h
      simp only at h
      split at h
      · rename_i hl
        have h := Option.some.inj h
        cases ea : fs[i]? with
        | none => rw [ea] at h; cases h
        | some a =>
          cases eb : ds[i]? with
          | none => rw [ea, eb] at h; cases h
          | some b =>
            rw [ea, eb] at h
            cases h
            obtain ⟨va, e4, r4⟩ := q1'.get ea
            obtain ⟨vb, e5, r5⟩ := q.get eb
            refine ⟨⟨ys, xs, va, vb, st, sq, by rw [q1.length], by rw [← q.length]; exact hl, e4, e5⟩, fun x H'' y => ?_⟩
            obtain ⟨T, y0, y1, rfl, hT, rfl, hy, hz⟩ := y
            have t1 := hy ys st
            have t2 := hz xs sq
            rw [e4] at t1
            rw [e5] at t2
            cases t1
            cases t2
            have gg := Grow.lay (o := .tup [va, vb]) rs hT
            exact ⟨gg, rs.lay hT, .tup upd_same (rs.fresh hT) (.cons (r4.mono gg) (.cons (r5.mono gg) .nil))⟩
      · cases h
theorem run_step {α β : Type} {K : Kx} {H0 H : Hp} {js0 js : List Addr} {J : L2.It} {it : It} {f : D → α → Sto → Out (α ⊕ β)} {i m : Nat} {a : α} {S S5 : Sto} {r : α ⊕ β}
    (wk : Wk K H0 js0 it J) (g : Grow H0 js0 H js) (rs : RelS K H js S) (h : Run it f i m a S r S5) :
    (J.stop i H ∧ r = .inl a ∧ S5 = S) ∨ ∃ d, J.go i H ∧ (∀ x H'', J.yld i H x H'' → Grow H js H'' js ∧ RelS K H'' js S ∧ RepV K H'' js d x) ∧
      ((∃ b S1, f d a S = some (.ok (.inr b) S1) ∧ r = .inr b ∧ S5 = S1) ∨ ∃ a' S1 m', m' < m ∧ f d a S = some (.ok (.inl a') S1) ∧ Run it f (i + 1) m' a' S1 r S5) := by
  cases it with
  | fix ds =>
    obtain ⟨hm, h⟩ := h
    obtain ⟨y1, y2⟩ := (show Yl K J ds H0 js0 from wk) H js S g rs
    by_cases hi : i < ds.length
    · have ed : ds.drop i = ds[i] :: ds.drop (i + 1) := List.drop_eq_getElem_cons hi
      rw [ed] at h
      obtain ⟨z1, z2⟩ := y1 i ds[i] (List.getElem?_eq_getElem hi)
      refine .inr ⟨ds[i], z1, z2, ?_⟩
      unfold foldF at h
      cases e : f ds[i] a S with
      | none => rw [e] at h; cases h
      | some q =>
        cases q with
        | ex c xs S1 => rw [e] at h; cases h
        | ok q S1 =>
          rw [e] at h
          cases q with
          | inr b => cases h; exact .inl ⟨b, _, rfl, rfl, rfl⟩
          | inl a' => exact .inr ⟨a', S1, m - 1, by omega, rfl, by omega, h⟩
    · rw [List.drop_of_length_le (by omega)] at h
      cases h
      refine .inl ⟨?_, rfl, rfl⟩
      rw [show i = ds.length by omega]
      exact y2
  | lkd nn ds =>
    obtain ⟨hm, h⟩ := h
    obtain ⟨y1, y2⟩ := (show Yl K J ds H0 js0 from wk) H js S g rs
    by_cases hi : i < ds.length
    · have ed : ds.drop i = ds[i] :: ds.drop (i + 1) := List.drop_eq_getElem_cons hi
      rw [ed] at h
      obtain ⟨z1, z2⟩ := y1 i ds[i] (List.getElem?_eq_getElem hi)
      refine .inr ⟨ds[i], z1, z2, ?_⟩
      unfold foldF at h
      cases e : f ds[i] a S with
      | none => rw [e] at h; cases h
      | some q =>
        cases q with
        | ex c xs S1 => rw [e] at h; cases h
        | ok q S1 =>
          rw [e] at h
          cases q with
          | inr b => cases h; exact .inl ⟨b, _, rfl, rfl, rfl⟩
          | inl a' => exact .inr ⟨a', S1, m - 1, by omega, rfl, by omega, h⟩
    · rw [List.drop_of_length_le (by omega)] at h
      cases h
      refine .inl ⟨?_, rfl, rfl⟩
      rw [show i = ds.length by omega]
      exact y2
  | dyn n w =>
    cases m with
    | zero => cases h
    | succ m =>
      have h : foldRn f n w (m + 1) i a S = some (.ok r S5) := h
      unfold foldRn at h
      split at h
      · rename_i ds e
        obtain ⟨st, go⟩ := dyn_at (i := i) wk g rs e
        split at h
        · cases h
        · rename_i e3
          cases h
          exact .inl ⟨st e3, rfl, rfl⟩
        · rename_i d e3
          obtain ⟨g1, g2⟩ := go d e3
          refine .inr ⟨d, g1, g2, ?_⟩
          cases e5 : f d a S with
          | none => rw [e5] at h; cases h
          | some q =>
            cases q with
            | ex c xs S1 => rw [e5] at h; cases h
            | ok q S1 =>
              rw [e5] at h
              cases q with
              | inr b => cases h; exact .inl ⟨b, _, rfl, rfl, rfl⟩
              | inl a' => exact .inr ⟨a', S1, m, by omega, rfl, h⟩
      · cases h
/-! ### a list of ours given to the store -/
section
variable {K : Kx} {H : Hp} {js : List Addr} {S : Sto} {Da : Addr} {l : List V}
mutual
theorem RepV.ext (hD : H Da = some (.lst l)) : ∀ {d : D} {v : V}, RepV K H js d v → RepV K H (js ++ [Da]) d v
  | _, _, .non => .non
  | _, _, .bl b => .bl b
  | _, _, .int i => .int i
  | _, _, .str x => .str x
  | _, _, .tup h n r => .tup h (by
      rw [List.mem_append, List.mem_singleton]
      rintro (z | z)
      · exact n z
      · rw [z, hD] at h; cases h) (RepVs.ext hD r)
  | _, _, .ref h => .ref (by rw [List.getElem?_append_left (List.getElem?_eq_some_iff.mp h).1]; exact h)
  | _, _, .fz h r => .fz (by
      rcases h with ⟨o, h, n⟩ | h
      · refine .inl ⟨o, h, ?_⟩
        rw [List.mem_append, List.mem_singleton]
        rintro (z | z)
        · exact n z
        · rw [z, hD] at h; cases h
      · exact .inr h) (RepVs.ext hD r)
theorem RepVs.ext (hD : H Da = some (.lst l)) : ∀ {ds : List D} {vs : List V}, RepVs K H js ds vs → RepVs K H (js ++ [Da]) ds vs
  | _, _, .nil => .nil
  | _, _, .cons h t => .cons (RepV.ext hD h) (RepVs.ext hD t)
end
theorem RelS.give (r : RelS K H js S) (n : Da ∉ js) (hD : H Da = some (.lst l)) {ds : List D} (q : RepVs K H js ds l) : RelS K H (js ++ [Da]) (S ++ [.lst ds]) := by
  refine ⟨by rw [List.length_append, List.length_append, r.len]; rfl, ?_, fun m a o e e' => ?_⟩
  · refine List.nodup_append.mpr ⟨r.nd, by simp, fun a ha b hb => ?_⟩
    have e : b = Da := by simpa using hb
    subst e
    intro e
    subst e
    exact n ha
  · by_cases hn : m < js.length
    · rw [List.getElem?_append_left hn] at e
      rw [List.getElem?_append_left (by rw [← r.len]; exact hn)] at e'
      exact (r.obj m a o e e').imp (RepV.ext hD) (RepVs.ext hD)
    · have hn' : m = js.length := by
        have := (List.getElem?_eq_some_iff.mp e).1
        rw [List.length_append] at this
        simp at this
        omega
      subst hn'
      rw [List.getElem?_append_right (Nat.le_refl _)] at e
      simp at e
      subst e
      rw [r.len, List.getElem?_append_right (Nat.le_refl _)] at e'
      simp at e'
      subst e'
      rw [hD]
      exact RepVs.ext hD q
theorem Grow.give {H0 : Hp} {js0 : List Addr} (g : Grow H0 js0 H js) (n : H0 Da = none) (n0 : Da ∉ js0) (nj : Da ∉ js) : Grow H0 js0 H (js ++ [Da]) := by
  obtain ⟨new, rfl, hn⟩ := g.pre
  refine ⟨⟨new ++ [Da], by rw [List.append_assoc], fun a ha => ?_⟩, g.keep, g.frz⟩
  rcases List.mem_append.mp ha with z | z
  · exact hn a z
  · have e : a = Da := by simpa using z
    subst e
    exact ⟨n0, n⟩
theorem Grow.none_of {H0 : Hp} {js0 : List Addr} (g : Grow H0 js0 H js) (n : H Da = none) (nj : Da ∉ js) : H0 Da = none ∧ Da ∉ js0 := by
  obtain ⟨new, rfl, hn⟩ := g.pre
  have n0 : Da ∉ js0 := fun z => nj (List.mem_append_left _ z)
  refine ⟨?_, n0⟩
  cases q : H0 Da with
  | none => rfl
  | some o => rw [g.keep _ _ n0 q] at n; cases n
end

/-! ### an object of ours, written and given to the store -/
section
variable {K : Kx} {H : Hp} {js : List Addr} {S : Sto} {Da : Addr} {u u' : HO}
mutual
theorem RepV.giv (hD : H Da = some u) (p1 : ∀ xs, u ≠ .tup xs) (p2 : ∀ o v, u ≠ .frz o v) : ∀ {d : D} {v : V}, RepV K H js d v → RepV K (upd H Da u') (js ++ [Da]) d v
  | _, _, .non => .non
  | _, _, .bl b => .bl b
  | _, _, .int i => .int i
  | _, _, .str x => .str x
  | _, _, @RepV.tup _ _ _ _ a xs h n r => .tup (by
      have na : a ≠ Da := fun z => by
        rw [z, hD] at h
        exact p1 _ (Option.some.inj h)
      rw [upd_ne na]; exact h) (by
      rw [List.mem_append, List.mem_singleton]
      rintro (z | z)
      · exact n z
      · rw [z, hD] at h; exact p1 _ (Option.some.inj h)) (RepVs.giv hD p1 p2 r)
  | _, _, .ref h => .ref (by rw [List.getElem?_append_left (List.getElem?_eq_some_iff.mp h).1]; exact h)
  | _, _, @RepV.fz _ _ _ _ a xs h r => .fz (by
      rcases h with ⟨o, h, n⟩ | h
      · have na : a ≠ Da := fun z => by
          rw [z, hD] at h
          exact p2 _ _ (Option.some.inj h)
        refine .inl ⟨o, by rw [upd_ne na]; exact h, ?_⟩
        rw [List.mem_append, List.mem_singleton]
        rintro (z | z)
        · exact n z
        · exact na z
      · exact .inr h) (RepVs.giv hD p1 p2 r)
theorem RepVs.giv (hD : H Da = some u) (p1 : ∀ xs, u ≠ .tup xs) (p2 : ∀ o v, u ≠ .frz o v) : ∀ {ds : List D} {vs : List V}, RepVs K H js ds vs → RepVs K (upd H Da u') (js ++ [Da]) ds vs
  | _, _, .nil => .nil
  | _, _, .cons h t => .cons (RepV.giv hD p1 p2 h) (RepVs.giv hD p1 p2 t)
end
theorem RelS.giv (r : RelS K H js S) (n : Da ∉ js) (hD : H Da = some u) (p1 : ∀ xs, u ≠ .tup xs) (p2 : ∀ o v, u ≠ .frz o v) {ob : O} (q : RepO K H js Da ob (some u')) : RelS K (upd H Da u') (js ++ [Da]) (S ++ [ob]) := by
  refine ⟨by rw [List.length_append, List.length_append, r.len]; rfl, ?_, fun m a o e e' => ?_⟩
  · refine List.nodup_append.mpr ⟨r.nd, by simp, fun a ha b hb => ?_⟩
    have e : b = Da := by simpa using hb
    subst e
    intro e
    subst e
    exact n ha
  · by_cases hn : m < js.length
    · rw [List.getElem?_append_left hn] at e
      rw [List.getElem?_append_left (by rw [← r.len]; exact hn)] at e'
      have na : a ≠ Da := fun z => n (by rw [← z]; exact List.mem_of_getElem? e)
      rw [upd_ne na]
      exact (r.obj m a o e e').imp (RepV.giv hD p1 p2) (RepVs.giv hD p1 p2)
    · have hn' : m = js.length := by
        have := (List.getElem?_eq_some_iff.mp e).1
        rw [List.length_append] at this
        simp at this
        omega
      subst hn'
      rw [List.getElem?_append_right (Nat.le_refl _)] at e
      simp at e
      subst e
      rw [r.len, List.getElem?_append_right (Nat.le_refl _)] at e'
      simp at e'
      subst e'
      rw [upd_same]
      exact q.imp (RepV.giv hD p1 p2) (RepVs.giv hD p1 p2)
theorem Grow.giv {H0 : Hp} {js0 : List Addr} (g : Grow H0 js0 H js) (n : H0 Da = none) (n0 : Da ∉ js0) (nj : Da ∉ js) : Grow H0 js0 (upd H Da u') (js ++ [Da]) := by
  obtain ⟨new, rfl, hn⟩ := g.pre
  refine ⟨⟨new ++ [Da], by rw [List.append_assoc], fun a ha => ?_⟩, fun a o nn h => by rw [upd_ne (ne_of_none h n)]; exact g.keep a o nn h, fun a o q h => by rw [upd_ne (ne_of_none h n)]; exact g.frz a o q h⟩
  rcases List.mem_append.mp ha with z | z
  · exact hn a z
  · have e : a = Da := by simpa using z
    subst e
    exact ⟨n0, n⟩
end
/-! ### a dict's display -/
def esN : Es → Nat
  | .nil => 0
  | .cons _ es => esN es + 1
def disTrs (K : Kx) (F : Orc) (W : WX) : List Str → Es → List (TE × TE)
  | k :: ks, .cons e es => (tC (.str k), rdE K F W e) :: disTrs K F W ks es
  | _, _ => []
theorem dis_read {K : Kx} {F : Orc} {ρ : Rho} {σ : L2.St} {W : WX} : ∀ (ks : List Str) (es : Es) (H : Hp) (js : List Addr) (S : Sto) (Q : List (V × V) → Hp → Prop), esN es = ks.length → RelS K H js S → RepR K H js ρ σ →
    OkA K H js (evEs F es ρ S) (fun c d H' => W c d σ H') (fun vs H2 => Q ((ks.zip vs).map fun kv => (V.str kv.1, kv.2)) H2) → tPairs (disTrs K F W ks es) σ H Q
  | [], .nil, H, js, S, Q, hl, rs, rr, q => by
    unfold evEs at q
    exact q.pure rs (v := []) .nil
  | [], .cons _ _, _, _, _, _, hl, _, _, _ => by simp [esN] at hl
  | _ :: _, .nil, _, _, _, _, hl, _, _, _ => by simp [esN] at hl
  | k :: ks, .cons x es, H, js, S, Q, hl, rs, rr, q => by
    unfold evEs at q
    show rdE K F W x σ H fun y H2 => tPairs (disTrs K F W ks es) σ H2 fun ps H3 => Q ((V.str k, y) :: ps) H3
    refine rdE.bd q rs rr fun v H1 js1 S1 d g1 rs1 r1 q => ?_
    refine dis_read ks es H1 js1 S1 _ (by simpa [esN] using hl) rs1 (rr.mono g1) (q.bind fun vs H2 js2 S2 ds _ g2 rs2 r2 q => ?_)
    exact q.pure rs2 (v := v :: vs) (.cons (r1.mono g2) r2)
theorem dis_rep {K : Kx} {H : Hp} {js : List Addr} : ∀ (ks : List Str) (ds : List D) (vs : List V) (k0 : List (L2.Key × D)) (v0 : List (L2.Key × V)), RepVs K H js ds vs → RepK K H js k0 v0 →
    RepK K H js ((ks.zip ds).foldl (fun acc kv => putD acc (.inr kv.1) kv.2) k0) (mergeK v0 ((ks.zip vs).map fun kv => (Sum.inr kv.1, kv.2)))
  | [], ds, vs, k0, v0, r, h => h
  | k :: ks, [], _, k0, v0, .nil, h => h
  | k :: ks, d :: ds, v :: vs, k0, v0, .cons r t, h => dis_rep ks ds vs _ _ t (h.put r)
end VM
/-! WF: the soundness of expressions. -/
namespace VM
open PySem PySem.Spec PyProof.Rows L2
section
variable {X : Cx} {cl : Nat → Option Addr} {nm : Nm} {F : Orc} {W : WX}
abbrev W0 : WX := fun _ _ _ _ => False
theorem Good.blk (g : Good X cl nm F W) {scope : Scope} (hk : scope.kind = .function) (s : Shared) (H : Hp) (C : Addr) (cll : List (Str × Addr)) (fp : List Addr) : Good (X.blk s H scope (compEnvC scope cll C X.env) fp) cl (nm.blk scope) F W0 where
  calm := g.calm
  N := g.N
  nd := g.nd
  sc := by
    show relS scope X.env.scope = relS scope nm.sc
    rw [g.sc]
  kind := hk
  fn := fun x h => h
  hu := g.hu
  bs := g.bs
  gs := g.gs
  call := fun f x h => by
    obtain ⟨k, a, fd, ps, sp, c⟩ := g.call f x h
    exact ⟨k, a, fd, ps, sp, ⟨c.fn, c.room, c.mg, c.kp, c.bi, c.sp⟩⟩
  tk := takes0
/-! #### small rules -/
theorem rdE_const {K : Kx} {e : E} {d : D} {v : V} (he : ∀ ρ S, evE F e ρ S = ok d S) (hr : ∀ (K : Kx) (H : Hp) (js : List Addr), RepV K H js d v) {σ : L2.St} {H : Hp} {Q : VK} (h : rdE K F W e σ H Q) : Q v H := by
  obtain ⟨js, S, ρ, rs, rr, h⟩ := h
  rw [he] at h
  exact h.pure rs (hr _ _ _)
theorem RepR.out {K : Kx} {H : Hp} {js : List Addr} {ρ : Rho} {σ : L2.St} (r : RepR K H js ρ σ) : True := trivial
theorem isi_ok (t : Ty) : CallR X (.builtin "isinstance") (fun vs H Q => ∃ vx js S x W, vs = [vx, .ty (tyS t)] ∧ RelS (kxOf X cl) H js S ∧ RepV (kxOf X cl) H js x vx ∧ OkE (kxOf X cl) H js (lift (isiD t x S) S) W Q) := by
  intro pins s σ H vs us Q I r h
  obtain ⟨vx, js, S, x, W, rfl, rs, r1, h⟩ := h
  obtain ⟨b, e, q⟩ := OkG.lift h rs
  have go : ∀ (T : String) (k : Kd), kdOf x S = some k → TyX X.K H vx (.type T) → kitB T (tyS t) = some (isKd t k) → wpAny (model X.prog X.w) X.A (PySem.call (.builtin "isinstance") us) (EP X pins σ Q) X.xe s := fun T k ek ty kk => by
    unfold isiD at e
    rw [ek] at e
    cases e
    exact call_isi pins s σ H _ us Q I r ⟨vx, .ty (tyS t), .type T, .type (tyS t), _, rfl, .ty _, ty, kit_ty kk, q⟩
  cases r1 with
  | non => exact go _ .non rfl (.base .non) (by cases t <;> decide +kernel)
  | bl c => exact go _ .bool rfl (.base (.bl c)) (by cases t <;> decide +kernel)
  | int i => exact go _ .int rfl (.base (.int i)) (by cases t <;> decide +kernel)
  | str z => exact go _ .str rfl (.base (.str z)) (by cases t <;> decide +kernel)
  | tup h1 n1 q1 => exact go _ .tuple rfl (.base (.tup h1)) (by cases t <;> decide +kernel)
  | fz h1 q1 =>
    rcases h1 with ⟨o, h1, _⟩ | ⟨o, its, n, h1, h2, _⟩
    · exact go _ .list rfl (.base (.frz h1)) (by cases t <;> decide +kernel)
    · have k : TyX X.K H (.ref _) (.type "list") := .kList h1 h2
      exact go _ .list rfl k (by cases t <;> decide +kernel)
  | @ref n a h1 =>
    cases e2 : S[n]? with
    | none =>
      have : kdOf (.ref n) S = none := by simp only [kdOf, e2]
      unfold isiD at e
      rw [this] at e
      cases e
    | some o =>
      cases o with
      | lst ds =>
        obtain ⟨a', xs, e3, e4, e5⟩ := rs.list e2
        rw [h1] at e3; cases e3
        exact go _ .list (by simp only [kdOf, e2]) (.base (.lst e4)) (by cases t <;> decide +kernel)
      | _ =>
        have : kdOf (.ref n) S = none := by simp only [kdOf, e2]
        unfold isiD at e
        rw [this] at e
        cases e
theorem bs_type (t : Ty) : bootBuiltins (tyN t) = some (.type (tyS t)) := by cases t <;> decide +kernel
theorem ty_name (t : Ty) : tyN t ≠ "__name__" ∧ (tyN t == ("__debug__" : Str)) = false := by cases t <;> exact ⟨by decide, by decide⟩
theorem bi_name (b : Bi) : biN b ≠ "__name__" ∧ (biN b == ("__debug__" : Str)) = false := by cases b <;> exact ⟨by decide, by decide⟩
theorem bi_boot (b : Bi) : bootBuiltins (biN b) = some (biV b) := by cases b <;> decide +kernel

theorem star_all {xs : List Expr} {es : Es} (h : mEs nm es xs = true) (env : Env) (pos : Pos) : (backTo pos (starEach xs env)).any (·.1) = false := by
  induction xs generalizing es with
  | nil => rfl
  | cons x xs ih =>
    cases es with
    | nil => unfold mEs at h; cases h
    | cons e es =>
      simp only [mEs, Bool.and_eq_true] at h
      rw [star_plain h.1.1]
      show (false || (backTo pos (starEach xs env)).any (·.1)) = false
      rw [ih h.2]
      rfl
theorem star_allN {xs : List Expr} {es : Es} (h : mEs nm es xs = true) (env : Env) (pos : Pos) : (backTo pos (starEach xs env)).all (fun x => !x.1) = true := by
  induction xs generalizing es with
  | nil => rfl
  | cons x xs ih =>
    cases es with
    | nil => unfold mEs at h; cases h
    | cons e es =>
      simp only [mEs, Bool.and_eq_true] at h
      rw [star_plain h.1.1]
      show (true && (backTo pos (starEach xs env)).all (fun x => !x.1)) = true
      rw [ih h.2]
      rfl
theorem esN_len : ∀ (es : Es) (xs : List Expr), mEs nm es xs = true → esN es = xs.length
  | .nil, xs, h => by
    cases xs with
    | nil => rfl
    | cons _ _ => unfold mEs at h; cases h
  | .cons e es, xs, h => by
    cases xs with
    | nil => unfold mEs at h; cases h
    | cons x xs =>
      simp only [mEs, Bool.and_eq_true] at h
      rw [List.length_cons, ← esN_len es xs h.2]
      rfl
theorem evEs_len : ∀ (es : Es) (xs : List Expr) (ρ : Rho) (S S1 : Sto) (ds : List D), mEs nm es xs = true → evEs F es ρ S = some (.ok ds S1) → ds.length = xs.length
  | .nil, xs, _, _, _, _, h, e => by
    cases xs with
    | nil => cases e; rfl
    | cons _ _ => unfold mEs at h; cases h
  | .cons e es, xs, ρ, S, S1, ds, h, he => by
    cases xs with
    | nil => unfold mEs at h; cases h
    | cons x xs =>
      simp only [mEs, Bool.and_eq_true] at h
      unfold evEs at he
      cases e1 : evE F e ρ S with
      | none => rw [e1] at he; cases he
      | some r =>
        cases r with
        | ex c ys S2 => rw [e1] at he; cases he
        | ok d S2 =>
          rw [e1] at he
          have he : bd (evEs F es ρ S2) (fun ds S3 => ok (d :: ds) S3) = some (.ok ds S1) := he
          cases e2 : evEs F es ρ S2 with
          | none => rw [e2] at he; cases he
          | some r =>
            cases r with
            | ex c ys S3 => rw [e2] at he; cases he
            | ok ds' S3 =>
              rw [e2] at he
              cases he
              rw [List.length_cons, List.length_cons, evEs_len es xs _ _ _ ds' h.2 e2]

theorem pw_andI {K : Kx} {a b : T} {y z : Expr} {r : List Expr} {p : Pos} (ha : PT X y (rdT K F W a)) (hb : PW X (.BoolOp .And (z :: r) p) (rdT K F W b)) : PW X (.BoolOp .And (y :: z :: r) p) (rdT K F W (.and a b)) := by
  refine ⟨fun wh pins s σ H Q I q => ?_⟩
  obtain ⟨js, S, ρ, rs, rr, q⟩ := q
  unfold evT at q
  refine (pw_and ha hb).run wh pins s σ H Q I (rdT.bd q rs rr fun t H1 js1 S1 g1 rs1 q => ?_)
  cases t with
  | true =>
    rw [if_pos rfl]
    exact ⟨js1, S1, ρ, rs1, rr.mono g1, q⟩
  | false =>
    rw [if_neg Bool.false_ne_true]
    exact q.pureX rs1
theorem pw_orI {K : Kx} {a b : T} {y z : Expr} {r : List Expr} {p : Pos} (ha : PT X y (rdT K F W a)) (hb : PW X (.BoolOp .Or (z :: r) p) (rdT K F W b)) : PW X (.BoolOp .Or (y :: z :: r) p) (rdT K F W (.or a b)) := by
  refine ⟨fun wh pins s σ H Q I q => ?_⟩
  obtain ⟨js, S, ρ, rs, rr, q⟩ := q
  unfold evT at q
  refine (pw_or ha hb).run wh pins s σ H Q I (rdT.bd q rs rr fun t H1 js1 S1 g1 rs1 q => ?_)
  cases t with
  | true =>
    rw [if_pos rfl]
    exact q.pureX rs1
  | false =>
    rw [if_neg Bool.false_ne_true]
    exact ⟨js1, S1, ρ, rs1, rr.mono g1, q⟩
theorem pw_oneI {K : Kx} {a : T} {op : BoolOp} {y : Expr} {p : Pos} (ha : PT X y (rdT K F W a)) : PW X (.BoolOp op [y] p) (rdT K F W (.one a)) := by
  refine ⟨fun wh pins s σ H Q I q => ?_⟩
  obtain ⟨js, S, ρ, rs, rr, q⟩ := q
  unfold evT at q
  cases op with
  | And => exact (pw_and1 ha).run wh pins s σ H Q I ⟨js, S, ρ, rs, rr, q⟩
  | Or => exact (pw_or1 ha).run wh pins s σ H Q I ⟨js, S, ρ, rs, rr, q⟩
theorem bmTy_list {m : Bm} {x : D} {S : Sto} (h : bmTy m x S = true) : ∃ n ds, x = .ref n ∧ S[n]? = some (.lst ds) := by
  unfold bmTy at h
  simp only at h
  split at h
  · rename_i n
    cases e : S[n]? with
    | none => rw [e] at h; cases h
    | some o =>
      rw [e] at h
      cases o with
      | lst ds => exact ⟨n, ds, rfl, e⟩
      | _ => cases h
  · cases h
theorem isDic_rep {K : Kx} {H : Hp} {js : List Addr} {S : Sto} {n : Nat} {a : Addr} (h : isDic S n = true) (rs : RelS K H js S) (e : js[n]? = some a) : DK K H a := by
  unfold isDic at h
  cases e0 : S[n]? with
  | none => rw [e0] at h; cases h
  | some ob =>
    rw [e0] at h
    simp only [Option.map_some] at h
    obtain ⟨a', e1, q⟩ := rs.at e0
    rw [e] at e1; cases e1
    split at h
    · rename_i kvs e2
      obtain ⟨vs, ho, _⟩ := q.dicR (Option.some.inj e2)
      refine .inl ⟨vs, ?_⟩
      rcases ho with ho | ⟨u, ho⟩
      · exact .inl ho
      · exact .inr ⟨u, ho⟩
    · rename_i kvs e2
      obtain ⟨_, xs, ho, q⟩ := q.dinR (Option.some.inj e2)
      refine .inr ⟨xs, ?_, q.keys⟩
      rcases ho with ho | ⟨u, ho⟩
      · exact .inl ho
      · exact .inr ⟨u, ho⟩
    · cases h
theorem popTy {K : Kx} {H : Hp} {js : List Addr} {S : Sto} {x : D} {v : V} {W : XK} {Q : VK} (q : OkE K H js (popD x S) W Q) (rs : RelS K H js S) (r : RepV K H js x v) : tyV K.K "list" v H := by
  unfold popD at q
  split at q
  · split at q
    · rename_i n ys e
      cases r with
      | ref h1 =>
        obtain ⟨a', xs, e4, e5, _⟩ := rs.list e
        rw [h1] at e4; cases e4
        exact .inl ⟨rfl, xs, .inl (.inl e5)⟩
    · exact q.elim
  · exact q.elim
theorem lock_ok {K : Kx} {H0 H : Hp} {js : List Addr} {S : Sto} {n : Nat} {a : Addr} {ds : List D} {W : XK} {R : L2.It × Hp → Hp → Prop} {ob : O} {kvs : List (L2.Key × D)} (q : OkG (WkI H0) K H js (lockI n ds S) W R) (rs : RelS K H js S) (ha : js[n]? = some a) (e : S[n]? = some ob) (hk : ob.core = .dic kvs) :
    ∃ vs, RepK K H js kvs vs ∧ ((∃ o, H a = some (.frz o (.dK vs)) ∧ ∀ J, Yl K J ds H js → R (J, H) H) ∨
      (H a = some (.dK vs) ∧ ∀ o, (∀ o' u', H0 a ≠ some (.frz o' u')) → ∀ J, Yl K J ds (upd H a (.frz o (.dK vs))) js → R (J, upd H a (.frz o (.dK vs))) H)) := by
  obtain ⟨a', e1, r⟩ := rs.at e
  rw [ha] at e1; cases e1
  obtain ⟨vs, ho, rk⟩ := r.dicR hk
  refine ⟨vs, rk, ?_⟩
  unfold lockI at q
  rw [e] at q
  cases ob with
  | lk o =>
    rcases ho with ho | ⟨u, ho⟩
    · unfold RepO at r
      rw [ho] at r
      cases o <;> exact r.elim
    · refine .inl ⟨u, ho, fun J y => ?_⟩
      exact q (J, H) H js Grow.refl rs ⟨rfl, y⟩
  | dic kvs' =>
    have hk : O.dic kvs' = .dic kvs := hk
    cases hk
    rcases ho with ho | ⟨u, ho⟩
    · refine .inr ⟨ho, fun o hn J y => ?_⟩
      exact q (J, _) H js Grow.refl rs ⟨a, _, o, ha, ho, True.intro, .inl ⟨vs, rfl⟩, hn, rfl, y⟩
    · unfold RepO at r
      rw [ho] at r
      exact r.elim
  | lst _ => cases hk
  | din _ => cases hk
  | ins _ _ => cases hk
theorem dis_some : ∀ (ks : List Str) (keys : List (Option Expr)), disKeys ks keys = true → keys.all (·.isSome) = true
  | [], [], _ => rfl
  | [], _ :: _, h => by unfold disKeys at h; cases h
  | _ :: _, [], h => by unfold disKeys at h; cases h
  | k :: ks, x :: xs, h => by
    unfold disKeys at h
    split at h
    · rename_i e1; cases e1
    · rename_i e1 e2
      cases e1
      cases e2
      rw [Bool.and_eq_true] at h
      rw [List.all_cons, dis_some _ _ h.2]
      rfl
    · cases h
theorem dis_len : ∀ (ks : List Str) (keys : List (Option Expr)), disKeys ks keys = true → ks.length = keys.length
  | [], [], _ => rfl
  | [], _ :: _, h => by unfold disKeys at h; cases h
  | _ :: _, [], h => by unfold disKeys at h; cases h
  | k :: ks, x :: xs, h => by
    unfold disKeys at h
    split at h
    · rename_i e1; cases e1
    · rename_i e1 e2
      cases e1
      cases e2
      rw [Bool.and_eq_true] at h
      rw [List.length_cons, List.length_cons, dis_len _ _ h.2]
    · cases h
theorem nox_bd {K : Kx} {H : Hp} {js : List Addr} {α : Type} {m : Out α} {f : α → Sto → Out D} {W : XK} {Q : VK} (h : OkE K H js (bd (nox m) f) W Q) : ∃ a S, m = some (.ok a S) ∧ OkE K H js (f a S) W Q := by
  cases m with
  | none => exact h.elim
  | some r =>
    cases r with
    | ok a S => exact ⟨a, S, rfl, h⟩
    | ex c xs S => exact h.elim
theorem lc_read {K : Kx} {H0 : Hp} {elt : E} {tg : Tg} {it : I} {c : T} {own : List (Str × Nat)} {σ : L2.St} {H : Hp} {Q : VK} (hsl : ∀ i ∈ tgSl tg, i ∈ own.map (·.2)) (q : rdE K F W (.lc elt tg it c own) σ H Q) :
    tLc (rdI H0 K F W it) (rdTg K tg) (rdT K F W0 c) (rdE K F W0 elt) (own.map (·.2)) σ H Q := by
  obtain ⟨js, S, ρ, rs, rr, q⟩ := q
  unfold evE at q
  refine ⟨js, S, ρ, rs, rr, q.bind fun JH H1 js1 S1 i0 _ g1 rs1 wk0 q => ?_⟩
  obtain ⟨J, HJ⟩ := JH
  have wk1 : HJ = H1 ∧ Wk K H1 js1 i0 J := by
    cases i0 with
    | lkd _ _ => exact q.elim
    | fix _ => exact wk0
    | dyn _ _ => exact wk0
  obtain ⟨rfl, wk⟩ := wk1
  intro Da hDa
  have key : ∃ r S5, foldI (fun (d : D) (acc : List D) (S2 : Sto) => match bindT tg d (wipeR ρ (own.map (·.2))) with
        | none => none
        | some ρ1 => bd (evT F c ρ1 S2) fun t S3 => match t with
          | true => bd (evE F elt ρ1 S3) fun y S4 => if acc.length < sizeLine then ok (.inl (acc ++ [y]) : List D ⊕ Empty) S4 else none
          | false => ok (.inl acc) S3) i0 [] S1 = some (.ok r S5) ∧ OkE K HJ js1 (match r with
        | .inl acc => ok (.ref S5.length) (S5 ++ [.lst acc])
        | .inr e => nomatch e) (fun c d H' => W c d σ H') Q := by
    cases i0 with
    | lkd _ _ => exact q.elim
    | fix _ => exact nox_bd q
    | dyn _ _ => exact nox_bd q
  obtain ⟨r, S5, e2, q⟩ := key
  cases r with
  | inr e => exact nomatch e
  | inl acc =>
  have nDa : Da ∉ js1 := rs1.fresh hDa
  have fin : ∀ (H' : Hp) (js' : List Addr) (xs' : List V), Grow HJ js1 H' js' → RelS K H' js' S5 → Da ∉ js' → H' Da = some (.lst xs') → RepVs K H' js' acc xs' → Q (.ref Da) H' := fun H' js' xs' g' rs' nd hD rv =>
    q _ H' (js' ++ [Da]) (g'.give hDa nDa nd) (rs'.give nd hD rv) (.ref (by rw [← rs'.len]; simp))
  obtain ⟨m0, run0⟩ := run_start e2
  generalize hst : (fun (d : D) (acc : List D) (S2 : Sto) => match bindT tg d (wipeR ρ (own.map (·.2))) with
        | none => none
        | some ρ1 => bd (evT F c ρ1 S2) fun t S3 => match t with
          | true => bd (evE F elt ρ1 S3) fun y S4 => if acc.length < sizeLine then ok (.inl (acc ++ [y]) : List D ⊕ Empty) S4 else none
          | false => ok (.inl acc) S3) = st at run0
  refine ⟨fun i m H' => ∃ js' S' acc' xs', Grow HJ js1 H' js' ∧ RelS K H' js' S' ∧ Da ∉ js' ∧ H' Da = some (.lst xs') ∧ RepVs K H' js' acc' xs' ∧ Run i0 st i m acc' S' (.inl acc) S5,
    ⟨m0, js1, S1, [], [], Grow.lay rs1 hDa, rs1.lay hDa, nDa, upd_same, .nil, run0⟩, ?_⟩
  rintro i m H' ⟨js', S', acc', xs', g', rs', nd', hD', rv', run'⟩
  rcases run_step wk g' rs' run' with ⟨stop, e3, e4⟩ | ⟨d, go, yld, nx⟩
  · cases e3
    subst e4
    exact .inl ⟨stop, fin H' js' xs' g' rs' nd' hD' rv'⟩
  · refine .inr ⟨go, fun H2 => ∃ m', m' < m ∧ ∃ js2 S2 acc2 xs2, Grow HJ js1 H2 js2 ∧ RelS K H2 js2 S2 ∧ Da ∉ js2 ∧ H2 Da = some (.lst xs2) ∧ RepVs K H2 js2 acc2 xs2 ∧ Run i0 st (i + 1) m' acc2 S2 (.inl acc) S5, fun H2 h => h, fun x H2 y => ?_⟩
    obtain ⟨g2, rs2, rx⟩ := yld x H2 y
    have wr : RepR K H2 js' (wipeR ρ (own.map (·.2))) (wipe σ (own.map (·.2))) := ((rr.mono (g1.trans g')).mono g2).wipe _
    have hstd := congrFun (congrFun (congrFun hst d) acc') S'
    rcases nx with ⟨b, _⟩ | ⟨acc2, S2, m', hm, e5, run2⟩
    · exact nomatch b
    · rw [← hstd] at e5
      split at e5
      · cases e5
      · rename_i ρ1 eb
        refine ⟨js', d, _, ρ1, rx, wr, eb, fun σ2 r2 hl hj => ⟨?_, ?_⟩⟩
        · refine wipe_back (by rw [hl, wipe_length]) fun j hn => hj j fun z => hn (hsl j z)
        · cases e6 : evT F c ρ1 S' with
          | none => rw [e6] at e5; cases e5
          | some rt =>
            cases rt with
            | ex _ _ _ => rw [e6] at e5; cases e5
            | ok t S3 =>
              rw [e6] at e5
              simp only [bd_ok] at e5
              refine ⟨js', S', ρ1, rs2, r2, ?_⟩
              rw [e6]
              rintro t' H3 js3 g3 rs3 (et : t = t')
              subst et
              have nd3 : Da ∉ js3 := g3.notin nd' (g2.keep _ _ nd' hD')
              have hD3 : H3 Da = some (.lst xs') := g3.keep _ _ nd' (g2.keep _ _ nd' hD')
              have gg3 : Grow HJ js1 H3 js3 := g'.trans (g2.trans g3)
              cases t with
              | false =>
                cases e5
                simp only [Bool.false_eq_true, if_false]
                exact ⟨m', hm, js3, _, _, xs', gg3, rs3, nd3, hD3, (rv'.mono g2).mono g3, run2⟩
              | true =>
                simp only [if_true]
                cases e7 : evE F elt ρ1 S3 with
                | none => simp only [e7] at e5; cases e5
                | some re =>
                  cases re with
                  | ex _ _ _ => simp only [e7] at e5; cases e5
                  | ok yv S4 =>
                    simp only [e7, bd_ok] at e5
                    split at e5
                    · rename_i hz
                      cases e5
                      refine ⟨js3, S3, ρ1, rs3, r2.mono g3, ?_⟩
                      rw [e7]
                      intro w H4 js4 g4 rs4 r4
                      have hD4 : H4 Da = some (.lst xs') := g4.keep _ _ nd3 hD3
                      have nd4 : Da ∉ js4 := g4.notin nd3 hD3
                      have rv4 : RepVs K H4 js4 acc' xs' := ((rv'.mono g2).mono g3).mono g4
                      refine ⟨xs', hD4, by rw [← rv4.length]; exact hz, m', hm, js4, _, _, _, (gg3.trans g4).beside hDa, rs4.beside nd4 hD4, nd4, upd_same, RepVs.beside hD4 (rv4.append (.cons r4 .nil)), run2⟩
                    · cases e5
end
end VM
/-! WF: the soundness of expressions. -/
namespace VM
open PySem PySem.Spec PyProof.Rows L2
def bmS : Bm → String
  | .append => "append" | .insert => "insert" | .extend => "extend"
section
variable {X : Cx} {cl : Nat → Option Addr} {nm : Nm} {F : Orc} {W : WX}
theorem rdE.of {K : Kx} {e : E} {x : D} {S S1 : Sto} {ρ : Rho} {σ : L2.St} {H : Hp} {js : List Addr} {Q : VK} (h : evE F e ρ S = some (.ok x S1)) (rs : RelS K H js S) (rr : RepR K H js ρ σ) (q : ∀ v H1 js1, Grow H js H1 js1 → RelS K H1 js1 S1 → RepV K H1 js1 x v → Q v H1) : rdE K F W e σ H Q :=
  ⟨js, S, ρ, rs, rr, by rw [h]; exact q⟩
theorem yl_rngc {K : Kx} {H : Hp} {js : List Addr} {lo c : Int} {n : Nat} : Yl K (Itc lo c n) ((List.range n).map fun (k : Nat) => D.int (lo + k * c)) H js := by
  intro H' js' S' g r
  refine ⟨fun i d e => ?_, by
    show n ≤ _
    simp⟩
  rw [List.getElem?_map] at e
  cases h : (List.range n)[i]? with
  | none => rw [h] at e; cases e
  | some k =>
    rw [h] at e
    cases e
    obtain ⟨h1, h2⟩ := List.getElem?_eq_some_iff.mp h
    rw [List.getElem_range] at h2
    subst h2
    refine ⟨(show i < n by simpa using h1), fun x H'' y => ?_⟩
    obtain ⟨e2, e3⟩ := y
    subst e2 e3
    exact ⟨Grow.refl, r, .int _⟩
theorem pe_callSD0 {k : Nat} {f : Addr} {fd : FuncData} {ps : List Str} {sp : Sp} {dvs : List V} {ds : List Value} {E : L2.St → XK} {x : Str} {p pos : Pos} {CX : CXT} (Fn : FnOk X.prog X.w X.K X.mg X.base CX k f fd ps sp) (hr : Room k X.A) (hg : Gl X x) (hm : X.mg x = some (.ref f)) (hk : PySem.W.keepIn X.K (.ref f) = true) (hb : Binds X.K fd ps ds) (hd : Vals dvs ds) (hx : ∀ σ, PassesAt CX X σ (E σ))
    (hdb : (x == ("__debug__" : Str)) = false := by decide) : PE X (.Call (.Name x p) [] [] pos) (tCallSD sp dvs E tNil) := by
  refine ⟨fun pins s σ H Q I h => ?_⟩
  refine wpAny_Call_Name_kw (ld_glob I hg hm ?_ hdb)
  exact PySem.W.callWith_K0 I.kIn hk (run_fnSD (us := []) Fn hr hb hd (hx σ) I .nil h)
mutual
theorem sE : ∀ (e : E) (nm : Nm) (W : WX) (x : Expr) (X : Cx), Good X cl nm F W → mE nm e x = true → PE X x (rdE (kxOf X cl) F W e)
  | .var i, nm, W, x, X, g, h => by
    unfold mE at h
    split at h
    · simp only [Bool.and_eq_true, decide_eq_true_eq] at h
      obtain ⟨⟨⟨h1, h2⟩, h3⟩, h4⟩ := h
      refine ⟨fun pins s σ H Q I q => ?_⟩
      obtain ⟨js, S, ρ, rs, rr, q⟩ := q
      refine (pe_var (g.at h1) (g.vis h2) (dbg_of h3) (by simpa using h4)).run pins s σ H Q I ?_
      unfold evE at q
      split at q
      · rename_i d e
        obtain ⟨v, e1, r1⟩ := rr.at_ _ _ e
        exact ⟨v, e1, q.pure rs r1⟩
      · exact q.elim
    · cases h
  | .non, nm, W, x, X, g, h => by
    unfold mE at h
    split at h
    · exact ⟨fun pins s σ H Q I q => pe_non.run pins s σ H Q I (rdE_const (d := .non) (fun _ _ => by unfold evE; rfl) (fun _ _ _ => .non) q)⟩
    · cases h
  | .bl b, nm, W, x, X, g, h => by
    unfold mE at h
    split at h
    · simp only [decide_eq_true_eq] at h
      subst h
      exact ⟨fun pins s σ H Q I q => pe_bl.run pins s σ H Q I (rdE_const (d := .bl b) (fun _ _ => by unfold evE; rfl) (fun _ _ _ => .bl b) q)⟩
    · cases h
  | .int i, nm, W, x, X, g, h => by
    unfold mE at h
    split at h
    · simp only [decide_eq_true_eq] at h
      subst h
      exact ⟨fun pins s σ H Q I q => pe_int.run pins s σ H Q I (rdE_const (d := .int i) (fun _ _ => by unfold evE; rfl) (fun _ _ _ => .int i) q)⟩
    · cases h
  | .str z, nm, W, x, X, g, h => by
    unfold mE at h
    split at h
    · simp only [decide_eq_true_eq] at h
      subst h
      exact ⟨fun pins s σ H Q I q => pe_str.run pins s σ H Q I (rdE_const (d := .str z) (fun _ _ => by unfold evE; rfl) (fun _ _ _ => .str z) q)⟩
    · cases h
  | .gc z d, nm, W, x, X, g, h => by
    unfold mE at h
    split at h
    · simp only [Bool.and_eq_true, decide_eq_true_eq] at h
      obtain ⟨⟨⟨h1, h2⟩, h3⟩, h4⟩ := h
      subst h1
      obtain ⟨u, v, m, r, rep⟩ := g.gs _ _ h4
      refine ⟨fun pins s σ H Q I q => ?_⟩
      obtain ⟨js, S, ρ, rs, rr, q⟩ := q
      unfold evE at q
      exact (pe_glob (g.gl h2) m r (dbg_of h3)).run pins s σ H Q I (q.pure rs (rep _ _))
    · cases h
  | .tup es, nm, W, x, X, g, h => by
    unfold mE at h
    split at h
    · simp only [Bool.and_eq_true, decide_eq_true_eq] at h
      obtain ⟨h1, h2⟩ := h
      refine ⟨fun pins s σ H Q I q => ?_⟩
      obtain ⟨js, S, ρ, rs, rr, q⟩ := q
      unfold evE at q
      refine (pe_tup (sEs es nm W _ X g h2)).run pins s σ H Q I (rdEs.bd q rs rr fun vs H1 js1 S1 ds e1 g1 rs1 r1 q => ⟨?_, fun p hp => ?_⟩)
      · rw [← r1.length, evEs_len es _ _ _ _ _ h2 e1, sizeLine_eq]
        omega
      · exact q.tup rs1 r1 hp
    · cases h
  | .lst es, nm, W, x, X, g, h => by
    unfold mE at h
    split at h
    · simp only [Bool.and_eq_true, decide_eq_true_eq] at h
      obtain ⟨h1, h2⟩ := h
      refine ⟨fun pins s σ H Q I q => ?_⟩
      obtain ⟨js, S, ρ, rs, rr, q⟩ := q
      unfold evE at q
      refine (pe_lst (sEs es nm W _ X g h2)).run pins s σ H Q I (rdEs.bd q rs rr fun vs H1 js1 S1 ds e1 g1 rs1 r1 q => ⟨?_, fun p hp => ?_⟩)
      · rw [← r1.length, evEs_len es _ _ _ _ _ h2 e1, sizeLine_eq]
        omega
      · exact q.lst rs1 r1 hp
    · cases h
  | .bin op a b, nm, W, x, X, g, h => by
    unfold mE at h
    split at h
    · simp only [Bool.and_eq_true] at h
      obtain ⟨⟨⟨⟨h0, h1⟩, h2⟩, h3⟩, h4⟩ := h
      rw [opB_of h0]
      refine ⟨fun pins s σ H Q I q => ?_⟩
      obtain ⟨js, S, ρ, rs, rr, q⟩ := q
      unfold evE at q
      exact (pe_op (bop_ok (cl := cl) op) (sE a nm W _ X g h2) (sE b nm W _ X g h4)).run pins s σ H Q I (rdE.bd q rs rr fun v1 H1 js1 S1 x1 g1 rs1 r1 q =>
        rdE.bd q rs1 (rr.mono g1) fun v2 H2 js2 S2 x2 g2 rs2 r2 q => ⟨js2, S2, x1, x2, _, rs2, r1.mono g2, r2, q⟩)
    · cases h
  | .neg a, nm, W, x, X, g, h => by
    unfold mE at h
    split at h
    · simp only [Bool.and_eq_true] at h
      refine ⟨fun pins s σ H Q I q => ?_⟩
      obtain ⟨js, S, ρ, rs, rr, q⟩ := q
      unfold evE at q
      refine (pe_un un_neg (sE a nm W _ X g h.2)).run pins s σ H Q I (rdE.bd q rs rr fun v1 H1 js1 S1 x1 g1 rs1 r1 q => ?_)
      split at q
      · cases r1
        exact ⟨_, rfl, q.pure rs1 (.int _)⟩
      · exact q.elim
    · cases h
  | .cmp op a b, nm, W, x, X, g, h => by
    unfold mE at h
    split at h
    · simp only [Bool.and_eq_true] at h
      obtain ⟨⟨⟨⟨h0, h1⟩, h2⟩, h3⟩, h4⟩ := h
      rw [cmB_of h0]
      refine ⟨fun pins s σ H Q I q => ?_⟩
      obtain ⟨js, S, ρ, rs, rr, q⟩ := q
      unfold evE at q
      exact (pe_cmpR (cop_ok (cl := cl) op g.hu) (sE a nm W _ X g h2) (sE b nm W _ X g h4) (behind_plain h3 _)).run pins s σ H Q I (rdE.bd q rs rr fun v1 H1 js1 S1 x1 g1 rs1 r1 q =>
        rdE.bd q rs1 (rr.mono g1) fun v2 H2 js2 S2 x2 g2 rs2 r2 q => ⟨js2, S2, x1, x2, _, rs2, r1.mono g2, r2, q⟩)
    · cases h
  | .chain op op' a b c, nm, W, x, X, g, h => by
    unfold mE at h
    split at h
    · simp only [Bool.and_eq_true] at h
      obtain ⟨⟨⟨⟨⟨⟨⟨h0, h0'⟩, h1⟩, h2⟩, h3⟩, h4⟩, h5⟩, h6⟩ := h
      rw [cmB_of h0, cmB_of h0']
      refine ⟨fun pins s σ H Q I q => ?_⟩
      obtain ⟨js, S, ρ, rs, rr, q⟩ := q
      unfold evE at q
      refine (pe_chain (cop_ok (cl := cl) op g.hu) (cop_ok (cl := cl) op' g.hu) (sE a nm W _ X g h2) (sE b nm W _ X g h4) (sE c nm W _ X g h6) (hm := (behind_plain h5 _ : behindInMarks _ _ = false))).run pins s σ H Q I (rdE.bd q rs rr fun v1 H1 js1 S1 x1 g1 rs1 r1 q =>
        rdE.bd q rs1 (rr.mono g1) fun v2 H2 js2 S2 x2 g2 rs2 r2 q => ⟨js2, S2, x1, x2, fun _ _ _ => True, rs2, r1.mono g2, r2, ?_⟩)
      split at q
      · rename_i e3
        refine copB_ok e3 fun H3 js3 g3 rs3 => ⟨true, rfl, ?_⟩
        simp only [if_true]
        exact rdE.bd (q.mono g3) rs3 (rr.mono (g1.trans (g2.trans g3))) fun v3 H4 js4 S3 x3 g4 rs4 r4 q => ⟨js4, S3, x2, x3, _, rs4, (r2.mono g3).mono g4, r4, q⟩
      · rename_i e3
        refine copB_ok e3 fun H3 js3 g3 rs3 => ⟨false, rfl, ?_⟩
        simp only [Bool.false_eq_true, if_false]
        exact (q.mono g3).pure rs3 (.bl false)
      · exact q.elim
    · cases h
  | .and a b, nm, W, x, X, g, h => by
    unfold mE at h
    split at h
    · simp only [Bool.and_eq_true] at h
      obtain ⟨⟨h1, h2⟩, h3⟩ := h
      refine ⟨fun pins s σ H Q I q => ?_⟩
      obtain ⟨js, S, ρ, rs, rr, q⟩ := q
      unfold evE at q
      refine (pe_and (sE a nm W _ X g h2) (sE b nm W _ X g h3)).run pins s σ H Q I (rdE.bd q rs rr fun v1 H1 js1 S1 x1 g1 rs1 r1 q => ?_)
      split at q
      · cases r1
        exact ⟨true, rfl, by rw [if_pos rfl]; exact ⟨js1, S1, ρ, rs1, rr.mono g1, q⟩⟩
      · cases r1
        exact ⟨false, rfl, by rw [if_neg Bool.false_ne_true]; exact q.pure rs1 (.bl false)⟩
      · exact q.elim
    · cases h
  | .or a b, nm, W, x, X, g, h => by
    unfold mE at h
    split at h
    · simp only [Bool.and_eq_true] at h
      obtain ⟨⟨h1, h2⟩, h3⟩ := h
      refine ⟨fun pins s σ H Q I q => ?_⟩
      obtain ⟨js, S, ρ, rs, rr, q⟩ := q
      unfold evE at q
      refine (pe_or (sE a nm W _ X g h2) (sE b nm W _ X g h3)).run pins s σ H Q I (rdE.bd q rs rr fun v1 H1 js1 S1 x1 g1 rs1 r1 q => ?_)
      split at q
      · cases r1
        exact ⟨true, rfl, by rw [if_pos rfl]; exact q.pure rs1 (.bl true)⟩
      · cases r1
        exact ⟨false, rfl, by rw [if_neg Bool.false_ne_true]; exact ⟨js1, S1, ρ, rs1, rr.mono g1, q⟩⟩
      · exact q.elim
    · cases h
  | .one a, nm, W, x, X, g, h => by
    unfold mE at h
    split at h
    · simp only [Bool.and_eq_true] at h
      refine ⟨fun pins s σ H Q I q => ?_⟩
      obtain ⟨js, S, ρ, rs, rr, q⟩ := q
      unfold evE at q
      exact (pe_one (sE a nm W _ X g h.2)).run pins s σ H Q I ⟨js, S, ρ, rs, rr, q⟩
    · cases h
  | .not a, nm, W, x, X, g, h => by
    unfold mE at h
    split at h
    · simp only [Bool.and_eq_true] at h
      refine ⟨fun pins s σ H Q I q => ?_⟩
      obtain ⟨js, S, ρ, rs, rr, q⟩ := q
      unfold evE at q
      refine (pe_not (sE a nm W _ X g h.2)).run pins s σ H Q I (rdE.bd q rs rr fun v1 H1 js1 S1 x1 g1 rs1 r1 q => ?_)
      split at q
      · cases r1
        exact ⟨_, rfl, q.pure rs1 (.bl _)⟩
      · exact q.elim
    · cases h
  | .ite c a b, nm, W, x, X, g, h => by
    unfold mE at h
    split at h
    · simp only [Bool.and_eq_true] at h
      obtain ⟨⟨⟨⟨⟨h1, h2⟩, h3⟩, h4⟩, h5⟩, h6⟩ := h
      refine ⟨fun pins s σ H Q I q => ?_⟩
      obtain ⟨js, S, ρ, rs, rr, q⟩ := q
      unfold evE at q
      refine (pe_ifExp (sT c nm W _ X g h2) (sE a nm W _ X g h4) (sE b nm W _ X g h6)).run pins s σ H Q I (rdT.bd q rs rr fun t H1 js1 S1 g1 rs1 q => ?_)
      cases t with
      | true =>
        rw [if_pos rfl]
        exact ⟨js1, S1, ρ, rs1, rr.mono g1, q⟩
      | false =>
        rw [if_neg Bool.false_ne_true]
        exact ⟨js1, S1, ρ, rs1, rr.mono g1, q⟩
    · cases h
  | .idx a i, nm, W, x, X, g, h => by
    unfold mE at h
    split at h
    · simp only [Bool.and_eq_true] at h
      obtain ⟨⟨⟨h1, h2⟩, h3⟩, h4⟩ := h
      refine ⟨fun pins s σ H Q I q => ?_⟩
      obtain ⟨js, S, ρ, rs, rr, q⟩ := q
      unfold evE at q
      exact (pe_ix (idx_ok (cl := cl) g.hu) (sE a nm W _ X g h2) (sE i nm W _ X g h4) (plainIx h3)).run pins s σ H Q I (rdE.bd q rs rr fun v1 H1 js1 S1 x1 g1 rs1 r1 q =>
        rdE.bd q rs1 (rr.mono g1) fun v2 H2 js2 S2 x2 g2 rs2 r2 q => ⟨js2, S2, x1, x2, _, rs2, r1.mono g2, r2, q⟩)
    · cases h
  | .sl a lo hi, nm, W, x, X, g, h => by
    unfold mE at h
    split at h
    · simp only [Bool.and_eq_true] at h
      obtain ⟨⟨⟨h1, h2⟩, h3⟩, h4⟩ := h
      refine ⟨fun pins s σ H Q I q => ?_⟩
      obtain ⟨js, S, ρ, rs, rr, q⟩ := q
      unfold evE at q
      exact (pe_slice (sl_ok (cl := cl)) (sE a nm W _ X g h2) (sP lo nm W _ X g h3) (sP hi nm W _ X g h4)).run pins s σ H Q I (rdE.bd q rs rr fun v1 H1 js1 S1 x1 g1 rs1 r1 q =>
        rdP.bd q rs1 (rr.mono g1) fun l H2 js2 S2 g2 rs2 q => rdP.bd q rs2 (rr.mono (g1.trans g2)) fun u H3 js3 S3 g3 rs3 q => ⟨js3, S3, x1, _, rs3, (r1.mono g2).mono g3, q⟩)
    · cases h
  | .rev a, nm, W, x, X, g, h => by
    unfold mE at h
    split at h
    · simp only [Bool.and_eq_true, decide_eq_true_eq] at h
      obtain ⟨⟨h0, h1⟩, h2⟩ := h
      subst h0
      refine ⟨fun pins s σ H Q I q => ?_⟩
      obtain ⟨js, S, ρ, rs, rr, q⟩ := q
      unfold evE at q
      refine (pe_revA (sE a nm W _ X g h2)).run pins s σ H Q I (rdE.bd q rs rr fun v1 H1 js1 S1 x1 g1 rs1 r1 q => ?_)
      unfold revD at q
      split at q
      · cases r1 with
        | tup h1 n1 q1 => exact ⟨_, _, rfl, .inr ⟨.inl (.inl h1), fun p' hp => q.tup rs1 q1.reverse hp⟩⟩
      · rename_i nt
        split at q
        · rename_i ds e
          obtain ⟨p, xs, ev, rv, hh⟩ := itemsOf_seq e rs1 r1
          subst ev
          rcases hh with ⟨_, hh⟩ | ⟨hh, _⟩
          · exact absurd hh (nt ds)
          · exact ⟨p, xs, rfl, .inl ⟨hh, fun p' hp => q.lst rs1 rv.reverse hp⟩⟩
        · exact q.elim
    · cases h
  | .call f es, nm, W, x, X, g, h => by
    unfold mE at h
    split at h
    · rename_i z p xs pos
      simp only [Bool.and_eq_true, decide_eq_true_eq] at h
      obtain ⟨⟨⟨h1, h2⟩, h3⟩, h4⟩ := h
      obtain ⟨k, a, fd, ps, sp, c⟩ := g.call f _ h1
      refine ⟨fun pins s σ H Q I q => ?_⟩
      obtain ⟨js, S, ρ, rs, rr, q⟩ := q
      unfold evE at q
      cases xs with
      | nil =>
        cases es with
        | cons _ _ => unfold mEs at h4; cases h4
        | nil =>
          unfold evEs at q
          exact (pe_callSD0 (E := WE W) (ds := []) (dvs := []) c.fn c.room (g.gl h2) c.mg c.kp c.bi .nil (passAt g.tk) (dbg_of h3)).run pins s σ H Q I (c.sp _ _ _ _ ⟨js, S, [], rs, .nil, q⟩)
      | cons y ys =>
        have hy : plainX y = true ∧ ∃ es', mEs nm es' ys = true := by
          cases es with
          | nil => unfold mEs at h4; cases h4
          | cons e es' =>
            simp only [mEs, Bool.and_eq_true] at h4
            exact ⟨h4.1.1, es', h4.2⟩
        obtain ⟨hy1, es', hy2⟩ := hy
        refine (pe_callSD (E := WE W) (ds := []) (dvs := []) c.fn c.room (g.gl h2) c.mg c.kp c.bi .nil (passAt g.tk) (sEs es nm W _ X g h4) (dbg_of h3) (star_plain hy1 _ _) (star_all hy2 _ _)).run pins s σ H Q I (rdEs.bd q rs rr fun v H1 js1 S1 ds _ g1 rs1 r1 q => ?_)
        rw [List.append_nil]
        exact c.sp v H1 Q _ ⟨js1, S1, ds, rs1, r1, q⟩
    · cases h
  | .bi b es, nm, W, x, X, g, h => by
    unfold mE at h
    split at h
    · rename_i z p y ys pos
      simp only [Bool.and_eq_true, decide_eq_true_eq] at h
      obtain ⟨⟨⟨h1, h2⟩, h3⟩, h4⟩ := h
      subst h1
      have hy : plainX y = true ∧ ∃ es', mEs nm es' ys = true := by
        cases es with
        | nil => unfold mEs at h4; cases h4
        | cons e es' =>
          simp only [mEs, Bool.and_eq_true] at h4
          exact ⟨h4.1.1, es', h4.2⟩
      obtain ⟨hy1, es', hy2⟩ := hy
      refine ⟨fun pins s σ H Q I q => ?_⟩
      obtain ⟨js, S, ρ, rs, rr, q⟩ := q
      unfold evE at q
      have rd : rdEs (kxOf X cl) F W es σ H (fun vs H1 => rBi (kxOf X cl) (biD b) vs H1 Q) := rdEs.bd q rs rr fun v H1 js1 S1 ds _ g1 rs1 r1 q => ⟨js1, S1, ds, _, rs1, r1, q⟩
      have hb := bi_boot b
      have hc := bi_ok (X := X) (cl := cl) g.calm b
      obtain ⟨n1, n2⟩ := bi_name b
      cases b <;> first
        | exact (pe_callB hc (g.gl h2) (g.bs _ h3) hb (sEs es nm W _ X g h4) n1 n2 (star_plain hy1 _ _) (star_all hy2 _ _)).run pins s σ H Q I rd
        | exact (pe_callTy hc (g.gl h2) (g.bs _ h3) hb (sEs es nm W _ X g h4) n1 n2 (star_plain hy1 _ _) (star_all hy2 _ _)).run pins s σ H Q I rd
    · cases h
  | .bm m o es, nm, W, x, X, g, h => by
    unfold mE at h
    split at h
    · rename_i y a apos z zs cpos
      simp only [Bool.and_eq_true, decide_eq_true_eq] at h
      obtain ⟨⟨⟨⟨⟨⟨h1, h2⟩, h3⟩, h4⟩, h5⟩, h6⟩, h7⟩ := h
      subst h1
      have hy : plainX z = true ∧ ∃ es', mEs nm es' zs = true := by
        cases es with
        | nil => unfold mEs at h7; cases h7
        | cons e es' =>
          simp only [mEs, Bool.and_eq_true] at h7
          exact ⟨h7.1.1, es', h7.2⟩
      obtain ⟨hy1, es', hy2⟩ := hy
      have hfew : ((backTo cpos (starEach (z :: zs) X.env)).all (fun x => !x.1) && (backToKw cpos (keywordEach [] X.env)).all (fun x => x.1.isSome)
          && decide ((z :: zs).length + ([] : List Keyword).length + (if ([] : List Keyword).isEmpty then 0 else 1) < 30)) = true := by
        rw [star_allN h7]
        simp only [Bool.true_and, Bool.and_eq_true, decide_eq_true_eq]
        exact ⟨rfl, by simp only [List.length_nil, List.isEmpty_nil, if_true]; omega⟩
      refine ⟨fun pins s σ H Q I q => ?_⟩
      obtain ⟨js, S, ρ, rs, rr, q⟩ := q
      unfold evE at q
      have go : ∀ {slot : Slot "list" (bmN m) ("list." ++ bmS m)} {ty : typeOf (.builtin ("list." ++ bmS m)) = pure (.type "method_descriptor")}, MtR X ("list." ++ bmS m) (rBm (kxOf X cl) (bmD m)) →
          wpAny (model X.prog X.w) X.A (eval (.Call (.Attribute y (bmN m) apos) (z :: zs) [] cpos) X.env) (EP X pins σ Q) X.xe s := fun {slot ty} hm => by
        refine (pe_bm PySem.F.plainAttrs_list slot ty hm (sE o nm W _ X g h6) (sEs es nm W _ X g h7) (noSup_base h2 _ _) hfew h3 (star_plain hy1 _ _) (star_all hy2 _ _)).run pins s σ H Q I
          (rdE.bd q rs rr fun v1 H1 js1 S1 x1 g1 rs1 r1 q => ?_)
        split at q
        rotate_left
        · exact q.elim
        rename_i ty'
        refine ⟨?_, rdEs.bd q rs1 (rr.mono g1) fun vs H2 js2 S2 ds _ g2 rs2 r2 q => ⟨js2, S2, x1, ds, _, rs2, r1.mono g2, r2, q⟩⟩
        obtain ⟨n, ds', ex, e3⟩ := bmTy_list ty'
        subst ex
        cases r1 with
        | ref h1 =>
          obtain ⟨a', xs, e4, e5, _⟩ := rs1.list e3
          rw [h1] at e4; cases e4
          exact .inl ⟨rfl, xs, .inl (.inl e5)⟩
      cases m with
      | append => exact go (slot := PySem.F.slot_list_append) (ty := PySem.F.type_list_append) append_ok
      | insert => exact go (slot := PySem.F.slot_list_insert) (ty := PySem.F.type_list_insert) insert_ok
      | extend => exact go (slot := PySem.F.slot_list_extend) (ty := PySem.F.type_list_extend) extend_ok
    · cases h
  | .isi a t, nm, W, x, X, g, h => by
    unfold mE at h
    split at h
    · simp only [Bool.and_eq_true, decide_eq_true_eq] at h
      obtain ⟨⟨⟨⟨⟨⟨⟨h1, h2⟩, h3⟩, h4⟩, h5⟩, h6⟩, h7⟩, h8⟩ := h
      subst h1 h4
      refine ⟨fun pins s σ H Q I q => ?_⟩
      obtain ⟨js, S, ρ, rs, rr, q⟩ := q
      unfold evE at q
      obtain ⟨n1, n2⟩ := ty_name t
      exact (pe_callB (isi_ok (cl := cl) t) (g.gl h2) (g.bs _ h3) (by decide +kernel) (pa_cons (sE a nm W _ X g h8) (pa_cons (pe_bltn (v := .ty (tyS t)) (g.gl h5) (g.bs _ h6) (bs_type t) rfl n1 n2) pa_nil (by rfl)) (star_plain h7 _ _)) (by decide) (by decide) (star_plain h7 _ _) (by rfl)).run pins s σ H Q I
        (rdE.bd q rs rr fun v1 H1 js1 S1 x1 g1 rs1 r1 q => ⟨v1, js1, S1, x1, _, rfl, rs1, r1, q⟩)
    · cases h
  | .lrg a, nm, W, x, X, g, h => by
    unfold mE at h
    split at h
    · simp only [Bool.and_eq_true, decide_eq_true_eq] at h
      obtain ⟨⟨⟨⟨⟨⟨⟨h1, h2⟩, h3⟩, h4⟩, h5⟩, h6⟩, h7⟩, h8⟩ := h
      subst h1 h4
      refine ⟨fun pins s σ H Q I q => ?_⟩
      obtain ⟨js, S, ρ, rs, rr, q⟩ := q
      unfold evE at q
      refine (pe_listRg g.calm (g.gl h2) (g.bs _ h3) (prg_1 (g.gl h5) (g.bs _ h6) (sE a nm W _ X g h8) (star_plain h7 _ _)) (by rfl)).run pins s σ H Q I (rdE.bd q rs rr fun v1 H1 js1 S1 x1 g1 rs1 r1 q => ?_)
      split at q
      · split at q
        · rename_i j hj
          cases r1
          refine ⟨_, rfl, ⟨by omega, by omega, hj.1, hj.2.1, by rw [Int.sub_zero]; exact hj.2.2⟩, fun p hp => ?_⟩
          have rv : RepVs (kxOf X cl) H1 js1 ((List.range j.toNat).map fun (k : Nat) => D.int k) (rgV 0 j) := by
            unfold rgV
            rw [Int.sub_zero]
            generalize List.range j.toNat = l
            induction l with
            | nil => exact .nil
            | cons k l ih =>
              refine .cons ?_ ih
              show RepV (kxOf X cl) H1 js1 (D.int k) (V.int (0 + (k : Nat)))
              rw [Int.zero_add]
              exact .int _
          exact q.lst rs1 rv hp
        · exact q.elim
      · exact q.elim
    · cases h
  | .dnk, nm, W, x, X, g, h => by
    unfold mE at h
    split at h
    · refine ⟨fun pins s σ H Q I q => pe_dnewK.run pins s σ H Q I ?_⟩
      obtain ⟨js, S, ρ, rs, rr, q⟩ := q
      unfold evE at q
      exact fun p hp => q.newO (ob := .dic []) (u := .dK []) rs ⟨rfl, .nil⟩ hp
    · cases h
  | .dnt, nm, W, x, X, g, h => by
    unfold mE at h
    split at h
    · refine ⟨fun pins s σ H Q I q => (pe_dnewN (cl := cl)).run pins s σ H Q I ?_⟩
      obtain ⟨js, S, ρ, rs, rr, q⟩ := q
      unfold evE at q
      exact fun p hp => q.newO (ob := .din []) (u := DinO _ p []) rs ⟨Nat.zero_le _, [], rfl, .nil⟩ hp
    · cases h
  | .disp ks es, nm, W, x, X, g, h => by
    unfold mE at h
    split at h
    · simp only [Bool.and_eq_true, decide_eq_true_eq] at h
      obtain ⟨⟨⟨⟨h1, h2⟩, h3⟩, h4⟩, h5⟩ := h
      refine ⟨fun pins s σ H Q I q => (pe_disp (sDs ks es nm W _ _ X g h4 h3 h5) (dis_some ks _ h4) h3 h1 h2).run pins s σ H Q I ?_⟩
      obtain ⟨js, S, ρ, rs, rr, q⟩ := q
      unfold evE at q
      intro p hp
      have np : p ∉ js := rs.fresh hp
      refine dis_read ks es _ js S _ (by rw [esN_len es _ h5, ← h3, dis_len ks _ h4]) (rs.lay hp) (rr.mono (Grow.lay rs hp)) ?_
      cases e1 : evEs F es ρ S with
      | none => rw [e1] at q; exact q.elim
      | some r =>
        rw [e1] at q
        cases r with
        | ex c xs S1 => exact fun c d H' js' g' => q c d H' js' ((Grow.lay rs hp).trans g')
        | ok ds S1 =>
          simp only [bd_ok] at q
          intro vs H2 js2 g2 rs2 r2
          split at q
          · rename_i hl
            have hD : H2 p = some (.dK []) := g2.keep p _ np upd_same
            have np2 : p ∉ js2 := g2.notin np upd_same
            refine ⟨hD, (ks.zip vs).map (fun kv => (Sum.inr kv.1, kv.2)), ?_, ?_, ?_⟩
            · rw [List.map_map]
              rfl
            · rw [List.length_map, List.length_zip]
              have := dis_len ks _ h4
              omega
            · have g3 : Grow H js H2 js2 := (Grow.lay rs hp).trans g2
              have gg : Grow H js (upd H2 p (.dK (mergeK [] ((ks.zip vs).map fun kv => (Sum.inr kv.1, kv.2))))) (js2 ++ [p]) := g3.giv hp np np2
              exact q _ _ (js2 ++ [p]) gg (rs2.giv np2 hD (fun _ z => nomatch z) (fun _ _ z => nomatch z) (dis_rep ks ds vs [] [] r2 ⟨rfl, .nil⟩)) (.ref (by rw [← rs2.len]; simp))
          · exact q.elim
    · cases h
  | .get1 d k, nm, W, x, X, g, h => by
    unfold mE at h
    split at h
    · simp only [Bool.and_eq_true, decide_eq_true_eq] at h
      obtain ⟨⟨⟨⟨⟨⟨h1, h2⟩, h3⟩, h4⟩, h5⟩, h6⟩, h7⟩ := h
      subst h1
      refine ⟨fun pins s σ H Q I q => (pe_get1 (cl := cl) g.hu (sE d nm W _ X g h5) (sE k nm W _ X g h7) ⟨noSup_base h2 _ _, by rw [star_plain h6]; rfl, h3, by rw [star_plain h6]; rfl⟩).run pins s σ H Q I ?_⟩
      obtain ⟨js, S, ρ, rs, rr, q⟩ := q
      unfold evE at q
      refine rdE.bd q rs rr fun v1 H1 js1 S1 x1 g1 rs1 r1 q => ?_
      split at q
      · rename_i n
        split at q
        · rename_i hd
          cases r1 with
          | ref h1 =>
            refine ⟨_, rfl, isDic_rep hd rs1 h1, ?_⟩
            refine rdE.bd q rs1 (rr.mono g1) fun v2 H2 js2 S2 x2 g2 rs2 r2 q => ?_
            split at q
            · rename_i w e3
              obtain ⟨a', e4, gg, _⟩ := dget_rep e3 rs2 r2
              rw [g2.at h1] at e4; cases e4
              rcases gg with ⟨z, _⟩ | ⟨d', w', z, gg, rw'⟩
              · cases z
              · cases z
                exact ⟨some w', gg, q.pure rs2 rw'⟩
            · rename_i e3
              obtain ⟨a', e4, gg, _⟩ := dget_rep e3 rs2 r2
              rw [g2.at h1] at e4; cases e4
              rcases gg with ⟨_, gg⟩ | ⟨d', w', z, _, _⟩
              · exact ⟨none, gg, q.pure rs2 .non⟩
              · cases z
            · exact q.elim
        · exact q.elim
      · exact q.elim
    · cases h
  | .get2 d k e, nm, W, x, X, g, h => by
    unfold mE at h
    split at h
    · simp only [Bool.and_eq_true, decide_eq_true_eq] at h
      obtain ⟨⟨⟨⟨⟨⟨⟨⟨h1, h2⟩, h3⟩, h4⟩, h5⟩, h6⟩, h7⟩, h8⟩, h9⟩ := h
      subst h1
      refine ⟨fun pins s σ H Q I q => (pe_get2 (cl := cl) g.hu (sE d nm W _ X g h5) (sE k nm W _ X g h7) (sE e nm W _ X g h9) ⟨noSup_base h2 _ _, by rw [star_plain h6, star_plain h8]; rfl, h3, by rw [star_plain h6, star_plain h8]; rfl⟩).run pins s σ H Q I ?_⟩
      obtain ⟨js, S, ρ, rs, rr, q⟩ := q
      unfold evE at q
      refine rdE.bd q rs rr fun v1 H1 js1 S1 x1 g1 rs1 r1 q => ?_
      split at q
      · rename_i n
        split at q
        · rename_i hd
          cases r1 with
          | ref h1 =>
            refine ⟨_, rfl, isDic_rep hd rs1 h1, ?_⟩
            refine rdE.bd q rs1 (rr.mono g1) fun v2 H2 js2 S2 x2 g2 rs2 r2 q => ?_
            refine rdE.bd q rs2 (rr.mono (g1.trans g2)) fun v3 H3 js3 S3 x3 g3 rs3 r3 q => ?_
            split at q
            · rename_i w e3
              obtain ⟨a', e4, gg, _⟩ := dget_rep e3 rs3 (r2.mono g3)
              rw [(g2.trans g3).at h1] at e4; cases e4
              rcases gg with ⟨z, _⟩ | ⟨d', w', z, gg, rw'⟩
              · cases z
              · cases z
                exact ⟨some w', gg, q.pure rs3 rw'⟩
            · rename_i e3
              obtain ⟨a', e4, gg, _⟩ := dget_rep e3 rs3 (r2.mono g3)
              rw [(g2.trans g3).at h1] at e4; cases e4
              rcases gg with ⟨_, gg⟩ | ⟨d', w', z, _, _⟩
              · exact ⟨none, gg, q.pure rs3 r3⟩
              · cases z
            · exact q.elim
        · exact q.elim
      · exact q.elim
    · cases h
  | .setdef d k e, nm, W, x, X, g, h => by
    unfold mE at h
    split at h
    · simp only [Bool.and_eq_true, decide_eq_true_eq] at h
      obtain ⟨⟨⟨⟨⟨⟨⟨⟨h1, h2⟩, h3⟩, h4⟩, h5⟩, h6⟩, h7⟩, h8⟩, h9⟩ := h
      subst h1
      refine ⟨fun pins s σ H Q I q => (pe_setd (cl := cl) g.hu (sE d nm W _ X g h5) (sE k nm W _ X g h7) (sE e nm W _ X g h9) ⟨noSup_base h2 _ _, by rw [star_plain h6, star_plain h8]; rfl, h3, by rw [star_plain h6, star_plain h8]; rfl⟩).run pins s σ H Q I ?_⟩
      obtain ⟨js, S, ρ, rs, rr, q⟩ := q
      unfold evE at q
      refine rdE.bd q rs rr fun v1 H1 js1 S1 x1 g1 rs1 r1 q => ?_
      split at q
      · rename_i n
        split at q
        · rename_i hd
          cases r1 with
          | ref h1 =>
            refine ⟨_, rfl, isDic_rep hd rs1 h1, ?_⟩
            refine rdE.bd q rs1 (rr.mono g1) fun v2 H2 js2 S2 x2 g2 rs2 r2 q => ?_
            refine rdE.bd q rs2 (rr.mono (g1.trans g2)) fun v3 H3 js3 S3 x3 g3 rs3 r3 q => ?_
            have dpT : ∀ {H : Hp} {a : Addr} {y v : V} {Qc : Hp → Prop}, DP (kxOf X cl) H a y v Qc → DP (kxOf X cl) H a y v fun _ => True := fun p => by
              rcases p with ⟨kvs, k, e, ey, l, _⟩ | ⟨xs, nk, b, ey, e, ks, k, l, _⟩
              · exact .inl ⟨kvs, k, e, ey, l, trivial⟩
              · exact .inr ⟨xs, nk, b, ey, e, ks, k, l, fun _ _ => trivial⟩
            split at q
            · rename_i w e3
              obtain ⟨a', e4, gg, _⟩ := dget_rep e3 rs3 (r2.mono g3)
              rw [(g2.trans g3).at h1] at e4; cases e4
              rcases gg with ⟨z, _⟩ | ⟨d', w', z, gg, rw'⟩
              · cases z
              · cases z
                split at q
                · rename_i S4 e5
                  obtain ⟨a', e4, dp⟩ := dput_rep e5 rs3 (r2.mono g3) rw'
                  rw [(g2.trans g3).at h1] at e4; cases e4
                  refine .inl ⟨w', gg, ?_, q.pure rs3 rw'⟩
                  rcases dpT dp with ⟨kvs, k, e, ey, l, _⟩ | ⟨xs, nk, b, ey, e, ks, k, l, _⟩
                  · exact .inl ⟨kvs, k, e, ey, l, trivial⟩
                  · exact .inr ⟨xs, nk, b, ey, e, ks, k, l, fun _ _ => trivial⟩
                · exact q.elim
            · rename_i e3
              obtain ⟨a', e4, gg, _⟩ := dget_rep e3 rs3 (r2.mono g3)
              rw [(g2.trans g3).at h1] at e4; cases e4
              rcases gg with ⟨_, gg⟩ | ⟨d', w', z, _, _⟩
              · split at q
                · rename_i S4 e5
                  obtain ⟨a', e4, dp⟩ := dput_rep e5 rs3 (r2.mono g3) r3
                  rw [(g2.trans g3).at h1] at e4; cases e4
                  refine .inr ⟨gg, ?_⟩
                  rcases dp with ⟨kvs, k, e, ey, l, g4, rs4⟩ | ⟨xs, nk, b, ey, e, ks, k, l, f⟩
                  · exact .inl ⟨kvs, k, e, ey, l, q _ _ _ g4 rs4 (r3.mono g4)⟩
                  · exact .inr ⟨xs, nk, b, ey, e, ks, k, l, fun u ru => q _ _ _ (f u ru).1 (f u ru).2 (r3.mono (f u ru).1)⟩
                · exact q.elim
              · cases z
            · exact q.elim
        · exact q.elim
      · exact q.elim
    · cases h
  | .popk d k, nm, W, x, X, g, h => by
    unfold mE at h
    split at h
    · simp only [Bool.and_eq_true, decide_eq_true_eq] at h
      obtain ⟨⟨⟨⟨⟨⟨h1, h2⟩, h3⟩, h4⟩, h5⟩, h6⟩, h7⟩ := h
      subst h1
      refine ⟨fun pins s σ H Q I q => (pe_pop1 (cl := cl) (sE d nm W _ X g h5) (sE k nm W _ X g h7) ⟨noSup_base h2 _ _, by rw [star_plain h6]; rfl, h3, by rw [star_plain h6]; rfl⟩).run pins s σ H Q I ?_⟩
      obtain ⟨js, S, ρ, rs, rr, q⟩ := q
      unfold evE at q
      refine rdE.bd q rs rr fun v1 H1 js1 S1 x1 g1 rs1 r1 q => ?_
      split at q
      · rename_i n
        split at q
        · rename_i hd
          cases r1 with
          | ref h1 =>
            refine ⟨_, rfl, isDic_rep hd rs1 h1, ?_⟩
            refine rdE.bd q rs1 (rr.mono g1) fun v2 H2 js2 S2 x2 g2 rs2 r2 q => ?_
            split at q
            · rename_i w S3 e3
              obtain ⟨a', kvs, kk, w', e4, e5, e6, e7, rw', g3, rs3⟩ := ddrop_rep e3 rs2 r2
              rw [g2.at h1] at e4; cases e4
              exact ⟨kvs, kk, w', e5, e6, e7, q _ _ _ g3 rs3 (rw'.mono g3)⟩
            · exact q.elim
        · exact q.elim
      · exact q.elim
    · cases h
  | .pop0 o, nm, W, x, X, g, h => by
    unfold mE at h
    split at h
    · simp only [Bool.and_eq_true, decide_eq_true_eq] at h
      obtain ⟨⟨⟨⟨h1, h2⟩, h3⟩, h4⟩, h5⟩ := h
      subst h1
      refine ⟨fun pins s σ H Q I q => ?_⟩
      obtain ⟨js, S, ρ, rs, rr, q⟩ := q
      unfold evE at q
      refine (pe_bm0 PySem.F.plainAttrs_list PySem.F.slot_list_pop PySem.F.type_list_pop (pop_ok (cl := cl)) (sE o nm W _ X g h5) (noSup_base h2 _ _) h3).run pins s σ H Q I (rdE.bd q rs rr fun v1 H1 js1 S1 x1 g1 rs1 r1 q => ?_)
      exact ⟨popTy q rs1 r1, js1, S1, x1, _, rfl, rs1, r1, q⟩
    · cases h
  | .maxd e d, nm, W, x, X, g, h => by
    unfold mE at h
    split at h
    · simp only [Bool.and_eq_true, decide_eq_true_eq] at h
      obtain ⟨⟨⟨⟨⟨⟨⟨h1, h2⟩, h3⟩, h4⟩, h5⟩, h6⟩, h7⟩, h8⟩ := h
      subst h1 h4
      refine ⟨fun pins s σ H Q I q => ?_⟩
      obtain ⟨js, S, ρ, rs, rr, q⟩ := q
      unfold evE at q
      refine (pe_callBK (cr_maxDf g.calm g.hu) (g.gl h2) (g.bs _ h3) (by decide +kernel) (pa_cons (sE e nm W _ X g h6) pa_nil (star_plain h5 _ _)) (pk_cons (sE d nm W _ X g h8) pk_nil) (by decide) (by decide) (by rw [star_plain h5]; rfl) (by rw [star_plain h5]; rfl) (by rfl) (by rfl) (by rfl)).run pins s σ H Q I (rdE.bd q rs rr fun v1 H1 js1 S1 x1 g1 rs1 r1 q => ?_)
      refine rdE.bd q rs1 (rr.mono g1) fun v2 H2 js2 S2 x2 g2 rs2 r2 q => ?_
      split at q
      · rename_i ns j e
        obtain ⟨ds, e1, e2⟩ := Option.bind_eq_some_iff.mp e
        obtain ⟨a, xs, ev, rv, hh⟩ := listOf_rep e1 rs2 (r1.mono g2)
        subst ev
        have := intsD_rep e2 rv
        subst this
        cases r2
        exact ⟨a, ns, j, rfl, rfl, hh, q.pure rs2 (.int _)⟩
      · exact q.elim
    · cases h
  | .slst a lo st, nm, W, x, X, g, h => by
    unfold mE at h
    split at h
    · simp only [Bool.and_eq_true] at h
      obtain ⟨⟨⟨⟨⟨h1, h2⟩, h3⟩, h4⟩, h5⟩, h6⟩ := h
      refine ⟨fun pins s σ H Q I q => ?_⟩
      obtain ⟨js, S, ρ, rs, rr, q⟩ := q
      unfold evE at q
      refine (pe_slst (sE a nm W _ X g h2) (sE lo nm W _ X g h4) (sE st nm W _ X g h6)).run pins s σ H Q I (rdE.bd q rs rr fun v1 H1 js1 S1 x1 g1 rs1 r1 q => ?_)
      refine rdE.bd q rs1 (rr.mono g1) fun v2 H2 js2 S2 x2 g2 rs2 r2 q => ?_
      refine rdE.bd q rs2 (rr.mono (g1.trans g2)) fun v3 H3 js3 S3 x3 g3 rs3 r3 q => ?_
      cases x2 with
      | int l =>
       cases x3 with
       | int t =>
        cases r2
        cases r3
        simp only at q
        unfold sstD at q
        split at q
        · exact q.elim
        · rename_i nt
          split at q
          · rename_i ds e
            split at q
            · rename_i hz
              obtain ⟨a', xs, ev, rv, hh⟩ := itemsOf_seq e rs3 ((r1.mono g2).mono g3)
              subst ev
              rcases hh with ⟨_, hh⟩ | ⟨hh, _⟩
              · exact absurd hh (nt ds)
              · have hl : pickVs xs l t = pickVs xs l t := rfl
                have rp : RepVs (kxOf X cl) H3 js3 (pickL ds l t) (pickVs xs l t) := by
                  unfold pickL pickVs
                  rw [rv.length]
                  exact RepVs.pick rv _
                exact ⟨a', xs, l, t, rfl, rfl, rfl, hh, hz.1, by rw [← rp.length]; exact hz.2, fun p hp => q.lst rs3 rp hp⟩
            · exact q.elim
          · exact q.elim
       | _ => exact q.elim
      | _ => exact q.elim
    · cases h
  | .sm m a, nm, W, x, X, g, h => by
    unfold mE at h
    split at h
    · simp only [Bool.and_eq_true, decide_eq_true_eq] at h
      obtain ⟨⟨⟨⟨h1, h2⟩, h3⟩, h4⟩, h5⟩ := h
      subst h1
      refine ⟨fun pins s σ H Q I q => ?_⟩
      obtain ⟨js, S, ρ, rs, rr, q⟩ := q
      unfold evE at q
      unfold smD at q
      cases m with
      | lower =>
        refine (pe_bm0 PySem.F.plainAttrs_str PySem.F.slot_str_lower PySem.F.type_str_lower mt_lower (sE a nm W _ X g h5) (noSup_base h2 _ _) h3).run pins s σ H Q I (rdE.bd q rs rr fun v1 H1 js1 S1 x1 g1 rs1 r1 q => ?_)
        split at q
        · rename_i z _ _
          cases r1
          split at q
          · rename_i hz
            exact ⟨rfl, _, rfl, rfl, hz, q.pure rs1 (.str _)⟩
          · exact q.elim
        · contradiction
        · exact q.elim
      | upper =>
        refine (pe_bm0 PySem.F.plainAttrs_str PySem.F.slot_str_upper PySem.F.type_str_upper mt_upper (sE a nm W _ X g h5) (noSup_base h2 _ _) h3).run pins s σ H Q I (rdE.bd q rs rr fun v1 H1 js1 S1 x1 g1 rs1 r1 q => ?_)
        split at q
        · contradiction
        · cases r1
          split at q
          · rename_i hz
            exact ⟨rfl, _, rfl, rfl, hz, q.pure rs1 (.str _)⟩
          · exact q.elim
        · exact q.elim
    · cases h
  | .strip1 a b, nm, W, x, X, g, h => by
    unfold mE at h
    split at h
    · rename_i y s apos z cpos
      simp only [Bool.and_eq_true, decide_eq_true_eq] at h
      obtain ⟨⟨⟨⟨⟨⟨h1, h2⟩, h3⟩, h4⟩, h5⟩, h6⟩, h7⟩ := h
      subst h1
      refine ⟨fun pins s σ H Q I q => ?_⟩
      obtain ⟨js, S, ρ, rs, rr, q⟩ := q
      unfold evE at q
      refine (pe_bm PySem.F.plainAttrs_str PySem.F.slot_str_strip PySem.F.type_str_strip mt_stripChars (sE a nm W _ X g h5) (pa_cons (sE b nm W _ X g h7) pa_nil (star_plain h6 _ _)) (noSup_base h2 _ _) (by rw [star_plain h6]; rfl) h3 (star_plain h6 _ _) (by rfl)).run pins s σ H Q I (rdE.bd q rs rr fun v1 H1 js1 S1 x1 g1 rs1 r1 q => ?_)
      split at q
      · cases r1
        refine ⟨rfl, rdE.bd q rs1 (rr.mono g1) fun v2 H2 js2 S2 x2 g2 rs2 r2 q => ?_⟩
        cases x2 with
        | str b0 =>
          cases r2
          unfold stripD at q
          simp only at q
          split at q
          · rename_i hz
            exact ⟨_, _, rfl, rfl, hz, q.pure rs2 (.str _)⟩
          · exact q.elim
        | _ => exact q.elim
      · exact q.elim
    · cases h
  | .lc elt tg it c own, nm, W, x, X, g, h => by
    unfold mE at h
    split at h
    · rename_i y tx ix ifs n scope pos
      simp only [Bool.and_eq_true, decide_eq_true_eq] at h
      obtain ⟨⟨⟨⟨⟨⟨⟨⟨⟨hit, h0⟩, h1⟩, h2⟩, h3⟩, h4⟩, h5⟩, h6⟩, h7⟩, h8⟩ := h
      subst h0
      have ok : BlkOk X.N X.env.scope scope own := by
        rw [g.N, g.sc]
        exact blkOk_by h2
      have gb := fun (s : Shared) (H : Hp) (C : Addr) (cll : List (Str × Addr)) (fp : List Addr) => g.blk ok.kind s H C cll fp
      have ht : ∀ (s : Shared) (H : Hp) (C : Addr) (cll : List (Str × Addr)) (fp : List Addr), PTs (X.blk s H scope (compEnvC scope cll C X.env) fp) ifs (rdT (kxOf X cl) F W0 c) := fun s H C cll fp => by
        split at h6
        · split at h6
          · refine ⟨fun pins s σ H Q I q => pts_nil.run pins s σ H Q I ?_⟩
            obtain ⟨js, S, ρ, rs, rr, q⟩ := q
            unfold evT at q
            exact q.pureX rs
          · cases h6
        · rw [Bool.and_eq_true] at h6
          exact pts_one (sT c _ _ _ _ (gb s H C cll fp) h6.2)
        · cases h6
      refine ⟨fun pins s σ H Q I q => ?_⟩
      refine (pe_lc (own := own) (te := rdE (kxOf X cl) F W0 elt) (g := rdTg (kxOf X cl) tg) (tt := rdT (kxOf X cl) F W0 c) (wi := rdI X.H_0 (kxOf X cl) F W it) g.calm g.nd (sI it nm W _ X g h5 tx hit) ok (fun s H C cll fp => sTg (gb s H C cll fp) tg _ h3) ht (fun s H C cll fp => sE elt _ _ _ _ (gb s H C cll fp) h8) (folded_plain h4 _)).run pins s σ H Q I ?_
      exact lc_read (fun i hi => by
        have := List.all_eq_true.mp h1 i hi
        exact of_decide_eq_true this) q
    · cases h
theorem sDs : ∀ (ks : List Str) (es : Es) (nm : Nm) (W : WX) (keys : List (Option Expr)) (xs : List Expr) (X : Cx) {pos : Pos}, Good X cl nm F W → disKeys ks keys = true → keys.length = xs.length → mEs nm es xs = true → PPs X pos keys xs (disTrs (kxOf X cl) F W ks es)
  | [], es, nm, W, keys, xs, X, _, g, hk, hl, h => by
    cases keys with
    | nil =>
      have : disTrs (kxOf X cl) F W [] es = [] := by cases es <;> rfl
      rw [this]
      cases xs with
      | nil => exact pps_nil
      | cons _ _ => simp at hl
    | cons _ _ => unfold disKeys at hk; cases hk
  | k :: ks, .nil, nm, W, keys, xs, X, _, g, hk, hl, h => by
    cases xs with
    | nil =>
      cases keys with
      | nil => unfold disKeys at hk; cases hk
      | cons _ _ => simp at hl
    | cons _ _ => unfold mEs at h; cases h
  | k :: ks, .cons e es, nm, W, keys, xs, X, _, g, hk, hl, h => by
    cases xs with
    | nil => unfold mEs at h; cases h
    | cons x xs =>
      simp only [mEs, Bool.and_eq_true] at h
      unfold disKeys at hk
      split at hk
      · rename_i e1; cases e1
      · rename_i e1
        cases e1
        rw [Bool.and_eq_true, decide_eq_true_eq] at hk
        obtain ⟨hk1, hk2⟩ := hk
        subst hk1
        exact pps_cons pe_str (sE e nm W _ X g h.1.2) (sDs ks es nm W _ _ X g hk2 (by simpa using hl) h.2)
      · cases hk
theorem sEs : ∀ (es : Es) (nm : Nm) (W : WX) (xs : List Expr) (X : Cx), Good X cl nm F W → mEs nm es xs = true → PA X xs (rdEs (kxOf X cl) F W es)
  | .nil, nm, W, xs, X, g, h => by
    unfold mEs at h
    split at h
    · refine ⟨fun pos pins s σ H Q I q => ?_⟩
      obtain ⟨js, S, ρ, rs, rr, q⟩ := q
      unfold evEs at q
      exact pa_nil.run pos pins s σ H Q I (q.pure rs (v := []) .nil)
    · cases h
  | .cons e es, nm, W, xs, X, g, h => by
    unfold mEs at h
    split at h
    · simp only [Bool.and_eq_true] at h
      obtain ⟨⟨h1, h2⟩, h3⟩ := h
      refine ⟨fun pos pins s σ H Q I q => ?_⟩
      obtain ⟨js, S, ρ, rs, rr, q⟩ := q
      unfold evEs at q
      exact (pa_cons (sE e nm W _ X g h2) (sEs es nm W _ X g h3) (star_plain h1 _ _)).run pos pins s σ H Q I (rdE.bd q rs rr fun v1 H1 js1 S1 x1 g1 rs1 r1 q =>
        rdEs.bd q rs1 (rr.mono g1) fun vs H2 js2 S2 ds _ g2 rs2 r2 q => q.pure rs2 (v := v1 :: vs) (.cons (r1.mono g2) r2))
    · cases h
theorem sP : ∀ (p : P) (nm : Nm) (W : WX) (x : Option Expr) (X : Cx), Good X cl nm F W → mP nm p x = true → PO X x (rdP (kxOf X cl) F W p)
  | .no, nm, W, x, X, g, h => by
    unfold mP at h
    split at h
    · refine ⟨fun pins s σ H Q I q => ?_⟩
      obtain ⟨js, S, ρ, rs, rr, q⟩ := q
      unfold evP at q
      exact po_none.run pins s σ H Q I (q.pureX rs)
    · cases h
  | .e e, nm, W, x, X, g, h => by
    unfold mP at h
    split at h
    · simp only [Bool.and_eq_true] at h
      refine ⟨fun pins s σ H Q I q => ?_⟩
      obtain ⟨js, S, ρ, rs, rr, q⟩ := q
      unfold evP at q
      refine (po_some (sE e nm W _ X g h.2)).run pins s σ H Q I (rdE.bd q rs rr fun v1 H1 js1 S1 x1 g1 rs1 r1 q => ?_)
      split at q
      · cases r1
        exact ⟨_, rfl, q.pureX rs1⟩
      · exact q.elim
    · cases h
theorem sI : ∀ (i : I) (nm : Nm) (W : WX) (x : Expr) (X : Cx), Good X cl nm F W → mI nm i x = true → ∀ tg, itTup i tg = true → PI X tg x (rdI X.H_0 (kxOf X cl) F W i)
  | .seq e, nm, W, x, X, g, h => fun tg _ => by
    unfold mI at h
    refine ⟨fun pins s σ H R I q => ?_⟩
    obtain ⟨js, S, ρ, rs, rr, q⟩ := q
    unfold evI at q
    have se := sE e nm W _ X g h
    cases e2 : evE F e ρ S with
    | none => rw [e2] at q; exact q.elim
    | some r =>
      cases r with
      | ex _ _ _ =>
        refine (pi_list se).run pins s σ H R I ⟨js, S, ρ, rs, rr, ?_⟩
        rw [e2] at q ⊢
        exact q
      | ok d S1 =>
        rw [e2] at q
        simp only [bd_ok] at q
        cases d with
        | tup ds =>
          refine (pi_tup se).run pins s σ H R I (rdE.of e2 rs rr fun v1 H1 js1 g1 rs1 r1 => ?_)
          cases r1 with
          | tup h1 n1 q1 => exact ⟨_, rfl, ⟨_, .inl (.inl h1)⟩, q (_, H1) H1 js1 g1 rs1 ⟨rfl, yl_tup h1 n1 q1⟩⟩
        | fz ds =>
          refine (pi_list se).run pins s σ H R I (rdE.of e2 rs rr fun v1 H1 js1 g1 rs1 r1 => ?_)
          cases r1 with
          | fz h1 q1 => exact ⟨_, rfl, ⟨_, h1.sq⟩, q (_, H1) H1 js1 g1 rs1 ⟨rfl, yl_fz h1 q1⟩⟩
        | str z =>
          refine (pi_str se).run pins s σ H R I (rdE.of e2 rs rr fun v1 H1 js1 g1 rs1 r1 => ?_)
          cases r1
          exact ⟨_, rfl, q (_, H1) H1 js1 g1 rs1 ⟨rfl, yl_str⟩⟩
        | ref n =>
          simp only at q
          split at q
          · rename_i ds e3
            refine (pi_list se).run pins s σ H R I (rdE.of e2 rs rr fun v1 H1 js1 g1 rs1 r1 => ?_)
            cases r1 with
            | ref h1 =>
              obtain ⟨a', xs, e4, e5, _⟩ := rs1.list e3
              rw [h1] at e4; cases e4
              exact ⟨_, rfl, ⟨xs, .inl (.inl e5)⟩, q (_, H1) H1 js1 g1 rs1 ⟨rfl, _, h1, rfl⟩⟩
          · rename_i ob hno e3
            split at q
            · rename_i ds e4
              refine (pi_keys (pe_lk se)).run pins s σ H R I (rdE.of e2 rs rr fun v1 H1 js1 g1 rs1 r1 => ?_)
              cases r1 with
              | ref h1 =>
                have hk : ∃ kvs, ob.core = .dic kvs ∧ ds = kvs.map fun kv => kD kv.1 := by
                  unfold keysOf at e4
                  split at e4
                  · rename_i kvs e5
                    cases e4
                    exact ⟨kvs, e5, rfl⟩
                  · cases e4
                obtain ⟨kvs, hk, ed⟩ := hk
                subst ed
                obtain ⟨vs, rk, hh⟩ := lock_ok (q.mono g1) rs1 h1 e3 hk
                rcases hh with ⟨o, ho, hr⟩ | ⟨ho, hr⟩
                · exact .inl ⟨_, o, rfl, .inl ⟨vs, ho, hr _ (yl_keys ho rk)⟩⟩
                · refine .inr ⟨_, _, ho, True.intro, fun od hn => ⟨_, od, rfl, .inl ⟨vs, upd_same, hr od hn _ (yl_keys upd_same ?_)⟩⟩⟩
                  have nl : ∀ q, ob ≠ .lk q := fun z hz => by
                    subst hz
                    obtain ⟨a', e6, r6⟩ := rs1.at e3
                    rw [h1] at e6; cases e6
                    unfold RepO at r6
                    rw [ho] at r6
                    cases z <;> exact r6.elim
                  exact ⟨rk.1, RepVs.mono (Grow.put rs1 h1 e3 nl) rk.2⟩
            · exact q.elim
          · exact q.elim
        | _ => exact q.elim
  | .rng1 a, nm, W, x, X, g, h => fun tg _ => by
    unfold mI at h
    split at h
    · simp only [Bool.and_eq_true, decide_eq_true_eq] at h
      obtain ⟨⟨⟨⟨h1, h2⟩, h3⟩, h4⟩, h5⟩ := h
      subst h1
      refine ⟨fun pins s σ H R I q => ?_⟩
      obtain ⟨js, S, ρ, rs, rr, q⟩ := q
      unfold evI at q
      refine (pi_range1 (g.gl h2) (g.bs _ h3) (pa_cons (sE a nm W _ X g h5) pa_nil (star_plain h4 _ _)) (star_plain h4 _ _)).run pins s σ H R I (rdE.bd q rs rr fun v1 H1 js1 S1 x1 g1 rs1 r1 q => ?_)
      split at q
      · split at q
        · rename_i j hj
          cases r1
          refine ⟨_, rfl, hj.1, hj.2, q (_, H1) H1 js1 Grow.refl rs1 ⟨rfl, ?_⟩⟩
          have y := yl_rng (K := kxOf X cl) (H := H1) (js := js1) (lo := 0) (n := j.toNat)
          simp only [Int.zero_add] at y
          exact y
        · exact q.elim
      · exact q.elim
    · cases h
  | .rng2 a b, nm, W, x, X, g, h => fun tg _ => by
    unfold mI at h
    split at h
    · simp only [Bool.and_eq_true, decide_eq_true_eq] at h
      obtain ⟨⟨⟨⟨⟨⟨h1, h2⟩, h3⟩, h4⟩, h5⟩, h6⟩, h7⟩ := h
      subst h1
      refine ⟨fun pins s σ H R I q => ?_⟩
      obtain ⟨js, S, ρ, rs, rr, q⟩ := q
      unfold evI at q
      refine (pi_range2 (g.gl h2) (g.bs _ h3) (pa_cons (sE a nm W _ X g h5) (pa_cons (sE b nm W _ X g h7) pa_nil (star_plain h6 _ _)) (star_plain h4 _ _)) (by rw [star_plain h4, star_plain h6]; rfl) (star_plain h6 _ _)).run pins s σ H R I
        (rdE.bd q rs rr fun v1 H1 js1 S1 x1 g1 rs1 r1 q => rdE.bd q rs1 (rr.mono g1) fun v2 H2 js2 S2 x2 g2 rs2 r2 q => ?_)
      split at q
      · split at q
        · rename_i i j hj
          cases r1
          cases r2
          exact ⟨_, _, rfl, hj, q (_, H2) H2 js2 Grow.refl rs2 ⟨rfl, yl_rng⟩⟩
        · exact q.elim
      · exact q.elim
    · cases h
  | .rng3 a b c, nm, W, x, X, g, h => fun tg _ => by
    unfold mI at h
    split at h
    · simp only [Bool.and_eq_true, decide_eq_true_eq] at h
      obtain ⟨⟨⟨⟨⟨⟨⟨⟨h1, h2⟩, h3⟩, h4⟩, h5⟩, h6⟩, h7⟩, h8⟩, h9⟩ := h
      subst h1
      refine ⟨fun pins s σ H R I q => ?_⟩
      obtain ⟨js, S, ρ, rs, rr, q⟩ := q
      unfold evI at q
      refine (pi_range3 (g.gl h2) (g.bs _ h3) (pa_cons (sE a nm W _ X g h5) (pa_cons (sE b nm W _ X g h7) (pa_cons (sE c nm W _ X g h9) pa_nil (star_plain h8 _ _)) (star_plain h6 _ _)) (star_plain h4 _ _)) (by rw [star_plain h4]) (by (rw [star_plain h6, star_plain h8]; try rfl))).run pins s σ H R I
        (rdE.bd q rs rr fun v1 H1 js1 S1 x1 g1 rs1 r1 q => rdE.bd q rs1 (rr.mono g1) fun v2 H2 js2 S2 x2 g2 rs2 r2 q => rdE.bd q rs2 (rr.mono (g1.trans g2)) fun v3 H3 js3 S3 x3 g3 rs3 r3 q => ?_)
      split at q
      · split at q
        · rename_i i j k hj
          cases r1
          cases r2
          cases r3
          obtain ⟨c0, c1, c2, c3⟩ := hj
          exact ⟨_, _, _, _, rfl, ⟨c0, c1, c2, (Int.toNat_of_nonneg c3).symm⟩, q (_, H3) H3 js3 Grow.refl rs3 ⟨rfl, yl_rngc⟩⟩
        · exact q.elim
      · exact q.elim
    · cases h
  | .items a, nm, W, x, X, g, h => fun tg htg => by
    unfold mI at h
    split at h
    · simp only [Bool.and_eq_true, decide_eq_true_eq] at h
      obtain ⟨⟨⟨⟨h1, h2⟩, h3⟩, h4⟩, h5⟩ := h
      subst h1
      cases tg with
      | Tuple elts kk tpos =>
        refine ⟨fun pins s σ H R I q => ?_⟩
        obtain ⟨js, S, ρ, rs, rr, q⟩ := q
        unfold evI at q
        refine (pi_items (pe_lk (sE a nm W _ X g h5)) (noSup_base h2 _ _) h3).run pins s σ H R I (rdE.bd q rs rr fun v1 H1 js1 S1 x1 g1 rs1 r1 q => ?_)
        split at q
        · split at q
          · rename_i n ob e3
            split at q
            · rename_i ds e4
              cases r1 with
              | ref h1 =>
                have hk : ∃ kvs, ob.core = .dic kvs ∧ ds = kvs.map fun kv => .tup [kD kv.1, kv.2] := by
                  unfold pairsOf at e4
                  split at e4
                  · rename_i kvs e5
                    cases e4
                    exact ⟨kvs, e5, rfl⟩
                  · cases e4
                obtain ⟨kvs, hk, ed⟩ := hk
                subst ed
                obtain ⟨vs, rk, hh⟩ := lock_ok q rs1 h1 e3 hk
                rcases hh with ⟨o, ho, hr⟩ | ⟨ho, hr⟩
                · exact .inl ⟨_, o, vs, rfl, ho, hr _ (yl_items ho rk)⟩
                · refine .inr ⟨_, _, ho, True.intro, fun od hn => ⟨_, od, vs, rfl, upd_same, hr od hn _ (yl_items upd_same ?_)⟩⟩
                  have nl : ∀ q, ob ≠ .lk q := fun z hz => by
                    subst hz
                    obtain ⟨a', e6, r6⟩ := rs1.at e3
                    rw [h1] at e6; cases e6
                    unfold RepO at r6
                    rw [ho] at r6
                    cases z <;> exact r6.elim
                  exact ⟨rk.1, RepVs.mono (Grow.put rs1 h1 e3 nl) rk.2⟩
            · exact q.elim
          · exact q.elim
        · exact q.elim
      | _ => cases htg
    · cases h
  | .enum a, nm, W, x, X, g, h => fun tg htg => by
    unfold mI at h
    split at h
    · simp only [Bool.and_eq_true, decide_eq_true_eq] at h
      obtain ⟨⟨⟨⟨h1, h2⟩, h3⟩, h4⟩, h5⟩ := h
      subst h1
      cases tg with
      | Tuple elts kk tpos =>
        refine ⟨fun pins s σ H R I q => ?_⟩
        obtain ⟨js, S, ρ, rs, rr, q⟩ := q
        unfold evI at q
        refine (pi_enumT (g.gl h2) (g.bs _ h3) (pa_cons (sE a nm W _ X g h5) pa_nil (star_plain h4 _ _)) (star_plain h4 _ _)).run pins s σ H R I (rdE.bd q rs rr fun v1 H1 js1 S1 x1 g1 rs1 r1 q => ?_)
        cases x1 with
        | tup ds =>
          cases r1 with
          | tup h1 n1 q1 => exact ⟨_, _, rfl, .inr ⟨.inl (.inl h1), q (_, H1) H1 js1 Grow.refl rs1 ⟨rfl, yl_enum h1 n1 q1⟩⟩⟩
        | ref n =>
          simp only at q
          split at q
          · rename_i ds e3
            cases r1 with
            | ref h1 =>
              obtain ⟨a', xs, e4, e5, _⟩ := rs1.list e3
              rw [h1] at e4; cases e4
              exact ⟨_, xs, rfl, .inl ⟨.inl (.inl e5), q (_, H1) H1 js1 Grow.refl rs1 ⟨rfl, _, h1, rfl⟩⟩⟩
          · exact q.elim
        | _ => exact q.elim
      | _ => cases htg
    · cases h
  | .zip a b, nm, W, x, X, g, h => fun tg htg => by
    unfold mI at h
    split at h
    · simp only [Bool.and_eq_true, decide_eq_true_eq] at h
      obtain ⟨⟨⟨⟨⟨⟨h1, h2⟩, h3⟩, h4⟩, h5⟩, h6⟩, h7⟩ := h
      subst h1
      cases tg with
      | Tuple elts kk tpos =>
        refine ⟨fun pins s σ H R I q => ?_⟩
        obtain ⟨js, S, ρ, rs, rr, q⟩ := q
        unfold evI at q
        refine (pi_zipX (g.gl h2) (g.bs _ h3) (pa_cons (sE a nm W _ X g h5) (pa_cons (sE b nm W _ X g h7) pa_nil (star_plain h6 _ _)) (star_plain h4 _ _)) (star_plain h4 _ _) (by rw [star_plain h6]; rfl)).run pins s σ H R I (rdE.bd q rs rr fun v1 H1 js1 S1 x1 g1 rs1 r1 q => rdE.bd q rs1 (rr.mono g1) fun v2 H2 js2 S2 x2 g2 rs2 r2 q => ?_)
        split at q
        · rename_i ds n
          split at q
          · rename_i es e4
            have r1' := r1.mono g2
            cases r1' with
            | tup h1 n1 q1 =>
              cases r2 with
              | ref h8 =>
                obtain ⟨a', xs, e5, e6, e7⟩ := rs2.list e4
                rw [h8] at e5; cases e5
                refine ⟨_, _, _, _, rfl, .inl ⟨.inl (.inl h1), .inl (.inl e6), q (_, H2) H2 js2 Grow.refl rs2 ⟨rfl, _, h8, _, _, h1, n1, q1, ?_⟩⟩⟩
                rw [q1.length, e7.length]
                rfl
          · exact q.elim
        · rename_i m n
          split at q
          · rename_i ds es e3 e4
            have r1' := r1.mono g2
            cases r1' with
            | ref h9 =>
              cases r2 with
              | ref h8 =>
                obtain ⟨a', xs, e5, e6, e7⟩ := rs2.list e4
                obtain ⟨a2, ys, e8, e9, e10⟩ := rs2.list e3
                rw [h8] at e5; cases e5
                rw [h9] at e8; cases e8
                exact ⟨_, _, ys, xs, rfl, .inr ⟨.inl (.inl e9), .inl (.inl e6), q (_, H2) H2 js2 Grow.refl rs2 ⟨rfl, _, h9, _, h8, rfl⟩⟩⟩
          · exact q.elim
        · exact q.elim
      | _ => cases htg
    · cases h
theorem sT : ∀ (t : T) (nm : Nm) (W : WX) (x : Expr) (X : Cx), Good X cl nm F W → mT nm t x = true → PT X x (rdT (kxOf X cl) F W t)
  | .yes, nm, W, x, X, g, h => by unfold mT at h; cases h
  | .v e, nm, W, x, X, g, h => by
    unfold mT at h
    simp only [Bool.and_eq_true] at h
    refine ⟨fun pins s σ H Q I q => ?_⟩
    obtain ⟨js, S, ρ, rs, rr, q⟩ := q
    unfold evT at q
    refine (pt_truth (sE e nm W _ X g h.2) (test_plain h.1 _)).run pins s σ H Q I (rdE.bd q rs rr fun v1 H1 js1 S1 x1 g1 rs1 r1 q => ?_)
    cases e2 : tru x1 S1 with
    | none => rw [e2] at q; exact q.elim
    | some b =>
      rw [e2] at q
      exact ⟨b, tru_rep e2 rs1 r1, OkG.pureX (d := b) q rs1⟩
  | .cmp op a b, nm, W, x, X, g, h => by
    unfold mT at h
    split at h
    · simp only [Bool.and_eq_true] at h
      obtain ⟨⟨⟨⟨h0, h1⟩, h2⟩, h3⟩, h4⟩ := h
      rw [cmB_of h0]
      refine ⟨fun pins s σ H Q I q => ?_⟩
      obtain ⟨js, S, ρ, rs, rr, q⟩ := q
      unfold evT at q
      refine (pt_cmpR (cop_ok (cl := cl) op g.hu) (sE a nm W _ X g h2) (sE b nm W _ X g h4) (behind_plain h3 _)).run pins s σ H Q I (rdE.bd q rs rr fun v1 H1 js1 S1 x1 g1 rs1 r1 q =>
        rdE.bd q rs1 (rr.mono g1) fun v2 H2 js2 S2 x2 g2 rs2 r2 q => ⟨js2, S2, x1, x2, fun _ _ _ => True, rs2, r1.mono g2, r2, ?_⟩)
      cases e3 : copB op x1 x2 S2 with
      | none => rw [e3] at q; exact q.elim
      | some b =>
        rw [e3] at q
        exact copB_ok e3 fun H3 js3 g3 rs3 => ⟨b, rfl, OkG.pureX (d := b) (OkG.mono (o := ok b S2) q g3) rs3⟩
    · cases h
  | .chain op op' a b c, nm, W, x, X, g, h => by
    unfold mT at h
    split at h
    · simp only [Bool.and_eq_true] at h
      obtain ⟨⟨⟨⟨⟨⟨⟨h0, h0'⟩, h1⟩, h2⟩, h3⟩, h4⟩, h5⟩, h6⟩ := h
      rw [cmB_of h0, cmB_of h0']
      refine ⟨fun pins s σ H Q I q => ?_⟩
      obtain ⟨js, S, ρ, rs, rr, q⟩ := q
      unfold evT at q
      refine (pt_chain (cop_ok (cl := cl) op g.hu) (cop_ok (cl := cl) op' g.hu) (sE a nm W _ X g h2) (sE b nm W _ X g h4) (sE c nm W _ X g h6) (hm := (behind_plain h5 _ : behindInMarks _ _ = false))).run pins s σ H Q I (rdE.bd q rs rr fun v1 H1 js1 S1 x1 g1 rs1 r1 q =>
        rdE.bd q rs1 (rr.mono g1) fun v2 H2 js2 S2 x2 g2 rs2 r2 q => ⟨js2, S2, x1, x2, fun _ _ _ => True, rs2, r1.mono g2, r2, ?_⟩)
      split at q
      · rename_i e3
        refine copB_ok e3 fun H3 js3 g3 rs3 => ⟨true, rfl, ?_⟩
        simp only [if_true]
        refine rdE.bd (q.mono g3) rs3 (rr.mono (g1.trans (g2.trans g3))) fun v3 H4 js4 S3 x3 g4 rs4 r4 q => ⟨js4, S3, x2, x3, fun _ _ _ => True, rs4, (r2.mono g3).mono g4, r4, ?_⟩
        cases e5 : copB op' x2 x3 S3 with
        | none => rw [e5] at q; exact q.elim
        | some b =>
          rw [e5] at q
          exact copB_ok e5 fun H5 js5 g5 rs5 => ⟨b, rfl, OkG.pureX (d := b) (OkG.mono (o := ok b S3) q g5) rs5⟩
      · rename_i e3
        refine copB_ok e3 fun H3 js3 g3 rs3 => ⟨false, rfl, ?_⟩
        simp only [Bool.false_eq_true, if_false]
        exact ⟨false, rfl, OkG.pureX (OkG.mono (o := ok false S2) q g3) rs3⟩
      · exact q.elim
    · cases h
  | .not t, nm, W, x, X, g, h => by
    unfold mT at h
    split at h
    · simp only [Bool.and_eq_true] at h
      refine ⟨fun pins s σ H Q I q => ?_⟩
      obtain ⟨js, S, ρ, rs, rr, q⟩ := q
      unfold evT at q
      exact (pt_not (sT t nm W _ X g h.2)).run pins s σ H Q I (rdT.bd q rs rr fun b H1 js1 S1 g1 rs1 q => q.pureX rs1)
    · cases h
  | .and a b, nm, W, x, X, g, h => by
    unfold mT at h
    split at h
    · simp only [Bool.and_eq_true] at h
      obtain ⟨⟨h1, h2⟩, h3⟩ := h
      exact (pw_andI (sT a nm W _ X g h2) (sW b nm W _ X g ⟨_, _, _, rfl⟩ h3)).pt
    · cases h
  | .or a b, nm, W, x, X, g, h => by
    unfold mT at h
    split at h
    · simp only [Bool.and_eq_true] at h
      obtain ⟨⟨h1, h2⟩, h3⟩ := h
      exact (pw_orI (sT a nm W _ X g h2) (sW b nm W _ X g ⟨_, _, _, rfl⟩ h3)).pt
    · cases h
  | .one a, nm, W, x, X, g, h => by
    unfold mT at h
    split at h
    · simp only [Bool.and_eq_true] at h
      exact (pw_oneI (sT a nm W _ X g h.2)).pt
    · cases h
theorem sW : ∀ (t : T) (nm : Nm) (W : WX) (x : Expr) (X : Cx), Good X cl nm F W → (∃ op xs p, x = .BoolOp op xs p) → mT nm t x = true → PW X x (rdT (kxOf X cl) F W t)
  | .and a b, nm, W, x, X, g, _, h => by
    unfold mT at h
    split at h
    · simp only [Bool.and_eq_true] at h
      obtain ⟨⟨h1, h2⟩, h3⟩ := h
      exact pw_andI (sT a nm W _ X g h2) (sW b nm W _ X g ⟨_, _, _, rfl⟩ h3)
    · cases h
  | .or a b, nm, W, x, X, g, _, h => by
    unfold mT at h
    split at h
    · simp only [Bool.and_eq_true] at h
      obtain ⟨⟨h1, h2⟩, h3⟩ := h
      exact pw_orI (sT a nm W _ X g h2) (sW b nm W _ X g ⟨_, _, _, rfl⟩ h3)
    · cases h
  | .one a, nm, W, x, X, g, _, h => by
    unfold mT at h
    split at h
    · simp only [Bool.and_eq_true] at h
      exact pw_oneI (sT a nm W _ X g h.2)
    · cases h
  | .yes, nm, W, x, X, g, _, h => by unfold mT at h; cases h
  | .v e, nm, W, x, X, g, hx, h => by
    obtain ⟨op, xs, p, rfl⟩ := hx
    unfold mT at h
    cases h
  | .cmp op a b, nm, W, x, X, g, hx, h => by
    obtain ⟨op, xs, p, rfl⟩ := hx
    unfold mT at h
    cases h
  | .chain op op' a b c, nm, W, x, X, g, hx, h => by
    obtain ⟨op, xs, p, rfl⟩ := hx
    unfold mT at h
    cases h
  | .not t, nm, W, x, X, g, hx, h => by
    obtain ⟨op, xs, p, rfl⟩ := hx
    unfold mT at h
    cases h
end
end
end VM
/-! WG: the soundness of statements and defs. -/
namespace VM
open PySem PySem.Spec PyProof.Rows L2

def isLC : Expr → Bool
  | .ListComp .. => true
  | _ => false
def isTup : Expr → Bool
  | .Tuple .. => true
  | _ => false
def swOk (nm : Nm) (x : Str) (px : Pos) (v : Expr) : Bool := match v with
  | .ListComp _ _ scope pos => (localB nm.sc x && (px.line == pos.line) && !(scope.names.any fun (n, k) => n == x && (k == .local || k == .cell))) || cellB nm.sc x
  | _ => true
def mSE : SE → Expr → Bool
  | .non, x => match x with | .Constant .none _ _ => true | _ => false
  | .bl b, x => match x with | .Constant (.bool c) _ _ => decide (b = c) | _ => false
  | .int i, x => match x with | .Constant (.int j) _ _ => decide (i = j) | _ => false
  | .str s, x => match x with | .Constant (.str t) _ _ => decide (s = t) | _ => false
def mSu (nm : Nm) : List (Nat × SE) → Option SE → List Stmt → Bool
  | [], o, xs => match o with
    | none => (match xs with | [] => true | _ => false)
    | some e => (match xs with | [.Return (some v) _] => mSE e v | _ => false)
  | (i, e) :: r, o, xs => match xs with
    | .Assign [.Name s _] v _ :: xs => tgB nm i s && mSE e v && mSu nm r o xs
    | _ => false
def mHs (nm : Nm) : List (Nat × Su) → List ExceptHandler → Bool
  | [], [] => true
  | (c, s) :: r, .ExceptHandler (some (.Name x _)) none (b :: bs) _ :: hs => decide (nm.cs.lookup c = some x) && glB nm.sc x && dbg x && mSu nm s.sets s.ret (b :: bs) && mHs nm r hs
  | _, _ => false
mutual
def mC (nm : Nm) : C → Stmt → Bool
  | .pass, x => match x with | .Pass _ => true | _ => false
  | .brk, x => match x with | .Break _ => true | _ => false
  | .cnt, x => match x with | .Continue _ => true | _ => false
  | .dead, _ => true
  | .set i e, x => match x with | .Assign [.Name s ps] v _ => tgB nm i s && plainX v && mE nm e v && swOk nm s ps v | _ => false
  | .asg tg e, x => match x with | .Assign [.Tuple ts k p] v _ => mTg nm tg (.Tuple ts k p) && plainX v && !isLC v && !isTup v && mE nm e v | _ => false
  | .aug i op e, x => match x with | .AugAssign (.Name s _) o v _ => tgB nm i s && opB op o && plainX v && mE nm e v | _ => false
  | .seti o i e, x => match x with | .Assign [.Subscript y z _] v _ => plainX y && mE nm o y && plainX z && mE nm i z && plainX v && !isLC v && mE nm e v | _ => false
  | .augi o i op e, x => match x with | .AugAssign (.Subscript y z _) q v _ => plainX y && mE nm o y && plainX z && mE nm i z && opB op q && plainX v && mE nm e v | _ => false
  | .rais c m, x => match x with | .Raise (some (.Call (.Name s _) [.Constant (.str t) _ _] [] _)) none _ => decide (nm.cs.lookup c = some s) && glB nm.sc s && dbg s && decide (m = t) | _ => false
  | .tryc b hs, x => match x with | .Try y (h :: hds) [] [] _ => mCs nm b y && mHs nm hs (h :: hds) | _ => false
  | .ex e, x => match x with | .Expr v _ => plainX v && !isLC v && mE nm e v | _ => false
  | .ret e, x => match x with | .Return (some v) _ => plainX v && mE nm e v | _ => false
  | .retn, x => match x with | .Return none _ => true | _ => false
  | .ife c a b, x => match x with | .If t y z _ => plainX t && mT nm c t && mCs nm a y && mCs nm b z | _ => false
  | .whl c b, x => match x with | .While t y [] _ => plainX t && mT nm c t && mCs nm b y | _ => false
  | .for_ tg it b, x => match x with | .For t i y [] _ => itTup it t && mTg nm tg t && plainX i && mI nm it i && mCs nm b y | _ => false
def mCs (nm : Nm) : Cs → List Stmt → Bool
  | .nil, xs => match xs with | [] => true | _ => false
  | .cons c cs, xs => match xs with | x :: xs => mC nm c x && mCs nm cs xs | _ => false
end

/-! ### facts of the text -/
theorem sw_plain {v : Expr} (h : plainX v = true) (hl : isLC v = false) (t : Option Expr) (l : Nat) (env : Env) : swapsWith v t l env = pure false := by
  cases v <;> first | rfl | exact absurd h Bool.false_ne_true | exact absurd hl Bool.noConfusion
theorem sw_sole {v : Expr} (h : plainX v = true) (hl : isLC v = false) (t : Expr) (l : Nat) (env : Env) : swapsWithSole [t] v l env = pure false := sw_plain h hl (some t) l env
theorem sw_cell {elt : Expr} {gs : List Comprehension} {scope : Scope} {pos px : Pos} {x : Str} {l : Nat} {env : Env} (hx : env.scope.names.lookup x = some .cell) : swapsWith (.ListComp elt gs scope pos) (some (.Name x px)) l env = pure false := by
  unfold swapsWith
  have k : (env.kindOf x == some NameKind.local) = false := by
    have e : env.kindOf x = some .cell := hx
    rw [e]
    rfl
  simp only [k, Bool.and_false, Bool.false_and]
theorem stores_plain {ts : List Expr} {k : Nat} {p : Pos} {v : Expr} (h : isTup v = false) (env : Env) : swappedStores [.Tuple ts k p] v env = pure none := by
  cases v <;> first | rfl | exact absurd h Bool.noConfusion
theorem stores_sub {o i : Expr} {p : Pos} {v : Expr} (env : Env) : swappedStores [.Subscript o i p] v env = pure none := by
  cases v <;> rfl
theorem sub_assign {o i : Expr} {pos : Pos} {env : Env} (h : plainX i = true) : ∀ v, assign (.Subscript o i pos) env v = (do
      let ov ← holding [v] (eval o env)
      let iv ← holding [v, ov] (eval i env)
      standAt pos
      holding [v, ov, iv] (setItem ov iv v)
      release [v, ov, iv] []) := by
  intro v
  cases i <;> first | rfl | cases h

/-! ### readings -/
def OkC (K : Kx) (H : Hp) (js : List Addr) (o : Out Fl) (D : Ends) (W : WX) : Prop :=
  match o with
  | some (.ok f S') => ∀ H' js', Grow H js H' js' → RelS K H' js' S' → (match f with
    | .nx ρ => ∀ σ, RepR K H' js' ρ σ → D.nx σ H'
    | .brk ρ => ∀ σ, RepR K H' js' ρ σ → D.bk σ H'
    | .cnt ρ => ∀ σ, RepR K H' js' ρ σ → D.ct σ H'
    | .ret d => ∀ v, RepV K H' js' d v → D.rt v H'
    | .rz ρ c xs => ∀ σ cls d, RepR K H' js' ρ σ → ExRep K H' js' c xs cls d → W cls d σ H')
  | _ => False
def rdC (K : Kx) (F : Orc) (W : WX) (c : C) : TS := fun D σ H => ∃ js S ρ, RelS K H js S ∧ RepR K H js ρ σ ∧ OkC K H js (exC F c ρ S) D W
def rdCs (K : Kx) (F : Orc) (W : WX) (c : Cs) : TS := fun D σ H => ∃ js S ρ, RelS K H js S ∧ RepR K H js ρ σ ∧ OkC K H js (exCs F c ρ S) D W
section
variable {K : Kx} {H H1 : Hp} {js js1 : List Addr} {S : Sto} {α β : Type} {D : Ends} {W : WX} {F : Orc}
theorem OkC.bd {m : Out α} {f : α → Sto → Out Fl} (h : OkC K H js (bd m f) D W) : ∃ a S, m = some (.ok a S) ∧ OkC K H js (f a S) D W := by
  cases m with
  | none => exact h.elim
  | some r =>
    cases r with
    | ok a S => exact ⟨a, S, rfl, h⟩
    | ex c xs S => exact h.elim
theorem OkC.mono {o : Out Fl} (h : OkC K H js o D W) (g : Grow H js H1 js1) : OkC K H1 js1 o D W := by
  unfold OkC at h ⊢
  split at h
  · exact fun H' js' g' => h H' js' (g.trans g')
  · exact h.elim
theorem OkC.nx {ρ : Rho} {σ : L2.St} (h : OkC K H js (ok (.nx ρ) S) D W) (rs : RelS K H js S) (rr : RepR K H js ρ σ) : D.nx σ H := h H js Grow.refl rs σ rr
theorem OkC.brk {ρ : Rho} {σ : L2.St} (h : OkC K H js (ok (.brk ρ) S) D W) (rs : RelS K H js S) (rr : RepR K H js ρ σ) : D.bk σ H := h H js Grow.refl rs σ rr
theorem OkC.cnt {ρ : Rho} {σ : L2.St} (h : OkC K H js (ok (.cnt ρ) S) D W) (rs : RelS K H js S) (rr : RepR K H js ρ σ) : D.ct σ H := h H js Grow.refl rs σ rr
theorem OkC.ret {d : VM.D} {v : V} (h : OkC K H js (ok (.ret d) S) D W) (rs : RelS K H js S) (rr : RepV K H js d v) : D.rt v H := h H js Grow.refl rs v rr
theorem OkC.rz {ρ : Rho} {σ : L2.St} {c : Nat} {xs : List (Str × VM.D)} {cls : Value} {d : Option Addr} (h : OkC K H js (ok (.rz ρ c xs) S) D W) (rs : RelS K H js S) (rr : RepR K H js ρ σ) (e : ExRep K H js c xs cls d) : W cls d σ H := h H js Grow.refl rs σ cls d rr e
theorem OkC.bx {R : Kx → Hp → List Addr → α → β → Prop} {m : Out α} {f : α → Sto → Out Fl} {ρ : Rho} {σ : L2.St} {Q1 : β → Hp → Prop} (h : OkC K H js (bx m ρ f) D W) (rr : RepR K H js ρ σ)
    (k : ∀ b H1 js1 S1 a, m = some (.ok a S1) → Grow H js H1 js1 → RelS K H1 js1 S1 → R K H1 js1 a b → OkC K H1 js1 (f a S1) D W → Q1 b H1) : OkG R K H js m (fun c d H' => W c d σ H') Q1 := by
  cases m with
  | none => exact h.elim
  | some r =>
    cases r with
    | ok a S => exact fun v H1 js1 g rs r => k v H1 js1 S a rfl g rs r (OkC.mono (o := f a S) h g)
    | ex c xs S => exact fun cls d H' js' g rs e => h H' js' g rs σ cls d (rr.mono g) e
theorem rdE.bx {e : E} {Q1 : VK} {f : VM.D → Sto → Out Fl} {ρ : Rho} {σ : L2.St} (q : OkC K H js (VM.bx (evE F e ρ S) ρ f) D W) (rs : RelS K H js S) (rr : RepR K H js ρ σ)
    (k : ∀ v H1 js1 S1 x, Grow H js H1 js1 → RelS K H1 js1 S1 → RepV K H1 js1 x v → OkC K H1 js1 (f x S1) D W → Q1 v H1) : rdE K F W e σ H Q1 :=
  ⟨js, S, ρ, rs, rr, q.bx rr fun v H1 js1 S1 x _ => k v H1 js1 S1 x⟩
theorem rdT.bx {e : T} {Q1 : Bool → Hp → Prop} {f : Bool → Sto → Out Fl} {ρ : Rho} {σ : L2.St} (q : OkC K H js (VM.bx (evT F e ρ S) ρ f) D W) (rs : RelS K H js S) (rr : RepR K H js ρ σ)
    (k : ∀ t H1 js1 S1, Grow H js H1 js1 → RelS K H1 js1 S1 → OkC K H1 js1 (f t S1) D W → Q1 t H1) : rdT K F W e σ H Q1 :=
  ⟨js, S, ρ, rs, rr, q.bx (R := RepX) rr fun v H1 js1 S1 x _ g r e q => by
    have e : x = v := e
    subst e
    exact k x H1 js1 S1 g r q⟩
end
def veMro : List Value := [.type "ValueError", .type "Exception", .type "BaseException", .type "object"]
/-- an exception class of one's own, without an __init__ -/
structure ExcOk (X : Cx) (x : Str) (C : Addr) : Prop where
  mg : X.mg x = some (.ref C)
  kp : PySem.W.keepIn X.K (.ref C) = true
  ex : PySem.W.excIn X.K C veMro "ValueError.__new__" = true
  ra : Raises X (.ref C)
structure GoodC (X : Cx) (cl : Nat → Option Addr) (nm : Nm) (F : Orc) (W : WX) : Prop extends Good X cl nm F W where
  po : PassesOwn (model X.prog X.w) X.A X.env X.xe
  hs : X.stack = X.env :: X.outer
  hf : X.env.frame = some X.env.locals
  exc : ∀ c x, nm.cs.lookup c = some x → ∃ C, cl c = some C ∧ ExcOk X x C
  sub : ∀ c h C Ch, cl c = some C → cl h = some Ch → PySem.W.exmOne X.K (.ref C) (.ref Ch) = some (F.sub c h)
section
variable {X : Cx} {cl : Nat → Option Addr} {nm : Nm} {F : Orc} {W : WX}
theorem GoodC.tr (g : GoodC X cl nm F W) {W' : WX} {pn : List (Addr × Obj)} {xe : Value → Shared → Prop} (tk : Takes (X.tr pn xe) W') (po : PassesOwn (model X.prog X.w) X.A X.env xe) : GoodC (X.tr pn xe) cl nm F W' where
  calm := g.calm
  N := g.N
  nd := g.nd
  sc := g.sc
  kind := g.kind
  fn := g.fn
  hu := g.hu
  bs := g.bs
  gs := g.gs
  call := fun f x h => by
    obtain ⟨k, a, fd, ps, sp, c⟩ := g.call f x h
    exact ⟨k, a, fd, ps, sp, ⟨c.fn, c.room, c.mg, c.kp, c.bi, c.sp⟩⟩
  tk := tk
  po := po
  hs := g.hs
  hf := g.hf
  exc := fun c x h => by
    obtain ⟨C, e, k⟩ := g.exc c x h
    exact ⟨C, e, ⟨k.mg, k.kp, k.ex, k.ra⟩⟩
  sub := g.sub
theorem get_ok (hu : X.A.units + 200 < cLine) : PGet X (rOp (kxOf X cl) idxRf) := by
  intro pins s σ H o i ov iv Q I ro ri h
  obtain ⟨js, S, x, y, W, rs, r1, r2, h⟩ := h
  unfold idxRf at h
  split at h
  · cases r1 with
    | ref h1 =>
      split at h
      · rename_i ds e
        split at h
        · rename_i k
          cases r2
          obtain ⟨a', xs, e3, e4, e5⟩ := rs.list e
          rw [h1] at e3; cases e3
          split at h
          · rename_i d e2
            obtain ⟨w, e6, r3⟩ := atI_rep e2 e5
            cases ro
            obtain ⟨t, rfl⟩ := ri
            obtain ⟨its, r, pl, hz⟩ := I.list (.inl (.inl e4))
            obtain ⟨j, h1', h2, h3, h4, h5⟩ := atI_get e6
            obtain ⟨w2, ew, rw'⟩ := r.get h2
            have hl := r.length
            have hn := line63
            have fin : EP X pins σ Q w2 s := ⟨w, H, I, rw', h.pure rs r3⟩
            by_cases h0 : 0 ≤ k
            · have hj : k.toNat = j := by
                rw [seqIndex_of h0 h5] at h1'
                exact Option.some.inj h1'
              exact wpAny_getItem_list pl.isList h0 (by omega) (by rw [hj]; simpa using ew) fin
            · have hj : (k + (its.toArray.size : Int)).toNat = j := by
                rw [seqIndex_neg (by omega) h4] at h1'
                rw [List.size_toArray, ← hl]
                exact Option.some.inj h1'
              exact wpAny_getItem_list_neg pl.isList (by omega) (by rw [List.size_toArray] <;> omega) (by omega) (by rw [hj]; simpa using ew) fin
          · exact h.elim
        · exact h.elim
      · split at h
        · rename_i d e
          obtain ⟨a', e3, g, _⟩ := dget_rep e rs r2
          rw [h1] at e3; cases e3
          cases (show ov = Value.ref _ from ro)
          rcases g with ⟨z, _⟩ | ⟨d', w, z, g, rw'⟩
          · cases z
          · cases z
            exact dg_getItem hu I g ri fun w' s3 I3 r3 => ⟨w, H, I3, r3, h.pure rs rw'⟩
        · exact h.elim
  · exact h.elim
theorem set_ok (hu : X.A.units + 200 < cLine) : PSet X (fun o i v H Q => ∃ js S x y z, RelS (kxOf X cl) H js S ∧ RepV (kxOf X cl) H js x o ∧ RepV (kxOf X cl) H js y i ∧ RepV (kxOf X cl) H js z v ∧ ∃ S', setiD x y z S = some S' ∧ ∀ H' js', Grow H js H' js' → RelS (kxOf X cl) H' js' S' → Q H') := by
  intro pins s σ H o i v ov iv u Q I ro ri rv h
  obtain ⟨js, S, x, y, z, rs, r1, r2, r3, S', e, q⟩ := h
  unfold setiD at e
  split at e
  · cases r2
    cases r1 with
    | ref h1 =>
      split at e
      · rename_i xs e2
        split at e
        · rename_i j e3
          cases e
          obtain ⟨a', ws, e4, e5, q5⟩ := rs.list e2
          rw [h1] at e4; cases e4
          have nl : ∀ q, O.lst xs ≠ .lk q := fun _ z => nomatch z
          exact set_list pins s σ H _ _ v ov iv u Q I ro ri rv ⟨_, ws, _, j, rfl, rfl, e5, by rw [← q5.length]; exact e3, q _ js (Grow.put rs h1 e2 nl) (rs.put h1 e2 nl (RepVs.set r3 j q5))⟩
        · cases e
      · cases e
  · cases r1 with
    | ref h1 =>
      obtain ⟨a', e4, dp⟩ := dput_rep e rs r2 r3
      rw [h1] at e4; cases e4
      cases (show ov = Value.ref _ from ro)
      exact dg_setItem hu I dp ri rv fun H' s' I' hg => ⟨H', I', q _ js hg.1 hg.2⟩
  · cases e
theorem while_read {K : Kx} {c : T} {b : Cs} {σ : L2.St} {H : Hp} {D : Ends} (q : rdC K F W (.whl c b) D σ H) : tWhile (rdT K F W c) (rdCs K F W b) D σ H := by
  obtain ⟨js, S, ρ, rs, rr, q⟩ := q
  unfold exC at q
  cases e : whileL (fun ρ S => evT F c ρ S) (fun ρ S => exCs F b ρ S) ρ S with
  | none => rw [e] at q; exact q.elim
  | some r =>
    cases r with
    | ex _ _ _ => rw [e] at q; exact q.elim
    | ok f S5 =>
      rw [e] at q
      obtain ⟨m0, run0⟩ := whileL_n _ _ _ _ _ e
      refine ⟨fun m σ' H' => ∃ js' S' ρ', Grow H js H' js' ∧ RelS K H' js' S' ∧ RepR K H' js' ρ' σ' ∧ whileN (fun ρ S => evT F c ρ S) (fun ρ S => exCs F b ρ S) m ρ' S' = some (.ok f S5), ⟨m0, js, S, ρ, Grow.refl, rs, rr, run0⟩, ?_⟩
      rintro m σ' H' ⟨js', S', ρ', g', rs', rr', run'⟩
      cases m with
      | zero => cases run'
      | succ m =>
        unfold whileN at run'
        refine ⟨js', S', ρ', rs', rr', ?_⟩
        cases e1 : evT F c ρ' S' with
        | none => rw [e1] at run'; cases run'
        | some rt =>
          rw [e1] at run'
          cases rt with
          | ex c xs S1 =>
            cases run'
            exact fun cls d H1 js1 g1 rs1 er => (OkC.mono (o := ok (.rz ρ' c xs) S5) q (g'.trans g1)).rz rs1 (rr'.mono g1) er
          | ok t S1 =>
            simp only [bx] at run'
            rintro t' H1 js1 g1 rs1 (et : t = t')
            subst et
            cases t with
            | false =>
              cases run'
              rw [if_neg Bool.false_ne_true]
              exact (OkC.mono (o := ok (.nx ρ') S5) q (g'.trans g1)).nx rs1 (rr'.mono g1)
            | true =>
              rw [if_pos rfl]
              refine ⟨fun σ2 H2 => ∃ m', m' < m + 1 ∧ ∃ js2 S2 ρ2, Grow H js H2 js2 ∧ RelS K H2 js2 S2 ∧ RepR K H2 js2 ρ2 σ2 ∧ whileN (fun ρ S => evT F c ρ S) (fun ρ S => exCs F b ρ S) m' ρ2 S2 = some (.ok f S5), fun σ2 H2 h => h, js1, S1, ρ', rs1, rr'.mono g1, ?_⟩
              cases e2 : exCs F b ρ' S1 with
              | none => simp only [e2] at run'; cases run'
              | some rb =>
                cases rb with
                | ex _ _ _ => simp only [e2] at run'; cases run'
                | ok fb S2 =>
                  simp only [e2, bd_ok] at run'
                  intro H2 js2 g2 rs2
                  cases fb with
                  | nx ρ2 => exact fun σ2 rr2 => ⟨m, by omega, js2, S2, ρ2, g'.trans (g1.trans g2), rs2, rr2, run'⟩
                  | cnt ρ2 => exact fun σ2 rr2 => ⟨m, by omega, js2, S2, ρ2, g'.trans (g1.trans g2), rs2, rr2, run'⟩
                  | brk ρ2 =>
                    cases run'
                    exact fun σ2 rr2 => (OkC.mono (o := ok (.nx ρ2) S5) q (g'.trans (g1.trans g2))).nx rs2 rr2
                  | ret d =>
                    cases run'
                    exact fun v r => (OkC.mono (o := ok (.ret d) S5) q (g'.trans (g1.trans g2))).ret rs2 r
                  | rz ρ2 c xs =>
                    cases run'
                    exact fun σ2 cls d rr2 er => (OkC.mono (o := ok (.rz ρ2 c xs) S5) q (g'.trans (g1.trans g2))).rz rs2 rr2 er
theorem unlock_rel {K : Kx} {H : Hp} {js : List Addr} {S : Sto} {n : Nat} {a : Addr} {o : O} (rs : RelS K H js S) (ha : js[n]? = some a) (e : S[n]? = some (.lk o)) :
    ∃ od u, H a = some (.frz od u) ∧ (∀ (c : Addr) (d : VM.D) (v : V), RepV K H js d v → RepV K (upd H a u) js d v) ∧ RelS K (upd H a u) js (S.set n o) ∧ (∀ (ρ : Rho) (σ : L2.St), RepR K H js ρ σ → RepR K (upd H a u) js ρ σ) := by
  obtain ⟨a', e1, r⟩ := rs.at e
  rw [ha] at e1; cases e1
  have hu : ∃ od u, H a = some (.frz od u) ∧ (∀ H', (∀ {d : VM.D} {v : V}, RepV K H js d v → RepV K H' js d v) → (∀ {ds : List VM.D} {vs : List V}, RepVs K H js ds vs → RepVs K H' js ds vs) → RepO K H' js a o (some u)) := by
    unfold RepO at r
    split at r
    · rename_i eq _; cases eq
    · rename_i eq _; cases eq
    · rename_i eq _; cases eq
    · rename_i eq eh
      cases eq
      exact ⟨_, _, eh, fun H' f fs => ⟨r.1, fs r.2⟩⟩
    · rename_i eq eh
      cases eq
      obtain ⟨hl, xs, e, q⟩ := r
      exact ⟨_, _, eh, fun H' f fs => ⟨hl, xs, e, q.imp f⟩⟩
    · exact r.elim
  obtain ⟨od, u, hu, ru⟩ := hu
  have am : a ∈ js := List.mem_of_getElem? ha
  have keep : ∀ (b : Addr) (q : HO), b ∉ js → H b = some q → upd H a u b = some q := fun b q nb h => by
    rw [upd_ne (fun z => nb (by rw [z]; exact am))]; exact h
  have fz : ∀ {b : Addr} {xs : List V}, Fz K H js b xs → Fz K (upd H a u) js b xs := fun {b xs} h => by
    rcases h with ⟨q, h, nb⟩ | h
    · exact .inl ⟨q, keep _ _ nb h, nb⟩
    · exact .inr h
  have key : (∀ (d : VM.D) (v : V), RepV K H js d v → RepV K (upd H a u) js d v) ∧ ∀ (ds : List VM.D) (vs : List V), RepVs K H js ds vs → RepVs K (upd H a u) js ds vs := by
    have g : Grow H js (upd H a u) js ∨ True := .inr trivial
    constructor
    · intro d v h
      exact RepV.rec (motive_1 := fun d v _ => RepV K (upd H a u) js d v) (motive_2 := fun ds vs _ => RepVs K (upd H a u) js ds vs) .non (fun b => .bl b) (fun i => .int i) (fun x => .str x) (fun h n _ ih => .tup (keep _ _ n h) n ih) (fun h => .ref h) (fun h _ ih => .fz (fz h) ih) .nil (fun _ _ i1 i2 => .cons i1 i2) h
    · intro d v h
      exact RepVs.rec (motive_1 := fun d v _ => RepV K (upd H a u) js d v) (motive_2 := fun ds vs _ => RepVs K (upd H a u) js ds vs) .non (fun b => .bl b) (fun i => .int i) (fun x => .str x) (fun h n _ ih => .tup (keep _ _ n h) n ih) (fun h => .ref h) (fun h _ ih => .fz (fz h) ih) .nil (fun _ _ i1 i2 => .cons i1 i2) h
  refine ⟨od, u, hu, fun _ d v h => key.1 d v h, ⟨by rw [List.length_set]; exact rs.len, rs.nd, fun m b q e1 e2 => ?_⟩, fun ρ σ rr => ⟨rr.len, fun i d e => let ⟨v, h1, h2⟩ := rr.at_ i d e; ⟨v, h1, key.1 _ _ h2⟩⟩⟩
  by_cases hm : m = n
  · subst hm
    rw [ha] at e1; cases e1
    have hl : m < S.length := by rw [← rs.len]; exact (List.getElem?_eq_some_iff.mp ha).1
    rw [List.getElem?_set_self hl] at e2; cases e2
    rw [upd_same]
    exact ru _ (fun h => key.1 _ _ h) fun h => key.2 _ _ h
  · rw [List.getElem?_set_ne (Ne.symm hm)] at e2
    have q' := rs.obj m b q e1 e2
    have nb : b ≠ a := fun z => by
      subst z
      obtain ⟨h1, x1⟩ := List.getElem?_eq_some_iff.mp ha
      obtain ⟨h2, x2⟩ := List.getElem?_eq_some_iff.mp e1
      exact hm ((List.getElem_inj rs.nd).mp (x2.trans x1.symm))
    rw [upd_ne nb]
    exact q'.imp (fun h => key.1 _ _ h) fun h => key.2 _ _ h
end
end VM
/-! WG: the soundness of statements. -/
namespace VM
open PySem PySem.Spec PyProof.Rows L2
section
variable {X : Cx} {cl : Nat → Option Addr} {nm : Nm} {F : Orc} {W : WX}
theorem fin_unl {K : Kx} {H1 HJ H' : Hp} {js1 js' : List Addr} {i0 : It} {J : L2.It} {S5 : Sto} {P : Hp → Prop} (wk : WkI X.H_0 K H1 js1 i0 (J, HJ)) (g : Grow HJ js1 H' js') (rs : RelS K H' js' S5)
    (h : ∀ H'', Grow H1 js1 H'' js' → RelS K H'' js' (unl i0 S5) → (∀ d v, RepV K H' js' d v → RepV K H'' js' d v) → (∀ ρ σ, RepR K H' js' ρ σ → RepR K H'' js' ρ σ) → P H'') : Unl X P H' := by
  cases i0 with
  | fix ds =>
    obtain ⟨e, _⟩ := wk
    cases e
    exact .inl (h H' g rs (fun _ _ z => z) fun _ _ z => z)
  | dyn n m =>
    obtain ⟨e, _⟩ := wk
    cases e
    exact .inl (h H' g rs (fun _ _ z => z) fun _ _ z => z)
  | lkd n ds =>
    obtain ⟨a, u, od, ha, hu, mu, hk, hn, eJ, _⟩ := wk
    have eJ : HJ = upd H1 a (.frz od u) := eJ
    subst eJ
    have hf : H' a = some (.frz od u) := g.frz _ _ _ upd_same
    have am : a ∈ js1 := List.mem_of_getElem? ha
    have ha' := g.at ha
    have nf : ∀ b q v, H1 b = some (.frz q v) → b ≠ a := fun b q v e z => by
      subst z
      rw [hu] at e
      cases e
      exact mu
    have gr : Grow H1 js1 (upd H' a u) js' := by
      obtain ⟨new, en, hnew⟩ := g.pre
      refine ⟨⟨new, en, fun b hb => ⟨(hnew b hb).1, ?_⟩⟩, fun b o nb e => ?_, fun b o v e => ?_⟩
      · have nb : b ≠ a := fun z => (hnew b hb).1 (by rw [z]; exact am)
        have := (hnew b hb).2
        rw [upd_ne nb] at this
        exact this
      · have nb' : b ≠ a := fun z => nb (by rw [z]; exact am)
        rw [upd_ne nb']
        exact g.keep b o nb (by rw [upd_ne nb']; exact e)
      · have nb' := nf b o v e
        rw [upd_ne nb']
        exact g.frz b o v (by rw [upd_ne nb']; exact e)
    have hlt : n < S5.length := by rw [← rs.len]; exact (List.getElem?_eq_some_iff.mp ha').1
    cases e5 : S5[n] with
    | lk o =>
      have e6 : S5[n]? = some (.lk o) := by rw [List.getElem?_eq_getElem hlt, e5]
      obtain ⟨od', u', h1, h2, h3, h4⟩ := unlock_rel rs ha' e6
      rw [hf] at h1
      cases h1
      refine .inr ⟨a, od, u, hf, hn, h _ gr ?_ (fun d v z => h2 a d v z) h4⟩
      show RelS K _ js' (unl (.lkd n ds) S5)
      unfold unl
      simp only [e6]
      exact h3
    | _ =>
      obtain ⟨u', h1, _, h2⟩ := (rs.obj n a _ ha' (List.getElem?_eq_getElem hlt)).nofrz (by rw [e5]; exact fun _ z => nomatch z)
      rw [hf] at h1
      cases h1
      exact (h2 _ _ rfl).elim
theorem start_lk {K : Kx} {H1 HJ : Hp} {js1 : List Addr} {i0 : It} {J : L2.It} {S1 : Sto} (wk : WkI X.H_0 K H1 js1 i0 (J, HJ)) (rs : RelS K H1 js1 S1) : RelS K HJ js1 (lkI i0 S1) ∧ Wk K HJ js1 i0 J ∧ Grow H1 js1 HJ js1 := by
  cases i0 with
  | fix ds =>
    obtain ⟨e, w⟩ := wk
    cases e
    exact ⟨rs, w, Grow.refl⟩
  | dyn n m =>
    obtain ⟨e, w⟩ := wk
    cases e
    exact ⟨rs, w, Grow.refl⟩
  | lkd n ds =>
    obtain ⟨a, u, od, ha, hu, mu, hk, hn, eJ, y⟩ := wk
    have eJ : HJ = upd H1 a (.frz od u) := eJ
    subst eJ
    have hlt : n < S1.length := by rw [← rs.len]; exact (List.getElem?_eq_some_iff.mp ha).1
    have e1 : S1[n]? = some S1[n] := List.getElem?_eq_getElem hlt
    have r := rs.obj n a _ ha e1
    have hl : lkI (.lkd n ds) S1 = S1.set n (.lk S1[n]) := by
      unfold lkI
      simp only [e1]
    rw [hl]
    generalize S1[n] = ob at *
    rw [hu] at r
    have key : (∀ q, ob ≠ .lk q) ∧ RepO K H1 js1 a (.lk ob) (some (.frz od u)) := by
      rcases hk with ⟨vs, hk⟩ | ⟨xs, hk⟩
      · subst hk
        cases ob with
        | dic kvs => exact ⟨(fun _ z => nomatch z), r⟩
        | lk o => cases o <;> exact r.elim
        | _ => exact r.elim
      · subst hk
        cases ob with
        | din kvs => exact ⟨(fun _ z => nomatch z), r⟩
        | lk o => cases o <;> exact r.elim
        | _ => exact r.elim
    exact ⟨rs.putO ha e1 key.1 key.2, y, Grow.put rs ha e1 key.1⟩
/-- what the clauses do of an exception -/
theorem se_ok {e : SE} {x : Expr} (h : mSE e x = true) {K : Kx} : PE X x (fun _ H Q => ∃ js, (∀ v, RepV K H js (seD e) v → Q v H)) := by
  cases e with
  | non =>
    simp only [mSE] at h
    split at h <;> first | contradiction | skip
    exact ⟨fun pins s σ H Q I q => pe_non.run pins s σ H Q I (let ⟨js, q⟩ := q; q _ .non)⟩
  | bl b =>
    simp only [mSE] at h
    split at h <;> first | contradiction | skip
    have h := of_decide_eq_true h
    subst h
    exact ⟨fun pins s σ H Q I q => pe_bl.run pins s σ H Q I (let ⟨js, q⟩ := q; q _ (.bl _))⟩
  | int b =>
    simp only [mSE] at h
    split at h <;> first | contradiction | skip
    have h := of_decide_eq_true h
    subst h
    exact ⟨fun pins s σ H Q I q => pe_int.run pins s σ H Q I (let ⟨js, q⟩ := q; q _ (.int _))⟩
  | str b =>
    simp only [mSE] at h
    split at h <;> first | contradiction | skip
    have h := of_decide_eq_true h
    subst h
    exact ⟨fun pins s σ H Q I q => pe_str.run pins s σ H Q I (let ⟨js, q⟩ := q; q _ (.str _))⟩
end
theorem aug_plain {z : Expr} (h : plainX z = true) : ∀ ov iv new, augStore z ov iv new = (do holding [new, ov, iv] (setItem ov iv new); release [new, ov, iv] []; pure .next) := by
  intro ov iv new
  cases z <;> first | rfl | cases h
theorem sw_se {e : SE} {x : Expr} (h : mSE e x = true) {t : Option Expr} {l : Nat} {env : Env} : swapsWith x t l env = pure false := by
  cases e <;> (simp only [mSE] at h; split at h <;> first | contradiction | rfl)

def rdSu (K : Kx) (s : Su) : TS := fun D σ H => ∃ js S ρ, RelS K H js S ∧ RepR K H js ρ σ ∧ OkC K H js (suRun s ρ S) D W0
theorem suSet_ok {X : Cx} {cl : Nat → Option Addr} {nm : Nm} {F : Orc} {W : WX} (g : GoodC X cl nm F W) {A : Around} {pn : List (Addr × Obj)} {a : Addr} : ∀ (sets : List (Nat × SE)) (o : Option SE) (xs : List Stmt), mSu nm sets o xs = true →
    PSs (X.suite a pn) xs (rdSu (kxOf X cl) ⟨sets, o⟩)
  | [], none, [], _ => ⟨fun pins s σ H D I q => by
      obtain ⟨js, S, ρ, rs, rr, q⟩ := q
      exact pss_nil.run pins s σ H D I (q.nx rs rr)⟩
  | [], none, _ :: _, h => by simp [mSu] at h
  | [], some e, xs, h => by
    simp only [mSu] at h
    split at h
    · refine ⟨fun pins s σ H D I q => ?_⟩
      obtain ⟨js, S, ρ, rs, rr, q⟩ := q
      exact (pss_one (ps_ret (se_ok (X := X.suite a pn) (K := kxOf X cl) h))).run pins s σ H D I ⟨js, fun v r => q.ret rs r⟩
    · cases h
  | (i, e) :: r, o, xs, h => by
    simp only [mSu] at h
    split at h
    · simp only [Bool.and_eq_true] at h
      obtain ⟨⟨h1, h2⟩, h3⟩ := h
      have t := g.tg h1
      refine ⟨fun pins s σ H D I q => ?_⟩
      obtain ⟨js, S, ρ, rs, rr, q⟩ := q
      refine (pss_cons (ps_set (X := X.suite a pn) g.nd t.ix t.loc (se_ok (X := X.suite a pn) (K := kxOf X cl) h2) (sw_se h2) t.fn) (suSet_ok (A := A) g r _ _ h3)).run pins s σ H D I ⟨js, fun v rv => ⟨js, S, _, rs, rr.set rv _, ?_⟩⟩
      exact q
    · cases h
section
variable {X : Cx} {cl : Nat → Option Addr} {nm : Nm} {F : Orc} {W : WX}
theorem hs_ok (g : GoodC X cl nm F W) : ∀ (hds : List (Nat × Su)) (xs : List ExceptHandler), mHs nm hds xs = true → ∃ l, HdsOk X xs l ∧
    ∀ (D : Ends) (H : Hp) (js : List Addr) (S : Sto) (ρ : Rho) (σ : L2.St) (c : Nat) (ys : List (Str × VM.D)) (cls : Value) (d : Option Addr), RelS (kxOf X cl) H js S → RepR (kxOf X cl) H js ρ σ → ExRep (kxOf X cl) H js c ys cls d →
      OkC (kxOf X cl) H js (caught F hds ρ c ys S) D W → wMany X.K W D l cls d σ H
  | [], [], _ => ⟨[], .nil, fun D H js S ρ σ c ys cls d rs rr er q => q.rz rs rr er⟩
  | [], _ :: _, h => by simp [mHs] at h
  | _ :: _, [], h => by simp [mHs] at h
  | (h0, s) :: r, x :: xs, h => by
    unfold mHs at h
    split at h
    · contradiction
    · rename_i e1 e2
      cases e1
      cases e2
      simp only [Bool.and_eq_true, decide_eq_true_eq] at h
      obtain ⟨⟨⟨⟨h1, h2⟩, h3⟩, h4⟩, h5⟩ := h
      obtain ⟨C, e, k⟩ := g.exc _ _ h1
      obtain ⟨l, hl, hk⟩ := hs_ok g r _ h5
      refine ⟨(.ref C, fun _ _ _ => rdSu (kxOf X cl) s) :: l, .cons ⟨g.gl h2, dbg_of h3, .inl k.mg⟩ (fun a oe cls d pn _ _ => ?_) hl, fun D H js S ρ σ c ys cls d rs rr er q => ?_⟩
      · obtain ⟨sets, ret⟩ := s
        exact suSet_ok (A := X.A) g sets ret _ h4
      · obtain ⟨Cr, f1, f2, f3⟩ := id er
        have f1 : cl c = some Cr := f1
        subst f2
        unfold caught at q
        refine ⟨F.sub c h0, g.sub c h0 Cr C f1 e, fun hb a na => ?_, fun hb => ?_⟩
        · rw [if_pos hb] at q
          refine ⟨js, S, ρ, rs, rr, ?_⟩
          unfold suRun at q ⊢
          cases hr : s.ret with
          | none => rw [hr] at q; exact q
          | some e => rw [hr] at q; exact q
        · rw [if_neg (by rw [hb]; decide)] at q
          exact hk D H js S ρ σ c ys _ d rs rr er q
    · cases h
theorem for_read {K : Kx} {tg : Tg} {it : I} {b : Cs} {σ : L2.St} {H : Hp} {D : Ends} (q : rdC K F W (.for_ tg it b) D σ H) : tFor (rdI X.H_0 K F W it) (rdTg K tg) (rdCs K F W b) ⟨fun σ' => Unl X (D.nx σ'), fun v => Unl X (D.rt v), fun σ' => Unl X (D.bk σ'), fun σ' => Unl X (D.ct σ')⟩ σ H := by
  obtain ⟨js, S, ρ, rs, rr, q⟩ := q
  unfold exC at q
  refine ⟨js, S, ρ, rs, rr, q.bx rr fun JH H0 js0 S0 i0 _ g0 rs0 wk q => ?_⟩
  obtain ⟨J, H1⟩ := JH
  obtain ⟨rs1, wk1, gl⟩ := start_lk wk rs0
  obtain ⟨r, S5, e2, q⟩ := q.bd
  obtain ⟨m0, run0⟩ := run_start e2
  refine ⟨fun i m σ' H' => ∃ js' S' ρ', Grow H1 js0 H' js' ∧ RelS K H' js' S' ∧ RepR K H' js' ρ' σ' ∧ Run i0 (forStep tg fun ρ S => exCs F b ρ S) i m ρ' S' r S5, ⟨m0, js0, lkI i0 S0, ρ, Grow.refl, rs1, (rr.mono g0).mono gl, run0⟩, ?_⟩
  rintro i m σ' H' ⟨js', S', ρ', g', rs', rr', run'⟩
  rcases run_step wk1 g' rs' run' with ⟨stop, e3, e4⟩ | ⟨d, go, yld, nx⟩
  · subst e3 e4
    refine .inl ⟨stop, fin_unl wk g' rs' fun H'' g'' rs'' _ rv => ?_⟩
    exact (OkC.mono (o := ok (.nx ρ') (unl i0 S5)) q g'').nx rs'' (rv _ _ rr')
  · refine .inr ⟨go, fun σ2 H2 => ∃ m', m' < m ∧ ∃ js2 S2 ρ2, Grow H1 js0 H2 js2 ∧ RelS K H2 js2 S2 ∧ RepR K H2 js2 ρ2 σ2 ∧ Run i0 (forStep tg fun ρ S => exCs F b ρ S) (i + 1) m' ρ2 S2 r S5, fun σ2 H2 h => h, fun x H2 y => ?_⟩
    obtain ⟨g2, rs2, rx⟩ := yld x H2 y
    have hb : ∃ ρ1 fb S2, bindT tg d ρ' = some ρ1 ∧ exCs F b ρ1 S' = some (.ok fb S2) ∧ (match fb with
        | .nx ρ2 => ∃ m', m' < m ∧ Run i0 (forStep tg fun ρ S => exCs F b ρ S) (i + 1) m' ρ2 S2 r S5
        | .cnt ρ2 => ∃ m', m' < m ∧ Run i0 (forStep tg fun ρ S => exCs F b ρ S) (i + 1) m' ρ2 S2 r S5
        | .brk ρ2 => r = .inr (.nx ρ2) ∧ S5 = S2
        | .ret dd => r = .inr (.ret dd) ∧ S5 = S2
        | .rz ρ2 c xs => r = .inr (.rz ρ2 c xs) ∧ S5 = S2) := by
      have key : ∀ res S2, forStep tg (fun ρ S => exCs F b ρ S) d ρ' S' = some (.ok res S2) → ∃ ρ1 fb S2', bindT tg d ρ' = some ρ1 ∧ exCs F b ρ1 S' = some (.ok fb S2') ∧ S2' = S2 ∧ (match fb with
          | .nx ρ2 => res = .inl ρ2
          | .cnt ρ2 => res = .inl ρ2
          | .brk ρ2 => res = .inr (.nx ρ2)
          | .ret dd => res = .inr (.ret dd)
          | .rz ρ2 c xs => res = .inr (.rz ρ2 c xs)) := by
        intro res S2 h
        unfold forStep at h
        split at h
        · cases h
        · rename_i ρ1 eb
          simp only at h
          cases e5 : exCs F b ρ1 S' with
          | none => rw [e5] at h; cases h
          | some rb =>
            cases rb with
            | ex _ _ _ => rw [e5] at h; cases h
            | ok fb S3 =>
              rw [e5] at h
              simp only [bd_ok] at h
              refine ⟨ρ1, fb, S3, eb, e5, ?_⟩
              cases fb <;> (cases h; exact ⟨rfl, rfl⟩)
      rcases nx with ⟨bb, S2, e5, e6, e7⟩ | ⟨a', S2, m', hm, e5, run2⟩
      · obtain ⟨ρ1, fb, S2', h1, h2, h3, h4⟩ := key _ _ e5
        subst h3
        refine ⟨ρ1, fb, S2', h1, h2, ?_⟩
        cases fb with
        | nx ρ2 => cases h4
        | cnt ρ2 => cases h4
        | brk ρ2 => cases h4; exact ⟨e6, e7⟩
        | ret dd => cases h4; exact ⟨e6, e7⟩
        | rz ρ2 c xs => cases h4; exact ⟨e6, e7⟩
      · obtain ⟨ρ1, fb, S2', h1, h2, h3, h4⟩ := key _ _ e5
        subst h3
        refine ⟨ρ1, fb, S2', h1, h2, ?_⟩
        cases fb with
        | nx ρ2 => cases h4; exact ⟨m', hm, run2⟩
        | cnt ρ2 => cases h4; exact ⟨m', hm, run2⟩
        | brk ρ2 => cases h4
        | ret dd => cases h4
        | rz ρ2 c xs => cases h4
    obtain ⟨ρ1, fb, S2, h1, h2, h3⟩ := hb
    refine ⟨js', d, ρ', ρ1, rx, rr'.mono g2, h1, fun σ2 rr2 _ _ => ⟨js', S', ρ1, rs2, rr2, ?_⟩⟩
    rw [h2]
    intro H3 js3 g3 rs3
    have gg : Grow H1 js0 H3 js3 := g'.trans (g2.trans g3)
    cases fb with
    | nx ρ2 =>
      obtain ⟨m', hm, run2⟩ := h3
      exact fun σ3 rr3 => ⟨m', hm, js3, S2, ρ2, gg, rs3, rr3, run2⟩
    | cnt ρ2 =>
      obtain ⟨m', hm, run2⟩ := h3
      exact fun σ3 rr3 => ⟨m', hm, js3, S2, ρ2, gg, rs3, rr3, run2⟩
    | brk ρ2 =>
      obtain ⟨e6, e7⟩ := h3
      subst e6 e7
      exact fun σ3 rr3 => fin_unl wk gg rs3 fun H'' g'' rs'' _ rv => (OkC.mono (o := ok (.nx ρ2) (unl i0 S5)) q g'').nx rs'' (rv _ _ rr3)
    | ret dd =>
      obtain ⟨e6, e7⟩ := h3
      subst e6 e7
      exact fun v r3 => fin_unl wk gg rs3 fun H'' g'' rs'' rd _ => (OkC.mono (o := ok (.ret dd) (unl i0 S5)) q g'').ret rs'' (rd _ _ r3)
    | rz ρ2 c xs =>
      obtain ⟨e6, e7⟩ := h3
      subst e6 e7
      intro σ3 cls d3 rr3 er
      cases i0 with
      | lkd n ds => exact q.elim
      | fix ds =>
        obtain ⟨e, _⟩ := wk
        cases e
        exact (OkC.mono (o := ok (.rz ρ2 c xs) S5) q gg).rz rs3 rr3 er
      | dyn n w =>
        obtain ⟨e, _⟩ := wk
        cases e
        exact (OkC.mono (o := ok (.rz ρ2 c xs) S5) q gg).rz rs3 rr3 er
end
section
variable {cl : Nat → Option Addr} {nm : Nm} {F : Orc}
mutual
theorem sC : ∀ (c : C) (X : Cx) (W : WX) (x : Stmt), GoodC X cl nm F W → mC nm c x = true → PS X x (rdC (kxOf X cl) F W c)
  | .pass, X, W, x, g, h => by
    unfold mC at h
    split at h
    · refine ⟨fun pins s σ H D I q => ?_⟩
      obtain ⟨js, S, ρ, rs, rr, q⟩ := q
      unfold exC at q
      exact ps_pass.run pins s σ H D I (q.nx rs rr)
    · cases h
  | .brk, X, W, x, g, h => by
    unfold mC at h
    split at h
    · refine ⟨fun pins s σ H D I q => ?_⟩
      obtain ⟨js, S, ρ, rs, rr, q⟩ := q
      unfold exC at q
      exact ps_break.run pins s σ H D I (q.brk rs rr)
    · cases h
  | .cnt, X, W, x, g, h => by
    unfold mC at h
    split at h
    · refine ⟨fun pins s σ H D I q => ?_⟩
      obtain ⟨js, S, ρ, rs, rr, q⟩ := q
      unfold exC at q
      exact ps_continue.run pins s σ H D I (q.cnt rs rr)
    · cases h
  | .dead, X, W, x, g, h => ⟨fun pins s σ H D I q => by
      obtain ⟨js, S, ρ, rs, rr, q⟩ := q
      unfold exC at q
      exact q.elim⟩
  | .set i e, X, W, x, g, h => by
    unfold mC at h
    split at h
    · rename_i z ps v p
      simp only [Bool.and_eq_true] at h
      obtain ⟨⟨⟨h1, h2⟩, h3⟩, h4⟩ := h
      have t := g.tg h1
      have plain : swapsWith v (some (.Name z ps)) p.line X.env = pure false → PS X (.Assign [.Name z ps] v p) (rdC (kxOf X cl) F W (.set i e)) := fun hs => by
        refine ⟨fun pins s σ H D I q => ?_⟩
        obtain ⟨js, S, ρ, rs, rr, q⟩ := q
        unfold exC at q
        exact (ps_set g.nd t.ix t.loc (sE e nm W _ X g.toGood h3) hs t.fn).run pins s σ H D I (rdE.bx q rs rr fun v1 H1 js1 S1 d g1 rs1 r1 q => q.nx rs1 ((rr.mono g1).set r1 i))
      by_cases hl : isLC v = true
      · cases v with
        | ListComp y gs scope pos =>
          unfold swOk at h4
          rw [Bool.or_eq_true] at h4
          rcases h4 with h4 | h4
          · simp only [Bool.and_eq_true, Bool.not_eq_true'] at h4
            obtain ⟨⟨k1, k2⟩, k3⟩ := h4
            have kl : X.env.scope.names.lookup z = some .local := by
              rw [g.sc]
              unfold localB at k1
              split at k1 <;> first | assumption | cases k1
            have hsw : swapsWith (.ListComp y gs scope pos) (some (.Name z ps)) p.line X.env = pure true := sw_true g.kind kl k2 k3
            cases e with
            | lc elt tg it c own =>
              unfold mE at h3
              split at h3
              · rename_i y' tx ix ifs n scope' pos' heq
                cases heq
                simp only [Bool.and_eq_true, decide_eq_true_eq] at h3
                obtain ⟨⟨⟨⟨⟨⟨⟨⟨⟨mt, m0⟩, m1⟩, m2⟩, m3⟩, m4⟩, m5⟩, m6⟩, m7⟩, m8⟩ := h3
                subst m0
                have ok : BlkOk X.N X.env.scope scope own := by
                  rw [g.N, g.sc]
                  exact blkOk_by m2
                have gb := fun (s : Shared) (H : Hp) (C : Addr) (cll : List (Str × Addr)) (fp : List Addr) => g.toGood.blk ok.kind s H C cll fp
                have ht : ∀ (s : Shared) (H : Hp) (C : Addr) (cll : List (Str × Addr)) (fp : List Addr), PTs (X.blk s H scope (compEnvC scope cll C X.env) fp) ifs (rdT (kxOf X cl) F W0 c) := fun s H C cll fp => by
                  split at m6
                  · split at m6
                    · refine ⟨fun pins s σ H Q I q => pts_nil.run pins s σ H Q I ?_⟩
                      obtain ⟨js, S, ρ, rs, rr, q⟩ := q
                      unfold evT at q
                      exact q.pureX rs
                    · cases m6
                  · rw [Bool.and_eq_true] at m6
                    exact pts_one (sT c _ _ _ _ (gb s H C cll fp) m6.2)
                  · cases m6
                refine ⟨fun pins s σ H D I q => ?_⟩
                refine (ps_setLc (own := own) (te := rdE (kxOf X cl) F W0 elt) (g := rdTg (kxOf X cl) tg) (tt := rdT (kxOf X cl) F W0 c) (wi := rdI X.H_0 (kxOf X cl) F W it) g.calm g.nd t.ix kl hsw (sI it nm W _ X g.toGood m5 tx mt) ok (fun s H C cll fp => sTg (gb s H C cll fp) tg _ m3) ht (fun s H C cll fp => sE elt _ _ _ _ (gb s H C cll fp) m8) (folded_plain m4 _)).run pins s σ H D I ?_
                obtain ⟨js, S, ρ, rs, rr, q⟩ := q
                unfold exC at q
                exact lc_read (fun i hi => of_decide_eq_true (List.all_eq_true.mp m1 i hi)) (rdE.bx q rs rr fun v1 H1 js1 S1 d g1 rs1 r1 q => q.nx rs1 ((rr.mono g1).set r1 i))
              · cases h3
            | _ => unfold mE at h3; cases h3
          · have kc : X.env.scope.names.lookup z = some .cell := by
              rw [g.sc]
              unfold cellB at h4
              split at h4 <;> first | assumption | cases h4
            exact plain (sw_cell kc)
        | _ => cases hl
      · exact plain (sw_plain h2 (by simpa using hl) _ _ _)
    · cases h
  | .asg tg e, X, W, x, g, h => by
    unfold mC at h
    split at h
    · simp only [Bool.and_eq_true, Bool.not_eq_true'] at h
      obtain ⟨⟨⟨⟨h1, h2⟩, h3⟩, h4⟩, h5⟩ := h
      refine ⟨fun pins s σ H D I q => ?_⟩
      obtain ⟨js, S, ρ, rs, rr, q⟩ := q
      unfold exC at q
      refine (ps_asg (sE e nm W _ X g.toGood h5) (sTg g.toGood tg _ h1) (sw_sole h2 h3 _ _ _) (stores_plain h4 _) rfl).run pins s σ H D I (rdE.bx q rs rr fun v1 H1 js1 S1 d g1 rs1 r1 q => ?_)
      split at q
      · rename_i ρ1 eb
        exact ⟨js1, d, ρ, ρ1, r1, rr.mono g1, eb, fun σ2 rr2 _ _ => q.nx rs1 rr2⟩
      · exact q.elim
    · cases h
  | .aug i op e, X, W, x, g, h => by
    unfold mC at h
    split at h
    · simp only [Bool.and_eq_true] at h
      obtain ⟨⟨⟨h1, h2⟩, h3⟩, h4⟩ := h
      have t := g.tg h1
      rw [opB_of h2]
      refine ⟨fun pins s σ H D I q => ?_⟩
      obtain ⟨js, S, ρ, rs, rr, q⟩ := q
      unfold exC at q
      split at q
      · rename_i x1 ex
        obtain ⟨v, e0, r0⟩ := rr.at_ _ _ ex
        refine (ps_aug g.nd t.ix t.loc (sE e nm W _ X g.toGood h4) (aug_ok (cl := cl) op) t.fn).run pins s σ H D I ⟨v, e0, rdE.bx q rs rr fun v1 H1 js1 S1 x2 g1 rs1 r1 q => ?_⟩
        obtain ⟨x3, S2, e2, q⟩ := q.bd
        refine ⟨js1, S1, x1, x2, fun _ _ _ => True, rs1, r0.mono g1, r1, ?_⟩
        rw [e2]
        exact fun w H2 js2 g2 rs2 r2 => (q.mono g2).nx rs2 ((rr.mono (g1.trans g2)).set r2 i)
      · exact q.elim
    · cases h
  | .seti o i e, X, W, x, g, h => by
    unfold mC at h
    split at h
    · simp only [Bool.and_eq_true, Bool.not_eq_true'] at h
      obtain ⟨⟨⟨⟨⟨⟨h1, h2⟩, h3⟩, h4⟩, h5⟩, h6⟩, h7⟩ := h
      refine ⟨fun pins s σ H D I q => ?_⟩
      obtain ⟨js, S, ρ, rs, rr, q⟩ := q
      unfold exC at q
      refine (ps_asg (sE e nm W _ X g.toGood h7) (pg_sub (sE o nm W _ X g.toGood h2) (sE i nm W _ X g.toGood h4) (set_ok (cl := cl) g.hu) (sub_assign h3)) (sw_sole h5 h6 _ _ _) (stores_sub _) rfl).run pins s σ H D I
        (rdE.bx q rs rr fun v1 H1 js1 S1 x1 g1 rs1 r1 q => rdE.bx q rs1 (rr.mono g1) fun v2 H2 js2 S2 x2 g2 rs2 r2 q => rdE.bx q rs2 (rr.mono (g1.trans g2)) fun v3 H3 js3 S3 x3 g3 rs3 r3 q => ?_)
      split at q
      · rename_i S4 e4
        exact ⟨js3, S3, x2, x3, x1, rs3, r2.mono g3, r3, (r1.mono g2).mono g3, S4, e4, fun H4 js4 g4 rs4 => (q.mono g4).nx rs4 (rr.mono (g1.trans (g2.trans (g3.trans g4))))⟩
      · exact q.elim
    · cases h
  | .augi o i op e, X, W, x, g, h => by
    unfold mC at h
    split at h
    · simp only [Bool.and_eq_true] at h
      obtain ⟨⟨⟨⟨⟨⟨h1, h2⟩, h3⟩, h4⟩, h5⟩, h6⟩, h7⟩ := h
      rw [opB_of h5]
      refine ⟨fun pins s σ H D I q => ?_⟩
      obtain ⟨js, S, ρ, rs, rr, q⟩ := q
      unfold exC at q
      refine (ps_augS (sE o nm W _ X g.toGood h2) (sE i nm W _ X g.toGood h4) (get_ok (cl := cl) g.hu) (sE e nm W _ X g.toGood h7) (aug_ok (cl := cl) op) (set_ok (cl := cl) g.hu) (ha := aug_plain h3)).run pins s σ H D I
        (rdE.bx q rs rr fun v1 H1 js1 S1 x1 g1 rs1 r1 q => rdE.bx q rs1 (rr.mono g1) fun v2 H2 js2 S2 x2 g2 rs2 r2 q => ?_)
      obtain ⟨x3, S3, e3, q⟩ := q.bd
      refine ⟨js2, S2, x1, x2, fun _ _ _ => True, rs2, r1.mono g2, r2, ?_⟩
      rw [e3]
      intro v3 H3 js3 g3 rs3 r3
      refine rdE.bx (q.mono g3) rs3 (rr.mono (g1.trans (g2.trans g3))) fun v4 H4 js4 S4 x4 g4 rs4 r4 q => ?_
      obtain ⟨x5, S5, e5, q⟩ := q.bd
      refine ⟨js4, S4, x3, x4, fun _ _ _ => True, rs4, r3.mono g4, r4, ?_⟩
      rw [e5]
      intro v5 H5 js5 g5 rs5 r5
      split at q
      · rename_i S6 e6
        refine ⟨js5, S5, x1, x2, x5, rs5, r1.mono (g2.trans (g3.trans (g4.trans g5))), r2.mono (g3.trans (g4.trans g5)), r5, S6, e6, fun H6 js6 g6 rs6 => (q.mono (g5.trans g6)).nx rs6 (rr.mono (g1.trans (g2.trans (g3.trans (g4.trans (g5.trans g6))))))⟩
      · exact q.elim
    · cases h
  | .rais c m, X, W, x, g, h => by
    unfold mC at h
    split at h
    · rename_i z p0 t p1 p2 p3 p4
      simp only [Bool.and_eq_true, decide_eq_true_eq] at h
      obtain ⟨⟨⟨h1, h2⟩, h3⟩, h4⟩ := h
      obtain ⟨C, e, k⟩ := g.exc _ _ h1
      refine ⟨fun pins s σ H D I q => ?_⟩
      obtain ⟨js, S, ρ, rs, rr, q⟩ := q
      unfold exC at q
      exact (ps_raise g.calm g.tk (pmk_own PySem.F.excBase_ValueError k.ex k.mg k.kp k.ra (g.gl h2) (dbg_of h3))).run pins s σ H D I (q.rz rs rr ⟨C, e, rfl, .inl ⟨rfl, rfl⟩⟩)
    · cases h
  | .tryc b hds, X, W, x, g, h => by
    unfold mC at h
    split at h
    · simp only [Bool.and_eq_true] at h
      obtain ⟨l, hl, hk⟩ := hs_ok g hds _ h.2
      refine ⟨fun pins s σ H D I q => (ps_try_many (tb := fun W' => rdCs (kxOf X cl) F W' b) g.hs g.hf g.tk (fun W' pn xe tk po => sCs b (X.tr pn xe) W' _ (g.tr tk po) h.1) hl).run pins s σ H D I ?_⟩
      obtain ⟨js, S, ρ, rs, rr, q⟩ := q
      unfold exC at q
      refine ⟨js, S, ρ, rs, rr, ?_⟩
      obtain ⟨f, S1, e1, q⟩ := q.bd
      show OkC _ H js (exCs F b ρ S) D _
      rw [e1]
      intro H1 js1 g1 rs1
      cases f with
      | nx ρ1 => exact fun σ1 rr1 => (OkC.mono (o := ok (.nx ρ1) S1) q g1).nx rs1 rr1
      | brk ρ1 => exact fun σ1 rr1 => (OkC.mono (o := ok (.brk ρ1) S1) q g1).brk rs1 rr1
      | cnt ρ1 => exact fun σ1 rr1 => (OkC.mono (o := ok (.cnt ρ1) S1) q g1).cnt rs1 rr1
      | ret d => exact fun v r1 => (OkC.mono (o := ok (.ret d) S1) q g1).ret rs1 r1
      | rz ρ1 c xs => exact fun σ1 cls d rr1 er => hk D H1 js1 S1 ρ1 σ1 c xs cls d rs1 rr1 er (OkC.mono (o := caught F hds ρ1 c xs S1) q g1)
    · cases h
  | .ex e, X, W, x, g, h => by
    unfold mC at h
    split at h
    · simp only [Bool.and_eq_true, Bool.not_eq_true'] at h
      obtain ⟨⟨h1, h2⟩, h3⟩ := h
      refine ⟨fun pins s σ H D I q => ?_⟩
      obtain ⟨js, S, ρ, rs, rr, q⟩ := q
      unfold exC at q
      exact (ps_expr (sE e nm W _ X g.toGood h3) (sw_plain h1 h2 _ _ _)).run pins s σ H D I (rdE.bx q rs rr fun v1 H1 js1 S1 d g1 rs1 r1 q => q.nx rs1 (rr.mono g1))
    · cases h
  | .ret e, X, W, x, g, h => by
    unfold mC at h
    split at h
    · simp only [Bool.and_eq_true] at h
      refine ⟨fun pins s σ H D I q => ?_⟩
      obtain ⟨js, S, ρ, rs, rr, q⟩ := q
      unfold exC at q
      exact (ps_ret (sE e nm W _ X g.toGood h.2)).run pins s σ H D I (rdE.bx q rs rr fun v1 H1 js1 S1 d g1 rs1 r1 q => q.ret rs1 r1)
    · cases h
  | .retn, X, W, x, g, h => by
    unfold mC at h
    split at h
    · refine ⟨fun pins s σ H D I q => ?_⟩
      obtain ⟨js, S, ρ, rs, rr, q⟩ := q
      unfold exC at q
      exact ps_retN.run pins s σ H D I (q.ret rs .non)
    · cases h
  | .ife c a b, X, W, x, g, h => by
    unfold mC at h
    split at h
    · simp only [Bool.and_eq_true] at h
      obtain ⟨⟨⟨h1, h2⟩, h3⟩, h4⟩ := h
      refine ⟨fun pins s σ H D I q => ?_⟩
      obtain ⟨js, S, ρ, rs, rr, q⟩ := q
      unfold exC at q
      refine (ps_if (sT c nm W _ X g.toGood h2) (sCs a X W _ g h3) (sCs b X W _ g h4)).run pins s σ H D I (rdT.bx q rs rr fun t H1 js1 S1 g1 rs1 q => ?_)
      cases t with
      | true =>
        rw [if_pos rfl]
        exact ⟨js1, S1, ρ, rs1, rr.mono g1, q⟩
      | false =>
        rw [if_neg Bool.false_ne_true]
        exact ⟨js1, S1, ρ, rs1, rr.mono g1, q⟩
    · cases h
  | .whl c b, X, W, x, g, h => by
    unfold mC at h
    split at h
    · simp only [Bool.and_eq_true] at h
      exact ⟨fun pins s σ H D I q => (ps_while g.po (sT c nm W _ X g.toGood h.1.2) (sCs b X W _ g h.2)).run pins s σ H D I (while_read q)⟩
    · cases h
  | .for_ tg it b, X, W, x, g, h => by
    unfold mC at h
    split at h
    · simp only [Bool.and_eq_true] at h
      obtain ⟨⟨⟨⟨h0, h1⟩, h2⟩, h3⟩, h4⟩ := h
      exact ⟨fun pins s σ H D I q => (ps_unl (ps_for g.po g.calm (sI it nm W _ X g.toGood h3 _ h0) (sTg g.toGood tg _ h1) (sCs b X W _ g h4) (folded_plain h2 _))).run pins s σ H D I (for_read q)⟩
    · cases h
theorem sCs : ∀ (c : Cs) (X : Cx) (W : WX) (xs : List Stmt), GoodC X cl nm F W → mCs nm c xs = true → PSs X xs (rdCs (kxOf X cl) F W c)
  | .nil, X, W, xs, g, h => by
    unfold mCs at h
    split at h
    · refine ⟨fun pins s σ H D I q => ?_⟩
      obtain ⟨js, S, ρ, rs, rr, q⟩ := q
      unfold exCs at q
      exact pss_nil.run pins s σ H D I (q.nx rs rr)
    · cases h
  | .cons c cs, X, W, xs, g, h => by
    unfold mCs at h
    split at h
    · simp only [Bool.and_eq_true] at h
      refine ⟨fun pins s σ H D I q => ?_⟩
      obtain ⟨js, S, ρ, rs, rr, q⟩ := q
      unfold exCs at q
      obtain ⟨f, S1, e1, q⟩ := q.bd
      refine (pss_cons (sC c X W _ g h.1) (sCs cs X W _ g h.2)).run pins s σ H D I ⟨js, S, ρ, rs, rr, ?_⟩
      rw [e1]
      intro H1 js1 g1 rs1
      cases f with
      | nx ρ1 => exact fun σ1 rr1 => ⟨js1, S1, ρ1, rs1, rr1, q.mono g1⟩
      | brk ρ1 => exact fun σ1 rr1 => (OkC.mono (o := ok (.brk ρ1) S1) q g1).brk rs1 rr1
      | cnt ρ1 => exact fun σ1 rr1 => (OkC.mono (o := ok (.cnt ρ1) S1) q g1).cnt rs1 rr1
      | ret d => exact fun v r1 => (OkC.mono (o := ok (.ret d) S1) q g1).ret rs1 r1
      | rz ρ1 c xs => exact fun σ1 cls d rr1 er => (OkC.mono (o := ok (.rz ρ1 c xs) S1) q g1).rz rs1 rr1 er
    · cases h
end
end
end VM
/-! WH: defs by their table, the law's end. -/
namespace VM
open PySem PySem.Spec PyProof.Rows L2

def spF (K : Kx) (sub : Nat → Nat → Bool) (tbl : List (Nat × Fd)) (k f : Nat) : Sp := fun vs H Q E => rCall K (callN sub tbl k f) vs H Q E
/-- a def of the text, its term looked over; x: its name among the globals, y: its own name -/
structure FnW (K : PySem.W.Frag) (mg : Str → Option Value) (fs : List (Nat × Str)) (bs : List Str) (gs : List (Str × D)) (cs : List (Nat × Str)) (x : Str) (fd : Fd) (a : Addr) (dat : FuncData) (ps : List Str) : Prop where
  ex : ∃ (y : Str) (st : Stmt) (N : List Str), Fun K y y st a dat ∧ mg x = some (.ref a) ∧ FnScope N ps (defScope st) ∧ fd.np = ps.length ∧ fd.ns = N.length ∧
    mCs ⟨N, defScope st, none, fs, bs, gs, cs⟩ fd.body (defBody st) = true ∧ Binds K dat ps []
def FnT (K : PySem.W.Frag) (mg : Str → Option Value) (fs : List (Nat × Str)) (bs : List Str) (gs : List (Str × D)) (cs : List (Nat × Str)) (x : Str) (fd : Fd) : Prop := ∃ (a : Addr) (dat : FuncData) (ps : List Str), FnW K mg fs bs gs cs x fd a dat ps
/-- the classes of exceptions -/
structure ClsT (K : PySem.W.Frag) (mg : Str → Option Value) (cl : Nat → Option Addr) (sub : Nat → Nat → Bool) (cs : List (Nat × Str)) : Prop where
  exc : ∀ c x, cs.lookup c = some x → ∃ C, cl c = some C ∧ mg x = some (.ref C) ∧ PySem.W.keepIn K (.ref C) = true ∧ PySem.W.excIn K C veMro "ValueError.__new__" = true ∧ PySem.W.subIn K (.ref C) (.type "BaseException") = some true ∧ PySem.W.typeIn K (.ref C) = some (.type "type")
  sub : ∀ c h C Ch, cl c = some C → cl h = some Ch → PySem.W.exmOne K (.ref C) (.ref Ch) = some (sub c h)
section
variable {P : Program} {w : World} {K : PySem.W.Frag} {mg : Str → Option Value} {base : Heap} {tbl : List (Nat × Fd)} {fs : List (Nat × Str)} {bs : List Str} {gs : List (Str × D)} {cs : List (Nat × Str)} {cl : Nat → Option Addr} {sub : Nat → Nat → Bool}
theorem rep_start {K : Kx} {H : Hp} {js : List Addr} {ds : List D} {vs : List V} {N : List Str} {np ns : Nat} (r : RepVs K H js ds vs) (h1 : ds.length = np) (h2 : ns = N.length) (h3 : np ≤ ns) :
    RepR K H js (ds.map some ++ List.replicate (ns - np) none) (L2.start N vs) := by
  have hl := r.length
  refine ⟨by unfold L2.start; simp only [List.length_append, List.length_map, List.length_replicate]; omega, fun i d e => ?_⟩
  by_cases hi : i < ds.length
  · rw [List.getElem?_append_left (by simpa using hi), List.getElem?_map] at e
    cases e1 : ds[i]? with
    | none => rw [e1] at e; cases e
    | some d' =>
      rw [e1] at e
      cases e
      obtain ⟨v, e2, r2⟩ := r.get e1
      refine ⟨v, ?_, r2⟩
      unfold L2.start
      rw [List.getElem?_append_left (by rw [List.length_map, ← hl]; exact hi), List.getElem?_map, e2]
      rfl
  · rw [List.getElem?_append_right (by simpa using hi), List.getElem?_replicate] at e
    split at e <;> cases e
theorem spF_len {K : Kx} {k f : Nat} {fd : Fd} (hf : tbl.lookup f = some fd) {vs : List V} {H : Hp} {Q : VK} {E : XK} (h : spF K sub tbl k f vs H Q E) : vs.length = fd.np := by
  obtain ⟨js, S, ds, rs, rv, h⟩ := h
  cases k with
  | zero => exact h.elim
  | succ k =>
    unfold callN at h
    rw [hf] at h
    simp only at h
    split at h
    · rename_i e
      rw [← rv.length, e]
    · exact h.elim
/-- EVERY DEF DOES WHAT ITS TERM DOES -/
theorem fn_sound (hT : ∀ (f : Nat) (x : Str), fs.lookup f = some x → ∃ fd, tbl.lookup f = some fd ∧ FnT K mg fs bs gs cs x fd) (hb : ∀ x ∈ bs, mg x = none)
    (hg : ∀ x d, gsB gs x d = true → ∃ u v, mg x = some u ∧ RelV v u ∧ ∀ H js, RepV ⟨K, P, w, cl⟩ H js d v) (hC : ClsT K mg cl sub cs) :
    ∀ (k f : Nat) (x : Str) (fd : Fd) (a : Addr) (dat : FuncData) (ps : List Str), tbl.lookup f = some fd → FnW K mg fs bs gs cs x fd a dat ps → FnOk P w K mg base (L2.CX P w) k a dat ps (spF ⟨K, P, w, cl⟩ sub tbl k f) := by
  intro k
  induction k with
  | zero =>
    intro f x fd a dat ps hf W
    obtain ⟨y, st, N, F, hm, S, h1, h2, h3, h4⟩ := W.ex
    refine ⟨fun vs H Q E h => ?_, fun A outer s H args us vs Q E _ _ _ _ h => ?_⟩
    · rw [spF_len hf h, h1]
    · obtain ⟨js, S', ds, rs, rv, h⟩ := h
      exact h.elim
  | succ k ih =>
    intro f x fd a dat ps hf W
    obtain ⟨y, st, N, F, hm, S, h1, h2, h3, h4⟩ := W.ex
    refine F.okX S (fun vs H Q E h => by rw [spF_len hf h, h1]) (fun cdv A outer s H vs Q E hr h => ?_)
    have hpl : ps.length ≤ N.length := by
      have := congrArg List.length S.pre
      rw [List.length_take] at this
      omega
    have good : GoodC (cxOf (L2.CX P w) P w K mg base N y (defScope st) a cdv A outer s H E) cl ⟨N, defScope st, none, fs, bs, gs, cs⟩ ⟨callN sub tbl k, sub⟩ (fun c d _ H' => E c d H') :=
      { calm := rfl, N := rfl, nd := S.nd, sc := rfl, kind := S.kind, fn := fun _ _ => rfl, hu := by have := hr.un; show (A.deeper _).units + 200 < cLine; omega, bs := hb, gs := hg,
        call := fun f' x' hx' => by
          obtain ⟨fd', hf', a', dat', ps', W'⟩ := hT f' x' hx'
          have F' := ih f' x' fd' a' dat' ps' hf' W'
          obtain ⟨y', st', N', F0, hm', _, _, _, _, hb'⟩ := W'.ex
          exact ⟨k, a', dat', ps', spF ⟨K, P, w, cl⟩ sub tbl k f', ⟨F', hr, hm', F0.kp, hb', fun vs H Q E q => q⟩⟩
        tk := takes_of rfl rfl rfl rfl
        po := passes_of rfl, hs := rfl, hf := rfl
        exc := fun c x h => by
          obtain ⟨C, e, q1, q2, q3, q4, q5⟩ := hC.exc c x h
          exact ⟨C, e, ⟨q1, q2, q3, raises_own q4 q5⟩⟩
        sub := hC.sub }
    refine ⟨rdCs ⟨K, P, w, cl⟩ ⟨callN sub tbl k, sub⟩ (fun c d _ H' => E c d H') fd.body, sCs fd.body _ _ _ good h3, ?_⟩
    obtain ⟨js, S', ds, rs, rv, h⟩ := h
    unfold callN at h
    rw [hf] at h
    simp only at h
    split at h
    · rename_i hl
      refine ⟨js, S', ds.map some ++ List.replicate (fd.ns - fd.np) none, rs, rep_start rv hl h2 (by rw [h1, h2]; exact hpl), ?_⟩
      cases e1 : exCs ⟨callN sub tbl k, sub⟩ fd.body (ds.map some ++ List.replicate (fd.ns - fd.np) none) S' with
      | none => rw [e1] at h; exact h.elim
      | some r0 =>
        rw [e1] at h
        cases r0 with
        | ex c xs S1 => exact h.elim
        | ok r S1 =>
          intro H1 js1 g1 rs1
          cases r with
          | ret d => exact fun v r1 => h v H1 js1 g1 rs1 r1
          | nx ρ => exact fun σ1 _ => h .non H1 js1 g1 rs1 .non
          | brk ρ => exact h.elim
          | cnt ρ => exact h.elim
          | rz ρ c xs => exact fun σ1 cls d _ er => h cls d H1 js1 g1 rs1 er
    · exact h.elim
/-- the law's script -/
theorem script_rep {K : Kx} {H : Hp} {a : Addr} {ns : List Int} (hO : Only H) (hS : SqL K H a (ns.map V.int)) : RepV K H [] (.fz (ns.map .int)) (.ref a) := by
  refine .fz ?_ RepVs.ints
  rcases hS with (h | ⟨o, h⟩) | h
  · rcases hO a with z | ⟨o, xs, z⟩
    · rw [z] at h; cases h
    · rw [z] at h; cases h
  · exact .inl ⟨o, h, by simp⟩
  · exact .inr h
theorem law_sp {K : Kx} {H : Hp} {a : Addr} {ns : List Int} {k f : Nat} (hO : Only H) (hS : SqL K H a (ns.map V.int)) (h : ∃ S', callN sub tbl k f [.fz (ns.map .int)] [] = some (.ok (.bl true) S')) :
    spF K sub tbl k f [.ref a] H (fun v _ => v = .bl true) fun _ _ _ => False := by
  obtain ⟨S', e⟩ := h
  refine ⟨[], [], [.fz (ns.map .int)], ⟨rfl, List.nodup_nil, fun n a o e => by simp at e⟩, .cons (script_rep hO hS) .nil, ?_⟩
  rw [e]
  intro v H' js' _ _ r
  cases r
  rfl
end
/-- a def behind the top; x: the global name, y: its own -/
def FnAt (K : PySem.W.Frag) (x y : Str) (st : Stmt) (ps : List Str) : Prop := ∃ (a : Addr) (dat : FuncData), PySem.W.nsIn K mainGlobals x = some (some (.ref a)) ∧ Fun K y y st a dat ∧ ∀ us : List Value, us.length = ps.length → bindArgs dat ⟨us, []⟩ = pure (ps.zip us)
theorem fnAt_mk {K : PySem.W.Frag} {x y : Str} {st : Stmt} {ps : List Str} {a : Addr} {oc : Value} {od an : Option Addr} {osl : Array (Option Value)} {kV doc pm cdv ct : Value}
    (hb : ∀ (kV doc pm : Value) (an : Option Addr) (cdv ct : Value) (us : List Value), us.length = ps.length → bindArgs (PySem.W.fnOf y y (defArgs st) (defBody st) (defScope st) .none kV doc pm an cdv ct) ⟨us, []⟩ = pure (ps.zip us))
    (ha : PySem.W.nsIn K mainGlobals x = some (some (.ref a))) (hl : K.lookup a = some ⟨oc, od, .func (PySem.W.fnOf y y (defArgs st) (defBody st) (defScope st) .none kV doc pm an cdv ct), osl⟩)
    (hc : PySem.W.codeIn K cdv y = true) (hk : PySem.W.keepIn K (.ref a) = true) : FnAt K x y st ps :=
  ⟨a, _, ha, fun_mk hl hc hk, hb kV doc pm an cdv ct⟩
theorem FnAt.t {K : PySem.W.Frag} {x y : Str} {st : Stmt} {N ps : List Str} {mg : Str → Option Value} {h : Heap} {fs : List (Nat × Str)} {bs : List Str} {gs : List (Str × D)} {cs : List (Nat × Str)} {fd : Fd} (f : FnAt K x y st ps) (X : K.In h) (G : h.Ns mainGlobals mg)
    (S : FnScope N ps (defScope st)) (h1 : fd.np = ps.length) (h2 : fd.ns = N.length) (h3 : mCs ⟨N, defScope st, none, fs, bs, gs, cs⟩ fd.body (defBody st) = true) : FnT K mg fs bs gs cs x fd := by
  obtain ⟨a, dat, ha, F, hb⟩ := f
  exact ⟨a, dat, ps, ⟨y, st, N, F, PySem.W.mg_of X G ha, S, h1, h2, h3, .all hb⟩⟩
theorem tab_all {K : PySem.W.Frag} {mg : Str → Option Value} {fs : List (Nat × Str)} {bs : List Str} {gs : List (Str × D)} {cs : List (Nat × Str)} : ∀ ft : List (Nat × Str × Fd), (∀ p ∈ ft, FnT K mg fs bs gs cs p.2.1 p.2.2) →
    ∀ (f : Nat) (x : Str), (ft.map fun p => (p.1, p.2.1)).lookup f = some x → ∃ fd, (ft.map fun p => (p.1, p.2.2)).lookup f = some fd ∧ FnT K mg fs bs gs cs x fd
  | [], _, f, x, h => by cases h
  | p :: ft, hp, f, x, h => by
    rw [List.map_cons, List.lookup_cons] at h
    rw [List.map_cons, List.lookup_cons]
    by_cases e : (f == p.1) = true
    · simp only [e] at h ⊢
      cases h
      exact ⟨_, rfl, hp p List.mem_cons_self⟩
    · simp only [e] at h ⊢
      exact tab_all ft (fun q hq => hp q (List.mem_cons_of_mem _ hq)) f x h
/-- a class of exceptions behind the top -/
def ClsAt (K : PySem.W.Frag) (x : Str) : Prop := ∃ C : Addr, PySem.W.nsIn K mainGlobals x = some (some (.ref C)) ∧ PySem.W.keepIn K (.ref C) = true ∧ PySem.W.excIn K C veMro "ValueError.__new__" = true ∧ PySem.W.subIn K (.ref C) (.type "BaseException") = some true ∧ PySem.W.typeIn K (.ref C) = some (.type "type")
theorem clsAt_mk {K : PySem.W.Frag} {x : Str} {C : Addr} (h1 : PySem.W.nsIn K mainGlobals x = some (some (.ref C))) (h2 : PySem.W.keepIn K (.ref C) = true) (h3 : PySem.W.excIn K C veMro "ValueError.__new__" = true) (h4 : PySem.W.subIn K (.ref C) (.type "BaseException") = some true) (h5 : PySem.W.typeIn K (.ref C) = some (.type "type")) : ClsAt K x := ⟨C, h1, h2, h3, h4, h5⟩
def ExmAt (K : PySem.W.Frag) (x y : Str) (b : Bool) : Prop := ∃ C D : Addr, PySem.W.nsIn K mainGlobals x = some (some (.ref C)) ∧ PySem.W.nsIn K mainGlobals y = some (some (.ref D)) ∧ PySem.W.exmOne K (.ref C) (.ref D) = some b
theorem exmAt_mk {K : PySem.W.Frag} {x y : Str} {b : Bool} {C D : Addr} (h1 : PySem.W.nsIn K mainGlobals x = some (some (.ref C))) (h2 : PySem.W.nsIn K mainGlobals y = some (some (.ref D))) (h3 : PySem.W.exmOne K (.ref C) (.ref D) = some b) : ExmAt K x y b := ⟨C, D, h1, h2, h3⟩
/-- the addresses of the classes -/
def clOf (K : PySem.W.Frag) (cs : List (Nat × Str)) (c : Nat) : Option Addr := match cs.lookup c with
  | some x => match PySem.W.nsIn K mainGlobals x with
    | some (some (.ref a)) => some a
    | _ => none
  | none => none
theorem clOf_some {K : PySem.W.Frag} {cs : List (Nat × Str)} {c : Nat} {C : Addr} (h : clOf K cs c = some C) : ∃ x, cs.lookup c = some x ∧ PySem.W.nsIn K mainGlobals x = some (some (.ref C)) := by
  unfold clOf at h
  split at h
  · rename_i x e
    split at h
    · rename_i a e2
      cases h
      exact ⟨x, e, e2⟩
    · cases h
  · cases h
theorem cls_all {K : PySem.W.Frag} {mg : Str → Option Value} {h : Heap} {sub : Nat → Nat → Bool} (X : K.In h) (G : h.Ns mainGlobals mg) (cs : List (Nat × Str)) (hc : ∀ c x, cs.lookup c = some x → ClsAt K x)
    (hs : ∀ c x d y, cs.lookup c = some x → cs.lookup d = some y → ExmAt K x y (sub c d)) : ClsT K mg (clOf K cs) sub cs := by
  refine ⟨fun c x e => ?_, fun c h C Ch e1 e2 => ?_⟩
  · obtain ⟨C, q1, q2⟩ := hc c x e
    exact ⟨C, by unfold clOf; rw [e]; simp only [q1], PySem.W.mg_of X G q1, q2⟩
  · obtain ⟨x, a1, a2⟩ := clOf_some e1
    obtain ⟨y, b1, b2⟩ := clOf_some e2
    obtain ⟨C', D', q1, q2, q3⟩ := hs c x h y a1 b1
    rw [a2] at q1; cases q1
    rw [b2] at q2; cases q2
    exact q3
theorem lookup_cons_or {c : Nat} {p : Nat × Str} {cs : List (Nat × Str)} {x : Str} (h : (p :: cs).lookup c = some x) : (c = p.1 ∧ x = p.2) ∨ cs.lookup c = some x := by
  rw [List.lookup_cons] at h
  by_cases e : (c == p.1) = true
  · simp only [e] at h
    cases h
    exact .inl ⟨beq_iff_eq.mp e, rfl⟩
  · simp only [e] at h
    exact .inr h
theorem law_at {P : Program} {w : World} {K : PySem.W.Frag} {h : Heap} {mg : Str → Option Value} {fa : Addr} {st : Stmt} {N : List Str} {fd : Fd} {ft : List (Nat × Str × Fd)} {bs : List Str} {gs : List (Str × D)} {cs : List (Nat × Str)} {cl : Nat → Option Addr} {sub : Nat → Nat → Bool} (X : K.In h) (G : h.Ns mainGlobals mg) (hfa : mg "law" = some (.ref fa))
    (aL : FnAt K "law" "law" st ["script"]) (S : FnScope N ["script"] (defScope st)) (h1 : fd.np = 1) (h2 : fd.ns = N.length) (h3 : mCs ⟨N, defScope st, none, ft.map (fun p => (p.1, p.2.1)), bs, gs, cs⟩ fd.body (defBody st) = true)
    (hT : ∀ p ∈ ft, FnT K mg (ft.map fun p => (p.1, p.2.1)) bs gs cs p.2.1 p.2.2) (hb : ∀ x ∈ bs, mg x = none)
    (hg : ∀ x d, gsB gs x d = true → ∃ u v, mg x = some u ∧ RelV v u ∧ ∀ H js, RepV ⟨K, P, w, cl⟩ H js d v) (hC : ClsT K mg cl sub cs) (k f : Nat) (hf : (ft.map fun p => (p.1, p.2.2)).lookup f = some fd) :
    ∃ fd : FuncData, (∀ (s : Shared) (v : Value), BindsTo s fd ⟨[v], []⟩ [("script", v)]) ∧ ∀ base : Heap, FnOk P w K mg base (L2.CX P w) k fa fd ["script"] (spF ⟨K, P, w, cl⟩ sub (ft.map fun p => (p.1, p.2.2)) k f) := by
  obtain ⟨a, dat, ha, F, hbi⟩ := aL
  have hm := PySem.W.mg_of X G ha
  have e := hfa.symm.trans hm
  cases e
  exact ⟨dat, fun s v => .of_eq (hbi [v] rfl), fun base => fn_sound (P := P) (w := w) (base := base) (tab_all ft hT) hb hg hC k f "law" fd fa dat ["script"] hf ⟨"law", st, N, F, hm, S, h1, h2, h3, .all hbi⟩⟩
theorem flat_gs {K : Kx} {mg : Str → Option Value} {gs : List (Str × D)} (h : ∀ p ∈ gs, (∃ i t, p.2 = D.int i ∧ mg p.1 = some (.int i t)) ∨ ∃ x t, p.2 = D.str x ∧ mg p.1 = some (.str x t)) :
    ∀ x d, gsB gs x d = true → ∃ u v, mg x = some u ∧ RelV v u ∧ ∀ H js, RepV K H js d v := by
  intro x d hd
  unfold gsB at hd
  obtain ⟨p, hp, hq⟩ := List.any_eq_true.mp hd
  rw [Bool.and_eq_true, decide_eq_true_eq] at hq
  obtain ⟨e1, e2⟩ := hq
  subst e1
  rcases h p hp with ⟨i, t, e3, e4⟩ | ⟨z, t, e3, e4⟩
  · rw [e3] at e2
    cases d with
    | int j =>
      have e : i = j := of_decide_eq_true e2
      subst e
      exact ⟨_, .int i, e4, ⟨t, rfl⟩, fun _ _ => .int i⟩
    | _ => cases e2
  · rw [e3] at e2
    cases d with
    | str j =>
      have e : z = j := of_decide_eq_true e2
      subst e
      exact ⟨_, .str z, e4, ⟨t, rfl⟩, fun _ _ => .str z⟩
    | _ => cases e2
theorem walk {l : PySem.W.OpenLaw} {q : Program} {loose : List Str} {XP : (Str → Option Value) → Heap → Prop} {YP : World → Heap → Prop} {d : DefRec} {K : Params → PySem.W.Frag} {cs : List (Nat × Str)} {sub : Nat → Nat → Bool} {tbl : List (Nat × Fd)} {k f : Nat} (hn : l.most = some 63) (hdf : d.params.defaults = []) (hr : Room k callerA)
    (hY : ∀ (w : World) (h : Heap), YP w h → (K w.params).In h)
    (F : ∀ (w : World) (mg : Str → Option Value) (fa : Addr) (h : Heap), (K w.params).In h → h.Ns mainGlobals mg → mg d.name = some (.ref fa) →
      ∃ fd : FuncData, (∀ (s : Shared) (u : Value), BindsTo s fd ⟨[u], []⟩ [("script", u)]) ∧ ∀ base : Heap, FnOk l.prog w (K w.params) mg base (L2.CX l.prog w) k fa fd ["script"] (spF ⟨K w.params, l.prog, w, clOf (K w.params) cs⟩ sub tbl k f))
    (hL : ∀ ns : List Int, ns.length ≤ 63 → ∃ S', callN sub tbl k f [.fz (ns.map .int)] [] = some (.ok (.bl true) S')) :
    PySem.W.WalkO q loose XP YP l.row.toRowW d [] (fun f vs => PySem.call f vs) :=
  L2.walk_of (n := 63) (k := k) (x := "script") (CX := fun w => L2.CX l.prog w) (sp := fun w => spF ⟨K w.params, l.prog, w, clOf (K w.params) cs⟩ sub tbl k f) hn (by decide) hdf hr hY
    (fun w mg fa h X G hm => let ⟨fd, h1, h2⟩ := F w mg fa h X G hm; ⟨fd, h1, fun base _ _ => h2 base⟩) (fun w H a ns hl hO hS => law_sp hO hS (hL ns hl)) fun _ _ _ _ _ z => by
      obtain ⟨_, _, _, _, _, _, _, _, _, _, _, _, z⟩ := z
      exact z
end VM
/-! WP: a calculus for the small language. -/
namespace VM
open PySem
/-- what an exception may be -/
abbrev XQ := Nat → List (Str × D) → Sto → Prop
def NoX : XQ := fun _ _ _ => False
def WxM {α : Type} (E : XQ) (o : Out α) (Q : α → Sto → Prop) : Prop := match o with
  | some (.ok a S) => Q a S
  | some (.ex c xs S) => E c xs S
  | none => False
/-- (a structure, so that nothing looks into it unasked) -/
structure Wx {α : Type} (E : XQ) (o : Out α) (Q : α → Sto → Prop) : Prop where
  m : WxM E o Q
theorem wx_eq {α : Type} {E : XQ} {o : Out α} {Q : α → Sto → Prop} : Wx E o Q = WxM E o Q := propext ⟨fun h => h.m, fun h => ⟨h⟩⟩
/-- at a statement: what is raised goes on with the slots as they are -/
def rzQ (Q : Fl → Sto → Prop) (ρ : Rho) : XQ := fun c xs S => Q (.rz ρ c xs) S
section
variable {α β : Type} {Q R : α → Sto → Prop} {S : Sto} {X0 X1 : XQ}
theorem Wx.mono2 {o : Out α} (h : Wx X1 o Q) (q : ∀ a S, Q a S → R a S) (e : ∀ c xs S, X1 c xs S → X0 c xs S) : Wx X0 o R := by
  rw [wx_eq] at h ⊢
  unfold WxM at h ⊢
  split at h
  · exact q _ _ h
  · exact e _ _ _ h
  · exact h.elim
/-- of what raises nothing -/
theorem Wx.mono {o : Out α} (h : Wx NoX o Q) (q : ∀ a S, Q a S → R a S) : Wx X0 o R := h.mono2 q fun _ _ _ z => z.elim
theorem Wx.out {o : Out α} (h : Wx NoX o Q) : ∃ a S, o = some (.ok a S) ∧ Q a S := by
  rw [wx_eq] at h
  unfold WxM at h
  split at h
  · exact ⟨_, _, rfl, h⟩
  · exact h.elim
  · exact h.elim
theorem Wx.in {o : Out α} (h : ∃ a S, o = some (.ok a S) ∧ Q a S) : Wx X0 o Q := by
  obtain ⟨a, S, e, h⟩ := h
  rw [e]
  exact ⟨h⟩
theorem wp_bd {m : Out α} {f : α → Sto → Out β} {Q : β → Sto → Prop} : Wx X0 (bd m f) Q = Wx X0 m fun a S => Wx X0 (f a S) Q := by
  rw [wx_eq, wx_eq]
  simp only [wx_eq]
  cases m with
  | none => rfl
  | some r => cases r <;> rfl
theorem wp_nox {m : Out α} {Q : α → Sto → Prop} : Wx X0 (nox m) Q = Wx NoX m Q := by
  rw [wx_eq, wx_eq]
  cases m with
  | none => rfl
  | some r => cases r <;> rfl
theorem wp_bx {m : Out α} {ρ : Rho} {f : α → Sto → Out Fl} {Q : Fl → Sto → Prop} : Wx NoX (bx m ρ f) Q = Wx (rzQ Q ρ) m fun a S => Wx NoX (f a S) Q := by
  rw [wx_eq, wx_eq]
  simp only [wx_eq]
  cases m with
  | none => rfl
  | some r => cases r <;> rfl
theorem wp_ok {a : α} : Wx X0 (ok a S) Q = Q a S := wx_eq
theorem wp_some {a : α} : Wx X0 (some (.ok a S)) Q = Q a S := wx_eq
theorem wp_exc {c : Nat} {xs : List (Str × D)} : Wx X0 (some (.ex c xs S)) Q = X0 c xs S := wx_eq
theorem wp_none : Wx X0 (none : Out α) Q = False := wx_eq
theorem Wx.eq {o : Out α} {a : α} (h : Wx NoX o Q) (e : ∀ b S, Q b S → b = a) : ∃ S', o = some (.ok a S') := by
  obtain ⟨b, S', e1, h⟩ := h.out
  rw [e b S' h] at e1
  exact ⟨S', e1⟩
theorem wp_ite {c : Prop} [Decidable c] {x y : Out α} : Wx X0 (if c then x else y) Q = ((c → Wx X0 x Q) ∧ (¬ c → Wx X0 y Q)) := by
  apply propext
  by_cases h : c
  · rw [if_pos h]
    exact ⟨fun z => ⟨fun _ => z, fun n => absurd h n⟩, fun z => z.1 h⟩
  · rw [if_neg h]
    exact ⟨fun z => ⟨fun n => absurd n h, fun _ => z⟩, fun z => z.2 h⟩
end

/-! ### loops -/
/-- what the body's end means for a for; E: what may be raised out of it -/
def forQ (I : Rho → Sto → Prop) (Q : Fl → Sto → Prop) : Fl → Sto → Prop
  | .nx ρ, S => I ρ S
  | .cnt ρ, S => I ρ S
  | .brk ρ, S => Q (.nx ρ) S
  | .ret d, S => Q (.ret d) S
  | .rz ρ c xs, S => Q (.rz ρ c xs) S
/-- at the end of a walk over a locked dict -/
def lkQ (n : Nat) (Q : Fl → Sto → Prop) : Fl → Sto → Prop
  | .rz _ _ _, _ => False
  | f, S => Q f (unl (.lkd n []) S)
theorem wp_foldF {tg : Tg} {b : Rho → Sto → Out Fl} {Q : Rho ⊕ Fl → Sto → Prop} {Q' : Fl → Sto → Prop} (hq : ∀ ρ S, Q' (.nx ρ) S → Q (.inl ρ) S) (hq1 : ∀ ρ S, Q' (.nx ρ) S → Q (.inr (.nx ρ)) S) (hq2 : ∀ d S, Q' (.ret d) S → Q (.inr (.ret d)) S) (hq3 : ∀ ρ c xs S, Q' (.rz ρ c xs) S → Q (.inr (.rz ρ c xs)) S) : ∀ (ds : List D) (ρ : Rho) (S : Sto) (I : Nat → Rho → Sto → Prop) (h0 : I 0 ρ S)
    (hs : ∀ i d ρ S, ds[i]? = some d → I i ρ S → ∃ ρ1, bindT tg d ρ = some ρ1 ∧ Wx NoX (b ρ1 S) (forQ (I (i + 1)) Q'))
    (hd : ∀ ρ S, I ds.length ρ S → Q' (.nx ρ) S), Wx NoX (foldF (forStep tg b) ds ρ S) Q
  | [], ρ, S, I, h0, hs, hd => ⟨hq _ _ (hd ρ S h0)⟩
  | d :: ds, ρ, S, I, h0, hs, hd => by
    obtain ⟨ρ1, e1, h⟩ := hs 0 d ρ S rfl h0
    obtain ⟨f, S1, e2, h⟩ := h.out
    unfold foldF forStep
    rw [e1]
    simp only [e2, bd]
    have next : ∀ ρ2, I 1 ρ2 S1 → Wx NoX (foldF (forStep tg b) ds ρ2 S1) Q := fun ρ2 h => wp_foldF hq hq1 hq2 hq3 ds ρ2 S1 (fun i => I (i + 1)) h (fun i d ρ S e => hs (i + 1) d ρ S (by simpa using e)) (fun ρ S z => hd ρ S (by simpa using z))
    cases f with
    | nx ρ2 => exact next ρ2 h
    | cnt ρ2 => exact next ρ2 h
    | brk ρ2 => exact ⟨hq1 _ _ h⟩
    | ret d => exact ⟨hq2 _ _ h⟩
    | rz ρ2 c xs => exact ⟨hq3 _ _ _ _ h⟩
theorem wp_foldR {tg : Tg} {b : Rho → Sto → Out Fl} {Q : Rho ⊕ Fl → Sto → Prop} {Q' : Fl → Sto → Prop} (hq : ∀ ρ S, Q' (.nx ρ) S → Q (.inl ρ) S) (hq1 : ∀ ρ S, Q' (.nx ρ) S → Q (.inr (.nx ρ)) S) (hq2 : ∀ d S, Q' (.ret d) S → Q (.inr (.ret d)) S) (hq3 : ∀ ρ c xs S, Q' (.rz ρ c xs) S → Q (.inr (.rz ρ c xs)) S)
    {n : Nat} {w : Dm} {ds es : List D} (I : Nat → Rho → Sto → Prop) (hw : ∀ i ρ S, I i ρ S → dynAt w S ds i = some es[i]?)
    (hl : ∀ i ρ S, I i ρ S → S[n]? = some (.lst ds))
    (hs : ∀ i d ρ S, es[i]? = some d → I i ρ S → ∃ ρ1, bindT tg d ρ = some ρ1 ∧ Wx NoX (b ρ1 S) (forQ (I (i + 1)) Q'))
    (hd : ∀ ρ S, I es.length ρ S → Q' (.nx ρ) S) : ∀ (m i : Nat) (ρ : Rho) (S : Sto), i + m = es.length → I i ρ S → Wx NoX (foldR (forStep tg b) n w i ρ S) Q := by
  intro m
  induction m with
  | zero =>
    intro i ρ S hi h
    rw [foldR, hl i ρ S h]
    simp only
    rw [hw i ρ S h, List.getElem?_eq_none (by omega)]
    have e : i = es.length := by omega
    subst e
    exact ⟨hq _ _ (hd ρ S h)⟩
  | succ m ih =>
    intro i ρ S hi h
    have hi' : i < es.length := by omega
    obtain ⟨ρ1, e1, h2⟩ := hs i es[i] ρ S (List.getElem?_eq_getElem hi') h
    obtain ⟨f, S1, e2, h2⟩ := h2.out
    rw [foldR, hl i ρ S h]
    simp only
    rw [hw i ρ S h, List.getElem?_eq_getElem hi']
    unfold forStep
    simp only [e1, e2, bd]
    cases f with
    | nx ρ2 => exact ih (i + 1) ρ2 S1 (by omega) h2
    | cnt ρ2 => exact ih (i + 1) ρ2 S1 (by omega) h2
    | brk ρ2 => exact ⟨hq1 _ _ h2⟩
    | ret d => exact ⟨hq2 _ _ h2⟩
    | rz ρ2 c xs => exact ⟨hq3 _ _ _ _ h2⟩
/-- a for, its walk known -/
def forG (tg : Tg) (b : Rho → Sto → Out Fl) (it : It) (ρ : Rho) (S : Sto) : Out Fl := bd (foldI (forStep tg b) it ρ (lkI it S)) fun r S2 => forEnd it r S2
theorem wp_forF {tg : Tg} {b : Rho → Sto → Out Fl} {Q : Fl → Sto → Prop} {ds : List D} {ρ : Rho} {S : Sto} (I : Nat → Rho → Sto → Prop) (h0 : I 0 ρ S)
    (hs : ∀ i d ρ S, ds[i]? = some d → I i ρ S → ∃ ρ1, bindT tg d ρ = some ρ1 ∧ Wx NoX (b ρ1 S) (forQ (I (i + 1)) Q))
    (hd : ∀ ρ S, I ds.length ρ S → Q (.nx ρ) S) : Wx NoX (forG tg b (.fix ds) ρ S) Q := by
  unfold forG
  rw [wp_bd]
  exact wp_foldF (Q := fun a S => Wx NoX (forEnd (.fix ds) a S) Q) (Q' := Q) (fun _ _ z => ⟨z⟩) (fun _ _ z => ⟨z⟩) (fun _ _ z => ⟨z⟩) (fun _ _ _ _ z => ⟨z⟩) ds ρ S I h0 hs hd
theorem wp_forR {tg : Tg} {b : Rho → Sto → Out Fl} {Q : Fl → Sto → Prop} {n : Nat} {w : Dm} {ds es : List D} {ρ : Rho} {S : Sto} (I : Nat → Rho → Sto → Prop) (hw : ∀ i ρ S, I i ρ S → dynAt w S ds i = some es[i]?) (h0 : I 0 ρ S)
    (hl : ∀ i ρ S, I i ρ S → S[n]? = some (.lst ds))
    (hs : ∀ i d ρ S, es[i]? = some d → I i ρ S → ∃ ρ1, bindT tg d ρ = some ρ1 ∧ Wx NoX (b ρ1 S) (forQ (I (i + 1)) Q))
    (hd : ∀ ρ S, I es.length ρ S → Q (.nx ρ) S) : Wx NoX (forG tg b (.dyn n w) ρ S) Q := by
  unfold forG
  rw [wp_bd]
  exact wp_foldR (Q := fun a S => Wx NoX (forEnd (.dyn n w) a S) Q) (Q' := Q) (fun _ _ z => ⟨z⟩) (fun _ _ z => ⟨z⟩) (fun _ _ z => ⟨z⟩) (fun _ _ _ _ z => ⟨z⟩) I hw hl hs hd es.length 0 ρ S (by omega) h0
/-- over a dict: locked till the end -/
theorem wp_forK {tg : Tg} {b : Rho → Sto → Out Fl} {Q : Fl → Sto → Prop} {n : Nat} {o : O} {ds : List D} {ρ : Rho} {S : Sto} (hn : S[n]? = some o) (I : Nat → Rho → Sto → Prop) (h0 : I 0 ρ (S.set n (.lk o)))
    (hs : ∀ i d ρ S, ds[i]? = some d → I i ρ S → ∃ ρ1, bindT tg d ρ = some ρ1 ∧ Wx NoX (b ρ1 S) (forQ (I (i + 1)) (lkQ n Q)))
    (hd : ∀ ρ S, I ds.length ρ S → Q (.nx ρ) (unl (.lkd n []) S)) : Wx NoX (forG tg b (.lkd n ds) ρ S) Q := by
  unfold forG
  rw [wp_bd]
  have e : lkI (.lkd n ds) S = S.set n (.lk o) := by unfold lkI; simp only [hn]
  rw [e]
  exact wp_foldF (Q := fun a S => Wx NoX (forEnd (.lkd n ds) a S) Q) (Q' := lkQ n Q) (fun _ _ z => ⟨z⟩) (fun _ _ z => ⟨z⟩) (fun _ _ z => ⟨z⟩) (fun _ _ _ _ z => z.elim) ds ρ _ I h0 hs hd
theorem wp_while {c : Rho → Sto → Out Bool} {b : Rho → Sto → Out Fl} {Q : Fl → Sto → Prop} {ρ : Rho} {S : Sto} (I : Nat → Rho → Sto → Prop) (m : Nat) (h0 : I m ρ S)
    (hs : ∀ m ρ S, I m ρ S → Wx (rzQ Q ρ) (c ρ S) fun t S1 => if t = true then Wx NoX (b ρ S1) (forQ (fun ρ S => ∃ m', m' < m ∧ I m' ρ S) Q) else Q (.nx ρ) S1) : Wx NoX (whileL c b ρ S) Q := by
  have key : ∀ (m : Nat) (ρ : Rho) (S : Sto), I m ρ S → Wx NoX (whileL c b ρ S) Q := by
    intro m
    induction m using Nat.strongRecOn with
    | _ m ih =>
      intro ρ S h
      have h1 := hs m ρ S h
      rw [whileL]
      cases e1 : c ρ S with
      | none => rw [e1] at h1; exact h1.m.elim
      | some r =>
        rw [e1] at h1
        cases r with
        | ex x xs S1 => exact ⟨h1.m⟩
        | ok t S1 =>
          cases t with
          | false =>
            simp only [wp_some, Bool.false_eq_true, if_false] at h1
            exact ⟨h1⟩
          | true =>
            simp only [wp_some, if_true] at h1
            obtain ⟨f, S2, e2, h2⟩ := Wx.out h1
            simp only [e2]
            cases f with
            | nx ρ2 =>
              obtain ⟨m', hm, h3⟩ := h2
              exact ih m' hm ρ2 S2 h3
            | cnt ρ2 =>
              obtain ⟨m', hm, h3⟩ := h2
              exact ih m' hm ρ2 S2 h3
            | brk ρ2 => exact ⟨h2⟩
            | ret d => exact ⟨h2⟩
            | rz ρ2 x xs => exact ⟨h2⟩
  exact key m ρ S h0
/-- a comprehension's turn -/
def lcF (F : Orc) (elt : E) (tg : Tg) (c : T) (own : List Nat) (ρ : Rho) (d : D) (acc : List D) (S2 : Sto) : Out (List D ⊕ Empty) := match bindT tg d (wipeR ρ own) with
  | none => none
  | some ρ1 => bd (evT F c ρ1 S2) fun t S3 => match t with
    | true => bd (evE F elt ρ1 S3) fun y S4 => if acc.length < sizeLine then ok (.inl (acc ++ [y]) : List D ⊕ Empty) S4 else none
    | false => ok (.inl acc) S3
def lcEnd (r : List D ⊕ Empty) (S5 : Sto) : Out D := match r with
  | .inl acc => ok (.ref S5.length) (S5 ++ [.lst acc])
  | .inr e => nomatch e
def lcG (F : Orc) (elt : E) (tg : Tg) (c : T) (own : List Nat) (ρ : Rho) (i : It) (S1 : Sto) : Out D := match i with
  | .lkd _ _ => none
  | i => bd (nox (foldI (lcF F elt tg c own ρ) i [] S1)) lcEnd
theorem evE_lc {F : Orc} {elt : E} {tg : Tg} {it : I} {c : T} {own : List (Str × Nat)} {ρ : Rho} {S : Sto} :
    evE F (.lc elt tg it c own) ρ S = bd (evI F it ρ S) fun i S1 => lcG F elt tg c (own.map (·.2)) ρ i S1 := by
  unfold evE
  rfl
theorem wp_lcF0 {F : Orc} {elt : E} {tg : Tg} {c : T} {own : List Nat} {ρ : Rho} {Q : D → Sto → Prop} : ∀ (ds acc : List D) (S : Sto) (I : Nat → List D → Sto → Prop) (h0 : I 0 acc S)
    (hs : ∀ i d acc S, ds[i]? = some d → I i acc S → ∃ ρ1, bindT tg d (wipeR ρ own) = some ρ1 ∧ Wx NoX (evT F c ρ1 S) fun t S3 => if t = true then Wx NoX (evE F elt ρ1 S3) fun y S4 => acc.length < sizeLine ∧ I (i + 1) (acc ++ [y]) S4 else I (i + 1) acc S3)
    (hd : ∀ acc S, I ds.length acc S → Q (.ref S.length) (S ++ [.lst acc])), Wx NoX (foldF (lcF F elt tg c own ρ) ds acc S) fun r S5 => Wx NoX (lcEnd r S5) Q
  | [], acc, S, I, h0, hs, hd => ⟨⟨hd acc S h0⟩⟩
  | d :: ds, acc, S, I, h0, hs, hd => by
    obtain ⟨ρ1, e1, h⟩ := hs 0 d acc S rfl h0
    obtain ⟨t, S1, e2, h⟩ := h.out
    unfold foldF lcF
    rw [e1]
    simp only [e2, bd]
    cases t with
    | false =>
      simp only [Bool.false_eq_true, if_false] at h
      exact wp_lcF0 ds acc S1 (fun i => I (i + 1)) h (fun i d ρ S e => hs (i + 1) d ρ S (by simpa using e)) (fun ρ S z => hd ρ S (by simpa using z))
    | true =>
      simp only [if_true] at h
      obtain ⟨y, S2, e3, hz, h⟩ := Wx.out h
      have := wp_lcF0 ds (acc ++ [y]) S2 (fun i => I (i + 1)) h (fun i d ρ S e => hs (i + 1) d ρ S (by simpa using e)) (fun ρ S z => hd ρ S (by simpa using z))
      simp only [e3, if_pos hz]
      exact this
theorem wp_lcF {F : Orc} {elt : E} {tg : Tg} {c : T} {own : List Nat} {ρ : Rho} {ds : List D} {S : Sto} {Q : D → Sto → Prop} {X0 : XQ} (I : Nat → List D → Sto → Prop) (h0 : I 0 [] S)
    (hs : ∀ i d acc S, ds[i]? = some d → I i acc S → ∃ ρ1, bindT tg d (wipeR ρ own) = some ρ1 ∧ Wx NoX (evT F c ρ1 S) fun t S3 => if t = true then Wx NoX (evE F elt ρ1 S3) fun y S4 => acc.length < sizeLine ∧ I (i + 1) (acc ++ [y]) S4 else I (i + 1) acc S3)
    (hd : ∀ acc S, I ds.length acc S → Q (.ref S.length) (S ++ [.lst acc])) : Wx X0 (lcG F elt tg c own ρ (.fix ds) S) Q := by
  unfold lcG
  simp only
  rw [wp_bd, wp_nox]
  exact (wp_lcF0 ds [] S I h0 hs hd).mono fun r S5 h => Wx.mono h fun _ _ z => z
theorem wp_lcR {F : Orc} {elt : E} {tg : Tg} {c : T} {own : List Nat} {ρ : Rho} {n : Nat} {w : Dm} {ds es : List D} {S : Sto} {Q : D → Sto → Prop} {X0 : XQ} (hw : ∀ i S, dynAt w S ds i = some es[i]?) (I : Nat → List D → Sto → Prop) (h0 : I 0 [] S)
    (hl : ∀ i acc S, I i acc S → S[n]? = some (.lst ds))
    (hs : ∀ i d acc S, es[i]? = some d → I i acc S → ∃ ρ1, bindT tg d (wipeR ρ own) = some ρ1 ∧ Wx NoX (evT F c ρ1 S) fun t S3 => if t = true then Wx NoX (evE F elt ρ1 S3) fun y S4 => acc.length < sizeLine ∧ I (i + 1) (acc ++ [y]) S4 else I (i + 1) acc S3)
    (hd : ∀ acc S, I es.length acc S → Q (.ref S.length) (S ++ [.lst acc])) : Wx X0 (lcG F elt tg c own ρ (.dyn n w) S) Q := by
  have key : ∀ (m i : Nat) (acc : List D) (S : Sto), i + m = es.length → I i acc S → Wx NoX (foldR (lcF F elt tg c own ρ) n w i acc S) fun r S5 => Wx NoX (lcEnd r S5) Q := by
    intro m
    induction m with
    | zero =>
      intro i acc S hi h
      rw [foldR, hl i acc S h]
      simp only
      rw [hw, List.getElem?_eq_none (by omega)]
      have e : i = es.length := by omega
      subst e
      exact ⟨⟨hd acc S h⟩⟩
    | succ m ih =>
      intro i acc S hi h
      have hi' : i < es.length := by omega
      obtain ⟨ρ1, e1, h2⟩ := hs i es[i] acc S (List.getElem?_eq_getElem hi') h
      obtain ⟨t, S1, e2, h2⟩ := h2.out
      rw [foldR, hl i acc S h]
      simp only
      rw [hw, List.getElem?_eq_getElem hi']
      unfold lcF
      simp only [e1, e2, bd]
      cases t with
      | false =>
        simp only [Bool.false_eq_true, if_false] at h2
        exact ih (i + 1) acc S1 (by omega) h2
      | true =>
        simp only [if_true] at h2
        obtain ⟨y, S2, e3, hz, h3⟩ := Wx.out h2
        simp only [e3, if_pos hz]
        exact ih (i + 1) _ S2 (by omega) h3
  unfold lcG
  simp only
  rw [wp_bd, wp_nox]
  exact (key es.length 0 [] S (by omega) h0).mono fun r S5 h => Wx.mono h fun _ _ z => z
/-! ### calls -/
def retQ (Q : D → Sto → Prop) (X : XQ) : Fl → Sto → Prop
  | .ret d, S => Q d S
  | .nx _, S => Q .non S
  | .rz _ c xs, S => X c xs S
  | _, _ => False
theorem wx_call {sub : Nat → Nat → Bool} {tbl : List (Nat × Fd)} {k f : Nat} {ds : List D} {S : Sto} {Q : D → Sto → Prop} {X0 : XQ} {fd : Fd} (hf : tbl.lookup f = some fd) (hl : ds.length = fd.np)
    (h : Wx NoX (exCs ⟨callN sub tbl k, sub⟩ fd.body (ds.map some ++ List.replicate (fd.ns - fd.np) none) S) (retQ Q X0)) : Wx X0 (callN sub tbl (k + 1) f ds S) Q := by
  unfold callN
  rw [hf]
  simp only [if_pos hl]
  rw [wp_bd, wp_nox]
  refine h.mono fun r S1 q => ?_
  cases r with
  | ret d => exact ⟨q⟩
  | nx ρ => exact ⟨q⟩
  | rz ρ c xs => exact ⟨q⟩
  | brk ρ => exact q.elim
  | cnt ρ => exact q.elim
theorem wp_call {sub : Nat → Nat → Bool} {tbl : List (Nat × Fd)} {k f : Nat} {ds : List D} {S : Sto} {Q : D → Sto → Prop} {fd : Fd} (hf : tbl.lookup f = some fd) (hl : ds.length = fd.np)
    (h : Wx NoX (exCs ⟨callN sub tbl k, sub⟩ fd.body (ds.map some ++ List.replicate (fd.ns - fd.np) none) S) (retQ Q NoX)) : Wx NoX (callN sub tbl (k + 1) f ds S) Q := wx_call hf hl h

/-! ### statements, one at a time -/
section
variable {F : Orc} {ρ : Rho} {S : Sto} {Q : Fl → Sto → Prop}
def seqQ (F : Orc) (cs : Cs) (Q : Fl → Sto → Prop) : Fl → Sto → Prop
  | .nx ρ, S => Wx NoX (exCs F cs ρ S) Q
  | .brk ρ, S => Q (.brk ρ) S
  | .cnt ρ, S => Q (.cnt ρ) S
  | .ret d, S => Q (.ret d) S
  | .rz ρ c xs, S => Q (.rz ρ c xs) S
def ifQ (F : Orc) (a b : Cs) (ρ : Rho) (Q : Fl → Sto → Prop) : Bool → Sto → Prop
  | true, S => Wx NoX (exCs F a ρ S) Q
  | false, S => Wx NoX (exCs F b ρ S) Q
def tryQ (F : Orc) (hs : List (Nat × Su)) (Q : Fl → Sto → Prop) : Fl → Sto → Prop
  | .rz ρ c xs, S => Wx NoX (caught F hs ρ c xs S) Q
  | f, S => Q f S
theorem wp_cons {c : C} {cs : Cs} : Wx NoX (exCs F (.cons c cs) ρ S) Q = Wx NoX (exC F c ρ S) (seqQ F cs Q) := by
  conv => lhs; unfold exCs
  rw [wp_bd]
  congr 1
  funext f S1
  cases f <;> first | rfl | exact wp_ok
theorem wp_nil : Wx NoX (exCs F .nil ρ S) Q = Q (.nx ρ) S := wp_ok
theorem wp_ife {c : T} {a b : Cs} : Wx NoX (exC F (.ife c a b) ρ S) Q = Wx (rzQ Q ρ) (evT F c ρ S) (ifQ F a b ρ Q) := by
  conv => lhs; unfold exC
  rw [wp_bx]
  congr 1
  funext t S1
  cases t <;> rfl
theorem wp_set {i : Nat} {e : E} : Wx NoX (exC F (.set i e) ρ S) Q = Wx (rzQ Q ρ) (evE F e ρ S) fun d S1 => Q (.nx (ρ.set i (some d))) S1 := by
  conv => lhs; unfold exC
  rw [wp_bx]
  simp only [wp_ok]
theorem wp_asg {tg : Tg} {e : E} : Wx NoX (exC F (.asg tg e) ρ S) Q = Wx (rzQ Q ρ) (evE F e ρ S) fun d S1 => ∃ ρ1, bindT tg d ρ = some ρ1 ∧ Q (.nx ρ1) S1 := by
  conv => lhs; unfold exC
  rw [wp_bx]
  congr 1
  funext d S1
  cases e : bindT tg d ρ with
  | none => simp [wp_none]
  | some ρ1 => simp [wp_ok]
theorem wp_ex {e : E} : Wx NoX (exC F (.ex e) ρ S) Q = Wx (rzQ Q ρ) (evE F e ρ S) fun _ S1 => Q (.nx ρ) S1 := by
  conv => lhs; unfold exC
  rw [wp_bx]
  simp only [wp_ok]
theorem wp_ret {e : E} : Wx NoX (exC F (.ret e) ρ S) Q = Wx (rzQ Q ρ) (evE F e ρ S) fun d S1 => Q (.ret d) S1 := by
  conv => lhs; unfold exC
  rw [wp_bx]
  simp only [wp_ok]
theorem wp_retn : Wx NoX (exC F .retn ρ S) Q = Q (.ret .non) S := wp_ok
theorem wp_pass : Wx NoX (exC F .pass ρ S) Q = Q (.nx ρ) S := wp_ok
theorem wp_brk : Wx NoX (exC F .brk ρ S) Q = Q (.brk ρ) S := wp_ok
theorem wp_cnt : Wx NoX (exC F .cnt ρ S) Q = Q (.cnt ρ) S := wp_ok
theorem wp_rais {c : Nat} {m : Str} : Wx NoX (exC F (.rais c m) ρ S) Q = Q (.rz ρ c []) S := wp_ok
theorem wp_tryc {b : Cs} {hs : List (Nat × Su)} : Wx NoX (exC F (.tryc b hs) ρ S) Q = Wx NoX (exCs F b ρ S) (tryQ F hs Q) := by
  conv => lhs; unfold exC
  rw [wp_bd]
  congr 1
  funext f S1
  cases f <;> first | rfl | exact wp_ok
theorem wp_aug {i : Nat} {op : Op2} {e : E} : Wx NoX (exC F (.aug i op e) ρ S) Q = ∃ x, ρ[i]? = some (some x) ∧ Wx (rzQ Q ρ) (evE F e ρ S) fun y S1 => Wx NoX (augD op x y S1) fun z S2 => Q (.nx (ρ.set i (some z))) S2 := by
  conv => lhs; unfold exC
  cases e1 : ρ[i]? with
  | none => simp [wp_none]
  | some o =>
    cases o with
    | none => simp [wp_none]
    | some x => simp [wp_bx, wp_bd, wp_ok]
theorem wp_seti {o i e : E} : Wx NoX (exC F (.seti o i e) ρ S) Q = Wx (rzQ Q ρ) (evE F e ρ S) fun v S1 => Wx (rzQ Q ρ) (evE F o ρ S1) fun x S2 => Wx (rzQ Q ρ) (evE F i ρ S2) fun y S3 => ∃ S4, setiD x y v S3 = some S4 ∧ Q (.nx ρ) S4 := by
  conv => lhs; unfold exC
  simp only [wp_bx]
  congr 1
  funext v S1
  congr 1
  funext x S2
  congr 1
  funext y S3
  cases e1 : setiD x y v S3 with
  | none => simp [wp_none]
  | some S4 => simp [wp_ok]
theorem wp_augi {o i e : E} {op : Op2} : Wx NoX (exC F (.augi o i op e) ρ S) Q = Wx (rzQ Q ρ) (evE F o ρ S) fun x S1 => Wx (rzQ Q ρ) (evE F i ρ S1) fun y S2 => Wx NoX (idxRf x y S2) fun a S3 => Wx (rzQ Q ρ) (evE F e ρ S3) fun b S4 => Wx NoX (augD op a b S4) fun z S5 => ∃ S6, setiD x y z S5 = some S6 ∧ Q (.nx ρ) S6 := by
  conv => lhs; unfold exC
  simp only [wp_bx, wp_bd]
  congr 1
  funext x S1
  congr 1
  funext y S2
  congr 1
  funext a S3
  congr 1
  funext b S4
  congr 1
  funext z S5
  cases e1 : setiD x y z S5 with
  | none => simp [wp_none]
  | some S6 => simp [wp_ok]
theorem wp_whl {c : T} {b : Cs} : Wx NoX (exC F (.whl c b) ρ S) Q = Wx NoX (whileL (fun ρ S => evT F c ρ S) (fun ρ S => exCs F b ρ S) ρ S) Q := rfl
theorem wp_for {tg : Tg} {it : I} {b : Cs} : Wx NoX (exC F (.for_ tg it b) ρ S) Q = Wx (rzQ Q ρ) (evI F it ρ S) fun i S1 => Wx NoX (forG tg (fun ρ S => exCs F b ρ S) i ρ S1) Q := by
  conv => lhs; unfold exC
  rw [wp_bx]
  rfl
end
/-! ### tests, expressions -/
section
variable {F : Orc} {ρ : Rho} {S : Sto} {X0 : XQ}
def andQ (X0 : XQ) (F : Orc) (b : T) (ρ : Rho) (Q : Bool → Sto → Prop) : Bool → Sto → Prop
  | true, S => Wx X0 (evT F b ρ S) Q
  | false, S => Q false S
def orQ (X0 : XQ) (F : Orc) (b : T) (ρ : Rho) (Q : Bool → Sto → Prop) : Bool → Sto → Prop
  | true, S => Q true S
  | false, S => Wx X0 (evT F b ρ S) Q
def notQ (Q : Bool → Sto → Prop) : Bool → Sto → Prop := fun b S => Q (!b) S
def andE (X0 : XQ) (F : Orc) (b : E) (ρ : Rho) (Q : D → Sto → Prop) : D → Sto → Prop
  | .bl true, S => Wx X0 (evE F b ρ S) Q
  | .bl false, S => Q (.bl false) S
  | _, _ => False
def orE (X0 : XQ) (F : Orc) (b : E) (ρ : Rho) (Q : D → Sto → Prop) : D → Sto → Prop
  | .bl true, S => Q (.bl true) S
  | .bl false, S => Wx X0 (evE F b ρ S) Q
  | _, _ => False
def iteE (X0 : XQ) (F : Orc) (a b : E) (ρ : Rho) (Q : D → Sto → Prop) : Bool → Sto → Prop
  | true, S => Wx X0 (evE F a ρ S) Q
  | false, S => Wx X0 (evE F b ρ S) Q
def chT (X0 : XQ) (F : Orc) (op : Cm) (y : D) (c : E) (ρ : Rho) (Q : Bool → Sto → Prop) : Bool → Sto → Prop
  | true, S => Wx X0 (evE F c ρ S) fun z S3 => Wx X0 (liftB (copB op y z S3) S3) Q
  | false, S => Q false S
def chE (X0 : XQ) (F : Orc) (op : Cm) (y : D) (c : E) (ρ : Rho) (Q : D → Sto → Prop) : Bool → Sto → Prop
  | true, S => Wx X0 (evE F c ρ S) fun z S3 => Wx X0 (cop op y z S3) Q
  | false, S => Q (.bl false) S
theorem wt_and {a b : T} {Q : Bool → Sto → Prop} : Wx X0 (evT F (.and a b) ρ S) Q = Wx X0 (evT F a ρ S) (andQ X0 F b ρ Q) := by
  conv => lhs; unfold evT
  rw [wp_bd]
  congr 1
  funext t S1
  cases t
  · exact wp_ok
  · rfl
theorem wt_or {a b : T} {Q : Bool → Sto → Prop} : Wx X0 (evT F (.or a b) ρ S) Q = Wx X0 (evT F a ρ S) (orQ X0 F b ρ Q) := by
  conv => lhs; unfold evT
  rw [wp_bd]
  congr 1
  funext t S1
  cases t
  · rfl
  · exact wp_ok
theorem wt_one {a : T} {Q : Bool → Sto → Prop} : Wx X0 (evT F (.one a) ρ S) Q = Wx X0 (evT F a ρ S) Q := by
  conv => lhs; unfold evT
theorem wt_not {a : T} {Q : Bool → Sto → Prop} : Wx X0 (evT F (.not a) ρ S) Q = Wx X0 (evT F a ρ S) (notQ Q) := by
  conv => lhs; unfold evT
  rw [wp_bd]
  simp only [wp_ok]
  rfl
theorem wt_yes {Q : Bool → Sto → Prop} : Wx X0 (evT F .yes ρ S) Q = Q true S := by
  conv => lhs; unfold evT
  exact wp_ok
theorem wt_v {e : E} {Q : Bool → Sto → Prop} : Wx X0 (evT F (.v e) ρ S) Q = Wx X0 (evE F e ρ S) fun x S1 => ∃ b, tru x S1 = some b ∧ Q b S1 := by
  conv => lhs; unfold evT
  rw [wp_bd]
  congr 1
  funext x S1
  cases e : tru x S1 with
  | none => simp [liftB, wp_none]
  | some b => simp [liftB, wp_ok]
theorem wp_liftB {o : Option Bool} {Q : Bool → Sto → Prop} : Wx X0 (liftB o S) Q = ∃ b, o = some b ∧ Q b S := by
  cases o with
  | none => simp [liftB, wp_none]
  | some b => simp [liftB, wp_ok]
theorem wp_lift {o : Option Bool} {Q : D → Sto → Prop} : Wx X0 (lift o S) Q = ∃ b, o = some b ∧ Q (.bl b) S := by
  cases o with
  | none => simp [lift, wp_none]
  | some b => simp [lift, wp_ok]
theorem wp_cop {op : Cm} {x y : D} {Q : D → Sto → Prop} : Wx X0 (cop op x y S) Q = ∃ b, copB op x y S = some b ∧ Q (.bl b) S := wp_lift
theorem wt_cmp {op : Cm} {a b : E} {Q : Bool → Sto → Prop} : Wx X0 (evT F (.cmp op a b) ρ S) Q = Wx X0 (evE F a ρ S) fun x S1 => Wx X0 (evE F b ρ S1) fun y S2 => ∃ t, copB op x y S2 = some t ∧ Q t S2 := by
  conv => lhs; unfold evT
  simp only [wp_bd, wp_liftB]
theorem wt_chain {op op' : Cm} {a b c : E} {Q : Bool → Sto → Prop} : Wx X0 (evT F (.chain op op' a b c) ρ S) Q = Wx X0 (evE F a ρ S) fun x S1 => Wx X0 (evE F b ρ S1) fun y S2 => ∃ t, copB op x y S2 = some t ∧ chT X0 F op' y c ρ Q t S2 := by
  conv => lhs; unfold evT
  simp only [wp_bd]
  congr 1
  funext x S1
  congr 1
  funext y S2
  cases e : copB op x y S2 with
  | none => simp [wp_none]
  | some t => cases t <;> simp [wp_bd, wp_ok, chT]
section
variable {Q : D → Sto → Prop}
theorem we_cmp {op : Cm} {a b : E} : Wx X0 (evE F (.cmp op a b) ρ S) Q = Wx X0 (evE F a ρ S) fun x S1 => Wx X0 (evE F b ρ S1) fun y S2 => ∃ t, copB op x y S2 = some t ∧ Q (.bl t) S2 := by
  conv => lhs; unfold evE
  simp only [wp_bd, wp_cop]
theorem we_chain {op op' : Cm} {a b c : E} : Wx X0 (evE F (.chain op op' a b c) ρ S) Q = Wx X0 (evE F a ρ S) fun x S1 => Wx X0 (evE F b ρ S1) fun y S2 => ∃ t, copB op x y S2 = some t ∧ chE X0 F op' y c ρ Q t S2 := by
  conv => lhs; unfold evE
  simp only [wp_bd]
  congr 1
  funext x S1
  congr 1
  funext y S2
  cases e : copB op x y S2 with
  | none => simp [wp_none]
  | some t => cases t <;> simp [wp_bd, wp_ok, chE]
theorem we_and {a b : E} : Wx X0 (evE F (.and a b) ρ S) Q = Wx X0 (evE F a ρ S) (andE X0 F b ρ Q) := by
  conv => lhs; unfold evE
  rw [wp_bd]
  congr 1
  funext x S1
  cases x with
  | bl t => cases t <;> simp [wp_ok, andE]
  | _ => simp [wp_none, andE]
theorem we_or {a b : E} : Wx X0 (evE F (.or a b) ρ S) Q = Wx X0 (evE F a ρ S) (orE X0 F b ρ Q) := by
  conv => lhs; unfold evE
  rw [wp_bd]
  congr 1
  funext x S1
  cases x with
  | bl t => cases t <;> simp [wp_ok, orE]
  | _ => simp [wp_none, orE]
theorem we_one {a : E} : Wx X0 (evE F (.one a) ρ S) Q = Wx X0 (evE F a ρ S) Q := by
  conv => lhs; unfold evE
theorem we_ite {c : T} {a b : E} : Wx X0 (evE F (.ite c a b) ρ S) Q = Wx X0 (evT F c ρ S) (iteE X0 F a b ρ Q) := by
  conv => lhs; unfold evE
  rw [wp_bd]
  congr 1
  funext t S1
  cases t <;> rfl
theorem we_not {a : E} : Wx X0 (evE F (.not a) ρ S) Q = Wx X0 (evE F a ρ S) fun x S1 => ∃ b, x = .bl b ∧ Q (.bl (!b)) S1 := by
  conv => lhs; unfold evE
  rw [wp_bd]
  congr 1
  funext x S1
  cases x <;> simp [wp_none, wp_ok]
theorem we_neg {a : E} : Wx X0 (evE F (.neg a) ρ S) Q = Wx X0 (evE F a ρ S) fun x S1 => ∃ i, x = .int i ∧ Q (.int (-i)) S1 := by
  conv => lhs; unfold evE
  rw [wp_bd]
  congr 1
  funext x S1
  cases x <;> simp [wp_none, wp_ok]
theorem we_var {i : Nat} : Wx X0 (evE F (.var i) ρ S) Q = ∃ d, ρ[i]? = some (some d) ∧ Q d S := by
  conv => lhs; unfold evE
  cases ρ[i]? with
  | none => simp [wp_none]
  | some o => cases o <;> simp [wp_none, wp_ok]
theorem we_non : Wx X0 (evE F .non ρ S) Q = Q .non S := by
  conv => lhs; unfold evE
  exact wp_ok
theorem we_bl {b : Bool} : Wx X0 (evE F (.bl b) ρ S) Q = Q (.bl b) S := by
  conv => lhs; unfold evE
  exact wp_ok
theorem we_int {i : Int} : Wx X0 (evE F (.int i) ρ S) Q = Q (.int i) S := by
  conv => lhs; unfold evE
  exact wp_ok
theorem we_str {x : Str} : Wx X0 (evE F (.str x) ρ S) Q = Q (.str x) S := by
  conv => lhs; unfold evE
  exact wp_ok
theorem we_gc {x : Str} {d : D} : Wx X0 (evE F (.gc x d) ρ S) Q = Q d S := by
  conv => lhs; unfold evE
  exact wp_ok
theorem we_tup {es : Es} : Wx X0 (evE F (.tup es) ρ S) Q = Wx X0 (evEs F es ρ S) fun ds S1 => Q (.tup ds) S1 := by
  conv => lhs; unfold evE
  simp only [wp_bd, wp_ok]
theorem we_lst {es : Es} : Wx X0 (evE F (.lst es) ρ S) Q = Wx X0 (evEs F es ρ S) fun ds S1 => Q (.ref S1.length) (S1 ++ [.lst ds]) := by
  conv => lhs; unfold evE
  simp only [wp_bd, wp_ok]
theorem we_bin {op : Op2} {a b : E} : Wx X0 (evE F (.bin op a b) ρ S) Q = Wx X0 (evE F a ρ S) fun x S1 => Wx X0 (evE F b ρ S1) fun y S2 => Wx X0 (bop op x y S2) Q := by
  conv => lhs; unfold evE
  simp only [wp_bd]
theorem we_idx {a i : E} : Wx X0 (evE F (.idx a i) ρ S) Q = Wx X0 (evE F a ρ S) fun x S1 => Wx X0 (evE F i ρ S1) fun y S2 => Wx X0 (idxD x y S2) Q := by
  conv => lhs; unfold evE
  simp only [wp_bd]
theorem we_sl {a : E} {lo hi : P} : Wx X0 (evE F (.sl a lo hi) ρ S) Q = Wx X0 (evE F a ρ S) fun x S1 => Wx X0 (evP F lo ρ S1) fun l S2 => Wx X0 (evP F hi ρ S2) fun h S3 => Wx X0 (slD x l h S3) Q := by
  conv => lhs; unfold evE
  simp only [wp_bd]
theorem we_rev {a : E} : Wx X0 (evE F (.rev a) ρ S) Q = Wx X0 (evE F a ρ S) fun x S1 => Wx X0 (revD x S1) Q := by
  conv => lhs; unfold evE
  simp only [wp_bd]
theorem we_call {f : Nat} {es : Es} : Wx X0 (evE F (.call f es) ρ S) Q = Wx X0 (evEs F es ρ S) fun ds S1 => Wx X0 (F.call f ds S1) Q := by
  conv => lhs; unfold evE
  simp only [wp_bd]
theorem we_bi {b : Bi} {es : Es} : Wx X0 (evE F (.bi b es) ρ S) Q = Wx X0 (evEs F es ρ S) fun ds S1 => Wx X0 (biD b ds S1) Q := by
  conv => lhs; unfold evE
  simp only [wp_bd]
theorem we_bm {m : Bm} {o : E} {es : Es} : Wx X0 (evE F (.bm m o es) ρ S) Q = Wx X0 (evE F o ρ S) fun x S1 => bmTy m x S1 = true ∧ Wx X0 (evEs F es ρ S1) fun ds S2 => Wx X0 (bmD m x ds S2) Q := by
  conv => lhs; unfold evE
  rw [wp_bd]
  congr 1
  funext x S1
  cases bmTy m x S1 <;> simp [wp_none, wp_bd]
theorem we_isi {a : E} {t : Ty} : Wx X0 (evE F (.isi a t) ρ S) Q = Wx X0 (evE F a ρ S) fun x S1 => ∃ b, isiD t x S1 = some b ∧ Q (.bl b) S1 := by
  conv => lhs; unfold evE
  simp only [wp_bd, wp_lift]
theorem we_lrg {a : E} : Wx X0 (evE F (.lrg a) ρ S) Q = Wx X0 (evE F a ρ S) fun x S1 => ∃ j : Int, x = .int j ∧ (-(2 ^ 62) ≤ j ∧ j < 2 ^ 62 ∧ j.toNat ≤ 2 ^ 24) ∧ Q (.ref S1.length) (S1 ++ [.lst ((List.range j.toNat).map fun (k : Nat) => .int k)]) := by
  conv => lhs; unfold evE
  rw [wp_bd]
  congr 1
  funext x S1
  cases x <;> simp [wp_none, wp_ok]
  rename_i j
  by_cases h : -4611686018427387904 ≤ j ∧ j < 4611686018427387904 ∧ j ≤ 16777216
  · simp [h, wp_ok]
  · simp [h, wp_none]
theorem we_lc {elt : E} {tg : Tg} {it : I} {c : T} {own : List (Str × Nat)} : Wx X0 (evE F (.lc elt tg it c own) ρ S) Q = Wx X0 (evI F it ρ S) fun i S1 => Wx X0 (lcG F elt tg c (own.map (·.2)) ρ i S1) Q := by
  rw [evE_lc, wp_bd]
theorem wa_nil {Q : List D → Sto → Prop} : Wx X0 (evEs F .nil ρ S) Q = Q [] S := by
  conv => lhs; unfold evEs
  exact wp_ok
theorem wa_cons {e : E} {es : Es} {Q : List D → Sto → Prop} : Wx X0 (evEs F (.cons e es) ρ S) Q = Wx X0 (evE F e ρ S) fun d S1 => Wx X0 (evEs F es ρ S1) fun ds S2 => Q (d :: ds) S2 := by
  conv => lhs; unfold evEs
  simp only [wp_bd, wp_ok]
theorem wo_no {Q : Option Int → Sto → Prop} : Wx X0 (evP F .no ρ S) Q = Q none S := by
  conv => lhs; unfold evP
  exact wp_ok
theorem wo_e {e : E} {Q : Option Int → Sto → Prop} : Wx X0 (evP F (.e e) ρ S) Q = Wx X0 (evE F e ρ S) fun x S1 => ∃ i, x = .int i ∧ Q (some i) S1 := by
  conv => lhs; unfold evP
  rw [wp_bd]
  congr 1
  funext x S1
  cases x <;> simp [wp_none, wp_ok]
/-- a walk over what is not a list -/
def itI (S : Sto) (n : Nat) (ds : List D) : It := match S[n]? with
  | some (.lk _) => .fix ds
  | _ => .lkd n ds
theorem lockI_ {n : Nat} {ds : List D} {o : O} (h : S[n]? = some o) : lockI n ds S = ok (itI S n ds) S := by
  unfold lockI itI
  rw [h]
  cases o <;> rfl
/-- what a value is walked as -/
def enumI (x : D) (S : Sto) : Option It := match x with
  | .tup ds => some (.fix (enumL 0 ds))
  | .ref n => match S[n]? with
    | some (.lst _) => some (.dyn n .enum)
    | _ => none
  | _ => none
def zipI (x y : D) (S : Sto) : Option It := match x, y with
  | .tup ds, .ref n => match S[n]? with
    | some (.lst es) => some (.dyn n (.zip ds es.length))
    | _ => none
  | .ref m, .ref n => match S[m]?, S[n]? with
    | some (.lst _), some (.lst _) => some (.dyn m (.zip2 n))
    | _, _ => none
  | _, _ => none
def seqI (x : D) (S : Sto) : Option It := match x with
  | .tup ds => some (.fix ds)
  | .fz ds => some (.fix ds)
  | .str z => some (.fix (z.cps.toList.map fun c => .str ⟨#[c]⟩))
  | .ref n => match S[n]? with
    | some (.lst _) => some (.dyn n .plain)
    | some o => (match keysOf o.core with | some ds => some (itI S n ds) | none => none)
    | none => none
  | _ => none
theorem wi_seq {e : E} {Q : It → Sto → Prop} : Wx X0 (evI F (.seq e) ρ S) Q = Wx X0 (evE F e ρ S) fun x S1 => ∃ i, seqI x S1 = some i ∧ Q i S1 := by
  conv => lhs; unfold evI
  rw [wp_bd]
  congr 1
  funext x S1
  cases x <;> simp [wp_none, wp_ok, seqI]
  rename_i n
  cases e1 : S1[n]? with
  | none => simp [wp_none]
  | some o =>
    have k : ∀ ds, Wx X0 (lockI n ds S1) Q ↔ Q (itI S1 n ds) S1 := fun ds => by rw [lockI_ e1, wp_ok]
    cases o with
    | lst ds => simp [wp_ok]
    | dic kvs => cases e2 : keysOf (O.dic kvs).core <;> simp [wp_none, k, e2]
    | din kvs => cases e2 : keysOf (O.din kvs).core <;> simp [wp_none, k, e2]
    | ins c fs => cases e2 : keysOf (O.ins c fs).core <;> simp [wp_none, k, e2]
    | lk o => cases e2 : keysOf (O.lk o).core <;> simp [wp_none, k, e2]
theorem wi_items {a : E} {Q : It → Sto → Prop} : Wx X0 (evI F (.items a) ρ S) Q = Wx X0 (evE F a ρ S) fun x S1 => ∃ n, x = .ref n ∧ ∃ o, S1[n]? = some o ∧ ∃ ds, pairsOf o.core = some ds ∧ Q (itI S1 n ds) S1 := by
  conv => lhs; unfold evI
  rw [wp_bd]
  congr 1
  funext x S1
  cases x <;> simp [wp_none]
  rename_i n
  cases e1 : S1[n]? with
  | none => simp [wp_none]
  | some o =>
    cases e2 : pairsOf o.core with
    | none => simp [wp_none, e2]
    | some ds => simp [e2, lockI_ e1, wp_ok]
theorem wi_rng3 {a b c : E} {Q : It → Sto → Prop} : Wx X0 (evI F (.rng3 a b c) ρ S) Q = Wx X0 (evE F a ρ S) fun x S1 => Wx X0 (evE F b ρ S1) fun y S2 => Wx X0 (evE F c ρ S2) fun z S3 => ∃ i j k : Int, x = .int i ∧ y = .int j ∧ z = .int k ∧ (k ≠ 0 ∧ k.natAbs < 1073741824 ∧ Builtin.Range.small i j k = true ∧ 0 ≤ Builtin.Range.rangeSize i j k) ∧ Q (.fix ((List.range (Builtin.Range.rangeSize i j k).toNat).map fun (q : Nat) => .int (i + q * k))) S3 := by
  conv => lhs; unfold evI
  simp only [wp_bd]
  congr 1
  funext x S1
  congr 1
  funext y S2
  congr 1
  funext z S3
  cases x <;> cases y <;> cases z <;> simp [wp_none]
  rename_i i j k
  by_cases h : ¬k = 0 ∧ k.natAbs < 1073741824 ∧ Builtin.Range.small i j k = true ∧ 0 ≤ Builtin.Range.rangeSize i j k
  · simp [h, wp_ok]
  · simp [h, wp_none]
theorem wi_rng1 {a : E} {Q : It → Sto → Prop} : Wx X0 (evI F (.rng1 a) ρ S) Q = Wx X0 (evE F a ρ S) fun x S1 => ∃ j : Int, x = .int j ∧ (-(2 ^ 62) ≤ j ∧ j < 2 ^ 62) ∧ Q (.fix ((List.range j.toNat).map fun (k : Nat) => .int k)) S1 := by
  conv => lhs; unfold evI
  rw [wp_bd]
  congr 1
  funext x S1
  cases x <;> simp [wp_none, wp_ok]
  rename_i j
  by_cases h : -4611686018427387904 ≤ j ∧ j < 4611686018427387904
  · simp [h, wp_ok]
  · simp [h, wp_none]
theorem wi_rng2 {a b : E} {Q : It → Sto → Prop} : Wx X0 (evI F (.rng2 a b) ρ S) Q = Wx X0 (evE F a ρ S) fun x S1 => Wx X0 (evE F b ρ S1) fun y S2 => ∃ i j : Int, x = .int i ∧ y = .int j ∧ (-(2 ^ 62) ≤ i ∧ i < 2 ^ 62 ∧ -(2 ^ 62) ≤ j ∧ j < 2 ^ 62) ∧ Q (.fix ((List.range (j - i).toNat).map fun (k : Nat) => .int (i + k))) S2 := by
  conv => lhs; unfold evI
  simp only [wp_bd]
  congr 1
  funext x S1
  congr 1
  funext y S2
  cases x <;> cases y <;> simp [wp_none, wp_ok]
  rename_i i j
  by_cases h : -4611686018427387904 ≤ i ∧ i < 4611686018427387904 ∧ -4611686018427387904 ≤ j ∧ j < 4611686018427387904
  · simp [h, wp_ok]
  · simp [h, wp_none]
end
end
/-! ### operations -/
def optD (o : Option D) (S : Sto) : Out D := match o with
  | some d => ok d S
  | none => none
section
variable {X0 : XQ} {S : Sto} {i j : Int} {x y : Str} {α : Type} {Q : D → Sto → Prop} {n : Nat} {ds : List D}
theorem wp_optD {o : Option D} : Wx X0 (optD o S) Q = ∃ d, o = some d ∧ Q d S := by
  cases o with
  | none => simp [optD, wp_none]
  | some b => simp [optD, wp_ok]
theorem wp_ifn {c : Prop} [Decidable c] {β : Type} {o : Out β} {Q : β → Sto → Prop} : Wx X0 (if c then o else none) Q = (c ∧ Wx X0 o Q) := by
  by_cases h : c <;> simp [h, wp_none]
theorem eqD_int : eqD (.int i) (.int j) S = some (i == j) := rfl
theorem eqD_str : eqD (.str x) (.str y) S = some (x == y) := rfl
theorem eqD_bl {a b : Bool} : eqD (.bl a) (.bl b) S = some (a == b) := rfl
theorem copB_eq {a b : D} : copB .eq a b S = eqD a b S := rfl
theorem copB_ne {a b : D} : copB .ne a b S = (eqD a b S).map (!·) := rfl
theorem copB_lt : copB .lt (.int i) (.int j) S = some (decide (i < j)) := rfl
theorem copB_le : copB .le (.int i) (.int j) S = some (decide (i ≤ j)) := rfl
theorem copB_gt : copB .gt (.int i) (.int j) S = some (decide (j < i)) := rfl
theorem copB_ge : copB .ge (.int i) (.int j) S = some (decide (j ≤ i)) := rfl
def isNon : D → Bool
  | .non => true
  | _ => false
theorem copB_is {a : D} : copB .is a .non S = some (isNon a) := by cases a <;> rfl
theorem copB_isnot {a : D} : copB .isnot a .non S = some (!isNon a) := by cases a <;> rfl
theorem copB_in {a b : D} : copB .inn a b S = inD a b S := rfl
theorem copB_notin {a b : D} : copB .notin a b S = (inD a b S).map (!·) := rfl
/-- the dict at a place of the store, locked or not; one that is not locked -/
def dicAt (S : Sto) (n : Nat) : Option (List (L2.Key × D)) := match (S[n]?).map O.core with
  | some (.dic kvs) => some kvs
  | _ => none
def dinAt (S : Sto) (n : Nat) : Option (List (NestedKey × D × D)) := match (S[n]?).map O.core with
  | some (.din kvs) => some kvs
  | _ => none
def dicU (S : Sto) (n : Nat) : Option (List (L2.Key × D)) := match S[n]? with
  | some (.dic kvs) => some kvs
  | _ => none
def dinU (S : Sto) (n : Nat) : Option (List (NestedKey × D × D)) := match S[n]? with
  | some (.din kvs) => some kvs
  | _ => none
/-- the list at a place of the store -/
def lstAt (S : Sto) (n : Nat) : Option (List D) := match S[n]? with
  | some (.lst ds) => some ds
  | _ => none
theorem lstAt_some {S : Sto} {n : Nat} {ds : List D} (h : S[n]? = some (.lst ds)) : lstAt S n = some ds := by unfold lstAt; rw [h]
theorem wi_idx_ref : Wx X0 (idxD (.ref n) (.int i) S) Q = ∃ ds, lstAt S n = some ds ∧ ∃ d, L2.atI ds i = some d ∧ Q d S := by
  unfold idxD lstAt
  cases e : S[n]? with
  | none => simp [e, wp_none]
  | some o =>
    cases o with
    | lst ds => cases e3 : L2.atI ds i <;> simp [e, e3, wp_none, wp_ok]
    | _ => simp [e, wp_none]
theorem wi_idx_tup : Wx X0 (idxD (.tup ds) (.int i) S) Q = ∃ d, L2.atI ds i = some d ∧ Q d S := by
  unfold idxD
  cases e : L2.atI ds i <;> simp [e, wp_none, wp_ok]
theorem wi_idx_str : Wx X0 (idxD (.str x) (.int i) S) Q = (x.length ≤ sizeLine ∧ ∃ c, L2.atI x.cps.toList i = some c ∧ Q (.str ⟨#[c]⟩) S) := by
  unfold idxD
  by_cases h : x.length ≤ sizeLine
  · cases e : L2.atI x.cps.toList i <;> simp [h, e, wp_none, wp_ok]
  · simp [h, wp_none]
theorem ws_ref {lo hi : Option Int} : Wx X0 (slD (.ref n) lo hi S) Q = ∃ ds, lstAt S n = some ds ∧ Q (.ref S.length) (S ++ [.lst (cutL ds lo hi)]) := by
  unfold slD itemsOf lstAt
  cases e : S[n]? with
  | none => simp [e, wp_none]
  | some o => cases o <;> simp [e, wp_none, wp_ok]
theorem ws_tup {lo hi : Option Int} : Wx X0 (slD (.tup ds) lo hi S) Q = Q (.tup (cutL ds lo hi)) S := by
  unfold slD
  simp [wp_ok]
theorem ws_str {lo hi : Option Int} : Wx X0 (slD (.str x) lo hi S) Q = (x.length ≤ sizeLine ∧ Q (.str (L2.cutS x lo hi)) S) := by
  unfold slD
  by_cases h : x.length ≤ sizeLine <;> simp [h, wp_none, wp_ok]
theorem wr_ref : Wx X0 (revD (.ref n) S) Q = ∃ ds, lstAt S n = some ds ∧ Q (.ref S.length) (S ++ [.lst ds.reverse]) := by
  unfold revD itemsOf lstAt
  cases e : S[n]? with
  | none => simp [e, wp_none]
  | some o => cases o <;> simp [e, wp_none, wp_ok]
theorem wl_ref : Wx X0 (biD .len [.ref n] S) Q = match lstAt S n with
    | some ds => Q (.int ds.length) S
    | none => ∃ k, dicLen S (.ref n) = some k ∧ Q (.int k) S := by
  unfold biD lenD itemsOf lstAt
  cases e : S[n]? with
  | none => cases e2 : dicLen S (.ref n) <;> simp [e, e2, wp_none, wp_ok]
  | some o => cases o <;> simp [e, wp_none, wp_ok] <;> (first | done | (cases e2 : dicLen S (.ref n) <;> simp [e2, wp_none, wp_ok]))
theorem wl_tup : Wx X0 (biD .len [.tup ds] S) Q = Q (.int ds.length) S := by
  unfold biD lenD itemsOf
  simp [wp_ok]
theorem wl_fz : Wx X0 (biD .len [.fz ds] S) Q = Q (.int ds.length) S := by
  unfold biD lenD itemsOf
  simp [wp_ok]
theorem wl_str : Wx X0 (biD .len [.str x] S) Q = (x.length ≤ sizeLine ∧ Q (.int x.length) S) := by
  unfold biD lenD
  by_cases h : x.length ≤ sizeLine <;> simp [h, wp_none, wp_ok]
theorem wtup_ref : Wx X0 (biD .tuple [.ref n] S) Q = ∃ ds, lstAt S n = some ds ∧ Q (.tup ds) S := by
  unfold biD itemsOf lstAt
  cases e : S[n]? with
  | none => simp [e, wp_none]
  | some o => cases o <;> simp [e, wp_none, wp_ok]
theorem wtup_tup : Wx X0 (biD .tuple [.tup ds] S) Q = Q (.tup ds) S := by
  unfold biD
  simp [wp_ok]
theorem wlist_ref : Wx X0 (biD .list [.ref n] S) Q = match lstAt S n with
    | some ds => Q (.ref S.length) (S ++ [.lst ds])
    | none => ∃ kvs, dicAt S n = some kvs ∧ Q (.ref S.length) (S ++ [.lst (kvs.map fun kv => kD kv.1)]) := by
  unfold biD itemsOf dKeys lstAt dicAt
  cases e : S[n]? with
  | none => simp [e, wp_none]
  | some o =>
    cases o with
    | lst ds => simp [e, wp_ok]
    | dic kvs => simp [e, O.core, wp_ok]
    | din kvs => simp [e, O.core, wp_none]
    | ins c fs => simp [e, O.core, wp_none]
    | lk o => cases o <;> simp [e, O.core, wp_none, wp_ok]
theorem wmul_ref {i : Int} : Wx X0 (bop .mul (.ref n) (.int i) S) Q = ∃ xs, lstAt S n = some xs ∧ (0 ≤ i ∧ i ≤ 1000000 ∧ xs.length * i.toNat ≤ sizeLine) ∧ Q (.ref S.length) (S ++ [.lst (List.replicate i.toNat xs).flatten]) := by
  unfold bop lstAt
  simp only
  cases e : S[n]? with
  | none => simp [e, wp_none]
  | some o =>
    cases o with
    | lst ds =>
      simp only [Option.some.injEq, exists_eq_left']
      rw [wp_ifn, wp_ok]
    | _ => simp [e, wp_none]
theorem wlist_tup : Wx X0 (biD .list [.tup ds] S) Q = Q (.ref S.length) (S ++ [.lst ds]) := by
  unfold biD itemsOf
  simp [wp_ok]
theorem wapp {d : D} : Wx X0 (bmD .append (.ref n) [d] S) Q = ∃ ds, lstAt S n = some ds ∧ ds.length < sizeLine ∧ Q .non (S.set n (.lst (ds ++ [d]))) := by
  unfold bmD lstAt
  cases e : S[n]? with
  | none => simp [e, wp_none]
  | some o =>
    cases o with
    | lst ds => by_cases h : ds.length < sizeLine <;> simp [e, h, wp_none, wp_ok]
    | _ => simp [e, wp_none]
theorem bmTy_ref {m : Bm} : bmTy m (.ref n) S = true ↔ ∃ ds, lstAt S n = some ds := by
  unfold bmTy lstAt
  cases e : S[n]? with
  | none => simp [e]
  | some o => cases o <;> simp [e]
theorem wsub : Wx X0 (bop .sub (.int i) (.int j) S) Q = Q (.int (i - j)) S := wp_ok
theorem wadd : Wx X0 (bop .add (.int i) (.int j) S) Q = Q (.int (i + j)) S := wp_ok
theorem wmul : Wx X0 (bop .mul (.int i) (.int j) S) Q = (((-(2 ^ 64) < i ∧ i < 2 ^ 64) ∨ (-(2 ^ 64) < j ∧ j < 2 ^ 64) ∨ i.natAbs.log2 + j.natAbs.log2 < 1000000) ∧ Q (.int (i * j)) S) := by
  unfold bop
  simp only [wp_ifn, wp_ok]
theorem wfdiv : Wx X0 (bop .fdiv (.int i) (.int j) S) Q = ((0 < j ∧ j < 1073741824) ∧ Q (.int (i / j)) S) := by
  unfold bop
  simp only [wp_ifn, wp_ok]
theorem wmod : Wx X0 (bop .mod (.int i) (.int j) S) Q = (0 < j ∧ Q (.int (i % j)) S) := by
  unfold bop
  simp only [wp_ifn, wp_ok]
theorem wpow : Wx X0 (bop .pow (.int i) (.int j) S) Q = ((0 ≤ j ∧ j ≤ 1000000 ∧ i.natAbs < 2 ^ 64) ∧ Q (.int (i ^ j.toNat)) S) := by
  unfold bop
  simp only [wp_ifn, wp_ok]
theorem wadd_str : Wx X0 (bop .add (.str x) (.str y) S) Q = (x.length + y.length ≤ sizeLine ∧ Q (.str (x ++ y)) S) := by
  unfold bop
  simp only [wp_ifn, wp_ok]
theorem wadd_tup {es : List D} : Wx X0 (bop .add (.tup ds) (.tup es) S) Q = (ds.length + es.length ≤ sizeLine ∧ Q (.tup (ds ++ es)) S) := by
  unfold bop
  simp only [wp_ifn, wp_ok]
theorem wadd_ref {m : Nat} : Wx X0 (bop .add (.ref n) (.ref m) S) Q = ∃ xs, lstAt S n = some xs ∧ ∃ ys, lstAt S m = some ys ∧ xs.length + ys.length ≤ sizeLine ∧ Q (.ref S.length) (S ++ [.lst (xs ++ ys)]) := by
  unfold bop lstAt
  cases e : S[n]? with
  | none => simp [e, wp_none]
  | some o =>
    cases o with
    | lst xs =>
      cases e2 : S[m]? with
      | none => simp [e, e2, wp_none]
      | some o =>
        cases o with
        | lst ys => by_cases h : xs.length + ys.length ≤ sizeLine <;> simp [e, e2, h, wp_none, wp_ok]
        | _ => simp [e, e2, wp_none]
    | _ => simp [e, wp_none]
theorem wmul_str : Wx X0 (bop .mul (.str x) (.int i) S) Q = ((0 ≤ i ∧ i ≤ 1000 ∧ x.length ≤ 1000) ∧ Q (.str ⟨(List.replicate i.toNat x.cps.toList).flatten.toArray⟩) S) := by
  unfold bop
  simp only [wp_ifn, wp_ok]
theorem waug_add : Wx X0 (augD .add (.int i) (.int j) S) Q = Q (.int (i + j)) S := wp_ok
theorem waug_sub : Wx X0 (augD .sub (.int i) (.int j) S) Q = Q (.int (i - j)) S := wp_ok
theorem seti_ref {v : D} {S4 : Sto} : setiD (.ref n) (.int i) v S = some S4 ↔ ∃ ds, lstAt S n = some ds ∧ ∃ j, L2.ixN ds.length i = some j ∧ S.set n (.lst (ds.set j v)) = S4 := by
  unfold setiD lstAt
  cases e : S[n]? with
  | none => simp [e]
  | some o =>
    cases o with
    | lst ds => cases e2 : L2.ixN ds.length i <;> simp [e, e2]
    | _ => simp [e]
theorem seqI_tup : seqI (.tup ds) S = some (.fix ds) := rfl
theorem seqI_fz : seqI (.fz ds) S = some (.fix ds) := rfl
theorem seqI_str : seqI (.str x) S = some (.fix (x.cps.toList.map fun c => .str ⟨#[c]⟩)) := rfl
theorem seqI_ref : seqI (.ref n) S = match lstAt S n with
    | some _ => some (.dyn n .plain)
    | none => match dicAt S n with
      | some kvs => some (itI S n (kvs.map fun kv => kD kv.1))
      | none => none := by
  unfold seqI lstAt dicAt
  cases e : S[n]? with
  | none => simp [e]
  | some o =>
    cases o with
    | lk o => cases o <;> simp [e, O.core, keysOf]
    | _ => simp [e, O.core, keysOf]
theorem tru_bl {b : Bool} : tru (.bl b) S = some b := rfl
theorem tru_int : tru (.int i) S = some (i != 0) := rfl
theorem tru_non : tru .non S = some false := rfl
theorem atI_ofNat (xs : List α) (n : Nat) : L2.atI xs (no_index (OfNat.ofNat n) : Int) = xs[n]? := by
  unfold L2.atI L2.ixN
  have h0 : (0 : Int) ≤ (OfNat.ofNat n : Int) := Int.natCast_nonneg n
  rw [if_pos h0]
  by_cases h : (OfNat.ofNat n : Int) < (xs.length : Int)
  · rw [if_pos h]
    rfl
  · rw [if_neg h]
    have : xs.length ≤ n := by
      have h' : ¬ ((n : Int) < (xs.length : Int)) := h
      omega
    exact (List.getElem?_eq_none this).symm
theorem atI_cast (xs : List α) (n : Nat) : L2.atI xs (n : Int) = xs[n]? := atI_ofNat xs n
theorem ixN_ofNat (m n : Nat) : L2.ixN m (no_index (OfNat.ofNat n) : Int) = if n < m then some n else none := by
  unfold L2.ixN
  have h0 : (0 : Int) ≤ (OfNat.ofNat n : Int) := Int.natCast_nonneg n
  rw [if_pos h0]
  by_cases h : n < m
  · rw [if_pos h, if_pos (show ((OfNat.ofNat n : Int) < (m : Int)) from (show ((n : Int) < (m : Int)) by omega))]
    rfl
  · rw [if_neg h, if_neg (show ¬ ((OfNat.ofNat n : Int) < (m : Int)) from (show ¬ ((n : Int) < (m : Int)) by omega))]
end
section
variable {X0 : XQ} {F : Orc} {cs a b : Cs} {ρ : Rho} {S : Sto} {d : D}
theorem seqQ_nx {Q : Fl → Sto → Prop} : seqQ F cs Q (.nx ρ) S = Wx NoX (exCs F cs ρ S) Q := rfl
theorem seqQ_nil {Q : Fl → Sto → Prop} : seqQ F .nil Q (.nx ρ) S = Q (.nx ρ) S := wp_ok
theorem seqQ_brk {Q : Fl → Sto → Prop} : seqQ F cs Q (.brk ρ) S = Q (.brk ρ) S := rfl
theorem seqQ_cnt {Q : Fl → Sto → Prop} : seqQ F cs Q (.cnt ρ) S = Q (.cnt ρ) S := rfl
theorem seqQ_rz {c : Nat} {xs : List (Str × D)} {Q : Fl → Sto → Prop} : seqQ F cs Q (.rz ρ c xs) S = Q (.rz ρ c xs) S := rfl
theorem tryQ_rz {c : Nat} {xs : List (Str × D)} {hs : List (Nat × Su)} {Q : Fl → Sto → Prop} : tryQ F hs Q (.rz ρ c xs) S = Wx NoX (caught F hs ρ c xs S) Q := rfl
theorem tryQ_nx {hs : List (Nat × Su)} {Q : Fl → Sto → Prop} : tryQ F hs Q (.nx ρ) S = Q (.nx ρ) S := rfl
theorem tryQ_brk {hs : List (Nat × Su)} {Q : Fl → Sto → Prop} : tryQ F hs Q (.brk ρ) S = Q (.brk ρ) S := rfl
theorem tryQ_cnt {hs : List (Nat × Su)} {Q : Fl → Sto → Prop} : tryQ F hs Q (.cnt ρ) S = Q (.cnt ρ) S := rfl
theorem tryQ_ret {hs : List (Nat × Su)} {Q : Fl → Sto → Prop} : tryQ F hs Q (.ret d) S = Q (.ret d) S := rfl
theorem rzQ_ {c : Nat} {xs : List (Str × D)} {Q : Fl → Sto → Prop} : rzQ Q ρ c xs S = Q (.rz ρ c xs) S := rfl
theorem forQ_rz {c : Nat} {xs : List (Str × D)} {I : Rho → Sto → Prop} {Q : Fl → Sto → Prop} : forQ I Q (.rz ρ c xs) S = Q (.rz ρ c xs) S := rfl
theorem lkQ_nx {n : Nat} {Q : Fl → Sto → Prop} : lkQ n Q (.nx ρ) S = Q (.nx ρ) (unl (.lkd n []) S) := rfl
theorem lkQ_ret {n : Nat} {Q : Fl → Sto → Prop} : lkQ n Q (.ret d) S = Q (.ret d) (unl (.lkd n []) S) := rfl
theorem retQ_rz {c : Nat} {xs : List (Str × D)} {Q : D → Sto → Prop} {X : XQ} : retQ Q X (.rz ρ c xs) S = X c xs S := rfl
theorem seqQ_ret {Q : Fl → Sto → Prop} : seqQ F cs Q (.ret d) S = Q (.ret d) S := rfl
theorem ifQ_t {Q : Fl → Sto → Prop} : ifQ F a b ρ Q true S = Wx NoX (exCs F a ρ S) Q := rfl
theorem ifQ_f {Q : Fl → Sto → Prop} : ifQ F a b ρ Q false S = Wx NoX (exCs F b ρ S) Q := rfl
theorem retQ_ret {Q : D → Sto → Prop} {X : XQ} : retQ Q X (.ret d) S = Q d S := rfl
theorem retQ_nx {Q : D → Sto → Prop} {X : XQ} : retQ Q X (.nx ρ) S = Q .non S := rfl
theorem andQ_t {b : T} {Q : Bool → Sto → Prop} : andQ X0 F b ρ Q true S = Wx X0 (evT F b ρ S) Q := rfl
theorem andQ_f {b : T} {Q : Bool → Sto → Prop} : andQ X0 F b ρ Q false S = Q false S := rfl
theorem orQ_t {b : T} {Q : Bool → Sto → Prop} : orQ X0 F b ρ Q true S = Q true S := rfl
theorem orQ_f {b : T} {Q : Bool → Sto → Prop} : orQ X0 F b ρ Q false S = Wx X0 (evT F b ρ S) Q := rfl
theorem notQ_ {t : Bool} {Q : Bool → Sto → Prop} : notQ Q t S = Q (!t) S := rfl
theorem andE_t {b : E} {Q : D → Sto → Prop} : andE X0 F b ρ Q (.bl true) S = Wx X0 (evE F b ρ S) Q := rfl
theorem andE_f {b : E} {Q : D → Sto → Prop} : andE X0 F b ρ Q (.bl false) S = Q (.bl false) S := rfl
theorem orE_t {b : E} {Q : D → Sto → Prop} : orE X0 F b ρ Q (.bl true) S = Q (.bl true) S := rfl
theorem orE_f {b : E} {Q : D → Sto → Prop} : orE X0 F b ρ Q (.bl false) S = Wx X0 (evE F b ρ S) Q := rfl
theorem iteE_t {a b : E} {Q : D → Sto → Prop} : iteE X0 F a b ρ Q true S = Wx X0 (evE F a ρ S) Q := rfl
theorem iteE_f {a b : E} {Q : D → Sto → Prop} : iteE X0 F a b ρ Q false S = Wx X0 (evE F b ρ S) Q := rfl
theorem chT_t {op : Cm} {y : D} {c : E} {Q : Bool → Sto → Prop} : chT X0 F op y c ρ Q true S = Wx X0 (evE F c ρ S) fun z S3 => ∃ t, copB op y z S3 = some t ∧ Q t S3 := by
  unfold chT
  simp only [wp_liftB]
theorem chT_f {op : Cm} {y : D} {c : E} {Q : Bool → Sto → Prop} : chT X0 F op y c ρ Q false S = Q false S := rfl
theorem chE_t {op : Cm} {y : D} {c : E} {Q : D → Sto → Prop} : chE X0 F op y c ρ Q true S = Wx X0 (evE F c ρ S) fun z S3 => ∃ t, copB op y z S3 = some t ∧ Q (.bl t) S3 := by
  unfold chE
  simp only [wp_cop]
theorem chE_f {op : Cm} {y : D} {c : E} {Q : D → Sto → Prop} : chE X0 F op y c ρ Q false S = Q (.bl false) S := rfl
theorem forQ_nx {I : Rho → Sto → Prop} {Q : Fl → Sto → Prop} : forQ I Q (.nx ρ) S = I ρ S := rfl
theorem forQ_cnt {I : Rho → Sto → Prop} {Q : Fl → Sto → Prop} : forQ I Q (.cnt ρ) S = I ρ S := rfl
theorem forQ_brk {I : Rho → Sto → Prop} {Q : Fl → Sto → Prop} : forQ I Q (.brk ρ) S = Q (.nx ρ) S := rfl
theorem forQ_ret {I : Rho → Sto → Prop} {Q : Fl → Sto → Prop} : forQ I Q (.ret d) S = Q (.ret d) S := rfl
theorem isNon_non : isNon .non = true := rfl
theorem isNon_int {i : Int} : isNon (.int i) = false := rfl
theorem isNon_tup {ds : List D} : isNon (.tup ds) = false := rfl
theorem isNon_str {x : Str} : isNon (.str x) = false := rfl
theorem isNon_ref {n : Nat} : isNon (.ref n) = false := rfl
theorem bindT_nm {i : Nat} : bindT (.nm i) d ρ = some (ρ.set i (some d)) := rfl
theorem bindT_tp {is : List Nat} {ds : List D} : bindT (.tp is) (.tup ds) ρ = setMany is ds ρ := rfl
theorem setMany_nil : setMany [] [] ρ = some ρ := rfl
theorem setMany_cons {i : Nat} {is : List Nat} {ds : List D} : setMany (i :: is) (d :: ds) ρ = setMany is ds (ρ.set i (some d)) := rfl
end
/-! ### the store -/
section
variable {S T : Sto} {n m : Nat} {ds es : List D}
theorem lstAt_get : lstAt S n = some ds ↔ S[n]? = some (.lst ds) := by
  unfold lstAt
  cases e : S[n]? with
  | none => simp
  | some o => cases o <;> simp
theorem lstAt_lt (h : lstAt S n = some ds) : n < S.length := (List.getElem?_eq_some_iff.mp (lstAt_get.mp h)).1
theorem lstAt_set (h : n < S.length) : lstAt (S.set n (.lst ds)) n = some ds := by
  rw [lstAt_get, List.getElem?_set_self h]
theorem lstAt_set_ne (h : m ≠ n) (o : O) : lstAt (S.set n o) m = lstAt S m := by
  unfold lstAt
  rw [List.getElem?_set_ne (Ne.symm h)]
theorem lstAt_app (h : n < S.length) : lstAt (S ++ T) n = lstAt S n := by
  unfold lstAt
  rw [List.getElem?_append_left h]
theorem lstAt_new : lstAt (S ++ [.lst ds]) S.length = some ds := by
  rw [lstAt_get]
  simp
theorem lstAt_newE (h : n = S.length) : lstAt (S ++ [.lst ds]) n = some ds := by
  subst h
  exact lstAt_new
/-- all but one object as they were -/
structure Keep (b : Nat) (S S' : Sto) : Prop where
  len : S.length ≤ S'.length
  at_ : ∀ n : Nat, n < S.length → n ≠ b → S'[n]? = S[n]?
theorem Keep.refl (b : Nat) (S : Sto) : Keep b S S := ⟨Nat.le_refl _, fun _ _ _ => rfl⟩
theorem Keep.trans {b : Nat} {S1 S2 S3 : Sto} (h : Keep b S1 S2) (h' : Keep b S2 S3) : Keep b S1 S3 :=
  ⟨Nat.le_trans h.len h'.len, fun n hn nb => (h'.at_ n (Nat.lt_of_lt_of_le hn h.len) nb).trans (h.at_ n hn nb)⟩
theorem Keep.set (b : Nat) (S : Sto) (o : O) : Keep b S (S.set b o) := ⟨by simp, fun n _ nb => List.getElem?_set_ne (Ne.symm nb)⟩
theorem Keep.app (b : Nat) (S T : Sto) : Keep b S (S ++ T) := ⟨by simp, fun n hn _ => List.getElem?_append_left hn⟩
theorem Keep.lst {b : Nat} {S S' : Sto} (k : Keep b S S') (h : lstAt S n = some ds) (nb : n ≠ b) : lstAt S' n = some ds := by
  rw [lstAt_get] at h ⊢
  rw [k.at_ n (List.getElem?_eq_some_iff.mp h).1 nb]
  exact h
/-- all objects as they were -/
structure Ext (S S' : Sto) : Prop where
  len : S.length ≤ S'.length
  at_ : ∀ n : Nat, n < S.length → S'[n]? = S[n]?
theorem Ext.refl (S : Sto) : Ext S S := ⟨Nat.le_refl _, fun _ _ => rfl⟩
theorem Ext.trans {S1 S2 S3 : Sto} (h : Ext S1 S2) (h' : Ext S2 S3) : Ext S1 S3 :=
  ⟨Nat.le_trans h.len h'.len, fun n hn => (h'.at_ n (Nat.lt_of_lt_of_le hn h.len)).trans (h.at_ n hn)⟩
theorem Ext.app (S T : Sto) : Ext S (S ++ T) := ⟨by simp, fun n hn => List.getElem?_append_left hn⟩
theorem Ext.keep {S S' : Sto} (h : Ext S S') (b : Nat) : Keep b S S' := ⟨h.len, fun n hn _ => h.at_ n hn⟩
theorem Ext.lst {S S' : Sto} (k : Ext S S') (h : lstAt S n = some ds) : lstAt S' n = some ds := by
  rw [lstAt_get] at h ⊢
  rw [k.at_ n (List.getElem?_eq_some_iff.mp h).1]
  exact h
/-- a new object was changed -/
theorem Ext.set {S S' : Sto} (h : Ext S S') (hn : S.length ≤ n) (o : O) : Ext S (S'.set n o) :=
  ⟨by simpa using h.len, fun m hm => by rw [List.getElem?_set_ne (by omega)]; exact h.at_ m hm⟩
theorem Keep.setN {b : Nat} {S S' : Sto} (h : Keep b S S') (hn : S.length ≤ n) (o : O) : Keep b S (S'.set n o) :=
  ⟨by simpa using h.len, fun m hm nb => by rw [List.getElem?_set_ne (by omega)]; exact h.at_ m hm nb⟩
end
section
variable {X0 : XQ} {F : Orc} {ρ : Rho} {S : Sto} {t : Bool}
theorem ifQ_by {a b : Cs} {Q : Fl → Sto → Prop} (h1 : t = true → Wx NoX (exCs F a ρ S) Q) (h2 : t = false → Wx NoX (exCs F b ρ S) Q) : ifQ F a b ρ Q t S := by
  cases t with
  | true => exact h1 rfl
  | false => exact h2 rfl
theorem andQ_by {b : T} {Q : Bool → Sto → Prop} (h1 : t = true → Wx X0 (evT F b ρ S) Q) (h2 : t = false → Q false S) : andQ X0 F b ρ Q t S := by
  cases t with
  | true => exact h1 rfl
  | false => exact h2 rfl
theorem orQ_by {b : T} {Q : Bool → Sto → Prop} (h1 : t = true → Q true S) (h2 : t = false → Wx X0 (evT F b ρ S) Q) : orQ X0 F b ρ Q t S := by
  cases t with
  | true => exact h1 rfl
  | false => exact h2 rfl
theorem andE_by {b : E} {Q : D → Sto → Prop} (h1 : t = true → Wx X0 (evE F b ρ S) Q) (h2 : t = false → Q (.bl false) S) : andE X0 F b ρ Q (.bl t) S := by
  cases t with
  | true => exact h1 rfl
  | false => exact h2 rfl
theorem orE_by {b : E} {Q : D → Sto → Prop} (h1 : t = true → Q (.bl true) S) (h2 : t = false → Wx X0 (evE F b ρ S) Q) : orE X0 F b ρ Q (.bl t) S := by
  cases t with
  | true => exact h1 rfl
  | false => exact h2 rfl
theorem iteE_by {a b : E} {Q : D → Sto → Prop} (h1 : t = true → Wx X0 (evE F a ρ S) Q) (h2 : t = false → Wx X0 (evE F b ρ S) Q) : iteE X0 F a b ρ Q t S := by
  cases t with
  | true => exact h1 rfl
  | false => exact h2 rfl
theorem chT_by {op : Cm} {y : D} {c : E} {Q : Bool → Sto → Prop} (h1 : t = true → Wx X0 (evE F c ρ S) fun z S3 => ∃ t, copB op y z S3 = some t ∧ Q t S3) (h2 : t = false → Q false S) : chT X0 F op y c ρ Q t S := by
  cases t with
  | true => rw [chT_t]; exact h1 rfl
  | false => exact h2 rfl
end
theorem cut_from1 {α : Type} (x : α) (xs : List α) : cutL (x :: xs) (some 1) none = xs := by
  unfold cutL
  have e1 : HT.sIx (x :: xs).length 0 (some 1) = 1 := by
    show HT.sIx (x :: xs).length 0 (some ((1 : Nat) : Int)) = 1
    rw [HT.sIx_nat]
    simp
  rw [e1, HT.sIx_none]
  simp
theorem sIx_cast (n d k : Nat) : HT.sIx n d (some (k : Int)) = min k n := HT.sIx_nat n d k
theorem cut_to {α : Type} (xs : List α) (k : Nat) : cutL xs none (some (k : Int)) = xs.take k := by
  unfold cutL
  rw [HT.sIx_none, HT.sIx_nat, List.drop_zero, Nat.sub_zero]
  by_cases h : k ≤ xs.length
  · rw [Nat.min_eq_left h]
  · rw [Nat.min_eq_right (by omega), List.take_of_length_le (Nat.le_refl _), List.take_of_length_le (by omega)]
theorem cut_from {α : Type} (xs : List α) (k : Nat) : cutL xs (some (k : Int)) none = xs.drop k := by
  unfold cutL
  rw [HT.sIx_none, HT.sIx_nat]
  by_cases h : k ≤ xs.length
  · rw [Nat.min_eq_left h, List.take_of_length_le (by simp)]
  · rw [Nat.min_eq_right (by omega), List.drop_of_length_le (by omega), List.drop_of_length_le (by omega)]
    simp
theorem cut_fromL {α : Type} (xs : List α) (n : Nat) : cutL xs (some (no_index (OfNat.ofNat n) : Int)) none = xs.drop n := cut_from xs n
theorem cut_toL {α : Type} (xs : List α) (n : Nat) : cutL xs none (some (no_index (OfNat.ofNat n) : Int)) = xs.take n := cut_to xs n
/-! ### dicts with text keys and tuple keys, as the store has them -/
section
variable {X0 : XQ} {S T : Sto} {n m : Nat} {Q : D → Sto → Prop} {x : Str} {v : D} {kvs : List (L2.Key × D)} {kvt : List (NestedKey × D × D)} {ds : List D}
theorem dicU_get : dicU S n = some kvs ↔ S[n]? = some (.dic kvs) := by
  unfold dicU
  cases S[n]? with
  | none => simp
  | some o => cases o <;> simp
theorem dinU_get : dinU S n = some kvt ↔ S[n]? = some (.din kvt) := by
  unfold dinU
  cases S[n]? with
  | none => simp
  | some o => cases o <;> simp
theorem dicU_at (h : dicU S n = some kvs) : dicAt S n = some kvs := by
  unfold dicAt
  rw [dicU_get.mp h]
  rfl
theorem dinU_at (h : dinU S n = some kvt) : dinAt S n = some kvt := by
  unfold dinAt
  rw [dinU_get.mp h]
  rfl
theorem dicAt_lst (h : dicAt S n = some kvs) : lstAt S n = none := by
  unfold dicAt at h
  unfold lstAt
  cases e : S[n]? with
  | none => rfl
  | some o => cases o <;> first | rfl | (rw [e] at h; cases h)
theorem dinAt_lst (h : dinAt S n = some kvt) : lstAt S n = none := by
  unfold dinAt at h
  unfold lstAt
  cases e : S[n]? with
  | none => rfl
  | some o => cases o <;> first | rfl | (rw [e] at h; cases h)
theorem dicAt_isDic (h : dicAt S n = some kvs) : isDic S n = true := by
  unfold dicAt at h
  unfold isDic
  cases e : (S[n]?).map O.core with
  | none => rw [e] at h; cases h
  | some o => rw [e] at h; cases o <;> first | rfl | cases h
theorem dinAt_isDic (h : dinAt S n = some kvt) : isDic S n = true := by
  unfold dinAt at h
  unfold isDic
  cases e : (S[n]?).map O.core with
  | none => rw [e] at h; cases h
  | some o => rw [e] at h; cases o <;> first | rfl | cases h
theorem dicAt_len (h : dicAt S n = some kvs) : dicLen S (.ref n) = some kvs.length := by
  unfold dicAt at h
  unfold dicLen
  cases e : (S[n]?).map O.core with
  | none => rw [e] at h; cases h
  | some o => rw [e] at h; cases o <;> first | (cases h; simp only [e]) | cases h
theorem dinAt_len (h : dinAt S n = some kvt) : dicLen S (.ref n) = some kvt.length := by
  unfold dinAt at h
  unfold dicLen
  cases e : (S[n]?).map O.core with
  | none => rw [e] at h; cases h
  | some o => rw [e] at h; cases o <;> first | (cases h; simp only [e]) | cases h
theorem at_lt {f : O → Option Unit} (h : (S[n]?).bind f = some ()) : n < S.length := by
  cases e : S[n]? with
  | none => rw [e] at h; cases h
  | some o => exact (List.getElem?_eq_some_iff.mp e).1
theorem dicAt_lt (h : dicAt S n = some kvs) : n < S.length := by
  unfold dicAt at h
  cases e : S[n]? with
  | none => rw [e] at h; cases h
  | some o => exact (List.getElem?_eq_some_iff.mp e).1
theorem dinAt_lt (h : dinAt S n = some kvt) : n < S.length := by
  unfold dinAt at h
  cases e : S[n]? with
  | none => rw [e] at h; cases h
  | some o => exact (List.getElem?_eq_some_iff.mp e).1
theorem dicU_set (h : n < S.length) : dicU (S.set n (.dic kvs)) n = some kvs := by rw [dicU_get, List.getElem?_set_self h]
theorem dinU_set (h : n < S.length) : dinU (S.set n (.din kvt)) n = some kvt := by rw [dinU_get, List.getElem?_set_self h]
theorem dicU_set_ne (h : m ≠ n) (o : O) : dicU (S.set n o) m = dicU S m := by unfold dicU; rw [List.getElem?_set_ne (Ne.symm h)]
theorem dinU_set_ne (h : m ≠ n) (o : O) : dinU (S.set n o) m = dinU S m := by unfold dinU; rw [List.getElem?_set_ne (Ne.symm h)]
theorem dicU_app (h : n < S.length) : dicU (S ++ T) n = dicU S n := by unfold dicU; rw [List.getElem?_append_left h]
theorem dinU_app (h : n < S.length) : dinU (S ++ T) n = dinU S n := by unfold dinU; rw [List.getElem?_append_left h]
theorem dicU_newE (h : n = S.length) : dicU (S ++ [.dic kvs]) n = some kvs := by
  subst h
  rw [dicU_get, List.getElem?_append_right (Nat.le_refl _)]
  simp
theorem dinU_newE (h : n = S.length) : dinU (S ++ [.din kvt]) n = some kvt := by
  subst h
  rw [dinU_get, List.getElem?_append_right (Nat.le_refl _)]
  simp
theorem dicAt_set (h : n < S.length) : dicAt (S.set n (.dic kvs)) n = some kvs := dicU_at (dicU_set h)
theorem dinAt_set (h : n < S.length) : dinAt (S.set n (.din kvt)) n = some kvt := dinU_at (dinU_set h)
theorem dicAt_set_ne (h : m ≠ n) (o : O) : dicAt (S.set n o) m = dicAt S m := by unfold dicAt; rw [List.getElem?_set_ne (Ne.symm h)]
theorem dinAt_set_ne (h : m ≠ n) (o : O) : dinAt (S.set n o) m = dinAt S m := by unfold dinAt; rw [List.getElem?_set_ne (Ne.symm h)]
theorem dicAt_app (h : n < S.length) : dicAt (S ++ T) n = dicAt S n := by unfold dicAt; rw [List.getElem?_append_left h]
theorem dinAt_app (h : n < S.length) : dinAt (S ++ T) n = dinAt S n := by unfold dinAt; rw [List.getElem?_append_left h]
theorem dicAt_newE (h : n = S.length) : dicAt (S ++ [.dic kvs]) n = some kvs := dicU_at (dicU_newE h)
theorem dinAt_newE (h : n = S.length) : dinAt (S ++ [.din kvt]) n = some kvt := dinU_at (dinU_newE h)
theorem dgetD_str : dgetD S n (.str x) = (dicAt S n).map fun kvs => lkD kvs (.inr x) := by
  unfold dgetD dicAt
  cases (S[n]?).map O.core with
  | none => rfl
  | some o => cases o <;> rfl
theorem dgetD_tup : dgetD S n (.tup ds) = (dinAt S n).bind fun kvs => (nkD 8 (.tup ds)).map (lkN kvs) := by
  unfold dgetD dinAt
  cases (S[n]?).map O.core with
  | none => rfl
  | some o => cases o <;> rfl
theorem wd_str : Wx X0 (idxD (.ref n) (.str x) S) Q = ∃ kvs, dicAt S n = some kvs ∧ ∃ d, lkD kvs (.inr x) = some d ∧ Q d S := by
  unfold idxD
  simp only [dgetD_str]
  cases dicAt S n with
  | none => simp [wp_none]
  | some kvs => cases e : lkD kvs (.inr x) <;> simp [e, wp_none, wp_ok]
theorem setd_str {S4 : Sto} : setiD (.ref n) (.str x) v S = some S4 ↔ ∃ kvs, dicU S n = some kvs ∧ kvs.length < sizeLine ∧ S.set n (.dic (putD kvs (.inr x) v)) = S4 := by
  unfold setiD dputD dicU
  cases e : S[n]? with
  | none => simp [e]
  | some o => cases o <;> simp [keyD, tkD, e]
theorem setd_tup {S4 : Sto} : setiD (.ref n) (.tup ds) v S = some S4 ↔ ∃ kvs, dinU S n = some kvs ∧ ∃ k, nkD 8 (.tup ds) = some k ∧ kvs.length < sizeLine ∧ S.set n (.din (putN kvs k (.tup ds) v)) = S4 := by
  unfold setiD dputD dinU
  cases e0 : S[n]? with
  | none => simp [e0]
  | some o =>
    cases o with
    | din kvs => cases e : nkD 8 (.tup ds) <;> simp [tkD, e, e0]
    | _ => simp [keyD, e0]
/-- x in a dict of text keys -/
theorem in_dic (h : dicAt S n = some kvs) : inD (.str x) (.ref n) S = some (lkD kvs (.inr x)).isSome := by
  have hl := dicAt_lst h
  have e : inD (.str x) (.ref n) S = (dgetD S n (.str x)).map Option.isSome := by
    unfold lstAt at hl
    cases e1 : S[n]? with
    | none => simp only [inD, e1]
    | some o =>
      rw [e1] at hl
      cases o <;> first | (simp only [inD, e1]; done) | cases hl
  rw [e, dgetD_str, h]
  rfl
/-- a place in a list, a tuple, of texts -/
theorem in_lst {ks : List D} (h : lstAt S n = some ks) {a : D} : inD a (.ref n) S = (match toP S 150 a, mapO (toP S 149) ks with
      | some a, some bs => some (bs.any fun b => PyData.eqv b a)
      | _, _ => none) := by
  have h' := lstAt_get.mp h
  cases a <;> (unfold inD; simp only [h']; try rfl)
/-- the ends of a walk -/
theorem itI_U (h : dicU S n = some kvs) : itI S n ds = .lkd n ds := by
  unfold itI
  rw [dicU_get.mp h]
end
section
variable {X0 : XQ} {F : Orc} {ρ : Rho} {S : Sto} {Q : D → Sto → Prop}
theorem we_dnk : Wx X0 (evE F .dnk ρ S) Q = Q (.ref S.length) (S ++ [.dic []]) := by rw [evE]; exact wp_ok
theorem we_dnt : Wx X0 (evE F .dnt ρ S) Q = Q (.ref S.length) (S ++ [.din []]) := by rw [evE]; exact wp_ok
theorem we_disp {ks : List Str} {es : Es} : Wx X0 (evE F (.disp ks es) ρ S) Q = Wx X0 (evEs F es ρ S) fun ds S1 => ds.length = ks.length ∧ Q (.ref S1.length) (S1 ++ [.dic (disD ks ds)]) := by
  rw [evE, wp_bd]
  congr 1
  funext ds S1
  rw [wp_ifn, wp_ok]
theorem we_sm {m : Sm} {a : E} : Wx X0 (evE F (.sm m a) ρ S) Q = Wx X0 (evE F a ρ S) fun x S1 => Wx X0 (smD m x S1) Q := by rw [evE, wp_bd]
theorem ws_lower {z : Str} : Wx X0 (smD .lower (.str z) S) Q = (z.length ≤ 5592405 ∧ Q (.str (Txt.lower z)) S) := by unfold smD; simp only [wp_ifn, wp_ok]
theorem ws_upper {z : Str} : Wx X0 (smD .upper (.str z) S) Q = (z.length ≤ 5592405 ∧ Q (.str (Txt.upper z)) S) := by unfold smD; simp only [wp_ifn, wp_ok]
theorem we_strip1 {a b : E} : Wx X0 (evE F (.strip1 a b) ρ S) Q = Wx X0 (evE F a ρ S) fun x S1 => ∃ z, x = .str z ∧ Wx X0 (evE F b ρ S1) fun y S2 => Wx X0 (stripD (.str z) y S2) Q := by
  rw [evE, wp_bd]
  congr 1
  funext x S1
  cases x <;> simp [wp_none, wp_bd]
theorem ws_strip {a b : Str} : Wx X0 (stripD (.str a) (.str b) S) Q = (a.length ≤ sizeLine ∧ Q (.str (Txt.stripChars a b)) S) := by unfold stripD; simp only [wp_ifn, wp_ok]
theorem wi_enum {a : E} {Q : It → Sto → Prop} : Wx X0 (evI F (.enum a) ρ S) Q = Wx X0 (evE F a ρ S) fun x S1 => ∃ i, enumI x S1 = some i ∧ Q i S1 := by
  rw [evI, wp_bd]
  congr 1
  funext x S1
  unfold enumI
  cases x with
  | ref n =>
    cases e : S1[n]? with
    | none => simp [wp_none, e]
    | some o => cases o <;> simp [wp_none, wp_ok, e]
  | _ => simp [wp_none, wp_ok]
theorem wi_zip {a b : E} {Q : It → Sto → Prop} : Wx X0 (evI F (.zip a b) ρ S) Q = Wx X0 (evE F a ρ S) fun x S1 => Wx X0 (evE F b ρ S1) fun y S2 => ∃ i, zipI x y S2 = some i ∧ Q i S2 := by
  rw [evI, wp_bd]
  congr 1
  funext x S1
  rw [wp_bd]
  congr 1
  funext y S2
  unfold zipI
  cases x with
  | tup ds =>
    cases y with
    | ref n =>
      cases e : S2[n]? with
      | none => simp [wp_none, e]
      | some o => cases o <;> simp [wp_none, wp_ok, e]
    | _ => simp [wp_none]
  | ref m =>
    cases y with
    | ref n =>
      simp only
      cases e1 : S2[m]? with
      | none => simp [wp_none]
      | some o1 =>
        cases e : S2[n]? with
        | none => cases o1 <;> simp [wp_none]
        | some o => cases o1 <;> cases o <;> simp [wp_none, wp_ok]
    | _ => simp [wp_none]
  | _ => simp [wp_none]
theorem enumI_tup {ds : List D} : enumI (.tup ds) S = some (.fix (enumL 0 ds)) := rfl
theorem enumI_ref {n : Nat} {i : It} : enumI (.ref n) S = some i ↔ ∃ ds, lstAt S n = some ds ∧ i = .dyn n .enum := by
  unfold enumI lstAt
  cases e : S[n]? with
  | none => simp [e]
  | some o => cases o <;> simp [eq_comm, e]
theorem zipI_tr {ds : List D} {n : Nat} {i : It} : zipI (.tup ds) (.ref n) S = some i ↔ ∃ es, lstAt S n = some es ∧ i = .dyn n (.zip ds es.length) := by
  unfold zipI lstAt
  cases e : S[n]? with
  | none => simp [e]
  | some o => cases o <;> simp [eq_comm, e]
theorem zipI_rr {m n : Nat} {i : It} : zipI (.ref m) (.ref n) S = some i ↔ ∃ ds es, lstAt S m = some ds ∧ lstAt S n = some es ∧ i = .dyn m (.zip2 n) := by
  unfold zipI lstAt
  cases e : S[m]? with
  | none => simp [e]
  | some o =>
    cases e2 : S[n]? with
    | none => cases o <;> simp [e, e2]
    | some o2 => cases o <;> cases o2 <;> simp [e, e2, eq_comm]
theorem wrev_tup {ds : List D} : Wx X0 (revD (.tup ds) S) Q = Q (.tup ds.reverse) S := by unfold revD; exact wp_ok
theorem wmul_tup {ds : List D} {i : Int} : Wx X0 (bop .mul (.tup ds) (.int i) S) Q = ((ds ≠ [] ∧ 2 ≤ i ∧ i ≤ 1000 ∧ ds.length ≤ 1000) ∧ Q (.tup (List.replicate i.toNat ds).flatten) S) := by
  unfold bop
  simp only [wp_ifn, wp_ok]
theorem wins {n : Nat} {i : Int} {d : D} : Wx X0 (bmD .insert (.ref n) [.int i, d] S) Q = ∃ ds, lstAt S n = some ds ∧ (ds.length < sizeLine ∧ 0 ≤ i ∧ i < 2 ^ 63) ∧ Q .non (S.set n (.lst (ds.take i.toNat ++ d :: ds.drop i.toNat))) := by
  unfold bmD lstAt
  simp only
  cases S[n]? with
  | none => simp [wp_none]
  | some o =>
    cases o with
    | lst ds => simp [wp_ifn, wp_ok]
    | _ => simp [wp_none]
end
section
variable {X0 : XQ} {F : Orc} {ρ : Rho} {S : Sto} {Q : D → Sto → Prop}
theorem we_maxd {e d : E} : Wx X0 (evE F (.maxd e d) ρ S) Q = Wx X0 (evE F e ρ S) fun x S1 => Wx X0 (evE F d ρ S1) fun y S2 => ∃ ns, (listOf S2 x).bind intsD = some ns ∧ ∃ j : Int, y = .int j ∧ Q (.int (ns.max?.getD j)) S2 := by
  rw [evE, wp_bd]
  congr 1
  funext x S1
  rw [wp_bd]
  congr 1
  funext y S2
  cases e : (listOf S2 x).bind intsD with
  | none => simp [wp_none]
  | some ns => cases y <;> simp [wp_none, wp_ok]
theorem we_slst {a lo st : E} : Wx X0 (evE F (.slst a lo st) ρ S) Q = Wx X0 (evE F a ρ S) fun x S1 => Wx X0 (evE F lo ρ S1) fun l S2 => Wx X0 (evE F st ρ S2) fun s S3 => ∃ i j : Int, l = .int i ∧ s = .int j ∧ Wx X0 (sstD x i j S3) Q := by
  rw [evE, wp_bd]
  congr 1
  funext x S1
  rw [wp_bd]
  congr 1
  funext y S2
  rw [wp_bd]
  congr 1
  funext z S3
  cases y <;> cases z <;> simp [wp_none]
theorem wsst {n : Nat} {i j : Int} : Wx X0 (sstD (.ref n) i j S) Q = ∃ ds, lstAt S n = some ds ∧ (j ≠ 0 ∧ (pickL ds i j).length ≤ sizeLine) ∧ Q (.ref S.length) (S ++ [.lst (pickL ds i j)]) := by
  unfold sstD itemsOf lstAt
  cases e : S[n]? with
  | none => simp [e, wp_none]
  | some o => cases o <;> simp [e, wp_none, wp_ifn, wp_ok]
theorem wsst_fz {ds : List D} {i j : Int} : Wx X0 (sstD (.fz ds) i j S) Q = ((j ≠ 0 ∧ (pickL ds i j).length ≤ sizeLine) ∧ Q (.ref S.length) (S ++ [.lst (pickL ds i j)])) := by
  unfold sstD itemsOf
  simp only [wp_ifn, wp_ok]
theorem we_pop0 {o : E} : Wx X0 (evE F (.pop0 o) ρ S) Q = Wx X0 (evE F o ρ S) fun x S1 => Wx X0 (popD x S1) Q := by rw [evE, wp_bd]
theorem wpop {n : Nat} : Wx X0 (popD (.ref n) S) Q = ∃ xs, lstAt S n = some xs ∧ ∃ y, xs[xs.length - 1]? = some y ∧ Q y (S.set n (.lst xs.dropLast)) := by
  unfold popD lstAt
  cases e : S[n]? with
  | none => simp [e, wp_none]
  | some o =>
    cases o with
    | lst xs => cases e2 : xs[xs.length - 1]? <;> simp [e, e2, wp_none, wp_ok]
    | _ => simp [e, wp_none]
theorem wext {n m : Nat} : Wx X0 (bmD .extend (.ref n) [.ref m] S) Q = ∃ xs, lstAt S n = some xs ∧ ∃ ys, lstAt S m = some ys ∧ xs.length + ys.length ≤ sizeLine ∧ Q .non (S.set n (.lst (xs ++ ys))) := by
  unfold bmD lstAt
  cases e : S[n]? with
  | none => simp [e, wp_none]
  | some o =>
    cases o with
    | lst xs =>
      cases e2 : S[m]? with
      | none => simp [e, e2, wp_none]
      | some o =>
        cases o with
        | lst ys => by_cases h : xs.length + ys.length ≤ sizeLine <;> simp [e, e2, h, wp_none, wp_ok]
        | _ => simp [e, e2, wp_none]
    | _ => simp [e, wp_none]
/-- d.get(k), d.get(k, x), d.setdefault(k, x), once the parts are there -/
def get1D (n : Nat) (y : D) (S : Sto) : Out D := match dgetD S n y with
  | some (some v) => ok v S
  | some none => ok .non S
  | none => none
def get2D (n : Nat) (y z : D) (S : Sto) : Out D := match dgetD S n y with
  | some (some v) => ok v S
  | some none => ok z S
  | none => none
def sdefD (n : Nat) (y z : D) (S : Sto) : Out D := match dgetD S n y with
  | some (some v) => (match dputD S n y v with | some _ => ok v S | none => none)
  | some none => (match dputD S n y z with | some S4 => ok z S4 | none => none)
  | none => none
theorem we_get1 {d k : E} : Wx X0 (evE F (.get1 d k) ρ S) Q = Wx X0 (evE F d ρ S) fun x S1 => ∃ n, x = .ref n ∧ isDic S1 n = true ∧ Wx X0 (evE F k ρ S1) fun y S2 => Wx X0 (get1D n y S2) Q := by
  rw [evE, wp_bd]
  congr 1
  funext x S1
  cases x <;> simp [wp_none]
  rename_i n
  cases isDic S1 n <;> simp [wp_none, wp_bd]
  rfl
theorem we_get2 {d k e : E} : Wx X0 (evE F (.get2 d k e) ρ S) Q = Wx X0 (evE F d ρ S) fun x S1 => ∃ n, x = .ref n ∧ isDic S1 n = true ∧ Wx X0 (evE F k ρ S1) fun y S2 => Wx X0 (evE F e ρ S2) fun z S3 => Wx X0 (get2D n y z S3) Q := by
  rw [evE, wp_bd]
  congr 1
  funext x S1
  cases x <;> simp [wp_none]
  rename_i n
  cases isDic S1 n <;> simp [wp_none, wp_bd]
  rfl
theorem we_setdef {d k e : E} : Wx X0 (evE F (.setdef d k e) ρ S) Q = Wx X0 (evE F d ρ S) fun x S1 => ∃ n, x = .ref n ∧ isDic S1 n = true ∧ Wx X0 (evE F k ρ S1) fun y S2 => Wx X0 (evE F e ρ S2) fun z S3 => Wx X0 (sdefD n y z S3) Q := by
  rw [evE, wp_bd]
  congr 1
  funext x S1
  cases x <;> simp [wp_none]
  rename_i n
  cases isDic S1 n <;> simp [wp_none, wp_bd]
  rfl
theorem we_popk {d k : E} : Wx X0 (evE F (.popk d k) ρ S) Q = Wx X0 (evE F d ρ S) fun x S1 => ∃ n, x = .ref n ∧ isDic S1 n = true ∧ Wx X0 (evE F k ρ S1) fun y S2 => ∃ v S3, dropD S2 n y = some (v, S3) ∧ Q v S3 := by
  rw [evE, wp_bd]
  congr 1
  funext x S1
  cases x <;> simp [wp_none]
  rename_i n
  cases isDic S1 n with
  | false => simp [wp_none]
  | true =>
    simp only [wp_bd, true_and]
    refine iff_of_eq ?_
    congr 1
    funext y S2
    cases e : dropD S2 n y with
    | none => simp [wp_none]
    | some p => exact propext ⟨fun h => ⟨p.1, p.2, rfl, h.m⟩, fun ⟨_, _, e, h⟩ => by cases e; exact ⟨h⟩⟩
theorem wmax2 {i j : Int} : Wx X0 (biD .max [.int i, .int j] S) Q = Q (.int (if j > i then j else i)) S := wp_ok
theorem wmin2 {i j : Int} : Wx X0 (biD .min [.int i, .int j] S) Q = Q (.int (if j < i then j else i)) S := wp_ok
theorem wint_bl {b : Bool} : Wx X0 (biD .int [.bl b] S) Q = Q (.int (if b then 1 else 0)) S := wp_ok
theorem wint_int {i : Int} : Wx X0 (biD .int [.int i] S) Q = Q (.int i) S := wp_ok
theorem wstr_int {i : Int} : Wx X0 (biD .str [.int i] S) Q = (i.natAbs.log2 < 1920 ∧ Q (.str (toString i)) S) := by
  unfold biD
  simp only [wp_ifn, wp_ok]
theorem wlist_fz {ds : List D} : Wx X0 (biD .list [.fz ds] S) Q = Q (.ref S.length) (S ++ [.lst ds]) := by
  unfold biD itemsOf
  simp [wp_ok]
theorem wi_idx_fz {ds : List D} {i : Int} : Wx X0 (idxD (.fz ds) (.int i) S) Q = ∃ d, L2.atI ds i = some d ∧ Q d S := by
  unfold idxD
  cases e : L2.atI ds i <;> simp [e, wp_none, wp_ok]
theorem ws_fz {ds : List D} {lo hi : Option Int} : Wx X0 (slD (.fz ds) lo hi S) Q = Q (.ref S.length) (S ++ [.lst (cutL ds lo hi)]) := by
  unfold slD itemsOf
  simp [wp_ok]
theorem idxRf_ref {n : Nat} {i : Int} : Wx X0 (idxRf (.ref n) (.int i) S) Q = match lstAt S n with
    | some ds => ∃ d, L2.atI ds i = some d ∧ Q d S
    | none => ∃ d, dgetD S n (.int i) = some (some d) ∧ Q d S := by
  have fin : Wx X0 (match dgetD S n (.int i) with | some (some d) => ok d S | _ => none) Q = ∃ d, dgetD S n (.int i) = some (some d) ∧ Q d S := by
    cases e2 : dgetD S n (.int i) with
    | none => simp [wp_none]
    | some o => cases o <;> simp [wp_none, wp_ok]
  unfold idxRf lstAt
  cases e : S[n]? with
  | none => simp only [e]; exact fin
  | some o =>
    cases o with
    | lst ds => cases e2 : L2.atI ds i <;> simp [e, e2, wp_none, wp_ok]
    | _ => simp only [e]; exact fin
theorem idxRf_str {n : Nat} {x : Str} {kvs : List (L2.Key × D)} (h : dicAt S n = some kvs) : Wx X0 (idxRf (.ref n) (.str x) S) Q = ∃ d, lkD kvs (.inr x) = some d ∧ Q d S := by
  have hl := dicAt_lst h
  have e : idxRf (.ref n) (.str x) S = (match dgetD S n (.str x) with | some (some d) => ok d S | _ => none) := by
    unfold lstAt at hl
    cases e1 : S[n]? with
    | none => simp only [idxRf, e1] <;> rfl
    | some o =>
      rw [e1] at hl
      cases o <;> first | (simp only [idxRf, e1] <;> rfl) | cases hl
  rw [e, dgetD_str, h]
  show Wx X0 (match some (lkD kvs (.inr x)) with | some (some d) => ok d S | _ => none) Q = _
  cases e2 : lkD kvs (.inr x) <;> simp [wp_none, wp_ok]
end
/-- over a dict's keys or pairs: locked till the end -/
theorem wp_fK {tg : Tg} {b : Rho → Sto → Out Fl} {Q : Fl → Sto → Prop} {n : Nat} {kvs : List (L2.Key × D)} {ds : List D} {ρ : Rho} {S : Sto} (hn : dicU S n = some kvs) (I : Nat → Rho → Sto → Prop) (h0 : I 0 ρ (S.set n (.lk (.dic kvs))))
    (hs : ∀ i d ρ S, ds[i]? = some d → I i ρ S → ∀ J : Rho → Sto → Prop, (∀ ρ S, I (i + 1) ρ S → J ρ S) → ∃ ρ1, bindT tg d ρ = some ρ1 ∧ Wx NoX (b ρ1 S) (forQ J (lkQ n Q)))
    (hd : ∀ ρ S, I ds.length ρ S → Q (.nx ρ) (unl (.lkd n []) S)) : Wx NoX (forG tg b (itI S n ds) ρ S) Q := by
  rw [itI_U hn]
  exact wp_forK (dicU_get.mp hn) I h0 (fun i d ρ S e h => hs i d ρ S e h _ fun _ _ z => z) hd
theorem unl_lk {n : Nat} {S : Sto} {o : O} {ds : List D} (h : S[n]? = some (.lk o)) : unl (.lkd n ds) S = S.set n o := by
  unfold unl
  simp only [h]
theorem wipeR_nil {ρ : Rho} : wipeR ρ [] = ρ := rfl
theorem wipeR_cons {ρ : Rho} {v : Nat} {vs : List Nat} : wipeR ρ (v :: vs) = (wipeR ρ vs).set v none := rfl
/-! ### the same rules with what is kept shut away -/
theorem Wp.gen {α : Type} {o : Out α} {R : α → Sto → Prop} (h : ∀ Q : α → Sto → Prop, (∀ a S, R a S → Q a S) → Wx NoX o Q) : Wx NoX o R := h R fun _ _ z => z
theorem Wx.gen {α : Type} {o : Out α} {R : α → Sto → Prop} {X0 : XQ} (h : ∀ (Q : α → Sto → Prop) (X : XQ), (∀ a S, R a S → Q a S) → (∀ c xs S, X0 c xs S → X c xs S) → Wx X o Q) : Wx X0 o R := h R X0 (fun _ _ z => z) fun _ _ _ z => z
theorem wp_fF {tg : Tg} {b : Rho → Sto → Out Fl} {Q : Fl → Sto → Prop} {ds : List D} {ρ : Rho} {S : Sto} (I : Nat → Rho → Sto → Prop) (h0 : I 0 ρ S)
    (hs : ∀ i d ρ S, ds[i]? = some d → I i ρ S → ∀ J : Rho → Sto → Prop, (∀ ρ S, I (i + 1) ρ S → J ρ S) → ∃ ρ1, bindT tg d ρ = some ρ1 ∧ Wx NoX (b ρ1 S) (forQ J Q))
    (hd : ∀ ρ S, I ds.length ρ S → Q (.nx ρ) S) : Wx NoX (forG tg b (.fix ds) ρ S) Q := wp_forF I h0 (fun i d ρ S e h => hs i d ρ S e h _ fun _ _ z => z) hd
theorem wp_fR {tg : Tg} {b : Rho → Sto → Out Fl} {Q : Fl → Sto → Prop} {n : Nat} {ds : List D} {ρ : Rho} {S : Sto} (I : Nat → Rho → Sto → Prop) (h0 : I 0 ρ S)
    (hl : ∀ i ρ S, I i ρ S → lstAt S n = some ds)
    (hs : ∀ i d ρ S, ds[i]? = some d → I i ρ S → ∀ J : Rho → Sto → Prop, (∀ ρ S, I (i + 1) ρ S → J ρ S) → ∃ ρ1, bindT tg d ρ = some ρ1 ∧ Wx NoX (b ρ1 S) (forQ J Q))
    (hd : ∀ ρ S, I ds.length ρ S → Q (.nx ρ) S) : Wx NoX (forG tg b (.dyn n .plain) ρ S) Q := wp_forR (ds := ds) I (fun _ _ _ _ => rfl) h0 (fun i ρ S h => lstAt_get.mp (hl i ρ S h)) (fun i d ρ S e h => hs i d ρ S e h _ fun _ _ z => z) hd
/-- two lists side by side -/
theorem wp_fZ {tg : Tg} {b : Rho → Sto → Out Fl} {Q : Fl → Sto → Prop} {n m : Nat} {ds es : List D} {ρ : Rho} {S : Sto} (hlen : ds.length = es.length) (I : Nat → Rho → Sto → Prop) (h0 : I 0 ρ S)
    (hl : ∀ i ρ S, I i ρ S → lstAt S n = some ds) (hl2 : ∀ i ρ S, I i ρ S → lstAt S m = some es)
    (hs : ∀ i d e ρ S, ds[i]? = some d → es[i]? = some e → I i ρ S → ∀ J : Rho → Sto → Prop, (∀ ρ S, I (i + 1) ρ S → J ρ S) → ∃ ρ1, bindT tg (.tup [d, e]) ρ = some ρ1 ∧ Wx NoX (b ρ1 S) (forQ J Q))
    (hd : ∀ ρ S, I ds.length ρ S → Q (.nx ρ) S) : Wx NoX (forG tg b (.dyn n (.zip2 m)) ρ S) Q := by
  refine wp_forR (ds := ds) (es := List.zipWith (fun a b => D.tup [a, b]) ds es) I (fun i ρ S h => ?_) h0 (fun i ρ S h => lstAt_get.mp (hl i ρ S h)) (fun i d ρ S e h => ?_) (fun ρ S h => hd ρ S (by rw [List.length_zipWith, ← hlen, Nat.min_self] at h; exact h))
  · unfold dynAt
    simp only [lstAt_get.mp (hl2 i ρ S h)]
    rw [List.getElem?_zipWith]
    cases ds[i]? <;> cases es[i]? <;> rfl
  · rw [List.getElem?_zipWith] at e
    cases e1 : ds[i]? with
    | none => rw [e1] at e; cases e
    | some d' =>
      cases e2 : es[i]? with
      | none => rw [e1, e2] at e; cases e
      | some e' =>
        rw [e1, e2] at e
        cases e
        exact hs i d' e' ρ S e1 e2 h _ fun _ _ z => z
/-- what a comprehension's test says for its turn -/
def lcQ (F : Orc) (elt : E) (ρ : Rho) (J : D → Sto → Prop) (K : Sto → Prop) : Bool → Sto → Prop
  | true, S => Wx NoX (evE F elt ρ S) J
  | false, S => K S
theorem lcQ_t {F : Orc} {elt : E} {ρ : Rho} {J : D → Sto → Prop} {K : Sto → Prop} {S : Sto} : lcQ F elt ρ J K true S = Wx NoX (evE F elt ρ S) J := rfl
theorem lcQ_f {F : Orc} {elt : E} {ρ : Rho} {J : D → Sto → Prop} {K : Sto → Prop} {S : Sto} : lcQ F elt ρ J K false S = K S := rfl
theorem lcQ_by {F : Orc} {elt : E} {ρ : Rho} {J : D → Sto → Prop} {K : Sto → Prop} {S : Sto} {t : Bool} (h1 : t = true → Wx NoX (evE F elt ρ S) J) (h2 : t = false → K S) : lcQ F elt ρ J K t S := by
  cases t with
  | true => exact h1 rfl
  | false => exact h2 rfl
theorem wp_lF {F : Orc} {elt : E} {tg : Tg} {c : T} {own : List Nat} {ρ : Rho} {ds : List D} {S : Sto} {Q : D → Sto → Prop} {X0 : XQ} (I : Nat → List D → Sto → Prop) (h0 : I 0 [] S)
    (hs : ∀ i d acc S, ds[i]? = some d → I i acc S → ∀ (J : D → Sto → Prop) (K : Sto → Prop), (∀ y S, acc.length < sizeLine → I (i + 1) (acc ++ [y]) S → J y S) → (∀ S, I (i + 1) acc S → K S) → ∃ ρ1, bindT tg d (wipeR ρ own) = some ρ1 ∧ Wx NoX (evT F c ρ1 S) (lcQ F elt ρ1 J K))
    (hd : ∀ acc S, I ds.length acc S → Q (.ref S.length) (S ++ [.lst acc])) : Wx X0 (lcG F elt tg c own ρ (.fix ds) S) Q :=
  wp_lcF I h0 (fun i d acc S e h => by
    obtain ⟨ρ1, e1, w⟩ := hs i d acc S e h (fun y S4 => acc.length < sizeLine ∧ I (i + 1) (acc ++ [y]) S4) (I (i + 1) acc) (fun _ _ a b => ⟨a, b⟩) fun _ z => z
    refine ⟨ρ1, e1, w.mono fun t S3 q => ?_⟩
    cases t with
    | true =>
      rw [if_pos rfl]
      exact q
    | false =>
      rw [if_neg (by decide)]
      exact q) hd
theorem wp_lR {F : Orc} {elt : E} {tg : Tg} {c : T} {own : List Nat} {ρ : Rho} {n : Nat} {ds : List D} {S : Sto} {Q : D → Sto → Prop} {X0 : XQ} (I : Nat → List D → Sto → Prop) (h0 : I 0 [] S)
    (hl : ∀ i acc S, I i acc S → lstAt S n = some ds)
    (hs : ∀ i d acc S, ds[i]? = some d → I i acc S → ∀ (J : D → Sto → Prop) (K : Sto → Prop), (∀ y S, acc.length < sizeLine → I (i + 1) (acc ++ [y]) S → J y S) → (∀ S, I (i + 1) acc S → K S) → ∃ ρ1, bindT tg d (wipeR ρ own) = some ρ1 ∧ Wx NoX (evT F c ρ1 S) (lcQ F elt ρ1 J K))
    (hd : ∀ acc S, I ds.length acc S → Q (.ref S.length) (S ++ [.lst acc])) : Wx X0 (lcG F elt tg c own ρ (.dyn n .plain) S) Q :=
  wp_lcR (ds := ds) (fun _ _ => rfl) I h0 (fun i acc S h => lstAt_get.mp (hl i acc S h)) (fun i d acc S e h => by
    obtain ⟨ρ1, e1, w⟩ := hs i d acc S e h (fun y S4 => acc.length < sizeLine ∧ I (i + 1) (acc ++ [y]) S4) (I (i + 1) acc) (fun _ _ a b => ⟨a, b⟩) fun _ z => z
    refine ⟨ρ1, e1, w.mono fun t S3 q => ?_⟩
    cases t with
    | true =>
      rw [if_pos rfl]
      exact q
    | false =>
      rw [if_neg (by decide)]
      exact q) hd
end VM
/-! GAa: terms of defs that several laws share (printed by mkWLa.py). -/
namespace GA
open PySem VM
/-- pieces_in -/
def b_pieces_in : Cs :=
  (.cons (.set 2 (.lst (.cons (.tup (.cons (.var 1) (.cons (.var 0) .nil))) .nil))) (.cons (.ife (.cmp .eq (.idx (.var 0) (.int 0)) (.str "knot")) (.cons (.for_ (.tp [3, 4]) (.enum (.idx (.var 0) (.int 3))) (.cons (.ex (.bm .extend (.var 2) (.cons (.call 0 (.cons (.var 4) (.cons (.bin .add (.var 1) (.tup (.cons (.var 3) .nil))) .nil))) .nil))) .nil)) .nil) .nil) (.cons (.ret (.var 2)) .nil)))
/-- foot_in -/
def b_foot_in : Cs :=
  (.cons (.for_ (.tp [1, 2]) (.seq (.call 0 (.cons (.var 0) (.cons (.tup .nil) .nil)))) (.cons (.ife (.cmp .eq (.idx (.var 2) (.int 0)) (.str "foot")) (.cons (.ret (.idx (.var 2) (.int 1))) .nil) .nil) .nil)) (.cons (.ret (.non)) .nil))
/-- keys_by_name -/
def b_keys_by_name : Cs :=
  (.cons (.set 1 (.dnt)) (.cons (.for_ (.tp [2, 3]) (.seq (.idx (.var 0) (.int 1))) (.cons (.set 4 (.call 1 (.cons (.var 3) .nil))) (.cons (.set 5 (.ite (.cmp .is (.var 4) (.non)) (.tup (.cons (.bl false) (.cons (.idx (.var 3) (.int 1)) .nil))) (.tup (.cons (.bl true) (.cons (.var 4) .nil))))) (.cons (.ex (.bm .append (.setdef (.var 1) (.var 5) (.lst .nil)) (.cons (.var 2) .nil))) .nil)))) (.cons (.ret (.var 1)) .nil)))
/-- spots_in -/
def b_spots_in : Cs :=
  (.cons (.set 2 (.lst .nil)) (.cons (.for_ (.tp [3, 4]) (.seq (.call 0 (.cons (.var 0) (.cons (.tup .nil) .nil)))) (.cons (.ife (.cmp .eq (.idx (.var 4) (.int 0)) (.str "hole")) (.cons (.ex (.bm .append (.var 2) (.cons (.tup (.cons (.var 3) (.cons (.bl true) (.cons (.get2 (.var 1) (.tup (.cons (.bl false) (.cons (.idx (.var 4) (.int 1)) .nil))) (.lst .nil)) .nil)))) .nil))) .nil) (.cons (.ife (.and (.cmp .eq (.idx (.var 4) (.int 0)) (.str "knot")) (.one (.cmp .isnot (.idx (.var 4) (.int 2)) (.non)))) (.cons (.ex (.bm .append (.var 2) (.cons (.tup (.cons (.var 3) (.cons (.idx (.idx (.var 4) (.int 2)) (.int 1)) (.cons (.get2 (.var 1) (.tup (.cons (.bl true) (.cons (.idx (.idx (.var 4) (.int 2)) (.int 0)) .nil))) (.lst .nil)) .nil)))) .nil))) .nil) .nil) .nil)) .nil)) (.cons (.ret (.var 2)) .nil)))
/-- all_spots -/
def b_all_spots : Cs :=
  (.cons (.set 1 (.call 2 (.cons (.var 0) .nil))) (.cons (.set 2 (.dnk)) (.cons (.for_ (.tp [3, 4]) (.seq (.idx (.var 0) (.int 1))) (.cons (.seti (.var 2) (.var 3) (.call 3 (.cons (.var 4) (.cons (.var 1) .nil)))) .nil)) (.cons (.ret (.var 2)) .nil))))
/-- top_keys -/
def b_top_keys : Cs :=
  (.cons (.ret (.bi .list (.cons (.get2 (.call 2 (.cons (.var 0) .nil)) (.tup (.cons (.bl false) (.cons (.idx (.var 0) (.int 0)) .nil))) (.lst .nil)) .nil))) .nil)
/-- first_of -/
def b_first_of : Cs :=
  (.cons (.for_ (.nm 2) (.seq (.var 0)) (.cons (.ife (.cmp .inn (.var 2) (.var 1)) (.cons (.ret (.var 2)) .nil) .nil) .nil)) (.cons (.ret (.non)) .nil))
/-- fillings -/
def b_fillings : Cs :=
  (.cons (.set 2 (.lst .nil)) (.cons (.for_ (.tp [3, 4, 5]) (.seq (.var 0)) (.cons (.ife (.v (.var 4)) (.cons (.set 6 (.call 6 (.cons (.var 5) (.cons (.var 1) .nil)))) (.cons (.ife (.cmp .is (.var 6) (.non)) (.cons (.ret (.non)) .nil) .nil) (.cons (.ex (.bm .append (.var 2) (.cons (.tup (.cons (.var 3) (.cons (.var 6) .nil))) .nil))) .nil))) .nil) .nil)) (.cons (.ret (.bi .tuple (.cons (.var 2) .nil))) .nil)))
/-- orders_built -/
def b_orders_built : Cs :=
  (.cons (.set 2 (.lst .nil)) (.cons (.set 3 (.dnk)) (.cons (.set 4 (.bl true)) (.cons (.whl (.v (.var 4)) (.cons (.set 4 (.bl false)) (.cons (.for_ (.tp [5, 6]) (.seq (.idx (.var 0) (.int 1))) (.cons (.set 7 (.non)) (.cons (.ife (.cmp .notin (.var 5) (.var 3)) (.cons (.set 7 (.call 7 (.cons (.idx (.var 1) (.var 5)) (.cons (.var 3) .nil)))) .nil) .nil) (.cons (.ife (.cmp .isnot (.var 7) (.non)) (.cons (.seti (.var 3) (.var 5) (.bl true)) (.cons (.ex (.bm .append (.var 2) (.cons (.tup (.cons (.var 5) (.cons (.var 7) .nil))) .nil))) (.cons (.set 4 (.bl true)) .nil))) .nil) .nil)))) .nil))) (.cons (.ret (.var 2)) .nil)))))
/-- comings -/
def b_comings : Cs :=
  (.cons (.set 3 (.lc (.tup (.cons (.var 6) (.cons (.non) (.cons (.non) .nil)))) (.nm 6) (.seq (.call 5 (.cons (.var 0) .nil))) (.cmp .inn (.var 6) (.var 2)) [("key", 6)])) (.cons (.set 4 (.dnk)) (.cons (.for_ (.tp [6, 7, 8]) (.seq (.var 3)) (.cons (.seti (.var 4) (.var 6) (.bl true)) .nil)) (.cons (.set 5 (.int 0)) (.cons (.whl (.cmp .lt (.var 5) (.bi .len (.cons (.var 3) .nil))) (.cons (.set 7 (.idx (.idx (.var 3) (.var 5)) (.int 0))) (.cons (.for_ (.tp [8, 9, 10]) (.seq (.idx (.var 1) (.var 7))) (.cons (.for_ (.nm 6) (.seq (.var 10)) (.cons (.ife (.and (.cmp .inn (.var 6) (.var 2)) (.one (.cmp .notin (.var 6) (.var 4)))) (.cons (.seti (.var 4) (.var 6) (.bl true)) (.cons (.ex (.bm .append (.var 3) (.cons (.tup (.cons (.var 6) (.cons (.var 7) (.cons (.var 8) .nil)))) .nil))) .nil)) .nil) .nil)) .nil)) (.cons (.aug 5 .add (.int 1)) .nil)))) (.cons (.ret (.var 3)) .nil))))))
/-- useful -/
def b_useful : Cs :=
  (.cons (.set 1 (.call 4 (.cons (.var 0) .nil))) (.cons (.set 2 (.call 8 (.cons (.var 0) (.cons (.var 1) .nil)))) (.cons (.set 3 (.dnk)) (.cons (.for_ (.tp [8, 9]) (.seq (.var 2)) (.cons (.seti (.var 3) (.var 8) (.bl true)) .nil)) (.cons (.set 4 (.call 9 (.cons (.var 0) (.cons (.var 1) (.cons (.var 3) .nil))))) (.cons (.set 5 (.dnk)) (.cons (.for_ (.tp [8, 10, 11]) (.seq (.var 4)) (.cons (.seti (.var 5) (.var 8) (.bl true)) .nil)) (.cons (.set 6 (.lc (.var 8) (.tp [8, 12]) (.seq (.idx (.var 0) (.int 1))) (.cmp .notin (.var 8) (.var 3)) [("key", 8), ("tree", 12)])) (.cons (.set 7 (.lc (.var 8) (.tp [8, 12]) (.seq (.idx (.var 0) (.int 1))) (.and (.cmp .inn (.var 8) (.var 3)) (.one (.cmp .notin (.var 8) (.var 5)))) [("key", 8), ("tree", 12)])) (.cons (.ret (.tup (.cons (.var 2) (.cons (.var 4) (.cons (.var 6) (.cons (.var 7) .nil)))))) .nil))))))))))
/-- greatest_of -/
def b_greatest_of : Cs :=
  (.cons (.ret (.maxd (.lc (.idx (.var 1) (.var 2)) (.nm 2) (.seq (.var 0)) (.cmp .inn (.var 2) (.var 1)) [("key", 2)]) (.int 0))) .nil)
/-- height_of -/
def b_height_of : Cs :=
  (.cons (.ret (.bin .add (.int 1) (.bi .sum (.cons (.lc (.call 11 (.cons (.var 4) (.cons (.var 1) .nil))) (.tp [2, 3, 4]) (.seq (.var 0)) (.yes) [("place", 2), ("must", 3), ("keys", 4)]) .nil)))) .nil)
/-- next_of -/
def b_next_of : Cs :=
  (.cons (.for_ (.tp [2, 3, 4]) (.seq (.var 0)) (.cons (.for_ (.nm 5) (.seq (.var 4)) (.cons (.ife (.cmp .inn (.var 5) (.var 1)) (.cons (.ret (.tup (.cons (.var 2) (.cons (.var 5) .nil)))) .nil) .nil) .nil)) .nil)) (.cons (.ret (.non)) .nil))
/-- heights_of -/
def b_heights_of : Cs :=
  (.cons (.set 2 (.dnk)) (.cons (.set 3 (.dnk)) (.cons (.for_ (.nm 4) (.seq (.var 1)) (.cons (.seti (.var 3) (.var 4) (.bl true)) .nil)) (.cons (.set 5 (.bl true)) (.cons (.whl (.v (.var 5)) (.cons (.set 5 (.bl false)) (.cons (.for_ (.nm 4) (.seq (.var 1)) (.cons (.ife (.and (.cmp .inn (.var 4) (.var 3)) (.one (.cmp .is (.call 13 (.cons (.idx (.var 0) (.var 4)) (.cons (.var 3) .nil))) (.non)))) (.cons (.seti (.var 2) (.var 4) (.call 12 (.cons (.idx (.var 0) (.var 4)) (.cons (.var 2) .nil)))) (.cons (.ex (.popk (.var 3) (.var 4))) (.cons (.set 5 (.bl true)) .nil))) .nil) .nil)) .nil))) (.cons (.ret (.tup (.cons (.var 2) (.cons (.var 3) .nil)))) .nil))))))
/-- round_in -/
def b_round_in : Cs :=
  (.cons (.set 2 (.lst .nil)) (.cons (.set 3 (.dnk)) (.cons (.set 4 (.idx (.bi .list (.cons (.var 1) .nil)) (.int 0))) (.cons (.whl (.cmp .notin (.var 4) (.var 3)) (.cons (.seti (.var 3) (.var 4) (.bi .len (.cons (.var 2) .nil))) (.cons (.asg (.tp [5, 6]) (.call 13 (.cons (.idx (.var 0) (.var 4)) (.cons (.var 1) .nil)))) (.cons (.ex (.bm .append (.var 2) (.cons (.tup (.cons (.var 4) (.cons (.var 5) .nil))) .nil))) (.cons (.set 4 (.var 6)) .nil))))) (.cons (.ret (.sl (.var 2) (.e (.idx (.var 3) (.var 4))) (.no))) .nil)))))
/-- way_to -/
def b_way_to : Cs :=
  (.cons (.set 2 (.dnk)) (.cons (.for_ (.tp [4, 5, 6]) (.seq (.var 0)) (.cons (.seti (.var 2) (.var 4) (.tup (.cons (.var 5) (.cons (.var 6) .nil)))) .nil)) (.cons (.set 3 (.lst .nil)) (.cons (.asg (.tp [5, 6]) (.idx (.var 2) (.var 1))) (.cons (.whl (.cmp .isnot (.var 5) (.non)) (.cons (.ex (.bm .insert (.var 3) (.cons (.int 0) (.cons (.tup (.cons (.var 5) (.cons (.var 6) .nil))) .nil)))) (.cons (.asg (.tp [5, 6]) (.idx (.var 2) (.var 5))) .nil))) (.cons (.ret (.var 3)) .nil))))))
/-- endless -/
def b_endless : Cs :=
  (.cons (.asg (.tp [3, 4, 5, 6]) (.call 10 (.cons (.var 0) .nil))) (.cons (.ife (.cmp .eq (.bi .len (.cons (.var 4) .nil)) (.int 0)) (.cons (.rais 283 "no whole plan") .nil) .nil) (.cons (.set 1 (.call 4 (.cons (.var 0) .nil))) (.cons (.set 2 (.lc (.var 10) (.tp [10, 11]) (.seq (.idx (.var 0) (.int 1))) (.and (.cmp .notin (.var 10) (.var 5)) (.one (.cmp .notin (.var 10) (.var 6)))) [("key", 10), ("tree", 11)])) (.cons (.asg (.tp [7, 8]) (.call 14 (.cons (.var 1) (.cons (.var 2) .nil)))) (.cons (.ife (.cmp .gt (.bi .len (.cons (.var 8) .nil)) (.int 0)) (.cons (.set 9 (.call 15 (.cons (.var 1) (.cons (.var 8) .nil)))) (.cons (.ret (.tup (.cons (.str "endless") (.cons (.call 16 (.cons (.var 4) (.cons (.idx (.idx (.var 9) (.int 0)) (.int 0)) .nil))) (.cons (.var 9) .nil))))) .nil)) .nil) (.cons (.ret (.tup (.cons (.str "bounded") (.cons (.call 11 (.cons (.call 5 (.cons (.var 0) .nil)) (.cons (.var 7) .nil))) (.cons (.lc (.tup (.cons (.var 10) (.cons (.idx (.var 7) (.var 10)) .nil))) (.nm 10) (.seq (.var 2)) (.yes) [("key", 10)]) .nil))))) .nil)))))))
/-- fill_ways -/
def b_fill_ways : Cs :=
  (.cons (.set 4 (.bin .add (.lst (.cons (.int 1) .nil)) (.bin .mul (.lst (.cons (.int 0) .nil)) (.var 3)))) (.cons (.for_ (.nm 5) (.rng3 (.bin .sub (.bi .len (.cons (.var 1) .nil)) (.int 1)) (.neg (.int 1)) (.neg (.int 1))) (.cons (.asg (.tp [6, 7]) (.idx (.var 2) (.var 5))) (.cons (.ife (.cmp .gt (.var 3) (.int 0)) (.cons (.ex (.bm .append (.var 6) (.cons (.bi .sum (.cons (.lc (.idx (.idx (.idx (.var 0) (.var 9)) (.int 1)) (.var 3)) (.nm 9) (.seq (.idx (.idx (.var 1) (.var 5)) (.int 2))) (.yes) [("key", 9)]) .nil)) .nil))) .nil) (.cons (.ex (.bm .append (.var 6) (.cons (.ite (.v (.idx (.idx (.var 1) (.var 5)) (.int 1))) (.int 0) (.int 1)) .nil))) .nil)) (.cons (.ex (.bm .append (.var 7) (.cons (.bi .sum (.cons (.lc (.bin .mul (.idx (.var 4) (.bin .sub (.var 3) (.var 8))) (.idx (.var 6) (.var 8))) (.nm 8) (.rng1 (.bin .add (.var 3) (.int 1))) (.yes) [("one", 8)]) .nil)) .nil))) (.cons (.set 4 (.var 7)) .nil))))) (.cons (.ret (.idx (.var 4) (.var 3))) .nil)))
/-- tally -/
def b_tally : Cs :=
  (.cons (.set 2 (.dnk)) (.cons (.for_ (.tp [4, 5]) (.items (.call 4 (.cons (.var 0) .nil))) (.cons (.seti (.var 2) (.var 4) (.tup (.cons (.var 5) (.cons (.lst (.cons (.int 0) .nil)) (.cons (.lc (.tup (.cons (.lst .nil) (.cons (.lst .nil) .nil))) (.nm 9) (.seq (.var 5)) (.yes) [("spot", 9)]) .nil))))) .nil)) (.cons (.for_ (.nm 3) (.rng1 (.var 1)) (.cons (.for_ (.tp [4, 6]) (.seq (.idx (.var 0) (.int 1))) (.cons (.asg (.tp [5, 7, 8]) (.idx (.var 2) (.var 4))) (.cons (.ex (.bm .append (.var 7) (.cons (.call 18 (.cons (.var 2) (.cons (.var 5) (.cons (.var 8) (.cons (.var 3) .nil))))) .nil))) .nil))) .nil)) (.cons (.ret (.var 2)) .nil))))
/-- many_of -/
def b_many_of : Cs :=
  (.cons (.set 2 (.call 19 (.cons (.var 0) (.cons (.var 1) .nil)))) (.cons (.ret (.bi .sum (.cons (.lc (.idx (.idx (.idx (.var 2) (.var 3)) (.int 1)) (.var 1)) (.nm 3) (.seq (.call 5 (.cons (.var 0) .nil))) (.yes) [("key", 3)]) .nil))) .nil))
/-- _law_cell_at -/
def b__law_cell_at : Cs :=
  (.cons (.ife (.cmp .lt (.var 1) (.bi .len (.cons (.var 0) .nil))) (.cons (.ret (.idx (.var 0) (.var 1))) .nil) .nil) (.cons (.ret (.int 0)) .nil))
/-- _law_names -/
def b__law_names : Cs :=
  (.cons (.set 1 (.idx (.str "ABCDEFGHIJKLMNOPQRSTUVWXYZ") (.bin .mod (.var 0) (.int 26)))) (.cons (.set 2 (.bin .mod (.bin .fdiv (.var 0) (.int 26)) (.int 9))) (.cons (.ife (.cmp .eq (.bin .mod (.bin .fdiv (.var 0) (.int 234)) (.int 2)) (.int 1)) (.cons (.ret (.lc (.bin .mul (.var 1) (.bin .sub (.bin .add (.var 2) (.int 6)) (.var 3))) (.nm 3) (.rng1 (.int 6)) (.yes) [("k", 3)])) .nil) .nil) (.cons (.ret (.lc (.bin .add (.bin .add (.bin .mul (.var 1) (.bin .add (.var 2) (.int 1))) (.idx (.str "053172") (.var 3))) (.bin .mul (.var 1) (.bin .mod (.bin .fdiv (.var 0) (.int 468)) (.int 9)))) (.nm 3) (.rng1 (.int 6)) (.yes) [("k", 3)])) .nil))))
/-- _law_keys -/
def b__law_keys : Cs :=
  (.cons (.set 2 (.idx (.str "abcdefghijklmnopqrstuvwxyz") (.bin .mod (.var 0) (.int 26)))) (.cons (.set 3 (.bin .mod (.bin .fdiv (.var 0) (.int 26)) (.int 9))) (.cons (.ife (.cmp .eq (.bin .mod (.bin .fdiv (.var 0) (.int 234)) (.int 2)) (.int 1)) (.cons (.ret (.lc (.bin .mul (.var 2) (.bin .add (.var 3) (.idx (.lst (.cons (.int 4) (.cons (.int 1) (.cons (.int 6) (.cons (.int 2) (.cons (.int 5) (.cons (.int 3) .nil))))))) (.var 4)))) (.nm 4) (.rng1 (.var 1)) (.yes) [("k", 4)])) .nil) .nil) (.cons (.ret (.lc (.bin .add (.bin .add (.bin .mul (.var 2) (.bin .add (.var 3) (.int 1))) (.idx (.str "427130") (.var 4))) (.bin .mul (.var 2) (.bin .mod (.bin .fdiv (.var 0) (.int 468)) (.int 9)))) (.nm 4) (.rng1 (.var 1)) (.yes) [("k", 4)])) .nil))))
/-- _law_signs -/
def b__law_signs : Cs :=
  (.cons (.set 1 (.str "abcdefghijklmnopqrstuvwxyz")) (.cons (.set 2 (.idx (.var 1) (.bin .mod (.var 0) (.int 26)))) (.cons (.set 3 (.idx (.var 1) (.bin .mod (.bin .add (.bin .add (.var 0) (.int 1)) (.bin .mod (.bin .fdiv (.var 0) (.int 26)) (.int 25))) (.int 26)))) (.cons (.set 4 (.bin .mod (.bin .fdiv (.var 0) (.int 650)) (.int 4))) (.cons (.set 5 (.lst (.cons (.bin .mul (.var 2) (.bin .add (.var 4) (.int 1))) (.cons (.bin .add (.bin .mul (.var 2) (.var 4)) (.var 3)) (.cons (.bin .add (.bin .mul (.var 2) (.bin .add (.var 4) (.int 1))) (.var 3)) .nil))))) (.cons (.ife (.cmp .eq (.bin .mod (.bin .fdiv (.var 0) (.int 2600)) (.int 3)) (.int 1)) (.cons (.ret (.lst (.cons (.idx (.var 5) (.int 0)) (.cons (.idx (.var 5) (.int 0)) (.cons (.idx (.var 5) (.int 0)) .nil))))) .nil) .nil) (.cons (.ife (.cmp .eq (.bin .mod (.bin .fdiv (.var 0) (.int 2600)) (.int 3)) (.int 2)) (.cons (.ret (.lst (.cons (.idx (.var 5) (.int 0)) (.cons (.idx (.var 5) (.int 1)) (.cons (.idx (.var 5) (.int 1)) .nil))))) .nil) .nil) (.cons (.ret (.var 5)) .nil))))))))
/-- _law_shut -/
def b__law_shut : Cs :=
  (.cons (.asg (.tp [1, 2, 3]) (.pop0 (.var 0))) (.cons (.ife (.cmp .eq (.bi .len (.cons (.var 3) .nil)) (.int 0)) (.cons (.ex (.bm .append (.var 3) (.cons (.tup (.cons (.str "void") .nil)) .nil))) .nil) .nil) (.cons (.ret (.tup (.cons (.str "knot") (.cons (.var 1) (.cons (.var 2) (.cons (.bi .tuple (.cons (.var 3) .nil)) .nil)))))) .nil)))
/-- _law_takes -/
def b__law_takes : Cs :=
  (.cons (.ife (.and (.cmp .eq (.var 0) (.int 7)) (.one (.cmp .gt (.idx (.var 2) (.int 0)) (.int 0)))) (.cons (.augi (.var 2) (.int 0) .sub (.int 1)) (.cons (.ret (.tup (.cons (.var 1) (.cons (.bl true) .nil)))) .nil)) .nil) (.cons (.ife (.and (.cmp .inn (.var 0) (.tup (.cons (.int 6) (.cons (.int 11) .nil)))) (.one (.cmp .gt (.idx (.var 2) (.int 1)) (.int 0)))) (.cons (.augi (.var 2) (.int 1) .sub (.int 1)) (.cons (.ret (.tup (.cons (.var 1) (.cons (.bl false) .nil)))) .nil)) .nil) (.cons (.ret (.non)) .nil)))
/-- _law_lay -/
def b__law_lay : Cs :=
  (.cons (.set 6 (.bin .mod (.var 1) (.int 12))) (.cons (.set 7 (.idx (.idx (.var 0) (.neg (.int 1))) (.int 2))) (.cons (.set 8 (.cmp .lt (.bi .len (.cons (.var 7) .nil)) (.int 6))) (.cons (.ife (.and (.cmp .inn (.var 6) (.tup (.cons (.int 8) (.cons (.int 9) .nil)))) (.one (.cmp .gt (.bi .len (.cons (.var 0) .nil)) (.int 1)))) (.cons (.set 9 (.call 25 (.cons (.var 0) .nil))) (.cons (.ex (.bm .append (.idx (.idx (.var 0) (.neg (.int 1))) (.int 2)) (.cons (.var 9) .nil))) .nil)) (.cons (.ife (.and (.v (.var 8)) (.and (.cmp .inn (.var 6) (.tup (.cons (.int 5) (.cons (.int 6) (.cons (.int 7) (.cons (.int 11) .nil)))))) (.one (.cmp .lt (.bi .len (.cons (.var 0) .nil)) (.int 9))))) (.cons (.ex (.bm .append (.var 0) (.cons (.tup (.cons (.idx (.var 3) (.bin .mod (.bin .fdiv (.var 1) (.int 12)) (.int 6))) (.cons (.call 26 (.cons (.var 6) (.cons (.var 2) (.cons (.var 5) .nil)))) (.cons (.lst .nil) .nil)))) .nil))) .nil) (.cons (.ife (.and (.v (.var 8)) (.and (.cmp .eq (.var 6) (.int 4)) (.one (.cmp .gt (.idx (.var 5) (.int 0)) (.int 0))))) (.cons (.augi (.var 5) (.int 0) .sub (.int 1)) (.cons (.ex (.bm .append (.var 7) (.cons (.tup (.cons (.str "hole") (.cons (.var 2) .nil))) .nil))) .nil)) (.cons (.ife (.and (.v (.var 8)) (.and (.cmp .eq (.var 6) (.int 10)) (.one (.cmp .gt (.idx (.var 5) (.int 2)) (.int 0))))) (.cons (.augi (.var 5) (.int 2) .sub (.int 1)) (.cons (.ex (.bm .append (.var 7) (.cons (.tup (.cons (.str "foot") (.cons (.idx (.var 5) (.int 3)) .nil))) .nil))) .nil)) (.cons (.ife (.and (.v (.var 8)) (.one (.cmp .lt (.var 6) (.int 2)))) (.cons (.seti (.var 5) (.int 4) (.bl true)) (.cons (.ex (.bm .append (.var 7) (.cons (.tup (.cons (.str "sign") (.cons (.idx (.var 4) (.bin .mod (.bin .fdiv (.var 1) (.int 12)) (.int 3))) .nil))) .nil))) .nil)) (.cons (.ife (.v (.var 8)) (.cons (.ex (.bm .append (.var 7) (.cons (.tup (.cons (.str "void") .nil)) .nil))) .nil) .nil) .nil)) .nil)) .nil)) .nil)) .nil)) .nil))))
/-- _law_name -/
def b__law_name : Cs :=
  (.cons (.ife (.v (.var 3)) (.cons (.ret (.idx (.var 0) (.bi .min (.cons (.int 5) (.cons (.bin .add (.bin .add (.var 2) (.int 1)) (.bin .mod (.var 1) (.int 2))) .nil))))) .nil) .nil) (.cons (.ret (.idx (.var 0) (.idx (.lst (.cons (.int 0) (.cons (.int 1) (.cons (.int 2) (.cons (.int 0) (.cons (.int 1) (.cons (.int 2) (.cons (.int 4) .nil)))))))) (.bin .mod (.var 1) (.int 7))))) .nil))
/-- _law_left -/
def b__law_left : Cs :=
  (.cons (.ife (.cmp .eq (.bin .mod (.bin .fdiv (.var 0) (.int 39)) (.int 8)) (.int 7)) (.cons (.ret (.lst (.cons (.bin .mod (.bin .fdiv (.var 0) (.int 312)) (.int 7)) (.cons (.bin .mod (.bin .fdiv (.var 0) (.int 2184)) (.int 6)) (.cons (.bi .int (.cons (.var 1) .nil)) (.cons (.var 2) (.cons (.bl false) .nil))))))) .nil) .nil) (.cons (.ret (.lst (.cons (.bin .mod (.bin .fdiv (.var 0) (.int 13)) (.int 3)) (.cons (.int 2) (.cons (.bi .int (.cons (.var 1) .nil)) (.cons (.var 2) (.cons (.bl false) .nil))))))) .nil))
/-- _law_tree -/
def b__law_tree : Cs :=
  (.cons (.set 6 (.call 21 (.cons (.var 0) (.cons (.int 0) .nil)))) (.cons (.set 7 (.call 29 (.cons (.var 6) (.cons (.var 1) (.cons (.idx (.var 3) (.var 2)) .nil))))) (.cons (.set 8 (.ite (.v (.var 1)) (.idx (.var 3) (.bin .mod (.bin .fdiv (.var 6) (.int 160)) (.int 6))) (.idx (.var 3) (.var 2)))) (.cons (.set 9 (.idx (.lst (.cons (.int 5) (.cons (.int 6) (.cons (.int 7) (.cons (.int 11) .nil))))) (.bin .mod (.bin .fdiv (.var 6) (.int 8)) (.int 4)))) (.cons (.set 10 (.lst (.cons (.tup (.cons (.var 8) (.cons (.call 26 (.cons (.var 9) (.cons (.call 28 (.cons (.var 3) (.cons (.bin .fdiv (.var 6) (.int 32)) (.cons (.var 2) (.cons (.var 5) .nil))))) (.cons (.var 7) .nil)))) (.cons (.lst .nil) .nil)))) .nil))) (.cons (.for_ (.nm 11) (.seq (.sl (.var 0) (.e (.int 1)) (.no))) (.cons (.ex (.call 27 (.cons (.var 10) (.cons (.var 11) (.cons (.call 28 (.cons (.var 3) (.cons (.bin .fdiv (.var 11) (.int 72)) (.cons (.var 2) (.cons (.var 5) .nil))))) (.cons (.var 3) (.cons (.var 4) (.cons (.var 7) .nil)))))))) .nil)) (.cons (.whl (.cmp .gt (.bi .len (.cons (.var 10) .nil)) (.int 1)) (.cons (.set 13 (.call 25 (.cons (.var 10) .nil))) (.cons (.ex (.bm .append (.idx (.idx (.var 10) (.neg (.int 1))) (.int 2)) (.cons (.var 13) .nil))) .nil))) (.cons (.set 12 (.idx (.idx (.var 10) (.int 0)) (.int 2))) (.cons (.ife (.cmp .gt (.idx (.var 7) (.int 2)) (.int 0)) (.cons (.ex (.bm .insert (.var 12) (.cons (.bin .mod (.bin .fdiv (.var 6) (.int 3)) (.bin .add (.bi .len (.cons (.var 12) .nil)) (.int 1))) (.cons (.tup (.cons (.str "foot") (.cons (.idx (.var 3) (.var 2)) .nil))) .nil)))) .nil) .nil) (.cons (.ife (.not (.v (.idx (.var 7) (.int 4)))) (.cons (.ex (.bm .insert (.var 12) (.cons (.bin .mod (.bin .fdiv (.var 6) (.int 7)) (.bin .add (.bi .len (.cons (.var 12) .nil)) (.int 1))) (.cons (.tup (.cons (.str "sign") (.cons (.idx (.var 4) (.bin .mod (.bin .fdiv (.var 6) (.int 5)) (.int 3))) .nil))) .nil)))) .nil) .nil) (.cons (.ret (.call 25 (.cons (.var 10) .nil))) .nil)))))))))))
/-- _law_book -/
def b__law_book : Cs :=
  (.cons (.set 1 (.call 21 (.cons (.var 0) (.cons (.int 0) .nil)))) (.cons (.set 2 (.bin .add (.int 1) (.bin .mod (.var 1) (.int 6)))) (.cons (.set 3 (.call 22 (.cons (.call 21 (.cons (.var 0) (.cons (.int 1) .nil))) .nil))) (.cons (.set 4 (.call 23 (.cons (.call 21 (.cons (.var 0) (.cons (.int 2) .nil))) (.cons (.var 2) .nil)))) (.cons (.set 5 (.call 24 (.cons (.call 21 (.cons (.var 0) (.cons (.int 3) .nil))) .nil))) (.cons (.set 6 (.cmp .eq (.bin .mod (.bin .fdiv (.var 1) (.int 6)) (.int 2)) (.int 1))) (.cons (.set 7 (.ite (.v (.var 6)) (.int 0) (.bin .mod (.bin .fdiv (.var 1) (.int 12)) (.int 3)))) (.cons (.set 8 (.lst .nil)) (.cons (.for_ (.nm 9) (.rng1 (.var 2)) (.cons (.set 10 (.sl (.slst (.var 0) (.bin .add (.int 5) (.var 9)) (.var 2)) (.no) (.e (.int 24)))) (.cons (.set 11 (.call 21 (.cons (.var 10) (.cons (.int 0) .nil)))) (.cons (.set 12 (.cmp .eq (.bin .mod (.bin .fdiv (.var 11) (.int 4)) (.int 2)) (.int 1))) (.cons (.set 13 (.ite (.v (.var 6)) (.bin .mod (.var 11) (.int 4)) (.bin .mod (.var 11) (.int 3)))) (.cons (.ife (.and (.cmp .eq (.var 9) (.bin .mod (.bin .fdiv (.var 1) (.int 48)) (.var 2))) (.one (.cmp .ne (.bin .mod (.bin .fdiv (.var 1) (.int 288)) (.int 8)) (.int 7)))) (.cons (.set 12 (.bl false)) (.cons (.set 13 (.var 7)) .nil)) .nil) (.cons (.ex (.bm .append (.var 8) (.cons (.tup (.cons (.idx (.var 4) (.var 9)) (.cons (.call 30 (.cons (.var 10) (.cons (.var 12) (.cons (.var 13) (.cons (.var 3) (.cons (.var 5) (.cons (.var 6) .nil))))))) .nil))) .nil))) .nil))))))) (.cons (.ret (.tup (.cons (.idx (.var 3) (.var 7)) (.cons (.bi .tuple (.cons (.var 8) .nil)) .nil)))) .nil))))))))))
/-- _law_pieces -/
def b__law_pieces : Cs :=
  (.cons (.ex (.bm .append (.var 2) (.cons (.tup (.cons (.var 1) (.cons (.var 0) .nil))) .nil))) (.cons (.ife (.cmp .eq (.idx (.var 0) (.int 0)) (.str "knot")) (.cons (.for_ (.nm 3) (.rng1 (.bi .len (.cons (.idx (.var 0) (.int 3)) .nil))) (.cons (.ex (.call 32 (.cons (.idx (.idx (.var 0) (.int 3)) (.var 3)) (.cons (.bin .add (.var 1) (.tup (.cons (.var 3) .nil))) (.cons (.var 2) .nil))))) .nil)) .nil) .nil) (.cons (.ret (.var 2)) .nil)))
/-- _law_foot -/
def b__law_foot : Cs :=
  (.cons (.for_ (.tp [1, 2]) (.seq (.call 32 (.cons (.var 0) (.cons (.tup .nil) (.cons (.lst .nil) .nil))))) (.cons (.ife (.cmp .eq (.idx (.var 2) (.int 0)) (.str "foot")) (.cons (.ret (.idx (.var 2) (.int 1))) .nil) .nil) .nil)) (.cons (.ret (.non)) .nil))
/-- _law_where -/
def b__law_where : Cs :=
  (.cons (.set 1 (.lc (.tup (.cons (.var 3) (.cons (.call 33 (.cons (.var 4) .nil)) (.cons (.idx (.var 4) (.int 1)) .nil)))) (.tp [3, 4]) (.seq (.idx (.var 0) (.int 1))) (.yes) [("key", 3), ("tree", 4)])) (.cons (.set 2 (.dnk)) (.cons (.for_ (.tp [3, 4]) (.seq (.idx (.var 0) (.int 1))) (.cons (.set 5 (.lst .nil)) (.cons (.for_ (.tp [6, 7]) (.seq (.call 32 (.cons (.var 4) (.cons (.tup .nil) (.cons (.lst .nil) .nil))))) (.cons (.ife (.cmp .eq (.idx (.var 7) (.int 0)) (.str "hole")) (.cons (.set 8 (.lc (.var 9) (.tp [9, 10, 11]) (.seq (.var 1)) (.and (.cmp .is (.var 10) (.non)) (.one (.cmp .eq (.var 11) (.idx (.var 7) (.int 1))))) [("one", 9), ("foot", 10), ("name", 11)])) (.cons (.ex (.bm .append (.var 5) (.cons (.tup (.cons (.var 6) (.cons (.bl true) (.cons (.var 8) .nil)))) .nil))) .nil)) (.cons (.ife (.and (.cmp .eq (.idx (.var 7) (.int 0)) (.str "knot")) (.one (.cmp .isnot (.idx (.var 7) (.int 2)) (.non)))) (.cons (.set 8 (.lc (.var 9) (.tp [9, 10, 11]) (.seq (.var 1)) (.cmp .eq (.var 10) (.idx (.idx (.var 7) (.int 2)) (.int 0))) [("one", 9), ("foot", 10), ("name", 11)])) (.cons (.ex (.bm .append (.var 5) (.cons (.tup (.cons (.var 6) (.cons (.idx (.idx (.var 7) (.int 2)) (.int 1)) (.cons (.var 8) .nil)))) .nil))) .nil)) .nil) .nil)) .nil)) (.cons (.seti (.var 2) (.var 3) (.var 5)) .nil)))) (.cons (.ret (.var 2)) .nil))))
/-- _law_tops -/
def b__law_tops : Cs :=
  (.cons (.ret (.lc (.var 1) (.tp [1, 2]) (.seq (.idx (.var 0) (.int 1))) (.and (.cmp .is (.call 33 (.cons (.var 2) .nil)) (.non)) (.one (.cmp .eq (.idx (.var 2) (.int 1)) (.idx (.var 0) (.int 0))))) [("key", 1), ("tree", 2)])) .nil)
/-- _law_waits -/
def b__law_waits : Cs :=
  (.cons (.for_ (.tp [2, 3, 4]) (.seq (.var 0)) (.cons (.ife (.and (.v (.var 3)) (.one (.cmp .eq (.bi .len (.cons (.lc (.var 5) (.nm 5) (.seq (.var 4)) (.cmp .inn (.var 5) (.var 1)) [("key", 5)]) .nil)) (.int 0)))) (.cons (.ret (.bl true)) .nil) .nil) .nil)) (.cons (.ret (.bl false)) .nil))
/-- _law_ending -/
def b__law_ending : Cs :=
  (.cons (.set 1 (.dnk)) (.cons (.for_ (.nm 2) (.rng1 (.bi .len (.cons (.var 0) .nil))) (.cons (.for_ (.tp [3, 4]) (.items (.var 0)) (.cons (.ife (.not (.v (.call 36 (.cons (.var 4) (.cons (.var 1) .nil))))) (.cons (.seti (.var 1) (.var 3) (.bl true)) .nil) .nil) .nil)) .nil)) (.cons (.ret (.var 1)) .nil)))
/-- _law_used -/
def b__law_used : Cs :=
  (.cons (.set 3 (.lc (.var 5) (.nm 5) (.seq (.call 35 (.cons (.var 0) .nil))) (.cmp .inn (.var 5) (.var 2)) [("key", 5)])) (.cons (.for_ (.nm 4) (.rng1 (.bi .len (.cons (.var 1) .nil))) (.cons (.for_ (.tp [5, 6]) (.items (.var 1)) (.cons (.ife (.cmp .inn (.var 5) (.var 3)) (.cons (.for_ (.tp [7, 8, 9]) (.seq (.var 6)) (.cons (.ex (.bm .extend (.var 3) (.cons (.lc (.var 10) (.nm 10) (.seq (.var 9)) (.and (.cmp .inn (.var 10) (.var 2)) (.one (.cmp .notin (.var 10) (.var 3)))) [("one", 10)]) .nil))) .nil)) .nil) .nil) .nil)) .nil)) (.cons (.ret (.var 3)) .nil)))
/-- _law_whole -/
def b__law_whole : Cs :=
  (.cons (.ret (.and (.isi (.var 0) .int) (.one (.not (.isi (.var 0) .bool))))) .nil)
/-- _law_tried -/
def b__law_tried : Cs :=
  (.cons (.set 1 (.non)) (.cons (.set 2 (.bl false)) (.cons (.tryc (.cons (.set 1 (.call 17 (.cons (.var 0) .nil))) .nil) [(283, ⟨[(2, .bl true)], none⟩)]) (.cons (.ret (.tup (.cons (.var 2) (.cons (.var 1) .nil)))) .nil))))
/-- first_of_useful -/
def b_first_of_useful : Cs :=
  (.cons (.for_ (.nm 2) (.seq (.var 0)) (.cons (.ife (.cmp .inn (.var 2) (.var 1)) (.cons (.ret (.var 2)) .nil) .nil) .nil)) (.cons (.ret (.non)) .nil))
/-- are_numbers -/
def b_are_numbers : Cs :=
  (.cons (.ife (.not (.v (.isi (.var 0) .tuple))) (.cons (.ret (.bl false)) .nil) .nil) (.cons (.for_ (.nm 1) (.seq (.var 0)) (.cons (.ife (.or (.v (.isi (.var 1) .bool)) (.one (.not (.v (.isi (.var 1) .int))))) (.cons (.ret (.bl false)) .nil) .nil) .nil)) (.cons (.ret (.bl true)) .nil)))
/-- keys_at -/
def b_keys_at : Cs :=
  (.cons (.ife (.or (.not (.v (.isi (.var 1) .tuple))) (.or (.cmp .ne (.bi .len (.cons (.var 1) .nil)) (.int 2)) (.one (.not (.v (.isi (.idx (.var 1) (.int 0)) .str)))))) (.cons (.ret (.lst .nil)) .nil) .nil) (.cons (.ife (.or (.cmp .notin (.idx (.var 1) (.int 0)) (.var 0)) (.one (.not (.v (.call 44 (.cons (.idx (.var 1) (.int 1)) .nil)))))) (.cons (.ret (.lst .nil)) .nil) .nil) (.cons (.for_ (.tp [2, 3, 4]) (.seq (.idx (.var 0) (.idx (.var 1) (.int 0)))) (.cons (.ife (.cmp .eq (.var 2) (.idx (.var 1) (.int 1))) (.cons (.ret (.var 4)) .nil) .nil) .nil)) (.cons (.ret (.lst .nil)) .nil))))
/-- first_of_endless -/
def b_first_of_endless : Cs :=
  (.cons (.ife (.and (.v (.isi (.var 0) .tuple)) (.one (.cmp .gt (.bi .len (.cons (.var 0) .nil)) (.int 0)))) (.cons (.ret (.idx (.var 0) (.int 0))) .nil) .nil) (.cons (.ret (.non)) .nil))
/-- is_path -/
def b_is_path : Cs :=
  (.cons (.ife (.not (.v (.isi (.var 1) .list))) (.cons (.ret (.bl false)) .nil) .nil) (.cons (.for_ (.tp [3, 4]) (.enum (.var 1)) (.cons (.set 5 (.call 45 (.cons (.var 0) (.cons (.var 4) .nil)))) (.cons (.ife (.cmp .eq (.bi .len (.cons (.var 5) .nil)) (.int 0)) (.cons (.ret (.bl false)) .nil) .nil) (.cons (.set 6 (.var 2)) (.cons (.ife (.cmp .lt (.bin .add (.var 3) (.int 1)) (.bi .len (.cons (.var 1) .nil))) (.cons (.set 6 (.call 285 (.cons (.idx (.var 1) (.bin .add (.var 3) (.int 1))) .nil))) .nil) .nil) (.cons (.ife (.cmp .notin (.var 6) (.var 5)) (.cons (.ret (.bl false)) .nil) .nil) .nil)))))) (.cons (.ret (.bl true)) .nil)))
/-- is_round -/
def b_is_round : Cs :=
  (.cons (.ife (.or (.not (.v (.isi (.var 1) .list))) (.or (.not (.v (.isi (.var 2) .list))) (.one (.cmp .eq (.bi .len (.cons (.var 2) .nil)) (.int 0))))) (.cons (.ret (.bl false)) .nil) .nil) (.cons (.set 3 (.idx (.call 10 (.cons (.var 0) .nil)) (.int 2))) (.cons (.set 4 (.dnk)) (.cons (.for_ (.tp [5, 7]) (.items (.call 4 (.cons (.var 0) .nil))) (.cons (.ife (.cmp .notin (.var 5) (.var 3)) (.cons (.seti (.var 4) (.var 5) (.var 7)) .nil) .nil) .nil)) (.cons (.set 5 (.call 285 (.cons (.idx (.var 2) (.int 0)) .nil))) (.cons (.set 6 (.var 5)) (.cons (.ife (.cmp .gt (.bi .len (.cons (.var 1) .nil)) (.int 0)) (.cons (.set 6 (.call 285 (.cons (.idx (.var 1) (.int 0)) .nil))) .nil) .nil) (.cons (.ret (.and (.cmp .inn (.var 6) (.call 5 (.cons (.var 0) .nil))) (.and (.call 46 (.cons (.var 4) (.cons (.var 1) (.cons (.var 5) .nil)))) (.one (.call 46 (.cons (.var 4) (.cons (.var 2) (.cons (.var 5) .nil)))))))) .nil))))))))
/-- _law_draws -/
def b__law_draws : Cs :=
  (.cons (.set 0 (.bin .mod (.var 0) (.bin .pow (.int 10) (.int 60)))) (.cons (.set 2 (.cmp .ge (.var 0) (.bin .pow (.int 10) (.int 18)))) (.cons (.set 3 (.lst .nil)) (.cons (.for_ (.nm 4) (.rng1 (.var 1)) (.cons (.ife (.v (.var 2)) (.cons (.ex (.bm .append (.var 3) (.cons (.bin .mod (.var 0) (.int 1000)) .nil))) (.cons (.set 0 (.bin .fdiv (.var 0) (.int 1000))) .nil)) (.cons (.set 5 (.bin .mod (.bin .mul (.bin .add (.bin .add (.var 0) (.int 17)) (.bin .mul (.bin .mul (.var 4) (.var 4)) (.int 7919))) (.int 48271)) (.int 2147483647))) (.cons (.ex (.bm .append (.var 3) (.cons (.bin .mod (.bin .fdiv (.bin .mod (.bin .mul (.var 5) (.var 5)) (.int 2147483629)) (.int 7)) (.int 1000)) .nil))) .nil))) .nil)) (.cons (.ret (.var 3)) .nil)))))
/-- has_foot -/
def b_has_foot : Cs :=
  (.cons (.ife (.cmp .eq (.idx (.var 0) (.int 0)) (.str "foot")) (.cons (.ret (.bl true)) .nil) .nil) (.cons (.ret (.and (.cmp .eq (.idx (.var 0) (.int 0)) (.str "knot")) (.one (.bi .any (.cons (.lc (.call 67 (.cons (.var 1) .nil)) (.nm 1) (.seq (.idx (.var 0) (.int 3))) (.yes) [("kid", 1)]) .nil))))) .nil))
/-- none_said -/
def b_none_said : Cs :=
  (.cons (.ret (.lc (.dnk) (.nm 1) (.rng1 (.bin .add (.var 0) (.int 1))) (.yes) [("total", 1)])) .nil)
/-- said_behind -/
def b_said_behind : Cs :=
  (.cons (.set 3 (.bin .sub (.bi .len (.cons (.var 0) .nil)) (.int 1))) (.cons (.set 4 (.call 68 (.cons (.var 3) .nil))) (.cons (.for_ (.nm 5) (.rng1 (.bin .add (.var 3) (.int 1))) (.cons (.for_ (.nm 6) (.rng1 (.bin .sub (.bin .add (.var 3) (.int 1)) (.var 5))) (.cons (.for_ (.tp [7, 8]) (.seq (.bi .list (.cons (.idx (.var 0) (.var 5)) .nil))) (.cons (.for_ (.tp [9, 10]) (.seq (.bi .list (.cons (.idx (.var 1) (.var 6)) .nil))) (.cons (.set 11 (.ite (.v (.var 2)) (.tup (.cons (.var 7) (.cons (.bin .add (.var 8) (.var 9)) .nil))) (.tup (.cons (.bin .add (.var 7) (.var 9)) (.cons (.var 10) .nil))))) (.cons (.seti (.idx (.var 4) (.bin .add (.var 5) (.var 6))) (.var 11) (.bl true)) .nil))) .nil)) .nil)) .nil)) (.cons (.ret (.var 4)) .nil))))
/-- said_around -/
def b_said_around : Cs :=
  (.cons (.set 3 (.bin .sub (.bi .len (.cons (.var 1) .nil)) (.int 1))) (.cons (.set 4 (.call 68 (.cons (.var 3) .nil))) (.cons (.for_ (.nm 5) (.rng1 (.bi .min (.cons (.bin .add (.var 3) (.int 1)) (.cons (.bi .len (.cons (.var 0) .nil)) .nil)))) (.cons (.for_ (.nm 6) (.rng1 (.bin .sub (.bin .add (.var 3) (.int 1)) (.var 5))) (.cons (.for_ (.tp [7, 8]) (.seq (.idx (.var 0) (.var 5))) (.cons (.for_ (.tp [9, 10]) (.seq (.bi .list (.cons (.idx (.var 1) (.var 6)) .nil))) (.cons (.set 11 (.ite (.v (.var 2)) (.tup (.cons (.bin .add (.var 7) (.var 9)) (.cons (.bin .add (.var 10) (.var 8)) .nil))) (.tup (.cons (.bin .add (.bin .add (.var 7) (.var 9)) (.var 8)) (.cons (.tup .nil) .nil))))) (.cons (.seti (.idx (.var 4) (.bin .add (.var 5) (.var 6))) (.var 11) (.bl true)) .nil))) .nil)) .nil)) .nil)) (.cons (.ret (.var 4)) .nil))))
/-- leaf_says -/
def b_leaf_says : Cs :=
  (.cons (.set 4 (.call 68 (.cons (.var 3) .nil))) (.cons (.ife (.cmp .eq (.idx (.var 0) (.int 0)) (.str "hole")) (.cons (.for_ (.nm 5) (.seq (.get2 (.var 2) (.tup (.cons (.bl false) (.cons (.idx (.var 0) (.int 1)) .nil))) (.lst .nil))) (.cons (.for_ (.nm 6) (.rng1 (.bi .min (.cons (.bin .add (.var 3) (.int 1)) (.cons (.bi .len (.cons (.idx (.var 1) (.var 5)) .nil)) .nil)))) (.cons (.for_ (.nm 7) (.seq (.idx (.idx (.var 1) (.var 5)) (.var 6))) (.cons (.seti (.idx (.var 4) (.var 6)) (.var 7) (.bl true)) .nil)) .nil)) .nil)) .nil) (.cons (.ife (.cmp .eq (.idx (.var 0) (.int 0)) (.str "sign")) (.cons (.ife (.cmp .gt (.var 3) (.int 0)) (.cons (.seti (.idx (.var 4) (.int 1)) (.tup (.cons (.tup (.cons (.idx (.var 0) (.int 1)) .nil)) (.cons (.tup .nil) .nil))) (.bl true)) .nil) .nil) .nil) (.cons (.seti (.idx (.var 4) (.int 0)) (.tup (.cons (.tup .nil) (.cons (.tup .nil) .nil))) (.bl true)) .nil)) .nil)) (.cons (.ret (.var 4)) .nil)))
/-- can_end -/
def b_can_end : Cs :=
  (.cons (.ife (.cmp .lt (.var 1) (.bi .len (.cons (.var 0) .nil))) (.cons (.ret (.cmp .gt (.idx (.idx (.idx (.var 0) (.var 1)) (.int 1)) (.var 2)) (.int 0))) .nil) .nil) (.cons (.ret (.cmp .eq (.var 2) (.int 0))) .nil))
/-- spread_on -/
def b_spread_on : Cs :=
  (.cons (.asg (.tp [6, 7, 8]) (.idx (.var 0) (.var 1))) (.cons (.asg (.tp [9, 10, 11]) (.idx (.var 6) (.var 2))) (.cons (.set 5 (.lst .nil)) (.cons (.for_ (.tp [12, 13]) (.seq (.var 3)) (.cons (.ife (.and (.not (.v (.var 10))) (.one (.v (.call 76 (.cons (.var 8) (.cons (.bin .add (.var 2) (.int 1)) (.cons (.var 13) .nil))))))) (.cons (.ex (.bm .append (.var 5) (.cons (.tup (.cons (.var 12) (.cons (.var 13) .nil))) .nil))) .nil) .nil) (.cons (.for_ (.nm 14) (.rng2 (.int 1) (.bin .add (.var 13) (.int 1))) (.cons (.ife (.v (.call 76 (.cons (.var 8) (.cons (.bin .add (.var 2) (.int 1)) (.cons (.bin .sub (.var 13) (.var 14)) .nil))))) (.cons (.for_ (.nm 15) (.seq (.var 11)) (.cons (.for_ (.nm 16) (.seq (.call 78 (.cons (.var 0) (.cons (.var 15) (.cons (.var 14) (.cons (.var 4) .nil)))))) (.cons (.ex (.bm .append (.var 5) (.cons (.tup (.cons (.bin .add (.var 12) (.tup (.cons (.tup (.cons (.var 9) (.cons (.var 16) .nil))) .nil))) (.cons (.bin .sub (.var 13) (.var 14)) .nil))) .nil))) .nil)) .nil)) .nil) .nil) .nil)) .nil))) (.cons (.ret (.var 5)) .nil)))))
/-- plans_by -/
def b_plans_by : Cs :=
  (.cons (.asg (.tp [4, 5, 6]) (.idx (.var 0) (.var 1))) (.cons (.ife (.cmp .eq (.idx (.var 5) (.var 2)) (.int 0)) (.cons (.ret (.lst .nil)) .nil) .nil) (.cons (.ife (.cmp .notin (.tup (.cons (.var 1) (.cons (.var 2) .nil))) (.var 3)) (.cons (.set 7 (.lst (.cons (.tup (.cons (.tup .nil) (.cons (.bin .sub (.var 2) (.int 1)) .nil))) .nil))) (.cons (.for_ (.nm 8) (.rng1 (.bi .len (.cons (.var 4) .nil))) (.cons (.set 7 (.call 77 (.cons (.var 0) (.cons (.var 1) (.cons (.var 8) (.cons (.var 7) (.cons (.var 3) .nil))))))) .nil)) (.cons (.seti (.var 3) (.tup (.cons (.var 1) (.cons (.var 2) .nil))) (.lc (.tup (.cons (.var 1) (.cons (.var 9) .nil))) (.tp [9, 10]) (.seq (.var 7)) (.yes) [("puts", 9), ("left", 10)])) .nil))) .nil) (.cons (.ret (.idx (.var 3) (.tup (.cons (.var 1) (.cons (.var 2) .nil))))) .nil))))
end GA
open PySem VM
local macro_rules | `(tactic| walk_at "ev") => `(tactic| simp (disch := first | assumption | (simp only [List.length_set, List.length_append, List.length_cons, List.length_nil, List.length_map, ne_eq] <;> omega) | omega) only [wp_cons, wp_nil, wp_ife, wp_set, wp_asg, wp_ex, wp_ret, wp_retn, wp_pass, wp_brk, wp_cnt, wp_aug, wp_seti, wp_augi, wp_rais, wp_tryc, wp_whl, wp_for, wt_and, wt_or, wt_one, wt_not, wt_yes, wt_v, wt_cmp, wt_chain,
  we_cmp, we_chain, we_and, we_or, we_one, we_ite, we_not, we_neg, we_var, we_non, we_bl, we_int, we_str, we_gc, we_tup, we_lst, we_bin, we_idx, we_sl, we_rev, we_call, we_bi, we_bm, we_isi, we_lrg, we_lc, wa_nil, wa_cons, wo_no, wo_e, wi_seq, wi_rng1, wi_rng2, wi_rng3, wi_items, wi_enum, wi_zip, enumI_tup, enumI_ref, zipI_tr, zipI_rr, we_dnk, we_dnt, we_disp, we_sm, ws_lower, ws_upper, we_strip1, ws_strip, we_maxd, we_slst, wsst, wsst_fz, we_pop0, wpop, wext, we_get1, we_get2, we_setdef, we_popk, wmax2, wmin2, wint_bl, wint_int, wstr_int, wlist_fz, wi_idx_fz, ws_fz, idxRf_ref, wrev_tup, wmul_tup, wmul_ref, wins, wd_str, setd_str, setd_tup, dicAt_set, dicAt_set_ne, dicAt_app, dicAt_newE, dicU_set, dicU_set_ne, dicU_app, dicU_newE, dinU_set, dinU_set_ne, dinU_app, dinU_newE, dinAt_set, dinAt_set_ne, dinAt_app, dinAt_newE,
  wp_optD, wp_ifn, eqD_int, eqD_str, eqD_bl, copB_eq, copB_ne, copB_lt, copB_le, copB_gt, copB_ge, copB_is, copB_isnot, copB_in, copB_notin, isNon_non, isNon_int, isNon_tup, isNon_str, isNon_ref, wi_idx_ref, wi_idx_tup, wi_idx_str, ws_ref, ws_tup, ws_str, wr_ref, wl_ref, wl_tup, wl_fz, wl_str, wtup_ref, wtup_tup, wlist_ref, wlist_tup, wapp, bmTy_ref,
  wsub, wadd, wmul, wfdiv, wmod, wpow, wadd_str, wadd_tup, wadd_ref, wmul_str, waug_add, waug_sub, seti_ref, seqI_tup, seqI_fz, seqI_str, seqI_ref, tru_bl, tru_int, tru_non, atI_ofNat, ixN_ofNat,
  List.getElem?_cons_zero, List.getElem?_cons_succ, List.set_cons_zero, List.set_cons_succ, List.map_cons, List.map_nil, List.cons_append, List.nil_append, List.replicate_succ, List.replicate_zero, List.append_nil, List.length_cons, List.length_nil, Nat.sub_self, Nat.reduceSub, Nat.reduceAdd, Nat.reduceLT, Int.reduceLT, Int.reduceLE, Int.reduceNeg, Int.reducePow, Int.reduceToNat, Int.toNat_natCast, wipeR_nil, wipeR_cons, bindT_nm, bindT_tp, setMany_nil, setMany_cons,
  Option.map_some, exists_eq, exists_eq', Option.some.injEq, exists_eq_left', exists_eq_left, exists_eq_right, D.int.injEq, D.bl.injEq, D.str.injEq, D.tup.injEq, D.ref.injEq, and_true, true_and, if_true, ite_true, decide_true, decide_false, Bool.not_true, Bool.not_false,
  seqQ_nx, seqQ_nil, seqQ_brk, seqQ_cnt, seqQ_ret, seqQ_rz, tryQ_nx, tryQ_rz, tryQ_ret, tryQ_brk, tryQ_cnt, rzQ_, forQ_rz, retQ_rz, lkQ_nx, lkQ_ret, ifQ_t, ifQ_f, retQ_ret, retQ_nx, andQ_t, andQ_f, orQ_t, orQ_f, notQ_, andE_t, andE_f, orE_t, orE_f, iteE_t, iteE_f, chT_t, chT_f, chE_t, chE_f, lcQ_t, lcQ_f, forQ_nx, forQ_cnt, forQ_brk, forQ_ret, cut_from, cut_to, cut_from1, cut_fromL, cut_toL, List.drop_succ_cons, beq_self_eq_true, List.drop_zero, lstAt_set, lstAt_set_ne, lstAt_app, lstAt_newE, List.length_set, or_true, true_or, *])
local macro_rules | `(tactic| walk_at "ev1") => `(tactic| simp (disch := first | assumption | (simp only [List.length_set, List.length_append, List.length_cons, List.length_nil, List.length_map, ne_eq] <;> omega) | omega) only [wp_nil, wp_ife, wp_set, wp_asg, wp_ex, wp_ret, wp_retn, wp_pass, wp_brk, wp_cnt, wp_aug, wp_seti, wp_augi, wp_rais, wp_tryc, wp_whl, wp_for, wt_and, wt_or, wt_one, wt_not, wt_yes, wt_v, wt_cmp, wt_chain,
  we_cmp, we_chain, we_and, we_or, we_one, we_ite, we_not, we_neg, we_var, we_non, we_bl, we_int, we_str, we_gc, we_tup, we_lst, we_bin, we_idx, we_sl, we_rev, we_call, we_bi, we_bm, we_isi, we_lrg, we_lc, wa_nil, wa_cons, wo_no, wo_e, wi_seq, wi_rng1, wi_rng2, wi_rng3, wi_items, wi_enum, wi_zip, enumI_tup, enumI_ref, zipI_tr, zipI_rr, we_dnk, we_dnt, we_disp, we_sm, ws_lower, ws_upper, we_strip1, ws_strip, we_maxd, we_slst, wsst, wsst_fz, we_pop0, wpop, wext, we_get1, we_get2, we_setdef, we_popk, wmax2, wmin2, wint_bl, wint_int, wstr_int, wlist_fz, wi_idx_fz, ws_fz, idxRf_ref, wrev_tup, wmul_tup, wmul_ref, wins, wd_str, setd_str, setd_tup, dicAt_set, dicAt_set_ne, dicAt_app, dicAt_newE, dicU_set, dicU_set_ne, dicU_app, dicU_newE, dinU_set, dinU_set_ne, dinU_app, dinU_newE, dinAt_set, dinAt_set_ne, dinAt_app, dinAt_newE,
  wp_optD, wp_ifn, eqD_int, eqD_str, eqD_bl, copB_eq, copB_ne, copB_lt, copB_le, copB_gt, copB_ge, copB_is, copB_isnot, copB_in, copB_notin, isNon_non, isNon_int, isNon_tup, isNon_str, isNon_ref, wi_idx_ref, wi_idx_tup, wi_idx_str, ws_ref, ws_tup, ws_str, wr_ref, wl_ref, wl_tup, wl_fz, wl_str, wtup_ref, wtup_tup, wlist_ref, wlist_tup, wapp, bmTy_ref,
  wsub, wadd, wmul, wfdiv, wmod, wpow, wadd_str, wadd_tup, wadd_ref, wmul_str, waug_add, waug_sub, seti_ref, seqI_tup, seqI_fz, seqI_str, seqI_ref, tru_bl, tru_int, tru_non, atI_ofNat, ixN_ofNat,
  List.getElem?_cons_zero, List.getElem?_cons_succ, List.set_cons_zero, List.set_cons_succ, List.map_cons, List.map_nil, List.cons_append, List.nil_append, List.replicate_succ, List.replicate_zero, List.append_nil, List.length_cons, List.length_nil, Nat.sub_self, Nat.reduceSub, Nat.reduceAdd, Nat.reduceLT, Int.reduceLT, Int.reduceLE, Int.reduceNeg, Int.reducePow, Int.reduceToNat, Int.toNat_natCast, wipeR_nil, wipeR_cons, bindT_nm, bindT_tp, setMany_nil, setMany_cons,
  Option.map_some, exists_eq, exists_eq', Option.some.injEq, exists_eq_left', exists_eq_left, exists_eq_right, D.int.injEq, D.bl.injEq, D.str.injEq, D.tup.injEq, D.ref.injEq, and_true, true_and, if_true, ite_true, decide_true, decide_false, Bool.not_true, Bool.not_false,
  seqQ_nil, seqQ_brk, seqQ_cnt, seqQ_ret, seqQ_rz, tryQ_nx, tryQ_rz, tryQ_ret, tryQ_brk, tryQ_cnt, rzQ_, forQ_rz, retQ_rz, lkQ_nx, lkQ_ret, ifQ_t, ifQ_f, retQ_ret, retQ_nx, andQ_t, andQ_f, orQ_t, orQ_f, notQ_, andE_t, andE_f, orE_t, orE_f, iteE_t, iteE_f, chT_t, chT_f, chE_t, chE_f, lcQ_t, lcQ_f, forQ_nx, forQ_cnt, forQ_brk, forQ_ret, cut_from, cut_to, cut_from1, cut_fromL, cut_toL, List.drop_succ_cons, beq_self_eq_true, List.drop_zero, lstAt_set, lstAt_set_ne, lstAt_app, lstAt_newE, List.length_set, or_true, true_or, *])
namespace GA
open PySem VM
/-! ### small tools -/
theorem _root_.VM.Ext.dic {S S' : Sto} {n : Nat} {kvs : List (L2.Key × D)} (k : Ext S S') (h : dicAt S n = some kvs) : dicAt S' n = some kvs := by
  unfold dicAt at h ⊢
  rw [k.at_ n (dicAt_lt h)]
  exact h
theorem _root_.VM.Ext.dicU {S S' : Sto} {n : Nat} {kvs : List (L2.Key × D)} (k : Ext S S') (h : dicU S n = some kvs) : dicU S' n = some kvs := by
  unfold VM.dicU at h ⊢
  rw [k.at_ n (dicAt_lt (dicU_at h))]
  exact h
theorem _root_.VM.Ext.din {S S' : Sto} {n : Nat} {kvs : List (NestedKey × D × D)} (k : Ext S S') (h : dinAt S n = some kvs) : dinAt S' n = some kvs := by
  unfold dinAt at h ⊢
  rw [k.at_ n (dinAt_lt h)]
  exact h
theorem _root_.VM.Ext.dinU {S S' : Sto} {n : Nat} {kvs : List (NestedKey × D × D)} (k : Ext S S') (h : dinU S n = some kvs) : dinU S' n = some kvs := by
  unfold VM.dinU at h ⊢
  rw [k.at_ n (dinAt_lt (dinU_at h))]
  exact h
theorem _root_.VM.Ext.app1 {S S' : Sto} (h : Ext S S') (o : O) : Ext S (S' ++ [o]) := h.trans (Ext.app _ _)
def cellA (xs : List Int) (k : Nat) : Int := (xs[k]?).getD 0
structure HasDraw (tbl : List (Nat × Fd)) : Prop where
  cell : tbl.lookup 21 = some ⟨2, 2, b__law_cell_at⟩
  names : tbl.lookup 22 = some ⟨1, 4, b__law_names⟩
  keys : tbl.lookup 23 = some ⟨2, 5, b__law_keys⟩
  signs : tbl.lookup 24 = some ⟨1, 6, b__law_signs⟩
  shut : tbl.lookup 25 = some ⟨1, 4, b__law_shut⟩
  takes : tbl.lookup 26 = some ⟨3, 3, b__law_takes⟩
  lay : tbl.lookup 27 = some ⟨6, 10, b__law_lay⟩
  name : tbl.lookup 28 = some ⟨4, 4, b__law_name⟩
  left : tbl.lookup 29 = some ⟨3, 3, b__law_left⟩
  tree : tbl.lookup 30 = some ⟨6, 14, b__law_tree⟩
  book : tbl.lookup 31 = some ⟨1, 14, b__law_book⟩
section
variable {sub : Nat → Nat → Bool} {tbl : List (Nat × Fd)} {k : Nat} {S : Sto}
theorem cell_fz (hp : HasDraw tbl) {xs : List Int} {j : Nat} : Wx NoX (callN sub tbl (k + 1) 21 [.fz (xs.map .int), .int j] S) fun d S' => d = .int (cellA xs j) ∧ S' = S := by
  refine Wp.gen fun Q hQ => ?_
  refine wp_call hp.cell rfl ?_
  unfold b__law_cell_at
  try walk_at "ev"
  refine ifQ_by (fun h => ?_) (fun h => ?_)
  · have h := of_decide_eq_true h
    rw [List.length_map] at h
    have hj : j < xs.length := by omega
    have e : (xs.map D.int)[j]? = some (.int xs[j]) := by rw [List.getElem?_map, List.getElem?_eq_getElem hj]; rfl
    rw [wp_cons, wp_ret, we_idx]
    try walk_at "ev"
    rw [atI_cast, e]
    refine ⟨_, rfl, hQ _ _ ⟨?_, rfl⟩⟩
    unfold cellA
    rw [List.getElem?_eq_getElem hj]
    rfl
  · have h := of_decide_eq_false h
    rw [List.length_map] at h
    have hj : xs.length ≤ j := by omega
    try walk_at "ev"
    refine hQ _ _ ⟨?_, rfl⟩
    unfold cellA
    rw [List.getElem?_eq_none hj]
    rfl
theorem cell_ref (hp : HasDraw tbl) {xs : List Int} {j n : Nat} (hn : lstAt S n = some (xs.map .int)) : Wx NoX (callN sub tbl (k + 1) 21 [.ref n, .int j] S) fun d S' => d = .int (cellA xs j) ∧ S' = S := by
  refine Wp.gen fun Q hQ => ?_
  refine wp_call hp.cell rfl ?_
  unfold b__law_cell_at
  try walk_at "ev"
  refine ifQ_by (fun h => ?_) (fun h => ?_)
  · have h := of_decide_eq_true h
    rw [List.length_map] at h
    have hj : j < xs.length := by omega
    have e : (xs.map D.int)[j]? = some (.int xs[j]) := by rw [List.getElem?_map, List.getElem?_eq_getElem hj]; rfl
    try walk_at "ev"
    rw [atI_cast, e]
    refine ⟨_, rfl, hQ _ _ ⟨?_, rfl⟩⟩
    unfold cellA
    rw [List.getElem?_eq_getElem hj]
    rfl
  · have h := of_decide_eq_false h
    rw [List.length_map] at h
    have hj : xs.length ≤ j := by omega
    try walk_at "ev"
    refine hQ _ _ ⟨?_, rfl⟩
    unfold cellA
    rw [List.getElem?_eq_none hj]
    rfl
end

end GA
namespace GA
open PySem VM
theorem atI_in {α : Type} {xs : List α} {i : Int} (h0 : 0 ≤ i) (h1 : i < xs.length) : ∃ x, L2.atI xs i = some x ∧ xs[i.toNat]? = some x := by
  obtain ⟨n, rfl⟩ : ∃ n : Nat, i = n := ⟨i.toNat, by omega⟩
  have hn : n < xs.length := by omega
  exact ⟨xs[n], by rw [atI_cast, List.getElem?_eq_getElem hn], by rw [Int.toNat_natCast, List.getElem?_eq_getElem hn]⟩
theorem atI_map {α β : Type} {f : α → β} {xs : List α} {i : Int} (h0 : 0 ≤ i) (h1 : i < xs.length) : ∃ x ∈ xs, L2.atI (xs.map f) i = some (f x) := by
  obtain ⟨n, rfl⟩ : ∃ n : Nat, i = n := ⟨i.toNat, by omega⟩
  have hn : n < xs.length := by omega
  exact ⟨xs[n], List.getElem_mem hn, by rw [atI_cast, List.getElem?_map, List.getElem?_eq_getElem hn]; rfl⟩
def repS (x : Str) (n : Nat) : Str := ⟨(List.replicate n x.cps.toList).flatten.toArray⟩
theorem repS_mk (x : Str) (n : Nat) : (⟨(List.replicate n x.cps.toList).flatten.toArray⟩ : Str) = repS x n := rfl
theorem repS_mk1 (c n : Nat) : (⟨(List.replicate n [c]).flatten.toArray⟩ : Str) = repS ⟨#[c]⟩ n := rfl
theorem repS_len (x : Str) (n : Nat) : (repS x n).length = n * x.length := by
  show ((List.replicate n x.cps.toList).flatten.toArray).size = n * x.cps.size
  simp
structure OneS (x : Str) : Prop where
  one : x.length = 1
theorem app_len (x y : Str) : (x ++ y).length = x.length + y.length := by
  show (x.cps ++ y.cps).size = _
  simp [Str.length]
theorem len26 : (Str.cps "ABCDEFGHIJKLMNOPQRSTUVWXYZ").toList.length = 26 := by decide +kernel
theorem len26b : (Str.cps "abcdefghijklmnopqrstuvwxyz").toList.length = 26 := by decide +kernel
theorem len1 (c : Nat) : Str.length ⟨#[c]⟩ = 1 := rfl
theorem take_map_range {α : Type} (f : Nat → α) (n i : Nat) (h : i ≤ n) : ((List.range n).map f).take i = (List.range i).map f := by
  rw [← List.map_take, List.take_range, Nat.min_eq_left h]
section
variable {sub : Nat → Nat → Bool} {tbl : List (Nat × Fd)} {k : Nat} {S : Sto}
theorem names_sp (hp : HasDraw tbl) {c : Int} : Wx NoX (callN sub tbl (k + 1) 22 [.int c] S) fun d S' => ∃ (r : Nat) (ws : List Str), d = .ref r ∧ Ext S S' ∧ S.length ≤ r ∧ lstAt S' r = some (ws.map .str) ∧ ws.length = 6 := by
  refine Wp.gen fun Q hQ => ?_
  have sz : sizeLine = 16777216 := rfl
  refine wp_call hp.names rfl ?_
  unfold b__law_names
  try walk_at "ev"
  obtain ⟨x, e1, _⟩ := atI_in (xs := (Str.cps "ABCDEFGHIJKLMNOPQRSTUVWXYZ").toList) (i := c % 26) (by omega) (by rw [len26]; omega)
  rw [e1]
  refine ⟨by decide +kernel, _, rfl, ?_⟩
  refine ifQ_by (fun _ => ?_) (fun _ => ?_)
  · try walk_at "ev"
    refine wp_lF (fun i acc S' => S' = S ∧ ∃ ws : List Str, acc = ws.map .str ∧ ws.length = i) ⟨rfl, [], rfl, rfl⟩ ?_ ?_
    · rintro i d acc S' hd ⟨rfl, ws, rfl, hw⟩ J K hJ hK
      rw [List.getElem?_map] at hd
      cases e : (List.range 6)[i]? with
      | none => rw [e] at hd; cases hd
      | some j =>
        rw [e] at hd
        cases hd
        obtain ⟨hi, hj⟩ := List.getElem?_eq_some_iff.mp e
        rw [List.getElem_range] at hj
        rw [List.length_range] at hi
        subst hj
        refine ⟨_, rfl, ?_⟩
        try walk_at "ev"
        refine ⟨⟨by omega, by omega, by rw [len1]; omega⟩, ?_⟩
        refine hJ _ _ (by rw [List.length_map]; omega) ⟨rfl, ws ++ [_], by rw [List.map_append]; rfl, by simp [hw]⟩
    · rintro acc S' ⟨rfl, ws, rfl, hw⟩
      try walk_at "ev"
      refine hQ _ _ ⟨_, ws, rfl, Ext.app _ _, Nat.le_refl _, lstAt_new, by simpa using hw⟩
  · try walk_at "ev"
    refine wp_lF (fun i acc S' => S' = S ∧ ∃ ws : List Str, acc = ws.map .str ∧ ws.length = i) ⟨rfl, [], rfl, rfl⟩ ?_ ?_
    · rintro i d acc S' hd ⟨rfl, ws, rfl, hw⟩ J K hJ hK
      rw [List.getElem?_map] at hd
      cases e : (List.range 6)[i]? with
      | none => rw [e] at hd; cases hd
      | some j =>
        rw [e] at hd
        cases hd
        obtain ⟨hi, hj⟩ := List.getElem?_eq_some_iff.mp e
        rw [List.getElem_range] at hj
        rw [List.length_range] at hi
        subst hj
        refine ⟨_, rfl, ?_⟩
        obtain ⟨y, e2, _⟩ := atI_in (xs := (Str.cps "053172").toList) (i := (i : Int)) (by omega) (by rw [show (Str.cps "053172").toList.length = 6 by decide +kernel]; omega)
        try walk_at "ev"
        refine ⟨⟨by omega, by omega, by rw [len1]; omega⟩, by decide +kernel, ?_, ⟨by omega, by omega, by rw [len1]; omega⟩, ?_, ?_⟩
        · rw [repS_mk1, repS_len, len1, len1]; omega
        · rw [repS_mk1, repS_mk1, app_len, repS_len, repS_len, len1, len1]; omega
        · exact hJ _ _ (by rw [List.length_map]; omega) ⟨rfl, ws ++ [_], by rw [List.map_append]; rfl, by simp [hw]⟩
    · rintro acc S' ⟨rfl, ws, rfl, hw⟩
      try walk_at "ev"
      refine hQ _ _ ⟨_, ws, rfl, Ext.app _ _, Nat.le_refl _, lstAt_new, by simpa using hw⟩
/-- the keys -/
def keyW (t : Bool) (c m e : Nat) (j : Nat) : Str :=
  if t then repS ⟨#[c]⟩ (m + ([4, 1, 6, 2, 5, 3][j]?).getD 0) else repS ⟨#[c]⟩ (m + 1) ++ ⟨#[((Str.cps "427130").toList[j]?).getD 0]⟩ ++ repS ⟨#[c]⟩ e
theorem repS_one (c n : Nat) : (repS ⟨#[c]⟩ n).cps.toList = List.replicate n c := by
  show (List.replicate n [c]).flatten.toArray.toList = _
  induction n with
  | zero => rfl
  | succ n ih =>
    rw [List.replicate_succ, List.replicate_succ, List.flatten_cons]
    simp only [List.cons_append, List.nil_append] at ih ⊢
    rw [ih]
theorem keyW_inj {t : Bool} {c m e i j : Nat} (hi : i < 6) (hj : j < 6) (h : keyW t c m e i = keyW t c m e j) : i = j := by
  unfold keyW at h
  cases t with
  | true =>
    simp only [if_true] at h
    have h := congrArg Str.length h
    rw [repS_len, repS_len, len1, Nat.mul_one, Nat.mul_one] at h
    have h : ([4, 1, 6, 2, 5, 3][i]?).getD 0 = ([4, 1, 6, 2, 5, 3][j]?).getD 0 := by omega
    have : ∀ i, i < 6 → ∀ j, j < 6 → ([4, 1, 6, 2, 5, 3][i]?).getD 0 = ([4, 1, 6, 2, 5, 3][j]?).getD 0 → i = j := by decide +kernel
    exact this i hi j hj h
  | false =>
    simp only [Bool.false_eq_true, if_false] at h
    have h := congrArg (fun s : Str => s.cps.toList[m + 1]?) h
    have key : ∀ y : Nat, (repS ⟨#[c]⟩ (m + 1) ++ (⟨#[y]⟩ : Str) ++ repS ⟨#[c]⟩ e).cps.toList[m + 1]? = some y := fun y => by
      show ((repS ⟨#[c]⟩ (m + 1)).cps ++ #[y] ++ (repS ⟨#[c]⟩ e).cps).toList[m + 1]? = some y
      rw [Array.toList_append, Array.toList_append, repS_one, List.append_assoc, List.getElem?_append_right (by simp)]
      simp
    simp only [key] at h
    have h := Option.some.inj h
    have : ∀ i, i < 6 → ∀ j, j < 6 → ((Str.cps "427130").toList[i]?).getD 0 = ((Str.cps "427130").toList[j]?).getD 0 → i = j := by decide +kernel
    exact this i hi j hj h
theorem keys_sp (hp : HasDraw tbl) {c : Int} {n : Nat} (hn : n ≤ 6) : Wx NoX (callN sub tbl (k + 1) 23 [.int c, .int n] S) fun d S' => ∃ (r : Nat) (ws : List Str), d = .ref r ∧ Ext S S' ∧ S.length ≤ r ∧ lstAt S' r = some (ws.map .str) ∧ ws.length = n ∧ ws.Nodup := by
  refine Wp.gen fun Q hQ => ?_
  have sz : sizeLine = 16777216 := rfl
  refine wp_call hp.keys rfl ?_
  unfold b__law_keys
  have nd : ∀ t x m e, ((List.range n).map (keyW t x m e)).Nodup := fun t x m e => by
    refine List.pairwise_map.mpr (List.Pairwise.imp_of_mem ?_ List.nodup_range)
    intro i j h1 h2 hne he
    rw [List.mem_range] at h1 h2
    exact hne (keyW_inj (by omega) (by omega) he)
  try walk_at "ev"
  obtain ⟨x, e1, _⟩ := atI_in (xs := (Str.cps "abcdefghijklmnopqrstuvwxyz").toList) (i := c % 26) (by omega) (by rw [len26b]; omega)
  rw [e1]
  refine ⟨by decide +kernel, _, rfl, ?_⟩
  refine ifQ_by (fun _ => ?_) (fun _ => ?_)
  · try walk_at "ev"
    refine ⟨⟨by omega, by omega⟩, ?_⟩
    refine wp_lF (fun i acc S' => Ext S S' ∧ acc = ((List.range i).map (keyW true x (c / 26 % 9).toNat 0)).map .str) ⟨Ext.refl _, rfl⟩ ?_ ?_
    · rintro i d acc S' hd ⟨X1, rfl⟩ J K hJ hK
      rw [List.getElem?_map] at hd
      cases e : (List.range n)[i]? with
      | none => rw [e] at hd; cases hd
      | some j =>
        rw [e] at hd
        cases hd
        obtain ⟨hi, hj⟩ := List.getElem?_eq_some_iff.mp e
        rw [List.getElem_range] at hj
        rw [List.length_range] at hi
        subst hj
        refine ⟨_, rfl, ?_⟩
        have hq : ∃ q : Nat, L2.atI [D.int 4, .int 1, .int 6, .int 2, .int 5, .int 3] (i : Int) = some (.int q) ∧ q ≤ 6 ∧ ([4, 1, 6, 2, 5, 3][i]?).getD 0 = q := by
          have : ∀ i, i < 6 → ∃ q, q ≤ 6 ∧ ([4, 1, 6, 2, 5, 3][i]?) = some q := by decide +kernel
          obtain ⟨q, h1, h2⟩ := this i (by omega)
          refine ⟨q, ?_, h1, by rw [h2]; rfl⟩
          rw [atI_cast, show [D.int 4, .int 1, .int 6, .int 2, .int 5, .int 3] = [4, 1, 6, 2, 5, 3].map (fun q : Nat => D.int q) from rfl, List.getElem?_map, h2]
          rfl
        obtain ⟨q, e2, hq, hq'⟩ := hq
        try walk_at "ev"
        refine ⟨⟨by omega, by omega, by rw [len1]; omega⟩, ?_⟩
        refine hJ _ _ (by simp only [List.length_map, List.length_range]; omega) ⟨X1.app1 _, ?_⟩
        rw [List.range_succ, List.map_append, List.map_append]
        simp only [List.map_cons, List.map_nil]
        rw [repS_mk1]
        unfold keyW
        simp only [if_true]
        rw [hq']
        congr 5
        omega
    · rintro acc S' ⟨X1, rfl⟩
      try walk_at "ev"
      refine hQ _ _ ⟨_, _, rfl, X1.app1 _, X1.len, lstAt_new, by simp, ?_⟩
      simpa using nd _ _ _ _
  · try walk_at "ev"
    refine ⟨⟨by omega, by omega⟩, ?_⟩
    refine wp_lF (fun i acc S' => S' = S ∧ acc = ((List.range i).map (keyW false x (c / 26 % 9).toNat (c / 468 % 9).toNat)).map .str) ⟨rfl, rfl⟩ ?_ ?_
    · rintro i d acc S' hd ⟨rfl, rfl⟩ J K hJ hK
      rw [List.getElem?_map] at hd
      cases e : (List.range n)[i]? with
      | none => rw [e] at hd; cases hd
      | some j =>
        rw [e] at hd
        cases hd
        obtain ⟨hi, hj⟩ := List.getElem?_eq_some_iff.mp e
        rw [List.getElem_range] at hj
        rw [List.length_range] at hi
        subst hj
        refine ⟨_, rfl, ?_⟩
        obtain ⟨y, e2, e3⟩ := atI_in (xs := (Str.cps "427130").toList) (i := (i : Int)) (by omega) (by rw [show (Str.cps "427130").toList.length = 6 by decide +kernel]; omega)
        rw [Int.toNat_natCast] at e3
        try walk_at "ev"
        refine ⟨⟨by omega, by omega, by rw [len1]; omega⟩, by decide +kernel, ?_, ⟨by omega, by omega, by rw [len1]; omega⟩, ?_, ?_⟩
        · rw [repS_mk1, repS_len, len1, len1]; omega
        · rw [repS_mk1, repS_mk1, app_len, repS_len, repS_len, len1, len1]; omega
        · refine hJ _ _ (by simp only [List.length_map, List.length_range]; omega) ⟨rfl, ?_⟩
          rw [List.range_succ, List.map_append, List.map_append]
          simp only [List.map_cons, List.map_nil]
          rw [repS_mk1, repS_mk1]
          unfold keyW
          simp only [Bool.false_eq_true, if_false]
          rw [e3, show (c / 26 % 9 + 1).toNat = (c / 26 % 9).toNat + 1 by omega]
          rfl
    · rintro acc S' ⟨rfl, rfl⟩
      try walk_at "ev"
      refine hQ _ _ ⟨_, _, rfl, Ext.app _ _, Nat.le_refl _, lstAt_new, by simp, ?_⟩
      simpa using nd _ _ _ _
end

end GA
namespace GA
open PySem VM
/-- all but some objects as they were -/
structure FrX (X : List Nat) (S S' : Sto) : Prop where
  len : S.length ≤ S'.length
  at_ : ∀ n : Nat, n < S.length → n ∉ X → S'[n]? = S[n]?
theorem FrX.refl (X : List Nat) (S : Sto) : FrX X S S := ⟨Nat.le_refl _, fun _ _ _ => rfl⟩
theorem FrX.trans {X : List Nat} {S1 S2 S3 : Sto} (h : FrX X S1 S2) (h' : FrX X S2 S3) : FrX X S1 S3 :=
  ⟨Nat.le_trans h.len h'.len, fun n hn nx => (h'.at_ n (Nat.lt_of_lt_of_le hn h.len) nx).trans (h.at_ n hn nx)⟩
theorem FrX.set {X : List Nat} {S S' : Sto} {n : Nat} (h : FrX X S S') (hn : n ∈ X ∨ S.length ≤ n) (o : O) : FrX X S (S'.set n o) :=
  ⟨by simpa using h.len, fun m hm nx => by
    rw [List.getElem?_set_ne (fun e => by subst e; rcases hn with hn | hn; exact nx hn; omega)]
    exact h.at_ m hm nx⟩
theorem FrX.app {X : List Nat} {S S' T : Sto} (h : FrX X S S') : FrX X S (S' ++ T) :=
  ⟨by rw [List.length_append]; have := h.len; omega, fun m hm nx => by rw [List.getElem?_append_left (Nat.lt_of_lt_of_le hm h.len)]; exact h.at_ m hm nx⟩
theorem FrX.ext {X : List Nat} {S S1 S2 : Sto} (h : FrX X S S1) (h' : Ext S1 S2) : FrX X S S2 :=
  ⟨Nat.le_trans h.len h'.len, fun n hn nx => (h'.at_ n (Nat.lt_of_lt_of_le hn h.len)).trans (h.at_ n hn nx)⟩
theorem FrX.lst {X : List Nat} {S S' : Sto} {n : Nat} {ds : List D} (k : FrX X S S') (h : lstAt S n = some ds) (nx : n ∉ X) : lstAt S' n = some ds := by
  rw [lstAt_get] at h ⊢
  rw [k.at_ n (List.getElem?_eq_some_iff.mp h).1 nx]
  exact h
theorem FrX.toExt {X : List Nat} {S0 S1 S2 : Sto} (h : FrX X S1 S2) (h0 : Ext S0 S1) (hx : ∀ n ∈ X, S0.length ≤ n) : Ext S0 S2 :=
  ⟨Nat.le_trans h0.len h.len, fun n hn => (h.at_ n (Nat.lt_of_lt_of_le hn h0.len) fun z => by have := hx n z; omega).trans (h0.at_ n hn)⟩
/-! ### trees -/
inductive Tr where
  | void
  | leaf (k x : Str)
  | knot (n : Str) (tk : Option (Str × Bool)) (ks : List Tr)
def takD : Option (Str × Bool) → D
  | none => .non
  | some (x, b) => .tup [.str x, .bl b]
mutual
def Tr.enc : Tr → D
  | .void => .tup [.str "void"]
  | .leaf k x => .tup [.str k, .str x]
  | .knot n tk ks => .tup [.str "knot", .str n, takD tk, .tup (encs ks)]
def encs : List Tr → List D
  | [] => []
  | t :: ts => t.enc :: encs ts
end
mutual
def Tr.size : Tr → Nat
  | .knot _ _ ks => 1 + sizeL ks
  | _ => 1
def sizeL : List Tr → Nat
  | [] => 0
  | t :: ts => t.size + sizeL ts
end
mutual
def Tr.dep : Tr → Nat
  | .knot _ _ ks => 1 + depL ks
  | _ => 0
def depL : List Tr → Nat
  | [] => 0
  | t :: ts => max t.dep (depL ts)
end
mutual
def Tr.ok : Tr → Prop
  | .knot _ _ ks => okL ks
  | .leaf k _ => k = "sign" ∨ k = "hole" ∨ k = "foot"
  | .void => True
def okL : List Tr → Prop
  | [] => True
  | t :: ts => t.ok ∧ okL ts
end
theorem size_void : Tr.void.size = 1 := by simp [Tr.size]
theorem size_leaf {k x : Str} : (Tr.leaf k x).size = 1 := by simp [Tr.size]
theorem dep_void : Tr.void.dep = 0 := by simp [Tr.dep]
theorem dep_leaf {k x : Str} : (Tr.leaf k x).dep = 0 := by simp [Tr.dep]
theorem ok_void : Tr.void.ok := by rw [Tr.ok]; trivial
theorem encs_map : ∀ ts : List Tr, encs ts = ts.map Tr.enc
  | [] => by rw [encs]; rfl
  | t :: ts => by rw [encs, List.map_cons, encs_map ts]
theorem okL_iff : ∀ ts : List Tr, okL ts ↔ ∀ t ∈ ts, t.ok
  | [] => by rw [okL]; simp
  | t :: ts => by rw [okL, okL_iff ts]; simp
theorem depL_le : ∀ (ts : List Tr) (n : Nat), depL ts ≤ n ↔ ∀ t ∈ ts, t.dep ≤ n
  | [], n => by rw [depL]; simp
  | t :: ts, n => by
    rw [depL]
    have := depL_le ts n
    simp only [List.mem_cons, forall_eq_or_imp]
    rw [← this]
    omega
theorem sizeL_app : ∀ a b : List Tr, sizeL (a ++ b) = sizeL a + sizeL b
  | [], b => by rw [List.nil_append, sizeL, Nat.zero_add]
  | t :: a, b => by rw [List.cons_append, sizeL, sizeL, sizeL_app a b, Nat.add_assoc]
theorem size_pos (t : Tr) : 1 ≤ t.size := by cases t <;> simp [Tr.size] <;> omega
theorem sizeL_len : ∀ ts : List Tr, ts.length ≤ sizeL ts
  | [] => Nat.zero_le _
  | t :: ts => by
    rw [sizeL, List.length_cons]
    have := sizeL_len ts
    have := size_pos t
    omega
/-! ### the stack -/
structure En where
  n : Str
  tk : Option (Str × Bool)
  r : Nat
  ks : List Tr
def En.d (e : En) : D := .tup [.str e.n, takD e.tk, .ref e.r]
def En.w (e : En) : Nat := 2 + sizeL e.ks
def wgt (es : List En) : Nat := (es.map En.w).sum
theorem wgt_app (a b : List En) : wgt (a ++ b) = wgt a + wgt b := by unfold wgt; rw [List.map_append, List.sum_append]
theorem wgt_one (e : En) : wgt [e] = e.w := by unfold wgt; simp
def LeftV (ls : List D) : Prop := ∃ (a b c : Int) (nm : Str) (f : Bool), ls = [.int a, .int b, .int c, .str nm, .bl f]
structure Stk (S0 : Sto) (st lf r0 : Nat) (es : List En) (S : Sto) : Prop where
  fr : FrX [st, lf, r0] S0 S
  lt : st < S0.length ∧ lf < S0.length ∧ r0 < S0.length
  ne : st ≠ lf ∧ st ≠ r0 ∧ lf ≠ r0
  at_ : lstAt S st = some (es.map En.d)
  kids : ∀ e ∈ es, lstAt S e.r = some (encs e.ks)
  nd : (es.map (·.r)).Nodup
  own : ∀ e ∈ es, e.r = r0 ∨ S0.length ≤ e.r
  left : ∃ ls, lstAt S lf = some ls ∧ LeftV ls
  ok : ∀ i e, es[i]? = some e → okL e.ks ∧ depL e.ks + i ≤ 9
theorem Stk.rne {S0 S : Sto} {st lf r0 : Nat} {es : List En} (h : Stk S0 st lf r0 es S) {e : En} (he : e ∈ es) : e.r ≠ st ∧ e.r ≠ lf := by
  have := h.lt
  have := h.ne
  rcases h.own e he with z | z <;> constructor <;> intro q <;> omega
/-- left with other numbers -/
theorem Stk.setL {S0 S : Sto} {st lf r0 : Nat} {es : List En} (h : Stk S0 st lf r0 es S) {ls : List D} (hl : LeftV ls) : Stk S0 st lf r0 es (S.set lf (.lst ls)) := by
  have hn := h.ne
  have hlt : lf < S.length := by have := h.lt; have := h.fr.len; omega
  exact ⟨h.fr.set (.inl (by simp)) _, h.lt, h.ne, by rw [lstAt_set_ne (by omega)]; exact h.at_, fun e he => by rw [lstAt_set_ne (h.rne he).2]; exact h.kids e he, h.nd, h.own, ⟨ls, lstAt_set hlt, hl⟩, h.ok⟩
/-- one more kid for the top of the stack -/
theorem Stk.kid {S0 S : Sto} {st lf r0 : Nat} {es : List En} {e : En} (h : Stk S0 st lf r0 (es ++ [e]) S) {t : Tr} (ht : t.ok) (hd : t.dep + es.length ≤ 9) :
    Stk S0 st lf r0 (es ++ [{ e with ks := e.ks ++ [t] }]) (S.set e.r (.lst (encs (e.ks ++ [t])))) := by
  have em : e ∈ es ++ [e] := by simp
  have hr := h.rne em
  have hlt : e.r < S.length := lstAt_lt (h.kids e em)
  have nd := h.nd
  rw [List.map_append, List.nodup_append] at nd
  refine ⟨h.fr.set ?_ _, h.lt, h.ne, ?_, ?_, ?_, ?_, ?_, ?_⟩
  · rcases h.own e em with z | z
    · exact .inl (by rw [z]; simp)
    · exact .inr z
  · rw [lstAt_set_ne (Ne.symm hr.1), h.at_, List.map_append, List.map_append]
    rfl
  · intro e' he'
    rw [List.mem_append, List.mem_singleton] at he'
    rcases he' with he' | rfl
    · have hne : e'.r ≠ e.r := nd.2.2 _ (List.mem_map.mpr ⟨e', he', rfl⟩) _ (by simp)
      rw [lstAt_set_ne hne]
      exact h.kids e' (by simp [he'])
    · rw [lstAt_set hlt]
  · have := h.nd
    rw [List.map_append] at this ⊢
    exact this
  · intro e' he'
    rw [List.mem_append, List.mem_singleton] at he'
    rcases he' with he' | rfl
    · exact h.own e' (by simp [he'])
    · exact h.own e em
  · obtain ⟨ls, e1, e2⟩ := h.left
    exact ⟨ls, by rw [lstAt_set_ne (Ne.symm hr.2)]; exact e1, e2⟩
  · intro i e' he'
    by_cases hi : i < es.length
    · refine h.ok i e' ?_
      rw [List.getElem?_append_left hi] at he' ⊢
      exact he'
    · rw [List.getElem?_append_right (by omega)] at he'
      have hi0 : i = es.length := by
        have := (List.getElem?_eq_some_iff.mp he').1
        simp at this
        omega
      subst hi0
      simp at he'
      subst he'
      have q := h.ok es.length e (by simp)
      refine ⟨(okL_iff _).mpr fun u hu => ?_, ?_⟩
      · rcases List.mem_append.mp hu with hu | hu
        · exact (okL_iff _).mp q.1 u hu
        · rw [List.mem_singleton] at hu
          subst hu
          exact ht
      · have : depL (e.ks ++ [t]) ≤ 9 - es.length := (depL_le _ _).mpr fun u hu => by
          rcases List.mem_append.mp hu with hu | hu
          · have := (depL_le e.ks (depL e.ks)).mp (Nat.le_refl _) u hu
            omega
          · rw [List.mem_singleton] at hu
            subst hu
            omega
        have := q.2
        show depL (e.ks ++ [t]) + es.length ≤ 9
        omega
/-- a knot begun -/
theorem Stk.push {S0 S : Sto} {st lf r0 : Nat} {es : List En} (h : Stk S0 st lf r0 es S) (hl : es.length < 9) (x : Str) (tk : Option (Str × Bool)) :
    Stk S0 st lf r0 (es ++ [⟨x, tk, S.length, []⟩]) ((S ++ [O.lst []]).set st (O.lst (es.map En.d ++ [En.d ⟨x, tk, S.length, []⟩]))) := by
  have hst : st < S.length := lstAt_lt h.at_
  have hlen := h.fr.len
  have hlts := h.lt
  have kl : ∀ e ∈ es, e.r < S.length := fun e he => lstAt_lt (h.kids e he)
  refine ⟨(h.fr.app).set (.inl (by simp)) _, h.lt, h.ne, ?_, ?_, ?_, ?_, ?_, ?_⟩
  · rw [lstAt_set (by simp; omega), List.map_append]
    rfl
  · intro e he
    rw [List.mem_append, List.mem_singleton] at he
    rcases he with he | rfl
    · rw [lstAt_set_ne (h.rne he).1, lstAt_app (kl e he)]
      exact h.kids e he
    · show lstAt _ S.length = some (encs [])
      rw [lstAt_set_ne (by omega), lstAt_new, encs]
  · rw [List.map_append, List.nodup_append]
    refine ⟨h.nd, by simp, fun a ha b hb => ?_⟩
    simp at hb
    subst hb
    obtain ⟨e, he, rfl⟩ := List.mem_map.mp ha
    have := kl e he
    omega
  · intro e he
    rw [List.mem_append, List.mem_singleton] at he
    rcases he with he | rfl
    · exact h.own e he
    · exact .inr hlen
  · obtain ⟨ls, e1, e2⟩ := h.left
    exact ⟨ls, by rw [lstAt_set_ne (Ne.symm h.ne.1), lstAt_app (lstAt_lt e1)]; exact e1, e2⟩
  · intro i e he
    by_cases hi : i < es.length
    · rw [List.getElem?_append_left hi] at he
      exact h.ok i e he
    · rw [List.getElem?_append_right (by omega)] at he
      have hi0 : i = es.length := by
        have := (List.getElem?_eq_some_iff.mp he).1
        simp at this
        omega
      subst hi0
      simp at he
      subst he
      exact ⟨by rw [okL]; trivial, by rw [depL]; omega⟩
/-- the top shut -/
theorem Stk.pop {S0 S : Sto} {st lf r0 : Nat} {es : List En} {e : En} {ds : List D} (h : Stk S0 st lf r0 (es ++ [e]) S) : Stk S0 st lf r0 es ((S.set st (.lst (es.map En.d))).set e.r (.lst ds)) := by
  have em : e ∈ es ++ [e] := by simp
  have hr := h.rne em
  have hst : st < S.length := lstAt_lt h.at_
  have nd := h.nd
  rw [List.map_append, List.nodup_append] at nd
  have ne : ∀ e' ∈ es, e'.r ≠ e.r := fun e' he' => nd.2.2 _ (List.mem_map.mpr ⟨e', he', rfl⟩) _ (by simp)
  refine ⟨(h.fr.set (.inl (by simp)) _).set ?_ _, h.lt, h.ne, ?_, ?_, nd.1, fun e' he' => h.own e' (by simp [he']), ?_, ?_⟩
  · rcases h.own e em with z | z
    · exact .inl (by rw [z]; simp)
    · exact .inr z
  · rw [lstAt_set_ne (Ne.symm hr.1), lstAt_set hst]
  · intro e' he'
    have he2 : e' ∈ es ++ [e] := by simp [he']
    rw [lstAt_set_ne (ne e' he'), lstAt_set_ne (h.rne he2).1]
    exact h.kids e' he2
  · obtain ⟨ls, e1, e2⟩ := h.left
    exact ⟨ls, by rw [lstAt_set_ne (Ne.symm hr.2), lstAt_set_ne (Ne.symm h.ne.1)]; exact e1, e2⟩
  · intro i e' he'
    refine h.ok i e' ?_
    rw [List.getElem?_append_left (List.getElem?_eq_some_iff.mp he').1]
    exact he'

end GA
namespace GA
open PySem VM
theorem inD_int2 {S : Sto} {i a b : Int} : inD (.int i) (.tup [.int a, .int b]) S = some (a == i || (b == i || false)) := rfl
theorem inD_int4 {S : Sto} {i a b c d : Int} : inD (.int i) (.tup [.int a, .int b, .int c, .int d]) S = some (a == i || (b == i || (c == i || (d == i || false)))) := rfl
theorem takD_isn (tk : Option (Str × Bool)) : True := trivial
section
variable {sub : Nat → Nat → Bool} {tbl : List (Nat × Fd)} {k : Nat} {S : Sto}
theorem signs_sp (hp : HasDraw tbl) {c : Int} : Wx NoX (callN sub tbl (k + 1) 24 [.int c] S) fun d S' => ∃ (r : Nat) (ws : List Str), d = .ref r ∧ Ext S S' ∧ S.length ≤ r ∧ lstAt S' r = some (ws.map .str) ∧ ws.length = 3 := by
  refine Wp.gen fun Q hQ => ?_
  have sz : sizeLine = 16777216 := rfl
  refine wp_call hp.signs rfl ?_
  unfold b__law_signs
  try walk_at "ev"
  obtain ⟨x, e1, _⟩ := atI_in (xs := (Str.cps "abcdefghijklmnopqrstuvwxyz").toList) (i := c % 26) (by omega) (by rw [len26b]; omega)
  obtain ⟨y, e2, _⟩ := atI_in (xs := (Str.cps "abcdefghijklmnopqrstuvwxyz").toList) (i := (c + 1 + c / 26 % 25) % 26) (by omega) (by rw [len26b]; omega)
  rw [e1, e2]
  refine ⟨by decide +kernel, _, rfl, by decide +kernel, _, rfl, ?_⟩
  refine ⟨⟨by omega, by omega, by rw [len1]; omega⟩, ⟨by omega, by omega, by rw [len1]; omega⟩, ?_, ⟨by omega, by omega, by rw [len1]; omega⟩, ?_, ?_⟩
  · rw [repS_mk1, repS_len, len1, len1]; omega
  · rw [repS_mk1, repS_len, len1, len1]; omega
  refine ifQ_by (fun _ => ?_) (fun _ => ?_)
  · try walk_at "ev"
    exact hQ _ _ ⟨_, [_, _, _], rfl, (Ext.app _ _).app1 _, by simp, lstAt_newE rfl, rfl⟩
  · try walk_at "ev"
    refine ifQ_by (fun _ => ?_) (fun _ => ?_)
    · try walk_at "ev"
      exact hQ _ _ ⟨_, [_, _, _], rfl, (Ext.app _ _).app1 _, by simp, lstAt_newE rfl, rfl⟩
    · try walk_at "ev"
      exact hQ _ _ ⟨_, [_, _, _], rfl, Ext.app _ _, Nat.le_refl _, lstAt_new, rfl⟩
theorem set_self {n : Nat} {ds : List D} (h : lstAt S n = some ds) : S.set n (.lst ds) = S := by
  have h := lstAt_get.mp h
  obtain ⟨h1, h2⟩ := List.getElem?_eq_some_iff.mp h
  rw [← h2, List.set_getElem_self]
theorem takes_sp (hp : HasDraw tbl) {kind : Int} {nm : Str} {lf : Nat} {ls : List D} (hl : lstAt S lf = some ls) (hv : LeftV ls) : Wx NoX (callN sub tbl (k + 1) 26 [.int kind, .str nm, .ref lf] S) fun d S' => ∃ tk ls', d = takD tk ∧ S' = S.set lf (.lst ls') ∧ LeftV ls' := by
  refine Wp.gen fun Q hQ => ?_
  have hlt := lstAt_lt hl
  refine wp_call hp.takes rfl ?_
  unfold b__law_takes
  have hv' := hv
  obtain ⟨a, b, c, w, f, rfl⟩ := hv
  have no : Q .non S := hQ _ _ ⟨none, _, rfl, (set_self hl).symm, hv'⟩
  rw [wp_cons, wp_ife]
  try walk_at "ev1"
  refine andQ_by (fun _ => ?_) (fun _ => ?_)
  · try walk_at "ev1"
    refine ifQ_by (fun _ => ?_) (fun _ => ?_)
    · try walk_at "ev"
      exact hQ _ _ ⟨some (nm, true), _, rfl, rfl, ⟨_, _, _, _, _, rfl⟩⟩
    · try walk_at "ev1"
      rw [seqQ_nx, wp_cons, wp_ife]
      try walk_at "ev1"
      rw [inD_int2]
      refine ⟨_, rfl, andQ_by (fun _ => ?_) (fun _ => ?_)⟩
      · try walk_at "ev1"
        refine ifQ_by (fun _ => ?_) (fun _ => ?_)
        · try walk_at "ev"
          exact hQ _ _ ⟨some (nm, false), _, rfl, rfl, ⟨_, _, _, _, _, rfl⟩⟩
        · try walk_at "ev"
      · try walk_at "ev"
  · try walk_at "ev1"
    rw [seqQ_nx, wp_cons, wp_ife]
    try walk_at "ev1"
    rw [inD_int2]
    refine ⟨_, rfl, andQ_by (fun _ => ?_) (fun _ => ?_)⟩
    · try walk_at "ev1"
      refine ifQ_by (fun _ => ?_) (fun _ => ?_)
      · try walk_at "ev"
        exact hQ _ _ ⟨some (nm, false), _, rfl, rfl, ⟨_, _, _, _, _, rfl⟩⟩
      · try walk_at "ev"
    · try walk_at "ev"
theorem name_sp (hp : HasDraw tbl) {n : Nat} {ws : List Str} {c : Int} {own : Int} {up : Bool} (hn : lstAt S n = some (ws.map .str)) (hw : ws.length = 6) (h0 : 0 ≤ own) :
    Wx NoX (callN sub tbl (k + 1) 28 [.ref n, .int c, .int own, .bl up] S) fun d S' => ∃ w : Str, d = .str w ∧ Ext S S' := by
  refine Wp.gen fun Q hQ => ?_
  have hlt := lstAt_lt hn
  refine wp_call hp.name rfl ?_
  unfold b__law_name
  try walk_at "ev"
  refine ifQ_by (fun _ => ?_) (fun _ => ?_)
  · try walk_at "ev"
    obtain ⟨w, _, e⟩ := atI_map (f := D.str) (xs := ws) (i := if own + 1 + c % 2 < 5 then own + 1 + c % 2 else 5) (by split <;> omega) (by rw [hw]; split <;> omega)
    rw [e]
    exact ⟨_, rfl, hQ _ _ ⟨w, rfl, Ext.refl _⟩⟩
  · try walk_at "ev"
    have : ∃ q : Nat, q < 6 ∧ L2.atI [D.int 0, .int 1, .int 2, .int 0, .int 1, .int 2, .int 4] (c % 7) = some (.int q) := by
      obtain ⟨m, e⟩ : ∃ m : Nat, c % 7 = m := ⟨(c % 7).toNat, by omega⟩
      rw [e, atI_cast]
      have hm : m < 7 := by omega
      have : ∀ m, m < 7 → ∃ q, q < 6 ∧ [D.int 0, .int 1, .int 2, .int 0, .int 1, .int 2, .int 4][m]? = some (.int (q : Nat)) := by
        intro m hm
        match m, hm with
        | 0, _ => exact ⟨0, by omega, rfl⟩
        | 1, _ => exact ⟨1, by omega, rfl⟩
        | 2, _ => exact ⟨2, by omega, rfl⟩
        | 3, _ => exact ⟨0, by omega, rfl⟩
        | 4, _ => exact ⟨1, by omega, rfl⟩
        | 5, _ => exact ⟨2, by omega, rfl⟩
        | 6, _ => exact ⟨4, by omega, rfl⟩
      exact this m hm
    obtain ⟨q, hq, e⟩ := this
    rw [e]
    refine ⟨_, rfl, ?_⟩
    have hnA : lstAt (S ++ [.lst [D.int 0, .int 1, .int 2, .int 0, .int 1, .int 2, .int 4]]) n = some (ws.map .str) := by rw [lstAt_app hlt]; exact hn
    try walk_at "ev"
    obtain ⟨w, _, e2⟩ := atI_map (f := D.str) (xs := ws) (i := (q : Int)) (by omega) (by omega)
    rw [e2]
    exact ⟨_, rfl, hQ _ _ ⟨w, rfl, Ext.app _ _⟩⟩
theorem left_sp (hp : HasDraw tbl) {c : Int} {g : Bool} {nm : Str} : Wx NoX (callN sub tbl (k + 1) 29 [.int c, .bl g, .str nm] S) fun d S' => ∃ ls, d = .ref S.length ∧ S' = S ++ [.lst ls] ∧ LeftV ls := by
  refine Wp.gen fun Q hQ => ?_
  refine wp_call hp.left rfl ?_
  unfold b__law_left
  try walk_at "ev"
  refine ifQ_by (fun _ => ?_) (fun _ => ?_)
  · try walk_at "ev"
    exact hQ _ _ ⟨_, rfl, rfl, ⟨_, _, _, _, _, rfl⟩⟩
  · try walk_at "ev"
    exact hQ _ _ ⟨_, rfl, rfl, ⟨_, _, _, _, _, rfl⟩⟩
/-- the top is shut -/
theorem shut_sp (hp : HasDraw tbl) {S0 : Sto} {st lf r0 : Nat} {es : List En} {e : En} (h : Stk S0 st lf r0 (es ++ [e]) S) (hz : sizeL e.ks ≤ 1000) :
    Wx NoX (callN sub tbl (k + 1) 25 [.ref st] S) fun d S' => ∃ t : Tr, d = t.enc ∧ t.ok ∧ t.dep + es.length ≤ 10 ∧ t.size ≤ e.w ∧ (∃ n tk ks, t = .knot n tk ks) ∧ (∃ ds, S' = (S.set st (.lst (es.map En.d))).set e.r (.lst ds)) := by
  refine Wp.gen fun Q hQ => ?_
  have sz : sizeLine = 16777216 := rfl
  have em : e ∈ es ++ [e] := by simp
  have hst := h.at_
  have hlst := lstAt_lt hst
  have hk := h.kids e em
  have hlk := lstAt_lt hk
  have hr := h.rne em
  have hok := h.ok es.length e (by simp)
  have hlen := sizeL_len e.ks
  refine wp_call hp.shut rfl ?_
  unfold b__law_shut
  have e0 : ((es ++ [e]).map En.d)[((es ++ [e]).map En.d).length - 1]? = some e.d := by
    rw [List.length_map, List.length_append, List.length_singleton, List.getElem?_map]
    simp
  have e1 : ((es ++ [e]).map En.d).dropLast = es.map En.d := by rw [List.map_append]; simp
  rw [wp_cons, wp_asg]
  try walk_at "ev1"
  unfold En.d
  have hkA : lstAt (S.set st (.lst (es.map En.d))) e.r = some (encs e.ks) := by rw [lstAt_set_ne hr.1]; exact hk
  have hlA : e.r < (S.set st (.lst (es.map En.d))).length := by simpa using hlk
  have hel : (encs e.ks).length = e.ks.length := by rw [encs_map, List.length_map]
  rw [bindT_tp, setMany_cons, setMany_cons, setMany_cons, setMany_nil]
  refine ⟨_, rfl, ?_⟩
  simp only [List.set_cons_zero, List.set_cons_succ]
  clear hst e0 e1
  unfold En.d at hkA hlA
  generalize hS1 : S.set st (O.lst (es.map fun e => D.tup [.str e.n, takD e.tk, .ref e.r])) = S1 at *
  have hQ' : ∀ ks, (Tr.knot e.n e.tk ks).ok → (Tr.knot e.n e.tk ks).dep + es.length ≤ 10 → (Tr.knot e.n e.tk ks).size ≤ e.w → ∀ ds, Q (Tr.knot e.n e.tk ks).enc (S1.set e.r (.lst ds)) := fun t h1 h2 h3 ds => hQ _ _ ⟨_, rfl, h1, h2, h3, ⟨_, _, _, rfl⟩, ds, by rw [← hS1]; rfl⟩
  rw [seqQ_nx, wp_cons, wp_ife]
  try walk_at "ev1"
  refine ifQ_by (fun hc => ?_) (fun hc => ?_)
  · have hc : (e.ks.length : Int) = 0 := by simpa using hc
    have hks : e.ks = [] := List.length_eq_zero_iff.mp (by omega)
    clear hc
    have := hQ' [.void] (by rw [Tr.ok, okL, okL]; exact ⟨ok_void, trivial⟩) (by rw [Tr.dep, depL, depL, dep_void]; have := hok.2; simp; omega) (by rw [Tr.size, sizeL, sizeL, size_void]; unfold En.w; omega) (encs e.ks ++ [.tup [.str "void"]])
    rw [Tr.enc, encs, encs, Tr.enc] at this
    rw [hks, encs] at this hkA
    try walk_at "ev"
    exact this
  · have := hQ' e.ks (by rw [Tr.ok]; exact hok.1) (by rw [Tr.dep]; have := hok.2; omega) (by rw [Tr.size]; unfold En.w; omega) (encs e.ks)
    rw [Tr.enc, set_self hkA] at this
    try walk_at "ev"
end

end GA
namespace GA
open PySem VM
theorem atI_last {α : Type} (xs : List α) (x : α) : L2.atI (xs ++ [x]) (-1) = some x := by
  unfold L2.atI L2.ixN
  rw [if_neg (by omega), List.length_append, List.length_singleton, if_pos (by omega)]
  show (xs ++ [x])[(-1 + ((xs.length + 1 : Nat) : Int)).toNat]? = some x
  rw [show (-1 + ((xs.length + 1 : Nat) : Int)).toNat = xs.length by omega]
  simp
theorem andQ_by' {X0 : XQ} {F : Orc} {b : T} {ρ : Rho} {Q : Bool → Sto → Prop} {t : Bool} {S : Sto} (h2 : t = false → Q false S) (h1 : t = true → Wx X0 (evT F b ρ S) Q) : andQ X0 F b ρ Q t S := andQ_by h1 h2
theorem orAll {α : Type} {P : Prop} {E : α → Prop} (h : (∀ a, E a) → P) (e : ∀ a, E a) : P := h e
theorem orElse {P E : Prop} (h : E → P) (e : E) : P := h e
section
variable {sub : Nat → Nat → Bool} {tbl : List (Nat × Fd)} {k : Nat} {S : Sto}
theorem atI_lastM {es : List En} {e : En} : L2.atI ((es ++ [e]).map En.d) (-1) = some e.d := by
  rw [List.map_append]
  exact atI_last _ _
/-- shut, hung at the next -/
theorem hang_sp (hp : HasDraw tbl) {S0 : Sto} {st lf r0 : Nat} {es : List En} {e0 e : En} {ρ : Rho} {iv : Nat} {Q : Fl → Sto → Prop} (h : Stk S0 st lf r0 (es ++ [e0] ++ [e]) S) (hz : wgt (es ++ [e0] ++ [e]) ≤ 1000) (h0 : ρ[0]? = some (some (.ref st)) ∨ True) (sv : Nat) (hs : ρ[sv]? = some (some (.ref st))) (hi : iv < ρ.length) (hne : sv ≠ iv) (cs : Cs)
    (hQ : ∀ (t : Tr) (S' : Sto), t.size ≤ e.w → Stk S0 st lf r0 (es ++ [{ e0 with ks := e0.ks ++ [t] }]) S' → Wx NoX (exCs ⟨callN sub tbl (k + 1), sub⟩ cs (ρ.set iv (some t.enc)) S') Q) :
    Wx NoX (exCs ⟨callN sub tbl (k + 1), sub⟩ (.cons (.set iv (.call 25 (.cons (.var sv) .nil))) (.cons (.ex (.bm .append (.idx (.idx (.var sv) (.neg (.int 1))) (.int 2)) (.cons (.var iv) .nil))) cs)) ρ S) Q := by
  have sz : sizeLine = 16777216 := rfl
  have hw : wgt (es ++ [e0] ++ [e]) = wgt (es ++ [e0]) + e.w := by rw [wgt_app, wgt_one]
  have hw0 : wgt (es ++ [e0]) = wgt es + e0.w := by rw [wgt_app, wgt_one]
  have he : sizeL e.ks ≤ 1000 := by unfold En.w at hw; omega
  rw [wp_cons, wp_set, we_call, wa_cons, we_var]
  refine ⟨_, hs, ?_⟩
  rw [wa_nil]
  refine (shut_sp hp h he).mono ?_
  rintro _ S1 ⟨t, rfl, t1, t2, t3, _, ds, rfl⟩
  have h2 := h.pop (ds := ds)
  generalize hS1 : (S.set st (O.lst ((es ++ [e0]).map En.d))).set e.r (.lst ds) = S1 at *
  have hst := h2.at_
  have em : e0 ∈ es ++ [e0] := by simp
  have hk := h2.kids e0 em
  have hlen := sizeL_len e0.ks
  have hel : (encs e0.ks).length = e0.ks.length := by rw [encs_map, List.length_map]
  have hs' : (ρ.set iv (some t.enc))[sv]? = some (some (.ref st)) := by rw [List.getElem?_set_ne (Ne.symm hne)]; exact hs
  have hi' : (ρ.set iv (some t.enc))[iv]? = some (some t.enc) := List.getElem?_set_self hi
  have h3 := hQ t _ t3 (h2.kid t1 (by simp at t2; omega))
  rw [encs_map, List.map_append, ← encs_map] at h3
  generalize ρ.set iv (some t.enc) = ρ' at *
  clear hS1 h hs hQ
  rw [seqQ_nx, wp_cons, wp_ex, we_bm, we_idx, we_idx, we_var]
  refine ⟨_, hs', ?_⟩
  rw [we_neg, we_int]
  refine ⟨1, rfl, ?_⟩
  rw [wi_idx_ref]
  refine ⟨_, hst, _, atI_lastM, ?_⟩
  rw [we_int]
  unfold En.d
  rw [wi_idx_tup]
  refine ⟨.ref e0.r, rfl, ?_⟩
  refine ⟨bmTy_ref.mpr ⟨_, hk⟩, ?_⟩
  rw [wa_cons, we_var]
  refine ⟨_, hi', ?_⟩
  rw [wa_nil, wapp]
  refine ⟨_, hk, by rw [hel]; unfold En.w at hw0; omega, ?_⟩
  rw [seqQ_nx]
  exact h3
theorem lay_sp (hp : HasDraw tbl) {S0 : Sto} {st lf r0 : Nat} {es : List En} {e : En} {c : Int} {nm : Str} {nn sn : Nat} {ws vs : List Str} (h : Stk S0 st lf r0 (es ++ [e]) S) (hl : (es ++ [e]).length ≤ 9) (hz : wgt (es ++ [e]) ≤ 1000)
    (hn : lstAt S0 nn = some (ws.map .str)) (hw : ws.length = 6) (n1 : nn ∉ [st, lf, r0]) (hs : lstAt S0 sn = some (vs.map .str)) (hv : vs.length = 3) (n2 : sn ∉ [st, lf, r0]) :
    Wx NoX (callN sub tbl (k + 2) 27 [.ref st, .int c, .str nm, .ref nn, .ref sn, .ref lf] S) fun d S' => ∃ es' e', Stk S0 st lf r0 (es' ++ [e']) S' ∧ (es' ++ [e']).length ≤ 9 ∧ wgt (es' ++ [e']) ≤ wgt (es ++ [e]) + 2 := by
  refine Wp.gen fun Q hQ => ?_
  have sz : sizeLine = 16777216 := rfl
  have hw0 : wgt (es ++ [e]) = wgt es + e.w := by rw [wgt_app, wgt_one]
  have em : e ∈ es ++ [e] := by simp
  have hst := h.at_
  have hk := h.kids e em
  have hlen := sizeL_len e.ks
  have hel : (encs e.ks).length = e.ks.length := by rw [encs_map, List.length_map]
  have hnS := h.fr.lst hn n1
  have hsS := h.fr.lst hs n2
  have hr := h.rne em
  have hlk := lstAt_lt hk
  obtain ⟨ls, hlf, hlv⟩ := h.left
  have hlv' := hlv
  obtain ⟨a, b, g, w, f, rfl⟩ := hlv'
  have hlfl := lstAt_lt hlf
  have hll : ((es ++ [e]).map En.d).length = es.length + 1 := by simp
  have hl0 : es.length + 1 ≤ 9 := by simpa using hl
  -- one kid more
  have kid : ∀ (t : Tr) (ls : List D), t.ok → t.dep = 0 → t.size ≤ 2 → LeftV ls → Q .non ((S.set lf (.lst ls)).set e.r (.lst (encs e.ks ++ [t.enc]))) := fun t ls h1 h2 h3 h4 => by
    refine hQ _ _ ⟨es, { e with ks := e.ks ++ [t] }, ?_, by simpa using hl, ?_⟩
    · have := (h.setL h4).kid h1 (t := t) (by omega)
      rw [encs_map, List.map_append, ← encs_map] at this
      exact this
    · rw [wgt_app, wgt_one, wgt_app, wgt_one]
      unfold En.w
      rw [sizeL_app, sizeL, sizeL]
      omega
  have kid0 : ∀ (t : Tr), t.ok → t.dep = 0 → t.size ≤ 2 → Q .non (S.set e.r (.lst (encs e.ks ++ [t.enc]))) := fun t h1 h2 h3 => by
    have := kid t _ h1 h2 h3 hlv
    rw [set_self hlf] at this
    exact this
  have same : Q .non S := hQ _ _ ⟨es, e, h, hl, by omega⟩
  have hlast : L2.atI ((es ++ [e]).map En.d) (-1) = some e.d := atI_lastM
  refine wp_call hp.lay rfl ?_
  unfold b__law_lay
  rw [wp_cons]
  try walk_at "ev1"
  rw [seqQ_nx, wp_cons]
  try walk_at "ev1"
  rw [show e.d = .tup [.str e.n, takD e.tk, .ref e.r] from rfl]
  try walk_at "ev1"
  rw [seqQ_nx, wp_cons]
  try walk_at "ev1"
  rw [seqQ_nx, wp_cons]
  try walk_at "ev1"
  rw [inD_int2]
  refine ⟨_, rfl, ?_⟩
  generalize hrm : decide ((e.ks.length : Int) < 6) = rm
  clear hrm
  refine' orElse ?m1 ?e1
  case m1 =>
    intro E
    refine andQ_by' ?_ ?_
    · intro hx
      clear hx
      try walk_at "ev1"
      exact E
    · intro hx
      clear hx
      try walk_at "ev1"
      refine ifQ_by ?_ ?_
      · intro hc
        have hc := of_decide_eq_true hc
        obtain ⟨es', e0, rfl⟩ : ∃ es' e0, es = es' ++ [e0] := by
          have hne : es ≠ [] := fun z => by rw [z] at hc; simp at hc
          exact ⟨es.dropLast, es.getLast hne, (List.dropLast_concat_getLast hne).symm⟩
        refine hang_sp (k := k) (iv := 9) hp h hz (.inr trivial) 0 rfl (by simp) (by omega) .nil fun t S' ht hS => ?_
        try walk_at "ev"
        refine hQ _ _ ⟨es', _, hS, by simp at hl ⊢; omega, ?_⟩
        rw [wgt_app, wgt_one, wgt_app, wgt_app, wgt_one, wgt_one]
        unfold En.w at ht ⊢
        simp only
        rw [sizeL_app, sizeL, sizeL]
        omega
      · intro hx
        clear hx
        try walk_at "ev1"
  case e1 =>
  clear hlast
  rw [wp_cons]
  refine' orElse ?m2 ?e2
  case m2 =>
    intro E
    rw [wp_ife]
    try walk_at "ev1"
    refine andQ_by' ?_ ?_
    · intro hx
      clear hx
      try walk_at "ev1"
      exact E
    · intro hx
      clear hx
      try walk_at "ev1"
      rw [inD_int4]
      refine ⟨_, rfl, ?_⟩
      refine andQ_by' ?_ ?_
      · intro hx
        clear hx
        try walk_at "ev1"
      · intro hx
        clear hx
        try walk_at "ev1"
        refine ifQ_by ?_ ?_
        · intro hc
          have hc := of_decide_eq_true hc
          rw [wp_cons]
          try walk_at "ev1"
          obtain ⟨x, _, ex⟩ := atI_map (f := D.str) (xs := ws) (i := c / 12 % 6) (by omega) (by rw [hw]; omega)
          rw [ex]
          refine ⟨_, rfl, ?_⟩
          refine (takes_sp hp hlf hlv).mono ?_
          rintro _ S1 ⟨tk, ls', rfl, rfl, hv'⟩
          have h1 := h.setL hv'
          have hc' : es.length + 1 < 9 := by omega
          have h2 := h1.push (by simpa using hc') x tk
          have hst1 : lstAt (S.set lf (.lst ls') ++ [.lst []]) st = some ((es ++ [e]).map En.d) := by rw [lstAt_app (lstAt_lt h1.at_)]; exact h1.at_
          refine ⟨_, hst1, by rw [hll]; omega, ?_⟩
          clear hst1 E
          have := hQ .non _ ⟨_, _, h2, by simp; omega, by rw [wgt_app (es ++ [e]), wgt_one]; unfold En.w; rw [sizeL]; omega⟩
          have el : (S.set lf (.lst ls')).length = S.length := List.length_set
          rw [show En.d ⟨x, tk, (S.set lf (.lst ls')).length, []⟩ = .tup [.str x, takD tk, .ref (S.set lf (.lst ls')).length] from rfl, el] at this
          try walk_at "ev"
        · intro hx
          clear hx
          try walk_at "ev1"
  case e2 =>
  rw [wp_cons]
  refine' orElse ?m3 ?e3
  case m3 =>
    intro E
    rw [wp_ife]
    try walk_at "ev1"
    refine andQ_by' ?_ ?_
    · intro hx
      clear hx
      try walk_at "ev1"
      exact E
    · intro hx
      clear hx
      try walk_at "ev1"
      refine andQ_by' ?_ ?_
      · intro hx
        clear hx
        try walk_at "ev1"
      · intro hx
        clear hx
        try walk_at "ev1"
        refine ifQ_by ?_ ?_
        · intro hc
          clear hc
          try walk_at "ev"
          have := kid (.leaf "hole" nm) [.int (a - 1), .int b, .int g, .str w, .bl f] (by rw [Tr.ok]; exact .inr (.inl rfl)) dep_leaf (by rw [size_leaf]; omega) ⟨_, _, _, _, _, rfl⟩
          rw [Tr.enc] at this
          exact ⟨by unfold En.w at hw0; omega, this⟩
        · intro hx
          clear hx
          try walk_at "ev1"
  case e3 =>
  rw [wp_cons]
  refine' orElse ?m4 ?e4
  case m4 =>
    intro E
    rw [wp_ife]
    try walk_at "ev1"
    refine andQ_by' ?_ ?_
    · intro hx
      clear hx
      try walk_at "ev1"
      exact E
    · intro hx
      clear hx
      try walk_at "ev1"
      refine andQ_by' ?_ ?_
      · intro hx
        clear hx
        try walk_at "ev1"
      · intro hx
        clear hx
        try walk_at "ev1"
        refine ifQ_by ?_ ?_
        · intro hc
          clear hc
          try walk_at "ev"
          have := kid (.leaf "foot" w) [.int a, .int b, .int (g - 1), .str w, .bl f] (by rw [Tr.ok]; exact .inr (.inr rfl)) dep_leaf (by rw [size_leaf]; omega) ⟨_, _, _, _, _, rfl⟩
          rw [Tr.enc] at this
          exact ⟨by unfold En.w at hw0; omega, this⟩
        · intro hx
          clear hx
          try walk_at "ev1"
  case e4 =>
  rw [wp_cons]
  refine' orElse ?m5 ?e5
  case m5 =>
    intro E
    rw [wp_ife]
    try walk_at "ev1"
    refine andQ_by' ?_ ?_
    · intro hx
      clear hx
      try walk_at "ev1"
      exact E
    · intro hx
      clear hx
      try walk_at "ev1"
      refine ifQ_by ?_ ?_
      · intro hc
        clear hc
        obtain ⟨x, _, ex⟩ := atI_map (f := D.str) (xs := vs) (i := c / 12 % 3) (by omega) (by rw [hv]; omega)
        try walk_at "ev"
        have := kid (.leaf "sign" x) [.int a, .int b, .int g, .str w, .bl true] (by rw [Tr.ok]; exact .inl rfl) dep_leaf (by rw [size_leaf]; omega) ⟨_, _, _, _, _, rfl⟩
        rw [Tr.enc] at this
        have hsS' : lstAt (S.set lf (.lst [.int a, .int b, .int g, .str w, .bl true])) sn = some (vs.map .str) := by rw [lstAt_set_ne (fun z => n2 (by simp [z]))]; exact hsS
        exact ⟨_, hsS', _, ex, by unfold En.w at hw0; omega, this⟩
      · intro hx
        clear hx
        try walk_at "ev1"
  case e5 =>
  rw [wp_cons, wp_ife]
  try walk_at "ev1"
  refine ifQ_by ?_ ?_
  · intro hx
    clear hx
    have := kid0 .void ok_void dep_void (by rw [size_void]; omega)
    rw [Tr.enc] at this
    try walk_at "ev"
    unfold En.w at hw0
    omega
  · intro hx
    clear hx
    try walk_at "ev"
end

end GA
namespace GA
open PySem VM
def tlN : Nat → Cs → Cs
  | n + 1, .cons _ r => tlN n r
  | _, c => c
structure TrOk (t : Tr) : Prop where
  kn : ∃ n tk ks, t = .knot n tk ks
  ok : t.ok
  dep : t.dep ≤ 10
  size : t.size ≤ 100
theorem sizeL_mid (a b : List Tr) (t : Tr) : sizeL (a ++ t :: b) = sizeL a + t.size + sizeL b := by
  rw [sizeL_app, sizeL]
  omega
theorem encs_ins (ks : List Tr) (t : Tr) (j : Nat) : (encs ks).take j ++ t.enc :: (encs ks).drop j = encs (ks.take j ++ t :: ks.drop j) := by
  rw [encs_map, encs_map, List.map_append, List.map_cons, List.map_take, List.map_drop]
theorem Stk.ext {S0 S S' : Sto} {st lf r0 : Nat} {es : List En} (h : Stk S0 st lf r0 es S) (X : Ext S S') : Stk S0 st lf r0 es S' :=
  ⟨h.fr.ext X, h.lt, h.ne, X.lst h.at_, fun e he => X.lst (h.kids e he), h.nd, h.own, let ⟨ls, a, b⟩ := h.left; ⟨ls, X.lst a, b⟩, h.ok⟩
section
variable {sub : Nat → Nat → Bool} {tbl : List (Nat × Fd)} {k : Nat} {S : Sto}
/-- one kid put amid the kids of the one knot open -/
theorem Stk.ins {S0 : Sto} {st lf r0 : Nat} {e : En} (h : Stk S0 st lf r0 [e] S) {t : Tr} (ht : t.ok) (hd : t.dep ≤ 9) (j : Nat) :
    Stk S0 st lf r0 [{ e with ks := e.ks.take j ++ t :: e.ks.drop j }] (S.set e.r (.lst (encs (e.ks.take j ++ t :: e.ks.drop j)))) := by
  have em : e ∈ [e] := by simp
  have hr := h.rne em
  have hlt : e.r < S.length := lstAt_lt (h.kids e em)
  refine ⟨h.fr.set ?_ _, h.lt, h.ne, ?_, ?_, by simp, ?_, ?_, ?_⟩
  · rcases h.own e em with z | z
    · exact .inl (by rw [z]; simp)
    · exact .inr z
  · rw [lstAt_set_ne (Ne.symm hr.1), h.at_]
    rfl
  · intro e' he'
    rw [List.mem_singleton] at he'
    subst he'
    rw [lstAt_set hlt]
  · intro e' he'
    rw [List.mem_singleton] at he'
    subst he'
    exact h.own e em
  · obtain ⟨ls, e1, e2⟩ := h.left
    exact ⟨ls, by rw [lstAt_set_ne (Ne.symm hr.2)]; exact e1, e2⟩
  · intro i e' he'
    have q := h.ok 0 e rfl
    cases i with
    | zero =>
      cases he'
      refine ⟨(okL_iff _).mpr fun u hu => ?_, ?_⟩
      · rw [List.mem_append, List.mem_cons] at hu
        rcases hu with hu | rfl | hu
        · exact (okL_iff _).mp q.1 u (List.mem_of_mem_take hu)
        · exact ht
        · exact (okL_iff _).mp q.1 u (List.mem_of_mem_drop hu)
      · show depL _ + 0 ≤ 9
        rw [Nat.add_zero, depL_le]
        intro u hu
        have hb := (depL_le e.ks 9).mp (by have := q.2; omega)
        rw [List.mem_append, List.mem_cons] at hu
        rcases hu with hu | rfl | hu
        · exact hb u (List.mem_of_mem_take hu)
        · exact hd
        · exact hb u (List.mem_of_mem_drop hu)
    | succ i => simp at he'
theorem tree_sp (hp : HasDraw tbl) {xs : List Int} {cn nn sn : Nat} {ws vs : List Str} {gr up : Bool} {own : Nat} (hc : lstAt S cn = some (xs.map .int)) (hx : xs.length ≤ 24)
    (hn : lstAt S nn = some (ws.map .str)) (hw : ws.length = 6) (hs : lstAt S sn = some (vs.map .str)) (hv : vs.length = 3) (ho : own < 6) :
    Wx NoX (callN sub tbl (k + 3) 30 [.ref cn, .bl gr, .int own, .ref nn, .ref sn, .bl up] S) fun d S' => ∃ t : Tr, d = t.enc ∧ TrOk t ∧ Ext S S' := by
  refine Wp.gen fun Q hQ => ?_
  have sz : sizeLine = 16777216 := rfl
  obtain ⟨wo, _, eo⟩ := atI_map (f := D.str) (xs := ws) (i := (own : Int)) (by omega) (by omega)
  have hnl := lstAt_lt hn
  have hsl := lstAt_lt hs
  have hcl := lstAt_lt hc
  refine wp_call hp.tree rfl ?_
  unfold b__law_tree
  rw [wp_cons]
  try walk_at "ev1"
  refine (cell_ref hp (k := k + 1) (j := 0) hc).mono ?_
  rintro _ S1 ⟨rfl, rfl⟩
  generalize cellA xs 0 = first
  rw [seqQ_nx, wp_cons]
  try walk_at "ev1"
  refine (left_sp hp (k := k + 1)).mono ?_
  rintro _ S2 ⟨ls, rfl, rfl, hls⟩
  rw [seqQ_nx, wp_cons]
  have X2 : Ext S1 (S1 ++ [.lst ls]) := Ext.app _ _
  have hn2 := X2.lst hn
  have hs2 := X2.lst hs
  have hc2 := X2.lst hc
  have hl2 : lstAt (S1 ++ [.lst ls]) S1.length = some ls := lstAt_new
  have hlen2 : (S1 ++ [O.lst ls]).length = S1.length + 1 := by simp
  generalize S1 ++ [O.lst ls] = S2 at *
  obtain ⟨w2, _, e2⟩ := atI_map (f := D.str) (xs := ws) (i := first / 160 % 6) (by omega) (by omega)
  have tail : ∀ w8 : Str, Wx NoX (exCs ⟨callN sub tbl (k + 2), sub⟩ (tlN 3 b__law_tree) [some (.ref cn), some (.bl gr), some (.int own), some (.ref nn), some (.ref sn), some (.bl up), some (.int first), some (.ref S1.length), some (.str w8), none, none, none, none, none] S2) (retQ Q NoX) := ?_
  · rw [wp_set, we_ite, wt_v, we_var]
    refine ⟨_, rfl, ?_⟩
    rw [tru_bl]
    refine ⟨_, rfl, iteE_by ?_ ?_⟩
    · intro hx
      clear hx
      try walk_at "ev1"
      exact tail w2
    · intro hx
      clear hx
      try walk_at "ev1"
      exact tail wo
  intro w8
  unfold b__law_tree
  simp only [tlN]
  rw [wp_cons]
  try walk_at "ev1"
  have hkd : ∃ kd : Int, L2.atI [D.int 5, .int 6, .int 7, .int 11] (first / 8 % 4) = some (.int kd) := by
    obtain ⟨m, e⟩ : ∃ m : Nat, first / 8 % 4 = m := ⟨(first / 8 % 4).toNat, by omega⟩
    rw [e, atI_cast]
    have hm : m < 4 := by omega
    match m, hm with
    | 0, _ => exact ⟨5, rfl⟩
    | 1, _ => exact ⟨6, rfl⟩
    | 2, _ => exact ⟨7, rfl⟩
    | 3, _ => exact ⟨11, rfl⟩
  obtain ⟨kd, ekd⟩ := hkd
  rw [ekd]
  refine ⟨_, rfl, ?_⟩
  have X3 : Ext S1 (S2 ++ [.lst [D.int 5, .int 6, .int 7, .int 11]]) := X2.app1 _
  have hn3 := X3.lst hn
  have hs3 := X3.lst hs
  have hc3 := X3.lst hc
  have hl3 : lstAt (S2 ++ [.lst [D.int 5, .int 6, .int 7, .int 11]]) S1.length = some ls := by rw [lstAt_app (by omega)]; exact hl2
  have hlen3 : (S2 ++ [O.lst [D.int 5, .int 6, .int 7, .int 11]]).length = S1.length + 2 := by simp [hlen2]
  generalize S2 ++ [O.lst [D.int 5, .int 6, .int 7, .int 11]] = S3 at *
  rw [seqQ_nx, wp_cons]
  try walk_at "ev1"
  refine (name_sp hp (k := k + 1) hn3 hw (by omega)).mono ?_
  rintro _ S4 ⟨nm, rfl, X4⟩
  have hl4 := X4.lst hl3
  try walk_at "ev1"
  refine (takes_sp hp (k := k + 1) hl4 hls).mono ?_
  rintro _ S5 ⟨tk, ls', rfl, rfl, hls'⟩
  have X14 : Ext S1 S4 := X3.trans X4
  have l14 := X14.len
  have l34 := X4.len
  have Xr : Ext S1 (S4.set S1.length (.lst ls')) := X14.set (Nat.le_refl _) _
  try walk_at "ev1"
  have nn1 : nn < S1.length := hnl
  -- the stack begun
  have hB : Stk (S4.set S1.length (.lst ls') ++ [.lst []] ++ [.lst [.tup [.str w8, takD tk, .ref S4.length]]] ++ [.lst ((xs.map D.int).drop 1)]) (S4.length + 1) S1.length S4.length [⟨w8, tk, S4.length, []⟩] (S4.set S1.length (.lst ls') ++ [.lst []] ++ [.lst [.tup [.str w8, takD tk, .ref S4.length]]] ++ [.lst ((xs.map D.int).drop 1)]) := by
    have z : (S4.set S1.length (.lst ls')).length = S4.length := by simp
    refine ⟨.refl _ _, ⟨by simp, by simp; omega, by simp⟩, ⟨by omega, by omega, by omega⟩, ?_, ?_, by simp, ?_, ⟨ls', ?_, hls'⟩, ?_⟩
    · rw [lstAt_app (by simp)]
      exact lstAt_newE (by simp)
    · intro e he
      rw [List.mem_singleton] at he
      subst he
      show lstAt _ S4.length = some (encs [])
      rw [lstAt_app (by simp), lstAt_app (by simp), encs]
      exact lstAt_newE (by simp)
    · intro e he
      rw [List.mem_singleton] at he
      subst he
      exact .inl rfl
    · rw [lstAt_app (by simp; omega), lstAt_app (by simp; omega), lstAt_app (by simp; omega), lstAt_set (by omega)]
    · intro i e he
      cases i with
      | zero =>
        cases he
        exact ⟨by rw [okL]; trivial, by show depL [] + 0 ≤ 9; rw [depL]; omega⟩
      | succ i => simp at he
  have hcs : lstAt (S4.set S1.length (.lst ls') ++ [.lst []] ++ [.lst [.tup [.str w8, takD tk, .ref S4.length]]] ++ [.lst ((xs.map D.int).drop 1)]) (S4.length + 2) = some ((xs.map D.int).drop 1) := lstAt_newE (by simp)
  have hc6 : lstAt (S4.set S1.length (.lst ls') ++ [.lst []] ++ [.lst [.tup [.str w8, takD tk, .ref S4.length]]]) cn = some (xs.map D.int) := by
    rw [lstAt_app (by simp; omega), lstAt_app (by simp; omega)]
    exact Xr.lst hc
  have X7 : Ext S1 (S4.set S1.length (.lst ls') ++ [.lst []] ++ [.lst [.tup [.str w8, takD tk, .ref S4.length]]] ++ [.lst ((xs.map D.int).drop 1)]) := ((Xr.app1 _).app1 _).app1 _
  have l6 : (S4.set S1.length (.lst ls') ++ [O.lst []] ++ [O.lst [.tup [.str w8, takD tk, .ref S4.length]]]).length = S4.length + 2 := by simp
  have est : (S4.set S1.length (.lst ls') ++ [O.lst []]).length = S4.length + 1 := by simp
  have nt : ∀ m, m < S1.length → m ∉ [S4.length + 1, S1.length, S4.length] := fun m hm z => by simp at z; omega
  have hnB := X7.lst hn
  have hsB := X7.lst hs
  rw [seqQ_nx, wp_cons]
  try walk_at "ev1"
  generalize S4.set S1.length (.lst ls') ++ [.lst []] ++ [.lst [.tup [.str w8, takD tk, .ref S4.length]]] ++ [.lst ((xs.map D.int).drop 1)] = SB at *
  generalize S4.length = r0 at *
  generalize hlfE : S1.length = lf at *
  clear hc6 l6 est hl4 X4 hl3 hn3 hs3 hc3 hlen3 X3 hl2 hlen2 hn2 hs2 hc2 X2 Xr X14 ekd
  refine wp_fR (ds := (xs.map D.int).drop 1) (fun i ρ S' => ∃ x, ρ = [some (.ref cn), some (.bl gr), some (.int own), some (.ref nn), some (.ref sn), some (.bl up), some (.int first), some (.ref lf), some (.str w8), some (.int kd), some (.ref (r0 + 1)), x, none, none] ∧
    ∃ es e, Stk SB (r0 + 1) lf r0 (es ++ [e]) S' ∧ (es ++ [e]).length ≤ 9 ∧ wgt (es ++ [e]) ≤ 2 + 2 * i) ?_ ?_ ?_ ?_
  · exact ⟨_, rfl, [], _, hB, by simp, by rw [List.nil_append, wgt_one]; unfold En.w; rw [sizeL]; omega⟩
  · rintro i ρ S' ⟨x, _, es, e, h, _⟩
    exact h.fr.lst hcs (by simp; omega)
  · rintro i d ρ S' hd ⟨x, rfl, es, e, h, h1, h2⟩ J hJ
    rw [← List.map_drop, List.getElem?_map] at hd
    cases ei : (xs.drop 1)[i]? with
    | none => rw [ei] at hd; cases hd
    | some c =>
      rw [ei] at hd
      cases hd
      have hi := (List.getElem?_eq_some_iff.mp ei).1
      rw [List.length_drop] at hi
      have hn' := h.fr.lst hnB (nt _ hnl)
      refine ⟨_, rfl, ?_⟩
      try walk_at "ev1"
      rw [wp_cons]
      try walk_at "ev1"
      refine (name_sp hp (k := k + 1) hn' hw (by omega)).mono ?_
      rintro _ S'' ⟨nm, rfl, X⟩
      try walk_at "ev1"
      refine (lay_sp hp (k := k) (h.ext X) h1 (by omega) hnB hw (nt _ hnl) hsB hv (nt _ hsl)).mono ?_
      rintro d S3' ⟨es', e', h', h1', h2'⟩
      try walk_at "ev1"
      exact hJ _ _ ⟨_, rfl, es', e', h', h1', by omega⟩
  · rintro ρ S' ⟨x, rfl, es, e, h, h1, h2⟩
    have h2 : wgt (es ++ [e]) ≤ 50 := by
      rw [List.length_drop, List.length_map] at h2
      omega
    rw [seqQ_nx, wp_cons]
    try walk_at "ev1"
    refine wp_while (fun m ρ S' => ∃ y, ρ = [some (.ref cn), some (.bl gr), some (.int own), some (.ref nn), some (.ref sn), some (.bl up), some (.int first), some (.ref lf), some (.str w8), some (.int kd), some (.ref (r0 + 1)), x, none, y] ∧
      ∃ es e, Stk SB (r0 + 1) lf r0 (es ++ [e]) S' ∧ es.length = m ∧ wgt (es ++ [e]) ≤ 50) es.length ⟨_, rfl, es, e, h, rfl, h2⟩ ?_
    rintro m ρ S3' ⟨y, rfl, es, e, h, rfl, h2⟩
    have hst := h.at_
    have hll : ((es ++ [e]).map En.d).length = es.length + 1 := by simp
    try walk_at "ev1"
    by_cases hm0 : (1 : Int) < ((es.length + 1 : Nat) : Int)
    · rw [if_pos (by simpa using hm0)]
      obtain ⟨es', e0, rfl⟩ : ∃ es' e0, es = es' ++ [e0] := by
        have hne : es ≠ [] := fun z => by rw [z] at hm0; simp at hm0
        exact ⟨es.dropLast, es.getLast hne, (List.dropLast_concat_getLast hne).symm⟩
      refine hang_sp (k := k + 1) (iv := 13) hp h (by omega) (.inr trivial) 10 rfl (by simp) (by omega) .nil fun t S4' ht hS => ?_
      rw [wp_nil]
      show ∃ m', _
      refine ⟨es'.length, by simp, _, rfl, es', _, hS, rfl, ?_⟩
      rw [wgt_app, wgt_one, wgt_app, wgt_one] at h2
      rw [wgt_app, wgt_one]
      unfold En.w at ht h2 ⊢
      simp only at ht h2 ⊢
      rw [sizeL_app, sizeL, sizeL]
      omega
    · rw [if_neg (by simpa using hm0)]
      have hes : es = [] := List.length_eq_zero_iff.mp (by omega)
      subst hes
      rw [List.nil_append] at h h2
      clear hll hst hm0
      have key : ∀ (er : Nat) (y : Option D),
          (∀ e S', Stk SB (r0 + 1) lf r0 [e] S' → wgt [e] ≤ 53 → e.r = er → Wx NoX (exCs ⟨callN sub tbl (k + 2), sub⟩ (tlN 9 b__law_tree) [some (.ref cn), some (.bl gr), some (.int own), some (.ref nn), some (.ref sn), some (.bl up), some (.int first), some (.ref lf), some (.str w8), some (.int kd), some (.ref (r0 + 1)), x, some (.ref er), y] S') (retQ Q NoX)) := by
        intro er y
        have last : ∀ e S', Stk SB (r0 + 1) lf r0 [e] S' → wgt [e] ≤ 56 → Wx NoX (exCs ⟨callN sub tbl (k + 2), sub⟩ (tlN 10 b__law_tree) [some (.ref cn), some (.bl gr), some (.int own), some (.ref nn), some (.ref sn), some (.bl up), some (.int first), some (.ref lf), some (.str w8), some (.int kd), some (.ref (r0 + 1)), x, some (.ref er), y] S') (retQ Q NoX) := by
          intro e S' h h2
          rw [wgt_one] at h2
          unfold b__law_tree
          simp only [tlN]
          try walk_at "ev"
          refine (shut_sp hp (k := k + 1) (es := []) h (by unfold En.w at h2; omega)).mono ?_
          rintro _ S5 ⟨t, rfl, t1, t2, t3, t4, ds, rfl⟩
          refine hQ _ _ ⟨t, rfl, ⟨t4, t1, by simpa using t2, by omega⟩, ?_⟩
          have hp := h.pop (es := []) (ds := ds)
          refine hp.fr.toExt X7 fun n hn => ?_
          simp at hn
          omega
        intro e S' h h2 he
        subst he
        have em : e ∈ [e] := by simp
        obtain ⟨ls, hl, a, b, g, w, f, rfl⟩ := h.left
        have hk := h.kids e em
        have hlk := lstAt_lt hk
        have hel : (encs e.ks).length = e.ks.length := by rw [encs_map, List.length_map]
        have hs' := h.fr.lst hsB (nt _ hsl)
        have hls := sizeL_len e.ks
        unfold b__law_tree
        simp only [tlN]
        rw [wp_cons]
        try walk_at "ev1"
        refine ifQ_by ?_ ?_
        · intro hx
          clear hx
          obtain ⟨v, _, ev⟩ := atI_map (f := D.str) (xs := vs) (i := first / 5 % 3) (by omega) (by omega)
          have hpos : (0 : Int) < (e.ks.length : Int) + 1 := by omega
          have h0 := Int.emod_nonneg (first / 7) (b := (e.ks.length : Int) + 1) (by omega)
          have h1 := Int.emod_lt_of_pos (first / 7) (b := (e.ks.length : Int) + 1) (by omega)
          have h3 := h.ins (t := .leaf "sign" v) (by rw [Tr.ok]; exact .inl rfl) (by rw [dep_leaf]; omega) (first / 7 % ((e.ks.length : Int) + 1)).toNat
          have hz := last _ _ h3 (by rw [wgt_one] at h2 ⊢; unfold En.w at h2 ⊢; simp only; rw [sizeL_mid, size_leaf]; have := sizeL_app (e.ks.take (first / 7 % ((e.ks.length : Int) + 1)).toNat) (e.ks.drop (first / 7 % ((e.ks.length : Int) + 1)).toNat); rw [List.take_append_drop] at this; omega)
          rw [← encs_ins, Tr.enc] at hz
          rw [wgt_one] at h2
          unfold En.w at h2
          clear last
          rw [wp_cons]
          try walk_at "ev1"
          refine ⟨⟨by omega, by omega⟩, ?_⟩
          try walk_at "ev1"
          exact hz
        · intro hx
          clear hx
          try walk_at "ev1"
          exact last _ _ h (by omega)
      have em : e ∈ [e] := by simp
      obtain ⟨ls, hl, a, b, g, w, f, rfl⟩ := h.left
      have hst := h.at_
      have hk := h.kids e em
      have hlk := lstAt_lt hk
      have hel : (encs e.ks).length = e.ks.length := by rw [encs_map, List.length_map]
      have hn' := h.fr.lst hnB (nt _ hnl)
      have hls := sizeL_len e.ks
      rw [seqQ_nx, wp_cons]
      try walk_at "ev1"
      rw [show e.d = .tup [.str e.n, takD e.tk, .ref e.r] from rfl]
      try walk_at "ev1"
      rw [seqQ_nx, wp_cons]
      try walk_at "ev1"
      refine ifQ_by ?_ ?_
      · intro hx
        clear hx
        have hpos : (0 : Int) < (e.ks.length : Int) + 1 := by omega
        have h0 := Int.emod_nonneg (first / 3) (b := (e.ks.length : Int) + 1) (by omega)
        have h1 := Int.emod_lt_of_pos (first / 3) (b := (e.ks.length : Int) + 1) (by omega)
        have h3 := h.ins (t := .leaf "foot" wo) (by rw [Tr.ok]; exact .inr (.inr rfl)) (by rw [dep_leaf]; omega) (first / 3 % ((e.ks.length : Int) + 1)).toNat
        have hz := fun y => key e.r y _ _ h3 (by rw [wgt_one] at h2 ⊢; unfold En.w at h2 ⊢; simp only; rw [sizeL_mid, size_leaf]; have := sizeL_app (e.ks.take (first / 3 % ((e.ks.length : Int) + 1)).toNat) (e.ks.drop (first / 3 % ((e.ks.length : Int) + 1)).toNat); rw [List.take_append_drop] at this; omega) rfl
        rw [← encs_ins, Tr.enc] at hz
        rw [wgt_one] at h2
        unfold En.w at h2
        clear key
        rw [wp_cons]
        try walk_at "ev1"
        refine ⟨⟨by omega, by omega⟩, ?_⟩
        try walk_at "ev1"
        exact hz _
      · intro hx
        clear hx
        try walk_at "ev1"
        exact key _ _ _ _ h (by omega) rfl
end

end GA
namespace GA
open PySem VM
def hdC : Cs → C
  | .cons c _ => c
  | .nil => .pass
def bodyOf : C → Cs
  | .for_ _ _ b => b
  | .whl _ b => b
  | _ => .nil
theorem pickL_map {α β : Type} (f : α → β) (xs : List α) (lo st : Int) : pickL (xs.map f) lo st = (pickL xs lo st).map f := by
  unfold pickL
  rw [List.length_map, List.map_filterMap]
  congr 1
  funext i
  rw [List.getElem?_map]
theorem pickL_len {α : Type} (xs : List α) (lo st : Int) (hs : 0 < st) : (pickL xs lo st).length ≤ xs.length := by
  unfold pickL
  refine Nat.le_trans (List.length_filterMap_le _ _) ?_
  have hst : st > 0 := hs
  refine sliceRange_length_le _ _ _ _ ?_ ?_
  · intro _
    simp only [sliceBounds, Option.getD_some, if_pos hst]
    constructor
    · split <;> omega
    · omega
  · intro hn
    simp only [sliceBounds, Option.getD_some] at hn
    exact absurd hst hn
def prD (p : Str × Tr) : D := .tup [.str p.1, p.2.enc]
structure Book where
  top : Str
  trs : List (Str × Tr)
def Book.d (B : Book) : D := .tup [.str B.top, .tup (B.trs.map prD)]
structure BookOk (B : Book) : Prop where
  pos : 1 ≤ B.trs.length
  le : B.trs.length ≤ 6
  nd : (B.trs.map (·.1)).Nodup
  tr : ∀ p ∈ B.trs, TrOk p.2
section
variable {sub : Nat → Nat → Bool} {tbl : List (Nat × Fd)} {k : Nat} {S : Sto}
theorem book_sp (hp : HasDraw tbl) {xs : List Int} (hx : xs.length ≤ 63) : Wx NoX (callN sub tbl (k + 4) 31 [.fz (xs.map .int)] S) fun d S' => ∃ B : Book, d = B.d ∧ BookOk B ∧ Ext S S' := by
  refine Wp.gen fun Q hQ => ?_
  have sz : sizeLine = 16777216 := rfl
  refine wp_call hp.book rfl ?_
  unfold b__law_book
  rw [wp_cons]
  try walk_at "ev1"
  refine (cell_fz hp (k := k + 2) (j := 0)).mono ?_
  rintro _ S1 ⟨rfl, rfl⟩
  generalize cellA xs 0 = plan
  rw [seqQ_nx, wp_cons]
  try walk_at "ev1"
  have hm0 : 0 ≤ plan % 6 := Int.emod_nonneg _ (by omega)
  have hm1 : plan % 6 < 6 := Int.emod_lt_of_pos _ (by omega)
  obtain ⟨n, hn⟩ : ∃ n : Nat, 1 + plan % 6 = n := ⟨(1 + plan % 6).toNat, by omega⟩
  rw [hn]
  rw [seqQ_nx, wp_cons]
  try walk_at "ev1"
  refine (cell_fz hp (k := k + 2) (j := 1)).mono ?_
  rintro _ S2 ⟨rfl, rfl⟩
  try walk_at "ev1"
  refine (names_sp hp (k := k + 2)).mono ?_
  rintro _ S2 ⟨nn, ws, rfl, X2, hnl, hnn, hws⟩
  rw [seqQ_nx, wp_cons]
  try walk_at "ev1"
  refine (cell_fz hp (k := k + 2) (j := 2)).mono ?_
  rintro _ S3 ⟨rfl, rfl⟩
  try walk_at "ev1"
  refine (keys_sp hp (k := k + 2) (n := n) (by omega)).mono ?_
  rintro _ S3 ⟨kn, ks, rfl, X3, hkl, hkn, hks, hknd⟩
  have hnn3 := X3.lst hnn
  rw [seqQ_nx, wp_cons]
  try walk_at "ev1"
  refine (cell_fz hp (k := k + 2) (j := 3)).mono ?_
  rintro _ S4 ⟨rfl, rfl⟩
  try walk_at "ev1"
  refine (signs_sp hp (k := k + 2)).mono ?_
  rintro _ S4 ⟨sn, vs, rfl, X4, hsl, hsn, hvs⟩
  have hnn4 := X4.lst hnn3
  have hkn4 := X4.lst hkn
  have X14 := (X2.trans X3).trans X4
  clear X2 X3 X4 hnn hnn3 hkn hnl hkl hsl
  rw [seqQ_nx, wp_cons]
  try walk_at "ev1"
  rw [seqQ_nx, wp_cons]
  generalize (plan / 6 % 2 == 1) = up
  have z0 : (0 : Int) ≤ 0 := by omega
  have z1 : (0 : Int) < 6 := by omega
  have z2 : 0 ≤ plan / 12 % 3 := by omega
  have z3 : plan / 12 % 3 < 6 := by omega
  have tail : ∀ tp : Int, 0 ≤ tp → tp < 6 → Wx NoX (exCs ⟨callN sub tbl (k + 3), sub⟩ (tlN 7 b__law_book) [some (.fz (xs.map .int)), some (.int plan), some (.int n), some (.ref nn), some (.ref kn), some (.ref sn), some (.bl up), some (.int tp), none, none, none, none, none, none] S4) (retQ Q NoX) := ?_
  · unfold b__law_book at tail
    simp only [tlN] at tail
    rw [wp_set, we_ite, wt_v, we_var]
    refine ⟨_, rfl, ?_⟩
    rw [tru_bl]
    refine ⟨_, rfl, iteE_by ?_ ?_⟩
    · intro hx
      clear hx
      have tail := tail 0 z0 z1
      try walk_at "ev1"
      exact tail
    · intro hx
      clear hx
      have tail := tail (plan / 12 % 3) z2 z3
      try walk_at "ev1"
      exact tail
  intro tp htp0 htp
  have hfor : (tlN 8 b__law_book) = .cons (hdC (tlN 8 b__law_book)) (tlN 9 b__law_book) := rfl
  have hfor2 : hdC (tlN 8 b__law_book) = .for_ (.nm 9) (.rng1 (.var 2)) (bodyOf (hdC (tlN 8 b__law_book))) := rfl
  have h7 : tlN 7 b__law_book = .cons (.set 8 (.lst .nil)) (tlN 8 b__law_book) := rfl
  rw [h7, wp_cons]
  clear h7
  rw [wp_set, we_lst, wa_nil]
  rw [seqQ_nx, hfor, wp_cons, hfor2]
  clear hfor hfor2
  try walk_at "ev1"
  refine ⟨⟨by omega, by omega⟩, ?_⟩
  refine wp_fF (fun i ρ S' => ∃ x9 x10 x11 x12 x13 ps, ρ = [some (.fz (xs.map .int)), some (.int plan), some (.int n), some (.ref nn), some (.ref kn), some (.ref sn), some (.bl up), some (.int tp), some (.ref S4.length), x9, x10, x11, x12, x13] ∧ Ext S4 S' ∧
    lstAt S' S4.length = some ((ps : List (Str × Tr)).map prD) ∧ ps.length = i ∧ ps.map (·.1) = ks.take i ∧ ∀ p ∈ ps, TrOk p.2) ?_ ?_ ?_
  · exact ⟨_, _, _, _, _, [], rfl, Ext.app _ _, lstAt_new, rfl, rfl, fun p hp => by cases hp⟩
  · rintro i d ρ S' hd ⟨x9, x10, x11, x12, x13, ps, rfl, X, hl, hpl, hpk, hpo⟩ J hJ
    rw [List.getElem?_map] at hd
    cases e : (List.range n)[i]? with
    | none => rw [e] at hd; cases hd
    | some j =>
      rw [e] at hd
      cases hd
      obtain ⟨hi, hj⟩ := List.getElem?_eq_some_iff.mp e
      rw [List.getElem_range] at hj
      rw [List.length_range] at hi
      subst hj
      refine ⟨_, rfl, ?_⟩
      have hz : (pickL (xs.map D.int) (5 + (i : Int)) n).length ≤ sizeLine := by
        have := pickL_len (xs.map D.int) (5 + (i : Int)) n (by omega)
        rw [List.length_map] at this
        omega
      have hn0 : ¬ ((n : Int) = 0) := by omega
      unfold b__law_book
      simp only [tlN, hdC, bodyOf]
      rw [wp_cons]
      try walk_at "ev1"
      refine ⟨_, _, rfl, rfl, ⟨hn0, by omega⟩, ?_⟩
      clear hz hn0
      rw [pickL_map, ← List.map_take]
      have hlen : ((pickL xs (5 + (i : Int)) n).take 24).length ≤ 24 := by rw [List.length_take]; omega
      generalize pickL xs (5 + (i : Int)) n = zs at *
      have hys : lstAt (S' ++ [.lst (zs.map D.int)] ++ [.lst ((zs.take 24).map D.int)]) (S'.length + 1) = some ((zs.take 24).map D.int) := lstAt_newE (by simp)
      have XB : Ext S' (S' ++ [.lst (zs.map D.int)] ++ [.lst ((zs.take 24).map D.int)]) := (Ext.app _ _).app1 _
      have hel : (S' ++ [O.lst (zs.map D.int)]).length = S'.length + 1 := by simp
      rw [hel]
      generalize S' ++ [.lst (zs.map D.int)] ++ [.lst ((zs.take 24).map D.int)] = SB at *
      generalize zs.take 24 = ys at *
      clear hel
      have hlB := XB.lst hl
      have XS := X.trans XB
      have hnB := XS.lst hnn4
      have hkB := XS.lst hkn4
      have hsB := XS.lst hsn
      rw [seqQ_nx, wp_cons]
      try walk_at "ev1"
      refine (cell_ref hp (k := k + 2) (j := 0) hys).mono ?_
      rintro _ S1' ⟨rfl, rfl⟩
      generalize cellA ys 0 = first
      rw [seqQ_nx, wp_cons]
      try walk_at "ev1"
      generalize (first / 4 % 2 == 1) = g
      rw [seqQ_nx, wp_cons]
      have body : ∀ (g : Bool) (own : Nat), own < 6 → Wx NoX (exCs ⟨callN sub tbl (k + 3), sub⟩ (tlN 5 (bodyOf (hdC (tlN 8 b__law_book)))) [some (.fz (xs.map .int)), some (.int plan), some (.int n), some (.ref nn), some (.ref kn), some (.ref sn), some (.bl up), some (.int tp), some (.ref S4.length), some (.int i), some (.ref (S'.length + 1)), some (.int first), some (.bl g), some (.int own)] S1') (forQ J (seqQ ⟨callN sub tbl (k + 3), sub⟩ (tlN 9 b__law_book) (retQ Q NoX))) := ?_
      · have own : ∀ own : Int, 0 ≤ own → own < 6 → Wx NoX (exCs ⟨callN sub tbl (k + 3), sub⟩ (tlN 4 (bodyOf (hdC (tlN 8 b__law_book)))) [some (.fz (xs.map .int)), some (.int plan), some (.int n), some (.ref nn), some (.ref kn), some (.ref sn), some (.bl up), some (.int tp), some (.ref S4.length), some (.int i), some (.ref (S'.length + 1)), some (.int first), some (.bl g), some (.int own)] S1') (forQ J (seqQ ⟨callN sub tbl (k + 3), sub⟩ (tlN 9 b__law_book) (retQ Q NoX))) := by
          intro own ho0 ho
          obtain ⟨ow, rfl⟩ : ∃ ow : Nat, own = ow := ⟨own.toNat, by omega⟩
          obtain ⟨tq, rfl⟩ : ∃ tq : Nat, tp = tq := ⟨tp.toNat, by omega⟩
          have b1 := body g ow (by omega)
          have b2 := body false tq (by omega)
          unfold b__law_book at b1 b2 ⊢
          simp only [tlN, hdC, bodyOf] at b1 b2 ⊢
          clear body
          have hn1 : (0 : Int) < n := by omega
          rw [wp_cons]
          try walk_at "ev1"
          refine andQ_by' ?_ ?_
          · intro hx
            clear hx b2
            try walk_at "ev1"
            exact b1
          · intro hx
            clear hx
            try walk_at "ev1"
            refine ifQ_by ?_ ?_
            · intro hx
              clear hx b1
              rw [wp_cons]
              try walk_at "ev1"
              rw [seqQ_nx, wp_cons]
              try walk_at "ev1"
              exact b2
            · intro hx
              clear hx b2
              try walk_at "ev1"
              exact b1
        have q0 : 0 ≤ first % 4 := by omega
        have q1 : first % 4 < 6 := by omega
        have q2 : 0 ≤ first % 3 := by omega
        have q3 : first % 3 < 6 := by omega
        have own4 := own _ q0 q1
        have own3 := own _ q2 q3
        unfold b__law_book at own3 own4
        simp only [tlN, hdC, bodyOf] at own3 own4
        clear own body
        rw [wp_set, we_ite, wt_v, we_var]
        refine ⟨_, rfl, ?_⟩
        rw [tru_bl]
        refine ⟨_, rfl, iteE_by ?_ ?_⟩
        · intro hx
          clear hx own3
          try walk_at "ev1"
          exact own4
        · intro hx
          clear hx own4
          try walk_at "ev1"
          exact own3
      intro g own hown
      unfold b__law_book
      simp only [tlN, hdC, bodyOf]
      rw [wp_cons]
      have eki : (ks.map D.str)[i]? = some (.str ks[i]) := by rw [List.getElem?_map, List.getElem?_eq_getElem (by omega)]; rfl
      try walk_at "ev1"
      rw [atI_cast, eki]
      refine ⟨_, rfl, ?_⟩
      refine (tree_sp hp (k := k) hys hlen hnB hws hsB hvs hown).mono ?_
      rintro _ S3' ⟨t, rfl, ht, XT⟩
      have hl3 := XT.lst hlB
      have hl3' := lstAt_lt hl3
      try walk_at "ev1"
      refine ⟨by rw [List.length_map]; omega, ?_⟩
      refine hJ _ _ ⟨_, _, _, _, _, ps ++ [(ks[i], t)], rfl, (XS.trans XT).set (Nat.le_refl _) _, ?_, by simp [hpl], ?_, ?_⟩
      · rw [lstAt_set hl3', List.map_append]
        rfl
      · rw [List.map_append, hpk, List.take_succ, List.getElem?_eq_getElem (by omega)]
        rfl
      · intro p hp
        rw [List.mem_append, List.mem_singleton] at hp
        rcases hp with hp | rfl
        · exact hpo p hp
        · exact ht
  · rintro ρ S' ⟨x9, x10, x11, x12, x13, ps, rfl, X, hl, hpl, hpk, hpo⟩
    rw [List.length_map, List.length_range] at hpl hpk
    have hn' := X.lst hnn4
    obtain ⟨w, _, ew⟩ := atI_map (f := D.str) (xs := ws) (i := tp) (by omega) (by omega)
    have := hQ _ S' ⟨⟨w, ps⟩, rfl, ⟨by show 1 ≤ ps.length; omega, by show ps.length ≤ 6; omega, by show (ps.map (·.1)).Nodup; rw [hpk, List.take_of_length_le (by omega)]; exact hknd, hpo⟩, X14.trans X⟩
    unfold Book.d at this
    simp only at this
    unfold b__law_book
    simp only [tlN]
    try walk_at "ev"
end

end GA
namespace GA
open PySem VM
theorem enumL_get : ∀ (ds : List D) (k i : Nat), (enumL k ds)[i]? = ds[i]?.map fun d => .tup [.int (k + i : Nat), d]
  | [], k, i => by simp [enumL]
  | d :: ds, k, 0 => by simp [enumL]
  | d :: ds, k, i + 1 => by
    rw [enumL, List.getElem?_cons_succ, List.getElem?_cons_succ, enumL_get ds (k + 1) i]
    congr 1
    funext d
    rw [show k + 1 + i = k + (i + 1) by omega]
theorem enumL_len : ∀ (ds : List D) (k : Nat), (enumL k ds).length = ds.length
  | [], k => rfl
  | d :: ds, k => by rw [enumL, List.length_cons, List.length_cons, enumL_len]
/-! ### the pieces of a tree -/
def plD (p : List Nat) : D := .tup (p.map fun (n : Nat) => .int n)
def Tr.kids : Tr → List Tr
  | .knot _ _ ks => ks
  | .leaf _ _ => []
  | .void => []
mutual
def Tr.pcs (p : List Nat) : Tr → List (List Nat × Tr)
  | .knot n tk ks => (p, .knot n tk ks) :: pcsL p 0 ks
  | .leaf k x => [(p, .leaf k x)]
  | .void => [(p, .void)]
def pcsL (p : List Nat) : Nat → List Tr → List (List Nat × Tr)
  | _, [] => []
  | i, t :: ts => t.pcs (p ++ [i]) ++ pcsL p (i + 1) ts
end
def pcD (q : List Nat × Tr) : D := .tup [plD q.1, q.2.enc]
theorem pcs_eq (p : List Nat) (t : Tr) : t.pcs p = (p, t) :: pcsL p 0 t.kids := by
  cases t with
  | void => rw [Tr.pcs, Tr.kids, pcsL]
  | leaf k x => rw [Tr.pcs, Tr.kids, pcsL]
  | knot n tk ks => rw [Tr.pcs, Tr.kids]
theorem pcsL_app (p : List Nat) : ∀ (a b : List Tr) (i : Nat), pcsL p i (a ++ b) = pcsL p i a ++ pcsL p (i + a.length) b
  | [], b, i => by rw [pcsL]; rfl
  | t :: a, b, i => by
    rw [List.cons_append, pcsL, pcsL, pcsL_app p a b (i + 1), List.append_assoc, List.length_cons]
    rw [show i + 1 + a.length = i + (a.length + 1) by omega]
mutual
theorem pcs_len : ∀ (t : Tr) (p : List Nat), (t.pcs p).length = t.size
  | .void, p => by rw [Tr.pcs, size_void]; rfl
  | .leaf k x, p => by rw [Tr.pcs, size_leaf]; rfl
  | .knot n tk ks, p => by rw [Tr.pcs, Tr.size, List.length_cons, pcsL_len ks p 0]; omega
theorem pcsL_len : ∀ (ts : List Tr) (p : List Nat) (i : Nat), (pcsL p i ts).length = sizeL ts
  | [], p, i => by rw [pcsL, sizeL]; rfl
  | t :: ts, p, i => by rw [pcsL, sizeL, List.length_append, pcs_len t, pcsL_len ts]
end
def Tr.kd : Tr → Str
  | .void => "void"
  | .leaf k _ => k
  | .knot _ _ _ => "knot"
theorem kd_knot {t : Tr} (h : t.ok) : t.kd = "knot" ↔ ∃ n tk ks, t = .knot n tk ks := by
  cases t with
  | void => exact ⟨fun e => absurd e (by decide +kernel), fun ⟨_, _, _, e⟩ => by cases e⟩
  | leaf k x =>
    rw [Tr.ok] at h
    refine ⟨fun e => ?_, fun ⟨_, _, _, e⟩ => by cases e⟩
    have e : k = "knot" := e
    subst e
    rcases h with h | h | h <;> exact absurd h (by decide +kernel)
  | knot n tk ks => exact ⟨fun _ => ⟨_, _, _, rfl⟩, fun _ => rfl⟩
theorem idx0 {X0 : XQ} (t : Tr) (S : Sto) (Q : D → Sto → Prop) : Wx X0 (idxD t.enc (.int 0) S) Q = Q (.str t.kd) S := by
  cases t with
  | void => rw [Tr.enc, wi_idx_tup]; simp [atI_ofNat, Tr.kd]
  | leaf k x => rw [Tr.enc, wi_idx_tup]; simp [atI_ofNat, Tr.kd]
  | knot n tk ks => rw [Tr.enc, wi_idx_tup]; simp [atI_ofNat, Tr.kd]
theorem dep_kids {t u : Tr} (h : u ∈ t.kids) : u.dep + 1 ≤ t.dep := by
  cases t with
  | knot n tk ks =>
    rw [Tr.dep]
    have := (depL_le ks (depL ks)).mp (Nat.le_refl _) u h
    omega
  | _ => cases h
theorem ok_kids {t : Tr} (h : t.ok) : ∀ u ∈ t.kids, u.ok := by
  cases t with
  | knot n tk ks => rw [Tr.ok] at h; exact (okL_iff ks).mp h
  | _ => intro u hu; cases hu
theorem size_kids (t : Tr) : t.size = 1 + sizeL t.kids := by
  cases t with
  | knot n tk ks => rw [Tr.size]; rfl
  | leaf k x => rw [size_leaf, Tr.kids, sizeL]
  | void => rw [size_void, Tr.kids, sizeL]
structure HasPcs (tbl : List (Nat × Fd)) : Prop where
  pieces : tbl.lookup 0 = some ⟨2, 5, b_pieces_in⟩
  foot : tbl.lookup 1 = some ⟨1, 3, b_foot_in⟩
structure HasLPcs (tbl : List (Nat × Fd)) : Prop where
  pieces : tbl.lookup 32 = some ⟨3, 4, b__law_pieces⟩
  foot : tbl.lookup 33 = some ⟨1, 3, b__law_foot⟩
section
variable {sub : Nat → Nat → Bool} {tbl : List (Nat × Fd)}
theorem wadd_pl {X0 : XQ} {p : List Nat} {i : Nat} {S : Sto} {Q : D → Sto → Prop} : Wx X0 (bop .add (plD p) (.tup [.int (i : Nat)]) S) Q = (p.length + 1 ≤ sizeLine ∧ Q (plD (p ++ [i])) S) := by
  unfold plD
  rw [wadd_tup, List.length_map, List.map_append]
  rfl
theorem not_knot {t : Tr} (h : (t.kd == ("knot" : Str)) = false) : t.kids = [] := by
  cases t with
  | void => rfl
  | leaf k x => rfl
  | knot n tk ks => exact absurd h (by simp [Tr.kd])
theorem pieces_step (hp : HasPcs tbl) {t : Tr} {p : List Nat} {m : Nat} {S : Sto} (ht : t.ok) (hs : t.size ≤ 1000) (hpl : p.length ≤ 1000)
    (hrec : ∀ u ∈ t.kids, ∀ (p' : List Nat) (S : Sto), p'.length = p.length + 1 → Wx NoX (callN sub tbl m 0 [u.enc, plD p'] S) fun d S' => ∃ r, d = .ref r ∧ Ext S S' ∧ S.length ≤ r ∧ lstAt S' r = some ((u.pcs p').map pcD)) :
    Wx NoX (callN sub tbl (m + 1) 0 [t.enc, plD p] S) fun d S' => ∃ r, d = .ref r ∧ Ext S S' ∧ S.length ≤ r ∧ lstAt S' r = some ((t.pcs p).map pcD) := by
  have sz : sizeLine = 16777216 := rfl
  refine Wp.gen fun Q hQ => ?_
  refine wp_call hp.pieces rfl ?_
  unfold b_pieces_in
  rw [wp_cons]
  try walk_at "ev1"
  rw [seqQ_nx, wp_cons, wp_ife, wt_cmp, we_idx]
  try walk_at "ev1"
  rw [idx0]
  try walk_at "ev1"
  refine ifQ_by (fun h => ?_) (fun h => ?_)
  · obtain ⟨nm, tk, ks, rfl⟩ := (kd_knot ht).mp (beq_iff_eq.mp h)
    clear h
    have hok := ok_kids ht
    have hL := pcs_len (.knot nm tk ks) p
    rw [pcs_eq] at hL hQ
    simp only [Tr.kids] at hrec hok hL hQ
    rw [List.length_cons] at hL
    rw [Tr.enc, encs_map, wp_cons]
    try walk_at "ev1"
    refine wp_fF (fun i ρ S' => ∃ x y, ρ = [some (.tup [.str "knot", .str nm, takD tk, .tup (ks.map Tr.enc)]), some (plD p), some (.ref S.length), x, y] ∧ Ext S S' ∧ lstAt S' S.length = some (((p, Tr.knot nm tk ks) :: pcsL p 0 (ks.take i)).map pcD)) ?_ ?_ ?_
    · refine ⟨_, _, rfl, Ext.app _ _, ?_⟩
      rw [lstAt_new, List.take_zero, pcsL, List.map_cons, List.map_nil]
      unfold pcD
      simp only
      rw [Tr.enc, encs_map]
    · rintro i d ρ S1 hd' ⟨x, y, rfl, X1, L1⟩ J hJ
      rw [enumL_get, List.getElem?_map] at hd'
      cases eu : ks[i]? with
      | none => rw [eu] at hd'; cases hd'
      | some u =>
        rw [eu] at hd'
        cases hd'
        have hu : u ∈ ks := List.mem_of_getElem? eu
        obtain ⟨hi, eu'⟩ := List.getElem?_eq_some_iff.mp eu
        have htk : ks.take (i + 1) = ks.take i ++ [u] := by rw [List.take_succ, eu]; rfl
        have hl1 := lstAt_lt L1
        refine ⟨_, rfl, ?_⟩
        rw [Nat.zero_add]
        rw [wp_cons]
        try walk_at "ev1"
        rw [wadd_pl]
        refine ⟨by omega, ?_⟩
        refine (hrec u hu (p ++ [i]) S1 (by simp)).mono ?_
        rintro _ S2 ⟨r, rfl, X2, hr, L2⟩
        have L1' := X2.lst L1
        have hne : r ≠ S.length := by omega
        have hsz : sizeL (ks.take i) + u.size ≤ 1000 := by
          have h1 : sizeL (ks.take (i + 1)) + sizeL (ks.drop (i + 1)) = sizeL ks := by rw [← sizeL_app, List.take_append_drop]
          rw [htk, sizeL_app, sizeL, sizeL] at h1
          rw [Tr.size] at hs
          omega
        try walk_at "ev1"
        refine ⟨by simp only [List.length_map, List.length_cons]; rw [pcsL_len, pcs_len]; omega, ?_⟩
        refine hJ _ _ ⟨_, _, rfl, (X1.trans X2).set (Nat.le_refl _) _, ?_⟩
        rw [lstAt_set (lstAt_lt L1'), htk, pcsL_app, pcsL, pcsL, List.append_nil, List.length_take, Nat.min_eq_left (Nat.le_of_lt hi), Nat.zero_add, ← List.map_append]
        rfl
    · rintro ρ S1 ⟨x, y, rfl, X1, L1⟩
      rw [enumL_len, List.length_map, List.take_length] at L1
      try walk_at "ev"
      exact hQ _ _ ⟨_, rfl, X1, Nat.le_refl _, L1⟩
  · have hk := not_knot h
    try walk_at "ev"
    refine hQ _ _ ⟨_, rfl, Ext.app _ _, Nat.le_refl _, ?_⟩
    rw [lstAt_new, pcs_eq, hk, pcsL]
    rfl
theorem pieces_sp (hp : HasPcs tbl) : ∀ (n : Nat) (t : Tr) (p : List Nat) (k : Nat) (S : Sto), t.dep ≤ n → t.ok → t.size ≤ 1000 → p.length + n ≤ 1000 →
    Wx NoX (callN sub tbl (k + n + 1) 0 [t.enc, plD p] S) fun d S' => ∃ r, d = .ref r ∧ Ext S S' ∧ S.length ≤ r ∧ lstAt S' r = some ((t.pcs p).map pcD)
  | 0, t, p, k, S, hd, ht, hs, hpl => pieces_step hp ht hs (by omega) fun u hu => by have := dep_kids hu; omega
  | n + 1, t, p, k, S, hd, ht, hs, hpl => pieces_step (m := k + (n + 1)) hp ht hs (by omega) fun u hu p' S' hp' => by
    have h1 := dep_kids hu
    have h2 : u.size ≤ sizeL t.kids := by
      obtain ⟨a, b, e⟩ := List.append_of_mem hu
      rw [e, sizeL_mid]
      omega
    have h3 := size_kids t
    exact pieces_sp hp n u p' k S' (by omega) (ok_kids ht u hu) (by omega) (by omega)
/-- the first foot among the pieces -/
def isFt (q : List Nat × Tr) : Bool := q.2.kd == "foot"
def Tr.one : Tr → D
  | .leaf _ x => .str x
  | .knot n _ _ => .str n
  | .void => .non
def optS : Option Str → D
  | none => .non
  | some x => .str x
def footL (qs : List (List Nat × Tr)) : Option Str := match qs.find? isFt with
  | some (_, .leaf _ x) => some x
  | _ => none
def Tr.foot (t : Tr) : Option Str := footL (t.pcs [])
theorem foot_leaf {t : Tr} (h : t.ok) (hk : t.kd = "foot") : ∃ x, t = .leaf "foot" x := by
  cases t with
  | void => exact absurd hk (by decide +kernel)
  | leaf k x => exact ⟨x, by rw [show k = "foot" from hk]⟩
  | knot n tk ks => exact absurd hk (by show ¬ (("knot" : Str) = "foot"); decide +kernel)
mutual
theorem pcs_ok : ∀ (t : Tr) (p : List Nat), t.ok → ∀ q ∈ t.pcs p, q.2.ok
  | .void, p, h, q, hq => by rw [Tr.pcs, List.mem_singleton] at hq; subst hq; exact h
  | .leaf k x, p, h, q, hq => by rw [Tr.pcs, List.mem_singleton] at hq; subst hq; exact h
  | .knot n tk ks, p, h, q, hq => by
    rw [Tr.pcs, List.mem_cons] at hq
    rcases hq with rfl | hq
    · exact h
    · rw [Tr.ok] at h
      exact pcsL_ok ks p 0 h q hq
theorem pcsL_ok : ∀ (ts : List Tr) (p : List Nat) (i : Nat), okL ts → ∀ q ∈ pcsL p i ts, q.2.ok
  | [], p, i, _, q, hq => by rw [pcsL] at hq; cases hq
  | t :: ts, p, i, h, q, hq => by
    rw [okL] at h
    rw [pcsL, List.mem_append] at hq
    rcases hq with hq | hq
    · exact pcs_ok t _ h.1 q hq
    · exact pcsL_ok ts p (i + 1) h.2 q hq
end
theorem foot_walk {F : Orc} {ρ0 : D} {r : Nat} {qs : List (List Nat × Tr)} {S : Sto} {Q : D → Sto → Prop} (hl : lstAt S r = some (qs.map pcD)) (hok : ∀ q ∈ qs, q.2.ok) (hQ : Q (optS (footL qs)) S) :
    Wx NoX (forG (.tp [1, 2]) (fun ρ S => exCs F (.cons (.ife (.cmp .eq (.idx (.var 2) (.int 0)) (.str "foot")) (.cons (.ret (.idx (.var 2) (.int 1))) .nil) .nil) .nil) ρ S) (.dyn r .plain) [some ρ0, none, none] S) (seqQ F (.cons (.ret .non) .nil) (retQ Q NoX)) := by
  refine wp_fR (ds := qs.map pcD) (fun i ρ S' => ∃ x y, ρ = [some ρ0, x, y] ∧ S' = S ∧ (qs.take i).find? isFt = none) ⟨_, _, rfl, rfl, rfl⟩ ?_ ?_ ?_
  · rintro i ρ S' ⟨x, y, _, rfl, _⟩
    exact hl
  · rintro i d ρ S' hd ⟨x, y, rfl, rfl, hf⟩ J hJ
    rw [List.getElem?_map] at hd
    cases e : qs[i]? with
    | none => rw [e] at hd; cases hd
    | some q =>
      rw [e] at hd
      cases hd
      obtain ⟨p, t⟩ := q
      have hi := (List.getElem?_eq_some_iff.mp e).1
      have hqs : qs = qs.take i ++ (p, t) :: qs.drop (i + 1) := by
        conv => lhs; rw [← List.take_append_drop i qs]
        rw [List.drop_eq_getElem_cons hi, (List.getElem?_eq_some_iff.mp e).2]
      have htk : qs.take (i + 1) = qs.take i ++ [(p, t)] := by rw [List.take_succ, e]; rfl
      refine ⟨_, rfl, ?_⟩
      rw [wp_cons, wp_ife, wt_cmp, we_idx]
      try walk_at "ev1"
      rw [idx0]
      try walk_at "ev1"
      refine ifQ_by (fun h => ?_) (fun h => ?_)
      · obtain ⟨x, rfl⟩ := foot_leaf (hok _ (List.mem_of_getElem? e)) (beq_iff_eq.mp h)
        have : footL qs = some x := by
          unfold footL
          rw [hqs, List.find?_append, hf, Option.none_or, List.find?_cons_of_pos (by exact h)]
        rw [this] at hQ
        rw [Tr.enc]
        try walk_at "ev"
        exact hQ
      · try walk_at "ev"
        refine hJ _ _ ⟨_, _, rfl, rfl, ?_⟩
        rw [htk, List.find?_append, hf, Option.none_or]
        have : isFt (p, t) = false := h
        simp [this]
  · rintro ρ S' ⟨x, y, rfl, rfl, hf⟩
    rw [List.length_map, List.take_length] at hf
    have : footL qs = none := by unfold footL; rw [hf]
    rw [this] at hQ
    try walk_at "ev"
    exact hQ
theorem foot_sp (hp : HasPcs tbl) {t : Tr} {k : Nat} {S : Sto} (hd : t.dep ≤ 10) (ht : t.ok) (hs : t.size ≤ 1000) : Wx NoX (callN sub tbl (k + 12) 1 [t.enc] S) fun d S' => d = optS t.foot ∧ Ext S S' := by
  refine Wp.gen fun Q hQ => ?_
  refine wp_call hp.foot rfl ?_
  unfold b_foot_in
  rw [wp_cons]
  try walk_at "ev1"
  refine (pieces_sp hp 10 t [] k S hd ht hs (by simp)).mono ?_
  rintro _ S1 ⟨r, rfl, X1, hr, L1⟩
  try walk_at "ev1"
  exact foot_walk L1 (pcs_ok t [] ht) (hQ _ _ ⟨rfl, X1⟩)
end

end GA
namespace GA
open PySem VM
section
variable {sub : Nat → Nat → Bool} {tbl : List (Nat × Fd)}
theorem lpieces_step (hp : HasLPcs tbl) {t : Tr} {p : List Nat} {m fr : Nat} {S : Sto} {acc : List D} (ht : t.ok) (hs : t.size ≤ 1000) (hpl : p.length ≤ 1000) (hf : lstAt S fr = some acc) (hac : acc.length + t.size ≤ 100000)
    (hrec : ∀ u ∈ t.kids, ∀ (p' : List Nat) (S : Sto) (acc : List D), p'.length = p.length + 1 → lstAt S fr = some acc → acc.length + u.size ≤ 100000 → Wx NoX (callN sub tbl m 32 [u.enc, plD p', .ref fr] S) fun d S' => d = .ref fr ∧ FrX [fr] S S' ∧ lstAt S' fr = some (acc ++ (u.pcs p').map pcD)) :
    Wx NoX (callN sub tbl (m + 1) 32 [t.enc, plD p, .ref fr] S) fun d S' => d = .ref fr ∧ FrX [fr] S S' ∧ lstAt S' fr = some (acc ++ (t.pcs p).map pcD) := by
  have sz : sizeLine = 16777216 := rfl
  have hlt := lstAt_lt hf
  have hpos := size_pos t
  refine Wp.gen fun Q hQ => ?_
  refine wp_call hp.pieces rfl ?_
  unfold b__law_pieces
  rw [wp_cons]
  try walk_at "ev1"
  refine ⟨by omega, ?_⟩
  have h1 : lstAt (S.set fr (.lst (acc ++ [.tup [plD p, t.enc]]))) fr = some (acc ++ [.tup [plD p, t.enc]]) := lstAt_set hlt
  have F1 : FrX [fr] S (S.set fr (.lst (acc ++ [.tup [plD p, t.enc]]))) := (FrX.refl _ _).set (.inl (by simp)) _
  generalize S.set fr (.lst (acc ++ [.tup [plD p, t.enc]])) = S1 at *
  rw [seqQ_nx, wp_cons, wp_ife, wt_cmp, we_idx]
  try walk_at "ev1"
  rw [idx0]
  try walk_at "ev1"
  refine ifQ_by (fun h => ?_) (fun h => ?_)
  · obtain ⟨nm, tk, ks, rfl⟩ := (kd_knot ht).mp (beq_iff_eq.mp h)
    clear h
    have hok := ok_kids ht
    have hL := pcs_len (.knot nm tk ks) p
    rw [pcs_eq] at hL hQ
    simp only [Tr.kids] at hrec hok hL hQ
    rw [List.length_cons] at hL
    have e0 : ∀ (k : Nat) (u : Tr), ks[k]? = some u → (ks.map Tr.enc)[k]? = some u.enc := fun k u h => by rw [List.getElem?_map, h]; rfl
    have hks : ks.length ≤ 1000 := by have := sizeL_len ks; rw [Tr.size] at hs; omega
    have hen : (Tr.knot nm tk ks).enc = .tup [.str "knot", .str nm, takD tk, .tup (ks.map Tr.enc)] := by rw [Tr.enc, encs_map]
    have h1' : lstAt S1 fr = some (acc ++ ((p, Tr.knot nm tk ks) :: pcsL p 0 (ks.take 0)).map pcD) := by rw [h1, List.take_zero, pcsL]; rfl
    clear h1
    have hml : (ks.map Tr.enc).length = ks.length := List.length_map _
    rw [hen, wp_cons]
    try walk_at "ev1"
    refine ⟨⟨by omega, by omega⟩, ?_⟩
    refine wp_fF (fun i ρ S' => ∃ x, ρ = [some (.tup [.str "knot", .str nm, takD tk, .tup (ks.map Tr.enc)]), some (plD p), some (.ref fr), x] ∧ FrX [fr] S S' ∧ lstAt S' fr = some (acc ++ ((p, Tr.knot nm tk ks) :: pcsL p 0 (ks.take i)).map pcD)) ?_ ?_ ?_
    · exact ⟨_, rfl, F1, h1'⟩
    · rintro i d ρ S2 hd' ⟨x, rfl, F2, L2⟩ J hJ
      rw [List.getElem?_map] at hd'
      cases e : (List.range ks.length)[i]? with
      | none => rw [e] at hd'; cases hd'
      | some j =>
        rw [e] at hd'
        cases hd'
        obtain ⟨hi, hj⟩ := List.getElem?_eq_some_iff.mp e
        rw [List.getElem_range] at hj
        rw [List.length_range] at hi
        subst hj
        have eu : ks[i]? = some ks[i] := List.getElem?_eq_getElem hi
        have hu : ks[i] ∈ ks := List.getElem_mem hi
        have htk : ks.take (i + 1) = ks.take i ++ [ks[i]] := by rw [List.take_succ, eu]; rfl
        have euA := e0 i _ eu
        refine ⟨_, rfl, ?_⟩
        rw [wp_cons]
        try walk_at "ev1"
        rw [atI_cast, euA]
        refine ⟨_, rfl, ?_⟩
        rw [wadd_pl]
        refine ⟨by omega, ?_⟩
        have hsz : sizeL (ks.take i) + (ks[i]).size ≤ sizeL ks := by
          have h1 : sizeL (ks.take (i + 1)) + sizeL (ks.drop (i + 1)) = sizeL ks := by rw [← sizeL_app, List.take_append_drop]
          rw [htk, sizeL_app, sizeL, sizeL] at h1
          omega
        refine (hrec _ hu (p ++ [i]) S2 _ (by simp) L2 (by simp only [List.length_append, List.length_map, List.length_cons]; rw [pcsL_len]; rw [Tr.size] at hac; omega)).mono ?_
        rintro _ S3 ⟨rfl, F3, L3⟩
        try walk_at "ev1"
        refine hJ _ _ ⟨_, rfl, F2.trans F3, ?_⟩
        rw [L3, htk, pcsL_app, pcsL, pcsL, List.append_nil, List.length_take, Nat.min_eq_left (Nat.le_of_lt hi), Nat.zero_add, List.append_assoc, ← List.map_append]
        rfl
    · rintro ρ S2 ⟨x, rfl, F2, L2⟩
      rw [List.length_map, List.length_range, List.take_length] at L2
      try walk_at "ev"
      exact hQ _ _ ⟨rfl, F2, L2⟩
  · have hk := not_knot h
    try walk_at "ev"
    refine hQ _ _ ⟨rfl, F1, ?_⟩
    rw [h1, pcs_eq, hk, pcsL]
    rfl
theorem lpieces_sp (hp : HasLPcs tbl) {fr : Nat} : ∀ (n : Nat) (t : Tr) (p : List Nat) (k : Nat) (S : Sto) (acc : List D), t.dep ≤ n → t.ok → t.size ≤ 1000 → p.length + n ≤ 1000 → lstAt S fr = some acc → acc.length + t.size ≤ 100000 →
    Wx NoX (callN sub tbl (k + n + 1) 32 [t.enc, plD p, .ref fr] S) fun d S' => d = .ref fr ∧ FrX [fr] S S' ∧ lstAt S' fr = some (acc ++ (t.pcs p).map pcD)
  | 0, t, p, k, S, acc, hd, ht, hs, hpl, hf, hac => lpieces_step hp ht hs (by omega) hf hac fun u hu => by have := dep_kids hu; omega
  | n + 1, t, p, k, S, acc, hd, ht, hs, hpl, hf, hac => lpieces_step (m := k + (n + 1)) hp ht hs (by omega) hf hac fun u hu p' S' acc' hp' hf' hac' => by
    have h1 := dep_kids hu
    have h2 : u.size ≤ sizeL t.kids := by
      obtain ⟨a, b, e⟩ := List.append_of_mem hu
      rw [e, sizeL_mid]
      omega
    have h3 := size_kids t
    exact lpieces_sp hp n u p' k S' acc' (by omega) (ok_kids ht u hu) (by omega) (by omega) hf' hac'
/-- with a new list -/
theorem lpieces0 (hp : HasLPcs tbl) {t : Tr} {k : Nat} {S : Sto} (hd : t.dep ≤ 10) (ht : t.ok) (hs : t.size ≤ 1000) : Wx NoX (callN sub tbl (k + 11) 32 [t.enc, .tup [], .ref S.length] (S ++ [.lst []])) fun d S' => d = .ref S.length ∧ Ext S S' ∧ lstAt S' S.length = some ((t.pcs []).map pcD) := by
  refine (lpieces_sp hp 10 t [] k _ [] hd ht hs (by simp) lstAt_new (by simp; omega)).mono ?_
  rintro d S' ⟨rfl, F, L⟩
  refine ⟨rfl, F.toExt (Ext.app _ _) (fun n hn => by simp at hn; omega), ?_⟩
  simpa using L
theorem lfoot_sp (hp : HasLPcs tbl) {t : Tr} {k : Nat} {S : Sto} (hd : t.dep ≤ 10) (ht : t.ok) (hs : t.size ≤ 1000) : Wx NoX (callN sub tbl (k + 12) 33 [t.enc] S) fun d S' => d = optS t.foot ∧ Ext S S' := by
  refine Wp.gen fun Q hQ => ?_
  refine wp_call hp.foot rfl ?_
  unfold b__law_foot
  rw [wp_cons]
  try walk_at "ev1"
  refine (lpieces0 hp (k := k) hd ht hs).mono ?_
  rintro _ S1 ⟨rfl, X1, L1⟩
  try walk_at "ev1"
  exact foot_walk L1 (pcs_ok t [] ht) (hQ _ _ ⟨rfl, X1⟩)
end

end GA
namespace GA
open PySem VM
/-! ### names -/
abbrev Nme := Bool × Str
def nmD (q : Nme) : D := .tup [.bl q.1, .str q.2]
def nkO (q : Nme) : NestedKey := .tup [.num (if q.1 then 1 else 0), .text q.2]
theorem nkD_nm (q : Nme) : nkD 8 (.tup [.bl q.1, .str q.2]) = some (nkO q) := rfl
theorem nkO_inj {q q' : Nme} (h : nkO q = nkO q') : q = q' := by
  obtain ⟨a, x⟩ := q
  obtain ⟨b, y⟩ := q'
  unfold nkO at h
  injection h with h
  injection h with h1 h2
  injection h2 with h2
  injection h1 with h1
  injection h2 with h2
  simp only at h1 h2
  subst h2
  cases a <;> cases b <;> first | rfl | (simp at h1)
theorem lkN_put (kvs : List (NestedKey × D × D)) (k : NestedKey) (kd v : D) (k' : NestedKey) : lkN (putN kvs k kd v) k' = if k = k' then some v else lkN kvs k' := by
  unfold lkN putN
  by_cases h : (kvs.any fun kv => decide (kv.1 = k)) = true
  · rw [if_pos h]
    induction kvs with
    | nil => simp at h
    | cons p kvs ih =>
      rw [List.map_cons]
      by_cases hp : p.1 = k
      · rw [if_pos hp]
        by_cases hk : k = k'
        · rw [if_pos hk, List.find?_cons_of_pos (by simp [hp, hk])]
          rfl
        · rw [if_neg hk, List.find?_cons_of_neg (by simp [hp, hk]), List.find?_cons_of_neg (by simp [hp, hk])]
          by_cases h2 : (kvs.any fun kv => decide (kv.1 = k)) = true
          · have := ih h2
            rw [if_neg hk] at this
            exact this
          · have e : kvs.map (fun kv => if kv.1 = k then (kv.1, kv.2.1, v) else kv) = kvs := by
              rw [List.map_congr_left (g := id), List.map_id]
              intro q hq
              rw [if_neg]
              · rfl
              · intro z
                exact h2 (List.any_eq_true.mpr ⟨q, hq, by simp [z]⟩)
            rw [e]
      · rw [if_neg hp]
        have h2 : (kvs.any fun kv => decide (kv.1 = k)) = true := by
          rw [List.any_cons] at h
          simpa [hp] using h
        have := ih h2
        by_cases hk' : p.1 = k'
        · rw [List.find?_cons_of_pos (by simp [hk']), List.find?_cons_of_pos (by simp [hk']), if_neg (fun z => hp (hk'.trans z.symm))]
        · rw [List.find?_cons_of_neg (by simp [hk']), List.find?_cons_of_neg (by simp [hk'])]
          exact this
  · rw [if_neg h, List.find?_append]
    by_cases hk : k = k'
    · rw [if_pos hk]
      have : kvs.find? (fun kv => decide (kv.1 = k')) = none := by
        rw [List.find?_eq_none]
        intro q hq z
        refine h (List.any_eq_true.mpr ⟨q, hq, ?_⟩)
        rw [hk]
        exact z
      rw [this]
      simp [hk]
    · rw [if_neg hk]
      simp [hk]
def Tr.name : Tr → Str
  | .knot n _ _ => n
  | .leaf _ x => x
  | .void => ""
def Tr.nm (t : Tr) : Nme := match t.foot with
  | none => (false, t.name)
  | some f => (true, f)
def keysOf (ps : List (Str × Tr)) (q : Nme) : List Str := (ps.filter fun p => p.2.nm == q).map (·.1)
def KeysAt (S : Sto) (d : D) (ks : List Str) : Prop := ∃ r, d = .ref r ∧ lstAt S r = some (ks.map .str)
theorem KeysAt.ext {S S' : Sto} {d : D} {ks : List Str} (h : KeysAt S d ks) (X : Ext S S') : KeysAt S' d ks := let ⟨r, e, l⟩ := h; ⟨r, e, X.lst l⟩
/-- what a dict of names says -/
def NmRel (S : Sto) (kvs : List (NestedKey × D × D)) (ps : List (Str × Tr)) : Prop := ∀ q : Nme, match lkN kvs (nkO q) with
  | some d => KeysAt S d (keysOf ps q)
  | none => keysOf ps q = []
def NamesAt (S : Sto) (r : Nat) (ps : List (Str × Tr)) : Prop := ∃ kvs, dinAt S r = some kvs ∧ NmRel S kvs ps
theorem NamesAt.ext {S S' : Sto} {r : Nat} {ps : List (Str × Tr)} (h : NamesAt S r ps) (X : Ext S S') : NamesAt S' r ps := by
  obtain ⟨kvs, e, h⟩ := h
  refine ⟨kvs, X.din e, fun q => ?_⟩
  have := h q
  split at this
  · exact this.ext X
  · exact this
/-- while it is put together: L: older objects, r0: the dict -/
structure NI (S0 : Sto) (ps : List (Str × Tr)) (S : Sto) : Prop where
  X : Ext S0 S
  ex : ∃ kvs, dinU S S0.length = some kvs ∧ kvs.length ≤ ps.length ∧ NmRel S kvs ps ∧ (∀ q q' kr, lkN kvs (nkO q) = some (.ref kr) → lkN kvs (nkO q') = some (.ref kr) → q = q') ∧ ∀ q kr, lkN kvs (nkO q) = some (.ref kr) → S0.length < kr ∧ kr < S.length
theorem putN_len (kvs : List (NestedKey × D × D)) (k : NestedKey) (kd v : D) : (putN kvs k kd v).length ≤ kvs.length + 1 := by
  unfold putN
  split
  · simp
  · simp
theorem keysOf_snoc (ps : List (Str × Tr)) (p : Str × Tr) (q : Nme) : keysOf (ps ++ [p]) q = if p.2.nm = q then keysOf ps q ++ [p.1] else keysOf ps q := by
  unfold keysOf
  rw [List.filter_append, List.map_append]
  by_cases h : p.2.nm = q
  · rw [if_pos h]
    simp [h]
  · rw [if_neg h]
    have : (p.2.nm == q) = false := beq_eq_false_iff_ne.mpr h
    simp [this]
/-- d.setdefault(name, []).append(key) -/
theorem NI.step {S0 S : Sto} {ps : List (Str × Tr)} {p : Str × Tr} (h : NI S0 ps S) (hps : ps.length ≤ 100) :
    ∃ kr S1 ks, (∀ (X0 : XQ) (Q : D → Sto → Prop), Q (.ref kr) S1 → Wx X0 (sdefD S0.length (nmD p.2.nm) (.ref S.length) (S ++ [.lst []])) Q) ∧ lstAt S1 kr = some ks ∧ ks.length ≤ 100 ∧ NI S0 (ps ++ [p]) (S1.set kr (.lst (ks ++ [.str p.1]))) := by
  have sz : sizeLine = 16777216 := rfl
  obtain ⟨X, kvs, hd, hl, hr, hi, hb⟩ := h
  have hlen := X.len
  have hr0 : S0.length < S.length := by have := dinAt_lt (dinU_at hd); exact this
  have hdA : dinU (S ++ [.lst []]) S0.length = some kvs := by rw [dinU_app hr0]; exact hd
  have hk := hr p.2.nm
  have hget : dgetD (S ++ [.lst []]) S0.length (nmD p.2.nm) = some (lkN kvs (nkO p.2.nm)) := by
    unfold nmD
    rw [dgetD_tup, dinU_at hdA]
    rfl
  have hput : ∀ v, dputD (S ++ [.lst []]) S0.length (nmD p.2.nm) v = some ((S ++ [O.lst []]).set S0.length (.din (putN kvs (nkO p.2.nm) (nmD p.2.nm) v))) := by
    intro v
    unfold dputD
    rw [dinU_get.mp hdA]
    show (match tkD (nmD p.2.nm) with | some nk => _ | none => none) = _
    rw [show tkD (nmD p.2.nm) = some (nkO p.2.nm) from rfl]
    show (if kvs.length < sizeLine then _ else none) = _
    rw [if_pos (by omega)]
    rfl
  cases e : lkN kvs (nkO p.2.nm) with
  | some d =>
    rw [e] at hk hget
    obtain ⟨kr, rfl, hkr⟩ := hk
    obtain ⟨b1, b2⟩ := hb _ _ e
    refine ⟨kr, S ++ [.lst []], _, fun X0 Q hQ => ?_, by rw [lstAt_app b2]; exact hkr, ?_, ?_⟩
    · unfold sdefD
      simp only [hget, hput]
      exact ⟨hQ⟩
    · rw [List.length_map]
      have : (keysOf ps p.2.nm).length ≤ ps.length := by unfold keysOf; rw [List.length_map]; exact List.length_filter_le _ _
      omega
    · refine ⟨(X.app1 _).set (by omega) _, kvs, ?_, by rw [List.length_append]; omega, fun q => ?_, hi, fun q kr' e' => ⟨(hb q kr' e').1, by have := (hb q kr' e').2; simp; omega⟩⟩
      · rw [dinU_set_ne (by omega)]; exact hdA
      · rw [keysOf_snoc]
        have hq := hr q
        cases e' : lkN kvs (nkO q) with
        | none =>
          rw [e'] at hq
          simp only at hq ⊢
          rw [if_neg (fun z => by rw [← z, e] at e'; cases e')]
          exact hq
        | some d' =>
          rw [e'] at hq
          simp only at hq ⊢
          obtain ⟨kr', rfl, hkr'⟩ := hq
          refine ⟨kr', rfl, ?_⟩
          by_cases hz : p.2.nm = q
          · subst hz
            rw [e] at e'
            cases e'
            rw [if_pos rfl, lstAt_set (by simp; omega), List.map_append]
            rfl
          · rw [if_neg hz, lstAt_set_ne, lstAt_app (hb q kr' e').2]
            · exact hkr'
            · intro z
              subst z
              exact hz (hi _ _ _ e e')
  | none =>
    rw [e] at hk hget
    simp only at hk
    have hlS : (S ++ [O.lst []]).length = S.length + 1 := by simp
    refine ⟨S.length, (S ++ [O.lst []]).set S0.length (.din (putN kvs (nkO p.2.nm) (nmD p.2.nm) (.ref S.length))), [], fun X0 Q hQ => ?_, ?_, by simp, ?_⟩
    · unfold sdefD
      simp only [hget, hput]
      exact ⟨hQ⟩
    · rw [lstAt_set_ne (by omega), lstAt_new]
    · refine ⟨((X.app1 _).set (Nat.le_refl _) _).set (by omega) _, putN kvs (nkO p.2.nm) (nmD p.2.nm) (.ref S.length), ?_, ?_, fun q => ?_, fun q q' kr h1 h2 => ?_, fun q kr h1 => ?_⟩
      · rw [dinU_set_ne (by omega), dinU_set (by omega)]
      · have := putN_len kvs (nkO p.2.nm) (nmD p.2.nm) (.ref S.length)
        rw [List.length_append, List.length_singleton]
        omega
      · rw [lkN_put, keysOf_snoc]
        by_cases hz : p.2.nm = q
        · subst hz
          rw [if_pos rfl, if_pos rfl]
          simp only
          refine ⟨_, rfl, ?_⟩
          rw [lstAt_set (by simp), hk]
          rfl
        · rw [if_neg (fun z => hz (nkO_inj z)), if_neg hz]
          have hq := hr q
          cases e' : lkN kvs (nkO q) with
          | none => rw [e'] at hq; exact hq
          | some d' =>
            rw [e'] at hq
            obtain ⟨kr', rfl, hkr'⟩ := hq
            have := hb q kr' e'
            refine ⟨kr', rfl, ?_⟩
            rw [lstAt_set_ne (by omega), lstAt_set_ne (by omega), lstAt_app this.2]
            exact hkr'
      · rw [lkN_put] at h1 h2
        by_cases z1 : nkO p.2.nm = nkO q
        · by_cases z2 : nkO p.2.nm = nkO q'
          · exact (nkO_inj z1).symm.trans (nkO_inj z2)
          · rw [if_pos z1] at h1
            rw [if_neg z2] at h2
            cases h1
            have := (hb _ _ h2).2
            omega
        · by_cases z2 : nkO p.2.nm = nkO q'
          · rw [if_neg z1] at h1
            rw [if_pos z2] at h2
            cases h2
            have := (hb _ _ h1).2
            omega
          · rw [if_neg z1] at h1
            rw [if_neg z2] at h2
            exact hi _ _ _ h1 h2
      · rw [lkN_put] at h1
        have hl2 : (((S ++ [O.lst []]).set S0.length (.din (putN kvs (nkO p.2.nm) (nmD p.2.nm) (.ref S.length)))).set S.length (.lst ([] ++ [.str p.1]))).length = S.length + 1 := by simp
        rw [hl2]
        by_cases z1 : nkO p.2.nm = nkO q
        · rw [if_pos z1] at h1
          cases h1
          omega
        · rw [if_neg z1] at h1
          have := hb _ _ h1
          omega

end GA
namespace GA
open PySem VM
structure HasSpots (tbl : List (Nat × Fd)) : Prop extends HasPcs tbl where
  names : tbl.lookup 2 = some ⟨1, 6, b_keys_by_name⟩
  spots : tbl.lookup 3 = some ⟨2, 5, b_spots_in⟩
  all : tbl.lookup 4 = some ⟨1, 5, b_all_spots⟩
  tops : tbl.lookup 5 = some ⟨1, 1, b_top_keys⟩
theorem isNon_optS_none : isNon (optS none) = true := rfl
theorem isNon_optS_some {x : Str} : isNon (optS (some x)) = false := rfl
theorem NI.start (S : Sto) : NI S [] (S ++ [.din []]) :=
  ⟨Ext.app _ _, [], dinU_newE rfl, Nat.le_refl _, fun q => rfl, fun q q' kr h => (by cases h), fun q kr h => (by cases h)⟩
section
variable {sub : Nat → Nat → Bool} {tbl : List (Nat × Fd)} {k : Nat} {S : Sto}
theorem names_by_sp (hp : HasSpots tbl) {B : Book} (hB : BookOk B) : Wx NoX (callN sub tbl (k + 13) 2 [B.d] S) fun d S' => ∃ r, d = .ref r ∧ Ext S S' ∧ NamesAt S' r B.trs := by
  refine Wp.gen fun Q hQ => ?_
  have sz : sizeLine = 16777216 := rfl
  have hle := hB.le
  refine wp_call hp.names rfl ?_
  unfold b_keys_by_name Book.d
  rw [wp_cons]
  try walk_at "ev1"
  rw [seqQ_nx, wp_cons]
  try walk_at "ev1"
  refine wp_fF (fun i ρ S' => ∃ x y z w, ρ = [some (.tup [.str B.top, .tup (B.trs.map prD)]), some (.ref S.length), x, y, z, w] ∧ NI S (B.trs.take i) S') ?_ ?_ ?_
  · exact ⟨_, _, _, _, rfl, by rw [List.take_zero]; exact NI.start S⟩
  · rintro i d ρ S1 hd ⟨x, y, z, w, rfl, hN⟩ J hJ
    rw [List.getElem?_map] at hd
    cases e : B.trs[i]? with
    | none => rw [e] at hd; cases hd
    | some p =>
      rw [e] at hd
      cases hd
      obtain ⟨key, t⟩ := p
      have hT := hB.tr _ (List.mem_of_getElem? e)
      have hT : TrOk t := hT
      have htk : B.trs.take (i + 1) = B.trs.take i ++ [(key, t)] := by rw [List.take_succ, e]; rfl
      refine ⟨_, rfl, ?_⟩
      rw [wp_cons]
      try walk_at "ev1"
      refine (foot_sp hp.toHasPcs (k := k) hT.dep hT.ok (by have := hT.size; omega)).mono ?_
      rintro _ S2 ⟨rfl, X2⟩
      have hN2 : NI S (B.trs.take i) S2 := by
        obtain ⟨X, kvs, a, b, c, dd, ee⟩ := hN
        refine ⟨X.trans X2, kvs, X2.dinU a, b, fun q => ?_, dd, fun q kr h => ⟨(ee q kr h).1, Nat.lt_of_lt_of_le (ee q kr h).2 X2.len⟩⟩
        have := c q
        split at this
        · exact this.ext X2
        · exact this
      rw [seqQ_nx, wp_cons]
      have body : Wx NoX (exCs ⟨callN sub tbl (k + 12), sub⟩ (tlN 2 (bodyOf (hdC (tlN 1 b_keys_by_name)))) [some (.tup [.str B.top, .tup (B.trs.map prD)]), some (.ref S.length), some (.str key), some t.enc, some (optS t.foot), some (nmD t.nm)] S2) (forQ J (seqQ ⟨callN sub tbl (k + 12), sub⟩ (tlN 2 b_keys_by_name) (retQ Q NoX))) := by
        unfold b_keys_by_name
        simp only [tlN, hdC, bodyOf]
        obtain ⟨kr, S3, ks', h1, h2, h3, h4⟩ := hN2.step (p := (key, t)) (by rw [List.length_take]; omega)
        have hD : isDic S2 S.length = true := by
          obtain ⟨X, kvs, a, _⟩ := hN2
          exact dinAt_isDic (dinU_at a)
        rw [wp_cons]
        try walk_at "ev1"
        refine h1 _ _ ?_
        refine ⟨bmTy_ref.mpr ⟨_, h2⟩, ?_⟩
        try walk_at "ev1"
        refine ⟨by omega, ?_⟩
        exact hJ _ _ ⟨_, _, _, _, rfl, by rw [htk]; exact h4⟩
      unfold b_keys_by_name at body
      simp only [tlN, hdC, bodyOf] at body
      rw [wp_set, we_ite, wt_cmp, we_var]
      refine ⟨_, rfl, ?_⟩
      rw [we_non, copB_is]
      refine ⟨_, rfl, ?_⟩
      cases hf : t.foot with
      | none =>
        obtain ⟨nm, tk, ks, ht⟩ := hT.kn
        have hnm : t.nm = (false, nm) := by unfold Tr.nm; rw [hf, ht]; rfl
        rw [hf, hnm] at body
        unfold nmD at body
        rw [isNon_optS_none, iteE_t]
        have hen : t.enc = .tup [.str "knot", .str nm, takD tk, .tup (encs ks)] := by rw [ht, Tr.enc]
        rw [hen] at body ⊢
        clear hen hf hN hN2 hB ht
        try walk_at "ev1"
        exact body
      | some f =>
        have hnm : t.nm = (true, f) := by unfold Tr.nm; rw [hf]
        rw [hf, hnm] at body
        unfold nmD at body
        rw [isNon_optS_some, iteE_f]
        clear hf hN hN2 hB
        try walk_at "ev1"
        exact body
  · rintro ρ S1 ⟨x, y, z, w, rfl, hN⟩
    rw [List.length_map, List.take_length] at hN
    obtain ⟨X, kvs, a, b, c, dd, ee⟩ := hN
    try walk_at "ev"
    exact hQ _ _ ⟨_, rfl, X, kvs, dinU_at a, c⟩
theorem get2_nm {X0 : XQ} {r : Nat} {ps : List (Str × Tr)} {q : Nme} {e : Nat} {S : Sto} {Q : D → Sto → Prop} (h : NamesAt S r ps) (he : lstAt S e = some []) (hQ : ∀ d, KeysAt S d (keysOf ps q) → Q d S) : Wx X0 (get2D r (.tup [.bl q.1, .str q.2]) (.ref e) S) Q := by
  obtain ⟨kvs, hd, hr⟩ := h
  have hk := hr q
  unfold get2D
  have hget : dgetD S r (.tup [.bl q.1, .str q.2]) = some (lkN kvs (nkO q)) := by
    rw [dgetD_tup, hd]
    rfl
  rw [hget]
  cases e' : lkN kvs (nkO q) with
  | none =>
    rw [e'] at hk
    simp only at hk ⊢
    rw [wp_ok]
    exact hQ _ ⟨e, rfl, by rw [he, hk]; rfl⟩
  | some d =>
    rw [e'] at hk
    simp only at hk ⊢
    rw [wp_ok]
    exact hQ _ hk
/-- the tops' keys -/
theorem top_keys_sp (hp : HasSpots tbl) {B : Book} (hB : BookOk B) : Wx NoX (callN sub tbl (k + 14) 5 [B.d] S) fun d S' => ∃ r, d = .ref r ∧ Ext S S' ∧ lstAt S' r = some ((keysOf B.trs (false, B.top)).map .str) := by
  refine Wp.gen fun Q hQ => ?_
  refine wp_call hp.tops rfl ?_
  have hsp := names_by_sp (sub := sub) (k := k) (S := S) hp hB
  unfold b_top_keys
  unfold Book.d at hsp ⊢
  rw [wp_cons]
  try walk_at "ev1"
  refine hsp.mono ?_
  rintro _ S1 ⟨r, rfl, X1, hN⟩
  refine ⟨r, rfl, ?_, ?_⟩
  · obtain ⟨kvs, a, _⟩ := hN
    exact dinAt_isDic a
  try walk_at "ev1"
  refine get2_nm (q := (false, B.top)) (hN.ext (Ext.app _ _)) lstAt_new ?_
  rintro d ⟨kr, rfl, hk⟩
  try walk_at "ev1"
  exact hQ _ _ ⟨_, rfl, (X1.trans (Ext.app _ _)).app1 _, lstAt_new⟩
end

end GA
namespace GA
open PySem VM
def All2 {α β : Type} (R : α → β → Prop) (as : List α) (bs : List β) : Prop := as.length = bs.length ∧ ∀ (i : Nat) (a : α) (b : β), as[i]? = some a → bs[i]? = some b → R a b
theorem All2.nil {α β : Type} {R : α → β → Prop} : All2 R [] [] := ⟨rfl, fun i a b h => by simp at h⟩
theorem All2.snoc {α β : Type} {R : α → β → Prop} {as : List α} {bs : List β} {a : α} {b : β} (h : All2 R as bs) (r : R a b) : All2 R (as ++ [a]) (bs ++ [b]) := by
  refine ⟨by simp [h.1], fun i x y hx hy => ?_⟩
  by_cases hi : i < as.length
  · rw [List.getElem?_append_left hi] at hx
    rw [List.getElem?_append_left (by rw [← h.1]; exact hi)] at hy
    exact h.2 i x y hx hy
  · rw [List.getElem?_append_right (by omega)] at hx
    rw [List.getElem?_append_right (by rw [← h.1]; omega), ← h.1] at hy
    cases hz : i - as.length with
    | zero =>
      rw [hz] at hx hy
      cases hx
      cases hy
      exact r
    | succ j => rw [hz] at hx; simp at hx
theorem All2.imp {α β : Type} {R R' : α → β → Prop} {as : List α} {bs : List β} (h : All2 R as bs) (f : ∀ a b, R a b → R' a b) : All2 R' as bs := ⟨h.1, fun i a b x y => f a b (h.2 i a b x y)⟩
theorem All2.get {α β : Type} {R : α → β → Prop} {as : List α} {bs : List β} {i : Nat} {a : α} (h : All2 R as bs) (e : as[i]? = some a) : ∃ b, bs[i]? = some b ∧ R a b := by
  have hi := (List.getElem?_eq_some_iff.mp e).1
  have hj : i < bs.length := by rw [← h.1]; exact hi
  exact ⟨bs[i], List.getElem?_eq_getElem hj, h.2 i a _ e (List.getElem?_eq_getElem hj)⟩
/-! ### where something may be put -/
abbrev Spot := List Nat × Bool × List Str
def spotOf (ps : List (Str × Tr)) (q : List Nat × Tr) : Option Spot := match q.2 with
  | .leaf k x => if k = "hole" then some (q.1, true, keysOf ps (false, x)) else none
  | .knot _ (some (x, b)) _ => some (q.1, b, keysOf ps (true, x))
  | .knot _ none _ => none
  | .void => none
def spotsOf (ps : List (Str × Tr)) (t : Tr) : List Spot := (t.pcs []).filterMap (spotOf ps)
/-- one of these, its keys not at b -/
def SpotN (b : Nat) (S : Sto) (d : D) (sp : Spot) : Prop := ∃ r, d = .tup [plD sp.1, .bl sp.2.1, .ref r] ∧ r ≠ b ∧ lstAt S r = some (sp.2.2.map .str)
def SpotAt (S : Sto) (d : D) (sp : Spot) : Prop := ∃ r, d = .tup [plD sp.1, .bl sp.2.1, .ref r] ∧ lstAt S r = some (sp.2.2.map .str)
theorem SpotN.at {b : Nat} {S : Sto} {d : D} {sp : Spot} (h : SpotN b S d sp) : SpotAt S d sp := let ⟨r, e, _, l⟩ := h; ⟨r, e, l⟩
theorem SpotN.set {b : Nat} {S : Sto} {d : D} {sp : Spot} (h : SpotN b S d sp) (o : O) : SpotN b (S.set b o) d sp := let ⟨r, e, n, l⟩ := h; ⟨r, e, n, by rw [lstAt_set_ne n]; exact l⟩
theorem SpotN.ext {b : Nat} {S S' : Sto} {d : D} {sp : Spot} (h : SpotN b S d sp) (X : Ext S S') : SpotN b S' d sp := let ⟨r, e, n, l⟩ := h; ⟨r, e, n, X.lst l⟩
theorem SpotAt.ext {S S' : Sto} {d : D} {sp : Spot} (h : SpotAt S d sp) (X : Ext S S') : SpotAt S' d sp := let ⟨r, e, l⟩ := h; ⟨r, e, X.lst l⟩
def SpotsAt (S : Sto) (d : D) (sps : List Spot) : Prop := ∃ r ds, d = .ref r ∧ lstAt S r = some ds ∧ All2 (SpotAt S) ds sps
theorem SpotsAt.ext {S S' : Sto} {d : D} {sps : List Spot} (h : SpotsAt S d sps) (X : Ext S S') : SpotsAt S' d sps := let ⟨r, ds, e, l, a⟩ := h; ⟨r, ds, e, X.lst l, a.imp fun _ _ z => z.ext X⟩
theorem hole_leaf {t : Tr} (h : t.ok) (hk : t.kd = "hole") : ∃ x, t = .leaf "hole" x := by
  cases t with
  | void => exact absurd hk (by decide +kernel)
  | leaf k x => exact ⟨x, by rw [show k = "hole" from hk]⟩
  | knot n tk ks => exact absurd hk (by show ¬ (("knot" : Str) = "hole"); decide +kernel)
theorem get2_nmB {X0 : XQ} {r : Nat} {ps : List (Str × Tr)} {q : Nme} {e : Nat} {S0 S : Sto} {Q : D → Sto → Prop} (h : NamesAt S0 r ps) (X : Ext S0 S) (he : lstAt S e = some []) (hQ : ∀ kr, (kr < S0.length ∨ kr = e) → lstAt S kr = some ((keysOf ps q).map .str) → Q (.ref kr) S) : Wx X0 (get2D r (.tup [.bl q.1, .str q.2]) (.ref e) S) Q := by
  obtain ⟨kvs, hd, hr⟩ := h
  have hk := hr q
  unfold get2D
  have hget : dgetD S r (.tup [.bl q.1, .str q.2]) = some (lkN kvs (nkO q)) := by
    rw [dgetD_tup, X.din hd]
    rfl
  rw [hget]
  cases e' : lkN kvs (nkO q) with
  | none =>
    rw [e'] at hk
    simp only at hk ⊢
    rw [wp_ok]
    exact hQ _ (.inr rfl) (by rw [he, hk]; rfl)
  | some d =>
    rw [e'] at hk
    simp only at hk ⊢
    rw [wp_ok]
    obtain ⟨kr, rfl, hl⟩ := hk
    exact hQ _ (.inl (lstAt_lt hl)) (X.lst hl)
section
variable {sub : Nat → Nat → Bool} {tbl : List (Nat × Fd)} {k : Nat} {S : Sto}
theorem spots_in_sp (hp : HasSpots tbl) {t : Tr} {ps : List (Str × Tr)} {nr : Nat} (hT : TrOk t) (hN : NamesAt S nr ps) : Wx NoX (callN sub tbl (k + 13) 3 [t.enc, .ref nr] S) fun d S' => ∃ r, d = .ref r ∧ Ext S S' ∧ S.length ≤ r ∧ SpotsAt S' (.ref r) (spotsOf ps t) := by
  refine Wp.gen fun Q hQ => ?_
  have sz : sizeLine = 16777216 := rfl
  have hsize := hT.size
  refine wp_call hp.spots rfl ?_
  unfold b_spots_in
  rw [wp_cons]
  try walk_at "ev1"
  rw [seqQ_nx, wp_cons]
  try walk_at "ev1"
  refine (pieces_sp hp.toHasPcs 10 t [] (k + 1) _ hT.dep hT.ok (by omega) (by simp)).mono ?_
  rintro _ S1 ⟨rp, rfl, X1, hrp, L1⟩
  have X01 : Ext S S1 := (Ext.app S [.lst []]).trans X1
  have L2 : lstAt S1 S.length = some [] := X1.lst lstAt_new
  have hrp' : S.length + 1 ≤ rp := by simpa using hrp
  have hqok := pcs_ok t [] hT.ok
  have hqlen := pcs_len t []
  have hQ' : ∀ S', Ext S S' → SpotsAt S' (.ref S.length) ((t.pcs []).filterMap (spotOf ps)) → Q (.ref S.length) S' := fun S' a b => hQ _ _ ⟨_, rfl, a, Nat.le_refl _, b⟩
  generalize t.pcs [] = qs at *
  clear hrp hQ
  try walk_at "ev1"
  refine wp_fR (ds := qs.map pcD) (fun i ρ S' => ∃ x y ds, ρ = [some t.enc, some (.ref nr), some (.ref S.length), x, y] ∧ Ext S S' ∧ lstAt S' rp = some (qs.map pcD) ∧ lstAt S' S.length = some ds ∧ All2 (SpotN S.length S') ds ((qs.take i).filterMap (spotOf ps))) ?_ ?_ ?_ ?_
  · exact ⟨_, _, [], rfl, X01, L1, L2, by rw [List.take_zero]; exact All2.nil⟩
  · rintro i ρ S' ⟨x, y, ds, _, _, h, _⟩
    exact h
  · rintro i d ρ S2 hd ⟨x, y, ds, rfl, X2, M1, M2, A⟩ J hJ
    rw [List.getElem?_map] at hd
    cases e : qs[i]? with
    | none => rw [e] at hd; cases hd
    | some q =>
      rw [e] at hd
      cases hd
      obtain ⟨p, u⟩ := q
      have hi := (List.getElem?_eq_some_iff.mp e).1
      have hu := hqok _ (List.mem_of_getElem? e)
      have htk : qs.take (i + 1) = qs.take i ++ [(p, u)] := by rw [List.take_succ, e]; rfl
      have hdl : ds.length ≤ 1000 := by
        rw [A.1]
        refine Nat.le_trans (List.length_filterMap_le _ _) ?_
        rw [List.length_take]
        omega
      have hlS := lstAt_lt M2
      -- one more
      have more : ∀ (b : Bool) (nq : Nme), spotOf ps (p, u) = some (p, b, keysOf ps nq) → ∀ (S3 : Sto), Ext S2 S3 → ∀ kr, (kr < S.length ∨ S.length < kr) → lstAt S3 kr = some ((keysOf ps nq).map .str) → ∀ x y, J [some t.enc, some (.ref nr), some (.ref S.length), x, y] (S3.set S.length (.lst (ds ++ [.tup [plD p, .bl b, .ref kr]]))) := by
        intro b nq hs S3 X3 kr hkr hl x y
        have hlS3 : S.length < S3.length := Nat.lt_of_lt_of_le hlS X3.len
        refine hJ _ _ ⟨_, _, ds ++ [_], rfl, (X2.trans X3).set (Nat.le_refl _) _, by rw [lstAt_set_ne (by omega)]; exact X3.lst M1, lstAt_set hlS3, ?_⟩
        rw [htk, List.filterMap_append]
        have : List.filterMap (spotOf ps) [(p, u)] = [(p, b, keysOf ps nq)] := by simp [hs]
        rw [this]
        refine All2.snoc (A.imp fun a c z => (z.ext X3).set _) ⟨kr, rfl, by omega, ?_⟩
        rw [lstAt_set_ne (by omega)]
        exact hl
      have none_ : spotOf ps (p, u) = none → ∀ x y, J [some t.enc, some (.ref nr), some (.ref S.length), x, y] S2 := by
        intro hs x y
        refine hJ _ _ ⟨_, _, ds, rfl, X2, M1, M2, ?_⟩
        rw [htk, List.filterMap_append]
        have : List.filterMap (spotOf ps) [(p, u)] = [] := by simp [hs]
        rw [this, List.append_nil]
        exact A
      have hND : isDic S2 nr = true := by
        obtain ⟨kvs, a, _⟩ := hN
        exact dinAt_isDic (X2.din a)
      have hND1 : isDic (S2 ++ [.lst []]) nr = true := by
        obtain ⟨kvs, a, _⟩ := hN
        exact dinAt_isDic ((X2.app1 _).din a)
      refine ⟨_, rfl, ?_⟩
      rw [wp_cons, wp_ife, wt_cmp, we_idx]
      try walk_at "ev1"
      rw [idx0]
      try walk_at "ev1"
      refine ifQ_by (fun h => ?_) (fun h => ?_)
      · obtain ⟨z, rfl⟩ := hole_leaf hu (beq_iff_eq.mp h)
        clear h
        have more' := more true (false, z) (by unfold spotOf; simp)
        rw [Tr.enc] at *
        clear more none_
        rw [wp_cons]
        try walk_at "ev1"
        refine get2_nmB (q := (false, z)) hN (X2.app1 _) lstAt_new fun kr hkr hl => ?_
        have M2' : lstAt (S2 ++ [.lst []]) S.length = some ds := by rw [lstAt_app hlS]; exact M2
        try walk_at "ev1"
        refine ⟨by omega, ?_⟩
        exact more' _ (Ext.app _ _) kr (by omega) hl _ _
      · rw [wp_cons, wp_ife, wt_and, wt_cmp, we_idx]
        try walk_at "ev1"
        rw [idx0]
        try walk_at "ev1"
        refine andQ_by (fun h2 => ?_) (fun h2 => ?_)
        · obtain ⟨nm, tk, ks, rfl⟩ := (kd_knot hu).mp (beq_iff_eq.mp h2)
          clear h h2
          cases tk with
          | none =>
            have none' := none_ rfl
            rw [Tr.enc, show takD none = .non from rfl] at *
            clear more none_
            try walk_at "ev1"
          | some xb =>
            obtain ⟨z, b⟩ := xb
            have more' := more b (true, z) rfl
            rw [Tr.enc, show takD (some (z, b)) = .tup [.str z, .bl b] from rfl] at *
            clear more none_
            try walk_at "ev1"
            rw [wp_cons]
            try walk_at "ev1"
            refine get2_nmB (q := (true, z)) hN (X2.app1 _) lstAt_new fun kr hkr hl => ?_
            have M2' : lstAt (S2 ++ [.lst []]) S.length = some ds := by rw [lstAt_app hlS]; exact M2
            try walk_at "ev1"
            refine ⟨by omega, ?_⟩
            exact more' _ (Ext.app _ _) kr (by omega) hl _ _
        · have none' := none_ (by
            cases u with
            | void => rfl
            | leaf kk z =>
              unfold spotOf
              have : kk ≠ "hole" := by
                intro q
                subst q
                exact absurd h (by show ¬ (("hole" : Str) == ("hole" : Str)) = false; decide +kernel)
              simp [this]
            | knot nm tk ks => exact absurd h2 (by show ¬ (("knot" : Str) == ("knot" : Str)) = false; decide +kernel))
          clear more none_
          try walk_at "ev1"
  · rintro ρ S2 ⟨x, y, ds, rfl, X2, M1, M2, A⟩
    rw [List.length_map, List.take_length] at A
    try walk_at "ev"
    exact hQ' _ X2 ⟨_, ds, rfl, M2, A.imp fun _ _ z => z.at⟩
/-- the rows of a book -/
def RowsAt (S : Sto) (n : Nat) (rows : List (Str × List Spot)) : Prop := ∃ kvs, dicAt S n = some kvs ∧ All2 (fun kv r => kv.1 = .inr r.1 ∧ SpotsAt S kv.2 r.2) kvs rows
def RowsU (S : Sto) (n : Nat) (rows : List (Str × List Spot)) : Prop := ∃ kvs, dicU S n = some kvs ∧ All2 (fun kv r => kv.1 = .inr r.1 ∧ SpotsAt S kv.2 r.2) kvs rows
theorem RowsU.at {n : Nat} {rows : List (Str × List Spot)} (h : RowsU S n rows) : RowsAt S n rows := let ⟨kvs, a, b⟩ := h; ⟨kvs, dicU_at a, b⟩
theorem RowsAt.ext {S' : Sto} {n : Nat} {rows : List (Str × List Spot)} (h : RowsAt S n rows) (X : Ext S S') : RowsAt S' n rows := let ⟨kvs, a, b⟩ := h; ⟨kvs, X.dic a, b.imp fun _ _ z => ⟨z.1, z.2.ext X⟩⟩
theorem RowsU.ext {S' : Sto} {n : Nat} {rows : List (Str × List Spot)} (h : RowsU S n rows) (X : Ext S S') : RowsU S' n rows := let ⟨kvs, a, b⟩ := h; ⟨kvs, X.dicU a, b.imp fun _ _ z => ⟨z.1, z.2.ext X⟩⟩
theorem putD_new {κ : Type} [DecidableEq κ] {kvs : List (κ × D)} {x : κ} (v : D) (h : ∀ kv ∈ kvs, kv.1 ≠ x) : putD kvs x v = kvs ++ [(x, v)] := by
  unfold putD
  rw [if_neg]
  intro z
  obtain ⟨kv, hm, hk⟩ := List.any_eq_true.mp z
  exact h kv hm (of_decide_eq_true hk)
def rowsOf (ps : List (Str × Tr)) : List (Str × List Spot) := ps.map fun p => (p.1, spotsOf ps p.2)
/-- what is below b stays, b does not -/
theorem SpotsAt.setN {b n : Nat} {S' : Sto} {d : D} {sps : List Spot} (h : SpotsAt S d sps) (hb : dicAt S b ≠ none) (o : O) : SpotsAt (S.set b o) d sps := by
  obtain ⟨r, ds, rfl, hl, A⟩ := h
  have nb : ∀ m xs, lstAt S m = some xs → m ≠ b := by
    intro m xs hm z
    subst z
    cases e : dicAt S m with
    | none => exact hb e
    | some kvs => rw [dicAt_lst e] at hm; cases hm
  refine ⟨r, ds, rfl, by rw [lstAt_set_ne (nb _ _ hl)]; exact hl, A.imp fun a c z => ?_⟩
  obtain ⟨kr, e, hk⟩ := z
  exact ⟨kr, e, by rw [lstAt_set_ne (nb _ _ hk)]; exact hk⟩
theorem all_spots_sp (hp : HasSpots tbl) {B : Book} (hB : BookOk B) : Wx NoX (callN sub tbl (k + 14) 4 [B.d] S) fun d S' => ∃ r, d = .ref r ∧ Ext S S' ∧ S.length ≤ r ∧ RowsU S' r (rowsOf B.trs) := by
  refine Wp.gen fun Q hQ => ?_
  have sz : sizeLine = 16777216 := rfl
  have hle := hB.le
  have hnm := names_by_sp (sub := sub) (k := k) (S := S) hp hB
  refine wp_call hp.all rfl ?_
  unfold b_all_spots
  unfold Book.d at hnm ⊢
  rw [wp_cons]
  try walk_at "ev1"
  refine hnm.mono ?_
  rintro _ S1 ⟨nr, rfl, X1, hN⟩
  rw [seqQ_nx, wp_cons]
  try walk_at "ev1"
  rw [seqQ_nx, wp_cons]
  try walk_at "ev1"
  have X2 : Ext S1 (S1 ++ [.dic []]) := Ext.app _ _
  refine wp_fF (fun i ρ S' => ∃ x y kvs, ρ = [some (.tup [.str B.top, .tup (B.trs.map prD)]), some (.ref nr), some (.ref S1.length), x, y] ∧ Ext S1 S' ∧ dicU S' S1.length = some kvs ∧ kvs.length = i ∧ All2 (fun kv r => kv.1 = .inr r.1 ∧ SpotsAt S' kv.2 r.2) kvs ((rowsOf B.trs).take i)) ?_ ?_ ?_
  · exact ⟨_, _, [], rfl, X2, dicU_newE rfl, rfl, by rw [List.take_zero]; exact All2.nil⟩
  · rintro i d ρ S2 hd ⟨x, y, kvs, rfl, X, hD, hlen, A⟩ J hJ
    rw [List.getElem?_map] at hd
    cases e : B.trs[i]? with
    | none => rw [e] at hd; cases hd
    | some p =>
      rw [e] at hd
      cases hd
      obtain ⟨key, t⟩ := p
      have hi := (List.getElem?_eq_some_iff.mp e).1
      have hT : TrOk t := hB.tr _ (List.mem_of_getElem? e)
      have hro : (rowsOf B.trs)[i]? = some (key, spotsOf B.trs t) := by unfold rowsOf; rw [List.getElem?_map, e]; rfl
      have htk : (rowsOf B.trs).take (i + 1) = (rowsOf B.trs).take i ++ [(key, spotsOf B.trs t)] := by rw [List.take_succ, hro]; rfl
      refine ⟨_, rfl, ?_⟩
      rw [wp_cons]
      try walk_at "ev1"
      refine (spots_in_sp hp (k := k) hT (hN.ext X)).mono ?_
      rintro _ S3 ⟨r, rfl, X3, hr, hS⟩
      have hD3 := X3.dicU hD
      have hlt3 := dicAt_lt (dicU_at hD3)
      have hnew : putD kvs (.inr key) (.ref r) = kvs ++ [(.inr key, .ref r)] := putD_new _ fun kv hm z => by
        obtain ⟨j, hj⟩ := List.getElem?_of_mem hm
        obtain ⟨ro, hro', hk, _⟩ := A.get hj
        rw [hk] at z
        have z := Sum.inr.inj z
        have hjl := (List.getElem?_eq_some_iff.mp hj).1
        rw [List.getElem?_take_of_lt (by omega)] at hro'
        unfold rowsOf at hro'
        rw [List.getElem?_map] at hro'
        cases e2 : B.trs[j]? with
        | none => rw [e2] at hro'; cases hro'
        | some p2 =>
          rw [e2] at hro'
          cases hro'
          have h1 : (B.trs.map (·.1))[j]? = some key := by rw [List.getElem?_map, e2]; exact congrArg some z
          have h2 : (B.trs.map (·.1))[i]? = some key := by rw [List.getElem?_map, e]; rfl
          have := (List.getElem?_inj (by simp; omega) hB.nd).mp (h1.trans h2.symm)
          omega
      try walk_at "ev1"
      refine ⟨_, ⟨by omega, rfl⟩, ?_⟩
      refine hJ _ _ ⟨_, _, kvs ++ [(.inr key, .ref r)], rfl, (X.trans X3).set (Nat.le_refl _) _, ?_, by simp [hlen], ?_⟩
      · rw [dicU_set hlt3]
      · have hb : dicAt S3 S1.length ≠ none := by rw [dicU_at hD3]; exact fun z => by cases z
        rw [htk]
        exact (A.imp fun a c z => ⟨z.1, (z.2.ext X3).setN (n := 0) (S' := S3) hb _⟩).snoc ⟨rfl, hS.setN (n := 0) (S' := S3) hb _⟩
  · rintro ρ S2 ⟨x, y, kvs, rfl, X, hD, hlen, A⟩
    have hr : (rowsOf B.trs).length = B.trs.length := by unfold rowsOf; rw [List.length_map]
    rw [List.length_map, ← hr, List.take_length] at A
    try walk_at "ev"
    exact hQ _ _ ⟨_, rfl, X1.trans X, X1.len, kvs, hD, A⟩
end

end GA
namespace GA
open PySem VM
structure HasWhere (tbl : List (Nat × Fd)) : Prop extends HasLPcs tbl where
  where_ : tbl.lookup 34 = some ⟨1, 12, b__law_where⟩
  tops : tbl.lookup 35 = some ⟨1, 3, b__law_tops⟩
def hdD (p : Str × Tr) : D := .tup [.str p.1, optS p.2.foot, .str p.2.name]
theorem eqD_optS {o : Option Str} {x : Str} {S : Sto} : eqD (optS o) (.str x) S = some (o == some x) := by
  cases o with
  | none => rfl
  | some y => show some (y == x) = some (some y == some x); rfl
theorem nm_false {t : Tr} {x : Str} : (t.nm == (false, x)) = (t.foot.isNone && (t.name == x)) := by
  unfold Tr.nm
  cases t.foot with
  | none => show ((false, t.name) == (false, x)) = (true && (t.name == x)); rfl
  | some f => show ((true, f) == (false, x)) = (false && _); rfl
theorem nm_true {t : Tr} {x : Str} : (t.nm == (true, x)) = (t.foot == some x) := by
  unfold Tr.nm
  cases t.foot with
  | none => show ((false, t.name) == (true, x)) = (none == some x); rfl
  | some f => show ((true, f) == (true, x)) = (some f == some x); rfl
theorem isNon_optS {o : Option Str} : isNon (optS o) = o.isNone := by cases o <;> rfl
section
variable {sub : Nat → Nat → Bool} {tbl : List (Nat × Fd)} {k : Nat} {S : Sto}
theorem keysOf_take {ps : List (Str × Tr)} {i : Nat} {p : Str × Tr} (e : ps[i]? = some p) (q : Nme) : keysOf (ps.take (i + 1)) q = if (p.2.nm == q) = true then keysOf (ps.take i) q ++ [p.1] else keysOf (ps.take i) q := by
  rw [List.take_succ, e]
  show keysOf (ps.take i ++ [p]) q = _
  rw [keysOf_snoc]
  by_cases h : p.2.nm = q
  · rw [if_pos h, if_pos (beq_iff_eq.mpr h)]
  · rw [if_neg h, if_neg (fun z => h (beq_iff_eq.mp z))]
theorem comp_hole {X0 : XQ} {F : Orc} {hr : Nat} {ps : List (Str × Tr)} {x : Str} {r0 r2 r3 r4 r5 r6 r8 r9 r10 r11 : Option D} {Q : D → Sto → Prop} (hh : lstAt S hr = some (ps.map hdD)) (hl : ps.length ≤ 100) (hQ : Q (.ref S.length) (S ++ [.lst ((keysOf ps (false, x)).map .str)])) :
    Wx X0 (lcG F (.var 9) (.tp [9, 10, 11]) (.and (.cmp .is (.var 10) .non) (.one (.cmp .eq (.var 11) (.idx (.var 7) (.int 1))))) [9, 10, 11] [r0, some (.ref hr), r2, r3, r4, r5, r6, some (.tup [.str "hole", .str x]), r8, r9, r10, r11] (.dyn hr .plain) S) Q := by
  have sz : sizeLine = 16777216 := rfl
  refine wp_lR (ds := ps.map hdD) (fun i acc S' => S' = S ∧ acc = (keysOf (ps.take i) (false, x)).map .str ∧ acc.length ≤ i) ⟨rfl, rfl, Nat.le_refl _⟩ ?_ ?_ ?_
  · rintro i acc S' ⟨rfl, _⟩
    exact hh
  · rintro i d acc S' hd ⟨rfl, rfl, hal⟩ J K hJ hK
    rw [List.getElem?_map] at hd
    cases e : ps[i]? with
    | none => rw [e] at hd; cases hd
    | some p =>
      rw [e] at hd
      cases hd
      have hi := (List.getElem?_eq_some_iff.mp e).1
      have kt := keysOf_take e (false, x)
      rw [nm_false] at kt
      refine ⟨_, rfl, ?_⟩
      try walk_at "ev1"
      rw [isNon_optS]
      cases hf : p.2.foot.isNone with
      | false =>
        rw [hf] at kt
        rw [andQ_f, lcQ_f]
        refine hK _ ⟨rfl, by rw [kt]; rfl, by omega⟩
      | true =>
        rw [hf] at kt
        try walk_at "ev1"
        cases hn : (p.2.name == x) with
        | false =>
          rw [hn] at kt
          rw [lcQ_f]
          refine hK _ ⟨rfl, by rw [kt]; rfl, by omega⟩
        | true =>
          rw [hn] at kt
          rw [lcQ_t]
          try walk_at "ev1"
          refine hJ _ _ (by omega) ⟨rfl, ?_, by simp at hal ⊢; omega⟩
          rw [kt, Bool.and_self, if_pos rfl, List.map_append]
          rfl
  · rintro acc S' ⟨rfl, rfl, _⟩
    rw [List.length_map, List.take_length]
    exact hQ
theorem comp_knot {X0 : XQ} {F : Orc} {hr : Nat} {ps : List (Str × Tr)} {nm x : Str} {b : Bool} {r0 r2 r3 r4 r5 r6 r8 r9 r10 r11 : Option D} {kd : D} {Q : D → Sto → Prop} (hh : lstAt S hr = some (ps.map hdD)) (hl : ps.length ≤ 100) (hQ : Q (.ref S.length) (S ++ [.lst ((keysOf ps (true, x)).map .str)])) :
    Wx X0 (lcG F (.var 9) (.tp [9, 10, 11]) (.cmp .eq (.var 10) (.idx (.idx (.var 7) (.int 2)) (.int 0))) [9, 10, 11] [r0, some (.ref hr), r2, r3, r4, r5, r6, some (.tup [.str "knot", .str nm, .tup [.str x, .bl b], kd]), r8, r9, r10, r11] (.dyn hr .plain) S) Q := by
  have sz : sizeLine = 16777216 := rfl
  refine wp_lR (ds := ps.map hdD) (fun i acc S' => S' = S ∧ acc = (keysOf (ps.take i) (true, x)).map .str ∧ acc.length ≤ i) ⟨rfl, rfl, Nat.le_refl _⟩ ?_ ?_ ?_
  · rintro i acc S' ⟨rfl, _⟩
    exact hh
  · rintro i d acc S' hd ⟨rfl, rfl, hal⟩ J K hJ hK
    rw [List.getElem?_map] at hd
    cases e : ps[i]? with
    | none => rw [e] at hd; cases hd
    | some p =>
      rw [e] at hd
      cases hd
      have hi := (List.getElem?_eq_some_iff.mp e).1
      have kt := keysOf_take e (true, x)
      rw [nm_true] at kt
      refine ⟨_, rfl, ?_⟩
      try walk_at "ev1"
      rw [eqD_optS]
      refine ⟨_, rfl, ?_⟩
      cases hn : (p.2.foot == some x) with
      | false =>
        rw [hn] at kt
        rw [lcQ_f]
        refine hK _ ⟨rfl, by rw [kt]; rfl, by omega⟩
      | true =>
        rw [hn] at kt
        rw [lcQ_t]
        try walk_at "ev1"
        refine hJ _ _ (by omega) ⟨rfl, ?_, by simp at hal ⊢; omega⟩
        rw [kt, if_pos rfl, List.map_append]
        rfl
  · rintro acc S' ⟨rfl, rfl, _⟩
    rw [List.length_map, List.take_length]
    exact hQ
theorem where_sp (hp : HasWhere tbl) {B : Book} (hB : BookOk B) : Wx NoX (callN sub tbl (k + 13) 34 [B.d] S) fun d S' => ∃ r, d = .ref r ∧ Ext S S' ∧ S.length ≤ r ∧ RowsU S' r (rowsOf B.trs) := by
  refine Wp.gen fun Q hQ => ?_
  have sz : sizeLine = 16777216 := rfl
  have hle := hB.le
  refine wp_call hp.where_ rfl ?_
  unfold b__law_where Book.d
  rw [wp_cons]
  try walk_at "ev1"
  refine wp_lF (fun i acc S' => Ext S S' ∧ acc = (B.trs.take i).map hdD) ⟨Ext.refl _, rfl⟩ ?_ ?_
  · rintro i d acc S' hd ⟨X, rfl⟩ J K hJ hK
    rw [List.getElem?_map] at hd
    cases e : B.trs[i]? with
    | none => rw [e] at hd; cases hd
    | some p =>
      rw [e] at hd
      cases hd
      obtain ⟨key, t⟩ := p
      have hi := (List.getElem?_eq_some_iff.mp e).1
      have hT : TrOk t := hB.tr _ (List.mem_of_getElem? e)
      have htk : B.trs.take (i + 1) = B.trs.take i ++ [(key, t)] := by rw [List.take_succ, e]; rfl
      refine ⟨_, rfl, ?_⟩
      try walk_at "ev1"
      refine (lfoot_sp hp.toHasLPcs (k := k) hT.dep hT.ok (by have := hT.size; omega)).mono ?_
      rintro _ S2 ⟨rfl, X2⟩
      have hnm : ∀ (X0 : XQ) (Q : D → Sto → Prop), Q (.str t.name) S2 → Wx X0 (idxD t.enc (.int 1) S2) Q := by
        intro X0 Q h
        obtain ⟨n, tk, ks, rfl⟩ := hT.kn
        rw [Tr.enc, wi_idx_tup]
        exact ⟨_, rfl, h⟩
      try walk_at "ev1"
      refine hnm _ _ ?_
      refine hJ _ _ (by rw [List.length_map, List.length_take]; omega) ⟨X.trans X2, ?_⟩
      rw [htk, List.map_append]
      rfl
  rintro _ S1 ⟨X1, rfl⟩
  rw [List.length_map, List.take_length]
  have hH : lstAt (S1 ++ [.lst (B.trs.map hdD)]) S1.length = some (B.trs.map hdD) := lstAt_new
  have X2 : Ext S (S1 ++ [.lst (B.trs.map hdD)]) := X1.app1 _
  generalize S1 ++ [.lst (B.trs.map hdD)] = S2 at *
  generalize S1.length = hr at *
  clear X1
  rw [seqQ_nx, wp_cons]
  try walk_at "ev1"
  rw [seqQ_nx, wp_cons]
  try walk_at "ev1"
  refine wp_fF (fun i ρ S' => ∃ x3 x4 x5 x6 x7 x8 x9 x10 x11 kvs, ρ = [some (.tup [.str B.top, .tup (B.trs.map prD)]), some (.ref hr), some (.ref S2.length), x3, x4, x5, x6, x7, x8, x9, x10, x11] ∧ Ext S2 S' ∧ dicU S' S2.length = some kvs ∧ kvs.length = i ∧ All2 (fun kv r => kv.1 = .inr r.1 ∧ SpotsAt S' kv.2 r.2) kvs ((rowsOf B.trs).take i)) ?_ ?_ ?_
  · exact ⟨_, _, _, _, _, _, _, _, _, [], rfl, Ext.app _ _, dicU_newE rfl, rfl, by rw [List.take_zero]; exact All2.nil⟩
  · rintro i d ρ S3 hd ⟨x3, x4, x5, x6, x7, x8, x9, x10, x11, kvs, rfl, X, hD, hlen, A⟩ J hJ
    rw [List.getElem?_map] at hd
    cases e : B.trs[i]? with
    | none => rw [e] at hd; cases hd
    | some p =>
      rw [e] at hd
      cases hd
      obtain ⟨key, t⟩ := p
      have hi := (List.getElem?_eq_some_iff.mp e).1
      have hT : TrOk t := hB.tr _ (List.mem_of_getElem? e)
      have hsize := hT.size
      have hro : (rowsOf B.trs)[i]? = some (key, spotsOf B.trs t) := by unfold rowsOf; rw [List.getElem?_map, e]; rfl
      have htk : (rowsOf B.trs).take (i + 1) = (rowsOf B.trs).take i ++ [(key, spotsOf B.trs t)] := by rw [List.take_succ, hro]; rfl
      refine ⟨_, rfl, ?_⟩
      rw [wp_cons]
      try walk_at "ev1"
      rw [seqQ_nx, wp_cons]
      try walk_at "ev1"
      refine (lpieces0 hp.toHasLPcs (k := k + 1) hT.dep hT.ok (by omega)).mono ?_
      rintro _ S4 ⟨rfl, X4, L4⟩
      have XR : Ext S3 S4 := (Ext.app _ _).trans X4
      have LR : lstAt S4 S3.length = some [] := X4.lst lstAt_new
      have rpE : (S3 ++ [O.lst []]).length = S3.length + 1 := by simp
      rw [rpE] at L4
      have hqok := pcs_ok t [] hT.ok
      have hqlen := pcs_len t []
      have hJ' : ∀ (S' : Sto) (x6 x7 x8 x9 x10 x11 : Option D), Ext S3 S' → SpotsAt S' (.ref S3.length) ((t.pcs []).filterMap (spotOf B.trs)) → ∃ S4, setiD (.ref S2.length) (.str key) (.ref S3.length) S' = some S4 ∧ J [some (.tup [.str B.top, .tup (B.trs.map prD)]), some (.ref hr), some (.ref S2.length), some (.str key), some t.enc, some (.ref S3.length), x6, x7, x8, x9, x10, x11] S4 := by
        intro S' x6 x7 x8 x9 x10 x11 X' hS
        have hD' := X'.dicU hD
        have hlt' := dicAt_lt (dicU_at hD')
        have hnew : putD kvs (.inr key) (.ref S3.length) = kvs ++ [(.inr key, .ref S3.length)] := putD_new _ fun kv hm z => by
          obtain ⟨j, hj⟩ := List.getElem?_of_mem hm
          obtain ⟨ro, hro', hk, _⟩ := A.get hj
          rw [hk] at z
          have z := Sum.inr.inj z
          have hjl := (List.getElem?_eq_some_iff.mp hj).1
          rw [List.getElem?_take_of_lt (by omega)] at hro'
          unfold rowsOf at hro'
          rw [List.getElem?_map] at hro'
          cases e2 : B.trs[j]? with
          | none => rw [e2] at hro'; cases hro'
          | some p2 =>
            rw [e2] at hro'
            cases hro'
            have h1 : (B.trs.map (·.1))[j]? = some key := by rw [List.getElem?_map, e2]; exact congrArg some z
            have h2 : (B.trs.map (·.1))[i]? = some key := by rw [List.getElem?_map, e]; rfl
            have := (List.getElem?_inj (by simp; omega) hB.nd).mp (h1.trans h2.symm)
            omega
        refine ⟨_, setd_str.mpr ⟨kvs, hD', by omega, rfl⟩, ?_⟩
        rw [hnew]
        refine hJ _ _ ⟨_, _, _, _, _, _, _, _, _, kvs ++ [(.inr key, .ref S3.length)], rfl, (X.trans X').set (Nat.le_refl _) _, ?_, by simp [hlen], ?_⟩
        · rw [dicU_set hlt']
        · have hb : dicAt S' S2.length ≠ none := by rw [dicU_at hD']; exact fun z => by cases z
          rw [htk]
          exact (A.imp fun a c z => ⟨z.1, (z.2.ext X').setN (n := 0) (S' := S3) hb _⟩).snoc ⟨rfl, hS.setN (n := 0) (S' := S3) hb _⟩
      generalize t.pcs [] = qs at *
      have hH4 : lstAt S4 hr = some (B.trs.map hdD) := (X.trans XR).lst hH
      clear hJ A
      try walk_at "ev1"
      refine wp_fR (ds := qs.map pcD) (fun j ρ S' => ∃ x6 x7 x8 x9 x10 x11 ds, ρ = [some (.tup [.str B.top, .tup (B.trs.map prD)]), some (.ref hr), some (.ref S2.length), some (.str key), some t.enc, some (.ref S3.length), x6, x7, x8, x9, x10, x11] ∧ Ext S3 S' ∧ lstAt S' (S3.length + 1) = some (qs.map pcD) ∧ lstAt S' S3.length = some ds ∧ All2 (SpotN S3.length S') ds ((qs.take j).filterMap (spotOf B.trs))) ?_ ?_ ?_ ?_
      · exact ⟨_, _, _, _, _, _, [], rfl, XR, L4, LR, by rw [List.take_zero]; exact All2.nil⟩
      · rintro j ρ S' ⟨_, _, _, _, _, _, ds, _, _, h, _⟩
        exact h
      · rintro j d ρ S5 hd ⟨x6, x7, x8, x9, x10, x11, ds, rfl, X5, M1, M2, A⟩ J' hJ2
        rw [List.getElem?_map] at hd
        cases ej : qs[j]? with
        | none => rw [ej] at hd; cases hd
        | some q =>
          rw [ej] at hd
          cases hd
          obtain ⟨p, u⟩ := q
          have hj := (List.getElem?_eq_some_iff.mp ej).1
          have hu : u.ok := hqok _ (List.mem_of_getElem? ej)
          have htk' : qs.take (j + 1) = qs.take j ++ [(p, u)] := by rw [List.take_succ, ej]; rfl
          have hdl : ds.length ≤ 1000 := by
            rw [A.1]
            refine Nat.le_trans (List.length_filterMap_le _ _) ?_
            rw [List.length_take]
            omega
          have hlS := lstAt_lt M2
          have hH5 : lstAt S5 hr = some (B.trs.map hdD) := (X.trans X5).lst hH
          have hBl : B.trs.length ≤ 100 := by omega
          -- one more
          have more : ∀ (b : Bool) (nq : Nme), spotOf B.trs (p, u) = some (p, b, keysOf B.trs nq) → ∀ x6 x7 x8 x9 x10 x11, J' [some (.tup [.str B.top, .tup (B.trs.map prD)]), some (.ref hr), some (.ref S2.length), some (.str key), some t.enc, some (.ref S3.length), x6, x7, x8, x9, x10, x11] ((S5 ++ [O.lst ((keysOf B.trs nq).map D.str)]).set S3.length (O.lst (ds ++ [D.tup [plD p, .bl b, .ref S5.length]]))) := by
            intro b nq hs x6 x7 x8 x9 x10 x11
            have X3' : Ext S5 (S5 ++ [.lst ((keysOf B.trs nq).map .str)]) := Ext.app _ _
            have hlS3 : S3.length < (S5 ++ [O.lst ((keysOf B.trs nq).map .str)]).length := Nat.lt_of_lt_of_le hlS X3'.len
            refine hJ2 _ _ ⟨_, _, _, _, _, _, ds ++ [_], rfl, (X5.trans X3').set (Nat.le_refl _) _, by rw [lstAt_set_ne (by omega)]; exact X3'.lst M1, lstAt_set hlS3, ?_⟩
            rw [htk', List.filterMap_append]
            have : List.filterMap (spotOf B.trs) [(p, u)] = [(p, b, keysOf B.trs nq)] := by simp [hs]
            rw [this]
            refine All2.snoc (A.imp fun a c z => (z.ext X3').set _) ⟨S5.length, rfl, by omega, ?_⟩
            rw [lstAt_set_ne (by omega), lstAt_new]
          have none_ : spotOf B.trs (p, u) = none → ∀ x6 x7 x8 x9 x10 x11, J' [some (.tup [.str B.top, .tup (B.trs.map prD)]), some (.ref hr), some (.ref S2.length), some (.str key), some t.enc, some (.ref S3.length), x6, x7, x8, x9, x10, x11] S5 := by
            intro hs x6 x7 x8 x9 x10 x11
            refine hJ2 _ _ ⟨_, _, _, _, _, _, ds, rfl, X5, M1, M2, ?_⟩
            rw [htk', List.filterMap_append]
            have : List.filterMap (spotOf B.trs) [(p, u)] = [] := by simp [hs]
            rw [this, List.append_nil]
            exact A
          clear hJ2 hJ'
          refine ⟨_, rfl, ?_⟩
          rw [wp_cons, wp_ife, wt_cmp, we_idx]
          try walk_at "ev1"
          rw [idx0]
          try walk_at "ev1"
          refine ifQ_by (fun h => ?_) (fun h => ?_)
          · obtain ⟨z, rfl⟩ := hole_leaf hu (beq_iff_eq.mp h)
            clear h
            have more' := more true (false, z) (by unfold spotOf; simp)
            rw [Tr.enc] at *
            clear more none_
            rw [wp_cons]
            try walk_at "ev1"
            refine comp_hole hH5 hBl ?_
            have M2' : lstAt (S5 ++ [.lst ((keysOf B.trs (false, z)).map .str)]) S3.length = some ds := by rw [lstAt_app hlS]; exact M2
            rw [seqQ_nx, wp_cons]
            try walk_at "ev1"
            omega
          · rw [wp_cons, wp_ife, wt_and, wt_cmp, we_idx]
            try walk_at "ev1"
            rw [idx0]
            try walk_at "ev1"
            refine andQ_by (fun h2 => ?_) (fun h2 => ?_)
            · obtain ⟨nm, tk, ks, rfl⟩ := (kd_knot hu).mp (beq_iff_eq.mp h2)
              clear h h2
              cases tk with
              | none =>
                have none' := none_ rfl
                rw [Tr.enc, show takD none = .non from rfl] at *
                clear more none_
                try walk_at "ev1"
              | some xb =>
                obtain ⟨z, b⟩ := xb
                have more' := more b (true, z) rfl
                rw [Tr.enc, show takD (some (z, b)) = .tup [.str z, .bl b] from rfl] at *
                clear more none_
                try walk_at "ev1"
                rw [wp_cons]
                try walk_at "ev1"
                refine comp_knot hH5 hBl ?_
                have M2' : lstAt (S5 ++ [.lst ((keysOf B.trs (true, z)).map .str)]) S3.length = some ds := by rw [lstAt_app hlS]; exact M2
                rw [seqQ_nx, wp_cons]
                try walk_at "ev1"
                omega
            · have none' := none_ (by
                cases u with
                | void => rfl
                | leaf kk z =>
                  unfold spotOf
                  have : kk ≠ "hole" := by
                    intro q
                    subst q
                    exact absurd h (by show ¬ (("hole" : Str) == ("hole" : Str)) = false; decide +kernel)
                  simp [this]
                | knot nm tk ks => exact absurd h2 (by show ¬ (("knot" : Str) == ("knot" : Str)) = false; decide +kernel))
              clear more none_
              try walk_at "ev1"
      · rintro ρ S5 ⟨x6, x7, x8, x9, x10, x11, ds, rfl, X5, M1, M2, A⟩
        rw [List.length_map, List.take_length] at A
        obtain ⟨S6, h1, h2⟩ := hJ' S5 x6 x7 x8 x9 x10 x11 X5 ⟨_, ds, rfl, M2, A.imp fun _ _ z => z.at⟩
        rw [seqQ_nx, wp_cons, wp_seti]
        try walk_at "ev1"
        exact ⟨_, setd_str.mp h1, h2⟩
  · rintro ρ S3 ⟨x3, x4, x5, x6, x7, x8, x9, x10, x11, kvs, rfl, X, hD, hlen, A⟩
    have hr : (rowsOf B.trs).length = B.trs.length := by unfold rowsOf; rw [List.length_map]
    rw [List.length_map, ← hr, List.take_length] at A
    try walk_at "ev"
    exact hQ _ _ ⟨_, rfl, X2.trans X, X2.len, kvs, hD, A⟩
theorem ltops_sp (hp : HasWhere tbl) {B : Book} (hB : BookOk B) : Wx NoX (callN sub tbl (k + 13) 35 [B.d] S) fun d S' => ∃ r, d = .ref r ∧ Ext S S' ∧ lstAt S' r = some ((keysOf B.trs (false, B.top)).map .str) := by
  refine Wp.gen fun Q hQ => ?_
  have sz : sizeLine = 16777216 := rfl
  have hle := hB.le
  refine wp_call hp.tops rfl ?_
  unfold b__law_tops Book.d
  rw [wp_cons]
  try walk_at "ev1"
  refine wp_lF (fun i acc S' => Ext S S' ∧ acc = (keysOf (B.trs.take i) (false, B.top)).map .str ∧ acc.length ≤ i) ⟨Ext.refl _, rfl, Nat.le_refl _⟩ ?_ ?_
  · rintro i d acc S' hd ⟨X, rfl, hal⟩ J K hJ hK
    rw [List.getElem?_map] at hd
    cases e : B.trs[i]? with
    | none => rw [e] at hd; cases hd
    | some p =>
      rw [e] at hd
      cases hd
      have kt := keysOf_take e (false, B.top)
      rw [nm_false] at kt
      obtain ⟨key, t⟩ := p
      have hi := (List.getElem?_eq_some_iff.mp e).1
      have hT : TrOk t := hB.tr _ (List.mem_of_getElem? e)
      refine ⟨_, rfl, ?_⟩
      try walk_at "ev1"
      refine (lfoot_sp hp.toHasLPcs (k := k) hT.dep hT.ok (by have := hT.size; omega)).mono ?_
      rintro _ S2 ⟨rfl, X2⟩
      rw [isNon_optS]
      simp only at kt
      cases hf : t.foot.isNone with
      | false =>
        rw [hf] at kt
        rw [andQ_f, lcQ_f]
        refine hK _ ⟨X.trans X2, by rw [kt]; rfl, by omega⟩
      | true =>
        rw [hf] at kt
        rw [andQ_t]
        have hnm : ∀ (X0 : XQ) (Q : D → Sto → Prop), Q (.str t.name) S2 → Wx X0 (idxD t.enc (.int 1) S2) Q := by
          intro X0 Q h
          obtain ⟨n, tk, ks, rfl⟩ := hT.kn
          rw [Tr.enc, wi_idx_tup]
          exact ⟨_, rfl, h⟩
        try walk_at "ev1"
        refine hnm _ _ ?_
        try walk_at "ev1"
        cases hn : (t.name == B.top) with
        | false =>
          rw [hn] at kt
          rw [lcQ_f]
          refine hK _ ⟨X.trans X2, by rw [kt]; rfl, by omega⟩
        | true =>
          rw [hn] at kt
          rw [lcQ_t]
          try walk_at "ev1"
          refine hJ _ _ (by omega) ⟨X.trans X2, ?_, by simp at hal ⊢; omega⟩
          rw [kt, Bool.and_self, if_pos rfl, List.map_append]
          rfl
  · rintro acc S' ⟨X, rfl, _⟩
    rw [List.length_map, List.take_length]
    try walk_at "ev1"
    exact hQ _ _ ⟨_, rfl, X.app1 _, lstAt_new⟩
end

end GA
namespace GA
open PySem VM
/-! ### keys known, in the order they came -/
def knD (ks : List Str) : List (L2.Key × D) := ks.map fun x => (.inr x, .bl true)
theorem lkD_kn {ks : List Str} {x : Str} : lkD (knD ks) (.inr x) = if x ∈ ks then some (.bl true) else none := by
  unfold lkD knD
  induction ks with
  | nil => rfl
  | cons y ks ih =>
    rw [List.map_cons]
    by_cases h : y = x
    · subst h
      rw [List.find?_cons_of_pos (by simp), if_pos (by simp)]
      rfl
    · rw [List.find?_cons_of_neg (by simpa using h), ih]
      by_cases h2 : x ∈ ks
      · rw [if_pos h2, if_pos (by simp [h2])]
      · rw [if_neg h2, if_neg (by simp [h2, Ne.symm h])]
theorem in_kn {S : Sto} {n : Nat} {ks : List Str} {x : Str} (h : dicAt S n = some (knD ks)) : inD (.str x) (.ref n) S = some (decide (x ∈ ks)) := by
  rw [in_dic h, lkD_kn]
  by_cases h : x ∈ ks <;> simp [h]
def addK (ks : List Str) (x : Str) : List Str := if x ∈ ks then ks else ks ++ [x]
theorem putD_kn {ks : List Str} {x : Str} : putD (knD ks) (.inr x) (.bl true) = knD (addK ks x) := by
  unfold addK
  by_cases h : x ∈ ks
  · rw [if_pos h]
    unfold putD
    rw [if_pos]
    · conv => rhs; rw [← List.map_id (knD ks)]
      refine List.map_congr_left fun kv hm => ?_
      unfold knD at hm
      obtain ⟨y, _, rfl⟩ := List.mem_map.mp hm
      by_cases hy : (Sum.inr y : L2.Key) = .inr x
      · rw [if_pos hy]; rfl
      · rw [if_neg hy]; rfl
    · exact List.any_eq_true.mpr ⟨(.inr x, .bl true), List.mem_map.mpr ⟨x, h, rfl⟩, by simp⟩
  · rw [if_neg h, putD_new]
    · unfold knD
      rw [List.map_append]
      rfl
    · intro kv hm z
      unfold knD at hm
      obtain ⟨y, hy, rfl⟩ := List.mem_map.mp hm
      have : y = x := Sum.inr.inj z
      subst this
      exact h hy
def waits (ks : List Str) (sps : List Spot) : Bool := sps.any fun sp => sp.2.1 && !(sp.2.2.any fun x => decide (x ∈ ks))
def sw (ks : List Str) (r : Str × List Spot) : List Str := if waits ks r.2 = true then ks else addK ks r.1
def sweep (rows : List (Str × List Spot)) (ks : List Str) : List Str := rows.foldl sw ks
def turns (rows : List (Str × List Spot)) : Nat → List Str
  | 0 => []
  | n + 1 => sweep rows (turns rows n)
/-- the keys of what ends, in the order in which they come to be known -/
def ending (rows : List (Str × List Spot)) : List Str := turns rows rows.length
theorem addK_sub (ks : List Str) (x : Str) : ∀ y ∈ ks, y ∈ addK ks x := fun y h => by unfold addK; split <;> simp [h]
theorem addK_len (ks : List Str) (x : Str) : ks.length ≤ (addK ks x).length := by unfold addK; split <;> simp
theorem addK_nd {ks : List Str} {x : Str} (h : ks.Nodup) : (addK ks x).Nodup := by
  unfold addK
  split
  · exact h
  · rename_i hn
    rw [List.nodup_append]
    exact ⟨h, by simp, fun a ha b hb => by simp at hb; subst hb; exact fun z => hn (z ▸ ha)⟩
theorem sw_len (ks : List Str) (r : Str × List Spot) : ks.length ≤ (sw ks r).length := by unfold sw; split; exact Nat.le_refl _; exact addK_len _ _
theorem sw_eq {ks : List Str} {r : Str × List Spot} (h : (sw ks r).length = ks.length) : sw ks r = ks := by
  unfold sw at h ⊢
  split
  · rfl
  · rename_i hw
    rw [if_neg hw] at h
    unfold addK at h ⊢
    split
    · rfl
    · rename_i hn
      rw [if_neg hn] at h
      simp at h
theorem sweep_len : ∀ (rows : List (Str × List Spot)) (ks : List Str), ks.length ≤ (sweep rows ks).length
  | [], ks => Nat.le_refl _
  | r :: rows, ks => Nat.le_trans (sw_len ks r) (sweep_len rows (sw ks r))
theorem turns_nd (rows : List (Str × List Spot)) : ∀ n, (turns rows n).Nodup ∧ ∀ x ∈ turns rows n, x ∈ rows.map (·.1) := by
  have key : ∀ (rs : List (Str × List Spot)) (ks : List Str), (∀ r ∈ rs, r ∈ rows) → ks.Nodup → (∀ x ∈ ks, x ∈ rows.map (·.1)) → (sweep rs ks).Nodup ∧ ∀ x ∈ sweep rs ks, x ∈ rows.map (·.1) := by
    intro rs
    induction rs with
    | nil => exact fun ks _ h1 h2 => ⟨h1, h2⟩
    | cons r rs ih =>
      intro ks hr h1 h2
      refine ih (sw ks r) (fun q hq => hr q (by simp [hq])) ?_ ?_
      · unfold sw; split; exact h1; exact addK_nd h1
      · unfold sw
        split
        · exact h2
        · intro x hx
          unfold addK at hx
          split at hx
          · exact h2 x hx
          · rw [List.mem_append, List.mem_singleton] at hx
            rcases hx with hx | rfl
            · exact h2 x hx
            · exact List.mem_map.mpr ⟨r, hr r (by simp), rfl⟩
  intro n
  induction n with
  | zero => exact ⟨List.nodup_nil, fun x h => by cases h⟩
  | succ n ih => exact key rows _ (fun r h => h) ih.1 ih.2
theorem nodup_le {α : Type} [DecidableEq α] : ∀ (as bs : List α), as.Nodup → (∀ x ∈ as, x ∈ bs) → as.length ≤ bs.length
  | [], bs, _, _ => Nat.zero_le _
  | a :: as, bs, nd, h => by
    have hm := h a (by simp)
    have hl : (bs.erase a).length = bs.length - 1 := List.length_erase_of_mem hm
    have := nodup_le as (bs.erase a) (List.nodup_cons.mp nd).2 fun x hx => by
      have hne : x ≠ a := fun z => (List.nodup_cons.mp nd).1 (z ▸ hx)
      exact (List.mem_erase_of_ne hne).mpr (h x (by simp [hx]))
    have hpos : 0 < bs.length := List.length_pos_of_mem hm
    rw [List.length_cons]
    omega
theorem turns_le (rows : List (Str × List Spot)) (n : Nat) : (turns rows n).length ≤ rows.length := by
  have := nodup_le _ _ (turns_nd rows n).1 (turns_nd rows n).2
  rw [List.length_map] at this
  exact this
theorem turns_stay {rows : List (Str × List Spot)} {m : Nat} (h : sweep rows (turns rows m) = turns rows m) : ∀ n, m ≤ n → turns rows n = turns rows m := by
  intro n hn
  induction n with
  | zero => have : m = 0 := by omega
            subst this; rfl
  | succ n ih =>
    by_cases hm : m = n + 1
    · subst hm; rfl
    · show sweep rows (turns rows n) = _
      rw [ih (by omega), h]
theorem ending_of {rows : List (Str × List Spot)} {m : Nat} (h : sweep rows (turns rows m) = turns rows m) (hm : m ≤ (turns rows m).length) : turns rows m = ending rows :=
  (turns_stay h _ (Nat.le_trans hm (turns_le rows m))).symm
/-! ### rows read -/
theorem lkD_at {kvs : List (L2.Key × D)} {i : Nat} {x : Str} {d : D} (hi : kvs[i]? = some (.inr x, d)) (hn : ∀ j kv, j < i → kvs[j]? = some kv → kv.1 ≠ .inr x) : lkD kvs (.inr x) = some d := by
  induction kvs generalizing i with
  | nil => simp at hi
  | cons p kvs ih =>
    cases i with
    | zero =>
      simp at hi
      subst hi
      unfold lkD
      rw [List.find?_cons_of_pos (by simp)]
      rfl
    | succ i =>
      have h0 := hn 0 p (by omega) rfl
      unfold lkD at ih ⊢
      rw [List.find?_cons_of_neg (by simpa using h0)]
      exact ih (by simpa using hi) fun j kv hj e => hn (j + 1) kv (by omega) (by simpa using e)
theorem rows_get {S : Sto} {n i : Nat} {rows : List (Str × List Spot)} {x : Str} {sps : List Spot} (h : RowsAt S n rows) (nd : (rows.map (·.1)).Nodup) (e : rows[i]? = some (x, sps)) : ∃ kvs d, dicAt S n = some kvs ∧ lkD kvs (.inr x) = some d ∧ SpotsAt S d sps := by
  obtain ⟨kvs, hd, A⟩ := h
  have hi := (List.getElem?_eq_some_iff.mp e).1
  have hk : i < kvs.length := by rw [A.1]; exact hi
  obtain ⟨h1, h2⟩ := A.2 i kvs[i] _ (List.getElem?_eq_getElem hk) e
  refine ⟨kvs, kvs[i].2, hd, lkD_at (i := i) ?_ ?_, h2⟩
  · rw [List.getElem?_eq_getElem hk, ← h1]
  · intro j kv hj ej z
    obtain ⟨r, er, h3, _⟩ := A.get ej
    have : r.1 = x := Sum.inr.inj (h3.symm.trans z)
    have a1 : (rows.map (·.1))[j]? = some x := by rw [List.getElem?_map, er]; exact congrArg some this
    have a2 : (rows.map (·.1))[i]? = some x := by rw [List.getElem?_map, e]; rfl
    have := (List.getElem?_inj (by simp; omega) nd).mp (a1.trans a2.symm)
    omega
theorem rowsOf_nd {B : Book} (hB : BookOk B) : ((rowsOf B.trs).map (·.1)).Nodup := by
  unfold rowsOf
  rw [List.map_map]
  exact hB.nd
theorem rowsOf_len {ps : List (Str × Tr)} : (rowsOf ps).length = ps.length := by unfold rowsOf; rw [List.length_map]

end GA
namespace GA
open PySem VM
/-- fillings, f: the number of first_of -/
def bFill (f : Nat) : Cs :=
  (.cons (.set 2 (.lst .nil)) (.cons (.for_ (.tp [3, 4, 5]) (.seq (.var 0)) (.cons (.ife (.v (.var 4)) (.cons (.set 6 (.call f (.cons (.var 5) (.cons (.var 1) .nil)))) (.cons (.ife (.cmp .is (.var 6) (.non)) (.cons (.ret (.non)) .nil) .nil) (.cons (.ex (.bm .append (.var 2) (.cons (.tup (.cons (.var 3) (.cons (.var 6) .nil))) .nil))) .nil))) .nil) .nil)) (.cons (.ret (.bi .tuple (.cons (.var 2) .nil))) .nil)))
structure HasBuilt (tbl : List (Nat × Fd)) (f : Nat) : Prop where
  first : tbl.lookup f = some ⟨2, 3, b_first_of_useful⟩
  fill : tbl.lookup 7 = some ⟨2, 7, bFill f⟩
  orders : tbl.lookup 8 = some ⟨2, 8, b_orders_built⟩
theorem find_snoc {α : Type} {p : α → Bool} {xs : List α} {i : Nat} {x : α} (e : xs[i]? = some x) (h : (xs.take i).find? p = none) (hx : p x = true) : xs.find? p = some x := by
  have hi := (List.getElem?_eq_some_iff.mp e).1
  have hxs : xs = xs.take i ++ x :: xs.drop (i + 1) := by
    conv => lhs; rw [← List.take_append_drop i xs]
    rw [List.drop_eq_getElem_cons hi, (List.getElem?_eq_some_iff.mp e).2]
  rw [hxs, List.find?_append, h, Option.none_or, List.find?_cons_of_pos (by exact hx)]
theorem find_take {α : Type} {p : α → Bool} {xs : List α} {i : Nat} {x : α} (e : xs[i]? = some x) (h : (xs.take i).find? p = none) (hx : p x = false) : (xs.take (i + 1)).find? p = none := by
  rw [List.take_succ, e, List.find?_append, h]
  simp [hx]
section
variable {sub : Nat → Nat → Bool} {tbl : List (Nat × Fd)} {k f : Nat} {S : Sto}
theorem first_sp (hp : HasBuilt tbl f) {kr kn : Nat} {keys ks : List Str} (h1 : lstAt S kr = some (keys.map .str)) (h2 : dicAt S kn = some (knD ks)) : Wx NoX (callN sub tbl (k + 1) f [.ref kr, .ref kn] S) fun d S' => d = optS (keys.find? fun x => decide (x ∈ ks)) ∧ S' = S := by
  refine Wp.gen fun Q hQ => ?_
  refine wp_call hp.first rfl ?_
  unfold b_first_of_useful
  rw [wp_cons]
  try walk_at "ev1"
  refine wp_fR (ds := keys.map D.str) (fun i ρ S' => ∃ x, ρ = [some (.ref kr), some (.ref kn), x] ∧ S' = S ∧ (keys.take i).find? (fun x => decide (x ∈ ks)) = none) ⟨_, rfl, rfl, rfl⟩ ?_ ?_ ?_
  · rintro i ρ S' ⟨x, _, rfl, _⟩
    exact h1
  · rintro i d ρ S' hd ⟨x, rfl, rfl, hf⟩ J hJ
    rw [List.getElem?_map] at hd
    cases e : keys[i]? with
    | none => rw [e] at hd; cases hd
    | some y =>
      rw [e] at hd
      cases hd
      have hin := in_kn (x := y) h2
      refine ⟨_, rfl, ?_⟩
      rw [wp_cons]
      try walk_at "ev1"
      refine ifQ_by (fun h => ?_) (fun h => ?_)
      · have := find_snoc (p := fun x => decide (x ∈ ks)) e hf h
        try walk_at "ev"
        exact hQ _ _ ⟨by rw [this]; rfl, rfl⟩
      · have := find_take (p := fun x => decide (x ∈ ks)) e hf h
        try walk_at "ev1"
        exact hJ _ _ ⟨_, rfl, rfl, this⟩
  · rintro ρ S' ⟨x, rfl, rfl, hf⟩
    rw [List.length_map, List.take_length] at hf
    try walk_at "ev"
    exact hQ _ _ ⟨by rw [hf]; rfl, rfl⟩
def isWait (ks : List Str) (sp : Spot) : Bool := sp.2.1 && !(sp.2.2.any fun x => decide (x ∈ ks))
theorem waits_find {ks : List Str} {sps : List Spot} : waits ks sps = (sps.find? (isWait ks)).isSome := by
  unfold waits
  induction sps with
  | nil => rfl
  | cons a sps ih =>
    rw [List.any_cons, List.find?_cons]
    show (isWait ks a || _) = _
    cases isWait ks a with
    | true => rfl
    | false => simpa using ih
theorem find_any {keys ks : List Str} : (keys.find? fun x => decide (x ∈ ks)).isSome = keys.any fun x => decide (x ∈ ks) := by
  induction keys with
  | nil => rfl
  | cons a keys ih =>
    rw [List.find?_cons, List.any_cons]
    cases decide (a ∈ ks) with
    | true => rfl
    | false => simpa using ih
theorem fill_sp (hp : HasBuilt tbl f) {d : D} {kn : Nat} {sps : List Spot} {ks : List Str} (h1 : SpotsAt S d sps) (hl : sps.length ≤ 100000) (h2 : dicAt S kn = some (knD ks)) :
    Wx NoX (callN sub tbl (k + 2) 7 [d, .ref kn] S) fun d S' => (waits ks sps = true ∧ d = .non ∨ waits ks sps = false ∧ ∃ ds, d = .tup ds) ∧ Ext S S' := by
  refine Wp.gen fun Q hQ => ?_
  have sz : sizeLine = 16777216 := rfl
  obtain ⟨r, ds, rfl, hr, A⟩ := h1
  refine wp_call hp.fill rfl ?_
  unfold bFill
  rw [wp_cons]
  try walk_at "ev1"
  have hrA : lstAt (S ++ [.lst []]) r = some ds := by rw [lstAt_app (lstAt_lt hr)]; exact hr
  rw [seqQ_nx, wp_cons]
  try walk_at "ev1"
  refine wp_fR (ds := ds) (fun i ρ S' => ∃ x3 x4 x5 x6 ps, ρ = [some (.ref r), some (.ref kn), some (.ref S.length), x3, x4, x5, x6] ∧ Ext S S' ∧ lstAt S' S.length = some ps ∧ ps.length ≤ i ∧ (sps.take i).find? (isWait ks) = none) ?_ ?_ ?_ ?_
  · exact ⟨_, _, _, _, [], rfl, Ext.app _ _, lstAt_new, Nat.le_refl _, rfl⟩
  · rintro i ρ S' ⟨_, _, _, _, ps, _, X, _⟩
    exact X.lst hr
  · rintro i d ρ S' hd ⟨x3, x4, x5, x6, ps, rfl, X, hps, hpl, hf⟩ J hJ
    obtain ⟨sp, e, kr, rfl, hkr⟩ := A.get hd
    have hi := (List.getElem?_eq_some_iff.mp e).1
    obtain ⟨pl, must, keys⟩ := sp
    simp only at hkr
    have hlt := lstAt_lt hps
    have hk' := X.lst hkr
    have hn' := X.dic h2
    refine ⟨_, rfl, ?_⟩
    rw [wp_cons]
    try walk_at "ev1"
    refine ifQ_by (fun h => ?_) (fun h => ?_)
    · subst h
      rw [wp_cons]
      try walk_at "ev1"
      refine (first_sp hp hk' hn').mono ?_
      rintro _ S2 ⟨rfl, rfl⟩
      rw [seqQ_nx, wp_cons]
      try walk_at "ev1"
      rw [isNon_optS]
      have hw : isWait ks (pl, true, keys) = !(keys.find? fun x => decide (x ∈ ks)).isSome := by
        unfold isWait
        rw [find_any]
        rfl
      cases hfd : keys.find? fun x => decide (x ∈ ks) with
      | none =>
        rw [hfd] at hw
        have := find_snoc (p := isWait ks) e hf hw
        show ifQ _ _ _ _ _ true _
        rw [ifQ_t]
        try walk_at "ev"
        exact hQ _ _ ⟨.inl ⟨by rw [waits_find, this]; rfl, rfl⟩, X⟩
      | some y =>
        rw [hfd] at hw
        have := find_take (p := isWait ks) e hf hw
        show ifQ _ _ _ _ _ false _
        rw [ifQ_f]
        try walk_at "ev"
        refine ⟨by omega, ?_⟩
        exact hJ _ _ ⟨_, _, _, _, ps ++ [_], rfl, X.set (Nat.le_refl _) _, lstAt_set hlt, by simp; omega, this⟩
    · have hw : isWait ks (pl, must, keys) = false := by unfold isWait; rw [h]; rfl
      have := find_take (p := isWait ks) e hf hw
      try walk_at "ev1"
      exact hJ _ _ ⟨_, _, _, _, ps, rfl, X, hps, by omega, this⟩
  · rintro ρ S' ⟨x3, x4, x5, x6, ps, rfl, X, hps, hpl, hf⟩
    rw [A.1, List.take_length] at hf
    try walk_at "ev"
    exact hQ _ _ ⟨.inr ⟨by rw [waits_find, hf]; rfl, _, rfl⟩, X⟩
end

end GA
namespace GA
open PySem VM
theorem sweep_take {rows : List (Str × List Spot)} {i : Nat} {r : Str × List Spot} (e : rows[i]? = some r) (ks : List Str) : sweep (rows.take (i + 1)) ks = sw (sweep (rows.take i) ks) r := by
  unfold sweep
  rw [List.take_succ, e, List.foldl_append]
  rfl
theorem sweep_eq : ∀ (rows : List (Str × List Spot)) (ks : List Str), (sweep rows ks).length = ks.length → sweep rows ks = ks
  | [], ks, _ => rfl
  | r :: rows, ks, h => by
    have h1 := sw_len ks r
    have h2 := sweep_len rows (sw ks r)
    have h : (sweep rows (sw ks r)).length = ks.length := h
    have h3 := sw_eq (ks := ks) (r := r) (by omega)
    show sweep rows (sw ks r) = ks
    rw [h3] at h ⊢
    exact sweep_eq rows ks h
theorem sweep_take_len (rows : List (Str × List Spot)) (i : Nat) (ks : List Str) : ks.length ≤ (sweep (rows.take i) ks).length := sweep_len _ _
theorem sweep_part (rows : List (Str × List Spot)) (i : Nat) (ks : List Str) : (sweep (rows.take i) ks).length ≤ (sweep rows ks).length := by
  have : sweep rows ks = sweep (rows.drop i) (sweep (rows.take i) ks) := by
    unfold sweep
    rw [← List.foldl_append, List.take_append_drop]
  rw [this]
  exact sweep_len _ _
/-- a list of pairs whose firsts are these keys -/
def FirstsN (n : Nat) (bs : List D) (ks : List Str) : Prop := All2 (fun d x => ∃ pds, pds.length = n ∧ d = .tup (.str x :: pds)) bs ks
abbrev FirstsAt (bs : List D) (ks : List Str) : Prop := FirstsN 1 bs ks
section
variable {sub : Nat → Nat → Bool} {tbl : List (Nat × Fd)} {k f : Nat} {S : Sto}
theorem orders_sp (hp : HasBuilt tbl f) {B : Book} (hB : BookOk B) {rn : Nat} (hR : RowsAt S rn (rowsOf B.trs)) (hsp : ∀ r ∈ rowsOf B.trs, r.2.length ≤ 100000) :
    Wx NoX (callN sub tbl (k + 3) 8 [B.d, .ref rn] S) fun d S' => ∃ r bs, d = .ref r ∧ Ext S S' ∧ lstAt S' r = some bs ∧ FirstsAt bs (ending (rowsOf B.trs)) := by
  refine Wp.gen fun Q hQ => ?_
  have sz : sizeLine = 16777216 := rfl
  have hle := hB.le
  have hrl : (rowsOf B.trs).length ≤ 6 := by rw [rowsOf_len]; exact hle
  have hnd := rowsOf_nd hB
  have hrow : ∀ (i : Nat) (p : Str × Tr), B.trs[i]? = some p → (rowsOf B.trs)[i]? = some (p.1, spotsOf B.trs p.2) := fun i p e => by unfold rowsOf; rw [List.getElem?_map, e]; rfl
  generalize hrows : rowsOf B.trs = rows at *
  have hlens : B.trs.length = rows.length := by rw [← hrows, rowsOf_len]
  refine wp_call hp.orders rfl ?_
  unfold b_orders_built Book.d
  rw [wp_cons]
  try walk_at "ev1"
  rw [seqQ_nx, wp_cons]
  try walk_at "ev1"
  rw [seqQ_nx, wp_cons]
  try walk_at "ev1"
  rw [seqQ_nx, wp_cons]
  try walk_at "ev1"
  have l1 : (S ++ [O.lst []]).length = S.length + 1 := by simp
  have hD0 : dicU (S ++ [.lst []] ++ [.dic []]) (S.length + 1) = some (knD []) := dicU_newE (by simp)
  have hL0 : lstAt (S ++ [.lst []] ++ [.dic []]) S.length = some [] := by rw [lstAt_app (by simp)]; exact lstAt_new
  have X0 : Ext S (S ++ [.lst []] ++ [.dic []]) := (Ext.app _ _).app1 _
  generalize S ++ [.lst []] ++ [.dic []] = S1 at *
  try rw [l1]
  clear l1
  refine wp_while (fun m ρ S' => ∃ (mr : Bool) (j : Nat) (x5 x6 x7 : Option D) (bs : List D), ρ = [some (.tup [.str B.top, .tup (B.trs.map prD)]), some (.ref rn), some (.ref S.length), some (.ref (S.length + 1)), some (.bl mr), x5, x6, x7] ∧ Ext S S' ∧
    dicU S' (S.length + 1) = some (knD (turns rows j)) ∧ lstAt S' S.length = some bs ∧ FirstsAt bs (turns rows j) ∧ j ≤ (turns rows j).length ∧ (mr = false → sweep rows (turns rows j) = turns rows j) ∧ m = (rows.length - (turns rows j).length) * 2 + (if mr then 1 else 0)) ((rows.length - 0) * 2 + 1) ?_ ?_
  · exact ⟨true, 0, _, _, _, [], rfl, X0, hD0, hL0, All2.nil, Nat.le_refl _, fun z => (by cases z), rfl⟩
  · rintro m ρ S2 ⟨mr, j, x5, x6, x7, bs, rfl, X, hD, hL, hF, hj, hst, hm⟩
    try walk_at "ev1"
    cases mr with
    | false =>
      rw [if_neg (by decide)]
      have hend := ending_of (hst rfl) hj
      rw [hend] at hF
      try walk_at "ev"
      exact hQ _ _ ⟨_, bs, rfl, X, hL, hF⟩
    | true =>
      rw [if_pos rfl, wp_cons]
      try walk_at "ev1"
      rw [seqQ_nx, wp_cons]
      try walk_at "ev1"
      refine wp_fF (fun i ρ S' => ∃ (mr : Bool) (x5 x6 x7 : Option D) (bs : List D), ρ = [some (.tup [.str B.top, .tup (B.trs.map prD)]), some (.ref rn), some (.ref S.length), some (.ref (S.length + 1)), some (.bl mr), x5, x6, x7] ∧ mr = decide ((sweep (rows.take i) (turns rows j)).length ≠ (turns rows j).length) ∧ Ext S S' ∧
        dicU S' (S.length + 1) = some (knD (sweep (rows.take i) (turns rows j))) ∧ lstAt S' S.length = some bs ∧ FirstsAt bs (sweep (rows.take i) (turns rows j))) ?_ ?_ ?_
      · exact ⟨false, _, _, _, bs, rfl, by rw [List.take_zero]; exact (decide_eq_false (fun z => z rfl)).symm, X, hD, hL, hF⟩
      · rintro i d ρ S3 hd ⟨mr, x5, x6, x7, bs, rfl, hmr, X3, hD3, hL3, hF3⟩ J hJ
        rw [List.getElem?_map] at hd
        cases e : B.trs[i]? with
        | none => rw [e] at hd; cases hd
        | some p =>
          rw [e] at hd
          cases hd
          obtain ⟨key, t⟩ := p
          have hi := (List.getElem?_eq_some_iff.mp e).1
          have er := hrow i _ e
          simp only at er
          have hst := sweep_take er (turns rows j)
          have hge := sweep_take_len rows i (turns rows j)
          have hkl : (sweep (rows.take i) (turns rows j)).length ≤ 6 := Nat.le_trans (Nat.le_trans (sweep_part rows i _) (turns_le rows (j + 1))) hrl
          generalize sweep (rows.take i) (turns rows j) = ks at *
          obtain ⟨kvs, rd, g1, g2, g3⟩ := rows_get (hR.ext X3) hnd er
          have hspl := hsp _ (List.mem_of_getElem? er)
          have hin := in_kn (x := key) (dicU_at hD3)
          have hlt := lstAt_lt hL3
          have hlt2 := dicAt_lt (dicU_at hD3)
          -- nothing more
          have same : sw ks (key, spotsOf B.trs t) = ks → ∀ S4 x7, Ext S3 S4 → J [some (.tup [.str B.top, .tup (B.trs.map prD)]), some (.ref rn), some (.ref S.length), some (.ref (S.length + 1)), some (.bl mr), some (.str key), some t.enc, x7] S4 := by
            intro hsw S4 x7 X4
            refine hJ _ _ ⟨mr, _, _, _, bs, rfl, ?_, X3.trans X4, ?_, ?_, ?_⟩
            · rw [hst, hsw]; exact hmr
            · rw [hst, hsw]; exact X4.dicU hD3
            · exact X4.lst hL3
            · rw [hst, hsw]; exact hF3
          -- one more
          have more : key ∉ ks → waits ks (spotsOf B.trs t) = false → ∀ S4 x7 pd, Ext S3 S4 → J [some (.tup [.str B.top, .tup (B.trs.map prD)]), some (.ref rn), some (.ref S.length), some (.ref (S.length + 1)), some (.bl true), some (.str key), some t.enc, x7] ((S4.set (S.length + 1) (O.dic (putD (knD ks) (.inr key) (.bl true)))).set S.length (O.lst (bs ++ [D.tup [.str key, pd]]))) := by
            intro hk hw S4 x7 pd X4
            have hl4 := X4.len
            have hsw : sw ks (key, spotsOf B.trs t) = ks ++ [key] := by unfold sw addK; rw [hw, if_neg (by decide), if_neg hk]
            have hpu : putD (knD ks) (.inr key) (.bl true) = knD (ks ++ [key]) := by rw [putD_kn]; unfold addK; rw [if_neg hk]
            rw [hpu]
            refine hJ _ _ ⟨true, _, _, _, bs ++ [.tup [.str key, pd]], rfl, ?_, ((X3.trans X4).set (by omega) _).set (Nat.le_refl _) _, ?_, ?_, ?_⟩
            · rw [hst, hsw, List.length_append, List.length_singleton]
              exact (decide_eq_true (by omega)).symm
            · rw [dicU_set_ne (by omega), dicU_set (by omega), hst, hsw]
            · rw [lstAt_set (by simp; omega)]
            · rw [hst, hsw]; exact All2.snoc hF3 ⟨[pd], rfl, rfl⟩
          clear hJ
          clear hmr
          refine ⟨_, rfl, ?_⟩
          rw [wp_cons]
          try walk_at "ev1"
          rw [seqQ_nx, wp_cons]
          have hD3A := dicU_at hD3
          by_cases hk : key ∈ ks
          · have same' := same (by unfold sw addK; rw [if_pos hk]; split <;> rfl) S3 (some .non) (Ext.refl _)
            have hin' : inD (.str key) (.ref (S.length + 1)) S3 = some true := by rw [hin, decide_eq_true hk]
            clear same more hin hk
            try walk_at "ev1"
            rw [seqQ_nx, wp_cons]
            try walk_at "ev1"
          · have hin' : inD (.str key) (.ref (S.length + 1)) S3 = some false := by rw [hin, decide_eq_false hk]
            clear hin
            have more' := more hk
            have same' : waits ks (spotsOf B.trs t) = true → _ := fun h => same (by unfold sw; rw [h]; rfl)
            clear more same hk
            try walk_at "ev1"
            rw [wp_cons]
            try walk_at "ev1"
            refine (fill_sp hp (k := k) g3 hspl hD3A).mono ?_
            rintro d S4 ⟨⟨hw, rfl⟩ | ⟨hw, pd, rfl⟩, X4⟩
            · have same'' := same' hw S4 (some .non) X4
              clear same' more'
              try walk_at "ev1"
              rw [seqQ_nx, wp_cons]
              try walk_at "ev1"
            · have more'' := more' hw S4 (some (.tup pd)) (.tup pd) X4
              have hD4 := X4.dicU hD3
              have hL4 := X4.lst hL3
              have hlt4 : S.length < S4.length := lstAt_lt hL4
              have hbl : bs.length ≤ 6 := by rw [hF3.1]; exact hkl
              have hkn : (knD ks).length ≤ 6 := by unfold knD; rw [List.length_map]; exact hkl
              have hL5 : lstAt (S4.set (S.length + 1) (.dic (putD (knD ks) (.inr key) (.bl true)))) S.length = some bs := by rw [lstAt_set_ne (by omega)]; exact hL4
              clear same' more'
              try walk_at "ev1"
              rw [seqQ_nx, wp_cons]
              try walk_at "ev1"
              rw [wp_cons]
              try walk_at "ev1"
              refine ⟨_, ⟨by omega, rfl⟩, ?_⟩
              rw [seqQ_nx, wp_cons]
              try walk_at "ev1"
              refine ⟨by omega, ?_⟩
              rw [seqQ_nx, wp_cons]
              try walk_at "ev1"
      · rintro ρ S3 ⟨mr, x5, x6, x7, bs, rfl, hmr, X3, hD3, hL3, hF3⟩
        rw [List.length_map, hlens, List.take_length] at hD3 hF3 hmr
        subst hmr
        have hlt := turns_le rows (j + 1)
        have hge := sweep_len rows (turns rows j)
        rw [seqQ_nil, forQ_nx]
        by_cases hc : (sweep rows (turns rows j)).length = (turns rows j).length
        · have hs : sweep rows (turns rows j) = turns rows j := sweep_eq _ _ hc
          rw [show decide ((sweep rows (turns rows j)).length ≠ (turns rows j).length) = false from decide_eq_false (fun z => z hc)]
          rw [hs] at hD3 hF3
          exact ⟨(rows.length - (turns rows j).length) * 2, by subst hm; simp, false, j, _, _, _, bs, rfl, X3, hD3, hL3, hF3, hj, fun _ => hs, rfl⟩
        · rw [show decide ((sweep rows (turns rows j)).length ≠ (turns rows j).length) = true from decide_eq_true hc]
          have e1 : (turns rows (j + 1)).length = (sweep rows (turns rows j)).length := rfl
          refine ⟨(rows.length - (turns rows (j + 1)).length) * 2 + 1, ?_, true, j + 1, _, _, _, bs, rfl, X3, hD3, hL3, hF3, by omega, fun z => (by cases z), rfl⟩
          subst hm
          show _ < (rows.length - (turns rows j).length) * 2 + 1
          have := turns_le rows (j + 1)
          omega
end

end GA
namespace GA
open PySem VM
structure HasEnding (tbl : List (Nat × Fd)) : Prop where
  waits : tbl.lookup 36 = some ⟨2, 6, b__law_waits⟩
  ending : tbl.lookup 37 = some ⟨1, 5, b__law_ending⟩
theorem _root_.VM.Ext.set2 {S S' : Sto} (X : Ext S S') (n : Nat) (o : O) (h : n < S.length) : Ext (S.set n o) (S'.set n o) := by
  refine ⟨by simpa using X.len, fun m hm => ?_⟩
  rw [List.length_set] at hm
  by_cases e : m = n
  · subst e
    rw [List.getElem?_set_self hm, List.getElem?_set_self (Nat.lt_of_lt_of_le hm X.len)]
  · rw [List.getElem?_set_ne (Ne.symm e), List.getElem?_set_ne (Ne.symm e)]
    exact X.at_ m hm
/-- unlocked again -/
theorem unlock {S Sl : Sto} {n : Nat} {kvs : List (L2.Key × D)} (hn : dicU S n = some kvs) (X : Ext (S.set n (.lk (.dic kvs))) Sl) : unl (.lkd n []) Sl = Sl.set n (.dic kvs) ∧ Ext S (Sl.set n (.dic kvs)) := by
  have hlt := dicAt_lt (dicU_at hn)
  have hl : Sl[n]? = some (.lk (.dic kvs)) := by rw [X.at_ n (by simpa using hlt), List.getElem?_set_self hlt]
  refine ⟨unl_lk hl, by have := X.len; simpa using this, fun m hm => ?_⟩
  have hm' := Nat.lt_of_lt_of_le hm (by have := X.len; simpa using this : S.length ≤ Sl.length)
  by_cases e : m = n
  · subst e
    rw [List.getElem?_set_self hm', dicU_get.mp hn]
  · rw [List.getElem?_set_ne (Ne.symm e), X.at_ m (by simpa using hm), List.getElem?_set_ne (Ne.symm e)]
section
variable {sub : Nat → Nat → Bool} {tbl : List (Nat × Fd)} {k : Nat} {S : Sto}
theorem comp_known {X0 : XQ} {F : Orc} {kr kn : Nat} {keys ks : List Str} {r0 r2 r3 r5 : Option D} {Q : D → Sto → Prop} (h1 : lstAt S kr = some (keys.map .str)) (h2 : dicAt S kn = some (knD ks)) (hl : keys.length ≤ 100000) (hQ : Q (.ref S.length) (S ++ [.lst ((keys.filter fun x => decide (x ∈ ks)).map .str)])) :
    Wx X0 (lcG F (.var 5) (.nm 5) (.cmp .inn (.var 5) (.var 1)) [5] [r0, some (.ref kn), r2, r3, some (.ref kr), r5] (.dyn kr .plain) S) Q := by
  have sz : sizeLine = 16777216 := rfl
  refine wp_lR (ds := keys.map D.str) (fun i acc S' => S' = S ∧ acc = ((keys.take i).filter fun x => decide (x ∈ ks)).map .str ∧ acc.length ≤ i) ⟨rfl, rfl, Nat.le_refl _⟩ ?_ ?_ ?_
  · rintro i acc S' ⟨rfl, _⟩
    exact h1
  · rintro i d acc S' hd ⟨rfl, rfl, hal⟩ J K hJ hK
    rw [List.getElem?_map] at hd
    cases e : keys[i]? with
    | none => rw [e] at hd; cases hd
    | some y =>
      rw [e] at hd
      cases hd
      have hi := (List.getElem?_eq_some_iff.mp e).1
      have hin := in_kn (x := y) h2
      have htk : keys.take (i + 1) = keys.take i ++ [y] := by rw [List.take_succ, e]; rfl
      refine ⟨_, rfl, ?_⟩
      try walk_at "ev1"
      cases hb : decide (y ∈ ks) with
      | false =>
        rw [lcQ_f]
        refine hK _ ⟨rfl, ?_, by omega⟩
        rw [htk, List.filter_append]
        simp [hb]
      | true =>
        rw [lcQ_t]
        try walk_at "ev1"
        refine hJ _ _ (by omega) ⟨rfl, ?_, by simp at hal ⊢; omega⟩
        rw [htk, List.filter_append]
        simp [hb]
  · rintro acc S' ⟨rfl, rfl, _⟩
    rw [List.length_map, List.take_length]
    exact hQ
theorem waits_sp (hp : HasEnding tbl) {d : D} {kn : Nat} {sps : List Spot} {ks : List Str} (h1 : SpotsAt S d sps) (hl : ∀ sp ∈ sps, sp.2.2.length ≤ 100000) (h2 : dicAt S kn = some (knD ks)) :
    Wx NoX (callN sub tbl (k + 1) 36 [d, .ref kn] S) fun d S' => d = .bl (waits ks sps) ∧ Ext S S' := by
  refine Wp.gen fun Q hQ => ?_
  have sz : sizeLine = 16777216 := rfl
  obtain ⟨r, ds, rfl, hr, A⟩ := h1
  refine wp_call hp.waits rfl ?_
  unfold b__law_waits
  rw [wp_cons]
  try walk_at "ev1"
  refine wp_fR (ds := ds) (fun i ρ S' => ∃ x2 x3 x4 x5, ρ = [some (.ref r), some (.ref kn), x2, x3, x4, x5] ∧ Ext S S' ∧ (sps.take i).find? (isWait ks) = none) ?_ ?_ ?_ ?_
  · exact ⟨_, _, _, _, rfl, Ext.refl _, rfl⟩
  · rintro i ρ S' ⟨_, _, _, _, _, X, _⟩
    exact X.lst hr
  · rintro i d ρ S' hd ⟨x2, x3, x4, x5, rfl, X, hf⟩ J hJ
    obtain ⟨sp, e, kr, rfl, hkr⟩ := A.get hd
    obtain ⟨pl, must, keys⟩ := sp
    have hkl := hl _ (List.mem_of_getElem? e)
    simp only at hkr hkl
    have hk' := X.lst hkr
    have hn' := X.dic h2
    refine ⟨_, rfl, ?_⟩
    rw [wp_cons]
    try walk_at "ev1"
    refine andQ_by (fun h => ?_) (fun h => ?_)
    · subst h
      try walk_at "ev1"
      refine comp_known hk' hn' hkl ?_
      have hnew : lstAt (S' ++ [.lst ((keys.filter fun x => decide (x ∈ ks)).map .str)]) S'.length = some ((keys.filter fun x => decide (x ∈ ks)).map .str) := lstAt_new
      have hw : isWait ks (pl, true, keys) = ((((keys.filter fun x => decide (x ∈ ks)).map D.str).length : Int) == 0) := by
        unfold isWait
        rw [List.length_map]
        cases hany : keys.any fun x => decide (x ∈ ks) with
        | true =>
          obtain ⟨y, hy, hy2⟩ := List.any_eq_true.mp hany
          have : 0 < (keys.filter fun x => decide (x ∈ ks)).length := List.length_pos_of_mem (List.mem_filter.mpr ⟨hy, hy2⟩)
          symm
          show _ = false
          exact beq_eq_false_iff_ne.mpr (by omega)
        | false =>
          have : keys.filter (fun x => decide (x ∈ ks)) = [] := by
            rw [List.filter_eq_nil_iff]
            intro y hy hy2
            have h9 : keys.any (fun x => decide (x ∈ ks)) = true := List.any_eq_true.mpr ⟨y, hy, hy2⟩
            rw [hany] at h9
            cases h9
          rw [this]
          rfl
      have X' : Ext S (S' ++ [.lst ((keys.filter fun x => decide (x ∈ ks)).map .str)]) := X.app1 _
      try walk_at "ev1"
      refine ifQ_by (fun h => ?_) (fun h => ?_)
      · have := find_snoc (p := isWait ks) e hf (hw.trans h)
        try walk_at "ev"
        exact hQ _ _ ⟨by rw [waits_find, this]; rfl, X'⟩
      · have := find_take (p := isWait ks) e hf (hw.trans h)
        try walk_at "ev1"
        exact hJ _ _ ⟨_, _, _, _, rfl, X', this⟩
    · have hw : isWait ks (pl, must, keys) = false := by unfold isWait; rw [h]; rfl
      have := find_take (p := isWait ks) e hf hw
      try walk_at "ev1"
      exact hJ _ _ ⟨_, _, _, _, rfl, X, this⟩
  · rintro ρ S' ⟨x2, x3, x4, x5, rfl, X, hf⟩
    rw [A.1, List.take_length] at hf
    try walk_at "ev"
    exact hQ _ _ ⟨by rw [waits_find, hf]; rfl, X⟩
theorem ending_sp (hp : HasEnding tbl) {wn : Nat} {rows : List (Str × List Spot)} (hR : RowsU S wn rows) (hrl : rows.length ≤ 6) (hl : ∀ r ∈ rows, ∀ sp ∈ r.2, sp.2.2.length ≤ 100000) :
    Wx NoX (callN sub tbl (k + 2) 37 [.ref wn] S) fun d S' => ∃ r, d = .ref r ∧ Ext S S' ∧ S.length ≤ r ∧ dicU S' r = some (knD (ending rows)) := by
  refine Wp.gen fun Q hQ => ?_
  have sz : sizeLine = 16777216 := rfl
  obtain ⟨kvs, hD, A⟩ := hR
  have hwl := dicAt_lt (dicU_at hD)
  have hkl : kvs.length = rows.length := A.1
  refine wp_call hp.ending rfl ?_
  unfold b__law_ending
  rw [wp_cons]
  try walk_at "ev1"
  have hDA : dicU (S ++ [.dic []]) wn = some kvs := by rw [dicU_app hwl]; exact hD
  have hlen := dicAt_len (dicU_at hDA)
  have hnol := dicAt_lst (dicU_at hDA)
  rw [seqQ_nx, wp_cons]
  try walk_at "ev1"
  refine ⟨⟨by omega, by omega⟩, ?_⟩
  refine wp_fF (fun i ρ S' => ∃ x2 x3 x4, ρ = [some (.ref wn), some (.ref S.length), x2, x3, x4] ∧ Ext S S' ∧ dicU S' S.length = some (knD (turns rows i))) ?_ ?_ ?_
  · exact ⟨_, _, _, rfl, Ext.app _ _, dicU_newE rfl⟩
  · rintro i d ρ S' hd ⟨x2, x3, x4, rfl, X, hK⟩ J hJ
    have hDS := X.dicU hD
    refine ⟨_, rfl, ?_⟩
    clear hlen hnol hDA
    rw [wp_cons]
    try walk_at "ev1"
    refine ⟨_, dicU_get.mp hDS, kvs.map fun kv => .tup [kD kv.1, kv.2], rfl, ?_⟩
    refine wp_fK hDS (fun j ρ Sl => ∃ x2 x3 x4, ρ = [some (.ref wn), some (.ref S.length), x2, x3, x4] ∧ Ext (S.set wn (.lk (.dic kvs))) Sl ∧ dicU Sl S.length = some (knD (sweep (rows.take j) (turns rows i)))) ?_ ?_ ?_
    · exact ⟨_, _, _, rfl, X.set2 wn _ hwl, by rw [dicU_set_ne (by omega)]; exact hK⟩
    · rintro j d ρ Sl hd ⟨x2, x3, x4, rfl, XL, hKl⟩ J2 hJ2
      rw [List.getElem?_map] at hd
      cases e : kvs[j]? with
      | none => rw [e] at hd; cases hd
      | some kv =>
        rw [e] at hd
        cases hd
        obtain ⟨r, er, h1, h2⟩ := A.get e
        obtain ⟨x, sps⟩ := r
        obtain ⟨key, vd⟩ := kv
        simp only at h1 h2
        subst h1
        have hst := sweep_take er (turns rows i)
        have hpart := Nat.le_trans (Nat.le_trans (sweep_part rows j (turns rows i)) (turns_le rows (i + 1))) hrl
        generalize sweep (rows.take j) (turns rows i) = ks at *
        have hS2 : SpotsAt Sl vd sps := (h2.setN (n := 0) (S' := S) (b := wn) (by rw [dicU_at hD]; exact fun z => by cases z) _).ext XL
        have hll := dicAt_lt (dicU_at hKl)
        have hknl : (knD ks).length ≤ 6 := by unfold knD; rw [List.length_map]; exact hpart
        refine ⟨_, rfl, ?_⟩
        rw [wp_cons]
        try walk_at "ev1"
        refine (waits_sp hp (k := k) hS2 (hl _ (List.mem_of_getElem? er)) (dicU_at hKl)).mono ?_
        rintro _ S3 ⟨rfl, X3⟩
        have hK3 := X3.dicU hKl
        have hlt3 := dicAt_lt (dicU_at hK3)
        have hL := XL.trans X3
        cases hw : waits ks sps with
        | true =>
          have hsw : sw ks (x, sps) = ks := by unfold sw; rw [hw]; rfl
          try walk_at "ev1"
          exact hJ2 _ _ ⟨_, _, _, rfl, hL, by rw [hst, hsw]; exact hK3⟩
        | false =>
          have hsw : sw ks (x, sps) = addK ks x := by unfold sw; rw [hw]; rfl
          try walk_at "ev1"
          rw [wp_cons]
          try walk_at "ev1"
          refine ⟨_, setd_str.mpr ⟨_, hK3, by omega, rfl⟩, ?_⟩
          rw [putD_kn]
          refine hJ2 _ _ ⟨_, _, _, rfl, hL.set (by simp) _, ?_⟩
          rw [dicU_set hlt3, hst, hsw]
    · rintro ρ Sl ⟨x2, x3, x4, rfl, XL, hKl⟩
      rw [List.length_map, hkl, List.take_length] at hKl
      obtain ⟨u1, u2⟩ := unlock hD XL
      rw [u1, seqQ_nil, forQ_nx]
      refine hJ _ _ ⟨_, _, _, rfl, u2, ?_⟩
      rw [dicU_set_ne (by omega)]
      exact hKl
  · rintro ρ S' ⟨x2, x3, x4, rfl, X, hK⟩
    rw [List.length_map, List.length_range] at hK
    try walk_at "ev"
    exact hQ _ _ ⟨_, rfl, X, Nat.le_refl _, hK⟩
end

end GA
namespace GA
open PySem VM
/-! ### what is come to -/
def visK (K : List Str) (cs : List Str) (keys : List Str) : List Str := keys.foldl (fun cs y => if y ∈ K then addK cs y else cs) cs
def visS (K : List Str) (cs : List Str) (sps : List Spot) : List Str := sps.foldl (fun cs sp => visK K cs sp.2.2) cs
theorem mem_addK {cs : List Str} {x y : Str} : y ∈ addK cs x ↔ y ∈ cs ∨ y = x := by
  unfold addK
  split
  · rename_i h
    exact ⟨.inl, fun z => z.elim id fun e => e ▸ h⟩
  · simp
theorem mem_visK {K : List Str} {y : Str} : ∀ (keys cs : List Str), y ∈ visK K cs keys ↔ y ∈ cs ∨ (y ∈ keys ∧ y ∈ K)
  | [], cs => by unfold visK; simp
  | x :: keys, cs => by
    show y ∈ visK K (if x ∈ K then addK cs x else cs) keys ↔ _
    rw [mem_visK keys]
    by_cases h : x ∈ K
    · rw [if_pos h, mem_addK]
      constructor
      · rintro ((a | rfl) | a)
        · exact .inl a
        · exact .inr ⟨by simp, h⟩
        · exact .inr ⟨by simp [a.1], a.2⟩
      · rintro (a | ⟨a, b⟩)
        · exact .inl (.inl a)
        · rcases List.mem_cons.mp a with rfl | a
          · exact .inl (.inr rfl)
          · exact .inr ⟨a, b⟩
    · rw [if_neg h]
      constructor
      · rintro (a | a)
        · exact .inl a
        · exact .inr ⟨by simp [a.1], a.2⟩
      · rintro (a | ⟨a, b⟩)
        · exact .inl a
        · rcases List.mem_cons.mp a with rfl | a
          · exact absurd b h
          · exact .inr ⟨a, b⟩
theorem mem_visS {K : List Str} {y : Str} : ∀ (sps : List Spot) (cs : List Str), y ∈ visS K cs sps ↔ y ∈ cs ∨ (∃ sp ∈ sps, y ∈ sp.2.2) ∧ y ∈ K
  | [], cs => by unfold visS; simp
  | sp :: sps, cs => by
    show y ∈ visS K (visK K cs sp.2.2) sps ↔ _
    rw [mem_visS sps, mem_visK]
    constructor
    · rintro ((a | a) | ⟨⟨s, h1, h2⟩, h3⟩)
      · exact .inl a
      · exact .inr ⟨⟨sp, by simp, a.1⟩, a.2⟩
      · exact .inr ⟨⟨s, by simp [h1], h2⟩, h3⟩
    · rintro (a | ⟨⟨s, h1, h2⟩, h3⟩)
      · exact .inl (.inl a)
      · rcases List.mem_cons.mp h1 with rfl | h1
        · exact .inl (.inr ⟨h2, h3⟩)
        · exact .inr ⟨⟨s, h1, h2⟩, h3⟩
theorem addK_pre (cs : List Str) (x : Str) : ∃ r, addK cs x = cs ++ r := by unfold addK; split; exact ⟨[], by simp⟩; exact ⟨[x], rfl⟩
theorem visK_pre {K : List Str} : ∀ (keys cs : List Str), ∃ r, visK K cs keys = cs ++ r
  | [], cs => ⟨[], by unfold visK; simp⟩
  | x :: keys, cs => by
    show ∃ r, visK K (if x ∈ K then addK cs x else cs) keys = cs ++ r
    by_cases h : x ∈ K
    · rw [if_pos h]
      obtain ⟨r, e⟩ := visK_pre (K := K) keys (addK cs x)
      obtain ⟨r2, e2⟩ := addK_pre cs x
      exact ⟨r2 ++ r, by rw [e, e2, List.append_assoc]⟩
    · rw [if_neg h]
      exact visK_pre keys cs
theorem visS_pre {K : List Str} : ∀ (sps : List Spot) (cs : List Str), ∃ r, visS K cs sps = cs ++ r
  | [], cs => ⟨[], by unfold visS; simp⟩
  | sp :: sps, cs => by
    obtain ⟨r, e⟩ := visS_pre (K := K) sps (visK K cs sp.2.2)
    obtain ⟨r2, e2⟩ := visK_pre (K := K) sp.2.2 cs
    exact ⟨r2 ++ r, by show visS K (visK K cs sp.2.2) sps = _; rw [e, e2, List.append_assoc]⟩
theorem visK_nd {K : List Str} : ∀ (keys cs : List Str), cs.Nodup → (visK K cs keys).Nodup
  | [], cs, h => h
  | x :: keys, cs, h => by
    show (visK K (if x ∈ K then addK cs x else cs) keys).Nodup
    refine visK_nd keys _ ?_
    split
    · exact addK_nd h
    · exact h
theorem visS_nd {K : List Str} : ∀ (sps : List Spot) (cs : List Str), cs.Nodup → (visS K cs sps).Nodup
  | [], cs, h => h
  | sp :: sps, cs, h => visS_nd sps _ (visK_nd sp.2.2 cs h)
/-- come to from these tops, through what is known -/
inductive Reach (rows : List (Str × List Spot)) (K tops : List Str) : Str → Prop
  | top {x : Str} (h : x ∈ tops) (k : x ∈ K) : Reach rows K tops x
  | step {x y : Str} {sps : List Spot} {sp : Spot} (h : Reach rows K tops x) (r : (x, sps) ∈ rows) (s : sp ∈ sps) (m : y ∈ sp.2.2) (k : y ∈ K) : Reach rows K tops y
theorem Reach.known {rows : List (Str × List Spot)} {K tops : List Str} {x : Str} (h : Reach rows K tops x) : x ∈ K := by cases h <;> assumption
structure HasUseful (tbl : List (Nat × Fd)) (f : Nat) : Prop extends HasSpots tbl, HasBuilt tbl f where
  comings : tbl.lookup 9 = some ⟨3, 11, b_comings⟩
  useful : tbl.lookup 10 = some ⟨1, 13, b_useful⟩
theorem bookRef {B : Book} : B.d = .tup [.str B.top, .tup (B.trs.map prD)] := rfl
section
variable {sub : Nat → Nat → Bool} {tbl : List (Nat × Fd)} {k f : Nat} {S : Sto}
/-- entries (key, parent, place), each parent ahead of its child -/
def Come (bs : List D) (cs : List Str) : Prop := FirstsN 2 bs cs ∧ ∀ (i : Nat) (d : D), bs[i]? = some d → ∃ x pa pl, d = .tup [x, pa, pl] ∧ (pa = .non ∨ ∃ (j : Nat) (y : Str), j < i ∧ cs[j]? = some y ∧ pa = .str y)
theorem Come.snoc {bs : List D} {cs : List Str} (h : Come bs cs) {pa pl : D} {z : Str} {j : Nat} (e : pa = .str z) (hj : cs[j]? = some z) (y : Str) : Come (bs ++ [.tup [.str y, pa, pl]]) (cs ++ [y]) := by
  refine ⟨All2.snoc h.1 ⟨[pa, pl], rfl, rfl⟩, fun i d hd => ?_⟩
  have hlen := h.1.1
  by_cases hi : i < bs.length
  · rw [List.getElem?_append_left hi] at hd
    obtain ⟨x, pa, pl, e, hp⟩ := h.2 i d hd
    refine ⟨x, pa, pl, e, hp.imp id fun ⟨j, y, h1, h2, h3⟩ => ⟨j, y, h1, ?_, h3⟩⟩
    rw [List.getElem?_append_left (by omega)]
    exact h2
  · rw [List.getElem?_append_right (by omega)] at hd
    have hi2 : i - bs.length = 0 := by
      have := (List.getElem?_eq_some_iff.mp hd).1
      simp at this
      omega
    rw [hi2] at hd
    cases hd
    have hjl := (List.getElem?_eq_some_iff.mp hj).1
    exact ⟨_, _, _, rfl, .inr ⟨j, z, by omega, by rw [List.getElem?_append_left hjl]; exact hj, e⟩⟩
/-- the keys of one place gone through -/
theorem vis_walk {F : Orc} {b r1 pa pl mu : D} {n2 n3 n4 at5 kr : Nat} {r6 : Option D} {K cs keys : List Str} {bs : List D} {Q : Fl → Sto → Prop} (hk : lstAt S kr = some (keys.map .str)) (hK : dicAt S n2 = some (knD K)) (hc : lstAt S n3 = some bs) (hs : dicU S n4 = some (knD cs)) (hF : Come bs cs) {pz : Str} {pj : Nat} (hpa : pa = .str pz) (hpj : cs[pj]? = some pz) (hKl : K.length ≤ 100) (hnd : cs.Nodup) (hsub : ∀ x ∈ cs, x ∈ K)
    (h3 : kr ≠ n3) (h4 : kr ≠ n4) (h34 : n3 ≠ n4) (h24 : n2 ≠ n4) (h23 : n2 ≠ n3)
    (hQ : ∀ r6 bs' S', FrX [n3, n4] S S' → lstAt S' n3 = some bs' → dicU S' n4 = some (knD (visK K cs keys)) → Come bs' (visK K cs keys) → Q (.nx [some b, some r1, some (.ref n2), some (.ref n3), some (.ref n4), some (.int at5), r6, some pa, some pl, some mu, some (.ref kr)]) S') :
    Wx NoX (forG (.nm 6) (fun ρ S => exCs F (.cons (.ife (.and (.cmp .inn (.var 6) (.var 2)) (.one (.cmp .notin (.var 6) (.var 4)))) (.cons (.seti (.var 4) (.var 6) (.bl true)) (.cons (.ex (.bm .append (.var 3) (.cons (.tup (.cons (.var 6) (.cons (.var 7) (.cons (.var 8) .nil)))) .nil))) .nil)) .nil) .nil) ρ S) (.dyn kr .plain) [some b, some r1, some (.ref n2), some (.ref n3), some (.ref n4), some (.int at5), r6, some pa, some pl, some mu, some (.ref kr)] S) Q := by
  subst hpa
  have sz : sizeLine = 16777216 := rfl
  have step : ∀ (i : Nat) (y : Str), keys[i]? = some y → visK K cs (keys.take (i + 1)) = if y ∈ K then addK (visK K cs (keys.take i)) y else visK K cs (keys.take i) := by
    intro i y e
    unfold visK
    rw [List.take_succ, e, List.foldl_append]
    rfl
  refine wp_fR (ds := keys.map D.str) (fun i ρ S' => ∃ r6 bs', ρ = [some b, some r1, some (.ref n2), some (.ref n3), some (.ref n4), some (.int at5), r6, some (.str pz), some pl, some mu, some (.ref kr)] ∧ FrX [n3, n4] S S' ∧ lstAt S' n3 = some bs' ∧ dicU S' n4 = some (knD (visK K cs (keys.take i))) ∧ Come bs' (visK K cs (keys.take i))) ?_ ?_ ?_ ?_
  · exact ⟨_, bs, rfl, .refl _ _, hc, hs, hF⟩
  · rintro i ρ S' ⟨_, bs', _, F1, _⟩
    exact F1.lst hk (by simp [h3, h4])
  · rintro i d ρ S' hd ⟨x6, bs', rfl, F1, hc', hs', hF'⟩ J hJ
    rw [List.getElem?_map] at hd
    cases e : keys[i]? with
    | none => rw [e] at hd; cases hd
    | some y =>
      rw [e] at hd
      cases hd
      have hst := step i y e
      have hle : (visK K cs (keys.take i)).length ≤ K.length := nodup_le _ _ (visK_nd _ _ hnd) fun x hx => by
        rcases (mem_visK _ _).mp hx with h | h
        · exact hsub x h
        · exact h.2
      have hpj' : (visK K cs (keys.take i))[pj]? = some pz := by
        obtain ⟨re, hre⟩ := visK_pre (K := K) (keys.take i) cs
        rw [hre, List.getElem?_append_left (List.getElem?_eq_some_iff.mp hpj).1]
        exact hpj
      generalize visK K cs (keys.take i) = c' at *
      have hK' : dicAt S' n2 = some (knD K) := by
        have hlt := dicAt_lt hK
        unfold dicAt at hK ⊢
        rw [F1.at_ n2 hlt (by simp [h23, h24])]
        exact hK
      have hin2 := in_kn (x := y) hK'
      have hin4 := in_kn (x := y) (dicU_at hs')
      have hlc := lstAt_lt hc'
      have hls := dicAt_lt (dicU_at hs')
      have hbl : bs'.length ≤ 100 := by rw [hF'.1.1]; omega
      have hkn : (knD c').length ≤ 100 := by unfold knD; rw [List.length_map]; omega
      refine ⟨_, rfl, ?_⟩
      by_cases hy : y ∈ K
      · by_cases hy2 : y ∈ c'
        · have hin2' : inD (.str y) (.ref n2) S' = some true := by rw [hin2, decide_eq_true hy]
          have hin4' : inD (.str y) (.ref n4) S' = some true := by rw [hin4, decide_eq_true hy2]
          have := hJ _ S' ⟨some (.str y), bs', rfl, F1, hc', by rw [hst, if_pos hy]; unfold addK; rw [if_pos hy2]; exact hs', by rw [hst, if_pos hy]; unfold addK; rw [if_pos hy2]; exact hF'⟩
          clear hin2 hin4 hJ
          rw [wp_cons]
          try walk_at "ev1"
        · have hin2' : inD (.str y) (.ref n2) S' = some true := by rw [hin2, decide_eq_true hy]
          have hin4' : inD (.str y) (.ref n4) S' = some false := by rw [hin4, decide_eq_false hy2]
          have hadd : addK c' y = c' ++ [y] := by unfold addK; rw [if_neg hy2]
          have hc5 : lstAt (S'.set n4 (.dic (knD (addK c' y)))) n3 = some bs' := by rw [lstAt_set_ne h34]; exact hc'
          have := hJ _ ((S'.set n4 (.dic (knD (addK c' y)))).set n3 (.lst (bs' ++ [.tup [.str y, .str pz, pl]]))) ⟨some (.str y), bs' ++ [.tup [.str y, .str pz, pl]], rfl, (F1.set (.inl (by simp)) _).set (.inl (by simp)) _, lstAt_set (by simpa using hlc), by rw [dicU_set_ne (Ne.symm h34), dicU_set hls, hst, if_pos hy], by rw [hst, if_pos hy, hadd]; exact hF'.snoc rfl hpj' y⟩
          rw [hadd] at this
          clear hin2 hin4 hJ
          rw [wp_cons]
          try walk_at "ev1"
          rw [wp_cons]
          try walk_at "ev1"
          refine ⟨_, ⟨by omega, rfl⟩, ?_⟩
          rw [putD_kn, seqQ_nx, wp_cons]
          try walk_at "ev1"
          omega
      · have hin2' : inD (.str y) (.ref n2) S' = some false := by rw [hin2, decide_eq_false hy]
        have := hJ _ S' ⟨some (.str y), bs', rfl, F1, hc', by rw [hst, if_neg hy]; exact hs', by rw [hst, if_neg hy]; exact hF'⟩
        clear hin2 hin4 hJ
        rw [wp_cons]
        try walk_at "ev1"
  · rintro ρ S' ⟨x6, bs', rfl, F1, hc', hs', hF'⟩
    rw [List.length_map, List.take_length] at hs' hF'
    exact hQ _ _ _ F1 hc' hs' hF'
end

end GA
namespace GA
open PySem VM
theorem visS_app {K : List Str} (a b : List Spot) (cs : List Str) : visS K cs (a ++ b) = visS K (visS K cs a) b := by unfold visS; rw [List.foldl_append]
theorem FrX.dicU {X : List Nat} {S S' : Sto} {n : Nat} {kvs : List (L2.Key × D)} (k : FrX X S S') (h : dicU S n = some kvs) (nx : n ∉ X) : dicU S' n = some kvs := by
  have hlt := dicAt_lt (dicU_at h)
  unfold VM.dicU at h ⊢
  rw [k.at_ n hlt nx]
  exact h
theorem FrX.dicA {X : List Nat} {S S' : Sto} {n : Nat} {kvs : List (L2.Key × D)} (k : FrX X S S') (h : dicAt S n = some kvs) (nx : n ∉ X) : dicAt S' n = some kvs := by
  have hlt := dicAt_lt h
  unfold dicAt at h ⊢
  rw [k.at_ n hlt nx]
  exact h
theorem All2.map_iff {ks : List Str} : FirstsN 0 (ks.map fun x => D.tup [.str x]) ks := ⟨by simp, fun i a b h1 h2 => by rw [List.getElem?_map, h2] at h1; cases h1; exact ⟨[], rfl, rfl⟩⟩
section
variable {sub : Nat → Nat → Bool} {tbl : List (Nat × Fd)} {k f : Nat} {S : Sto}
/-- a list of pairs, its firsts put into a dict -/
theorem firsts_walk {r n : Nat} {bs : List D} {ks : List Str} {S : Sto} {Q : Fl → Sto → Prop} {body : Rho → Sto → Out Fl} {tg : Tg} {ρ0 : Rho} (hr : lstAt S r = some bs) (hA : bs.length = ks.length) (hn : dicU S n = some (knD [])) (hne : r ≠ n) (hnd : ks.Nodup)
    (R : Rho → Prop) (h0 : R ρ0)
    (hb : ∀ (i : Nat) (d : D) (x : Str) (ρ : Rho) (S' : Sto) (cs : List Str), bs[i]? = some d → ks[i]? = some x → R ρ → dicU S' n = some (knD cs) → cs.length ≤ ks.length → ∀ J : Rho → Sto → Prop, (∀ ρ', R ρ' → J ρ' (S'.set n (O.dic (knD (addK cs x))))) → ∃ ρ1, bindT tg d ρ = some ρ1 ∧ Wx NoX (body ρ1 S') (forQ J Q))
    (hQ : ∀ ρ, R ρ → Q (.nx ρ) (S.set n (.dic (knD ks)))) : Wx NoX (forG tg body (.dyn r .plain) ρ0 S) Q := by
  have hlt := dicAt_lt (dicU_at hn)
  refine wp_fR (ds := bs) (fun i ρ S' => R ρ ∧ S' = S.set n (.dic (knD (ks.take i)))) ?_ ?_ ?_ ?_
  · refine ⟨h0, ?_⟩
    rw [List.take_zero]
    have h := dicU_get.mp hn
    obtain ⟨h1, h2⟩ := List.getElem?_eq_some_iff.mp h
    rw [← h2, List.set_getElem_self]
  · rintro i ρ S' ⟨_, rfl⟩
    rw [lstAt_set_ne hne]
    exact hr
  · rintro i d ρ S' hd ⟨hR, rfl⟩ J hJ
    have hi := (List.getElem?_eq_some_iff.mp hd).1
    have hik : i < ks.length := by omega
    have e : ks[i]? = some ks[i] := List.getElem?_eq_getElem hik
    have htk : ks.take (i + 1) = ks.take i ++ [ks[i]] := by rw [List.take_succ, e]; rfl
    have hnm : ks[i] ∉ ks.take i := by
      intro hm
      obtain ⟨j, hj⟩ := List.getElem?_of_mem hm
      have hjl := (List.getElem?_eq_some_iff.mp hj).1
      rw [List.length_take] at hjl
      rw [List.getElem?_take_of_lt (by omega)] at hj
      have := (List.getElem?_inj (by omega) hnd).mp (hj.trans e.symm)
      omega
    have hadd : addK (ks.take i) ks[i] = ks.take (i + 1) := by unfold addK; rw [if_neg hnm, htk]
    refine hb i d ks[i] ρ _ (ks.take i) hd e hR (dicU_set hlt) (by rw [List.length_take]; omega) J fun ρ' hR' => hJ _ _ ⟨hR', ?_⟩
    rw [List.set_set, hadd]
  · rintro ρ S' ⟨hR, rfl⟩
    rw [List.take_of_length_le (by omega)]
    exact hQ _ hR
theorem comings_sp (hp : HasUseful tbl f) {B : Book} (hB : BookOk B) {rn kn : Nat} {K : List Str} (hR : RowsAt S rn (rowsOf B.trs)) (hKn : dicAt S kn = some (knD K)) (hKsub : ∀ x ∈ K, x ∈ (rowsOf B.trs).map (·.1)) (hKnd : K.Nodup) (hkeys : (keysOf B.trs (false, B.top)).Nodup)
    (hsp : ∀ r ∈ rowsOf B.trs, r.2.length ≤ 100000) : Wx NoX (callN sub tbl (k + 15) 9 [B.d, .ref rn, .ref kn] S) fun d S' => ∃ r bs cs, d = .ref r ∧ Ext S S' ∧ lstAt S' r = some bs ∧ Come bs cs ∧ cs.Nodup ∧ ∀ x, x ∈ cs ↔ Reach (rowsOf B.trs) K (keysOf B.trs (false, B.top)) x := by
  refine Wp.gen fun Q hQ => ?_
  have sz : sizeLine = 16777216 := rfl
  have hle := hB.le
  have hrl : (rowsOf B.trs).length ≤ 6 := by rw [rowsOf_len]; exact hle
  have hKl : K.length ≤ 6 := by
    have := nodup_le _ _ hKnd hKsub
    rw [List.length_map] at this
    omega
  have hnd := rowsOf_nd hB
  have htop := top_keys_sp (sub := sub) (k := k) (S := S) hp.toHasSpots hB
  generalize htp : keysOf B.trs (false, B.top) = tops at *
  have htl : tops.length ≤ 6 := by rw [← htp]; unfold keysOf; rw [List.length_map]; exact Nat.le_trans (List.length_filter_le _ _) hle
  generalize hrows : rowsOf B.trs = rows at *
  refine wp_call hp.comings rfl ?_
  unfold b_comings
  rw [bookRef] at *
  rw [wp_cons]
  try walk_at "ev1"
  refine htop.mono ?_
  rintro _ S1 ⟨tr, rfl, X1, hT1⟩
  have hK1 := X1.dic hKn
  try walk_at "ev1"
  refine wp_lR (ds := tops.map D.str) (fun i acc S' => S' = S1 ∧ acc = ((tops.take i).filter fun x => decide (x ∈ K)).map (fun x => D.tup [.str x, .non, .non]) ∧ acc.length ≤ i) ⟨rfl, rfl, Nat.le_refl _⟩ ?_ ?_ ?_
  · rintro i acc S' ⟨rfl, _⟩
    exact hT1
  · rintro i d acc S' hd ⟨rfl, rfl, hal⟩ J K' hJ hK'
    rw [List.getElem?_map] at hd
    cases e : tops[i]? with
    | none => rw [e] at hd; cases hd
    | some y =>
      rw [e] at hd
      cases hd
      have hi := (List.getElem?_eq_some_iff.mp e).1
      have hin := in_kn (x := y) hK1
      have htk : tops.take (i + 1) = tops.take i ++ [y] := by rw [List.take_succ, e]; rfl
      refine ⟨_, rfl, ?_⟩
      try walk_at "ev1"
      cases hb : decide (y ∈ K) with
      | false =>
        rw [lcQ_f]
        refine hK' _ ⟨rfl, ?_, by omega⟩
        rw [htk, List.filter_append]
        simp [hb]
      | true =>
        rw [lcQ_t]
        try walk_at "ev1"
        refine hJ _ _ (by omega) ⟨rfl, ?_, by simp at hal ⊢; omega⟩
        rw [htk, List.filter_append]
        simp [hb]
  rintro acc S' ⟨rfl, rfl, _⟩
  rw [List.length_map, List.take_length]
  -- the tops that end
  have hcs0 : (tops.filter fun x => decide (x ∈ K)).Nodup := hkeys.filter _
  have hcm : ∀ x, x ∈ (tops.filter fun x => decide (x ∈ K)) ↔ x ∈ tops ∧ x ∈ K := fun x => by simp
  have hF0 : Come ((tops.filter fun x => decide (x ∈ K)).map (fun x => D.tup [.str x, .non, .non])) (tops.filter fun x => decide (x ∈ K)) :=
    ⟨⟨by simp, fun i a b h1 h2 => by rw [List.getElem?_map, h2] at h1; cases h1; exact ⟨[.non, .non], rfl, rfl⟩⟩, fun i d hd => by
      rw [List.getElem?_map] at hd
      cases e : (tops.filter fun x => decide (x ∈ K))[i]? with
      | none => rw [e] at hd; cases hd
      | some x => rw [e] at hd; cases hd; exact ⟨_, _, _, rfl, .inl rfl⟩⟩
  have hc0l : (tops.filter fun x => decide (x ∈ K)).length ≤ 6 := Nat.le_trans (List.length_filter_le _ _) htl
  generalize (tops.filter fun x => decide (x ∈ K)) = cs0 at *
  have hL2 : lstAt (S' ++ [.lst (cs0.map (fun x => D.tup [.str x, .non, .non]))]) S'.length = some (cs0.map (fun x => D.tup [.str x, .non, .non])) := lstAt_new
  have X2 : Ext S (S' ++ [.lst (cs0.map (fun x => D.tup [.str x, .non, .non]))]) := X1.app1 _
  have hl2 : S.length < (S' ++ [O.lst (cs0.map (fun x => D.tup [.str x, .non, .non]))]).length := by have := X1.len; simp; omega
  have hcr : S.length ≤ S'.length := X1.len
  generalize hcb : cs0.map (fun x => D.tup [.str x, .non, .non]) = bs0 at *
  generalize S' ++ [.lst bs0] = S2 at *
  generalize S'.length = cr at *
  clear hT1 hK1 X1
  rw [seqQ_nx, wp_cons]
  try walk_at "ev1"
  have hD3 : dicU (S2 ++ [.dic []]) S2.length = some (knD []) := dicU_newE rfl
  have hL3 : lstAt (S2 ++ [.dic []]) cr = some bs0 := by rw [lstAt_app (lstAt_lt hL2)]; exact hL2
  have hcr2 := lstAt_lt hL2
  rw [seqQ_nx, wp_cons]
  try walk_at "ev1"
  refine firsts_walk (ks := cs0) hL3 hF0.1.1 hD3 (by omega) hcs0 (fun ρ => ∃ x6 x7 x8, ρ = [some (.tup [.str B.top, .tup (B.trs.map prD)]), some (.ref rn), some (.ref kn), some (.ref cr), some (.ref S2.length), none, x6, x7, x8, none, none]) ⟨_, _, _, rfl⟩ ?_ ?_
  · rintro i d x ρ S3 cs h1 h2 ⟨x6, x7, x8, rfl⟩ hD' hcl J hJ
    have h1' : d = .tup [.str x, .non, .non] := by rw [← hcb, List.getElem?_map, h2] at h1; cases h1; rfl
    subst h1'
    have hkl : (knD cs).length ≤ 6 := by unfold knD; rw [List.length_map]; omega
    refine ⟨_, rfl, ?_⟩
    rw [wp_cons]
    try walk_at "ev1"
    refine ⟨_, ⟨by omega, rfl⟩, ?_⟩
    rw [putD_kn]
    exact hJ _ ⟨_, _, _, rfl⟩
  rintro ρ ⟨x6, x7, x8, rfl⟩
  have hlS : S2.length < (S2 ++ [O.dic []]).length := by simp
  have hD4 : dicU ((S2 ++ [O.dic []]).set S2.length (O.dic (knD cs0))) S2.length = some (knD cs0) := dicU_set hlS
  have hL4 : lstAt ((S2 ++ [O.dic []]).set S2.length (O.dic (knD cs0))) cr = some bs0 := by rw [lstAt_set_ne (by omega)]; exact hL3
  have X4 : Ext S ((S2 ++ [O.dic []]).set S2.length (O.dic (knD cs0))) := (X2.app1 _).set (by omega) _
  have hsr : S.length ≤ S2.length := by omega
  generalize (S2 ++ [O.dic []]).set S2.length (O.dic (knD cs0)) = S4 at *
  generalize S2.length = sr at *
  clear hD3 hL3 hL2 hlS
  rw [seqQ_nx, wp_cons]
  try walk_at "ev1"
  rw [seqQ_nx, wp_cons]
  try walk_at "ev1"
  refine wp_while (fun m ρ S' => ∃ (at_ : Nat) (x6 x7 x8 x9 x10 : Option D) (bs : List D) (cs : List Str), ρ = [some (.tup [.str B.top, .tup (B.trs.map prD)]), some (.ref rn), some (.ref kn), some (.ref cr), some (.ref sr), some (.int at_), x6, x7, x8, x9, x10] ∧ Ext S S' ∧ lstAt S' cr = some bs ∧ dicU S' sr = some (knD cs) ∧ Come bs cs ∧ cs.Nodup ∧ (∀ x ∈ cs, Reach rows K tops x) ∧ (∀ x ∈ tops, x ∈ K → x ∈ cs) ∧
    (∀ (j : Nat) (x : Str) (sps : List Spot) (sp : Spot) (y : Str), j < at_ → cs[j]? = some x → (x, sps) ∈ rows → sp ∈ sps → y ∈ sp.2.2 → y ∈ K → y ∈ cs) ∧ m = 7 - at_) 7 ?_ ?_
  · exact ⟨0, _, _, _, _, _, bs0, cs0, rfl, X4, hL4, hD4, hF0, hcs0, fun x hx => .top ((hcm x).mp hx).1 ((hcm x).mp hx).2, fun x h1 h2 => (hcm x).mpr ⟨h1, h2⟩, fun j x sps sp y h => by omega, rfl⟩
  · rintro m ρ S5 ⟨a, x6, x7, x8, x9, x10, bs, cs, rfl, X5, hL5, hD5, hF5, hn5, hr5, ht5, hc5, rfl⟩
    have hbl := hF5.1.1
    have hcl : cs.length ≤ K.length := nodup_le _ _ hn5 fun x hx => (hr5 x hx).known
    try walk_at "ev1"
    by_cases ha : a < cs.length
    · rw [if_pos (by simpa using ha)]
      have hca : cs[a]? = some cs[a] := List.getElem?_eq_getElem ha
      have hxK : cs[a] ∈ K := (hr5 _ (List.getElem_mem ha)).known
      have hxr := hr5 _ (List.getElem_mem ha)
      generalize cs[a] = x at *
      obtain ⟨ba, hba⟩ : ∃ ba, bs[a]? = some ba := ⟨bs[a], List.getElem?_eq_getElem (by omega)⟩
      obtain ⟨pds, _, rfl⟩ := hF5.1.2 a ba x hba hca
      obtain ⟨⟨x', sps⟩, hm, hxe⟩ := List.mem_map.mp (hKsub x hxK)
      have hxe : x' = x := hxe
      subst hxe
      obtain ⟨i0, hi0⟩ := List.getElem?_of_mem hm
      obtain ⟨kvs, rd, g1, g2, r, ds, rfl, g3, g4⟩ := rows_get hR hnd hi0
      have hspl := hsp _ hm
      have g1' := X5.dic g1
      have g3' := X5.lst g3
      have hrlt := lstAt_lt g3
      have hknlt := dicAt_lt hKn
      have huniq : ∀ sps', (x', sps') ∈ rows → sps' = sps := by
        intro sps' h
        obtain ⟨j, hj⟩ := List.getElem?_of_mem h
        have a1 : (rows.map (·.1))[j]? = some x' := by rw [List.getElem?_map, hj]; rfl
        have a2 : (rows.map (·.1))[i0]? = some x' := by rw [List.getElem?_map, hi0]; rfl
        have := (List.getElem?_inj (by have := (List.getElem?_eq_some_iff.mp hj).1; simpa using this) hnd).mp (a1.trans a2.symm)
        subst this
        rw [hi0] at hj
        cases hj
        rfl
      rw [wp_cons]
      try walk_at "ev1"
      rw [atI_cast, hba]
      refine ⟨_, rfl, ?_⟩
      try walk_at "ev1"
      rw [seqQ_nx, wp_cons]
      try walk_at "ev1"
      refine wp_fR (ds := ds) (fun i ρ S' => ∃ x6 x8 x9 x10 bs', ρ = [some (.tup [.str B.top, .tup (B.trs.map prD)]), some (.ref rn), some (.ref kn), some (.ref cr), some (.ref sr), some (.int a), x6, some (.str x'), x8, x9, x10] ∧ FrX [cr, sr] S5 S' ∧ lstAt S' cr = some bs' ∧ dicU S' sr = some (knD (visS K cs (sps.take i))) ∧ Come bs' (visS K cs (sps.take i))) ?_ ?_ ?_ ?_
      · exact ⟨_, _, _, _, bs, rfl, .refl _ _, hL5, hD5, hF5⟩
      · rintro i ρ S' ⟨_, _, _, _, bs', _, F1, _⟩
        exact F1.lst g3' (by simp; omega)
      · rintro i d ρ S' hd ⟨y6, y8, y9, y10, bs', rfl, F1, hL', hD', hF'⟩ J hJ
        obtain ⟨sp, esp, kr, rfl, hkr⟩ := g4.get hd
        obtain ⟨pl, must, keys⟩ := sp
        simp only at hkr
        have hkrl := lstAt_lt hkr
        have hkr' : lstAt S' kr = some (keys.map .str) := F1.lst (X5.lst hkr) (by simp; omega)
        have hK' : dicAt S' kn = some (knD K) := F1.dicA (X5.dic hKn) (by simp; omega)
        have htk : sps.take (i + 1) = sps.take i ++ [(pl, must, keys)] := by rw [List.take_succ, esp]; rfl
        have hst : visS K cs (sps.take (i + 1)) = visK K (visS K cs (sps.take i)) keys := by rw [htk, visS_app]; rfl
        have hnd' := visS_nd (K := K) (sps.take i) cs hn5
        have hsub' : ∀ y ∈ visS K cs (sps.take i), y ∈ K := fun y hy => ((mem_visS _ _).mp hy).elim (fun h => (hr5 y h).known) fun h => h.2
        have hpa' : (visS K cs (sps.take i))[a]? = some x' := by
          obtain ⟨re, hre⟩ := visS_pre (K := K) (sps.take i) cs
          rw [hre, List.getElem?_append_left ha]
          exact hca
        generalize visS K cs (sps.take i) = c' at *
        refine ⟨_, rfl, ?_⟩
        rw [wp_cons]
        try walk_at "ev1"
        refine vis_walk (at5 := a) hkr' hK' hL' hD' hF' rfl hpa' (by omega) hnd' hsub' (by omega) (by omega) (by omega) (by omega) (by omega) ?_
        intro r6 bs'' S'' F2 h1 h2 h3
        try walk_at "ev1"
        exact hJ _ _ ⟨_, _, _, _, bs'', rfl, F1.trans F2, h1, by rw [hst]; exact h2, by rw [hst]; exact h3⟩
      · rintro ρ S' ⟨y6, y8, y9, y10, bs', rfl, F1, hL', hD', hF'⟩
        rw [g4.1, List.take_length] at hD' hF'
        obtain ⟨re, hpre⟩ := visS_pre (K := K) sps cs
        rw [seqQ_nx, wp_cons, wp_aug]
        refine ⟨_, rfl, ?_⟩
        rw [we_int, waug_add, seqQ_nil, forQ_nx]
        refine ⟨7 - (a + 1), by omega, a + 1, _, _, _, _, _, bs', visS K cs sps, rfl, F1.toExt X5 (fun n hn => by simp at hn; omega), hL', hD', hF', visS_nd _ _ hn5, ?_, ?_, ?_, rfl⟩
        · intro y hy
          rcases (mem_visS _ _).mp hy with h | ⟨⟨sp, h1, h2⟩, h3⟩
          · exact hr5 y h
          · exact .step hxr hm h1 h2 h3
        · intro y h1 h2
          exact (mem_visS _ _).mpr (.inl (ht5 y h1 h2))
        · intro j z sps' sp y hj hz h1 h2 h3 h4
          rw [hpre, List.getElem?_append_left (by omega)] at hz
          by_cases hja : j < a
          · exact (mem_visS _ _).mpr (.inl (hc5 j z sps' sp y hja hz h1 h2 h3 h4))
          · have : j = a := by omega
            subst this
            rw [hca] at hz
            cases hz
            have := huniq _ h1
            subst this
            exact (mem_visS _ _).mpr (.inr ⟨⟨sp, h2, h3⟩, h4⟩)
    · rw [if_neg (by simpa using ha)]
      refine ?_
      have hfin : ∀ x, x ∈ cs ↔ Reach rows K tops x := by
        intro x
        refine ⟨hr5 x, fun h => ?_⟩
        induction h with
        | top h k => exact ht5 _ h k
        | step h r s m k ih =>
          obtain ⟨j, hj⟩ := List.getElem?_of_mem ih
          exact hc5 j _ _ _ _ (by have := (List.getElem?_eq_some_iff.mp hj).1; omega) hj r s m k
      try walk_at "ev"
      exact hQ _ _ ⟨_, bs, cs, rfl, X5, hL5, hF5, hn5, hfin⟩
end

end GA
namespace GA
open PySem VM
theorem spots_len {B : Book} (hB : BookOk B) : ∀ r ∈ rowsOf B.trs, r.2.length ≤ 100000 := by
  intro r hr
  unfold rowsOf at hr
  obtain ⟨p, hp, rfl⟩ := List.mem_map.mp hr
  have := (hB.tr p hp).size
  refine Nat.le_trans (List.length_filterMap_le _ _) ?_
  rw [pcs_len]
  omega
theorem keysOf_nd {B : Book} (hB : BookOk B) (q : Nme) : (keysOf B.trs q).Nodup := by
  unfold keysOf
  exact List.Sublist.nodup (List.Sublist.map _ (List.filter_sublist (l := B.trs))) hB.nd
theorem keysOf_len {B : Book} (hB : BookOk B) (q : Nme) : (keysOf B.trs q).length ≤ 6 := by
  unfold keysOf
  rw [List.length_map]
  exact Nat.le_trans (List.length_filter_le _ _) hB.le
theorem rows_keys_len {B : Book} (hB : BookOk B) : ∀ r ∈ rowsOf B.trs, ∀ sp ∈ r.2, sp.2.2.length ≤ 100000 := by
  intro r hr sp hs
  unfold rowsOf at hr
  obtain ⟨p, hp, rfl⟩ := List.mem_map.mp hr
  obtain ⟨q, _, hq⟩ := List.mem_filterMap.mp hs
  have key : ∀ nq, (keysOf B.trs nq).length ≤ 100000 := fun nq => by have := keysOf_len hB nq; omega
  unfold spotOf at hq
  split at hq
  · split at hq
    · cases hq; exact key _
    · cases hq
  · cases hq; exact key _
  · cases hq
  · cases hq
/-- the keys of a book, in its order -/
def Book.keys (B : Book) : List Str := B.trs.map (·.1)
theorem ending_nd (rows : List (Str × List Spot)) : (ending rows).Nodup := (turns_nd rows _).1
theorem ending_sub (rows : List (Str × List Spot)) : ∀ x ∈ ending rows, x ∈ rows.map (·.1) := (turns_nd rows _).2
section
variable {sub : Nat → Nat → Bool} {tbl : List (Nat × Fd)} {k f : Nat} {S : Sto}
/-- the book's keys with a test for each -/
theorem comp_keys {X0 : XQ} {F : Orc} {B : Book} {c : T} {r1 r2 r3 r4 r5 r6 r7 r8 r9 r10 r11 r12 : Option D} {p : Str → Bool} {S : Sto} {Q : D → Sto → Prop} (hB : BookOk B)
    (hc : ∀ (x : Str) (d9 : D) (Q : Bool → Sto → Prop), Q (p x) S → Wx NoX (evT F c [some B.d, r1, r2, r3, r4, r5, r6, r7, some (.str x), r9, r10, r11, some d9] S) Q)
    (hQ : Q (.ref S.length) (S ++ [.lst ((B.keys.filter p).map .str)])) :
    Wx X0 (lcG F (.var 8) (.tp [8, 12]) c [8, 12] [some B.d, r1, r2, r3, r4, r5, r6, r7, r8, r9, r10, r11, r12] (.fix (B.trs.map prD)) S) Q := by
  have sz : sizeLine = 16777216 := rfl
  have hle := hB.le
  refine wp_lF (fun i acc S' => S' = S ∧ acc = ((B.keys.take i).filter p).map .str ∧ acc.length ≤ i) ⟨rfl, rfl, Nat.le_refl _⟩ ?_ ?_
  · rintro i d acc S' hd ⟨rfl, rfl, hal⟩ J K hJ hK
    rw [List.getElem?_map] at hd
    cases e : B.trs[i]? with
    | none => rw [e] at hd; cases hd
    | some q =>
      rw [e] at hd
      cases hd
      have hi := (List.getElem?_eq_some_iff.mp e).1
      have ek : B.keys[i]? = some q.1 := by unfold Book.keys; rw [List.getElem?_map, e]; rfl
      have htk : B.keys.take (i + 1) = B.keys.take i ++ [q.1] := by rw [List.take_succ, ek]; rfl
      refine ⟨_, rfl, ?_⟩
      simp only [wipeR_cons, wipeR_nil, List.set_cons_zero, List.set_cons_succ]
      refine hc q.1 q.2.enc _ ?_
      cases hb : p q.1 with
      | false =>
        rw [lcQ_f]
        refine hK _ ⟨rfl, ?_, by omega⟩
        rw [htk, List.filter_append]
        simp [hb]
      | true =>
        rw [lcQ_t]
        try walk_at "ev1"
        refine hJ _ _ (by omega) ⟨rfl, ?_, by simp at hal ⊢; omega⟩
        rw [htk, List.filter_append]
        simp [hb]
  · rintro acc S' ⟨rfl, rfl, _⟩
    have : (B.trs.map prD).length = B.keys.length := by unfold Book.keys; simp
    rw [this, List.take_length]
    exact hQ
/-- what useful tells -/
def UsefulAt (S : Sto) (B : Book) (d : D) : Prop := ∃ b c e w bs bc cs, d = .tup [.ref b, .ref c, .ref e, .ref w] ∧ lstAt S b = some bs ∧ FirstsN 1 bs (ending (rowsOf B.trs)) ∧ lstAt S c = some bc ∧ Come bc cs ∧ cs.Nodup ∧
  (∀ x, x ∈ cs ↔ Reach (rowsOf B.trs) (ending (rowsOf B.trs)) (keysOf B.trs (false, B.top)) x) ∧ lstAt S e = some ((B.keys.filter fun x => !decide (x ∈ ending (rowsOf B.trs))).map .str) ∧
  lstAt S w = some ((B.keys.filter fun x => decide (x ∈ ending (rowsOf B.trs)) && !decide (x ∈ cs)).map .str)
theorem useful_sp (hp : HasUseful tbl f) {B : Book} (hB : BookOk B) : Wx NoX (callN sub tbl (k + 16) 10 [B.d] S) fun d S' => Ext S S' ∧ UsefulAt S' B d := by
  refine Wp.gen fun Q hQ => ?_
  have sz : sizeLine = 16777216 := rfl
  have hrl : (rowsOf B.trs).length ≤ 6 := by rw [rowsOf_len]; exact hB.le
  have hKnd := ending_nd (rowsOf B.trs)
  have hKsub := ending_sub (rowsOf B.trs)
  have hKl : (ending (rowsOf B.trs)).length ≤ 6 := Nat.le_trans (turns_le _ _) hrl
  refine wp_call hp.useful rfl ?_
  unfold b_useful
  rw [wp_cons]
  try walk_at "ev1"
  refine (all_spots_sp hp.toHasSpots (k := k + 1) hB).mono ?_
  rintro _ S1 ⟨rn, rfl, X1, hrn, hR1⟩
  rw [seqQ_nx, wp_cons]
  try walk_at "ev1"
  refine (orders_sp hp.toHasBuilt (k := k + 12) hB hR1.at (spots_len hB)).mono ?_
  rintro _ S2 ⟨bn, bs, rfl, X2, hb2, hF2⟩
  have X02 := X1.trans X2
  have hR2 := hR1.ext X2
  rw [seqQ_nx, wp_cons]
  try walk_at "ev1"
  have hD3 : dicU (S2 ++ [.dic []]) S2.length = some (knD []) := dicU_newE rfl
  have hb3 : lstAt (S2 ++ [.dic []]) bn = some bs := by rw [lstAt_app (lstAt_lt hb2)]; exact hb2
  have hbn := lstAt_lt hb2
  rw [seqQ_nx, wp_cons]
  try walk_at "ev1"
  refine firsts_walk (ks := ending (rowsOf B.trs)) hb3 hF2.1 hD3 (by omega) hKnd (fun ρ => ∃ x8 x9, ρ = [some B.d, some (.ref rn), some (.ref bn), some (.ref S2.length), none, none, none, none, x8, x9, none, none, none]) ⟨_, _, rfl⟩ ?_ ?_
  · rintro i d x ρ S3 cs h1 h2 ⟨x8, x9, rfl⟩ hD' hcl J hJ
    obtain ⟨pds, hpl, rfl⟩ := hF2.2 i d x h1 h2
    obtain ⟨pd, rfl⟩ := List.length_eq_one_iff.mp hpl
    have hkl : (knD cs).length ≤ 6 := by unfold knD; rw [List.length_map]; omega
    refine ⟨_, rfl, ?_⟩
    rw [wp_cons]
    try walk_at "ev1"
    refine ⟨_, ⟨by omega, rfl⟩, ?_⟩
    rw [putD_kn]
    exact hJ _ ⟨_, _, rfl⟩
  rintro ρ ⟨x8, x9, rfl⟩
  have X24 : Ext S2 ((S2 ++ [O.dic []]).set S2.length (O.dic (knD (ending (rowsOf B.trs))))) := (Ext.app _ _).set (Nat.le_refl _) _
  have hD4 : dicU ((S2 ++ [O.dic []]).set S2.length (O.dic (knD (ending (rowsOf B.trs))))) S2.length = some (knD (ending (rowsOf B.trs))) := dicU_set (by simp)
  generalize (S2 ++ [O.dic []]).set S2.length (O.dic (knD (ending (rowsOf B.trs)))) = S4 at *
  generalize S2.length = kn at *
  have hb4 := X24.lst hb2
  have hR4 := hR2.ext X24
  clear hD3 hb3
  rw [seqQ_nx, wp_cons]
  try walk_at "ev1"
  refine (comings_sp hp (k := k) hB hR4.at (dicU_at hD4) hKsub hKnd (keysOf_nd hB _) (spots_len hB)).mono ?_
  rintro _ S5 ⟨cn, bc, cs, rfl, X5, hc5, hF5, hcnd, hreach⟩
  have hD5 := X5.dicU hD4
  have hb5 := X5.lst hb4
  have hcl : cs.length ≤ 6 := Nat.le_trans (nodup_le _ _ hcnd fun x hx => ((hreach x).mp hx).known) hKl
  have X05 := (X02.trans X24).trans X5
  clear X24 X5 hD4 hb4 hR4 hR2 hb2
  rw [seqQ_nx, wp_cons]
  try walk_at "ev1"
  have hD6 : dicU (S5 ++ [.dic []]) S5.length = some (knD []) := dicU_newE rfl
  have hc6 : lstAt (S5 ++ [.dic []]) cn = some bc := by rw [lstAt_app (lstAt_lt hc5)]; exact hc5
  have hcn := lstAt_lt hc5
  rw [seqQ_nx, wp_cons]
  try walk_at "ev1"
  refine firsts_walk (ks := cs) hc6 hF5.1.1 hD6 (by omega) hcnd (fun ρ => ∃ y8 y9 y10 y11, ρ = [some B.d, some (.ref rn), some (.ref bn), some (.ref kn), some (.ref cn), some (.ref S5.length), none, none, y8, y9, y10, y11, none]) ⟨_, _, _, _, rfl⟩ ?_ ?_
  · rintro i d x ρ S3 cs' h1 h2 ⟨y8, y9, y10, y11, rfl⟩ hD' hcl J hJ
    obtain ⟨pds, hpl, rfl⟩ := hF5.1.2 i d x h1 h2
    obtain ⟨pa, pb, rfl⟩ : ∃ pa pb, pds = [pa, pb] := by
      match pds, hpl with
      | [a, b], _ => exact ⟨a, b, rfl⟩
    have hkl : (knD cs').length ≤ 6 := by unfold knD; rw [List.length_map]; omega
    refine ⟨_, rfl, ?_⟩
    rw [wp_cons]
    try walk_at "ev1"
    refine ⟨_, ⟨by omega, rfl⟩, ?_⟩
    rw [putD_kn]
    exact hJ _ ⟨_, _, _, _, rfl⟩
  rintro ρ ⟨y8, y9, y10, y11, rfl⟩
  have X57 : Ext S5 ((S5 ++ [O.dic []]).set S5.length (O.dic (knD cs))) := (Ext.app _ _).set (Nat.le_refl _) _
  have hD7 : dicU ((S5 ++ [O.dic []]).set S5.length (O.dic (knD cs))) S5.length = some (knD cs) := dicU_set (by simp)
  generalize (S5 ++ [O.dic []]).set S5.length (O.dic (knD cs)) = S7 at *
  generalize S5.length = sn at *
  have hb7 := X57.lst hb5
  have hc7 := X57.lst hc5
  have hK7 := dicU_at (X57.dicU hD5)
  have hs7 := dicU_at hD7
  have X07 := X05.trans X57
  clear X57 hD6 hc6 hD5 hb5 hc5 hD7
  rw [seqQ_nx, wp_cons, wp_set, we_lc, wi_seq, we_idx, we_var]
  refine ⟨_, rfl, ?_⟩
  rw [we_int, bookRef, wi_idx_tup]
  refine ⟨_, rfl, _, rfl, ?_⟩
  rw [← bookRef]
  refine comp_keys (p := fun x => !decide (x ∈ ending (rowsOf B.trs))) hB (fun x d9 Q hq => ?_) ?_
  · have hin := in_kn (x := x) hK7
    try walk_at "ev1"
  have X78 : Ext S7 (S7 ++ [.lst ((B.keys.filter fun x => !decide (x ∈ ending (rowsOf B.trs))).map .str)]) := Ext.app _ _
  have he8 : lstAt (S7 ++ [.lst ((B.keys.filter fun x => !decide (x ∈ ending (rowsOf B.trs))).map .str)]) S7.length = some ((B.keys.filter fun x => !decide (x ∈ ending (rowsOf B.trs))).map .str) := lstAt_new
  generalize S7 ++ [.lst ((B.keys.filter fun x => !decide (x ∈ ending (rowsOf B.trs))).map .str)] = S8 at *
  generalize S7.length = en at *
  have hb8 := X78.lst hb7
  have hc8 := X78.lst hc7
  have hK8 := X78.dic hK7
  have hs8 := X78.dic hs7
  have X08 := X07.trans X78
  clear X78 hb7 hc7 hK7 hs7 X07 X05 X02 X2 X1
  try walk_at "ev1"
  rw [seqQ_nx, wp_cons, wp_set, we_lc, wi_seq, we_idx, we_var]
  refine ⟨_, rfl, ?_⟩
  rw [we_int, bookRef, wi_idx_tup]
  refine ⟨_, rfl, _, rfl, ?_⟩
  rw [← bookRef]
  refine comp_keys (p := fun x => decide (x ∈ ending (rowsOf B.trs)) && !decide (x ∈ cs)) hB (fun x d9 Q hq => ?_) ?_
  · have hin1 := in_kn (x := x) hK8
    have hin2 := in_kn (x := x) hs8
    cases hb : decide (x ∈ ending (rowsOf B.trs)) with
    | false =>
      rw [hb] at hin1 hq
      try walk_at "ev1"
      exact hq
    | true =>
      rw [hb] at hin1 hq
      rw [Bool.true_and] at hq
      try walk_at "ev1"
  have X89 : Ext S8 (S8 ++ [.lst ((B.keys.filter fun x => decide (x ∈ ending (rowsOf B.trs)) && !decide (x ∈ cs)).map .str)]) := Ext.app _ _
  have hw9 : lstAt (S8 ++ [.lst ((B.keys.filter fun x => decide (x ∈ ending (rowsOf B.trs)) && !decide (x ∈ cs)).map .str)]) S8.length = some ((B.keys.filter fun x => decide (x ∈ ending (rowsOf B.trs)) && !decide (x ∈ cs)).map .str) := lstAt_new
  generalize S8 ++ [.lst ((B.keys.filter fun x => decide (x ∈ ending (rowsOf B.trs)) && !decide (x ∈ cs)).map .str)] = S9 at *
  generalize S8.length = wn at *
  have hb9 := X89.lst hb8
  have hc9 := X89.lst hc8
  have he9 := X89.lst he8
  have X09 := X08.trans X89
  have hfin := hQ _ _ ⟨X09, bn, cn, en, wn, bs, bc, cs, rfl, hb9, hF2, hc9, hF5, hcnd, hreach, he9, hw9⟩
  clear hb8 hc8 he8 X08 hK8 hs8 hQ
  rw [seqQ_nx, wp_cons]
  try walk_at "ev1"
end

end GA
namespace GA
open PySem VM
/-! ### any value that holds no dict, read -/
mutual
inductive Rd (S : Sto) : D → PyData → Prop where
  | non : Rd S .non .none
  | bl (b : Bool) : Rd S (.bl b) (.bool b)
  | int (i : Int) : Rd S (.int i) (.int i)
  | str (x : Str) : Rd S (.str x) (.str x)
  | tup {ds : List D} {ps : List PyData} (h : RdL S ds ps) : Rd S (.tup ds) (.tuple ps)
  | lst {k : Nat} {ds : List D} {ps : List PyData} (e : lstAt S k = some ds) (h : RdL S ds ps) : Rd S (.ref k) (.list ps)
inductive RdL (S : Sto) : List D → List PyData → Prop where
  | nil : RdL S [] []
  | cons {d : D} {p : PyData} {ds : List D} {ps : List PyData} (h : Rd S d p) (t : RdL S ds ps) : RdL S (d :: ds) (p :: ps)
end
mutual
def pdep : PyData → Nat
  | .list ps => 1 + pdepL ps
  | .tuple ps => 1 + pdepL ps
  | .none => 0
  | .bool _ => 0
  | .int _ => 0
  | .str _ => 0
  | .dict _ => 0
def pdepL : List PyData → Nat
  | [] => 0
  | p :: ps => max (pdep p) (pdepL ps)
end
mutual
theorem Rd.ext {S S' : Sto} (X : Ext S S') : ∀ {d : D} {p : PyData}, Rd S d p → Rd S' d p
  | _, _, .non => .non
  | _, _, .bl b => .bl b
  | _, _, .int i => .int i
  | _, _, .str x => .str x
  | _, _, .tup h => .tup (RdL.ext X h)
  | _, _, .lst e h => .lst (X.lst e) (RdL.ext X h)
theorem RdL.ext {S S' : Sto} (X : Ext S S') : ∀ {ds : List D} {ps : List PyData}, RdL S ds ps → RdL S' ds ps
  | _, _, .nil => .nil
  | _, _, .cons h t => .cons (Rd.ext X h) (RdL.ext X t)
end
mutual
theorem Rd.toP {S : Sto} : ∀ {d : D} {p : PyData}, Rd S d p → ∀ n, pdep p ≤ n → VM.toP S n d = some p
  | _, _, .non, n, _ => by cases n <;> rfl
  | _, _, .bl b, n, _ => by cases n <;> rfl
  | _, _, .int i, n, _ => by cases n <;> rfl
  | _, _, .str x, n, _ => by cases n <;> rfl
  | _, _, @Rd.tup _ ds ps h, n, hn => by
    rw [pdep] at hn
    obtain ⟨m, rfl⟩ : ∃ m, n = m + 1 := ⟨n - 1, by omega⟩
    have := RdL.toP h m (by omega)
    show (mapO (VM.toP S m) ds).map PyData.tuple = _
    rw [this]
    rfl
  | _, _, @Rd.lst _ k ds ps e h, n, hn => by
    rw [pdep] at hn
    obtain ⟨m, rfl⟩ : ∃ m, n = m + 1 := ⟨n - 1, by omega⟩
    have := RdL.toP h m (by omega)
    show (match S[k]? with | some (.lst ds) => (mapO (VM.toP S m) ds).map PyData.list | _ => none) = _
    rw [lstAt_get.mp e]
    show (mapO (VM.toP S m) ds).map PyData.list = _
    rw [this]
    rfl
theorem RdL.toP {S : Sto} : ∀ {ds : List D} {ps : List PyData}, RdL S ds ps → ∀ n, pdepL ps ≤ n → mapO (VM.toP S n) ds = some ps
  | _, _, .nil, n, _ => rfl
  | _, _, @RdL.cons _ d p ds ps h t, n, hn => by
    rw [pdepL] at hn
    show (match VM.toP S n d, mapO (VM.toP S n) ds with | some p, some ps => some (p :: ps) | _, _ => none) = _
    rw [Rd.toP h n (by omega), RdL.toP t n (by omega)]
end
mutual
theorem Rd.plain {S : Sto} : ∀ {d : D} {p : PyData}, Rd S d p → p.plain = true
  | _, _, .non => rfl
  | _, _, .bl b => rfl
  | _, _, .int i => rfl
  | _, _, .str x => rfl
  | _, _, .tup h => by rw [PyData.plain]; exact RdL.plain h
  | _, _, .lst e h => by rw [PyData.plain]; exact RdL.plain h
theorem RdL.plain {S : Sto} : ∀ {ds : List D} {ps : List PyData}, RdL S ds ps → PyData.plainAll ps = true
  | _, _, .nil => rfl
  | _, _, .cons h t => by rw [PyData.plainAll, Rd.plain h, RdL.plain t]; rfl
end
theorem RdL.len {S : Sto} : ∀ {ds : List D} {ps : List PyData}, RdL S ds ps → ds.length = ps.length
  | _, _, .nil => rfl
  | _, _, .cons h t => by rw [List.length_cons, List.length_cons, RdL.len t]
theorem RdL.get {S : Sto} : ∀ {ds : List D} {ps : List PyData}, RdL S ds ps → ∀ {i : Nat} {p : PyData}, ps[i]? = some p → ∃ d, ds[i]? = some d ∧ Rd S d p
  | _, _, .nil, i, p, e => by simp at e
  | _, _, .cons h t, 0, p, e => by
    simp at e
    subst e
    exact ⟨_, rfl, h⟩
  | _, _, .cons h t, i + 1, p, e => by
    obtain ⟨d, e1, r⟩ := RdL.get t (i := i) (by simpa using e)
    exact ⟨d, by simpa using e1, r⟩
theorem RdL.getD {S : Sto} {ds : List D} {ps : List PyData} (h : RdL S ds ps) {i : Nat} {d : D} (e : ds[i]? = some d) : ∃ p, ps[i]? = some p ∧ Rd S d p := by
  have hi := (List.getElem?_eq_some_iff.mp e).1
  have hl := h.len
  have hj : i < ps.length := by omega
  obtain ⟨d', e1, r⟩ := h.get (List.getElem?_eq_getElem hj)
  rw [e] at e1
  cases e1
  exact ⟨ps[i], List.getElem?_eq_getElem hj, r⟩
theorem pdep_mem : ∀ {ps : List PyData} {i : Nat} {p : PyData}, ps[i]? = some p → pdep p ≤ pdepL ps
  | [], i, p, e => by simp at e
  | q :: ps, 0, p, e => by simp at e; subst e; rw [pdepL]; omega
  | q :: ps, i + 1, p, e => by
    have := pdep_mem (ps := ps) (i := i) (p := p) (by simpa using e)
    rw [pdepL]
    omega
theorem eqD_rd {S : Sto} {a b : D} {p q : PyData} (h1 : Rd S a p) (h2 : Rd S b q) (hp : pdep p ≤ 150) (hq : pdep q ≤ 150) : eqD a b S = some (PyData.eqv p q) := by
  unfold eqD
  rw [h1.toP 150 hp, h2.toP 150 hq]
/-- a kind -/
def knd : PyData → Kd
  | .none => .non | .bool _ => .bool | .int _ => .int | .str _ => .str | .tuple _ => .tuple | .list _ => .list | .dict _ => .non
theorem isi_rd {S : Sto} {d : D} {p : PyData} (h : Rd S d p) (t : Ty) : isiD t d S = some (isKd t (knd p)) := by
  unfold isiD
  cases h with
  | lst e h =>
    unfold kdOf
    simp only [lstAt_get.mp e]
    rfl
  | _ => rfl
theorem in_keys {S : Sto} {a : D} {p : PyData} {r : Nat} {ks : List Str} (h : Rd S a p) (hp : pdep p ≤ 150) (hk : lstAt S r = some (ks.map .str)) : inD a (.ref r) S = some (ks.any fun x => PyData.eqv (.str x) p) := by
  rw [in_lst hk, h.toP 150 hp]
  have : mapO (VM.toP S 149) (ks.map D.str) = some (ks.map PyData.str) := by
    clear hk h
    induction ks with
    | nil => rfl
    | cons x ks ih =>
      rw [List.map_cons, List.map_cons]
      show (match VM.toP S 149 (.str x), mapO (VM.toP S 149) (ks.map D.str) with | some p, some ps => some (p :: ps) | _, _ => none) = _
      rw [ih]
      rfl
  rw [this]
  show some ((ks.map PyData.str).any fun b => PyData.eqv b p) = _
  rw [List.any_map]
  rfl
/-! ### numbers, keys at a step -/
def isNum : PyData → Bool
  | .int _ => true
  | _ => false
def numsP : PyData → Bool
  | .tuple ps => ps.all isNum
  | _ => false
def firstP : PyData → PyData
  | .tuple (p :: _) => p
  | _ => .none
def plP (p : List Nat) : PyData := .tuple (p.map fun (n : Nat) => .int n)
theorem rd_pl {S : Sto} (p : List Nat) : Rd S (plD p) (plP p) := by
  refine .tup ?_
  induction p with
  | nil => exact .nil
  | cons n p ih => exact .cons (.int n) ih
theorem pdep_pl (p : List Nat) : pdep (plP p) ≤ 1 := by
  unfold plP
  rw [pdep]
  have : pdepL (p.map fun (n : Nat) => PyData.int n) = 0 := by
    induction p with
    | nil => rfl
    | cons n p ih => rw [List.map_cons, pdepL, ih, pdep]; rfl
  omega
/-- the keys at a place -/
def atPl (sps : List Spot) (p : PyData) : List Str := match sps.find? fun sp => PyData.eqv (plP sp.1) p with
  | some sp => sp.2.2
  | none => []

section
variable {sub : Nat → Nat → Bool} {tbl : List (Nat × Fd)} {k : Nat} {S : Sto}
/-- a test goes through a tuple's items: are_numbers, _law_place -/
theorem nums_sp {g : Nat} (hf : tbl.lookup g = some ⟨1, 2, b_are_numbers⟩) {d : D} {p : PyData} (h : Rd S d p) : Wx NoX (callN sub tbl (k + 1) g [d] S) fun d' S' => d' = .bl (numsP p) ∧ S' = S := by
  refine Wp.gen fun Q hQ => ?_
  refine wp_call hf rfl ?_
  unfold b_are_numbers
  have hi := isi_rd h .tuple
  rw [wp_cons]
  try walk_at "ev1"
  cases h with
  | @tup ds ps h =>
    show ifQ _ _ _ _ _ false _
    rw [ifQ_f]
    try walk_at "ev1"
    rw [seqQ_nx, wp_cons]
    try walk_at "ev1"
    refine wp_fF (fun i ρ S' => ∃ x, ρ = [some (.tup ds), x] ∧ S' = S ∧ (ps.take i).all isNum = true) ⟨_, rfl, rfl, rfl⟩ ?_ ?_
    · rintro i d ρ S' hd ⟨x, rfl, rfl, ha⟩ J hJ
      obtain ⟨q, hpi, r⟩ := h.getD hd
      have htk : ps.take (i + 1) = ps.take i ++ [q] := by rw [List.take_succ, hpi]; rfl
      have hqm : q ∈ ps := List.mem_of_getElem? hpi
      have i1 := isi_rd r .bool
      have i2 := isi_rd r .int
      refine ⟨_, rfl, ?_⟩
      rw [wp_cons]
      try walk_at "ev1"
      cases hn : isNum q with
      | true =>
        have := hJ [some (.tup ds), some d] S' ⟨_, rfl, rfl, by rw [htk, List.all_append, ha]; simp [hn]⟩
        cases q <;> first | (simp [isNum] at hn; done) | skip
        rw [show isKd .bool (knd (.int _)) = false from rfl, orQ_f]
        try walk_at "ev1"
        rw [show isKd .int (knd (.int _)) = true from rfl]
        try walk_at "ev1"
      | false =>
        have hf : numsP (.tuple ps) = false := by
          show ps.all isNum = false
          rw [List.all_eq_false]
          exact ⟨q, hqm, by simp [hn]⟩
        have := hQ (.bl false) S' ⟨by rw [hf], rfl⟩
        have hh : isKd .bool (knd q) = true ∨ isKd .int (knd q) = false := by
          cases q <;> first | exact .inl rfl | exact .inr rfl | (simp [isNum] at hn)
        rcases hh with hh | hh
        · rw [hh, orQ_t]
          try walk_at "ev"
        · refine orQ_by (fun _ => ?_) (fun _ => ?_)
          · try walk_at "ev"
          · try walk_at "ev1"
            try walk_at "ev"
    · rintro ρ S' ⟨x, rfl, rfl, ha⟩
      rw [h.len, List.take_length] at ha
      have := hQ (.bl true) S' ⟨by show _ = D.bl (ps.all isNum); rw [ha], rfl⟩
      try walk_at "ev"
  | _ =>
    have := hQ (.bl false) S ⟨rfl, rfl⟩
    show ifQ _ _ _ _ _ true _
    rw [ifQ_t]
    try walk_at "ev"
end

end GA
namespace GA
open PySem VM
structure HasPath (tbl : List (Nat × Fd)) (g : Nat) : Prop where
  nums : tbl.lookup 44 = some ⟨1, 2, b_are_numbers⟩
  keysAt : tbl.lookup 45 = some ⟨2, 5, b_keys_at⟩
  fstE : tbl.lookup g = some ⟨1, 1, b_first_of_endless⟩
section
variable {sub : Nat → Nat → Bool} {tbl : List (Nat × Fd)} {k g : Nat} {S : Sto}
theorem firstE_sp (hf : tbl.lookup g = some ⟨1, 1, b_first_of_endless⟩) {d : D} {p : PyData} (h : Rd S d p) : Wx NoX (callN sub tbl (k + 1) g [d] S) fun d' S' => Rd S d' (firstP p) ∧ S' = S := by
  refine Wp.gen fun Q hQ => ?_
  refine wp_call hf rfl ?_
  unfold b_first_of_endless
  have hi := isi_rd h .tuple
  rw [wp_cons]
  try walk_at "ev1"
  cases h with
  | @tup ds ps h =>
    rw [show isKd .tuple (knd (.tuple ps)) = true from rfl, andQ_t]
    cases h with
    | nil =>
      have := hQ .non S ⟨.non, rfl⟩
      try walk_at "ev1"
      show ifQ _ _ _ _ _ false _
      rw [ifQ_f]
      try walk_at "ev"
    | @cons d0 p0 ds ps h t =>
      have := hQ d0 S ⟨h, rfl⟩
      have hl : decide ((0 : Int) < (((d0 :: ds).length : Nat) : Int)) = true := decide_eq_true (by rw [List.length_cons]; omega)
      rw [wt_one, wt_cmp, we_bi, wa_cons, we_var]
      refine ⟨_, rfl, ?_⟩
      rw [wa_nil, wl_tup, we_int, copB_gt, hl]
      refine ⟨_, rfl, ?_⟩
      rw [ifQ_t]
      try walk_at "ev"
  | _ =>
    have := hQ .non S ⟨.non, rfl⟩
    show andQ _ _ _ _ _ false _
    rw [andQ_f]
    try walk_at "ev"
/-- the keys at a step, of the rows known -/
def stepKeys (rows : List (Str × List Spot)) (p : PyData) : List Str := match p with
  | .tuple [.str x, q] => if numsP q = true then (match rows.find? fun r => decide (r.1 = x) with
    | some r => atPl r.2 q
    | none => []) else []
  | _ => []
/-- by what a step is looked at -/
def isStep : PyData → Option (Str × PyData)
  | .tuple [.str x, q] => some (x, q)
  | _ => none
theorem rows_find {S : Sto} {n : Nat} {rows : List (Str × List Spot)} (h : RowsAt S n rows) (x : Str) : ∃ kvs, dicAt S n = some kvs ∧ (match rows.find? fun r => decide (r.1 = x) with
    | some r => ∃ d, lkD kvs (.inr x) = some d ∧ SpotsAt S d r.2
    | none => lkD kvs (.inr x) = none) := by
  obtain ⟨kvs, hd, A⟩ := h
  refine ⟨kvs, hd, ?_⟩
  have key : ∀ (kvs : List (L2.Key × D)) (rows : List (Str × List Spot)), kvs.length = rows.length → (∀ (i : Nat) (kv : L2.Key × D) (r : Str × List Spot), kvs[i]? = some kv → rows[i]? = some r → kv.1 = .inr r.1 ∧ SpotsAt S kv.2 r.2) → (match rows.find? fun r => decide (r.1 = x) with
    | some r => ∃ d, lkD kvs (.inr x) = some d ∧ SpotsAt S d r.2
    | none => lkD kvs (.inr x) = none) := by
    intro kvs
    induction kvs with
    | nil =>
      intro rows hl _
      cases rows with
      | nil => rfl
      | cons _ _ => simp at hl
    | cons kv kvs ih =>
      intro rows hl hA
      cases rows with
      | nil => simp at hl
      | cons r rows =>
        obtain ⟨h1, h2⟩ := hA 0 kv r rfl rfl
        have ih' := ih rows (by simpa using hl) fun i a b e1 e2 => hA (i + 1) a b (by simpa using e1) (by simpa using e2)
        by_cases hx : r.1 = x
        · rw [List.find?_cons_of_pos (by simpa using hx)]
          refine ⟨kv.2, ?_, h2⟩
          unfold lkD
          rw [List.find?_cons_of_pos (by rw [h1, hx]; simp)]
          rfl
        · rw [List.find?_cons_of_neg (by simpa using hx)]
          have : lkD (kv :: kvs) (.inr x) = lkD kvs (.inr x) := by
            unfold lkD
            rw [List.find?_cons_of_neg]
            rw [h1]
            simpa using hx
          rw [this]
          exact ih'
  exact key kvs rows A.1 A.2
theorem isStr_not {p : PyData} (h : isKd .str (knd p) = false) (q : PyData) (rows : List (Str × List Spot)) : stepKeys rows (.tuple [p, q]) = [] := by
  cases p <;> first | rfl | (simp [knd, isKd] at h)
theorem keys_at_sp (hp : HasPath tbl g) {rn : Nat} {rows : List (Str × List Spot)} {d : D} {p : PyData} (hR : RowsAt S rn rows) (h : Rd S d p) (hd : pdep p ≤ 100) :
    Wx NoX (callN sub tbl (k + 2) 45 [.ref rn, d] S) fun d' S' => ∃ r, d' = .ref r ∧ Ext S S' ∧ lstAt S' r = some ((stepKeys rows p).map .str) := by
  refine Wp.gen fun Q hQ => ?_
  have sz : sizeLine = 16777216 := rfl
  have empty : stepKeys rows p = [] → Q (.ref S.length) (S ++ [.lst []]) := fun he => hQ _ _ ⟨_, rfl, Ext.app _ _, by rw [he]; exact lstAt_new⟩
  have hi := isi_rd h .tuple
  refine wp_call hp.keysAt rfl ?_
  unfold b_keys_at
  rw [wp_cons]
  try walk_at "ev1"
  cases h with
  | @tup ds ps h =>
    rw [show isKd .tuple (knd (.tuple ps)) = true from rfl]
    show orQ _ _ _ _ _ false _
    rw [orQ_f]
    have two : ds.length = ps.length := h.len
    by_cases h2 : ps.length = 2
    · obtain ⟨p0, p1, rfl⟩ : ∃ p0 p1, ps = [p0, p1] := by
        match ps, h2 with
        | [a, b], _ => exact ⟨a, b, rfl⟩
      cases h with
      | @cons d0 _ ds _ h0 t =>
      cases t with
      | @cons d1 _ ds _ h1 t =>
      cases t
      have i0 := isi_rd h0 .str
      try walk_at "ev1"
      show orQ _ _ _ _ _ false _
      rw [orQ_f]
      try walk_at "ev1"
      cases hs : isKd .str (knd p0) with
      | false =>
        have he := empty (isStr_not hs p1 rows)
        try walk_at "ev"
      | true =>
        obtain ⟨x, rfl⟩ : ∃ x, p0 = .str x := by
          cases p0 <;> first | exact ⟨_, rfl⟩ | (simp [knd, isKd] at hs)
        cases h0
        obtain ⟨kvs, hD, hf⟩ := rows_find hR x
        have hin := in_dic (x := x) hD
        rw [pdep, pdepL, pdepL, pdepL] at hd
        try walk_at "ev1"
        rw [seqQ_nx, wp_cons]
        cases hfr : rows.find? fun r => decide (r.1 = x) with
        | none =>
          rw [hfr] at hf
          have he := empty (by unfold stepKeys; simp only [hfr]; split <;> rfl)
          rw [hf] at hin
          rw [show (none : Option D).isSome = false from rfl] at hin
          clear hQ empty
          try walk_at "ev1"
          try walk_at "ev"
        | some r =>
          rw [hfr] at hf
          obtain ⟨dr, hlk, rn2, ds2, rfl, hr2, A2⟩ := hf
          rw [hlk] at hin
          rw [show (some (D.ref rn2)).isSome = true from rfl] at hin
          try walk_at "ev1"
          refine (nums_sp (k := k) hp.nums h1).mono ?_
          rintro _ S1 ⟨rfl, rfl⟩
          cases hn : numsP p1 with
          | false =>
            have he := empty (by unfold stepKeys; simp only [hn]; rfl)
            clear hQ empty
            try walk_at "ev"
          | true =>
            have hst : stepKeys rows (.tuple [.str x, p1]) = atPl r.2 p1 := by unfold stepKeys; simp only [hn, hfr]; rfl
            rw [hst] at hQ
            clear empty hst
            try walk_at "ev1"
            rw [seqQ_nx, wp_cons]
            try walk_at "ev1"
            refine wp_fR (ds := ds2) (fun i ρ S' => ∃ x2 x3 x4, ρ = [some (.ref rn), some (.tup [.str x, d1]), x2, x3, x4] ∧ S' = S1 ∧ (r.2.take i).find? (fun sp => PyData.eqv (plP sp.1) p1) = none) ⟨_, _, _, rfl, rfl, rfl⟩ ?_ ?_ ?_
            · rintro i ρ S' ⟨_, _, _, _, rfl, _⟩
              exact hr2
            · rintro i d ρ S' hd' ⟨x2, x3, x4, rfl, rfl, hf⟩ J hJ
              obtain ⟨sp, esp, kr, rfl, hkr⟩ := A2.get hd'
              have heq := eqD_rd (rd_pl (S := S') sp.1) h1 (by have := pdep_pl sp.1; omega) (by omega)
              refine ⟨_, rfl, ?_⟩
              rw [wp_cons]
              try walk_at "ev1"
              refine ifQ_by (fun hc => ?_) (fun hc => ?_)
              · have hfnd := find_snoc (p := fun sp : Spot => PyData.eqv (plP sp.1) p1) esp hf hc
                have := hQ (.ref kr) S' ⟨_, rfl, Ext.refl _, by unfold atPl; rw [hfnd]; exact hkr⟩
                clear hQ
                try walk_at "ev"
              · have := find_take (p := fun sp : Spot => PyData.eqv (plP sp.1) p1) esp hf hc
                try walk_at "ev1"
                exact hJ _ _ ⟨_, _, _, rfl, rfl, this⟩
            · rintro ρ S' ⟨x2, x3, x4, rfl, rfl, hf⟩
              rw [A2.1, List.take_length] at hf
              have := hQ (.ref S'.length) (S' ++ [.lst []]) ⟨_, rfl, Ext.app _ _, by unfold atPl; rw [hf]; exact lstAt_new⟩
              clear hQ
              try walk_at "ev"
    · have he := empty (by
        match ps, h2 with
        | [], _ => rfl
        | [a], _ => cases a <;> rfl
        | a :: b :: c :: r, _ => cases a <;> rfl
        | [a, b], h => exact absurd rfl h)
      have hc : ((((ps.length : Nat) : Int) == 2) : Bool) = false := beq_eq_false_iff_ne.mpr (by omega)
      clear hQ empty
      try walk_at "ev1"
      try walk_at "ev"
  | _ =>
    have he := empty rfl
    show orQ _ _ _ _ _ true _
    rw [orQ_t, ifQ_t]
    try walk_at "ev"
end

end GA
namespace GA
open PySem VM
theorem wp_fE {tg : Tg} {b : Rho → Sto → Out Fl} {Q : Fl → Sto → Prop} {n : Nat} {ds : List D} {ρ : Rho} {S : Sto} (I : Nat → Rho → Sto → Prop) (h0 : I 0 ρ S)
    (hl : ∀ i ρ S, I i ρ S → lstAt S n = some ds)
    (hs : ∀ i d ρ S, ds[i]? = some d → I i ρ S → ∀ J : Rho → Sto → Prop, (∀ ρ S, I (i + 1) ρ S → J ρ S) → ∃ ρ1, bindT tg (.tup [.int (i : Nat), d]) ρ = some ρ1 ∧ Wx NoX (b ρ1 S) (forQ J Q))
    (hd : ∀ ρ S, I ds.length ρ S → Q (.nx ρ) S) : Wx NoX (forG tg b (.dyn n .enum) ρ S) Q := by
  refine wp_forR (ds := ds) (es := enumL 0 ds) I (fun i ρ S h => ?_) h0 (fun i ρ S h => lstAt_get.mp (hl i ρ S h)) (fun i d ρ S e h => ?_) (fun ρ S h => hd ρ S (by rw [enumL_len] at h; exact h))
  · show some _ = some _
    rw [enumL_get, Nat.zero_add]
  · rw [enumL_get, Nat.zero_add] at e
    cases e1 : ds[i]? with
    | none => rw [e1] at e; cases e
    | some d' =>
      rw [e1] at e
      cases e
      exact hs i d' ρ S e1 h _ fun _ _ z => z
/-- is the step before fit for what comes after it -/
def stepOk (rows : List (Str × List Spot)) (ps : List PyData) (pl : PyData) (i : Nat) : Bool := match ps[i]? with
  | some p => (stepKeys rows p).any fun x => PyData.eqv (.str x) (match ps[i + 1]? with | some q => firstP q | none => pl)
  | none => false
def pathP (rows : List (Str × List Spot)) (p pl : PyData) : Bool := match p with
  | .list ps => (List.range ps.length).all (stepOk rows ps pl)
  | _ => false
theorem range_take (n i : Nat) (h : i ≤ n) : (List.range n).take i = List.range i := by rw [List.take_range, Nat.min_eq_left h]
theorem path_stop {rows : List (Str × List Spot)} {ps : List PyData} {pl : PyData} {i : Nat} (hi : i < ps.length) (h : stepOk rows ps pl i = false) : pathP rows (.list ps) pl = false := by
  show (List.range ps.length).all _ = false
  rw [List.all_eq_false]
  exact ⟨i, List.mem_range.mpr hi, by simp [h]⟩
section
variable {sub : Nat → Nat → Bool} {tbl : List (Nat × Fd)} {k g : Nat} {S : Sto}
theorem firstP_dep (p : PyData) : pdep (firstP p) ≤ pdep p := by
  unfold firstP
  split
  · rw [pdep, pdepL]; omega
  · rw [show pdep PyData.none = 0 by rw [pdep]]; omega
structure HasPath2 (tbl : List (Nat × Fd)) : Prop extends HasPath tbl 285 where
  path : tbl.lookup 46 = some ⟨3, 7, b_is_path⟩
theorem is_path_sp (hp : HasPath2 tbl) {rn : Nat} {rows : List (Str × List Spot)} {d dl : D} {p pl : PyData} (hR : RowsAt S rn rows) (h : Rd S d p) (hd : pdep p ≤ 50) (h2 : Rd S dl pl) (hd2 : pdep pl ≤ 50) (hlen : ∀ ps, p = .list ps → ps.length ≤ 100000) :
    Wx NoX (callN sub tbl (k + 3) 46 [.ref rn, d, dl] S) fun d' S' => d' = .bl (pathP rows p pl) ∧ Ext S S' := by
  refine Wp.gen fun Q hQ => ?_
  have sz : sizeLine = 16777216 := rfl
  have hi := isi_rd h .list
  refine wp_call hp.path rfl ?_
  unfold b_is_path
  rw [wp_cons]
  try walk_at "ev1"
  cases h with
  | @lst nk ds ps e h =>
    have hps := hlen ps rfl
    have two : ds.length = ps.length := h.len
    rw [pdep] at hd
    show ifQ _ _ _ _ _ false _
    rw [ifQ_f]
    try walk_at "ev1"
    rw [seqQ_nx, wp_cons]
    try walk_at "ev1"
    refine wp_fE (ds := ds) (fun i ρ S' => ∃ x3 x4 x5 x6, ρ = [some (.ref rn), some (.ref nk), some dl, x3, x4, x5, x6] ∧ Ext S S' ∧ (List.range i).all (stepOk rows ps pl) = true) ⟨_, _, _, _, rfl, Ext.refl _, rfl⟩ ?_ ?_ ?_
    · rintro i ρ S' ⟨_, _, _, _, _, X, _⟩
      exact X.lst e
    · rintro i d ρ S' hd' ⟨x3, x4, x5, x6, rfl, X, ha⟩ J hJ
      obtain ⟨q, hq, r⟩ := h.getD hd'
      have hil := (List.getElem?_eq_some_iff.mp hq).1
      have hqd := pdep_mem hq
      refine ⟨_, rfl, ?_⟩
      rw [wp_cons]
      try walk_at "ev1"
      refine (keys_at_sp hp.toHasPath (k := k) (hR.ext X) (r.ext X) (by omega)).mono ?_
      rintro _ S2 ⟨kr, rfl, X2, hk2⟩
      have XS := X.trans X2
      have hn2 := XS.lst e
      have hok : stepOk rows ps pl i = (stepKeys rows q).any fun x => PyData.eqv (.str x) (match ps[i + 1]? with | some q => firstP q | none => pl) := by unfold stepOk; rw [hq]
      generalize stepKeys rows q = keys at *
      have stop : (keys.any fun x => PyData.eqv (.str x) (match ps[i + 1]? with | some q => firstP q | none => pl)) = false → ∀ S3, Ext S2 S3 → Q (.bl false) S3 := fun hf S3 X3 => hQ _ _ ⟨by rw [path_stop hil (hok.trans hf)], XS.trans X3⟩
      have fin : ∀ (da : D) (pa : PyData), Rd S2 da pa → pdep pa ≤ 150 → pa = (match ps[i + 1]? with | some q => firstP q | none => pl) → Wx NoX (exCs ⟨callN sub tbl (k + 2), sub⟩ (tlN 4 (bodyOf (hdC (tlN 1 b_is_path)))) [some (.ref rn), some (.ref nk), some dl, some (.int i), some d, some (.ref kr), some da] S2) (forQ J (seqQ ⟨callN sub tbl (k + 2), sub⟩ (.cons (.ret (.bl true)) .nil) (retQ Q NoX))) := by
        intro da pa hra hda hpa
        have hin := in_keys hra hda hk2
        rw [← hpa] at stop hok
        unfold b_is_path
        simp only [tlN, hdC, bodyOf]
        rw [wp_cons]
        clear hpa
        cases hany : keys.any fun x => PyData.eqv (.str x) pa with
        | false =>
          have := stop hany S2 (Ext.refl _)
          rw [hany] at hin
          clear stop hQ hany hJ hok
          try walk_at "ev1"
          try walk_at "ev"
        | true =>
          rw [hany] at hok hin
          have := hJ [some (.ref rn), some (.ref nk), some dl, some (.int i), some d, some (.ref kr), some da] S2 ⟨_, _, _, _, rfl, XS, by rw [List.range_succ, List.all_append, ha]; simp [hok]⟩
          clear stop hQ hJ hany hok
          try walk_at "ev1"
      unfold b_is_path at fin
      simp only [tlN, hdC, bodyOf] at fin
      rw [seqQ_nx, wp_cons]
      try walk_at "ev1"
      cases hke : keys with
      | nil =>
        subst hke
        have := stop rfl S2 (Ext.refl _)
        clear stop hQ hJ fin
        show ifQ _ _ _ _ _ true _
        rw [ifQ_t]
        try walk_at "ev"
      | cons y ks =>
        rw [← hke]
        have hkl : keys.length = ks.length + 1 := by rw [hke]; rfl
        have hk0 : ((((keys.map D.str).length : Nat) : Int) == 0) = false := beq_eq_false_iff_ne.mpr (by rw [List.length_map]; omega)
        clear hke hJ hQ stop hok
        rw [hk0, ifQ_f, wp_nil, seqQ_nx, wp_cons, wp_set, we_var]
        refine ⟨_, rfl, ?_⟩
        simp only [List.set_cons_zero, List.set_cons_succ]
        rw [seqQ_nx, wp_cons]
        by_cases hlt : i + 1 < ps.length
        · obtain ⟨q2, hq2⟩ : ∃ q2, ps[i + 1]? = some q2 := ⟨ps[i + 1], List.getElem?_eq_getElem hlt⟩
          obtain ⟨d2, hd2', r2⟩ := h.get hq2
          have hq2d := pdep_mem hq2
          have hfd := firstP_dep q2
          have fin' := fun da (hra : Rd S2 da (firstP q2)) => fin da (firstP q2) hra (by omega) (by rw [hq2])
          have hb : decide (((i : Int) + 1) < ((ps.length : Nat) : Int)) = true := decide_eq_true (by omega)
          have hat : L2.atI ds ((i : Int) + 1) = some d2 := by
            rw [show ((i : Int) + 1) = ((i + 1 : Nat) : Int) by omega, atI_cast]
            exact hd2'
          clear fin
          try walk_at "ev1"
          rw [wp_cons]
          try walk_at "ev1"
          refine (firstE_sp hp.fstE (k := k + 1) (r2.ext XS)).mono ?_
          rintro da S3 ⟨hra, rfl⟩
          have := fin' da hra
          clear fin'
          try walk_at "ev1"
          exact this
        · have hnone : ps[i + 1]? = none := List.getElem?_eq_none (by omega)
          have fin' := fin dl pl (h2.ext XS) (by omega) (by rw [hnone])
          have hb : decide (((i : Int) + 1) < ((ps.length : Nat) : Int)) = false := decide_eq_false (by omega)
          clear fin
          try walk_at "ev1"
          exact fin'
    · rintro ρ S' ⟨x3, x4, x5, x6, rfl, X, ha⟩
      rw [two] at ha
      have := hQ (.bl true) S' ⟨by show _ = D.bl ((List.range ps.length).all _); rw [ha], X⟩
      clear hQ
      try walk_at "ev"
  | _ =>
    have := hQ (.bl false) S ⟨rfl, Ext.refl _⟩
    show ifQ _ _ _ _ _ true _
    rw [ifQ_t]
    try walk_at "ev"
end

end GA
namespace GA
open PySem VM
theorem eqv_str {x y : Str} : PyData.eqv (.str x) (.str y) = (x == y) := by rw [PyData.eqv]
theorem any_str {ks : List Str} {y : Str} : (ks.any fun x => PyData.eqv (.str x) (.str y)) = decide (y ∈ ks) := by
  induction ks with
  | nil => rfl
  | cons x ks ih =>
    rw [List.any_cons, ih, eqv_str]
    by_cases h : x = y
    · subst h; simp
    · have : (x == y) = false := beq_eq_false_iff_ne.mpr h
      simp [this, Ne.symm h]
def headP (ws : List PyData) (p0 : PyData) : PyData := match ws with
  | w :: _ => firstP w
  | [] => p0
def roundP (rows : List (Str × List Spot)) (tops : List Str) (pw pr : PyData) : Bool := match pw, pr with
  | .list ws, .list (r0 :: rs) => (tops.any fun x => PyData.eqv (.str x) (headP ws (firstP r0))) && (pathP rows (.list ws) (firstP r0) && pathP rows (.list (r0 :: rs)) (firstP r0))
  | _, _ => false
/-- the rows of what ends -/
def rowsK (B : Book) : List (Str × List Spot) := (rowsOf B.trs).filter fun r => decide (r.1 ∈ ending (rowsOf B.trs))
structure HasRound (tbl : List (Nat × Fd)) (f : Nat) : Prop extends HasUseful tbl f, HasPath2 tbl where
  round : tbl.lookup 47 = some ⟨3, 8, b_is_round⟩
section
variable {sub : Nat → Nat → Bool} {tbl : List (Nat × Fd)} {k f : Nat} {S : Sto}
/-- the rows without those that don't end -/
theorem filt_walk {F : Orc} {B : Book} {dw dr : D} {en wn r4 : Nat} {kvs : List (L2.Key × D)} {rows : List (Str × List Spot)} {ends : List Str} {S : Sto} {Q : Fl → Sto → Prop} (hw : dicU S wn = some kvs) (A : All2 (fun kv r => kv.1 = .inr r.1 ∧ SpotsAt S kv.2 r.2) kvs rows) (hnd : (rows.map (·.1)).Nodup) (hrl : rows.length ≤ 6)
    (he : lstAt S en = some (ends.map .str)) (h4 : dicU S r4 = some []) (hne : r4 ≠ wn)
    (hQ : ∀ x5 x7 kvs' S', Ext (S.set r4 (.dic kvs')) S' → dicU S' r4 = some kvs' → All2 (fun kv r => kv.1 = .inr r.1 ∧ SpotsAt S' kv.2 r.2) kvs' (rows.filter fun r => !decide (r.1 ∈ ends)) → Q (.nx [some B.d, some dw, some dr, some (.ref en), some (.ref r4), x5, none, x7]) S') :
    Wx NoX (forG (.tp [5, 7]) (fun ρ S => exCs F (.cons (.ife (.cmp .notin (.var 5) (.var 3)) (.cons (.seti (.var 4) (.var 5) (.var 7)) .nil) .nil) .nil) ρ S) (itI S wn (kvs.map fun kv => .tup [kD kv.1, kv.2])) [some B.d, some dw, some dr, some (.ref en), some (.ref r4), none, none, none] S) Q := by
  have sz : sizeLine = 16777216 := rfl
  have hwl := dicAt_lt (dicU_at hw)
  have h4l := dicAt_lt (dicU_at h4)
  have hkl : kvs.length = rows.length := A.1
  refine wp_fK hw (fun i ρ Sl => ∃ x5 x7 kvs', ρ = [some B.d, some dw, some dr, some (.ref en), some (.ref r4), x5, none, x7] ∧ Sl = (S.set r4 (.dic kvs')).set wn (.lk (.dic kvs)) ∧ All2 (fun kv r => kv.1 = .inr r.1 ∧ SpotsAt S kv.2 r.2) kvs' ((rows.take i).filter fun r => !decide (r.1 ∈ ends))) ?_ ?_ ?_
  · refine ⟨_, _, [], rfl, ?_, All2.nil⟩
    congr 1
    have h := dicU_get.mp h4
    obtain ⟨h1, h2⟩ := List.getElem?_eq_some_iff.mp h
    rw [← h2, List.set_getElem_self]
  · rintro i d ρ Sl hd ⟨x5, x7, kvs', rfl, rfl, A'⟩ J hJ
    rw [List.getElem?_map] at hd
    cases e : kvs[i]? with
    | none => rw [e] at hd; cases hd
    | some kv =>
      rw [e] at hd
      cases hd
      obtain ⟨r, er, h1, h2⟩ := A.get e
      obtain ⟨x, sps⟩ := r
      obtain ⟨key, vd⟩ := kv
      simp only at h1 h2
      subst h1
      have htk : rows.take (i + 1) = rows.take i ++ [(x, sps)] := by rw [List.take_succ, er]; rfl
      have heL : lstAt ((S.set r4 (.dic kvs')).set wn (.lk (.dic kvs))) en = some (ends.map .str) := by
        have n1 : en ≠ wn := fun z => by subst z; rw [dicAt_lst (dicU_at hw)] at he; cases he
        have n2 : en ≠ r4 := fun z => by subst z; rw [dicAt_lst (dicU_at h4)] at he; cases he
        rw [lstAt_set_ne n1, lstAt_set_ne n2]
        exact he
      have h4L : dicU ((S.set r4 (.dic kvs')).set wn (.lk (.dic kvs))) r4 = some kvs' := by rw [dicU_set_ne hne, dicU_set h4l]
      have hin := in_keys (Rd.str (S := (S.set r4 (.dic kvs')).set wn (.lk (.dic kvs))) x) (by rw [pdep]; omega) heL
      rw [any_str] at hin
      have hkl' : kvs'.length ≤ 6 := by
        rw [A'.1]
        exact Nat.le_trans (List.length_filter_le _ _) (by rw [List.length_take]; omega)
      refine ⟨_, rfl, ?_⟩
      rw [wp_cons]
      show Wx NoX (exC F _ [some B.d, some dw, some dr, some (.ref en), some (.ref r4), some (.str x), none, some vd] _) _
      by_cases hx : x ∈ ends
      · rw [decide_eq_true hx] at hin
        have := hJ [some B.d, some dw, some dr, some (.ref en), some (.ref r4), some (.str x), none, some vd] _ ⟨_, _, kvs', rfl, rfl, by rw [htk, List.filter_append]; simp [hx]; exact A'⟩
        clear hJ
        try walk_at "ev1"
      · rw [decide_eq_false hx] at hin
        have hnew : putD kvs' (.inr x) vd = kvs' ++ [(.inr x, vd)] := putD_new _ fun kv hm z => by
          obtain ⟨j, hj⟩ := List.getElem?_of_mem hm
          obtain ⟨ro, hro, hk, _⟩ := A'.get hj
          rw [hk] at z
          have z := Sum.inr.inj z
          have hm2 := List.mem_of_getElem? hro
          rw [List.mem_filter] at hm2
          obtain ⟨j2, hj2⟩ := List.getElem?_of_mem hm2.1
          have hj2l := (List.getElem?_eq_some_iff.mp hj2).1
          rw [List.length_take] at hj2l
          rw [List.getElem?_take_of_lt (by omega)] at hj2
          have a1 : (rows.map (·.1))[j2]? = some x := by rw [List.getElem?_map, hj2]; exact congrArg some z
          have a2 : (rows.map (·.1))[i]? = some x := by rw [List.getElem?_map, er]; rfl
          have := (List.getElem?_inj (by simp; omega) hnd).mp (a1.trans a2.symm)
          omega
        have hset : ((S.set r4 (.dic kvs')).set wn (.lk (.dic kvs))).set r4 (.dic (kvs' ++ [(.inr x, vd)])) = (S.set r4 (.dic (kvs' ++ [(.inr x, vd)]))).set wn (.lk (.dic kvs)) := by
          rw [List.set_comm _ _ (Ne.symm hne), List.set_set]
        have := hJ [some B.d, some dw, some dr, some (.ref en), some (.ref r4), some (.str x), none, some vd] _ ⟨_, _, kvs' ++ [(.inr x, vd)], rfl, rfl, by rw [htk, List.filter_append]; simp [hx]; exact A'.snoc ⟨rfl, h2⟩⟩
        clear hJ
        try walk_at "ev1"
        rw [wp_cons]
        try walk_at "ev1"
        refine ⟨_, ⟨by omega, rfl⟩, ?_⟩
        exact this
  · rintro ρ Sl ⟨x5, x7, kvs', rfl, rfl, A'⟩
    rw [List.length_map, hkl, List.take_length] at A'
    have hu : unl (.lkd wn []) ((S.set r4 (.dic kvs')).set wn (.lk (.dic kvs))) = S.set r4 (.dic kvs') := by
      have : ((S.set r4 (.dic kvs')).set wn (.lk (.dic kvs)))[wn]? = some (.lk (.dic kvs)) := List.getElem?_set_self (by simpa using hwl)
      rw [unl_lk this, List.set_set]
      have h := dicU_get.mp hw
      have h' : (S.set r4 (.dic kvs'))[wn]? = some (.dic kvs) := by rw [List.getElem?_set_ne hne]; exact h
      obtain ⟨h1, h2⟩ := List.getElem?_eq_some_iff.mp h'
      rw [← h2, List.set_getElem_self]
    rw [hu]
    have hb : dicAt S r4 ≠ none := by rw [dicU_at h4]; exact fun z => by cases z
    exact hQ _ _ kvs' _ (Ext.refl _) (dicU_set h4l) (A'.imp fun a c z => ⟨z.1, z.2.setN (n := 0) (S' := S) hb _⟩)
theorem round_sp (hp : HasRound tbl f) {B : Book} (hB : BookOk B) {dw dr : D} {pw pr : PyData} (hw : Rd S dw pw) (hwd : pdep pw ≤ 40) (hwl : ∀ ps, pw = .list ps → ps.length ≤ 100000) (hr : Rd S dr pr) (hrd : pdep pr ≤ 40) (hrl : ∀ ps, pr = .list ps → ps.length ≤ 100000) :
    Wx NoX (callN sub tbl (k + 17) 47 [B.d, dw, dr] S) fun d' S' => d' = .bl (roundP (rowsK B) (keysOf B.trs (false, B.top)) pw pr) ∧ Ext S S' := by
  refine Wp.gen fun Q hQ => ?_
  have sz : sizeLine = 16777216 := rfl
  have i1 := isi_rd hw .list
  have i2 := isi_rd hr .list
  refine wp_call hp.round rfl ?_
  unfold b_is_round
  rw [wp_cons]
  cases hw with
  | @lst nw dsw psw ew hlw =>
    cases hr with
    | @lst nr dsr psr er hlr =>
      have i1' : isiD .list (.ref nw) S = some true := i1
      have i2' : isiD .list (.ref nr) S = some true := i2
      clear i1 i2
      cases psr with
      | nil =>
        cases hlr
        have := hQ (.bl false) S ⟨rfl, Ext.refl _⟩
        clear hQ
        try walk_at "ev1"
        show ifQ _ _ _ _ _ true _
        rw [ifQ_t]
        try walk_at "ev"
      | cons r0 rs =>
        cases hlr with
        | @cons d0 _ dsr' _ hr0 hrs =>
        have hr0d : pdep r0 ≤ 40 := by rw [pdep, pdepL] at hrd; omega
        have hlr : Rd S (.ref nr) (.list (r0 :: rs)) := .lst er (.cons hr0 hrs)
        have hlwR : Rd S (.ref nw) (.list psw) := .lst ew hlw
        have htwo : dsw.length = psw.length := hlw.len
        have hlen0 : ((((d0 :: dsr').length : Nat) : Int) == 0) = false := beq_eq_false_iff_ne.mpr (by rw [List.length_cons]; omega)
        have hps := hwl _ rfl
        have hQ' : ∀ S' b, Ext S S' → b = roundP (rowsK B) (keysOf B.trs (false, B.top)) (.list psw) (.list (r0 :: rs)) → Q (.bl b) S' := fun S' b X e => hQ _ _ ⟨by rw [e], X⟩
        clear hQ
        rw [wp_ife, wt_or, wt_not, wt_v, we_isi, we_var]
        refine ⟨_, rfl, _, i1', ?_⟩
        rw [tru_bl]
        refine ⟨_, rfl, ?_⟩
        rw [notQ_, Bool.not_true, orQ_f, wt_or, wt_not, wt_v, we_isi, we_var]
        refine ⟨_, rfl, _, i2', ?_⟩
        rw [tru_bl]
        refine ⟨_, rfl, ?_⟩
        rw [notQ_, Bool.not_true, orQ_f, wt_one, wt_cmp, we_bi, wa_cons, we_var]
        refine ⟨_, rfl, ?_⟩
        rw [wa_nil, wl_ref, er]
        simp only
        rw [we_int, copB_eq, eqD_int, hlen0]
        refine ⟨_, rfl, ?_⟩
        rw [ifQ_f, wp_nil, seqQ_nx, wp_cons]
        clear i1' i2' hlen0
        try walk_at "ev1"
        refine (useful_sp hp.toHasUseful (k := k) hB).mono ?_
        rintro du S1 ⟨X1, bn, cn, en, wn, bs, bc, cs, rfl, _, _, _, _, _, _, he1, _⟩
        try walk_at "ev1"
        rw [seqQ_nx, wp_cons]
        try walk_at "ev1"
        rw [seqQ_nx, wp_cons]
        try walk_at "ev1"
        have X2 : Ext S1 (S1 ++ [.dic []]) := Ext.app _ _
        have hd2 : dicU (S1 ++ [.dic []]) S1.length = some [] := dicU_newE rfl
        have he2 := X2.lst he1
        refine (all_spots_sp hp.toHasSpots (k := k + 2) hB).mono ?_
        rintro _ S3 ⟨rn, rfl, X3, hrn, kvs, hD3, A3⟩
        have hd3 := X3.dicU hd2
        have he3 := X3.lst he2
        have hlt := dicAt_lt (dicU_at hd2)
        refine ⟨rn, rfl, _, dicU_get.mp hD3, _, rfl, ?_⟩
        refine filt_walk hD3 A3 (rowsOf_nd hB) (by rw [rowsOf_len]; exact hB.le) he3 hd3 (by omega) ?_
        intro x5 x7 kvs' S4 X4 hd4 A4
        have XS4 : Ext S S4 := ((((X1.trans X2).trans X3).set (n := S1.length) X1.len _)).trans X4
        have hfe : ((rowsOf B.trs).filter fun r => !decide (r.1 ∈ B.keys.filter fun x => !decide (x ∈ ending (rowsOf B.trs)))) = rowsK B := by
          unfold rowsK
          refine List.filter_congr fun r hr => ?_
          have hk : r.1 ∈ B.keys := by
            unfold rowsOf at hr
            obtain ⟨p, hp, rfl⟩ := List.mem_map.mp hr
            exact List.mem_map.mpr ⟨p, hp, rfl⟩
          by_cases hx : r.1 ∈ ending (rowsOf B.trs)
          · simp [hx]
          · simp [hx, hk]
        rw [hfe] at A4
        have hR4 : RowsAt S4 S1.length (rowsK B) := ⟨kvs', dicU_at hd4, A4⟩
        have hw4 := hlwR.ext XS4
        have hr4 := hlr.ext XS4
        have ew4 := XS4.lst ew
        have er4 := XS4.lst er
        generalize S1.length = r4 at *
        clear X1 X2 X3 X4 he1 he2 he3 hd2 hd3 hD3 A3 hlt hd4 A4 hfe
        try walk_at "ev1"
        rw [seqQ_nx, wp_cons]
        try walk_at "ev1"
        refine (firstE_sp hp.fstE (k := k + 15) (hr0.ext XS4)).mono ?_
        rintro dk S5 ⟨hdk, rfl⟩
        have hfd := firstP_dep r0
        have fin : ∀ (dh : D) (ph : PyData), Rd S5 dh ph → pdep ph ≤ 100 → ph = headP psw (firstP r0) → Wx NoX (exCs ⟨callN sub tbl (k + 16), sub⟩ (tlN 7 b_is_round) [some B.d, some (.ref nw), some (.ref nr), some (.ref en), some (.ref r4), some dk, some dh, x7] S5) (retQ Q NoX) := by
          intro dh ph hrh hdh hph
          have hround : roundP (rowsK B) (keysOf B.trs (false, B.top)) (.list psw) (.list (r0 :: rs)) = (((keysOf B.trs (false, B.top)).any fun x => PyData.eqv (.str x) ph) && (pathP (rowsK B) (.list psw) (firstP r0) && pathP (rowsK B) (.list (r0 :: rs)) (firstP r0))) := by
            rw [hph]
            rfl
          rw [hround] at hQ'
          clear hround hph
          unfold b_is_round
          simp only [tlN]
          rw [wp_cons, wp_ret, we_and, we_cmp, we_var]
          refine ⟨_, rfl, ?_⟩
          try walk_at "ev1"
          refine (top_keys_sp hp.toHasSpots (k := k + 2) hB).mono ?_
          rintro _ S6 ⟨tn, rfl, X6, hT⟩
          have hin := in_keys (hrh.ext X6) (by omega) hT
          try walk_at "ev1"
          generalize ((keysOf B.trs (false, B.top)).any fun x => PyData.eqv (.str x) ph) = b0 at *
          refine andE_by (fun h => ?_) (fun h => ?_)
          · subst h
            rw [we_and]
            try walk_at "ev1"
            refine (is_path_sp hp.toHasPath2 (k := k + 13) (hR4.ext X6) (hw4.ext X6) (by omega) (hdk.ext X6) (by omega) (fun ps e => hwl ps e)).mono ?_
            rintro _ S7 ⟨rfl, X7⟩
            generalize pathP (rowsK B) (.list psw) (firstP r0) = b1 at *
            refine andE_by (fun h => ?_) (fun h => ?_)
            · subst h
              try walk_at "ev1"
              refine (is_path_sp hp.toHasPath2 (k := k + 13) ((hR4.ext X6).ext X7) ((hr4.ext X6).ext X7) (by omega) ((hdk.ext X6).ext X7) (by omega) (fun ps e => hrl ps e)).mono ?_
              rintro _ S8 ⟨rfl, X8⟩
              exact hQ' _ _ (((XS4.trans X6).trans X7).trans X8) (by simp)
            · subst h
              exact hQ' _ _ ((XS4.trans X6).trans X7) (by simp)
          · subst h
            exact hQ' _ _ (XS4.trans X6) (by simp)
        unfold b_is_round at fin
        simp only [tlN] at fin
        rw [seqQ_nx, wp_cons]
        try walk_at "ev1"
        rw [seqQ_nx, wp_cons]
        cases psw with
        | nil =>
          cases hlw
          have fin' := fin dk (firstP r0) hdk (by omega) rfl
          clear fin
          try walk_at "ev1"
          show ifQ _ _ _ _ _ false _
          rw [ifQ_f]
          try walk_at "ev1"
          exact fin'
        | cons w0 ws =>
          cases hlw with
          | @cons dw0 _ dsw' _ hw0 hws =>
          have hw0d : pdep w0 ≤ 40 := by rw [pdep, pdepL] at hwd; omega
          have hfw := firstP_dep w0
          have fin' := fun da (h : Rd S5 da (firstP w0)) => fin da (firstP w0) h (by omega) rfl
          have hlen1 : decide ((0 : Int) < (((dw0 :: dsw').length : Nat) : Int)) = true := decide_eq_true (by rw [List.length_cons]; omega)
          clear fin
          rw [wp_ife, wt_cmp, we_bi, wa_cons, we_var]
          refine ⟨_, rfl, ?_⟩
          rw [wa_nil, wl_ref, ew4]
          simp only
          rw [we_int, copB_gt, hlen1]
          refine ⟨_, rfl, ?_⟩
          rw [ifQ_t, wp_cons]
          clear hlen1
          try walk_at "ev1"
          refine (firstE_sp hp.fstE (k := k + 15) (hw0.ext XS4)).mono ?_
          rintro da S6 ⟨hra, rfl⟩
          have := fin' da hra
          clear fin'
          try walk_at "ev1"
          exact this
    | _ =>
      have i1' : isiD .list (.ref nw) S = some true := i1
      have i2' : isiD .list _ S = some false := i2
      have := hQ (.bl false) S ⟨rfl, Ext.refl _⟩
      clear hQ i1 i2
      try walk_at "ev1"
      try walk_at "ev"
  | _ =>
    have i1' : isiD .list _ S = some false := i1
    have := hQ (.bl false) S ⟨rfl, Ext.refl _⟩
    clear hQ i1
    try walk_at "ev1"
    try walk_at "ev"
end

end GA
namespace GA
open PySem VM
structure HasDraws (tbl : List (Nat × Fd)) (g : Nat) : Prop where
  draws : tbl.lookup g = some ⟨2, 6, b__law_draws⟩
section
variable {sub : Nat → Nat → Bool} {tbl : List (Nat × Fd)} {k g : Nat} {S : Sto}
theorem draws_sp (hp : HasDraws tbl g) {c : Int} {n : Nat} (hn : n ≤ 100) : Wx NoX (callN sub tbl (k + 1) g [.int c, .int n] S) fun d' S' => ∃ (r : Nat) (vs : List Nat), d' = .ref r ∧ Ext S S' ∧ S.length ≤ r ∧ lstAt S' r = some (vs.map fun (v : Nat) => D.int v) ∧ vs.length = n := by
  refine Wp.gen fun Q hQ => ?_
  have sz : sizeLine = 16777216 := rfl
  refine wp_call hp.draws rfl ?_
  unfold b__law_draws
  rw [wp_cons]
  try walk_at "ev1"
  refine ⟨by decide, ?_⟩
  rw [seqQ_nx, wp_cons]
  try walk_at "ev1"
  refine ⟨by decide, ?_⟩
  generalize (decide ((_ : Int) ≤ (_ : Int))) = great
  rw [seqQ_nx, wp_cons]
  try walk_at "ev1"
  rw [seqQ_nx, wp_cons]
  try walk_at "ev1"
  refine ⟨⟨by omega, by omega⟩, ?_⟩
  refine wp_fF (fun i ρ S' => ∃ (c : Int) (x4 x5 : Option D) (vs : List Nat), ρ = [some (.int c), some (.int n), some (.bl great), some (.ref S.length), x4, x5] ∧ Ext S S' ∧ lstAt S' S.length = some (vs.map fun (v : Nat) => D.int v) ∧ vs.length = i) ?_ ?_ ?_
  · exact ⟨_, _, _, [], rfl, Ext.app _ _, lstAt_new, rfl⟩
  · rintro i d ρ S' hd ⟨c, x4, x5, vs, rfl, X, hl, hvl⟩ J hJ
    rw [List.getElem?_map] at hd
    cases e : (List.range n)[i]? with
    | none => rw [e] at hd; cases hd
    | some j =>
      rw [e] at hd
      cases hd
      obtain ⟨hi, hj⟩ := List.getElem?_eq_some_iff.mp e
      rw [List.getElem_range] at hj
      rw [List.length_range] at hi
      subst hj
      have hlt := lstAt_lt hl
      have more : ∀ (v : Int) (c' : Int) (x5 : Option D), 0 ≤ v → J [some (.int c'), some (.int n), some (.bl great), some (.ref S.length), some (.int i), x5] (S'.set S.length (.lst ((vs.map fun (v : Nat) => D.int v) ++ [.int v]))) := by
        intro v c' x5 hv
        obtain ⟨w, rfl⟩ : ∃ w : Nat, v = w := ⟨v.toNat, by omega⟩
        refine hJ _ _ ⟨c', _, _, vs ++ [w], rfl, X.set (Nat.le_refl _) _, ?_, by simp [hvl]⟩
        rw [lstAt_set hlt, List.map_append]
        rfl
      clear hJ
      refine ⟨_, rfl, ?_⟩
      rw [wp_cons]
      try walk_at "ev1"
      refine ifQ_by ?_ ?_
      · intro hx
        clear hx
        have m0 := fun c' x5 => more (c % 1000) c' x5 (Int.emod_nonneg _ (by omega))
        rw [wp_cons]
        try walk_at "ev1"
        refine ⟨by rw [List.length_map]; omega, ?_⟩
        rw [seqQ_nx, wp_cons]
        try walk_at "ev1"
      · intro hx
        clear hx
        rw [wp_cons]
        try walk_at "ev1"
        refine ⟨.inr ?_, ?_⟩
        · omega
        have q0 : 0 ≤ (c + 17 + (i : Int) * i * 7919) * 48271 % 2147483647 := Int.emod_nonneg _ (by omega)
        have q1 : (c + 17 + (i : Int) * i * 7919) * 48271 % 2147483647 < 2147483647 := Int.emod_lt_of_pos _ (by omega)
        generalize (c + 17 + (i : Int) * i * 7919) * 48271 % 2147483647 = mx at *
        have m0 := more (mx * mx % 2147483629 / 7 % 1000) c (some (.int mx)) (Int.emod_nonneg _ (by omega))
        rw [seqQ_nx, wp_cons]
        try walk_at "ev1"
        refine ⟨.inl ⟨by omega, by omega⟩, ?_⟩
        rw [List.length_map]
        omega
  · rintro ρ S' ⟨c, x4, x5, vs, rfl, X, hl, hvl⟩
    rw [List.length_map, List.length_range] at hvl
    try walk_at "ev"
    exact hQ _ _ ⟨_, vs, rfl, X, Nat.le_refl _, hl, hvl⟩
end

end GA
namespace GA
open PySem VM
/-! ### comprehensions that leave the store as it is -/
section
variable {X0 : XQ} {F : Orc} {elt : E} {tg : Tg} {c : T} {own : List Nat} {ρ : Rho} {S : Sto} {Q : D → Sto → Prop} {α : Type}
theorem filt_snoc {α β : Type} {xs : List α} {i : Nat} {x : α} (e : xs[i]? = some x) (p : α → Bool) (f : α → β) : ((xs.take (i + 1)).filter p).map f = ((xs.take i).filter p).map f ++ (if p x = true then [f x] else []) := by
  have htk : xs.take (i + 1) = xs.take i ++ [x] := by rw [List.take_succ, e]; rfl
  rw [htk, List.filter_append, List.map_append]
  congr 1
  cases h : p x <;> simp [h]
theorem wp_lM {n : Nat} (xs : List α) (g : α → D) (p : α → Bool) (f : α → D) (hl : lstAt S n = some (xs.map g)) (hlen : xs.length ≤ 100000)
    (hs : ∀ x ∈ xs, ∃ ρ1, bindT tg (g x) (wipeR ρ own) = some ρ1 ∧ Wx NoX (evT F c ρ1 S) (fun t S' => t = p x ∧ S' = S) ∧ (p x = true → Wx NoX (evE F elt ρ1 S) fun y S' => y = f x ∧ S' = S))
    (hQ : Q (.ref S.length) (S ++ [.lst ((xs.filter p).map f)])) : Wx X0 (lcG F elt tg c own ρ (.dyn n .plain) S) Q := by
  have sz : sizeLine = 16777216 := rfl
  refine wp_lR (ds := xs.map g) (fun i acc S' => S' = S ∧ acc = ((xs.take i).filter p).map f ∧ acc.length ≤ i) ⟨rfl, rfl, Nat.le_refl _⟩ ?_ ?_ ?_
  · rintro i acc S' ⟨rfl, _⟩
    exact hl
  · rintro i d acc S' hd ⟨rfl, rfl, hal⟩ J K hJ hK
    rw [List.getElem?_map] at hd
    cases e : xs[i]? with
    | none => rw [e] at hd; cases hd
    | some x =>
      rw [e] at hd
      cases hd
      have hi := (List.getElem?_eq_some_iff.mp e).1
      obtain ⟨ρ1, e1, h1, h2⟩ := hs x (List.mem_of_getElem? e)
      refine ⟨ρ1, e1, h1.mono ?_⟩
      rintro t S2 ⟨rfl, rfl⟩
      have hsn := filt_snoc e p f
      cases hb : p x with
      | false =>
        rw [lcQ_f]
        rw [hb] at hsn
        exact hK _ ⟨rfl, by rw [hsn]; simp, by omega⟩
      | true =>
        rw [lcQ_t]
        rw [hb] at hsn
        refine (h2 hb).mono ?_
        rintro y S3 ⟨rfl, rfl⟩
        exact hJ _ _ (by omega) ⟨rfl, by rw [hsn]; simp, by rw [List.length_append, List.length_singleton]; omega⟩
  · rintro acc S' ⟨rfl, rfl, _⟩
    rw [List.length_map, List.take_length]
    exact hQ
theorem wp_lMF (xs : List α) (g : α → D) (p : α → Bool) (f : α → D) (hlen : xs.length ≤ 100000)
    (hs : ∀ x ∈ xs, ∃ ρ1, bindT tg (g x) (wipeR ρ own) = some ρ1 ∧ Wx NoX (evT F c ρ1 S) (fun t S' => t = p x ∧ S' = S) ∧ (p x = true → Wx NoX (evE F elt ρ1 S) fun y S' => y = f x ∧ S' = S))
    (hQ : Q (.ref S.length) (S ++ [.lst ((xs.filter p).map f)])) : Wx X0 (lcG F elt tg c own ρ (.fix (xs.map g)) S) Q := by
  have sz : sizeLine = 16777216 := rfl
  refine wp_lF (fun i acc S' => S' = S ∧ acc = ((xs.take i).filter p).map f ∧ acc.length ≤ i) ⟨rfl, rfl, Nat.le_refl _⟩ ?_ ?_
  · rintro i d acc S' hd ⟨rfl, rfl, hal⟩ J K hJ hK
    rw [List.getElem?_map] at hd
    cases e : xs[i]? with
    | none => rw [e] at hd; cases hd
    | some x =>
      rw [e] at hd
      cases hd
      have hi := (List.getElem?_eq_some_iff.mp e).1
      obtain ⟨ρ1, e1, h1, h2⟩ := hs x (List.mem_of_getElem? e)
      refine ⟨ρ1, e1, h1.mono ?_⟩
      rintro t S2 ⟨rfl, rfl⟩
      have hsn := filt_snoc e p f
      cases hb : p x with
      | false =>
        rw [lcQ_f]
        rw [hb] at hsn
        exact hK _ ⟨rfl, by rw [hsn]; simp, by omega⟩
      | true =>
        rw [lcQ_t]
        rw [hb] at hsn
        refine (h2 hb).mono ?_
        rintro y S3 ⟨rfl, rfl⟩
        exact hJ _ _ (by omega) ⟨rfl, by rw [hsn]; simp, by rw [List.length_append, List.length_singleton]; omega⟩
  · rintro acc S' ⟨rfl, rfl, _⟩
    rw [List.length_map, List.take_length]
    exact hQ
/-- .. where each turn may lay something new -/
theorem wp_lMX {n : Nat} (xs : List α) (g : α → D) (p : α → Bool) (f : α → D) (hl : lstAt S n = some (xs.map g)) (hlen : xs.length ≤ 100000)
    (hs : ∀ x ∈ xs, ∀ S1, Ext S S1 → ∃ ρ1, bindT tg (g x) (wipeR ρ own) = some ρ1 ∧ Wx NoX (evT F c ρ1 S1) (fun t S2 => t = p x ∧ Ext S1 S2 ∧ (p x = true → Wx NoX (evE F elt ρ1 S2) fun y S3 => y = f x ∧ Ext S2 S3)))
    (hQ : ∀ S1, Ext S S1 → Q (.ref S1.length) (S1 ++ [.lst ((xs.filter p).map f)])) : Wx X0 (lcG F elt tg c own ρ (.dyn n .plain) S) Q := by
  have sz : sizeLine = 16777216 := rfl
  refine wp_lR (ds := xs.map g) (fun i acc S' => Ext S S' ∧ acc = ((xs.take i).filter p).map f ∧ acc.length ≤ i) ⟨.refl _, rfl, Nat.le_refl _⟩ ?_ ?_ ?_
  · rintro i acc S' ⟨X, _⟩
    exact X.lst hl
  · rintro i d acc S' hd ⟨X, rfl, hal⟩ J K hJ hK
    rw [List.getElem?_map] at hd
    cases e : xs[i]? with
    | none => rw [e] at hd; cases hd
    | some x =>
      rw [e] at hd
      cases hd
      have hi := (List.getElem?_eq_some_iff.mp e).1
      obtain ⟨ρ1, e1, h1⟩ := hs x (List.mem_of_getElem? e) S' X
      refine ⟨ρ1, e1, h1.mono ?_⟩
      rintro t S2 ⟨rfl, X2, h2⟩
      have hsn := filt_snoc e p f
      cases hb : p x with
      | false =>
        rw [lcQ_f]
        rw [hb] at hsn
        exact hK _ ⟨X.trans X2, by rw [hsn]; simp, by omega⟩
      | true =>
        rw [lcQ_t]
        rw [hb] at hsn
        refine (h2 hb).mono ?_
        rintro y S3 ⟨rfl, X3⟩
        exact hJ _ _ (by omega) ⟨(X.trans X2).trans X3, by rw [hsn]; simp, by rw [List.length_append, List.length_singleton]; omega⟩
  · rintro acc S' ⟨X, rfl, _⟩
    rw [List.length_map, List.take_length]
    exact hQ _ X
end

end GA
namespace GA
open PySem VM
/-! ### numbers of keys -/
abbrev Nums := List (Str × Int)
def nmsD (ns : Nums) : List (L2.Key × D) := ns.map fun p => (.inr p.1, .int p.2)
def numAt (ns : Nums) (x : Str) : Option Int := (ns.find? fun p => decide (p.1 = x)).map (·.2)
def greatOf (ks : List Str) (ns : Nums) : Int := ((ks.filterMap (numAt ns)).max?).getD 0
def heightOf (sps : List Spot) (ns : Nums) : Int := 1 + (sps.map fun sp => greatOf sp.2.2 ns).sum
theorem lkD_nms {ns : Nums} {x : Str} : lkD (nmsD ns) (.inr x) = (numAt ns x).map .int := by
  induction ns with
  | nil => rfl
  | cons p ns ih =>
    unfold lkD nmsD numAt at ih ⊢
    rw [List.map_cons]
    by_cases h : p.1 = x
    · rw [List.find?_cons_of_pos (by simpa using h), List.find?_cons_of_pos (by simpa using h)]
      rfl
    · rw [List.find?_cons_of_neg (by simpa using h), List.find?_cons_of_neg (by simpa using h)]
      exact ih
theorem in_nms {S : Sto} {n : Nat} {ns : Nums} {x : Str} (h : dicAt S n = some (nmsD ns)) : inD (.str x) (.ref n) S = some (numAt ns x).isSome := by
  rw [in_dic h, lkD_nms]
  cases numAt ns x <;> rfl
theorem intsD_map (ns : List Int) : intsD (ns.map D.int) = some ns := by
  induction ns with
  | nil => rfl
  | cons n ns ih => rw [List.map_cons]; unfold intsD; rw [ih]
theorem ints_at {S : Sto} {n : Nat} {ns : List Int} (h : lstAt S n = some (ns.map D.int))  : (VM.listOf S (.ref n)).bind intsD = some ns := by
  unfold VM.listOf
  simp only [lstAt_get.mp h]
  exact intsD_map ns
theorem filterMap_filt {α : Type} (xs : List α) (p : α → Option Int) : (xs.filter fun x => (p x).isSome).map (fun x => D.int ((p x).getD 0)) = (xs.filterMap p).map D.int := by
  induction xs with
  | nil => rfl
  | cons x xs ih =>
    cases e : p x with
    | none => rw [List.filter_cons_of_neg (by simp [e]), List.filterMap_cons_none e]; exact ih
    | some v => rw [List.filter_cons_of_pos (by simp [e]), List.filterMap_cons_some e, List.map_cons, List.map_cons, ih, e]; rfl
structure HasNums (tbl : List (Nat × Fd)) : Prop where
  great : tbl.lookup 11 = some ⟨2, 3, b_greatest_of⟩
  height : tbl.lookup 12 = some ⟨2, 5, b_height_of⟩
section
variable {sub : Nat → Nat → Bool} {tbl : List (Nat × Fd)} {k : Nat} {S : Sto}
theorem wsumL {X0 : XQ} {n : Nat} {ns : List Int} {Q : D → Sto → Prop} (h : lstAt S n = some (ns.map D.int)) (hQ : Q (.int ns.sum) S) : Wx X0 (biD .sum [.ref n] S) Q := by
  unfold biD
  simp only [ints_at h]
  rw [wp_ok]
  exact hQ
theorem wmaxL {X0 : XQ} {n : Nat} {ns : List Int} {m : Int} {Q : D → Sto → Prop} (h : lstAt S n = some (ns.map D.int)) (hm : ns.max? = some m) (hQ : Q (.int m) S) : Wx X0 (biD .max [.ref n] S) Q := by
  unfold biD
  simp only [ints_at h, hm]
  rw [wp_ok]
  exact hQ
theorem comp_nums {X0 : XQ} {F : Orc} {ρ : Rho} {kr dn w v : Nat} {keys : List Str} {ns : Nums} {Q : D → Sto → Prop} (hk : lstAt S kr = some (keys.map .str)) (hn : dicAt S dn = some (nmsD ns)) (hl : keys.length ≤ 100000)
    (hv : ∀ x : Str, ((wipeR ρ [w]).set w (some (.str x)))[v]? = some (some (.ref dn))) (hw : ∀ x : Str, ((wipeR ρ [w]).set w (some (.str x)))[w]? = some (some (.str x)))
    (hQ : Q (.ref S.length) (S ++ [.lst ((keys.filterMap (numAt ns)).map D.int)])) :
    Wx X0 (lcG F (.idx (.var v) (.var w)) (.nm w) (.cmp .inn (.var w) (.var v)) [w] ρ (.dyn kr .plain) S) Q := by
  refine wp_lM keys D.str (fun x => (numAt ns x).isSome) (fun x => D.int ((numAt ns x).getD 0)) hk hl (fun x hx => ⟨_, rfl, ?_, fun hs => ?_⟩) ?_
  · have hv := hv x
    have hw := hw x
    have hi := in_nms (x := x) hn
    generalize (wipeR ρ [w]).set w (some (.str x)) = ρ1 at *
    try walk_at "ev1"
  · have hv := hv x
    have hw := hw x
    generalize (wipeR ρ [w]).set w (some (.str x)) = ρ1 at *
    have hlk : lkD (nmsD ns) (.inr x) = some (.int ((numAt ns x).getD 0)) := by
      rw [lkD_nms]
      cases e : numAt ns x with
      | none => rw [e] at hs; cases hs
      | some n => rfl
    try walk_at "ev1"
  · rw [filterMap_filt]
    exact hQ
theorem greatest_sp (hp : HasNums tbl) {kr dn : Nat} {keys : List Str} {ns : Nums} (hk : lstAt S kr = some (keys.map .str)) (hn : dicAt S dn = some (nmsD ns)) (hl : keys.length ≤ 100000) :
    Wx NoX (callN sub tbl (k + 1) 11 [.ref kr, .ref dn] S) fun d S' => d = .int (greatOf keys ns) ∧ Ext S S' := by
  refine Wp.gen fun Q hQ => ?_
  have sz : sizeLine = 16777216 := rfl
  refine wp_call hp.great rfl ?_
  unfold b_greatest_of
  rw [wp_cons]
  try walk_at "ev1"
  refine comp_nums hk hn hl (fun _ => rfl) (fun _ => rfl) ?_
  exact ⟨_, ints_at lstAt_new, hQ _ _ ⟨rfl, Ext.app _ _⟩⟩
theorem height_sp (hp : HasNums tbl) {d : D} {dn : Nat} {sps : List Spot} {ns : Nums} (h1 : SpotsAt S d sps) (hl : sps.length ≤ 100000) (hl2 : ∀ sp ∈ sps, sp.2.2.length ≤ 100000) (hn : dicAt S dn = some (nmsD ns)) :
    Wx NoX (callN sub tbl (k + 2) 12 [d, .ref dn] S) fun d' S' => d' = .int (heightOf sps ns) ∧ Ext S S' := by
  refine Wp.gen fun Q hQ => ?_
  have sz : sizeLine = 16777216 := rfl
  obtain ⟨r, ds, rfl, hr, hA⟩ := h1
  refine wp_call hp.height rfl ?_
  unfold b_height_of
  rw [wp_cons]
  try walk_at "ev1"
  refine wp_lR (ds := ds) (fun i acc S' => Ext S S' ∧ acc = ((sps.take i).map fun sp => greatOf sp.2.2 ns).map D.int ∧ acc.length ≤ i) ⟨.refl _, rfl, Nat.le_refl _⟩ ?_ ?_ ?_
  · rintro i acc S' ⟨X, _⟩
    exact X.lst hr
  · rintro i d acc S' hd ⟨X, rfl, hal⟩ J K hJ hK
    have hi := (List.getElem?_eq_some_iff.mp hd).1
    obtain ⟨sp, e, hsp⟩ := hA.get hd
    obtain ⟨kr, rfl, hkr⟩ := hsp
    have hkr := X.lst hkr
    have hn' := X.dic hn
    have hi2 := hA.1
    refine ⟨_, rfl, ?_⟩
    try walk_at "ev1"
    refine (greatest_sp hp (k := k) hkr hn' (hl2 sp (List.mem_of_getElem? e))).mono ?_
    rintro _ S2 ⟨rfl, X2⟩
    refine hJ _ _ (by omega) ⟨X.trans X2, ?_, by rw [List.length_append, List.length_singleton]; omega⟩
    have htk : sps.take (i + 1) = sps.take i ++ [sp] := by rw [List.take_succ, e]; rfl
    rw [htk]
    simp
  · rintro acc S' ⟨X, rfl, _⟩
    rw [hA.1, List.take_length]
    refine wsumL lstAt_new ?_
    try walk_at "ev1"
    exact hQ _ _ ⟨rfl, X.app1 _⟩
end

end GA
namespace GA
open PySem VM
/-! ### what is of use, as the laws reckon it -/
def addNew (K us keys : List Str) : List Str := us ++ keys.filter fun x => decide (x ∈ K) && !decide (x ∈ us)
def useS (K us : List Str) (sps : List Spot) : List Str := sps.foldl (fun us sp => addNew K us sp.2.2) us
def useR (K us : List Str) (r : Str × List Spot) : List Str := if r.1 ∈ us then useS K us r.2 else us
def useT (K : List Str) (rows : List (Str × List Spot)) (us : List Str) : List Str := rows.foldl (useR K) us
def useN (K : List Str) (rows : List (Str × List Spot)) (us : List Str) : Nat → List Str
  | 0 => us
  | n + 1 => useT K rows (useN K rows us n)
theorem mem_addNew {K us keys : List Str} {y : Str} : y ∈ addNew K us keys ↔ y ∈ us ∨ (y ∈ keys ∧ y ∈ K) := by
  unfold addNew
  rw [List.mem_append, List.mem_filter]
  constructor
  · rintro (h | ⟨h1, h2⟩)
    · exact .inl h
    · simp at h2
      exact .inr ⟨h1, h2.1⟩
  · rintro (h | ⟨h1, h2⟩)
    · exact .inl h
    · by_cases hu : y ∈ us
      · exact .inl hu
      · exact .inr ⟨h1, by simp [h2, hu]⟩
theorem mem_useS {K : List Str} {y : Str} : ∀ (sps : List Spot) (us : List Str), y ∈ useS K us sps ↔ y ∈ us ∨ (∃ sp ∈ sps, y ∈ sp.2.2) ∧ y ∈ K
  | [], us => by unfold useS; simp
  | sp :: sps, us => by
    show y ∈ useS K (addNew K us sp.2.2) sps ↔ _
    rw [mem_useS sps, mem_addNew]
    constructor
    · rintro ((a | a) | ⟨⟨s, h1, h2⟩, h3⟩)
      · exact .inl a
      · exact .inr ⟨⟨sp, by simp, a.1⟩, a.2⟩
      · exact .inr ⟨⟨s, by simp [h1], h2⟩, h3⟩
    · rintro (a | ⟨⟨s, h1, h2⟩, h3⟩)
      · exact .inl (.inl a)
      · rcases List.mem_cons.mp h1 with rfl | h1
        · exact .inl (.inr ⟨h2, h3⟩)
        · exact .inr ⟨⟨s, h1, h2⟩, h3⟩
/-- none twice, all known -/
def NdK (K us : List Str) : Prop := us.Nodup ∧ ∀ x ∈ us, x ∈ K
theorem NdK.add {K us keys : List Str} (h : NdK K us) (hk : keys.Nodup) : NdK K (addNew K us keys) := by
  refine ⟨?_, fun x hx => (mem_addNew.mp hx).elim (h.2 x) (·.2)⟩
  unfold addNew
  refine List.nodup_append.mpr ⟨h.1, hk.filter _, fun a ha b hb e => ?_⟩
  subst e
  have := (List.mem_filter.mp hb).2
  simp [ha] at this
theorem NdK.useS {K : List Str} : ∀ {sps : List Spot} {us : List Str}, NdK K us → (∀ sp ∈ sps, sp.2.2.Nodup) → NdK K (useS K us sps)
  | [], us, h, _ => h
  | sp :: sps, us, h, hs => NdK.useS (sps := sps) (us := addNew K us sp.2.2) (h.add (hs sp (by simp))) fun s z => hs s (by simp [z])
theorem NdK.useR {K us : List Str} {r : Str × List Spot} (h : NdK K us) (hs : ∀ sp ∈ r.2, sp.2.2.Nodup) : NdK K (useR K us r) := by
  unfold GA.useR
  split
  · exact h.useS hs
  · exact h
theorem NdK.useT {K : List Str} : ∀ {rows : List (Str × List Spot)} {us : List Str}, NdK K us → (∀ r ∈ rows, ∀ sp ∈ r.2, sp.2.2.Nodup) → NdK K (useT K rows us)
  | [], us, h, _ => h
  | r :: rows, us, h, hs => NdK.useT (rows := rows) (h.useR (hs r (by simp))) fun s z => hs s (by simp [z])
theorem NdK.useN {K : List Str} {rows : List (Str × List Spot)} {us : List Str} (h : NdK K us) (hs : ∀ r ∈ rows, ∀ sp ∈ r.2, sp.2.2.Nodup) : ∀ n, NdK K (useN K rows us n)
  | 0 => h
  | n + 1 => (NdK.useN h hs n).useT hs
theorem NdK.len {K us : List Str} (h : NdK K us) : us.length ≤ K.length := nodup_le _ _ h.1 h.2
theorem sub_useR {K us : List Str} {r : Str × List Spot} {y : Str} (h : y ∈ us) : y ∈ useR K us r := by
  unfold useR
  split
  · exact (mem_useS _ _).mpr (.inl h)
  · exact h
theorem sub_useT {K : List Str} {y : Str} : ∀ {rows : List (Str × List Spot)} {us : List Str}, y ∈ us → y ∈ useT K rows us
  | [], us, h => h
  | r :: rows, us, h => sub_useT (rows := rows) (sub_useR h)
theorem useT_step {K : List Str} {x y : Str} {sps : List Spot} {sp : Spot} (hs : sp ∈ sps) (hy : y ∈ sp.2.2) (hK : y ∈ K) : ∀ {rows : List (Str × List Spot)} {us : List Str}, (x, sps) ∈ rows → x ∈ us → y ∈ useT K rows us
  | r :: rows, us, hr, hx => by
    show y ∈ useT K rows (useR K us r)
    rcases List.mem_cons.mp hr with e | hr
    · subst e
      refine sub_useT ?_
      unfold useR
      rw [if_pos hx]
      exact (mem_useS _ _).mpr (.inr ⟨⟨sp, hs, hy⟩, hK⟩)
    · exact useT_step hs hy hK hr (sub_useR hx)
theorem useT_reach {K tops : List Str} {all : List (Str × List Spot)} {y : Str} : ∀ {rows : List (Str × List Spot)} {us : List Str}, (∀ r ∈ rows, r ∈ all) → (∀ x ∈ us, Reach all K tops x) → y ∈ useT K rows us → Reach all K tops y
  | [], us, _, h, hy => h y hy
  | r :: rows, us, hsub, h, hy => by
    refine useT_reach (rows := rows) (us := useR K us r) (fun s z => hsub s (by simp [z])) (fun x hx => ?_) hy
    unfold useR at hx
    split at hx
    · rename_i hr
      rcases (mem_useS _ _).mp hx with hx | ⟨⟨sp, h1, h2⟩, h3⟩
      · exact h x hx
      · exact .step (h _ hr) (hsub r (by simp)) h1 h2 h3
    · exact h x hx
theorem useN_reach {K tops us : List Str} {rows : List (Str × List Spot)} {y : Str} (h : ∀ x ∈ us, Reach rows K tops x) : ∀ n, y ∈ useN K rows us n → Reach rows K tops y
  | 0, hy => h y hy
  | n + 1, hy => useT_reach (fun r z => z) (fun x hx => useN_reach h n hx) hy
def Closed (K : List Str) (rows : List (Str × List Spot)) (us : List Str) : Prop := ∀ y ∈ useT K rows us, y ∈ us
theorem useR_len {K us : List Str} {r : Str × List Spot} : us.length ≤ (useR K us r).length := by
  have key : ∀ (sps : List Spot) (us : List Str), us.length ≤ (useS K us sps).length := by
    intro sps
    induction sps with
    | nil => exact fun us => Nat.le_refl _
    | cons sp sps ih => exact fun us => Nat.le_trans (by unfold addNew; simp) (ih (addNew K us sp.2.2))
  unfold useR
  split
  · exact key _ _
  · exact Nat.le_refl _
theorem useT_len {K : List Str} : ∀ {rows : List (Str × List Spot)} {us : List Str}, us.length ≤ (useT K rows us).length
  | [], us => Nat.le_refl _
  | r :: rows, us => Nat.le_trans useR_len (useT_len (rows := rows))
theorem closed_of_len {K us : List Str} {rows : List (Str × List Spot)} (h : NdK K us) (hs : ∀ r ∈ rows, ∀ sp ∈ r.2, sp.2.2.Nodup) (hl : (useT K rows us).length ≤ us.length) : Closed K rows us := by
  intro y hy
  refine Classical.byContradiction fun hn => ?_
  have h1 : (y :: us).length ≤ (useT K rows us).length := nodup_le _ _ (List.nodup_cons.mpr ⟨hn, h.1⟩) fun x hx => by
    rcases List.mem_cons.mp hx with rfl | hx
    · exact hy
    · exact sub_useT hx
  simp at h1
  omega
theorem Closed.next {K us : List Str} {rows : List (Str × List Spot)} (h : Closed K rows us) : Closed K rows (useT K rows us) := by
  intro y hy
  have key : ∀ (rs : List (Str × List Spot)) (vs : List Str), (∀ r ∈ rs, r ∈ rows) → (∀ x ∈ vs, x ∈ us) → ∀ y ∈ useT K rs vs, y ∈ us := by
    intro rs
    induction rs with
    | nil => exact fun vs _ hv => hv
    | cons r rs ih =>
      intro vs hr hv y hy
      refine ih (useR K vs r) (fun s z => hr s (by simp [z])) (fun x hx => ?_) y hy
      unfold useR at hx
      split at hx
      · rename_i hm
        rcases (mem_useS _ _).mp hx with hx | ⟨⟨sp, h1, h2⟩, h3⟩
        · exact hv x hx
        · exact h _ (useT_step (x := r.1) (sps := r.2) h1 h2 h3 (hr r (by simp)) (hv _ hm))
      · exact hv x hx
  exact sub_useT (key rows _ (fun r z => z) (fun x hx => h x hx) y hy)
theorem useN_closed {K us : List Str} {rows : List (Str × List Spot)} (h : NdK K us) (hs : ∀ r ∈ rows, ∀ sp ∈ r.2, sp.2.2.Nodup) {n : Nat} (hK : K.length ≤ n) : Closed K rows (useN K rows us n) := by
  have key : ∀ m, Closed K rows (useN K rows us m) ∨ us.length + m ≤ (useN K rows us m).length := by
    intro m
    induction m with
    | zero => exact .inr (Nat.le_refl _)
    | succ m ih =>
      rcases ih with c | l
      · exact .inl c.next
      · by_cases hl : (useT K rows (useN K rows us m)).length ≤ (useN K rows us m).length
        · exact .inl (closed_of_len (h.useN hs m) hs hl).next
        · refine .inr ?_
          show us.length + (m + 1) ≤ (useT K rows (useN K rows us m)).length
          omega
  rcases key n with c | l
  · exact c
  · refine closed_of_len (h.useN hs n) hs ?_
    have h1 := ((h.useN hs n).useT hs).len
    omega
theorem useN_sub {K us : List Str} {rows : List (Str × List Spot)} {y : Str} (h : y ∈ us) : ∀ n, y ∈ useN K rows us n
  | 0 => h
  | n + 1 => sub_useT (useN_sub h n)
theorem useN_mem {K tops : List Str} {rows : List (Str × List Spot)} (hnd : tops.Nodup) (hs : ∀ r ∈ rows, ∀ sp ∈ r.2, sp.2.2.Nodup) {n : Nat} (hK : K.length ≤ n) {y : Str} :
    y ∈ useN K rows (tops.filter fun x => decide (x ∈ K)) n ↔ Reach rows K tops y := by
  have h0 : NdK K (tops.filter fun x => decide (x ∈ K)) := ⟨hnd.filter _, fun x hx => by simpa using (List.mem_filter.mp hx).2⟩
  constructor
  · exact useN_reach (fun x hx => by have := List.mem_filter.mp hx; exact .top this.1 (by simpa using this.2)) n
  · intro h
    have c := useN_closed h0 hs hK
    induction h with
    | top h k => exact useN_sub (List.mem_filter.mpr ⟨h, by simpa using k⟩) n
    | step _ r s m k ih => exact c _ (useT_step s m k r ih)

end GA
namespace GA
open PySem VM
structure HasUsed (tbl : List (Nat × Fd)) : Prop extends HasWhere tbl where
  used : tbl.lookup 38 = some ⟨3, 11, b__law_used⟩
def usedL (B : Book) : List Str := useN (ending (rowsOf B.trs)) (rowsOf B.trs) ((keysOf B.trs (false, B.top)).filter fun x => decide (x ∈ ending (rowsOf B.trs))) (rowsOf B.trs).length
theorem in_strs {S : Sto} {r : Nat} {ks : List Str} {y : Str} (h : lstAt S r = some (ks.map .str)) : inD (.str y) (.ref r) S = some (decide (y ∈ ks)) := by
  rw [in_keys (.str y) (by rw [pdep]; omega) h, any_str]
theorem rows_nd {B : Book} (hB : BookOk B) : ∀ r ∈ rowsOf B.trs, ∀ sp ∈ r.2, sp.2.2.Nodup := by
  intro r hr sp hs
  unfold rowsOf at hr
  obtain ⟨p, hp, rfl⟩ := List.mem_map.mp hr
  have hs : sp ∈ spotsOf B.trs p.2 := hs
  unfold spotsOf at hs
  obtain ⟨q, hq, e⟩ := List.mem_filterMap.mp hs
  have e2 : ∃ n, sp.2.2 = keysOf B.trs n := by
    unfold spotOf at e
    split at e
    · split at e
      · cases e; exact ⟨_, rfl⟩
      · cases e
    · cases e; exact ⟨_, rfl⟩
    · cases e
    · cases e
  obtain ⟨n, e3⟩ := e2
  rw [e3]
  exact keysOf_nd hB n
theorem used_nd {B : Book} (hB : BookOk B) (n : Nat) : NdK (ending (rowsOf B.trs)) (useN (ending (rowsOf B.trs)) (rowsOf B.trs) ((keysOf B.trs (false, B.top)).filter fun x => decide (x ∈ ending (rowsOf B.trs))) n) :=
  NdK.useN ⟨(keysOf_nd hB _).filter _, fun x hx => by simpa using (List.mem_filter.mp hx).2⟩ (rows_nd hB) n
theorem used_mem {B : Book} (hB : BookOk B) {y : Str} : y ∈ usedL B ↔ Reach (rowsOf B.trs) (ending (rowsOf B.trs)) (keysOf B.trs (false, B.top)) y :=
  useN_mem (keysOf_nd hB _) (rows_nd hB) (turns_le _ _)
theorem ending_len {B : Book} (hB : BookOk B) : (ending (rowsOf B.trs)).length ≤ 6 := Nat.le_trans (turns_le _ _) (by rw [rowsOf_len]; exact hB.le)
section
variable {sub : Nat → Nat → Bool} {tbl : List (Nat × Fd)} {k : Nat} {S : Sto}
theorem used_sp (hp : HasUsed tbl) {B : Book} (hB : BookOk B) {wn kn : Nat} (hR : RowsU S wn (rowsOf B.trs)) (hK : dicAt S kn = some (knD (ending (rowsOf B.trs)))) (hne : kn ≠ wn) :
    Wx NoX (callN sub tbl (k + 14) 38 [B.d, .ref wn, .ref kn] S) fun d S' => ∃ r, d = .ref r ∧ Ext S S' ∧ S.length ≤ r ∧ lstAt S' r = some ((usedL B).map .str) := by
  refine Wp.gen fun Q hQ => ?_
  have sz : sizeLine = 16777216 := rfl
  have hnd := used_nd hB
  have hrl : (rowsOf B.trs).length ≤ 6 := by rw [rowsOf_len]; exact hB.le
  have hKl := ending_len hB
  have hrn := rows_nd hB
  have hrkl := rows_keys_len hB
  unfold usedL at hQ
  generalize hU0 : (keysOf B.trs (false, B.top)).filter (fun x => decide (x ∈ ending (rowsOf B.trs))) = U0 at *
  generalize hKK : ending (rowsOf B.trs) = K at *
  obtain ⟨kvs, hD, A⟩ := hR
  have hwl := dicAt_lt (dicU_at hD)
  refine wp_call hp.used rfl ?_
  unfold b__law_used
  rw [wp_cons]
  try walk_at "ev1"
  refine (ltops_sp hp.toHasWhere (k := k) hB).mono ?_
  rintro _ S1 ⟨tn, rfl, X1, ht⟩
  have hK1 := X1.dic hK
  have hwl1 := Nat.lt_of_lt_of_le hwl X1.len
  try walk_at "ev1"
  refine wp_lM (keysOf B.trs (false, B.top)) D.str (fun x => decide (x ∈ K)) D.str ht (by have := keysOf_len hB (false, B.top); omega) (fun x hx => ⟨_, rfl, ?_, fun hs => ?_⟩) ?_
  · have hin := in_kn (x := x) hK1
    try walk_at "ev1"
  · try walk_at "ev1"
  rw [hU0]
  generalize hrows : rowsOf B.trs = rows at *
  have hkl : kvs.length = rows.length := A.1
  have hu0 : lstAt (S1 ++ [.lst (U0.map .str)]) S1.length = some (U0.map .str) := lstAt_new
  have hDA : dicU (S1 ++ [.lst (U0.map .str)]) wn = some kvs := by rw [dicU_app hwl1]; exact X1.dicU hD
  have hlen := dicAt_len (dicU_at hDA)
  have hnol := dicAt_lst (dicU_at hDA)
  have hX : Ext S (S1 ++ [.lst (U0.map .str)]) := X1.app1 _
  have hul := X1.len
  generalize S1 ++ [.lst (U0.map .str)] = S2 at *
  generalize S1.length = un at *
  rw [seqQ_nx, wp_cons]
  try walk_at "ev1"
  refine ⟨⟨by omega, by omega⟩, ?_⟩
  refine wp_fF (fun i ρ S' => ∃ x4 x5 x6 x7 x8 x9 x10, ρ = [some B.d, some (.ref wn), some (.ref kn), some (.ref un), x4, x5, x6, x7, x8, x9, x10] ∧ Ext S S' ∧ lstAt S' un = some ((useN K rows U0 i).map .str)) ?_ ?_ ?_
  · exact ⟨_, _, _, _, _, _, _, rfl, hX, hu0⟩
  · rintro i d ρ S' hd ⟨x4, x5, x6, x7, x8, x9, x10, rfl, X, hu⟩ J hJ
    have hDS := X.dicU hD
    have hKS := X.dic hK
    refine ⟨_, rfl, ?_⟩
    clear hlen hnol hDA hu0 hX
    rw [wp_cons]
    try walk_at "ev1"
    refine ⟨_, dicU_get.mp hDS, kvs.map fun kv => .tup [kD kv.1, kv.2], rfl, ?_⟩
    have hnd1 := hnd i
    refine wp_fK hDS (fun j ρ Sl => ∃ x4 x5 x6 x7 x8 x9 x10, ρ = [some B.d, some (.ref wn), some (.ref kn), some (.ref un), x4, x5, x6, x7, x8, x9, x10] ∧ Ext (S.set wn (.lk (.dic kvs))) Sl ∧ lstAt Sl un = some (((rows.take j).foldl (useR K) (useN K rows U0 i)).map .str) ∧ NdK K ((rows.take j).foldl (useR K) (useN K rows U0 i))) ?_ ?_ ?_
    · exact ⟨_, _, _, _, _, _, _, rfl, X.set2 wn _ hwl, by rw [lstAt_set_ne (by omega)]; exact hu, hnd1⟩
    · rintro j d ρ Sl hd ⟨x4, x5, x6, x7, x8, x9, x10, rfl, XL, hul2, hnd2⟩ J2 hJ2
      rw [List.getElem?_map] at hd
      cases e : kvs[j]? with
      | none => rw [e] at hd; cases hd
      | some kv =>
        rw [e] at hd
        cases hd
        obtain ⟨r, er, h1, h2⟩ := A.get e
        obtain ⟨x, sps⟩ := r
        obtain ⟨key, vd⟩ := kv
        simp only at h1 h2
        subst h1
        have hst : (rows.take (j + 1)).foldl (useR K) (useN K rows U0 i) = useR K ((rows.take j).foldl (useR K) (useN K rows U0 i)) (x, sps) := by
          rw [List.take_succ, er, List.foldl_append]
          rfl
        generalize (rows.take j).foldl (useR K) (useN K rows U0 i) = us at *
        have hS2 : SpotsAt (S.set wn (.lk (.dic kvs))) vd sps := h2.setN (n := 0) (S' := S) (b := wn) (by rw [dicU_at hD]; exact fun z => by cases z) _
        have hKL : dicAt Sl kn = some (knD K) := XL.dic (by rw [dicAt_set_ne hne]; exact hK)
        have hin : inD (kD (.inr x)) (.ref un) Sl = some (decide (x ∈ us)) := in_strs (y := x) hul2
        refine ⟨_, rfl, ?_⟩
        rw [wp_cons]
        try walk_at "ev1"
        cases hb : decide (x ∈ us) with
        | false =>
          have hur : useR K us (x, sps) = us := by unfold useR; rw [if_neg (of_decide_eq_false hb)]
          rw [ifQ_f, wp_nil, seqQ_nx, wp_nil, forQ_nx]
          exact hJ2 _ _ ⟨_, _, _, _, _, _, _, rfl, XL, by rw [hst, hur]; exact hul2, by rw [hst, hur]; exact hnd2⟩
        | true =>
          have hur : useR K us (x, sps) = useS K us sps := by unfold useR; rw [if_pos (of_decide_eq_true hb)]
          rw [ifQ_t]
          obtain ⟨rr, ds, rfl, hds, hA2⟩ := hS2
          have hT0 : (S.set wn (O.lk (.dic kvs))).length ≤ un := by simpa using hul
          have hKT : dicAt (S.set wn (O.lk (.dic kvs))) kn = some (knD K) := by rw [dicAt_set_ne hne]; exact hK
          have hkl2 := hrkl _ (List.mem_of_getElem? er)
          generalize S.set wn (O.lk (.dic kvs)) = T0 at *
          have hrlt := lstAt_lt hds
          have hdl := XL.lst hds
          have hsn := hrn _ (List.mem_of_getElem? er)
          rw [wp_cons]
          try walk_at "ev1"
          refine wp_fR (ds := ds) (fun m ρ Sm => ∃ x7 x8 x9 x10, ρ = [some B.d, some (.ref wn), some (.ref kn), some (.ref un), x4, some (kD (.inr x)), some (.ref rr), x7, x8, x9, x10] ∧ Ext T0 Sm ∧ lstAt Sm un = some ((useS K us (sps.take m)).map .str) ∧ NdK K (useS K us (sps.take m))) ⟨_, _, _, _, rfl, XL, hul2, hnd2⟩ ?_ ?_ ?_
          · rintro m ρ Sm ⟨_, _, _, _, _, Xm, _⟩
            exact Xm.lst hds
          · rintro m d ρ Sm hd ⟨x7, x8, x9, x10, rfl, Xm, hum, hndm⟩ J3 hJ3
            obtain ⟨sp, esp, kr, rfl, hkr⟩ := hA2.get hd
            have hkrl := lstAt_lt hkr
            have hkrm := Xm.lst hkr
            have hKm := Xm.dic hKT
            have hspm := List.mem_of_getElem? esp
            have hst2 : useS K us (sps.take (m + 1)) = addNew K (useS K us (sps.take m)) sp.2.2 := by
              unfold useS
              rw [List.take_succ, esp, List.foldl_append]
              rfl
            have hnd3 := hndm.add (hsn sp hspm)
            rw [← hst2] at hnd3
            generalize useS K us (sps.take m) = vs at *
            refine ⟨_, rfl, ?_⟩
            rw [wp_cons]
            try walk_at "ev1"
            refine wp_lM sp.2.2 D.str (fun y => decide (y ∈ K) && !decide (y ∈ vs)) D.str hkrm (hkl2 sp hspm) (fun y hy => ⟨_, rfl, ?_, fun hs => ?_⟩) ?_
            · have h1 := in_kn (x := y) hKm
              have h2 := in_strs (y := y) hum
              try walk_at "ev1"
              cases decide (y ∈ K) with
              | false => rw [andQ_f]; simp
              | true =>
                rw [andQ_t]
                try walk_at "ev1"
                simp
            · try walk_at "ev1"
            have hnew : lstAt (Sm ++ [O.lst ((sp.2.2.filter fun y => decide (y ∈ K) && !decide (y ∈ vs)).map D.str)]) Sm.length = some ((sp.2.2.filter fun y => decide (y ∈ K) && !decide (y ∈ vs)).map D.str) := lstAt_new
            have hum' : lstAt (Sm ++ [O.lst ((sp.2.2.filter fun y => decide (y ∈ K) && !decide (y ∈ vs)).map D.str)]) un = some (vs.map D.str) := by rw [lstAt_app (lstAt_lt hum)]; exact hum
            have hult := lstAt_lt hum'
            have X3 : Ext T0 (Sm ++ [O.lst ((sp.2.2.filter fun y => decide (y ∈ K) && !decide (y ∈ vs)).map D.str)]) := Xm.app1 _
            have hlen3 := hnd3.len
            rw [hst2] at hlen3
            unfold addNew at hlen3
            rw [List.length_append] at hlen3
            have m0 := fun x10 => hJ3 [some B.d, some (.ref wn), some (.ref kn), some (.ref un), x4, some (kD (.inr x)), some (.ref rr), some (plD sp.1), some (.bl sp.2.1), some (.ref kr), x10] ((Sm ++ [O.lst ((sp.2.2.filter fun y => decide (y ∈ K) && !decide (y ∈ vs)).map D.str)]).set un (.lst (vs.map D.str ++ (sp.2.2.filter fun y => decide (y ∈ K) && !decide (y ∈ vs)).map D.str))) ⟨_, _, _, x10, rfl, X3.set hT0 _, by rw [lstAt_set hult, hst2]; unfold addNew; rw [List.map_append], hnd3⟩
            generalize (sp.2.2.filter fun y => decide (y ∈ K) && !decide (y ∈ vs)) = fr at *
            clear hJ3 hJ2 hJ hQ
            try walk_at "ev1"
            rw [List.length_map, List.length_map]
            omega
          · rintro ρ Sm ⟨x7, x8, x9, x10, rfl, Xm, hum, hndm⟩
            rw [hA2.1, List.take_length] at hum hndm
            rw [seqQ_nil, seqQ_nil, forQ_nx]
            exact hJ2 _ _ ⟨_, _, _, _, _, _, _, rfl, Xm, by rw [hst, hur]; exact hum, by rw [hst, hur]; exact hndm⟩
    · rintro ρ Sl ⟨x4, x5, x6, x7, x8, x9, x10, rfl, XL, hul2, hnd2⟩
      rw [List.length_map, hkl, List.take_length] at hul2
      obtain ⟨u1, u2⟩ := unlock hD XL
      rw [u1, seqQ_nil, forQ_nx]
      refine hJ _ _ ⟨_, _, _, _, _, _, _, rfl, u2, ?_⟩
      rw [lstAt_set_ne (by omega)]
      exact hul2
  · rintro ρ S' ⟨x4, x5, x6, x7, x8, x9, x10, rfl, X, hu⟩
    rw [List.length_map, List.length_range] at hu
    try walk_at "ev"
    exact hQ _ _ ⟨_, rfl, X, hul, hu⟩
end

end GA
namespace GA
open PySem VM
/-! ### the trees of use in order, their numbers -/
def spAt (rows : List (Str × List Spot)) (x : Str) : List Spot := match rows.find? fun r => decide (r.1 = x) with
  | some r => r.2
  | none => []
def orderL (B : Book) : List Str := B.keys.filter fun x => decide (x ∈ usedL B)
theorem numAt_mem {ns : Nums} {x : Str} : (numAt ns x).isSome = decide (x ∈ ns.map (·.1)) := by
  induction ns with
  | nil => rfl
  | cons p ns ih =>
    unfold GA.numAt at ih ⊢
    by_cases h : p.1 = x
    · rw [List.find?_cons_of_pos (by simpa using h)]
      simp [h]
    · rw [List.find?_cons_of_neg (by simpa using h), ih]
      simp [Ne.symm h]
theorem putD_nms {ns : Nums} {x : Str} {n : Int} (h : x ∉ ns.map (·.1)) : putD (nmsD ns) (.inr x) (.int n) = nmsD (ns ++ [(x, n)]) := by
  rw [putD_new]
  · unfold nmsD
    rw [List.map_append]
    rfl
  · intro kv hkv e
    unfold nmsD at hkv
    obtain ⟨p, hp, rfl⟩ := List.mem_map.mp hkv
    refine h (List.mem_map.mpr ⟨p, hp, ?_⟩)
    have : (Sum.inr p.1 : L2.Key) = .inr x := e
    exact Sum.inr.inj this
theorem nmsD_len (ns : Nums) : (nmsD ns).length = ns.length := by unfold nmsD; rw [List.length_map]
theorem keys_rows {B : Book} : (rowsOf B.trs).map (·.1) = B.keys := by
  unfold rowsOf Book.keys
  rw [List.map_map]
  rfl
theorem spots_key {B : Book} {S : Sto} {rn : Nat} {x : Str} (hR : RowsAt S rn (rowsOf B.trs)) (hx : x ∈ B.keys) : ∃ kvs d, dicAt S rn = some kvs ∧ lkD kvs (.inr x) = some d ∧ SpotsAt S d (spAt (rowsOf B.trs) x) ∧ ∃ r ∈ rowsOf B.trs, spAt (rowsOf B.trs) x = r.2 := by
  obtain ⟨kvs, hD, hf⟩ := rows_find hR x
  have hsome : ((rowsOf B.trs).find? fun r => decide (r.1 = x)).isSome = true := by
    rw [List.find?_isSome]
    rw [← keys_rows] at hx
    obtain ⟨r, hr, e⟩ := List.mem_map.mp hx
    exact ⟨r, hr, by simpa using e⟩
  unfold spAt
  cases hfr : (rowsOf B.trs).find? fun r => decide (r.1 = x) with
  | none => rw [hfr] at hsome; cases hsome
  | some r =>
    rw [hfr] at hf
    obtain ⟨d, h1, h2⟩ := hf
    exact ⟨kvs, d, hD, h1, h2, r, List.mem_of_find?_eq_some hfr, rfl⟩
theorem orderL_nd {B : Book} (hB : BookOk B) : (orderL B).Nodup := hB.nd.filter _
theorem orderL_sub {B : Book} {x : Str} (h : x ∈ orderL B) : x ∈ B.keys := (List.mem_filter.mp h).1
theorem orderL_len {B : Book} (hB : BookOk B) : (orderL B).length ≤ 6 := by
  have h1 : (orderL B).length ≤ B.keys.length := List.length_filter_le _ _
  have : B.keys.length = B.trs.length := by unfold Book.keys; rw [List.length_map]
  have := hB.le
  omega
theorem order_eq {B : Book} (hB : BookOk B) {ends ways cs : List Str} (he : ends = B.keys.filter fun x => !decide (x ∈ ending (rowsOf B.trs))) (hw : ways = B.keys.filter fun x => decide (x ∈ ending (rowsOf B.trs)) && !decide (x ∈ cs))
    (hc : ∀ x, x ∈ cs ↔ Reach (rowsOf B.trs) (ending (rowsOf B.trs)) (keysOf B.trs (false, B.top)) x) : (B.trs.filter fun q => !decide (q.1 ∈ ends) && !decide (q.1 ∈ ways)).map (fun q => D.str q.1) = (orderL B).map D.str := by
  have key : ∀ ps : List (Str × Tr), (∀ p ∈ ps, p.1 ∈ B.keys) → (ps.filter fun q => !decide (q.1 ∈ ends) && !decide (q.1 ∈ ways)).map (fun q => D.str q.1) = ((ps.map (·.1)).filter fun x => decide (x ∈ usedL B)).map D.str := by
    intro ps
    induction ps with
    | nil => intro _; rfl
    | cons p ps ih =>
      intro h
      have ih := ih fun q hq => h q (by simp [hq])
      have hp := h p (by simp)
      have hb : (!decide (p.1 ∈ ends) && !decide (p.1 ∈ ways)) = decide (p.1 ∈ usedL B) := by
        rw [he, hw]
        by_cases hu : p.1 ∈ usedL B
        · have hr := (used_mem hB).mp hu
          have h1 := hr.known
          have h2 := (hc _).mpr hr
          simp [hu, h1, h2]
        · have hr : ¬ Reach (rowsOf B.trs) (ending (rowsOf B.trs)) (keysOf B.trs (false, B.top)) p.1 := fun z => hu ((used_mem hB).mpr z)
          have h2 : p.1 ∉ cs := fun z => hr ((hc _).mp z)
          by_cases h1 : p.1 ∈ ending (rowsOf B.trs) <;> simp [hu, h1, h2, hp]
      rw [List.map_cons]
      cases hd : decide (p.1 ∈ usedL B) with
      | true =>
        rw [hd] at hb
        rw [List.filter_cons_of_pos (by exact hb), List.filter_cons_of_pos (by exact hd), List.map_cons, List.map_cons, ih]
      | false =>
        rw [hd] at hb
        rw [List.filter_cons_of_neg (by rw [hb]; simp), List.filter_cons_of_neg (by rw [hd]; simp), ih]
  exact key B.trs fun p hp => List.mem_map.mpr ⟨p, hp, rfl⟩
theorem num_some {ns : Nums} {x : Str} (h : x ∈ ns.map (·.1)) : ∃ n, GA.numAt ns x = some n := by
  have := numAt_mem (ns := ns) (x := x)
  simp only [h, decide_true] at this
  exact Option.isSome_iff_exists.mp this
theorem heads_some {B : Book} (hB : BookOk B) {ns : Nums} (hk : ns.map (·.1) = orderL B) : ((keysOf B.trs (false, B.top)).filterMap (GA.numAt ns) = []) ↔ (orderL B = []) := by
  constructor
  · intro h
    refine List.eq_nil_iff_forall_not_mem.mpr fun y hy => ?_
    have hyu := (List.mem_filter.mp hy).2
    have hr := (used_mem hB).mp (by simpa using hyu)
    have key : ∀ {y : Str}, Reach (rowsOf B.trs) (ending (rowsOf B.trs)) (keysOf B.trs (false, B.top)) y → ∃ x, x ∈ keysOf B.trs (false, B.top) ∧ x ∈ ending (rowsOf B.trs) := by
      intro y hr
      induction hr with
      | top h k => exact ⟨_, h, k⟩
      | step _ _ _ _ _ ih => exact ih
    obtain ⟨x, hx1, hx2⟩ := key hr
    have hxu : x ∈ usedL B := (used_mem hB).mpr (.top hx1 hx2)
    have hxk : x ∈ B.keys := by rw [← keys_rows]; exact ending_sub _ x hx2
    have hxo : x ∈ orderL B := List.mem_filter.mpr ⟨hxk, by simpa using hxu⟩
    obtain ⟨n, hn⟩ := num_some (ns := ns) (x := x) (by rw [hk]; exact hxo)
    have : n ∈ (keysOf B.trs (false, B.top)).filterMap (GA.numAt ns) := List.mem_filterMap.mpr ⟨x, hx1, hn⟩
    rw [h] at this
    cases this
  · intro h
    rw [h] at hk
    have hns : ns = [] := by simpa using hk
    rw [hns]
    refine List.eq_nil_iff_forall_not_mem.mpr fun y hy => ?_
    obtain ⟨x, _, h2⟩ := List.mem_filterMap.mp hy
    cases h2
theorem order_ne {B : Book} (hB : BookOk B) (h : usedL B ≠ []) : orderL B ≠ [] := by
  intro h0
  obtain ⟨y, hy⟩ := List.exists_mem_of_ne_nil _ h
  have hr := (used_mem hB).mp hy
  have hk := ending_sub _ y hr.known
  rw [keys_rows] at hk
  have : y ∈ orderL B := List.mem_filter.mpr ⟨hk, by simpa using hy⟩
  rw [h0] at this
  cases this

end GA
namespace GA
open PySem VM
/-! ### next_of, heights_of -/
def nextP (sps : List Spot) (L : List Str) : Option (List Nat × Str) := sps.findSome? fun sp => (sp.2.2.find? fun y => decide (y ∈ L)).map fun y => (sp.1, y)
def optNx : Option (List Nat × Str) → D
  | some (p, y) => .tup [plD p, .str y]
  | none => .non
theorem nextP_none {sps : List Spot} {L : List Str} (h : nextP sps L = none) : ∀ sp ∈ sps, ∀ y ∈ sp.2.2, y ∉ L := by
  unfold nextP at h
  rw [List.findSome?_eq_none_iff] at h
  intro sp hsp y hy hyL
  have h1 := h sp hsp
  rw [Option.map_eq_none_iff, List.find?_eq_none] at h1
  exact h1 y hy (by simpa using hyL)
theorem nextP_some {sps : List Spot} {L : List Str} {p : List Nat} {y : Str} (h : nextP sps L = some (p, y)) : y ∈ L ∧ ∃ sp ∈ sps, y ∈ sp.2.2 := by
  unfold nextP at h
  obtain ⟨sp, hsp, h1⟩ := List.exists_of_findSome?_eq_some h
  cases e : sp.2.2.find? fun y => decide (y ∈ L) with
  | none => rw [e] at h1; cases h1
  | some z =>
    rw [e] at h1
    cases h1
    exact ⟨by simpa using List.find?_some e, sp, hsp, List.mem_of_find?_eq_some e⟩
theorem knD_filter (L : List Str) (x : Str) : (knD L).filter (fun kv => decide (kv.1 ≠ .inr x)) = knD (L.filter fun y => decide (y ≠ x)) := by
  unfold knD
  rw [List.filter_map]
  congr 1
  refine List.filter_congr fun y _ => ?_
  show decide ((Sum.inr y : L2.Key) ≠ .inr x) = decide (y ≠ x)
  by_cases h : y = x
  · subst h; simp
  · have : (Sum.inr y : L2.Key) ≠ .inr x := fun z => h (Sum.inr.inj z)
    simp [h, this]
theorem dropD_kn {S : Sto} {n : Nat} {L : List Str} {x : Str} (h : dicU S n = some (knD L)) (hx : x ∈ L) : dropD S n (.str x) = some (.bl true, S.set n (.dic (knD (L.filter fun y => decide (y ≠ x))))) := by
  unfold dropD
  rw [dicU_get.mp h]
  simp only [keyD]
  rw [lkD_kn, if_pos hx]
  simp only
  rw [knD_filter]
structure HasHts (tbl : List (Nat × Fd)) : Prop extends HasNums tbl where
  next : tbl.lookup 13 = some ⟨2, 6, b_next_of⟩
  hts : tbl.lookup 14 = some ⟨2, 6, b_heights_of⟩
section
variable {sub : Nat → Nat → Bool} {tbl : List (Nat × Fd)} {k : Nat} {S : Sto}
theorem next_sp (hp : HasHts tbl) {d : D} {ln : Nat} {sps : List Spot} {L : List Str} (h1 : SpotsAt S d sps) (h2 : dicAt S ln = some (knD L)) :
    Wx NoX (callN sub tbl (k + 1) 13 [d, .ref ln] S) fun d' S' => d' = optNx (nextP sps L) ∧ S' = S := by
  refine Wp.gen fun Q hQ => ?_
  obtain ⟨r, ds, rfl, hr, hA⟩ := h1
  refine wp_call hp.next rfl ?_
  unfold b_next_of
  rw [wp_cons]
  try walk_at "ev1"
  refine wp_fR (ds := ds) (fun i ρ S' => ∃ x2 x3 x4 x5, ρ = [some (.ref r), some (.ref ln), x2, x3, x4, x5] ∧ S' = S ∧ nextP (sps.take i) L = none) ⟨_, _, _, _, rfl, rfl, rfl⟩ ?_ ?_ ?_
  · rintro i ρ S' ⟨_, _, _, _, _, rfl, _⟩
    exact hr
  · rintro i d ρ S' hd ⟨x2, x3, x4, x5, rfl, rfl, hn⟩ J hJ
    obtain ⟨sp, esp, kr, rfl, hkr⟩ := hA.get hd
    have htk : sps.take (i + 1) = sps.take i ++ [sp] := by rw [List.take_succ, esp]; rfl
    refine ⟨_, rfl, ?_⟩
    rw [wp_cons]
    try walk_at "ev1"
    refine wp_fR (ds := sp.2.2.map D.str) (fun m ρ S'' => ∃ x5, ρ = [some (.ref r), some (.ref ln), some (plD sp.1), some (.bl sp.2.1), some (.ref kr), x5] ∧ S'' = S' ∧ ∀ y ∈ sp.2.2.take m, y ∉ L) ⟨_, rfl, rfl, fun y h => by simp at h⟩ ?_ ?_ ?_
    · rintro m ρ S'' ⟨_, _, rfl, _⟩
      exact hkr
    · rintro m d ρ S'' hd2 ⟨x5, rfl, rfl, hno⟩ J2 hJ2
      rw [List.getElem?_map] at hd2
      cases ey : sp.2.2[m]? with
      | none => rw [ey] at hd2; cases hd2
      | some y =>
        rw [ey] at hd2
        cases hd2
        have htm : sp.2.2.take (m + 1) = sp.2.2.take m ++ [y] := by rw [List.take_succ, ey]; rfl
        have hin := in_kn (x := y) h2
        refine ⟨_, rfl, ?_⟩
        rw [wp_cons]
        try walk_at "ev1"
        cases hb : decide (y ∈ L) with
        | true =>
          have hyL : y ∈ L := of_decide_eq_true hb
          have hnp : nextP sps L = some (sp.1, y) := by
            unfold nextP at hn ⊢
            rw [List.findSome?_eq_none_iff] at hn
            have hsplit : sps = sps.take i ++ sp :: sps.drop (i + 1) := by
              obtain ⟨hi, he⟩ := List.getElem?_eq_some_iff.mp esp
              rw [← he, List.getElem_cons_drop, List.take_append_drop]
            rw [hsplit, List.findSome?_append]
            have h0 : (sps.take i).findSome? (fun sp => (sp.2.2.find? fun y => decide (y ∈ L)).map fun y => (sp.1, y)) = none := List.findSome?_eq_none_iff.mpr hn
            rw [h0, Option.none_or, List.findSome?_cons]
            have hf : (sp.2.2.find? fun y => decide (y ∈ L)) = some y := by
              refine find_snoc ey ?_ hb
              rw [List.find?_eq_none]
              exact fun z hz => by simpa using hno z hz
            rw [hf]
            rfl
          have := hQ (.tup [plD sp.1, .str y]) S'' ⟨by rw [hnp]; rfl, rfl⟩
          clear hQ hJ hJ2
          try walk_at "ev"
        | false =>
          have hyL : y ∉ L := of_decide_eq_false hb
          have := hJ2 [some (.ref r), some (.ref ln), some (plD sp.1), some (.bl sp.2.1), some (.ref kr), some (.str y)] S'' ⟨_, rfl, rfl, fun z hz => by
            rw [htm, List.mem_append, List.mem_singleton] at hz
            rcases hz with hz | rfl
            · exact hno z hz
            · exact hyL⟩
          clear hQ hJ hJ2
          try walk_at "ev"
    · rintro ρ S'' ⟨x5, rfl, rfl, hno⟩
      rw [List.length_map, List.take_length] at hno
      have := hJ [some (.ref r), some (.ref ln), some (plD sp.1), some (.bl sp.2.1), some (.ref kr), x5] S'' ⟨_, _, _, _, rfl, rfl, by
        unfold nextP at hn ⊢
        rw [htk, List.findSome?_append, hn, Option.none_or, List.findSome?_cons]
        have hf : (sp.2.2.find? fun y => decide (y ∈ L)) = none := by
          rw [List.find?_eq_none]
          exact fun z hz => by simpa using hno z hz
        rw [hf]
        rfl⟩
      clear hQ hJ
      try walk_at "ev"
  · rintro ρ S' ⟨x2, x3, x4, x5, rfl, rfl, hn⟩
    rw [hA.1, List.take_length] at hn
    have := hQ .non S' ⟨by rw [hn]; rfl, rfl⟩
    clear hQ
    try walk_at "ev"
end
/-- the numbers so far: each is reckoned from those ahead, which have all of use that can be put in -/
def GoodN (rows : List (Str × List Spot)) (U : List Str) (ns : Nums) : Prop := ∀ (i : Nat) (x : Str) (n : Int), ns[i]? = some (x, n) →
  n = heightOf (spAt rows x) (ns.take i) ∧ ∀ sp ∈ spAt rows x, ∀ y ∈ sp.2.2, y ∈ U → y ∈ (ns.take i).map (·.1)
structure HtsI (rows : List (Str × List Spot)) (U : List Str) (ns : Nums) (L : List Str) : Prop where
  good : GoodN rows U ns
  nd : (ns.map (·.1)).Nodup
  ndL : L.Nodup
  sub : ∀ x ∈ ns.map (·.1), x ∈ U
  subL : ∀ x ∈ L, x ∈ U
  all : ∀ x ∈ U, x ∈ L ∨ x ∈ ns.map (·.1)
  dis : ∀ x ∈ L, x ∉ ns.map (·.1)
theorem HtsI.start {rows : List (Str × List Spot)} {U : List Str} (h : U.Nodup) : HtsI rows U [] U :=
  ⟨fun i x n e => (by simp at e), List.nodup_nil, h, fun x h => (by cases h), fun x h => h, fun x h => .inl h, fun x _ h => (by cases h)⟩
theorem HtsI.step {rows : List (Str × List Spot)} {U : List Str} {ns : Nums} {L : List Str} {x : Str} (h : HtsI rows U ns L) (hx : x ∈ L) (hn : nextP (spAt rows x) L = none) :
    HtsI rows U (ns ++ [(x, heightOf (spAt rows x) ns)]) (L.filter fun y => decide (y ≠ x)) := by
  have hni := h.dis x hx
  refine ⟨fun i y n e => ?_, ?_, h.ndL.filter _, fun y hy => ?_, fun y hy => h.subL y (List.mem_filter.mp hy).1, fun y hy => ?_, fun y hy hy2 => ?_⟩
  · by_cases hi : i < ns.length
    · rw [List.getElem?_append_left hi] at e
      rw [List.take_append_of_le_length (by omega)]
      exact h.good i y n e
    · rw [List.getElem?_append_right (by omega)] at e
      have hi2 : i - ns.length = 0 := by
        have := (List.getElem?_eq_some_iff.mp e).1
        simp at this
        omega
      rw [hi2] at e
      cases e
      have hi3 : i = ns.length := by omega
      subst hi3
      rw [List.take_left]
      refine ⟨rfl, fun sp hsp y hy hyU => ?_⟩
      exact (h.all y hyU).resolve_left (nextP_none hn sp hsp y hy)
  · rw [List.map_append]
    refine List.nodup_append.mpr ⟨h.nd, by simp, fun a ha b hb e => ?_⟩
    have : b = x := by simpa using hb
    subst this
    subst e
    exact hni ha
  · rw [List.map_append, List.mem_append] at hy
    rcases hy with hy | hy
    · exact h.sub y hy
    · have : y = x := by simpa using hy
      subst this
      exact h.subL y hx
  · rw [List.map_append, List.mem_append]
    by_cases e : y = x
    · exact .inr (.inr (by simp [e]))
    · rcases h.all y hy with h1 | h1
      · exact .inl (List.mem_filter.mpr ⟨h1, by simpa using e⟩)
      · exact .inr (.inl h1)
  · rw [List.map_append, List.mem_append] at hy2
    obtain ⟨h1, h2⟩ := List.mem_filter.mp hy
    rcases hy2 with hy2 | hy2
    · exact h.dis y h1 hy2
    · have : y = x := by simpa using hy2
      simp [this] at h2

end GA
namespace GA
open PySem VM
section
variable {sub : Nat → Nat → Bool} {tbl : List (Nat × Fd)} {k : Nat} {S : Sto}
theorem htsI_len {rows : List (Str × List Spot)} {U : List Str} {ns : Nums} {L : List Str} (h : HtsI rows U ns L) : ns.length ≤ U.length := by
  have := nodup_le _ _ h.nd h.sub
  rwa [List.length_map] at this
theorem hts_sp (hp : HasHts tbl) {B : Book} (hB : BookOk B) {rn un : Nat} {U : List Str} (hR : RowsAt S rn (rowsOf B.trs)) (hu : lstAt S un = some (U.map .str)) (hU : U.Nodup) (hUk : ∀ x ∈ U, x ∈ B.keys) (hUl : U.length ≤ 6) :
    Wx NoX (callN sub tbl (k + 3) 14 [.ref rn, .ref un] S) fun d S' => Ext S S' ∧ ∃ nd ld ns L, d = .tup [.ref nd, .ref ld] ∧ dicU S' nd = some (nmsD ns) ∧ dicU S' ld = some (knD L) ∧ HtsI (rowsOf B.trs) U ns L ∧ ∀ x ∈ L, nextP (spAt (rowsOf B.trs) x) L ≠ none := by
  refine Wp.gen fun Q hQ => ?_
  have sz : sizeLine = 16777216 := rfl
  have hUD : (U.map D.str).length = U.length := List.length_map _
  generalize hrows : rowsOf B.trs = rows at *
  refine wp_call hp.hts rfl ?_
  unfold b_heights_of
  rw [wp_cons]
  try walk_at "ev1"
  rw [seqQ_nx, wp_cons]
  try walk_at "ev1"
  have l1 : (S ++ [O.dic []]).length = S.length + 1 := by simp
  have hN0 : dicU (S ++ [.dic []] ++ [.dic []]) S.length = some (nmsD []) := by rw [dicU_app (by simp)]; exact dicU_newE rfl
  have hL0 : dicU (S ++ [.dic []] ++ [.dic []]) (S.length + 1) = some (knD []) := dicU_newE (by simp)
  have X0 : Ext S (S ++ [.dic []] ++ [.dic []]) := (Ext.app _ _).app1 _
  have hnl : S.length < (S ++ [O.dic []] ++ [O.dic []]).length := by simp
  try rw [l1]
  clear l1
  have hu0 := X0.lst hu
  generalize S ++ [.dic []] ++ [.dic []] = S1 at *
  rw [seqQ_nx, wp_cons]
  try walk_at "ev1"
  refine wp_fR (ds := U.map D.str) (fun i ρ S' => ∃ x4, ρ = [some (.ref rn), some (.ref un), some (.ref S.length), some (.ref (S.length + 1)), x4, none] ∧ Ext S S' ∧ dicU S' S.length = some (nmsD []) ∧ dicU S' (S.length + 1) = some (knD (U.take i))) ⟨_, rfl, X0, hN0, hL0⟩ ?_ ?_ ?_
  · rintro i ρ S' ⟨_, _, X, _⟩
    exact X.lst hu
  · rintro i d ρ S' hd ⟨x4, rfl, X, hN, hL⟩ J hJ
    rw [List.getElem?_map] at hd
    cases e : U[i]? with
    | none => rw [e] at hd; cases hd
    | some x =>
      rw [e] at hd
      cases hd
      have htk : U.take (i + 1) = U.take i ++ [x] := by rw [List.take_succ, e]; rfl
      have hni : x ∉ U.take i := by
        intro hx
        obtain ⟨j, hj⟩ := List.getElem?_of_mem hx
        have hji : j < i := by
          have := (List.getElem?_eq_some_iff.mp hj).1
          rw [List.length_take] at this
          omega
        rw [List.getElem?_take_of_lt hji] at hj
        obtain ⟨hi1, hi2⟩ := List.getElem?_eq_some_iff.mp e
        obtain ⟨hj1, hj2⟩ := List.getElem?_eq_some_iff.mp hj
        exact (List.pairwise_iff_getElem.mp hU) j i hj1 hi1 hji (by rw [hi2, hj2])
      have hkl : (knD (U.take i)).length ≤ 6 := by unfold knD; rw [List.length_map, List.length_take]; omega
      have hdl := dicAt_lt (dicU_at hL)
      refine ⟨_, rfl, ?_⟩
      rw [wp_cons]
      try walk_at "ev1"
      refine ⟨_, ⟨by omega, rfl⟩, ?_⟩
      rw [putD_kn]
      refine hJ _ _ ⟨_, rfl, X.set (by omega) _, by rw [dicU_set_ne (by omega)]; exact hN, ?_⟩
      rw [dicU_set hdl, htk]
      unfold addK
      rw [if_neg hni]
  rintro ρ S2 ⟨x4, rfl, X2, hN2, hL2⟩
  rw [List.length_map, List.take_length] at hL2
  rw [seqQ_nx, wp_cons]
  try walk_at "ev1"
  rw [seqQ_nx, wp_cons]
  try walk_at "ev1"
  refine wp_while (fun m ρ S' => ∃ (mr : Bool) (x4 : Option D) (ns : Nums) (L : List Str), ρ = [some (.ref rn), some (.ref un), some (.ref S.length), some (.ref (S.length + 1)), x4, some (.bl mr)] ∧ Ext S S' ∧ dicU S' S.length = some (nmsD ns) ∧ dicU S' (S.length + 1) = some (knD L) ∧ HtsI rows U ns L ∧
    (mr = false → ∀ x ∈ L, nextP (spAt rows x) L ≠ none) ∧ m = L.length + (if mr then 1 else 0)) (U.length + 1) ?_ ?_
  · exact ⟨true, _, [], U, rfl, X2, hN2, hL2, .start hU, fun z => (by cases z), rfl⟩
  · rintro m ρ S3 ⟨mr, x4, ns, L, rfl, X3, hN3, hL3, hI, hst, rfl⟩
    try walk_at "ev1"
    cases mr with
    | false =>
      rw [if_neg (by decide)]
      try walk_at "ev"
      exact hQ _ _ ⟨X3, _, _, ns, L, rfl, hN3, hL3, hI, hst rfl⟩
    | true =>
      rw [if_pos rfl, wp_cons]
      try walk_at "ev1"
      have hu3 := X3.lst hu
      rw [seqQ_nx, wp_cons]
      try walk_at "ev1"
      refine wp_fR (ds := U.map D.str) (fun i ρ S' => ∃ (mr : Bool) (x4 : Option D) (ns' : Nums) (L' : List Str), ρ = [some (.ref rn), some (.ref un), some (.ref S.length), some (.ref (S.length + 1)), x4, some (.bl mr)] ∧ Ext S S' ∧ dicU S' S.length = some (nmsD ns') ∧ dicU S' (S.length + 1) = some (knD L') ∧ HtsI rows U ns' L' ∧
        (mr = false → L' = L ∧ ∀ x ∈ U.take i, x ∈ L → nextP (spAt rows x) L ≠ none) ∧ (mr = true → L'.length < L.length)) ?_ ?_ ?_ ?_
      · exact ⟨false, _, ns, L, rfl, X3, hN3, hL3, hI, fun _ => ⟨rfl, fun x h => by simp at h⟩, fun z => (by cases z)⟩
      · rintro i ρ S' ⟨_, _, _, _, _, X, _⟩
        exact X.lst hu
      · rintro i d ρ S4 hd ⟨mr, x4, ns', L', rfl, X4, hN4, hL4, hI4, hs0, hs1⟩ J hJ
        rw [List.getElem?_map] at hd
        cases e : U[i]? with
        | none => rw [e] at hd; cases hd
        | some x =>
          rw [e] at hd
          cases hd
          have htk : U.take (i + 1) = U.take i ++ [x] := by rw [List.take_succ, e]; rfl
          have hxU := List.mem_of_getElem? e
          have hR4 := hR.ext X4
          rw [← hrows] at hR4
          obtain ⟨kvs, d, hD, hl, hsp, r, hr, hre⟩ := spots_key hR4 (hUk x hxU)
          rw [hrows] at hsp
          have hspl : (spAt rows x).length ≤ 100000 := by rw [← hrows, hre]; exact spots_len hB r hr
          have hspk : ∀ sp ∈ spAt rows x, sp.2.2.length ≤ 100000 := by rw [← hrows, hre]; exact rows_keys_len hB r hr
          clear hre hr
          have hLA := dicU_at hL4
          have hin := in_kn (x := x) hLA
          refine ⟨_, rfl, ?_⟩
          rw [wp_cons]
          try walk_at "ev1"
          cases hb : decide (x ∈ L') with
          | false =>
            have hxL : x ∉ L' := of_decide_eq_false hb
            rw [andQ_f, ifQ_f, wp_nil, seqQ_nx, wp_nil, forQ_nx]
            refine hJ _ _ ⟨mr, _, ns', L', rfl, X4, hN4, hL4, hI4, fun z => ?_, hs1⟩
            obtain ⟨a, b⟩ := hs0 z
            refine ⟨a, fun y hy hyL => ?_⟩
            rw [htk, List.mem_append, List.mem_singleton] at hy
            rcases hy with hy | rfl
            · exact b y hy hyL
            · rw [a] at hxL; exact absurd hyL hxL
          | true =>
            have hxL : x ∈ L' := of_decide_eq_true hb
            rw [andQ_t]
            try walk_at "ev1"
            refine (next_sp hp (k := k + 1) hsp hLA).mono ?_
            rintro _ S5 ⟨rfl, rfl⟩
            try walk_at "ev1"
            cases hnx : nextP (spAt rows x) L' with
            | some q =>
              obtain ⟨p, y⟩ := q
              have : isNon (optNx (some (p, y))) = false := rfl
              rw [this, ifQ_f, wp_nil, seqQ_nx, wp_nil, forQ_nx]
              refine hJ _ _ ⟨mr, _, ns', L', rfl, X4, hN4, hL4, hI4, fun z => ?_, hs1⟩
              obtain ⟨a, b⟩ := hs0 z
              refine ⟨a, fun y hy hyL => ?_⟩
              rw [htk, List.mem_append, List.mem_singleton] at hy
              rcases hy with hy | rfl
              · exact b y hy hyL
              · rw [← a, hnx]
                exact fun z => by cases z
            | none =>
              have hnn : isNon (optNx none) = true := rfl
              rw [hnn, ifQ_t, wp_cons]
              have hni := hI4.dis x hxL
              have hNl : (nmsD ns').length ≤ 6 := by rw [nmsD_len]; have := htsI_len hI4; omega
              have hNA := dicU_at hN4
              have hNlt := dicAt_lt hNA
              have hLlt := dicAt_lt hLA
              try walk_at "ev1"
              refine (height_sp hp.toHasNums (k := k) hsp hspl hspk hNA).mono ?_
              rintro _ S6 ⟨rfl, X6⟩
              have hN6 := X6.dicU hN4
              have hL6 := X6.dicU hL4
              have hN6l := dicAt_lt (dicU_at hN6)
              have hL6l := dicAt_lt (dicU_at hL6)
              have hI6 := hI4.step hxL hnx
              generalize heightOf (spAt rows x) ns' = v at *
              refine ⟨_, ⟨_, hN6, by omega, rfl⟩, ?_⟩
              rw [putD_nms hni]
              have hL7 : dicU (S6.set S.length (.dic (nmsD (ns' ++ [(x, v)])))) (S.length + 1) = some (knD L') := by rw [dicU_set_ne (by omega)]; exact hL6
              have hN7 : dicU (S6.set S.length (.dic (nmsD (ns' ++ [(x, v)])))) S.length = some (nmsD (ns' ++ [(x, v)])) := dicU_set hN6l
              have X7 : Ext S (S6.set S.length (.dic (nmsD (ns' ++ [(x, v)])))) := (X4.trans X6).set (Nat.le_refl _) _
              generalize S6.set S.length (.dic (nmsD (ns' ++ [(x, v)]))) = S7 at *
              have hL7l := dicAt_lt (dicU_at hL7)
              have hdr := dropD_kn hL7 hxL
              have hisd := dicAt_isDic (dicU_at hL7)
              rw [seqQ_nx, wp_cons]
              try walk_at "ev1"
              refine ⟨_, _, rfl, ?_⟩
              rw [seqQ_nx, wp_cons]
              try walk_at "ev1"
              refine hJ _ _ ⟨true, _, _, _, rfl, X7.set (by omega) _, by rw [dicU_set_ne (by omega)]; exact hN7, dicU_set hL7l, hI6, fun z => (by cases z), fun _ => ?_⟩
              have hlt : (L'.filter fun y => decide (y ≠ x)).length < L'.length := by
                refine List.length_filter_lt_length_iff_exists.mpr ⟨x, hxL, by simp⟩
              cases mr with
              | true => have := hs1 rfl; omega
              | false => rw [(hs0 rfl).1] at hlt; rw [(hs0 rfl).1]; exact hlt
      · rintro ρ S4 ⟨mr, x4, ns', L', rfl, X4, hN4, hL4, hI4, hs0, hs1⟩
        rw [List.length_map, List.take_length] at hs0
        rw [seqQ_nil, forQ_nx]
        cases mr with
        | false =>
          obtain ⟨a, b⟩ := hs0 rfl
          subst a
          exact ⟨L'.length, by simp, false, _, ns', L', rfl, X4, hN4, hL4, hI4, fun _ x hx => b x (hI4.subL x hx) hx, rfl⟩
        | true =>
          have := hs1 rfl
          exact ⟨L'.length + 1, by simp; omega, true, _, ns', L', rfl, X4, hN4, hL4, hI4, fun z => (by cases z), rfl⟩
end

end GA
namespace GA
open PySem VM
/-! ### round_in, way_to -/
def idxN : List Str → Nat → Nums
  | [], _ => []
  | x :: xs, i => (x, (i : Int)) :: idxN xs (i + 1)
theorem idxN_snoc (y : Str) : ∀ (xs : List Str) (i : Nat), idxN (xs ++ [y]) i = idxN xs i ++ [(y, ((i + xs.length : Nat) : Int))]
  | [], i => rfl
  | x :: xs, i => by
    show (x, (i : Int)) :: idxN (xs ++ [y]) (i + 1) = _
    rw [idxN_snoc y xs (i + 1)]
    show _ = (x, (i : Int)) :: (idxN xs (i + 1) ++ _)
    rw [show i + 1 + xs.length = i + (x :: xs).length by simp; omega]
theorem idxN_keys : ∀ (xs : List Str) (i : Nat), (idxN xs i).map (·.1) = xs
  | [], _ => rfl
  | x :: xs, i => by show x :: (idxN xs (i + 1)).map (·.1) = _; rw [idxN_keys xs]
theorem idxN_at {y : Str} {n : Int} : ∀ (xs : List Str) (i : Nat), numAt (idxN xs i) y = some n → ∃ j : Nat, n = ((i + j : Nat) : Int) ∧ xs[j]? = some y
  | [], i, h => by cases h
  | x :: xs, i, h => by
    unfold GA.numAt idxN at h
    by_cases e : x = y
    · rw [List.find?_cons_of_pos (by simpa using e)] at h
      cases h
      exact ⟨0, rfl, by rw [← e]; rfl⟩
    · rw [List.find?_cons_of_neg (by simpa using e)] at h
      obtain ⟨j, h1, h2⟩ := idxN_at xs (i + 1) h
      exact ⟨j + 1, by rw [h1]; congr 1; omega, by simpa using h2⟩
structure HasEndless0 (tbl : List (Nat × Fd)) : Prop extends HasHts tbl where
  ring : tbl.lookup 15 = some ⟨2, 7, b_round_in⟩
  way : tbl.lookup 16 = some ⟨2, 7, b_way_to⟩
def entD (q : Str × D) : D := .tup [.str q.1, q.2]
def parK : D → L2.Key × D
  | .tup [.str x, pa, pl] => (.inr x, .tup [pa, pl])
  | _ => (.inl 0, .non)
section
variable {sub : Nat → Nat → Bool} {tbl : List (Nat × Fd)} {k : Nat} {S : Sto}
theorem ring_sp (hp : HasEndless0 tbl) {B : Book} (hB : BookOk B) {rn ld : Nat} {L : List Str} (hR : RowsAt S rn (rowsOf B.trs)) (hL : dicU S ld = some (knD L)) (hne : L ≠ []) (hLk : ∀ x ∈ L, x ∈ B.keys) (hLl : L.length ≤ 6) (hst : ∀ x ∈ L, nextP (spAt (rowsOf B.trs) x) L ≠ none) :
    Wx NoX (callN sub tbl (k + 2) 15 [.ref rn, .ref ld] S) fun d S' => ∃ r x pl rest, d = .ref r ∧ Ext S S' ∧ lstAt S' r = some (.tup [.str x, pl] :: rest) ∧ x ∈ L := by
  refine Wp.gen fun Q hQ => ?_
  have sz : sizeLine = 16777216 := rfl
  have hLlt := dicAt_lt (dicU_at hL)
  refine wp_call hp.ring rfl ?_
  unfold b_round_in
  rw [wp_cons]
  try walk_at "ev1"
  rw [seqQ_nx, wp_cons]
  try walk_at "ev1"
  have l1 : (S ++ [O.lst []]).length = S.length + 1 := by simp
  have hP0 : lstAt (S ++ [.lst []] ++ [.dic []]) S.length = some [] := by rw [lstAt_app (by simp)]; exact lstAt_new
  have hN0 : dicU (S ++ [.lst []] ++ [.dic []]) (S.length + 1) = some (nmsD []) := dicU_newE (by simp)
  have X0 : Ext S (S ++ [.lst []] ++ [.dic []]) := (Ext.app _ _).app1 _
  have hlen0 : (S ++ [O.lst []] ++ [O.dic []]).length = S.length + 2 := by simp
  try rw [l1]
  clear l1
  generalize S ++ [.lst []] ++ [.dic []] = S1 at *
  have hL1 := X0.dicU hL
  have hL1l : lstAt S1 ld = none := dicAt_lst (dicU_at hL1)
  have hL1d := dicU_at hL1
  rw [seqQ_nx, wp_cons]
  try walk_at "ev1"
  obtain ⟨x0, hx0⟩ : ∃ x0, L[0]? = some x0 := by
    cases L with
    | nil => exact absurd rfl hne
    | cons x L => exact ⟨x, rfl⟩
  have hk0 : ((knD L).map fun kv => kD kv.1)[0]? = some (.str x0) := by
    unfold knD
    rw [List.map_map, List.getElem?_map, hx0]
    rfl
  have hX2 : Ext S (S1 ++ [.lst ((knD L).map fun kv => kD kv.1)]) := X0.app1 _
  have hP2 : lstAt (S1 ++ [.lst ((knD L).map fun kv => kD kv.1)]) S.length = some [] := by rw [lstAt_app (by omega)]; exact hP0
  have hN2 : dicU (S1 ++ [.lst ((knD L).map fun kv => kD kv.1)]) (S.length + 1) = some (nmsD []) := by rw [dicU_app (by omega)]; exact hN0
  have hnew : lstAt (S1 ++ [.lst ((knD L).map fun kv => kD kv.1)]) S1.length = some ((knD L).map fun kv => kD kv.1) := lstAt_new
  generalize S1 ++ [.lst ((knD L).map fun kv => kD kv.1)] = S2 at *
  refine ⟨_, hk0, ?_⟩
  rw [seqQ_nx, wp_cons]
  try walk_at "ev1"
  refine wp_while (fun m ρ S' => ∃ (P : List (Str × D)) (x : Str) (x5 x6 : Option D), ρ = [some (.ref rn), some (.ref ld), some (.ref S.length), some (.ref (S.length + 1)), some (.str x), x5, x6] ∧ Ext S S' ∧ lstAt S' S.length = some (P.map entD) ∧ dicU S' (S.length + 1) = some (nmsD (idxN (P.map (·.1)) 0)) ∧ (P.map (·.1)).Nodup ∧ (∀ y ∈ P.map (·.1), y ∈ L) ∧ x ∈ L ∧ m = 7 - P.length) 7 ?_ ?_
  · exact ⟨[], x0, _, _, rfl, hX2, hP2, hN2, List.nodup_nil, fun y h => (by cases h), List.mem_of_getElem? hx0, rfl⟩
  · rintro m ρ S3 ⟨P, x, x5, x6, rfl, X3, hP3, hN3, hnd, hsub, hxL, rfl⟩
    have hPl : P.length ≤ L.length := by
      have := nodup_le _ _ hnd hsub
      rwa [List.length_map] at this
    have hNA := dicU_at hN3
    have hin : inD (.str x) (.ref (S.length + 1)) S3 = some (decide (x ∈ P.map (·.1))) := by
      rw [in_nms hNA, numAt_mem, idxN_keys]
    have hPml : (P.map entD).length = P.length := List.length_map _
    try walk_at "ev1"
    cases hb : decide (x ∈ P.map (·.1)) with
    | true =>
      rw [if_neg (by decide)]
      have hxP := of_decide_eq_true hb
      obtain ⟨n, hn⟩ := num_some (ns := idxN (P.map (·.1)) 0) (x := x) (by rw [idxN_keys]; exact hxP)
      obtain ⟨j, hj, hjx⟩ := idxN_at _ _ hn
      rw [Nat.zero_add] at hj
      subst hj
      have hlk : lkD (nmsD (idxN (P.map (·.1)) 0)) (.inr x) = some (.int (j : Int)) := by rw [lkD_nms, hn]; rfl
      rw [List.getElem?_map] at hjx
      cases ej : P[j]? with
      | none => rw [ej] at hjx; cases hjx
      | some q =>
        rw [ej] at hjx
        cases hjx
        obtain ⟨hjl, hje⟩ := List.getElem?_eq_some_iff.mp ej
        have hdr : (P.map entD).drop j = entD q :: (P.map entD).drop (j + 1) := by
          have := List.drop_eq_getElem_cons (l := P.map entD) (i := j) (by simpa using hjl)
          rw [this, List.getElem_map, hje]
        have := hQ (.ref S3.length) (S3 ++ [.lst ((P.map entD).drop j)]) ⟨_, q.1, q.2, (P.map entD).drop (j + 1), rfl, X3.app1 _, by rw [hdr]; exact lstAt_new, hxL⟩
        clear hQ hin hdr
        rw [seqQ_nx, wp_cons]
        try walk_at "ev1"
    | false =>
      have hxP := of_decide_eq_false hb
      rw [if_pos (by rfl), wp_cons]
      have hR3 := hR.ext X3
      obtain ⟨kvs, dsp, hD, hl, hsp, _⟩ := spots_key hR3 (hLk x hxL)
      have hnx := hst x hxL
      have hNl : (nmsD (idxN (P.map (·.1)) 0)).length ≤ 6 := by
        rw [nmsD_len]
        have : ((idxN (P.map (·.1)) 0).map (·.1)).length ≤ 6 := by rw [idxN_keys, List.length_map]; omega
        rwa [List.length_map] at this
      have hNlt := dicAt_lt hNA
      try walk_at "ev1"
      refine ⟨_, ⟨by omega, rfl⟩, ?_⟩
      rw [putD_nms (by rw [idxN_keys]; exact hxP)]
      have hidx : idxN (P.map (·.1)) 0 ++ [(x, (P.length : Int))] = idxN (P.map (·.1) ++ [x]) 0 := by
        rw [idxN_snoc, Nat.zero_add, List.length_map]
      rw [hidx]
      have hN4 : dicU (S3.set (S.length + 1) (.dic (nmsD (idxN (P.map (·.1) ++ [x]) 0)))) (S.length + 1) = some (nmsD (idxN (P.map (·.1) ++ [x]) 0)) := dicU_set hNlt
      have hP4 : lstAt (S3.set (S.length + 1) (.dic (nmsD (idxN (P.map (·.1) ++ [x]) 0)))) S.length = some (P.map entD) := by rw [lstAt_set_ne (by omega)]; exact hP3
      have X4 : Ext S (S3.set (S.length + 1) (.dic (nmsD (idxN (P.map (·.1) ++ [x]) 0)))) := X3.set (by omega) _
      generalize S3.set (S.length + 1) (.dic (nmsD (idxN (P.map (·.1) ++ [x]) 0))) = S4 at *
      have hR4 := hR.ext X4
      have hL4 := dicU_at (X4.dicU hL)
      clear hD hl hsp hR3 hin hNA hN3 hP3
      obtain ⟨kvs4, dsp4, hD4, hl4, hsp4, _⟩ := spots_key hR4 (hLk x hxL)
      rw [seqQ_nx, wp_cons]
      try walk_at "ev1"
      refine (next_sp hp.toHasHts (k := k) hsp4 hL4).mono ?_
      rintro _ S5 ⟨rfl, rfl⟩
      cases e : nextP (spAt (rowsOf B.trs) x) L with
      | none => exact absurd e hnx
      | some q =>
        obtain ⟨p, y⟩ := q
        have hy := (nextP_some e).1
        have hPlt := lstAt_lt hP4
        rw [show optNx (some (p, y)) = .tup [plD p, .str y] from rfl, bindT_tp, setMany_cons, setMany_cons, setMany_nil]
        refine ⟨_, rfl, ?_⟩
        rw [seqQ_nx, wp_cons]
        try walk_at "ev1"
        refine ⟨by omega, ?_⟩
        rw [seqQ_nx, wp_cons]
        try walk_at "ev1"
        refine ⟨7 - (P.length + 1), by omega, P ++ [(x, plD p)], y, _, _, rfl, X4.set (Nat.le_refl _) _, ?_, ?_, ?_, ?_, hy, by rw [List.length_append]; rfl⟩
        · rw [List.map_append]; rfl
        · rw [List.map_append]; rfl
        · rw [List.map_append]
          refine List.nodup_append.mpr ⟨hnd, by simp, fun a ha b hb2 ee => ?_⟩
          have : b = x := by simpa using hb2
          subst this
          subst ee
          exact hxP ha
        · intro z hz
          rw [List.map_append, List.mem_append] at hz
          rcases hz with hz | hz
          · exact hsub z hz
          · have : z = x := by simpa using hz
            rw [this]; exact hxL
theorem way_sp (hp : HasEndless0 tbl) {cn : Nat} {bs : List D} {cs : List Str} {x : Str} (hc : lstAt S cn = some bs) (hC : Come bs cs) (hnd : cs.Nodup) (hx : x ∈ cs) (hl : cs.length ≤ 6) :
    Wx NoX (callN sub tbl (k + 1) 16 [.ref cn, .str x] S) fun d S' => ∃ r ds, d = .ref r ∧ Ext S S' ∧ lstAt S' r = some ds := by
  refine Wp.gen fun Q hQ => ?_
  have sz : sizeLine = 16777216 := rfl
  have hbl := hC.1.1
  refine wp_call hp.way rfl ?_
  unfold b_way_to
  rw [wp_cons]
  try walk_at "ev1"
  have hc0 := (Ext.app S [O.dic []]).lst hc
  have hD0 : dicU (S ++ [.dic []]) S.length = some [] := dicU_newE rfl
  have hent : ∀ (i : Nat) (d : D), bs[i]? = some d → ∃ (y : Str) (pa pl : D), cs[i]? = some y ∧ d = .tup [.str y, pa, pl] ∧ (pa = .non ∨ ∃ (j : Nat) (z : Str), j < i ∧ cs[j]? = some z ∧ pa = .str z) := by
    intro i d hd
    have hi := (List.getElem?_eq_some_iff.mp hd).1
    have hcy : cs[i]? = some cs[i] := List.getElem?_eq_getElem (by omega)
    obtain ⟨pds, _, e1⟩ := hC.1.2 i d _ hd hcy
    obtain ⟨x', pa, pl, e2, h⟩ := hC.2 i d hd
    rw [e1] at e2
    cases e2
    exact ⟨_, pa, pl, hcy, e1, h⟩
  have hnew : ∀ (i : Nat) (y : Str), cs[i]? = some y → ∀ kv ∈ (bs.take i).map parK, kv.1 ≠ .inr y := by
    intro i y hy kv hkv e
    obtain ⟨d, hd, rfl⟩ := List.mem_map.mp hkv
    obtain ⟨j, hj⟩ := List.getElem?_of_mem hd
    have hji : j < i := by
      have := (List.getElem?_eq_some_iff.mp hj).1
      rw [List.length_take] at this
      omega
    rw [List.getElem?_take_of_lt hji] at hj
    obtain ⟨z, pa, pl, hz, rfl, _⟩ := hent j d hj
    have e : (Sum.inr z : L2.Key) = .inr y := e
    have e := Sum.inr.inj e
    subst e
    obtain ⟨hi1, hi2⟩ := List.getElem?_eq_some_iff.mp hy
    obtain ⟨hj1, hj2⟩ := List.getElem?_eq_some_iff.mp hz
    exact (List.pairwise_iff_getElem.mp hnd) j i hj1 hi1 hji (by rw [hi2, hj2])
  rw [seqQ_nx, wp_cons]
  try walk_at "ev1"
  refine wp_fR (ds := bs) (fun i ρ S' => ∃ x4 x5 x6, ρ = [some (.ref cn), some (.str x), some (.ref S.length), none, x4, x5, x6] ∧ Ext S S' ∧ dicU S' S.length = some ((bs.take i).map parK)) ⟨_, _, _, rfl, Ext.app _ _, hD0⟩ ?_ ?_ ?_
  · rintro i ρ S' ⟨_, _, _, _, X, _⟩
    exact X.lst hc
  · rintro i d ρ S' hd ⟨x4, x5, x6, rfl, X, hD⟩ J hJ
    obtain ⟨y, pa, pl, hy, rfl, _⟩ := hent i d hd
    have hn := hnew i y hy
    have htk : bs.take (i + 1) = bs.take i ++ [.tup [.str y, pa, pl]] := by rw [List.take_succ, hd]; rfl
    have hdl : ((bs.take i).map parK).length ≤ 6 := by rw [List.length_map, List.length_take]; omega
    have hlt := dicAt_lt (dicU_at hD)
    clear hent hnew
    refine ⟨_, rfl, ?_⟩
    rw [wp_cons]
    try walk_at "ev1"
    refine ⟨_, ⟨by omega, rfl⟩, ?_⟩
    rw [putD_new _ hn]
    refine hJ _ _ ⟨_, _, _, rfl, X.set (Nat.le_refl _) _, ?_⟩
    rw [dicU_set hlt, htk, List.map_append]
    rfl
  rintro ρ S2 ⟨x4, x5, x6, rfl, X2, hD2⟩
  rw [List.take_length] at hD2
  have look : ∀ (i : Nat) (y : Str), cs[i]? = some y → ∃ pa pl, lkD (bs.map parK) (.inr y) = some (.tup [pa, pl]) ∧ (pa = .non ∨ ∃ (j : Nat) (z : Str), j < i ∧ cs[j]? = some z ∧ pa = .str z) := by
    intro i y hy
    have hi := (List.getElem?_eq_some_iff.mp hy).1
    obtain ⟨d, hd⟩ : ∃ d, bs[i]? = some d := ⟨bs[i]'(by omega), List.getElem?_eq_getElem _⟩
    obtain ⟨y', pa, pl, hy', rfl, h⟩ := hent i d hd
    rw [hy] at hy'
    cases hy'
    refine ⟨pa, pl, lkD_at (i := i) (by rw [List.getElem?_map, hd]; rfl) (fun j kv hj hkv => ?_), h⟩
    refine hnew i y hy kv ?_
    rw [List.getElem?_map] at hkv
    cases ej : bs[j]? with
    | none => rw [ej] at hkv; cases hkv
    | some dj =>
      rw [ej] at hkv
      cases hkv
      exact List.mem_map.mpr ⟨dj, List.mem_of_getElem? (i := j) (by rw [List.getElem?_take_of_lt hj]; exact ej), rfl⟩
  clear hent hnew
  obtain ⟨i0, hi0⟩ := List.getElem?_of_mem hx
  have hi0l := (List.getElem?_eq_some_iff.mp hi0).1
  obtain ⟨pa0, pl0, hlk0, hpa0⟩ := look i0 x hi0
  have X3 : Ext S2 (S2 ++ [.lst []]) := Ext.app _ _
  have hD3 := dicU_at (X3.dicU hD2)
  have hW3 : lstAt (S2 ++ [.lst []]) S2.length = some [] := lstAt_new
  have hD2l := dicAt_lt (dicU_at hD2)
  have hle := X2.len
  rw [seqQ_nx, wp_cons]
  try walk_at "ev1"
  rw [seqQ_nx, wp_cons]
  try walk_at "ev1"
  rw [seqQ_nx, wp_cons]
  try walk_at "ev1"
  have X03 := X2.trans X3
  have hX3D := X3.dicU hD2
  refine wp_while (fun m ρ S' => ∃ (i : Nat) (pa pl : D) (ws : List D), ρ = [some (.ref cn), some (.str x), some (.ref S.length), some (.ref S2.length), x4, some pa, some pl] ∧ Ext S S' ∧ dicU S' S.length = some (bs.map parK) ∧ lstAt S' S2.length = some ws ∧ ws.length + i ≤ 6 ∧ (pa = .non ∨ ∃ (j : Nat) (z : Str), j < i ∧ cs[j]? = some z ∧ pa = .str z) ∧ m = i) i0 ?_ ?_
  · exact ⟨i0, pa0, pl0, [], rfl, X03, hX3D, hW3, by simp; omega, hpa0, rfl⟩
  · rintro m ρ S4 ⟨i, pa, pl, ws, rfl, X4, hD4, hW4, hwl, hpa, rfl⟩
    clear hlk0 hpa0 hD3 hW3 hX3D
    rcases hpa with rfl | ⟨j, z, hji, hz, rfl⟩
    · try walk_at "ev1"
      have := hQ (.ref S2.length) S4 ⟨_, ws, rfl, X4, hW4⟩
      clear hQ look
      rw [if_neg (by decide)]
      try walk_at "ev"
    · obtain ⟨pa', pl', hlk, hpa'⟩ := look j z hz
      have hD4A := dicU_at hD4
      have hW4l := lstAt_lt hW4
      clear look hQ
      try walk_at "ev1"
      rw [wp_cons]
      try walk_at "ev1"
      refine ⟨by omega, ?_⟩
      have hD5 : dicU (S4.set S2.length (O.lst (.tup [.str z, pl] :: ws))) S.length = some (bs.map parK) := by rw [dicU_set_ne (by omega)]; exact hD4
      have hW5 : lstAt (S4.set S2.length (O.lst (.tup [.str z, pl] :: ws))) S2.length = some (.tup [.str z, pl] :: ws) := lstAt_set hW4l
      have X5 : Ext S (S4.set S2.length (O.lst (.tup [.str z, pl] :: ws))) := X4.set hle _
      rw [show List.take 0 ws ++ D.tup [D.str z, pl] :: ws = D.tup [D.str z, pl] :: ws from rfl]
      have hD5A := dicU_at hD5
      generalize S4.set S2.length (O.lst (D.tup [D.str z, pl] :: ws)) = S5 at *
      rw [seqQ_nx, wp_cons]
      try walk_at "ev1"
      exact ⟨j, by omega, j, pa', pl', _, rfl, rfl, by simp; omega, hpa', rfl⟩
end

end GA
namespace GA
open PySem VM
/-! ### endless -/
structure HasEndless (tbl : List (Nat × Fd)) (f : Nat) : Prop extends HasEndless0 tbl, HasUseful tbl f where
  endless : tbl.lookup 17 = some ⟨1, 12, b_endless⟩
def noPlan : Nat := 283
/-- what endless tells -/
def EndlessAt (B : Book) (d : D) : Prop := usedL B ≠ [] ∧ ∃ ns L, HtsI (rowsOf B.trs) (orderL B) ns L ∧ (∀ x ∈ L, nextP (spAt (rowsOf B.trs) x) L ≠ none) ∧
  ((L ≠ [] ∧ ∃ a b, d = .tup [.str "endless", a, b]) ∨ (L = [] ∧ ∃ a, d = .tup [.str "bounded", .int (greatOf (keysOf B.trs (false, B.top)) ns), a]))
section
variable {sub : Nat → Nat → Bool} {tbl : List (Nat × Fd)} {k f : Nat} {S : Sto}
theorem endless_sp (hp : HasEndless tbl f) {B : Book} (hB : BookOk B) :
    Wx (fun c xs S' => c = noPlan ∧ xs = [] ∧ Ext S S' ∧ usedL B = []) (callN sub tbl (k + 18) 17 [B.d] S) fun d S' => Ext S S' ∧ EndlessAt B d := by
  refine Wx.gen fun Q E hQ hE => ?_
  have sz : sizeLine = 16777216 := rfl
  have hol := orderL_len hB
  have hle := hB.le
  refine wx_call hp.endless rfl ?_
  unfold b_endless
  rw [wp_cons]
  try walk_at "ev1"
  refine (useful_sp hp.toHasUseful (k := k + 1) hB).mono ?_
  rintro _ S1 ⟨X1, b, c, en, w, bs, bc, cs, rfl, _, _, hbc, hcome, hcnd, hcs, he, hw⟩
  rw [bindT_tp, setMany_cons, setMany_cons, setMany_cons, setMany_cons, setMany_nil]
  refine ⟨_, rfl, ?_⟩
  have hbl := hcome.1.1
  have hcl : cs.length ≤ 6 := Nat.le_trans (nodup_le _ _ hcnd fun x hx => ((hcs x).mp hx).known) (ending_len hB)
  have hcu : ∀ x, x ∈ cs ↔ x ∈ usedL B := fun x => (hcs x).trans (used_mem hB).symm
  rw [seqQ_nx, wp_cons]
  try walk_at "ev1"
  cases hb : ((cs.length : Int) == 0) with
  | true =>
    have hc0 : cs = [] := by
      have : (cs.length : Int) = 0 := by simpa using hb
      exact List.length_eq_zero_iff.mp (by omega)
    have hu0 : usedL B = [] := List.eq_nil_iff_forall_not_mem.mpr fun x hx => by
      have := (hcu x).mpr hx
      rw [hc0] at this
      cases this
    have := hE 283 [] S1 ⟨rfl, rfl, X1, hu0⟩
    clear hQ hE
    rw [ifQ_t, wp_cons]
    try walk_at "ev"
  | false =>
    have hu1 : usedL B ≠ [] := by
      intro z
      have : ¬ (cs.length : Int) = 0 := by simpa using hb
      cases cs with
      | nil => simp at this
      | cons x cs => have := (hcu x).mp (by simp); rw [z] at this; cases this
    clear hE
    rw [ifQ_f, wp_nil, seqQ_nx, wp_cons]
    try walk_at "ev1"
    refine (all_spots_sp hp.toHasSpots (k := k + 3) hB).mono ?_
    rintro _ S2 ⟨rn, rfl, X2, _, hR⟩
    have hR := hR.at
    have he2 := X2.lst he
    have hw2 := X2.lst hw
    generalize hends : (B.keys.filter fun x => !decide (x ∈ ending (rowsOf B.trs))) = ends at *
    generalize hways : (B.keys.filter fun x => decide (x ∈ ending (rowsOf B.trs)) && !decide (x ∈ cs)) = ways at *
    have hBd : B.d = .tup [.str B.top, .tup (B.trs.map prD)] := rfl
    rw [seqQ_nx, wp_cons]
    try walk_at "ev1"
    refine wp_lMF B.trs prD (fun q => !decide (q.1 ∈ ends) && !decide (q.1 ∈ ways)) (fun q => .str q.1) (by omega) (fun q hq => ⟨_, rfl, ?_, fun hs => ?_⟩) ?_
    · have h1 := in_strs (y := q.1) he2
      have h2 := in_strs (y := q.1) hw2
      try walk_at "ev1"
      cases decide (q.1 ∈ ends) with
      | true => simp only [Bool.not_true]; rw [andQ_f]; simp
      | false =>
        simp only [Bool.not_false]
        rw [andQ_t]
        try walk_at "ev1"
        simp
    · try walk_at "ev1"
    rw [order_eq hB hends.symm hways.symm hcs]
    have hu : lstAt (S2 ++ [.lst ((orderL B).map .str)]) S2.length = some ((orderL B).map .str) := lstAt_new
    have X3 : Ext S2 (S2 ++ [.lst ((orderL B).map .str)]) := Ext.app _ _
    have hR3 := hR.ext X3
    have hbc3 := (X2.trans X3).lst hbc
    generalize S2.length = un at *
    generalize S2 ++ [.lst ((orderL B).map .str)] = S3 at *
    rw [seqQ_nx, wp_cons]
    try walk_at "ev1"
    refine (hts_sp hp.toHasHts (k := k + 14) hB hR3 hu (orderL_nd hB) (fun x hx => orderL_sub hx) hol).mono ?_
    rintro _ S4 ⟨X4, nd, ld, ns, L, rfl, hN4, hL4, hI, hst⟩
    rw [bindT_tp, setMany_cons, setMany_cons, setMany_nil]
    refine ⟨_, rfl, ?_⟩
    have hLlen := dicAt_len (dicU_at hL4)
    have hLnol := dicAt_lst (dicU_at hL4)
    have hkl : (knD L).length = L.length := by unfold knD; rw [List.length_map]
    have hLl : L.length ≤ 6 := Nat.le_trans (nodup_le _ _ hI.ndL hI.subL) hol
    have X04 := ((X1.trans X2).trans X3).trans X4
    rw [seqQ_nx, wp_cons]
    try walk_at "ev1"
    cases hb2 : decide ((0 : Int) < (L.length : Int)) with
    | true =>
      have hLn : L ≠ [] := fun z => by rw [z] at hb2; cases hb2
      rw [ifQ_t, wp_cons]
      try walk_at "ev1"
      refine (ring_sp hp.toHasEndless0 (k := k + 15) hB (hR3.ext X4) hL4 hLn (fun x hx => orderL_sub (hI.subL x hx)) hLl hst).mono ?_
      rintro _ S5 ⟨r, x, pl, rest, rfl, X5, hr, hxL⟩
      have hbc5 := X5.lst (X4.lst hbc3)
      have hxc : x ∈ cs := (hcu x).mpr (by
        have := (List.mem_filter.mp (hI.subL x hxL)).2
        simpa using this)
      rw [seqQ_nx, wp_cons]
      try walk_at "ev1"
      refine (way_sp hp.toHasEndless0 (k := k + 16) hbc5 hcome hcnd hxc hcl).mono ?_
      rintro _ S6 ⟨wr, wds, rfl, X6, _⟩
      have := hQ (.tup [.str "endless", .ref wr, .ref r]) S6 ⟨(X04.trans X5).trans X6, hu1, ns, L, hI, hst, .inl ⟨hLn, _, _, rfl⟩⟩
      clear hQ
      try walk_at "ev"
    | false =>
      have hLn : L = [] := by
        have : ¬ ((0 : Int) < (L.length : Int)) := of_decide_eq_false hb2
        exact List.length_eq_zero_iff.mp (by omega)
      rw [ifQ_f, wp_nil, seqQ_nx, wp_cons]
      try walk_at "ev1"
      refine (top_keys_sp hp.toHasSpots (k := k + 3) hB).mono ?_
      rintro _ S5 ⟨tn, rfl, X5, ht⟩
      have hN5 := X5.dicU hN4
      try walk_at "ev1"
      refine (greatest_sp hp.toHasNums (k := k + 16) ht (dicU_at hN5) (by have := keysOf_len hB (false, B.top); omega)).mono ?_
      rintro _ S6 ⟨rfl, X6⟩
      have hN6 := dicU_at (X6.dicU hN5)
      have hu6 := X6.lst (X5.lst (X4.lst hu))
      try walk_at "ev1"
      refine wp_lM (orderL B) D.str (fun _ => true) (fun x => .tup [.str x, .int ((numAt ns x).getD 0)]) hu6 (by omega) (fun x hx => ⟨_, rfl, ?_, fun _ => ?_⟩) ?_
      · try walk_at "ev1"
      · have hxn : x ∈ ns.map (·.1) := by
          rcases hI.all x hx with h | h
          · rw [hLn] at h; cases h
          · exact h
        obtain ⟨n, hn⟩ := num_some hxn
        have hlk : lkD (nmsD ns) (.inr x) = some (.int n) := by rw [lkD_nms, hn]; rfl
        rw [hn]
        try walk_at "ev1"
        first | rfl | exact ⟨rfl, trivial⟩ | exact ⟨rfl, rfl⟩
      have X7 := ((X04.trans X5).trans X6).app1 (O.lst (((orderL B).filter fun _ => true).map fun x => D.tup [.str x, .int ((numAt ns x).getD 0)]))
      have := hQ (.tup [.str "bounded", .int (greatOf (keysOf B.trs (false, B.top)) ns), .ref S6.length]) _ ⟨X7, hu1, ns, L, hI, hst, .inr ⟨hLn, _, rfl⟩⟩
      clear hQ
      try walk_at "ev1"
end

end GA
namespace GA
open PySem VM
/-! ### rounds -/
/-- come to from some keys, by a step or more -/
inductive Go (rows : List (Str × List Spot)) (K ks : List Str) : Str → Prop
  | one {x y : Str} {sps : List Spot} {sp : Spot} (h : x ∈ ks) (r : (x, sps) ∈ rows) (s : sp ∈ sps) (m : y ∈ sp.2.2) (k : y ∈ K) : Go rows K ks y
  | more {x y : Str} {sps : List Spot} {sp : Spot} (h : Go rows K ks x) (r : (x, sps) ∈ rows) (s : sp ∈ sps) (m : y ∈ sp.2.2) (k : y ∈ K) : Go rows K ks y
theorem Go.known {rows : List (Str × List Spot)} {K ks : List Str} {x : Str} (h : Go rows K ks x) : x ∈ K := by cases h <;> assumption
def goF (K : List Str) (rows : List (Str × List Spot)) (f : List Str) (x : Str) : List Str := useS K f (spAt rows x)
def goT (K : List Str) (rows : List (Str × List Spot)) (ks f : List Str) : List Str := (ks ++ f).foldl (goF K rows) f
def goN (K : List Str) (rows : List (Str × List Spot)) (ks : List Str) : Nat → List Str
  | 0 => []
  | n + 1 => goT K rows ks (goN K rows ks n)
theorem goF_sub {K : List Str} {rows : List (Str × List Spot)} {y : Str} : ∀ (xs f : List Str), y ∈ f → y ∈ xs.foldl (goF K rows) f
  | [], f, h => h
  | x :: xs, f, h => goF_sub xs _ ((mem_useS _ _).mpr (.inl h))
theorem goF_step {K : List Str} {rows : List (Str × List Spot)} {x y : Str} {sp : Spot} (hs : sp ∈ spAt rows x) (hy : y ∈ sp.2.2) (hK : y ∈ K) : ∀ (xs f : List Str), x ∈ xs → y ∈ xs.foldl (goF K rows) f
  | z :: xs, f, h => by
    rcases List.mem_cons.mp h with rfl | h
    · exact goF_sub xs _ ((mem_useS _ _).mpr (.inr ⟨⟨sp, hs, hy⟩, hK⟩))
    · exact goF_step hs hy hK xs _ h
theorem spAt_mem {rows : List (Str × List Spot)} (hnd : (rows.map (·.1)).Nodup) {x : Str} {sps : List Spot} (h : (x, sps) ∈ rows) : spAt rows x = sps := by
  unfold spAt
  induction rows with
  | nil => cases h
  | cons r rows ih =>
    rw [List.map_cons, List.nodup_cons] at hnd
    rcases List.mem_cons.mp h with e | h
    · subst e
      rw [List.find?_cons_of_pos (by simp)]
    · have hne : r.1 ≠ x := fun e => hnd.1 (List.mem_map.mpr ⟨_, h, e.symm⟩)
      rw [List.find?_cons_of_neg (by simpa using hne)]
      exact ih hnd.2 h
theorem spAt_in {rows : List (Str × List Spot)} {x : Str} (h : x ∈ rows.map (·.1)) : (x, spAt rows x) ∈ rows := by
  unfold spAt
  have hsome : (rows.find? fun r => decide (r.1 = x)).isSome = true := by
    rw [List.find?_isSome]
    obtain ⟨r, hr, e⟩ := List.mem_map.mp h
    exact ⟨r, hr, by simpa using e⟩
  cases e : rows.find? fun r => decide (r.1 = x) with
  | none => rw [e] at hsome; cases hsome
  | some r =>
    have h1 := List.mem_of_find?_eq_some e
    have h2 : r.1 = x := by have := List.find?_some e; simpa using this
    subst h2
    exact h1
theorem spAt_none {rows : List (Str × List Spot)} {x : Str} (h : x ∉ rows.map (·.1)) : spAt rows x = [] := by
  unfold spAt
  have : (rows.find? fun r => decide (r.1 = x)) = none := by
    rw [List.find?_eq_none]
    intro r hr
    have : r.1 ≠ x := fun e => h (List.mem_map.mpr ⟨r, hr, e⟩)
    simpa using this
  rw [this]
theorem goF_sound {K ks : List Str} {rows : List (Str × List Spot)} {y : Str} : ∀ (xs f : List Str), (∀ x ∈ xs, x ∈ ks ∨ Go rows K ks x) → (∀ x ∈ f, Go rows K ks x) → y ∈ xs.foldl (goF K rows) f → Go rows K ks y
  | [], f, _, hf, h => hf y h
  | x :: xs, f, hx, hf, h => by
    refine goF_sound xs _ (fun z hz => hx z (by simp [hz])) (fun z hz => ?_) h
    rcases (mem_useS _ _).mp hz with hz | ⟨⟨sp, h1, h2⟩, h3⟩
    · exact hf z hz
    · by_cases hr : x ∈ rows.map (·.1)
      · have hm := spAt_in hr
        rcases hx x (by simp) with hk | hg
        · exact .one hk hm h1 h2 h3
        · exact .more hg hm h1 h2 h3
      · rw [spAt_none hr] at h1
        cases h1
theorem goF_nd {K : List Str} {rows : List (Str × List Spot)} (hs : ∀ r ∈ rows, ∀ sp ∈ r.2, sp.2.2.Nodup) : ∀ (xs f : List Str), NdK K f → NdK K (xs.foldl (goF K rows) f)
  | [], f, h => h
  | x :: xs, f, h => by
    refine goF_nd hs xs _ (h.useS fun sp hsp => ?_)
    by_cases hr : x ∈ rows.map (·.1)
    · exact hs _ (spAt_in hr) sp hsp
    · rw [spAt_none hr] at hsp
      cases hsp
theorem goN_nd {K ks : List Str} {rows : List (Str × List Spot)} (hs : ∀ r ∈ rows, ∀ sp ∈ r.2, sp.2.2.Nodup) : ∀ n, NdK K (goN K rows ks n)
  | 0 => ⟨List.nodup_nil, fun x h => by cases h⟩
  | n + 1 => goF_nd hs _ _ (goN_nd hs n)
theorem goN_sound {K ks : List Str} {rows : List (Str × List Spot)} {y : Str} : ∀ n, y ∈ goN K rows ks n → Go rows K ks y
  | 0, h => by cases h
  | n + 1, h => goF_sound _ _ (fun x hx => (List.mem_append.mp hx).imp id (goN_sound n)) (fun x hx => goN_sound n hx) h
theorem goN_closed {K ks : List Str} {rows : List (Str × List Spot)} (hs : ∀ r ∈ rows, ∀ sp ∈ r.2, sp.2.2.Nodup) {n : Nat} (hK : K.length ≤ n) : ∀ y ∈ goT K rows ks (goN K rows ks n), y ∈ goN K rows ks n := by
  have ofLen : ∀ f, NdK K f → (goT K rows ks f).length ≤ f.length → ∀ y ∈ goT K rows ks f, y ∈ f := by
    intro f hf hl y hy
    refine Classical.byContradiction fun hn => ?_
    have h1 : (y :: f).length ≤ (goT K rows ks f).length := nodup_le _ _ (List.nodup_cons.mpr ⟨hn, hf.1⟩) fun x hx => by
      rcases List.mem_cons.mp hx with rfl | hx
      · exact hy
      · exact goF_sub _ _ hx
    simp at h1
    omega
  have next : ∀ f, (∀ y ∈ goT K rows ks f, y ∈ f) → ∀ y ∈ goT K rows ks (goT K rows ks f), y ∈ goT K rows ks f := by
    intro f hc y hy
    have key : ∀ (xs vs : List Str), (∀ x ∈ xs, x ∈ ks ++ f) → (∀ x ∈ vs, x ∈ f) → ∀ y ∈ xs.foldl (goF K rows) vs, y ∈ f := by
      intro xs
      induction xs with
      | nil => exact fun vs _ hv => hv
      | cons x xs ih =>
        intro vs hx hv y hy
        refine ih _ (fun z hz => hx z (by simp [hz])) (fun z hz => ?_) y hy
        rcases (mem_useS _ _).mp hz with hz | ⟨⟨sp, h1, h2⟩, h3⟩
        · exact hv z hz
        · exact hc z (goF_step h1 h2 h3 _ _ (hx x (by simp)))
    refine goF_sub _ _ (key _ _ (fun x hx => ?_) (fun x hx => hc x hx) y hy)
    rcases List.mem_append.mp hx with hx | hx
    · exact List.mem_append.mpr (.inl hx)
    · exact List.mem_append.mpr (.inr (hc x hx))
  have key : ∀ m, (∀ y ∈ goT K rows ks (goN K rows ks m), y ∈ goN K rows ks m) ∨ m ≤ (goN K rows ks m).length := by
    intro m
    induction m with
    | zero => exact .inr (Nat.zero_le _)
    | succ m ih =>
      rcases ih with c | l
      · exact .inl (next _ c)
      · by_cases hl : (goT K rows ks (goN K rows ks m)).length ≤ (goN K rows ks m).length
        · exact .inl (next _ (ofLen _ (goN_nd hs m) hl))
        · refine .inr ?_
          show m + 1 ≤ (goT K rows ks (goN K rows ks m)).length
          omega
  rcases key n with c | l
  · exact c
  · refine ofLen _ (goN_nd hs n) ?_
    have h1 := (goN_nd (K := K) (ks := ks) hs (n + 1)).len
    have h2 : (goN K rows ks (n + 1)).length = (goT K rows ks (goN K rows ks n)).length := rfl
    omega
theorem goN_mem {K ks : List Str} {rows : List (Str × List Spot)} (hnd : (rows.map (·.1)).Nodup) (hs : ∀ r ∈ rows, ∀ sp ∈ r.2, sp.2.2.Nodup) {n : Nat} (hK : K.length ≤ n) {y : Str} : y ∈ goN K rows ks n ↔ Go rows K ks y := by
  refine ⟨goN_sound n, fun h => ?_⟩
  have c := goN_closed (ks := ks) hs hK
  induction h with
  | one h r s m k => exact c _ (goF_step (by rw [spAt_mem hnd r]; exact s) m k _ _ (List.mem_append.mpr (.inl h)))
  | more _ r s m k ih => exact c _ (goF_step (by rw [spAt_mem hnd r]; exact s) m k _ _ (List.mem_append.mpr (.inr ih)))
/-! where all have numbers, none comes to itself -/
theorem used_child {B : Book} (hB : BookOk B) {x y : Str} {sps : List Spot} {sp : Spot} (hx : x ∈ orderL B) (r : (x, sps) ∈ rowsOf B.trs) (s : sp ∈ sps) (m : y ∈ sp.2.2) (k : y ∈ ending (rowsOf B.trs)) : y ∈ orderL B := by
  have hxu : x ∈ usedL B := by simpa using (List.mem_filter.mp hx).2
  have hyu : y ∈ usedL B := (used_mem hB).mpr (.step ((used_mem hB).mp hxu) r s m k)
  have := ending_sub _ y k
  rw [keys_rows] at this
  exact List.mem_filter.mpr ⟨this, by simpa using hyu⟩
theorem no_round {B : Book} (hB : BookOk B) {ns : Nums} (h : HtsI (rowsOf B.trs) (orderL B) ns []) {x : Str} (hx : x ∈ orderL B) : ¬ Go (rowsOf B.trs) (ending (rowsOf B.trs)) [x] x := by
  have hnd := rowsOf_nd hB
  have hxn : x ∈ ns.map (·.1) := (h.all x hx).resolve_left fun z => by cases z
  obtain ⟨i, hi⟩ := List.getElem?_of_mem hxn
  have at_ : ∀ {j : Nat} {y z : Str} {sps : List Spot} {sp : Spot}, (ns.map (·.1))[j]? = some y → (y, sps) ∈ rowsOf B.trs → sp ∈ sps → z ∈ sp.2.2 → z ∈ ending (rowsOf B.trs) → ∃ l, l < j ∧ (ns.map (·.1))[l]? = some z := by
    intro j y z sps sp hj r s m k
    rw [List.getElem?_map] at hj
    cases e : ns[j]? with
    | none => rw [e] at hj; cases hj
    | some q =>
      rw [e] at hj
      cases hj
      obtain ⟨y, n⟩ := q
      have hyo : y ∈ orderL B := h.sub y (List.mem_map.mpr ⟨_, List.mem_of_getElem? e, rfl⟩)
      obtain ⟨_, g2⟩ := h.good j y n e
      rw [spAt_mem hnd r] at g2
      have hz := g2 sp s z m (used_child hB hyo r s m k)
      obtain ⟨l, hl⟩ := List.getElem?_of_mem hz
      have hlj : l < j := by
        have := (List.getElem?_eq_some_iff.mp hl).1
        rw [List.length_map, List.length_take] at this
        omega
      refine ⟨l, hlj, ?_⟩
      rw [List.map_take, List.getElem?_take_of_lt hlj] at hl
      exact hl
  have key : ∀ y, Go (rowsOf B.trs) (ending (rowsOf B.trs)) [x] y → ∃ j, j < i ∧ (ns.map (·.1))[j]? = some y := by
    intro y hy
    induction hy with
    | one h r s m k =>
      rw [List.mem_singleton] at h
      subst h
      exact at_ hi r s m k
    | more _ r s m k ih =>
      obtain ⟨j, hj, e⟩ := ih
      obtain ⟨l, hl, e2⟩ := at_ e r s m k
      exact ⟨l, by omega, e2⟩
  intro hg
  obtain ⟨j, hj, e⟩ := key x hg
  obtain ⟨hi1, hi2⟩ := List.getElem?_eq_some_iff.mp hi
  obtain ⟨hj1, hj2⟩ := List.getElem?_eq_some_iff.mp e
  exact (List.pairwise_iff_getElem.mp h.nd) j i hj1 hi1 hj (by rw [hi2, hj2])
/-! what is left goes round -/
theorem some_round {B : Book} (hB : BookOk B) {ns : Nums} {L : List Str} (h : HtsI (rowsOf B.trs) (orderL B) ns L) (hne : L ≠ []) (hst : ∀ x ∈ L, nextP (spAt (rowsOf B.trs) x) L ≠ none) : ∃ x ∈ L, Go (rowsOf B.trs) (ending (rowsOf B.trs)) [x] x := by
  have hK : ∀ x ∈ L, x ∈ ending (rowsOf B.trs) := fun x hx => by
    have := (List.mem_filter.mp (h.subL x hx)).2
    exact ((used_mem hB).mp (by simpa using this)).known
  obtain ⟨f, hf⟩ : ∃ f : Str → Str, ∀ x ∈ L, f x ∈ L ∧ ∃ sps sp, (x, sps) ∈ rowsOf B.trs ∧ sp ∈ sps ∧ f x ∈ sp.2.2 := by
    refine ⟨fun x => ((nextP (spAt (rowsOf B.trs) x) L).map (·.2)).getD x, fun x hx => ?_⟩
    cases e : nextP (spAt (rowsOf B.trs) x) L with
    | none => exact absurd e (hst x hx)
    | some q =>
      obtain ⟨p, y⟩ := q
      obtain ⟨h1, sp, h2, h3⟩ := nextP_some e
      have hxk : x ∈ (rowsOf B.trs).map (·.1) := ending_sub _ x (hK x hx)
      have hfx : ((nextP (spAt (rowsOf B.trs) x) L).map (·.2)).getD x = y := by rw [e]; rfl
      show ((nextP (spAt (rowsOf B.trs) x) L).map (·.2)).getD x ∈ L ∧ ∃ sps sp, (x, sps) ∈ rowsOf B.trs ∧ sp ∈ sps ∧ ((nextP (spAt (rowsOf B.trs) x) L).map (·.2)).getD x ∈ sp.2.2
      rw [hfx]
      exact ⟨h1, _, sp, spAt_in hxk, h2, h3⟩
  obtain ⟨x0, hx0⟩ := List.exists_mem_of_ne_nil _ hne
  have it : ∀ n, Nat.rec (motive := fun _ => Str) x0 (fun _ y => f y) n ∈ L := by
    intro n
    induction n with
    | zero => exact hx0
    | succ n ih => exact (hf _ ih).1
  generalize hg : (fun n => Nat.rec (motive := fun _ => Str) x0 (fun _ y => f y) n) = g at *
  have gL : ∀ n, g n ∈ L := fun n => by have := it n; rw [← hg]; exact this
  have gs : ∀ n, g (n + 1) = f (g n) := fun n => by rw [← hg]
  have go : ∀ i d, Go (rowsOf B.trs) (ending (rowsOf B.trs)) [g i] (g (i + d + 1)) := by
    intro i d
    induction d with
    | zero =>
      obtain ⟨h1, sps, sp, r, s, m⟩ := hf _ (gL i)
      show Go _ _ _ (g (i + 1))
      rw [gs]
      exact .one (by simp) r s m (hK _ h1)
    | succ d ih =>
      obtain ⟨h1, sps, sp, r, s, m⟩ := hf _ (gL (i + d + 1))
      rw [show i + (d + 1) + 1 = (i + d + 1) + 1 by omega, gs]
      exact .more ih r s m (hK _ h1)
  have hdup : ¬ ((List.range (L.length + 1)).map g).Nodup := by
    intro hn
    have := nodup_le _ _ hn fun x hx => by
      obtain ⟨n, _, rfl⟩ := List.mem_map.mp hx
      exact gL n
    simp at this
    omega
  unfold List.Nodup at hdup
  rw [List.pairwise_iff_getElem] at hdup
  refine Classical.byContradiction fun hno => hdup fun i j hi hj hij e => ?_
  rw [List.getElem_map, List.getElem_map, List.getElem_range, List.getElem_range] at e
  refine hno ⟨g i, gL i, ?_⟩
  have := go i (j - i - 1)
  rw [show i + (j - i - 1) + 1 = j by omega, ← e] at this
  exact this

end GA
namespace GA
open PySem VM
/-! ### how many plans have so many keys -/
def chC (C : Str → Nat → Nat) (sp : Spot) (i : Nat) : Nat := if i = 0 then (if sp.2.1 = true then 0 else 1) else (sp.2.2.map fun y => C y i).sum
def Wc (C : Str → Nat → Nat) : List Spot → Nat → Nat
  | [], t => if t = 0 then 1 else 0
  | sp :: sps, t => ((List.range (t + 1)).map fun i => Wc C sps (t - i) * chC C sp i).sum
def cntF (rows : List (Str × List Spot)) : Nat → Str → Nat → Nat
  | 0, _, _ => 0
  | f + 1, x, n => match n with
    | 0 => 0
    | n + 1 => Wc (cntF rows f) (spAt rows x) n
def cnt (rows : List (Str × List Spot)) (x : Str) (n : Nat) : Nat := cntF rows n x n
theorem sum_congr {α : Type} (xs : List α) (f g : α → Nat) (h : ∀ x ∈ xs, f x = g x) : (xs.map f).sum = (xs.map g).sum := by rw [List.map_congr_left h]
theorem chC_congr {C C' : Str → Nat → Nat} {sp : Spot} {i : Nat} (h : ∀ y, 1 ≤ i → C y i = C' y i) : chC C sp i = chC C' sp i := by
  unfold chC
  by_cases hi : i = 0
  · rw [if_pos hi, if_pos hi]
  · rw [if_neg hi, if_neg hi]
    exact sum_congr _ _ _ fun y _ => h y (by omega)
theorem Wc_congr {C C' : Str → Nat → Nat} : ∀ (sps : List Spot) (t : Nat), (∀ y i, 1 ≤ i → i ≤ t → C y i = C' y i) → Wc C sps t = Wc C' sps t
  | [], t, _ => rfl
  | sp :: sps, t, h => by
    refine sum_congr _ _ _ fun i hi => ?_
    have hi := List.mem_range.mp hi
    rw [Wc_congr sps (t - i) fun y j h1 h2 => h y j h1 (by omega), chC_congr fun y h1 => h y i h1 (by omega)]
theorem cntF_fuel {rows : List (Str × List Spot)} : ∀ (n f : Nat) (x : Str), n ≤ f → cntF rows f x n = cnt rows x n := by
  intro n
  induction n using Nat.strongRecOn with
  | _ n ih =>
    intro f x hf
    cases n with
    | zero => cases f <;> rfl
    | succ n =>
      cases f with
      | zero => omega
      | succ f =>
        show Wc (cntF rows f) (spAt rows x) n = Wc (cntF rows n) (spAt rows x) n
        refine Wc_congr _ _ fun y i h1 h2 => ?_
        rw [ih i (by omega) f y (by omega), ih i (by omega) n y (by omega)]
theorem cnt_zero {rows : List (Str × List Spot)} {x : Str} : cnt rows x 0 = 0 := rfl
theorem cnt_succ {rows : List (Str × List Spot)} {x : Str} {n : Nat} : cnt rows x (n + 1) = Wc (cnt rows) (spAt rows x) n := by
  show Wc (cntF rows n) (spAt rows x) n = _
  exact Wc_congr _ _ fun y i h1 h2 => cntF_fuel i n y h2
/-! #### not too great -/
def qB : Nat := 6 * 25 ^ 1000
theorem sum_le {α : Type} (xs : List α) (f : α → Nat) (b : Nat) (h : ∀ x ∈ xs, f x ≤ b) : (xs.map f).sum ≤ xs.length * b := by
  induction xs with
  | nil => simp
  | cons x xs ih =>
    rw [List.map_cons, List.sum_cons, List.length_cons, Nat.succ_mul]
    have := ih fun y hy => h y (by simp [hy])
    have := h x (by simp)
    omega
theorem chC_le {C : Str → Nat → Nat} {sp : Spot} {i : Nat} (hk : sp.2.2.length ≤ 6) (h : ∀ y, 1 ≤ i → 6 * C y i ≤ qB ^ i) : chC C sp i ≤ qB ^ i := by
  unfold chC
  by_cases hi : i = 0
  · subst hi
    rw [if_pos rfl, Nat.pow_zero]
    split <;> omega
  · rw [if_neg hi]
    have key : ∀ xs : List Str, 6 * (xs.map fun y => C y i).sum ≤ xs.length * qB ^ i := by
      intro xs
      induction xs with
      | nil => simp
      | cons x xs ih =>
        rw [List.map_cons, List.sum_cons, List.length_cons, Nat.add_mul, Nat.one_mul, Nat.mul_add]
        have := h x (by omega)
        omega
    have h1 := key sp.2.2
    have h2 : sp.2.2.length * qB ^ i ≤ 6 * qB ^ i := Nat.mul_le_mul_right _ hk
    omega
theorem Wc_le {C : Str → Nat → Nat} : ∀ (sps : List Spot) (t : Nat), t ≤ 24 → (∀ sp ∈ sps, sp.2.2.length ≤ 6) → (∀ y i, 1 ≤ i → i ≤ t → 6 * C y i ≤ qB ^ i) → Wc C sps t ≤ 25 ^ sps.length * qB ^ t
  | [], t, _, _, _ => by
    unfold Wc
    split
    · rename_i h; subst h; simp
    · exact Nat.zero_le _
  | sp :: sps, t, ht, hk, h => by
    unfold Wc
    have h1 : ∀ i ∈ List.range (t + 1), Wc C sps (t - i) * chC C sp i ≤ 25 ^ sps.length * qB ^ t := by
      intro i hi
      have hi := List.mem_range.mp hi
      have a := Wc_le sps (t - i) (by omega) (fun s hs => hk s (by simp [hs])) fun y j a b => h y j a (by omega)
      have b := chC_le (C := C) (sp := sp) (i := i) (hk sp (by simp)) fun y a => h y i a (by omega)
      refine Nat.le_trans (Nat.mul_le_mul a b) ?_
      rw [Nat.mul_assoc, ← Nat.pow_add, show t - i + i = t by omega]
      exact Nat.le_refl _
    have h2 := sum_le _ _ _ h1
    rw [List.length_range] at h2
    refine Nat.le_trans h2 ?_
    rw [List.length_cons, Nat.pow_succ, Nat.mul_comm (25 ^ sps.length) 25, Nat.mul_assoc]
    exact Nat.mul_le_mul_right _ (by omega)
theorem cnt_le {rows : List (Str × List Spot)} (hs : ∀ x, (spAt rows x).length ≤ 1000) (hk : ∀ x, ∀ sp ∈ spAt rows x, sp.2.2.length ≤ 6) : ∀ (n : Nat) (x : Str), n ≤ 25 → 6 * cnt rows x n ≤ qB ^ n := by
  intro n
  induction n using Nat.strongRecOn with
  | _ n ih =>
    intro x hn
    cases n with
    | zero => rw [cnt_zero]; simp
    | succ n =>
      rw [cnt_succ, Nat.pow_succ]
      have h1 := Wc_le (C := cnt rows) (spAt rows x) n (by omega) (hk x) fun y i a b => ih i (by omega) y (by omega)
      have h2 : 25 ^ (spAt rows x).length ≤ 25 ^ 1000 := Nat.pow_le_pow_right (by omega) (hs x)
      have h3 : Wc (cnt rows) (spAt rows x) n ≤ 25 ^ 1000 * qB ^ n := Nat.le_trans h1 (Nat.mul_le_mul_right _ h2)
      unfold qB at h3 ⊢
      calc 6 * Wc (cnt rows) (spAt rows x) n ≤ 6 * (25 ^ 1000 * (6 * 25 ^ 1000) ^ n) := Nat.mul_le_mul_left _ h3
        _ = (6 * 25 ^ 1000) ^ n * (6 * 25 ^ 1000) := by rw [← Nat.mul_assoc, Nat.mul_comm]
theorem qB_lt : qB < 2 ^ 5003 := by
  unfold qB
  have h : (25 : Nat) ^ 1000 < (2 ^ 5) ^ 1000 := Nat.pow_lt_pow_left (by omega) (by omega)
  rw [← Nat.pow_mul] at h
  calc 6 * 25 ^ 1000 < 6 * 2 ^ (5 * 1000) := Nat.mul_lt_mul_of_pos_left h (by omega)
    _ ≤ 2 ^ 3 * 2 ^ (5 * 1000) := Nat.mul_le_mul_right _ (by omega)
    _ = 2 ^ 5003 := by rw [← Nat.pow_add]
theorem qB_pow {n : Nat} (h : n ≤ 30) : qB ^ n < 2 ^ 160000 := by
  by_cases h0 : n = 0
  · subst h0
    rw [Nat.pow_zero]
    exact Nat.one_lt_two_pow (by omega)
  · have := Nat.pow_lt_pow_left qB_lt h0
    rw [← Nat.pow_mul] at this
    exact Nat.lt_of_lt_of_le this (Nat.pow_le_pow_right (by omega) (by omega))
theorem log_lt {n : Nat} (h : n < 2 ^ 160000) : n.log2 < 160000 := by
  by_cases h0 : n = 0
  · rw [h0]; decide
  · exact (Nat.log2_lt h0).mpr h

end GA
namespace GA
open PySem VM
/-! ### what counts tell: what has a plan ends; in bounded books the heights are the greatest sizes -/
theorem sum_pos {α : Type} {xs : List α} {f : α → Nat} (h : 0 < (xs.map f).sum) : ∃ x ∈ xs, 0 < f x := by
  induction xs with
  | nil => simp at h
  | cons x xs ih =>
    rw [List.map_cons, List.sum_cons] at h
    by_cases hx : 0 < f x
    · exact ⟨x, by simp, hx⟩
    · obtain ⟨y, hy, h2⟩ := ih (by omega)
      exact ⟨y, by simp [hy], h2⟩
theorem le_sum {α : Type} {xs : List α} {f : α → Nat} {x : α} (h : x ∈ xs) : f x ≤ (xs.map f).sum := by
  induction xs with
  | nil => cases h
  | cons y xs ih =>
    rw [List.map_cons, List.sum_cons]
    rcases List.mem_cons.mp h with rfl | h
    · omega
    · have := ih h; omega
theorem Wc_split {C : Str → Nat → Nat} {sp : Spot} {sps : List Spot} {t : Nat} (h : 0 < Wc C (sp :: sps) t) : ∃ i, i ≤ t ∧ 0 < Wc C sps (t - i) ∧ 0 < chC C sp i := by
  unfold Wc at h
  obtain ⟨i, hi, h⟩ := sum_pos h
  have hi := List.mem_range.mp hi
  exact ⟨i, by omega, Nat.pos_of_mul_pos_right h, Nat.pos_of_mul_pos_left h⟩
theorem Wc_must {C : Str → Nat → Nat} : ∀ {sps : List Spot} {t : Nat}, 0 < Wc C sps t → ∀ sp ∈ sps, sp.2.1 = true → ∃ i y, 1 ≤ i ∧ i ≤ t ∧ y ∈ sp.2.2 ∧ 0 < C y i
  | sp :: sps, t, h, s, hs, hm => by
    obtain ⟨i, hi, h1, h2⟩ := Wc_split h
    rcases List.mem_cons.mp hs with rfl | hs
    · unfold chC at h2
      by_cases h0 : i = 0
      · rw [if_pos h0, if_pos hm] at h2
        omega
      · rw [if_neg h0] at h2
        obtain ⟨y, hy, h3⟩ := sum_pos h2
        exact ⟨i, y, by omega, hi, hy, h3⟩
    · obtain ⟨j, y, a, b, c, d⟩ := Wc_must h1 s hs hm
      exact ⟨j, y, a, by omega, c, d⟩
theorem Wc_top {C : Str → Nat → Nat} {g : Spot → Int} : ∀ {sps : List Spot} {t : Nat}, (∀ sp ∈ sps, ∀ i, i ≤ t → 0 < chC C sp i → (i : Int) ≤ g sp) → 0 < Wc C sps t → (t : Int) ≤ (sps.map g).sum
  | [], t, _, h => by
    unfold Wc at h
    split at h
    · rename_i h0; subst h0; simp
    · omega
  | sp :: sps, t, hg, h => by
    obtain ⟨i, hi, h1, h2⟩ := Wc_split h
    have a := hg sp (by simp) i hi h2
    have b := Wc_top (g := g) (fun s hs j hj => hg s (by simp [hs]) j (by omega)) h1
    rw [List.map_cons, List.sum_cons]
    omega
theorem Wc_some {C : Str → Nat → Nat} {g : Spot → Nat} : ∀ {sps : List Spot}, (∀ sp ∈ sps, 0 < chC C sp (g sp)) → 0 < Wc C sps (sps.map g).sum
  | [], _ => by unfold Wc; simp
  | sp :: sps, h => by
    have h1 := Wc_some (C := C) (g := g) (sps := sps) fun s hs => h s (by simp [hs])
    have h2 := h sp (by simp)
    rw [List.map_cons, List.sum_cons]
    unfold Wc
    have h3 : 0 < Wc C sps (g sp + (sps.map g).sum - g sp) * chC C sp (g sp) := by
      rw [Nat.add_sub_cancel_left]
      exact Nat.mul_pos h1 h2
    refine Nat.lt_of_lt_of_le h3 (le_sum (f := fun i => Wc C sps (g sp + (sps.map g).sum - i) * chC C sp i) (List.mem_range.mpr (by omega)))
/-! #### what ends -/
theorem ending_fix (rows : List (Str × List Spot)) : sweep rows (ending rows) = ending rows := by
  have key : ∀ m, sweep rows (turns rows m) = turns rows m ∨ m ≤ (turns rows m).length := by
    intro m
    induction m with
    | zero => exact .inr (Nat.zero_le _)
    | succ m ih =>
      rcases ih with c | l
      · refine .inl ?_
        show sweep rows (sweep rows (turns rows m)) = sweep rows (turns rows m)
        rw [c, c]
      · by_cases hl : (sweep rows (turns rows m)).length = (turns rows m).length
        · have c := sweep_eq _ _ hl
          refine .inl ?_
          show sweep rows (sweep rows (turns rows m)) = sweep rows (turns rows m)
          rw [c, c]
        · refine .inr ?_
          have := sweep_len rows (turns rows m)
          show m + 1 ≤ (sweep rows (turns rows m)).length
          omega
  rcases key rows.length with c | l
  · exact c
  · refine sweep_eq _ _ ?_
    have h1 := turns_le rows (rows.length + 1)
    have h2 := sweep_len rows (turns rows rows.length)
    have h3 : (turns rows (rows.length + 1)).length = (sweep rows (turns rows rows.length)).length := rfl
    show (sweep rows (turns rows rows.length)).length = (turns rows rows.length).length
    omega
theorem waits_mono {ks ks' : List Str} (h : ∀ x ∈ ks, x ∈ ks') {sps : List Spot} (hw : waits ks sps = false) : waits ks' sps = false := by
  unfold waits at hw ⊢
  rw [List.any_eq_false] at hw ⊢
  intro sp hsp
  have := hw sp hsp
  simp only [Bool.and_eq_true, Bool.not_eq_true', not_and, Bool.not_eq_false] at this ⊢
  intro hm
  obtain ⟨x, hx, hk⟩ := List.any_eq_true.mp (this hm)
  exact List.any_eq_true.mpr ⟨x, hx, by simpa using h x (by simpa using hk)⟩
theorem ending_in {rows : List (Str × List Spot)} {r : Str × List Spot} (hr : r ∈ rows) (hw : waits (ending rows) r.2 = false) : r.1 ∈ ending rows := by
  obtain ⟨i, hi⟩ := List.getElem?_of_mem hr
  have e := ending_fix rows
  have h1 := sweep_take_len rows i (ending rows)
  have h2 := sweep_take_len rows (i + 1) (ending rows)
  have h3 := sweep_part rows (i + 1) (ending rows)
  rw [e] at h3
  have h4 : (sweep (rows.take (i + 1)) (ending rows)).length = (ending rows).length := by omega
  have h5 : sweep (rows.take (i + 1)) (ending rows) = ending rows := sweep_eq _ _ h4
  have h6 := sweep_part rows i (ending rows)
  rw [e] at h6
  have h7 : sweep (rows.take i) (ending rows) = ending rows := sweep_eq _ _ (by omega)
  rw [sweep_take hi, h7] at h5
  unfold sw at h5
  rw [hw] at h5
  simp only [Bool.false_eq_true, if_false] at h5
  unfold addK at h5
  split at h5
  · assumption
  · have := congrArg List.length h5
    simp at this
theorem ending_waits {rows : List (Str × List Spot)} (hnd : (rows.map (·.1)).Nodup) {x : Str} (hx : x ∈ ending rows) : waits (ending rows) (spAt rows x) = false := by
  have key : ∀ (rs : List (Str × List Spot)) (ks : List Str), (∀ r ∈ rs, r ∈ rows) → (∀ x ∈ ks, waits ks (spAt rows x) = false) → ∀ x ∈ sweep rs ks, waits (sweep rs ks) (spAt rows x) = false := by
    intro rs
    induction rs with
    | nil => exact fun ks _ h => h
    | cons r rs ih =>
      intro ks hr h
      refine ih (sw ks r) (fun q hq => hr q (by simp [hq])) ?_
      unfold sw
      split
      · exact h
      · rename_i hw
        have hw : waits ks r.2 = false := by simpa using hw
        intro y hy
        refine waits_mono (addK_sub ks r.1) ?_
        unfold addK at hy
        split at hy
        · exact h y hy
        · rw [List.mem_append, List.mem_singleton] at hy
          rcases hy with hy | rfl
          · exact h y hy
          · rw [spAt_mem hnd (hr r (by simp))]
            exact hw
  have turn : ∀ n, ∀ x ∈ turns rows n, waits (turns rows n) (spAt rows x) = false := by
    intro n
    induction n with
    | zero => exact fun x h => by cases h
    | succ n ih => exact key rows _ (fun r h => h) ih
  exact turn _ x hx
theorem rows_child {B : Book} {r : Str × List Spot} (hr : r ∈ rowsOf B.trs) {sp : Spot} (hs : sp ∈ r.2) {y : Str} (hy : y ∈ sp.2.2) : y ∈ B.keys := by
  unfold rowsOf at hr
  obtain ⟨p, hp, rfl⟩ := List.mem_map.mp hr
  have hs : sp ∈ spotsOf B.trs p.2 := hs
  unfold spotsOf at hs
  obtain ⟨q, hq, e⟩ := List.mem_filterMap.mp hs
  have e2 : ∃ n, sp.2.2 = keysOf B.trs n := by
    unfold spotOf at e
    split at e
    · split at e
      · cases e; exact ⟨_, rfl⟩
      · cases e
    · cases e; exact ⟨_, rfl⟩
    · cases e
    · cases e
  obtain ⟨n, e3⟩ := e2
  rw [e3] at hy
  unfold keysOf at hy
  obtain ⟨p2, hp2, rfl⟩ := List.mem_map.mp hy
  exact List.mem_map.mpr ⟨p2, (List.mem_filter.mp hp2).1, rfl⟩
theorem spAt_child {B : Book} {x : Str} {sp : Spot} (hs : sp ∈ spAt (rowsOf B.trs) x) {y : Str} (hy : y ∈ sp.2.2) : y ∈ B.keys := by
  by_cases h : x ∈ (rowsOf B.trs).map (·.1)
  · exact rows_child (spAt_in h) hs hy
  · rw [spAt_none h] at hs
    cases hs
/-- WHAT HAS A PLAN ENDS -/
theorem cnt_ends {B : Book} : ∀ (n : Nat) (x : Str), x ∈ B.keys → 0 < cnt (rowsOf B.trs) x n → x ∈ ending (rowsOf B.trs) := by
  intro n
  induction n using Nat.strongRecOn with
  | _ n ih =>
    intro x hx h
    cases n with
    | zero => rw [cnt_zero] at h; omega
    | succ n =>
      rw [cnt_succ] at h
      rw [← keys_rows] at hx
      refine ending_in (spAt_in hx) ?_
      show waits _ (spAt (rowsOf B.trs) x) = false
      unfold waits
      rw [List.any_eq_false]
      intro sp hsp
      simp only [Bool.and_eq_true, Bool.not_eq_true', not_and, Bool.not_eq_false]
      intro hm
      obtain ⟨i, y, h1, h2, h3, h4⟩ := Wc_must h sp hsp hm
      exact List.any_eq_true.mpr ⟨y, h3, by simpa using ih i (by omega) y (spAt_child hsp h3) h4⟩
theorem great_ge {ks : List Str} {ns : Nums} {y : Str} {n : Int} (hy : y ∈ ks) (hn : GA.numAt ns y = some n) : n ≤ greatOf ks ns := by
  unfold greatOf
  have hm : n ∈ ks.filterMap (GA.numAt ns) := List.mem_filterMap.mpr ⟨y, hy, hn⟩
  cases e : (ks.filterMap (GA.numAt ns)).max? with
  | none => rw [List.max?_eq_none_iff] at e; rw [e] at hm; cases hm
  | some m => exact (List.max?_eq_some_iff.mp e).2 n hm
theorem great_at {ks : List Str} {ns : Nums} : (∃ y ∈ ks, GA.numAt ns y = some (greatOf ks ns)) ∨ (greatOf ks ns = 0 ∧ ∀ y ∈ ks, GA.numAt ns y = none) := by
  unfold greatOf
  cases e : (ks.filterMap (GA.numAt ns)).max? with
  | none =>
    rw [List.max?_eq_none_iff] at e
    refine .inr ⟨rfl, fun y hy => ?_⟩
    cases h : GA.numAt ns y with
    | none => rfl
    | some n =>
      have : n ∈ ks.filterMap (GA.numAt ns) := List.mem_filterMap.mpr ⟨y, hy, h⟩
      rw [e] at this
      cases this
  | some m =>
    obtain ⟨y, hy, h⟩ := List.mem_filterMap.mp (List.max?_eq_some_iff.mp e).1
    exact .inl ⟨y, hy, h⟩
theorem numAt_idx {ns : Nums} {y : Str} {n : Int} (h : GA.numAt ns y = some n) : ∃ i : Nat, ns[i]? = some (y, n) := by
  unfold GA.numAt at h
  cases e : ns.find? fun p => decide (p.1 = y) with
  | none => rw [e] at h; cases h
  | some p =>
    rw [e] at h
    cases h
    obtain ⟨i, hi⟩ := List.getElem?_of_mem (List.mem_of_find?_eq_some e)
    have : p.1 = y := by have := List.find?_some e; simpa using this
    exact ⟨i, by rw [hi, ← this]⟩
/-- IN A BOUNDED BOOK THE HEIGHTS ARE THE GREATEST SIZES -/
theorem cnt_heights {B : Book} (hB : BookOk B) {ns : Nums} (h : HtsI (rowsOf B.trs) (orderL B) ns []) : ∀ (i : Nat) (x : Str) (n : Int), ns[i]? = some (x, n) → 1 ≤ n ∧ 0 < cnt (rowsOf B.trs) x n.toNat ∧ ∀ m : Nat, n < m → cnt (rowsOf B.trs) x m = 0 := by
  have hrn := rowsOf_nd hB
  intro i
  induction i using Nat.strongRecOn with
  | _ i ih =>
    intro x n hi
    obtain ⟨hn, hch⟩ := h.good i x n hi
    have hxo : x ∈ orderL B := h.sub x (List.mem_map.mpr ⟨_, List.mem_of_getElem? hi, rfl⟩)
    have hxk : x ∈ (rowsOf B.trs).map (·.1) := by rw [keys_rows]; exact orderL_sub hxo
    have hxK : x ∈ ending (rowsOf B.trs) := by
      have := (List.mem_filter.mp hxo).2
      exact ((used_mem hB).mp (by simpa using this)).known
    have hxw := ending_waits hrn hxK
    -- a child's number stands ahead
    have child : ∀ sp ∈ spAt (rowsOf B.trs) x, ∀ y ∈ sp.2.2, y ∈ ending (rowsOf B.trs) → ∃ l ny, l < i ∧ ns[l]? = some (y, ny) ∧ GA.numAt (ns.take i) y = some ny := by
      intro sp hsp y hy hyK
      have hyo := used_child hB hxo (spAt_in hxk) hsp hy hyK
      obtain ⟨ny, hny⟩ := num_some (hch sp hsp y hy hyo)
      obtain ⟨l, hl⟩ := numAt_idx hny
      have hli : l < i := by
        have := (List.getElem?_eq_some_iff.mp hl).1
        rw [List.length_take] at this
        omega
      exact ⟨l, ny, hli, by rw [← hl, List.getElem?_take_of_lt hli], hny⟩
    have ahead : ∀ (y : Str) (ny : Int), GA.numAt (ns.take i) y = some ny → ∃ l, l < i ∧ ns[l]? = some (y, ny) := by
      intro y ny hny
      obtain ⟨l, hl⟩ := numAt_idx hny
      have hli : l < i := by
        have := (List.getElem?_eq_some_iff.mp hl).1
        rw [List.length_take] at this
        omega
      exact ⟨l, hli, by rw [← hl, List.getElem?_take_of_lt hli]⟩
    have hg0 : ∀ sp : Spot, 0 ≤ greatOf sp.2.2 (ns.take i) := by
      intro sp
      rcases great_at (ks := sp.2.2) (ns := ns.take i) with ⟨y, hy, e⟩ | ⟨e, _⟩
      · obtain ⟨l, hl, he⟩ := ahead y _ e
        have := (ih l hl y _ he).1
        omega
      · omega
    have hsum : ∀ sps : List Spot, (sps.map fun sp => greatOf sp.2.2 (ns.take i)).sum = (((sps.map fun sp => (greatOf sp.2.2 (ns.take i)).toNat).sum : Nat) : Int) := by
      intro sps
      induction sps with
      | nil => rfl
      | cons sp sps ih2 =>
        rw [List.map_cons, List.sum_cons, ih2, List.map_cons, List.sum_cons, Int.natCast_add, Int.toNat_of_nonneg (hg0 sp)]
    unfold heightOf at hn
    rw [hsum] at hn
    refine ⟨by omega, ?_, fun m hm => ?_⟩
    · have hnt : n.toNat = ((spAt (rowsOf B.trs) x).map fun sp => (greatOf sp.2.2 (ns.take i)).toNat).sum + 1 := by omega
      rw [hnt, cnt_succ]
      refine Wc_some fun sp hsp => ?_
      rcases great_at (ks := sp.2.2) (ns := ns.take i) with ⟨y, hy, e⟩ | ⟨e, hno⟩
      · obtain ⟨l, hl, he⟩ := ahead y _ e
        obtain ⟨h1, h2, _⟩ := ih l hl y _ he
        unfold chC
        rw [if_neg (by omega)]
        exact Nat.lt_of_lt_of_le h2 (le_sum (f := fun y => cnt (rowsOf B.trs) y (greatOf sp.2.2 (ns.take i)).toNat) hy)
      · rw [e]
        unfold chC
        rw [show (0 : Int).toNat = 0 from rfl, if_pos rfl]
        split
        · rename_i hm
          exfalso
          unfold waits at hxw
          rw [List.any_eq_false] at hxw
          have := hxw sp hsp
          rw [hm] at this
          simp only [Bool.true_and, Bool.not_eq_true', Bool.not_eq_false] at this
          obtain ⟨y, hy, hyK⟩ := List.any_eq_true.mp this
          obtain ⟨_, ny, _, _, hny⟩ := child sp hsp y hy (by simpa using hyK)
          rw [hno y hy] at hny
          cases hny
        · omega
    · cases m with
      | zero => rfl
      | succ m =>
        rw [cnt_succ]
        refine Classical.byContradiction fun hc => ?_
        have hpos : 0 < Wc (cnt (rowsOf B.trs)) (spAt (rowsOf B.trs) x) m := by omega
        have := Wc_top (g := fun sp => greatOf sp.2.2 (ns.take i)) (fun sp hsp j hj hcj => ?_) hpos
        · rw [hsum] at this
          omega
        · unfold chC at hcj
          by_cases h0 : j = 0
          · subst h0
            exact hg0 sp
          · rw [if_neg h0] at hcj
            obtain ⟨y, hy, h3⟩ := sum_pos hcj
            have hyK := cnt_ends j y (spAt_child hsp hy) h3
            obtain ⟨l, ny, hl, he, hny⟩ := child sp hsp y hy hyK
            obtain ⟨_, _, h4⟩ := ih l hl y ny he
            have h5 : ¬ ny < j := fun z => by rw [h4 j z] at h3; omega
            have := great_ge hy hny
            show (j : Int) ≤ greatOf sp.2.2 (ns.take i)
            omega

end GA
namespace GA
open PySem VM
/-- how many whole plans have so many keys -/
def manyN (B : Book) (n : Nat) : Nat := ((keysOf B.trs (false, B.top)).map fun x => cnt (rowsOf B.trs) x n).sum
theorem tops_keys {B : Book} {x : Str} (h : x ∈ keysOf B.trs (false, B.top)) : x ∈ B.keys := by
  unfold keysOf at h
  obtain ⟨p, hp, rfl⟩ := List.mem_map.mp h
  exact List.mem_map.mpr ⟨p, (List.mem_filter.mp hp).1, rfl⟩
theorem sum_zero {α : Type} {xs : List α} {f : α → Nat} (h : ∀ x ∈ xs, f x = 0) : (xs.map f).sum = 0 := by
  induction xs with
  | nil => rfl
  | cons x xs ih => rw [List.map_cons, List.sum_cons, h x (by simp), ih fun y hy => h y (by simp [hy])]
theorem many_none {B : Book} (hB : BookOk B) (h : usedL B = []) (n : Nat) : manyN B n = 0 := by
  refine sum_zero fun x hx => ?_
  refine Classical.byContradiction fun hc => ?_
  have hk := cnt_ends n x (tops_keys hx) (by omega)
  have : x ∈ usedL B := (used_mem hB).mpr (.top hx hk)
  rw [h] at this
  cases this
theorem many_bounded {B : Book} (hB : BookOk B) (hu : usedL B ≠ []) {ns : Nums} (h : HtsI (rowsOf B.trs) (orderL B) ns []) :
    1 ≤ greatOf (keysOf B.trs (false, B.top)) ns ∧ 0 < manyN B (greatOf (keysOf B.trs (false, B.top)) ns).toNat ∧ ∀ m : Nat, greatOf (keysOf B.trs (false, B.top)) ns < m → manyN B m = 0 := by
  have hon := order_ne hB hu
  have hmem : ∀ x, x ∈ ns.map (·.1) ↔ x ∈ orderL B := fun x => ⟨h.sub x, fun hx => (h.all x hx).resolve_left fun z => by cases z⟩
  have topn : ∀ x ∈ keysOf B.trs (false, B.top), x ∈ ending (rowsOf B.trs) → ∃ (n : Int) (i : Nat), GA.numAt ns x = some n ∧ ns[i]? = some (x, n) := by
    intro x hx hk
    have hxu : x ∈ usedL B := (used_mem hB).mpr (.top hx hk)
    have hxo : x ∈ orderL B := List.mem_filter.mpr ⟨tops_keys hx, by simpa using hxu⟩
    obtain ⟨n, hn⟩ := num_some ((hmem x).mpr hxo)
    obtain ⟨i, hi⟩ := numAt_idx hn
    exact ⟨n, i, hn, hi⟩
  have zero : ∀ m : Nat, greatOf (keysOf B.trs (false, B.top)) ns < m → manyN B m = 0 := by
    intro m hm
    refine sum_zero fun x hx => ?_
    refine Classical.byContradiction fun hc => ?_
    have hk := cnt_ends m x (tops_keys hx) (by omega)
    obtain ⟨n, i, hn, hi⟩ := topn x hx hk
    have := great_ge hx hn
    exact hc ((cnt_heights hB h i x n hi).2.2 m (by omega))
  rcases great_at (ks := keysOf B.trs (false, B.top)) (ns := ns) with ⟨y, hy, e⟩ | ⟨_, hno⟩
  · obtain ⟨i, hi⟩ := numAt_idx e
    obtain ⟨h1, h2, _⟩ := cnt_heights hB h i y _ hi
    exact ⟨h1, Nat.lt_of_lt_of_le h2 (le_sum (f := fun x => cnt (rowsOf B.trs) x (greatOf (keysOf B.trs (false, B.top)) ns).toNat) hy), zero⟩
  · exfalso
    obtain ⟨y, hy⟩ := List.exists_mem_of_ne_nil _ hu
    have key : ∀ {y : Str}, Reach (rowsOf B.trs) (ending (rowsOf B.trs)) (keysOf B.trs (false, B.top)) y → ∃ x, x ∈ keysOf B.trs (false, B.top) ∧ x ∈ ending (rowsOf B.trs) := by
      intro y hr
      induction hr with
      | top h k => exact ⟨_, h, k⟩
      | step _ _ _ _ _ ih => exact ih
    obtain ⟨x, h1, h2⟩ := key ((used_mem hB).mp hy)
    obtain ⟨n, _, hn, _⟩ := topn x h1 h2
    rw [hno x h1] at hn
    cases hn
/-! ### fill_ways -/
def intsL (f : Nat → Nat) (n : Nat) : List D := (List.range n).map fun k => .int (f k : Nat)
theorem intsL_snoc (f : Nat → Nat) (n : Nat) : intsL f (n + 1) = intsL f n ++ [.int (f n : Nat)] := by
  unfold intsL
  rw [List.range_succ, List.map_append]
  rfl
theorem intsL_len (f : Nat → Nat) (n : Nat) : (intsL f n).length = n := by unfold intsL; rw [List.length_map, List.length_range]
theorem intsL_get {f : Nat → Nat} {n i : Nat} (h : i < n) : (intsL f n)[i]? = some (.int (f i : Nat)) := by
  unfold intsL
  rw [List.getElem?_map, List.getElem?_range h]
  rfl
structure HasMany (tbl : List (Nat × Fd)) : Prop extends HasSpots tbl where
  fill : tbl.lookup 18 = some ⟨4, 10, b_fill_ways⟩
  tally : tbl.lookup 19 = some ⟨2, 10, b_tally⟩
  many : tbl.lookup 20 = some ⟨2, 4, b_many_of⟩
/-- the lists of a row that grow -/
def mutsP (ps : List (Nat × Nat)) : List Nat := ps.flatMap fun p => [p.1, p.2]
theorem muts_at {ps : List (Nat × Nat)} {i : Nat} {p : Nat × Nat} (h : ps[i]? = some p) : p.1 ∈ mutsP ps ∧ p.2 ∈ mutsP ps := by
  have hm := List.mem_of_getElem? h
  exact ⟨List.mem_flatMap.mpr ⟨p, hm, by simp⟩, List.mem_flatMap.mpr ⟨p, hm, by simp⟩⟩
theorem muts_ne {ps : List (Nat × Nat)} (hnd : (mutsP ps).Nodup) : ∀ {i j : Nat} {p q : Nat × Nat}, ps[i]? = some p → ps[j]? = some q → (p.1 ≠ q.2) ∧ (i ≠ j → p.1 ≠ q.1 ∧ p.2 ≠ q.2) := by
  induction ps with
  | nil => intro i j p q h; simp at h
  | cons a ps ih =>
    intro i j p q hp hq
    have hnd' : ([a.1, a.2] ++ mutsP ps).Nodup := hnd
    obtain ⟨h1, h2, h3⟩ := List.nodup_append.mp hnd'
    have ha : a.1 ≠ a.2 := by simpa using h1
    cases i with
    | zero =>
      simp at hp
      subst hp
      cases j with
      | zero =>
        simp at hq
        subst hq
        exact ⟨ha, fun z => absurd rfl z⟩
      | succ j =>
        have hq : ps[j]? = some q := by simpa using hq
        obtain ⟨m1, m2⟩ := muts_at hq
        exact ⟨h3 _ (by simp) _ m2, fun _ => ⟨h3 _ (by simp) _ m1, h3 _ (by simp) _ m2⟩⟩
    | succ i =>
      have hp : ps[i]? = some p := by simpa using hp
      obtain ⟨n1, n2⟩ := muts_at hp
      cases j with
      | zero =>
        simp at hq
        subst hq
        exact ⟨fun z => h3 _ (by simp) _ n1 z.symm, fun _ => ⟨fun z => h3 _ (by simp) _ n1 z.symm, fun z => h3 _ (by simp) _ n2 z.symm⟩⟩
      | succ j =>
        have hq : ps[j]? = some q := by simpa using hq
        obtain ⟨e1, e2⟩ := ih h2 hp hq
        exact ⟨e1, fun z => e2 (by omega)⟩
/-- a row's lists: those at m and behind have one number more than those ahead -/
def SumsAt (C : Str → Nat → Nat) (sps : List Spot) (ps : List (Nat × Nat)) (t m : Nat) (S : Sto) : Prop :=
  ∀ (i : Nat) (p : Nat × Nat) (sp : Spot), ps[i]? = some p → sps[i]? = some sp → lstAt S p.1 = some (intsL (chC C sp) (if m ≤ i then t + 1 else t)) ∧ lstAt S p.2 = some (intsL (Wc C (sps.drop i)) (if m ≤ i then t + 1 else t))
def pairD (p : Nat × Nat) : D := .tup [.ref p.1, .ref p.2]
section
variable {sub : Nat → Nat → Bool} {tbl : List (Nat × Fd)} {k : Nat} {S : Sto}
theorem down_size (n : Nat) : Builtin.Range.rangeSize ((n : Int) - 1) (-1) (-1) = n := by
  unfold Builtin.Range.rangeSize
  rw [if_neg (by decide)]
  by_cases h : (n : Int) - 1 > -1
  · rw [if_pos h]
    simp
  · rw [if_neg h]
    omega
theorem down_small (n : Nat) (hn : n ≤ 100000) : Builtin.Range.small ((n : Int) - 1) (-1) (-1) = true := by
  unfold Builtin.Range.small
  rw [down_size]
  simp only [Builtin.Range.rangeFitsLong]
  simp
  omega
end

end GA
namespace GA
open PySem VM
theorem start_row (C : Str → Nat → Nat) : ∀ t : Nat, [D.int 1] ++ (List.replicate t [D.int 0]).flatten = intsL (Wc C []) (t + 1)
  | 0 => rfl
  | t + 1 => by
    rw [intsL_snoc, ← start_row C t, List.append_assoc]
    congr 1
    have h1 : ∀ n, (List.replicate n [D.int 0]).flatten = List.replicate n (D.int 0) := by
      intro n
      induction n with
      | zero => rfl
      | succ n ih => rw [List.replicate_succ, List.flatten_cons, ih, List.replicate_succ]; rfl
    rw [h1, h1, List.replicate_succ']
    rfl
theorem Wc_drop {C : Str → Nat → Nat} {sps : List Spot} {i : Nat} {sp : Spot} (h : sps[i]? = some sp) (t : Nat) : Wc C (sps.drop i) t = ((List.range (t + 1)).map fun j => Wc C (sps.drop (i + 1)) (t - j) * chC C sp j).sum := by
  obtain ⟨hi, he⟩ := List.getElem?_eq_some_iff.mp h
  rw [List.drop_eq_getElem_cons hi, he]
  rfl
theorem sum_cast (xs : List Nat) : ((xs.map fun (n : Nat) => (n : Int)).sum) = (xs.sum : Nat) := by
  induction xs with
  | nil => rfl
  | cons x xs ih => rw [List.map_cons, List.sum_cons, ih, List.sum_cons, Int.natCast_add]
section
variable {sub : Nat → Nat → Bool} {tbl : List (Nat × Fd)} {k : Nat} {S : Sto}
theorem fillw_sp (hp : HasMany tbl) {fd sr ur t : Nat} {sps : List Spot} {ps : List (Nat × Nat)} {C : Str → Nat → Nat} (ht : t ≤ 1000) (hl : ps.length = sps.length) (hsl : sps.length ≤ 1000) (hkl : ∀ sp ∈ sps, sp.2.2.length ≤ 100000)
    (hnd : (mutsP ps).Nodup) (hml : ∀ n ∈ mutsP ps, n < S.length) (hA : SumsAt C sps ps t sps.length S)
    (hsp : ∀ S', FrX (mutsP ps) S S' → SpotsAt S' (.ref sr) sps) (hur : ∀ S', FrX (mutsP ps) S S' → lstAt S' ur = some (ps.map pairD))
    (hfd : ∀ S', FrX (mutsP ps) S S' → ∃ kvs, dicAt S' fd = some kvs ∧ ∀ sp ∈ sps, ∀ y ∈ sp.2.2, ∃ (s u : D) (c : Nat) (cl : List D), lkD kvs (.inr y) = some (.tup [s, .ref c, u]) ∧ lstAt S' c = some cl ∧ cl[t]? = some (.int (C y t : Nat)))
    (hbW : ∀ m j, j ≤ t → (Wc C (sps.drop m) j).log2 < 400000) (hbC : ∀ sp ∈ sps, ∀ j, j ≤ t → (chC C sp j).log2 < 400000) :
    Wx NoX (callN sub tbl (k + 1) 18 [.ref fd, .ref sr, .ref ur, .int t] S) fun d S' => d = .int (Wc C sps t : Nat) ∧ FrX (mutsP ps) S S' ∧ SumsAt C sps ps t 0 S' := by
  refine Wp.gen fun Q hQ => ?_
  have sz : sizeLine = 16777216 := rfl
  obtain ⟨rr, ds0, hrr, hds0, hA0⟩ := hsp S (.refl _ _)
  cases hrr
  have hdl : ds0.length = sps.length := hA0.1
  refine wp_call hp.fill rfl ?_
  unfold b_fill_ways
  rw [wp_cons]
  try walk_at "ev1"
  have e1 : ∀ T : Sto, lstAt (T ++ [O.lst [D.int 1]] ++ [O.lst [D.int 0]]) (T ++ [O.lst [D.int 1]]).length = some [.int 0] := fun T => lstAt_new
  have e2 : ∀ (T : Sto) (x : List D), lstAt (T ++ [O.lst [D.int 1]] ++ [O.lst [D.int 0]] ++ [O.lst x]) T.length = some [.int 1] := fun T x => ((Ext.app (T ++ [O.lst [D.int 1]]) [O.lst [D.int 0]]).app1 _).lst lstAt_new
  have e3 : ∀ (T : Sto) (x : List D), lstAt (T ++ [O.lst [D.int 1]] ++ [O.lst [D.int 0]] ++ [O.lst x]) (T ++ [O.lst [D.int 1]] ++ [O.lst [D.int 0]]).length = some x := fun T x => lstAt_new
  have hfl : ((List.replicate t [D.int 0]).flatten).length = t := by
    have := congrArg List.length (start_row C t)
    rw [intsL_len, List.length_append] at this
    simpa using this
  refine ⟨⟨by omega, by omega, by omega⟩, by omega, ?_⟩
  have hb4 : lstAt (S ++ [O.lst [D.int 1]] ++ [O.lst [D.int 0]] ++ [O.lst (List.replicate t [D.int 0]).flatten] ++ [O.lst ([D.int 1] ++ (List.replicate t [D.int 0]).flatten)]) (S ++ [O.lst [D.int 1]] ++ [O.lst [D.int 0]] ++ [O.lst (List.replicate t [D.int 0]).flatten]).length = some (intsL (Wc C []) (t + 1)) := by
    rw [start_row C t]
    exact lstAt_new
  have X4 : Ext S (S ++ [O.lst [D.int 1]] ++ [O.lst [D.int 0]] ++ [O.lst (List.replicate t [D.int 0]).flatten] ++ [O.lst ([D.int 1] ++ (List.replicate t [D.int 0]).flatten)]) := (((Ext.app _ _).app1 _).app1 _).app1 _
  have hbl : S.length ≤ (S ++ [O.lst [D.int 1]] ++ [O.lst [D.int 0]] ++ [O.lst (List.replicate t [D.int 0]).flatten]).length := by simp
  clear e1 e2 e3 hfl
  try rw [show (D.int 1 :: (List.replicate t [D.int 0]).flatten) = [D.int 1] ++ (List.replicate t [D.int 0]).flatten from rfl]
  generalize (S ++ [O.lst [D.int 1]] ++ [O.lst [D.int 0]] ++ [O.lst (List.replicate t [D.int 0]).flatten]).length = b0 at *
  generalize S ++ [O.lst [D.int 1]] ++ [O.lst [D.int 0]] ++ [O.lst (List.replicate t [D.int 0]).flatten] ++ [O.lst ([D.int 1] ++ (List.replicate t [D.int 0]).flatten)] = S4 at *
  have hds4 := X4.lst hds0
  have hszn := down_size sps.length
  have hsmn := down_small sps.length (by omega)
  rw [seqQ_nx, wp_cons]
  try walk_at "ev1"
  refine ⟨_, _, _, rfl, rfl, rfl, ⟨by decide, by decide, hsmn, by rw [hszn]; omega⟩, ?_⟩
  rw [hszn, Int.toNat_natCast]
  clear hszn hsmn
  refine wp_fF (fun j ρ S' => ∃ (bh : Nat) (x5 x6 x7 x8 x9 : Option D), ρ = [some (.ref fd), some (.ref sr), some (.ref ur), some (.int t), some (.ref bh), x5, x6, x7, x8, x9] ∧ FrX (mutsP ps) S S' ∧ lstAt S' bh = some (intsL (Wc C (sps.drop (sps.length - j))) (t + 1)) ∧ SumsAt C sps ps t (sps.length - j) S') ?_ ?_ ?_
  · refine ⟨b0, _, _, _, _, _, rfl, (FrX.refl _ _).ext X4, by rw [Nat.sub_zero, List.drop_length]; exact hb4, ?_⟩
    intro i p sp hp hs
    obtain ⟨a1, a2⟩ := hA i p sp hp hs
    exact ⟨X4.lst a1, X4.lst a2⟩
  · rintro j d ρ S5 hd ⟨bh, x5, x6, x7, x8, x9, rfl, F5, hb5, hS5⟩ J hJ
    rw [List.getElem?_map] at hd
    cases e0 : (List.range sps.length)[j]? with
    | none => rw [e0] at hd; cases hd
    | some y =>
      rw [e0] at hd
      cases hd
      obtain ⟨hj, hy⟩ := List.getElem?_eq_some_iff.mp e0
      rw [List.getElem_range] at hy
      rw [List.length_range] at hj
      subst hy
      obtain ⟨i, hi⟩ : ∃ i : Nat, i = sps.length - 1 - j := ⟨_, rfl⟩
      have hii : ((sps.length : Int) - 1 + (j : Int) * -1) = (i : Nat) := by omega
      have him : sps.length - j = i + 1 := by omega
      have him2 : sps.length - (j + 1) = i := by omega
      rw [him] at hb5 hS5
      rw [him2] at hJ
      have hil : i < sps.length := by omega
      have hsi : sps[i]? = some sps[i] := List.getElem?_eq_getElem hil
      have hpi : ps[i]? = some (ps[i]'(by omega)) := List.getElem?_eq_getElem (by omega)
      generalize sps[i] = sp at hsi
      generalize (ps[i]'(by omega)) = pr at hpi
      obtain ⟨pa, pb⟩ := pr
      obtain ⟨hca, hcb⟩ := hS5 i (pa, pb) sp hpi hsi
      rw [if_neg (by omega)] at hca hcb
      simp only at hca hcb
      obtain ⟨hma, hmb⟩ := muts_at hpi
      simp only at hma hmb
      have hur5 := hur S5 F5
      obtain ⟨rr', ds5, hrr', hds5, hA5⟩ := hsp S5 F5
      cases hrr'
      obtain ⟨kvs, hfdk, hcnt⟩ := hfd S5 F5
      have hatU : L2.atI (ps.map pairD) (i : Int) = some (.tup [.ref pa, .ref pb]) := by rw [atI_cast, List.getElem?_map, hpi]; rfl
      obtain ⟨dsp, hdsp⟩ : ∃ dsp, ds5[i]? = some dsp := ⟨ds5[i]'(by rw [hA5.1]; exact hil), List.getElem?_eq_getElem _⟩
      obtain ⟨sp', hsp', kr, hdeq, hkr⟩ := hA5.get hdsp
      rw [hsi] at hsp'
      cases hsp'
      subst hdeq
      have hatS : L2.atI ds5 (i : Int) = some (.tup [plD sp.1, .bl sp.2.1, .ref kr]) := by rw [atI_cast]; exact hdsp
      show ∃ ρ1, bindT (.nm 5) (D.int ((sps.length : Int) - 1 + (j : Int) * -1)) _ = some ρ1 ∧ _
      rw [hii]
      clear hi hii him him2
      have hcal := lstAt_lt hca
      have hcbl := lstAt_lt hcb
      have hlenC := intsL_len (chC C sp) t
      have hlenW := intsL_len (Wc C (sps.drop i)) t
      have next : ∀ (x9 : Option D) (S6 : Sto), FrX (mutsP ps) S S6 → lstAt S6 pa = some (intsL (chC C sp) (t + 1)) → lstAt S6 pb = some (intsL (Wc C (sps.drop i)) t) → lstAt S6 bh = some (intsL (Wc C (sps.drop (i + 1))) (t + 1)) →
          (∀ (i' : Nat) (p' : Nat × Nat), i' ≠ i → ps[i']? = some p' → lstAt S6 p'.1 = lstAt S5 p'.1 ∧ lstAt S6 p'.2 = lstAt S5 p'.2) →
          Wx NoX (exCs ⟨callN sub tbl k, sub⟩ (tlN 2 (bodyOf (hdC (tlN 1 b_fill_ways)))) [some (.ref fd), some (.ref sr), some (.ref ur), some (.int t), some (.ref bh), some (.int i), some (.ref pa), some (.ref pb), x8, x9] S6) (forQ J (seqQ ⟨callN sub tbl k, sub⟩ (.cons (.ret (.idx (.var 4) (.var 3))) .nil) (retQ Q NoX))) := by
        intro x9 S6 F6 ha6 hb6 hbh6 hot
        have m0 := fun x8 x9 S7 h1 h2 h3 => hJ [some (.ref fd), some (.ref sr), some (.ref ur), some (.int t), some (.ref pb), some (.int i), some (.ref pa), some (.ref pb), x8, x9] S7 ⟨pb, _, _, _, _, _, rfl, h1, h2, h3⟩
        clear hJ hQ hfd hsp hur hcnt hatU hatS hkr hca hcb
        have hpb6 := lstAt_lt hb6
        unfold b_fill_ways
        simp only [tlN, hdC, bodyOf]
        rw [wp_cons]
        try walk_at "ev1"
        refine ⟨⟨by omega, by omega⟩, ?_⟩
        rw [show ((t : Int) + 1).toNat = t + 1 by omega]
        refine wp_lMF (List.range (t + 1)) (fun (o : Nat) => D.int o) (fun _ => true) (fun o => D.int ((Wc C (sps.drop (i + 1)) (t - o) * chC C sp o : Nat) : Int)) (by rw [List.length_range]; omega) (fun o ho => ⟨_, rfl, ?_, fun _ => ?_⟩) ?_
        · try walk_at "ev1"
        · have ho := List.mem_range.mp ho
          have g1 : L2.atI (intsL (Wc C (sps.drop (i + 1))) (t + 1)) ((t : Int) - (o : Int)) = some (.int (Wc C (sps.drop (i + 1)) (t - o) : Nat)) := by
            rw [show ((t : Int) - (o : Int)) = ((t - o : Nat) : Int) by omega, atI_cast]
            exact intsL_get (by omega)
          have g2 : L2.atI (intsL (chC C sp) (t + 1)) (o : Int) = some (.int (chC C sp o : Nat)) := by
            rw [atI_cast]
            exact intsL_get ho
          have l1 := hbW (i + 1) (t - o) (by omega)
          have l2 := hbC sp (List.mem_of_getElem? hsi) o (by omega)
          clear hbW hbC
          try walk_at "ev1"
          rw [Int.natCast_mul]
          refine ⟨.inr (.inr ?_), ?_⟩
          · rw [Int.natAbs_natCast, Int.natAbs_natCast]; omega
          · first | rfl | exact ⟨rfl, rfl⟩ | trivial
        have hrow : ((List.range (t + 1)).filter fun _ => true).map (fun o => D.int ((Wc C (sps.drop (i + 1)) (t - o) * chC C sp o : Nat) : Int)) = (((List.range (t + 1)).map fun o => Wc C (sps.drop (i + 1)) (t - o) * chC C sp o).map fun (n : Nat) => (n : Int)).map D.int := by
          rw [List.filter_eq_self.mpr (fun _ _ => rfl), List.map_map, List.map_map]
          rfl
        rw [hrow]
        have X7 : Ext S6 (S6 ++ [O.lst ((((List.range (t + 1)).map fun o => Wc C (sps.drop (i + 1)) (t - o) * chC C sp o).map fun (n : Nat) => (n : Int)).map D.int)]) := Ext.app _ _
        refine wsumL lstAt_new ?_
        rw [sum_cast, ← Wc_drop hsi]
        generalize S6 ++ [O.lst ((((List.range (t + 1)).map fun o => Wc C (sps.drop (i + 1)) (t - o) * chC C sp o).map fun (n : Nat) => (n : Int)).map D.int)] = S7 at *
        have hb7 := X7.lst hb6
        have hpb7 := lstAt_lt hb7
        have ha7 := X7.lst ha6
        have F7 := F6.ext X7
        have hot7 : ∀ (i' : Nat) (p' : Nat × Nat) (sp' : Spot), i' ≠ i → ps[i']? = some p' → sps[i']? = some sp' → lstAt S7 p'.1 = some (intsL (chC C sp') (if i ≤ i' then t + 1 else t)) ∧ lstAt S7 p'.2 = some (intsL (Wc C (sps.drop i')) (if i ≤ i' then t + 1 else t)) := by
          intro i' p' sp' hne hp' hs'
          obtain ⟨o1, o2⟩ := hot i' p' hne hp'
          obtain ⟨a1, a2⟩ := hS5 i' p' sp' hp' hs'
          have hite : (if i + 1 ≤ i' then t + 1 else t) = (if i ≤ i' then t + 1 else t) := by
            by_cases h : i + 1 ≤ i'
            · rw [if_pos h, if_pos (by omega)]
            · rw [if_neg h, if_neg (by omega)]
          rw [hite] at a1 a2
          exact ⟨X7.lst (o1.trans a1), X7.lst (o2.trans a2)⟩
        clear hot hS5 hb5 hb6 ha6 hbh6 F5 F6
        try walk_at "ev1"
        refine ⟨by omega, ?_⟩
        rw [← intsL_snoc]
        rw [seqQ_nx, wp_cons]
        try walk_at "ev1"
        refine m0 _ _ _ (F7.set (.inl hmb) _) (lstAt_set hpb7) ?_
        intro i' p' sp' hp' hs'
        by_cases hne : i' = i
        · subst hne
          rw [hpi] at hp'
          cases hp'
          rw [hsi] at hs'
          cases hs'
          rw [if_pos (Nat.le_refl _)]
          exact ⟨by rw [lstAt_set_ne (muts_ne hnd hpi hpi).1]; exact ha7, lstAt_set hpb7⟩
        · obtain ⟨a1, a2⟩ := hot7 i' p' sp' hne hp' hs'
          rw [lstAt_set_ne (muts_ne hnd hp' hpi).1, lstAt_set_ne ((muts_ne hnd hp' hpi).2 hne).2]
          exact ⟨a1, a2⟩
      clear hJ
      unfold b_fill_ways at next
      simp only [tlN, hdC, bodyOf] at next
      generalize hT : (Cs.cons (VM.C.ex (E.bm .append (.var 7) _)) _) = T at *
      refine ⟨_, rfl, ?_⟩
      rw [wp_cons]
      try walk_at "ev1"
      rw [seqQ_nx, wp_cons]
      try walk_at "ev1"
      have hspm := List.mem_of_getElem? hsi
      have hkl1 := hkl sp hspm
      have hcnt1 := hcnt sp hspm
      -- the list grown
      have grow : ∀ (x9 : Option D) (S6 : Sto), Ext S5 S6 → Wx NoX (exCs ⟨callN sub tbl k, sub⟩ T [some (.ref fd), some (.ref sr), some (.ref ur), some (.int t), some (.ref bh), some (.int i), some (.ref pa), some (.ref pb), x8, x9] (S6.set pa (.lst (intsL (chC C sp) t ++ [.int (chC C sp t : Nat)])))) (forQ J (seqQ ⟨callN sub tbl k, sub⟩ (.cons (.ret (.idx (.var 4) (.var 3))) .nil) (retQ Q NoX))) := by
        intro x9 S6 X6
        rw [← intsL_snoc]
        have hpa6 := Nat.lt_of_lt_of_le hcal X6.len
        have hpab := (muts_ne hnd hpi hpi).1
        refine next x9 _ ((F5.ext X6).set (.inl hma) _) (lstAt_set hpa6) (by rw [lstAt_set_ne (Ne.symm hpab)]; exact X6.lst hcb) ?_ ?_
        · by_cases hbp : bh = pa
          · exfalso
            rw [hbp, hca] at hb5
            have := congrArg List.length (Option.some.inj hb5)
            rw [intsL_len, intsL_len] at this
            omega
          · rw [lstAt_set_ne hbp]
            exact X6.lst hb5
        · intro i' p' hne hp'
          have hp1 := muts_ne hnd hp' hpi
          have hp2 := muts_ne hnd hpi hp'
          have hi' : i' < sps.length := by have := (List.getElem?_eq_some_iff.mp hp').1; omega
          obtain ⟨a1, a2⟩ := hS5 i' p' _ hp' (List.getElem?_eq_getElem hi')
          rw [lstAt_set_ne (hp1.2 hne).1, lstAt_set_ne (Ne.symm hp2.1)]
          exact ⟨(X6.lst a1).trans a1.symm, (X6.lst a2).trans a2.symm⟩
      clear next hQ hfd hsp hur hbW hbC hS5 hnd hml hA hcnt hb5 hcb
      cases hb : decide ((0 : Int) < (t : Int)) with
      | true =>
        have ht0 : t ≠ 0 := by have := of_decide_eq_true hb; omega
        rw [ifQ_t, wp_cons]
        try walk_at "ev1"
        refine wp_lM sp.2.2 D.str (fun _ => true) (fun y => D.int (C y t : Nat)) hkr hkl1 (fun y hy => ⟨_, rfl, ?_, fun _ => ?_⟩) ?_
        · try walk_at "ev1"
        · obtain ⟨s0, u0, c, cl, g1, g2, g3⟩ := hcnt1 y hy
          have g4 : L2.atI cl (t : Int) = some (.int (C y t : Nat)) := by rw [atI_cast]; exact g3
          clear hcnt1 grow
          try walk_at "ev1"
        have hrow : (sp.2.2.filter fun _ => true).map (fun y => D.int (C y t : Nat)) = ((sp.2.2.map fun y => C y t).map fun (n : Nat) => (n : Int)).map D.int := by
          rw [List.filter_eq_self.mpr (fun _ _ => rfl), List.map_map, List.map_map]
          rfl
        rw [hrow]
        have X7 : Ext S5 (S5 ++ [O.lst (((sp.2.2.map fun y => C y t).map fun (n : Nat) => (n : Int)).map D.int)]) := Ext.app _ _
        refine wsumL lstAt_new ?_
        have hch : (sp.2.2.map fun y => C y t).sum = chC C sp t := by unfold chC; rw [if_neg ht0]
        rw [sum_cast, hch]
        have g := fun x9 => grow x9 _ X7
        generalize S5 ++ [O.lst (((sp.2.2.map fun y => C y t).map fun (n : Nat) => (n : Int)).map D.int)] = S7 at *
        have ha7 := X7.lst hca
        clear grow hcnt1 hrow
        try walk_at "ev1"
        refine ⟨by omega, ?_⟩
        first | exact g _ | (rw [seqQ_nx]; exact g _)
      | false =>
        have ht0 : t = 0 := by have := of_decide_eq_false hb; omega
        rw [ifQ_f, wp_cons]
        have g := fun x9 => grow x9 _ (Ext.refl S5)
        have hch : chC C sp t = if sp.2.1 = true then 0 else 1 := by unfold chC; rw [if_pos ht0]
        rw [hch] at g
        clear grow hcnt1 ht0 hch
        cases hm : sp.2.1 with
        | true =>
          rw [hm] at g hatS
          rw [if_pos rfl] at g
          try walk_at "ev1"
          refine ⟨by omega, ?_⟩
          first | exact g _ | (rw [seqQ_nx]; exact g _)
        | false =>
          rw [hm] at g hatS
          rw [if_neg (by decide)] at g
          try walk_at "ev1"
          refine ⟨by omega, ?_⟩
          first | exact g _ | (rw [seqQ_nx]; exact g _)
  · rintro ρ S5 ⟨bh, x5, x6, x7, x8, x9, rfl, F5, hb5, hS5⟩
    rw [List.length_map, List.length_range, Nat.sub_self] at hb5 hS5
    rw [List.drop_zero] at hb5
    have hat : L2.atI (intsL (Wc C sps) (t + 1)) (t : Int) = some (.int (Wc C sps t : Nat)) := by rw [atI_cast]; exact intsL_get (by omega)
    have := hQ (.int (Wc C sps t : Nat)) S5 ⟨rfl, F5, hS5⟩
    clear hQ hfd hsp hur hbW hbC
    try walk_at "ev"
end

end GA
namespace GA
open PySem VM
/-! ### tally -/
structure Lr where
  sr : Nat
  cr : Nat
  ur : Nat
  ps : List (Nat × Nat)
def lrD (l : Lr) : D := .tup [.ref l.sr, .ref l.cr, .ref l.ur]
def refsL (l : Lr) : List Nat := l.cr :: l.ur :: mutsP l.ps
def kvL (rows : List (Str × List Spot)) (L : List Lr) : List (L2.Key × D) := List.zipWith (fun r l => (.inr r.1, lrD l)) rows L
theorem kvL_snoc {rows : List (Str × List Spot)} {L : List Lr} {r : Str × List Spot} {l : Lr} (h : rows.length = L.length) : kvL (rows ++ [r]) (L ++ [l]) = kvL rows L ++ [(.inr r.1, lrD l)] := by
  unfold kvL
  rw [List.zipWith_append h]
  rfl
theorem kvL_look {rows : List (Str × List Spot)} {L : List Lr} (hnd : (rows.map (·.1)).Nodup) {i : Nat} {r : Str × List Spot} {l : Lr} (hr : rows[i]? = some r) (hl : L[i]? = some l) : lkD (kvL rows L) (.inr r.1) = some (lrD l) := by
  refine lkD_at (i := i) (by unfold kvL; rw [List.getElem?_zipWith, hr, hl]) (fun j kv hj hkv => ?_)
  unfold kvL at hkv
  rw [List.getElem?_zipWith] at hkv
  cases e1 : rows[j]? with
  | none => rw [e1] at hkv; cases hkv
  | some q =>
    cases e2 : L[j]? with
    | none => rw [e1, e2] at hkv; cases hkv
    | some m =>
      rw [e1, e2] at hkv
      cases hkv
      intro e
      have e : (Sum.inr q.1 : L2.Key) = .inr r.1 := e
      have e := Sum.inr.inj e
      have hi1 : (rows.map (·.1))[i]? = some r.1 := by rw [List.getElem?_map, hr]; rfl
      have hj1 : (rows.map (·.1))[j]? = some q.1 := by rw [List.getElem?_map, e1]; rfl
      obtain ⟨a1, a2⟩ := List.getElem?_eq_some_iff.mp hi1
      obtain ⟨b1, b2⟩ := List.getElem?_eq_some_iff.mp hj1
      exact (List.pairwise_iff_getElem.mp hnd) j i b1 a1 hj (by rw [a2, b2, e])
theorem refs_ne {L : List Lr} (hnd : (L.flatMap refsL).Nodup) : ∀ {i j : Nat} {l m : Lr}, L[i]? = some l → L[j]? = some m → i ≠ j → ∀ a ∈ refsL l, ∀ b ∈ refsL m, a ≠ b := by
  induction L with
  | nil => intro i j l m h; simp at h
  | cons x L ih =>
    intro i j l m hl hm hij a ha b hb
    rw [List.flatMap_cons] at hnd
    obtain ⟨h1, h2, h3⟩ := List.nodup_append.mp hnd
    cases i with
    | zero =>
      simp at hl
      subst hl
      cases j with
      | zero => exact absurd rfl hij
      | succ j =>
        have hm : L[j]? = some m := by simpa using hm
        exact h3 a ha b (List.mem_flatMap.mpr ⟨m, List.mem_of_getElem? hm, hb⟩)
    | succ i =>
      have hl : L[i]? = some l := by simpa using hl
      cases j with
      | zero =>
        simp at hm
        subst hm
        exact fun e => h3 b hb a (List.mem_flatMap.mpr ⟨l, List.mem_of_getElem? hl, ha⟩) e.symm
      | succ j =>
        have hm : L[j]? = some m := by simpa using hm
        exact ih h2 hl hm (by omega) a ha b hb
theorem refs_row {L : List Lr} (hnd : (L.flatMap refsL).Nodup) {l : Lr} (h : l ∈ L) : (refsL l).Nodup := by
  induction L with
  | nil => cases h
  | cons x L ih =>
    rw [List.flatMap_cons] at hnd
    obtain ⟨h1, h2, h3⟩ := List.nodup_append.mp hnd
    rcases List.mem_cons.mp h with rfl | h
    · exact h1
    · exact ih h2 h
/-- the table as it begins -/
structure Lay (rows : List (Str × List Spot)) (L : List Lr) (b : Nat) (S : Sto) : Prop where
  len : L.length = rows.length
  nd : (L.flatMap refsL).Nodup
  ge : ∀ n ∈ L.flatMap refsL, b ≤ n ∧ n < S.length
  row : ∀ (i : Nat) (l : Lr) (r : Str × List Spot), L[i]? = some l → rows[i]? = some r → l.ps.length = r.2.length ∧ lstAt S l.cr = some [.int 0] ∧ lstAt S l.ur = some (l.ps.map pairD) ∧ ∀ p ∈ l.ps, lstAt S p.1 = some [] ∧ lstAt S p.2 = some []
section
variable {sub : Nat → Nat → Bool} {tbl : List (Nat × Fd)} {k : Nat} {S : Sto}
theorem spots_ref {S : Sto} {d : D} {sps : List Spot} (h : SpotsAt S d sps) : ∃ r ds, d = .ref r ∧ lstAt S r = some ds ∧ ds.length = sps.length := let ⟨r, ds, e, l, a⟩ := h; ⟨r, ds, e, l, a.1⟩
/-- the lists of one row laid -/
theorem comp_lay {X0 : XQ} {F : Orc} {sr : Nat} {sps : List Spot} {r0 r1 r2 r3 r4 r6 r7 r8 r9 : Option D} {S : Sto} {Q : D → Sto → Prop} (hs : SpotsAt S (.ref sr) sps) (hl : sps.length ≤ 100000)
    (hQ : ∀ (ps : List (Nat × Nat)) (S' : Sto), Ext S S' → ps.length = sps.length → (mutsP ps).Nodup → (∀ n ∈ mutsP ps, S.length ≤ n ∧ n < S'.length) → (∀ p ∈ ps, lstAt S' p.1 = some [] ∧ lstAt S' p.2 = some []) → Q (.ref S'.length) (S' ++ [.lst (ps.map pairD)])) :
    Wx X0 (lcG F (.tup (.cons (.lst .nil) (.cons (.lst .nil) .nil))) (.nm 9) .yes [9] [r0, r1, r2, r3, r4, some (.ref sr), r6, r7, r8, r9] (.dyn sr .plain) S) Q := by
  have sz : sizeLine = 16777216 := rfl
  obtain ⟨r, ds, e, hds, hA⟩ := hs
  cases e
  have hdl := hA.1
  refine wp_lR (ds := ds) (fun i acc S' => ∃ ps : List (Nat × Nat), acc = ps.map pairD ∧ ps.length = i ∧ Ext S S' ∧ (mutsP ps).Nodup ∧ (∀ n ∈ mutsP ps, S.length ≤ n ∧ n < S'.length) ∧ ∀ p ∈ ps, lstAt S' p.1 = some [] ∧ lstAt S' p.2 = some []) ⟨[], rfl, rfl, .refl _, List.nodup_nil, fun n h => (by cases h), fun p h => (by cases h)⟩ ?_ ?_ ?_
  · rintro i acc S' ⟨ps, _, _, X, _⟩
    exact X.lst hds
  · rintro i d acc S' hd ⟨ps, rfl, rfl, X, hnd, hge, hemp⟩ J K hJ hK
    have hi := (List.getElem?_eq_some_iff.mp hd).1
    have hle := X.len
    refine ⟨_, rfl, ?_⟩
    try walk_at "ev1"
    have l1 : (S' ++ [O.lst []]).length = S'.length + 1 := by simp
    have X2 : Ext S' (S' ++ [O.lst []] ++ [O.lst []]) := (Ext.app _ _).app1 _
    have e1 : lstAt (S' ++ [O.lst []] ++ [O.lst []]) S'.length = some [] := ((Ext.app _ _) : Ext (S' ++ [O.lst []]) _).lst lstAt_new
    have e2 : lstAt (S' ++ [O.lst []] ++ [O.lst []]) (S'.length + 1) = some [] := by rw [← l1]; exact lstAt_new
    have l2 : (S' ++ [O.lst []] ++ [O.lst []]).length = S'.length + 2 := by simp
    try rw [l1]
    refine hJ _ _ (by rw [List.length_map]; omega) ⟨ps ++ [(S'.length, S'.length + 1)], by rw [List.map_append]; rfl, by rw [List.length_append]; rfl, X.trans X2, ?_, fun n hn => ?_, fun p hp => ?_⟩
    · unfold mutsP
      rw [List.flatMap_append]
      refine List.nodup_append.mpr ⟨hnd, by simp, fun a ha b hb e => ?_⟩
      have h1 := (hge a ha).2
      have hb : b = S'.length ∨ b = S'.length + 1 := by simpa using hb
      omega
    · unfold mutsP at hn
      rw [List.flatMap_append, List.mem_append] at hn
      rcases hn with hn | hn
      · have := hge n hn
        omega
      · have hn : n = S'.length ∨ n = S'.length + 1 := by simpa using hn
        omega
    · rcases List.mem_append.mp hp with hp | hp
      · exact ⟨X2.lst (hemp p hp).1, X2.lst (hemp p hp).2⟩
      · rw [List.mem_singleton] at hp
        subst hp
        exact ⟨e1, e2⟩
  · rintro acc S' ⟨ps, rfl, hpl, X, hnd, hge, hemp⟩
    exact hQ ps S' X (by omega) hnd hge hemp
end

end GA
namespace GA
open PySem VM
theorem SpotsAt.keepL {S S' : Sto} (X : ∀ n l, lstAt S n = some l → lstAt S' n = some l) {d : D} {sps : List Spot} (h : SpotsAt S d sps) : SpotsAt S' d sps :=
  let ⟨r, ds, e, l, a⟩ := h; ⟨r, ds, e, X r ds l, a.imp fun _ _ ⟨r2, e2, l2⟩ => ⟨r2, e2, X r2 _ l2⟩⟩
theorem rows_small {B : Book} (hB : BookOk B) : ∀ r ∈ rowsOf B.trs, r.2.length ≤ 1000 ∧ ∀ sp ∈ r.2, sp.2.2.length ≤ 6 := by
  intro r hr
  unfold rowsOf at hr
  obtain ⟨p, hp, rfl⟩ := List.mem_map.mp hr
  have hT := hB.tr p hp
  have hl : (spotsOf B.trs p.2).length ≤ (p.2.pcs []).length := List.length_filterMap_le _ _
  rw [pcs_len] at hl
  refine ⟨by have := hT.size; show (spotsOf B.trs p.2).length ≤ 1000; omega, fun sp hs => ?_⟩
  have hs : sp ∈ spotsOf B.trs p.2 := hs
  unfold spotsOf at hs
  obtain ⟨q, hq, e⟩ := List.mem_filterMap.mp hs
  have e2 : ∃ n, sp.2.2 = keysOf B.trs n := by
    unfold spotOf at e
    split at e
    · split at e
      · cases e; exact ⟨_, rfl⟩
      · cases e
    · cases e; exact ⟨_, rfl⟩
    · cases e
    · cases e
  obtain ⟨n, e3⟩ := e2
  rw [e3]
  exact keysOf_len hB n
theorem spAt_small {B : Book} (hB : BookOk B) (x : Str) : (spAt (rowsOf B.trs) x).length ≤ 1000 ∧ ∀ sp ∈ spAt (rowsOf B.trs) x, sp.2.2.length ≤ 6 := by
  by_cases h : x ∈ (rowsOf B.trs).map (·.1)
  · exact rows_small hB _ (spAt_in h)
  · rw [spAt_none h]
    exact ⟨by simp, fun sp h => by cases h⟩
theorem logs {B : Book} (hB : BookOk B) {sps : List Spot} (hl : sps.length ≤ 1000) (hk : ∀ sp ∈ sps, sp.2.2.length ≤ 6) {t : Nat} (ht : t ≤ 24) :
    (∀ m j, j ≤ t → (Wc (cnt (rowsOf B.trs)) (sps.drop m) j).log2 < 400000) ∧ ∀ sp ∈ sps, ∀ j, j ≤ t → (chC (cnt (rowsOf B.trs)) sp j).log2 < 400000 := by
  have hc := fun n x h => cnt_le (rows := rowsOf B.trs) (fun x => (spAt_small hB x).1) (fun x => (spAt_small hB x).2) n x h
  constructor
  · intro m j hj
    have h1 := Wc_le (C := cnt (rowsOf B.trs)) (sps.drop m) j (by omega) (fun sp h => hk sp (List.mem_of_mem_drop h)) fun y i a b => hc i y (by omega)
    have h2 : (25 : Nat) ^ (sps.drop m).length ≤ 25 ^ 1000 := Nat.pow_le_pow_right (by omega) (by rw [List.length_drop]; omega)
    have h3 : (25 : Nat) ^ 1000 ≤ qB := by unfold qB; exact Nat.le_mul_of_pos_left _ (by omega)
    have h4 : Wc (cnt (rowsOf B.trs)) (sps.drop m) j ≤ qB ^ (j + 1) := by
      refine Nat.le_trans h1 (Nat.le_trans (Nat.mul_le_mul_right _ (Nat.le_trans h2 h3)) ?_)
      rw [Nat.pow_succ, Nat.mul_comm]
      exact Nat.le_refl _
    have := log_lt (Nat.lt_of_le_of_lt h4 (qB_pow (n := j + 1) (by omega)))
    omega
  · intro sp hs j hj
    have h1 := chC_le (C := cnt (rowsOf B.trs)) (sp := sp) (i := j) (hk sp hs) fun y _ => hc j y (by omega)
    have := log_lt (Nat.lt_of_le_of_lt h1 (qB_pow (n := j) (by omega)))
    omega
theorem SumsAt.keep {C : Str → Nat → Nat} {sps : List Spot} {ps : List (Nat × Nat)} {t m : Nat} {S S' : Sto} (h : SumsAt C sps ps t m S) (X : ∀ a ∈ mutsP ps, ∀ l, lstAt S a = some l → lstAt S' a = some l) : SumsAt C sps ps t m S' := by
  intro i p sp hp hs
  obtain ⟨a1, a2⟩ := h i p sp hp hs
  obtain ⟨m1, m2⟩ := muts_at hp
  exact ⟨X _ m1 _ a1, X _ m2 _ a2⟩
theorem FrX.wide {X Y : List Nat} {S S' : Sto} (h : FrX X S S') (hx : ∀ n ∈ X, n ∈ Y) : FrX Y S S' := ⟨h.len, fun n hn hy => h.at_ n hn fun z => hy (hx n z)⟩
structure TS (rows : List (Str × List Spot)) (L : List Lr) (S0 : Sto) (t j : Nat) (S' : Sto) : Prop where
  fr : FrX (L.flatMap refsL) S0 S'
  ur : ∀ (i : Nat) (l : Lr), L[i]? = some l → lstAt S' l.ur = some (l.ps.map pairD)
  row : ∀ (i : Nat) (l : Lr) (r : Str × List Spot), L[i]? = some l → rows[i]? = some r → lstAt S' l.cr = some (intsL (cnt rows r.1) (if i < j then t + 2 else t + 1)) ∧ SumsAt (cnt rows) r.2 l.ps (if i < j then t + 1 else t) r.2.length S'
theorem sums_conv {C : Str → Nat → Nat} {sps : List Spot} {ps : List (Nat × Nat)} {t : Nat} {S : Sto} (h : SumsAt C sps ps t 0 S) : SumsAt C sps ps (t + 1) sps.length S := by
  intro i p sp hp hs
  have hi := (List.getElem?_eq_some_iff.mp hs).1
  have := h i p sp hp hs
  rw [if_pos (Nat.zero_le _)] at this
  rw [if_neg (by omega)]
  exact this
section
variable {sub : Nat → Nat → Bool} {tbl : List (Nat × Fd)} {k : Nat} {S : Sto}
theorem tally_main (hp : HasMany tbl) {B : Book} (hB : BookOk B) {n fd : Nat} (hn : n ≤ 24) {L : List Lr} {b : Nat} (hfd : dicU S fd = some (kvL (rowsOf B.trs) L)) (hL : Lay (rowsOf B.trs) L b S) (hfb : fd < b)
    (hsp : ∀ S' : Sto, (∀ m l, m < b → lstAt S m = some l → lstAt S' m = some l) → ∀ (i : Nat) (l : Lr) (r : Str × List Spot), L[i]? = some l → (rowsOf B.trs)[i]? = some r → SpotsAt S' (.ref l.sr) r.2) {x4 x5 x6 x7 x8 x9 : Option D} {Q : D → Sto → Prop}
    (hQ : ∀ S', FrX (L.flatMap refsL) S S' → dicU S' fd = some (kvL (rowsOf B.trs) L) → (∀ (i : Nat) (l : Lr) (r : Str × List Spot), L[i]? = some l → (rowsOf B.trs)[i]? = some r → lstAt S' l.cr = some (intsL (cnt (rowsOf B.trs) r.1) (n + 1))) → Q (.ref fd) S') :
    Wx NoX (exCs ⟨callN sub tbl (k + 1), sub⟩ (tlN 2 b_tally) [some B.d, some (.int n), some (.ref fd), none, x4, x5, x6, x7, x8, x9] S) (retQ Q NoX) := by
  have sz : sizeLine = 16777216 := rfl
  have hrn := rowsOf_nd hB
  have hBl := hB.le
  have hrl : (rowsOf B.trs).length = B.trs.length := rowsOf_len
  have hBd : B.d = .tup [.str B.top, .tup (B.trs.map prD)] := rfl
  have fdk : ∀ S', FrX (L.flatMap refsL) S S' → dicU S' fd = some (kvL (rowsOf B.trs) L) := fun S' F => F.dicU hfd fun h => by have := (hL.ge _ h).1; omega
  unfold b_tally
  simp only [tlN]
  rw [wp_cons]
  try walk_at "ev1"
  refine ⟨⟨by omega, by omega⟩, ?_⟩
  refine wp_fF (fun t ρ S' => ∃ x3 x4 x5 x6 x7 x8, ρ = [some B.d, some (.int n), some (.ref fd), x3, x4, x5, x6, x7, x8, x9] ∧ TS (rowsOf B.trs) L S t 0 S') ?_ ?_ ?_
  · refine ⟨_, _, _, _, _, _, rfl, .refl _ _, fun i l hl => ?_, fun i l r hl hr => ?_⟩
    · have hi := (List.getElem?_eq_some_iff.mp hl).1
      exact (hL.row i l _ hl (List.getElem?_eq_getElem (by rw [← hL.len]; exact hi))).2.2.1
    · obtain ⟨h1, h2, h3, h4⟩ := hL.row i l r hl hr
      refine ⟨by rw [h2]; rfl, fun i' p sp hp' hs' => ?_⟩
      have := h4 p (List.mem_of_getElem? hp')
      have hi' := (List.getElem?_eq_some_iff.mp hs').1
      rw [if_neg (by omega), if_neg (by omega)]
      exact this
  · rintro t d ρ S2 hd ⟨x3, x4, x5, x6, x7, x8, rfl, T2⟩ J hJ
    rw [List.getElem?_map] at hd
    cases e0 : (List.range n)[t]? with
    | none => rw [e0] at hd; cases hd
    | some y =>
      rw [e0] at hd
      cases hd
      obtain ⟨htn, hy⟩ := List.getElem?_eq_some_iff.mp e0
      rw [List.getElem_range] at hy
      rw [List.length_range] at htn
      subst hy
      refine ⟨_, rfl, ?_⟩
      rw [wp_cons]
      try walk_at "ev1"
      refine wp_fF (fun j ρ S' => ∃ x4 x5 x6 x7 x8, ρ = [some B.d, some (.int n), some (.ref fd), some (.int t), x4, x5, x6, x7, x8, x9] ∧ TS (rowsOf B.trs) L S t j S') ⟨_, _, _, _, _, rfl, T2⟩ ?_ ?_
      · rintro j d ρ S3 hd ⟨x4, x5, x6, x7, x8, rfl, T3⟩ J2 hJ2
        rw [List.getElem?_map] at hd
        cases e : B.trs[j]? with
        | none => rw [e] at hd; cases hd
        | some p =>
          rw [e] at hd
          cases hd
          obtain ⟨key, tr⟩ := p
          have hj := (List.getElem?_eq_some_iff.mp e).1
          have hrj : (rowsOf B.trs)[j]? = some (key, spotsOf B.trs tr) := by unfold rowsOf; rw [List.getElem?_map, e]; rfl
          obtain ⟨l, hlj⟩ : ∃ l, L[j]? = some l := ⟨L[j]'(by rw [hL.len, hrl]; exact hj), List.getElem?_eq_getElem _⟩
          have hlm := List.mem_of_getElem? hlj
          have hrow := refs_row hL.nd hlm
          have hfd3 := fdk S3 T3.fr
          have hlk := kvL_look hrn hrj hlj
          obtain ⟨hcr3, hsm3⟩ := T3.row j l _ hlj hrj
          rw [if_neg (by omega)] at hcr3 hsm3
          obtain ⟨hpl, _, _, _⟩ := hL.row j l _ hlj hrj
          have hnd2 : (mutsP l.ps).Nodup := by
            unfold refsL at hrow
            exact (List.nodup_cons.mp (List.nodup_cons.mp hrow).2).2
          have hcrn : l.cr ∉ mutsP l.ps ∧ l.cr ≠ l.ur := by
            unfold refsL at hrow
            have := (List.nodup_cons.mp hrow).1
            exact ⟨fun h => this (by simp [h]), fun h => this (by simp [h])⟩
          have hurn : l.ur ∉ mutsP l.ps := by
            unfold refsL at hrow
            exact (List.nodup_cons.mp (List.nodup_cons.mp hrow).2).1
          have hin : ∀ a ∈ mutsP l.ps, a ∈ refsL l := fun a h => by unfold refsL; simp [h]
          have hinL : ∀ a ∈ mutsP l.ps, a ∈ L.flatMap refsL := fun a h => List.mem_flatMap.mpr ⟨l, hlm, hin a h⟩
          have hcrL : l.cr ∈ L.flatMap refsL := List.mem_flatMap.mpr ⟨l, hlm, by unfold refsL; simp⟩
          have hother : ∀ (i : Nat) (m : Lr), L[i]? = some m → i ≠ j → ∀ a ∈ refsL m, a ∉ mutsP l.ps ∧ a ≠ l.cr := fun i m hm hij a ha =>
            ⟨fun h => refs_ne hL.nd hm hlj hij a ha a (hin a h) rfl, fun h => refs_ne hL.nd hm hlj hij a ha l.cr (by unfold refsL; simp) h⟩
          have hlen3 : S.length ≤ S3.length := T3.fr.len
          have hsmall := rows_small hB _ (List.mem_of_getElem? hrj)
          have hlogs := logs hB hsmall.1 hsmall.2 (t := t) (by omega)
          refine ⟨_, rfl, ?_⟩
          rw [wp_cons]
          try walk_at "ev1"
          rw [show lrD l = .tup [.ref l.sr, .ref l.cr, .ref l.ur] from rfl] at hlk
          refine ⟨_, dicU_at hfd3, _, hlk, ?_⟩
          rw [bindT_tp, setMany_cons, setMany_cons, setMany_cons, setMany_nil]
          refine ⟨_, rfl, ?_⟩
          rw [seqQ_nx, wp_cons]
          have hspx : spAt (rowsOf B.trs) key = spotsOf B.trs tr := spAt_mem hrn (List.mem_of_getElem? hrj)
          have keep0 : ∀ S', FrX (mutsP l.ps) S3 S' → ∀ (m : Nat) (ls : List D), m < b → lstAt S m = some ls → lstAt S' m = some ls := fun S' F m ls hm hls => by
            have h1 := T3.fr.lst hls fun h => by have := (hL.ge _ h).1; omega
            exact F.lst h1 fun h => by have := (hL.ge _ (hinL _ h)).1; omega
          have call := fillw_sp hp (sub := sub) (k := k) (S := S3) (fd := fd) (sr := l.sr) (ur := l.ur) (t := t) (sps := spotsOf B.trs tr) (ps := l.ps) (C := cnt (rowsOf B.trs)) (by omega) hpl hsmall.1 (fun sp hs => by have := hsmall.2 sp hs; omega) hnd2
            (fun a ha => Nat.lt_of_lt_of_le (hL.ge _ (hinL a ha)).2 hlen3) hsm3 (fun S' F => hsp S' (keep0 S' F) j l _ hlj hrj) (fun S' F => F.lst (T3.ur j l hlj) hurn)
            (fun S' F => ⟨_, dicU_at (F.dicU hfd3 fun h => by have := (hL.ge _ (hinL _ h)).1; omega), fun sp hs y hy => by
              have hyk := rows_child (List.mem_of_getElem? hrj) hs hy
              rw [← keys_rows] at hyk
              obtain ⟨⟨y', spsy⟩, hmy, hye⟩ := List.mem_map.mp hyk
              have hye : y' = y := hye
              subst hye
              obtain ⟨iy, hiy⟩ := List.getElem?_of_mem hmy
              have hiyl := (List.getElem?_eq_some_iff.mp hiy).1
              obtain ⟨m, hm⟩ : ∃ m, L[iy]? = some m := ⟨L[iy]'(by rw [hL.len]; exact hiyl), List.getElem?_eq_getElem _⟩
              obtain ⟨hcy, _⟩ := T3.row iy m _ hm hiy
              refine ⟨.ref m.sr, .ref m.ur, m.cr, _, kvL_look hrn hiy hm, F.lst hcy ?_, ?_⟩
              · by_cases hij : iy = j
                · subst hij
                  rw [hlj] at hm
                  cases hm
                  exact hcrn.1
                · exact (hother iy m hm hij m.cr (by unfold refsL; simp)).1
              · split <;> exact intsL_get (by omega)⟩) hlogs.1 hlogs.2
          clear hQ hJ hsp fdk keep0
          try walk_at "ev1"
          refine call.mono ?_
          rintro _ S4 ⟨rfl, F4, hs4⟩
          have hcr4 := F4.lst hcr3 hcrn.1
          have hcr4l := lstAt_lt hcr4
          have hcl := intsL_len (cnt (rowsOf B.trs) key) (t + 1)
          have hgrow : intsL (cnt (rowsOf B.trs) key) (t + 1) ++ [D.int (Wc (cnt (rowsOf B.trs)) (spotsOf B.trs tr) t : Nat)] = intsL (cnt (rowsOf B.trs) key) (t + 2) := by
            rw [intsL_snoc _ (t + 1), cnt_succ, hspx]
          have F5 : FrX (L.flatMap refsL) S (S4.set l.cr (.lst (intsL (cnt (rowsOf B.trs) key) (t + 2)))) := (T3.fr.trans (F4.wide hinL)).set (.inl hcrL) _
          have m0 := fun x5 x7 x8 => hJ2 [some (.tup [.str B.top, .tup (B.trs.map prD)]), some (.int n), some (.ref fd), some (.int t), some (.str key), x5, some tr.enc, x7, x8, x9] (S4.set l.cr (.lst (intsL (cnt (rowsOf B.trs) key) (t + 2)))) ⟨_, _, _, _, _, rfl, F5, fun i m hm => by
              by_cases hij : i = j
              · subst hij
                rw [hlj] at hm
                cases hm
                rw [lstAt_set_ne (Ne.symm hcrn.2)]
                exact F4.lst (T3.ur i l hlj) hurn
              · obtain ⟨h1, h2⟩ := hother i m hm hij m.ur (by unfold refsL; simp)
                rw [lstAt_set_ne h2]
                exact F4.lst (T3.ur i m hm) h1, fun i m r hm hr => by
              by_cases hij : i = j
              · subst hij
                rw [hlj] at hm
                cases hm
                rw [hrj] at hr
                cases hr
                rw [if_pos (by omega), if_pos (by omega)]
                refine ⟨lstAt_set hcr4l, (sums_conv hs4).keep fun a ha ls hls => ?_⟩
                rw [lstAt_set_ne (show a ≠ l.cr from fun z => hcrn.1 (by rw [← z]; exact ha))]
                exact hls
              · obtain ⟨c1, c2⟩ := T3.row i m r hm hr
                have hlt : (i < j) = (i < j + 1) := by
                  apply propext
                  omega
                simp only [← hlt]
                obtain ⟨h1, h2⟩ := hother i m hm hij m.cr (by unfold refsL; simp)
                refine ⟨by rw [lstAt_set_ne h2]; exact F4.lst c1 h1, c2.keep fun a ha ls hls => ?_⟩
                obtain ⟨h3, h4⟩ := hother i m hm hij a (by unfold refsL; simp [ha])
                rw [lstAt_set_ne h4]
                exact F4.lst hls h3⟩
          clear hJ2 call hother hin hinL
          try walk_at "ev1"
          omega
      · rintro ρ S3 ⟨x4, x5, x6, x7, x8, rfl, T3⟩
        rw [List.length_map] at T3
        rw [seqQ_nil, forQ_nx]
        refine hJ _ _ ⟨_, _, _, _, _, _, rfl, T3.fr, T3.ur, fun i l r hl hr => ?_⟩
        have hi := (List.getElem?_eq_some_iff.mp hl).1
        rw [hL.len, hrl] at hi
        have := T3.row i l r hl hr
        rw [if_pos hi, if_pos hi] at this
        rw [if_neg (by omega), if_neg (by omega)]
        exact this
  · rintro ρ S2 ⟨x3, x4, x5, x6, x7, x8, rfl, T2⟩
    rw [List.length_map, List.length_range] at T2
    have := hQ S2 T2.fr (fdk S2 T2.fr) fun i l r hl hr => by
      have := (T2.row i l r hl hr).1
      rw [if_neg (by omega)] at this
      exact this
    clear hQ
    try walk_at "ev"
end

end GA
namespace GA
open PySem VM
section
variable {sub : Nat → Nat → Bool} {tbl : List (Nat × Fd)} {k : Nat} {S : Sto}
structure LI (rows : List (Str × List Spot)) (S2 T0 : Sto) (fd j : Nat) (L : List Lr) (Sl : Sto) : Prop where
  len : L.length = j
  dic : dicU Sl fd = some (kvL (rows.take j) L)
  fr : FrX [fd] T0 Sl
  nd : (L.flatMap refsL).Nodup
  ge : ∀ n ∈ L.flatMap refsL, T0.length ≤ n ∧ n < Sl.length
  row : ∀ (i : Nat) (l : Lr) (r : Str × List Spot), L[i]? = some l → rows[i]? = some r → (l.ps.length = r.2.length ∧ lstAt Sl l.cr = some [.int 0] ∧ lstAt Sl l.ur = some (l.ps.map pairD) ∧ ∀ p ∈ l.ps, lstAt Sl p.1 = some [] ∧ lstAt Sl p.2 = some []) ∧ SpotsAt S2 (.ref l.sr) r.2
theorem tally_sp (hp : HasMany tbl) {B : Book} (hB : BookOk B) {n : Nat} (hn : n ≤ 24) :
    Wx NoX (callN sub tbl (k + 15) 19 [B.d, .int n] S) fun d S' => ∃ fd kvs, d = .ref fd ∧ Ext S S' ∧ dicAt S' fd = some kvs ∧ ∀ x ∈ B.keys, ∃ (s u : D) (c : Nat), lkD kvs (.inr x) = some (.tup [s, .ref c, u]) ∧ lstAt S' c = some (intsL (cnt (rowsOf B.trs) x) (n + 1)) := by
  refine Wp.gen fun Q hQ => ?_
  have sz : sizeLine = 16777216 := rfl
  have hrn := rowsOf_nd hB
  have hrl : (rowsOf B.trs).length ≤ 6 := by rw [rowsOf_len]; exact hB.le
  refine wp_call hp.tally rfl ?_
  have main := @tally_main sub tbl (k + 13)
  unfold b_tally at main ⊢
  simp only [tlN] at main
  generalize hT : (Cs.cons (C.for_ (.nm 3) _ _) _) = T at *
  rw [wp_cons]
  try walk_at "ev1"
  have hF1 : dicU (S ++ [.dic []]) S.length = some [] := dicU_newE rfl
  have X1 : Ext S (S ++ [.dic []]) := Ext.app _ _
  have hfl : S.length < (S ++ [O.dic []]).length := by simp
  generalize hfd : S.length = fd at *
  have hSfd : S.length ≤ fd := by omega
  generalize S ++ [.dic []] = S1 at *
  rw [seqQ_nx, wp_cons]
  try walk_at "ev1"
  refine (all_spots_sp hp.toHasSpots (k := k) hB).mono ?_
  rintro _ S2 ⟨r0, rfl, X2, hr0, kvs0, hD0, A0⟩
  have hF2 := X2.dicU hF1
  have hne : fd ≠ r0 := by omega
  have hr0l := dicAt_lt (dicU_at hD0)
  have hfd2 := dicAt_lt (dicU_at hF2)
  have hk0 : kvs0.length = (rowsOf B.trs).length := A0.1
  refine ⟨r0, rfl, _, dicU_get.mp hD0, kvs0.map fun kv => .tup [kD kv.1, kv.2], rfl, ?_⟩
  have hT0 : (S2.set r0 (O.lk (.dic kvs0))).length = S2.length := by simp
  have hTl : ∀ m ls, lstAt S2 m = some ls → lstAt (S2.set r0 (O.lk (.dic kvs0))) m = some ls := fun m ls h => by
    rw [lstAt_set_ne (fun z => by subst z; rw [dicAt_lst (dicU_at hD0)] at h; cases h)]
    exact h
  have hTr : (S2.set r0 (O.lk (.dic kvs0)))[r0]? = some (.lk (.dic kvs0)) := List.getElem?_set_self hr0l
  have hTf : dicU (S2.set r0 (O.lk (.dic kvs0))) fd = some [] := by rw [dicU_set_ne hne]; exact hF2
  have hTfl : lstAt (S2.set r0 (O.lk (.dic kvs0))) fd = none := dicAt_lst (dicU_at hTf)
  have hTat : ∀ m, m ≠ r0 → (S2.set r0 (O.lk (.dic kvs0)))[m]? = S2[m]? := fun m hm => List.getElem?_set_ne (Ne.symm hm)
  refine wp_fK hD0 (fun j ρ Sl => ∃ (L : List Lr) (x4 x5 x9 : Option D), ρ = [some B.d, some (.int n), some (.ref fd), none, x4, x5, none, none, none, x9] ∧ LI (rowsOf B.trs) S2 (S2.set r0 (.lk (.dic kvs0))) fd j L Sl) ?_ ?_ ?_
  · exact ⟨[], _, _, _, rfl, rfl, by rw [List.take_zero]; exact hTf, .refl _ _, List.nodup_nil, fun n h => (by cases h), fun i l r h => (by simp at h)⟩
  · rintro j d ρ Sl hd ⟨L, x4, x5, x9, rfl, hI⟩ J hJ
    rw [List.getElem?_map] at hd
    cases e : kvs0[j]? with
    | none => rw [e] at hd; cases hd
    | some kv =>
      rw [e] at hd
      cases hd
      obtain ⟨r, er, h1, h2⟩ := A0.get e
      obtain ⟨x, sps⟩ := r
      obtain ⟨key, vd⟩ := kv
      simp only at h1 h2
      subst h1
      obtain ⟨sr, ds, rfl, _, _⟩ := spots_ref h2
      have hsml : sps.length ≤ 1000 := (rows_small hB _ (List.mem_of_getElem? er)).1
      generalize hTT : S2.set r0 (O.lk (.dic kvs0)) = T0 at *
      have hxn : ∀ kv ∈ kvL ((rowsOf B.trs).take j) L, kv.1 ≠ .inr x := by
        intro kv hkv ee
        unfold kvL at hkv
        obtain ⟨i, hi⟩ := List.getElem?_of_mem hkv
        rw [List.getElem?_zipWith] at hi
        cases e1 : ((rowsOf B.trs).take j)[i]? with
        | none => rw [e1] at hi; cases hi
        | some q =>
          cases e2 : L[i]? with
          | none => rw [e1, e2] at hi; cases hi
          | some m =>
            rw [e1, e2] at hi
            cases hi
            have hij : i < j := by
              have := (List.getElem?_eq_some_iff.mp e1).1
              rw [List.length_take] at this
              omega
            rw [List.getElem?_take_of_lt hij] at e1
            have ee : q.1 = x := Sum.inr.inj ee
            have hi1 : ((rowsOf B.trs).map (·.1))[j]? = some x := by rw [List.getElem?_map, er]; rfl
            have hj1 : ((rowsOf B.trs).map (·.1))[i]? = some q.1 := by rw [List.getElem?_map, e1]; rfl
            obtain ⟨a1, a2⟩ := List.getElem?_eq_some_iff.mp hi1
            obtain ⟨b1, b2⟩ := List.getElem?_eq_some_iff.mp hj1
            exact (List.pairwise_iff_getElem.mp hrn) i j b1 a1 hij (by rw [a2, b2, ee])
      have hTle := hI.fr.len
      have hsps : SpotsAt (Sl ++ [O.lst [D.int 0]]) (.ref sr) sps := h2.keepL fun m ls h => by
        have h3 := hI.fr.lst (hTl m ls h) (by rw [List.mem_singleton]; intro z; rw [z] at h; have := hTl _ _ h; rw [hTfl] at this; cases this)
        rw [lstAt_app (lstAt_lt h3)]
        exact h3
      have hkvl : (kvL ((rowsOf B.trs).take j) L).length ≤ 6 := by unfold kvL; rw [List.length_zipWith, List.length_take]; omega
      refine ⟨_, rfl, ?_⟩
      obtain ⟨_, ds', e', hds', _⟩ := id hsps
      cases e'
      rw [wp_cons]
      try walk_at "ev1"
      refine comp_lay hsps (by omega) ?_
      intro ps S5 X5 hpl hnd5 hge5 hemp5
      have hl1 : (Sl ++ [O.lst [D.int 0]]).length = Sl.length + 1 := by simp
      have hc5 : lstAt S5 Sl.length = some [.int 0] := X5.lst lstAt_new
      have XS : Ext Sl S5 := (Ext.app _ _).trans X5
      have hS5l := X5.len
      have hf5 : dicU (S5 ++ [.lst (ps.map pairD)]) fd = some (kvL ((rowsOf B.trs).take j) L) := (XS.trans (Ext.app _ _)).dicU hI.dic
      have hfl5 := dicAt_lt (dicU_at hf5)
      refine ⟨_, setd_str.mpr ⟨_, hf5, by omega, rfl⟩, ?_⟩
      rw [putD_new _ hxn]
      have hlen : ((rowsOf B.trs).take j).length = L.length := by
        have := (List.getElem?_eq_some_iff.mp er).1
        rw [List.length_take, hI.len]
        omega
      have htk : (rowsOf B.trs).take (j + 1) = (rowsOf B.trs).take j ++ [(x, sps)] := by rw [List.take_succ, er]; rfl
      have nofd : ∀ m ls, lstAt (S5 ++ [O.lst (ps.map pairD)]) m = some ls → m ≠ fd := fun m ls h z => by
        rw [z, dicAt_lst (dicU_at hf5)] at h
        cases h
      have X6 : Ext Sl (S5 ++ [O.lst (ps.map pairD)]) := XS.trans (Ext.app _ _)
      have up : ∀ m ls, lstAt Sl m = some ls → lstAt ((S5 ++ [O.lst (ps.map pairD)]).set fd (O.dic (kvL ((rowsOf B.trs).take j) L ++ [(.inr x, .tup [.ref sr, .ref Sl.length, .ref S5.length])]))) m = some ls := fun m ls h => by
        have h6 := X6.lst h
        rw [lstAt_set_ne (nofd m ls h6)]
        exact h6
      have up5 : ∀ m ls, lstAt (S5 ++ [O.lst (ps.map pairD)]) m = some ls → lstAt ((S5 ++ [O.lst (ps.map pairD)]).set fd (O.dic (kvL ((rowsOf B.trs).take j) L ++ [(.inr x, .tup [.ref sr, .ref Sl.length, .ref S5.length])]))) m = some ls := fun m ls h => by
        rw [lstAt_set_ne (nofd m ls h)]
        exact h
      have hL5 : (S5 ++ [O.lst (ps.map pairD)]).length = S5.length + 1 := by simp
      refine hJ _ _ ⟨L ++ [⟨sr, Sl.length, S5.length, ps⟩], _, _, _, rfl, by rw [List.length_append, hI.len]; rfl, ?_, ?_, ?_, ?_, ?_⟩
      · rw [dicU_set hfl5, htk, kvL_snoc hlen]
        rfl
      · exact (hI.fr.ext X6).set (.inl (by simp)) _
      · rw [List.flatMap_append]
        refine List.nodup_append.mpr ⟨hI.nd, ?_, fun a ha b hb2 ee => ?_⟩
        · rw [List.flatMap_cons, List.flatMap_nil, List.append_nil]
          unfold refsL
          refine List.nodup_cons.mpr ⟨fun h => ?_, List.nodup_cons.mpr ⟨fun h => ?_, hnd5⟩⟩
          · rcases List.mem_cons.mp h with h | h
            · have h : Sl.length = S5.length := h
              omega
            · have := (hge5 _ h).1
              have h2 : (Lr.mk sr Sl.length S5.length ps).cr = Sl.length := rfl
              omega
          · have := (hge5 _ h).2
            have h2 : (Lr.mk sr Sl.length S5.length ps).ur = S5.length := rfl
            omega
        · have h1 := (hI.ge a ha).2
          rw [List.flatMap_cons, List.flatMap_nil, List.append_nil] at hb2
          unfold refsL at hb2
          rcases List.mem_cons.mp hb2 with h | h
          · have h : b = Sl.length := h
            omega
          rcases List.mem_cons.mp h with h | h
          · have h : b = S5.length := h
            omega
          · have := (hge5 _ h).1
            omega
      · intro m hm
        rw [List.length_set, hL5]
        rw [List.flatMap_append, List.mem_append] at hm
        rcases hm with hm | hm
        · have := hI.ge m hm
          omega
        · rw [List.flatMap_cons, List.flatMap_nil, List.append_nil] at hm
          unfold refsL at hm
          rcases List.mem_cons.mp hm with h | h
          · have h : m = Sl.length := h
            omega
          rcases List.mem_cons.mp h with h | h
          · have h : m = S5.length := h
            omega
          · have := hge5 _ h
            omega
      · intro i m r hm hr
        by_cases hi : i < L.length
        · rw [List.getElem?_append_left hi] at hm
          obtain ⟨⟨g1, g2, g3, g4⟩, g5⟩ := hI.row i m r hm hr
          exact ⟨⟨g1, up _ _ g2, up _ _ g3, fun p hp => ⟨up _ _ (g4 p hp).1, up _ _ (g4 p hp).2⟩⟩, g5⟩
        · rw [List.getElem?_append_right (by omega)] at hm
          have hi2 : i - L.length = 0 := by
            have := (List.getElem?_eq_some_iff.mp hm).1
            simp at this
            omega
          rw [hi2] at hm
          cases hm
          have hij : i = j := by have := hI.len; omega
          subst hij
          rw [er] at hr
          cases hr
          refine ⟨⟨hpl, up5 _ _ ((Ext.app S5 _).lst hc5), up5 _ _ lstAt_new, fun p hp => ?_⟩, h2⟩
          exact ⟨up5 _ _ ((Ext.app S5 _).lst (hemp5 p hp).1), up5 _ _ ((Ext.app S5 _).lst (hemp5 p hp).2)⟩
  · rintro ρ Sl ⟨L, x4, x5, x9, rfl, hI⟩
    rw [List.length_map, hk0] at hI
    have hlr : Sl[r0]? = some (.lk (.dic kvs0)) := by rw [hI.fr.at_ r0 (by rw [hT0]; exact hr0l) (by rw [List.mem_singleton]; exact Ne.symm hne)]; exact hTr
    rw [unl_lk hlr, seqQ_nx]
    have hSll : S2.length ≤ Sl.length := by have := hI.fr.len; omega
    have F3 : FrX [fd] S2 (Sl.set r0 (.dic kvs0)) := by
      refine ⟨by rw [List.length_set]; exact hSll, fun m hm hmx => ?_⟩
      by_cases hmr : m = r0
      · subst hmr
        rw [List.getElem?_set_self (by omega), dicU_get.mp hD0]
      · rw [List.getElem?_set_ne (Ne.symm hmr), hI.fr.at_ m (by omega) hmx, hTat m hmr]
    have hlst : ∀ m ls, S2.length ≤ m → lstAt Sl m = some ls → lstAt (Sl.set r0 (.dic kvs0)) m = some ls := fun m ls hm h => by rw [lstAt_set_ne (by omega)]; exact h
    have hge : ∀ m ∈ L.flatMap refsL, S2.length ≤ m := fun m hm => by have := (hI.ge m hm).1; omega
    have hdic3 : dicU (Sl.set r0 (.dic kvs0)) fd = some (kvL (rowsOf B.trs) L) := by
      rw [dicU_set_ne hne, hI.dic, List.take_length]
    refine main hp hB hn (L := L) (b := S2.length) (fd := fd) (S := Sl.set r0 (.dic kvs0)) hdic3 ⟨hI.len, hI.nd, fun m hm => ⟨hge m hm, by rw [List.length_set]; exact (hI.ge m hm).2⟩, fun i l r hl hr => ?_⟩ hfd2 (fun S' keep i l r hl hr => ?_) (fun S' FF hdS hcnt => ?_)
    · obtain ⟨⟨g1, g2, g3, g4⟩, _⟩ := hI.row i l r hl hr
      have hm := List.mem_of_getElem? hl
      have hin : ∀ a ∈ refsL l, a ∈ L.flatMap refsL := fun a ha => List.mem_flatMap.mpr ⟨l, hm, ha⟩
      refine ⟨g1, hlst _ _ (hge _ (hin _ (by unfold refsL; simp))) g2, hlst _ _ (hge _ (hin _ (by unfold refsL; simp))) g3, fun p hp => ?_⟩
      have hpm : p.1 ∈ mutsP l.ps ∧ p.2 ∈ mutsP l.ps := ⟨List.mem_flatMap.mpr ⟨p, hp, by simp⟩, List.mem_flatMap.mpr ⟨p, hp, by simp⟩⟩
      exact ⟨hlst _ _ (hge _ (hin _ (by unfold refsL; simp [hpm.1]))) (g4 p hp).1, hlst _ _ (hge _ (hin _ (by unfold refsL; simp [hpm.2]))) (g4 p hp).2⟩
    · refine (hI.row i l r hl hr).2.keepL fun m ls h => ?_
      have hm := lstAt_lt h
      refine keep m ls hm (F3.lst h ?_)
      rw [List.mem_singleton]
      intro z
      rw [z, dicAt_lst (dicU_at hF2)] at h
      cases h
    · have XX : Ext S (Sl.set r0 (.dic kvs0)) := F3.toExt (X1.trans X2) (fun m hm => by rw [List.mem_singleton] at hm; omega)
      have hS2l : S.length ≤ S2.length := (X1.trans X2).len
      refine hQ _ _ ⟨fd, _, rfl, FF.toExt XX (fun m hm => by have := hge m hm; omega), dicU_at hdS, fun x hx => ?_⟩
      rw [← keys_rows] at hx
      obtain ⟨⟨x', sps⟩, hmx, hxe⟩ := List.mem_map.mp hx
      have hxe : x' = x := hxe
      subst hxe
      obtain ⟨i, hi⟩ := List.getElem?_of_mem hmx
      have hil := (List.getElem?_eq_some_iff.mp hi).1
      obtain ⟨m, hm⟩ : ∃ m, L[i]? = some m := ⟨L[i]'(by rw [hI.len]; exact hil), List.getElem?_eq_getElem _⟩
      exact ⟨.ref m.sr, .ref m.ur, m.cr, kvL_look hrn hi hm, hcnt i m _ hm hi⟩
theorem many_sp (hp : HasMany tbl) {B : Book} (hB : BookOk B) {n : Nat} (hn : n ≤ 24) :
    Wx NoX (callN sub tbl (k + 16) 20 [B.d, .int n] S) fun d S' => d = .int (manyN B n : Nat) ∧ Ext S S' := by
  refine Wp.gen fun Q hQ => ?_
  have sz : sizeLine = 16777216 := rfl
  refine wp_call hp.many rfl ?_
  unfold b_many_of
  rw [wp_cons]
  try walk_at "ev1"
  refine (tally_sp hp hB (k := k) hn).mono ?_
  rintro _ S1 ⟨fd, kvs, rfl, X1, hfd, hcnt⟩
  rw [seqQ_nx, wp_cons]
  try walk_at "ev1"
  refine (top_keys_sp hp.toHasSpots (k := k + 1) hB).mono ?_
  rintro _ S2 ⟨tn, rfl, X2, ht⟩
  have hfd2 := X2.dic hfd
  try walk_at "ev1"
  refine wp_lM (keysOf B.trs (false, B.top)) D.str (fun _ => true) (fun x => D.int (cnt (rowsOf B.trs) x n : Nat)) ht (by have := keysOf_len hB (false, B.top); omega) (fun x hx => ⟨_, rfl, ?_, fun _ => ?_⟩) ?_
  · try walk_at "ev1"
  · obtain ⟨s, u, c, h1, h2⟩ := hcnt x (tops_keys hx)
    have h3 := X2.lst h2
    have h4 : L2.atI (intsL (cnt (rowsOf B.trs) x) (n + 1)) (n : Int) = some (.int (cnt (rowsOf B.trs) x n : Nat)) := by rw [atI_cast]; exact intsL_get (by omega)
    clear hcnt hQ
    try walk_at "ev1"
  have hrow : ((keysOf B.trs (false, B.top)).filter fun _ => true).map (fun x => D.int (cnt (rowsOf B.trs) x n : Nat)) = (((keysOf B.trs (false, B.top)).map fun x => cnt (rowsOf B.trs) x n).map fun (n : Nat) => (n : Int)).map D.int := by
    rw [List.filter_eq_self.mpr (fun _ _ => rfl), List.map_map, List.map_map]
    rfl
  rw [hrow]
  refine wsumL lstAt_new ?_
  rw [sum_cast]
  have := hQ (.int (manyN B n : Nat)) _ ⟨rfl, (X1.trans X2).app1 (O.lst ((((keysOf B.trs (false, B.top)).map fun x => cnt (rowsOf B.trs) x n).map fun (n : Nat) => (n : Int)).map D.int))⟩
  unfold manyN at this
  clear hQ hcnt
  try walk_at "ev1"
end

end GA
namespace K73
open PySem VM
/-! ### the text by places -/
def top (i : Nat) : Stmt := PySem.Challenge.pw_graftsay_k73_none_is_greater.main.body.getD i (.Pass ⟨0, 0, 0, 0⟩)
/-- _law_reached -/
def b__law_reached : Cs :=
  (.cons (.set 3 (.lst .nil)) (.cons (.for_ (.nm 4) (.rng1 (.bi .len (.cons (.var 0) .nil))) (.cons (.for_ (.nm 5) (.seq (.bin .add (.var 2) (.var 3))) (.cons (.for_ (.tp [6, 7, 8]) (.seq (.idx (.var 0) (.var 5))) (.cons (.set 9 (.lc (.var 10) (.nm 10) (.seq (.var 8)) (.and (.cmp .inn (.var 10) (.var 1)) (.one (.cmp .notin (.var 10) (.var 3)))) [("one", 10)])) (.cons (.set 3 (.bin .add (.var 3) (.var 9))) .nil))) .nil)) .nil)) (.cons (.ret (.var 3)) .nil)))
/-- _law_rings -/
def b__law_rings : Cs :=
  (.cons (.set 3 (.call 38 (.cons (.var 0) (.cons (.var 1) (.cons (.var 2) .nil))))) (.cons (.ret (.lc (.var 4) (.nm 4) (.seq (.var 3)) (.cmp .inn (.var 4) (.call 41 (.cons (.var 1) (.cons (.var 2) (.cons (.lst (.cons (.var 4) .nil)) .nil))))) [("key", 4)])) .nil))
/-- law -/
def b_law : Cs :=
  (.cons (.set 1 (.call 31 (.cons (.var 0) .nil))) (.cons (.set 2 (.call 34 (.cons (.var 1) .nil))) (.cons (.set 3 (.call 37 (.cons (.var 2) .nil))) (.cons (.asg (.tp [5, 6]) (.call 40 (.cons (.var 1) .nil))) (.cons (.ife (.v (.var 5)) (.cons (.ret (.cmp .eq (.lc (.call 20 (.cons (.var 1) (.cons (.var 8) .nil))) (.nm 8) (.rng2 (.int 1) (.int 9)) (.yes) [("size", 8)]) (.lst (.cons (.int 0) (.cons (.int 0) (.cons (.int 0) (.cons (.int 0) (.cons (.int 0) (.cons (.int 0) (.cons (.int 0) (.cons (.int 0) .nil))))))))))) .nil) .nil) (.cons (.ife (.or (.not (.v (.isi (.var 6) .tuple))) (.or (.cmp .ne (.bi .len (.cons (.var 6) .nil)) (.int 3)) (.one (.cmp .eq (.bi .len (.cons (.call 38 (.cons (.var 1) (.cons (.var 2) (.cons (.var 3) .nil)))) .nil)) (.int 0))))) (.cons (.ret (.bl false)) .nil) .nil) (.cons (.ife (.cmp .gt (.bi .len (.cons (.call 42 (.cons (.var 1) (.cons (.var 2) (.cons (.var 3) .nil)))) .nil)) (.int 0)) (.cons (.ret (.cmp .eq (.idx (.var 6) (.int 0)) (.str "endless"))) .nil) .nil) (.cons (.ife (.or (.cmp .ne (.idx (.var 6) (.int 0)) (.str "bounded")) (.or (.not (.v (.call 39 (.cons (.idx (.var 6) (.int 1)) .nil)))) (.one (.cmp .lt (.idx (.var 6) (.int 1)) (.int 1))))) (.cons (.ret (.bl false)) .nil) .nil) (.cons (.ife (.cmp .gt (.idx (.var 6) (.int 1)) (.int 16)) (.cons (.ret (.bl true)) .nil) .nil) (.cons (.set 4 (.call 20 (.cons (.var 1) (.cons (.idx (.var 6) (.int 1)) .nil)))) (.cons (.ife (.or (.not (.v (.call 39 (.cons (.var 4) .nil)))) (.one (.cmp .lt (.var 4) (.int 1)))) (.cons (.ret (.bl false)) .nil) .nil) (.cons (.ret (.cmp .eq (.lc (.call 20 (.cons (.var 1) (.cons (.bin .add (.idx (.var 6) (.int 1)) (.var 7)) .nil))) (.nm 7) (.rng2 (.int 1) (.int 9)) (.yes) [("k", 7)]) (.lst (.cons (.int 0) (.cons (.int 0) (.cons (.int 0) (.cons (.int 0) (.cons (.int 0) (.cons (.int 0) (.cons (.int 0) (.cons (.int 0) .nil))))))))))) .nil))))))))))))
def ft : List (Nat × Str × Fd) :=
  (0, "pieces_in", ⟨2, 5, GA.b_pieces_in⟩) ::
  (1, "foot_in", ⟨1, 3, GA.b_foot_in⟩) ::
  (2, "keys_by_name", ⟨1, 6, GA.b_keys_by_name⟩) ::
  (3, "spots_in", ⟨2, 5, GA.b_spots_in⟩) ::
  (4, "all_spots", ⟨1, 5, GA.b_all_spots⟩) ::
  (5, "top_keys", ⟨1, 1, GA.b_top_keys⟩) ::
  (6, "first_of", ⟨2, 3, GA.b_first_of⟩) ::
  (7, "fillings", ⟨2, 7, GA.b_fillings⟩) ::
  (8, "orders_built", ⟨2, 8, GA.b_orders_built⟩) ::
  (9, "comings", ⟨3, 11, GA.b_comings⟩) ::
  (10, "useful", ⟨1, 13, GA.b_useful⟩) ::
  (11, "greatest_of", ⟨2, 3, GA.b_greatest_of⟩) ::
  (12, "height_of", ⟨2, 5, GA.b_height_of⟩) ::
  (13, "next_of", ⟨2, 6, GA.b_next_of⟩) ::
  (14, "heights_of", ⟨2, 6, GA.b_heights_of⟩) ::
  (15, "round_in", ⟨2, 7, GA.b_round_in⟩) ::
  (16, "way_to", ⟨2, 7, GA.b_way_to⟩) ::
  (17, "endless", ⟨1, 12, GA.b_endless⟩) ::
  (18, "fill_ways", ⟨4, 10, GA.b_fill_ways⟩) ::
  (19, "tally", ⟨2, 10, GA.b_tally⟩) ::
  (20, "many_of", ⟨2, 4, GA.b_many_of⟩) ::
  (21, "_law_cell_at", ⟨2, 2, GA.b__law_cell_at⟩) ::
  (22, "_law_names", ⟨1, 4, GA.b__law_names⟩) ::
  (23, "_law_keys", ⟨2, 5, GA.b__law_keys⟩) ::
  (24, "_law_signs", ⟨1, 6, GA.b__law_signs⟩) ::
  (25, "_law_shut", ⟨1, 4, GA.b__law_shut⟩) ::
  (26, "_law_takes", ⟨3, 3, GA.b__law_takes⟩) ::
  (27, "_law_lay", ⟨6, 10, GA.b__law_lay⟩) ::
  (28, "_law_name", ⟨4, 4, GA.b__law_name⟩) ::
  (29, "_law_left", ⟨3, 3, GA.b__law_left⟩) ::
  (30, "_law_tree", ⟨6, 14, GA.b__law_tree⟩) ::
  (31, "_law_book", ⟨1, 14, GA.b__law_book⟩) ::
  (32, "_law_pieces", ⟨3, 4, GA.b__law_pieces⟩) ::
  (33, "_law_foot", ⟨1, 3, GA.b__law_foot⟩) ::
  (34, "_law_where", ⟨1, 12, GA.b__law_where⟩) ::
  (35, "_law_tops", ⟨1, 3, GA.b__law_tops⟩) ::
  (36, "_law_waits", ⟨2, 6, GA.b__law_waits⟩) ::
  (37, "_law_ending", ⟨1, 5, GA.b__law_ending⟩) ::
  (38, "_law_used", ⟨3, 11, GA.b__law_used⟩) ::
  (39, "_law_whole", ⟨1, 1, GA.b__law_whole⟩) ::
  (40, "_law_tried", ⟨1, 3, GA.b__law_tried⟩) ::
  (41, "_law_reached", ⟨3, 11, b__law_reached⟩) ::
  (42, "_law_rings", ⟨3, 5, b__law_rings⟩) ::
  (43, "law", ⟨1, 9, b_law⟩) ::
  []
def tbl : List (Nat × Fd) := ft.map fun p => (p.1, p.2.2)
def fs : List (Nat × Str) := ft.map fun p => (p.1, p.2.1)
def bs : List Str := ["bool", "enumerate", "int", "isinstance", "len", "list", "max", "min", "range", "sum", "tuple"]
def gs : List (Str × D) := []
def cs : List (Nat × Str) := [(283, "NoPlan")]
def sub (c h : Nat) : Bool := decide ((c, h) ∈ ([(283, 283)] : List (Nat × Nat)))
theorem sc_pieces_in : L2.FnScope ["tree", "place", "found", "k", "kid"] ["tree", "place"] (L2.defScope (top 4)) := ⟨rfl, rfl, rfl, by decide +kernel, rfl, by decide +kernel, by decide +kernel⟩
theorem m_pieces_in : mCs ⟨["tree", "place", "found", "k", "kid"], L2.defScope (top 4), none, fs, bs, gs, cs⟩ GA.b_pieces_in (L2.defBody (top 4)) = true := by decide +kernel
theorem sc_foot_in : L2.FnScope ["tree", "place", "piece"] ["tree"] (L2.defScope (top 5)) := ⟨rfl, rfl, rfl, by decide +kernel, rfl, by decide +kernel, by decide +kernel⟩
theorem m_foot_in : mCs ⟨["tree", "place", "piece"], L2.defScope (top 5), none, fs, bs, gs, cs⟩ GA.b_foot_in (L2.defBody (top 5)) = true := by decide +kernel
theorem sc_keys_by_name : L2.FnScope ["book", "found", "key", "tree", "foot", "name"] ["book"] (L2.defScope (top 6)) := ⟨rfl, rfl, rfl, by decide +kernel, rfl, by decide +kernel, by decide +kernel⟩
theorem m_keys_by_name : mCs ⟨["book", "found", "key", "tree", "foot", "name"], L2.defScope (top 6), none, fs, bs, gs, cs⟩ GA.b_keys_by_name (L2.defBody (top 6)) = true := by decide +kernel
theorem sc_spots_in : L2.FnScope ["tree", "names", "found", "place", "piece"] ["tree", "names"] (L2.defScope (top 7)) := ⟨rfl, rfl, rfl, by decide +kernel, rfl, by decide +kernel, by decide +kernel⟩
theorem m_spots_in : mCs ⟨["tree", "names", "found", "place", "piece"], L2.defScope (top 7), none, fs, bs, gs, cs⟩ GA.b_spots_in (L2.defBody (top 7)) = true := by decide +kernel
theorem sc_all_spots : L2.FnScope ["book", "names", "found", "key", "tree"] ["book"] (L2.defScope (top 8)) := ⟨rfl, rfl, rfl, by decide +kernel, rfl, by decide +kernel, by decide +kernel⟩
theorem m_all_spots : mCs ⟨["book", "names", "found", "key", "tree"], L2.defScope (top 8), none, fs, bs, gs, cs⟩ GA.b_all_spots (L2.defBody (top 8)) = true := by decide +kernel
theorem sc_top_keys : L2.FnScope ["book"] ["book"] (L2.defScope (top 9)) := ⟨rfl, rfl, rfl, by decide +kernel, rfl, by decide +kernel, by decide +kernel⟩
theorem m_top_keys : mCs ⟨["book"], L2.defScope (top 9), none, fs, bs, gs, cs⟩ GA.b_top_keys (L2.defBody (top 9)) = true := by decide +kernel
theorem sc_first_of : L2.FnScope ["keys", "known", "key"] ["keys", "known"] (L2.defScope (top 11)) := ⟨rfl, rfl, rfl, by decide +kernel, rfl, by decide +kernel, by decide +kernel⟩
theorem m_first_of : mCs ⟨["keys", "known", "key"], L2.defScope (top 11), none, fs, bs, gs, cs⟩ GA.b_first_of (L2.defBody (top 11)) = true := by decide +kernel
theorem sc_fillings : L2.FnScope ["spots", "known", "puts", "place", "must", "keys", "key"] ["spots", "known"] (L2.defScope (top 12)) := ⟨rfl, rfl, rfl, by decide +kernel, rfl, by decide +kernel, by decide +kernel⟩
theorem m_fillings : mCs ⟨["spots", "known", "puts", "place", "must", "keys", "key"], L2.defScope (top 12), none, fs, bs, gs, cs⟩ GA.b_fillings (L2.defBody (top 12)) = true := by decide +kernel
theorem sc_orders_built : L2.FnScope ["book", "rows", "built", "known", "more", "key", "tree", "puts"] ["book", "rows"] (L2.defScope (top 13)) := ⟨rfl, rfl, rfl, by decide +kernel, rfl, by decide +kernel, by decide +kernel⟩
theorem m_orders_built : mCs ⟨["book", "rows", "built", "known", "more", "key", "tree", "puts"], L2.defScope (top 13), none, fs, bs, gs, cs⟩ GA.b_orders_built (L2.defBody (top 13)) = true := by decide +kernel
theorem sc_comings : L2.FnScope ["book", "rows", "known", "come", "seen", "at", "key", "parent", "place", "must", "keys"] ["book", "rows", "known"] (L2.defScope (top 14)) := ⟨rfl, rfl, rfl, by decide +kernel, rfl, by decide +kernel, by decide +kernel⟩
theorem m_comings : mCs ⟨["book", "rows", "known", "come", "seen", "at", "key", "parent", "place", "must", "keys"], L2.defScope (top 14), none, fs, bs, gs, cs⟩ GA.b_comings (L2.defBody (top 14)) = true := by decide +kernel
theorem sc_useful : L2.FnScope ["book", "rows", "built", "known", "come", "seen", "ends", "ways", "key", "puts", "parent", "place", "tree"] ["book"] (L2.defScope (top 15)) := ⟨rfl, rfl, rfl, by decide +kernel, rfl, by decide +kernel, by decide +kernel⟩
theorem m_useful : mCs ⟨["book", "rows", "built", "known", "come", "seen", "ends", "ways", "key", "puts", "parent", "place", "tree"], L2.defScope (top 15), none, fs, bs, gs, cs⟩ GA.b_useful (L2.defBody (top 15)) = true := by decide +kernel
theorem sc_greatest_of : L2.FnScope ["keys", "numbers", "key"] ["keys", "numbers"] (L2.defScope (top 17)) := ⟨rfl, rfl, rfl, by decide +kernel, rfl, by decide +kernel, by decide +kernel⟩
theorem m_greatest_of : mCs ⟨["keys", "numbers", "key"], L2.defScope (top 17), none, fs, bs, gs, cs⟩ GA.b_greatest_of (L2.defBody (top 17)) = true := by decide +kernel
theorem sc_height_of : L2.FnScope ["spots", "numbers", "place", "must", "keys"] ["spots", "numbers"] (L2.defScope (top 18)) := ⟨rfl, rfl, rfl, by decide +kernel, rfl, by decide +kernel, by decide +kernel⟩
theorem m_height_of : mCs ⟨["spots", "numbers", "place", "must", "keys"], L2.defScope (top 18), none, fs, bs, gs, cs⟩ GA.b_height_of (L2.defBody (top 18)) = true := by decide +kernel
theorem sc_next_of : L2.FnScope ["spots", "left", "place", "must", "keys", "key"] ["spots", "left"] (L2.defScope (top 19)) := ⟨rfl, rfl, rfl, by decide +kernel, rfl, by decide +kernel, by decide +kernel⟩
theorem m_next_of : mCs ⟨["spots", "left", "place", "must", "keys", "key"], L2.defScope (top 19), none, fs, bs, gs, cs⟩ GA.b_next_of (L2.defBody (top 19)) = true := by decide +kernel
theorem sc_heights_of : L2.FnScope ["rows", "used", "numbers", "left", "key", "more"] ["rows", "used"] (L2.defScope (top 20)) := ⟨rfl, rfl, rfl, by decide +kernel, rfl, by decide +kernel, by decide +kernel⟩
theorem m_heights_of : mCs ⟨["rows", "used", "numbers", "left", "key", "more"], L2.defScope (top 20), none, fs, bs, gs, cs⟩ GA.b_heights_of (L2.defBody (top 20)) = true := by decide +kernel
theorem sc_round_in : L2.FnScope ["rows", "left", "path", "seen", "key", "place", "after"] ["rows", "left"] (L2.defScope (top 21)) := ⟨rfl, rfl, rfl, by decide +kernel, rfl, by decide +kernel, by decide +kernel⟩
theorem m_round_in : mCs ⟨["rows", "left", "path", "seen", "key", "place", "after"], L2.defScope (top 21), none, fs, bs, gs, cs⟩ GA.b_round_in (L2.defBody (top 21)) = true := by decide +kernel
theorem sc_way_to : L2.FnScope ["come", "key", "parents", "way", "one", "parent", "place"] ["come", "key"] (L2.defScope (top 22)) := ⟨rfl, rfl, rfl, by decide +kernel, rfl, by decide +kernel, by decide +kernel⟩
theorem m_way_to : mCs ⟨["come", "key", "parents", "way", "one", "parent", "place"], L2.defScope (top 22), none, fs, bs, gs, cs⟩ GA.b_way_to (L2.defBody (top 22)) = true := by decide +kernel
theorem sc_endless : L2.FnScope ["book", "rows", "used", "built", "come", "ends", "ways", "numbers", "left", "ring", "key", "tree"] ["book"] (L2.defScope (top 23)) := ⟨rfl, rfl, rfl, by decide +kernel, rfl, by decide +kernel, by decide +kernel⟩
theorem m_endless : mCs ⟨["book", "rows", "used", "built", "come", "ends", "ways", "numbers", "left", "ring", "key", "tree"], L2.defScope (top 23), none, fs, bs, gs, cs⟩ GA.b_endless (L2.defBody (top 23)) = true := by decide +kernel
theorem sc_fill_ways : L2.FnScope ["found", "spots", "sums", "total", "behind", "at", "choices", "ways", "one", "key"] ["found", "spots", "sums", "total"] (L2.defScope (top 25)) := ⟨rfl, rfl, rfl, by decide +kernel, rfl, by decide +kernel, by decide +kernel⟩
theorem m_fill_ways : mCs ⟨["found", "spots", "sums", "total", "behind", "at", "choices", "ways", "one", "key"], L2.defScope (top 25), none, fs, bs, gs, cs⟩ GA.b_fill_ways (L2.defBody (top 25)) = true := by decide +kernel
theorem sc_tally : L2.FnScope ["book", "size", "found", "total", "key", "spots", "tree", "counts", "sums", "spot"] ["book", "size"] (L2.defScope (top 26)) := ⟨rfl, rfl, rfl, by decide +kernel, rfl, by decide +kernel, by decide +kernel⟩
theorem m_tally : mCs ⟨["book", "size", "found", "total", "key", "spots", "tree", "counts", "sums", "spot"], L2.defScope (top 26), none, fs, bs, gs, cs⟩ GA.b_tally (L2.defBody (top 26)) = true := by decide +kernel
theorem sc_many_of : L2.FnScope ["book", "size", "found", "key"] ["book", "size"] (L2.defScope (top 27)) := ⟨rfl, rfl, rfl, by decide +kernel, rfl, by decide +kernel, by decide +kernel⟩
theorem m_many_of : mCs ⟨["book", "size", "found", "key"], L2.defScope (top 27), none, fs, bs, gs, cs⟩ GA.b_many_of (L2.defBody (top 27)) = true := by decide +kernel
theorem sc__law_cell_at : L2.FnScope ["script", "k"] ["script", "k"] (L2.defScope (top 29)) := ⟨rfl, rfl, rfl, by decide +kernel, rfl, by decide +kernel, by decide +kernel⟩
theorem m__law_cell_at : mCs ⟨["script", "k"], L2.defScope (top 29), none, fs, bs, gs, cs⟩ GA.b__law_cell_at (L2.defBody (top 29)) = true := by decide +kernel
theorem sc__law_names : L2.FnScope ["cell", "letter", "more", "k"] ["cell"] (L2.defScope (top 30)) := ⟨rfl, rfl, rfl, by decide +kernel, rfl, by decide +kernel, by decide +kernel⟩
theorem m__law_names : mCs ⟨["cell", "letter", "more", "k"], L2.defScope (top 30), none, fs, bs, gs, cs⟩ GA.b__law_names (L2.defBody (top 30)) = true := by decide +kernel
theorem sc__law_keys : L2.FnScope ["cell", "many", "letter", "more", "k"] ["cell", "many"] (L2.defScope (top 31)) := ⟨rfl, rfl, rfl, by decide +kernel, rfl, by decide +kernel, by decide +kernel⟩
theorem m__law_keys : mCs ⟨["cell", "many", "letter", "more", "k"], L2.defScope (top 31), none, fs, bs, gs, cs⟩ GA.b__law_keys (L2.defBody (top 31)) = true := by decide +kernel
theorem sc__law_signs : L2.FnScope ["cell", "letters", "one", "other", "more", "found"] ["cell"] (L2.defScope (top 32)) := ⟨rfl, rfl, rfl, by decide +kernel, rfl, by decide +kernel, by decide +kernel⟩
theorem m__law_signs : mCs ⟨["cell", "letters", "one", "other", "more", "found"], L2.defScope (top 32), none, fs, bs, gs, cs⟩ GA.b__law_signs (L2.defBody (top 32)) = true := by decide +kernel
theorem sc__law_shut : L2.FnScope ["stack", "name", "takes", "kids"] ["stack"] (L2.defScope (top 33)) := ⟨rfl, rfl, rfl, by decide +kernel, rfl, by decide +kernel, by decide +kernel⟩
theorem m__law_shut : mCs ⟨["stack", "name", "takes", "kids"], L2.defScope (top 33), none, fs, bs, gs, cs⟩ GA.b__law_shut (L2.defBody (top 33)) = true := by decide +kernel
theorem sc__law_takes : L2.FnScope ["kind", "name", "left"] ["kind", "name", "left"] (L2.defScope (top 34)) := ⟨rfl, rfl, rfl, by decide +kernel, rfl, by decide +kernel, by decide +kernel⟩
theorem m__law_takes : mCs ⟨["kind", "name", "left"], L2.defScope (top 34), none, fs, bs, gs, cs⟩ GA.b__law_takes (L2.defBody (top 34)) = true := by decide +kernel
theorem sc__law_lay : L2.FnScope ["stack", "cell", "name", "names", "signs", "left", "kind", "kids", "room", "knot"] ["stack", "cell", "name", "names", "signs", "left"] (L2.defScope (top 35)) := ⟨rfl, rfl, rfl, by decide +kernel, rfl, by decide +kernel, by decide +kernel⟩
theorem m__law_lay : mCs ⟨["stack", "cell", "name", "names", "signs", "left", "kind", "kids", "room", "knot"], L2.defScope (top 35), none, fs, bs, gs, cs⟩ GA.b__law_lay (L2.defBody (top 35)) = true := by decide +kernel
theorem sc__law_name : L2.FnScope ["names", "number", "own", "upward"] ["names", "number", "own", "upward"] (L2.defScope (top 36)) := ⟨rfl, rfl, rfl, by decide +kernel, rfl, by decide +kernel, by decide +kernel⟩
theorem m__law_name : mCs ⟨["names", "number", "own", "upward"], L2.defScope (top 36), none, fs, bs, gs, cs⟩ GA.b__law_name (L2.defBody (top 36)) = true := by decide +kernel
theorem sc__law_left : L2.FnScope ["first", "graft", "name"] ["first", "graft", "name"] (L2.defScope (top 37)) := ⟨rfl, rfl, rfl, by decide +kernel, rfl, by decide +kernel, by decide +kernel⟩
theorem m__law_left : mCs ⟨["first", "graft", "name"], L2.defScope (top 37), none, fs, bs, gs, cs⟩ GA.b__law_left (L2.defBody (top 37)) = true := by decide +kernel
theorem sc__law_tree : L2.FnScope ["cells", "graft", "own", "names", "signs", "upward", "first", "left", "called", "kind", "stack", "cell", "kids", "knot"] ["cells", "graft", "own", "names", "signs", "upward"] (L2.defScope (top 38)) := ⟨rfl, rfl, rfl, by decide +kernel, rfl, by decide +kernel, by decide +kernel⟩
theorem m__law_tree : mCs ⟨["cells", "graft", "own", "names", "signs", "upward", "first", "left", "called", "kind", "stack", "cell", "kids", "knot"], L2.defScope (top 38), none, fs, bs, gs, cs⟩ GA.b__law_tree (L2.defBody (top 38)) = true := by decide +kernel
theorem sc__law_book : L2.FnScope ["script", "plan", "many", "names", "keys", "signs", "upward", "top", "trees", "k", "cells", "first", "graft", "own"] ["script"] (L2.defScope (top 39)) := ⟨rfl, rfl, rfl, by decide +kernel, rfl, by decide +kernel, by decide +kernel⟩
theorem m__law_book : mCs ⟨["script", "plan", "many", "names", "keys", "signs", "upward", "top", "trees", "k", "cells", "first", "graft", "own"], L2.defScope (top 39), none, fs, bs, gs, cs⟩ GA.b__law_book (L2.defBody (top 39)) = true := by decide +kernel
theorem sc__law_pieces : L2.FnScope ["tree", "place", "found", "k"] ["tree", "place", "found"] (L2.defScope (top 40)) := ⟨rfl, rfl, rfl, by decide +kernel, rfl, by decide +kernel, by decide +kernel⟩
theorem m__law_pieces : mCs ⟨["tree", "place", "found", "k"], L2.defScope (top 40), none, fs, bs, gs, cs⟩ GA.b__law_pieces (L2.defBody (top 40)) = true := by decide +kernel
theorem sc__law_foot : L2.FnScope ["tree", "place", "piece"] ["tree"] (L2.defScope (top 41)) := ⟨rfl, rfl, rfl, by decide +kernel, rfl, by decide +kernel, by decide +kernel⟩
theorem m__law_foot : mCs ⟨["tree", "place", "piece"], L2.defScope (top 41), none, fs, bs, gs, cs⟩ GA.b__law_foot (L2.defBody (top 41)) = true := by decide +kernel
theorem sc__law_where : L2.FnScope ["book", "heads", "found", "key", "tree", "rows", "place", "piece", "keys", "one", "foot", "name"] ["book"] (L2.defScope (top 42)) := ⟨rfl, rfl, rfl, by decide +kernel, rfl, by decide +kernel, by decide +kernel⟩
theorem m__law_where : mCs ⟨["book", "heads", "found", "key", "tree", "rows", "place", "piece", "keys", "one", "foot", "name"], L2.defScope (top 42), none, fs, bs, gs, cs⟩ GA.b__law_where (L2.defBody (top 42)) = true := by decide +kernel
theorem sc__law_tops : L2.FnScope ["book", "key", "tree"] ["book"] (L2.defScope (top 43)) := ⟨rfl, rfl, rfl, by decide +kernel, rfl, by decide +kernel, by decide +kernel⟩
theorem m__law_tops : mCs ⟨["book", "key", "tree"], L2.defScope (top 43), none, fs, bs, gs, cs⟩ GA.b__law_tops (L2.defBody (top 43)) = true := by decide +kernel
theorem sc__law_waits : L2.FnScope ["rows", "known", "place", "must", "keys", "key"] ["rows", "known"] (L2.defScope (top 44)) := ⟨rfl, rfl, rfl, by decide +kernel, rfl, by decide +kernel, by decide +kernel⟩
theorem m__law_waits : mCs ⟨["rows", "known", "place", "must", "keys", "key"], L2.defScope (top 44), none, fs, bs, gs, cs⟩ GA.b__law_waits (L2.defBody (top 44)) = true := by decide +kernel
theorem sc__law_ending : L2.FnScope ["where", "known", "turn", "key", "rows"] ["where"] (L2.defScope (top 45)) := ⟨rfl, rfl, rfl, by decide +kernel, rfl, by decide +kernel, by decide +kernel⟩
theorem m__law_ending : mCs ⟨["where", "known", "turn", "key", "rows"], L2.defScope (top 45), none, fs, bs, gs, cs⟩ GA.b__law_ending (L2.defBody (top 45)) = true := by decide +kernel
theorem sc__law_used : L2.FnScope ["book", "where", "known", "used", "turn", "key", "rows", "place", "must", "keys", "one"] ["book", "where", "known"] (L2.defScope (top 46)) := ⟨rfl, rfl, rfl, by decide +kernel, rfl, by decide +kernel, by decide +kernel⟩
theorem m__law_used : mCs ⟨["book", "where", "known", "used", "turn", "key", "rows", "place", "must", "keys", "one"], L2.defScope (top 46), none, fs, bs, gs, cs⟩ GA.b__law_used (L2.defBody (top 46)) = true := by decide +kernel
theorem sc__law_whole : L2.FnScope ["thing"] ["thing"] (L2.defScope (top 47)) := ⟨rfl, rfl, rfl, by decide +kernel, rfl, by decide +kernel, by decide +kernel⟩
theorem m__law_whole : mCs ⟨["thing"], L2.defScope (top 47), none, fs, bs, gs, cs⟩ GA.b__law_whole (L2.defBody (top 47)) = true := by decide +kernel
theorem sc__law_tried : L2.FnScope ["book", "found", "refused"] ["book"] (L2.defScope (top 48)) := ⟨rfl, rfl, rfl, by decide +kernel, rfl, by decide +kernel, by decide +kernel⟩
theorem m__law_tried : mCs ⟨["book", "found", "refused"], L2.defScope (top 48), none, fs, bs, gs, cs⟩ GA.b__law_tried (L2.defBody (top 48)) = true := by decide +kernel
theorem sc__law_reached : L2.FnScope ["where", "known", "keys", "found", "turn", "key", "place", "must", "some", "fresh", "one"] ["where", "known", "keys"] (L2.defScope (top 49)) := ⟨rfl, rfl, rfl, by decide +kernel, rfl, by decide +kernel, by decide +kernel⟩
theorem m__law_reached : mCs ⟨["where", "known", "keys", "found", "turn", "key", "place", "must", "some", "fresh", "one"], L2.defScope (top 49), none, fs, bs, gs, cs⟩ b__law_reached (L2.defBody (top 49)) = true := by decide +kernel
theorem sc__law_rings : L2.FnScope ["book", "where", "known", "used", "key"] ["book", "where", "known"] (L2.defScope (top 50)) := ⟨rfl, rfl, rfl, by decide +kernel, rfl, by decide +kernel, by decide +kernel⟩
theorem m__law_rings : mCs ⟨["book", "where", "known", "used", "key"], L2.defScope (top 50), none, fs, bs, gs, cs⟩ b__law_rings (L2.defBody (top 50)) = true := by decide +kernel
theorem sc_law : L2.FnScope ["script", "book", "where", "known", "many", "refused", "found", "k", "size"] ["script"] (L2.defScope (top 51)) := ⟨rfl, rfl, rfl, by decide +kernel, rfl, by decide +kernel, by decide +kernel⟩
theorem m_law : mCs ⟨["script", "book", "where", "known", "many", "refused", "found", "k", "size"], L2.defScope (top 51), none, fs, bs, gs, cs⟩ b_law (L2.defBody (top 51)) = true := by decide +kernel
end K73
namespace K73
open PySem VM
open GA
structure HasRings (tbl : List (Nat × Fd)) : Prop extends HasUsed tbl where
  reached : tbl.lookup 41 = some ⟨3, 11, b__law_reached⟩
  rings : tbl.lookup 42 = some ⟨3, 5, b__law_rings⟩
section
variable {sub : Nat → Nat → Bool} {tbl : List (Nat × Fd)} {k : Nat} {S : Sto}
theorem reached_sp (hp : HasRings tbl) {B : Book} (hB : BookOk B) {wn kn qn : Nat} {ks : List Str} (hR : RowsAt S wn (rowsOf B.trs)) (hK : dicAt S kn = some (knD (ending (rowsOf B.trs)))) (hq : lstAt S qn = some (ks.map .str)) (hks : ∀ x ∈ ks, x ∈ B.keys) (hkl : ks.length ≤ 100) :
    Wx NoX (callN sub tbl (k + 1) 41 [.ref wn, .ref kn, .ref qn] S) fun d S' => ∃ r, d = .ref r ∧ Ext S S' ∧ lstAt S' r = some ((goN (ending (rowsOf B.trs)) (rowsOf B.trs) ks (rowsOf B.trs).length).map .str) := by
  refine Wp.gen fun Q hQ => ?_
  have sz : sizeLine = 16777216 := rfl
  have hrl : (rowsOf B.trs).length ≤ 6 := by rw [rowsOf_len]; exact hB.le
  have hKl := ending_len hB
  have hrn := rows_nd hB
  have hgnd := fun n => goN_nd (K := ending (rowsOf B.trs)) (ks := ks) hrn n
  have hKk : ∀ x ∈ ending (rowsOf B.trs), x ∈ B.keys := fun x hx => by rw [← keys_rows]; exact ending_sub _ x hx
  generalize hKK : ending (rowsOf B.trs) = K at *
  obtain ⟨kvs0, hD0, A0⟩ := hR
  have hkl0 : kvs0.length = (rowsOf B.trs).length := A0.1
  have hR : RowsAt S wn (rowsOf B.trs) := ⟨kvs0, hD0, A0⟩
  have hlen := dicAt_len hD0
  have hnol := dicAt_lst hD0
  refine wp_call hp.reached rfl ?_
  unfold b__law_reached
  rw [wp_cons]
  try walk_at "ev1"
  have hlen1 : dicLen (S ++ [O.lst []]) (.ref wn) = some kvs0.length := dicAt_len ((Ext.app S _).dic hD0)
  have hnol1 : lstAt (S ++ [O.lst []]) wn = none := dicAt_lst ((Ext.app S _).dic hD0)
  have hF0 : lstAt (S ++ [O.lst []]) S.length = some [] := lstAt_new
  rw [seqQ_nx, wp_cons]
  try walk_at "ev1"
  refine ⟨⟨by omega, by omega⟩, ?_⟩
  refine wp_fF (fun t ρ S' => ∃ fn x4 x5 x6 x7 x8 x9 x10, ρ = [some (.ref wn), some (.ref kn), some (.ref qn), some (.ref fn), x4, x5, x6, x7, x8, x9, x10] ∧ Ext S S' ∧ lstAt S' fn = some ((goN K (rowsOf B.trs) ks t).map .str)) ?_ ?_ ?_
  · exact ⟨_, _, _, _, _, _, _, _, rfl, Ext.app _ _, hF0⟩
  · rintro t d ρ S2 hd ⟨fn, x4, x5, x6, x7, x8, x9, x10, rfl, X2, hf2⟩ J hJ
    have hg2 := hgnd t
    have hg2l := hg2.len
    have hq2 := X2.lst hq
    clear hlen hnol hlen1 hnol1 hF0
    refine ⟨_, rfl, ?_⟩
    rw [wp_cons]
    have hql : (ks.map D.str).length = ks.length := List.length_map _
    have hfl : ((goN K (rowsOf B.trs) ks t).map D.str).length = (goN K (rowsOf B.trs) ks t).length := List.length_map _
    try walk_at "ev1"
    refine ⟨by omega, ?_⟩
    have hnew : lstAt (S2 ++ [.lst (ks.map .str ++ (goN K (rowsOf B.trs) ks t).map .str)]) S2.length = some ((ks ++ goN K (rowsOf B.trs) ks t).map D.str) := by rw [List.map_append]; exact lstAt_new
    have X3 : Ext S2 (S2 ++ [.lst (ks.map .str ++ (goN K (rowsOf B.trs) ks t).map .str)]) := Ext.app _ _
    have hf3 := X3.lst hf2
    generalize S2 ++ [.lst (ks.map D.str ++ (goN K (rowsOf B.trs) ks t).map .str)] = S3 at *
    have hgoT : goN K (rowsOf B.trs) ks (t + 1) = (ks ++ goN K (rowsOf B.trs) ks t).foldl (goF K (rowsOf B.trs)) (goN K (rowsOf B.trs) ks t) := rfl
    have hall : ∀ x ∈ ks ++ goN K (rowsOf B.trs) ks t, x ∈ B.keys := fun x hx => (List.mem_append.mp hx).elim (hks x) fun h => hKk x (hg2.2 x h)
    generalize hxs : ks ++ goN K (rowsOf B.trs) ks t = xs at *
    refine wp_fR (ds := xs.map D.str) (fun i ρ S' => ∃ fn x5 x6 x7 x8 x9 x10, ρ = [some (.ref wn), some (.ref kn), some (.ref qn), some (.ref fn), some d, x5, x6, x7, x8, x9, x10] ∧ Ext S3 S' ∧ lstAt S' fn = some (((xs.take i).foldl (goF K (rowsOf B.trs)) (goN K (rowsOf B.trs) ks t)).map .str) ∧ NdK K ((xs.take i).foldl (goF K (rowsOf B.trs)) (goN K (rowsOf B.trs) ks t))) ⟨fn, _, _, _, _, _, _, rfl, .refl _, hf3, hg2⟩ ?_ ?_ ?_
    · rintro i ρ S' ⟨_, _, _, _, _, _, _, _, X, _⟩
      exact X.lst hnew
    · rintro i d' ρ S4 hd' ⟨fn, x5, x6, x7, x8, x9, x10, rfl, X4, hf4, hn4⟩ J2 hJ2
      rw [List.getElem?_map] at hd'
      cases e : xs[i]? with
      | none => rw [e] at hd'; cases hd'
      | some x =>
        rw [e] at hd'
        cases hd'
        have hst : (xs.take (i + 1)).foldl (goF K (rowsOf B.trs)) (goN K (rowsOf B.trs) ks t) = useS K ((xs.take i).foldl (goF K (rowsOf B.trs)) (goN K (rowsOf B.trs) ks t)) (spAt (rowsOf B.trs) x) := by
          rw [List.take_succ, e, List.foldl_append]
          rfl
        generalize (xs.take i).foldl (goF K (rowsOf B.trs)) (goN K (rowsOf B.trs) ks t) = us at *
        have hR4 := hR.ext ((X2.trans X3).trans X4)
        obtain ⟨kvs, dsp, hD, hl, hsp, r, hr, hre⟩ := spots_key hR4 (hall x (List.mem_of_getElem? e))
        have hspn : ∀ sp ∈ spAt (rowsOf B.trs) x, sp.2.2.Nodup := by rw [hre]; exact hrn r hr
        have hspk : ∀ sp ∈ spAt (rowsOf B.trs) x, sp.2.2.length ≤ 100000 := by rw [hre]; exact rows_keys_len hB r hr
        clear hre hr
        obtain ⟨rr, ds, rfl, hds, hA⟩ := hsp
        refine ⟨_, rfl, ?_⟩
        rw [wp_cons]
        try walk_at "ev1"
        refine wp_fR (ds := ds) (fun m ρ Sm => ∃ fn x6 x7 x8 x9 x10, ρ = [some (.ref wn), some (.ref kn), some (.ref qn), some (.ref fn), some d, some (.str x), x6, x7, x8, x9, x10] ∧ Ext S4 Sm ∧ lstAt Sm fn = some ((useS K us ((spAt (rowsOf B.trs) x).take m)).map .str) ∧ NdK K (useS K us ((spAt (rowsOf B.trs) x).take m))) ⟨fn, _, _, _, _, _, rfl, .refl _, hf4, hn4⟩ ?_ ?_ ?_
        · rintro m ρ Sm ⟨_, _, _, _, _, _, _, X, _⟩
          exact X.lst hds
        · rintro m d2 ρ Sm hd2 ⟨fn, x6, x7, x8, x9, x10, rfl, Xm, hfm, hnm⟩ J3 hJ3
          obtain ⟨sp, esp, kr, rfl, hkr⟩ := hA.get hd2
          have hkrm := Xm.lst hkr
          have hKm := (((X2.trans X3).trans X4).trans Xm).dic hK
          have hspm := List.mem_of_getElem? esp
          have hst2 : useS K us ((spAt (rowsOf B.trs) x).take (m + 1)) = addNew K (useS K us ((spAt (rowsOf B.trs) x).take m)) sp.2.2 := by
            unfold useS
            rw [List.take_succ, esp, List.foldl_append]
            rfl
          have hnd3 := hnm.add (hspn sp hspm)
          rw [← hst2] at hnd3
          generalize useS K us ((spAt (rowsOf B.trs) x).take m) = vs at *
          refine ⟨_, rfl, ?_⟩
          rw [wp_cons]
          try walk_at "ev1"
          refine wp_lM sp.2.2 D.str (fun y => decide (y ∈ K) && !decide (y ∈ vs)) D.str hkrm (hspk sp hspm) (fun y hy => ⟨_, rfl, ?_, fun hs => ?_⟩) ?_
          · have h1 := in_kn (x := y) hKm
            have h2 := in_strs (y := y) hfm
            try walk_at "ev1"
            cases decide (y ∈ K) with
            | false => rw [andQ_f]; simp
            | true =>
              rw [andQ_t]
              try walk_at "ev1"
              simp
          · try walk_at "ev1"
          have hlen3 := hnd3.len
          rw [hst2] at hlen3
          unfold addNew at hlen3 hst2
          rw [List.length_append] at hlen3
          generalize (sp.2.2.filter fun y => decide (y ∈ K) && !decide (y ∈ vs)) = fr at *
          have hnew2 : lstAt (Sm ++ [O.lst (fr.map D.str)]) Sm.length = some (fr.map D.str) := lstAt_new
          have hfm' := (Ext.app Sm [O.lst (fr.map D.str)]).lst hfm
          have X5 : Ext Sm (Sm ++ [O.lst (fr.map D.str)]) := Ext.app _ _
          generalize Sm ++ [O.lst (fr.map D.str)] = S5 at *
          rw [seqQ_nx, wp_cons]
          have hvl : (vs.map D.str).length = vs.length := List.length_map _
          have hfrl : (fr.map D.str).length = fr.length := List.length_map _
          try walk_at "ev1"
          refine ⟨by omega, ?_⟩
          refine hJ3 _ _ ⟨S5.length, some (plD sp.1), some (.bl sp.2.1), some (.ref kr), _, x10, rfl, (Xm.trans X5).app1 _, ?_, hnd3⟩
          rw [hst2, List.map_append]
          exact lstAt_new
        · rintro ρ Sm ⟨fn, x6, x7, x8, x9, x10, rfl, Xm, hfm, hnm⟩
          rw [hA.1, List.take_length] at hfm hnm
          rw [seqQ_nil, forQ_nx]
          exact hJ2 _ _ ⟨fn, _, _, _, _, _, _, rfl, X4.trans Xm, by rw [hst]; exact hfm, by rw [hst]; exact hnm⟩
    · rintro ρ S4 ⟨fn, x5, x6, x7, x8, x9, x10, rfl, X4, hf4, hn4⟩
      rw [List.length_map, List.take_length, ← hgoT] at hf4
      rw [seqQ_nil, forQ_nx]
      exact hJ _ _ ⟨fn, _, _, _, _, _, _, _, rfl, (X2.trans X3).trans X4, hf4⟩
  · rintro ρ S2 ⟨fn, x4, x5, x6, x7, x8, x9, x10, rfl, X2, hf2⟩
    rw [List.length_map, List.length_range] at hf2
    have := hQ (.ref fn) S2 ⟨fn, rfl, X2, hf2⟩
    clear hQ hlen hnol hlen1 hnol1 hF0
    try walk_at "ev"
theorem rings_sp (hp : HasRings tbl) {B : Book} (hB : BookOk B) {wn kn : Nat} (hR : RowsU S wn (rowsOf B.trs)) (hK : dicAt S kn = some (knD (ending (rowsOf B.trs)))) (hne : kn ≠ wn) :
    Wx NoX (callN sub tbl (k + 15) 42 [B.d, .ref wn, .ref kn] S) fun d S' => ∃ r, ∃ rs : List Str, d = .ref r ∧ Ext S S' ∧ lstAt S' r = some (rs.map .str) ∧ ∀ x, x ∈ rs ↔ x ∈ usedL B ∧ Go (rowsOf B.trs) (ending (rowsOf B.trs)) [x] x := by
  refine Wp.gen fun Q hQ => ?_
  have sz : sizeLine = 16777216 := rfl
  have hul : (usedL B).length ≤ 6 := Nat.le_trans (used_nd hB _).len (ending_len hB)
  have hcont : ∀ (x : Str), (x ∈ goN (ending (rowsOf B.trs)) (rowsOf B.trs) [x] (rowsOf B.trs).length) ↔ Go (rowsOf B.trs) (ending (rowsOf B.trs)) [x] x := fun x => goN_mem (rowsOf_nd hB) (rows_nd hB) (turns_le _ _)
  refine wp_call hp.rings rfl ?_
  unfold b__law_rings
  rw [wp_cons]
  try walk_at "ev1"
  refine (used_sp hp.toHasUsed (k := k) hB hR hK hne).mono ?_
  rintro _ S1 ⟨un, rfl, X1, _, hun⟩
  have hR1 := (hR.ext X1).at
  have hK1 := X1.dic hK
  rw [seqQ_nx, wp_cons]
  try walk_at "ev1"
  refine wp_lMX (usedL B) D.str (fun x => decide (x ∈ goN (ending (rowsOf B.trs)) (rowsOf B.trs) [x] (rowsOf B.trs).length)) D.str hun (by omega) (fun x hx S2 X2 => ⟨_, rfl, ?_⟩) ?_
  · have hxk : x ∈ B.keys := by
      have := ((used_mem hB).mp hx).known
      rw [← keys_rows]
      exact ending_sub _ x this
    try walk_at "ev1"
    have X3 : Ext S2 (S2 ++ [.lst [.str x]]) := Ext.app _ _
    refine (reached_sp hp (k := k + 13) (qn := S2.length) (ks := [x]) hB (hR1.ext (X2.trans X3)) ((X2.trans X3).dic hK1) lstAt_new (fun y hy => by rw [List.mem_singleton] at hy; rw [hy]; exact hxk) (by simp)).mono ?_
    rintro _ S4 ⟨r, rfl, X4, hr⟩
    have hin := in_strs (y := x) hr
    refine ⟨_, hin, rfl, X3.trans X4, fun _ => ?_⟩
    try walk_at "ev1"
    exact Ext.refl _
  · intro S2 X2
    refine hQ _ _ ⟨_, (usedL B).filter fun x => decide (x ∈ goN (ending (rowsOf B.trs)) (rowsOf B.trs) [x] (rowsOf B.trs).length), rfl, (X1.trans X2).app1 _, lstAt_new, fun x => ?_⟩
    rw [List.mem_filter]
    simp only [decide_eq_true_eq]
    rw [hcont]
end

end K73
namespace K73
open PySem VM
open GA
structure HasTried (tbl : List (Nat × Fd)) (f : Nat) : Prop extends HasEndless tbl f where
  tried : tbl.lookup 40 = some ⟨1, 3, b__law_tried⟩
section
variable {sub : Nat → Nat → Bool} {tbl : List (Nat × Fd)} {k f : Nat} {S : Sto}
theorem whole_sp (hf : tbl.lookup 39 = some ⟨1, 1, b__law_whole⟩) {d : D} {p : PyData} (h : Rd S d p) : Wx NoX (callN sub tbl (k + 1) 39 [d] S) fun d' S' => d' = .bl (isNum p) ∧ S' = S := by
  refine Wp.gen fun Q hQ => ?_
  refine wp_call hf rfl ?_
  unfold b__law_whole
  have i1 := isi_rd h .int
  have i2 := isi_rd h .bool
  rw [wp_cons]
  try walk_at "ev1"
  have := hQ (.bl (isNum p)) S ⟨rfl, rfl⟩
  clear hQ
  cases p <;> first
    | (show andE _ _ _ _ _ (.bl true) _
       rw [andE_t]
       try walk_at "ev1"
       exact this)
    | (show andE _ _ _ _ _ (.bl false) _
       rw [andE_f]
       exact this)
theorem tried_sp (hp : HasTried tbl f) (hsub : sub 283 283 = true) {B : Book} (hB : BookOk B) :
    Wx NoX (callN sub tbl (k + 19) 40 [B.d] S) fun d S' => Ext S S' ∧ ((usedL B = [] ∧ ∃ x, d = .tup [.bl true, x]) ∨ ∃ e, d = .tup [.bl false, e] ∧ EndlessAt B e) := by
  refine Wp.gen fun Q hQ => ?_
  refine wp_call hp.tried rfl ?_
  unfold b__law_tried
  rw [wp_cons]
  try walk_at "ev1"
  rw [seqQ_nx, wp_cons]
  try walk_at "ev1"
  rw [seqQ_nx, wp_cons]
  try walk_at "ev1"
  rw [wp_cons]
  try walk_at "ev1"
  refine Wx.mono2 (endless_sp hp.toHasEndless (k := k) hB) ?_ ?_
  · rintro e S1 ⟨X1, hE⟩
    have := hQ (.tup [.bl false, e]) S1 ⟨X1, .inr ⟨e, rfl, hE⟩⟩
    clear hQ
    try walk_at "ev"
  · rintro c xs S1 ⟨rfl, rfl, X1, hu⟩
    have := hQ (.tup [.bl true, .non]) S1 ⟨X1, .inl ⟨hu, _, rfl⟩⟩
    clear hQ
    rw [rzQ_, seqQ_rz, tryQ_rz]
    unfold caught
    rw [show noPlan = 283 from rfl, if_pos (by exact hsub)]
    unfold suRun
    simp only
    rw [wp_ok, seqQ_nx]
    show Wx NoX (exCs _ _ [some B.d, some .non, some (.bl true)] S1) _
    rw [wp_cons]
    try walk_at "ev1"
/-- eight noughts asked for -/
theorem comp_zero (hp : HasMany tbl) {B : Book} (hB : BookOk B) {X0 : XQ} {elt : E} {v m : Nat} {ρ : Rho} {Q : D → Sto → Prop} (hm : m + 8 ≤ 24) (hz : ∀ i, 1 ≤ i → i ≤ 8 → manyN B (m + i) = 0)
    (he : ∀ (i : Nat) (S' : Sto) (R : D → Sto → Prop), 1 ≤ i → i ≤ 8 → Wx NoX (callN sub tbl (k + 16) 20 [B.d, .int (m + i : Nat)] S') R → Wx NoX (evE ⟨callN sub tbl (k + 16), sub⟩ elt ((wipeR ρ [v]).set v (some (.int (i : Nat)))) S') R)
    (hQ : ∀ S', Ext S S' → Q (.ref S'.length) (S' ++ [.lst (List.replicate 8 (D.int 0))])) :
    Wx X0 (lcG ⟨callN sub tbl (k + 16), sub⟩ elt (.nm v) .yes [v] ρ (.fix ((List.range 8).map fun (q : Nat) => D.int ((1 : Int) + q))) S) Q := by
  have sz : sizeLine = 16777216 := rfl
  refine wp_lF (fun i acc S' => Ext S S' ∧ acc = List.replicate i (D.int 0)) ⟨.refl _, rfl⟩ ?_ ?_
  · rintro i d acc S' hd ⟨X, rfl⟩ J K hJ hK
    rw [List.getElem?_map] at hd
    cases e : (List.range 8)[i]? with
    | none => rw [e] at hd; cases hd
    | some y =>
      rw [e] at hd
      cases hd
      obtain ⟨hi, hy⟩ := List.getElem?_eq_some_iff.mp e
      rw [List.getElem_range] at hy
      rw [List.length_range] at hi
      subst hy
      have hcast : ((1 : Int) + (i : Int)) = ((i + 1 : Nat) : Int) := by omega
      show ∃ ρ1, bindT (.nm v) (D.int ((1 : Int) + (i : Nat))) _ = some ρ1 ∧ _
      rw [hcast]
      refine ⟨_, rfl, ?_⟩
      rw [wt_yes, lcQ_t]
      refine he (i + 1) S' _ (by omega) (by omega) ((many_sp hp hB (k := k) (n := m + (i + 1)) (by omega)).mono ?_)
      rintro _ S2 ⟨rfl, X2⟩
      rw [hz (i + 1) (by omega) (by omega)]
      refine hJ _ _ (by rw [List.length_replicate]; omega) ⟨X.trans X2, ?_⟩
      rw [List.replicate_succ']
      rfl
  · rintro acc S' ⟨X, rfl⟩
    rw [List.length_map, List.length_range]
    exact hQ S' X
theorem zeros_eq {S : Sto} {a b : Nat} (h1 : lstAt S a = some (List.replicate 8 (D.int 0))) (h2 : lstAt S b = some (List.replicate 8 (D.int 0))) : eqD (.ref a) (.ref b) S = some true := by
  have r : RdL S (List.replicate 8 (D.int 0)) (List.replicate 8 (PyData.int 0)) := .cons (.int 0) (.cons (.int 0) (.cons (.int 0) (.cons (.int 0) (.cons (.int 0) (.cons (.int 0) (.cons (.int 0) (.cons (.int 0) .nil)))))))
  rw [eqD_rd (.lst h1 r) (.lst h2 r) (by decide) (by decide), PySem.SeqAt.eqv_refl_plain _ (Rd.plain (Rd.lst h1 r))]
end

end K73
namespace K73
open PySem VM
open GA
def room : Nat := 40
theorem hasUseful : HasUseful tbl 6 := ⟨⟨⟨rfl, rfl⟩, rfl, rfl, rfl, rfl⟩, ⟨rfl, rfl, rfl⟩, rfl, rfl⟩
theorem hasHts : HasHts tbl := ⟨⟨rfl, rfl⟩, rfl, rfl⟩
theorem hasTried : HasTried tbl 6 := ⟨⟨⟨hasHts, rfl, rfl⟩, hasUseful, rfl⟩, rfl⟩
theorem hasMany : HasMany tbl := ⟨hasUseful.toHasSpots, rfl, rfl, rfl⟩
theorem hasRings : HasRings tbl := ⟨⟨⟨⟨rfl, rfl⟩, rfl, rfl⟩, rfl⟩, rfl, rfl⟩
theorem hasDraw : HasDraw tbl := ⟨rfl, rfl, rfl, rfl, rfl, rfl, rfl, rfl, rfl, rfl, rfl⟩
theorem hasEnding : HasEnding tbl := ⟨rfl, rfl⟩
theorem isnum_of {p : PyData} {i : Int} (h : p = .int i) : isNum p = true := by rw [h]; rfl
/-- all of it behind the reckoning -/
theorem law_end {B : Book} (hB : BookOk B) {wn kn : Nat} {S : Sto} (hR : RowsU S wn (rowsOf B.trs)) (hK : dicAt S kn = some (knD (ending (rowsOf B.trs)))) (hne : kn ≠ wn) {r0 : Option D} {a b : D} {t : Bool} {e : D}
    (he : (usedL B = [] ∧ t = true) ∨ (t = false ∧ EndlessAt B e)) {Q : D → Sto → Prop} (hQ : ∀ S, Q (.bl true) S) :
    Wx NoX (exCs ⟨callN sub tbl 39, sub⟩ (tlN 4 b_law) [r0, some B.d, some (.ref wn), some (.ref kn), none, some (.bl t), some e, none, none] S) (retQ Q NoX) := by
  have sz : sizeLine = 16777216 := rfl
  rcases he with ⟨hu, rfl⟩ | ⟨rfl, hE⟩
  · unfold b_law
    simp only [tlN]
    rw [wp_cons]
    try walk_at "ev1"
    rw [wp_cons]
    try walk_at "ev1"
    refine ⟨1, 9, rfl, rfl, by omega, ?_⟩
    rw [show ((9 : Int) - 1).toNat = 8 from rfl]
    refine comp_zero hasMany hB (k := 23) (m := 0) (by omega) (fun i _ _ => many_none hB hu _) (fun i S' R h1 h8 h => ?_) ?_
    · rw [Nat.zero_add] at h
      clear hQ
      try walk_at "ev1"
    · intro S2 X2
      have l1 : lstAt (S2 ++ [.lst (List.replicate 8 (D.int 0))] ++ [.lst (List.replicate 8 (D.int 0))]) S2.length = some (List.replicate 8 (D.int 0)) := (Ext.app _ _ : Ext (S2 ++ [.lst (List.replicate 8 (D.int 0))]) _).lst lstAt_new
      have l2 : lstAt (S2 ++ [.lst (List.replicate 8 (D.int 0))] ++ [.lst (List.replicate 8 (D.int 0))]) (S2 ++ [O.lst (List.replicate 8 (D.int 0))]).length = some (List.replicate 8 (D.int 0)) := lstAt_new
      exact ⟨_, zeros_eq l1 l2, hQ _⟩
  · obtain ⟨hu, ns, L, hI, hst, hc⟩ := hE
    have fin : ∀ (x : Str) (y z : D), e = .tup [.str x, y, z] → (∀ S' rn (rs : List Str), Ext S S' → lstAt S' rn = some (rs.map .str) → (∀ x, x ∈ rs ↔ x ∈ usedL B ∧ Go (rowsOf B.trs) (ending (rowsOf B.trs)) [x] x) → ifQ ⟨callN sub tbl 39, sub⟩ (.cons (.ret (.cmp .eq (.idx (.var 6) (.int 0)) (.str "endless"))) .nil) .nil [r0, some B.d, some (.ref wn), some (.ref kn), none, some (.bl false), some (.tup [.str x, y, z]), none, none] (seqQ ⟨callN sub tbl 39, sub⟩ (tlN 7 b_law) (retQ Q NoX)) (decide ((0 : Int) < rs.length)) S') →
        Wx NoX (exCs ⟨callN sub tbl 39, sub⟩ (tlN 4 b_law) [r0, some B.d, some (.ref wn), some (.ref kn), none, some (.bl false), some e, none, none] S) (retQ Q NoX) := by
      intro x y z hex hr
      subst hex
      unfold b_law at hr ⊢
      simp only [tlN] at hr ⊢
      generalize hT : (Cs.cons (C.ife (.or (.cmp .ne (.idx (.var 6) (.int 0)) (.str "bounded")) _) _ _) _) = T at *
      clear hQ hc
      rw [wp_cons]
      try walk_at "ev1"
      have hist : isiD .tuple (.tup [.str x, y, z]) S = some true := rfl
      rw [seqQ_nx, wp_cons]
      try walk_at "ev1"
      show orQ _ _ _ _ _ false _
      rw [orQ_f]
      try walk_at "ev1"
      refine (used_sp hasRings.toHasUsed (k := 25) hB hR hK hne).mono ?_
      rintro _ S1 ⟨un, rfl, X1, _, hun⟩
      have hnz : (((usedL B).length : Int) == 0) = false := by
        have : 0 < (usedL B).length := List.length_pos_iff.mpr hu
        simp
        exact fun z => hu z
      have hul : ((usedL B).map D.str).length = (usedL B).length := List.length_map _
      try walk_at "ev1"
      rw [seqQ_nx, wp_cons]
      try walk_at "ev1"
      refine (rings_sp hasRings (k := 24) hB (hR.ext X1) (X1.dic hK) hne).mono ?_
      rintro _ S2 ⟨rn, rs, rfl, X2, hrs, hrm⟩
      have h0 := hr S2 rn rs (X1.trans X2) hrs hrm
      have hrl : (rs.map D.str).length = rs.length := List.length_map _
      clear hr hrm
      try walk_at "ev1"
    rcases hc with ⟨hL, a, b, rfl⟩ | ⟨hL, a, rfl⟩
    · refine fin _ _ _ rfl fun S' rn rs X hrs hrm => ?_
      obtain ⟨x, hxL, hgo⟩ := some_round hB hI hL hst
      have hxu : x ∈ usedL B := by have := (List.mem_filter.mp (hI.subL x hxL)).2; simpa using this
      have hx := (hrm x).mpr ⟨hxu, hgo⟩
      have hpos : decide ((0 : Int) < rs.length) = true := decide_eq_true (by have := List.length_pos_of_mem hx; omega)
      rw [hpos, ifQ_t]
      have := hQ S'
      clear hQ fin hrm
      try walk_at "ev"
    · subst hL
      obtain ⟨hg1, hg2, hg3⟩ := many_bounded hB hu hI
      refine fin _ _ _ rfl fun S' rn rs X hrs hrm => ?_
      have hno : rs = [] := List.eq_nil_iff_forall_not_mem.mpr fun x hx => by
        obtain ⟨h1, h2⟩ := (hrm x).mp hx
        have hk := ending_sub _ x h2.known
        rw [keys_rows] at hk
        exact no_round hB hI (List.mem_filter.mpr ⟨hk, by simpa using h1⟩) h2
      rw [hno]
      rw [show decide ((0 : Int) < (([] : List Str).length : Int)) = false from rfl, ifQ_f, wp_nil, seqQ_nx]
      clear fin hrm hrs hno
      obtain ⟨m, hm⟩ : ∃ m : Nat, greatOf (keysOf B.trs (false, B.top)) ns = m := ⟨(greatOf (keysOf B.trs (false, B.top)) ns).toNat, by omega⟩
      rw [hm] at hg1 hg2 hg3 ⊢
      rw [Int.toNat_natCast] at hg2
      unfold b_law
      simp only [tlN]
      rw [wp_cons]
      try walk_at "ev1"
      refine (whole_sp (k := 38) rfl (.int (m : Int))).mono ?_
      rintro _ S2 ⟨rfl, rfl⟩
      rw [show isNum (.int (m : Int)) = true from rfl]
      try walk_at "ev1"
      rw [show decide ((m : Int) < 1) = false from decide_eq_false (by omega)]
      try walk_at "ev1"
      rw [seqQ_nx, wp_cons]
      try walk_at "ev1"
      refine ifQ_by (fun h16 => ?_) (fun h16 => ?_)
      · have := hQ S2
        clear hQ
        try walk_at "ev"
      · have h16 : m ≤ 16 := by have := of_decide_eq_false h16; omega
        try walk_at "ev1"
        rw [seqQ_nx, wp_cons]
        try walk_at "ev1"
        refine (many_sp hasMany hB (k := 23) (n := m) (by omega)).mono ?_
        rintro _ S3 ⟨rfl, X3⟩
        rw [seqQ_nx, wp_cons]
        try walk_at "ev1"
        refine (whole_sp (k := 38) rfl (.int (manyN B m : Nat))).mono ?_
        rintro _ S4 ⟨rfl, rfl⟩
        rw [show isNum (.int (manyN B m : Nat)) = true from rfl]
        try walk_at "ev1"
        rw [show decide (((manyN B m : Nat) : Int) < 1) = false from decide_eq_false (by omega)]
        try walk_at "ev1"
        rw [seqQ_nx, wp_cons]
        try walk_at "ev1"
        refine ⟨1, 9, rfl, rfl, by omega, ?_⟩
        rw [show ((9 : Int) - 1).toNat = 8 from rfl]
        refine comp_zero hasMany hB (k := 23) (m := m) (by omega) (fun i h1 _ => hg3 (m + i) (by omega)) (fun i S' R h1 h8 h => ?_) ?_
        · have hc : ((m : Int) + (i : Int)) = ((m + i : Nat) : Int) := by omega
          clear hQ
          try walk_at "ev1"
        · intro S5 X5
          have l1 : lstAt (S5 ++ [.lst (List.replicate 8 (D.int 0))] ++ [.lst (List.replicate 8 (D.int 0))]) S5.length = some (List.replicate 8 (D.int 0)) := (Ext.app _ _ : Ext (S5 ++ [.lst (List.replicate 8 (D.int 0))]) _).lst lstAt_new
          have l2 : lstAt (S5 ++ [.lst (List.replicate 8 (D.int 0))] ++ [.lst (List.replicate 8 (D.int 0))]) (S5 ++ [O.lst (List.replicate 8 (D.int 0))]).length = some (List.replicate 8 (D.int 0)) := lstAt_new
          exact ⟨_, zeros_eq l1 l2, hQ _⟩
theorem law_ok (ns : List Int) (hn : ns.length ≤ 63) : ∃ S', callN sub tbl room 43 [.fz (ns.map .int)] [] = some (.ok (.bl true) S') := by
  have key : Wx NoX (callN sub tbl (39 + 1) 43 [.fz (ns.map .int)] []) fun d _ => d = .bl true := by
    refine Wp.gen fun Q hQ => wp_call (fd := ⟨1, 9, b_law⟩) rfl rfl ?_
    have sz : sizeLine = 16777216 := rfl
    have fin : ∀ (B : Book) (hB : BookOk B) (wn kn : Nat) (S : Sto) (hR : RowsU S wn (rowsOf B.trs)) (hK : dicAt S kn = some (knD (ending (rowsOf B.trs)))) (hne : kn ≠ wn) (r0 : Option D) (t : Bool) (e : D) (he : (usedL B = [] ∧ t = true) ∨ (t = false ∧ EndlessAt B e)),
      Wx NoX (exCs ⟨callN sub tbl 39, sub⟩ (tlN 4 b_law) [r0, some B.d, some (.ref wn), some (.ref kn), none, some (.bl t), some e, none, none] S) (retQ Q NoX) := fun B hB wn kn S hR hK hne r0 t e he => law_end (a := .non) (b := .non) hB hR hK hne he fun S => hQ _ S rfl
    clear hQ
    unfold b_law at fin ⊢
    simp only [tlN] at fin
    generalize hT : (Cs.cons (C.ife (T.v (.var 5)) _ _) _) = T at *
    rw [wp_cons]
    try walk_at "ev1"
    refine (book_sp hasDraw (k := 35) hn).mono ?_
    rintro _ S1 ⟨B, rfl, hB, X1⟩
    rw [seqQ_nx, wp_cons]
    try walk_at "ev1"
    refine (where_sp hasRings.toHasWhere (k := 26) hB).mono ?_
    rintro _ S2 ⟨wn, rfl, X2, _, hR⟩
    have hwlt : wn < S2.length := by obtain ⟨kvs, h, _⟩ := hR; exact dicAt_lt (dicU_at h)
    rw [seqQ_nx, wp_cons]
    try walk_at "ev1"
    refine (ending_sp hasEnding (k := 37) hR (by unfold rowsOf; rw [List.length_map]; exact hB.le) (rows_keys_len hB)).mono ?_
    rintro _ S3 ⟨kn, rfl, X3, hkl, hK⟩
    have hne : kn ≠ wn := by omega
    have hR := hR.ext X3
    have hK := dicU_at hK
    rw [seqQ_nx, wp_cons]
    try walk_at "ev1"
    refine (tried_sp hasTried rfl (k := 20) hB).mono ?_
    rintro _ S4 ⟨X4, ⟨hu, x, rfl⟩ | ⟨e, rfl, hE⟩⟩
    · have f0 := fin B hB wn kn S4 (hR.ext X4) (X4.dic hK) hne (some (.fz (ns.map .int))) true x (.inl ⟨hu, rfl⟩)
      rw [bindT_tp, setMany_cons, setMany_cons, setMany_nil]
      refine ⟨_, rfl, ?_⟩
      rw [seqQ_nx]
      exact f0
    · have f0 := fin B hB wn kn S4 (hR.ext X4) (X4.dic hK) hne (some (.fz (ns.map .int))) false e (.inr ⟨rfl, hE⟩)
      rw [bindT_tp, setMany_cons, setMany_cons, setMany_nil]
      refine ⟨_, rfl, ?_⟩
      rw [seqQ_nx]
      exact f0
  exact key.eq fun _ _ h => h

end K73
namespace K73
open PySem VM
theorem all_mk {P : Program} {w : World} {K : PySem.W.Frag} {h : Heap} {mg : Str → Option Value} {fa : Addr} (X : K.In h) (G : h.Ns mainGlobals mg) (hfa : mg "law" = some (.ref fa))
    (a_pieces_in : FnAt K "pieces_in" "pieces_in" (top 4) ["tree", "place"]) (a_foot_in : FnAt K "foot_in" "foot_in" (top 5) ["tree"]) (a_keys_by_name : FnAt K "keys_by_name" "keys_by_name" (top 6) ["book"]) (a_spots_in : FnAt K "spots_in" "spots_in" (top 7) ["tree", "names"]) (a_all_spots : FnAt K "all_spots" "all_spots" (top 8) ["book"]) (a_top_keys : FnAt K "top_keys" "top_keys" (top 9) ["book"]) (a_first_of : FnAt K "first_of" "first_of" (top 11) ["keys", "known"]) (a_fillings : FnAt K "fillings" "fillings" (top 12) ["spots", "known"]) (a_orders_built : FnAt K "orders_built" "orders_built" (top 13) ["book", "rows"]) (a_comings : FnAt K "comings" "comings" (top 14) ["book", "rows", "known"]) (a_useful : FnAt K "useful" "useful" (top 15) ["book"]) (a_greatest_of : FnAt K "greatest_of" "greatest_of" (top 17) ["keys", "numbers"]) (a_height_of : FnAt K "height_of" "height_of" (top 18) ["spots", "numbers"]) (a_next_of : FnAt K "next_of" "next_of" (top 19) ["spots", "left"]) (a_heights_of : FnAt K "heights_of" "heights_of" (top 20) ["rows", "used"]) (a_round_in : FnAt K "round_in" "round_in" (top 21) ["rows", "left"]) (a_way_to : FnAt K "way_to" "way_to" (top 22) ["come", "key"]) (a_endless : FnAt K "endless" "endless" (top 23) ["book"]) (a_fill_ways : FnAt K "fill_ways" "fill_ways" (top 25) ["found", "spots", "sums", "total"]) (a_tally : FnAt K "tally" "tally" (top 26) ["book", "size"]) (a_many_of : FnAt K "many_of" "many_of" (top 27) ["book", "size"]) (a__law_cell_at : FnAt K "_law_cell_at" "_law_cell_at" (top 29) ["script", "k"]) (a__law_names : FnAt K "_law_names" "_law_names" (top 30) ["cell"]) (a__law_keys : FnAt K "_law_keys" "_law_keys" (top 31) ["cell", "many"]) (a__law_signs : FnAt K "_law_signs" "_law_signs" (top 32) ["cell"]) (a__law_shut : FnAt K "_law_shut" "_law_shut" (top 33) ["stack"]) (a__law_takes : FnAt K "_law_takes" "_law_takes" (top 34) ["kind", "name", "left"]) (a__law_lay : FnAt K "_law_lay" "_law_lay" (top 35) ["stack", "cell", "name", "names", "signs", "left"]) (a__law_name : FnAt K "_law_name" "_law_name" (top 36) ["names", "number", "own", "upward"]) (a__law_left : FnAt K "_law_left" "_law_left" (top 37) ["first", "graft", "name"]) (a__law_tree : FnAt K "_law_tree" "_law_tree" (top 38) ["cells", "graft", "own", "names", "signs", "upward"]) (a__law_book : FnAt K "_law_book" "_law_book" (top 39) ["script"]) (a__law_pieces : FnAt K "_law_pieces" "_law_pieces" (top 40) ["tree", "place", "found"]) (a__law_foot : FnAt K "_law_foot" "_law_foot" (top 41) ["tree"]) (a__law_where : FnAt K "_law_where" "_law_where" (top 42) ["book"]) (a__law_tops : FnAt K "_law_tops" "_law_tops" (top 43) ["book"]) (a__law_waits : FnAt K "_law_waits" "_law_waits" (top 44) ["rows", "known"]) (a__law_ending : FnAt K "_law_ending" "_law_ending" (top 45) ["where"]) (a__law_used : FnAt K "_law_used" "_law_used" (top 46) ["book", "where", "known"]) (a__law_whole : FnAt K "_law_whole" "_law_whole" (top 47) ["thing"]) (a__law_tried : FnAt K "_law_tried" "_law_tried" (top 48) ["book"]) (a__law_reached : FnAt K "_law_reached" "_law_reached" (top 49) ["where", "known", "keys"]) (a__law_rings : FnAt K "_law_rings" "_law_rings" (top 50) ["book", "where", "known"]) (a_law : FnAt K "law" "law" (top 51) ["script"]) (z_bool : PySem.W.nsIn K mainGlobals "bool" = some none) (z_enumerate : PySem.W.nsIn K mainGlobals "enumerate" = some none) (z_int : PySem.W.nsIn K mainGlobals "int" = some none) (z_isinstance : PySem.W.nsIn K mainGlobals "isinstance" = some none) (z_len : PySem.W.nsIn K mainGlobals "len" = some none) (z_list : PySem.W.nsIn K mainGlobals "list" = some none) (z_max : PySem.W.nsIn K mainGlobals "max" = some none) (z_min : PySem.W.nsIn K mainGlobals "min" = some none) (z_range : PySem.W.nsIn K mainGlobals "range" = some none) (z_sum : PySem.W.nsIn K mainGlobals "sum" = some none) (z_tuple : PySem.W.nsIn K mainGlobals "tuple" = some none)  (c_NoPlan : ClsAt K "NoPlan") (x_NoPlan_NoPlan : ExmAt K "NoPlan" "NoPlan" true) (k : Nat) :
    ∃ fd : FuncData, (∀ (s : Shared) (v : Value), BindsTo s fd ⟨[v], []⟩ [("script", v)]) ∧ ∀ base : Heap, L2.FnOk P w K mg base (L2.CX P w) k fa fd ["script"] (spF ⟨K, P, w, clOf K cs⟩ sub tbl k 43) := by
  refine law_at (ft := ft) (bs := bs) (gs := gs) (cs := cs) (sub := sub) (fd := ⟨1, 9, b_law⟩) X G hfa a_law sc_law rfl rfl m_law ?_ ?_ ?_ ?_ k 43 rfl
  · intro p hp
    simp only [ft, List.mem_cons, List.not_mem_nil, or_false] at hp
    rcases hp with rfl | rfl | rfl | rfl | rfl | rfl | rfl | rfl | rfl | rfl | rfl | rfl | rfl | rfl | rfl | rfl | rfl | rfl | rfl | rfl | rfl | rfl | rfl | rfl | rfl | rfl | rfl | rfl | rfl | rfl | rfl | rfl | rfl | rfl | rfl | rfl | rfl | rfl | rfl | rfl | rfl | rfl | rfl | rfl
    · exact a_pieces_in.t X G sc_pieces_in rfl rfl m_pieces_in
    · exact a_foot_in.t X G sc_foot_in rfl rfl m_foot_in
    · exact a_keys_by_name.t X G sc_keys_by_name rfl rfl m_keys_by_name
    · exact a_spots_in.t X G sc_spots_in rfl rfl m_spots_in
    · exact a_all_spots.t X G sc_all_spots rfl rfl m_all_spots
    · exact a_top_keys.t X G sc_top_keys rfl rfl m_top_keys
    · exact a_first_of.t X G sc_first_of rfl rfl m_first_of
    · exact a_fillings.t X G sc_fillings rfl rfl m_fillings
    · exact a_orders_built.t X G sc_orders_built rfl rfl m_orders_built
    · exact a_comings.t X G sc_comings rfl rfl m_comings
    · exact a_useful.t X G sc_useful rfl rfl m_useful
    · exact a_greatest_of.t X G sc_greatest_of rfl rfl m_greatest_of
    · exact a_height_of.t X G sc_height_of rfl rfl m_height_of
    · exact a_next_of.t X G sc_next_of rfl rfl m_next_of
    · exact a_heights_of.t X G sc_heights_of rfl rfl m_heights_of
    · exact a_round_in.t X G sc_round_in rfl rfl m_round_in
    · exact a_way_to.t X G sc_way_to rfl rfl m_way_to
    · exact a_endless.t X G sc_endless rfl rfl m_endless
    · exact a_fill_ways.t X G sc_fill_ways rfl rfl m_fill_ways
    · exact a_tally.t X G sc_tally rfl rfl m_tally
    · exact a_many_of.t X G sc_many_of rfl rfl m_many_of
    · exact a__law_cell_at.t X G sc__law_cell_at rfl rfl m__law_cell_at
    · exact a__law_names.t X G sc__law_names rfl rfl m__law_names
    · exact a__law_keys.t X G sc__law_keys rfl rfl m__law_keys
    · exact a__law_signs.t X G sc__law_signs rfl rfl m__law_signs
    · exact a__law_shut.t X G sc__law_shut rfl rfl m__law_shut
    · exact a__law_takes.t X G sc__law_takes rfl rfl m__law_takes
    · exact a__law_lay.t X G sc__law_lay rfl rfl m__law_lay
    · exact a__law_name.t X G sc__law_name rfl rfl m__law_name
    · exact a__law_left.t X G sc__law_left rfl rfl m__law_left
    · exact a__law_tree.t X G sc__law_tree rfl rfl m__law_tree
    · exact a__law_book.t X G sc__law_book rfl rfl m__law_book
    · exact a__law_pieces.t X G sc__law_pieces rfl rfl m__law_pieces
    · exact a__law_foot.t X G sc__law_foot rfl rfl m__law_foot
    · exact a__law_where.t X G sc__law_where rfl rfl m__law_where
    · exact a__law_tops.t X G sc__law_tops rfl rfl m__law_tops
    · exact a__law_waits.t X G sc__law_waits rfl rfl m__law_waits
    · exact a__law_ending.t X G sc__law_ending rfl rfl m__law_ending
    · exact a__law_used.t X G sc__law_used rfl rfl m__law_used
    · exact a__law_whole.t X G sc__law_whole rfl rfl m__law_whole
    · exact a__law_tried.t X G sc__law_tried rfl rfl m__law_tried
    · exact a__law_reached.t X G sc__law_reached rfl rfl m__law_reached
    · exact a__law_rings.t X G sc__law_rings rfl rfl m__law_rings
    · exact a_law.t X G sc_law rfl rfl m_law
  · intro x hx
    simp only [bs, List.mem_cons, List.not_mem_nil, or_false] at hx
    rcases hx with rfl | rfl | rfl | rfl | rfl | rfl | rfl | rfl | rfl | rfl | rfl
    · exact PySem.W.mg_none_of X G z_bool
    · exact PySem.W.mg_none_of X G z_enumerate
    · exact PySem.W.mg_none_of X G z_int
    · exact PySem.W.mg_none_of X G z_isinstance
    · exact PySem.W.mg_none_of X G z_len
    · exact PySem.W.mg_none_of X G z_list
    · exact PySem.W.mg_none_of X G z_max
    · exact PySem.W.mg_none_of X G z_min
    · exact PySem.W.mg_none_of X G z_range
    · exact PySem.W.mg_none_of X G z_sum
    · exact PySem.W.mg_none_of X G z_tuple
  · refine flat_gs fun p hp => ?_
    cases hp
  · refine cls_all (sub := sub) X G cs (fun c x e => ?_) (fun c x d y e1 e2 => ?_)
    · rcases lookup_cons_or e with ⟨rfl, rfl⟩ | e
      · exact c_NoPlan
      · cases e
    · have look : ∀ c x, cs.lookup c = some x → (c = 283 ∧ x = "NoPlan") := by
        intro c x e
        unfold cs at e
        rcases lookup_cons_or e with q | e
        · exact q
        cases e
      rcases look c x e1 with ⟨rfl, rfl⟩ <;> rcases look d y e2 with ⟨rfl, rfl⟩
      · exact x_NoPlan_NoPlan
end K73
set_option maxHeartbeats 4000000
theorem PySem.Challenge.cw_graftsay_k73_none_is_greater_holds : PySem.Challenge.rw_graftsay_k73_none_is_greater.Holds := by
  w_on; o_law; k_head; (case hw => w_witness2)
  k_fill
  refine VM.walk (l := PySem.Challenge.rw_graftsay_k73_none_is_greater) (cs := K73.cs) (sub := K73.sub) (tbl := K73.tbl) (k := K73.room) (f := 43) rfl rfl ⟨rfl, by decide, by decide⟩ (fun w h Y => PySem.W.kIn_of Y) ?F K73.law_ok
  case F =>
    intro w mg fa h KX G hmg
    refine K73.all_mk KX G hmg ?a_pieces_in ?a_foot_in ?a_keys_by_name ?a_spots_in ?a_all_spots ?a_top_keys ?a_first_of ?a_fillings ?a_orders_built ?a_comings ?a_useful ?a_greatest_of ?a_height_of ?a_next_of ?a_heights_of ?a_round_in ?a_way_to ?a_endless ?a_fill_ways ?a_tally ?a_many_of ?a__law_cell_at ?a__law_names ?a__law_keys ?a__law_signs ?a__law_shut ?a__law_takes ?a__law_lay ?a__law_name ?a__law_left ?a__law_tree ?a__law_book ?a__law_pieces ?a__law_foot ?a__law_where ?a__law_tops ?a__law_waits ?a__law_ending ?a__law_used ?a__law_whole ?a__law_tried ?a__law_reached ?a__law_rings ?a_law ?z_bool ?z_enumerate ?z_int ?z_isinstance ?z_len ?z_list ?z_max ?z_min ?z_range ?z_sum ?z_tuple ?c_NoPlan ?x_NoPlan_NoPlan K73.room
    case a_pieces_in =>
      refine' VM.fnAt_mk ?b_pieces_in ?c_pieces_in ?d_pieces_in ?e_pieces_in ?f_pieces_in
      case c_pieces_in => k_is
      case d_pieces_in => k_is
      case e_pieces_in => k_is
      case f_pieces_in => k_is
      case b_pieces_in => exact fun _ _ _ _ _ _ us hl => match us, hl with | [_, _], _ => rfl
    case a_foot_in =>
      refine' VM.fnAt_mk ?b_foot_in ?c_foot_in ?d_foot_in ?e_foot_in ?f_foot_in
      case c_foot_in => k_is
      case d_foot_in => k_is
      case e_foot_in => k_is
      case f_foot_in => k_is
      case b_foot_in => exact fun _ _ _ _ _ _ us hl => match us, hl with | [_], _ => rfl
    case a_keys_by_name =>
      refine' VM.fnAt_mk ?b_keys_by_name ?c_keys_by_name ?d_keys_by_name ?e_keys_by_name ?f_keys_by_name
      case c_keys_by_name => k_is
      case d_keys_by_name => k_is
      case e_keys_by_name => k_is
      case f_keys_by_name => k_is
      case b_keys_by_name => exact fun _ _ _ _ _ _ us hl => match us, hl with | [_], _ => rfl
    case a_spots_in =>
      refine' VM.fnAt_mk ?b_spots_in ?c_spots_in ?d_spots_in ?e_spots_in ?f_spots_in
      case c_spots_in => k_is
      case d_spots_in => k_is
      case e_spots_in => k_is
      case f_spots_in => k_is
      case b_spots_in => exact fun _ _ _ _ _ _ us hl => match us, hl with | [_, _], _ => rfl
    case a_all_spots =>
      refine' VM.fnAt_mk ?b_all_spots ?c_all_spots ?d_all_spots ?e_all_spots ?f_all_spots
      case c_all_spots => k_is
      case d_all_spots => k_is
      case e_all_spots => k_is
      case f_all_spots => k_is
      case b_all_spots => exact fun _ _ _ _ _ _ us hl => match us, hl with | [_], _ => rfl
    case a_top_keys =>
      refine' VM.fnAt_mk ?b_top_keys ?c_top_keys ?d_top_keys ?e_top_keys ?f_top_keys
      case c_top_keys => k_is
      case d_top_keys => k_is
      case e_top_keys => k_is
      case f_top_keys => k_is
      case b_top_keys => exact fun _ _ _ _ _ _ us hl => match us, hl with | [_], _ => rfl
    case a_first_of =>
      refine' VM.fnAt_mk ?b_first_of ?c_first_of ?d_first_of ?e_first_of ?f_first_of
      case c_first_of => k_is
      case d_first_of => k_is
      case e_first_of => k_is
      case f_first_of => k_is
      case b_first_of => exact fun _ _ _ _ _ _ us hl => match us, hl with | [_, _], _ => rfl
    case a_fillings =>
      refine' VM.fnAt_mk ?b_fillings ?c_fillings ?d_fillings ?e_fillings ?f_fillings
      case c_fillings => k_is
      case d_fillings => k_is
      case e_fillings => k_is
      case f_fillings => k_is
      case b_fillings => exact fun _ _ _ _ _ _ us hl => match us, hl with | [_, _], _ => rfl
    case a_orders_built =>
      refine' VM.fnAt_mk ?b_orders_built ?c_orders_built ?d_orders_built ?e_orders_built ?f_orders_built
      case c_orders_built => k_is
      case d_orders_built => k_is
      case e_orders_built => k_is
      case f_orders_built => k_is
      case b_orders_built => exact fun _ _ _ _ _ _ us hl => match us, hl with | [_, _], _ => rfl
    case a_comings =>
      refine' VM.fnAt_mk ?b_comings ?c_comings ?d_comings ?e_comings ?f_comings
      case c_comings => k_is
      case d_comings => k_is
      case e_comings => k_is
      case f_comings => k_is
      case b_comings => exact fun _ _ _ _ _ _ us hl => match us, hl with | [_, _, _], _ => rfl
    case a_useful =>
      refine' VM.fnAt_mk ?b_useful ?c_useful ?d_useful ?e_useful ?f_useful
      case c_useful => k_is
      case d_useful => k_is
      case e_useful => k_is
      case f_useful => k_is
      case b_useful => exact fun _ _ _ _ _ _ us hl => match us, hl with | [_], _ => rfl
    case a_greatest_of =>
      refine' VM.fnAt_mk ?b_greatest_of ?c_greatest_of ?d_greatest_of ?e_greatest_of ?f_greatest_of
      case c_greatest_of => k_is
      case d_greatest_of => k_is
      case e_greatest_of => k_is
      case f_greatest_of => k_is
      case b_greatest_of => exact fun _ _ _ _ _ _ us hl => match us, hl with | [_, _], _ => rfl
    case a_height_of =>
      refine' VM.fnAt_mk ?b_height_of ?c_height_of ?d_height_of ?e_height_of ?f_height_of
      case c_height_of => k_is
      case d_height_of => k_is
      case e_height_of => k_is
      case f_height_of => k_is
      case b_height_of => exact fun _ _ _ _ _ _ us hl => match us, hl with | [_, _], _ => rfl
    case a_next_of =>
      refine' VM.fnAt_mk ?b_next_of ?c_next_of ?d_next_of ?e_next_of ?f_next_of
      case c_next_of => k_is
      case d_next_of => k_is
      case e_next_of => k_is
      case f_next_of => k_is
      case b_next_of => exact fun _ _ _ _ _ _ us hl => match us, hl with | [_, _], _ => rfl
    case a_heights_of =>
      refine' VM.fnAt_mk ?b_heights_of ?c_heights_of ?d_heights_of ?e_heights_of ?f_heights_of
      case c_heights_of => k_is
      case d_heights_of => k_is
      case e_heights_of => k_is
      case f_heights_of => k_is
      case b_heights_of => exact fun _ _ _ _ _ _ us hl => match us, hl with | [_, _], _ => rfl
    case a_round_in =>
      refine' VM.fnAt_mk ?b_round_in ?c_round_in ?d_round_in ?e_round_in ?f_round_in
      case c_round_in => k_is
      case d_round_in => k_is
      case e_round_in => k_is
      case f_round_in => k_is
      case b_round_in => exact fun _ _ _ _ _ _ us hl => match us, hl with | [_, _], _ => rfl
    case a_way_to =>
      refine' VM.fnAt_mk ?b_way_to ?c_way_to ?d_way_to ?e_way_to ?f_way_to
      case c_way_to => k_is
      case d_way_to => k_is
      case e_way_to => k_is
      case f_way_to => k_is
      case b_way_to => exact fun _ _ _ _ _ _ us hl => match us, hl with | [_, _], _ => rfl
    case a_endless =>
      refine' VM.fnAt_mk ?b_endless ?c_endless ?d_endless ?e_endless ?f_endless
      case c_endless => k_is
      case d_endless => k_is
      case e_endless => k_is
      case f_endless => k_is
      case b_endless => exact fun _ _ _ _ _ _ us hl => match us, hl with | [_], _ => rfl
    case a_fill_ways =>
      refine' VM.fnAt_mk ?b_fill_ways ?c_fill_ways ?d_fill_ways ?e_fill_ways ?f_fill_ways
      case c_fill_ways => k_is
      case d_fill_ways => k_is
      case e_fill_ways => k_is
      case f_fill_ways => k_is
      case b_fill_ways => exact fun _ _ _ _ _ _ us hl => match us, hl with | [_, _, _, _], _ => rfl
    case a_tally =>
      refine' VM.fnAt_mk ?b_tally ?c_tally ?d_tally ?e_tally ?f_tally
      case c_tally => k_is
      case d_tally => k_is
      case e_tally => k_is
      case f_tally => k_is
      case b_tally => exact fun _ _ _ _ _ _ us hl => match us, hl with | [_, _], _ => rfl
    case a_many_of =>
      refine' VM.fnAt_mk ?b_many_of ?c_many_of ?d_many_of ?e_many_of ?f_many_of
      case c_many_of => k_is
      case d_many_of => k_is
      case e_many_of => k_is
      case f_many_of => k_is
      case b_many_of => exact fun _ _ _ _ _ _ us hl => match us, hl with | [_, _], _ => rfl
    case a__law_cell_at =>
      refine' VM.fnAt_mk ?b__law_cell_at ?c__law_cell_at ?d__law_cell_at ?e__law_cell_at ?f__law_cell_at
      case c__law_cell_at => k_is
      case d__law_cell_at => k_is
      case e__law_cell_at => k_is
      case f__law_cell_at => k_is
      case b__law_cell_at => exact fun _ _ _ _ _ _ us hl => match us, hl with | [_, _], _ => rfl
    case a__law_names =>
      refine' VM.fnAt_mk ?b__law_names ?c__law_names ?d__law_names ?e__law_names ?f__law_names
      case c__law_names => k_is
      case d__law_names => k_is
      case e__law_names => k_is
      case f__law_names => k_is
      case b__law_names => exact fun _ _ _ _ _ _ us hl => match us, hl with | [_], _ => rfl
    case a__law_keys =>
      refine' VM.fnAt_mk ?b__law_keys ?c__law_keys ?d__law_keys ?e__law_keys ?f__law_keys
      case c__law_keys => k_is
      case d__law_keys => k_is
      case e__law_keys => k_is
      case f__law_keys => k_is
      case b__law_keys => exact fun _ _ _ _ _ _ us hl => match us, hl with | [_, _], _ => rfl
    case a__law_signs =>
      refine' VM.fnAt_mk ?b__law_signs ?c__law_signs ?d__law_signs ?e__law_signs ?f__law_signs
      case c__law_signs => k_is
      case d__law_signs => k_is
      case e__law_signs => k_is
      case f__law_signs => k_is
      case b__law_signs => exact fun _ _ _ _ _ _ us hl => match us, hl with | [_], _ => rfl
    case a__law_shut =>
      refine' VM.fnAt_mk ?b__law_shut ?c__law_shut ?d__law_shut ?e__law_shut ?f__law_shut
      case c__law_shut => k_is
      case d__law_shut => k_is
      case e__law_shut => k_is
      case f__law_shut => k_is
      case b__law_shut => exact fun _ _ _ _ _ _ us hl => match us, hl with | [_], _ => rfl
    case a__law_takes =>
      refine' VM.fnAt_mk ?b__law_takes ?c__law_takes ?d__law_takes ?e__law_takes ?f__law_takes
      case c__law_takes => k_is
      case d__law_takes => k_is
      case e__law_takes => k_is
      case f__law_takes => k_is
      case b__law_takes => exact fun _ _ _ _ _ _ us hl => match us, hl with | [_, _, _], _ => rfl
    case a__law_lay =>
      refine' VM.fnAt_mk ?b__law_lay ?c__law_lay ?d__law_lay ?e__law_lay ?f__law_lay
      case c__law_lay => k_is
      case d__law_lay => k_is
      case e__law_lay => k_is
      case f__law_lay => k_is
      case b__law_lay => exact fun _ _ _ _ _ _ us hl => match us, hl with | [_, _, _, _, _, _], _ => rfl
    case a__law_name =>
      refine' VM.fnAt_mk ?b__law_name ?c__law_name ?d__law_name ?e__law_name ?f__law_name
      case c__law_name => k_is
      case d__law_name => k_is
      case e__law_name => k_is
      case f__law_name => k_is
      case b__law_name => exact fun _ _ _ _ _ _ us hl => match us, hl with | [_, _, _, _], _ => rfl
    case a__law_left =>
      refine' VM.fnAt_mk ?b__law_left ?c__law_left ?d__law_left ?e__law_left ?f__law_left
      case c__law_left => k_is
      case d__law_left => k_is
      case e__law_left => k_is
      case f__law_left => k_is
      case b__law_left => exact fun _ _ _ _ _ _ us hl => match us, hl with | [_, _, _], _ => rfl
    case a__law_tree =>
      refine' VM.fnAt_mk ?b__law_tree ?c__law_tree ?d__law_tree ?e__law_tree ?f__law_tree
      case c__law_tree => k_is
      case d__law_tree => k_is
      case e__law_tree => k_is
      case f__law_tree => k_is
      case b__law_tree => exact fun _ _ _ _ _ _ us hl => match us, hl with | [_, _, _, _, _, _], _ => rfl
    case a__law_book =>
      refine' VM.fnAt_mk ?b__law_book ?c__law_book ?d__law_book ?e__law_book ?f__law_book
      case c__law_book => k_is
      case d__law_book => k_is
      case e__law_book => k_is
      case f__law_book => k_is
      case b__law_book => exact fun _ _ _ _ _ _ us hl => match us, hl with | [_], _ => rfl
    case a__law_pieces =>
      refine' VM.fnAt_mk ?b__law_pieces ?c__law_pieces ?d__law_pieces ?e__law_pieces ?f__law_pieces
      case c__law_pieces => k_is
      case d__law_pieces => k_is
      case e__law_pieces => k_is
      case f__law_pieces => k_is
      case b__law_pieces => exact fun _ _ _ _ _ _ us hl => match us, hl with | [_, _, _], _ => rfl
    case a__law_foot =>
      refine' VM.fnAt_mk ?b__law_foot ?c__law_foot ?d__law_foot ?e__law_foot ?f__law_foot
      case c__law_foot => k_is
      case d__law_foot => k_is
      case e__law_foot => k_is
      case f__law_foot => k_is
      case b__law_foot => exact fun _ _ _ _ _ _ us hl => match us, hl with | [_], _ => rfl
    case a__law_where =>
      refine' VM.fnAt_mk ?b__law_where ?c__law_where ?d__law_where ?e__law_where ?f__law_where
      case c__law_where => k_is
      case d__law_where => k_is
      case e__law_where => k_is
      case f__law_where => k_is
      case b__law_where => exact fun _ _ _ _ _ _ us hl => match us, hl with | [_], _ => rfl
    case a__law_tops =>
      refine' VM.fnAt_mk ?b__law_tops ?c__law_tops ?d__law_tops ?e__law_tops ?f__law_tops
      case c__law_tops => k_is
      case d__law_tops => k_is
      case e__law_tops => k_is
      case f__law_tops => k_is
      case b__law_tops => exact fun _ _ _ _ _ _ us hl => match us, hl with | [_], _ => rfl
    case a__law_waits =>
      refine' VM.fnAt_mk ?b__law_waits ?c__law_waits ?d__law_waits ?e__law_waits ?f__law_waits
      case c__law_waits => k_is
      case d__law_waits => k_is
      case e__law_waits => k_is
      case f__law_waits => k_is
      case b__law_waits => exact fun _ _ _ _ _ _ us hl => match us, hl with | [_, _], _ => rfl
    case a__law_ending =>
      refine' VM.fnAt_mk ?b__law_ending ?c__law_ending ?d__law_ending ?e__law_ending ?f__law_ending
      case c__law_ending => k_is
      case d__law_ending => k_is
      case e__law_ending => k_is
      case f__law_ending => k_is
      case b__law_ending => exact fun _ _ _ _ _ _ us hl => match us, hl with | [_], _ => rfl
    case a__law_used =>
      refine' VM.fnAt_mk ?b__law_used ?c__law_used ?d__law_used ?e__law_used ?f__law_used
      case c__law_used => k_is
      case d__law_used => k_is
      case e__law_used => k_is
      case f__law_used => k_is
      case b__law_used => exact fun _ _ _ _ _ _ us hl => match us, hl with | [_, _, _], _ => rfl
    case a__law_whole =>
      refine' VM.fnAt_mk ?b__law_whole ?c__law_whole ?d__law_whole ?e__law_whole ?f__law_whole
      case c__law_whole => k_is
      case d__law_whole => k_is
      case e__law_whole => k_is
      case f__law_whole => k_is
      case b__law_whole => exact fun _ _ _ _ _ _ us hl => match us, hl with | [_], _ => rfl
    case a__law_tried =>
      refine' VM.fnAt_mk ?b__law_tried ?c__law_tried ?d__law_tried ?e__law_tried ?f__law_tried
      case c__law_tried => k_is
      case d__law_tried => k_is
      case e__law_tried => k_is
      case f__law_tried => k_is
      case b__law_tried => exact fun _ _ _ _ _ _ us hl => match us, hl with | [_], _ => rfl
    case a__law_reached =>
      refine' VM.fnAt_mk ?b__law_reached ?c__law_reached ?d__law_reached ?e__law_reached ?f__law_reached
      case c__law_reached => k_is
      case d__law_reached => k_is
      case e__law_reached => k_is
      case f__law_reached => k_is
      case b__law_reached => exact fun _ _ _ _ _ _ us hl => match us, hl with | [_, _, _], _ => rfl
    case a__law_rings =>
      refine' VM.fnAt_mk ?b__law_rings ?c__law_rings ?d__law_rings ?e__law_rings ?f__law_rings
      case c__law_rings => k_is
      case d__law_rings => k_is
      case e__law_rings => k_is
      case f__law_rings => k_is
      case b__law_rings => exact fun _ _ _ _ _ _ us hl => match us, hl with | [_, _, _], _ => rfl
    case a_law =>
      refine' VM.fnAt_mk ?b_law ?c_law ?d_law ?e_law ?f_law
      case c_law => k_is
      case d_law => k_is
      case e_law => k_is
      case f_law => k_is
      case b_law => exact fun _ _ _ _ _ _ us hl => match us, hl with | [_], _ => rfl
    case z_bool => k_is
    case z_enumerate => k_is
    case z_int => k_is
    case z_isinstance => k_is
    case z_len => k_is
    case z_list => k_is
    case z_max => k_is
    case z_min => k_is
    case z_range => k_is
    case z_sum => k_is
    case z_tuple => k_is
    case c_NoPlan =>
      refine' VM.clsAt_mk ?b_NoPlan ?c_NoPlan ?d_NoPlan ?e_NoPlan ?f_NoPlan
      case b_NoPlan => k_is
      case c_NoPlan => k_is
      case d_NoPlan => k_exc
      case e_NoPlan => k_is
      case f_NoPlan => k_is
    case x_NoPlan_NoPlan =>
      refine' VM.exmAt_mk ?b_NoPlan_NoPlan ?c_NoPlan_NoPlan ?d_NoPlan_NoPlan
      case b_NoPlan_NoPlan => k_is
      case c_NoPlan_NoPlan => k_is
      case d_NoPlan_NoPlan => kts_exm
