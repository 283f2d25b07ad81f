import PyProof.Rows.All
import Wide.All
import OpenK.AllK
import Wide.FinOn
import HandS.ForMost
import HandS.TupAny
import HandS.Style
import HandS.ForExc
import HandS.StrMore
import HandS.RevTup
import HandS.TupMul
import HandS.Small
import KE.GoesEnum
import KE.DataEq
import HandS.More
import HandS.IsInst
import HandS.Zip
import KE.KRevSl
import HandS.Conv
import HandS.Ends
import PySem.Challenge.RW_graftsay_k87_one_side
set_option Elab.async false
set_option linter.all false
set_option maxRecDepth 100000
set_option maxHeartbeats 4000000
/-! VA: a small language of values and a store, what its programs do. -/
namespace VM
open PySem

inductive D where
  | non | bl (b : Bool) | int (i : Int) | str (x : Str) | tup (ds : List D) | ref (n : Nat) | fz (ds : List D)

inductive O where
  | lst (ds : List D)
  | dic (kvs : List (L2.Key × D))
  | dit (kvs : List (List L2.Key × D))
  | ins (c : Nat) (fs : List (Str × D))

abbrev Sto := List O
abbrev Rho := List (Option D)

inductive Rs (α : Type) where
  | ok (a : α) (S : Sto)
  | ex (c : Nat) (xs : List D) (S : Sto)
abbrev Out (α : Type) := Option (Rs α)
def ok {α : Type} (a : α) (S : Sto) : Out α := some (.ok a S)
def bd {α β : Type} (m : Out α) (f : α → Sto → Out β) : Out β :=
  match m with
  | none => none
  | some (.ok a S) => f a S
  | some (.ex c xs S) => some (.ex c xs S)

inductive Op2 where | add | sub | mul | fdiv | mod | pow
inductive Cm where | eq | ne | lt | le | gt | ge | is | isnot | inn | notin
inductive Bi where | len | tuple | list | sum | all | any
inductive Bm where | append | insert
inductive Sm where | lower | upper
inductive Ty where | int | bool | str | tuple | list
inductive Tg where | nm (i : Nat) | tp (is : List Nat)

mutual
inductive E where
  | var (i : Nat)
  | non | bl (b : Bool) | int (i : Int) | str (x : Str)
  | gc (x : Str) (d : D)
  | tup (es : Es) | lst (es : Es)
  | bin (op : Op2) (a b : E)
  | neg (a : E)
  | cmp (op : Cm) (a b : E)
  | chain (op op' : Cm) (a b c : E)
  | and (a b : E) | or (a b : E) | one (a : E) | not (a : E)
  | ite (c : T) (a b : E)
  | idx (a i : E)
  | sl (a : E) (lo hi : P)
  | rev (a : E)
  | call (f : Nat) (es : Es)
  | bi (b : Bi) (es : Es)
  | bm (m : Bm) (o : E) (es : Es)
  | isi (a : E) (t : Ty)
  | lrg (a : E)
  | dnk | dnt
  | disp (ks : List Str) (es : Es)
  | get1 (d k : E) | get2 (d k x : E)
  | sm (m : Sm) (a : E)
  | strip1 (a b : E)
  | lc (elt : E) (tg : Tg) (it : I) (c : T) (own : List (Str × Nat))
inductive Es where
  | nil | cons (e : E) (es : Es)
/-- a slice's part -/
inductive P where
  | no | e (e : E)
/-- a test -/
inductive T where
  | yes
  | v (e : E)
  | cmp (op : Cm) (a b : E)
  | chain (op op' : Cm) (a b c : E)
  | not (t : T)
  | and (a b : T) | or (a b : T) | one (a : T)
/-- what is walked -/
inductive I where
  | seq (e : E)
  | rng1 (a : E)
  | rng2 (a b : E)
  | enum (a : E)
  | zip (a b : E)
end

mutual
inductive C where
  | pass | brk | cnt | dead
  | set (i : Nat) (e : E)
  | asg (tg : Tg) (e : E)
  | aug (i : Nat) (op : Op2) (e : E)
  | seti (o i e : E)
  | ex (e : E)
  | ret (e : E) | retn
  | ife (c : T) (a b : Cs)
  | whl (c : T) (b : Cs)
  | for_ (tg : Tg) (it : I) (b : Cs)
inductive Cs where
  | nil | cons (c : C) (cs : Cs)
end

/-! ### values -/
mutual
def pd : D → Option PyData
  | .non => some .none
  | .bl b => some (.bool b)
  | .int i => some (.int i)
  | .str x => some (.str x)
  | .tup ds => (pds ds).map .tuple
  | .fz ds => (pds ds).map .list
  | .ref _ => none
def pds : List D → Option (List PyData)
  | [] => some []
  | d :: ds => match pd d, pds ds with
    | some p, some ps => some (p :: ps)
    | _, _ => none
end
def mapO (f : D → Option PyData) : List D → Option (List PyData)
  | [] => some []
  | d :: ds => match f d, mapO f ds with
    | some p, some ps => some (p :: ps)
    | _, _ => none
/-- as data, lists read off the store -/
def toP (S : Sto) : Nat → D → Option PyData
  | _, .non => some .none
  | _, .bl b => some (.bool b)
  | _, .int i => some (.int i)
  | _, .str x => some (.str x)
  | n + 1, .tup ds => (mapO (toP S n) ds).map .tuple
  | n + 1, .fz ds => (mapO (toP S n) ds).map .list
  | n + 1, .ref k => match S[k]? with
    | some (.lst ds) => (mapO (toP S n) ds).map .list
    | _ => none
  | 0, _ => none

def eqD (x y : D) (S : Sto) : Option Bool :=
  match toP S 150 x, toP S 150 y with
  | some a, some b => some (PyData.eqv a b)
  | _, _ => none
/-! ### keys -/
def keyD : D → Option L2.Key
  | .int i => some (.inl i)
  | .str x => some (.inr x)
  | _ => none
def keysD : List D → Option (List L2.Key)
  | [] => some []
  | d :: ds => match keyD d, keysD ds with
    | some k, some ks => some (k :: ks)
    | _, _ => none
def tkD : D → Option (List L2.Key)
  | .tup ds => keysD ds
  | _ => none
section
variable {κ : Type} [DecidableEq κ]
def lkD (kvs : List (κ × D)) (k : κ) : Option D := (kvs.find? fun kv => decide (kv.1 = k)).map (·.2)
def putD (kvs : List (κ × D)) (k : κ) (v : D) : List (κ × D) :=
  if (kvs.any fun kv => decide (kv.1 = k)) = true then kvs.map (fun kv => if kv.1 = k then (kv.1, v) else kv) else kvs ++ [(k, v)]
end
/-- what a dict has at a key; the outer none: no dict, or no key of its kind -/
def dgetD (S : Sto) (n : Nat) (k : D) : Option (Option D) := match S[n]? with
  | some (.dic kvs) => (keyD k).map (lkD kvs)
  | some (.dit kvs) => (tkD k).map (lkD kvs)
  | _ => none
def dputD (S : Sto) (n : Nat) (k v : D) : Option Sto := match S[n]? with
  | some (.dic kvs) => match keyD k with
    | some k => if kvs.length < sizeLine then some (S.set n (.dic (putD kvs k v))) else none
    | none => none
  | some (.dit kvs) => match tkD k with
    | some k => if kvs.length < sizeLine then some (S.set n (.dit (putD kvs k v))) else none
    | none => none
  | _ => none
def itemsOf (S : Sto) : D → Option (List D)
  | .tup ds => some ds
  | .fz ds => some ds
  | .ref n => match S[n]? with
    | some (.lst ds) => some ds
    | _ => none
  | _ => none
def inD (x y : D) (S : Sto) : Option Bool :=
  match x, y with
  | .str i, .str j => match i.cps.toList with
    | [c] => some (decide (c ∈ j.cps.toList))
    | _ => none
  | x, .ref n => match S[n]? with
    | some (.lst ds) => match toP S 150 x, mapO (toP S 149) ds with
      | some a, some bs => some (bs.any fun b => PyData.eqv b a)
      | _, _ => none
    | _ => (dgetD S n x).map Option.isSome
  | _, _ => match toP S 150 x, toP S 150 y with
    | some a, some (.tuple bs) => some (bs.any fun b => PyData.eqv b a)
    | some a, some (.list bs) => some (bs.any fun b => PyData.eqv b a)
    | _, _ => none
def copB (op : Cm) (x y : D) (S : Sto) : Option Bool :=
  match op with
  | .eq => eqD x y S
  | .ne => (eqD x y S).map (!·)
  | .lt => match x, y with | .int i, .int j => some (decide (i < j)) | _, _ => none
  | .le => match x, y with | .int i, .int j => some (decide (i ≤ j)) | _, _ => none
  | .gt => match x, y with | .int i, .int j => some (decide (j < i)) | _, _ => none
  | .ge => match x, y with | .int i, .int j => some (decide (j ≤ i)) | _, _ => none
  | .is => match y with | .non => some (match x with | .non => true | _ => false) | _ => none
  | .isnot => match y with | .non => some (match x with | .non => false | _ => true) | _ => none
  | .inn => inD x y S
  | .notin => (inD x y S).map (!·)
def lift (o : Option Bool) (S : Sto) : Out D := match o with
  | some b => ok (.bl b) S
  | none => none
def cop (op : Cm) (x y : D) (S : Sto) : Out D := lift (copB op x y S) S
def cutL {α : Type} (xs : List α) (lo hi : Option Int) : List α := (xs.drop (HT.sIx xs.length 0 lo)).take (HT.sIx xs.length xs.length hi - HT.sIx xs.length 0 lo)
def bop (op : Op2) (x y : D) (S : Sto) : Out D :=
  match op, x, y with
  | .add, .int i, .int j => ok (.int (i + j)) S
  | .sub, .int i, .int j => ok (.int (i - j)) S
  | .mul, .int i, .int j => if (-(2 ^ 64) < i ∧ i < 2 ^ 64) ∨ (-(2 ^ 64) < j ∧ j < 2 ^ 64) then ok (.int (i * j)) S else none
  | .fdiv, .int i, .int j => if 0 < j ∧ j < 1073741824 then ok (.int (i / j)) S else none
  | .mod, .int i, .int j => if 0 < j then ok (.int (i % j)) S else none
  | .pow, .int i, .int j => if 0 ≤ j ∧ j ≤ 1000000 ∧ i.natAbs < 2 ^ 64 then ok (.int (i ^ j.toNat)) S else none
  | .add, .str a, .str b => if a.length + b.length ≤ sizeLine then ok (.str (a ++ b)) S else none
  | .add, .tup a, .tup b => if a.length + b.length ≤ sizeLine then ok (.tup (a ++ b)) S else none
  | .add, .ref a, .ref b => match S[a]?, S[b]? with
    | some (.lst xs), some (.lst ys) => if xs.length + ys.length ≤ sizeLine then ok (.ref S.length) (S ++ [.lst (xs ++ ys)]) else none
    | _, _ => none
  | .mul, .tup a, .int k => if a ≠ [] ∧ 2 ≤ k ∧ k ≤ 1000 ∧ a.length ≤ 1000 then ok (.tup (List.replicate k.toNat a).flatten) S else none
  | .mul, .str a, .int k => if 0 ≤ k ∧ k ≤ 1000 ∧ a.length ≤ 1000 then ok (.str ⟨(List.replicate k.toNat a.cps.toList).flatten.toArray⟩) S else none
  | _, _, _ => none
def augD (op : Op2) (x y : D) (S : Sto) : Out D :=
  match op, x, y with
  | .add, .int i, .int j => ok (.int (i + j)) S
  | .sub, .int i, .int j => ok (.int (i - j)) S
  | _, _, _ => none
def tru (x : D) (S : Sto) : Option Bool :=
  match x with
  | .non => some false
  | .bl b => some b
  | .int i => some (i != 0)
  | .str z => if z.length ≤ sizeLine then some ((z.length : Int) != 0) else none
  | .tup ds => some (!ds.isEmpty)
  | .fz ds => some (!ds.isEmpty)
  | .ref n => match S[n]? with
    | some (.lst ds) => some (!ds.isEmpty)
    | _ => none
def liftB (o : Option Bool) (S : Sto) : Out Bool := match o with
  | some b => ok b S
  | none => none
def idxD (x i : D) (S : Sto) : Out D :=
  match x, i with
  | .str z, .int i => if z.length ≤ sizeLine then (match L2.atI z.cps.toList i with | some c => ok (.str ⟨#[c]⟩) S | none => none) else none
  | .tup ds, .int i => (match L2.atI ds i with | some d => ok d S | none => none)
  | .fz ds, .int i => (match L2.atI ds i with | some d => ok d S | none => none)
  | .ref n, .int i => match S[n]? with
    | some (.lst ds) => (match L2.atI ds i with | some d => ok d S | none => none)
    | _ => none
  | .ref n, i => (match dgetD S n i with | some (some d) => ok d S | _ => none)
  | _, _ => none
def slD (x : D) (lo hi : Option Int) (S : Sto) : Out D :=
  match x with
  | .str z => if z.length ≤ sizeLine then ok (.str (L2.cutS z lo hi)) S else none
  | .tup ds => ok (.tup (cutL ds lo hi)) S
  | x => match itemsOf S x with
    | some ds => ok (.ref S.length) (S ++ [.lst (cutL ds lo hi)])
    | none => none
def revD (x : D) (S : Sto) : Out D :=
  match x with
  | .tup ds => ok (.tup ds.reverse) S
  | x => match itemsOf S x with
    | some ds => ok (.ref S.length) (S ++ [.lst ds.reverse])
    | none => none
def lenD (x : D) (S : Sto) : Out D :=
  match x with
  | .str z => if z.length ≤ sizeLine then ok (.int z.length) S else none
  | x => match itemsOf S x with
    | some ds => ok (.int ds.length) S
    | none => none
def biD (b : Bi) (ds : List D) (S : Sto) : Out D :=
  match b, ds with
  | .len, [x] => lenD x S
  | .tuple, [.tup ds] => ok (.tup ds) S
  | .tuple, [x] => match itemsOf S x with
    | some ds => ok (.tup ds) S
    | none => none
  | .list, [x] => match itemsOf S x with
    | some ds => ok (.ref S.length) (S ++ [.lst ds])
    | none => none
  | _, _ => none
def bmD (m : Bm) (o : D) (ds : List D) (S : Sto) : Out D :=
  match m, o, ds with
  | .append, .ref n, [x] => match S[n]? with
    | some (.lst xs) => if xs.length < sizeLine then ok .non (S.set n (.lst (xs ++ [x]))) else none
    | _ => none
  | .insert, .ref n, [.int i, x] => match S[n]? with
    | some (.lst xs) => if xs.length < sizeLine ∧ 0 ≤ i ∧ i < 2 ^ 63 then ok .non (S.set n (.lst (xs.take i.toNat ++ x :: xs.drop i.toNat))) else none
    | _ => none
  | _, _, _ => none
def smD (m : Sm) (x : D) (S : Sto) : Out D := match m, x with
  | .lower, .str z => if z.length ≤ 5592405 then ok (.str (Txt.lower z)) S else none
  | .upper, .str z => if z.length ≤ 5592405 then ok (.str (Txt.upper z)) S else none
  | _, _ => none
def stripD (x y : D) (S : Sto) : Out D := match x, y with
  | .str a, .str b => if a.length ≤ sizeLine then ok (.str (Txt.stripChars a b)) S else none
  | _, _ => none
def disD (ks : List Str) (ds : List D) : List (L2.Key × D) := (ks.zip ds).foldl (fun acc kv => putD acc (.inr kv.1) kv.2) []
def bmTy (m : Bm) (x : D) (S : Sto) : Bool :=
  match m with
  | _ => match x with
    | .ref n => match S[n]? with
      | some (.lst _) => true
      | _ => false
    | _ => false
inductive Kd where | non | bool | int | str | tuple | list
def kdOf (x : D) (S : Sto) : Option Kd :=
  match x with
  | .non => some .non
  | .bl _ => some .bool
  | .int _ => some .int
  | .str _ => some .str
  | .tup _ => some .tuple
  | .fz _ => some .list
  | .ref n => match S[n]? with
    | some (.lst _) => some .list
    | _ => none
def isKd : Ty → Kd → Bool
  | .int, .int => true | .int, .bool => true | .bool, .bool => true | .str, .str => true | .tuple, .tuple => true | .list, .list => true
  | _, _ => false
def isiD (t : Ty) (x : D) (S : Sto) : Option Bool := (kdOf x S).map (isKd t)

/-! ### walks -/
/-- how a list that may change is walked: its items, its items with their places, beside a tuple's -/
inductive Dm where
  | plain | enum | zip (fs : List D) (len : Nat)
def dynAt (m : Dm) (ds : List D) (i : Nat) : Option (Option D) := match m with
  | .plain => some ds[i]?
  | .enum => some (ds[i]?.map fun d => .tup [.int i, d])
  | .zip fs len => if ds.length = len then some (match fs[i]?, ds[i]? with | some a, some b => some (.tup [a, b]) | _, _ => none) else none
inductive It where
  | fix (ds : List D)
  | dyn (n : Nat) (m : Dm)
/-- a step: on with a, or the end with b -/
def foldF {α β : Type} (f : D → α → Sto → Out (α ⊕ β)) : List D → α → Sto → Out (α ⊕ β)
  | [], a, S => ok (.inl a) S
  | d :: ds, a, S => bd (f d a S) fun r S1 => match r with
    | .inl a' => foldF f ds a' S1
    | .inr b => ok (.inr b) S1
def foldR {α β : Type} (f : D → α → Sto → Out (α ⊕ β)) (n : Nat) (w : Dm) (i : Nat) (a : α) (S : Sto) : Out (α ⊕ β) :=
  match S[n]? with
  | some (.lst ds) =>
    match dynAt w ds i with
    | none => none
    | some none => some (.ok (.inl a) S)
    | some (some d) => match f d a S with
      | none => none
      | some (.ex c xs S1) => some (.ex c xs S1)
      | some (.ok (.inr b) S1) => some (.ok (.inr b) S1)
      | some (.ok (.inl a') S1) => foldR f n w (i + 1) a' S1
  | _ => none
partial_fixpoint
def foldI {α β : Type} (f : D → α → Sto → Out (α ⊕ β)) (it : It) (a : α) (S : Sto) : Out (α ⊕ β) :=
  match it with
  | .fix ds => foldF f ds a S
  | .dyn n w => foldR f n w 0 a S
def setMany : List Nat → List D → Rho → Option Rho
  | [], [], ρ => some ρ
  | i :: is, d :: ds, ρ => setMany is ds (ρ.set i (some d))
  | _, _, _ => none
def bindT (tg : Tg) (d : D) (ρ : Rho) : Option Rho :=
  match tg with
  | .nm i => some (ρ.set i (some d))
  | .tp is => match d with
    | .tup ds => setMany is ds ρ
    | _ => none
def wipeR (ρ : Rho) : List Nat → Rho
  | [] => ρ
  | v :: vs => (wipeR ρ vs).set v none
inductive Fl where
  | nx (ρ : Rho) | brk (ρ : Rho) | cnt (ρ : Rho) | ret (d : D)
def whileL (c : Rho → Sto → Out Bool) (b : Rho → Sto → Out Fl) (ρ : Rho) (S : Sto) : Out Fl :=
  match c ρ S with
  | none => none
  | some (.ex x xs S1) => some (.ex x xs S1)
  | some (.ok false S1) => some (.ok (.nx ρ) S1)
  | some (.ok true S1) => match b ρ S1 with
    | none => none
    | some (.ex x xs S2) => some (.ex x xs S2)
    | some (.ok (.nx ρ') S2) => whileL c b ρ' S2
    | some (.ok (.cnt ρ') S2) => whileL c b ρ' S2
    | some (.ok (.brk ρ') S2) => some (.ok (.nx ρ') S2)
    | some (.ok (.ret d) S2) => some (.ok (.ret d) S2)
partial_fixpoint
/-- a for's turn, by what the body does -/
def forStep (tg : Tg) (b : Rho → Sto → Out Fl) (d : D) (ρ : Rho) (S : Sto) : Out (Rho ⊕ Fl) :=
  match bindT tg d ρ with
  | none => none
  | some ρ1 => bd (b ρ1 S) fun f S1 => match f with
    | .nx ρ2 => ok (.inl ρ2) S1
    | .cnt ρ2 => ok (.inl ρ2) S1
    | .brk ρ2 => ok (.inr (.nx ρ2)) S1
    | .ret d => ok (.inr (.ret d)) S1
def forEnd (r : Rho ⊕ Fl) (S : Sto) : Out Fl := match r with
  | .inl ρ => ok (.nx ρ) S
  | .inr f => ok f S

def enumL (k : Nat) : List D → List D
  | [] => []
  | d :: ds => .tup [.int k, d] :: enumL (k + 1) ds
def isDic (S : Sto) (n : Nat) : Bool := match S[n]? with
  | some (.dic _) => true
  | some (.dit _) => true
  | _ => false
structure Orc where
  call : Nat → List D → Sto → Out D

mutual
def evE (F : Orc) : E → Rho → Sto → Out D
  | .var i, ρ, S => match ρ[i]? with
    | some (some d) => ok d S
    | _ => none
  | .non, _, S => ok .non S
  | .bl b, _, S => ok (.bl b) S
  | .int i, _, S => ok (.int i) S
  | .str x, _, S => ok (.str x) S
  | .gc _ d, _, S => ok d S
  | .tup es, ρ, S => bd (evEs F es ρ S) fun ds S1 => ok (.tup ds) S1
  | .lst es, ρ, S => bd (evEs F es ρ S) fun ds S1 => ok (.ref S1.length) (S1 ++ [.lst ds])
  | .bin op a b, ρ, S => bd (evE F a ρ S) fun x S1 => bd (evE F b ρ S1) fun y S2 => bop op x y S2
  | .neg a, ρ, S => bd (evE F a ρ S) fun x S1 => match x with
    | .int i => ok (.int (-i)) S1
    | _ => none
  | .cmp op a b, ρ, S => bd (evE F a ρ S) fun x S1 => bd (evE F b ρ S1) fun y S2 => cop op x y S2
  | .chain op op' a b c, ρ, S => bd (evE F a ρ S) fun x S1 => bd (evE F b ρ S1) fun y S2 => match copB op x y S2 with
    | some true => bd (evE F c ρ S2) fun z S3 => cop op' y z S3
    | some false => ok (.bl false) S2
    | none => none
  | .and a b, ρ, S => bd (evE F a ρ S) fun x S1 => match x with
    | .bl true => evE F b ρ S1
    | .bl false => ok (.bl false) S1
    | _ => none
  | .or a b, ρ, S => bd (evE F a ρ S) fun x S1 => match x with
    | .bl true => ok (.bl true) S1
    | .bl false => evE F b ρ S1
    | _ => none
  | .one a, ρ, S => evE F a ρ S
  | .not a, ρ, S => bd (evE F a ρ S) fun x S1 => match x with
    | .bl b => ok (.bl (!b)) S1
    | _ => none
  | .ite c a b, ρ, S => bd (evT F c ρ S) fun t S1 => match t with
    | true => evE F a ρ S1
    | false => evE F b ρ S1
  | .idx a i, ρ, S => bd (evE F a ρ S) fun x S1 => bd (evE F i ρ S1) fun y S2 => idxD x y S2
  | .sl a lo hi, ρ, S => bd (evE F a ρ S) fun x S1 => bd (evP F lo ρ S1) fun l S2 => bd (evP F hi ρ S2) fun h S3 => slD x l h S3
  | .rev a, ρ, S => bd (evE F a ρ S) fun x S1 => revD x S1
  | .call f es, ρ, S => bd (evEs F es ρ S) fun ds S1 => F.call f ds S1
  | .bi b es, ρ, S => bd (evEs F es ρ S) fun ds S1 => biD b ds S1
  | .bm m o es, ρ, S => bd (evE F o ρ S) fun x S1 => match bmTy m x S1 with
    | true => bd (evEs F es ρ S1) fun ds S2 => bmD m x ds S2
    | false => none
  | .isi a t, ρ, S => bd (evE F a ρ S) fun x S1 => lift (isiD t x S1) S1
  | .lrg a, ρ, S => bd (evE F a ρ S) fun x S1 => match x with
    | .int j => if -(2 ^ 62) ≤ j ∧ j < 2 ^ 62 ∧ j.toNat ≤ 2 ^ 24 then ok (.ref S1.length) (S1 ++ [.lst ((List.range j.toNat).map fun (k : Nat) => .int k)]) else none
    | _ => none
  | .dnk, _, S => ok (.ref S.length) (S ++ [.dic []])
  | .dnt, _, S => ok (.ref S.length) (S ++ [.dit []])
  | .disp ks es, ρ, S => bd (evEs F es ρ S) fun ds S1 => if ds.length = ks.length then ok (.ref S1.length) (S1 ++ [.dic (disD ks ds)]) else none
  | .get1 d k, ρ, S => bd (evE F d ρ S) fun x S1 => match x with
    | .ref n => match isDic S1 n with
      | true => bd (evE F k ρ S1) fun y S2 => match dgetD S2 n y with
        | some (some v) => ok v S2
        | some none => ok .non S2
        | none => none
      | false => none
    | _ => none
  | .get2 d k e, ρ, S => bd (evE F d ρ S) fun x S1 => match x with
    | .ref n => match isDic S1 n with
      | true => bd (evE F k ρ S1) fun y S2 => bd (evE F e ρ S2) fun z S3 => match dgetD S3 n y with
        | some (some v) => ok v S3
        | some none => ok z S3
        | none => none
      | false => none
    | _ => none
  | .sm m a, ρ, S => bd (evE F a ρ S) fun x S1 => smD m x S1
  | .strip1 a b, ρ, S => bd (evE F a ρ S) fun x S1 => match x with
    | .str _ => bd (evE F b ρ S1) fun y S2 => stripD x y S2
    | _ => none
  | .lc elt tg it c own, ρ, S => bd (evI F it ρ S) fun i S1 =>
      bd (foldI (fun d acc S2 => match bindT tg d (wipeR ρ (own.map (·.2))) with
        | none => none
        | some ρ1 => bd (evT F c ρ1 S2) fun t S3 => match t with
          | true => bd (evE F elt ρ1 S3) fun y S4 => if acc.length < sizeLine then ok (.inl (acc ++ [y]) : List D ⊕ Empty) S4 else none
          | false => ok (.inl acc) S3) i [] S1) fun r S5 => match r with
        | .inl acc => ok (.ref S5.length) (S5 ++ [.lst acc])
        | .inr e => nomatch e
def evEs (F : Orc) : Es → Rho → Sto → Out (List D)
  | .nil, _, S => ok [] S
  | .cons e es, ρ, S => bd (evE F e ρ S) fun d S1 => bd (evEs F es ρ S1) fun ds S2 => ok (d :: ds) S2
def evP (F : Orc) : P → Rho → Sto → Out (Option Int)
  | .no, _, S => ok none S
  | .e e, ρ, S => bd (evE F e ρ S) fun x S1 => match x with
    | .int i => ok (some i) S1
    | _ => none
def evT (F : Orc) : T → Rho → Sto → Out Bool
  | .yes, _, S => ok true S
  | .v e, ρ, S => bd (evE F e ρ S) fun x S1 => liftB (tru x S1) S1
  | .cmp op a b, ρ, S => bd (evE F a ρ S) fun x S1 => bd (evE F b ρ S1) fun y S2 => liftB (copB op x y S2) S2
  | .chain op op' a b c, ρ, S => bd (evE F a ρ S) fun x S1 => bd (evE F b ρ S1) fun y S2 => match copB op x y S2 with
    | some true => bd (evE F c ρ S2) fun z S3 => liftB (copB op' y z S3) S3
    | some false => ok false S2
    | none => none
  | .not t, ρ, S => bd (evT F t ρ S) fun b S1 => ok (!b) S1
  | .and a b, ρ, S => bd (evT F a ρ S) fun t S1 => match t with
    | true => evT F b ρ S1
    | false => ok false S1
  | .or a b, ρ, S => bd (evT F a ρ S) fun t S1 => match t with
    | true => ok true S1
    | false => evT F b ρ S1
  | .one a, ρ, S => evT F a ρ S
def evI (F : Orc) : I → Rho → Sto → Out It
  | .seq e, ρ, S => bd (evE F e ρ S) fun x S1 => match x with
    | .tup ds => ok (.fix ds) S1
    | .fz ds => ok (.fix ds) S1
    | .str z => ok (.fix (z.cps.toList.map fun c => .str ⟨#[c]⟩)) S1
    | .ref n => match S1[n]? with
      | some (.lst _) => ok (.dyn n .plain) S1
      | _ => none
    | _ => none
  | .rng1 a, ρ, S => bd (evE F a ρ S) fun x S1 => match x with
    | .int j => if -(2 ^ 62) ≤ j ∧ j < 2 ^ 62 then ok (.fix ((List.range j.toNat).map fun (k : Nat) => .int k)) S1 else none
    | _ => none
  | .rng2 a b, ρ, S => bd (evE F a ρ S) fun x S1 => bd (evE F b ρ S1) fun y S2 => match x, y with
    | .int i, .int j => if -(2 ^ 62) ≤ i ∧ i < 2 ^ 62 ∧ -(2 ^ 62) ≤ j ∧ j < 2 ^ 62 then ok (.fix ((List.range (j - i).toNat).map fun (k : Nat) => .int (i + k))) S2 else none
    | _, _ => none
  | .enum a, ρ, S => bd (evE F a ρ S) fun x S1 => match x with
    | .tup ds => ok (.fix (enumL 0 ds)) S1
    | .ref n => match S1[n]? with
      | some (.lst _) => ok (.dyn n .enum) S1
      | _ => none
    | _ => none
  | .zip a b, ρ, S => bd (evE F a ρ S) fun x S1 => bd (evE F b ρ S1) fun y S2 => match x, y with
    | .tup ds, .ref n => match S2[n]? with
      | some (.lst es) => ok (.dyn n (.zip ds es.length)) S2
      | _ => none
    | _, _ => none
end

def setiD (o i v : D) (S : Sto) : Option Sto :=
  match o, i with
  | .ref n, .int k => match S[n]? with
    | some (.lst xs) => match L2.ixN xs.length k with
      | some j => some (S.set n (.lst (xs.set j v)))
      | none => none
    | _ => none
  | .ref n, i => dputD S n i v
  | _, _ => none

mutual
def exC (F : Orc) : C → Rho → Sto → Out Fl
  | .pass, ρ, S => ok (.nx ρ) S
  | .brk, ρ, S => ok (.brk ρ) S
  | .cnt, ρ, S => ok (.cnt ρ) S
  | .dead, _, _ => none
  | .set i e, ρ, S => bd (evE F e ρ S) fun d S1 => ok (.nx (ρ.set i (some d))) S1
  | .asg tg e, ρ, S => bd (evE F e ρ S) fun d S1 => match bindT tg d ρ with
    | some ρ1 => ok (.nx ρ1) S1
    | none => none
  | .aug i op e, ρ, S => match ρ[i]? with
    | some (some x) => bd (evE F e ρ S) fun y S1 => bd (augD op x y S1) fun z S2 => ok (.nx (ρ.set i (some z))) S2
    | _ => none
  | .seti o i e, ρ, S => bd (evE F e ρ S) fun v S1 => bd (evE F o ρ S1) fun x S2 => bd (evE F i ρ S2) fun y S3 => match setiD x y v S3 with
    | some S4 => ok (.nx ρ) S4
    | none => none
  | .ex e, ρ, S => bd (evE F e ρ S) fun _ S1 => ok (.nx ρ) S1
  | .ret e, ρ, S => bd (evE F e ρ S) fun d S1 => ok (.ret d) S1
  | .retn, _, S => ok (.ret .non) S
  | .ife c a b, ρ, S => bd (evT F c ρ S) fun t S1 => match t with
    | true => exCs F a ρ S1
    | false => exCs F b ρ S1
  | .whl c b, ρ, S => whileL (fun ρ S => evT F c ρ S) (fun ρ S => exCs F b ρ S) ρ S
  | .for_ tg it b, ρ, S => bd (evI F it ρ S) fun i S1 => bd (foldI (forStep tg fun ρ S => exCs F b ρ S) i ρ S1) fun r S2 => forEnd r S2
def exCs (F : Orc) : Cs → Rho → Sto → Out Fl
  | .nil, ρ, S => ok (.nx ρ) S
  | .cons c cs, ρ, S => bd (exC F c ρ S) fun f S1 => match f with
    | .nx ρ1 => exCs F cs ρ1 S1
    | .brk ρ1 => ok (.brk ρ1) S1
    | .cnt ρ1 => ok (.cnt ρ1) S1
    | .ret d => ok (.ret d) S1
end

/-- a def: its parameters, its slots, its body -/
structure Fd where
  np : Nat
  ns : Nat
  body : Cs
def callN (tbl : List (Nat × Fd)) : Nat → Nat → List D → Sto → Out D
  | 0, _, _, _ => none
  | k + 1, f, ds, S => match tbl.lookup f with
    | none => none
    | some fd => if ds.length = fd.np then
        bd (exCs ⟨callN tbl k⟩ fd.body (ds.map some ++ List.replicate (fd.ns - fd.np) none) S) fun r S1 => match r with
          | .ret d => ok d S1
          | .nx _ => ok .non S1
          | _ => none
      else none
end VM
/-! VB: how values and stores lie in the layer's abstract heap; reading of expressions. -/
namespace VM
open PySem PySem.Spec PyProof.Rows L2

/-! ### representation -/
/-- a frozen list -/
def Fz (K : PySem.W.Frag) (H : Hp) (js : List Addr) (a : Addr) (xs : List V) : Prop := (∃ o, H a = some (.frz o (.lst xs)) ∧ a ∉ js) ∨
    ∃ (o : Obj) (its : Array Value) (n : Nat), K.lookup a = some o ∧ o.cls = .type "list" ∧ o.dict = none ∧ o.data = .seq its n ∧ its.size ≤ sizeLine ∧ Vals xs its.toList
theorem Fz.sq {K : PySem.W.Frag} {H : Hp} {js : List Addr} {a : Addr} {xs : List V} (h : Fz K H js a xs) : SqL K H a xs := by
  rcases h with ⟨o, h, _⟩ | h
  · exact .inl (.inr ⟨o, h⟩)
  · exact .inr h
mutual
inductive RepV (K : PySem.W.Frag) (H : Hp) (js : List Addr) : D → V → Prop where
  | non : RepV K H js .non .non
  | bl (b : Bool) : RepV K H js (.bl b) (.bl b)
  | int (i : Int) : RepV K H js (.int i) (.int i)
  | str (x : Str) : RepV K H js (.str x) (.str x)
  | tup {ds : List D} {a : Addr} {xs : List V} (h : H a = some (.tup xs)) (n : a ∉ js) (r : RepVs K H js ds xs) : RepV K H js (.tup ds) (.ref a)
  | ref {n : Nat} {a : Addr} (h : js[n]? = some a) : RepV K H js (.ref n) (.ref a)
  | fz {ds : List D} {a : Addr} {xs : List V} (h : Fz K H js a xs) (r : RepVs K H js ds xs) : RepV K H js (.fz ds) (.ref a)
inductive RepVs (K : PySem.W.Frag) (H : Hp) (js : List Addr) : List D → List V → Prop where
  | nil : RepVs K H js [] []
  | cons {d : D} {v : V} {ds : List D} {vs : List V} (h : RepV K H js d v) (t : RepVs K H js ds vs) : RepVs K H js (d :: ds) (v :: vs)
end
structure Grow (H : Hp) (js : List Addr) (H' : Hp) (js' : List Addr) : Prop where
  pre : ∃ new, js' = js ++ new ∧ ∀ a ∈ new, a ∉ js ∧ H a = none
  keep : ∀ a o, a ∉ js → H a = some o → H' a = some o

section
variable {K : PySem.W.Frag} {H H1 H2 : Hp} {js js1 js2 : List Addr}
theorem Grow.refl : Grow H js H js := ⟨⟨[], by simp, by simp⟩, fun _ _ _ h => h⟩
theorem Grow.notin (g : Grow H js H1 js1) {a : Addr} {o : HO} (n : a ∉ js) (h : H a = some o) : a ∉ js1 := by
  obtain ⟨new, rfl, hn⟩ := g.pre
  intro m
  rcases List.mem_append.mp m with m | m
  · exact n m
  · rw [(hn a m).2] at h; cases h
theorem Grow.trans (g : Grow H js H1 js1) (g' : Grow H1 js1 H2 js2) : Grow H js H2 js2 := by
  obtain ⟨new, e, hn⟩ := g.pre
  obtain ⟨new', e', hn'⟩ := g'.pre
  refine ⟨⟨new ++ new', by rw [e', e, List.append_assoc], fun a ha => ?_⟩, fun a o n h => g'.keep a o (g.notin n h) (g.keep a o n h)⟩
  rcases List.mem_append.mp ha with m | m
  · exact hn a m
  · obtain ⟨n1, z⟩ := hn' a m
    have n0 : a ∉ js := fun q => n1 (by rw [e]; exact List.mem_append_left _ q)
    refine ⟨n0, ?_⟩
    cases q : H a with
    | none => rfl
    | some o =>
      have := g.keep a o n0 q
      rw [z] at this; cases this
theorem Grow.at (g : Grow H js H1 js1) {n : Nat} {a : Addr} (h : js[n]? = some a) : js1[n]? = some a := by
  obtain ⟨new, rfl, _⟩ := g.pre
  rw [List.getElem?_append_left (List.getElem?_eq_some_iff.mp h).1]
  exact h
theorem Fz.mono {a : Addr} {xs : List V} (h : Fz K H js a xs) (g : Grow H js H1 js1) : Fz K H1 js1 a xs := by
  rcases h with ⟨o, h, n⟩ | h
  · exact .inl ⟨o, g.keep _ _ n h, g.notin n h⟩
  · exact .inr h
mutual
theorem RepV.mono (g : Grow H js H1 js1) : ∀ {d : D} {v : V}, RepV K H js d v → RepV K H1 js1 d v
  | _, _, .non => .non
  | _, _, .bl b => .bl b
  | _, _, .int i => .int i
  | _, _, .str x => .str x
  | _, _, .tup h n r => .tup (g.keep _ _ n h) (g.notin n h) (RepVs.mono g r)
  | _, _, .ref h => .ref (g.at h)
  | _, _, .fz h r => .fz (h.mono g) (RepVs.mono g r)
theorem RepVs.mono (g : Grow H js H1 js1) : ∀ {ds : List D} {vs : List V}, RepVs K H js ds vs → RepVs K H1 js1 ds vs
  | _, _, .nil => .nil
  | _, _, .cons h t => .cons (RepV.mono g h) (RepVs.mono g t)
end
theorem RepVs.length : ∀ {ds : List D} {vs : List V}, RepVs K H js ds vs → ds.length = vs.length
  | _, _, .nil => rfl
  | _, _, .cons h t => by rw [List.length_cons, List.length_cons, RepVs.length t]
theorem RepVs.get : ∀ {ds : List D} {vs : List V} {i : Nat} {d : D}, RepVs K H js ds vs → ds[i]? = some d → ∃ v, vs[i]? = some v ∧ RepV K H js d v
  | _, _, _, _, .nil, e => by simp at e
  | _, _, 0, _, .cons h t, e => by simp at e; subst e; exact ⟨_, rfl, h⟩
  | _, _, i + 1, d, .cons h t, e => by
    obtain ⟨v, h1, h2⟩ := RepVs.get (i := i) (d := d) t (by simpa using e)
    exact ⟨v, by simpa using h1, h2⟩
theorem RepVs.append : ∀ {ds es : List D} {vs ws : List V}, RepVs K H js ds vs → RepVs K H js es ws → RepVs K H js (ds ++ es) (vs ++ ws)
  | _, _, _, _, .nil, s => s
  | _, _, _, _, .cons h t, s => .cons h (RepVs.append t s)
theorem RepVs.take : ∀ {ds : List D} {vs : List V} (n : Nat), RepVs K H js ds vs → RepVs K H js (ds.take n) (vs.take n)
  | _, _, 0, _ => .nil
  | _, _, _ + 1, .nil => .nil
  | _, _, n + 1, .cons h t => .cons h (RepVs.take n t)
theorem RepVs.drop : ∀ {ds : List D} {vs : List V} (n : Nat), RepVs K H js ds vs → RepVs K H js (ds.drop n) (vs.drop n)
  | _, _, 0, r => r
  | _, _, _ + 1, .nil => .nil
  | _, _, n + 1, .cons _ t => RepVs.drop n t
theorem RepVs.set {d : D} {v : V} (h : RepV K H js d v) : ∀ {ds : List D} {vs : List V} (i : Nat), RepVs K H js ds vs → RepVs K H js (ds.set i d) (vs.set i v)
  | _, _, _, .nil => .nil
  | _, _, 0, .cons _ t => .cons h t
  | _, _, i + 1, .cons q t => .cons q (RepVs.set h i t)
theorem RepVs.reverse {ds : List D} {vs : List V} (r : RepVs K H js ds vs) : RepVs K H js ds.reverse vs.reverse := by
  induction ds generalizing vs with
  | nil => cases r; exact .nil
  | cons d ds ih =>
    cases r with
    | cons h t => rw [List.reverse_cons, List.reverse_cons]; exact (ih t).append (.cons h .nil)
theorem RepVs.ints {ns : List Int} : RepVs K H js (ns.map D.int) (ns.map V.int) := by
  induction ns with
  | nil => exact .nil
  | cons n ns ih => exact .cons (.int n) ih
theorem RepVs.of_ints : ∀ {ds : List D} {ns : List Int} {vs : List V}, ds = ns.map D.int → RepVs K H js ds vs → vs = ns.map V.int
  | _, [], _, e, r => by subst e; cases r; rfl
  | _, n :: ns, _, e, r => by
    subst e
    cases r with
    | cons h t => cases h; rw [List.map_cons, RepVs.of_ints rfl t]
end

/-- an object of the store -/
def RepK {κ : Type} (K : PySem.W.Frag) (H : Hp) (js : List Addr) (kvs : List (κ × D)) (vs : List (κ × V)) : Prop := kvs.map (·.1) = vs.map (·.1) ∧ RepVs K H js (kvs.map (·.2)) (vs.map (·.2))
def RepO (K : PySem.W.Frag) (H : Hp) (js : List Addr) : O → Option HO → Prop
  | .lst ds, some (.lst xs) => RepVs K H js ds xs
  | .dic kvs, some (.dK vs) => RepK K H js kvs vs
  | .dit kvs, some (.dT vs) => RepK K H js kvs vs
  | _, _ => False
structure RelS (K : PySem.W.Frag) (H : Hp) (js : List Addr) (S : Sto) : Prop where
  len : js.length = S.length
  nd : js.Nodup
  obj : ∀ (n : Nat) (a : Addr) (o : O), js[n]? = some a → S[n]? = some o → RepO K H js o (H a)
/-- the slots -/
structure RepR (K : PySem.W.Frag) (H : Hp) (js : List Addr) (ρ : Rho) (σ : L2.St) : Prop where
  len : ρ.length = σ.length
  at_ : ∀ (i : Nat) (d : D), ρ[i]? = some (some d) → ∃ v, σ[i]? = some (some v) ∧ RepV K H js d v

section
variable {K : PySem.W.Frag} {H H1 H2 : Hp} {js js1 js2 : List Addr} {S S1 : Sto}
theorem RepO.lst {ds : List D} {o : Option HO} (h : RepO K H js (.lst ds) o) : ∃ xs, o = some (.lst xs) ∧ RepVs K H js ds xs := by
  unfold RepO at h
  split at h <;> first
    | (rename_i e; cases e; exact ⟨_, rfl, h⟩)
    | (rename_i e; cases e; done)
    | exact h.elim
theorem RepO.dic {kvs : List (L2.Key × D)} {o : Option HO} (h : RepO K H js (.dic kvs) o) : ∃ vs, o = some (.dK vs) ∧ RepK K H js kvs vs := by
  unfold RepO at h
  split at h <;> first
    | (rename_i e; cases e; exact ⟨_, rfl, h⟩)
    | (rename_i e; cases e; done)
    | exact h.elim
theorem RepO.dit {kvs : List (List L2.Key × D)} {o : Option HO} (h : RepO K H js (.dit kvs) o) : ∃ vs, o = some (.dT vs) ∧ RepK K H js kvs vs := by
  unfold RepO at h
  split at h <;> first
    | (rename_i e; cases e; exact ⟨_, rfl, h⟩)
    | (rename_i e; cases e; done)
    | exact h.elim
theorem RepO.held {o : O} {h : Option HO} (r : RepO K H js o h) : ∃ u, h = some u ∧ ∀ xs, u ≠ .tup xs := by
  unfold RepO at r
  split at r
  · exact ⟨_, rfl, fun _ e => nomatch e⟩
  · exact ⟨_, rfl, fun _ e => nomatch e⟩
  · exact ⟨_, rfl, fun _ e => nomatch e⟩
  · exact r.elim
theorem RepO.mono {o : O} {h : Option HO} (r : RepO K H js o h) (g : Grow H js H1 js1) : RepO K H1 js1 o h := by
  unfold RepO at r
  split at r
  · exact RepVs.mono g r
  · exact ⟨r.1, RepVs.mono g r.2⟩
  · exact ⟨r.1, RepVs.mono g r.2⟩
  · exact r.elim
theorem RelS.at (r : RelS K H js S) {n : Nat} {o : O} (h : S[n]? = some o) : ∃ a, js[n]? = some a ∧ RepO K H js o (H a) := by
  have hn : n < js.length := by rw [r.len]; exact (List.getElem?_eq_some_iff.mp h).1
  exact ⟨js[n], List.getElem?_eq_getElem hn, r.obj n _ o (List.getElem?_eq_getElem hn) h⟩
theorem RelS.held (r : RelS K H js S) {a : Addr} (h : a ∈ js) : ∃ u, H a = some u ∧ ∀ xs, u ≠ .tup xs := by
  obtain ⟨n, hn, e⟩ := List.getElem_of_mem h
  have hS : n < S.length := by rw [← r.len]; exact hn
  exact (r.obj n a S[n] (by rw [List.getElem?_eq_getElem hn, e]) (List.getElem?_eq_getElem hS)).held
theorem RelS.fresh (r : RelS K H js S) {p : Addr} (h : H p = none) : p ∉ js := fun m => by
  obtain ⟨u, e, _⟩ := r.held m
  rw [h] at e; cases e
theorem RelS.list (r : RelS K H js S) {n : Nat} {ds : List D} (h : S[n]? = some (.lst ds)) : ∃ a xs, js[n]? = some a ∧ H a = some (.lst xs) ∧ RepVs K H js ds xs := by
  obtain ⟨a, e, q⟩ := r.at h
  obtain ⟨xs, e2, q2⟩ := q.lst
  exact ⟨a, xs, e, e2, q2⟩
theorem RelS.dict (r : RelS K H js S) {n : Nat} {kvs : List (L2.Key × D)} (h : S[n]? = some (.dic kvs)) : ∃ a vs, js[n]? = some a ∧ H a = some (.dK vs) ∧ RepK K H js kvs vs := by
  obtain ⟨a, e, q⟩ := r.at h
  obtain ⟨xs, e2, q2⟩ := q.dic
  exact ⟨a, xs, e, e2, q2⟩
theorem RelS.dictT (r : RelS K H js S) {n : Nat} {kvs : List (List L2.Key × D)} (h : S[n]? = some (.dit kvs)) : ∃ a vs, js[n]? = some a ∧ H a = some (.dT vs) ∧ RepK K H js kvs vs := by
  obtain ⟨a, e, q⟩ := r.at h
  obtain ⟨xs, e2, q2⟩ := q.dit
  exact ⟨a, xs, e, e2, q2⟩
/-- a thing laid that the store does not hold -/
theorem Grow.lay (r : RelS K H js S) {p : Addr} {o : HO} (h : H p = none) : Grow H js (upd H p o) js :=
  ⟨⟨[], by simp, by simp⟩, fun a u _ e => by rw [upd_ne (ne_of_none e h)]; exact e⟩
theorem RelS.lay (r : RelS K H js S) {p : Addr} {o : HO} (h : H p = none) : RelS K (upd H p o) js S :=
  ⟨r.len, r.nd, fun n a o' e e' => by
    have q := (r.obj n a o' e e')
    obtain ⟨u, eu, _⟩ := q.held
    have na : a ≠ p := ne_of_none eu h
    rw [upd_ne na]
    exact q.mono (Grow.lay r h)⟩
/-- a new object of the store -/
theorem Grow.new (r : RelS K H js S) {p : Addr} {o : HO} (h : H p = none) : Grow H js (upd H p o) (js ++ [p]) :=
  ⟨⟨[p], rfl, fun a m => by
    have e : a = p := by simpa using m
    subst e
    exact ⟨r.fresh h, h⟩⟩, fun a u _ e => by rw [upd_ne (ne_of_none e h)]; exact e⟩
theorem RelS.newO (r : RelS K H js S) {p : Addr} {ob : O} {u : HO} (h : H p = none) (q : RepO K H js ob (some u)) : RelS K (upd H p u) (js ++ [p]) (S ++ [ob]) := by
  have g : Grow H js (upd H p u) (js ++ [p]) := Grow.new r h
  refine ⟨by rw [List.length_append, List.length_append, r.len]; rfl, ?_, fun n a o e e' => ?_⟩
  · refine List.nodup_append.mpr ⟨r.nd, by simp, fun a ha b hb => ?_⟩
    have e : b = p := by simpa using hb
    subst e
    intro e
    subst e
    exact r.fresh h ha
  · by_cases hn : n < js.length
    · rw [List.getElem?_append_left hn] at e
      rw [List.getElem?_append_left (by rw [← r.len]; exact hn)] at e'
      have q' := r.obj n a o e e'
      obtain ⟨u', eu, _⟩ := q'.held
      rw [upd_ne (ne_of_none eu h)]
      exact q'.mono g
    · have hn' : n = js.length := by
        have := (List.getElem?_eq_some_iff.mp e).1
        rw [List.length_append] at this
        simp at this
        omega
      subst hn'
      rw [List.getElem?_append_right (Nat.le_refl _)] at e
      simp at e
      subst e
      rw [r.len, List.getElem?_append_right (Nat.le_refl _)] at e'
      simp at e'
      subst e'
      rw [upd_same]
      exact q.mono g
theorem RelS.new (r : RelS K H js S) {p : Addr} {ds : List D} {xs : List V} (h : H p = none) (q : RepVs K H js ds xs) : RelS K (upd H p (.lst xs)) (js ++ [p]) (S ++ [.lst ds]) := r.newO (ob := .lst ds) h q
/-- a list of the store written -/
theorem Grow.put (r : RelS K H js S) {n : Nat} {a : Addr} {o : HO} (e : js[n]? = some a) : Grow H js (upd H a o) js :=
  ⟨⟨[], by simp, by simp⟩, fun b u nb h => by
    have : b ≠ a := fun q => nb (by rw [q]; exact List.mem_of_getElem? e)
    rw [upd_ne this]; exact h⟩
theorem RelS.putO (r : RelS K H js S) {n : Nat} {a : Addr} {ob : O} {u : HO} (e : js[n]? = some a) (q : RepO K H js ob (some u)) : RelS K (upd H a u) js (S.set n ob) := by
  have g : Grow H js (upd H a u) js := Grow.put r e
  refine ⟨by rw [List.length_set]; exact r.len, r.nd, fun m b o e1 e2 => ?_⟩
  by_cases hm : m = n
  · subst hm
    rw [e] at e1; cases e1
    have hl : m < S.length := by rw [← r.len]; exact (List.getElem?_eq_some_iff.mp e).1
    rw [List.getElem?_set_self hl] at e2; cases e2
    rw [upd_same]
    exact q.mono g
  · rw [List.getElem?_set_ne (Ne.symm hm)] at e2
    have q' := r.obj m b o e1 e2
    have nb : b ≠ a := fun z => by
      subst z
      obtain ⟨h1, x1⟩ := List.getElem?_eq_some_iff.mp e
      obtain ⟨h2, x2⟩ := List.getElem?_eq_some_iff.mp e1
      exact hm ((List.getElem_inj r.nd).mp (x2.trans x1.symm))
    rw [upd_ne nb]
    exact q'.mono g
theorem RelS.put (r : RelS K H js S) {n : Nat} {a : Addr} {ds : List D} {xs : List V} (e : js[n]? = some a) (q : RepVs K H js ds xs) : RelS K (upd H a (.lst xs)) js (S.set n (.lst ds)) := r.putO (ob := .lst ds) e q
theorem RepR.mono {ρ : Rho} {σ : L2.St} (r : RepR K H js ρ σ) (g : Grow H js H1 js1) : RepR K H1 js1 ρ σ :=
  ⟨r.len, fun i d e => let ⟨v, h1, h2⟩ := r.at_ i d e; ⟨v, h1, h2.mono g⟩⟩
theorem RepR.set {ρ : Rho} {σ : L2.St} (r : RepR K H js ρ σ) {d : D} {v : V} (h : RepV K H js d v) (i : Nat) : RepR K H js (ρ.set i (some d)) (σ.set i (some v)) := by
  refine ⟨by rw [List.length_set, List.length_set]; exact r.len, fun j e q => ?_⟩
  by_cases hj : j = i
  · subst hj
    have hl : j < ρ.length := by
      have := (List.getElem?_eq_some_iff.mp q).1
      rw [List.length_set] at this; exact this
    rw [List.getElem?_set_self hl] at q
    cases q
    exact ⟨v, List.getElem?_set_self (by rw [← r.len]; exact hl), h⟩
  · rw [List.getElem?_set_ne (Ne.symm hj)] at q
    rw [List.getElem?_set_ne (Ne.symm hj)]
    exact r.at_ j e q
theorem RepR.unset {ρ : Rho} {σ : L2.St} (r : RepR K H js ρ σ) (i : Nat) : RepR K H js (ρ.set i none) (σ.set i none) := by
  refine ⟨by rw [List.length_set, List.length_set]; exact r.len, fun j e q => ?_⟩
  by_cases hj : j = i
  · subst hj
    have hl : j < ρ.length := by
      have := (List.getElem?_eq_some_iff.mp q).1
      rw [List.length_set] at this; exact this
    rw [List.getElem?_set_self hl] at q
    cases q
  · rw [List.getElem?_set_ne (Ne.symm hj)] at q
    rw [List.getElem?_set_ne (Ne.symm hj)]
    exact r.at_ j e q
theorem RepR.wipe {ρ : Rho} {σ : L2.St} (r : RepR K H js ρ σ) : ∀ vs : List Nat, RepR K H js (wipeR ρ vs) (wipe σ vs)
  | [] => r
  | v :: vs => (RepR.wipe r vs).unset v
end

/-! ### what a run asks of what follows -/
/-- a value comes -/
def OkE (K : PySem.W.Frag) (H : Hp) (js : List Addr) (o : Out D) (Q : VK) : Prop :=
  match o with
  | some (.ok d S') => ∀ v H' js', Grow H js H' js' → RelS K H' js' S' → RepV K H' js' d v → Q v H'
  | _ => False
def OkA (K : PySem.W.Frag) (H : Hp) (js : List Addr) (o : Out (List D)) (Q : List V → Hp → Prop) : Prop :=
  match o with
  | some (.ok d S') => ∀ v H' js', Grow H js H' js' → RelS K H' js' S' → RepVs K H' js' d v → Q v H'
  | _ => False
/-- a plain thing comes -/
def OkX {α : Type} (K : PySem.W.Frag) (H : Hp) (js : List Addr) (o : Out α) (Q : α → Hp → Prop) : Prop :=
  match o with
  | some (.ok d S') => ∀ H' js', Grow H js H' js' → RelS K H' js' S' → Q d H'
  | _ => False
section
variable {K : PySem.W.Frag} {H H1 : Hp} {js js1 : List Addr} {S : Sto} {α : Type}
theorem bd_ok {α β : Type} (a : α) (S : Sto) (f : α → Sto → Out β) : bd (some (.ok a S)) f = f a S := rfl
theorem bd_of {α β : Type} {m : Out α} {f : α → Sto → Out β} {P : Out β → Prop} (h : P (bd m f)) (hn : ¬ P none) (hx : ∀ c xs S, ¬ P (some (.ex c xs S))) : ∃ a S, m = some (.ok a S) ∧ P (f a S) := by
  cases m with
  | none => exact (hn h).elim
  | some r =>
    cases r with
    | ok a S => exact ⟨a, S, rfl, h⟩
    | ex c xs S => exact (hx _ _ _ h).elim
theorem OkE.bd {m : Out α} {f : α → Sto → Out D} {Q : VK} (h : OkE K H js (bd m f) Q) : ∃ a S, m = some (.ok a S) ∧ OkE K H js (f a S) Q := bd_of (P := fun o => OkE K H js o Q) h (fun z => z) fun _ _ _ z => z
theorem OkA.bd {m : Out α} {f : α → Sto → Out (List D)} {Q : List V → Hp → Prop} (h : OkA K H js (bd m f) Q) : ∃ a S, m = some (.ok a S) ∧ OkA K H js (f a S) Q := bd_of (P := fun o => OkA K H js o Q) h (fun z => z) fun _ _ _ z => z
theorem OkX.bd {β : Type} {m : Out α} {f : α → Sto → Out β} {Q : β → Hp → Prop} (h : OkX K H js (bd m f) Q) : ∃ a S, m = some (.ok a S) ∧ OkX K H js (f a S) Q := bd_of (P := fun o => OkX K H js o Q) h (fun z => z) fun _ _ _ z => z
theorem OkE.mono {o : Out D} {Q : VK} (h : OkE K H js o Q) (g : Grow H js H1 js1) : OkE K H1 js1 o Q := by
  unfold OkE at h ⊢
  split at h
  · exact fun v H' js' g' => h v H' js' (g.trans g')
  · exact h.elim
theorem OkA.mono {o : Out (List D)} {Q : List V → Hp → Prop} (h : OkA K H js o Q) (g : Grow H js H1 js1) : OkA K H1 js1 o Q := by
  unfold OkA at h ⊢
  split at h
  · exact fun v H' js' g' => h v H' js' (g.trans g')
  · exact h.elim
theorem OkX.mono {o : Out α} {Q : α → Hp → Prop} (h : OkX K H js o Q) (g : Grow H js H1 js1) : OkX K H1 js1 o Q := by
  unfold OkX at h ⊢
  split at h
  · exact fun H' js' g' => h H' js' (g.trans g')
  · exact h.elim
/-- the value as it is -/
theorem OkE.pure {d : D} {Q : VK} {v : V} (h : OkE K H js (ok d S) Q) (r : RelS K H js S) (q : RepV K H js d v) : Q v H := h v H js Grow.refl r q
theorem OkX.pure {d : α} {Q : α → Hp → Prop} (h : OkX K H js (ok d S) Q) (r : RelS K H js S) : Q d H := h H js Grow.refl r
/-- a new tuple -/
theorem OkE.tup {ds : List D} {Q : VK} {vs : List V} {p : Addr} (h : OkE K H js (ok (.tup ds) S) Q) (r : RelS K H js S) (q : RepVs K H js ds vs) (hp : H p = none) : Q (.ref p) (upd H p (.tup vs)) :=
  h _ _ js (Grow.lay r hp) (r.lay hp) (.tup upd_same (r.fresh hp) (q.mono (Grow.lay r hp)))
/-- a new list -/
theorem OkE.lst {ds : List D} {Q : VK} {vs : List V} {p : Addr} (h : OkE K H js (ok (.ref S.length) (S ++ [.lst ds])) Q) (r : RelS K H js S) (q : RepVs K H js ds vs) (hp : H p = none) : Q (.ref p) (upd H p (.lst vs)) :=
  h _ _ (js ++ [p]) (Grow.new r hp) (r.new hp q) (.ref (by rw [← r.len]; simp))
/-- a new object -/
theorem OkE.newO {ob : O} {Q : VK} {u : HO} {p : Addr} (h : OkE K H js (ok (.ref S.length) (S ++ [ob])) Q) (r : RelS K H js S) (q : RepO K H js ob (some u)) (hp : H p = none) : Q (.ref p) (upd H p u) :=
  h _ _ (js ++ [p]) (Grow.new r hp) (r.newO hp q) (.ref (by rw [← r.len]; simp))
end

/-- the readings -/
def rdE (K : PySem.W.Frag) (F : Orc) (e : E) : TE := fun σ H Q => ∃ js S ρ, RelS K H js S ∧ RepR K H js ρ σ ∧ OkE K H js (evE F e ρ S) Q
def rdEs (K : PySem.W.Frag) (F : Orc) (e : Es) : TA := fun σ H Q => ∃ js S ρ, RelS K H js S ∧ RepR K H js ρ σ ∧ OkA K H js (evEs F e ρ S) Q
def rdT (K : PySem.W.Frag) (F : Orc) (e : T) : TT := fun σ H Q => ∃ js S ρ, RelS K H js S ∧ RepR K H js ρ σ ∧ OkX K H js (evT F e ρ S) Q
def rdP (K : PySem.W.Frag) (F : Orc) (e : P) : TO := fun σ H Q => ∃ js S ρ, RelS K H js S ∧ RepR K H js ρ σ ∧ OkX K H js (evP F e ρ S) Q
section
variable {K : PySem.W.Frag} {H : Hp} {js : List Addr} {S S1 : Sto} {F : Orc} {ρ : Rho} {σ : L2.St}
theorem rdE.of {e : E} {x : D} {Q : VK} (h : evE F e ρ S = some (.ok x S1)) (rs : RelS K H js S) (rr : RepR K H js ρ σ) (q : ∀ v H1 js1, Grow H js H1 js1 → RelS K H1 js1 S1 → RepV K H1 js1 x v → Q v H1) : rdE K F e σ H Q :=
  ⟨js, S, ρ, rs, rr, by rw [h]; exact q⟩
theorem rdEs.of {e : Es} {x : List D} {Q : List V → Hp → Prop} (h : evEs F e ρ S = some (.ok x S1)) (rs : RelS K H js S) (rr : RepR K H js ρ σ) (q : ∀ v H1 js1, Grow H js H1 js1 → RelS K H1 js1 S1 → RepVs K H1 js1 x v → Q v H1) : rdEs K F e σ H Q :=
  ⟨js, S, ρ, rs, rr, by rw [h]; exact q⟩
theorem rdT.of {e : T} {x : Bool} {Q : Bool → Hp → Prop} (h : evT F e ρ S = some (.ok x S1)) (rs : RelS K H js S) (rr : RepR K H js ρ σ) (q : ∀ H1 js1, Grow H js H1 js1 → RelS K H1 js1 S1 → Q x H1) : rdT K F e σ H Q :=
  ⟨js, S, ρ, rs, rr, by rw [h]; exact q⟩
theorem rdP.of {e : P} {x : Option Int} {Q : Option Int → Hp → Prop} (h : evP F e ρ S = some (.ok x S1)) (rs : RelS K H js S) (rr : RepR K H js ρ σ) (q : ∀ H1 js1, Grow H js H1 js1 → RelS K H1 js1 S1 → Q x H1) : rdP K F e σ H Q :=
  ⟨js, S, ρ, rs, rr, by rw [h]; exact q⟩
end
end VM
/-! VC: the operations by values, over the layer. -/
namespace VM
open PySem PySem.Spec PyProof.Rows L2

section
variable {K : PySem.W.Frag} {H : Hp} {js : List Addr} {S : Sto}
theorem itemsOf_seq {x : D} {ds : List D} {v : V} (h : itemsOf S x = some ds) (rs : RelS K H js S) (r : RepV K H js x v) :
    ∃ a xs, v = .ref a ∧ RepVs K H js ds xs ∧ ((H a = some (.tup xs) ∧ x = .tup ds) ∨ (SqL K H a xs ∧ ∀ es, x ≠ .tup es)) := by
  cases r with
  | tup h1 n q => cases h; exact ⟨_, _, rfl, q, .inl ⟨h1, rfl⟩⟩
  | fz h1 q => cases h; exact ⟨_, _, rfl, q, .inr ⟨h1.sq, fun _ e => nomatch e⟩⟩
  | @ref n a h1 =>
    have h : (match S[n]? with
      | some (.lst ds) => some ds
      | _ => none) = some ds := h
    split at h
    · rename_i e2
      cases h
      obtain ⟨a', xs, e3, e4, e5⟩ := rs.list e2
      rw [h1] at e3; cases e3
      exact ⟨a, xs, rfl, e5, .inr ⟨.inl (.inl e4), fun _ e => nomatch e⟩⟩
    · cases h
  | _ => cases h
theorem itemsOf_any {x : D} {ds : List D} {v : V} (h : itemsOf S x = some ds) (rs : RelS K H js S) (r : RepV K H js x v) :
    ∃ a xs, v = .ref a ∧ RepVs K H js ds xs ∧ (SqL K H a xs ∨ SqT K H a xs) := by
  obtain ⟨a, xs, e, q, h⟩ := itemsOf_seq h rs r
  rcases h with ⟨h, _⟩ | ⟨h, _⟩
  · exact ⟨a, xs, e, q, .inr (.inl (.inl h))⟩
  · exact ⟨a, xs, e, q, .inl h⟩

/-! ### keys -/
theorem keyD_rep {d : D} {k : L2.Key} {v : V} (h : keyD d = some k) (r : RepV K H js d v) : v = kV k := by
  cases r <;> (unfold keyD at h; cases h) <;> rfl
theorem keysD_rep : ∀ {ds : List D} {ks : List L2.Key} {vs : List V}, keysD ds = some ks → RepVs K H js ds vs → vs = ks.map kV
  | [], ks, _, h, .nil => by cases h; rfl
  | d :: ds, ks, _, h, .cons r t => by
    unfold keysD at h
    split at h
    · rename_i k ks' e1 e2
      cases h
      rw [List.map_cons, keyD_rep e1 r, keysD_rep e2 t]
    · cases h
theorem RepK.lk {κ : Type} [DecidableEq κ] {k : κ} : ∀ {kvs : List (κ × D)} {vs : List (κ × V)}, RepK K H js kvs vs →
    (lkD kvs k = none ∧ valV vs k = none) ∨ ∃ d v, lkD kvs k = some d ∧ valV vs k = some v ∧ RepV K H js d v
  | [], [], _ => .inl ⟨rfl, rfl⟩
  | [], _ :: _, h => by cases h.1
  | _ :: _, [], h => by cases h.1
  | p :: kvs, q :: vs, h => by
    obtain ⟨h1, h2⟩ := h
    rw [List.map_cons, List.map_cons] at h1
    injection h1 with e1 e2
    cases h2 with
    | cons r t =>
      by_cases e : p.1 = k
      · refine .inr ⟨p.2, q.2, ?_, valV_pos (by rw [← e1]; exact e), r⟩
        simp [lkD, List.find?_cons, e]
      · rcases RepK.lk (k := k) (kvs := kvs) (vs := vs) ⟨e2, t⟩ with ⟨a, b⟩ | ⟨d, v, a, b, c⟩
        · refine .inl ⟨?_, by rw [valV_neg (by rw [← e1]; exact e)]; exact b⟩
          simpa [lkD, List.find?_cons, e] using a
        · refine .inr ⟨d, v, ?_, by rw [valV_neg (by rw [← e1]; exact e)]; exact b, c⟩
          simpa [lkD, List.find?_cons, e] using a
theorem RepK.len {κ : Type} {kvs : List (κ × D)} {vs : List (κ × V)} (h : RepK K H js kvs vs) : kvs.length = vs.length := by
  have := congrArg List.length h.1
  simpa using this
theorem RepK.put {κ : Type} [DecidableEq κ] {k : κ} {d : D} {v : V} {kvs : List (κ × D)} {vs : List (κ × V)} (h : RepK K H js kvs vs) (r : RepV K H js d v) : RepK K H js (putD kvs k d) (putK vs k v) := by
  have ea : (kvs.any fun kv => decide (kv.1 = k)) = (vs.any fun kv => decide (kv.1 = k)) := by
    have e1 : (kvs.any fun kv => decide (kv.1 = k)) = (kvs.map (·.1)).any fun x => decide (x = k) := by rw [List.any_map]; rfl
    have e2 : (vs.any fun kv => decide (kv.1 = k)) = (vs.map (·.1)).any fun x => decide (x = k) := by rw [List.any_map]; rfl
    rw [e1, e2, h.1]
  unfold putD putK
  rw [ea]
  by_cases a : (vs.any fun kv => decide (kv.1 = k)) = true
  · rw [if_pos a, if_pos a]
    clear a ea
    induction kvs generalizing vs with
    | nil =>
      cases vs with
      | nil => exact ⟨rfl, .nil⟩
      | cons _ _ => cases h.1
    | cons p kvs ih =>
      cases vs with
      | nil => cases h.1
      | cons q vs =>
        obtain ⟨h1, h2⟩ := h
        rw [List.map_cons, List.map_cons] at h1
        injection h1 with e1 e2
        cases h2 with
        | cons r0 t =>
          obtain ⟨i1, i2⟩ := ih (vs := vs) ⟨e2, t⟩
          have e3 : p.1 = q.1 := e1
          constructor
          · simp only [List.map_cons]
            rw [i1]
            congr 1
            rw [← e3]
            by_cases e : p.1 = k
            · rw [if_pos e, if_pos e]
            · rw [if_neg e, if_neg e, e3]
          · simp only [List.map_cons]
            refine .cons ?_ i2
            rw [← e3]
            by_cases e : p.1 = k
            · rw [if_pos e, if_pos e]; exact r
            · rw [if_neg e, if_neg e]; exact r0
  · rw [if_neg a, if_neg a]
    refine ⟨by rw [List.map_append, List.map_append, h.1]; rfl, ?_⟩
    rw [List.map_append, List.map_append]
    exact h.2.append (.cons r .nil)
/-- d[k] -/
theorem dget_rep {n : Nat} {k : D} {vk : V} {o : Option D} (h : dgetD S n k = some o) (rs : RelS K H js S) (rk : RepV K H js k vk) :
    ∃ a, js[n]? = some a ∧ ((o = none ∧ DGet H a vk none) ∨ ∃ d v, o = some d ∧ DGet H a vk (some v) ∧ RepV K H js d v) ∧ IsD H a := by
  unfold dgetD at h
  split at h
  · rename_i kvs e
    obtain ⟨a, vs, e1, e2, q⟩ := rs.dict e
    cases ek : keyD k with
    | none => rw [ek] at h; cases h
    | some kk =>
      rw [ek] at h
      cases h
      have := keyD_rep ek rk
      subst this
      refine ⟨a, e1, ?_, .inl ⟨vs, .inl e2⟩⟩
      have g := DGet.k (k := kk) e2
      rcases q.lk (k := kk) with ⟨x, y⟩ | ⟨d, v, x, y, z⟩
      · rw [y] at g; exact .inl ⟨x, g⟩
      · rw [y] at g; exact .inr ⟨d, v, x, g, z⟩
  · rename_i kvs e
    obtain ⟨a, vs, e1, e2, q⟩ := rs.dictT e
    cases ek : tkD k with
    | none => rw [ek] at h; cases h
    | some kk =>
      rw [ek] at h
      cases h
      unfold tkD at ek
      split at ek
      · cases rk with
        | tup h1 n1 q1 =>
          have := keysD_rep ek q1
          subst this
          refine ⟨a, e1, ?_, .inr ⟨vs, .inl e2⟩⟩
          have g := DGet.t (k := kk) e2 h1
          rcases q.lk (k := kk) with ⟨x, y⟩ | ⟨d, v, x, y, z⟩
          · rw [y] at g; exact .inl ⟨x, g⟩
          · rw [y] at g; exact .inr ⟨d, v, x, g, z⟩
      · cases ek
  · cases h
/-- d[k] = v -/
theorem dput_rep {n : Nat} {k v : D} {vk vv : V} {S' : Sto} (h : dputD S n k v = some S') (rs : RelS K H js S) (rk : RepV K H js k vk) (rv : RepV K H js v vv) :
    ∃ a H', js[n]? = some a ∧ DPut H a vk vv H' ∧ Grow H js H' js ∧ RelS K H' js S' := by
  unfold dputD at h
  split at h
  · rename_i kvs e
    obtain ⟨a, vs, e1, e2, q⟩ := rs.dict e
    split at h
    · rename_i kk ek
      split at h
      · rename_i hl
        cases h
        have := keyD_rep ek rk
        subst this
        exact ⟨a, _, e1, DPut.k e2 (by rw [← q.len]; exact hl), Grow.put rs e1, rs.putO (ob := .dic _) e1 (q.put rv)⟩
      · cases h
    · cases h
  · rename_i kvs e
    obtain ⟨a, vs, e1, e2, q⟩ := rs.dictT e
    split at h
    · rename_i kk ek
      split at h
      · rename_i hl
        cases h
        unfold tkD at ek
        split at ek
        · cases rk with
          | tup h1 n1 q1 =>
            have := keysD_rep ek q1
            subst this
            exact ⟨a, _, e1, DPut.t e2 h1 (by rw [← q.len]; exact hl), Grow.put rs e1, rs.putO (ob := .dit _) e1 (q.put rv)⟩
        · cases ek
      · cases h
    · cases h
  · cases h

/-! ### data -/
theorem mapO_rep {f : D → Option PyData} {n : Nat} (hf : ∀ d v p, f d = some p → RepV K H js d v → Dp K H v p ∧ p.plain = true ∧ p.depth ≤ n) :
    ∀ {ds : List D} {vs : List V} {ps : List PyData}, mapO f ds = some ps → RepVs K H js ds vs → DpAll K H vs ps ∧ PyData.plainAll ps = true ∧ PyData.depthAll ps ≤ n
  | [], _, _, e, .nil => by cases e; exact ⟨.nil, rfl, by simp [PyData.depthAll]⟩
  | d :: ds, _, ps, e, .cons h t => by
    unfold mapO at e
    split at e
    · rename_i p q e1 e2
      cases e
      obtain ⟨a1, a2, a3⟩ := hf _ _ _ e1 h
      obtain ⟨b1, b2, b3⟩ := mapO_rep hf e2 t
      refine ⟨.cons a1 b1, by rw [PyData.plainAll, a2, b2]; rfl, ?_⟩
      simp only [PyData.depthAll]
      omega
    · cases e
theorem toP_rep (rs : RelS K H js S) : ∀ (n : Nat) (d : D) (v : V) (p : PyData), toP S n d = some p → RepV K H js d v → Dp K H v p ∧ p.plain = true ∧ p.depth ≤ n := by
  intro n
  induction n with
  | zero =>
    intro d v p e r
    cases r <;> (unfold toP at e; cases e) <;> first
      | exact ⟨.non, rfl, by simp [PyData.depth]⟩
      | exact ⟨.bl _, rfl, by simp [PyData.depth]⟩
      | exact ⟨.int _, rfl, by simp [PyData.depth]⟩
      | exact ⟨.str _, rfl, by simp [PyData.depth]⟩
  | succ n ih =>
    intro d v p e r
    have flat : ∀ (a b : Nat), a ≤ b → a ≤ b := fun _ _ h => h
    cases r with
    | non => unfold toP at e; cases e; exact ⟨.non, rfl, by simp [PyData.depth]⟩
    | bl b => unfold toP at e; cases e; exact ⟨.bl _, rfl, by simp [PyData.depth]⟩
    | int i => unfold toP at e; cases e; exact ⟨.int _, rfl, by simp [PyData.depth]⟩
    | str x => unfold toP at e; cases e; exact ⟨.str _, rfl, by simp [PyData.depth]⟩
    | tup h m q =>
      unfold toP at e
      cases e1 : mapO (toP S n) _ with
      | none => rw [e1] at e; cases e
      | some ps =>
        rw [e1] at e; cases e
        obtain ⟨b1, b2, b3⟩ := mapO_rep ih e1 q
        exact ⟨.tup (.inl (.inl h)) b1, b2, by simp only [PyData.depth]; omega⟩
    | fz h q =>
      unfold toP at e
      cases e1 : mapO (toP S n) _ with
      | none => rw [e1] at e; cases e
      | some ps =>
        rw [e1] at e; cases e
        obtain ⟨b1, b2, b3⟩ := mapO_rep ih e1 q
        exact ⟨.lst h.sq b1, b2, by simp only [PyData.depth]; omega⟩
    | @ref k a h =>
      unfold toP at e
      cases e0 : S[k]? with
      | none => rw [e0] at e; cases e
      | some o =>
        rw [e0] at e
        cases o with
        | lst ds =>
          cases e1 : mapO (toP S n) ds with
          | none =>
            have e' : Option.map PyData.list (mapO (toP S n) ds) = some p := e
            rw [e1] at e'; cases e'
          | some ps =>
            have e' : Option.map PyData.list (mapO (toP S n) ds) = some p := e
            rw [e1] at e'; cases e'
            obtain ⟨a', xs, e3, e4, e5⟩ := rs.list e0
            rw [h] at e3; cases e3
            obtain ⟨b1, b2, b3⟩ := mapO_rep ih e1 e5
            exact ⟨.lst (.inl (.inl e4)) b1, b2, by simp only [PyData.depth]; omega⟩
        | dic _ => cases e
        | dit _ => cases e
        | ins _ _ => cases e
end

/-! ### operators -/
def rOp (K : PySem.W.Frag) (f : D → D → Sto → Out D) : R2 := fun vx vy H Q => ∃ js S x y, RelS K H js S ∧ RepV K H js x vx ∧ RepV K H js y vy ∧ OkE K H js (f x y S) Q
def opOf : Op2 → Operator
  | .add => .Add | .sub => .Sub | .mul => .Mult | .fdiv => .FloorDiv | .mod => .Mod | .pow => .Pow
def cmOf : Cm → CmpOp
  | .eq => .Eq | .ne => .NotEq | .lt => .Lt | .le => .LtE | .gt => .Gt | .ge => .GtE | .is => .Is | .isnot => .IsNot | .inn => .In | .notin => .NotIn
section
variable {X : Cx}
theorem rep_fold (z : Array Nat) : ∀ (n : Nat) (acc : Array Nat), (List.replicate n z).foldl (· ++ ·) acc = acc ++ (List.replicate n z.toList).flatten.toArray
  | 0, acc => by simp
  | n + 1, acc => by
    rw [List.replicate_succ, List.foldl_cons, rep_fold z n, List.replicate_succ, List.flatten_cons]
    apply Array.toList_inj.mp
    simp
theorem op_mulS : OpR X (binaryOp .Mult) (fun x y H Q => ∃ (z : Str) (k : Int), x = .str z ∧ y = .int k ∧ 0 ≤ k ∧ k ≤ 1000 ∧ z.length ≤ 1000 ∧ Q (.str ⟨(List.replicate k.toNat z.cps.toList).flatten.toArray⟩) H) := by
  intro pins s σ H x y v u Q I rx ry h
  obtain ⟨z, k, rfl, rfl, h0, h1, h2, q⟩ := h
  obtain ⟨t, rfl⟩ := rx
  obtain ⟨t', rfl⟩ := ry
  have hm : z.length * k.toNat ≤ 1000 * 1000 := Nat.mul_le_mul h2 (by omega)
  refine PySem.P.mul_str ?_ (fun _ _ => ?_) (fun _ _ => ?_) ?_
  · rw [decide_eq_false (by omega), decide_eq_false (by omega)]; rfl
  · intro hgt
    have h3 : (z.length : Int) ≤ (2 ^ 63 - 1) / k := by
      refine (Int.le_ediv_iff_mul_le (by omega)).mpr ?_
      have e : ((z.length : Int) * k) = ((z.length * k.toNat : Nat) : Int) := by
        rw [Int.natCast_mul, Int.toNat_of_nonneg h0]
      rw [e]
      omega
    omega
  · unfold Builtin.Str.tooLong
    exact decide_eq_false (by rw [sizeLine_eq]; omega)
  · have fin : ∀ y : Str, y = ⟨(List.replicate k.toNat z.cps.toList).flatten.toArray⟩ → ∀ (s' : Shared) (tk : Tok), Inv X pins σ H s' → EP X pins σ Q (.str y tk) s' := fun y e s' tk J => ⟨.str y, H, J, ⟨_, rfl⟩, by rw [e]; exact q⟩
    by_cases hk : k < 1
    · rw [if_pos hk]
      have e : k = 0 := by omega
      subst e
      exact ⟨by decide, fin _ rfl _ _ (I.tok _)⟩
    · rw [if_neg hk]
      by_cases hz : (k == 1 || z.length == 0) = true
      · rw [if_pos hz]
        refine fin _ ?_ _ _ I
        rcases Bool.or_eq_true_iff.mp hz with e | e
        · have e : k = 1 := eq_of_beq e
          subst e
          simp
        · have e : z.length = 0 := eq_of_beq e
          have e' : z.cps = #[] := Array.size_eq_zero_iff.mp e
          have e2 : z = ⟨#[]⟩ := by cases z; simp at e'; rw [e']
          rw [e2]
          simp
      · rw [if_neg hz]
        refine ⟨?_, fin _ ?_ _ _ (I.tok _)⟩
        · rw [rep_fold]
          show (#[] ++ (List.replicate k.toNat z.cps.toList).flatten.toArray).size ≤ sizeLine
          have e1 : (#[] ++ (List.replicate k.toNat z.cps.toList).flatten.toArray).size = k.toNat * z.length := by
            simp [Str.length]
          rw [e1, Nat.mul_comm, sizeLine_eq]
          omega
        · rw [rep_fold]; simp
theorem bop_ok (op : Op2) : OpR X (binaryOp (opOf op)) (rOp X.K (bop op)) := by
  intro pins s σ H vx vy v u Q I rx ry h
  obtain ⟨js, S, x, y, rs, r1, r2, h⟩ := h
  unfold bop at h
  split at h
  · cases r1; cases r2
    exact op_add pins s σ H _ _ v u Q I rx ry ⟨_, _, rfl, rfl, h.pure rs (.int _)⟩
  · cases r1; cases r2
    exact op_sub pins s σ H _ _ v u Q I rx ry ⟨_, _, rfl, rfl, h.pure rs (.int _)⟩
  · cases r1; cases r2
    split at h
    · rename_i c
      exact op_mul pins s σ H _ _ v u Q I rx ry ⟨_, _, rfl, rfl, c, h.pure rs (.int _)⟩
    · exact h.elim
  · cases r1; cases r2
    split at h
    · rename_i c
      exact op_fdiv pins s σ H _ _ v u Q I rx ry ⟨_, _, rfl, rfl, c, h.pure rs (.int _)⟩
    · exact h.elim
  · cases r1; cases r2
    split at h
    · rename_i c
      exact op_mod pins s σ H _ _ v u Q I rx ry ⟨_, _, rfl, rfl, c, h.pure rs (.int _)⟩
    · exact h.elim
  · cases r1; cases r2
    split at h
    · rename_i c
      exact op_pow pins s σ H _ _ v u Q I rx ry ⟨_, _, rfl, rfl, c, h.pure rs (.int _)⟩
    · exact h.elim
  · cases r1; cases r2
    split at h
    · rename_i c
      exact op_add_str pins s σ H _ _ v u Q I rx ry ⟨_, _, rfl, rfl, c, h.pure rs (.str _)⟩
    · exact h.elim
  · rename_i a b
    cases r1 with
    | @tup _ pa xs h1 n1 q1 =>
      cases r2 with
      | @tup _ pb ys h2 n2 q2 =>
        split at h
        · rename_i c
          refine op_catA pins s σ H _ _ v u Q I rx ry ⟨pa, pb, xs, ys, rfl, rfl, .inl (.inl h1), .inl (.inl h2), by rw [← q1.length, ← q2.length]; exact c, fun e => ?_, fun e e' => ?_, fun e e' p hp => ?_⟩
          · subst e
            cases q1
            exact h.pure rs (.tup h2 n2 q2)
          · subst e'
            cases q2
            rw [List.append_nil] at h
            exact h.pure rs (.tup h1 n1 q1)
          · exact h.tup rs (q1.append q2) hp
        · exact h.elim
  · cases r1 with
    | ref h1 =>
      cases r2 with
      | ref h2 =>
        split at h
        · rename_i xs ys e1 e2
          split at h
          · rename_i c
            obtain ⟨a', xs', e3, e4, e5⟩ := rs.list e1
            obtain ⟨b', ys', f3, f4, f5⟩ := rs.list e2
            rw [h1] at e3; cases e3
            rw [h2] at f3; cases f3
            refine op_cat pins s σ H _ _ v u Q I rx ry ⟨_, _, _, _, rfl, rfl, e4, f4, by rw [← e5.length, ← f5.length]; exact c, fun p hp => ?_⟩
            exact h.lst rs (e5.append f5) hp
          · exact h.elim
        · exact h.elim
  · rename_i a k
    cases r2
    cases r1 with
    | @tup _ pa xs h1 n1 q1 =>
      split at h
      · rename_i c
        obtain ⟨c1, c2, c3, c4⟩ := c
        refine op_repT pins s σ H _ _ v u Q I rx ry ⟨pa, _, xs, rfl, rfl, .inl (.inl h1), ?_, c2, c3, by rw [← q1.length]; exact c4, fun p hp => h.tup rs ?_ hp⟩
        · intro z
          subst z
          cases q1
          exact c1 rfl
        · clear h c2 c3 ry
          induction k.toNat with
          | zero => exact .nil
          | succ m ih =>
            rw [List.replicate_succ, List.replicate_succ, List.flatten_cons, List.flatten_cons]
            exact q1.append ih
      · exact h.elim
  · cases r1; cases r2
    split at h
    · rename_i c
      exact op_mulS pins s σ H _ _ v u Q I rx ry ⟨_, _, rfl, rfl, c.1, c.2.1, c.2.2, h.pure rs (.str _)⟩
    · exact h.elim
  · exact h.elim
theorem aug_ok (op : Op2) : PIp X (opOf op) (rOp X.K (augD op)) := by
  intro pins s σ H vx vy v u Q I rx ry h
  obtain ⟨js, S, x, y, rs, r1, r2, h⟩ := h
  unfold augD at h
  split at h
  · cases r1; cases r2
    exact ip_add pins s σ H _ _ v u Q I rx ry ⟨_, _, rfl, rfl, h.pure rs (.int _)⟩
  · cases r1; cases r2
    exact ip_sub pins s σ H _ _ v u Q I rx ry ⟨_, _, rfl, rfl, h.pure rs (.int _)⟩
  · exact h.elim

/-! ### comparisons -/
theorem OkE.lift {K : PySem.W.Frag} {H : Hp} {js : List Addr} {S : Sto} {o : Option Bool} {Q : VK} (h : OkE K H js (lift o S) Q) (rs : RelS K H js S) : ∃ b, o = some b ∧ Q (.bl b) H := by
  cases o with
  | none => exact h.elim
  | some b => exact ⟨b, rfl, OkE.pure (d := .bl b) h rs (.bl b)⟩
theorem eqD_ok {K : PySem.W.Frag} {H : Hp} {js : List Addr} {S : Sto} {x y : D} {vx vy : V} {b : Bool} (h : eqD x y S = some b) (rs : RelS K H js S) (r1 : RepV K H js x vx) (r2 : RepV K H js y vy) :
    ∃ p q, Dp K H vx p ∧ Dp K H vy q ∧ p.plain = true ∧ q.plain = true ∧ min p.depth q.depth ≤ 150 ∧ PyData.eqv p q = b := by
  unfold eqD at h
  split at h
  · rename_i p q e1 e2
    cases h
    obtain ⟨a1, a2, a3⟩ := toP_rep rs _ _ _ _ e1 r1
    obtain ⟨b1, b2, b3⟩ := toP_rep rs _ _ _ _ e2 r2
    exact ⟨p, q, a1, b1, a2, b2, by omega, rfl⟩
  · cases h
theorem inD_ok {x y : D} {vx vy : V} {b : Bool} {pins : List (Addr × Obj)} {s : Shared} {σ : L2.St} {H : Hp} {js : List Addr} {S : Sto} {v u : Value} {R : Value → Shared → Prop} (hu : X.A.units + 200 < cLine) (h : inD x y S = some b) (rs : RelS X.K H js S) (r1 : RepV X.K H js x vx) (r2 : RepV X.K H js y vy)
    (I : Inv X pins σ H s) (rx : RelV vx v) (ry : RelV vy u) (neg : Bool) (Q : VK) (q : Q (.bl (if neg then !b else b)) H) :
    wpAny (model X.prog X.w) X.A (compareOp (if neg then .NotIn else .In) v u) (EP X pins σ Q) X.xe s := by
  unfold inD at h
  split at h
  · split at h
    · rename_i i j _ c e
      cases h
      cases r1; cases r2
      have ei : i = ⟨#[c]⟩ := by
        cases i with
        | mk cps =>
          have e' : cps.toList = [c] := e
          have : cps = #[c] := Array.toList_inj.mp (by rw [e'])
          rw [this]
      subst ei
      cases neg with
      | false => exact op_in_sign pins s σ H _ _ v u Q I rx ry ⟨c, j, rfl, rfl, q⟩
      | true => exact op_notIn_sign pins s σ H _ _ v u Q I rx ry ⟨c, j, rfl, rfl, q⟩
    · cases h
  · rename_i n
    split at h
    · rename_i ds e
      split at h
      · rename_i p qs e1 e2
        cases h
        obtain ⟨a1, a2, a3⟩ := toP_rep rs _ _ _ _ e1 r1
        have e3 : toP S 150 (.ref n) = some (.list qs) := by
          show (match S[n]? with
            | some (.lst ds) => (mapO (toP S 149) ds).map PyData.list
            | _ => none) = _
          rw [e]
          show (mapO (toP S 149) ds).map PyData.list = _
          rw [e2]
          rfl
        obtain ⟨b1, b2, b3⟩ := toP_rep rs _ _ _ _ e3 r2
        obtain ⟨as, q1⟩ := Dp.reads I p vx v a1 rx
        have hu' : X.A.units + 1 + min (PyData.depthAll qs) p.depth < cLine := by omega
        obtain ⟨bs, q2⟩ := Dp.reads I (.list qs) vy u b1 ry
        cases neg with
        | false => exact SeqAt.in_list_data q2 q1 b2 a2 hu' ⟨.bl _, H, I, rfl, q⟩
        | true => exact SeqAt.notIn_list_data q2 q1 b2 a2 hu' ⟨.bl _, H, I, rfl, q⟩
      · cases h
    · cases e : dgetD S n x with
      | none => rw [e] at h; cases h
      | some o =>
        rw [e] at h
        cases h
        obtain ⟨a, e1, g, _⟩ := dget_rep e rs r1
        cases r2 with
        | ref h2 =>
          rw [h2] at e1
          cases e1
          cases (show u = Value.ref _ from ry)
          have hu1 : X.A.units + 1 < cLine := by omega
          rcases g with ⟨eo, g⟩ | ⟨d, w, eo, g, _⟩
          · subst eo
            cases neg with
            | false => exact d_in hu1 I g rx fun s3 I3 => ⟨.bl false, H, I3, rfl, q⟩
            | true => exact d_notIn hu1 I g rx fun s3 I3 => ⟨.bl true, H, I3, rfl, q⟩
          · subst eo
            cases neg with
            | false => exact d_in hu1 I g rx fun s3 I3 => ⟨.bl true, H, I3, rfl, q⟩
            | true => exact d_notIn hu1 I g rx fun s3 I3 => ⟨.bl false, H, I3, rfl, q⟩
  · have go : ∀ (p : PyData) (qs : List PyData), Dp X.K H vx p → p.plain = true → p.depth ≤ 150 → PyData.plainAll qs = true → b = (qs.any fun z => PyData.eqv z p) → (Dp X.K H vy (.tuple qs) ∨ Dp X.K H vy (.list qs)) →
        wpAny (model X.prog X.w) X.A (compareOp (if neg then .NotIn else .In) v u) (EP X pins σ Q) X.xe s := by
      intro p qs a1 a2 a3 b2 eb b1
      subst eb
      obtain ⟨as, q1⟩ := Dp.reads I p vx v a1 rx
      have hu' : X.A.units + 1 + min (PyData.depthAll qs) p.depth < cLine := by omega
      rcases b1 with b1 | b1
      · obtain ⟨bs, q2⟩ := Dp.reads I (.tuple qs) vy u b1 ry
        cases neg with
        | false => exact SeqAt.in_tuple_data q2 q1 b2 a2 hu' ⟨.bl _, H, I, rfl, q⟩
        | true => exact SeqAt.notIn_tuple_data q2 q1 b2 a2 hu' ⟨.bl _, H, I, rfl, q⟩
      · obtain ⟨bs, q2⟩ := Dp.reads I (.list qs) vy u b1 ry
        cases neg with
        | false => exact SeqAt.in_list_data q2 q1 b2 a2 hu' ⟨.bl _, H, I, rfl, q⟩
        | true => exact SeqAt.notIn_list_data q2 q1 b2 a2 hu' ⟨.bl _, H, I, rfl, q⟩
    split at h
    · rename_i p qs e1 e2
      cases h
      obtain ⟨a1, a2, a3⟩ := toP_rep rs _ _ _ _ e1 r1
      obtain ⟨b1, b2, b3⟩ := toP_rep rs _ _ _ _ e2 r2
      exact go p qs a1 a2 a3 b2 rfl (.inl b1)
    · rename_i p qs e1 e2
      cases h
      obtain ⟨a1, a2, a3⟩ := toP_rep rs _ _ _ _ e1 r1
      obtain ⟨b1, b2, b3⟩ := toP_rep rs _ _ _ _ e2 r2
      exact go p qs a1 a2 a3 b2 rfl (.inr b1)
    · cases h
theorem cop_ok (op : Cm) (hu : X.A.units + 200 < cLine) : OpR X (compareOp (cmOf op)) (rOp X.K (cop op)) := by
  intro pins s σ H vx vy v u Q I rx ry h
  obtain ⟨js, S, x, y, rs, r1, r2, h⟩ := h
  obtain ⟨b, e, q⟩ := OkE.lift h rs
  cases op with
  | eq =>
    obtain ⟨p, p', a1, b1, a2, b2, l, eb⟩ := eqD_ok e rs r1 r2
    subst eb
    obtain ⟨as, q1⟩ := Dp.reads I p vx v a1 rx
    obtain ⟨bs, q2⟩ := Dp.reads I p' vy u b1 ry
    exact SeqAt.eq_plain q1 q2 a2 b2 (by omega) ⟨.bl _, H, I, rfl, q⟩
  | ne =>
    have e : (eqD x y S).map (!·) = some b := e
    cases e2 : eqD x y S with
    | none => rw [e2] at e; cases e
    | some b' =>
      rw [e2] at e
      cases e
      obtain ⟨p, p', a1, b1, a2, b2, l, eb⟩ := eqD_ok e2 rs r1 r2
      subst eb
      obtain ⟨as, q1⟩ := Dp.reads I p vx v a1 rx
      obtain ⟨bs, q2⟩ := Dp.reads I p' vy u b1 ry
      exact SeqAt.ne_plain q1 q2 a2 b2 (by omega) ⟨.bl _, H, I, rfl, q⟩
  | lt =>
    unfold copB at e
    simp only at e
    split at e
    · cases e; cases r1; cases r2
      exact op_lt pins s σ H _ _ v u Q I rx ry ⟨_, _, rfl, rfl, q⟩
    · cases e
  | le =>
    unfold copB at e
    simp only at e
    split at e
    · cases e; cases r1; cases r2
      exact op_le pins s σ H _ _ v u Q I rx ry ⟨_, _, rfl, rfl, q⟩
    · cases e
  | gt =>
    unfold copB at e
    simp only at e
    split at e
    · cases e; cases r1; cases r2
      exact op_gt pins s σ H _ _ v u Q I rx ry ⟨_, _, rfl, rfl, q⟩
    · cases e
  | ge =>
    unfold copB at e
    simp only at e
    split at e
    · cases e; cases r1; cases r2
      exact op_ge pins s σ H _ _ v u Q I rx ry ⟨_, _, rfl, rfl, q⟩
    · cases e
  | is =>
    unfold copB at e
    simp only at e
    split at e
    · cases r2
      cases e
      refine op_isN pins s σ H _ _ v u Q I rx ry ⟨rfl, ?_⟩
      cases r1 <;> exact q
    · cases e
  | isnot =>
    unfold copB at e
    simp only at e
    split at e
    · cases r2
      cases e
      refine op_notN pins s σ H _ _ v u Q I rx ry ⟨rfl, ?_⟩
      cases r1 <;> exact q
    · cases e
  | inn => exact inD_ok hu e rs r1 r2 I rx ry false Q q (R := fun _ _ => True)
  | notin =>
    have e : (inD x y S).map (!·) = some b := e
    cases e2 : inD x y S with
    | none => rw [e2] at e; cases e
    | some b' =>
      rw [e2] at e
      cases e
      exact inD_ok hu e2 rs r1 r2 I rx ry true Q q (R := fun _ _ => True)
/-- one comparison's answer, for tests and chains -/
theorem copB_ok {op : Cm} {K : PySem.W.Frag} {H : Hp} {js : List Addr} {S : Sto} {x y : D} {b : Bool} {Q : VK} (h : copB op x y S = some b) (q : ∀ H' js', Grow H js H' js' → RelS K H' js' S → Q (.bl b) H') : OkE K H js (cop op x y S) Q := by
  unfold cop
  rw [h]
  intro v H' js' g r q'
  cases q'
  exact q H' js' g r

/-! ### truth -/
theorem tru_rep {K : PySem.W.Frag} {H : Hp} {js : List Addr} {S : Sto} {x : D} {v : V} {b : Bool} (h : tru x S = some b) (rs : RelS K H js S) (r : RepV K H js x v) : TruV K v H b := by
  cases r with
  | non => cases h; rfl
  | bl c => cases h; rfl
  | int i => cases h; rfl
  | str z =>
    have h : (if z.length ≤ sizeLine then some ((z.length : Int) != 0) else none) = some b := h
    split at h
    · cases h; rename_i c; exact ⟨c, rfl⟩
    · cases h
  | tup h1 n q =>
    cases h
    refine .inr (.inl ⟨_, .inl (.inl h1), ?_⟩)
    cases q <;> rfl
  | fz h1 q =>
    cases h
    refine .inl ⟨_, h1.sq, ?_⟩
    cases q <;> rfl
  | @ref n a h1 =>
    have h : (match S[n]? with
      | some (.lst ds) => some (!ds.isEmpty)
      | _ => none) = some b := h
    split at h
    · rename_i e
      cases h
      obtain ⟨a', xs, e3, e4, e5⟩ := rs.list e
      rw [h1] at e3; cases e3
      refine .inl ⟨xs, .inl (.inl e4), ?_⟩
      cases e5 <;> rfl
    · cases h

/-! ### items, slices, len -/
theorem atI_rep {K : PySem.W.Frag} {H : Hp} {js : List Addr} {ds : List D} {vs : List V} {i : Int} {d : D} (h : atI ds i = some d) (r : RepVs K H js ds vs) : ∃ v, atI vs i = some v ∧ RepV K H js d v := by
  unfold atI at h ⊢
  rw [← r.length]
  cases e : ixN ds.length i with
  | none => rw [e] at h; cases h
  | some j =>
    rw [e] at h
    exact r.get h
theorem idx_ok (hu : X.A.units + 200 < cLine) : IxR X (rOp X.K idxD) := by
  intro value slice pins s σ H vx vy v u Q I rx ry h hs
  obtain ⟨js, S, x, y, rs, r1, r2, h⟩ := h
  unfold idxD at h
  split at h
  · cases r1; cases r2
    split at h
    · rename_i c
      split at h
      · rename_i c' e
        exact ix_str value slice pins s σ H _ _ v u Q I rx ry ⟨_, _, _, rfl, rfl, c, e, h.pure rs (.str _)⟩ hs
      · exact h.elim
    · exact h.elim
  · cases r2
    cases r1 with
    | tup h1 n1 q1 =>
      split at h
      · rename_i d e2
        obtain ⟨w, e3, r3⟩ := atI_rep e2 q1
        exact ix_tup value slice pins s σ H _ _ v u Q I rx ry ⟨_, _, _, _, rfl, rfl, .inl (.inl h1), e3, h.pure rs r3⟩ hs
      · exact h.elim
  · cases r2
    cases r1 with
    | fz h1 q1 =>
      split at h
      · rename_i d e2
        obtain ⟨w, e3, r3⟩ := atI_rep e2 q1
        exact ix_list value slice pins s σ H _ _ v u Q I rx ry ⟨_, _, _, _, rfl, rfl, h1.sq, e3, h.pure rs r3⟩ hs
      · exact h.elim
  · cases r2
    cases r1 with
    | ref h1 =>
      split at h
      · rename_i ds e
        obtain ⟨a', xs, e3, e4, e5⟩ := rs.list e
        rw [h1] at e3; cases e3
        split at h
        · rename_i d e2
          obtain ⟨w, e6, r3⟩ := atI_rep e2 e5
          exact ix_list value slice pins s σ H _ _ v u Q I rx ry ⟨_, _, _, _, rfl, rfl, .inl (.inl e4), e6, h.pure rs r3⟩ hs
        · exact h.elim
      · exact h.elim
  · cases r1 with
    | ref h1 =>
      split at h
      · rename_i d e
        obtain ⟨a', e3, g, _⟩ := dget_rep e rs r2
        rw [h1] at e3; cases e3
        cases (show v = Value.ref _ from rx)
        rcases g with ⟨z, _⟩ | ⟨d', w, z, g, rw'⟩
        · cases z
        · cases z
          exact tail_any (dict_typeIs I g) PySem.F.slot_dict_getitem.lookup (d_getItem (by omega) I g ry fun w' s3 I3 r3 => ⟨w, H, I3, r3, h.pure rs rw'⟩) hs
      · exact h.elim
  · exact h.elim
theorem cut_rep {K : PySem.W.Frag} {H : Hp} {js : List Addr} {ds : List D} {vs : List V} (lo hi : Option Int) (r : RepVs K H js ds vs) : RepVs K H js (cutL ds lo hi) (cutV vs lo hi) := by
  unfold cutL cutV
  rw [r.length]
  exact (r.drop _).take _
def rSl (K : PySem.W.Frag) : V → Option Int → Option Int → Hp → VK → Prop := fun vx lo hi H Q => ∃ js S x, RelS K H js S ∧ RepV K H js x vx ∧ OkE K H js (slD x lo hi S) Q
theorem cutV_whole {xs : List V} {lo hi : Option Int} (h : HT.sIx xs.length 0 lo = 0 ∧ HT.sIx xs.length xs.length hi = xs.length) : cutV xs lo hi = xs := by
  unfold cutV
  rw [h.1, h.2]
  simp
theorem sl_ok : SlR X (rSl X.K) := by
  intro pins s σ H vx v vl vu lo hi sl Q I rx hs pl pu h
  obtain ⟨js, S, x, rs, r1, h⟩ := h
  unfold slD at h
  split at h
  · cases r1
    split at h
    · rename_i c
      exact sl_str pins s σ H _ v vl vu lo hi sl Q I rx hs pl pu ⟨_, rfl, c, h.pure rs (.str _)⟩
    · exact h.elim
  · cases r1 with
    | @tup _ a xs h1 n1 q1 =>
      have q2 := cut_rep lo hi q1
      refine sl_tupA pins s σ H _ v vl vu lo hi sl Q I rx hs pl pu ⟨a, xs, rfl, .inl (.inl h1), fun hw => ?_, fun _ p hp => h.tup rs q2 hp⟩
      rw [cutV_whole hw] at q2
      exact h.pure rs (.tup h1 n1 q2)
  · rename_i n1 n2
    split at h
    · rename_i ds e
      obtain ⟨a, xs, ev, q, hh⟩ := itemsOf_seq e rs r1
      subst ev
      rcases hh with ⟨_, hh⟩ | ⟨hh, _⟩
      · exact absurd hh (n2 ds)
      · exact sl_list pins s σ H _ v vl vu lo hi sl Q I rx hs pl pu ⟨a, xs, rfl, hh, fun p hp => h.lst rs (cut_rep lo hi q) hp⟩
    · exact h.elim

/-! ### built-in functions -/
def rBi (K : PySem.W.Frag) (f : List D → Sto → Out D) : List V → Hp → VK → Prop := fun vs H Q => ∃ js S ds, RelS K H js S ∧ RepVs K H js ds vs ∧ OkE K H js (f ds S) Q
def biN : Bi → Str
  | .len => "len" | .tuple => "tuple" | .list => "list" | .sum => "sum" | .all => "all" | .any => "any"
def biV : Bi → Value
  | .len => .builtin "len" | .tuple => .type "tuple" | .list => .type "list" | .sum => .builtin "sum" | .all => .builtin "all" | .any => .builtin "any"
theorem bi_ok (b : Bi) : CallR X (biV b) (rBi X.K (biD b)) := by
  intro pins s σ H vs us Q I r h
  obtain ⟨js, S, ds, rs, rv, h⟩ := h
  unfold biD at h
  split at h
  · cases rv with
    | cons r1 t =>
      cases t
      unfold lenD at h
      split at h
      · cases r1
        split at h
        · rename_i c
          exact call_len_str pins s σ H _ us Q I r ⟨_, rfl, c, h.pure rs (.int _)⟩
        · exact h.elim
      · split at h
        · rename_i es e
          obtain ⟨a, xs, ev, q, hh⟩ := itemsOf_any e rs r1
          subst ev
          have hq : Q (.int xs.length) H := by rw [← q.length]; exact h.pure rs (.int _)
          exact call_len_seq pins s σ H _ us Q I r ⟨_, _, rfl, hh, hq⟩
        · exact h.elim
  · cases rv with
    | cons r1 t =>
      cases t
      cases r1 with
      | tup h1 n1 q1 => exact call_tupleT pins s σ H _ us Q I r ⟨_, _, rfl, .inl (.inl h1), h.pure rs (.tup h1 n1 q1)⟩
  · rename_i x nx
    cases rv with
    | cons r1 t =>
      cases t
      split at h
      · rename_i es e
        obtain ⟨a, xs, ev, q, hh⟩ := itemsOf_seq e rs r1
        subst ev
        rcases hh with ⟨_, hh⟩ | ⟨hh, _⟩
        · exact absurd hh (nx es)
        · exact call_tuple_of pins s σ H _ us Q I r ⟨_, _, rfl, .inl ⟨hh, fun p hp => h.tup rs q hp⟩⟩
      · exact h.elim
  · cases rv with
    | cons r1 t =>
      cases t
      split at h
      · rename_i es e
        obtain ⟨a, xs, ev, q, hh⟩ := itemsOf_any e rs r1
        subst ev
        exact call_list_of pins s σ H _ us Q I r ⟨_, _, rfl, hh, fun p hp => h.lst rs q hp⟩
      · exact h.elim
  · exact h.elim
def rBm (K : PySem.W.Frag) (f : D → List D → Sto → Out D) : V → List V → Hp → VK → Prop := fun vx vs H Q => ∃ js S x ds, RelS K H js S ∧ RepV K H js x vx ∧ RepVs K H js ds vs ∧ OkE K H js (f x ds S) Q
theorem append_ok : MtR X "list.append" (rBm X.K (bmD .append)) := by
  intro pins s σ H vx vs v us Q I rx rv h
  obtain ⟨js, S, x, ds, rs, r1, r2, h⟩ := h
  unfold bmD at h
  split at h
  · cases r1 with
    | ref h1 =>
      cases r2 with
      | cons r3 t =>
        cases t
        split at h
        · rename_i xs e
          split at h
          · rename_i c
            obtain ⟨a', ws, e3, e4, e5⟩ := rs.list e
            rw [h1] at e3; cases e3
            have q5 := e5.append (RepVs.cons r3 .nil)
            refine mt_append pins s σ H _ _ v us Q I rx rv ⟨_, _, _, rfl, rfl, e4, by rw [← e5.length]; exact c, ?_⟩
            exact h .non _ js (Grow.put rs h1) (rs.put h1 q5) .non
          · exact h.elim
        · exact h.elim
  · contradiction
  · exact h.elim
theorem insert_ok : MtR X "list.insert" (rBm X.K (bmD .insert)) := by
  intro pins s σ H vx vs v us Q I rx rv h
  obtain ⟨js, S, x, ds, rs, r1, r2, h⟩ := h
  unfold bmD at h
  split at h
  · contradiction
  · cases r1 with
    | ref h1 =>
      cases r2 with
      | cons ri t =>
        cases ri
        cases t with
        | cons r3 t =>
          cases t
          split at h
          · rename_i xs e
            split at h
            · rename_i c
              obtain ⟨a', ws, e3, e4, e5⟩ := rs.list e
              rw [h1] at e3; cases e3
              have q5 := fun i : Nat => ((e5.take i).append (RepVs.cons r3 .nil)).append (e5.drop i)
              refine mt_insert pins s σ H _ _ v us Q I rx rv ⟨_, _, _, _, rfl, rfl, e4, by rw [← e5.length]; exact c.1, c.2.1, c.2.2, ?_⟩
              refine h .non _ js (Grow.put rs h1) (rs.put h1 ?_) .non
              simp only [List.append_assoc, List.cons_append, List.nil_append] at q5 ⊢
              exact q5 _
            · exact h.elim
          · exact h.elim
  · exact h.elim
end
end VM
/-! VD: when a term of the small language is what an expression of the text says; then the expression does what the term does. -/
namespace VM
open PySem PySem.Spec PyProof.Rows L2

/-! ### the look -/
structure Nm where
  N : List Str
  sc : Scope
  osc : Option Scope
  fs : List (Nat × Str)
  bs : List Str
  gs : List (Str × D)
def Nm.blk (nm : Nm) (scope : Scope) : Nm := { nm with sc := relS scope nm.sc, osc := some scope }
def visB (sc : Scope) (x : Str) : Bool := match sc.names.lookup x with
  | some .local => true | some .cell => true | some .free => true | _ => false
def locB (sc : Scope) (x : Str) : Bool := match sc.names.lookup x with
  | some .local => true | some .cell => true | _ => false
def glB (sc : Scope) (x : Str) : Bool := match sc.names.lookup x with
  | some .globalImplicit => true | _ => false
def cellB (sc : Scope) (x : Str) : Bool := match sc.names.lookup x with
  | some .cell => true | _ => false
def localB (sc : Scope) (x : Str) : Bool := match sc.names.lookup x with
  | some .local => true | _ => false
def fnB (nm : Nm) (x : Str) : Bool := match nm.osc with
  | none => true
  | some s => s.names.lookup x == some .cell
def tgB (nm : Nm) (i : Nat) (x : Str) : Bool := decide (nm.N[i]? = some x) && locB nm.sc x && (fnB nm x || localB nm.sc x)
def dbg (x : Str) : Bool := !(x == ("__debug__" : Str))
def flatB : D → D → Bool
  | .int i, .int j => decide (i = j)
  | .str x, .str y => decide (x = y)
  | _, _ => false
def gsB (gs : List (Str × D)) (x : Str) (d : D) : Bool := gs.any fun p => decide (p.1 = x) && flatB p.2 d
def opB : Op2 → Operator → Bool
  | .add, .Add => true | .sub, .Sub => true | .mul, .Mult => true | .fdiv, .FloorDiv => true | .mod, .Mod => true | .pow, .Pow => true | _, _ => false
def cmB : Cm → CmpOp → Bool
  | .eq, .Eq => true | .ne, .NotEq => true | .lt, .Lt => true | .le, .LtE => true | .gt, .Gt => true | .ge, .GtE => true | .is, .Is => true | .isnot, .IsNot => true | .inn, .In => true | .notin, .NotIn => true | _, _ => false
theorem opB_of {op : Op2} {o : Operator} (h : opB op o = true) : o = opOf op := by cases op <;> cases o <;> first | rfl | cases h
theorem cmB_of {op : Cm} {o : CmpOp} (h : cmB op o = true) : o = cmOf op := by cases op <;> cases o <;> first | rfl | cases h
def plainX : Expr → Bool
  | .Starred .. => false | .Set .. => false | .Slice .. => false | .SetComp .. => false | .DictComp .. => false | _ => true
def testX : Expr → Bool
  | .UnaryOp .Not _ _ => false | .BoolOp .. => false | .IfExp .. => false | .Compare .. => false | _ => true
def noSup : Expr → Bool
  | .Call (.Name _ _) [] [] _ => false | _ => true
def bmN : Bm → Str
  | .append => "append" | .insert => "insert"
def tyN : Ty → Str
  | .int => "int" | .bool => "bool" | .str => "str" | .tuple => "tuple" | .list => "list"
def tyS : Ty → String
  | .int => "int" | .bool => "bool" | .str => "str" | .tuple => "tuple" | .list => "list"
def smN : Sm → Str
  | .lower => "lower" | .upper => "upper"
def disKeys : List Str → List (Option Expr) → Bool
  | [], [] => true
  | k :: ks, some (.Constant (.str t) _ _) :: xs => decide (k = t) && disKeys ks xs
  | _, _ => false
/-- what gives pairs is walked by a tuple of names -/
def itTup : I → Expr → Bool
  | .enum _, .Tuple .. => true
  | .zip _ _, .Tuple .. => true
  | .enum _, _ => false
  | .zip _ _, _ => false
  | _, _ => true
def tgSl : Tg → List Nat
  | .nm i => [i]
  | .tp is => is
def mNames (nm : Nm) : List Nat → List Expr → Bool
  | [], [] => true
  | i :: is, .Name x _ :: xs => tgB nm i x && mNames nm is xs
  | _, _ => false
def mTg (nm : Nm) : Tg → Expr → Bool
  | .nm i, .Name x _ => tgB nm i x
  | .tp is, .Tuple xs _ _ => mNames nm is xs
  | _, _ => false
mutual
def mE (nm : Nm) : E → Expr → Bool
  | .var i, x => match x with
    | .Name s _ => decide (nm.N[i]? = some s) && visB nm.sc s && dbg s && !(s == ("__classdict__" : Str))
    | _ => false
  | .non, x => match x with | .Constant .none _ _ => true | _ => false
  | .bl b, x => match x with | .Constant (.bool c) _ _ => decide (b = c) | _ => false
  | .int i, x => match x with | .Constant (.int j) _ _ => decide (i = j) | _ => false
  | .str s, x => match x with | .Constant (.str t) _ _ => decide (s = t) | _ => false
  | .gc s d, x => match x with | .Name t _ => decide (s = t) && glB nm.sc s && dbg s && gsB nm.gs s d | _ => false
  | .tup es, x => match x with | .Tuple xs _ _ => decide (xs.length ≤ 1000) && mEs nm es xs | _ => false
  | .lst es, x => match x with | .List xs _ => decide (xs.length ≤ 1000) && mEs nm es xs | _ => false
  | .bin op a b, x => match x with | .BinOp l o r _ => opB op o && plainX l && mE nm a l && plainX r && mE nm b r | _ => false
  | .neg a, x => match x with | .UnaryOp .USub y _ => plainX y && mE nm a y | _ => false
  | .cmp op a b, x => match x with | .Compare l [o] [r] _ => cmB op o && plainX l && mE nm a l && plainX r && mE nm b r | _ => false
  | .chain op op' a b c, x => match x with
    | .Compare l [o, o'] [r, t] _ => cmB op o && cmB op' o' && plainX l && mE nm a l && plainX r && mE nm b r && plainX t && mE nm c t
    | _ => false
  | .and a b, x => match x with | .BoolOp .And (y :: z :: r) p => plainX y && mE nm a y && mE nm b (.BoolOp .And (z :: r) p) | _ => false
  | .or a b, x => match x with | .BoolOp .Or (y :: z :: r) p => plainX y && mE nm a y && mE nm b (.BoolOp .Or (z :: r) p) | _ => false
  | .one a, x => match x with | .BoolOp _ [y] _ => plainX y && mE nm a y | _ => false
  | .not a, x => match x with | .UnaryOp .Not y _ => plainX y && mE nm a y | _ => false
  | .ite c a b, x => match x with | .IfExp t y z _ => plainX t && mT nm c t && plainX y && mE nm a y && plainX z && mE nm b z | _ => false
  | .idx a i, x => match x with | .Subscript y z _ => plainX y && mE nm a y && plainX z && mE nm i z | _ => false
  | .sl a lo hi, x => match x with | .Subscript y (.Slice l h none _) _ => plainX y && mE nm a y && mP nm lo l && mP nm hi h | _ => false
  | .rev a, x => match x with
    | .Subscript y (.Slice none none (some (.UnaryOp .USub (.Constant (.int j) _ _) _)) _) _ => decide (j = 1) && plainX y && mE nm a y
    | _ => false
  | .call f es, x => match x with | .Call (.Name s _) xs [] _ => decide (nm.fs.lookup f = some s) && glB nm.sc s && dbg s && mEs nm es xs | _ => false
  | .bi b es, x => match x with | .Call (.Name s _) (y :: ys) [] _ => decide (s = biN b) && glB nm.sc s && decide (s ∈ nm.bs) && mEs nm es (y :: ys) | _ => false
  | .bm m o es, x => match x with
    | .Call (.Attribute y a apos) (z :: zs) [] cpos => decide (a = bmN m) && noSup y && (apos.endLine == cpos.line) && decide ((z :: zs).length < 20) && plainX y && mE nm o y && mEs nm es (z :: zs)
    | _ => false
  | .isi a t, x => match x with
    | .Call (.Name s _) [y, .Name z _] [] _ => decide (s = ("isinstance" : Str)) && glB nm.sc s && decide (s ∈ nm.bs) && decide (z = tyN t) && glB nm.sc z && decide (z ∈ nm.bs) && plainX y && mE nm a y
    | _ => false
  | .lrg a, x => match x with
    | .Call (.Name s _) [.Call (.Name z _) [y] [] _] [] _ => decide (s = ("list" : Str)) && glB nm.sc s && decide (s ∈ nm.bs) && decide (z = ("range" : Str)) && glB nm.sc z && decide (z ∈ nm.bs) && plainX y && mE nm a y
    | _ => false
  | .dnk, x => match x with | .Dict [] [] _ => true | _ => false
  | .dnt, x => match x with | .Dict [] [] _ => true | _ => false
  | .disp ks es, x => match x with | .Dict keys vals _ => decide (keys ≠ []) && decide (keys.length ≤ 15) && decide (keys.length = vals.length) && disKeys ks keys && mEs nm es vals | _ => false
  | .get1 d k, x => match x with
    | .Call (.Attribute y a apos) [z] [] cpos => decide (a = ("get" : Str)) && noSup y && (apos.endLine == cpos.line) && plainX y && mE nm d y && plainX z && mE nm k z
    | _ => false
  | .get2 d k e, x => match x with
    | .Call (.Attribute y a apos) [z, u] [] cpos => decide (a = ("get" : Str)) && noSup y && (apos.endLine == cpos.line) && plainX y && mE nm d y && plainX z && mE nm k z && plainX u && mE nm e u
    | _ => false
  | .sm m a, x => match x with
    | .Call (.Attribute y s apos) [] [] cpos => decide (s = smN m) && noSup y && (apos.endLine == cpos.line) && plainX y && mE nm a y
    | _ => false
  | .strip1 a b, x => match x with
    | .Call (.Attribute y s apos) [z] [] cpos => decide (s = ("strip" : Str)) && noSup y && (apos.endLine == cpos.line) && plainX y && mE nm a y && plainX z && mE nm b z
    | _ => false
  | .lc elt tg it c own, x => match x with
    | .ListComp y [⟨tx, ix, ifs, n⟩] scope _ => itTup it tx && decide (n = 0) && (tgSl tg).all (fun i => decide (i ∈ own.map (·.2))) && blkC nm.N nm.sc scope own && mTg (nm.blk scope) tg tx && plainX ix && mI nm it ix &&
        (match ifs with
         | [] => (match c with | .yes => true | _ => false)
         | [z] => plainX z && mT (nm.blk scope) c z
         | _ => false) && plainX y && mE (nm.blk scope) elt y
    | _ => false
def mEs (nm : Nm) : Es → List Expr → Bool
  | .nil, xs => match xs with | [] => true | _ => false
  | .cons e es, xs => match xs with | x :: xs => plainX x && mE nm e x && mEs nm es xs | _ => false
def mP (nm : Nm) : P → Option Expr → Bool
  | .no, x => match x with | none => true | _ => false
  | .e e, x => match x with | some y => plainX y && mE nm e y | _ => false
def mT (nm : Nm) : T → Expr → Bool
  | .yes, _ => false
  | .v e, x => testX x && mE nm e x
  | .cmp op a b, x => match x with | .Compare l [o] [r] _ => cmB op o && plainX l && mE nm a l && plainX r && mE nm b r | _ => false
  | .chain op op' a b c, x => match x with
    | .Compare l [o, o'] [r, t] _ => cmB op o && cmB op' o' && plainX l && mE nm a l && plainX r && mE nm b r && plainX t && mE nm c t
    | _ => false
  | .not t, x => match x with | .UnaryOp .Not y _ => plainX y && mT nm t y | _ => false
  | .and a b, x => match x with | .BoolOp .And (y :: z :: r) p => plainX y && mT nm a y && mT nm b (.BoolOp .And (z :: r) p) | _ => false
  | .or a b, x => match x with | .BoolOp .Or (y :: z :: r) p => plainX y && mT nm a y && mT nm b (.BoolOp .Or (z :: r) p) | _ => false
  | .one a, x => match x with | .BoolOp _ [y] _ => plainX y && mT nm a y | _ => false
def mI (nm : Nm) : I → Expr → Bool
  | .seq e, x => mE nm e x
  | .rng1 a, x => match x with
    | .Call (.Name s _) [y] [] _ => decide (s = ("range" : Str)) && glB nm.sc s && decide (s ∈ nm.bs) && plainX y && mE nm a y
    | _ => false
  | .rng2 a b, x => match x with
    | .Call (.Name s _) [y, z] [] _ => decide (s = ("range" : Str)) && glB nm.sc s && decide (s ∈ nm.bs) && plainX y && mE nm a y && plainX z && mE nm b z
    | _ => false
  | .enum a, x => match x with
    | .Call (.Name s _) [y] [] _ => decide (s = ("enumerate" : Str)) && glB nm.sc s && decide (s ∈ nm.bs) && plainX y && mE nm a y
    | _ => false
  | .zip a b, x => match x with
    | .Call (.Name s _) [y, z] [] _ => decide (s = ("zip" : Str)) && glB nm.sc s && decide (s ∈ nm.bs) && plainX y && mE nm a y && plainX z && mE nm b z
    | _ => false
end

/-! ### facts of the text -/
theorem star_plain {x : Expr} (h : plainX x = true) (xs : List Expr) (env : Env) : starEach (x :: xs) env = (false, eval x env) :: starEach xs env := by
  cases x <;> first | rfl | cases h
theorem folded_plain {x : Expr} (h : plainX x = true) (env : Env) : ∀ v, foldedSetIterable x env v = pure v := by
  intro v
  cases x <;> first | rfl | cases h
theorem behind_plain {x : Expr} (h : plainX x = true) (op : CmpOp) : behindInMarks op x = false := by
  cases x <;> first | rfl | cases h
theorem plainIx {x : Expr} (h : plainX x = true) : PlainIx x := by
  intro o i
  cases x <;> first | rfl | cases h
theorem noSup_base {x : Expr} (h : noSup x = true) (n : Str) (env : Env) : attributeBase x n env (eval x env) = eval x env := by
  unfold attributeBase
  split
  · rename_i id p pos
    cases h
  · rfl
theorem test_plain {x : Expr} (h : testX x = true) (env : Env) : ∀ whole, isTrue x env whole = (do let v ← whole; standAt x.pos; holding [v] (truthy v)) := by
  intro whole
  cases x <;> first
    | rfl
    | cases h
    | (rename_i op _ _; cases op <;> first | rfl | cases h)

/-! ### a context that fits -/
structure CallOk (X : Cx) (F : Orc) (f : Nat) (x : Str) (CT : CXT) (k : Nat) (a : Addr) (fd : FuncData) (ps : List Str) (sp : Sp) : Prop where
  fn : FnOk X.prog X.w X.K X.mg X.base CT k a fd ps sp
  room : Room k X.A
  mg : X.mg x = some (.ref a)
  kp : PySem.W.keepIn X.K (.ref a) = true
  bi : Binds X.K fd ps []
  nox : ∀ l H s u s', ¬ CT l H s E0 u s'
  sp : ∀ vs H Q, rBi X.K (F.call f) vs H Q → sp vs H Q E0
structure Good (X : Cx) (nm : Nm) (F : Orc) : Prop where
  calm : X.calm = true
  N : X.N = nm.N
  nd : X.N.Nodup
  sc : X.env.scope = nm.sc
  kind : X.env.scope.kind = .function
  fn : ∀ x, fnB nm x = true → X.fn x = true
  hu : X.A.units + 200 < cLine
  bs : ∀ x ∈ nm.bs, X.mg x = none
  gs : ∀ x d, gsB nm.gs x d = true → ∃ u v, X.mg x = some u ∧ RelV v u ∧ ∀ H js, RepV X.K H js d v
  call : ∀ f x, nm.fs.lookup f = some x → ∃ CT k a fd ps sp, CallOk X F f x CT k a fd ps sp
section
variable {X : Cx} {nm : Nm} {F : Orc}
theorem Good.vis (g : Good X nm F) {x : Str} (h : visB nm.sc x = true) : Vis X.env.scope x := by
  rw [g.sc]
  unfold visB at h
  split at h <;> first | exact .inl (by assumption) | exact .inr (.inl (by assumption)) | exact .inr (.inr (by assumption)) | cases h
theorem Good.loc (g : Good X nm F) {x : Str} (h : locB nm.sc x = true) : Loc X.env.scope x := by
  rw [g.sc]
  unfold locB at h
  split at h <;> first | exact .inl (by assumption) | exact .inr (by assumption) | cases h
theorem Good.gl (g : Good X nm F) {x : Str} (h : glB nm.sc x = true) : Gl X x := by
  show X.env.scope.names.lookup x = some .globalImplicit
  rw [g.sc]
  unfold glB at h
  split at h <;> first | assumption | cases h
theorem Good.at (g : Good X nm F) {i : Nat} {x : Str} (h : nm.N[i]? = some x) : X.N[i]? = some x := by rw [g.N]; exact h
theorem dbg_of {x : Str} (h : dbg x = true) : (x == ("__debug__" : Str)) = false := by
  unfold dbg at h
  simpa using h
structure TgOk (X : Cx) (i : Nat) (x : Str) : Prop where
  ix : X.N[i]? = some x
  loc : Loc X.env.scope x
  fn : X.fn x = true ∨ X.env.scope.names.lookup x = some .local
theorem Good.tg (g : Good X nm F) {i : Nat} {x : Str} (h : tgB nm i x = true) : TgOk X i x := by
  unfold tgB at h
  rw [Bool.and_eq_true, Bool.and_eq_true, decide_eq_true_eq, Bool.or_eq_true] at h
  obtain ⟨⟨h1, h2⟩, h3⟩ := h
  refine ⟨g.at h1, g.loc h2, ?_⟩
  rcases h3 with h3 | h3
  · exact .inl (g.fn x h3)
  · refine .inr ?_
    rw [g.sc]
    unfold localB at h3
    split at h3 <;> first | assumption | cases h3

/-! ### targets -/
theorem setMany_len : ∀ (is : List Nat) (ds : List D) (ρ ρ' : Rho), setMany is ds ρ = some ρ' → ds.length = is.length ∧ ρ'.length = ρ.length
  | [], [], _, _, e => by cases e; exact ⟨rfl, rfl⟩
  | [], _ :: _, _, _, e => by cases e
  | _ :: _, [], _, _, e => by cases e
  | i :: is, d :: ds, ρ, ρ', e => by
    obtain ⟨h1, h2⟩ := setMany_len is ds _ _ e
    rw [List.length_set] at h2
    exact ⟨by rw [List.length_cons, List.length_cons, h1], h2⟩
def TgOut (K : PySem.W.Frag) (sl : List Nat) (σ : L2.St) (ρ' : Rho) (js : List Addr) (H : Hp) (Q : L2.St → Hp → Prop) : Prop :=
  ∀ σ', RepR K H js ρ' σ' → σ'.length = σ.length → (∀ j, j ∉ sl → σ'[j]? = σ[j]?) → Q σ' H
def rdTg (K : PySem.W.Frag) (tg : Tg) : TG := fun v σ H Q => ∃ js d ρ ρ', RepV K H js d v ∧ RepR K H js ρ σ ∧ bindT tg d ρ = some ρ' ∧ TgOut K (tgSl tg) σ ρ' js H Q
def rdTgs (K : PySem.W.Frag) (is : List Nat) : TGs := fun vs σ H Q => ∃ js ds ρ ρ', RepVs K H js ds vs ∧ RepR K H js ρ σ ∧ setMany is ds ρ = some ρ' ∧ TgOut K is σ ρ' js H Q
theorem sTgs (g : Good X nm F) : ∀ (is : List Nat) (xs : List Expr), mNames nm is xs = true →
    PGs X xs (rdTgs X.K is) ∧ (assignEach xs X.env).length = is.length ∧ (assignEach xs X.env).findIdx? (·.1) = none
  | [], [], _ => ⟨⟨fun pins s σ H vs us Q I r h => by
      obtain ⟨js, ds, ρ, ρ', rv, rr, e, q⟩ := h
      cases ds with
      | cons _ _ => cases e
      | nil =>
        cases rv
        cases e
        exact pgs_nil.run pins s σ H [] us Q I r ⟨rfl, q σ rr rfl fun _ _ => rfl⟩⟩, rfl, rfl⟩
  | [], _ :: _, h => by unfold mNames at h; cases h
  | _ :: _, [], h => by unfold mNames at h; cases h
  | i :: is, x :: xs, h => by
    cases x with
    | Name y p =>
      unfold mNames at h
      rw [Bool.and_eq_true] at h
      obtain ⟨h1, h2⟩ := h
      have t := g.tg h1
      obtain ⟨r1, r2, r3⟩ := sTgs g is xs h2
      refine ⟨⟨fun pins s σ H vs us Q I r h => ?_⟩, ?_, ?_⟩
      · obtain ⟨js, ds, ρ, ρ', rv, rr, e, q⟩ := h
        cases ds with
        | nil => cases e
        | cons d ds =>
          cases rv with
          | cons rv1 rv2 =>
            refine (pgs_cons (pg_name g.nd t.ix t.loc t.fn) r1 (by rfl)).run pins s σ H _ us Q I r ⟨_, _, rfl, ?_⟩
            refine ⟨js, ds, ρ.set i (some d), ρ', rv2, rr.set rv1 i, e, fun σ' r' hl hj => q σ' r' (by rw [hl, List.length_set]) fun j hn => ?_⟩
            rw [hj j fun z => hn (List.mem_cons_of_mem _ z), List.getElem?_set_ne fun z => hn (by rw [z]; exact List.mem_cons_self)]
      · show (assignEach xs X.env).length + 1 = is.length + 1
        rw [r2]
      · show List.findIdx? (·.1) ((false, assign (.Name y p) X.env) :: assignEach xs X.env) = none
        rw [List.findIdx?_cons, r3]
        rfl
    | _ => unfold mNames at h; cases h
theorem sTg (g : Good X nm F) (tg : Tg) (x : Expr) (h : mTg nm tg x = true) : PG X x (rdTg X.K tg) := by
  cases tg with
  | nm i =>
    cases x with
    | Name y p =>
      have t := g.tg (show tgB nm i y = true from h)
      refine ⟨fun pins s σ H v u Q I r h => ?_⟩
      obtain ⟨js, d, ρ, ρ', rv, rr, e, q⟩ := h
      cases e
      exact (pg_name g.nd t.ix t.loc t.fn).run pins s σ H v u Q I r (q _ (rr.set rv i) (by rw [List.length_set]) fun j hn => List.getElem?_set_ne fun z => hn (by rw [z]; exact List.mem_cons_self))
    | _ => cases h
  | tp is =>
    cases x with
    | Tuple xs k p =>
      obtain ⟨r1, r2, r3⟩ := sTgs g is xs h
      refine ⟨fun pins s σ H v u Q I r h => ?_⟩
      obtain ⟨js, d, ρ, ρ', rv, rr, e, q⟩ := h
      cases rv with
      | tup h1 n1 q1 =>
        refine (pg_tup g.calm r1 r2 r3).run pins s σ H _ u Q I r ⟨_, _, rfl, .inl (.inl h1), ?_, js, _, ρ, ρ', q1, rr, e, q⟩
        rw [← q1.length]
        exact (setMany_len _ _ _ _ e).1
      | _ => cases e
    | _ => cases h
end
end VM
/-! VT: enumerate over a tuple, zip over a tuple and a list. -/
namespace VM
open PySem PySem.Spec PyProof.Rows L2

theorem meets_enumerate_newT (l : Addr) (items : Array Value) :
    Meets (Builtin.«enumerate.__new__» ⟨[.type "enumerate", .ref l], []⟩) (fun _ R s => s.heap.IsTuple l items ∧
      R (.ok (.ret (.ref (s.heap.push { cls := .type "tuple_iterator", data := .fields #[.ref l, .int 0 0] }).objs.size)))
        { s with heap := (s.heap.push { cls := .type "tuple_iterator", data := .fields #[.ref l, .int 0 0] }).push { cls := .type "enumerate", data := .fields #[.none, .bool false, .ref s.heap.objs.size, rawInt 0, .none, .none] } }) :=
  .of_wp fun prog w A R s h => by
    obtain ⟨hp, g, d, tk, os⟩ := s; obtain ⟨hl, h⟩ := h
    have hsub := sub_enumerate
    have q1 : ∀ {A' : Around} {E : Value → Shared → Prop} {Q : Value → Shared → Prop}, Q (.ref hp.objs.size) ⟨hp.push { cls := .type "tuple_iterator", data := .fields #[.ref l, .int 0 0] }, g, d, tk, os⟩ → wpAny (model prog w) A' (pyIter (.ref l)) Q E ⟨hp, g, d, tk, os⟩ :=
      fun q => wpAny_pyIter_tuple hl q
    wp_walk using q1
    refine wpAny_stack_any fun st => wpAny_pure ?_
    split
    · rename_i c _ _ _ _ _
      cases (c == Value.type "enumerate")
      · wp_walk using q1
        exact ⟨_, rfl, h⟩
      · wp_walk using q1
        exact ⟨_, rfl, h⟩
    · wp_walk using q1
      exact ⟨_, rfl, h⟩
section
variable {prog : Program} {w : World} {A : Around} {E : Value → Shared → Prop} {s : Shared}
theorem call_enumerate_tuple {l : Addr} {items : Array Value} {Q : Value → Shared → Prop} (hL : s.heap.IsTuple l items)
    (h : ∀ h', IsEnum h' (s.heap.objs.size + 1) s.heap.objs.size 0 .none → h'.IsTupleIter s.heap.objs.size l 0 → h'.objs.size = s.heap.objs.size + 2 →
      (∀ b o, s.heap.get? b = some o → h'.get? b = some o) → Q (.ref (s.heap.objs.size + 1)) { s with heap := h' }) :
    wpAny (model prog w) A (call (.type "enumerate") [.ref l]) Q E s := by
  refine callType_new PySem.F.called_enumerate (by decide) (PySem.F.typeCall_enumerate_1 _) (PySem.F.newCall_enumerate_1 _) (fun obj => PySem.F.args_object_init_2 obj _) PySem.F.entry_enumerate_new
    (meets_enumerate_newT l items) ⟨hL, ?_⟩
  have hz : (s.heap.push { cls := .type "tuple_iterator", data := .fields #[.ref l, .int 0 0] }).objs.size = s.heap.objs.size + 1 := Heap.size_push ..
  show _ ∧ _
  rw [hz]
  have he : IsEnum ((s.heap.push { cls := .type "tuple_iterator", data := .fields #[.ref l, .int 0 0] }).push
      { cls := .type "enumerate", data := .fields #[.none, .bool false, .ref s.heap.objs.size, rawInt 0, .none, .none] }) (s.heap.objs.size + 1) s.heap.objs.size 0 .none := by
    have := Heap.get?_push_size (s.heap.push { cls := .type "tuple_iterator", data := .fields #[.ref l, .int 0 0] })
      (o := { cls := .type "enumerate", data := .fields #[.none, .bool false, .ref s.heap.objs.size, rawInt 0, .none, .none] }) rfl
    rw [hz] at this; exact this
  refine ⟨⟨_, he, rfl⟩, h _ he ⟨_, Heap.get?_push_of_some _ (Heap.get?_push_size _ rfl), rfl, rfl⟩ (by rw [Heap.size_push, hz]) fun b o x => Heap.get?_push_of_some _ (Heap.get?_push_of_some _ x)⟩
end
/-- the tuple at a, n items, each in a new pair -/
def IteT (K : PySem.W.Frag) (a : Addr) (n : Nat) : L2.It :=
  ⟨fun i H => ∃ (xs : List V) (x : V), SqT K H a xs ∧ xs.length = n ∧ xs[i]? = some x, fun i H v H' => ∃ T x, v = .ref T ∧ H T = none ∧ H' = upd H T (.tup [.int (i : Nat), x]) ∧ ∀ xs, SqT K H a xs → xs[i]? = some x,
    fun i H => ∃ xs : List V, SqT K H a xs ∧ xs.length = n ∧ n ≤ i⟩
theorem turn_enumT {P : Program} {w : World} {K : PySem.W.Frag} {elts : List Expr} {kk : Nat} {tpos : Pos} (a e it : Addr) (n : Nat) (hai : a ≠ it) (hae : a ≠ e) :
    Turn P w K (.Tuple elts kk tpos) (IteT K a n) [e, it] e (fun i h => (∃ old, IsEnum h e it ((i : Nat) : Int) old) ∧ h.IsTupleIter it a i ∧ e ≠ it ∧ i ≤ n) where
  mem := by simp
  obj := fun i h st b hb => by
    obtain ⟨⟨old, he⟩, ⟨o, ho, hc, hd⟩, _⟩ := st
    have e' : b = e ∨ b = it := by simpa using hb
    rcases e' with z | z
    · rw [z]; exact ⟨_, he, fun v q => nomatch q⟩
    · rw [z]; exact ⟨o, ho, fun v q => by rw [hd] at q; cases q⟩
  keep := fun i h h' st k => let ⟨⟨old, he⟩, hi, hne⟩ := st; ⟨⟨old, k e (by simp) _ he⟩, hi.at fun o q => k it (by simp) o q, hne⟩
  item := by
    intro X hP hw hK hc i pins s σ H E I hf st hg
    subst hP hw hK
    obtain ⟨⟨old, he⟩, hit, hne, hin⟩ := st
    obtain ⟨xs, x, hq, hn, hx⟩ := hg
    obtain ⟨its, rv, p, hz⟩ := I.tuple hq
    obtain ⟨u, hu, ru⟩ := rv.get hx
    have hel : e < s.heap.objs.size := Heap.lt_size he
    have hil : it < s.heap.objs.size := by obtain ⟨_, q, _⟩ := hit; exact Heap.lt_size q
    have hlt : i < its.toArray.size := by
      have := (List.getElem?_eq_some_iff.mp hu).1
      simpa using this
    have hh : X.A.in1.handled = none := I.ok.hd hc
    refine wpAny_pyNext_enum_itemD (Draws.tuple hh it a hai its.toArray) he ⟨hit, p⟩ hlt hne (by simp [hne, Ne.symm hae]) fun x' h' tk hP ho hst hT hsz hk => ?_
    have hxu : x' = u := by
      have : its.toArray[i]? = some x' := hP
      rw [show its.toArray[i]? = its[i]? by simp, hu] at this
      exact (Option.some.inj this).symm
    subst hxu
    refine ⟨_, rfl, wpAny_letOwnedTupleGo_enum (s := { s with heap := h', toks := tk + 1 }) ho fun h'' he' sb => ?_⟩
    have hT2 : h''.get? s.heap.objs.size = some { cls := .type "tuple", data := .seq #[.int i tk, x'] } := (sb.2 _ (Nat.ne_of_gt hel)).trans hT
    have new : ObjOk X.prog X.w (upd H s.heap.objs.size (.tup [.int (i : Nat), x])) h'' s.heap.objs.size (.tup [.int (i : Nat), x]) :=
      ⟨by show 2 ≤ sizeLine; decide, [.int i tk, x'], .cons ⟨_, rfl⟩ (.cons ru .nil), ⟨_, hT2, rfl, _, rfl⟩⟩
    have I1 : Inv X pins σ (upd H s.heap.objs.size (.tup [.int (i : Nat), x])) { s with heap := h'', toks := tk + 1 } :=
      I.turnedNew (ch := [e, it]) (fun b ob hb q => (sb.2 b (fun z => hb (by simp [z]))).trans (hk b ob (fun z => hb (by simp [z])) (fun z => hb (by simp [z])) q)) hf (Nat.le_refl _) new
    have hsiz : its.length = n := by rw [← rv.length]; exact hn
    refine ⟨.ref s.heap.objs.size, _, I1, rfl, ⟨_, x, rfl, I.hok.fresh (Nat.le_refl _), rfl, fun ys hy => by rw [I.tuple_inj hy hq]; exact hx⟩, ⟨⟨x', ?_⟩, hst.1.at fun o q => (sb.2 it (Ne.symm hne)).trans q, hne, ?_⟩, fun b hb => ?_⟩
    · have e1 : ((i + 1 : Nat) : Int) = (i : Int) + 1 := by omega
      rw [e1]; exact he'
    · have : i < its.length := by simpa using hlt
      omega
    · have hb' : b < s.heap.objs.size := by
        have e' : b = e ∨ b = it := by simpa using hb
        rcases e' with z | z
        · rw [z]; exact hel
        · rw [z]; exact hil
      rw [upd_ne (Nat.ne_of_lt hb')]
      exact (hf b hb).1
  done := by
    intro X hP hw hK hc i pins s σ H E I hf st hg
    subst hP hw hK
    obtain ⟨⟨old, he⟩, hit, hne, hin⟩ := st
    obtain ⟨xs, hq, hn, hx⟩ := hg
    obtain ⟨its, rv, p, hz⟩ := I.tuple hq
    obtain ⟨f0, f1, f2, f3, f4, f5⟩ := hf it (by simp)
    have hl := rv.length
    have hh : X.A.in1.handled = none := I.ok.hd hc
    have hi : i = its.toArray.size := by simp; omega
    subst hi
    exact wpAny_pyNext_enum_endD (Draws.tuple hh it a hai its.toArray) he ⟨hit, p⟩ fun h' eb => ⟨rfl, I.turned (t' := s.toks) (fun b o hb q => eb b o hb q) f0 f1 f3 f4 f5⟩
  self := fun A i s Q E st h => let ⟨⟨_, he⟩, _⟩ := st; wpAny_pyIter_enum he h
def iEnumT (K : PySem.W.Frag) (ta : TA) : TI := fun σ H R => ta σ H fun vs H1 => ∃ a xs, vs = [.ref a] ∧ ((SqL K H1 a xs ∧ R (Ite K a) H1) ∨ (SqT K H1 a xs ∧ R (IteT K a xs.length) H1))
theorem pi_enumT {X : Cx} {e : Expr} {ta : TA} {p pos tpos : Pos} {elts : List Expr} {kk : Nat} (hg : Gl X "enumerate") (hm : X.mg "enumerate" = none) (ha : PA X [e] ta) (hs : starEach [e] X.env = [(false, eval e X.env)] := by rfl) :
    PI X (.Tuple elts kk tpos) (.Call (.Name "enumerate" p) [e] [] pos) (iEnumT X.K ta) := by
  refine ⟨fun pins s σ H R I h => ?_⟩
  refine Call_ (ld_blt I hg hm boot_enumerate (PyProof.Rows.callWith_type1 (thn (ha.run pos pins s σ H _ I h) fun us s1 ⟨vs, H1, I1, r1, q1⟩ => ?_) hs rfl))
  obtain ⟨a, xs, ex, hq⟩ := q1
  subst ex
  cases r1 with
  | cons r rr =>
    cases rr
    cases r
    have apart : ∀ b, b ∈ [s1.heap.objs.size + 1, s1.heap.objs.size] → FpOk X pins H1 b := fun b hb => by
      have e' : b = s1.heap.objs.size + 1 ∨ b = s1.heap.objs.size := by simpa using hb
      have hle : s1.heap.objs.size ≤ b := by
        rcases e' with z | z
        · rw [z]; exact Nat.le_add_right _ _
        · rw [z]; exact Nat.le_refl _
      exact I1.fpOk hle (I1.hok.fresh hle)
    rcases hq with ⟨hq, q⟩ | ⟨hq, q⟩
    · obtain ⟨its, rv, p', hz⟩ := I1.list hq
      refine call_enumerate_list p'.isList fun h' he hit hsz hk => wpAny_pyIter_enum he ?_
      have I2 : Inv X pins σ H1 { s1 with heap := h' } := I1.kept (t' := s1.toks) hk
      exact ⟨s1.heap.objs.size + 1, [s1.heap.objs.size + 1, s1.heap.objs.size], _, _, H1, rfl, I2, turn_enum a (s1.heap.objs.size + 1) s1.heap.objs.size, ⟨⟨.none, he⟩, hit, Nat.succ_ne_self _⟩, apart, q⟩
    · obtain ⟨its, rv, p', hz⟩ := I1.tuple hq
      have la : a < s1.heap.objs.size := by obtain ⟨_, q, _⟩ := p'; exact Heap.lt_size q
      refine call_enumerate_tuple p' fun h' he hit hsz hk => wpAny_pyIter_enum he ?_
      have I2 : Inv X pins σ H1 { s1 with heap := h' } := I1.kept (t' := s1.toks) hk
      exact ⟨s1.heap.objs.size + 1, [s1.heap.objs.size + 1, s1.heap.objs.size], _, _, H1, rfl, I2, turn_enumT a (s1.heap.objs.size + 1) s1.heap.objs.size xs.length (Nat.ne_of_lt la) (Nat.ne_of_lt (Nat.lt_succ_of_lt la)), ⟨⟨.none, he⟩, hit, Nat.succ_ne_self _, Nat.zero_le _⟩, apart, q⟩

/-- the tuple at a (n items) and the list at b (m items), the items in new pairs -/
def ItzTL (K : PySem.W.Frag) (a b : Addr) (n m : Nat) : L2.It :=
  ⟨fun i H => ∃ (xs ys : List V) (x y : V), SqT K H a xs ∧ SqL K H b ys ∧ xs.length = n ∧ ys.length = m ∧ xs[i]? = some x ∧ ys[i]? = some y,
    fun i H v H' => ∃ T x y, v = .ref T ∧ H T = none ∧ H' = upd H T (.tup [x, y]) ∧ (∀ xs, SqT K H a xs → xs[i]? = some x) ∧ ∀ ys, SqL K H b ys → ys[i]? = some y,
    fun i H => ∃ xs ys : List V, SqT K H a xs ∧ SqL K H b ys ∧ xs.length = n ∧ ys.length = m ∧ (n ≤ i ∨ m ≤ i)⟩
theorem turn_zipTL {P : Program} {w : World} {K : PySem.W.Frag} {elts : List Expr} {kk : Nat} {tpos : Pos} {a b z TI TO i1 i2 : Addr} {n m : Nat} (D : ZipSep2 z TI TO i1 i2 [i1, a] [i2, b]) (ha1 : a ≠ i1) (hb2 : b ≠ i2) (h12 : i1 ≠ i2) :
    Turn P w K (.Tuple elts kk tpos) (ItzTL K a b n m) [z, TI, TO, i1, i2] z (fun i h => IsZip h z TI TO .none ∧ IsTupOf2 h TI (.ref i1) (.ref i2) ∧ (∃ x y, IsTupOf2 h TO x y) ∧ h.IsTupleIter i1 a i ∧ h.IsListIter i2 b i ∧ i ≤ n ∧ i ≤ m) where
  mem := by simp
  obj := fun i h st c hc => by
    obtain ⟨hz, hTI, ⟨x, y, hTO⟩, ⟨o1, e1, _, d1⟩, ⟨o2, e2, _, d2⟩, _⟩ := st
    have e' : c = z ∨ c = TI ∨ c = TO ∨ c = i1 ∨ c = i2 := by simpa using hc
    rcases e' with q | q | q | q | q
    · rw [q]; exact ⟨_, hz, fun v q => nomatch q⟩
    · rw [q]; exact ⟨_, hTI, fun v q => nomatch q⟩
    · rw [q]; exact ⟨_, hTO, fun v q => nomatch q⟩
    · rw [q]; exact ⟨o1, e1, fun v q => by rw [d1] at q; cases q⟩
    · rw [q]; exact ⟨o2, e2, fun v q => by rw [d2] at q; cases q⟩
  keep := fun i h h' st k => by
    obtain ⟨hz, hTI, ⟨x, y, hTO⟩, h1, h2, hn⟩ := st
    exact ⟨k z (by simp) _ hz, k TI (by simp) _ hTI, ⟨x, y, k TO (by simp) _ hTO⟩, h1.at fun o q => k i1 (by simp) o q, h2.at fun o q => k i2 (by simp) o q, hn⟩
  item := by
    intro X hP hw hK hc i pins s σ H E I hf st hg
    subst hP hw hK
    obtain ⟨hz, hTI, ⟨x0, y0, hTO⟩, h1, h2, hn1, hn2⟩ := st
    obtain ⟨xs, ys, x, y, hqx, hqy, ln, lm, hx, hy⟩ := hg
    obtain ⟨its, rv, p, _⟩ := I.tuple hqx
    obtain ⟨its2, rv2, p2, _⟩ := I.list hqy
    obtain ⟨u, hu, ru⟩ := rv.get hx
    obtain ⟨u2, hu2, ru2⟩ := rv2.get hy
    have hzl : z < s.heap.objs.size := Heap.lt_size hz
    have hh : X.A.in1.handled = none := I.ok.hd hc
    have hl1 : i < its.length := (List.getElem?_eq_some_iff.mp hu).1
    have hl2 : i < its2.length := (List.getElem?_eq_some_iff.mp hu2).1
    refine wpAny_pyNext_zipD2_item D (Draws.tuple hh i1 a ha1 its.toArray) (Draws.list hh i2 b hb2 its2.toArray) hz hTI hTO ⟨h1, p⟩ ⟨h2, p2.isList⟩ (by simpa using hl1) (by simpa using hl2) fun x' y' h' tk hP1 hP2 z' TO' st1 st2 hT hsz hk => ?_
    have hxu : x' = u := by
      have : its.toArray[i]? = some x' := hP1
      rw [show its.toArray[i]? = its[i]? by simp, hu] at this
      exact (Option.some.inj this).symm
    have hyu : y' = u2 := by
      have : its2.toArray[i]? = some y' := hP2
      rw [show its2.toArray[i]? = its2[i]? by simp, hu2] at this
      exact (Option.some.inj this).symm
    subst hxu hyu
    have kTI : h'.get? TI = some { cls := .type "tuple", data := .seq #[.ref i1, .ref i2] } := hk TI _ D.TIz D.TITO D.TIi1 D.TIi2 hTI
    refine ⟨_, rfl, wpAny_letOwnedTupleGo_zip (s := { s with heap := h', toks := tk }) z' fun h'' z'' sb => ?_⟩
    have hT2 : h''.get? s.heap.objs.size = some { cls := .type "tuple", data := .seq #[x', y'] } := (sb.2 _ (Nat.ne_of_gt hzl)).trans hT
    have new : ObjOk X.prog X.w (upd H s.heap.objs.size (.tup [x, y])) h'' s.heap.objs.size (.tup [x, y]) :=
      ⟨by show 2 ≤ sizeLine; decide, [x', y'], .cons ru (.cons ru2 .nil), ⟨_, hT2, rfl, _, rfl⟩⟩
    have I1 : Inv X pins σ (upd H s.heap.objs.size (.tup [x, y])) { s with heap := h'', toks := tk } :=
      I.turnedNew (t' := tk) (ch := [z, TI, TO, i1, i2]) (fun c o hb q => (sb.2 c (fun q' => hb (by simp [q']))).trans (hk c o (fun q' => hb (by simp [q'])) (fun q' => hb (by simp [q'])) (fun q' => hb (by simp [q'])) (fun q' => hb (by simp [q'])) q)) hf (Nat.le_refl _) new
    have zi1 := D.zi1
    have zi2 := D.zi2
    have s1 : its.length = n := by rw [← rv.length]; exact ln
    have s2 : its2.length = m := by rw [← rv2.length]; exact lm
    refine ⟨.ref s.heap.objs.size, _, I1, rfl, ⟨_, x, y, rfl, I.hok.fresh (Nat.le_refl _), rfl, fun l hl => by rw [I.tuple_inj hl hqx]; exact hx, fun l hl => by rw [I.list_inj hl hqy]; exact hy⟩, ⟨z'', ?_, ⟨x', y', ?_⟩, ?_, ?_, by omega, by omega⟩, fun c hcm => ?_⟩
    · exact (sb.2 _ D.TIz).trans kTI
    · exact (sb.2 _ D.TOz).trans TO'
    · exact st1.1.at fun o q => (sb.2 _ (Ne.symm zi1)).trans q
    · exact st2.1.at fun o q => (sb.2 _ (Ne.symm zi2)).trans q
    · have hlt : c < s.heap.objs.size := by
        have e' : c = z ∨ c = TI ∨ c = TO ∨ c = i1 ∨ c = i2 := by simpa using hcm
        rcases e' with q | q | q | q | q
        · rw [q]; exact hzl
        · rw [q]; exact Heap.lt_size hTI
        · rw [q]; exact Heap.lt_size hTO
        · rw [q]; obtain ⟨_, e1, _⟩ := h1; exact Heap.lt_size e1
        · rw [q]; obtain ⟨_, e2, _⟩ := h2; exact Heap.lt_size e2
      rw [upd_ne (Nat.ne_of_lt hlt)]
      exact (hf c hcm).1
  done := by
    intro X hP hw hK hc i pins s σ H E I hf st hg
    subst hP hw hK
    obtain ⟨hz, hTI, ⟨x0, y0, hTO⟩, h1, h2, hn1, hn2⟩ := st
    obtain ⟨xs, ys, hqx, hqy, ln, lm, hend⟩ := hg
    obtain ⟨its, rv, p, _⟩ := I.tuple hqx
    obtain ⟨its2, rv2, p2, _⟩ := I.list hqy
    have s1 : its.length = n := by rw [← rv.length]; exact ln
    have s2 : its2.length = m := by rw [← rv2.length]; exact lm
    have hh : X.A.in1.handled = none := I.ok.hd hc
    exact wpAny_pyNext_zipD2_end D (Draws.tuple hh i1 a ha1 its.toArray) (Draws.list hh i2 b hb2 its2.toArray) hz hTI hTO ⟨h1, p⟩ ⟨h2, p2.isList⟩ (by simp; omega) (by simp; omega) (by simp; omega) fun h' tk hk => ⟨rfl, I.turnedL (t' := tk) (ch := [z, TI, TO, i1, i2]) (fun c o hb q =>
      hk c o (fun q' => hb (by simp [q'])) (fun q' => hb (by simp [q'])) (fun q' => hb (by simp [q'])) (fun q' => hb (by simp [q'])) q) hf⟩
  self := fun A i s Q E st h => wpAny_pyIter_zip st.1 h
theorem nm2 {x y z : Nat} (h : x ≠ y) (h' : x ≠ z) : x ∉ [y, z] := by simp [h, h']
theorem nn {x y : Nat} (h : x ≠ y) : x ≠ y := h
theorem sep5 (N a b : Nat) (la : a < N) (lb : b < N) : ZipSep2 (N + 4) (N + 2) (N + 3) N (N + 1) [N, a] [N + 1, b] where
  TIz := nn (by omega)
  TOz := nn (by omega)
  TITO := nn (by omega)
  TIi1 := nn (by omega)
  mem1 := by simp
  zf1 := nm2 (by omega) (by omega)
  Tf1 := nm2 (by omega) (by omega)
  TIi2 := nn (by omega)
  mem2 := by simp
  zf2 := nm2 (by omega) (by omega)
  Tf2 := nm2 (by omega) (by omega)
  sep1_2 := nm2 (by omega) (by omega)
  sep2_1 := nm2 (by omega) (by omega)
def iZipTL (K : PySem.W.Frag) (ta : TA) : TI := fun σ H R => ta σ H fun vs H1 => ∃ a b xs ys, vs = [.ref a, .ref b] ∧ SqT K H1 a xs ∧ SqL K H1 b ys ∧ R (ItzTL K a b xs.length ys.length) H1
theorem pi_zipTL {X : Cx} {e e2 : Expr} {ta : TA} {p pos tpos : Pos} {elts : List Expr} {kk : Nat} (hg : Gl X "zip") (hm : X.mg "zip" = none) (ha : PA X [e, e2] ta)
    (hs : starEach [e, e2] X.env = (false, eval e X.env) :: starEach [e2] X.env := by rfl) (hpl : (backTo pos (starEach [e2] X.env)).any (·.1) = false := by rfl) :
    PI X (.Tuple elts kk tpos) (.Call (.Name "zip" p) [e, e2] [] pos) (iZipTL X.K ta) := by
  refine ⟨fun pins s σ H R I h => ?_⟩
  refine Call_ (ld_blt I hg hm PyProof.Rows.boot_zip (PyProof.Rows.callWith_type1 (thn (ha.run pos pins s σ H _ I h) fun us s1 ⟨vs, H1, I1, r1, q1⟩ => ?_) hs hpl))
  obtain ⟨a, b, xs, ys, ex, hqx, hqy, q⟩ := q1
  subst ex
  cases r1 with
  | cons r rr =>
    cases rr with
    | cons r' rr =>
      cases rr
      cases r
      cases r'
      have fresh5 : ∀ c, c ∈ [s1.heap.objs.size + 4, s1.heap.objs.size + 2, s1.heap.objs.size + 3, s1.heap.objs.size, s1.heap.objs.size + 1] → FpOk X pins H1 c := fun c hcm => by
        have e' : c = s1.heap.objs.size + 4 ∨ c = s1.heap.objs.size + 2 ∨ c = s1.heap.objs.size + 3 ∨ c = s1.heap.objs.size ∨ c = s1.heap.objs.size + 1 := by simpa using hcm
        have hle : s1.heap.objs.size ≤ c := by
          rcases e' with z | z | z | z | z
          · rw [z]; exact Nat.le_add_right _ _
          · rw [z]; exact Nat.le_add_right _ _
          · rw [z]; exact Nat.le_add_right _ _
          · rw [z]; exact Nat.le_refl _
          · rw [z]; exact Nat.le_add_right _ _
        exact I1.fpOk hle (I1.hok.fresh hle)
      obtain ⟨its, rv, p1, _⟩ := I1.tuple hqx
      obtain ⟨its2, rv2, p2, _⟩ := I1.list hqy
      have la : a < s1.heap.objs.size := by obtain ⟨_, q, _⟩ := p1; exact Heap.lt_size q
      have lb : b < s1.heap.objs.size := p2.lt
      refine zip_begins2 (begins_tuple a its.toArray) (begins_list b its2.toArray) p1 p2.isList fun h' hz hTI hTO h1 h2 hsz hk => wpAny_pyIter_zip hz ?_
      have I2 : Inv X pins σ H1 { s1 with heap := h' } := I1.kept (t' := s1.toks) hk
      have S : ZipSep2 (s1.heap.objs.size + 4) (s1.heap.objs.size + 2) (s1.heap.objs.size + 3) s1.heap.objs.size (s1.heap.objs.size + 1) [s1.heap.objs.size, a] [s1.heap.objs.size + 1, b] := by
        exact sep5 _ _ _ la lb
      exact ⟨s1.heap.objs.size + 4, [s1.heap.objs.size + 4, s1.heap.objs.size + 2, s1.heap.objs.size + 3, s1.heap.objs.size, s1.heap.objs.size + 1], _, _, H1, rfl, I2, turn_zipTL S (Nat.ne_of_lt la) (Nat.ne_of_lt (Nat.lt_succ_of_lt lb)) (Nat.ne_of_lt (Nat.lt_succ_self _)), ⟨hz, hTI, ⟨_, _, hTO⟩, ⟨_, h1, rfl, rfl⟩, ⟨_, h2, rfl, rfl⟩, Nat.zero_le _, Nat.zero_le _⟩, fresh5, q⟩

/-! ### t[::-1], a tuple -/
section
variable {prog : Program} {w : World} {A : Around} {E : Value → Shared → Prop} {s : Shared}
theorem sliceApplied_rev {sl : Addr} {vl vu vs : Value} {n : Nat} {Q : Int × Int × Nat → Shared → Prop} (hs : s.heap.IsSliceOf sl vl vu vs) (pl : IsPart vl none) (pu : IsPart vu none) (ps : IsPart vs (some (-1)))
    (h : Q ((n : Int) - 1, -1, n) s) : wpAny (model prog w) A (Builtin.Slice.sliceApplied (.ref sl) (pure (n : Int))) Q E s := by
  obtain ⟨os, hos, hcs, hds⟩ := id hs
  unfold Builtin.Slice.sliceApplied Builtin.Slice.sliceFields
  refine wpAny_bind (wpAny_bind (wpAny_field hos hds (x := vl) rfl (wpAny_bind (wpAny_field hos hds (x := vu) rfl (wpAny_bind (wpAny_field hos hds (x := vs) rfl (wpAny_pure ?_)))))))
  refine wpAny_bind (HT.slicePart_ ps ?_)
  show wpAny _ _ (if ((-1 : Int) == 0) = true then _ else _) _ _ s
  rw [if_neg (by decide)]
  refine wpAny_bind (HT.slicePart_ pl (wpAny_bind (HT.slicePart_ pu (wpAny_bind (wpAny_pure ?_)))))
  show wpAny _ _ (match Builtin.Slice.sliceAdjust none none (-1) (n : Int) with | (lo, hi) => pure (lo, (-1 : Int), Builtin.Slice.slicePlaces lo hi (-1))) _ _ s
  have e1 : Builtin.Slice.sliceAdjust none none (-1) (n : Int) = ((n : Int) - 1, -1) := rfl
  rw [e1]
  show wpAny _ _ (pure ((n : Int) - 1, (-1 : Int), Builtin.Slice.slicePlaces ((n : Int) - 1) (-1) (-1))) _ _ s
  have e2 : Builtin.Slice.slicePlaces ((n : Int) - 1) (-1) (-1) = n := by
    unfold Builtin.Slice.slicePlaces
    have h1 : ¬ ((-1 : Int) > 0) := by omega
    simp only [h1, if_false]
    have h2 : (- -1 : Int) = 1 := by decide
    rw [h2, Int.ediv_one]
    split <;> omega
  rw [e2]
  exact wpAny_pure h
theorem fm_congr {α β : Type} {f g : α → Option β} : ∀ l : List α, (∀ x ∈ l, f x = g x) → l.filterMap f = l.filterMap g
  | [], _ => rfl
  | x :: l, h => by rw [List.filterMap_cons, List.filterMap_cons, h x List.mem_cons_self, fm_congr l fun y hy => h y (List.mem_cons_of_mem _ hy)]
theorem pick_rev (xs : Array Value) : ((List.range xs.size).filterMap fun (m : Nat) => xs[((xs.size : Int) - 1 + (m : Int) * (-1)).toNat]?).toArray = xs.toList.reverse.toArray := by
  have e : ((List.range xs.size).filterMap fun (m : Nat) => xs[((xs.size : Int) - 1 + (m : Int) * (-1)).toNat]?) = ((List.range xs.size).map fun k => xs.size - 1 - k).filterMap (xs[·]?) := by
    rw [List.filterMap_map]
    refine fm_congr _ fun m hm => ?_
    have hm' := List.mem_range.mp hm
    have : ((xs.size : Int) - 1 + (m : Int) * (-1)).toNat = xs.size - 1 - m := by omega
    show xs[((xs.size : Int) - 1 + (m : Int) * (-1)).toNat]? = xs[xs.size - 1 - m]?
    rw [this]
  rw [e, PySem.W.krv_range, List.filterMap_reverse, PySem.W.krv_all]
theorem getItem_tuple_rev {t sl : Addr} {items : Array Value} {vl vu vs : Value} {Q : Value → Shared → Prop} (ht : IsTup s.heap t items) (hs : s.heap.IsSliceOf sl vl vu vs) (pl : IsPart vl none) (pu : IsPart vu none) (ps : IsPart vs (some (-1)))
    (h : Q (.ref s.heap.objs.size) { s with heap := s.heap.push { cls := .type "tuple", data := .seq items.toList.reverse.toArray } })
    (hsz : items.size ≤ sizeLine) : wpAny (model prog w) A (getItem (.ref t) (.ref sl)) Q E s := by
  have htake : sizeOk (.seq items.toList.reverse.toArray) := by
    show items.toList.reverse.toArray.size ≤ sizeLine
    rw [List.size_toArray, List.length_reverse, Array.length_toList]
    exact hsz
  obtain ⟨os, hos, hcs, hds⟩ := id hs
  have hTs : s.TypeIs (.ref sl) "slice" := ⟨os, hos, hcs⟩
  unfold getItem
  try with_reducible refine wpAny_holding ?_
  first | refine wpAny_bind (wpAny_pure ?_) | skip
  refine wpAny_bind (wpAny_sequenceKey ht.typeIs (by decide) ?_)
  refine wpAny_bind (wpAny_callSpecial?_slot (name := Str.ofString "__getitem__") ht.typeIs PyProof.Rows.slot_tuple_getitem
    (wpAny_call_entry PyProof.Rows.slot_tuple_getitem ht.typeIs entry_tuple_getitem ?_ (args_tuple_getitem _ _)))
  show wpAny _ _ (Builtin.Tuple.tupleItemsOf (.ref t) >>= _) _ _ s
  refine wpAny_bind (tupleItemsOf_ ht ?_)
  refine wpAny_bind (wpAny_typeOf hTs ?_)
  rw [if_pos (by decide)]
  refine wpAny_bind (sliceApplied_rev hs pl pu ps ?_)
  have hno : ¬ ((((items.size : Int) - 1) == 0 && (-1 : Int) == 1 && items.size == items.size) = true) := by
    have e : ((-1 : Int) == 1) = false := by decide
    rw [e]
    simp
  show wpAny _ _ (if (((items.size : Int) - 1) == 0 && (-1 : Int) == 1 && items.size == items.size) = true then _ else _) _ _ s
  rw [if_neg hno, pick_rev]
  first
    | exact wpAny_bind (m := Builtin.Tuple.tupleExact _) (wpAny_newObj_type (wpAny_pure ⟨_, rfl, wpAny_pure h⟩) htake)
    | exact wpAny_bind (m := Builtin.Tuple.tupleExact _) (wpAny_newObj_type (wpAny_bind (wpAny_pure (wpAny_pure ⟨_, rfl, wpAny_pure h⟩))) htake)
    | exact wpAny_bind (wpAny_bind (m := Builtin.Tuple.tupleExact _) (wpAny_newObj_type (wpAny_pure (wpAny_pure ⟨_, rfl, wpAny_pure h⟩)) htake))
    | exact wpAny_bind (wpAny_bind (m := Builtin.Tuple.tupleExact _) (wpAny_newObj_type (wpAny_pure ⟨_, rfl, wpAny_pure h⟩) htake))
end
def tRevA (K : PySem.W.Frag) (te : TE) : TE := fun σ H Q => te σ H fun x H1 => ∃ a xs, x = .ref a ∧ ((SqL K H1 a xs ∧ ∀ p, H1 p = none → Q (.ref p) (upd H1 p (.lst xs.reverse))) ∨ (SqT K H1 a xs ∧ ∀ p, H1 p = none → Q (.ref p) (upd H1 p (.tup xs.reverse))))
theorem pe_revA {X : Cx} {e : Expr} {te : TE} {k : Nat} {p1 p2 p3 pos : Pos} (he : PE X e te) : PE X (.Subscript e (.Slice none none (some (.UnaryOp .USub (.Constant (.int 1) k p1) p2)) p3) pos) (tRevA X.K te) := by
  refine ⟨fun pins s σ H Q I h => ?_⟩
  refine Subscript_ (thn (he.run pins s σ H _ I h) fun v s1 ⟨x, H1, I1, r1, q1⟩ => ?_)
  obtain ⟨a, xs, ex, hx⟩ := q1
  subst ex
  cases r1
  have hst : PO X (some (.UnaryOp .USub (.Constant (.int 1) k p1) p2)) (tPart (tUn (rU fun i => .int (-i)) (tC (.int 1)))) := po_some (pe_un un_neg pe_int)
  refine wpAny_Slice (thn (po_none.run pins s1 σ H1 (fun o H2 => o = none ∧ H2 = H1) I1 ⟨rfl, rfl⟩) fun vl s2 ⟨l, H2, I2, pl, el, e2⟩ => ?_)
  subst el e2
  refine thn (po_none.run pins s2 σ H2 (fun o H3 => o = none ∧ H3 = H2) I2 ⟨rfl, rfl⟩) fun vu s3 ⟨u, H3, I3, pu, eu, e3⟩ => ?_
  subst eu e3
  refine thn (hst.run pins s3 σ H3 (fun o H4 => o = some (-1) ∧ H4 = H3) I3 ⟨1, rfl, -1, rfl, rfl, rfl⟩) fun vs s4 ⟨o, H4, I4, ps, eo, e4⟩ => ?_
  subst eo e4
  have I5 : Inv X pins σ H4 { s4 with heap := s4.heap.push { cls := .type "slice", data := .fields #[vl, vu, vs] } } := I4.kept (t' := s4.toks) fun b ob q => Heap.get?_push_of_some _ q
  show wpAny (model X.prog X.w) X.A (subscriptTail e (.Slice none none (some (.UnaryOp .USub (.Constant (.int 1) k p1) p2)) p3) (.ref a) (.ref s4.heap.objs.size)) (EP X pins σ Q) X.xe { s4 with heap := s4.heap.push { cls := .type "slice", data := .fields #[vl, vu, vs] } }
  rcases hx with ⟨hx, q⟩ | ⟨hx, q⟩
  · obtain ⟨its, r, ht, hz⟩ := I5.list hx
    have hlen := r.length
    refine tail_any (ops := [.ref a, .ref s4.heap.objs.size]) ht.isList.typeIs (PySem.slot_list_getitem.lookup) ?_ (by with_unfolding_all rfl)
    refine wpAny_getItem_list_slice ht.isList (Heap.IsSliceOf.new _ vl vu vs) pl pu ps (by decide) ?_ (by rw [List.size_toArray]; omega)
    rw [PySem.W.krv_pick]
    refine ⟨.ref _, _, I5.laid (t' := s4.toks) (o := .lst xs.reverse) (fun b ob q => Heap.get?_push_of_some _ q) (Nat.le_refl _) ?_, rfl, q _ (I5.hok.fresh (Nat.le_refl _))⟩
    exact ⟨by rw [List.length_reverse]; exact hz, _, 0, r.reverse, Heap.get?_push_size _ rfl⟩
  · obtain ⟨its, r, ht, hz⟩ := I5.tuple hx
    have hlen := r.length
    refine tail_any (ops := [.ref a, .ref s4.heap.objs.size]) ht.typeIs (PyProof.Rows.slot_tuple_getitem.lookup) ?_ (by with_unfolding_all rfl)
    refine getItem_tuple_rev ht (Heap.IsSliceOf.new _ vl vu vs) pl pu ps ?_ (by rw [List.size_toArray]; omega)
    refine ⟨.ref _, _, I5.laid (t' := s4.toks) (o := .tup xs.reverse) (fun b ob q => Heap.get?_push_of_some _ q) (Nat.le_refl _) ?_, rfl, q _ (I5.hok.fresh (Nat.le_refl _))⟩
    exact ⟨by rw [List.length_reverse]; exact hz, its.reverse, r.reverse, ⟨_, Heap.get?_push_size _ rfl, rfl, 0, by simp⟩⟩
end VM
/-! VE: what is walked; the soundness of expressions. -/
namespace VM
open PySem PySem.Spec PyProof.Rows L2

/-! ### walks -/
/-- the iterator yields these -/
def Yl (K : PySem.W.Frag) (J : L2.It) (ds : List D) (H : Hp) (js : List Addr) : Prop :=
  ∀ H' js' S', Grow H js H' js' → RelS K H' js' S' →
    (∀ i d, ds[i]? = some d → J.go i H' ∧ ∀ x H'', J.yld i H' x H'' → Grow H' js' H'' js' ∧ RelS K H'' js' S' ∧ RepV K H'' js' d x) ∧ J.stop ds.length H'
def Wk (K : PySem.W.Frag) (it : It) (J : L2.It) (H : Hp) (js : List Addr) : Prop :=
  match it with
  | .fix ds => Yl K J ds H js
  | .dyn n m => ∃ a, js[n]? = some a ∧ match m with
    | .plain => J = Itl K a
    | .enum => J = Ite K a
    | .zip fs len => ∃ p xs, H p = some (.tup xs) ∧ p ∉ js ∧ RepVs K H js fs xs ∧ J = ItzTL K p a fs.length len
def rdI (K : PySem.W.Frag) (F : Orc) (i : I) : TI := fun σ H R => ∃ js S ρ, RelS K H js S ∧ RepR K H js ρ σ ∧ ∃ it S', evI F i ρ S = some (.ok it S') ∧
  ∀ H' js' J, Grow H js H' js' → RelS K H' js' S' → Wk K it J H' js' → R J H'
section
variable {K : PySem.W.Frag} {H H1 : Hp} {js js1 : List Addr}
theorem Yl.mono {J : L2.It} {ds : List D} (y : Yl K J ds H js) (g : Grow H js H1 js1) : Yl K J ds H1 js1 := fun H' js' S' g' r => y H' js' S' (g.trans g') r
theorem yl_tup {ds : List D} {a : Addr} {xs : List V} (h : H a = some (.tup xs)) (n : a ∉ js) (q : RepVs K H js ds xs) : Yl K (Itt K a) ds H js := by
  intro H' js' S' g r
  have h' := g.keep _ _ n h
  have q' := RepVs.mono g q
  refine ⟨fun i d e => ?_, ⟨xs, .inl (.inl h'), by rw [← q.length]; exact Nat.le_refl _⟩⟩
  obtain ⟨v, e1, r1⟩ := q'.get e
  refine ⟨⟨xs, v, .inl (.inl h'), e1⟩, fun x H'' y => ?_⟩
  obtain ⟨e2, y⟩ := y
  subst e2
  have := y xs (.inl (.inl h'))
  rw [e1] at this
  cases this
  exact ⟨Grow.refl, r, r1⟩
theorem yl_fz {ds : List D} {a : Addr} {xs : List V} (h : Fz K H js a xs) (q : RepVs K H js ds xs) : Yl K (Itl K a) ds H js := by
  intro H' js' S' g r
  have h' := (h.mono g).sq
  have q' := RepVs.mono g q
  refine ⟨fun i d e => ?_, ⟨xs, h', by rw [← q.length]; exact Nat.le_refl _⟩⟩
  obtain ⟨v, e1, r1⟩ := q'.get e
  refine ⟨⟨xs, v, h', e1⟩, fun x H'' y => ?_⟩
  obtain ⟨e2, y⟩ := y
  subst e2
  have := y xs h'
  rw [e1] at this
  cases this
  exact ⟨Grow.refl, r, r1⟩
theorem yl_rng {lo : Int} {n : Nat} : Yl K (Itr lo n) ((List.range n).map fun (k : Nat) => D.int (lo + k)) H js := by
  intro H' js' S' g r
  refine ⟨fun i d e => ?_, by
    show n ≤ _
    simp⟩
  rw [List.getElem?_map] at e
  cases h : (List.range n)[i]? with
  | none => rw [h] at e; cases e
  | some k =>
    rw [h] at e
    cases e
    obtain ⟨h1, h2⟩ := List.getElem?_eq_some_iff.mp h
    rw [List.getElem_range] at h2
    subst h2
    refine ⟨(show i < n by simpa using h1), fun x H'' y => ?_⟩
    obtain ⟨e2, e3⟩ := y
    subst e2 e3
    exact ⟨Grow.refl, r, .int _⟩
theorem enumL_len (k : Nat) : ∀ ds : List D, (enumL k ds).length = ds.length
  | [] => rfl
  | _ :: ds => by rw [enumL, List.length_cons, List.length_cons, enumL_len (k + 1) ds]
theorem enumL_get (k : Nat) : ∀ (ds : List D) (i : Nat), (enumL k ds)[i]? = ds[i]?.map fun d => .tup [.int ((k + i : Nat) : Int), d]
  | [], i => by simp [enumL]
  | d :: ds, 0 => by simp [enumL]
  | d :: ds, i + 1 => by
    rw [enumL, List.getElem?_cons_succ, List.getElem?_cons_succ, enumL_get (k + 1) ds i]
    congr 2
    funext d
    rw [show k + 1 + i = k + (i + 1) by omega]
theorem yl_enum {ds : List D} {a : Addr} {xs : List V} (h : H a = some (.tup xs)) (n : a ∉ js) (q : RepVs K H js ds xs) : Yl K (IteT K a xs.length) (enumL 0 ds) H js := by
  intro H' js' S' g r
  have h' := g.keep _ _ n h
  have q' := RepVs.mono g q
  refine ⟨fun i d e => ?_, ⟨xs, .inl (.inl h'), rfl, by rw [enumL_len, q.length]; exact Nat.le_refl _⟩⟩
  rw [enumL_get] at e
  cases e0 : ds[i]? with
  | none => rw [e0] at e; cases e
  | some d0 =>
    rw [e0] at e
    cases e
    obtain ⟨v, e1, r1⟩ := q'.get e0
    refine ⟨⟨xs, v, .inl (.inl h'), rfl, e1⟩, fun x H'' y => ?_⟩
    obtain ⟨T, y0, rfl, hT, rfl, hy⟩ := y
    have := hy xs (.inl (.inl h'))
    rw [e1] at this
    cases this
    have gg := Grow.lay (o := .tup [.int (i : Nat), v]) r hT
    refine ⟨gg, r.lay hT, .tup upd_same (r.fresh hT) (.cons ?_ (.cons (r1.mono gg) .nil))⟩
    rw [Nat.zero_add]
    exact .int _
theorem yl_str {z : Str} : Yl K (Its z) (z.cps.toList.map fun c => D.str ⟨#[c]⟩) H js := by
  intro H' js' S' g r
  refine ⟨fun i d e => ?_, by
    show z.cps.size ≤ _
    simp⟩
  rw [List.getElem?_map] at e
  cases h : z.cps.toList[i]? with
  | none => rw [h] at e; cases e
  | some k =>
    rw [h] at e
    cases e
    have h1 : i < z.cps.size := by
      have := (List.getElem?_eq_some_iff.mp h).1
      simpa using this
    refine ⟨h1, fun x H'' y => ?_⟩
    obtain ⟨e2, c, e3, e4⟩ := y
    subst e2 e4
    have e5 : z.cps.toList[i]? = some c := by simpa using e3
    rw [h] at e5
    cases e5
    exact ⟨Grow.refl, r, .str _⟩
end

/-! ### runs by steps -/
def foldRn {α β : Type} (f : D → α → Sto → Out (α ⊕ β)) (n : Nat) (w : Dm) : Nat → Nat → α → Sto → Out (α ⊕ β)
  | 0, _, _, _ => none
  | m + 1, i, a, S => match S[n]? with
    | some (.lst ds) =>
      match dynAt w ds i with
      | none => none
      | some none => some (.ok (.inl a) S)
      | some (some d) => bd (f d a S) fun r S1 => match r with
        | .inl a' => foldRn f n w m (i + 1) a' S1
        | .inr b => some (.ok (.inr b) S1)
    | _ => none
theorem foldR_n {α β : Type} (f : D → α → Sto → Out (α ⊕ β)) (n : Nat) (w : Dm) : ∀ (i : Nat) (a : α) (S : Sto) (r : Rs (α ⊕ β)), foldR f n w i a S = some r → ∃ m, foldRn f n w m i a S = some r := by
  refine foldR.partial_correctness f n w (fun i a S r => ∃ m, foldRn f n w m i a S = some r) ?_
  intro g ih i a S r h
  split at h
  · rename_i ds e
    split at h
    · cases h
    · rename_i e2
      refine ⟨1, ?_⟩
      unfold foldRn
      rw [e]
      simp only [e2]
      exact h
    · rename_i d e2
      split at h
      · cases h
      · rename_i c xs S1 e3
        refine ⟨1, ?_⟩
        unfold foldRn
        rw [e]
        simp only [e2]
        rw [e3]
        exact h
      · rename_i b S1 e3
        refine ⟨1, ?_⟩
        unfold foldRn
        rw [e]
        simp only [e2]
        rw [e3]
        exact h
      · rename_i a' S1 e3
        obtain ⟨m, hm⟩ := ih _ _ _ _ h
        refine ⟨m + 1, ?_⟩
        unfold foldRn
        rw [e]
        simp only [e2]
        rw [e3]
        exact hm
  · cases h
def whileN (c : Rho → Sto → Out Bool) (b : Rho → Sto → Out Fl) : Nat → Rho → Sto → Out Fl
  | 0, _, _ => none
  | m + 1, ρ, S => bd (c ρ S) fun t S1 => match t with
    | false => some (.ok (.nx ρ) S1)
    | true => bd (b ρ S1) fun f S2 => match f with
      | .nx ρ' => whileN c b m ρ' S2
      | .cnt ρ' => whileN c b m ρ' S2
      | .brk ρ' => some (.ok (.nx ρ') S2)
      | .ret d => some (.ok (.ret d) S2)
theorem whileL_n (c : Rho → Sto → Out Bool) (b : Rho → Sto → Out Fl) : ∀ (ρ : Rho) (S : Sto) (r : Rs Fl), whileL c b ρ S = some r → ∃ m, whileN c b m ρ S = some r := by
  refine whileL.partial_correctness c b (fun ρ S r => ∃ m, whileN c b m ρ S = some r) ?_
  intro g ih ρ S r h
  split at h
  · cases h
  · rename_i e; exact ⟨1, by unfold whileN; rw [e]; exact h⟩
  · rename_i e; exact ⟨1, by unfold whileN; rw [e]; exact h⟩
  · rename_i S1 e
    split at h
    · cases h
    · rename_i e2; exact ⟨1, by unfold whileN; rw [e]; simp only [bd_ok]; rw [e2]; exact h⟩
    · rename_i e2
      obtain ⟨m, hm⟩ := ih _ _ _ h
      exact ⟨m + 1, by unfold whileN; rw [e]; simp only [bd_ok]; rw [e2]; exact hm⟩
    · rename_i e2
      obtain ⟨m, hm⟩ := ih _ _ _ h
      exact ⟨m + 1, by unfold whileN; rw [e]; simp only [bd_ok]; rw [e2]; exact hm⟩
    · rename_i e2; exact ⟨1, by unfold whileN; rw [e]; simp only [bd_ok]; rw [e2]; exact h⟩
    · rename_i e2; exact ⟨1, by unfold whileN; rw [e]; simp only [bd_ok]; rw [e2]; exact h⟩

/-! ### a list that grows beside the store -/
section
variable {K : PySem.W.Frag} {H H1 : Hp} {js js1 : List Addr} {S : Sto} {Da : Addr} {l l' : List V}
mutual
theorem RepV.beside (hD : H Da = some (.lst l)) : ∀ {d : D} {v : V}, RepV K H js d v → RepV K (upd H Da (.lst l')) js d v
  | _, _, .non => .non
  | _, _, .bl b => .bl b
  | _, _, .int i => .int i
  | _, _, .str x => .str x
  | _, _, .tup h n r => .tup (by rw [upd_ne (ne_of h hD (by intro z; cases z))]; exact h) n (RepVs.beside hD r)
  | _, _, .ref h => .ref h
  | _, _, .fz h r => .fz (by
      rcases h with ⟨o, h, n⟩ | h
      · exact .inl ⟨o, by rw [upd_ne (ne_of h hD (by intro z; cases z))]; exact h, n⟩
      · exact .inr h) (RepVs.beside hD r)
theorem RepVs.beside (hD : H Da = some (.lst l)) : ∀ {ds : List D} {vs : List V}, RepVs K H js ds vs → RepVs K (upd H Da (.lst l')) js ds vs
  | _, _, .nil => .nil
  | _, _, .cons h t => .cons (RepV.beside hD h) (RepVs.beside hD t)
end
theorem RelS.beside (r : RelS K H js S) (n : Da ∉ js) (hD : H Da = some (.lst l)) : RelS K (upd H Da (.lst l')) js S :=
  ⟨r.len, r.nd, fun m a o e e' => by
    have q := r.obj m a o e e'
    have na : a ≠ Da := fun z => n (by rw [← z]; exact List.mem_of_getElem? e)
    rw [upd_ne na]
    unfold RepO at q
    split at q
    · rename_i eh
      rw [eh]
      exact RepVs.beside hD q
    · rename_i eh
      rw [eh]
      exact ⟨q.1, RepVs.beside hD q.2⟩
    · rename_i eh
      rw [eh]
      exact ⟨q.1, RepVs.beside hD q.2⟩
    · exact q.elim⟩
theorem Grow.beside (g : Grow H js H1 js1) (hD : H Da = none) : Grow H js (upd H1 Da (.lst l')) js1 :=
  ⟨g.pre, fun a o n h => by rw [upd_ne (ne_of_none h hD)]; exact g.keep a o n h⟩
end
theorem wipe_get (σ : L2.St) : ∀ (vs : List Nat) (j : Nat), (wipe σ vs)[j]? = if j ∈ vs then (σ[j]?).map (fun _ => none) else σ[j]?
  | [], j => by simp [wipe]
  | v :: vs, j => by
    unfold wipe
    by_cases h : v = j
    · subst h
      rw [if_pos List.mem_cons_self]
      by_cases hl : v < σ.length
      · rw [List.getElem?_set_self (by rw [wipe_length]; exact hl), List.getElem?_eq_getElem hl]
        rfl
      · rw [List.getElem?_eq_none (by rw [List.length_set, wipe_length]; omega), List.getElem?_eq_none (by omega)]
        rfl
    · rw [List.getElem?_set_ne h, wipe_get σ vs j]
      have e : (j ∈ v :: vs) ↔ j ∈ vs := by
        rw [List.mem_cons]
        exact ⟨fun z => z.elim (fun q => absurd q.symm h) id, .inr⟩
      by_cases hj : j ∈ vs
      · rw [if_pos hj, if_pos (e.mpr hj)]
      · rw [if_neg hj, if_neg fun z => hj (e.mp z)]
theorem wipe_back {σ σ2 : L2.St} {vs : List Nat} (hl : σ2.length = σ.length) (h : ∀ j, j ∉ vs → σ2[j]? = (wipe σ vs)[j]?) : wipe σ2 vs = wipe σ vs := by
  refine List.ext_getElem? fun j => ?_
  rw [wipe_get, wipe_get]
  by_cases hj : j ∈ vs
  · rw [if_pos hj, if_pos hj]
    by_cases h1 : j < σ.length
    · rw [List.getElem?_eq_getElem h1, List.getElem?_eq_getElem (by rw [hl]; exact h1)]
      rfl
    · rw [List.getElem?_eq_none (show σ.length ≤ j by omega), List.getElem?_eq_none (show σ2.length ≤ j by omega)]
  · rw [if_neg hj, if_neg hj]
    have := h j hj
    rw [wipe_get, if_neg hj] at this
    exact this

/-! ### one turn of a run -/
def Run {α β : Type} (it : It) (f : D → α → Sto → Out (α ⊕ β)) (i m : Nat) (a : α) (S : Sto) (r : α ⊕ β) (S5 : Sto) : Prop :=
  match it with
  | .fix ds => i + m = ds.length ∧ foldF f (ds.drop i) a S = some (.ok r S5)
  | .dyn n w => foldRn f n w m i a S = some (.ok r S5)
theorem run_start {α β : Type} {it : It} {f : D → α → Sto → Out (α ⊕ β)} {a : α} {S S5 : Sto} {r : α ⊕ β} (h : foldI f it a S = some (.ok r S5)) : ∃ m, Run it f 0 m a S r S5 := by
  cases it with
  | fix ds => exact ⟨ds.length, by omega, h⟩
  | dyn n w => exact foldR_n f n w 0 a S _ h
theorem dyn_at {K : PySem.W.Frag} {H0 H : Hp} {js0 js : List Addr} {J : L2.It} {n : Nat} {w : Dm} {S : Sto} {ds : List D} {i : Nat} (wk : Wk K (.dyn n w) J H0 js0) (g : Grow H0 js0 H js) (rs : RelS K H js S) (e : S[n]? = some (.lst ds)) :
    (dynAt w ds i = some none → J.stop i H) ∧ ∀ d, dynAt w ds i = some (some d) → J.go i H ∧ ∀ x H'', J.yld i H x H'' → Grow H js H'' js ∧ RelS K H'' js S ∧ RepV K H'' js d x := by
  obtain ⟨p, hp, wk⟩ := wk
  have hp := g.at hp
  obtain ⟨p', xs, e1, e2, q⟩ := rs.list e
  rw [hp] at e1; cases e1
  have sq : SqL K H p xs := .inl (.inl e2)
  cases w with
  | plain =>
    cases wk
    refine ⟨fun h => ?_, fun d h => ?_⟩
    · have h : ds[i]? = none := Option.some.inj h
      exact ⟨xs, sq, by rw [← q.length]; exact List.getElem?_eq_none_iff.mp h⟩
    · have h : ds[i]? = some d := Option.some.inj h
      obtain ⟨v, e4, r4⟩ := q.get h
      refine ⟨⟨xs, v, sq, e4⟩, fun x H'' y => ?_⟩
      obtain ⟨y1, y2⟩ := y
      subst y1
      have := y2 xs sq
      rw [e4] at this
      cases this
      exact ⟨Grow.refl, rs, r4⟩
  | enum =>
    cases wk
    refine ⟨fun h => ?_, fun d h => ?_⟩
    · have h : (ds[i]?.map fun d => D.tup [.int i, d]) = none := Option.some.inj h
      rw [Option.map_eq_none_iff] at h
      exact ⟨xs, sq, by rw [← q.length]; exact List.getElem?_eq_none_iff.mp h⟩
    · have h : (ds[i]?.map fun d => D.tup [.int i, d]) = some d := Option.some.inj h
      cases e0 : ds[i]? with
      | none => rw [e0] at h; cases h
      | some d0 =>
        rw [e0] at h
        cases h
        obtain ⟨v, e4, r4⟩ := q.get e0
        refine ⟨⟨xs, v, sq, e4⟩, fun x H'' y => ?_⟩
        obtain ⟨T, y0, rfl, hT, rfl, hy⟩ := y
        have := hy xs sq
        rw [e4] at this
        cases this
        have gg := Grow.lay (o := .tup [.int (i : Nat), v]) rs hT
        exact ⟨gg, rs.lay hT, .tup upd_same (rs.fresh hT) (.cons (.int _) (.cons (r4.mono gg) .nil))⟩
  | zip fs len =>
    obtain ⟨t, ys, h1, n1, q1, rfl⟩ := wk
    have h1' := g.keep _ _ n1 h1
    have q1' := RepVs.mono g q1
    have st : SqT K H t ys := .inl (.inl h1')
    refine ⟨fun h => ?_, fun d h => ?_⟩
    · unfold dynAt at h
      simp only at h
      split at h
      · rename_i hl
        have h := Option.some.inj h
        refine ⟨ys, xs, st, sq, by rw [q1.length], by rw [← q.length]; exact hl, ?_⟩
        cases ea : fs[i]? with
        | none => exact .inl (List.getElem?_eq_none_iff.mp ea)
        | some a =>
          cases eb : ds[i]? with
          | none => exact .inr (by rw [← hl]; exact List.getElem?_eq_none_iff.mp eb)
          | some b => rw [ea, eb] at h; cases h
      · cases h
    · unfold dynAt at h
      simp only at h
      split at h
      · rename_i hl
        have h := Option.some.inj h
        cases ea : fs[i]? with
        | none => rw [ea] at h; cases h
        | some a =>
          cases eb : ds[i]? with
          | none => rw [ea, eb] at h; cases h
          | some b =>
            rw [ea, eb] at h
            cases h
            obtain ⟨va, e4, r4⟩ := q1'.get ea
            obtain ⟨vb, e5, r5⟩ := q.get eb
            refine ⟨⟨ys, xs, va, vb, st, sq, by rw [q1.length], by rw [← q.length]; exact hl, e4, e5⟩, fun x H'' y => ?_⟩
            obtain ⟨T, y0, y1, rfl, hT, rfl, hy, hz⟩ := y
            have t1 := hy ys st
            have t2 := hz xs sq
            rw [e4] at t1
            rw [e5] at t2
            cases t1
            cases t2
            have gg := Grow.lay (o := .tup [va, vb]) rs hT
            exact ⟨gg, rs.lay hT, .tup upd_same (rs.fresh hT) (.cons (r4.mono gg) (.cons (r5.mono gg) .nil))⟩
      · cases h
theorem run_step {α β : Type} {K : PySem.W.Frag} {H0 H : Hp} {js0 js : List Addr} {J : L2.It} {it : It} {f : D → α → Sto → Out (α ⊕ β)} {i m : Nat} {a : α} {S S5 : Sto} {r : α ⊕ β}
    (wk : Wk K it J H0 js0) (g : Grow H0 js0 H js) (rs : RelS K H js S) (h : Run it f i m a S r S5) :
    (J.stop i H ∧ r = .inl a ∧ S5 = S) ∨ ∃ d, J.go i H ∧ (∀ x H'', J.yld i H x H'' → Grow H js H'' js ∧ RelS K H'' js S ∧ RepV K H'' js d x) ∧
      ((∃ b S1, f d a S = some (.ok (.inr b) S1) ∧ r = .inr b ∧ S5 = S1) ∨ ∃ a' S1 m', m' < m ∧ f d a S = some (.ok (.inl a') S1) ∧ Run it f (i + 1) m' a' S1 r S5) := by
  cases it with
  | fix ds =>
    obtain ⟨hm, h⟩ := h
    obtain ⟨y1, y2⟩ := (show Yl K J ds H0 js0 from wk) H js S g rs
    by_cases hi : i < ds.length
    · have ed : ds.drop i = ds[i] :: ds.drop (i + 1) := List.drop_eq_getElem_cons hi
      rw [ed] at h
      obtain ⟨z1, z2⟩ := y1 i ds[i] (List.getElem?_eq_getElem hi)
      refine .inr ⟨ds[i], z1, z2, ?_⟩
      unfold foldF at h
      cases e : f ds[i] a S with
      | none => rw [e] at h; cases h
      | some q =>
        cases q with
        | ex c xs S1 => rw [e] at h; cases h
        | ok q S1 =>
          rw [e] at h
          cases q with
          | inr b => cases h; exact .inl ⟨b, _, rfl, rfl, rfl⟩
          | inl a' => exact .inr ⟨a', S1, m - 1, by omega, rfl, by omega, h⟩
    · rw [List.drop_of_length_le (by omega)] at h
      cases h
      refine .inl ⟨?_, rfl, rfl⟩
      rw [show i = ds.length by omega]
      exact y2
  | dyn n w =>
    cases m with
    | zero => cases h
    | succ m =>
      have h : foldRn f n w (m + 1) i a S = some (.ok r S5) := h
      unfold foldRn at h
      split at h
      · rename_i ds e
        obtain ⟨st, go⟩ := dyn_at (i := i) wk g rs e
        split at h
        · cases h
        · rename_i e3
          cases h
          exact .inl ⟨st e3, rfl, rfl⟩
        · rename_i d e3
          obtain ⟨g1, g2⟩ := go d e3
          refine .inr ⟨d, g1, g2, ?_⟩
          cases e5 : f d a S with
          | none => rw [e5] at h; cases h
          | some q =>
            cases q with
            | ex c xs S1 => rw [e5] at h; cases h
            | ok q S1 =>
              rw [e5] at h
              cases q with
              | inr b => cases h; exact .inl ⟨b, _, rfl, rfl, rfl⟩
              | inl a' => exact .inr ⟨a', S1, m, by omega, rfl, h⟩
      · cases h
/-! ### a list of ours given to the store -/
section
variable {K : PySem.W.Frag} {H : Hp} {js : List Addr} {S : Sto} {Da : Addr} {l : List V}
mutual
theorem RepV.ext (hD : H Da = some (.lst l)) : ∀ {d : D} {v : V}, RepV K H js d v → RepV K H (js ++ [Da]) d v
  | _, _, .non => .non
  | _, _, .bl b => .bl b
  | _, _, .int i => .int i
  | _, _, .str x => .str x
  | _, _, .tup h n r => .tup h (by
      rw [List.mem_append, List.mem_singleton]
      rintro (z | z)
      · exact n z
      · rw [z, hD] at h; cases h) (RepVs.ext hD r)
  | _, _, .ref h => .ref (by rw [List.getElem?_append_left (List.getElem?_eq_some_iff.mp h).1]; exact h)
  | _, _, .fz h r => .fz (by
      rcases h with ⟨o, h, n⟩ | h
      · refine .inl ⟨o, h, ?_⟩
        rw [List.mem_append, List.mem_singleton]
        rintro (z | z)
        · exact n z
        · rw [z, hD] at h; cases h
      · exact .inr h) (RepVs.ext hD r)
theorem RepVs.ext (hD : H Da = some (.lst l)) : ∀ {ds : List D} {vs : List V}, RepVs K H js ds vs → RepVs K H (js ++ [Da]) ds vs
  | _, _, .nil => .nil
  | _, _, .cons h t => .cons (RepV.ext hD h) (RepVs.ext hD t)
end
theorem RelS.give (r : RelS K H js S) (n : Da ∉ js) (hD : H Da = some (.lst l)) {ds : List D} (q : RepVs K H js ds l) : RelS K H (js ++ [Da]) (S ++ [.lst ds]) := by
  refine ⟨by rw [List.length_append, List.length_append, r.len]; rfl, ?_, fun m a o e e' => ?_⟩
  · refine List.nodup_append.mpr ⟨r.nd, by simp, fun a ha b hb => ?_⟩
    have e : b = Da := by simpa using hb
    subst e
    intro e
    subst e
    exact n ha
  · by_cases hn : m < js.length
    · rw [List.getElem?_append_left hn] at e
      rw [List.getElem?_append_left (by rw [← r.len]; exact hn)] at e'
      have q' := r.obj m a o e e'
      unfold RepO at q'
      split at q'
      · rename_i eh
        rw [eh]
        exact RepVs.ext hD q'
      · rename_i eh
        rw [eh]
        exact ⟨q'.1, RepVs.ext hD q'.2⟩
      · rename_i eh
        rw [eh]
        exact ⟨q'.1, RepVs.ext hD q'.2⟩
      · exact q'.elim
    · have hn' : m = js.length := by
        have := (List.getElem?_eq_some_iff.mp e).1
        rw [List.length_append] at this
        simp at this
        omega
      subst hn'
      rw [List.getElem?_append_right (Nat.le_refl _)] at e
      simp at e
      subst e
      rw [r.len, List.getElem?_append_right (Nat.le_refl _)] at e'
      simp at e'
      subst e'
      rw [hD]
      exact RepVs.ext hD q
theorem Grow.give {H0 : Hp} {js0 : List Addr} (g : Grow H0 js0 H js) (n : H0 Da = none) (n0 : Da ∉ js0) (nj : Da ∉ js) : Grow H0 js0 H (js ++ [Da]) := by
  obtain ⟨new, rfl, hn⟩ := g.pre
  refine ⟨⟨new ++ [Da], by rw [List.append_assoc], fun a ha => ?_⟩, g.keep⟩
  rcases List.mem_append.mp ha with z | z
  · exact hn a z
  · have e : a = Da := by simpa using z
    subst e
    exact ⟨n0, n⟩
theorem Grow.none_of {H0 : Hp} {js0 : List Addr} (g : Grow H0 js0 H js) (n : H Da = none) (nj : Da ∉ js) : H0 Da = none ∧ Da ∉ js0 := by
  obtain ⟨new, rfl, hn⟩ := g.pre
  have n0 : Da ∉ js0 := fun z => nj (List.mem_append_left _ z)
  refine ⟨?_, n0⟩
  cases q : H0 Da with
  | none => rfl
  | some o => rw [g.keep _ _ n0 q] at n; cases n
end

/-! ### an object of ours, written and given to the store -/
section
variable {K : PySem.W.Frag} {H : Hp} {js : List Addr} {S : Sto} {Da : Addr} {u u' : HO}
mutual
theorem RepV.giv (hD : H Da = some u) (p1 : ∀ xs, u ≠ .tup xs) (p2 : ∀ o v, u ≠ .frz o v) : ∀ {d : D} {v : V}, RepV K H js d v → RepV K (upd H Da u') (js ++ [Da]) d v
  | _, _, .non => .non
  | _, _, .bl b => .bl b
  | _, _, .int i => .int i
  | _, _, .str x => .str x
  | _, _, @RepV.tup _ _ _ _ a xs h n r => .tup (by
      have na : a ≠ Da := fun z => by
        rw [z, hD] at h
        exact p1 _ (Option.some.inj h)
      rw [upd_ne na]; exact h) (by
      rw [List.mem_append, List.mem_singleton]
      rintro (z | z)
      · exact n z
      · rw [z, hD] at h; exact p1 _ (Option.some.inj h)) (RepVs.giv hD p1 p2 r)
  | _, _, .ref h => .ref (by rw [List.getElem?_append_left (List.getElem?_eq_some_iff.mp h).1]; exact h)
  | _, _, @RepV.fz _ _ _ _ a xs h r => .fz (by
      rcases h with ⟨o, h, n⟩ | h
      · have na : a ≠ Da := fun z => by
          rw [z, hD] at h
          exact p2 _ _ (Option.some.inj h)
        refine .inl ⟨o, by rw [upd_ne na]; exact h, ?_⟩
        rw [List.mem_append, List.mem_singleton]
        rintro (z | z)
        · exact n z
        · exact na z
      · exact .inr h) (RepVs.giv hD p1 p2 r)
theorem RepVs.giv (hD : H Da = some u) (p1 : ∀ xs, u ≠ .tup xs) (p2 : ∀ o v, u ≠ .frz o v) : ∀ {ds : List D} {vs : List V}, RepVs K H js ds vs → RepVs K (upd H Da u') (js ++ [Da]) ds vs
  | _, _, .nil => .nil
  | _, _, .cons h t => .cons (RepV.giv hD p1 p2 h) (RepVs.giv hD p1 p2 t)
end
theorem RepO.giv (hD : H Da = some u) (p1 : ∀ xs, u ≠ .tup xs) (p2 : ∀ o v, u ≠ .frz o v) {o : O} {h : Option HO} (q : RepO K H js o h) : RepO K (upd H Da u') (js ++ [Da]) o h := by
  unfold RepO at q
  split at q
  · exact RepVs.giv hD p1 p2 q
  · exact ⟨q.1, RepVs.giv hD p1 p2 q.2⟩
  · exact ⟨q.1, RepVs.giv hD p1 p2 q.2⟩
  · exact q.elim
theorem RelS.giv (r : RelS K H js S) (n : Da ∉ js) (hD : H Da = some u) (p1 : ∀ xs, u ≠ .tup xs) (p2 : ∀ o v, u ≠ .frz o v) {ob : O} (q : RepO K H js ob (some u')) : RelS K (upd H Da u') (js ++ [Da]) (S ++ [ob]) := by
  refine ⟨by rw [List.length_append, List.length_append, r.len]; rfl, ?_, fun m a o e e' => ?_⟩
  · refine List.nodup_append.mpr ⟨r.nd, by simp, fun a ha b hb => ?_⟩
    have e : b = Da := by simpa using hb
    subst e
    intro e
    subst e
    exact n ha
  · by_cases hn : m < js.length
    · rw [List.getElem?_append_left hn] at e
      rw [List.getElem?_append_left (by rw [← r.len]; exact hn)] at e'
      have na : a ≠ Da := fun z => n (by rw [← z]; exact List.mem_of_getElem? e)
      rw [upd_ne na]
      exact (r.obj m a o e e').giv hD p1 p2
    · have hn' : m = js.length := by
        have := (List.getElem?_eq_some_iff.mp e).1
        rw [List.length_append] at this
        simp at this
        omega
      subst hn'
      rw [List.getElem?_append_right (Nat.le_refl _)] at e
      simp at e
      subst e
      rw [r.len, List.getElem?_append_right (Nat.le_refl _)] at e'
      simp at e'
      subst e'
      rw [upd_same]
      exact q.giv hD p1 p2
theorem Grow.giv {H0 : Hp} {js0 : List Addr} (g : Grow H0 js0 H js) (n : H0 Da = none) (n0 : Da ∉ js0) (nj : Da ∉ js) : Grow H0 js0 (upd H Da u') (js ++ [Da]) := by
  obtain ⟨new, rfl, hn⟩ := g.pre
  refine ⟨⟨new ++ [Da], by rw [List.append_assoc], fun a ha => ?_⟩, fun a o nn h => by rw [upd_ne (ne_of_none h n)]; exact g.keep a o nn h⟩
  rcases List.mem_append.mp ha with z | z
  · exact hn a z
  · have e : a = Da := by simpa using z
    subst e
    exact ⟨n0, n⟩
end
/-! ### a dict's display -/
def disTrs (K : PySem.W.Frag) (F : Orc) : List Str → Es → List (TE × TE)
  | k :: ks, .cons e es => (tC (.str k), rdE K F e) :: disTrs K F ks es
  | _, _ => []
theorem dis_read {K : PySem.W.Frag} {F : Orc} {ρ : Rho} {σ : L2.St} : ∀ (ks : List Str) (es : Es) (H : Hp) (js : List Addr) (S S1 : Sto) (ds : List D) (Q : List (V × V) → Hp → Prop), evEs F es ρ S = some (.ok ds S1) → ds.length = ks.length → RelS K H js S → RepR K H js ρ σ →
    (∀ H2 js2 vs, Grow H js H2 js2 → RelS K H2 js2 S1 → RepVs K H2 js2 ds vs → Q ((ks.zip vs).map fun kv => (V.str kv.1, kv.2)) H2) → tPairs (disTrs K F ks es) σ H Q
  | [], es, H, js, S, S1, ds, Q, e, hl, rs, rr, q => by
    have : disTrs K F [] es = [] := by cases es <;> rfl
    rw [this]
    cases es with
    | nil =>
      unfold evEs at e
      cases e
      exact q H js [] Grow.refl rs .nil
    | cons x es =>
      unfold evEs at e
      cases e1 : evE F x ρ S with
      | none => rw [e1] at e; cases e
      | some r =>
        cases r with
        | ex _ _ _ => rw [e1] at e; cases e
        | ok d S2 =>
          rw [e1] at e
          simp only [bd_ok] at e
          cases e2 : evEs F es ρ S2 with
          | none => rw [e2] at e; cases e
          | some r =>
            cases r with
            | ex _ _ _ => rw [e2] at e; cases e
            | ok ds' S3 =>
              rw [e2] at e
              cases e
              simp at hl
  | k :: ks, .nil, H, js, S, S1, ds, Q, e, hl, rs, rr, q => by
    unfold evEs at e
    cases e
    simp at hl
  | k :: ks, .cons x es, H, js, S, S1, ds, Q, e, hl, rs, rr, q => by
    unfold evEs at e
    cases e1 : evE F x ρ S with
    | none => rw [e1] at e; cases e
    | some r =>
      cases r with
      | ex _ _ _ => rw [e1] at e; cases e
      | ok d S2 =>
        rw [e1] at e
        simp only [bd_ok] at e
        cases e2 : evEs F es ρ S2 with
        | none => rw [e2] at e; cases e
        | some r =>
          cases r with
          | ex _ _ _ => rw [e2] at e; cases e
          | ok ds' S3 =>
            rw [e2] at e
            cases e
            refine rdE.of e1 rs rr fun v H1 js1 g1 rs1 r1 => ?_
            refine dis_read ks es H1 js1 S2 _ ds' _ e2 (by simpa using hl) rs1 (rr.mono g1) fun H2 js2 vs g2 rs2 r2 => ?_
            exact q H2 js2 (v :: vs) (g1.trans g2) rs2 (.cons (r1.mono g2) r2)
theorem dis_rep {K : PySem.W.Frag} {H : Hp} {js : List Addr} : ∀ (ks : List Str) (ds : List D) (vs : List V) (k0 : List (L2.Key × D)) (v0 : List (L2.Key × V)), RepVs K H js ds vs → RepK K H js k0 v0 →
    RepK K H js ((ks.zip ds).foldl (fun acc kv => putD acc (.inr kv.1) kv.2) k0) (mergeK v0 ((ks.zip vs).map fun kv => (Sum.inr kv.1, kv.2)))
  | [], ds, vs, k0, v0, r, h => h
  | k :: ks, [], _, k0, v0, .nil, h => h
  | k :: ks, d :: ds, v :: vs, k0, v0, .cons r t, h => dis_rep ks ds vs _ _ t (h.put r)
end VM
/-! VF: the soundness of expressions. -/
namespace VM
open PySem PySem.Spec PyProof.Rows L2
section
variable {X : Cx} {nm : Nm} {F : Orc}
theorem Good.blk (g : Good X nm F) {scope : Scope} (hk : scope.kind = .function) (s : Shared) (H : Hp) (C : Addr) (cl : List (Str × Addr)) (fp : List Addr) : Good (X.blk s H scope (compEnvC scope cl C X.env) fp) (nm.blk scope) F where
  calm := g.calm
  N := g.N
  nd := g.nd
  sc := by
    show relS scope X.env.scope = relS scope nm.sc
    rw [g.sc]
  kind := hk
  fn := fun x h => h
  hu := g.hu
  bs := g.bs
  gs := g.gs
  call := fun f x h => by
    obtain ⟨CT, k, a, fd, ps, sp, c⟩ := g.call f x h
    exact ⟨CT, k, a, fd, ps, sp, ⟨c.fn, c.room, c.mg, c.kp, c.bi, c.nox, c.sp⟩⟩
/-! #### small rules -/
theorem rdE_const {e : E} {d : D} {v : V} (he : ∀ ρ S, evE F e ρ S = ok d S) (hr : ∀ (K : PySem.W.Frag) (H : Hp) (js : List Addr), RepV K H js d v) {σ : L2.St} {H : Hp} {Q : VK} (h : rdE X.K F e σ H Q) : Q v H := by
  obtain ⟨js, S, ρ, rs, rr, h⟩ := h
  rw [he] at h
  exact h.pure rs (hr _ _ _)
theorem isi_ok (t : Ty) : CallR X (.builtin "isinstance") (fun vs H Q => ∃ vx js S x, vs = [vx, .ty (tyS t)] ∧ RelS X.K H js S ∧ RepV X.K H js x vx ∧ OkE X.K H js (lift (isiD t x S) S) Q) := by
  intro pins s σ H vs us Q I r h
  obtain ⟨vx, js, S, x, rfl, rs, r1, h⟩ := h
  obtain ⟨b, e, q⟩ := h.lift rs
  have go : ∀ (T : String) (k : Kd), kdOf x S = some k → TyX X.K H vx (.type T) → kitB T (tyS t) = some (isKd t k) → wpAny (model X.prog X.w) X.A (PySem.call (.builtin "isinstance") us) (EP X pins σ Q) X.xe s := fun T k ek ty kk => by
    unfold isiD at e
    rw [ek] at e
    cases e
    exact call_isi pins s σ H _ us Q I r ⟨vx, .ty (tyS t), .type T, .type (tyS t), _, rfl, .ty _, ty, kit_ty kk, q⟩
  cases r1 with
  | non => exact go _ .non rfl (.base .non) (by cases t <;> decide +kernel)
  | bl c => exact go _ .bool rfl (.base (.bl c)) (by cases t <;> decide +kernel)
  | int i => exact go _ .int rfl (.base (.int i)) (by cases t <;> decide +kernel)
  | str z => exact go _ .str rfl (.base (.str z)) (by cases t <;> decide +kernel)
  | tup h1 n1 q1 => exact go _ .tuple rfl (.base (.tup h1)) (by cases t <;> decide +kernel)
  | fz h1 q1 =>
    rcases h1 with ⟨o, h1, _⟩ | ⟨o, its, n, h1, h2, _⟩
    · exact go _ .list rfl (.base (.frz h1)) (by cases t <;> decide +kernel)
    · have k : TyX X.K H (.ref _) (.type "list") := .kList h1 h2
      exact go _ .list rfl k (by cases t <;> decide +kernel)
  | @ref n a h1 =>
    cases e2 : S[n]? with
    | none =>
      have : kdOf (.ref n) S = none := by simp only [kdOf, e2]
      unfold isiD at e
      rw [this] at e
      cases e
    | some o =>
      cases o with
      | lst ds =>
        obtain ⟨a', xs, e3, e4, e5⟩ := rs.list e2
        rw [h1] at e3; cases e3
        exact go _ .list (by simp only [kdOf, e2]) (.base (.lst e4)) (by cases t <;> decide +kernel)
      | _ =>
        have : kdOf (.ref n) S = none := by simp only [kdOf, e2]
        unfold isiD at e
        rw [this] at e
        cases e
theorem bs_type (t : Ty) : bootBuiltins (tyN t) = some (.type (tyS t)) := by cases t <;> decide +kernel
theorem ty_name (t : Ty) : tyN t ≠ "__name__" ∧ (tyN t == ("__debug__" : Str)) = false := by cases t <;> exact ⟨by decide, by decide⟩
theorem bi_name (b : Bi) : biN b ≠ "__name__" ∧ (biN b == ("__debug__" : Str)) = false := by cases b <;> exact ⟨by decide, by decide⟩
theorem bi_boot (b : Bi) : bootBuiltins (biN b) = some (biV b) := by cases b <;> decide +kernel

theorem star_all {xs : List Expr} {es : Es} (h : mEs nm es xs = true) (env : Env) (pos : Pos) : (backTo pos (starEach xs env)).any (·.1) = false := by
  induction xs generalizing es with
  | nil => rfl
  | cons x xs ih =>
    cases es with
    | nil => unfold mEs at h; cases h
    | cons e es =>
      simp only [mEs, Bool.and_eq_true] at h
      rw [star_plain h.1.1]
      show (false || (backTo pos (starEach xs env)).any (·.1)) = false
      rw [ih h.2]
      rfl
theorem star_allN {xs : List Expr} {es : Es} (h : mEs nm es xs = true) (env : Env) (pos : Pos) : (backTo pos (starEach xs env)).all (fun x => !x.1) = true := by
  induction xs generalizing es with
  | nil => rfl
  | cons x xs ih =>
    cases es with
    | nil => unfold mEs at h; cases h
    | cons e es =>
      simp only [mEs, Bool.and_eq_true] at h
      rw [star_plain h.1.1]
      show (true && (backTo pos (starEach xs env)).all (fun x => !x.1)) = true
      rw [ih h.2]
      rfl
theorem evEs_len : ∀ (es : Es) (xs : List Expr) (ρ : Rho) (S S1 : Sto) (ds : List D), mEs nm es xs = true → evEs F es ρ S = some (.ok ds S1) → ds.length = xs.length
  | .nil, xs, _, _, _, _, h, e => by
    cases xs with
    | nil => cases e; rfl
    | cons _ _ => unfold mEs at h; cases h
  | .cons e es, xs, ρ, S, S1, ds, h, he => by
    cases xs with
    | nil => unfold mEs at h; cases h
    | cons x xs =>
      simp only [mEs, Bool.and_eq_true] at h
      unfold evEs at he
      cases e1 : evE F e ρ S with
      | none => rw [e1] at he; cases he
      | some r =>
        cases r with
        | ex c ys S2 => rw [e1] at he; cases he
        | ok d S2 =>
          rw [e1] at he
          have he : bd (evEs F es ρ S2) (fun ds S3 => ok (d :: ds) S3) = some (.ok ds S1) := he
          cases e2 : evEs F es ρ S2 with
          | none => rw [e2] at he; cases he
          | some r =>
            cases r with
            | ex c ys S3 => rw [e2] at he; cases he
            | ok ds' S3 =>
              rw [e2] at he
              cases he
              rw [List.length_cons, List.length_cons, evEs_len es xs _ _ _ ds' h.2 e2]

theorem pw_andI {a b : T} {y z : Expr} {r : List Expr} {p : Pos} (ha : PT X y (rdT X.K F a)) (hb : PW X (.BoolOp .And (z :: r) p) (rdT X.K F b)) : PW X (.BoolOp .And (y :: z :: r) p) (rdT X.K F (.and a b)) := by
  refine ⟨fun wh pins s σ H Q I q => ?_⟩
  obtain ⟨js, S, ρ, rs, rr, q⟩ := q
  unfold evT at q
  obtain ⟨t, S1, e1, q⟩ := q.bd
  refine (pw_and ha hb).run wh pins s σ H Q I (rdT.of e1 rs rr fun H1 js1 g1 rs1 => ?_)
  cases t with
  | true =>
    rw [if_pos rfl]
    exact ⟨js1, S1, ρ, rs1, rr.mono g1, q.mono g1⟩
  | false =>
    rw [if_neg Bool.false_ne_true]
    exact OkX.pure (OkX.mono q g1) rs1
theorem pw_orI {a b : T} {y z : Expr} {r : List Expr} {p : Pos} (ha : PT X y (rdT X.K F a)) (hb : PW X (.BoolOp .Or (z :: r) p) (rdT X.K F b)) : PW X (.BoolOp .Or (y :: z :: r) p) (rdT X.K F (.or a b)) := by
  refine ⟨fun wh pins s σ H Q I q => ?_⟩
  obtain ⟨js, S, ρ, rs, rr, q⟩ := q
  unfold evT at q
  obtain ⟨t, S1, e1, q⟩ := q.bd
  refine (pw_or ha hb).run wh pins s σ H Q I (rdT.of e1 rs rr fun H1 js1 g1 rs1 => ?_)
  cases t with
  | true =>
    rw [if_pos rfl]
    exact OkX.pure (OkX.mono q g1) rs1
  | false =>
    rw [if_neg Bool.false_ne_true]
    exact ⟨js1, S1, ρ, rs1, rr.mono g1, q.mono g1⟩
theorem pw_oneI {a : T} {op : BoolOp} {y : Expr} {p : Pos} (ha : PT X y (rdT X.K F a)) : PW X (.BoolOp op [y] p) (rdT X.K F (.one a)) := by
  refine ⟨fun wh pins s σ H Q I q => ?_⟩
  obtain ⟨js, S, ρ, rs, rr, q⟩ := q
  unfold evT at q
  cases op with
  | And => exact (pw_and1 ha).run wh pins s σ H Q I ⟨js, S, ρ, rs, rr, q⟩
  | Or => exact (pw_or1 ha).run wh pins s σ H Q I ⟨js, S, ρ, rs, rr, q⟩
theorem bmTy_list {m : Bm} {x : D} {S : Sto} (h : bmTy m x S = true) : ∃ n ds, x = .ref n ∧ S[n]? = some (.lst ds) := by
  unfold bmTy at h
  simp only at h
  split at h
  · rename_i n
    cases e : S[n]? with
    | none => rw [e] at h; cases h
    | some o =>
      rw [e] at h
      cases o with
      | lst ds => exact ⟨n, ds, rfl, e⟩
      | _ => cases h
  · cases h
theorem isDic_rep {K : PySem.W.Frag} {H : Hp} {js : List Addr} {S : Sto} {n : Nat} {a : Addr} (h : isDic S n = true) (rs : RelS K H js S) (e : js[n]? = some a) : IsD H a := by
  unfold isDic at h
  split at h
  · rename_i kvs e1
    obtain ⟨a', vs, e2, e3, _⟩ := rs.dict e1
    rw [e] at e2; cases e2
    exact .inl ⟨vs, .inl e3⟩
  · rename_i kvs e1
    obtain ⟨a', vs, e2, e3, _⟩ := rs.dictT e1
    rw [e] at e2; cases e2
    exact .inr ⟨vs, .inl e3⟩
  · cases h
theorem dis_some : ∀ (ks : List Str) (keys : List (Option Expr)), disKeys ks keys = true → keys.all (·.isSome) = true
  | [], [], _ => rfl
  | [], _ :: _, h => by unfold disKeys at h; cases h
  | _ :: _, [], h => by unfold disKeys at h; cases h
  | k :: ks, x :: xs, h => by
    unfold disKeys at h
    split at h
    · rename_i e1; cases e1
    · rename_i e1 e2
      cases e1
      cases e2
      rw [Bool.and_eq_true] at h
      rw [List.all_cons, dis_some _ _ h.2]
      rfl
    · cases h
theorem dis_len : ∀ (ks : List Str) (keys : List (Option Expr)), disKeys ks keys = true → ks.length = keys.length
  | [], [], _ => rfl
  | [], _ :: _, h => by unfold disKeys at h; cases h
  | _ :: _, [], h => by unfold disKeys at h; cases h
  | k :: ks, x :: xs, h => by
    unfold disKeys at h
    split at h
    · rename_i e1; cases e1
    · rename_i e1 e2
      cases e1
      cases e2
      rw [Bool.and_eq_true] at h
      rw [List.length_cons, List.length_cons, dis_len _ _ h.2]
    · cases h
theorem lc_read {K : PySem.W.Frag} {elt : E} {tg : Tg} {it : I} {c : T} {own : List (Str × Nat)} {σ : L2.St} {H : Hp} {Q : VK} (hsl : ∀ i ∈ tgSl tg, i ∈ own.map (·.2)) (q : rdE K F (.lc elt tg it c own) σ H Q) :
    tLc (rdI K F it) (rdTg K tg) (rdT K F c) (rdE K F elt) (own.map (·.2)) σ H Q := by
  obtain ⟨js, S, ρ, rs, rr, q⟩ := q
  unfold evE at q
  obtain ⟨i0, S1, e1, q⟩ := q.bd
  obtain ⟨r, S5, e2, q⟩ := q.bd
  cases r with
  | inr e => exact nomatch e
  | inl acc =>
  refine ⟨js, S, ρ, rs, rr, i0, S1, e1, fun H1 js1 J g1 rs1 wk Da hDa => ?_⟩
  have nDa : Da ∉ js1 := rs1.fresh hDa
  obtain ⟨z1, z2⟩ := g1.none_of hDa nDa
  have fin : ∀ (H' : Hp) (js' : List Addr) (xs' : List V), Grow H1 js1 H' js' → RelS K H' js' S5 → Da ∉ js' → H' Da = some (.lst xs') → RepVs K H' js' acc xs' → Q (.ref Da) H' := fun H' js' xs' g' rs' nd hD rv =>
    q _ H' (js' ++ [Da]) ((g1.trans g').give z1 z2 nd) (rs'.give nd hD rv) (.ref (by rw [← rs'.len]; simp))
  obtain ⟨m0, run0⟩ := run_start e2
  generalize hst : (fun (d : D) (acc : List D) (S2 : Sto) => match bindT tg d (wipeR ρ (own.map (·.2))) with
        | none => none
        | some ρ1 => bd (evT F c ρ1 S2) fun t S3 => match t with
          | true => bd (evE F elt ρ1 S3) fun y S4 => if acc.length < sizeLine then ok (.inl (acc ++ [y]) : List D ⊕ Empty) S4 else none
          | false => ok (.inl acc) S3) = st at run0
  refine ⟨fun i m H' => ∃ js' S' acc' xs', Grow H1 js1 H' js' ∧ RelS K H' js' S' ∧ Da ∉ js' ∧ H' Da = some (.lst xs') ∧ RepVs K H' js' acc' xs' ∧ Run i0 st i m acc' S' (.inl acc) S5,
    ⟨m0, js1, S1, [], [], Grow.lay rs1 hDa, rs1.lay hDa, nDa, upd_same, .nil, run0⟩, ?_⟩
  rintro i m H' ⟨js', S', acc', xs', g', rs', nd', hD', rv', run'⟩
  rcases run_step wk g' rs' run' with ⟨stop, e3, e4⟩ | ⟨d, go, yld, nx⟩
  · cases e3
    subst e4
    exact .inl ⟨stop, fin H' js' xs' g' rs' nd' hD' rv'⟩
  · refine .inr ⟨go, fun H2 => ∃ m', m' < m ∧ ∃ js2 S2 acc2 xs2, Grow H1 js1 H2 js2 ∧ RelS K H2 js2 S2 ∧ Da ∉ js2 ∧ H2 Da = some (.lst xs2) ∧ RepVs K H2 js2 acc2 xs2 ∧ Run i0 st (i + 1) m' acc2 S2 (.inl acc) S5, fun H2 h => h, fun x H2 y => ?_⟩
    obtain ⟨g2, rs2, rx⟩ := yld x H2 y
    have wr : RepR K H2 js' (wipeR ρ (own.map (·.2))) (wipe σ (own.map (·.2))) := ((rr.mono (g1.trans g')).mono g2).wipe _
    have hstd := congrFun (congrFun (congrFun hst d) acc') S'
    rcases nx with ⟨b, _⟩ | ⟨acc2, S2, m', hm, e5, run2⟩
    · exact nomatch b
    · rw [← hstd] at e5
      split at e5
      · cases e5
      · rename_i ρ1 eb
        refine ⟨js', d, _, ρ1, rx, wr, eb, fun σ2 r2 hl hj => ⟨?_, ?_⟩⟩
        · refine wipe_back (by rw [hl, wipe_length]) fun j hn => hj j fun z => hn (hsl j z)
        · cases e6 : evT F c ρ1 S' with
          | none => rw [e6] at e5; cases e5
          | some rt =>
            cases rt with
            | ex _ _ _ => rw [e6] at e5; cases e5
            | ok t S3 =>
              rw [e6] at e5
              simp only [bd_ok] at e5
              refine rdT.of e6 rs2 r2 fun H3 js3 g3 rs3 => ?_
              have nd3 : Da ∉ js3 := g3.notin nd' (g2.keep _ _ nd' hD')
              have hD3 : H3 Da = some (.lst xs') := g3.keep _ _ nd' (g2.keep _ _ nd' hD')
              have gg3 : Grow H1 js1 H3 js3 := g'.trans (g2.trans g3)
              cases t with
              | false =>
                cases e5
                simp only [Bool.false_eq_true, if_false]
                exact ⟨m', hm, js3, _, _, xs', gg3, rs3, nd3, hD3, (rv'.mono g2).mono g3, run2⟩
              | true =>
                simp only [if_true]
                cases e7 : evE F elt ρ1 S3 with
                | none => simp only [e7] at e5; cases e5
                | some re =>
                  cases re with
                  | ex _ _ _ => simp only [e7] at e5; cases e5
                  | ok yv S4 =>
                    simp only [e7, bd_ok] at e5
                    split at e5
                    · rename_i hz
                      cases e5
                      refine rdE.of e7 rs3 (r2.mono g3) fun w H4 js4 g4 rs4 r4 => ?_
                      have hD4 : H4 Da = some (.lst xs') := g4.keep _ _ nd3 hD3
                      have nd4 : Da ∉ js4 := g4.notin nd3 hD3
                      have rv4 : RepVs K H4 js4 acc' xs' := ((rv'.mono g2).mono g3).mono g4
                      refine ⟨xs', hD4, by rw [← rv4.length]; exact hz, m', hm, js4, _, _, _, (gg3.trans g4).beside hDa, rs4.beside nd4 hD4, nd4, upd_same, RepVs.beside hD4 (rv4.append (.cons r4 .nil)), run2⟩
                    · cases e5
mutual
theorem sE : ∀ (e : E) (nm : Nm) (x : Expr) (X : Cx), Good X nm F → mE nm e x = true → PE X x (rdE X.K F e)
  | .var i, nm, x, X, g, h => by
    unfold mE at h
    split at h
    · simp only [Bool.and_eq_true, decide_eq_true_eq] at h
      obtain ⟨⟨⟨h1, h2⟩, h3⟩, h4⟩ := h
      refine ⟨fun pins s σ H Q I q => ?_⟩
      obtain ⟨js, S, ρ, rs, rr, q⟩ := q
      refine (pe_var (g.at h1) (g.vis h2) (dbg_of h3) (by simpa using h4)).run pins s σ H Q I ?_
      unfold evE at q
      split at q
      · rename_i d e
        obtain ⟨v, e1, r1⟩ := rr.at_ _ _ e
        exact ⟨v, e1, q.pure rs r1⟩
      · exact q.elim
    · cases h
  | .non, nm, x, X, g, h => by
    unfold mE at h
    split at h
    · exact ⟨fun pins s σ H Q I q => pe_non.run pins s σ H Q I (rdE_const (d := .non) (fun _ _ => by unfold evE; rfl) (fun _ _ _ => .non) q)⟩
    · cases h
  | .bl b, nm, x, X, g, h => by
    unfold mE at h
    split at h
    · simp only [decide_eq_true_eq] at h
      subst h
      exact ⟨fun pins s σ H Q I q => pe_bl.run pins s σ H Q I (rdE_const (d := .bl b) (fun _ _ => by unfold evE; rfl) (fun _ _ _ => .bl b) q)⟩
    · cases h
  | .int i, nm, x, X, g, h => by
    unfold mE at h
    split at h
    · simp only [decide_eq_true_eq] at h
      subst h
      exact ⟨fun pins s σ H Q I q => pe_int.run pins s σ H Q I (rdE_const (d := .int i) (fun _ _ => by unfold evE; rfl) (fun _ _ _ => .int i) q)⟩
    · cases h
  | .str z, nm, x, X, g, h => by
    unfold mE at h
    split at h
    · simp only [decide_eq_true_eq] at h
      subst h
      exact ⟨fun pins s σ H Q I q => pe_str.run pins s σ H Q I (rdE_const (d := .str z) (fun _ _ => by unfold evE; rfl) (fun _ _ _ => .str z) q)⟩
    · cases h
  | .gc z d, nm, x, X, g, h => by
    unfold mE at h
    split at h
    · simp only [Bool.and_eq_true, decide_eq_true_eq] at h
      obtain ⟨⟨⟨h1, h2⟩, h3⟩, h4⟩ := h
      subst h1
      obtain ⟨u, v, m, r, rep⟩ := g.gs _ _ h4
      refine ⟨fun pins s σ H Q I q => ?_⟩
      obtain ⟨js, S, ρ, rs, rr, q⟩ := q
      unfold evE at q
      exact (pe_glob (g.gl h2) m r (dbg_of h3)).run pins s σ H Q I (q.pure rs (rep _ _))
    · cases h
  | .tup es, nm, x, X, g, h => by
    unfold mE at h
    split at h
    · simp only [Bool.and_eq_true, decide_eq_true_eq] at h
      obtain ⟨h1, h2⟩ := h
      refine ⟨fun pins s σ H Q I q => ?_⟩
      obtain ⟨js, S, ρ, rs, rr, q⟩ := q
      unfold evE at q
      obtain ⟨ds, S1, e1, q⟩ := q.bd
      refine (pe_tup (sEs es nm _ X g h2)).run pins s σ H Q I (rdEs.of e1 rs rr fun vs H1 js1 g1 rs1 r1 => ⟨?_, fun p hp => ?_⟩)
      · rw [← r1.length, evEs_len es _ _ _ _ _ h2 e1, sizeLine_eq]
        omega
      · exact (q.mono g1).tup rs1 r1 hp
    · cases h
  | .lst es, nm, x, X, g, h => by
    unfold mE at h
    split at h
    · simp only [Bool.and_eq_true, decide_eq_true_eq] at h
      obtain ⟨h1, h2⟩ := h
      refine ⟨fun pins s σ H Q I q => ?_⟩
      obtain ⟨js, S, ρ, rs, rr, q⟩ := q
      unfold evE at q
      obtain ⟨ds, S1, e1, q⟩ := q.bd
      refine (pe_lst (sEs es nm _ X g h2)).run pins s σ H Q I (rdEs.of e1 rs rr fun vs H1 js1 g1 rs1 r1 => ⟨?_, fun p hp => ?_⟩)
      · rw [← r1.length, evEs_len es _ _ _ _ _ h2 e1, sizeLine_eq]
        omega
      · exact (q.mono g1).lst rs1 r1 hp
    · cases h
  | .bin op a b, nm, x, X, g, h => by
    unfold mE at h
    split at h
    · simp only [Bool.and_eq_true] at h
      obtain ⟨⟨⟨⟨h0, h1⟩, h2⟩, h3⟩, h4⟩ := h
      rw [opB_of h0]
      refine ⟨fun pins s σ H Q I q => ?_⟩
      obtain ⟨js, S, ρ, rs, rr, q⟩ := q
      unfold evE at q
      obtain ⟨x1, S1, e1, q⟩ := q.bd
      obtain ⟨x2, S2, e2, q⟩ := q.bd
      exact (pe_op (bop_ok op) (sE a nm _ X g h2) (sE b nm _ X g h4)).run pins s σ H Q I (rdE.of e1 rs rr fun v1 H1 js1 g1 rs1 r1 =>
        rdE.of e2 rs1 (rr.mono g1) fun v2 H2 js2 g2 rs2 r2 => ⟨js2, S2, x1, x2, rs2, r1.mono g2, r2, q.mono (g1.trans g2)⟩)
    · cases h
  | .neg a, nm, x, X, g, h => by
    unfold mE at h
    split at h
    · simp only [Bool.and_eq_true] at h
      refine ⟨fun pins s σ H Q I q => ?_⟩
      obtain ⟨js, S, ρ, rs, rr, q⟩ := q
      unfold evE at q
      obtain ⟨x1, S1, e1, q⟩ := q.bd
      refine (pe_un un_neg (sE a nm _ X g h.2)).run pins s σ H Q I (rdE.of e1 rs rr fun v1 H1 js1 g1 rs1 r1 => ?_)
      split at q
      · cases r1
        exact ⟨_, rfl, (q.mono g1).pure rs1 (.int _)⟩
      · exact q.elim
    · cases h
  | .cmp op a b, nm, x, X, g, h => by
    unfold mE at h
    split at h
    · simp only [Bool.and_eq_true] at h
      obtain ⟨⟨⟨⟨h0, h1⟩, h2⟩, h3⟩, h4⟩ := h
      rw [cmB_of h0]
      refine ⟨fun pins s σ H Q I q => ?_⟩
      obtain ⟨js, S, ρ, rs, rr, q⟩ := q
      unfold evE at q
      obtain ⟨x1, S1, e1, q⟩ := q.bd
      obtain ⟨x2, S2, e2, q⟩ := q.bd
      exact (pe_cmpR (cop_ok op g.hu) (sE a nm _ X g h2) (sE b nm _ X g h4) (behind_plain h3 _)).run pins s σ H Q I (rdE.of e1 rs rr fun v1 H1 js1 g1 rs1 r1 =>
        rdE.of e2 rs1 (rr.mono g1) fun v2 H2 js2 g2 rs2 r2 => ⟨js2, S2, x1, x2, rs2, r1.mono g2, r2, q.mono (g1.trans g2)⟩)
    · cases h
  | .chain op op' a b c, nm, x, X, g, h => by
    unfold mE at h
    split at h
    · simp only [Bool.and_eq_true] at h
      obtain ⟨⟨⟨⟨⟨⟨⟨h0, h0'⟩, h1⟩, h2⟩, h3⟩, h4⟩, h5⟩, h6⟩ := h
      rw [cmB_of h0, cmB_of h0']
      refine ⟨fun pins s σ H Q I q => ?_⟩
      obtain ⟨js, S, ρ, rs, rr, q⟩ := q
      unfold evE at q
      obtain ⟨x1, S1, e1, q⟩ := q.bd
      obtain ⟨x2, S2, e2, q⟩ := q.bd
      refine (pe_chain (cop_ok op g.hu) (cop_ok op' g.hu) (sE a nm _ X g h2) (sE b nm _ X g h4) (sE c nm _ X g h6) (hm := (behind_plain h5 _ : behindInMarks _ _ = false))).run pins s σ H Q I (rdE.of e1 rs rr fun v1 H1 js1 g1 rs1 r1 =>
        rdE.of e2 rs1 (rr.mono g1) fun v2 H2 js2 g2 rs2 r2 => ⟨js2, S2, x1, x2, rs2, r1.mono g2, r2, ?_⟩)
      split at q
      · rename_i e3
        obtain ⟨x3, S3, e4, q⟩ := q.bd
        refine copB_ok e3 fun H3 js3 g3 rs3 => ⟨true, rfl, ?_⟩
        simp only [if_true]
        exact rdE.of e4 rs3 (rr.mono (g1.trans (g2.trans g3))) fun v3 H4 js4 g4 rs4 r4 => ⟨js4, S3, x2, x3, rs4, (r2.mono g3).mono g4, r4, q.mono (g1.trans (g2.trans (g3.trans g4)))⟩
      · rename_i e3
        refine copB_ok e3 fun H3 js3 g3 rs3 => ⟨false, rfl, ?_⟩
        simp only [Bool.false_eq_true, if_false]
        exact (q.mono (g1.trans (g2.trans g3))).pure rs3 (.bl false)
      · exact q.elim
    · cases h
  | .and a b, nm, x, X, g, h => by
    unfold mE at h
    split at h
    · simp only [Bool.and_eq_true] at h
      obtain ⟨⟨h1, h2⟩, h3⟩ := h
      refine ⟨fun pins s σ H Q I q => ?_⟩
      obtain ⟨js, S, ρ, rs, rr, q⟩ := q
      unfold evE at q
      obtain ⟨x1, S1, e1, q⟩ := q.bd
      refine (pe_and (sE a nm _ X g h2) (sE b nm _ X g h3)).run pins s σ H Q I (rdE.of e1 rs rr fun v1 H1 js1 g1 rs1 r1 => ?_)
      split at q
      · cases r1
        exact ⟨true, rfl, by rw [if_pos rfl]; exact ⟨js1, S1, ρ, rs1, rr.mono g1, q.mono g1⟩⟩
      · cases r1
        exact ⟨false, rfl, by rw [if_neg Bool.false_ne_true]; exact (q.mono g1).pure rs1 (.bl false)⟩
      · exact q.elim
    · cases h
  | .or a b, nm, x, X, g, h => by
    unfold mE at h
    split at h
    · simp only [Bool.and_eq_true] at h
      obtain ⟨⟨h1, h2⟩, h3⟩ := h
      refine ⟨fun pins s σ H Q I q => ?_⟩
      obtain ⟨js, S, ρ, rs, rr, q⟩ := q
      unfold evE at q
      obtain ⟨x1, S1, e1, q⟩ := q.bd
      refine (pe_or (sE a nm _ X g h2) (sE b nm _ X g h3)).run pins s σ H Q I (rdE.of e1 rs rr fun v1 H1 js1 g1 rs1 r1 => ?_)
      split at q
      · cases r1
        exact ⟨true, rfl, by rw [if_pos rfl]; exact (q.mono g1).pure rs1 (.bl true)⟩
      · cases r1
        exact ⟨false, rfl, by rw [if_neg Bool.false_ne_true]; exact ⟨js1, S1, ρ, rs1, rr.mono g1, q.mono g1⟩⟩
      · exact q.elim
    · cases h
  | .one a, nm, x, X, g, h => by
    unfold mE at h
    split at h
    · simp only [Bool.and_eq_true] at h
      refine ⟨fun pins s σ H Q I q => ?_⟩
      obtain ⟨js, S, ρ, rs, rr, q⟩ := q
      unfold evE at q
      exact (pe_one (sE a nm _ X g h.2)).run pins s σ H Q I ⟨js, S, ρ, rs, rr, q⟩
    · cases h
  | .not a, nm, x, X, g, h => by
    unfold mE at h
    split at h
    · simp only [Bool.and_eq_true] at h
      refine ⟨fun pins s σ H Q I q => ?_⟩
      obtain ⟨js, S, ρ, rs, rr, q⟩ := q
      unfold evE at q
      obtain ⟨x1, S1, e1, q⟩ := q.bd
      refine (pe_not (sE a nm _ X g h.2)).run pins s σ H Q I (rdE.of e1 rs rr fun v1 H1 js1 g1 rs1 r1 => ?_)
      split at q
      · cases r1
        exact ⟨_, rfl, (q.mono g1).pure rs1 (.bl _)⟩
      · exact q.elim
    · cases h
  | .ite c a b, nm, x, X, g, h => by
    unfold mE at h
    split at h
    · simp only [Bool.and_eq_true] at h
      obtain ⟨⟨⟨⟨⟨h1, h2⟩, h3⟩, h4⟩, h5⟩, h6⟩ := h
      refine ⟨fun pins s σ H Q I q => ?_⟩
      obtain ⟨js, S, ρ, rs, rr, q⟩ := q
      unfold evE at q
      obtain ⟨t, S1, e1, q⟩ := q.bd
      refine (pe_ifExp (sT c nm _ X g h2) (sE a nm _ X g h4) (sE b nm _ X g h6)).run pins s σ H Q I (rdT.of e1 rs rr fun H1 js1 g1 rs1 => ?_)
      cases t with
      | true =>
        rw [if_pos rfl]
        exact ⟨js1, S1, ρ, rs1, rr.mono g1, q.mono g1⟩
      | false =>
        rw [if_neg Bool.false_ne_true]
        exact ⟨js1, S1, ρ, rs1, rr.mono g1, q.mono g1⟩
    · cases h
  | .idx a i, nm, x, X, g, h => by
    unfold mE at h
    split at h
    · simp only [Bool.and_eq_true] at h
      obtain ⟨⟨⟨h1, h2⟩, h3⟩, h4⟩ := h
      refine ⟨fun pins s σ H Q I q => ?_⟩
      obtain ⟨js, S, ρ, rs, rr, q⟩ := q
      unfold evE at q
      obtain ⟨x1, S1, e1, q⟩ := q.bd
      obtain ⟨x2, S2, e2, q⟩ := q.bd
      exact (pe_ix (idx_ok g.hu) (sE a nm _ X g h2) (sE i nm _ X g h4) (plainIx h3)).run pins s σ H Q I (rdE.of e1 rs rr fun v1 H1 js1 g1 rs1 r1 =>
        rdE.of e2 rs1 (rr.mono g1) fun v2 H2 js2 g2 rs2 r2 => ⟨js2, S2, x1, x2, rs2, r1.mono g2, r2, q.mono (g1.trans g2)⟩)
    · cases h
  | .sl a lo hi, nm, x, X, g, h => by
    unfold mE at h
    split at h
    · simp only [Bool.and_eq_true] at h
      obtain ⟨⟨⟨h1, h2⟩, h3⟩, h4⟩ := h
      refine ⟨fun pins s σ H Q I q => ?_⟩
      obtain ⟨js, S, ρ, rs, rr, q⟩ := q
      unfold evE at q
      obtain ⟨x1, S1, e1, q⟩ := q.bd
      obtain ⟨l, S2, e2, q⟩ := q.bd
      obtain ⟨u, S3, e3, q⟩ := q.bd
      exact (pe_slice sl_ok (sE a nm _ X g h2) (sP lo nm _ X g h3) (sP hi nm _ X g h4)).run pins s σ H Q I (rdE.of e1 rs rr fun v1 H1 js1 g1 rs1 r1 =>
        rdP.of e2 rs1 (rr.mono g1) fun H2 js2 g2 rs2 => rdP.of e3 rs2 (rr.mono (g1.trans g2)) fun H3 js3 g3 rs3 => ⟨js3, S3, x1, rs3, (r1.mono g2).mono g3, q.mono (g1.trans (g2.trans g3))⟩)
    · cases h
  | .rev a, nm, x, X, g, h => by
    unfold mE at h
    split at h
    · simp only [Bool.and_eq_true, decide_eq_true_eq] at h
      obtain ⟨⟨h0, h1⟩, h2⟩ := h
      subst h0
      refine ⟨fun pins s σ H Q I q => ?_⟩
      obtain ⟨js, S, ρ, rs, rr, q⟩ := q
      unfold evE at q
      obtain ⟨x1, S1, e1, q⟩ := q.bd
      refine (pe_revA (sE a nm _ X g h2)).run pins s σ H Q I (rdE.of e1 rs rr fun v1 H1 js1 g1 rs1 r1 => ?_)
      unfold revD at q
      split at q
      · cases r1 with
        | tup h1 n1 q1 => exact ⟨_, _, rfl, .inr ⟨.inl (.inl h1), fun p' hp => (q.mono g1).tup rs1 q1.reverse hp⟩⟩
      · rename_i nt
        split at q
        · rename_i ds e
          obtain ⟨p, xs, ev, rv, hh⟩ := itemsOf_seq e rs1 r1
          subst ev
          rcases hh with ⟨_, hh⟩ | ⟨hh, _⟩
          · exact absurd hh (nt ds)
          · exact ⟨p, xs, rfl, .inl ⟨hh, fun p' hp => (q.mono g1).lst rs1 rv.reverse hp⟩⟩
        · exact q.elim
    · cases h
  | .call f es, nm, x, X, g, h => by
    unfold mE at h
    split at h
    · rename_i z p xs pos
      simp only [Bool.and_eq_true, decide_eq_true_eq] at h
      obtain ⟨⟨⟨h1, h2⟩, h3⟩, h4⟩ := h
      obtain ⟨CT, k, a, fd, ps, sp, c⟩ := g.call f _ h1
      have pass : Passes CT X E0 := fun _ _ _ _ _ _ _ hh => (c.nox _ _ _ _ _ hh).elim
      refine ⟨fun pins s σ H Q I q => ?_⟩
      obtain ⟨js, S, ρ, rs, rr, q⟩ := q
      unfold evE at q
      obtain ⟨ds, S1, e1, q⟩ := q.bd
      have fin : ∀ (v : List V) (H1 : Hp) (js1 : List Addr), Grow H js H1 js1 → RelS X.K H1 js1 S1 → RepVs X.K H1 js1 ds v → sp (v ++ []) H1 Q E0 := fun v H1 js1 g1 rs1 r1 => by
        rw [List.append_nil]
        exact c.sp v H1 Q ⟨js1, S1, ds, rs1, r1, q.mono g1⟩
      cases xs with
      | nil =>
        cases es with
        | cons _ _ => unfold mEs at h4; cases h4
        | nil =>
          unfold evEs at e1
          cases e1
          exact (pe_call0 (ds := []) (dvs := []) c.fn c.room (g.gl h2) c.mg c.kp c.bi .nil pass (dbg_of h3)).run pins s σ H Q I (fin [] H js Grow.refl rs .nil)
      | cons y ys =>
        have hy : plainX y = true ∧ ∃ es', mEs nm es' ys = true := by
          cases es with
          | nil => unfold mEs at h4; cases h4
          | cons e es' =>
            simp only [mEs, Bool.and_eq_true] at h4
            exact ⟨h4.1.1, es', h4.2⟩
        obtain ⟨hy1, es', hy2⟩ := hy
        exact (pe_call (ds := []) (dvs := []) c.fn c.room (g.gl h2) c.mg c.kp c.bi .nil pass (sEs es nm _ X g h4) (dbg_of h3) (star_plain hy1 _ _) (star_all hy2 _ _)).run pins s σ H Q I (rdEs.of e1 rs rr fin)
    · cases h
  | .bi b es, nm, x, X, g, h => by
    unfold mE at h
    split at h
    · rename_i z p y ys pos
      simp only [Bool.and_eq_true, decide_eq_true_eq] at h
      obtain ⟨⟨⟨h1, h2⟩, h3⟩, h4⟩ := h
      subst h1
      have hy : plainX y = true ∧ ∃ es', mEs nm es' ys = true := by
        cases es with
        | nil => unfold mEs at h4; cases h4
        | cons e es' =>
          simp only [mEs, Bool.and_eq_true] at h4
          exact ⟨h4.1.1, es', h4.2⟩
      obtain ⟨hy1, es', hy2⟩ := hy
      refine ⟨fun pins s σ H Q I q => ?_⟩
      obtain ⟨js, S, ρ, rs, rr, q⟩ := q
      unfold evE at q
      obtain ⟨ds, S1, e1, q⟩ := q.bd
      have rd : rdEs X.K F es σ H (fun vs H1 => rBi X.K (biD b) vs H1 Q) := rdEs.of e1 rs rr fun v H1 js1 g1 rs1 r1 => ⟨js1, S1, ds, rs1, r1, q.mono g1⟩
      have hb := bi_boot b
      have hc := bi_ok (X := X) b
      obtain ⟨n1, n2⟩ := bi_name b
      cases b <;> first
        | exact (pe_callB hc (g.gl h2) (g.bs _ h3) hb (sEs es nm _ X g h4) n1 n2 (star_plain hy1 _ _) (star_all hy2 _ _)).run pins s σ H Q I rd
        | exact (pe_callTy hc (g.gl h2) (g.bs _ h3) hb (sEs es nm _ X g h4) n1 n2 (star_plain hy1 _ _) (star_all hy2 _ _)).run pins s σ H Q I rd
    · cases h
  | .bm m o es, nm, x, X, g, h => by
    unfold mE at h
    split at h
    · rename_i y a apos z zs cpos
      simp only [Bool.and_eq_true, decide_eq_true_eq] at h
      obtain ⟨⟨⟨⟨⟨⟨h1, h2⟩, h3⟩, h4⟩, h5⟩, h6⟩, h7⟩ := h
      subst h1
      have hy : plainX z = true ∧ ∃ es', mEs nm es' zs = true := by
        cases es with
        | nil => unfold mEs at h7; cases h7
        | cons e es' =>
          simp only [mEs, Bool.and_eq_true] at h7
          exact ⟨h7.1.1, es', h7.2⟩
      obtain ⟨hy1, es', hy2⟩ := hy
      have hfew : ((backTo cpos (starEach (z :: zs) X.env)).all (fun x => !x.1) && (backToKw cpos (keywordEach [] X.env)).all (fun x => x.1.isSome)
          && decide ((z :: zs).length + ([] : List Keyword).length + (if ([] : List Keyword).isEmpty then 0 else 1) < 30)) = true := by
        rw [star_allN h7]
        simp only [Bool.true_and, Bool.and_eq_true, decide_eq_true_eq]
        exact ⟨rfl, by simp only [List.length_nil, List.isEmpty_nil, if_true]; omega⟩
      refine ⟨fun pins s σ H Q I q => ?_⟩
      obtain ⟨js, S, ρ, rs, rr, q⟩ := q
      unfold evE at q
      obtain ⟨x1, S1, e1, q⟩ := q.bd
      split at q
      rotate_left
      · exact q.elim
      rename_i ty
      obtain ⟨ds, S2, e2, q⟩ := q.bd
      cases m with
      | append =>
        refine (pe_bm PySem.F.plainAttrs_list PySem.F.slot_list_append PySem.F.type_list_append append_ok (sE o nm _ X g h6) (sEs es nm _ X g h7) (noSup_base h2 _ _) hfew h3 (star_plain hy1 _ _) (star_all hy2 _ _)).run pins s σ H Q I
          (rdE.of e1 rs rr fun v1 H1 js1 g1 rs1 r1 => ⟨?_, rdEs.of e2 rs1 (rr.mono g1) fun vs H2 js2 g2 rs2 r2 => ⟨js2, S2, x1, ds, rs2, r1.mono g2, r2, q.mono (g1.trans g2)⟩⟩)
        obtain ⟨n, ds', ex, e3⟩ := bmTy_list ty
        subst ex
        cases r1 with
        | ref h1 =>
          obtain ⟨a', xs, e4, e5, _⟩ := rs1.list e3
          rw [h1] at e4; cases e4
          exact .inl ⟨rfl, xs, .inl (.inl e5)⟩
      | insert =>
        refine (pe_bm PySem.F.plainAttrs_list PySem.F.slot_list_insert PySem.F.type_list_insert insert_ok (sE o nm _ X g h6) (sEs es nm _ X g h7) (noSup_base h2 _ _) hfew h3 (star_plain hy1 _ _) (star_all hy2 _ _)).run pins s σ H Q I
          (rdE.of e1 rs rr fun v1 H1 js1 g1 rs1 r1 => ⟨?_, rdEs.of e2 rs1 (rr.mono g1) fun vs H2 js2 g2 rs2 r2 => ⟨js2, S2, x1, ds, rs2, r1.mono g2, r2, q.mono (g1.trans g2)⟩⟩)
        obtain ⟨n, ds', ex, e3⟩ := bmTy_list ty
        subst ex
        cases r1 with
        | ref h1 =>
          obtain ⟨a', xs, e4, e5, _⟩ := rs1.list e3
          rw [h1] at e4; cases e4
          exact .inl ⟨rfl, xs, .inl (.inl e5)⟩
    · cases h
  | .isi a t, nm, x, X, g, h => by
    unfold mE at h
    split at h
    · simp only [Bool.and_eq_true, decide_eq_true_eq] at h
      obtain ⟨⟨⟨⟨⟨⟨⟨h1, h2⟩, h3⟩, h4⟩, h5⟩, h6⟩, h7⟩, h8⟩ := h
      subst h1 h4
      refine ⟨fun pins s σ H Q I q => ?_⟩
      obtain ⟨js, S, ρ, rs, rr, q⟩ := q
      unfold evE at q
      obtain ⟨x1, S1, e1, q⟩ := q.bd
      obtain ⟨n1, n2⟩ := ty_name t
      exact (pe_callB (isi_ok t) (g.gl h2) (g.bs _ h3) (by decide +kernel) (pa_cons (sE a nm _ X g h8) (pa_cons (pe_bltn (v := .ty (tyS t)) (g.gl h5) (g.bs _ h6) (bs_type t) rfl n1 n2) pa_nil (by rfl)) (star_plain h7 _ _)) (by decide) (by decide) (star_plain h7 _ _) (by rfl)).run pins s σ H Q I
        (rdE.of e1 rs rr fun v1 H1 js1 g1 rs1 r1 => ⟨v1, js1, S1, x1, rfl, rs1, r1, q.mono g1⟩)
    · cases h
  | .lrg a, nm, x, X, g, h => by
    unfold mE at h
    split at h
    · simp only [Bool.and_eq_true, decide_eq_true_eq] at h
      obtain ⟨⟨⟨⟨⟨⟨⟨h1, h2⟩, h3⟩, h4⟩, h5⟩, h6⟩, h7⟩, h8⟩ := h
      subst h1 h4
      refine ⟨fun pins s σ H Q I q => ?_⟩
      obtain ⟨js, S, ρ, rs, rr, q⟩ := q
      unfold evE at q
      obtain ⟨x1, S1, e1, q⟩ := q.bd
      refine (pe_listRg g.calm (g.gl h2) (g.bs _ h3) (prg_1 (g.gl h5) (g.bs _ h6) (sE a nm _ X g h8) (star_plain h7 _ _)) (by rfl)).run pins s σ H Q I (rdE.of e1 rs rr fun v1 H1 js1 g1 rs1 r1 => ?_)
      split at q
      · split at q
        · rename_i j hj
          cases r1
          refine ⟨_, rfl, ⟨by omega, by omega, hj.1, hj.2.1, by rw [Int.sub_zero]; exact hj.2.2⟩, fun p hp => ?_⟩
          have rv : RepVs X.K H1 js1 ((List.range j.toNat).map fun (k : Nat) => D.int k) (rgV 0 j) := by
            unfold rgV
            rw [Int.sub_zero]
            generalize List.range j.toNat = l
            induction l with
            | nil => exact .nil
            | cons k l ih =>
              refine .cons ?_ ih
              show RepV X.K H1 js1 (D.int k) (V.int (0 + (k : Nat)))
              rw [Int.zero_add]
              exact .int _
          exact (q.mono g1).lst rs1 rv hp
        · exact q.elim
      · exact q.elim
    · cases h
  | .dnk, nm, x, X, g, h => by
    unfold mE at h
    split at h
    · refine ⟨fun pins s σ H Q I q => pe_dnewK.run pins s σ H Q I ?_⟩
      obtain ⟨js, S, ρ, rs, rr, q⟩ := q
      unfold evE at q
      exact fun p hp => q.newO (ob := .dic []) (u := .dK []) rs ⟨rfl, .nil⟩ hp
    · cases h
  | .dnt, nm, x, X, g, h => by
    unfold mE at h
    split at h
    · refine ⟨fun pins s σ H Q I q => pe_dnewT.run pins s σ H Q I ?_⟩
      obtain ⟨js, S, ρ, rs, rr, q⟩ := q
      unfold evE at q
      exact fun p hp => q.newO (ob := .dit []) (u := .dT []) rs ⟨rfl, .nil⟩ hp
    · cases h
  | .disp ks es, nm, x, X, g, h => by
    unfold mE at h
    split at h
    · simp only [Bool.and_eq_true, decide_eq_true_eq] at h
      obtain ⟨⟨⟨⟨h1, h2⟩, h3⟩, h4⟩, h5⟩ := h
      refine ⟨fun pins s σ H Q I q => (pe_disp (sDs ks es nm _ _ X g h4 h3 h5) (dis_some ks _ h4) h3 h1 h2).run pins s σ H Q I ?_⟩
      obtain ⟨js, S, ρ, rs, rr, q⟩ := q
      unfold evE at q
      obtain ⟨ds, S1, e1, q⟩ := q.bd
      split at q
      · rename_i hl
        intro p hp
        have np : p ∉ js := rs.fresh hp
        refine dis_read ks es _ js S S1 ds _ e1 hl (rs.lay hp) (rr.mono (Grow.lay rs hp)) fun H2 js2 vs g2 rs2 r2 => ?_
        have hD : H2 p = some (.dK []) := g2.keep p _ np upd_same
        have np2 : p ∉ js2 := g2.notin np upd_same
        refine ⟨hD, (ks.zip vs).map (fun kv => (Sum.inr kv.1, kv.2)), ?_, ?_, ?_⟩
        · rw [List.map_map]
          rfl
        · rw [List.length_map, List.length_zip]
          have := dis_len ks _ h4
          omega
        · have g3 : Grow H js H2 js2 := (Grow.lay rs hp).trans g2
          have gg : Grow H js (upd H2 p (.dK (mergeK [] ((ks.zip vs).map fun kv => (Sum.inr kv.1, kv.2))))) (js2 ++ [p]) := g3.giv hp np np2
          refine q _ _ (js2 ++ [p]) gg (rs2.giv np2 hD (fun _ z => nomatch z) (fun _ _ z => nomatch z) (dis_rep ks ds vs [] [] r2 ⟨rfl, .nil⟩)) (.ref (by rw [← rs2.len]; simp))
      · exact q.elim
    · cases h
  | .get1 d k, nm, x, X, g, h => by
    unfold mE at h
    split at h
    · simp only [Bool.and_eq_true, decide_eq_true_eq] at h
      obtain ⟨⟨⟨⟨⟨⟨h1, h2⟩, h3⟩, h4⟩, h5⟩, h6⟩, h7⟩ := h
      subst h1
      refine ⟨fun pins s σ H Q I q => (pe_dget1 (by have := g.hu; omega) (sE d nm _ X g h5) (sE k nm _ X g h7) ⟨noSup_base h2 _ _, by rw [star_plain h6]; rfl, h3, by rw [star_plain h6]; rfl⟩).run pins s σ H Q I ?_⟩
      obtain ⟨js, S, ρ, rs, rr, q⟩ := q
      unfold evE at q
      obtain ⟨x1, S1, e1, q⟩ := q.bd
      refine rdE.of e1 rs rr fun v1 H1 js1 g1 rs1 r1 => ?_
      split at q
      · rename_i n
        split at q
        · rename_i hd
          cases r1 with
          | ref h1 =>
            refine ⟨_, rfl, isDic_rep hd rs1 h1, ?_⟩
            obtain ⟨x2, S2, e2, q⟩ := q.bd
            refine rdE.of e2 rs1 (rr.mono g1) fun v2 H2 js2 g2 rs2 r2 => ?_
            split at q
            · rename_i w e3
              obtain ⟨a', e4, gg, _⟩ := dget_rep e3 rs2 r2
              rw [g2.at h1] at e4; cases e4
              rcases gg with ⟨z, _⟩ | ⟨d', w', z, gg, rw'⟩
              · cases z
              · cases z
                exact ⟨some w', gg, (q.mono (g1.trans g2)).pure rs2 rw'⟩
            · rename_i e3
              obtain ⟨a', e4, gg, _⟩ := dget_rep e3 rs2 r2
              rw [g2.at h1] at e4; cases e4
              rcases gg with ⟨_, gg⟩ | ⟨d', w', z, _, _⟩
              · exact ⟨none, gg, (q.mono (g1.trans g2)).pure rs2 .non⟩
              · cases z
            · exact q.elim
        · exact q.elim
      · exact q.elim
    · cases h
  | .get2 d k e, nm, x, X, g, h => by
    unfold mE at h
    split at h
    · simp only [Bool.and_eq_true, decide_eq_true_eq] at h
      obtain ⟨⟨⟨⟨⟨⟨⟨⟨h1, h2⟩, h3⟩, h4⟩, h5⟩, h6⟩, h7⟩, h8⟩, h9⟩ := h
      subst h1
      refine ⟨fun pins s σ H Q I q => (pe_dget2 (by have := g.hu; omega) (sE d nm _ X g h5) (sE k nm _ X g h7) (sE e nm _ X g h9) ⟨noSup_base h2 _ _, by rw [star_plain h6, star_plain h8]; rfl, h3, by rw [star_plain h6, star_plain h8]; rfl⟩).run pins s σ H Q I ?_⟩
      obtain ⟨js, S, ρ, rs, rr, q⟩ := q
      unfold evE at q
      obtain ⟨x1, S1, e1, q⟩ := q.bd
      refine rdE.of e1 rs rr fun v1 H1 js1 g1 rs1 r1 => ?_
      split at q
      · rename_i n
        split at q
        · rename_i hd
          cases r1 with
          | ref h1 =>
            refine ⟨_, rfl, isDic_rep hd rs1 h1, ?_⟩
            obtain ⟨x2, S2, e2, q⟩ := q.bd
            refine rdE.of e2 rs1 (rr.mono g1) fun v2 H2 js2 g2 rs2 r2 => ?_
            obtain ⟨x3, S3, e5, q⟩ := q.bd
            refine rdE.of e5 rs2 (rr.mono (g1.trans g2)) fun v3 H3 js3 g3 rs3 r3 => ?_
            split at q
            · rename_i w e3
              obtain ⟨a', e4, gg, _⟩ := dget_rep e3 rs3 (r2.mono g3)
              rw [(g2.trans g3).at h1] at e4; cases e4
              rcases gg with ⟨z, _⟩ | ⟨d', w', z, gg, rw'⟩
              · cases z
              · cases z
                exact ⟨some w', gg, (q.mono (g1.trans (g2.trans g3))).pure rs3 rw'⟩
            · rename_i e3
              obtain ⟨a', e4, gg, _⟩ := dget_rep e3 rs3 (r2.mono g3)
              rw [(g2.trans g3).at h1] at e4; cases e4
              rcases gg with ⟨_, gg⟩ | ⟨d', w', z, _, _⟩
              · exact ⟨none, gg, (q.mono (g1.trans (g2.trans g3))).pure rs3 r3⟩
              · cases z
            · exact q.elim
        · exact q.elim
      · exact q.elim
    · cases h
  | .sm m a, nm, x, X, g, h => by
    unfold mE at h
    split at h
    · simp only [Bool.and_eq_true, decide_eq_true_eq] at h
      obtain ⟨⟨⟨⟨h1, h2⟩, h3⟩, h4⟩, h5⟩ := h
      subst h1
      refine ⟨fun pins s σ H Q I q => ?_⟩
      obtain ⟨js, S, ρ, rs, rr, q⟩ := q
      unfold evE at q
      obtain ⟨x1, S1, e1, q⟩ := q.bd
      unfold smD at q
      cases m with
      | lower =>
        refine (pe_bm0 PySem.F.plainAttrs_str PySem.F.slot_str_lower PySem.F.type_str_lower mt_lower (sE a nm _ X g h5) (noSup_base h2 _ _) h3).run pins s σ H Q I (rdE.of e1 rs rr fun v1 H1 js1 g1 rs1 r1 => ?_)
        split at q
        · rename_i z _ _
          cases r1
          split at q
          · rename_i hz
            exact ⟨rfl, _, rfl, rfl, hz, (q.mono g1).pure rs1 (.str _)⟩
          · exact q.elim
        · contradiction
        · exact q.elim
      | upper =>
        refine (pe_bm0 PySem.F.plainAttrs_str PySem.F.slot_str_upper PySem.F.type_str_upper mt_upper (sE a nm _ X g h5) (noSup_base h2 _ _) h3).run pins s σ H Q I (rdE.of e1 rs rr fun v1 H1 js1 g1 rs1 r1 => ?_)
        split at q
        · contradiction
        · cases r1
          split at q
          · rename_i hz
            exact ⟨rfl, _, rfl, rfl, hz, (q.mono g1).pure rs1 (.str _)⟩
          · exact q.elim
        · exact q.elim
    · cases h
  | .strip1 a b, nm, x, X, g, h => by
    unfold mE at h
    split at h
    · rename_i y s apos z cpos
      simp only [Bool.and_eq_true, decide_eq_true_eq] at h
      obtain ⟨⟨⟨⟨⟨⟨h1, h2⟩, h3⟩, h4⟩, h5⟩, h6⟩, h7⟩ := h
      subst h1
      refine ⟨fun pins s σ H Q I q => ?_⟩
      obtain ⟨js, S, ρ, rs, rr, q⟩ := q
      unfold evE at q
      obtain ⟨x1, S1, e1, q⟩ := q.bd
      refine (pe_bm PySem.F.plainAttrs_str PySem.F.slot_str_strip PySem.F.type_str_strip mt_stripChars (sE a nm _ X g h5) (pa_cons (sE b nm _ X g h7) pa_nil (star_plain h6 _ _)) (noSup_base h2 _ _) (by rw [star_plain h6]; rfl) h3 (star_plain h6 _ _) (by rfl)).run pins s σ H Q I (rdE.of e1 rs rr fun v1 H1 js1 g1 rs1 r1 => ?_)
      split at q
      · obtain ⟨x2, S2, e2, q⟩ := q.bd
        cases r1
        refine ⟨rfl, rdE.of e2 rs1 (rr.mono g1) fun v2 H2 js2 g2 rs2 r2 => ?_⟩
        cases x2 with
        | str b0 =>
          cases r2
          unfold stripD at q
          simp only at q
          split at q
          · rename_i hz
            exact ⟨_, _, rfl, rfl, hz, (q.mono (g1.trans g2)).pure rs2 (.str _)⟩
          · exact q.elim
        | _ => exact q.elim
      · exact q.elim
    · cases h
  | .lc elt tg it c own, nm, x, X, g, h => by
    unfold mE at h
    split at h
    · rename_i y tx ix ifs n scope pos
      simp only [Bool.and_eq_true, decide_eq_true_eq] at h
      obtain ⟨⟨⟨⟨⟨⟨⟨⟨⟨hit, h0⟩, h1⟩, h2⟩, h3⟩, h4⟩, h5⟩, h6⟩, h7⟩, h8⟩ := h
      subst h0
      have ok : BlkOk X.N X.env.scope scope own := by
        rw [g.N, g.sc]
        exact blkOk_by h2
      have gb := fun (s : Shared) (H : Hp) (C : Addr) (cl : List (Str × Addr)) (fp : List Addr) => g.blk ok.kind s H C cl fp
      have ht : ∀ (s : Shared) (H : Hp) (C : Addr) (cl : List (Str × Addr)) (fp : List Addr), PTs (X.blk s H scope (compEnvC scope cl C X.env) fp) ifs (rdT X.K F c) := fun s H C cl fp => by
        split at h6
        · split at h6
          · refine ⟨fun pins s σ H Q I q => pts_nil.run pins s σ H Q I ?_⟩
            obtain ⟨js, S, ρ, rs, rr, q⟩ := q
            unfold evT at q
            exact q.pure rs
          · cases h6
        · rw [Bool.and_eq_true] at h6
          exact pts_one (sT c _ _ _ (gb s H C cl fp) h6.2)
        · cases h6
      refine ⟨fun pins s σ H Q I q => ?_⟩
      refine (pe_lc (own := own) (te := rdE X.K F elt) (g := rdTg X.K tg) (tt := rdT X.K F c) (wi := rdI X.K F it) g.calm g.nd (sI it nm _ X g h5 tx hit) ok (fun s H C cl fp => sTg (gb s H C cl fp) tg _ h3) ht (fun s H C cl fp => sE elt _ _ _ (gb s H C cl fp) h8) (folded_plain h4 _)).run pins s σ H Q I ?_
      exact lc_read (fun i hi => by
        have := List.all_eq_true.mp h1 i hi
        exact of_decide_eq_true this) q
    · cases h
theorem sDs : ∀ (ks : List Str) (es : Es) (nm : Nm) (keys : List (Option Expr)) (xs : List Expr) (X : Cx) {pos : Pos}, Good X nm F → disKeys ks keys = true → keys.length = xs.length → mEs nm es xs = true → PPs X pos keys xs (disTrs X.K F ks es)
  | [], es, nm, keys, xs, X, _, g, hk, hl, h => by
    cases keys with
    | nil =>
      have : disTrs X.K F [] es = [] := by cases es <;> rfl
      rw [this]
      cases xs with
      | nil => exact pps_nil
      | cons _ _ => simp at hl
    | cons _ _ => unfold disKeys at hk; cases hk
  | k :: ks, .nil, nm, keys, xs, X, _, g, hk, hl, h => by
    cases xs with
    | nil =>
      cases keys with
      | nil => unfold disKeys at hk; cases hk
      | cons _ _ => simp at hl
    | cons _ _ => unfold mEs at h; cases h
  | k :: ks, .cons e es, nm, keys, xs, X, _, g, hk, hl, h => by
    cases xs with
    | nil => unfold mEs at h; cases h
    | cons x xs =>
      simp only [mEs, Bool.and_eq_true] at h
      unfold disKeys at hk
      split at hk
      · rename_i e1; cases e1
      · rename_i e1
        cases e1
        rw [Bool.and_eq_true, decide_eq_true_eq] at hk
        obtain ⟨hk1, hk2⟩ := hk
        subst hk1
        exact pps_cons pe_str (sE e nm _ X g h.1.2) (sDs ks es nm _ _ X g hk2 (by simpa using hl) h.2)
      · cases hk
theorem sEs : ∀ (es : Es) (nm : Nm) (xs : List Expr) (X : Cx), Good X nm F → mEs nm es xs = true → PA X xs (rdEs X.K F es)
  | .nil, nm, xs, X, g, h => by
    unfold mEs at h
    split at h
    · refine ⟨fun pos pins s σ H Q I q => ?_⟩
      obtain ⟨js, S, ρ, rs, rr, q⟩ := q
      unfold evEs at q
      exact pa_nil.run pos pins s σ H Q I (q [] H js Grow.refl rs .nil)
    · cases h
  | .cons e es, nm, xs, X, g, h => by
    unfold mEs at h
    split at h
    · simp only [Bool.and_eq_true] at h
      obtain ⟨⟨h1, h2⟩, h3⟩ := h
      refine ⟨fun pos pins s σ H Q I q => ?_⟩
      obtain ⟨js, S, ρ, rs, rr, q⟩ := q
      unfold evEs at q
      obtain ⟨x1, S1, e1, q⟩ := q.bd
      obtain ⟨ds, S2, e2, q⟩ := q.bd
      exact (pa_cons (sE e nm _ X g h2) (sEs es nm _ X g h3) (star_plain h1 _ _)).run pos pins s σ H Q I (rdE.of e1 rs rr fun v1 H1 js1 g1 rs1 r1 =>
        rdEs.of e2 rs1 (rr.mono g1) fun vs H2 js2 g2 rs2 r2 => (q.mono (g1.trans g2)) _ _ js2 Grow.refl rs2 (.cons (r1.mono g2) r2))
    · cases h
theorem sP : ∀ (p : P) (nm : Nm) (x : Option Expr) (X : Cx), Good X nm F → mP nm p x = true → PO X x (rdP X.K F p)
  | .no, nm, x, X, g, h => by
    unfold mP at h
    split at h
    · refine ⟨fun pins s σ H Q I q => ?_⟩
      obtain ⟨js, S, ρ, rs, rr, q⟩ := q
      unfold evP at q
      exact po_none.run pins s σ H Q I (q.pure rs)
    · cases h
  | .e e, nm, x, X, g, h => by
    unfold mP at h
    split at h
    · simp only [Bool.and_eq_true] at h
      refine ⟨fun pins s σ H Q I q => ?_⟩
      obtain ⟨js, S, ρ, rs, rr, q⟩ := q
      unfold evP at q
      obtain ⟨x1, S1, e1, q⟩ := q.bd
      refine (po_some (sE e nm _ X g h.2)).run pins s σ H Q I (rdE.of e1 rs rr fun v1 H1 js1 g1 rs1 r1 => ?_)
      split at q
      · cases r1
        exact ⟨_, rfl, (q.mono g1).pure rs1⟩
      · exact q.elim
    · cases h
theorem sI : ∀ (i : I) (nm : Nm) (x : Expr) (X : Cx), Good X nm F → mI nm i x = true → ∀ tg, itTup i tg = true → PI X tg x (rdI X.K F i)
  | .seq e, nm, x, X, g, h => fun tg _ => by
    unfold mI at h
    refine ⟨fun pins s σ H R I q => ?_⟩
    obtain ⟨js, S, ρ, rs, rr, it, S2, e1, q⟩ := q
    unfold evI at e1
    cases e2 : evE F e ρ S with
    | none => rw [e2] at e1; cases e1
    | some r =>
      cases r with
      | ex _ _ _ => rw [e2] at e1; cases e1
      | ok d S1 =>
        rw [e2] at e1
        simp only [bd_ok] at e1
        have se := sE e nm _ X g h
        cases d with
        | tup ds =>
          cases e1
          refine (pi_tup se).run pins s σ H R I (rdE.of e2 rs rr fun v1 H1 js1 g1 rs1 r1 => ?_)
          cases r1 with
          | tup h1 n1 q1 => exact ⟨_, rfl, ⟨_, .inl (.inl h1)⟩, q H1 js1 _ g1 rs1 (yl_tup h1 n1 q1)⟩
        | fz ds =>
          cases e1
          refine (pi_list se).run pins s σ H R I (rdE.of e2 rs rr fun v1 H1 js1 g1 rs1 r1 => ?_)
          cases r1 with
          | fz h1 q1 => exact ⟨_, rfl, ⟨_, h1.sq⟩, q H1 js1 _ g1 rs1 (yl_fz h1 q1)⟩
        | str z =>
          cases e1
          refine (pi_str se).run pins s σ H R I (rdE.of e2 rs rr fun v1 H1 js1 g1 rs1 r1 => ?_)
          cases r1
          exact ⟨_, rfl, q H1 js1 _ g1 rs1 yl_str⟩
        | ref n =>
          simp only at e1
          split at e1
          · rename_i ds e3
            cases e1
            refine (pi_list se).run pins s σ H R I (rdE.of e2 rs rr fun v1 H1 js1 g1 rs1 r1 => ?_)
            cases r1 with
            | ref h1 =>
              obtain ⟨a', xs, e4, e5, _⟩ := rs1.list e3
              rw [h1] at e4; cases e4
              exact ⟨_, rfl, ⟨xs, .inl (.inl e5)⟩, q H1 js1 _ g1 rs1 ⟨_, h1, rfl⟩⟩
          · cases e1
        | _ => cases e1
  | .rng1 a, nm, x, X, g, h => fun tg _ => by
    unfold mI at h
    split at h
    · simp only [Bool.and_eq_true, decide_eq_true_eq] at h
      obtain ⟨⟨⟨⟨h1, h2⟩, h3⟩, h4⟩, h5⟩ := h
      subst h1
      refine ⟨fun pins s σ H R I q => ?_⟩
      obtain ⟨js, S, ρ, rs, rr, it, S2, e1, q⟩ := q
      unfold evI at e1
      cases e2 : evE F a ρ S with
      | none => rw [e2] at e1; cases e1
      | some r =>
        cases r with
        | ex _ _ _ => rw [e2] at e1; cases e1
        | ok d S1 =>
          rw [e2] at e1
          simp only [bd_ok] at e1
          split at e1
          · split at e1
            · rename_i j hj
              cases e1
              refine (pi_range1 (g.gl h2) (g.bs _ h3) (pa_cons (sE a nm _ X g h5) pa_nil (star_plain h4 _ _)) (star_plain h4 _ _)).run pins s σ H R I (rdE.of e2 rs rr fun v1 H1 js1 g1 rs1 r1 => ?_)
              cases r1
              refine ⟨_, rfl, hj.1, hj.2, q H1 js1 _ g1 rs1 ?_⟩
              have y := yl_rng (K := X.K) (H := H1) (js := js1) (lo := 0) (n := j.toNat)
              simp only [Int.zero_add] at y
              exact y
            · cases e1
          · cases e1
    · cases h
  | .rng2 a b, nm, x, X, g, h => fun tg _ => by
    unfold mI at h
    split at h
    · simp only [Bool.and_eq_true, decide_eq_true_eq] at h
      obtain ⟨⟨⟨⟨⟨⟨h1, h2⟩, h3⟩, h4⟩, h5⟩, h6⟩, h7⟩ := h
      subst h1
      refine ⟨fun pins s σ H R I q => ?_⟩
      obtain ⟨js, S, ρ, rs, rr, it, S3, e1, q⟩ := q
      unfold evI at e1
      cases e2 : evE F a ρ S with
      | none => rw [e2] at e1; cases e1
      | some r =>
        cases r with
        | ex _ _ _ => rw [e2] at e1; cases e1
        | ok d S1 =>
          rw [e2] at e1
          simp only [bd_ok] at e1
          cases e3 : evE F b ρ S1 with
          | none => rw [e3] at e1; cases e1
          | some r2 =>
            cases r2 with
            | ex _ _ _ => rw [e3] at e1; cases e1
            | ok d2 S2 =>
              rw [e3] at e1
              simp only [bd_ok] at e1
              split at e1
              · split at e1
                · rename_i i j hj
                  cases e1
                  refine (pi_range2 (g.gl h2) (g.bs _ h3) (pa_cons (sE a nm _ X g h5) (pa_cons (sE b nm _ X g h7) pa_nil (star_plain h6 _ _)) (star_plain h4 _ _)) (by rw [star_plain h4, star_plain h6]; rfl) (star_plain h6 _ _)).run pins s σ H R I
                    (rdE.of e2 rs rr fun v1 H1 js1 g1 rs1 r1 => rdE.of e3 rs1 (rr.mono g1) fun v2 H2 js2 g2 rs2 r2 => ?_)
                  cases r1
                  cases r2
                  exact ⟨_, _, rfl, hj, q H2 js2 _ (g1.trans g2) rs2 yl_rng⟩
                · cases e1
              · cases e1
    · cases h
  | .enum a, nm, x, X, g, h => fun tg htg => by
    unfold mI at h
    split at h
    · simp only [Bool.and_eq_true, decide_eq_true_eq] at h
      obtain ⟨⟨⟨⟨h1, h2⟩, h3⟩, h4⟩, h5⟩ := h
      subst h1
      cases tg with
      | Tuple elts kk tpos =>
        refine ⟨fun pins s σ H R I q => ?_⟩
        obtain ⟨js, S, ρ, rs, rr, it, S2, e1, q⟩ := q
        unfold evI at e1
        refine (pi_enumT (g.gl h2) (g.bs _ h3) (pa_cons (sE a nm _ X g h5) pa_nil (star_plain h4 _ _)) (star_plain h4 _ _)).run pins s σ H R I ?_
        cases e2 : evE F a ρ S with
        | none => rw [e2] at e1; cases e1
        | some r =>
          cases r with
          | ex _ _ _ => rw [e2] at e1; cases e1
          | ok d S1 =>
            rw [e2] at e1
            simp only [bd_ok] at e1
            refine rdE.of e2 rs rr fun v1 H1 js1 g1 rs1 r1 => ?_
            cases d with
            | tup ds =>
              cases e1
              cases r1 with
              | tup h1 n1 q1 => exact ⟨_, _, rfl, .inr ⟨.inl (.inl h1), q H1 js1 _ g1 rs1 (yl_enum h1 n1 q1)⟩⟩
            | ref n =>
              simp only at e1
              split at e1
              · rename_i ds e3
                cases e1
                cases r1 with
                | ref h1 =>
                  obtain ⟨a', xs, e4, e5, _⟩ := rs1.list e3
                  rw [h1] at e4; cases e4
                  exact ⟨_, xs, rfl, .inl ⟨.inl (.inl e5), q H1 js1 _ g1 rs1 ⟨_, h1, rfl⟩⟩⟩
              · cases e1
            | _ => cases e1
      | _ => cases htg
    · cases h
  | .zip a b, nm, x, X, g, h => fun tg htg => by
    unfold mI at h
    split at h
    · simp only [Bool.and_eq_true, decide_eq_true_eq] at h
      obtain ⟨⟨⟨⟨⟨⟨h1, h2⟩, h3⟩, h4⟩, h5⟩, h6⟩, h7⟩ := h
      subst h1
      cases tg with
      | Tuple elts kk tpos =>
        refine ⟨fun pins s σ H R I q => ?_⟩
        obtain ⟨js, S, ρ, rs, rr, it, S3, e1, q⟩ := q
        unfold evI at e1
        refine (pi_zipTL (g.gl h2) (g.bs _ h3) (pa_cons (sE a nm _ X g h5) (pa_cons (sE b nm _ X g h7) pa_nil (star_plain h6 _ _)) (star_plain h4 _ _)) (star_plain h4 _ _) (by rw [star_plain h6]; rfl)).run pins s σ H R I ?_
        cases e2 : evE F a ρ S with
        | none => rw [e2] at e1; cases e1
        | some r =>
          cases r with
          | ex _ _ _ => rw [e2] at e1; cases e1
          | ok d S1 =>
            rw [e2] at e1
            simp only [bd_ok] at e1
            refine rdE.of e2 rs rr fun v1 H1 js1 g1 rs1 r1 => ?_
            cases e3 : evE F b ρ S1 with
            | none => rw [e3] at e1; cases e1
            | some r2 =>
              cases r2 with
              | ex _ _ _ => rw [e3] at e1; cases e1
              | ok d2 S2 =>
                rw [e3] at e1
                simp only [bd_ok] at e1
                refine rdE.of e3 rs1 (rr.mono g1) fun v2 H2 js2 g2 rs2 r2 => ?_
                split at e1
                · rename_i ds n
                  split at e1
                  · rename_i es e4
                    cases e1
                    have r1' := r1.mono g2
                    cases r1' with
                    | tup h1 n1 q1 =>
                      cases r2 with
                      | ref h8 =>
                        obtain ⟨a', xs, e5, e6, e7⟩ := rs2.list e4
                        rw [h8] at e5; cases e5
                        refine ⟨_, _, _, _, rfl, .inl (.inl h1), .inl (.inl e6), q H2 js2 _ (g1.trans g2) rs2 ⟨_, h8, _, _, h1, n1, q1, ?_⟩⟩
                        rw [q1.length, e7.length]
                  · cases e1
                · cases e1
      | _ => cases htg
    · cases h
theorem sT : ∀ (t : T) (nm : Nm) (x : Expr) (X : Cx), Good X nm F → mT nm t x = true → PT X x (rdT X.K F t)
  | .yes, nm, x, X, g, h => by unfold mT at h; cases h
  | .v e, nm, x, X, g, h => by
    unfold mT at h
    simp only [Bool.and_eq_true] at h
    refine ⟨fun pins s σ H Q I q => ?_⟩
    obtain ⟨js, S, ρ, rs, rr, q⟩ := q
    unfold evT at q
    obtain ⟨x1, S1, e1, q⟩ := q.bd
    refine (pt_truth (sE e nm _ X g h.2) (test_plain h.1 _)).run pins s σ H Q I (rdE.of e1 rs rr fun v1 H1 js1 g1 rs1 r1 => ?_)
    cases e2 : tru x1 S1 with
    | none => rw [e2] at q; exact q.elim
    | some b =>
      rw [e2] at q
      exact ⟨b, tru_rep e2 rs1 r1, OkX.pure (d := b) (OkX.mono q g1) rs1⟩
  | .cmp op a b, nm, x, X, g, h => by
    unfold mT at h
    split at h
    · simp only [Bool.and_eq_true] at h
      obtain ⟨⟨⟨⟨h0, h1⟩, h2⟩, h3⟩, h4⟩ := h
      rw [cmB_of h0]
      refine ⟨fun pins s σ H Q I q => ?_⟩
      obtain ⟨js, S, ρ, rs, rr, q⟩ := q
      unfold evT at q
      obtain ⟨x1, S1, e1, q⟩ := q.bd
      obtain ⟨x2, S2, e2, q⟩ := q.bd
      refine (pt_cmpR (cop_ok op g.hu) (sE a nm _ X g h2) (sE b nm _ X g h4) (behind_plain h3 _)).run pins s σ H Q I (rdE.of e1 rs rr fun v1 H1 js1 g1 rs1 r1 =>
        rdE.of e2 rs1 (rr.mono g1) fun v2 H2 js2 g2 rs2 r2 => ⟨js2, S2, x1, x2, rs2, r1.mono g2, r2, ?_⟩)
      cases e3 : copB op x1 x2 S2 with
      | none => rw [e3] at q; exact q.elim
      | some b =>
        rw [e3] at q
        exact copB_ok e3 fun H3 js3 g3 rs3 => ⟨b, rfl, OkX.pure (d := b) (OkX.mono q (g1.trans (g2.trans g3))) rs3⟩
    · cases h
  | .chain op op' a b c, nm, x, X, g, h => by
    unfold mT at h
    split at h
    · simp only [Bool.and_eq_true] at h
      obtain ⟨⟨⟨⟨⟨⟨⟨h0, h0'⟩, h1⟩, h2⟩, h3⟩, h4⟩, h5⟩, h6⟩ := h
      rw [cmB_of h0, cmB_of h0']
      refine ⟨fun pins s σ H Q I q => ?_⟩
      obtain ⟨js, S, ρ, rs, rr, q⟩ := q
      unfold evT at q
      obtain ⟨x1, S1, e1, q⟩ := q.bd
      obtain ⟨x2, S2, e2, q⟩ := q.bd
      refine (pt_chain (cop_ok op g.hu) (cop_ok op' g.hu) (sE a nm _ X g h2) (sE b nm _ X g h4) (sE c nm _ X g h6) (hm := (behind_plain h5 _ : behindInMarks _ _ = false))).run pins s σ H Q I (rdE.of e1 rs rr fun v1 H1 js1 g1 rs1 r1 =>
        rdE.of e2 rs1 (rr.mono g1) fun v2 H2 js2 g2 rs2 r2 => ⟨js2, S2, x1, x2, rs2, r1.mono g2, r2, ?_⟩)
      split at q
      · rename_i e3
        obtain ⟨x3, S3, e4, q⟩ := q.bd
        refine copB_ok e3 fun H3 js3 g3 rs3 => ⟨true, rfl, ?_⟩
        simp only [if_true]
        refine rdE.of e4 rs3 (rr.mono (g1.trans (g2.trans g3))) fun v3 H4 js4 g4 rs4 r4 => ⟨js4, S3, x2, x3, rs4, (r2.mono g3).mono g4, r4, ?_⟩
        cases e5 : copB op' x2 x3 S3 with
        | none => rw [e5] at q; exact q.elim
        | some b =>
          rw [e5] at q
          exact copB_ok e5 fun H5 js5 g5 rs5 => ⟨b, rfl, OkX.pure (d := b) (OkX.mono q (g1.trans (g2.trans (g3.trans (g4.trans g5))))) rs5⟩
      · rename_i e3
        refine copB_ok e3 fun H3 js3 g3 rs3 => ⟨false, rfl, ?_⟩
        simp only [Bool.false_eq_true, if_false]
        exact ⟨false, rfl, OkX.pure (OkX.mono q (g1.trans (g2.trans g3))) rs3⟩
      · exact q.elim
    · cases h
  | .not t, nm, x, X, g, h => by
    unfold mT at h
    split at h
    · simp only [Bool.and_eq_true] at h
      refine ⟨fun pins s σ H Q I q => ?_⟩
      obtain ⟨js, S, ρ, rs, rr, q⟩ := q
      unfold evT at q
      obtain ⟨b, S1, e1, q⟩ := q.bd
      exact (pt_not (sT t nm _ X g h.2)).run pins s σ H Q I (rdT.of e1 rs rr fun H1 js1 g1 rs1 => (q.mono g1).pure rs1)
    · cases h
  | .and a b, nm, x, X, g, h => by
    unfold mT at h
    split at h
    · simp only [Bool.and_eq_true] at h
      obtain ⟨⟨h1, h2⟩, h3⟩ := h
      exact (pw_andI (sT a nm _ X g h2) (sW b nm _ X g ⟨_, _, _, rfl⟩ h3)).pt
    · cases h
  | .or a b, nm, x, X, g, h => by
    unfold mT at h
    split at h
    · simp only [Bool.and_eq_true] at h
      obtain ⟨⟨h1, h2⟩, h3⟩ := h
      exact (pw_orI (sT a nm _ X g h2) (sW b nm _ X g ⟨_, _, _, rfl⟩ h3)).pt
    · cases h
  | .one a, nm, x, X, g, h => by
    unfold mT at h
    split at h
    · simp only [Bool.and_eq_true] at h
      exact (pw_oneI (sT a nm _ X g h.2)).pt
    · cases h
theorem sW : ∀ (t : T) (nm : Nm) (x : Expr) (X : Cx), Good X nm F → (∃ op xs p, x = .BoolOp op xs p) → mT nm t x = true → PW X x (rdT X.K F t)
  | .and a b, nm, x, X, g, _, h => by
    unfold mT at h
    split at h
    · simp only [Bool.and_eq_true] at h
      obtain ⟨⟨h1, h2⟩, h3⟩ := h
      exact pw_andI (sT a nm _ X g h2) (sW b nm _ X g ⟨_, _, _, rfl⟩ h3)
    · cases h
  | .or a b, nm, x, X, g, _, h => by
    unfold mT at h
    split at h
    · simp only [Bool.and_eq_true] at h
      obtain ⟨⟨h1, h2⟩, h3⟩ := h
      exact pw_orI (sT a nm _ X g h2) (sW b nm _ X g ⟨_, _, _, rfl⟩ h3)
    · cases h
  | .one a, nm, x, X, g, _, h => by
    unfold mT at h
    split at h
    · simp only [Bool.and_eq_true] at h
      exact pw_oneI (sT a nm _ X g h.2)
    · cases h
  | .yes, nm, x, X, g, _, h => by unfold mT at h; cases h
  | .v e, nm, x, X, g, hx, h => by
    obtain ⟨op, xs, p, rfl⟩ := hx
    unfold mT at h
    cases h
  | .cmp op a b, nm, x, X, g, hx, h => by
    obtain ⟨op, xs, p, rfl⟩ := hx
    unfold mT at h
    cases h
  | .chain op op' a b c, nm, x, X, g, hx, h => by
    obtain ⟨op, xs, p, rfl⟩ := hx
    unfold mT at h
    cases h
  | .not t, nm, x, X, g, hx, h => by
    obtain ⟨op, xs, p, rfl⟩ := hx
    unfold mT at h
    cases h
end
end
end VM
/-! VG: the soundness of statements and defs. -/
namespace VM
open PySem PySem.Spec PyProof.Rows L2

def isLC : Expr → Bool
  | .ListComp .. => true
  | _ => false
def isTup : Expr → Bool
  | .Tuple .. => true
  | _ => false
def swOk (nm : Nm) (x : Str) (px : Pos) (v : Expr) : Bool := match v with
  | .ListComp _ _ scope pos => (localB nm.sc x && (px.line == pos.line) && !(scope.names.any fun (n, k) => n == x && (k == .local || k == .cell))) || cellB nm.sc x
  | _ => true
mutual
def mC (nm : Nm) : C → Stmt → Bool
  | .pass, x => match x with | .Pass _ => true | _ => false
  | .brk, x => match x with | .Break _ => true | _ => false
  | .cnt, x => match x with | .Continue _ => true | _ => false
  | .dead, _ => true
  | .set i e, x => match x with | .Assign [.Name s ps] v _ => tgB nm i s && plainX v && mE nm e v && swOk nm s ps v | _ => false
  | .asg tg e, x => match x with | .Assign [.Tuple ts k p] v _ => mTg nm tg (.Tuple ts k p) && plainX v && !isLC v && !isTup v && mE nm e v | _ => false
  | .aug i op e, x => match x with | .AugAssign (.Name s _) o v _ => tgB nm i s && opB op o && plainX v && mE nm e v | _ => false
  | .seti o i e, x => match x with | .Assign [.Subscript y z _] v _ => plainX y && mE nm o y && plainX z && mE nm i z && plainX v && !isLC v && mE nm e v | _ => false
  | .ex e, x => match x with | .Expr v _ => plainX v && !isLC v && mE nm e v | _ => false
  | .ret e, x => match x with | .Return (some v) _ => plainX v && mE nm e v | _ => false
  | .retn, x => match x with | .Return none _ => true | _ => false
  | .ife c a b, x => match x with | .If t y z _ => plainX t && mT nm c t && mCs nm a y && mCs nm b z | _ => false
  | .whl c b, x => match x with | .While t y [] _ => plainX t && mT nm c t && mCs nm b y | _ => false
  | .for_ tg it b, x => match x with | .For t i y [] _ => itTup it t && mTg nm tg t && plainX i && mI nm it i && mCs nm b y | _ => false
def mCs (nm : Nm) : Cs → List Stmt → Bool
  | .nil, xs => match xs with | [] => true | _ => false
  | .cons c cs, xs => match xs with | x :: xs => mC nm c x && mCs nm cs xs | _ => false
end

/-! ### facts of the text -/
theorem sw_plain {v : Expr} (h : plainX v = true) (hl : isLC v = false) (t : Option Expr) (l : Nat) (env : Env) : swapsWith v t l env = pure false := by
  cases v <;> first | rfl | exact absurd h Bool.false_ne_true | exact absurd hl Bool.noConfusion
theorem sw_sole {v : Expr} (h : plainX v = true) (hl : isLC v = false) (t : Expr) (l : Nat) (env : Env) : swapsWithSole [t] v l env = pure false := sw_plain h hl (some t) l env
theorem sw_cell {elt : Expr} {gs : List Comprehension} {scope : Scope} {pos px : Pos} {x : Str} {l : Nat} {env : Env} (hx : env.scope.names.lookup x = some .cell) : swapsWith (.ListComp elt gs scope pos) (some (.Name x px)) l env = pure false := by
  unfold swapsWith
  have k : (env.kindOf x == some NameKind.local) = false := by
    have e : env.kindOf x = some .cell := hx
    rw [e]
    rfl
  simp only [k, Bool.and_false, Bool.false_and]
theorem stores_plain {ts : List Expr} {k : Nat} {p : Pos} {v : Expr} (h : isTup v = false) (env : Env) : swappedStores [.Tuple ts k p] v env = pure none := by
  cases v <;> first | rfl | exact absurd h Bool.noConfusion
theorem stores_sub {o i : Expr} {p : Pos} {v : Expr} (env : Env) : swappedStores [.Subscript o i p] v env = pure none := by
  cases v <;> rfl
theorem sub_assign {o i : Expr} {pos : Pos} {env : Env} (h : plainX i = true) : ∀ v, assign (.Subscript o i pos) env v = (do
      let ov ← holding [v] (eval o env)
      let iv ← holding [v, ov] (eval i env)
      standAt pos
      holding [v, ov, iv] (setItem ov iv v)
      release [v, ov, iv] []) := by
  intro v
  cases i <;> first | rfl | cases h

/-! ### readings -/
def OkC (K : PySem.W.Frag) (H : Hp) (js : List Addr) (o : Out Fl) (D : Ends) : Prop :=
  match o with
  | some (.ok f S') => ∀ H' js', Grow H js H' js' → RelS K H' js' S' → (match f with
    | .nx ρ => ∀ σ, RepR K H' js' ρ σ → D.nx σ H'
    | .brk ρ => ∀ σ, RepR K H' js' ρ σ → D.bk σ H'
    | .cnt ρ => ∀ σ, RepR K H' js' ρ σ → D.ct σ H'
    | .ret d => ∀ v, RepV K H' js' d v → D.rt v H')
  | _ => False
def rdC (K : PySem.W.Frag) (F : Orc) (c : C) : TS := fun D σ H => ∃ js S ρ, RelS K H js S ∧ RepR K H js ρ σ ∧ OkC K H js (exC F c ρ S) D
def rdCs (K : PySem.W.Frag) (F : Orc) (c : Cs) : TS := fun D σ H => ∃ js S ρ, RelS K H js S ∧ RepR K H js ρ σ ∧ OkC K H js (exCs F c ρ S) D
section
variable {K : PySem.W.Frag} {H H1 : Hp} {js js1 : List Addr} {S : Sto} {α : Type} {D : Ends}
theorem OkC.bd {m : Out α} {f : α → Sto → Out Fl} (h : OkC K H js (bd m f) D) : ∃ a S, m = some (.ok a S) ∧ OkC K H js (f a S) D := bd_of (P := fun o => OkC K H js o D) h (fun z => z) fun _ _ _ z => z
theorem OkC.mono {o : Out Fl} (h : OkC K H js o D) (g : Grow H js H1 js1) : OkC K H1 js1 o D := by
  unfold OkC at h ⊢
  split at h
  · exact fun H' js' g' => h H' js' (g.trans g')
  · exact h.elim
theorem OkC.nx {ρ : Rho} {σ : L2.St} (h : OkC K H js (ok (.nx ρ) S) D) (rs : RelS K H js S) (rr : RepR K H js ρ σ) : D.nx σ H := h H js Grow.refl rs σ rr
theorem OkC.brk {ρ : Rho} {σ : L2.St} (h : OkC K H js (ok (.brk ρ) S) D) (rs : RelS K H js S) (rr : RepR K H js ρ σ) : D.bk σ H := h H js Grow.refl rs σ rr
theorem OkC.cnt {ρ : Rho} {σ : L2.St} (h : OkC K H js (ok (.cnt ρ) S) D) (rs : RelS K H js S) (rr : RepR K H js ρ σ) : D.ct σ H := h H js Grow.refl rs σ rr
theorem OkC.ret {d : VM.D} {v : V} (h : OkC K H js (ok (.ret d) S) D) (rs : RelS K H js S) (rr : RepV K H js d v) : D.rt v H := h H js Grow.refl rs v rr
end
structure GoodC (X : Cx) (nm : Nm) (F : Orc) : Prop extends Good X nm F where
  po : PassesOwn (model X.prog X.w) X.A X.env X.xe
section
variable {X : Cx} {nm : Nm} {F : Orc}
theorem set_ok (hu : X.A.units + 200 < cLine) : PSet X (fun o i v H Q => ∃ js S x y z, RelS X.K H js S ∧ RepV X.K H js x o ∧ RepV X.K H js y i ∧ RepV X.K H js z v ∧ ∃ S', setiD x y z S = some S' ∧ ∀ H' js', Grow H js H' js' → RelS X.K H' js' S' → Q H') := by
  intro pins s σ H o i v ov iv u Q I ro ri rv h
  obtain ⟨js, S, x, y, z, rs, r1, r2, r3, S', e, q⟩ := h
  unfold setiD at e
  split at e
  · cases r2
    cases r1 with
    | ref h1 =>
      split at e
      · rename_i xs e2
        split at e
        · rename_i j e3
          cases e
          obtain ⟨a', ws, e4, e5, q5⟩ := rs.list e2
          rw [h1] at e4; cases e4
          exact set_list pins s σ H _ _ v ov iv u Q I ro ri rv ⟨_, ws, _, j, rfl, rfl, e5, by rw [← q5.length]; exact e3, q _ js (Grow.put rs h1) (rs.put h1 (RepVs.set r3 j q5))⟩
        · cases e
      · cases e
  · cases r1 with
    | ref h1 =>
      obtain ⟨a', H', e4, dp, gg, rs'⟩ := dput_rep e rs r2 r3
      rw [h1] at e4; cases e4
      exact set_dict (by omega) pins s σ H _ _ v ov iv u Q I ro ri rv ⟨_, H', rfl, dp, q _ js gg rs'⟩
  · cases e
theorem while_read {c : T} {b : Cs} {σ : L2.St} {H : Hp} {D : Ends} (q : rdC X.K F (.whl c b) D σ H) : tWhile (rdT X.K F c) (rdCs X.K F b) D σ H := by
  obtain ⟨js, S, ρ, rs, rr, q⟩ := q
  unfold exC at q
  cases e : whileL (fun ρ S => evT F c ρ S) (fun ρ S => exCs F b ρ S) ρ S with
  | none => rw [e] at q; exact q.elim
  | some r =>
    cases r with
    | ex _ _ _ => rw [e] at q; exact q.elim
    | ok f S5 =>
      rw [e] at q
      obtain ⟨m0, run0⟩ := whileL_n _ _ _ _ _ e
      refine ⟨fun m σ' H' => ∃ js' S' ρ', Grow H js H' js' ∧ RelS X.K H' js' S' ∧ RepR X.K H' js' ρ' σ' ∧ whileN (fun ρ S => evT F c ρ S) (fun ρ S => exCs F b ρ S) m ρ' S' = some (.ok f S5), ⟨m0, js, S, ρ, Grow.refl, rs, rr, run0⟩, ?_⟩
      rintro m σ' H' ⟨js', S', ρ', g', rs', rr', run'⟩
      cases m with
      | zero => cases run'
      | succ m =>
        unfold whileN at run'
        cases e1 : evT F c ρ' S' with
        | none => rw [e1] at run'; cases run'
        | some rt =>
          cases rt with
          | ex _ _ _ => rw [e1] at run'; cases run'
          | ok t S1 =>
            rw [e1] at run'
            simp only [bd_ok] at run'
            refine rdT.of e1 rs' rr' fun H1 js1 g1 rs1 => ?_
            cases t with
            | false =>
              cases run'
              rw [if_neg Bool.false_ne_true]
              exact (OkC.mono q (g'.trans g1)).nx rs1 (rr'.mono g1)
            | true =>
              rw [if_pos rfl]
              refine ⟨fun σ2 H2 => ∃ m', m' < m + 1 ∧ ∃ js2 S2 ρ2, Grow H js H2 js2 ∧ RelS X.K H2 js2 S2 ∧ RepR X.K H2 js2 ρ2 σ2 ∧ whileN (fun ρ S => evT F c ρ S) (fun ρ S => exCs F b ρ S) m' ρ2 S2 = some (.ok f S5), fun σ2 H2 h => h, js1, S1, ρ', rs1, rr'.mono g1, ?_⟩
              cases e2 : exCs F b ρ' S1 with
              | none => simp only [e2] at run'; cases run'
              | some rb =>
                cases rb with
                | ex _ _ _ => simp only [e2] at run'; cases run'
                | ok fb S2 =>
                  simp only [e2, bd_ok] at run'
                  intro H2 js2 g2 rs2
                  cases fb with
                  | nx ρ2 => exact fun σ2 rr2 => ⟨m, by omega, js2, S2, ρ2, g'.trans (g1.trans g2), rs2, rr2, run'⟩
                  | cnt ρ2 => exact fun σ2 rr2 => ⟨m, by omega, js2, S2, ρ2, g'.trans (g1.trans g2), rs2, rr2, run'⟩
                  | brk ρ2 =>
                    cases run'
                    exact fun σ2 rr2 => (OkC.mono q (g'.trans (g1.trans g2))).nx rs2 rr2
                  | ret d =>
                    cases run'
                    exact fun v r => (OkC.mono q (g'.trans (g1.trans g2))).ret rs2 r
theorem for_read {tg : Tg} {it : I} {b : Cs} {σ : L2.St} {H : Hp} {D : Ends} (q : rdC X.K F (.for_ tg it b) D σ H) : tFor (rdI X.K F it) (rdTg X.K tg) (rdCs X.K F b) D σ H := by
  obtain ⟨js, S, ρ, rs, rr, q⟩ := q
  unfold exC at q
  obtain ⟨i0, S1, e1, q⟩ := q.bd
  obtain ⟨r, S5, e2, q⟩ := q.bd
  refine ⟨js, S, ρ, rs, rr, i0, S1, e1, fun H1 js1 J g1 rs1 wk => ?_⟩
  obtain ⟨m0, run0⟩ := run_start e2
  refine ⟨fun i m σ' H' => ∃ js' S' ρ', Grow H1 js1 H' js' ∧ RelS X.K H' js' S' ∧ RepR X.K H' js' ρ' σ' ∧ Run i0 (forStep tg fun ρ S => exCs F b ρ S) i m ρ' S' r S5, ⟨m0, js1, S1, ρ, Grow.refl, rs1, rr.mono g1, run0⟩, ?_⟩
  rintro i m σ' H' ⟨js', S', ρ', g', rs', rr', run'⟩
  rcases run_step wk g' rs' run' with ⟨stop, e3, e4⟩ | ⟨d, go, yld, nx⟩
  · subst e3 e4
    exact .inl ⟨stop, (OkC.mono (o := ok (.nx ρ') S5) q (g1.trans g')).nx rs' rr'⟩
  · refine .inr ⟨go, fun σ2 H2 => ∃ m', m' < m ∧ ∃ js2 S2 ρ2, Grow H1 js1 H2 js2 ∧ RelS X.K H2 js2 S2 ∧ RepR X.K H2 js2 ρ2 σ2 ∧ Run i0 (forStep tg fun ρ S => exCs F b ρ S) (i + 1) m' ρ2 S2 r S5, fun σ2 H2 h => h, fun x H2 y => ?_⟩
    obtain ⟨g2, rs2, rx⟩ := yld x H2 y
    have hb : ∃ ρ1 fb S2, bindT tg d ρ' = some ρ1 ∧ exCs F b ρ1 S' = some (.ok fb S2) ∧ (match fb with
        | .nx ρ2 => ∃ m', m' < m ∧ Run i0 (forStep tg fun ρ S => exCs F b ρ S) (i + 1) m' ρ2 S2 r S5
        | .cnt ρ2 => ∃ m', m' < m ∧ Run i0 (forStep tg fun ρ S => exCs F b ρ S) (i + 1) m' ρ2 S2 r S5
        | .brk ρ2 => r = .inr (.nx ρ2) ∧ S5 = S2
        | .ret dd => r = .inr (.ret dd) ∧ S5 = S2) := by
      have key : ∀ res S2, forStep tg (fun ρ S => exCs F b ρ S) d ρ' S' = some (.ok res S2) → ∃ ρ1 fb S2', bindT tg d ρ' = some ρ1 ∧ exCs F b ρ1 S' = some (.ok fb S2') ∧ S2' = S2 ∧ (match fb with
          | .nx ρ2 => res = .inl ρ2
          | .cnt ρ2 => res = .inl ρ2
          | .brk ρ2 => res = .inr (.nx ρ2)
          | .ret dd => res = .inr (.ret dd)) := by
        intro res S2 h
        unfold forStep at h
        split at h
        · cases h
        · rename_i ρ1 eb
          simp only at h
          cases e5 : exCs F b ρ1 S' with
          | none => rw [e5] at h; cases h
          | some rb =>
            cases rb with
            | ex _ _ _ => rw [e5] at h; cases h
            | ok fb S3 =>
              rw [e5] at h
              simp only [bd_ok] at h
              refine ⟨ρ1, fb, S3, eb, e5, ?_⟩
              cases fb <;> (cases h; exact ⟨rfl, rfl⟩)
      rcases nx with ⟨bb, S2, e5, e6, e7⟩ | ⟨a', S2, m', hm, e5, run2⟩
      · obtain ⟨ρ1, fb, S2', h1, h2, h3, h4⟩ := key _ _ e5
        subst h3
        refine ⟨ρ1, fb, S2', h1, h2, ?_⟩
        cases fb with
        | nx ρ2 => cases h4
        | cnt ρ2 => cases h4
        | brk ρ2 => cases h4; exact ⟨e6, e7⟩
        | ret dd => cases h4; exact ⟨e6, e7⟩
      · obtain ⟨ρ1, fb, S2', h1, h2, h3, h4⟩ := key _ _ e5
        subst h3
        refine ⟨ρ1, fb, S2', h1, h2, ?_⟩
        cases fb with
        | nx ρ2 => cases h4; exact ⟨m', hm, run2⟩
        | cnt ρ2 => cases h4; exact ⟨m', hm, run2⟩
        | brk ρ2 => cases h4
        | ret dd => cases h4
    obtain ⟨ρ1, fb, S2, h1, h2, h3⟩ := hb
    refine ⟨js', d, ρ', ρ1, rx, rr'.mono g2, h1, fun σ2 rr2 _ _ => ⟨js', S', ρ1, rs2, rr2, ?_⟩⟩
    rw [h2]
    intro H3 js3 g3 rs3
    have gg : Grow H1 js1 H3 js3 := g'.trans (g2.trans g3)
    cases fb with
    | nx ρ2 =>
      obtain ⟨m', hm, run2⟩ := h3
      exact fun σ3 rr3 => ⟨m', hm, js3, S2, ρ2, gg, rs3, rr3, run2⟩
    | cnt ρ2 =>
      obtain ⟨m', hm, run2⟩ := h3
      exact fun σ3 rr3 => ⟨m', hm, js3, S2, ρ2, gg, rs3, rr3, run2⟩
    | brk ρ2 =>
      obtain ⟨e6, e7⟩ := h3
      subst e6 e7
      exact fun σ3 rr3 => (OkC.mono (o := ok (.nx ρ2) S5) q (g1.trans gg)).nx rs3 rr3
    | ret dd =>
      obtain ⟨e6, e7⟩ := h3
      subst e6 e7
      exact fun v r3 => (OkC.mono (o := ok (.ret dd) S5) q (g1.trans gg)).ret rs3 r3
mutual
theorem sC (g : GoodC X nm F) : ∀ (c : C) (x : Stmt), mC nm c x = true → PS X x (rdC X.K F c)
  | .pass, x, h => by
    unfold mC at h
    split at h
    · refine ⟨fun pins s σ H D I q => ?_⟩
      obtain ⟨js, S, ρ, rs, rr, q⟩ := q
      unfold exC at q
      exact ps_pass.run pins s σ H D I (q.nx rs rr)
    · cases h
  | .brk, x, h => by
    unfold mC at h
    split at h
    · refine ⟨fun pins s σ H D I q => ?_⟩
      obtain ⟨js, S, ρ, rs, rr, q⟩ := q
      unfold exC at q
      exact ps_break.run pins s σ H D I (q.brk rs rr)
    · cases h
  | .cnt, x, h => by
    unfold mC at h
    split at h
    · refine ⟨fun pins s σ H D I q => ?_⟩
      obtain ⟨js, S, ρ, rs, rr, q⟩ := q
      unfold exC at q
      exact ps_continue.run pins s σ H D I (q.cnt rs rr)
    · cases h
  | .dead, x, h => ⟨fun pins s σ H D I q => by
      obtain ⟨js, S, ρ, rs, rr, q⟩ := q
      unfold exC at q
      exact q.elim⟩
  | .set i e, x, h => by
    unfold mC at h
    split at h
    · rename_i z ps v p
      simp only [Bool.and_eq_true] at h
      obtain ⟨⟨⟨h1, h2⟩, h3⟩, h4⟩ := h
      have t := g.tg h1
      have plain : swapsWith v (some (.Name z ps)) p.line X.env = pure false → PS X (.Assign [.Name z ps] v p) (rdC X.K F (.set i e)) := fun hs => by
        refine ⟨fun pins s σ H D I q => ?_⟩
        obtain ⟨js, S, ρ, rs, rr, q⟩ := q
        unfold exC at q
        obtain ⟨d, S1, e1, q⟩ := q.bd
        exact (ps_set g.nd t.ix t.loc (sE e nm _ X g.toGood h3) hs t.fn).run pins s σ H D I (rdE.of e1 rs rr fun v1 H1 js1 g1 rs1 r1 => (q.mono g1).nx rs1 ((rr.mono g1).set r1 i))
      by_cases hl : isLC v = true
      · cases v with
        | ListComp y gs scope pos =>
          unfold swOk at h4
          rw [Bool.or_eq_true] at h4
          rcases h4 with h4 | h4
          · simp only [Bool.and_eq_true, Bool.not_eq_true'] at h4
            obtain ⟨⟨k1, k2⟩, k3⟩ := h4
            have kl : X.env.scope.names.lookup z = some .local := by
              rw [g.sc]
              unfold localB at k1
              split at k1 <;> first | assumption | cases k1
            have hsw : swapsWith (.ListComp y gs scope pos) (some (.Name z ps)) p.line X.env = pure true := sw_true g.kind kl k2 k3
            cases e with
            | lc elt tg it c own =>
              unfold mE at h3
              split at h3
              · rename_i y' tx ix ifs n scope' pos' heq
                cases heq
                simp only [Bool.and_eq_true, decide_eq_true_eq] at h3
                obtain ⟨⟨⟨⟨⟨⟨⟨⟨⟨mt, m0⟩, m1⟩, m2⟩, m3⟩, m4⟩, m5⟩, m6⟩, m7⟩, m8⟩ := h3
                subst m0
                have ok : BlkOk X.N X.env.scope scope own := by
                  rw [g.N, g.sc]
                  exact blkOk_by m2
                have gb := fun (s : Shared) (H : Hp) (C : Addr) (cl : List (Str × Addr)) (fp : List Addr) => g.toGood.blk ok.kind s H C cl fp
                have ht : ∀ (s : Shared) (H : Hp) (C : Addr) (cl : List (Str × Addr)) (fp : List Addr), PTs (X.blk s H scope (compEnvC scope cl C X.env) fp) ifs (rdT X.K F c) := fun s H C cl fp => by
                  split at m6
                  · split at m6
                    · refine ⟨fun pins s σ H Q I q => pts_nil.run pins s σ H Q I ?_⟩
                      obtain ⟨js, S, ρ, rs, rr, q⟩ := q
                      unfold evT at q
                      exact q.pure rs
                    · cases m6
                  · rw [Bool.and_eq_true] at m6
                    exact pts_one (sT c _ _ _ (gb s H C cl fp) m6.2)
                  · cases m6
                refine ⟨fun pins s σ H D I q => ?_⟩
                refine (ps_setLc (own := own) (te := rdE X.K F elt) (g := rdTg X.K tg) (tt := rdT X.K F c) (wi := rdI X.K F it) g.calm g.nd t.ix kl hsw (sI it nm _ X g.toGood m5 tx mt) ok (fun s H C cl fp => sTg (gb s H C cl fp) tg _ m3) ht (fun s H C cl fp => sE elt _ _ _ (gb s H C cl fp) m8) (folded_plain m4 _)).run pins s σ H D I ?_
                obtain ⟨js, S, ρ, rs, rr, q⟩ := q
                unfold exC at q
                obtain ⟨d, S1, e1, q⟩ := q.bd
                exact lc_read (fun i hi => of_decide_eq_true (List.all_eq_true.mp m1 i hi)) (rdE.of e1 rs rr fun v1 H1 js1 g1 rs1 r1 => (q.mono g1).nx rs1 ((rr.mono g1).set r1 i))
              · cases h3
            | _ => unfold mE at h3; cases h3
          · have kc : X.env.scope.names.lookup z = some .cell := by
              rw [g.sc]
              unfold cellB at h4
              split at h4 <;> first | assumption | cases h4
            exact plain (sw_cell kc)
        | _ => cases hl
      · exact plain (sw_plain h2 (by simpa using hl) _ _ _)
    · cases h
  | .asg tg e, x, h => by
    unfold mC at h
    split at h
    · simp only [Bool.and_eq_true, Bool.not_eq_true'] at h
      obtain ⟨⟨⟨⟨h1, h2⟩, h3⟩, h4⟩, h5⟩ := h
      refine ⟨fun pins s σ H D I q => ?_⟩
      obtain ⟨js, S, ρ, rs, rr, q⟩ := q
      unfold exC at q
      obtain ⟨d, S1, e1, q⟩ := q.bd
      refine (ps_asg (sE e nm _ X g.toGood h5) (sTg g.toGood tg _ h1) (sw_sole h2 h3 _ _ _) (stores_plain h4 _) rfl).run pins s σ H D I (rdE.of e1 rs rr fun v1 H1 js1 g1 rs1 r1 => ?_)
      split at q
      · rename_i ρ1 eb
        exact ⟨js1, d, ρ, ρ1, r1, rr.mono g1, eb, fun σ2 rr2 _ _ => (q.mono g1).nx rs1 rr2⟩
      · exact q.elim
    · cases h
  | .aug i op e, x, h => by
    unfold mC at h
    split at h
    · simp only [Bool.and_eq_true] at h
      obtain ⟨⟨⟨h1, h2⟩, h3⟩, h4⟩ := h
      have t := g.tg h1
      rw [opB_of h2]
      refine ⟨fun pins s σ H D I q => ?_⟩
      obtain ⟨js, S, ρ, rs, rr, q⟩ := q
      unfold exC at q
      split at q
      · rename_i x1 ex
        obtain ⟨v, e0, r0⟩ := rr.at_ _ _ ex
        obtain ⟨x2, S1, e1, q⟩ := q.bd
        obtain ⟨x3, S2, e2, q⟩ := q.bd
        refine (ps_aug g.nd t.ix t.loc (sE e nm _ X g.toGood h4) (aug_ok op) t.fn).run pins s σ H D I ⟨v, e0, rdE.of e1 rs rr fun v1 H1 js1 g1 rs1 r1 => ⟨js1, S1, x1, x2, rs1, r0.mono g1, r1, ?_⟩⟩
        rw [e2]
        exact fun w H2 js2 g2 rs2 r2 => (q.mono (g1.trans g2)).nx rs2 ((rr.mono (g1.trans g2)).set r2 i)
      · exact q.elim
    · cases h
  | .seti o i e, x, h => by
    unfold mC at h
    split at h
    · simp only [Bool.and_eq_true, Bool.not_eq_true'] at h
      obtain ⟨⟨⟨⟨⟨⟨h1, h2⟩, h3⟩, h4⟩, h5⟩, h6⟩, h7⟩ := h
      refine ⟨fun pins s σ H D I q => ?_⟩
      obtain ⟨js, S, ρ, rs, rr, q⟩ := q
      unfold exC at q
      obtain ⟨x1, S1, e1, q⟩ := q.bd
      obtain ⟨x2, S2, e2, q⟩ := q.bd
      obtain ⟨x3, S3, e3, q⟩ := q.bd
      refine (ps_asg (sE e nm _ X g.toGood h7) (pg_sub (sE o nm _ X g.toGood h2) (sE i nm _ X g.toGood h4) (set_ok g.hu) (sub_assign h3)) (sw_sole h5 h6 _ _ _) (stores_sub _) rfl).run pins s σ H D I
        (rdE.of e1 rs rr fun v1 H1 js1 g1 rs1 r1 => rdE.of e2 rs1 (rr.mono g1) fun v2 H2 js2 g2 rs2 r2 => rdE.of e3 rs2 (rr.mono (g1.trans g2)) fun v3 H3 js3 g3 rs3 r3 => ?_)
      split at q
      · rename_i S4 e4
        exact ⟨js3, S3, x2, x3, x1, rs3, r2.mono g3, r3, (r1.mono g2).mono g3, S4, e4, fun H4 js4 g4 rs4 => (q.mono (g1.trans (g2.trans (g3.trans g4)))).nx rs4 (rr.mono (g1.trans (g2.trans (g3.trans g4))))⟩
      · exact q.elim
    · cases h
  | .ex e, x, h => by
    unfold mC at h
    split at h
    · simp only [Bool.and_eq_true, Bool.not_eq_true'] at h
      obtain ⟨⟨h1, h2⟩, h3⟩ := h
      refine ⟨fun pins s σ H D I q => ?_⟩
      obtain ⟨js, S, ρ, rs, rr, q⟩ := q
      unfold exC at q
      obtain ⟨d, S1, e1, q⟩ := q.bd
      exact (ps_expr (sE e nm _ X g.toGood h3) (sw_plain h1 h2 _ _ _)).run pins s σ H D I (rdE.of e1 rs rr fun v1 H1 js1 g1 rs1 r1 => (q.mono g1).nx rs1 (rr.mono g1))
    · cases h
  | .ret e, x, h => by
    unfold mC at h
    split at h
    · simp only [Bool.and_eq_true] at h
      refine ⟨fun pins s σ H D I q => ?_⟩
      obtain ⟨js, S, ρ, rs, rr, q⟩ := q
      unfold exC at q
      obtain ⟨d, S1, e1, q⟩ := q.bd
      exact (ps_ret (sE e nm _ X g.toGood h.2)).run pins s σ H D I (rdE.of e1 rs rr fun v1 H1 js1 g1 rs1 r1 => (q.mono g1).ret rs1 r1)
    · cases h
  | .retn, x, h => by
    unfold mC at h
    split at h
    · refine ⟨fun pins s σ H D I q => ?_⟩
      obtain ⟨js, S, ρ, rs, rr, q⟩ := q
      unfold exC at q
      exact ps_retN.run pins s σ H D I (q.ret rs .non)
    · cases h
  | .ife c a b, x, h => by
    unfold mC at h
    split at h
    · simp only [Bool.and_eq_true] at h
      obtain ⟨⟨⟨h1, h2⟩, h3⟩, h4⟩ := h
      refine ⟨fun pins s σ H D I q => ?_⟩
      obtain ⟨js, S, ρ, rs, rr, q⟩ := q
      unfold exC at q
      obtain ⟨t, S1, e1, q⟩ := q.bd
      refine (ps_if (sT c nm _ X g.toGood h2) (sCs g a _ h3) (sCs g b _ h4)).run pins s σ H D I (rdT.of e1 rs rr fun H1 js1 g1 rs1 => ?_)
      cases t with
      | true =>
        rw [if_pos rfl]
        exact ⟨js1, S1, ρ, rs1, rr.mono g1, q.mono g1⟩
      | false =>
        rw [if_neg Bool.false_ne_true]
        exact ⟨js1, S1, ρ, rs1, rr.mono g1, q.mono g1⟩
    · cases h
  | .whl c b, x, h => by
    unfold mC at h
    split at h
    · simp only [Bool.and_eq_true] at h
      exact ⟨fun pins s σ H D I q => (ps_while g.po (sT c nm _ X g.toGood h.1.2) (sCs g b _ h.2)).run pins s σ H D I (while_read q)⟩
    · cases h
  | .for_ tg it b, x, h => by
    unfold mC at h
    split at h
    · simp only [Bool.and_eq_true] at h
      obtain ⟨⟨⟨⟨h0, h1⟩, h2⟩, h3⟩, h4⟩ := h
      exact ⟨fun pins s σ H D I q => (ps_for g.po g.calm (sI it nm _ X g.toGood h3 _ h0) (sTg g.toGood tg _ h1) (sCs g b _ h4) (folded_plain h2 _)).run pins s σ H D I (for_read q)⟩
    · cases h
theorem sCs (g : GoodC X nm F) : ∀ (c : Cs) (xs : List Stmt), mCs nm c xs = true → PSs X xs (rdCs X.K F c)
  | .nil, xs, h => by
    unfold mCs at h
    split at h
    · refine ⟨fun pins s σ H D I q => ?_⟩
      obtain ⟨js, S, ρ, rs, rr, q⟩ := q
      unfold exCs at q
      exact pss_nil.run pins s σ H D I (q.nx rs rr)
    · cases h
  | .cons c cs, xs, h => by
    unfold mCs at h
    split at h
    · simp only [Bool.and_eq_true] at h
      refine ⟨fun pins s σ H D I q => ?_⟩
      obtain ⟨js, S, ρ, rs, rr, q⟩ := q
      unfold exCs at q
      obtain ⟨f, S1, e1, q⟩ := q.bd
      refine (pss_cons (sC g c _ h.1) (sCs g cs _ h.2)).run pins s σ H D I ⟨js, S, ρ, rs, rr, ?_⟩
      rw [e1]
      intro H1 js1 g1 rs1
      cases f with
      | nx ρ1 => exact fun σ1 rr1 => ⟨js1, S1, ρ1, rs1, rr1, q.mono g1⟩
      | brk ρ1 => exact fun σ1 rr1 => (OkC.mono (o := ok (.brk ρ1) S1) q g1).brk rs1 rr1
      | cnt ρ1 => exact fun σ1 rr1 => (OkC.mono (o := ok (.cnt ρ1) S1) q g1).cnt rs1 rr1
      | ret d => exact fun v r1 => (OkC.mono (o := ok (.ret d) S1) q g1).ret rs1 r1
    · cases h
end
end
end VM
/-! VH: defs by their table, the law's end. -/
namespace VM
open PySem PySem.Spec PyProof.Rows L2

def spF (K : PySem.W.Frag) (tbl : List (Nat × Fd)) (k f : Nat) : Sp := fun vs H Q _ => rBi K (callN tbl k f) vs H Q
/-- a def of the text, its term looked over -/
structure FnW (K : PySem.W.Frag) (mg : Str → Option Value) (fs : List (Nat × Str)) (bs : List Str) (gs : List (Str × D)) (x : Str) (fd : Fd) (a : Addr) (dat : FuncData) (ps : List Str) : Prop where
  ex : ∃ (st : Stmt) (N : List Str), Fun K x x st a dat ∧ mg x = some (.ref a) ∧ FnScope N ps (defScope st) ∧ fd.np = ps.length ∧ fd.ns = N.length ∧
    mCs ⟨N, defScope st, none, fs, bs, gs⟩ fd.body (defBody st) = true ∧ Binds K dat ps []
def FnT (K : PySem.W.Frag) (mg : Str → Option Value) (fs : List (Nat × Str)) (bs : List Str) (gs : List (Str × D)) (x : Str) (fd : Fd) : Prop := ∃ (a : Addr) (dat : FuncData) (ps : List Str), FnW K mg fs bs gs x fd a dat ps
section
variable {P : Program} {w : World} {K : PySem.W.Frag} {mg : Str → Option Value} {base : Heap} {tbl : List (Nat × Fd)} {fs : List (Nat × Str)} {bs : List Str} {gs : List (Str × D)}
theorem rep_start {H : Hp} {js : List Addr} {ds : List D} {vs : List V} {N : List Str} {np ns : Nat} (r : RepVs K H js ds vs) (h1 : ds.length = np) (h2 : ns = N.length) (h3 : np ≤ ns) :
    RepR K H js (ds.map some ++ List.replicate (ns - np) none) (L2.start N vs) := by
  have hl := r.length
  refine ⟨by unfold L2.start; simp only [List.length_append, List.length_map, List.length_replicate]; omega, fun i d e => ?_⟩
  by_cases hi : i < ds.length
  · rw [List.getElem?_append_left (by simpa using hi), List.getElem?_map] at e
    cases e1 : ds[i]? with
    | none => rw [e1] at e; cases e
    | some d' =>
      rw [e1] at e
      cases e
      obtain ⟨v, e2, r2⟩ := r.get e1
      refine ⟨v, ?_, r2⟩
      unfold L2.start
      rw [List.getElem?_append_left (by rw [List.length_map, ← hl]; exact hi), List.getElem?_map, e2]
      rfl
  · rw [List.getElem?_append_right (by simpa using hi), List.getElem?_replicate] at e
    split at e <;> cases e
theorem spF_len {k f : Nat} {fd : Fd} (hf : tbl.lookup f = some fd) {vs : List V} {H : Hp} {Q : VK} {E : XK} (h : spF K tbl k f vs H Q E) : vs.length = fd.np := by
  obtain ⟨js, S, ds, rs, rv, h⟩ := h
  cases k with
  | zero => exact h.elim
  | succ k =>
    unfold callN at h
    rw [hf] at h
    simp only at h
    split at h
    · rename_i e
      rw [← rv.length, e]
    · exact h.elim
/-- EVERY DEF DOES WHAT ITS TERM DOES -/
theorem fn_sound (hT : ∀ (f : Nat) (x : Str), fs.lookup f = some x → ∃ fd, tbl.lookup f = some fd ∧ FnT K mg fs bs gs x fd) (hb : ∀ x ∈ bs, mg x = none)
    (hg : ∀ x d, gsB gs x d = true → ∃ u v, mg x = some u ∧ RelV v u ∧ ∀ H js, RepV K H js d v) :
    ∀ (k f : Nat) (x : Str) (fd : Fd) (a : Addr) (dat : FuncData) (ps : List Str), tbl.lookup f = some fd → FnW K mg fs bs gs x fd a dat ps → FnOk P w K mg base CX0 k a dat ps (spF K tbl k f) := by
  intro k
  induction k with
  | zero =>
    intro f x fd a dat ps hf W
    obtain ⟨st, N, F, hm, S, h1, h2, h3, h4⟩ := W.ex
    refine ⟨fun vs H Q E h => ?_, fun A outer s H args us vs Q E _ _ _ _ h => ?_⟩
    · rw [spF_len hf h, h1]
    · obtain ⟨js, S', ds, rs, rv, h⟩ := h
      exact h.elim
  | succ k ih =>
    intro f x fd a dat ps hf W
    obtain ⟨st, N, F, hm, S, h1, h2, h3, h4⟩ := W.ex
    refine F.ok S (fun vs H Q E h => by rw [spF_len hf h, h1]) (fun cdv A outer s H vs Q E hr h => ?_)
    have hpl : ps.length ≤ N.length := by
      have := congrArg List.length S.pre
      rw [List.length_take] at this
      omega
    have good : GoodC (cxOf CX0 P w K mg base N x (defScope st) a cdv A outer s H E).nox ⟨N, defScope st, none, fs, bs, gs⟩ ⟨callN tbl k⟩ :=
      { calm := rfl, N := rfl, nd := S.nd, sc := rfl, kind := S.kind, fn := fun _ _ => rfl, hu := by have := hr.un; show (A.deeper _).units + 200 < cLine; omega, bs := hb, gs := hg,
        call := fun f' x' hx' => by
          obtain ⟨fd', hf', a', dat', ps', W'⟩ := hT f' x' hx'
          have F' := ih f' x' fd' a' dat' ps' hf' W'
          obtain ⟨st', N', F0, hm', _, _, _, _, hb'⟩ := W'.ex
          exact ⟨CX0, k, a', dat', ps', spF K tbl k f', ⟨F', hr, hm', F0.kp, hb', fun _ _ _ _ _ z => z, fun vs H Q q => q⟩⟩
        po := PassesOwn.never }
    refine ⟨rdCs K ⟨callN tbl k⟩ fd.body, sCs good fd.body _ h3, ?_⟩
    obtain ⟨js, S', ds, rs, rv, h⟩ := h
    unfold callN at h
    rw [hf] at h
    simp only at h
    split at h
    · rename_i hl
      refine ⟨js, S', ds.map some ++ List.replicate (fd.ns - fd.np) none, rs, rep_start rv hl h2 (by rw [h1, h2]; exact hpl), ?_⟩
      obtain ⟨r, S1, e1, h⟩ := h.bd
      rw [e1]
      intro H1 js1 g1 rs1
      cases r with
      | ret d => exact fun v r1 => h v H1 js1 g1 rs1 r1
      | nx ρ => exact fun σ1 _ => h .non H1 js1 g1 rs1 .non
      | brk ρ => exact h.elim
      | cnt ρ => exact h.elim
    · exact h.elim
/-- the law's script -/
theorem script_rep {H : Hp} {a : Addr} {ns : List Int} (hO : Only H) (hS : SqL K H a (ns.map V.int)) : RepV K H [] (.fz (ns.map .int)) (.ref a) := by
  refine .fz ?_ RepVs.ints
  rcases hS with (h | ⟨o, h⟩) | h
  · rcases hO a with z | ⟨o, xs, z⟩
    · rw [z] at h; cases h
    · rw [z] at h; cases h
  · exact .inl ⟨o, h, by simp⟩
  · exact .inr h
theorem law_sp {H : Hp} {a : Addr} {ns : List Int} {k f : Nat} (hO : Only H) (hS : SqL K H a (ns.map V.int)) (h : ∃ S', callN tbl k f [.fz (ns.map .int)] [] = some (.ok (.bl true) S')) :
    spF K tbl k f [.ref a] H (fun v _ => v = .bl true) fun _ _ _ => False := by
  obtain ⟨S', e⟩ := h
  refine ⟨[], [], [.fz (ns.map .int)], ⟨rfl, List.nodup_nil, fun n a o e => by simp at e⟩, .cons (script_rep hO hS) .nil, ?_⟩
  rw [e]
  intro v H' js' _ _ r
  cases r
  rfl
end
/-- a def behind the top -/
def FnAt (K : PySem.W.Frag) (x : Str) (st : Stmt) (ps : List Str) : Prop := ∃ (a : Addr) (dat : FuncData), PySem.W.nsIn K mainGlobals x = some (some (.ref a)) ∧ Fun K x x st a dat ∧ ∀ us : List Value, us.length = ps.length → bindArgs dat ⟨us, []⟩ = pure (ps.zip us)
theorem fnAt_mk {K : PySem.W.Frag} {x : Str} {st : Stmt} {ps : List Str} {a : Addr} {oc : Value} {od an : Option Addr} {osl : Array (Option Value)} {kV doc pm cdv ct : Value}
    (hb : ∀ (kV doc pm : Value) (an : Option Addr) (cdv ct : Value) (us : List Value), us.length = ps.length → bindArgs (PySem.W.fnOf x x (defArgs st) (defBody st) (defScope st) .none kV doc pm an cdv ct) ⟨us, []⟩ = pure (ps.zip us))
    (ha : PySem.W.nsIn K mainGlobals x = some (some (.ref a))) (hl : K.lookup a = some ⟨oc, od, .func (PySem.W.fnOf x x (defArgs st) (defBody st) (defScope st) .none kV doc pm an cdv ct), osl⟩)
    (hc : PySem.W.codeIn K cdv x = true) (hk : PySem.W.keepIn K (.ref a) = true) : FnAt K x st ps :=
  ⟨a, _, ha, fun_mk hl hc hk, hb kV doc pm an cdv ct⟩
theorem FnAt.t {K : PySem.W.Frag} {x : Str} {st : Stmt} {N ps : List Str} {mg : Str → Option Value} {h : Heap} {fs : List (Nat × Str)} {bs : List Str} {gs : List (Str × D)} {fd : Fd} (f : FnAt K x st ps) (X : K.In h) (G : h.Ns mainGlobals mg)
    (S : FnScope N ps (defScope st)) (h1 : fd.np = ps.length) (h2 : fd.ns = N.length) (h3 : mCs ⟨N, defScope st, none, fs, bs, gs⟩ fd.body (defBody st) = true) : FnT K mg fs bs gs x fd := by
  obtain ⟨a, dat, ha, F, hb⟩ := f
  exact ⟨a, dat, ps, ⟨st, N, F, PySem.W.mg_of X G ha, S, h1, h2, h3, .all hb⟩⟩
theorem tab_all {K : PySem.W.Frag} {mg : Str → Option Value} {fs : List (Nat × Str)} {bs : List Str} {gs : List (Str × D)} : ∀ ft : List (Nat × Str × Fd), (∀ p ∈ ft, FnT K mg fs bs gs p.2.1 p.2.2) →
    ∀ (f : Nat) (x : Str), (ft.map fun p => (p.1, p.2.1)).lookup f = some x → ∃ fd, (ft.map fun p => (p.1, p.2.2)).lookup f = some fd ∧ FnT K mg fs bs gs x fd
  | [], _, f, x, h => by cases h
  | p :: ft, hp, f, x, h => by
    rw [List.map_cons, List.lookup_cons] at h
    rw [List.map_cons, List.lookup_cons]
    by_cases e : (f == p.1) = true
    · simp only [e] at h ⊢
      cases h
      exact ⟨_, rfl, hp p List.mem_cons_self⟩
    · simp only [e] at h ⊢
      exact tab_all ft (fun q hq => hp q (List.mem_cons_of_mem _ hq)) f x h
theorem law_at {P : Program} {w : World} {K : PySem.W.Frag} {h : Heap} {mg : Str → Option Value} {fa : Addr} {st : Stmt} {N : List Str} {fd : Fd} {ft : List (Nat × Str × Fd)} {bs : List Str} {gs : List (Str × D)} (X : K.In h) (G : h.Ns mainGlobals mg) (hfa : mg "law" = some (.ref fa))
    (aL : FnAt K "law" st ["script"]) (S : FnScope N ["script"] (defScope st)) (h1 : fd.np = 1) (h2 : fd.ns = N.length) (h3 : mCs ⟨N, defScope st, none, ft.map (fun p => (p.1, p.2.1)), bs, gs⟩ fd.body (defBody st) = true)
    (hT : ∀ p ∈ ft, FnT K mg (ft.map fun p => (p.1, p.2.1)) bs gs p.2.1 p.2.2) (hb : ∀ x ∈ bs, mg x = none)
    (hg : ∀ x d, gsB gs x d = true → ∃ u v, mg x = some u ∧ RelV v u ∧ ∀ H js, RepV K H js d v) (k f : Nat) (hf : (ft.map fun p => (p.1, p.2.2)).lookup f = some fd) :
    ∃ fd : FuncData, (∀ (s : Shared) (v : Value), BindsTo s fd ⟨[v], []⟩ [("script", v)]) ∧ ∀ base : Heap, FnOk P w K mg base CX0 k fa fd ["script"] (spF K (ft.map fun p => (p.1, p.2.2)) k f) := by
  obtain ⟨a, dat, ha, F, hbi⟩ := aL
  have hm := PySem.W.mg_of X G ha
  have e := hfa.symm.trans hm
  cases e
  exact ⟨dat, fun s v => .of_eq (hbi [v] rfl), fun base => fn_sound (P := P) (w := w) (base := base) (tab_all ft hT) hb hg k f "law" fd fa dat ["script"] hf ⟨st, N, F, hm, S, h1, h2, h3, .all hbi⟩⟩
theorem flat_gs {K : PySem.W.Frag} {mg : Str → Option Value} {gs : List (Str × D)} (h : ∀ p ∈ gs, (∃ i t, p.2 = D.int i ∧ mg p.1 = some (.int i t)) ∨ ∃ x t, p.2 = D.str x ∧ mg p.1 = some (.str x t)) :
    ∀ x d, gsB gs x d = true → ∃ u v, mg x = some u ∧ RelV v u ∧ ∀ H js, RepV K H js d v := by
  intro x d hd
  unfold gsB at hd
  obtain ⟨p, hp, hq⟩ := List.any_eq_true.mp hd
  rw [Bool.and_eq_true, decide_eq_true_eq] at hq
  obtain ⟨e1, e2⟩ := hq
  subst e1
  rcases h p hp with ⟨i, t, e3, e4⟩ | ⟨z, t, e3, e4⟩
  · rw [e3] at e2
    cases d with
    | int j =>
      have e : i = j := of_decide_eq_true e2
      subst e
      exact ⟨_, .int i, e4, ⟨t, rfl⟩, fun _ _ => .int i⟩
    | _ => cases e2
  · rw [e3] at e2
    cases d with
    | str j =>
      have e : z = j := of_decide_eq_true e2
      subst e
      exact ⟨_, .str z, e4, ⟨t, rfl⟩, fun _ _ => .str z⟩
    | _ => cases e2
theorem walk {l : PySem.W.OpenLaw} {q : Program} {loose : List Str} {XP : (Str → Option Value) → Heap → Prop} {YP : World → Heap → Prop} {d : DefRec} {K : Params → PySem.W.Frag} {tbl : List (Nat × Fd)} {k f : Nat} (hn : l.most = some 63) (hdf : d.params.defaults = []) (hr : Room k callerA)
    (hY : ∀ (w : World) (h : Heap), YP w h → (K w.params).In h)
    (F : ∀ (w : World) (mg : Str → Option Value) (fa : Addr) (h : Heap), (K w.params).In h → h.Ns mainGlobals mg → mg d.name = some (.ref fa) →
      ∃ fd : FuncData, (∀ (s : Shared) (u : Value), BindsTo s fd ⟨[u], []⟩ [("script", u)]) ∧ ∀ base : Heap, FnOk l.prog w (K w.params) mg base CX0 k fa fd ["script"] (spF (K w.params) tbl k f))
    (hL : ∀ ns : List Int, ns.length ≤ 63 → ∃ S', callN tbl k f [.fz (ns.map .int)] [] = some (.ok (.bl true) S')) :
    PySem.W.WalkO q loose XP YP l.row.toRowW d [] (fun f vs => PySem.call f vs) :=
  L2.walk_of (n := 63) (k := k) (x := "script") (CX := fun _ => CX0) (sp := fun w => spF (K w.params) tbl k f) hn (by decide) hdf hr hY
    (fun w mg fa h X G hm => let ⟨fd, h1, h2⟩ := F w mg fa h X G hm; ⟨fd, h1, fun base _ _ => h2 base⟩) (fun w H a ns hl hO hS => law_sp hO hS (hL ns hl)) fun _ _ _ _ _ z => z
end VM
/-! VP: a calculus for the small language. -/
namespace VM
open PySem
def Wp {α : Type} (o : Out α) (Q : α → Sto → Prop) : Prop := ∃ a S, o = some (.ok a S) ∧ Q a S
section
variable {α β : Type} {Q R : α → Sto → Prop} {S : Sto}
theorem Wp.mono {o : Out α} (h : Wp o Q) (q : ∀ a S, Q a S → R a S) : Wp o R := let ⟨a, S, e, h⟩ := h; ⟨a, S, e, q a S h⟩
theorem wp_bd {m : Out α} {f : α → Sto → Out β} {Q : β → Sto → Prop} : Wp (bd m f) Q = Wp m fun a S => Wp (f a S) Q := by
  apply propext
  constructor
  · rintro ⟨b, S, e, h⟩
    cases m with
    | none => cases e
    | some r =>
      cases r with
      | ok a S1 => exact ⟨a, S1, rfl, b, S, e, h⟩
      | ex c xs S1 => cases e
  · rintro ⟨a, S1, rfl, b, S, e, h⟩
    exact ⟨b, S, e, h⟩
theorem wp_ok {a : α} : Wp (ok a S) Q = Q a S := by
  apply propext
  constructor
  · rintro ⟨b, S', e, h⟩
    cases e
    exact h
  · exact fun h => ⟨a, S, rfl, h⟩
theorem wp_some {a : α} : Wp (some (.ok a S)) Q = Q a S := wp_ok
theorem wp_none : Wp none Q = False := by
  apply propext
  constructor
  · rintro ⟨b, S', e, h⟩
    cases e
  · exact fun h => h.elim
theorem Wp.eq {o : Out α} {a : α} (h : Wp o Q) (e : ∀ b S, Q b S → b = a) : ∃ S', o = some (.ok a S') := by
  obtain ⟨b, S', e1, h⟩ := h
  rw [e b S' h] at e1
  exact ⟨S', e1⟩
theorem wp_ite {c : Prop} [Decidable c] {x y : Out α} : Wp (if c then x else y) Q = ((c → Wp x Q) ∧ (¬ c → Wp y Q)) := by
  apply propext
  by_cases h : c
  · rw [if_pos h]
    exact ⟨fun z => ⟨fun _ => z, fun n => absurd h n⟩, fun z => z.1 h⟩
  · rw [if_neg h]
    exact ⟨fun z => ⟨fun n => absurd n h, fun _ => z⟩, fun z => z.2 h⟩
end

/-! ### loops -/
/-- what the body's end means for a for -/
def forQ (I : Rho → Sto → Prop) (Q : Fl → Sto → Prop) : Fl → Sto → Prop
  | .nx ρ, S => I ρ S
  | .cnt ρ, S => I ρ S
  | .brk ρ, S => Q (.nx ρ) S
  | .ret d, S => Q (.ret d) S
theorem wp_foldF {tg : Tg} {b : Rho → Sto → Out Fl} {Q : Fl → Sto → Prop} : ∀ (ds : List D) (ρ : Rho) (S : Sto) (I : Nat → Rho → Sto → Prop) (h0 : I 0 ρ S)
    (hs : ∀ i d ρ S, ds[i]? = some d → I i ρ S → ∃ ρ1, bindT tg d ρ = some ρ1 ∧ Wp (b ρ1 S) (forQ (I (i + 1)) Q))
    (hd : ∀ ρ S, I ds.length ρ S → Q (.nx ρ) S), Wp (bd (foldF (forStep tg b) ds ρ S) forEnd) Q
  | [], ρ, S, I, h0, hs, hd => by
    unfold foldF
    show Wp (ok (.nx ρ) S) Q
    rw [wp_ok]
    exact hd ρ S h0
  | d :: ds, ρ, S, I, h0, hs, hd => by
    obtain ⟨ρ1, e1, f, S1, e2, h⟩ := hs 0 d ρ S rfl h0
    unfold foldF forStep
    rw [e1]
    simp only [e2]
    cases f with
    | nx ρ2 => exact wp_foldF ds ρ2 S1 (fun i => I (i + 1)) h (fun i d ρ S e => hs (i + 1) d ρ S (by simpa using e)) (fun ρ S z => hd ρ S (by simpa using z))
    | cnt ρ2 => exact wp_foldF ds ρ2 S1 (fun i => I (i + 1)) h (fun i d ρ S e => hs (i + 1) d ρ S (by simpa using e)) (fun ρ S z => hd ρ S (by simpa using z))
    | brk ρ2 =>
      show Wp (ok (.nx ρ2) S1) Q
      rw [wp_ok]
      exact h
    | ret d =>
      show Wp (ok (.ret d) S1) Q
      rw [wp_ok]
      exact h
theorem wp_forF {tg : Tg} {b : Rho → Sto → Out Fl} {Q : Fl → Sto → Prop} {ds : List D} {ρ : Rho} {S : Sto} (I : Nat → Rho → Sto → Prop) (h0 : I 0 ρ S)
    (hs : ∀ i d ρ S, ds[i]? = some d → I i ρ S → ∃ ρ1, bindT tg d ρ = some ρ1 ∧ Wp (b ρ1 S) (forQ (I (i + 1)) Q))
    (hd : ∀ ρ S, I ds.length ρ S → Q (.nx ρ) S) : Wp (bd (foldI (forStep tg b) (.fix ds) ρ S) forEnd) Q := wp_foldF ds ρ S I h0 hs hd
theorem wp_forR {tg : Tg} {b : Rho → Sto → Out Fl} {Q : Fl → Sto → Prop} {n : Nat} {w : Dm} {ds es : List D} {ρ : Rho} {S : Sto} (hw : ∀ i, dynAt w ds i = some es[i]?) (I : Nat → Rho → Sto → Prop) (h0 : I 0 ρ S)
    (hl : ∀ i ρ S, I i ρ S → S[n]? = some (.lst ds))
    (hs : ∀ i d ρ S, es[i]? = some d → I i ρ S → ∃ ρ1, bindT tg d ρ = some ρ1 ∧ Wp (b ρ1 S) (forQ (I (i + 1)) Q))
    (hd : ∀ ρ S, I es.length ρ S → Q (.nx ρ) S) : Wp (bd (foldI (forStep tg b) (.dyn n w) ρ S) forEnd) Q := by
  show Wp (bd (foldR (forStep tg b) n w 0 ρ S) forEnd) Q
  have key : ∀ (m i : Nat) (ρ : Rho) (S : Sto), i + m = es.length → I i ρ S → Wp (bd (foldR (forStep tg b) n w i ρ S) forEnd) Q := by
    intro m
    induction m with
    | zero =>
      intro i ρ S hi h
      rw [foldR, hl i ρ S h]
      simp only
      rw [hw, List.getElem?_eq_none (by omega)]
      show Wp (ok (.nx ρ) S) Q
      rw [wp_ok]
      have e : i = es.length := by omega
      subst e
      exact hd ρ S h
    | succ m ih =>
      intro i ρ S hi h
      have hi' : i < es.length := by omega
      obtain ⟨ρ1, e1, f, S1, e2, h2⟩ := hs i es[i] ρ S (List.getElem?_eq_getElem hi') h
      rw [foldR, hl i ρ S h]
      simp only
      rw [hw, List.getElem?_eq_getElem hi']
      unfold forStep
      simp only [e1, e2]
      cases f with
      | nx ρ2 => exact ih (i + 1) ρ2 S1 (by omega) h2
      | cnt ρ2 => exact ih (i + 1) ρ2 S1 (by omega) h2
      | brk ρ2 =>
        show Wp (ok (.nx ρ2) S1) Q
        rw [wp_ok]
        exact h2
      | ret d =>
        show Wp (ok (.ret d) S1) Q
        rw [wp_ok]
        exact h2
  exact key es.length 0 ρ S (by omega) h0
theorem wp_while {c : Rho → Sto → Out Bool} {b : Rho → Sto → Out Fl} {Q : Fl → Sto → Prop} {ρ : Rho} {S : Sto} (I : Nat → Rho → Sto → Prop) (m : Nat) (h0 : I m ρ S)
    (hs : ∀ m ρ S, I m ρ S → Wp (c ρ S) fun t S1 => if t = true then Wp (b ρ S1) (forQ (fun ρ S => ∃ m', m' < m ∧ I m' ρ S) Q) else Q (.nx ρ) S1) : Wp (whileL c b ρ S) Q := by
  have key : ∀ (m : Nat) (ρ : Rho) (S : Sto), I m ρ S → Wp (whileL c b ρ S) Q := by
    intro m
    induction m using Nat.strongRecOn with
    | _ m ih =>
      intro ρ S h
      obtain ⟨t, S1, e1, h1⟩ := hs m ρ S h
      rw [whileL, e1]
      cases t with
      | false =>
        simp only [Bool.false_eq_true, if_false] at h1
        exact ⟨_, _, rfl, h1⟩
      | true =>
        simp only [if_true] at h1
        obtain ⟨f, S2, e2, h2⟩ := h1
        simp only [e2]
        cases f with
        | nx ρ2 =>
          obtain ⟨m', hm, h3⟩ := h2
          exact ih m' hm ρ2 S2 h3
        | cnt ρ2 =>
          obtain ⟨m', hm, h3⟩ := h2
          exact ih m' hm ρ2 S2 h3
        | brk ρ2 => exact ⟨_, _, rfl, h2⟩
        | ret d => exact ⟨_, _, rfl, h2⟩
  exact key m ρ S h0
/-- a comprehension's turn -/
def lcF (F : Orc) (elt : E) (tg : Tg) (c : T) (own : List Nat) (ρ : Rho) (d : D) (acc : List D) (S2 : Sto) : Out (List D ⊕ Empty) := match bindT tg d (wipeR ρ own) with
  | none => none
  | some ρ1 => bd (evT F c ρ1 S2) fun t S3 => match t with
    | true => bd (evE F elt ρ1 S3) fun y S4 => if acc.length < sizeLine then ok (.inl (acc ++ [y]) : List D ⊕ Empty) S4 else none
    | false => ok (.inl acc) S3
def lcEnd (r : List D ⊕ Empty) (S5 : Sto) : Out D := match r with
  | .inl acc => ok (.ref S5.length) (S5 ++ [.lst acc])
  | .inr e => nomatch e
theorem evE_lc {F : Orc} {elt : E} {tg : Tg} {it : I} {c : T} {own : List (Str × Nat)} {ρ : Rho} {S : Sto} :
    evE F (.lc elt tg it c own) ρ S = bd (evI F it ρ S) fun i S1 => bd (foldI (lcF F elt tg c (own.map (·.2)) ρ) i [] S1) lcEnd := by
  unfold evE
  congr 1
theorem wp_lcF0 {F : Orc} {elt : E} {tg : Tg} {c : T} {own : List Nat} {ρ : Rho} {Q : D → Sto → Prop} : ∀ (ds acc : List D) (S : Sto) (I : Nat → List D → Sto → Prop) (h0 : I 0 acc S)
    (hs : ∀ i d acc S, ds[i]? = some d → I i acc S → ∃ ρ1, bindT tg d (wipeR ρ own) = some ρ1 ∧ Wp (evT F c ρ1 S) fun t S3 => if t = true then Wp (evE F elt ρ1 S3) fun y S4 => acc.length < sizeLine ∧ I (i + 1) (acc ++ [y]) S4 else I (i + 1) acc S3)
    (hd : ∀ acc S, I ds.length acc S → Q (.ref S.length) (S ++ [.lst acc])), Wp (bd (foldF (lcF F elt tg c own ρ) ds acc S) lcEnd) Q
  | [], acc, S, I, h0, hs, hd => by
    unfold foldF
    show Wp (ok (.ref S.length) (S ++ [.lst acc])) Q
    rw [wp_ok]
    exact hd acc S h0
  | d :: ds, acc, S, I, h0, hs, hd => by
    obtain ⟨ρ1, e1, t, S1, e2, h⟩ := hs 0 d acc S rfl h0
    unfold foldF lcF
    rw [e1]
    simp only [e2]
    cases t with
    | false =>
      simp only [Bool.false_eq_true, if_false] at h
      exact wp_lcF0 ds acc S1 (fun i => I (i + 1)) h (fun i d ρ S e => hs (i + 1) d ρ S (by simpa using e)) (fun ρ S z => hd ρ S (by simpa using z))
    | true =>
      simp only [if_true] at h
      obtain ⟨y, S2, e3, hz, h⟩ := h
      have := wp_lcF0 ds (acc ++ [y]) S2 (fun i => I (i + 1)) h (fun i d ρ S e => hs (i + 1) d ρ S (by simpa using e)) (fun ρ S z => hd ρ S (by simpa using z))
      show Wp (bd (bd (bd (evE F elt ρ1 S1) fun y S4 => if acc.length < sizeLine then ok (.inl (acc ++ [y]) : List D ⊕ Empty) S4 else none) _) lcEnd) Q
      rw [e3]
      simp only [bd, if_pos hz]
      exact this
theorem wp_lcF {F : Orc} {elt : E} {tg : Tg} {c : T} {own : List Nat} {ρ : Rho} {ds : List D} {S : Sto} {Q : D → Sto → Prop} (I : Nat → List D → Sto → Prop) (h0 : I 0 [] S)
    (hs : ∀ i d acc S, ds[i]? = some d → I i acc S → ∃ ρ1, bindT tg d (wipeR ρ own) = some ρ1 ∧ Wp (evT F c ρ1 S) fun t S3 => if t = true then Wp (evE F elt ρ1 S3) fun y S4 => acc.length < sizeLine ∧ I (i + 1) (acc ++ [y]) S4 else I (i + 1) acc S3)
    (hd : ∀ acc S, I ds.length acc S → Q (.ref S.length) (S ++ [.lst acc])) : Wp (bd (foldI (lcF F elt tg c own ρ) (.fix ds) [] S) lcEnd) Q := wp_lcF0 ds [] S I h0 hs hd
theorem wp_lcR {F : Orc} {elt : E} {tg : Tg} {c : T} {own : List Nat} {ρ : Rho} {n : Nat} {w : Dm} {ds es : List D} {S : Sto} {Q : D → Sto → Prop} (hw : ∀ i, dynAt w ds i = some es[i]?) (I : Nat → List D → Sto → Prop) (h0 : I 0 [] S)
    (hl : ∀ i acc S, I i acc S → S[n]? = some (.lst ds))
    (hs : ∀ i d acc S, es[i]? = some d → I i acc S → ∃ ρ1, bindT tg d (wipeR ρ own) = some ρ1 ∧ Wp (evT F c ρ1 S) fun t S3 => if t = true then Wp (evE F elt ρ1 S3) fun y S4 => acc.length < sizeLine ∧ I (i + 1) (acc ++ [y]) S4 else I (i + 1) acc S3)
    (hd : ∀ acc S, I es.length acc S → Q (.ref S.length) (S ++ [.lst acc])) : Wp (bd (foldI (lcF F elt tg c own ρ) (.dyn n w) [] S) lcEnd) Q := by
  show Wp (bd (foldR (lcF F elt tg c own ρ) n w 0 [] S) lcEnd) Q
  have key : ∀ (m i : Nat) (acc : List D) (S : Sto), i + m = es.length → I i acc S → Wp (bd (foldR (lcF F elt tg c own ρ) n w i acc S) lcEnd) Q := by
    intro m
    induction m with
    | zero =>
      intro i acc S hi h
      rw [foldR, hl i acc S h]
      simp only
      rw [hw, List.getElem?_eq_none (by omega)]
      show Wp (ok (.ref S.length) (S ++ [.lst acc])) Q
      rw [wp_ok]
      have e : i = es.length := by omega
      subst e
      exact hd acc S h
    | succ m ih =>
      intro i acc S hi h
      have hi' : i < es.length := by omega
      obtain ⟨ρ1, e1, t, S1, e2, h2⟩ := hs i es[i] acc S (List.getElem?_eq_getElem hi') h
      rw [foldR, hl i acc S h]
      simp only
      rw [hw, List.getElem?_eq_getElem hi']
      unfold lcF
      simp only [e1, e2]
      cases t with
      | false =>
        simp only [Bool.false_eq_true, if_false] at h2
        exact ih (i + 1) acc S1 (by omega) h2
      | true =>
        simp only [if_true] at h2
        obtain ⟨y, S2, e3, hz, h3⟩ := h2
        simp only [bd, e3, if_pos hz]
        exact ih (i + 1) _ S2 (by omega) h3
  exact key es.length 0 [] S (by omega) h0
/-! ### calls -/
def retQ (Q : D → Sto → Prop) : Fl → Sto → Prop
  | .ret d, S => Q d S
  | .nx _, S => Q .non S
  | _, _ => False
theorem wp_call {tbl : List (Nat × Fd)} {k f : Nat} {ds : List D} {S : Sto} {Q : D → Sto → Prop} {fd : Fd} (hf : tbl.lookup f = some fd) (hl : ds.length = fd.np)
    (h : Wp (exCs ⟨callN tbl k⟩ fd.body (ds.map some ++ List.replicate (fd.ns - fd.np) none) S) (retQ Q)) : Wp (callN tbl (k + 1) f ds S) Q := by
  unfold callN
  rw [hf]
  simp only [if_pos hl]
  rw [wp_bd]
  refine h.mono fun r S1 q => ?_
  cases r with
  | ret d => exact wp_ok ▸ q
  | nx ρ => exact wp_ok ▸ q
  | brk ρ => exact q.elim
  | cnt ρ => exact q.elim

/-! ### statements, one at a time -/
section
variable {F : Orc} {ρ : Rho} {S : Sto} {Q : Fl → Sto → Prop}
def seqQ (F : Orc) (cs : Cs) (Q : Fl → Sto → Prop) : Fl → Sto → Prop
  | .nx ρ, S => Wp (exCs F cs ρ S) Q
  | .brk ρ, S => Q (.brk ρ) S
  | .cnt ρ, S => Q (.cnt ρ) S
  | .ret d, S => Q (.ret d) S
def ifQ (F : Orc) (a b : Cs) (ρ : Rho) (Q : Fl → Sto → Prop) : Bool → Sto → Prop
  | true, S => Wp (exCs F a ρ S) Q
  | false, S => Wp (exCs F b ρ S) Q
theorem wp_cons {c : C} {cs : Cs} : Wp (exCs F (.cons c cs) ρ S) Q = Wp (exC F c ρ S) (seqQ F cs Q) := by
  conv => lhs; unfold exCs
  rw [wp_bd]
  congr 1
  funext f S1
  cases f with
  | nx ρ1 => rfl
  | brk ρ1 => exact wp_ok
  | cnt ρ1 => exact wp_ok
  | ret d => exact wp_ok
theorem wp_nil : Wp (exCs F .nil ρ S) Q = Q (.nx ρ) S := wp_ok
theorem wp_ife {c : T} {a b : Cs} : Wp (exC F (.ife c a b) ρ S) Q = Wp (evT F c ρ S) (ifQ F a b ρ Q) := by
  conv => lhs; unfold exC
  rw [wp_bd]
  congr 1
  funext t S1
  cases t <;> rfl
theorem wp_set {i : Nat} {e : E} : Wp (exC F (.set i e) ρ S) Q = Wp (evE F e ρ S) fun d S1 => Q (.nx (ρ.set i (some d))) S1 := by
  conv => lhs; unfold exC
  rw [wp_bd]
  congr 1
  funext d S1
  exact wp_ok
theorem wp_asg {tg : Tg} {e : E} : Wp (exC F (.asg tg e) ρ S) Q = Wp (evE F e ρ S) fun d S1 => ∃ ρ1, bindT tg d ρ = some ρ1 ∧ Q (.nx ρ1) S1 := by
  conv => lhs; unfold exC
  rw [wp_bd]
  congr 1
  funext d S1
  cases e : bindT tg d ρ with
  | none => simp [wp_none]
  | some ρ1 => simp [wp_ok]
theorem wp_ex {e : E} : Wp (exC F (.ex e) ρ S) Q = Wp (evE F e ρ S) fun _ S1 => Q (.nx ρ) S1 := by
  conv => lhs; unfold exC
  rw [wp_bd]
  congr 1
  funext d S1
  exact wp_ok
theorem wp_ret {e : E} : Wp (exC F (.ret e) ρ S) Q = Wp (evE F e ρ S) fun d S1 => Q (.ret d) S1 := by
  conv => lhs; unfold exC
  rw [wp_bd]
  congr 1
  funext d S1
  exact wp_ok
theorem wp_retn : Wp (exC F .retn ρ S) Q = Q (.ret .non) S := wp_ok
theorem wp_pass : Wp (exC F .pass ρ S) Q = Q (.nx ρ) S := wp_ok
theorem wp_brk : Wp (exC F .brk ρ S) Q = Q (.brk ρ) S := wp_ok
theorem wp_cnt : Wp (exC F .cnt ρ S) Q = Q (.cnt ρ) S := wp_ok
theorem wp_aug {i : Nat} {op : Op2} {e : E} : Wp (exC F (.aug i op e) ρ S) Q = ∃ x, ρ[i]? = some (some x) ∧ Wp (evE F e ρ S) fun y S1 => Wp (augD op x y S1) fun z S2 => Q (.nx (ρ.set i (some z))) S2 := by
  conv => lhs; unfold exC
  cases e1 : ρ[i]? with
  | none => simp [wp_none]
  | some o =>
    cases o with
    | none => simp [wp_none]
    | some x => simp [wp_bd, wp_ok]
theorem wp_seti {o i e : E} : Wp (exC F (.seti o i e) ρ S) Q = Wp (evE F e ρ S) fun v S1 => Wp (evE F o ρ S1) fun x S2 => Wp (evE F i ρ S2) fun y S3 => ∃ S4, setiD x y v S3 = some S4 ∧ Q (.nx ρ) S4 := by
  conv => lhs; unfold exC
  simp only [wp_bd]
  congr 1
  funext v S1
  congr 1
  funext x S2
  congr 1
  funext y S3
  cases e1 : setiD x y v S3 with
  | none => simp [wp_none]
  | some S4 => simp [wp_ok]
theorem wp_whl {c : T} {b : Cs} : Wp (exC F (.whl c b) ρ S) Q = Wp (whileL (fun ρ S => evT F c ρ S) (fun ρ S => exCs F b ρ S) ρ S) Q := rfl
theorem wp_for {tg : Tg} {it : I} {b : Cs} : Wp (exC F (.for_ tg it b) ρ S) Q = Wp (evI F it ρ S) fun i S1 => Wp (bd (foldI (forStep tg fun ρ S => exCs F b ρ S) i ρ S1) forEnd) Q := by
  conv => lhs; unfold exC
  rw [wp_bd]
end
/-! ### tests, expressions -/
section
variable {F : Orc} {ρ : Rho} {S : Sto}
def andQ (F : Orc) (b : T) (ρ : Rho) (Q : Bool → Sto → Prop) : Bool → Sto → Prop
  | true, S => Wp (evT F b ρ S) Q
  | false, S => Q false S
def orQ (F : Orc) (b : T) (ρ : Rho) (Q : Bool → Sto → Prop) : Bool → Sto → Prop
  | true, S => Q true S
  | false, S => Wp (evT F b ρ S) Q
def notQ (Q : Bool → Sto → Prop) : Bool → Sto → Prop := fun b S => Q (!b) S
def andE (F : Orc) (b : E) (ρ : Rho) (Q : D → Sto → Prop) : D → Sto → Prop
  | .bl true, S => Wp (evE F b ρ S) Q
  | .bl false, S => Q (.bl false) S
  | _, _ => False
def orE (F : Orc) (b : E) (ρ : Rho) (Q : D → Sto → Prop) : D → Sto → Prop
  | .bl true, S => Q (.bl true) S
  | .bl false, S => Wp (evE F b ρ S) Q
  | _, _ => False
def iteE (F : Orc) (a b : E) (ρ : Rho) (Q : D → Sto → Prop) : Bool → Sto → Prop
  | true, S => Wp (evE F a ρ S) Q
  | false, S => Wp (evE F b ρ S) Q
def chT (F : Orc) (op : Cm) (y : D) (c : E) (ρ : Rho) (Q : Bool → Sto → Prop) : Bool → Sto → Prop
  | true, S => Wp (evE F c ρ S) fun z S3 => Wp (liftB (copB op y z S3) S3) Q
  | false, S => Q false S
def chE (F : Orc) (op : Cm) (y : D) (c : E) (ρ : Rho) (Q : D → Sto → Prop) : Bool → Sto → Prop
  | true, S => Wp (evE F c ρ S) fun z S3 => Wp (cop op y z S3) Q
  | false, S => Q (.bl false) S
theorem wt_and {a b : T} {Q : Bool → Sto → Prop} : Wp (evT F (.and a b) ρ S) Q = Wp (evT F a ρ S) (andQ F b ρ Q) := by
  conv => lhs; unfold evT
  rw [wp_bd]
  congr 1
  funext t S1
  cases t
  · exact wp_ok
  · rfl
theorem wt_or {a b : T} {Q : Bool → Sto → Prop} : Wp (evT F (.or a b) ρ S) Q = Wp (evT F a ρ S) (orQ F b ρ Q) := by
  conv => lhs; unfold evT
  rw [wp_bd]
  congr 1
  funext t S1
  cases t
  · rfl
  · exact wp_ok
theorem wt_one {a : T} {Q : Bool → Sto → Prop} : Wp (evT F (.one a) ρ S) Q = Wp (evT F a ρ S) Q := by
  conv => lhs; unfold evT
theorem wt_not {a : T} {Q : Bool → Sto → Prop} : Wp (evT F (.not a) ρ S) Q = Wp (evT F a ρ S) (notQ Q) := by
  conv => lhs; unfold evT
  rw [wp_bd]
  congr 1
  funext t S1
  exact wp_ok
theorem wt_yes {Q : Bool → Sto → Prop} : Wp (evT F .yes ρ S) Q = Q true S := by
  conv => lhs; unfold evT
  exact wp_ok
theorem wt_v {e : E} {Q : Bool → Sto → Prop} : Wp (evT F (.v e) ρ S) Q = Wp (evE F e ρ S) fun x S1 => ∃ b, tru x S1 = some b ∧ Q b S1 := by
  conv => lhs; unfold evT
  rw [wp_bd]
  congr 1
  funext x S1
  cases e : tru x S1 with
  | none => simp [liftB, wp_none]
  | some b => simp [liftB, wp_ok]
theorem wp_liftB {o : Option Bool} {Q : Bool → Sto → Prop} : Wp (liftB o S) Q = ∃ b, o = some b ∧ Q b S := by
  cases o with
  | none => simp [liftB, wp_none]
  | some b => simp [liftB, wp_ok]
theorem wp_lift {o : Option Bool} {Q : D → Sto → Prop} : Wp (lift o S) Q = ∃ b, o = some b ∧ Q (.bl b) S := by
  cases o with
  | none => simp [lift, wp_none]
  | some b => simp [lift, wp_ok]
theorem wp_cop {op : Cm} {x y : D} {Q : D → Sto → Prop} : Wp (cop op x y S) Q = ∃ b, copB op x y S = some b ∧ Q (.bl b) S := wp_lift
theorem wt_cmp {op : Cm} {a b : E} {Q : Bool → Sto → Prop} : Wp (evT F (.cmp op a b) ρ S) Q = Wp (evE F a ρ S) fun x S1 => Wp (evE F b ρ S1) fun y S2 => ∃ t, copB op x y S2 = some t ∧ Q t S2 := by
  conv => lhs; unfold evT
  simp only [wp_bd, wp_liftB]
theorem wt_chain {op op' : Cm} {a b c : E} {Q : Bool → Sto → Prop} : Wp (evT F (.chain op op' a b c) ρ S) Q = Wp (evE F a ρ S) fun x S1 => Wp (evE F b ρ S1) fun y S2 => ∃ t, copB op x y S2 = some t ∧ chT F op' y c ρ Q t S2 := by
  conv => lhs; unfold evT
  simp only [wp_bd]
  congr 1
  funext x S1
  congr 1
  funext y S2
  cases e : copB op x y S2 with
  | none => simp [wp_none]
  | some t => cases t <;> simp [wp_bd, wp_ok, chT]
section
variable {Q : D → Sto → Prop}
theorem we_cmp {op : Cm} {a b : E} : Wp (evE F (.cmp op a b) ρ S) Q = Wp (evE F a ρ S) fun x S1 => Wp (evE F b ρ S1) fun y S2 => ∃ t, copB op x y S2 = some t ∧ Q (.bl t) S2 := by
  conv => lhs; unfold evE
  simp only [wp_bd, wp_cop]
theorem we_chain {op op' : Cm} {a b c : E} : Wp (evE F (.chain op op' a b c) ρ S) Q = Wp (evE F a ρ S) fun x S1 => Wp (evE F b ρ S1) fun y S2 => ∃ t, copB op x y S2 = some t ∧ chE F op' y c ρ Q t S2 := by
  conv => lhs; unfold evE
  simp only [wp_bd]
  congr 1
  funext x S1
  congr 1
  funext y S2
  cases e : copB op x y S2 with
  | none => simp [wp_none]
  | some t => cases t <;> simp [wp_bd, wp_ok, chE]
theorem we_and {a b : E} : Wp (evE F (.and a b) ρ S) Q = Wp (evE F a ρ S) (andE F b ρ Q) := by
  conv => lhs; unfold evE
  rw [wp_bd]
  congr 1
  funext x S1
  cases x with
  | bl t => cases t <;> simp [wp_ok, andE]
  | _ => simp [wp_none, andE]
theorem we_or {a b : E} : Wp (evE F (.or a b) ρ S) Q = Wp (evE F a ρ S) (orE F b ρ Q) := by
  conv => lhs; unfold evE
  rw [wp_bd]
  congr 1
  funext x S1
  cases x with
  | bl t => cases t <;> simp [wp_ok, orE]
  | _ => simp [wp_none, orE]
theorem we_one {a : E} : Wp (evE F (.one a) ρ S) Q = Wp (evE F a ρ S) Q := by
  conv => lhs; unfold evE
theorem we_ite {c : T} {a b : E} : Wp (evE F (.ite c a b) ρ S) Q = Wp (evT F c ρ S) (iteE F a b ρ Q) := by
  conv => lhs; unfold evE
  rw [wp_bd]
  congr 1
  funext t S1
  cases t <;> rfl
theorem we_not {a : E} : Wp (evE F (.not a) ρ S) Q = Wp (evE F a ρ S) fun x S1 => ∃ b, x = .bl b ∧ Q (.bl (!b)) S1 := by
  conv => lhs; unfold evE
  rw [wp_bd]
  congr 1
  funext x S1
  cases x <;> simp [wp_none, wp_ok]
theorem we_neg {a : E} : Wp (evE F (.neg a) ρ S) Q = Wp (evE F a ρ S) fun x S1 => ∃ i, x = .int i ∧ Q (.int (-i)) S1 := by
  conv => lhs; unfold evE
  rw [wp_bd]
  congr 1
  funext x S1
  cases x <;> simp [wp_none, wp_ok]
theorem we_var {i : Nat} : Wp (evE F (.var i) ρ S) Q = ∃ d, ρ[i]? = some (some d) ∧ Q d S := by
  conv => lhs; unfold evE
  cases ρ[i]? with
  | none => simp [wp_none]
  | some o => cases o <;> simp [wp_none, wp_ok]
theorem we_non : Wp (evE F .non ρ S) Q = Q .non S := by
  conv => lhs; unfold evE
  exact wp_ok
theorem we_bl {b : Bool} : Wp (evE F (.bl b) ρ S) Q = Q (.bl b) S := by
  conv => lhs; unfold evE
  exact wp_ok
theorem we_int {i : Int} : Wp (evE F (.int i) ρ S) Q = Q (.int i) S := by
  conv => lhs; unfold evE
  exact wp_ok
theorem we_str {x : Str} : Wp (evE F (.str x) ρ S) Q = Q (.str x) S := by
  conv => lhs; unfold evE
  exact wp_ok
theorem we_gc {x : Str} {d : D} : Wp (evE F (.gc x d) ρ S) Q = Q d S := by
  conv => lhs; unfold evE
  exact wp_ok
theorem we_tup {es : Es} : Wp (evE F (.tup es) ρ S) Q = Wp (evEs F es ρ S) fun ds S1 => Q (.tup ds) S1 := by
  conv => lhs; unfold evE
  simp only [wp_bd, wp_ok]
theorem we_lst {es : Es} : Wp (evE F (.lst es) ρ S) Q = Wp (evEs F es ρ S) fun ds S1 => Q (.ref S1.length) (S1 ++ [.lst ds]) := by
  conv => lhs; unfold evE
  simp only [wp_bd, wp_ok]
theorem we_bin {op : Op2} {a b : E} : Wp (evE F (.bin op a b) ρ S) Q = Wp (evE F a ρ S) fun x S1 => Wp (evE F b ρ S1) fun y S2 => Wp (bop op x y S2) Q := by
  conv => lhs; unfold evE
  simp only [wp_bd]
theorem we_idx {a i : E} : Wp (evE F (.idx a i) ρ S) Q = Wp (evE F a ρ S) fun x S1 => Wp (evE F i ρ S1) fun y S2 => Wp (idxD x y S2) Q := by
  conv => lhs; unfold evE
  simp only [wp_bd]
theorem we_sl {a : E} {lo hi : P} : Wp (evE F (.sl a lo hi) ρ S) Q = Wp (evE F a ρ S) fun x S1 => Wp (evP F lo ρ S1) fun l S2 => Wp (evP F hi ρ S2) fun h S3 => Wp (slD x l h S3) Q := by
  conv => lhs; unfold evE
  simp only [wp_bd]
theorem we_rev {a : E} : Wp (evE F (.rev a) ρ S) Q = Wp (evE F a ρ S) fun x S1 => Wp (revD x S1) Q := by
  conv => lhs; unfold evE
  simp only [wp_bd]
theorem we_call {f : Nat} {es : Es} : Wp (evE F (.call f es) ρ S) Q = Wp (evEs F es ρ S) fun ds S1 => Wp (F.call f ds S1) Q := by
  conv => lhs; unfold evE
  simp only [wp_bd]
theorem we_bi {b : Bi} {es : Es} : Wp (evE F (.bi b es) ρ S) Q = Wp (evEs F es ρ S) fun ds S1 => Wp (biD b ds S1) Q := by
  conv => lhs; unfold evE
  simp only [wp_bd]
theorem we_bm {m : Bm} {o : E} {es : Es} : Wp (evE F (.bm m o es) ρ S) Q = Wp (evE F o ρ S) fun x S1 => bmTy m x S1 = true ∧ Wp (evEs F es ρ S1) fun ds S2 => Wp (bmD m x ds S2) Q := by
  conv => lhs; unfold evE
  rw [wp_bd]
  congr 1
  funext x S1
  cases bmTy m x S1 <;> simp [wp_none, wp_bd]
theorem we_isi {a : E} {t : Ty} : Wp (evE F (.isi a t) ρ S) Q = Wp (evE F a ρ S) fun x S1 => ∃ b, isiD t x S1 = some b ∧ Q (.bl b) S1 := by
  conv => lhs; unfold evE
  simp only [wp_bd, wp_lift]
theorem we_lrg {a : E} : Wp (evE F (.lrg a) ρ S) Q = Wp (evE F a ρ S) fun x S1 => ∃ j : Int, x = .int j ∧ (-(2 ^ 62) ≤ j ∧ j < 2 ^ 62 ∧ j.toNat ≤ 2 ^ 24) ∧ Q (.ref S1.length) (S1 ++ [.lst ((List.range j.toNat).map fun (k : Nat) => .int k)]) := by
  conv => lhs; unfold evE
  rw [wp_bd]
  congr 1
  funext x S1
  cases x <;> simp [wp_none, wp_ok]
  rename_i j
  by_cases h : -4611686018427387904 ≤ j ∧ j < 4611686018427387904 ∧ j ≤ 16777216
  · simp [h, wp_ok]
  · simp [h, wp_none]
theorem we_lc {elt : E} {tg : Tg} {it : I} {c : T} {own : List (Str × Nat)} : Wp (evE F (.lc elt tg it c own) ρ S) Q = Wp (evI F it ρ S) fun i S1 => Wp (bd (foldI (lcF F elt tg c (own.map (·.2)) ρ) i [] S1) lcEnd) Q := by
  rw [evE_lc, wp_bd]
theorem wa_nil {Q : List D → Sto → Prop} : Wp (evEs F .nil ρ S) Q = Q [] S := by
  conv => lhs; unfold evEs
  exact wp_ok
theorem wa_cons {e : E} {es : Es} {Q : List D → Sto → Prop} : Wp (evEs F (.cons e es) ρ S) Q = Wp (evE F e ρ S) fun d S1 => Wp (evEs F es ρ S1) fun ds S2 => Q (d :: ds) S2 := by
  conv => lhs; unfold evEs
  simp only [wp_bd, wp_ok]
theorem wo_no {Q : Option Int → Sto → Prop} : Wp (evP F .no ρ S) Q = Q none S := by
  conv => lhs; unfold evP
  exact wp_ok
theorem wo_e {e : E} {Q : Option Int → Sto → Prop} : Wp (evP F (.e e) ρ S) Q = Wp (evE F e ρ S) fun x S1 => ∃ i, x = .int i ∧ Q (some i) S1 := by
  conv => lhs; unfold evP
  rw [wp_bd]
  congr 1
  funext x S1
  cases x <;> simp [wp_none, wp_ok]
/-- what a value is walked as -/
def enumI (x : D) (S : Sto) : Option It := match x with
  | .tup ds => some (.fix (enumL 0 ds))
  | .ref n => match S[n]? with
    | some (.lst _) => some (.dyn n .enum)
    | _ => none
  | _ => none
def zipI (x y : D) (S : Sto) : Option It := match x, y with
  | .tup ds, .ref n => match S[n]? with
    | some (.lst es) => some (.dyn n (.zip ds es.length))
    | _ => none
  | _, _ => none
def seqI (x : D) (S : Sto) : Option It := match x with
  | .tup ds => some (.fix ds)
  | .fz ds => some (.fix ds)
  | .str z => some (.fix (z.cps.toList.map fun c => .str ⟨#[c]⟩))
  | .ref n => match S[n]? with
    | some (.lst _) => some (.dyn n .plain)
    | _ => none
  | _ => none
theorem wi_seq {e : E} {Q : It → Sto → Prop} : Wp (evI F (.seq e) ρ S) Q = Wp (evE F e ρ S) fun x S1 => ∃ i, seqI x S1 = some i ∧ Q i S1 := by
  conv => lhs; unfold evI
  rw [wp_bd]
  congr 1
  funext x S1
  cases x <;> simp [wp_none, wp_ok, seqI]
  rename_i n
  cases S1[n]? with
  | none => simp [wp_none]
  | some o => cases o <;> simp [wp_none, wp_ok]
theorem wi_rng1 {a : E} {Q : It → Sto → Prop} : Wp (evI F (.rng1 a) ρ S) Q = Wp (evE F a ρ S) fun x S1 => ∃ j : Int, x = .int j ∧ (-(2 ^ 62) ≤ j ∧ j < 2 ^ 62) ∧ Q (.fix ((List.range j.toNat).map fun (k : Nat) => .int k)) S1 := by
  conv => lhs; unfold evI
  rw [wp_bd]
  congr 1
  funext x S1
  cases x <;> simp [wp_none, wp_ok]
  rename_i j
  by_cases h : -4611686018427387904 ≤ j ∧ j < 4611686018427387904
  · simp [h, wp_ok]
  · simp [h, wp_none]
theorem wi_rng2 {a b : E} {Q : It → Sto → Prop} : Wp (evI F (.rng2 a b) ρ S) Q = Wp (evE F a ρ S) fun x S1 => Wp (evE F b ρ S1) fun y S2 => ∃ i j : Int, x = .int i ∧ y = .int j ∧ (-(2 ^ 62) ≤ i ∧ i < 2 ^ 62 ∧ -(2 ^ 62) ≤ j ∧ j < 2 ^ 62) ∧ Q (.fix ((List.range (j - i).toNat).map fun (k : Nat) => .int (i + k))) S2 := by
  conv => lhs; unfold evI
  simp only [wp_bd]
  congr 1
  funext x S1
  congr 1
  funext y S2
  cases x <;> cases y <;> simp [wp_none, wp_ok]
  rename_i i j
  by_cases h : -4611686018427387904 ≤ i ∧ i < 4611686018427387904 ∧ -4611686018427387904 ≤ j ∧ j < 4611686018427387904
  · simp [h, wp_ok]
  · simp [h, wp_none]
end
end
/-! ### operations -/
def optD (o : Option D) (S : Sto) : Out D := match o with
  | some d => ok d S
  | none => none
section
variable {S : Sto} {i j : Int} {x y : Str} {α : Type} {Q : D → Sto → Prop} {n : Nat} {ds : List D}
theorem wp_optD {o : Option D} : Wp (optD o S) Q = ∃ d, o = some d ∧ Q d S := by
  cases o with
  | none => simp [optD, wp_none]
  | some b => simp [optD, wp_ok]
theorem wp_ifn {c : Prop} [Decidable c] {β : Type} {o : Out β} {Q : β → Sto → Prop} : Wp (if c then o else none) Q = (c ∧ Wp o Q) := by
  by_cases h : c <;> simp [h, wp_none]
theorem eqD_int : eqD (.int i) (.int j) S = some (i == j) := rfl
theorem eqD_str : eqD (.str x) (.str y) S = some (x == y) := rfl
theorem eqD_bl {a b : Bool} : eqD (.bl a) (.bl b) S = some (a == b) := rfl
theorem copB_eq {a b : D} : copB .eq a b S = eqD a b S := rfl
theorem copB_ne {a b : D} : copB .ne a b S = (eqD a b S).map (!·) := rfl
theorem copB_lt : copB .lt (.int i) (.int j) S = some (decide (i < j)) := rfl
theorem copB_le : copB .le (.int i) (.int j) S = some (decide (i ≤ j)) := rfl
theorem copB_gt : copB .gt (.int i) (.int j) S = some (decide (j < i)) := rfl
theorem copB_ge : copB .ge (.int i) (.int j) S = some (decide (j ≤ i)) := rfl
def isNon : D → Bool
  | .non => true
  | _ => false
theorem copB_is {a : D} : copB .is a .non S = some (isNon a) := by cases a <;> rfl
theorem copB_isnot {a : D} : copB .isnot a .non S = some (!isNon a) := by cases a <;> rfl
theorem copB_in {a b : D} : copB .inn a b S = inD a b S := rfl
theorem copB_notin {a b : D} : copB .notin a b S = (inD a b S).map (!·) := rfl
/-- the list at a place of the store -/
def lstAt (S : Sto) (n : Nat) : Option (List D) := match S[n]? with
  | some (.lst ds) => some ds
  | _ => none
theorem lstAt_some {S : Sto} {n : Nat} {ds : List D} (h : S[n]? = some (.lst ds)) : lstAt S n = some ds := by unfold lstAt; rw [h]
theorem wi_idx_ref : Wp (idxD (.ref n) (.int i) S) Q = ∃ ds, lstAt S n = some ds ∧ ∃ d, L2.atI ds i = some d ∧ Q d S := by
  unfold idxD lstAt
  cases e : S[n]? with
  | none => simp [e, wp_none]
  | some o =>
    cases o with
    | lst ds => cases e3 : L2.atI ds i <;> simp [e, e3, wp_none, wp_ok]
    | _ => simp [e, wp_none]
theorem wi_idx_tup : Wp (idxD (.tup ds) (.int i) S) Q = ∃ d, L2.atI ds i = some d ∧ Q d S := by
  unfold idxD
  cases e : L2.atI ds i <;> simp [e, wp_none, wp_ok]
theorem wi_idx_str : Wp (idxD (.str x) (.int i) S) Q = (x.length ≤ sizeLine ∧ ∃ c, L2.atI x.cps.toList i = some c ∧ Q (.str ⟨#[c]⟩) S) := by
  unfold idxD
  by_cases h : x.length ≤ sizeLine
  · cases e : L2.atI x.cps.toList i <;> simp [h, e, wp_none, wp_ok]
  · simp [h, wp_none]
theorem ws_ref {lo hi : Option Int} : Wp (slD (.ref n) lo hi S) Q = ∃ ds, lstAt S n = some ds ∧ Q (.ref S.length) (S ++ [.lst (cutL ds lo hi)]) := by
  unfold slD itemsOf lstAt
  cases e : S[n]? with
  | none => simp [e, wp_none]
  | some o => cases o <;> simp [e, wp_none, wp_ok]
theorem ws_tup {lo hi : Option Int} : Wp (slD (.tup ds) lo hi S) Q = Q (.tup (cutL ds lo hi)) S := by
  unfold slD
  simp [wp_ok]
theorem ws_str {lo hi : Option Int} : Wp (slD (.str x) lo hi S) Q = (x.length ≤ sizeLine ∧ Q (.str (L2.cutS x lo hi)) S) := by
  unfold slD
  by_cases h : x.length ≤ sizeLine <;> simp [h, wp_none, wp_ok]
theorem wr_ref : Wp (revD (.ref n) S) Q = ∃ ds, lstAt S n = some ds ∧ Q (.ref S.length) (S ++ [.lst ds.reverse]) := by
  unfold revD itemsOf lstAt
  cases e : S[n]? with
  | none => simp [e, wp_none]
  | some o => cases o <;> simp [e, wp_none, wp_ok]
theorem wl_ref : Wp (biD .len [.ref n] S) Q = ∃ ds, lstAt S n = some ds ∧ Q (.int ds.length) S := by
  unfold biD lenD itemsOf lstAt
  cases e : S[n]? with
  | none => simp [e, wp_none]
  | some o => cases o <;> simp [e, wp_none, wp_ok]
theorem wl_tup : Wp (biD .len [.tup ds] S) Q = Q (.int ds.length) S := by
  unfold biD lenD itemsOf
  simp [wp_ok]
theorem wl_fz : Wp (biD .len [.fz ds] S) Q = Q (.int ds.length) S := by
  unfold biD lenD itemsOf
  simp [wp_ok]
theorem wl_str : Wp (biD .len [.str x] S) Q = (x.length ≤ sizeLine ∧ Q (.int x.length) S) := by
  unfold biD lenD
  by_cases h : x.length ≤ sizeLine <;> simp [h, wp_none, wp_ok]
theorem wtup_ref : Wp (biD .tuple [.ref n] S) Q = ∃ ds, lstAt S n = some ds ∧ Q (.tup ds) S := by
  unfold biD itemsOf lstAt
  cases e : S[n]? with
  | none => simp [e, wp_none]
  | some o => cases o <;> simp [e, wp_none, wp_ok]
theorem wtup_tup : Wp (biD .tuple [.tup ds] S) Q = Q (.tup ds) S := by
  unfold biD
  simp [wp_ok]
theorem wlist_ref : Wp (biD .list [.ref n] S) Q = ∃ ds, lstAt S n = some ds ∧ Q (.ref S.length) (S ++ [.lst ds]) := by
  unfold biD itemsOf lstAt
  cases e : S[n]? with
  | none => simp [e, wp_none]
  | some o => cases o <;> simp [e, wp_none, wp_ok]
theorem wlist_tup : Wp (biD .list [.tup ds] S) Q = Q (.ref S.length) (S ++ [.lst ds]) := by
  unfold biD itemsOf
  simp [wp_ok]
theorem wapp {d : D} : Wp (bmD .append (.ref n) [d] S) Q = ∃ ds, lstAt S n = some ds ∧ ds.length < sizeLine ∧ Q .non (S.set n (.lst (ds ++ [d]))) := by
  unfold bmD lstAt
  cases e : S[n]? with
  | none => simp [e, wp_none]
  | some o =>
    cases o with
    | lst ds => by_cases h : ds.length < sizeLine <;> simp [e, h, wp_none, wp_ok]
    | _ => simp [e, wp_none]
theorem bmTy_ref {m : Bm} : bmTy m (.ref n) S = true ↔ ∃ ds, lstAt S n = some ds := by
  unfold bmTy lstAt
  cases e : S[n]? with
  | none => simp [e]
  | some o => cases o <;> simp [e]
theorem wsub : Wp (bop .sub (.int i) (.int j) S) Q = Q (.int (i - j)) S := wp_ok
theorem wadd : Wp (bop .add (.int i) (.int j) S) Q = Q (.int (i + j)) S := wp_ok
theorem wmul : Wp (bop .mul (.int i) (.int j) S) Q = (((-(2 ^ 64) < i ∧ i < 2 ^ 64) ∨ (-(2 ^ 64) < j ∧ j < 2 ^ 64)) ∧ Q (.int (i * j)) S) := by
  unfold bop
  simp only [wp_ifn, wp_ok]
theorem wfdiv : Wp (bop .fdiv (.int i) (.int j) S) Q = ((0 < j ∧ j < 1073741824) ∧ Q (.int (i / j)) S) := by
  unfold bop
  simp only [wp_ifn, wp_ok]
theorem wmod : Wp (bop .mod (.int i) (.int j) S) Q = (0 < j ∧ Q (.int (i % j)) S) := by
  unfold bop
  simp only [wp_ifn, wp_ok]
theorem wpow : Wp (bop .pow (.int i) (.int j) S) Q = ((0 ≤ j ∧ j ≤ 1000000 ∧ i.natAbs < 2 ^ 64) ∧ Q (.int (i ^ j.toNat)) S) := by
  unfold bop
  simp only [wp_ifn, wp_ok]
theorem wadd_str : Wp (bop .add (.str x) (.str y) S) Q = (x.length + y.length ≤ sizeLine ∧ Q (.str (x ++ y)) S) := by
  unfold bop
  simp only [wp_ifn, wp_ok]
theorem wadd_tup {es : List D} : Wp (bop .add (.tup ds) (.tup es) S) Q = (ds.length + es.length ≤ sizeLine ∧ Q (.tup (ds ++ es)) S) := by
  unfold bop
  simp only [wp_ifn, wp_ok]
theorem wadd_ref {m : Nat} : Wp (bop .add (.ref n) (.ref m) S) Q = ∃ xs, lstAt S n = some xs ∧ ∃ ys, lstAt S m = some ys ∧ xs.length + ys.length ≤ sizeLine ∧ Q (.ref S.length) (S ++ [.lst (xs ++ ys)]) := by
  unfold bop lstAt
  cases e : S[n]? with
  | none => simp [e, wp_none]
  | some o =>
    cases o with
    | lst xs =>
      cases e2 : S[m]? with
      | none => simp [e, e2, wp_none]
      | some o =>
        cases o with
        | lst ys => by_cases h : xs.length + ys.length ≤ sizeLine <;> simp [e, e2, h, wp_none, wp_ok]
        | _ => simp [e, e2, wp_none]
    | _ => simp [e, wp_none]
theorem wmul_str : Wp (bop .mul (.str x) (.int i) S) Q = ((0 ≤ i ∧ i ≤ 1000 ∧ x.length ≤ 1000) ∧ Q (.str ⟨(List.replicate i.toNat x.cps.toList).flatten.toArray⟩) S) := by
  unfold bop
  simp only [wp_ifn, wp_ok]
theorem waug_add : Wp (augD .add (.int i) (.int j) S) Q = Q (.int (i + j)) S := wp_ok
theorem waug_sub : Wp (augD .sub (.int i) (.int j) S) Q = Q (.int (i - j)) S := wp_ok
theorem seti_ref {v : D} {S4 : Sto} : setiD (.ref n) (.int i) v S = some S4 ↔ ∃ ds, lstAt S n = some ds ∧ ∃ j, L2.ixN ds.length i = some j ∧ S.set n (.lst (ds.set j v)) = S4 := by
  unfold setiD lstAt
  cases e : S[n]? with
  | none => simp [e]
  | some o =>
    cases o with
    | lst ds => cases e2 : L2.ixN ds.length i <;> simp [e, e2]
    | _ => simp [e]
theorem seqI_tup : seqI (.tup ds) S = some (.fix ds) := rfl
theorem seqI_fz : seqI (.fz ds) S = some (.fix ds) := rfl
theorem seqI_str : seqI (.str x) S = some (.fix (x.cps.toList.map fun c => .str ⟨#[c]⟩)) := rfl
theorem seqI_ref {i : It} : seqI (.ref n) S = some i ↔ ∃ ds, lstAt S n = some ds ∧ i = .dyn n .plain := by
  unfold seqI lstAt
  cases e : S[n]? with
  | none => simp [e]
  | some o => cases o <;> simp [e, eq_comm]
theorem tru_bl {b : Bool} : tru (.bl b) S = some b := rfl
theorem tru_int : tru (.int i) S = some (i != 0) := rfl
theorem tru_non : tru .non S = some false := rfl
theorem atI_ofNat (xs : List α) (n : Nat) : L2.atI xs (no_index (OfNat.ofNat n) : Int) = xs[n]? := by
  unfold L2.atI L2.ixN
  have h0 : (0 : Int) ≤ (OfNat.ofNat n : Int) := Int.natCast_nonneg n
  rw [if_pos h0]
  by_cases h : (OfNat.ofNat n : Int) < (xs.length : Int)
  · rw [if_pos h]
    rfl
  · rw [if_neg h]
    have : xs.length ≤ n := by
      have h' : ¬ ((n : Int) < (xs.length : Int)) := h
      omega
    exact (List.getElem?_eq_none this).symm
theorem atI_cast (xs : List α) (n : Nat) : L2.atI xs (n : Int) = xs[n]? := atI_ofNat xs n
theorem ixN_ofNat (m n : Nat) : L2.ixN m (no_index (OfNat.ofNat n) : Int) = if n < m then some n else none := by
  unfold L2.ixN
  have h0 : (0 : Int) ≤ (OfNat.ofNat n : Int) := Int.natCast_nonneg n
  rw [if_pos h0]
  by_cases h : n < m
  · rw [if_pos h, if_pos (show ((OfNat.ofNat n : Int) < (m : Int)) from (show ((n : Int) < (m : Int)) by omega))]
    rfl
  · rw [if_neg h, if_neg (show ¬ ((OfNat.ofNat n : Int) < (m : Int)) from (show ¬ ((n : Int) < (m : Int)) by omega))]
end
section
variable {F : Orc} {cs a b : Cs} {ρ : Rho} {S : Sto} {d : D}
theorem seqQ_nx {Q : Fl → Sto → Prop} : seqQ F cs Q (.nx ρ) S = Wp (exCs F cs ρ S) Q := rfl
theorem seqQ_brk {Q : Fl → Sto → Prop} : seqQ F cs Q (.brk ρ) S = Q (.brk ρ) S := rfl
theorem seqQ_cnt {Q : Fl → Sto → Prop} : seqQ F cs Q (.cnt ρ) S = Q (.cnt ρ) S := rfl
theorem seqQ_ret {Q : Fl → Sto → Prop} : seqQ F cs Q (.ret d) S = Q (.ret d) S := rfl
theorem ifQ_t {Q : Fl → Sto → Prop} : ifQ F a b ρ Q true S = Wp (exCs F a ρ S) Q := rfl
theorem ifQ_f {Q : Fl → Sto → Prop} : ifQ F a b ρ Q false S = Wp (exCs F b ρ S) Q := rfl
theorem retQ_ret {Q : D → Sto → Prop} : retQ Q (.ret d) S = Q d S := rfl
theorem retQ_nx {Q : D → Sto → Prop} : retQ Q (.nx ρ) S = Q .non S := rfl
theorem andQ_t {b : T} {Q : Bool → Sto → Prop} : andQ F b ρ Q true S = Wp (evT F b ρ S) Q := rfl
theorem andQ_f {b : T} {Q : Bool → Sto → Prop} : andQ F b ρ Q false S = Q false S := rfl
theorem orQ_t {b : T} {Q : Bool → Sto → Prop} : orQ F b ρ Q true S = Q true S := rfl
theorem orQ_f {b : T} {Q : Bool → Sto → Prop} : orQ F b ρ Q false S = Wp (evT F b ρ S) Q := rfl
theorem notQ_ {t : Bool} {Q : Bool → Sto → Prop} : notQ Q t S = Q (!t) S := rfl
theorem andE_t {b : E} {Q : D → Sto → Prop} : andE F b ρ Q (.bl true) S = Wp (evE F b ρ S) Q := rfl
theorem andE_f {b : E} {Q : D → Sto → Prop} : andE F b ρ Q (.bl false) S = Q (.bl false) S := rfl
theorem orE_t {b : E} {Q : D → Sto → Prop} : orE F b ρ Q (.bl true) S = Q (.bl true) S := rfl
theorem orE_f {b : E} {Q : D → Sto → Prop} : orE F b ρ Q (.bl false) S = Wp (evE F b ρ S) Q := rfl
theorem iteE_t {a b : E} {Q : D → Sto → Prop} : iteE F a b ρ Q true S = Wp (evE F a ρ S) Q := rfl
theorem iteE_f {a b : E} {Q : D → Sto → Prop} : iteE F a b ρ Q false S = Wp (evE F b ρ S) Q := rfl
theorem chT_t {op : Cm} {y : D} {c : E} {Q : Bool → Sto → Prop} : chT F op y c ρ Q true S = Wp (evE F c ρ S) fun z S3 => ∃ t, copB op y z S3 = some t ∧ Q t S3 := by
  unfold chT
  simp only [wp_liftB]
theorem chT_f {op : Cm} {y : D} {c : E} {Q : Bool → Sto → Prop} : chT F op y c ρ Q false S = Q false S := rfl
theorem chE_t {op : Cm} {y : D} {c : E} {Q : D → Sto → Prop} : chE F op y c ρ Q true S = Wp (evE F c ρ S) fun z S3 => ∃ t, copB op y z S3 = some t ∧ Q (.bl t) S3 := by
  unfold chE
  simp only [wp_cop]
theorem chE_f {op : Cm} {y : D} {c : E} {Q : D → Sto → Prop} : chE F op y c ρ Q false S = Q (.bl false) S := rfl
theorem forQ_nx {I : Rho → Sto → Prop} {Q : Fl → Sto → Prop} : forQ I Q (.nx ρ) S = I ρ S := rfl
theorem forQ_cnt {I : Rho → Sto → Prop} {Q : Fl → Sto → Prop} : forQ I Q (.cnt ρ) S = I ρ S := rfl
theorem forQ_brk {I : Rho → Sto → Prop} {Q : Fl → Sto → Prop} : forQ I Q (.brk ρ) S = Q (.nx ρ) S := rfl
theorem forQ_ret {I : Rho → Sto → Prop} {Q : Fl → Sto → Prop} : forQ I Q (.ret d) S = Q (.ret d) S := rfl
theorem isNon_non : isNon .non = true := rfl
theorem isNon_int {i : Int} : isNon (.int i) = false := rfl
theorem isNon_tup {ds : List D} : isNon (.tup ds) = false := rfl
theorem isNon_str {x : Str} : isNon (.str x) = false := rfl
theorem isNon_ref {n : Nat} : isNon (.ref n) = false := rfl
theorem bindT_nm {i : Nat} : bindT (.nm i) d ρ = some (ρ.set i (some d)) := rfl
theorem bindT_tp {is : List Nat} {ds : List D} : bindT (.tp is) (.tup ds) ρ = setMany is ds ρ := rfl
theorem setMany_nil : setMany [] [] ρ = some ρ := rfl
theorem setMany_cons {i : Nat} {is : List Nat} {ds : List D} : setMany (i :: is) (d :: ds) ρ = setMany is ds (ρ.set i (some d)) := rfl
end
/-! ### the store -/
section
variable {S T : Sto} {n m : Nat} {ds es : List D}
theorem lstAt_get : lstAt S n = some ds ↔ S[n]? = some (.lst ds) := by
  unfold lstAt
  cases e : S[n]? with
  | none => simp
  | some o => cases o <;> simp
theorem lstAt_lt (h : lstAt S n = some ds) : n < S.length := (List.getElem?_eq_some_iff.mp (lstAt_get.mp h)).1
theorem lstAt_set (h : n < S.length) : lstAt (S.set n (.lst ds)) n = some ds := by
  rw [lstAt_get, List.getElem?_set_self h]
theorem lstAt_set_ne (h : m ≠ n) (o : O) : lstAt (S.set n o) m = lstAt S m := by
  unfold lstAt
  rw [List.getElem?_set_ne (Ne.symm h)]
theorem lstAt_app (h : n < S.length) : lstAt (S ++ T) n = lstAt S n := by
  unfold lstAt
  rw [List.getElem?_append_left h]
theorem lstAt_new : lstAt (S ++ [.lst ds]) S.length = some ds := by
  rw [lstAt_get]
  simp
theorem lstAt_newE (h : n = S.length) : lstAt (S ++ [.lst ds]) n = some ds := by
  subst h
  exact lstAt_new
/-- all but one object as they were -/
structure Keep (b : Nat) (S S' : Sto) : Prop where
  len : S.length ≤ S'.length
  at_ : ∀ n : Nat, n < S.length → n ≠ b → S'[n]? = S[n]?
theorem Keep.refl (b : Nat) (S : Sto) : Keep b S S := ⟨Nat.le_refl _, fun _ _ _ => rfl⟩
theorem Keep.trans {b : Nat} {S1 S2 S3 : Sto} (h : Keep b S1 S2) (h' : Keep b S2 S3) : Keep b S1 S3 :=
  ⟨Nat.le_trans h.len h'.len, fun n hn nb => (h'.at_ n (Nat.lt_of_lt_of_le hn h.len) nb).trans (h.at_ n hn nb)⟩
theorem Keep.set (b : Nat) (S : Sto) (o : O) : Keep b S (S.set b o) := ⟨by simp, fun n _ nb => List.getElem?_set_ne (Ne.symm nb)⟩
theorem Keep.app (b : Nat) (S T : Sto) : Keep b S (S ++ T) := ⟨by simp, fun n hn _ => List.getElem?_append_left hn⟩
theorem Keep.lst {b : Nat} {S S' : Sto} (k : Keep b S S') (h : lstAt S n = some ds) (nb : n ≠ b) : lstAt S' n = some ds := by
  rw [lstAt_get] at h ⊢
  rw [k.at_ n (List.getElem?_eq_some_iff.mp h).1 nb]
  exact h
/-- all objects as they were -/
structure Ext (S S' : Sto) : Prop where
  len : S.length ≤ S'.length
  at_ : ∀ n : Nat, n < S.length → S'[n]? = S[n]?
theorem Ext.refl (S : Sto) : Ext S S := ⟨Nat.le_refl _, fun _ _ => rfl⟩
theorem Ext.trans {S1 S2 S3 : Sto} (h : Ext S1 S2) (h' : Ext S2 S3) : Ext S1 S3 :=
  ⟨Nat.le_trans h.len h'.len, fun n hn => (h'.at_ n (Nat.lt_of_lt_of_le hn h.len)).trans (h.at_ n hn)⟩
theorem Ext.app (S T : Sto) : Ext S (S ++ T) := ⟨by simp, fun n hn => List.getElem?_append_left hn⟩
theorem Ext.keep {S S' : Sto} (h : Ext S S') (b : Nat) : Keep b S S' := ⟨h.len, fun n hn _ => h.at_ n hn⟩
theorem Ext.lst {S S' : Sto} (k : Ext S S') (h : lstAt S n = some ds) : lstAt S' n = some ds := by
  rw [lstAt_get] at h ⊢
  rw [k.at_ n (List.getElem?_eq_some_iff.mp h).1]
  exact h
/-- a new object was changed -/
theorem Ext.set {S S' : Sto} (h : Ext S S') (hn : S.length ≤ n) (o : O) : Ext S (S'.set n o) :=
  ⟨by simpa using h.len, fun m hm => by rw [List.getElem?_set_ne (by omega)]; exact h.at_ m hm⟩
theorem Keep.setN {b : Nat} {S S' : Sto} (h : Keep b S S') (hn : S.length ≤ n) (o : O) : Keep b S (S'.set n o) :=
  ⟨by simpa using h.len, fun m hm nb => by rw [List.getElem?_set_ne (by omega)]; exact h.at_ m hm nb⟩
end
section
variable {F : Orc} {ρ : Rho} {S : Sto} {t : Bool}
theorem ifQ_by {a b : Cs} {Q : Fl → Sto → Prop} (h1 : t = true → Wp (exCs F a ρ S) Q) (h2 : t = false → Wp (exCs F b ρ S) Q) : ifQ F a b ρ Q t S := by
  cases t with
  | true => exact h1 rfl
  | false => exact h2 rfl
theorem andQ_by {b : T} {Q : Bool → Sto → Prop} (h1 : t = true → Wp (evT F b ρ S) Q) (h2 : t = false → Q false S) : andQ F b ρ Q t S := by
  cases t with
  | true => exact h1 rfl
  | false => exact h2 rfl
theorem orQ_by {b : T} {Q : Bool → Sto → Prop} (h1 : t = true → Q true S) (h2 : t = false → Wp (evT F b ρ S) Q) : orQ F b ρ Q t S := by
  cases t with
  | true => exact h1 rfl
  | false => exact h2 rfl
theorem andE_by {b : E} {Q : D → Sto → Prop} (h1 : t = true → Wp (evE F b ρ S) Q) (h2 : t = false → Q (.bl false) S) : andE F b ρ Q (.bl t) S := by
  cases t with
  | true => exact h1 rfl
  | false => exact h2 rfl
theorem orE_by {b : E} {Q : D → Sto → Prop} (h1 : t = true → Q (.bl true) S) (h2 : t = false → Wp (evE F b ρ S) Q) : orE F b ρ Q (.bl t) S := by
  cases t with
  | true => exact h1 rfl
  | false => exact h2 rfl
theorem iteE_by {a b : E} {Q : D → Sto → Prop} (h1 : t = true → Wp (evE F a ρ S) Q) (h2 : t = false → Wp (evE F b ρ S) Q) : iteE F a b ρ Q t S := by
  cases t with
  | true => exact h1 rfl
  | false => exact h2 rfl
theorem chT_by {op : Cm} {y : D} {c : E} {Q : Bool → Sto → Prop} (h1 : t = true → Wp (evE F c ρ S) fun z S3 => ∃ t, copB op y z S3 = some t ∧ Q t S3) (h2 : t = false → Q false S) : chT F op y c ρ Q t S := by
  cases t with
  | true => rw [chT_t]; exact h1 rfl
  | false => exact h2 rfl
end
theorem cut_from1 {α : Type} (x : α) (xs : List α) : cutL (x :: xs) (some 1) none = xs := by
  unfold cutL
  have e1 : HT.sIx (x :: xs).length 0 (some 1) = 1 := by
    show HT.sIx (x :: xs).length 0 (some ((1 : Nat) : Int)) = 1
    rw [HT.sIx_nat]
    simp
  rw [e1, HT.sIx_none]
  simp
theorem sIx_cast (n d k : Nat) : HT.sIx n d (some (k : Int)) = min k n := HT.sIx_nat n d k
theorem cut_to {α : Type} (xs : List α) (k : Nat) : cutL xs none (some (k : Int)) = xs.take k := by
  unfold cutL
  rw [HT.sIx_none, HT.sIx_nat, List.drop_zero, Nat.sub_zero]
  by_cases h : k ≤ xs.length
  · rw [Nat.min_eq_left h]
  · rw [Nat.min_eq_right (by omega), List.take_of_length_le (Nat.le_refl _), List.take_of_length_le (by omega)]
theorem cut_from {α : Type} (xs : List α) (k : Nat) : cutL xs (some (k : Int)) none = xs.drop k := by
  unfold cutL
  rw [HT.sIx_none, HT.sIx_nat]
  by_cases h : k ≤ xs.length
  · rw [Nat.min_eq_left h, List.take_of_length_le (by simp)]
  · rw [Nat.min_eq_right (by omega), List.drop_of_length_le (by omega), List.drop_of_length_le (by omega)]
    simp
theorem cut_fromL {α : Type} (xs : List α) (n : Nat) : cutL xs (some (no_index (OfNat.ofNat n) : Int)) none = xs.drop n := cut_from xs n
theorem cut_toL {α : Type} (xs : List α) (n : Nat) : cutL xs none (some (no_index (OfNat.ofNat n) : Int)) = xs.take n := cut_to xs n
/-! ### dicts with text keys and tuple keys, as the store has them -/
def dicAt (S : Sto) (n : Nat) : Option (List (L2.Key × D)) := match S[n]? with
  | some (.dic kvs) => some kvs
  | _ => none
def ditAt (S : Sto) (n : Nat) : Option (List (List L2.Key × D)) := match S[n]? with
  | some (.dit kvs) => some kvs
  | _ => none
section
variable {S T : Sto} {n m : Nat} {Q : D → Sto → Prop} {x : Str} {v : D} {kvs : List (L2.Key × D)} {kvt : List (List L2.Key × D)} {ds : List D}
theorem dicAt_get : dicAt S n = some kvs ↔ S[n]? = some (.dic kvs) := by
  unfold dicAt
  cases S[n]? with
  | none => simp
  | some o => cases o <;> simp
theorem ditAt_get : ditAt S n = some kvt ↔ S[n]? = some (.dit kvt) := by
  unfold ditAt
  cases S[n]? with
  | none => simp
  | some o => cases o <;> simp
theorem dicAt_lt (h : dicAt S n = some kvs) : n < S.length := (List.getElem?_eq_some_iff.mp (dicAt_get.mp h)).1
theorem ditAt_lt (h : ditAt S n = some kvt) : n < S.length := (List.getElem?_eq_some_iff.mp (ditAt_get.mp h)).1
theorem dicAt_set (h : n < S.length) : dicAt (S.set n (.dic kvs)) n = some kvs := by
  rw [dicAt_get, List.getElem?_set_self h]
theorem ditAt_set (h : n < S.length) : ditAt (S.set n (.dit kvt)) n = some kvt := by
  rw [ditAt_get, List.getElem?_set_self h]
theorem dicAt_set_ne (h : m ≠ n) (o : O) : dicAt (S.set n o) m = dicAt S m := by unfold dicAt; rw [List.getElem?_set_ne (Ne.symm h)]
theorem ditAt_set_ne (h : m ≠ n) (o : O) : ditAt (S.set n o) m = ditAt S m := by unfold ditAt; rw [List.getElem?_set_ne (Ne.symm h)]
theorem dicAt_app (h : n < S.length) : dicAt (S ++ T) n = dicAt S n := by unfold dicAt; rw [List.getElem?_append_left h]
theorem ditAt_app (h : n < S.length) : ditAt (S ++ T) n = ditAt S n := by unfold ditAt; rw [List.getElem?_append_left h]
theorem dicAt_newE (h : n = S.length) : dicAt (S ++ [.dic kvs]) n = some kvs := by
  subst h
  rw [dicAt_get, List.getElem?_append_right (Nat.le_refl _)]
  simp
theorem ditAt_newE (h : n = S.length) : ditAt (S ++ [.dit kvt]) n = some kvt := by
  subst h
  rw [ditAt_get, List.getElem?_append_right (Nat.le_refl _)]
  simp
/-- d["x"] of a dict that may have tuple keys only where none is a text -/
theorem dgetD_str : dgetD S n (.str x) = (dicAt S n).map fun kvs => lkD kvs (.inr x) := by
  unfold dgetD dicAt
  cases S[n]? with
  | none => rfl
  | some o => cases o <;> rfl
theorem dgetD_tup : dgetD S n (.tup ds) = (ditAt S n).bind fun kvs => (keysD ds).map (lkD kvs) := by
  unfold dgetD ditAt
  cases S[n]? with
  | none => rfl
  | some o => cases o <;> rfl
theorem wd_str : Wp (idxD (.ref n) (.str x) S) Q = ∃ kvs, dicAt S n = some kvs ∧ ∃ d, lkD kvs (.inr x) = some d ∧ Q d S := by
  unfold idxD
  simp only [dgetD_str]
  cases dicAt S n with
  | none => simp [wp_none]
  | some kvs => cases e : lkD kvs (.inr x) <;> simp [e, wp_none, wp_ok]
theorem setd_str {S4 : Sto} : setiD (.ref n) (.str x) v S = some S4 ↔ ∃ kvs, dicAt S n = some kvs ∧ kvs.length < sizeLine ∧ S.set n (.dic (putD kvs (.inr x) v)) = S4 := by
  unfold setiD dputD dicAt
  cases e : S[n]? with
  | none => simp [e]
  | some o => cases o <;> simp [keyD, tkD, e]
theorem setd_tup {S4 : Sto} : setiD (.ref n) (.tup ds) v S = some S4 ↔ ∃ kvs, ditAt S n = some kvs ∧ ∃ k, keysD ds = some k ∧ kvs.length < sizeLine ∧ S.set n (.dit (putD kvs k v)) = S4 := by
  unfold setiD dputD ditAt
  cases e0 : S[n]? with
  | none => simp [e0]
  | some o =>
    cases o with
    | dit kvs => cases e : keysD ds <;> simp [tkD, e, e0]
    | _ => simp [keyD, e0]
end
section
variable {F : Orc} {ρ : Rho} {S : Sto} {Q : D → Sto → Prop}
theorem we_dnk : Wp (evE F .dnk ρ S) Q = Q (.ref S.length) (S ++ [.dic []]) := by rw [evE]; exact wp_ok
theorem we_dnt : Wp (evE F .dnt ρ S) Q = Q (.ref S.length) (S ++ [.dit []]) := by rw [evE]; exact wp_ok
theorem we_disp {ks : List Str} {es : Es} : Wp (evE F (.disp ks es) ρ S) Q = Wp (evEs F es ρ S) fun ds S1 => ds.length = ks.length ∧ Q (.ref S1.length) (S1 ++ [.dic (disD ks ds)]) := by
  rw [evE, wp_bd]
  congr 1
  funext ds S1
  rw [wp_ifn, wp_ok]
theorem we_sm {m : Sm} {a : E} : Wp (evE F (.sm m a) ρ S) Q = Wp (evE F a ρ S) fun x S1 => Wp (smD m x S1) Q := by rw [evE, wp_bd]
theorem ws_lower {z : Str} : Wp (smD .lower (.str z) S) Q = (z.length ≤ 5592405 ∧ Q (.str (Txt.lower z)) S) := by unfold smD; simp only [wp_ifn, wp_ok]
theorem ws_upper {z : Str} : Wp (smD .upper (.str z) S) Q = (z.length ≤ 5592405 ∧ Q (.str (Txt.upper z)) S) := by unfold smD; simp only [wp_ifn, wp_ok]
theorem we_strip1 {a b : E} : Wp (evE F (.strip1 a b) ρ S) Q = Wp (evE F a ρ S) fun x S1 => ∃ z, x = .str z ∧ Wp (evE F b ρ S1) fun y S2 => Wp (stripD (.str z) y S2) Q := by
  rw [evE, wp_bd]
  congr 1
  funext x S1
  cases x <;> simp [wp_none, wp_bd]
theorem ws_strip {a b : Str} : Wp (stripD (.str a) (.str b) S) Q = (a.length ≤ sizeLine ∧ Q (.str (Txt.stripChars a b)) S) := by unfold stripD; simp only [wp_ifn, wp_ok]
theorem wi_enum {a : E} {Q : It → Sto → Prop} : Wp (evI F (.enum a) ρ S) Q = Wp (evE F a ρ S) fun x S1 => ∃ i, enumI x S1 = some i ∧ Q i S1 := by
  rw [evI, wp_bd]
  congr 1
  funext x S1
  unfold enumI
  cases x with
  | ref n =>
    cases e : S1[n]? with
    | none => simp [wp_none, e]
    | some o => cases o <;> simp [wp_none, wp_ok, e]
  | _ => simp [wp_none, wp_ok]
theorem wi_zip {a b : E} {Q : It → Sto → Prop} : Wp (evI F (.zip a b) ρ S) Q = Wp (evE F a ρ S) fun x S1 => Wp (evE F b ρ S1) fun y S2 => ∃ i, zipI x y S2 = some i ∧ Q i S2 := by
  rw [evI, wp_bd]
  congr 1
  funext x S1
  rw [wp_bd]
  congr 1
  funext y S2
  unfold zipI
  cases x with
  | tup ds =>
    cases y with
    | ref n =>
      cases e : S2[n]? with
      | none => simp [wp_none, e]
      | some o => cases o <;> simp [wp_none, wp_ok, e]
    | _ => simp [wp_none]
  | _ => simp [wp_none]
theorem enumI_tup {ds : List D} : enumI (.tup ds) S = some (.fix (enumL 0 ds)) := rfl
theorem enumI_ref {n : Nat} {i : It} : enumI (.ref n) S = some i ↔ ∃ ds, lstAt S n = some ds ∧ i = .dyn n .enum := by
  unfold enumI lstAt
  cases e : S[n]? with
  | none => simp [e]
  | some o => cases o <;> simp [eq_comm, e]
theorem zipI_tr {ds : List D} {n : Nat} {i : It} : zipI (.tup ds) (.ref n) S = some i ↔ ∃ es, lstAt S n = some es ∧ i = .dyn n (.zip ds es.length) := by
  unfold zipI lstAt
  cases e : S[n]? with
  | none => simp [e]
  | some o => cases o <;> simp [eq_comm, e]
theorem wrev_tup {ds : List D} : Wp (revD (.tup ds) S) Q = Q (.tup ds.reverse) S := by unfold revD; exact wp_ok
theorem wmul_tup {ds : List D} {i : Int} : Wp (bop .mul (.tup ds) (.int i) S) Q = ((ds ≠ [] ∧ 2 ≤ i ∧ i ≤ 1000 ∧ ds.length ≤ 1000) ∧ Q (.tup (List.replicate i.toNat ds).flatten) S) := by
  unfold bop
  simp only [wp_ifn, wp_ok]
theorem wins {n : Nat} {i : Int} {d : D} : Wp (bmD .insert (.ref n) [.int i, d] S) Q = ∃ ds, lstAt S n = some ds ∧ (ds.length < sizeLine ∧ 0 ≤ i ∧ i < 2 ^ 63) ∧ Q .non (S.set n (.lst (ds.take i.toNat ++ d :: ds.drop i.toNat))) := by
  unfold bmD lstAt
  simp only
  cases S[n]? with
  | none => simp [wp_none]
  | some o =>
    cases o with
    | lst ds => simp [wp_ifn, wp_ok]
    | _ => simp [wp_none]
end
theorem wipeR_nil {ρ : Rho} : wipeR ρ [] = ρ := rfl
theorem wipeR_cons {ρ : Rho} {v : Nat} {vs : List Nat} : wipeR ρ (v :: vs) = (wipeR ρ vs).set v none := rfl
/-! ### the same rules with what is kept shut away -/
theorem Wp.gen {α : Type} {o : Out α} {R : α → Sto → Prop} (h : ∀ Q : α → Sto → Prop, (∀ a S, R a S → Q a S) → Wp o Q) : Wp o R := h R fun _ _ z => z
theorem wp_fF {tg : Tg} {b : Rho → Sto → Out Fl} {Q : Fl → Sto → Prop} {ds : List D} {ρ : Rho} {S : Sto} (I : Nat → Rho → Sto → Prop) (h0 : I 0 ρ S)
    (hs : ∀ i d ρ S, ds[i]? = some d → I i ρ S → ∀ J : Rho → Sto → Prop, (∀ ρ S, I (i + 1) ρ S → J ρ S) → ∃ ρ1, bindT tg d ρ = some ρ1 ∧ Wp (b ρ1 S) (forQ J Q))
    (hd : ∀ ρ S, I ds.length ρ S → Q (.nx ρ) S) : Wp (bd (foldI (forStep tg b) (.fix ds) ρ S) forEnd) Q := wp_forF I h0 (fun i d ρ S e h => hs i d ρ S e h _ fun _ _ z => z) hd
theorem wp_fR {tg : Tg} {b : Rho → Sto → Out Fl} {Q : Fl → Sto → Prop} {n : Nat} {ds : List D} {ρ : Rho} {S : Sto} (I : Nat → Rho → Sto → Prop) (h0 : I 0 ρ S)
    (hl : ∀ i ρ S, I i ρ S → lstAt S n = some ds)
    (hs : ∀ i d ρ S, ds[i]? = some d → I i ρ S → ∀ J : Rho → Sto → Prop, (∀ ρ S, I (i + 1) ρ S → J ρ S) → ∃ ρ1, bindT tg d ρ = some ρ1 ∧ Wp (b ρ1 S) (forQ J Q))
    (hd : ∀ ρ S, I ds.length ρ S → Q (.nx ρ) S) : Wp (bd (foldI (forStep tg b) (.dyn n .plain) ρ S) forEnd) Q := wp_forR (ds := ds) (fun _ => rfl) I h0 (fun i ρ S h => lstAt_get.mp (hl i ρ S h)) (fun i d ρ S e h => hs i d ρ S e h _ fun _ _ z => z) hd
/-- what a comprehension's test says for its turn -/
def lcQ (F : Orc) (elt : E) (ρ : Rho) (J : D → Sto → Prop) (K : Sto → Prop) : Bool → Sto → Prop
  | true, S => Wp (evE F elt ρ S) J
  | false, S => K S
theorem lcQ_t {F : Orc} {elt : E} {ρ : Rho} {J : D → Sto → Prop} {K : Sto → Prop} {S : Sto} : lcQ F elt ρ J K true S = Wp (evE F elt ρ S) J := rfl
theorem lcQ_f {F : Orc} {elt : E} {ρ : Rho} {J : D → Sto → Prop} {K : Sto → Prop} {S : Sto} : lcQ F elt ρ J K false S = K S := rfl
theorem lcQ_by {F : Orc} {elt : E} {ρ : Rho} {J : D → Sto → Prop} {K : Sto → Prop} {S : Sto} {t : Bool} (h1 : t = true → Wp (evE F elt ρ S) J) (h2 : t = false → K S) : lcQ F elt ρ J K t S := by
  cases t with
  | true => exact h1 rfl
  | false => exact h2 rfl
theorem wp_lF {F : Orc} {elt : E} {tg : Tg} {c : T} {own : List Nat} {ρ : Rho} {ds : List D} {S : Sto} {Q : D → Sto → Prop} (I : Nat → List D → Sto → Prop) (h0 : I 0 [] S)
    (hs : ∀ i d acc S, ds[i]? = some d → I i acc S → ∀ (J : D → Sto → Prop) (K : Sto → Prop), (∀ y S, acc.length < sizeLine → I (i + 1) (acc ++ [y]) S → J y S) → (∀ S, I (i + 1) acc S → K S) → ∃ ρ1, bindT tg d (wipeR ρ own) = some ρ1 ∧ Wp (evT F c ρ1 S) (lcQ F elt ρ1 J K))
    (hd : ∀ acc S, I ds.length acc S → Q (.ref S.length) (S ++ [.lst acc])) : Wp (bd (foldI (lcF F elt tg c own ρ) (.fix ds) [] S) lcEnd) Q :=
  wp_lcF I h0 (fun i d acc S e h => by
    obtain ⟨ρ1, e1, w⟩ := hs i d acc S e h (fun y S4 => acc.length < sizeLine ∧ I (i + 1) (acc ++ [y]) S4) (I (i + 1) acc) (fun _ _ a b => ⟨a, b⟩) fun _ z => z
    refine ⟨ρ1, e1, w.mono fun t S3 q => ?_⟩
    cases t with
    | true =>
      rw [if_pos rfl]
      exact q
    | false =>
      rw [if_neg (by decide)]
      exact q) hd
theorem wp_lR {F : Orc} {elt : E} {tg : Tg} {c : T} {own : List Nat} {ρ : Rho} {n : Nat} {ds : List D} {S : Sto} {Q : D → Sto → Prop} (I : Nat → List D → Sto → Prop) (h0 : I 0 [] S)
    (hl : ∀ i acc S, I i acc S → lstAt S n = some ds)
    (hs : ∀ i d acc S, ds[i]? = some d → I i acc S → ∀ (J : D → Sto → Prop) (K : Sto → Prop), (∀ y S, acc.length < sizeLine → I (i + 1) (acc ++ [y]) S → J y S) → (∀ S, I (i + 1) acc S → K S) → ∃ ρ1, bindT tg d (wipeR ρ own) = some ρ1 ∧ Wp (evT F c ρ1 S) (lcQ F elt ρ1 J K))
    (hd : ∀ acc S, I ds.length acc S → Q (.ref S.length) (S ++ [.lst acc])) : Wp (bd (foldI (lcF F elt tg c own ρ) (.dyn n .plain) [] S) lcEnd) Q :=
  wp_lcR (ds := ds) (fun _ => rfl) I h0 (fun i acc S h => lstAt_get.mp (hl i acc S h)) (fun i d acc S e h => by
    obtain ⟨ρ1, e1, w⟩ := hs i d acc S e h (fun y S4 => acc.length < sizeLine ∧ I (i + 1) (acc ++ [y]) S4) (I (i + 1) acc) (fun _ _ a b => ⟨a, b⟩) fun _ z => z
    refine ⟨ρ1, e1, w.mono fun t S3 q => ?_⟩
    cases t with
    | true =>
      rw [if_pos rfl]
      exact q
    | false =>
      rw [if_neg (by decide)]
      exact q) hd
end VM
open PySem VM
local macro_rules | `(tactic| walk_at "ev") => `(tactic| simp (disch := first | assumption | (simp only [List.length_set, List.length_append, List.length_cons, List.length_nil, List.length_map, ne_eq] <;> omega) | omega) only [wp_cons, wp_nil, wp_ife, wp_set, wp_asg, wp_ex, wp_ret, wp_retn, wp_pass, wp_brk, wp_cnt, wp_aug, wp_seti, wp_whl, wp_for, wt_and, wt_or, wt_one, wt_not, wt_yes, wt_v, wt_cmp, wt_chain,
  we_cmp, we_chain, we_and, we_or, we_one, we_ite, we_not, we_neg, we_var, we_non, we_bl, we_int, we_str, we_gc, we_tup, we_lst, we_bin, we_idx, we_sl, we_rev, we_call, we_bi, we_bm, we_isi, we_lrg, we_lc, wa_nil, wa_cons, wo_no, wo_e, wi_seq, wi_rng1, wi_rng2, wi_enum, wi_zip, enumI_tup, enumI_ref, zipI_tr, we_dnk, we_dnt, we_disp, we_sm, ws_lower, ws_upper, we_strip1, ws_strip, wrev_tup, wmul_tup, wins, wd_str, setd_str, setd_tup, dicAt_set, dicAt_set_ne, dicAt_app, dicAt_newE, ditAt_set, ditAt_set_ne, ditAt_app, ditAt_newE,
  wp_optD, wp_ifn, eqD_int, eqD_str, eqD_bl, copB_eq, copB_ne, copB_lt, copB_le, copB_gt, copB_ge, copB_is, copB_isnot, copB_in, copB_notin, isNon_non, isNon_int, isNon_tup, isNon_str, isNon_ref, wi_idx_ref, wi_idx_tup, wi_idx_str, ws_ref, ws_tup, ws_str, wr_ref, wl_ref, wl_tup, wl_fz, wl_str, wtup_ref, wtup_tup, wlist_ref, wlist_tup, wapp, bmTy_ref,
  wsub, wadd, wmul, wfdiv, wmod, wpow, wadd_str, wadd_tup, wadd_ref, wmul_str, waug_add, waug_sub, seti_ref, seqI_tup, seqI_fz, seqI_str, seqI_ref, tru_bl, tru_int, tru_non, atI_ofNat, ixN_ofNat,
  List.getElem?_cons_zero, List.getElem?_cons_succ, List.set_cons_zero, List.set_cons_succ, List.map_cons, List.map_nil, List.cons_append, List.nil_append, List.replicate_succ, List.replicate_zero, List.append_nil, List.length_cons, List.length_nil, Nat.sub_self, Nat.reduceSub, Nat.reduceAdd, Nat.reduceLT, Int.reduceLT, Int.reduceLE, Int.reduceNeg, Int.reducePow, Int.reduceToNat, Int.toNat_natCast, wipeR_nil, wipeR_cons, bindT_nm, bindT_tp, setMany_nil, setMany_cons,
  Option.map_some, exists_eq, exists_eq', Option.some.injEq, exists_eq_left', exists_eq_left, exists_eq_right, D.int.injEq, D.bl.injEq, D.str.injEq, D.tup.injEq, D.ref.injEq, and_true, true_and, if_true, ite_true, decide_true, decide_false, Bool.not_true, Bool.not_false,
  seqQ_nx, seqQ_brk, seqQ_cnt, seqQ_ret, ifQ_t, ifQ_f, retQ_ret, retQ_nx, andQ_t, andQ_f, orQ_t, orQ_f, notQ_, andE_t, andE_f, orE_t, orE_f, iteE_t, iteE_f, chT_t, chT_f, chE_t, chE_f, lcQ_t, lcQ_f, forQ_nx, forQ_cnt, forQ_brk, forQ_ret, cut_from, cut_to, cut_from1, cut_fromL, cut_toL, List.drop_succ_cons, beq_self_eq_true, List.drop_zero, lstAt_set, lstAt_set_ne, lstAt_app, lstAt_newE, List.length_set, or_true, true_or, *])
local macro_rules | `(tactic| walk_at "ev1") => `(tactic| simp (disch := first | assumption | (simp only [List.length_set, List.length_append, List.length_cons, List.length_nil, List.length_map, ne_eq] <;> omega) | omega) only [wp_nil, wp_ife, wp_set, wp_asg, wp_ex, wp_ret, wp_retn, wp_pass, wp_brk, wp_cnt, wp_aug, wp_seti, wp_whl, wp_for, wt_and, wt_or, wt_one, wt_not, wt_yes, wt_v, wt_cmp, wt_chain,
  we_cmp, we_chain, we_and, we_or, we_one, we_ite, we_not, we_neg, we_var, we_non, we_bl, we_int, we_str, we_gc, we_tup, we_lst, we_bin, we_idx, we_sl, we_rev, we_call, we_bi, we_bm, we_isi, we_lrg, we_lc, wa_nil, wa_cons, wo_no, wo_e, wi_seq, wi_rng1, wi_rng2, wi_enum, wi_zip, enumI_tup, enumI_ref, zipI_tr, we_dnk, we_dnt, we_disp, we_sm, ws_lower, ws_upper, we_strip1, ws_strip, wrev_tup, wmul_tup, wins, wd_str, setd_str, setd_tup, dicAt_set, dicAt_set_ne, dicAt_app, dicAt_newE, ditAt_set, ditAt_set_ne, ditAt_app, ditAt_newE,
  wp_optD, wp_ifn, eqD_int, eqD_str, eqD_bl, copB_eq, copB_ne, copB_lt, copB_le, copB_gt, copB_ge, copB_is, copB_isnot, copB_in, copB_notin, isNon_non, isNon_int, isNon_tup, isNon_str, isNon_ref, wi_idx_ref, wi_idx_tup, wi_idx_str, ws_ref, ws_tup, ws_str, wr_ref, wl_ref, wl_tup, wl_fz, wl_str, wtup_ref, wtup_tup, wlist_ref, wlist_tup, wapp, bmTy_ref,
  wsub, wadd, wmul, wfdiv, wmod, wpow, wadd_str, wadd_tup, wadd_ref, wmul_str, waug_add, waug_sub, seti_ref, seqI_tup, seqI_fz, seqI_str, seqI_ref, tru_bl, tru_int, tru_non, atI_ofNat, ixN_ofNat,
  List.getElem?_cons_zero, List.getElem?_cons_succ, List.set_cons_zero, List.set_cons_succ, List.map_cons, List.map_nil, List.cons_append, List.nil_append, List.replicate_succ, List.replicate_zero, List.append_nil, List.length_cons, List.length_nil, Nat.sub_self, Nat.reduceSub, Nat.reduceAdd, Nat.reduceLT, Int.reduceLT, Int.reduceLE, Int.reduceNeg, Int.reducePow, Int.reduceToNat, Int.toNat_natCast, wipeR_nil, wipeR_cons, bindT_nm, bindT_tp, setMany_nil, setMany_cons,
  Option.map_some, exists_eq, exists_eq', Option.some.injEq, exists_eq_left', exists_eq_left, exists_eq_right, D.int.injEq, D.bl.injEq, D.str.injEq, D.tup.injEq, D.ref.injEq, and_true, true_and, if_true, ite_true, decide_true, decide_false, Bool.not_true, Bool.not_false,
  seqQ_brk, seqQ_cnt, seqQ_ret, ifQ_t, ifQ_f, retQ_ret, retQ_nx, andQ_t, andQ_f, orQ_t, orQ_f, notQ_, andE_t, andE_f, orE_t, orE_f, iteE_t, iteE_f, chT_t, chT_f, chE_t, chE_f, lcQ_t, lcQ_f, forQ_nx, forQ_cnt, forQ_brk, forQ_ret, cut_from, cut_to, cut_from1, cut_fromL, cut_toL, List.drop_succ_cons, beq_self_eq_true, List.drop_zero, lstAt_set, lstAt_set_ne, lstAt_app, lstAt_newE, List.length_set, or_true, true_or, *])
/-! VLa: the terms of defs that more than one law has. -/
namespace VL
open PySem VM
def b__law_box : Cs :=
  (.cons (.set 1 (.int 1)) (.cons (.set 2 (.lst .nil)) (.cons (.for_ (.nm 3) (.seq (.var 0)) (.cons (.set 1 (.bin .mod (.bin .add (.bin .add (.bin .mul (.var 1) (.int 69621)) (.bin .mod (.var 3) (.int 2147483629))) (.int 1)) (.int 2147483647))) (.cons (.ife (.cmp .ge (.var 3) (.bin .pow (.int 10) (.int 18))) (.cons (.ex (.bm .append (.var 2) (.cons (.var 3) .nil))) .nil) .nil) .nil))) (.cons (.ret (.lst (.cons (.var 1) (.cons (.int 0) (.cons (.var 2) .nil))))) .nil))))
def b__law_pick : Cs :=
  (.cons (.ife (.and (.cmp .eq (.idx (.var 0) (.int 1)) (.int 0)) (.one (.cmp .gt (.bi .len (.cons (.idx (.var 0) (.int 2)) .nil)) (.int 0)))) (.cons (.seti (.var 0) (.int 1) (.idx (.idx (.var 0) (.int 2)) (.int 0))) (.cons (.seti (.var 0) (.int 2) (.sl (.idx (.var 0) (.int 2)) (.e (.int 1)) (.no))) .nil)) .nil) (.cons (.ife (.cmp .gt (.idx (.var 0) (.int 1)) (.int 0)) (.cons (.set 3 (.bin .mod (.idx (.var 0) (.int 1)) (.var 1))) (.cons (.seti (.var 0) (.int 1) (.bin .fdiv (.idx (.var 0) (.int 1)) (.var 1))) (.cons (.ret (.var 3)) .nil))) .nil) (.cons (.seti (.var 0) (.int 0) (.bin .mod (.bin .add (.bin .mul (.idx (.var 0) (.int 0)) (.int 48271)) (.int 7919)) (.int 2147483647))) (.cons (.set 2 (.bin .mod (.bin .mul (.idx (.var 0) (.int 0)) (.idx (.var 0) (.int 0))) (.int 2147483629))) (.cons (.ret (.bin .mod (.bin .fdiv (.bin .mod (.bin .mul (.var 2) (.int 40692)) (.int 2147483587)) (.int 8)) (.var 1))) .nil)))))
def b__law_words : Cs :=
  (.cons (.set 4 (.str "")) (.cons (.for_ (.nm 5) (.rng1 (.call 3 (.cons (.var 0) (.cons (.int 4) .nil)))) (.cons (.set 4 (.bin .add (.var 4) (.idx (.var 1) (.call 3 (.cons (.var 0) (.cons (.int 26) .nil)))))) .nil)) (.cons (.set 6 (.call 3 (.cons (.var 0) (.cons (.bin .add (.bi .len (.cons (.var 4) .nil)) (.int 1)) .nil)))) (.cons (.set 7 (.call 3 (.cons (.var 0) (.cons (.int 26) .nil)))) (.cons (.set 8 (.lst .nil)) (.cons (.for_ (.nm 5) (.rng1 (.var 3)) (.cons (.set 9 (.bin .add (.bin .add (.sl (.var 4) (.no) (.e (.var 6))) (.idx (.var 1) (.bin .mod (.bin .add (.var 7) (.bin .mul (.var 5) (.int 5))) (.int 26)))) (.sl (.var 4) (.e (.var 6)) (.no)))) (.cons (.ex (.bm .append (.var 8) (.cons (.bin .add (.var 9) (.bin .mul (.var 2) (.call 3 (.cons (.var 0) (.cons (.int 2) .nil))))) .nil))) .nil))) (.cons (.ret (.var 8)) .nil)))))))
def b__law_walker : Cs :=
  (.cons (.set 3 (.cmp .eq (.call 3 (.cons (.var 0) (.cons (.int 4) .nil))) (.int 0))) (.cons (.set 4 (.lst .nil)) (.cons (.for_ (.nm 5) (.rng1 (.var 1)) (.cons (.for_ (.nm 8) (.seq (.var 2)) (.cons (.ife (.or (.v (.var 3)) (.one (.cmp .gt (.call 3 (.cons (.var 0) (.cons (.int 7) .nil))) (.int 0)))) (.cons (.ex (.bm .append (.var 4) (.cons (.tup (.cons (.var 5) (.cons (.var 8) (.cons (.call 3 (.cons (.var 0) (.cons (.var 1) .nil))) .nil)))) .nil))) .nil) .nil) .nil)) .nil)) (.cons (.set 6 (.call 3 (.cons (.var 0) (.cons (.bin .add (.bi .len (.cons (.var 4) .nil)) (.int 1)) .nil)))) (.cons (.set 4 (.bin .add (.sl (.var 4) (.e (.var 6)) (.no)) (.sl (.var 4) (.no) (.e (.var 6))))) (.cons (.ife (.cmp .eq (.call 3 (.cons (.var 0) (.cons (.int 2) .nil))) (.int 1)) (.cons (.set 4 (.rev (.var 4))) .nil) .nil) (.cons (.set 7 (.lc (.var 5) (.nm 5) (.rng1 (.var 1)) (.cmp .gt (.call 3 (.cons (.var 0) (.cons (.int 3) .nil))) (.int 0)) [("state", 5)])) (.cons (.ret (.tup (.cons (.var 1) (.cons (.call 3 (.cons (.var 0) (.cons (.var 1) .nil))) (.cons (.bi .tuple (.cons (.var 7) .nil)) (.cons (.bi .tuple (.cons (.var 4) .nil)) .nil)))))) .nil))))))))
def b__law_walked : Cs :=
  (.cons (.set 2 (.idx (.var 0) (.int 1))) (.cons (.for_ (.nm 3) (.seq (.var 1)) (.cons (.set 4 (.lc (.idx (.var 5) (.int 2)) (.nm 5) (.seq (.idx (.var 0) (.int 3))) (.and (.cmp .eq (.idx (.var 5) (.int 0)) (.var 2)) (.one (.cmp .eq (.idx (.var 5) (.int 1)) (.var 3)))) [("step", 5)])) (.cons (.ife (.cmp .eq (.bi .len (.cons (.var 4) .nil)) (.int 0)) (.cons (.ret (.bl false)) .nil) .nil) (.cons (.set 2 (.idx (.var 4) (.int 0))) .nil)))) (.cons (.ret (.cmp .inn (.var 2) (.idx (.var 0) (.int 2)))) .nil)))
def b_step_from : Cs :=
  (.cons (.for_ (.tp [3, 4, 5]) (.seq (.idx (.var 0) (.int 3))) (.cons (.ife (.and (.cmp .eq (.var 3) (.var 1)) (.one (.cmp .eq (.var 4) (.var 2)))) (.cons (.ret (.var 5)) .nil) .nil) .nil)) (.cons (.ret (.non)) .nil))
def b_kids_of : Cs :=
  (.cons (.ret (.ite (.cmp .eq (.idx (.var 0) (.int 0)) (.str "knot")) (.idx (.var 0) (.int 3)) (.tup .nil))) .nil)
def b_places : Cs :=
  (.cons (.set 1 (.lst (.cons (.tup .nil) .nil))) (.cons (.for_ (.tp [2, 3]) (.enum (.call 90 (.cons (.var 0) .nil))) (.cons (.for_ (.nm 4) (.seq (.call 91 (.cons (.var 3) .nil))) (.cons (.ex (.bm .append (.var 1) (.cons (.bin .add (.tup (.cons (.var 2) .nil)) (.var 4)) .nil))) .nil)) .nil)) (.cons (.ret (.var 1)) .nil)))
def b_piece_at : Cs :=
  (.cons (.set 2 (.var 0)) (.cons (.for_ (.nm 3) (.seq (.var 1)) (.cons (.set 4 (.call 90 (.cons (.var 2) .nil))) (.cons (.ife (.not (.chain .le .lt (.int 0) (.var 3) (.bi .len (.cons (.var 4) .nil)))) (.cons (.dead) .nil) .nil) (.cons (.set 2 (.idx (.var 4) (.var 3))) .nil)))) (.cons (.ret (.var 2)) .nil)))
def b_feet_of : Cs :=
  (.cons (.set 1 (.lc (.call 92 (.cons (.var 0) (.cons (.var 2) .nil))) (.nm 2) (.seq (.call 91 (.cons (.var 0) .nil))) (.yes) [("place", 2)])) (.cons (.ret (.lc (.idx (.var 3) (.int 1)) (.nm 3) (.seq (.var 1)) (.cmp .eq (.idx (.var 3) (.int 0)) (.str "foot")) [("piece", 3)])) .nil))
def b_is_graft : Cs :=
  (.cons (.ret (.cmp .eq (.bi .len (.cons (.call 93 (.cons (.var 0) .nil)) .nil)) (.int 1))) .nil)
def b__law_socket : Cs :=
  (.cons (.ife (.cmp .eq (.idx (.var 0) (.str "left")) (.int 0)) (.cons (.ret (.bl false)) .nil) .nil) (.cons (.seti (.var 0) (.str "left") (.bin .sub (.idx (.var 0) (.str "left")) (.int 1))) (.cons (.ret (.bl true)) .nil)))
def b__law_leaf : Cs :=
  (.cons (.set 2 (.call 3 (.cons (.var 0) (.cons (.int 9) .nil)))) (.cons (.ife (.cmp .eq (.var 2) (.int 0)) (.cons (.ret (.tup (.cons (.str "void") .nil))) .nil) .nil) (.cons (.ife (.and (.cmp .lt (.var 2) (.int 4)) (.one (.v (.call 139 (.cons (.var 1) .nil))))) (.cons (.ret (.tup (.cons (.str "hole") (.cons (.idx (.idx (.var 1) (.str "starts")) (.bin .fdiv (.call 3 (.cons (.var 0) (.cons (.int 3) .nil))) (.int 2))) .nil)))) .nil) .nil) (.cons (.ret (.tup (.cons (.str "sign") (.cons (.idx (.idx (.var 1) (.str "signs")) (.call 3 (.cons (.var 0) (.cons (.bi .len (.cons (.idx (.var 1) (.str "signs")) .nil)) .nil)))) .nil)))) .nil))))
def b__law_worn : Cs :=
  (.cons (.set 2 (.call 3 (.cons (.var 0) (.cons (.int 5) .nil)))) (.cons (.ife (.or (.cmp .lt (.var 2) (.int 2)) (.or (.not (.v (.idx (.var 1) (.str "knots")))) (.one (.not (.v (.call 139 (.cons (.var 1) .nil))))))) (.cons (.ret (.non)) .nil) .nil) (.cons (.ret (.tup (.cons (.idx (.idx (.var 1) (.str "grafts")) (.bin .fdiv (.call 3 (.cons (.var 0) (.cons (.int 4) .nil))) (.int 3))) (.cons (.cmp .eq (.var 2) (.int 4)) .nil)))) .nil)))
def b__law_knot : Cs :=
  (.cons (.set 5 (.call 141 (.cons (.var 0) (.cons (.var 1) .nil)))) (.cons (.set 6 (.lst .nil)) (.cons (.set 7 (.bin .add (.int 1) (.call 3 (.cons (.var 0) (.cons (.int 3) .nil))))) (.cons (.set 8 (.bin .sub (.var 7) (.int 1))) (.cons (.ife (.cmp .lt (.call 3 (.cons (.var 0) (.cons (.int 4) .nil))) (.idx (.var 1) (.str "free"))) (.cons (.set 8 (.call 3 (.cons (.var 0) (.cons (.var 7) .nil)))) .nil) .nil) (.cons (.for_ (.nm 9) (.rng1 (.var 7)) (.cons (.set 10 (.str "")) (.cons (.ife (.cmp .eq (.var 9) (.var 8)) (.cons (.set 10 (.var 4)) .nil) .nil) (.cons (.ife (.and (.cmp .gt (.var 3) (.int 0)) (.one (.cmp .eq (.call 3 (.cons (.var 0) (.cons (.int 3) .nil))) (.int 0)))) (.cons (.ex (.bm .append (.var 6) (.cons (.call 142 (.cons (.var 0) (.cons (.var 1) (.cons (.idx (.idx (.var 1) (.str "starts")) (.call 3 (.cons (.var 0) (.cons (.int 2) .nil)))) (.cons (.bin .sub (.var 3) (.int 1)) (.cons (.var 10) .nil)))))) .nil))) .nil) (.cons (.ife (.cmp .ne (.var 10) (.str "")) (.cons (.ex (.bm .append (.var 6) (.cons (.tup (.cons (.str "foot") (.cons (.var 10) .nil))) .nil))) .nil) (.cons (.ex (.bm .append (.var 6) (.cons (.call 140 (.cons (.var 0) (.cons (.var 1) .nil))) .nil))) .nil)) .nil)) .nil)))) (.cons (.ret (.tup (.cons (.str "knot") (.cons (.var 2) (.cons (.var 5) (.cons (.bi .tuple (.cons (.var 6) .nil)) .nil)))))) .nil)))))))
end VL
namespace VL
open PySem VM
/-- a box -/
structure BoxOk (b : Nat) (S : Sto) : Prop where
  ex : ∃ (s g : Int) (gr : Nat) (gs : List Int), lstAt S b = some [.int s, .int g, .ref gr] ∧ lstAt S gr = some (gs.map .int) ∧ 0 ≤ s ∧ s < 2147483648 ∧ 0 ≤ g ∧ gr ≠ b ∧ gs.length ≤ 63 ∧ ∀ x ∈ gs, (0 : Int) < x
def Free (b n : Nat) (S : Sto) : Prop := n < S.length ∧ n ≠ b ∧ ∀ x y gr, lstAt S b = some [x, y, .ref gr] → n ≠ gr
theorem Free.setb {b n : Nat} {S : Sto} {p q : D} {gr : Nat} (f : Free b n S) (h : n ≠ gr) (hb : b < S.length) : Free b n (S.set b (.lst [p, q, .ref gr])) :=
  ⟨by simpa using f.1, f.2.1, fun x y g e => by rw [lstAt_set hb] at e; cases e; exact h⟩
theorem Free.ap {b n : Nat} {S T : Sto} (f : Free b n S) (h : b < S.length) : Free b n (S ++ T) :=
  ⟨by have := f.1; simp; omega, f.2.1, fun x y gr e => f.2.2 x y gr (by rwa [lstAt_app h] at e)⟩
/-- the defs by their places -/
structure HasBox (tbl : List (Nat × Fd)) : Prop where
  box : tbl.lookup 2 = some ⟨1, 4, b__law_box⟩
  pick : tbl.lookup 3 = some ⟨2, 4, b__law_pick⟩
def tl1 : Cs → Cs
  | .cons _ r => r
  | .nil => .nil
section
variable {tbl : List (Nat × Fd)} {k b : Nat} {S S0 : Sto}
theorem pick2 {c : Int} {s g : Int} {gr : Nat} {gs : List Int} (h0 : 0 < c) (h1 : c < 1073741824) (e1 : lstAt S b = some [.int s, .int g, .ref gr]) (e2 : lstAt S gr = some (gs.map .int)) (s0 : 0 ≤ s) (s1 : s < 2147483648)
    (g0 : 0 ≤ g) (ne : gr ≠ b) (gl : gs.length ≤ 63) (gp : ∀ x ∈ gs, (0 : Int) < x) (kp : Keep b S0 S) (kf : ∀ n, Free b n S0 → Free b n S) :
    Wp (exCs ⟨callN tbl k⟩ (tl1 b__law_pick) [some (.ref b), some (.int c), none, none] S) (retQ fun d S' => ∃ i, d = .int i ∧ 0 ≤ i ∧ i < c ∧ BoxOk b S' ∧ Keep b S0 S' ∧ ∀ n, Free b n S0 → Free b n S') := by
  have hb : b < S.length := lstAt_lt e1
  have hg : gr < S.length := lstAt_lt e2
  unfold b__law_pick tl1
  walk_at "ev"
  refine ifQ_by (fun h => ?_) (fun h => ?_)
  · have hg : 0 < g := of_decide_eq_true h
    walk_at "ev"
    refine ⟨Int.emod_nonneg _ (by omega), Int.emod_lt_of_pos _ h0, ⟨s, g / c, gr, gs, ?_, ?_, s0, s1, Int.ediv_nonneg g0 (by omega), ne, gl, gp⟩, kp.trans (Keep.set _ _ _), fun n z => (kf n z).setb ((kf n z).2.2 _ _ _ e1) hb⟩
    · walk_at "ev"
    · walk_at "ev"
  · walk_at "ev"
    have r1 : 0 ≤ (s * 48271 + 7919) % 2147483647 := Int.emod_nonneg _ (by omega)
    have r2 : (s * 48271 + 7919) % 2147483647 < 2147483647 := Int.emod_lt_of_pos _ (by omega)
    generalize (s * 48271 + 7919) % 2147483647 = s' at *
    refine ⟨.inl (by omega), ?_⟩
    refine ⟨Int.emod_nonneg _ (by omega), Int.emod_lt_of_pos _ h0, ⟨s', g, gr, gs, ?_, ?_, r1, by omega, g0, ne, gl, gp⟩, kp.trans (Keep.set _ _ _), fun n z => (kf n z).setb ((kf n z).2.2 _ _ _ e1) hb⟩
    · walk_at "ev"
    · walk_at "ev"
theorem pick0 (hp : HasBox tbl) {c : Int} (hb : BoxOk b S) (h0 : 0 < c) (h1 : c < 1073741824) :
    Wp (callN tbl (k + 1) 3 [.ref b, .int c] S) fun d S' => ∃ i, d = .int i ∧ 0 ≤ i ∧ i < c ∧ BoxOk b S' ∧ Keep b S S' ∧ ∀ n, Free b n S → Free b n S' := by
  obtain ⟨s, g, gr, gs, e1, e2, s0, s1, g0, ne, gl, gp⟩ := hb
  refine wp_call hp.pick rfl ?_
  unfold b__law_pick
  rw [wp_cons]
  have hb : b < S.length := lstAt_lt e1
  have hg : gr < S.length := lstAt_lt e2
  walk_at "ev1"
  refine andQ_by (fun h => ?_) (fun h => ?_)
  · walk_at "ev1"
    have hg : g = 0 := by simpa using h
    subst hg
    refine ifQ_by (fun h => ?_) (fun h => ?_)
    · cases gs with
      | nil => simp at h
      | cons x gs =>
        simp only [List.map_cons] at e2
        rw [wp_cons]
        walk_at "ev1"
        rw [seqQ_nx, wp_cons]
        walk_at "ev1"
        rw [seqQ_nx, wp_nil, seqQ_nx]
        have gx : (0 : Int) < x := gp x List.mem_cons_self
        refine pick2 (s := s) (g := x) (gr := S.length) (gs := gs) h0 h1 ?_ ?_ s0 s1 (by omega) (by omega) (by simp only [List.length_cons] at gl; omega) (fun y hy => gp y (List.mem_cons_of_mem _ hy)) (((Keep.set _ _ _).trans (Keep.app _ _ _)).trans (Keep.set _ _ _)) (fun n z => ((z.setb (z.2.2 _ _ _ e1) hb).ap (by simpa using hb)).setb (Nat.ne_of_lt z.1) (by simp; omega))
        · walk_at "ev"
        · walk_at "ev"
    · walk_at "ev1"
      exact pick2 h0 h1 e1 e2 s0 s1 g0 ne gl gp (Keep.refl _ _) (fun _ z => z)
  · walk_at "ev1"
    exact pick2 h0 h1 e1 e2 s0 s1 g0 ne gl gp (Keep.refl _ _) (fun _ z => z)
/-- THE BOX -/
theorem box (hp : HasBox tbl) {ns : List Int} (hn : ns.length ≤ 63) : Wp (callN tbl (k + 1) 2 [.fz (ns.map .int)] S) fun d S' => ∃ b, d = .ref b ∧ BoxOk b S' ∧ Ext S S' := by
  refine Wp.gen fun Q hQ => wp_call hp.box rfl ?_
  unfold b__law_box
  walk_at "ev"
  refine wp_fF (fun i ρ S' => ∃ (s : Int) (x : Option D) (gs : List Int), ρ = [some (.fz (ns.map .int)), some (.int s), some (.ref S.length), x] ∧ 0 ≤ s ∧ s < 2147483648 ∧ lstAt S' S.length = some (gs.map .int) ∧ gs.length ≤ i ∧ (∀ x ∈ gs, (0 : Int) < x) ∧ Ext S S') ?_ ?_ ?_
  · exact ⟨1, none, [], rfl, by decide, by decide, lstAt_new, Nat.le_refl _, by simp, Ext.app _ _⟩
  · rintro i d ρ S' hd ⟨s, x, gs, rfl, s0, s1, e1, gl, gp, X⟩ J hJ
    rw [List.getElem?_map] at hd
    cases e : ns[i]? with
    | none => rw [e] at hd; cases hd
    | some c =>
      rw [e] at hd
      cases hd
      refine ⟨_, rfl, ?_⟩
      walk_at "ev"
      have hi : i < ns.length := (List.getElem?_eq_some_iff.mp e).1
      have hl := lstAt_lt e1
      have r1 : 0 ≤ (s * 69621 + c % 2147483629 + 1) % 2147483647 := Int.emod_nonneg _ (by omega)
      have r2 : (s * 69621 + c % 2147483629 + 1) % 2147483647 < 2147483647 := Int.emod_lt_of_pos _ (by omega)
      generalize (s * 69621 + c % 2147483629 + 1) % 2147483647 = s' at *
      refine ⟨by decide, ifQ_by (fun h => ?_) (fun h => ?_)⟩
      · walk_at "ev"
        have hc : (10 : Int) ^ 18 ≤ c := by simpa using h
        refine ⟨by simp only [List.length_map]; show gs.length < 2 ^ 24; omega, ?_⟩
        refine hJ _ _ ⟨s', some (.int c), gs ++ [c], rfl, r1, by omega, ?_, by simp; omega, ?_, X.set (Nat.le_refl _) _⟩
        · rw [lstAt_set hl]; simp
        · intro y hy
          rw [List.mem_append, List.mem_singleton] at hy
          rcases hy with hy | rfl
          · exact gp y hy
          · omega
      · walk_at "ev"
        exact hJ _ _ ⟨s', some (.int c), gs, rfl, r1, by omega, e1, by omega, gp, X⟩
  · rintro ρ S' ⟨s, x, gs, rfl, s0, s1, e1, gl, gp, X⟩
    have hl := lstAt_lt e1
    walk_at "ev"
    simp only [List.length_map] at gl
    refine hQ _ _ ⟨_, rfl, ⟨s, 0, S.length, gs, lstAt_new, ?_, s0, s1, by decide, by omega, by omega, gp⟩, X.trans (Ext.app _ _)⟩
    rw [lstAt_app hl]
    exact e1
end
end VL
namespace VL
open PySem VM
theorem ch_app (x y : Str) : (x ++ y).cps.toList = x.cps.toList ++ y.cps.toList := by
  show (x.cps ++ y.cps).toList = _
  simp
theorem ch_nil : (Str.ofString "").cps.toList = [] := by decide +kernel
theorem ch_len (x : Str) : x.length = x.cps.toList.length := (Array.length_toList).symm
theorem ch_ext {x y : Str} (h : x.cps.toList = y.cps.toList) : x = y := by
  cases x; cases y
  have := Array.toList_inj.mp h
  simp_all
theorem ch_to (z : Str) (k : Nat) : (L2.cutS z none (some (k : Int))).cps.toList = z.cps.toList.take k := by
  have := cut_to z.cps.toList k
  unfold cutL at this
  rw [Array.length_toList] at this
  exact this
theorem ch_from (z : Str) (k : Nat) : (L2.cutS z (some (k : Int)) none).cps.toList = z.cps.toList.drop k := by
  have := cut_from z.cps.toList k
  unfold cutL at this
  rw [Array.length_toList] at this
  exact this
theorem atI_mod {α : Type} (xs : List α) (m : Nat) (n : Nat) (h : xs.length = m) (h0 : 0 < m) : ∃ c, L2.atI xs ((n : Int) % (m : Int)) = some c ∧ xs[n % m]? = some c := by
  have e : ((n : Int) % (m : Int)) = ((n % m : Nat) : Int) := by simp
  have h1 : n % m < xs.length := by rw [h]; exact Nat.mod_lt _ h0
  rw [e, atI_cast, List.getElem?_eq_getElem h1]
  exact ⟨_, rfl, rfl⟩
theorem atI_lt {α : Type} {xs : List α} {n : Nat} (h : n < xs.length) : L2.atI xs (n : Int) = some xs[n] := by
  rw [atI_cast, List.getElem?_eq_getElem h]
/-! ### what is the box's own, what isn't -/
/-- from S0 on: the box stands, what was there stays -/
structure Bx (b : Nat) (S0 S : Sto) : Prop where
  box : BoxOk b S
  keep : Keep b S0 S
  fr : ∀ n, Free b n S0 → Free b n S
structure Own (b n : Nat) (ds : List D) (S : Sto) : Prop where
  at_ : lstAt S n = some ds
  fr : Free b n S
section
variable {b n m : Nat} {S S0 S1 : Sto} {ds es : List D} {o : O}
theorem BoxOk.lt (h : BoxOk b S) : b < S.length := by
  obtain ⟨s, g, gr, gs, e1, _⟩ := h
  exact lstAt_lt e1
theorem Bx.refl (h : BoxOk b S) : Bx b S S := ⟨h, Keep.refl _ _, fun _ z => z⟩
theorem Bx.trans (h : Bx b S0 S) (h' : Bx b S S1) : Bx b S0 S1 := ⟨h'.box, h.keep.trans h'.keep, fun n z => h'.fr n (h.fr n z)⟩
theorem BoxOk.app {T : Sto} (h : BoxOk b S) : BoxOk b (S ++ T) := by
  obtain ⟨s, g, gr, gs, e1, e2, r⟩ := h
  exact ⟨s, g, gr, gs, (lstAt_app (lstAt_lt e1)).trans e1, (lstAt_app (lstAt_lt e2)).trans e2, r⟩
theorem BoxOk.set (h : BoxOk b S) (f : Free b n S) : BoxOk b (S.set n o) := by
  obtain ⟨s, g, gr, gs, e1, e2, r⟩ := h
  exact ⟨s, g, gr, gs, (lstAt_set_ne (Ne.symm f.2.1) o).trans e1, (lstAt_set_ne (Ne.symm (f.2.2 _ _ _ e1)) o).trans e2, r⟩
theorem Free.app {T : Sto} (f : Free b n S) (h : b < S.length) : Free b n (S ++ T) :=
  ⟨by have := f.1; simp; omega, f.2.1, fun x y gr e => f.2.2 x y gr (by rwa [lstAt_app h] at e)⟩
theorem Free.set (f : Free b m S) (h : n ≠ b) : Free b m (S.set n o) :=
  ⟨by simpa using f.1, f.2.1, fun x y gr e => f.2.2 x y gr (by rwa [lstAt_set_ne (Ne.symm h)] at e)⟩
theorem Bx.app {T : Sto} (h : Bx b S0 S) : Bx b S0 (S ++ T) :=
  ⟨h.box.app, h.keep.trans (Keep.app _ _ _), fun n z => (h.fr n z).app h.box.lt⟩
theorem Bx.setN (h : Bx b S0 S) (hn : S0.length ≤ n) (f : Free b n S) : Bx b S0 (S.set n o) :=
  ⟨h.box.set f, h.keep.setN hn o, fun m z => (h.fr m z).set f.2.1⟩
theorem Bx.len (h : Bx b S0 S) : S0.length ≤ S.length := h.keep.len
theorem Own.new (h : BoxOk b S) : Own b S.length ds (S ++ [.lst ds]) := by
  refine ⟨lstAt_new, by simp, by have := h.lt; omega, ?_⟩
  obtain ⟨s, g, gr, gs, e1, e2, r⟩ := h
  intro x y gr' e
  rw [lstAt_app (lstAt_lt e1), e1] at e
  cases e
  have := lstAt_lt e2
  omega
theorem Own.mono (h : Own b n ds S) (X : Bx b S S1) : Own b n ds S1 := ⟨X.keep.lst h.at_ h.fr.2.1, X.fr n h.fr⟩
theorem Own.app {T : Sto} (h : Own b n ds S) (hb : BoxOk b S) : Own b n ds (S ++ T) := h.mono (Bx.refl hb).app
theorem Own.set (h : Own b n ds S) : Own b n es (S.set n (.lst es)) := ⟨lstAt_set h.fr.1, h.fr.set h.fr.2.1⟩
theorem Own.set_ne (h : Own b m ds S) (nm : m ≠ n) (f : n ≠ b) : Own b m ds (S.set n o) := ⟨by rw [lstAt_set_ne nm]; exact h.at_, h.fr.set f⟩
theorem Own.ext (h : Own b n ds S) (X : Ext S S1) (hb : b < S.length) : Own b n ds S1 := ⟨X.lst h.at_, Nat.lt_of_lt_of_le h.fr.1 X.len, h.fr.2.1, fun x y gr e => h.fr.2.2 x y gr (by
  unfold lstAt at e ⊢
  rwa [X.at_ _ hb] at e)⟩
theorem BoxOk.ext (h : BoxOk b S) (X : Ext S S1) : BoxOk b S1 := by
  obtain ⟨s, g, gr, gs, e1, e2, r⟩ := h
  exact ⟨s, g, gr, gs, X.lst e1, X.lst e2, r⟩
theorem Bx.ext (h : Bx b S0 S) (X : Ext S S1) : Bx b S0 S1 :=
  ⟨h.box.ext X, h.keep.trans (X.keep b), fun n z => ⟨Nat.lt_of_lt_of_le (h.fr n z).1 X.len, (h.fr n z).2.1, fun x y gr e => (h.fr n z).2.2 x y gr (by
    unfold lstAt at e ⊢
    rwa [X.at_ _ h.box.lt] at e)⟩⟩
variable {tbl : List (Nat × Fd)} {k : Nat}
/-- A DRAWN NUMBER -/
theorem pick (hp : HasBox tbl) {c : Int} (hb : Bx b S0 S) (h0 : 0 < c) (h1 : c < 1073741824) :
    Wp (callN tbl (k + 1) 3 [.ref b, .int c] S) fun d S' => ∃ i : Nat, d = .int i ∧ (i : Int) < c ∧ Bx b S S' :=
  (pick0 hp hb.box h0 h1).mono fun d S' ⟨i, e, h2, h3, h4, h5, h6⟩ => ⟨i.toNat, by rw [e, Int.toNat_of_nonneg h2], by omega, h4, h5, h6⟩
end
/-- words with one sign of their own each -/
structure WordsOk (hs tl : List Nat) (ws : List Str) : Prop where
  ex : ∃ (A B : List Nat) (turn : Nat), A.length + B.length ≤ 3 ∧ (∀ c ∈ A ++ B, c ∈ hs) ∧
    ∀ (j : Nat) (w : Str), ws[j]? = some w → ∃ (h : Nat) (b : Nat), hs[(turn + j * 5) % 26]? = some h ∧ b ≤ 1 ∧ w.cps.toList = A ++ h :: B ++ (List.replicate b tl).flatten
/-- a list of words -/
structure WordsAt (b : Nat) (hs tl : List Nat) (m : Nat) (d : D) (S S' : Sto) : Prop where
  ex : ∃ (r : Nat) (ws : List Str), d = .ref r ∧ Own b r (ws.map .str) S' ∧ S.length ≤ r ∧ ws.length = m ∧ WordsOk hs tl ws
  box : Bx b S S'
structure HasWords (tbl : List (Nat × Fd)) : Prop extends HasBox tbl where
  words : tbl.lookup 4 = some ⟨4, 10, b__law_words⟩
section
variable {tbl : List (Nat × Fd)} {k b : Nat} {S S0 : Sto}
/-- WORDS -/
theorem words (hp : HasWords tbl) {hs tl : Str} {m : Nat} (hh : hs.cps.toList.length = 26) (ht : tl.length ≤ 1) (hm : m ≤ 26) (hB : BoxOk b S) :
    Wp (callN tbl (k + 2) 4 [.ref b, .str hs, .str tl, .int m] S) fun d S' => WordsAt b hs.cps.toList tl.cps.toList m d S S' := by
  refine Wp.gen fun Q hQ => wp_call hp.words rfl ?_
  have hH : hs.length ≤ sizeLine := by rw [ch_len, hh]; decide
  have hbl := hB.lt
  unfold b__law_words
  try walk_at "ev"
  refine (pick hp.toHasBox (.refl hB) (by decide) (by decide)).mono ?_
  rintro _ S1 ⟨n1, rfl, hn1, B1⟩
  try walk_at "ev"
  refine ⟨by omega, ?_⟩
  refine wp_fF (fun i ρ S' => ∃ (st : Str) (x : Option D), ρ = [some (.ref b), some (.str hs), some (.str tl), some (.int m), some (.str st), x, none, none, none, none] ∧ st.length ≤ i ∧ (∀ c ∈ st.cps.toList, c ∈ hs.cps.toList) ∧ Bx b S S') ?_ ?_ ?_
  · exact ⟨_, _, rfl, by decide, (by intro c hc; rw [ch_nil] at hc; cases hc), B1⟩
  · rintro i d ρ S2 hd ⟨st, x, rfl, hl, hc, B2⟩ J hJ
    have hi : i < n1 := by
      have := (List.getElem?_eq_some_iff.mp hd).1
      simpa using this
    refine ⟨_, rfl, ?_⟩
    try walk_at "ev"
    refine (pick hp.toHasBox B2 (by decide) (by decide)).mono ?_
    rintro _ S3 ⟨n2, rfl, hn2, B3⟩
    have h2 : n2 < hs.cps.toList.length := by rw [hh]; omega
    try walk_at "ev"
    refine ⟨_, atI_lt h2, ?_, ?_⟩
    · rw [show (⟨#[hs.cps.toList[n2]]⟩ : Str).length = 1 from rfl]
      show st.length + 1 ≤ 2 ^ 24
      omega
    · refine hJ _ _ ⟨_, _, rfl, ?_, ?_, B2.trans B3⟩
      · rw [ch_len, ch_app, List.length_append, ← ch_len]
        show st.length + 1 ≤ i + 1
        omega
      · intro c h
        rw [ch_app, List.mem_append] at h
        rcases h with h | h
        · exact hc c h
        · have : c = hs.cps.toList[n2] := by simpa using h
          rw [this]
          exact List.getElem_mem h2
  · rintro ρ S2 ⟨st, x, rfl, hl, hc, B2⟩
    have hl3 : st.length ≤ 3 := by simp at hl; omega
    have hL : st.length ≤ sizeLine := Nat.le_trans hl3 (by decide)
    try walk_at "ev"
    refine (pick hp.toHasBox B2 (by omega) (by omega)).mono ?_
    rintro _ S3 ⟨n2, rfl, hn2, B3⟩
    try walk_at "ev"
    refine (pick hp.toHasBox B3 (by decide) (by decide)).mono ?_
    rintro _ S4 ⟨n3, rfl, hn3, B4⟩
    have B5 := (B2.trans B3).trans B4
    refine ⟨by omega, ?_⟩
    refine wp_fF (fun i ρ S' => ∃ (ws : List Str) (x y : Option D), ρ = [some (.ref b), some (.str hs), some (.str tl), some (.int m), some (.str st), x, some (.int n2), some (.int n3), some (.ref S4.length), y] ∧ Own b S4.length (ws.map .str) S' ∧ ws.length = i ∧ Bx b S S' ∧
      ∀ (j : Nat) (w : Str), ws[j]? = some w → ∃ (h : Nat) (b : Nat), hs.cps.toList[(n3 + j * 5) % 26]? = some h ∧ b ≤ 1 ∧ w.cps.toList = st.cps.toList.take n2 ++ h :: st.cps.toList.drop n2 ++ (List.replicate b tl.cps.toList).flatten) ?_ ?_ ?_
    · exact ⟨[], _, _, rfl, Own.new B5.box, rfl, B5.app, by simp⟩
    · rintro i d ρ S5 hd ⟨ws, x, y, rfl, O5, hw, B5', hj⟩ J hJ
      have hi : i < m := by
        have := (List.getElem?_eq_some_iff.mp hd).1
        simpa using this
      have hd' : d = .int i := by
        rw [List.getElem?_map, List.getElem?_range hi] at hd
        exact (Option.some.inj hd).symm
      subst hd'
      refine ⟨_, rfl, ?_⟩
      obtain ⟨c, hc1, hc2⟩ := atI_mod hs.cps.toList 26 (n3 + i * 5) hh (by decide)
      have e0 : ((n3 : Int) + (i : Int) * 5) % 26 = ((n3 + i * 5 : Nat) : Int) % ((26 : Nat) : Int) := by push_cast; rfl
      rw [← e0] at hc1
      clear e0
      have e1 := O5.at_
      try walk_at "ev"
      have l1 : (L2.cutS st none (some (n2 : Int)) ++ (⟨#[c]⟩ : Str) ++ L2.cutS st (some (n2 : Int)) none).cps.toList = st.cps.toList.take n2 ++ c :: st.cps.toList.drop n2 := by
        rw [ch_app, ch_app, ch_to, ch_from]
        simp
      have l2 : (st.cps.toList.take n2).length + (st.cps.toList.drop n2).length = st.length := by
        rw [← List.length_append, List.take_append_drop, ch_len]
      have l3 : (L2.cutS st none (some (n2 : Int))).length = (st.cps.toList.take n2).length := by rw [ch_len, ch_to]
      have l4 : (L2.cutS st (some (n2 : Int)) none).length = (st.cps.toList.drop n2).length := by rw [ch_len, ch_from]
      have l5 : (L2.cutS st none (some (n2 : Int)) ++ (⟨#[c]⟩ : Str)).length = (st.cps.toList.take n2).length + 1 := by rw [ch_len, ch_app, List.length_append, ch_to]; rfl
      have l6 : (L2.cutS st none (some (n2 : Int)) ++ (⟨#[c]⟩ : Str) ++ L2.cutS st (some (n2 : Int)) none).length ≤ 4 := by
        rw [ch_len, l1, List.length_append, List.length_cons]; omega
      have sz : sizeLine = 16777216 := rfl
      refine ⟨by rw [l3]; show _ + 1 ≤ _; omega, by rw [l5, l4]; omega, ?_⟩
      generalize (L2.cutS st none (some (n2 : Int)) ++ (⟨#[c]⟩ : Str) ++ L2.cutS st (some (n2 : Int)) none) = w at *
      refine (pick hp.toHasBox B5' (by decide) (by decide)).mono ?_
      rintro _ S6 ⟨n4, rfl, hn4, B6⟩
      have O6 := O5.mono B6
      have e2 := O6.at_
      have hz : (⟨(List.replicate n4 tl.cps.toList).flatten.toArray⟩ : Str).length ≤ 1 := by
        rw [ch_len]
        show ((List.replicate n4 tl.cps.toList).flatten).length ≤ 1
        have h1 : tl.cps.toList.length ≤ 1 := by rw [← ch_len]; exact ht
        have : n4 = 0 ∨ n4 = 1 := by omega
        rcases this with rfl | rfl
        · simp
        · simpa using h1
      try walk_at "ev"
      refine ⟨⟨by omega, by omega⟩, by omega, by simp; omega, ?_⟩
      refine hJ _ _ ⟨ws ++ [w ++ ⟨(List.replicate n4 tl.cps.toList).flatten.toArray⟩], _, _, rfl, ?_, by simp [hw], (B5'.trans B6).setN ?_ O6.fr, ?_⟩
      · have := O6.set (es := ws.map D.str ++ [D.str (w ++ ⟨(List.replicate n4 tl.cps.toList).flatten.toArray⟩)])
        simpa using this
      · exact B5.len
      · intro j z hz'
        by_cases hji : j < ws.length
        · rw [List.getElem?_append_left hji] at hz'
          exact hj j z hz'
        · rw [List.getElem?_append_right (by omega)] at hz'
          have hj0 : j - ws.length = 0 := by
            have := (List.getElem?_eq_some_iff.mp hz').1
            simp at this
            omega
          rw [hj0] at hz'
          have : z = w ++ ⟨(List.replicate n4 tl.cps.toList).flatten.toArray⟩ := by simpa using hz'.symm
          subst this
          have hj1 : j = i := by omega
          subst hj1
          refine ⟨c, n4, hc2, by omega, ?_⟩
          rw [ch_app, l1]
    · rintro ρ S5 ⟨ws, x, y, rfl, O5, hw, B5', hj⟩
      try walk_at "ev"
      refine hQ _ _ ⟨⟨_, ws, rfl, O5, B5.len, by simpa using hw, ⟨st.cps.toList.take n2, st.cps.toList.drop n2, n3, ?_, ?_, hj⟩⟩, B5'⟩
      · rw [← List.length_append, List.take_append_drop, ← ch_len]
        exact hl3
      · rw [List.take_append_drop]
        exact hc
end
end VL
namespace VL
open PySem VM
/-- a step -/
structure St where
  s : Nat
  w : Str
  t : Nat
def St.d (x : St) : D := .tup [.int x.s, .str x.w, .int x.t]
def St.un (x y : St) : Prop := ¬ (x.s = y.s ∧ x.w = y.w)
theorem St.un_symm {x y : St} (h : St.un x y) : St.un y x := fun ⟨a, b⟩ => h ⟨a.symm, b.symm⟩
/-- a walker over words -/
structure Wk (c : Nat) (ws : List Str) (d : D) (start : Nat) (ends : List Nat) (steps : List St) : Prop where
  eq : d = .tup [.int c, .int start, .tup (ends.map fun (n : Nat) => .int n), .tup (steps.map St.d)]
  st : start < c
  el : ∀ e ∈ ends, e < c
  es : ends.Pairwise (· < ·)
  len : steps.length ≤ c * ws.length
  mem : ∀ x ∈ steps, x.s < c ∧ x.w ∈ ws ∧ x.t < c
  un : ws.Nodup → steps.Pairwise St.un
structure WkAt (b c : Nat) (ws : List Str) (d : D) (S S' : Sto) : Prop where
  ex : ∃ start ends steps, Wk c ws d start ends steps
  box : Bx b S S'
structure HasWalker (tbl : List (Nat × Fd)) : Prop extends HasBox tbl where
  walker : tbl.lookup 5 = some ⟨3, 9, b__law_walker⟩
/-- steps put together so far -/
structure StI (c : Nat) (ws : List Str) (i j : Nat) (acc : List St) : Prop where
  len : acc.length ≤ i * ws.length + j
  mem : ∀ x ∈ acc, x.s < c ∧ x.w ∈ ws ∧ x.t < c
  at_ : ∀ x ∈ acc, x.s < i ∨ x.s = i ∧ ∃ j', j' < j ∧ ws[j']? = some x.w
  un : ws.Nodup → acc.Pairwise St.un
theorem StI.nil {c : Nat} {ws : List Str} : StI c ws 0 0 [] := ⟨by simp, by simp, by simp, fun _ => .nil⟩
theorem StI.skip {c : Nat} {ws : List Str} {i j : Nat} {acc : List St} (h : StI c ws i j acc) : StI c ws i (j + 1) acc :=
  ⟨by have := h.len; omega, h.mem, fun x hx => (h.at_ x hx).imp_right fun ⟨a, j', b, e⟩ => ⟨a, j', by omega, e⟩, h.un⟩
theorem StI.next {c : Nat} {ws : List Str} {i : Nat} {acc : List St} (h : StI c ws i ws.length acc) : StI c ws (i + 1) 0 acc :=
  ⟨by have := h.len; rw [Nat.succ_mul]; omega, h.mem, fun x hx => .inl (by rcases h.at_ x hx with h | h <;> omega), h.un⟩
theorem StI.add {c : Nat} {ws : List Str} {i j t : Nat} {w : Str} {acc : List St} (h : StI c ws i j acc) (hi : i < c) (hw : ws[j]? = some w) (ht : t < c) : StI c ws i (j + 1) (acc ++ [⟨i, w, t⟩]) := by
  refine ⟨by have := h.len; simp; omega, ?_, ?_, fun nd => ?_⟩
  · intro x hx
    rw [List.mem_append, List.mem_singleton] at hx
    rcases hx with hx | rfl
    · exact h.mem x hx
    · exact ⟨hi, List.mem_of_getElem? hw, ht⟩
  · intro x hx
    rw [List.mem_append, List.mem_singleton] at hx
    rcases hx with hx | rfl
    · exact h.skip.at_ x hx
    · exact .inr ⟨rfl, j, by omega, hw⟩
  · rw [List.pairwise_append]
    refine ⟨h.un nd, List.pairwise_singleton _ _, fun x hx y hy => ?_⟩
    rw [List.mem_singleton] at hy
    subst hy
    rintro ⟨e1, e2⟩
    simp only at e1 e2
    rcases h.at_ x hx with h1 | ⟨_, j', h1, h2⟩
    · omega
    · rw [e2] at h2
      have := (List.getElem?_inj (List.getElem?_eq_some_iff.mp h2).1 nd).mp (h2.trans hw.symm)
      omega
section
variable {tbl : List (Nat × Fd)} {k b : Nat} {S S0 : Sto}
/-- A WALKER -/
theorem walker (hp : HasWalker tbl) {c r : Nat} {ws : List Str} (hc : 0 < c) (hc1 : c ≤ 1000) (hw : ws.length ≤ 1000) (hB : BoxOk b S) (hO : Own b r (ws.map .str) S) :
    Wp (callN tbl (k + 2) 5 [.ref b, .int c, .ref r] S) fun d S' => WkAt b c ws d S S' := by
  refine Wp.gen fun Q hQ => wp_call hp.walker rfl ?_
  have hbl := hB.lt
  have hcw : c * ws.length ≤ 1000000 := by
    have := Nat.mul_le_mul hc1 hw
    omega
  have sz : sizeLine = 16777216 := rfl
  unfold b__law_walker
  try walk_at "ev"
  refine (pick hp.toHasBox (.refl hB) (by decide) (by decide)).mono ?_
  rintro _ S1 ⟨n1, rfl, hn1, B1⟩
  try walk_at "ev"
  refine ⟨by omega, ?_⟩
  generalize ((n1 : Int) == 0) = full
  refine wp_fF (fun i ρ S' => ∃ (acc : List St) (x y : Option D), ρ = [some (.ref b), some (.int c), some (.ref r), some (.bl full), some (.ref S1.length), x, none, none, y] ∧ Own b S1.length (acc.map St.d) S' ∧ Bx b S S' ∧ StI c ws i 0 acc) ?_ ?_ ?_
  · exact ⟨[], _, _, rfl, Own.new B1.box, B1.app, .nil⟩
  · rintro i d ρ S2 hd ⟨acc, x, y, rfl, O2, B2, I2⟩ J hJ
    have hi : i < c := by
      have := (List.getElem?_eq_some_iff.mp hd).1
      simpa using this
    have hd' : d = .int i := by
      rw [List.getElem?_map, List.getElem?_range hi] at hd
      exact (Option.some.inj hd).symm
    subst hd'
    refine ⟨_, rfl, ?_⟩
    have e1 := (hO.mono B2).at_
    try walk_at "ev"
    refine wp_fR (ds := ws.map .str) (fun j ρ S' => ∃ (acc : List St) (y : Option D), ρ = [some (.ref b), some (.int c), some (.ref r), some (.bl full), some (.ref S1.length), some (.int i), none, none, y] ∧ Own b S1.length (acc.map St.d) S' ∧ Bx b S S' ∧ StI c ws i j acc) ?_ ?_ ?_ ?_
    · exact ⟨acc, _, rfl, O2, B2, I2⟩
    · rintro j ρ S3 ⟨_, _, _, _, B3, _⟩
      exact (hO.mono B3).at_
    · rintro j d ρ S3 hd ⟨acc, y, rfl, O3, B3, I3⟩ J' hJ'
      rw [List.getElem?_map] at hd
      cases e : ws[j]? with
      | none => rw [e] at hd; cases hd
      | some w =>
        rw [e] at hd
        cases hd
        refine ⟨_, rfl, ?_⟩
        try walk_at "ev"
        have step : ∀ S4 (R : Fl → Sto → Prop), Bx b S3 S4 → (∀ S5, J' [some (.ref b), some (.int c), some (.ref r), some (.bl full), some (.ref S1.length), some (.int i), none, none, some (.str w)] S5 → R (.nx [some (.ref b), some (.int c), some (.ref r), some (.bl full), some (.ref S1.length), some (.int i), none, none, some (.str w)]) S5) →
            Wp (exCs ⟨callN tbl (k + 1)⟩ (.cons (.ex (.bm .append (.var 4) (.cons (.tup (.cons (.var 5) (.cons (.var 8) (.cons (.call 3 (.cons (.var 0) (.cons (.var 1) .nil))) .nil)))) .nil))) .nil) [some (.ref b), some (.int c), some (.ref r), some (.bl full), some (.ref S1.length), some (.int i), none, none, some (.str w)] S4) R := by
          intro S4 R B4 hR
          have e4 := (O3.mono B4).at_
          try walk_at "ev"
          refine (pick hp.toHasBox (.refl B4.box) (by omega) (by omega)).mono ?_
          rintro _ S5 ⟨t, rfl, ht, B5⟩
          have O5 := (O3.mono B4).mono B5
          have e5 := O5.at_
          try walk_at "ev"
          have hl := I3.len
          have hlen : acc.length < sizeLine := by
            have h1 : i * ws.length ≤ c * ws.length := Nat.mul_le_mul_right _ (by omega)
            have h2 : j < ws.length := (List.getElem?_eq_some_iff.mp e).1
            omega
          refine ⟨by simp; omega, hR _ (hJ' _ _ ⟨acc ++ [⟨i, w, t⟩], _, rfl, ?_, ((B3.trans B4).trans B5).setN B1.len O5.fr, I3.add hi e (by omega)⟩)⟩
          have := O5.set (es := acc.map St.d ++ [St.d ⟨i, w, t⟩])
          simpa [St.d] using this
        refine orQ_by (fun h => ?_) (fun h => ?_) <;> clear h
        · exact step _ _ (.refl B3.box) (fun S5 h => by rw [seqQ_nx, wp_nil]; exact h)
        · try walk_at "ev"
          refine (pick hp.toHasBox (.refl B3.box) (by decide) (by decide)).mono ?_
          rintro _ S4 ⟨n2, rfl, hn2, B4⟩
          try walk_at "ev"
          refine ifQ_by (fun h => ?_) (fun h => ?_)
          · exact step _ _ B4 (fun S5 h => by rw [seqQ_nx, wp_nil]; exact h)
          · try walk_at "ev"
            exact hJ' _ _ ⟨acc, _, rfl, O3.mono B4, B3.trans B4, I3.skip⟩
    · rintro ρ S3 ⟨acc, y, rfl, O3, B3, I3⟩
      rw [List.length_map] at I3
      try walk_at "ev"
      exact hJ _ _ ⟨acc, _, _, rfl, O3, B3, I3.next⟩
  · rintro ρ S2 ⟨acc, x, y, rfl, O2, B2, I2⟩
    have I2' : StI c ws c 0 acc := by simpa using I2
    have hl := I2'.len
    have e2 := O2.at_
    try walk_at "ev"
    refine (pick hp.toHasBox (.refl B2.box) (by omega) (by simp; omega)).mono ?_
    rintro _ S3 ⟨at0, rfl, hat, B3⟩
    have e3 := (O2.mono B3).at_
    have B3' := B2.trans B3
    have l3 := lstAt_lt e3
    have hat' : at0 ≤ acc.length := by simp at hat; omega
    have fin : ∀ (q : Nat) (ys : List St) (S5 : Sto), ys.Perm acc → Own b q (ys.map St.d) S5 → Bx b S S5 → Wp (exCs ⟨callN tbl (k + 1)⟩ (.cons (.set 7 (.lc (.var 5) (.nm 5) (.rng1 (.var 1)) (.cmp .gt (.call 3 (.cons (.var 0) (.cons (.int 3) .nil))) (.int 0)) [("state", 5)])) (.cons (.ret (.tup (.cons (.var 1) (.cons (.call 3 (.cons (.var 0) (.cons (.var 1) .nil))) (.cons (.bi .tuple (.cons (.var 7) .nil)) (.cons (.bi .tuple (.cons (.var 4) .nil)) .nil)))))) .nil))
        [some (.ref b), some (.int c), some (.ref r), some (.bl full), some (.ref q), x, some (.int at0), none, y] S5) (retQ Q) := by
      intro q ys S5 hys O5 B5
      try walk_at "ev"
      refine ⟨by omega, ?_⟩
      refine wp_lF (fun i ds S' => ∃ es : List Nat, ds = es.map (fun (n : Nat) => D.int n) ∧ Own b q (ys.map St.d) S' ∧ Bx b S S' ∧ es.length ≤ i ∧ (∀ e ∈ es, e < i) ∧ es.Pairwise (· < ·)) ?_ ?_ ?_
      · exact ⟨[], rfl, O5, B5, by simp, by simp, .nil⟩
      · rintro i d ds S6 hd ⟨es, rfl, O6, B6, h1, h2, h3⟩ J K hJ hK
        have hi : i < c := by
          have := (List.getElem?_eq_some_iff.mp hd).1
          simpa using this
        have hd' : d = .int i := by
          rw [List.getElem?_map, List.getElem?_range hi] at hd
          exact (Option.some.inj hd).symm
        subst hd'
        refine ⟨_, rfl, ?_⟩
        try walk_at "ev"
        refine (pick hp.toHasBox (.refl B6.box) (by decide) (by decide)).mono ?_
        rintro _ S7 ⟨n5, rfl, hn5, B7⟩
        try walk_at "ev"
        refine lcQ_by (fun h => ?_) (fun h => ?_) <;> clear h
        · try walk_at "ev"
          refine hJ _ _ (by simp; omega) ⟨es ++ [i], by simp, O6.mono B7, B6.trans B7, by simp; omega, ?_, ?_⟩
          · intro e he
            rw [List.mem_append, List.mem_singleton] at he
            rcases he with he | rfl
            · have := h2 e he; omega
            · omega
          · rw [List.pairwise_append]
            refine ⟨h3, List.pairwise_singleton _ _, fun x hx y hy => ?_⟩
            rw [List.mem_singleton] at hy
            subst hy
            exact h2 x hx
        · exact hK _ ⟨es, rfl, O6.mono B7, B6.trans B7, by omega, fun e he => Nat.lt_succ_of_lt (h2 e he), h3⟩
      · rintro ds S6 ⟨es, rfl, O6, B6, h1, h2, h3⟩
        have h2' : ∀ e ∈ es, e < c := by simpa using h2
        have O6' := O6.app (T := [.lst (es.map fun (n : Nat) => D.int n)]) B6.box
        have O6'' := Own.new (ds := es.map fun (n : Nat) => D.int n) B6.box
        have B6' := B6.app (T := [.lst (es.map fun (n : Nat) => D.int n)])
        try walk_at "ev"
        refine (pick hp.toHasBox (.refl B6'.box) (by omega) (by omega)).mono ?_
        rintro _ S7 ⟨start, rfl, hst, B7⟩
        have e7 := (O6'.mono B7).at_
        have e8 := (O6''.mono B7).at_
        try walk_at "ev"
        refine hQ _ _ ⟨⟨start, es, ys, rfl, by omega, h2', h3, ?_, ?_, ?_⟩, B6'.trans B7⟩
        · rw [hys.length_eq]; omega
        · intro x hx
          exact I2'.mem x (hys.mem_iff.mp hx)
        · intro nd
          exact (hys.pairwise_iff (fun h => St.un_symm h)).mpr (I2'.un nd)
    have hdt : ∀ (ys : List St), List.drop at0 (ys.map St.d) ++ List.take at0 (ys.map St.d) = (ys.drop at0 ++ ys.take at0).map St.d := by
      intro ys; simp
    have hperm : (acc.drop at0 ++ acc.take at0).Perm acc := by
      have := (List.perm_append_comm (l₁ := acc.drop at0) (l₂ := acc.take at0))
      rwa [List.take_append_drop] at this
    try walk_at "ev"
    refine ⟨by simp; omega, ?_⟩
    have B4 : Bx b S (S3 ++ [O.lst (List.drop at0 (List.map St.d acc))] ++ [O.lst (List.take at0 (List.map St.d acc))]) := B3'.app.app
    have O4 := Own.new (ds := (acc.drop at0 ++ acc.take at0).map St.d) B4.box
    generalize (S3 ++ [O.lst (List.drop at0 (List.map St.d acc))] ++ [O.lst (List.take at0 (List.map St.d acc))]) = S4 at *
    refine (pick hp.toHasBox (.refl B4.app.box) (by decide) (by decide)).mono ?_
    rintro _ S5 ⟨n6, rfl, hn6, B5⟩
    have O5 := O4.mono B5
    have e5 := O5.at_
    have B5' := B4.app.trans B5
    try walk_at "ev"
    refine ifQ_by (fun h => ?_) (fun h => ?_) <;> clear h
    · rw [wp_cons]
      try walk_at "ev1"
      rw [seqQ_nx, wp_nil, seqQ_nx]
      refine fin _ ((acc.drop at0 ++ acc.take at0).reverse) _ ((List.reverse_perm _).trans hperm) ?_ B5'.app
      rw [List.map_reverse]
      exact Own.new B5'.box
    · simp only [wp_nil, seqQ_nx]
      exact fin _ _ _ hperm O5 B5'
end
end VL
namespace VL
open PySem VM
/-! ### steps, plainly -/
def stepP (xs : List St) (s : Nat) (w : Str) : Option Nat := (xs.find? fun x => x.s == s && x.w == w).map (·.t)
def optN : Option Nat → D
  | none => .non
  | some t => .int t
def takenP (xs : List St) (ends : List Nat) : Nat → List Str → Bool
  | s, [] => ends.any (· == s)
  | s, w :: ws => match stepP xs s w with
    | none => false
    | some t => takenP xs ends t ws
/-- a walker as it lies there -/
def wkD (c start : Nat) (ends : List Nat) (steps : List St) : D := .tup [.int c, .int start, .tup (ends.map fun (n : Nat) => .int n), .tup (steps.map St.d)]
theorem mapO_ints {S : Sto} {n : Nat} : ∀ es : List Nat, mapO (toP S n) (es.map fun (n : Nat) => D.int n) = some (es.map fun (n : Nat) => PyData.int n)
  | [] => rfl
  | e :: es => by
    rw [List.map_cons, mapO, mapO_ints es]
    cases n <;> rfl
theorem inD_nats {S : Sto} {s : Nat} {es : List Nat} : inD (.int s) (.tup (es.map fun (n : Nat) => .int n)) S = some (es.any (· == s)) := by
  show (match toP S 150 (.int s), toP S 150 (.tup (es.map fun (n : Nat) => .int n)) with
    | some a, some (.tuple bs) => some (bs.any fun b => PyData.eqv b a)
    | some a, some (.list bs) => some (bs.any fun b => PyData.eqv b a)
    | _, _ => none) = _
  have e : toP S 150 (.tup (es.map fun (n : Nat) => .int n)) = some (.tuple (es.map fun (n : Nat) => PyData.int n)) := by
    show (mapO (toP S 149) _).map PyData.tuple = _
    rw [mapO_ints]
    rfl
  rw [e]
  show some _ = _
  congr 1
  rw [List.any_map]
  congr 1
  funext n
  show ((n : Int) == (s : Int)) = (n == s)
  exact Bool.eq_iff_iff.mpr (by rw [beq_iff_eq, beq_iff_eq]; omega)
theorem nat_beq (n s : Nat) : ((n : Int) == (s : Int)) = (n == s) := by
  exact Bool.eq_iff_iff.mpr (by rw [beq_iff_eq, beq_iff_eq]; omega)
section
variable {tbl : List (Nat × Fd)} {k b : Nat} {S S0 : Sto} {c start : Nat} {ends : List Nat} {steps : List St}
theorem step_from (hf : tbl.lookup 0 = some ⟨3, 6, b_step_from⟩) {s : Nat} {w : Str} {Q : D → Sto → Prop} (h : Q (optN (stepP steps s w)) S) : Wp (callN tbl (k + 1) 0 [wkD c start ends steps, .int s, .str w] S) Q := by
  refine wp_call hf rfl ?_
  unfold b_step_from wkD
  try walk_at "ev"
  refine wp_fF (fun i ρ S' => ∃ x y z : Option D, ρ = [some (wkD c start ends steps), some (.int s), some (.str w), x, y, z] ∧ S' = S ∧ (steps.take i).find? (fun x => x.s == s && x.w == w) = none) ?_ ?_ ?_
  · exact ⟨_, _, _, rfl, rfl, rfl⟩
  · rintro i d ρ S' hd ⟨x, y, z, rfl, rfl, hn⟩ J hJ
    rw [List.getElem?_map] at hd
    cases e : steps[i]? with
    | none => rw [e] at hd; cases hd
    | some a =>
      rw [e] at hd
      cases hd
      refine ⟨_, rfl, ?_⟩
      have hi : i < steps.length := (List.getElem?_eq_some_iff.mp e).1
      have ht : steps.take (i + 1) = steps.take i ++ [a] := by rw [List.take_succ, e]; rfl
      have hs : ∃ r, steps = steps.take i ++ a :: r := by
        refine ⟨steps.drop (i + 1), ?_⟩
        conv => lhs; rw [← List.take_append_drop i steps]
        rw [List.drop_eq_getElem_cons hi]
        have : steps[i] = a := by rw [List.getElem?_eq_getElem hi] at e; exact Option.some.inj e
        rw [this]
      try walk_at "ev"
      rw [nat_beq]
      have out : (a.s == s && a.w == w) = false → J [some (wkD c start ends steps), some (.int s), some (.str w), some (.int a.s), some (.str a.w), some (.int a.t)] S' := by
        intro h1
        refine hJ _ _ ⟨_, _, _, rfl, rfl, ?_⟩
        rw [ht, List.find?_append, hn, List.find?_cons, h1]
        rfl
      unfold wkD at out
      refine andQ_by (fun h1 => ?_) (fun h1 => ?_)
      · try walk_at "ev"
        refine ifQ_by (fun h2 => ?_) (fun h2 => ?_)
        · try walk_at "ev"
          have : stepP steps s w = some a.t := by
            unfold stepP
            obtain ⟨r, hs⟩ := hs
            rw [hs, List.find?_append, hn, List.find?_cons, h1, h2]
            rfl
          rw [this] at h
          exact h
        · try walk_at "ev"
          exact out (by rw [h1, h2]; rfl)
      · try walk_at "ev"
        exact out (by rw [h1]; rfl)
  · rintro ρ S' ⟨x, y, z, rfl, rfl, hn⟩
    try walk_at "ev"
    rw [List.length_map, List.take_length] at hn
    unfold stepP at h
    rw [hn] at h
    exact h
/-- WALKED, by a list of what comes behind -/
theorem walked (hf : tbl.lookup 6 = some ⟨2, 6, b__law_walked⟩) {row : List Str} (hl : steps.length ≤ 1000000) : Wp (callN tbl (k + 1) 6 [wkD c start ends steps, .tup (row.map .str)] S) fun d S' => d = .bl (takenP steps ends start row) ∧ Ext S S' := by
  refine Wp.gen fun Q hQ => wp_call hf rfl ?_
  have sz : sizeLine = 16777216 := rfl
  unfold b__law_walked wkD
  try walk_at "ev"
  refine wp_fF (fun i ρ S' => ∃ (s : Nat) (x y z : Option D), ρ = [some (wkD c start ends steps), some (.tup (row.map .str)), some (.int s), x, y, z] ∧ Ext S S' ∧ takenP steps ends start row = takenP steps ends s (row.drop i)) ?_ ?_ ?_
  · exact ⟨start, _, _, _, rfl, .refl _, rfl⟩
  · rintro i d ρ S1 hd ⟨s, x, y, z, rfl, X1, ht⟩ J hJ
    rw [List.getElem?_map] at hd
    cases e : row[i]? with
    | none => rw [e] at hd; cases hd
    | some w =>
      rw [e] at hd
      cases hd
      have hr : row.drop i = w :: row.drop (i + 1) := by
        have hi := (List.getElem?_eq_some_iff.mp e)
        obtain ⟨hi, e'⟩ := hi
        rw [List.drop_eq_getElem_cons hi, e']
      rw [hr] at ht
      clear hr
      refine ⟨_, rfl, ?_⟩
      unfold wkD
      try walk_at "ev"
      refine wp_lF (fun j ds S' => ds = ((steps.take j).filter fun x => x.s == s && x.w == w).map (fun x => D.int x.t) ∧ Ext S S') ?_ ?_ ?_
      · exact ⟨rfl, X1⟩
      · rintro j d ds S2 hd ⟨rfl, X2⟩ J' K' hJ' hK'
        rw [List.getElem?_map] at hd
        cases ea : steps[j]? with
        | none => rw [ea] at hd; cases hd
        | some a =>
          rw [ea] at hd
          cases hd
          have hta : steps.take (j + 1) = steps.take j ++ [a] := by rw [List.take_succ, ea]; rfl
          rw [hta, List.filter_append, List.map_append] at hJ' hK'
          have hlen : (((steps.take j).filter fun x => x.s == s && x.w == w).map (fun x => D.int x.t)).length < sizeLine := by
            rw [List.length_map]
            have := List.length_filter_le (fun x => x.s == s && x.w == w) (steps.take j)
            rw [List.length_take] at this
            omega
          refine ⟨_, rfl, ?_⟩
          unfold St.d
          try walk_at "ev"
          rw [nat_beq]
          refine andQ_by (fun h1 => ?_) (fun h1 => ?_)
          · try walk_at "ev"
            refine lcQ_by (fun h2 => ?_) (fun h2 => ?_)
            · try walk_at "ev"
              refine hJ' _ _ hlen ⟨?_, X2⟩
              rw [List.filter_cons, h1, h2]
              rfl
            · refine hK' _ ⟨?_, X2⟩
              rw [List.filter_cons, h1, h2]
              exact (List.append_nil _).symm
          · refine hK' _ ⟨?_, X2⟩
            rw [List.filter_cons, h1]
            exact (List.append_nil _).symm
      · rintro ds S2 ⟨rfl, X2⟩
        have X3 := X2.trans (Ext.app S2 [.lst (((steps.take (steps.map fun x : St => x.d).length).filter fun x => x.s == s && x.w == w).map (fun x => D.int x.t))])
        rw [List.length_map, List.take_length] at *
        have hp : stepP steps s w = ((steps.filter fun x => x.s == s && x.w == w).head?).map (·.t) := by rw [List.head?_filter]; rfl
        have hn : takenP steps ends s (w :: row.drop (i + 1)) = match stepP steps s w with | none => false | some t => takenP steps ends t (row.drop (i + 1)) := rfl
        rw [hp] at hn
        rw [hn] at ht
        clear hp hn
        generalize (steps.filter fun x => x.s == s && x.w == w) = fl at *
        cases fl with
        | nil =>
          try walk_at "ev"
          refine ifQ_by (fun h => ?_) (fun h => absurd h (by decide))
          try walk_at "ev"
          exact hQ _ _ ⟨by rw [ht]; rfl, X3⟩
        | cons a fl =>
          try walk_at "ev"
          refine ifQ_by (fun h => absurd (beq_iff_eq.mp h) (by omega)) (fun h => ?_)
          try walk_at "ev"
          exact hJ _ _ ⟨a.t, _, _, _, rfl, X3, ht⟩
  · rintro ρ S1 ⟨s, x, y, z, rfl, X1, ht⟩
    rw [List.length_map, List.drop_length] at ht
    unfold wkD
    try walk_at "ev"
    rw [inD_nats]
    refine ⟨_, rfl, hQ _ _ ⟨by rw [ht]; rfl, X1⟩⟩
end
end VL
namespace VL
open PySem VM
/-! ### trees, plainly -/
inductive Tr where
  | lf (kind : Str) (rest : List D)
  | knot (name : Str) (worn : D) (kids : List Tr)
def plD (p : List Nat) : D := .tup (p.map fun (n : Nat) => .int n)
mutual
def Tr.enc : Tr → D
  | .lf k r => .tup (.str k :: r)
  | .knot n w ks => .tup [.str "knot", .str n, w, .tup (encs ks)]
def encs : List Tr → List D
  | [] => []
  | t :: ts => t.enc :: encs ts
end
mutual
def Tr.subs : Tr → List Tr
  | .lf k r => [.lf k r]
  | .knot n w ks => .knot n w ks :: subsL ks
def subsL : List Tr → List Tr
  | [] => []
  | t :: ts => t.subs ++ subsL ts
end
mutual
def Tr.pls : Tr → List (List Nat)
  | .lf _ _ => [[]]
  | .knot _ _ ks => [] :: plsL 0 ks
def plsL : Nat → List Tr → List (List Nat)
  | _, [] => []
  | i, t :: ts => t.pls.map (i :: ·) ++ plsL (i + 1) ts
end
mutual
def Tr.dep : Tr → Nat
  | .lf _ _ => 0
  | .knot _ _ ks => 1 + depL ks
def depL : List Tr → Nat
  | [] => 0
  | t :: ts => max t.dep (depL ts)
end
mutual
def Tr.ok : Tr → Prop
  | .lf k r => k ≠ "knot" ∧ (k = "foot" ∨ k = "sign" → ∃ d, r = [d])
  | .knot _ _ ks => okL ks
def okL : List Tr → Prop
  | [] => True
  | t :: ts => t.ok ∧ okL ts
end
def Tr.kids : Tr → List Tr
  | .lf _ _ => []
  | .knot _ _ ks => ks
def Tr.kd : Tr → Str
  | .lf k _ => k
  | .knot _ _ _ => "knot"
def Tr.one : Tr → D
  | .lf _ (d :: _) => d
  | .knot n _ _ => .str n
  | _ => .non
def atP : List Nat → Tr → Option Tr
  | [], t => some t
  | i :: p, t => (t.kids[i]?).bind (atP p)
theorem encs_map : ∀ ts : List Tr, encs ts = ts.map Tr.enc
  | [] => by rw [encs]; rfl
  | t :: ts => by rw [encs, List.map_cons, encs_map ts]
theorem okL_iff : ∀ ts : List Tr, okL ts ↔ ∀ t ∈ ts, t.ok
  | [] => by rw [okL]; simp
  | t :: ts => by rw [okL, okL_iff ts]; simp
theorem depL_le : ∀ (ts : List Tr) (n : Nat), depL ts ≤ n ↔ ∀ t ∈ ts, t.dep ≤ n
  | [], n => by rw [depL]; simp
  | t :: ts, n => by
    rw [depL]
    have := depL_le ts n
    simp only [List.mem_cons, forall_eq_or_imp]
    rw [← this]
    omega
theorem subsL_map : ∀ ts : List Tr, subsL ts = ts.flatMap Tr.subs
  | [] => by rw [subsL]; rfl
  | t :: ts => by rw [subsL, List.flatMap_cons, subsL_map ts]
theorem plsL_app : ∀ (a b : List Tr) (j : Nat), plsL j (a ++ b) = plsL j a ++ plsL (j + a.length) b
  | [], b, j => by rw [plsL]; rfl
  | t :: a, b, j => by
    rw [List.cons_append, plsL, plsL, plsL_app a b (j + 1), List.append_assoc, List.length_cons]
    rw [show j + 1 + a.length = j + (a.length + 1) by omega]
theorem Tr.ok_kids {t : Tr} (h : t.ok) : ∀ u ∈ t.kids, u.ok := by
  cases t with
  | lf k r => intro u hu; cases hu
  | knot n w ks =>
    rw [Tr.ok] at h
    exact (okL_iff ks).mp h
theorem Tr.dep_kids {t u : Tr} (h : u ∈ t.kids) : u.dep + 1 ≤ t.dep := by
  cases t with
  | lf k r => cases h
  | knot n w ks =>
    rw [Tr.dep]
    have := (depL_le ks (depL ks)).mp (Nat.le_refl _) u h
    omega
theorem Tr.pls_eq (t : Tr) : t.pls = [] :: plsL 0 t.kids := by
  cases t with
  | lf k r => rw [Tr.pls, Tr.kids, plsL]
  | knot n w ks => rw [Tr.pls, Tr.kids]
theorem Tr.subs_eq (t : Tr) : t.subs = t :: subsL t.kids := by
  cases t with
  | lf k r => rw [Tr.subs, Tr.kids, subsL]
  | knot n w ks => rw [Tr.subs, Tr.kids]
mutual
theorem pls_at : ∀ t : Tr, t.pls.map (fun p => atP p t) = t.subs.map some
  | .lf k r => by rw [Tr.pls, Tr.subs]; rfl
  | .knot n w ks => by
    rw [Tr.pls, Tr.subs, List.map_cons, List.map_cons]
    have := plsL_at ks [] n w
    rw [List.nil_append] at this
    rw [← this]
    rfl
theorem plsL_at : ∀ (ts pre : List Tr) (n : Str) (w : D), (plsL pre.length ts).map (fun p => atP p (.knot n w (pre ++ ts))) = (subsL ts).map some
  | [], pre, n, w => by rw [plsL, subsL]; rfl
  | t :: ts, pre, n, w => by
    rw [plsL, subsL, List.map_append, List.map_append, List.map_map]
    have h1 : (fun p => atP p (.knot n w (pre ++ t :: ts))) ∘ (fun p => pre.length :: p) = fun p => atP p t := by
      funext p
      show (((Tr.knot n w (pre ++ t :: ts)).kids)[pre.length]?).bind (atP p) = atP p t
      have : ((Tr.knot n w (pre ++ t :: ts)).kids)[pre.length]? = some t := by
        show (pre ++ t :: ts)[pre.length]? = some t
        rw [List.getElem?_append_right (Nat.le_refl _)]
        simp
      rw [this]
      rfl
    rw [h1, pls_at t]
    have h2 := plsL_at ts (pre ++ [t]) n w
    rw [List.append_assoc, List.length_append] at h2
    have h3 : pre ++ ([t] ++ ts) = pre ++ t :: ts := rfl
    rw [h3] at h2
    rw [← h2]
    rfl
end
mutual
theorem pls_len : ∀ (t : Tr) (p : List Nat), p ∈ t.pls → p.length ≤ t.dep
  | .lf k r, p, h => by
    rw [Tr.pls, List.mem_singleton] at h
    subst h
    exact Nat.zero_le _
  | .knot n w ks, p, h => by
    rw [Tr.pls, List.mem_cons] at h
    rw [Tr.dep]
    rcases h with rfl | h
    · exact Nat.zero_le _
    · have := plsL_len ks 0 p h
      omega
theorem plsL_len : ∀ (ts : List Tr) (i : Nat) (p : List Nat), p ∈ plsL i ts → p.length ≤ 1 + depL ts
  | [], i, p, h => by rw [plsL] at h; cases h
  | t :: ts, i, p, h => by
    rw [plsL, List.mem_append] at h
    rw [depL]
    rcases h with h | h
    · obtain ⟨q, hq, rfl⟩ := List.mem_map.mp h
      have := pls_len t q hq
      rw [List.length_cons]
      omega
    · have := plsL_len ts (i + 1) p h
      omega
end
theorem pls_subs_len (t : Tr) : t.pls.length = t.subs.length := by
  have := congrArg List.length (pls_at t)
  simpa using this
mutual
theorem subs_ok : ∀ (t : Tr), t.ok → ∀ u ∈ t.subs, u.ok
  | .lf k r, h, u, hu => by
    rw [Tr.subs, List.mem_singleton] at hu
    subst hu
    exact h
  | .knot n w ks, h, u, hu => by
    rw [Tr.subs, List.mem_cons] at hu
    rcases hu with rfl | hu
    · exact h
    · rw [Tr.ok] at h
      exact subsL_ok ks h u hu
theorem subsL_ok : ∀ (ts : List Tr), okL ts → ∀ u ∈ subsL ts, u.ok
  | [], _, u, hu => by rw [subsL] at hu; cases hu
  | t :: ts, h, u, hu => by
    rw [okL] at h
    rw [subsL, List.mem_append] at hu
    rcases hu with hu | hu
    · exact subs_ok t h.1 u hu
    · exact subsL_ok ts h.2 u hu
end
theorem Tr.enc0 (t : Tr) : ∃ r, t.enc = .tup (.str t.kd :: r) := by
  cases t with
  | lf k r => exact ⟨r, by rw [Tr.enc, Tr.kd]⟩
  | knot n w ks => exact ⟨_, by rw [Tr.enc, Tr.kd]⟩
theorem Tr.idx0 (t : Tr) (S : Sto) (Q : D → Sto → Prop) : Wp (idxD t.enc (.int 0) S) Q = Q (.str t.kd) S := by
  obtain ⟨r, e⟩ := t.enc0
  rw [e]
  try walk_at "ev"
/-- the defs by their places -/
structure HasTrees (tbl : List (Nat × Fd)) : Prop where
  kids : tbl.lookup 90 = some ⟨1, 1, b_kids_of⟩
  places : tbl.lookup 91 = some ⟨1, 5, b_places⟩
  piece : tbl.lookup 92 = some ⟨2, 5, b_piece_at⟩
section
variable {tbl : List (Nat × Fd)} {k : Nat} {S : Sto}
theorem kids_sp (hp : HasTrees tbl) {t : Tr} (h : t.ok) (Q : D → Sto → Prop) (hQ : Q (.tup (encs t.kids)) S) : Wp (callN tbl (k + 1) 90 [t.enc] S) Q := by
  refine wp_call hp.kids rfl ?_
  unfold b_kids_of
  have e0 := t.idx0
  try walk_at "ev"
  cases t with
  | lf kd r =>
    rw [Tr.ok] at h
    have : (kd == ("knot" : Str)) = false := beq_eq_false_iff_ne.mpr h.1
    rw [Tr.kd, this]
    rw [Tr.kids, encs] at hQ
    clear e0
    try walk_at "ev"
  | knot n w ks =>
    have : ((Tr.knot n w ks).kd == ("knot" : Str)) = true := by rw [Tr.kd]; exact beq_self_eq_true _
    rw [this]
    rw [Tr.kids] at hQ
    clear e0
    rw [Tr.enc]
    try walk_at "ev"
/-- PLACES -/
theorem places_sp (hp : HasTrees tbl) : ∀ (n : Nat) (t : Tr) (k : Nat) (S : Sto) (Q : D → Sto → Prop), t.dep ≤ n → n ≤ 1000 → t.ok → t.subs.length ≤ 100000 →
    (∀ r S', Ext S S' → S.length ≤ r → lstAt S' r = some (t.pls.map plD) → Q (.ref r) S') → Wp (callN tbl (k + n + 2) 91 [t.enc] S) Q := by
  intro n
  induction n with
  | zero =>
    intro t k S Q hd hn ht hs hQ
    have hk : t.kids = [] := by
      cases e : t.kids with
      | nil => rfl
      | cons u us =>
        have := t.dep_kids (u := u) (by rw [e]; exact List.mem_cons_self)
        omega
    refine wp_call hp.places rfl ?_
    unfold b_places
    try walk_at "ev"
    refine kids_sp hp ht _ ?_
    rw [hk, encs]
    try walk_at "ev"
    refine wp_fF (fun i ρ S' => ρ = [some t.enc, some (.ref S.length), none, none, none] ∧ S' = S ++ [.lst [.tup []]]) ⟨rfl, rfl⟩ ?_ ?_
    · rintro i d ρ S' hd
      simp [enumL] at hd
    · rintro ρ S' ⟨rfl, rfl⟩
      try walk_at "ev"
      refine hQ _ _ (Ext.app _ _) (Nat.le_refl _) ?_
      rw [lstAt_new, t.pls_eq, hk, plsL]
      rfl
  | succ n ih =>
    intro t k S Q hd hn ht hs hQ
    have sz : sizeLine = 16777216 := rfl
    have hpl : t.pls.length ≤ 100000 := by rw [pls_subs_len]; exact hs
    refine wp_call hp.places rfl ?_
    unfold b_places
    try walk_at "ev"
    refine kids_sp hp ht _ ?_
    rw [encs_map]
    try walk_at "ev"
    refine wp_fF (fun i ρ S' => ∃ x y z, ρ = [some t.enc, some (.ref S.length), x, y, z] ∧ Ext S S' ∧ lstAt S' S.length = some (([] :: plsL 0 (t.kids.take i)).map plD)) ?_ ?_ ?_
    · exact ⟨_, _, _, rfl, Ext.app _ _, by rw [lstAt_new]; rfl⟩
    · rintro i d ρ S1 hd' ⟨x, y, z, rfl, X1, L1⟩ J hJ
      rw [enumL_get, List.getElem?_map] at hd'
      cases eu : t.kids[i]? with
      | none => rw [eu] at hd'; cases hd'
      | some u =>
        rw [eu] at hd'
        cases hd'
        have hu : u ∈ t.kids := List.mem_of_getElem? eu
        have hud := t.dep_kids hu
        have huo := Tr.ok_kids ht u hu
        obtain ⟨hi, eu'⟩ := List.getElem?_eq_some_iff.mp eu
        have htk : t.kids.take (i + 1) = t.kids.take i ++ [u] := by rw [List.take_succ, eu]; rfl
        have hkk : ∃ r, t.kids = t.kids.take i ++ u :: r := ⟨t.kids.drop (i + 1), by
          conv => lhs; rw [← List.take_append_drop i t.kids]
          rw [List.drop_eq_getElem_cons hi, eu']⟩
        obtain ⟨rr, hkk⟩ := hkk
        have hpe : t.pls = ([] :: plsL 0 (t.kids.take i)) ++ (u.pls.map (i :: ·) ++ plsL (i + 1) rr) := by
          rw [t.pls_eq]
          conv => lhs; rw [hkk]
          rw [plsL_app, plsL, List.length_take, Nat.min_eq_left (Nat.le_of_lt hi), Nat.zero_add]
          rfl
        have hpl' : ([] :: plsL 0 (t.kids.take i)).length + (u.pls.length + (plsL (i + 1) rr).length) = t.pls.length := by
          rw [hpe, List.length_append, List.length_append, List.length_map]
        clear hkk hpe
        refine ⟨_, rfl, ?_⟩
        rw [Nat.zero_add]
        try walk_at "ev"
        have hl1 := lstAt_lt L1
        refine ih u k S1 _ (by omega) (by omega) huo ?_ ?_
        · rw [← pls_subs_len]; omega
        · intro r S2 X2 hr L2
          have L1' := X2.lst L1
          try walk_at "ev"
          refine wp_fR (ds := u.pls.map plD) (fun j ρ S3 => ∃ x, ρ = [some t.enc, some (.ref S.length), some (.int i), some u.enc, x] ∧ Ext S S3 ∧ lstAt S3 r = some (u.pls.map plD) ∧ lstAt S3 S.length = some ((([] :: plsL 0 (t.kids.take i)) ++ (u.pls.take j).map (i :: ·)).map plD)) ?_ ?_ ?_ ?_
          · exact ⟨_, rfl, X1.trans X2, L2, by rw [L1']; simp⟩
          · rintro j ρ S3 ⟨x, _, _, L3, _⟩
            exact L3
          · rintro j d ρ S3 hd3 ⟨x, rfl, X3, L3, M3⟩ J' hJ'
            rw [List.getElem?_map] at hd3
            cases ep : u.pls[j]? with
            | none => rw [ep] at hd3; cases hd3
            | some p =>
              rw [ep] at hd3
              cases hd3
              have hpm := List.mem_of_getElem? ep
              have hp1 := pls_len u p hpm
              have hj := (List.getElem?_eq_some_iff.mp ep).1
              have hne : r ≠ S.length := by omega
              have htp : u.pls.take (j + 1) = u.pls.take j ++ [p] := by rw [List.take_succ, ep]; rfl
              have hl3 := lstAt_lt M3
              refine ⟨_, rfl, ?_⟩
              unfold plD
              try walk_at "ev"
              refine ⟨by simp; omega, by simp only [List.length_map, List.length_append, List.length_take, List.length_cons] at *; omega, ?_⟩
              refine hJ' _ _ ⟨_, rfl, X3.set (Nat.le_refl _) _, ?_, ?_⟩
              · rw [lstAt_set_ne hne]; exact L3
              · rw [lstAt_set hl3, htp]
                simp [plD]
          · rintro ρ S3 ⟨x, rfl, X3, L3, M3⟩
            try walk_at "ev"
            refine hJ _ _ ⟨_, _, _, rfl, X3, ?_⟩
            rw [M3, htk, plsL_app, List.length_map, List.take_length, List.length_take, Nat.min_eq_left (Nat.le_of_lt hi), Nat.zero_add, plsL, plsL, List.append_nil]
            rfl
    · rintro ρ S1 ⟨x, y, z, rfl, X1, L1⟩
      rw [enumL_len, List.length_map, List.take_length, ← t.pls_eq] at L1
      try walk_at "ev"
/-- THE PIECE AT A PLACE -/
theorem piece_sp (hp : HasTrees tbl) {t u : Tr} {p : List Nat} (ht : t.ok) (hat : atP p t = some u) (Q : D → Sto → Prop) (hQ : Q u.enc S) : Wp (callN tbl (k + 2) 92 [t.enc, plD p] S) Q := by
  refine wp_call hp.piece rfl ?_
  unfold b_piece_at plD
  try walk_at "ev"
  refine wp_fF (fun i ρ S' => ∃ (v : Tr) (x y : Option D), ρ = [some t.enc, some (.tup (p.map fun (n : Nat) => .int n)), some v.enc, x, y] ∧ S' = S ∧ v.ok ∧ atP (p.drop i) v = some u) ?_ ?_ ?_
  · exact ⟨t, _, _, rfl, rfl, ht, hat⟩
  · rintro i d ρ S' hd ⟨v, x, y, rfl, rfl, hv, ha⟩ J hJ
    rw [List.getElem?_map] at hd
    cases ei : p[i]? with
    | none => rw [ei] at hd; cases hd
    | some j =>
      rw [ei] at hd
      cases hd
      obtain ⟨hi, ei'⟩ := List.getElem?_eq_some_iff.mp ei
      rw [List.drop_eq_getElem_cons hi, ei'] at ha
      have ha' : (v.kids[j]?).bind (atP (p.drop (i + 1))) = some u := ha
      cases ew : v.kids[j]? with
      | none => rw [ew] at ha'; cases ha'
      | some w =>
        rw [ew] at ha'
        replace ha' : atP (p.drop (i + 1)) w = some u := ha'
        clear ha
        have hw : w.ok := Tr.ok_kids hv w (List.mem_of_getElem? ew)
        have hj := (List.getElem?_eq_some_iff.mp ew).1
        refine ⟨_, rfl, ?_⟩
        try walk_at "ev"
        refine kids_sp hp hv _ ?_
        rw [encs_map]
        have hj0 : (0 : Int) ≤ (j : Int) := Int.natCast_nonneg _
        have hj1 : ((j : Int) < ((v.kids.map Tr.enc).length : Nat)) := by rw [List.length_map]; omega
        have hat2 : L2.atI (v.kids.map Tr.enc) (j : Int) = some w.enc := by
          rw [atI_cast, List.getElem?_map, ew]
          rfl
        try walk_at "ev"
        exact hJ _ _ ⟨w, _, _, rfl, rfl, hw, ha'⟩
  · rintro ρ S' ⟨v, x, y, rfl, rfl, hv, ha⟩
    rw [List.length_map, List.drop_length] at ha
    have : v = u := Option.some.inj ha
    subst this
    try walk_at "ev"
end

end VL
namespace VL
open PySem VM
structure HasFeet (tbl : List (Nat × Fd)) : Prop extends HasTrees tbl where
  feet : tbl.lookup 93 = some ⟨1, 4, b_feet_of⟩
  graft : tbl.lookup 94 = some ⟨1, 1, b_is_graft⟩
theorem subs_at {t : Tr} {i : Nat} {p : List Nat} (h : t.pls[i]? = some p) : ∃ u, t.subs[i]? = some u ∧ atP p t = some u := by
  have e := congrArg (fun l => l[i]?) (pls_at t)
  simp only [List.getElem?_map, h, Option.map_some] at e
  cases eu : t.subs[i]? with
  | none => rw [eu] at e; cases e
  | some u =>
    rw [eu] at e
    exact ⟨u, rfl, Option.some.inj e⟩
def isFoot (u : Tr) : Bool := u.kd == ("foot" : Str)
def Tr.feet (t : Tr) : List Tr := t.subs.filter isFoot
def Tr.leaves (t : Tr) : List Tr := t.subs.filter fun u => !(u.kd == ("knot" : Str))
section
variable {tbl : List (Nat × Fd)} {k n : Nat} {S : Sto}
/-- the feet -/
theorem feet_sp (hp : HasFeet tbl) {t : Tr} (hd : t.dep ≤ n) (hn : n ≤ 1000) (ht : t.ok) (hs : t.subs.length ≤ 100000) (Q : D → Sto → Prop)
    (hQ : ∀ r S', Ext S S' → S.length ≤ r → lstAt S' r = some (t.feet.map Tr.one) → Q (.ref r) S') : Wp (callN tbl (k + n + 3) 93 [t.enc] S) Q := by
  have sz : sizeLine = 16777216 := rfl
  refine wp_call hp.feet rfl ?_
  unfold b_feet_of
  try walk_at "ev"
  refine places_sp hp.toHasTrees n t k S _ hd hn ht hs ?_
  intro r S1 X1 hr L1
  try walk_at "ev"
  refine wp_lR (ds := t.pls.map plD) (fun i acc S' => acc = (t.subs.take i).map Tr.enc ∧ Ext S1 S') ⟨rfl, Ext.refl _⟩ ?_ ?_ ?_
  · rintro i acc S2 ⟨_, X2⟩
    exact X2.lst L1
  · rintro i d acc S2 hd2 ⟨rfl, X2⟩ J K hJ hK
    rw [List.getElem?_map] at hd2
    cases ep : t.pls[i]? with
    | none => rw [ep] at hd2; cases hd2
    | some p =>
      rw [ep] at hd2
      cases hd2
      obtain ⟨u, eu, ea⟩ := subs_at ep
      have htk : t.subs.take (i + 1) = t.subs.take i ++ [u] := by rw [List.take_succ, eu]; rfl
      refine ⟨_, rfl, ?_⟩
      clear hK
      try walk_at "ev"
      refine piece_sp hp.toHasTrees ht ea _ ?_
      refine hJ _ _ (by simp; omega) ⟨by rw [htk]; simp, X2⟩
  · rintro acc S2 ⟨rfl, X2⟩
    rw [List.length_map, pls_subs_len, List.take_length]
    try walk_at "ev"
    refine wp_lR (ds := t.subs.map Tr.enc) (fun i acc S' => acc = ((t.subs.take i).filter isFoot).map Tr.one ∧ Ext (S2 ++ [O.lst (t.subs.map Tr.enc)]) S') ⟨rfl, Ext.refl _⟩ ?_ ?_ ?_
    · rintro i acc S3 ⟨_, X3⟩
      exact X3.lst lstAt_new
    · rintro i d acc S3 hd3 ⟨rfl, X3⟩ J K hJ hK
      rw [List.getElem?_map] at hd3
      cases eu : t.subs[i]? with
      | none => rw [eu] at hd3; cases hd3
      | some u =>
        rw [eu] at hd3
        cases hd3
        have huo := subs_ok t ht u (List.mem_of_getElem? eu)
        have htk : t.subs.take (i + 1) = t.subs.take i ++ [u] := by rw [List.take_succ, eu]; rfl
        have hlen : (((t.subs.take i).filter isFoot).map Tr.one).length < sizeLine := by
          rw [List.length_map]
          have := List.length_filter_le isFoot (t.subs.take i)
          rw [List.length_take] at this
          omega
        have e0 := u.idx0
        refine ⟨_, rfl, ?_⟩
        rw [htk, List.filter_append, List.map_append] at hJ hK
        try walk_at "ev"
        refine lcQ_by (fun h => ?_) (fun h => ?_)
        · have hk : u.kd = "foot" := eq_of_beq h
          cases u with
          | knot n' w' ks => rw [Tr.kd] at hk; exact absurd hk (by decide +kernel)
          | lf kd rest =>
            rw [Tr.kd] at hk
            subst hk
            rw [Tr.ok] at huo
            obtain ⟨d, rfl⟩ := huo.2 (.inl rfl)
            clear e0
            rw [Tr.enc]
            have hf : [Tr.lf "foot" [d]].filter isFoot = [Tr.lf "foot" [d]] := by
              rw [List.filter_cons, show isFoot (Tr.lf "foot" [d]) = true from h]
              rfl
            try walk_at "ev"
            exact hJ _ _ hlen ⟨by rw [hf]; rfl, X3⟩
        · refine hK _ ⟨?_, X3⟩
          have hf : [u].filter isFoot = [] := by
            rw [List.filter_cons, show isFoot u = false from h]
            rfl
          rw [hf, List.map_nil, List.append_nil]
    · rintro acc S3 ⟨rfl, X3⟩
      rw [List.length_map, List.take_length]
      try walk_at "ev"
      refine hQ _ _ (X1.trans (X2.trans ((Ext.app _ _).trans (X3.trans (Ext.app _ _))))) ?_ lstAt_new
      exact (X1.trans (X2.trans ((Ext.app _ _).trans X3))).len
theorem graft_sp (hp : HasFeet tbl) {t : Tr} (hd : t.dep ≤ n) (hn : n ≤ 1000) (ht : t.ok) (hs : t.subs.length ≤ 100000) (Q : D → Sto → Prop)
    (hQ : ∀ S', Ext S S' → Q (.bl (t.feet.length == 1)) S') : Wp (callN tbl (k + n + 4) 94 [t.enc] S) Q := by
  refine wp_call hp.graft rfl ?_
  unfold b_is_graft
  try walk_at "ev"
  refine feet_sp hp hd hn ht hs _ ?_
  intro r S1 X1 hr L1
  try walk_at "ev"
  have : (((t.feet.map Tr.one).length : Int) == 1) = (t.feet.length == 1) := by
    rw [List.length_map]
    exact Bool.eq_iff_iff.mpr (by rw [beq_iff_eq, beq_iff_eq]; omega)
  rw [this]
  exact hQ _ X1
end

end VL
namespace VL
open PySem VM
section
variable {κ : Type} [DecidableEq κ]
theorem lkD_nil {k : κ} : lkD ([] : List (κ × D)) k = none := rfl
theorem lkD_pos {p : κ × D} {r : List (κ × D)} {k : κ} (e : p.1 = k) : lkD (p :: r) k = some p.2 := by simp [lkD, List.find?_cons, e]
theorem lkD_neg {p : κ × D} {r : List (κ × D)} {k : κ} (e : ¬ p.1 = k) : lkD (p :: r) k = lkD r k := by simp [lkD, List.find?_cons, e]
theorem lkD_any (k : κ) : ∀ kvs : List (κ × D), (kvs.any fun kv => decide (kv.1 = k)) = (lkD kvs k).isSome
  | [] => rfl
  | p :: r => by
    rw [List.any_cons]
    by_cases e : p.1 = k
    · simp only [lkD_pos e, decide_eq_true e, Bool.true_or, Option.isSome_some]
    · rw [lkD_neg e, decide_eq_false e, Bool.false_or]; exact lkD_any k r
theorem lkD_map (k j : κ) (y : D) : ∀ kvs : List (κ × D), lkD (kvs.map fun kv => if kv.1 = k then (kv.1, y) else kv) j = (lkD kvs j).map fun x => if j = k then y else x
  | [] => rfl
  | p :: r => by
    have ih := lkD_map k j y r
    rw [List.map_cons]
    by_cases h : p.1 = k
    · rw [if_pos h]
      by_cases e : p.1 = j
      · rw [lkD_pos (p := (p.1, y)) e, lkD_pos e, Option.map_some, if_pos (e.symm.trans h)]
      · rw [lkD_neg (p := (p.1, y)) e, lkD_neg e, ih]
    · rw [if_neg h]
      by_cases e : p.1 = j
      · rw [lkD_pos (p := p) e, lkD_pos e, Option.map_some, if_neg (fun z => h (e.trans z))]
      · rw [lkD_neg (p := p) e, lkD_neg e, ih]
theorem lkD_snoc (k j : κ) (y : D) : ∀ kvs : List (κ × D), lkD kvs k = none → lkD (kvs ++ [(k, y)]) j = if j = k then some y else lkD kvs j
  | [], _ => by
    by_cases e : k = j
    · rw [if_pos e.symm]; exact lkD_pos (p := (k, y)) e
    · rw [if_neg (fun z => e z.symm)]; exact lkD_neg (p := (k, y)) e
  | p :: r, hn => by
    rw [List.cons_append]
    have hk : ¬ p.1 = k := fun z => by rw [lkD_pos z] at hn; cases hn
    rw [lkD_neg hk] at hn
    have ih := lkD_snoc k j y r hn
    by_cases e : p.1 = j
    · rw [lkD_pos e, lkD_pos e, if_neg (fun z => hk (e.trans z))]
    · rw [lkD_neg e, lkD_neg e, ih]
theorem lkD_put (kvs : List (κ × D)) (k j : κ) (y : D) : lkD (putD kvs k y) j = if j = k then some y else lkD kvs j := by
  unfold putD
  by_cases a : (kvs.any fun kv => decide (kv.1 = k)) = true
  · rw [if_pos a, lkD_map]
    rw [lkD_any] at a
    by_cases e : j = k
    · obtain ⟨x, hx⟩ := Option.isSome_iff_exists.mp a
      rw [if_pos e, e, hx, Option.map_some, if_pos rfl]
    · rw [if_neg e]
      cases lkD kvs j with
      | none => rfl
      | some x => rw [Option.map_some, if_neg e]
  · rw [if_neg a]
    refine lkD_snoc k j y kvs ?_
    rw [lkD_any] at a
    cases q : lkD kvs k with
    | none => rfl
    | some x => rw [q] at a; exact (a rfl).elim
theorem putD_len (kvs : List (κ × D)) (k : κ) (y : D) : (putD kvs k y).length = if (lkD kvs k).isSome then kvs.length else kvs.length + 1 := by
  unfold putD
  rw [lkD_any]
  by_cases a : (lkD kvs k).isSome = true
  · rw [if_pos a, if_pos a, List.length_map]
  · rw [if_neg a, if_neg a]; simp
end
/-- the state that the drawing of books keeps: a dict at n; its lists lie below L -/
structure SmOk (b n L : Nat) (full : Bool) (S : Sto) : Prop where
  ex : ∃ kvs, dicAt S n = some kvs ∧ kvs.length ≤ 10 ∧
    (∃ r ws, lkD kvs (.inr "signs") = some (.ref r) ∧ r < L ∧ r ≠ n ∧ Own b r ((ws : List Str).map .str) S ∧ 2 ≤ ws.length ∧ ws.length ≤ 26) ∧
    (∃ f : Nat, lkD kvs (.inr "free") = some (.int f)) ∧ (∃ t, lkD kvs (.inr "knots") = some (.bl t)) ∧ (∃ l : Nat, lkD kvs (.inr "left") = some (.int l)) ∧
    (full = true → (∃ r ws, lkD kvs (.inr "starts") = some (.ref r) ∧ r < L ∧ r ≠ n ∧ Own b r ((ws : List Str).map .str) S ∧ ws.length = 2) ∧
      ∃ r ws, lkD kvs (.inr "grafts") = some (.ref r) ∧ r < L ∧ r ≠ n ∧ Own b r ((ws : List Str).map .str) S ∧ ws.length = 2)
  lt : n < L
  fr : Free b n S
structure Fx (b n L : Nat) (full : Bool) (S0 S : Sto) : Prop where
  box : BoxOk b S
  len : S0.length ≤ S.length
  at_ : ∀ m : Nat, m < S0.length → m ≠ b → m ≠ n → S[m]? = S0[m]?
  fr : ∀ m, Free b m S0 → Free b m S
  sm : SmOk b n L full S
section
variable {b n L r m : Nat} {full : Bool} {S S0 S1 : Sto} {ds es : List D} {o : O}
theorem SmOk.bx (h : SmOk b n L full S) (X : Bx b S S1) : SmOk b n L full S1 := by
  obtain ⟨⟨kvs, e1, hl, ⟨r, ws, e2, h2, h3, O, h4⟩, hf, hk, hL, hs⟩, lt, fr⟩ := h
  refine ⟨⟨kvs, ?_, hl, ⟨r, ws, e2, h2, h3, O.mono X, h4⟩, hf, hk, hL, fun z => ?_⟩, lt, X.fr n fr⟩
  · rw [dicAt_get] at e1 ⊢
    rw [X.keep.at_ n fr.1 fr.2.1]
    exact e1
  · obtain ⟨⟨r1, w1, a1, a2, a3, a4, a5⟩, r2, w2, c1, c2, c3, c4, c5⟩ := hs z
    exact ⟨⟨r1, w1, a1, a2, a3, a4.mono X, a5⟩, r2, w2, c1, c2, c3, c4.mono X, c5⟩
theorem SmOk.setr (h : SmOk b n L full S) (hr : L ≤ r) (f : r ≠ b) : SmOk b n L full (S.set r o) := by
  obtain ⟨⟨kvs, e1, hl, ⟨r0, ws, e2, h2, h3, O, h4⟩, hf, hk, hL, hs⟩, lt, fr⟩ := h
  refine ⟨⟨kvs, (dicAt_set_ne (by omega) o).trans e1, hl, ⟨r0, ws, e2, h2, h3, O.set_ne (by omega) f, h4⟩, hf, hk, hL, fun z => ?_⟩, lt, fr.set f⟩
  obtain ⟨⟨r1, w1, a1, a2, a3, a4, a5⟩, r2, w2, c1, c2, c3, c4, c5⟩ := hs z
  exact ⟨⟨r1, w1, a1, a2, a3, a4.set_ne (by omega) f, a5⟩, r2, w2, c1, c2, c3, c4.set_ne (by omega) f, c5⟩
theorem Fx.refl (h : BoxOk b S) (s : SmOk b n L full S) : Fx b n L full S S := ⟨h, Nat.le_refl _, fun _ _ _ _ => rfl, fun _ z => z, s⟩
theorem Fx.bx (h : Fx b n L full S0 S) (X : Bx b S S1) : Fx b n L full S0 S1 :=
  ⟨X.box, Nat.le_trans h.len X.len, fun m h1 h2 h3 => (X.keep.at_ m (Nat.lt_of_lt_of_le h1 h.len) h2).trans (h.at_ m h1 h2 h3), fun m z => X.fr m (h.fr m z), h.sm.bx X⟩
theorem Fx.trans (h : Fx b n L full S0 S) (h' : Fx b n L full S S1) : Fx b n L full S0 S1 :=
  ⟨h'.box, Nat.le_trans h.len h'.len, fun m h1 h2 h3 => (h'.at_ m (Nat.lt_of_lt_of_le h1 h.len) h2 h3).trans (h.at_ m h1 h2 h3), fun m z => h'.fr m (h.fr m z), h'.sm⟩
theorem Fx.ext (h : Fx b n L full S0 S) (X : Ext S S1) : Fx b n L full S0 S1 := h.bx ((Bx.refl h.box).ext X)
theorem Fx.app {T : Sto} (h : Fx b n L full S0 S) : Fx b n L full S0 (S ++ T) := h.ext (Ext.app _ _)
theorem Fx.setN (h : Fx b n L full S0 S) (hr : S0.length ≤ r) (hL : L ≤ r) (f : Free b r S) : Fx b n L full S0 (S.set r o) :=
  ⟨h.box.set f, by simpa using h.len, fun m h1 h2 h3 => by rw [List.getElem?_set_ne (by omega)]; exact h.at_ m h1 h2 h3, fun m z => (h.fr m z).set f.2.1, h.sm.setr hL f.2.1⟩
/-- a list of ours behind a call -/
theorem Own.fx (h : Own b r ds S) (X : Fx b n L full S S1) (hn : r ≠ n) : Own b r ds S1 := by
  refine ⟨?_, X.fr r h.fr⟩
  have e := h.at_
  rw [lstAt_get] at e ⊢
  rw [X.at_ r h.fr.1 h.fr.2.1 hn]
  exact e
theorem Fx.bl (h : Fx b n L full S0 S) : b < S.length := h.box.lt
/-- the number left is set -/
theorem SmOk.left (h : SmOk b n L full S) (l : Nat) {kvs : List (L2.Key × D)} (e : dicAt S n = some kvs) : SmOk b n L full (S.set n (.dic (putD kvs (.inr "left") (.int l)))) := by
  obtain ⟨⟨kvs', e1, hl, ⟨r0, ws, e2, h2, h3, O, h4⟩, ⟨f0, hf⟩, ⟨t0, hk⟩, ⟨l0, hL⟩, hs⟩, lt, fr⟩ := h
  rw [e] at e1
  cases e1
  have k1 : ¬ ((Sum.inr ("signs" : Str) : L2.Key) = Sum.inr ("left" : Str)) := by decide +kernel
  have k2 : ¬ ((Sum.inr ("free" : Str) : L2.Key) = Sum.inr ("left" : Str)) := by decide +kernel
  have k3 : ¬ ((Sum.inr ("knots" : Str) : L2.Key) = Sum.inr ("left" : Str)) := by decide +kernel
  have k4 : ¬ ((Sum.inr ("starts" : Str) : L2.Key) = Sum.inr ("left" : Str)) := by decide +kernel
  have k5 : ¬ ((Sum.inr ("grafts" : Str) : L2.Key) = Sum.inr ("left" : Str)) := by decide +kernel
  refine ⟨⟨_, dicAt_set fr.1, ?_, ⟨r0, ws, by rw [lkD_put, if_neg k1]; exact e2, h2, h3, O.set_ne h3 fr.2.1, h4⟩, ⟨f0, by rw [lkD_put, if_neg k2]; exact hf⟩, ⟨t0, by rw [lkD_put, if_neg k3]; exact hk⟩, ⟨l, by rw [lkD_put, if_pos rfl]⟩, fun z => ?_⟩, lt, fr.set fr.2.1⟩
  · rw [putD_len, hL]
    exact hl
  · obtain ⟨⟨r1, w1, a1, a2, a3, a4, a5⟩, r2, w2, c1, c2, c3, c4, c5⟩ := hs z
    exact ⟨⟨r1, w1, by rw [lkD_put, if_neg k4]; exact a1, a2, a3, a4.set_ne a3 fr.2.1, a5⟩, r2, w2, by rw [lkD_put, if_neg k5]; exact c1, c2, c3, c4.set_ne c3 fr.2.1, c5⟩
theorem Fx.left (h : Fx b n L full S0 S) (l : Nat) {kvs : List (L2.Key × D)} (e : dicAt S n = some kvs) : Fx b n L full S0 (S.set n (.dic (putD kvs (.inr "left") (.int l)))) :=
  ⟨h.box.set h.sm.fr, by simpa using h.len, fun m h1 h2 h3 => by rw [List.getElem?_set_ne (Ne.symm h3)]; exact h.at_ m h1 h2 h3, fun m z => (h.fr m z).set h.sm.fr.2.1, h.sm.left l e⟩
end
structure HasDraw (tbl : List (Nat × Fd)) : Prop extends HasBox tbl where
  socket : tbl.lookup 139 = some ⟨1, 1, b__law_socket⟩
  leaf : tbl.lookup 140 = some ⟨2, 3, b__law_leaf⟩
  worn : tbl.lookup 141 = some ⟨2, 3, b__law_worn⟩
  knot : tbl.lookup 142 = some ⟨5, 11, b__law_knot⟩
section
variable {tbl : List (Nat × Fd)} {k b n L : Nat} {S S0 : Sto}
theorem socket_sp (hp : HasDraw tbl) {full : Bool} (hF : Fx b n L full S0 S) (Q : D → Sto → Prop) (hQ : ∀ t S', Fx b n L full S0 S' → Q (.bl t) S') : Wp (callN tbl (k + 1) 139 [.ref n] S) Q := by
  have sz : sizeLine = 16777216 := rfl
  obtain ⟨⟨kvs, e1, hl, h1, h2, h3, ⟨l, e4⟩, h5⟩, lt, fr⟩ := id hF.sm
  refine wp_call hp.socket rfl ?_
  unfold b__law_socket
  try walk_at "ev"
  refine ifQ_by (fun h => ?_) (fun h => ?_)
  · try walk_at "ev"
  · have hl0 : (l : Int) - 1 = ((l - 1 : Nat) : Int) := by
      have : (l : Int) ≠ 0 := fun z => by rw [z] at h; cases h
      omega
    clear h
    try walk_at "ev"
    exact ⟨_, ⟨by omega, rfl⟩, hQ _ _ (hF.left (l - 1) e1)⟩
/-- a leaf -/
def Leaf (t : Tr) : Prop := ∃ kd rest, t = .lf kd rest ∧ kd ≠ "knot" ∧ kd ≠ "foot" ∧ (kd = "sign" → ∃ d, rest = [d])
theorem leaf_sp (hp : HasDraw tbl) (hF : Fx b n L true S0 S) (Q : D → Sto → Prop) (hQ : ∀ t S', Leaf t → Fx b n L true S0 S' → Q t.enc S') : Wp (callN tbl (k + 2) 140 [.ref b, .ref n] S) Q := by
  have sz : sizeLine = 16777216 := rfl
  refine wp_call hp.leaf rfl ?_
  unfold b__law_leaf
  try walk_at "ev"
  refine (pick hp.toHasBox (.refl hF.box) (by decide) (by decide)).mono ?_
  rintro _ S1 ⟨w, rfl, hw, B1⟩
  have F1 := hF.bx B1
  try walk_at "ev"
  refine ifQ_by (fun h => ?_) (fun h => ?_) <;> clear h
  · have := hQ (.lf "void" []) S1 ⟨_, _, rfl, by decide +kernel, by decide +kernel, fun z => absurd z (by decide +kernel)⟩ F1
    rw [Tr.enc] at this
    try walk_at "ev"
  · have sign : ∀ S2, Fx b n L true S0 S2 → Wp (exCs ⟨callN tbl (k + 1)⟩ (.cons (.ret (.tup (.cons (.str "sign") (.cons (.idx (.idx (.var 1) (.str "signs")) (.call 3 (.cons (.var 0) (.cons (.bi .len (.cons (.idx (.var 1) (.str "signs")) .nil)) .nil)))) .nil)))) .nil) [some (.ref b), some (.ref n), some (.int w)] S2) (retQ Q) := by
      intro S2 F2
      obtain ⟨⟨kvs, e1, hl, ⟨r, ws, e2, h2, h3, O, h4, h5⟩, _⟩, lt, fr⟩ := F2.sm
      have e3 := O.at_
      try walk_at "ev"
      refine (pick hp.toHasBox (.refl F2.box) (by simp; omega) (by simp; omega)).mono ?_
      rintro _ S3 ⟨j, rfl, hj, B3⟩
      have hj' : j < (ws.map D.str).length := by simpa using hj
      have F3 := F2.bx B3
      have e4 := (O.mono B3).at_
      have hq : j < ws.length := by simpa using hj
      have := hQ (.lf "sign" [.str ws[j]]) S3 ⟨_, _, rfl, by decide +kernel, by decide +kernel, fun _ => ⟨_, rfl⟩⟩ F3
      rw [Tr.enc] at this
      have ha := atI_lt hj'
      rw [List.getElem_map] at ha
      try walk_at "ev"
    try walk_at "ev"
    refine andQ_by (fun h => ?_) (fun h => ?_) <;> clear h
    · try walk_at "ev"
      refine socket_sp hp F1 _ ?_
      intro t S2 F2
      try walk_at "ev"
      refine ifQ_by (fun h => ?_) (fun h => ?_) <;> clear h
      · obtain ⟨⟨kvs, e1, hl, _, _, _, _, hs⟩, lt, fr⟩ := F2.sm
        obtain ⟨⟨r1, w1, a1, a2, a3, a4, a5⟩, _⟩ := hs rfl
        have e3 := a4.at_
        try walk_at "ev"
        refine (pick hp.toHasBox (.refl F2.box) (by decide) (by decide)).mono ?_
        rintro _ S3 ⟨j, rfl, hj, B3⟩
        have e4 := (a4.mono B3).at_
        have hj2 : (j : Int) / 2 = ((j / 2 : Nat) : Int) := by omega
        have hj' : j / 2 < (w1.map D.str).length := by rw [List.length_map]; omega
        have hq : j / 2 < w1.length := by omega
        have ha := atI_lt hj'
        rw [List.getElem_map] at ha
        have := hQ (.lf "hole" [.str w1[j / 2]]) S3 ⟨_, _, rfl, by decide +kernel, by decide +kernel, fun _ => ⟨_, rfl⟩⟩ (F2.bx B3)
        rw [Tr.enc] at this
        try walk_at "ev"
      · rw [wp_nil, seqQ_nx]
        exact sign S2 F2
    · rw [ifQ_f, wp_nil, seqQ_nx]
      exact sign S1 F1
theorem worn_sp (hp : HasDraw tbl) (hF : Fx b n L true S0 S) (Q : D → Sto → Prop) (hQ : ∀ w S', Fx b n L true S0 S' → Q w S') : Wp (callN tbl (k + 2) 141 [.ref b, .ref n] S) Q := by
  have sz : sizeLine = 16777216 := rfl
  refine wp_call hp.worn rfl ?_
  unfold b__law_worn
  try walk_at "ev"
  refine (pick hp.toHasBox (.refl hF.box) (by decide) (by decide)).mono ?_
  rintro _ S1 ⟨w, rfl, hw, B1⟩
  have F1 := hF.bx B1
  have fin : ∀ S2, Fx b n L true S0 S2 → Wp (exCs ⟨callN tbl (k + 1)⟩ (.cons (.ret (.tup (.cons (.idx (.idx (.var 1) (.str "grafts")) (.bin .fdiv (.call 3 (.cons (.var 0) (.cons (.int 4) .nil))) (.int 3))) (.cons (.cmp .eq (.var 2) (.int 4)) .nil)))) .nil) [some (.ref b), some (.ref n), some (.int w)] S2) (retQ Q) := by
    intro S2 F2
    obtain ⟨⟨kvs, e1, hl, _, _, _, _, hs⟩, lt, fr⟩ := F2.sm
    obtain ⟨_, ⟨r1, w1, a1, a2, a3, a4, a5⟩⟩ := hs rfl
    try walk_at "ev"
    refine (pick hp.toHasBox (.refl F2.box) (by decide) (by decide)).mono ?_
    rintro _ S3 ⟨j, rfl, hj, B3⟩
    have e4 := (a4.mono B3).at_
    have hj2 : (j : Int) / 3 = ((j / 3 : Nat) : Int) := by omega
    have hj' : j / 3 < (w1.map D.str).length := by rw [List.length_map]; omega
    have ha := atI_lt hj'
    try walk_at "ev"
    exact hQ _ _ (F2.bx B3)
  try walk_at "ev"
  refine orQ_by (fun h => ?_) (fun h => ?_) <;> clear h
  · try walk_at "ev"
  · obtain ⟨⟨kvs, e1, hl, _, _, ⟨t0, e3⟩, _, _⟩, lt, fr⟩ := F1.sm
    try walk_at "ev"
    refine orQ_by (fun h => ?_) (fun h => ?_) <;> clear h
    · try walk_at "ev"
    · clear e3 e1
      try walk_at "ev"
      refine socket_sp hp F1 _ ?_
      intro t S2 F2
      try walk_at "ev"
      refine ifQ_by (fun h => ?_) (fun h => ?_) <;> clear h
      · try walk_at "ev"
      · rw [wp_nil, seqQ_nx]
        exact fin S2 F2
/-- a drawn tree: as deep, as great, with as many feet -/
structure Kn (dp sz ft : Nat) (t : Tr) : Prop where
  ok : t.ok
  dep : t.dep ≤ dp
  len : t.subs.length ≤ sz
  lv : t.leaves ≠ []
  ft : t.feet.length = ft
theorem leaves_lf {kd : Str} {r : List D} (h : kd ≠ "knot") : (Tr.lf kd r).leaves = [.lf kd r] := by
  unfold Tr.leaves
  rw [Tr.subs, List.filter_cons]
  have : (!((Tr.lf kd r).kd == ("knot" : Str))) = true := by
    rw [Tr.kd, Bool.not_eq_true', beq_eq_false_iff_ne]
    exact h
  rw [this]
  rfl
theorem leaves_knot {n : Str} {w : D} {ks : List Tr} : (Tr.knot n w ks).leaves = ks.flatMap Tr.leaves := by
  unfold Tr.leaves
  rw [Tr.subs, List.filter_cons]
  have : (!((Tr.knot n w ks).kd == ("knot" : Str))) = false := by rw [Tr.kd]; decide +kernel
  rw [this, subsL_map, List.filter_flatMap]
  rfl
theorem feet_knot {n : Str} {w : D} {ks : List Tr} : (Tr.knot n w ks).feet = ks.flatMap Tr.feet := by
  unfold Tr.feet
  rw [Tr.subs, List.filter_cons]
  have : isFoot (Tr.knot n w ks) = false := by unfold isFoot; rw [Tr.kd]; decide +kernel
  rw [this, subsL_map, List.filter_flatMap]
  rfl
theorem feet_lf {kd : Str} {r : List D} : (Tr.lf kd r).feet = if kd = "foot" then [.lf kd r] else [] := by
  unfold Tr.feet
  rw [Tr.subs, List.filter_cons]
  unfold isFoot
  rw [Tr.kd]
  by_cases h : kd = "foot"
  · subst h; simp
  · have : (kd == ("foot" : Str)) = false := beq_eq_false_iff_ne.mpr h
    rw [this, if_neg h]
    rfl
theorem Leaf.kn {t : Tr} (h : Leaf t) : Kn 0 1 0 t := by
  obtain ⟨kd, rest, rfl, h1, h2, h3⟩ := h
  exact ⟨by rw [Tr.ok]; exact ⟨h1, fun z => z.elim (fun z => absurd z h2) h3⟩, by rw [Tr.dep]; exact Nat.le_refl _, by rw [Tr.subs]; exact Nat.le_refl _, by rw [leaves_lf h1]; simp, by rw [feet_lf, if_neg h2]; rfl⟩
theorem kn_foot (x : Str) : Kn 0 1 1 (.lf "foot" [.str x]) :=
  ⟨by rw [Tr.ok]; exact ⟨by decide +kernel, fun _ => ⟨_, rfl⟩⟩, by rw [Tr.dep]; exact Nat.le_refl _, by rw [Tr.subs]; exact Nat.le_refl _, by rw [leaves_lf (by decide +kernel)]; simp, by rw [feet_lf, if_pos rfl]; rfl⟩
theorem Kn.mono {dp dp' sz sz' ft : Nat} {t : Tr} (h : Kn dp sz ft t) (h1 : dp ≤ dp') (h2 : sz ≤ sz') : Kn dp' sz' ft t := ⟨h.ok, Nat.le_trans h.dep h1, Nat.le_trans h.len h2, h.lv, h.ft⟩
/-- kids put together so far -/
structure Ks (dp sz i ft : Nat) (ts : List Tr) : Prop where
  all : ∀ t ∈ ts, t.ok ∧ t.dep ≤ dp ∧ t.subs.length ≤ sz ∧ t.leaves ≠ []
  len : ts.length = i
  ft : (ts.flatMap Tr.feet).length = ft
theorem Ks.add {dp sz i ft f : Nat} {ts : List Tr} {t : Tr} (h : Ks dp sz i ft ts) (k : Kn dp sz f t) : Ks dp sz (i + 1) (ft + f) (ts ++ [t]) := by
  refine ⟨fun u hu => ?_, by simp [h.len], ?_⟩
  · rw [List.mem_append, List.mem_singleton] at hu
    rcases hu with hu | rfl
    · exact h.all u hu
    · exact ⟨k.ok, k.dep, k.len, k.lv⟩
  · rw [List.flatMap_append, List.length_append, h.ft]
    simp [k.ft]
theorem Ks.knot {dp sz i ft : Nat} {ts : List Tr} (h : Ks dp sz i ft ts) (hi : 0 < i) (name : Str) (w : D) : Kn (dp + 1) (1 + i * sz) ft (.knot name w ts) := by
  refine ⟨by rw [Tr.ok]; exact (okL_iff ts).mpr fun t ht => (h.all t ht).1, ?_, ?_, ?_, by rw [feet_knot]; exact h.ft⟩
  · rw [Tr.dep]
    have := (depL_le ts dp).mpr fun t ht => (h.all t ht).2.1
    omega
  · rw [Tr.subs, List.length_cons, subsL_map]
    have : ∀ us : List Tr, (∀ t ∈ us, t.subs.length ≤ sz) → (us.flatMap Tr.subs).length ≤ us.length * sz := by
      intro us
      induction us with
      | nil => intro _; simp
      | cons u us ih =>
        intro hu
        rw [List.flatMap_cons, List.length_append, List.length_cons, Nat.succ_mul]
        have h1 := hu u List.mem_cons_self
        have h2 := ih fun t ht => hu t (List.mem_cons_of_mem _ ht)
        omega
    have := this ts fun t ht => (h.all t ht).2.2.1
    rw [h.len] at this
    omega
  · rw [leaves_knot]
    cases ts with
    | nil => have := h.len; simp at this; omega
    | cons u us =>
      rw [List.flatMap_cons]
      intro z
      have := (List.append_eq_nil_iff.mp z).1
      exact (h.all u List.mem_cons_self).2.2.2 this
def forB : Cs → Cs
  | .cons (.for_ _ _ b) _ => b
  | _ => .nil
def elsB : Cs → Cs
  | .cons (.ife _ _ b) _ => b
  | _ => .nil
def zk : Nat → Nat
  | 0 => 1
  | d + 1 => 1 + 3 * zk d
/-- A DRAWN KNOT -/
theorem knot_sp (hp : HasDraw tbl) : ∀ (deep : Nat) (j : Nat) (S S0 : Sto) (name foot : Str) (Q : D → Sto → Prop), deep ≤ j → L ≤ S0.length → Fx b n L true S0 S →
    (∀ nm w ks S', Kn (deep + 1) (zk (deep + 1)) (if foot = "" then 0 else 1) (.knot nm w ks) → Fx b n L true S0 S' → Q (Tr.knot nm w ks).enc S') →
    Wp (callN tbl (j + 3) 142 [.ref b, .ref n, .str name, .int deep, .str foot] S) Q := by
  have sz : sizeLine = 16777216 := rfl
  intro deep
  induction deep using Nat.strongRecOn with
  | _ deep ih =>
    intro j S S0 name foot Q hd hL hF hQ
    refine wp_call hp.knot rfl ?_
    unfold b__law_knot
    try walk_at "ev"
    refine worn_sp hp hF _ ?_
    intro w S1 F1
    have O1 := Own.new (ds := []) F1.box
    have F1' := F1.app (T := [.lst []])
    have hr0 : S0.length ≤ S1.length := F1.len
    have hrn : S1.length ≠ n := by have := F1.sm.lt; omega
    try walk_at "ev"
    refine (pick hp.toHasBox (.refl F1'.box) (by decide) (by decide)).mono ?_
    rintro _ S2 ⟨z0, rfl, hz0, B2⟩
    have O2 := O1.mono B2
    have F2 := F1'.bx B2
    generalize S1.length = r at *
    try walk_at "ev"
    refine (pick hp.toHasBox (.refl F2.box) (by decide) (by decide)).mono ?_
    rintro _ S3 ⟨q0, rfl, hq0, B3⟩
    have O3 := O2.mono B3
    have F3 := F2.bx B3
    have h1 : (1 : Int) + (z0 : Int) = ((z0 + 1 : Nat) : Int) := by omega
    have h2 : ((z0 + 1 : Nat) : Int) - 1 = (z0 : Int) := by omega
    have loop : ∀ (spot : Nat) (S4 : Sto), spot < z0 + 1 → Own b r [] S4 → Fx b n L true S0 S4 → Wp (exCs ⟨callN tbl (j + 2)⟩ (tl1 (tl1 (tl1 (tl1 (tl1 b__law_knot)))))
        [some (.ref b), some (.ref n), some (.str name), some (.int deep), some (.str foot), some w, some (.ref r), some (.int ((z0 + 1 : Nat) : Int)), some (.int spot), none, none] S4) (retQ Q) := by
      intro spot S4 hspot O4 F4
      unfold b__law_knot tl1
      simp only
      try walk_at "ev"
      refine ⟨by omega, ?_⟩
      refine wp_fF (fun i ρ S' => ∃ (ts : List Tr) (x y : Option D), ρ = [some (.ref b), some (.ref n), some (.str name), some (.int deep), some (.str foot), some w, some (.ref r), some (.int ((z0 + 1 : Nat) : Int)), some (.int spot), x, y] ∧
        Own b r (ts.map Tr.enc) S' ∧ Fx b n L true S0 S' ∧ Ks deep (zk deep) i (if spot < i ∧ ¬ foot = "" then 1 else 0) ts) ?_ ?_ ?_
      · refine ⟨[], _, _, rfl, O4, F4, ⟨by simp, rfl, ?_⟩⟩
        rw [if_neg (by omega)]
        rfl
      · rintro i d ρ S5 hd5 ⟨ts, x, y, rfl, O5, F5, I5⟩ J hJ
        have hi : i < z0 + 1 := by
          have := (List.getElem?_eq_some_iff.mp hd5).1
          simpa using this
        have hd' : d = .int i := by
          rw [List.getElem?_map, List.getElem?_range hi] at hd5
          exact (Option.some.inj hd5).symm
        subst hd'
        have add : ∀ (t : Tr) (f : Nat) (S6 : Sto) (y' : Option D), Kn deep (zk deep) f t → (if spot < i + 1 ∧ ¬ foot = "" then 1 else 0) = (if spot < i ∧ ¬ foot = "" then 1 else 0) + f → Own b r (ts.map Tr.enc) S6 → Fx b n L true S0 S6 →
            J [some (.ref b), some (.ref n), some (.str name), some (.int deep), some (.str foot), some w, some (.ref r), some (.int ((z0 + 1 : Nat) : Int)), some (.int spot), some (.int i), y'] (S6.set r (.lst (ts.map Tr.enc ++ [t.enc]))) := by
          intro t f S6 y' k6 e6 O6 F6
          refine hJ _ _ ⟨ts ++ [t], _, _, rfl, ?_, F6.setN hr0 (Nat.le_trans hL hr0) O6.fr, ?_⟩
          · have := O6.set (es := ts.map Tr.enc ++ [t.enc])
            simpa using this
          · rw [e6]
            exact I5.add k6
        have tsl : (ts.map Tr.enc).length < 16777216 := by rw [List.length_map, I5.len]; omega
        clear hJ
        have els : ∀ (here : Str) (f : Nat) (S6 : Sto) (R : Fl → Sto → Prop), f = (if here = "" then 0 else 1) → (if spot < i + 1 ∧ ¬ foot = "" then 1 else 0) = (if spot < i ∧ ¬ foot = "" then 1 else 0) + f → Own b r (ts.map Tr.enc) S6 → Fx b n L true S0 S6 →
            Wp (exCs ⟨callN tbl (j + 2)⟩ (elsB (tl1 (tl1 (forB (tl1 (tl1 (tl1 (tl1 (tl1 b__law_knot))))))))) [some (.ref b), some (.ref n), some (.str name), some (.int deep), some (.str foot), some w, some (.ref r), some (.int ((z0 + 1 : Nat) : Int)), some (.int spot), some (.int i), some (.str here)] S6) (seqQ ⟨callN tbl (j + 2)⟩ .nil (forQ J R)) := by
          intro here f S6 R hf e6 O6 F6
          have a6 := O6.at_
          unfold b__law_knot tl1 forB elsB
          simp only
          try walk_at "ev"
          refine ifQ_by (fun h => ?_) (fun h => ?_)
          · have hh : ¬ here = "" := by simpa using h
            clear h
            rw [if_neg hh] at hf
            subst hf
            have := add (.lf "foot" [.str here]) 1 S6 (some (.str here)) ((kn_foot here).mono (Nat.zero_le _) (by cases deep <;> (rw [zk]; omega))) e6 O6 F6
            rw [Tr.enc] at this
            try walk_at "ev"
          · have hh : here = "" := by simpa using h
            clear h
            subst hh
            rw [if_pos rfl] at hf
            subst hf
            try walk_at "ev"
            refine leaf_sp hp (.refl F6.box F6.sm) _ ?_
            intro t S7 ht F7
            have O7 := O6.fx F7 hrn
            have a7 := O7.at_
            have := add t 0 S7 (some (.str "")) (ht.kn.mono (Nat.zero_le _) (by cases deep <;> (rw [zk]; omega))) e6 O7 (F6.trans F7)
            try walk_at "ev"
        have rest : ∀ (here : Str) (f : Nat) (R : Fl → Sto → Prop), f = (if here = "" then 0 else 1) → (if spot < i + 1 ∧ ¬ foot = "" then 1 else 0) = (if spot < i ∧ ¬ foot = "" then 1 else 0) + f →
            Wp (exCs ⟨callN tbl (j + 2)⟩ (tl1 (tl1 (forB (tl1 (tl1 (tl1 (tl1 (tl1 b__law_knot)))))))) [some (.ref b), some (.ref n), some (.str name), some (.int deep), some (.str foot), some w, some (.ref r), some (.int ((z0 + 1 : Nat) : Int)), some (.int spot), some (.int i), some (.str here)] S5) (forQ J R) := by
          intro here f R hf e6
          have els' := els here f
          unfold b__law_knot tl1 forB elsB at els'
          simp only at els'
          unfold b__law_knot tl1 forB
          simp only
          rw [wp_cons]
          try walk_at "ev1"
          refine andQ_by (fun h => ?_) (fun h => ?_)
          · have hdp : 0 < deep := by
              have := of_decide_eq_true h
              omega
            clear h
            try walk_at "ev1"
            refine (pick hp.toHasBox (.refl F5.box) (by decide) (by decide)).mono ?_
            rintro _ S6 ⟨q1, rfl, hq1, B6⟩
            have O6 := O5.mono B6
            have F6 := F5.bx B6
            refine ⟨_, rfl, ifQ_by (fun h => ?_) (fun h => ?_)⟩ <;> clear h
            · obtain ⟨d', rfl⟩ : ∃ d', deep = d' + 1 := ⟨deep - 1, by omega⟩
              obtain ⟨j', rfl⟩ : ∃ j', j = j' + 1 := ⟨j - 1, by omega⟩
              obtain ⟨⟨kvs, e1, hl, _, _, _, _, hs⟩, lt, fr⟩ := F6.sm
              obtain ⟨⟨r1, w1, a1, a2, a3, a4, a5⟩, _⟩ := hs rfl
              have a6 := O6.at_
              rw [wp_cons]
              try walk_at "ev1"
              refine (pick hp.toHasBox (.refl F6.box) (by decide) (by decide)).mono ?_
              rintro _ S7 ⟨p1, rfl, hp1, B7⟩
              have O7 := O6.mono B7
              have F7 := F6.bx B7
              have e4 := (a4.mono B7).at_
              have hj' : p1 < (w1.map D.str).length := by rw [List.length_map]; omega
              have ha := atI_lt hj'
              rw [List.getElem_map] at ha
              have hdd : ((d' + 1 : Nat) : Int) - 1 = (d' : Int) := by omega
              try walk_at "ev1"
              refine ih d' (by omega) j' S7 S7 _ here _ (by omega) (Nat.le_trans hL F7.len) (.refl F7.box F7.sm) ?_
              intro nm w' ks S8 k8 F8
              rw [← hf] at k8
              have O8 := O7.fx F8 hrn
              have a8 := O8.at_
              have := add _ f S8 (some (.str here)) k8 e6 O8 (F7.trans F8)
              try walk_at "ev"
            · exact els' S6 R hf e6 O6 F6
          · exact els' S5 R hf e6 O5 F5
        unfold b__law_knot tl1 forB at rest
        simp only at rest
        refine ⟨_, rfl, ?_⟩
        rw [wp_cons]
        try walk_at "ev1"
        rw [seqQ_nx, wp_cons]
        try walk_at "ev1"
        rw [nat_beq]
        refine ifQ_by (fun h => ?_) (fun h => ?_)
        · have hs : i = spot := by simpa using h
          clear h
          subst hs
          rw [wp_cons]
          try walk_at "ev1"
          rw [seqQ_nx, wp_nil, seqQ_nx]
          refine rest foot _ _ rfl ?_
          by_cases hf : foot = ""
          · rw [if_neg (fun z => z.2 hf), if_neg (fun z => z.2 hf), if_pos hf]
          · rw [if_pos ⟨Nat.lt_succ_self _, hf⟩, if_neg (fun z => Nat.lt_irrefl _ z.1), if_neg hf]
        · have hs : i ≠ spot := by simpa using h
          clear h
          rw [wp_nil, seqQ_nx]
          refine rest "" 0 _ (by rw [if_pos rfl]) ?_
          have e : (spot < i + 1) = (spot < i) := propext ⟨fun z => by omega, fun z => by omega⟩
          simp only [e, Nat.add_zero]
      · rintro ρ S5 ⟨ts, x, y, rfl, O5, F5, I5⟩
        have e5 := O5.at_
        have I6 : Ks deep (zk deep) (z0 + 1) (if spot < z0 + 1 ∧ ¬ foot = "" then 1 else 0) ts := by simpa using I5
        have kn := (I6.knot (by omega) name w).mono (Nat.le_refl _) (show 1 + (z0 + 1) * zk deep ≤ zk (deep + 1) by
          rw [zk]
          have : (z0 + 1) * zk deep ≤ 3 * zk deep := Nat.mul_le_mul_right _ (by omega)
          omega)
        have ef : (if spot < z0 + 1 ∧ ¬ foot = "" then 1 else 0) = (if foot = "" then 0 else 1 : Nat) := by
          by_cases hf : foot = ""
          · rw [if_neg (fun z => z.2 hf), if_pos hf]
          · rw [if_pos ⟨hspot, hf⟩, if_neg hf]
        rw [ef] at kn
        have := hQ _ _ _ S5 kn F5
        rw [Tr.enc, encs_map] at this
        try walk_at "ev"
    obtain ⟨⟨kvs, e1, hl, _, ⟨f0, e2⟩, _, _, _⟩, lt, fr⟩ := F3.sm
    try walk_at "ev"
    refine ifQ_by (fun h => ?_) (fun h => ?_) <;> clear h
    · clear e1 e2
      rw [wp_cons]
      try walk_at "ev1"
      refine (pick hp.toHasBox (.refl F3.box) (by omega) (by omega)).mono ?_
      rintro _ S4 ⟨spot, rfl, hspot, B4⟩
      rw [seqQ_nx, wp_nil, seqQ_nx]
      exact loop spot S4 (by omega) (O3.mono B4) (F3.bx B4)
    · rw [wp_nil, seqQ_nx]
      exact loop z0 S3 (by omega) O3 F3
end

end VL
namespace K87
open PySem VM
/-! ### the text by places -/
def top (i : Nat) : Stmt := PySem.Challenge.pw_graftsay_k87_one_side.main.body.getD i (.Pass ⟨0, 0, 0, 0⟩)
/-- leaves_of -/
def b_leaves_of : Cs :=
  (.cons (.set 1 (.lc (.call 92 (.cons (.var 0) (.cons (.var 2) .nil))) (.nm 2) (.seq (.call 91 (.cons (.var 0) .nil))) (.yes) [("place", 2)])) (.cons (.ret (.lc (.var 3) (.nm 3) (.seq (.var 1)) (.cmp .ne (.idx (.var 3) (.int 0)) (.str "knot")) [("piece", 3)])) .nil))
/-- first_amid -/
def b_first_amid : Cs :=
  (.cons (.for_ (.tp [1, 2]) (.seq (.idx (.var 0) (.int 1))) (.cons (.ife (.and (.v (.call 94 (.cons (.var 2) .nil))) (.one (.cmp .ne (.idx (.idx (.call 175 (.cons (.var 2) .nil)) (.neg (.int 1))) (.int 0)) (.str "foot")))) (.cons (.ret (.var 1)) .nil) .nil) .nil)) (.cons (.ret (.non)) .nil))
/-- one_sided -/
def b_one_sided : Cs :=
  (.cons (.ret (.cmp .is (.call 176 (.cons (.var 0) .nil)) (.non))) .nil)
/-- _law_signs -/
def b__law_signs : Cs :=
  (.cons (.ife (.cmp .eq (.idx (.var 0) (.int 0)) (.str "sign")) (.cons (.ret (.lst (.cons (.idx (.var 0) (.int 1)) .nil))) .nil) .nil) (.cons (.set 1 (.lst .nil)) (.cons (.ife (.cmp .eq (.idx (.var 0) (.int 0)) (.str "knot")) (.cons (.for_ (.nm 2) (.seq (.idx (.var 0) (.int 3))) (.cons (.set 1 (.bin .add (.var 1) (.call 33 (.cons (.var 2) .nil)))) .nil)) .nil) .nil) (.cons (.ret (.var 1)) .nil))))
/-- _law_tree -/
def b__law_tree : Cs :=
  (.cons (.seti (.var 1) (.str "left") (.var 4)) (.cons (.set 5 (.call 142 (.cons (.var 0) (.cons (.var 1) (.cons (.var 2) (.cons (.int 1) (.cons (.var 3) .nil))))))) (.cons (.ife (.cmp .gt (.bi .len (.cons (.call 33 (.cons (.var 5) .nil)) .nil)) (.int 0)) (.cons (.ret (.var 5)) .nil) .nil) (.cons (.set 6 (.tup (.cons (.str "sign") (.cons (.idx (.idx (.var 1) (.str "signs")) (.call 3 (.cons (.var 0) (.cons (.bi .len (.cons (.idx (.var 1) (.str "signs")) .nil)) .nil)))) .nil)))) (.cons (.ife (.or (.cmp .lt (.idx (.var 1) (.str "free")) (.int 4)) (.one (.cmp .eq (.call 3 (.cons (.var 0) (.cons (.int 2) .nil))) (.int 0)))) (.cons (.ret (.bin .add (.sl (.var 5) (.no) (.e (.int 3))) (.tup (.cons (.bin .add (.tup (.cons (.var 6) .nil)) (.idx (.var 5) (.int 3))) .nil)))) .nil) .nil) (.cons (.ret (.bin .add (.sl (.var 5) (.no) (.e (.int 3))) (.tup (.cons (.bin .add (.idx (.var 5) (.int 3)) (.tup (.cons (.var 6) .nil))) .nil)))) .nil))))))
/-- _law_book -/
def b__law_book : Cs :=
  (.cons (.set 4 (.str "ABCDEFGHIJKLMNOPQRSTUVWXYZ")) (.cons (.seti (.var 1) (.str "starts") (.call 4 (.cons (.var 0) (.cons (.var 4) (.cons (.str "7") (.cons (.int 2) .nil)))))) (.cons (.seti (.var 1) (.str "grafts") (.call 4 (.cons (.var 0) (.cons (.var 4) (.cons (.str "0") (.cons (.int 2) .nil)))))) (.cons (.ife (.cmp .eq (.call 3 (.cons (.var 0) (.cons (.int 3) .nil))) (.int 0)) (.cons (.seti (.var 1) (.str "grafts") (.bi .list (.cons (.idx (.var 1) (.str "starts")) .nil))) .nil) .nil) (.cons (.set 5 (.call 4 (.cons (.var 0) (.cons (.sm .lower (.var 4)) (.cons (.str "3") (.cons (.var 2) .nil)))))) (.cons (.set 6 (.lst (.cons (.tup (.cons (.idx (.var 5) (.int 0)) (.cons (.call 39 (.cons (.var 0) (.cons (.var 1) (.cons (.idx (.idx (.var 1) (.str "starts")) (.int 0)) (.cons (.str "") (.cons (.bin .mul (.var 3) (.bin .fdiv (.bin .add (.int 1) (.call 3 (.cons (.var 0) (.cons (.int 3) .nil)))) (.int 2))) .nil)))))) .nil))) .nil))) (.cons (.for_ (.nm 7) (.rng2 (.int 1) (.var 2)) (.cons (.set 9 (.idx (.idx (.var 1) (.str "starts")) (.call 3 (.cons (.var 0) (.cons (.int 2) .nil))))) (.cons (.set 10 (.str "")) (.cons (.ife (.or (.cmp .eq (.var 7) (.int 1)) (.one (.cmp .eq (.call 3 (.cons (.var 0) (.cons (.int 2) .nil))) (.int 0)))) (.cons (.set 10 (.idx (.idx (.var 1) (.str "grafts")) (.bin .fdiv (.call 3 (.cons (.var 0) (.cons (.int 4) .nil))) (.int 3)))) .nil) .nil) (.cons (.ex (.bm .append (.var 6) (.cons (.tup (.cons (.idx (.var 5) (.var 7)) (.cons (.call 39 (.cons (.var 0) (.cons (.var 1) (.cons (.var 9) (.cons (.var 10) (.cons (.var 3) .nil)))))) .nil))) .nil))) .nil))))) (.cons (.set 8 (.call 3 (.cons (.var 0) (.cons (.var 2) .nil)))) (.cons (.set 6 (.bin .add (.sl (.var 6) (.e (.var 8)) (.no)) (.sl (.var 6) (.no) (.e (.var 8))))) (.cons (.ife (.cmp .eq (.call 3 (.cons (.var 0) (.cons (.int 2) .nil))) (.int 1)) (.cons (.set 6 (.rev (.var 6))) .nil) .nil) (.cons (.ret (.tup (.cons (.idx (.idx (.var 1) (.str "starts")) (.int 0)) (.cons (.bi .tuple (.cons (.var 6) .nil)) .nil)))) .nil)))))))))))
/-- _law_leaves -/
def b__law_leaves : Cs :=
  (.cons (.ife (.cmp .ne (.idx (.var 0) (.int 0)) (.str "knot")) (.cons (.ret (.lst (.cons (.idx (.var 0) (.int 0)) .nil))) .nil) .nil) (.cons (.set 1 (.lst .nil)) (.cons (.for_ (.nm 2) (.seq (.idx (.var 0) (.int 3))) (.cons (.set 1 (.bin .add (.var 1) (.call 178 (.cons (.var 2) .nil)))) .nil)) (.cons (.ret (.var 1)) .nil))))
/-- _law_deep -/
def b__law_deep : Cs :=
  (.cons (.set 2 (.tup (.cons (.str "foot") (.cons (.idx (.idx (.var 1) (.str "grafts")) (.int 0)) .nil)))) (.cons (.for_ (.nm 3) (.rng1 (.bin .add (.int 1) (.call 3 (.cons (.var 0) (.cons (.int 5) .nil))))) (.cons (.set 4 (.tup (.cons (.var 2) .nil))) (.cons (.ife (.or (.cmp .eq (.var 3) (.int 0)) (.one (.cmp .eq (.call 3 (.cons (.var 0) (.cons (.int 2) .nil))) (.int 0)))) (.cons (.set 4 (.tup (.cons (.tup (.cons (.str "sign") (.cons (.idx (.idx (.var 1) (.str "signs")) (.call 3 (.cons (.var 0) (.cons (.int 2) .nil)))) .nil))) (.cons (.var 2) .nil)))) .nil) .nil) (.cons (.ife (.cmp .eq (.call 3 (.cons (.var 0) (.cons (.int 8) .nil))) (.int 0)) (.cons (.set 5 (.lst (.cons (.tup (.cons (.str "void") .nil)) (.cons (.tup (.cons (.str "sign") (.cons (.idx (.idx (.var 1) (.str "signs")) (.int 0)) .nil))) (.cons (.tup (.cons (.str "hole") (.cons (.idx (.idx (.var 1) (.str "starts")) (.int 0)) .nil))) .nil))))) (.cons (.set 4 (.bin .add (.var 4) (.tup (.cons (.idx (.var 5) (.call 3 (.cons (.var 0) (.cons (.int 3) .nil)))) .nil)))) .nil)) .nil) (.cons (.set 2 (.tup (.cons (.str "knot") (.cons (.idx (.idx (.var 1) (.str "starts")) (.int 1)) (.cons (.non) (.cons (.var 4) .nil)))))) .nil))))) (.cons (.ret (.var 2)) .nil)))
/-- law -/
def b_law : Cs :=
  (.cons (.set 1 (.call 2 (.cons (.var 0) .nil))) (.cons (.set 2 (.call 4 (.cons (.var 1) (.cons (.str "abcdefghijklmnopqrstuvwxyz") (.cons (.str "q") (.cons (.int 2) .nil)))))) (.cons (.set 3 (.idx (.lst (.cons (.int 0) (.cons (.int 1) (.cons (.int 1) (.cons (.int 4) .nil))))) (.call 3 (.cons (.var 1) (.cons (.int 4) .nil))))) (.cons (.set 4 (.disp ["signs", "free", "knots", "left"] (.cons (.var 2) (.cons (.var 3) (.cons (.bl true) (.cons (.int 0) .nil)))))) (.cons (.set 5 (.call 40 (.cons (.var 1) (.cons (.var 4) (.cons (.bin .add (.int 3) (.call 3 (.cons (.var 1) (.cons (.int 3) .nil)))) (.cons (.int 4) .nil)))))) (.cons (.set 6 (.lc (.call 178 (.cons (.var 14) .nil)) (.tp [13, 14]) (.seq (.idx (.var 5) (.int 1))) (.yes) [("key", 13), ("tree", 14)])) (.cons (.set 7 (.cmp .eq (.bi .len (.cons (.lc (.var 15) (.nm 15) (.seq (.var 6)) (.and (.cmp .inn (.str "foot") (.var 15)) (.one (.cmp .ne (.idx (.var 15) (.neg (.int 1))) (.str "foot")))) [("row", 15)]) .nil)) (.int 0))) (.cons (.set 8 (.call 179 (.cons (.var 1) (.cons (.var 4) .nil)))) (.cons (.set 9 (.bi .tuple (.cons (.lc (.var 16) (.tp [16, 15]) (.zip (.idx (.var 5) (.int 1)) (.var 6)) (.cmp .notin (.str "foot") (.var 15)) [("pair", 16), ("row", 15)]) .nil))) (.cons (.set 10 (.lst (.cons (.tup (.cons (.var 5) (.cons (.var 7) .nil))) (.cons (.tup (.cons (.tup (.cons (.idx (.var 5) (.int 0)) (.cons (.rev (.idx (.var 5) (.int 1))) .nil))) (.cons (.var 7) .nil))) (.cons (.tup (.cons (.var 5) (.cons (.var 7) .nil))) (.cons (.tup (.cons (.tup (.cons (.idx (.var 5) (.int 0)) (.cons (.var 9) .nil))) (.cons (.bl true) .nil))) .nil)))))) (.cons (.ex (.bm .append (.var 10) (.cons (.tup (.cons (.tup (.cons (.idx (.var 5) (.int 0)) (.cons (.bin .add (.var 9) (.tup (.cons (.tup (.cons (.str "zdeep") (.cons (.var 8) .nil))) .nil))) .nil))) (.cons (.cmp .eq (.idx (.call 178 (.cons (.var 8) .nil)) (.neg (.int 1))) (.str "foot")) .nil))) .nil))) (.cons (.for_ (.tp [11, 7]) (.seq (.var 10)) (.cons (.set 12 (.call 177 (.cons (.var 11) .nil))) (.cons (.ife (.or (.not (.v (.isi (.var 12) .bool))) (.one (.cmp .ne (.var 12) (.var 7)))) (.cons (.ret (.bl false)) .nil) .nil) .nil))) (.cons (.ret (.bl true)) .nil)))))))))))))
def ft : List (Nat × Str × Fd) := [(90, "kids_of", ⟨1, 1, VL.b_kids_of⟩), (91, "places", ⟨1, 5, VL.b_places⟩), (92, "piece_at", ⟨2, 5, VL.b_piece_at⟩), (93, "feet_of", ⟨1, 4, VL.b_feet_of⟩), (94, "is_graft", ⟨1, 1, VL.b_is_graft⟩), (175, "leaves_of", ⟨1, 4, b_leaves_of⟩), (176, "first_amid", ⟨1, 3, b_first_amid⟩), (177, "one_sided", ⟨1, 1, b_one_sided⟩), (2, "_law_box", ⟨1, 4, VL.b__law_box⟩), (3, "_law_pick", ⟨2, 4, VL.b__law_pick⟩), (4, "_law_words", ⟨4, 10, VL.b__law_words⟩), (139, "_law_socket", ⟨1, 1, VL.b__law_socket⟩), (140, "_law_leaf", ⟨2, 3, VL.b__law_leaf⟩), (141, "_law_worn", ⟨2, 3, VL.b__law_worn⟩), (142, "_law_knot", ⟨5, 11, VL.b__law_knot⟩), (33, "_law_signs", ⟨1, 3, b__law_signs⟩), (39, "_law_tree", ⟨5, 7, b__law_tree⟩), (40, "_law_book", ⟨4, 11, b__law_book⟩), (178, "_law_leaves", ⟨1, 3, b__law_leaves⟩), (179, "_law_deep", ⟨2, 6, b__law_deep⟩), (8, "law", ⟨1, 17, b_law⟩)]
def tbl : List (Nat × Fd) := ft.map fun p => (p.1, p.2.2)
def fs : List (Nat × Str) := ft.map fun p => (p.1, p.2.1)
def bs : List Str := ["bool", "enumerate", "isinstance", "len", "list", "range", "tuple", "zip"]
def gs : List (Str × D) := []
theorem sc_kids_of : L2.FnScope ["tree"] ["tree"] (L2.defScope (top 4)) := ⟨rfl, rfl, rfl, by decide +kernel, rfl, by decide +kernel, by decide +kernel⟩
theorem m_kids_of : mCs ⟨["tree"], L2.defScope (top 4), none, fs, bs, gs⟩ VL.b_kids_of (L2.defBody (top 4)) = true := by decide +kernel
theorem sc_places : L2.FnScope ["tree", "found", "k", "kid", "place"] ["tree"] (L2.defScope (top 5)) := ⟨rfl, rfl, rfl, by decide +kernel, rfl, by decide +kernel, by decide +kernel⟩
theorem m_places : mCs ⟨["tree", "found", "k", "kid", "place"], L2.defScope (top 5), none, fs, bs, gs⟩ VL.b_places (L2.defBody (top 5)) = true := by decide +kernel
theorem sc_piece_at : L2.FnScope ["tree", "place", "found", "number", "kids"] ["tree", "place"] (L2.defScope (top 6)) := ⟨rfl, rfl, rfl, by decide +kernel, rfl, by decide +kernel, by decide +kernel⟩
theorem m_piece_at : mCs ⟨["tree", "place", "found", "number", "kids"], L2.defScope (top 6), none, fs, bs, gs⟩ VL.b_piece_at (L2.defBody (top 6)) = true := by decide +kernel
theorem sc_feet_of : L2.FnScope ["tree", "pieces", "place", "piece"] ["tree"] (L2.defScope (top 8)) := ⟨rfl, rfl, rfl, by decide +kernel, rfl, by decide +kernel, by decide +kernel⟩
theorem m_feet_of : mCs ⟨["tree", "pieces", "place", "piece"], L2.defScope (top 8), none, fs, bs, gs⟩ VL.b_feet_of (L2.defBody (top 8)) = true := by decide +kernel
theorem sc_is_graft : L2.FnScope ["tree"] ["tree"] (L2.defScope (top 9)) := ⟨rfl, rfl, rfl, by decide +kernel, rfl, by decide +kernel, by decide +kernel⟩
theorem m_is_graft : mCs ⟨["tree"], L2.defScope (top 9), none, fs, bs, gs⟩ VL.b_is_graft (L2.defBody (top 9)) = true := by decide +kernel
theorem sc_leaves_of : L2.FnScope ["tree", "pieces", "place", "piece"] ["tree"] (L2.defScope (top 11)) := ⟨rfl, rfl, rfl, by decide +kernel, rfl, by decide +kernel, by decide +kernel⟩
theorem m_leaves_of : mCs ⟨["tree", "pieces", "place", "piece"], L2.defScope (top 11), none, fs, bs, gs⟩ b_leaves_of (L2.defBody (top 11)) = true := by decide +kernel
theorem sc_first_amid : L2.FnScope ["book", "key", "tree"] ["book"] (L2.defScope (top 12)) := ⟨rfl, rfl, rfl, by decide +kernel, rfl, by decide +kernel, by decide +kernel⟩
theorem m_first_amid : mCs ⟨["book", "key", "tree"], L2.defScope (top 12), none, fs, bs, gs⟩ b_first_amid (L2.defBody (top 12)) = true := by decide +kernel
theorem sc_one_sided : L2.FnScope ["book"] ["book"] (L2.defScope (top 13)) := ⟨rfl, rfl, rfl, by decide +kernel, rfl, by decide +kernel, by decide +kernel⟩
theorem m_one_sided : mCs ⟨["book"], L2.defScope (top 13), none, fs, bs, gs⟩ b_one_sided (L2.defBody (top 13)) = true := by decide +kernel
theorem sc__law_box : L2.FnScope ["script", "seed", "great", "cell"] ["script"] (L2.defScope (top 15)) := ⟨rfl, rfl, rfl, by decide +kernel, rfl, by decide +kernel, by decide +kernel⟩
theorem m__law_box : mCs ⟨["script", "seed", "great", "cell"], L2.defScope (top 15), none, fs, bs, gs⟩ VL.b__law_box (L2.defBody (top 15)) = true := by decide +kernel
theorem sc__law_pick : L2.FnScope ["box", "count", "stir", "digit"] ["box", "count"] (L2.defScope (top 16)) := ⟨rfl, rfl, rfl, by decide +kernel, rfl, by decide +kernel, by decide +kernel⟩
theorem m__law_pick : mCs ⟨["box", "count", "stir", "digit"], L2.defScope (top 16), none, fs, bs, gs⟩ VL.b__law_pick (L2.defBody (top 16)) = true := by decide +kernel
theorem sc__law_words : L2.FnScope ["box", "heads", "tail", "count", "stem", "k", "at", "turn", "some", "word"] ["box", "heads", "tail", "count"] (L2.defScope (top 17)) := ⟨rfl, rfl, rfl, by decide +kernel, rfl, by decide +kernel, by decide +kernel⟩
theorem m__law_words : mCs ⟨["box", "heads", "tail", "count", "stem", "k", "at", "turn", "some", "word"], L2.defScope (top 17), none, fs, bs, gs⟩ VL.b__law_words (L2.defBody (top 17)) = true := by decide +kernel
theorem sc__law_socket : L2.FnScope ["some"] ["some"] (L2.defScope (top 18)) := ⟨rfl, rfl, rfl, by decide +kernel, rfl, by decide +kernel, by decide +kernel⟩
theorem m__law_socket : mCs ⟨["some"], L2.defScope (top 18), none, fs, bs, gs⟩ VL.b__law_socket (L2.defBody (top 18)) = true := by decide +kernel
theorem sc__law_leaf : L2.FnScope ["box", "some", "way"] ["box", "some"] (L2.defScope (top 19)) := ⟨rfl, rfl, rfl, by decide +kernel, rfl, by decide +kernel, by decide +kernel⟩
theorem m__law_leaf : mCs ⟨["box", "some", "way"], L2.defScope (top 19), none, fs, bs, gs⟩ VL.b__law_leaf (L2.defBody (top 19)) = true := by decide +kernel
theorem sc__law_worn : L2.FnScope ["box", "some", "way"] ["box", "some"] (L2.defScope (top 20)) := ⟨rfl, rfl, rfl, by decide +kernel, rfl, by decide +kernel, by decide +kernel⟩
theorem m__law_worn : mCs ⟨["box", "some", "way"], L2.defScope (top 20), none, fs, bs, gs⟩ VL.b__law_worn (L2.defBody (top 20)) = true := by decide +kernel
theorem sc__law_knot : L2.FnScope ["box", "some", "name", "deep", "foot", "worn", "kids", "size", "spot", "k", "here"] ["box", "some", "name", "deep", "foot"] (L2.defScope (top 21)) := ⟨rfl, rfl, rfl, by decide +kernel, rfl, by decide +kernel, by decide +kernel⟩
theorem m__law_knot : mCs ⟨["box", "some", "name", "deep", "foot", "worn", "kids", "size", "spot", "k", "here"], L2.defScope (top 21), none, fs, bs, gs⟩ VL.b__law_knot (L2.defBody (top 21)) = true := by decide +kernel
theorem sc__law_signs : L2.FnScope ["piece", "signs", "kid"] ["piece"] (L2.defScope (top 22)) := ⟨rfl, rfl, rfl, by decide +kernel, rfl, by decide +kernel, by decide +kernel⟩
theorem m__law_signs : mCs ⟨["piece", "signs", "kid"], L2.defScope (top 22), none, fs, bs, gs⟩ b__law_signs (L2.defBody (top 22)) = true := by decide +kernel
theorem sc__law_tree : L2.FnScope ["box", "some", "name", "foot", "room", "tree", "sign"] ["box", "some", "name", "foot", "room"] (L2.defScope (top 23)) := ⟨rfl, rfl, rfl, by decide +kernel, rfl, by decide +kernel, by decide +kernel⟩
theorem m__law_tree : mCs ⟨["box", "some", "name", "foot", "room", "tree", "sign"], L2.defScope (top 23), none, fs, bs, gs⟩ b__law_tree (L2.defBody (top 23)) = true := by decide +kernel
theorem sc__law_book : L2.FnScope ["box", "some", "count", "room", "great", "keys", "trees", "k", "turn", "name", "foot"] ["box", "some", "count", "room"] (L2.defScope (top 24)) := ⟨rfl, rfl, rfl, by decide +kernel, rfl, by decide +kernel, by decide +kernel⟩
theorem m__law_book : mCs ⟨["box", "some", "count", "room", "great", "keys", "trees", "k", "turn", "name", "foot"], L2.defScope (top 24), none, fs, bs, gs⟩ b__law_book (L2.defBody (top 24)) = true := by decide +kernel
theorem sc__law_leaves : L2.FnScope ["piece", "leaves", "kid"] ["piece"] (L2.defScope (top 25)) := ⟨rfl, rfl, rfl, by decide +kernel, rfl, by decide +kernel, by decide +kernel⟩
theorem m__law_leaves : mCs ⟨["piece", "leaves", "kid"], L2.defScope (top 25), none, fs, bs, gs⟩ b__law_leaves (L2.defBody (top 25)) = true := by decide +kernel
theorem sc__law_deep : L2.FnScope ["box", "some", "tree", "k", "kids", "behind"] ["box", "some"] (L2.defScope (top 26)) := ⟨rfl, rfl, rfl, by decide +kernel, rfl, by decide +kernel, by decide +kernel⟩
theorem m__law_deep : mCs ⟨["box", "some", "tree", "k", "kids", "behind"], L2.defScope (top 26), none, fs, bs, gs⟩ b__law_deep (L2.defBody (top 26)) = true := by decide +kernel
theorem sc_law : L2.FnScope ["script", "box", "signs", "free", "some", "book", "rows", "due", "deep", "starts", "things", "thing", "told", "key", "tree", "row", "pair"] ["script"] (L2.defScope (top 27)) := ⟨rfl, rfl, rfl, by decide +kernel, rfl, by decide +kernel, by decide +kernel⟩
theorem m_law : mCs ⟨["script", "box", "signs", "free", "some", "book", "rows", "due", "deep", "starts", "things", "thing", "told", "key", "tree", "row", "pair"], L2.defScope (top 27), none, fs, bs, gs⟩ b_law (L2.defBody (top 27)) = true := by decide +kernel
end K87
namespace K87
open PySem VM
open VL
theorem hasFeet : HasFeet tbl := ⟨⟨rfl, rfl, rfl⟩, rfl, rfl⟩
theorem atI_last {α : Type} (xs : List α) : L2.atI xs (-1) = xs.getLast? := by
  unfold L2.atI L2.ixN
  cases xs with
  | nil => rfl
  | cons x xs =>
    rw [if_neg (by omega), if_pos (by rw [List.length_cons]; omega), List.getLast?_eq_getElem?]
    show (x :: xs)[(-1 + ((x :: xs).length : Int)).toNat]? = _
    have : (-1 + ((x :: xs).length : Int)).toNat = (x :: xs).length - 1 := by omega
    rw [this]
def kdD (u : Tr) : D := .str u.kd
theorem leaves_lf {kd : Str} {r : List D} (h : kd ≠ "knot") : (Tr.lf kd r).leaves = [.lf kd r] := by
  unfold Tr.leaves
  rw [Tr.subs, List.filter_cons]
  have : (!((Tr.lf kd r).kd == ("knot" : Str))) = true := by
    rw [Tr.kd, Bool.not_eq_true', beq_eq_false_iff_ne]
    exact h
  rw [this]
  rfl
theorem leaves_knot {n : Str} {w : D} {ks : List Tr} : (Tr.knot n w ks).leaves = ks.flatMap Tr.leaves := by
  unfold Tr.leaves
  rw [Tr.subs, List.filter_cons]
  have : (!((Tr.knot n w ks).kd == ("knot" : Str))) = false := by rw [Tr.kd]; decide +kernel
  rw [this, subsL_map, List.filter_flatMap]
  rfl
def amid (t : Tr) : Bool := t.feet.length == 1 && !((t.leaves.getLast?.map Tr.kd) == some ("foot" : Str))
section
variable {k n : Nat} {S : Sto}
theorem leaves_sp {m : Nat} (hm : n + 3 ≤ m) {t : Tr} (hd : t.dep ≤ n) (hn : n ≤ 1000) (ht : t.ok) (hs : t.subs.length ≤ 100000) (Q : D → Sto → Prop)
    (hQ : ∀ r S', Ext S S' → S.length ≤ r → lstAt S' r = some (t.leaves.map Tr.enc) → Q (.ref r) S') : Wp (callN tbl m 175 [t.enc] S) Q := by
  obtain ⟨k, rfl⟩ : ∃ k, m = k + n + 3 := ⟨m - n - 3, by omega⟩
  clear hm
  have sz : sizeLine = 16777216 := rfl
  refine wp_call (fd := ⟨1, 4, b_leaves_of⟩) rfl rfl ?_
  unfold b_leaves_of
  try walk_at "ev"
  refine places_sp hasFeet.toHasTrees n t k S _ hd hn ht hs ?_
  intro r S1 X1 hr L1
  try walk_at "ev"
  refine wp_lR (ds := t.pls.map plD) (fun i acc S' => acc = (t.subs.take i).map Tr.enc ∧ Ext S1 S') ⟨rfl, Ext.refl _⟩ ?_ ?_ ?_
  · rintro i acc S2 ⟨_, X2⟩
    exact X2.lst L1
  · rintro i d acc S2 hd2 ⟨rfl, X2⟩ J K hJ hK
    rw [List.getElem?_map] at hd2
    cases ep : t.pls[i]? with
    | none => rw [ep] at hd2; cases hd2
    | some p =>
      rw [ep] at hd2
      cases hd2
      obtain ⟨u, eu, ea⟩ := subs_at ep
      have htk : t.subs.take (i + 1) = t.subs.take i ++ [u] := by rw [List.take_succ, eu]; rfl
      refine ⟨_, rfl, ?_⟩
      clear hK
      try walk_at "ev"
      refine piece_sp hasFeet.toHasTrees ht ea _ ?_
      refine hJ _ _ (by simp; omega) ⟨by rw [htk]; simp, X2⟩
  · rintro acc S2 ⟨rfl, X2⟩
    rw [List.length_map, pls_subs_len, List.take_length]
    try walk_at "ev"
    refine wp_lR (ds := t.subs.map Tr.enc) (fun i acc S' => acc = ((t.subs.take i).filter fun u => !(u.kd == ("knot" : Str))).map Tr.enc ∧ Ext (S2 ++ [O.lst (t.subs.map Tr.enc)]) S') ⟨rfl, Ext.refl _⟩ ?_ ?_ ?_
    · rintro i acc S3 ⟨_, X3⟩
      exact X3.lst lstAt_new
    · rintro i d acc S3 hd3 ⟨rfl, X3⟩ J K hJ hK
      rw [List.getElem?_map] at hd3
      cases eu : t.subs[i]? with
      | none => rw [eu] at hd3; cases hd3
      | some u =>
        rw [eu] at hd3
        cases hd3
        have htk : t.subs.take (i + 1) = t.subs.take i ++ [u] := by rw [List.take_succ, eu]; rfl
        have hlen : (((t.subs.take i).filter fun u => !(u.kd == ("knot" : Str))).map Tr.enc).length < sizeLine := by
          rw [List.length_map]
          have := List.length_filter_le (fun u : Tr => !(u.kd == ("knot" : Str))) (t.subs.take i)
          rw [List.length_take] at this
          omega
        have e0 := u.idx0
        refine ⟨_, rfl, ?_⟩
        rw [htk, List.filter_append, List.map_append] at hJ hK
        try walk_at "ev"
        refine lcQ_by (fun h => ?_) (fun h => ?_)
        · have hf : ([u].filter fun u => !(u.kd == ("knot" : Str))) = [u] := by
            rw [List.filter_cons, h]
            rfl
          rw [hf] at hJ
          clear hK
          try walk_at "ev"
          exact hJ _ _ hlen ⟨rfl, X3⟩
        · have hf : ([u].filter fun u => !(u.kd == ("knot" : Str))) = [] := by
            rw [List.filter_cons, h]
            rfl
          refine hK _ ⟨?_, X3⟩
          rw [hf, List.map_nil, List.append_nil]
    · rintro acc S3 ⟨rfl, X3⟩
      rw [List.length_map, List.take_length]
      try walk_at "ev"
      refine hQ _ _ (X1.trans (X2.trans ((Ext.app _ _).trans (X3.trans (Ext.app _ _))))) ?_ lstAt_new
      exact (X1.trans (X2.trans ((Ext.app _ _).trans X3))).len
def prD (p : Str × Tr) : D := .tup [.str p.1, p.2.enc]
def bkD (top : Str) (ps : List (Str × Tr)) : D := .tup [.str top, .tup (ps.map prD)]
/-- trees that the walks below can go through -/
structure Nice (n : Nat) (t : Tr) : Prop where
  dep : t.dep ≤ n
  ok : t.ok
  len : t.subs.length ≤ 100000
  lv : t.leaves ≠ []
theorem amid_sp {m : Nat} (hm : n + 5 ≤ m) {top : Str} {ps : List (Str × Tr)} (hn : n ≤ 1000) (hps : ∀ p ∈ ps, Nice n p.2) (Q : D → Sto → Prop)
    (hQ : ∀ S', Ext S S' → Q (match ps.find? (fun p => amid p.2) with | none => .non | some p => .str p.1) S') : Wp (callN tbl m 176 [bkD top ps] S) Q := by
  obtain ⟨k, rfl⟩ : ∃ k, m = k + n + 5 := ⟨m - n - 5, by omega⟩
  clear hm
  refine wp_call (fd := ⟨1, 3, b_first_amid⟩) rfl rfl ?_
  unfold b_first_amid bkD
  try walk_at "ev"
  refine wp_fF (fun i ρ S' => ∃ x y, ρ = [some (bkD top ps), x, y] ∧ Ext S S' ∧ (ps.take i).find? (fun p => amid p.2) = none) ⟨_, _, rfl, Ext.refl _, rfl⟩ ?_ ?_
  · rintro i d ρ S1 hd ⟨x, y, rfl, X1, hf⟩ J hJ
    rw [List.getElem?_map] at hd
    cases ep : ps[i]? with
    | none => rw [ep] at hd; cases hd
    | some p =>
      rw [ep] at hd
      cases hd
      obtain ⟨key, t⟩ := p
      have N := hps _ (List.mem_of_getElem? ep)
      obtain ⟨hi, ep'⟩ := List.getElem?_eq_some_iff.mp ep
      have htk : ps.take (i + 1) = ps.take i ++ [(key, t)] := by rw [List.take_succ, ep]; rfl
      have hpp : ∃ r, ps = ps.take i ++ (key, t) :: r := ⟨ps.drop (i + 1), by
        conv => lhs; rw [← List.take_append_drop i ps]
        rw [List.drop_eq_getElem_cons hi, ep']⟩
      have out : amid t = false → ∀ S', Ext S S' → J [some (bkD top ps), some (.str key), some t.enc] S' := fun h S' X' => hJ _ _ ⟨_, _, rfl, X', by
        rw [htk, List.find?_append, hf, List.find?_cons]
        simp only [h]
        rfl⟩
      unfold bkD at out
      refine ⟨_, rfl, ?_⟩
      try walk_at "ev"
      refine graft_sp hasFeet N.dep hn N.ok N.len _ ?_
      intro S2 X2
      try walk_at "ev"
      refine andQ_by (fun h => ?_) (fun h => ?_)
      · try walk_at "ev"
        refine leaves_sp (by omega) N.dep hn N.ok N.len _ ?_
        intro r S3 X3 hr L3
        obtain ⟨l, hl⟩ : ∃ l, t.leaves.getLast? = some l := by
          cases e : t.leaves.getLast? with
          | none => exact absurd (List.getLast?_eq_none_iff.mp e) N.lv
          | some l => exact ⟨l, rfl⟩
        have hat : L2.atI (t.leaves.map Tr.enc) (-1) = some l.enc := by
          rw [atI_last, List.getLast?_map, hl]
          rfl
        have e0 := l.idx0
        try walk_at "ev"
        have ha : amid t = !(l.kd == ("foot" : Str)) := by
          unfold amid
          rw [h, hl]
          rfl
        refine ifQ_by (fun h2 => ?_) (fun h2 => ?_)
        · try walk_at "ev"
          have := hQ S3 (X1.trans (X2.trans X3))
          obtain ⟨rr, hpp⟩ := hpp
          rw [hpp, List.find?_append, hf, List.find?_cons] at this
          rw [h2] at ha
          simp only [ha] at this
          exact this
        · try walk_at "ev"
          exact out (by rw [ha, h2]) _ (X1.trans (X2.trans X3))
      · try walk_at "ev"
        exact out (by unfold amid; rw [h]; rfl) _ (X1.trans X2)
  · rintro ρ S1 ⟨x, y, rfl, X1, hf⟩
    rw [List.length_map, List.take_length] at hf
    try walk_at "ev"
    have := hQ S1 X1
    rw [hf] at this
    exact this
theorem sided_sp {m : Nat} (hm : n + 6 ≤ m) {top : Str} {ps : List (Str × Tr)} (hn : n ≤ 1000) (hps : ∀ p ∈ ps, Nice n p.2) (Q : D → Sto → Prop)
    (hQ : ∀ S', Ext S S' → Q (.bl (ps.all fun p => !amid p.2)) S') : Wp (callN tbl m 177 [bkD top ps] S) Q := by
  obtain ⟨k, rfl⟩ : ∃ k, m = k + n + 6 := ⟨m - n - 6, by omega⟩
  clear hm
  refine wp_call (fd := ⟨1, 1, b_one_sided⟩) rfl rfl ?_
  unfold b_one_sided
  try walk_at "ev"
  refine amid_sp (by omega) hn hps _ ?_
  intro S1 X1
  have h := hQ S1 X1
  have he : (ps.all fun p => !amid p.2) = (ps.find? (fun p => amid p.2)).isNone := by
    rw [Bool.eq_iff_iff, List.all_eq_true, Option.isNone_iff_eq_none, List.find?_eq_none]
    simp
  rw [he] at h
  cases e : ps.find? (fun p => amid p.2) with
  | none =>
    rw [e] at h
    try walk_at "ev"
    exact h
  | some p =>
    rw [e] at h
    try walk_at "ev"
    exact h
end

end K87
namespace K87
open PySem VM
open VL
theorem hasDraw : HasDraw tbl := ⟨⟨rfl, rfl⟩, rfl, rfl, rfl, rfl⟩
theorem hasWords : HasWords tbl := ⟨⟨rfl, rfl⟩, rfl⟩
section
variable {b n L : Nat} {S S0 : Sto}
/-- the signs of a tree: a list no longer than the tree -/
theorem signs_sp : ∀ (d : Nat) (t : Tr) (m : Nat) (S : Sto) (Q : D → Sto → Prop), t.dep ≤ d → d + 1 ≤ m → t.ok → t.subs.length ≤ 100000 →
    (∀ r S' ds, Ext S S' → S.length ≤ r → lstAt S' r = some ds → ds.length ≤ t.subs.length → Q (.ref r) S') → Wp (callN tbl m 33 [t.enc] S) Q := by
  have sz : sizeLine = 16777216 := rfl
  intro d
  induction d with
  | zero =>
    intro t m S Q hd hm ht hs hQ
    obtain ⟨m, rfl⟩ : ∃ j, m = j + 1 := ⟨m - 1, by omega⟩
    refine wp_call (fd := ⟨1, 3, b__law_signs⟩) rfl rfl ?_
    unfold b__law_signs
    have e0 := t.idx0
    cases t with
    | knot nm w ks => rw [Tr.dep] at hd; omega
    | lf kd rest =>
      rw [Tr.kd] at e0
      rw [Tr.ok] at ht
      rw [Tr.subs] at hQ
      try walk_at "ev"
      refine ifQ_by (fun h => ?_) (fun h => ?_)
      · have hk : kd = "sign" := eq_of_beq h
        obtain ⟨d0, rfl⟩ := ht.2 (.inr hk)
        clear e0
        rw [Tr.enc]
        try walk_at "ev"
        exact hQ _ _ [d0] (Ext.app _ _) (Nat.le_refl _) lstAt_new (by simp)
      · have hk : (kd == ("knot" : Str)) = false := beq_eq_false_iff_ne.mpr ht.1
        try walk_at "ev"
        exact hQ _ _ [] (Ext.app _ _) (Nat.le_refl _) lstAt_new (by simp)
  | succ d ih =>
    intro t m S Q hd hm ht hs hQ
    obtain ⟨m, rfl⟩ : ∃ j, m = j + 1 := ⟨m - 1, by omega⟩
    refine wp_call (fd := ⟨1, 3, b__law_signs⟩) rfl rfl ?_
    unfold b__law_signs
    have e0 := t.idx0
    cases t with
    | lf kd rest =>
      rw [Tr.kd] at e0
      rw [Tr.ok] at ht
      rw [Tr.subs] at hQ
      try walk_at "ev"
      refine ifQ_by (fun h => ?_) (fun h => ?_)
      · have hk : kd = "sign" := eq_of_beq h
        obtain ⟨d0, rfl⟩ := ht.2 (.inr hk)
        clear e0
        rw [Tr.enc]
        try walk_at "ev"
        exact hQ _ _ [d0] (Ext.app _ _) (Nat.le_refl _) lstAt_new (by simp)
      · have hk : (kd == ("knot" : Str)) = false := beq_eq_false_iff_ne.mpr ht.1
        try walk_at "ev"
        exact hQ _ _ [] (Ext.app _ _) (Nat.le_refl _) lstAt_new (by simp)
    | knot nm w ks =>
      have h1 : (("knot" : Str) == ("sign" : Str)) = false := by decide +kernel
      have h2 : (("knot" : Str) == ("knot" : Str)) = true := by decide +kernel
      have hdk : ∀ u ∈ ks, u.dep ≤ d := fun u hu => by
        have := Tr.dep_kids (t := .knot nm w ks) (u := u) hu
        omega
      have hok : ∀ u ∈ ks, u.ok := Tr.ok_kids ht
      rw [Tr.subs, List.length_cons] at hs
      rw [Tr.subs, List.length_cons] at hQ
      rw [Tr.kd] at e0
      clear e0
      rw [Tr.enc, encs_map]
      try walk_at "ev"
      refine wp_fF (fun i ρ S' => ∃ r x ds, ρ = [some (.tup [.str "knot", .str nm, w, .tup (ks.map Tr.enc)]), some (.ref r), x] ∧ Ext S S' ∧ S.length ≤ r ∧ lstAt S' r = some ds ∧ ds.length ≤ (subsL (ks.take i)).length) ?_ ?_ ?_
      · exact ⟨_, _, [], rfl, Ext.app _ _, Nat.le_refl _, lstAt_new, by simp⟩
      · rintro i d' ρ S1 hd1 ⟨r, x, ds, rfl, X1, hr, L1, l1⟩ J hJ
        rw [List.getElem?_map] at hd1
        cases eu : ks[i]? with
        | none => rw [eu] at hd1; cases hd1
        | some u =>
          rw [eu] at hd1
          cases hd1
          have hu := List.mem_of_getElem? eu
          have htk : ks.take (i + 1) = ks.take i ++ [u] := by rw [List.take_succ, eu]; rfl
          obtain ⟨hi, eu'⟩ := List.getElem?_eq_some_iff.mp eu
          have hle : (subsL (ks.take i)).length + u.subs.length ≤ (subsL ks).length := by
            conv => rhs; rw [← List.take_append_drop i ks]
            rw [List.drop_eq_getElem_cons hi, eu', subsL_map, subsL_map, List.flatMap_append, List.length_append, List.flatMap_cons, List.length_append]
            omega
          have hl1 : (subsL (ks.take (i + 1))).length = (subsL (ks.take i)).length + u.subs.length := by
            rw [htk, subsL_map, subsL_map, List.flatMap_append, List.length_append]
            simp
          refine ⟨_, rfl, ?_⟩
          try walk_at "ev"
          refine ih u m S1 _ (hdk u hu) (by omega) (hok u hu) (by omega) ?_
          intro r2 S2 ds2 X2 hr2 L2 l2
          have L1' := X2.lst L1
          try walk_at "ev"
          refine ⟨by omega, hJ _ _ ⟨_, _, ds ++ ds2, rfl, X1.trans (X2.trans (Ext.app _ _)), ?_, lstAt_new, ?_⟩⟩
          · have := X1.len; have := X2.len; omega
          · rw [List.length_append, hl1]; omega
      · rintro ρ S1 ⟨r, x, ds, rfl, X1, hr, L1, l1⟩
        rw [List.length_map, List.take_length] at l1
        try walk_at "ev"
/-- the kinds of a tree's leaves -/
theorem kinds_sp : ∀ (d : Nat) (t : Tr) (m : Nat) (S : Sto) (Q : D → Sto → Prop), t.dep ≤ d → d + 1 ≤ m → t.ok → t.subs.length ≤ 100000 →
    (∀ r S', Ext S S' → S.length ≤ r → lstAt S' r = some (t.leaves.map kdD) → Q (.ref r) S') → Wp (callN tbl m 178 [t.enc] S) Q := by
  have sz : sizeLine = 16777216 := rfl
  have leaf : ∀ (kd : Str) (rest : List D) (m : Nat) (S : Sto) (Q : D → Sto → Prop), 1 ≤ m → kd ≠ "knot" → (∀ r S', Ext S S' → S.length ≤ r → lstAt S' r = some ((Tr.lf kd rest).leaves.map kdD) → Q (.ref r) S') → Wp (callN tbl m 178 [(Tr.lf kd rest).enc] S) Q := by
    intro kd rest m S Q hm hk hQ
    obtain ⟨m, rfl⟩ : ∃ j, m = j + 1 := ⟨m - 1, by omega⟩
    refine wp_call (fd := ⟨1, 3, b__law_leaves⟩) rfl rfl ?_
    unfold b__law_leaves
    have e0 := (Tr.lf kd rest).idx0
    rw [Tr.kd] at e0
    have hkb : (kd == ("knot" : Str)) = false := beq_eq_false_iff_ne.mpr hk
    rw [leaves_lf hk] at hQ
    try walk_at "ev"
    exact hQ _ _ (Ext.app _ _) (Nat.le_refl _) (by rw [lstAt_new]; rfl)
  intro d
  induction d with
  | zero =>
    intro t m S Q hd hm ht hs hQ
    cases t with
    | knot nm w ks => rw [Tr.dep] at hd; omega
    | lf kd rest =>
      rw [Tr.ok] at ht
      exact leaf kd rest m S Q (by omega) ht.1 hQ
  | succ d ih =>
    intro t m S Q hd hm ht hs hQ
    cases t with
    | lf kd rest =>
      rw [Tr.ok] at ht
      exact leaf kd rest m S Q (by omega) ht.1 hQ
    | knot nm w ks =>
      obtain ⟨m, rfl⟩ : ∃ j, m = j + 1 := ⟨m - 1, by omega⟩
      refine wp_call (fd := ⟨1, 3, b__law_leaves⟩) rfl rfl ?_
      unfold b__law_leaves
      have hdk : ∀ u ∈ ks, u.dep ≤ d := fun u hu => by
        have := Tr.dep_kids (t := .knot nm w ks) (u := u) hu
        omega
      have hok : ∀ u ∈ ks, u.ok := Tr.ok_kids ht
      rw [Tr.subs, List.length_cons] at hs
      rw [leaves_knot] at hQ
      have h2 : (("knot" : Str) == ("knot" : Str)) = true := by decide +kernel
      rw [Tr.enc, encs_map]
      have hlv : ∀ us : List Tr, (us.flatMap Tr.leaves).length ≤ (subsL us).length := by
        intro us
        induction us with
        | nil => simp
        | cons u us ihu =>
          rw [subsL, List.flatMap_cons, List.length_append, List.length_append]
          have : u.leaves.length ≤ u.subs.length := List.length_filter_le _ _
          omega
      try walk_at "ev"
      refine wp_fF (fun i ρ S' => ∃ r x, ρ = [some (.tup [.str "knot", .str nm, w, .tup (ks.map Tr.enc)]), some (.ref r), x] ∧ Ext S S' ∧ S.length ≤ r ∧ lstAt S' r = some (((ks.take i).flatMap Tr.leaves).map kdD)) ?_ ?_ ?_
      · exact ⟨_, _, rfl, Ext.app _ _, Nat.le_refl _, lstAt_new⟩
      · rintro i d' ρ S1 hd1 ⟨r, x, rfl, X1, hr, L1⟩ J hJ
        rw [List.getElem?_map] at hd1
        cases eu : ks[i]? with
        | none => rw [eu] at hd1; cases hd1
        | some u =>
          rw [eu] at hd1
          cases hd1
          have hu := List.mem_of_getElem? eu
          have htk : ks.take (i + 1) = ks.take i ++ [u] := by rw [List.take_succ, eu]; rfl
          obtain ⟨hi, eu'⟩ := List.getElem?_eq_some_iff.mp eu
          have hle : (subsL (ks.take i)).length + u.subs.length ≤ (subsL ks).length := by
            conv => rhs; rw [← List.take_append_drop i ks]
            rw [List.drop_eq_getElem_cons hi, eu', subsL_map, subsL_map, List.flatMap_append, List.length_append, List.flatMap_cons, List.length_append]
            omega
          have hl1 := hlv (ks.take i)
          have hl2 : u.leaves.length ≤ u.subs.length := List.length_filter_le _ _
          refine ⟨_, rfl, ?_⟩
          try walk_at "ev"
          refine ih u m S1 _ (hdk u hu) (by omega) (hok u hu) (by omega) ?_
          intro r2 S2 X2 hr2 L2
          have L1' := X2.lst L1
          try walk_at "ev"
          refine ⟨by rw [List.length_map, List.length_map]; omega, hJ _ _ ⟨_, _, rfl, X1.trans (X2.trans (Ext.app _ _)), ?_, ?_⟩⟩
          · have := X1.len; have := X2.len; omega
          · rw [lstAt_new, htk]; simp
      · rintro ρ S1 ⟨r, x, rfl, X1, hr, L1⟩
        rw [List.length_map, List.take_length] at L1
        try walk_at "ev"
theorem Kn.cons {dp sz ft : Nat} {nm : Str} {w : D} {ks : List Tr} {sg : Tr} (h : Kn dp sz ft (.knot nm w ks)) (l : Leaf sg) : Kn dp (sz + 1) ft (.knot nm w (sg :: ks)) := by
  have k := l.kn
  obtain ⟨a1, a2, a3, a4, a5⟩ := h
  rw [Tr.ok] at a1
  rw [Tr.dep] at a2
  rw [Tr.subs, List.length_cons] at a3
  rw [leaves_knot] at a4
  rw [feet_knot] at a5
  have f0 : sg.feet = [] := List.eq_nil_of_length_eq_zero k.ft
  have d0 := k.dep
  have s0 := k.len
  refine ⟨by rw [Tr.ok, okL]; exact ⟨k.ok, a1⟩, by rw [Tr.dep, depL]; omega, by rw [Tr.subs, List.length_cons, subsL, List.length_append]; omega, ?_, by rw [feet_knot, List.flatMap_cons, f0]; exact a5⟩
  rw [leaves_knot, List.flatMap_cons]
  intro z
  exact k.lv (List.append_eq_nil_iff.mp z).1
theorem Kn.snoc {dp sz ft : Nat} {nm : Str} {w : D} {ks : List Tr} {sg : Tr} (h : Kn dp sz ft (.knot nm w ks)) (l : Leaf sg) : Kn dp (sz + 1) ft (.knot nm w (ks ++ [sg])) := by
  have k := l.kn
  obtain ⟨a1, a2, a3, a4, a5⟩ := h
  rw [Tr.ok] at a1
  rw [Tr.dep] at a2
  rw [Tr.subs, List.length_cons] at a3
  rw [leaves_knot] at a4
  rw [feet_knot] at a5
  have f0 : sg.feet = [] := List.eq_nil_of_length_eq_zero k.ft
  have d0 := k.dep
  have s0 := k.len
  refine ⟨?_, ?_, ?_, ?_, ?_⟩
  · rw [Tr.ok, okL_iff]
    intro t ht
    rw [List.mem_append, List.mem_singleton] at ht
    rcases ht with ht | rfl
    · exact (okL_iff ks).mp a1 t ht
    · exact k.ok
  · rw [Tr.dep]
    have : depL (ks ++ [sg]) ≤ depL ks := by
      rw [depL_le]
      intro t ht
      rw [List.mem_append, List.mem_singleton] at ht
      rcases ht with ht | rfl
      · exact (depL_le ks _).mp (Nat.le_refl _) t ht
      · omega
    omega
  · rw [Tr.subs, List.length_cons, subsL_map, List.flatMap_append, List.length_append, ← subsL_map]
    simp
    omega
  · rw [leaves_knot, List.flatMap_append]
    intro z
    exact a4 (List.append_eq_nil_iff.mp z).1
  · rw [feet_knot, List.flatMap_append, List.length_append, a5]
    simp [f0]
end

end K87
namespace K87
open PySem VM
open VL
section
variable {b n L : Nat} {S S0 : Sto}
/-- a drawn tree -/
theorem tree_sp {m : Nat} (hm : 6 ≤ m) {name foot : Str} {room : Nat} (hL : L ≤ S0.length) (hF : Fx b n L true S0 S) (Q : D → Sto → Prop)
    (hQ : ∀ t S', Kn 2 14 (if foot = "" then 0 else 1) t → Fx b n L true S0 S' → Q t.enc S') :
    Wp (callN tbl m 39 [.ref b, .ref n, .str name, .str foot, .int room] S) Q := by
  have sz : sizeLine = 16777216 := rfl
  obtain ⟨m, rfl⟩ : ∃ j, m = j + 6 := ⟨m - 6, by omega⟩
  refine wp_call (fd := ⟨5, 7, b__law_tree⟩) rfl rfl ?_
  unfold b__law_tree
  obtain ⟨⟨kvs, e1, hl, _, _, _, ⟨l0, e4⟩, _⟩, lt, fr⟩ := hF.sm
  have F1 := hF.left room e1
  rw [wp_cons]
  try walk_at "ev1"
  refine ⟨_, ⟨by omega, rfl⟩, ?_⟩
  rw [seqQ_nx, wp_cons]
  clear e1 e4
  try walk_at "ev1"
  refine knot_sp hasDraw 1 (m + 2) _ S0 name foot _ (by omega) hL F1 ?_
  intro nm w ks S2 k2 F2
  have k2 : Kn 2 13 (if foot = "" then 0 else 1) (.knot nm w ks) := k2
  rw [seqQ_nx, wp_cons]
  try walk_at "ev1"
  refine signs_sp 2 _ (m + 5) S2 _ k2.dep (by omega) k2.ok (by have := k2.len; omega) ?_
  intro r S3 ds X3 hr L3 l3
  have F3 := F2.ext X3
  try walk_at "ev1"
  refine ifQ_by (fun h => ?_) (fun h => ?_) <;> clear h
  · have := hQ _ S3 (k2.mono (Nat.le_refl _) (by omega)) F3
    try walk_at "ev"
  · rw [wp_nil, seqQ_nx, wp_cons]
    obtain ⟨⟨kvs3, e1, hl3, ⟨r1, ws, e2, h2, h3, O, h4, h5⟩, _⟩, lt3, fr3⟩ := F3.sm
    have e3 := O.at_
    try walk_at "ev1"
    refine (pick hasDraw.toHasBox (.refl F3.box) (by simp; omega) (by simp; omega)).mono ?_
    rintro _ S4 ⟨j, rfl, hj, B4⟩
    have F4 := F3.bx B4
    have e5 := (O.mono B4).at_
    have hj' : j < (ws.map D.str).length := by simpa using hj
    have hq : j < ws.length := by simpa using hj
    have ha := atI_lt hj'
    rw [List.getElem_map] at ha
    generalize ws[j] = sg at ha
    have lf : Leaf (.lf "sign" [.str sg]) := ⟨_, _, rfl, by decide +kernel, by decide +kernel, fun _ => ⟨_, rfl⟩⟩
    clear e1 e2 e3
    try walk_at "ev1"
    rw [seqQ_nx, wp_cons]
    clear e5 ha
    have hks : (encs ks).length ≤ 13 := by
      have h1 := k2.len
      rw [Tr.subs, List.length_cons] at h1
      have : ∀ us : List Tr, us.length ≤ (subsL us).length := by
        intro us
        induction us with
        | nil => simp
        | cons u us ih =>
          rw [subsL, List.length_append, List.length_cons]
          have : 1 ≤ u.subs.length := by rw [u.subs_eq, List.length_cons]; omega
          omega
      have h2 := this ks
      rw [encs_map, List.length_map]
      omega
    have one : ∀ S5, Fx b n L true S0 S5 → Q (Tr.knot nm w ((.lf "sign" [.str sg]) :: ks)).enc S5 := fun S5 F5 => hQ _ _ (K87.Kn.cons k2 lf) F5
    have two : ∀ S5, Fx b n L true S0 S5 → Q (Tr.knot nm w (ks ++ [.lf "sign" [.str sg]])).enc S5 := fun S5 F5 => hQ _ _ (K87.Kn.snoc k2 lf) F5
    simp only [Tr.enc, encs_map, List.map_append, List.map_cons, List.map_nil] at one two hks
    have fin1 : ∀ (cs : Cs) S5, Fx b n L true S0 S5 → Wp (exCs ⟨callN tbl (m + 5)⟩ (.cons (.ret (.bin .add (.sl (.var 5) (.no) (.e (.int 3))) (.tup (.cons (.bin .add (.tup (.cons (.var 6) .nil)) (.idx (.var 5) (.int 3))) .nil)))) .nil)
        [some (.ref b), some (.ref n), some (.str name), some (.str foot), some (.int room), some (.tup [.str "knot", .str nm, w, .tup (ks.map Tr.enc)]), some (.tup [.str "sign", .str sg])] S5) (seqQ ⟨callN tbl (m + 5)⟩ cs (retQ Q)) := by
      intro cs S5 F5
      have := one S5 F5
      try walk_at "ev"
      exact ⟨by omega, by simp, this⟩
    have fin2 : ∀ S5, Fx b n L true S0 S5 → Wp (exCs ⟨callN tbl (m + 5)⟩ (.cons (.ret (.bin .add (.sl (.var 5) (.no) (.e (.int 3))) (.tup (.cons (.bin .add (.idx (.var 5) (.int 3)) (.tup (.cons (.var 6) .nil))) .nil)))) .nil)
        [some (.ref b), some (.ref n), some (.str name), some (.str foot), some (.int room), some (.tup [.str "knot", .str nm, w, .tup (ks.map Tr.enc)]), some (.tup [.str "sign", .str sg])] S5) (retQ Q) := by
      intro S5 F5
      have := two S5 F5
      try walk_at "ev"
      exact ⟨by omega, by simp, this⟩
    simp only [Tr.enc, encs_map]
    obtain ⟨⟨kvs4, e1, hl4, _, ⟨f0, e2⟩, _⟩, _⟩ := F4.sm
    try walk_at "ev1"
    refine orQ_by (fun h => ?_) (fun h => ?_) <;> clear h
    · rw [ifQ_t]
      exact fin1 _ S4 F4
    · clear e1 e2
      try walk_at "ev1"
      refine (pick hasDraw.toHasBox (.refl F4.box) (by decide) (by decide)).mono ?_
      rintro _ S5 ⟨j5, rfl, hj5, B5⟩
      refine ⟨_, rfl, ifQ_by (fun h => ?_) (fun h => ?_)⟩ <;> clear h
      · exact fin1 _ S5 (F4.bx B5)
      · rw [wp_nil, seqQ_nx]
        exact fin2 S5 (F4.bx B5)
end

end K87
namespace K87
open PySem VM
open VL
theorem ks_nil {dp sz : Nat} : Ks dp sz 0 0 [] := ⟨by simp, rfl, rfl⟩
theorem zk_pos (i : Nat) : 1 ≤ zk i := by cases i <;> (rw [zk]; omega)
section
variable {b n L : Nat} {S S0 : Sto}
theorem deep_sp {m : Nat} (hm : 2 ≤ m) (hF : Fx b n L true S0 S) (Q : D → Sto → Prop)
    (hQ : ∀ t S', Kn 5 364 1 t → Fx b n L true S0 S' → Q t.enc S') : Wp (callN tbl m 179 [.ref b, .ref n] S) Q := by
  have sz : sizeLine = 16777216 := rfl
  obtain ⟨m, rfl⟩ : ∃ j, m = j + 2 := ⟨m - 2, by omega⟩
  refine wp_call (fd := ⟨2, 6, b__law_deep⟩) rfl rfl ?_
  unfold b__law_deep
  obtain ⟨⟨kvs, e1, hl, _, _, _, _, hs⟩, lt, fr⟩ := hF.sm
  obtain ⟨_, ⟨r2, w2, c1, c2, c3, c4, c5⟩⟩ := hs rfl
  have e2 := c4.at_
  have h0 : 0 < (w2.map D.str).length := by rw [List.length_map]; omega
  have ha : (w2.map D.str)[0]? = some (.str w2[0]) := by rw [List.getElem?_map, List.getElem?_eq_getElem (by omega)]; rfl
  generalize w2[0] = g0 at ha
  rw [wp_cons]
  try walk_at "ev1"
  rw [seqQ_nx, wp_cons]
  clear e1 e2
  try walk_at "ev1"
  refine (pick hasDraw.toHasBox (.refl hF.box) (by decide) (by decide)).mono ?_
  rintro _ S1 ⟨p1, rfl, hp1, B1⟩
  have F1 := hF.bx B1
  have hpp : (1 : Int) + (p1 : Int) = ((p1 + 1 : Nat) : Int) := by omega
  try walk_at "ev1"
  refine ⟨by omega, ?_⟩
  have st : (D.tup [D.str "foot", D.str g0]) = (Tr.lf "foot" [.str g0]).enc := by rw [Tr.enc]
  rw [st]
  refine wp_fF (fun i ρ S' => ∃ t x y z, ρ = [some (.ref b), some (.ref n), some t.enc, x, y, z] ∧ Kn i (zk i) 1 t ∧ Fx b n L true S0 S') ?_ ?_ ?_
  · exact ⟨_, _, _, _, rfl, kn_foot g0, F1⟩
  · rintro i d ρ S2 hd2 ⟨t, x, y, z, rfl, k2, F2⟩ J hJ
    have hi : i < p1 + 1 := by
      have := (List.getElem?_eq_some_iff.mp hd2).1
      simpa using this
    have hd' : d = .int i := by
      rw [List.getElem?_map, List.getElem?_range hi] at hd2
      exact (Option.some.inj hd2).symm
    subst hd'
    refine ⟨_, rfl, ?_⟩
    have lk : ∀ u, Leaf u → Kn i (zk i) 0 u := fun u hu => hu.kn.mono (Nat.zero_le _) (zk_pos i)
    -- the end of a turn
    have fin : ∀ (us : List Tr) (c : Nat) (S6 : Sto) (z' : Option D), Ks i (zk i) c 1 us → 0 < c → c ≤ 3 → Fx b n L true S0 S6 → ∀ R : Fl → Sto → Prop,
        Wp (exCs ⟨callN tbl (m + 1)⟩ (tl1 (tl1 (tl1 (forB (tl1 b__law_deep))))) [some (.ref b), some (.ref n), some t.enc, some (.int i), some (.tup (us.map Tr.enc)), z'] S6) (forQ J R) := by
      intro us c S6 z' K hc hc3 F6 R
      obtain ⟨⟨kvs, e1, hl, _, _, _, _, hs⟩, lt, fr⟩ := F6.sm
      obtain ⟨⟨r1, w1, a1, a2, a3, a4, a5⟩, _⟩ := hs rfl
      have e4 := a4.at_
      have ha : (w1.map D.str)[1]? = some (.str w1[1]) := by rw [List.getElem?_map, List.getElem?_eq_getElem (by omega)]; rfl
      generalize w1[1] = g1 at ha
      unfold b__law_deep tl1 forB
      simp only
      have kn := (K.knot hc g1 .non).mono (Nat.le_refl _) (show 1 + c * zk i ≤ zk (i + 1) by
        rw [zk]
        have : c * zk i ≤ 3 * zk i := Nat.mul_le_mul_right _ hc3
        omega)
      have := hJ [some (.ref b), some (.ref n), some (Tr.knot g1 .non us).enc, some (.int i), some (.tup (us.map Tr.enc)), z'] S6 ⟨_, _, _, _, rfl, kn, F6⟩
      rw [Tr.enc, encs_map] at this
      try walk_at "ev"
    -- what stands behind
    have beh : ∀ (us : List Tr) (c : Nat) (S5 : Sto), Ks i (zk i) c 1 us → 0 < c → c ≤ 2 → Fx b n L true S0 S5 → ∀ R : Fl → Sto → Prop,
        Wp (exCs ⟨callN tbl (m + 1)⟩ (tl1 (tl1 (forB (tl1 b__law_deep)))) [some (.ref b), some (.ref n), some t.enc, some (.int i), some (.tup (us.map Tr.enc)), z] S5) (forQ J R) := by
      intro us c S5 K hc hc2 F5 R
      have fin' := fin us c
      have fin2 := fun u S6 z' (hu : Leaf u) => fin (us ++ [u]) (c + 1) S6 z' (K.add (lk u hu)) (by omega) (by omega)
      unfold b__law_deep tl1 forB at fin' fin2
      simp only at fin' fin2
      unfold b__law_deep tl1 forB
      simp only
      rw [wp_cons]
      try walk_at "ev1"
      refine (pick hasDraw.toHasBox (.refl F5.box) (by decide) (by decide)).mono ?_
      rintro _ S6 ⟨p6, rfl, hp6, B6⟩
      have F6 := F5.bx B6
      refine ⟨_, rfl, ifQ_by (fun h => ?_) (fun h => ?_)⟩ <;> clear h
      · obtain ⟨⟨kvs, e1, hl, ⟨r0, w0, b1, b2, b3, b4, b5⟩, _, _, _, hs⟩, lt, fr⟩ := F6.sm
        obtain ⟨⟨r1, w1, a1, a2, a3, a4, a5⟩, _⟩ := hs rfl
        have e3 := b4.at_
        have e4 := a4.at_
        have ha0 : (w0.map D.str)[0]? = some (.str w0[0]) := by rw [List.getElem?_map, List.getElem?_eq_getElem (by omega)]; rfl
        have ha1 : (w1.map D.str)[0]? = some (.str w1[0]) := by rw [List.getElem?_map, List.getElem?_eq_getElem (by omega)]; rfl
        generalize w0[0] = g0 at ha0
        generalize w1[0] = g1 at ha1
        rw [wp_cons]
        try walk_at "ev1"
        rw [seqQ_nx, wp_cons]
        have F7 := F6.app (T := [.lst [.tup [.str "void"], .tup [.str "sign", .str g0], .tup [.str "hole", .str g1]]])
        have O7 := Own.new (ds := [.tup [.str "void"], .tup [.str "sign", .str g0], .tup [.str "hole", .str g1]]) F6.box
        generalize S6.length = q at *
        clear e1 e3 e4 b1 a1 ha0 ha1
        try walk_at "ev1"
        refine (pick hasDraw.toHasBox (.refl F7.box) (by decide) (by decide)).mono ?_
        rintro _ S8 ⟨p8, rfl, hp8, B8⟩
        have F8 := F7.bx B8
        have e8 := (O7.mono B8).at_
        have hl8 : (us.map Tr.enc).length + 1 ≤ 16777216 := by rw [List.length_map, K.len]; omega
        have hp : p8 = 0 ∨ p8 = 1 ∨ p8 = 2 := by omega
        have app : ∀ u : Tr, (us ++ [u]).map Tr.enc = us.map Tr.enc ++ [u.enc] := fun u => by simp
        rcases hp with rfl | rfl | rfl
        · have fin3 := fin2 (.lf "void" []) S8 (some (.ref q)) ⟨_, _, rfl, by decide +kernel, by decide +kernel, fun z => absurd z (by decide +kernel)⟩ F8
          rw [app, Tr.enc] at fin3
          have : L2.atI [D.tup [.str "void"], .tup [.str "sign", .str g0], .tup [.str "hole", .str g1]] ((0 : Nat) : Int) = some (.tup [.str "void"]) := rfl
          try walk_at "ev1"
          rw [seqQ_nx, wp_nil, seqQ_nx]
          exact fin3 _
        · have fin3 := fin2 (.lf "sign" [.str g0]) S8 (some (.ref q)) ⟨_, _, rfl, by decide +kernel, by decide +kernel, fun z => ⟨_, rfl⟩⟩ F8
          rw [app, Tr.enc] at fin3
          have : L2.atI [D.tup [.str "void"], .tup [.str "sign", .str g0], .tup [.str "hole", .str g1]] ((1 : Nat) : Int) = some (.tup [.str "sign", .str g0]) := rfl
          try walk_at "ev1"
          rw [seqQ_nx, wp_nil, seqQ_nx]
          exact fin3 _
        · have fin3 := fin2 (.lf "hole" [.str g1]) S8 (some (.ref q)) ⟨_, _, rfl, by decide +kernel, by decide +kernel, fun z => ⟨_, rfl⟩⟩ F8
          rw [app, Tr.enc] at fin3
          have : L2.atI [D.tup [.str "void"], .tup [.str "sign", .str g0], .tup [.str "hole", .str g1]] ((2 : Nat) : Int) = some (.tup [.str "hole", .str g1]) := rfl
          try walk_at "ev1"
          rw [seqQ_nx, wp_nil, seqQ_nx]
          exact fin3 _
      · rw [wp_nil, seqQ_nx]
        exact fin' S6 z K hc (by omega) F6 R
    have one : Ks i (zk i) 1 1 [t] := by
      have := (ks_nil (dp := i) (sz := zk i)).add k2
      exact this
    have beh1 := fun S5 => beh [t] 1 S5 one (by omega) (by omega)
    have beh2 := fun S5 (g : Str) => beh [.lf "sign" [.str g], t] 2 S5 (by
      have := ((ks_nil (dp := i) (sz := zk i)).add (lk (.lf "sign" [.str g]) ⟨_, _, rfl, by decide +kernel, by decide +kernel, fun z => ⟨_, rfl⟩⟩)).add k2
      exact this) (by omega) (by omega)
    unfold b__law_deep tl1 forB at beh1 beh2
    simp only [List.map_cons, List.map_nil] at beh1 beh2
    rw [wp_cons]
    try walk_at "ev1"
    rw [seqQ_nx, wp_cons]
    have sgn : ∀ S4, Fx b n L true S0 S4 → ∀ R, Wp (exCs ⟨callN tbl (m + 1)⟩ (.cons (.set 4 (.tup (.cons (.tup (.cons (.str "sign") (.cons (.idx (.idx (.var 1) (.str "signs")) (.call 3 (.cons (.var 0) (.cons (.int 2) .nil)))) .nil))) (.cons (.var 2) .nil)))) .nil)
        [some (.ref b), some (.ref n), some t.enc, some (.int i), some (.tup [t.enc]), z] S4) (seqQ ⟨callN tbl (m + 1)⟩ (tl1 (tl1 (forB (tl1 b__law_deep)))) (forQ J R)) := by
      intro S4 F4 R
      obtain ⟨⟨kvs, e1, hl, ⟨r0, w0, b1, b2, b3, b4, b5⟩, _⟩, lt, fr⟩ := F4.sm
      unfold b__law_deep tl1 forB
      simp only
      rw [wp_cons]
      try walk_at "ev1"
      refine (pick hasDraw.toHasBox (.refl F4.box) (by decide) (by decide)).mono ?_
      rintro _ S5 ⟨p5, rfl, hp5, B5⟩
      have e5 := (b4.mono B5).at_
      have hj' : p5 < (w0.map D.str).length := by rw [List.length_map]; omega
      have ha := atI_lt hj'
      rw [List.getElem_map] at ha
      have b2' := beh2 S5 (w0[p5]'(by simpa using hj')) (F4.bx B5) R
      rw [Tr.enc] at b2'
      try walk_at "ev1"
      rw [seqQ_nx, wp_nil, seqQ_nx]
      exact b2'
    unfold b__law_deep tl1 forB at sgn
    simp only at sgn
    try walk_at "ev1"
    refine orQ_by (fun h => ?_) (fun h => ?_) <;> clear h
    · rw [ifQ_t]
      exact sgn S2 F2 _
    · try walk_at "ev1"
      refine (pick hasDraw.toHasBox (.refl F2.box) (by decide) (by decide)).mono ?_
      rintro _ S3 ⟨p3, rfl, hp3, B3⟩
      refine ⟨_, rfl, ifQ_by (fun h => ?_) (fun h => ?_)⟩ <;> clear h
      · exact sgn S3 (F2.bx B3) _
      · rw [wp_nil, seqQ_nx]
        exact beh1 S3 (F2.bx B3) _
  · rintro ρ S2 ⟨t, x, y, z, rfl, k2, F2⟩
    rw [List.length_map, List.length_range] at k2
    have mono : ∀ a c, a ≤ c → zk a ≤ zk c := by
      intro a c h
      induction h with
      | refl => exact Nat.le_refl _
      | step _ ih => rw [zk]; omega
    have k3 : Kn 5 364 1 t := k2.mono (by omega) (mono (p1 + 1) 5 (by omega))
    have := hQ t S2 k3 F2
    try walk_at "ev"
end

end K87
namespace K87
open PySem VM
open VL
section
variable {b n L : Nat} {S S0 : Sto}
theorem SmOk.dic {full : Bool} {L' : Nat} (h : SmOk b n L full S) (hL : L ≤ L') {kvs : List (L2.Key × D)} (e : dicAt S n = some kvs) (x : Str) (hx : x = "starts" ∨ x = "grafts") (v : D) (hl : (putD kvs (.inr x) v).length ≤ 10) : SmOk b n L' false (S.set n (.dic (putD kvs (.inr x) v))) := by
  obtain ⟨⟨kvs', e1, hl', ⟨r0, ws, e2, h2, h3, O, h4⟩, ⟨f0, hf⟩, ⟨t0, hk⟩, ⟨l0, hL0⟩, hs⟩, lt, fr⟩ := h
  rw [e] at e1
  cases e1
  have k : ∀ y : Str, y ≠ "starts" → y ≠ "grafts" → ¬ ((Sum.inr y : L2.Key) = Sum.inr x) := by
    intro y h1 h2 z
    have := Sum.inr.inj z
    rcases hx with rfl | rfl
    · exact h1 this
    · exact h2 this
  refine ⟨⟨_, dicAt_set fr.1, hl, ⟨r0, ws, ?_, by omega, h3, O.set_ne h3 fr.2.1, h4⟩, ⟨f0, ?_⟩, ⟨t0, ?_⟩, ⟨l0, ?_⟩, fun z => by cases z⟩, by omega, fr.set fr.2.1⟩
  · rw [lkD_put, if_neg (k _ (by decide +kernel) (by decide +kernel))]; exact e2
  · rw [lkD_put, if_neg (k _ (by decide +kernel) (by decide +kernel))]; exact hf
  · rw [lkD_put, if_neg (k _ (by decide +kernel) (by decide +kernel))]; exact hk
  · rw [lkD_put, if_neg (k _ (by decide +kernel) (by decide +kernel))]; exact hL0
theorem SmOk.fill {L' : Nat} (h : SmOk b n L false S) (hL : L ≤ L') {kvs : List (L2.Key × D)} (e : dicAt S n = some kvs)
    (h1 : ∃ r ws, lkD kvs (.inr "starts") = some (.ref r) ∧ r < L' ∧ r ≠ n ∧ Own b r ((ws : List Str).map .str) S ∧ ws.length = 2)
    (h2 : ∃ r ws, lkD kvs (.inr "grafts") = some (.ref r) ∧ r < L' ∧ r ≠ n ∧ Own b r ((ws : List Str).map .str) S ∧ ws.length = 2) : SmOk b n L' true S := by
  obtain ⟨⟨kvs', e1, hl', ⟨r0, ws, e2, h3, h4⟩, hf, hk, hL0, hs⟩, lt, fr⟩ := h
  rw [e] at e1
  cases e1
  exact ⟨⟨kvs, e, hl', ⟨r0, ws, e2, by omega, h4⟩, hf, hk, hL0, fun _ => ⟨h1, h2⟩⟩, by omega, fr⟩
theorem putD_le {κ : Type} [DecidableEq κ] (kvs : List (κ × D)) (k : κ) (v : D) : (putD kvs k v).length ≤ kvs.length + 1 := by
  rw [putD_len]
  split <;> omega
theorem Own.setD {r : Nat} {ds : List D} {o : O} (h : Own b r ds S) (hn : r ≠ n) (f : Free b n S) : Own b r ds (S.set n o) := h.set_ne hn f.2.1
/-- the trees put together so far -/
def Bk (ps : List (Str × Tr)) : Prop := ∀ p ∈ ps, ∃ f, f ≤ 1 ∧ Kn 2 14 f p.2
theorem Bk.add {ps : List (Str × Tr)} {x : Str} {f : Nat} {t : Tr} (h : Bk ps) (hf : f ≤ 1) (k : Kn 2 14 f t) : Bk (ps ++ [(x, t)]) := by
  intro p hp
  rw [List.mem_append, List.mem_singleton] at hp
  rcases hp with hp | rfl
  · exact h p hp
  · exact ⟨f, hf, k⟩
theorem feet01 (foot : Str) : (if foot = "" then 0 else 1 : Nat) ≤ 1 := by split <;> omega
/-- from the trees on -/
theorem book_end {m : Nat} {cnt room : Nat} {great : D} (hm : 7 ≤ m) (h1 : 1 ≤ cnt) (h2 : cnt ≤ 26) {kl : Nat} {kws : List Str} (hkl : kws.length = cnt) (hL : L ≤ S0.length) (hF : Fx b n L true S0 S) (hK : Own b kl (kws.map .str) S) (hkn : kl ≠ n) (hkL : L ≤ kl) (Q : D → Sto → Prop)
    (hQ : ∀ top ps S', Bk ps → ps.length ≤ 26 → Fx b n L true S0 S' → Q (bkD top ps) S') :
    Wp (exCs ⟨callN tbl m⟩ (tl1 (tl1 (tl1 (tl1 (tl1 b__law_book))))) [some (.ref b), some (.ref n), some (.int cnt), some (.int room), some great, some (.ref kl), none, none, none, none, none] S) (retQ Q) := by
  have sz : sizeLine = 16777216 := rfl
  obtain ⟨m, rfl⟩ : ∃ j, m = j + 7 := ⟨m - 7, by omega⟩
  -- the end
  have fin : ∀ (q : Nat) (ps : List (Str × Tr)) (S' : Sto) (x7 x8 x9 x10 : Option D), Bk ps → ps.length ≤ 26 → Own b q (ps.map prD) S' → Fx b n L true S0 S' →
      Wp (exCs ⟨callN tbl (m + 7)⟩ (.cons (.ret (.tup (.cons (.idx (.idx (.var 1) (.str "starts")) (.int 0)) (.cons (.bi .tuple (.cons (.var 6) .nil)) .nil)))) .nil) [some (.ref b), some (.ref n), some (.int cnt), some (.int room), some great, some (.ref kl), some (.ref q), x7, x8, x9, x10] S') (retQ Q) := by
    intro q ps S' x7 x8 x9 x10 hb hp O F
    obtain ⟨⟨kvs, e1, hl, _, _, _, _, hs⟩, lt, fr⟩ := F.sm
    obtain ⟨⟨r1, w1, a1, a2, a3, a4, a5⟩, _⟩ := hs rfl
    have e3 := a4.at_
    have e4 := O.at_
    have ha : (w1.map D.str)[0]? = some (.str w1[0]) := by rw [List.getElem?_map, List.getElem?_eq_getElem (by omega)]; rfl
    have := hQ w1[0] ps S' hb hp F
    unfold bkD at this
    try walk_at "ev"
  have nL : n < L := hF.sm.lt
  unfold b__law_book tl1
  simp only
  obtain ⟨⟨kvs, e1, hl, _, _, _, _, hs⟩, lt, fr⟩ := hF.sm
  obtain ⟨⟨r1, w1, a1, a2, a3, a4, a5⟩, _⟩ := hs rfl
  have e3 := a4.at_
  have eK := hK.at_
  have ha : (w1.map D.str)[0]? = some (.str w1[0]) := by rw [List.getElem?_map, List.getElem?_eq_getElem (by omega)]; rfl
  have hk0 : (kws.map D.str)[0]? = some (.str kws[0]) := by rw [List.getElem?_map, List.getElem?_eq_getElem (by omega)]; rfl
  rw [wp_cons]
  try walk_at "ev1"
  refine (pick hasDraw.toHasBox (.refl hF.box) (by decide) (by decide)).mono ?_
  rintro _ S1 ⟨p1, rfl, hp1, B1⟩
  have F1 := hF.bx B1
  have K1 := hK.mono B1
  clear e1 e3 eK
  have hr : (room : Int) * ((1 + (p1 : Int)) / 2) = ((room * ((1 + p1) / 2) : Nat) : Int) := by push_cast; rfl
  try walk_at "ev1"
  refine ⟨.inr ⟨by omega, by omega⟩, ?_⟩
  refine tree_sp (m := m + 7) (by omega) (Nat.le_trans hL F1.len) (.refl F1.box F1.sm) _ ?_
  intro t S2 k2 F12
  have K2 := K1.fx F12 hkn
  have F2 := F1.trans F12
  generalize kws[0] = kw0
  have F3 := F2.app (T := [.lst [prD (kw0, t)]])
  have O3 := Own.new (ds := [prD (kw0, t)]) F2.box
  have K3 := K2.app (T := [.lst [prD (kw0, t)]]) F2.box
  have hq0 : S0.length ≤ S2.length := F2.len
  have hqn : S2.length ≠ n := by omega
  have hkq : kl ≠ S2.length := by have := lstAt_lt K2.at_; omega
  generalize S2.length = q at *
  have hb0 : Bk [(kw0, t)] := by
    intro p hp
    rw [List.mem_singleton] at hp
    subst hp
    exact ⟨_, feet01 "", k2⟩
  clear ha hk0 k2
  unfold prD at F3 O3 K3
  generalize hS3 : S2 ++ [O.lst [D.tup [.str (kw0, t).1, (kw0, t).2.enc]]] = S3 at *
  have hS3' : S2 ++ [O.lst [D.tup [.str kw0, t.enc]]] = S3 := hS3
  rw [seqQ_nx, wp_cons]
  try walk_at "ev1"
  refine ⟨1, (cnt : Int), rfl, rfl, by omega, ?_⟩
  refine wp_fF (fun i ρ S' => ∃ (ps : List (Str × Tr)) (x7 x9 x10 : Option D), ρ = [some (.ref b), some (.ref n), some (.int cnt), some (.int room), some great, some (.ref kl), some (.ref q), x7, none, x9, x10] ∧
    Own b q (ps.map prD) S' ∧ Fx b n L true S0 S' ∧ Own b kl (kws.map .str) S' ∧ Bk ps ∧ ps.length = i + 1) ?_ ?_ ?_
  · exact ⟨[(kw0, t)], _, _, _, rfl, O3, F3, K3, hb0, rfl⟩
  · rintro i d ρ S4 hd4 ⟨ps, x7, x9, x10, rfl, O4, F4, K4, hb, hp⟩ J hJ
    have hi : i < cnt - 1 := by
      have := (List.getElem?_eq_some_iff.mp hd4).1
      rw [List.length_map, List.length_range] at this
      omega
    have hd' : d = .int ((i + 1 : Nat) : Int) := by
      rw [List.getElem?_map, List.getElem?_range (by omega)] at hd4
      have := (Option.some.inj hd4).symm
      rw [this]
      show D.int (1 + (i : Int)) = _
      rw [show (1 : Int) + (i : Int) = ((i + 1 : Nat) : Int) by omega]
    subst hd'
    refine ⟨_, rfl, ?_⟩
    have eK4 := K4.at_
    have hki : L2.atI (kws.map D.str) ((i + 1 : Nat) : Int) = some (.str (kws[i + 1]'(by omega))) := by
      rw [atI_cast, List.getElem?_map, List.getElem?_eq_getElem (by omega)]; rfl
    generalize kws[i + 1]'(by omega) = kwi at hki
    -- the tree is drawn
    have put : ∀ (nm foot : Str) (S6 : Sto), Own b q (ps.map prD) S6 → Fx b n L true S0 S6 → Own b kl (kws.map .str) S6 → ∀ R : Fl → Sto → Prop,
        Wp (exCs ⟨callN tbl (m + 7)⟩ (tl1 (tl1 (tl1 (forB (tl1 (tl1 (tl1 (tl1 (tl1 (tl1 b__law_book)))))))))) [some (.ref b), some (.ref n), some (.int cnt), some (.int room), some great, some (.ref kl), some (.ref q), some (.int ((i + 1 : Nat) : Int)), none, some (.str nm), some (.str foot)] S6) (forQ J R) := by
      intro nm foot S6 O6 F6 K6 R
      have e6 := O6.at_
      have eK6 := K6.at_
      unfold b__law_book tl1 forB
      simp only
      try walk_at "ev"
      refine tree_sp (m := m + 7) (by omega) (Nat.le_trans hL F6.len) (.refl F6.box F6.sm) _ ?_
      intro u S7 k7 F67
      have O7 := O6.fx F67 hqn
      have e7 := O7.at_
      have F7 := F6.trans F67
      have K7 := K6.fx F67 hkn
      try walk_at "ev"
      refine ⟨by simp; omega, ?_⟩
      refine hJ _ _ ⟨ps ++ [(kwi, u)], _, _, _, rfl, ?_, F7.setN hq0 (Nat.le_trans hL hq0) O7.fr, K7.set_ne hkq O7.fr.2.1, hb.add (feet01 foot) k7, by simp [hp]⟩
      have := O7.set (es := ps.map prD ++ [prD (kwi, u)])
      simpa [prD] using this
    unfold b__law_book tl1 forB at put
    simp only at put
    obtain ⟨⟨kvs4, e1, hl4, _, _, _, _, hs4⟩, lt4, fr4⟩ := F4.sm
    obtain ⟨⟨s1, w1', c1, c2, c3, c4, c5⟩, _⟩ := hs4 rfl
    rw [wp_cons]
    try walk_at "ev1"
    refine (pick hasDraw.toHasBox (.refl F4.box) (by decide) (by decide)).mono ?_
    rintro _ S5 ⟨p5, rfl, hp5, B5⟩
    have F5 := F4.bx B5
    have O5 := O4.mono B5
    have K5 := K4.mono B5
    have e5 := (c4.mono B5).at_
    have ha5 : L2.atI (w1'.map D.str) (p5 : Int) = some (.str (w1'[p5]'(by omega))) := by
      rw [atI_cast, List.getElem?_map, List.getElem?_eq_getElem (by omega)]; rfl
    generalize w1'[p5]'(by omega) = nm at ha5
    clear e1 c1
    try walk_at "ev1"
    rw [seqQ_nx, wp_cons]
    clear e5 ha5
    try walk_at "ev1"
    rw [seqQ_nx, wp_cons]
    -- with a foot
    have ft : ∀ (S6 : Sto), Own b q (ps.map prD) S6 → Fx b n L true S0 S6 → Own b kl (kws.map .str) S6 → ∀ R : Fl → Sto → Prop,
        Wp (exCs ⟨callN tbl (m + 7)⟩ (.cons (.set 10 (.idx (.idx (.var 1) (.str "grafts")) (.bin .fdiv (.call 3 (.cons (.var 0) (.cons (.int 4) .nil))) (.int 3)))) .nil) [some (.ref b), some (.ref n), some (.int cnt), some (.int room), some great, some (.ref kl), some (.ref q), some (.int ((i + 1 : Nat) : Int)), none, some (.str nm), some (.str "")] S6)
          (seqQ ⟨callN tbl (m + 7)⟩ (tl1 (tl1 (tl1 (forB (tl1 (tl1 (tl1 (tl1 (tl1 (tl1 b__law_book)))))))))) (forQ J R)) := by
      intro S6 O6 F6 K6 R
      obtain ⟨⟨kvs6, e1, hl6, _, _, _, _, hs6⟩, lt6, fr6⟩ := F6.sm
      obtain ⟨_, ⟨s2, w2', c1, c2, c3, c4, c5⟩⟩ := hs6 rfl
      unfold b__law_book tl1 forB
      simp only
      rw [wp_cons]
      try walk_at "ev1"
      refine (pick hasDraw.toHasBox (.refl F6.box) (by decide) (by decide)).mono ?_
      rintro _ S7 ⟨p7, rfl, hp7, B7⟩
      have e7 := (c4.mono B7).at_
      have h73 : (p7 : Int) / 3 = ((p7 / 3 : Nat) : Int) := by omega
      have ha7 : L2.atI (w2'.map D.str) ((p7 / 3 : Nat) : Int) = some (.str (w2'[p7 / 3]'(by omega))) := by
        rw [atI_cast, List.getElem?_map, List.getElem?_eq_getElem (by omega)]; rfl
      try walk_at "ev1"
      rw [seqQ_nx, wp_nil, seqQ_nx]
      exact put nm _ S7 (O6.mono B7) (F6.bx B7) (K6.mono B7) R
    unfold b__law_book tl1 forB at ft
    simp only at ft
    try walk_at "ev1"
    refine orQ_by (fun h => ?_) (fun h => ?_) <;> clear h
    · rw [ifQ_t]
      exact ft S5 O5 F5 K5 _
    · try walk_at "ev1"
      refine (pick hasDraw.toHasBox (.refl F5.box) (by decide) (by decide)).mono ?_
      rintro _ S6 ⟨p6, rfl, hp6, B6⟩
      refine ⟨_, rfl, ifQ_by (fun h => ?_) (fun h => ?_)⟩ <;> clear h
      · exact ft S6 (O5.mono B6) (F5.bx B6) (K5.mono B6) _
      · rw [wp_nil, seqQ_nx]
        exact put nm "" S6 (O5.mono B6) (F5.bx B6) (K5.mono B6) _
  · rintro ρ S4 ⟨ps, x7, x9, x10, rfl, O4, F4, K4, hb, hp⟩
    have hp' : ps.length ≤ 26 := by
      rw [List.length_map, List.length_range] at hp
      omega
    rw [seqQ_nx, wp_cons]
    try walk_at "ev1"
    refine (pick hasDraw.toHasBox (.refl F4.box) (by omega) (by omega)).mono ?_
    rintro _ S5 ⟨p5, rfl, hp5, B5⟩
    have F5 := F4.bx B5
    have O5 := O4.mono B5
    have e5 := O5.at_
    have l5 := lstAt_lt e5
    rw [seqQ_nx, wp_cons]
    have hdt : List.drop p5 (ps.map prD) ++ List.take p5 (ps.map prD) = (ps.drop p5 ++ ps.take p5).map prD := by simp
    try walk_at "ev1"
    have B6 := F5.app (T := [.lst (List.drop p5 (ps.map prD))]) |>.app (T := [.lst (List.take p5 (ps.map prD))])
    have O6 := Own.new (ds := (ps.drop p5 ++ ps.take p5).map prD) B6.box
    have hmem : ∀ p, p ∈ ps.drop p5 ++ ps.take p5 → p ∈ ps := fun p h => by
      rcases List.mem_append.mp h with h | h
      · exact List.mem_of_mem_drop h
      · exact List.mem_of_mem_take h
    have hb6 : Bk (ps.drop p5 ++ ps.take p5) := fun p h => hb p (hmem p h)
    have hl6 : (ps.drop p5 ++ ps.take p5).length ≤ 26 := by simp; omega
    refine ⟨by simp; omega, ?_⟩
    rw [seqQ_nx, wp_cons]
    have F7 := B6.app (T := [.lst ((ps.drop p5 ++ ps.take p5).map prD)])
    generalize (S5 ++ [O.lst (List.drop p5 (ps.map prD))] ++ [O.lst (List.take p5 (ps.map prD))]) = S6 at *
    generalize ps.drop p5 ++ ps.take p5 = ps6 at *
    clear e5
    try walk_at "ev1"
    refine (pick hasDraw.toHasBox (.refl F7.box) (by decide) (by decide)).mono ?_
    rintro _ S8 ⟨p8, rfl, hp8, B8⟩
    have F8 := F7.bx B8
    have O8 := O6.mono B8
    have e8 := O8.at_
    refine ⟨_, rfl, ifQ_by (fun h => ?_) (fun h => ?_)⟩ <;> clear h
    · rw [wp_cons]
      try walk_at "ev1"
      rw [seqQ_nx, wp_nil, seqQ_nx]
      refine fin _ ps6.reverse _ _ _ _ _ (fun p h => hb6 p (List.mem_reverse.mp h)) (by simpa using hl6) ?_ F8.app
      rw [List.map_reverse]
      exact Own.new F8.box
    · rw [wp_nil, seqQ_nx]
      exact fin _ ps6 S8 _ _ _ _ hb6 hl6 O8 F8
/-- A BOOK -/
theorem book_sp {m : Nat} {cnt room : Nat} (hm : 8 ≤ m) (h1 : 1 ≤ cnt) (h2 : cnt ≤ 26) (hB : BoxOk b S) (hS : SmOk b n L false S) (hL : L ≤ S.length) {kvs : List (L2.Key × D)} (e : dicAt S n = some kvs) (hl : kvs.length ≤ 4) (Q : D → Sto → Prop)
    (hQ : ∀ top ps S' L', Bk ps → ps.length ≤ 26 → BoxOk b S' → SmOk b n L' true S' → L' ≤ S'.length → Q (bkD top ps) S') : Wp (callN tbl m 40 [.ref b, .ref n, .int cnt, .int room] S) Q := by
  have sz : sizeLine = 16777216 := rfl
  obtain ⟨m, rfl⟩ : ∃ j, m = j + 8 := ⟨m - 8, by omega⟩
  refine wp_call (fd := ⟨4, 11, b__law_book⟩) rfl rfl ?_
  -- behind the lists
  have rest : ∀ (S5 : Sto), BoxOk b S5 → SmOk b n S5.length true S5 → Wp (exCs ⟨callN tbl (m + 7)⟩ (tl1 (tl1 (tl1 (tl1 b__law_book)))) [some (.ref b), some (.ref n), some (.int cnt), some (.int room), some (.str "ABCDEFGHIJKLMNOPQRSTUVWXYZ"), none, none, none, none, none, none] S5) (retQ Q) := by
    intro S5 B5 M5
    have be := fun kl (kws : List Str) (S6 : Sto) (F6 : Fx b n S5.length true S5 S6) (hk : kws.length = cnt) => book_end (m := m + 7) (great := .str "ABCDEFGHIJKLMNOPQRSTUVWXYZ") (room := room) (kl := kl) (kws := kws) (by omega) h1 h2 hk (Nat.le_refl _) F6
    unfold b__law_book tl1 at be ⊢
    simp only at be ⊢
    rw [wp_cons]
    try walk_at "ev1"
    refine ⟨by decide +kernel, ?_⟩
    refine (words hasWords (by decide +kernel) (by decide +kernel) (by omega) B5).mono ?_
    rintro d S6 ⟨⟨kl, kws, rfl, O6, hr, hw, hW⟩, B6⟩
    have F6 := (Fx.refl B5 M5).bx B6
    rw [seqQ_nx]
    exact be kl kws S6 F6 hw O6 (by have := M5.lt; omega) hr Q fun top ps S' hb hp F' => hQ top ps S' _ hb hp F'.box F'.sm F'.len
  unfold b__law_book tl1 at rest
  simp only at rest
  unfold b__law_book
  rw [wp_cons]
  try walk_at "ev1"
  rw [seqQ_nx, wp_cons]
  try walk_at "ev1"
  refine (words (m := 2) hasWords (by decide +kernel) (by decide +kernel) (by omega) hB).mono ?_
  rintro d S1 ⟨⟨r1, ws1, rfl, O1, hr1, hw1, hW1⟩, B1⟩
  have M1 := hS.bx B1
  have n1 : r1 ≠ n := by have := hS.lt; omega
  have e1 : dicAt S1 n = some kvs := by
    rw [dicAt_get] at e ⊢
    rw [B1.keep.at_ n hS.fr.1 hS.fr.2.1]
    exact e
  have l1 := putD_le kvs (.inr "starts") (.ref r1)
  have lr1 : r1 < S1.length := lstAt_lt O1.at_
  try walk_at "ev1"
  refine ⟨_, ⟨by omega, rfl⟩, ?_⟩
  have M2 := SmOk.dic M1 (L' := S1.length) (by have := B1.len; omega) e1 "starts" (.inl rfl) (.ref r1) (by omega)
  have B2 : BoxOk b (S1.set n (.dic (putD kvs (.inr "starts") (.ref r1)))) := B1.box.set M1.fr
  have O2 := K87.Own.setD (o := .dic (putD kvs (.inr "starts") (.ref r1))) O1 n1 M1.fr
  have e2 : dicAt (S1.set n (.dic (putD kvs (.inr "starts") (.ref r1)))) n = some (putD kvs (.inr "starts") (.ref r1)) := dicAt_set M1.fr.1
  have k2 : lkD (putD kvs (.inr ("starts" : Str)) (.ref r1)) (.inr ("starts" : Str)) = some (.ref r1) := by rw [lkD_put, if_pos rfl]
  have len2 : (S1.set n (.dic (putD kvs (.inr "starts") (.ref r1)))).length = S1.length := List.length_set
  generalize S1.set n (.dic (putD kvs (.inr "starts") (.ref r1))) = S2 at *
  generalize putD kvs (.inr "starts") (.ref r1) = kvs2 at *
  clear e1 hQ
  rw [seqQ_nx, wp_cons]
  try walk_at "ev1"
  refine (words (m := 2) hasWords (by decide +kernel) (by decide +kernel) (by omega) B2).mono ?_
  rintro d S3 ⟨⟨r2, ws2, rfl, O3, hr3, hw3, hW3⟩, B3⟩
  have M3 := M2.bx B3
  have n3 : r2 ≠ n := by have := M2.lt; omega
  have e3 : dicAt S3 n = some kvs2 := by
    rw [dicAt_get] at e2 ⊢
    rw [B3.keep.at_ n M2.fr.1 M2.fr.2.1]
    exact e2
  clear e2
  have l3 := putD_le kvs2 (.inr "grafts") (.ref r2)
  have lr3 : r2 < S3.length := lstAt_lt O3.at_
  have b3 := B3.len
  try walk_at "ev1"
  refine ⟨_, ⟨by omega, rfl⟩, ?_⟩
  have k13 : ¬ ((Sum.inr ("starts" : Str) : L2.Key) = Sum.inr ("grafts" : Str)) := by decide +kernel
  have M4 := SmOk.dic M3 (L' := S3.length) (by omega) e3 "grafts" (.inr rfl) (.ref r2) (by omega)
  have B4 : BoxOk b (S3.set n (.dic (putD kvs2 (.inr "grafts") (.ref r2)))) := B3.box.set M3.fr
  have O4 := K87.Own.setD (o := .dic (putD kvs2 (.inr "grafts") (.ref r2))) O3 n3 M3.fr
  have P4 := K87.Own.setD (o := .dic (putD kvs2 (.inr "grafts") (.ref r2))) (O2.mono B3) n1 M3.fr
  have e4 : dicAt (S3.set n (.dic (putD kvs2 (.inr "grafts") (.ref r2)))) n = some (putD kvs2 (.inr "grafts") (.ref r2)) := dicAt_set M3.fr.1
  have k4 : lkD (putD kvs2 (.inr ("grafts" : Str)) (.ref r2)) (.inr ("grafts" : Str)) = some (.ref r2) := by rw [lkD_put, if_pos rfl]
  have k5 : lkD (putD kvs2 (.inr ("grafts" : Str)) (.ref r2)) (.inr ("starts" : Str)) = some (.ref r1) := by rw [lkD_put, if_neg k13]; exact k2
  have len4 : (S3.set n (.dic (putD kvs2 (.inr "grafts") (.ref r2)))).length = S3.length := List.length_set
  generalize S3.set n (.dic (putD kvs2 (.inr "grafts") (.ref r2))) = S4 at *
  generalize putD kvs2 (.inr "grafts") (.ref r2) = kvs4 at *
  clear e3
  rw [seqQ_nx, wp_cons]
  try walk_at "ev1"
  refine (pick hasDraw.toHasBox (.refl B4) (by decide) (by decide)).mono ?_
  rintro _ S5 ⟨p5, rfl, hp5, B5⟩
  have M5 := M4.bx B5
  have O5 := O4.mono B5
  have P5 := P4.mono B5
  have b5 := B5.len
  have e5 : dicAt S5 n = some kvs4 := by
    rw [dicAt_get] at e4 ⊢
    rw [B5.keep.at_ n M4.fr.1 M4.fr.2.1]
    exact e4
  clear e4
  refine ⟨_, rfl, ifQ_by (fun h => ?_) (fun h => ?_)⟩ <;> clear h
  · have e6 := P5.at_
    rw [wp_cons]
    try walk_at "ev1"
    have l6 := putD_le kvs4 (.inr "grafts") (.ref S5.length)
    refine ⟨_, ⟨_, (dicAt_app M5.fr.1).trans e5, by omega, rfl⟩, ?_⟩
    rw [seqQ_nx, wp_nil, seqQ_nx]
    have e7 : dicAt (S5 ++ [.lst (ws1.map .str)]) n = some kvs4 := (dicAt_app M5.fr.1).trans e5
    have B7 := B5.box.app (T := [.lst (ws1.map .str)])
    have M7 := M5.bx ((Bx.refl B5.box).app (T := [.lst (ws1.map .str)]))
    have O7 := Own.new (ds := ws1.map .str) B5.box
    have P7 := P5.app (T := [.lst (ws1.map .str)]) B5.box
    have n7 : S5.length ≠ n := by have := M5.fr.1; omega
    have l7 : (S5 ++ [O.lst (ws1.map .str)]).length = S5.length + 1 := by simp
    have M8 := SmOk.dic M7 (L' := S5.length + 1) (by omega) e7 "grafts" (.inr rfl) (.ref S5.length) (by omega)
    have O8 := K87.Own.setD (o := .dic (putD kvs4 (.inr "grafts") (.ref S5.length))) O7 n7 M7.fr
    have P8 := K87.Own.setD (o := .dic (putD kvs4 (.inr "grafts") (.ref S5.length))) P7 n1 M7.fr
    have B8 := B7.set (o := .dic (putD kvs4 (.inr "grafts") (.ref S5.length))) M7.fr
    have e8 := dicAt_set (kvs := putD kvs4 (.inr "grafts") (.ref S5.length)) M7.fr.1
    have k8 : lkD (putD kvs4 (.inr ("grafts" : Str)) (.ref S5.length)) (.inr ("grafts" : Str)) = some (.ref S5.length) := by rw [lkD_put, if_pos rfl]
    have k9 : lkD (putD kvs4 (.inr ("grafts" : Str)) (.ref S5.length)) (.inr ("starts" : Str)) = some (.ref r1) := by rw [lkD_put, if_neg k13]; exact k5
    refine rest _ B8 ?_
    rw [List.length_set, l7]
    exact SmOk.fill M8 (Nat.le_refl _) e8 ⟨r1, ws1, k9, by omega, n1, P8, hw1⟩ ⟨S5.length, ws1, k8, by omega, n7, O8, hw1⟩
  · rw [wp_nil, seqQ_nx]
    exact rest S5 B5.box (SmOk.fill M5 (by omega) e5 ⟨r1, ws1, k5, by omega, n1, P5, hw1⟩ ⟨r2, ws2, k4, by omega, n3, O5, hw3⟩)
end

end K87
namespace K87
open PySem VM
open VL
theorem wp_lRw {F : Orc} {elt : E} {tg : Tg} {c : T} {own : List Nat} {ρ : Rho} {n : Nat} {w : Dm} {ds es : List D} {S : Sto} {Q : D → Sto → Prop} (hw : ∀ i, dynAt w ds i = some es[i]?) (I : Nat → List D → Sto → Prop) (h0 : I 0 [] S)
    (hl : ∀ i acc S, I i acc S → lstAt S n = some ds)
    (hs : ∀ i d acc S, es[i]? = some d → I i acc S → ∀ (J : D → Sto → Prop) (K : Sto → Prop), (∀ y S, acc.length < sizeLine → I (i + 1) (acc ++ [y]) S → J y S) → (∀ S, I (i + 1) acc S → K S) → ∃ ρ1, bindT tg d (wipeR ρ own) = some ρ1 ∧ Wp (evT F c ρ1 S) (lcQ F elt ρ1 J K))
    (hd : ∀ acc S, I es.length acc S → Q (.ref S.length) (S ++ [.lst acc])) : Wp (bd (foldI (lcF F elt tg c own ρ) (.dyn n w) [] S) lcEnd) Q :=
  wp_lcR (ds := ds) hw I h0 (fun i acc S h => lstAt_get.mp (hl i acc S h)) (fun i d acc S e h => by
    obtain ⟨ρ1, e1, w⟩ := hs i d acc S e h (fun y S4 => acc.length < sizeLine ∧ I (i + 1) (acc ++ [y]) S4) (I (i + 1) acc) (fun _ _ a b => ⟨a, b⟩) fun _ z => z
    refine ⟨ρ1, e1, w.mono fun t S3 q => ?_⟩
    cases t with
    | true =>
      rw [if_pos rfl]
      exact q
    | false =>
      rw [if_neg (by decide)]
      exact q) hd
theorem mapO_strs {S : Sto} {n : Nat} : ∀ ws : List Str, mapO (toP S n) (ws.map D.str) = some (ws.map PyData.str)
  | [] => rfl
  | w :: ws => by
    rw [List.map_cons, mapO, mapO_strs ws]
    cases n <;> rfl
theorem inD_strs {S : Sto} {r : Nat} {x : Str} {ws : List Str} (h : lstAt S r = some (ws.map .str)) : inD (.str x) (.ref r) S = some (ws.any (· == x)) := by
  rw [lstAt_get] at h
  show (match S[r]? with
    | some (.lst ds) => (match toP S 150 (.str x), mapO (toP S 149) ds with
      | some a, some bs => some (bs.any fun b => PyData.eqv b a)
      | _, _ => none)
    | _ => (dgetD S r (.str x)).map Option.isSome) = _
  rw [h]
  simp only
  rw [mapO_strs]
  show some _ = _
  congr 1
  rw [List.any_map]
  rfl
/-- at most one foot: the law's word and the program's are one -/
theorem amid_kinds {t : Tr} {f : Nat} (hf : f ≤ 1) (h : t.feet.length = f) : ((t.leaves.map Tr.kd).any (· == ("foot" : Str)) && !((t.leaves.map Tr.kd).getLast? == some ("foot" : Str))) = amid t := by
  unfold amid
  have e1 : (t.leaves.map Tr.kd).any (· == ("foot" : Str)) = (t.feet.length == 1) := by
    have e2 : (t.leaves.map Tr.kd).any (· == ("foot" : Str)) = t.subs.any isFoot := by
      rw [List.any_map]
      unfold Tr.leaves
      rw [List.any_filter]
      congr 1
      funext u
      show ((!(u.kd == ("knot" : Str))) && (u.kd == ("foot" : Str))) = isFoot u
      unfold isFoot
      by_cases hk : u.kd = ("foot" : Str)
      · rw [hk]; decide +kernel
      · have : (u.kd == ("foot" : Str)) = false := beq_eq_false_iff_ne.mpr hk
        rw [this, Bool.and_false]
    rw [e2]
    unfold Tr.feet at h ⊢
    cases e : t.subs.filter isFoot with
    | nil =>
      have : t.subs.any isFoot = false := by
        rw [List.any_eq_false]
        intro u hu hn
        have : u ∈ t.subs.filter isFoot := List.mem_filter.mpr ⟨hu, hn⟩
        rw [e] at this
        cases this
      rw [this]
      rfl
    | cons u us =>
      have hm : u ∈ t.subs.filter isFoot := by rw [e]; exact List.mem_cons_self
      have : t.subs.any isFoot = true := List.any_eq_true.mpr ⟨u, (List.mem_filter.mp hm).1, (List.mem_filter.mp hm).2⟩
      rw [this]
      rw [e, List.length_cons] at h
      have : us.length = 0 := by omega
      rw [List.length_cons, this]
      rfl
  rw [e1, List.getLast?_map]
theorem dis4 (a b c d : D) : ∃ kvs, disD ["signs", "free", "knots", "left"] [a, b, c, d] = kvs ∧ kvs.length ≤ 4 ∧ lkD kvs (.inr ("signs" : Str)) = some a ∧ lkD kvs (.inr ("free" : Str)) = some b ∧ lkD kvs (.inr ("knots" : Str)) = some c ∧ lkD kvs (.inr ("left" : Str)) = some d := by
  refine ⟨_, rfl, ?_⟩
  have e : disD ["signs", "free", "knots", "left"] [a, b, c, d] = putD (putD (putD (putD [] (.inr ("signs" : Str)) a) (.inr ("free" : Str)) b) (.inr ("knots" : Str)) c) (.inr ("left" : Str)) d := rfl
  rw [e]
  have k (x y : Str) (h : x ≠ y) : ¬ ((Sum.inr x : L2.Key) = Sum.inr y) := fun z => h (Sum.inr.inj z)
  refine ⟨?_, ?_, ?_, ?_, ?_⟩
  · have h1 := putD_le ([] : List (L2.Key × D)) (.inr ("signs" : Str)) a
    have h2 := putD_le (putD ([] : List (L2.Key × D)) (.inr ("signs" : Str)) a) (.inr ("free" : Str)) b
    have h3 := putD_le (putD (putD ([] : List (L2.Key × D)) (.inr ("signs" : Str)) a) (.inr ("free" : Str)) b) (.inr ("knots" : Str)) c
    have h4 := putD_le (putD (putD (putD ([] : List (L2.Key × D)) (.inr ("signs" : Str)) a) (.inr ("free" : Str)) b) (.inr ("knots" : Str)) c) (.inr ("left" : Str)) d
    have h0 : ([] : List (L2.Key × D)).length = 0 := rfl
    omega
  · rw [lkD_put, if_neg (k _ _ (by decide +kernel)), lkD_put, if_neg (k _ _ (by decide +kernel)), lkD_put, if_neg (k _ _ (by decide +kernel)), lkD_put, if_pos rfl]
  · rw [lkD_put, if_neg (k _ _ (by decide +kernel)), lkD_put, if_neg (k _ _ (by decide +kernel)), lkD_put, if_pos rfl]
  · rw [lkD_put, if_neg (k _ _ (by decide +kernel)), lkD_put, if_pos rfl]
  · rw [lkD_put, if_pos rfl]
def room : Nat := 40
/-- the law's rows, as they lie there, from lo on -/
structure Rows (lo : Nat) (S : Sto) (rs : List Nat) (ts : List Tr) : Prop where
  len : rs.length = ts.length
  at_ : ∀ (j r : Nat) (t : Tr), rs[j]? = some r → ts[j]? = some t → lstAt S r = some (t.leaves.map kdD)
  lo : ∀ r ∈ rs, lo ≤ r
theorem Rows.ext {lo : Nat} {S S' : Sto} {rs : List Nat} {ts : List Tr} (h : Rows lo S rs ts) (X : Ext S S') : Rows lo S' rs ts := ⟨h.len, fun j r t a b => X.lst (h.at_ j r t a b), h.lo⟩
theorem Rows.fx {lo b n L : Nat} {S S' : Sto} {rs : List Nat} {ts : List Tr} (h : Rows lo S rs ts) (X : Fx b n L true S S') (hb : b < lo) (hn : n < lo) : Rows lo S' rs ts :=
  ⟨h.len, fun j r t a c => by
    have e := h.at_ j r t a c
    have hr := h.lo r (List.mem_of_getElem? a)
    have hl := lstAt_lt e
    rw [lstAt_get] at e ⊢
    rw [X.at_ r hl (by omega) (by omega)]
    exact e, h.lo⟩
theorem Rows.add {lo : Nat} {S : Sto} {rs : List Nat} {ts : List Tr} {r : Nat} {t : Tr} (h : Rows lo S rs ts) (e : lstAt S r = some (t.leaves.map kdD)) (hr : lo ≤ r) : Rows lo S (rs ++ [r]) (ts ++ [t]) := by
  refine ⟨by simp [h.len], fun j r' t' a c => ?_, fun r' hm => ?_⟩
  · by_cases hj : j < rs.length
    · rw [List.getElem?_append_left hj] at a
      rw [List.getElem?_append_left (by rw [← h.len]; exact hj)] at c
      exact h.at_ j r' t' a c
    · rw [List.getElem?_append_right (by omega)] at a
      rw [List.getElem?_append_right (by have := h.len; omega), ← h.len] at c
      have hj0 : j - rs.length = 0 := by
        have := (List.getElem?_eq_some_iff.mp a).1
        simp at this
        omega
      rw [hj0] at a c
      simp at a c
      subst a c
      exact e
  · rw [List.mem_append, List.mem_singleton] at hm
    rcases hm with hm | rfl
    · exact h.lo r' hm
    · exact hr
theorem nice_of {f : Nat} {t : Tr} (k : Kn 2 14 f t) : Nice 10 t := ⟨by have := k.dep; omega, k.ok, by have := k.len; omega, k.lv⟩
theorem nice_deep {t : Tr} (k : Kn 5 364 1 t) : Nice 10 t := ⟨by have := k.dep; omega, k.ok, by have := k.len; omega, k.lv⟩
theorem law_ok (ns : List Int) (hn : ns.length ≤ 63) : ∃ S', callN tbl room 8 [.fz (ns.map .int)] [] = some (.ok (.bl true) S') := by
  have key : Wp (callN tbl (36 + 4) 8 [.fz (ns.map .int)] []) fun d _ => d = .bl true := by
    refine Wp.gen fun Q hQ => wp_call (fd := ⟨1, 17, b_law⟩) rfl rfl ?_
    have sz : sizeLine = 16777216 := rfl
    unfold b_law
    rw [wp_cons]
    try walk_at "ev1"
    refine (box hasWords.toHasBox hn).mono ?_
    rintro _ S1 ⟨b, rfl, B1, X1⟩
    rw [seqQ_nx, wp_cons]
    try walk_at "ev1"
    refine (words (m := 2) hasWords (by decide +kernel) (by decide +kernel) (by omega) B1).mono ?_
    rintro d S2 ⟨⟨r0, ws0, rfl, O2, hr2, hw2, hW2⟩, B2⟩
    rw [seqQ_nx, wp_cons]
    try walk_at "ev1"
    have O3 := O2.app (T := [.lst [.int 0, .int 1, .int 1, .int 4]]) B2.box
    have P3 := Own.new (ds := [.int 0, .int 1, .int 1, .int 4]) B2.box
    have B3 := B2.box.app (T := [.lst [.int 0, .int 1, .int 1, .int 4]])
    refine (pick hasWords.toHasBox (.refl B3) (by decide) (by decide)).mono ?_
    rintro _ S4 ⟨p4, rfl, hp4, B4⟩
    have O4 := O3.mono B4
    have e4 := (P3.mono B4).at_
    obtain ⟨f, hf⟩ : ∃ f : Nat, L2.atI [D.int 0, D.int 1, D.int 1, D.int 4] (p4 : Int) = some (.int f) := by
      have hp : p4 = 0 ∨ p4 = 1 ∨ p4 = 2 ∨ p4 = 3 := by omega
      rcases hp with rfl | rfl | rfl | rfl
      · exact ⟨0, rfl⟩
      · exact ⟨1, rfl⟩
      · exact ⟨1, rfl⟩
      · exact ⟨4, rfl⟩
    try walk_at "ev1"
    rw [seqQ_nx, wp_cons]
    clear e4
    try walk_at "ev1"
    obtain ⟨kvs, ek, hk, k1, k2, k3, k4⟩ := dis4 (.ref r0) (.int f) (.bl true) (.int 0)
    rw [ek]
    have B5 := B4.box.app (T := [.dic kvs])
    have O5 := O4.app (T := [.dic kvs]) B4.box
    have hb4 := B4.box.lt
    have lr0 := lstAt_lt O4.at_
    have fr5 : Free b S4.length (S4 ++ [.dic kvs]) := by
      refine ⟨by simp, by omega, ?_⟩
      obtain ⟨s, g, gr, gs, e1, e2, r⟩ := B4.box
      intro x y gr' e
      rw [lstAt_app (lstAt_lt e1), e1] at e
      cases e
      have := lstAt_lt e2
      omega
    have e5 : dicAt (S4 ++ [.dic kvs]) S4.length = some kvs := dicAt_newE rfl
    have M5 : SmOk b S4.length (S4.length + 1) false (S4 ++ [.dic kvs]) :=
      ⟨⟨kvs, e5, by omega, ⟨r0, ws0, k1, by omega, by omega, O5, by omega, by omega⟩, ⟨f, k2⟩, ⟨true, k3⟩, ⟨0, k4⟩, fun z => by cases z⟩, by omega, fr5⟩
    rw [seqQ_nx, wp_cons]
    generalize S4.length = n at *
    try walk_at "ev1"
    refine (pick hasWords.toHasBox (.refl B5) (by decide) (by decide)).mono ?_
    rintro _ S6 ⟨p6, rfl, hp6, B6⟩
    have hcnt : (3 : Int) + (p6 : Int) = ((p6 + 3 : Nat) : Int) := by omega
    have e6 : dicAt S6 n = some kvs := by
      rw [dicAt_get] at e5 ⊢
      rw [B6.keep.at_ n fr5.1 fr5.2.1]
      exact e5
    have M6 := M5.bx B6
    have l6 := M6.fr.1
    try walk_at "ev1"
    refine book_sp (m := 39) (cnt := p6 + 3) (room := 4) (by omega) (by omega) (by omega) B6.box M6 (by omega) e6 hk _ ?_
    intro top ps S7 L hbk hps B7 M7 hL
    clear e5 e6 ek M6 M5 O5
    have kn : ∀ p ∈ ps, Nice 10 p.2 := fun p hp => by obtain ⟨f, _, k⟩ := hbk p hp; exact nice_of k
    rw [seqQ_nx, wp_cons]
    have idx1 : ∀ (Q : D → Sto → Prop) (S : Sto), Wp (idxD (bkD top ps) (.int 1) S) Q = Q (.tup (ps.map prD)) S := by
      intro Q S
      unfold bkD
      try walk_at "ev"
    have idx0 : ∀ (Q : D → Sto → Prop) (S : Sto), Wp (idxD (bkD top ps) (.int 0) S) Q = Q (.str top) S := by
      intro Q S
      unfold bkD
      try walk_at "ev"
    try walk_at "ev1"
    refine wp_lF (fun i acc S' => ∃ rs : List Nat, acc = rs.map .ref ∧ Rows S7.length S' rs ((ps.take i).map (·.2)) ∧ Ext S7 S') ⟨[], rfl, ⟨rfl, (fun j r t a => by cases a), (fun r h => by cases h)⟩, Ext.refl _⟩ ?_ ?_
    · rintro i d acc S8 hd8 ⟨rs, rfl, hrs, X8⟩ J K hJ hK
      rw [List.getElem?_map] at hd8
      cases ep : ps[i]? with
      | none => rw [ep] at hd8; cases hd8
      | some p =>
        rw [ep] at hd8
        cases hd8
        have N := kn p (List.mem_of_getElem? ep)
        have htk : ps.take (i + 1) = ps.take i ++ [p] := by rw [List.take_succ, ep]; rfl
        have hln : (rs.map D.ref).length < sizeLine := by
          rw [List.length_map, hrs.len, List.length_map, List.length_take]
          omega
        refine ⟨_, rfl, ?_⟩
        clear hK
        try walk_at "ev"
        refine kinds_sp 10 p.2 39 S8 _ N.dep (by omega) N.ok N.len ?_
        intro r S9 X9 hr9 L9
        refine hJ _ _ hln ⟨rs ++ [r], by simp, ?_, X8.trans X9⟩
        rw [htk, List.map_append]
        exact (hrs.ext X9).add L9 (Nat.le_trans X8.len hr9)
    · rintro acc S8 ⟨rs, rfl, hrs, X8⟩
      rw [List.length_map, List.take_length] at hrs
      have B8 := B7.ext X8
      have M8 := M7.bx ((Bx.refl B7).ext X8)
      have l8 := X8.len
      have R9 := hrs.ext (Ext.app S8 [.lst (rs.map .ref)])
      have L9 : lstAt (S8 ++ [.lst (rs.map .ref)]) S8.length = some (rs.map .ref) := lstAt_new
      have B9 := B8.app (T := [.lst (rs.map .ref)])
      have M9 := M8.bx ((Bx.refl B8).app (T := [.lst (rs.map .ref)]))
      have l9 : L ≤ (S8 ++ [O.lst (rs.map D.ref)]).length := by simp; omega
      generalize S8.length = q at *
      generalize S8 ++ [O.lst (rs.map D.ref)] = S9 at *
      clear hrs B8 M8 X8
      rw [seqQ_nx, wp_cons]
      try walk_at "ev1"
      have rowsAt : ∀ (S' : Sto) (i : Nat) (d : D), Ext S9 S' → (rs.map D.ref)[i]? = some d → ∃ r p, d = .ref r ∧ ps[i]? = some p ∧ lstAt S' r = some ((p.2.leaves.map Tr.kd).map .str) := by
        intro S' i d X hd
        rw [List.getElem?_map] at hd
        cases er : rs[i]? with
        | none => rw [er] at hd; cases hd
        | some r =>
          rw [er] at hd
          cases hd
          have hi := (List.getElem?_eq_some_iff.mp er).1
          have h9 := R9.len
          rw [List.length_map] at h9
          have ep : ps[i]? = some ps[i] := List.getElem?_eq_getElem (by omega)
          refine ⟨r, ps[i], rfl, ep, ?_⟩
          have := X.lst (R9.at_ i r ps[i].2 er (by rw [List.getElem?_map, ep]; rfl))
          rw [this, List.map_map]
          rfl
      refine wp_lR (ds := rs.map .ref) (fun i acc S' => Ext S9 S' ∧ acc.length = ((ps.take i).filter fun p => amid p.2).length) ⟨Ext.refl _, rfl⟩ ?_ ?_ ?_
      · rintro i acc S' ⟨X, _⟩
        exact X.lst L9
      · rintro i d acc S10 hd10 ⟨X10, ha⟩ J K hJ hK
        obtain ⟨r, p, rfl, ep, Lr⟩ := rowsAt S10 i d X10 hd10
        have N := kn p (List.mem_of_getElem? ep)
        obtain ⟨f, hf1, kf⟩ := hbk p (List.mem_of_getElem? ep)
        have hak := amid_kinds hf1 kf.ft
        have hin := inD_strs (x := "foot") Lr
        have htk : ps.take (i + 1) = ps.take i ++ [p] := by rw [List.take_succ, ep]; rfl
        obtain ⟨l, hl⟩ : ∃ l, (p.2.leaves.map Tr.kd).getLast? = some l := by
          cases e : (p.2.leaves.map Tr.kd).getLast? with
          | none =>
            rw [List.getLast?_eq_none_iff, List.map_eq_nil_iff] at e
            exact absurd e N.lv
          | some l => exact ⟨l, rfl⟩
        have hat : L2.atI ((p.2.leaves.map Tr.kd).map D.str) (-1) = some (.str l) := by
          rw [atI_last, List.getLast?_map, hl]
          rfl
        rw [hl] at hak
        have hln : acc.length < sizeLine := by
          have := List.length_filter_le (fun p : Str × Tr => amid p.2) (ps.take i)
          rw [List.length_take] at this
          omega
        have out : amid p.2 = false → K S10 := fun h => hK _ ⟨X10, by
          rw [ha, htk, List.filter_append, List.filter_cons, h]
          simp⟩
        have inn : amid p.2 = true → J (.ref r) S10 := fun h => hJ _ _ hln ⟨X10, by
          rw [List.length_append, ha, htk, List.filter_append, List.length_append, List.filter_cons, h]
          simp⟩
        clear hJ hK ha htk hd10
        refine ⟨_, rfl, ?_⟩
        try walk_at "ev1"
        refine andQ_by (fun h => ?_) (fun h => ?_)
        · rw [h] at hak
          try walk_at "ev1"
          refine lcQ_by (fun h2 => ?_) (fun h2 => ?_)
          · have := inn (by rw [← hak]; simpa using h2)
            try walk_at "ev1"
          · exact out (by rw [← hak]; simpa using h2)
        · rw [h] at hak
          exact out hak.symm
      · rintro acc S10 ⟨X10, ha⟩
        have h9 := R9.len
        rw [List.length_map] at h9
        rw [List.length_map, h9, List.take_length] at ha
        have hdue : (((ps.filter fun p => amid p.2).length : Int) == 0) = (ps.all fun p => !amid p.2) := by
          rw [Bool.eq_iff_iff, beq_iff_eq, List.all_eq_true]
          constructor
          · intro h p hp
            have h0 : (ps.filter fun p => amid p.2).length = 0 := by omega
            have := List.filter_eq_nil_iff.mp (List.eq_nil_of_length_eq_zero h0) p hp
            simpa using this
          · intro h
            have : (ps.filter fun p => amid p.2) = [] := List.filter_eq_nil_iff.mpr fun p hp => by simpa using h p hp
            rw [this]
            rfl
        have X11 := X10.trans (Ext.app S10 [.lst acc])
        have B11 := B9.ext X11
        have M11 := M9.bx ((Bx.refl B9).ext X11)
        have R11 := R9.ext X11
        have L11 := X11.lst L9
        have l11 := X11.len
        try walk_at "ev1"
        rw [seqQ_nx, wp_cons]
        generalize hdu : (ps.all fun p => !amid p.2) = due at *
        clear hdue ha R9 L9 rowsAt
        generalize S10 ++ [O.lst acc] = S11 at *
        try walk_at "ev1"
        refine deep_sp (m := 39) (by omega) (Fx.refl B11 M11) _ ?_
        intro t S12 k12 F12
        have hb7 := B7.lt
        have hn7 := M7.fr.1
        have R12 := R11.fx F12 hb7 hn7
        have hq7 : S7.length ≤ q := l8
        have L12 : lstAt S12 q = some (rs.map .ref) := by
          have hl := lstAt_lt L11
          rw [lstAt_get] at L11 ⊢
          rw [F12.at_ q hl (by omega) (by omega)]
          exact L11
        rw [seqQ_nx, wp_cons]
        have hzip : ∀ i, dynAt (.zip (ps.map prD) (rs.map D.ref).length) (rs.map D.ref) i = some (List.zipWith (fun a c => D.tup [a, c]) (ps.map prD) (rs.map D.ref))[i]? := by
          intro i
          unfold dynAt
          simp only
          rw [if_pos True.intro, List.getElem?_zipWith]
          cases (ps.map prD)[i]? <;> cases (rs.map D.ref)[i]? <;> rfl
        have h9 := R12.len
        rw [List.length_map] at h9
        try walk_at "ev1"
        refine wp_lRw (ds := rs.map .ref) hzip (fun i acc S' => Ext S12 S' ∧ acc = ((ps.take i).filter fun p => !((p.2.leaves.map Tr.kd).any (· == ("foot" : Str)))).map prD) ⟨Ext.refl _, rfl⟩ ?_ ?_ ?_
        · rintro i acc S' ⟨X, _⟩
          exact X.lst L12
        · rintro i d acc S13 hd13 ⟨X13, rfl⟩ J K hJ hK
          rw [List.getElem?_zipWith, List.getElem?_map, List.getElem?_map] at hd13
          cases er : rs[i]? with
          | none =>
            rw [er] at hd13
            cases ep : ps[i]? with
            | none => rw [ep] at hd13; cases hd13
            | some p => rw [ep] at hd13; cases hd13
          | some r =>
            have hi := (List.getElem?_eq_some_iff.mp er).1
            have ep : ps[i]? = some ps[i] := List.getElem?_eq_getElem (by omega)
            generalize ps[i]'(by omega) = p at ep
            rw [er, ep] at hd13
            cases hd13
            have Lr : lstAt S13 r = some ((p.2.leaves.map Tr.kd).map .str) := by
              have := X13.lst (R12.at_ i r p.2 er (by rw [List.getElem?_map, ep]; rfl))
              rw [this, List.map_map]
              rfl
            have hin := inD_strs (x := "foot") Lr
            have htk : ps.take (i + 1) = ps.take i ++ [p] := by rw [List.take_succ, ep]; rfl
            rw [htk, List.filter_append, List.map_append, List.filter_cons] at hJ hK
            have hln : (((ps.take i).filter fun p => !((p.2.leaves.map Tr.kd).any (· == ("foot" : Str)))).map prD).length < sizeLine := by
              have := List.length_filter_le (fun p : Str × Tr => !((p.2.leaves.map Tr.kd).any (· == ("foot" : Str)))) (ps.take i)
              rw [List.length_take] at this
              rw [List.length_map]
              omega
            refine ⟨_, rfl, ?_⟩
            try walk_at "ev1"
            refine lcQ_by (fun h => ?_) (fun h => ?_)
            · rw [h] at hJ
              have := hJ (prD p) S13 hln ⟨X13, rfl⟩
              try walk_at "ev1"
            · rw [h] at hK
              exact hK S13 ⟨X13, (List.append_nil _).symm⟩
        · rintro acc S13 ⟨X13, rfl⟩
          have hlen : (List.zipWith (fun a c => D.tup [a, c]) (ps.map prD) (rs.map D.ref)).length = ps.length := by
            rw [List.length_zipWith, List.length_map, List.length_map, h9, Nat.min_self]
          rw [hlen, List.take_length]
          have X14 := X13.trans (Ext.app S13 [.lst ((ps.filter fun p => !((p.2.leaves.map Tr.kd).any (· == ("foot" : Str)))).map prD)])
          generalize hsts : (ps.filter fun p => !((p.2.leaves.map Tr.kd).any (· == ("foot" : Str)))) = sts at *
          have hst : ∀ p ∈ sts, p ∈ ps ∧ amid p.2 = false := by
            intro p hp
            rw [← hsts, List.mem_filter] at hp
            obtain ⟨f, hf1, kf⟩ := hbk p hp.1
            have hak := amid_kinds hf1 kf.ft
            refine ⟨hp.1, ?_⟩
            rw [← hak]
            have := hp.2
            rw [Bool.not_eq_true'] at this
            rw [this]
            rfl
          have hstl : sts.length ≤ 26 := by
            have := List.length_filter_le (fun p : Str × Tr => !((p.2.leaves.map Tr.kd).any (· == ("foot" : Str)))) ps
            rw [hsts] at this
            omega
          have L14 : lstAt (S13 ++ [.lst (sts.map prD)]) S13.length = some (sts.map prD) := lstAt_new
          generalize S13.length = q13 at *
          generalize S13 ++ [O.lst (sts.map prD)] = S14 at *
          clear hsts X13 hlen
          try walk_at "ev1"
          rw [seqQ_nx, wp_cons]
          try walk_at "ev1"
          rw [seqQ_nx, wp_cons]
          have Ld : lstAt (S14 ++ [.lst [.tup [bkD top ps, .bl due], .tup [.tup [.str top, .tup (ps.map prD).reverse], .bl due], .tup [bkD top ps, .bl due], .tup [.tup [.str top, .tup (sts.map prD)], .bl true]]]) S14.length = some [.tup [bkD top ps, .bl due], .tup [.tup [.str top, .tup (ps.map prD).reverse], .bl due], .tup [bkD top ps, .bl due], .tup [.tup [.str top, .tup (sts.map prD)], .bl true]] := lstAt_new
          generalize S14.length = qt at *
          generalize S14 ++ [O.lst [D.tup [bkD top ps, .bl due], .tup [.tup [.str top, .tup (ps.map prD).reverse], .bl due], .tup [bkD top ps, .bl due], .tup [.tup [.str top, .tup (sts.map prD)], .bl true]]] = S15 at *
          try walk_at "ev1"
          refine ⟨by rw [List.length_map]; omega, ?_⟩
          refine kinds_sp 10 t 39 S15 _ (by have := k12.dep; omega) (by omega) k12.ok (by have := k12.len; omega) ?_
          intro rd S16 X16 hrd Lrd
          obtain ⟨l, hl⟩ : ∃ l, (t.leaves.map Tr.kd).getLast? = some l := by
            cases e : (t.leaves.map Tr.kd).getLast? with
            | none =>
              rw [List.getLast?_eq_none_iff, List.map_eq_nil_iff] at e
              exact absurd e k12.lv
            | some l => exact ⟨l, rfl⟩
          have hat : L2.atI (t.leaves.map kdD) (-1) = some (.str l) := by
            have : t.leaves.map kdD = (t.leaves.map Tr.kd).map D.str := by rw [List.map_map]; rfl
            rw [atI_last, this, List.getLast?_map, hl]
            rfl
          have Ld16 := X16.lst Ld
          have ham : (l == ("foot" : Str)) = !amid t := by
            unfold amid
            rw [k12.ft, ← List.getLast?_map, hl]
            simp
          try walk_at "ev1"
          rw [seqQ_nx, wp_cons]
          have hqt := lstAt_lt Ld16
          obtain ⟨cs, hcs⟩ : ∃ cs : List (List (Str × Tr) × Bool), cs = [(ps, due), (ps.reverse, due), (ps, due), (sts, true), (sts ++ [(("zdeep" : Str), t)], !amid t)] := ⟨_, rfl⟩
          have hth : [D.tup [bkD top ps, .bl due], .tup [.tup [.str top, .tup (ps.map prD).reverse], .bl due], .tup [bkD top ps, .bl due], .tup [.tup [.str top, .tup (sts.map prD)], .bl true], .tup [.tup [.str top, .tup (sts.map prD ++ [.tup [.str "zdeep", t.enc]])], .bl (!amid t)]] = cs.map fun c => .tup [bkD top c.1, .bl c.2] := by
            rw [hcs]
            simp [bkD, prD]
          have hgood : ∀ c ∈ cs, (∀ p ∈ c.1, Nice 10 p.2) ∧ (c.1.all fun p => !amid p.2) = c.2 := by
            intro c hc
            rw [hcs] at hc
            simp only [List.mem_cons, List.not_mem_nil, or_false] at hc
            have hs1 : (sts.all fun p => !amid p.2) = true := List.all_eq_true.mpr fun p hp => by rw [(hst p hp).2]; rfl
            rcases hc with rfl | rfl | rfl | rfl | rfl
            · exact ⟨kn, hdu⟩
            · exact ⟨fun p hp => kn p (List.mem_reverse.mp hp), by rw [← hdu]; exact List.all_reverse⟩
            · exact ⟨kn, hdu⟩
            · exact ⟨fun p hp => kn p (hst p hp).1, hs1⟩
            · refine ⟨fun p hp => ?_, ?_⟩
              · rw [List.mem_append, List.mem_singleton] at hp
                rcases hp with hp | rfl
                · exact kn p (hst p hp).1
                · exact nice_deep k12
              · rw [List.all_append, hs1]
                simp
          have Lq := lstAt_set (ds := cs.map fun c => .tup [bkD top c.1, .bl c.2]) hqt
          have Lq' := Lq
          rw [← hth] at Lq
          generalize hS17 : S16.set qt (.lst (cs.map fun c => .tup [bkD top c.1, .bl c.2])) = S17 at *
          rw [← hth] at hS17
          try walk_at "ev1"
          refine wp_fR (ds := cs.map fun c => .tup [bkD top c.1, .bl c.2]) (fun i ρ S' => ∃ x7 x11 x12, ρ = [some (.fz (ns.map .int)), some (.ref b), some (.ref r0), some (.int f), some (.ref n), some (bkD top ps), some (.ref q), x7, some t.enc, some (.tup (sts.map prD)), some (.ref qt), x11, x12, none, none, none, none] ∧ lstAt S' qt = some (cs.map fun c => .tup [bkD top c.1, .bl c.2])) ⟨_, _, _, rfl, by rw [hcs]; exact lstAt_set hqt⟩ ?_ ?_ ?_
          · rintro i ρ S' ⟨_, _, _, _, h⟩
            exact h
          · rintro i d ρ S18 hd18 ⟨x7, x11, x12, rfl, L18⟩ J hJ
            rw [List.getElem?_map] at hd18
            cases ec : cs[i]? with
            | none => rw [ec] at hd18; cases hd18
            | some c =>
              rw [ec] at hd18
              cases hd18
              obtain ⟨g1, g2⟩ := hgood c (List.mem_of_getElem? ec)
              refine ⟨_, rfl, ?_⟩
              try walk_at "ev"
              refine sided_sp (n := 10) (m := 39) (by omega) (by omega) g1 _ ?_
              intro S19 X19
              have hk : ∀ t, isiD .bool (.bl t) S19 = some true := fun t => rfl
              have L19 := X19.lst L18
              try walk_at "ev"
              exact hJ _ _ ⟨_, _, _, rfl, L19⟩
          · rintro ρ S18 ⟨x7, x11, x12, rfl, L18⟩
            try walk_at "ev"
  exact key.eq fun _ _ e => e

end K87
namespace K87
open PySem VM
theorem all_mk {P : Program} {w : World} {K : PySem.W.Frag} {h : Heap} {mg : Str → Option Value} {fa : Addr} (X : K.In h) (G : h.Ns mainGlobals mg) (hfa : mg "law" = some (.ref fa))
    (a_kids_of : FnAt K "kids_of" (top 4) ["tree"]) (a_places : FnAt K "places" (top 5) ["tree"]) (a_piece_at : FnAt K "piece_at" (top 6) ["tree", "place"]) (a_feet_of : FnAt K "feet_of" (top 8) ["tree"]) (a_is_graft : FnAt K "is_graft" (top 9) ["tree"]) (a_leaves_of : FnAt K "leaves_of" (top 11) ["tree"]) (a_first_amid : FnAt K "first_amid" (top 12) ["book"]) (a_one_sided : FnAt K "one_sided" (top 13) ["book"]) (a__law_box : FnAt K "_law_box" (top 15) ["script"]) (a__law_pick : FnAt K "_law_pick" (top 16) ["box", "count"]) (a__law_words : FnAt K "_law_words" (top 17) ["box", "heads", "tail", "count"]) (a__law_socket : FnAt K "_law_socket" (top 18) ["some"]) (a__law_leaf : FnAt K "_law_leaf" (top 19) ["box", "some"]) (a__law_worn : FnAt K "_law_worn" (top 20) ["box", "some"]) (a__law_knot : FnAt K "_law_knot" (top 21) ["box", "some", "name", "deep", "foot"]) (a__law_signs : FnAt K "_law_signs" (top 22) ["piece"]) (a__law_tree : FnAt K "_law_tree" (top 23) ["box", "some", "name", "foot", "room"]) (a__law_book : FnAt K "_law_book" (top 24) ["box", "some", "count", "room"]) (a__law_leaves : FnAt K "_law_leaves" (top 25) ["piece"]) (a__law_deep : FnAt K "_law_deep" (top 26) ["box", "some"]) (a_law : FnAt K "law" (top 27) ["script"]) (z_bool : PySem.W.nsIn K mainGlobals "bool" = some none) (z_enumerate : PySem.W.nsIn K mainGlobals "enumerate" = some none) (z_isinstance : PySem.W.nsIn K mainGlobals "isinstance" = some none) (z_len : PySem.W.nsIn K mainGlobals "len" = some none) (z_list : PySem.W.nsIn K mainGlobals "list" = some none) (z_range : PySem.W.nsIn K mainGlobals "range" = some none) (z_tuple : PySem.W.nsIn K mainGlobals "tuple" = some none) (z_zip : PySem.W.nsIn K mainGlobals "zip" = some none)  (k : Nat) :
    ∃ fd : FuncData, (∀ (s : Shared) (v : Value), BindsTo s fd ⟨[v], []⟩ [("script", v)]) ∧ ∀ base : Heap, L2.FnOk P w K mg base L2.CX0 k fa fd ["script"] (spF K tbl k 8) := by
  refine law_at (ft := ft) (bs := bs) (gs := gs) (fd := ⟨1, 17, b_law⟩) X G hfa a_law sc_law rfl rfl m_law ?_ ?_ ?_ k 8 rfl
  · intro p hp
    simp only [ft, List.mem_cons, List.not_mem_nil, or_false] at hp
    rcases hp with rfl | rfl | rfl | rfl | rfl | rfl | rfl | rfl | rfl | rfl | rfl | rfl | rfl | rfl | rfl | rfl | rfl | rfl | rfl | rfl | rfl
    · exact a_kids_of.t X G sc_kids_of rfl rfl m_kids_of
    · exact a_places.t X G sc_places rfl rfl m_places
    · exact a_piece_at.t X G sc_piece_at rfl rfl m_piece_at
    · exact a_feet_of.t X G sc_feet_of rfl rfl m_feet_of
    · exact a_is_graft.t X G sc_is_graft rfl rfl m_is_graft
    · exact a_leaves_of.t X G sc_leaves_of rfl rfl m_leaves_of
    · exact a_first_amid.t X G sc_first_amid rfl rfl m_first_amid
    · exact a_one_sided.t X G sc_one_sided rfl rfl m_one_sided
    · exact a__law_box.t X G sc__law_box rfl rfl m__law_box
    · exact a__law_pick.t X G sc__law_pick rfl rfl m__law_pick
    · exact a__law_words.t X G sc__law_words rfl rfl m__law_words
    · exact a__law_socket.t X G sc__law_socket rfl rfl m__law_socket
    · exact a__law_leaf.t X G sc__law_leaf rfl rfl m__law_leaf
    · exact a__law_worn.t X G sc__law_worn rfl rfl m__law_worn
    · exact a__law_knot.t X G sc__law_knot rfl rfl m__law_knot
    · exact a__law_signs.t X G sc__law_signs rfl rfl m__law_signs
    · exact a__law_tree.t X G sc__law_tree rfl rfl m__law_tree
    · exact a__law_book.t X G sc__law_book rfl rfl m__law_book
    · exact a__law_leaves.t X G sc__law_leaves rfl rfl m__law_leaves
    · exact a__law_deep.t X G sc__law_deep rfl rfl m__law_deep
    · exact a_law.t X G sc_law rfl rfl m_law
  · intro x hx
    simp only [bs, List.mem_cons, List.not_mem_nil, or_false] at hx
    rcases hx with rfl | rfl | rfl | rfl | rfl | rfl | rfl | rfl
    · exact PySem.W.mg_none_of X G z_bool
    · exact PySem.W.mg_none_of X G z_enumerate
    · exact PySem.W.mg_none_of X G z_isinstance
    · exact PySem.W.mg_none_of X G z_len
    · exact PySem.W.mg_none_of X G z_list
    · exact PySem.W.mg_none_of X G z_range
    · exact PySem.W.mg_none_of X G z_tuple
    · exact PySem.W.mg_none_of X G z_zip
  · refine flat_gs fun p hp => ?_
    cases hp
end K87
set_option maxHeartbeats 4000000 in
theorem PySem.Challenge.cw_graftsay_k87_one_side_holds : PySem.Challenge.rw_graftsay_k87_one_side.Holds := by
  w_on; o_law; k_head; (case hw => w_witness2)
  k_fill
  refine VM.walk (l := PySem.Challenge.rw_graftsay_k87_one_side) (tbl := K87.tbl) (k := K87.room) (f := 8) rfl rfl ⟨rfl, by decide, by decide⟩ (fun w h Y => PySem.W.kIn_of Y) ?F K87.law_ok
  case F =>
    intro w mg fa h KX G hmg
    refine K87.all_mk KX G hmg ?a_kids_of ?a_places ?a_piece_at ?a_feet_of ?a_is_graft ?a_leaves_of ?a_first_amid ?a_one_sided ?a__law_box ?a__law_pick ?a__law_words ?a__law_socket ?a__law_leaf ?a__law_worn ?a__law_knot ?a__law_signs ?a__law_tree ?a__law_book ?a__law_leaves ?a__law_deep ?a_law ?z_bool ?z_enumerate ?z_isinstance ?z_len ?z_list ?z_range ?z_tuple ?z_zip K87.room
    case a_kids_of =>
      refine' VM.fnAt_mk ?b_kids_of ?c_kids_of ?d_kids_of ?e_kids_of ?f_kids_of
      case c_kids_of => k_is
      case d_kids_of => k_is
      case e_kids_of => k_is
      case f_kids_of => k_is
      case b_kids_of => exact fun _ _ _ _ _ _ us hl => match us, hl with | [_], _ => rfl
    case a_places =>
      refine' VM.fnAt_mk ?b_places ?c_places ?d_places ?e_places ?f_places
      case c_places => k_is
      case d_places => k_is
      case e_places => k_is
      case f_places => k_is
      case b_places => exact fun _ _ _ _ _ _ us hl => match us, hl with | [_], _ => rfl
    case a_piece_at =>
      refine' VM.fnAt_mk ?b_piece_at ?c_piece_at ?d_piece_at ?e_piece_at ?f_piece_at
      case c_piece_at => k_is
      case d_piece_at => k_is
      case e_piece_at => k_is
      case f_piece_at => k_is
      case b_piece_at => exact fun _ _ _ _ _ _ us hl => match us, hl with | [_, _], _ => rfl
    case a_feet_of =>
      refine' VM.fnAt_mk ?b_feet_of ?c_feet_of ?d_feet_of ?e_feet_of ?f_feet_of
      case c_feet_of => k_is
      case d_feet_of => k_is
      case e_feet_of => k_is
      case f_feet_of => k_is
      case b_feet_of => exact fun _ _ _ _ _ _ us hl => match us, hl with | [_], _ => rfl
    case a_is_graft =>
      refine' VM.fnAt_mk ?b_is_graft ?c_is_graft ?d_is_graft ?e_is_graft ?f_is_graft
      case c_is_graft => k_is
      case d_is_graft => k_is
      case e_is_graft => k_is
      case f_is_graft => k_is
      case b_is_graft => exact fun _ _ _ _ _ _ us hl => match us, hl with | [_], _ => rfl
    case a_leaves_of =>
      refine' VM.fnAt_mk ?b_leaves_of ?c_leaves_of ?d_leaves_of ?e_leaves_of ?f_leaves_of
      case c_leaves_of => k_is
      case d_leaves_of => k_is
      case e_leaves_of => k_is
      case f_leaves_of => k_is
      case b_leaves_of => exact fun _ _ _ _ _ _ us hl => match us, hl with | [_], _ => rfl
    case a_first_amid =>
      refine' VM.fnAt_mk ?b_first_amid ?c_first_amid ?d_first_amid ?e_first_amid ?f_first_amid
      case c_first_amid => k_is
      case d_first_amid => k_is
      case e_first_amid => k_is
      case f_first_amid => k_is
      case b_first_amid => exact fun _ _ _ _ _ _ us hl => match us, hl with | [_], _ => rfl
    case a_one_sided =>
      refine' VM.fnAt_mk ?b_one_sided ?c_one_sided ?d_one_sided ?e_one_sided ?f_one_sided
      case c_one_sided => k_is
      case d_one_sided => k_is
      case e_one_sided => k_is
      case f_one_sided => k_is
      case b_one_sided => exact fun _ _ _ _ _ _ us hl => match us, hl with | [_], _ => rfl
    case a__law_box =>
      refine' VM.fnAt_mk ?b__law_box ?c__law_box ?d__law_box ?e__law_box ?f__law_box
      case c__law_box => k_is
      case d__law_box => k_is
      case e__law_box => k_is
      case f__law_box => k_is
      case b__law_box => exact fun _ _ _ _ _ _ us hl => match us, hl with | [_], _ => rfl
    case a__law_pick =>
      refine' VM.fnAt_mk ?b__law_pick ?c__law_pick ?d__law_pick ?e__law_pick ?f__law_pick
      case c__law_pick => k_is
      case d__law_pick => k_is
      case e__law_pick => k_is
      case f__law_pick => k_is
      case b__law_pick => exact fun _ _ _ _ _ _ us hl => match us, hl with | [_, _], _ => rfl
    case a__law_words =>
      refine' VM.fnAt_mk ?b__law_words ?c__law_words ?d__law_words ?e__law_words ?f__law_words
      case c__law_words => k_is
      case d__law_words => k_is
      case e__law_words => k_is
      case f__law_words => k_is
      case b__law_words => exact fun _ _ _ _ _ _ us hl => match us, hl with | [_, _, _, _], _ => rfl
    case a__law_socket =>
      refine' VM.fnAt_mk ?b__law_socket ?c__law_socket ?d__law_socket ?e__law_socket ?f__law_socket
      case c__law_socket => k_is
      case d__law_socket => k_is
      case e__law_socket => k_is
      case f__law_socket => k_is
      case b__law_socket => exact fun _ _ _ _ _ _ us hl => match us, hl with | [_], _ => rfl
    case a__law_leaf =>
      refine' VM.fnAt_mk ?b__law_leaf ?c__law_leaf ?d__law_leaf ?e__law_leaf ?f__law_leaf
      case c__law_leaf => k_is
      case d__law_leaf => k_is
      case e__law_leaf => k_is
      case f__law_leaf => k_is
      case b__law_leaf => exact fun _ _ _ _ _ _ us hl => match us, hl with | [_, _], _ => rfl
    case a__law_worn =>
      refine' VM.fnAt_mk ?b__law_worn ?c__law_worn ?d__law_worn ?e__law_worn ?f__law_worn
      case c__law_worn => k_is
      case d__law_worn => k_is
      case e__law_worn => k_is
      case f__law_worn => k_is
      case b__law_worn => exact fun _ _ _ _ _ _ us hl => match us, hl with | [_, _], _ => rfl
    case a__law_knot =>
      refine' VM.fnAt_mk ?b__law_knot ?c__law_knot ?d__law_knot ?e__law_knot ?f__law_knot
      case c__law_knot => k_is
      case d__law_knot => k_is
      case e__law_knot => k_is
      case f__law_knot => k_is
      case b__law_knot => exact fun _ _ _ _ _ _ us hl => match us, hl with | [_, _, _, _, _], _ => rfl
    case a__law_signs =>
      refine' VM.fnAt_mk ?b__law_signs ?c__law_signs ?d__law_signs ?e__law_signs ?f__law_signs
      case c__law_signs => k_is
      case d__law_signs => k_is
      case e__law_signs => k_is
      case f__law_signs => k_is
      case b__law_signs => exact fun _ _ _ _ _ _ us hl => match us, hl with | [_], _ => rfl
    case a__law_tree =>
      refine' VM.fnAt_mk ?b__law_tree ?c__law_tree ?d__law_tree ?e__law_tree ?f__law_tree
      case c__law_tree => k_is
      case d__law_tree => k_is
      case e__law_tree => k_is
      case f__law_tree => k_is
      case b__law_tree => exact fun _ _ _ _ _ _ us hl => match us, hl with | [_, _, _, _, _], _ => rfl
    case a__law_book =>
      refine' VM.fnAt_mk ?b__law_book ?c__law_book ?d__law_book ?e__law_book ?f__law_book
      case c__law_book => k_is
      case d__law_book => k_is
      case e__law_book => k_is
      case f__law_book => k_is
      case b__law_book => exact fun _ _ _ _ _ _ us hl => match us, hl with | [_, _, _, _], _ => rfl
    case a__law_leaves =>
      refine' VM.fnAt_mk ?b__law_leaves ?c__law_leaves ?d__law_leaves ?e__law_leaves ?f__law_leaves
      case c__law_leaves => k_is
      case d__law_leaves => k_is
      case e__law_leaves => k_is
      case f__law_leaves => k_is
      case b__law_leaves => exact fun _ _ _ _ _ _ us hl => match us, hl with | [_], _ => rfl
    case a__law_deep =>
      refine' VM.fnAt_mk ?b__law_deep ?c__law_deep ?d__law_deep ?e__law_deep ?f__law_deep
      case c__law_deep => k_is
      case d__law_deep => k_is
      case e__law_deep => k_is
      case f__law_deep => k_is
      case b__law_deep => exact fun _ _ _ _ _ _ us hl => match us, hl with | [_, _], _ => rfl
    case a_law =>
      refine' VM.fnAt_mk ?b_law ?c_law ?d_law ?e_law ?f_law
      case c_law => k_is
      case d_law => k_is
      case e_law => k_is
      case f_law => k_is
      case b_law => exact fun _ _ _ _ _ _ us hl => match us, hl with | [_], _ => rfl
    case z_bool => k_is
    case z_enumerate => k_is
    case z_isinstance => k_is
    case z_len => k_is
    case z_list => k_is
    case z_range => k_is
    case z_tuple => k_is
    case z_zip => k_is
