import PyProof.Rows.All
import Wide.All
import OpenK.AllK
import Wide.FinOn
import HandS.ForMost
import HandS.TupAny
import HandS.Style
import HandS.ForExc
import KE.DataEq
import HandS.IsInst
import HandS.Conv
import HandS.Ends
import PySem.Challenge.RW_graftsay_k81_rows_taken
set_option Elab.async false
set_option linter.all false
set_option maxRecDepth 100000
/-! VA: a small language of values and a store, what its programs do. -/
namespace VM
open PySem

inductive D where
  | non | bl (b : Bool) | int (i : Int) | str (x : Str) | tup (ds : List D) | ref (n : Nat) | fz (ds : List D)

inductive O where
  | lst (ds : List D)
  | dic (kvs : List (D × D))
  | ins (c : Nat) (fs : List (Str × D))

abbrev Sto := List O
abbrev Rho := List (Option D)

inductive Rs (α : Type) where
  | ok (a : α) (S : Sto)
  | ex (c : Nat) (xs : List D) (S : Sto)
abbrev Out (α : Type) := Option (Rs α)
def ok {α : Type} (a : α) (S : Sto) : Out α := some (.ok a S)
def bd {α β : Type} (m : Out α) (f : α → Sto → Out β) : Out β :=
  match m with
  | none => none
  | some (.ok a S) => f a S
  | some (.ex c xs S) => some (.ex c xs S)

inductive Op2 where | add | sub | mul | fdiv | mod | pow
inductive Cm where | eq | ne | lt | le | gt | ge | is | isnot | inn | notin
inductive Bi where | len | tuple | list | sum | all | any
inductive Bm where | append | insert
inductive Ty where | int | bool | str | tuple | list
inductive Tg where | nm (i : Nat) | tp (is : List Nat)

mutual
inductive E where
  | var (i : Nat)
  | non | bl (b : Bool) | int (i : Int) | str (x : Str)
  | gc (x : Str) (d : D)
  | tup (es : Es) | lst (es : Es)
  | bin (op : Op2) (a b : E)
  | neg (a : E)
  | cmp (op : Cm) (a b : E)
  | chain (op op' : Cm) (a b c : E)
  | and (a b : E) | or (a b : E) | one (a : E) | not (a : E)
  | ite (c : T) (a b : E)
  | idx (a i : E)
  | sl (a : E) (lo hi : P)
  | rev (a : E)
  | call (f : Nat) (es : Es)
  | bi (b : Bi) (es : Es)
  | bm (m : Bm) (o : E) (es : Es)
  | isi (a : E) (t : Ty)
  | lrg (a : E)
  | lc (elt : E) (tg : Tg) (it : I) (c : T) (own : List (Str × Nat))
inductive Es where
  | nil | cons (e : E) (es : Es)
/-- a slice's part -/
inductive P where
  | no | e (e : E)
/-- a test -/
inductive T where
  | yes
  | v (e : E)
  | cmp (op : Cm) (a b : E)
  | chain (op op' : Cm) (a b c : E)
  | not (t : T)
  | and (a b : T) | or (a b : T) | one (a : T)
/-- what is walked -/
inductive I where
  | seq (e : E)
  | rng1 (a : E)
  | rng2 (a b : E)
end

mutual
inductive C where
  | pass | brk | cnt
  | set (i : Nat) (e : E)
  | asg (tg : Tg) (e : E)
  | aug (i : Nat) (op : Op2) (e : E)
  | seti (o i e : E)
  | ex (e : E)
  | ret (e : E) | retn
  | ife (c : T) (a b : Cs)
  | whl (c : T) (b : Cs)
  | for_ (tg : Tg) (it : I) (b : Cs)
inductive Cs where
  | nil | cons (c : C) (cs : Cs)
end

/-! ### values -/
mutual
def pd : D → Option PyData
  | .non => some .none
  | .bl b => some (.bool b)
  | .int i => some (.int i)
  | .str x => some (.str x)
  | .tup ds => (pds ds).map .tuple
  | .fz ds => (pds ds).map .list
  | .ref _ => none
def pds : List D → Option (List PyData)
  | [] => some []
  | d :: ds => match pd d, pds ds with
    | some p, some ps => some (p :: ps)
    | _, _ => none
end
def mapO (f : D → Option PyData) : List D → Option (List PyData)
  | [] => some []
  | d :: ds => match f d, mapO f ds with
    | some p, some ps => some (p :: ps)
    | _, _ => none
/-- as data, lists read off the store -/
def toP (S : Sto) : Nat → D → Option PyData
  | _, .non => some .none
  | _, .bl b => some (.bool b)
  | _, .int i => some (.int i)
  | _, .str x => some (.str x)
  | n + 1, .tup ds => (mapO (toP S n) ds).map .tuple
  | n + 1, .fz ds => (mapO (toP S n) ds).map .list
  | n + 1, .ref k => match S[k]? with
    | some (.lst ds) => (mapO (toP S n) ds).map .list
    | _ => none
  | 0, _ => none

def eqD (x y : D) (S : Sto) : Option Bool :=
  match toP S 150 x, toP S 150 y with
  | some a, some b => some (PyData.eqv a b)
  | _, _ => none
def itemsOf (S : Sto) : D → Option (List D)
  | .tup ds => some ds
  | .fz ds => some ds
  | .ref n => match S[n]? with
    | some (.lst ds) => some ds
    | _ => none
  | _ => none
def inD (x y : D) (S : Sto) : Option Bool :=
  match x, y with
  | .str i, .str j => match i.cps.toList with
    | [c] => some (decide (c ∈ j.cps.toList))
    | _ => none
  | _, _ => match toP S 150 x, toP S 150 y with
    | some a, some (.tuple bs) => some (bs.any fun b => PyData.eqv b a)
    | some a, some (.list bs) => some (bs.any fun b => PyData.eqv b a)
    | _, _ => none
def copB (op : Cm) (x y : D) (S : Sto) : Option Bool :=
  match op with
  | .eq => eqD x y S
  | .ne => (eqD x y S).map (!·)
  | .lt => match x, y with | .int i, .int j => some (decide (i < j)) | _, _ => none
  | .le => match x, y with | .int i, .int j => some (decide (i ≤ j)) | _, _ => none
  | .gt => match x, y with | .int i, .int j => some (decide (j < i)) | _, _ => none
  | .ge => match x, y with | .int i, .int j => some (decide (j ≤ i)) | _, _ => none
  | .is => match y with | .non => some (match x with | .non => true | _ => false) | _ => none
  | .isnot => match y with | .non => some (match x with | .non => false | _ => true) | _ => none
  | .inn => inD x y S
  | .notin => (inD x y S).map (!·)
def lift (o : Option Bool) (S : Sto) : Out D := match o with
  | some b => ok (.bl b) S
  | none => none
def cop (op : Cm) (x y : D) (S : Sto) : Out D := lift (copB op x y S) S
def cutL {α : Type} (xs : List α) (lo hi : Option Int) : List α := (xs.drop (HT.sIx xs.length 0 lo)).take (HT.sIx xs.length xs.length hi - HT.sIx xs.length 0 lo)
def bop (op : Op2) (x y : D) (S : Sto) : Out D :=
  match op, x, y with
  | .add, .int i, .int j => ok (.int (i + j)) S
  | .sub, .int i, .int j => ok (.int (i - j)) S
  | .mul, .int i, .int j => if (-(2 ^ 64) < i ∧ i < 2 ^ 64) ∨ (-(2 ^ 64) < j ∧ j < 2 ^ 64) then ok (.int (i * j)) S else none
  | .fdiv, .int i, .int j => if 0 < j ∧ j < 1073741824 then ok (.int (i / j)) S else none
  | .mod, .int i, .int j => if 0 < j then ok (.int (i % j)) S else none
  | .pow, .int i, .int j => if 0 ≤ j ∧ j ≤ 1000000 ∧ i.natAbs < 2 ^ 64 then ok (.int (i ^ j.toNat)) S else none
  | .add, .str a, .str b => if a.length + b.length ≤ sizeLine then ok (.str (a ++ b)) S else none
  | .add, .tup a, .tup b => if a.length + b.length ≤ sizeLine then ok (.tup (a ++ b)) S else none
  | .add, .ref a, .ref b => match S[a]?, S[b]? with
    | some (.lst xs), some (.lst ys) => if xs.length + ys.length ≤ sizeLine then ok (.ref S.length) (S ++ [.lst (xs ++ ys)]) else none
    | _, _ => none
  | .mul, .str a, .int k => if 0 ≤ k ∧ k ≤ 1000 ∧ a.length ≤ 1000 then ok (.str ⟨(List.replicate k.toNat a.cps.toList).flatten.toArray⟩) S else none
  | _, _, _ => none
def augD (op : Op2) (x y : D) (S : Sto) : Out D :=
  match op, x, y with
  | .add, .int i, .int j => ok (.int (i + j)) S
  | .sub, .int i, .int j => ok (.int (i - j)) S
  | _, _, _ => none
def tru (x : D) (S : Sto) : Option Bool :=
  match x with
  | .non => some false
  | .bl b => some b
  | .int i => some (i != 0)
  | .str z => if z.length ≤ sizeLine then some ((z.length : Int) != 0) else none
  | .tup ds => some (!ds.isEmpty)
  | .fz ds => some (!ds.isEmpty)
  | .ref n => match S[n]? with
    | some (.lst ds) => some (!ds.isEmpty)
    | _ => none
def liftB (o : Option Bool) (S : Sto) : Out Bool := match o with
  | some b => ok b S
  | none => none
def idxD (x i : D) (S : Sto) : Out D :=
  match x, i with
  | .str z, .int i => if z.length ≤ sizeLine then (match L2.atI z.cps.toList i with | some c => ok (.str ⟨#[c]⟩) S | none => none) else none
  | x, .int i => match itemsOf S x with
    | some ds => (match L2.atI ds i with | some d => ok d S | none => none)
    | none => none
  | _, _ => none
def slD (x : D) (lo hi : Option Int) (S : Sto) : Out D :=
  match x with
  | .str z => if z.length ≤ sizeLine then ok (.str (L2.cutS z lo hi)) S else none
  | .tup ds => ok (.tup (cutL ds lo hi)) S
  | x => match itemsOf S x with
    | some ds => ok (.ref S.length) (S ++ [.lst (cutL ds lo hi)])
    | none => none
def revD (x : D) (S : Sto) : Out D :=
  match x with
  | .tup _ => none
  | x => match itemsOf S x with
    | some ds => ok (.ref S.length) (S ++ [.lst ds.reverse])
    | none => none
def lenD (x : D) (S : Sto) : Out D :=
  match x with
  | .str z => if z.length ≤ sizeLine then ok (.int z.length) S else none
  | x => match itemsOf S x with
    | some ds => ok (.int ds.length) S
    | none => none
def biD (b : Bi) (ds : List D) (S : Sto) : Out D :=
  match b, ds with
  | .len, [x] => lenD x S
  | .tuple, [.tup ds] => ok (.tup ds) S
  | .tuple, [x] => match itemsOf S x with
    | some ds => ok (.tup ds) S
    | none => none
  | .list, [x] => match itemsOf S x with
    | some ds => ok (.ref S.length) (S ++ [.lst ds])
    | none => none
  | _, _ => none
def bmD (m : Bm) (o : D) (ds : List D) (S : Sto) : Out D :=
  match m, o, ds with
  | .append, .ref n, [x] => match S[n]? with
    | some (.lst xs) => if xs.length < sizeLine then ok .non (S.set n (.lst (xs ++ [x]))) else none
    | _ => none
  | _, _, _ => none
def bmTy (m : Bm) (x : D) (S : Sto) : Bool :=
  match m with
  | _ => match x with
    | .ref n => match S[n]? with
      | some (.lst _) => true
      | _ => false
    | _ => false
inductive Kd where | non | bool | int | str | tuple | list
def kdOf (x : D) (S : Sto) : Option Kd :=
  match x with
  | .non => some .non
  | .bl _ => some .bool
  | .int _ => some .int
  | .str _ => some .str
  | .tup _ => some .tuple
  | .fz _ => some .list
  | .ref n => match S[n]? with
    | some (.lst _) => some .list
    | _ => none
def isKd : Ty → Kd → Bool
  | .int, .int => true | .int, .bool => true | .bool, .bool => true | .str, .str => true | .tuple, .tuple => true | .list, .list => true
  | _, _ => false
def isiD (t : Ty) (x : D) (S : Sto) : Option Bool := (kdOf x S).map (isKd t)

/-! ### walks -/
inductive It where
  | fix (ds : List D)
  | dyn (n : Nat)
/-- a step: on with a, or the end with b -/
def foldF {α β : Type} (f : D → α → Sto → Out (α ⊕ β)) : List D → α → Sto → Out (α ⊕ β)
  | [], a, S => ok (.inl a) S
  | d :: ds, a, S => bd (f d a S) fun r S1 => match r with
    | .inl a' => foldF f ds a' S1
    | .inr b => ok (.inr b) S1
def foldR {α β : Type} (f : D → α → Sto → Out (α ⊕ β)) (n : Nat) (i : Nat) (a : α) (S : Sto) : Out (α ⊕ β) :=
  match S[n]? with
  | some (.lst ds) =>
    match ds[i]? with
    | none => some (.ok (.inl a) S)
    | some d => match f d a S with
      | none => none
      | some (.ex c xs S1) => some (.ex c xs S1)
      | some (.ok (.inr b) S1) => some (.ok (.inr b) S1)
      | some (.ok (.inl a') S1) => foldR f n (i + 1) a' S1
  | _ => none
partial_fixpoint
def foldI {α β : Type} (f : D → α → Sto → Out (α ⊕ β)) (it : It) (a : α) (S : Sto) : Out (α ⊕ β) :=
  match it with
  | .fix ds => foldF f ds a S
  | .dyn n => foldR f n 0 a S
def setMany : List Nat → List D → Rho → Option Rho
  | [], [], ρ => some ρ
  | i :: is, d :: ds, ρ => setMany is ds (ρ.set i (some d))
  | _, _, _ => none
def bindT (tg : Tg) (d : D) (ρ : Rho) : Option Rho :=
  match tg with
  | .nm i => some (ρ.set i (some d))
  | .tp is => match d with
    | .tup ds => setMany is ds ρ
    | _ => none
def wipeR (ρ : Rho) : List Nat → Rho
  | [] => ρ
  | v :: vs => (wipeR ρ vs).set v none
inductive Fl where
  | nx (ρ : Rho) | brk (ρ : Rho) | cnt (ρ : Rho) | ret (d : D)
def whileL (c : Rho → Sto → Out Bool) (b : Rho → Sto → Out Fl) (ρ : Rho) (S : Sto) : Out Fl :=
  match c ρ S with
  | none => none
  | some (.ex x xs S1) => some (.ex x xs S1)
  | some (.ok false S1) => some (.ok (.nx ρ) S1)
  | some (.ok true S1) => match b ρ S1 with
    | none => none
    | some (.ex x xs S2) => some (.ex x xs S2)
    | some (.ok (.nx ρ') S2) => whileL c b ρ' S2
    | some (.ok (.cnt ρ') S2) => whileL c b ρ' S2
    | some (.ok (.brk ρ') S2) => some (.ok (.nx ρ') S2)
    | some (.ok (.ret d) S2) => some (.ok (.ret d) S2)
partial_fixpoint
/-- a for's turn, by what the body does -/
def forStep (tg : Tg) (b : Rho → Sto → Out Fl) (d : D) (ρ : Rho) (S : Sto) : Out (Rho ⊕ Fl) :=
  match bindT tg d ρ with
  | none => none
  | some ρ1 => bd (b ρ1 S) fun f S1 => match f with
    | .nx ρ2 => ok (.inl ρ2) S1
    | .cnt ρ2 => ok (.inl ρ2) S1
    | .brk ρ2 => ok (.inr (.nx ρ2)) S1
    | .ret d => ok (.inr (.ret d)) S1
def forEnd (r : Rho ⊕ Fl) (S : Sto) : Out Fl := match r with
  | .inl ρ => ok (.nx ρ) S
  | .inr f => ok f S

structure Orc where
  call : Nat → List D → Sto → Out D

mutual
def evE (F : Orc) : E → Rho → Sto → Out D
  | .var i, ρ, S => match ρ[i]? with
    | some (some d) => ok d S
    | _ => none
  | .non, _, S => ok .non S
  | .bl b, _, S => ok (.bl b) S
  | .int i, _, S => ok (.int i) S
  | .str x, _, S => ok (.str x) S
  | .gc _ d, _, S => ok d S
  | .tup es, ρ, S => bd (evEs F es ρ S) fun ds S1 => ok (.tup ds) S1
  | .lst es, ρ, S => bd (evEs F es ρ S) fun ds S1 => ok (.ref S1.length) (S1 ++ [.lst ds])
  | .bin op a b, ρ, S => bd (evE F a ρ S) fun x S1 => bd (evE F b ρ S1) fun y S2 => bop op x y S2
  | .neg a, ρ, S => bd (evE F a ρ S) fun x S1 => match x with
    | .int i => ok (.int (-i)) S1
    | _ => none
  | .cmp op a b, ρ, S => bd (evE F a ρ S) fun x S1 => bd (evE F b ρ S1) fun y S2 => cop op x y S2
  | .chain op op' a b c, ρ, S => bd (evE F a ρ S) fun x S1 => bd (evE F b ρ S1) fun y S2 => match copB op x y S2 with
    | some true => bd (evE F c ρ S2) fun z S3 => cop op' y z S3
    | some false => ok (.bl false) S2
    | none => none
  | .and a b, ρ, S => bd (evE F a ρ S) fun x S1 => match x with
    | .bl true => evE F b ρ S1
    | .bl false => ok (.bl false) S1
    | _ => none
  | .or a b, ρ, S => bd (evE F a ρ S) fun x S1 => match x with
    | .bl true => ok (.bl true) S1
    | .bl false => evE F b ρ S1
    | _ => none
  | .one a, ρ, S => evE F a ρ S
  | .not a, ρ, S => bd (evE F a ρ S) fun x S1 => match x with
    | .bl b => ok (.bl (!b)) S1
    | _ => none
  | .ite c a b, ρ, S => bd (evT F c ρ S) fun t S1 => match t with
    | true => evE F a ρ S1
    | false => evE F b ρ S1
  | .idx a i, ρ, S => bd (evE F a ρ S) fun x S1 => bd (evE F i ρ S1) fun y S2 => idxD x y S2
  | .sl a lo hi, ρ, S => bd (evE F a ρ S) fun x S1 => bd (evP F lo ρ S1) fun l S2 => bd (evP F hi ρ S2) fun h S3 => slD x l h S3
  | .rev a, ρ, S => bd (evE F a ρ S) fun x S1 => revD x S1
  | .call f es, ρ, S => bd (evEs F es ρ S) fun ds S1 => F.call f ds S1
  | .bi b es, ρ, S => bd (evEs F es ρ S) fun ds S1 => biD b ds S1
  | .bm m o es, ρ, S => bd (evE F o ρ S) fun x S1 => match bmTy m x S1 with
    | true => bd (evEs F es ρ S1) fun ds S2 => bmD m x ds S2
    | false => none
  | .isi a t, ρ, S => bd (evE F a ρ S) fun x S1 => lift (isiD t x S1) S1
  | .lrg a, ρ, S => bd (evE F a ρ S) fun x S1 => match x with
    | .int j => if -(2 ^ 62) ≤ j ∧ j < 2 ^ 62 ∧ j.toNat ≤ 2 ^ 24 then ok (.ref S1.length) (S1 ++ [.lst ((List.range j.toNat).map fun (k : Nat) => .int k)]) else none
    | _ => none
  | .lc elt tg it c own, ρ, S => bd (evI F it ρ S) fun i S1 =>
      bd (foldI (fun d acc S2 => match bindT tg d (wipeR ρ (own.map (·.2))) with
        | none => none
        | some ρ1 => bd (evT F c ρ1 S2) fun t S3 => match t with
          | true => bd (evE F elt ρ1 S3) fun y S4 => if acc.length < sizeLine then ok (.inl (acc ++ [y]) : List D ⊕ Empty) S4 else none
          | false => ok (.inl acc) S3) i [] S1) fun r S5 => match r with
        | .inl acc => ok (.ref S5.length) (S5 ++ [.lst acc])
        | .inr e => nomatch e
def evEs (F : Orc) : Es → Rho → Sto → Out (List D)
  | .nil, _, S => ok [] S
  | .cons e es, ρ, S => bd (evE F e ρ S) fun d S1 => bd (evEs F es ρ S1) fun ds S2 => ok (d :: ds) S2
def evP (F : Orc) : P → Rho → Sto → Out (Option Int)
  | .no, _, S => ok none S
  | .e e, ρ, S => bd (evE F e ρ S) fun x S1 => match x with
    | .int i => ok (some i) S1
    | _ => none
def evT (F : Orc) : T → Rho → Sto → Out Bool
  | .yes, _, S => ok true S
  | .v e, ρ, S => bd (evE F e ρ S) fun x S1 => liftB (tru x S1) S1
  | .cmp op a b, ρ, S => bd (evE F a ρ S) fun x S1 => bd (evE F b ρ S1) fun y S2 => liftB (copB op x y S2) S2
  | .chain op op' a b c, ρ, S => bd (evE F a ρ S) fun x S1 => bd (evE F b ρ S1) fun y S2 => match copB op x y S2 with
    | some true => bd (evE F c ρ S2) fun z S3 => liftB (copB op' y z S3) S3
    | some false => ok false S2
    | none => none
  | .not t, ρ, S => bd (evT F t ρ S) fun b S1 => ok (!b) S1
  | .and a b, ρ, S => bd (evT F a ρ S) fun t S1 => match t with
    | true => evT F b ρ S1
    | false => ok false S1
  | .or a b, ρ, S => bd (evT F a ρ S) fun t S1 => match t with
    | true => ok true S1
    | false => evT F b ρ S1
  | .one a, ρ, S => evT F a ρ S
def evI (F : Orc) : I → Rho → Sto → Out It
  | .seq e, ρ, S => bd (evE F e ρ S) fun x S1 => match x with
    | .tup ds => ok (.fix ds) S1
    | .fz ds => ok (.fix ds) S1
    | .str z => ok (.fix (z.cps.toList.map fun c => .str ⟨#[c]⟩)) S1
    | .ref n => match S1[n]? with
      | some (.lst _) => ok (.dyn n) S1
      | _ => none
    | _ => none
  | .rng1 a, ρ, S => bd (evE F a ρ S) fun x S1 => match x with
    | .int j => if -(2 ^ 62) ≤ j ∧ j < 2 ^ 62 then ok (.fix ((List.range j.toNat).map fun (k : Nat) => .int k)) S1 else none
    | _ => none
  | .rng2 a b, ρ, S => bd (evE F a ρ S) fun x S1 => bd (evE F b ρ S1) fun y S2 => match x, y with
    | .int i, .int j => if -(2 ^ 62) ≤ i ∧ i < 2 ^ 62 ∧ -(2 ^ 62) ≤ j ∧ j < 2 ^ 62 then ok (.fix ((List.range (j - i).toNat).map fun (k : Nat) => .int (i + k))) S2 else none
    | _, _ => none
end

def setiD (o i v : D) (S : Sto) : Option Sto :=
  match o, i with
  | .ref n, .int k => match S[n]? with
    | some (.lst xs) => match L2.ixN xs.length k with
      | some j => some (S.set n (.lst (xs.set j v)))
      | none => none
    | _ => none
  | _, _ => none

mutual
def exC (F : Orc) : C → Rho → Sto → Out Fl
  | .pass, ρ, S => ok (.nx ρ) S
  | .brk, ρ, S => ok (.brk ρ) S
  | .cnt, ρ, S => ok (.cnt ρ) S
  | .set i e, ρ, S => bd (evE F e ρ S) fun d S1 => ok (.nx (ρ.set i (some d))) S1
  | .asg tg e, ρ, S => bd (evE F e ρ S) fun d S1 => match bindT tg d ρ with
    | some ρ1 => ok (.nx ρ1) S1
    | none => none
  | .aug i op e, ρ, S => match ρ[i]? with
    | some (some x) => bd (evE F e ρ S) fun y S1 => bd (augD op x y S1) fun z S2 => ok (.nx (ρ.set i (some z))) S2
    | _ => none
  | .seti o i e, ρ, S => bd (evE F e ρ S) fun v S1 => bd (evE F o ρ S1) fun x S2 => bd (evE F i ρ S2) fun y S3 => match setiD x y v S3 with
    | some S4 => ok (.nx ρ) S4
    | none => none
  | .ex e, ρ, S => bd (evE F e ρ S) fun _ S1 => ok (.nx ρ) S1
  | .ret e, ρ, S => bd (evE F e ρ S) fun d S1 => ok (.ret d) S1
  | .retn, _, S => ok (.ret .non) S
  | .ife c a b, ρ, S => bd (evT F c ρ S) fun t S1 => match t with
    | true => exCs F a ρ S1
    | false => exCs F b ρ S1
  | .whl c b, ρ, S => whileL (fun ρ S => evT F c ρ S) (fun ρ S => exCs F b ρ S) ρ S
  | .for_ tg it b, ρ, S => bd (evI F it ρ S) fun i S1 => bd (foldI (forStep tg fun ρ S => exCs F b ρ S) i ρ S1) fun r S2 => forEnd r S2
def exCs (F : Orc) : Cs → Rho → Sto → Out Fl
  | .nil, ρ, S => ok (.nx ρ) S
  | .cons c cs, ρ, S => bd (exC F c ρ S) fun f S1 => match f with
    | .nx ρ1 => exCs F cs ρ1 S1
    | .brk ρ1 => ok (.brk ρ1) S1
    | .cnt ρ1 => ok (.cnt ρ1) S1
    | .ret d => ok (.ret d) S1
end

/-- a def: its parameters, its slots, its body -/
structure Fd where
  np : Nat
  ns : Nat
  body : Cs
def callN (tbl : List (Nat × Fd)) : Nat → Nat → List D → Sto → Out D
  | 0, _, _, _ => none
  | k + 1, f, ds, S => match tbl.lookup f with
    | none => none
    | some fd => if ds.length = fd.np then
        bd (exCs ⟨callN tbl k⟩ fd.body (ds.map some ++ List.replicate (fd.ns - fd.np) none) S) fun r S1 => match r with
          | .ret d => ok d S1
          | .nx _ => ok .non S1
          | _ => none
      else none
end VM
/-! VB: how values and stores lie in the layer's abstract heap; reading of expressions. -/
namespace VM
open PySem PySem.Spec PyProof.Rows L2

/-! ### representation -/
/-- a frozen list -/
def Fz (K : PySem.W.Frag) (H : Hp) (js : List Addr) (a : Addr) (xs : List V) : Prop := (∃ o, H a = some (.frz o (.lst xs)) ∧ a ∉ js) ∨
    ∃ (o : Obj) (its : Array Value) (n : Nat), K.lookup a = some o ∧ o.cls = .type "list" ∧ o.dict = none ∧ o.data = .seq its n ∧ its.size ≤ sizeLine ∧ Vals xs its.toList
theorem Fz.sq {K : PySem.W.Frag} {H : Hp} {js : List Addr} {a : Addr} {xs : List V} (h : Fz K H js a xs) : SqL K H a xs := by
  rcases h with ⟨o, h, _⟩ | h
  · exact .inl (.inr ⟨o, h⟩)
  · exact .inr h
mutual
inductive RepV (K : PySem.W.Frag) (H : Hp) (js : List Addr) : D → V → Prop where
  | non : RepV K H js .non .non
  | bl (b : Bool) : RepV K H js (.bl b) (.bl b)
  | int (i : Int) : RepV K H js (.int i) (.int i)
  | str (x : Str) : RepV K H js (.str x) (.str x)
  | tup {ds : List D} {a : Addr} {xs : List V} (h : H a = some (.tup xs)) (n : a ∉ js) (r : RepVs K H js ds xs) : RepV K H js (.tup ds) (.ref a)
  | ref {n : Nat} {a : Addr} (h : js[n]? = some a) : RepV K H js (.ref n) (.ref a)
  | fz {ds : List D} {a : Addr} {xs : List V} (h : Fz K H js a xs) (r : RepVs K H js ds xs) : RepV K H js (.fz ds) (.ref a)
inductive RepVs (K : PySem.W.Frag) (H : Hp) (js : List Addr) : List D → List V → Prop where
  | nil : RepVs K H js [] []
  | cons {d : D} {v : V} {ds : List D} {vs : List V} (h : RepV K H js d v) (t : RepVs K H js ds vs) : RepVs K H js (d :: ds) (v :: vs)
end
structure Grow (H : Hp) (js : List Addr) (H' : Hp) (js' : List Addr) : Prop where
  pre : ∃ new, js' = js ++ new ∧ ∀ a ∈ new, a ∉ js ∧ H a = none
  keep : ∀ a o, a ∉ js → H a = some o → H' a = some o

section
variable {K : PySem.W.Frag} {H H1 H2 : Hp} {js js1 js2 : List Addr}
theorem Grow.refl : Grow H js H js := ⟨⟨[], by simp, by simp⟩, fun _ _ _ h => h⟩
theorem Grow.notin (g : Grow H js H1 js1) {a : Addr} {o : HO} (n : a ∉ js) (h : H a = some o) : a ∉ js1 := by
  obtain ⟨new, rfl, hn⟩ := g.pre
  intro m
  rcases List.mem_append.mp m with m | m
  · exact n m
  · rw [(hn a m).2] at h; cases h
theorem Grow.trans (g : Grow H js H1 js1) (g' : Grow H1 js1 H2 js2) : Grow H js H2 js2 := by
  obtain ⟨new, e, hn⟩ := g.pre
  obtain ⟨new', e', hn'⟩ := g'.pre
  refine ⟨⟨new ++ new', by rw [e', e, List.append_assoc], fun a ha => ?_⟩, fun a o n h => g'.keep a o (g.notin n h) (g.keep a o n h)⟩
  rcases List.mem_append.mp ha with m | m
  · exact hn a m
  · obtain ⟨n1, z⟩ := hn' a m
    have n0 : a ∉ js := fun q => n1 (by rw [e]; exact List.mem_append_left _ q)
    refine ⟨n0, ?_⟩
    cases q : H a with
    | none => rfl
    | some o =>
      have := g.keep a o n0 q
      rw [z] at this; cases this
theorem Grow.at (g : Grow H js H1 js1) {n : Nat} {a : Addr} (h : js[n]? = some a) : js1[n]? = some a := by
  obtain ⟨new, rfl, _⟩ := g.pre
  rw [List.getElem?_append_left (List.getElem?_eq_some_iff.mp h).1]
  exact h
theorem Fz.mono {a : Addr} {xs : List V} (h : Fz K H js a xs) (g : Grow H js H1 js1) : Fz K H1 js1 a xs := by
  rcases h with ⟨o, h, n⟩ | h
  · exact .inl ⟨o, g.keep _ _ n h, g.notin n h⟩
  · exact .inr h
mutual
theorem RepV.mono (g : Grow H js H1 js1) : ∀ {d : D} {v : V}, RepV K H js d v → RepV K H1 js1 d v
  | _, _, .non => .non
  | _, _, .bl b => .bl b
  | _, _, .int i => .int i
  | _, _, .str x => .str x
  | _, _, .tup h n r => .tup (g.keep _ _ n h) (g.notin n h) (RepVs.mono g r)
  | _, _, .ref h => .ref (g.at h)
  | _, _, .fz h r => .fz (h.mono g) (RepVs.mono g r)
theorem RepVs.mono (g : Grow H js H1 js1) : ∀ {ds : List D} {vs : List V}, RepVs K H js ds vs → RepVs K H1 js1 ds vs
  | _, _, .nil => .nil
  | _, _, .cons h t => .cons (RepV.mono g h) (RepVs.mono g t)
end
theorem RepVs.length : ∀ {ds : List D} {vs : List V}, RepVs K H js ds vs → ds.length = vs.length
  | _, _, .nil => rfl
  | _, _, .cons h t => by rw [List.length_cons, List.length_cons, RepVs.length t]
theorem RepVs.get : ∀ {ds : List D} {vs : List V} {i : Nat} {d : D}, RepVs K H js ds vs → ds[i]? = some d → ∃ v, vs[i]? = some v ∧ RepV K H js d v
  | _, _, _, _, .nil, e => by simp at e
  | _, _, 0, _, .cons h t, e => by simp at e; subst e; exact ⟨_, rfl, h⟩
  | _, _, i + 1, d, .cons h t, e => by
    obtain ⟨v, h1, h2⟩ := RepVs.get (i := i) (d := d) t (by simpa using e)
    exact ⟨v, by simpa using h1, h2⟩
theorem RepVs.append : ∀ {ds es : List D} {vs ws : List V}, RepVs K H js ds vs → RepVs K H js es ws → RepVs K H js (ds ++ es) (vs ++ ws)
  | _, _, _, _, .nil, s => s
  | _, _, _, _, .cons h t, s => .cons h (RepVs.append t s)
theorem RepVs.take : ∀ {ds : List D} {vs : List V} (n : Nat), RepVs K H js ds vs → RepVs K H js (ds.take n) (vs.take n)
  | _, _, 0, _ => .nil
  | _, _, _ + 1, .nil => .nil
  | _, _, n + 1, .cons h t => .cons h (RepVs.take n t)
theorem RepVs.drop : ∀ {ds : List D} {vs : List V} (n : Nat), RepVs K H js ds vs → RepVs K H js (ds.drop n) (vs.drop n)
  | _, _, 0, r => r
  | _, _, _ + 1, .nil => .nil
  | _, _, n + 1, .cons _ t => RepVs.drop n t
theorem RepVs.set {d : D} {v : V} (h : RepV K H js d v) : ∀ {ds : List D} {vs : List V} (i : Nat), RepVs K H js ds vs → RepVs K H js (ds.set i d) (vs.set i v)
  | _, _, _, .nil => .nil
  | _, _, 0, .cons _ t => .cons h t
  | _, _, i + 1, .cons q t => .cons q (RepVs.set h i t)
theorem RepVs.reverse {ds : List D} {vs : List V} (r : RepVs K H js ds vs) : RepVs K H js ds.reverse vs.reverse := by
  induction ds generalizing vs with
  | nil => cases r; exact .nil
  | cons d ds ih =>
    cases r with
    | cons h t => rw [List.reverse_cons, List.reverse_cons]; exact (ih t).append (.cons h .nil)
theorem RepVs.ints {ns : List Int} : RepVs K H js (ns.map D.int) (ns.map V.int) := by
  induction ns with
  | nil => exact .nil
  | cons n ns ih => exact .cons (.int n) ih
theorem RepVs.of_ints : ∀ {ds : List D} {ns : List Int} {vs : List V}, ds = ns.map D.int → RepVs K H js ds vs → vs = ns.map V.int
  | _, [], _, e, r => by subst e; cases r; rfl
  | _, n :: ns, _, e, r => by
    subst e
    cases r with
    | cons h t => cases h; rw [List.map_cons, RepVs.of_ints rfl t]
end

/-- an object of the store -/
def RepO (K : PySem.W.Frag) (H : Hp) (js : List Addr) : O → Option HO → Prop
  | .lst ds, some (.lst xs) => RepVs K H js ds xs
  | _, _ => False
structure RelS (K : PySem.W.Frag) (H : Hp) (js : List Addr) (S : Sto) : Prop where
  len : js.length = S.length
  nd : js.Nodup
  obj : ∀ (n : Nat) (a : Addr) (o : O), js[n]? = some a → S[n]? = some o → RepO K H js o (H a)
/-- the slots -/
structure RepR (K : PySem.W.Frag) (H : Hp) (js : List Addr) (ρ : Rho) (σ : L2.St) : Prop where
  len : ρ.length = σ.length
  at_ : ∀ (i : Nat) (d : D), ρ[i]? = some (some d) → ∃ v, σ[i]? = some (some v) ∧ RepV K H js d v

section
variable {K : PySem.W.Frag} {H H1 H2 : Hp} {js js1 js2 : List Addr} {S S1 : Sto}
theorem RepO.lst {ds : List D} {o : Option HO} (h : RepO K H js (.lst ds) o) : ∃ xs, o = some (.lst xs) ∧ RepVs K H js ds xs := by
  unfold RepO at h
  split at h
  · rename_i e; cases e; exact ⟨_, rfl, h⟩
  · exact h.elim
theorem RepO.held {o : O} {h : Option HO} (r : RepO K H js o h) : ∃ u, h = some u ∧ ∀ xs, u ≠ .tup xs := by
  unfold RepO at r
  split at r
  · exact ⟨_, rfl, fun _ e => nomatch e⟩
  · exact r.elim
theorem RepO.mono {o : O} {h : Option HO} (r : RepO K H js o h) (g : Grow H js H1 js1) : RepO K H1 js1 o h := by
  unfold RepO at r
  split at r
  · exact RepVs.mono g r
  · exact r.elim
theorem RelS.at (r : RelS K H js S) {n : Nat} {o : O} (h : S[n]? = some o) : ∃ a, js[n]? = some a ∧ RepO K H js o (H a) := by
  have hn : n < js.length := by rw [r.len]; exact (List.getElem?_eq_some_iff.mp h).1
  exact ⟨js[n], List.getElem?_eq_getElem hn, r.obj n _ o (List.getElem?_eq_getElem hn) h⟩
theorem RelS.held (r : RelS K H js S) {a : Addr} (h : a ∈ js) : ∃ u, H a = some u ∧ ∀ xs, u ≠ .tup xs := by
  obtain ⟨n, hn, e⟩ := List.getElem_of_mem h
  have hS : n < S.length := by rw [← r.len]; exact hn
  exact (r.obj n a S[n] (by rw [List.getElem?_eq_getElem hn, e]) (List.getElem?_eq_getElem hS)).held
theorem RelS.fresh (r : RelS K H js S) {p : Addr} (h : H p = none) : p ∉ js := fun m => by
  obtain ⟨u, e, _⟩ := r.held m
  rw [h] at e; cases e
theorem RelS.list (r : RelS K H js S) {n : Nat} {ds : List D} (h : S[n]? = some (.lst ds)) : ∃ a xs, js[n]? = some a ∧ H a = some (.lst xs) ∧ RepVs K H js ds xs := by
  obtain ⟨a, e, q⟩ := r.at h
  obtain ⟨xs, e2, q2⟩ := q.lst
  exact ⟨a, xs, e, e2, q2⟩
/-- a thing laid that the store does not hold -/
theorem Grow.lay (r : RelS K H js S) {p : Addr} {o : HO} (h : H p = none) : Grow H js (upd H p o) js :=
  ⟨⟨[], by simp, by simp⟩, fun a u _ e => by rw [upd_ne (ne_of_none e h)]; exact e⟩
theorem RelS.lay (r : RelS K H js S) {p : Addr} {o : HO} (h : H p = none) : RelS K (upd H p o) js S :=
  ⟨r.len, r.nd, fun n a o' e e' => by
    have q := (r.obj n a o' e e')
    obtain ⟨u, eu, _⟩ := q.held
    have na : a ≠ p := ne_of_none eu h
    rw [upd_ne na]
    exact q.mono (Grow.lay r h)⟩
/-- a new object of the store -/
theorem Grow.new (r : RelS K H js S) {p : Addr} {o : HO} (h : H p = none) : Grow H js (upd H p o) (js ++ [p]) :=
  ⟨⟨[p], rfl, fun a m => by
    have e : a = p := by simpa using m
    subst e
    exact ⟨r.fresh h, h⟩⟩, fun a u _ e => by rw [upd_ne (ne_of_none e h)]; exact e⟩
theorem RelS.new (r : RelS K H js S) {p : Addr} {ds : List D} {xs : List V} (h : H p = none) (q : RepVs K H js ds xs) : RelS K (upd H p (.lst xs)) (js ++ [p]) (S ++ [.lst ds]) := by
  have g : Grow H js (upd H p (.lst xs)) (js ++ [p]) := Grow.new r h
  refine ⟨by rw [List.length_append, List.length_append, r.len]; rfl, ?_, fun n a o e e' => ?_⟩
  · refine List.nodup_append.mpr ⟨r.nd, by simp, fun a ha b hb => ?_⟩
    have e : b = p := by simpa using hb
    subst e
    intro e
    subst e
    exact r.fresh h ha
  · by_cases hn : n < js.length
    · rw [List.getElem?_append_left hn] at e
      rw [List.getElem?_append_left (by rw [← r.len]; exact hn)] at e'
      have q' := r.obj n a o e e'
      obtain ⟨u, eu, _⟩ := q'.held
      rw [upd_ne (ne_of_none eu h)]
      exact q'.mono g
    · have hn' : n = js.length := by
        have := (List.getElem?_eq_some_iff.mp e).1
        rw [List.length_append] at this
        simp at this
        omega
      subst hn'
      rw [List.getElem?_append_right (Nat.le_refl _)] at e
      simp at e
      subst e
      rw [r.len, List.getElem?_append_right (Nat.le_refl _)] at e'
      simp at e'
      subst e'
      rw [upd_same]
      exact q.mono g
/-- a list of the store written -/
theorem Grow.put (r : RelS K H js S) {n : Nat} {a : Addr} {o : HO} (e : js[n]? = some a) : Grow H js (upd H a o) js :=
  ⟨⟨[], by simp, by simp⟩, fun b u nb h => by
    have : b ≠ a := fun q => nb (by rw [q]; exact List.mem_of_getElem? e)
    rw [upd_ne this]; exact h⟩
theorem RelS.put (r : RelS K H js S) {n : Nat} {a : Addr} {ds : List D} {xs : List V} (e : js[n]? = some a) (q : RepVs K H js ds xs) : RelS K (upd H a (.lst xs)) js (S.set n (.lst ds)) := by
  have g : Grow H js (upd H a (.lst xs)) js := Grow.put r e
  refine ⟨by rw [List.length_set]; exact r.len, r.nd, fun m b o e1 e2 => ?_⟩
  by_cases hm : m = n
  · subst hm
    rw [e] at e1; cases e1
    have hl : m < S.length := by rw [← r.len]; exact (List.getElem?_eq_some_iff.mp e).1
    rw [List.getElem?_set_self hl] at e2; cases e2
    rw [upd_same]
    exact q.mono g
  · rw [List.getElem?_set_ne (Ne.symm hm)] at e2
    have q' := r.obj m b o e1 e2
    have nb : b ≠ a := fun z => by
      subst z
      obtain ⟨h1, x1⟩ := List.getElem?_eq_some_iff.mp e
      obtain ⟨h2, x2⟩ := List.getElem?_eq_some_iff.mp e1
      exact hm ((List.getElem_inj r.nd).mp (x2.trans x1.symm))
    rw [upd_ne nb]
    exact q'.mono g
theorem RepR.mono {ρ : Rho} {σ : L2.St} (r : RepR K H js ρ σ) (g : Grow H js H1 js1) : RepR K H1 js1 ρ σ :=
  ⟨r.len, fun i d e => let ⟨v, h1, h2⟩ := r.at_ i d e; ⟨v, h1, h2.mono g⟩⟩
theorem RepR.set {ρ : Rho} {σ : L2.St} (r : RepR K H js ρ σ) {d : D} {v : V} (h : RepV K H js d v) (i : Nat) : RepR K H js (ρ.set i (some d)) (σ.set i (some v)) := by
  refine ⟨by rw [List.length_set, List.length_set]; exact r.len, fun j e q => ?_⟩
  by_cases hj : j = i
  · subst hj
    have hl : j < ρ.length := by
      have := (List.getElem?_eq_some_iff.mp q).1
      rw [List.length_set] at this; exact this
    rw [List.getElem?_set_self hl] at q
    cases q
    exact ⟨v, List.getElem?_set_self (by rw [← r.len]; exact hl), h⟩
  · rw [List.getElem?_set_ne (Ne.symm hj)] at q
    rw [List.getElem?_set_ne (Ne.symm hj)]
    exact r.at_ j e q
theorem RepR.unset {ρ : Rho} {σ : L2.St} (r : RepR K H js ρ σ) (i : Nat) : RepR K H js (ρ.set i none) (σ.set i none) := by
  refine ⟨by rw [List.length_set, List.length_set]; exact r.len, fun j e q => ?_⟩
  by_cases hj : j = i
  · subst hj
    have hl : j < ρ.length := by
      have := (List.getElem?_eq_some_iff.mp q).1
      rw [List.length_set] at this; exact this
    rw [List.getElem?_set_self hl] at q
    cases q
  · rw [List.getElem?_set_ne (Ne.symm hj)] at q
    rw [List.getElem?_set_ne (Ne.symm hj)]
    exact r.at_ j e q
theorem RepR.wipe {ρ : Rho} {σ : L2.St} (r : RepR K H js ρ σ) : ∀ vs : List Nat, RepR K H js (wipeR ρ vs) (wipe σ vs)
  | [] => r
  | v :: vs => (RepR.wipe r vs).unset v
end

/-! ### what a run asks of what follows -/
/-- a value comes -/
def OkE (K : PySem.W.Frag) (H : Hp) (js : List Addr) (o : Out D) (Q : VK) : Prop :=
  match o with
  | some (.ok d S') => ∀ v H' js', Grow H js H' js' → RelS K H' js' S' → RepV K H' js' d v → Q v H'
  | _ => False
def OkA (K : PySem.W.Frag) (H : Hp) (js : List Addr) (o : Out (List D)) (Q : List V → Hp → Prop) : Prop :=
  match o with
  | some (.ok d S') => ∀ v H' js', Grow H js H' js' → RelS K H' js' S' → RepVs K H' js' d v → Q v H'
  | _ => False
/-- a plain thing comes -/
def OkX {α : Type} (K : PySem.W.Frag) (H : Hp) (js : List Addr) (o : Out α) (Q : α → Hp → Prop) : Prop :=
  match o with
  | some (.ok d S') => ∀ H' js', Grow H js H' js' → RelS K H' js' S' → Q d H'
  | _ => False
section
variable {K : PySem.W.Frag} {H H1 : Hp} {js js1 : List Addr} {S : Sto} {α : Type}
theorem bd_ok {α β : Type} (a : α) (S : Sto) (f : α → Sto → Out β) : bd (some (.ok a S)) f = f a S := rfl
theorem bd_of {α β : Type} {m : Out α} {f : α → Sto → Out β} {P : Out β → Prop} (h : P (bd m f)) (hn : ¬ P none) (hx : ∀ c xs S, ¬ P (some (.ex c xs S))) : ∃ a S, m = some (.ok a S) ∧ P (f a S) := by
  cases m with
  | none => exact (hn h).elim
  | some r =>
    cases r with
    | ok a S => exact ⟨a, S, rfl, h⟩
    | ex c xs S => exact (hx _ _ _ h).elim
theorem OkE.bd {m : Out α} {f : α → Sto → Out D} {Q : VK} (h : OkE K H js (bd m f) Q) : ∃ a S, m = some (.ok a S) ∧ OkE K H js (f a S) Q := bd_of (P := fun o => OkE K H js o Q) h (fun z => z) fun _ _ _ z => z
theorem OkA.bd {m : Out α} {f : α → Sto → Out (List D)} {Q : List V → Hp → Prop} (h : OkA K H js (bd m f) Q) : ∃ a S, m = some (.ok a S) ∧ OkA K H js (f a S) Q := bd_of (P := fun o => OkA K H js o Q) h (fun z => z) fun _ _ _ z => z
theorem OkX.bd {β : Type} {m : Out α} {f : α → Sto → Out β} {Q : β → Hp → Prop} (h : OkX K H js (bd m f) Q) : ∃ a S, m = some (.ok a S) ∧ OkX K H js (f a S) Q := bd_of (P := fun o => OkX K H js o Q) h (fun z => z) fun _ _ _ z => z
theorem OkE.mono {o : Out D} {Q : VK} (h : OkE K H js o Q) (g : Grow H js H1 js1) : OkE K H1 js1 o Q := by
  unfold OkE at h ⊢
  split at h
  · exact fun v H' js' g' => h v H' js' (g.trans g')
  · exact h.elim
theorem OkA.mono {o : Out (List D)} {Q : List V → Hp → Prop} (h : OkA K H js o Q) (g : Grow H js H1 js1) : OkA K H1 js1 o Q := by
  unfold OkA at h ⊢
  split at h
  · exact fun v H' js' g' => h v H' js' (g.trans g')
  · exact h.elim
theorem OkX.mono {o : Out α} {Q : α → Hp → Prop} (h : OkX K H js o Q) (g : Grow H js H1 js1) : OkX K H1 js1 o Q := by
  unfold OkX at h ⊢
  split at h
  · exact fun H' js' g' => h H' js' (g.trans g')
  · exact h.elim
/-- the value as it is -/
theorem OkE.pure {d : D} {Q : VK} {v : V} (h : OkE K H js (ok d S) Q) (r : RelS K H js S) (q : RepV K H js d v) : Q v H := h v H js Grow.refl r q
theorem OkX.pure {d : α} {Q : α → Hp → Prop} (h : OkX K H js (ok d S) Q) (r : RelS K H js S) : Q d H := h H js Grow.refl r
/-- a new tuple -/
theorem OkE.tup {ds : List D} {Q : VK} {vs : List V} {p : Addr} (h : OkE K H js (ok (.tup ds) S) Q) (r : RelS K H js S) (q : RepVs K H js ds vs) (hp : H p = none) : Q (.ref p) (upd H p (.tup vs)) :=
  h _ _ js (Grow.lay r hp) (r.lay hp) (.tup upd_same (r.fresh hp) (q.mono (Grow.lay r hp)))
/-- a new list -/
theorem OkE.lst {ds : List D} {Q : VK} {vs : List V} {p : Addr} (h : OkE K H js (ok (.ref S.length) (S ++ [.lst ds])) Q) (r : RelS K H js S) (q : RepVs K H js ds vs) (hp : H p = none) : Q (.ref p) (upd H p (.lst vs)) :=
  h _ _ (js ++ [p]) (Grow.new r hp) (r.new hp q) (.ref (by rw [← r.len]; simp))
end

/-- the readings -/
def rdE (K : PySem.W.Frag) (F : Orc) (e : E) : TE := fun σ H Q => ∃ js S ρ, RelS K H js S ∧ RepR K H js ρ σ ∧ OkE K H js (evE F e ρ S) Q
def rdEs (K : PySem.W.Frag) (F : Orc) (e : Es) : TA := fun σ H Q => ∃ js S ρ, RelS K H js S ∧ RepR K H js ρ σ ∧ OkA K H js (evEs F e ρ S) Q
def rdT (K : PySem.W.Frag) (F : Orc) (e : T) : TT := fun σ H Q => ∃ js S ρ, RelS K H js S ∧ RepR K H js ρ σ ∧ OkX K H js (evT F e ρ S) Q
def rdP (K : PySem.W.Frag) (F : Orc) (e : P) : TO := fun σ H Q => ∃ js S ρ, RelS K H js S ∧ RepR K H js ρ σ ∧ OkX K H js (evP F e ρ S) Q
section
variable {K : PySem.W.Frag} {H : Hp} {js : List Addr} {S S1 : Sto} {F : Orc} {ρ : Rho} {σ : L2.St}
theorem rdE.of {e : E} {x : D} {Q : VK} (h : evE F e ρ S = some (.ok x S1)) (rs : RelS K H js S) (rr : RepR K H js ρ σ) (q : ∀ v H1 js1, Grow H js H1 js1 → RelS K H1 js1 S1 → RepV K H1 js1 x v → Q v H1) : rdE K F e σ H Q :=
  ⟨js, S, ρ, rs, rr, by rw [h]; exact q⟩
theorem rdEs.of {e : Es} {x : List D} {Q : List V → Hp → Prop} (h : evEs F e ρ S = some (.ok x S1)) (rs : RelS K H js S) (rr : RepR K H js ρ σ) (q : ∀ v H1 js1, Grow H js H1 js1 → RelS K H1 js1 S1 → RepVs K H1 js1 x v → Q v H1) : rdEs K F e σ H Q :=
  ⟨js, S, ρ, rs, rr, by rw [h]; exact q⟩
theorem rdT.of {e : T} {x : Bool} {Q : Bool → Hp → Prop} (h : evT F e ρ S = some (.ok x S1)) (rs : RelS K H js S) (rr : RepR K H js ρ σ) (q : ∀ H1 js1, Grow H js H1 js1 → RelS K H1 js1 S1 → Q x H1) : rdT K F e σ H Q :=
  ⟨js, S, ρ, rs, rr, by rw [h]; exact q⟩
theorem rdP.of {e : P} {x : Option Int} {Q : Option Int → Hp → Prop} (h : evP F e ρ S = some (.ok x S1)) (rs : RelS K H js S) (rr : RepR K H js ρ σ) (q : ∀ H1 js1, Grow H js H1 js1 → RelS K H1 js1 S1 → Q x H1) : rdP K F e σ H Q :=
  ⟨js, S, ρ, rs, rr, by rw [h]; exact q⟩
end
end VM
/-! VC: the operations by values, over the layer. -/
namespace VM
open PySem PySem.Spec PyProof.Rows L2

section
variable {K : PySem.W.Frag} {H : Hp} {js : List Addr} {S : Sto}
theorem itemsOf_seq {x : D} {ds : List D} {v : V} (h : itemsOf S x = some ds) (rs : RelS K H js S) (r : RepV K H js x v) :
    ∃ a xs, v = .ref a ∧ RepVs K H js ds xs ∧ ((H a = some (.tup xs) ∧ x = .tup ds) ∨ (SqL K H a xs ∧ ∀ es, x ≠ .tup es)) := by
  cases r with
  | tup h1 n q => cases h; exact ⟨_, _, rfl, q, .inl ⟨h1, rfl⟩⟩
  | fz h1 q => cases h; exact ⟨_, _, rfl, q, .inr ⟨h1.sq, fun _ e => nomatch e⟩⟩
  | @ref n a h1 =>
    have h : (match S[n]? with
      | some (.lst ds) => some ds
      | _ => none) = some ds := h
    split at h
    · rename_i e2
      cases h
      obtain ⟨a', xs, e3, e4, e5⟩ := rs.list e2
      rw [h1] at e3; cases e3
      exact ⟨a, xs, rfl, e5, .inr ⟨.inl (.inl e4), fun _ e => nomatch e⟩⟩
    · cases h
  | _ => cases h
theorem itemsOf_any {x : D} {ds : List D} {v : V} (h : itemsOf S x = some ds) (rs : RelS K H js S) (r : RepV K H js x v) :
    ∃ a xs, v = .ref a ∧ RepVs K H js ds xs ∧ (SqL K H a xs ∨ SqT K H a xs) := by
  obtain ⟨a, xs, e, q, h⟩ := itemsOf_seq h rs r
  rcases h with ⟨h, _⟩ | ⟨h, _⟩
  · exact ⟨a, xs, e, q, .inr (.inl (.inl h))⟩
  · exact ⟨a, xs, e, q, .inl h⟩

/-! ### data -/
theorem mapO_rep {f : D → Option PyData} {n : Nat} (hf : ∀ d v p, f d = some p → RepV K H js d v → Dp K H v p ∧ p.plain = true ∧ p.depth ≤ n) :
    ∀ {ds : List D} {vs : List V} {ps : List PyData}, mapO f ds = some ps → RepVs K H js ds vs → DpAll K H vs ps ∧ PyData.plainAll ps = true ∧ PyData.depthAll ps ≤ n
  | [], _, _, e, .nil => by cases e; exact ⟨.nil, rfl, by simp [PyData.depthAll]⟩
  | d :: ds, _, ps, e, .cons h t => by
    unfold mapO at e
    split at e
    · rename_i p q e1 e2
      cases e
      obtain ⟨a1, a2, a3⟩ := hf _ _ _ e1 h
      obtain ⟨b1, b2, b3⟩ := mapO_rep hf e2 t
      refine ⟨.cons a1 b1, by rw [PyData.plainAll, a2, b2]; rfl, ?_⟩
      simp only [PyData.depthAll]
      omega
    · cases e
theorem toP_rep (rs : RelS K H js S) : ∀ (n : Nat) (d : D) (v : V) (p : PyData), toP S n d = some p → RepV K H js d v → Dp K H v p ∧ p.plain = true ∧ p.depth ≤ n := by
  intro n
  induction n with
  | zero =>
    intro d v p e r
    cases r <;> (unfold toP at e; cases e) <;> first
      | exact ⟨.non, rfl, by simp [PyData.depth]⟩
      | exact ⟨.bl _, rfl, by simp [PyData.depth]⟩
      | exact ⟨.int _, rfl, by simp [PyData.depth]⟩
      | exact ⟨.str _, rfl, by simp [PyData.depth]⟩
  | succ n ih =>
    intro d v p e r
    have flat : ∀ (a b : Nat), a ≤ b → a ≤ b := fun _ _ h => h
    cases r with
    | non => unfold toP at e; cases e; exact ⟨.non, rfl, by simp [PyData.depth]⟩
    | bl b => unfold toP at e; cases e; exact ⟨.bl _, rfl, by simp [PyData.depth]⟩
    | int i => unfold toP at e; cases e; exact ⟨.int _, rfl, by simp [PyData.depth]⟩
    | str x => unfold toP at e; cases e; exact ⟨.str _, rfl, by simp [PyData.depth]⟩
    | tup h m q =>
      unfold toP at e
      cases e1 : mapO (toP S n) _ with
      | none => rw [e1] at e; cases e
      | some ps =>
        rw [e1] at e; cases e
        obtain ⟨b1, b2, b3⟩ := mapO_rep ih e1 q
        exact ⟨.tup (.inl (.inl h)) b1, b2, by simp only [PyData.depth]; omega⟩
    | fz h q =>
      unfold toP at e
      cases e1 : mapO (toP S n) _ with
      | none => rw [e1] at e; cases e
      | some ps =>
        rw [e1] at e; cases e
        obtain ⟨b1, b2, b3⟩ := mapO_rep ih e1 q
        exact ⟨.lst h.sq b1, b2, by simp only [PyData.depth]; omega⟩
    | @ref k a h =>
      unfold toP at e
      cases e0 : S[k]? with
      | none => rw [e0] at e; cases e
      | some o =>
        rw [e0] at e
        cases o with
        | lst ds =>
          cases e1 : mapO (toP S n) ds with
          | none =>
            have e' : Option.map PyData.list (mapO (toP S n) ds) = some p := e
            rw [e1] at e'; cases e'
          | some ps =>
            have e' : Option.map PyData.list (mapO (toP S n) ds) = some p := e
            rw [e1] at e'; cases e'
            obtain ⟨a', xs, e3, e4, e5⟩ := rs.list e0
            rw [h] at e3; cases e3
            obtain ⟨b1, b2, b3⟩ := mapO_rep ih e1 e5
            exact ⟨.lst (.inl (.inl e4)) b1, b2, by simp only [PyData.depth]; omega⟩
        | dic _ => cases e
        | ins _ _ => cases e
end

/-! ### operators -/
def rOp (K : PySem.W.Frag) (f : D → D → Sto → Out D) : R2 := fun vx vy H Q => ∃ js S x y, RelS K H js S ∧ RepV K H js x vx ∧ RepV K H js y vy ∧ OkE K H js (f x y S) Q
def opOf : Op2 → Operator
  | .add => .Add | .sub => .Sub | .mul => .Mult | .fdiv => .FloorDiv | .mod => .Mod | .pow => .Pow
def cmOf : Cm → CmpOp
  | .eq => .Eq | .ne => .NotEq | .lt => .Lt | .le => .LtE | .gt => .Gt | .ge => .GtE | .is => .Is | .isnot => .IsNot | .inn => .In | .notin => .NotIn
section
variable {X : Cx}
theorem rep_fold (z : Array Nat) : ∀ (n : Nat) (acc : Array Nat), (List.replicate n z).foldl (· ++ ·) acc = acc ++ (List.replicate n z.toList).flatten.toArray
  | 0, acc => by simp
  | n + 1, acc => by
    rw [List.replicate_succ, List.foldl_cons, rep_fold z n, List.replicate_succ, List.flatten_cons]
    apply Array.toList_inj.mp
    simp
theorem op_mulS : OpR X (binaryOp .Mult) (fun x y H Q => ∃ (z : Str) (k : Int), x = .str z ∧ y = .int k ∧ 0 ≤ k ∧ k ≤ 1000 ∧ z.length ≤ 1000 ∧ Q (.str ⟨(List.replicate k.toNat z.cps.toList).flatten.toArray⟩) H) := by
  intro pins s σ H x y v u Q I rx ry h
  obtain ⟨z, k, rfl, rfl, h0, h1, h2, q⟩ := h
  obtain ⟨t, rfl⟩ := rx
  obtain ⟨t', rfl⟩ := ry
  have hm : z.length * k.toNat ≤ 1000 * 1000 := Nat.mul_le_mul h2 (by omega)
  refine PySem.P.mul_str ?_ (fun _ _ => ?_) (fun _ _ => ?_) ?_
  · rw [decide_eq_false (by omega), decide_eq_false (by omega)]; rfl
  · intro hgt
    have h3 : (z.length : Int) ≤ (2 ^ 63 - 1) / k := by
      refine (Int.le_ediv_iff_mul_le (by omega)).mpr ?_
      have e : ((z.length : Int) * k) = ((z.length * k.toNat : Nat) : Int) := by
        rw [Int.natCast_mul, Int.toNat_of_nonneg h0]
      rw [e]
      omega
    omega
  · unfold Builtin.Str.tooLong
    exact decide_eq_false (by rw [sizeLine_eq]; omega)
  · have fin : ∀ y : Str, y = ⟨(List.replicate k.toNat z.cps.toList).flatten.toArray⟩ → ∀ (s' : Shared) (tk : Tok), Inv X pins σ H s' → EP X pins σ Q (.str y tk) s' := fun y e s' tk J => ⟨.str y, H, J, ⟨_, rfl⟩, by rw [e]; exact q⟩
    by_cases hk : k < 1
    · rw [if_pos hk]
      have e : k = 0 := by omega
      subst e
      exact ⟨by decide, fin _ rfl _ _ (I.tok _)⟩
    · rw [if_neg hk]
      by_cases hz : (k == 1 || z.length == 0) = true
      · rw [if_pos hz]
        refine fin _ ?_ _ _ I
        rcases Bool.or_eq_true_iff.mp hz with e | e
        · have e : k = 1 := eq_of_beq e
          subst e
          simp
        · have e : z.length = 0 := eq_of_beq e
          have e' : z.cps = #[] := Array.size_eq_zero_iff.mp e
          have e2 : z = ⟨#[]⟩ := by cases z; simp at e'; rw [e']
          rw [e2]
          simp
      · rw [if_neg hz]
        refine ⟨?_, fin _ ?_ _ _ (I.tok _)⟩
        · rw [rep_fold]
          show (#[] ++ (List.replicate k.toNat z.cps.toList).flatten.toArray).size ≤ sizeLine
          have e1 : (#[] ++ (List.replicate k.toNat z.cps.toList).flatten.toArray).size = k.toNat * z.length := by
            simp [Str.length]
          rw [e1, Nat.mul_comm, sizeLine_eq]
          omega
        · rw [rep_fold]; simp
theorem bop_ok (op : Op2) : OpR X (binaryOp (opOf op)) (rOp X.K (bop op)) := by
  intro pins s σ H vx vy v u Q I rx ry h
  obtain ⟨js, S, x, y, rs, r1, r2, h⟩ := h
  unfold bop at h
  split at h
  · cases r1; cases r2
    exact op_add pins s σ H _ _ v u Q I rx ry ⟨_, _, rfl, rfl, h.pure rs (.int _)⟩
  · cases r1; cases r2
    exact op_sub pins s σ H _ _ v u Q I rx ry ⟨_, _, rfl, rfl, h.pure rs (.int _)⟩
  · cases r1; cases r2
    split at h
    · rename_i c
      exact op_mul pins s σ H _ _ v u Q I rx ry ⟨_, _, rfl, rfl, c, h.pure rs (.int _)⟩
    · exact h.elim
  · cases r1; cases r2
    split at h
    · rename_i c
      exact op_fdiv pins s σ H _ _ v u Q I rx ry ⟨_, _, rfl, rfl, c, h.pure rs (.int _)⟩
    · exact h.elim
  · cases r1; cases r2
    split at h
    · rename_i c
      exact op_mod pins s σ H _ _ v u Q I rx ry ⟨_, _, rfl, rfl, c, h.pure rs (.int _)⟩
    · exact h.elim
  · cases r1; cases r2
    split at h
    · rename_i c
      exact op_pow pins s σ H _ _ v u Q I rx ry ⟨_, _, rfl, rfl, c, h.pure rs (.int _)⟩
    · exact h.elim
  · cases r1; cases r2
    split at h
    · rename_i c
      exact op_add_str pins s σ H _ _ v u Q I rx ry ⟨_, _, rfl, rfl, c, h.pure rs (.str _)⟩
    · exact h.elim
  · rename_i a b
    cases r1 with
    | @tup _ pa xs h1 n1 q1 =>
      cases r2 with
      | @tup _ pb ys h2 n2 q2 =>
        split at h
        · rename_i c
          refine op_catA pins s σ H _ _ v u Q I rx ry ⟨pa, pb, xs, ys, rfl, rfl, .inl (.inl h1), .inl (.inl h2), by rw [← q1.length, ← q2.length]; exact c, fun e => ?_, fun e e' => ?_, fun e e' p hp => ?_⟩
          · subst e
            cases q1
            exact h.pure rs (.tup h2 n2 q2)
          · subst e'
            cases q2
            rw [List.append_nil] at h
            exact h.pure rs (.tup h1 n1 q1)
          · exact h.tup rs (q1.append q2) hp
        · exact h.elim
  · cases r1 with
    | ref h1 =>
      cases r2 with
      | ref h2 =>
        split at h
        · rename_i xs ys e1 e2
          split at h
          · rename_i c
            obtain ⟨a', xs', e3, e4, e5⟩ := rs.list e1
            obtain ⟨b', ys', f3, f4, f5⟩ := rs.list e2
            rw [h1] at e3; cases e3
            rw [h2] at f3; cases f3
            refine op_cat pins s σ H _ _ v u Q I rx ry ⟨_, _, _, _, rfl, rfl, e4, f4, by rw [← e5.length, ← f5.length]; exact c, fun p hp => ?_⟩
            exact h.lst rs (e5.append f5) hp
          · exact h.elim
        · exact h.elim
  · cases r1; cases r2
    split at h
    · rename_i c
      exact op_mulS pins s σ H _ _ v u Q I rx ry ⟨_, _, rfl, rfl, c.1, c.2.1, c.2.2, h.pure rs (.str _)⟩
    · exact h.elim
  · exact h.elim
theorem aug_ok (op : Op2) : PIp X (opOf op) (rOp X.K (augD op)) := by
  intro pins s σ H vx vy v u Q I rx ry h
  obtain ⟨js, S, x, y, rs, r1, r2, h⟩ := h
  unfold augD at h
  split at h
  · cases r1; cases r2
    exact ip_add pins s σ H _ _ v u Q I rx ry ⟨_, _, rfl, rfl, h.pure rs (.int _)⟩
  · cases r1; cases r2
    exact ip_sub pins s σ H _ _ v u Q I rx ry ⟨_, _, rfl, rfl, h.pure rs (.int _)⟩
  · exact h.elim

/-! ### comparisons -/
theorem OkE.lift {K : PySem.W.Frag} {H : Hp} {js : List Addr} {S : Sto} {o : Option Bool} {Q : VK} (h : OkE K H js (lift o S) Q) (rs : RelS K H js S) : ∃ b, o = some b ∧ Q (.bl b) H := by
  cases o with
  | none => exact h.elim
  | some b => exact ⟨b, rfl, OkE.pure (d := .bl b) h rs (.bl b)⟩
theorem eqD_ok {K : PySem.W.Frag} {H : Hp} {js : List Addr} {S : Sto} {x y : D} {vx vy : V} {b : Bool} (h : eqD x y S = some b) (rs : RelS K H js S) (r1 : RepV K H js x vx) (r2 : RepV K H js y vy) :
    ∃ p q, Dp K H vx p ∧ Dp K H vy q ∧ p.plain = true ∧ q.plain = true ∧ min p.depth q.depth ≤ 150 ∧ PyData.eqv p q = b := by
  unfold eqD at h
  split at h
  · rename_i p q e1 e2
    cases h
    obtain ⟨a1, a2, a3⟩ := toP_rep rs _ _ _ _ e1 r1
    obtain ⟨b1, b2, b3⟩ := toP_rep rs _ _ _ _ e2 r2
    exact ⟨p, q, a1, b1, a2, b2, by omega, rfl⟩
  · cases h
theorem inD_ok {x y : D} {vx vy : V} {b : Bool} {pins : List (Addr × Obj)} {s : Shared} {σ : L2.St} {H : Hp} {js : List Addr} {S : Sto} {v u : Value} {R : Value → Shared → Prop} (hu : X.A.units + 200 < cLine) (h : inD x y S = some b) (rs : RelS X.K H js S) (r1 : RepV X.K H js x vx) (r2 : RepV X.K H js y vy)
    (I : Inv X pins σ H s) (rx : RelV vx v) (ry : RelV vy u) (neg : Bool) (Q : VK) (q : Q (.bl (if neg then !b else b)) H) :
    wpAny (model X.prog X.w) X.A (compareOp (if neg then .NotIn else .In) v u) (EP X pins σ Q) X.xe s := by
  unfold inD at h
  split at h
  · split at h
    · rename_i i j _ c e
      cases h
      cases r1; cases r2
      have ei : i = ⟨#[c]⟩ := by
        cases i with
        | mk cps =>
          have e' : cps.toList = [c] := e
          have : cps = #[c] := Array.toList_inj.mp (by rw [e'])
          rw [this]
      subst ei
      cases neg with
      | false => exact op_in_sign pins s σ H _ _ v u Q I rx ry ⟨c, j, rfl, rfl, q⟩
      | true => exact op_notIn_sign pins s σ H _ _ v u Q I rx ry ⟨c, j, rfl, rfl, q⟩
    · cases h
  · have go : ∀ (p : PyData) (qs : List PyData), Dp X.K H vx p → p.plain = true → p.depth ≤ 150 → PyData.plainAll qs = true → b = (qs.any fun z => PyData.eqv z p) → (Dp X.K H vy (.tuple qs) ∨ Dp X.K H vy (.list qs)) →
        wpAny (model X.prog X.w) X.A (compareOp (if neg then .NotIn else .In) v u) (EP X pins σ Q) X.xe s := by
      intro p qs a1 a2 a3 b2 eb b1
      subst eb
      obtain ⟨as, q1⟩ := Dp.reads I p vx v a1 rx
      have hu' : X.A.units + 1 + min (PyData.depthAll qs) p.depth < cLine := by omega
      rcases b1 with b1 | b1
      · obtain ⟨bs, q2⟩ := Dp.reads I (.tuple qs) vy u b1 ry
        cases neg with
        | false => exact SeqAt.in_tuple_data q2 q1 b2 a2 hu' ⟨.bl _, H, I, rfl, q⟩
        | true => exact SeqAt.notIn_tuple_data q2 q1 b2 a2 hu' ⟨.bl _, H, I, rfl, q⟩
      · obtain ⟨bs, q2⟩ := Dp.reads I (.list qs) vy u b1 ry
        cases neg with
        | false => exact SeqAt.in_list_data q2 q1 b2 a2 hu' ⟨.bl _, H, I, rfl, q⟩
        | true => exact SeqAt.notIn_list_data q2 q1 b2 a2 hu' ⟨.bl _, H, I, rfl, q⟩
    split at h
    · rename_i p qs e1 e2
      cases h
      obtain ⟨a1, a2, a3⟩ := toP_rep rs _ _ _ _ e1 r1
      obtain ⟨b1, b2, b3⟩ := toP_rep rs _ _ _ _ e2 r2
      exact go p qs a1 a2 a3 b2 rfl (.inl b1)
    · rename_i p qs e1 e2
      cases h
      obtain ⟨a1, a2, a3⟩ := toP_rep rs _ _ _ _ e1 r1
      obtain ⟨b1, b2, b3⟩ := toP_rep rs _ _ _ _ e2 r2
      exact go p qs a1 a2 a3 b2 rfl (.inr b1)
    · cases h
theorem cop_ok (op : Cm) (hu : X.A.units + 200 < cLine) : OpR X (compareOp (cmOf op)) (rOp X.K (cop op)) := by
  intro pins s σ H vx vy v u Q I rx ry h
  obtain ⟨js, S, x, y, rs, r1, r2, h⟩ := h
  obtain ⟨b, e, q⟩ := OkE.lift h rs
  cases op with
  | eq =>
    obtain ⟨p, p', a1, b1, a2, b2, l, eb⟩ := eqD_ok e rs r1 r2
    subst eb
    obtain ⟨as, q1⟩ := Dp.reads I p vx v a1 rx
    obtain ⟨bs, q2⟩ := Dp.reads I p' vy u b1 ry
    exact SeqAt.eq_plain q1 q2 a2 b2 (by omega) ⟨.bl _, H, I, rfl, q⟩
  | ne =>
    have e : (eqD x y S).map (!·) = some b := e
    cases e2 : eqD x y S with
    | none => rw [e2] at e; cases e
    | some b' =>
      rw [e2] at e
      cases e
      obtain ⟨p, p', a1, b1, a2, b2, l, eb⟩ := eqD_ok e2 rs r1 r2
      subst eb
      obtain ⟨as, q1⟩ := Dp.reads I p vx v a1 rx
      obtain ⟨bs, q2⟩ := Dp.reads I p' vy u b1 ry
      exact SeqAt.ne_plain q1 q2 a2 b2 (by omega) ⟨.bl _, H, I, rfl, q⟩
  | lt =>
    unfold copB at e
    simp only at e
    split at e
    · cases e; cases r1; cases r2
      exact op_lt pins s σ H _ _ v u Q I rx ry ⟨_, _, rfl, rfl, q⟩
    · cases e
  | le =>
    unfold copB at e
    simp only at e
    split at e
    · cases e; cases r1; cases r2
      exact op_le pins s σ H _ _ v u Q I rx ry ⟨_, _, rfl, rfl, q⟩
    · cases e
  | gt =>
    unfold copB at e
    simp only at e
    split at e
    · cases e; cases r1; cases r2
      exact op_gt pins s σ H _ _ v u Q I rx ry ⟨_, _, rfl, rfl, q⟩
    · cases e
  | ge =>
    unfold copB at e
    simp only at e
    split at e
    · cases e; cases r1; cases r2
      exact op_ge pins s σ H _ _ v u Q I rx ry ⟨_, _, rfl, rfl, q⟩
    · cases e
  | is =>
    unfold copB at e
    simp only at e
    split at e
    · cases r2
      cases e
      refine op_isN pins s σ H _ _ v u Q I rx ry ⟨rfl, ?_⟩
      cases r1 <;> exact q
    · cases e
  | isnot =>
    unfold copB at e
    simp only at e
    split at e
    · cases r2
      cases e
      refine op_notN pins s σ H _ _ v u Q I rx ry ⟨rfl, ?_⟩
      cases r1 <;> exact q
    · cases e
  | inn => exact inD_ok hu e rs r1 r2 I rx ry false Q q (R := fun _ _ => True)
  | notin =>
    have e : (inD x y S).map (!·) = some b := e
    cases e2 : inD x y S with
    | none => rw [e2] at e; cases e
    | some b' =>
      rw [e2] at e
      cases e
      exact inD_ok hu e2 rs r1 r2 I rx ry true Q q (R := fun _ _ => True)
/-- one comparison's answer, for tests and chains -/
theorem copB_ok {op : Cm} {K : PySem.W.Frag} {H : Hp} {js : List Addr} {S : Sto} {x y : D} {b : Bool} {Q : VK} (h : copB op x y S = some b) (q : ∀ H' js', Grow H js H' js' → RelS K H' js' S → Q (.bl b) H') : OkE K H js (cop op x y S) Q := by
  unfold cop
  rw [h]
  intro v H' js' g r q'
  cases q'
  exact q H' js' g r

/-! ### truth -/
theorem tru_rep {K : PySem.W.Frag} {H : Hp} {js : List Addr} {S : Sto} {x : D} {v : V} {b : Bool} (h : tru x S = some b) (rs : RelS K H js S) (r : RepV K H js x v) : TruV K v H b := by
  cases r with
  | non => cases h; rfl
  | bl c => cases h; rfl
  | int i => cases h; rfl
  | str z =>
    have h : (if z.length ≤ sizeLine then some ((z.length : Int) != 0) else none) = some b := h
    split at h
    · cases h; rename_i c; exact ⟨c, rfl⟩
    · cases h
  | tup h1 n q =>
    cases h
    refine .inr (.inl ⟨_, .inl (.inl h1), ?_⟩)
    cases q <;> rfl
  | fz h1 q =>
    cases h
    refine .inl ⟨_, h1.sq, ?_⟩
    cases q <;> rfl
  | @ref n a h1 =>
    have h : (match S[n]? with
      | some (.lst ds) => some (!ds.isEmpty)
      | _ => none) = some b := h
    split at h
    · rename_i e
      cases h
      obtain ⟨a', xs, e3, e4, e5⟩ := rs.list e
      rw [h1] at e3; cases e3
      refine .inl ⟨xs, .inl (.inl e4), ?_⟩
      cases e5 <;> rfl
    · cases h

/-! ### items, slices, len -/
theorem atI_rep {K : PySem.W.Frag} {H : Hp} {js : List Addr} {ds : List D} {vs : List V} {i : Int} {d : D} (h : atI ds i = some d) (r : RepVs K H js ds vs) : ∃ v, atI vs i = some v ∧ RepV K H js d v := by
  unfold atI at h ⊢
  rw [← r.length]
  cases e : ixN ds.length i with
  | none => rw [e] at h; cases h
  | some j =>
    rw [e] at h
    exact r.get h
theorem idx_ok : IxR X (rOp X.K idxD) := by
  intro value slice pins s σ H vx vy v u Q I rx ry h hs
  obtain ⟨js, S, x, y, rs, r1, r2, h⟩ := h
  unfold idxD at h
  split at h
  · cases r1; cases r2
    split at h
    · rename_i c
      split at h
      · rename_i c' e
        exact ix_str value slice pins s σ H _ _ v u Q I rx ry ⟨_, _, _, rfl, rfl, c, e, h.pure rs (.str _)⟩ hs
      · exact h.elim
    · exact h.elim
  · cases r2
    split at h
    · rename_i ds e
      split at h
      · rename_i d e2
        obtain ⟨a, xs, ev, q, hh⟩ := itemsOf_any e rs r1
        subst ev
        obtain ⟨w, e3, r3⟩ := atI_rep e2 q
        rcases hh with hh | hh
        · exact ix_list value slice pins s σ H _ _ v u Q I rx ry ⟨_, _, _, _, rfl, rfl, hh, e3, h.pure rs r3⟩ hs
        · exact ix_tup value slice pins s σ H _ _ v u Q I rx ry ⟨_, _, _, _, rfl, rfl, hh, e3, h.pure rs r3⟩ hs
      · exact h.elim
    · exact h.elim
  · exact h.elim
theorem cut_rep {K : PySem.W.Frag} {H : Hp} {js : List Addr} {ds : List D} {vs : List V} (lo hi : Option Int) (r : RepVs K H js ds vs) : RepVs K H js (cutL ds lo hi) (cutV vs lo hi) := by
  unfold cutL cutV
  rw [r.length]
  exact (r.drop _).take _
def rSl (K : PySem.W.Frag) : V → Option Int → Option Int → Hp → VK → Prop := fun vx lo hi H Q => ∃ js S x, RelS K H js S ∧ RepV K H js x vx ∧ OkE K H js (slD x lo hi S) Q
theorem cutV_whole {xs : List V} {lo hi : Option Int} (h : HT.sIx xs.length 0 lo = 0 ∧ HT.sIx xs.length xs.length hi = xs.length) : cutV xs lo hi = xs := by
  unfold cutV
  rw [h.1, h.2]
  simp
theorem sl_ok : SlR X (rSl X.K) := by
  intro pins s σ H vx v vl vu lo hi sl Q I rx hs pl pu h
  obtain ⟨js, S, x, rs, r1, h⟩ := h
  unfold slD at h
  split at h
  · cases r1
    split at h
    · rename_i c
      exact sl_str pins s σ H _ v vl vu lo hi sl Q I rx hs pl pu ⟨_, rfl, c, h.pure rs (.str _)⟩
    · exact h.elim
  · cases r1 with
    | @tup _ a xs h1 n1 q1 =>
      have q2 := cut_rep lo hi q1
      refine sl_tupA pins s σ H _ v vl vu lo hi sl Q I rx hs pl pu ⟨a, xs, rfl, .inl (.inl h1), fun hw => ?_, fun _ p hp => h.tup rs q2 hp⟩
      rw [cutV_whole hw] at q2
      exact h.pure rs (.tup h1 n1 q2)
  · rename_i n1 n2
    split at h
    · rename_i ds e
      obtain ⟨a, xs, ev, q, hh⟩ := itemsOf_seq e rs r1
      subst ev
      rcases hh with ⟨_, hh⟩ | ⟨hh, _⟩
      · exact absurd hh (n2 ds)
      · exact sl_list pins s σ H _ v vl vu lo hi sl Q I rx hs pl pu ⟨a, xs, rfl, hh, fun p hp => h.lst rs (cut_rep lo hi q) hp⟩
    · exact h.elim

/-! ### built-in functions -/
def rBi (K : PySem.W.Frag) (f : List D → Sto → Out D) : List V → Hp → VK → Prop := fun vs H Q => ∃ js S ds, RelS K H js S ∧ RepVs K H js ds vs ∧ OkE K H js (f ds S) Q
def biN : Bi → Str
  | .len => "len" | .tuple => "tuple" | .list => "list" | .sum => "sum" | .all => "all" | .any => "any"
def biV : Bi → Value
  | .len => .builtin "len" | .tuple => .type "tuple" | .list => .type "list" | .sum => .builtin "sum" | .all => .builtin "all" | .any => .builtin "any"
theorem bi_ok (b : Bi) : CallR X (biV b) (rBi X.K (biD b)) := by
  intro pins s σ H vs us Q I r h
  obtain ⟨js, S, ds, rs, rv, h⟩ := h
  unfold biD at h
  split at h
  · cases rv with
    | cons r1 t =>
      cases t
      unfold lenD at h
      split at h
      · cases r1
        split at h
        · rename_i c
          exact call_len_str pins s σ H _ us Q I r ⟨_, rfl, c, h.pure rs (.int _)⟩
        · exact h.elim
      · split at h
        · rename_i es e
          obtain ⟨a, xs, ev, q, hh⟩ := itemsOf_any e rs r1
          subst ev
          have hq : Q (.int xs.length) H := by rw [← q.length]; exact h.pure rs (.int _)
          exact call_len_seq pins s σ H _ us Q I r ⟨_, _, rfl, hh, hq⟩
        · exact h.elim
  · cases rv with
    | cons r1 t =>
      cases t
      cases r1 with
      | tup h1 n1 q1 => exact call_tupleT pins s σ H _ us Q I r ⟨_, _, rfl, .inl (.inl h1), h.pure rs (.tup h1 n1 q1)⟩
  · rename_i x nx
    cases rv with
    | cons r1 t =>
      cases t
      split at h
      · rename_i es e
        obtain ⟨a, xs, ev, q, hh⟩ := itemsOf_seq e rs r1
        subst ev
        rcases hh with ⟨_, hh⟩ | ⟨hh, _⟩
        · exact absurd hh (nx es)
        · exact call_tuple_of pins s σ H _ us Q I r ⟨_, _, rfl, .inl ⟨hh, fun p hp => h.tup rs q hp⟩⟩
      · exact h.elim
  · cases rv with
    | cons r1 t =>
      cases t
      split at h
      · rename_i es e
        obtain ⟨a, xs, ev, q, hh⟩ := itemsOf_any e rs r1
        subst ev
        exact call_list_of pins s σ H _ us Q I r ⟨_, _, rfl, hh, fun p hp => h.lst rs q hp⟩
      · exact h.elim
  · exact h.elim
def rBm (K : PySem.W.Frag) (f : D → List D → Sto → Out D) : V → List V → Hp → VK → Prop := fun vx vs H Q => ∃ js S x ds, RelS K H js S ∧ RepV K H js x vx ∧ RepVs K H js ds vs ∧ OkE K H js (f x ds S) Q
theorem append_ok : MtR X "list.append" (rBm X.K (bmD .append)) := by
  intro pins s σ H vx vs v us Q I rx rv h
  obtain ⟨js, S, x, ds, rs, r1, r2, h⟩ := h
  unfold bmD at h
  split at h
  · cases r1 with
    | ref h1 =>
      cases r2 with
      | cons r3 t =>
        cases t
        split at h
        · rename_i xs e
          split at h
          · rename_i c
            obtain ⟨a', ws, e3, e4, e5⟩ := rs.list e
            rw [h1] at e3; cases e3
            have q5 := e5.append (RepVs.cons r3 .nil)
            refine mt_append pins s σ H _ _ v us Q I rx rv ⟨_, _, _, rfl, rfl, e4, by rw [← e5.length]; exact c, ?_⟩
            exact h .non _ js (Grow.put rs h1) (rs.put h1 q5) .non
          · exact h.elim
        · exact h.elim
  · exact h.elim
end
end VM
/-! VD: when a term of the small language is what an expression of the text says; then the expression does what the term does. -/
namespace VM
open PySem PySem.Spec PyProof.Rows L2

/-! ### the look -/
structure Nm where
  N : List Str
  sc : Scope
  osc : Option Scope
  fs : List (Nat × Str)
  bs : List Str
  gs : List (Str × D)
def Nm.blk (nm : Nm) (scope : Scope) : Nm := { nm with sc := relS scope nm.sc, osc := some scope }
def visB (sc : Scope) (x : Str) : Bool := match sc.names.lookup x with
  | some .local => true | some .cell => true | some .free => true | _ => false
def locB (sc : Scope) (x : Str) : Bool := match sc.names.lookup x with
  | some .local => true | some .cell => true | _ => false
def glB (sc : Scope) (x : Str) : Bool := match sc.names.lookup x with
  | some .globalImplicit => true | _ => false
def cellB (sc : Scope) (x : Str) : Bool := match sc.names.lookup x with
  | some .cell => true | _ => false
def localB (sc : Scope) (x : Str) : Bool := match sc.names.lookup x with
  | some .local => true | _ => false
def fnB (nm : Nm) (x : Str) : Bool := match nm.osc with
  | none => true
  | some s => s.names.lookup x == some .cell
def tgB (nm : Nm) (i : Nat) (x : Str) : Bool := decide (nm.N[i]? = some x) && locB nm.sc x && (fnB nm x || localB nm.sc x)
def dbg (x : Str) : Bool := !(x == ("__debug__" : Str))
def flatB : D → D → Bool
  | .int i, .int j => decide (i = j)
  | .str x, .str y => decide (x = y)
  | _, _ => false
def gsB (gs : List (Str × D)) (x : Str) (d : D) : Bool := gs.any fun p => decide (p.1 = x) && flatB p.2 d
def opB : Op2 → Operator → Bool
  | .add, .Add => true | .sub, .Sub => true | .mul, .Mult => true | .fdiv, .FloorDiv => true | .mod, .Mod => true | .pow, .Pow => true | _, _ => false
def cmB : Cm → CmpOp → Bool
  | .eq, .Eq => true | .ne, .NotEq => true | .lt, .Lt => true | .le, .LtE => true | .gt, .Gt => true | .ge, .GtE => true | .is, .Is => true | .isnot, .IsNot => true | .inn, .In => true | .notin, .NotIn => true | _, _ => false
theorem opB_of {op : Op2} {o : Operator} (h : opB op o = true) : o = opOf op := by cases op <;> cases o <;> first | rfl | cases h
theorem cmB_of {op : Cm} {o : CmpOp} (h : cmB op o = true) : o = cmOf op := by cases op <;> cases o <;> first | rfl | cases h
def plainX : Expr → Bool
  | .Starred .. => false | .Set .. => false | .Slice .. => false | .SetComp .. => false | .DictComp .. => false | _ => true
def testX : Expr → Bool
  | .UnaryOp .Not _ _ => false | .BoolOp .. => false | .IfExp .. => false | .Compare .. => false | _ => true
def noSup : Expr → Bool
  | .Call (.Name _ _) [] [] _ => false | _ => true
def bmN : Bm → Str
  | .append => "append" | .insert => "insert"
def tyN : Ty → Str
  | .int => "int" | .bool => "bool" | .str => "str" | .tuple => "tuple" | .list => "list"
def tyS : Ty → String
  | .int => "int" | .bool => "bool" | .str => "str" | .tuple => "tuple" | .list => "list"
def tgSl : Tg → List Nat
  | .nm i => [i]
  | .tp is => is
def mNames (nm : Nm) : List Nat → List Expr → Bool
  | [], [] => true
  | i :: is, .Name x _ :: xs => tgB nm i x && mNames nm is xs
  | _, _ => false
def mTg (nm : Nm) : Tg → Expr → Bool
  | .nm i, .Name x _ => tgB nm i x
  | .tp is, .Tuple xs _ _ => mNames nm is xs
  | _, _ => false
mutual
def mE (nm : Nm) : E → Expr → Bool
  | .var i, x => match x with
    | .Name s _ => decide (nm.N[i]? = some s) && visB nm.sc s && dbg s && !(s == ("__classdict__" : Str))
    | _ => false
  | .non, x => match x with | .Constant .none _ _ => true | _ => false
  | .bl b, x => match x with | .Constant (.bool c) _ _ => decide (b = c) | _ => false
  | .int i, x => match x with | .Constant (.int j) _ _ => decide (i = j) | _ => false
  | .str s, x => match x with | .Constant (.str t) _ _ => decide (s = t) | _ => false
  | .gc s d, x => match x with | .Name t _ => decide (s = t) && glB nm.sc s && dbg s && gsB nm.gs s d | _ => false
  | .tup es, x => match x with | .Tuple xs _ _ => decide (xs.length ≤ 1000) && mEs nm es xs | _ => false
  | .lst es, x => match x with | .List xs _ => decide (xs.length ≤ 1000) && mEs nm es xs | _ => false
  | .bin op a b, x => match x with | .BinOp l o r _ => opB op o && plainX l && mE nm a l && plainX r && mE nm b r | _ => false
  | .neg a, x => match x with | .UnaryOp .USub y _ => plainX y && mE nm a y | _ => false
  | .cmp op a b, x => match x with | .Compare l [o] [r] _ => cmB op o && plainX l && mE nm a l && plainX r && mE nm b r | _ => false
  | .chain op op' a b c, x => match x with
    | .Compare l [o, o'] [r, t] _ => cmB op o && cmB op' o' && plainX l && mE nm a l && plainX r && mE nm b r && plainX t && mE nm c t
    | _ => false
  | .and a b, x => match x with | .BoolOp .And (y :: z :: r) p => plainX y && mE nm a y && mE nm b (.BoolOp .And (z :: r) p) | _ => false
  | .or a b, x => match x with | .BoolOp .Or (y :: z :: r) p => plainX y && mE nm a y && mE nm b (.BoolOp .Or (z :: r) p) | _ => false
  | .one a, x => match x with | .BoolOp _ [y] _ => plainX y && mE nm a y | _ => false
  | .not a, x => match x with | .UnaryOp .Not y _ => plainX y && mE nm a y | _ => false
  | .ite c a b, x => match x with | .IfExp t y z _ => plainX t && mT nm c t && plainX y && mE nm a y && plainX z && mE nm b z | _ => false
  | .idx a i, x => match x with | .Subscript y z _ => plainX y && mE nm a y && plainX z && mE nm i z | _ => false
  | .sl a lo hi, x => match x with | .Subscript y (.Slice l h none _) _ => plainX y && mE nm a y && mP nm lo l && mP nm hi h | _ => false
  | .rev a, x => match x with
    | .Subscript y (.Slice none none (some (.UnaryOp .USub (.Constant (.int j) _ _) _)) _) _ => decide (j = 1) && plainX y && mE nm a y
    | _ => false
  | .call f es, x => match x with | .Call (.Name s _) xs [] _ => decide (nm.fs.lookup f = some s) && glB nm.sc s && dbg s && mEs nm es xs | _ => false
  | .bi b es, x => match x with | .Call (.Name s _) (y :: ys) [] _ => decide (s = biN b) && glB nm.sc s && decide (s ∈ nm.bs) && mEs nm es (y :: ys) | _ => false
  | .bm m o es, x => match x with
    | .Call (.Attribute y a apos) (z :: zs) [] cpos => decide (a = bmN m) && noSup y && (apos.endLine == cpos.line) && decide ((z :: zs).length < 20) && plainX y && mE nm o y && mEs nm es (z :: zs)
    | _ => false
  | .isi a t, x => match x with
    | .Call (.Name s _) [y, .Name z _] [] _ => decide (s = ("isinstance" : Str)) && glB nm.sc s && decide (s ∈ nm.bs) && decide (z = tyN t) && glB nm.sc z && decide (z ∈ nm.bs) && plainX y && mE nm a y
    | _ => false
  | .lrg a, x => match x with
    | .Call (.Name s _) [.Call (.Name z _) [y] [] _] [] _ => decide (s = ("list" : Str)) && glB nm.sc s && decide (s ∈ nm.bs) && decide (z = ("range" : Str)) && glB nm.sc z && decide (z ∈ nm.bs) && plainX y && mE nm a y
    | _ => false
  | .lc elt tg it c own, x => match x with
    | .ListComp y [⟨tx, ix, ifs, n⟩] scope _ => decide (n = 0) && (tgSl tg).all (fun i => decide (i ∈ own.map (·.2))) && blkC nm.N nm.sc scope own && mTg (nm.blk scope) tg tx && plainX ix && mI nm it ix &&
        (match ifs with
         | [] => (match c with | .yes => true | _ => false)
         | [z] => plainX z && mT (nm.blk scope) c z
         | _ => false) && plainX y && mE (nm.blk scope) elt y
    | _ => false
def mEs (nm : Nm) : Es → List Expr → Bool
  | .nil, xs => match xs with | [] => true | _ => false
  | .cons e es, xs => match xs with | x :: xs => plainX x && mE nm e x && mEs nm es xs | _ => false
def mP (nm : Nm) : P → Option Expr → Bool
  | .no, x => match x with | none => true | _ => false
  | .e e, x => match x with | some y => plainX y && mE nm e y | _ => false
def mT (nm : Nm) : T → Expr → Bool
  | .yes, _ => false
  | .v e, x => testX x && mE nm e x
  | .cmp op a b, x => match x with | .Compare l [o] [r] _ => cmB op o && plainX l && mE nm a l && plainX r && mE nm b r | _ => false
  | .chain op op' a b c, x => match x with
    | .Compare l [o, o'] [r, t] _ => cmB op o && cmB op' o' && plainX l && mE nm a l && plainX r && mE nm b r && plainX t && mE nm c t
    | _ => false
  | .not t, x => match x with | .UnaryOp .Not y _ => plainX y && mT nm t y | _ => false
  | .and a b, x => match x with | .BoolOp .And (y :: z :: r) p => plainX y && mT nm a y && mT nm b (.BoolOp .And (z :: r) p) | _ => false
  | .or a b, x => match x with | .BoolOp .Or (y :: z :: r) p => plainX y && mT nm a y && mT nm b (.BoolOp .Or (z :: r) p) | _ => false
  | .one a, x => match x with | .BoolOp _ [y] _ => plainX y && mT nm a y | _ => false
def mI (nm : Nm) : I → Expr → Bool
  | .seq e, x => mE nm e x
  | .rng1 a, x => match x with
    | .Call (.Name s _) [y] [] _ => decide (s = ("range" : Str)) && glB nm.sc s && decide (s ∈ nm.bs) && plainX y && mE nm a y
    | _ => false
  | .rng2 a b, x => match x with
    | .Call (.Name s _) [y, z] [] _ => decide (s = ("range" : Str)) && glB nm.sc s && decide (s ∈ nm.bs) && plainX y && mE nm a y && plainX z && mE nm b z
    | _ => false
end

/-! ### facts of the text -/
theorem star_plain {x : Expr} (h : plainX x = true) (xs : List Expr) (env : Env) : starEach (x :: xs) env = (false, eval x env) :: starEach xs env := by
  cases x <;> first | rfl | cases h
theorem folded_plain {x : Expr} (h : plainX x = true) (env : Env) : ∀ v, foldedSetIterable x env v = pure v := by
  intro v
  cases x <;> first | rfl | cases h
theorem behind_plain {x : Expr} (h : plainX x = true) (op : CmpOp) : behindInMarks op x = false := by
  cases x <;> first | rfl | cases h
theorem plainIx {x : Expr} (h : plainX x = true) : PlainIx x := by
  intro o i
  cases x <;> first | rfl | cases h
theorem noSup_base {x : Expr} (h : noSup x = true) (n : Str) (env : Env) : attributeBase x n env (eval x env) = eval x env := by
  unfold attributeBase
  split
  · rename_i id p pos
    cases h
  · rfl
theorem test_plain {x : Expr} (h : testX x = true) (env : Env) : ∀ whole, isTrue x env whole = (do let v ← whole; standAt x.pos; holding [v] (truthy v)) := by
  intro whole
  cases x <;> first
    | rfl
    | cases h
    | (rename_i op _ _; cases op <;> first | rfl | cases h)

/-! ### a context that fits -/
structure CallOk (X : Cx) (F : Orc) (f : Nat) (x : Str) (CT : CXT) (k : Nat) (a : Addr) (fd : FuncData) (ps : List Str) (sp : Sp) : Prop where
  fn : FnOk X.prog X.w X.K X.mg X.base CT k a fd ps sp
  room : Room k X.A
  mg : X.mg x = some (.ref a)
  kp : PySem.W.keepIn X.K (.ref a) = true
  bi : Binds X.K fd ps []
  nox : ∀ l H s u s', ¬ CT l H s E0 u s'
  sp : ∀ vs H Q, rBi X.K (F.call f) vs H Q → sp vs H Q E0
structure Good (X : Cx) (nm : Nm) (F : Orc) : Prop where
  calm : X.calm = true
  N : X.N = nm.N
  nd : X.N.Nodup
  sc : X.env.scope = nm.sc
  kind : X.env.scope.kind = .function
  fn : ∀ x, fnB nm x = true → X.fn x = true
  hu : X.A.units + 200 < cLine
  bs : ∀ x ∈ nm.bs, X.mg x = none
  gs : ∀ x d, gsB nm.gs x d = true → ∃ u v, X.mg x = some u ∧ RelV v u ∧ ∀ H js, RepV X.K H js d v
  call : ∀ f x, nm.fs.lookup f = some x → ∃ CT k a fd ps sp, CallOk X F f x CT k a fd ps sp
section
variable {X : Cx} {nm : Nm} {F : Orc}
theorem Good.vis (g : Good X nm F) {x : Str} (h : visB nm.sc x = true) : Vis X.env.scope x := by
  rw [g.sc]
  unfold visB at h
  split at h <;> first | exact .inl (by assumption) | exact .inr (.inl (by assumption)) | exact .inr (.inr (by assumption)) | cases h
theorem Good.loc (g : Good X nm F) {x : Str} (h : locB nm.sc x = true) : Loc X.env.scope x := by
  rw [g.sc]
  unfold locB at h
  split at h <;> first | exact .inl (by assumption) | exact .inr (by assumption) | cases h
theorem Good.gl (g : Good X nm F) {x : Str} (h : glB nm.sc x = true) : Gl X x := by
  show X.env.scope.names.lookup x = some .globalImplicit
  rw [g.sc]
  unfold glB at h
  split at h <;> first | assumption | cases h
theorem Good.at (g : Good X nm F) {i : Nat} {x : Str} (h : nm.N[i]? = some x) : X.N[i]? = some x := by rw [g.N]; exact h
theorem dbg_of {x : Str} (h : dbg x = true) : (x == ("__debug__" : Str)) = false := by
  unfold dbg at h
  simpa using h
structure TgOk (X : Cx) (i : Nat) (x : Str) : Prop where
  ix : X.N[i]? = some x
  loc : Loc X.env.scope x
  fn : X.fn x = true ∨ X.env.scope.names.lookup x = some .local
theorem Good.tg (g : Good X nm F) {i : Nat} {x : Str} (h : tgB nm i x = true) : TgOk X i x := by
  unfold tgB at h
  rw [Bool.and_eq_true, Bool.and_eq_true, decide_eq_true_eq, Bool.or_eq_true] at h
  obtain ⟨⟨h1, h2⟩, h3⟩ := h
  refine ⟨g.at h1, g.loc h2, ?_⟩
  rcases h3 with h3 | h3
  · exact .inl (g.fn x h3)
  · refine .inr ?_
    rw [g.sc]
    unfold localB at h3
    split at h3 <;> first | assumption | cases h3

/-! ### targets -/
theorem setMany_len : ∀ (is : List Nat) (ds : List D) (ρ ρ' : Rho), setMany is ds ρ = some ρ' → ds.length = is.length ∧ ρ'.length = ρ.length
  | [], [], _, _, e => by cases e; exact ⟨rfl, rfl⟩
  | [], _ :: _, _, _, e => by cases e
  | _ :: _, [], _, _, e => by cases e
  | i :: is, d :: ds, ρ, ρ', e => by
    obtain ⟨h1, h2⟩ := setMany_len is ds _ _ e
    rw [List.length_set] at h2
    exact ⟨by rw [List.length_cons, List.length_cons, h1], h2⟩
def TgOut (K : PySem.W.Frag) (sl : List Nat) (σ : L2.St) (ρ' : Rho) (js : List Addr) (H : Hp) (Q : L2.St → Hp → Prop) : Prop :=
  ∀ σ', RepR K H js ρ' σ' → σ'.length = σ.length → (∀ j, j ∉ sl → σ'[j]? = σ[j]?) → Q σ' H
def rdTg (K : PySem.W.Frag) (tg : Tg) : TG := fun v σ H Q => ∃ js d ρ ρ', RepV K H js d v ∧ RepR K H js ρ σ ∧ bindT tg d ρ = some ρ' ∧ TgOut K (tgSl tg) σ ρ' js H Q
def rdTgs (K : PySem.W.Frag) (is : List Nat) : TGs := fun vs σ H Q => ∃ js ds ρ ρ', RepVs K H js ds vs ∧ RepR K H js ρ σ ∧ setMany is ds ρ = some ρ' ∧ TgOut K is σ ρ' js H Q
theorem sTgs (g : Good X nm F) : ∀ (is : List Nat) (xs : List Expr), mNames nm is xs = true →
    PGs X xs (rdTgs X.K is) ∧ (assignEach xs X.env).length = is.length ∧ (assignEach xs X.env).findIdx? (·.1) = none
  | [], [], _ => ⟨⟨fun pins s σ H vs us Q I r h => by
      obtain ⟨js, ds, ρ, ρ', rv, rr, e, q⟩ := h
      cases ds with
      | cons _ _ => cases e
      | nil =>
        cases rv
        cases e
        exact pgs_nil.run pins s σ H [] us Q I r ⟨rfl, q σ rr rfl fun _ _ => rfl⟩⟩, rfl, rfl⟩
  | [], _ :: _, h => by unfold mNames at h; cases h
  | _ :: _, [], h => by unfold mNames at h; cases h
  | i :: is, x :: xs, h => by
    cases x with
    | Name y p =>
      unfold mNames at h
      rw [Bool.and_eq_true] at h
      obtain ⟨h1, h2⟩ := h
      have t := g.tg h1
      obtain ⟨r1, r2, r3⟩ := sTgs g is xs h2
      refine ⟨⟨fun pins s σ H vs us Q I r h => ?_⟩, ?_, ?_⟩
      · obtain ⟨js, ds, ρ, ρ', rv, rr, e, q⟩ := h
        cases ds with
        | nil => cases e
        | cons d ds =>
          cases rv with
          | cons rv1 rv2 =>
            refine (pgs_cons (pg_name g.nd t.ix t.loc t.fn) r1 (by rfl)).run pins s σ H _ us Q I r ⟨_, _, rfl, ?_⟩
            refine ⟨js, ds, ρ.set i (some d), ρ', rv2, rr.set rv1 i, e, fun σ' r' hl hj => q σ' r' (by rw [hl, List.length_set]) fun j hn => ?_⟩
            rw [hj j fun z => hn (List.mem_cons_of_mem _ z), List.getElem?_set_ne fun z => hn (by rw [z]; exact List.mem_cons_self)]
      · show (assignEach xs X.env).length + 1 = is.length + 1
        rw [r2]
      · show List.findIdx? (·.1) ((false, assign (.Name y p) X.env) :: assignEach xs X.env) = none
        rw [List.findIdx?_cons, r3]
        rfl
    | _ => unfold mNames at h; cases h
theorem sTg (g : Good X nm F) (tg : Tg) (x : Expr) (h : mTg nm tg x = true) : PG X x (rdTg X.K tg) := by
  cases tg with
  | nm i =>
    cases x with
    | Name y p =>
      have t := g.tg (show tgB nm i y = true from h)
      refine ⟨fun pins s σ H v u Q I r h => ?_⟩
      obtain ⟨js, d, ρ, ρ', rv, rr, e, q⟩ := h
      cases e
      exact (pg_name g.nd t.ix t.loc t.fn).run pins s σ H v u Q I r (q _ (rr.set rv i) (by rw [List.length_set]) fun j hn => List.getElem?_set_ne fun z => hn (by rw [z]; exact List.mem_cons_self))
    | _ => cases h
  | tp is =>
    cases x with
    | Tuple xs k p =>
      obtain ⟨r1, r2, r3⟩ := sTgs g is xs h
      refine ⟨fun pins s σ H v u Q I r h => ?_⟩
      obtain ⟨js, d, ρ, ρ', rv, rr, e, q⟩ := h
      cases rv with
      | tup h1 n1 q1 =>
        refine (pg_tup g.calm r1 r2 r3).run pins s σ H _ u Q I r ⟨_, _, rfl, .inl (.inl h1), ?_, js, _, ρ, ρ', q1, rr, e, q⟩
        rw [← q1.length]
        exact (setMany_len _ _ _ _ e).1
      | _ => cases e
    | _ => cases h
end
end VM
/-! VE: what is walked; the soundness of expressions. -/
namespace VM
open PySem PySem.Spec PyProof.Rows L2

/-! ### walks -/
/-- the iterator yields these -/
def Yl (K : PySem.W.Frag) (J : L2.It) (ds : List D) (H : Hp) (js : List Addr) : Prop :=
  ∀ H' js' S', Grow H js H' js' → RelS K H' js' S' →
    (∀ i d, ds[i]? = some d → J.go i H' ∧ ∀ x H'', J.yld i H' x H'' → Grow H' js' H'' js' ∧ RelS K H'' js' S' ∧ RepV K H'' js' d x) ∧ ∀ i, ds.length ≤ i → J.stop i H'
def Wk (K : PySem.W.Frag) (it : It) (J : L2.It) (H : Hp) (js : List Addr) : Prop :=
  match it with
  | .fix ds => Yl K J ds H js
  | .dyn n => ∃ a, js[n]? = some a ∧ J = Itl K a
def rdI (K : PySem.W.Frag) (F : Orc) (i : I) : TI := fun σ H R => ∃ js S ρ, RelS K H js S ∧ RepR K H js ρ σ ∧ ∃ it S', evI F i ρ S = some (.ok it S') ∧
  ∀ H' js' J, Grow H js H' js' → RelS K H' js' S' → Wk K it J H' js' → R J H'
section
variable {K : PySem.W.Frag} {H H1 : Hp} {js js1 : List Addr}
theorem Yl.mono {J : L2.It} {ds : List D} (y : Yl K J ds H js) (g : Grow H js H1 js1) : Yl K J ds H1 js1 := fun H' js' S' g' r => y H' js' S' (g.trans g') r
theorem yl_tup {ds : List D} {a : Addr} {xs : List V} (h : H a = some (.tup xs)) (n : a ∉ js) (q : RepVs K H js ds xs) : Yl K (Itt K a) ds H js := by
  intro H' js' S' g r
  have h' := g.keep _ _ n h
  have q' := RepVs.mono g q
  refine ⟨fun i d e => ?_, fun i hi => ⟨xs, .inl (.inl h'), by rw [← q.length]; exact hi⟩⟩
  obtain ⟨v, e1, r1⟩ := q'.get e
  refine ⟨⟨xs, v, .inl (.inl h'), e1⟩, fun x H'' y => ?_⟩
  obtain ⟨e2, y⟩ := y
  subst e2
  have := y xs (.inl (.inl h'))
  rw [e1] at this
  cases this
  exact ⟨Grow.refl, r, r1⟩
theorem yl_fz {ds : List D} {a : Addr} {xs : List V} (h : Fz K H js a xs) (q : RepVs K H js ds xs) : Yl K (Itl K a) ds H js := by
  intro H' js' S' g r
  have h' := (h.mono g).sq
  have q' := RepVs.mono g q
  refine ⟨fun i d e => ?_, fun i hi => ⟨xs, h', by rw [← q.length]; exact hi⟩⟩
  obtain ⟨v, e1, r1⟩ := q'.get e
  refine ⟨⟨xs, v, h', e1⟩, fun x H'' y => ?_⟩
  obtain ⟨e2, y⟩ := y
  subst e2
  have := y xs h'
  rw [e1] at this
  cases this
  exact ⟨Grow.refl, r, r1⟩
theorem yl_rng {lo : Int} {n : Nat} : Yl K (Itr lo n) ((List.range n).map fun (k : Nat) => D.int (lo + k)) H js := by
  intro H' js' S' g r
  refine ⟨fun i d e => ?_, fun i hi => by
    have : n ≤ i := by simpa using hi
    exact this⟩
  rw [List.getElem?_map] at e
  cases h : (List.range n)[i]? with
  | none => rw [h] at e; cases e
  | some k =>
    rw [h] at e
    cases e
    obtain ⟨h1, h2⟩ := List.getElem?_eq_some_iff.mp h
    rw [List.getElem_range] at h2
    subst h2
    refine ⟨(show i < n by simpa using h1), fun x H'' y => ?_⟩
    obtain ⟨e2, e3⟩ := y
    subst e2 e3
    exact ⟨Grow.refl, r, .int _⟩
theorem yl_str {z : Str} : Yl K (Its z) (z.cps.toList.map fun c => D.str ⟨#[c]⟩) H js := by
  intro H' js' S' g r
  refine ⟨fun i d e => ?_, fun i hi => by
    show z.cps.size ≤ i
    simpa using hi⟩
  rw [List.getElem?_map] at e
  cases h : z.cps.toList[i]? with
  | none => rw [h] at e; cases e
  | some k =>
    rw [h] at e
    cases e
    have h1 : i < z.cps.size := by
      have := (List.getElem?_eq_some_iff.mp h).1
      simpa using this
    refine ⟨h1, fun x H'' y => ?_⟩
    obtain ⟨e2, c, e3, e4⟩ := y
    subst e2 e4
    have e5 : z.cps.toList[i]? = some c := by simpa using e3
    rw [h] at e5
    cases e5
    exact ⟨Grow.refl, r, .str _⟩
end

/-! ### runs by steps -/
def foldRn {α β : Type} (f : D → α → Sto → Out (α ⊕ β)) (n : Nat) : Nat → Nat → α → Sto → Out (α ⊕ β)
  | 0, _, _, _ => none
  | m + 1, i, a, S => match S[n]? with
    | some (.lst ds) =>
      match ds[i]? with
      | none => some (.ok (.inl a) S)
      | some d => bd (f d a S) fun r S1 => match r with
        | .inl a' => foldRn f n m (i + 1) a' S1
        | .inr b => some (.ok (.inr b) S1)
    | _ => none
theorem foldR_n {α β : Type} (f : D → α → Sto → Out (α ⊕ β)) (n : Nat) : ∀ (i : Nat) (a : α) (S : Sto) (r : Rs (α ⊕ β)), foldR f n i a S = some r → ∃ m, foldRn f n m i a S = some r := by
  refine foldR.partial_correctness f n (fun i a S r => ∃ m, foldRn f n m i a S = some r) ?_
  intro g ih i a S r h
  split at h
  · rename_i ds e
    split at h
    · rename_i e2
      refine ⟨1, ?_⟩
      unfold foldRn
      rw [e]
      simp only [e2]
      exact h
    · rename_i d e2
      split at h
      · cases h
      · rename_i c xs S1 e3
        refine ⟨1, ?_⟩
        unfold foldRn
        rw [e]
        simp only [e2]
        rw [e3]
        exact h
      · rename_i b S1 e3
        refine ⟨1, ?_⟩
        unfold foldRn
        rw [e]
        simp only [e2]
        rw [e3]
        exact h
      · rename_i a' S1 e3
        obtain ⟨m, hm⟩ := ih _ _ _ _ h
        refine ⟨m + 1, ?_⟩
        unfold foldRn
        rw [e]
        simp only [e2]
        rw [e3]
        exact hm
  · cases h
def whileN (c : Rho → Sto → Out Bool) (b : Rho → Sto → Out Fl) : Nat → Rho → Sto → Out Fl
  | 0, _, _ => none
  | m + 1, ρ, S => bd (c ρ S) fun t S1 => match t with
    | false => some (.ok (.nx ρ) S1)
    | true => bd (b ρ S1) fun f S2 => match f with
      | .nx ρ' => whileN c b m ρ' S2
      | .cnt ρ' => whileN c b m ρ' S2
      | .brk ρ' => some (.ok (.nx ρ') S2)
      | .ret d => some (.ok (.ret d) S2)
theorem whileL_n (c : Rho → Sto → Out Bool) (b : Rho → Sto → Out Fl) : ∀ (ρ : Rho) (S : Sto) (r : Rs Fl), whileL c b ρ S = some r → ∃ m, whileN c b m ρ S = some r := by
  refine whileL.partial_correctness c b (fun ρ S r => ∃ m, whileN c b m ρ S = some r) ?_
  intro g ih ρ S r h
  split at h
  · cases h
  · rename_i e; exact ⟨1, by unfold whileN; rw [e]; exact h⟩
  · rename_i e; exact ⟨1, by unfold whileN; rw [e]; exact h⟩
  · rename_i S1 e
    split at h
    · cases h
    · rename_i e2; exact ⟨1, by unfold whileN; rw [e]; simp only [bd_ok]; rw [e2]; exact h⟩
    · rename_i e2
      obtain ⟨m, hm⟩ := ih _ _ _ h
      exact ⟨m + 1, by unfold whileN; rw [e]; simp only [bd_ok]; rw [e2]; exact hm⟩
    · rename_i e2
      obtain ⟨m, hm⟩ := ih _ _ _ h
      exact ⟨m + 1, by unfold whileN; rw [e]; simp only [bd_ok]; rw [e2]; exact hm⟩
    · rename_i e2; exact ⟨1, by unfold whileN; rw [e]; simp only [bd_ok]; rw [e2]; exact h⟩
    · rename_i e2; exact ⟨1, by unfold whileN; rw [e]; simp only [bd_ok]; rw [e2]; exact h⟩

/-! ### a list that grows beside the store -/
section
variable {K : PySem.W.Frag} {H H1 : Hp} {js js1 : List Addr} {S : Sto} {Da : Addr} {l l' : List V}
mutual
theorem RepV.beside (hD : H Da = some (.lst l)) : ∀ {d : D} {v : V}, RepV K H js d v → RepV K (upd H Da (.lst l')) js d v
  | _, _, .non => .non
  | _, _, .bl b => .bl b
  | _, _, .int i => .int i
  | _, _, .str x => .str x
  | _, _, .tup h n r => .tup (by rw [upd_ne (ne_of h hD (by intro z; cases z))]; exact h) n (RepVs.beside hD r)
  | _, _, .ref h => .ref h
  | _, _, .fz h r => .fz (by
      rcases h with ⟨o, h, n⟩ | h
      · exact .inl ⟨o, by rw [upd_ne (ne_of h hD (by intro z; cases z))]; exact h, n⟩
      · exact .inr h) (RepVs.beside hD r)
theorem RepVs.beside (hD : H Da = some (.lst l)) : ∀ {ds : List D} {vs : List V}, RepVs K H js ds vs → RepVs K (upd H Da (.lst l')) js ds vs
  | _, _, .nil => .nil
  | _, _, .cons h t => .cons (RepV.beside hD h) (RepVs.beside hD t)
end
theorem RelS.beside (r : RelS K H js S) (n : Da ∉ js) (hD : H Da = some (.lst l)) : RelS K (upd H Da (.lst l')) js S :=
  ⟨r.len, r.nd, fun m a o e e' => by
    have q := r.obj m a o e e'
    have na : a ≠ Da := fun z => n (by rw [← z]; exact List.mem_of_getElem? e)
    rw [upd_ne na]
    cases o with
    | lst ds =>
      obtain ⟨xs, e1, e2⟩ := q.lst
      rw [e1]
      exact RepVs.beside hD e2
    | dic _ => exact q.elim
    | ins _ _ => exact q.elim⟩
theorem Grow.beside (g : Grow H js H1 js1) (hD : H Da = none) : Grow H js (upd H1 Da (.lst l')) js1 :=
  ⟨g.pre, fun a o n h => by rw [upd_ne (ne_of_none h hD)]; exact g.keep a o n h⟩
end
theorem wipe_get (σ : L2.St) : ∀ (vs : List Nat) (j : Nat), (wipe σ vs)[j]? = if j ∈ vs then (σ[j]?).map (fun _ => none) else σ[j]?
  | [], j => by simp [wipe]
  | v :: vs, j => by
    unfold wipe
    by_cases h : v = j
    · subst h
      rw [if_pos List.mem_cons_self]
      by_cases hl : v < σ.length
      · rw [List.getElem?_set_self (by rw [wipe_length]; exact hl), List.getElem?_eq_getElem hl]
        rfl
      · rw [List.getElem?_eq_none (by rw [List.length_set, wipe_length]; omega), List.getElem?_eq_none (by omega)]
        rfl
    · rw [List.getElem?_set_ne h, wipe_get σ vs j]
      have e : (j ∈ v :: vs) ↔ j ∈ vs := by
        rw [List.mem_cons]
        exact ⟨fun z => z.elim (fun q => absurd q.symm h) id, .inr⟩
      by_cases hj : j ∈ vs
      · rw [if_pos hj, if_pos (e.mpr hj)]
      · rw [if_neg hj, if_neg fun z => hj (e.mp z)]
theorem wipe_back {σ σ2 : L2.St} {vs : List Nat} (hl : σ2.length = σ.length) (h : ∀ j, j ∉ vs → σ2[j]? = (wipe σ vs)[j]?) : wipe σ2 vs = wipe σ vs := by
  refine List.ext_getElem? fun j => ?_
  rw [wipe_get, wipe_get]
  by_cases hj : j ∈ vs
  · rw [if_pos hj, if_pos hj]
    by_cases h1 : j < σ.length
    · rw [List.getElem?_eq_getElem h1, List.getElem?_eq_getElem (by rw [hl]; exact h1)]
      rfl
    · rw [List.getElem?_eq_none (show σ.length ≤ j by omega), List.getElem?_eq_none (show σ2.length ≤ j by omega)]
  · rw [if_neg hj, if_neg hj]
    have := h j hj
    rw [wipe_get, if_neg hj] at this
    exact this

/-! ### one turn of a run -/
def Run {α β : Type} (it : It) (f : D → α → Sto → Out (α ⊕ β)) (i m : Nat) (a : α) (S : Sto) (r : α ⊕ β) (S5 : Sto) : Prop :=
  match it with
  | .fix ds => i + m = ds.length ∧ foldF f (ds.drop i) a S = some (.ok r S5)
  | .dyn n => foldRn f n m i a S = some (.ok r S5)
theorem run_start {α β : Type} {it : It} {f : D → α → Sto → Out (α ⊕ β)} {a : α} {S S5 : Sto} {r : α ⊕ β} (h : foldI f it a S = some (.ok r S5)) : ∃ m, Run it f 0 m a S r S5 := by
  cases it with
  | fix ds => exact ⟨ds.length, by omega, h⟩
  | dyn n => exact foldR_n f n 0 a S _ h
theorem run_step {α β : Type} {K : PySem.W.Frag} {H0 H : Hp} {js0 js : List Addr} {J : L2.It} {it : It} {f : D → α → Sto → Out (α ⊕ β)} {i m : Nat} {a : α} {S S5 : Sto} {r : α ⊕ β}
    (wk : Wk K it J H0 js0) (g : Grow H0 js0 H js) (rs : RelS K H js S) (h : Run it f i m a S r S5) :
    (J.stop i H ∧ r = .inl a ∧ S5 = S) ∨ ∃ d, J.go i H ∧ (∀ x H'', J.yld i H x H'' → Grow H js H'' js ∧ RelS K H'' js S ∧ RepV K H'' js d x) ∧
      ((∃ b S1, f d a S = some (.ok (.inr b) S1) ∧ r = .inr b ∧ S5 = S1) ∨ ∃ a' S1 m', m' < m ∧ f d a S = some (.ok (.inl a') S1) ∧ Run it f (i + 1) m' a' S1 r S5) := by
  cases it with
  | fix ds =>
    obtain ⟨hm, h⟩ := h
    obtain ⟨y1, y2⟩ := (show Yl K J ds H0 js0 from wk) H js S g rs
    by_cases hi : i < ds.length
    · have ed : ds.drop i = ds[i] :: ds.drop (i + 1) := List.drop_eq_getElem_cons hi
      rw [ed] at h
      obtain ⟨z1, z2⟩ := y1 i ds[i] (List.getElem?_eq_getElem hi)
      refine .inr ⟨ds[i], z1, z2, ?_⟩
      unfold foldF at h
      cases e : f ds[i] a S with
      | none => rw [e] at h; cases h
      | some q =>
        cases q with
        | ex c xs S1 => rw [e] at h; cases h
        | ok q S1 =>
          rw [e] at h
          cases q with
          | inr b => cases h; exact .inl ⟨b, _, rfl, rfl, rfl⟩
          | inl a' => exact .inr ⟨a', S1, m - 1, by omega, rfl, by omega, h⟩
    · rw [List.drop_of_length_le (by omega)] at h
      cases h
      exact .inl ⟨y2 i (by omega), rfl, rfl⟩
  | dyn n =>
    obtain ⟨p, hp, rfl⟩ := (show ∃ a, js0[n]? = some a ∧ J = Itl K a from wk)
    have hp := g.at hp
    cases m with
    | zero => cases h
    | succ m =>
      have h : foldRn f n (m + 1) i a S = some (.ok r S5) := h
      unfold foldRn at h
      split at h
      · rename_i ds e
        obtain ⟨p', xs, e1, e2, q⟩ := rs.list e
        rw [hp] at e1; cases e1
        split at h
        · rename_i e3
          cases h
          refine .inl ⟨⟨xs, .inl (.inl e2), ?_⟩, rfl, rfl⟩
          rw [← q.length]
          exact List.getElem?_eq_none_iff.mp e3
        · rename_i d e3
          obtain ⟨v, e4, r4⟩ := q.get e3
          refine .inr ⟨d, ⟨xs, v, .inl (.inl e2), e4⟩, fun x H'' y => ?_, ?_⟩
          · obtain ⟨y1, y2⟩ := y
            subst y1
            have := y2 xs (.inl (.inl e2))
            rw [e4] at this
            cases this
            exact ⟨Grow.refl, rs, r4⟩
          · cases e5 : f d a S with
            | none => rw [e5] at h; cases h
            | some q =>
              cases q with
              | ex c xs S1 => rw [e5] at h; cases h
              | ok q S1 =>
                rw [e5] at h
                cases q with
                | inr b => cases h; exact .inl ⟨b, _, rfl, rfl, rfl⟩
                | inl a' => exact .inr ⟨a', S1, m, by omega, rfl, h⟩
      · cases h
/-! ### a list of ours given to the store -/
section
variable {K : PySem.W.Frag} {H : Hp} {js : List Addr} {S : Sto} {Da : Addr} {l : List V}
mutual
theorem RepV.ext (hD : H Da = some (.lst l)) : ∀ {d : D} {v : V}, RepV K H js d v → RepV K H (js ++ [Da]) d v
  | _, _, .non => .non
  | _, _, .bl b => .bl b
  | _, _, .int i => .int i
  | _, _, .str x => .str x
  | _, _, .tup h n r => .tup h (by
      rw [List.mem_append, List.mem_singleton]
      rintro (z | z)
      · exact n z
      · rw [z, hD] at h; cases h) (RepVs.ext hD r)
  | _, _, .ref h => .ref (by rw [List.getElem?_append_left (List.getElem?_eq_some_iff.mp h).1]; exact h)
  | _, _, .fz h r => .fz (by
      rcases h with ⟨o, h, n⟩ | h
      · refine .inl ⟨o, h, ?_⟩
        rw [List.mem_append, List.mem_singleton]
        rintro (z | z)
        · exact n z
        · rw [z, hD] at h; cases h
      · exact .inr h) (RepVs.ext hD r)
theorem RepVs.ext (hD : H Da = some (.lst l)) : ∀ {ds : List D} {vs : List V}, RepVs K H js ds vs → RepVs K H (js ++ [Da]) ds vs
  | _, _, .nil => .nil
  | _, _, .cons h t => .cons (RepV.ext hD h) (RepVs.ext hD t)
end
theorem RelS.give (r : RelS K H js S) (n : Da ∉ js) (hD : H Da = some (.lst l)) {ds : List D} (q : RepVs K H js ds l) : RelS K H (js ++ [Da]) (S ++ [.lst ds]) := by
  refine ⟨by rw [List.length_append, List.length_append, r.len]; rfl, ?_, fun m a o e e' => ?_⟩
  · refine List.nodup_append.mpr ⟨r.nd, by simp, fun a ha b hb => ?_⟩
    have e : b = Da := by simpa using hb
    subst e
    intro e
    subst e
    exact n ha
  · by_cases hn : m < js.length
    · rw [List.getElem?_append_left hn] at e
      rw [List.getElem?_append_left (by rw [← r.len]; exact hn)] at e'
      have q' := r.obj m a o e e'
      cases o with
      | lst es =>
        obtain ⟨xs, e1, e2⟩ := q'.lst
        rw [e1]
        exact RepVs.ext hD e2
      | dic _ => exact q'.elim
      | ins _ _ => exact q'.elim
    · have hn' : m = js.length := by
        have := (List.getElem?_eq_some_iff.mp e).1
        rw [List.length_append] at this
        simp at this
        omega
      subst hn'
      rw [List.getElem?_append_right (Nat.le_refl _)] at e
      simp at e
      subst e
      rw [r.len, List.getElem?_append_right (Nat.le_refl _)] at e'
      simp at e'
      subst e'
      rw [hD]
      exact RepVs.ext hD q
theorem Grow.give {H0 : Hp} {js0 : List Addr} (g : Grow H0 js0 H js) (n : H0 Da = none) (n0 : Da ∉ js0) (nj : Da ∉ js) : Grow H0 js0 H (js ++ [Da]) := by
  obtain ⟨new, rfl, hn⟩ := g.pre
  refine ⟨⟨new ++ [Da], by rw [List.append_assoc], fun a ha => ?_⟩, g.keep⟩
  rcases List.mem_append.mp ha with z | z
  · exact hn a z
  · have e : a = Da := by simpa using z
    subst e
    exact ⟨n0, n⟩
theorem Grow.none_of {H0 : Hp} {js0 : List Addr} (g : Grow H0 js0 H js) (n : H Da = none) (nj : Da ∉ js) : H0 Da = none ∧ Da ∉ js0 := by
  obtain ⟨new, rfl, hn⟩ := g.pre
  have n0 : Da ∉ js0 := fun z => nj (List.mem_append_left _ z)
  refine ⟨?_, n0⟩
  cases q : H0 Da with
  | none => rfl
  | some o => rw [g.keep _ _ n0 q] at n; cases n
end
end VM
/-! VF: the soundness of expressions. -/
namespace VM
open PySem PySem.Spec PyProof.Rows L2
section
variable {X : Cx} {nm : Nm} {F : Orc}
theorem Good.blk (g : Good X nm F) {scope : Scope} (hk : scope.kind = .function) (s : Shared) (H : Hp) (C : Addr) (cl : List (Str × Addr)) (fp : List Addr) : Good (X.blk s H scope (compEnvC scope cl C X.env) fp) (nm.blk scope) F where
  calm := g.calm
  N := g.N
  nd := g.nd
  sc := by
    show relS scope X.env.scope = relS scope nm.sc
    rw [g.sc]
  kind := hk
  fn := fun x h => h
  hu := g.hu
  bs := g.bs
  gs := g.gs
  call := fun f x h => by
    obtain ⟨CT, k, a, fd, ps, sp, c⟩ := g.call f x h
    exact ⟨CT, k, a, fd, ps, sp, ⟨c.fn, c.room, c.mg, c.kp, c.bi, c.nox, c.sp⟩⟩
/-! #### small rules -/
theorem rdE_const {e : E} {d : D} {v : V} (he : ∀ ρ S, evE F e ρ S = ok d S) (hr : ∀ (K : PySem.W.Frag) (H : Hp) (js : List Addr), RepV K H js d v) {σ : L2.St} {H : Hp} {Q : VK} (h : rdE X.K F e σ H Q) : Q v H := by
  obtain ⟨js, S, ρ, rs, rr, h⟩ := h
  rw [he] at h
  exact h.pure rs (hr _ _ _)
theorem isi_ok (t : Ty) : CallR X (.builtin "isinstance") (fun vs H Q => ∃ vx js S x, vs = [vx, .ty (tyS t)] ∧ RelS X.K H js S ∧ RepV X.K H js x vx ∧ OkE X.K H js (lift (isiD t x S) S) Q) := by
  intro pins s σ H vs us Q I r h
  obtain ⟨vx, js, S, x, rfl, rs, r1, h⟩ := h
  obtain ⟨b, e, q⟩ := h.lift rs
  have go : ∀ (T : String) (k : Kd), kdOf x S = some k → TyX X.K H vx (.type T) → kitB T (tyS t) = some (isKd t k) → wpAny (model X.prog X.w) X.A (PySem.call (.builtin "isinstance") us) (EP X pins σ Q) X.xe s := fun T k ek ty kk => by
    unfold isiD at e
    rw [ek] at e
    cases e
    exact call_isi pins s σ H _ us Q I r ⟨vx, .ty (tyS t), .type T, .type (tyS t), _, rfl, .ty _, ty, kit_ty kk, q⟩
  cases r1 with
  | non => exact go _ .non rfl (.base .non) (by cases t <;> decide +kernel)
  | bl c => exact go _ .bool rfl (.base (.bl c)) (by cases t <;> decide +kernel)
  | int i => exact go _ .int rfl (.base (.int i)) (by cases t <;> decide +kernel)
  | str z => exact go _ .str rfl (.base (.str z)) (by cases t <;> decide +kernel)
  | tup h1 n1 q1 => exact go _ .tuple rfl (.base (.tup h1)) (by cases t <;> decide +kernel)
  | fz h1 q1 =>
    rcases h1 with ⟨o, h1, _⟩ | ⟨o, its, n, h1, h2, _⟩
    · exact go _ .list rfl (.base (.frz h1)) (by cases t <;> decide +kernel)
    · have k : TyX X.K H (.ref _) (.type "list") := .kList h1 h2
      exact go _ .list rfl k (by cases t <;> decide +kernel)
  | @ref n a h1 =>
    cases e2 : S[n]? with
    | none =>
      have : kdOf (.ref n) S = none := by simp only [kdOf, e2]
      unfold isiD at e
      rw [this] at e
      cases e
    | some o =>
      cases o with
      | lst ds =>
        obtain ⟨a', xs, e3, e4, e5⟩ := rs.list e2
        rw [h1] at e3; cases e3
        exact go _ .list (by simp only [kdOf, e2]) (.base (.lst e4)) (by cases t <;> decide +kernel)
      | _ =>
        have : kdOf (.ref n) S = none := by simp only [kdOf, e2]
        unfold isiD at e
        rw [this] at e
        cases e
theorem bs_type (t : Ty) : bootBuiltins (tyN t) = some (.type (tyS t)) := by cases t <;> decide +kernel
theorem ty_name (t : Ty) : tyN t ≠ "__name__" ∧ (tyN t == ("__debug__" : Str)) = false := by cases t <;> exact ⟨by decide, by decide⟩
theorem bi_name (b : Bi) : biN b ≠ "__name__" ∧ (biN b == ("__debug__" : Str)) = false := by cases b <;> exact ⟨by decide, by decide⟩
theorem bi_boot (b : Bi) : bootBuiltins (biN b) = some (biV b) := by cases b <;> decide +kernel

theorem star_all {xs : List Expr} {es : Es} (h : mEs nm es xs = true) (env : Env) (pos : Pos) : (backTo pos (starEach xs env)).any (·.1) = false := by
  induction xs generalizing es with
  | nil => rfl
  | cons x xs ih =>
    cases es with
    | nil => unfold mEs at h; cases h
    | cons e es =>
      simp only [mEs, Bool.and_eq_true] at h
      rw [star_plain h.1.1]
      show (false || (backTo pos (starEach xs env)).any (·.1)) = false
      rw [ih h.2]
      rfl
theorem star_allN {xs : List Expr} {es : Es} (h : mEs nm es xs = true) (env : Env) (pos : Pos) : (backTo pos (starEach xs env)).all (fun x => !x.1) = true := by
  induction xs generalizing es with
  | nil => rfl
  | cons x xs ih =>
    cases es with
    | nil => unfold mEs at h; cases h
    | cons e es =>
      simp only [mEs, Bool.and_eq_true] at h
      rw [star_plain h.1.1]
      show (true && (backTo pos (starEach xs env)).all (fun x => !x.1)) = true
      rw [ih h.2]
      rfl
theorem evEs_len : ∀ (es : Es) (xs : List Expr) (ρ : Rho) (S S1 : Sto) (ds : List D), mEs nm es xs = true → evEs F es ρ S = some (.ok ds S1) → ds.length = xs.length
  | .nil, xs, _, _, _, _, h, e => by
    cases xs with
    | nil => cases e; rfl
    | cons _ _ => unfold mEs at h; cases h
  | .cons e es, xs, ρ, S, S1, ds, h, he => by
    cases xs with
    | nil => unfold mEs at h; cases h
    | cons x xs =>
      simp only [mEs, Bool.and_eq_true] at h
      unfold evEs at he
      cases e1 : evE F e ρ S with
      | none => rw [e1] at he; cases he
      | some r =>
        cases r with
        | ex c ys S2 => rw [e1] at he; cases he
        | ok d S2 =>
          rw [e1] at he
          have he : bd (evEs F es ρ S2) (fun ds S3 => ok (d :: ds) S3) = some (.ok ds S1) := he
          cases e2 : evEs F es ρ S2 with
          | none => rw [e2] at he; cases he
          | some r =>
            cases r with
            | ex c ys S3 => rw [e2] at he; cases he
            | ok ds' S3 =>
              rw [e2] at he
              cases he
              rw [List.length_cons, List.length_cons, evEs_len es xs _ _ _ ds' h.2 e2]

theorem pw_andI {a b : T} {y z : Expr} {r : List Expr} {p : Pos} (ha : PT X y (rdT X.K F a)) (hb : PW X (.BoolOp .And (z :: r) p) (rdT X.K F b)) : PW X (.BoolOp .And (y :: z :: r) p) (rdT X.K F (.and a b)) := by
  refine ⟨fun wh pins s σ H Q I q => ?_⟩
  obtain ⟨js, S, ρ, rs, rr, q⟩ := q
  unfold evT at q
  obtain ⟨t, S1, e1, q⟩ := q.bd
  refine (pw_and ha hb).run wh pins s σ H Q I (rdT.of e1 rs rr fun H1 js1 g1 rs1 => ?_)
  cases t with
  | true =>
    rw [if_pos rfl]
    exact ⟨js1, S1, ρ, rs1, rr.mono g1, q.mono g1⟩
  | false =>
    rw [if_neg Bool.false_ne_true]
    exact OkX.pure (OkX.mono q g1) rs1
theorem pw_orI {a b : T} {y z : Expr} {r : List Expr} {p : Pos} (ha : PT X y (rdT X.K F a)) (hb : PW X (.BoolOp .Or (z :: r) p) (rdT X.K F b)) : PW X (.BoolOp .Or (y :: z :: r) p) (rdT X.K F (.or a b)) := by
  refine ⟨fun wh pins s σ H Q I q => ?_⟩
  obtain ⟨js, S, ρ, rs, rr, q⟩ := q
  unfold evT at q
  obtain ⟨t, S1, e1, q⟩ := q.bd
  refine (pw_or ha hb).run wh pins s σ H Q I (rdT.of e1 rs rr fun H1 js1 g1 rs1 => ?_)
  cases t with
  | true =>
    rw [if_pos rfl]
    exact OkX.pure (OkX.mono q g1) rs1
  | false =>
    rw [if_neg Bool.false_ne_true]
    exact ⟨js1, S1, ρ, rs1, rr.mono g1, q.mono g1⟩
theorem pw_oneI {a : T} {op : BoolOp} {y : Expr} {p : Pos} (ha : PT X y (rdT X.K F a)) : PW X (.BoolOp op [y] p) (rdT X.K F (.one a)) := by
  refine ⟨fun wh pins s σ H Q I q => ?_⟩
  obtain ⟨js, S, ρ, rs, rr, q⟩ := q
  unfold evT at q
  cases op with
  | And => exact (pw_and1 ha).run wh pins s σ H Q I ⟨js, S, ρ, rs, rr, q⟩
  | Or => exact (pw_or1 ha).run wh pins s σ H Q I ⟨js, S, ρ, rs, rr, q⟩
theorem bmTy_list {m : Bm} {x : D} {S : Sto} (h : bmTy m x S = true) : ∃ n ds, x = .ref n ∧ S[n]? = some (.lst ds) := by
  unfold bmTy at h
  simp only at h
  split at h
  · rename_i n
    cases e : S[n]? with
    | none => rw [e] at h; cases h
    | some o =>
      rw [e] at h
      cases o with
      | lst ds => exact ⟨n, ds, rfl, e⟩
      | _ => cases h
  · cases h
theorem lc_read {K : PySem.W.Frag} {elt : E} {tg : Tg} {it : I} {c : T} {own : List (Str × Nat)} {σ : L2.St} {H : Hp} {Q : VK} (hsl : ∀ i ∈ tgSl tg, i ∈ own.map (·.2)) (q : rdE K F (.lc elt tg it c own) σ H Q) :
    tLc (rdI K F it) (rdTg K tg) (rdT K F c) (rdE K F elt) (own.map (·.2)) σ H Q := by
  obtain ⟨js, S, ρ, rs, rr, q⟩ := q
  unfold evE at q
  obtain ⟨i0, S1, e1, q⟩ := q.bd
  obtain ⟨r, S5, e2, q⟩ := q.bd
  cases r with
  | inr e => exact nomatch e
  | inl acc =>
  refine ⟨js, S, ρ, rs, rr, i0, S1, e1, fun H1 js1 J g1 rs1 wk Da hDa => ?_⟩
  have nDa : Da ∉ js1 := rs1.fresh hDa
  obtain ⟨z1, z2⟩ := g1.none_of hDa nDa
  have fin : ∀ (H' : Hp) (js' : List Addr) (xs' : List V), Grow H1 js1 H' js' → RelS K H' js' S5 → Da ∉ js' → H' Da = some (.lst xs') → RepVs K H' js' acc xs' → Q (.ref Da) H' := fun H' js' xs' g' rs' nd hD rv =>
    q _ H' (js' ++ [Da]) ((g1.trans g').give z1 z2 nd) (rs'.give nd hD rv) (.ref (by rw [← rs'.len]; simp))
  obtain ⟨m0, run0⟩ := run_start e2
  generalize hst : (fun (d : D) (acc : List D) (S2 : Sto) => match bindT tg d (wipeR ρ (own.map (·.2))) with
        | none => none
        | some ρ1 => bd (evT F c ρ1 S2) fun t S3 => match t with
          | true => bd (evE F elt ρ1 S3) fun y S4 => if acc.length < sizeLine then ok (.inl (acc ++ [y]) : List D ⊕ Empty) S4 else none
          | false => ok (.inl acc) S3) = st at run0
  refine ⟨fun i m H' => ∃ js' S' acc' xs', Grow H1 js1 H' js' ∧ RelS K H' js' S' ∧ Da ∉ js' ∧ H' Da = some (.lst xs') ∧ RepVs K H' js' acc' xs' ∧ Run i0 st i m acc' S' (.inl acc) S5,
    ⟨m0, js1, S1, [], [], Grow.lay rs1 hDa, rs1.lay hDa, nDa, upd_same, .nil, run0⟩, ?_⟩
  rintro i m H' ⟨js', S', acc', xs', g', rs', nd', hD', rv', run'⟩
  rcases run_step wk g' rs' run' with ⟨stop, e3, e4⟩ | ⟨d, go, yld, nx⟩
  · cases e3
    subst e4
    exact .inl ⟨stop, fin H' js' xs' g' rs' nd' hD' rv'⟩
  · refine .inr ⟨go, fun H2 => ∃ m', m' < m ∧ ∃ js2 S2 acc2 xs2, Grow H1 js1 H2 js2 ∧ RelS K H2 js2 S2 ∧ Da ∉ js2 ∧ H2 Da = some (.lst xs2) ∧ RepVs K H2 js2 acc2 xs2 ∧ Run i0 st (i + 1) m' acc2 S2 (.inl acc) S5, fun H2 h => h, fun x H2 y => ?_⟩
    obtain ⟨g2, rs2, rx⟩ := yld x H2 y
    have wr : RepR K H2 js' (wipeR ρ (own.map (·.2))) (wipe σ (own.map (·.2))) := ((rr.mono (g1.trans g')).mono g2).wipe _
    have hstd := congrFun (congrFun (congrFun hst d) acc') S'
    rcases nx with ⟨b, _⟩ | ⟨acc2, S2, m', hm, e5, run2⟩
    · exact nomatch b
    · rw [← hstd] at e5
      split at e5
      · cases e5
      · rename_i ρ1 eb
        refine ⟨js', d, _, ρ1, rx, wr, eb, fun σ2 r2 hl hj => ⟨?_, ?_⟩⟩
        · refine wipe_back (by rw [hl, wipe_length]) fun j hn => hj j fun z => hn (hsl j z)
        · cases e6 : evT F c ρ1 S' with
          | none => rw [e6] at e5; cases e5
          | some rt =>
            cases rt with
            | ex _ _ _ => rw [e6] at e5; cases e5
            | ok t S3 =>
              rw [e6] at e5
              simp only [bd_ok] at e5
              refine rdT.of e6 rs2 r2 fun H3 js3 g3 rs3 => ?_
              have nd3 : Da ∉ js3 := g3.notin nd' (g2.keep _ _ nd' hD')
              have hD3 : H3 Da = some (.lst xs') := g3.keep _ _ nd' (g2.keep _ _ nd' hD')
              have gg3 : Grow H1 js1 H3 js3 := g'.trans (g2.trans g3)
              cases t with
              | false =>
                cases e5
                simp only [Bool.false_eq_true, if_false]
                exact ⟨m', hm, js3, _, _, xs', gg3, rs3, nd3, hD3, (rv'.mono g2).mono g3, run2⟩
              | true =>
                simp only [if_true]
                cases e7 : evE F elt ρ1 S3 with
                | none => simp only [e7] at e5; cases e5
                | some re =>
                  cases re with
                  | ex _ _ _ => simp only [e7] at e5; cases e5
                  | ok yv S4 =>
                    simp only [e7, bd_ok] at e5
                    split at e5
                    · rename_i hz
                      cases e5
                      refine rdE.of e7 rs3 (r2.mono g3) fun w H4 js4 g4 rs4 r4 => ?_
                      have hD4 : H4 Da = some (.lst xs') := g4.keep _ _ nd3 hD3
                      have nd4 : Da ∉ js4 := g4.notin nd3 hD3
                      have rv4 : RepVs K H4 js4 acc' xs' := ((rv'.mono g2).mono g3).mono g4
                      refine ⟨xs', hD4, by rw [← rv4.length]; exact hz, m', hm, js4, _, _, _, (gg3.trans g4).beside hDa, rs4.beside nd4 hD4, nd4, upd_same, RepVs.beside hD4 (rv4.append (.cons r4 .nil)), run2⟩
                    · cases e5
mutual
theorem sE : ∀ (e : E) (nm : Nm) (x : Expr) (X : Cx), Good X nm F → mE nm e x = true → PE X x (rdE X.K F e)
  | .var i, nm, x, X, g, h => by
    unfold mE at h
    split at h
    · simp only [Bool.and_eq_true, decide_eq_true_eq] at h
      obtain ⟨⟨⟨h1, h2⟩, h3⟩, h4⟩ := h
      refine ⟨fun pins s σ H Q I q => ?_⟩
      obtain ⟨js, S, ρ, rs, rr, q⟩ := q
      refine (pe_var (g.at h1) (g.vis h2) (dbg_of h3) (by simpa using h4)).run pins s σ H Q I ?_
      unfold evE at q
      split at q
      · rename_i d e
        obtain ⟨v, e1, r1⟩ := rr.at_ _ _ e
        exact ⟨v, e1, q.pure rs r1⟩
      · exact q.elim
    · cases h
  | .non, nm, x, X, g, h => by
    unfold mE at h
    split at h
    · exact ⟨fun pins s σ H Q I q => pe_non.run pins s σ H Q I (rdE_const (d := .non) (fun _ _ => by unfold evE; rfl) (fun _ _ _ => .non) q)⟩
    · cases h
  | .bl b, nm, x, X, g, h => by
    unfold mE at h
    split at h
    · simp only [decide_eq_true_eq] at h
      subst h
      exact ⟨fun pins s σ H Q I q => pe_bl.run pins s σ H Q I (rdE_const (d := .bl b) (fun _ _ => by unfold evE; rfl) (fun _ _ _ => .bl b) q)⟩
    · cases h
  | .int i, nm, x, X, g, h => by
    unfold mE at h
    split at h
    · simp only [decide_eq_true_eq] at h
      subst h
      exact ⟨fun pins s σ H Q I q => pe_int.run pins s σ H Q I (rdE_const (d := .int i) (fun _ _ => by unfold evE; rfl) (fun _ _ _ => .int i) q)⟩
    · cases h
  | .str z, nm, x, X, g, h => by
    unfold mE at h
    split at h
    · simp only [decide_eq_true_eq] at h
      subst h
      exact ⟨fun pins s σ H Q I q => pe_str.run pins s σ H Q I (rdE_const (d := .str z) (fun _ _ => by unfold evE; rfl) (fun _ _ _ => .str z) q)⟩
    · cases h
  | .gc z d, nm, x, X, g, h => by
    unfold mE at h
    split at h
    · simp only [Bool.and_eq_true, decide_eq_true_eq] at h
      obtain ⟨⟨⟨h1, h2⟩, h3⟩, h4⟩ := h
      subst h1
      obtain ⟨u, v, m, r, rep⟩ := g.gs _ _ h4
      refine ⟨fun pins s σ H Q I q => ?_⟩
      obtain ⟨js, S, ρ, rs, rr, q⟩ := q
      unfold evE at q
      exact (pe_glob (g.gl h2) m r (dbg_of h3)).run pins s σ H Q I (q.pure rs (rep _ _))
    · cases h
  | .tup es, nm, x, X, g, h => by
    unfold mE at h
    split at h
    · simp only [Bool.and_eq_true, decide_eq_true_eq] at h
      obtain ⟨h1, h2⟩ := h
      refine ⟨fun pins s σ H Q I q => ?_⟩
      obtain ⟨js, S, ρ, rs, rr, q⟩ := q
      unfold evE at q
      obtain ⟨ds, S1, e1, q⟩ := q.bd
      refine (pe_tup (sEs es nm _ X g h2)).run pins s σ H Q I (rdEs.of e1 rs rr fun vs H1 js1 g1 rs1 r1 => ⟨?_, fun p hp => ?_⟩)
      · rw [← r1.length, evEs_len es _ _ _ _ _ h2 e1, sizeLine_eq]
        omega
      · exact (q.mono g1).tup rs1 r1 hp
    · cases h
  | .lst es, nm, x, X, g, h => by
    unfold mE at h
    split at h
    · simp only [Bool.and_eq_true, decide_eq_true_eq] at h
      obtain ⟨h1, h2⟩ := h
      refine ⟨fun pins s σ H Q I q => ?_⟩
      obtain ⟨js, S, ρ, rs, rr, q⟩ := q
      unfold evE at q
      obtain ⟨ds, S1, e1, q⟩ := q.bd
      refine (pe_lst (sEs es nm _ X g h2)).run pins s σ H Q I (rdEs.of e1 rs rr fun vs H1 js1 g1 rs1 r1 => ⟨?_, fun p hp => ?_⟩)
      · rw [← r1.length, evEs_len es _ _ _ _ _ h2 e1, sizeLine_eq]
        omega
      · exact (q.mono g1).lst rs1 r1 hp
    · cases h
  | .bin op a b, nm, x, X, g, h => by
    unfold mE at h
    split at h
    · simp only [Bool.and_eq_true] at h
      obtain ⟨⟨⟨⟨h0, h1⟩, h2⟩, h3⟩, h4⟩ := h
      rw [opB_of h0]
      refine ⟨fun pins s σ H Q I q => ?_⟩
      obtain ⟨js, S, ρ, rs, rr, q⟩ := q
      unfold evE at q
      obtain ⟨x1, S1, e1, q⟩ := q.bd
      obtain ⟨x2, S2, e2, q⟩ := q.bd
      exact (pe_op (bop_ok op) (sE a nm _ X g h2) (sE b nm _ X g h4)).run pins s σ H Q I (rdE.of e1 rs rr fun v1 H1 js1 g1 rs1 r1 =>
        rdE.of e2 rs1 (rr.mono g1) fun v2 H2 js2 g2 rs2 r2 => ⟨js2, S2, x1, x2, rs2, r1.mono g2, r2, q.mono (g1.trans g2)⟩)
    · cases h
  | .neg a, nm, x, X, g, h => by
    unfold mE at h
    split at h
    · simp only [Bool.and_eq_true] at h
      refine ⟨fun pins s σ H Q I q => ?_⟩
      obtain ⟨js, S, ρ, rs, rr, q⟩ := q
      unfold evE at q
      obtain ⟨x1, S1, e1, q⟩ := q.bd
      refine (pe_un un_neg (sE a nm _ X g h.2)).run pins s σ H Q I (rdE.of e1 rs rr fun v1 H1 js1 g1 rs1 r1 => ?_)
      split at q
      · cases r1
        exact ⟨_, rfl, (q.mono g1).pure rs1 (.int _)⟩
      · exact q.elim
    · cases h
  | .cmp op a b, nm, x, X, g, h => by
    unfold mE at h
    split at h
    · simp only [Bool.and_eq_true] at h
      obtain ⟨⟨⟨⟨h0, h1⟩, h2⟩, h3⟩, h4⟩ := h
      rw [cmB_of h0]
      refine ⟨fun pins s σ H Q I q => ?_⟩
      obtain ⟨js, S, ρ, rs, rr, q⟩ := q
      unfold evE at q
      obtain ⟨x1, S1, e1, q⟩ := q.bd
      obtain ⟨x2, S2, e2, q⟩ := q.bd
      exact (pe_cmpR (cop_ok op g.hu) (sE a nm _ X g h2) (sE b nm _ X g h4) (behind_plain h3 _)).run pins s σ H Q I (rdE.of e1 rs rr fun v1 H1 js1 g1 rs1 r1 =>
        rdE.of e2 rs1 (rr.mono g1) fun v2 H2 js2 g2 rs2 r2 => ⟨js2, S2, x1, x2, rs2, r1.mono g2, r2, q.mono (g1.trans g2)⟩)
    · cases h
  | .chain op op' a b c, nm, x, X, g, h => by
    unfold mE at h
    split at h
    · simp only [Bool.and_eq_true] at h
      obtain ⟨⟨⟨⟨⟨⟨⟨h0, h0'⟩, h1⟩, h2⟩, h3⟩, h4⟩, h5⟩, h6⟩ := h
      rw [cmB_of h0, cmB_of h0']
      refine ⟨fun pins s σ H Q I q => ?_⟩
      obtain ⟨js, S, ρ, rs, rr, q⟩ := q
      unfold evE at q
      obtain ⟨x1, S1, e1, q⟩ := q.bd
      obtain ⟨x2, S2, e2, q⟩ := q.bd
      refine (pe_chain (cop_ok op g.hu) (cop_ok op' g.hu) (sE a nm _ X g h2) (sE b nm _ X g h4) (sE c nm _ X g h6) (hm := (behind_plain h5 _ : behindInMarks _ _ = false))).run pins s σ H Q I (rdE.of e1 rs rr fun v1 H1 js1 g1 rs1 r1 =>
        rdE.of e2 rs1 (rr.mono g1) fun v2 H2 js2 g2 rs2 r2 => ⟨js2, S2, x1, x2, rs2, r1.mono g2, r2, ?_⟩)
      split at q
      · rename_i e3
        obtain ⟨x3, S3, e4, q⟩ := q.bd
        refine copB_ok e3 fun H3 js3 g3 rs3 => ⟨true, rfl, ?_⟩
        simp only [if_true]
        exact rdE.of e4 rs3 (rr.mono (g1.trans (g2.trans g3))) fun v3 H4 js4 g4 rs4 r4 => ⟨js4, S3, x2, x3, rs4, (r2.mono g3).mono g4, r4, q.mono (g1.trans (g2.trans (g3.trans g4)))⟩
      · rename_i e3
        refine copB_ok e3 fun H3 js3 g3 rs3 => ⟨false, rfl, ?_⟩
        simp only [Bool.false_eq_true, if_false]
        exact (q.mono (g1.trans (g2.trans g3))).pure rs3 (.bl false)
      · exact q.elim
    · cases h
  | .and a b, nm, x, X, g, h => by
    unfold mE at h
    split at h
    · simp only [Bool.and_eq_true] at h
      obtain ⟨⟨h1, h2⟩, h3⟩ := h
      refine ⟨fun pins s σ H Q I q => ?_⟩
      obtain ⟨js, S, ρ, rs, rr, q⟩ := q
      unfold evE at q
      obtain ⟨x1, S1, e1, q⟩ := q.bd
      refine (pe_and (sE a nm _ X g h2) (sE b nm _ X g h3)).run pins s σ H Q I (rdE.of e1 rs rr fun v1 H1 js1 g1 rs1 r1 => ?_)
      split at q
      · cases r1
        exact ⟨true, rfl, by rw [if_pos rfl]; exact ⟨js1, S1, ρ, rs1, rr.mono g1, q.mono g1⟩⟩
      · cases r1
        exact ⟨false, rfl, by rw [if_neg Bool.false_ne_true]; exact (q.mono g1).pure rs1 (.bl false)⟩
      · exact q.elim
    · cases h
  | .or a b, nm, x, X, g, h => by
    unfold mE at h
    split at h
    · simp only [Bool.and_eq_true] at h
      obtain ⟨⟨h1, h2⟩, h3⟩ := h
      refine ⟨fun pins s σ H Q I q => ?_⟩
      obtain ⟨js, S, ρ, rs, rr, q⟩ := q
      unfold evE at q
      obtain ⟨x1, S1, e1, q⟩ := q.bd
      refine (pe_or (sE a nm _ X g h2) (sE b nm _ X g h3)).run pins s σ H Q I (rdE.of e1 rs rr fun v1 H1 js1 g1 rs1 r1 => ?_)
      split at q
      · cases r1
        exact ⟨true, rfl, by rw [if_pos rfl]; exact (q.mono g1).pure rs1 (.bl true)⟩
      · cases r1
        exact ⟨false, rfl, by rw [if_neg Bool.false_ne_true]; exact ⟨js1, S1, ρ, rs1, rr.mono g1, q.mono g1⟩⟩
      · exact q.elim
    · cases h
  | .one a, nm, x, X, g, h => by
    unfold mE at h
    split at h
    · simp only [Bool.and_eq_true] at h
      refine ⟨fun pins s σ H Q I q => ?_⟩
      obtain ⟨js, S, ρ, rs, rr, q⟩ := q
      unfold evE at q
      exact (pe_one (sE a nm _ X g h.2)).run pins s σ H Q I ⟨js, S, ρ, rs, rr, q⟩
    · cases h
  | .not a, nm, x, X, g, h => by
    unfold mE at h
    split at h
    · simp only [Bool.and_eq_true] at h
      refine ⟨fun pins s σ H Q I q => ?_⟩
      obtain ⟨js, S, ρ, rs, rr, q⟩ := q
      unfold evE at q
      obtain ⟨x1, S1, e1, q⟩ := q.bd
      refine (pe_not (sE a nm _ X g h.2)).run pins s σ H Q I (rdE.of e1 rs rr fun v1 H1 js1 g1 rs1 r1 => ?_)
      split at q
      · cases r1
        exact ⟨_, rfl, (q.mono g1).pure rs1 (.bl _)⟩
      · exact q.elim
    · cases h
  | .ite c a b, nm, x, X, g, h => by
    unfold mE at h
    split at h
    · simp only [Bool.and_eq_true] at h
      obtain ⟨⟨⟨⟨⟨h1, h2⟩, h3⟩, h4⟩, h5⟩, h6⟩ := h
      refine ⟨fun pins s σ H Q I q => ?_⟩
      obtain ⟨js, S, ρ, rs, rr, q⟩ := q
      unfold evE at q
      obtain ⟨t, S1, e1, q⟩ := q.bd
      refine (pe_ifExp (sT c nm _ X g h2) (sE a nm _ X g h4) (sE b nm _ X g h6)).run pins s σ H Q I (rdT.of e1 rs rr fun H1 js1 g1 rs1 => ?_)
      cases t with
      | true =>
        rw [if_pos rfl]
        exact ⟨js1, S1, ρ, rs1, rr.mono g1, q.mono g1⟩
      | false =>
        rw [if_neg Bool.false_ne_true]
        exact ⟨js1, S1, ρ, rs1, rr.mono g1, q.mono g1⟩
    · cases h
  | .idx a i, nm, x, X, g, h => by
    unfold mE at h
    split at h
    · simp only [Bool.and_eq_true] at h
      obtain ⟨⟨⟨h1, h2⟩, h3⟩, h4⟩ := h
      refine ⟨fun pins s σ H Q I q => ?_⟩
      obtain ⟨js, S, ρ, rs, rr, q⟩ := q
      unfold evE at q
      obtain ⟨x1, S1, e1, q⟩ := q.bd
      obtain ⟨x2, S2, e2, q⟩ := q.bd
      exact (pe_ix idx_ok (sE a nm _ X g h2) (sE i nm _ X g h4) (plainIx h3)).run pins s σ H Q I (rdE.of e1 rs rr fun v1 H1 js1 g1 rs1 r1 =>
        rdE.of e2 rs1 (rr.mono g1) fun v2 H2 js2 g2 rs2 r2 => ⟨js2, S2, x1, x2, rs2, r1.mono g2, r2, q.mono (g1.trans g2)⟩)
    · cases h
  | .sl a lo hi, nm, x, X, g, h => by
    unfold mE at h
    split at h
    · simp only [Bool.and_eq_true] at h
      obtain ⟨⟨⟨h1, h2⟩, h3⟩, h4⟩ := h
      refine ⟨fun pins s σ H Q I q => ?_⟩
      obtain ⟨js, S, ρ, rs, rr, q⟩ := q
      unfold evE at q
      obtain ⟨x1, S1, e1, q⟩ := q.bd
      obtain ⟨l, S2, e2, q⟩ := q.bd
      obtain ⟨u, S3, e3, q⟩ := q.bd
      exact (pe_slice sl_ok (sE a nm _ X g h2) (sP lo nm _ X g h3) (sP hi nm _ X g h4)).run pins s σ H Q I (rdE.of e1 rs rr fun v1 H1 js1 g1 rs1 r1 =>
        rdP.of e2 rs1 (rr.mono g1) fun H2 js2 g2 rs2 => rdP.of e3 rs2 (rr.mono (g1.trans g2)) fun H3 js3 g3 rs3 => ⟨js3, S3, x1, rs3, (r1.mono g2).mono g3, q.mono (g1.trans (g2.trans g3))⟩)
    · cases h
  | .rev a, nm, x, X, g, h => by
    unfold mE at h
    split at h
    · simp only [Bool.and_eq_true, decide_eq_true_eq] at h
      obtain ⟨⟨h0, h1⟩, h2⟩ := h
      subst h0
      refine ⟨fun pins s σ H Q I q => ?_⟩
      obtain ⟨js, S, ρ, rs, rr, q⟩ := q
      unfold evE at q
      obtain ⟨x1, S1, e1, q⟩ := q.bd
      refine (pe_revL (sE a nm _ X g h2)).run pins s σ H Q I (rdE.of e1 rs rr fun v1 H1 js1 g1 rs1 r1 => ?_)
      unfold revD at q
      split at q
      · exact q.elim
      · rename_i nt
        split at q
        · rename_i ds e
          obtain ⟨p, xs, ev, rv, hh⟩ := itemsOf_seq e rs1 r1
          subst ev
          rcases hh with ⟨_, hh⟩ | ⟨hh, _⟩
          · exact absurd hh (nt ds)
          · exact ⟨p, xs, rfl, hh, fun p' hp => (q.mono g1).lst rs1 rv.reverse hp⟩
        · exact q.elim
    · cases h
  | .call f es, nm, x, X, g, h => by
    unfold mE at h
    split at h
    · rename_i z p xs pos
      simp only [Bool.and_eq_true, decide_eq_true_eq] at h
      obtain ⟨⟨⟨h1, h2⟩, h3⟩, h4⟩ := h
      obtain ⟨CT, k, a, fd, ps, sp, c⟩ := g.call f _ h1
      have pass : Passes CT X E0 := fun _ _ _ _ _ _ _ hh => (c.nox _ _ _ _ _ hh).elim
      refine ⟨fun pins s σ H Q I q => ?_⟩
      obtain ⟨js, S, ρ, rs, rr, q⟩ := q
      unfold evE at q
      obtain ⟨ds, S1, e1, q⟩ := q.bd
      have fin : ∀ (v : List V) (H1 : Hp) (js1 : List Addr), Grow H js H1 js1 → RelS X.K H1 js1 S1 → RepVs X.K H1 js1 ds v → sp (v ++ []) H1 Q E0 := fun v H1 js1 g1 rs1 r1 => by
        rw [List.append_nil]
        exact c.sp v H1 Q ⟨js1, S1, ds, rs1, r1, q.mono g1⟩
      cases xs with
      | nil =>
        cases es with
        | cons _ _ => unfold mEs at h4; cases h4
        | nil =>
          unfold evEs at e1
          cases e1
          exact (pe_call0 (ds := []) (dvs := []) c.fn c.room (g.gl h2) c.mg c.kp c.bi .nil pass (dbg_of h3)).run pins s σ H Q I (fin [] H js Grow.refl rs .nil)
      | cons y ys =>
        have hy : plainX y = true ∧ ∃ es', mEs nm es' ys = true := by
          cases es with
          | nil => unfold mEs at h4; cases h4
          | cons e es' =>
            simp only [mEs, Bool.and_eq_true] at h4
            exact ⟨h4.1.1, es', h4.2⟩
        obtain ⟨hy1, es', hy2⟩ := hy
        exact (pe_call (ds := []) (dvs := []) c.fn c.room (g.gl h2) c.mg c.kp c.bi .nil pass (sEs es nm _ X g h4) (dbg_of h3) (star_plain hy1 _ _) (star_all hy2 _ _)).run pins s σ H Q I (rdEs.of e1 rs rr fin)
    · cases h
  | .bi b es, nm, x, X, g, h => by
    unfold mE at h
    split at h
    · rename_i z p y ys pos
      simp only [Bool.and_eq_true, decide_eq_true_eq] at h
      obtain ⟨⟨⟨h1, h2⟩, h3⟩, h4⟩ := h
      subst h1
      have hy : plainX y = true ∧ ∃ es', mEs nm es' ys = true := by
        cases es with
        | nil => unfold mEs at h4; cases h4
        | cons e es' =>
          simp only [mEs, Bool.and_eq_true] at h4
          exact ⟨h4.1.1, es', h4.2⟩
      obtain ⟨hy1, es', hy2⟩ := hy
      refine ⟨fun pins s σ H Q I q => ?_⟩
      obtain ⟨js, S, ρ, rs, rr, q⟩ := q
      unfold evE at q
      obtain ⟨ds, S1, e1, q⟩ := q.bd
      have rd : rdEs X.K F es σ H (fun vs H1 => rBi X.K (biD b) vs H1 Q) := rdEs.of e1 rs rr fun v H1 js1 g1 rs1 r1 => ⟨js1, S1, ds, rs1, r1, q.mono g1⟩
      have hb := bi_boot b
      have hc := bi_ok (X := X) b
      obtain ⟨n1, n2⟩ := bi_name b
      cases b <;> first
        | exact (pe_callB hc (g.gl h2) (g.bs _ h3) hb (sEs es nm _ X g h4) n1 n2 (star_plain hy1 _ _) (star_all hy2 _ _)).run pins s σ H Q I rd
        | exact (pe_callTy hc (g.gl h2) (g.bs _ h3) hb (sEs es nm _ X g h4) n1 n2 (star_plain hy1 _ _) (star_all hy2 _ _)).run pins s σ H Q I rd
    · cases h
  | .bm m o es, nm, x, X, g, h => by
    unfold mE at h
    split at h
    · rename_i y a apos z zs cpos
      simp only [Bool.and_eq_true, decide_eq_true_eq] at h
      obtain ⟨⟨⟨⟨⟨⟨h1, h2⟩, h3⟩, h4⟩, h5⟩, h6⟩, h7⟩ := h
      subst h1
      have hy : plainX z = true ∧ ∃ es', mEs nm es' zs = true := by
        cases es with
        | nil => unfold mEs at h7; cases h7
        | cons e es' =>
          simp only [mEs, Bool.and_eq_true] at h7
          exact ⟨h7.1.1, es', h7.2⟩
      obtain ⟨hy1, es', hy2⟩ := hy
      have hfew : ((backTo cpos (starEach (z :: zs) X.env)).all (fun x => !x.1) && (backToKw cpos (keywordEach [] X.env)).all (fun x => x.1.isSome)
          && decide ((z :: zs).length + ([] : List Keyword).length + (if ([] : List Keyword).isEmpty then 0 else 1) < 30)) = true := by
        rw [star_allN h7]
        simp only [Bool.true_and, Bool.and_eq_true, decide_eq_true_eq]
        exact ⟨rfl, by simp only [List.length_nil, List.isEmpty_nil, if_true]; omega⟩
      refine ⟨fun pins s σ H Q I q => ?_⟩
      obtain ⟨js, S, ρ, rs, rr, q⟩ := q
      unfold evE at q
      obtain ⟨x1, S1, e1, q⟩ := q.bd
      split at q
      rotate_left
      · exact q.elim
      rename_i ty
      obtain ⟨ds, S2, e2, q⟩ := q.bd
      cases m with
      | append =>
        refine (pe_bm PySem.F.plainAttrs_list PySem.F.slot_list_append PySem.F.type_list_append append_ok (sE o nm _ X g h6) (sEs es nm _ X g h7) (noSup_base h2 _ _) hfew h3 (star_plain hy1 _ _) (star_all hy2 _ _)).run pins s σ H Q I
          (rdE.of e1 rs rr fun v1 H1 js1 g1 rs1 r1 => ⟨?_, rdEs.of e2 rs1 (rr.mono g1) fun vs H2 js2 g2 rs2 r2 => ⟨js2, S2, x1, ds, rs2, r1.mono g2, r2, q.mono (g1.trans g2)⟩⟩)
        obtain ⟨n, ds', ex, e3⟩ := bmTy_list ty
        subst ex
        cases r1 with
        | ref h1 =>
          obtain ⟨a', xs, e4, e5, _⟩ := rs1.list e3
          rw [h1] at e4; cases e4
          exact .inl ⟨rfl, xs, .inl (.inl e5)⟩
      | insert => exact q.elim
    · cases h
  | .isi a t, nm, x, X, g, h => by
    unfold mE at h
    split at h
    · simp only [Bool.and_eq_true, decide_eq_true_eq] at h
      obtain ⟨⟨⟨⟨⟨⟨⟨h1, h2⟩, h3⟩, h4⟩, h5⟩, h6⟩, h7⟩, h8⟩ := h
      subst h1 h4
      refine ⟨fun pins s σ H Q I q => ?_⟩
      obtain ⟨js, S, ρ, rs, rr, q⟩ := q
      unfold evE at q
      obtain ⟨x1, S1, e1, q⟩ := q.bd
      obtain ⟨n1, n2⟩ := ty_name t
      exact (pe_callB (isi_ok t) (g.gl h2) (g.bs _ h3) (by decide +kernel) (pa_cons (sE a nm _ X g h8) (pa_cons (pe_bltn (v := .ty (tyS t)) (g.gl h5) (g.bs _ h6) (bs_type t) rfl n1 n2) pa_nil (by rfl)) (star_plain h7 _ _)) (by decide) (by decide) (star_plain h7 _ _) (by rfl)).run pins s σ H Q I
        (rdE.of e1 rs rr fun v1 H1 js1 g1 rs1 r1 => ⟨v1, js1, S1, x1, rfl, rs1, r1, q.mono g1⟩)
    · cases h
  | .lrg a, nm, x, X, g, h => by
    unfold mE at h
    split at h
    · simp only [Bool.and_eq_true, decide_eq_true_eq] at h
      obtain ⟨⟨⟨⟨⟨⟨⟨h1, h2⟩, h3⟩, h4⟩, h5⟩, h6⟩, h7⟩, h8⟩ := h
      subst h1 h4
      refine ⟨fun pins s σ H Q I q => ?_⟩
      obtain ⟨js, S, ρ, rs, rr, q⟩ := q
      unfold evE at q
      obtain ⟨x1, S1, e1, q⟩ := q.bd
      refine (pe_listRg g.calm (g.gl h2) (g.bs _ h3) (prg_1 (g.gl h5) (g.bs _ h6) (sE a nm _ X g h8) (star_plain h7 _ _)) (by rfl)).run pins s σ H Q I (rdE.of e1 rs rr fun v1 H1 js1 g1 rs1 r1 => ?_)
      split at q
      · split at q
        · rename_i j hj
          cases r1
          refine ⟨_, rfl, ⟨by omega, by omega, hj.1, hj.2.1, by rw [Int.sub_zero]; exact hj.2.2⟩, fun p hp => ?_⟩
          have rv : RepVs X.K H1 js1 ((List.range j.toNat).map fun (k : Nat) => D.int k) (rgV 0 j) := by
            unfold rgV
            rw [Int.sub_zero]
            generalize List.range j.toNat = l
            induction l with
            | nil => exact .nil
            | cons k l ih =>
              refine .cons ?_ ih
              show RepV X.K H1 js1 (D.int k) (V.int (0 + (k : Nat)))
              rw [Int.zero_add]
              exact .int _
          exact (q.mono g1).lst rs1 rv hp
        · exact q.elim
      · exact q.elim
    · cases h
  | .lc elt tg it c own, nm, x, X, g, h => by
    unfold mE at h
    split at h
    · rename_i y tx ix ifs n scope pos
      simp only [Bool.and_eq_true, decide_eq_true_eq] at h
      obtain ⟨⟨⟨⟨⟨⟨⟨⟨h0, h1⟩, h2⟩, h3⟩, h4⟩, h5⟩, h6⟩, h7⟩, h8⟩ := h
      subst h0
      have ok : BlkOk X.N X.env.scope scope own := by
        rw [g.N, g.sc]
        exact blkOk_by h2
      have gb := fun (s : Shared) (H : Hp) (C : Addr) (cl : List (Str × Addr)) (fp : List Addr) => g.blk ok.kind s H C cl fp
      have ht : ∀ (s : Shared) (H : Hp) (C : Addr) (cl : List (Str × Addr)) (fp : List Addr), PTs (X.blk s H scope (compEnvC scope cl C X.env) fp) ifs (rdT X.K F c) := fun s H C cl fp => by
        split at h6
        · split at h6
          · refine ⟨fun pins s σ H Q I q => pts_nil.run pins s σ H Q I ?_⟩
            obtain ⟨js, S, ρ, rs, rr, q⟩ := q
            unfold evT at q
            exact q.pure rs
          · cases h6
        · rw [Bool.and_eq_true] at h6
          exact pts_one (sT c _ _ _ (gb s H C cl fp) h6.2)
        · cases h6
      refine ⟨fun pins s σ H Q I q => ?_⟩
      refine (pe_lc (own := own) (te := rdE X.K F elt) (g := rdTg X.K tg) (tt := rdT X.K F c) (wi := rdI X.K F it) g.calm g.nd (sI it nm _ X g h5 tx) ok (fun s H C cl fp => sTg (gb s H C cl fp) tg _ h3) ht (fun s H C cl fp => sE elt _ _ _ (gb s H C cl fp) h8) (folded_plain h4 _)).run pins s σ H Q I ?_
      exact lc_read (fun i hi => by
        have := List.all_eq_true.mp h1 i hi
        exact of_decide_eq_true this) q
    · cases h
theorem sEs : ∀ (es : Es) (nm : Nm) (xs : List Expr) (X : Cx), Good X nm F → mEs nm es xs = true → PA X xs (rdEs X.K F es)
  | .nil, nm, xs, X, g, h => by
    unfold mEs at h
    split at h
    · refine ⟨fun pos pins s σ H Q I q => ?_⟩
      obtain ⟨js, S, ρ, rs, rr, q⟩ := q
      unfold evEs at q
      exact pa_nil.run pos pins s σ H Q I (q [] H js Grow.refl rs .nil)
    · cases h
  | .cons e es, nm, xs, X, g, h => by
    unfold mEs at h
    split at h
    · simp only [Bool.and_eq_true] at h
      obtain ⟨⟨h1, h2⟩, h3⟩ := h
      refine ⟨fun pos pins s σ H Q I q => ?_⟩
      obtain ⟨js, S, ρ, rs, rr, q⟩ := q
      unfold evEs at q
      obtain ⟨x1, S1, e1, q⟩ := q.bd
      obtain ⟨ds, S2, e2, q⟩ := q.bd
      exact (pa_cons (sE e nm _ X g h2) (sEs es nm _ X g h3) (star_plain h1 _ _)).run pos pins s σ H Q I (rdE.of e1 rs rr fun v1 H1 js1 g1 rs1 r1 =>
        rdEs.of e2 rs1 (rr.mono g1) fun vs H2 js2 g2 rs2 r2 => (q.mono (g1.trans g2)) _ _ js2 Grow.refl rs2 (.cons (r1.mono g2) r2))
    · cases h
theorem sP : ∀ (p : P) (nm : Nm) (x : Option Expr) (X : Cx), Good X nm F → mP nm p x = true → PO X x (rdP X.K F p)
  | .no, nm, x, X, g, h => by
    unfold mP at h
    split at h
    · refine ⟨fun pins s σ H Q I q => ?_⟩
      obtain ⟨js, S, ρ, rs, rr, q⟩ := q
      unfold evP at q
      exact po_none.run pins s σ H Q I (q.pure rs)
    · cases h
  | .e e, nm, x, X, g, h => by
    unfold mP at h
    split at h
    · simp only [Bool.and_eq_true] at h
      refine ⟨fun pins s σ H Q I q => ?_⟩
      obtain ⟨js, S, ρ, rs, rr, q⟩ := q
      unfold evP at q
      obtain ⟨x1, S1, e1, q⟩ := q.bd
      refine (po_some (sE e nm _ X g h.2)).run pins s σ H Q I (rdE.of e1 rs rr fun v1 H1 js1 g1 rs1 r1 => ?_)
      split at q
      · cases r1
        exact ⟨_, rfl, (q.mono g1).pure rs1⟩
      · exact q.elim
    · cases h
theorem sI : ∀ (i : I) (nm : Nm) (x : Expr) (X : Cx), Good X nm F → mI nm i x = true → ∀ tg, PI X tg x (rdI X.K F i)
  | .seq e, nm, x, X, g, h => fun tg => by
    unfold mI at h
    refine ⟨fun pins s σ H R I q => ?_⟩
    obtain ⟨js, S, ρ, rs, rr, it, S2, e1, q⟩ := q
    unfold evI at e1
    cases e2 : evE F e ρ S with
    | none => rw [e2] at e1; cases e1
    | some r =>
      cases r with
      | ex _ _ _ => rw [e2] at e1; cases e1
      | ok d S1 =>
        rw [e2] at e1
        simp only [bd_ok] at e1
        have se := sE e nm _ X g h
        cases d with
        | tup ds =>
          cases e1
          refine (pi_tup se).run pins s σ H R I (rdE.of e2 rs rr fun v1 H1 js1 g1 rs1 r1 => ?_)
          cases r1 with
          | tup h1 n1 q1 => exact ⟨_, rfl, ⟨_, .inl (.inl h1)⟩, q H1 js1 _ g1 rs1 (yl_tup h1 n1 q1)⟩
        | fz ds =>
          cases e1
          refine (pi_list se).run pins s σ H R I (rdE.of e2 rs rr fun v1 H1 js1 g1 rs1 r1 => ?_)
          cases r1 with
          | fz h1 q1 => exact ⟨_, rfl, ⟨_, h1.sq⟩, q H1 js1 _ g1 rs1 (yl_fz h1 q1)⟩
        | str z =>
          cases e1
          refine (pi_str se).run pins s σ H R I (rdE.of e2 rs rr fun v1 H1 js1 g1 rs1 r1 => ?_)
          cases r1
          exact ⟨_, rfl, q H1 js1 _ g1 rs1 yl_str⟩
        | ref n =>
          simp only at e1
          split at e1
          · rename_i ds e3
            cases e1
            refine (pi_list se).run pins s σ H R I (rdE.of e2 rs rr fun v1 H1 js1 g1 rs1 r1 => ?_)
            cases r1 with
            | ref h1 =>
              obtain ⟨a', xs, e4, e5, _⟩ := rs1.list e3
              rw [h1] at e4; cases e4
              exact ⟨_, rfl, ⟨xs, .inl (.inl e5)⟩, q H1 js1 _ g1 rs1 ⟨_, h1, rfl⟩⟩
          · cases e1
        | _ => cases e1
  | .rng1 a, nm, x, X, g, h => fun tg => by
    unfold mI at h
    split at h
    · simp only [Bool.and_eq_true, decide_eq_true_eq] at h
      obtain ⟨⟨⟨⟨h1, h2⟩, h3⟩, h4⟩, h5⟩ := h
      subst h1
      refine ⟨fun pins s σ H R I q => ?_⟩
      obtain ⟨js, S, ρ, rs, rr, it, S2, e1, q⟩ := q
      unfold evI at e1
      cases e2 : evE F a ρ S with
      | none => rw [e2] at e1; cases e1
      | some r =>
        cases r with
        | ex _ _ _ => rw [e2] at e1; cases e1
        | ok d S1 =>
          rw [e2] at e1
          simp only [bd_ok] at e1
          split at e1
          · split at e1
            · rename_i j hj
              cases e1
              refine (pi_range1 (g.gl h2) (g.bs _ h3) (pa_cons (sE a nm _ X g h5) pa_nil (star_plain h4 _ _)) (star_plain h4 _ _)).run pins s σ H R I (rdE.of e2 rs rr fun v1 H1 js1 g1 rs1 r1 => ?_)
              cases r1
              refine ⟨_, rfl, hj.1, hj.2, q H1 js1 _ g1 rs1 ?_⟩
              have y := yl_rng (K := X.K) (H := H1) (js := js1) (lo := 0) (n := j.toNat)
              simp only [Int.zero_add] at y
              exact y
            · cases e1
          · cases e1
    · cases h
  | .rng2 a b, nm, x, X, g, h => fun tg => by
    unfold mI at h
    split at h
    · simp only [Bool.and_eq_true, decide_eq_true_eq] at h
      obtain ⟨⟨⟨⟨⟨⟨h1, h2⟩, h3⟩, h4⟩, h5⟩, h6⟩, h7⟩ := h
      subst h1
      refine ⟨fun pins s σ H R I q => ?_⟩
      obtain ⟨js, S, ρ, rs, rr, it, S3, e1, q⟩ := q
      unfold evI at e1
      cases e2 : evE F a ρ S with
      | none => rw [e2] at e1; cases e1
      | some r =>
        cases r with
        | ex _ _ _ => rw [e2] at e1; cases e1
        | ok d S1 =>
          rw [e2] at e1
          simp only [bd_ok] at e1
          cases e3 : evE F b ρ S1 with
          | none => rw [e3] at e1; cases e1
          | some r2 =>
            cases r2 with
            | ex _ _ _ => rw [e3] at e1; cases e1
            | ok d2 S2 =>
              rw [e3] at e1
              simp only [bd_ok] at e1
              split at e1
              · split at e1
                · rename_i i j hj
                  cases e1
                  refine (pi_range2 (g.gl h2) (g.bs _ h3) (pa_cons (sE a nm _ X g h5) (pa_cons (sE b nm _ X g h7) pa_nil (star_plain h6 _ _)) (star_plain h4 _ _)) (by rw [star_plain h4, star_plain h6]; rfl) (star_plain h6 _ _)).run pins s σ H R I
                    (rdE.of e2 rs rr fun v1 H1 js1 g1 rs1 r1 => rdE.of e3 rs1 (rr.mono g1) fun v2 H2 js2 g2 rs2 r2 => ?_)
                  cases r1
                  cases r2
                  exact ⟨_, _, rfl, hj, q H2 js2 _ (g1.trans g2) rs2 yl_rng⟩
                · cases e1
              · cases e1
    · cases h
theorem sT : ∀ (t : T) (nm : Nm) (x : Expr) (X : Cx), Good X nm F → mT nm t x = true → PT X x (rdT X.K F t)
  | .yes, nm, x, X, g, h => by unfold mT at h; cases h
  | .v e, nm, x, X, g, h => by
    unfold mT at h
    simp only [Bool.and_eq_true] at h
    refine ⟨fun pins s σ H Q I q => ?_⟩
    obtain ⟨js, S, ρ, rs, rr, q⟩ := q
    unfold evT at q
    obtain ⟨x1, S1, e1, q⟩ := q.bd
    refine (pt_truth (sE e nm _ X g h.2) (test_plain h.1 _)).run pins s σ H Q I (rdE.of e1 rs rr fun v1 H1 js1 g1 rs1 r1 => ?_)
    cases e2 : tru x1 S1 with
    | none => rw [e2] at q; exact q.elim
    | some b =>
      rw [e2] at q
      exact ⟨b, tru_rep e2 rs1 r1, OkX.pure (d := b) (OkX.mono q g1) rs1⟩
  | .cmp op a b, nm, x, X, g, h => by
    unfold mT at h
    split at h
    · simp only [Bool.and_eq_true] at h
      obtain ⟨⟨⟨⟨h0, h1⟩, h2⟩, h3⟩, h4⟩ := h
      rw [cmB_of h0]
      refine ⟨fun pins s σ H Q I q => ?_⟩
      obtain ⟨js, S, ρ, rs, rr, q⟩ := q
      unfold evT at q
      obtain ⟨x1, S1, e1, q⟩ := q.bd
      obtain ⟨x2, S2, e2, q⟩ := q.bd
      refine (pt_cmpR (cop_ok op g.hu) (sE a nm _ X g h2) (sE b nm _ X g h4) (behind_plain h3 _)).run pins s σ H Q I (rdE.of e1 rs rr fun v1 H1 js1 g1 rs1 r1 =>
        rdE.of e2 rs1 (rr.mono g1) fun v2 H2 js2 g2 rs2 r2 => ⟨js2, S2, x1, x2, rs2, r1.mono g2, r2, ?_⟩)
      cases e3 : copB op x1 x2 S2 with
      | none => rw [e3] at q; exact q.elim
      | some b =>
        rw [e3] at q
        exact copB_ok e3 fun H3 js3 g3 rs3 => ⟨b, rfl, OkX.pure (d := b) (OkX.mono q (g1.trans (g2.trans g3))) rs3⟩
    · cases h
  | .chain op op' a b c, nm, x, X, g, h => by
    unfold mT at h
    split at h
    · simp only [Bool.and_eq_true] at h
      obtain ⟨⟨⟨⟨⟨⟨⟨h0, h0'⟩, h1⟩, h2⟩, h3⟩, h4⟩, h5⟩, h6⟩ := h
      rw [cmB_of h0, cmB_of h0']
      refine ⟨fun pins s σ H Q I q => ?_⟩
      obtain ⟨js, S, ρ, rs, rr, q⟩ := q
      unfold evT at q
      obtain ⟨x1, S1, e1, q⟩ := q.bd
      obtain ⟨x2, S2, e2, q⟩ := q.bd
      refine (pt_chain (cop_ok op g.hu) (cop_ok op' g.hu) (sE a nm _ X g h2) (sE b nm _ X g h4) (sE c nm _ X g h6) (hm := (behind_plain h5 _ : behindInMarks _ _ = false))).run pins s σ H Q I (rdE.of e1 rs rr fun v1 H1 js1 g1 rs1 r1 =>
        rdE.of e2 rs1 (rr.mono g1) fun v2 H2 js2 g2 rs2 r2 => ⟨js2, S2, x1, x2, rs2, r1.mono g2, r2, ?_⟩)
      split at q
      · rename_i e3
        obtain ⟨x3, S3, e4, q⟩ := q.bd
        refine copB_ok e3 fun H3 js3 g3 rs3 => ⟨true, rfl, ?_⟩
        simp only [if_true]
        refine rdE.of e4 rs3 (rr.mono (g1.trans (g2.trans g3))) fun v3 H4 js4 g4 rs4 r4 => ⟨js4, S3, x2, x3, rs4, (r2.mono g3).mono g4, r4, ?_⟩
        cases e5 : copB op' x2 x3 S3 with
        | none => rw [e5] at q; exact q.elim
        | some b =>
          rw [e5] at q
          exact copB_ok e5 fun H5 js5 g5 rs5 => ⟨b, rfl, OkX.pure (d := b) (OkX.mono q (g1.trans (g2.trans (g3.trans (g4.trans g5))))) rs5⟩
      · rename_i e3
        refine copB_ok e3 fun H3 js3 g3 rs3 => ⟨false, rfl, ?_⟩
        simp only [Bool.false_eq_true, if_false]
        exact ⟨false, rfl, OkX.pure (OkX.mono q (g1.trans (g2.trans g3))) rs3⟩
      · exact q.elim
    · cases h
  | .not t, nm, x, X, g, h => by
    unfold mT at h
    split at h
    · simp only [Bool.and_eq_true] at h
      refine ⟨fun pins s σ H Q I q => ?_⟩
      obtain ⟨js, S, ρ, rs, rr, q⟩ := q
      unfold evT at q
      obtain ⟨b, S1, e1, q⟩ := q.bd
      exact (pt_not (sT t nm _ X g h.2)).run pins s σ H Q I (rdT.of e1 rs rr fun H1 js1 g1 rs1 => (q.mono g1).pure rs1)
    · cases h
  | .and a b, nm, x, X, g, h => by
    unfold mT at h
    split at h
    · simp only [Bool.and_eq_true] at h
      obtain ⟨⟨h1, h2⟩, h3⟩ := h
      exact (pw_andI (sT a nm _ X g h2) (sW b nm _ X g ⟨_, _, _, rfl⟩ h3)).pt
    · cases h
  | .or a b, nm, x, X, g, h => by
    unfold mT at h
    split at h
    · simp only [Bool.and_eq_true] at h
      obtain ⟨⟨h1, h2⟩, h3⟩ := h
      exact (pw_orI (sT a nm _ X g h2) (sW b nm _ X g ⟨_, _, _, rfl⟩ h3)).pt
    · cases h
  | .one a, nm, x, X, g, h => by
    unfold mT at h
    split at h
    · simp only [Bool.and_eq_true] at h
      exact (pw_oneI (sT a nm _ X g h.2)).pt
    · cases h
theorem sW : ∀ (t : T) (nm : Nm) (x : Expr) (X : Cx), Good X nm F → (∃ op xs p, x = .BoolOp op xs p) → mT nm t x = true → PW X x (rdT X.K F t)
  | .and a b, nm, x, X, g, _, h => by
    unfold mT at h
    split at h
    · simp only [Bool.and_eq_true] at h
      obtain ⟨⟨h1, h2⟩, h3⟩ := h
      exact pw_andI (sT a nm _ X g h2) (sW b nm _ X g ⟨_, _, _, rfl⟩ h3)
    · cases h
  | .or a b, nm, x, X, g, _, h => by
    unfold mT at h
    split at h
    · simp only [Bool.and_eq_true] at h
      obtain ⟨⟨h1, h2⟩, h3⟩ := h
      exact pw_orI (sT a nm _ X g h2) (sW b nm _ X g ⟨_, _, _, rfl⟩ h3)
    · cases h
  | .one a, nm, x, X, g, _, h => by
    unfold mT at h
    split at h
    · simp only [Bool.and_eq_true] at h
      exact pw_oneI (sT a nm _ X g h.2)
    · cases h
  | .yes, nm, x, X, g, _, h => by unfold mT at h; cases h
  | .v e, nm, x, X, g, hx, h => by
    obtain ⟨op, xs, p, rfl⟩ := hx
    unfold mT at h
    cases h
  | .cmp op a b, nm, x, X, g, hx, h => by
    obtain ⟨op, xs, p, rfl⟩ := hx
    unfold mT at h
    cases h
  | .chain op op' a b c, nm, x, X, g, hx, h => by
    obtain ⟨op, xs, p, rfl⟩ := hx
    unfold mT at h
    cases h
  | .not t, nm, x, X, g, hx, h => by
    obtain ⟨op, xs, p, rfl⟩ := hx
    unfold mT at h
    cases h
end
end
end VM
/-! VG: the soundness of statements and defs. -/
namespace VM
open PySem PySem.Spec PyProof.Rows L2

def isLC : Expr → Bool
  | .ListComp .. => true
  | _ => false
def isTup : Expr → Bool
  | .Tuple .. => true
  | _ => false
def swOk (nm : Nm) (x : Str) (px : Pos) (v : Expr) : Bool := match v with
  | .ListComp _ _ scope pos => (localB nm.sc x && (px.line == pos.line) && !(scope.names.any fun (n, k) => n == x && (k == .local || k == .cell))) || cellB nm.sc x
  | _ => true
mutual
def mC (nm : Nm) : C → Stmt → Bool
  | .pass, x => match x with | .Pass _ => true | _ => false
  | .brk, x => match x with | .Break _ => true | _ => false
  | .cnt, x => match x with | .Continue _ => true | _ => false
  | .set i e, x => match x with | .Assign [.Name s ps] v _ => tgB nm i s && plainX v && mE nm e v && swOk nm s ps v | _ => false
  | .asg tg e, x => match x with | .Assign [.Tuple ts k p] v _ => mTg nm tg (.Tuple ts k p) && plainX v && !isLC v && !isTup v && mE nm e v | _ => false
  | .aug i op e, x => match x with | .AugAssign (.Name s _) o v _ => tgB nm i s && opB op o && plainX v && mE nm e v | _ => false
  | .seti o i e, x => match x with | .Assign [.Subscript y z _] v _ => plainX y && mE nm o y && plainX z && mE nm i z && plainX v && !isLC v && mE nm e v | _ => false
  | .ex e, x => match x with | .Expr v _ => plainX v && !isLC v && mE nm e v | _ => false
  | .ret e, x => match x with | .Return (some v) _ => plainX v && mE nm e v | _ => false
  | .retn, x => match x with | .Return none _ => true | _ => false
  | .ife c a b, x => match x with | .If t y z _ => plainX t && mT nm c t && mCs nm a y && mCs nm b z | _ => false
  | .whl c b, x => match x with | .While t y [] _ => plainX t && mT nm c t && mCs nm b y | _ => false
  | .for_ tg it b, x => match x with | .For t i y [] _ => mTg nm tg t && plainX i && mI nm it i && mCs nm b y | _ => false
def mCs (nm : Nm) : Cs → List Stmt → Bool
  | .nil, xs => match xs with | [] => true | _ => false
  | .cons c cs, xs => match xs with | x :: xs => mC nm c x && mCs nm cs xs | _ => false
end

/-! ### facts of the text -/
theorem sw_plain {v : Expr} (h : plainX v = true) (hl : isLC v = false) (t : Option Expr) (l : Nat) (env : Env) : swapsWith v t l env = pure false := by
  cases v <;> first | rfl | exact absurd h Bool.false_ne_true | exact absurd hl Bool.noConfusion
theorem sw_sole {v : Expr} (h : plainX v = true) (hl : isLC v = false) (t : Expr) (l : Nat) (env : Env) : swapsWithSole [t] v l env = pure false := sw_plain h hl (some t) l env
theorem sw_cell {elt : Expr} {gs : List Comprehension} {scope : Scope} {pos px : Pos} {x : Str} {l : Nat} {env : Env} (hx : env.scope.names.lookup x = some .cell) : swapsWith (.ListComp elt gs scope pos) (some (.Name x px)) l env = pure false := by
  unfold swapsWith
  have k : (env.kindOf x == some NameKind.local) = false := by
    have e : env.kindOf x = some .cell := hx
    rw [e]
    rfl
  simp only [k, Bool.and_false, Bool.false_and]
theorem stores_plain {ts : List Expr} {k : Nat} {p : Pos} {v : Expr} (h : isTup v = false) (env : Env) : swappedStores [.Tuple ts k p] v env = pure none := by
  cases v <;> first | rfl | exact absurd h Bool.noConfusion
theorem stores_sub {o i : Expr} {p : Pos} {v : Expr} (env : Env) : swappedStores [.Subscript o i p] v env = pure none := by
  cases v <;> rfl
theorem sub_assign {o i : Expr} {pos : Pos} {env : Env} (h : plainX i = true) : ∀ v, assign (.Subscript o i pos) env v = (do
      let ov ← holding [v] (eval o env)
      let iv ← holding [v, ov] (eval i env)
      standAt pos
      holding [v, ov, iv] (setItem ov iv v)
      release [v, ov, iv] []) := by
  intro v
  cases i <;> first | rfl | cases h

/-! ### readings -/
def OkC (K : PySem.W.Frag) (H : Hp) (js : List Addr) (o : Out Fl) (D : Ends) : Prop :=
  match o with
  | some (.ok f S') => ∀ H' js', Grow H js H' js' → RelS K H' js' S' → (match f with
    | .nx ρ => ∀ σ, RepR K H' js' ρ σ → D.nx σ H'
    | .brk ρ => ∀ σ, RepR K H' js' ρ σ → D.bk σ H'
    | .cnt ρ => ∀ σ, RepR K H' js' ρ σ → D.ct σ H'
    | .ret d => ∀ v, RepV K H' js' d v → D.rt v H')
  | _ => False
def rdC (K : PySem.W.Frag) (F : Orc) (c : C) : TS := fun D σ H => ∃ js S ρ, RelS K H js S ∧ RepR K H js ρ σ ∧ OkC K H js (exC F c ρ S) D
def rdCs (K : PySem.W.Frag) (F : Orc) (c : Cs) : TS := fun D σ H => ∃ js S ρ, RelS K H js S ∧ RepR K H js ρ σ ∧ OkC K H js (exCs F c ρ S) D
section
variable {K : PySem.W.Frag} {H H1 : Hp} {js js1 : List Addr} {S : Sto} {α : Type} {D : Ends}
theorem OkC.bd {m : Out α} {f : α → Sto → Out Fl} (h : OkC K H js (bd m f) D) : ∃ a S, m = some (.ok a S) ∧ OkC K H js (f a S) D := bd_of (P := fun o => OkC K H js o D) h (fun z => z) fun _ _ _ z => z
theorem OkC.mono {o : Out Fl} (h : OkC K H js o D) (g : Grow H js H1 js1) : OkC K H1 js1 o D := by
  unfold OkC at h ⊢
  split at h
  · exact fun H' js' g' => h H' js' (g.trans g')
  · exact h.elim
theorem OkC.nx {ρ : Rho} {σ : L2.St} (h : OkC K H js (ok (.nx ρ) S) D) (rs : RelS K H js S) (rr : RepR K H js ρ σ) : D.nx σ H := h H js Grow.refl rs σ rr
theorem OkC.brk {ρ : Rho} {σ : L2.St} (h : OkC K H js (ok (.brk ρ) S) D) (rs : RelS K H js S) (rr : RepR K H js ρ σ) : D.bk σ H := h H js Grow.refl rs σ rr
theorem OkC.cnt {ρ : Rho} {σ : L2.St} (h : OkC K H js (ok (.cnt ρ) S) D) (rs : RelS K H js S) (rr : RepR K H js ρ σ) : D.ct σ H := h H js Grow.refl rs σ rr
theorem OkC.ret {d : VM.D} {v : V} (h : OkC K H js (ok (.ret d) S) D) (rs : RelS K H js S) (rr : RepV K H js d v) : D.rt v H := h H js Grow.refl rs v rr
end
structure GoodC (X : Cx) (nm : Nm) (F : Orc) : Prop extends Good X nm F where
  po : PassesOwn (model X.prog X.w) X.A X.env X.xe
section
variable {X : Cx} {nm : Nm} {F : Orc}
theorem set_ok : PSet X (fun o i v H Q => ∃ js S x y z, RelS X.K H js S ∧ RepV X.K H js x o ∧ RepV X.K H js y i ∧ RepV X.K H js z v ∧ ∃ S', setiD x y z S = some S' ∧ ∀ H' js', Grow H js H' js' → RelS X.K H' js' S' → Q H') := by
  intro pins s σ H o i v ov iv u Q I ro ri rv h
  obtain ⟨js, S, x, y, z, rs, r1, r2, r3, S', e, q⟩ := h
  unfold setiD at e
  split at e
  · cases r1 with
    | ref h1 =>
      cases r2
      split at e
      · rename_i xs e2
        split at e
        · rename_i j e3
          cases e
          obtain ⟨a', ws, e4, e5, q5⟩ := rs.list e2
          rw [h1] at e4; cases e4
          exact set_list pins s σ H _ _ v ov iv u Q I ro ri rv ⟨_, ws, _, j, rfl, rfl, e5, by rw [← q5.length]; exact e3, q _ js (Grow.put rs h1) (rs.put h1 (RepVs.set r3 j q5))⟩
        · cases e
      · cases e
  · cases e
theorem while_read {c : T} {b : Cs} {σ : L2.St} {H : Hp} {D : Ends} (q : rdC X.K F (.whl c b) D σ H) : tWhile (rdT X.K F c) (rdCs X.K F b) D σ H := by
  obtain ⟨js, S, ρ, rs, rr, q⟩ := q
  unfold exC at q
  cases e : whileL (fun ρ S => evT F c ρ S) (fun ρ S => exCs F b ρ S) ρ S with
  | none => rw [e] at q; exact q.elim
  | some r =>
    cases r with
    | ex _ _ _ => rw [e] at q; exact q.elim
    | ok f S5 =>
      rw [e] at q
      obtain ⟨m0, run0⟩ := whileL_n _ _ _ _ _ e
      refine ⟨fun m σ' H' => ∃ js' S' ρ', Grow H js H' js' ∧ RelS X.K H' js' S' ∧ RepR X.K H' js' ρ' σ' ∧ whileN (fun ρ S => evT F c ρ S) (fun ρ S => exCs F b ρ S) m ρ' S' = some (.ok f S5), ⟨m0, js, S, ρ, Grow.refl, rs, rr, run0⟩, ?_⟩
      rintro m σ' H' ⟨js', S', ρ', g', rs', rr', run'⟩
      cases m with
      | zero => cases run'
      | succ m =>
        unfold whileN at run'
        cases e1 : evT F c ρ' S' with
        | none => rw [e1] at run'; cases run'
        | some rt =>
          cases rt with
          | ex _ _ _ => rw [e1] at run'; cases run'
          | ok t S1 =>
            rw [e1] at run'
            simp only [bd_ok] at run'
            refine rdT.of e1 rs' rr' fun H1 js1 g1 rs1 => ?_
            cases t with
            | false =>
              cases run'
              rw [if_neg Bool.false_ne_true]
              exact (OkC.mono q (g'.trans g1)).nx rs1 (rr'.mono g1)
            | true =>
              rw [if_pos rfl]
              refine ⟨fun σ2 H2 => ∃ m', m' < m + 1 ∧ ∃ js2 S2 ρ2, Grow H js H2 js2 ∧ RelS X.K H2 js2 S2 ∧ RepR X.K H2 js2 ρ2 σ2 ∧ whileN (fun ρ S => evT F c ρ S) (fun ρ S => exCs F b ρ S) m' ρ2 S2 = some (.ok f S5), fun σ2 H2 h => h, js1, S1, ρ', rs1, rr'.mono g1, ?_⟩
              cases e2 : exCs F b ρ' S1 with
              | none => simp only [e2] at run'; cases run'
              | some rb =>
                cases rb with
                | ex _ _ _ => simp only [e2] at run'; cases run'
                | ok fb S2 =>
                  simp only [e2, bd_ok] at run'
                  intro H2 js2 g2 rs2
                  cases fb with
                  | nx ρ2 => exact fun σ2 rr2 => ⟨m, by omega, js2, S2, ρ2, g'.trans (g1.trans g2), rs2, rr2, run'⟩
                  | cnt ρ2 => exact fun σ2 rr2 => ⟨m, by omega, js2, S2, ρ2, g'.trans (g1.trans g2), rs2, rr2, run'⟩
                  | brk ρ2 =>
                    cases run'
                    exact fun σ2 rr2 => (OkC.mono q (g'.trans (g1.trans g2))).nx rs2 rr2
                  | ret d =>
                    cases run'
                    exact fun v r => (OkC.mono q (g'.trans (g1.trans g2))).ret rs2 r
theorem for_read {tg : Tg} {it : I} {b : Cs} {σ : L2.St} {H : Hp} {D : Ends} (q : rdC X.K F (.for_ tg it b) D σ H) : tFor (rdI X.K F it) (rdTg X.K tg) (rdCs X.K F b) D σ H := by
  obtain ⟨js, S, ρ, rs, rr, q⟩ := q
  unfold exC at q
  obtain ⟨i0, S1, e1, q⟩ := q.bd
  obtain ⟨r, S5, e2, q⟩ := q.bd
  refine ⟨js, S, ρ, rs, rr, i0, S1, e1, fun H1 js1 J g1 rs1 wk => ?_⟩
  obtain ⟨m0, run0⟩ := run_start e2
  refine ⟨fun i m σ' H' => ∃ js' S' ρ', Grow H1 js1 H' js' ∧ RelS X.K H' js' S' ∧ RepR X.K H' js' ρ' σ' ∧ Run i0 (forStep tg fun ρ S => exCs F b ρ S) i m ρ' S' r S5, ⟨m0, js1, S1, ρ, Grow.refl, rs1, rr.mono g1, run0⟩, ?_⟩
  rintro i m σ' H' ⟨js', S', ρ', g', rs', rr', run'⟩
  rcases run_step wk g' rs' run' with ⟨stop, e3, e4⟩ | ⟨d, go, yld, nx⟩
  · subst e3 e4
    exact .inl ⟨stop, (OkC.mono (o := ok (.nx ρ') S5) q (g1.trans g')).nx rs' rr'⟩
  · refine .inr ⟨go, fun σ2 H2 => ∃ m', m' < m ∧ ∃ js2 S2 ρ2, Grow H1 js1 H2 js2 ∧ RelS X.K H2 js2 S2 ∧ RepR X.K H2 js2 ρ2 σ2 ∧ Run i0 (forStep tg fun ρ S => exCs F b ρ S) (i + 1) m' ρ2 S2 r S5, fun σ2 H2 h => h, fun x H2 y => ?_⟩
    obtain ⟨g2, rs2, rx⟩ := yld x H2 y
    have hb : ∃ ρ1 fb S2, bindT tg d ρ' = some ρ1 ∧ exCs F b ρ1 S' = some (.ok fb S2) ∧ (match fb with
        | .nx ρ2 => ∃ m', m' < m ∧ Run i0 (forStep tg fun ρ S => exCs F b ρ S) (i + 1) m' ρ2 S2 r S5
        | .cnt ρ2 => ∃ m', m' < m ∧ Run i0 (forStep tg fun ρ S => exCs F b ρ S) (i + 1) m' ρ2 S2 r S5
        | .brk ρ2 => r = .inr (.nx ρ2) ∧ S5 = S2
        | .ret dd => r = .inr (.ret dd) ∧ S5 = S2) := by
      have key : ∀ res S2, forStep tg (fun ρ S => exCs F b ρ S) d ρ' S' = some (.ok res S2) → ∃ ρ1 fb S2', bindT tg d ρ' = some ρ1 ∧ exCs F b ρ1 S' = some (.ok fb S2') ∧ S2' = S2 ∧ (match fb with
          | .nx ρ2 => res = .inl ρ2
          | .cnt ρ2 => res = .inl ρ2
          | .brk ρ2 => res = .inr (.nx ρ2)
          | .ret dd => res = .inr (.ret dd)) := by
        intro res S2 h
        unfold forStep at h
        split at h
        · cases h
        · rename_i ρ1 eb
          simp only at h
          cases e5 : exCs F b ρ1 S' with
          | none => rw [e5] at h; cases h
          | some rb =>
            cases rb with
            | ex _ _ _ => rw [e5] at h; cases h
            | ok fb S3 =>
              rw [e5] at h
              simp only [bd_ok] at h
              refine ⟨ρ1, fb, S3, eb, e5, ?_⟩
              cases fb <;> (cases h; exact ⟨rfl, rfl⟩)
      rcases nx with ⟨bb, S2, e5, e6, e7⟩ | ⟨a', S2, m', hm, e5, run2⟩
      · obtain ⟨ρ1, fb, S2', h1, h2, h3, h4⟩ := key _ _ e5
        subst h3
        refine ⟨ρ1, fb, S2', h1, h2, ?_⟩
        cases fb with
        | nx ρ2 => cases h4
        | cnt ρ2 => cases h4
        | brk ρ2 => cases h4; exact ⟨e6, e7⟩
        | ret dd => cases h4; exact ⟨e6, e7⟩
      · obtain ⟨ρ1, fb, S2', h1, h2, h3, h4⟩ := key _ _ e5
        subst h3
        refine ⟨ρ1, fb, S2', h1, h2, ?_⟩
        cases fb with
        | nx ρ2 => cases h4; exact ⟨m', hm, run2⟩
        | cnt ρ2 => cases h4; exact ⟨m', hm, run2⟩
        | brk ρ2 => cases h4
        | ret dd => cases h4
    obtain ⟨ρ1, fb, S2, h1, h2, h3⟩ := hb
    refine ⟨js', d, ρ', ρ1, rx, rr'.mono g2, h1, fun σ2 rr2 _ _ => ⟨js', S', ρ1, rs2, rr2, ?_⟩⟩
    rw [h2]
    intro H3 js3 g3 rs3
    have gg : Grow H1 js1 H3 js3 := g'.trans (g2.trans g3)
    cases fb with
    | nx ρ2 =>
      obtain ⟨m', hm, run2⟩ := h3
      exact fun σ3 rr3 => ⟨m', hm, js3, S2, ρ2, gg, rs3, rr3, run2⟩
    | cnt ρ2 =>
      obtain ⟨m', hm, run2⟩ := h3
      exact fun σ3 rr3 => ⟨m', hm, js3, S2, ρ2, gg, rs3, rr3, run2⟩
    | brk ρ2 =>
      obtain ⟨e6, e7⟩ := h3
      subst e6 e7
      exact fun σ3 rr3 => (OkC.mono (o := ok (.nx ρ2) S5) q (g1.trans gg)).nx rs3 rr3
    | ret dd =>
      obtain ⟨e6, e7⟩ := h3
      subst e6 e7
      exact fun v r3 => (OkC.mono (o := ok (.ret dd) S5) q (g1.trans gg)).ret rs3 r3
mutual
theorem sC (g : GoodC X nm F) : ∀ (c : C) (x : Stmt), mC nm c x = true → PS X x (rdC X.K F c)
  | .pass, x, h => by
    unfold mC at h
    split at h
    · refine ⟨fun pins s σ H D I q => ?_⟩
      obtain ⟨js, S, ρ, rs, rr, q⟩ := q
      unfold exC at q
      exact ps_pass.run pins s σ H D I (q.nx rs rr)
    · cases h
  | .brk, x, h => by
    unfold mC at h
    split at h
    · refine ⟨fun pins s σ H D I q => ?_⟩
      obtain ⟨js, S, ρ, rs, rr, q⟩ := q
      unfold exC at q
      exact ps_break.run pins s σ H D I (q.brk rs rr)
    · cases h
  | .cnt, x, h => by
    unfold mC at h
    split at h
    · refine ⟨fun pins s σ H D I q => ?_⟩
      obtain ⟨js, S, ρ, rs, rr, q⟩ := q
      unfold exC at q
      exact ps_continue.run pins s σ H D I (q.cnt rs rr)
    · cases h
  | .set i e, x, h => by
    unfold mC at h
    split at h
    · rename_i z ps v p
      simp only [Bool.and_eq_true] at h
      obtain ⟨⟨⟨h1, h2⟩, h3⟩, h4⟩ := h
      have t := g.tg h1
      have plain : swapsWith v (some (.Name z ps)) p.line X.env = pure false → PS X (.Assign [.Name z ps] v p) (rdC X.K F (.set i e)) := fun hs => by
        refine ⟨fun pins s σ H D I q => ?_⟩
        obtain ⟨js, S, ρ, rs, rr, q⟩ := q
        unfold exC at q
        obtain ⟨d, S1, e1, q⟩ := q.bd
        exact (ps_set g.nd t.ix t.loc (sE e nm _ X g.toGood h3) hs t.fn).run pins s σ H D I (rdE.of e1 rs rr fun v1 H1 js1 g1 rs1 r1 => (q.mono g1).nx rs1 ((rr.mono g1).set r1 i))
      by_cases hl : isLC v = true
      · cases v with
        | ListComp y gs scope pos =>
          unfold swOk at h4
          rw [Bool.or_eq_true] at h4
          rcases h4 with h4 | h4
          · simp only [Bool.and_eq_true, Bool.not_eq_true'] at h4
            obtain ⟨⟨k1, k2⟩, k3⟩ := h4
            have kl : X.env.scope.names.lookup z = some .local := by
              rw [g.sc]
              unfold localB at k1
              split at k1 <;> first | assumption | cases k1
            have hsw : swapsWith (.ListComp y gs scope pos) (some (.Name z ps)) p.line X.env = pure true := sw_true g.kind kl k2 k3
            cases e with
            | lc elt tg it c own =>
              unfold mE at h3
              split at h3
              · rename_i y' tx ix ifs n scope' pos' heq
                cases heq
                simp only [Bool.and_eq_true, decide_eq_true_eq] at h3
                obtain ⟨⟨⟨⟨⟨⟨⟨⟨m0, m1⟩, m2⟩, m3⟩, m4⟩, m5⟩, m6⟩, m7⟩, m8⟩ := h3
                subst m0
                have ok : BlkOk X.N X.env.scope scope own := by
                  rw [g.N, g.sc]
                  exact blkOk_by m2
                have gb := fun (s : Shared) (H : Hp) (C : Addr) (cl : List (Str × Addr)) (fp : List Addr) => g.toGood.blk ok.kind s H C cl fp
                have ht : ∀ (s : Shared) (H : Hp) (C : Addr) (cl : List (Str × Addr)) (fp : List Addr), PTs (X.blk s H scope (compEnvC scope cl C X.env) fp) ifs (rdT X.K F c) := fun s H C cl fp => by
                  split at m6
                  · split at m6
                    · refine ⟨fun pins s σ H Q I q => pts_nil.run pins s σ H Q I ?_⟩
                      obtain ⟨js, S, ρ, rs, rr, q⟩ := q
                      unfold evT at q
                      exact q.pure rs
                    · cases m6
                  · rw [Bool.and_eq_true] at m6
                    exact pts_one (sT c _ _ _ (gb s H C cl fp) m6.2)
                  · cases m6
                refine ⟨fun pins s σ H D I q => ?_⟩
                refine (ps_setLc (own := own) (te := rdE X.K F elt) (g := rdTg X.K tg) (tt := rdT X.K F c) (wi := rdI X.K F it) g.calm g.nd t.ix kl hsw (sI it nm _ X g.toGood m5 tx) ok (fun s H C cl fp => sTg (gb s H C cl fp) tg _ m3) ht (fun s H C cl fp => sE elt _ _ _ (gb s H C cl fp) m8) (folded_plain m4 _)).run pins s σ H D I ?_
                obtain ⟨js, S, ρ, rs, rr, q⟩ := q
                unfold exC at q
                obtain ⟨d, S1, e1, q⟩ := q.bd
                exact lc_read (fun i hi => of_decide_eq_true (List.all_eq_true.mp m1 i hi)) (rdE.of e1 rs rr fun v1 H1 js1 g1 rs1 r1 => (q.mono g1).nx rs1 ((rr.mono g1).set r1 i))
              · cases h3
            | _ => unfold mE at h3; cases h3
          · have kc : X.env.scope.names.lookup z = some .cell := by
              rw [g.sc]
              unfold cellB at h4
              split at h4 <;> first | assumption | cases h4
            exact plain (sw_cell kc)
        | _ => cases hl
      · exact plain (sw_plain h2 (by simpa using hl) _ _ _)
    · cases h
  | .asg tg e, x, h => by
    unfold mC at h
    split at h
    · simp only [Bool.and_eq_true, Bool.not_eq_true'] at h
      obtain ⟨⟨⟨⟨h1, h2⟩, h3⟩, h4⟩, h5⟩ := h
      refine ⟨fun pins s σ H D I q => ?_⟩
      obtain ⟨js, S, ρ, rs, rr, q⟩ := q
      unfold exC at q
      obtain ⟨d, S1, e1, q⟩ := q.bd
      refine (ps_asg (sE e nm _ X g.toGood h5) (sTg g.toGood tg _ h1) (sw_sole h2 h3 _ _ _) (stores_plain h4 _) rfl).run pins s σ H D I (rdE.of e1 rs rr fun v1 H1 js1 g1 rs1 r1 => ?_)
      split at q
      · rename_i ρ1 eb
        exact ⟨js1, d, ρ, ρ1, r1, rr.mono g1, eb, fun σ2 rr2 _ _ => (q.mono g1).nx rs1 rr2⟩
      · exact q.elim
    · cases h
  | .aug i op e, x, h => by
    unfold mC at h
    split at h
    · simp only [Bool.and_eq_true] at h
      obtain ⟨⟨⟨h1, h2⟩, h3⟩, h4⟩ := h
      have t := g.tg h1
      rw [opB_of h2]
      refine ⟨fun pins s σ H D I q => ?_⟩
      obtain ⟨js, S, ρ, rs, rr, q⟩ := q
      unfold exC at q
      split at q
      · rename_i x1 ex
        obtain ⟨v, e0, r0⟩ := rr.at_ _ _ ex
        obtain ⟨x2, S1, e1, q⟩ := q.bd
        obtain ⟨x3, S2, e2, q⟩ := q.bd
        refine (ps_aug g.nd t.ix t.loc (sE e nm _ X g.toGood h4) (aug_ok op) t.fn).run pins s σ H D I ⟨v, e0, rdE.of e1 rs rr fun v1 H1 js1 g1 rs1 r1 => ⟨js1, S1, x1, x2, rs1, r0.mono g1, r1, ?_⟩⟩
        rw [e2]
        exact fun w H2 js2 g2 rs2 r2 => (q.mono (g1.trans g2)).nx rs2 ((rr.mono (g1.trans g2)).set r2 i)
      · exact q.elim
    · cases h
  | .seti o i e, x, h => by
    unfold mC at h
    split at h
    · simp only [Bool.and_eq_true, Bool.not_eq_true'] at h
      obtain ⟨⟨⟨⟨⟨⟨h1, h2⟩, h3⟩, h4⟩, h5⟩, h6⟩, h7⟩ := h
      refine ⟨fun pins s σ H D I q => ?_⟩
      obtain ⟨js, S, ρ, rs, rr, q⟩ := q
      unfold exC at q
      obtain ⟨x1, S1, e1, q⟩ := q.bd
      obtain ⟨x2, S2, e2, q⟩ := q.bd
      obtain ⟨x3, S3, e3, q⟩ := q.bd
      refine (ps_asg (sE e nm _ X g.toGood h7) (pg_sub (sE o nm _ X g.toGood h2) (sE i nm _ X g.toGood h4) set_ok (sub_assign h3)) (sw_sole h5 h6 _ _ _) (stores_sub _) rfl).run pins s σ H D I
        (rdE.of e1 rs rr fun v1 H1 js1 g1 rs1 r1 => rdE.of e2 rs1 (rr.mono g1) fun v2 H2 js2 g2 rs2 r2 => rdE.of e3 rs2 (rr.mono (g1.trans g2)) fun v3 H3 js3 g3 rs3 r3 => ?_)
      split at q
      · rename_i S4 e4
        exact ⟨js3, S3, x2, x3, x1, rs3, r2.mono g3, r3, (r1.mono g2).mono g3, S4, e4, fun H4 js4 g4 rs4 => (q.mono (g1.trans (g2.trans (g3.trans g4)))).nx rs4 (rr.mono (g1.trans (g2.trans (g3.trans g4))))⟩
      · exact q.elim
    · cases h
  | .ex e, x, h => by
    unfold mC at h
    split at h
    · simp only [Bool.and_eq_true, Bool.not_eq_true'] at h
      obtain ⟨⟨h1, h2⟩, h3⟩ := h
      refine ⟨fun pins s σ H D I q => ?_⟩
      obtain ⟨js, S, ρ, rs, rr, q⟩ := q
      unfold exC at q
      obtain ⟨d, S1, e1, q⟩ := q.bd
      exact (ps_expr (sE e nm _ X g.toGood h3) (sw_plain h1 h2 _ _ _)).run pins s σ H D I (rdE.of e1 rs rr fun v1 H1 js1 g1 rs1 r1 => (q.mono g1).nx rs1 (rr.mono g1))
    · cases h
  | .ret e, x, h => by
    unfold mC at h
    split at h
    · simp only [Bool.and_eq_true] at h
      refine ⟨fun pins s σ H D I q => ?_⟩
      obtain ⟨js, S, ρ, rs, rr, q⟩ := q
      unfold exC at q
      obtain ⟨d, S1, e1, q⟩ := q.bd
      exact (ps_ret (sE e nm _ X g.toGood h.2)).run pins s σ H D I (rdE.of e1 rs rr fun v1 H1 js1 g1 rs1 r1 => (q.mono g1).ret rs1 r1)
    · cases h
  | .retn, x, h => by
    unfold mC at h
    split at h
    · refine ⟨fun pins s σ H D I q => ?_⟩
      obtain ⟨js, S, ρ, rs, rr, q⟩ := q
      unfold exC at q
      exact ps_retN.run pins s σ H D I (q.ret rs .non)
    · cases h
  | .ife c a b, x, h => by
    unfold mC at h
    split at h
    · simp only [Bool.and_eq_true] at h
      obtain ⟨⟨⟨h1, h2⟩, h3⟩, h4⟩ := h
      refine ⟨fun pins s σ H D I q => ?_⟩
      obtain ⟨js, S, ρ, rs, rr, q⟩ := q
      unfold exC at q
      obtain ⟨t, S1, e1, q⟩ := q.bd
      refine (ps_if (sT c nm _ X g.toGood h2) (sCs g a _ h3) (sCs g b _ h4)).run pins s σ H D I (rdT.of e1 rs rr fun H1 js1 g1 rs1 => ?_)
      cases t with
      | true =>
        rw [if_pos rfl]
        exact ⟨js1, S1, ρ, rs1, rr.mono g1, q.mono g1⟩
      | false =>
        rw [if_neg Bool.false_ne_true]
        exact ⟨js1, S1, ρ, rs1, rr.mono g1, q.mono g1⟩
    · cases h
  | .whl c b, x, h => by
    unfold mC at h
    split at h
    · simp only [Bool.and_eq_true] at h
      exact ⟨fun pins s σ H D I q => (ps_while g.po (sT c nm _ X g.toGood h.1.2) (sCs g b _ h.2)).run pins s σ H D I (while_read q)⟩
    · cases h
  | .for_ tg it b, x, h => by
    unfold mC at h
    split at h
    · simp only [Bool.and_eq_true] at h
      obtain ⟨⟨⟨h1, h2⟩, h3⟩, h4⟩ := h
      exact ⟨fun pins s σ H D I q => (ps_for g.po g.calm (sI it nm _ X g.toGood h3 _) (sTg g.toGood tg _ h1) (sCs g b _ h4) (folded_plain h2 _)).run pins s σ H D I (for_read q)⟩
    · cases h
theorem sCs (g : GoodC X nm F) : ∀ (c : Cs) (xs : List Stmt), mCs nm c xs = true → PSs X xs (rdCs X.K F c)
  | .nil, xs, h => by
    unfold mCs at h
    split at h
    · refine ⟨fun pins s σ H D I q => ?_⟩
      obtain ⟨js, S, ρ, rs, rr, q⟩ := q
      unfold exCs at q
      exact pss_nil.run pins s σ H D I (q.nx rs rr)
    · cases h
  | .cons c cs, xs, h => by
    unfold mCs at h
    split at h
    · simp only [Bool.and_eq_true] at h
      refine ⟨fun pins s σ H D I q => ?_⟩
      obtain ⟨js, S, ρ, rs, rr, q⟩ := q
      unfold exCs at q
      obtain ⟨f, S1, e1, q⟩ := q.bd
      refine (pss_cons (sC g c _ h.1) (sCs g cs _ h.2)).run pins s σ H D I ⟨js, S, ρ, rs, rr, ?_⟩
      rw [e1]
      intro H1 js1 g1 rs1
      cases f with
      | nx ρ1 => exact fun σ1 rr1 => ⟨js1, S1, ρ1, rs1, rr1, q.mono g1⟩
      | brk ρ1 => exact fun σ1 rr1 => (OkC.mono (o := ok (.brk ρ1) S1) q g1).brk rs1 rr1
      | cnt ρ1 => exact fun σ1 rr1 => (OkC.mono (o := ok (.cnt ρ1) S1) q g1).cnt rs1 rr1
      | ret d => exact fun v r1 => (OkC.mono (o := ok (.ret d) S1) q g1).ret rs1 r1
    · cases h
end
end
end VM
/-! VH: defs by their table, the law's end. -/
namespace VM
open PySem PySem.Spec PyProof.Rows L2

def spF (K : PySem.W.Frag) (tbl : List (Nat × Fd)) (k f : Nat) : Sp := fun vs H Q _ => rBi K (callN tbl k f) vs H Q
/-- a def of the text, its term looked over -/
structure FnW (K : PySem.W.Frag) (mg : Str → Option Value) (fs : List (Nat × Str)) (bs : List Str) (gs : List (Str × D)) (x : Str) (fd : Fd) (a : Addr) (dat : FuncData) (ps : List Str) : Prop where
  ex : ∃ (st : Stmt) (N : List Str), Fun K x x st a dat ∧ mg x = some (.ref a) ∧ FnScope N ps (defScope st) ∧ fd.np = ps.length ∧ fd.ns = N.length ∧
    mCs ⟨N, defScope st, none, fs, bs, gs⟩ fd.body (defBody st) = true ∧ Binds K dat ps []
def FnT (K : PySem.W.Frag) (mg : Str → Option Value) (fs : List (Nat × Str)) (bs : List Str) (gs : List (Str × D)) (x : Str) (fd : Fd) : Prop := ∃ (a : Addr) (dat : FuncData) (ps : List Str), FnW K mg fs bs gs x fd a dat ps
section
variable {P : Program} {w : World} {K : PySem.W.Frag} {mg : Str → Option Value} {base : Heap} {tbl : List (Nat × Fd)} {fs : List (Nat × Str)} {bs : List Str} {gs : List (Str × D)}
theorem rep_start {H : Hp} {js : List Addr} {ds : List D} {vs : List V} {N : List Str} {np ns : Nat} (r : RepVs K H js ds vs) (h1 : ds.length = np) (h2 : ns = N.length) (h3 : np ≤ ns) :
    RepR K H js (ds.map some ++ List.replicate (ns - np) none) (L2.start N vs) := by
  have hl := r.length
  refine ⟨by unfold L2.start; simp only [List.length_append, List.length_map, List.length_replicate]; omega, fun i d e => ?_⟩
  by_cases hi : i < ds.length
  · rw [List.getElem?_append_left (by simpa using hi), List.getElem?_map] at e
    cases e1 : ds[i]? with
    | none => rw [e1] at e; cases e
    | some d' =>
      rw [e1] at e
      cases e
      obtain ⟨v, e2, r2⟩ := r.get e1
      refine ⟨v, ?_, r2⟩
      unfold L2.start
      rw [List.getElem?_append_left (by rw [List.length_map, ← hl]; exact hi), List.getElem?_map, e2]
      rfl
  · rw [List.getElem?_append_right (by simpa using hi), List.getElem?_replicate] at e
    split at e <;> cases e
theorem spF_len {k f : Nat} {fd : Fd} (hf : tbl.lookup f = some fd) {vs : List V} {H : Hp} {Q : VK} {E : XK} (h : spF K tbl k f vs H Q E) : vs.length = fd.np := by
  obtain ⟨js, S, ds, rs, rv, h⟩ := h
  cases k with
  | zero => exact h.elim
  | succ k =>
    unfold callN at h
    rw [hf] at h
    simp only at h
    split at h
    · rename_i e
      rw [← rv.length, e]
    · exact h.elim
/-- EVERY DEF DOES WHAT ITS TERM DOES -/
theorem fn_sound (hT : ∀ (f : Nat) (x : Str), fs.lookup f = some x → ∃ fd, tbl.lookup f = some fd ∧ FnT K mg fs bs gs x fd) (hb : ∀ x ∈ bs, mg x = none)
    (hg : ∀ x d, gsB gs x d = true → ∃ u v, mg x = some u ∧ RelV v u ∧ ∀ H js, RepV K H js d v) :
    ∀ (k f : Nat) (x : Str) (fd : Fd) (a : Addr) (dat : FuncData) (ps : List Str), tbl.lookup f = some fd → FnW K mg fs bs gs x fd a dat ps → FnOk P w K mg base CX0 k a dat ps (spF K tbl k f) := by
  intro k
  induction k with
  | zero =>
    intro f x fd a dat ps hf W
    obtain ⟨st, N, F, hm, S, h1, h2, h3, h4⟩ := W.ex
    refine ⟨fun vs H Q E h => ?_, fun A outer s H args us vs Q E _ _ _ _ h => ?_⟩
    · rw [spF_len hf h, h1]
    · obtain ⟨js, S', ds, rs, rv, h⟩ := h
      exact h.elim
  | succ k ih =>
    intro f x fd a dat ps hf W
    obtain ⟨st, N, F, hm, S, h1, h2, h3, h4⟩ := W.ex
    refine F.ok S (fun vs H Q E h => by rw [spF_len hf h, h1]) (fun cdv A outer s H vs Q E hr h => ?_)
    have hpl : ps.length ≤ N.length := by
      have := congrArg List.length S.pre
      rw [List.length_take] at this
      omega
    have good : GoodC (cxOf CX0 P w K mg base N x (defScope st) a cdv A outer s H E).nox ⟨N, defScope st, none, fs, bs, gs⟩ ⟨callN tbl k⟩ :=
      { calm := rfl, N := rfl, nd := S.nd, sc := rfl, kind := S.kind, fn := fun _ _ => rfl, hu := by have := hr.un; show (A.deeper _).units + 200 < cLine; omega, bs := hb, gs := hg,
        call := fun f' x' hx' => by
          obtain ⟨fd', hf', a', dat', ps', W'⟩ := hT f' x' hx'
          have F' := ih f' x' fd' a' dat' ps' hf' W'
          obtain ⟨st', N', F0, hm', _, _, _, _, hb'⟩ := W'.ex
          exact ⟨CX0, k, a', dat', ps', spF K tbl k f', ⟨F', hr, hm', F0.kp, hb', fun _ _ _ _ _ z => z, fun vs H Q q => q⟩⟩
        po := PassesOwn.never }
    refine ⟨rdCs K ⟨callN tbl k⟩ fd.body, sCs good fd.body _ h3, ?_⟩
    obtain ⟨js, S', ds, rs, rv, h⟩ := h
    unfold callN at h
    rw [hf] at h
    simp only at h
    split at h
    · rename_i hl
      refine ⟨js, S', ds.map some ++ List.replicate (fd.ns - fd.np) none, rs, rep_start rv hl h2 (by rw [h1, h2]; exact hpl), ?_⟩
      obtain ⟨r, S1, e1, h⟩ := h.bd
      rw [e1]
      intro H1 js1 g1 rs1
      cases r with
      | ret d => exact fun v r1 => h v H1 js1 g1 rs1 r1
      | nx ρ => exact fun σ1 _ => h .non H1 js1 g1 rs1 .non
      | brk ρ => exact h.elim
      | cnt ρ => exact h.elim
    · exact h.elim
/-- the law's script -/
theorem script_rep {H : Hp} {a : Addr} {ns : List Int} (hO : Only H) (hS : SqL K H a (ns.map V.int)) : RepV K H [] (.fz (ns.map .int)) (.ref a) := by
  refine .fz ?_ RepVs.ints
  rcases hS with (h | ⟨o, h⟩) | h
  · rcases hO a with z | ⟨o, xs, z⟩
    · rw [z] at h; cases h
    · rw [z] at h; cases h
  · exact .inl ⟨o, h, by simp⟩
  · exact .inr h
theorem law_sp {H : Hp} {a : Addr} {ns : List Int} {k f : Nat} (hO : Only H) (hS : SqL K H a (ns.map V.int)) (h : ∃ S', callN tbl k f [.fz (ns.map .int)] [] = some (.ok (.bl true) S')) :
    spF K tbl k f [.ref a] H (fun v _ => v = .bl true) fun _ _ _ => False := by
  obtain ⟨S', e⟩ := h
  refine ⟨[], [], [.fz (ns.map .int)], ⟨rfl, List.nodup_nil, fun n a o e => by simp at e⟩, .cons (script_rep hO hS) .nil, ?_⟩
  rw [e]
  intro v H' js' _ _ r
  cases r
  rfl
end
/-- a def behind the top -/
def FnAt (K : PySem.W.Frag) (x : Str) (st : Stmt) (ps : List Str) : Prop := ∃ (a : Addr) (dat : FuncData), PySem.W.nsIn K mainGlobals x = some (some (.ref a)) ∧ Fun K x x st a dat ∧ ∀ us : List Value, us.length = ps.length → bindArgs dat ⟨us, []⟩ = pure (ps.zip us)
theorem fnAt_mk {K : PySem.W.Frag} {x : Str} {st : Stmt} {ps : List Str} {a : Addr} {oc : Value} {od an : Option Addr} {osl : Array (Option Value)} {kV doc pm cdv ct : Value}
    (hb : ∀ (kV doc pm : Value) (an : Option Addr) (cdv ct : Value) (us : List Value), us.length = ps.length → bindArgs (PySem.W.fnOf x x (defArgs st) (defBody st) (defScope st) .none kV doc pm an cdv ct) ⟨us, []⟩ = pure (ps.zip us))
    (ha : PySem.W.nsIn K mainGlobals x = some (some (.ref a))) (hl : K.lookup a = some ⟨oc, od, .func (PySem.W.fnOf x x (defArgs st) (defBody st) (defScope st) .none kV doc pm an cdv ct), osl⟩)
    (hc : PySem.W.codeIn K cdv x = true) (hk : PySem.W.keepIn K (.ref a) = true) : FnAt K x st ps :=
  ⟨a, _, ha, fun_mk hl hc hk, hb kV doc pm an cdv ct⟩
theorem FnAt.t {K : PySem.W.Frag} {x : Str} {st : Stmt} {N ps : List Str} {mg : Str → Option Value} {h : Heap} {fs : List (Nat × Str)} {bs : List Str} {gs : List (Str × D)} {fd : Fd} (f : FnAt K x st ps) (X : K.In h) (G : h.Ns mainGlobals mg)
    (S : FnScope N ps (defScope st)) (h1 : fd.np = ps.length) (h2 : fd.ns = N.length) (h3 : mCs ⟨N, defScope st, none, fs, bs, gs⟩ fd.body (defBody st) = true) : FnT K mg fs bs gs x fd := by
  obtain ⟨a, dat, ha, F, hb⟩ := f
  exact ⟨a, dat, ps, ⟨st, N, F, PySem.W.mg_of X G ha, S, h1, h2, h3, .all hb⟩⟩
theorem tab_all {K : PySem.W.Frag} {mg : Str → Option Value} {fs : List (Nat × Str)} {bs : List Str} {gs : List (Str × D)} : ∀ ft : List (Nat × Str × Fd), (∀ p ∈ ft, FnT K mg fs bs gs p.2.1 p.2.2) →
    ∀ (f : Nat) (x : Str), (ft.map fun p => (p.1, p.2.1)).lookup f = some x → ∃ fd, (ft.map fun p => (p.1, p.2.2)).lookup f = some fd ∧ FnT K mg fs bs gs x fd
  | [], _, f, x, h => by cases h
  | p :: ft, hp, f, x, h => by
    rw [List.map_cons, List.lookup_cons] at h
    rw [List.map_cons, List.lookup_cons]
    by_cases e : (f == p.1) = true
    · simp only [e] at h ⊢
      cases h
      exact ⟨_, rfl, hp p List.mem_cons_self⟩
    · simp only [e] at h ⊢
      exact tab_all ft (fun q hq => hp q (List.mem_cons_of_mem _ hq)) f x h
theorem law_at {P : Program} {w : World} {K : PySem.W.Frag} {h : Heap} {mg : Str → Option Value} {fa : Addr} {st : Stmt} {N : List Str} {fd : Fd} {ft : List (Nat × Str × Fd)} {bs : List Str} {gs : List (Str × D)} (X : K.In h) (G : h.Ns mainGlobals mg) (hfa : mg "law" = some (.ref fa))
    (aL : FnAt K "law" st ["script"]) (S : FnScope N ["script"] (defScope st)) (h1 : fd.np = 1) (h2 : fd.ns = N.length) (h3 : mCs ⟨N, defScope st, none, ft.map (fun p => (p.1, p.2.1)), bs, gs⟩ fd.body (defBody st) = true)
    (hT : ∀ p ∈ ft, FnT K mg (ft.map fun p => (p.1, p.2.1)) bs gs p.2.1 p.2.2) (hb : ∀ x ∈ bs, mg x = none)
    (hg : ∀ x d, gsB gs x d = true → ∃ u v, mg x = some u ∧ RelV v u ∧ ∀ H js, RepV K H js d v) (k f : Nat) (hf : (ft.map fun p => (p.1, p.2.2)).lookup f = some fd) :
    ∃ fd : FuncData, (∀ (s : Shared) (v : Value), BindsTo s fd ⟨[v], []⟩ [("script", v)]) ∧ ∀ base : Heap, FnOk P w K mg base CX0 k fa fd ["script"] (spF K (ft.map fun p => (p.1, p.2.2)) k f) := by
  obtain ⟨a, dat, ha, F, hbi⟩ := aL
  have hm := PySem.W.mg_of X G ha
  have e := hfa.symm.trans hm
  cases e
  exact ⟨dat, fun s v => .of_eq (hbi [v] rfl), fun base => fn_sound (P := P) (w := w) (base := base) (tab_all ft hT) hb hg k f "law" fd fa dat ["script"] hf ⟨st, N, F, hm, S, h1, h2, h3, .all hbi⟩⟩
theorem flat_gs {K : PySem.W.Frag} {mg : Str → Option Value} {gs : List (Str × D)} (h : ∀ p ∈ gs, (∃ i t, p.2 = D.int i ∧ mg p.1 = some (.int i t)) ∨ ∃ x t, p.2 = D.str x ∧ mg p.1 = some (.str x t)) :
    ∀ x d, gsB gs x d = true → ∃ u v, mg x = some u ∧ RelV v u ∧ ∀ H js, RepV K H js d v := by
  intro x d hd
  unfold gsB at hd
  obtain ⟨p, hp, hq⟩ := List.any_eq_true.mp hd
  rw [Bool.and_eq_true, decide_eq_true_eq] at hq
  obtain ⟨e1, e2⟩ := hq
  subst e1
  rcases h p hp with ⟨i, t, e3, e4⟩ | ⟨z, t, e3, e4⟩
  · rw [e3] at e2
    cases d with
    | int j =>
      have e : i = j := of_decide_eq_true e2
      subst e
      exact ⟨_, .int i, e4, ⟨t, rfl⟩, fun _ _ => .int i⟩
    | _ => cases e2
  · rw [e3] at e2
    cases d with
    | str j =>
      have e : z = j := of_decide_eq_true e2
      subst e
      exact ⟨_, .str z, e4, ⟨t, rfl⟩, fun _ _ => .str z⟩
    | _ => cases e2
theorem walk {l : PySem.W.OpenLaw} {q : Program} {loose : List Str} {XP : (Str → Option Value) → Heap → Prop} {YP : World → Heap → Prop} {d : DefRec} {K : Params → PySem.W.Frag} {tbl : List (Nat × Fd)} {k f : Nat} (hn : l.most = some 63) (hdf : d.params.defaults = []) (hr : Room k callerA)
    (hY : ∀ (w : World) (h : Heap), YP w h → (K w.params).In h)
    (F : ∀ (w : World) (mg : Str → Option Value) (fa : Addr) (h : Heap), (K w.params).In h → h.Ns mainGlobals mg → mg d.name = some (.ref fa) →
      ∃ fd : FuncData, (∀ (s : Shared) (u : Value), BindsTo s fd ⟨[u], []⟩ [("script", u)]) ∧ ∀ base : Heap, FnOk l.prog w (K w.params) mg base CX0 k fa fd ["script"] (spF (K w.params) tbl k f))
    (hL : ∀ ns : List Int, ns.length ≤ 63 → ∃ S', callN tbl k f [.fz (ns.map .int)] [] = some (.ok (.bl true) S')) :
    PySem.W.WalkO q loose XP YP l.row.toRowW d [] (fun f vs => PySem.call f vs) :=
  L2.walk_of (n := 63) (k := k) (x := "script") (CX := fun _ => CX0) (sp := fun w => spF (K w.params) tbl k f) hn (by decide) hdf hr hY
    (fun w mg fa h X G hm => let ⟨fd, h1, h2⟩ := F w mg fa h X G hm; ⟨fd, h1, fun base _ _ => h2 base⟩) (fun w H a ns hl hO hS => law_sp hO hS (hL ns hl)) fun _ _ _ _ _ z => z
end VM
/-! VP: a calculus for the small language. -/
namespace VM
open PySem
def Wp {α : Type} (o : Out α) (Q : α → Sto → Prop) : Prop := ∃ a S, o = some (.ok a S) ∧ Q a S
section
variable {α β : Type} {Q R : α → Sto → Prop} {S : Sto}
theorem Wp.mono {o : Out α} (h : Wp o Q) (q : ∀ a S, Q a S → R a S) : Wp o R := let ⟨a, S, e, h⟩ := h; ⟨a, S, e, q a S h⟩
theorem wp_bd {m : Out α} {f : α → Sto → Out β} {Q : β → Sto → Prop} : Wp (bd m f) Q = Wp m fun a S => Wp (f a S) Q := by
  apply propext
  constructor
  · rintro ⟨b, S, e, h⟩
    cases m with
    | none => cases e
    | some r =>
      cases r with
      | ok a S1 => exact ⟨a, S1, rfl, b, S, e, h⟩
      | ex c xs S1 => cases e
  · rintro ⟨a, S1, rfl, b, S, e, h⟩
    exact ⟨b, S, e, h⟩
theorem wp_ok {a : α} : Wp (ok a S) Q = Q a S := by
  apply propext
  constructor
  · rintro ⟨b, S', e, h⟩
    cases e
    exact h
  · exact fun h => ⟨a, S, rfl, h⟩
theorem wp_some {a : α} : Wp (some (.ok a S)) Q = Q a S := wp_ok
theorem wp_none : Wp none Q = False := by
  apply propext
  constructor
  · rintro ⟨b, S', e, h⟩
    cases e
  · exact fun h => h.elim
theorem Wp.eq {o : Out α} {a : α} (h : Wp o Q) (e : ∀ b S, Q b S → b = a) : ∃ S', o = some (.ok a S') := by
  obtain ⟨b, S', e1, h⟩ := h
  rw [e b S' h] at e1
  exact ⟨S', e1⟩
theorem wp_ite {c : Prop} [Decidable c] {x y : Out α} : Wp (if c then x else y) Q = ((c → Wp x Q) ∧ (¬ c → Wp y Q)) := by
  apply propext
  by_cases h : c
  · rw [if_pos h]
    exact ⟨fun z => ⟨fun _ => z, fun n => absurd h n⟩, fun z => z.1 h⟩
  · rw [if_neg h]
    exact ⟨fun z => ⟨fun n => absurd n h, fun _ => z⟩, fun z => z.2 h⟩
end

/-! ### loops -/
/-- what the body's end means for a for -/
def forQ (I : Rho → Sto → Prop) (Q : Fl → Sto → Prop) : Fl → Sto → Prop
  | .nx ρ, S => I ρ S
  | .cnt ρ, S => I ρ S
  | .brk ρ, S => Q (.nx ρ) S
  | .ret d, S => Q (.ret d) S
theorem wp_foldF {tg : Tg} {b : Rho → Sto → Out Fl} {Q : Fl → Sto → Prop} : ∀ (ds : List D) (ρ : Rho) (S : Sto) (I : Nat → Rho → Sto → Prop) (h0 : I 0 ρ S)
    (hs : ∀ i d ρ S, ds[i]? = some d → I i ρ S → ∃ ρ1, bindT tg d ρ = some ρ1 ∧ Wp (b ρ1 S) (forQ (I (i + 1)) Q))
    (hd : ∀ ρ S, I ds.length ρ S → Q (.nx ρ) S), Wp (bd (foldF (forStep tg b) ds ρ S) forEnd) Q
  | [], ρ, S, I, h0, hs, hd => by
    unfold foldF
    show Wp (ok (.nx ρ) S) Q
    rw [wp_ok]
    exact hd ρ S h0
  | d :: ds, ρ, S, I, h0, hs, hd => by
    obtain ⟨ρ1, e1, f, S1, e2, h⟩ := hs 0 d ρ S rfl h0
    unfold foldF forStep
    rw [e1]
    simp only [e2]
    cases f with
    | nx ρ2 => exact wp_foldF ds ρ2 S1 (fun i => I (i + 1)) h (fun i d ρ S e => hs (i + 1) d ρ S (by simpa using e)) (fun ρ S z => hd ρ S (by simpa using z))
    | cnt ρ2 => exact wp_foldF ds ρ2 S1 (fun i => I (i + 1)) h (fun i d ρ S e => hs (i + 1) d ρ S (by simpa using e)) (fun ρ S z => hd ρ S (by simpa using z))
    | brk ρ2 =>
      show Wp (ok (.nx ρ2) S1) Q
      rw [wp_ok]
      exact h
    | ret d =>
      show Wp (ok (.ret d) S1) Q
      rw [wp_ok]
      exact h
theorem wp_forF {tg : Tg} {b : Rho → Sto → Out Fl} {Q : Fl → Sto → Prop} {ds : List D} {ρ : Rho} {S : Sto} (I : Nat → Rho → Sto → Prop) (h0 : I 0 ρ S)
    (hs : ∀ i d ρ S, ds[i]? = some d → I i ρ S → ∃ ρ1, bindT tg d ρ = some ρ1 ∧ Wp (b ρ1 S) (forQ (I (i + 1)) Q))
    (hd : ∀ ρ S, I ds.length ρ S → Q (.nx ρ) S) : Wp (bd (foldI (forStep tg b) (.fix ds) ρ S) forEnd) Q := wp_foldF ds ρ S I h0 hs hd
theorem wp_forR {tg : Tg} {b : Rho → Sto → Out Fl} {Q : Fl → Sto → Prop} {n : Nat} {ds : List D} {ρ : Rho} {S : Sto} (I : Nat → Rho → Sto → Prop) (h0 : I 0 ρ S)
    (hl : ∀ i ρ S, I i ρ S → S[n]? = some (.lst ds))
    (hs : ∀ i d ρ S, ds[i]? = some d → I i ρ S → ∃ ρ1, bindT tg d ρ = some ρ1 ∧ Wp (b ρ1 S) (forQ (I (i + 1)) Q))
    (hd : ∀ ρ S, I ds.length ρ S → Q (.nx ρ) S) : Wp (bd (foldI (forStep tg b) (.dyn n) ρ S) forEnd) Q := by
  show Wp (bd (foldR (forStep tg b) n 0 ρ S) forEnd) Q
  have key : ∀ (m i : Nat) (ρ : Rho) (S : Sto), i + m = ds.length → I i ρ S → Wp (bd (foldR (forStep tg b) n i ρ S) forEnd) Q := by
    intro m
    induction m with
    | zero =>
      intro i ρ S hi h
      rw [foldR, hl i ρ S h]
      simp only
      rw [List.getElem?_eq_none (by omega)]
      show Wp (ok (.nx ρ) S) Q
      rw [wp_ok]
      have e : i = ds.length := by omega
      subst e
      exact hd ρ S h
    | succ m ih =>
      intro i ρ S hi h
      have hi' : i < ds.length := by omega
      obtain ⟨ρ1, e1, f, S1, e2, h2⟩ := hs i ds[i] ρ S (List.getElem?_eq_getElem hi') h
      rw [foldR, hl i ρ S h]
      simp only
      rw [List.getElem?_eq_getElem hi']
      unfold forStep
      simp only [e1, e2]
      cases f with
      | nx ρ2 => exact ih (i + 1) ρ2 S1 (by omega) h2
      | cnt ρ2 => exact ih (i + 1) ρ2 S1 (by omega) h2
      | brk ρ2 =>
        show Wp (ok (.nx ρ2) S1) Q
        rw [wp_ok]
        exact h2
      | ret d =>
        show Wp (ok (.ret d) S1) Q
        rw [wp_ok]
        exact h2
  exact key ds.length 0 ρ S (by omega) h0
theorem wp_while {c : Rho → Sto → Out Bool} {b : Rho → Sto → Out Fl} {Q : Fl → Sto → Prop} {ρ : Rho} {S : Sto} (I : Nat → Rho → Sto → Prop) (m : Nat) (h0 : I m ρ S)
    (hs : ∀ m ρ S, I m ρ S → Wp (c ρ S) fun t S1 => if t = true then Wp (b ρ S1) (forQ (fun ρ S => ∃ m', m' < m ∧ I m' ρ S) Q) else Q (.nx ρ) S1) : Wp (whileL c b ρ S) Q := by
  have key : ∀ (m : Nat) (ρ : Rho) (S : Sto), I m ρ S → Wp (whileL c b ρ S) Q := by
    intro m
    induction m using Nat.strongRecOn with
    | _ m ih =>
      intro ρ S h
      obtain ⟨t, S1, e1, h1⟩ := hs m ρ S h
      rw [whileL, e1]
      cases t with
      | false =>
        simp only [Bool.false_eq_true, if_false] at h1
        exact ⟨_, _, rfl, h1⟩
      | true =>
        simp only [if_true] at h1
        obtain ⟨f, S2, e2, h2⟩ := h1
        simp only [e2]
        cases f with
        | nx ρ2 =>
          obtain ⟨m', hm, h3⟩ := h2
          exact ih m' hm ρ2 S2 h3
        | cnt ρ2 =>
          obtain ⟨m', hm, h3⟩ := h2
          exact ih m' hm ρ2 S2 h3
        | brk ρ2 => exact ⟨_, _, rfl, h2⟩
        | ret d => exact ⟨_, _, rfl, h2⟩
  exact key m ρ S h0
/-- a comprehension's turn -/
def lcF (F : Orc) (elt : E) (tg : Tg) (c : T) (own : List Nat) (ρ : Rho) (d : D) (acc : List D) (S2 : Sto) : Out (List D ⊕ Empty) := match bindT tg d (wipeR ρ own) with
  | none => none
  | some ρ1 => bd (evT F c ρ1 S2) fun t S3 => match t with
    | true => bd (evE F elt ρ1 S3) fun y S4 => if acc.length < sizeLine then ok (.inl (acc ++ [y]) : List D ⊕ Empty) S4 else none
    | false => ok (.inl acc) S3
def lcEnd (r : List D ⊕ Empty) (S5 : Sto) : Out D := match r with
  | .inl acc => ok (.ref S5.length) (S5 ++ [.lst acc])
  | .inr e => nomatch e
theorem evE_lc {F : Orc} {elt : E} {tg : Tg} {it : I} {c : T} {own : List (Str × Nat)} {ρ : Rho} {S : Sto} :
    evE F (.lc elt tg it c own) ρ S = bd (evI F it ρ S) fun i S1 => bd (foldI (lcF F elt tg c (own.map (·.2)) ρ) i [] S1) lcEnd := by
  unfold evE
  congr 1
theorem wp_lcF0 {F : Orc} {elt : E} {tg : Tg} {c : T} {own : List Nat} {ρ : Rho} {Q : D → Sto → Prop} : ∀ (ds acc : List D) (S : Sto) (I : Nat → List D → Sto → Prop) (h0 : I 0 acc S)
    (hs : ∀ i d acc S, ds[i]? = some d → I i acc S → ∃ ρ1, bindT tg d (wipeR ρ own) = some ρ1 ∧ Wp (evT F c ρ1 S) fun t S3 => if t = true then Wp (evE F elt ρ1 S3) fun y S4 => acc.length < sizeLine ∧ I (i + 1) (acc ++ [y]) S4 else I (i + 1) acc S3)
    (hd : ∀ acc S, I ds.length acc S → Q (.ref S.length) (S ++ [.lst acc])), Wp (bd (foldF (lcF F elt tg c own ρ) ds acc S) lcEnd) Q
  | [], acc, S, I, h0, hs, hd => by
    unfold foldF
    show Wp (ok (.ref S.length) (S ++ [.lst acc])) Q
    rw [wp_ok]
    exact hd acc S h0
  | d :: ds, acc, S, I, h0, hs, hd => by
    obtain ⟨ρ1, e1, t, S1, e2, h⟩ := hs 0 d acc S rfl h0
    unfold foldF lcF
    rw [e1]
    simp only [e2]
    cases t with
    | false =>
      simp only [Bool.false_eq_true, if_false] at h
      exact wp_lcF0 ds acc S1 (fun i => I (i + 1)) h (fun i d ρ S e => hs (i + 1) d ρ S (by simpa using e)) (fun ρ S z => hd ρ S (by simpa using z))
    | true =>
      simp only [if_true] at h
      obtain ⟨y, S2, e3, hz, h⟩ := h
      have := wp_lcF0 ds (acc ++ [y]) S2 (fun i => I (i + 1)) h (fun i d ρ S e => hs (i + 1) d ρ S (by simpa using e)) (fun ρ S z => hd ρ S (by simpa using z))
      show Wp (bd (bd (bd (evE F elt ρ1 S1) fun y S4 => if acc.length < sizeLine then ok (.inl (acc ++ [y]) : List D ⊕ Empty) S4 else none) _) lcEnd) Q
      rw [e3]
      simp only [bd, if_pos hz]
      exact this
theorem wp_lcF {F : Orc} {elt : E} {tg : Tg} {c : T} {own : List Nat} {ρ : Rho} {ds : List D} {S : Sto} {Q : D → Sto → Prop} (I : Nat → List D → Sto → Prop) (h0 : I 0 [] S)
    (hs : ∀ i d acc S, ds[i]? = some d → I i acc S → ∃ ρ1, bindT tg d (wipeR ρ own) = some ρ1 ∧ Wp (evT F c ρ1 S) fun t S3 => if t = true then Wp (evE F elt ρ1 S3) fun y S4 => acc.length < sizeLine ∧ I (i + 1) (acc ++ [y]) S4 else I (i + 1) acc S3)
    (hd : ∀ acc S, I ds.length acc S → Q (.ref S.length) (S ++ [.lst acc])) : Wp (bd (foldI (lcF F elt tg c own ρ) (.fix ds) [] S) lcEnd) Q := wp_lcF0 ds [] S I h0 hs hd
theorem wp_lcR {F : Orc} {elt : E} {tg : Tg} {c : T} {own : List Nat} {ρ : Rho} {n : Nat} {ds : List D} {S : Sto} {Q : D → Sto → Prop} (I : Nat → List D → Sto → Prop) (h0 : I 0 [] S)
    (hl : ∀ i acc S, I i acc S → S[n]? = some (.lst ds))
    (hs : ∀ i d acc S, ds[i]? = some d → I i acc S → ∃ ρ1, bindT tg d (wipeR ρ own) = some ρ1 ∧ Wp (evT F c ρ1 S) fun t S3 => if t = true then Wp (evE F elt ρ1 S3) fun y S4 => acc.length < sizeLine ∧ I (i + 1) (acc ++ [y]) S4 else I (i + 1) acc S3)
    (hd : ∀ acc S, I ds.length acc S → Q (.ref S.length) (S ++ [.lst acc])) : Wp (bd (foldI (lcF F elt tg c own ρ) (.dyn n) [] S) lcEnd) Q := by
  show Wp (bd (foldR (lcF F elt tg c own ρ) n 0 [] S) lcEnd) Q
  have key : ∀ (m i : Nat) (acc : List D) (S : Sto), i + m = ds.length → I i acc S → Wp (bd (foldR (lcF F elt tg c own ρ) n i acc S) lcEnd) Q := by
    intro m
    induction m with
    | zero =>
      intro i acc S hi h
      rw [foldR, hl i acc S h]
      simp only
      rw [List.getElem?_eq_none (by omega)]
      show Wp (ok (.ref S.length) (S ++ [.lst acc])) Q
      rw [wp_ok]
      have e : i = ds.length := by omega
      subst e
      exact hd acc S h
    | succ m ih =>
      intro i acc S hi h
      have hi' : i < ds.length := by omega
      obtain ⟨ρ1, e1, t, S1, e2, h2⟩ := hs i ds[i] acc S (List.getElem?_eq_getElem hi') h
      rw [foldR, hl i acc S h]
      simp only
      rw [List.getElem?_eq_getElem hi']
      unfold lcF
      simp only [e1, e2]
      cases t with
      | false =>
        simp only [Bool.false_eq_true, if_false] at h2
        exact ih (i + 1) acc S1 (by omega) h2
      | true =>
        simp only [if_true] at h2
        obtain ⟨y, S2, e3, hz, h3⟩ := h2
        simp only [bd, e3, if_pos hz]
        exact ih (i + 1) _ S2 (by omega) h3
  exact key ds.length 0 [] S (by omega) h0
/-! ### calls -/
def retQ (Q : D → Sto → Prop) : Fl → Sto → Prop
  | .ret d, S => Q d S
  | .nx _, S => Q .non S
  | _, _ => False
theorem wp_call {tbl : List (Nat × Fd)} {k f : Nat} {ds : List D} {S : Sto} {Q : D → Sto → Prop} {fd : Fd} (hf : tbl.lookup f = some fd) (hl : ds.length = fd.np)
    (h : Wp (exCs ⟨callN tbl k⟩ fd.body (ds.map some ++ List.replicate (fd.ns - fd.np) none) S) (retQ Q)) : Wp (callN tbl (k + 1) f ds S) Q := by
  unfold callN
  rw [hf]
  simp only [if_pos hl]
  rw [wp_bd]
  refine h.mono fun r S1 q => ?_
  cases r with
  | ret d => exact wp_ok ▸ q
  | nx ρ => exact wp_ok ▸ q
  | brk ρ => exact q.elim
  | cnt ρ => exact q.elim

/-! ### statements, one at a time -/
section
variable {F : Orc} {ρ : Rho} {S : Sto} {Q : Fl → Sto → Prop}
def seqQ (F : Orc) (cs : Cs) (Q : Fl → Sto → Prop) : Fl → Sto → Prop
  | .nx ρ, S => Wp (exCs F cs ρ S) Q
  | .brk ρ, S => Q (.brk ρ) S
  | .cnt ρ, S => Q (.cnt ρ) S
  | .ret d, S => Q (.ret d) S
def ifQ (F : Orc) (a b : Cs) (ρ : Rho) (Q : Fl → Sto → Prop) : Bool → Sto → Prop
  | true, S => Wp (exCs F a ρ S) Q
  | false, S => Wp (exCs F b ρ S) Q
theorem wp_cons {c : C} {cs : Cs} : Wp (exCs F (.cons c cs) ρ S) Q = Wp (exC F c ρ S) (seqQ F cs Q) := by
  conv => lhs; unfold exCs
  rw [wp_bd]
  congr 1
  funext f S1
  cases f with
  | nx ρ1 => rfl
  | brk ρ1 => exact wp_ok
  | cnt ρ1 => exact wp_ok
  | ret d => exact wp_ok
theorem wp_nil : Wp (exCs F .nil ρ S) Q = Q (.nx ρ) S := wp_ok
theorem wp_ife {c : T} {a b : Cs} : Wp (exC F (.ife c a b) ρ S) Q = Wp (evT F c ρ S) (ifQ F a b ρ Q) := by
  conv => lhs; unfold exC
  rw [wp_bd]
  congr 1
  funext t S1
  cases t <;> rfl
theorem wp_set {i : Nat} {e : E} : Wp (exC F (.set i e) ρ S) Q = Wp (evE F e ρ S) fun d S1 => Q (.nx (ρ.set i (some d))) S1 := by
  conv => lhs; unfold exC
  rw [wp_bd]
  congr 1
  funext d S1
  exact wp_ok
theorem wp_asg {tg : Tg} {e : E} : Wp (exC F (.asg tg e) ρ S) Q = Wp (evE F e ρ S) fun d S1 => ∃ ρ1, bindT tg d ρ = some ρ1 ∧ Q (.nx ρ1) S1 := by
  conv => lhs; unfold exC
  rw [wp_bd]
  congr 1
  funext d S1
  cases e : bindT tg d ρ with
  | none => simp [wp_none]
  | some ρ1 => simp [wp_ok]
theorem wp_ex {e : E} : Wp (exC F (.ex e) ρ S) Q = Wp (evE F e ρ S) fun _ S1 => Q (.nx ρ) S1 := by
  conv => lhs; unfold exC
  rw [wp_bd]
  congr 1
  funext d S1
  exact wp_ok
theorem wp_ret {e : E} : Wp (exC F (.ret e) ρ S) Q = Wp (evE F e ρ S) fun d S1 => Q (.ret d) S1 := by
  conv => lhs; unfold exC
  rw [wp_bd]
  congr 1
  funext d S1
  exact wp_ok
theorem wp_retn : Wp (exC F .retn ρ S) Q = Q (.ret .non) S := wp_ok
theorem wp_pass : Wp (exC F .pass ρ S) Q = Q (.nx ρ) S := wp_ok
theorem wp_brk : Wp (exC F .brk ρ S) Q = Q (.brk ρ) S := wp_ok
theorem wp_cnt : Wp (exC F .cnt ρ S) Q = Q (.cnt ρ) S := wp_ok
theorem wp_aug {i : Nat} {op : Op2} {e : E} : Wp (exC F (.aug i op e) ρ S) Q = ∃ x, ρ[i]? = some (some x) ∧ Wp (evE F e ρ S) fun y S1 => Wp (augD op x y S1) fun z S2 => Q (.nx (ρ.set i (some z))) S2 := by
  conv => lhs; unfold exC
  cases e1 : ρ[i]? with
  | none => simp [wp_none]
  | some o =>
    cases o with
    | none => simp [wp_none]
    | some x => simp [wp_bd, wp_ok]
theorem wp_seti {o i e : E} : Wp (exC F (.seti o i e) ρ S) Q = Wp (evE F e ρ S) fun v S1 => Wp (evE F o ρ S1) fun x S2 => Wp (evE F i ρ S2) fun y S3 => ∃ S4, setiD x y v S3 = some S4 ∧ Q (.nx ρ) S4 := by
  conv => lhs; unfold exC
  simp only [wp_bd]
  congr 1
  funext v S1
  congr 1
  funext x S2
  congr 1
  funext y S3
  cases e1 : setiD x y v S3 with
  | none => simp [wp_none]
  | some S4 => simp [wp_ok]
theorem wp_whl {c : T} {b : Cs} : Wp (exC F (.whl c b) ρ S) Q = Wp (whileL (fun ρ S => evT F c ρ S) (fun ρ S => exCs F b ρ S) ρ S) Q := rfl
theorem wp_for {tg : Tg} {it : I} {b : Cs} : Wp (exC F (.for_ tg it b) ρ S) Q = Wp (evI F it ρ S) fun i S1 => Wp (bd (foldI (forStep tg fun ρ S => exCs F b ρ S) i ρ S1) forEnd) Q := by
  conv => lhs; unfold exC
  rw [wp_bd]
end
/-! ### tests, expressions -/
section
variable {F : Orc} {ρ : Rho} {S : Sto}
def andQ (F : Orc) (b : T) (ρ : Rho) (Q : Bool → Sto → Prop) : Bool → Sto → Prop
  | true, S => Wp (evT F b ρ S) Q
  | false, S => Q false S
def orQ (F : Orc) (b : T) (ρ : Rho) (Q : Bool → Sto → Prop) : Bool → Sto → Prop
  | true, S => Q true S
  | false, S => Wp (evT F b ρ S) Q
def notQ (Q : Bool → Sto → Prop) : Bool → Sto → Prop := fun b S => Q (!b) S
def andE (F : Orc) (b : E) (ρ : Rho) (Q : D → Sto → Prop) : D → Sto → Prop
  | .bl true, S => Wp (evE F b ρ S) Q
  | .bl false, S => Q (.bl false) S
  | _, _ => False
def orE (F : Orc) (b : E) (ρ : Rho) (Q : D → Sto → Prop) : D → Sto → Prop
  | .bl true, S => Q (.bl true) S
  | .bl false, S => Wp (evE F b ρ S) Q
  | _, _ => False
def iteE (F : Orc) (a b : E) (ρ : Rho) (Q : D → Sto → Prop) : Bool → Sto → Prop
  | true, S => Wp (evE F a ρ S) Q
  | false, S => Wp (evE F b ρ S) Q
def chT (F : Orc) (op : Cm) (y : D) (c : E) (ρ : Rho) (Q : Bool → Sto → Prop) : Bool → Sto → Prop
  | true, S => Wp (evE F c ρ S) fun z S3 => Wp (liftB (copB op y z S3) S3) Q
  | false, S => Q false S
def chE (F : Orc) (op : Cm) (y : D) (c : E) (ρ : Rho) (Q : D → Sto → Prop) : Bool → Sto → Prop
  | true, S => Wp (evE F c ρ S) fun z S3 => Wp (cop op y z S3) Q
  | false, S => Q (.bl false) S
theorem wt_and {a b : T} {Q : Bool → Sto → Prop} : Wp (evT F (.and a b) ρ S) Q = Wp (evT F a ρ S) (andQ F b ρ Q) := by
  conv => lhs; unfold evT
  rw [wp_bd]
  congr 1
  funext t S1
  cases t
  · exact wp_ok
  · rfl
theorem wt_or {a b : T} {Q : Bool → Sto → Prop} : Wp (evT F (.or a b) ρ S) Q = Wp (evT F a ρ S) (orQ F b ρ Q) := by
  conv => lhs; unfold evT
  rw [wp_bd]
  congr 1
  funext t S1
  cases t
  · rfl
  · exact wp_ok
theorem wt_one {a : T} {Q : Bool → Sto → Prop} : Wp (evT F (.one a) ρ S) Q = Wp (evT F a ρ S) Q := by
  conv => lhs; unfold evT
theorem wt_not {a : T} {Q : Bool → Sto → Prop} : Wp (evT F (.not a) ρ S) Q = Wp (evT F a ρ S) (notQ Q) := by
  conv => lhs; unfold evT
  rw [wp_bd]
  congr 1
  funext t S1
  exact wp_ok
theorem wt_yes {Q : Bool → Sto → Prop} : Wp (evT F .yes ρ S) Q = Q true S := by
  conv => lhs; unfold evT
  exact wp_ok
theorem wt_v {e : E} {Q : Bool → Sto → Prop} : Wp (evT F (.v e) ρ S) Q = Wp (evE F e ρ S) fun x S1 => ∃ b, tru x S1 = some b ∧ Q b S1 := by
  conv => lhs; unfold evT
  rw [wp_bd]
  congr 1
  funext x S1
  cases e : tru x S1 with
  | none => simp [liftB, wp_none]
  | some b => simp [liftB, wp_ok]
theorem wp_liftB {o : Option Bool} {Q : Bool → Sto → Prop} : Wp (liftB o S) Q = ∃ b, o = some b ∧ Q b S := by
  cases o with
  | none => simp [liftB, wp_none]
  | some b => simp [liftB, wp_ok]
theorem wp_lift {o : Option Bool} {Q : D → Sto → Prop} : Wp (lift o S) Q = ∃ b, o = some b ∧ Q (.bl b) S := by
  cases o with
  | none => simp [lift, wp_none]
  | some b => simp [lift, wp_ok]
theorem wp_cop {op : Cm} {x y : D} {Q : D → Sto → Prop} : Wp (cop op x y S) Q = ∃ b, copB op x y S = some b ∧ Q (.bl b) S := wp_lift
theorem wt_cmp {op : Cm} {a b : E} {Q : Bool → Sto → Prop} : Wp (evT F (.cmp op a b) ρ S) Q = Wp (evE F a ρ S) fun x S1 => Wp (evE F b ρ S1) fun y S2 => ∃ t, copB op x y S2 = some t ∧ Q t S2 := by
  conv => lhs; unfold evT
  simp only [wp_bd, wp_liftB]
theorem wt_chain {op op' : Cm} {a b c : E} {Q : Bool → Sto → Prop} : Wp (evT F (.chain op op' a b c) ρ S) Q = Wp (evE F a ρ S) fun x S1 => Wp (evE F b ρ S1) fun y S2 => ∃ t, copB op x y S2 = some t ∧ chT F op' y c ρ Q t S2 := by
  conv => lhs; unfold evT
  simp only [wp_bd]
  congr 1
  funext x S1
  congr 1
  funext y S2
  cases e : copB op x y S2 with
  | none => simp [wp_none]
  | some t => cases t <;> simp [wp_bd, wp_ok, chT]
section
variable {Q : D → Sto → Prop}
theorem we_cmp {op : Cm} {a b : E} : Wp (evE F (.cmp op a b) ρ S) Q = Wp (evE F a ρ S) fun x S1 => Wp (evE F b ρ S1) fun y S2 => ∃ t, copB op x y S2 = some t ∧ Q (.bl t) S2 := by
  conv => lhs; unfold evE
  simp only [wp_bd, wp_cop]
theorem we_chain {op op' : Cm} {a b c : E} : Wp (evE F (.chain op op' a b c) ρ S) Q = Wp (evE F a ρ S) fun x S1 => Wp (evE F b ρ S1) fun y S2 => ∃ t, copB op x y S2 = some t ∧ chE F op' y c ρ Q t S2 := by
  conv => lhs; unfold evE
  simp only [wp_bd]
  congr 1
  funext x S1
  congr 1
  funext y S2
  cases e : copB op x y S2 with
  | none => simp [wp_none]
  | some t => cases t <;> simp [wp_bd, wp_ok, chE]
theorem we_and {a b : E} : Wp (evE F (.and a b) ρ S) Q = Wp (evE F a ρ S) (andE F b ρ Q) := by
  conv => lhs; unfold evE
  rw [wp_bd]
  congr 1
  funext x S1
  cases x with
  | bl t => cases t <;> simp [wp_ok, andE]
  | _ => simp [wp_none, andE]
theorem we_or {a b : E} : Wp (evE F (.or a b) ρ S) Q = Wp (evE F a ρ S) (orE F b ρ Q) := by
  conv => lhs; unfold evE
  rw [wp_bd]
  congr 1
  funext x S1
  cases x with
  | bl t => cases t <;> simp [wp_ok, orE]
  | _ => simp [wp_none, orE]
theorem we_one {a : E} : Wp (evE F (.one a) ρ S) Q = Wp (evE F a ρ S) Q := by
  conv => lhs; unfold evE
theorem we_ite {c : T} {a b : E} : Wp (evE F (.ite c a b) ρ S) Q = Wp (evT F c ρ S) (iteE F a b ρ Q) := by
  conv => lhs; unfold evE
  rw [wp_bd]
  congr 1
  funext t S1
  cases t <;> rfl
theorem we_not {a : E} : Wp (evE F (.not a) ρ S) Q = Wp (evE F a ρ S) fun x S1 => ∃ b, x = .bl b ∧ Q (.bl (!b)) S1 := by
  conv => lhs; unfold evE
  rw [wp_bd]
  congr 1
  funext x S1
  cases x <;> simp [wp_none, wp_ok]
theorem we_neg {a : E} : Wp (evE F (.neg a) ρ S) Q = Wp (evE F a ρ S) fun x S1 => ∃ i, x = .int i ∧ Q (.int (-i)) S1 := by
  conv => lhs; unfold evE
  rw [wp_bd]
  congr 1
  funext x S1
  cases x <;> simp [wp_none, wp_ok]
theorem we_var {i : Nat} : Wp (evE F (.var i) ρ S) Q = ∃ d, ρ[i]? = some (some d) ∧ Q d S := by
  conv => lhs; unfold evE
  cases ρ[i]? with
  | none => simp [wp_none]
  | some o => cases o <;> simp [wp_none, wp_ok]
theorem we_non : Wp (evE F .non ρ S) Q = Q .non S := by
  conv => lhs; unfold evE
  exact wp_ok
theorem we_bl {b : Bool} : Wp (evE F (.bl b) ρ S) Q = Q (.bl b) S := by
  conv => lhs; unfold evE
  exact wp_ok
theorem we_int {i : Int} : Wp (evE F (.int i) ρ S) Q = Q (.int i) S := by
  conv => lhs; unfold evE
  exact wp_ok
theorem we_str {x : Str} : Wp (evE F (.str x) ρ S) Q = Q (.str x) S := by
  conv => lhs; unfold evE
  exact wp_ok
theorem we_gc {x : Str} {d : D} : Wp (evE F (.gc x d) ρ S) Q = Q d S := by
  conv => lhs; unfold evE
  exact wp_ok
theorem we_tup {es : Es} : Wp (evE F (.tup es) ρ S) Q = Wp (evEs F es ρ S) fun ds S1 => Q (.tup ds) S1 := by
  conv => lhs; unfold evE
  simp only [wp_bd, wp_ok]
theorem we_lst {es : Es} : Wp (evE F (.lst es) ρ S) Q = Wp (evEs F es ρ S) fun ds S1 => Q (.ref S1.length) (S1 ++ [.lst ds]) := by
  conv => lhs; unfold evE
  simp only [wp_bd, wp_ok]
theorem we_bin {op : Op2} {a b : E} : Wp (evE F (.bin op a b) ρ S) Q = Wp (evE F a ρ S) fun x S1 => Wp (evE F b ρ S1) fun y S2 => Wp (bop op x y S2) Q := by
  conv => lhs; unfold evE
  simp only [wp_bd]
theorem we_idx {a i : E} : Wp (evE F (.idx a i) ρ S) Q = Wp (evE F a ρ S) fun x S1 => Wp (evE F i ρ S1) fun y S2 => Wp (idxD x y S2) Q := by
  conv => lhs; unfold evE
  simp only [wp_bd]
theorem we_sl {a : E} {lo hi : P} : Wp (evE F (.sl a lo hi) ρ S) Q = Wp (evE F a ρ S) fun x S1 => Wp (evP F lo ρ S1) fun l S2 => Wp (evP F hi ρ S2) fun h S3 => Wp (slD x l h S3) Q := by
  conv => lhs; unfold evE
  simp only [wp_bd]
theorem we_rev {a : E} : Wp (evE F (.rev a) ρ S) Q = Wp (evE F a ρ S) fun x S1 => Wp (revD x S1) Q := by
  conv => lhs; unfold evE
  simp only [wp_bd]
theorem we_call {f : Nat} {es : Es} : Wp (evE F (.call f es) ρ S) Q = Wp (evEs F es ρ S) fun ds S1 => Wp (F.call f ds S1) Q := by
  conv => lhs; unfold evE
  simp only [wp_bd]
theorem we_bi {b : Bi} {es : Es} : Wp (evE F (.bi b es) ρ S) Q = Wp (evEs F es ρ S) fun ds S1 => Wp (biD b ds S1) Q := by
  conv => lhs; unfold evE
  simp only [wp_bd]
theorem we_bm {m : Bm} {o : E} {es : Es} : Wp (evE F (.bm m o es) ρ S) Q = Wp (evE F o ρ S) fun x S1 => bmTy m x S1 = true ∧ Wp (evEs F es ρ S1) fun ds S2 => Wp (bmD m x ds S2) Q := by
  conv => lhs; unfold evE
  rw [wp_bd]
  congr 1
  funext x S1
  cases bmTy m x S1 <;> simp [wp_none, wp_bd]
theorem we_isi {a : E} {t : Ty} : Wp (evE F (.isi a t) ρ S) Q = Wp (evE F a ρ S) fun x S1 => ∃ b, isiD t x S1 = some b ∧ Q (.bl b) S1 := by
  conv => lhs; unfold evE
  simp only [wp_bd, wp_lift]
theorem we_lrg {a : E} : Wp (evE F (.lrg a) ρ S) Q = Wp (evE F a ρ S) fun x S1 => ∃ j : Int, x = .int j ∧ (-(2 ^ 62) ≤ j ∧ j < 2 ^ 62 ∧ j.toNat ≤ 2 ^ 24) ∧ Q (.ref S1.length) (S1 ++ [.lst ((List.range j.toNat).map fun (k : Nat) => .int k)]) := by
  conv => lhs; unfold evE
  rw [wp_bd]
  congr 1
  funext x S1
  cases x <;> simp [wp_none, wp_ok]
  rename_i j
  by_cases h : -4611686018427387904 ≤ j ∧ j < 4611686018427387904 ∧ j ≤ 16777216
  · simp [h, wp_ok]
  · simp [h, wp_none]
theorem we_lc {elt : E} {tg : Tg} {it : I} {c : T} {own : List (Str × Nat)} : Wp (evE F (.lc elt tg it c own) ρ S) Q = Wp (evI F it ρ S) fun i S1 => Wp (bd (foldI (lcF F elt tg c (own.map (·.2)) ρ) i [] S1) lcEnd) Q := by
  rw [evE_lc, wp_bd]
theorem wa_nil {Q : List D → Sto → Prop} : Wp (evEs F .nil ρ S) Q = Q [] S := by
  conv => lhs; unfold evEs
  exact wp_ok
theorem wa_cons {e : E} {es : Es} {Q : List D → Sto → Prop} : Wp (evEs F (.cons e es) ρ S) Q = Wp (evE F e ρ S) fun d S1 => Wp (evEs F es ρ S1) fun ds S2 => Q (d :: ds) S2 := by
  conv => lhs; unfold evEs
  simp only [wp_bd, wp_ok]
theorem wo_no {Q : Option Int → Sto → Prop} : Wp (evP F .no ρ S) Q = Q none S := by
  conv => lhs; unfold evP
  exact wp_ok
theorem wo_e {e : E} {Q : Option Int → Sto → Prop} : Wp (evP F (.e e) ρ S) Q = Wp (evE F e ρ S) fun x S1 => ∃ i, x = .int i ∧ Q (some i) S1 := by
  conv => lhs; unfold evP
  rw [wp_bd]
  congr 1
  funext x S1
  cases x <;> simp [wp_none, wp_ok]
/-- what a value is walked as -/
def seqI (x : D) (S : Sto) : Option It := match x with
  | .tup ds => some (.fix ds)
  | .fz ds => some (.fix ds)
  | .str z => some (.fix (z.cps.toList.map fun c => .str ⟨#[c]⟩))
  | .ref n => match S[n]? with
    | some (.lst _) => some (.dyn n)
    | _ => none
  | _ => none
theorem wi_seq {e : E} {Q : It → Sto → Prop} : Wp (evI F (.seq e) ρ S) Q = Wp (evE F e ρ S) fun x S1 => ∃ i, seqI x S1 = some i ∧ Q i S1 := by
  conv => lhs; unfold evI
  rw [wp_bd]
  congr 1
  funext x S1
  cases x <;> simp [wp_none, wp_ok, seqI]
  rename_i n
  cases S1[n]? with
  | none => simp [wp_none]
  | some o => cases o <;> simp [wp_none, wp_ok]
theorem wi_rng1 {a : E} {Q : It → Sto → Prop} : Wp (evI F (.rng1 a) ρ S) Q = Wp (evE F a ρ S) fun x S1 => ∃ j : Int, x = .int j ∧ (-(2 ^ 62) ≤ j ∧ j < 2 ^ 62) ∧ Q (.fix ((List.range j.toNat).map fun (k : Nat) => .int k)) S1 := by
  conv => lhs; unfold evI
  rw [wp_bd]
  congr 1
  funext x S1
  cases x <;> simp [wp_none, wp_ok]
  rename_i j
  by_cases h : -4611686018427387904 ≤ j ∧ j < 4611686018427387904
  · simp [h, wp_ok]
  · simp [h, wp_none]
theorem wi_rng2 {a b : E} {Q : It → Sto → Prop} : Wp (evI F (.rng2 a b) ρ S) Q = Wp (evE F a ρ S) fun x S1 => Wp (evE F b ρ S1) fun y S2 => ∃ i j : Int, x = .int i ∧ y = .int j ∧ (-(2 ^ 62) ≤ i ∧ i < 2 ^ 62 ∧ -(2 ^ 62) ≤ j ∧ j < 2 ^ 62) ∧ Q (.fix ((List.range (j - i).toNat).map fun (k : Nat) => .int (i + k))) S2 := by
  conv => lhs; unfold evI
  simp only [wp_bd]
  congr 1
  funext x S1
  congr 1
  funext y S2
  cases x <;> cases y <;> simp [wp_none, wp_ok]
  rename_i i j
  by_cases h : -4611686018427387904 ≤ i ∧ i < 4611686018427387904 ∧ -4611686018427387904 ≤ j ∧ j < 4611686018427387904
  · simp [h, wp_ok]
  · simp [h, wp_none]
end
end
/-! ### operations -/
def optD (o : Option D) (S : Sto) : Out D := match o with
  | some d => ok d S
  | none => none
section
variable {S : Sto} {i j : Int} {x y : Str} {α : Type} {Q : D → Sto → Prop} {n : Nat} {ds : List D}
theorem wp_optD {o : Option D} : Wp (optD o S) Q = ∃ d, o = some d ∧ Q d S := by
  cases o with
  | none => simp [optD, wp_none]
  | some b => simp [optD, wp_ok]
theorem wp_ifn {c : Prop} [Decidable c] {β : Type} {o : Out β} {Q : β → Sto → Prop} : Wp (if c then o else none) Q = (c ∧ Wp o Q) := by
  by_cases h : c <;> simp [h, wp_none]
theorem eqD_int : eqD (.int i) (.int j) S = some (i == j) := rfl
theorem eqD_str : eqD (.str x) (.str y) S = some (x == y) := rfl
theorem eqD_bl {a b : Bool} : eqD (.bl a) (.bl b) S = some (a == b) := rfl
theorem copB_eq {a b : D} : copB .eq a b S = eqD a b S := rfl
theorem copB_ne {a b : D} : copB .ne a b S = (eqD a b S).map (!·) := rfl
theorem copB_lt : copB .lt (.int i) (.int j) S = some (decide (i < j)) := rfl
theorem copB_le : copB .le (.int i) (.int j) S = some (decide (i ≤ j)) := rfl
theorem copB_gt : copB .gt (.int i) (.int j) S = some (decide (j < i)) := rfl
theorem copB_ge : copB .ge (.int i) (.int j) S = some (decide (j ≤ i)) := rfl
def isNon : D → Bool
  | .non => true
  | _ => false
theorem copB_is {a : D} : copB .is a .non S = some (isNon a) := by cases a <;> rfl
theorem copB_isnot {a : D} : copB .isnot a .non S = some (!isNon a) := by cases a <;> rfl
theorem copB_in {a b : D} : copB .inn a b S = inD a b S := rfl
theorem copB_notin {a b : D} : copB .notin a b S = (inD a b S).map (!·) := rfl
/-- the list at a place of the store -/
def lstAt (S : Sto) (n : Nat) : Option (List D) := match S[n]? with
  | some (.lst ds) => some ds
  | _ => none
theorem lstAt_some {S : Sto} {n : Nat} {ds : List D} (h : S[n]? = some (.lst ds)) : lstAt S n = some ds := by unfold lstAt; rw [h]
theorem wi_idx_ref : Wp (idxD (.ref n) (.int i) S) Q = ∃ ds, lstAt S n = some ds ∧ ∃ d, L2.atI ds i = some d ∧ Q d S := by
  unfold idxD itemsOf lstAt
  cases e : S[n]? with
  | none => simp [e, wp_none]
  | some o =>
    cases o with
    | lst ds => cases e3 : L2.atI ds i <;> simp [e, e3, wp_none, wp_ok]
    | _ => simp [e, wp_none]
theorem wi_idx_tup : Wp (idxD (.tup ds) (.int i) S) Q = ∃ d, L2.atI ds i = some d ∧ Q d S := by
  unfold idxD itemsOf
  cases e : L2.atI ds i <;> simp [e, wp_none, wp_ok]
theorem wi_idx_str : Wp (idxD (.str x) (.int i) S) Q = (x.length ≤ sizeLine ∧ ∃ c, L2.atI x.cps.toList i = some c ∧ Q (.str ⟨#[c]⟩) S) := by
  unfold idxD
  by_cases h : x.length ≤ sizeLine
  · cases e : L2.atI x.cps.toList i <;> simp [h, e, wp_none, wp_ok]
  · simp [h, wp_none]
theorem ws_ref {lo hi : Option Int} : Wp (slD (.ref n) lo hi S) Q = ∃ ds, lstAt S n = some ds ∧ Q (.ref S.length) (S ++ [.lst (cutL ds lo hi)]) := by
  unfold slD itemsOf lstAt
  cases e : S[n]? with
  | none => simp [e, wp_none]
  | some o => cases o <;> simp [e, wp_none, wp_ok]
theorem ws_tup {lo hi : Option Int} : Wp (slD (.tup ds) lo hi S) Q = Q (.tup (cutL ds lo hi)) S := by
  unfold slD
  simp [wp_ok]
theorem ws_str {lo hi : Option Int} : Wp (slD (.str x) lo hi S) Q = (x.length ≤ sizeLine ∧ Q (.str (L2.cutS x lo hi)) S) := by
  unfold slD
  by_cases h : x.length ≤ sizeLine <;> simp [h, wp_none, wp_ok]
theorem wr_ref : Wp (revD (.ref n) S) Q = ∃ ds, lstAt S n = some ds ∧ Q (.ref S.length) (S ++ [.lst ds.reverse]) := by
  unfold revD itemsOf lstAt
  cases e : S[n]? with
  | none => simp [e, wp_none]
  | some o => cases o <;> simp [e, wp_none, wp_ok]
theorem wl_ref : Wp (biD .len [.ref n] S) Q = ∃ ds, lstAt S n = some ds ∧ Q (.int ds.length) S := by
  unfold biD lenD itemsOf lstAt
  cases e : S[n]? with
  | none => simp [e, wp_none]
  | some o => cases o <;> simp [e, wp_none, wp_ok]
theorem wl_tup : Wp (biD .len [.tup ds] S) Q = Q (.int ds.length) S := by
  unfold biD lenD itemsOf
  simp [wp_ok]
theorem wl_fz : Wp (biD .len [.fz ds] S) Q = Q (.int ds.length) S := by
  unfold biD lenD itemsOf
  simp [wp_ok]
theorem wl_str : Wp (biD .len [.str x] S) Q = (x.length ≤ sizeLine ∧ Q (.int x.length) S) := by
  unfold biD lenD
  by_cases h : x.length ≤ sizeLine <;> simp [h, wp_none, wp_ok]
theorem wtup_ref : Wp (biD .tuple [.ref n] S) Q = ∃ ds, lstAt S n = some ds ∧ Q (.tup ds) S := by
  unfold biD itemsOf lstAt
  cases e : S[n]? with
  | none => simp [e, wp_none]
  | some o => cases o <;> simp [e, wp_none, wp_ok]
theorem wtup_tup : Wp (biD .tuple [.tup ds] S) Q = Q (.tup ds) S := by
  unfold biD
  simp [wp_ok]
theorem wlist_ref : Wp (biD .list [.ref n] S) Q = ∃ ds, lstAt S n = some ds ∧ Q (.ref S.length) (S ++ [.lst ds]) := by
  unfold biD itemsOf lstAt
  cases e : S[n]? with
  | none => simp [e, wp_none]
  | some o => cases o <;> simp [e, wp_none, wp_ok]
theorem wlist_tup : Wp (biD .list [.tup ds] S) Q = Q (.ref S.length) (S ++ [.lst ds]) := by
  unfold biD itemsOf
  simp [wp_ok]
theorem wapp {d : D} : Wp (bmD .append (.ref n) [d] S) Q = ∃ ds, lstAt S n = some ds ∧ ds.length < sizeLine ∧ Q .non (S.set n (.lst (ds ++ [d]))) := by
  unfold bmD lstAt
  cases e : S[n]? with
  | none => simp [e, wp_none]
  | some o =>
    cases o with
    | lst ds => by_cases h : ds.length < sizeLine <;> simp [e, h, wp_none, wp_ok]
    | _ => simp [e, wp_none]
theorem bmTy_ref {m : Bm} : bmTy m (.ref n) S = true ↔ ∃ ds, lstAt S n = some ds := by
  unfold bmTy lstAt
  cases e : S[n]? with
  | none => simp [e]
  | some o => cases o <;> simp [e]
theorem wsub : Wp (bop .sub (.int i) (.int j) S) Q = Q (.int (i - j)) S := wp_ok
theorem wadd : Wp (bop .add (.int i) (.int j) S) Q = Q (.int (i + j)) S := wp_ok
theorem wmul : Wp (bop .mul (.int i) (.int j) S) Q = (((-(2 ^ 64) < i ∧ i < 2 ^ 64) ∨ (-(2 ^ 64) < j ∧ j < 2 ^ 64)) ∧ Q (.int (i * j)) S) := by
  unfold bop
  simp only [wp_ifn, wp_ok]
theorem wfdiv : Wp (bop .fdiv (.int i) (.int j) S) Q = ((0 < j ∧ j < 1073741824) ∧ Q (.int (i / j)) S) := by
  unfold bop
  simp only [wp_ifn, wp_ok]
theorem wmod : Wp (bop .mod (.int i) (.int j) S) Q = (0 < j ∧ Q (.int (i % j)) S) := by
  unfold bop
  simp only [wp_ifn, wp_ok]
theorem wpow : Wp (bop .pow (.int i) (.int j) S) Q = ((0 ≤ j ∧ j ≤ 1000000 ∧ i.natAbs < 2 ^ 64) ∧ Q (.int (i ^ j.toNat)) S) := by
  unfold bop
  simp only [wp_ifn, wp_ok]
theorem wadd_str : Wp (bop .add (.str x) (.str y) S) Q = (x.length + y.length ≤ sizeLine ∧ Q (.str (x ++ y)) S) := by
  unfold bop
  simp only [wp_ifn, wp_ok]
theorem wadd_tup {es : List D} : Wp (bop .add (.tup ds) (.tup es) S) Q = (ds.length + es.length ≤ sizeLine ∧ Q (.tup (ds ++ es)) S) := by
  unfold bop
  simp only [wp_ifn, wp_ok]
theorem wadd_ref {m : Nat} : Wp (bop .add (.ref n) (.ref m) S) Q = ∃ xs, lstAt S n = some xs ∧ ∃ ys, lstAt S m = some ys ∧ xs.length + ys.length ≤ sizeLine ∧ Q (.ref S.length) (S ++ [.lst (xs ++ ys)]) := by
  unfold bop lstAt
  cases e : S[n]? with
  | none => simp [e, wp_none]
  | some o =>
    cases o with
    | lst xs =>
      cases e2 : S[m]? with
      | none => simp [e, e2, wp_none]
      | some o =>
        cases o with
        | lst ys => by_cases h : xs.length + ys.length ≤ sizeLine <;> simp [e, e2, h, wp_none, wp_ok]
        | _ => simp [e, e2, wp_none]
    | _ => simp [e, wp_none]
theorem wmul_str : Wp (bop .mul (.str x) (.int i) S) Q = ((0 ≤ i ∧ i ≤ 1000 ∧ x.length ≤ 1000) ∧ Q (.str ⟨(List.replicate i.toNat x.cps.toList).flatten.toArray⟩) S) := by
  unfold bop
  simp only [wp_ifn, wp_ok]
theorem waug_add : Wp (augD .add (.int i) (.int j) S) Q = Q (.int (i + j)) S := wp_ok
theorem waug_sub : Wp (augD .sub (.int i) (.int j) S) Q = Q (.int (i - j)) S := wp_ok
theorem seti_ref {v : D} {S4 : Sto} : setiD (.ref n) (.int i) v S = some S4 ↔ ∃ ds, lstAt S n = some ds ∧ ∃ j, L2.ixN ds.length i = some j ∧ S.set n (.lst (ds.set j v)) = S4 := by
  unfold setiD lstAt
  cases e : S[n]? with
  | none => simp [e]
  | some o =>
    cases o with
    | lst ds => cases e2 : L2.ixN ds.length i <;> simp [e, e2]
    | _ => simp [e]
theorem seqI_tup : seqI (.tup ds) S = some (.fix ds) := rfl
theorem seqI_fz : seqI (.fz ds) S = some (.fix ds) := rfl
theorem seqI_str : seqI (.str x) S = some (.fix (x.cps.toList.map fun c => .str ⟨#[c]⟩)) := rfl
theorem seqI_ref {i : It} : seqI (.ref n) S = some i ↔ ∃ ds, lstAt S n = some ds ∧ i = .dyn n := by
  unfold seqI lstAt
  cases e : S[n]? with
  | none => simp [e]
  | some o => cases o <;> simp [e, eq_comm]
theorem tru_bl {b : Bool} : tru (.bl b) S = some b := rfl
theorem tru_int : tru (.int i) S = some (i != 0) := rfl
theorem tru_non : tru .non S = some false := rfl
theorem atI_ofNat (xs : List α) (n : Nat) : L2.atI xs (no_index (OfNat.ofNat n) : Int) = xs[n]? := by
  unfold L2.atI L2.ixN
  have h0 : (0 : Int) ≤ (OfNat.ofNat n : Int) := Int.natCast_nonneg n
  rw [if_pos h0]
  by_cases h : (OfNat.ofNat n : Int) < (xs.length : Int)
  · rw [if_pos h]
    rfl
  · rw [if_neg h]
    have : xs.length ≤ n := by
      have h' : ¬ ((n : Int) < (xs.length : Int)) := h
      omega
    exact (List.getElem?_eq_none this).symm
theorem atI_cast (xs : List α) (n : Nat) : L2.atI xs (n : Int) = xs[n]? := atI_ofNat xs n
theorem ixN_ofNat (m n : Nat) : L2.ixN m (no_index (OfNat.ofNat n) : Int) = if n < m then some n else none := by
  unfold L2.ixN
  have h0 : (0 : Int) ≤ (OfNat.ofNat n : Int) := Int.natCast_nonneg n
  rw [if_pos h0]
  by_cases h : n < m
  · rw [if_pos h, if_pos (show ((OfNat.ofNat n : Int) < (m : Int)) from (show ((n : Int) < (m : Int)) by omega))]
    rfl
  · rw [if_neg h, if_neg (show ¬ ((OfNat.ofNat n : Int) < (m : Int)) from (show ¬ ((n : Int) < (m : Int)) by omega))]
end
section
variable {F : Orc} {cs a b : Cs} {ρ : Rho} {S : Sto} {d : D}
theorem seqQ_nx {Q : Fl → Sto → Prop} : seqQ F cs Q (.nx ρ) S = Wp (exCs F cs ρ S) Q := rfl
theorem seqQ_brk {Q : Fl → Sto → Prop} : seqQ F cs Q (.brk ρ) S = Q (.brk ρ) S := rfl
theorem seqQ_cnt {Q : Fl → Sto → Prop} : seqQ F cs Q (.cnt ρ) S = Q (.cnt ρ) S := rfl
theorem seqQ_ret {Q : Fl → Sto → Prop} : seqQ F cs Q (.ret d) S = Q (.ret d) S := rfl
theorem ifQ_t {Q : Fl → Sto → Prop} : ifQ F a b ρ Q true S = Wp (exCs F a ρ S) Q := rfl
theorem ifQ_f {Q : Fl → Sto → Prop} : ifQ F a b ρ Q false S = Wp (exCs F b ρ S) Q := rfl
theorem retQ_ret {Q : D → Sto → Prop} : retQ Q (.ret d) S = Q d S := rfl
theorem retQ_nx {Q : D → Sto → Prop} : retQ Q (.nx ρ) S = Q .non S := rfl
theorem andQ_t {b : T} {Q : Bool → Sto → Prop} : andQ F b ρ Q true S = Wp (evT F b ρ S) Q := rfl
theorem andQ_f {b : T} {Q : Bool → Sto → Prop} : andQ F b ρ Q false S = Q false S := rfl
theorem orQ_t {b : T} {Q : Bool → Sto → Prop} : orQ F b ρ Q true S = Q true S := rfl
theorem orQ_f {b : T} {Q : Bool → Sto → Prop} : orQ F b ρ Q false S = Wp (evT F b ρ S) Q := rfl
theorem notQ_ {t : Bool} {Q : Bool → Sto → Prop} : notQ Q t S = Q (!t) S := rfl
theorem andE_t {b : E} {Q : D → Sto → Prop} : andE F b ρ Q (.bl true) S = Wp (evE F b ρ S) Q := rfl
theorem andE_f {b : E} {Q : D → Sto → Prop} : andE F b ρ Q (.bl false) S = Q (.bl false) S := rfl
theorem orE_t {b : E} {Q : D → Sto → Prop} : orE F b ρ Q (.bl true) S = Q (.bl true) S := rfl
theorem orE_f {b : E} {Q : D → Sto → Prop} : orE F b ρ Q (.bl false) S = Wp (evE F b ρ S) Q := rfl
theorem iteE_t {a b : E} {Q : D → Sto → Prop} : iteE F a b ρ Q true S = Wp (evE F a ρ S) Q := rfl
theorem iteE_f {a b : E} {Q : D → Sto → Prop} : iteE F a b ρ Q false S = Wp (evE F b ρ S) Q := rfl
theorem chT_t {op : Cm} {y : D} {c : E} {Q : Bool → Sto → Prop} : chT F op y c ρ Q true S = Wp (evE F c ρ S) fun z S3 => ∃ t, copB op y z S3 = some t ∧ Q t S3 := by
  unfold chT
  simp only [wp_liftB]
theorem chT_f {op : Cm} {y : D} {c : E} {Q : Bool → Sto → Prop} : chT F op y c ρ Q false S = Q false S := rfl
theorem chE_t {op : Cm} {y : D} {c : E} {Q : D → Sto → Prop} : chE F op y c ρ Q true S = Wp (evE F c ρ S) fun z S3 => ∃ t, copB op y z S3 = some t ∧ Q (.bl t) S3 := by
  unfold chE
  simp only [wp_cop]
theorem chE_f {op : Cm} {y : D} {c : E} {Q : D → Sto → Prop} : chE F op y c ρ Q false S = Q (.bl false) S := rfl
theorem forQ_nx {I : Rho → Sto → Prop} {Q : Fl → Sto → Prop} : forQ I Q (.nx ρ) S = I ρ S := rfl
theorem forQ_cnt {I : Rho → Sto → Prop} {Q : Fl → Sto → Prop} : forQ I Q (.cnt ρ) S = I ρ S := rfl
theorem forQ_brk {I : Rho → Sto → Prop} {Q : Fl → Sto → Prop} : forQ I Q (.brk ρ) S = Q (.nx ρ) S := rfl
theorem forQ_ret {I : Rho → Sto → Prop} {Q : Fl → Sto → Prop} : forQ I Q (.ret d) S = Q (.ret d) S := rfl
theorem isNon_non : isNon .non = true := rfl
theorem isNon_int {i : Int} : isNon (.int i) = false := rfl
theorem isNon_tup {ds : List D} : isNon (.tup ds) = false := rfl
theorem isNon_str {x : Str} : isNon (.str x) = false := rfl
theorem isNon_ref {n : Nat} : isNon (.ref n) = false := rfl
theorem bindT_nm {i : Nat} : bindT (.nm i) d ρ = some (ρ.set i (some d)) := rfl
theorem bindT_tp {is : List Nat} {ds : List D} : bindT (.tp is) (.tup ds) ρ = setMany is ds ρ := rfl
theorem setMany_nil : setMany [] [] ρ = some ρ := rfl
theorem setMany_cons {i : Nat} {is : List Nat} {ds : List D} : setMany (i :: is) (d :: ds) ρ = setMany is ds (ρ.set i (some d)) := rfl
end
/-! ### the store -/
section
variable {S T : Sto} {n m : Nat} {ds es : List D}
theorem lstAt_get : lstAt S n = some ds ↔ S[n]? = some (.lst ds) := by
  unfold lstAt
  cases e : S[n]? with
  | none => simp
  | some o => cases o <;> simp
theorem lstAt_lt (h : lstAt S n = some ds) : n < S.length := (List.getElem?_eq_some_iff.mp (lstAt_get.mp h)).1
theorem lstAt_set (h : n < S.length) : lstAt (S.set n (.lst ds)) n = some ds := by
  rw [lstAt_get, List.getElem?_set_self h]
theorem lstAt_set_ne (h : m ≠ n) (o : O) : lstAt (S.set n o) m = lstAt S m := by
  unfold lstAt
  rw [List.getElem?_set_ne (Ne.symm h)]
theorem lstAt_app (h : n < S.length) : lstAt (S ++ T) n = lstAt S n := by
  unfold lstAt
  rw [List.getElem?_append_left h]
theorem lstAt_new : lstAt (S ++ [.lst ds]) S.length = some ds := by
  rw [lstAt_get]
  simp
theorem lstAt_newE (h : n = S.length) : lstAt (S ++ [.lst ds]) n = some ds := by
  subst h
  exact lstAt_new
/-- all but one object as they were -/
structure Keep (b : Nat) (S S' : Sto) : Prop where
  len : S.length ≤ S'.length
  at_ : ∀ n : Nat, n < S.length → n ≠ b → S'[n]? = S[n]?
theorem Keep.refl (b : Nat) (S : Sto) : Keep b S S := ⟨Nat.le_refl _, fun _ _ _ => rfl⟩
theorem Keep.trans {b : Nat} {S1 S2 S3 : Sto} (h : Keep b S1 S2) (h' : Keep b S2 S3) : Keep b S1 S3 :=
  ⟨Nat.le_trans h.len h'.len, fun n hn nb => (h'.at_ n (Nat.lt_of_lt_of_le hn h.len) nb).trans (h.at_ n hn nb)⟩
theorem Keep.set (b : Nat) (S : Sto) (o : O) : Keep b S (S.set b o) := ⟨by simp, fun n _ nb => List.getElem?_set_ne (Ne.symm nb)⟩
theorem Keep.app (b : Nat) (S T : Sto) : Keep b S (S ++ T) := ⟨by simp, fun n hn _ => List.getElem?_append_left hn⟩
theorem Keep.lst {b : Nat} {S S' : Sto} (k : Keep b S S') (h : lstAt S n = some ds) (nb : n ≠ b) : lstAt S' n = some ds := by
  rw [lstAt_get] at h ⊢
  rw [k.at_ n (List.getElem?_eq_some_iff.mp h).1 nb]
  exact h
/-- all objects as they were -/
structure Ext (S S' : Sto) : Prop where
  len : S.length ≤ S'.length
  at_ : ∀ n : Nat, n < S.length → S'[n]? = S[n]?
theorem Ext.refl (S : Sto) : Ext S S := ⟨Nat.le_refl _, fun _ _ => rfl⟩
theorem Ext.trans {S1 S2 S3 : Sto} (h : Ext S1 S2) (h' : Ext S2 S3) : Ext S1 S3 :=
  ⟨Nat.le_trans h.len h'.len, fun n hn => (h'.at_ n (Nat.lt_of_lt_of_le hn h.len)).trans (h.at_ n hn)⟩
theorem Ext.app (S T : Sto) : Ext S (S ++ T) := ⟨by simp, fun n hn => List.getElem?_append_left hn⟩
theorem Ext.keep {S S' : Sto} (h : Ext S S') (b : Nat) : Keep b S S' := ⟨h.len, fun n hn _ => h.at_ n hn⟩
theorem Ext.lst {S S' : Sto} (k : Ext S S') (h : lstAt S n = some ds) : lstAt S' n = some ds := by
  rw [lstAt_get] at h ⊢
  rw [k.at_ n (List.getElem?_eq_some_iff.mp h).1]
  exact h
/-- a new object was changed -/
theorem Ext.set {S S' : Sto} (h : Ext S S') (hn : S.length ≤ n) (o : O) : Ext S (S'.set n o) :=
  ⟨by simpa using h.len, fun m hm => by rw [List.getElem?_set_ne (by omega)]; exact h.at_ m hm⟩
theorem Keep.setN {b : Nat} {S S' : Sto} (h : Keep b S S') (hn : S.length ≤ n) (o : O) : Keep b S (S'.set n o) :=
  ⟨by simpa using h.len, fun m hm nb => by rw [List.getElem?_set_ne (by omega)]; exact h.at_ m hm nb⟩
end
section
variable {F : Orc} {ρ : Rho} {S : Sto} {t : Bool}
theorem ifQ_by {a b : Cs} {Q : Fl → Sto → Prop} (h1 : t = true → Wp (exCs F a ρ S) Q) (h2 : t = false → Wp (exCs F b ρ S) Q) : ifQ F a b ρ Q t S := by
  cases t with
  | true => exact h1 rfl
  | false => exact h2 rfl
theorem andQ_by {b : T} {Q : Bool → Sto → Prop} (h1 : t = true → Wp (evT F b ρ S) Q) (h2 : t = false → Q false S) : andQ F b ρ Q t S := by
  cases t with
  | true => exact h1 rfl
  | false => exact h2 rfl
theorem orQ_by {b : T} {Q : Bool → Sto → Prop} (h1 : t = true → Q true S) (h2 : t = false → Wp (evT F b ρ S) Q) : orQ F b ρ Q t S := by
  cases t with
  | true => exact h1 rfl
  | false => exact h2 rfl
theorem andE_by {b : E} {Q : D → Sto → Prop} (h1 : t = true → Wp (evE F b ρ S) Q) (h2 : t = false → Q (.bl false) S) : andE F b ρ Q (.bl t) S := by
  cases t with
  | true => exact h1 rfl
  | false => exact h2 rfl
theorem orE_by {b : E} {Q : D → Sto → Prop} (h1 : t = true → Q (.bl true) S) (h2 : t = false → Wp (evE F b ρ S) Q) : orE F b ρ Q (.bl t) S := by
  cases t with
  | true => exact h1 rfl
  | false => exact h2 rfl
theorem iteE_by {a b : E} {Q : D → Sto → Prop} (h1 : t = true → Wp (evE F a ρ S) Q) (h2 : t = false → Wp (evE F b ρ S) Q) : iteE F a b ρ Q t S := by
  cases t with
  | true => exact h1 rfl
  | false => exact h2 rfl
theorem chT_by {op : Cm} {y : D} {c : E} {Q : Bool → Sto → Prop} (h1 : t = true → Wp (evE F c ρ S) fun z S3 => ∃ t, copB op y z S3 = some t ∧ Q t S3) (h2 : t = false → Q false S) : chT F op y c ρ Q t S := by
  cases t with
  | true => rw [chT_t]; exact h1 rfl
  | false => exact h2 rfl
end
theorem cut_from1 {α : Type} (x : α) (xs : List α) : cutL (x :: xs) (some 1) none = xs := by
  unfold cutL
  have e1 : HT.sIx (x :: xs).length 0 (some 1) = 1 := by
    show HT.sIx (x :: xs).length 0 (some ((1 : Nat) : Int)) = 1
    rw [HT.sIx_nat]
    simp
  rw [e1, HT.sIx_none]
  simp
theorem sIx_cast (n d k : Nat) : HT.sIx n d (some (k : Int)) = min k n := HT.sIx_nat n d k
theorem cut_to {α : Type} (xs : List α) (k : Nat) : cutL xs none (some (k : Int)) = xs.take k := by
  unfold cutL
  rw [HT.sIx_none, HT.sIx_nat, List.drop_zero, Nat.sub_zero]
  by_cases h : k ≤ xs.length
  · rw [Nat.min_eq_left h]
  · rw [Nat.min_eq_right (by omega), List.take_of_length_le (Nat.le_refl _), List.take_of_length_le (by omega)]
theorem cut_from {α : Type} (xs : List α) (k : Nat) : cutL xs (some (k : Int)) none = xs.drop k := by
  unfold cutL
  rw [HT.sIx_none, HT.sIx_nat]
  by_cases h : k ≤ xs.length
  · rw [Nat.min_eq_left h, List.take_of_length_le (by simp)]
  · rw [Nat.min_eq_right (by omega), List.drop_of_length_le (by omega), List.drop_of_length_le (by omega)]
    simp
theorem cut_fromL {α : Type} (xs : List α) (n : Nat) : cutL xs (some (no_index (OfNat.ofNat n) : Int)) none = xs.drop n := cut_from xs n
theorem cut_toL {α : Type} (xs : List α) (n : Nat) : cutL xs none (some (no_index (OfNat.ofNat n) : Int)) = xs.take n := cut_to xs n
theorem wipeR_nil {ρ : Rho} : wipeR ρ [] = ρ := rfl
theorem wipeR_cons {ρ : Rho} {v : Nat} {vs : List Nat} : wipeR ρ (v :: vs) = (wipeR ρ vs).set v none := rfl
/-! ### the same rules with what is kept shut away -/
theorem Wp.gen {α : Type} {o : Out α} {R : α → Sto → Prop} (h : ∀ Q : α → Sto → Prop, (∀ a S, R a S → Q a S) → Wp o Q) : Wp o R := h R fun _ _ z => z
theorem wp_fF {tg : Tg} {b : Rho → Sto → Out Fl} {Q : Fl → Sto → Prop} {ds : List D} {ρ : Rho} {S : Sto} (I : Nat → Rho → Sto → Prop) (h0 : I 0 ρ S)
    (hs : ∀ i d ρ S, ds[i]? = some d → I i ρ S → ∀ J : Rho → Sto → Prop, (∀ ρ S, I (i + 1) ρ S → J ρ S) → ∃ ρ1, bindT tg d ρ = some ρ1 ∧ Wp (b ρ1 S) (forQ J Q))
    (hd : ∀ ρ S, I ds.length ρ S → Q (.nx ρ) S) : Wp (bd (foldI (forStep tg b) (.fix ds) ρ S) forEnd) Q := wp_forF I h0 (fun i d ρ S e h => hs i d ρ S e h _ fun _ _ z => z) hd
theorem wp_fR {tg : Tg} {b : Rho → Sto → Out Fl} {Q : Fl → Sto → Prop} {n : Nat} {ds : List D} {ρ : Rho} {S : Sto} (I : Nat → Rho → Sto → Prop) (h0 : I 0 ρ S)
    (hl : ∀ i ρ S, I i ρ S → lstAt S n = some ds)
    (hs : ∀ i d ρ S, ds[i]? = some d → I i ρ S → ∀ J : Rho → Sto → Prop, (∀ ρ S, I (i + 1) ρ S → J ρ S) → ∃ ρ1, bindT tg d ρ = some ρ1 ∧ Wp (b ρ1 S) (forQ J Q))
    (hd : ∀ ρ S, I ds.length ρ S → Q (.nx ρ) S) : Wp (bd (foldI (forStep tg b) (.dyn n) ρ S) forEnd) Q := wp_forR I h0 (fun i ρ S h => lstAt_get.mp (hl i ρ S h)) (fun i d ρ S e h => hs i d ρ S e h _ fun _ _ z => z) hd
/-- what a comprehension's test says for its turn -/
def lcQ (F : Orc) (elt : E) (ρ : Rho) (J : D → Sto → Prop) (K : Sto → Prop) : Bool → Sto → Prop
  | true, S => Wp (evE F elt ρ S) J
  | false, S => K S
theorem lcQ_t {F : Orc} {elt : E} {ρ : Rho} {J : D → Sto → Prop} {K : Sto → Prop} {S : Sto} : lcQ F elt ρ J K true S = Wp (evE F elt ρ S) J := rfl
theorem lcQ_f {F : Orc} {elt : E} {ρ : Rho} {J : D → Sto → Prop} {K : Sto → Prop} {S : Sto} : lcQ F elt ρ J K false S = K S := rfl
theorem lcQ_by {F : Orc} {elt : E} {ρ : Rho} {J : D → Sto → Prop} {K : Sto → Prop} {S : Sto} {t : Bool} (h1 : t = true → Wp (evE F elt ρ S) J) (h2 : t = false → K S) : lcQ F elt ρ J K t S := by
  cases t with
  | true => exact h1 rfl
  | false => exact h2 rfl
theorem wp_lF {F : Orc} {elt : E} {tg : Tg} {c : T} {own : List Nat} {ρ : Rho} {ds : List D} {S : Sto} {Q : D → Sto → Prop} (I : Nat → List D → Sto → Prop) (h0 : I 0 [] S)
    (hs : ∀ i d acc S, ds[i]? = some d → I i acc S → ∀ (J : D → Sto → Prop) (K : Sto → Prop), (∀ y S, acc.length < sizeLine → I (i + 1) (acc ++ [y]) S → J y S) → (∀ S, I (i + 1) acc S → K S) → ∃ ρ1, bindT tg d (wipeR ρ own) = some ρ1 ∧ Wp (evT F c ρ1 S) (lcQ F elt ρ1 J K))
    (hd : ∀ acc S, I ds.length acc S → Q (.ref S.length) (S ++ [.lst acc])) : Wp (bd (foldI (lcF F elt tg c own ρ) (.fix ds) [] S) lcEnd) Q :=
  wp_lcF I h0 (fun i d acc S e h => by
    obtain ⟨ρ1, e1, w⟩ := hs i d acc S e h (fun y S4 => acc.length < sizeLine ∧ I (i + 1) (acc ++ [y]) S4) (I (i + 1) acc) (fun _ _ a b => ⟨a, b⟩) fun _ z => z
    refine ⟨ρ1, e1, w.mono fun t S3 q => ?_⟩
    cases t with
    | true =>
      rw [if_pos rfl]
      exact q
    | false =>
      rw [if_neg (by decide)]
      exact q) hd
theorem wp_lR {F : Orc} {elt : E} {tg : Tg} {c : T} {own : List Nat} {ρ : Rho} {n : Nat} {ds : List D} {S : Sto} {Q : D → Sto → Prop} (I : Nat → List D → Sto → Prop) (h0 : I 0 [] S)
    (hl : ∀ i acc S, I i acc S → lstAt S n = some ds)
    (hs : ∀ i d acc S, ds[i]? = some d → I i acc S → ∀ (J : D → Sto → Prop) (K : Sto → Prop), (∀ y S, acc.length < sizeLine → I (i + 1) (acc ++ [y]) S → J y S) → (∀ S, I (i + 1) acc S → K S) → ∃ ρ1, bindT tg d (wipeR ρ own) = some ρ1 ∧ Wp (evT F c ρ1 S) (lcQ F elt ρ1 J K))
    (hd : ∀ acc S, I ds.length acc S → Q (.ref S.length) (S ++ [.lst acc])) : Wp (bd (foldI (lcF F elt tg c own ρ) (.dyn n) [] S) lcEnd) Q :=
  wp_lcR I h0 (fun i acc S h => lstAt_get.mp (hl i acc S h)) (fun i d acc S e h => by
    obtain ⟨ρ1, e1, w⟩ := hs i d acc S e h (fun y S4 => acc.length < sizeLine ∧ I (i + 1) (acc ++ [y]) S4) (I (i + 1) acc) (fun _ _ a b => ⟨a, b⟩) fun _ z => z
    refine ⟨ρ1, e1, w.mono fun t S3 q => ?_⟩
    cases t with
    | true =>
      rw [if_pos rfl]
      exact q
    | false =>
      rw [if_neg (by decide)]
      exact q) hd
end VM
open PySem VM
local macro_rules | `(tactic| walk_at "ev") => `(tactic| simp (disch := first | assumption | (simp only [List.length_set, List.length_append, List.length_cons, List.length_nil, List.length_map, ne_eq] <;> omega) | omega) only [wp_cons, wp_nil, wp_ife, wp_set, wp_asg, wp_ex, wp_ret, wp_retn, wp_pass, wp_brk, wp_cnt, wp_aug, wp_seti, wp_whl, wp_for, wt_and, wt_or, wt_one, wt_not, wt_yes, wt_v, wt_cmp, wt_chain,
  we_cmp, we_chain, we_and, we_or, we_one, we_ite, we_not, we_neg, we_var, we_non, we_bl, we_int, we_str, we_gc, we_tup, we_lst, we_bin, we_idx, we_sl, we_rev, we_call, we_bi, we_bm, we_isi, we_lrg, we_lc, wa_nil, wa_cons, wo_no, wo_e, wi_seq, wi_rng1, wi_rng2,
  wp_optD, wp_ifn, eqD_int, eqD_str, eqD_bl, copB_eq, copB_ne, copB_lt, copB_le, copB_gt, copB_ge, copB_is, copB_isnot, copB_in, copB_notin, isNon_non, isNon_int, isNon_tup, isNon_str, isNon_ref, wi_idx_ref, wi_idx_tup, wi_idx_str, ws_ref, ws_tup, ws_str, wr_ref, wl_ref, wl_tup, wl_fz, wl_str, wtup_ref, wtup_tup, wlist_ref, wlist_tup, wapp, bmTy_ref,
  wsub, wadd, wmul, wfdiv, wmod, wpow, wadd_str, wadd_tup, wadd_ref, wmul_str, waug_add, waug_sub, seti_ref, seqI_tup, seqI_fz, seqI_str, seqI_ref, tru_bl, tru_int, tru_non, atI_ofNat, ixN_ofNat,
  List.getElem?_cons_zero, List.getElem?_cons_succ, List.set_cons_zero, List.set_cons_succ, List.map_cons, List.map_nil, List.cons_append, List.nil_append, List.replicate_succ, List.replicate_zero, List.append_nil, List.length_cons, List.length_nil, Nat.sub_self, Nat.reduceSub, Nat.reduceAdd, Nat.reduceLT, Int.reduceLT, Int.reduceLE, Int.reduceNeg, Int.reducePow, Int.reduceToNat, Int.toNat_natCast, wipeR_nil, wipeR_cons, bindT_nm, bindT_tp, setMany_nil, setMany_cons,
  Option.map_some, exists_eq, exists_eq', Option.some.injEq, exists_eq_left', exists_eq_left, exists_eq_right, D.int.injEq, D.bl.injEq, D.str.injEq, D.tup.injEq, D.ref.injEq, and_true, true_and, if_true, ite_true, decide_true, decide_false, Bool.not_true, Bool.not_false,
  seqQ_nx, seqQ_brk, seqQ_cnt, seqQ_ret, ifQ_t, ifQ_f, retQ_ret, retQ_nx, andQ_t, andQ_f, orQ_t, orQ_f, notQ_, andE_t, andE_f, orE_t, orE_f, iteE_t, iteE_f, chT_t, chT_f, chE_t, chE_f, lcQ_t, lcQ_f, forQ_nx, forQ_cnt, forQ_brk, forQ_ret, cut_from, cut_to, cut_from1, cut_fromL, cut_toL, List.drop_succ_cons, beq_self_eq_true, List.drop_zero, lstAt_set, lstAt_set_ne, lstAt_app, lstAt_newE, List.length_set, or_true, true_or, *])
local macro_rules | `(tactic| walk_at "ev1") => `(tactic| simp (disch := first | assumption | (simp only [List.length_set, List.length_append, List.length_cons, List.length_nil, List.length_map, ne_eq] <;> omega) | omega) only [wp_nil, wp_ife, wp_set, wp_asg, wp_ex, wp_ret, wp_retn, wp_pass, wp_brk, wp_cnt, wp_aug, wp_seti, wp_whl, wp_for, wt_and, wt_or, wt_one, wt_not, wt_yes, wt_v, wt_cmp, wt_chain,
  we_cmp, we_chain, we_and, we_or, we_one, we_ite, we_not, we_neg, we_var, we_non, we_bl, we_int, we_str, we_gc, we_tup, we_lst, we_bin, we_idx, we_sl, we_rev, we_call, we_bi, we_bm, we_isi, we_lrg, we_lc, wa_nil, wa_cons, wo_no, wo_e, wi_seq, wi_rng1, wi_rng2,
  wp_optD, wp_ifn, eqD_int, eqD_str, eqD_bl, copB_eq, copB_ne, copB_lt, copB_le, copB_gt, copB_ge, copB_is, copB_isnot, copB_in, copB_notin, isNon_non, isNon_int, isNon_tup, isNon_str, isNon_ref, wi_idx_ref, wi_idx_tup, wi_idx_str, ws_ref, ws_tup, ws_str, wr_ref, wl_ref, wl_tup, wl_fz, wl_str, wtup_ref, wtup_tup, wlist_ref, wlist_tup, wapp, bmTy_ref,
  wsub, wadd, wmul, wfdiv, wmod, wpow, wadd_str, wadd_tup, wadd_ref, wmul_str, waug_add, waug_sub, seti_ref, seqI_tup, seqI_fz, seqI_str, seqI_ref, tru_bl, tru_int, tru_non, atI_ofNat, ixN_ofNat,
  List.getElem?_cons_zero, List.getElem?_cons_succ, List.set_cons_zero, List.set_cons_succ, List.map_cons, List.map_nil, List.cons_append, List.nil_append, List.replicate_succ, List.replicate_zero, List.append_nil, List.length_cons, List.length_nil, Nat.sub_self, Nat.reduceSub, Nat.reduceAdd, Nat.reduceLT, Int.reduceLT, Int.reduceLE, Int.reduceNeg, Int.reducePow, Int.reduceToNat, Int.toNat_natCast, wipeR_nil, wipeR_cons, bindT_nm, bindT_tp, setMany_nil, setMany_cons,
  Option.map_some, exists_eq, exists_eq', Option.some.injEq, exists_eq_left', exists_eq_left, exists_eq_right, D.int.injEq, D.bl.injEq, D.str.injEq, D.tup.injEq, D.ref.injEq, and_true, true_and, if_true, ite_true, decide_true, decide_false, Bool.not_true, Bool.not_false,
  seqQ_brk, seqQ_cnt, seqQ_ret, ifQ_t, ifQ_f, retQ_ret, retQ_nx, andQ_t, andQ_f, orQ_t, orQ_f, notQ_, andE_t, andE_f, orE_t, orE_f, iteE_t, iteE_f, chT_t, chT_f, chE_t, chE_f, lcQ_t, lcQ_f, forQ_nx, forQ_cnt, forQ_brk, forQ_ret, cut_from, cut_to, cut_from1, cut_fromL, cut_toL, List.drop_succ_cons, beq_self_eq_true, List.drop_zero, lstAt_set, lstAt_set_ne, lstAt_app, lstAt_newE, List.length_set, or_true, true_or, *])
/-! VLa: the terms of defs that more than one law has. -/
namespace VL
open PySem VM
def b__law_box : Cs :=
  (.cons (.set 1 (.int 1)) (.cons (.set 2 (.lst .nil)) (.cons (.for_ (.nm 3) (.seq (.var 0)) (.cons (.set 1 (.bin .mod (.bin .add (.bin .add (.bin .mul (.var 1) (.int 69621)) (.bin .mod (.var 3) (.int 2147483629))) (.int 1)) (.int 2147483647))) (.cons (.ife (.cmp .ge (.var 3) (.bin .pow (.int 10) (.int 18))) (.cons (.ex (.bm .append (.var 2) (.cons (.var 3) .nil))) .nil) .nil) .nil))) (.cons (.ret (.lst (.cons (.var 1) (.cons (.int 0) (.cons (.var 2) .nil))))) .nil))))
def b__law_pick : Cs :=
  (.cons (.ife (.and (.cmp .eq (.idx (.var 0) (.int 1)) (.int 0)) (.one (.cmp .gt (.bi .len (.cons (.idx (.var 0) (.int 2)) .nil)) (.int 0)))) (.cons (.seti (.var 0) (.int 1) (.idx (.idx (.var 0) (.int 2)) (.int 0))) (.cons (.seti (.var 0) (.int 2) (.sl (.idx (.var 0) (.int 2)) (.e (.int 1)) (.no))) .nil)) .nil) (.cons (.ife (.cmp .gt (.idx (.var 0) (.int 1)) (.int 0)) (.cons (.set 3 (.bin .mod (.idx (.var 0) (.int 1)) (.var 1))) (.cons (.seti (.var 0) (.int 1) (.bin .fdiv (.idx (.var 0) (.int 1)) (.var 1))) (.cons (.ret (.var 3)) .nil))) .nil) (.cons (.seti (.var 0) (.int 0) (.bin .mod (.bin .add (.bin .mul (.idx (.var 0) (.int 0)) (.int 48271)) (.int 7919)) (.int 2147483647))) (.cons (.set 2 (.bin .mod (.bin .mul (.idx (.var 0) (.int 0)) (.idx (.var 0) (.int 0))) (.int 2147483629))) (.cons (.ret (.bin .mod (.bin .fdiv (.bin .mod (.bin .mul (.var 2) (.int 40692)) (.int 2147483587)) (.int 8)) (.var 1))) .nil)))))
def b__law_words : Cs :=
  (.cons (.set 4 (.str "")) (.cons (.for_ (.nm 5) (.rng1 (.call 3 (.cons (.var 0) (.cons (.int 4) .nil)))) (.cons (.set 4 (.bin .add (.var 4) (.idx (.var 1) (.call 3 (.cons (.var 0) (.cons (.int 26) .nil)))))) .nil)) (.cons (.set 6 (.call 3 (.cons (.var 0) (.cons (.bin .add (.bi .len (.cons (.var 4) .nil)) (.int 1)) .nil)))) (.cons (.set 7 (.call 3 (.cons (.var 0) (.cons (.int 26) .nil)))) (.cons (.set 8 (.lst .nil)) (.cons (.for_ (.nm 5) (.rng1 (.var 3)) (.cons (.set 9 (.bin .add (.bin .add (.sl (.var 4) (.no) (.e (.var 6))) (.idx (.var 1) (.bin .mod (.bin .add (.var 7) (.bin .mul (.var 5) (.int 5))) (.int 26)))) (.sl (.var 4) (.e (.var 6)) (.no)))) (.cons (.ex (.bm .append (.var 8) (.cons (.bin .add (.var 9) (.bin .mul (.var 2) (.call 3 (.cons (.var 0) (.cons (.int 2) .nil))))) .nil))) .nil))) (.cons (.ret (.var 8)) .nil)))))))
def b__law_walker : Cs :=
  (.cons (.set 3 (.cmp .eq (.call 3 (.cons (.var 0) (.cons (.int 4) .nil))) (.int 0))) (.cons (.set 4 (.lst .nil)) (.cons (.for_ (.nm 5) (.rng1 (.var 1)) (.cons (.for_ (.nm 8) (.seq (.var 2)) (.cons (.ife (.or (.v (.var 3)) (.one (.cmp .gt (.call 3 (.cons (.var 0) (.cons (.int 7) .nil))) (.int 0)))) (.cons (.ex (.bm .append (.var 4) (.cons (.tup (.cons (.var 5) (.cons (.var 8) (.cons (.call 3 (.cons (.var 0) (.cons (.var 1) .nil))) .nil)))) .nil))) .nil) .nil) .nil)) .nil)) (.cons (.set 6 (.call 3 (.cons (.var 0) (.cons (.bin .add (.bi .len (.cons (.var 4) .nil)) (.int 1)) .nil)))) (.cons (.set 4 (.bin .add (.sl (.var 4) (.e (.var 6)) (.no)) (.sl (.var 4) (.no) (.e (.var 6))))) (.cons (.ife (.cmp .eq (.call 3 (.cons (.var 0) (.cons (.int 2) .nil))) (.int 1)) (.cons (.set 4 (.rev (.var 4))) .nil) .nil) (.cons (.set 7 (.lc (.var 5) (.nm 5) (.rng1 (.var 1)) (.cmp .gt (.call 3 (.cons (.var 0) (.cons (.int 3) .nil))) (.int 0)) [("state", 5)])) (.cons (.ret (.tup (.cons (.var 1) (.cons (.call 3 (.cons (.var 0) (.cons (.var 1) .nil))) (.cons (.bi .tuple (.cons (.var 7) .nil)) (.cons (.bi .tuple (.cons (.var 4) .nil)) .nil)))))) .nil))))))))
def b__law_walked : Cs :=
  (.cons (.set 2 (.idx (.var 0) (.int 1))) (.cons (.for_ (.nm 3) (.seq (.var 1)) (.cons (.set 4 (.lc (.idx (.var 5) (.int 2)) (.nm 5) (.seq (.idx (.var 0) (.int 3))) (.and (.cmp .eq (.idx (.var 5) (.int 0)) (.var 2)) (.one (.cmp .eq (.idx (.var 5) (.int 1)) (.var 3)))) [("step", 5)])) (.cons (.ife (.cmp .eq (.bi .len (.cons (.var 4) .nil)) (.int 0)) (.cons (.ret (.bl false)) .nil) .nil) (.cons (.set 2 (.idx (.var 4) (.int 0))) .nil)))) (.cons (.ret (.cmp .inn (.var 2) (.idx (.var 0) (.int 2)))) .nil)))
def b_step_from : Cs :=
  (.cons (.for_ (.tp [3, 4, 5]) (.seq (.idx (.var 0) (.int 3))) (.cons (.ife (.and (.cmp .eq (.var 3) (.var 1)) (.one (.cmp .eq (.var 4) (.var 2)))) (.cons (.ret (.var 5)) .nil) .nil) .nil)) (.cons (.ret (.non)) .nil))
end VL
namespace VL
open PySem VM
/-- a box -/
structure BoxOk (b : Nat) (S : Sto) : Prop where
  ex : ∃ (s g : Int) (gr : Nat) (gs : List Int), lstAt S b = some [.int s, .int g, .ref gr] ∧ lstAt S gr = some (gs.map .int) ∧ 0 ≤ s ∧ s < 2147483648 ∧ 0 ≤ g ∧ gr ≠ b ∧ gs.length ≤ 63 ∧ ∀ x ∈ gs, (0 : Int) < x
def Free (b n : Nat) (S : Sto) : Prop := n < S.length ∧ n ≠ b ∧ ∀ x y gr, lstAt S b = some [x, y, .ref gr] → n ≠ gr
theorem Free.setb {b n : Nat} {S : Sto} {p q : D} {gr : Nat} (f : Free b n S) (h : n ≠ gr) (hb : b < S.length) : Free b n (S.set b (.lst [p, q, .ref gr])) :=
  ⟨by simpa using f.1, f.2.1, fun x y g e => by rw [lstAt_set hb] at e; cases e; exact h⟩
theorem Free.ap {b n : Nat} {S T : Sto} (f : Free b n S) (h : b < S.length) : Free b n (S ++ T) :=
  ⟨by have := f.1; simp; omega, f.2.1, fun x y gr e => f.2.2 x y gr (by rwa [lstAt_app h] at e)⟩
/-- the defs by their places -/
structure HasBox (tbl : List (Nat × Fd)) : Prop where
  box : tbl.lookup 2 = some ⟨1, 4, b__law_box⟩
  pick : tbl.lookup 3 = some ⟨2, 4, b__law_pick⟩
def tl1 : Cs → Cs
  | .cons _ r => r
  | .nil => .nil
section
variable {tbl : List (Nat × Fd)} {k b : Nat} {S S0 : Sto}
theorem pick2 {c : Int} {s g : Int} {gr : Nat} {gs : List Int} (h0 : 0 < c) (h1 : c < 1073741824) (e1 : lstAt S b = some [.int s, .int g, .ref gr]) (e2 : lstAt S gr = some (gs.map .int)) (s0 : 0 ≤ s) (s1 : s < 2147483648)
    (g0 : 0 ≤ g) (ne : gr ≠ b) (gl : gs.length ≤ 63) (gp : ∀ x ∈ gs, (0 : Int) < x) (kp : Keep b S0 S) (kf : ∀ n, Free b n S0 → Free b n S) :
    Wp (exCs ⟨callN tbl k⟩ (tl1 b__law_pick) [some (.ref b), some (.int c), none, none] S) (retQ fun d S' => ∃ i, d = .int i ∧ 0 ≤ i ∧ i < c ∧ BoxOk b S' ∧ Keep b S0 S' ∧ ∀ n, Free b n S0 → Free b n S') := by
  have hb : b < S.length := lstAt_lt e1
  have hg : gr < S.length := lstAt_lt e2
  unfold b__law_pick tl1
  walk_at "ev"
  refine ifQ_by (fun h => ?_) (fun h => ?_)
  · have hg : 0 < g := of_decide_eq_true h
    walk_at "ev"
    refine ⟨Int.emod_nonneg _ (by omega), Int.emod_lt_of_pos _ h0, ⟨s, g / c, gr, gs, ?_, ?_, s0, s1, Int.ediv_nonneg g0 (by omega), ne, gl, gp⟩, kp.trans (Keep.set _ _ _), fun n z => (kf n z).setb ((kf n z).2.2 _ _ _ e1) hb⟩
    · walk_at "ev"
    · walk_at "ev"
  · walk_at "ev"
    have r1 : 0 ≤ (s * 48271 + 7919) % 2147483647 := Int.emod_nonneg _ (by omega)
    have r2 : (s * 48271 + 7919) % 2147483647 < 2147483647 := Int.emod_lt_of_pos _ (by omega)
    generalize (s * 48271 + 7919) % 2147483647 = s' at *
    refine ⟨.inl (by omega), ?_⟩
    refine ⟨Int.emod_nonneg _ (by omega), Int.emod_lt_of_pos _ h0, ⟨s', g, gr, gs, ?_, ?_, r1, by omega, g0, ne, gl, gp⟩, kp.trans (Keep.set _ _ _), fun n z => (kf n z).setb ((kf n z).2.2 _ _ _ e1) hb⟩
    · walk_at "ev"
    · walk_at "ev"
theorem pick0 (hp : HasBox tbl) {c : Int} (hb : BoxOk b S) (h0 : 0 < c) (h1 : c < 1073741824) :
    Wp (callN tbl (k + 1) 3 [.ref b, .int c] S) fun d S' => ∃ i, d = .int i ∧ 0 ≤ i ∧ i < c ∧ BoxOk b S' ∧ Keep b S S' ∧ ∀ n, Free b n S → Free b n S' := by
  obtain ⟨s, g, gr, gs, e1, e2, s0, s1, g0, ne, gl, gp⟩ := hb
  refine wp_call hp.pick rfl ?_
  unfold b__law_pick
  rw [wp_cons]
  have hb : b < S.length := lstAt_lt e1
  have hg : gr < S.length := lstAt_lt e2
  walk_at "ev1"
  refine andQ_by (fun h => ?_) (fun h => ?_)
  · walk_at "ev1"
    have hg : g = 0 := by simpa using h
    subst hg
    refine ifQ_by (fun h => ?_) (fun h => ?_)
    · cases gs with
      | nil => simp at h
      | cons x gs =>
        simp only [List.map_cons] at e2
        rw [wp_cons]
        walk_at "ev1"
        rw [seqQ_nx, wp_cons]
        walk_at "ev1"
        rw [seqQ_nx, wp_nil, seqQ_nx]
        have gx : (0 : Int) < x := gp x List.mem_cons_self
        refine pick2 (s := s) (g := x) (gr := S.length) (gs := gs) h0 h1 ?_ ?_ s0 s1 (by omega) (by omega) (by simp only [List.length_cons] at gl; omega) (fun y hy => gp y (List.mem_cons_of_mem _ hy)) (((Keep.set _ _ _).trans (Keep.app _ _ _)).trans (Keep.set _ _ _)) (fun n z => ((z.setb (z.2.2 _ _ _ e1) hb).ap (by simpa using hb)).setb (Nat.ne_of_lt z.1) (by simp; omega))
        · walk_at "ev"
        · walk_at "ev"
    · walk_at "ev1"
      exact pick2 h0 h1 e1 e2 s0 s1 g0 ne gl gp (Keep.refl _ _) (fun _ z => z)
  · walk_at "ev1"
    exact pick2 h0 h1 e1 e2 s0 s1 g0 ne gl gp (Keep.refl _ _) (fun _ z => z)
/-- THE BOX -/
theorem box (hp : HasBox tbl) {ns : List Int} (hn : ns.length ≤ 63) : Wp (callN tbl (k + 1) 2 [.fz (ns.map .int)] S) fun d S' => ∃ b, d = .ref b ∧ BoxOk b S' ∧ Ext S S' := by
  refine Wp.gen fun Q hQ => wp_call hp.box rfl ?_
  unfold b__law_box
  walk_at "ev"
  refine wp_fF (fun i ρ S' => ∃ (s : Int) (x : Option D) (gs : List Int), ρ = [some (.fz (ns.map .int)), some (.int s), some (.ref S.length), x] ∧ 0 ≤ s ∧ s < 2147483648 ∧ lstAt S' S.length = some (gs.map .int) ∧ gs.length ≤ i ∧ (∀ x ∈ gs, (0 : Int) < x) ∧ Ext S S') ?_ ?_ ?_
  · exact ⟨1, none, [], rfl, by decide, by decide, lstAt_new, Nat.le_refl _, by simp, Ext.app _ _⟩
  · rintro i d ρ S' hd ⟨s, x, gs, rfl, s0, s1, e1, gl, gp, X⟩ J hJ
    rw [List.getElem?_map] at hd
    cases e : ns[i]? with
    | none => rw [e] at hd; cases hd
    | some c =>
      rw [e] at hd
      cases hd
      refine ⟨_, rfl, ?_⟩
      walk_at "ev"
      have hi : i < ns.length := (List.getElem?_eq_some_iff.mp e).1
      have hl := lstAt_lt e1
      have r1 : 0 ≤ (s * 69621 + c % 2147483629 + 1) % 2147483647 := Int.emod_nonneg _ (by omega)
      have r2 : (s * 69621 + c % 2147483629 + 1) % 2147483647 < 2147483647 := Int.emod_lt_of_pos _ (by omega)
      generalize (s * 69621 + c % 2147483629 + 1) % 2147483647 = s' at *
      refine ⟨by decide, ifQ_by (fun h => ?_) (fun h => ?_)⟩
      · walk_at "ev"
        have hc : (10 : Int) ^ 18 ≤ c := by simpa using h
        refine ⟨by simp only [List.length_map]; show gs.length < 2 ^ 24; omega, ?_⟩
        refine hJ _ _ ⟨s', some (.int c), gs ++ [c], rfl, r1, by omega, ?_, by simp; omega, ?_, X.set (Nat.le_refl _) _⟩
        · rw [lstAt_set hl]; simp
        · intro y hy
          rw [List.mem_append, List.mem_singleton] at hy
          rcases hy with hy | rfl
          · exact gp y hy
          · omega
      · walk_at "ev"
        exact hJ _ _ ⟨s', some (.int c), gs, rfl, r1, by omega, e1, by omega, gp, X⟩
  · rintro ρ S' ⟨s, x, gs, rfl, s0, s1, e1, gl, gp, X⟩
    have hl := lstAt_lt e1
    walk_at "ev"
    simp only [List.length_map] at gl
    refine hQ _ _ ⟨_, rfl, ⟨s, 0, S.length, gs, lstAt_new, ?_, s0, s1, by decide, by omega, by omega, gp⟩, X.trans (Ext.app _ _)⟩
    rw [lstAt_app hl]
    exact e1
end
end VL
namespace VL
open PySem VM
theorem ch_app (x y : Str) : (x ++ y).cps.toList = x.cps.toList ++ y.cps.toList := by
  show (x.cps ++ y.cps).toList = _
  simp
theorem ch_nil : (Str.ofString "").cps.toList = [] := by decide +kernel
theorem ch_len (x : Str) : x.length = x.cps.toList.length := (Array.length_toList).symm
theorem ch_ext {x y : Str} (h : x.cps.toList = y.cps.toList) : x = y := by
  cases x; cases y
  have := Array.toList_inj.mp h
  simp_all
theorem ch_to (z : Str) (k : Nat) : (L2.cutS z none (some (k : Int))).cps.toList = z.cps.toList.take k := by
  have := cut_to z.cps.toList k
  unfold cutL at this
  rw [Array.length_toList] at this
  exact this
theorem ch_from (z : Str) (k : Nat) : (L2.cutS z (some (k : Int)) none).cps.toList = z.cps.toList.drop k := by
  have := cut_from z.cps.toList k
  unfold cutL at this
  rw [Array.length_toList] at this
  exact this
theorem atI_mod {α : Type} (xs : List α) (m : Nat) (n : Nat) (h : xs.length = m) (h0 : 0 < m) : ∃ c, L2.atI xs ((n : Int) % (m : Int)) = some c ∧ xs[n % m]? = some c := by
  have e : ((n : Int) % (m : Int)) = ((n % m : Nat) : Int) := by simp
  have h1 : n % m < xs.length := by rw [h]; exact Nat.mod_lt _ h0
  rw [e, atI_cast, List.getElem?_eq_getElem h1]
  exact ⟨_, rfl, rfl⟩
theorem atI_lt {α : Type} {xs : List α} {n : Nat} (h : n < xs.length) : L2.atI xs (n : Int) = some xs[n] := by
  rw [atI_cast, List.getElem?_eq_getElem h]
/-! ### what is the box's own, what isn't -/
/-- from S0 on: the box stands, what was there stays -/
structure Bx (b : Nat) (S0 S : Sto) : Prop where
  box : BoxOk b S
  keep : Keep b S0 S
  fr : ∀ n, Free b n S0 → Free b n S
structure Own (b n : Nat) (ds : List D) (S : Sto) : Prop where
  at_ : lstAt S n = some ds
  fr : Free b n S
section
variable {b n m : Nat} {S S0 S1 : Sto} {ds es : List D} {o : O}
theorem BoxOk.lt (h : BoxOk b S) : b < S.length := by
  obtain ⟨s, g, gr, gs, e1, _⟩ := h
  exact lstAt_lt e1
theorem Bx.refl (h : BoxOk b S) : Bx b S S := ⟨h, Keep.refl _ _, fun _ z => z⟩
theorem Bx.trans (h : Bx b S0 S) (h' : Bx b S S1) : Bx b S0 S1 := ⟨h'.box, h.keep.trans h'.keep, fun n z => h'.fr n (h.fr n z)⟩
theorem BoxOk.app {T : Sto} (h : BoxOk b S) : BoxOk b (S ++ T) := by
  obtain ⟨s, g, gr, gs, e1, e2, r⟩ := h
  exact ⟨s, g, gr, gs, (lstAt_app (lstAt_lt e1)).trans e1, (lstAt_app (lstAt_lt e2)).trans e2, r⟩
theorem BoxOk.set (h : BoxOk b S) (f : Free b n S) : BoxOk b (S.set n o) := by
  obtain ⟨s, g, gr, gs, e1, e2, r⟩ := h
  exact ⟨s, g, gr, gs, (lstAt_set_ne (Ne.symm f.2.1) o).trans e1, (lstAt_set_ne (Ne.symm (f.2.2 _ _ _ e1)) o).trans e2, r⟩
theorem Free.app {T : Sto} (f : Free b n S) (h : b < S.length) : Free b n (S ++ T) :=
  ⟨by have := f.1; simp; omega, f.2.1, fun x y gr e => f.2.2 x y gr (by rwa [lstAt_app h] at e)⟩
theorem Free.set (f : Free b m S) (h : n ≠ b) : Free b m (S.set n o) :=
  ⟨by simpa using f.1, f.2.1, fun x y gr e => f.2.2 x y gr (by rwa [lstAt_set_ne (Ne.symm h)] at e)⟩
theorem Bx.app {T : Sto} (h : Bx b S0 S) : Bx b S0 (S ++ T) :=
  ⟨h.box.app, h.keep.trans (Keep.app _ _ _), fun n z => (h.fr n z).app h.box.lt⟩
theorem Bx.setN (h : Bx b S0 S) (hn : S0.length ≤ n) (f : Free b n S) : Bx b S0 (S.set n o) :=
  ⟨h.box.set f, h.keep.setN hn o, fun m z => (h.fr m z).set f.2.1⟩
theorem Bx.len (h : Bx b S0 S) : S0.length ≤ S.length := h.keep.len
theorem Own.new (h : BoxOk b S) : Own b S.length ds (S ++ [.lst ds]) := by
  refine ⟨lstAt_new, by simp, by have := h.lt; omega, ?_⟩
  obtain ⟨s, g, gr, gs, e1, e2, r⟩ := h
  intro x y gr' e
  rw [lstAt_app (lstAt_lt e1), e1] at e
  cases e
  have := lstAt_lt e2
  omega
theorem Own.mono (h : Own b n ds S) (X : Bx b S S1) : Own b n ds S1 := ⟨X.keep.lst h.at_ h.fr.2.1, X.fr n h.fr⟩
theorem Own.app {T : Sto} (h : Own b n ds S) (hb : BoxOk b S) : Own b n ds (S ++ T) := h.mono (Bx.refl hb).app
theorem Own.set (h : Own b n ds S) : Own b n es (S.set n (.lst es)) := ⟨lstAt_set h.fr.1, h.fr.set h.fr.2.1⟩
theorem Own.set_ne (h : Own b m ds S) (nm : m ≠ n) (f : n ≠ b) : Own b m ds (S.set n o) := ⟨by rw [lstAt_set_ne nm]; exact h.at_, h.fr.set f⟩
theorem Own.ext (h : Own b n ds S) (X : Ext S S1) (hb : b < S.length) : Own b n ds S1 := ⟨X.lst h.at_, Nat.lt_of_lt_of_le h.fr.1 X.len, h.fr.2.1, fun x y gr e => h.fr.2.2 x y gr (by
  unfold lstAt at e ⊢
  rwa [X.at_ _ hb] at e)⟩
theorem BoxOk.ext (h : BoxOk b S) (X : Ext S S1) : BoxOk b S1 := by
  obtain ⟨s, g, gr, gs, e1, e2, r⟩ := h
  exact ⟨s, g, gr, gs, X.lst e1, X.lst e2, r⟩
theorem Bx.ext (h : Bx b S0 S) (X : Ext S S1) : Bx b S0 S1 :=
  ⟨h.box.ext X, h.keep.trans (X.keep b), fun n z => ⟨Nat.lt_of_lt_of_le (h.fr n z).1 X.len, (h.fr n z).2.1, fun x y gr e => (h.fr n z).2.2 x y gr (by
    unfold lstAt at e ⊢
    rwa [X.at_ _ h.box.lt] at e)⟩⟩
variable {tbl : List (Nat × Fd)} {k : Nat}
/-- A DRAWN NUMBER -/
theorem pick (hp : HasBox tbl) {c : Int} (hb : Bx b S0 S) (h0 : 0 < c) (h1 : c < 1073741824) :
    Wp (callN tbl (k + 1) 3 [.ref b, .int c] S) fun d S' => ∃ i : Nat, d = .int i ∧ (i : Int) < c ∧ Bx b S S' :=
  (pick0 hp hb.box h0 h1).mono fun d S' ⟨i, e, h2, h3, h4, h5, h6⟩ => ⟨i.toNat, by rw [e, Int.toNat_of_nonneg h2], by omega, h4, h5, h6⟩
end
/-- words with one sign of their own each -/
structure WordsOk (hs tl : List Nat) (ws : List Str) : Prop where
  ex : ∃ (A B : List Nat) (turn : Nat), A.length + B.length ≤ 3 ∧ (∀ c ∈ A ++ B, c ∈ hs) ∧
    ∀ (j : Nat) (w : Str), ws[j]? = some w → ∃ (h : Nat) (b : Nat), hs[(turn + j * 5) % 26]? = some h ∧ b ≤ 1 ∧ w.cps.toList = A ++ h :: B ++ (List.replicate b tl).flatten
/-- a list of words -/
structure WordsAt (b : Nat) (hs tl : List Nat) (m : Nat) (d : D) (S S' : Sto) : Prop where
  ex : ∃ (r : Nat) (ws : List Str), d = .ref r ∧ Own b r (ws.map .str) S' ∧ S.length ≤ r ∧ ws.length = m ∧ WordsOk hs tl ws
  box : Bx b S S'
structure HasWords (tbl : List (Nat × Fd)) : Prop extends HasBox tbl where
  words : tbl.lookup 4 = some ⟨4, 10, b__law_words⟩
section
variable {tbl : List (Nat × Fd)} {k b : Nat} {S S0 : Sto}
/-- WORDS -/
theorem words (hp : HasWords tbl) {hs tl : Str} {m : Nat} (hh : hs.cps.toList.length = 26) (ht : tl.length ≤ 1) (hm : m ≤ 26) (hB : BoxOk b S) :
    Wp (callN tbl (k + 2) 4 [.ref b, .str hs, .str tl, .int m] S) fun d S' => WordsAt b hs.cps.toList tl.cps.toList m d S S' := by
  refine Wp.gen fun Q hQ => wp_call hp.words rfl ?_
  have hH : hs.length ≤ sizeLine := by rw [ch_len, hh]; decide
  have hbl := hB.lt
  unfold b__law_words
  try walk_at "ev"
  refine (pick hp.toHasBox (.refl hB) (by decide) (by decide)).mono ?_
  rintro _ S1 ⟨n1, rfl, hn1, B1⟩
  try walk_at "ev"
  refine ⟨by omega, ?_⟩
  refine wp_fF (fun i ρ S' => ∃ (st : Str) (x : Option D), ρ = [some (.ref b), some (.str hs), some (.str tl), some (.int m), some (.str st), x, none, none, none, none] ∧ st.length ≤ i ∧ (∀ c ∈ st.cps.toList, c ∈ hs.cps.toList) ∧ Bx b S S') ?_ ?_ ?_
  · exact ⟨_, _, rfl, by decide, (by intro c hc; rw [ch_nil] at hc; cases hc), B1⟩
  · rintro i d ρ S2 hd ⟨st, x, rfl, hl, hc, B2⟩ J hJ
    have hi : i < n1 := by
      have := (List.getElem?_eq_some_iff.mp hd).1
      simpa using this
    refine ⟨_, rfl, ?_⟩
    try walk_at "ev"
    refine (pick hp.toHasBox B2 (by decide) (by decide)).mono ?_
    rintro _ S3 ⟨n2, rfl, hn2, B3⟩
    have h2 : n2 < hs.cps.toList.length := by rw [hh]; omega
    try walk_at "ev"
    refine ⟨_, atI_lt h2, ?_, ?_⟩
    · rw [show (⟨#[hs.cps.toList[n2]]⟩ : Str).length = 1 from rfl]
      show st.length + 1 ≤ 2 ^ 24
      omega
    · refine hJ _ _ ⟨_, _, rfl, ?_, ?_, B2.trans B3⟩
      · rw [ch_len, ch_app, List.length_append, ← ch_len]
        show st.length + 1 ≤ i + 1
        omega
      · intro c h
        rw [ch_app, List.mem_append] at h
        rcases h with h | h
        · exact hc c h
        · have : c = hs.cps.toList[n2] := by simpa using h
          rw [this]
          exact List.getElem_mem h2
  · rintro ρ S2 ⟨st, x, rfl, hl, hc, B2⟩
    have hl3 : st.length ≤ 3 := by simp at hl; omega
    have hL : st.length ≤ sizeLine := Nat.le_trans hl3 (by decide)
    try walk_at "ev"
    refine (pick hp.toHasBox B2 (by omega) (by omega)).mono ?_
    rintro _ S3 ⟨n2, rfl, hn2, B3⟩
    try walk_at "ev"
    refine (pick hp.toHasBox B3 (by decide) (by decide)).mono ?_
    rintro _ S4 ⟨n3, rfl, hn3, B4⟩
    have B5 := (B2.trans B3).trans B4
    refine ⟨by omega, ?_⟩
    refine wp_fF (fun i ρ S' => ∃ (ws : List Str) (x y : Option D), ρ = [some (.ref b), some (.str hs), some (.str tl), some (.int m), some (.str st), x, some (.int n2), some (.int n3), some (.ref S4.length), y] ∧ Own b S4.length (ws.map .str) S' ∧ ws.length = i ∧ Bx b S S' ∧
      ∀ (j : Nat) (w : Str), ws[j]? = some w → ∃ (h : Nat) (b : Nat), hs.cps.toList[(n3 + j * 5) % 26]? = some h ∧ b ≤ 1 ∧ w.cps.toList = st.cps.toList.take n2 ++ h :: st.cps.toList.drop n2 ++ (List.replicate b tl.cps.toList).flatten) ?_ ?_ ?_
    · exact ⟨[], _, _, rfl, Own.new B5.box, rfl, B5.app, by simp⟩
    · rintro i d ρ S5 hd ⟨ws, x, y, rfl, O5, hw, B5', hj⟩ J hJ
      have hi : i < m := by
        have := (List.getElem?_eq_some_iff.mp hd).1
        simpa using this
      have hd' : d = .int i := by
        rw [List.getElem?_map, List.getElem?_range hi] at hd
        exact (Option.some.inj hd).symm
      subst hd'
      refine ⟨_, rfl, ?_⟩
      obtain ⟨c, hc1, hc2⟩ := atI_mod hs.cps.toList 26 (n3 + i * 5) hh (by decide)
      have e0 : ((n3 : Int) + (i : Int) * 5) % 26 = ((n3 + i * 5 : Nat) : Int) % ((26 : Nat) : Int) := by push_cast; rfl
      rw [← e0] at hc1
      clear e0
      have e1 := O5.at_
      try walk_at "ev"
      have l1 : (L2.cutS st none (some (n2 : Int)) ++ (⟨#[c]⟩ : Str) ++ L2.cutS st (some (n2 : Int)) none).cps.toList = st.cps.toList.take n2 ++ c :: st.cps.toList.drop n2 := by
        rw [ch_app, ch_app, ch_to, ch_from]
        simp
      have l2 : (st.cps.toList.take n2).length + (st.cps.toList.drop n2).length = st.length := by
        rw [← List.length_append, List.take_append_drop, ch_len]
      have l3 : (L2.cutS st none (some (n2 : Int))).length = (st.cps.toList.take n2).length := by rw [ch_len, ch_to]
      have l4 : (L2.cutS st (some (n2 : Int)) none).length = (st.cps.toList.drop n2).length := by rw [ch_len, ch_from]
      have l5 : (L2.cutS st none (some (n2 : Int)) ++ (⟨#[c]⟩ : Str)).length = (st.cps.toList.take n2).length + 1 := by rw [ch_len, ch_app, List.length_append, ch_to]; rfl
      have l6 : (L2.cutS st none (some (n2 : Int)) ++ (⟨#[c]⟩ : Str) ++ L2.cutS st (some (n2 : Int)) none).length ≤ 4 := by
        rw [ch_len, l1, List.length_append, List.length_cons]; omega
      have sz : sizeLine = 16777216 := rfl
      refine ⟨by rw [l3]; show _ + 1 ≤ _; omega, by rw [l5, l4]; omega, ?_⟩
      generalize (L2.cutS st none (some (n2 : Int)) ++ (⟨#[c]⟩ : Str) ++ L2.cutS st (some (n2 : Int)) none) = w at *
      refine (pick hp.toHasBox B5' (by decide) (by decide)).mono ?_
      rintro _ S6 ⟨n4, rfl, hn4, B6⟩
      have O6 := O5.mono B6
      have e2 := O6.at_
      have hz : (⟨(List.replicate n4 tl.cps.toList).flatten.toArray⟩ : Str).length ≤ 1 := by
        rw [ch_len]
        show ((List.replicate n4 tl.cps.toList).flatten).length ≤ 1
        have h1 : tl.cps.toList.length ≤ 1 := by rw [← ch_len]; exact ht
        have : n4 = 0 ∨ n4 = 1 := by omega
        rcases this with rfl | rfl
        · simp
        · simpa using h1
      try walk_at "ev"
      refine ⟨⟨by omega, by omega⟩, by omega, by simp; omega, ?_⟩
      refine hJ _ _ ⟨ws ++ [w ++ ⟨(List.replicate n4 tl.cps.toList).flatten.toArray⟩], _, _, rfl, ?_, by simp [hw], (B5'.trans B6).setN ?_ O6.fr, ?_⟩
      · have := O6.set (es := ws.map D.str ++ [D.str (w ++ ⟨(List.replicate n4 tl.cps.toList).flatten.toArray⟩)])
        simpa using this
      · exact B5.len
      · intro j z hz'
        by_cases hji : j < ws.length
        · rw [List.getElem?_append_left hji] at hz'
          exact hj j z hz'
        · rw [List.getElem?_append_right (by omega)] at hz'
          have hj0 : j - ws.length = 0 := by
            have := (List.getElem?_eq_some_iff.mp hz').1
            simp at this
            omega
          rw [hj0] at hz'
          have : z = w ++ ⟨(List.replicate n4 tl.cps.toList).flatten.toArray⟩ := by simpa using hz'.symm
          subst this
          have hj1 : j = i := by omega
          subst hj1
          refine ⟨c, n4, hc2, by omega, ?_⟩
          rw [ch_app, l1]
    · rintro ρ S5 ⟨ws, x, y, rfl, O5, hw, B5', hj⟩
      try walk_at "ev"
      refine hQ _ _ ⟨⟨_, ws, rfl, O5, B5.len, by simpa using hw, ⟨st.cps.toList.take n2, st.cps.toList.drop n2, n3, ?_, ?_, hj⟩⟩, B5'⟩
      · rw [← List.length_append, List.take_append_drop, ← ch_len]
        exact hl3
      · rw [List.take_append_drop]
        exact hc
end
end VL
namespace VL
open PySem VM
/-- a step -/
structure St where
  s : Nat
  w : Str
  t : Nat
def St.d (x : St) : D := .tup [.int x.s, .str x.w, .int x.t]
def St.un (x y : St) : Prop := ¬ (x.s = y.s ∧ x.w = y.w)
theorem St.un_symm {x y : St} (h : St.un x y) : St.un y x := fun ⟨a, b⟩ => h ⟨a.symm, b.symm⟩
/-- a walker over words -/
structure Wk (c : Nat) (ws : List Str) (d : D) (start : Nat) (ends : List Nat) (steps : List St) : Prop where
  eq : d = .tup [.int c, .int start, .tup (ends.map fun (n : Nat) => .int n), .tup (steps.map St.d)]
  st : start < c
  el : ∀ e ∈ ends, e < c
  es : ends.Pairwise (· < ·)
  len : steps.length ≤ c * ws.length
  mem : ∀ x ∈ steps, x.s < c ∧ x.w ∈ ws ∧ x.t < c
  un : ws.Nodup → steps.Pairwise St.un
structure WkAt (b c : Nat) (ws : List Str) (d : D) (S S' : Sto) : Prop where
  ex : ∃ start ends steps, Wk c ws d start ends steps
  box : Bx b S S'
structure HasWalker (tbl : List (Nat × Fd)) : Prop extends HasBox tbl where
  walker : tbl.lookup 5 = some ⟨3, 9, b__law_walker⟩
/-- steps put together so far -/
structure StI (c : Nat) (ws : List Str) (i j : Nat) (acc : List St) : Prop where
  len : acc.length ≤ i * ws.length + j
  mem : ∀ x ∈ acc, x.s < c ∧ x.w ∈ ws ∧ x.t < c
  at_ : ∀ x ∈ acc, x.s < i ∨ x.s = i ∧ ∃ j', j' < j ∧ ws[j']? = some x.w
  un : ws.Nodup → acc.Pairwise St.un
theorem StI.nil {c : Nat} {ws : List Str} : StI c ws 0 0 [] := ⟨by simp, by simp, by simp, fun _ => .nil⟩
theorem StI.skip {c : Nat} {ws : List Str} {i j : Nat} {acc : List St} (h : StI c ws i j acc) : StI c ws i (j + 1) acc :=
  ⟨by have := h.len; omega, h.mem, fun x hx => (h.at_ x hx).imp_right fun ⟨a, j', b, e⟩ => ⟨a, j', by omega, e⟩, h.un⟩
theorem StI.next {c : Nat} {ws : List Str} {i : Nat} {acc : List St} (h : StI c ws i ws.length acc) : StI c ws (i + 1) 0 acc :=
  ⟨by have := h.len; rw [Nat.succ_mul]; omega, h.mem, fun x hx => .inl (by rcases h.at_ x hx with h | h <;> omega), h.un⟩
theorem StI.add {c : Nat} {ws : List Str} {i j t : Nat} {w : Str} {acc : List St} (h : StI c ws i j acc) (hi : i < c) (hw : ws[j]? = some w) (ht : t < c) : StI c ws i (j + 1) (acc ++ [⟨i, w, t⟩]) := by
  refine ⟨by have := h.len; simp; omega, ?_, ?_, fun nd => ?_⟩
  · intro x hx
    rw [List.mem_append, List.mem_singleton] at hx
    rcases hx with hx | rfl
    · exact h.mem x hx
    · exact ⟨hi, List.mem_of_getElem? hw, ht⟩
  · intro x hx
    rw [List.mem_append, List.mem_singleton] at hx
    rcases hx with hx | rfl
    · exact h.skip.at_ x hx
    · exact .inr ⟨rfl, j, by omega, hw⟩
  · rw [List.pairwise_append]
    refine ⟨h.un nd, List.pairwise_singleton _ _, fun x hx y hy => ?_⟩
    rw [List.mem_singleton] at hy
    subst hy
    rintro ⟨e1, e2⟩
    simp only at e1 e2
    rcases h.at_ x hx with h1 | ⟨_, j', h1, h2⟩
    · omega
    · rw [e2] at h2
      have := (List.getElem?_inj (List.getElem?_eq_some_iff.mp h2).1 nd).mp (h2.trans hw.symm)
      omega
section
variable {tbl : List (Nat × Fd)} {k b : Nat} {S S0 : Sto}
/-- A WALKER -/
theorem walker (hp : HasWalker tbl) {c r : Nat} {ws : List Str} (hc : 0 < c) (hc1 : c ≤ 1000) (hw : ws.length ≤ 1000) (hB : BoxOk b S) (hO : Own b r (ws.map .str) S) :
    Wp (callN tbl (k + 2) 5 [.ref b, .int c, .ref r] S) fun d S' => WkAt b c ws d S S' := by
  refine Wp.gen fun Q hQ => wp_call hp.walker rfl ?_
  have hbl := hB.lt
  have hcw : c * ws.length ≤ 1000000 := by
    have := Nat.mul_le_mul hc1 hw
    omega
  have sz : sizeLine = 16777216 := rfl
  unfold b__law_walker
  try walk_at "ev"
  refine (pick hp.toHasBox (.refl hB) (by decide) (by decide)).mono ?_
  rintro _ S1 ⟨n1, rfl, hn1, B1⟩
  try walk_at "ev"
  refine ⟨by omega, ?_⟩
  generalize ((n1 : Int) == 0) = full
  refine wp_fF (fun i ρ S' => ∃ (acc : List St) (x y : Option D), ρ = [some (.ref b), some (.int c), some (.ref r), some (.bl full), some (.ref S1.length), x, none, none, y] ∧ Own b S1.length (acc.map St.d) S' ∧ Bx b S S' ∧ StI c ws i 0 acc) ?_ ?_ ?_
  · exact ⟨[], _, _, rfl, Own.new B1.box, B1.app, .nil⟩
  · rintro i d ρ S2 hd ⟨acc, x, y, rfl, O2, B2, I2⟩ J hJ
    have hi : i < c := by
      have := (List.getElem?_eq_some_iff.mp hd).1
      simpa using this
    have hd' : d = .int i := by
      rw [List.getElem?_map, List.getElem?_range hi] at hd
      exact (Option.some.inj hd).symm
    subst hd'
    refine ⟨_, rfl, ?_⟩
    have e1 := (hO.mono B2).at_
    try walk_at "ev"
    refine wp_fR (ds := ws.map .str) (fun j ρ S' => ∃ (acc : List St) (y : Option D), ρ = [some (.ref b), some (.int c), some (.ref r), some (.bl full), some (.ref S1.length), some (.int i), none, none, y] ∧ Own b S1.length (acc.map St.d) S' ∧ Bx b S S' ∧ StI c ws i j acc) ?_ ?_ ?_ ?_
    · exact ⟨acc, _, rfl, O2, B2, I2⟩
    · rintro j ρ S3 ⟨_, _, _, _, B3, _⟩
      exact (hO.mono B3).at_
    · rintro j d ρ S3 hd ⟨acc, y, rfl, O3, B3, I3⟩ J' hJ'
      rw [List.getElem?_map] at hd
      cases e : ws[j]? with
      | none => rw [e] at hd; cases hd
      | some w =>
        rw [e] at hd
        cases hd
        refine ⟨_, rfl, ?_⟩
        try walk_at "ev"
        have step : ∀ S4 (R : Fl → Sto → Prop), Bx b S3 S4 → (∀ S5, J' [some (.ref b), some (.int c), some (.ref r), some (.bl full), some (.ref S1.length), some (.int i), none, none, some (.str w)] S5 → R (.nx [some (.ref b), some (.int c), some (.ref r), some (.bl full), some (.ref S1.length), some (.int i), none, none, some (.str w)]) S5) →
            Wp (exCs ⟨callN tbl (k + 1)⟩ (.cons (.ex (.bm .append (.var 4) (.cons (.tup (.cons (.var 5) (.cons (.var 8) (.cons (.call 3 (.cons (.var 0) (.cons (.var 1) .nil))) .nil)))) .nil))) .nil) [some (.ref b), some (.int c), some (.ref r), some (.bl full), some (.ref S1.length), some (.int i), none, none, some (.str w)] S4) R := by
          intro S4 R B4 hR
          have e4 := (O3.mono B4).at_
          try walk_at "ev"
          refine (pick hp.toHasBox (.refl B4.box) (by omega) (by omega)).mono ?_
          rintro _ S5 ⟨t, rfl, ht, B5⟩
          have O5 := (O3.mono B4).mono B5
          have e5 := O5.at_
          try walk_at "ev"
          have hl := I3.len
          have hlen : acc.length < sizeLine := by
            have h1 : i * ws.length ≤ c * ws.length := Nat.mul_le_mul_right _ (by omega)
            have h2 : j < ws.length := (List.getElem?_eq_some_iff.mp e).1
            omega
          refine ⟨by simp; omega, hR _ (hJ' _ _ ⟨acc ++ [⟨i, w, t⟩], _, rfl, ?_, ((B3.trans B4).trans B5).setN B1.len O5.fr, I3.add hi e (by omega)⟩)⟩
          have := O5.set (es := acc.map St.d ++ [St.d ⟨i, w, t⟩])
          simpa [St.d] using this
        refine orQ_by (fun h => ?_) (fun h => ?_) <;> clear h
        · exact step _ _ (.refl B3.box) (fun S5 h => by rw [seqQ_nx, wp_nil]; exact h)
        · try walk_at "ev"
          refine (pick hp.toHasBox (.refl B3.box) (by decide) (by decide)).mono ?_
          rintro _ S4 ⟨n2, rfl, hn2, B4⟩
          try walk_at "ev"
          refine ifQ_by (fun h => ?_) (fun h => ?_)
          · exact step _ _ B4 (fun S5 h => by rw [seqQ_nx, wp_nil]; exact h)
          · try walk_at "ev"
            exact hJ' _ _ ⟨acc, _, rfl, O3.mono B4, B3.trans B4, I3.skip⟩
    · rintro ρ S3 ⟨acc, y, rfl, O3, B3, I3⟩
      rw [List.length_map] at I3
      try walk_at "ev"
      exact hJ _ _ ⟨acc, _, _, rfl, O3, B3, I3.next⟩
  · rintro ρ S2 ⟨acc, x, y, rfl, O2, B2, I2⟩
    have I2' : StI c ws c 0 acc := by simpa using I2
    have hl := I2'.len
    have e2 := O2.at_
    try walk_at "ev"
    refine (pick hp.toHasBox (.refl B2.box) (by omega) (by simp; omega)).mono ?_
    rintro _ S3 ⟨at0, rfl, hat, B3⟩
    have e3 := (O2.mono B3).at_
    have B3' := B2.trans B3
    have l3 := lstAt_lt e3
    have hat' : at0 ≤ acc.length := by simp at hat; omega
    have fin : ∀ (q : Nat) (ys : List St) (S5 : Sto), ys.Perm acc → Own b q (ys.map St.d) S5 → Bx b S S5 → Wp (exCs ⟨callN tbl (k + 1)⟩ (.cons (.set 7 (.lc (.var 5) (.nm 5) (.rng1 (.var 1)) (.cmp .gt (.call 3 (.cons (.var 0) (.cons (.int 3) .nil))) (.int 0)) [("state", 5)])) (.cons (.ret (.tup (.cons (.var 1) (.cons (.call 3 (.cons (.var 0) (.cons (.var 1) .nil))) (.cons (.bi .tuple (.cons (.var 7) .nil)) (.cons (.bi .tuple (.cons (.var 4) .nil)) .nil)))))) .nil))
        [some (.ref b), some (.int c), some (.ref r), some (.bl full), some (.ref q), x, some (.int at0), none, y] S5) (retQ Q) := by
      intro q ys S5 hys O5 B5
      try walk_at "ev"
      refine ⟨by omega, ?_⟩
      refine wp_lF (fun i ds S' => ∃ es : List Nat, ds = es.map (fun (n : Nat) => D.int n) ∧ Own b q (ys.map St.d) S' ∧ Bx b S S' ∧ es.length ≤ i ∧ (∀ e ∈ es, e < i) ∧ es.Pairwise (· < ·)) ?_ ?_ ?_
      · exact ⟨[], rfl, O5, B5, by simp, by simp, .nil⟩
      · rintro i d ds S6 hd ⟨es, rfl, O6, B6, h1, h2, h3⟩ J K hJ hK
        have hi : i < c := by
          have := (List.getElem?_eq_some_iff.mp hd).1
          simpa using this
        have hd' : d = .int i := by
          rw [List.getElem?_map, List.getElem?_range hi] at hd
          exact (Option.some.inj hd).symm
        subst hd'
        refine ⟨_, rfl, ?_⟩
        try walk_at "ev"
        refine (pick hp.toHasBox (.refl B6.box) (by decide) (by decide)).mono ?_
        rintro _ S7 ⟨n5, rfl, hn5, B7⟩
        try walk_at "ev"
        refine lcQ_by (fun h => ?_) (fun h => ?_) <;> clear h
        · try walk_at "ev"
          refine hJ _ _ (by simp; omega) ⟨es ++ [i], by simp, O6.mono B7, B6.trans B7, by simp; omega, ?_, ?_⟩
          · intro e he
            rw [List.mem_append, List.mem_singleton] at he
            rcases he with he | rfl
            · have := h2 e he; omega
            · omega
          · rw [List.pairwise_append]
            refine ⟨h3, List.pairwise_singleton _ _, fun x hx y hy => ?_⟩
            rw [List.mem_singleton] at hy
            subst hy
            exact h2 x hx
        · exact hK _ ⟨es, rfl, O6.mono B7, B6.trans B7, by omega, fun e he => Nat.lt_succ_of_lt (h2 e he), h3⟩
      · rintro ds S6 ⟨es, rfl, O6, B6, h1, h2, h3⟩
        have h2' : ∀ e ∈ es, e < c := by simpa using h2
        have O6' := O6.app (T := [.lst (es.map fun (n : Nat) => D.int n)]) B6.box
        have O6'' := Own.new (ds := es.map fun (n : Nat) => D.int n) B6.box
        have B6' := B6.app (T := [.lst (es.map fun (n : Nat) => D.int n)])
        try walk_at "ev"
        refine (pick hp.toHasBox (.refl B6'.box) (by omega) (by omega)).mono ?_
        rintro _ S7 ⟨start, rfl, hst, B7⟩
        have e7 := (O6'.mono B7).at_
        have e8 := (O6''.mono B7).at_
        try walk_at "ev"
        refine hQ _ _ ⟨⟨start, es, ys, rfl, by omega, h2', h3, ?_, ?_, ?_⟩, B6'.trans B7⟩
        · rw [hys.length_eq]; omega
        · intro x hx
          exact I2'.mem x (hys.mem_iff.mp hx)
        · intro nd
          exact (hys.pairwise_iff (fun h => St.un_symm h)).mpr (I2'.un nd)
    have hdt : ∀ (ys : List St), List.drop at0 (ys.map St.d) ++ List.take at0 (ys.map St.d) = (ys.drop at0 ++ ys.take at0).map St.d := by
      intro ys; simp
    have hperm : (acc.drop at0 ++ acc.take at0).Perm acc := by
      have := (List.perm_append_comm (l₁ := acc.drop at0) (l₂ := acc.take at0))
      rwa [List.take_append_drop] at this
    try walk_at "ev"
    refine ⟨by simp; omega, ?_⟩
    have B4 : Bx b S (S3 ++ [O.lst (List.drop at0 (List.map St.d acc))] ++ [O.lst (List.take at0 (List.map St.d acc))]) := B3'.app.app
    have O4 := Own.new (ds := (acc.drop at0 ++ acc.take at0).map St.d) B4.box
    generalize (S3 ++ [O.lst (List.drop at0 (List.map St.d acc))] ++ [O.lst (List.take at0 (List.map St.d acc))]) = S4 at *
    refine (pick hp.toHasBox (.refl B4.app.box) (by decide) (by decide)).mono ?_
    rintro _ S5 ⟨n6, rfl, hn6, B5⟩
    have O5 := O4.mono B5
    have e5 := O5.at_
    have B5' := B4.app.trans B5
    try walk_at "ev"
    refine ifQ_by (fun h => ?_) (fun h => ?_) <;> clear h
    · rw [wp_cons]
      try walk_at "ev1"
      rw [seqQ_nx, wp_nil, seqQ_nx]
      refine fin _ ((acc.drop at0 ++ acc.take at0).reverse) _ ((List.reverse_perm _).trans hperm) ?_ B5'.app
      rw [List.map_reverse]
      exact Own.new B5'.box
    · simp only [wp_nil, seqQ_nx]
      exact fin _ _ _ hperm O5 B5'
end
end VL
namespace VL
open PySem VM
/-! ### steps, plainly -/
def stepP (xs : List St) (s : Nat) (w : Str) : Option Nat := (xs.find? fun x => x.s == s && x.w == w).map (·.t)
def optN : Option Nat → D
  | none => .non
  | some t => .int t
def takenP (xs : List St) (ends : List Nat) : Nat → List Str → Bool
  | s, [] => ends.any (· == s)
  | s, w :: ws => match stepP xs s w with
    | none => false
    | some t => takenP xs ends t ws
/-- a walker as it lies there -/
def wkD (c start : Nat) (ends : List Nat) (steps : List St) : D := .tup [.int c, .int start, .tup (ends.map fun (n : Nat) => .int n), .tup (steps.map St.d)]
theorem mapO_ints {S : Sto} {n : Nat} : ∀ es : List Nat, mapO (toP S n) (es.map fun (n : Nat) => D.int n) = some (es.map fun (n : Nat) => PyData.int n)
  | [] => rfl
  | e :: es => by
    rw [List.map_cons, mapO, mapO_ints es]
    cases n <;> rfl
theorem inD_nats {S : Sto} {s : Nat} {es : List Nat} : inD (.int s) (.tup (es.map fun (n : Nat) => .int n)) S = some (es.any (· == s)) := by
  show (match toP S 150 (.int s), toP S 150 (.tup (es.map fun (n : Nat) => .int n)) with
    | some a, some (.tuple bs) => some (bs.any fun b => PyData.eqv b a)
    | some a, some (.list bs) => some (bs.any fun b => PyData.eqv b a)
    | _, _ => none) = _
  have e : toP S 150 (.tup (es.map fun (n : Nat) => .int n)) = some (.tuple (es.map fun (n : Nat) => PyData.int n)) := by
    show (mapO (toP S 149) _).map PyData.tuple = _
    rw [mapO_ints]
    rfl
  rw [e]
  show some _ = _
  congr 1
  rw [List.any_map]
  congr 1
  funext n
  show ((n : Int) == (s : Int)) = (n == s)
  exact Bool.eq_iff_iff.mpr (by rw [beq_iff_eq, beq_iff_eq]; omega)
theorem nat_beq (n s : Nat) : ((n : Int) == (s : Int)) = (n == s) := by
  exact Bool.eq_iff_iff.mpr (by rw [beq_iff_eq, beq_iff_eq]; omega)
section
variable {tbl : List (Nat × Fd)} {k b : Nat} {S S0 : Sto} {c start : Nat} {ends : List Nat} {steps : List St}
theorem step_from (hf : tbl.lookup 0 = some ⟨3, 6, b_step_from⟩) {s : Nat} {w : Str} {Q : D → Sto → Prop} (h : Q (optN (stepP steps s w)) S) : Wp (callN tbl (k + 1) 0 [wkD c start ends steps, .int s, .str w] S) Q := by
  refine wp_call hf rfl ?_
  unfold b_step_from wkD
  try walk_at "ev"
  refine wp_fF (fun i ρ S' => ∃ x y z : Option D, ρ = [some (wkD c start ends steps), some (.int s), some (.str w), x, y, z] ∧ S' = S ∧ (steps.take i).find? (fun x => x.s == s && x.w == w) = none) ?_ ?_ ?_
  · exact ⟨_, _, _, rfl, rfl, rfl⟩
  · rintro i d ρ S' hd ⟨x, y, z, rfl, rfl, hn⟩ J hJ
    rw [List.getElem?_map] at hd
    cases e : steps[i]? with
    | none => rw [e] at hd; cases hd
    | some a =>
      rw [e] at hd
      cases hd
      refine ⟨_, rfl, ?_⟩
      have hi : i < steps.length := (List.getElem?_eq_some_iff.mp e).1
      have ht : steps.take (i + 1) = steps.take i ++ [a] := by rw [List.take_succ, e]; rfl
      have hs : ∃ r, steps = steps.take i ++ a :: r := by
        refine ⟨steps.drop (i + 1), ?_⟩
        conv => lhs; rw [← List.take_append_drop i steps]
        rw [List.drop_eq_getElem_cons hi]
        have : steps[i] = a := by rw [List.getElem?_eq_getElem hi] at e; exact Option.some.inj e
        rw [this]
      try walk_at "ev"
      rw [nat_beq]
      have out : (a.s == s && a.w == w) = false → J [some (wkD c start ends steps), some (.int s), some (.str w), some (.int a.s), some (.str a.w), some (.int a.t)] S' := by
        intro h1
        refine hJ _ _ ⟨_, _, _, rfl, rfl, ?_⟩
        rw [ht, List.find?_append, hn, List.find?_cons, h1]
        rfl
      unfold wkD at out
      refine andQ_by (fun h1 => ?_) (fun h1 => ?_)
      · try walk_at "ev"
        refine ifQ_by (fun h2 => ?_) (fun h2 => ?_)
        · try walk_at "ev"
          have : stepP steps s w = some a.t := by
            unfold stepP
            obtain ⟨r, hs⟩ := hs
            rw [hs, List.find?_append, hn, List.find?_cons, h1, h2]
            rfl
          rw [this] at h
          exact h
        · try walk_at "ev"
          exact out (by rw [h1, h2]; rfl)
      · try walk_at "ev"
        exact out (by rw [h1]; rfl)
  · rintro ρ S' ⟨x, y, z, rfl, rfl, hn⟩
    try walk_at "ev"
    rw [List.length_map, List.take_length] at hn
    unfold stepP at h
    rw [hn] at h
    exact h
/-- WALKED, by a list of what comes behind -/
theorem walked (hf : tbl.lookup 6 = some ⟨2, 6, b__law_walked⟩) {row : List Str} (hl : steps.length ≤ 1000000) : Wp (callN tbl (k + 1) 6 [wkD c start ends steps, .tup (row.map .str)] S) fun d S' => d = .bl (takenP steps ends start row) ∧ Ext S S' := by
  refine Wp.gen fun Q hQ => wp_call hf rfl ?_
  have sz : sizeLine = 16777216 := rfl
  unfold b__law_walked wkD
  try walk_at "ev"
  refine wp_fF (fun i ρ S' => ∃ (s : Nat) (x y z : Option D), ρ = [some (wkD c start ends steps), some (.tup (row.map .str)), some (.int s), x, y, z] ∧ Ext S S' ∧ takenP steps ends start row = takenP steps ends s (row.drop i)) ?_ ?_ ?_
  · exact ⟨start, _, _, _, rfl, .refl _, rfl⟩
  · rintro i d ρ S1 hd ⟨s, x, y, z, rfl, X1, ht⟩ J hJ
    rw [List.getElem?_map] at hd
    cases e : row[i]? with
    | none => rw [e] at hd; cases hd
    | some w =>
      rw [e] at hd
      cases hd
      have hr : row.drop i = w :: row.drop (i + 1) := by
        have hi := (List.getElem?_eq_some_iff.mp e)
        obtain ⟨hi, e'⟩ := hi
        rw [List.drop_eq_getElem_cons hi, e']
      rw [hr] at ht
      clear hr
      refine ⟨_, rfl, ?_⟩
      unfold wkD
      try walk_at "ev"
      refine wp_lF (fun j ds S' => ds = ((steps.take j).filter fun x => x.s == s && x.w == w).map (fun x => D.int x.t) ∧ Ext S S') ?_ ?_ ?_
      · exact ⟨rfl, X1⟩
      · rintro j d ds S2 hd ⟨rfl, X2⟩ J' K' hJ' hK'
        rw [List.getElem?_map] at hd
        cases ea : steps[j]? with
        | none => rw [ea] at hd; cases hd
        | some a =>
          rw [ea] at hd
          cases hd
          have hta : steps.take (j + 1) = steps.take j ++ [a] := by rw [List.take_succ, ea]; rfl
          rw [hta, List.filter_append, List.map_append] at hJ' hK'
          have hlen : (((steps.take j).filter fun x => x.s == s && x.w == w).map (fun x => D.int x.t)).length < sizeLine := by
            rw [List.length_map]
            have := List.length_filter_le (fun x => x.s == s && x.w == w) (steps.take j)
            rw [List.length_take] at this
            omega
          refine ⟨_, rfl, ?_⟩
          unfold St.d
          try walk_at "ev"
          rw [nat_beq]
          refine andQ_by (fun h1 => ?_) (fun h1 => ?_)
          · try walk_at "ev"
            refine lcQ_by (fun h2 => ?_) (fun h2 => ?_)
            · try walk_at "ev"
              refine hJ' _ _ hlen ⟨?_, X2⟩
              rw [List.filter_cons, h1, h2]
              rfl
            · refine hK' _ ⟨?_, X2⟩
              rw [List.filter_cons, h1, h2]
              exact (List.append_nil _).symm
          · refine hK' _ ⟨?_, X2⟩
            rw [List.filter_cons, h1]
            exact (List.append_nil _).symm
      · rintro ds S2 ⟨rfl, X2⟩
        have X3 := X2.trans (Ext.app S2 [.lst (((steps.take (steps.map fun x : St => x.d).length).filter fun x => x.s == s && x.w == w).map (fun x => D.int x.t))])
        rw [List.length_map, List.take_length] at *
        have hp : stepP steps s w = ((steps.filter fun x => x.s == s && x.w == w).head?).map (·.t) := by rw [List.head?_filter]; rfl
        have hn : takenP steps ends s (w :: row.drop (i + 1)) = match stepP steps s w with | none => false | some t => takenP steps ends t (row.drop (i + 1)) := rfl
        rw [hp] at hn
        rw [hn] at ht
        clear hp hn
        generalize (steps.filter fun x => x.s == s && x.w == w) = fl at *
        cases fl with
        | nil =>
          try walk_at "ev"
          refine ifQ_by (fun h => ?_) (fun h => absurd h (by decide))
          try walk_at "ev"
          exact hQ _ _ ⟨by rw [ht]; rfl, X3⟩
        | cons a fl =>
          try walk_at "ev"
          refine ifQ_by (fun h => absurd (beq_iff_eq.mp h) (by omega)) (fun h => ?_)
          try walk_at "ev"
          exact hJ _ _ ⟨a.t, _, _, _, rfl, X3, ht⟩
  · rintro ρ S1 ⟨s, x, y, z, rfl, X1, ht⟩
    rw [List.length_map, List.drop_length] at ht
    unfold wkD
    try walk_at "ev"
    rw [inD_nats]
    refine ⟨_, rfl, hQ _ _ ⟨by rw [ht]; rfl, X1⟩⟩
end
end VL
namespace K81
open PySem VM
/-! ### the text by places -/
def top (i : Nat) : Stmt := PySem.Challenge.pw_graftsay_k81_rows_taken.main.body.getD i (.Pass ⟨0, 0, 0, 0⟩)
/-- is_taken -/
def b_is_taken : Cs :=
  (.cons (.set 2 (.idx (.var 0) (.int 1))) (.cons (.for_ (.nm 3) (.seq (.var 1)) (.cons (.set 2 (.call 0 (.cons (.var 0) (.cons (.var 2) (.cons (.var 3) .nil))))) (.cons (.ife (.cmp .is (.var 2) (.non)) (.cons (.ret (.bl false)) .nil) .nil) .nil))) (.cons (.ret (.cmp .inn (.var 2) (.idx (.var 0) (.int 2)))) .nil)))
/-- _law_row -/
def b__law_row : Cs :=
  (.cons (.set 4 (.lst .nil)) (.cons (.set 5 (.idx (.var 1) (.int 1))) (.cons (.for_ (.nm 6) (.rng1 (.var 3)) (.cons (.set 7 (.lc (.var 8) (.nm 8) (.seq (.idx (.var 1) (.int 3))) (.cmp .eq (.idx (.var 8) (.int 0)) (.var 5)) [("step", 8)])) (.cons (.ife (.and (.cmp .gt (.bi .len (.cons (.var 7) .nil)) (.int 0)) (.one (.cmp .gt (.call 3 (.cons (.var 0) (.cons (.int 12) .nil))) (.int 0)))) (.cons (.set 8 (.idx (.var 7) (.call 3 (.cons (.var 0) (.cons (.bi .len (.cons (.var 7) .nil)) .nil))))) (.cons (.ex (.bm .append (.var 4) (.cons (.idx (.var 8) (.int 1)) .nil))) (.cons (.set 5 (.idx (.var 8) (.int 2))) .nil))) (.cons (.ex (.bm .append (.var 4) (.cons (.idx (.var 2) (.call 3 (.cons (.var 0) (.cons (.bi .len (.cons (.var 2) .nil)) .nil)))) .nil))) .nil)) .nil))) (.cons (.ret (.bi .tuple (.cons (.var 4) .nil))) .nil))))
/-- law -/
def b_law : Cs :=
  (.cons (.set 1 (.call 2 (.cons (.var 0) .nil))) (.cons (.set 2 (.bin .add (.int 1) (.call 3 (.cons (.var 1) (.cons (.int 5) .nil))))) (.cons (.set 3 (.call 4 (.cons (.var 1) (.cons (.str "abcdefghijklmnopqrstuvwxyz") (.cons (.str "q") (.cons (.bin .add (.int 2) (.call 3 (.cons (.var 1) (.cons (.int 3) .nil)))) .nil)))))) (.cons (.set 4 (.call 5 (.cons (.var 1) (.cons (.var 2) (.cons (.sl (.var 3) (.e (.int 1)) (.no)) .nil))))) (.cons (.set 5 (.call 7 (.cons (.var 1) (.cons (.var 4) (.cons (.var 3) (.cons (.call 3 (.cons (.var 1) (.cons (.int 13) .nil))) .nil)))))) (.cons (.for_ (.nm 6) (.seq (.bin .add (.lrg (.bin .add (.bi .len (.cons (.var 5) .nil)) (.int 1))) (.lst (.cons (.bi .len (.cons (.var 5) .nil)) .nil)))) (.cons (.set 7 (.call 1 (.cons (.var 4) (.cons (.sl (.var 5) (.no) (.e (.var 6))) .nil)))) (.cons (.ife (.or (.not (.v (.isi (.var 7) .bool))) (.one (.cmp .ne (.var 7) (.call 6 (.cons (.var 4) (.cons (.sl (.var 5) (.no) (.e (.var 6))) .nil)))))) (.cons (.ret (.bl false)) .nil) .nil) .nil))) (.cons (.ret (.bl true)) .nil)))))))
def ft : List (Nat × Str × Fd) := [(0, "step_from", ⟨3, 6, VL.b_step_from⟩), (1, "is_taken", ⟨2, 4, b_is_taken⟩), (2, "_law_box", ⟨1, 4, VL.b__law_box⟩), (3, "_law_pick", ⟨2, 4, VL.b__law_pick⟩), (4, "_law_words", ⟨4, 10, VL.b__law_words⟩), (5, "_law_walker", ⟨3, 9, VL.b__law_walker⟩), (6, "_law_walked", ⟨2, 6, VL.b__law_walked⟩), (7, "_law_row", ⟨4, 9, b__law_row⟩), (8, "law", ⟨1, 8, b_law⟩)]
def tbl : List (Nat × Fd) := ft.map fun p => (p.1, p.2.2)
def fs : List (Nat × Str) := ft.map fun p => (p.1, p.2.1)
def bs : List Str := ["bool", "isinstance", "len", "list", "range", "tuple"]
def gs : List (Str × D) := []
theorem sc_step_from : L2.FnScope ["walker", "state", "sign", "ahead", "word", "behind"] ["walker", "state", "sign"] (L2.defScope (top 1)) := ⟨rfl, rfl, rfl, by decide +kernel, rfl, by decide +kernel, by decide +kernel⟩
theorem m_step_from : mCs ⟨["walker", "state", "sign", "ahead", "word", "behind"], L2.defScope (top 1), none, fs, bs, gs⟩ VL.b_step_from (L2.defBody (top 1)) = true := by decide +kernel
theorem sc_is_taken : L2.FnScope ["walker", "row", "state", "sign"] ["walker", "row"] (L2.defScope (top 2)) := ⟨rfl, rfl, rfl, by decide +kernel, rfl, by decide +kernel, by decide +kernel⟩
theorem m_is_taken : mCs ⟨["walker", "row", "state", "sign"], L2.defScope (top 2), none, fs, bs, gs⟩ b_is_taken (L2.defBody (top 2)) = true := by decide +kernel
theorem sc__law_box : L2.FnScope ["script", "seed", "great", "cell"] ["script"] (L2.defScope (top 4)) := ⟨rfl, rfl, rfl, by decide +kernel, rfl, by decide +kernel, by decide +kernel⟩
theorem m__law_box : mCs ⟨["script", "seed", "great", "cell"], L2.defScope (top 4), none, fs, bs, gs⟩ VL.b__law_box (L2.defBody (top 4)) = true := by decide +kernel
theorem sc__law_pick : L2.FnScope ["box", "count", "stir", "digit"] ["box", "count"] (L2.defScope (top 5)) := ⟨rfl, rfl, rfl, by decide +kernel, rfl, by decide +kernel, by decide +kernel⟩
theorem m__law_pick : mCs ⟨["box", "count", "stir", "digit"], L2.defScope (top 5), none, fs, bs, gs⟩ VL.b__law_pick (L2.defBody (top 5)) = true := by decide +kernel
theorem sc__law_words : L2.FnScope ["box", "heads", "tail", "count", "stem", "k", "at", "turn", "some", "word"] ["box", "heads", "tail", "count"] (L2.defScope (top 6)) := ⟨rfl, rfl, rfl, by decide +kernel, rfl, by decide +kernel, by decide +kernel⟩
theorem m__law_words : mCs ⟨["box", "heads", "tail", "count", "stem", "k", "at", "turn", "some", "word"], L2.defScope (top 6), none, fs, bs, gs⟩ VL.b__law_words (L2.defBody (top 6)) = true := by decide +kernel
theorem sc__law_walker : L2.FnScope ["box", "count", "signs", "full", "steps", "state", "at", "ends", "sign"] ["box", "count", "signs"] (L2.defScope (top 7)) := ⟨rfl, rfl, rfl, by decide +kernel, rfl, by decide +kernel, by decide +kernel⟩
theorem m__law_walker : mCs ⟨["box", "count", "signs", "full", "steps", "state", "at", "ends", "sign"], L2.defScope (top 7), none, fs, bs, gs⟩ VL.b__law_walker (L2.defBody (top 7)) = true := by decide +kernel
theorem sc__law_walked : L2.FnScope ["walker", "row", "state", "sign", "behind", "step"] ["walker", "row"] (L2.defScope (top 8)) := ⟨rfl, rfl, rfl, by decide +kernel, rfl, by decide +kernel, by decide +kernel⟩
theorem m__law_walked : mCs ⟨["walker", "row", "state", "sign", "behind", "step"], L2.defScope (top 8), none, fs, bs, gs⟩ VL.b__law_walked (L2.defBody (top 8)) = true := by decide +kernel
theorem sc__law_row : L2.FnScope ["box", "walker", "signs", "size", "row", "state", "k", "good", "step"] ["box", "walker", "signs", "size"] (L2.defScope (top 9)) := ⟨rfl, rfl, rfl, by decide +kernel, rfl, by decide +kernel, by decide +kernel⟩
theorem m__law_row : mCs ⟨["box", "walker", "signs", "size", "row", "state", "k", "good", "step"], L2.defScope (top 9), none, fs, bs, gs⟩ b__law_row (L2.defBody (top 9)) = true := by decide +kernel
theorem sc_law : L2.FnScope ["script", "box", "count", "signs", "walker", "row", "size", "told"] ["script"] (L2.defScope (top 10)) := ⟨rfl, rfl, rfl, by decide +kernel, rfl, by decide +kernel, by decide +kernel⟩
theorem m_law : mCs ⟨["script", "box", "count", "signs", "walker", "row", "size", "told"], L2.defScope (top 10), none, fs, bs, gs⟩ b_law (L2.defBody (top 10)) = true := by decide +kernel
end K81
namespace K81
open PySem VM
open VL
def room : Nat := 40
theorem hasWords : HasWords tbl := ⟨⟨rfl, rfl⟩, rfl⟩
theorem hasWalker : HasWalker tbl := ⟨⟨rfl, rfl⟩, rfl⟩
section
variable {k b : Nat} {S S0 : Sto} {c start : Nat} {ends : List Nat} {steps : List St}
theorem is_taken {row : List Str} : Wp (callN tbl (k + 2) 1 [wkD c start ends steps, .tup (row.map .str)] S) fun d S' => d = .bl (takenP steps ends start row) ∧ S' = S := by
  refine Wp.gen fun Q hQ => wp_call (fd := ⟨2, 4, b_is_taken⟩) rfl rfl ?_
  unfold b_is_taken
  have e1 : ∀ Q : D → Sto → Prop, Wp (idxD (wkD c start ends steps) (.int 1) S) Q = Q (.int start) S := by
    intro Q
    unfold wkD
    try walk_at "ev"
  try walk_at "ev"
  refine wp_fF (fun i ρ S' => ∃ (s : Nat) (x : Option D), ρ = [some (wkD c start ends steps), some (.tup (row.map .str)), some (.int s), x] ∧ S' = S ∧ takenP steps ends start row = takenP steps ends s (row.drop i)) ?_ ?_ ?_
  · exact ⟨start, _, rfl, rfl, rfl⟩
  · rintro i d ρ S1 hd ⟨s, x, rfl, rfl, ht⟩ J hJ
    rw [List.getElem?_map] at hd
    cases e : row[i]? with
    | none => rw [e] at hd; cases hd
    | some w =>
      rw [e] at hd
      cases hd
      have hr : row.drop i = w :: row.drop (i + 1) := by
        obtain ⟨hi, e'⟩ := (List.getElem?_eq_some_iff.mp e)
        rw [List.drop_eq_getElem_cons hi, e']
      rw [hr] at ht
      clear hr
      have hn : takenP steps ends s (w :: row.drop (i + 1)) = match stepP steps s w with | none => false | some t => takenP steps ends t (row.drop (i + 1)) := rfl
      rw [hn] at ht
      clear hn
      refine ⟨_, rfl, ?_⟩
      try walk_at "ev"
      refine VL.step_from rfl ?_
      cases hst : stepP steps s w with
      | none =>
        rw [hst] at ht
        unfold optN
        try walk_at "ev"
        exact hQ _ _ ⟨by rw [ht], rfl⟩
      | some t =>
        rw [hst] at ht
        unfold optN
        try walk_at "ev"
        exact hJ _ _ ⟨t, _, rfl, rfl, ht⟩
  · rintro ρ S1 ⟨s, x, rfl, rfl, ht⟩
    rw [List.length_map, List.drop_length] at ht
    unfold wkD
    try walk_at "ev"
    rw [inD_nats]
    refine ⟨_, rfl, hQ _ _ ⟨by rw [ht]; rfl, rfl⟩⟩
/-- A ROW -/
theorem row_sp {r n : Nat} {ws : List Str} (hw : 0 < ws.length) (hw1 : ws.length ≤ 1000) (hn : n ≤ 1000) (hl : steps.length ≤ 1000000) (hB : BoxOk b S) (hO : Own b r (ws.map .str) S) :
    Wp (callN tbl (k + 2) 7 [.ref b, wkD c start ends steps, .ref r, .int n] S) fun d S' => ∃ row : List Str, d = .tup (row.map .str) ∧ row.length = n ∧ Bx b S S' := by
  refine Wp.gen fun Q hQ => wp_call (fd := ⟨4, 9, b__law_row⟩) rfl rfl ?_
  have sz : sizeLine = 16777216 := rfl
  unfold b__law_row
  have e1 : ∀ (Q : D → Sto → Prop) (S : Sto), Wp (idxD (wkD c start ends steps) (.int 1) S) Q = Q (.int start) S := by
    intro Q S
    unfold wkD
    try walk_at "ev"
  have e3 : ∀ (Q : D → Sto → Prop) (S : Sto), Wp (idxD (wkD c start ends steps) (.int 3) S) Q = Q (.tup (steps.map St.d)) S := by
    intro Q S
    unfold wkD
    try walk_at "ev"
  try walk_at "ev"
  refine ⟨by omega, ?_⟩
  refine wp_fF (fun i ρ S' => ∃ (row : List Str) (s : Nat) (x y z : Option D), ρ = [some (.ref b), some (wkD c start ends steps), some (.ref r), some (.int n), some (.ref S.length), some (.int s), x, y, z] ∧ Own b S.length (row.map .str) S' ∧ row.length = i ∧ Bx b S S') ?_ ?_ ?_
  · exact ⟨[], start, _, _, _, rfl, Own.new hB, rfl, (Bx.refl hB).app⟩
  · rintro i d ρ S1 hd ⟨row, s, x, y, z, rfl, O1, hr, B1⟩ J hJ
    have hi : i < n := by
      have := (List.getElem?_eq_some_iff.mp hd).1
      simpa using this
    refine ⟨_, rfl, ?_⟩
    try walk_at "ev"
    refine wp_lF (fun j ds S' => ∃ g : List St, ds = g.map St.d ∧ g.length ≤ j ∧ S' = S1) ?_ ?_ ?_
    · exact ⟨[], rfl, by simp, rfl⟩
    · rintro j d ds S2 hd ⟨g, rfl, hg, rfl⟩ J' K' hJ' hK'
      rw [List.getElem?_map] at hd
      cases ea : steps[j]? with
      | none => rw [ea] at hd; cases hd
      | some a =>
        rw [ea] at hd
        cases hd
        have hj : j < steps.length := (List.getElem?_eq_some_iff.mp ea).1
        refine ⟨_, rfl, ?_⟩
        have ea1 : ∀ (Q : D → Sto → Prop) (S : Sto), Wp (idxD a.d (.int 0) S) Q = Q (.int a.s) S := by
          intro Q S
          unfold St.d
          try walk_at "ev"
        try walk_at "ev"
        refine lcQ_by (fun h2 => ?_) (fun h2 => ?_) <;> clear h2
        · try walk_at "ev"
          exact hJ' _ _ (by simp; omega) ⟨g ++ [a], by simp, by simp; omega, rfl⟩
        · exact hK' _ ⟨g, rfl, by omega, rfl⟩
    · rintro ds S2 ⟨g, rfl, hg, rfl⟩
      have B2 := B1.app (T := [.lst (g.map St.d)])
      have O2 := O1.app (T := [.lst (g.map St.d)]) B1.box
      have O3 := Own.new (ds := g.map St.d) B1.box
      have O4 := hO.mono B2
      have other : ∀ S3, Bx b S S3 → Own b S.length (row.map .str) S3 → Wp (exCs ⟨callN tbl (k + 1)⟩ (.cons (.ex (.bm .append (.var 4) (.cons (.idx (.var 2) (.call 3 (.cons (.var 0) (.cons (.bi .len (.cons (.var 2) .nil)) .nil)))) .nil))) .nil)
          [some (.ref b), some (wkD c start ends steps), some (.ref r), some (.int n), some (.ref S.length), some (.int s), some d, some (.ref S2.length), z] S3) (seqQ ⟨callN tbl (k + 1)⟩ .nil (forQ J (seqQ ⟨callN tbl (k + 1)⟩ (.cons (.ret (.bi .tuple (.cons (.var 4) .nil))) .nil) (retQ Q)))) := by
        intro S3 B3 O3
        have e4 := (hO.mono B3).at_
        have e4' := O3.at_
        try walk_at "ev"
        refine (pick hasWords.toHasBox (.refl B3.box) (by simp; omega) (by simp; omega)).mono ?_
        rintro _ S4 ⟨p, rfl, hp, B4⟩
        have hq : p < ws.length := by simpa using hp
        have hp' : p < (ws.map D.str).length := by simpa using hp
        have e5 := (hO.mono (B3.trans B4)).at_
        have e6 := (O3.mono B4).at_
        try walk_at "ev"
        refine ⟨_, atI_lt hp', by (try simp); omega, ?_⟩
        refine hJ _ _ ⟨row ++ [ws[p]], s, _, _, _, rfl, ?_, by simp [hr], (B3.trans B4).setN (Nat.le_refl _) (O3.mono B4).fr⟩
        have := (O3.mono B4).set (es := row.map .str ++ [(ws.map D.str)[p]])
        simpa using this
      have e7 := O3.at_
      have hg' : g.length ≤ steps.length := by simpa using hg
      try walk_at "ev"
      refine andQ_by (fun h => ?_) (fun h => ?_)
      · have hg0 : 0 < g.length := by simpa using h
        clear h
        try walk_at "ev"
        refine (pick hasWords.toHasBox (.refl B2.box) (by decide) (by decide)).mono ?_
        rintro _ S3 ⟨n1, rfl, hn1, B3⟩
        have e8 := (O3.mono B3).at_
        try walk_at "ev"
        refine ifQ_by (fun h => ?_) (fun h => ?_) <;> clear h
        · try walk_at "ev"
          refine (pick hasWords.toHasBox (.refl B3.box) (by simp; omega) (by simp; omega)).mono ?_
          rintro _ S4 ⟨p, rfl, hp, B4⟩
          have hq : p < g.length := by simpa using hp
          have hp' : p < (g.map St.d).length := by simpa using hp
          have e9 := ((O3.mono B3).mono B4).at_
          have O5 := (O2.mono B3).mono B4
          have e10 := O5.at_
          have hat := atI_lt hp'
          rw [List.getElem_map] at hat
          generalize g[p] = a at hat
          obtain ⟨as, aw, at_⟩ := a
          replace hat : L2.atI (g.map St.d) (p : Int) = some (.tup [.int as, .str aw, .int at_]) := hat
          try walk_at "ev"
          refine ⟨by (try simp); omega, ?_⟩
          refine hJ _ _ ⟨row ++ [aw], at_, _, _, _, rfl, ?_, by simp [hr], ((B2.trans B3).trans B4).setN (Nat.le_refl _) O5.fr⟩
          have := O5.set (es := row.map .str ++ [.str aw])
          simpa using this
        · exact other _ (B2.trans B3) (O2.mono B3)
      · clear h
        exact other _ B2 O2
  · rintro ρ S1 ⟨row, s, x, y, z, rfl, O1, hr, B1⟩
    have e5 := O1.at_
    try walk_at "ev"
    exact hQ _ _ ⟨row, rfl, by simpa using hr, B1⟩
end
theorem law_ok (ns : List Int) (hn : ns.length ≤ 63) : ∃ S', callN tbl room 8 [.fz (ns.map .int)] [] = some (.ok (.bl true) S') := by
  have key : Wp (callN tbl (36 + 4) 8 [.fz (ns.map .int)] []) fun d _ => d = .bl true := by
    refine Wp.gen fun Q hQ => wp_call (fd := ⟨1, 8, b_law⟩) rfl rfl ?_
    have sz : sizeLine = 16777216 := rfl
    unfold b_law
    try walk_at "ev"
    refine (box hasWords.toHasBox hn).mono ?_
    rintro _ S1 ⟨b, rfl, B1, X1⟩
    try walk_at "ev"
    refine (pick hasWords.toHasBox (.refl B1) (by decide) (by decide)).mono ?_
    rintro _ S2 ⟨c0, rfl, hc0, B2⟩
    try walk_at "ev"
    refine (pick hasWords.toHasBox (.refl B2.box) (by decide) (by decide)).mono ?_
    rintro _ S3 ⟨m0, rfl, hm0, B3⟩
    try walk_at "ev"
    have e1 : (2 : Int) + (m0 : Int) = ((2 + m0 : Nat) : Int) := by push_cast; rfl
    have e2 : (1 : Int) + (c0 : Int) = ((1 + c0 : Nat) : Int) := by push_cast; rfl
    rw [e1, e2]
    clear e1 e2
    refine (words hasWords (by decide +kernel) (by decide +kernel) (by omega) B3.box).mono ?_
    rintro d S4 ⟨⟨r, ws, rfl, O4, hr, hw, hW⟩, B4⟩
    have e4 := O4.at_
    try walk_at "ev"
    rw [show List.drop 1 (ws.map D.str) = (ws.drop 1).map D.str from List.map_drop.symm]
    have O5 := Own.new (ds := (ws.drop 1).map .str) B4.box
    refine (walker hasWalker (c := 1 + c0) (by omega) (by omega) (by simp; omega) B4.app.box O5).mono ?_
    rintro d S5 ⟨⟨start, ends, steps, W⟩, B5⟩
    have hsl : steps.length ≤ 1000000 := by
      have h1 := W.len
      have h2 : (1 + c0) * (ws.drop 1).length ≤ 5 * 4 := Nat.mul_le_mul (by omega) (by simp; omega)
      omega
    have ed : d = wkD (1 + c0) start ends steps := W.eq
    clear W
    subst ed
    refine (pick hasWords.toHasBox (.refl B5.box) (by decide) (by decide)).mono ?_
    rintro _ S6 ⟨n6, rfl, hn6, B6⟩
    have O6 := ((O4.app B4.box).mono B5).mono B6
    refine (row_sp (by omega) (by omega) (by omega) hsl B6.box O6).mono ?_
    rintro _ S7 ⟨row, rfl, hrow, B7⟩
    have hv : List.map (fun (k : Nat) => D.int k) (List.range (((row.map D.str).length : Int) + 1).toNat) ++ [D.int ((row.map D.str).length : Nat)] = (List.range (n6 + 1) ++ [n6]).map fun (k : Nat) => D.int k := by
      rw [List.length_map, hrow, List.map_append]
      have : ((n6 : Int) + 1).toNat = n6 + 1 := by omega
      rw [this]
      rfl
    try walk_at "ev"
    rw [List.length_map, hrow]
    refine ⟨by omega, by simp; omega, ?_⟩
    generalize List.range (n6 + 1) ++ [n6] = vals
    generalize S7 ++ _ ++ _ = S8
    refine wp_fR (ds := vals.map fun (k : Nat) => D.int k) (fun i ρ S' => ∃ x y : Option D, ρ = [some (.fz (ns.map .int)), some (.ref b), some (.int ((1 + c0 : Nat) : Int)), some (.ref r), some (wkD (1 + c0) start ends steps), some (.tup (row.map .str)), x, y] ∧ lstAt S' S8.length = some (vals.map fun (k : Nat) => D.int k)) ?_ ?_ ?_ ?_
    · exact ⟨_, _, rfl, lstAt_new⟩
    · rintro i ρ S9 ⟨x, y, _, h⟩
      exact h
    · rintro i d ρ S9 hd ⟨x, y, rfl, h9⟩ J hJ
      rw [List.getElem?_map] at hd
      cases e : vals[i]? with
      | none => rw [e] at hd; cases hd
      | some z =>
        rw [e] at hd
        cases hd
        refine ⟨_, rfl, ?_⟩
        have ht : List.take z (row.map D.str) = (row.take z).map D.str := List.map_take.symm
        try walk_at "ev"
        refine is_taken.mono ?_
        rintro _ S10 ⟨rfl, rfl⟩
        have hk : ∀ t, isiD .bool (.bl t) S10 = some true := fun t => rfl
        try walk_at "ev"
        refine (walked rfl hsl).mono ?_
        rintro _ S11 ⟨rfl, X11⟩
        have h11 := X11.lst h9
        try walk_at "ev"
        exact hJ _ _ ⟨_, _, rfl, h11⟩
    · rintro ρ S9 ⟨x, y, rfl, h9⟩
      try walk_at "ev"
  exact key.eq fun _ _ e => e
end K81
namespace K81
open PySem VM
theorem all_mk {P : Program} {w : World} {K : PySem.W.Frag} {h : Heap} {mg : Str → Option Value} {fa : Addr} (X : K.In h) (G : h.Ns mainGlobals mg) (hfa : mg "law" = some (.ref fa))
    (a_step_from : FnAt K "step_from" (top 1) ["walker", "state", "sign"]) (a_is_taken : FnAt K "is_taken" (top 2) ["walker", "row"]) (a__law_box : FnAt K "_law_box" (top 4) ["script"]) (a__law_pick : FnAt K "_law_pick" (top 5) ["box", "count"]) (a__law_words : FnAt K "_law_words" (top 6) ["box", "heads", "tail", "count"]) (a__law_walker : FnAt K "_law_walker" (top 7) ["box", "count", "signs"]) (a__law_walked : FnAt K "_law_walked" (top 8) ["walker", "row"]) (a__law_row : FnAt K "_law_row" (top 9) ["box", "walker", "signs", "size"]) (a_law : FnAt K "law" (top 10) ["script"]) (z_bool : PySem.W.nsIn K mainGlobals "bool" = some none) (z_isinstance : PySem.W.nsIn K mainGlobals "isinstance" = some none) (z_len : PySem.W.nsIn K mainGlobals "len" = some none) (z_list : PySem.W.nsIn K mainGlobals "list" = some none) (z_range : PySem.W.nsIn K mainGlobals "range" = some none) (z_tuple : PySem.W.nsIn K mainGlobals "tuple" = some none)  (k : Nat) :
    ∃ fd : FuncData, (∀ (s : Shared) (v : Value), BindsTo s fd ⟨[v], []⟩ [("script", v)]) ∧ ∀ base : Heap, L2.FnOk P w K mg base L2.CX0 k fa fd ["script"] (spF K tbl k 8) := by
  refine law_at (ft := ft) (bs := bs) (gs := gs) (fd := ⟨1, 8, b_law⟩) X G hfa a_law sc_law rfl rfl m_law ?_ ?_ ?_ k 8 rfl
  · intro p hp
    simp only [ft, List.mem_cons, List.not_mem_nil, or_false] at hp
    rcases hp with rfl | rfl | rfl | rfl | rfl | rfl | rfl | rfl | rfl
    · exact a_step_from.t X G sc_step_from rfl rfl m_step_from
    · exact a_is_taken.t X G sc_is_taken rfl rfl m_is_taken
    · exact a__law_box.t X G sc__law_box rfl rfl m__law_box
    · exact a__law_pick.t X G sc__law_pick rfl rfl m__law_pick
    · exact a__law_words.t X G sc__law_words rfl rfl m__law_words
    · exact a__law_walker.t X G sc__law_walker rfl rfl m__law_walker
    · exact a__law_walked.t X G sc__law_walked rfl rfl m__law_walked
    · exact a__law_row.t X G sc__law_row rfl rfl m__law_row
    · exact a_law.t X G sc_law rfl rfl m_law
  · intro x hx
    simp only [bs, List.mem_cons, List.not_mem_nil, or_false] at hx
    rcases hx with rfl | rfl | rfl | rfl | rfl | rfl
    · exact PySem.W.mg_none_of X G z_bool
    · exact PySem.W.mg_none_of X G z_isinstance
    · exact PySem.W.mg_none_of X G z_len
    · exact PySem.W.mg_none_of X G z_list
    · exact PySem.W.mg_none_of X G z_range
    · exact PySem.W.mg_none_of X G z_tuple
  · refine flat_gs fun p hp => ?_
    cases hp
end K81
theorem PySem.Challenge.cw_graftsay_k81_rows_taken_holds : PySem.Challenge.rw_graftsay_k81_rows_taken.Holds := by
  w_on; o_law; k_head; (case hw => w_witness2)
  k_fill
  refine VM.walk (l := PySem.Challenge.rw_graftsay_k81_rows_taken) (tbl := K81.tbl) (k := K81.room) (f := 8) rfl rfl ⟨rfl, by decide, by decide⟩ (fun w h Y => PySem.W.kIn_of Y) ?F K81.law_ok
  case F =>
    intro w mg fa h KX G hmg
    refine K81.all_mk KX G hmg ?a_step_from ?a_is_taken ?a__law_box ?a__law_pick ?a__law_words ?a__law_walker ?a__law_walked ?a__law_row ?a_law ?z_bool ?z_isinstance ?z_len ?z_list ?z_range ?z_tuple K81.room
    case a_step_from =>
      refine' VM.fnAt_mk ?b_step_from ?c_step_from ?d_step_from ?e_step_from ?f_step_from
      case c_step_from => k_is
      case d_step_from => k_is
      case e_step_from => k_is
      case f_step_from => k_is
      case b_step_from => exact fun _ _ _ _ _ _ us hl => match us, hl with | [_, _, _], _ => rfl
    case a_is_taken =>
      refine' VM.fnAt_mk ?b_is_taken ?c_is_taken ?d_is_taken ?e_is_taken ?f_is_taken
      case c_is_taken => k_is
      case d_is_taken => k_is
      case e_is_taken => k_is
      case f_is_taken => k_is
      case b_is_taken => exact fun _ _ _ _ _ _ us hl => match us, hl with | [_, _], _ => rfl
    case a__law_box =>
      refine' VM.fnAt_mk ?b__law_box ?c__law_box ?d__law_box ?e__law_box ?f__law_box
      case c__law_box => k_is
      case d__law_box => k_is
      case e__law_box => k_is
      case f__law_box => k_is
      case b__law_box => exact fun _ _ _ _ _ _ us hl => match us, hl with | [_], _ => rfl
    case a__law_pick =>
      refine' VM.fnAt_mk ?b__law_pick ?c__law_pick ?d__law_pick ?e__law_pick ?f__law_pick
      case c__law_pick => k_is
      case d__law_pick => k_is
      case e__law_pick => k_is
      case f__law_pick => k_is
      case b__law_pick => exact fun _ _ _ _ _ _ us hl => match us, hl with | [_, _], _ => rfl
    case a__law_words =>
      refine' VM.fnAt_mk ?b__law_words ?c__law_words ?d__law_words ?e__law_words ?f__law_words
      case c__law_words => k_is
      case d__law_words => k_is
      case e__law_words => k_is
      case f__law_words => k_is
      case b__law_words => exact fun _ _ _ _ _ _ us hl => match us, hl with | [_, _, _, _], _ => rfl
    case a__law_walker =>
      refine' VM.fnAt_mk ?b__law_walker ?c__law_walker ?d__law_walker ?e__law_walker ?f__law_walker
      case c__law_walker => k_is
      case d__law_walker => k_is
      case e__law_walker => k_is
      case f__law_walker => k_is
      case b__law_walker => exact fun _ _ _ _ _ _ us hl => match us, hl with | [_, _, _], _ => rfl
    case a__law_walked =>
      refine' VM.fnAt_mk ?b__law_walked ?c__law_walked ?d__law_walked ?e__law_walked ?f__law_walked
      case c__law_walked => k_is
      case d__law_walked => k_is
      case e__law_walked => k_is
      case f__law_walked => k_is
      case b__law_walked => exact fun _ _ _ _ _ _ us hl => match us, hl with | [_, _], _ => rfl
    case a__law_row =>
      refine' VM.fnAt_mk ?b__law_row ?c__law_row ?d__law_row ?e__law_row ?f__law_row
      case c__law_row => k_is
      case d__law_row => k_is
      case e__law_row => k_is
      case f__law_row => k_is
      case b__law_row => exact fun _ _ _ _ _ _ us hl => match us, hl with | [_, _, _, _], _ => rfl
    case a_law =>
      refine' VM.fnAt_mk ?b_law ?c_law ?d_law ?e_law ?f_law
      case c_law => k_is
      case d_law => k_is
      case e_law => k_is
      case f_law => k_is
      case b_law => exact fun _ _ _ _ _ _ us hl => match us, hl with | [_], _ => rfl
    case z_bool => k_is
    case z_isinstance => k_is
    case z_len => k_is
    case z_list => k_is
    case z_range => k_is
    case z_tuple => k_is
