import PyProof.Rows.All
import HandS.ForMost
import HandS.Flow
import HandS.IsInst
import HandS.Conv
import HandS.WideBits
import HandS.TupAny
import HandS.Deep
import HandS.CallSlots
import HandS.Wide
import HandS.ForExc
import HandS.More
import HandS.DictComp
import KE.GoesEnum
import HandS.Style
import PySem.Challenge.RW_weavewrit_k17_steps_and_marks
set_option Elab.async false
set_option linter.all false
set_option maxRecDepth 100000
/-! MPSem: a small deterministic reading of Python: deep values, a store of lists, what a text of the fragment does (by wishes). -/
namespace MP
open PySem PySem.Spec PyProof.Rows L2

/-- values: tuples are deep, lists stand in the store -/
inductive D where
  | non | bl (b : Bool) | int (i : Int) | str (x : Str) | tup (xs : List D) | ref (a : Nat)
  /-- a list that is read alone (the script) -/
  | klst (xs : List D)
  /-- a def, by its name at the top -/
  | fn (x : Str)

/-- what stands in the store -/
inductive O where
  | lst (xs : List D)
  /-- a dict; is it being walked? -/
  | dk (fz : Bool) (kvs : List (Key × D))
  /-- an instance of class number c, its attributes -/
  | ins (c : Nat) (fs : List (Str × D))
abbrev Sto := List O
abbrev Env := List (Option D)
/-- an exception: its class by number, its field -/
structure Ex where
  c : Nat
  f : D

inductive Bop where
  | add | sub | mul | fdiv | mod | pow | shl | shr | band | bor | bxor
inductive Cop where
  | eq | ne | lt | le | gt | ge | isin | notin | isN | notN
inductive Bl where
  | len | abs | max | min | sum | any | all | int | bool | list | tuple | dict
inductive Mt where
  | append | pop | popAt | bits | extend
  deriving DecidableEq
inductive Ty where
  | int | bool | str | tuple | list | dict
inductive Tg where
  | nm (i : Nat)
  | tp (ts : List Tg)

mutual
inductive MX where
  | var (i : Nat) | int (i : Int) | bl (b : Bool) | non | str (x : Str)
  | tup (es : MXs) | lst (es : MXs)
  | bin (op : Bop) (a b : MX) | neg (a : MX)
  | cmp (op : Cop) (a b : MX) | chain (op op' : Cop) (a b c : MX)
  | and (a b : MX) | or (a b : MX) | not (a : MX) | ite (c a b : MX)
  | ix (a i : MX) | sl (a : MX) (lo hi : MXo)
  | call (f : Nat) (es : MXs) | blt (b : Bl) (es : MXs) | isi (a : MX) (t : Ty)
  | listRg (es : MXs) | tupRg (es : MXs)
  | meth (m : Mt) (o : MX) (es : MXs)
  | comp (vs : List Nat) (t : Tg) (it : MI) (ifs : MXs) (elt : MX)
  | dnew | dget (o k : MX) | dget2 (o k x : MX)
  | fld (o : MX) (f : Str) | make (cl f : Nat) (es : MXs)
  | fnv (x : Str) | callv (i : Nat) (fs : List (Str × Nat)) (es : MXs)
  /-- list(o.keys()); a comprehension over a dict that a name holds -/
  | keysOf (o : MX) | compD (vs : List Nat) (t : Tg) (i : Nat) (ifs : MXs) (elt : MX)
  /-- one of two readings -/
  | orX (a b : MX)
inductive MXs where
  | nil | cons (e : MX) (es : MXs)
inductive MXo where
  | no | so (e : MX)
inductive MI where
  | seq (e : MX) | rng (es : MXs) | enum (e : MX)
end

inductive Lt where
  | tg (t : Tg)
  | ix (o i : MX)
  | fld (o : MX) (f : Str)
mutual
inductive MS where
  | asg (t : Lt) (e : MX) | ex (e : MX) | iff (c : MX) (a b : MSs) | whl (c : MX) (b : MSs)
  | for_ (t : Tg) (it : MI) (b : MSs) | ret (e : MX) | ret0 | brk | cnt | pas
inductive MSs where
  | nil | cons (s : MS) (ss : MSs)
end

/-! ### values -/
abbrev KD := D → Sto → Prop
abbrev CallT := Nat → List D → Sto → KD → (Ex → Sto → Prop) → Prop

def lstOf (S : Sto) (a : Nat) : Option (List D) :=
  match S[a]? with
  | some (.lst xs) => some xs
  | _ => none
def keyOf : D → Option Key
  | .int i => some (.inl i)
  | .str x => some (.inr x)
  | _ => none
def keyD : Key → D
  | .inl i => .int i
  | .inr x => .str x
section
variable {κ : Type} [DecidableEq κ]
def dGet (kvs : List (κ × D)) (k : κ) : Option D := (kvs.find? fun kv => decide (kv.1 = k)).map (·.2)
def dPut (kvs : List (κ × D)) (k : κ) (v : D) : List (κ × D) :=
  if (kvs.any fun kv => decide (kv.1 = k)) = true then kvs.map (fun kv => if kv.1 = k then (kv.1, v) else kv) else kvs ++ [(k, v)]
end
def dkOf (S : Sto) (a : Nat) : Option (List (Key × D)) :=
  match S[a]? with
  | some (.dk _ kvs) => some kvs
  | _ => none

def tru (S : Sto) : D → Option Bool
  | .non => some false
  | .bl b => some b
  | .int i => some (i != 0)
  | .str x => if x.length ≤ sizeLine then some (x.length != 0) else none
  | .tup xs => some (!xs.isEmpty)
  | .klst xs => some (!xs.isEmpty)
  | .fn _ => none
  | .ref a => match S[a]? with
    | some (.lst xs) => some (!xs.isEmpty)
    | _ => none
def truK (S : Sto) (v : D) (K : Bool → Prop) : Prop :=
  match tru S v with
  | some k => K k
  | none => False

mutual
inductive Pd (S : Sto) : D → PyData → Prop
  | non : Pd S .non .none
  | bl (b : Bool) : Pd S (.bl b) (.bool b)
  | int (i : Int) : Pd S (.int i) (.int i)
  | str (x : Str) : Pd S (.str x) (.str x)
  | tup {xs : List D} {ds : List PyData} : Pds S xs ds → Pd S (.tup xs) (.tuple ds)
  | ref {a : Nat} {xs : List D} {ds : List PyData} : lstOf S a = some xs → Pds S xs ds → Pd S (.ref a) (.list ds)
inductive Pds (S : Sto) : List D → List PyData → Prop
  | nil : Pds S [] []
  | cons {x : D} {xs : List D} {d : PyData} {ds : List PyData} : Pd S x d → Pds S xs ds → Pds S (x :: xs) (d :: ds)
end

def flatD : D → Bool
  | .non => true
  | .bl _ => true
  | .int _ => true
  | .str _ => true
  | _ => false
/-- == of flat ones -/
def eqF : D → D → Bool
  | .non, .non => true
  | .bl a, .bl b => a == b
  | .int a, .int b => a == b
  | .str a, .str b => a == b
  | .bl a, .int b => (if a then 1 else 0) == b
  | .int a, .bl b => a == (if b then 1 else 0)
  | _, _ => false
def inF (x : D) (ys : List D) : Bool := ys.any fun y => eqF y x

def cutD {α : Type} (xs : List α) (lo hi : Option Int) : List α := (xs.drop (HT.sIx xs.length 0 lo)).take (HT.sIx xs.length xs.length hi - HT.sIx xs.length 0 lo)
def rgD (a b : Int) : List D := (List.range (b - a).toNat).map fun i => D.int (a + (i : Nat))

/-! ### operators -/
def wpBin : Bop → D → D → Sto → KD → Prop
  | .add, .int i, .int j, S, Q => Q (.int (i + j)) S
  | .add, .tup xs, .tup ys, S, Q => xs.length + ys.length ≤ sizeLine ∧ Q (.tup (xs ++ ys)) S
  | .add, .str x, .str y, S, Q => x.length + y.length ≤ sizeLine ∧ Q (.str (x ++ y)) S
  | .add, .ref a, .ref b, S, Q => match S[a]?, S[b]? with
    | some (.lst xs), some (.lst ys) => xs.length + ys.length ≤ sizeLine ∧ Q (.ref S.length) (S ++ [.lst (xs ++ ys)])
    | _, _ => False
  | .sub, .int i, .int j, S, Q => Q (.int (i - j)) S
  | .mul, .int i, .int j, S, Q => IntMulOk i j ∧ Q (.int (i * j)) S
  | .fdiv, .int i, .int j, S, Q => if 0 < j then j.natAbs.log2 < 9000 ∧ Q (.int (i / j)) S else CDivN i j ∧ Q (.int (i.fdiv j)) S
  | .mod, .int i, .int j, S, Q => if 0 < j then Q (.int (i % j)) S else j ≠ 0 ∧ Q (.int (i.fmod j)) S
  | .pow, .int i, .int j, S, Q => CPow i j ∧ Q (.int (i ^ j.toNat)) S
  | .shl, .int i, .int j, S, Q => CShl i j ∧ Q (.int (i * 2 ^ j.toNat)) S
  | .shr, .int i, .int j, S, Q => 0 ≤ j ∧ Q (.int (i / 2 ^ j.toNat)) S
  | .band, .int i, .int j, S, Q => Q (.int (Builtin.bitAnd i j)) S
  | .bor, .int i, .int j, S, Q => Q (.int (Builtin.bitOr i j)) S
  | .bxor, .int i, .int j, S, Q => Q (.int (Builtin.bitXor i j)) S
  | _, _, _, _, _ => False

def wpEq (neg : Bool) : D → D → Sto → KD → Prop
  | .int i, .int j, S, Q => Q (.bl (neg ^^ decide (i = j))) S
  | .str x, .str y, S, Q => Q (.bl (neg ^^ decide (x = y))) S
  | .bl x, .bl y, S, Q => Q (.bl (neg ^^ decide (x = y))) S
  | x, y, S, Q => (∃ d e, Pd S x d ∧ Pd S y e ∧ SeqAt.shaped d = true ∧ SeqAt.shaped e = true ∧ Q (.bl (neg ^^ PyData.eqv d e)) S) ∨
      ∃ a b kvs, x = .ref a ∧ y = .ref b ∧ S[a]? = some (.dk false kvs) ∧ S[b]? = some (.dk false kvs) ∧ (∀ kv ∈ kvs, flatD kv.2 = true) ∧ (kvs.map (·.1)).Nodup ∧ Q (.bl (neg ^^ true)) S
def wpIn (neg : Bool) (x : D) : D → Sto → KD → Prop
  | .tup ys, S, Q => flatD x = true ∧ ys.all flatD = true ∧ Q (.bl (neg ^^ inF x ys)) S
  | .ref a, S, Q => match S[a]? with
    | some (.lst ys) => (flatD x = true ∧ ys.all flatD = true ∧ Q (.bl (neg ^^ inF x ys)) S) ∨
        ∃ d ds, Pd S x d ∧ Pds S ys ds ∧ SeqAt.shaped d = true ∧ SeqAt.shaped (.list ds) = true ∧ Q (.bl (neg ^^ ds.any fun z => PyData.eqv z d)) S
    | some (.dk _ kvs) => match keyOf x with
      | some k => Q (.bl (neg ^^ (dGet kvs k).isSome)) S
      | none => False
    | _ => False
  | .str y, S, Q => match x with
    | .str z => Q (.bl (neg ^^ !(Builtin.Str.occurrences y z 0 y.length 1).isEmpty)) S
    | _ => False
  | _, _, _ => False
def wpCmp : Cop → D → D → Sto → KD → Prop
  | .eq, x, y, S, Q => wpEq false x y S Q
  | .ne, x, y, S, Q => wpEq true x y S Q
  | .lt, .int i, .int j, S, Q => Q (.bl (decide (i < j))) S
  | .le, .int i, .int j, S, Q => Q (.bl (decide (i ≤ j))) S
  | .gt, .int i, .int j, S, Q => Q (.bl (decide (j < i))) S
  | .ge, .int i, .int j, S, Q => Q (.bl (decide (j ≤ i))) S
  | .isin, x, y, S, Q => wpIn false x y S Q
  | .notin, x, y, S, Q => wpIn true x y S Q
  | .isN, x, .non, S, Q => Q (.bl (match x with | .non => true | _ => false)) S
  | .notN, x, .non, S, Q => Q (.bl (match x with | .non => false | _ => true)) S
  | _, _, _, _, _ => False
def ixO : O → D → Option D
  | .lst xs, .int i => atI xs i
  | .dk _ kvs, y => (keyOf y).bind fun k => dGet kvs k
  | _, _ => none
def wpIx : D → D → Sto → KD → Prop
  | .tup xs, .int i, S, Q => match atI xs i with
    | some v => Q v S
    | none => False
  | .klst xs, .int i, S, Q => match atI xs i with
    | some v => Q v S
    | none => False
  | .ref a, y, S, Q => match S[a]?.bind fun o => ixO o y with
    | some v => Q v S
    | none => False
  | .str x, .int i, S, Q => x.length ≤ sizeLine ∧ match atI x.cps.toList i with
    | some c => Q (.str ⟨#[c]⟩) S
    | none => False
  | _, _, _, _ => False
def wpSl : D → Option Int → Option Int → Sto → KD → Prop
  | .tup xs, lo, hi, S, Q => Q (.tup (cutD xs lo hi)) S
  | .klst xs, lo, hi, S, Q => Q (.ref S.length) (S ++ [.lst (cutD xs lo hi)])
  | .ref a, lo, hi, S, Q => match lstOf S a with
    | some xs => Q (.ref S.length) (S ++ [.lst (cutD xs lo hi)])
    | none => False
  | _, _, _, _, _ => False
/-- the ints, the bools of a list -/
def intsOf : List D → Option (List Int)
  | [] => some []
  | .int i :: r => (intsOf r).map (i :: ·)
  | _ :: _ => none
def blsOf : List D → Option (List Bool)
  | [] => some []
  | .bl i :: r => (blsOf r).map (i :: ·)
  | _ :: _ => none
def wpBlt : Bl → List D → Sto → KD → Prop
  | .len, [.tup xs], S, Q => Q (.int xs.length) S
  | .len, [.klst xs], S, Q => Q (.int xs.length) S
  | .len, [.ref a], S, Q => match S[a]? with
    | some (.lst xs) => Q (.int xs.length) S
    | some (.dk false kvs) => Q (.int kvs.length) S
    | _ => False
  | .dict, [.ref a], S, Q => match dkOf S a with
    | some kvs => Q (.ref S.length) (S ++ [.dk false kvs])
    | none => False
  | .len, [.str x], S, Q => x.length ≤ sizeLine ∧ Q (.int x.length) S
  | .abs, [.int i], S, Q => Q (.int (if i < 0 then -i else i)) S
  | .max, [.int i, .int j], S, Q => Q (.int (if j > i then j else i)) S
  | .min, [.int i, .int j], S, Q => Q (.int (if j < i then j else i)) S
  | .sum, [.ref a], S, Q => match (lstOf S a).bind intsOf with
    | some ns => Q (.int ns.sum) S
    | none => False
  | .any, [.ref a], S, Q => match (lstOf S a).bind blsOf with
    | some bs => Q (.bl (bs.any id)) S
    | none => False
  | .all, [.ref a], S, Q => match (lstOf S a).bind blsOf with
    | some bs => Q (.bl (bs.all id)) S
    | none => False
  | .int, [.int i], S, Q => Q (.int i) S
  | .int, [.bl b], S, Q => Q (.int (if b then 1 else 0)) S
  | .bool, [.int i], S, Q => Q (.bl (i != 0)) S
  | .bool, [.bl b], S, Q => Q (.bl b) S
  | .list, [.tup xs], S, Q => Q (.ref S.length) (S ++ [.lst xs])
  | .list, [.klst xs], S, Q => Q (.ref S.length) (S ++ [.lst xs])
  | .list, [.ref a], S, Q => match lstOf S a with
    | some xs => Q (.ref S.length) (S ++ [.lst xs])
    | none => False
  | .tuple, [.tup xs], S, Q => Q (.tup xs) S
  | .tuple, [.ref a], S, Q => match lstOf S a with
    | some xs => Q (.tup xs) S
    | none => False
  | _, _, _, _ => False
def wpMeth : Mt → D → List D → Sto → KD → Prop
  | .append, .ref a, [y], S, Q => match S[a]? with
    | some (.lst xs) => xs.length < sizeLine ∧ Q .non (S.set a (.lst (xs ++ [y])))
    | _ => False
  | .pop, .ref a, [], S, Q => match S[a]? with
    | some (.lst xs) => match xs[xs.length - 1]? with
      | some y => Q y (S.set a (.lst xs.dropLast))
      | none => False
    | _ => False
  | .popAt, .ref a, [.int i], S, Q => match S[a]? with
    | some (.lst xs) => match ixN xs.length i with
      | some k => match xs[k]? with
        | some y => (-(2 ^ 63) ≤ i ∧ i < 2 ^ 63) ∧ Q y (S.set a (.lst (xs.eraseIdx k)))
        | none => False
      | none => False
    | _ => False
  | .bits, .int i, [], S, Q => Q (.int (Builtin.Int.intBits i : Nat)) S
  | .extend, .ref a, [.ref b], S, Q => match S[a]? with
    | some (.lst xs) => match S[b]? with
      | some (.lst ys) => xs.length + ys.length ≤ sizeLine ∧ Q .non (S.set a (.lst (xs ++ ys)))
      | _ => False
    | _ => False
  | .extend, .ref a, [.tup ys], S, Q => match S[a]? with
    | some (.lst xs) => xs.length + ys.length ≤ sizeLine ∧ Q .non (S.set a (.lst (xs ++ ys)))
    | _ => False
  | _, _, _, _, _ => False
/-- a method's receiver -/
def mtRecv : Mt → D → Sto → Prop
  | .bits, .int _, _ => True
  | .bits, _, _ => False
  | _, .ref a, S => match S[a]? with
    | some (.lst _) => True
    | _ => False
  | _, _, _ => False
def isTy : D → Ty → Sto → Option Bool
  | .int _, t, _ => some (match t with | .int => true | _ => false)
  | .bl _, t, _ => some (match t with | .int => true | .bool => true | _ => false)
  | .str _, t, _ => some (match t with | .str => true | _ => false)
  | .non, t, _ => some false
  | .tup _, t, _ => some (match t with | .tuple => true | _ => false)
  | .klst _, _, _ => none
  | .fn _, _, _ => none
  | .ref a, t, S => match S[a]? with
    | some (.lst _) => some (match t with | .list => true | _ => false)
    | some (.dk _ _) => some (match t with | .dict => true | _ => false)
    | _ => none
def wpRg : List D → Sto → (Int → Int → Sto → Prop) → Prop
  | [.int j], S, Q => Q 0 j S
  | [.int i, .int j], S, Q => Q i j S
  | _, _, _ => False
def RgB (i j : Int) : Prop := (-(2 ^ 62) ≤ i ∧ i < 2 ^ 62) ∧ -(2 ^ 62) ≤ j ∧ j < 2 ^ 62
def wpSet : D → D → D → Sto → (Sto → Prop) → Prop
  | .ref a, .int i, v, S, Q => match S[a]? with
    | some (.lst xs) => match ixN xs.length i with
      | some j => Q (S.set a (.lst (xs.set j v)))
      | none => False
    | some (.dk false kvs) => kvs.length < sizeLine ∧ Q (S.set a (.dk false (dPut kvs (.inl i) v)))
    | _ => False
  | .ref a, .str x, v, S, Q => match S[a]? with
    | some (.dk false kvs) => kvs.length < sizeLine ∧ Q (S.set a (.dk false (dPut kvs (.inr x) v)))
    | _ => False
  | _, _, _, _, _ => False

def isDk : D → Sto → Prop
  | .ref a, S => ∃ kvs, dkOf S a = some kvs
  | _, _ => False
def wpGet : D → D → D → Sto → KD → Prop
  | .ref a, y, z, S, Q => match dkOf S a, keyOf y with
    | some kvs, some k => Q ((dGet kvs k).getD z) S
    | _, _ => False
  | _, _, _, _, _ => False
def putFD (f : Str) (v : D) : List (Str × D) → List (Str × D)
  | [] => [(f, v)]
  | (g, x) :: r => if g = f then (g, v) :: r else (g, x) :: putFD f v r
def wpFld : D → Str → Sto → KD → Prop
  | .ref a, f, S, Q => match S[a]? with
    | some (.ins _ fs) => match fs.lookup f with
      | some v => Q v S
      | none => False
    | _ => False
  | _, _, _, _ => False
def wpPutF : D → Str → D → Sto → (Sto → Prop) → Prop
  | .ref a, f, v, S, Q => match S[a]? with
    | some (.ins c fs) => fs.length < 1000 ∧ Q (S.set a (.ins c (putFD f v fs)))
    | _ => False
  | _, _, _, _, _ => False
/-! ### targets -/
mutual
def asg : Tg → D → Env → Option Env
  | .nm i, v, σ => some (σ.set i (some v))
  | .tp ts, .tup xs, σ => asgs ts xs σ
  | _, _, _ => none
def asgs : List Tg → List D → Env → Option Env
  | [], [], σ => some σ
  | t :: ts, x :: xs, σ => match asg t x σ with
    | some σ' => asgs ts xs σ'
    | none => none
  | _, _, _ => none
end
def wipeE (σ : Env) : List Nat → Env
  | [] => σ
  | v :: vs => (wipeE σ vs).set v none

/-- each with its place -/
def enumD (xs : List D) : List D := xs.zipIdx.map fun x => .tup [.int (x.2 : Nat), x.1]
/-- what is walked stands still -/
def Gd (gs : List (Nat × List D)) (S : Sto) : Prop := ∀ g ∈ gs, lstOf S g.1 = some g.2

/-- a comprehension's turns -/
def wpComp (gs : List (Nat × List D)) (body : D → Sto → (Option D → Sto → Prop) → Prop) : List D → Sto → (List D → Sto → Prop) → Prop
  | [], S, Q => Gd gs S ∧ Q [] S
  | x :: r, S, Q => Gd gs S ∧ body x S fun o S1 => wpComp gs body r S1 fun ys S2 => match o with
    | some y => Q (y :: ys) S2
    | none => Q ys S2

/-! ### expressions -/
mutual
def wpE (c : CallT) : MX → (Ex → Sto → Prop) → Env → Sto → KD → Prop
  | .var i, _, σ, S, Q => match σ[i]? with
    | some (some v) => Q v S
    | _ => False
  | .int i, _, _, S, Q => Q (.int i) S
  | .bl b, _, _, S, Q => Q (.bl b) S
  | .non, _, _, S, Q => Q .non S
  | .str x, _, _, S, Q => Q (.str x) S
  | .tup es, E, σ, S, Q => wpEs c es E σ S fun vs S1 => vs.length ≤ sizeLine ∧ Q (.tup vs) S1
  | .lst es, E, σ, S, Q => wpEs c es E σ S fun vs S1 => vs.length ≤ sizeLine ∧ Q (.ref S1.length) (S1 ++ [.lst vs])
  | .bin op a b, E, σ, S, Q => wpE c a E σ S fun x S1 => wpE c b E σ S1 fun y S2 => wpBin op x y S2 Q
  | .neg a, E, σ, S, Q => wpE c a E σ S fun x S1 => match x with
    | .int i => Q (.int (-i)) S1
    | _ => False
  | .cmp op a b, E, σ, S, Q => wpE c a E σ S fun x S1 => wpE c b E σ S1 fun y S2 => wpCmp op x y S2 Q
  | .chain op op' a b d, E, σ, S, Q => wpE c a E σ S fun x S1 => wpE c b E σ S1 fun y S2 => wpCmp op x y S2 fun r S3 =>
    match r with
    | .bl true => wpE c d E σ S3 fun z S4 => wpCmp op' y z S4 fun r' S5 => match r' with
      | .bl k => Q (.bl k) S5
      | _ => False
    | .bl false => Q (.bl false) S3
    | _ => False
  | .and a b, E, σ, S, Q => wpE c a E σ S fun x S1 => truK S1 x fun k => if k = true then wpE c b E σ S1 Q else Q x S1
  | .or a b, E, σ, S, Q => wpE c a E σ S fun x S1 => truK S1 x fun k => if k = true then Q x S1 else wpE c b E σ S1 Q
  | .not a, E, σ, S, Q => wpE c a E σ S fun x S1 => truK S1 x fun k => Q (.bl (!k)) S1
  | .ite t a b, E, σ, S, Q => wpE c t E σ S fun x S1 => truK S1 x fun k => if k = true then wpE c a E σ S1 Q else wpE c b E σ S1 Q
  | .ix a i, E, σ, S, Q => wpE c a E σ S fun x S1 => wpE c i E σ S1 fun y S2 => wpIx x y S2 Q
  | .sl a lo hi, E, σ, S, Q => wpE c a E σ S fun x S1 => wpO c lo E σ S1 fun l S2 => wpO c hi E σ S2 fun h S3 => wpSl x l h S3 Q
  | .call f es, E, σ, S, Q => wpEs c es E σ S fun vs S1 => c f vs S1 Q E
  | .blt b es, E, σ, S, Q => wpEs c es E σ S fun vs S1 => wpBlt b vs S1 Q
  | .isi a t, E, σ, S, Q => wpE c a E σ S fun x S1 => match isTy x t S1 with
    | some b => Q (.bl b) S1
    | none => False
  | .listRg es, E, σ, S, Q => wpEs c es E σ S fun vs S1 => wpRg vs S1 fun i j S2 => RgOk i j ∧ Q (.ref S2.length) (S2 ++ [.lst (rgD i j)])
  | .tupRg es, E, σ, S, Q => wpEs c es E σ S fun vs S1 => wpRg vs S1 fun i j S2 => RgOk i j ∧ Q (.tup (rgD i j)) S2
  | .meth m o es, E, σ, S, Q => wpE c o E σ S fun x S1 => mtRecv m x S1 ∧ wpEs c es E σ S1 fun vs S2 => wpMeth m x vs S2 Q
  | .comp vs t it ifs elt, E, σ, S, Q => wpI c it E σ S fun xs gs S1 => xs.length ≤ sizeLine ∧
      wpComp gs (fun x S2 K => match asg t x (wipeE σ vs) with
        | some σ2 => wpIfs c ifs (fun _ _ => False) σ2 S2 fun k S3 => if k = true then wpE c elt (fun _ _ => False) σ2 S3 fun y S4 => K (some y) S4 else K none S3
        | none => False) xs S1 fun ys S2 => Q (.ref S2.length) (S2 ++ [.lst ys])
  | .dnew, _, _, S, Q => Q (.ref S.length) (S ++ [.dk false []])
  | .dget o k, E, σ, S, Q => wpE c o E σ S fun x S1 => isDk x S1 ∧ wpE c k E σ S1 fun y S2 => wpGet x y .non S2 Q
  | .dget2 o k z, E, σ, S, Q => wpE c o E σ S fun x S1 => isDk x S1 ∧ wpE c k E σ S1 fun y S2 => wpE c z E σ S2 fun v S3 => wpGet x y v S3 Q
  | .fld o f, E, σ, S, Q => wpE c o E σ S fun x S1 => wpFld x f S1 Q
  | .make cl f es, E, σ, S, Q => wpEs c es E σ S fun vs S1 => c f (.ref S1.length :: vs) (S1 ++ [.ins cl []]) (fun v S2 => v = .non ∧ Q (.ref S1.length) S2) E
  | .fnv x, _, _, S, Q => Q (.fn x) S
  | .orX a b, E, σ, S, Q => wpE c a E σ S Q ∨ wpE c b E σ S Q
  | .keysOf o, E, σ, S, Q => wpE c o E σ S fun x S1 => match x with
    | .ref a => match S1[a]? with
      | some (.dk false kvs) => Q (.ref S1.length) (S1 ++ [.lst (kvs.map fun kv => keyD kv.1)])
      | _ => False
    | _ => False
  | .compD vs t i ifs elt, E, σ, S, Q => match σ[i]? with
    | some (some (.ref a)) => match S[a]? with
      | some (.dk false kvs) => kvs.length ≤ sizeLine ∧ wpComp [] (fun x S2 K => match asg t x (wipeE σ vs) with
        | some σ2 => wpIfs c ifs (fun _ _ => False) σ2 S2 fun k S3 => if k = true then wpE c elt (fun _ _ => False) σ2 S3 fun y S4 => K (some y) S4 else K none S3
        | none => False) (kvs.map fun kv => keyD kv.1) (S.set a (.dk true kvs)) fun ys S2 => S2[a]? = some (.dk true kvs) ∧ Q (.ref S2.length) (S2.set a (.dk false kvs) ++ [.lst ys])
      | _ => False
    | _ => False
  | .callv i fs es, E, σ, S, Q => match σ[i]? with
    | some (some (.fn x)) => match fs.lookup x with
      | some f => wpEs c es E σ S fun vs S1 => c f vs S1 Q E
      | none => False
    | _ => False
def wpEs (c : CallT) : MXs → (Ex → Sto → Prop) → Env → Sto → (List D → Sto → Prop) → Prop
  | .nil, _, _, S, Q => Q [] S
  | .cons e es, E, σ, S, Q => wpE c e E σ S fun x S1 => wpEs c es E σ S1 fun xs S2 => Q (x :: xs) S2
def wpO (c : CallT) : MXo → (Ex → Sto → Prop) → Env → Sto → (Option Int → Sto → Prop) → Prop
  | .no, _, _, S, Q => Q none S
  | .so e, E, σ, S, Q => wpE c e E σ S fun x S1 => match x with
    | .int i => Q (some i) S1
    | _ => False
/-- a clause's tests -/
def wpIfs (c : CallT) : MXs → (Ex → Sto → Prop) → Env → Sto → (Bool → Sto → Prop) → Prop
  | .nil, _, _, S, Q => Q true S
  | .cons e es, E, σ, S, Q => wpE c e E σ S fun x S1 => truK S1 x fun k => if k = true then wpIfs c es E σ S1 Q else Q false S1
def wpI (c : CallT) : MI → (Ex → Sto → Prop) → Env → Sto → (List D → List (Nat × List D) → Sto → Prop) → Prop
  | .seq e, E, σ, S, Q => wpE c e E σ S fun x S1 => match x with
    | .tup xs => Q xs [] S1
    | .klst xs => Q xs [] S1
    | .ref a => match lstOf S1 a with
      | some xs => Q xs [(a, xs)] S1
      | none => False
    | _ => False
  | .rng es, E, σ, S, Q => wpEs c es E σ S fun vs S1 => wpRg vs S1 fun i j S2 => RgB i j ∧ Q (rgD i j) [] S2
  | .enum e, E, σ, S, Q => wpE c e E σ S fun x S1 => match x with
    | .tup xs => Q (enumD xs) [] S1
    | .ref a => match lstOf S1 a with
      | some xs => Q (enumD xs) [(a, xs)] S1
      | none => False
    | _ => False
end

/-! ### statements -/
structure Ends where
  nx : Env → Sto → Prop
  rt : KD
  bk : Env → Sto → Prop
  ct : Env → Sto → Prop
  ex : Ex → Env → Sto → Prop
/-- a loop's turns over items -/
def wpFor (gs : List (Nat × List D)) (body : D → Env → Sto → (Env → Sto → Prop) → Prop) (nx : Env → Sto → Prop) : List D → Env → Sto → Prop
  | [], σ, S => Gd gs S ∧ nx σ S
  | x :: r, σ, S => Gd gs S ∧ body x σ S (wpFor gs body nx r)
def wpLt (c : CallT) : Lt → (Ex → Sto → Prop) → D → Env → Sto → (Env → Sto → Prop) → Prop
  | .tg t, _, v, σ, S, Q => match asg t v σ with
    | some σ' => Q σ' S
    | none => False
  | .ix o i, E, v, σ, S, Q => wpE c o E σ S fun x S1 => wpE c i E σ S1 fun y S2 => wpSet x y v S2 fun S3 => Q σ S3
  | .fld o f, E, v, σ, S, Q => wpE c o E σ S fun x S1 => wpPutF x f v S1 fun S2 => Q σ S2
mutual
def wpS (c : CallT) : MS → Ends → Env → Sto → Prop
  | .asg t e, D, σ, S => wpE c e (fun x S' => D.ex x σ S') σ S fun v S1 => wpLt c t (fun x S' => D.ex x σ S') v σ S1 D.nx
  | .ex e, D, σ, S => wpE c e (fun x S' => D.ex x σ S') σ S fun _ S1 => D.nx σ S1
  | .iff t a b, D, σ, S => wpE c t (fun x S' => D.ex x σ S') σ S fun v S1 => truK S1 v fun k => if k = true then wpSs c a D σ S1 else wpSs c b D σ S1
  | .whl t b, D, σ, S => ∃ W : Nat → Env → Sto → Prop, (∃ m, W m σ S) ∧ ∀ m σ S, W m σ S →
      wpE c t (fun x S' => D.ex x σ S') σ S fun v S1 => truK S1 v fun k => if k = true then
        wpSs c b { D with nx := fun σ' S' => ∃ m', m' < m ∧ W m' σ' S', ct := fun σ' S' => ∃ m', m' < m ∧ W m' σ' S', bk := D.nx } σ S1 else D.nx σ S1
  | .for_ t it b, D, σ, S => wpI c it (fun x S' => D.ex x σ S') σ S fun xs gs S1 =>
      wpFor gs (fun x σ2 S2 K => match asg t x σ2 with
        | some σ3 => wpSs c b { D with nx := K, ct := K, bk := D.nx } σ3 S2
        | none => False) D.nx xs σ S1
  | .ret e, D, σ, S => wpE c e (fun x S' => D.ex x σ S') σ S D.rt
  | .ret0, D, _, S => D.rt .non S
  | .brk, D, σ, S => D.bk σ S
  | .cnt, D, σ, S => D.ct σ S
  | .pas, D, σ, S => D.nx σ S
def wpSs (c : CallT) : MSs → Ends → Env → Sto → Prop
  | .nil, D, σ, S => D.nx σ S
  | .cons s ss, D, σ, S => wpS c s { D with nx := fun σ' S' => wpSs c ss D σ' S' } σ S
end

/-! ### defs -/
structure Fn where
  n : Nat
  ps : Nat
  body : MSs
abbrev Prog := List Fn
def startE (n : Nat) (args : List D) : Env := args.map some ++ List.replicate (n - args.length) none
def callM (Pg : Prog) : Nat → CallT
  | 0 => fun _ _ _ _ _ => False
  | k + 1 => fun f args S Q E => match Pg[f]? with
    | some fn => args.length = fn.ps ∧ wpSs (callM Pg k) fn.body ⟨fun _ S' => Q .non S', Q, fun _ _ => False, fun _ _ => False, fun x _ S' => E x S'⟩ (startE fn.n args) S
    | none => False

/-! ### a weaker end -/
theorem truK_mono {S : Sto} {v : D} {K K' : Bool → Prop} (h : truK S v K) (m : ∀ k, K k → K' k) : truK S v K' := by
  unfold truK at *
  split at h
  · exact m _ h
  · exact h
theorem wpBin_mono {op : Bop} {x y : D} {S : Sto} {Q Q' : KD} (h : wpBin op x y S Q) (m : ∀ v S, Q v S → Q' v S) : wpBin op x y S Q' := by
  unfold wpBin at *
  split at h <;> first | exact m _ _ h | exact ⟨h.1, m _ _ h.2⟩ | exact h | (split at h <;> first | exact ⟨h.1, m _ _ h.2⟩ | exact h | (split <;> first | contradiction | exact ⟨h.1, m _ _ h.2⟩ | exact m _ _ h))
theorem wpEq_mono {n : Bool} {x y : D} {S : Sto} {Q Q' : KD} (h : wpEq n x y S Q) (m : ∀ v S, Q v S → Q' v S) : wpEq n x y S Q' := by
  unfold wpEq at *
  split at h <;> first | exact m _ _ h | (rcases h with ⟨d, e, a, b, c, f, q⟩ | ⟨a, b, kvs, h1, h2, h3, h4, h5, h6, q⟩; exact .inl ⟨d, e, a, b, c, f, m _ _ q⟩; exact .inr ⟨a, b, kvs, h1, h2, h3, h4, h5, h6, m _ _ q⟩)
theorem wpIn_mono {n : Bool} {x y : D} {S : Sto} {Q Q' : KD} (h : wpIn n x y S Q) (m : ∀ v S, Q v S → Q' v S) : wpIn n x y S Q' := by
  unfold wpIn at *
  split at h
  · exact ⟨h.1, h.2.1, m _ _ h.2.2⟩
  · split at h
    · rcases h with h | ⟨d, e, a, b, c, f, q⟩
      · exact .inl ⟨h.1, h.2.1, m _ _ h.2.2⟩
      · exact .inr ⟨d, e, a, b, c, f, m _ _ q⟩
    · split at h
      · exact m _ _ h
      · exact h
    · exact h
  · split at h
    · exact m _ _ h
    · exact h
  · exact h
theorem wpFld_mono {x : D} {f : Str} {S : Sto} {Q Q' : KD} (h : wpFld x f S Q) (m : ∀ v S, Q v S → Q' v S) : wpFld x f S Q' := by
  unfold wpFld at *
  split at h
  · split at h
    · split at h
      · exact m _ _ h
      · exact h
    · exact h
  · exact h
theorem wpPutF_mono {x v : D} {f : Str} {S : Sto} {Q Q' : Sto → Prop} (h : wpPutF x f v S Q) (m : ∀ S, Q S → Q' S) : wpPutF x f v S Q' := by
  unfold wpPutF at *
  split at h
  · split at h
    · exact ⟨h.1, m _ h.2⟩
    · exact h
  · exact h
theorem wpGet_mono {x y z : D} {S : Sto} {Q Q' : KD} (h : wpGet x y z S Q) (m : ∀ v S, Q v S → Q' v S) : wpGet x y z S Q' := by
  unfold wpGet at *
  split at h
  · split at h
    · exact m _ _ h
    · exact h
  · exact h
theorem wpCmp_mono {op : Cop} {x y : D} {S : Sto} {Q Q' : KD} (h : wpCmp op x y S Q) (m : ∀ v S, Q v S → Q' v S) : wpCmp op x y S Q' := by
  unfold wpCmp at *
  split at h <;> first | exact m _ _ h | exact wpEq_mono h m | exact wpIn_mono h m | exact h
theorem wpIx_mono {x y : D} {S : Sto} {Q Q' : KD} (h : wpIx x y S Q) (m : ∀ v S, Q v S → Q' v S) : wpIx x y S Q' := by
  unfold wpIx at *
  split at h
  · split at h
    · exact m _ _ h
    · exact h
  · split at h
    · exact m _ _ h
    · exact h
  · split at h
    · exact m _ _ h
    · exact h
  · refine ⟨h.1, ?_⟩
    have h2 := h.2
    split at h2
    · exact m _ _ h2
    · exact h2
  · exact h
theorem wpSl_mono {x : D} {lo hi : Option Int} {S : Sto} {Q Q' : KD} (h : wpSl x lo hi S Q) (m : ∀ v S, Q v S → Q' v S) : wpSl x lo hi S Q' := by
  unfold wpSl at *
  split at h <;> first | exact m _ _ h | exact h | (split at h <;> first | exact m _ _ h | exact h)
theorem wpBlt_mono {b : Bl} {xs : List D} {S : Sto} {Q Q' : KD} (h : wpBlt b xs S Q) (m : ∀ v S, Q v S → Q' v S) : wpBlt b xs S Q' := by
  unfold wpBlt at *
  split at h <;> first | exact m _ _ h | exact ⟨h.1, m _ _ h.2⟩ | exact h | (split at h <;> first | exact m _ _ h | exact h)
theorem wpMeth_mono {mt : Mt} {x : D} {xs : List D} {S : Sto} {Q Q' : KD} (h : wpMeth mt x xs S Q) (m : ∀ v S, Q v S → Q' v S) : wpMeth mt x xs S Q' := by
  unfold wpMeth at *
  split at h
  · split at h
    · exact ⟨h.1, m _ _ h.2⟩
    · exact h
  · split at h
    · split at h
      · exact m _ _ h
      · exact h
    · exact h
  · split at h
    · split at h
      · split at h
        · exact ⟨h.1, m _ _ h.2⟩
        · exact h
      · exact h
    · exact h
  · exact m _ _ h
  · split at h
    · split at h
      · exact ⟨h.1, m _ _ h.2⟩
      · exact h
    · exact h
  · split at h
    · exact ⟨h.1, m _ _ h.2⟩
    · exact h
  · exact h
theorem wpRg_mono {xs : List D} {S : Sto} {Q Q' : Int → Int → Sto → Prop} (h : wpRg xs S Q) (m : ∀ i j S, Q i j S → Q' i j S) : wpRg xs S Q' := by
  unfold wpRg at *
  split at h <;> first | exact m _ _ _ h | exact h
theorem wpSet_mono {o i v : D} {S : Sto} {Q Q' : Sto → Prop} (h : wpSet o i v S Q) (m : ∀ S, Q S → Q' S) : wpSet o i v S Q' := by
  unfold wpSet at *
  split at h
  · split at h
    · split at h
      · exact m _ h
      · exact h
    · exact ⟨h.1, m _ h.2⟩
    · exact h
  · split at h
    · exact ⟨h.1, m _ h.2⟩
    · exact h
  · exact h
theorem wpComp_mono {gs : List (Nat × List D)} {body body' : D → Sto → (Option D → Sto → Prop) → Prop} (mb : ∀ x S K K', body x S K → (∀ o S, K o S → K' o S) → body' x S K') :
    ∀ {xs : List D} {S : Sto} {Q Q' : List D → Sto → Prop}, wpComp gs body xs S Q → (∀ v S, Q v S → Q' v S) → wpComp gs body' xs S Q'
  | [], _, _, _, h, m => ⟨h.1, m _ _ h.2⟩
  | x :: r, _, _, _, h, m => ⟨h.1, mb _ _ _ _ h.2 fun o S1 h1 => wpComp_mono mb h1 fun ys S2 q => by
      cases o with
      | none => exact m _ _ q
      | some y => exact m _ _ q⟩
theorem wpFor_mono {gs : List (Nat × List D)} {body body' : D → Env → Sto → (Env → Sto → Prop) → Prop} (mb : ∀ x σ S K K', body x σ S K → (∀ σ S, K σ S → K' σ S) → body' x σ S K') {nx nx' : Env → Sto → Prop} (m : ∀ σ S, nx σ S → nx' σ S) :
    ∀ {xs : List D} {σ : Env} {S : Sto}, wpFor gs body nx xs σ S → wpFor gs body' nx' xs σ S
  | [], _, _, h => ⟨h.1, m _ _ h.2⟩
  | x :: r, _, _, h => ⟨h.1, mb _ _ _ _ _ h.2 fun σ S q => wpFor_mono mb m q⟩
/-- a def's wish, weaker -/
def CallMono (c c' : CallT) : Prop := ∀ f vs S Q Q' E E', c f vs S Q E → (∀ v S, Q v S → Q' v S) → (∀ x S, E x S → E' x S) → c' f vs S Q' E'
section
variable {c c' : CallT} (hc : CallMono c c')
include hc
mutual
theorem wpE_mono : ∀ (x : MX) {E E' : Ex → Sto → Prop} {σ : Env} {S : Sto} {Q Q' : KD}, wpE c x E σ S Q → (∀ v S, Q v S → Q' v S) → (∀ x S, E x S → E' x S) → wpE c' x E' σ S Q'
  | .var i, _, _, σ, S, Q, Q', h, m, e => by
    unfold wpE at *
    split at h
    · exact m _ _ h
    · exact h
  | .int i, _, _, σ, S, Q, Q', h, m, e => by unfold wpE at *; exact m _ _ h
  | .bl i, _, _, σ, S, Q, Q', h, m, e => by unfold wpE at *; exact m _ _ h
  | .non, _, _, σ, S, Q, Q', h, m, e => by unfold wpE at *; exact m _ _ h
  | .str i, _, _, σ, S, Q, Q', h, m, e => by unfold wpE at *; exact m _ _ h
  | .tup es, _, _, σ, S, Q, Q', h, m, e => by
    unfold wpE at *
    exact wpEs_mono es h (fun vs S1 q => ⟨q.1, m _ _ q.2⟩) e
  | .lst es, _, _, σ, S, Q, Q', h, m, e => by
    unfold wpE at *
    exact wpEs_mono es h (fun vs S1 q => ⟨q.1, m _ _ q.2⟩) e
  | .bin op a b, _, _, σ, S, Q, Q', h, m, e => by
    unfold wpE at *
    exact wpE_mono a h (fun v S1 q => wpE_mono b q (fun u S2 q => wpBin_mono q m) e) e
  | .neg a, _, _, σ, S, Q, Q', h, m, e => by
    unfold wpE at *
    refine wpE_mono a h (fun v S1 q => ?_) e
    cases v <;> first | exact m _ _ q | exact q
  | .cmp op a b, _, _, σ, S, Q, Q', h, m, e => by
    unfold wpE at *
    exact wpE_mono a h (fun v S1 q => wpE_mono b q (fun u S2 q => wpCmp_mono q m) e) e
  | .chain op op' a b d, _, _, σ, S, Q, Q', h, m, e => by
    unfold wpE at *
    refine wpE_mono a h (fun v S1 q => wpE_mono b q (fun u S2 q => wpCmp_mono q fun r S3 q => ?_) e) e
    split at q
    · refine wpE_mono d q (fun z S4 q => wpCmp_mono q fun r' S5 q => ?_) e
      split at q
      · exact m _ _ q
      · exact q
    · exact m _ _ q
    · exact q
  | .and a b, _, _, σ, S, Q, Q', h, m, e => by
    unfold wpE at *
    refine wpE_mono a h (fun v S1 q => truK_mono q fun k q => ?_) e
    cases k with
    | true => exact wpE_mono b q m e
    | false => exact m _ _ q
  | .or a b, _, _, σ, S, Q, Q', h, m, e => by
    unfold wpE at *
    refine wpE_mono a h (fun v S1 q => truK_mono q fun k q => ?_) e
    cases k with
    | false => exact wpE_mono b q m e
    | true => exact m _ _ q
  | .not a, _, _, σ, S, Q, Q', h, m, e => by
    unfold wpE at *
    exact wpE_mono a h (fun v S1 q => truK_mono q fun k q => m _ _ q) e
  | .ite t a b, _, _, σ, S, Q, Q', h, m, e => by
    unfold wpE at *
    refine wpE_mono t h (fun v S1 q => truK_mono q fun k q => ?_) e
    cases k with
    | true => exact wpE_mono a q m e
    | false => exact wpE_mono b q m e
  | .ix a i, _, _, σ, S, Q, Q', h, m, e => by
    unfold wpE at *
    exact wpE_mono a h (fun v S1 q => wpE_mono i q (fun u S2 q => wpIx_mono q m) e) e
  | .sl a lo hi, _, _, σ, S, Q, Q', h, m, e => by
    unfold wpE at *
    exact wpE_mono a h (fun v S1 q => wpO_mono lo q (fun l S2 q => wpO_mono hi q (fun u S3 q => wpSl_mono q m) e) e) e
  | .call f es, _, _, σ, S, Q, Q', h, m, e => by
    unfold wpE at *
    exact wpEs_mono es h (fun vs S1 q => hc _ _ _ _ _ _ _ q m e) e
  | .blt b es, _, _, σ, S, Q, Q', h, m, e => by
    unfold wpE at *
    exact wpEs_mono es h (fun vs S1 q => wpBlt_mono q m) e
  | .isi a t, _, _, σ, S, Q, Q', h, m, e => by
    unfold wpE at *
    refine wpE_mono a h (fun v S1 q => ?_) e
    split at q
    · exact m _ _ q
    · exact q
  | .listRg es, _, _, σ, S, Q, Q', h, m, e => by
    unfold wpE at *
    exact wpEs_mono es h (fun vs S1 q => wpRg_mono q fun i j S2 q => ⟨q.1, m _ _ q.2⟩) e
  | .tupRg es, _, _, σ, S, Q, Q', h, m, e => by
    unfold wpE at *
    exact wpEs_mono es h (fun vs S1 q => wpRg_mono q fun i j S2 q => ⟨q.1, m _ _ q.2⟩) e
  | .meth mt o es, _, _, σ, S, Q, Q', h, m, e => by
    unfold wpE at *
    exact wpE_mono o h (fun v S1 q => ⟨q.1, wpEs_mono es q.2 (fun vs S2 q => wpMeth_mono q m) e⟩) e
  | .comp vs t it ifs elt, _, _, σ, S, Q, Q', h, m, e => by
    unfold wpE at *
    refine wpI_mono it h (fun xs gs S1 q => ⟨q.1, wpComp_mono (fun x S2 K K' q mk => ?_) q.2 fun ys S2 q => m _ _ q⟩) e
    split at q
    · refine wpIfs_mono ifs q (fun k S3 q => ?_) (fun _ _ z => z)
      cases k with
      | true => exact wpE_mono elt q (fun y S4 q => mk _ _ q) (fun _ _ z => z)
      | false => exact mk _ _ q
    · exact q
  | .dnew, _, _, σ, S, Q, Q', h, m, e => by unfold wpE at *; exact m _ _ h
  | .fld o f, _, _, σ, S, Q, Q', h, m, e => by
    unfold wpE at *
    exact wpE_mono o h (fun v S1 q => wpFld_mono q m) e
  | .make cl f es, _, _, σ, S, Q, Q', h, m, e => by
    unfold wpE at *
    exact wpEs_mono es h (fun vs S1 q => hc _ _ _ _ _ _ _ q (fun v S2 q => ⟨q.1, m _ _ q.2⟩) e) e
  | .fnv x, _, _, σ, S, Q, Q', h, m, e => by unfold wpE at *; exact m _ _ h
  | .orX a b, _, _, σ, S, Q, Q', h, m, e => by
    unfold wpE at *
    rcases h with h | h
    · exact .inl (wpE_mono a h m e)
    · exact .inr (wpE_mono b h m e)
  | .keysOf o, _, _, σ, S, Q, Q', h, m, e => by
    unfold wpE at *
    refine wpE_mono o h (fun v S1 q => ?_) e
    split at q
    · split at q
      · exact m _ _ q
      · exact q
    · exact q
  | .compD vs t i ifs elt, _, _, σ, S, Q, Q', h, m, e => by
    unfold wpE at *
    split at h
    · split at h
      · refine ⟨h.1, wpComp_mono (fun x S2 K K' q mk => ?_) h.2 fun ys S2 q => ⟨q.1, m _ _ q.2⟩⟩
        split at q
        · refine wpIfs_mono ifs q (fun k S3 q => ?_) (fun _ _ z => z)
          cases k with
          | true => exact wpE_mono elt q (fun y S4 q => mk _ _ q) (fun _ _ z => z)
          | false => exact mk _ _ q
        · exact q
      · exact h
    · exact h
  | .callv i fs es, _, _, σ, S, Q, Q', h, m, e => by
    unfold wpE at *
    split at h
    · split at h
      · exact wpEs_mono es h (fun vs S1 q => hc _ _ _ _ _ _ _ q m e) e
      · exact h
    · exact h
  | .dget o k, _, _, σ, S, Q, Q', h, m, e => by
    unfold wpE at *
    exact wpE_mono o h (fun v S1 q => ⟨q.1, wpE_mono k q.2 (fun u S2 q => wpGet_mono q m) e⟩) e
  | .dget2 o k x, _, _, σ, S, Q, Q', h, m, e => by
    unfold wpE at *
    exact wpE_mono o h (fun v S1 q => ⟨q.1, wpE_mono k q.2 (fun u S2 q => wpE_mono x q (fun w S3 q => wpGet_mono q m) e) e⟩) e
theorem wpEs_mono : ∀ (es : MXs) {E E' : Ex → Sto → Prop} {σ : Env} {S : Sto} {Q Q' : List D → Sto → Prop}, wpEs c es E σ S Q → (∀ v S, Q v S → Q' v S) → (∀ x S, E x S → E' x S) → wpEs c' es E' σ S Q'
  | .nil, _, _, σ, S, Q, Q', h, m, e => by unfold wpEs at *; exact m _ _ h
  | .cons x xs, _, _, σ, S, Q, Q', h, m, e => by
    unfold wpEs at *
    exact wpE_mono x h (fun v S1 q => wpEs_mono xs q (fun vs S2 q => m _ _ q) e) e
theorem wpO_mono : ∀ (o : MXo) {E E' : Ex → Sto → Prop} {σ : Env} {S : Sto} {Q Q' : Option Int → Sto → Prop}, wpO c o E σ S Q → (∀ v S, Q v S → Q' v S) → (∀ x S, E x S → E' x S) → wpO c' o E' σ S Q'
  | .no, _, _, σ, S, Q, Q', h, m, e => by unfold wpO at *; exact m _ _ h
  | .so x, _, _, σ, S, Q, Q', h, m, e => by
    unfold wpO at *
    refine wpE_mono x h (fun v S1 q => ?_) e
    cases v <;> first | exact m _ _ q | exact q
theorem wpIfs_mono : ∀ (es : MXs) {E E' : Ex → Sto → Prop} {σ : Env} {S : Sto} {Q Q' : Bool → Sto → Prop}, wpIfs c es E σ S Q → (∀ v S, Q v S → Q' v S) → (∀ x S, E x S → E' x S) → wpIfs c' es E' σ S Q'
  | .nil, _, _, σ, S, Q, Q', h, m, e => by unfold wpIfs at *; exact m _ _ h
  | .cons x xs, _, _, σ, S, Q, Q', h, m, e => by
    unfold wpIfs at *
    refine wpE_mono x h (fun v S1 q => truK_mono q fun k q => ?_) e
    cases k with
    | true => exact wpIfs_mono xs q m e
    | false => exact m _ _ q
theorem wpI_mono : ∀ (it : MI) {E E' : Ex → Sto → Prop} {σ : Env} {S : Sto} {Q Q' : List D → List (Nat × List D) → Sto → Prop}, wpI c it E σ S Q → (∀ v g S, Q v g S → Q' v g S) → (∀ x S, E x S → E' x S) → wpI c' it E' σ S Q'
  | .seq x, _, _, σ, S, Q, Q', h, m, e => by
    unfold wpI at *
    refine wpE_mono x h (fun v S1 q => ?_) e
    split at q
    · exact m _ _ _ q
    · exact m _ _ _ q
    · split at q
      · exact m _ _ _ q
      · exact q
    · exact q
  | .rng es, _, _, σ, S, Q, Q', h, m, e => by
    unfold wpI at *
    exact wpEs_mono es h (fun vs S1 q => wpRg_mono q fun i j S2 q => ⟨q.1, m _ _ _ q.2⟩) e
  | .enum x, _, _, σ, S, Q, Q', h, m, e => by
    unfold wpI at *
    refine wpE_mono x h (fun v S1 q => ?_) e
    split at q
    · exact m _ _ _ q
    · split at q
      · exact m _ _ _ q
      · exact q
    · exact q
end
/-- ends that ask less -/
structure EndsLe (D D' : Ends) : Prop where
  nx : ∀ σ S, D.nx σ S → D'.nx σ S
  rt : ∀ v S, D.rt v S → D'.rt v S
  bk : ∀ σ S, D.bk σ S → D'.bk σ S
  ct : ∀ σ S, D.ct σ S → D'.ct σ S
  ex : ∀ x σ S, D.ex x σ S → D'.ex x σ S
theorem wpLt_mono (t : Lt) {E E' : Ex → Sto → Prop} {v : D} {σ : Env} {S : Sto} {Q Q' : Env → Sto → Prop} (h : wpLt c t E v σ S Q) (m : ∀ v S, Q v S → Q' v S) (e : ∀ x S, E x S → E' x S) : wpLt c' t E' v σ S Q' := by
  cases t with
  | tg t =>
    have h1 : (match asg t v σ with | some σ' => Q σ' S | none => False) := h
    show (match asg t v σ with | some σ' => Q' σ' S | none => False)
    cases ha : asg t v σ with
    | none => rw [ha] at h1; exact h1
    | some σ' => rw [ha] at h1; exact m _ _ h1
  | ix o i =>
    have h1 : wpE c o E σ S fun x S1 => wpE c i E σ S1 fun y S2 => wpSet x y v S2 fun S3 => Q σ S3 := h
    show wpE c' o E' σ S fun x S1 => wpE c' i E' σ S1 fun y S2 => wpSet x y v S2 fun S3 => Q' σ S3
    exact wpE_mono hc o h1 (fun x S1 q => wpE_mono hc i q (fun y S2 q => wpSet_mono q fun S3 q => m _ _ q) e) e
  | fld o f =>
    have h1 : wpE c o E σ S fun x S1 => wpPutF x f v S1 fun S2 => Q σ S2 := h
    show wpE c' o E' σ S fun x S1 => wpPutF x f v S1 fun S2 => Q' σ S2
    exact wpE_mono hc o h1 (fun x S1 q => wpPutF_mono q fun S3 q => m _ _ q) e
mutual
theorem wpS_mono : ∀ (s : MS) {D D' : Ends} {σ : Env} {S : Sto}, wpS c s D σ S → EndsLe D D' → wpS c' s D' σ S
  | .asg t e, D, D', σ, S, h, m => by
    unfold wpS at *
    exact wpE_mono hc e h (fun v S1 q => wpLt_mono hc t q m.nx fun x S => m.ex x σ S) fun x S => m.ex x σ S
  | .ex e, D, D', σ, S, h, m => by
    unfold wpS at *
    exact wpE_mono hc e h (fun v S1 q => m.nx _ _ q) fun x S => m.ex x σ S
  | .iff t a b, D, D', σ, S, h, m => by
    unfold wpS at *
    refine wpE_mono hc t h (fun v S1 q => truK_mono q fun k q => ?_) fun x S => m.ex x σ S
    cases k with
    | true => exact wpSs_mono a q m
    | false => exact wpSs_mono b q m
  | .whl t b, D, D', σ, S, h, m => by
    unfold wpS at *
    obtain ⟨W, w0, h⟩ := h
    refine ⟨W, w0, fun n σ S w => ?_⟩
    refine wpE_mono hc t (h n σ S w) (fun v S1 q => truK_mono q fun k q => ?_) fun x S => m.ex x σ S
    cases k with
    | true => exact wpSs_mono b q ⟨fun _ _ z => z, m.rt, m.nx, fun _ _ z => z, m.ex⟩
    | false => exact m.nx _ _ q
  | .for_ t it b, D, D', σ, S, h, m => by
    unfold wpS at *
    refine wpI_mono hc it h (fun xs gs S1 q => wpFor_mono (fun x σ2 S2 K K' q mk => ?_) m.nx q) fun x S => m.ex x σ S
    split at q
    · exact wpSs_mono b q ⟨mk, m.rt, m.nx, mk, m.ex⟩
    · exact q
  | .ret e, D, D', σ, S, h, m => by
    unfold wpS at *
    exact wpE_mono hc e h m.rt fun x S => m.ex x σ S
  | .ret0, D, D', σ, S, h, m => by unfold wpS at *; exact m.rt _ _ h
  | .brk, D, D', σ, S, h, m => by unfold wpS at *; exact m.bk _ _ h
  | .cnt, D, D', σ, S, h, m => by unfold wpS at *; exact m.ct _ _ h
  | .pas, D, D', σ, S, h, m => by unfold wpS at *; exact m.nx _ _ h
theorem wpSs_mono : ∀ (ss : MSs) {D D' : Ends} {σ : Env} {S : Sto}, wpSs c ss D σ S → EndsLe D D' → wpSs c' ss D' σ S
  | .nil, D, D', σ, S, h, m => by unfold wpSs at *; exact m.nx _ _ h
  | .cons s ss, D, D', σ, S, h, m => by
    unfold wpSs at *
    exact wpS_mono s h ⟨fun σ' S' q => wpSs_mono ss q m, m.rt, m.bk, m.ct, m.ex⟩
end
end
theorem callM_mono (Pg : Prog) : ∀ k, CallMono (callM Pg k) (callM Pg k)
  | 0 => fun _ _ _ _ _ _ _ h _ _ => h
  | k + 1 => fun f vs S Q Q' E E' h m e => by
    unfold callM at *
    cases hf : Pg[f]? with
    | none => simp only [hf] at h
    | some fn =>
      simp only [hf] at h ⊢
      exact ⟨h.1, wpSs_mono (callM_mono Pg k) _ h.2 ⟨fun _ S q => m _ S q, m, fun _ _ z => z, fun _ _ z => z, fun x _ S q => e x S q⟩⟩
end MP
/-! MPRel: how the small reading stands to the hand layer's abstract heap; operators. -/
namespace MP
open PySem PySem.Spec PyProof.Rows L2

/-- a list that nobody writes: known, or of the written part -/
def SqF (K : PySem.W.Frag) (H : Hp) (a : Addr) (xs : List V) : Prop :=
  (∃ o, H a = some (.frz o (.lst xs))) ∨ ∃ (o : Obj) (its : Array Value) (n : Nat), K.lookup a = some o ∧ o.cls = .type "list" ∧ o.dict = none ∧ o.data = .seq its n ∧ its.size ≤ sizeLine ∧ Vals xs its.toList
theorem SqF.l {K : PySem.W.Frag} {H : Hp} {a : Addr} {xs : List V} (h : SqF K H a xs) : SqL K H a xs := by
  rcases h with ⟨o, h⟩ | h
  · exact .inl (.inr ⟨o, h⟩)
  · exact .inr h
/-- classes by number: where the class stands, an exception's field -/
abbrev Tbl := Nat → Option (Addr × Option Str)
section
variable (T : Tbl) (K : PySem.W.Frag)
mutual
inductive RD (ρ : Nat → Addr) (n : Nat) (H : Hp) : D → V → Prop
  | non : RD ρ n H .non .non
  | bl (b : Bool) : RD ρ n H (.bl b) (.bl b)
  | int (i : Int) : RD ρ n H (.int i) (.int i)
  | str (x : Str) : RD ρ n H (.str x) (.str x)
  | tup {xs : List D} {p : Addr} {vs : List V} : SqT K H p vs → RDs ρ n H xs vs → RD ρ n H (.tup xs) (.ref p)
  | ref {a : Nat} : a < n → RD ρ n H (.ref a) (.ref (ρ a))
  | klst {xs : List D} {p : Addr} {vs : List V} : SqF K H p vs → RDs ρ n H xs vs → RD ρ n H (.klst xs) (.ref p)
  | fn {x : Str} {p : Addr} : PySem.W.nsIn K mainGlobals x = some (some (.ref p)) → RD ρ n H (.fn x) (.ref p)
inductive RDs (ρ : Nat → Addr) (n : Nat) (H : Hp) : List D → List V → Prop
  | nil : RDs ρ n H [] []
  | cons {x : D} {xs : List D} {v : V} {vs : List V} : RD ρ n H x v → RDs ρ n H xs vs → RDs ρ n H (x :: xs) (v :: vs)
end
/-- later: more is laid, tuples stay -/
structure Ext (ρ : Nat → Addr) (n : Nat) (H : Hp) (ρ' : Nat → Addr) (n' : Nat) (H' : Hp) : Prop where
  le : n ≤ n'
  ag : ∀ a, a < n → ρ' a = ρ a
  tp : ∀ p xs, SqT K H p xs → SqT K H' p xs
  fz : ∀ p xs, SqF K H p xs → SqF K H' p xs
  fr : ∀ p o, H p = some o → (∀ a, a < n → ρ a ≠ p) → H' p = some o
  nw : ∀ a, n ≤ a → a < n' → H (ρ' a) = none
  th : ∀ p, H' p = none → H p = none
  ow : ∀ p q, H p = some (.own q) → H' p = some (.own q)
  fk : ∀ p o vs, H p = some (.frz o (.dK vs)) → H' p = some (.frz o (.dK vs))
def RO (ρ : Nat → Addr) (n : Nat) (H : Hp) : O → Addr → Prop
  | .lst xs, p => ∃ vs, H p = some (.lst vs) ∧ RDs K ρ n H xs vs
  | .dk false kvs, p => ∃ vs : List (Key × V), H p = some (.dK vs) ∧ kvs.map Prod.fst = vs.map Prod.fst ∧ RDs K ρ n H (kvs.map Prod.snd) (vs.map Prod.snd)
  | .dk true kvs, p => ∃ (o : Obj) (vs : List (Key × V)), H p = some (.frz o (.dK vs)) ∧ kvs.map Prod.fst = vs.map Prod.fst ∧ RDs K ρ n H (kvs.map Prod.snd) (vs.map Prod.snd)
  | .ins c fs, p => ∃ (C : Addr) (fo : Option Str) (dx : Addr) (vs : List (Str × V)), T c = some (C, fo) ∧ H p = some (.ins C dx vs) ∧ H dx = some (.own p) ∧ fs.map Prod.fst = vs.map Prod.fst ∧ RDs K ρ n H (fs.map Prod.snd) (vs.map Prod.snd)
/-- what the store's things are; all but tuples, locked lists, instances' dicts -/
def Wr : HO → Prop
  | .lst _ => True
  | .dK _ => True
  | .frz _ (.dK _) => True
  | .ins _ _ _ => True
  | _ => False
/-- .. what is not locked -/
def Wn : HO → Prop
  | .lst _ => True
  | .dK _ => True
  | .ins _ _ _ => True
  | _ => False
structure Wd (ρ : Nat → Addr) (S : Sto) (H : Hp) : Prop where
  ob : ∀ a o, S[a]? = some o → RO T K ρ S.length H o (ρ a)
  inj : ∀ a b, a < S.length → b < S.length → ρ a = ρ b → a = b
structure ER (ρ : Nat → Addr) (n : Nat) (H : Hp) (σ : Env) (ς : L2.St) : Prop where
  len : σ.length = ς.length
  at_ : ∀ (i : Nat) (d : D), σ[i]? = some (some d) → ∃ v, ς[i]? = some (some v) ∧ RD K ρ n H d v
end

section
variable {K : PySem.W.Frag} {ρ ρ1 ρ2 : Nat → Addr} {n n1 n2 : Nat} {H H1 H2 : Hp}
theorem Ext.refl : Ext K ρ n H ρ n H := ⟨Nat.le_refl _, fun _ _ => rfl, fun _ _ h => h, fun _ _ h => h, fun _ _ h _ => h, fun _ h h' => absurd (Nat.lt_of_le_of_lt h h') (Nat.lt_irrefl _), fun _ h => h, fun _ _ h => h, fun _ _ _ h => h⟩
theorem Ext.trans (a : Ext K ρ n H ρ1 n1 H1) (b : Ext K ρ1 n1 H1 ρ2 n2 H2) : Ext K ρ n H ρ2 n2 H2 :=
  ⟨Nat.le_trans a.le b.le, fun x h => (b.ag x (Nat.lt_of_lt_of_le h a.le)).trans (a.ag x h), fun p xs h => b.tp p xs (a.tp p xs h), fun p xs h => b.fz p xs (a.fz p xs h),
    fun p o h i => b.fr p o (a.fr p o h i) (fun x hx => by
      by_cases hn : x < n
      · rw [a.ag x hn]
        exact i x hn
      · intro e
        have := a.nw x (Nat.le_of_not_lt hn) hx
        rw [e, h] at this
        cases this),
    (fun x h1 h2 => by
      by_cases hn : x < n1
      · rw [b.ag x hn]
        exact a.nw x h1 hn
      · exact a.th _ (b.nw x (Nat.le_of_not_lt hn) h2)),
    fun p h => a.th p (b.th p h), fun p q h => b.ow p q (a.ow p q h), fun p o vs h => b.fk p o vs (a.fk p o vs h)⟩
mutual
theorem RD.ext (e : Ext K ρ n H ρ1 n1 H1) : ∀ {d : D} {v : V}, RD K ρ n H d v → RD K ρ1 n1 H1 d v
  | _, _, .non => .non
  | _, _, .bl b => .bl b
  | _, _, .int i => .int i
  | _, _, .str x => .str x
  | _, _, .tup h r => .tup (e.tp _ _ h) (RDs.ext e r)
  | _, _, .ref (a := a) h => by
    rw [← e.ag a h]
    exact .ref (Nat.lt_of_lt_of_le h e.le)
  | _, _, .klst h r => .klst (e.fz _ _ h) (RDs.ext e r)
  | _, _, .fn h => .fn h
theorem RDs.ext (e : Ext K ρ n H ρ1 n1 H1) : ∀ {d : List D} {v : List V}, RDs K ρ n H d v → RDs K ρ1 n1 H1 d v
  | _, _, .nil => .nil
  | _, _, .cons r rs => .cons (RD.ext e r) (RDs.ext e rs)
end
theorem RDs.length : ∀ {xs : List D} {vs : List V}, RDs K ρ n H xs vs → xs.length = vs.length
  | _, _, .nil => rfl
  | _, _, .cons _ r => by rw [List.length_cons, List.length_cons, r.length]
theorem RDs.get : ∀ {xs : List D} {vs : List V} {i : Nat} {x : D}, RDs K ρ n H xs vs → xs[i]? = some x → ∃ v, vs[i]? = some v ∧ RD K ρ n H x v
  | _, _, _, _, .nil, e => by simp at e
  | _, _, 0, _, .cons r _, e => by simp at e; subst e; exact ⟨_, rfl, r⟩
  | _, _, i + 1, x, .cons _ t, e => by
    obtain ⟨u, h1, h2⟩ := RDs.get (i := i) (x := x) t (by simpa using e)
    exact ⟨u, by simpa using h1, h2⟩
theorem RDs.append : ∀ {xs ys : List D} {vs us : List V}, RDs K ρ n H xs vs → RDs K ρ n H ys us → RDs K ρ n H (xs ++ ys) (vs ++ us)
  | _, _, _, _, .nil, s => s
  | _, _, _, _, .cons r t, s => .cons r (RDs.append t s)
theorem RDs.drop : ∀ {xs : List D} {vs : List V} (m : Nat), RDs K ρ n H xs vs → RDs K ρ n H (xs.drop m) (vs.drop m)
  | _, _, 0, r => r
  | _, _, _ + 1, .nil => .nil
  | _, _, m + 1, .cons _ t => RDs.drop m t
theorem RDs.take : ∀ {xs : List D} {vs : List V} (m : Nat), RDs K ρ n H xs vs → RDs K ρ n H (xs.take m) (vs.take m)
  | _, _, 0, _ => .nil
  | _, _, _ + 1, .nil => .nil
  | _, _, m + 1, .cons r t => .cons r (RDs.take m t)
theorem RDs.set {x : D} {v : V} (r : RD K ρ n H x v) : ∀ {xs : List D} {vs : List V} (i : Nat), RDs K ρ n H xs vs → RDs K ρ n H (xs.set i x) (vs.set i v)
  | _, _, _, .nil => .nil
  | _, _, 0, .cons _ t => .cons r t
  | _, _, i + 1, .cons q t => .cons q (RDs.set r i t)
theorem RDs.eraseIdx : ∀ {xs : List D} {vs : List V} (i : Nat), RDs K ρ n H xs vs → RDs K ρ n H (xs.eraseIdx i) (vs.eraseIdx i)
  | _, _, _, .nil => .nil
  | _, _, 0, .cons _ t => t
  | _, _, i + 1, .cons q t => .cons q (RDs.eraseIdx i t)
theorem RDs.dropLast {xs : List D} {vs : List V} (r : RDs K ρ n H xs vs) : RDs K ρ n H xs.dropLast vs.dropLast := by
  rw [List.dropLast_eq_take, List.dropLast_eq_take, r.length]
  exact r.take _
theorem RDs.cut {xs : List D} {vs : List V} (r : RDs K ρ n H xs vs) (lo hi : Option Int) : RDs K ρ n H (cutD xs lo hi) (cutV vs lo hi) := by
  unfold cutD cutV
  rw [← r.length]
  exact (r.drop _).take _
theorem RDs.isEmpty {xs : List D} {vs : List V} (r : RDs K ρ n H xs vs) : xs.isEmpty = vs.isEmpty := by
  cases r <;> rfl
theorem RDs.atI {xs : List D} {vs : List V} {i : Int} {x : D} (r : RDs K ρ n H xs vs) (h : atI xs i = some x) : ∃ v, L2.atI vs i = some v ∧ RD K ρ n H x v := by
  unfold L2.atI at *
  rw [← r.length]
  cases e : ixN xs.length i with
  | none => rw [e] at h; simp at h
  | some j =>
    rw [e] at h
    simp only [Option.bind_some] at h
    obtain ⟨v, h1, h2⟩ := r.get h
    exact ⟨v, h1, h2⟩
theorem RDs.rg (a b : Int) : RDs K ρ n H (rgD a b) (rgV a b) := by
  unfold rgD rgV
  generalize (List.range (b - a).toNat) = l
  induction l with
  | nil => exact .nil
  | cons x r ih => exact .cons (.int _) ih
end

section
variable {T : Tbl} {K : PySem.W.Frag} {ρ ρ1 : Nat → Addr} {n : Nat} {S S1 : Sto} {H H1 : Hp}
/-- tuples stay behind a store to what is none -/
theorem sqT_upd {p : Addr} {o : HO} (hp : ∀ o' xs, H p ≠ some (.tup xs) ∧ H p ≠ some (.frz o' (.tup xs))) : ∀ q xs, SqT K H q xs → SqT K (upd H p o) q xs := by
  rintro q xs ((h | ⟨o', h⟩) | h)
  · have : q ≠ p := by rintro rfl; exact (hp default xs).1 h
    exact .inl (.inl (by rw [upd_ne this]; exact h))
  · have : q ≠ p := by rintro rfl; exact (hp o' xs).2 h
    exact .inl (.inr ⟨o', by rw [upd_ne this]; exact h⟩)
  · exact .inr h
theorem sqT_new {p : Addr} {o : HO} (hp : H p = none) : ∀ q xs, SqT K H q xs → SqT K (upd H p o) q xs :=
  sqT_upd fun o' xs => by rw [hp]; exact ⟨fun z => by simp at z, fun z => by simp at z⟩
theorem sqF_upd {p : Addr} {o : HO} (hp : ∀ o' xs, H p ≠ some (.frz o' (.lst xs))) : ∀ q xs, SqF K H q xs → SqF K (upd H p o) q xs := by
  rintro q xs (⟨o', h⟩ | h)
  · have : q ≠ p := by rintro rfl; exact hp o' xs h
    exact .inl ⟨o', by rw [upd_ne this]; exact h⟩
  · exact .inr h
theorem sqF_new {p : Addr} {o : HO} (hp : H p = none) : ∀ q xs, SqF K H q xs → SqF K (upd H p o) q xs :=
  sqF_upd fun o' xs => by rw [hp]; exact fun z => by simp at z
theorem own_new {p : Addr} {o : HO} (hp : H p = none) : ∀ q x, H q = some (.own x) → upd H p o q = some (.own x) := fun q x h => by
  rw [upd_ne (ne_of_none h hp)]; exact h
theorem wr_T {p : Addr} {o u : HO} (hp : H p = some u) (w : Wr u) : ∀ q xs, SqT K H q xs → SqT K (upd H p o) q xs :=
  sqT_upd fun o' xs => by
    rw [hp]
    exact ⟨fun z => by cases z; exact w, fun z => by cases z; exact w⟩
theorem wr_F {p : Addr} {o u : HO} (hp : H p = some u) (w : Wr u) : ∀ q xs, SqF K H q xs → SqF K (upd H p o) q xs :=
  sqF_upd fun o' xs => by
    rw [hp]
    exact fun z => by cases z; exact w
theorem wr_O {p : Addr} {o u : HO} (hp : H p = some u) (w : Wr u) : ∀ q x, H q = some (.own x) → upd H p o q = some (.own x) := fun q x h => by
  have : q ≠ p := by
    rintro rfl
    rw [hp] at h
    cases h
    exact w
  rw [upd_ne this]
  exact h
theorem Wn.wr {u : HO} (w : Wn u) : Wr u := by
  unfold Wn at w
  split at w <;> first | trivial | exact w.elim
theorem wr_K {p : Addr} {o u : HO} (hp : H p = some u) (w : Wn u) : ∀ q x vs, H q = some (.frz x (.dK vs)) → upd H p o q = some (.frz x (.dK vs)) := fun q x vs h => by
  have : q ≠ p := by
    rintro rfl
    rw [hp] at h
    cases h
    exact w
  rw [upd_ne this]
  exact h
theorem Wd.lt (w : Wd T K ρ S H) {a : Nat} {o : O} (h : S[a]? = some o) : a < S.length := (List.getElem?_eq_some_iff.mp h).1
/-- a new tuple (or a list that the store does not know) -/
theorem upd_th {p : Addr} {o : HO} : ∀ q, upd H p o q = none → H q = none := fun q h => by
  unfold upd at h
  split at h
  · cases h
  · exact h
theorem Ext.new {p : Addr} {o : HO} (hp : H p = none) : Ext K ρ n H ρ n (upd H p o) := ⟨Nat.le_refl _, fun _ _ => rfl, sqT_new hp, sqF_new hp, fun q u h _ => by rw [upd_ne (ne_of_none h hp)]; exact h, fun _ h h' => absurd (Nat.lt_of_le_of_lt h h') (Nat.lt_irrefl _), upd_th, own_new hp, fun q o vs h => by rw [upd_ne (ne_of_none h hp)]; exact h⟩
/-- what stands there may be written -/
theorem RO.wr {o : O} {p : Addr} (h : RO T K ρ n H o p) : ∃ u, H p = some u ∧ Wr u := by
  cases o with
  | lst xs => obtain ⟨vs, e, _⟩ := h; exact ⟨_, e, trivial⟩
  | dk fz kvs =>
    cases fz with
    | false => obtain ⟨vs, e, _⟩ := h; exact ⟨_, e, trivial⟩
    | true => obtain ⟨o, vs, e, _⟩ := h; exact ⟨_, e, trivial⟩
  | ins c fs => obtain ⟨C, fo, dx, vs, _, e, _⟩ := h; exact ⟨_, e, trivial⟩
theorem RO.ne {o : O} {p q : Addr} (h : RO T K ρ n H o p) (hq : H q = none) : p ≠ q := by
  obtain ⟨u, e, _⟩ := h.wr
  exact ne_of_none e hq
/-- the same thing, where more is known -/
theorem RO.to {o : O} {p : Addr} {n1 : Nat} (h : RO T K ρ n H o p) (rd : ∀ {xs : List D} {vs : List V}, RDs K ρ n H xs vs → RDs K ρ1 n1 H1 xs vs) (ow : ∀ q x, H q = some (.own x) → H1 q = some (.own x)) (hp : H1 p = H p) : RO T K ρ1 n1 H1 o p := by
  cases o with
  | lst xs => obtain ⟨vs, e1, r⟩ := h; exact ⟨vs, hp.trans e1, rd r⟩
  | dk fz kvs =>
    cases fz with
    | false => obtain ⟨vs, e, k, r⟩ := h; exact ⟨vs, hp.trans e, k, rd r⟩
    | true => obtain ⟨o, vs, e, k, r⟩ := h; exact ⟨o, vs, hp.trans e, k, rd r⟩
  | ins c fs => obtain ⟨C, fo, dx, vs, t, e, ed, k, r⟩ := h; exact ⟨C, fo, dx, vs, t, hp.trans e, ow _ _ ed, k, rd r⟩
theorem RO.ext {o : O} {p : Addr} {n1 : Nat} (e : Ext K ρ n H ρ1 n1 H1) (h : RO T K ρ n H o p) (hp : H1 p = H p) : RO T K ρ1 n1 H1 o p := h.to (fun r => r.ext e) e.ow hp
theorem Wd.new (w : Wd T K ρ S H) {p : Addr} {o : HO} (hp : H p = none) : Wd T K ρ S (upd H p o) :=
  ⟨fun a u h => (w.ob a u h).ext (Ext.new hp) (upd_ne ((w.ob a u h).ne hp)), w.inj⟩
/-- the store's next -/
def nxt (ρ : Nat → Addr) (n : Nat) (p : Addr) : Nat → Addr := fun a => if a = n then p else ρ a
theorem Ext.alloc {p : Addr} {o : HO} (hp : H p = none) : Ext K ρ n H (nxt ρ n p) (n + 1) (upd H p o) :=
  ⟨Nat.le_succ _, fun a h => by unfold nxt; rw [if_neg (Nat.ne_of_lt h)], sqT_new hp, sqF_new hp, fun q u h _ => by rw [upd_ne (ne_of_none h hp)]; exact h, fun a h h' => by
    have e : a = n := by omega
    subst e
    unfold nxt
    rw [if_pos rfl]
    exact hp, upd_th, own_new hp, fun q o vs h => by rw [upd_ne (ne_of_none h hp)]; exact h⟩
theorem nxt_self {p : Addr} : nxt ρ n p n = p := by unfold nxt; rw [if_pos rfl]
/-- p is laid already, and now known to the store -/
theorem RD.grow {p : Addr} {d : D} {v : V} (r : RD K ρ n H d v) : RD K (nxt ρ n p) (n + 1) H d v := by
  have ag : ∀ a, a < n → nxt ρ n p a = ρ a := fun a h => by unfold MP.nxt; rw [if_neg (Nat.ne_of_lt h)]
  exact RD.rec (motive_1 := fun d v _ => RD K (MP.nxt ρ n p) (n + 1) H d v) (motive_2 := fun d v _ => RDs K (MP.nxt ρ n p) (n + 1) H d v) .non .bl .int .str (fun h _ ih => .tup h ih) (fun {a} h => by
    have := RD.ref (K := K) (ρ := MP.nxt ρ n p) (n := n + 1) (H := H) (a := a) (Nat.lt_succ_of_lt h)
    rw [ag a h] at this
    exact this) (fun h _ ih => .klst h ih) (fun h => .fn h) .nil (fun _ _ h1 h2 => .cons h1 h2) r
theorem RDs.grow {p : Addr} : ∀ {d : List D} {v : List V}, RDs K ρ n H d v → RDs K (nxt ρ n p) (n + 1) H d v
  | _, _, .nil => .nil
  | _, _, .cons r t => .cons r.grow (RDs.grow t)
theorem RO.grow {p q : Addr} {o : O} (h : RO T K ρ n H o q) : RO T K (nxt ρ n p) (n + 1) H o q := h.to (fun r => r.grow) (fun _ _ z => z) rfl
theorem Wd.adoptO (w : Wd T K ρ S H) {p : Addr} {o : O} (r : RO T K ρ S.length H o p) (fr : ∀ a, a < S.length → ρ a ≠ p) : Wd T K (nxt ρ S.length p) (S ++ [o]) H := by
  refine ⟨fun a u h => ?_, fun a b ha hb e => ?_⟩
  · rw [List.length_append, List.length_singleton]
    by_cases hl : a < S.length
    · rw [List.getElem?_append_left hl] at h
      have e1 : nxt ρ S.length p a = ρ a := by unfold nxt; rw [if_neg (Nat.ne_of_lt hl)]
      rw [e1]
      exact (w.ob a u h).grow
    · have hlt := (List.getElem?_eq_some_iff.mp h).1
      rw [List.length_append, List.length_singleton] at hlt
      have ea : a = S.length := by omega
      subst ea
      rw [List.getElem?_append_right (Nat.le_refl _), Nat.sub_self] at h
      cases h
      rw [nxt_self]
      exact r.grow
  · rw [List.length_append, List.length_singleton] at ha hb
    unfold nxt at e
    split at e <;> split at e
    · omega
    · exact absurd e.symm (fr b (by omega))
    · exact absurd e (fr a (by omega))
    · exact w.inj a b (by omega) (by omega) e
theorem Wd.adopt (w : Wd T K ρ S H) {p : Addr} {xs : List D} {vs : List V} (hp : H p = some (.lst vs)) (fr : ∀ a, a < S.length → ρ a ≠ p) (r : RDs K ρ S.length H xs vs) : Wd T K (nxt ρ S.length p) (S ++ [O.lst xs]) H := w.adoptO ⟨vs, hp, r⟩ fr
theorem Ext.adopt {ρ0 : Nat → Addr} {n0 : Nat} {H0 : Hp} {p : Addr} (e : Ext K ρ0 n0 H0 ρ n H) (hp : H0 p = none) : Ext K ρ0 n0 H0 (nxt ρ n p) (n + 1) H :=
  ⟨Nat.le_succ_of_le e.le, fun a h => by unfold nxt; rw [if_neg (Nat.ne_of_lt (Nat.lt_of_lt_of_le h e.le))]; exact e.ag a h, e.tp, e.fz, e.fr, fun a h h' => by
    by_cases ea : a = n
    · subst ea
      rw [nxt_self]
      exact hp
    · unfold nxt
      rw [if_neg ea]
      exact e.nw a h (by omega), e.th, e.ow, e.fk⟩
/-- a list that the store does not know is written -/
theorem RDs.untr {p : Addr} {u o : HO} (hp : H p = some u) (wr : Wr u) {xs : List D} {us : List V} (r : RDs K ρ n H xs us) : RDs K ρ n (upd H p o) xs us :=
  RDs.rec (motive_1 := fun d v _ => RD K ρ n (upd H p o) d v) (motive_2 := fun d v _ => RDs K ρ n (upd H p o) d v) .non .bl .int .str (fun h _ ih => .tup (wr_T hp wr _ _ h) ih) (fun h => .ref h) (fun h _ ih => .klst (wr_F hp wr _ _ h) ih) (fun h => .fn h) .nil (fun _ _ h1 h2 => .cons h1 h2) r
theorem Wd.untr (w : Wd T K ρ S H) {p : Addr} {u o : HO} (hp : H p = some u) (wr : Wr u) (fr : ∀ a, a < S.length → ρ a ≠ p) : Wd T K ρ S (upd H p o) :=
  ⟨fun a v h => (w.ob a v h).to (fun r => r.untr hp wr) (wr_O hp wr) (upd_ne (fr a (w.lt h))), w.inj⟩
theorem Ext.untr {ρ0 : Nat → Addr} {n0 : Nat} {H0 : Hp} {p : Addr} {u o : HO} (e : Ext K ρ0 n0 H0 ρ n H) (hp : H0 p = none) (h : H p = some u) (wr : Wn u) : Ext K ρ0 n0 H0 ρ n (upd H p o) :=
  ⟨e.le, e.ag, fun q xs z => wr_T h wr.wr q xs (e.tp q xs z), fun q xs z => wr_F h wr.wr q xs (e.fz q xs z), fun q v z i => by rw [upd_ne (ne_of_none z hp)]; exact e.fr q v z i, e.nw, fun q z => e.th q (upd_th q z), fun q x z => wr_O h wr.wr q x (e.ow q x z), fun q x vs z => wr_K h wr q x vs (e.fk q x vs z)⟩
theorem Wd.free (w : Wd T K ρ S H) {p : Addr} (hp : H p = none) : ∀ a, a < S.length → ρ a ≠ p := fun a h => by
  have e : S[a]? = some S[a] := List.getElem?_eq_getElem h
  exact (w.ob a _ e).ne hp
theorem Wd.allocO (w : Wd T K ρ S H) {p : Addr} {o : O} {u : HO} (hp : H p = none) (r : RO T K ρ S.length (upd H p u) o p) : Wd T K (nxt ρ S.length p) (S ++ [o]) (upd H p u) := (w.new hp).adoptO r (w.free hp)
theorem Wd.alloc (w : Wd T K ρ S H) {p : Addr} {xs : List D} {vs : List V} (hp : H p = none) (r : RDs K ρ S.length H xs vs) : Wd T K (nxt ρ S.length p) (S ++ [O.lst xs]) (upd H p (.lst vs)) :=
  w.allocO hp ⟨vs, upd_same, r.ext (Ext.new hp)⟩
theorem Ext.alloc' {p : Addr} {o : HO} {u : O} (hp : H p = none) : Ext K ρ S.length H (nxt ρ S.length p) (S ++ [u]).length (upd H p o) := by
  rw [List.length_append, List.length_singleton]
  exact Ext.alloc hp
theorem Ext.setAt {a : Nat} {u o : HO} (la : a < n) (h : H (ρ a) = some u) (wr : Wn u) : Ext K ρ n H ρ n (upd H (ρ a) o) :=
  ⟨Nat.le_refl _, fun _ _ => rfl, wr_T h wr.wr, wr_F h wr.wr, fun q o z i => by rw [upd_ne (Ne.symm (i a la))]; exact z, fun _ h h' => absurd (Nat.lt_of_le_of_lt h h') (Nat.lt_irrefl _), upd_th, wr_O h wr.wr, wr_K h wr⟩
theorem Wd.lstAt (w : Wd T K ρ S H) {a : Nat} {xs : List D} (h : S[a]? = some (.lst xs)) : ∃ vs, H (ρ a) = some (.lst vs) ∧ RDs K ρ S.length H xs vs := w.ob a _ h
theorem lstOf_some {a : Nat} {xs : List D} (h : lstOf S a = some xs) : S[a]? = some (.lst xs) := by
  unfold lstOf at h
  split at h
  · rename_i e; cases h; exact e
  · cases h
theorem Wd.seqAt (w : Wd T K ρ S H) {a : Nat} {xs : List D} (h : lstOf S a = some xs) : ∃ vs, SqL K H (ρ a) vs ∧ RDs K ρ S.length H xs vs := by
  obtain ⟨vs, e1, r⟩ := w.ob a _ (lstOf_some h)
  exact ⟨vs, .inl (.inl e1), r⟩
theorem Wd.setO (w : Wd T K ρ S H) {a : Nat} {o o' : O} {u u' : HO} (h : S[a]? = some o) (e : H (ρ a) = some u) (wr : Wn u) (r : RO T K ρ S.length (upd H (ρ a) u') o' (ρ a)) : Wd T K ρ (S.set a o') (upd H (ρ a) u') := by
  have la := w.lt h
  have ex : Ext K ρ S.length H ρ S.length (upd H (ρ a) u') := Ext.setAt la e wr
  refine ⟨fun b o hb => ?_, fun b c hb hc e => ?_⟩
  · rw [List.length_set]
    by_cases hab : b = a
    · subst hab
      rw [List.getElem?_set_self la] at hb
      cases hb
      exact r
    · rw [List.getElem?_set_ne (Ne.symm hab)] at hb
      have lb := w.lt hb
      exact (w.ob b o hb).ext ex (upd_ne fun z => hab (w.inj b a lb la z))
  · rw [List.length_set] at hb hc
    exact w.inj b c hb hc e
theorem Wd.setL (w : Wd T K ρ S H) {a : Nat} {xs ys : List D} {vs ws : List V} (h : S[a]? = some (.lst xs)) (e : H (ρ a) = some (.lst vs)) (r : RDs K ρ S.length H ys ws) : Wd T K ρ (S.set a (.lst ys)) (upd H (ρ a) (.lst ws)) :=
  w.setO h e trivial ⟨ws, upd_same, r.ext (Ext.setAt (w.lt h) e trivial)⟩
theorem Ext.setO {a : Nat} {u v : HO} {o : O} (la : a < S.length) (h : H (ρ a) = some u) (wr : Wn u) : Ext K ρ S.length H ρ (S.set a o).length (upd H (ρ a) v) := by
  rw [List.length_set]
  exact Ext.setAt la h wr
theorem Ext.setL {a : Nat} {vs ws : List V} {u : O} (la : a < S.length) (h : H (ρ a) = some (.lst vs)) : Ext K ρ S.length H ρ (S.set a u).length (upd H (ρ a) (.lst ws)) := Ext.setO la h trivial

/-! ### data -/
mutual
theorem Pd.dp (w : Wd T K ρ S H) : ∀ {x : D} {d : PyData} {v : V}, Pd S x d → RD K ρ S.length H x v → Dp K H v d
  | _, _, _, .non, .non => .non
  | _, _, _, .bl b, .bl _ => .bl b
  | _, _, _, .int b, .int _ => .int b
  | _, _, _, .str b, .str _ => .str b
  | _, _, _, .tup h, .tup q r => .tup q (Pds.dp w h r)
  | _, _, _, .ref e h, .ref _ => by
    obtain ⟨vs, q, r⟩ := w.seqAt e
    exact .lst q (Pds.dp w h r)
theorem Pds.dp (w : Wd T K ρ S H) : ∀ {x : List D} {d : List PyData} {v : List V}, Pds S x d → RDs K ρ S.length H x v → DpAll K H v d
  | _, _, _, .nil, .nil => .nil
  | _, _, _, .cons h t, .cons r s => .cons (Pd.dp w h r) (Pds.dp w t s)
end
theorem flat_rd {x : D} {v : V} (r : RD K ρ n H x v) (h : flatD x = true) : flatV v = true := by
  cases r <;> first | rfl | cases h
theorem flat_rds : ∀ {xs : List D} {vs : List V}, RDs K ρ n H xs vs → xs.all flatD = true → vs.all flatV = true
  | _, _, .nil, _ => rfl
  | _, _, .cons r t, h => by
    rw [List.all_cons, Bool.and_eq_true] at h
    rw [List.all_cons, flat_rd r h.1, flat_rds t h.2]
    rfl
theorem eqF_rd {x y : D} {v u : V} (r : RD K ρ n H x v) (q : RD K ρ n H y u) (h : flatD x = true) (h' : flatD y = true) : eqV u v = eqF y x := by
  cases r <;> cases q <;> first | rfl | cases h | cases h' | skip
  all_goals (simp [eqV, eqF])
theorem inF_rd {x : D} {v : V} (r : RD K ρ n H x v) (h : flatD x = true) : ∀ {xs : List D} {vs : List V}, RDs K ρ n H xs vs → xs.all flatD = true → inV v vs = inF x xs
  | _, _, .nil, _ => rfl
  | _, _, .cons q t, h2 => by
    rw [List.all_cons, Bool.and_eq_true] at h2
    have ih := inF_rd r h t h2.2
    unfold inV inF at *
    rw [List.any_cons, List.any_cons, ih, eqF_rd r q h h2.1]
end

/-! ### dicts -/
section
variable {T : Tbl} {K : PySem.W.Frag} {ρ : Nat → Addr} {n : Nat} {S : Sto} {H : Hp}
theorem keyOf_kV {x : D} {k : Key} {v : V} (h : keyOf x = some k) (r : RD K ρ n H x v) : v = kV k := by
  cases r <;> first | (cases h; rfl) | cases h
theorem dGet_rd {κ : Type} [DecidableEq κ] (k : κ) : ∀ {kvs : List (κ × D)} {vs : List (κ × V)}, kvs.map Prod.fst = vs.map Prod.fst → RDs K ρ n H (kvs.map Prod.snd) (vs.map Prod.snd) → (∀ d, dGet kvs k = some d → ∃ v, valV vs k = some v ∧ RD K ρ n H d v) ∧ (dGet kvs k = none → valV vs k = none)
  | [], [], _, _ => ⟨fun d h => (by cases h), fun _ => rfl⟩
  | [], _ :: _, e, _ => by cases e
  | _ :: _, [], e, _ => by cases e
  | (k1, d1) :: r, (k2, v2) :: q, e, rd => by
    rw [List.map_cons, List.map_cons] at e rd
    injection e with e1 e2
    cases rd with
    | cons r1 r2 =>
      obtain ⟨i1, i2⟩ := dGet_rd k e2 r2
      have e1 : k1 = k2 := e1
      subst e1
      by_cases h : k1 = k
      · have a1 : dGet ((k1, d1) :: r) k = some d1 := by unfold dGet; rw [List.find?_cons_of_pos (by simp [h])]; rfl
        have a2 : valV ((k1, v2) :: q) k = some v2 := by unfold valV; rw [List.find?_cons_of_pos (by simp [h])]; rfl
        exact ⟨fun d hd => by rw [a1] at hd; cases hd; exact ⟨v2, a2, r1⟩, fun hd => by rw [a1] at hd; cases hd⟩
      · have a1 : dGet ((k1, d1) :: r) k = dGet r k := by unfold dGet; rw [List.find?_cons_of_neg (by simp [h])]
        have a2 : valV ((k1, v2) :: q) k = valV q k := by unfold valV; rw [List.find?_cons_of_neg (by simp [h])]
        rw [a1, a2]
        exact ⟨i1, i2⟩
theorem any_keys {κ : Type} [DecidableEq κ] (k : κ) : ∀ {kvs : List (κ × D)} {vs : List (κ × V)}, kvs.map Prod.fst = vs.map Prod.fst → (kvs.any fun kv => decide (kv.1 = k)) = vs.any fun kv => decide (kv.1 = k)
  | [], [], _ => rfl
  | [], _ :: _, e => by cases e
  | _ :: _, [], e => by cases e
  | (k1, d1) :: r, (k2, v2) :: q, e => by
    injection e with e1 e2
    have e1 : k1 = k2 := e1
    rw [List.any_cons, List.any_cons, any_keys k e2, e1]
theorem dPut_rd {κ : Type} [DecidableEq κ] (k : κ) {d : D} {v : V} (rv : RD K ρ n H d v) {kvs : List (κ × D)} {vs : List (κ × V)} (e : kvs.map Prod.fst = vs.map Prod.fst) (rd : RDs K ρ n H (kvs.map Prod.snd) (vs.map Prod.snd)) : (dPut kvs k d).map Prod.fst = (putK vs k v).map Prod.fst ∧ RDs K ρ n H ((dPut kvs k d).map Prod.snd) ((putK vs k v).map Prod.snd) := by
  unfold dPut putK
  rw [any_keys k e]
  split
  · have go : ∀ {kvs : List (κ × D)} {vs : List (κ × V)}, kvs.map Prod.fst = vs.map Prod.fst → RDs K ρ n H (kvs.map Prod.snd) (vs.map Prod.snd) → (kvs.map fun kv => if kv.1 = k then (kv.1, d) else kv).map Prod.fst = (vs.map fun kv => if kv.1 = k then (kv.1, v) else kv).map Prod.fst ∧ RDs K ρ n H ((kvs.map fun kv => if kv.1 = k then (kv.1, d) else kv).map Prod.snd) ((vs.map fun kv => if kv.1 = k then (kv.1, v) else kv).map Prod.snd) := by
      intro kvs
      induction kvs with
      | nil =>
        intro vs e rd
        cases vs with
        | nil => exact ⟨rfl, .nil⟩
        | cons => cases e
      | cons p r ih =>
        intro vs e rd
        cases vs with
        | nil => cases e
        | cons q t =>
          obtain ⟨k1, d1⟩ := p
          obtain ⟨k2, v2⟩ := q
          injection e with e1 e2
          have e1 : k1 = k2 := e1
          subst e1
          cases rd with
          | cons r1 r2 =>
            obtain ⟨a, b⟩ := ih e2 r2
            by_cases h : k1 = k
            · simp only [List.map_cons, if_pos h]
              exact ⟨by rw [a], .cons rv b⟩
            · simp only [List.map_cons, if_neg h]
              exact ⟨by rw [a], .cons r1 b⟩
    exact go e rd
  · rw [List.map_append, List.map_append, List.map_append, List.map_append, e]
    exact ⟨rfl, rd.append (.cons rv .nil)⟩
theorem dkOf_some {a : Nat} {kvs : List (Key × D)} (h : dkOf S a = some kvs) : ∃ fz, S[a]? = some (.dk fz kvs) := by
  unfold dkOf at h
  split at h
  · rename_i e; cases h; exact ⟨_, e⟩
  · cases h
theorem Wd.dkAt (w : Wd T K ρ S H) {a : Nat} {fz : Bool} {kvs : List (Key × D)} (h : S[a]? = some (.dk fz kvs)) : ∃ vs, Rd H (ρ a) (.dK vs) ∧ kvs.map Prod.fst = vs.map Prod.fst ∧ RDs K ρ S.length H (kvs.map Prod.snd) (vs.map Prod.snd) := by
  have q := w.ob a _ h
  cases fz with
  | false => obtain ⟨vs, e, k, r⟩ := q; exact ⟨vs, .inl e, k, r⟩
  | true => obtain ⟨o, vs, e, k, r⟩ := q; exact ⟨vs, .inr ⟨o, e⟩, k, r⟩
theorem dget_of (w : Wd T K ρ S H) {a : Nat} {fz : Bool} {kvs : List (Key × D)} (h : S[a]? = some (.dk fz kvs)) {y : D} {k : Key} {u : V} (hk : keyOf y = some k) (r : RD K ρ S.length H y u) : ∃ o, DGet H (ρ a) u o ∧ match dGet kvs k with
    | some d => ∃ v, o = some v ∧ RD K ρ S.length H d v
    | none => o = none := by
  obtain ⟨vs, e, ke, rd⟩ := w.dkAt h
  obtain ⟨i1, i2⟩ := dGet_rd k ke rd
  refine ⟨valV vs k, .inl ⟨vs, k, e, keyOf_kV hk r, rfl⟩, ?_⟩
  split
  · rename_i d hd; exact i1 d hd
  · rename_i hd; exact i2 hd
theorem Wd.setDk (w : Wd T K ρ S H) {a : Nat} {kvs : List (Key × D)} (h : S[a]? = some (.dk false kvs)) {vs : List (Key × V)} (e : H (ρ a) = some (.dK vs)) (ke : kvs.map Prod.fst = vs.map Prod.fst) (rd : RDs K ρ S.length H (kvs.map Prod.snd) (vs.map Prod.snd)) (k : Key) {d : D} {v : V} (rv : RD K ρ S.length H d v) : Wd T K ρ (S.set a (.dk false (dPut kvs k d))) (upd H (ρ a) (.dK (putK vs k v))) := by
  obtain ⟨a1, a2⟩ := dPut_rd k rv ke rd
  exact w.setO h e trivial ⟨_, upd_same, a1, a2.ext (Ext.setAt (w.lt h) e trivial)⟩
end

/-! ### instances -/
section
variable {T : Tbl} {K : PySem.W.Frag} {ρ : Nat → Addr} {n : Nat} {S : Sto} {H : Hp}
theorem fld_rd (f : Str) : ∀ {fs : List (Str × D)} {vs : List (Str × V)}, fs.map Prod.fst = vs.map Prod.fst → RDs K ρ n H (fs.map Prod.snd) (vs.map Prod.snd) → ∀ d, fs.lookup f = some d → ∃ v, vs.lookup f = some v ∧ RD K ρ n H d v
  | [], _, _, _, d, h => by cases h
  | _ :: _, [], e, _, _, _ => by cases e
  | (k1, d1) :: r, (k2, v2) :: q, e, rd, d, h => by
    rw [List.map_cons, List.map_cons] at e rd
    injection e with e1 e2
    cases rd with
    | cons r1 r2 =>
      have e1 : k1 = k2 := e1
      subst e1
      cases z : (f == k1) with
      | true =>
        have a1 : List.lookup f ((k1, d1) :: r) = some d1 := by simp [List.lookup, z]
        have a2 : List.lookup f ((k1, v2) :: q) = some v2 := by simp [List.lookup, z]
        rw [a1] at h
        cases h
        exact ⟨v2, a2, r1⟩
      | false =>
        have a1 : List.lookup f ((k1, d1) :: r) = List.lookup f r := by simp [List.lookup, z]
        have a2 : List.lookup f ((k1, v2) :: q) = List.lookup f q := by simp [List.lookup, z]
        rw [a1] at h
        rw [a2]
        exact fld_rd f e2 r2 d h
theorem putF_rd (f : Str) {d : D} {v : V} (rv : RD K ρ n H d v) : ∀ {fs : List (Str × D)} {vs : List (Str × V)}, fs.map Prod.fst = vs.map Prod.fst → RDs K ρ n H (fs.map Prod.snd) (vs.map Prod.snd) → (putFD f d fs).map Prod.fst = (putF f v vs).map Prod.fst ∧ RDs K ρ n H ((putFD f d fs).map Prod.snd) ((putF f v vs).map Prod.snd)
  | [], [], _, _ => ⟨rfl, .cons rv .nil⟩
  | [], _ :: _, e, _ => by cases e
  | _ :: _, [], e, _ => by cases e
  | (k1, d1) :: r, (k2, v2) :: q, e, rd => by
    rw [List.map_cons, List.map_cons] at e rd
    injection e with e1 e2
    cases rd with
    | cons r1 r2 =>
      have e1 : k1 = k2 := e1
      subst e1
      obtain ⟨a1, a2⟩ := putF_rd f rv e2 r2
      unfold putFD putF
      by_cases z : k1 = f
      · rw [if_pos z, if_pos z]
        exact ⟨by rw [List.map_cons, List.map_cons, e2], .cons rv r2⟩
      · rw [if_neg z, if_neg z]
        exact ⟨by rw [List.map_cons, List.map_cons, a1], .cons r1 a2⟩
theorem Wd.insAt (w : Wd T K ρ S H) {a c : Nat} {fs : List (Str × D)} (h : S[a]? = some (.ins c fs)) : ∃ C fo dx vs, T c = some (C, fo) ∧ H (ρ a) = some (.ins C dx vs) ∧ H dx = some (.own (ρ a)) ∧ fs.map Prod.fst = vs.map Prod.fst ∧ RDs K ρ S.length H (fs.map Prod.snd) (vs.map Prod.snd) := w.ob a _ h
theorem Wd.setF (w : Wd T K ρ S H) {a c : Nat} {fs : List (Str × D)} (h : S[a]? = some (.ins c fs)) {C dx : Addr} {fo : Option Str} {vs : List (Str × V)} (t : T c = some (C, fo)) (e : H (ρ a) = some (.ins C dx vs)) (ed : H dx = some (.own (ρ a))) (ke : fs.map Prod.fst = vs.map Prod.fst) (rd : RDs K ρ S.length H (fs.map Prod.snd) (vs.map Prod.snd)) (f : Str) {d : D} {v : V} (rv : RD K ρ S.length H d v) : Wd T K ρ (S.set a (.ins c (putFD f d fs))) (upd H (ρ a) (.ins C dx (putF f v vs))) := by
  obtain ⟨a1, a2⟩ := putF_rd f rv ke rd
  have ex : Ext K ρ S.length H ρ S.length (upd H (ρ a) (.ins C dx (putF f v vs))) := Ext.setAt (w.lt h) e trivial
  exact w.setO h e trivial ⟨C, fo, dx, _, t, upd_same, ex.ow _ _ ed, a1, a2.ext ex⟩
end
/-! ### wishes behind -/
section
variable (T : Tbl) (K : PySem.W.Frag)
def Pst (ρ : Nat → Addr) (n : Nat) (H : Hp) (Q : VK) : KD := fun d S' => ∀ ρ' H' v, Ext K ρ n H ρ' S'.length H' → Wd T K ρ' S' H' → RD K ρ' S'.length H' d v → Q v H'
end
section
variable {T : Tbl} {K : PySem.W.Frag} {ρ ρ1 : Nat → Addr} {n n1 : Nat} {S S1 : Sto} {H H1 : Hp} {Q : VK}
theorem Pst.ext {d : D} (e : Ext K ρ n H ρ1 n1 H1) (h : Pst T K ρ n H Q d S) : Pst T K ρ1 n1 H1 Q d S := fun ρ' H' v e' w r => h ρ' H' v (e.trans e') w r
theorem Pst.here {d : D} {v : V} (w : Wd T K ρ S H) (h : Pst T K ρ S.length H Q d S) (r : RD K ρ S.length H d v) : Q v H := h ρ H v Ext.refl w r
theorem Pst.tup {xs : List D} {vs : List V} {p : Addr} (w : Wd T K ρ S H) (h : Pst T K ρ S.length H Q (.tup xs) S) (r : RDs K ρ S.length H xs vs) (hp : H p = none) : Q (.ref p) (upd H p (.tup vs)) :=
  h ρ _ _ (Ext.new hp) (w.new hp) (.tup (.inl (.inl upd_same)) (r.ext (Ext.new hp)))
theorem Pst.lst {xs : List D} {vs : List V} {p : Addr} (w : Wd T K ρ S H) (h : Pst T K ρ S.length H Q (.ref S.length) (S ++ [O.lst xs])) (r : RDs K ρ S.length H xs vs) (hp : H p = none) : Q (.ref p) (upd H p (.lst vs)) := by
  refine h (nxt ρ S.length p) _ _ (Ext.alloc' hp) (w.alloc hp r) ?_
  have e : RD K (nxt ρ S.length p) (S ++ [O.lst xs]).length (upd H p (.lst vs)) (.ref S.length) (.ref (nxt ρ S.length p S.length)) := .ref (by simp)
  rw [nxt_self] at e
  exact e
theorem Pst.obj {o : O} {u : HO} {p : Addr} (w : Wd T K ρ S H) (h : Pst T K ρ S.length H Q (.ref S.length) (S ++ [o])) (r : RO T K ρ S.length (upd H p u) o p) (hp : H p = none) : Q (.ref p) (upd H p u) := by
  have g := h (nxt ρ S.length p) _ (.ref (nxt ρ S.length p S.length)) (Ext.alloc' hp) (w.allocO hp r) (.ref (by simp))
  rw [nxt_self] at g
  exact g
theorem Pst.dk {kvs : List (Key × D)} {vs : List (Key × V)} {p : Addr} (w : Wd T K ρ S H) (h : Pst T K ρ S.length H Q (.ref S.length) (S ++ [O.dk false kvs])) (ke : kvs.map Prod.fst = vs.map Prod.fst) (rd : RDs K ρ S.length H (kvs.map Prod.snd) (vs.map Prod.snd)) (hp : H p = none) : Q (.ref p) (upd H p (.dK vs)) :=
  h.obj w ⟨vs, upd_same, ke, rd.ext (Ext.new hp)⟩ hp

/-! ### operators -/
def bopOf : Bop → Operator
  | .add => .Add | .sub => .Sub | .mul => .Mult | .fdiv => .FloorDiv | .mod => .Mod | .pow => .Pow | .shl => .LShift | .shr => .RShift | .band => .BitAnd | .bor => .BitOr | .bxor => .BitXor
def rStrAdd : R2 := fun x y H Q => ∃ i j, x = .str i ∧ y = .str j ∧ i.length + j.length ≤ sizeLine ∧ Q (.str (i ++ j)) H
def bopR (K : PySem.W.Frag) : Bop → R2
  | .add => fun x y H Q => rI0 (fun i j => .int (i + j)) x y H Q ∨ rCatA K x y H Q ∨ rStrAdd x y H Q ∨ rCat x y H Q
  | .sub => rI0 fun i j => .int (i - j)
  | .mul => rI IntMulOk fun i j => .int (i * j)
  | .fdiv => fun x y H Q => rI CDivW (fun i j => .int (i / j)) x y H Q ∨ rI CDivN (fun i j => .int (i.fdiv j)) x y H Q
  | .mod => fun x y H Q => rI (fun _ j => 0 < j) (fun i j => .int (i % j)) x y H Q ∨ rI (fun _ j => j ≠ 0) (fun i j => .int (i.fmod j)) x y H Q
  | .pow => rI CPow fun i j => .int (i ^ j.toNat)
  | .shl => rI CShl fun i j => .int (i * 2 ^ j.toNat)
  | .shr => rI (fun _ j => 0 ≤ j) fun i j => .int (i / 2 ^ j.toNat)
  | .band => rI0 fun i j => .int (Builtin.bitAnd i j)
  | .bor => rI0 fun i j => .int (Builtin.bitOr i j)
  | .bxor => rI0 fun i j => .int (Builtin.bitXor i j)
theorem op_mulI {X : Cx} : OpR X (binaryOp .Mult) (rI IntMulOk fun i j => .int (i * j)) := opI fun _ _ _ _ _ _ _ hc q => mul_int q hc
theorem bop_ok {X : Cx} (op : Bop) : OpR X (binaryOp (bopOf op)) (bopR X.K op) := by
  cases op with
  | add => exact op_add.or (op_catA.or (op_add_str.or op_cat))
  | sub => exact op_sub
  | mul => exact op_mulI
  | fdiv => exact op_fdivW.or op_fdivN
  | mod => exact op_mod.or op_modN
  | pow => exact op_pow
  | shl => exact op_shlW
  | shr => exact op_shr
  | band => exact op_and
  | bor => exact op_or
  | bxor => exact op_xor
theorem bop_of {op : Bop} {x y : D} {v u : V} (w : Wd T K ρ S H) (r : RD K ρ S.length H x v) (r' : RD K ρ S.length H y u) (h : wpBin op x y S (Pst T K ρ S.length H Q)) : bopR K op v u H Q := by
  unfold wpBin at h
  split at h
  · cases r; cases r'; exact .inl ⟨_, _, rfl, rfl, h.here w (.int _)⟩
  · obtain ⟨hl, h⟩ := h
    cases r with
    | tup q1 s1 =>
      cases r' with
      | tup q2 s2 =>
        refine .inr (.inl ⟨_, _, _, _, rfl, rfl, q1, q2, by rw [← s1.length, ← s2.length]; exact hl, fun e => ?_, fun e1 e2 => ?_, fun e1 e2 p hp => h.tup w (s1.append s2) hp⟩)
        · subst e
          cases s1
          exact h.here w (.tup q2 s2)
        · subst e2
          cases s2
          rw [List.append_nil] at h
          exact h.here w (.tup q1 s1)
  · obtain ⟨hl, h⟩ := h
    cases r; cases r'; exact .inr (.inr (.inl ⟨_, _, rfl, rfl, hl, h.here w (.str _)⟩))
  · cases r; cases r'
    split at h
    · rename_i xs ys e1 e2
      obtain ⟨hl, h⟩ := h
      obtain ⟨vs, a1, s1⟩ := w.lstAt e1
      obtain ⟨us, a2, s2⟩ := w.lstAt e2
      exact .inr (.inr (.inr ⟨_, _, _, _, rfl, rfl, a1, a2, by rw [← s1.length, ← s2.length]; exact hl, fun p hp => h.lst w (s1.append s2) hp⟩))
    · exact h.elim
  all_goals first
    | (cases r; cases r'; exact ⟨_, _, rfl, rfl, h.here w (.int _)⟩)
    | (cases r; cases r'; exact ⟨_, _, rfl, rfl, h.1, h.2.here w (.int _)⟩)
    | (cases r; cases r'; split at h <;> first
        | exact .inl ⟨_, _, rfl, rfl, ⟨‹_›, h.1⟩, h.2.here w (.int _)⟩
        | exact .inr ⟨_, _, rfl, rfl, h.1, h.2.here w (.int _)⟩
        | exact .inl ⟨_, _, rfl, rfl, ‹_›, h.here w (.int _)⟩)
    | exact h.elim

def copOf : Cop → CmpOp
  | .eq => .Eq | .ne => .NotEq | .lt => .Lt | .le => .LtE | .gt => .Gt | .ge => .GtE | .isin => .In | .notin => .NotIn | .isN => .Is | .notN => .IsNot
def rInK (neg : Bool) : R2 := fun x y H Q => ∃ p o, y = .ref p ∧ DGet H p x o ∧ Q (.bl (neg ^^ o.isSome)) H
/-- a text in a text -/
def rInS (neg : Bool) : R2 := fun x y H Q => ∃ i j, x = .str i ∧ y = .str j ∧ Q (.bl (neg ^^ !(Builtin.Str.occurrences j i 0 j.length 1).isEmpty)) H
def copR (K : PySem.W.Frag) : Cop → R2
  | .eq => fun x y H Q => rEq x y H Q ∨ rEqD K x y H Q ∨ rEqDA x y H Q
  | .ne => fun x y H Q => rNe x y H Q ∨ rNeD K x y H Q ∨ rNeDA x y H Q
  | .lt => rI0 fun i j => .bl (decide (i < j))
  | .le => rI0 fun i j => .bl (decide (i ≤ j))
  | .gt => rI0 fun i j => .bl (decide (j < i))
  | .ge => rI0 fun i j => .bl (decide (j ≤ i))
  | .isin => fun x y H Q => rIn K false x y H Q ∨ rInD K x y H Q ∨ rInK false x y H Q ∨ rInS false x y H Q
  | .notin => fun x y H Q => rIn K true x y H Q ∨ rNotInD K x y H Q ∨ rInK true x y H Q ∨ rInS true x y H Q
  | .isN => fun x y H Q => y = .non ∧ Q (.bl (decide (x = .non))) H
  | .notN => fun x y H Q => y = .non ∧ Q (.bl (!decide (x = .non))) H
theorem op_inK {X : Cx} (hu : X.A.units + 1 < cLine) : OpR X (compareOp .In) (rInK false) := by
  intro pins s σ H x y v u Q I rx ry ⟨p, o, ey, g, q⟩
  subst ey
  obtain rfl : u = Value.ref p := ry
  rw [show (false ^^ o.isSome) = o.isSome by cases o.isSome <;> rfl] at q
  exact d_in hu I g rx fun s3 I3 => ⟨.bl o.isSome, H, I3, rfl, q⟩
theorem op_ninK {X : Cx} (hu : X.A.units + 1 < cLine) : OpR X (compareOp .NotIn) (rInK true) := by
  intro pins s σ H x y v u Q I rx ry ⟨p, o, ey, g, q⟩
  subst ey
  obtain rfl : u = Value.ref p := ry
  rw [show (true ^^ o.isSome) = !o.isSome by cases o.isSome <;> rfl] at q
  exact d_notIn hu I g rx fun s3 I3 => ⟨.bl (!o.isSome), H, I3, rfl, q⟩
theorem op_inS {X : Cx} : OpR X (compareOp .In) (rInS false) := by
  intro pins s σ H x y v u Q I rx ry ⟨i, j, ex, ey, q⟩
  rw [show ∀ b, (false ^^ b) = b by decide] at q
  exact op_in_str pins s σ H x y v u Q I rx ry ⟨i, j, ex, ey, q⟩
theorem op_ninS {X : Cx} : OpR X (compareOp .NotIn) (rInS true) := by
  intro pins s σ H x y v u Q I rx ry ⟨i, j, ex, ey, q⟩
  rw [show ∀ b, (true ^^ b) = !b by decide] at q
  exact op_notin_str pins s σ H x y v u Q I rx ry ⟨i, j, ex, ey, q⟩
theorem cop_ok {X : Cx} (hu : X.A.units + 65 < cLine) (op : Cop) : OpR X (compareOp (copOf op)) (copR X.K op) := by
  cases op with
  | eq => exact op_eq.or ((op_eqD (by omega)).or (op_eq_dictA (by omega)))
  | ne => exact op_ne.or ((op_neD (by omega)).or (op_ne_dictA (by omega)))
  | lt => exact op_lt
  | le => exact op_le
  | gt => exact op_gt
  | ge => exact op_ge
  | isin => exact op_in_seq.or ((op_inD hu).or ((op_inK (by omega)).or op_inS))
  | notin => exact op_notIn_seq.or ((op_notInD hu).or ((op_ninK (by omega)).or op_ninS))
  | isN => exact op_isN
  | notN => exact op_notN
theorem xorT (b : Bool) : (true ^^ b) = !b := by cases b <;> rfl
theorem xorF (b : Bool) : (false ^^ b) = b := by cases b <;> rfl
theorem flat_snd : ∀ {xs : List D} {v1 v2 : List V}, (∀ x ∈ xs, flatD x = true) → RDs K ρ n H xs v1 → RDs K ρ n H xs v2 → v1 = v2
  | _, _, _, _, .nil, .nil => rfl
  | _, _, _, h, .cons r t, .cons r' t' => by
    have h1 := h _ List.mem_cons_self
    have h2 := flat_snd (fun x hx => h x (List.mem_cons_of_mem _ hx)) t t'
    rw [h2]
    congr 1
    cases r <;> cases r' <;> first | rfl | cases h1
theorem flatB_of : ∀ {xs : List D} {vs : List V}, (∀ x ∈ xs, flatD x = true) → RDs K ρ n H xs vs → ∀ v ∈ vs, flatB v = true
  | _, _, _, .nil => fun v hv => by cases hv
  | _, _, h, .cons r t => fun v hv => by
    rcases List.mem_cons.mp hv with rfl | hv
    · have h1 := h _ List.mem_cons_self
      cases r <;> first | rfl | cases h1
    · exact flatB_of (fun x hx => h x (List.mem_cons_of_mem _ hx)) t v hv
theorem flat_same {v1 v2 : List (Key × V)} (h1 : v1.map Prod.fst = v2.map Prod.fst) (h2 : v1.map Prod.snd = v2.map Prod.snd) : v1 = v2 := by
  induction v1 generalizing v2 with
  | nil => cases v2 with
    | nil => rfl
    | cons _ _ => cases h1
  | cons p r ih => cases v2 with
    | nil => cases h1
    | cons q s =>
      simp only [List.map_cons, List.cons.injEq] at h1 h2
      rw [ih h1.2 h2.2, Prod.ext h1.1 h2.1]
theorem val_nodup : ∀ {vs : List (Key × V)}, (vs.map Prod.fst).Nodup → ∀ {p : Key × V}, p ∈ vs → valV vs p.1 = some p.2
  | [], _, _, h => by cases h
  | q :: r, nd, p, h => by
    rw [List.map_cons, List.nodup_cons] at nd
    rcases List.mem_cons.mp h with rfl | h
    · exact valV_pos rfl
    · have ne : ¬ q.1 = p.1 := fun e => nd.1 (e ▸ List.mem_map.mpr ⟨p, h, rfl⟩)
      rw [valV_neg ne]
      exact val_nodup nd.2 h
theorem eq_of {neg : Bool} {x y : D} {v u : V} (w : Wd T K ρ S H) (r : RD K ρ S.length H x v) (r' : RD K ρ S.length H y u) (h : wpEq neg x y S (Pst T K ρ S.length H Q)) : (scal v u = true ∧ Q (.bl (neg ^^ decide (v = u))) H) ∨ (∃ d e, Dp K H v d ∧ Dp K H u e ∧ SeqAt.shaped d = true ∧ SeqAt.shaped e = true ∧ Q (.bl (neg ^^ PyData.eqv d e)) H) ∨
      ∃ a b ks, v = .ref a ∧ u = .ref b ∧ H a = some (.dK ks) ∧ H b = some (.dK ks) ∧ (∀ p ∈ ks, valV ks p.1 = some p.2 ∧ flatB p.2 = true) ∧ Q (.bl (neg ^^ true)) H := by
  unfold wpEq at h
  split at h
  · cases r; cases r'
    have e : ∀ i j : Int, decide (V.int i = V.int j) = decide (i = j) := fun i j => by rw [dec_int, Bool.beq_eq_decide_eq]
    exact .inl ⟨rfl, by rw [e]; exact h.here w (.bl _)⟩
  · cases r; cases r'
    have e : ∀ i j : Str, decide (V.str i = V.str j) = decide (i = j) := fun i j => by rw [dec_str, Bool.beq_eq_decide_eq]
    exact .inl ⟨rfl, by rw [e]; exact h.here w (.bl _)⟩
  · cases r; cases r'
    have e : ∀ i j : Bool, decide (V.bl i = V.bl j) = decide (i = j) := fun i j => by rw [dec_bl, Bool.beq_eq_decide_eq]
    exact .inl ⟨rfl, by rw [e]; exact h.here w (.bl _)⟩
  · rcases h with ⟨d, e, p1, p2, s1, s2, h⟩ | ⟨a, b, kvs, rfl, rfl, e1, e2, fl, nd, h⟩
    · exact .inr (.inl ⟨d, e, p1.dp w r, p2.dp w r', s1, s2, h.here w (.bl _)⟩)
    · cases r; cases r'
      obtain ⟨v1, q1, k1, r1⟩ := w.ob _ _ e1
      obtain ⟨v2, q2, k2, r2⟩ := w.ob _ _ e2
      have ev : v1 = v2 := flat_same (k1.symm.trans k2) (flat_snd (fun x hx => by obtain ⟨kv, h1, h2⟩ := List.mem_map.mp hx; rw [← h2]; exact fl kv h1) r1 r2)
      subst ev
      refine .inr (.inr ⟨_, _, v1, rfl, rfl, q1, q2, fun p hp => ?_, h.here w (.bl _)⟩)
      have nd1 : (v1.map Prod.fst).Nodup := by rw [← k1]; exact nd
      refine ⟨val_nodup nd1 hp, ?_⟩
      have hm : p.2 ∈ v1.map Prod.snd := List.mem_map.mpr ⟨p, hp, rfl⟩
      obtain ⟨i, hi⟩ := List.mem_iff_getElem?.mp hm
      exact flatB_of (fun x hx => by obtain ⟨kv, h1, h2⟩ := List.mem_map.mp hx; rw [← h2]; exact fl kv h1) r1 p.2 hm
theorem in_of {neg : Bool} {x y : D} {v u : V} (w : Wd T K ρ S H) (r : RD K ρ S.length H x v) (r' : RD K ρ S.length H y u) (h : wpIn neg x y S (Pst T K ρ S.length H Q)) :
    (∃ p xs, u = .ref p ∧ (SqL K H p xs ∨ SqT K H p xs) ∧ flatV v = true ∧ xs.all flatV = true ∧ Q (.bl (neg ^^ inV v xs)) H) ∨
      (∃ i j, v = .str i ∧ u = .str j ∧ Q (.bl (neg ^^ !(Builtin.Str.occurrences j i 0 j.length 1).isEmpty)) H) ∨
      (∃ d ds, Dp K H v d ∧ Dp K H u (.list ds) ∧ SeqAt.shaped d = true ∧ SeqAt.shaped (.list ds) = true ∧ Q (.bl (neg ^^ ds.any fun z => PyData.eqv z d)) H) ∨
      ∃ p o, u = .ref p ∧ DGet H p v o ∧ Q (.bl (neg ^^ o.isSome)) H := by
  unfold wpIn at h
  split at h
  · obtain ⟨h1, h2, h⟩ := h
    cases r' with
    | tup q s => exact .inl ⟨_, _, rfl, .inr q, flat_rd r h1, flat_rds s h2, by rw [inF_rd r h1 s h2]; exact h.here w (.bl _)⟩
  · split at h
    · rename_i ys e
      cases r'
      obtain ⟨vs, q, s⟩ := w.lstAt e
      replace q : SqL K H _ vs := .inl (.inl q)
      rcases h with ⟨h1, h2, h⟩ | ⟨d, ds, p1, p2, s1, s2, h⟩
      · exact .inl ⟨_, _, rfl, .inl q, flat_rd r h1, flat_rds s h2, by rw [inF_rd r h1 s h2]; exact h.here w (.bl _)⟩
      · exact .inr (.inr (.inl ⟨d, ds, p1.dp w r, .lst q (p2.dp w s), s1, s2, h.here w (.bl _)⟩))
    · split at h
      · rename_i fz kvs e _ k hk
        cases r'
        obtain ⟨o, g, m⟩ := dget_of w e hk r
        refine .inr (.inr (.inr ⟨_, o, rfl, g, ?_⟩))
        have eo : o.isSome = (dGet kvs k).isSome := by
          split at m
          · rename_i d hd; obtain ⟨v, rfl, _⟩ := m; rw [hd]; rfl
          · rename_i hd; rw [m, hd]; rfl
        rw [eo]
        exact h.here w (.bl _)
      · exact h.elim
    · exact h.elim
  · split at h
    · cases r; cases r'
      exact .inr (.inl ⟨_, _, rfl, rfl, h.here w (.bl _)⟩)
    · exact h.elim
  · exact h.elim
theorem cop_of {op : Cop} {x y : D} {v u : V} (w : Wd T K ρ S H) (r : RD K ρ S.length H x v) (r' : RD K ρ S.length H y u) (h : wpCmp op x y S (Pst T K ρ S.length H Q)) : copR K op v u H Q := by
  unfold wpCmp at h
  split at h
  · rcases eq_of w r r' h with ⟨a, q⟩ | ⟨d, e, a, b, c, f, q⟩ | ⟨a, b, ks, e1, e2, q1, q2, hv, q⟩
    · exact .inl ⟨a, by rw [xorF] at q; exact q⟩
    · exact .inr (.inl ⟨d, e, a, b, c, f, by rw [xorF] at q; exact q⟩)
    · exact .inr (.inr ⟨a, b, ks, ks, e1, e2, q1, q2, rfl, hv, q⟩)
  · rcases eq_of w r r' h with ⟨a, q⟩ | ⟨d, e, a, b, c, f, q⟩ | ⟨a, b, ks, e1, e2, q1, q2, hv, q⟩
    · exact .inl ⟨a, by rw [xorT] at q; exact q⟩
    · exact .inr (.inl ⟨d, e, a, b, c, f, by rw [xorT] at q; exact q⟩)
    · exact .inr (.inr ⟨a, b, ks, ks, e1, e2, q1, q2, rfl, hv, q⟩)
  · cases r; cases r'; exact ⟨_, _, rfl, rfl, h.here w (.bl _)⟩
  · cases r; cases r'; exact ⟨_, _, rfl, rfl, h.here w (.bl _)⟩
  · cases r; cases r'; exact ⟨_, _, rfl, rfl, h.here w (.bl _)⟩
  · cases r; cases r'; exact ⟨_, _, rfl, rfl, h.here w (.bl _)⟩
  · rcases in_of w r r' h with ⟨p, xs, a, b, c, f, q⟩ | ⟨i, j, a, b, q⟩ | ⟨d, e, a, b, c, f, q⟩ | q
    · exact .inl ⟨p, xs, a, b, c, f, by rw [xorF] at q; exact q⟩
    · exact .inr (.inr (.inr ⟨i, j, a, b, q⟩))
    · exact .inr (.inl ⟨d, e, a, b, c, f, by rw [xorF] at q; exact q⟩)
    · exact .inr (.inr (.inl q))
  · rcases in_of w r r' h with ⟨p, xs, a, b, c, f, q⟩ | ⟨i, j, a, b, q⟩ | ⟨d, e, a, b, c, f, q⟩ | q
    · exact .inl ⟨p, xs, a, b, c, f, by rw [xorT] at q; exact q⟩
    · exact .inr (.inr (.inr ⟨i, j, a, b, q⟩))
    · exact .inr (.inl ⟨d, e, a, b, c, f, by rw [xorT] at q; exact q⟩)
    · exact .inr (.inr (.inl q))
  · cases r'
    refine ⟨rfl, ?_⟩
    cases r <;> exact h.here w (.bl _)
  · cases r'
    refine ⟨rfl, ?_⟩
    cases r <;> exact h.here w (.bl _)
  · exact h.elim
def rIxK : R2 := fun x y H Q => ∃ a v, x = .ref a ∧ DGet H a y (some v) ∧ Q v H
def rIxW (K : PySem.W.Frag) : R2 := fun x y H Q => rIx K x y H Q ∨ rIxK x y H Q
theorem ix_dict {X : Cx} (hu : X.A.units + 1 < cLine) : IxR X rIxK := by
  intro value slice pins s σ H x y v u Q I rx ry ⟨a, w, ex, g, q⟩ hs
  subst ex
  obtain rfl : v = Value.ref a := rx
  unfold subscriptTail
  refine wpAny_bind ?_
  rw [getitemInPython_of_ne (dict_typeIs I g).not_modules]
  refine wpAny_bind (wpAny_specialOf (dict_typeIs I g) PySem.F.slot_dict_getitem.lookup ?_)
  have fin : wpAny (model X.prog X.w) X.A (subscripted slice false (.ref a) u) (fun r s₃ => wpAny (model X.prog X.w) X.A (letTemporaryGo value (.ref a) r >>= fun _ => pure r) (EP X pins σ Q) X.xe s₃) X.xe s := by
    rw [hs]
    refine wpAny_operating (d_getItem hu I g ry fun w' s3 I3 rw' => ?_)
    exact wpAny_bind (wpAny_letTemporaryGo (wpAny_pure ⟨w, H, I3, rw', q⟩))
  first
    | exact wpAny_pure (wpAny_bind fin)
    | exact wpAny_bind (wpAny_pure (wpAny_bind fin))
    | exact wpAny_bind fin
theorem ixw_ok {X : Cx} (hu : X.A.units + 1 < cLine) : IxR X (rIxW X.K) := ix_seq.or (ix_dict hu)
theorem ix_of {x y : D} {v u : V} (w : Wd T K ρ S H) (r : RD K ρ S.length H x v) (r' : RD K ρ S.length H y u) (h : wpIx x y S (Pst T K ρ S.length H Q)) : rIxW K v u H Q := by
  unfold wpIx at h
  split at h
  · split at h
    · rename_i d e
      cases r'
      cases r with
      | tup q s =>
        obtain ⟨z, e1, rz⟩ := s.atI e
        exact .inl (.inr (.inl ⟨_, _, _, z, rfl, rfl, q, e1, h.here w rz⟩))
    · exact h.elim
  · split at h
    · rename_i d e
      cases r'
      cases r with
      | klst q s =>
        obtain ⟨z, e1, rz⟩ := s.atI e
        exact .inl (.inl ⟨_, _, _, z, rfl, rfl, q.l, e1, h.here w rz⟩)
    · exact h.elim
  · split at h
    · rename_i d e
      cases r
      obtain ⟨o, e1, e⟩ := Option.bind_eq_some_iff.mp e
      unfold ixO at e
      split at e
      · cases r'
        obtain ⟨vs, q, s⟩ := w.lstAt e1
        obtain ⟨z, e2, rz⟩ := s.atI e
        exact .inl (.inl ⟨_, _, _, z, rfl, rfl, .inl (.inl q), e2, h.here w rz⟩)
      · obtain ⟨k, hk, e⟩ := Option.bind_eq_some_iff.mp e
        obtain ⟨o, g, m⟩ := dget_of w e1 hk r'
        rw [e] at m
        obtain ⟨z, rfl, rz⟩ := m
        exact .inr ⟨_, z, rfl, g, h.here w rz⟩
      · cases e
    · exact h.elim
  · obtain ⟨hl, h⟩ := h
    split at h
    · rename_i c e
      cases r'
      cases r
      exact .inl (.inr (.inr ⟨_, _, c, rfl, rfl, hl, e, h.here w (.str _)⟩))
    · exact h.elim
  · exact h.elim
theorem cutD_whole {α : Type} {xs : List α} {lo hi : Option Int} (e : HT.sIx xs.length 0 lo = 0 ∧ HT.sIx xs.length xs.length hi = xs.length) : cutD xs lo hi = xs := by
  unfold cutD
  rw [e.1, e.2]
  simp
def rSlAll (K : PySem.W.Frag) : V → Option Int → Option Int → Hp → VK → Prop := fun x lo hi H Q => rSlA K x lo hi H Q ∨ rSlL K x lo hi H Q
theorem sl_ok {X : Cx} : SlR X (rSlAll X.K) := sl_tupA.or sl_list
theorem sl_of {x : D} {lo hi : Option Int} {v : V} (w : Wd T K ρ S H) (r : RD K ρ S.length H x v) (h : wpSl x lo hi S (Pst T K ρ S.length H Q)) : rSlAll K v lo hi H Q := by
  unfold wpSl at h
  split at h
  · cases r with
    | tup q s =>
      refine .inl ⟨_, _, rfl, q, fun e => ?_, fun _ p hp => h.tup w (s.cut _ _) hp⟩
      rw [← s.length] at e
      rw [cutD_whole e] at h
      exact h.here w (.tup q s)
  · cases r with
    | klst q s => exact .inr ⟨_, _, rfl, q.l, fun p hp => h.lst w (s.cut _ _) hp⟩
  · split at h
    · rename_i xs e
      cases r
      obtain ⟨vs, q, s⟩ := w.seqAt e
      exact .inr ⟨_, vs, rfl, q, fun p hp => h.lst w (s.cut _ _) hp⟩
    · exact h.elim
  · exact h.elim
theorem tru_of {x : D} {v : V} {k : Bool} (w : Wd T K ρ S H) (r : RD K ρ S.length H x v) (h : tru S x = some k) : TruV K v H k := by
  cases r with
  | non => exact (Option.some.inj h).symm
  | bl b => exact (Option.some.inj h).symm
  | int i => exact (Option.some.inj h).symm
  | str y =>
    simp only [tru] at h
    split at h
    · rename_i hl
      refine ⟨hl, ?_⟩
      rw [← Option.some.inj h]
      generalize y.length = m
      cases m with
      | zero => rfl
      | succ m => rfl
    · cases h
  | tup q s =>
    refine .inr (.inl ⟨_, q, ?_⟩)
    rw [← s.isEmpty]
    exact (Option.some.inj h).symm
  | klst q s =>
    refine .inl ⟨_, q.l, ?_⟩
    rw [← s.isEmpty]
    exact (Option.some.inj h).symm
  | fn _ => simp [tru] at h
  | ref hl =>
    simp only [tru] at h
    split at h
    · rename_i xs e
      obtain ⟨vs, q, s⟩ := w.lstAt e
      refine .inl ⟨vs, .inl (.inl q), ?_⟩
      rw [← s.isEmpty]
      exact (Option.some.inj h).symm
    · cases h
theorem truK_of {x : D} {v : V} {P : Bool → Prop} (w : Wd T K ρ S H) (r : RD K ρ S.length H x v) (h : truK S x P) : ∃ k, TruV K v H k ∧ P k := by
  unfold truK at h
  split at h
  · rename_i k e
    exact ⟨k, tru_of w r e, h⟩
  · exact h.elim
end
end MP
/-! MPExp: each construct of the small reading is what the hand layer reads. -/
namespace MP
open PySem PySem.Spec PyProof.Rows L2

section
variable (T : Tbl) (K : PySem.W.Frag)
def RX (ρ : Nat → Addr) (n : Nat) (H : Hp) (x : Ex) (cl : Value) (d : Option Addr) : Prop :=
  ∃ C fo, T x.c = some (C, fo) ∧ cl = .ref C ∧ match fo with
    | none => True
    | some f => ∃ a v, d = some a ∧ H a = some (.xd [(f, v)]) ∧ RD K ρ n H x.f v
structure St0 (W : WX) (ρ : Nat → Addr) (σ : Env) (S : Sto) (E : Ex → Sto → Prop) (ς : L2.St) (H : Hp) : Prop where
  wd : Wd T K ρ S H
  er : ER K ρ S.length H σ ς
  ex : ∀ x S', E x S' → ∀ ρ' H' cl d, Ext K ρ S.length H ρ' S'.length H' → Wd T K ρ' S' H' → RX T K ρ' S'.length H' x cl d → W cl d ς H'
def PstL (ρ : Nat → Addr) (n : Nat) (H : Hp) (Q : List V → Hp → Prop) : List D → Sto → Prop := fun d S' => ∀ ρ' H' v, Ext K ρ n H ρ' S'.length H' → Wd T K ρ' S' H' → RDs K ρ' S'.length H' d v → Q v H'
def PstB (ρ : Nat → Addr) (n : Nat) (H : Hp) (Q : Bool → Hp → Prop) : Bool → Sto → Prop := fun d S' => ∀ ρ' H', Ext K ρ n H ρ' S'.length H' → Wd T K ρ' S' H' → Q d H'
def PstO (ρ : Nat → Addr) (n : Nat) (H : Hp) (Q : Option Int → Hp → Prop) : Option Int → Sto → Prop := fun d S' => ∀ ρ' H', Ext K ρ n H ρ' S'.length H' → Wd T K ρ' S' H' → Q d H'
variable (c : CallT) (W : WX)
def tE (x : MX) : TE := fun ς H Q => ∃ ρ σ S E, St0 T K W ρ σ S E ς H ∧ wpE c x E σ S (Pst T K ρ S.length H Q)
def tT (x : MX) : TT := fun ς H Q => ∃ ρ σ S E, St0 T K W ρ σ S E ς H ∧ wpE c x E σ S fun v S' => truK S' v fun k => PstB T K ρ S.length H Q k S'
def tA (es : MXs) : TA := fun ς H Q => ∃ ρ σ S E, St0 T K W ρ σ S E ς H ∧ wpEs c es E σ S (PstL T K ρ S.length H Q)
def tO (o : MXo) : TO := fun ς H Q => ∃ ρ σ S E, St0 T K W ρ σ S E ς H ∧ wpO c o E σ S (PstO T K ρ S.length H Q)
def tFs (es : MXs) : TT := fun ς H Q => ∃ ρ σ S E, St0 T K W ρ σ S E ς H ∧ wpIfs c es E σ S (PstB T K ρ S.length H Q)
end
/-- what a def promises by the small reading -/
def spM (T : Tbl) (K : PySem.W.Frag) (c : CallT) (f np : Nat) : Sp := fun vs H Q E' => ∃ ρ S args E, Wd T K ρ S H ∧ RDs K ρ S.length H args vs ∧ args.length = np ∧
  (∀ x S', E x S' → ∀ ρ' H' cl d, Ext K ρ S.length H ρ' S'.length H' → Wd T K ρ' S' H' → RX T K ρ' S'.length H' x cl d → E' cl d H') ∧ c f args S (Pst T K ρ S.length H Q) E

section
variable {T : Tbl} {K : PySem.W.Frag} {c : CallT} {W : WX} {ρ ρ1 : Nat → Addr} {n n1 : Nat} {σ : Env} {S S1 : Sto} {E : Ex → Sto → Prop} {ς : L2.St} {H H1 : Hp}
theorem ER.ext (r : ER K ρ n H σ ς) (e : Ext K ρ n H ρ1 n1 H1) : ER K ρ1 n1 H1 σ ς := ⟨r.len, fun i d h => let ⟨v, a, b⟩ := r.at_ i d h; ⟨v, a, b.ext e⟩⟩
theorem St0.next (s : St0 T K W ρ σ S E ς H) (e : Ext K ρ S.length H ρ1 S1.length H1) (w : Wd T K ρ1 S1 H1) : St0 T K W ρ1 σ S1 E ς H1 :=
  ⟨w, s.er.ext e, fun x S' h ρ' H' cl d e' w' r => s.ex x S' h ρ' H' cl d (e.trans e') w' r⟩
theorem St0.noex {W' : WX} (s : St0 T K W ρ σ S E ς H) : St0 T K W' ρ σ S (fun _ _ => False) ς H := ⟨s.wd, s.er, fun _ _ z => z.elim⟩
variable (hc : CallMono c c)
include hc
theorem tE_of {x : MX} {R : KD} {Q : VK} (s : St0 T K W ρ σ S E ς H) (h : wpE c x E σ S R) (k : ∀ d S1 ρ1 H1 v, R d S1 → Ext K ρ S.length H ρ1 S1.length H1 → Wd T K ρ1 S1 H1 → RD K ρ1 S1.length H1 d v → Q v H1) : tE T K c W x ς H Q :=
  ⟨ρ, σ, S, E, s, wpE_mono hc x h (fun d S1 r ρ' H' v e w rd => k d S1 ρ' H' v r e w rd) fun _ _ z => z⟩
theorem tT_of {x : MX} {R : KD} {Q : Bool → Hp → Prop} (s : St0 T K W ρ σ S E ς H) (h : wpE c x E σ S R) (k : ∀ d S1, R d S1 → truK S1 d fun b => ∀ ρ1 H1, Ext K ρ S.length H ρ1 S1.length H1 → Wd T K ρ1 S1 H1 → Q b H1) : tT T K c W x ς H Q :=
  ⟨ρ, σ, S, E, s, wpE_mono hc x h (fun d S1 r => truK_mono (k d S1 r) fun b z ρ' H' e w => z ρ' H' e w) fun _ _ z => z⟩
theorem tA_of {x : MXs} {R : List D → Sto → Prop} {Q : List V → Hp → Prop} (s : St0 T K W ρ σ S E ς H) (h : wpEs c x E σ S R) (k : ∀ d S1 ρ1 H1 v, R d S1 → Ext K ρ S.length H ρ1 S1.length H1 → Wd T K ρ1 S1 H1 → RDs K ρ1 S1.length H1 d v → Q v H1) : tA T K c W x ς H Q :=
  ⟨ρ, σ, S, E, s, wpEs_mono hc x h (fun d S1 r ρ' H' v e w rd => k d S1 ρ' H' v r e w rd) fun _ _ z => z⟩
theorem tO_of {x : MXo} {R : Option Int → Sto → Prop} {Q : Option Int → Hp → Prop} (s : St0 T K W ρ σ S E ς H) (h : wpO c x E σ S R) (k : ∀ d S1 ρ1 H1, R d S1 → Ext K ρ S.length H ρ1 S1.length H1 → Wd T K ρ1 S1 H1 → Q d H1) : tO T K c W x ς H Q :=
  ⟨ρ, σ, S, E, s, wpO_mono hc x h (fun d S1 r ρ' H' e w => k d S1 ρ' H' r e w) fun _ _ z => z⟩
theorem tFs_of {x : MXs} {R : Bool → Sto → Prop} {Q : Bool → Hp → Prop} (s : St0 T K W ρ σ S E ς H) (h : wpIfs c x E σ S R) (k : ∀ d S1 ρ1 H1, R d S1 → Ext K ρ S.length H ρ1 S1.length H1 → Wd T K ρ1 S1 H1 → Q d H1) : tFs T K c W x ς H Q :=
  ⟨ρ, σ, S, E, s, wpIfs_mono hc x h (fun d S1 r ρ' H' e w => k d S1 ρ' H' r e w) fun _ _ z => z⟩
end

theorem impE {X : Cx} {e : Expr} {t t' : TE} (h : PE X e t) (i : ∀ ς H Q, t' ς H Q → t ς H Q) : PE X e t' := ⟨fun pins s ς H Q I q => h.run pins s ς H Q I (i ς H Q q)⟩
theorem impT {X : Cx} {e : Expr} {t t' : TT} (h : PT X e t) (i : ∀ ς H Q, t' ς H Q → t ς H Q) : PT X e t' := ⟨fun pins s ς H Q I q => h.run pins s ς H Q I (i ς H Q q)⟩
theorem impW {X : Cx} {e : Expr} {t t' : TT} (h : PW X e t) (i : ∀ ς H Q, t' ς H Q → t ς H Q) : PW X e t' := ⟨fun wh pins s ς H Q I q => h.run wh pins s ς H Q I (i ς H Q q)⟩
theorem impA {X : Cx} {e : List Expr} {t t' : TA} (h : PA X e t) (i : ∀ ς H Q, t' ς H Q → t ς H Q) : PA X e t' := ⟨fun pos pins s ς H Q I q => h.run pos pins s ς H Q I (i ς H Q q)⟩
theorem impO {X : Cx} {e : Option Expr} {t t' : TO} (h : PO X e t) (i : ∀ ς H Q, t' ς H Q → t ς H Q) : PO X e t' := ⟨fun pins s ς H Q I q => h.run pins s ς H Q I (i ς H Q q)⟩
theorem impTs {X : Cx} {e : List Expr} {t t' : TT} (h : PTs X e t) (i : ∀ ς H Q, t' ς H Q → t ς H Q) : PTs X e t' := ⟨fun pins s ς H Q I q => h.run pins s ς H Q I (i ς H Q q)⟩
theorem impS {X : Cx} {e : Stmt} {t t' : TS} (h : PS X e t) (i : ∀ D ς H, t' D ς H → t D ς H) : PS X e t' := ⟨fun pins s ς H D I q => h.run pins s ς H D I (i D ς H q)⟩
theorem impSs {X : Cx} {e : List Stmt} {t t' : TS} (h : PSs X e t) (i : ∀ D ς H, t' D ς H → t D ς H) : PSs X e t' := ⟨fun pins s ς H D I q => h.run pins s ς H D I (i D ς H q)⟩

theorem wpEq_bl {neg : Bool} {x y : D} {S : Sto} {Q : KD} (h : wpEq neg x y S Q) : wpEq neg x y S fun v S' => (∃ k, v = .bl k) ∧ Q v S' := by
  unfold wpEq at *
  split at h <;> first | exact ⟨⟨_, rfl⟩, h⟩ | (rcases h with ⟨d, e, a, b, c, f, q⟩ | ⟨a, b, kvs, h1, h2, h3, h4, h5, h6, q⟩; exact .inl ⟨d, e, a, b, c, f, ⟨_, rfl⟩, q⟩; exact .inr ⟨a, b, kvs, h1, h2, h3, h4, h5, h6, ⟨_, rfl⟩, q⟩)
theorem wpIn_bl {neg : Bool} {x y : D} {S : Sto} {Q : KD} (h : wpIn neg x y S Q) : wpIn neg x y S fun v S' => (∃ k, v = .bl k) ∧ Q v S' := by
  unfold wpIn at *
  split at h
  · exact ⟨h.1, h.2.1, ⟨_, rfl⟩, h.2.2⟩
  · split at h
    · rcases h with h | ⟨d, e, a, b, c, f, q⟩
      · exact .inl ⟨h.1, h.2.1, ⟨_, rfl⟩, h.2.2⟩
      · exact .inr ⟨d, e, a, b, c, f, ⟨_, rfl⟩, q⟩
    · split at h
      · exact ⟨⟨_, rfl⟩, h⟩
      · exact h
    · exact h
  · split at h
    · exact ⟨⟨_, rfl⟩, h⟩
    · exact h
  · exact h
theorem wpCmp_bl {op : Cop} {x y : D} {S : Sto} {Q : KD} (h : wpCmp op x y S Q) : wpCmp op x y S fun v S' => (∃ k, v = .bl k) ∧ Q v S' := by
  unfold wpCmp at *
  split at h <;> first | exact ⟨⟨_, rfl⟩, h⟩ | exact wpEq_bl h | exact wpIn_bl h | exact h
theorem truB {x : D} {S : Sto} {k : Bool} {P : Bool → Prop} (h : truK S x P) (e : tru S x = some k) : P k := by
  unfold truK at h
  rw [e] at h
  exact h
theorem truK_bl {S : Sto} {b : Bool} {P : Bool → Prop} : truK S (.bl b) P = P b := rfl
theorem truK_iff {x : D} {S : Sto} {P : Bool → Prop} (h : truK S x P) : ∃ k, tru S x = some k ∧ P k := by
  unfold truK at h
  split at h
  · rename_i k e; exact ⟨k, e, h⟩
  · exact h.elim
theorem nb {op : CmpOp} (b : Expr) (h : (match b with | .Set _ _ _ => false | _ => true) = true) : behindInMarks op b = false := by
  cases b <;> first | rfl | (simp at h)
/-! ### constants, names -/
section
variable {X : Cx} {T : Tbl} {c : CallT} {W : WX} {pos : Pos}
theorem sd_int {i : Int} {j : Nat} : PE X (.Constant (.int i) j pos) (tE T X.K c W (.int i)) := impE pe_int fun ς H Q ⟨ρ, σ, S, E, s, h⟩ => Pst.here s.wd (show Pst T X.K ρ S.length H Q (.int i) S from h) (.int i)
theorem sd_bl {i : Bool} {j : Nat} : PE X (.Constant (.bool i) j pos) (tE T X.K c W (.bl i)) := impE pe_bl fun ς H Q ⟨ρ, σ, S, E, s, h⟩ => Pst.here s.wd (show Pst T X.K ρ S.length H Q (.bl i) S from h) (.bl i)
theorem sd_non {j : Nat} : PE X (.Constant .none j pos) (tE T X.K c W .non) := impE pe_non fun ς H Q ⟨ρ, σ, S, E, s, h⟩ => Pst.here s.wd (show Pst T X.K ρ S.length H Q .non S from h) .non
theorem sd_str {i : Str} {j : Nat} : PE X (.Constant (.str i) j pos) (tE T X.K c W (.str i)) := impE pe_str fun ς H Q ⟨ρ, σ, S, E, s, h⟩ => Pst.here s.wd (show Pst T X.K ρ S.length H Q (.str i) S from h) (.str i)
theorem sd_var {i : Nat} {x : Str} (hN : X.N[i]? = some x) (hv : Vis X.env.scope x) (hd : (x == ("__debug__" : Str)) = false) (hcd : (x == ("__classdict__" : Str)) = false) : PE X (.Name x pos) (tE T X.K c W (.var i)) := impE (pe_var hN hv hd hcd) fun ς H Q ⟨ρ, σ, S, E, s, h⟩ => by
  unfold wpE at h
  split at h
  · rename_i v e
    obtain ⟨u, e1, r⟩ := s.er.at_ i v e
    exact ⟨u, e1, Pst.here s.wd h r⟩
  · exact h.elim

/-! ### operators -/
variable (hc : CallMono c c) {a b d e : Expr} {xa xb xd : MX} {es : List Expr} {xs : MXs}
include hc
theorem sd_bin {op : Bop} (ha : PE X a (tE T X.K c W xa)) (hb : PE X b (tE T X.K c W xb)) : PE X (.BinOp a (bopOf op) b pos) (tE T X.K c W (.bin op xa xb)) := impE (pe_op (bop_ok op) ha hb) fun ς H Q ⟨ρ, σ, S, E, s, h⟩ => by
  unfold wpE at h
  exact tE_of hc s h fun x S1 ρ1 H1 v h1 e1 w1 r1 => tE_of hc (s.next e1 w1) h1 fun y S2 ρ2 H2 u h2 e2 w2 r2 => bop_of w2 (r1.ext e2) r2 (wpBin_mono h2 fun d S' q => q.ext (e1.trans e2))
theorem sd_neg (ha : PE X a (tE T X.K c W xa)) : PE X (.UnaryOp .USub a pos) (tE T X.K c W (.neg xa)) := impE (pe_un un_neg ha) fun ς H Q ⟨ρ, σ, S, E, s, h⟩ => by
  unfold wpE at h
  refine tE_of hc s h fun x S1 ρ1 H1 v h1 e1 w1 r1 => ?_
  cases r1 with
  | int i => exact ⟨i, rfl, (Pst.ext e1 h1).here w1 (.int _)⟩
  | _ => exact h1.elim
theorem sd_cmp {op : Cop} (hu : X.A.units + 65 < cLine) (hm : behindInMarks (copOf op) b = false) (ha : PE X a (tE T X.K c W xa)) (hb : PE X b (tE T X.K c W xb)) : PE X (.Compare a [copOf op] [b] pos) (tE T X.K c W (.cmp op xa xb)) := impE (pe_cmpR (cop_ok hu op) ha hb hm) fun ς H Q ⟨ρ, σ, S, E, s, h⟩ => by
  unfold wpE at h
  exact tE_of hc s h fun x S1 ρ1 H1 v h1 e1 w1 r1 => tE_of hc (s.next e1 w1) h1 fun y S2 ρ2 H2 u h2 e2 w2 r2 => cop_of w2 (r1.ext e2) r2 (wpCmp_mono h2 fun d S' q => q.ext (e1.trans e2))
theorem sd_cmpT {op : Cop} (hu : X.A.units + 65 < cLine) (hm : behindInMarks (copOf op) b = false) (ha : PE X a (tE T X.K c W xa)) (hb : PE X b (tE T X.K c W xb)) : PT X (.Compare a [copOf op] [b] pos) (tT T X.K c W (.cmp op xa xb)) := impT (pt_cmpR (cop_ok hu op) ha hb hm) fun ς H Q ⟨ρ, σ, S, E, s, h⟩ => by
  unfold wpE at h
  refine tE_of hc s h fun x S1 ρ1 H1 v h1 e1 w1 r1 => tE_of hc (s.next e1 w1) h1 fun y S2 ρ2 H2 u h2 e2 w2 r2 => cop_of (Q := fun x H' => ∃ k, x = V.bl k ∧ Q k H') w2 (r1.ext e2) r2 (wpCmp_mono (wpCmp_bl h2) fun d S' ⟨⟨k, ek⟩, q⟩ ρ' H' v' e' w' r' => ?_)
  subst ek
  cases r'
  exact ⟨k, rfl, q ρ' H' ((e1.trans e2).trans e') w'⟩
theorem sd_chain {op op' : Cop} (hu : X.A.units + 65 < cLine) (hm : lastMarks [copOf op, copOf op'] [b, d] = false) (ha : PE X a (tE T X.K c W xa)) (hb : PE X b (tE T X.K c W xb)) (hd : PE X d (tE T X.K c W xd)) : PE X (.Compare a [copOf op, copOf op'] [b, d] pos) (tE T X.K c W (.chain op op' xa xb xd)) := impE (pe_chain (cop_ok hu op) (cop_ok hu op') ha hb hd hm) fun ς H Q ⟨ρ, σ, S, E, s, h⟩ => by
  unfold wpE at h
  refine tE_of hc s h fun x S1 ρ1 H1 v h1 e1 w1 r1 => tE_of hc (s.next e1 w1) h1 fun y S2 ρ2 H2 u h2 e2 w2 r2 => cop_of (Q := fun z H3 => ∃ k, z = V.bl k ∧ (if k = true then tE T X.K c W xd ς H3 fun w' H4 => copR X.K op' u w' H4 Q else Q (.bl false) H3)) w2 (r1.ext e2) r2 (wpCmp_mono (wpCmp_bl h2) fun d S' ⟨⟨k, ek⟩, q⟩ ρ' H' v' e' w' r' => ?_)
  subst ek
  cases r'
  refine ⟨k, rfl, ?_⟩
  cases k with
  | true =>
    exact tE_of hc ((s.next (e1.trans e2) w2).next e' w') q fun z S4 ρ4 H4 t h4 e4 w4 r4 => cop_of w4 ((r2.ext e').ext e4) r4 (wpCmp_mono (wpCmp_bl h4) fun d' S5 ⟨⟨k', ek'⟩, q'⟩ => by
      subst ek'
      exact Pst.ext (((e1.trans e2).trans e').trans e4) q')
  | false => exact (Pst.ext ((e1.trans e2).trans e') q).here w' (.bl _)
theorem sd_chainT {op op' : Cop} (hu : X.A.units + 65 < cLine) (hm : lastMarks [copOf op, copOf op'] [b, d] = false) (ha : PE X a (tE T X.K c W xa)) (hb : PE X b (tE T X.K c W xb)) (hd : PE X d (tE T X.K c W xd)) : PT X (.Compare a [copOf op, copOf op'] [b, d] pos) (tT T X.K c W (.chain op op' xa xb xd)) := impT (pt_chain (cop_ok hu op) (cop_ok hu op') ha hb hd hm) fun ς H Q ⟨ρ, σ, S, E, s, h⟩ => by
  unfold wpE at h
  refine tE_of hc s h fun x S1 ρ1 H1 v h1 e1 w1 r1 => tE_of hc (s.next e1 w1) h1 fun y S2 ρ2 H2 u h2 e2 w2 r2 => cop_of (Q := fun z H3 => ∃ k, z = V.bl k ∧ (if k = true then tE T X.K c W xd ς H3 fun w' H4 => copR X.K op' u w' H4 fun z H' => ∃ k, z = V.bl k ∧ Q k H' else ∃ k', V.bl false = V.bl k' ∧ Q k' H3)) w2 (r1.ext e2) r2 (wpCmp_mono (wpCmp_bl h2) fun d S' ⟨⟨k, ek⟩, q⟩ ρ' H' v' e' w' r' => ?_)
  subst ek
  cases r'
  refine ⟨k, rfl, ?_⟩
  cases k with
  | true =>
    exact tE_of hc ((s.next (e1.trans e2) w2).next e' w') q fun z S4 ρ4 H4 t h4 e4 w4 r4 => cop_of (Q := fun z H' => ∃ k, z = V.bl k ∧ Q k H') w4 ((r2.ext e').ext e4) r4 (wpCmp_mono (wpCmp_bl h4) fun d' S5 ⟨⟨k', ek'⟩, q'⟩ ρ5 H5 v5 e5 w5 r5 => by
      subst ek'
      cases r5
      exact ⟨k', rfl, q' ρ5 H5 ((((e1.trans e2).trans e').trans e4).trans e5) w5⟩)
  | false => exact ⟨false, rfl, q _ _ ((e1.trans e2).trans e') w'⟩

/-! ### and, or, not, if else -/
theorem sd_and {rest : List Expr} (ha : PE X a (tE T X.K c W xa)) (hb : PE X (.BoolOp .And (b :: rest) pos) (tE T X.K c W xb)) : PE X (.BoolOp .And (a :: b :: rest) pos) (tE T X.K c W (.and xa xb)) := impE (pe_andT ha hb) fun ς H Q ⟨ρ, σ, S, E, s, h⟩ => by
  unfold wpE at h
  refine tE_of hc s h fun x S1 ρ1 H1 v h1 e1 w1 r1 => ?_
  obtain ⟨k, tk, h1⟩ := truK_of w1 r1 h1
  refine ⟨k, tk, ?_⟩
  cases k with
  | true => exact tE_of hc (s.next e1 w1) h1 fun y S2 ρ2 H2 u h2 e2 w2 r2 => (Pst.ext (e1.trans e2) h2).here w2 r2
  | false => exact (Pst.ext e1 h1).here w1 r1
theorem sd_or {rest : List Expr} (ha : PE X a (tE T X.K c W xa)) (hb : PE X (.BoolOp .Or (b :: rest) pos) (tE T X.K c W xb)) : PE X (.BoolOp .Or (a :: b :: rest) pos) (tE T X.K c W (.or xa xb)) := impE (pe_orT ha hb) fun ς H Q ⟨ρ, σ, S, E, s, h⟩ => by
  unfold wpE at h
  refine tE_of hc s h fun x S1 ρ1 H1 v h1 e1 w1 r1 => ?_
  obtain ⟨k, tk, h1⟩ := truK_of w1 r1 h1
  refine ⟨k, tk, ?_⟩
  cases k with
  | false => exact tE_of hc (s.next e1 w1) h1 fun y S2 ρ2 H2 u h2 e2 w2 r2 => (Pst.ext (e1.trans e2) h2).here w2 r2
  | true => exact (Pst.ext e1 h1).here w1 r1
theorem sd_not (ha : PE X a (tE T X.K c W xa)) : PE X (.UnaryOp .Not a pos) (tE T X.K c W (.not xa)) := impE (pe_notT ha) fun ς H Q ⟨ρ, σ, S, E, s, h⟩ => by
  unfold wpE at h
  refine tE_of hc s h fun x S1 ρ1 H1 v h1 e1 w1 r1 => ?_
  obtain ⟨k, tk, h1⟩ := truK_of w1 r1 h1
  exact ⟨k, tk, (Pst.ext e1 h1).here w1 (.bl _)⟩
theorem sd_andT {rest : List Expr} (ha : PT X a (tT T X.K c W xa)) (hb : PW X (.BoolOp .And (b :: rest) pos) (tT T X.K c W xb)) : PW X (.BoolOp .And (a :: b :: rest) pos) (tT T X.K c W (.and xa xb)) := impW (pw_and ha hb) fun ς H Q ⟨ρ, σ, S, E, s, h⟩ => by
  unfold wpE at h
  refine tT_of hc s h fun x S1 h1 => truK_mono (K := fun k => truK S1 x fun k' => k' = k ∧ (if k = true then wpE c xb E σ S1 (fun v S' => truK S' v fun k => PstB T X.K ρ S.length H Q k S') else PstB T X.K ρ S.length H Q k S1)) ?_ fun k h2 ρ1 H1 e1 w1 => ?_
  · obtain ⟨k, ek, q⟩ := truK_iff h1
    unfold truK
    rw [ek]
    refine ⟨rfl, ?_⟩
    cases k with
    | true => exact q
    | false => exact truB q ek
  · obtain ⟨k', ek, rfl, q⟩ := truK_iff h2
    cases k' with
    | true => exact tT_of hc (s.next e1 w1) q fun y S2 h3 => truK_mono h3 fun b q ρ2 H2 e2 w2 => q ρ2 H2 (e1.trans e2) w2
    | false => exact q ρ1 H1 e1 w1
theorem sd_orT {rest : List Expr} (ha : PT X a (tT T X.K c W xa)) (hb : PW X (.BoolOp .Or (b :: rest) pos) (tT T X.K c W xb)) : PW X (.BoolOp .Or (a :: b :: rest) pos) (tT T X.K c W (.or xa xb)) := impW (pw_or ha hb) fun ς H Q ⟨ρ, σ, S, E, s, h⟩ => by
  unfold wpE at h
  refine tT_of hc s h fun x S1 h1 => truK_mono (K := fun k => truK S1 x fun k' => k' = k ∧ (if k = true then PstB T X.K ρ S.length H Q k S1 else wpE c xb E σ S1 (fun v S' => truK S' v fun k => PstB T X.K ρ S.length H Q k S'))) ?_ fun k h2 ρ1 H1 e1 w1 => ?_
  · obtain ⟨k, ek, q⟩ := truK_iff h1
    unfold truK
    rw [ek]
    refine ⟨rfl, ?_⟩
    cases k with
    | false => exact q
    | true => exact truB q ek
  · obtain ⟨k', ek, rfl, q⟩ := truK_iff h2
    cases k' with
    | false => exact tT_of hc (s.next e1 w1) q fun y S2 h3 => truK_mono h3 fun b q ρ2 H2 e2 w2 => q ρ2 H2 (e1.trans e2) w2
    | true => exact q ρ1 H1 e1 w1
theorem sd_notT (ha : PT X a (tT T X.K c W xa)) : PT X (.UnaryOp .Not a pos) (tT T X.K c W (.not xa)) := impT (pt_not ha) fun ς H Q ⟨ρ, σ, S, E, s, h⟩ => by
  unfold wpE at h
  exact tT_of hc s h fun x S1 h1 => truK_mono h1 fun k q ρ1 H1 e1 w1 => q ρ1 H1 e1 w1
theorem sd_truth (ha : PE X a (tE T X.K c W xa)) (he : ∀ whole, isTrue a X.env whole = (do let v ← whole; standAt a.pos; holding [v] (truthy v))) : PT X a (tT T X.K c W xa) := impT (pt_truth ha he) fun ς H Q ⟨ρ, σ, S, E, s, h⟩ => by
  refine tE_of hc s h fun x S1 ρ1 H1 v h1 e1 w1 r1 => ?_
  obtain ⟨k, tk, q⟩ := truK_of w1 r1 h1
  exact ⟨k, tk, q _ _ e1 w1⟩
theorem sd_ite (hd : PT X d (tT T X.K c W xd)) (ha : PE X a (tE T X.K c W xa)) (hb : PE X b (tE T X.K c W xb)) : PE X (.IfExp d a b pos) (tE T X.K c W (.ite xd xa xb)) := impE (pe_ifExp hd ha hb) fun ς H Q ⟨ρ, σ, S, E, s, h⟩ => by
  unfold wpE at h
  refine tT_of hc s h fun x S1 h1 => truK_mono h1 fun k q ρ1 H1 e1 w1 => ?_
  cases k with
  | true => exact tE_of hc (s.next e1 w1) q fun y S2 ρ2 H2 u h2 e2 w2 r2 => (Pst.ext (e1.trans e2) h2).here w2 r2
  | false => exact tE_of hc (s.next e1 w1) q fun y S2 ρ2 H2 u h2 e2 w2 r2 => (Pst.ext (e1.trans e2) h2).here w2 r2

/-! ### subscripts, displays -/
theorem sd_ix (hu : X.A.units + 65 < cLine) (hs : PlainIx b) (ha : PE X a (tE T X.K c W xa)) (hb : PE X b (tE T X.K c W xb)) : PE X (.Subscript a b pos) (tE T X.K c W (.ix xa xb)) := impE (pe_ix (ixw_ok (by omega)) ha hb hs) fun ς H Q ⟨ρ, σ, S, E, s, h⟩ => by
  unfold wpE at h
  exact tE_of hc s h fun x S1 ρ1 H1 v h1 e1 w1 r1 => tE_of hc (s.next e1 w1) h1 fun y S2 ρ2 H2 u h2 e2 w2 r2 => ix_of w2 (r1.ext e2) r2 (wpIx_mono h2 fun d S' q => q.ext (e1.trans e2))
theorem sd_no : PO X none (tO T X.K c W .no) := impO po_none fun ς H Q ⟨ρ, σ, S, E, s, h⟩ => (show PstO T X.K ρ S.length H Q none S from h) ρ H Ext.refl s.wd
theorem sd_so (ha : PE X a (tE T X.K c W xa)) : PO X (some a) (tO T X.K c W (.so xa)) := impO (po_some ha) fun ς H Q ⟨ρ, σ, S, E, s, h⟩ => by
  unfold wpO at h
  refine tE_of hc s h fun x S1 ρ1 H1 v h1 e1 w1 r1 => ?_
  cases r1 with
  | int i => exact ⟨i, rfl, h1 _ _ e1 w1⟩
  | _ => exact h1.elim
theorem sd_sl {lo hi : Option Expr} {xl xh : MXo} {p2 : Pos} (ha : PE X a (tE T X.K c W xa)) (hl : PO X lo (tO T X.K c W xl)) (hh : PO X hi (tO T X.K c W xh)) : PE X (.Subscript a (.Slice lo hi none p2) pos) (tE T X.K c W (.sl xa xl xh)) := impE (pe_slice sl_ok ha hl hh) fun ς H Q ⟨ρ, σ, S, E, s, h⟩ => by
  unfold wpE at h
  exact tE_of hc s h fun x S1 ρ1 H1 v h1 e1 w1 r1 => tO_of hc (s.next e1 w1) h1 fun l S2 ρ2 H2 h2 e2 w2 => tO_of hc (s.next (e1.trans e2) w2) h2 fun u S3 ρ3 H3 h3 e3 w3 => sl_of w3 ((r1.ext e2).ext e3) (wpSl_mono h3 fun d S' q => q.ext ((e1.trans e2).trans e3))
theorem sd_nil : PA X [] (tA T X.K c W .nil) := impA pa_nil fun ς H Q ⟨ρ, σ, S, E, s, h⟩ => (show PstL T X.K ρ S.length H Q [] S from h) ρ H [] Ext.refl s.wd .nil
theorem sd_cons (ha : PE X e (tE T X.K c W xa)) (hr : PA X es (tA T X.K c W xs)) (hs : starEach (e :: es) X.env = (false, eval e X.env) :: starEach es X.env) : PA X (e :: es) (tA T X.K c W (.cons xa xs)) := impA (pa_cons ha hr hs) fun ς H Q ⟨ρ, σ, S, E, s, h⟩ => by
  unfold wpEs at h
  exact tE_of hc s h fun x S1 ρ1 H1 v h1 e1 w1 r1 => tA_of hc (s.next e1 w1) h1 fun y S2 ρ2 H2 u h2 e2 w2 r2 => h2 _ _ _ (e1.trans e2) w2 (.cons (r1.ext e2) r2)
theorem sd_tup {k : Nat} (hr : PA X es (tA T X.K c W xs)) : PE X (.Tuple es k pos) (tE T X.K c W (.tup xs)) := impE (pe_tup hr) fun ς H Q ⟨ρ, σ, S, E, s, h⟩ => by
  unfold wpE at h
  exact tA_of hc s h fun y S2 ρ2 H2 u h2 e2 w2 r2 => ⟨by rw [← r2.length]; exact h2.1, fun p hp => (Pst.ext e2 h2.2).tup w2 r2 hp⟩
theorem sd_lst (hr : PA X es (tA T X.K c W xs)) : PE X (.List es pos) (tE T X.K c W (.lst xs)) := impE (pe_lst hr) fun ς H Q ⟨ρ, σ, S, E, s, h⟩ => by
  unfold wpE at h
  exact tA_of hc s h fun y S2 ρ2 H2 u h2 e2 w2 r2 => ⟨by rw [← r2.length]; exact h2.1, fun p hp => (Pst.ext e2 h2.2).lst w2 r2 hp⟩
/-- a clause's tests -/
theorem sd_ifs0 : PTs X [] (tFs T X.K c W .nil) := impTs pts_nil fun ς H Q ⟨ρ, σ, S, E, s, h⟩ => (show PstB T X.K ρ S.length H Q true S from h) ρ H Ext.refl s.wd
theorem sd_ifs1 (ha : PT X a (tT T X.K c W xa)) : PTs X [a] (tFs T X.K c W (.cons xa .nil)) := impTs (pts_one ha) fun ς H Q ⟨ρ, σ, S, E, s, h⟩ => by
  unfold wpIfs at h
  refine tT_of hc s h fun x S1 h1 => truK_mono h1 fun k q ρ1 H1 e1 w1 => ?_
  cases k with
  | true => exact (show PstB T X.K ρ S.length H Q true S1 from q) _ _ e1 w1
  | false => exact q _ _ e1 w1

/-! ### calls of defs -/
theorem sd_call {x : Str} {p : Pos} {k f : Nat} {fa : Addr} {fd : FuncData} {ps : List Str} (F : FnOk X.prog X.w X.K X.mg X.base (L2.CX X.prog X.w) k fa fd ps (spM T X.K c f ps.length)) (hr : Room k X.A) (hg : Gl X x) (hm : X.mg x = some (.ref fa)) (hk : PySem.W.keepIn X.K (.ref fa) = true) (hb : Binds X.K fd ps []) (tk : Takes X W)
    (hlen : ∀ σ S E Q, wpEs c xs E σ S Q → wpEs c xs E σ S fun vs S' => vs.length = ps.length ∧ Q vs S') (ha : PA X (e :: es) (tA T X.K c W xs)) (hdb : (x == ("__debug__" : Str)) = false) (he : starEach (e :: es) X.env = (false, eval e X.env) :: starEach es X.env) (hpl : (backTo pos (starEach es X.env)).any (·.1) = false) :
    PE X (.Call (.Name x p) (e :: es) [] pos) (tE T X.K c W (.call f xs)) := impE (pe_callS F hr hg hm hk hb (fun σ => passAt tk σ) ha hdb he hpl) fun ς H Q ⟨ρ, σ, S, E, s, h⟩ => by
  unfold wpE at h
  refine tA_of hc s (hlen _ _ _ _ h) fun y S2 ρ2 H2 u h2 e2 w2 r2 => ?_
  exact ⟨ρ2, S2, y, E, w2, by simpa using r2, h2.1, fun x S' hx ρ' H' cl d e' w' r' => s.ex x S' hx ρ' H' cl d (e2.trans e') w' r', hc _ _ _ _ _ _ _ h2.2 (fun d S' q => Pst.ext e2 q) fun _ _ z => z⟩
omit hc in
theorem sd_call0 {x : Str} {p : Pos} {k f : Nat} {fa : Addr} {fd : FuncData} (F : FnOk X.prog X.w X.K X.mg X.base (L2.CX X.prog X.w) k fa fd [] (spM T X.K c f 0)) (hr : Room k X.A) (hg : Gl X x) (hm : X.mg x = some (.ref fa)) (hk : PySem.W.keepIn X.K (.ref fa) = true) (hb : Binds X.K fd [] []) (tk : Takes X W) (hdb : (x == ("__debug__" : Str)) = false) :
    PE X (.Call (.Name x p) [] [] pos) (tE T X.K c W (.call f .nil)) := by
  refine ⟨fun pins s ς H Q I ⟨ρ, σ, S, E, st, h⟩ => ?_⟩
  simp only [wpE, wpEs] at h
  refine wpAny_Call_Name_kw (ld_glob I hg hm ?_ hdb)
  exact PySem.W.callWith_K0 I.kIn hk (run_fnS (us := []) (vs := []) (E := WE W) F hr hb (passAt tk ς) I .nil ⟨ρ, S, [], E, st.wd, .nil, rfl, fun x S' hx ρ' H' cl d e' w' r' => st.ex x S' hx ρ' H' cl d e' w' r', h⟩)
/-! ### a def as a value -/
omit hc in
theorem sd_fnv {x : Str} {fa : Addr} (hg : Gl X x) (hm : X.mg x = some (.ref fa)) (hn : PySem.W.nsIn X.K mainGlobals x = some (some (.ref fa))) (hdb : (x == ("__debug__" : Str)) = false) : PE X (.Name x pos) (tE T X.K c W (.fnv x)) := by
  refine ⟨fun pins s ς H Q I ⟨ρ, σ, S, E, st, h⟩ => ?_⟩
  simp only [wpE] at h
  exact ld_glob I hg hm ⟨.ref fa, H, I, rfl, Pst.here st.wd h (.fn hn)⟩ hdb
/-- what is known of the defs that a name may hold -/
structure HeldF (T : Tbl) (X : Cx) (c : CallT) (k n : Nat) (x : Str) (f : Nat) : Prop where
  ex : ∃ fa fd ps, PySem.W.nsIn X.K mainGlobals x = some (some (.ref fa)) ∧ PySem.W.keepIn X.K (.ref fa) = true ∧ Binds X.K fd ps [] ∧ ps.length = n ∧ FnOk X.prog X.w X.K X.mg X.base (L2.CX X.prog X.w) k fa fd ps (spM T X.K c f ps.length)
theorem sd_callv {x : Str} {p : Pos} {k i n : Nat} {fs : List (Str × Nat)} (hr : Room k X.A) (hN : X.N[i]? = some x) (hv : Vis X.env.scope x) (hd : (x == ("__debug__" : Str)) = false) (hcd : (x == ("__classdict__" : Str)) = false) (F : ∀ g f, fs.lookup g = some f → HeldF T X c k n g f) (tk : Takes X W)
    (hlen : ∀ σ S E Q, wpEs c xs E σ S Q → wpEs c xs E σ S fun vs S' => vs.length = n ∧ Q vs S') (ha : PA X (e :: es) (tA T X.K c W xs)) (he : starEach (e :: es) X.env = (false, eval e X.env) :: starEach es X.env) (hpl : (backTo pos (starEach es X.env)).any (·.1) = false) :
    PE X (.Call (.Name x p) (e :: es) [] pos) (tE T X.K c W (.callv i fs xs)) := by
  refine ⟨fun pins s ς H Q I ⟨ρ, σ, S, E, st, h⟩ => ?_⟩
  unfold wpE at h
  split at h
  · rename_i g hg
    split at h
    · rename_i f hf
      obtain ⟨fa, fd, ps, h1, h2, h3, h4, F1⟩ := (F g f hf).ex
      obtain ⟨u0, e1, r0⟩ := st.er.at_ i _ hg
      cases r0 with
      | fn hns =>
        rw [h1] at hns
        cases hns
        have ld := (pe_var (pos := p) hN hv hd hcd).run pins s ς H (fun v H9 => v = .ref fa ∧ H9 = H) I ⟨.ref fa, e1, rfl, rfl⟩
        refine wpAny_Call_Name_kw (thn ld fun u s1 z => ?_)
        obtain ⟨v, H9, I1, r1, rfl, rfl⟩ := z
        cases r1
        have arg := ha.run pos pins s1 ς _ (fun vs H2 => spM T X.K c f ps.length vs H2 Q (WE W ς)) I1 (tA_of hc st (hlen _ _ _ _ h) fun y S2 ρ2 H2 u h2 e2 w2 r2 => ⟨ρ2, S2, y, E, w2, r2, h2.1.trans h4.symm, fun x S' hx ρ' H' cl d e' w' r' => st.ex x S' hx ρ' H' cl d (e2.trans e') w' r', hc _ _ _ _ _ _ _ h2.2 (fun d S' q => Pst.ext e2 q) fun _ _ z => z⟩)
        exact PySem.W.callWith_K (h₀ := X.base) I.ok.mod.kin h2 (thn arg fun us s2 ⟨vs, H2, I2, r, q⟩ => ⟨I2.kIn, run_fnS (E := WE W) F1 hr h3 (passAt tk ς) I2 r q⟩) he hpl
    · exact h.elim
  · exact h.elim
/-! ### new instances -/
section
omit hc in
theorem mk_run {pins : List (Addr × Obj)} {s : Shared} {ς : L2.St} {H : Hp} {Q : VK} {us : List Value} {vs : List V} {k : Nat} {fa C : Addr} {fd : FuncData} {ps : List Str} {sp : Sp} {E' : L2.St → XK} (M : Mk X.K C fa) (F : FnOk X.prog X.w X.K X.mg X.base (L2.CX X.prog X.w) k fa fd ps sp) (hr : Room (k + 1) X.A) (hb : Binds X.K fd ps []) (hx : PassesAt (L2.CX X.prog X.w) X ς (E' ς))
    (I : Inv X pins ς H s) (r : Vals vs us) (h : ∀ x dx, H x = none → H dx = none → dx ≠ x → sp (.ref x :: vs) (upd (upd H dx (.own x)) x (.ins C dx [])) (fun v H2 => v = .non ∧ Q (.ref x) H2) (E' ς)) :
    wpAny (model X.prog X.w) X.A (call (.ref C) us) (EP X pins ς Q) X.xe s := by
  generalize hn : s.heap.objs.size = m
  have fr1 : H (m + 1) = none := I.hok.fresh (by rw [hn]; exact Nat.le_succ _)
  have fr0 : H m = none := I.hok.fresh (by rw [hn]; exact Nat.le_refl _)
  have hq := h (m + 1) m fr1 fr0 (Nat.ne_of_lt (Nat.lt_succ_self _))
  have J := Inv.made (C := C) I
  rw [hn] at J
  have rr : Vals (V.ref (m + 1) :: vs) (Value.ref (m + 1) :: us) := .cons rfl r
  have hlen : ((Value.ref (m + 1) :: us) ++ []).length = ps.length := by
    rw [List.append_nil, ← rr.length]
    exact F.len _ _ _ _ hq
  have bd := hb _ (Value.ref (m + 1) :: us) J.kIn hlen
  rw [List.append_nil] at bd
  have go := F.run _ X.stack _ _ _ _ _ _ (E' ς) (hr.make C us []) (J.env0.make C us []) bd rr hq
  refine wpAny_call (make_map (f := fa) I.kIn M.makes M.init (beq_iff_eq.mp M.fn) ?_)
  rw [hn]
  refine codeAny_mono go fun res s' z => ?_
  match res, z with
  | .error e, z => exact hx pins _ _ e s' J z
  | .ok (.ret u), z =>
    obtain ⟨v, H', K', rv, ⟨ev, q3⟩⟩ := J.after z
    subst ev
    exact ⟨rv, V.ref (m + 1), H', K', rfl, q3⟩
  | .ok .next, z => exact z.elim
  | .ok .brk, z => exact z.elim
  | .ok .cont, z => exact z.elim
theorem sd_make {x : Str} {p : Pos} {k f cl : Nat} {fa C : Addr} {fd : FuncData} {ps : List Str} {fo : Option Str} (M : Mk X.K C fa) (F : FnOk X.prog X.w X.K X.mg X.base (L2.CX X.prog X.w) k fa fd ps (spM T X.K c f ps.length)) (ht : T cl = some (C, fo)) (hr : Room (k + 1) X.A) (hg : Gl X x) (hm : X.mg x = some (.ref C)) (hb : Binds X.K fd ps []) (tk : Takes X W)
    (hlen : ∀ σ S E Q, wpEs c xs E σ S Q → wpEs c xs E σ S fun vs S' => vs.length + 1 = ps.length ∧ Q vs S') (ha : PA X (e :: es) (tA T X.K c W xs)) (hdb : (x == ("__debug__" : Str)) = false) (he : starEach (e :: es) X.env = (false, eval e X.env) :: starEach es X.env) (hpl : (backTo pos (starEach es X.env)).any (·.1) = false) :
    PE X (.Call (.Name x p) (e :: es) [] pos) (tE T X.K c W (.make cl f xs)) := by
  refine ⟨fun pins s ς H Q I ⟨ρ, σ, S, E, st, h⟩ => ?_⟩
  unfold wpE at h
  let Pm : List V → Hp → Prop := fun vs H2 => ∀ x dx, H2 x = none → H2 dx = none → dx ≠ x → spM T X.K c f ps.length (.ref x :: vs) (upd (upd H2 dx (.own x)) x (.ins C dx [])) (fun v H3 => v = .non ∧ Q (.ref x) H3) (WE W ς)
  have arg := ha.run pos pins s ς H Pm I (tA_of hc st (hlen _ _ _ _ h) fun y S2 ρ2 H2 u h2 e2 w2 r2 x dx hx hd ne => by
    have ed : Ext X.K ρ2 S2.length H2 ρ2 S2.length (upd H2 dx (.own x)) := Ext.new hd
    have wd := w2.new (o := .own x) hd
    have hx' : upd H2 dx (.own x) x = none := by rw [upd_ne (Ne.symm ne)]; exact hx
    have er : RO T X.K ρ2 S2.length (upd (upd H2 dx (.own x)) x (.ins C dx [])) (.ins cl []) x := ⟨C, fo, dx, [], ht, upd_same, by rw [upd_ne ne]; exact upd_same, rfl, .nil⟩
    have wn := wd.allocO hx' er
    have en : Ext X.K ρ2 S2.length (upd H2 dx (.own x)) (nxt ρ2 S2.length x) (S2 ++ [O.ins cl []]).length (upd (upd H2 dx (.own x)) x (.ins C dx [])) := Ext.alloc' hx'
    have ea := ed.trans en
    have rs : RD X.K (nxt ρ2 S2.length x) (S2 ++ [O.ins cl []]).length (upd (upd H2 dx (.own x)) x (.ins C dx [])) (.ref S2.length) (.ref x) := by
      have := RD.ref (K := X.K) (ρ := nxt ρ2 S2.length x) (n := (S2 ++ [O.ins cl []]).length) (H := upd (upd H2 dx (.own x)) x (.ins C dx [])) (a := S2.length) (by simp)
      rw [nxt_self] at this
      exact this
    refine ⟨_, _, .ref S2.length :: y, E, wn, .cons rs (r2.ext ea), by rw [List.length_cons]; exact h2.1, fun x' S' hx0 ρ' H' cl' d e' w' r' => st.ex x' S' hx0 ρ' H' cl' d ((e2.trans ea).trans e') w' r', hc _ _ _ _ _ _ _ h2.2 (fun v S3 q ρ3 H3 v3 e3 w3 r3 => ?_) fun _ _ z => z⟩
    obtain ⟨rfl, q⟩ := q
    cases r3
    refine ⟨rfl, q ρ3 H3 (.ref x) ((e2.trans ea).trans e3) w3 (rs.ext e3)⟩)
  refine wpAny_Call_Name_kw (ld_glob I hg hm ?_ hdb)
  exact PySem.W.callWith_K (h₀ := X.base) I.ok.mod.kin M.kp (thn arg fun us s2 ⟨vs, H2, I2, r, q⟩ => ⟨I2.kIn, mk_run (E' := WE W) M F hr hb (passAt tk ς) I2 r q⟩) he hpl
end
end
end MP
/-! MPExp2: built-in calls, methods, ranges, what is walked, targets, comprehensions. -/
namespace MP
open PySem PySem.Spec PyProof.Rows L2

/-! ### built-in functions -/
def bltName : Bl → String
  | .len => "len" | .abs => "abs" | .max => "max" | .min => "min" | .sum => "sum" | .any => "any" | .all => "all" | .int => "int" | .bool => "bool" | .list => "list" | .tuple => "tuple" | .dict => "dict"
def bltTy : Bl → Bool
  | .int => true | .bool => true | .list => true | .tuple => true | .dict => true | _ => false
def bltVal (b : Bl) : Value := if bltTy b = true then .type (bltName b) else .builtin (bltName b)
theorem blt_boot (b : Bl) : bootBuiltins (Str.ofString (bltName b)) = some (bltVal b) := by
  cases b <;> decide +kernel
theorem blt_nn (b : Bl) : Str.ofString (bltName b) ≠ "__name__" := by cases b <;> decide +kernel
theorem blt_nd (b : Bl) : (Str.ofString (bltName b) == ("__debug__" : Str)) = false := by cases b <;> decide +kernel
/-! list.extend with a list or a tuple -/
theorem meets_extend (l : Addr) (items : Array Value) (n : Nat) (b : Addr) {T : String} (items2 : Array Value) (hT : T = "list" ∨ T = "tuple") (hlong : (!items.isEmpty && Builtin.List.listTooLong (items.size + items2.size)) = false)
    (hc1 : items.size ≤ sizeLine) (hz : (items ++ items2).size ≤ sizeLine + 1) :
    Meets (Builtin.«list.extend» ⟨[.ref l, .ref b], []⟩) (fun _ R s => s.heap.get? l = some { cls := .type "list", dict := none, data := .seq items n, slots := #[] } ∧
      (∃ o n2, s.heap.get? b = some o ∧ o.cls = .type T ∧ o.data = .seq items2 n2) ∧ R (.ok (.ret Value.none)) { s with heap := s.heap.update l (Obj.mapSeq fun x => x ++ items2), toks := s.toks }) := fun prog w A R s h => by
  obtain ⟨hl, ⟨o, n2, ho, hc, hd⟩, hR⟩ := h
  show wpAny _ A.in1 (Builtin.List.listExtendWith (.ref l) (.ref b) .none) _ _ s
  unfold Builtin.List.listExtendWith
  refine wpAny_bind (wpAny_typeOf ⟨o, ho, hc⟩ ?_)
  have h1 : (Builtin.List.listSameRef (.ref l) (.ref b) || Value.type T == Value.type "list" || Value.type T == Value.type "tuple") = true := by
    rcases hT with rfl | rfl <;> simp
  simp only [h1, if_true]
  refine wpAny_bind ?_
  unfold Builtin.List.listItems
  refine wpAny_bind (wpAny_seqItems ho hd (wpAny_pure ?_))
  refine wpAny_bind ?_
  refine wpAny_bind (wpAny_seqItems hl rfl (wpAny_pure ?_))
  simp only [hlong, Bool.false_eq_true, if_false]
  show wpAny _ A.in1 (updateSeq l (· ++ items2) >>= fun _ => ret .none) _ _ s
  refine wpAny_bind (wpAny_updateSeq hl rfl (hz := hc1) (_hz' := hz) ?_)
  exact wpAny_pure hR
def rExtendG (K : PySem.W.Frag) : V → List V → Hp → VK → Prop := fun x vs H Q => ∃ l b xs zs, x = .ref l ∧ vs = [.ref b] ∧ H l = some (.lst xs) ∧ (H b = some (.lst zs) ∨ SqT K H b zs) ∧ xs.length + zs.length ≤ sizeLine ∧ Q .non (upd H l (.lst (xs ++ zs)))
theorem mt_extendG {X : Cx} : MtM X "list.extend" (rExtendG X.K) := by
  intro pins s σ H x vs v us Q I rx rv h
  obtain ⟨l, b, xs, zs, rfl, rfl, hH, hB, hz, q⟩ := h
  cases rx
  obtain ⟨u, rfl, ru⟩ := rv.one
  cases ru
  obtain ⟨z, its, n, r, hl, e⟩ := I.lstM hH
  obtain ⟨T, its2, o, n2, hT, r2, e2, ec, ed, hl2⟩ : ∃ (T : String) (its2 : List Value) (o : Obj) (n2 : Nat), (T = "list" ∨ T = "tuple") ∧ Vals zs its2 ∧ s.heap.get? b = some o ∧ o.cls = .type T ∧ o.data = .seq its2.toArray n2 ∧ zs.length = its2.length := by
    rcases hB with hB | hB
    · obtain ⟨z2, its2, n2, r2, hl2, e2⟩ := I.lstM hB
      exact ⟨"list", its2, _, n2, .inl rfl, r2, e2, rfl, rfl, hl2⟩
    · obtain ⟨its2, r2, ⟨o, ho, hc, n2, hd⟩, z2⟩ := I.tuple hB
      exact ⟨"tuple", its2, o, n2, .inr rfl, r2, ho, hc, hd, r2.length⟩
  have hsz : its.toArray.size + its2.toArray.size ≤ sizeLine := by rw [List.size_toArray, List.size_toArray]; omega
  have hlong : (!its.toArray.isEmpty && Builtin.List.listTooLong (its.toArray.size + its2.toArray.size)) = false := by
    rw [notLongL hsz, Bool.and_false]
  refine call_meets F.slot_list_extend ⟨_, e, rfl⟩ F.entry_list_extend (F.args_list_extend_2 _ _)
    (meets_extend l its.toArray n b its2.toArray hT hlong (by rw [List.size_toArray]; omega) (by rw [Array.size_append]; omega)) ⟨e, ⟨o, n2, e2, ec, ed⟩, ?_⟩
  refine ⟨.non, _, I.lset (its' := its ++ its2) hH e (by simp) (r.append r2) ?_, rfl, q⟩
  rw [List.length_append]
  omega
section
variable (K : PySem.W.Frag)
def rListOf : List V → Hp → VK → Prop := fun xs H Q => ∃ p ys, xs = [.ref p] ∧ (SqL K H p ys ∨ SqT K H p ys) ∧ ∀ l, H l = none → Q (.ref l) (upd H l (.lst ys))
def rTupleOf : List V → Hp → VK → Prop := fun xs H Q => ∃ p ys, xs = [.ref p] ∧ ((SqL K H p ys ∧ ∀ l, H l = none → Q (.ref l) (upd H l (.tup ys))) ∨ (SqT K H p ys ∧ Q (.ref p) H))
def rLenSeq : List V → Hp → VK → Prop := fun xs H Q => ∃ p ys, xs = [.ref p] ∧ (SqL K H p ys ∨ SqT K H p ys) ∧ Q (.int ys.length) H
def rLenStr : List V → Hp → VK → Prop := fun xs H Q => ∃ z, xs = [.str z] ∧ z.length ≤ sizeLine ∧ Q (.int z.length) H
def rInt1 : List V → Hp → VK → Prop := fun xs H Q => (∃ i, xs = [.int i] ∧ Q (.int i) H) ∨ ∃ k, xs = [.bl k] ∧ Q (.int (if k then 1 else 0)) H
def rBool1 : List V → Hp → VK → Prop := fun xs H Q => (∃ i, xs = [.int i] ∧ Q (.bl (i != 0)) H) ∨ ∃ k, xs = [.bl k] ∧ Q (.bl k) H
def rLenD : List V → Hp → VK → Prop := fun xs H Q => ∃ a kvs, xs = [V.ref a] ∧ H a = some (.dK kvs) ∧ Q (.int kvs.length) H
def rDictOf : List V → Hp → VK → Prop := fun xs H Q => ∃ (a : Addr) (kvs : List (Key × V)), xs = [.ref a] ∧ Rd H a (.dK kvs) ∧ ∀ p, H p = none → Q (.ref p) (upd H p (.dK kvs))
def blR : Bl → List V → Hp → VK → Prop
  | .len => fun xs H Q => rLenSeq K xs H Q ∨ rLenStr xs H Q ∨ rLenD xs H Q
  | .abs => fun xs H Q => ∃ i, xs = [.int i] ∧ Q (.int (if i < 0 then -i else i)) H
  | .max => fun xs H Q => ∃ i j, xs = [.int i, .int j] ∧ Q (.int (if j > i then j else i)) H
  | .min => fun xs H Q => ∃ i j, xs = [.int i, .int j] ∧ Q (.int (if j < i then j else i)) H
  | .sum => rSum K
  | .any => rAny K
  | .all => rAll K
  | .int => rInt1
  | .bool => rBool1
  | .list => rListOf K
  | .tuple => rTupleOf K
  | .dict => rDictOf
end
theorem blt_ok {X : Cx} (hc : X.calm = true) (b : Bl) : CallR X (bltVal b) (blR X.K b) := by
  cases b with
  | len => exact call_len_seq.or (call_len_str.or call_lenD)
  | abs => exact call_abs
  | max => exact call_max2 hc
  | min => exact call_min2 hc
  | sum => exact cr_sum hc
  | any => exact cr_any hc
  | all => exact cr_all hc
  | int => exact call_int1
  | bool => exact call_bool1
  | list => exact call_list_of
  | tuple => exact call_tuple_of
  | dict => exact call_dictD
section
variable {K : PySem.W.Frag} {ρ : Nat → Addr} {n : Nat} {S : Sto} {H : Hp} {Q : VK}
theorem intsOf_rd : ∀ {xs : List D} {vs : List V} {ns : List Int}, RDs K ρ n H xs vs → intsOf xs = some ns → vs = ns.map V.int
  | [], _, ns, .nil, h => by
    have e : ns = [] := (Option.some.inj h).symm
    rw [e]; rfl
  | .int i :: r, _, ns, .cons (.int _) t, h => by
    cases e : intsOf r with
    | none => simp [intsOf, e] at h
    | some ms =>
      have e2 : i :: ms = ns := by simpa [intsOf, e] using h
      rw [← e2, intsOf_rd t e]; rfl
  | .non :: _, _, _, _, h => by cases h
  | .bl _ :: _, _, _, _, h => by cases h
  | .str _ :: _, _, _, _, h => by cases h
  | .tup _ :: _, _, _, _, h => by cases h
  | .klst _ :: _, _, _, _, h => by cases h
  | .ref _ :: _, _, _, _, h => by cases h
  | .fn _ :: _, _, _, _, h => by cases h
theorem blsOf_rd : ∀ {xs : List D} {vs : List V} {ns : List Bool}, RDs K ρ n H xs vs → blsOf xs = some ns → vs = ns.map V.bl
  | [], _, ns, .nil, h => by
    have e : ns = [] := (Option.some.inj h).symm
    rw [e]; rfl
  | .bl i :: r, _, ns, .cons (.bl _) t, h => by
    cases e : blsOf r with
    | none => simp [blsOf, e] at h
    | some ms =>
      have e2 : i :: ms = ns := by simpa [blsOf, e] using h
      rw [← e2, blsOf_rd t e]; rfl
  | .non :: _, _, _, _, h => by cases h
  | .int _ :: _, _, _, _, h => by cases h
  | .str _ :: _, _, _, _, h => by cases h
  | .tup _ :: _, _, _, _, h => by cases h
  | .klst _ :: _, _, _, _, h => by cases h
  | .ref _ :: _, _, _, _, h => by cases h
  | .fn _ :: _, _, _, _, h => by cases h
theorem blt_of {b : Bl} {xs : List D} {vs : List V} (w : Wd T K ρ S H) (r : RDs K ρ S.length H xs vs) (h : wpBlt b xs S (Pst T K ρ S.length H Q)) : blR K b vs H Q := by
  unfold wpBlt at h
  split at h
  · cases r with | cons r t => cases t; cases r with | tup q s => exact .inl ⟨_, _, rfl, .inr q, by rw [← s.length]; exact h.here w (.int _)⟩
  · cases r with | cons r t => cases t; cases r with | klst q s => exact .inl ⟨_, _, rfl, .inl q.l, by rw [← s.length]; exact h.here w (.int _)⟩
  · split at h
    · rename_i ys e
      cases r with | cons r t => cases t; cases r; obtain ⟨us, q, s⟩ := w.lstAt e; exact .inl ⟨_, _, rfl, .inl (.inl (.inl q)), by rw [← s.length]; exact h.here w (.int _)⟩
    · rename_i kvs e
      cases r with
      | cons r t =>
        cases t; cases r
        obtain ⟨us, q, ke, s⟩ := w.ob _ _ e
        have hl : kvs.length = us.length := by have := congrArg List.length ke; simpa using this
        exact .inr (.inr ⟨_, _, rfl, q, by rw [← hl]; exact h.here w (.int _)⟩)
    · exact h.elim
  · split at h
    · rename_i kvs e
      obtain ⟨fz, e⟩ := dkOf_some e
      cases r with
      | cons r t =>
        cases t; cases r
        obtain ⟨us, q, ke, s⟩ := w.dkAt e
        exact ⟨_, us, rfl, q, fun p hp => h.dk w ke s hp⟩
    · exact h.elim
  · cases r with | cons r t => cases t; cases r; exact .inr (.inl ⟨_, rfl, h.1, h.2.here w (.int _)⟩)
  · cases r with | cons r t => cases t; cases r; exact ⟨_, rfl, h.here w (.int _)⟩
  · cases r with | cons r t => cases t with | cons r2 t2 => cases t2; cases r; cases r2; exact ⟨_, _, rfl, h.here w (.int _)⟩
  · cases r with | cons r t => cases t with | cons r2 t2 => cases t2; cases r; cases r2; exact ⟨_, _, rfl, h.here w (.int _)⟩
  · split at h
    · rename_i ys e
      cases r with | cons r t => cases t; cases r; obtain ⟨zs, e1, e2⟩ := Option.bind_eq_some_iff.mp e; obtain ⟨us, q, s⟩ := w.seqAt e1; rw [intsOf_rd s e2] at q; exact ⟨_, _, rfl, q, h.here w (.int _)⟩
    · exact h.elim
  · split at h
    · rename_i ys e
      cases r with | cons r t => cases t; cases r; obtain ⟨zs, e1, e2⟩ := Option.bind_eq_some_iff.mp e; obtain ⟨us, q, s⟩ := w.seqAt e1; rw [blsOf_rd s e2] at q; exact ⟨_, _, rfl, q, h.here w (.bl _)⟩
    · exact h.elim
  · split at h
    · rename_i ys e
      cases r with | cons r t => cases t; cases r; obtain ⟨zs, e1, e2⟩ := Option.bind_eq_some_iff.mp e; obtain ⟨us, q, s⟩ := w.seqAt e1; rw [blsOf_rd s e2] at q; exact ⟨_, _, rfl, q, h.here w (.bl _)⟩
    · exact h.elim
  · cases r with | cons r t => cases t; cases r; exact .inl ⟨_, rfl, h.here w (.int _)⟩
  · cases r with | cons r t => cases t; cases r; exact .inr ⟨_, rfl, h.here w (.int _)⟩
  · cases r with | cons r t => cases t; cases r; exact .inl ⟨_, rfl, h.here w (.bl _)⟩
  · cases r with | cons r t => cases t; cases r; exact .inr ⟨_, rfl, h.here w (.bl _)⟩
  · cases r with | cons r t => cases t; cases r with | tup q s => exact ⟨_, _, rfl, .inr q, fun l hl => h.lst w s hl⟩
  · cases r with | cons r t => cases t; cases r with | klst q s => exact ⟨_, _, rfl, .inl q.l, fun l hl => h.lst w s hl⟩
  · split at h
    · rename_i ys e
      cases r with | cons r t => cases t; cases r; obtain ⟨us, q, s⟩ := w.seqAt e; exact ⟨_, _, rfl, .inl q, fun l hl => h.lst w s hl⟩
    · exact h.elim
  · cases r with | cons r t => cases t; cases r with | tup q s => exact ⟨_, _, rfl, .inr ⟨q, h.here w (.tup q s)⟩⟩
  · split at h
    · rename_i ys e
      cases r with | cons r t => cases t; cases r; obtain ⟨us, q, s⟩ := w.seqAt e; exact ⟨_, _, rfl, .inl ⟨q, fun l hl => h.tup w s hl⟩⟩
    · exact h.elim
  · exact h.elim
end
/-! ### isinstance -/
def tyName : Ty → String
  | .int => "int" | .bool => "bool" | .str => "str" | .tuple => "tuple" | .list => "list" | .dict => "dict"
theorem ty_boot (b : Ty) : bootBuiltins (Str.ofString (tyName b)) = some (.type (tyName b)) := by cases b <;> decide +kernel
theorem ty_nn (b : Ty) : Str.ofString (tyName b) ≠ "__name__" := by cases b <;> decide +kernel
theorem ty_nd (b : Ty) : (Str.ofString (tyName b) == ("__debug__" : Str)) = false := by cases b <;> decide +kernel
theorem kit_int (t : Ty) : kitB "int" (tyName t) = some (match t with | .int => true | _ => false) := by cases t <;> decide +kernel
theorem kit_bool (t : Ty) : kitB "bool" (tyName t) = some (match t with | .int => true | .bool => true | _ => false) := by cases t <;> decide +kernel
theorem kit_str (t : Ty) : kitB "str" (tyName t) = some (match t with | .str => true | _ => false) := by cases t <;> decide +kernel
theorem kit_non (t : Ty) : kitB "NoneType" (tyName t) = some false := by cases t <;> decide +kernel
theorem kit_tuple (t : Ty) : kitB "tuple" (tyName t) = some (match t with | .tuple => true | _ => false) := by cases t <;> decide +kernel
theorem kit_list (t : Ty) : kitB "list" (tyName t) = some (match t with | .list => true | _ => false) := by cases t <;> decide +kernel
theorem kit_dict (t : Ty) : kitB "dict" (tyName t) = some (match t with | .dict => true | _ => false) := by cases t <;> decide +kernel
theorem isTy_of {K : PySem.W.Frag} {ρ : Nat → Addr} {S : Sto} {H : Hp} {x : D} {v : V} {t : Ty} {b : Bool} (w : Wd T K ρ S H) (r : RD K ρ S.length H x v) (h : isTy x t S = some b) : ∃ u, TyX K H v u ∧ PySem.W.kitOne K u (.type (tyName t)) = some b := by
  cases r with
  | non => exact ⟨_, .base .non, kit_ty (by rw [kit_non]; exact h)⟩
  | bl k => exact ⟨_, .base (.bl _), kit_ty (by rw [kit_bool]; exact h)⟩
  | int k => exact ⟨_, .base (.int _), kit_ty (by rw [kit_int]; exact h)⟩
  | str k => exact ⟨_, .base (.str _), kit_ty (by rw [kit_str]; exact h)⟩
  | tup q s =>
    have k := kit_ty (K := K) (a := "tuple") (b := tyName t) (r := b) (by rw [kit_tuple]; exact h)
    rcases q with (q | ⟨o, q⟩) | ⟨o, its, m, q, e, _⟩
    · exact ⟨_, .base (.tup q), k⟩
    · exact ⟨_, .fTuple q, k⟩
    · exact ⟨_, .kTuple q e, k⟩
  | klst q s => cases h
  | fn _ => cases h
  | ref hl =>
    simp only [isTy] at h
    split at h
    · rename_i xs e
      obtain ⟨vs, q, s⟩ := w.lstAt e
      exact ⟨_, .base (.lst q), kit_ty (by rw [kit_list]; exact h)⟩
    · rename_i fz kvs e
      have k := kit_ty (K := K) (a := "dict") (b := tyName t) (r := b) (by rw [kit_dict]; exact h)
      obtain ⟨vs, q, _⟩ := w.dkAt e
      rcases q with q | ⟨o, q⟩
      · exact ⟨_, .base (.dK q), k⟩
      · exact ⟨_, .fDict q, k⟩
    · cases h

theorem isDk_of {T : Tbl} {K : PySem.W.Frag} {ρ : Nat → Addr} {S : Sto} {H : Hp} {x : D} {v : V} (w : Wd T K ρ S H) (r : RD K ρ S.length H x v) (h : isDk x S) : ∃ a, x = .ref a ∧ a < S.length ∧ v = .ref (ρ a) ∧ IsD H (ρ a) := by
  cases r with
  | ref hl =>
    obtain ⟨kvs, e⟩ := h
    obtain ⟨fz, e⟩ := dkOf_some e
    obtain ⟨vs, q, _⟩ := w.dkAt e
    exact ⟨_, rfl, hl, rfl, .inl ⟨vs, q⟩⟩
  | _ => exact h.elim
theorem get_of {T : Tbl} {K : PySem.W.Frag} {ρ : Nat → Addr} {S : Sto} {H : Hp} {a : Nat} {y z : D} {u t : V} {Q : VK} (w : Wd T K ρ S H) (r : RD K ρ S.length H y u) (rz : RD K ρ S.length H z t) (h : wpGet (.ref a) y z S (Pst T K ρ S.length H Q)) : ∃ o, DGet H (ρ a) u o ∧ Q (o.getD t) H := by
  simp only [wpGet] at h
  split at h
  · rename_i kvs k e hk
    obtain ⟨fz, e⟩ := dkOf_some e
    obtain ⟨o, g, m⟩ := dget_of w e hk r
    refine ⟨o, g, ?_⟩
    split at m
    · rename_i d hd
      obtain ⟨v, rfl, rv⟩ := m
      rw [hd] at h
      exact h.here w rv
    · rename_i hd
      rw [m]
      rw [hd] at h
      exact h.here w rz
  · exact h.elim
theorem recv_lst {K : PySem.W.Frag} {ρ : Nat → Addr} {S : Sto} {H : Hp} {m : Mt} {x : D} {v : V} (hm : m ≠ .bits) (w : Wd T K ρ S H) (r : RD K ρ S.length H x v) (h : mtRecv m x S) : ∃ (a : Nat) (xs : List D), (x = .ref a ∧ v = .ref (ρ a)) ∧ S[a]? = some (.lst xs) ∧ ∃ us, H (ρ a) = some (.lst us) := by
  unfold mtRecv at h
  split at h
  · exact absurd rfl hm
  · exact h.elim
  · split at h
    · rename_i xs e
      cases r
      obtain ⟨vs, e3, r3⟩ := w.lstAt e
      exact ⟨_, xs, ⟨rfl, rfl⟩, e, vs, e3⟩
    · exact h.elim
  · exact h.elim

section
variable {X : Cx} {T : Tbl} {c : CallT} {W : WX} {pos : Pos} (hc : CallMono c c) {a b d e o : Expr} {xa xb xd xo : MX} {es : List Expr} {xs : MXs}
include hc
theorem sd_blt {f : Bl} {p : Pos} (cm : X.calm = true) (hg : Gl X (Str.ofString (bltName f))) (hm : X.mg (Str.ofString (bltName f)) = none) (ha : PA X (e :: es) (tA T X.K c W xs)) (he : starEach (e :: es) X.env = (false, eval e X.env) :: starEach es X.env) (hpl : (backTo pos (starEach es X.env)).any (·.1) = false) :
    PE X (.Call (.Name (Str.ofString (bltName f)) p) (e :: es) [] pos) (tE T X.K c W (.blt f xs)) := by
  have hv := blt_boot f
  have hk := blt_ok cm f
  have nn := blt_nn f
  have nd := blt_nd f
  have go : PE X (.Call (.Name (Str.ofString (bltName f)) p) (e :: es) [] pos) (tCB (blR X.K f) (tA T X.K c W xs)) := by
    unfold bltVal at hv hk
    by_cases ht : bltTy f = true
    · rw [if_pos ht] at hv hk
      exact pe_callTy hk hg hm hv ha nn nd he hpl
    · rw [if_neg ht] at hv hk
      exact pe_callB hk hg hm hv ha nn nd he hpl
  refine impE go fun ς H Q ⟨ρ, σ, S, E, s, h⟩ => ?_
  unfold wpE at h
  exact tA_of hc s h fun y S2 ρ2 H2 u h2 e2 w2 r2 => blt_of w2 r2 (wpBlt_mono h2 fun d S' q => q.ext e2)
theorem sd_isi {t : Ty} {p p2 : Pos} (hg : Gl X "isinstance") (hm : X.mg "isinstance" = none) (hg2 : Gl X (Str.ofString (tyName t))) (hm2 : X.mg (Str.ofString (tyName t)) = none) (ha : PE X a (tE T X.K c W xa)) (he : starEach [a, .Name (Str.ofString (tyName t)) p2] X.env = (false, eval a X.env) :: starEach [.Name (Str.ofString (tyName t)) p2] X.env) :
    PE X (.Call (.Name "isinstance" p) [a, .Name (Str.ofString (tyName t)) p2] [] pos) (tE T X.K c W (.isi xa t)) := by
  have hT : PE X (.Name (Str.ofString (tyName t)) p2) (tC (.ty (tyName t))) := pe_bltn hg2 hm2 (ty_boot t) rfl (ty_nn t) (ty_nd t)
  refine impE (pe_callB call_isi hg hm boot_isinstance (pa_cons ha (pa_cons hT pa_nil) he) (by decide +kernel) (by decide +kernel) he rfl) fun ς H Q ⟨ρ, σ, S, E, s, h⟩ => ?_
  unfold wpE at h
  refine tE_of hc s h fun x S1 ρ1 H1 v h1 e1 w1 r1 => ?_
  split at h1
  · rename_i k ek
    obtain ⟨u, ty, kk⟩ := isTy_of w1 r1 ek
    exact ⟨v, .ty (tyName t), u, _, k, rfl, .ty _, ty, kk, (Pst.ext e1 h1).here w1 (.bl _)⟩
  · exact h1.elim
/-! ### list(range(..)), tuple(range(..)) -/
theorem sd_lrg1 {p p2 p3 : Pos} (cm : X.calm = true) (hg : Gl X "list") (hm : X.mg "list" = none) (hg2 : Gl X "range") (hm2 : X.mg "range" = none) (ha : PE X a (tE T X.K c W xa)) (na : starEach [a] X.env = (false, eval a X.env) :: starEach [] X.env) :
    PE X (.Call (.Name "list" p) [.Call (.Name "range" p2) [a] [] p3] [] pos) (tE T X.K c W (.listRg (.cons xa .nil))) := impE (pe_listRg cm hg hm (prg_1 hg2 hm2 ha na) rfl) fun ς H Q ⟨ρ, σ, S, E, s, h⟩ => by
  simp only [wpE, wpEs] at h
  refine tE_of hc s h fun x S1 ρ1 H1 v h1 e1 w1 r1 => ?_
  unfold wpRg at h1
  split at h1
  · rename_i j hj
    cases hj
    cases r1
    exact ⟨_, rfl, h1.1, fun q hq => (Pst.ext e1 h1.2).lst w1 (.rg _ _) hq⟩
  · rename_i hj; cases hj
  · exact h1.elim
theorem sd_lrg2 {p p2 p3 : Pos} (cm : X.calm = true) (hg : Gl X "list") (hm : X.mg "list" = none) (hg2 : Gl X "range") (hm2 : X.mg "range" = none) (ha : PE X a (tE T X.K c W xa)) (hb : PE X b (tE T X.K c W xb)) (na : starEach [a, b] X.env = (false, eval a X.env) :: starEach [b] X.env) (nb : starEach [b] X.env = (false, eval b X.env) :: starEach [] X.env) :
    PE X (.Call (.Name "list" p) [.Call (.Name "range" p2) [a, b] [] p3] [] pos) (tE T X.K c W (.listRg (.cons xa (.cons xb .nil)))) := impE (pe_listRg cm hg hm (prg_2 hg2 hm2 ha hb na nb (by rw [nb]; rfl)) rfl) fun ς H Q ⟨ρ, σ, S, E, s, h⟩ => by
  simp only [wpE, wpEs] at h
  refine tE_of hc s h fun x S1 ρ1 H1 v h1 e1 w1 r1 => tE_of hc (s.next e1 w1) h1 fun y S2 ρ2 H2 u h2 e2 w2 r2 => ?_
  unfold wpRg at h2
  split at h2
  · rename_i hj; cases hj
  · rename_i i j hj
    cases hj
    cases r1
    cases r2
    exact ⟨_, _, rfl, rfl, h2.1, fun q hq => (Pst.ext (e1.trans e2) h2.2).lst w2 (.rg _ _) hq⟩
  · exact h2.elim
/-! ### methods -/
theorem sd_append {apos : Pos} (hbase : attributeBase o "append" X.env (eval o X.env) = eval o X.env) (hline : (apos.endLine == pos.line) = true) (ho : PE X o (tE T X.K c W xo)) (ha : PE X a (tE T X.K c W xa)) (hs : starEach [a] X.env = (false, eval a X.env) :: starEach [] X.env) :
    PE X (.Call (.Attribute o "append" apos) [a] [] pos) (tE T X.K c W (.meth .append xo (.cons xa .nil))) := impE (pe_bm PySem.F.plainAttrs_list PySem.F.slot_list_append PySem.F.type_list_append mt_append ho (pa_cons ha pa_nil hs) hbase (by rw [hs]; rfl) hline hs rfl) fun ς H Q ⟨ρ, σ, S, E, s, h⟩ => by
  simp only [wpE, wpEs] at h
  refine tE_of hc s h fun x S1 ρ1 H1 v h1 e1 w1 r1 => ?_
  obtain ⟨a, xs, ea, hl, us, hu⟩ := recv_lst (by decide) w1 r1 h1.1
  obtain ⟨rfl, rfl⟩ := ea
  refine ⟨.inl ⟨rfl, us, .inl (.inl hu)⟩, tE_of hc (s.next e1 w1) h1.2 fun y S2 ρ2 H2 u h2 e2 w2 r2 => ?_⟩
  rw [← e2.ag _ (w1.lt hl)]
  simp only [wpMeth] at h2
  split at h2
  · rename_i ys ey
    obtain ⟨vs, e3, r3⟩ := w2.lstAt ey
    exact ⟨_, _, _, rfl, rfl, e3, by rw [← r3.length]; exact h2.1, h2.2 ρ2 _ _ ((e1.trans e2).trans (Ext.setL (w2.lt ey) e3)) (w2.setL ey e3 (r3.append (.cons r2 .nil))) .non⟩
  · exact h2.elim
theorem sd_extend {apos : Pos} (hbase : attributeBase o "extend" X.env (eval o X.env) = eval o X.env) (hline : (apos.endLine == pos.line) = true) (ho : PE X o (tE T X.K c W xo)) (ha : PE X a (tE T X.K c W xa)) (hs : starEach [a] X.env = (false, eval a X.env) :: starEach [] X.env) :
    PE X (.Call (.Attribute o "extend" apos) [a] [] pos) (tE T X.K c W (.meth .extend xo (.cons xa .nil))) := impE (pe_bm PySem.F.plainAttrs_list PySem.F.slot_list_extend PySem.F.type_list_extend mt_extendG ho (pa_cons ha pa_nil hs) hbase (by rw [hs]; rfl) hline hs rfl) fun ς H Q ⟨ρ, σ, S, E, s, h⟩ => by
  simp only [wpE, wpEs] at h
  refine tE_of hc s h fun x S1 ρ1 H1 v h1 e1 w1 r1 => ?_
  obtain ⟨a, xs, ea, hl, us, hu⟩ := recv_lst (by decide) w1 r1 h1.1
  obtain ⟨rfl, rfl⟩ := ea
  refine ⟨.inl ⟨rfl, us, .inl (.inl hu)⟩, tE_of hc (s.next e1 w1) h1.2 fun y S2 ρ2 H2 u h2 e2 w2 r2 => ?_⟩
  rw [← e2.ag _ (w1.lt hl)]
  cases r2 with
  | ref hb =>
    simp only [wpMeth] at h2
    split at h2
    · rename_i ys ey
      split at h2
      · rename_i zs ez
        obtain ⟨vs, e3, r3⟩ := w2.lstAt ey
        obtain ⟨ws, e4, r4⟩ := w2.lstAt ez
        exact ⟨_, _, _, _, rfl, rfl, e3, .inl e4, by rw [← r3.length, ← r4.length]; exact h2.1, h2.2 ρ2 _ _ ((e1.trans e2).trans (Ext.setL (w2.lt ey) e3)) (w2.setL ey e3 (r3.append r4)) .non⟩
      · exact h2.elim
    · exact h2.elim
  | tup et r4 =>
    simp only [wpMeth] at h2
    split at h2
    · rename_i zs ey
      obtain ⟨vs, e3, r3⟩ := w2.lstAt ey
      exact ⟨_, _, _, _, rfl, rfl, e3, .inr et, by rw [← r3.length, ← r4.length]; exact h2.1, h2.2 ρ2 _ _ ((e1.trans e2).trans (Ext.setL (w2.lt ey) e3)) (w2.setL ey e3 (r3.append r4)) .non⟩
    · exact h2.elim
  | _ => exact h2.elim
theorem sd_pop {apos : Pos} (hbase : attributeBase o "pop" X.env (eval o X.env) = eval o X.env) (hline : (apos.endLine == pos.line) = true) (ho : PE X o (tE T X.K c W xo)) :
    PE X (.Call (.Attribute o "pop" apos) [] [] pos) (tE T X.K c W (.meth .pop xo .nil)) := impE (pe_bm0 PySem.F.plainAttrs_list PySem.F.slot_list_pop PySem.F.type_list_pop mt_pop ho hbase hline) fun ς H Q ⟨ρ, σ, S, E, s, h⟩ => by
  simp only [wpE, wpEs] at h
  refine tE_of hc s h fun x S1 ρ1 H1 v h1 e1 w1 r1 => ?_
  obtain ⟨a, xs, ea, hl, us, hu⟩ := recv_lst (by decide) w1 r1 h1.1
  obtain ⟨rfl, rfl⟩ := ea
  refine ⟨.inl ⟨rfl, us, .inl (.inl hu)⟩, ?_⟩
  have h2 := h1.2
  simp only [wpMeth] at h2
  split at h2
  · rename_i ys ey
    split at h2
    · rename_i y e4
      obtain ⟨vs, e3, r3⟩ := w1.lstAt ey
      obtain ⟨z, e5, rz⟩ := r3.get e4
      rw [r3.length] at e5
      have ex : Ext X.K ρ1 S1.length H1 ρ1 (S1.set a (.lst ys.dropLast)).length (upd H1 (ρ1 a) (.lst vs.dropLast)) := Ext.setL (w1.lt ey) e3
      exact ⟨_, _, z, rfl, rfl, e3, e5, h2 ρ1 _ _ (e1.trans ex) (w1.setL ey e3 r3.dropLast) (rz.ext ex)⟩
    · exact h2.elim
  · exact h2.elim
theorem sd_popAt {apos : Pos} (hbase : attributeBase o "pop" X.env (eval o X.env) = eval o X.env) (hline : (apos.endLine == pos.line) = true) (ho : PE X o (tE T X.K c W xo)) (ha : PE X a (tE T X.K c W xa)) (hs : starEach [a] X.env = (false, eval a X.env) :: starEach [] X.env) :
    PE X (.Call (.Attribute o "pop" apos) [a] [] pos) (tE T X.K c W (.meth .popAt xo (.cons xa .nil))) := impE (pe_bm PySem.F.plainAttrs_list PySem.F.slot_list_pop PySem.F.type_list_pop mt_popAt ho (pa_cons ha pa_nil hs) hbase (by rw [hs]; rfl) hline hs rfl) fun ς H Q ⟨ρ, σ, S, E, s, h⟩ => by
  simp only [wpE, wpEs] at h
  refine tE_of hc s h fun x S1 ρ1 H1 v h1 e1 w1 r1 => ?_
  obtain ⟨a, xs, ea, hl, us, hu⟩ := recv_lst (by decide) w1 r1 h1.1
  obtain ⟨rfl, rfl⟩ := ea
  refine ⟨.inl ⟨rfl, us, .inl (.inl hu)⟩, tE_of hc (s.next e1 w1) h1.2 fun y S2 ρ2 H2 u h2 e2 w2 r2 => ?_⟩
  rw [← e2.ag _ (w1.lt hl)]
  cases r2 with
  | int i =>
    simp only [wpMeth] at h2
    split at h2
    · rename_i ys ey
      split at h2
      · rename_i k ek
        split at h2
        · rename_i y e4
          obtain ⟨vs, e3, r3⟩ := w2.lstAt ey
          obtain ⟨z, e5, rz⟩ := r3.get e4
          have e6 := (ixN_seq ek).1
          rw [r3.length] at e6
          have ex : Ext X.K ρ2 S2.length H2 ρ2 (S2.set a (.lst (ys.eraseIdx k))).length (upd H2 (ρ2 a) (.lst (vs.eraseIdx k))) := Ext.setL (w2.lt ey) e3
          exact ⟨_, _, i, k, z, rfl, rfl, e3, h2.1.1, h2.1.2, e6, e5, h2.2 ρ2 _ _ ((e1.trans e2).trans ex) (w2.setL ey e3 (r3.eraseIdx k)) (rz.ext ex)⟩
        · exact h2.elim
      · exact h2.elim
    · exact h2.elim
  | _ => exact h2.elim
theorem sd_bits {apos : Pos} (hbase : attributeBase o "bit_length" X.env (eval o X.env) = eval o X.env) (hline : (apos.endLine == pos.line) = true) (ho : PE X o (tE T X.K c W xo)) :
    PE X (.Call (.Attribute o "bit_length" apos) [] [] pos) (tE T X.K c W (.meth .bits xo .nil)) := impE (pe_bits ho hbase hline) fun ς H Q ⟨ρ, σ, S, E, s, h⟩ => by
  simp only [wpE, wpEs] at h
  refine tE_of hc s h fun x S1 ρ1 H1 v h1 e1 w1 r1 => ?_
  cases r1 with
  | int i => exact ⟨i, rfl, (Pst.ext e1 (show Pst T X.K ρ S.length H Q _ S1 from h1.2)).here w1 (.int _)⟩
  | _ => exact h1.1.elim
/-! ### dicts -/
theorem sd_dnew : PE X (.Dict [] [] pos) (tE T X.K c W .dnew) := impE pe_dnewK fun ς H Q ⟨ρ, σ, S, E, s, h⟩ p hp => by
  simp only [wpE] at h
  exact Pst.dk s.wd h rfl .nil hp
theorem sd_dget {apos : Pos} (hu : X.A.units + 65 < cLine) (hbase : attributeBase o "get" X.env (eval o X.env) = eval o X.env) (hline : (apos.endLine == pos.line) = true) (ho : PE X o (tE T X.K c W xo)) (ha : PE X a (tE T X.K c W xa)) (hs : starEach [a] X.env = [(false, eval a X.env)]) :
    PE X (.Call (.Attribute o "get" apos) [a] [] pos) (tE T X.K c W (.dget xo xa)) := impE (pe_dget1 (by omega) ho ha ⟨hbase, by rw [hs]; rfl, hline, by rw [hs]; rfl⟩) fun ς H Q ⟨ρ, σ, S, E, s, h⟩ => by
  simp only [wpE] at h
  refine tE_of hc s h fun x S1 ρ1 H1 v h1 e1 w1 r1 => ?_
  obtain ⟨a, rfl, hl, rfl, d⟩ := isDk_of w1 r1 h1.1
  refine ⟨_, rfl, d, tE_of hc (s.next e1 w1) h1.2 fun y S2 ρ2 H2 u h2 e2 w2 r2 => ?_⟩
  rw [← e2.ag _ hl]
  exact get_of w2 r2 .non (wpGet_mono h2 fun d S' q => q.ext (e1.trans e2))
theorem sd_dget2 {apos : Pos} (hu : X.A.units + 65 < cLine) (hbase : attributeBase o "get" X.env (eval o X.env) = eval o X.env) (hline : (apos.endLine == pos.line) = true) (ho : PE X o (tE T X.K c W xo)) (ha : PE X a (tE T X.K c W xa)) (hb : PE X b (tE T X.K c W xb)) (hs : starEach [a, b] X.env = [(false, eval a X.env), (false, eval b X.env)]) :
    PE X (.Call (.Attribute o "get" apos) [a, b] [] pos) (tE T X.K c W (.dget2 xo xa xb)) := impE (pe_dget2 (by omega) ho ha hb ⟨hbase, by rw [hs]; rfl, hline, by rw [hs]; rfl⟩) fun ς H Q ⟨ρ, σ, S, E, s, h⟩ => by
  simp only [wpE] at h
  refine tE_of hc s h fun x S1 ρ1 H1 v h1 e1 w1 r1 => ?_
  obtain ⟨a, rfl, hl, rfl, d⟩ := isDk_of w1 r1 h1.1
  refine ⟨_, rfl, d, tE_of hc (s.next e1 w1) h1.2 fun y S2 ρ2 H2 u h2 e2 w2 r2 => tE_of hc (s.next (e1.trans e2) w2) h2 fun z S3 ρ3 H3 t h3 e3 w3 r3 => ?_⟩
  rw [← (e2.trans e3).ag _ hl]
  exact get_of w3 (r2.ext e3) r3 (wpGet_mono h3 fun d S' q => q.ext ((e1.trans e2).trans e3))
/-! ### list(o.keys()) -/
theorem sd_keysOf {p apos kpos : Pos} (cm : X.calm = true) (hg : Gl X "list") (hm : X.mg "list" = none) (hbase : attributeBase o "keys" X.env (eval o X.env) = eval o X.env) (hline : (apos.endLine == kpos.line) = true) (ho : PE X o (tE T X.K c W xo)) :
    PE X (.Call (.Name "list" p) [.Call (.Attribute o "keys" apos) [] [] kpos] [] pos) (tE T X.K c W (.keysOf xo)) := by
  refine ⟨fun pins s ς H Q I ⟨ρ, σ, S, E, st, h⟩ => ?_⟩
  simp only [wpE] at h
  have na : starEach [.Call (.Attribute o "keys" apos) [] [] kpos] X.env = (false, eval (.Call (.Attribute o "keys" apos) [] [] kpos) X.env) :: starEach [] X.env := rfl
  refine Call_ (ld_blt I hg hm boot_list (PyProof.Rows.callWith_type1 (args_cons ?_ na) rfl))
  refine wpAny_Call_method (T := "dict") (id := "dict.keys") hbase rfl hline PySem.F.plainAttrs_dict PySem.F.slot_dict_keys PySem.F.type_dict_keys (thn (ho.run pins s ς H (fun v H1 => ∃ d kvs, v = .ref d ∧ H1 d = some (.dK kvs) ∧ ∀ q, H1 q = none → Q (.ref q) (upd H1 q (.lst (kvs.map fun kv => kV kv.1)))) I (tE_of hc st h fun x S1 ρ1 H1 v h1 e1 w1 r1 => ?_)) fun u s1 z => ?_)
  · split at h1
    · split at h1
      · rename_i kvs ey
        cases r1 with
        | ref hl =>
          obtain ⟨vs, q, ke, rd⟩ := w1.ob _ _ ey
          refine ⟨_, vs, rfl, q, fun qa hqa => ?_⟩
          refine Pst.lst w1 (Pst.ext e1 h1) ?_ hqa
          have e : (kvs.map fun kv => keyD kv.1) = (kvs.map Prod.fst).map keyD := by rw [List.map_map]; rfl
          have e' : (vs.map fun kv => kV kv.1) = (vs.map Prod.fst).map kV := by rw [List.map_map]; rfl
          rw [e, e', ke]
          generalize vs.map Prod.fst = ks
          induction ks with
          | nil => exact .nil
          | cons k r ih =>
            refine .cons ?_ ih
            cases k with
            | inl i => exact .int i
            | inr x => exact .str x
      · exact h1.elim
    · exact h1.elim
  · obtain ⟨v, H1, I1, r1, d, kvs, rfl, hk, q⟩ := z
    obtain rfl : u = Value.ref d := r1
    obtain ⟨z, lo, vs, rk, hd⟩ := (show ObjOk X.prog X.w H1 s1.heap d (.dK kvs) from I1.hok d _ hk)
    obtain ⟨ep, hat⟩ := hd.dictAt
    have hl : kvs.length = vs.length := Paired.length rk
    refine ⟨hd.typeIs, hd.mapOf.noDict, ?_⟩
    have I2 : Inv X pins ς H1 { s1 with heap := s1.heap.push { cls := .type "dict_keys", data := .fields #[.ref d] } } := I1.kept (t' := s1.toks) fun b ob q => Heap.get?_push_of_some _ q
    have fin : wpAny (model X.prog X.w) X.A (call (.type "list") [.ref s1.heap.objs.size]) (EP X pins ς Q) X.xe { s1 with heap := s1.heap.push { cls := .type "dict_keys", data := .fields #[.ref d] } } := by
      refine PySem.W.kdl_call (PySem.W.kdl_keys (knd := mixKind X.prog X.w) (kvs := vs) (ep := ep) (d := d)) (I2.ok.hd cm) ⟨⟨_, Heap.get?_push_size _ rfl, rfl, rfl⟩, hat.push _⟩ (by rw [← hl]; exact z) fun h' tk acc' c' hkeep hS hacc => ?_
      refine ⟨.ref _, upd H1 _ (.lst (kvs.map fun kv => kV kv.1)), I2.laid hkeep (Nat.le_refl _) (show ObjOk X.prog X.w _ _ _ (.lst (kvs.map fun kv => kV kv.1)) from ⟨?_, acc'.toList, c', ?_, ?_⟩), rfl, q _ (I2.hok.fresh (Nat.le_refl _))⟩
      · rw [List.length_map]; exact z
      · have el : acc'.toList.length = acc'.size := by simp
        refine vals_of_at (by rw [List.length_map, el, hacc.1, hl]) fun j x w h1 h2 => ?_
        obtain ⟨k, y, hky, hi⟩ := hacc.2 j w (by rw [← Array.getElem?_toList]; exact h2)
        have k1 : (kvs.map (·.1))[j]? = some k := by
          rw [KV.keys rk, List.getElem?_map, hky] <;> rfl
        have k2 : (kvs.map fun kv => kV kv.1)[j]? = some (kV k) := by
          have k3 : (kvs.map fun kv => kV kv.1) = (kvs.map (·.1)).map kV := by rw [List.map_map] <;> rfl
          rw [k3, List.getElem?_map, k1] <;> rfl
        rw [k2] at h1
        cases h1
        exact keyIs_rel hi
      · rw [Array.toArray_toList]; exact hS
    show wpAny _ _ (callWith kpos (.builtin "dict.keys") [.ref d] [] []) _ X.xe s1
    exact method_meetsIn PySem.F.slot_dict_keys PySem.F.entry_dict_keys rfl (PySem.evalArgs_none ⟨rfl, hd.typeIs, PySem.F.args_dict_keys_1 _, _, PySem.W.kdl_meets_keys (mixKind X.prog X.w) d lo, ⟨vs, hd⟩, args_nil fin⟩)
/-! ### instances -/
omit hc in
theorem fld_of {ρ : Nat → Addr} {S : Sto} {H : Hp} {x : D} {v : V} {f : Str} {Q : VK} (hcl : ∀ c C fo, T c = some (C, fo) → Cls X.K C ∧ NoAttr X.K C f) (w : Wd T X.K ρ S H) (r : RD X.K ρ S.length H x v) (h : wpFld x f S (Pst T X.K ρ S.length H Q)) : ∃ a C dx fs u, v = .ref a ∧ H a = some (.ins C dx fs) ∧ Cls X.K C ∧ NoAttr X.K C f ∧ fs.lookup f = some u ∧ Q u H := by
  cases r with
  | ref hl =>
    simp only [wpFld] at h
    split at h
    · rename_i c fs e
      split at h
      · rename_i d hd
        obtain ⟨C, fo, dx, vs, t, q, _, ke, rd⟩ := w.insAt e
        obtain ⟨u, hu, ru⟩ := fld_rd f ke rd d hd
        obtain ⟨c1, c2⟩ := hcl _ _ _ t
        exact ⟨_, C, dx, vs, u, rfl, q, c1, c2, hu, h.here w ru⟩
      · exact h.elim
    · exact h.elim
  | _ => exact h.elim
theorem sd_fld {f : Str} (hcl : ∀ c C fo, T c = some (C, fo) → Cls X.K C ∧ NoAttr X.K C f) (hb : attributeBase o f X.env (eval o X.env) = eval o X.env) (ho : PE X o (tE T X.K c W xo)) : PE X (.Attribute o f pos) (tE T X.K c W (.fld xo f)) := impE (pe_fld ho hb) fun ς H Q ⟨ρ, σ, S, E, s, h⟩ => by
  simp only [wpE] at h
  exact tE_of hc s h fun x S1 ρ1 H1 v h1 e1 w1 r1 => fld_of hcl w1 r1 (wpFld_mono h1 fun d S' q => q.ext e1)
end
end MP
/-! MPEnum: enumerate over a tuple, a list. -/
namespace MP
open PySem PySem.Spec PyProof.Rows L2

/-- enumerate with one argument: its new cells -/
theorem enum_new1 {v : Value} {o : Obj} {G : Heap → Prop} (B : Begins v o G) :
    Meets (Builtin.«enumerate.__new__» ⟨[.type "enumerate", v], []⟩) (fun _ R s => G s.heap ∧
      R (.ok (.ret (.ref (s.heap.push o).objs.size))) { s with heap := (s.heap.push o).push { cls := .type "enumerate", data := .fields #[.none, .bool false, .ref s.heap.objs.size, rawInt 0, .none, .none] } }) :=
  .of_wp fun prog w A R s h => by
    obtain ⟨hp, g, d, tk, os⟩ := s
    obtain ⟨g1, h⟩ := h
    have hsub := sub_enumerate
    have bi : ∀ {A' : Around} {E : Value → Shared → Prop} {Q : Value → Shared → Prop}, Q (.ref hp.objs.size) ⟨hp.push o, g, d, tk, os⟩ → wpAny (model prog w) A' (pyIter v) Q E ⟨hp, g, d, tk, os⟩ :=
      fun q => B.iter prog w _ _ ⟨hp, g, d, tk, os⟩ _ g1 q
    wp_walk using bi
    refine wpAny_stack_any fun stk => wpAny_pure ?_
    split
    · rename_i cv _ _ _ _ _
      cases (cv == Value.type "enumerate")
      · wp_walk using bi
        exact ⟨_, rfl, h⟩
      · wp_walk using bi
        exact ⟨_, rfl, h⟩
    · wp_walk using bi
      exact ⟨_, rfl, h⟩
theorem call_enum1 {prog : Program} {w : World} {A : Around} {E : Value → Shared → Prop} {s : Shared} {v : Value} {o : Obj} {G : Heap → Prop} {Q : Value → Shared → Prop} (B : Begins v o G) (g1 : G s.heap)
    (h : ∀ h', IsEnum h' (s.heap.objs.size + 1) s.heap.objs.size 0 .none → h'.get? s.heap.objs.size = some o → (∀ b u, s.heap.get? b = some u → h'.get? b = some u) → Q (.ref (s.heap.objs.size + 1)) { s with heap := h' }) :
    wpAny (model prog w) A (call (.type "enumerate") [v]) Q E s := by
  refine callType_new F.called_enumerate (by decide) (F.typeCall_enumerate_1 _) (F.newCall_enumerate_1 _) (fun obj => F.args_object_init_2 obj _) F.entry_enumerate_new (enum_new1 B) ⟨g1, ?_⟩
  have sz : (s.heap.push o).objs.size = s.heap.objs.size + 1 := Heap.size_push ..
  have at1 : ((s.heap.push o).push { cls := .type "enumerate", data := .fields #[.none, .bool false, .ref s.heap.objs.size, rawInt 0, .none, .none] }).get? (s.heap.objs.size + 1) = some { cls := .type "enumerate", data := .fields #[.none, .bool false, .ref s.heap.objs.size, rawInt 0, .none, .none] } := by
    rw [← sz]
    exact Heap.get?_push_size _ rfl
  show _ ∧ _
  rw [sz]
  exact ⟨⟨_, at1, rfl⟩, h _ at1 (Heap.get?_push_of_some _ (Heap.get?_push_size _ B.free)) fun b u x => Heap.get?_push_of_some _ (Heap.get?_push_of_some _ x)⟩

/-- a tuple's things, each with its place in a new pair -/
def IteT (K : PySem.W.Frag) (a : Addr) : It :=
  ⟨fun i H => ∃ (xs : List V) (x : V), SqT K H a xs ∧ xs[i]? = some x, fun i H v H' => ∃ q x, v = .ref q ∧ H q = none ∧ H' = upd H q (.tup [.int (i : Nat), x]) ∧ ∀ xs, SqT K H a xs → xs[i]? = some x, fun i H => ∃ xs : List V, SqT K H a xs ∧ xs.length ≤ i⟩
/-- the iterator's state -/
def EnT (a e it : Addr) (i : Nat) (h : Heap) : Prop := (∃ old, IsEnum h e it ((i : Nat) : Int) old) ∧ h.IsTupleIter it a i ∧ e ≠ it ∧ a ≠ it ∧ a ≠ e
theorem turn_enT {P : Program} {w : World} {K : PySem.W.Frag} {elts : List Expr} {kk : Nat} {tpos : Pos} (a e it : Addr) : Turn P w K (.Tuple elts kk tpos) (IteT K a) [e, it] e (EnT a e it) where
  mem := List.mem_cons_self
  obj := fun i h st b hb => by
    obtain ⟨⟨old, he⟩, ⟨o, ho, _, hd⟩, _⟩ := st
    rcases List.mem_cons.mp hb with rfl | hb
    · exact ⟨_, he, fun v q => nomatch q⟩
    · rw [List.mem_singleton.mp hb]
      exact ⟨o, ho, fun v q => by rw [hd] at q; cases q⟩
  keep := fun i h h' st k => by
    obtain ⟨⟨old, he⟩, hi, n⟩ := st
    exact ⟨⟨old, k e List.mem_cons_self _ he⟩, hi.at fun o q => k it (List.mem_cons_of_mem _ List.mem_cons_self) o q, n⟩
  item := by
    intro X hP hw hK hc i pins s σ H E I hf st hg
    subst hP hw hK
    obtain ⟨⟨old, he⟩, hit, hne, hai, hae⟩ := st
    obtain ⟨xs, x, hq, hx⟩ := hg
    obtain ⟨its, rv, p, hz⟩ := I.tuple hq
    obtain ⟨u, hu, ru⟩ := rv.get hx
    have hs : i < its.toArray.size := by
      have := (List.getElem?_eq_some_iff.mp hu).1
      simpa using this
    have Dr := Draws.tuple (prog := X.prog) (w := X.w) (A := X.A.in1) (I.ok.hd hc) it a hai its.toArray
    have el : e < s.heap.objs.size := Heap.lt_size he
    have il : it < s.heap.objs.size := by obtain ⟨_, q, _⟩ := hit; exact Heap.lt_size q
    refine wpAny_pyNext_enum_itemD Dr he ⟨hit, p⟩ hs hne (by simp; exact ⟨hne, fun z => hae z.symm⟩) fun y h' tk hP ho hst hT hsz hk => ?_
    have ey : y = u := by
      have : its.toArray[i]? = some u := by simpa using hu
      rw [this] at hP
      exact (Option.some.inj hP).symm
    subst ey
    refine ⟨_, rfl, wpAny_letOwnedTupleGo_enum (s := { s with heap := h', toks := tk + 1 }) ho fun h2 he2 sb => ?_⟩
    have hT2 : h2.get? s.heap.objs.size = some { cls := .type "tuple", data := .seq #[.int i tk, y] } := (sb.2 _ (Nat.ne_of_gt el)).trans hT
    have mk : ObjOk X.prog X.w (upd H s.heap.objs.size (.tup [.int (i : Nat), x])) h2 s.heap.objs.size (.tup [.int (i : Nat), x]) :=
      ⟨by show 2 ≤ sizeLine; decide, [.int i tk, y], .cons ⟨_, rfl⟩ (.cons ru .nil), ⟨_, hT2, rfl, _, rfl⟩⟩
    have ne2 : ∀ {b : Addr}, b ∉ [e, it] → b ≠ e ∧ b ≠ it := fun {b} hb => ⟨fun z => hb (by simp [z]), fun z => hb (by simp [z])⟩
    have J : Inv X pins σ (upd H s.heap.objs.size (.tup [.int (i : Nat), x])) { s with heap := h2, toks := tk + 1 } :=
      I.turnedNew (ch := [e, it]) (fun b ob hb q => (sb.2 b (ne2 hb).1).trans (hk b ob (ne2 hb).1 (ne2 hb).2 q)) hf (Nat.le_refl _) mk
    refine ⟨.ref s.heap.objs.size, _, J, rfl, ⟨_, x, rfl, I.hok.fresh (Nat.le_refl _), rfl, fun ys hy => by rw [I.tuple_inj hy hq]; exact hx⟩, ⟨⟨y, ?_⟩, hst.1.at fun o q => (sb.2 it (Ne.symm hne)).trans q, hne, hai, hae⟩, fun b hb => ?_⟩
    · have e1 : ((i + 1 : Nat) : Int) = (i : Int) + 1 := by omega
      rw [e1]
      exact he2
    · have lb : b < s.heap.objs.size := by
        rcases List.mem_cons.mp hb with z | z
        · rw [z]; exact el
        · rw [List.mem_singleton.mp z]; exact il
      rw [upd_ne (Nat.ne_of_lt lb)]
      exact (hf b hb).1
  done := by
    intro X hP hw hK hc i pins s σ H E I hf st hg
    subst hP hw hK
    obtain ⟨⟨old, he⟩, hit, hne, hai, hae⟩ := st
    obtain ⟨xs, hq, hx⟩ := hg
    obtain ⟨its, rv, p, hz⟩ := I.tuple hq
    obtain ⟨f0, f1, f2, f3, f4, f5⟩ := hf it (List.mem_cons_of_mem _ List.mem_cons_self)
    have hl := rv.length
    have hT : s.TypeIs (.ref e) "enumerate" := ⟨_, he, rfl⟩
    unfold pyNext
    refine wpAny_bind (wpAny_attempt (wpAny_callSpecial?_slot (name := Str.ofString "__next__") hT F.slot_enumerate_next (wpAny_call_entry F.slot_enumerate_next hT F.entry_enumerate_next ?_ (F.args_enumerate_next_1 _))))
    show wpAny _ _ (field (.ref e) 2 >>= _) _ _ _
    refine wpAny_bind (wpAny_field he rfl (x := .ref it) rfl ?_)
    refine wpAny_bind (wpAny_nextOf_tuple_end (A := X.A.in1) (I.ok.hd hc) hit p (by simp; omega) fun h' z e1 e2 => ?_)
    obtain ⟨o, ho, hcl⟩ := e2
    refine wpAny_bind (wpAny_isInstance (T := "StopIteration") (b := true) ⟨o, ho, hcl⟩ isSubtype_stop ?_)
    exact wpAny_pure ⟨rfl, I.turned (t' := s.toks) (fun b o hb q => e1 b o hb q) f0 f1 f3 f4 f5⟩
  self := fun A i s Q E st h => by
    obtain ⟨⟨_, he⟩, _⟩ := st
    exact wpAny_pyIter_enum he h
def iEnumA (K : PySem.W.Frag) (tl : TE) : TI := fun ς H R => tl ς H fun x H1 => ∃ a, x = .ref a ∧ (((∃ xs, SqL K H1 a xs) ∧ R (Ite K a) H1) ∨ ((∃ xs, SqT K H1 a xs) ∧ R (IteT K a) H1))
theorem pi_enumA {X : Cx} {e : Expr} {te : TE} {p pos tpos : Pos} {elts : List Expr} {kk : Nat} (hg : Gl X "enumerate") (hm : X.mg "enumerate" = none) (he : PE X e te) (hs : starEach [e] X.env = [(false, eval e X.env)]) :
    PI X (.Tuple elts kk tpos) (.Call (.Name "enumerate" p) [e] [] pos) (iEnumA X.K te) := by
  refine ⟨fun pins s σ H R I h => ?_⟩
  have ha : PA X [e] (fun ς H Q => te ς H fun x H1 => Q [x] H1) := pa_cons he pa_nil hs
  refine Call_ (ld_blt I hg hm boot_enumerate (PyProof.Rows.callWith_type1 (thn (ha.run pos pins s σ H (fun vs H1 => match vs with
    | [x] => ∃ a, x = .ref a ∧ (((∃ xs, SqL X.K H1 a xs) ∧ R (Ite X.K a) H1) ∨ ((∃ xs, SqT X.K H1 a xs) ∧ R (IteT X.K a) H1))
    | _ => False) I h) fun us s1 z => ?_) hs rfl))
  obtain ⟨vs, H1, I1, r1, q1⟩ := z
  obtain ⟨x, rfl⟩ : ∃ x, vs = [x] := by
    cases r1 with
    | nil => exact q1.elim
    | cons r rr => cases rr with
      | nil => exact ⟨_, rfl⟩
      | cons _ _ => exact q1.elim
  obtain ⟨a, rfl, q⟩ := q1
  cases r1 with
  | cons r rr =>
    cases rr
    cases r
    have fp : ∀ b ∈ [s1.heap.objs.size + 1, s1.heap.objs.size], FpOk X pins H1 b := fun b hb => by
      have hle : s1.heap.objs.size ≤ b := by
        rcases List.mem_cons.mp hb with z | z
        · rw [z]; exact Nat.le_succ _
        · rw [List.mem_singleton.mp z]; exact Nat.le_refl _
      exact I1.fpOk hle (I1.hok.fresh hle)
    rcases q with ⟨⟨xs, hq⟩, q⟩ | ⟨⟨xs, hq⟩, q⟩
    · obtain ⟨its, rv, p', _⟩ := I1.list hq
      refine call_enum1 (begins_list a its.toArray) p'.isList fun h' h1 h2 hk => wpAny_pyIter_enum h1 ?_
      exact ⟨s1.heap.objs.size + 1, _, _, _, H1, rfl, I1.kept (t' := s1.toks) hk, turn_enum a (s1.heap.objs.size + 1) s1.heap.objs.size, ⟨⟨.none, h1⟩, ⟨_, h2, rfl, rfl⟩, Nat.succ_ne_self _⟩, fp, q⟩
    · obtain ⟨its, rv, p', _⟩ := I1.tuple hq
      have pt : s1.heap.IsTuple a its.toArray := p'
      have al : a < s1.heap.objs.size := by obtain ⟨o, ho, _⟩ := pt; exact Heap.lt_size ho
      refine call_enum1 (begins_tuple a its.toArray) pt fun h' h1 h2 hk => wpAny_pyIter_enum h1 ?_
      exact ⟨s1.heap.objs.size + 1, _, _, _, H1, rfl, I1.kept (t' := s1.toks) hk, turn_enT a (s1.heap.objs.size + 1) s1.heap.objs.size, ⟨⟨.none, h1⟩, ⟨_, h2, rfl, rfl⟩, Nat.succ_ne_self _, Nat.ne_of_lt al, Nat.ne_of_lt (Nat.lt_succ_of_lt al)⟩, fp, q⟩
end MP
/-! MPLoop: targets, what is walked, comprehensions. -/
namespace MP
open PySem PySem.Spec PyProof.Rows L2

/-! ### targets -/
mutual
def gT (K : PySem.W.Frag) : Tg → TG
  | .nm i => gName i
  | .tp ts => gTup K ts.length (gTs K ts)
def gTs (K : PySem.W.Frag) : List Tg → TGs
  | [] => gNil
  | t :: ts => gCons (gT K t) (gTs K ts)
end
mutual
def slots : Tg → List Nat
  | .nm i => [i]
  | .tp ts => slotss ts
def slotss : List Tg → List Nat
  | [] => []
  | t :: ts => slots t ++ slotss ts
end
/-- outside of l nothing has changed -/
structure Keeps (l : List Nat) (ς ς' : L2.St) : Prop where
  len : ς'.length = ς.length
  out : ∀ i, i ∉ l → ς'[i]? = ς[i]?
theorem Keeps.refl {l : List Nat} {ς : L2.St} : Keeps l ς ς := ⟨rfl, fun _ _ => rfl⟩
theorem Keeps.trans {l l' : List Nat} {ς ς1 ς2 : L2.St} (a : Keeps l ς ς1) (b : Keeps l' ς1 ς2) : Keeps (l ++ l') ς ς2 :=
  ⟨b.len.trans a.len, fun i h => (b.out i fun z => h (List.mem_append_right _ z)).trans (a.out i fun z => h (List.mem_append_left _ z))⟩
section
variable {K : PySem.W.Frag} {ρ : Nat → Addr} {n : Nat} {H : Hp}
theorem ER.set {σ : Env} {ς : L2.St} {i : Nat} {d : D} {v : V} (r : ER K ρ n H σ ς) (q : RD K ρ n H d v) : ER K ρ n H (σ.set i (some d)) (ς.set i (some v)) := by
  refine ⟨by rw [List.length_set, List.length_set]; exact r.len, fun j e h => ?_⟩
  by_cases hj : i = j
  · subst hj
    by_cases hi : i < σ.length
    · rw [List.getElem?_set_self hi] at h
      cases h
      exact ⟨v, by rw [List.getElem?_set_self (by rw [← r.len]; exact hi)], q⟩
    · rw [List.getElem?_eq_none (by rw [List.length_set]; omega)] at h
      cases h
  · rw [List.getElem?_set_ne hj] at h
    rw [List.getElem?_set_ne hj]
    exact r.at_ j e h
mutual
theorem asg_ok : ∀ (t : Tg) {d : D} {v : V} {σ σ' : Env} {ς : L2.St} {Q : L2.St → Hp → Prop}, asg t d σ = some σ' → RD K ρ n H d v → ER K ρ n H σ ς → (∀ ς', ER K ρ n H σ' ς' → Keeps (slots t) ς ς' → Q ς' H) → gT K t v ς H Q
  | .nm i, d, v, σ, σ', ς, Q, h, r, e, k => by
    simp only [asg, Option.some.injEq] at h
    subst h
    simp only [gT, gName]
    refine k _ (e.set r) ⟨by rw [List.length_set], fun j hj => ?_⟩
    have : i ≠ j := fun z => hj (by simp [slots, z])
    rw [List.getElem?_set_ne this]
  | .tp ts, d, v, σ, σ', ς, Q, h, r, e, k => by
    cases r with
    | @tup xs p vs q s =>
      simp only [asg] at h
      simp only [gT, gTup]
      have hl := asgs_len ts h
      refine ⟨p, vs, rfl, q, by rw [← s.length]; exact hl, asgs_ok ts h s e fun ς' e' kp => k ς' e' ?_⟩
      simpa [slots] using kp
    | _ => simp [asg] at h
theorem asgs_ok : ∀ (ts : List Tg) {ds : List D} {vs : List V} {σ σ' : Env} {ς : L2.St} {Q : L2.St → Hp → Prop}, asgs ts ds σ = some σ' → RDs K ρ n H ds vs → ER K ρ n H σ ς → (∀ ς', ER K ρ n H σ' ς' → Keeps (slotss ts) ς ς' → Q ς' H) → gTs K ts vs ς H Q
  | [], ds, vs, σ, σ', ς, Q, h, r, e, k => by
    cases r with
    | nil =>
      simp only [asgs, Option.some.injEq] at h
      subst h
      simp only [gTs, gNil]
      exact ⟨trivial, k _ e Keeps.refl⟩
    | cons _ _ => simp [asgs] at h
  | t :: ts, ds, vs, σ, σ', ς, Q, h, r, e, k => by
    cases r with
    | nil => simp [asgs] at h
    | cons r1 rs =>
      simp only [asgs] at h
      cases h1 : asg t _ σ with
      | none => rw [h1] at h; cases h
      | some σ1 =>
        rw [h1] at h
        simp only [gTs, gCons]
        exact ⟨_, _, rfl, asg_ok t h1 r1 e fun ς1 e1 k1 => asgs_ok ts h rs e1 fun ς2 e2 k2 => k _ e2 (k1.trans k2)⟩
theorem asgs_len : ∀ (ts : List Tg) {ds : List D} {σ σ' : Env}, asgs ts ds σ = some σ' → ds.length = ts.length
  | [], [], _, _, _ => rfl
  | [], _ :: _, _, _, h => by simp [asgs] at h
  | _ :: _, [], _, _, h => by simp [asgs] at h
  | t :: ts, d :: ds, σ, σ', h => by
    simp only [asgs] at h
    cases h1 : asg t d σ with
    | none => rw [h1] at h; cases h
    | some σ1 =>
      rw [h1] at h
      rw [List.length_cons, List.length_cons, asgs_len ts h]
end
theorem wipe_get (ς : L2.St) : ∀ (vs : List Nat) (i : Nat), (wipe ς vs)[i]? = if i ∈ vs ∧ i < ς.length then some none else ς[i]?
  | [], i => by simp [wipe]
  | v :: vs, i => by
    unfold wipe
    have ih := wipe_get ς vs i
    by_cases hv : v = i
    · subst hv
      by_cases hl : v < ς.length
      · rw [List.getElem?_set_self (by rw [wipe_length]; exact hl), if_pos ⟨List.mem_cons_self, hl⟩]
      · rw [List.getElem?_eq_none (by rw [List.length_set, wipe_length]; omega), if_neg fun z => hl z.2, List.getElem?_eq_none (by omega)]
    · rw [List.getElem?_set_ne hv, ih]
      have e : (i ∈ v :: vs ∧ i < ς.length) ↔ (i ∈ vs ∧ i < ς.length) := by
        constructor
        · rintro ⟨h, h2⟩
          rcases List.mem_cons.mp h with z | z
          · exact absurd z.symm hv
          · exact ⟨z, h2⟩
        · rintro ⟨h, h2⟩
          exact ⟨List.mem_cons_of_mem _ h, h2⟩
      by_cases hc : i ∈ vs ∧ i < ς.length
      · rw [if_pos hc, if_pos (e.mpr hc)]
      · rw [if_neg hc, if_neg fun z => hc (e.mp z)]
theorem wipe_keeps {l vs : List Nat} {ς ς' : L2.St} (k : Keeps l (wipe ς vs) ς') (h : ∀ i ∈ l, i ∈ vs) : wipe ς' vs = wipe ς vs := by
  apply List.ext_getElem?
  intro i
  rw [wipe_get ς' vs i]
  have hl : ς'.length = ς.length := k.len.trans (wipe_length _ _)
  by_cases hi : i ∈ vs ∧ i < ς'.length
  · rw [if_pos hi, wipe_get ς vs i, if_pos ⟨hi.1, by rw [← hl]; exact hi.2⟩]
  · rw [if_neg hi]
    by_cases hv : i ∈ vs
    · have : ¬ i < ς'.length := fun z => hi ⟨hv, z⟩
      rw [List.getElem?_eq_none (by omega), List.getElem?_eq_none (by rw [wipe_length]; omega)]
    · exact k.out i fun z => hv (h i z)
theorem wipeE_length (σ : Env) : ∀ vs : List Nat, (wipeE σ vs).length = σ.length
  | [] => rfl
  | v :: vs => by unfold wipeE; rw [List.length_set, wipeE_length σ vs]
theorem ER.wipe {σ : Env} {ς : L2.St} (r : ER K ρ n H σ ς) : ∀ vs : List Nat, ER K ρ n H (wipeE σ vs) (wipe ς vs)
  | [] => r
  | v :: vs => by
    have ih := ER.wipe r vs
    refine ⟨by rw [wipeE_length, wipe_length]; exact r.len, fun i d h => ?_⟩
    unfold wipeE at h
    unfold L2.wipe
    by_cases hv : v = i
    · subst hv
      by_cases hl : v < (wipeE σ vs).length
      · rw [List.getElem?_set_self hl] at h; cases h
      · rw [List.getElem?_eq_none (by rw [List.length_set]; omega)] at h; cases h
    · rw [List.getElem?_set_ne hv] at h
      rw [List.getElem?_set_ne hv]
      exact ih.at_ i d h
end

/-! ### what is walked -/
section
variable {T : Tbl} {K : PySem.W.Frag}
structure ItOk (J : It) (xs : List D) (gs : List (Nat × List D)) (ρ0 : Nat → Addr) (n0 : Nat) (H0 : Hp) : Prop where
  go : ∀ ρ S H i d, Ext K ρ0 n0 H0 ρ S.length H → Wd T K ρ S H → Gd gs S → xs[i]? = some d → J.go i H
  yld : ∀ ρ S H i d v H', Ext K ρ0 n0 H0 ρ S.length H → Wd T K ρ S H → Gd gs S → xs[i]? = some d → J.yld i H v H' → Ext K ρ S.length H ρ S.length H' ∧ Wd T K ρ S H' ∧ RD K ρ S.length H' d v ∧ ∀ p o, H p = some o → H' p = some o
  stop : ∀ ρ S H i, Ext K ρ0 n0 H0 ρ S.length H → Wd T K ρ S H → Gd gs S → xs.length ≤ i → J.stop i H
end
section
variable (T : Tbl) (K : PySem.W.Frag) (c : CallT) (W : WX)
def tI (x : MI) : TI := fun ς H R => ∃ ρ σ S E, St0 T K W ρ σ S E ς H ∧ wpI c x E σ S fun xs gs S1 => ∀ ρ' H' J, Ext K ρ S.length H ρ' S1.length H' → Wd T K ρ' S1 H' → ItOk (T := T) (K := K) J xs gs ρ' S1.length H' → R J H'
def iSeq (tl : TE) : TI := fun ς H R => tl ς H fun x H1 => ∃ a, x = .ref a ∧ (((∃ xs, SqL K H1 a xs) ∧ R (Itl K a) H1) ∨ ((∃ xs, SqT K H1 a xs) ∧ R (Itt K a) H1))
end
theorem impI {X : Cx} {tg e : Expr} {t t' : TI} (h : PI X tg e t) (i : ∀ ς H R, t' ς H R → t ς H R) : PI X tg e t' := ⟨fun pins s ς H R I q => h.run pins s ς H R I (i ς H R q)⟩
theorem pi_seq {X : Cx} {tg l : Expr} {tl : TE} (hl : PE X l tl) : PI X tg l (iSeq X.K tl) := by
  refine ⟨fun pins s ς H R I h => thn (hl.run pins s ς H _ I h) fun v s1 ⟨x, H1, I1, r1, a, ea, q1⟩ => ?_⟩
  subst ea
  cases r1
  have fp : ∀ b ∈ [s1.heap.objs.size], FpOk X pins H1 b := fun b hb => by
    rw [List.mem_singleton.mp hb]
    exact I1.fpOk (Nat.le_refl _) (I1.hok.fresh (Nat.le_refl _))
  rcases q1 with ⟨⟨xs, hq⟩, q⟩ | ⟨⟨xs, hq⟩, q⟩
  · obtain ⟨its, rv, p, _⟩ := I1.list hq
    exact wpAny_pyIter_list p.isList ⟨_, _, _, _, H1, rfl, I1.kept (t' := s1.toks) (fun b o e => Heap.get?_push_of_some _ e), turn_list a _, ⟨_, Heap.get?_push_size _ rfl, rfl, rfl⟩, fp, q⟩
  · obtain ⟨its, rv, p, _⟩ := I1.tuple hq
    exact wpAny_pyIter_tuple (show s1.heap.IsTuple a its.toArray from p) ⟨_, _, _, _, H1, rfl, I1.kept (t' := s1.toks) (fun b o e => Heap.get?_push_of_some _ e), turn_tuple a _, ⟨_, Heap.get?_push_size _ rfl, rfl, rfl⟩, fp, q⟩

theorem itOk_list {T : Tbl} {K : PySem.W.Frag} {a : Nat} {xs : List D} {ρ0 : Nat → Addr} {S0 : Sto} {H0 : Hp} (ha : a < S0.length) : ItOk (T := T) (K := K) (Itl K (ρ0 a)) xs [(a, xs)] ρ0 S0.length H0 := by
  have rd : ∀ {ρ : Nat → Addr} {S : Sto} {H : Hp}, Ext K ρ0 S0.length H0 ρ S.length H → Wd T K ρ S H → Gd [(a, xs)] S → ∃ vs, SqL K H (ρ0 a) vs ∧ RDs K ρ S.length H xs vs := fun e w g => by
    obtain ⟨vs, q, r⟩ := w.seqAt (g (a, xs) List.mem_cons_self)
    rw [e.ag a ha] at q
    exact ⟨vs, q, r⟩
  refine ⟨fun ρ S H i d e w g h => ?_, fun ρ S H i d v H' e w g h y => ?_, fun ρ S H i e w g h => ?_⟩
  · obtain ⟨vs, q, r⟩ := rd e w g
    obtain ⟨v, hv, _⟩ := r.get h
    exact ⟨vs, v, q, hv⟩
  · obtain ⟨vs, q, r⟩ := rd e w g
    obtain ⟨u, hu, ru⟩ := r.get h
    obtain ⟨rfl, f⟩ := y
    have ev := f vs q
    rw [hu] at ev
    cases ev
    exact ⟨Ext.refl, w, ru, fun _ _ z => z⟩
  · obtain ⟨vs, q, r⟩ := rd e w g
    exact ⟨vs, q, by rw [← r.length]; exact h⟩
theorem itOk_tup {T : Tbl} {K : PySem.W.Frag} {p : Addr} {xs : List D} {vs : List V} {ρ0 : Nat → Addr} {n0 : Nat} {H0 : Hp} (hp : SqT K H0 p vs) (r0 : RDs K ρ0 n0 H0 xs vs) : ItOk (T := T) (K := K) (Itt K p) xs [] ρ0 n0 H0 := by
  refine ⟨fun ρ S H i d e w g h => ?_, fun ρ S H i d v H' e w g h y => ?_, fun ρ S H i e w g h => ?_⟩
  · obtain ⟨v, hv, _⟩ := r0.get h
    exact ⟨vs, v, e.tp _ _ hp, hv⟩
  · obtain ⟨u, hu, ru⟩ := r0.get h
    obtain ⟨rfl, f⟩ := y
    have ev := f vs (e.tp _ _ hp)
    rw [hu] at ev
    cases ev
    exact ⟨Ext.refl, w, ru.ext e, fun _ _ z => z⟩
  · exact ⟨vs, e.tp _ _ hp, by rw [← r0.length]; exact h⟩
theorem itOk_klst {T : Tbl} {K : PySem.W.Frag} {p : Addr} {xs : List D} {vs : List V} {ρ0 : Nat → Addr} {n0 : Nat} {H0 : Hp} (hp : SqF K H0 p vs) (r0 : RDs K ρ0 n0 H0 xs vs) : ItOk (T := T) (K := K) (Itl K p) xs [] ρ0 n0 H0 := by
  refine ⟨fun ρ S H i d e w g h => ?_, fun ρ S H i d v H' e w g h y => ?_, fun ρ S H i e w g h => ?_⟩
  · obtain ⟨v, hv, _⟩ := r0.get h
    exact ⟨vs, v, (e.fz _ _ hp).l, hv⟩
  · obtain ⟨u, hu, ru⟩ := r0.get h
    obtain ⟨rfl, f⟩ := y
    have ev := f vs (e.fz _ _ hp).l
    rw [hu] at ev
    cases ev
    exact ⟨Ext.refl, w, ru.ext e, fun _ _ z => z⟩
  · exact ⟨vs, (e.fz _ _ hp).l, by rw [← r0.length]; exact h⟩
theorem itOk_rg {T : Tbl} {K : PySem.W.Frag} {i j : Int} {ρ0 : Nat → Addr} {n0 : Nat} {H0 : Hp} : ItOk (T := T) (K := K) (Itr i (j - i).toNat) (rgD i j) [] ρ0 n0 H0 := by
  have len : (rgD i j).length = (j - i).toNat := by unfold rgD; rw [List.length_map, List.length_range]
  refine ⟨fun ρ S H k d e w g h => ?_, fun ρ S H k d v H' e w g h y => ?_, fun ρ S H k e w g h => ?_⟩
  · have := (List.getElem?_eq_some_iff.mp h).1
    rw [len] at this
    exact this
  · obtain ⟨rfl, rfl⟩ := y
    unfold rgD at h
    rw [List.getElem?_map] at h
    obtain ⟨m, hm, rfl⟩ := Option.map_eq_some_iff.mp h
    have := List.getElem?_eq_some_iff.mp hm
    obtain ⟨hl, rfl⟩ := this
    rw [List.getElem_range]
    exact ⟨Ext.refl, w, .int _, fun _ _ z => z⟩
  · rw [len] at h
    exact h
theorem enumD_get {xs : List D} {i : Nat} {d : D} (h : (enumD xs)[i]? = some d) : ∃ x, xs[i]? = some x ∧ d = .tup [.int (i : Nat), x] := by
  unfold enumD at h
  rw [List.getElem?_map, List.getElem?_zipIdx] at h
  cases hx : xs[i]? with
  | none => rw [hx] at h; cases h
  | some x =>
    rw [hx] at h
    refine ⟨x, rfl, ?_⟩
    simpa using h.symm
theorem enumD_len (xs : List D) : (enumD xs).length = xs.length := by unfold enumD; simp
theorem enumD_some {xs : List D} {i : Nat} {x : D} (h : xs[i]? = some x) : (enumD xs)[i]? = some (.tup [.int (i : Nat), x]) := by
  unfold enumD
  rw [List.getElem?_map, List.getElem?_zipIdx, h]
  simp
theorem itOk_enL {T : Tbl} {K : PySem.W.Frag} {a : Nat} {xs : List D} {ρ0 : Nat → Addr} {S0 : Sto} {H0 : Hp} (ha : a < S0.length) : ItOk (T := T) (K := K) (Ite K (ρ0 a)) (enumD xs) [(a, xs)] ρ0 S0.length H0 := by
  have rd : ∀ {ρ : Nat → Addr} {S : Sto} {H : Hp}, Ext K ρ0 S0.length H0 ρ S.length H → Wd T K ρ S H → Gd [(a, xs)] S → ∃ vs, SqL K H (ρ0 a) vs ∧ RDs K ρ S.length H xs vs := fun e w g => by
    obtain ⟨vs, q, r⟩ := w.seqAt (g (a, xs) List.mem_cons_self)
    rw [e.ag a ha] at q
    exact ⟨vs, q, r⟩
  refine ⟨fun ρ S H i d e w g h => ?_, fun ρ S H i d v H' e w g h y => ?_, fun ρ S H i e w g h => ?_⟩
  · obtain ⟨vs, q, r⟩ := rd e w g
    obtain ⟨x, hx, rfl⟩ := enumD_get h
    obtain ⟨v, hv, _⟩ := r.get hx
    exact ⟨vs, v, q, hv⟩
  · obtain ⟨vs, q, r⟩ := rd e w g
    obtain ⟨x, hx, rfl⟩ := enumD_get h
    obtain ⟨u, hu, ru⟩ := r.get hx
    obtain ⟨t, z, rfl, hn, rfl, f⟩ := y
    have ev := f vs q
    rw [hu] at ev
    cases ev
    have e1 : Ext K ρ S.length H ρ S.length (upd H t (.tup [.int (i : Nat), u])) := Ext.new hn
    exact ⟨e1, w.new hn, .tup (.inl (.inl upd_same)) (.cons (.int _) (.cons (ru.ext e1) .nil)), fun p o hp => by rw [upd_ne (ne_of_none hp hn)]; exact hp⟩
  · obtain ⟨vs, q, r⟩ := rd e w g
    exact ⟨vs, q, by rw [← r.length, ← enumD_len]; exact h⟩
theorem itOk_enT {T : Tbl} {K : PySem.W.Frag} {p : Addr} {xs : List D} {vs : List V} {ρ0 : Nat → Addr} {n0 : Nat} {H0 : Hp} (hp : SqT K H0 p vs) (r0 : RDs K ρ0 n0 H0 xs vs) : ItOk (T := T) (K := K) (IteT K p) (enumD xs) [] ρ0 n0 H0 := by
  refine ⟨fun ρ S H i d e w g h => ?_, fun ρ S H i d v H' e w g h y => ?_, fun ρ S H i e w g h => ?_⟩
  · obtain ⟨x, hx, rfl⟩ := enumD_get h
    obtain ⟨v, hv, _⟩ := r0.get hx
    exact ⟨vs, v, e.tp _ _ hp, hv⟩
  · obtain ⟨x, hx, rfl⟩ := enumD_get h
    obtain ⟨u, hu, ru⟩ := r0.get hx
    obtain ⟨t, z, rfl, hn, rfl, f⟩ := y
    have ev := f vs (e.tp _ _ hp)
    rw [hu] at ev
    cases ev
    have e1 : Ext K ρ S.length H ρ S.length (upd H t (.tup [.int (i : Nat), u])) := Ext.new hn
    exact ⟨e1, w.new hn, .tup (.inl (.inl upd_same)) (.cons (.int _) (.cons ((ru.ext e).ext e1) .nil)), fun p o hp => by rw [upd_ne (ne_of_none hp hn)]; exact hp⟩
  · exact ⟨vs, e.tp _ _ hp, by rw [← r0.length, ← enumD_len]; exact h⟩
section
variable {X : Cx} {T : Tbl} {c : CallT} {W : WX} {pos : Pos} (hc : CallMono c c) {a b e tg : Expr} {xa xb : MX}
include hc
theorem sd_seq (ha : PE X a (tE T X.K c W xa)) : PI X tg a (tI T X.K c W (.seq xa)) := impI (pi_seq ha) fun ς H R ⟨ρ, σ, S, E, s, h⟩ => by
  simp only [wpI] at h
  refine tE_of hc s h fun x S1 ρ1 H1 v h1 e1 w1 r1 => ?_
  split at h1
  · cases r1 with
    | tup q r => exact ⟨_, rfl, .inr ⟨⟨_, q⟩, h1 _ _ _ e1 w1 (itOk_tup q r)⟩⟩
  · cases r1 with
    | klst q r => exact ⟨_, rfl, .inl ⟨⟨_, q.l⟩, h1 _ _ _ e1 w1 (itOk_klst q r)⟩⟩
  · split at h1
    · rename_i ys ey
      cases r1 with
      | ref hl =>
        obtain ⟨vs, q, r⟩ := w1.seqAt ey
        exact ⟨_, rfl, .inl ⟨⟨_, q⟩, h1 _ _ _ e1 w1 (itOk_list hl)⟩⟩
    · exact h1.elim
  · exact h1.elim
theorem sd_enum {p tpos : Pos} {elts : List Expr} {kk : Nat} (hg : Gl X "enumerate") (hm : X.mg "enumerate" = none) (ha : PE X a (tE T X.K c W xa)) (na : starEach [a] X.env = [(false, eval a X.env)]) : PI X (.Tuple elts kk tpos) (.Call (.Name "enumerate" p) [a] [] pos) (tI T X.K c W (.enum xa)) := impI (pi_enumA hg hm ha na) fun ς H R ⟨ρ, σ, S, E, s, h⟩ => by
  simp only [wpI] at h
  refine tE_of hc s h fun x S1 ρ1 H1 v h1 e1 w1 r1 => ?_
  split at h1
  · cases r1 with
    | tup q r => exact ⟨_, rfl, .inr ⟨⟨_, q⟩, h1 _ _ _ e1 w1 (itOk_enT q r)⟩⟩
  · split at h1
    · rename_i ys ey
      cases r1 with
      | ref hl =>
        obtain ⟨vs, q, r⟩ := w1.seqAt ey
        exact ⟨_, rfl, .inl ⟨⟨_, q⟩, h1 _ _ _ e1 w1 (itOk_enL hl)⟩⟩
    · exact h1.elim
  · exact h1.elim
theorem sd_rng1 {p : Pos} (hg : Gl X "range") (hm : X.mg "range" = none) (ha : PE X a (tE T X.K c W xa)) (na : starEach [a] X.env = [(false, eval a X.env)]) : PI X tg (.Call (.Name "range" p) [a] [] pos) (tI T X.K c W (.rng (.cons xa .nil))) := impI (pi_range1 hg hm (pa_cons ha pa_nil na) na) fun ς H R ⟨ρ, σ, S, E, s, h⟩ => by
  simp only [wpI, wpEs] at h
  refine tE_of hc s h fun x S1 ρ1 H1 v h1 e1 w1 r1 => ?_
  unfold wpRg at h1
  split at h1
  · rename_i j hj
    cases hj
    cases r1
    obtain ⟨⟨_, ⟨b3, b4⟩⟩, h1⟩ := h1
    have q := h1 _ _ _ e1 w1 itOk_rg
    rw [Int.sub_zero] at q
    exact ⟨j, rfl, b3, b4, q⟩
  · rename_i hj; cases hj
  · exact h1.elim
theorem sd_rng2 {p : Pos} (hg : Gl X "range") (hm : X.mg "range" = none) (ha : PE X a (tE T X.K c W xa)) (hb : PE X b (tE T X.K c W xb)) (na : starEach [a, b] X.env = [(false, eval a X.env), (false, eval b X.env)]) (nb : starEach [b] X.env = [(false, eval b X.env)]) : PI X tg (.Call (.Name "range" p) [a, b] [] pos) (tI T X.K c W (.rng (.cons xa (.cons xb .nil)))) := impI (pi_range2 hg hm (pa_cons ha (pa_cons hb pa_nil nb) (by rw [na, nb])) na nb) fun ς H R ⟨ρ, σ, S, E, s, h⟩ => by
  simp only [wpI, wpEs] at h
  refine tE_of hc s h fun x S1 ρ1 H1 v h1 e1 w1 r1 => tE_of hc (s.next e1 w1) h1 fun y S2 ρ2 H2 u h2 e2 w2 r2 => ?_
  unfold wpRg at h2
  split at h2
  · rename_i hj; cases hj
  · rename_i i j hj
    cases hj
    cases r1
    cases r2
    obtain ⟨⟨⟨b1, b2⟩, ⟨b3, b4⟩⟩, h2⟩ := h2
    exact ⟨i, j, rfl, ⟨b1, b2, b3, b4⟩, h2 _ _ _ (e1.trans e2) w2 itOk_rg⟩
  · exact h2.elim
end

/-! ### comprehensions -/
section
variable {K : PySem.W.Frag} {T : Tbl} {c : CallT}
theorem lc_ok {gs : List (Nat × List D)} {J : It} {xs : List D} {t : Tg} {ifs : MXs} {elt : MX} {vs : List Nat} {σ : Env} {ς : L2.St} {ρ1 : Nat → Addr} {S1 : Sto} {H1 : Hp} {P : List D → Sto → Prop} {Qd : Hp → Prop} {Dd : Addr} (hc : CallMono c c)
    (hD : H1 Dd = none) (hi : ItOk (T := T) (K := K) J xs gs ρ1 S1.length H1) (w1 : Wd T K ρ1 S1 H1) (er : ER K ρ1 S1.length H1 σ ς) (hsl : ∀ i ∈ slots t, i ∈ vs) (hz : xs.length ≤ sizeLine)
    (h : wpComp gs (fun x S2 K => match asg t x (wipeE σ vs) with
        | some σ2 => wpIfs c ifs (fun _ _ => False) σ2 S2 fun k S3 => if k = true then wpE c elt (fun _ _ => False) σ2 S3 fun y S4 => K (some y) S4 else K none S3
        | none => False) xs S1 P)
    (q : ∀ ds S' ρ' H' us, P ds S' → Ext K ρ1 S1.length H1 ρ' S'.length H' → Wd T K ρ' S' H' → H' Dd = some (.lst us) → (∀ a, a < S'.length → ρ' a ≠ Dd) → RDs K ρ' S'.length H' ds us → Qd H') :
    ∃ W : Nat → Nat → Hp → Prop, (∃ m, W 0 m (upd H1 Dd (.lst []))) ∧ ∀ i m H, W i m H →
      (J.stop i H ∧ Qd H) ∨ (J.go i H ∧ ∃ Nx : Hp → Prop, (∀ H', Nx H' → ∃ m', m' < m ∧ W (i + 1) m' H') ∧ ∀ x H', J.yld i H x H' → gT K t x (wipe ς vs) H' fun σ2 H2 => wipe σ2 vs = wipe ς vs ∧ tFs T K c (fun _ _ _ _ => False) ifs σ2 H2 fun b H3 =>
        if b = true then tE T K c (fun _ _ _ _ => False) elt σ2 H3 fun y H4 => ∃ acc, H4 Dd = some (.lst acc) ∧ acc.length < sizeLine ∧ Nx (upd H4 Dd (.lst (acc ++ [y]))) else Nx H3) := by
  let body : D → Sto → (Option D → Sto → Prop) → Prop := fun x S2 K => match asg t x (wipeE σ vs) with
        | some σ2 => wpIfs c ifs (fun _ _ => False) σ2 S2 fun k S3 => if k = true then wpE c elt (fun _ _ => False) σ2 S3 fun y S4 => K (some y) S4 else K none S3
        | none => False
  -- the state at turn i
  let Inv : Nat → Hp → Prop := fun i H => ∃ ρ' S' ds us, Ext K ρ1 S1.length H1 ρ' S'.length H ∧ Wd T K ρ' S' H ∧ H Dd = some (.lst us) ∧ (∀ a, a < S'.length → ρ' a ≠ Dd) ∧ RDs K ρ' S'.length H ds us ∧ ds.length ≤ i ∧ wpComp gs body (xs.drop i) S' fun ys S2 => P (ds ++ ys) S2
  refine ⟨fun i m H => m = xs.length - i ∧ Inv i H, ⟨_, rfl, ρ1, S1, [], [], Ext.new hD, w1.new hD, upd_same, w1.free hD, .nil, Nat.le_refl _, h⟩, ?_⟩
  rintro i m H ⟨rfl, ρ', S', ds, us, ex, w, hd, fr, rds, hl, hw⟩
  cases hx : xs[i]? with
  | none =>
    have hi' := List.getElem?_eq_none_iff.mp hx
    rw [List.drop_eq_nil_of_le hi'] at hw
    simp only [wpComp, List.append_nil] at hw
    exact .inl ⟨hi.stop ρ' S' H i ex w hw.1 hi', q ds S' ρ' H us hw.2 ex w hd fr rds⟩
  | some d =>
    have hlt := (List.getElem?_eq_some_iff.mp hx).1
    have hdr : xs.drop i = d :: xs.drop (i + 1) := by
      rw [List.drop_eq_getElem_cons hlt]
      congr 1
      exact (List.getElem?_eq_some_iff.mp hx).2
    rw [hdr] at hw
    simp only [wpComp] at hw
    obtain ⟨gd, hb⟩ := hw
    refine .inr ⟨hi.go ρ' S' H i d ex w gd hx, Inv (i + 1), fun H' z => ⟨_, by omega, rfl, z⟩, fun v H' y => ?_⟩
    obtain ⟨e1, w', rv, kp⟩ := hi.yld ρ' S' H i d v H' ex w gd hx y
    have ex' := ex.trans e1
    have hd' : H' Dd = some (.lst us) := kp _ _ hd
    simp only [body] at hb
    cases ha : asg t d (wipeE σ vs) with
    | none => rw [ha] at hb; exact hb.elim
    | some σ2 =>
      rw [ha] at hb
      refine asg_ok t ha rv ((er.ext ex').wipe vs) fun ς2 er2 kp2 => ⟨wipe_keeps kp2 hsl, ?_⟩
      have s0 : St0 T K (fun _ _ _ _ => False) ρ' σ2 S' (fun _ _ => False) ς2 H' := ⟨w', er2, fun _ _ z => z.elim⟩
      refine tFs_of hc s0 hb fun k S3 ρ3 H3 h3 e3 w3 => ?_
      have hd3 : H3 Dd = some (.lst us) := e3.fr _ _ hd' fr
      have fr3 : ∀ a, a < S3.length → ρ3 a ≠ Dd := fun a la => by
        by_cases hh : a < S'.length
        · rw [e3.ag a hh]; exact fr a hh
        · intro z
          have := e3.nw a (Nat.le_of_not_lt hh) la
          rw [z, hd'] at this
          cases this
      cases k with
      | false =>
        exact ⟨ρ3, S3, ds, us, ex'.trans e3, w3, hd3, fr3, (rds.ext e1).ext e3, by omega, h3⟩
      | true =>
        refine tE_of hc (s0.next e3 w3) h3 fun y S4 ρ4 H4 u h4 e4 w4 r4 => ?_
        have hd4 : H4 Dd = some (.lst us) := e4.fr _ _ hd3 fr3
        have fr4 : ∀ a, a < S4.length → ρ4 a ≠ Dd := fun a la => by
          by_cases hh : a < S3.length
          · rw [e4.ag a hh]; exact fr3 a hh
          · intro z
            have := e4.nw a (Nat.le_of_not_lt hh) la
            rw [z, hd3] at this
            cases this
        have rds4 := ((rds.ext e1).ext e3).ext e4
        refine ⟨us, hd4, by rw [← rds4.length]; omega, ρ4, S4, ds ++ [y], us ++ [u], ((ex'.trans e3).trans e4).untr hD hd4 trivial, w4.untr hd4 trivial fr4, upd_same, fr4, (rds4.append (.cons r4 .nil)).untr hd4 trivial, by simp; omega, ?_⟩
        simpa using h4
variable {W : WX}
theorem lc_imp (hc : CallMono c c) {vs : List Nat} {t : Tg} {it : MI} {xf : MXs} {xe : MX} (hsl : ∀ i ∈ slots t, i ∈ vs) : ∀ ς H Q, tE T K c W (.comp vs t it xf xe) ς H Q → tLc (tI T K c W it) (gT K t) (tFs T K c (fun _ _ _ _ => False) xf) (tE T K c (fun _ _ _ _ => False) xe) vs ς H Q := fun ς H Q ⟨ρ, σ, S, E, s, h⟩ => by
  simp only [wpE] at h
  refine ⟨ρ, σ, S, E, s, wpI_mono hc it h (fun xs gs S1 h1 ρ1 H1 J e1 w1 io => ?_) fun _ _ z => z⟩
  intro Dd hD
  refine lc_ok hc hD io w1 (s.er.ext e1) hsl h1.1 h1.2 fun ds S' ρ' H' us hP ex w hd fr rds => ?_
  have hP' : Pst T K ρ S.length H Q (.ref S'.length) (S' ++ [O.lst ds]) := hP
  have wf := w.adopt hd fr rds
  have ef := (ex.adopt (p := Dd) hD)
  have e0 : Ext K ρ1 S1.length H1 (nxt ρ' S'.length Dd) (S' ++ [O.lst ds]).length H' := by
    rw [List.length_append, List.length_singleton]
    exact ef
  have r0 : RD K (nxt ρ' S'.length Dd) (S' ++ [O.lst ds]).length H' (.ref S'.length) (.ref (nxt ρ' S'.length Dd S'.length)) := .ref (by simp)
  rw [nxt_self] at r0
  exact hP' _ _ _ (e1.trans e0) wf r0
/-! ### a comprehension over a dict's keys -/
theorem rd_key {ρ : Nat → Addr} {n : Nat} {H : Hp} (k : Key) : RD K ρ n H (keyD k) (kV k) := by
  cases k with
  | inl i => exact .int i
  | inr x => exact .str x
theorem itOk_keys {T : Tbl} {d : Addr} {o : Obj} {kvs : List (Key × D)} {vs : List (Key × V)} {ρ0 : Nat → Addr} {n0 : Nat} {H0 : Hp} (hd : H0 d = some (.frz o (.dK vs))) (ke : kvs.map Prod.fst = vs.map Prod.fst) : ItOk (T := T) (K := K) (Itk d o vs) (kvs.map fun kv => keyD kv.1) [] ρ0 n0 H0 := by
  have hl : kvs.length = vs.length := by have := congrArg List.length ke; simpa using this
  refine ⟨fun ρ S H i x e w g h => ⟨e.fk _ _ _ hd, ?_⟩, fun ρ S H i x v H' e w g h y => ?_, fun ρ S H i e w g h => ⟨e.fk _ _ _ hd, ?_⟩⟩
  · have := (List.getElem?_eq_some_iff.mp h).1
    rw [List.length_map] at this
    omega
  · obtain ⟨rfl, k, u, hu, rfl⟩ := y
    rw [List.getElem?_map] at h
    obtain ⟨kv, h1, rfl⟩ := Option.map_eq_some_iff.mp h
    have h2 : (kvs.map Prod.fst)[i]? = some kv.1 := by rw [List.getElem?_map, h1]; rfl
    rw [ke, List.getElem?_map, hu] at h2
    have h3 : k = kv.1 := Option.some.inj h2
    rw [← h3]
    exact ⟨Ext.refl, w, rd_key k, fun _ _ z => z⟩
  · rw [List.length_map] at h
    omega
theorem Ext.unlock {ρ ρ' : Nat → Addr} {n n' : Nat} {H H' : Hp} {d : Addr} {od : Obj} {vs : List (Key × V)} {a : Nat} (hq : H d = some (.dK vs)) (ha : a < n) (hd : ρ a = d) (e : Ext K ρ n (upd H d (.frz od (.dK vs))) ρ' n' H') : Ext K ρ n H ρ' n' (upd H' d (.dK vs)) := by
  have hz : H' d = some (.frz od (.dK vs)) := e.fk _ _ _ upd_same
  have ne : ∀ {p : Addr} {o : HO}, H p = some o → (∀ a, a < n → ρ a ≠ p) → p ≠ d := fun h i z => i a ha (hd.trans z.symm)
  refine ⟨e.le, e.ag, fun p xs h => wr_T hz trivial p xs (e.tp p xs (wr_T hq trivial p xs h)), fun p xs h => wr_F hz trivial p xs (e.fz p xs (wr_F hq trivial p xs h)), fun p o h i => ?_, fun x h1 h2 => upd_th _ (e.nw x h1 h2), fun p h => upd_th _ (e.th p (upd_th _ h)), fun p q h => wr_O hz trivial p q (e.ow p q (wr_O hq trivial p q h)), fun p o vs' h => ?_⟩
  · have hp := ne h i
    rw [upd_ne hp]
    exact e.fr p o (by rw [upd_ne hp]; exact h) i
  · have hp : p ≠ d := by
      rintro rfl
      rw [hq] at h
      cases h
    rw [upd_ne hp]
    exact e.fk p o vs' (by rw [upd_ne hp]; exact h)
theorem Wd.unlock {T : Tbl} {ρ : Nat → Addr} {S : Sto} {H : Hp} (w : Wd T K ρ S H) {a : Nat} {kvs : List (Key × D)} {od : Obj} {vs : List (Key × V)} (h : S[a]? = some (.dk true kvs)) (hz : H (ρ a) = some (.frz od (.dK vs))) : Wd T K ρ (S.set a (.dk false kvs)) (upd H (ρ a) (.dK vs)) := by
  have la := w.lt h
  refine ⟨fun b o hb => ?_, fun b c hb hc e => ?_⟩
  · rw [List.length_set]
    by_cases hab : b = a
    · subst hab
      rw [List.getElem?_set_self la] at hb
      cases hb
      obtain ⟨o, us, q, ke, rd⟩ := w.ob _ _ h
      rw [hz] at q
      cases q
      exact ⟨vs, upd_same, ke, rd.untr hz trivial⟩
    · rw [List.getElem?_set_ne (Ne.symm hab)] at hb
      have lb := w.lt hb
      exact (w.ob b o hb).to (fun r => r.untr hz trivial) (wr_O hz trivial) (upd_ne fun z => hab (w.inj b a lb la z))
  · rw [List.length_set] at hb hc
    exact w.inj b c hb hc e
theorem compD_imp (hc : CallMono c c) {vs : List Nat} {t : Tg} {i : Nat} {xf : MXs} {xe : MX} (hsl : ∀ i ∈ slots t, i ∈ vs) : ∀ ς H Q, tE T K c W (.compD vs t i xf xe) ς H Q → tLockE (tLc (iKeys (tVar i)) (gT K t) (tFs T K c (fun _ _ _ _ => False) xf) (tE T K c (fun _ _ _ _ => False) xe) vs) ς H Q := fun ς H Q ⟨ρ, σ, S, E, s, h⟩ => by
  simp only [wpE] at h
  split at h
  · rename_i a hσ
    split at h
    · rename_i kvs hS
      obtain ⟨v, hv, r⟩ := s.er.at_ i _ hσ
      cases r with
      | ref hl =>
        obtain ⟨vs', hq, ke, rd⟩ := s.wd.ob a _ hS
        refine ⟨ρ a, .dK vs', hq, trivial, fun od => ?_⟩
        have e1 : Ext K ρ S.length H ρ (S.set a (.dk true kvs)).length (upd H (ρ a) (.frz od (.dK vs'))) := Ext.setO hl hq trivial
        have w1 : Wd T K ρ (S.set a (.dk true kvs)) (upd H (ρ a) (.frz od (.dK vs'))) := s.wd.setO hS hq trivial ⟨od, vs', upd_same, ke, rd.ext (Ext.setAt hl hq trivial)⟩
        refine ⟨.ref (ρ a), hv, ρ a, od, rfl, .inl ⟨vs', upd_same, fun Dd hD => ?_⟩⟩
        refine lc_ok (J := Itk (ρ a) od vs') hc hD (itOk_keys upd_same ke) w1 (s.er.ext e1) hsl (by rw [List.length_map]; exact h.1) h.2 fun ds S' ρ' H' us hP ex w' hd fr rds => ?_
        obtain ⟨hk, hQ⟩ := hP
        have hz : H' (ρ a) = some (.frz od (.dK vs')) := ex.fk _ _ _ upd_same
        have la' : a < (S.set a (.dk true kvs)).length := by rw [List.length_set]; exact hl
        have ea : ρ' a = ρ a := ex.ag a la'
        refine ⟨hz, ?_⟩
        have hz' : H' (ρ' a) = some (.frz od (.dK vs')) := by rw [ea]; exact hz
        have w2 := w'.unlock hk hz'
        have nD : Dd ≠ ρ' a := fun z => fr a (w'.lt hk) z.symm
        have hd2 : upd H' (ρ' a) (.dK vs') Dd = some (.lst us) := by rw [upd_ne nD]; exact hd
        have hl2 : (S'.set a (.dk false kvs)).length = S'.length := List.length_set ..
        have w3 := w2.adopt (xs := ds) hd2 (fun b hb => fr b (by rw [hl2] at hb; exact hb)) (by rw [hl2]; exact rds.untr hz' trivial)
        have ex' : Ext K ρ S.length (upd H (ρ a) (.frz od (.dK vs'))) ρ' S'.length H' := by rw [List.length_set] at ex; exact ex
        have e3 := (Ext.unlock hq hl rfl ex').adopt (p := Dd) (upd_th _ hD)
        have e4 : Ext K ρ S.length H (nxt ρ' (S'.set a (.dk false kvs)).length Dd) (S'.set a (.dk false kvs) ++ [O.lst ds]).length (upd H' (ρ' a) (.dK vs')) := by
          rw [List.length_append, List.length_singleton, hl2, ea]
          exact e3
        have r0 : RD K (nxt ρ' (S'.set a (.dk false kvs)).length Dd) (S'.set a (.dk false kvs) ++ [O.lst ds]).length (upd H' (ρ' a) (.dK vs')) (.ref S'.length) (.ref (nxt ρ' (S'.set a (.dk false kvs)).length Dd S'.length)) := .ref (by simp)
        rw [hl2, nxt_self] at r0
        rw [hl2] at e4 w3
        rw [← ea]
        exact hQ _ _ _ e4 w3 r0
    · exact h.elim
  · exact h.elim
end
end MP
/-! MPStm: statements. -/
namespace MP
open PySem PySem.Spec PyProof.Rows L2

section
variable (T : Tbl) (K : PySem.W.Frag) (W : WX)
structure EndR (D : MP.Ends) (D' : L2.Ends) (ρ : Nat → Addr) (n : Nat) (H : Hp) : Prop where
  nx : ∀ σ' S', D.nx σ' S' → ∀ ρ' ς' H', Ext K ρ n H ρ' S'.length H' → Wd T K ρ' S' H' → ER K ρ' S'.length H' σ' ς' → D'.nx ς' H'
  rt : ∀ d S', D.rt d S' → ∀ ρ' H' v, Ext K ρ n H ρ' S'.length H' → Wd T K ρ' S' H' → RD K ρ' S'.length H' d v → D'.rt v H'
  bk : ∀ σ' S', D.bk σ' S' → ∀ ρ' ς' H', Ext K ρ n H ρ' S'.length H' → Wd T K ρ' S' H' → ER K ρ' S'.length H' σ' ς' → D'.bk ς' H'
  ct : ∀ σ' S', D.ct σ' S' → ∀ ρ' ς' H', Ext K ρ n H ρ' S'.length H' → Wd T K ρ' S' H' → ER K ρ' S'.length H' σ' ς' → D'.ct ς' H'
  ex : ∀ x σ' S', D.ex x σ' S' → ∀ ρ' ς' H' cl d, Ext K ρ n H ρ' S'.length H' → Wd T K ρ' S' H' → ER K ρ' S'.length H' σ' ς' → RX T K ρ' S'.length H' x cl d → W cl d ς' H'
structure StS (D : MP.Ends) (D' : L2.Ends) (ρ : Nat → Addr) (σ : Env) (S : Sto) (ς : L2.St) (H : Hp) : Prop where
  wd : Wd T K ρ S H
  er : ER K ρ S.length H σ ς
  en : EndR T K W D D' ρ S.length H
variable (c : CallT)
def tS (s : MS) : TS := fun D' ς H => ∃ ρ σ S D, StS T K W D D' ρ σ S ς H ∧ wpS c s D σ S
def tSs (ss : MSs) : TS := fun D' ς H => ∃ ρ σ S D, StS T K W D D' ρ σ S ς H ∧ wpSs c ss D σ S
end
section
variable {T : Tbl} {K : PySem.W.Frag} {W : WX} {D : MP.Ends} {D' : L2.Ends} {ρ ρ1 : Nat → Addr} {n n1 : Nat} {σ : Env} {S S1 : Sto} {ς : L2.St} {H H1 : Hp}
theorem EndR.ext (r : EndR T K W D D' ρ n H) (e : Ext K ρ n H ρ1 n1 H1) : EndR T K W D D' ρ1 n1 H1 :=
  ⟨fun σ' S' h ρ' ς' H' e' w r' => r.nx σ' S' h ρ' ς' H' (e.trans e') w r', fun d S' h ρ' H' v e' w r' => r.rt d S' h ρ' H' v (e.trans e') w r', fun σ' S' h ρ' ς' H' e' w r' => r.bk σ' S' h ρ' ς' H' (e.trans e') w r',
    fun σ' S' h ρ' ς' H' e' w r' => r.ct σ' S' h ρ' ς' H' (e.trans e') w r', fun x σ' S' h ρ' ς' H' cl d e' w r' q => r.ex x σ' S' h ρ' ς' H' cl d (e.trans e') w r' q⟩
theorem StS.st (s : StS T K W D D' ρ σ S ς H) : St0 T K W ρ σ S (fun x S' => D.ex x σ S') ς H := ⟨s.wd, s.er, fun x S' h ρ' H' cl d e w q => s.en.ex x σ S' h ρ' ς H' cl d e w (s.er.ext e) q⟩
theorem StS.next (s : StS T K W D D' ρ σ S ς H) (e : Ext K ρ S.length H ρ1 S1.length H1) (w : Wd T K ρ1 S1 H1) : StS T K W D D' ρ1 σ S1 ς H1 := ⟨w, s.er.ext e, s.en.ext e⟩
theorem StS.nx (s : StS T K W D D' ρ σ S ς H) (h : D.nx σ S) : D'.nx ς H := s.en.nx σ S h ρ ς H Ext.refl s.wd s.er
variable {c : CallT} (hc : CallMono c c)
include hc
/-- behind a block, by other ends -/
theorem tSs_of {ss : MSs} {D1 : MP.Ends} {D1' : L2.Ends} (s : StS T K W D1 D1' ρ σ S ς H) (h : wpSs c ss D σ S) (m : EndsLe D D1) : tSs T K W c ss D1' ς H := ⟨ρ, σ, S, D1, s, wpSs_mono hc ss h m⟩
end

theorem wpSet_inv {o i v : D} {S : Sto} {Q : Sto → Prop} (h : wpSet o i v S Q) : (∃ (a : Nat) (k : Int) (xs : List D) (j : Nat), o = .ref a ∧ i = .int k ∧ S[a]? = some (.lst xs) ∧ ixN xs.length k = some j ∧ Q (S.set a (.lst (xs.set j v)))) ∨
    ∃ (a : Nat) (k : Key) (kvs : List (Key × D)), o = .ref a ∧ keyOf i = some k ∧ S[a]? = some (.dk false kvs) ∧ kvs.length < sizeLine ∧ Q (S.set a (.dk false (dPut kvs k v))) := by
  unfold wpSet at h
  split at h
  · split at h
    · rename_i e1
      split at h
      · rename_i e2
        exact .inl ⟨_, _, _, _, rfl, rfl, e1, e2, h⟩
      · exact h.elim
    · rename_i e1
      exact .inr ⟨_, _, _, rfl, rfl, e1, h.1, h.2⟩
    · exact h.elim
  · split at h
    · rename_i e1
      exact .inr ⟨_, _, _, rfl, rfl, e1, h.1, h.2⟩
    · exact h.elim
  · exact h.elim
def rSetD : TSet := fun o i v H Q => ∃ a H', o = .ref a ∧ DPut H a i v H' ∧ Q H'
theorem set_dict {X : Cx} (hu : X.A.units + 1 < cLine) : PSet X rSetD := by
  intro pins s σ H o i v ov iv u Q I ro ri rv ⟨a, H', eo, g, q⟩
  subst eo
  obtain rfl : ov = Value.ref a := ro
  exact d_setItem hu I g ri rv fun s4 I4 => ⟨H', I4, q⟩
theorem PSet.or {X : Cx} {t t' : TSet} (h : PSet X t) (h' : PSet X t') : PSet X (fun o i v H Q => t o i v H Q ∨ t' o i v H Q) := by
  intro pins s σ H o i v ov iv u Q I ro ri rv q
  rcases q with q | q
  · exact h pins s σ H o i v ov iv u Q I ro ri rv q
  · exact h' pins s σ H o i v ov iv u Q I ro ri rv q
section
variable {X : Cx} {T : Tbl} {c : CallT} {W : WX} {pos : Pos} (hc : CallMono c c) {a b e o tg : Expr} {xa xb xe xo : MX} {sts : List Stmt} {st : Stmt} {ms : MS} {mss : MSs} {b1 b2 : List Stmt} {m1 m2 : MSs}
include hc
theorem sd_ps0 : PSs X [] (tSs T X.K W c .nil) := impSs pss_nil fun D' ς H ⟨ρ, σ, S, D, s, h⟩ => by
  simp only [wpSs] at h
  exact s.nx h
theorem sd_pss (h1 : PS X st (tS T X.K W c ms)) (h2 : PSs X sts (tSs T X.K W c mss)) : PSs X (st :: sts) (tSs T X.K W c (.cons ms mss)) := impSs (pss_cons h1 h2) fun D' ς H ⟨ρ, σ, S, D, s, h⟩ => by
  simp only [wpSs] at h
  exact ⟨ρ, σ, S, { D with nx := fun σ' S' => wpSs c mss D σ' S' }, ⟨s.wd, s.er, ⟨fun σ' S' q ρ' ς' H' e w r => ⟨ρ', σ', S', D, ⟨w, r, s.en.ext e⟩, q⟩, s.en.rt, s.en.bk, s.en.ct, s.en.ex⟩⟩, h⟩
theorem sd_asg {t : Tg} (he : PE X e (tE T X.K c W xe)) (hg : PG X tg (gT X.K t)) (hs : swapsWithSole [tg] e pos.line X.env = pure false) (hw : swappedStores [tg] e X.env = pure none) (h1 : (assignEach [tg] X.env).map (·.2) = [assign tg X.env]) :
    PS X (.Assign [tg] e pos) (tS T X.K W c (.asg (.tg t) xe)) := impS (ps_asg he hg hs hw h1) fun D' ς H ⟨ρ, σ, S, D, s, h⟩ => by
  simp only [wpS, wpLt] at h
  refine tE_of hc s.st h fun x S1 ρ1 H1 v h1 e1 w1 r1 => ?_
  split at h1
  · rename_i σ' ha
    exact asg_ok t ha r1 (s.er.ext e1) fun ς' e' _ => s.en.nx _ _ h1 _ _ _ e1 w1 e'
  · exact h1.elim
theorem sd_setIx {i : Expr} {xi : MX} {tpos : Pos} (hu : X.A.units + 65 < cLine) (he : PE X e (tE T X.K c W xe)) (ho : PE X o (tE T X.K c W xo)) (hi : PE X i (tE T X.K c W xi)) (ha : ∀ v, assign (.Subscript o i tpos) X.env v = (do
      let ov ← holding [v] (eval o X.env)
      let iv ← holding [v, ov] (eval i X.env)
      standAt tpos
      holding [v, ov, iv] (setItem ov iv v)
      release [v, ov, iv] [])) (hs : swapsWithSole [.Subscript o i tpos] e pos.line X.env = pure false) :
    PS X (.Assign [.Subscript o i tpos] e pos) (tS T X.K W c (.asg (.ix xo xi) xe)) := impS (ps_asg he (pg_sub ho hi (PSet.or set_list (set_dict (by omega))) ha) hs rfl rfl) fun D' ς H ⟨ρ, σ, S, D, s, h⟩ => by
  simp only [wpS, wpLt] at h
  refine tE_of hc s.st h fun x S1 ρ1 H1 v h1 e1 w1 r1 => tE_of hc (s.st.next e1 w1) h1 fun y S2 ρ2 H2 u h2 e2 w2 r2 => tE_of hc (s.st.next (e1.trans e2) w2) h2 fun z S3 ρ3 H3 w h3 e3 w3 r3 => ?_
  have r2' := r2.ext e3
  rcases wpSet_inv h3 with ⟨a, k, ys, j, rfl, rfl, ey, ej, h3⟩ | ⟨a, k, kvs, rfl, hk, ey, hl, h3⟩
  · cases r2'
    cases r3
    obtain ⟨vs, q, r⟩ := w3.lstAt ey
    have e4 := ((e1.trans e2).trans e3).trans (Ext.setL (K := X.K) (ρ := ρ3) (S := S3) (ws := vs.set j v) (u := .lst (ys.set j x)) (w3.lt ey) q)
    exact .inl ⟨_, _, k, j, rfl, rfl, q, by rw [← r.length]; exact ej, s.en.nx _ _ h3 ρ3 ς _ e4 (w3.setL ey q (r.set ((r1.ext e2).ext e3) j)) (s.er.ext e4)⟩
  · cases r2'
    obtain ⟨vs, q, ke, rd⟩ := w3.ob _ _ ey
    have hlen : kvs.length = vs.length := by have := congrArg List.length ke; simpa using this
    have rv := (r1.ext e2).ext e3
    have e4 := ((e1.trans e2).trans e3).trans (Ext.setO (K := X.K) (ρ := ρ3) (S := S3) (v := .dK (putK vs k v)) (o := .dk false (dPut kvs k x)) (w3.lt ey) q trivial)
    exact .inr ⟨_, _, rfl, .inl ⟨vs, k, q, keyOf_kV hk r3, by omega, rfl⟩, s.en.nx _ _ h3 ρ3 ς _ e4 (w3.setDk ey q ke rd k rv) (s.er.ext e4)⟩
theorem sd_setF {f : Str} {tpos : Pos} (hcl : ∀ c C fo, T c = some (C, fo) → Cls X.K C ∧ NoAttr X.K C f) (he : PE X e (tE T X.K c W xe)) (ho : PE X o (tE T X.K c W xo)) (hs : swapsWith e (some (.Attribute o f tpos)) pos.line X.env = pure false) :
    PS X (.Assign [.Attribute o f tpos] e pos) (tS T X.K W c (.asg (.fld xo f) xe)) := impS (ps_fld ho he hs) fun D' ς H ⟨ρ, σ, S, D, s, h⟩ => by
  simp only [wpS, wpLt] at h
  refine tE_of hc s.st h fun x S1 ρ1 H1 v h1 e1 w1 r1 => tE_of hc (s.st.next e1 w1) h1 fun y S2 ρ2 H2 u h2 e2 w2 r2 => ?_
  cases r2 with
  | ref hl =>
    simp only [wpPutF] at h2
    split at h2
    · rename_i cn fs ey
      obtain ⟨C, fo, dx, vs, t, q, ed, ke, rd⟩ := w2.insAt ey
      obtain ⟨c1, c2⟩ := hcl _ _ _ t
      have hlen : fs.length = vs.length := by have := congrArg List.length ke; simpa using this
      have rv := r1.ext e2
      have e4 := (e1.trans e2).trans (Ext.setO (K := X.K) (ρ := ρ2) (S := S2) (v := .ins C dx (putF f v vs)) (o := .ins cn (putFD f x fs)) (w2.lt ey) q trivial)
      exact ⟨_, C, dx, vs, rfl, q, c1, c2, by rw [← hlen]; exact h2.1, s.en.nx _ _ h2.2 ρ2 ς _ e4 (w2.setF ey t q ed ke rd f rv) (s.er.ext e4)⟩
    · exact h2.elim
  | _ => exact h2.elim
theorem sd_par {i j : Nat} {x y : Str} {px py pt : Pos} {kt k2 : Nat} {pt2 : Pos} (cm : X.calm = true) (hN : X.N.Nodup) (hi : X.N[i]? = some x) (hj : X.N[j]? = some y) (hij : i ≠ j) (hx : X.env.scope.names.lookup x = some .local) (hy : X.env.scope.names.lookup y = some .local)
    (ha : PE X a (tE T X.K c W xa)) (hb : PE X b (tE T X.K c W xb)) (na : starEach [a, b] X.env = (false, eval a X.env) :: starEach [b] X.env) (nb : starEach [b] X.env = (false, eval b X.env) :: starEach [] X.env) (hw : swappedStores [.Tuple [.Name x px, .Name y py] kt pt] (.Tuple [a, b] k2 pt2) X.env = pure (some [x, y])) :
    PS X (.Assign [.Tuple [.Name x px, .Name y py] kt pt] (.Tuple [a, b] k2 pt2) pos) (tS T X.K W c (.asg (.tg (.tp [.nm i, .nm j])) (.tup (.cons xa (.cons xb .nil))))) := impS (ps_par cm hN hi hj hij hx hy (pa_cons ha (pa_cons hb pa_nil nb) na) hw rfl) fun D' ς H ⟨ρ, σ, S, D, s, h⟩ => by
  simp only [wpS, wpLt, wpE, wpEs] at h
  refine tE_of hc s.st h fun x S1 ρ1 H1 v h1 e1 w1 r1 => tE_of hc (s.st.next e1 w1) h1 fun y S2 ρ2 H2 u h2 e2 w2 r2 => ?_
  have h3 := h2.2
  simp only [asg, asgs] at h3
  have e3 := e1.trans e2
  exact ⟨v, u, rfl, s.en.nx _ _ h3 _ _ _ e3 w2 (((s.er.ext e3).set (r1.ext e2)).set r2)⟩
theorem sd_ex (he : PE X e (tE T X.K c W xe)) (hs : swapsWith e none pos.line X.env = pure false) : PS X (.Expr e pos) (tS T X.K W c (.ex xe)) := impS (ps_expr he hs) fun D' ς H ⟨ρ, σ, S, D, s, h⟩ => by
  simp only [wpS] at h
  exact tE_of hc s.st h fun x S1 ρ1 H1 v h1 e1 w1 r1 => s.en.nx _ _ h1 _ _ _ e1 w1 (s.er.ext e1)
theorem sd_if (ht : PT X a (tT T X.K c W xa)) (h1 : PSs X b1 (tSs T X.K W c m1)) (h2 : PSs X b2 (tSs T X.K W c m2)) : PS X (.If a b1 b2 pos) (tS T X.K W c (.iff xa m1 m2)) := impS (ps_if ht h1 h2) fun D' ς H ⟨ρ, σ, S, D, s, h⟩ => by
  simp only [wpS] at h
  refine tT_of hc s.st h fun x S1 h1 => truK_mono h1 fun k q ρ1 H1 e1 w1 => ?_
  cases k with
  | true => exact ⟨ρ1, σ, S1, D, s.next e1 w1, q⟩
  | false => exact ⟨ρ1, σ, S1, D, s.next e1 w1, q⟩
theorem sd_ret (he : PE X e (tE T X.K c W xe)) : PS X (.Return (some e) pos) (tS T X.K W c (.ret xe)) := impS (ps_ret he) fun D' ς H ⟨ρ, σ, S, D, s, h⟩ => by
  simp only [wpS] at h
  exact tE_of hc s.st h fun x S1 ρ1 H1 v h1 e1 w1 r1 => s.en.rt _ _ h1 _ _ _ e1 w1 r1
theorem sd_ret0 : PS X (.Return none pos) (tS T X.K W c .ret0) := impS ps_retN fun D' ς H ⟨ρ, σ, S, D, s, h⟩ => by
  simp only [wpS] at h
  exact s.en.rt _ _ h _ _ _ Ext.refl s.wd .non
theorem sd_brk : PS X (.Break pos) (tS T X.K W c .brk) := impS ps_break fun D' ς H ⟨ρ, σ, S, D, s, h⟩ => by
  simp only [wpS] at h
  exact s.en.bk _ _ h _ _ _ Ext.refl s.wd s.er
theorem sd_cnt : PS X (.Continue pos) (tS T X.K W c .cnt) := impS ps_continue fun D' ς H ⟨ρ, σ, S, D, s, h⟩ => by
  simp only [wpS] at h
  exact s.en.ct _ _ h _ _ _ Ext.refl s.wd s.er
theorem sd_pas : PS X (.Pass pos) (tS T X.K W c .pas) := impS ps_pass fun D' ς H ⟨ρ, σ, S, D, s, h⟩ => by
  simp only [wpS] at h
  exact s.nx h
theorem sd_whl (hp : PassesOwn (model X.prog X.w) X.A X.env X.xe) (ht : PT X a (tT T X.K c W xa)) (h1 : PSs X b1 (tSs T X.K W c m1)) : PS X (.While a b1 [] pos) (tS T X.K W c (.whl xa m1)) := impS (ps_while hp ht h1) fun D' ς H ⟨ρ, σ, S, D, s, h⟩ => by
  simp only [wpS] at h
  obtain ⟨V, ⟨m0, v0⟩, turn⟩ := h
  refine ⟨fun m ς' H' => ∃ ρ' σ' S', Ext X.K ρ S.length H ρ' S'.length H' ∧ Wd T X.K ρ' S' H' ∧ ER X.K ρ' S'.length H' σ' ς' ∧ V m σ' S', ⟨m0, ρ, σ, S, Ext.refl, s.wd, s.er, v0⟩, ?_⟩
  rintro m ς1 H1 ⟨ρ1, σ1, S1, e1, w1, r1, v1⟩
  have s1 : StS T X.K W D D' ρ1 σ1 S1 ς1 H1 := ⟨w1, r1, s.en.ext e1⟩
  refine tT_of hc s1.st (turn m σ1 S1 v1) fun x S2 h2 => truK_mono h2 fun k q ρ2 H2 e2 w2 => ?_
  cases k with
  | true =>
    refine ⟨fun ς' H' => ∃ m', m' < m ∧ ∃ ρ' σ' S', Ext X.K ρ S.length H ρ' S'.length H' ∧ Wd T X.K ρ' S' H' ∧ ER X.K ρ' S'.length H' σ' ς' ∧ V m' σ' S', fun ς' H' z => z, ?_⟩
    have s2 := s1.next e2 w2
    refine ⟨ρ2, σ1, S2, { D with nx := fun σ' S' => ∃ m', m' < m ∧ V m' σ' S', ct := fun σ' S' => ∃ m', m' < m ∧ V m' σ' S', bk := D.nx }, ⟨w2, s2.er, ⟨fun σ' S' ⟨m', hm, hv⟩ ρ' ς' H' e' w' r' => ⟨m', hm, ρ', σ', S', (e1.trans e2).trans e', w', r', hv⟩, s2.en.rt, s2.en.nx, fun σ' S' ⟨m', hm, hv⟩ ρ' ς' H' e' w' r' => ⟨m', hm, ρ', σ', S', (e1.trans e2).trans e', w', r', hv⟩, s2.en.ex⟩⟩, q⟩
  | false => exact s1.en.nx _ _ q _ _ _ e2 w2 (s1.er.ext e2)
theorem sd_for {it : Expr} {mi : MI} {t : Tg} (hp : PassesOwn (model X.prog X.w) X.A X.env X.xe) (cm : X.calm = true) (hi : PI X tg it (tI T X.K c W mi)) (hg : PG X tg (gT X.K t)) (h1 : PSs X b1 (tSs T X.K W c m1)) (hs : ∀ x, foldedSetIterable it X.env x = pure x) :
    PS X (.For tg it b1 [] pos) (tS T X.K W c (.for_ t mi m1)) := impS (ps_for hp cm hi hg h1 hs) fun D' ς H ⟨ρ, σ, S, D, s, h⟩ => by
  simp only [wpS] at h
  refine ⟨ρ, σ, S, _, s.st, wpI_mono hc mi h (fun xs gs S1 h1 ρ1 H1 J e1 w1 io => ?_) fun _ _ z => z⟩
  have s1 := s.next e1 w1
  let body : MP.D → Env → Sto → (Env → Sto → Prop) → Prop := fun x σ2 S2 K => match asg t x σ2 with
        | some σ3 => wpSs c m1 { D with nx := K, ct := K, bk := D.nx } σ3 S2
        | none => False
  refine ⟨fun i m ς' H' => m = xs.length - i ∧ ∃ ρ' σ' S', Ext X.K ρ1 S1.length H1 ρ' S'.length H' ∧ Wd T X.K ρ' S' H' ∧ ER X.K ρ' S'.length H' σ' ς' ∧ wpFor gs body D.nx (xs.drop i) σ' S', ⟨_, rfl, ρ1, σ, S1, Ext.refl, w1, s1.er, h1⟩, ?_⟩
  rintro i m ς2 H2 ⟨rfl, ρ2, σ2, S2, e2, w2, r2, h2⟩
  have s2 : StS T X.K W D D' ρ2 σ2 S2 ς2 H2 := ⟨w2, r2, s1.en.ext e2⟩
  cases hx : xs[i]? with
  | none =>
    have hi' := List.getElem?_eq_none_iff.mp hx
    rw [List.drop_eq_nil_of_le hi'] at h2
    simp only [wpFor] at h2
    exact .inl ⟨io.stop ρ2 S2 H2 i e2 w2 h2.1 hi', s2.nx h2.2⟩
  | some d =>
    have hlt := (List.getElem?_eq_some_iff.mp hx).1
    have hdr : xs.drop i = d :: xs.drop (i + 1) := by
      rw [List.drop_eq_getElem_cons hlt]
      congr 1
      exact (List.getElem?_eq_some_iff.mp hx).2
    rw [hdr] at h2
    simp only [wpFor] at h2
    obtain ⟨gd, hb⟩ := h2
    refine .inr ⟨io.go ρ2 S2 H2 i d e2 w2 gd hx, fun ς' H' => ∃ ρ' σ' S', Ext X.K ρ1 S1.length H1 ρ' S'.length H' ∧ Wd T X.K ρ' S' H' ∧ ER X.K ρ' S'.length H' σ' ς' ∧ wpFor gs body D.nx (xs.drop (i + 1)) σ' S', fun ς' H' z => ⟨_, by omega, rfl, z⟩, fun v H3 y => ?_⟩
    obtain ⟨e3, w3, rv, _⟩ := io.yld ρ2 S2 H2 i d v H3 e2 w2 gd hx y
    simp only [body] at hb
    cases ha : asg t d σ2 with
    | none => rw [ha] at hb; exact hb.elim
    | some σ3 =>
      rw [ha] at hb
      have s3 := s2.next (S1 := S2) e3 w3
      refine asg_ok t ha rv s3.er fun ς3 r3 _ => ⟨ρ2, σ3, S2, { D with nx := wpFor gs body D.nx (xs.drop (i + 1)), ct := wpFor gs body D.nx (xs.drop (i + 1)), bk := D.nx }, ⟨w3, r3, ⟨fun σ' S' q ρ' ς' H' e' w' r' => ⟨ρ', σ', S', (e2.trans e3).trans e', w', r', q⟩, s3.en.rt, s3.en.nx, fun σ' S' q ρ' ς' H' e' w' r' => ⟨ρ', σ', S', (e2.trans e3).trans e', w', r', q⟩, s3.en.ex⟩⟩, hb⟩
end
end MP
/-! MPTr: from the text's trees to the small trees, and that it is right. -/
namespace MP
open PySem PySem.Spec PyProof.Rows L2

/-- names of defs: number, how many parameters -/
abbrev GT := List (Str × Nat × Nat)
def slotOf (N : List Str) (x : Str) : Option Nat := N.findIdx? (· == x)
theorem slotOf_get {N : List Str} {x : Str} {i : Nat} (h : slotOf N x = some i) : N[i]? = some x := by
  unfold slotOf at h
  obtain ⟨hl, h1, _⟩ := List.findIdx?_eq_some_iff_getElem.mp h
  rw [List.getElem?_eq_getElem hl, beq_iff_eq.mp h1]
def isVis (sc : Scope) (x : Str) : Bool := match sc.names.lookup x with
  | some .local => true
  | some .cell => true
  | some .free => true
  | _ => false
def isLoc (sc : Scope) (x : Str) : Bool := match sc.names.lookup x with
  | some .local => true
  | _ => false
def isCell (sc : Scope) (x : Str) : Bool := match sc.names.lookup x with
  | some .cell => true
  | _ => false
def isGl (sc : Scope) (x : Str) : Bool := match sc.names.lookup x with
  | some .globalImplicit => true
  | _ => false
theorem isVis_ok {sc : Scope} {x : Str} (h : isVis sc x = true) : Vis sc x := by
  unfold isVis at h
  split at h
  · exact .inl ‹_›
  · exact .inr (.inl ‹_›)
  · exact .inr (.inr ‹_›)
  · cases h
theorem isLoc_ok {sc : Scope} {x : Str} (h : isLoc sc x = true) : sc.names.lookup x = some .local := by
  unfold isLoc at h
  split at h
  · assumption
  · cases h
theorem isCell_ok {sc : Scope} {x : Str} (h : isCell sc x = true) : sc.names.lookup x = some .cell := by
  unfold isCell at h
  split at h
  · assumption
  · cases h
theorem isGl_ok {sc : Scope} {x : Str} (h : isGl sc x = true) : sc.names.lookup x = some .globalImplicit := by
  unfold isGl at h
  split at h
  · assumption
  · cases h
def opb : Operator → Option Bop
  | .Add => some .add | .Sub => some .sub | .Mult => some .mul | .FloorDiv => some .fdiv | .Mod => some .mod | .Pow => some .pow | .LShift => some .shl | .RShift => some .shr | .BitAnd => some .band | .BitOr => some .bor | .BitXor => some .bxor
  | _ => none
theorem opb_ok {o : Operator} {b : Bop} (h : opb o = some b) : bopOf b = o := by
  cases o <;> simp only [opb, Option.some.injEq, reduceCtorEq] at h <;> (subst h; rfl)
/-- the second operand tells «is None» -/
def isNone : Expr → Bool
  | .Constant .none _ _ => true
  | _ => false
def opc : CmpOp → Expr → Option Cop
  | .Eq, _ => some .eq | .NotEq, _ => some .ne | .Lt, _ => some .lt | .LtE, _ => some .le | .Gt, _ => some .gt | .GtE, _ => some .ge | .In, _ => some .isin | .NotIn, _ => some .notin
  | .Is, b => if isNone b = true then some .isN else none
  | .IsNot, b => if isNone b = true then some .notN else none
theorem opc_ok {o : CmpOp} {b : Expr} {x : Cop} (h : opc o b = some x) : copOf x = o := by
  cases o <;> simp only [opc, Option.some.injEq] at h <;> first | (subst h; rfl) | (split at h <;> first | (cases h; rfl) | cases h)
def notSet : Expr → Bool
  | .Set _ _ _ => false
  | _ => true
def notSlice : Expr → Bool
  | .Slice _ _ _ _ => false
  | _ => true
def notStar : Expr → Bool
  | .Starred _ _ => false
  | _ => true
def notIf : Expr → Bool
  | .IfExp _ _ _ _ => false
  | _ => true
def notComp : Expr → Bool
  | .ListComp _ _ _ _ => false
  | .SetComp _ _ _ _ => false
  | .DictComp _ _ _ _ _ => false
  | _ => true
/-- not a call of a name without arguments (super) -/
def plainBase : Expr → Bool
  | .Call (.Name _ _) [] [] _ => false
  | _ => true
theorem base_ok {o : Expr} {m : Str} {env : PySem.Env} {w : Sem Value} (h : plainBase o = true) : attributeBase o m env w = w := by
  unfold attributeBase
  split
  · simp [plainBase] at h
  · rfl
theorem star_cons {e : Expr} {es : List Expr} {env : PySem.Env} (h : notStar e = true) : starEach (e :: es) env = (false, eval e env) :: starEach es env := by
  cases e <;> first | rfl | (simp [notStar] at h)
theorem star_any {es : List Expr} {env : PySem.Env} {pos : Pos} (h : es.all notStar = true) : (backTo pos (starEach es env)).any (·.1) = false := by
  induction es with
  | nil => rfl
  | cons e r ih =>
    rw [List.all_cons, Bool.and_eq_true] at h
    rw [star_cons h.1]
    show ((false || (backTo pos (starEach r env)).any (·.1)) = false)
    rw [ih h.2]
    rfl
theorem fold_ok {e : Expr} {env : PySem.Env} (h : notSet e = true) : ∀ x, foldedSetIterable e env x = pure x := by
  intro x
  cases e <;> first | rfl | (simp [notSet] at h)
theorem mark_ok {e : Expr} {op : CmpOp} (h : notSet e = true) : behindInMarks op e = false := by
  cases e <;> first | rfl | (simp [notSet] at h)
theorem ix_ok {e : Expr} (h : notSlice e = true) : PlainIx e := by
  intro o i
  cases e <;> first | rfl | (simp [notSlice] at h)

/-! ### the translation -/
def trL (f : Expr → Option MX) : List Expr → Option MXs
  | [] => some .nil
  | e :: r => match f e, trL f r with
    | some x, some y => if notStar e = true then some (.cons x y) else none
    | _, _ => none
def trB (op : BoolOp) (f : Expr → Option MX) : List Expr → Option MX
  | [] => none
  | [e] => f e
  | e :: r => match f e, trB op f r with
    | some x, some y => some (match op with | .And => .and x y | .Or => .or x y)
    | _, _ => none
def allBl : List Bl := [.len, .abs, .max, .min, .sum, .any, .all, .int, .bool, .list, .tuple, .dict]
def bltOf (x : Str) : Option Bl := allBl.find? fun b => Str.ofString (bltName b) == x
theorem bltOf_ok {x : Str} {b : Bl} (h : bltOf x = some b) : x = Str.ofString (bltName b) := by
  have q := List.find?_some (p := fun b => Str.ofString (bltName b) == x) h
  exact (beq_iff_eq.mp q).symm
def tyOf (x : Str) : Option Ty :=
  if x = Str.ofString "int" then some .int else if x = Str.ofString "bool" then some .bool else if x = Str.ofString "str" then some .str else if x = Str.ofString "tuple" then some .tuple else if x = Str.ofString "list" then some .list else if x = Str.ofString "dict" then some .dict else none
theorem tyOf_ok {x : Str} {b : Ty} (h : tyOf x = some b) : x = Str.ofString (tyName b) := by
  unfold tyOf at h
  repeat' split at h
  all_goals first | (cases h; assumption) | cases h
/-- built-in names that the texts may use -/
def bltNames : List Str := ["len", "abs", "max", "min", "sum", "any", "all", "int", "bool", "list", "tuple", "str", "isinstance", "range", "dict", "enumerate"].map Str.ofString
def mtOf (m : Str) (as : List Expr) : Option Mt :=
  match as with
  | [] => if m = Str.ofString "pop" then some .pop else if m = Str.ofString "bit_length" then some .bits else none
  | [_] => if m = Str.ofString "append" then some .append else if m = Str.ofString "pop" then some .popAt else if m = Str.ofString "extend" then some .extend else none
  | _ => none
def tgOk (N : List Str) (fn : Str → Bool) (sc : Scope) (x : Str) : Bool := isLoc sc x || (isCell sc x && fn x)
mutual
def trT (N : List Str) (fn : Str → Bool) (sc : Scope) : Nat → Expr → Option Tg
  | 0, _ => none
  | n + 1, e => match e with
    | .Name x _ => if tgOk N fn sc x = true then (slotOf N x).map .nm else none
    | .Tuple es _ _ => (trTs N fn sc n es).map .tp
    | _ => none
def trTs (N : List Str) (fn : Str → Bool) (sc : Scope) : Nat → List Expr → Option (List Tg)
  | 0, _ => none
  | n + 1, es => match es with
    | [] => some []
    | e :: r => match trT N fn sc n e, trTs N fn sc n r with
      | some x, some y => some (x :: y)
      | _, _ => none
end
mutual
def tgNames (N : List Str) : Nat → Expr → List (Str × Nat)
  | 0, _ => []
  | n + 1, e => match e with
    | .Name x _ => match slotOf N x with
      | some i => [(x, i)]
      | none => []
    | .Tuple es _ _ => tgNamess N n es
    | _ => []
def tgNamess (N : List Str) : Nat → List Expr → List (Str × Nat)
  | 0, _ => []
  | n + 1, es => match es with
    | [] => []
    | e :: r => tgNames N n e ++ tgNamess N n r
end
def isRange (sc : Scope) : Expr → Option (List Expr)
  | .Call (.Name f _) as [] _ => if f = Str.ofString "range" then (if isGl sc f = true then some as else none) else none
  | _ => none
def trOp (f : Expr → Option MX) (a : Expr) (op : Operator) (b : Expr) : Option MX := match opb op, f a, f b with
  | some o, some x, some y => some (.bin o x y)
  | _, _, _ => none
def trCmp1 (f : Expr → Option MX) (a : Expr) (op : CmpOp) (b : Expr) : Option MX := match opc op b, f a, f b with
  | some o, some x, some y => if notSet b = true then some (.cmp o x y) else none
  | _, _, _ => none
def trCmp2 (f : Expr → Option MX) (a : Expr) (op op' : CmpOp) (b d : Expr) : Option MX := match trCmp1 f a op b, trCmp1 f b op' d with
  | some (.cmp o x y), some (.cmp o' _ z) => some (.chain o o' x y z)
  | _, _ => none
def trIf (f : Expr → Option MX) (t a b : Expr) : Option MX := match f t, f a, f b with
  | some x, some y, some z => some (.ite x y z)
  | _, _, _ => none
def trO (f : Expr → Option MX) : Option Expr → Option MXo
  | none => some .no
  | some l => (f l).map .so
def trSl (f : Expr → Option MX) (a : Expr) (lo hi : Option Expr) : Option MX := match f a, trO f lo, trO f hi with
  | some x, some y, some z => some (.sl x y z)
  | _, _, _ => none
def trIx (f : Expr → Option MX) (a i : Expr) : Option MX := match f a, f i with
  | some x, some y => if notSlice i = true then some (.ix x y) else none
  | _, _ => none
def trIsi (sc : Scope) (f : Expr → Option MX) : List Expr → Option MX
  | [a, .Name t _] => match f a, tyOf t with
    | some x, some k => if (notStar a && isGl sc t) = true then some (.isi x k) else none
    | _, _ => none
  | _ => none
def trLrg (f : Expr → Option MX) : List Expr → Option MX
  | [u] => if notStar u = true then (f u).map fun x => .listRg (.cons x .nil) else none
  | [u, v] => match f u, f v with
    | some x, some y => if (notStar u && notStar v) = true then some (.listRg (.cons x (.cons y .nil))) else none
    | _, _ => none
  | _ => none
def lrg (sc : Scope) (g : Str) (as : List Expr) : Option (List Expr) := if g = Str.ofString "list" then (match as with
  | [a] => isRange sc a
  | _ => none) else none
def trBlt (sc : Scope) (f : Expr → Option MX) (g : Str) (as : List Expr) : Option MX := match bltOf g with
  | some b => if as.isEmpty = true then none else (trL f as).map (.blt b)
  | none => none
def trDef (f : Expr → Option MX) (i np : Nat) (as : List Expr) : Option MX := match trL f as with
  | some xs => if (as.length == np) = true then some (.call i xs) else none
  | none => none
/-- list(o.keys()) -/
def trKeys (sc : Scope) (f : Expr → Option MX) (g : Str) (as : List Expr) : Option MX := if g = Str.ofString "list" then (match as with
  | [.Call (.Attribute o m ap) [] [] kp] => if (m = Str.ofString "keys") then (if (plainBase o && ap.endLine == kp.line) = true then (f o).map .keysOf else none) else none
  | _ => none) else none
def trCall (G : GT) (sc : Scope) (f : Expr → Option MX) (g : Str) (as : List Expr) : Option MX :=
  if (isGl sc g && !(g == "__debug__")) = true then
    match G.lookup g with
    | some (i, np) => trDef f i np as
    | none => if g = Str.ofString "isinstance" then trIsi sc f as else match trKeys sc f g as with
      | some y => some y
      | none => match lrg sc g as with
      | some us => trLrg f us
      | none => trBlt sc f g as
  else none
def trMeth (f : Expr → Option MX) (o : Expr) (m : Str) (ap : Pos) (as : List Expr) (pos : Pos) : Option MX := match mtOf m as, f o, trL f as with
  | some k, some x, some xs => if (plainBase o && ap.endLine == pos.line) = true then some (.meth k x xs) else none
  | _, _, _ => none
def trGet (f : Expr → Option MX) (o : Expr) (m : Str) (ap : Pos) (as : List Expr) (pos : Pos) : Option MX :=
  if m = Str.ofString "get" then match as with
    | [a] => match f o, f a with
      | some x, some y => if (plainBase o && ap.endLine == pos.line && notStar a) = true then some (.dget x y) else none
      | _, _ => none
    | [a, b] => match f o, f a, f b with
      | some x, some y, some z => if (plainBase o && ap.endLine == pos.line && (notStar a && notStar b)) = true then some (.dget2 x y z) else none
      | _, _, _ => none
    | _ => none
  else none
def trAt (f : Expr → Option MX) (o : Expr) (m : Str) (ap : Pos) (as : List Expr) (pos : Pos) : Option MX := match trMeth f o m ap as pos with
  | some y => some y
  | none => trGet f o m ap as pos
def isEnum (sc : Scope) : Expr → Option Expr
  | .Call (.Name f _) [a] [] _ => if f = Str.ofString "enumerate" then (if (isGl sc f && notStar a) = true then some a else none) else none
  | _ => none
def isTup : Expr → Bool
  | .Tuple _ _ _ => true
  | _ => false
def trI (sc : Scope) (f : Expr → Option MX) (tg it : Expr) : Option MI :=
  match isEnum sc it with
  | some a => if isTup tg = true then (f a).map .enum else none
  | none => match isRange sc it with
  | some [u] => if notStar u = true then (f u).map fun x => .rng (.cons x .nil) else none
  | some [u, v] => match f u, f v with
    | some x, some y => if (notStar u && notStar v) = true then some (.rng (.cons x (.cons y .nil))) else none
    | _, _ => none
  | some _ => none
  | none => if notSet it = true then (f it).map .seq else none
def trFs (f : Expr → Option MX) : List Expr → Option MXs
  | [] => some .nil
  | [c] => (f c).map fun x => .cons x .nil
  | _ => none
def trComp (N : List Str) (n : Nat) (sc cs : Scope) (f g : Expr → Option MX) (elt tg it : Expr) (ifs : List Expr) : Option MX :=
  match trT N (fun x => cs.names.lookup x == some .cell) (relS cs sc) n tg, trI sc f tg it, trFs g ifs, g elt with
  | some t, some i, some fs, some x => if (blkC N sc cs (tgNames N n tg) && (slots t).all (fun j => ((tgNames N n tg).map (·.2)).contains j)) = true then some (.comp ((tgNames N n tg).map (·.2)) t i fs x) else none
  | _, _, _, _ => none
/-- a comprehension over what a name holds: a list, or a dict -/
def orD (N : List Str) (sc : Scope) (it : Expr) (r : Option MX) : Option MX := match it, r with
  | .Name x _, some (.comp vs t i fs y) => if (isVis sc x && !(x == "__debug__") && !(x == "__classdict__")) = true then match slotOf N x with
      | some j => some (.orX (.comp vs t i fs y) (.compD vs t j fs y))
      | none => some (.comp vs t i fs y)
    else some (.comp vs t i fs y)
  | _, r => r
def unOr : Option MX → Option MX
  | some (.orX a _) => some a
  | r => r
def trC : Const → Option MX
  | .int i => some (.int i)
  | .bool b => some (.bl b)
  | .none => some .non
  | .str x => some (.str x)
  | _ => none
def trV (N : List Str) (G : GT) (sc : Scope) (x : Str) : Option MX := if (isVis sc x && !(x == "__debug__") && !(x == "__classdict__")) = true then (slotOf N x).map .var else
  if (isGl sc x && !(x == "__debug__") && (G.lookup x).isSome) = true then some (.fnv x) else none
/-- the defs that take n things -/
def fnsOf (G : GT) (n : Nat) : List (Str × Nat) := (G.filter fun g => g.2.2 == n).map fun g => (g.1, g.2.1)
/-- a call of what a name holds -/
def trCallV (N : List Str) (G : GT) (sc : Scope) (f : Expr → Option MX) (x : Str) (as : List Expr) : Option MX :=
  if (isVis sc x && !(x == "__debug__") && !(x == "__classdict__")) = true then match slotOf N x, trL f as with
    | some i, some xs => if as.isEmpty = true then none else some (.callv i (fnsOf G as.length) xs)
    | _, _ => none
  else none
def trE (N : List Str) (G : GT) : Nat → Scope → Expr → Option MX
  | 0, _, _ => none
  | n + 1, sc, e => match e with
    | .Constant c _ _ => trC c
    | .Name x _ => trV N G sc x
    | .Tuple es _ _ => (trL (trE N G n sc) es).map .tup
    | .List es _ => (trL (trE N G n sc) es).map .lst
    | .Dict [] [] _ => some .dnew
    | .BinOp a op b _ => trOp (trE N G n sc) a op b
    | .UnaryOp .USub a _ => (trE N G n sc a).map .neg
    | .UnaryOp .Not a _ => (trE N G n sc a).map .not
    | .BoolOp op vs _ => trB op (trE N G n sc) vs
    | .Compare a [op] [b] _ => trCmp1 (trE N G n sc) a op b
    | .Compare a [op, op'] [b, d] _ => trCmp2 (trE N G n sc) a op op' b d
    | .IfExp t a b _ => trIf (trE N G n sc) t a b
    | .Subscript a i _ => match i with
      | .Slice lo hi none _ => trSl (trE N G n sc) a lo hi
      | i => trIx (trE N G n sc) a i
    | .Call g as [] pos => match g with
      | .Name x _ => match trCallV N G sc (trE N G n sc) x as with
        | some y => some y
        | none => trCall G sc (trE N G n sc) x as
      | .Attribute o m ap => trAt (trE N G n sc) o m ap as pos
      | _ => none
    | .ListComp elt [⟨tg, it, ifs, 0⟩] cs _ => orD N sc it (trComp N n sc cs (trE N G n sc) (trE N G n (relS cs sc)) elt tg it ifs)
    | _ => none
end MP
/-! MPOk: the translation is right. -/
namespace MP
open PySem PySem.Spec PyProof.Rows L2

structure Gk (T : Tbl) (c : CallT) (G : GT) (k : Nat) (X : Cx) : Prop where
  cm : X.calm = true
  room : Room k X.A
  nd : X.N.Nodup
  fn : ∀ g i np, G.lookup g = some (i, np) → ∃ fa fd ps, PySem.W.nsIn X.K mainGlobals g = some (some (.ref fa)) ∧ ps.length = np ∧ X.mg g = some (.ref fa) ∧ PySem.W.keepIn X.K (.ref fa) = true ∧ Binds X.K fd ps [] ∧ FnOk X.prog X.w X.K X.mg X.base (L2.CX X.prog X.w) k fa fd ps (spM T X.K c i ps.length)
  bl : ∀ x ∈ bltNames, X.mg x = none
  nu : (G.map (·.1)).Nodup
/-- of names that stand once: a def that was picked is the name's -/
theorem fns_get {x : Str} {G : GT} (nd : (G.map (·.1)).Nodup) {n i : Nat} (h : (fnsOf G n).lookup x = some i) : ∃ np, G.lookup x = some (i, np) ∧ np = n := by
  unfold fnsOf at h
  have m : (x, i) ∈ (G.filter fun g => g.2.2 == n).map fun g => (g.1, g.2.1) := by
    generalize ((G.filter fun g => g.2.2 == n).map fun g => (g.1, g.2.1)) = l at h
    induction l with
    | nil => cases h
    | cons p r ih =>
      rw [List.lookup_cons] at h
      split at h
      · rename_i e
        have e1 := beq_iff_eq.mp e
        have e2 : p.2 = i := Option.some.inj h
        have e3 : p = (x, i) := by rw [e1, ← e2]
        rw [e3]
        exact List.mem_cons_self
      · exact List.mem_cons_of_mem _ (ih h)
  obtain ⟨⟨y, j, np⟩, hm, he⟩ := List.mem_map.mp m
  cases he
  rw [List.mem_filter] at hm
  refine ⟨np, ?_, by simpa using hm.2⟩
  have hm1 := hm.1
  clear hm h m
  induction G with
  | nil => cases hm1
  | cons p r ih =>
    rw [List.map_cons, List.nodup_cons] at nd
    rw [List.lookup_cons]
    rcases List.mem_cons.mp hm1 with q | q
    · rw [← q]; simp
    · have : (y == p.1) = false := by
        rw [beq_eq_false_iff_ne]
        rintro rfl
        exact nd.1 (List.mem_map.mpr ⟨_, q, rfl⟩)
      rw [this]
      exact ih nd.2 q
theorem Gk.hu {T : Tbl} {c : CallT} {G : GT} {k : Nat} {X : Cx} (g : Gk T c G k X) : X.A.units + 65 < cLine := by
  have := g.room.un
  omega
theorem Gk.blk {T : Tbl} {c : CallT} {G : GT} {k : Nat} {X : Cx} (g : Gk T c G k X) (s : Shared) (H : Hp) (scope : Scope) (cenv : PySem.Env) (fp : List Addr) : Gk T c G k (X.blk s H scope cenv fp) := ⟨g.cm, g.room, g.nd, g.fn, g.bl, g.nu⟩

/-- an expression as a value and as a test -/
structure Bo (T : Tbl) (c : CallT) (W : WX) (X : Cx) (e : Expr) (x : MX) : Prop where
  v : PE X e (tE T X.K c W x)
  t : PT X e (tT T X.K c W x)

section
variable {T : Tbl} {c : CallT} {G : GT} {k : Nat} {X : Cx} {W : WX} {pos : Pos} {f : Expr → Option MX} (hc : CallMono c c)
include hc
theorem bo_of {e : Expr} {x : MX} (h : PE X e (tE T X.K c W x)) (he : ∀ whole, isTrue e X.env whole = (do let v ← whole; standAt e.pos; holding [v] (truthy v))) : Bo T c W X e x := ⟨h, sd_truth hc h he⟩
theorem iteT_ok {d a b : Expr} {xd xa xb : MX} (hd : PT X d (tT T X.K c W xd)) (ha : PT X a (tT T X.K c W xa)) (hb : PT X b (tT T X.K c W xb)) : PT X (.IfExp d a b pos) (tT T X.K c W (.ite xd xa xb)) := by
  refine ⟨fun pins s ς H Q I ⟨ρ, σ, S, E, st, h⟩ => ?_⟩
  unfold wpE at h
  refine PyProof.Rows.isTrue_IfExp (thn (hd.run pins s ς H (fun k H1 => ∃ ρ1 S1, St0 T X.K W ρ1 σ S1 E ς H1 ∧ Ext X.K ρ S.length H ρ1 S1.length H1 ∧ if k = true then wpE c xa E σ S1 (fun v S' => truK S' v fun k => PstB T X.K ρ S.length H Q k S') else wpE c xb E σ S1 (fun v S' => truK S' v fun k => PstB T X.K ρ S.length H Q k S')) I ?_) fun k s1 hk => ?_)
  · exact tT_of hc st h fun x S1 h1 => truK_mono h1 fun k q ρ1 H1 e1 w1 => ⟨ρ1, S1, st.next e1 w1, e1, q⟩
  · obtain ⟨H1, I1, ρ1, S1, st1, e1, q⟩ := hk
    cases k with
    | true => exact ha.run pins s1 ς H1 Q I1 (tT_of hc st1 q fun y S2 h3 => truK_mono h3 fun b q ρ2 H2 e2 w2 => q ρ2 H2 (e1.trans e2) w2)
    | false => exact hb.run pins s1 ς H1 Q I1 (tT_of hc st1 q fun y S2 h3 => truK_mono h3 fun b q ρ2 H2 e2 w2 => q ρ2 H2 (e1.trans e2) w2)
variable (ih : ∀ e x, f e = some x → Bo T c W X e x)
include ih
theorem trL_star : ∀ {es : List Expr} {xs : MXs}, trL f es = some xs → es.all notStar = true
  | [], _, _ => rfl
  | e :: r, xs, h => by
    unfold trL at h
    split at h
    · split at h
      · rw [List.all_cons, Bool.and_eq_true]
        exact ⟨‹_›, trL_star ‹_›⟩
      · cases h
    · cases h
theorem trL_ok : ∀ {es : List Expr} {xs : MXs}, trL f es = some xs → PA X es (tA T X.K c W xs)
  | [], xs, h => by
    simp only [trL, Option.some.injEq] at h
    subst h
    exact sd_nil hc
  | e :: r, xs, h => by
    unfold trL at h
    split at h
    · split at h
      · rename_i x y e1 e2 hs
        simp only [Option.some.injEq] at h
        subst h
        exact sd_cons hc (ih _ _ e1).v (trL_ok e2) (star_cons hs)
      · cases h
    · cases h
theorem trL_len : ∀ {es : List Expr} {xs : MXs}, trL f es = some xs → ∀ σ S E Q, wpEs c xs E σ S Q → wpEs c xs E σ S fun vs S' => vs.length = es.length ∧ Q vs S'
  | [], xs, h, σ, S, E, Q, q => by
    simp only [trL, Option.some.injEq] at h
    subst h
    simp only [wpEs] at *
    exact ⟨rfl, q⟩
  | e :: r, xs, h, σ, S, E, Q, q => by
    unfold trL at h
    split at h
    · split at h
      · rename_i x y e1 e2 hs
        simp only [Option.some.injEq] at h
        subst h
        simp only [wpEs] at *
        exact wpE_mono hc _ q (fun v S1 q1 => wpEs_mono hc _ (trL_len e2 _ _ _ _ q1) (fun vs S2 q2 => ⟨by rw [List.length_cons, List.length_cons, q2.1], q2.2⟩) fun _ _ z => z) fun _ _ z => z
      · cases h
    · cases h
theorem trB_ok {op : BoolOp} : ∀ {es : List Expr} {x : MX}, trB op f es = some x → PE X (.BoolOp op es pos) (tE T X.K c W x) ∧ PW X (.BoolOp op es pos) (tT T X.K c W x)
  | [], x, h => by cases h
  | [e], x, h => by
    have b := ih e x h
    refine ⟨pe_one b.v, ?_⟩
    cases op with
    | And => exact pw_and1 b.t
    | Or => exact pw_or1 b.t
  | e :: e2 :: r, x, h => by
    unfold trB at h
    split at h
    · rename_i y z h1 h2
      simp only [Option.some.injEq] at h
      subst h
      have b := ih _ _ h1
      obtain ⟨b1, b2⟩ := trB_ok h2
      cases op with
      | And => exact ⟨sd_and hc b.v b1, sd_andT hc b.t b2⟩
      | Or => exact ⟨sd_or hc b.v b1, sd_orT hc b.t b2⟩
    · cases h
theorem trOp_ok {a b : Expr} {op : Operator} {x : MX} (h : trOp f a op b = some x) : Bo T c W X (.BinOp a op b pos) x := by
  unfold trOp at h
  split at h
  · rename_i o y z h1 h2 h3
    cases h
    rw [← opb_ok h1]
    exact bo_of hc (sd_bin hc (ih _ _ h2).v (ih _ _ h3).v) fun _ => rfl
  · cases h
theorem trCmp1_ok (g : Gk T c G k X) {a b : Expr} {op : CmpOp} {x : MX} (h : trCmp1 f a op b = some x) : Bo T c W X (.Compare a [op] [b] pos) x := by
  unfold trCmp1 at h
  split at h
  · rename_i o y z h1 h2 h3
    split at h
    · cases h
      rename_i hs
      have hm : behindInMarks (copOf o) b = false := mark_ok hs
      rw [← opc_ok h1]
      exact ⟨sd_cmp hc g.hu hm (ih _ _ h2).v (ih _ _ h3).v, sd_cmpT hc g.hu hm (ih _ _ h2).v (ih _ _ h3).v⟩
    · cases h
  · cases h
theorem trCmp1_inv {a b : Expr} {op : CmpOp} {o : Cop} {x y : MX} (h : trCmp1 f a op b = some (.cmp o x y)) : copOf o = op ∧ f a = some x ∧ f b = some y ∧ notSet b = true := by
  unfold trCmp1 at h
  split at h
  · rename_i o y z h1 h2 h3
    split at h
    · cases h
      exact ⟨opc_ok h1, h2, h3, ‹_›⟩
    · cases h
  · cases h
theorem trCmp2_ok (g : Gk T c G k X) {a b d : Expr} {op op' : CmpOp} {x : MX} (h : trCmp2 f a op op' b d = some x) : Bo T c W X (.Compare a [op, op'] [b, d] pos) x := by
  unfold trCmp2 at h
  split at h
  · rename_i o y z o' w u h1 h2
    cases h
    obtain ⟨a1, a2, a3, a4⟩ := trCmp1_inv hc ih h1
    obtain ⟨b1, b2, b3, b4⟩ := trCmp1_inv hc ih h2
    have hm : lastMarks [copOf o, copOf o'] [b, d] = false := mark_ok b4
    rw [← a1, ← b1]
    exact ⟨sd_chain hc g.hu hm (ih _ _ a2).v (ih _ _ a3).v (ih _ _ b3).v, sd_chainT hc g.hu hm (ih _ _ a2).v (ih _ _ a3).v (ih _ _ b3).v⟩
  · cases h
theorem trIf_ok {t a b : Expr} {x : MX} (h : trIf f t a b = some x) : Bo T c W X (.IfExp t a b pos) x := by
  unfold trIf at h
  split at h
  · rename_i y z w h1 h2 h3
    cases h
    exact ⟨sd_ite hc (ih _ _ h1).t (ih _ _ h2).v (ih _ _ h3).v, iteT_ok hc (ih _ _ h1).t (ih _ _ h2).t (ih _ _ h3).t⟩
  · cases h
theorem trO_ok {o : Option Expr} {x : MXo} (h : trO f o = some x) : PO X o (tO T X.K c W x) := by
  cases o with
  | none => cases h; exact sd_no hc
  | some l =>
    obtain ⟨y, h1, rfl⟩ := Option.map_eq_some_iff.mp h
    exact sd_so hc (ih _ _ h1).v
theorem trSl_ok {a : Expr} {lo hi : Option Expr} {x : MX} {p2 : Pos} (h : trSl f a lo hi = some x) : Bo T c W X (.Subscript a (.Slice lo hi none p2) pos) x := by
  unfold trSl at h
  split at h
  · rename_i y z w h1 h2 h3
    cases h
    exact bo_of hc (sd_sl hc (ih _ _ h1).v (trO_ok hc ih h2) (trO_ok hc ih h3)) fun _ => rfl
  · cases h
theorem trIx_ok (g : Gk T c G k X) {a i : Expr} {x : MX} (h : trIx f a i = some x) : Bo T c W X (.Subscript a i pos) x := by
  unfold trIx at h
  split at h
  · rename_i y z h1 h2
    split at h
    · cases h
      exact bo_of hc (sd_ix hc g.hu (ix_ok ‹_›) (ih _ _ h1).v (ih _ _ h2).v) fun _ => rfl
    · cases h
  · cases h
theorem bl_mem {x : String} (h : Str.ofString x ∈ bltNames) (g : Gk T c G k X) : X.mg (Str.ofString x) = none := g.bl _ h
theorem blt_mem (b : Bl) : Str.ofString (bltName b) ∈ bltNames := by cases b <;> decide +kernel
theorem ty_mem (b : Ty) : Str.ofString (tyName b) ∈ bltNames := by cases b <;> decide +kernel
theorem trCall_ok (g : Gk T c G k X) (tk : Takes X W) {x : Str} {p : Pos} {as : List Expr} {y : MX} (h : trCall G X.env.scope f x as = some y) : Bo T c W X (.Call (.Name x p) as [] pos) y := by
  unfold trCall at h
  split at h
  · rename_i hx
    rw [Bool.and_eq_true, Bool.not_eq_true'] at hx
    have hg : Gl X x := isGl_ok hx.1
    split at h
    · rename_i i np hG
      unfold trDef at h
      split at h
      · rename_i xs hL
        split at h
        · rename_i hz
          cases h
          obtain ⟨fa, fd, ps, _, e1, e2, e3, e4, F⟩ := g.fn _ _ _ hG
          cases as with
          | nil =>
            have hp : ps = [] := List.eq_nil_of_length_eq_zero (by rw [e1]; exact (beq_iff_eq.mp hz).symm)
            subst hp
            simp only [trL, Option.some.injEq] at hL
            subst hL
            exact bo_of hc (sd_call0 F g.room hg e2 e3 e4 tk hx.2) fun _ => rfl
          | cons a r =>
            have st := trL_star hc ih hL
            rw [List.all_cons, Bool.and_eq_true] at st
            have hl : (a :: r).length = ps.length := by rw [e1]; exact beq_iff_eq.mp hz
            refine bo_of hc (sd_call hc F g.room hg e2 e3 e4 tk (fun σ S E Q q => ?_) (trL_ok hc ih hL) hx.2 (star_cons st.1) (star_any st.2)) fun _ => rfl
            rw [← hl]
            exact trL_len hc ih hL σ S E Q q
        · cases h
      · cases h
    · split at h
      · rename_i hi
        subst hi
        unfold trIsi at h
        split at h
        · rename_i a t p2
          split at h
          · rename_i y' kk h1 h2
            split at h
            · rename_i hs
              cases h
              rw [Bool.and_eq_true] at hs
              have e := tyOf_ok h2
              subst e
              exact bo_of hc (sd_isi hc hg (g.bl _ (by decide +kernel)) (isGl_ok hs.2) (g.bl _ (ty_mem hc ih kk)) (ih _ _ h1).v (star_cons hs.1)) fun _ => rfl
            · cases h
          · cases h
        · cases h
      · split at h
        · rename_i y' hk
          cases h
          unfold trKeys at hk
          split at hk
          · rename_i hx3
            subst hx3
            split at hk
            · split at hk
              · rename_i hm
                subst hm
                split at hk
                · rename_i hz
                  obtain ⟨z, h1, rfl⟩ := Option.map_eq_some_iff.mp hk
                  rw [Bool.and_eq_true] at hz
                  exact bo_of hc (sd_keysOf hc g.cm hg (g.bl _ (by decide +kernel)) (base_ok hz.1) hz.2 (ih _ _ h1).v) fun _ => rfl
                · cases hk
              · cases hk
            · cases hk
          · cases hk
        split at h
        · rename_i us hl
          unfold lrg at hl
          split at hl
          · rename_i hx2
            subst hx2
            split at hl
            · rename_i a
              unfold isRange at hl
              split at hl
              · rename_i f' p2 as' p3
                split at hl
                · rename_i hr
                  subst hr
                  split at hl
                  · rename_i hgr
                    cases hl
                    have mr : X.mg (Str.ofString "range") = none := g.bl _ (by decide +kernel)
                    have ml : X.mg (Str.ofString "list") = none := g.bl _ (by decide +kernel)
                    unfold trLrg at h
                    split at h
                    · split at h
                      · rename_i u hs
                        obtain ⟨z, h1, rfl⟩ := Option.map_eq_some_iff.mp h
                        exact bo_of hc (sd_lrg1 hc g.cm hg ml (isGl_ok hgr) mr (ih _ _ h1).v (star_cons hs)) fun _ => rfl
                      · cases h
                    · split at h
                      · split at h
                        · rename_i hs
                          cases h
                          rw [Bool.and_eq_true] at hs
                          exact bo_of hc (sd_lrg2 hc g.cm hg ml (isGl_ok hgr) mr (ih _ _ ‹_›).v (ih _ _ ‹_›).v (star_cons hs.1) (star_cons hs.2)) fun _ => rfl
                        · cases h
                      · cases h
                    · cases h
                  · cases hl
                · cases hl
              · cases hl
            · cases hl
          · cases hl
        · unfold trBlt at h
          split at h
          · rename_i b hb
            split at h
            · cases h
            · rename_i hne
              obtain ⟨xs, hL, rfl⟩ := Option.map_eq_some_iff.mp h
              have e := bltOf_ok hb
              subst e
              cases as with
              | nil => simp at hne
              | cons a r =>
                have st := trL_star hc ih hL
                rw [List.all_cons, Bool.and_eq_true] at st
                exact bo_of hc (sd_blt hc g.cm hg (g.bl _ (blt_mem hc ih b)) (trL_ok hc ih hL) (star_cons st.1) (star_any st.2)) fun _ => rfl
          · cases h
  · cases h
theorem trMeth_ok {o : Expr} {m : Str} {ap : Pos} {as : List Expr} {y : MX} (h : trMeth f o m ap as pos = some y) : Bo T c W X (.Call (.Attribute o m ap) as [] pos) y := by
  unfold trMeth at h
  split at h
  · rename_i kk x xs h1 h2 h3
    split at h
    · rename_i hz
      cases h
      rw [Bool.and_eq_true] at hz
      have hb : ∀ m, attributeBase o m X.env (eval o X.env) = eval o X.env := fun m => base_ok hz.1
      have b := (ih _ _ h2).v
      unfold mtOf at h1
      split at h1
      · simp only [trL, Option.some.injEq] at h3
        subst h3
        split at h1
        · cases h1
          rename_i hm
          subst hm
          exact bo_of hc (sd_pop hc (hb _) hz.2 b) fun _ => rfl
        · split at h1
          · cases h1
            rename_i hm
            subst hm
            exact bo_of hc (sd_bits hc (hb _) hz.2 b) fun _ => rfl
          · cases h1
      · rename_i a
        simp only [trL] at h3
        split at h3
        · split at h3
          · rename_i x' y' e1 e2 hs
            simp only [Option.some.injEq] at e2 h3
            subst e2
            subst h3
            split at h1
            · cases h1
              rename_i hm
              subst hm
              exact bo_of hc (sd_append hc (hb _) hz.2 b (ih _ _ e1).v (star_cons hs)) fun _ => rfl
            · split at h1
              · cases h1
                rename_i hm
                subst hm
                exact bo_of hc (sd_popAt hc (hb _) hz.2 b (ih _ _ e1).v (star_cons hs)) fun _ => rfl
              · split at h1
                · cases h1
                  rename_i hm
                  subst hm
                  exact bo_of hc (sd_extend hc (hb _) hz.2 b (ih _ _ e1).v (star_cons hs)) fun _ => rfl
                · cases h1
          · cases h3
        · cases h3
      · cases h1
    · cases h
  · cases h
theorem trGet_ok (g : Gk T c G k X) {o : Expr} {m : Str} {ap : Pos} {as : List Expr} {y : MX} (h : trGet f o m ap as pos = some y) : Bo T c W X (.Call (.Attribute o m ap) as [] pos) y := by
  unfold trGet at h
  split at h
  · rename_i hm
    subst hm
    split at h
    · split at h
      · rename_i h1 h2
        split at h
        · rename_i hz
          cases h
          rw [Bool.and_eq_true, Bool.and_eq_true] at hz
          exact bo_of hc (sd_dget hc g.hu (base_ok hz.1.1) hz.1.2 (ih _ _ h1).v (ih _ _ h2).v ((star_cons hz.2).trans rfl)) fun _ => rfl
        · cases h
      · cases h
    · split at h
      · rename_i h1 h2 h3
        split at h
        · rename_i hz
          cases h
          rw [Bool.and_eq_true, Bool.and_eq_true, Bool.and_eq_true] at hz
          exact bo_of hc (sd_dget2 hc g.hu (base_ok hz.1.1) hz.1.2 (ih _ _ h1).v (ih _ _ h2).v (ih _ _ h3).v (by rw [star_cons hz.2.1, star_cons hz.2.2]; rfl)) fun _ => rfl
        · cases h
      · cases h
    · cases h
  · cases h
theorem trAt_ok (g : Gk T c G k X) {o : Expr} {m : Str} {ap : Pos} {as : List Expr} {y : MX} (h : trAt f o m ap as pos = some y) : Bo T c W X (.Call (.Attribute o m ap) as [] pos) y := by
  unfold trAt at h
  split at h
  · cases h
    exact trMeth_ok hc ih ‹_›
  · exact trGet_ok hc ih g h
theorem trCallV_ok (g : Gk T c G k X) (tk : Takes X W) {x : Str} {p : Pos} {as : List Expr} {y : MX} (h : trCallV X.N G X.env.scope f x as = some y) : Bo T c W X (.Call (.Name x p) as [] pos) y := by
  unfold trCallV at h
  split at h
  · rename_i hv
    rw [Bool.and_eq_true, Bool.and_eq_true, Bool.not_eq_true', Bool.not_eq_true'] at hv
    split at h
    · rename_i i xs hi hL
      split at h
      · cases h
      · rename_i hne
        cases h
        cases as with
        | nil => simp at hne
        | cons a r =>
          have st := trL_star hc ih hL
          rw [List.all_cons, Bool.and_eq_true] at st
          refine bo_of hc (sd_callv hc g.room (slotOf_get hi) (isVis_ok hv.1.1) hv.1.2 hv.2 (n := (a :: r).length) (fun gx j hj => ?_) tk (trL_len hc ih hL) (trL_ok hc ih hL) (star_cons st.1) (star_any st.2)) fun _ => rfl
          obtain ⟨np, hG, hn⟩ := fns_get g.nu hj
          obtain ⟨fa, fd, ps, e0, e1, e2, e3, e4, F⟩ := g.fn _ _ _ hG
          exact ⟨fa, fd, ps, e0, e3, e4, e1.trans hn, F⟩
    · cases h
  · cases h
theorem trI_ok (g : Gk T c G k X) {tg it : Expr} {y : MI} (h : trI X.env.scope f tg it = some y) : PI X tg it (tI T X.K c W y) ∧ notSet it = true := by
  unfold trI at h
  split at h
  · rename_i a ha
    unfold isEnum at ha
    split at ha
    · split at ha
      · rename_i he
        subst he
        split at ha
        · rename_i hz
          cases ha
          rw [Bool.and_eq_true] at hz
          split at h
          · rename_i ht
            obtain ⟨z, h1, rfl⟩ := Option.map_eq_some_iff.mp h
            cases tg <;> first | (cases ht; done) | skip
            exact ⟨sd_enum hc (isGl_ok hz.1) (g.bl _ (by decide +kernel)) (ih _ _ h1).v (star_cons hz.2), rfl⟩
          · cases h
        · cases ha
      · cases ha
    · cases ha
  have rg : ∀ {us : List Expr}, isRange X.env.scope it = some us → ∃ p pos, it = .Call (.Name (Str.ofString "range") p) us [] pos ∧ Gl X (Str.ofString "range") := fun {us} h => by
    unfold isRange at h
    split at h
    · split at h
      · rename_i hr
        subst hr
        split at h
        · cases h
          exact ⟨_, _, rfl, isGl_ok ‹_›⟩
        · cases h
      · cases h
    · cases h
  have mr : X.mg (Str.ofString "range") = none := g.bl _ (by decide +kernel)
  split at h
  · rename_i u hu
    obtain ⟨p, ps, rfl, hg⟩ := rg hu
    split at h
    · rename_i hs
      obtain ⟨z, h1, rfl⟩ := Option.map_eq_some_iff.mp h
      exact ⟨sd_rng1 hc hg mr (ih _ _ h1).v (star_cons hs), rfl⟩
    · cases h
  · rename_i u v hu
    obtain ⟨p, ps, rfl, hg⟩ := rg hu
    split at h
    · split at h
      · rename_i hs
        cases h
        rw [Bool.and_eq_true] at hs
        exact ⟨sd_rng2 hc hg mr (ih _ _ ‹_›).v (ih _ _ ‹_›).v (by rw [star_cons hs.1, star_cons hs.2]; rfl) (star_cons hs.2), rfl⟩
      · cases h
    · cases h
  · cases h
  · split at h
    · obtain ⟨z, h1, rfl⟩ := Option.map_eq_some_iff.mp h
      exact ⟨sd_seq hc (ih _ _ h1).v, ‹_›⟩
    · cases h
theorem trFs_ok {es : List Expr} {y : MXs} (h : trFs f es = some y) : PTs X es (tFs T X.K c W y) := by
  unfold trFs at h
  split at h
  · cases h
    exact sd_ifs0 hc
  · obtain ⟨z, h1, rfl⟩ := Option.map_eq_some_iff.mp h
    exact sd_ifs1 hc (ih _ _ h1).t
  · cases h
end

/-! ### targets -/
theorem tg_star {N : List Str} {fn : Str → Bool} {sc : Scope} {n : Nat} {e : Expr} {t : Tg} (h : trT N fn sc n e = some t) : notStar e = true := by
  cases e <;> first | rfl | (cases n <;> simp [trT] at h)
mutual
theorem trT_ok {K : PySem.W.Frag} {X : Cx} (cm : X.calm = true) (nd : X.N.Nodup) : ∀ (n : Nat) {e : Expr} {t : Tg}, trT X.N X.fn X.env.scope n e = some t → PG X e (gT X.K t)
  | 0, _, _, h => by simp [trT] at h
  | n + 1, e, t, h => by
    unfold trT at h
    split at h
    · rename_i x pos
      split at h
      · rename_i ok
        obtain ⟨i, hi, rfl⟩ := Option.map_eq_some_iff.mp h
        unfold tgOk at ok
        rw [Bool.or_eq_true, Bool.and_eq_true] at ok
        simp only [gT]
        rcases ok with ok | ⟨ok, hf⟩
        · exact pg_name nd (slotOf_get hi) (.inl (isLoc_ok ok)) (.inr (isLoc_ok ok))
        · exact pg_name nd (slotOf_get hi) (.inr (isCell_ok ok)) (.inl hf)
      · cases h
    · rename_i es k pos
      obtain ⟨ts, hts, rfl⟩ := Option.map_eq_some_iff.mp h
      simp only [gT]
      obtain ⟨h1, h2, h3⟩ := trTs_ok (K := K) cm nd n hts
      exact pg_tup cm h1 h2 h3
    · cases h
theorem trTs_ok {K : PySem.W.Frag} {X : Cx} (cm : X.calm = true) (nd : X.N.Nodup) : ∀ (n : Nat) {es : List Expr} {ts : List Tg}, trTs X.N X.fn X.env.scope n es = some ts → PGs X es (gTs X.K ts) ∧ (assignEach es X.env).length = ts.length ∧ (assignEach es X.env).findIdx? (·.1) = none
  | 0, _, _, h => by simp [trTs] at h
  | n + 1, es, ts, h => by
    unfold trTs at h
    split at h
    · cases h
      simp only [gTs]
      exact ⟨pgs_nil, rfl, rfl⟩
    · rename_i e r
      split at h
      · rename_i x y h1 h2
        cases h
        have a := trT_ok (K := K) cm nd n h1
        obtain ⟨b1, b2, b3⟩ := trTs_ok (K := K) cm nd n h2
        have hs := tg_star h1
        have as : assignEach (e :: r) X.env = (false, assign e X.env) :: assignEach r X.env := by
          cases e <;> first | rfl | (simp [notStar] at hs)
        simp only [gTs]
        refine ⟨pgs_cons a b1 (by rw [as]; rfl), by rw [as, List.length_cons, List.length_cons, b2], ?_⟩
        rw [as, List.findIdx?_cons, b3]
        rfl
      · cases h
end

/-- a comprehension's parts -/
structure LcOk (T : Tbl) (c : CallT) (W : WX) (X : Cx) (cs : Scope) (elt tg it : Expr) (ifs : List Expr) (own : List (Str × Nat)) (t : Tg) (i : MI) (fs : MXs) (y : MX) : Prop where
  hi : PI X tg it (tI T X.K c W i)
  ok : BlkOk X.N X.env.scope cs own
  sl : ∀ j ∈ slots t, j ∈ own.map (·.2)
  hg : ∀ (s : Shared) (H : Hp) (C : Addr) (cl : List (Str × Addr)) (fp : List Addr), PG (X.blk s H cs (compEnvC cs cl C X.env) fp) tg (gT X.K t)
  ht : ∀ (s : Shared) (H : Hp) (C : Addr) (cl : List (Str × Addr)) (fp : List Addr), PTs (X.blk s H cs (compEnvC cs cl C X.env) fp) ifs (tFs T X.K c (fun _ _ _ _ => False) fs)
  he : ∀ (s : Shared) (H : Hp) (C : Addr) (cl : List (Str × Addr)) (fp : List Addr), PE (X.blk s H cs (compEnvC cs cl C X.env) fp) elt (tE T X.K c (fun _ _ _ _ => False) y)
  hs : ∀ x, foldedSetIterable it X.env x = pure x
theorem LcOk.pe {T : Tbl} {c : CallT} {W : WX} {X : Cx} {cs : Scope} {elt tg it : Expr} {ifs : List Expr} {own : List (Str × Nat)} {t : Tg} {i : MI} {fs : MXs} {y : MX} {pos : Pos} (hc : CallMono c c) (cm : X.calm = true) (nd : X.N.Nodup) (l : LcOk T c W X cs elt tg it ifs own t i fs y) :
    PE X (.ListComp elt [⟨tg, it, ifs, 0⟩] cs pos) (tE T X.K c W (.comp (own.map (·.2)) t i fs y)) := impE (pe_lc cm nd l.hi l.ok l.hg l.ht l.he l.hs) (lc_imp hc l.sl)

theorem LcOk.peD {T : Tbl} {c : CallT} {W : WX} {X : Cx} {cs : Scope} {elt tg : Expr} {ifs : List Expr} {own : List (Str × Nat)} {t : Tg} {i : MI} {fs : MXs} {y : MX} {pos p : Pos} {x : Str} {j : Nat} (hc : CallMono c c) (cm : X.calm = true) (nd : X.N.Nodup) (hN : X.N[j]? = some x) (hv : Vis X.env.scope x) (hd : (x == ("__debug__" : Str)) = false) (hcd : (x == ("__classdict__" : Str)) = false) (l : LcOk T c W X cs elt tg (.Name x p) ifs own t i fs y) :
    PE X (.ListComp elt [⟨tg, .Name x p, ifs, 0⟩] cs pos) (tE T X.K c W (.compD (own.map (·.2)) t j fs y)) := impE (pe_lock (pe_lc cm nd (pi_keys (pe_var hN hv hd hcd)) l.ok l.hg l.ht l.he l.hs)) (compD_imp hc l.sl)
theorem pe_orX {T : Tbl} {c : CallT} {W : WX} {X : Cx} {e : Expr} {a b : MX} (ha : PE X e (tE T X.K c W a)) (hb : PE X e (tE T X.K c W b)) : PE X e (tE T X.K c W (.orX a b)) := ⟨fun pins s ς H Q I q => by
  obtain ⟨ρ, σ, S, E, st, h⟩ := q
  unfold wpE at h
  rcases h with h | h
  · exact ha.run pins s ς H Q I ⟨ρ, σ, S, E, st, h⟩
  · exact hb.run pins s ς H Q I ⟨ρ, σ, S, E, st, h⟩⟩
/-! ### all expressions -/
section
variable {T : Tbl} {c : CallT} {G : GT} {k : Nat} (hc : CallMono c c)
include hc
theorem trComp_inv {n : Nat} (ih : ∀ {X : Cx} {W : WX} (g : Gk T c G k X) (tk : Takes X W) (e : Expr) (x : MX), trE X.N G n X.env.scope e = some x → Bo T c W X e x) {X : Cx} {W : WX} (g : Gk T c G k X) (tk : Takes X W) {cs : Scope} {elt tg it : Expr} {ifs : List Expr} {x : MX}
    (h : trComp X.N n X.env.scope cs (trE X.N G n X.env.scope) (trE X.N G n (relS cs X.env.scope)) elt tg it ifs = some x) : ∃ own t i fs y, x = .comp (own.map (·.2)) t i fs y ∧ LcOk T c W X cs elt tg it ifs own t i fs y := by
  unfold trComp at h
  split at h
  · rename_i t i fs y h1 h2 h3 h4
    split at h
    · rename_i ok
      cases h
      rw [Bool.and_eq_true, List.all_eq_true] at ok
      obtain ⟨hI, hns⟩ := trI_ok hc (fun e x h => ih g tk e x h) g (tg := tg) h2
      have ihb : ∀ (s : Shared) (H : Hp) (C : Addr) (cl : List (Str × Addr)) (fp : List Addr) (e : Expr) (x : MX), trE X.N G n (relS cs X.env.scope) e = some x → Bo T c (fun _ _ _ _ => False) (X.blk s H cs (compEnvC cs cl C X.env) fp) e x :=
        fun s H C cl fp e x hx => ih (g.blk s H cs (compEnvC cs cl C X.env) fp) takes0 e x hx
      refine ⟨_, t, i, fs, y, rfl, hI, blkOk_by ok.1, fun j hj => ?_, fun s H C cl fp => ?_, fun s H C cl fp => ?_, fun s H C cl fp => ?_, fold_ok hns⟩
      · have := ok.2 j hj
        simpa using this
      · exact trT_ok (K := X.K) (X := X.blk s H cs (compEnvC cs cl C X.env) fp) g.cm g.nd n h1
      · exact trFs_ok hc (fun e x hx => ihb s H C cl fp e x hx) h3
      · exact (ihb s H C cl fp elt y h4).v
    · cases h
  · cases h
theorem trE_ok : ∀ (n : Nat) {X : Cx} {W : WX} (g : Gk T c G k X) (tk : Takes X W) (e : Expr) (x : MX), trE X.N G n X.env.scope e = some x → Bo T c W X e x
  | 0, X, W, g, tk, e, x, h => by simp [trE] at h
  | n + 1, X, W, g, tk, e, x, h => by
    have ih : ∀ e x, trE X.N G n X.env.scope e = some x → Bo T c W X e x := fun e x h => trE_ok n g tk e x h
    unfold trE at h
    split at h
    · rename_i cc j pos
      cases cc <;> simp only [trC, Option.some.injEq, reduceCtorEq] at h
      · subst h; exact bo_of hc sd_non fun _ => rfl
      · subst h; exact bo_of hc sd_bl fun _ => rfl
      · subst h; exact bo_of hc sd_int fun _ => rfl
      · subst h; exact bo_of hc sd_str fun _ => rfl
    · rename_i y pos
      unfold trV at h
      split at h
      · rename_i hv
        obtain ⟨i, hi, rfl⟩ := Option.map_eq_some_iff.mp h
        rw [Bool.and_eq_true, Bool.and_eq_true, Bool.not_eq_true', Bool.not_eq_true'] at hv
        exact bo_of hc (sd_var (slotOf_get hi) (isVis_ok hv.1.1) hv.1.2 hv.2) fun _ => rfl
      · split at h
        · rename_i hz
          cases h
          rw [Bool.and_eq_true, Bool.and_eq_true, Bool.not_eq_true'] at hz
          obtain ⟨⟨i, np⟩, hG⟩ := Option.isSome_iff_exists.mp hz.2
          obtain ⟨fa, fd, ps, e0, e1, e2, e3, e4, F⟩ := g.fn _ _ _ hG
          exact bo_of hc (sd_fnv (isGl_ok hz.1.1) e2 e0 hz.1.2) fun _ => rfl
        · cases h
    · obtain ⟨xs, h1, rfl⟩ := Option.map_eq_some_iff.mp h
      exact bo_of hc (sd_tup hc (trL_ok hc ih h1)) fun _ => rfl
    · obtain ⟨xs, h1, rfl⟩ := Option.map_eq_some_iff.mp h
      exact bo_of hc (sd_lst hc (trL_ok hc ih h1)) fun _ => rfl
    · cases h
      exact bo_of hc (sd_dnew hc) fun _ => rfl
    · exact trOp_ok hc ih h
    · obtain ⟨y, h1, rfl⟩ := Option.map_eq_some_iff.mp h
      exact bo_of hc (sd_neg hc (ih _ _ h1).v) fun _ => rfl
    · obtain ⟨y, h1, rfl⟩ := Option.map_eq_some_iff.mp h
      exact ⟨sd_not hc (ih _ _ h1).v, sd_notT hc (ih _ _ h1).t⟩
    · obtain ⟨a, b⟩ := trB_ok hc ih h
      exact ⟨a, b.pt⟩
    · exact trCmp1_ok hc ih g h
    · exact trCmp2_ok hc ih g h
    · exact trIf_ok hc ih h
    · split at h
      · exact trSl_ok hc ih h
      · exact trIx_ok hc ih g h
    · split at h
      · split at h
        · cases h
          exact trCallV_ok hc ih g tk ‹_›
        · exact trCall_ok hc ih g tk h
      · exact trAt_ok hc ih g h
      · cases h
    · rename_i elt tg it ifs cs pos
      unfold orD at h
      split at h
      · rename_i x p vs t i fs y hr
        obtain ⟨own, t', i', fs', y', e, l⟩ := trComp_inv hc (fun {X W} g tk => trE_ok n g tk) g tk hr
        cases e
        split at h
        · rename_i hv
          split at h
          · rename_i j hj
            cases h
            rw [Bool.and_eq_true, Bool.and_eq_true, Bool.not_eq_true', Bool.not_eq_true'] at hv
            exact bo_of hc (pe_orX (l.pe hc g.cm g.nd) (l.peD hc g.cm g.nd (slotOf_get hj) (isVis_ok hv.1.1) hv.1.2 hv.2)) fun _ => rfl
          · cases h
            exact bo_of hc (l.pe hc g.cm g.nd) fun _ => rfl
        · cases h
          exact bo_of hc (l.pe hc g.cm g.nd) fun _ => rfl
      · obtain ⟨own, t, i, fs, y, rfl, l⟩ := trComp_inv hc (fun {X W} g tk => trE_ok n g tk) g tk h
        exact bo_of hc (l.pe hc g.cm g.nd) fun _ => rfl
    · cases h
end
end MP
/-! MPProg: statements, defs, a whole text, a law. -/
namespace MP
open PySem PySem.Spec PyProof.Rows L2

/-! ### what the model asks of assignments -/
def isFun (sc : Scope) : Bool := match sc.kind with
  | .function => true
  | _ => false
theorem isFun_ok {sc : Scope} (h : isFun sc = true) : sc.kind = .function := by
  unfold isFun at h
  split at h
  · assumption
  · cases h
def ownIn (cs : Scope) (y : Str) : Bool := cs.names.any fun (n, k) => n == y && (k == .local || k == .cell)
def notName : Expr → Bool
  | .Name _ _ => false
  | _ => true
def notTup : Expr → Bool
  | .Tuple _ _ _ => false
  | _ => true
theorem sw_plain {e : Expr} {t : Option Expr} {l : Nat} {env : PySem.Env} (h : notComp e = true) : swapsWith e t l env = pure false := by
  cases e <;> first | rfl | (simp [notComp] at h)
theorem sw_other {e t : Expr} {l : Nat} {env : PySem.Env} (h : notName t = true) : swapsWithSole [t] e l env = pure false := by
  cases t <;> first | (simp [notName] at h; done) | (cases e <;> rfl)
theorem sw_cell {elt : Expr} {gs : List Comprehension} {cs : Scope} {p py : Pos} {y : Str} {l : Nat} {env : PySem.Env} (h : isLoc env.scope y = false) : swapsWithSole [.Name y py] (.ListComp elt gs cs p) l env = pure false := by
  have e : (env.kindOf y == some .local) = false := by
    unfold isLoc at h
    show (env.scope.names.lookup y == some .local) = false
    split at h
    · cases h
    · rename_i q
      cases z : env.scope.names.lookup y with
      | none => rfl
      | some k =>
        rw [z] at q
        cases k <;> first | rfl | exact absurd rfl q
  show (pure (env.blockKind == .function && env.kindOf y == some .local && py.line == p.line && !(cs.names.any fun (n, k) => n == y && (k == .local || k == .cell))) : Sem Bool) = pure false
  rw [e]
  simp
def notLst : Expr → Bool
  | .List _ _ => false
  | _ => true
theorem star_m {a : Expr} (h : notStar a = true) : (match a with | .Starred _ _ => true | _ => false) = false := by
  cases a <;> first | rfl | (simp [notStar] at h)
theorem st_none1 {e t : Expr} {env : PySem.Env} (h : notTup t = true) (h2 : notLst t = true) : swappedStores [t] e env = pure none := by
  cases t <;> first | rfl | (simp [notTup] at h; done) | (simp [notLst] at h2; done)
theorem st_none2 {e t : Expr} {env : PySem.Env} (h : notTup e = true) : swappedStores [t] e env = pure none := by
  cases e <;> first | (simp [notTup] at h; done) | (cases t <;> rfl)
theorem as_one {t : Expr} {env : PySem.Env} (h : notStar t = true) : (assignEach [t] env).map (·.2) = [assign t env] := by
  cases t <;> first | rfl | (simp [notStar] at h)
def notSl (e : Expr) : Bool := notSlice e
theorem asg_sub {o i : Expr} {tpos : Pos} {env : PySem.Env} (h : notSlice i = true) : ∀ v, assign (.Subscript o i tpos) env v = (do
      let ov ← holding [v] (eval o env)
      let iv ← holding [v, ov] (eval i env)
      standAt tpos
      holding [v, ov, iv] (setItem ov iv v)
      release [v, ov, iv] []) := by
  intro v
  cases i <;> first | rfl | (simp [notSlice] at h)

/-! ### statements -/
def trAsg (N : List Str) (fn : Str → Bool) (sc : Scope) (m : Nat) (f : Expr → Option MX) (t e : Expr) : Option MS :=
  match t with
  | .Subscript o i _ => match f o, f i, f e with
    | some x, some y, some z => if notSlice i = true then some (.asg (.ix x y) z) else none
    | _, _, _ => none
  | t => match trT N fn sc m t, f e with
    | some x, some z => if ((notTup t || notTup e) && (notName t || notComp e)) = true then some (.asg (.tg x) z) else none
    | _, _ => none
/-- y = [..], y a local on the same line; or y a name that is captured -/
def trSetLc (N : List Str) (sc : Scope) (f : Expr → Option MX) (y : Str) (py : Pos) (e : Expr) : Option MS :=
  match e with
  | .ListComp _ [⟨_, _, _, 0⟩] cs p => match slotOf N y, unOr (f e) with
    | some i, some z => if (isLoc sc y && py.line == p.line && !(ownIn cs y) && isFun sc) = true then some (.asg (.tg (.nm i)) z) else none
    | _, _ => none
  | _ => none
def trCellLc (N : List Str) (fn : Str → Bool) (sc : Scope) (f : Expr → Option MX) (y : Str) (e : Expr) : Option MS :=
  match e with
  | .ListComp _ _ _ _ => match slotOf N y, f e with
    | some i, some z => if (!(isLoc sc y) && isCell sc y && fn y) = true then some (.asg (.tg (.nm i)) z) else none
    | _, _ => none
  | _ => none
def trPar (N : List Str) (sc : Scope) (f : Expr → Option MX) (t e : Expr) : Option MS :=
  match t, e with
  | .Tuple [.Name x px, .Name y py] _ _, .Tuple [a, b] _ _ => match slotOf N x, slotOf N y, f a, f b with
    | some i, some j, some u, some v => if (isLoc sc x && isLoc sc y && isFun sc && py.line == px.line && !(x == y) && notStar a && notStar b && !(foldedForSure 8 a && foldedForSure 8 b) && !(constantsAlone 8 a && constantsAlone 8 b) && !(i == j)) = true then some (.asg (.tg (.tp [.nm i, .nm j])) (.tup (.cons u (.cons v .nil)))) else none
    | _, _, _, _ => none
  | _, _ => none
def orE {α : Type} : Option α → Option α → Option α
  | some x, _ => some x
  | none, y => y
def trSet (N : List Str) (fn : Str → Bool) (sc : Scope) (m : Nat) (f : Expr → Option MX) (t e : Expr) : Option MS :=
  match t with
  | .Name y py => orE (trSetLc N sc f y py e) (orE (trCellLc N fn sc f y e) (trAsg N fn sc m f (.Name y py) e))
  | t => orE (trPar N sc f t e) (trAsg N fn sc m f t e)
mutual
def trS (N : List Str) (fn : Str → Bool) (sc : Scope) (m : Nat) (f : Expr → Option MX) : Nat → Stmt → Option MS
  | 0, _ => none
  | n + 1, s => match s with
    | .Assign ts e _ => match ts with
      | [t] => trSet N fn sc m f t e
      | _ => none
    | .Expr e _ => match f e with
      | some x => if notComp e = true then some (.ex x) else none
      | none => none
    | .If t a b _ => match f t, trSs N fn sc m f n a, trSs N fn sc m f n b with
      | some x, some y, some z => some (.iff x y z)
      | _, _, _ => none
    | .While t a b _ => match b with
      | [] => match f t, trSs N fn sc m f n a with
        | some x, some y => some (.whl x y)
        | _, _ => none
      | _ => none
    | .For t it a b _ => match b with
      | [] => match trT N fn sc m t, trI sc f t it, trSs N fn sc m f n a with
        | some x, some y, some z => some (.for_ x y z)
        | _, _, _ => none
      | _ => none
    | .Return o _ => match o with
      | some e => (f e).map .ret
      | none => some .ret0
    | .Break _ => some .brk
    | .Continue _ => some .cnt
    | .Pass _ => some .pas
    | _ => none
def trSs (N : List Str) (fn : Str → Bool) (sc : Scope) (m : Nat) (f : Expr → Option MX) : Nat → List Stmt → Option MSs
  | 0, _ => none
  | n + 1, ss => match ss with
    | [] => some .nil
    | s :: r => match trS N fn sc m f n s, trSs N fn sc m f n r with
      | some x, some y => some (.cons x y)
      | _, _ => none
end
section
variable {T : Tbl} {c : CallT} {G : GT} {k : Nat} (hc : CallMono c c) {X : Cx} {W : WX} {m : Nat} {pos : Pos}
include hc
theorem setLc_ok (g : Gk T c G k X) (tk : Takes X W) {y : Str} {py : Pos} {e : Expr} {x : MS} (h : trSetLc X.N X.env.scope (trE X.N G m X.env.scope) y py e = some x) : PS X (.Assign [.Name y py] e pos) (tS T X.K W c x) := by
  unfold trSetLc at h
  split at h
  · rename_i elt tg it ifs cs p
    split at h
    · rename_i i z h1 h2
      split at h
      · rename_i hz
        cases h
        simp only [Bool.and_eq_true, Bool.not_eq_true'] at hz
        obtain ⟨⟨⟨z1, z2⟩, z3⟩, z4⟩ := hz
        cases m with
        | zero => simp [trE, unOr] at h2
        | succ m =>
          simp only [trE] at h2
          have h3 : ∃ r, trComp X.N m X.env.scope cs (trE X.N G m X.env.scope) (trE X.N G m (relS cs X.env.scope)) elt tg it ifs = some r ∧ z = r := by
            cases hr : trComp X.N m X.env.scope cs (trE X.N G m X.env.scope) (trE X.N G m (relS cs X.env.scope)) elt tg it ifs with
            | none =>
              rw [hr] at h2
              unfold orD at h2
              split at h2
              · rename_i e; cases e
              · cases h2
            | some r =>
              refine ⟨r, rfl, ?_⟩
              obtain ⟨own, t, it', fs, y', rfl, _⟩ := trComp_inv hc (fun {X W} g tk => trE_ok hc m g tk) g tk hr
              rw [hr] at h2
              unfold orD at h2
              split at h2
              · rename_i q _
                injection q with q
                rw [q]
                split at h2
                · split at h2
                  · exact (Option.some.inj h2).symm
                  · exact (Option.some.inj h2).symm
                · exact (Option.some.inj h2).symm
              · exact (Option.some.inj h2).symm
          obtain ⟨r, h4, rfl⟩ := h3
          obtain ⟨own, t, it', fs, y', rfl, l⟩ := trComp_inv hc (fun {X W} g tk => trE_ok hc m g tk) g tk h4
          refine impS (ps_setLc g.cm g.nd (slotOf_get h1) (isLoc_ok z1) (sw_true (isFun_ok z4) (isLoc_ok z1) z2 z3) l.hi l.ok l.hg l.ht l.he l.hs) fun D' ς H ⟨ρ, σ, S, D, s, h⟩ => ?_
          simp only [wpS] at h
          refine lc_imp hc l.sl ς H _ (tE_of hc s.st h fun x S1 ρ1 H1 v h1 e1 w1 r1 => ?_)
          simp only [wpLt, asg] at h1
          exact s.en.nx _ _ h1 _ _ _ e1 w1 ((s.er.ext e1).set r1)
      · cases h
    · cases h
  · cases h
theorem cellLc_ok (g : Gk T c G k X) (tk : Takes X W) {y : Str} {py : Pos} {e : Expr} {x : MS} (h : trCellLc X.N X.fn X.env.scope (trE X.N G m X.env.scope) y e = some x) : PS X (.Assign [.Name y py] e pos) (tS T X.K W c x) := by
  unfold trCellLc at h
  split at h
  · split at h
    · rename_i i z h1 h2
      split at h
      · rename_i hz
        cases h
        simp only [Bool.and_eq_true, Bool.not_eq_true'] at hz
        obtain ⟨⟨z1, z2⟩, z3⟩ := hz
        exact sd_asg hc (trE_ok hc m g tk _ _ h2).v (by simp only [gT]; exact pg_name g.nd (slotOf_get h1) (.inr (isCell_ok z2)) (.inl z3)) (sw_cell z1) (st_none1 rfl rfl) (as_one rfl)
      · cases h
    · cases h
  · cases h
theorem asg_all (g : Gk T c G k X) (tk : Takes X W) {t e : Expr} {x : MS} (h : trAsg X.N X.fn X.env.scope m (trE X.N G m X.env.scope) t e = some x) : PS X (.Assign [t] e pos) (tS T X.K W c x) := by
  unfold trAsg at h
  split at h
  · split at h
    · rename_i y z w h1 h2 h3
      split at h
      · cases h
        exact sd_setIx hc g.hu (trE_ok hc m g tk _ _ h3).v (trE_ok hc m g tk _ _ h1).v (trE_ok hc m g tk _ _ h2).v (asg_sub ‹_›) (sw_other rfl)
      · cases h
    · cases h
  · split at h
    · rename_i y z h1 h2
      split at h
      · rename_i hz
        cases h
        simp only [Bool.and_eq_true, Bool.or_eq_true] at hz
        have hst := tg_star h1
        have hnl : notLst t = true := by
          cases t <;> first | rfl | (cases m <;> simp [trT] at h1)
        refine sd_asg hc (trE_ok hc m g tk _ _ h2).v (trT_ok (K := X.K) g.cm g.nd m h1) ?_ ?_ (as_one hst)
        · rcases hz.2 with q | q
          · exact sw_other q
          · show swapsWith e (some t) pos.line X.env = pure false
            exact sw_plain q
        · rcases hz.1 with q | q
          · exact st_none1 q hnl
          · exact st_none2 q
      · cases h
    · cases h
theorem par_ok (g : Gk T c G k X) (tk : Takes X W) {t e : Expr} {x : MS} (h : trPar X.N X.env.scope (trE X.N G m X.env.scope) t e = some x) : PS X (.Assign [t] e pos) (tS T X.K W c x) := by
  unfold trPar at h
  split at h
  · rename_i x px y py kt pt a b k2 pt2
    split at h
    · rename_i i j u v h1 h2 h3 h4
      split at h
      · rename_i hz
        cases h
        simp only [Bool.and_eq_true, Bool.not_eq_true', beq_iff_eq, bne_iff_ne, ne_eq] at hz
        obtain ⟨⟨⟨⟨⟨⟨⟨⟨⟨z1, z2⟩, z3⟩, z4⟩, z5⟩, z6⟩, z7⟩, z8⟩, z9⟩, z10⟩ := hz
        have lx := isLoc_ok z1
        have ly := isLoc_ok z2
        have ij : i ≠ j := fun q => by subst q; simp at z10
        refine sd_par hc g.cm g.nd (slotOf_get h1) (slotOf_get h2) ij lx ly (trE_ok hc m g tk a u h3).v (trE_ok hc m g tk b v h4).v (star_cons z6) (star_cons z7) ?_
        have kx : X.env.kindOf x = some .local := lx
        have ky : X.env.kindOf y = some .local := ly
        have bk : X.env.blockKind = .function := by unfold Env.blockKind; rw [isFun_ok z3]; rfl
        have xy : (x == y) = false := z5
        have f8 : (foldedForSure 8 a && foldedForSure 8 b) = false := z8
        have c8 : (constantsAlone 8 a && constantsAlone 8 b) = false := z9
        have yx : (y == x) = false := by
          cases q : y == x with
          | false => rfl
          | true =>
            have := beq_iff_eq.mp q
            subst this
            simp at xy
        unfold swappedStores
        simp [kx, ky, bk, z4, f8, c8, Expr.pos, List.eraseDups_cons, xy, yx]
        intro hh
        exfalso
        rcases hh with hh | hh
        · clear h3 h4 f8 c8 z8 z9
          cases a <;> first | (cases hh; done) | (simp [notStar] at z6; done)
        · clear h3 h4 f8 c8 z8 z9
          cases b <;> first | (cases hh; done) | (simp [notStar] at z7; done)
      · cases h
    · cases h
  · cases h
theorem set_ok (g : Gk T c G k X) (tk : Takes X W) {t e : Expr} {x : MS} (h : trSet X.N X.fn X.env.scope m (trE X.N G m X.env.scope) t e = some x) : PS X (.Assign [t] e pos) (tS T X.K W c x) := by
  have o2 : ∀ {a b : Option MS}, orE a b = some x → a = some x ∨ b = some x := fun {a b} h => by
    cases a with
    | none => exact .inr h
    | some y => exact .inl h
  unfold trSet at h
  split at h
  · rcases o2 h with h | h
    · exact setLc_ok hc g tk h
    · rcases o2 h with h | h
      · exact cellLc_ok hc g tk h
      · exact asg_all hc g tk h
  · rcases o2 h with h | h
    · exact par_ok hc g tk h
    · exact asg_all hc g tk h
end
mutual
theorem trS_ok {T : Tbl} {c : CallT} {G : GT} {k : Nat} (hc : CallMono c c) {X : Cx} {W : WX} {m : Nat} (g : Gk T c G k X) (tk : Takes X W) (hp : PassesOwn (model X.prog X.w) X.A X.env X.xe) : ∀ (n : Nat) {s : Stmt} {x : MS}, trS X.N X.fn X.env.scope m (trE X.N G m X.env.scope) n s = some x → PS X s (tS T X.K W c x)
  | 0, _, _, h => by simp [trS] at h
  | n + 1, s, x, h => by
    have ih : ∀ e x, trE X.N G m X.env.scope e = some x → Bo T c W X e x := fun e x h => trE_ok hc m g tk e x h
    unfold trS at h
    split at h
    · split at h
      · exact set_ok hc g tk h
      · cases h
    · split at h
      · split at h
        · cases h
          exact sd_ex hc (ih _ _ ‹_›).v (sw_plain ‹_›)
        · cases h
      · cases h
    · split at h
      · rename_i x y z h1 h2 h3
        cases h
        exact sd_if hc (ih _ _ h1).t (trSs_ok hc g tk hp n h2) (trSs_ok hc g tk hp n h3)
      · cases h
    · split at h
      · split at h
        · rename_i x y h1 h2
          cases h
          exact sd_whl hc hp (ih _ _ h1).t (trSs_ok hc g tk hp n h2)
        · cases h
      · cases h
    · split at h
      · split at h
        · rename_i x y z h1 h2 h3
          cases h
          obtain ⟨hI, hns⟩ := trI_ok hc ih g h2
          exact sd_for hc hp g.cm hI (trT_ok (K := X.K) g.cm g.nd m h1) (trSs_ok hc g tk hp n h3) (fold_ok hns)
        · cases h
      · cases h
    · split at h
      · obtain ⟨y, h1, rfl⟩ := Option.map_eq_some_iff.mp h
        exact sd_ret hc (ih _ _ h1).v
      · cases h
        exact sd_ret0 hc
    · cases h
      exact sd_brk hc
    · cases h
      exact sd_cnt hc
    · cases h
      exact sd_pas hc
    · cases h
theorem trSs_ok {T : Tbl} {c : CallT} {G : GT} {k : Nat} (hc : CallMono c c) {X : Cx} {W : WX} {m : Nat} (g : Gk T c G k X) (tk : Takes X W) (hp : PassesOwn (model X.prog X.w) X.A X.env X.xe) : ∀ (n : Nat) {s : List Stmt} {x : MSs}, trSs X.N X.fn X.env.scope m (trE X.N G m X.env.scope) n s = some x → PSs X s (tSs T X.K W c x)
  | 0, _, _, h => by simp [trSs] at h
  | n + 1, s, x, h => by
    unfold trSs at h
    split at h
    · cases h
      exact sd_ps0 hc
    · split at h
      · rename_i x y h1 h2
        cases h
        exact sd_pss hc (trS_ok hc g tk hp n h1) (trSs_ok hc g tk hp n h2)
      · cases h
end

/-! ### a def -/
def paramsOf (s : Stmt) : List Str := (defArgs s).args.map (·.arg)
/-- the names of a def: parameters, then the other local names, then N's more (a comprehension's) -/
structure DefT where
  N : List Str
  ps : List Str
  fn : Fn
def fnScC (N ps : List Str) (sc : Scope) : Bool :=
  isFun sc && !sc.isCoroutine && !sc.isGenerator && decide N.Nodup && decide (N.take ps.length = ps) && (ps.all fun x => isLoc sc x || isCell sc x) && (sc.names.all fun y => match y.2 with
    | .free => false
    | _ => true)
theorem fnSc_ok {N ps : List Str} {sc : Scope} (h : fnScC N ps sc = true) : FnScope N ps sc := by
  unfold fnScC at h
  simp only [Bool.and_eq_true, Bool.not_eq_true', decide_eq_true_eq, List.all_eq_true] at h
  obtain ⟨⟨⟨⟨⟨⟨h1, h2⟩, h3⟩, h4⟩, h5⟩, h6⟩, h7⟩ := h
  refine ⟨isFun_ok h1, h2, h3, h4, h5, fun x hx => ?_, fun y hy e => ?_⟩
  · have := h6 x hx
    rw [Bool.or_eq_true] at this
    rcases this with q | q
    · exact .inl (isLoc_ok q)
    · exact .inr (isCell_ok q)
  · have := h7 y hy
    rw [e] at this
    cases this
/-- the text of a def and its small tree fit -/
def fits (G : GT) (st : Stmt) (d : DefT) : Prop :=
  fnScC d.N d.ps (defScope st) = true ∧ d.fn.n = d.N.length ∧ d.fn.ps = d.ps.length ∧ trSs d.N (fun _ => true) (defScope st) 40 (trE d.N G 40 (defScope st)) 80 (defBody st) = some d.fn.body

/-! ### a whole text -/
structure DefE where
  x : Str
  st : Stmt
  d : DefT
/-- what the top has left of a def -/
structure Has (K : PySem.W.Frag) (mg : Str → Option Value) (e : DefE) (fa : Addr) (fd : FuncData) : Prop where
  f : Fun K e.x e.x e.st fa fd
  g : mg e.x = some (.ref fa)
  ns : PySem.W.nsIn K mainGlobals e.x = some (some (.ref fa))
  b : Binds K fd e.d.ps []
def tabOf (es : List DefE) : GT := es.zipIdx.map fun (e, i) => (e.x, i, e.d.ps.length)
def progOf (es : List DefE) : MP.Prog := es.map (·.d.fn)
theorem tab_get {es : List DefE} {g : Str} {i np : Nat} (h : (tabOf es).lookup g = some (i, np)) : ∃ e, es[i]? = some e ∧ e.x = g ∧ e.d.ps.length = np := by
  unfold tabOf at h
  have : (g, i, np) ∈ es.zipIdx.map fun (e, i) => (e.x, i, e.d.ps.length) := by
    have go : ∀ (l : List (Str × Nat × Nat)), l.lookup g = some (i, np) → (g, i, np) ∈ l := by
      intro l
      induction l with
      | nil => intro h; cases h
      | cons p r ih =>
        intro h
        rw [List.lookup_cons] at h
        split at h
        · rename_i e
          have h' : p.2 = (i, np) := Option.some.inj h
          have hp : p = (g, i, np) := by rw [beq_iff_eq.mp e, ← h']
          rw [hp]
          exact List.mem_cons_self
        · exact List.mem_cons_of_mem _ (ih h)
    exact go _ h
  obtain ⟨⟨e, j⟩, hm, he⟩ := List.mem_map.mp this
  cases he
  have := List.mem_zipIdx_iff_getElem?.mp hm
  exact ⟨e, this, rfl, rfl⟩
theorem start_ER {K : PySem.W.Frag} {ρ : Nat → Addr} {n : Nat} {H : Hp} {N : List Str} {args : List D} {vs : List V} (r : RDs K ρ n H args vs) : ER K ρ n H (startE N.length args) (start N vs) := by
  unfold startE L2.start
  refine ⟨by simp [r.length], fun i d h => ?_⟩
  by_cases hi : i < args.length
  · rw [List.getElem?_append_left (by simpa using hi), List.getElem?_map] at h
    obtain ⟨x, hx, e⟩ := Option.map_eq_some_iff.mp h
    cases e
    obtain ⟨v, hv, rv⟩ := r.get hx
    exact ⟨v, by rw [List.getElem?_append_left (by rw [List.length_map, ← r.length]; exact hi), List.getElem?_map, hv]; rfl, rv⟩
  · rw [List.getElem?_append_right (by simpa using Nat.le_of_not_lt hi)] at h
    have := List.mem_of_getElem? h
    have := List.eq_of_mem_replicate this
    cases this
section
variable {P : Program} {w : World} {K : PySem.W.Frag} {mg : Str → Option Value} {base : Heap} {T : Tbl} {es : List DefE}
theorem prog_ok (hs : ∀ e ∈ es, ∃ fa fd, Has K mg e fa fd) (hf : ∀ e ∈ es, fits (tabOf es) e.st e.d) (hb : ∀ x ∈ bltNames, mg x = none) (hnu : ((tabOf es).map (·.1)).Nodup) :
    ∀ (k : Nat) (i : Nat) (e : DefE) (fa : Addr) (fd : FuncData), es[i]? = some e → Has K mg e fa fd → FnOk P w K mg base (L2.CX P w) k fa fd e.d.ps (spM T K (callM (progOf es) k) i e.d.ps.length)
  | 0, i, e, fa, fd, _, _ => ⟨fun vs H Q E h => by
      obtain ⟨ρ, S, args, E0, _, _, _, _, z⟩ := h
      exact z.elim, fun A outer s H args us vs Q E _ _ _ _ h => by
      obtain ⟨ρ, S, args, E0, _, _, _, _, z⟩ := h
      exact z.elim⟩
  | k + 1, i, e, fa, fd, hi, h => by
    obtain ⟨f1, f2, f3, f4⟩ := hf e (List.mem_of_getElem? hi)
    have S := fnSc_ok f1
    refine h.f.okX S (fun vs H Q E q => ?_) (fun cdv A outer s H vs Q E hr q => ?_)
    · obtain ⟨ρ, S0, args, E0, _, r, hl, _⟩ := q
      rw [← r.length]
      exact hl
    · obtain ⟨ρ, S0, args, E0, wd, r, hl, hx, q⟩ := q
      have g : Gk T (callM (progOf es) k) (tabOf es) k (cxOf (L2.CX P w) P w K mg base e.d.N e.x (defScope e.st) fa cdv A outer s H E) := by
        refine ⟨rfl, hr, S.nd, fun gx j np hG => ?_, hb, hnu⟩
        obtain ⟨e', he, ex, en⟩ := tab_get hG
        obtain ⟨fa', fd', H'⟩ := hs e' (List.mem_of_getElem? he)
        exact ⟨fa', fd', e'.d.ps, by rw [← ex]; exact H'.ns, en, by rw [← ex]; exact H'.g, H'.f.kp, H'.b, prog_ok hs hf hb hnu k j e' fa' fd' he H'⟩
      have tk : Takes (cxOf (L2.CX P w) P w K mg base e.d.N e.x (defScope e.st) fa cdv A outer s H E) (fun cl d _ H' => E cl d H') := takes_of rfl rfl rfl rfl
      refine ⟨_, trSs_ok (callM_mono (progOf es) k) g tk (passes_of rfl) 80 f4, ?_⟩
      have hp : (progOf es)[i]? = some e.d.fn := by
        unfold progOf
        rw [List.getElem?_map, hi]
        rfl
      simp only [callM, hp] at q
      have q2 := q.2
      rw [f2] at q2
      exact ⟨ρ, _, S0, ⟨_, _, fun _ _ => False, fun _ _ => False, fun x _ S' => E0 x S'⟩, ⟨wd, start_ER r, ⟨fun σ' S' (z : Pst T K ρ S0.length H Q .non S') ρ' ς' H' ex w' _ => z ρ' H' .non ex w' .non, fun d S' z => z, fun _ _ z => z.elim, fun _ _ z => z.elim, fun x σ' S' z ρ' ς' H' cl d ex w' _ rx => hx x S' z ρ' H' cl d ex w' rx⟩⟩, q2⟩
end

/-! ### the end -/
def noT : Tbl := fun _ => none
/-- what is left to show of a law: plain -/
def LawOk (es : List DefE) (k i : Nat) : Prop := ∀ ns : List Int, ns.length ≤ 63 → callM (progOf es) k i [.klst (ns.map .int)] [] (fun v _ => v = .bl true) fun _ _ => False
theorem rds_ints {K : PySem.W.Frag} {ρ : Nat → Addr} {n : Nat} {H : Hp} : ∀ ns : List Int, RDs K ρ n H (ns.map D.int) (ns.map V.int)
  | [] => .nil
  | x :: r => .cons (.int x) (rds_ints r)
def spLaw (es : List DefE) (k i : Nat) (K : PySem.W.Frag) : Sp := spM noT K (callM (progOf es) k) i 1
theorem law_sp {es : List DefE} {k i : Nat} (h : LawOk es k i) {K : PySem.W.Frag} {H : Hp} {a : Addr} {ns : List Int} (hl : ns.length ≤ 63) (ho : Only H) (hS : SqL K H a (ns.map V.int)) : spLaw es k i K [.ref a] H (fun v _ => v = .bl true) fun _ _ _ => False := by
  have hF : SqF K H a (ns.map V.int) := by
    rcases hS with (q | q) | q
    · rcases ho a with z | ⟨o, xs, z⟩
      · rw [q] at z; cases z
      · rw [q] at z; cases z
    · exact .inl q
    · exact .inr q
  refine ⟨fun _ => 0, [], [.klst (ns.map .int)], fun _ _ => False, ⟨fun a o h => by simp at h, fun a b h => by simp at h⟩, .cons (.klst hF (rds_ints ns)) .nil, rfl, fun _ _ z => z.elim, ?_⟩
  refine callM_mono (progOf es) k _ _ _ _ _ _ _ (h ns hl) (fun v S hv ρ' H' u _ _ r => ?_) fun _ _ z => z
  subst hv
  cases r
  rfl
end MP
/-! MPTac: rules to step through small trees, one a construct. -/
namespace MP
open PySem PySem.Spec PyProof.Rows L2

/-! ### the store -/
section
variable {S : Sto} {a b : Nat} {o o' : O} {l : List O}
theorem g_set (h : S[a]? = some o') : (S.set a o)[a]? = some o := List.getElem?_set_self (List.getElem?_eq_some_iff.mp h).1
theorem g_setn (n : a ≠ b) (h : S[b]? = some o) : (S.set a o')[b]? = some o := by rw [List.getElem?_set_ne n]; exact h
theorem g_app (h : S[a]? = some o) : (S ++ l)[a]? = some o := by rw [List.getElem?_append_left (List.getElem?_eq_some_iff.mp h).1]; exact h
theorem g_last : (S ++ [o])[S.length]? = some o := by simp
theorem g_lt (h : S[a]? = some o) : a < S.length := (List.getElem?_eq_some_iff.mp h).1
theorem l_of {xs : List D} (h : S[a]? = some (.lst xs)) : lstOf S a = some xs := by unfold lstOf; rw [h]
theorem gd_nil : Gd [] S := fun _ h => by cases h
theorem gd_one {xs : List D} (h : S[a]? = some (.lst xs)) : Gd [(a, xs)] S := fun g hg => by
  rw [List.mem_singleton.mp hg]
  exact l_of h
end

/-! ### operators -/
section
variable {S : Sto} {Q : KD} {P : Bool → Prop}
theorem b_add {i j : Int} (q : Q (.int (i + j)) S) : wpBin .add (.int i) (.int j) S Q := q
theorem b_addt {i j : List D} (h : i.length + j.length ≤ sizeLine) (q : Q (.tup (i ++ j)) S) : wpBin .add (.tup i) (.tup j) S Q := ⟨h, q⟩
theorem b_addl {a b : Nat} {xs ys : List D} (h1 : S[a]? = some (.lst xs)) (h2 : S[b]? = some (.lst ys)) (h : xs.length + ys.length ≤ sizeLine) (q : Q (.ref S.length) (S ++ [.lst (xs ++ ys)])) : wpBin .add (.ref a) (.ref b) S Q := by
  simp only [wpBin, h1, h2]
  exact ⟨h, q⟩
theorem b_sub {i j : Int} (q : Q (.int (i - j)) S) : wpBin .sub (.int i) (.int j) S Q := q
theorem b_mul {i j : Int} (h : IntMulOk i j) (q : Q (.int (i * j)) S) : wpBin .mul (.int i) (.int j) S Q := ⟨h, q⟩
theorem b_fdiv {i j : Int} (h : 0 < j) (h2 : j.natAbs.log2 < 9000) (q : Q (.int (i / j)) S) : wpBin .fdiv (.int i) (.int j) S Q := by
  show (if 0 < j then _ else _)
  rw [if_pos h]
  exact ⟨h2, q⟩
theorem b_mod {i j : Int} (h : 0 < j) (q : Q (.int (i % j)) S) : wpBin .mod (.int i) (.int j) S Q := by
  show (if 0 < j then _ else _)
  rw [if_pos h]
  exact q
theorem b_pow {i j : Int} (h : CPow i j) (q : Q (.int (i ^ j.toNat)) S) : wpBin .pow (.int i) (.int j) S Q := ⟨h, q⟩
theorem b_shl {i j : Int} (h : CShl i j) (q : Q (.int (i * 2 ^ j.toNat)) S) : wpBin .shl (.int i) (.int j) S Q := ⟨h, q⟩
theorem b_shr {i j : Int} (h : 0 ≤ j) (q : Q (.int (i / 2 ^ j.toNat)) S) : wpBin .shr (.int i) (.int j) S Q := ⟨h, q⟩
theorem b_and {i j : Int} (q : Q (.int (Builtin.bitAnd i j)) S) : wpBin .band (.int i) (.int j) S Q := q
theorem b_or {i j : Int} (q : Q (.int (Builtin.bitOr i j)) S) : wpBin .bor (.int i) (.int j) S Q := q
theorem b_xor {i j : Int} (q : Q (.int (Builtin.bitXor i j)) S) : wpBin .bxor (.int i) (.int j) S Q := q
theorem c_lt {i j : Int} (q : Q (.bl (decide (i < j))) S) : wpCmp .lt (.int i) (.int j) S Q := q
theorem c_le {i j : Int} (q : Q (.bl (decide (i ≤ j))) S) : wpCmp .le (.int i) (.int j) S Q := q
theorem c_gt {i j : Int} (q : Q (.bl (decide (j < i))) S) : wpCmp .gt (.int i) (.int j) S Q := q
theorem c_ge {i j : Int} (q : Q (.bl (decide (j ≤ i))) S) : wpCmp .ge (.int i) (.int j) S Q := q
theorem c_eqi {i j : Int} (q : Q (.bl (decide (i = j))) S) : wpCmp .eq (.int i) (.int j) S Q := by show Q (.bl (false ^^ decide (i = j))) S; rw [xorF]; exact q
theorem c_nei {i j : Int} (q : Q (.bl (!decide (i = j))) S) : wpCmp .ne (.int i) (.int j) S Q := by show Q (.bl (true ^^ decide (i = j))) S; rw [xorT]; exact q
theorem c_eqb {i j : Bool} (q : Q (.bl (decide (i = j))) S) : wpCmp .eq (.bl i) (.bl j) S Q := by show Q (.bl (false ^^ decide (i = j))) S; rw [xorF]; exact q
theorem c_neb {i j : Bool} (q : Q (.bl (!decide (i = j))) S) : wpCmp .ne (.bl i) (.bl j) S Q := by show Q (.bl (true ^^ decide (i = j))) S; rw [xorT]; exact q
theorem c_eqs {i j : Str} (q : Q (.bl (decide (i = j))) S) : wpCmp .eq (.str i) (.str j) S Q := by show Q (.bl (false ^^ decide (i = j))) S; rw [xorF]; exact q
theorem c_nes {i j : Str} (q : Q (.bl (!decide (i = j))) S) : wpCmp .ne (.str i) (.str j) S Q := by show Q (.bl (true ^^ decide (i = j))) S; rw [xorT]; exact q
/-- in a tuple of flat things; in a list of flat things -/
theorem c_int {x : D} {ys : List D} (h1 : flatD x = true) (h2 : ys.all flatD = true) (q : Q (.bl (inF x ys)) S) : wpCmp .isin x (.tup ys) S Q := by
  have e : wpCmp .isin x (.tup ys) S Q = wpIn false x (.tup ys) S Q := by cases x <;> rfl
  rw [e]
  exact ⟨h1, h2, by rw [xorF]; exact q⟩
theorem c_inl {x : D} {a : Nat} {ys : List D} (h : S[a]? = some (.lst ys)) (h1 : flatD x = true) (h2 : ys.all flatD = true) (q : Q (.bl (inF x ys)) S) : wpCmp .isin x (.ref a) S Q := by
  have e : wpCmp .isin x (.ref a) S Q = wpIn false x (.ref a) S Q := by cases x <;> rfl
  rw [e]
  simp only [wpIn, h]
  exact .inl ⟨h1, h2, by rw [xorF]; exact q⟩
theorem c_nint {x : D} {ys : List D} (h1 : flatD x = true) (h2 : ys.all flatD = true) (q : Q (.bl (!inF x ys)) S) : wpCmp .notin x (.tup ys) S Q := by
  have e : wpCmp .notin x (.tup ys) S Q = wpIn true x (.tup ys) S Q := by cases x <;> rfl
  rw [e]
  exact ⟨h1, h2, by rw [xorT]; exact q⟩
theorem c_ninl {x : D} {a : Nat} {ys : List D} (h : S[a]? = some (.lst ys)) (h1 : flatD x = true) (h2 : ys.all flatD = true) (q : Q (.bl (!inF x ys)) S) : wpCmp .notin x (.ref a) S Q := by
  have e : wpCmp .notin x (.ref a) S Q = wpIn true x (.ref a) S Q := by cases x <;> rfl
  rw [e]
  simp only [wpIn, h]
  exact .inl ⟨h1, h2, by rw [xorT]; exact q⟩
theorem c_inS {x y : Str} (q : Q (.bl (!(Builtin.Str.occurrences y x 0 y.length 1).isEmpty)) S) : wpCmp .isin (.str x) (.str y) S Q := by
  show Q (.bl (false ^^ !(Builtin.Str.occurrences y x 0 y.length 1).isEmpty)) S
  rw [xorF]
  exact q
/-- == of data -/
theorem c_eqd {x y : D} {d e : PyData} (hx : Pd S x d) (hy : Pd S y e) (s1 : SeqAt.shaped d = true) (s2 : SeqAt.shaped e = true) (q : Q (.bl (PyData.eqv d e)) S) : wpCmp .eq x y S Q := by
  have z : wpCmp .eq x y S Q = wpEq false x y S Q := by cases x <;> cases y <;> rfl
  rw [z]
  have fl : ∀ {b : Bool}, Q (.bl b) S → Q (.bl (false ^^ b)) S := fun {b} h => by rw [xorF]; exact h
  unfold wpEq
  split
  · cases hx; cases hy; exact fl (by rw [← Bool.beq_eq_decide_eq]; exact q)
  · cases hx; cases hy; exact fl (by rw [← Bool.beq_eq_decide_eq]; exact q)
  · cases hx; cases hy; exact fl (by rw [← Bool.beq_eq_decide_eq]; exact q)
  · exact .inl ⟨d, e, hx, hy, s1, s2, fl q⟩
theorem c_ned {x y : D} {d e : PyData} (hx : Pd S x d) (hy : Pd S y e) (s1 : SeqAt.shaped d = true) (s2 : SeqAt.shaped e = true) (q : Q (.bl (!PyData.eqv d e)) S) : wpCmp .ne x y S Q := by
  have z : wpCmp .ne x y S Q = wpEq true x y S Q := by cases x <;> cases y <;> rfl
  rw [z]
  have fl : ∀ {b : Bool}, Q (.bl (!b)) S → Q (.bl (true ^^ b)) S := fun {b} h => by rw [xorT]; exact h
  unfold wpEq
  split
  · cases hx; cases hy; exact fl (by rw [← Bool.beq_eq_decide_eq]; exact q)
  · cases hx; cases hy; exact fl (by rw [← Bool.beq_eq_decide_eq]; exact q)
  · cases hx; cases hy; exact fl (by rw [← Bool.beq_eq_decide_eq]; exact q)
  · exact .inl ⟨d, e, hx, hy, s1, s2, fl q⟩
/-- two dicts with the same things -/
theorem c_nedk {a b : Nat} {kvs : List (Key × D)} (h1 : S[a]? = some (.dk false kvs)) (h2 : S[b]? = some (.dk false kvs)) (fl : ∀ kv ∈ kvs, flatD kv.2 = true) (nd : (kvs.map (·.1)).Nodup) (q : Q (.bl false) S) : wpCmp .ne (.ref a) (.ref b) S Q := .inr ⟨a, b, kvs, rfl, rfl, h1, h2, fl, nd, q⟩
theorem c_eqdk {a b : Nat} {kvs : List (Key × D)} (h1 : S[a]? = some (.dk false kvs)) (h2 : S[b]? = some (.dk false kvs)) (fl : ∀ kv ∈ kvs, flatD kv.2 = true) (nd : (kvs.map (·.1)).Nodup) (q : Q (.bl true) S) : wpCmp .eq (.ref a) (.ref b) S Q := .inr ⟨a, b, kvs, rfl, rfl, h1, h2, fl, nd, q⟩
theorem isTy_dk {a : Nat} {fz : Bool} {kvs : List (Key × D)} {t : Ty} (h : S[a]? = some (.dk fz kvs)) : isTy (.ref a) t S = some (match t with | .dict => true | _ => false) := by simp only [isTy, h] <;> cases t <;> rfl
theorem c_isn {x : D} (h : x = .non) (q : Q (.bl true) S) : wpCmp .isN x .non S Q := by subst h; exact q
theorem c_isn' {x : D} (h : x ≠ .non) (q : Q (.bl false) S) : wpCmp .isN x .non S Q := by
  cases x <;> first | exact absurd rfl h | exact q
theorem c_notn {x : D} (h : x = .non) (q : Q (.bl false) S) : wpCmp .notN x .non S Q := by subst h; exact q
theorem c_notn' {x : D} (h : x ≠ .non) (q : Q (.bl true) S) : wpCmp .notN x .non S Q := by
  cases x <;> first | exact absurd rfl h | exact q
theorem t_bl {b : Bool} (q : P b) : truK S (.bl b) P := q
theorem t_int {i : Int} (q : P (i != 0)) : truK S (.int i) P := q
theorem t_non (q : P false) : truK S .non P := q
theorem t_tup {xs : List D} (q : P (!xs.isEmpty)) : truK S (.tup xs) P := q
theorem t_ref {a : Nat} {xs : List D} (h : S[a]? = some (.lst xs)) (q : P (!xs.isEmpty)) : truK S (.ref a) P := by
  simp only [truK, tru, h]
  exact q
theorem g_2 {a : Nat} {fz : Bool} {kvs : List (Key × D)} {y z : D} {k : Key} (h : S[a]? = some (.dk fz kvs)) (hk : keyOf y = some k) (q : Q ((dGet kvs k).getD z) S) : wpGet (.ref a) y z S Q := by
  have e : dkOf S a = some kvs := by unfold dkOf; rw [h]
  simp only [wpGet, e, hk]
  exact q
theorem is_dk {a : Nat} {fz : Bool} {kvs : List (Key × D)} (h : S[a]? = some (.dk fz kvs)) : isDk (.ref a) S := ⟨kvs, by unfold dkOf; rw [h]⟩
theorem x_tup {xs : List D} {i : Int} {v : D} (h : atI xs i = some v) (q : Q v S) : wpIx (.tup xs) (.int i) S Q := by
  show (match atI xs i with | some v => Q v S | none => False)
  rw [h]
  exact q
theorem x_klst {xs : List D} {i : Int} {v : D} (h : atI xs i = some v) (q : Q v S) : wpIx (.klst xs) (.int i) S Q := by
  show (match atI xs i with | some v => Q v S | none => False)
  rw [h]
  exact q
theorem x_ref {a : Nat} {xs : List D} {i : Int} {v : D} (h0 : S[a]? = some (.lst xs)) (h : atI xs i = some v) (q : Q v S) : wpIx (.ref a) (.int i) S Q := by
  show (match S[a]?.bind fun o => ixO o (.int i) with | some v => Q v S | none => False)
  rw [h0]
  show (match atI xs i with | some v => Q v S | none => False)
  rw [h]
  exact q
theorem x_dk {a : Nat} {fz : Bool} {kvs : List (Key × D)} {y v : D} {k : Key} (h0 : S[a]? = some (.dk fz kvs)) (hk : keyOf y = some k) (h : dGet kvs k = some v) (q : Q v S) : wpIx (.ref a) y S Q := by
  show (match S[a]?.bind fun o => ixO o y with | some v => Q v S | none => False)
  rw [h0]
  show (match (keyOf y).bind fun k => dGet kvs k with | some v => Q v S | none => False)
  rw [hk]
  show (match dGet kvs k with | some v => Q v S | none => False)
  rw [h]
  exact q
theorem sl_tup {xs : List D} {l h : Option Int} (q : Q (.tup (cutD xs l h)) S) : wpSl (.tup xs) l h S Q := q
theorem sl_klst {xs : List D} {l h : Option Int} (q : Q (.ref S.length) (S ++ [.lst (cutD xs l h)])) : wpSl (.klst xs) l h S Q := q
theorem sl_ref {a : Nat} {xs : List D} {l h : Option Int} (h0 : S[a]? = some (.lst xs)) (q : Q (.ref S.length) (S ++ [.lst (cutD xs l h)])) : wpSl (.ref a) l h S Q := by
  show (match lstOf S a with | some xs => Q (.ref S.length) (S ++ [.lst (cutD xs l h)]) | none => False)
  rw [l_of h0]
  exact q
theorem f_lent {xs : List D} (q : Q (.int xs.length) S) : wpBlt .len [.tup xs] S Q := q
theorem f_lenk {xs : List D} (q : Q (.int xs.length) S) : wpBlt .len [.klst xs] S Q := q
theorem f_lenr {a : Nat} {xs : List D} (h : S[a]? = some (.lst xs)) (q : Q (.int xs.length) S) : wpBlt .len [.ref a] S Q := by
  simp only [wpBlt, h]
  exact q
theorem f_lend {a : Nat} {kvs : List (Key × D)} (h : S[a]? = some (.dk false kvs)) (q : Q (.int kvs.length) S) : wpBlt .len [.ref a] S Q := by
  simp only [wpBlt, h]
  exact q
theorem dk_of {a : Nat} {fz : Bool} {kvs : List (Key × D)} (h : S[a]? = some (.dk fz kvs)) : dkOf S a = some kvs := by unfold dkOf; rw [h]
theorem f_dict {a : Nat} {fz : Bool} {kvs : List (Key × D)} (h : S[a]? = some (.dk fz kvs)) (q : Q (.ref S.length) (S ++ [.dk false kvs])) : wpBlt .dict [.ref a] S Q := by
  simp only [wpBlt, MP.dk_of h]
  exact q
theorem f_abs {i : Int} (q : Q (.int (if i < 0 then -i else i)) S) : wpBlt .abs [.int i] S Q := q
theorem f_max {i j : Int} (q : Q (.int (if j > i then j else i)) S) : wpBlt .max [.int i, .int j] S Q := q
theorem f_min {i j : Int} (q : Q (.int (if j < i then j else i)) S) : wpBlt .min [.int i, .int j] S Q := q
theorem f_sum {a : Nat} {xs : List D} {ns : List Int} (h : S[a]? = some (.lst xs)) (h2 : intsOf xs = some ns) (q : Q (.int ns.sum) S) : wpBlt .sum [.ref a] S Q := by
  show (match (lstOf S a).bind intsOf with | some ns => Q (.int ns.sum) S | none => False)
  rw [l_of h, Option.bind_some, h2]
  exact q
theorem f_any {a : Nat} {xs : List D} {bs : List Bool} (h : S[a]? = some (.lst xs)) (h2 : blsOf xs = some bs) (q : Q (.bl (bs.any id)) S) : wpBlt .any [.ref a] S Q := by
  show (match (lstOf S a).bind blsOf with | some bs => Q (.bl (bs.any id)) S | none => False)
  rw [l_of h, Option.bind_some, h2]
  exact q
theorem f_all {a : Nat} {xs : List D} {bs : List Bool} (h : S[a]? = some (.lst xs)) (h2 : blsOf xs = some bs) (q : Q (.bl (bs.all id)) S) : wpBlt .all [.ref a] S Q := by
  show (match (lstOf S a).bind blsOf with | some bs => Q (.bl (bs.all id)) S | none => False)
  rw [l_of h, Option.bind_some, h2]
  exact q
theorem f_int {i : Int} (q : Q (.int i) S) : wpBlt .int [.int i] S Q := q
theorem f_bool {i : Bool} (q : Q (.bl i) S) : wpBlt .bool [.bl i] S Q := q
theorem f_listt {xs : List D} (q : Q (.ref S.length) (S ++ [.lst xs])) : wpBlt .list [.tup xs] S Q := q
theorem f_listk {xs : List D} (q : Q (.ref S.length) (S ++ [.lst xs])) : wpBlt .list [.klst xs] S Q := q
theorem f_listr {a : Nat} {xs : List D} (h : S[a]? = some (.lst xs)) (q : Q (.ref S.length) (S ++ [.lst xs])) : wpBlt .list [.ref a] S Q := by
  show (match lstOf S a with | some xs => Q (.ref S.length) (S ++ [.lst xs]) | none => False)
  rw [l_of h]
  exact q
theorem f_tupt {xs : List D} (q : Q (.tup xs) S) : wpBlt .tuple [.tup xs] S Q := q
theorem f_tupr {a : Nat} {xs : List D} (h : S[a]? = some (.lst xs)) (q : Q (.tup xs) S) : wpBlt .tuple [.ref a] S Q := by
  show (match lstOf S a with | some xs => Q (.tup xs) S | none => False)
  rw [l_of h]
  exact q
theorem m_app {a : Nat} {y : D} {xs : List D} (h : S[a]? = some (.lst xs)) (hl : xs.length < sizeLine) (q : Q .non (S.set a (.lst (xs ++ [y])))) : wpMeth .append (.ref a) [y] S Q := by
  simp only [wpMeth, h]
  exact ⟨hl, q⟩
theorem m_pop {a : Nat} {y : D} {xs : List D} (h : S[a]? = some (.lst xs)) (hl : xs[xs.length - 1]? = some y) (q : Q y (S.set a (.lst xs.dropLast))) : wpMeth .pop (.ref a) [] S Q := by
  simp only [wpMeth, h, hl]
  exact q
theorem m_popAt {a k : Nat} {y : D} {xs : List D} (h : S[a]? = some (.lst xs)) (hl : xs[k]? = some y) (hk : k < 1000000) (q : Q y (S.set a (.lst (xs.eraseIdx k)))) : wpMeth .popAt (.ref a) [.int (k : Int)] S Q := by
  have e : ixN xs.length (k : Int) = some k := by
    unfold ixN
    have := (List.getElem?_eq_some_iff.mp hl).1
    rw [if_pos (by omega), if_pos (by omega)]
    simp
  simp only [wpMeth, h, e, hl]
  exact ⟨by omega, q⟩
theorem m_ext {a b : Nat} {xs ys : List D} (h : S[a]? = some (.lst xs)) (h2 : S[b]? = some (.lst ys)) (hl : xs.length + ys.length ≤ sizeLine) (q : Q .non (S.set a (.lst (xs ++ ys)))) : wpMeth .extend (.ref a) [.ref b] S Q := by
  simp only [wpMeth, h, h2]
  exact ⟨hl, q⟩
theorem m_extT {a : Nat} {xs ys : List D} (h : S[a]? = some (.lst xs)) (hl : xs.length + ys.length ≤ sizeLine) (q : Q .non (S.set a (.lst (xs ++ ys)))) : wpMeth .extend (.ref a) [.tup ys] S Q := by
  simp only [wpMeth, h]
  exact ⟨hl, q⟩
theorem m_bits {i : Int} (q : Q (.int (Builtin.Int.intBits i : Nat)) S) : wpMeth .bits (.int i) [] S Q := q
theorem r_lst {m : Mt} {a : Nat} {xs : List D} (hm : m ≠ .bits) (h : S[a]? = some (.lst xs)) : mtRecv m (.ref a) S := by
  cases m <;> first | exact absurd rfl hm | (simp only [mtRecv, h])
theorem r_int {i : Int} : mtRecv .bits (.int i) S := trivial
theorem rg_1 {j : Int} {R : Int → Int → Sto → Prop} (q : R 0 j S) : wpRg [.int j] S R := q
theorem rg_2 {i j : Int} {R : Int → Int → Sto → Prop} (q : R i j S) : wpRg [.int i, .int j] S R := q
theorem set_dk {a : Nat} {y : D} {k : Key} {v : D} {kvs : List (Key × D)} {R : Sto → Prop} (h : S[a]? = some (.dk false kvs)) (hk : keyOf y = some k) (hl : kvs.length < sizeLine) (q : R (S.set a (.dk false (dPut kvs k v)))) : wpSet (.ref a) y v S R := by
  cases y <;> first | (cases hk; done) | skip
  · cases hk
    simp only [wpSet, h]
    exact ⟨hl, q⟩
  · cases hk
    simp only [wpSet, h]
    exact ⟨hl, q⟩
theorem set_ref {a j : Nat} {k : Int} {v : D} {xs : List D} {R : Sto → Prop} (h : S[a]? = some (.lst xs)) (h2 : ixN xs.length k = some j) (q : R (S.set a (.lst (xs.set j v)))) : wpSet (.ref a) (.int k) v S R := by
  simp only [wpSet, h, h2]
  exact q
theorem isTy_int {i : Int} {t : Ty} : isTy (.int i) t S = some (match t with | .int => true | _ => false) := rfl
theorem isTy_bl {i : Bool} {t : Ty} : isTy (.bl i) t S = some (match t with | .int => true | .bool => true | _ => false) := rfl
theorem isTy_str {i : Str} {t : Ty} : isTy (.str i) t S = some (match t with | .str => true | _ => false) := rfl
theorem isTy_non {t : Ty} : isTy .non t S = some false := rfl
theorem isTy_tup {i : List D} {t : Ty} : isTy (.tup i) t S = some (match t with | .tuple => true | _ => false) := rfl
theorem isTy_ref {a : Nat} {xs : List D} {t : Ty} (h : S[a]? = some (.lst xs)) : isTy (.ref a) t S = some (match t with | .list => true | _ => false) := by simp only [isTy, h] <;> cases t <;> rfl
end
/-! ### trees -/
/-- a for's turn; a comprehension's turn -/
def forB (c : CallT) (t : Tg) (ss : MSs) (rt : KD) (nx : Env → Sto → Prop) (ex : Ex → Env → Sto → Prop) : D → Env → Sto → (Env → Sto → Prop) → Prop := fun x σ2 S2 K => match asg t x σ2 with
  | some σ3 => wpSs c ss ⟨K, rt, nx, K, ex⟩ σ3 S2
  | none => False
def cmpB (c : CallT) (vs : List Nat) (t : Tg) (ifs : MXs) (elt : MX) (σ : Env) : D → Sto → (Option D → Sto → Prop) → Prop := fun x S2 K => match asg t x (wipeE σ vs) with
  | some σ2 => wpIfs c ifs (fun _ _ => False) σ2 S2 fun k S3 => if k = true then wpE c elt (fun _ _ => False) σ2 S3 fun y S4 => K (some y) S4 else K none S3
  | none => False
section
variable {c : CallT} {E : Ex → Sto → Prop} {σ : Env} {S : Sto} {Q : KD} {a b d : MX} {es : MXs}
theorem e_var {i : Nat} {v : D} (h : σ[i]? = some (some v)) (q : Q v S) : wpE c (.var i) E σ S Q := by
  unfold wpE
  rw [h]
  exact q
theorem e_int {i : Int} (q : Q (.int i) S) : wpE c (.int i) E σ S Q := by unfold wpE; exact q
theorem e_bl {i : Bool} (q : Q (.bl i) S) : wpE c (.bl i) E σ S Q := by unfold wpE; exact q
theorem e_non (q : Q .non S) : wpE c .non E σ S Q := by unfold wpE; exact q
theorem e_str {i : Str} (q : Q (.str i) S) : wpE c (.str i) E σ S Q := by unfold wpE; exact q
theorem e_tup (q : wpEs c es E σ S fun vs S1 => vs.length ≤ sizeLine ∧ Q (.tup vs) S1) : wpE c (.tup es) E σ S Q := by unfold wpE; exact q
theorem e_lst (q : wpEs c es E σ S fun vs S1 => vs.length ≤ sizeLine ∧ Q (.ref S1.length) (S1 ++ [.lst vs])) : wpE c (.lst es) E σ S Q := by unfold wpE; exact q
theorem e_bin {o : Bop} (q : wpE c a E σ S fun x S1 => wpE c b E σ S1 fun y S2 => wpBin o x y S2 Q) : wpE c (.bin o a b) E σ S Q := by unfold wpE; exact q
theorem e_neg (q : wpE c a E σ S fun x S1 => match x with
    | .int i => Q (.int (-i)) S1
    | _ => False) : wpE c (.neg a) E σ S Q := by unfold wpE; exact q
theorem e_cmp {o : Cop} (q : wpE c a E σ S fun x S1 => wpE c b E σ S1 fun y S2 => wpCmp o x y S2 Q) : wpE c (.cmp o a b) E σ S Q := by unfold wpE; exact q
theorem e_and (q : wpE c a E σ S fun x S1 => truK S1 x fun k => if k = true then wpE c b E σ S1 Q else Q x S1) : wpE c (.and a b) E σ S Q := by unfold wpE; exact q
theorem e_or (q : wpE c a E σ S fun x S1 => truK S1 x fun k => if k = true then Q x S1 else wpE c b E σ S1 Q) : wpE c (.or a b) E σ S Q := by unfold wpE; exact q
theorem e_not (q : wpE c a E σ S fun x S1 => truK S1 x fun k => Q (.bl (!k)) S1) : wpE c (.not a) E σ S Q := by unfold wpE; exact q
theorem e_ite (q : wpE c d E σ S fun x S1 => truK S1 x fun k => if k = true then wpE c a E σ S1 Q else wpE c b E σ S1 Q) : wpE c (.ite d a b) E σ S Q := by unfold wpE; exact q
theorem e_ix (q : wpE c a E σ S fun x S1 => wpE c b E σ S1 fun y S2 => wpIx x y S2 Q) : wpE c (.ix a b) E σ S Q := by unfold wpE; exact q
theorem e_sl {lo hi : MXo} (q : wpE c a E σ S fun x S1 => wpO c lo E σ S1 fun l S2 => wpO c hi E σ S2 fun h S3 => wpSl x l h S3 Q) : wpE c (.sl a lo hi) E σ S Q := by unfold wpE; exact q
theorem e_call {f : Nat} (q : wpEs c es E σ S fun vs S1 => c f vs S1 Q E) : wpE c (.call f es) E σ S Q := by unfold wpE; exact q
theorem e_blt {f : Bl} (q : wpEs c es E σ S fun vs S1 => wpBlt f vs S1 Q) : wpE c (.blt f es) E σ S Q := by unfold wpE; exact q
theorem e_isi {t : Ty} (q : wpE c a E σ S fun x S1 => match isTy x t S1 with
    | some b => Q (.bl b) S1
    | none => False) : wpE c (.isi a t) E σ S Q := by unfold wpE; exact q
theorem e_lrg (q : wpEs c es E σ S fun vs S1 => wpRg vs S1 fun i j S2 => RgOk i j ∧ Q (.ref S2.length) (S2 ++ [.lst (rgD i j)])) : wpE c (.listRg es) E σ S Q := by unfold wpE; exact q
theorem e_meth {m : Mt} (q : wpE c a E σ S fun x S1 => mtRecv m x S1 ∧ wpEs c es E σ S1 fun vs S2 => wpMeth m x vs S2 Q) : wpE c (.meth m a es) E σ S Q := by unfold wpE; exact q
theorem e_comp {vs : List Nat} {t : Tg} {it : MI} {ifs : MXs} {elt : MX} (q : wpI c it E σ S fun xs gs S1 => xs.length ≤ sizeLine ∧
      wpComp gs (cmpB c vs t ifs elt σ) xs S1 fun ys S2 => Q (.ref S2.length) (S2 ++ [.lst ys])) : wpE c (.comp vs t it ifs elt) E σ S Q := by unfold wpE; exact q
theorem e_dnew (q : Q (.ref S.length) (S ++ [.dk false []])) : wpE c .dnew E σ S Q := by unfold wpE; exact q
theorem e_dget (q : wpE c a E σ S fun x S1 => isDk x S1 ∧ wpE c b E σ S1 fun y S2 => wpGet x y .non S2 Q) : wpE c (.dget a b) E σ S Q := by unfold wpE; exact q
theorem e_dget2 (q : wpE c a E σ S fun x S1 => isDk x S1 ∧ wpE c b E σ S1 fun y S2 => wpE c d E σ S2 fun v S3 => wpGet x y v S3 Q) : wpE c (.dget2 a b d) E σ S Q := by unfold wpE; exact q
theorem e_fnv {x : Str} (q : Q (.fn x) S) : wpE c (.fnv x) E σ S Q := by unfold wpE; exact q
theorem e_callv {i f : Nat} {x : Str} {fs : List (Str × Nat)} (h : σ[i]? = some (some (.fn x))) (h2 : fs.lookup x = some f) (q : wpEs c es E σ S fun vs S1 => c f vs S1 Q E) : wpE c (.callv i fs es) E σ S Q := by
  unfold wpE
  rw [h]
  dsimp only
  rw [h2]
  exact q
theorem e_keysOf (q : wpE c a E σ S fun x S1 => match x with
    | .ref a => match S1[a]? with
      | some (.dk false kvs) => Q (.ref S1.length) (S1 ++ [.lst (kvs.map fun kv => keyD kv.1)])
      | _ => False
    | _ => False) : wpE c (.keysOf a) E σ S Q := by unfold wpE; exact q
theorem e_compD {vs : List Nat} {t : Tg} {i a : Nat} {ifs : MXs} {elt : MX} {kvs : List (Key × D)} (h : σ[i]? = some (some (.ref a))) (h2 : S[a]? = some (.dk false kvs)) (hz : kvs.length ≤ sizeLine)
    (q : wpComp [] (cmpB c vs t ifs elt σ) (kvs.map fun kv => keyD kv.1) (S.set a (.dk true kvs)) fun ys S2 => S2[a]? = some (.dk true kvs) ∧ Q (.ref S2.length) (S2.set a (.dk false kvs) ++ [.lst ys])) : wpE c (.compD vs t i ifs elt) E σ S Q := by
  unfold wpE
  rw [h]
  dsimp only
  rw [h2]
  exact ⟨hz, q⟩
theorem e_orl (q : wpE c a E σ S Q) : wpE c (.orX a b) E σ S Q := by unfold wpE; exact .inl q
theorem e_orr (q : wpE c b E σ S Q) : wpE c (.orX a b) E σ S Q := by unfold wpE; exact .inr q
theorem es_nil {R : List D → Sto → Prop} (q : R [] S) : wpEs c .nil E σ S R := by unfold wpEs; exact q
theorem es_cons {R : List D → Sto → Prop} (q : wpE c a E σ S fun x S1 => wpEs c es E σ S1 fun xs S2 => R (x :: xs) S2) : wpEs c (.cons a es) E σ S R := by unfold wpEs; exact q
theorem o_no {R : Option Int → Sto → Prop} (q : R none S) : wpO c .no E σ S R := by unfold wpO; exact q
theorem o_so {R : Option Int → Sto → Prop} (q : wpE c a E σ S fun x S1 => match x with
    | .int i => R (some i) S1
    | _ => False) : wpO c (.so a) E σ S R := by unfold wpO; exact q
theorem if_nil {R : Bool → Sto → Prop} (q : R true S) : wpIfs c .nil E σ S R := by unfold wpIfs; exact q
theorem if_cons {R : Bool → Sto → Prop} (q : wpE c a E σ S fun x S1 => truK S1 x fun k => if k = true then wpIfs c es E σ S1 R else R false S1) : wpIfs c (.cons a es) E σ S R := by unfold wpIfs; exact q
theorem i_rng {R : List D → List (Nat × List D) → Sto → Prop} (q : wpEs c es E σ S fun vs S1 => wpRg vs S1 fun i j S2 => RgB i j ∧ R (rgD i j) [] S2) : wpI c (.rng es) E σ S R := by unfold wpI; exact q
theorem i_enum {R : List D → List (Nat × List D) → Sto → Prop} (q : wpE c a E σ S fun x S1 => match x with
    | .tup xs => R (enumD xs) [] S1
    | .ref a => match lstOf S1 a with
      | some xs => R (enumD xs) [(a, xs)] S1
      | none => False
    | _ => False) : wpI c (.enum a) E σ S R := by unfold wpI; exact q
theorem i_seq {R : List D → List (Nat × List D) → Sto → Prop} (q : wpE c a E σ S fun x S1 => match x with
    | .tup xs => R xs [] S1
    | .klst xs => R xs [] S1
    | .ref a => match lstOf S1 a with
      | some xs => R xs [(a, xs)] S1
      | none => False
    | _ => False) : wpI c (.seq a) E σ S R := by unfold wpI; exact q
variable {nx bk ct : Env → Sto → Prop} {rt : KD} {ex : Ex → Env → Sto → Prop} {ss s1 s2 : MSs} {s : MS}
theorem s_nil (q : nx σ S) : wpSs c .nil ⟨nx, rt, bk, ct, ex⟩ σ S := by unfold wpSs; exact q
theorem s_cons (q : wpS c s ⟨fun σ' S' => wpSs c ss ⟨nx, rt, bk, ct, ex⟩ σ' S', rt, bk, ct, ex⟩ σ S) : wpSs c (.cons s ss) ⟨nx, rt, bk, ct, ex⟩ σ S := by unfold wpSs; exact q
theorem s_asg {t : Tg} {e : MX} (q : wpE c e (fun x S' => ex x σ S') σ S fun v S1 => match asg t v σ with
    | some σ' => nx σ' S1
    | none => False) : wpS c (.asg (.tg t) e) ⟨nx, rt, bk, ct, ex⟩ σ S := by unfold wpS; exact q
theorem s_nm {i : Nat} {e : MX} (q : wpE c e (fun x S' => ex x σ S') σ S fun v S1 => nx (σ.set i (some v)) S1) : wpS c (.asg (.tg (.nm i)) e) ⟨nx, rt, bk, ct, ex⟩ σ S := by unfold wpS; exact q
theorem s_ix {o i e : MX} (q : wpE c e (fun x S' => ex x σ S') σ S fun v S1 => wpE c o (fun x S' => ex x σ S') σ S1 fun x S2 => wpE c i (fun x S' => ex x σ S') σ S2 fun y S3 => wpSet x y v S3 fun S4 => nx σ S4) : wpS c (.asg (.ix o i) e) ⟨nx, rt, bk, ct, ex⟩ σ S := by unfold wpS; exact q
theorem s_ex {e : MX} (q : wpE c e (fun x S' => ex x σ S') σ S fun _ S1 => nx σ S1) : wpS c (.ex e) ⟨nx, rt, bk, ct, ex⟩ σ S := by unfold wpS; exact q
theorem s_iff (q : wpE c a (fun x S' => ex x σ S') σ S fun v S1 => truK S1 v fun k => if k = true then wpSs c s1 ⟨nx, rt, bk, ct, ex⟩ σ S1 else wpSs c s2 ⟨nx, rt, bk, ct, ex⟩ σ S1) : wpS c (.iff a s1 s2) ⟨nx, rt, bk, ct, ex⟩ σ S := by unfold wpS; exact q
theorem s_ret (q : wpE c a (fun x S' => ex x σ S') σ S rt) : wpS c (.ret a) ⟨nx, rt, bk, ct, ex⟩ σ S := by unfold wpS; exact q
theorem s_ret0 (q : rt .non S) : wpS c .ret0 ⟨nx, rt, bk, ct, ex⟩ σ S := by unfold wpS; exact q
theorem s_brk (q : bk σ S) : wpS c .brk ⟨nx, rt, bk, ct, ex⟩ σ S := by unfold wpS; exact q
theorem s_cnt (q : ct σ S) : wpS c .cnt ⟨nx, rt, bk, ct, ex⟩ σ S := by unfold wpS; exact q
theorem s_pas (q : nx σ S) : wpS c .pas ⟨nx, rt, bk, ct, ex⟩ σ S := by unfold wpS; exact q
theorem s_for {t : Tg} {it : MI} (q : wpI c it (fun x S' => ex x σ S') σ S fun xs gs S1 =>
      wpFor gs (forB c t ss rt nx ex) nx xs σ S1) : wpS c (.for_ t it ss) ⟨nx, rt, bk, ct, ex⟩ σ S := by unfold wpS; exact q
/-- while, by what holds ahead of each turn, and a number that falls -/
theorem s_whl (W : Nat → Env → Sto → Prop) (m : Nat) (h0 : W m σ S) (q : ∀ m σ S, W m σ S →
      wpE c a (fun x S' => ex x σ S') σ S fun v S1 => truK S1 v fun k => if k = true then
        wpSs c ss ⟨fun σ' S' => ∃ m', m' < m ∧ W m' σ' S', rt, nx, fun σ' S' => ∃ m', m' < m ∧ W m' σ' S', ex⟩ σ S1 else nx σ S1) : wpS c (.whl a ss) ⟨nx, rt, bk, ct, ex⟩ σ S := by
  unfold wpS
  exact ⟨W, ⟨m, h0⟩, q⟩
/-- for, by what holds ahead of each turn -/
theorem for_inv {gs : List (Nat × List D)} {t : Tg} {xs : List D} (hc : CallMono c c) (I : Nat → Env → Sto → Prop) (h0 : I 0 σ S) (hg : ∀ i σ S, i ≤ xs.length → I i σ S → Gd gs S)
    (hs : ∀ i x σ S, xs[i]? = some x → I i σ S → match asg t x σ with
      | some σ' => wpSs c ss ⟨I (i + 1), rt, nx, I (i + 1), ex⟩ σ' S
      | none => False) (hd : ∀ σ S, I xs.length σ S → nx σ S) :
    wpFor gs (forB c t ss rt nx ex) nx xs σ S := by
  have go : ∀ (r : List D) (i : Nat) (σ : Env) (S : Sto), xs.drop i = r → i ≤ xs.length → I i σ S → wpFor gs (forB c t ss rt nx ex) nx r σ S := by
    intro r
    induction r with
    | nil =>
      intro i σ S e hi h
      have : xs.length ≤ i := by
        have := congrArg List.length e
        simp at this
        omega
      have ei : i = xs.length := by omega
      subst ei
      exact ⟨hg _ _ _ (Nat.le_refl _) h, hd _ _ h⟩
    | cons x r ih =>
      intro i σ S e hi h
      have hx : xs[i]? = some x := by
        have := congrArg (fun l => l[0]?) e
        simpa using this
      have hlt := (List.getElem?_eq_some_iff.mp hx).1
      have hr : xs.drop (i + 1) = r := by
        have := congrArg List.tail e
        simpa using this
      refine ⟨hg _ _ _ hi h, ?_⟩
      have q := hs i x σ S hx h
      show (match asg t x σ with
        | some σ3 => wpSs c ss ⟨wpFor gs (forB c t ss rt nx ex) nx r, rt, nx, wpFor gs (forB c t ss rt nx ex) nx r, ex⟩ σ3 S
        | none => False)
      cases ha : asg t x σ with
      | none => rw [ha] at q; exact q
      | some σ' =>
        rw [ha] at q
        exact wpSs_mono hc _ q ⟨fun σ' S' z => ih (i + 1) σ' S' hr hlt z, fun _ _ z => z, fun _ _ z => z, fun σ' S' z => ih (i + 1) σ' S' hr hlt z, fun _ _ _ z => z⟩
  exact go xs 0 σ S rfl (Nat.zero_le _) h0
theorem for_nm {gs : List (Nat × List D)} {j : Nat} {xs : List D} (hc : CallMono c c) (I : Nat → Env → Sto → Prop) (h0 : I 0 σ S) (hg : ∀ i σ S, i ≤ xs.length → I i σ S → Gd gs S)
    (hs : ∀ i x σ S, xs[i]? = some x → I i σ S → wpSs c ss ⟨I (i + 1), rt, nx, I (i + 1), ex⟩ (σ.set j (some x)) S) (hd : ∀ σ S, I xs.length σ S → nx σ S) :
    wpFor gs (forB c (.nm j) ss rt nx ex) nx xs σ S := for_inv hc I h0 hg hs hd
theorem for_en {gs : List (Nat × List D)} {j k : Nat} {xs : List D} (hc : CallMono c c) (I : Nat → Env → Sto → Prop) (h0 : I 0 σ S) (hg : ∀ i σ S, i ≤ xs.length → I i σ S → Gd gs S)
    (hs : ∀ i x σ S, xs[i]? = some x → I i σ S → wpSs c ss ⟨I (i + 1), rt, nx, I (i + 1), ex⟩ ((σ.set j (some (.int (i : Nat)))).set k (some x)) S) (hd : ∀ σ S, I xs.length σ S → nx σ S) :
    wpFor gs (forB c (.tp [.nm j, .nm k]) ss rt nx ex) nx (enumD xs) σ S := by
  refine for_inv hc I h0 (fun i σ S hi => hg i σ S (by rw [enumD_len] at hi; exact hi)) (fun i x σ S hx h => ?_) (fun σ S h => hd σ S (by rw [enumD_len] at h; exact h))
  obtain ⟨y, hy, rfl⟩ := enumD_get hx
  exact hs i y σ S hy h
theorem rgD_get {n i : Nat} {x : D} (h : (rgD 0 (n : Int))[i]? = some x) : i < n ∧ x = .int (i : Nat) := by
  unfold rgD at h
  rw [List.getElem?_map] at h
  obtain ⟨m, hm, rfl⟩ := Option.map_eq_some_iff.mp h
  obtain ⟨hl, rfl⟩ := List.getElem?_eq_some_iff.mp hm
  rw [List.getElem_range]
  have : i < n := by simpa using hl
  exact ⟨this, by simp⟩
theorem rgD_len (n : Nat) : (rgD 0 (n : Int)).length = n := by unfold rgD; simp
theorem for_rg {j n : Nat} (hc : CallMono c c) (I : Nat → Env → Sto → Prop) (h0 : I 0 σ S)
    (hs : ∀ i σ S, i < n → I i σ S → wpSs c ss ⟨I (i + 1), rt, nx, I (i + 1), ex⟩ (σ.set j (some (.int (i : Nat)))) S) (hd : ∀ σ S, I n σ S → nx σ S) :
    wpFor [] (forB c (.nm j) ss rt nx ex) nx (rgD 0 (n : Int)) σ S := by
  refine for_inv hc I h0 (fun _ _ _ _ _ => gd_nil) (fun i x σ S hx h => ?_) (fun σ S h => hd σ S (by rw [rgD_len] at h; exact h))
  obtain ⟨hi, rfl⟩ := rgD_get hx
  exact hs i σ S hi h
theorem rg_ok {n : Nat} (h : n < 2 ^ 62) : RgB 0 (n : Int) := ⟨⟨by omega, by omega⟩, by omega, by omega⟩
theorem for_c {gs : List (Nat × List D)} {j : Nat} {x : D} {r : List D} (hg : Gd gs S) (h : wpSs c ss ⟨wpFor gs (forB c (.nm j) ss rt nx ex) nx r, rt, nx, wpFor gs (forB c (.nm j) ss rt nx ex) nx r, ex⟩ (σ.set j (some x)) S) : wpFor gs (forB c (.nm j) ss rt nx ex) nx (x :: r) σ S := ⟨hg, h⟩
theorem for_n {gs : List (Nat × List D)} {B : D → Env → Sto → (Env → Sto → Prop) → Prop} (hg : Gd gs S) (h : nx σ S) : wpFor gs B nx [] σ S := ⟨hg, h⟩
/-- a comprehension, by what holds ahead of each turn -/
theorem comp_inv {gs : List (Nat × List D)} {body : D → Sto → (Option D → Sto → Prop) → Prop} (hb : ∀ x S K K', body x S K → (∀ o S, K o S → K' o S) → body x S K') {R : List D → Sto → Prop} {xs : List D} (I : Nat → List D → Sto → Prop) (h0 : I 0 [] S) (hg : ∀ i acc S, i ≤ xs.length → I i acc S → Gd gs S)
    (hs : ∀ i x acc S, xs[i]? = some x → I i acc S → body x S fun o S' => match o with
      | some y => I (i + 1) (acc ++ [y]) S'
      | none => I (i + 1) acc S') (hd : ∀ acc S, I xs.length acc S → R acc S) : wpComp gs body xs S R := by
  have go : ∀ (r : List D) (i : Nat) (acc : List D) (S : Sto) (R' : List D → Sto → Prop), xs.drop i = r → i ≤ xs.length → I i acc S → (∀ ys S, I xs.length (acc ++ ys) S → R' ys S) → wpComp gs body r S R' := by
    intro r
    induction r with
    | nil =>
      intro i acc S R' e hi h hR
      have : xs.length ≤ i := by
        have := congrArg List.length e
        simp at this
        omega
      have ei : i = xs.length := by omega
      subst ei
      exact ⟨hg _ _ _ (Nat.le_refl _) h, hR [] _ (by rw [List.append_nil]; exact h)⟩
    | cons x r ih =>
      intro i acc S R' e hi h hR
      have hx : xs[i]? = some x := by
        have := congrArg (fun l => l[0]?) e
        simpa using this
      have hlt := (List.getElem?_eq_some_iff.mp hx).1
      have hr : xs.drop (i + 1) = r := by
        have := congrArg List.tail e
        simpa using this
      refine ⟨hg _ _ _ hi h, hb x S _ _ (hs i x acc S hx h) fun o S' z => ?_⟩
      cases o with
      | none => exact ih (i + 1) acc S' _ hr hlt z hR
      | some y => exact ih (i + 1) (acc ++ [y]) S' _ hr hlt z fun ys S q => hR (y :: ys) S (by simpa using q)
  exact go xs 0 [] S R rfl (Nat.zero_le _) h0 fun ys S q => hd ys S q
theorem comp_mono (hc : CallMono c c) {vs : List Nat} {t : Tg} {ifs : MXs} {elt : MX} : ∀ x S K K', cmpB c vs t ifs elt σ x S K → (∀ o S, K o S → K' o S) → cmpB c vs t ifs elt σ x S K' := by
  intro x S K K' h m
  revert h
  show (match asg t x (wipeE σ vs) with
        | some σ2 => wpIfs c ifs (fun _ _ => False) σ2 S fun k S3 => if k = true then wpE c elt (fun _ _ => False) σ2 S3 fun y S4 => K (some y) S4 else K none S3
        | none => False) → (match asg t x (wipeE σ vs) with
        | some σ2 => wpIfs c ifs (fun _ _ => False) σ2 S fun k S3 => if k = true then wpE c elt (fun _ _ => False) σ2 S3 fun y S4 => K' (some y) S4 else K' none S3
        | none => False)
  intro h
  split at h
  · refine wpIfs_mono hc _ h (fun k S3 q => ?_) fun _ _ z => z
    cases k with
    | true => exact wpE_mono hc _ q (fun y S4 q => m _ _ q) fun _ _ z => z
    | false => exact m _ _ q
  · exact h
theorem cmp_nm {vs : List Nat} {j : Nat} {ifs : MXs} {elt : MX} {x : D} {K : Option D → Sto → Prop} (h : wpIfs c ifs (fun _ _ => False) ((wipeE σ vs).set j (some x)) S fun k S3 => if k = true then wpE c elt (fun _ _ => False) ((wipeE σ vs).set j (some x)) S3 fun y S4 => K (some y) S4 else K none S3) : cmpB c vs (.nm j) ifs elt σ x S K := h
/-- a call's end -/
def fin (Q : KD) (E : Ex → Sto → Prop) : MP.Ends := ⟨fun _ S' => Q .non S', Q, fun _ _ => False, fun _ _ => False, fun x _ S' => E x S'⟩
/-- tests that are known; tests that fork -/
theorem d_t {p A B : Prop} [Decidable p] (h : p) (q : A) : if decide p = true then A else B := by rw [decide_eq_true h, if_pos rfl]; exact q
theorem d_f {p A B : Prop} [Decidable p] (h : ¬ p) (q : B) : if decide p = true then A else B := by rw [decide_eq_false h, if_neg Bool.false_ne_true]; exact q
theorem d_nt {p A B : Prop} [Decidable p] (h : ¬ p) (q : A) : if (!decide p) = true then A else B := by rw [decide_eq_false h]; exact q
theorem d_nf {p A B : Prop} [Decidable p] (h : p) (q : B) : if (!decide p) = true then A else B := by rw [decide_eq_true h]; exact q
theorem d_2 {p A B : Prop} [Decidable p] (h1 : p → A) (h2 : ¬ p → B) : if decide p = true then A else B := by
  by_cases h : p
  · exact d_t h (h1 h)
  · exact d_f h (h2 h)
theorem d_n2 {p A B : Prop} [Decidable p] (h1 : ¬ p → A) (h2 : p → B) : if (!decide p) = true then A else B := by
  by_cases h : p
  · exact d_nf h (h2 h)
  · exact d_nt h (h1 h)
theorem k_t {A B : Prop} (q : A) : if true = true then A else B := by rw [if_pos rfl]; exact q
theorem k_f {A B : Prop} (q : B) : if false = true then A else B := by rw [if_neg Bool.false_ne_true]; exact q
theorem k_T {b : Bool} {A B : Prop} (h : b = true) (q : A) : if b = true then A else B := by rw [if_pos h]; exact q
theorem k_F {b : Bool} {A B : Prop} (h : b = false) (q : B) : if b = true then A else B := by rw [h, if_neg Bool.false_ne_true]; exact q
theorem k_nt {A B : Prop} (q : B) : if (!true) = true then A else B := q
theorem k_nf {A B : Prop} (q : A) : if (!false) = true then A else B := q
end
end MP
/-! MPBits: sets of places as numbers; plain mathematics. -/
namespace MP
open PySem PySem.Spec PyProof.Rows L2

def maskN : List Nat → Nat
  | [] => 0
  | p :: r => 2 ^ p ||| maskN r
def bits (m n : Nat) : List Nat := (List.range n).filter fun i => m.testBit i
theorem tb_maskN : ∀ (ps : List Nat) (i : Nat), (maskN ps).testBit i = decide (i ∈ ps)
  | [], i => by simp [maskN]
  | p :: r, i => by
    rw [maskN, Nat.testBit_or, tb_maskN r, Nat.testBit_two_pow]
    by_cases h : p = i
    · subst h; simp
    · simp [h, Ne.symm h, eq_comm]
theorem maskN_eq {ps qs : List Nat} (h : ∀ i, i ∈ ps ↔ i ∈ qs) : maskN ps = maskN qs := by
  apply Nat.eq_of_testBit_eq
  intro i
  rw [tb_maskN, tb_maskN]
  exact decide_eq_decide.mpr (h i)
theorem maskN_inj {ps qs : List Nat} (h : maskN ps = maskN qs) : ∀ i, i ∈ ps ↔ i ∈ qs := by
  intro i
  have := congrArg (fun m => m.testBit i) h
  simp only [tb_maskN] at this
  exact decide_eq_decide.mp this
theorem maskN_lt {ps : List Nat} {n : Nat} (h : ∀ p ∈ ps, p < n) : maskN ps < 2 ^ n := by
  apply Nat.lt_pow_two_of_testBit
  intro i hi
  rw [tb_maskN]
  exact decide_eq_false fun z => absurd (h i z) (by omega)
theorem mem_bits {m n i : Nat} : i ∈ bits m n ↔ i < n ∧ m.testBit i = true := by
  unfold bits
  rw [List.mem_filter, List.mem_range]
theorem maskN_bits {m n : Nat} (h : m < 2 ^ n) : maskN (bits m n) = m := by
  apply Nat.eq_of_testBit_eq
  intro i
  rw [tb_maskN]
  by_cases hb : m.testBit i = true
  · rw [hb]
    refine decide_eq_true (mem_bits.mpr ⟨?_, hb⟩)
    apply Classical.byContradiction
    intro hn
    have : m < 2 ^ i := Nat.lt_of_lt_of_le h (Nat.pow_le_pow_right (by decide) (by omega))
    rw [Nat.testBit_lt_two_pow this] at hb
    cases hb
  · rw [Bool.not_eq_true] at hb
    rw [hb]
    exact decide_eq_false fun z => by have := (mem_bits.mp z).2; rw [hb] at this; cases this
theorem filter_mem_of_sub {l : List Nat} : ∀ {l' : List Nat}, l.Sublist l' → l'.Nodup → l'.filter (fun i => decide (i ∈ l)) = l := by
  intro l' h
  induction h with
  | slnil => intro _; rfl
  | @cons l₁ l₂ a s ih =>
    intro nd
    rw [List.nodup_cons] at nd
    have na : a ∉ l₁ := fun z => nd.1 (s.subset z)
    rw [List.filter_cons_of_neg (by simpa using na)]
    exact ih nd.2
  | @cons_cons l₁ l₂ a s ih =>
    intro nd
    rw [List.nodup_cons] at nd
    rw [List.filter_cons_of_pos (by simp)]
    congr 1
    have e : l₂.filter (fun i => decide (i ∈ a :: l₁)) = l₂.filter (fun i => decide (i ∈ l₁)) := by
      apply List.filter_congr
      intro x hx
      have : x ≠ a := fun z => nd.1 (z ▸ hx)
      simp [this]
    rw [e]
    exact ih nd.2
theorem bits_maskN {ps : List Nat} {n : Nat} (h : ps.Sublist (List.range n)) : bits (maskN ps) n = ps := by
  unfold bits
  have : (fun i => (maskN ps).testBit i) = fun i => decide (i ∈ ps) := funext fun i => tb_maskN ps i
  rw [this]
  exact filter_mem_of_sub h List.nodup_range
theorem or_eq_add {a b : Nat} (h : a &&& b = 0) : a ||| b = a + b := by
  have e := bitOr_and (a : Int) (b : Int)
  rw [L2.bitOr_nn (Int.natCast_nonneg _) (Int.natCast_nonneg _), bitAnd_pp (Int.natCast_nonneg _) (Int.natCast_nonneg _)] at e
  simp only [Int.toNat_natCast, h] at e
  omega
theorem maskN_sum : ∀ {ps : List Nat}, ps.Nodup → (ps.map (2 ^ ·)).sum = maskN ps
  | [], _ => rfl
  | p :: r, h => by
    rw [List.nodup_cons] at h
    rw [List.map_cons, List.sum_cons, maskN_sum h.2, maskN]
    refine (or_eq_add ?_).symm
    apply Nat.eq_of_testBit_eq
    intro i
    rw [Nat.testBit_and, tb_maskN, Nat.testBit_two_pow, Nat.zero_testBit]
    by_cases e : p = i
    · subst e; simp [h.1]
    · simp [e]
theorem top_bit {x q : Nat} (h1 : 2 ^ q ≤ x) (h2 : x < 2 ^ (q + 1)) : x.testBit q = true := by
  rw [Nat.testBit_eq_decide_div_mod_eq]
  have e : x / 2 ^ q = 1 := by
    apply Nat.div_eq_of_lt_le
    · omega
    · rw [Nat.pow_succ] at h2; omega
  rw [e]
  rfl
theorem and_pred {m : Nat} (h : 0 < m) (e : m &&& (m - 1) = 0) : ∃ q, m = 2 ^ q := by
  refine ⟨m.log2, ?_⟩
  have h1 : 2 ^ m.log2 ≤ m := Nat.log2_self_le (by omega)
  have h2 : m < 2 ^ (m.log2 + 1) := Nat.lt_log2_self
  apply Classical.byContradiction
  intro n
  have t1 := top_bit h1 h2
  have t2 := top_bit (x := m - 1) (q := m.log2) (by omega) (by omega)
  have := congrArg (fun x => x.testBit m.log2) e
  simp only [Nat.testBit_and, t1, t2, Nat.zero_testBit] at this
  cases this
theorem pow_pred (p : Nat) : 2 ^ p &&& (2 ^ p - 1) = 0 := by
  rw [Nat.and_two_pow_sub_one_eq_mod, Nat.mod_self]
theorem single_iff {ps : List Nat} (nd : ps.Nodup) : (0 < maskN ps ∧ maskN ps &&& (maskN ps - 1) = 0) ↔ ps.length = 1 := by
  constructor
  · rintro ⟨h1, h2⟩
    obtain ⟨q, hq⟩ := and_pred h1 h2
    have hm : ∀ i, i ∈ ps ↔ i = q := fun i => by
      have := congrArg (fun x => x.testBit i) hq
      simp only [tb_maskN, Nat.testBit_two_pow] at this
      rw [decide_eq_decide] at this
      rw [this]
      exact eq_comm
    match ps, nd, hm with
    | [], _, hm => exact absurd ((hm q).mpr rfl) (by simp)
    | [x], _, _ => rfl
    | x :: y :: r, nd, hm =>
      have e1 := (hm x).mp (by simp)
      have e2 := (hm y).mp (by simp)
      rw [List.nodup_cons] at nd
      exact absurd (by rw [e1, ← e2]; simp) nd.1
  · intro h
    match ps, h with
    | [p], _ =>
      have e : maskN [p] = 2 ^ p := by simp [maskN]
      rw [e]
      exact ⟨Nat.two_pow_pos p, pow_pred p⟩
theorem full_maskN (n : Nat) : 2 ^ n - 1 = maskN (List.range n) := by
  apply Nat.eq_of_testBit_eq
  intro i
  rw [tb_maskN, Nat.testBit_two_pow_sub_one]
  simp
theorem less_maskN {ps : List Nat} {n : Nat} (h : ∀ p ∈ ps, p < n) : 2 ^ n - 1 - maskN ps = maskN ((List.range n).filter fun i => !decide (i ∈ ps)) := by
  have hl := maskN_lt h
  apply Nat.eq_of_testBit_eq
  intro i
  have e : 2 ^ n - 1 - maskN ps = 2 ^ n - (maskN ps + 1) := by omega
  rw [e, Nat.testBit_two_pow_sub_succ hl, tb_maskN, tb_maskN]
  by_cases h1 : i < n <;> by_cases h2 : i ∈ ps <;> simp [h1, h2]
theorem and_maskN (ps qs : List Nat) : maskN ps &&& maskN qs = maskN (ps.filter fun i => decide (i ∈ qs)) := by
  apply Nat.eq_of_testBit_eq
  intro i
  rw [Nat.testBit_and, tb_maskN, tb_maskN, tb_maskN]
  by_cases h1 : i ∈ ps <;> by_cases h2 : i ∈ qs <;> simp [h1, h2]
theorem or_maskN {ps qs : List Nat} {n : Nat} (h1 : ∀ p ∈ ps, p < n) (h2 : ∀ p ∈ qs, p < n) : maskN ps ||| maskN qs = maskN ((List.range n).filter fun i => decide (i ∈ ps) || decide (i ∈ qs)) := by
  apply Nat.eq_of_testBit_eq
  intro i
  rw [Nat.testBit_or, tb_maskN, tb_maskN, tb_maskN]
  by_cases a : i ∈ ps
  · simp [a, h1 i a]
  · by_cases b : i ∈ qs
    · simp [a, b, h2 i b]
    · simp [a, b]
theorem sub_lt {ps : List Nat} {n : Nat} (h : ps.Sublist (List.range n)) : ∀ p ∈ ps, p < n := fun p hp => List.mem_range.mp (h.subset hp)
theorem sub_nodup {ps : List Nat} {n : Nat} (h : ps.Sublist (List.range n)) : ps.Nodup := h.nodup List.nodup_range
end MP
/-! MPDraw: the numbers that a law draws from its script. -/
namespace MP
open PySem PySem.Spec PyProof.Rows L2
local macro_rules | `(tactic| walk_at "look") => `(tactic| first | assumption | exact g_last | (with_reducible apply g_set; walk_at "look") | ((with_reducible refine g_setn ?h1 ?h2); (case h1 => first | assumption | omega | (apply Ne.symm; assumption)); (case h2 => walk_at "look")) | ((with_reducible refine g_app ?_); walk_at "look") | ((with_reducible refine' Fr.get ?h1 ?h2 ?h3); (case h1 => assumption); (case h2 => first | assumption | omega | (apply Ne.symm; assumption)); (case h3 => walk_at "look")) | ((with_reducible refine' Ch.get ?h1 ?h2 ?h3); (case h1 => assumption); (case h2 => first | assumption | (simp; done) | (simp only [List.mem_cons, List.not_mem_nil, or_false, not_or]; omega)); (case h3 => walk_at "look")))
local macro_rules | `(tactic| walk_at "kn") => `(tactic| first | assumption | omega | (simp; done) | decide)
local macro_rules | `(tactic| walk_at "sz") => `(tactic| first | assumption | (rw [sizeLine_eq]; first | omega | (simp; done) | (simp; omega)))
local macro_rules | `(tactic| walk_at "at") => `(tactic| first | exact rfl | assumption)
local macro_rules | `(tactic| walk_at "mp1") => `(tactic| first
  | with_reducible refine s_cons ?_ | with_reducible refine s_nil ?_ | with_reducible refine s_nm ?_ | with_reducible refine s_ix ?_ | with_reducible refine s_asg ?_ | with_reducible refine s_ex ?_ | with_reducible refine s_iff ?_ | with_reducible refine s_ret ?_ | with_reducible refine s_for ?_
  | ((with_reducible refine' e_var ?h1 ?_); (case h1 => exact rfl)) | with_reducible refine e_int ?_ | with_reducible refine e_bin ?_ | with_reducible refine e_cmp ?_ | with_reducible refine e_ix ?_ | with_reducible refine e_call ?_ | with_reducible refine e_blt ?_ | with_reducible refine e_bl ?_ | with_reducible refine e_and ?_ | with_reducible refine e_or ?_ | with_reducible refine e_not ?_ | with_reducible refine e_ite ?_
  | with_reducible refine es_cons ?_ | with_reducible refine es_nil ?_ | with_reducible refine e_tup ?_ | with_reducible refine e_lst ?_ | with_reducible refine e_meth ?_ | with_reducible refine e_comp ?_ | with_reducible refine e_sl ?_ | with_reducible refine e_neg ?_ | with_reducible refine e_isi ?_ | with_reducible refine e_lrg ?_ | with_reducible refine e_non ?_ | with_reducible refine e_str ?_ | with_reducible refine e_fnv ?_ | with_reducible refine e_orl ?_ | with_reducible refine e_dnew ?_ | with_reducible refine e_dget ?_ | with_reducible refine e_dget2 ?_
  | with_reducible refine o_no ?_ | with_reducible refine o_so ?_ | with_reducible refine i_rng ?_ | with_reducible refine i_seq ?_ | with_reducible refine i_enum ?_ | with_reducible refine if_nil ?_ | with_reducible refine if_cons ?_ | with_reducible refine rg_1 ?_ | with_reducible refine rg_2 ?_
  | with_reducible refine b_add ?_ | with_reducible refine b_sub ?_ | ((with_reducible refine' b_mul ?h1 ?_); (case h1 => first | assumption | mul_fits)) | ((with_reducible refine' b_fdiv ?h1 ?h2 ?_); (case h1 => walk_at "kn"); (case h2 => first | assumption | decide)) | ((with_reducible refine' b_mod ?h1 ?_); (case h1 => walk_at "kn")) | ((with_reducible refine' b_pow ?h1 ?_); (case h1 => first | assumption | exact ⟨by decide, by decide, by decide⟩)) | ((with_reducible refine' b_shr ?h1 ?_); (case h1 => walk_at "kn")) | ((with_reducible refine' b_shl ?h1 ?_); (case h1 => assumption)) | with_reducible refine b_and ?_ | with_reducible refine b_or ?_ | with_reducible refine b_xor ?_
  | with_reducible refine c_lt ?_ | with_reducible refine c_le ?_ | with_reducible refine c_gt ?_ | with_reducible refine c_ge ?_ | with_reducible refine c_eqi ?_ | with_reducible refine c_nei ?_ | with_reducible refine c_eqb ?_ | with_reducible refine c_neb ?_ | with_reducible refine c_eqs ?_ | with_reducible refine c_nes ?_
  | with_reducible refine t_bl ?_ | with_reducible refine t_int ?_ | with_reducible refine t_tup ?_ | with_reducible refine t_non ?_
  | ((with_reducible refine' x_ref ?h1 ?h2 ?_); (case h1 => walk_at "look"); (case h2 => walk_at "at")) | ((with_reducible refine' x_tup ?h1 ?_); (case h1 => walk_at "at")) | ((with_reducible refine' x_klst ?h1 ?_); (case h1 => walk_at "at"))
  | ((with_reducible refine' set_ref ?h1 ?h2 ?_); (case h1 => walk_at "look"); (case h2 => walk_at "at"))
  | ((with_reducible refine' f_lenr ?h1 ?_); (case h1 => walk_at "look")) | with_reducible refine f_lent ?_ | with_reducible refine f_lenk ?_ | with_reducible refine f_int ?_ | ((with_reducible refine' f_listr ?h1 ?_); (case h1 => walk_at "look")) | with_reducible refine f_listt ?_ | with_reducible refine f_listk ?_ | ((with_reducible refine' f_tupr ?h1 ?_); (case h1 => walk_at "look")) | with_reducible refine f_tupt ?_ | with_reducible refine f_max ?_ | with_reducible refine f_min ?_
  | with_reducible refine sl_klst ?_ | ((with_reducible refine' sl_ref ?h1 ?_); (case h1 => walk_at "look")) | with_reducible refine sl_tup ?_
  | ((with_reducible refine' m_app ?h1 ?h2 ?_); (case h1 => walk_at "look"); (case h2 => walk_at "sz")) | ((with_reducible refine' m_ext ?h1 ?h2 ?h3 ?_); (case h1 => walk_at "look"); (case h2 => walk_at "look"); (case h3 => walk_at "sz"))
  | with_reducible refine k_t ?_ | with_reducible refine k_f ?_ | with_reducible refine k_nt ?_ | with_reducible refine k_nf ?_
  | ((with_reducible refine' d_t ?h1 ?_); (case h1 => first | assumption | omega)) | ((with_reducible refine' d_f ?h1 ?_); (case h1 => first | assumption | omega)) | ((with_reducible refine' d_nt ?h1 ?_); (case h1 => first | assumption | omega)) | ((with_reducible refine' d_nf ?h1 ?_); (case h1 => first | assumption | omega))
  | ((with_reducible refine' And.intro (r_lst ?h1 ?h2) ?_); (case h1 => decide); (case h2 => walk_at "look")) | (with_reducible refine And.intro r_int ?_)
  | ((with_reducible refine And.intro ?h1 ?_); (case h1 => (with_reducible show List.length _ ≤ sizeLine); walk_at "sz"))
  | dsimp only
  | dsimp only [isTy_int, isTy_bl, isTy_str, isTy_non, isTy_tup])
local macro_rules | `(tactic| walk_at "mp") => `(tactic| repeat walk_at "mp1")

/-- only a may have changed; more may stand behind -/
structure Fr (a : Nat) (S S' : Sto) : Prop where
  le : S.length ≤ S'.length
  eq : ∀ i, i < S.length → i ≠ a → S'[i]? = S[i]?
theorem Fr.refl {a : Nat} {S : Sto} : Fr a S S := ⟨Nat.le_refl _, fun _ _ _ => rfl⟩
theorem Fr.trans {a : Nat} {S S1 S2 : Sto} (h : Fr a S S1) (h' : Fr a S1 S2) : Fr a S S2 := ⟨Nat.le_trans h.le h'.le, fun i hi n => (h'.eq i (Nat.lt_of_lt_of_le hi h.le) n).trans (h.eq i hi n)⟩
theorem Fr.get {a i : Nat} {S S' : Sto} {o : O} (h : Fr a S S') (n : i ≠ a) (e : S[i]? = some o) : S'[i]? = some o := (h.eq i (g_lt e) n).trans e
theorem Fr.app {a : Nat} {S : Sto} {l : List O} : Fr a S (S ++ l) := ⟨by simp, fun i hi _ => by rw [List.getElem?_append_left hi]⟩
theorem Fr.set {a : Nat} {S : Sto} {o : O} : Fr a S (S.set a o) := ⟨by simp, fun i hi n => by rw [List.getElem?_set_ne (Ne.symm n)]⟩
/-- a cell that is younger than S -/
theorem Fr.setn {a i : Nat} {S S' : Sto} {o : O} (h : Fr a S S') (n : S.length ≤ i) : Fr a S (S'.set i o) := ⟨by simpa using h.le, fun j hj m => by rw [List.getElem?_set_ne (by omega)]; exact h.eq j hj m⟩
theorem Fr.appn {a : Nat} {S S' : Sto} {l : List O} (h : Fr a S S') : Fr a S (S' ++ l) := h.trans Fr.app

/-- only what is in X may have changed; more may stand behind -/
structure Ch (X : List Nat) (S S' : Sto) : Prop where
  le : S.length ≤ S'.length
  eq : ∀ i, i < S.length → i ∉ X → S'[i]? = S[i]?
section
variable {X Y : List Nat} {S S' S1 : Sto}
theorem Ch.refl : Ch X S S := ⟨Nat.le_refl _, fun _ _ _ => rfl⟩
theorem Ch.trans (h : Ch X S S1) (h' : Ch X S1 S') : Ch X S S' := ⟨Nat.le_trans h.le h'.le, fun i hi n => (h'.eq i (Nat.lt_of_lt_of_le hi h.le) n).trans (h.eq i hi n)⟩
theorem Ch.get {i : Nat} {o : O} (h : Ch X S S') (n : i ∉ X) (e : S[i]? = some o) : S'[i]? = some o := (h.eq i (g_lt e) n).trans e
theorem Ch.app {l : List O} (h : Ch X S S') : Ch X S (S' ++ l) := h.trans ⟨by simp, fun i hi _ => by rw [List.getElem?_append_left hi]⟩
theorem Ch.set {i : Nat} {o : O} (h : Ch X S S') (n : i ∈ X) : Ch X S (S'.set i o) := h.trans ⟨by simp, fun j hj m => by rw [List.getElem?_set_ne (show i ≠ j from fun z => m (z ▸ n))]⟩
theorem Ch.setn {i : Nat} {o : O} (h : Ch X S S') (n : S.length ≤ i) : Ch X S (S'.set i o) := ⟨by simpa using h.le, fun j hj m => by rw [List.getElem?_set_ne (by omega)]; exact h.eq j hj m⟩
theorem Ch.mono (h : Ch X S S') (m : ∀ i ∈ X, i ∈ Y) : Ch Y S S' := ⟨h.le, fun i hi n => h.eq i hi fun z => n (m i z)⟩
theorem Ch.of {a : Nat} (h : Fr a S S') (m : a ∈ X) : Ch X S S' := ⟨h.le, fun i hi n => h.eq i hi fun z => n (z ▸ m)⟩
end
/-- the drawing list at a, the script's copy at b -/
structure DS (S : Sto) (a b : Nat) : Prop where
  ne : a ≠ b
  ex : ∃ (x y z w : Int) (ns : List Int), S[a]? = some (.lst [.int x, .int y, .int z, .int w, .ref b]) ∧ S[b]? = some (.lst (ns.map .int)) ∧ (0 ≤ x ∧ x < 2147483647) ∧ 0 ≤ y ∧ 0 ≤ z ∧ 0 ≤ w
theorem DS.keep {S S' : Sto} {a b : Nat} (h : DS S a b) (e1 : S'[a]? = S[a]?) (e2 : S'[b]? = S[b]?) : DS S' a b := by
  obtain ⟨n, x, y, z, w, ns, h1, h2, h3⟩ := h
  exact ⟨n, x, y, z, w, ns, e1.trans h1, e2.trans h2, h3⟩
theorem DS.lta {S : Sto} {a b : Nat} (h : DS S a b) : a < S.length := by
  obtain ⟨n, x, y, z, w, ns, h1, h2, h3⟩ := h
  exact g_lt h1
theorem DS.ltb {S : Sto} {a b : Nat} (h : DS S a b) : b < S.length := by
  obtain ⟨n, x, y, z, w, ns, h1, h2, h3⟩ := h
  exact g_lt h2
theorem DS.ch {S S' : Sto} {a b : Nat} {X : List Nat} (h : DS S a b) (e : Ch X S S') (n : a ∉ X) (m : b ∉ X) : DS S' a b := h.keep (e.eq a h.lta n) (e.eq b h.ltb m)
theorem DS.app {S : Sto} {a b : Nat} {l : List O} (h : DS S a b) : DS (S ++ l) a b := h.keep (List.getElem?_append_left h.lta) (List.getElem?_append_left h.ltb)
theorem DS.setn {S : Sto} {a b i : Nat} {o : O} (h : DS S a b) (n : i ≠ a) (m : i ≠ b) : DS (S.set i o) a b := h.keep (List.getElem?_set_ne n) (List.getElem?_set_ne m)

def bDraw : MSs :=
  (.cons (.iff (.cmp .lt (.var 1) (.int 2))
    (.cons (.ret (.int 0)) .nil)
    .nil) (.cons (.iff (.and (.cmp .eq (.ix (.var 0) (.int 1)) (.int 0)) (.cmp .lt (.ix (.var 0) (.int 2)) (.blt .len (.cons (.ix (.var 0) (.int 4)) .nil))))
    (.cons (.asg (.tg (.nm 2)) (.ix (.ix (.var 0) (.int 4)) (.ix (.var 0) (.int 2)))) (.cons (.asg (.ix (.var 0) (.int 2)) (.bin .add (.ix (.var 0) (.int 2)) (.int 1))) (.cons (.asg (.tg (.nm 3)) (.ite (.cmp .ge (.var 2) (.int 0)) (.var 2) (.neg (.var 2)))) (.cons (.iff (.cmp .ge (.var 3) (.bin .pow (.int 10) (.int 18)))
    (.cons (.asg (.ix (.var 0) (.int 1)) (.var 3)) .nil)
    (.cons (.asg (.ix (.var 0) (.int 0)) (.bin .mod (.blt .int (.cons (.bin .add (.bin .add (.bin .mul (.ix (.var 0) (.int 0)) (.int 69621)) (.bin .mul (.var 3) (.int 48271))) (.int 12345)) .nil)) (.int 2147483647))) .nil)) .nil))))
    .nil) (.cons (.iff (.cmp .gt (.ix (.var 0) (.int 1)) (.int 0))
    (.cons (.asg (.tg (.nm 4)) (.bin .mod (.blt .int (.cons (.ix (.var 0) (.int 1)) .nil)) (.var 1))) (.cons (.asg (.ix (.var 0) (.int 1)) (.bin .fdiv (.ix (.var 0) (.int 1)) (.var 1))) (.cons (.ret (.var 4)) .nil)))
    .nil) (.cons (.asg (.ix (.var 0) (.int 3)) (.bin .add (.ix (.var 0) (.int 3)) (.int 1))) (.cons (.asg (.ix (.var 0) (.int 0)) (.bin .mod (.blt .int (.cons (.bin .add (.bin .add (.bin .mul (.ix (.var 0) (.int 0)) (.int 48271)) (.bin .mul (.ix (.var 0) (.int 3)) (.int 7919))) (.int 11)) .nil)) (.int 2147483647))) (.cons (.asg (.tg (.nm 5)) (.bin .mod (.blt .int (.cons (.bin .add (.bin .mul (.ix (.var 0) (.int 0)) (.ix (.var 0) (.int 0))) (.ix (.var 0) (.int 3))) .nil)) (.int 2147483629))) (.cons (.ret (.bin .mod (.blt .int (.cons (.bin .fdiv (.var 5) (.int 7)) .nil)) (.var 1))) .nil)))))))
theorem atI_ints {ns : List Int} {z : Int} (h0 : 0 ≤ z) (h1 : z < (ns.length : Int)) : ∃ v, atI (ns.map D.int) z = some (D.int v) := by
  obtain ⟨n, rfl⟩ := Int.eq_ofNat_of_zero_le h0
  have hn : n < ns.length := by omega
  exact ⟨ns[n], atI_nat (by rw [List.getElem?_map, List.getElem?_eq_getElem hn]; rfl)⟩
theorem mul_small {i j : Int} (h0 : 0 ≤ i) (h1 : i < 2147483647) : IntMulOk i j := CMul.ok (.inl ⟨by omega, by omega⟩)
theorem log2_small {j : Int} (h : j.natAbs < 2 ^ 9000) : j.natAbs.log2 < 9000 := PySem.Flt.log2_lt_of (by decide) h

def dTail : MSs := (match bDraw with
  | .cons _ (.cons _ r) => r
  | _ => .nil)
set_option maxHeartbeats 4000000 in
theorem draw_tail {c : CallT} {a b : Nat} {x y z w many : Int} {ns : List Int} {S : Sto} {Q : KD} {E : Ex → Sto → Prop} {s2 s3 : Option D} (ha : S[a]? = some (.lst [.int x, .int y, .int z, .int w, .ref b])) (hb : S[b]? = some (.lst (ns.map .int))) (hm : 2 ≤ many) (hM : many.natAbs.log2 < 9000) (hab : a ≠ b) (hx : 0 ≤ x ∧ x < 2147483647) (hy : 0 ≤ y) (hz : 0 ≤ z) (hw : 0 ≤ w)
    (q : ∀ r x' y' w', 0 ≤ r → r < many → (0 ≤ x' ∧ x' < 2147483647) → 0 ≤ y' → 0 ≤ w' → Q (.int r) (S.set a (.lst [.int x', .int y', .int z, .int w', .ref b]))) :
    wpSs c dTail ⟨fun _ S' => Q .non S', Q, fun _ _ => False, fun _ _ => False, fun x _ S' => E x S'⟩ [some (.ref a), some (.int many), s2, s3, none, none] S := by
  have hm0 : 0 < many := by omega
  have r1 := Int.emod_nonneg y (show many ≠ 0 by omega)
  have r2 := Int.emod_lt_of_pos y hm0
  have lt : a < S.length := g_lt ha
  unfold dTail bDraw
  dsimp only
  walk_at "mp"
  refine d_2 (fun hy0 => ?_) fun hy0 => ?_
  · walk_at "mp"
    refine q (y % many) x (y / many) w r1 r2 hx (Int.ediv_nonneg hy (by omega)) hw
  · have b1 := Int.emod_nonneg (x * 48271 + (w + 1) * 7919 + 11) (show (2147483647 : Int) ≠ 0 by decide)
    have b2 := Int.emod_lt_of_pos (x * 48271 + (w + 1) * 7919 + 11) (show (0 : Int) < 2147483647 by decide)
    have ms : IntMulOk ((x * 48271 + (w + 1) * 7919 + 11) % 2147483647) ((x * 48271 + (w + 1) * 7919 + 11) % 2147483647) := mul_small b1 b2
    walk_at "mp"
    rw [List.set_set]
    exact q _ _ y (w + 1) (Int.emod_nonneg _ (by omega)) (Int.emod_lt_of_pos _ hm0) ⟨b1, b2⟩ hy (by omega)

set_option maxHeartbeats 4000000 in
theorem draw_ok {c : CallT} {a b : Nat} {many : Int} {S : Sto} {Q : KD} {E : Ex → Sto → Prop} (h : DS S a b) (hM : many.natAbs.log2 < 9000)
    (q : ∀ r S', 0 ≤ r → (r = 0 ∨ r < many) → DS S' a b → Fr a S S' → S'.length = S.length → Q (.int r) S') :
    wpSs c bDraw ⟨fun _ S' => Q .non S', Q, fun _ _ => False, fun _ _ => False, fun x _ S' => E x S'⟩ [some (.ref a), some (.int many), none, none, none, none] S := by
  have h0 := h
  obtain ⟨hab, x, y, z, w, ns, ha, hb, hx, hy, hz, hw⟩ := h
  have lt : a < S.length := g_lt ha
  show wpSs c (.cons _ (.cons _ dTail)) ⟨fun _ S' => Q .non S', Q, fun _ _ => False, fun _ _ => False, fun x _ S' => E x S'⟩ [some (.ref a), some (.int many), none, none, none, none] S
  refine s_cons (s_iff (e_cmp (e_var (by rfl) (e_int (c_lt (t_bl (d_2 (fun m2 => ?_) fun m2 => ?_)))))))
  · walk_at "mp"
    exact q 0 S (by omega) (.inl rfl) h0 Fr.refl rfl
  have hm : 2 ≤ many := by omega
  refine s_nil ?_
  -- behind the second statement
  have tail : ∀ (x y z : Int) (s2 s3 : Option D) (S' : Sto), (0 ≤ x ∧ x < 2147483647) → 0 ≤ y → 0 ≤ z → S' = S.set a (.lst [.int x, .int y, .int z, .int w, .ref b]) → wpSs c dTail ⟨fun _ S' => Q .non S', Q, fun _ _ => False, fun _ _ => False, fun x _ S' => E x S'⟩ [some (.ref a), some (.int many), s2, s3, none, none] S' := by
    intro x y z s2 s3 S' hx hy hz e
    subst e
    refine draw_tail (g_set ha) (g_setn hab hb) hm hM hab hx hy hz hw fun r x' y' w' r0 r1 hx' hy' hw' => ?_
    rw [List.set_set]
    exact q r _ r0 (.inr r1) ⟨hab, x', y', z, w', ns, g_set ha, g_setn hab hb, hx', hy', hz, hw'⟩ Fr.set (by simp)
  have same : S = S.set a (.lst [.int x, .int y, .int z, .int w, .ref b]) := by
    have e : S[a] = O.lst [.int x, .int y, .int z, .int w, .ref b] := by
      have := List.getElem?_eq_getElem lt
      rw [ha] at this
      exact (Option.some.inj this).symm
    rw [← e, List.set_getElem_self]
  refine s_cons (s_iff ?_)
  walk_at "mp"
  refine d_2 (fun hy0 => ?_) fun hy0 => ?_
  · walk_at "mp"
    refine d_2 (fun hzl => ?_) fun hzl => ?_
    · obtain ⟨v, hv⟩ := atI_ints hz (by simpa using hzl)
      walk_at "mp"
      refine d_2 (fun v0 => ?_) fun v0 => ?_
      · walk_at "mp"
        refine d_2 (fun v1 => ?_) fun v1 => ?_
        · walk_at "mp"
          rw [List.set_set]
          exact tail x v (z + 1) _ _ _ hx v0 (by omega) rfl
        · have ms : IntMulOk v 48271 := IntMulOk.of_right (by decide)
          walk_at "mp"
          rw [List.set_set]
          exact tail _ y (z + 1) _ _ _ ⟨Int.emod_nonneg _ (by decide), Int.emod_lt_of_pos _ (by decide)⟩ hy (by omega) rfl
      · walk_at "mp"
        refine d_2 (fun v1 => ?_) fun v1 => ?_
        · walk_at "mp"
          rw [List.set_set]
          exact tail x (-v) (z + 1) _ _ _ hx (by omega) (by omega) rfl
        · have ms : IntMulOk (-v) 48271 := IntMulOk.of_right (by decide)
          walk_at "mp"
          rw [List.set_set]
          exact tail _ y (z + 1) _ _ _ ⟨Int.emod_nonneg _ (by decide), Int.emod_lt_of_pos _ (by decide)⟩ hy (by omega) rfl
    · walk_at "mp"
      exact tail x y z _ _ _ hx hy hz same
  · walk_at "mp"
    exact tail x y z _ _ _ hx hy hz same
end MP
/-! MPLib: what many laws call. -/
namespace MP
open PySem PySem.Spec PyProof.Rows L2
local macro_rules | `(tactic| walk_at "look") => `(tactic| first | assumption | exact g_last | (with_reducible apply g_set; walk_at "look") | ((with_reducible refine g_setn ?h1 ?h2); (case h1 => first | assumption | omega | (apply Ne.symm; assumption)); (case h2 => walk_at "look")) | ((with_reducible refine g_app ?_); walk_at "look") | ((with_reducible refine' Fr.get ?h1 ?h2 ?h3); (case h1 => assumption); (case h2 => first | assumption | omega | (apply Ne.symm; assumption)); (case h3 => walk_at "look")) | ((with_reducible refine' Ch.get ?h1 ?h2 ?h3); (case h1 => assumption); (case h2 => first | assumption | (simp; done) | (simp only [List.mem_cons, List.not_mem_nil, or_false, not_or]; omega)); (case h3 => walk_at "look")))
local macro_rules | `(tactic| walk_at "kn") => `(tactic| first | assumption | omega | (simp; done) | decide)
local macro_rules | `(tactic| walk_at "sz") => `(tactic| first | assumption | (rw [sizeLine_eq]; first | omega | (simp; done) | (simp; omega)))
local macro_rules | `(tactic| walk_at "at") => `(tactic| first | exact rfl | assumption)
local macro_rules | `(tactic| walk_at "mp1") => `(tactic| first
  | with_reducible refine s_cons ?_ | with_reducible refine s_nil ?_ | with_reducible refine s_nm ?_ | with_reducible refine s_ix ?_ | with_reducible refine s_asg ?_ | with_reducible refine s_ex ?_ | with_reducible refine s_iff ?_ | with_reducible refine s_ret ?_ | with_reducible refine s_for ?_
  | ((with_reducible refine' e_var ?h1 ?_); (case h1 => exact rfl)) | with_reducible refine e_int ?_ | with_reducible refine e_bin ?_ | with_reducible refine e_cmp ?_ | with_reducible refine e_ix ?_ | with_reducible refine e_call ?_ | with_reducible refine e_blt ?_ | with_reducible refine e_bl ?_ | with_reducible refine e_and ?_ | with_reducible refine e_or ?_ | with_reducible refine e_not ?_ | with_reducible refine e_ite ?_
  | with_reducible refine es_cons ?_ | with_reducible refine es_nil ?_ | with_reducible refine e_tup ?_ | with_reducible refine e_lst ?_ | with_reducible refine e_meth ?_ | with_reducible refine e_comp ?_ | with_reducible refine e_sl ?_ | with_reducible refine e_neg ?_ | with_reducible refine e_isi ?_ | with_reducible refine e_lrg ?_ | with_reducible refine e_non ?_ | with_reducible refine e_str ?_ | with_reducible refine e_fnv ?_ | with_reducible refine e_orl ?_ | with_reducible refine e_dnew ?_ | with_reducible refine e_dget ?_ | with_reducible refine e_dget2 ?_
  | with_reducible refine o_no ?_ | with_reducible refine o_so ?_ | with_reducible refine i_rng ?_ | with_reducible refine i_seq ?_ | with_reducible refine i_enum ?_ | with_reducible refine if_nil ?_ | with_reducible refine if_cons ?_ | with_reducible refine rg_1 ?_ | with_reducible refine rg_2 ?_
  | with_reducible refine b_add ?_ | with_reducible refine b_sub ?_ | ((with_reducible refine' b_mul ?h1 ?_); (case h1 => first | assumption | mul_fits)) | ((with_reducible refine' b_fdiv ?h1 ?h2 ?_); (case h1 => walk_at "kn"); (case h2 => first | assumption | decide)) | ((with_reducible refine' b_mod ?h1 ?_); (case h1 => walk_at "kn")) | ((with_reducible refine' b_pow ?h1 ?_); (case h1 => first | assumption | exact ⟨by decide, by decide, by decide⟩)) | ((with_reducible refine' b_shr ?h1 ?_); (case h1 => walk_at "kn")) | ((with_reducible refine' b_shl ?h1 ?_); (case h1 => assumption)) | with_reducible refine b_and ?_ | with_reducible refine b_or ?_ | with_reducible refine b_xor ?_
  | with_reducible refine c_lt ?_ | with_reducible refine c_le ?_ | with_reducible refine c_gt ?_ | with_reducible refine c_ge ?_ | with_reducible refine c_eqi ?_ | with_reducible refine c_nei ?_ | with_reducible refine c_eqb ?_ | with_reducible refine c_neb ?_ | with_reducible refine c_eqs ?_ | with_reducible refine c_nes ?_
  | with_reducible refine t_bl ?_ | with_reducible refine t_int ?_ | with_reducible refine t_tup ?_ | with_reducible refine t_non ?_
  | ((with_reducible refine' x_ref ?h1 ?h2 ?_); (case h1 => walk_at "look"); (case h2 => walk_at "at")) | ((with_reducible refine' x_tup ?h1 ?_); (case h1 => walk_at "at")) | ((with_reducible refine' x_klst ?h1 ?_); (case h1 => walk_at "at"))
  | ((with_reducible refine' set_ref ?h1 ?h2 ?_); (case h1 => walk_at "look"); (case h2 => walk_at "at"))
  | ((with_reducible refine' f_lenr ?h1 ?_); (case h1 => walk_at "look")) | with_reducible refine f_lent ?_ | with_reducible refine f_lenk ?_ | with_reducible refine f_int ?_ | ((with_reducible refine' f_listr ?h1 ?_); (case h1 => walk_at "look")) | with_reducible refine f_listt ?_ | with_reducible refine f_listk ?_ | ((with_reducible refine' f_tupr ?h1 ?_); (case h1 => walk_at "look")) | with_reducible refine f_tupt ?_ | with_reducible refine f_max ?_ | with_reducible refine f_min ?_
  | with_reducible refine sl_klst ?_ | ((with_reducible refine' sl_ref ?h1 ?_); (case h1 => walk_at "look")) | with_reducible refine sl_tup ?_
  | ((with_reducible refine' m_app ?h1 ?h2 ?_); (case h1 => walk_at "look"); (case h2 => walk_at "sz")) | ((with_reducible refine' m_ext ?h1 ?h2 ?h3 ?_); (case h1 => walk_at "look"); (case h2 => walk_at "look"); (case h3 => walk_at "sz"))
  | with_reducible refine k_t ?_ | with_reducible refine k_f ?_ | with_reducible refine k_nt ?_ | with_reducible refine k_nf ?_
  | ((with_reducible refine' d_t ?h1 ?_); (case h1 => first | assumption | omega)) | ((with_reducible refine' d_f ?h1 ?_); (case h1 => first | assumption | omega)) | ((with_reducible refine' d_nt ?h1 ?_); (case h1 => first | assumption | omega)) | ((with_reducible refine' d_nf ?h1 ?_); (case h1 => first | assumption | omega))
  | ((with_reducible refine' And.intro (r_lst ?h1 ?h2) ?_); (case h1 => decide); (case h2 => walk_at "look")) | (with_reducible refine And.intro r_int ?_)
  | ((with_reducible refine And.intro ?h1 ?_); (case h1 => (with_reducible show List.length _ ≤ sizeLine); walk_at "sz"))
  | dsimp only
  | dsimp only [isTy_int, isTy_bl, isTy_str, isTy_non, isTy_tup])
local macro_rules | `(tactic| walk_at "mp") => `(tactic| repeat walk_at "mp1")

/-- whole numbers as values -/
def nl (ps : List Nat) : List D := ps.map fun (p : Nat) => D.int (p : Int)
theorem nl_len (ps : List Nat) : (nl ps).length = ps.length := List.length_map ..
theorem nl_get {ps : List Nat} {i : Nat} {x : D} (h : (nl ps)[i]? = some x) : ∃ p, ps[i]? = some p ∧ x = .int (p : Int) := by
  unfold nl at h
  rw [List.getElem?_map] at h
  obtain ⟨p, h1, h2⟩ := Option.map_eq_some_iff.mp h
  exact ⟨p, h1, h2.symm⟩
theorem nl_at {ps : List Nat} {i p : Nat} (h : ps[i]? = some p) : (nl ps)[i]? = some (.int (p : Int)) := by unfold nl; rw [List.getElem?_map, h]; rfl
theorem nl_lt {ps : List Nat} {i : Nat} (h : i < ps.length) : (nl ps)[i]? = some (.int (ps[i] : Int)) := nl_at (List.getElem?_eq_getElem h)
theorem nl_flat : ∀ ps : List Nat, (nl ps).all flatD = true
  | [] => rfl
  | p :: r => by
    show (flatD (.int (p : Int)) && (nl r).all flatD) = true
    rw [nl_flat r]
    rfl
theorem nl_in (x : Nat) : ∀ ps : List Nat, inF (.int (x : Int)) (nl ps) = decide (x ∈ ps)
  | [] => by simp [inF, nl]
  | p :: r => by
    have ih := nl_in x r
    unfold inF at *
    show (eqF (.int (p : Int)) (.int (x : Int)) || (nl r).any fun y => eqF y (.int (x : Int))) = _
    rw [ih]
    by_cases h : p = x
    · subst h; simp [eqF]
    · have : ((p : Int) == (x : Int)) = false := by rw [beq_eq_false_iff_ne]; omega
      simp [eqF, this, Ne.symm h]
theorem nl_pds (S : Sto) : ∀ ps : List Nat, Pds S (nl ps) (ps.map fun (p : Nat) => PyData.int (p : Int))
  | [] => .nil
  | p :: r => .cons (.int _) (nl_pds S r)
theorem can_ints : ∀ ns : List Int, PyData.canLayAll0 (ns.map PyData.int) = true
  | [] => by simp [PyData.canLayAll0]
  | x :: r => by simp [PyData.canLayAll0, PyData.canLay0, can_ints r]
theorem depth_ints : ∀ ns : List Int, PyData.depthAll (ns.map PyData.int) = 0 ∨ PyData.depthAll (ns.map PyData.int) ≤ 1
  | [] => by simp [PyData.depthAll]
  | x :: r => by
    have := depth_ints r
    right
    simp [PyData.depthAll, PyData.depth]
    omega
theorem eqv_ints : ∀ xs ys : List Nat, PyData.eqvAll (xs.map fun (p : Nat) => PyData.int (p : Int)) (ys.map fun (p : Nat) => PyData.int (p : Int)) = decide (xs = ys)
  | [], [] => by simp [PyData.eqvAll]
  | [], y :: r => by simp [PyData.eqvAll]
  | x :: r, [] => by simp [PyData.eqvAll]
  | x :: r, y :: q => by
    show (PyData.eqv (.int (x : Int)) (.int (y : Int)) && PyData.eqvAll (r.map fun (p : Nat) => PyData.int (p : Int)) (q.map fun (p : Nat) => PyData.int (p : Int))) = _
    rw [eqv_ints r q]
    show (((x : Int) == (y : Int)) && decide (r = q)) = _
    by_cases h : x = y
    · subst h; simp
    · have : ((x : Int) == (y : Int)) = false := by rw [beq_eq_false_iff_ne]; omega
      simp [this, h]
theorem shaped_ints (ps : List Nat) : SeqAt.shaped (.list (ps.map fun (p : Nat) => PyData.int (p : Int))) = true := by
  have e : (ps.map fun (p : Nat) => PyData.int (p : Int)) = (ps.map fun (p : Nat) => (p : Int)).map PyData.int := by rw [List.map_map]; rfl
  have h1 := can_ints (ps.map fun (p : Nat) => (p : Int))
  have h2 := depth_ints (ps.map fun (p : Nat) => (p : Int))
  rw [e]
  unfold SeqAt.shaped
  rw [Bool.and_eq_true]
  refine ⟨?_, decide_eq_true ?_⟩
  · simp only [PyData.canLay0]; exact h1
  · simp only [PyData.depth]; omega

/-- a comprehension whose turns leave the store alone -/
theorem comp_pure {gs : List (Nat × List D)} {body : D → Sto → (Option D → Sto → Prop) → Prop} (f : D → Option D) {S : Sto} (g : Gd gs S) : ∀ {xs : List D} {R : List D → Sto → Prop}, (∀ x ∈ xs, ∀ K : Option D → Sto → Prop, K (f x) S → body x S K) → R (xs.filterMap f) S → wpComp gs body xs S R
  | [], R, _, h => ⟨g, h⟩
  | x :: r, R, hb, h => by
    refine ⟨g, hb x List.mem_cons_self _ ?_⟩
    refine comp_pure f g (fun y hy => hb y (List.mem_cons_of_mem _ hy)) ?_
    rw [List.filterMap_cons] at h
    cases e : f x with
    | none => rw [e] at h; exact h
    | some y => rw [e] at h; exact h
theorem nl_filterMap (ps : List Nat) (g : Nat → Bool) (f : D → Option D) (hf : ∀ p ∈ ps, f (.int (p : Int)) = if g p = true then some (.int (p : Int)) else none) : (nl ps).filterMap f = nl (ps.filter g) := by
  induction ps with
  | nil => rfl
  | cons p r ih =>
    have e := hf p List.mem_cons_self
    have ih := ih fun q hq => hf q (List.mem_cons_of_mem _ hq)
    show (D.int (p : Int) :: nl r).filterMap f = _
    rw [List.filterMap_cons, e, List.filter_cons]
    by_cases h : g p = true
    · rw [if_pos h, if_pos h]
      show D.int (p : Int) :: _ = D.int (p : Int) :: nl (r.filter g)
      rw [ih]
    · rw [if_neg h, if_neg h]
      exact ih
/-- a comprehension that keeps some of a list of numbers, as they are -/
theorem comp_filt {c : CallT} {vs : List Nat} {j : Nat} {ifs : MXs} {elt : MX} {σ : Env} {gs : List (Nat × List D)} (g : Nat → Bool) {S : Sto} (hg : Gd gs S) : ∀ {ps : List Nat} {R : List D → Sto → Prop}, (∀ p ∈ ps, ∀ K : Option D → Sto → Prop, (g p = true → K (some (.int (p : Nat))) S) → (g p = false → K none S) → wpIfs c ifs (fun _ _ => False) ((wipeE σ vs).set j (some (.int (p : Nat)))) S fun k S3 => if k = true then wpE c elt (fun _ _ => False) ((wipeE σ vs).set j (some (.int (p : Nat)))) S3 fun y S4 => K (some y) S4 else K none S3) → R (nl (ps.filter g)) S → wpComp gs (cmpB c vs (.nm j) ifs elt σ) (nl ps) S R := by
  intro ps R hb h
  rw [← nl_filterMap ps g (fun x => match x with
    | .int i => if g i.toNat = true then some (.int i) else none
    | _ => none) (fun p _ => by show (if g ((p : Int)).toNat = true then some (D.int (p : Int)) else none) = _; rw [Int.toNat_natCast])] at h
  refine comp_pure _ hg (fun x hx K hK => ?_) h
  obtain ⟨i, hi⟩ := List.mem_iff_getElem?.mp hx
  obtain ⟨p, hp, rfl⟩ := nl_get hi
  have e : (if g ((p : Int)).toNat = true then some (D.int (p : Int)) else none) = if g p = true then some (D.int (p : Int)) else none := by rw [Int.toNat_natCast]
  replace hK : K (if g ((p : Int)).toNat = true then some (D.int (p : Int)) else none) S := hK
  rw [e] at hK
  refine hb p (List.mem_of_getElem? hp) K (fun y => ?_) fun y => ?_
  · rw [if_pos y] at hK; exact hK
  · rw [y, if_neg Bool.false_ne_true] at hK; exact hK
theorem rgD_nl (n : Nat) : rgD 0 (n : Int) = nl (List.range n) := by
  unfold rgD nl
  simp

/-- what the drawing def is worth -/
def DrawSpec (c : CallT) (fd : Nat) : Prop := ∀ (a b : Nat) (many : Int) (S : Sto) (Q : KD) (E : Ex → Sto → Prop), DS S a b → many.natAbs.log2 < 9000 →
  (∀ r S', 0 ≤ r → (r = 0 ∨ r < many) → DS S' a b → Fr a S S' → S'.length = S.length → Q (.int r) S') → c fd [.ref a, .int many] S Q E
theorem log2_nat {n : Nat} (h : n < 2 ^ 64) : ((n : Int)).natAbs.log2 < 9000 := log2_small (Nat.lt_of_lt_of_le (m := 2 ^ 64) (by rw [Int.natAbs_natCast]; exact h) (Nat.pow_le_pow_right (by decide) (by decide)))

def bShuf (fd : Nat) : MSs :=
  (.cons (.asg (.tg (.nm 2)) (.blt .list (.cons (.var 1) .nil))) (.cons (.asg (.tg (.nm 3)) (.lst .nil)) (.cons (.for_ (.nm 4) (.rng (.cons (.blt .len (.cons (.var 1) .nil)) .nil))
    (.cons (.ex (.meth .append (.var 3) (.cons (.meth .popAt (.var 2) (.cons (.call fd (.cons (.var 0) (.cons (.blt .len (.cons (.var 2) .nil)) .nil))) .nil)) .nil))) .nil)) (.cons (.ret (.var 3)) .nil))))
theorem perm_erase {α : Type} : ∀ {l : List α} {k : Nat} {y : α}, l[k]? = some y → (y :: l.eraseIdx k).Perm l
  | [], k, y, h => by simp at h
  | x :: r, 0, y, h => by
    have e : x = y := by simpa using h
    rw [e]
    exact List.Perm.refl _
  | x :: r, k + 1, y, h => by
    have ih := perm_erase (l := r) (k := k) (y := y) (by simpa using h)
    rw [List.eraseIdx_cons_succ]
    exact (List.Perm.swap x y _).trans (ih.cons x)
theorem perm_pop {xs left found : List D} {k : Nat} {y : D} (h : (left ++ found).Perm xs) (e : left[k]? = some y) : (left.eraseIdx k ++ (found ++ [y])).Perm xs := by
  refine List.Perm.trans ?_ h
  have p := perm_erase e
  have h1 : (left.eraseIdx k ++ (found ++ [y])).Perm (left.eraseIdx k ++ ([y] ++ found)) := List.Perm.append_left _ List.perm_append_comm
  have h2 : (left.eraseIdx k ++ [y] ++ found).Perm (left ++ found) := List.Perm.append_right _ (List.perm_append_comm.trans p)
  rw [List.append_assoc] at h2
  exact h1.trans h2
set_option maxHeartbeats 4000000 in
theorem shuf_ok {c : CallT} (hc : CallMono c c) {fd : Nat} (hd : DrawSpec c fd) {a b : Nat} {row : D} {xs : List D} {S : Sto} {Q : KD} {E : Ex → Sto → Prop} (ds : DS S a b) (hl : xs.length < 100000) (hr : row = .tup xs ∨ ∃ r, row = .ref r ∧ r ≠ a ∧ S[r]? = some (.lst xs))
    (q : ∀ (ys : List D) (p : Nat) (S' : Sto), ys.Perm xs → DS S' a b → Fr a S S' → S.length ≤ p → S'[p]? = some (.lst ys) → Q (.ref p) S') :
    wpSs c (bShuf fd) ⟨fun _ S' => Q .non S', Q, fun _ _ => False, fun _ _ => False, fun x _ S' => E x S'⟩ [some (.ref a), some row, none, none, none] S := by
  have la := ds.lta
  have lb := ds.ltb
  have hli : ∀ {Q' : KD}, Q' (.ref S.length) (S ++ [.lst xs]) → wpBlt .list [row] S Q' := fun {Q'} h => by
    rcases hr with rfl | ⟨r, rfl, _, e⟩
    · exact h
    · exact f_listr e h
  have hle : ∀ {S' : Sto} {Q' : KD}, Fr a S S' → Q' (.int xs.length) S' → wpBlt .len [row] S' Q' := fun {S' Q'} f h => by
    rcases hr with rfl | ⟨r, rfl, n, e⟩
    · exact h
    · exact f_lenr (f.get n e) h
  unfold bShuf
  walk_at "mp"
  refine hli ?_
  walk_at "mp"
  refine hle (Fr.app.trans Fr.app) ?_
  walk_at "mp"
  refine ⟨⟨by omega, by omega⟩, ?_⟩
  rw [rgD_nl]
  have eL : (S ++ [O.lst xs]).length = S.length + 1 := by simp
  refine for_nm hc (fun i σ S' => ∃ left found s4, σ = [some (.ref a), some row, some (.ref S.length), some (.ref (S ++ [O.lst xs]).length), s4] ∧ DS S' a b ∧ Fr a S S' ∧ S'[S.length]? = some (.lst left) ∧ S'[(S ++ [O.lst xs]).length]? = some (.lst found) ∧ (left ++ found).Perm xs ∧ found.length = i) ?_ ?_ ?_ ?_
  · exact ⟨xs, [], none, rfl, ds.app.app, Fr.app.trans Fr.app, g_app g_last, g_last, by simp, rfl⟩
  · intros; exact gd_nil
  · rintro i x σ S' hx ⟨left, found, s4, rfl, ds', fr, e1, e2, pm, hi⟩
    have hil := (List.getElem?_eq_some_iff.mp hx).1
    rw [nl_len, List.length_range] at hil
    have hlen : left.length + found.length = xs.length := by simpa using pm.length_eq
    have ne : S.length ≠ (S ++ [O.lst xs]).length := by omega
    walk_at "mp"
    refine hd a b _ S' _ _ ds' (log2_nat (n := left.length) (by omega)) fun r S1 r0 r1 ds1 fr1 len1 => ?_
    obtain ⟨k, rfl⟩ := Int.eq_ofNat_of_zero_le r0
    have hk : k < left.length := by omega
    have l1 : S1[S.length]? = some (.lst left) := fr1.get (by omega) e1
    have l2 : S1[(S ++ [O.lst xs]).length]? = some (.lst found) := fr1.get (by omega) e2
    walk_at "mp"
    refine m_popAt l1 (List.getElem?_eq_getElem hk) (by omega) ?_
    walk_at "mp"
    have sz : found.length < sizeLine := by rw [sizeLine_eq]; omega
    walk_at "mp"
    refine ⟨left.eraseIdx k, found ++ [left[k]], some x, rfl, (ds1.setn (by omega) (by omega)).setn (by omega) (by omega), ((fr.trans fr1).setn (by omega)).setn (by omega), g_setn (Ne.symm ne) (g_set l1), g_set (g_setn ne l2), perm_pop pm (List.getElem?_eq_getElem hk), by simp [hi]⟩
  · rintro σ S' ⟨left, found, s4, rfl, ds', fr, e1, e2, pm, hi⟩
    rw [nl_len, List.length_range] at hi
    have hlen : left.length + found.length = xs.length := by simpa using pm.length_eq
    have l0 : left = [] := List.eq_nil_of_length_eq_zero (by omega)
    subst l0
    walk_at "mp"
    exact q found _ S' (by simpa using pm) ds' fr (by omega) e2
def bBegin : MSs :=
  (.cons (.ret (.lst (.cons (.int 0) (.cons (.int 0) (.cons (.int 0) (.cons (.int 0) (.cons (.blt .list (.cons (.sl (.var 0) .no (.so (.int 63))) .nil)) .nil))))))) .nil)
theorem cutD_map (ns : List Int) (l h : Option Int) : cutD (ns.map D.int) l h = (cutD ns l h).map D.int := by
  unfold cutD
  rw [List.length_map, List.map_take, List.map_drop]
theorem begin_ok {c : CallT} {ns : List Int} {S : Sto} {Q : KD} {E : Ex → Sto → Prop} (q : ∀ S', DS S' (S.length + 2) (S.length + 1) → S'.length = S.length + 3 → Q (.ref (S.length + 2)) S') :
    wpSs c bBegin ⟨fun _ S' => Q .non S', Q, fun _ _ => False, fun _ _ => False, fun x _ S' => E x S'⟩ [some (.klst (ns.map .int))] S := by
  unfold bBegin
  walk_at "mp"
  rw [cutD_map]
  have l1 : (S ++ [O.lst ((cutD ns none (some 63)).map D.int)]).length = S.length + 1 := by simp
  have l2 : (S ++ [O.lst ((cutD ns none (some 63)).map D.int)] ++ [O.lst ((cutD ns none (some 63)).map D.int)]).length = S.length + 2 := by simp
  rw [l2, l1]
  refine q _ ⟨by omega, 0, 0, 0, 0, cutD ns none (some 63), ?_, ?_, by decide, by decide, by decide, by decide⟩ (by simp)
  · rw [← l2]; exact g_last
  · refine g_app ?_
    rw [← l1]; exact g_last
def bPick (fd : Nat) : MSs :=
  (.cons (.ret (.ix (.var 1) (.call fd (.cons (.var 0) (.cons (.blt .len (.cons (.var 1) .nil)) .nil))))) .nil)
theorem pick_ok {c : CallT} {fd : Nat} (hd : DrawSpec c fd) {a b : Nat} {row : D} {xs : List D} {S : Sto} {Q : KD} {E : Ex → Sto → Prop} (ds : DS S a b) (h0 : 0 < xs.length) (hl : xs.length < 2 ^ 64) (hr : row = .tup xs ∨ ∃ r, row = .ref r ∧ r ≠ a ∧ S[r]? = some (.lst xs))
    (q : ∀ (x : D) (S' : Sto), x ∈ xs → DS S' a b → Fr a S S' → S'.length = S.length → Q x S') :
    wpSs c (bPick fd) ⟨fun _ S' => Q .non S', Q, fun _ _ => False, fun _ _ => False, fun x _ S' => E x S'⟩ [some (.ref a), some row] S := by
  have fin : ∀ (r : Int) (S' : Sto), 0 ≤ r → (r = 0 ∨ r < (xs.length : Nat)) → DS S' a b → Fr a S S' → S'.length = S.length → wpIx row (.int r) S' Q := fun r S' r0 r1 ds1 fr1 len1 => by
    obtain ⟨k, rfl⟩ := Int.eq_ofNat_of_zero_le r0
    have hk : k < xs.length := by omega
    have e := atI_nat (List.getElem?_eq_getElem hk)
    rcases hr with rfl | ⟨t, rfl, n, g⟩
    · exact x_tup e (q _ _ (List.getElem_mem hk) ds1 fr1 len1)
    · exact x_ref (fr1.get n g) e (q _ _ (List.getElem_mem hk) ds1 fr1 len1)
  have hle : ∀ {Q' : KD}, Q' (.int xs.length) S → wpBlt .len [row] S Q' := fun {Q'} h => by
    rcases hr with rfl | ⟨t, rfl, n, g⟩
    · exact h
    · exact f_lenr g h
  unfold bPick
  walk_at "mp"
  refine hle ?_
  walk_at "mp"
  exact hd a b _ S _ _ ds (log2_nat hl) fin
/-- strings as values -/
def sl (xs : List Str) : List D := xs.map D.str
theorem sl_flat : ∀ xs : List Str, (sl xs).all flatD = true
  | [] => rfl
  | x :: r => by
    show (flatD (.str x) && (sl r).all flatD) = true
    rw [sl_flat r]
    rfl
theorem sl_in (x : Str) : ∀ xs : List Str, inF (.str x) (sl xs) = decide (x ∈ xs)
  | [] => by simp [inF, sl]
  | p :: r => by
    have ih := sl_in x r
    unfold inF at *
    show (eqF (.str p) (.str x) || (sl r).any fun y => eqF y (.str x)) = _
    rw [ih]
    by_cases h : p = x
    · subst h; simp [eqF]
    · have : (p == x) = false := by rw [beq_eq_false_iff_ne]; exact h
      simp [eqF, this, Ne.symm h]
theorem sl_get {xs : List Str} {i : Nat} {x : D} (h : (sl xs)[i]? = some x) : ∃ p, xs[i]? = some p ∧ x = .str p := by
  unfold sl at h
  rw [List.getElem?_map] at h
  obtain ⟨p, h1, h2⟩ := Option.map_eq_some_iff.mp h
  exact ⟨p, h1, h2.symm⟩
theorem sl_len (xs : List Str) : (sl xs).length = xs.length := List.length_map ..
theorem sl_pds (S : Sto) : ∀ xs : List Str, Pds S (sl xs) (xs.map PyData.str)
  | [] => .nil
  | x :: r => .cons (.str _) (sl_pds S r)
theorem eqv_strs : ∀ xs : List Str, PyData.eqvAll (xs.map PyData.str) (xs.map PyData.str) = true
  | [] => by simp [PyData.eqvAll]
  | x :: r => by
    show (PyData.eqv (.str x) (.str x) && PyData.eqvAll (r.map PyData.str) (r.map PyData.str)) = true
    rw [eqv_strs r]
    show ((x == x) && true) = true
    simp
theorem can_strs : ∀ ns : List Str, (∀ x ∈ ns, PyData.strOk x = true) → PyData.canLayAll0 (ns.map PyData.str) = true
  | [], _ => by simp [PyData.canLayAll0]
  | x :: r, h => by
    have ih := can_strs r fun y hy => h y (List.mem_cons_of_mem _ hy)
    simp [PyData.canLayAll0, PyData.canLay0, ih, h x List.mem_cons_self]
theorem depth_strs : ∀ ns : List Str, PyData.depthAll (ns.map PyData.str) = 0 ∨ PyData.depthAll (ns.map PyData.str) ≤ 1
  | [] => by simp [PyData.depthAll]
  | x :: r => by
    have := depth_strs r
    right
    simp [PyData.depthAll, PyData.depth]
    omega
theorem shaped_strs {ns : List Str} (h : ∀ x ∈ ns, PyData.strOk x = true) : SeqAt.shaped (.tuple (ns.map PyData.str)) = true := by
  have h1 := can_strs ns h
  have h2 := depth_strs ns
  unfold SeqAt.shaped
  rw [Bool.and_eq_true]
  refine ⟨?_, decide_eq_true ?_⟩
  · simp only [PyData.canLay0]; exact h1
  · simp only [PyData.depth]; omega
end MP
/-! MPData: data without lists; cuts; comprehensions that change nothing. -/
namespace MP
open PySem PySem.Spec PyProof.Rows L2
local macro_rules | `(tactic| walk_at "look") => `(tactic| first | assumption | exact g_last | (with_reducible apply g_set; walk_at "look") | ((with_reducible refine g_setn ?h1 ?h2); (case h1 => first | assumption | omega | (apply Ne.symm; assumption)); (case h2 => walk_at "look")) | ((with_reducible refine g_app ?_); walk_at "look") | ((with_reducible refine' Fr.get ?h1 ?h2 ?h3); (case h1 => assumption); (case h2 => first | assumption | omega | (apply Ne.symm; assumption)); (case h3 => walk_at "look")) | ((with_reducible refine' Ch.get ?h1 ?h2 ?h3); (case h1 => assumption); (case h2 => first | assumption | (simp; done) | (simp only [List.mem_cons, List.not_mem_nil, or_false, not_or]; omega)); (case h3 => walk_at "look")))
local macro_rules | `(tactic| walk_at "kn") => `(tactic| first | assumption | omega | (simp; done) | decide)
local macro_rules | `(tactic| walk_at "sz") => `(tactic| first | assumption | (rw [sizeLine_eq]; first | omega | (simp; done) | (simp; omega)))
local macro_rules | `(tactic| walk_at "at") => `(tactic| first | exact rfl | assumption)
local macro_rules | `(tactic| walk_at "mp1") => `(tactic| first
  | with_reducible refine s_cons ?_ | with_reducible refine s_nil ?_ | with_reducible refine s_nm ?_ | with_reducible refine s_ix ?_ | with_reducible refine s_asg ?_ | with_reducible refine s_ex ?_ | with_reducible refine s_iff ?_ | with_reducible refine s_ret ?_ | with_reducible refine s_for ?_
  | ((with_reducible refine' e_var ?h1 ?_); (case h1 => exact rfl)) | with_reducible refine e_int ?_ | with_reducible refine e_bin ?_ | with_reducible refine e_cmp ?_ | with_reducible refine e_ix ?_ | with_reducible refine e_call ?_ | with_reducible refine e_blt ?_ | with_reducible refine e_bl ?_ | with_reducible refine e_and ?_ | with_reducible refine e_or ?_ | with_reducible refine e_not ?_ | with_reducible refine e_ite ?_
  | with_reducible refine es_cons ?_ | with_reducible refine es_nil ?_ | with_reducible refine e_tup ?_ | with_reducible refine e_lst ?_ | with_reducible refine e_meth ?_ | with_reducible refine e_comp ?_ | with_reducible refine e_sl ?_ | with_reducible refine e_neg ?_ | with_reducible refine e_isi ?_ | with_reducible refine e_lrg ?_ | with_reducible refine e_non ?_ | with_reducible refine e_str ?_ | with_reducible refine e_fnv ?_ | with_reducible refine e_orl ?_ | with_reducible refine e_dnew ?_ | with_reducible refine e_dget ?_ | with_reducible refine e_dget2 ?_
  | with_reducible refine o_no ?_ | with_reducible refine o_so ?_ | with_reducible refine i_rng ?_ | with_reducible refine i_seq ?_ | with_reducible refine i_enum ?_ | with_reducible refine if_nil ?_ | with_reducible refine if_cons ?_ | with_reducible refine rg_1 ?_ | with_reducible refine rg_2 ?_
  | with_reducible refine b_add ?_ | with_reducible refine b_sub ?_ | ((with_reducible refine' b_mul ?h1 ?_); (case h1 => first | assumption | mul_fits)) | ((with_reducible refine' b_fdiv ?h1 ?h2 ?_); (case h1 => walk_at "kn"); (case h2 => first | assumption | decide)) | ((with_reducible refine' b_mod ?h1 ?_); (case h1 => walk_at "kn")) | ((with_reducible refine' b_pow ?h1 ?_); (case h1 => first | assumption | exact ⟨by decide, by decide, by decide⟩)) | ((with_reducible refine' b_shr ?h1 ?_); (case h1 => walk_at "kn")) | ((with_reducible refine' b_shl ?h1 ?_); (case h1 => assumption)) | with_reducible refine b_and ?_ | with_reducible refine b_or ?_ | with_reducible refine b_xor ?_
  | with_reducible refine c_lt ?_ | with_reducible refine c_le ?_ | with_reducible refine c_gt ?_ | with_reducible refine c_ge ?_ | with_reducible refine c_eqi ?_ | with_reducible refine c_nei ?_ | with_reducible refine c_eqb ?_ | with_reducible refine c_neb ?_ | with_reducible refine c_eqs ?_ | with_reducible refine c_nes ?_
  | with_reducible refine t_bl ?_ | with_reducible refine t_int ?_ | with_reducible refine t_tup ?_ | with_reducible refine t_non ?_
  | ((with_reducible refine' x_ref ?h1 ?h2 ?_); (case h1 => walk_at "look"); (case h2 => walk_at "at")) | ((with_reducible refine' x_tup ?h1 ?_); (case h1 => walk_at "at")) | ((with_reducible refine' x_klst ?h1 ?_); (case h1 => walk_at "at"))
  | ((with_reducible refine' set_ref ?h1 ?h2 ?_); (case h1 => walk_at "look"); (case h2 => walk_at "at"))
  | ((with_reducible refine' f_lenr ?h1 ?_); (case h1 => walk_at "look")) | with_reducible refine f_lent ?_ | with_reducible refine f_lenk ?_ | with_reducible refine f_int ?_ | ((with_reducible refine' f_listr ?h1 ?_); (case h1 => walk_at "look")) | with_reducible refine f_listt ?_ | with_reducible refine f_listk ?_ | ((with_reducible refine' f_tupr ?h1 ?_); (case h1 => walk_at "look")) | with_reducible refine f_tupt ?_ | with_reducible refine f_max ?_ | with_reducible refine f_min ?_
  | with_reducible refine sl_klst ?_ | ((with_reducible refine' sl_ref ?h1 ?_); (case h1 => walk_at "look")) | with_reducible refine sl_tup ?_
  | ((with_reducible refine' m_app ?h1 ?h2 ?_); (case h1 => walk_at "look"); (case h2 => walk_at "sz")) | ((with_reducible refine' m_ext ?h1 ?h2 ?h3 ?_); (case h1 => walk_at "look"); (case h2 => walk_at "look"); (case h3 => walk_at "sz"))
  | with_reducible refine k_t ?_ | with_reducible refine k_f ?_ | with_reducible refine k_nt ?_ | with_reducible refine k_nf ?_
  | ((with_reducible refine' d_t ?h1 ?_); (case h1 => first | assumption | omega)) | ((with_reducible refine' d_f ?h1 ?_); (case h1 => first | assumption | omega)) | ((with_reducible refine' d_nt ?h1 ?_); (case h1 => first | assumption | omega)) | ((with_reducible refine' d_nf ?h1 ?_); (case h1 => first | assumption | omega))
  | ((with_reducible refine' And.intro (r_lst ?h1 ?h2) ?_); (case h1 => decide); (case h2 => walk_at "look")) | (with_reducible refine And.intro r_int ?_)
  | ((with_reducible refine And.intro ?h1 ?_); (case h1 => (with_reducible show List.length _ ≤ sizeLine); walk_at "sz"))
  | dsimp only
  | dsimp only [isTy_int, isTy_bl, isTy_str, isTy_non, isTy_tup])
local macro_rules | `(tactic| walk_at "mp") => `(tactic| repeat walk_at "mp1")

theorem up {k n : Nat} (h : n ≤ k) : ∃ j, k = j + n := ⟨k - n, by omega⟩
/-! ### data without lists -/
def puD : Nat → D → Bool
  | _, .non => true
  | _, .bl _ => true
  | _, .int _ => true
  | _, .str x => PyData.strOk x
  | n + 1, .tup xs => xs.all (puD n)
  | _, _ => false
theorem puD_mono : ∀ {n m : Nat} {v : D}, n ≤ m → puD n v = true → puD m v = true
  | n, m, .non, _, _ => by cases m <;> rfl
  | n, m, .bl _, _, _ => by cases m <;> rfl
  | n, m, .int _, _, _ => by cases m <;> rfl
  | n, m, .str x, _, h => by
    have h' : PyData.strOk x = true := by cases n <;> exact h
    cases m <;> exact h'
  | 0, _, .tup xs, _, h => by cases h
  | n + 1, 0, .tup xs, l, h => by omega
  | n + 1, m + 1, .tup xs, l, h => by
    have h1 : xs.all (puD n) = true := h
    show xs.all (puD m) = true
    rw [List.all_eq_true] at *
    exact fun x hx => puD_mono (by omega) (h1 x hx)
  | n, _, .ref _, _, h => by cases n <;> cases h
  | n, _, .klst _, _, h => by cases n <;> cases h
  | n, _, .fn _, _, h => by cases n <;> cases h
theorem puD_tup {n : Nat} {xs : List D} : puD (n + 1) (.tup xs) = true ↔ ∀ x ∈ xs, puD n x = true := by
  show xs.all (puD n) = true ↔ _
  rw [List.all_eq_true]
theorem puD_str {n : Nat} {x : Str} (h : PyData.strOk x = true) : puD n (.str x) = true := by cases n <;> exact h
theorem puD_int {n : Nat} {x : Int} : puD n (.int x) = true := by cases n <;> rfl
theorem puD_non {n : Nat} : puD n .non = true := by cases n <;> rfl
/-- a row of texts -/
def Strs (l : List D) : Prop := ∀ x ∈ l, ∃ s, x = .str s ∧ PyData.strOk s = true
theorem Strs.flat {l : List D} (h : Strs l) : l.all flatD = true := by
  rw [List.all_eq_true]
  intro x hx
  obtain ⟨s, rfl, _⟩ := h x hx
  rfl

theorem cut_to {α : Type} (xs : List α) (i : Nat) : cutD xs none (some (i : Int)) = xs.take i := by
  unfold cutD
  have h1 : HT.sIx xs.length 0 none = 0 := rfl
  have h2 : HT.sIx xs.length xs.length (some (i : Int)) = min i xs.length := by
    show (if (i : Int) < 0 then ((i : Int) + (xs.length : Int)).toNat else min (i : Int).toNat xs.length) = _
    rw [if_neg (by omega)]
    simp
  rw [h1, h2, List.drop_zero, Nat.sub_zero]
  rcases Nat.le_total i xs.length with h | h
  · rw [Nat.min_eq_left h]
  · rw [Nat.min_eq_right h, List.take_of_length_le (Nat.le_refl _), List.take_of_length_le h]
theorem cut_from {α : Type} (xs : List α) (i : Nat) : cutD xs (some (i : Int)) none = xs.drop i := by
  unfold cutD
  have h1 : HT.sIx xs.length xs.length none = xs.length := rfl
  have h2 : HT.sIx xs.length 0 (some (i : Int)) = min i xs.length := by
    show (if (i : Int) < 0 then ((i : Int) + (xs.length : Int)).toNat else min (i : Int).toNat xs.length) = _
    rw [if_neg (by omega)]
    simp
  rw [h1, h2]
  rcases Nat.le_total i xs.length with h | h
  · rw [Nat.min_eq_left h, List.take_of_length_le (by rw [List.length_drop]; exact Nat.le_refl _)]
  · rw [Nat.min_eq_right h, List.drop_of_length_le (Nat.le_refl _), List.drop_of_length_le h]
    simp
theorem cut_from1 {α : Type} (xs : List α) (i : Nat) : cutD xs (some ((i : Int) + 1)) none = xs.drop (i + 1) := cut_from xs (i + 1)

/-! ### data -/
structure Da (n : Nat) (v : D) (d : PyData) : Prop where
  pd : ∀ S, Pd S v d
  can : PyData.canLay0 d = true
  dep : PyData.depth d ≤ n
  eq : PyData.eqv d d = true
structure Das (n : Nat) (vs : List D) (ds : List PyData) : Prop where
  pd : ∀ S, Pds S vs ds
  can : PyData.canLayAll0 ds = true
  dep : PyData.depthAll ds ≤ n
  eq : PyData.eqvAll ds ds = true
theorem das_of {n : Nat} : ∀ {vs : List D}, (∀ v ∈ vs, ∃ d, Da n v d) → ∃ ds, Das n vs ds
  | [], _ => ⟨[], fun _ => .nil, by simp [PyData.canLayAll0], by simp [PyData.depthAll], by simp [PyData.eqvAll]⟩
  | v :: r, h => by
    obtain ⟨d, h1⟩ := h v List.mem_cons_self
    obtain ⟨ds, h2⟩ := das_of (vs := r) fun x hx => h x (List.mem_cons_of_mem _ hx)
    refine ⟨d :: ds, fun S => .cons (h1.pd S) (h2.pd S), ?_, ?_, ?_⟩
    · simp [PyData.canLayAll0, h1.can, h2.can]
    · have a := h1.dep
      have b := h2.dep
      simp only [PyData.depthAll]
      omega
    · simp [PyData.eqvAll, h1.eq, h2.eq]
theorem da_of : ∀ {n : Nat} {v : D}, puD n v = true → ∃ d, Da n v d
  | n, .non, _ => ⟨.none, fun _ => .non, by simp [PyData.canLay0], by simp [PyData.depth], by simp [PyData.eqv]⟩
  | n, .bl b, _ => ⟨.bool b, fun _ => .bl b, by simp [PyData.canLay0], by simp [PyData.depth], by simp [PyData.eqv]⟩
  | n, .int i, _ => ⟨.int i, fun _ => .int i, by simp [PyData.canLay0], by simp [PyData.depth], by simp [PyData.eqv]⟩
  | n, .str x, h => by
    have h' : PyData.strOk x = true := by cases n <;> exact h
    exact ⟨.str x, fun _ => .str x, by simpa [PyData.canLay0] using h', by simp [PyData.depth], by simp [PyData.eqv]⟩
  | 0, .tup xs, h => by cases h
  | n + 1, .tup xs, h => by
    obtain ⟨ds, h2⟩ := das_of (n := n) fun v hv => da_of (puD_tup.mp h v hv)
    refine ⟨.tuple ds, fun S => .tup (h2.pd S), ?_, ?_, ?_⟩
    · simpa [PyData.canLay0] using h2.can
    · have := h2.dep
      simp only [PyData.depth]
      omega
    · simpa [PyData.eqv] using h2.eq
  | n, .ref _, h => by cases n <;> cases h
  | n, .klst _, h => by cases n <;> cases h
  | n, .fn _, h => by cases n <;> cases h
/-- two lists of the same things are alike -/
theorem same_eq {S : Sto} {a b : Nat} {l : List D} (h : ∀ v ∈ l, puD 40 v = true) (ha : S[a]? = some (.lst l)) (hb : S[b]? = some (.lst l)) : ∃ d, Pd S (.ref a) d ∧ Pd S (.ref b) d ∧ SeqAt.shaped d = true ∧ PyData.eqv d d = true := by
  obtain ⟨ds, h2⟩ := das_of (n := 40) fun v hv => da_of (h v hv)
  refine ⟨.list ds, .ref (l_of ha) (h2.pd S), .ref (l_of hb) (h2.pd S), ?_, ?_⟩
  · unfold SeqAt.shaped
    rw [Bool.and_eq_true]
    refine ⟨by simpa [PyData.canLay0] using h2.can, decide_eq_true ?_⟩
    have := h2.dep
    simp only [PyData.depth]
    omega
  · simpa [PyData.eqv] using h2.eq

theorem comp_map {α : Type} {gs : List (Nat × List D)} {S : Sto} {body : D → Sto → (Option D → Sto → Prop) → Prop} (e g : α → D) (gd : Gd gs S) : ∀ {xs : List α} {R : List D → Sto → Prop}, (∀ x ∈ xs, ∀ K : Option D → Sto → Prop, K (some (g x)) S → body (e x) S K) → R (xs.map g) S → wpComp gs body (xs.map e) S R
  | [], R, h, q => ⟨gd, q⟩
  | x :: r, R, h, q => ⟨gd, h x List.mem_cons_self _ (comp_map e g gd (fun y hy => h y (List.mem_cons_of_mem _ hy)) q)⟩
theorem rgD_map (n : Nat) : rgD 0 (n : Int) = (List.range n).map fun i => D.int (i : Nat) := rgD_nl n
theorem pu_str {n : Nat} {x : D} (h : ∃ s, x = .str s ∧ PyData.strOk s = true) : puD n x = true := by
  obtain ⟨s, rfl, h⟩ := h
  exact puD_str h
theorem pu3 {n : Nat} {x y z : D} (h1 : puD n x = true) (h2 : puD n y = true) (h3 : puD n z = true) : puD (n + 1) (.tup [x, y, z]) = true := by
  rw [puD_tup]
  intro v hv
  simp only [List.mem_cons, List.not_mem_nil, or_false] at hv
  rcases hv with rfl | rfl | rfl <;> assumption
theorem pu2 {n : Nat} {x y : D} (h1 : puD n x = true) (h2 : puD n y = true) : puD (n + 1) (.tup [x, y]) = true := by
  rw [puD_tup]
  intro v hv
  simp only [List.mem_cons, List.not_mem_nil, or_false] at hv
  rcases hv with rfl | rfl <;> assumption
/-- a new list, all else as before -/
def RetL (S : Sto) (l : List D) (Q : KD) : Prop := ∀ a S', Ch [] S S' → S.length ≤ a → S'[a]? = some (.lst l) → Q (.ref a) S'
/-- a value, all else as before -/
def RetV (S : Sto) (v : D) (Q : KD) : Prop := ∀ S', Ch [] S S' → Q v S'
def sk : Nat → MSs → MSs
  | 0, s => s
  | n + 1, .cons _ r => sk n r
  | _ + 1, .nil => .nil
def eG (Q : KD) (E : Ex → Sto → Prop) : Ends := ⟨fun _ S' => Q .non S', Q, fun _ _ => False, fun _ _ => False, fun x _ S' => E x S'⟩
end MP
namespace K17
open PySem PySem.Spec PyProof.Rows L2 MP
def topS (i : Nat) : Stmt := PySem.Challenge.pw_weavewrit_k17_steps_and_marks.main.body.getD i (.Pass ⟨0, 0, 0, 0⟩)
abbrev fbodies_of : Nat := 0
abbrev fexpr_names : Nat := 1
abbrev fstatements_of : Nat := 2
abbrev fsteps_in : Nat := 3
abbrev fnumbered_from : Nat := 4
abbrev fnumbered : Nat := 5
abbrev fstep_at : Nat := 6
abbrev fnote_steps : Nat := 7
abbrev fsteps_of : Nat := 8
abbrev fnote_marks : Nat := 9
abbrev fmarks_of : Nat := 10
abbrev f_law_begin : Nat := 11
abbrev f_law_draw : Nat := 12
abbrev f_law_pick : Nat := 13
abbrev f_law_shuffled : Nat := 14
abbrev f_law_pool : Nat := 15
abbrev f_law_steps_in : Nat := 16
abbrev f_law_inner : Nat := 17
abbrev f_law_names_of : Nat := 18
abbrev f_law_spun : Nat := 19
abbrev f_law_sum_of : Nat := 20
abbrev f_law_truth_of : Nat := 21
abbrev f_law_some : Nat := 22
abbrev f_law_plain_step : Nat := 23
abbrev f_law_some_body : Nat := 24
abbrev f_law_one_step : Nat := 25
abbrev f_law_block : Nat := 26
abbrev f_law_body : Nat := 27
abbrev f_law_entries : Nat := 28
abbrev f_law_told_body : Nat := 29
abbrev f_law_here : Nat := 30
abbrev f_law_note : Nat := 31
abbrev f_law_flat : Nat := 32
abbrev f_law_right_names : Nat := 33
abbrev f_law_is_place : Nat := 34
abbrev f_law_right : Nat := 35
abbrev flaw : Nat := 36
def tabOf0 : GT := [(Str.ofString "bodies_of", 0, 1), (Str.ofString "expr_names", 1, 1), (Str.ofString "statements_of", 2, 1), (Str.ofString "steps_in", 3, 1), (Str.ofString "numbered_from", 4, 2), (Str.ofString "numbered", 5, 1), (Str.ofString "step_at", 6, 3), (Str.ofString "note_steps", 7, 4), (Str.ofString "steps_of", 8, 1), (Str.ofString "note_marks", 9, 4), (Str.ofString "marks_of", 10, 1), (Str.ofString "_law_begin", 11, 1), (Str.ofString "_law_draw", 12, 2), (Str.ofString "_law_pick", 13, 2), (Str.ofString "_law_shuffled", 14, 2), (Str.ofString "_law_pool", 15, 0), (Str.ofString "_law_steps_in", 16, 1), (Str.ofString "_law_inner", 17, 1), (Str.ofString "_law_names_of", 18, 1), (Str.ofString "_law_spun", 19, 1), (Str.ofString "_law_sum_of", 20, 3), (Str.ofString "_law_truth_of", 21, 3), (Str.ofString "_law_some", 22, 2), (Str.ofString "_law_plain_step", 23, 3), (Str.ofString "_law_some_body", 24, 6), (Str.ofString "_law_one_step", 25, 6), (Str.ofString "_law_block", 26, 6), (Str.ofString "_law_body", 27, 1), (Str.ofString "_law_entries", 28, 2), (Str.ofString "_law_told_body", 29, 1), (Str.ofString "_law_here", 30, 2), (Str.ofString "_law_note", 31, 5), (Str.ofString "_law_flat", 32, 1), (Str.ofString "_law_right_names", 33, 1), (Str.ofString "_law_is_place", 34, 2), (Str.ofString "_law_right", 35, 1), (Str.ofString "law", 36, 1)]
def bbodies_of : MSs :=
  (.cons (.iff (.cmp .eq (.ix (.var 0) (.int 0)) (.str "if"))
    (.cons (.ret (.tup (.cons (.ix (.var 0) (.int 2)) (.cons (.ix (.var 0) (.int 3)) .nil)))) .nil)
    .nil) (.cons (.iff (.cmp .eq (.ix (.var 0) (.int 0)) (.str "while"))
    (.cons (.ret (.tup (.cons (.ix (.var 0) (.int 2)) .nil))) .nil)
    .nil) (.cons (.iff (.cmp .eq (.ix (.var 0) (.int 0)) (.str "loop"))
    (.cons (.ret (.tup (.cons (.ix (.var 0) (.int 1)) .nil))) .nil)
    .nil) (.cons (.ret (.tup .nil)) .nil))))
def ebodies_of : DefE := ⟨"bodies_of", topS 1, ["statement"], ["statement"], ⟨1, 1, bbodies_of⟩⟩
def bexpr_names : MSs :=
  (.cons (.iff (.cmp .eq (.ix (.var 0) (.int 0)) (.str "name"))
    (.cons (.ret (.tup (.cons (.ix (.var 0) (.int 1)) .nil))) .nil)
    .nil) (.cons (.asg (.tg (.nm 1)) (.lst .nil)) (.cons (.for_ (.nm 2) (.seq (.sl (.var 0) (.so (.int 1)) .no))
    (.cons (.iff (.isi (.var 2) .tuple)
    (.cons (.for_ (.nm 3) (.seq (.call fexpr_names (.cons (.var 2) .nil)))
    (.cons (.iff (.cmp .notin (.var 3) (.var 1))
    (.cons (.ex (.meth .append (.var 1) (.cons (.var 3) .nil))) .nil)
    .nil) .nil)) .nil)
    .nil) .nil)) (.cons (.ret (.blt .tuple (.cons (.var 1) .nil))) .nil))))
def eexpr_names : DefE := ⟨"expr_names", topS 2, ["expr", "found", "part", "name"], ["expr"], ⟨4, 1, bexpr_names⟩⟩
def bstatements_of : MSs :=
  (.cons (.asg (.tg (.nm 1)) (.lst .nil)) (.cons (.for_ (.nm 2) (.seq (.var 0))
    (.cons (.ex (.meth .append (.var 1) (.cons (.var 2) .nil))) (.cons (.for_ (.nm 3) (.seq (.call fbodies_of (.cons (.var 2) .nil)))
    (.cons (.ex (.meth .extend (.var 1) (.cons (.call fstatements_of (.cons (.var 3) .nil)) .nil))) .nil)) .nil))) (.cons (.ret (.blt .tuple (.cons (.var 1) .nil))) .nil)))
def estatements_of : DefE := ⟨"statements_of", topS 3, ["body", "found", "statement", "inner"], ["body"], ⟨4, 1, bstatements_of⟩⟩
def bsteps_in : MSs :=
  (.cons (.ret (.blt .len (.cons (.comp [1] (.nm 1) (.seq (.call fstatements_of (.cons (.var 0) .nil))) (.cons (.cmp .ne (.ix (.var 1) (.int 0)) (.str "mark")) .nil) (.var 1)) .nil))) .nil)
def esteps_in : DefE := ⟨"steps_in", topS 4, ["body", "statement"], ["body"], ⟨2, 1, bsteps_in⟩⟩
def bnumbered_from : MSs :=
  (.cons (.asg (.tg (.nm 2)) (.lst .nil)) (.cons (.asg (.tg (.nm 3)) (.var 1)) (.cons (.for_ (.nm 4) (.seq (.var 0))
    (.cons (.iff (.cmp .eq (.ix (.var 4) (.int 0)) (.str "mark"))
    (.cons .cnt .nil)
    .nil) (.cons (.iff (.cmp .eq (.ix (.var 4) (.int 0)) (.str "if"))
    (.cons (.asg (.tg (.nm 5)) (.call fnumbered_from (.cons (.ix (.var 4) (.int 2)) (.cons (.bin .add (.var 3) (.int 1)) .nil)))) (.cons (.asg (.tg (.nm 6)) (.call fnumbered_from (.cons (.ix (.var 4) (.int 3)) (.cons (.bin .add (.bin .add (.var 3) (.int 1)) (.call fsteps_in (.cons (.ix (.var 4) (.int 2)) .nil))) .nil)))) (.cons (.ex (.meth .append (.var 2) (.cons (.tup (.cons (.var 3) (.cons (.tup (.cons (.str "if") (.cons (.ix (.var 4) (.int 1)) (.cons (.var 5) (.cons (.var 6) .nil))))) .nil))) .nil))) .nil)))
    (.cons (.iff (.cmp .eq (.ix (.var 4) (.int 0)) (.str "while"))
    (.cons (.ex (.meth .append (.var 2) (.cons (.tup (.cons (.var 3) (.cons (.tup (.cons (.str "while") (.cons (.ix (.var 4) (.int 1)) (.cons (.call fnumbered_from (.cons (.ix (.var 4) (.int 2)) (.cons (.bin .add (.var 3) (.int 1)) .nil))) .nil)))) .nil))) .nil))) .nil)
    (.cons (.iff (.cmp .eq (.ix (.var 4) (.int 0)) (.str "loop"))
    (.cons (.ex (.meth .append (.var 2) (.cons (.tup (.cons (.var 3) (.cons (.tup (.cons (.str "loop") (.cons (.call fnumbered_from (.cons (.ix (.var 4) (.int 1)) (.cons (.bin .add (.var 3) (.int 1)) .nil))) .nil))) .nil))) .nil))) .nil)
    (.cons (.ex (.meth .append (.var 2) (.cons (.tup (.cons (.var 3) (.cons (.var 4) .nil))) .nil))) .nil)) .nil)) .nil)) (.cons (.asg (.tg (.nm 3)) (.bin .add (.var 3) (.call fsteps_in (.cons (.tup (.cons (.var 4) .nil)) .nil)))) .nil)))) (.cons (.ret (.blt .tuple (.cons (.var 2) .nil))) .nil))))
def enumbered_from : DefE := ⟨"numbered_from", topS 5, ["body", "first", "found", "place", "statement", "one", "two"], ["body", "first"], ⟨7, 2, bnumbered_from⟩⟩
def bnumbered : MSs :=
  (.cons (.ret (.call fnumbered_from (.cons (.var 0) (.cons (.int 0) .nil)))) .nil)
def enumbered : DefE := ⟨"numbered", topS 6, ["body"], ["body"], ⟨1, 1, bnumbered⟩⟩
def bstep_at : MSs :=
  (.cons (.asg (.tg (.nm 3)) (.ix (.var 1) (.int 0))) (.cons (.iff (.cmp .eq (.var 3) (.str "skip"))
    (.cons (.ret (.tup (.cons (.str "go") (.cons (.var 2) .nil)))) .nil)
    .nil) (.cons (.ret (.bin .add (.var 1) (.tup (.cons (.var 2) .nil)))) .nil)))
def estep_at : DefE := ⟨"step_at", topS 8, ["place", "statement", "behind", "word"], ["place", "statement", "behind"], ⟨4, 3, bstep_at⟩⟩
def bnote_steps : MSs :=
  (.cons (.for_ (.nm 4) (.rng (.cons (.blt .len (.cons (.var 0) .nil)) .nil))
    (.cons (.asg (.tg (.tp [(.nm 5), (.nm 6)])) (.ix (.var 0) (.var 4))) (.cons (.asg (.tg (.nm 7)) (.ite (.cmp .lt (.bin .add (.var 4) (.int 1)) (.blt .len (.cons (.var 0) .nil))) (.ix (.ix (.var 0) (.bin .add (.var 4) (.int 1))) (.int 0)) (.var 1))) (.cons (.asg (.tg (.nm 8)) (.ix (.var 6) (.int 0))) (.cons (.iff (.cmp .eq (.var 8) (.str "if"))
    (.cons (.asg (.tg (.tp [(.nm 9), (.nm 10)])) (.tup (.cons (.ix (.var 6) (.int 2)) (.cons (.ix (.var 6) (.int 3)) .nil)))) (.cons (.asg (.ix (.var 3) (.var 5)) (.tup (.cons (.str "if") (.cons (.ix (.var 6) (.int 1)) (.cons (.ite (.cmp .ne (.var 9) (.tup .nil)) (.ix (.ix (.var 9) (.int 0)) (.int 0)) (.var 7)) (.cons (.ite (.cmp .ne (.var 10) (.tup .nil)) (.ix (.ix (.var 10) (.int 0)) (.int 0)) (.var 7)) .nil)))))) (.cons (.ex (.call fnote_steps (.cons (.var 9) (.cons (.var 7) (.cons (.var 2) (.cons (.var 3) .nil)))))) (.cons (.ex (.call fnote_steps (.cons (.var 10) (.cons (.var 7) (.cons (.var 2) (.cons (.var 3) .nil)))))) .nil))))
    (.cons (.iff (.cmp .eq (.var 8) (.str "while"))
    (.cons (.asg (.tg (.nm 11)) (.ix (.var 6) (.int 2))) (.cons (.asg (.ix (.var 3) (.var 5)) (.tup (.cons (.str "if") (.cons (.ix (.var 6) (.int 1)) (.cons (.ite (.cmp .ne (.var 11) (.tup .nil)) (.ix (.ix (.var 11) (.int 0)) (.int 0)) (.var 5)) (.cons (.var 7) .nil)))))) (.cons (.ex (.call fnote_steps (.cons (.var 11) (.cons (.var 5) (.cons (.var 2) (.cons (.var 3) .nil)))))) .nil)))
    (.cons (.iff (.cmp .eq (.var 8) (.str "loop"))
    (.cons (.asg (.tg (.nm 11)) (.ix (.var 6) (.int 1))) (.cons (.asg (.ix (.var 3) (.var 5)) (.tup (.cons (.str "go") (.cons (.ite (.cmp .ne (.var 11) (.tup .nil)) (.ix (.ix (.var 11) (.int 0)) (.int 0)) (.var 5)) .nil)))) (.cons (.ex (.call fnote_steps (.cons (.var 11) (.cons (.var 5) (.cons (.var 2) (.cons (.var 3) .nil)))))) .nil)))
    (.cons (.iff (.cmp .eq (.var 8) (.str "stop"))
    (.cons (.asg (.ix (.var 3) (.var 5)) (.tup (.cons (.str "go") (.cons (.var 2) .nil)))) .nil)
    (.cons (.asg (.ix (.var 3) (.var 5)) (.call fstep_at (.cons (.var 5) (.cons (.var 6) (.cons (.var 7) .nil))))) .nil)) .nil)) .nil)) .nil)) .nil))))) .nil)
def enote_steps : DefE := ⟨"note_steps", topS 9, ["body", "behind", "end", "steps", "at", "place", "statement", "after", "word", "one", "other", "inner"], ["body", "behind", "end", "steps"], ⟨12, 4, bnote_steps⟩⟩
def bsteps_of : MSs :=
  (.cons (.asg (.tg (.nm 1)) (.call fsteps_in (.cons (.var 0) .nil))) (.cons (.asg (.tg (.nm 2)) .dnew) (.cons (.ex (.call fnote_steps (.cons (.call fnumbered (.cons (.var 0) .nil)) (.cons (.var 1) (.cons (.var 1) (.cons (.var 2) .nil)))))) (.cons (.ret (.blt .tuple (.cons (.comp [3] (.nm 3) (.rng (.cons (.var 1) .nil)) .nil (.ix (.var 2) (.var 3))) .nil))) .nil))))
def esteps_of : DefE := ⟨"steps_of", topS 10, ["body", "end", "steps", "place"], ["body"], ⟨4, 1, bsteps_of⟩⟩
def bnote_marks : MSs :=
  (.cons (.asg (.tg (.nm 4)) (.var 1)) (.cons (.for_ (.nm 5) (.rng (.cons (.blt .len (.cons (.var 0) .nil)) .nil))
    (.cons (.asg (.tg (.nm 6)) (.ix (.var 0) (.var 5))) (.cons (.iff (.cmp .eq (.ix (.var 6) (.int 0)) (.str "mark"))
    (.cons (.asg (.tg (.nm 7)) (.call fsteps_in (.cons (.sl (.var 0) (.so (.bin .add (.var 5) (.int 1))) .no) .nil))) (.cons (.asg (.ix (.var 3) (.ix (.var 6) (.int 1))) (.ite (.cmp .gt (.var 7) (.int 0)) (.var 4) (.var 2))) (.cons .cnt .nil)))
    .nil) (.cons (.asg (.tg (.nm 8)) (.call fsteps_in (.cons (.tup (.cons (.var 6) .nil)) .nil))) (.cons (.asg (.tg (.nm 9)) (.ite (.cmp .gt (.call fsteps_in (.cons (.sl (.var 0) (.so (.bin .add (.var 5) (.int 1))) .no) .nil)) (.int 0)) (.bin .add (.var 4) (.var 8)) (.var 2))) (.cons (.iff (.cmp .eq (.ix (.var 6) (.int 0)) (.str "if"))
    (.cons (.ex (.call fnote_marks (.cons (.ix (.var 6) (.int 2)) (.cons (.bin .add (.var 4) (.int 1)) (.cons (.var 9) (.cons (.var 3) .nil)))))) (.cons (.ex (.call fnote_marks (.cons (.ix (.var 6) (.int 3)) (.cons (.bin .add (.bin .add (.var 4) (.int 1)) (.call fsteps_in (.cons (.ix (.var 6) (.int 2)) .nil))) (.cons (.var 9) (.cons (.var 3) .nil)))))) .nil))
    (.cons (.iff (.cmp .eq (.ix (.var 6) (.int 0)) (.str "while"))
    (.cons (.ex (.call fnote_marks (.cons (.ix (.var 6) (.int 2)) (.cons (.bin .add (.var 4) (.int 1)) (.cons (.var 4) (.cons (.var 3) .nil)))))) .nil)
    (.cons (.iff (.cmp .eq (.ix (.var 6) (.int 0)) (.str "loop"))
    (.cons (.ex (.call fnote_marks (.cons (.ix (.var 6) (.int 1)) (.cons (.bin .add (.var 4) (.int 1)) (.cons (.var 4) (.cons (.var 3) .nil)))))) .nil)
    .nil) .nil)) .nil)) (.cons (.asg (.tg (.nm 4)) (.bin .add (.var 4) (.var 8))) .nil))))))) .nil))
def enote_marks : DefE := ⟨"note_marks", topS 11, ["body", "first", "behind", "marks", "place", "at", "statement", "rest", "many", "after"], ["body", "first", "behind", "marks"], ⟨10, 4, bnote_marks⟩⟩
def bmarks_of : MSs :=
  (.cons (.asg (.tg (.nm 1)) .dnew) (.cons (.ex (.call fnote_marks (.cons (.var 0) (.cons (.int 0) (.cons (.call fsteps_in (.cons (.var 0) .nil)) (.cons (.var 1) .nil)))))) (.cons (.ret (.var 1)) .nil)))
def emarks_of : DefE := ⟨"marks_of", topS 12, ["body", "marks"], ["body"], ⟨2, 1, bmarks_of⟩⟩
def b_law_begin : MSs :=
  (.cons (.ret (.lst (.cons (.int 0) (.cons (.int 0) (.cons (.int 0) (.cons (.int 0) (.cons (.blt .list (.cons (.sl (.var 0) .no (.so (.int 63))) .nil)) .nil))))))) .nil)
def e_law_begin : DefE := ⟨"_law_begin", topS 14, ["script"], ["script"], ⟨1, 1, b_law_begin⟩⟩
def b_law_draw : MSs :=
  (.cons (.iff (.cmp .lt (.var 1) (.int 2))
    (.cons (.ret (.int 0)) .nil)
    .nil) (.cons (.iff (.and (.cmp .eq (.ix (.var 0) (.int 1)) (.int 0)) (.cmp .lt (.ix (.var 0) (.int 2)) (.blt .len (.cons (.ix (.var 0) (.int 4)) .nil))))
    (.cons (.asg (.tg (.nm 2)) (.ix (.ix (.var 0) (.int 4)) (.ix (.var 0) (.int 2)))) (.cons (.asg (.ix (.var 0) (.int 2)) (.bin .add (.ix (.var 0) (.int 2)) (.int 1))) (.cons (.asg (.tg (.nm 3)) (.ite (.cmp .ge (.var 2) (.int 0)) (.var 2) (.neg (.var 2)))) (.cons (.iff (.cmp .ge (.var 3) (.bin .pow (.int 10) (.int 18)))
    (.cons (.asg (.ix (.var 0) (.int 1)) (.var 3)) .nil)
    (.cons (.asg (.ix (.var 0) (.int 0)) (.bin .mod (.blt .int (.cons (.bin .add (.bin .add (.bin .mul (.ix (.var 0) (.int 0)) (.int 69621)) (.bin .mul (.var 3) (.int 48271))) (.int 12345)) .nil)) (.int 2147483647))) .nil)) .nil))))
    .nil) (.cons (.iff (.cmp .gt (.ix (.var 0) (.int 1)) (.int 0))
    (.cons (.asg (.tg (.nm 4)) (.bin .mod (.blt .int (.cons (.ix (.var 0) (.int 1)) .nil)) (.var 1))) (.cons (.asg (.ix (.var 0) (.int 1)) (.bin .fdiv (.ix (.var 0) (.int 1)) (.var 1))) (.cons (.ret (.var 4)) .nil)))
    .nil) (.cons (.asg (.ix (.var 0) (.int 3)) (.bin .add (.ix (.var 0) (.int 3)) (.int 1))) (.cons (.asg (.ix (.var 0) (.int 0)) (.bin .mod (.blt .int (.cons (.bin .add (.bin .add (.bin .mul (.ix (.var 0) (.int 0)) (.int 48271)) (.bin .mul (.ix (.var 0) (.int 3)) (.int 7919))) (.int 11)) .nil)) (.int 2147483647))) (.cons (.asg (.tg (.nm 5)) (.bin .mod (.blt .int (.cons (.bin .add (.bin .mul (.ix (.var 0) (.int 0)) (.ix (.var 0) (.int 0))) (.ix (.var 0) (.int 3))) .nil)) (.int 2147483629))) (.cons (.ret (.bin .mod (.blt .int (.cons (.bin .fdiv (.var 5) (.int 7)) .nil)) (.var 1))) .nil)))))))
def e_law_draw : DefE := ⟨"_law_draw", topS 15, ["d", "many", "cell", "number", "digit", "mixed"], ["d", "many"], ⟨6, 2, b_law_draw⟩⟩
def b_law_pick : MSs :=
  (.cons (.ret (.ix (.var 1) (.call f_law_draw (.cons (.var 0) (.cons (.blt .len (.cons (.var 1) .nil)) .nil))))) .nil)
def e_law_pick : DefE := ⟨"_law_pick", topS 16, ["d", "row"], ["d", "row"], ⟨2, 2, b_law_pick⟩⟩
def b_law_shuffled : MSs :=
  (.cons (.asg (.tg (.nm 2)) (.blt .list (.cons (.var 1) .nil))) (.cons (.asg (.tg (.nm 3)) (.lst .nil)) (.cons (.for_ (.nm 4) (.rng (.cons (.blt .len (.cons (.var 1) .nil)) .nil))
    (.cons (.ex (.meth .append (.var 3) (.cons (.meth .popAt (.var 2) (.cons (.call f_law_draw (.cons (.var 0) (.cons (.blt .len (.cons (.var 2) .nil)) .nil))) .nil)) .nil))) .nil)) (.cons (.ret (.var 3)) .nil))))
def e_law_shuffled : DefE := ⟨"_law_shuffled", topS 17, ["d", "row", "left", "found", "step"], ["d", "row"], ⟨5, 2, b_law_shuffled⟩⟩
def b_law_pool : MSs :=
  (.cons (.ret (.tup (.cons (.str "a") (.cons (.str "b") (.cons (.str "x") (.cons (.str "y") (.cons (.str "go1") (.cons (.str "seat") (.cons (.str "door7") (.cons (.str "k") (.cons (.str "turn") (.cons (.str "flag0") (.cons (.str "mailbox") (.cons (.str "q2") (.cons (.str "w") (.cons (.str "clerk") (.cons (.str "team") (.cons (.str "p9") (.cons (.str "stock") (.cons (.str "n1") (.cons (.str "alpha") (.cons (.str "zz") (.cons (.str "u3") (.cons (.str "hall") (.cons (.str "desk0") (.cons (.str "r") (.cons (.str "left") (.cons (.str "right") (.cons (.str "inbox") (.cons (.str "t") (.cons (.str "v8") (.cons (.str "bell") (.cons (.str "key1") (.cons (.str "cup") (.cons (.str "m") (.cons (.str "site") (.cons (.str "yard42") (.cons (.str "h") (.cons (.str "j5") (.cons (.str "lamp") (.cons (.str "oneeight") (.cons (.str "abcdefgh") .nil)))))))))))))))))))))))))))))))))))))))))) .nil)
def e_law_pool : DefE := ⟨"_law_pool", topS 18, [], [], ⟨0, 0, b_law_pool⟩⟩
def b_law_steps_in : MSs :=
  (.cons (.asg (.tg (.nm 1)) (.int 0)) (.cons (.for_ (.nm 2) (.seq (.var 0))
    (.cons (.asg (.tg (.nm 1)) (.bin .add (.var 1) (.ite (.cmp .eq (.ix (.var 2) (.int 0)) (.str "mark")) (.int 0) (.int 1)))) (.cons (.for_ (.nm 3) (.seq (.call f_law_inner (.cons (.var 2) .nil)))
    (.cons (.asg (.tg (.nm 1)) (.bin .add (.var 1) (.call f_law_steps_in (.cons (.var 3) .nil)))) .nil)) .nil))) (.cons (.ret (.var 1)) .nil)))
def e_law_steps_in : DefE := ⟨"_law_steps_in", topS 19, ["body", "many", "row", "other"], ["body"], ⟨4, 1, b_law_steps_in⟩⟩
def b_law_inner : MSs :=
  (.cons (.iff (.cmp .eq (.ix (.var 0) (.int 0)) (.str "if"))
    (.cons (.ret (.lst (.cons (.ix (.var 0) (.int 2)) (.cons (.ix (.var 0) (.int 3)) .nil)))) .nil)
    .nil) (.cons (.iff (.cmp .isin (.ix (.var 0) (.int 0)) (.tup (.cons (.str "while") (.cons (.str "loop") .nil))))
    (.cons (.ret (.lst (.cons (.ix (.var 0) (.neg (.int 1))) .nil))) .nil)
    .nil) (.cons (.ret (.lst .nil)) .nil)))
def e_law_inner : DefE := ⟨"_law_inner", topS 20, ["row"], ["row"], ⟨1, 1, b_law_inner⟩⟩
def b_law_names_of : MSs :=
  (.cons (.asg (.tg (.nm 1)) (.ite (.cmp .eq (.ix (.var 0) (.int 0)) (.str "name")) (.lst (.cons (.ix (.var 0) (.int 1)) .nil)) (.lst .nil))) (.cons (.for_ (.nm 2) (.seq (.sl (.var 0) (.so (.int 1)) .no))
    (.cons (.iff (.isi (.var 2) .tuple)
    (.cons (.asg (.tg (.nm 1)) (.bin .add (.var 1) (.call f_law_names_of (.cons (.var 2) .nil)))) .nil)
    .nil) .nil)) (.cons (.ret (.var 1)) .nil)))
def e_law_names_of : DefE := ⟨"_law_names_of", topS 21, ["expr", "found", "part"], ["expr"], ⟨3, 1, b_law_names_of⟩⟩
def b_law_spun : MSs :=
  (.cons (.asg (.tg (.nm 1)) (.call f_law_draw (.cons (.var 0) (.cons (.int 40) .nil)))) (.cons (.asg (.tg (.nm 2)) (.blt .list (.cons (.call f_law_pool .nil) .nil))) (.cons (.ret (.bin .add (.sl (.var 2) (.so (.var 1)) .no) (.sl (.var 2) .no (.so (.var 1))))) .nil)))
def e_law_spun : DefE := ⟨"_law_spun", topS 22, ["d", "start", "pool"], ["d"], ⟨3, 1, b_law_spun⟩⟩
def b_law_sum_of : MSs :=
  (.cons (.asg (.tg (.nm 3)) (.call f_law_draw (.cons (.var 0) (.cons (.int 4) .nil)))) (.cons (.iff (.and (.cmp .gt (.var 2) (.int 0)) (.cmp .lt (.var 3) (.int 2)))
    (.cons (.asg (.tg (.nm 4)) (.call f_law_pick (.cons (.var 0) (.cons (.tup (.cons (.str "+") (.cons (.str "-") (.cons (.str "*") .nil)))) .nil)))) (.cons (.asg (.tg (.nm 5)) (.call f_law_sum_of (.cons (.var 0) (.cons (.var 1) (.cons (.bin .sub (.var 2) (.int 1)) .nil))))) (.cons (.ret (.tup (.cons (.var 4) (.cons (.var 5) (.cons (.call f_law_sum_of (.cons (.var 0) (.cons (.var 1) (.cons (.bin .sub (.var 2) (.int 1)) .nil)))) .nil))))) .nil)))
    .nil) (.cons (.iff (.or (.cmp .eq (.var 3) (.int 2)) (.cmp .eq (.blt .len (.cons (.var 1) .nil)) (.int 0)))
    (.cons (.ret (.tup (.cons (.str "number") (.cons (.call f_law_pick (.cons (.var 0) (.cons (.tup (.cons (.int 0) (.cons (.int 1) (.cons (.int 2) (.cons (.int 3) (.cons (.int 7) (.cons (.int 99) .nil))))))) .nil))) .nil)))) .nil)
    .nil) (.cons (.ret (.tup (.cons (.str "name") (.cons (.call f_law_pick (.cons (.var 0) (.cons (.var 1) .nil))) .nil)))) .nil))))
def e_law_sum_of : DefE := ⟨"_law_sum_of", topS 23, ["d", "names", "depth", "way", "sign", "left"], ["d", "names", "depth"], ⟨6, 3, b_law_sum_of⟩⟩
def b_law_truth_of : MSs :=
  (.cons (.asg (.tg (.nm 3)) (.call f_law_draw (.cons (.var 0) (.cons (.int 6) .nil)))) (.cons (.iff (.and (.cmp .gt (.var 2) (.int 0)) (.cmp .eq (.var 3) (.int 0)))
    (.cons (.ret (.tup (.cons (.str "not") (.cons (.call f_law_truth_of (.cons (.var 0) (.cons (.var 1) (.cons (.bin .sub (.var 2) (.int 1)) .nil)))) .nil)))) .nil)
    .nil) (.cons (.iff (.and (.cmp .gt (.var 2) (.int 0)) (.cmp .lt (.var 3) (.int 3)))
    (.cons (.asg (.tg (.nm 4)) (.call f_law_truth_of (.cons (.var 0) (.cons (.var 1) (.cons (.bin .sub (.var 2) (.int 1)) .nil))))) (.cons (.ret (.tup (.cons (.ite (.cmp .eq (.var 3) (.int 1)) (.str "and") (.str "or")) (.cons (.var 4) (.cons (.call f_law_truth_of (.cons (.var 0) (.cons (.var 1) (.cons (.bin .sub (.var 2) (.int 1)) .nil)))) .nil))))) .nil))
    .nil) (.cons (.asg (.tg (.nm 5)) (.call f_law_pick (.cons (.var 0) (.cons (.tup (.cons (.str "=") (.cons (.str "!=") (.cons (.str "<") (.cons (.str "<=") (.cons (.str ">") (.cons (.str ">=") .nil))))))) .nil)))) (.cons (.asg (.tg (.nm 4)) (.call f_law_sum_of (.cons (.var 0) (.cons (.var 1) (.cons (.int 1) .nil))))) (.cons (.ret (.tup (.cons (.var 5) (.cons (.var 4) (.cons (.call f_law_sum_of (.cons (.var 0) (.cons (.var 1) (.cons (.int 1) .nil)))) .nil))))) .nil))))))
def e_law_truth_of : DefE := ⟨"_law_truth_of", topS 24, ["d", "names", "depth", "way", "left", "sign"], ["d", "names", "depth"], ⟨6, 3, b_law_truth_of⟩⟩
def b_law_some : MSs :=
  (.cons (.ret (.sl (.call f_law_shuffled (.cons (.var 0) (.cons (.var 1) .nil))) .no (.so (.bin .add (.int 1) (.call f_law_draw (.cons (.var 0) (.cons (.int 3) .nil))))))) .nil)
def e_law_some : DefE := ⟨"_law_some", topS 25, ["d", "names"], ["d", "names"], ⟨2, 2, b_law_some⟩⟩
def b_law_plain_step : MSs :=
  (.cons (.asg (.tg (.nm 3)) (.ix (.var 1) (.int 4))) (.cons (.asg (.tg (.nm 4)) (.comp [6] (.nm 6) (.seq (.bin .add (.ix (.var 1) (.int 2)) (.ix (.var 1) (.int 3)))) .nil (.ix (.var 6) (.int 0)))) (.cons (.asg (.tg (.nm 5)) (.call f_law_draw (.cons (.var 0) (.cons (.int 12) .nil)))) (.cons (.iff (.and (.cmp .lt (.var 5) (.int 3)) (.cmp .gt (.blt .len (.cons (.var 3) .nil)) (.int 0)))
    (.cons (.ret (.tup (.cons (.str "set") (.cons (.call f_law_pick (.cons (.var 0) (.cons (.var 3) .nil))) (.cons (.call f_law_sum_of (.cons (.var 0) (.cons (.call f_law_some (.cons (.var 0) (.cons (.var 3) .nil))) (.cons (.int 2) .nil)))) .nil))))) .nil)
    .nil) (.cons (.iff (.cmp .lt (.var 5) (.int 5))
    (.cons (.ret (.tup (.cons (.str "wait") (.cons (.call f_law_truth_of (.cons (.var 0) (.cons (.call f_law_some (.cons (.var 0) (.cons (.var 3) .nil))) (.cons (.int 1) .nil)))) .nil)))) .nil)
    .nil) (.cons (.iff (.and (.cmp .eq (.var 5) (.int 5)) (.cmp .gt (.blt .len (.cons (.var 3) .nil)) (.int 0)))
    (.cons (.ret (.tup (.cons (.str "pick") (.cons (.call f_law_pick (.cons (.var 0) (.cons (.var 3) .nil))) .nil)))) .nil)
    .nil) (.cons (.iff (.and (.cmp .lt (.var 5) (.int 8)) (.cmp .gt (.blt .len (.cons (.var 4) .nil)) (.int 0)))
    (.cons (.ret (.tup (.cons (.str "send") (.cons (.call f_law_sum_of (.cons (.var 0) (.cons (.call f_law_some (.cons (.var 0) (.cons (.var 3) .nil))) (.cons (.int 1) .nil)))) (.cons (.call f_law_pick (.cons (.var 0) (.cons (.var 4) .nil))) .nil))))) .nil)
    .nil) (.cons (.iff (.and (.cmp .lt (.var 5) (.int 10)) (.and (.cmp .gt (.blt .len (.cons (.var 4) .nil)) (.int 0)) (.cmp .gt (.blt .len (.cons (.var 3) .nil)) (.int 0))))
    (.cons (.ret (.tup (.cons (.str "take") (.cons (.call f_law_pick (.cons (.var 0) (.cons (.var 3) .nil))) (.cons (.call f_law_pick (.cons (.var 0) (.cons (.var 4) .nil))) .nil))))) .nil)
    .nil) (.cons (.ret (.ite (.and (.cmp .eq (.var 5) (.int 10)) (.cmp .eq (.blt .len (.cons (.var 2) .nil)) (.int 0))) (.tup (.cons (.str "stop") .nil)) (.tup (.cons (.str "skip") .nil)))) .nil)))))))))
def e_law_plain_step : DefE := ⟨"_law_plain_step", topS 26, ["d", "world", "held", "names", "stores", "way", "row"], ["d", "world", "held"], ⟨7, 3, b_law_plain_step⟩⟩
def b_law_some_body : MSs :=
  (.cons (.iff (.cmp .eq (.call f_law_draw (.cons (.var 0) (.cons (.int 4) .nil))) (.int 0))
    (.cons (.ret (.tup .nil)) .nil)
    .nil) (.cons (.ret (.call f_law_block (.cons (.var 0) (.cons (.var 1) (.cons (.var 2) (.cons (.bin .add (.var 3) (.int 1)) (.cons (.var 4) (.cons (.var 5) .nil)))))))) .nil))
def e_law_some_body : DefE := ⟨"_law_some_body", topS 27, ["d", "world", "left", "depth", "held", "marks"], ["d", "world", "left", "depth", "held", "marks"], ⟨6, 6, b_law_some_body⟩⟩
def b_law_one_step : MSs :=
  (.cons (.asg (.tg (.nm 6)) (.comp [8] (.nm 8) (.seq (.ix (.var 1) (.int 1))) (.cons (.cmp .notin (.var 8) (.var 4)) .nil) (.var 8))) (.cons (.asg (.tg (.nm 7)) (.call f_law_draw (.cons (.var 0) (.cons (.ix (.var 1) (.int 7)) .nil)))) (.cons (.iff (.and (.cmp .eq (.var 7) (.int 0)) (.and (.cmp .gt (.blt .len (.cons (.var 6) .nil)) (.int 0)) (.cmp .gt (.ix (.var 2) (.int 0)) (.int 0))))
    (.cons (.asg (.ix (.var 2) (.int 0)) (.bin .sub (.ix (.var 2) (.int 0)) (.int 1))) (.cons (.asg (.tg (.nm 8)) (.call f_law_pick (.cons (.var 0) (.cons (.var 6) .nil)))) (.cons (.asg (.tg (.nm 9)) (.call f_law_block (.cons (.var 0) (.cons (.var 1) (.cons (.var 2) (.cons (.var 3) (.cons (.bin .add (.var 4) (.lst (.cons (.var 8) .nil))) (.cons (.var 5) .nil)))))))) (.cons (.ret (.bin .add (.bin .add (.tup (.cons (.tup (.cons (.str "lock") (.cons (.var 8) .nil))) .nil)) (.var 9)) (.tup (.cons (.tup (.cons (.str "unlock") (.cons (.var 8) .nil))) .nil)))) .nil))))
    .nil) (.cons (.iff (.and (.cmp .lt (.var 7) (.int 4)) (.cmp .lt (.var 3) (.ix (.var 1) (.int 6))))
    (.cons (.asg (.tg (.nm 10)) (.call f_law_truth_of (.cons (.var 0) (.cons (.call f_law_some (.cons (.var 0) (.cons (.ix (.var 1) (.int 4)) .nil))) (.cons (.int 1) .nil))))) (.cons (.asg (.tg (.nm 9)) (.call f_law_some_body (.cons (.var 0) (.cons (.var 1) (.cons (.var 2) (.cons (.var 3) (.cons (.var 4) (.cons (.var 5) .nil)))))))) (.cons (.iff (.cmp .eq (.var 7) (.int 1))
    (.cons (.ret (.tup (.cons (.tup (.cons (.str "while") (.cons (.var 10) (.cons (.var 9) .nil)))) .nil))) .nil)
    .nil) (.cons (.iff (.cmp .eq (.var 7) (.int 2))
    (.cons (.ret (.tup (.cons (.tup (.cons (.str "loop") (.cons (.var 9) .nil))) .nil))) .nil)
    .nil) (.cons (.ret (.tup (.cons (.tup (.cons (.str "if") (.cons (.var 10) (.cons (.var 9) (.cons (.call f_law_some_body (.cons (.var 0) (.cons (.var 1) (.cons (.var 2) (.cons (.var 3) (.cons (.var 4) (.cons (.var 5) .nil))))))) .nil))))) .nil))) .nil)))))
    .nil) (.cons (.ret (.tup (.cons (.call f_law_plain_step (.cons (.var 0) (.cons (.var 1) (.cons (.var 4) .nil)))) .nil))) .nil)))))
def e_law_one_step : DefE := ⟨"_law_one_step", topS 28, ["d", "world", "left", "depth", "held", "marks", "free", "way", "lock", "inner", "truth"], ["d", "world", "left", "depth", "held", "marks"], ⟨11, 6, b_law_one_step⟩⟩
def b_law_block : MSs :=
  (.cons (.asg (.tg (.nm 6)) (.tup .nil)) (.cons (.for_ (.nm 7) (.rng (.cons (.bin .add (.int 1) (.call f_law_draw (.cons (.var 0) (.cons (.ix (.var 1) (.int 5)) .nil)))) .nil))
    (.cons (.iff (.and (.cmp .gt (.blt .len (.cons (.var 5) .nil)) (.int 0)) (.cmp .eq (.call f_law_draw (.cons (.var 0) (.cons (.int 4) .nil))) (.int 0)))
    (.cons (.asg (.tg (.nm 6)) (.bin .add (.var 6) (.tup (.cons (.tup (.cons (.str "mark") (.cons (.meth .pop (.var 5) .nil) .nil))) .nil)))) .nil)
    .nil) (.cons (.iff (.cmp .lt (.ix (.var 2) (.int 0)) (.int 1))
    (.cons .brk .nil)
    .nil) (.cons (.asg (.ix (.var 2) (.int 0)) (.bin .sub (.ix (.var 2) (.int 0)) (.int 1))) (.cons (.asg (.tg (.nm 6)) (.bin .add (.var 6) (.call f_law_one_step (.cons (.var 0) (.cons (.var 1) (.cons (.var 2) (.cons (.var 3) (.cons (.var 4) (.cons (.var 5) .nil))))))))) .nil))))) (.cons (.iff (.and (.cmp .gt (.blt .len (.cons (.var 5) .nil)) (.int 0)) (.cmp .eq (.call f_law_draw (.cons (.var 0) (.cons (.int 5) .nil))) (.int 0)))
    (.cons (.asg (.tg (.nm 6)) (.bin .add (.var 6) (.tup (.cons (.tup (.cons (.str "mark") (.cons (.meth .pop (.var 5) .nil) .nil))) .nil)))) .nil)
    .nil) (.cons (.ret (.var 6)) .nil))))
def e_law_block : DefE := ⟨"_law_block", topS 29, ["d", "world", "left", "depth", "held", "marks", "found", "step"], ["d", "world", "left", "depth", "held", "marks"], ⟨8, 6, b_law_block⟩⟩
def b_law_body : MSs :=
  (.cons (.iff (.cmp .eq (.call f_law_draw (.cons (.var 0) (.cons (.int 16) .nil))) (.int 9))
    (.cons (.ret (.tup .nil)) .nil)
    .nil) (.cons (.asg (.tg (.nm 1)) (.call f_law_spun (.cons (.var 0) .nil))) (.cons (.asg (.tg (.nm 2)) (.tup (.cons (.tup (.cons (.ix (.var 1) (.int 0)) (.cons (.int 0) (.cons (.int 2) (.cons (.int 0) .nil))))) (.cons (.tup (.cons (.ix (.var 1) (.int 1)) (.cons (.int 1) (.cons (.int 2) (.cons (.int 1) .nil))))) .nil)))) (.cons (.asg (.tg (.nm 3)) (.tup (.cons (.var 2) (.cons (.tup (.cons (.ix (.var 1) (.int 2)) (.cons (.ix (.var 1) (.int 3)) .nil))) (.cons (.tup (.cons (.tup (.cons (.ix (.var 1) (.int 4)) (.cons (.int 0) (.cons (.int 1) (.cons (.int 2) .nil))))) .nil)) (.cons (.tup (.cons (.tup (.cons (.ix (.var 1) (.int 5)) (.cons (.int 0) (.cons (.int 1) (.cons (.int 1) .nil))))) .nil)) (.cons (.lst (.cons (.ix (.var 1) (.int 0)) (.cons (.ix (.var 1) (.int 1)) .nil))) (.cons (.call f_law_pick (.cons (.var 0) (.cons (.tup (.cons (.int 3) (.cons (.int 3) (.cons (.int 12) .nil)))) .nil))) (.cons (.call f_law_pick (.cons (.var 0) (.cons (.tup (.cons (.int 2) (.cons (.int 6) (.cons (.int 6) .nil)))) .nil))) (.cons (.call f_law_pick (.cons (.var 0) (.cons (.tup (.cons (.int 5) (.cons (.int 9) .nil))) .nil))) .nil)))))))))) (.cons (.asg (.tg (.nm 4)) (.lst (.cons (.call f_law_pick (.cons (.var 0) (.cons (.tup (.cons (.int 3) (.cons (.int 6) (.cons (.int 12) (.cons (.int 30) .nil))))) .nil))) .nil))) (.cons (.ret (.call f_law_block (.cons (.var 0) (.cons (.var 3) (.cons (.var 4) (.cons (.int 1) (.cons (.lst .nil) (.cons (.sl (.call f_law_spun (.cons (.var 0) .nil)) .no (.so (.call f_law_pick (.cons (.var 0) (.cons (.tup (.cons (.int 2) (.cons (.int 8) .nil))) .nil))))) .nil)))))))) .nil))))))
def e_law_body : DefE := ⟨"_law_body", topS 30, ["d", "names", "boxes", "world", "left"], ["d"], ⟨5, 1, b_law_body⟩⟩
def b_law_entries : MSs :=
  (.cons (.asg (.tg (.nm 2)) (.lst .nil)) (.cons (.asg (.tg (.nm 3)) (.var 1)) (.cons (.for_ (.nm 4) (.seq (.var 0))
    (.cons (.asg (.tg (.nm 5)) (.lst .nil)) (.cons (.iff (.cmp .eq (.ix (.var 4) (.int 0)) (.str "if"))
    (.cons (.asg (.tg (.nm 6)) (.bin .add (.bin .add (.var 3) (.int 1)) (.call f_law_steps_in (.cons (.ix (.var 4) (.int 2)) .nil)))) (.cons (.asg (.tg (.nm 5)) (.lst (.cons (.call f_law_entries (.cons (.ix (.var 4) (.int 2)) (.cons (.bin .add (.var 3) (.int 1)) .nil))) (.cons (.call f_law_entries (.cons (.ix (.var 4) (.int 3)) (.cons (.var 6) .nil))) .nil)))) .nil))
    .nil) (.cons (.iff (.cmp .eq (.ix (.var 4) (.int 0)) (.str "while"))
    (.cons (.asg (.tg (.nm 5)) (.lst (.cons (.call f_law_entries (.cons (.ix (.var 4) (.int 2)) (.cons (.bin .add (.var 3) (.int 1)) .nil))) .nil))) .nil)
    .nil) (.cons (.iff (.cmp .eq (.ix (.var 4) (.int 0)) (.str "loop"))
    (.cons (.asg (.tg (.nm 5)) (.lst (.cons (.call f_law_entries (.cons (.ix (.var 4) (.int 1)) (.cons (.bin .add (.var 3) (.int 1)) .nil))) .nil))) .nil)
    .nil) (.cons (.ex (.meth .append (.var 2) (.cons (.tup (.cons (.ite (.cmp .eq (.ix (.var 4) (.int 0)) (.str "mark")) (.neg (.int 1)) (.var 3)) (.cons (.var 4) (.cons (.var 5) .nil)))) .nil))) (.cons (.asg (.tg (.nm 3)) (.bin .add (.var 3) (.call f_law_steps_in (.cons (.tup (.cons (.var 4) .nil)) .nil)))) .nil))))))) (.cons (.ret (.var 2)) .nil))))
def e_law_entries : DefE := ⟨"_law_entries", topS 31, ["body", "first", "found", "place", "row", "inner", "half"], ["body", "first"], ⟨7, 2, b_law_entries⟩⟩
def b_law_told_body : MSs :=
  (.cons (.asg (.tg (.nm 1)) (.lst .nil)) (.cons (.for_ (.tp [(.nm 2), (.nm 3), (.nm 4)]) (.seq (.var 0))
    (.cons (.iff (.cmp .eq (.ix (.var 3) (.int 0)) (.str "if"))
    (.cons (.ex (.meth .append (.var 1) (.cons (.tup (.cons (.var 2) (.cons (.tup (.cons (.str "if") (.cons (.ix (.var 3) (.int 1)) (.cons (.call f_law_told_body (.cons (.ix (.var 4) (.int 0)) .nil)) (.cons (.call f_law_told_body (.cons (.ix (.var 4) (.int 1)) .nil)) .nil))))) .nil))) .nil))) .nil)
    (.cons (.iff (.cmp .eq (.ix (.var 3) (.int 0)) (.str "while"))
    (.cons (.ex (.meth .append (.var 1) (.cons (.tup (.cons (.var 2) (.cons (.tup (.cons (.str "while") (.cons (.ix (.var 3) (.int 1)) (.cons (.call f_law_told_body (.cons (.ix (.var 4) (.int 0)) .nil)) .nil)))) .nil))) .nil))) .nil)
    (.cons (.iff (.cmp .eq (.ix (.var 3) (.int 0)) (.str "loop"))
    (.cons (.ex (.meth .append (.var 1) (.cons (.tup (.cons (.var 2) (.cons (.tup (.cons (.str "loop") (.cons (.call f_law_told_body (.cons (.ix (.var 4) (.int 0)) .nil)) .nil))) .nil))) .nil))) .nil)
    (.cons (.iff (.cmp .ne (.ix (.var 3) (.int 0)) (.str "mark"))
    (.cons (.ex (.meth .append (.var 1) (.cons (.tup (.cons (.var 2) (.cons (.var 3) .nil))) .nil))) .nil)
    .nil) .nil)) .nil)) .nil)) .nil)) (.cons (.ret (.blt .tuple (.cons (.var 1) .nil))) .nil)))
def e_law_told_body : DefE := ⟨"_law_told_body", topS 32, ["entries", "found", "place", "row", "inner"], ["entries"], ⟨5, 1, b_law_told_body⟩⟩
def b_law_here : MSs :=
  (.cons (.for_ (.nm 2) (.seq (.var 0))
    (.cons (.iff (.cmp .ge (.ix (.var 2) (.int 0)) (.int 0))
    (.cons (.ret (.ix (.var 2) (.int 0))) .nil)
    .nil) .nil)) (.cons (.ret (.var 1)) .nil))
def e_law_here : DefE := ⟨"_law_here", topS 33, ["entries", "end", "entry"], ["entries", "end"], ⟨3, 2, b_law_here⟩⟩
def b_law_note : MSs :=
  (.cons (.for_ (.nm 5) (.rng (.cons (.blt .len (.cons (.var 0) .nil)) .nil))
    (.cons (.asg (.tg (.tp [(.nm 6), (.nm 7), (.nm 8)])) (.ix (.var 0) (.var 5))) (.cons (.asg (.tg (.nm 9)) (.bin .add (.sl (.var 0) (.so (.bin .add (.var 5) (.int 1))) .no) (.var 1))) (.cons (.asg (.tg (.nm 10)) (.bin .add (.sl (.var 0) (.so (.var 5)) .no) (.var 1))) (.cons (.iff (.cmp .eq (.ix (.var 7) (.int 0)) (.str "mark"))
    (.cons (.asg (.ix (.var 4) (.ix (.var 7) (.int 1))) (.call f_law_here (.cons (.var 9) (.cons (.var 2) .nil)))) .nil)
    (.cons (.iff (.cmp .eq (.ix (.var 7) (.int 0)) (.str "if"))
    (.cons (.asg (.ix (.var 3) (.var 6)) (.tup (.cons (.str "if") (.cons (.ix (.var 7) (.int 1)) (.cons (.call f_law_here (.cons (.bin .add (.ix (.var 8) (.int 0)) (.var 9)) (.cons (.var 2) .nil))) (.cons (.call f_law_here (.cons (.bin .add (.ix (.var 8) (.int 1)) (.var 9)) (.cons (.var 2) .nil))) .nil)))))) (.cons (.ex (.call f_law_note (.cons (.ix (.var 8) (.int 0)) (.cons (.var 9) (.cons (.var 2) (.cons (.var 3) (.cons (.var 4) .nil))))))) (.cons (.ex (.call f_law_note (.cons (.ix (.var 8) (.int 1)) (.cons (.var 9) (.cons (.var 2) (.cons (.var 3) (.cons (.var 4) .nil))))))) .nil)))
    (.cons (.iff (.cmp .eq (.ix (.var 7) (.int 0)) (.str "while"))
    (.cons (.asg (.ix (.var 3) (.var 6)) (.tup (.cons (.str "if") (.cons (.ix (.var 7) (.int 1)) (.cons (.call f_law_here (.cons (.bin .add (.ix (.var 8) (.int 0)) (.var 10)) (.cons (.var 2) .nil))) (.cons (.call f_law_here (.cons (.var 9) (.cons (.var 2) .nil))) .nil)))))) (.cons (.ex (.call f_law_note (.cons (.ix (.var 8) (.int 0)) (.cons (.var 10) (.cons (.var 2) (.cons (.var 3) (.cons (.var 4) .nil))))))) .nil))
    (.cons (.iff (.cmp .eq (.ix (.var 7) (.int 0)) (.str "loop"))
    (.cons (.asg (.ix (.var 3) (.var 6)) (.tup (.cons (.str "go") (.cons (.call f_law_here (.cons (.bin .add (.ix (.var 8) (.int 0)) (.var 10)) (.cons (.var 2) .nil))) .nil)))) (.cons (.ex (.call f_law_note (.cons (.ix (.var 8) (.int 0)) (.cons (.var 10) (.cons (.var 2) (.cons (.var 3) (.cons (.var 4) .nil))))))) .nil))
    (.cons (.iff (.cmp .eq (.ix (.var 7) (.int 0)) (.str "stop"))
    (.cons (.asg (.ix (.var 3) (.var 6)) (.tup (.cons (.str "go") (.cons (.var 2) .nil)))) .nil)
    (.cons (.iff (.cmp .eq (.ix (.var 7) (.int 0)) (.str "skip"))
    (.cons (.asg (.ix (.var 3) (.var 6)) (.tup (.cons (.str "go") (.cons (.call f_law_here (.cons (.var 9) (.cons (.var 2) .nil))) .nil)))) .nil)
    (.cons (.asg (.ix (.var 3) (.var 6)) (.bin .add (.var 7) (.tup (.cons (.call f_law_here (.cons (.var 9) (.cons (.var 2) .nil))) .nil)))) .nil)) .nil)) .nil)) .nil)) .nil)) .nil)) .nil))))) .nil)
def e_law_note : DefE := ⟨"_law_note", topS 34, ["entries", "tail", "end", "steps", "marks", "at", "place", "row", "inner", "behind", "again"], ["entries", "tail", "end", "steps", "marks"], ⟨11, 5, b_law_note⟩⟩
def b_law_flat : MSs :=
  (.cons (.asg (.tg (.nm 1)) (.lst .nil)) (.cons (.for_ (.nm 2) (.seq (.var 0))
    (.cons (.ex (.meth .append (.var 1) (.cons (.var 2) .nil))) (.cons (.iff (.cmp .eq (.ix (.var 2) (.int 0)) (.str "if"))
    (.cons (.asg (.tg (.nm 1)) (.bin .add (.bin .add (.var 1) (.call f_law_flat (.cons (.ix (.var 2) (.int 2)) .nil))) (.call f_law_flat (.cons (.ix (.var 2) (.int 3)) .nil)))) .nil)
    .nil) (.cons (.iff (.cmp .eq (.ix (.var 2) (.int 0)) (.str "while"))
    (.cons (.asg (.tg (.nm 1)) (.bin .add (.var 1) (.call f_law_flat (.cons (.ix (.var 2) (.int 2)) .nil)))) .nil)
    .nil) (.cons (.iff (.cmp .eq (.ix (.var 2) (.int 0)) (.str "loop"))
    (.cons (.asg (.tg (.nm 1)) (.bin .add (.var 1) (.call f_law_flat (.cons (.ix (.var 2) (.int 1)) .nil)))) .nil)
    .nil) .nil))))) (.cons (.ret (.var 1)) .nil)))
def e_law_flat : DefE := ⟨"_law_flat", topS 35, ["body", "found", "row"], ["body"], ⟨3, 1, b_law_flat⟩⟩
def b_law_right_names : MSs :=
  (.cons (.asg (.tg (.nm 1)) (.tup (.cons (.str "number") (.cons (.int 0) .nil)))) (.cons (.iff (.cmp .eq (.ix (.var 0) (.int 0)) (.str "set"))
    (.cons (.asg (.tg (.nm 1)) (.ix (.var 0) (.int 2))) .nil)
    .nil) (.cons (.iff (.cmp .isin (.ix (.var 0) (.int 0)) (.tup (.cons (.str "wait") (.cons (.str "if") (.cons (.str "while") (.cons (.str "send") .nil))))))
    (.cons (.asg (.tg (.nm 1)) (.ix (.var 0) (.int 1))) .nil)
    .nil) (.cons (.asg (.tg (.nm 2)) (.lst .nil)) (.cons (.for_ (.nm 3) (.seq (.call f_law_names_of (.cons (.var 1) .nil)))
    (.cons (.iff (.cmp .notin (.var 3) (.var 2))
    (.cons (.ex (.meth .append (.var 2) (.cons (.var 3) .nil))) .nil)
    .nil) .nil)) (.cons (.ret (.cmp .eq (.call fexpr_names (.cons (.var 1) .nil)) (.blt .tuple (.cons (.var 2) .nil)))) .nil))))))
def e_law_right_names : DefE := ⟨"_law_right_names", topS 36, ["row", "expr", "due", "name"], ["row"], ⟨4, 1, b_law_right_names⟩⟩
def b_law_is_place : MSs :=
  (.cons (.ret (.and (.isi (.var 0) .int) (.and (.not (.isi (.var 0) .bool)) (.chain .le .le (.int 0) (.var 0) (.var 1))))) .nil)
def e_law_is_place : DefE := ⟨"_law_is_place", topS 37, ["number", "end"], ["number", "end"], ⟨2, 2, b_law_is_place⟩⟩
def b_law_right : MSs :=
  (.cons (.asg (.tg (.nm 1)) (.call f_law_flat (.cons (.var 0) .nil))) (.cons (.asg (.tg (.nm 2)) (.blt .len (.cons (.orX (.comp [8] (.nm 8) (.seq (.var 1)) (.cons (.cmp .ne (.ix (.var 8) (.int 0)) (.str "mark")) .nil) (.var 8)) (.compD [8] (.nm 8) 1 (.cons (.cmp .ne (.ix (.var 8) (.int 0)) (.str "mark")) .nil) (.var 8))) .nil))) (.cons (.asg (.tg (.nm 3)) (.call f_law_entries (.cons (.var 0) (.cons (.int 0) .nil)))) (.cons (.asg (.tg (.nm 4)) .dnew) (.cons (.asg (.tg (.nm 5)) .dnew) (.cons (.ex (.call f_law_note (.cons (.var 3) (.cons (.lst .nil) (.cons (.var 2) (.cons (.var 4) (.cons (.var 5) .nil))))))) (.cons (.iff (.or (.cmp .ne (.call fsteps_in (.cons (.var 0) .nil)) (.var 2)) (.or (.isi (.call fsteps_in (.cons (.var 0) .nil)) .bool) (.cmp .ne (.blt .list (.cons (.call fstatements_of (.cons (.var 0) .nil)) .nil)) (.var 1))))
    (.cons (.ret (.bl false)) .nil)
    .nil) (.cons (.iff (.or (.cmp .ne (.call fnumbered (.cons (.var 0) .nil)) (.call f_law_told_body (.cons (.var 3) .nil))) (.not (.blt .all (.cons (.orX (.comp [8] (.nm 8) (.seq (.var 1)) .nil (.call f_law_right_names (.cons (.var 8) .nil))) (.compD [8] (.nm 8) 1 .nil (.call f_law_right_names (.cons (.var 8) .nil)))) .nil))))
    (.cons (.ret (.bl false)) .nil)
    .nil) (.cons (.asg (.tg (.nm 6)) (.call fsteps_of (.cons (.var 0) .nil))) (.cons (.iff (.or (.cmp .ne (.blt .len (.cons (.var 6) .nil)) (.var 2)) (.cmp .ne (.blt .list (.cons (.var 6) .nil)) (.comp [10] (.nm 10) (.rng (.cons (.var 2) .nil)) .nil (.ix (.var 4) (.var 10)))))
    (.cons (.ret (.bl false)) .nil)
    .nil) (.cons (.iff (.not (.blt .all (.cons (.orX (.comp [11] (.nm 11) (.seq (.var 6)) .nil (.call f_law_is_place (.cons (.ix (.var 11) (.neg (.int 1))) (.cons (.var 2) .nil)))) (.compD [11] (.nm 11) 6 .nil (.call f_law_is_place (.cons (.ix (.var 11) (.neg (.int 1))) (.cons (.var 2) .nil))))) .nil)))
    (.cons (.ret (.bl false)) .nil)
    .nil) (.cons (.asg (.tg (.nm 7)) (.call fmarks_of (.cons (.var 0) .nil))) (.cons (.iff (.or (.not (.isi (.var 7) .dict)) (.cmp .ne (.var 7) (.var 5)))
    (.cons (.ret (.bl false)) .nil)
    .nil) (.cons (.ret (.blt .all (.cons (.orX (.comp [9] (.nm 9) (.seq (.var 5)) .nil (.call f_law_is_place (.cons (.ix (.var 7) (.var 9)) (.cons (.var 2) .nil)))) (.compD [9] (.nm 9) 5 .nil (.call f_law_is_place (.cons (.ix (.var 7) (.var 9)) (.cons (.var 2) .nil))))) .nil))) .nil))))))))))))))
def e_law_right : DefE := ⟨"_law_right", topS 38, ["body", "rows", "end", "entries", "steps", "marks", "told", "found", "row", "name", "place", "step"], ["body"], ⟨12, 1, b_law_right⟩⟩
def blaw : MSs :=
  (.cons (.asg (.tg (.nm 1)) (.call f_law_begin (.cons (.var 0) .nil))) (.cons (.asg (.tg (.nm 2)) (.call f_law_body (.cons (.var 1) .nil))) (.cons (.asg (.tg (.nm 3)) (.call f_law_body (.cons (.var 1) .nil))) (.cons (.iff (.not (.call f_law_right (.cons (.var 2) .nil)))
    (.cons (.ret (.bl false)) .nil)
    .nil) (.cons (.asg (.tg (.nm 4)) (.call fmarks_of (.cons (.var 2) .nil))) (.cons (.for_ (.nm 5) (.seq (.keysOf (.var 4)))
    (.cons (.asg (.ix (.var 4) (.var 5)) (.bin .add (.ix (.var 4) (.var 5)) (.int 1))) .nil)) (.cons (.asg (.ix (.var 4) (.str "none such")) (.int 0)) (.cons (.ret (.and (.call f_law_right (.cons (.var 3) .nil)) (.call f_law_right (.cons (.var 2) .nil)))) .nil))))))))
def elaw : DefE := ⟨"law", topS 39, ["script", "d", "one", "other", "told", "name"], ["script"], ⟨6, 1, blaw⟩⟩
def es : List DefE := [ebodies_of, eexpr_names, estatements_of, esteps_in, enumbered_from, enumbered, estep_at, enote_steps, esteps_of, enote_marks, emarks_of, e_law_begin, e_law_draw, e_law_pick, e_law_shuffled, e_law_pool, e_law_steps_in, e_law_inner, e_law_names_of, e_law_spun, e_law_sum_of, e_law_truth_of, e_law_some, e_law_plain_step, e_law_some_body, e_law_one_step, e_law_block, e_law_body, e_law_entries, e_law_told_body, e_law_here, e_law_note, e_law_flat, e_law_right_names, e_law_is_place, e_law_right, elaw]
theorem tbodies_of : fits (tabOf es) ebodies_of.st ebodies_of.d := ⟨by kernel_rfl, rfl, rfl, by kernel_rfl⟩
theorem texpr_names : fits (tabOf es) eexpr_names.st eexpr_names.d := ⟨by kernel_rfl, rfl, rfl, by kernel_rfl⟩
theorem tstatements_of : fits (tabOf es) estatements_of.st estatements_of.d := ⟨by kernel_rfl, rfl, rfl, by kernel_rfl⟩
theorem tsteps_in : fits (tabOf es) esteps_in.st esteps_in.d := ⟨by kernel_rfl, rfl, rfl, by kernel_rfl⟩
theorem tnumbered_from : fits (tabOf es) enumbered_from.st enumbered_from.d := ⟨by kernel_rfl, rfl, rfl, by kernel_rfl⟩
theorem tnumbered : fits (tabOf es) enumbered.st enumbered.d := ⟨by kernel_rfl, rfl, rfl, by kernel_rfl⟩
theorem tstep_at : fits (tabOf es) estep_at.st estep_at.d := ⟨by kernel_rfl, rfl, rfl, by kernel_rfl⟩
theorem tnote_steps : fits (tabOf es) enote_steps.st enote_steps.d := ⟨by kernel_rfl, rfl, rfl, by kernel_rfl⟩
theorem tsteps_of : fits (tabOf es) esteps_of.st esteps_of.d := ⟨by kernel_rfl, rfl, rfl, by kernel_rfl⟩
theorem tnote_marks : fits (tabOf es) enote_marks.st enote_marks.d := ⟨by kernel_rfl, rfl, rfl, by kernel_rfl⟩
theorem tmarks_of : fits (tabOf es) emarks_of.st emarks_of.d := ⟨by kernel_rfl, rfl, rfl, by kernel_rfl⟩
theorem t_law_begin : fits (tabOf es) e_law_begin.st e_law_begin.d := ⟨by kernel_rfl, rfl, rfl, by kernel_rfl⟩
theorem t_law_draw : fits (tabOf es) e_law_draw.st e_law_draw.d := ⟨by kernel_rfl, rfl, rfl, by kernel_rfl⟩
theorem t_law_pick : fits (tabOf es) e_law_pick.st e_law_pick.d := ⟨by kernel_rfl, rfl, rfl, by kernel_rfl⟩
theorem t_law_shuffled : fits (tabOf es) e_law_shuffled.st e_law_shuffled.d := ⟨by kernel_rfl, rfl, rfl, by kernel_rfl⟩
theorem t_law_pool : fits (tabOf es) e_law_pool.st e_law_pool.d := ⟨by kernel_rfl, rfl, rfl, by kernel_rfl⟩
theorem t_law_steps_in : fits (tabOf es) e_law_steps_in.st e_law_steps_in.d := ⟨by kernel_rfl, rfl, rfl, by kernel_rfl⟩
theorem t_law_inner : fits (tabOf es) e_law_inner.st e_law_inner.d := ⟨by kernel_rfl, rfl, rfl, by kernel_rfl⟩
theorem t_law_names_of : fits (tabOf es) e_law_names_of.st e_law_names_of.d := ⟨by kernel_rfl, rfl, rfl, by kernel_rfl⟩
theorem t_law_spun : fits (tabOf es) e_law_spun.st e_law_spun.d := ⟨by kernel_rfl, rfl, rfl, by kernel_rfl⟩
theorem t_law_sum_of : fits (tabOf es) e_law_sum_of.st e_law_sum_of.d := ⟨by kernel_rfl, rfl, rfl, by kernel_rfl⟩
theorem t_law_truth_of : fits (tabOf es) e_law_truth_of.st e_law_truth_of.d := ⟨by kernel_rfl, rfl, rfl, by kernel_rfl⟩
theorem t_law_some : fits (tabOf es) e_law_some.st e_law_some.d := ⟨by kernel_rfl, rfl, rfl, by kernel_rfl⟩
theorem t_law_plain_step : fits (tabOf es) e_law_plain_step.st e_law_plain_step.d := ⟨by kernel_rfl, rfl, rfl, by kernel_rfl⟩
theorem t_law_some_body : fits (tabOf es) e_law_some_body.st e_law_some_body.d := ⟨by kernel_rfl, rfl, rfl, by kernel_rfl⟩
theorem t_law_one_step : fits (tabOf es) e_law_one_step.st e_law_one_step.d := ⟨by kernel_rfl, rfl, rfl, by kernel_rfl⟩
theorem t_law_block : fits (tabOf es) e_law_block.st e_law_block.d := ⟨by kernel_rfl, rfl, rfl, by kernel_rfl⟩
theorem t_law_body : fits (tabOf es) e_law_body.st e_law_body.d := ⟨by kernel_rfl, rfl, rfl, by kernel_rfl⟩
theorem t_law_entries : fits (tabOf es) e_law_entries.st e_law_entries.d := ⟨by kernel_rfl, rfl, rfl, by kernel_rfl⟩
theorem t_law_told_body : fits (tabOf es) e_law_told_body.st e_law_told_body.d := ⟨by kernel_rfl, rfl, rfl, by kernel_rfl⟩
theorem t_law_here : fits (tabOf es) e_law_here.st e_law_here.d := ⟨by kernel_rfl, rfl, rfl, by kernel_rfl⟩
theorem t_law_note : fits (tabOf es) e_law_note.st e_law_note.d := ⟨by kernel_rfl, rfl, rfl, by kernel_rfl⟩
theorem t_law_flat : fits (tabOf es) e_law_flat.st e_law_flat.d := ⟨by kernel_rfl, rfl, rfl, by kernel_rfl⟩
theorem t_law_right_names : fits (tabOf es) e_law_right_names.st e_law_right_names.d := ⟨by kernel_rfl, rfl, rfl, by kernel_rfl⟩
theorem t_law_is_place : fits (tabOf es) e_law_is_place.st e_law_is_place.d := ⟨by kernel_rfl, rfl, rfl, by kernel_rfl⟩
theorem t_law_right : fits (tabOf es) e_law_right.st e_law_right.d := ⟨by kernel_rfl, rfl, rfl, by kernel_rfl⟩
theorem tlaw : fits (tabOf es) elaw.st elaw.d := ⟨by kernel_rfl, rfl, rfl, by kernel_rfl⟩
theorem cbodies_of {k : Nat} {a0 : D} {S : Sto} {Q : KD} {E : Ex → Sto → Prop} (h : wpSs (callM (progOf es) k) bbodies_of ⟨fun _ S' => Q .non S', Q, fun _ _ => False, fun _ _ => False, fun x _ S' => E x S'⟩ [some a0] S) : callM (progOf es) (k + 1) fbodies_of [a0] S Q E := ⟨rfl, h⟩
theorem cexpr_names {k : Nat} {a0 : D} {S : Sto} {Q : KD} {E : Ex → Sto → Prop} (h : wpSs (callM (progOf es) k) bexpr_names ⟨fun _ S' => Q .non S', Q, fun _ _ => False, fun _ _ => False, fun x _ S' => E x S'⟩ [some a0, none, none, none] S) : callM (progOf es) (k + 1) fexpr_names [a0] S Q E := ⟨rfl, h⟩
theorem cstatements_of {k : Nat} {a0 : D} {S : Sto} {Q : KD} {E : Ex → Sto → Prop} (h : wpSs (callM (progOf es) k) bstatements_of ⟨fun _ S' => Q .non S', Q, fun _ _ => False, fun _ _ => False, fun x _ S' => E x S'⟩ [some a0, none, none, none] S) : callM (progOf es) (k + 1) fstatements_of [a0] S Q E := ⟨rfl, h⟩
theorem csteps_in {k : Nat} {a0 : D} {S : Sto} {Q : KD} {E : Ex → Sto → Prop} (h : wpSs (callM (progOf es) k) bsteps_in ⟨fun _ S' => Q .non S', Q, fun _ _ => False, fun _ _ => False, fun x _ S' => E x S'⟩ [some a0, none] S) : callM (progOf es) (k + 1) fsteps_in [a0] S Q E := ⟨rfl, h⟩
theorem cnumbered_from {k : Nat} {a0 a1 : D} {S : Sto} {Q : KD} {E : Ex → Sto → Prop} (h : wpSs (callM (progOf es) k) bnumbered_from ⟨fun _ S' => Q .non S', Q, fun _ _ => False, fun _ _ => False, fun x _ S' => E x S'⟩ [some a0, some a1, none, none, none, none, none] S) : callM (progOf es) (k + 1) fnumbered_from [a0, a1] S Q E := ⟨rfl, h⟩
theorem cnumbered {k : Nat} {a0 : D} {S : Sto} {Q : KD} {E : Ex → Sto → Prop} (h : wpSs (callM (progOf es) k) bnumbered ⟨fun _ S' => Q .non S', Q, fun _ _ => False, fun _ _ => False, fun x _ S' => E x S'⟩ [some a0] S) : callM (progOf es) (k + 1) fnumbered [a0] S Q E := ⟨rfl, h⟩
theorem cstep_at {k : Nat} {a0 a1 a2 : D} {S : Sto} {Q : KD} {E : Ex → Sto → Prop} (h : wpSs (callM (progOf es) k) bstep_at ⟨fun _ S' => Q .non S', Q, fun _ _ => False, fun _ _ => False, fun x _ S' => E x S'⟩ [some a0, some a1, some a2, none] S) : callM (progOf es) (k + 1) fstep_at [a0, a1, a2] S Q E := ⟨rfl, h⟩
theorem cnote_steps {k : Nat} {a0 a1 a2 a3 : D} {S : Sto} {Q : KD} {E : Ex → Sto → Prop} (h : wpSs (callM (progOf es) k) bnote_steps ⟨fun _ S' => Q .non S', Q, fun _ _ => False, fun _ _ => False, fun x _ S' => E x S'⟩ [some a0, some a1, some a2, some a3, none, none, none, none, none, none, none, none] S) : callM (progOf es) (k + 1) fnote_steps [a0, a1, a2, a3] S Q E := ⟨rfl, h⟩
theorem csteps_of {k : Nat} {a0 : D} {S : Sto} {Q : KD} {E : Ex → Sto → Prop} (h : wpSs (callM (progOf es) k) bsteps_of ⟨fun _ S' => Q .non S', Q, fun _ _ => False, fun _ _ => False, fun x _ S' => E x S'⟩ [some a0, none, none, none] S) : callM (progOf es) (k + 1) fsteps_of [a0] S Q E := ⟨rfl, h⟩
theorem cnote_marks {k : Nat} {a0 a1 a2 a3 : D} {S : Sto} {Q : KD} {E : Ex → Sto → Prop} (h : wpSs (callM (progOf es) k) bnote_marks ⟨fun _ S' => Q .non S', Q, fun _ _ => False, fun _ _ => False, fun x _ S' => E x S'⟩ [some a0, some a1, some a2, some a3, none, none, none, none, none, none] S) : callM (progOf es) (k + 1) fnote_marks [a0, a1, a2, a3] S Q E := ⟨rfl, h⟩
theorem cmarks_of {k : Nat} {a0 : D} {S : Sto} {Q : KD} {E : Ex → Sto → Prop} (h : wpSs (callM (progOf es) k) bmarks_of ⟨fun _ S' => Q .non S', Q, fun _ _ => False, fun _ _ => False, fun x _ S' => E x S'⟩ [some a0, none] S) : callM (progOf es) (k + 1) fmarks_of [a0] S Q E := ⟨rfl, h⟩
theorem c_law_begin {k : Nat} {a0 : D} {S : Sto} {Q : KD} {E : Ex → Sto → Prop} (h : wpSs (callM (progOf es) k) b_law_begin ⟨fun _ S' => Q .non S', Q, fun _ _ => False, fun _ _ => False, fun x _ S' => E x S'⟩ [some a0] S) : callM (progOf es) (k + 1) f_law_begin [a0] S Q E := ⟨rfl, h⟩
theorem c_law_draw {k : Nat} {a0 a1 : D} {S : Sto} {Q : KD} {E : Ex → Sto → Prop} (h : wpSs (callM (progOf es) k) b_law_draw ⟨fun _ S' => Q .non S', Q, fun _ _ => False, fun _ _ => False, fun x _ S' => E x S'⟩ [some a0, some a1, none, none, none, none] S) : callM (progOf es) (k + 1) f_law_draw [a0, a1] S Q E := ⟨rfl, h⟩
theorem c_law_pick {k : Nat} {a0 a1 : D} {S : Sto} {Q : KD} {E : Ex → Sto → Prop} (h : wpSs (callM (progOf es) k) b_law_pick ⟨fun _ S' => Q .non S', Q, fun _ _ => False, fun _ _ => False, fun x _ S' => E x S'⟩ [some a0, some a1] S) : callM (progOf es) (k + 1) f_law_pick [a0, a1] S Q E := ⟨rfl, h⟩
theorem c_law_shuffled {k : Nat} {a0 a1 : D} {S : Sto} {Q : KD} {E : Ex → Sto → Prop} (h : wpSs (callM (progOf es) k) b_law_shuffled ⟨fun _ S' => Q .non S', Q, fun _ _ => False, fun _ _ => False, fun x _ S' => E x S'⟩ [some a0, some a1, none, none, none] S) : callM (progOf es) (k + 1) f_law_shuffled [a0, a1] S Q E := ⟨rfl, h⟩
theorem c_law_pool {k : Nat} {S : Sto} {Q : KD} {E : Ex → Sto → Prop} (h : wpSs (callM (progOf es) k) b_law_pool ⟨fun _ S' => Q .non S', Q, fun _ _ => False, fun _ _ => False, fun x _ S' => E x S'⟩ [] S) : callM (progOf es) (k + 1) f_law_pool [] S Q E := ⟨rfl, h⟩
theorem c_law_steps_in {k : Nat} {a0 : D} {S : Sto} {Q : KD} {E : Ex → Sto → Prop} (h : wpSs (callM (progOf es) k) b_law_steps_in ⟨fun _ S' => Q .non S', Q, fun _ _ => False, fun _ _ => False, fun x _ S' => E x S'⟩ [some a0, none, none, none] S) : callM (progOf es) (k + 1) f_law_steps_in [a0] S Q E := ⟨rfl, h⟩
theorem c_law_inner {k : Nat} {a0 : D} {S : Sto} {Q : KD} {E : Ex → Sto → Prop} (h : wpSs (callM (progOf es) k) b_law_inner ⟨fun _ S' => Q .non S', Q, fun _ _ => False, fun _ _ => False, fun x _ S' => E x S'⟩ [some a0] S) : callM (progOf es) (k + 1) f_law_inner [a0] S Q E := ⟨rfl, h⟩
theorem c_law_names_of {k : Nat} {a0 : D} {S : Sto} {Q : KD} {E : Ex → Sto → Prop} (h : wpSs (callM (progOf es) k) b_law_names_of ⟨fun _ S' => Q .non S', Q, fun _ _ => False, fun _ _ => False, fun x _ S' => E x S'⟩ [some a0, none, none] S) : callM (progOf es) (k + 1) f_law_names_of [a0] S Q E := ⟨rfl, h⟩
theorem c_law_spun {k : Nat} {a0 : D} {S : Sto} {Q : KD} {E : Ex → Sto → Prop} (h : wpSs (callM (progOf es) k) b_law_spun ⟨fun _ S' => Q .non S', Q, fun _ _ => False, fun _ _ => False, fun x _ S' => E x S'⟩ [some a0, none, none] S) : callM (progOf es) (k + 1) f_law_spun [a0] S Q E := ⟨rfl, h⟩
theorem c_law_sum_of {k : Nat} {a0 a1 a2 : D} {S : Sto} {Q : KD} {E : Ex → Sto → Prop} (h : wpSs (callM (progOf es) k) b_law_sum_of ⟨fun _ S' => Q .non S', Q, fun _ _ => False, fun _ _ => False, fun x _ S' => E x S'⟩ [some a0, some a1, some a2, none, none, none] S) : callM (progOf es) (k + 1) f_law_sum_of [a0, a1, a2] S Q E := ⟨rfl, h⟩
theorem c_law_truth_of {k : Nat} {a0 a1 a2 : D} {S : Sto} {Q : KD} {E : Ex → Sto → Prop} (h : wpSs (callM (progOf es) k) b_law_truth_of ⟨fun _ S' => Q .non S', Q, fun _ _ => False, fun _ _ => False, fun x _ S' => E x S'⟩ [some a0, some a1, some a2, none, none, none] S) : callM (progOf es) (k + 1) f_law_truth_of [a0, a1, a2] S Q E := ⟨rfl, h⟩
theorem c_law_some {k : Nat} {a0 a1 : D} {S : Sto} {Q : KD} {E : Ex → Sto → Prop} (h : wpSs (callM (progOf es) k) b_law_some ⟨fun _ S' => Q .non S', Q, fun _ _ => False, fun _ _ => False, fun x _ S' => E x S'⟩ [some a0, some a1] S) : callM (progOf es) (k + 1) f_law_some [a0, a1] S Q E := ⟨rfl, h⟩
theorem c_law_plain_step {k : Nat} {a0 a1 a2 : D} {S : Sto} {Q : KD} {E : Ex → Sto → Prop} (h : wpSs (callM (progOf es) k) b_law_plain_step ⟨fun _ S' => Q .non S', Q, fun _ _ => False, fun _ _ => False, fun x _ S' => E x S'⟩ [some a0, some a1, some a2, none, none, none, none] S) : callM (progOf es) (k + 1) f_law_plain_step [a0, a1, a2] S Q E := ⟨rfl, h⟩
theorem c_law_some_body {k : Nat} {a0 a1 a2 a3 a4 a5 : D} {S : Sto} {Q : KD} {E : Ex → Sto → Prop} (h : wpSs (callM (progOf es) k) b_law_some_body ⟨fun _ S' => Q .non S', Q, fun _ _ => False, fun _ _ => False, fun x _ S' => E x S'⟩ [some a0, some a1, some a2, some a3, some a4, some a5] S) : callM (progOf es) (k + 1) f_law_some_body [a0, a1, a2, a3, a4, a5] S Q E := ⟨rfl, h⟩
theorem c_law_one_step {k : Nat} {a0 a1 a2 a3 a4 a5 : D} {S : Sto} {Q : KD} {E : Ex → Sto → Prop} (h : wpSs (callM (progOf es) k) b_law_one_step ⟨fun _ S' => Q .non S', Q, fun _ _ => False, fun _ _ => False, fun x _ S' => E x S'⟩ [some a0, some a1, some a2, some a3, some a4, some a5, none, none, none, none, none] S) : callM (progOf es) (k + 1) f_law_one_step [a0, a1, a2, a3, a4, a5] S Q E := ⟨rfl, h⟩
theorem c_law_block {k : Nat} {a0 a1 a2 a3 a4 a5 : D} {S : Sto} {Q : KD} {E : Ex → Sto → Prop} (h : wpSs (callM (progOf es) k) b_law_block ⟨fun _ S' => Q .non S', Q, fun _ _ => False, fun _ _ => False, fun x _ S' => E x S'⟩ [some a0, some a1, some a2, some a3, some a4, some a5, none, none] S) : callM (progOf es) (k + 1) f_law_block [a0, a1, a2, a3, a4, a5] S Q E := ⟨rfl, h⟩
theorem c_law_body {k : Nat} {a0 : D} {S : Sto} {Q : KD} {E : Ex → Sto → Prop} (h : wpSs (callM (progOf es) k) b_law_body ⟨fun _ S' => Q .non S', Q, fun _ _ => False, fun _ _ => False, fun x _ S' => E x S'⟩ [some a0, none, none, none, none] S) : callM (progOf es) (k + 1) f_law_body [a0] S Q E := ⟨rfl, h⟩
theorem c_law_entries {k : Nat} {a0 a1 : D} {S : Sto} {Q : KD} {E : Ex → Sto → Prop} (h : wpSs (callM (progOf es) k) b_law_entries ⟨fun _ S' => Q .non S', Q, fun _ _ => False, fun _ _ => False, fun x _ S' => E x S'⟩ [some a0, some a1, none, none, none, none, none] S) : callM (progOf es) (k + 1) f_law_entries [a0, a1] S Q E := ⟨rfl, h⟩
theorem c_law_told_body {k : Nat} {a0 : D} {S : Sto} {Q : KD} {E : Ex → Sto → Prop} (h : wpSs (callM (progOf es) k) b_law_told_body ⟨fun _ S' => Q .non S', Q, fun _ _ => False, fun _ _ => False, fun x _ S' => E x S'⟩ [some a0, none, none, none, none] S) : callM (progOf es) (k + 1) f_law_told_body [a0] S Q E := ⟨rfl, h⟩
theorem c_law_here {k : Nat} {a0 a1 : D} {S : Sto} {Q : KD} {E : Ex → Sto → Prop} (h : wpSs (callM (progOf es) k) b_law_here ⟨fun _ S' => Q .non S', Q, fun _ _ => False, fun _ _ => False, fun x _ S' => E x S'⟩ [some a0, some a1, none] S) : callM (progOf es) (k + 1) f_law_here [a0, a1] S Q E := ⟨rfl, h⟩
theorem c_law_note {k : Nat} {a0 a1 a2 a3 a4 : D} {S : Sto} {Q : KD} {E : Ex → Sto → Prop} (h : wpSs (callM (progOf es) k) b_law_note ⟨fun _ S' => Q .non S', Q, fun _ _ => False, fun _ _ => False, fun x _ S' => E x S'⟩ [some a0, some a1, some a2, some a3, some a4, none, none, none, none, none, none] S) : callM (progOf es) (k + 1) f_law_note [a0, a1, a2, a3, a4] S Q E := ⟨rfl, h⟩
theorem c_law_flat {k : Nat} {a0 : D} {S : Sto} {Q : KD} {E : Ex → Sto → Prop} (h : wpSs (callM (progOf es) k) b_law_flat ⟨fun _ S' => Q .non S', Q, fun _ _ => False, fun _ _ => False, fun x _ S' => E x S'⟩ [some a0, none, none] S) : callM (progOf es) (k + 1) f_law_flat [a0] S Q E := ⟨rfl, h⟩
theorem c_law_right_names {k : Nat} {a0 : D} {S : Sto} {Q : KD} {E : Ex → Sto → Prop} (h : wpSs (callM (progOf es) k) b_law_right_names ⟨fun _ S' => Q .non S', Q, fun _ _ => False, fun _ _ => False, fun x _ S' => E x S'⟩ [some a0, none, none, none] S) : callM (progOf es) (k + 1) f_law_right_names [a0] S Q E := ⟨rfl, h⟩
theorem c_law_is_place {k : Nat} {a0 a1 : D} {S : Sto} {Q : KD} {E : Ex → Sto → Prop} (h : wpSs (callM (progOf es) k) b_law_is_place ⟨fun _ S' => Q .non S', Q, fun _ _ => False, fun _ _ => False, fun x _ S' => E x S'⟩ [some a0, some a1] S) : callM (progOf es) (k + 1) f_law_is_place [a0, a1] S Q E := ⟨rfl, h⟩
theorem c_law_right {k : Nat} {a0 : D} {S : Sto} {Q : KD} {E : Ex → Sto → Prop} (h : wpSs (callM (progOf es) k) b_law_right ⟨fun _ S' => Q .non S', Q, fun _ _ => False, fun _ _ => False, fun x _ S' => E x S'⟩ [some a0, none, none, none, none, none, none, none, none, none, none, none] S) : callM (progOf es) (k + 1) f_law_right [a0] S Q E := ⟨rfl, h⟩
theorem claw {k : Nat} {a0 : D} {S : Sto} {Q : KD} {E : Ex → Sto → Prop} (h : wpSs (callM (progOf es) k) blaw ⟨fun _ S' => Q .non S', Q, fun _ _ => False, fun _ _ => False, fun x _ S' => E x S'⟩ [some a0, none, none, none, none, none] S) : callM (progOf es) (k + 1) flaw [a0] S Q E := ⟨rfl, h⟩
theorem fit_all : ∀ e ∈ es, fits (tabOf es) e.st e.d := by
  simp only [es, List.forall_mem_cons]
  exact ⟨tbodies_of, texpr_names, tstatements_of, tsteps_in, tnumbered_from, tnumbered, tstep_at, tnote_steps, tsteps_of, tnote_marks, tmarks_of, t_law_begin, t_law_draw, t_law_pick, t_law_shuffled, t_law_pool, t_law_steps_in, t_law_inner, t_law_names_of, t_law_spun, t_law_sum_of, t_law_truth_of, t_law_some, t_law_plain_step, t_law_some_body, t_law_one_step, t_law_block, t_law_body, t_law_entries, t_law_told_body, t_law_here, t_law_note, t_law_flat, t_law_right_names, t_law_is_place, t_law_right, tlaw, fun _ h => by cases h⟩
end K17
/-! K17A: law k17, statements, what is told of them. -/
namespace K17
open PySem PySem.Spec PyProof.Rows L2 MP
local macro_rules | `(tactic| walk_at "look") => `(tactic| first | assumption | exact g_last | (with_reducible apply g_set; walk_at "look") | ((with_reducible refine g_setn ?h1 ?h2); (case h1 => first | assumption | omega | (apply Ne.symm; assumption)); (case h2 => walk_at "look")) | ((with_reducible refine g_app ?_); walk_at "look") | ((with_reducible refine' Fr.get ?h1 ?h2 ?h3); (case h1 => assumption); (case h2 => first | assumption | omega | (apply Ne.symm; assumption)); (case h3 => walk_at "look")) | ((with_reducible refine' Ch.get ?h1 ?h2 ?h3); (case h1 => assumption); (case h2 => first | assumption | (simp; done) | (simp only [List.mem_cons, List.not_mem_nil, or_false, not_or]; omega)); (case h3 => walk_at "look")))
local macro_rules | `(tactic| walk_at "kn") => `(tactic| first | assumption | omega | (simp; done) | decide)
local macro_rules | `(tactic| walk_at "sz") => `(tactic| first | assumption | (rw [sizeLine_eq]; first | omega | (simp; done) | (simp; omega)))
local macro_rules | `(tactic| walk_at "at") => `(tactic| first | exact rfl | assumption)
local macro_rules | `(tactic| walk_at "mp1") => `(tactic| first
  | with_reducible refine s_cons ?_ | with_reducible refine s_nil ?_ | with_reducible refine s_nm ?_ | with_reducible refine s_ix ?_ | with_reducible refine s_asg ?_ | with_reducible refine s_ex ?_ | with_reducible refine s_iff ?_ | with_reducible refine s_ret ?_ | with_reducible refine s_for ?_
  | ((with_reducible refine' e_var ?h1 ?_); (case h1 => exact rfl)) | with_reducible refine e_int ?_ | with_reducible refine e_bin ?_ | with_reducible refine e_cmp ?_ | with_reducible refine e_ix ?_ | with_reducible refine e_call ?_ | with_reducible refine e_blt ?_ | with_reducible refine e_bl ?_ | with_reducible refine e_and ?_ | with_reducible refine e_or ?_ | with_reducible refine e_not ?_ | with_reducible refine e_ite ?_
  | with_reducible refine es_cons ?_ | with_reducible refine es_nil ?_ | with_reducible refine e_tup ?_ | with_reducible refine e_lst ?_ | with_reducible refine e_meth ?_ | with_reducible refine e_comp ?_ | with_reducible refine e_sl ?_ | with_reducible refine e_neg ?_ | with_reducible refine e_isi ?_ | with_reducible refine e_lrg ?_ | with_reducible refine e_non ?_ | with_reducible refine e_str ?_ | with_reducible refine e_fnv ?_ | with_reducible refine e_orl ?_ | with_reducible refine e_dnew ?_ | with_reducible refine e_dget ?_ | with_reducible refine e_dget2 ?_
  | with_reducible refine o_no ?_ | with_reducible refine o_so ?_ | with_reducible refine i_rng ?_ | with_reducible refine i_seq ?_ | with_reducible refine i_enum ?_ | with_reducible refine if_nil ?_ | with_reducible refine if_cons ?_ | with_reducible refine rg_1 ?_ | with_reducible refine rg_2 ?_
  | with_reducible refine b_add ?_ | with_reducible refine b_sub ?_ | ((with_reducible refine' b_mul ?h1 ?_); (case h1 => first | assumption | mul_fits)) | ((with_reducible refine' b_fdiv ?h1 ?h2 ?_); (case h1 => walk_at "kn"); (case h2 => first | assumption | decide)) | ((with_reducible refine' b_mod ?h1 ?_); (case h1 => walk_at "kn")) | ((with_reducible refine' b_pow ?h1 ?_); (case h1 => first | assumption | exact ⟨by decide, by decide, by decide⟩)) | ((with_reducible refine' b_shr ?h1 ?_); (case h1 => walk_at "kn")) | ((with_reducible refine' b_shl ?h1 ?_); (case h1 => assumption)) | with_reducible refine b_and ?_ | with_reducible refine b_or ?_ | with_reducible refine b_xor ?_
  | with_reducible refine c_lt ?_ | with_reducible refine c_le ?_ | with_reducible refine c_gt ?_ | with_reducible refine c_ge ?_ | with_reducible refine c_eqi ?_ | with_reducible refine c_nei ?_ | with_reducible refine c_eqb ?_ | with_reducible refine c_neb ?_ | with_reducible refine c_eqs ?_ | with_reducible refine c_nes ?_
  | with_reducible refine t_bl ?_ | with_reducible refine t_int ?_ | with_reducible refine t_tup ?_ | with_reducible refine t_non ?_
  | ((with_reducible refine' x_ref ?h1 ?h2 ?_); (case h1 => walk_at "look"); (case h2 => walk_at "at")) | ((with_reducible refine' x_tup ?h1 ?_); (case h1 => walk_at "at")) | ((with_reducible refine' x_klst ?h1 ?_); (case h1 => walk_at "at"))
  | ((with_reducible refine' set_ref ?h1 ?h2 ?_); (case h1 => walk_at "look"); (case h2 => walk_at "at"))
  | ((with_reducible refine' f_lenr ?h1 ?_); (case h1 => walk_at "look")) | with_reducible refine f_lent ?_ | with_reducible refine f_lenk ?_ | with_reducible refine f_int ?_ | ((with_reducible refine' f_listr ?h1 ?_); (case h1 => walk_at "look")) | with_reducible refine f_listt ?_ | with_reducible refine f_listk ?_ | ((with_reducible refine' f_tupr ?h1 ?_); (case h1 => walk_at "look")) | with_reducible refine f_tupt ?_ | with_reducible refine f_max ?_ | with_reducible refine f_min ?_
  | with_reducible refine sl_klst ?_ | ((with_reducible refine' sl_ref ?h1 ?_); (case h1 => walk_at "look")) | with_reducible refine sl_tup ?_
  | ((with_reducible refine' m_app ?h1 ?h2 ?_); (case h1 => walk_at "look"); (case h2 => walk_at "sz")) | ((with_reducible refine' m_ext ?h1 ?h2 ?h3 ?_); (case h1 => walk_at "look"); (case h2 => walk_at "look"); (case h3 => walk_at "sz")) | ((with_reducible refine' m_extT ?h1 ?h3 ?_); (case h1 => walk_at "look"); (case h3 => walk_at "sz"))
  | with_reducible refine k_t ?_ | with_reducible refine k_f ?_ | with_reducible refine k_nt ?_ | with_reducible refine k_nf ?_
  | ((with_reducible refine' d_t ?h1 ?_); (case h1 => first | assumption | omega)) | ((with_reducible refine' d_f ?h1 ?_); (case h1 => first | assumption | omega)) | ((with_reducible refine' d_nt ?h1 ?_); (case h1 => first | assumption | omega)) | ((with_reducible refine' d_nf ?h1 ?_); (case h1 => first | assumption | omega))
  | ((with_reducible refine' And.intro (r_lst ?h1 ?h2) ?_); (case h1 => decide); (case h2 => walk_at "look")) | (with_reducible refine And.intro r_int ?_)
  | ((with_reducible refine And.intro ?h1 ?_); (case h1 => (with_reducible show List.length _ ≤ sizeLine); walk_at "sz"))
  | dsimp only
  | dsimp only [isTy_int, isTy_bl, isTy_str, isTy_non, isTy_tup])
local macro_rules | `(tactic| walk_at "mp") => `(tactic| repeat walk_at "mp1")

abbrev C (k : Nat) : CallT := callM (progOf es) k
theorem hC (k : Nat) : CallMono (C k) (C k) := callM_mono (progOf es) k
theorem draw_is {k : Nat} (h : 1 ≤ k) : DrawSpec (C k) f_law_draw := by
  obtain ⟨k, rfl⟩ := up h
  exact fun a b many S Q E ds hm q => c_law_draw (draw_ok ds hm q)

/-! ### expressions -/
inductive EX where
  | num (i : Int) | nm (x : Str) | not (e : EX) | bin (o : Str) (a b : EX)
def eD : EX → D
  | .num i => .tup [.str "number", .int i]
  | .nm x => .tup [.str "name", .str x]
  | .not e => .tup [.str "not", eD e]
  | .bin o a b => .tup [.str o, eD a, eD b]
def okE : Nat → EX → Prop
  | _, .num _ => True
  | _, .nm x => PyData.strOk x = true
  | n + 1, .not e => okE n e
  | n + 1, .bin o a b => (PyData.strOk o = true ∧ o ≠ "name") ∧ okE n a ∧ okE n b
  | 0, _ => False
/-- its names, as often as they stand there -/
def nmsE : EX → List Str
  | .num _ => []
  | .nm x => [x]
  | .not e => nmsE e
  | .bin _ a b => nmsE a ++ nmsE b
theorem okE_mono : ∀ {n m : Nat} {e : EX}, n ≤ m → okE n e → okE m e
  | _, m, .num _, _, _ => by cases m <;> trivial
  | n, m, .nm x, _, h => by
    have h' : PyData.strOk x = true := by cases n <;> exact h
    cases m <;> exact h'
  | n + 1, m, .not e, l, h => by
    obtain ⟨j, rfl⟩ : ∃ j, m = j + 1 := ⟨m - 1, by omega⟩
    exact okE_mono (n := n) (m := j) (e := e) (by omega) h
  | n + 1, m, .bin o a b, l, h => by
    obtain ⟨j, rfl⟩ : ∃ j, m = j + 1 := ⟨m - 1, by omega⟩
    exact ⟨h.1, okE_mono (n := n) (m := j) (by omega) h.2.1, okE_mono (n := n) (m := j) (by omega) h.2.2⟩
  | 0, _, .not e, _, h => h.elim
  | 0, _, .bin o a b, _, h => h.elim
theorem okE_pu : ∀ {n : Nat} {e : EX}, okE n e → puD (n + 1) (eD e) = true
  | n, .num i, _ => pu2 (puD_str (by decide +kernel)) puD_int
  | n, .nm x, h => pu2 (puD_str (by decide +kernel)) (puD_str (by cases n <;> exact h))
  | n + 1, .not e, h => pu2 (puD_str (by decide +kernel)) (okE_pu (n := n) h)
  | n + 1, .bin o a b, h => pu3 (puD_str h.1.1) (okE_pu (n := n) h.2.1) (okE_pu (n := n) h.2.2)
  | 0, .not e, h => h.elim
  | 0, .bin o a b, h => h.elim

/-! ### statements -/
mutual
inductive T where
  | mark (x : Str)
  | leaf (h : Str) (r : List D) (e : EX)
  | whl (t : EX) (b : Ts)
  | loop (b : Ts)
  | iff (t : EX) (a b : Ts)
inductive Ts where
  | nil
  | cons (x : T) (r : Ts)
end
mutual
def tD : T → D
  | .mark x => .tup [.str "mark", .str x]
  | .leaf h r _ => .tup (.str h :: r)
  | .whl t b => .tup [.str "while", eD t, .tup (tsD b)]
  | .loop b => .tup [.str "loop", .tup (tsD b)]
  | .iff t a b => .tup [.str "if", eD t, .tup (tsD a), .tup (tsD b)]
def tsD : Ts → List D
  | .nil => []
  | .cons x r => tD x :: tsD r
end
/-- a leaf and the expression that stands in it -/
def leafOk (h : Str) (r : List D) (e : EX) : Prop :=
  (h = "set" ∧ ∃ x, r = [x, eD e]) ∨ ((h = "wait" ∨ h = "send") ∧ ∃ q, r = eD e :: q) ∨ ((h ≠ "set" ∧ h ≠ "wait" ∧ h ≠ "send") ∧ e = .num 0)
structure LeafOk (h : Str) (r : List D) (e : EX) : Prop where
  n1 : h ≠ "if"
  n2 : h ≠ "while"
  n3 : h ≠ "loop"
  n4 : h ≠ "mark"
  so : PyData.strOk h = true
  pu : ∀ x ∈ r, puD 6 x = true
  len : r.length ≤ 10
  ok : okE 4 e
  at_ : leafOk h r e
mutual
def okT : Nat → T → Prop
  | _, .mark x => PyData.strOk x = true
  | _, .leaf h r e => LeafOk h r e
  | n + 1, .whl t b => okE 4 t ∧ okS n b
  | n + 1, .loop b => okS n b
  | n + 1, .iff t a b => okE 4 t ∧ okS n a ∧ okS n b
  | 0, .whl _ _ => False
  | 0, .loop _ => False
  | 0, .iff _ _ _ => False
def okS : Nat → Ts → Prop
  | _, .nil => True
  | n, .cons x r => okT n x ∧ okS n r
end
/-! steps that are no marks; all statements, in the text's order -/
mutual
def cntT : T → Nat
  | .mark _ => 0
  | .leaf _ _ _ => 1
  | .whl _ b => 1 + cnt b
  | .loop b => 1 + cnt b
  | .iff _ a b => 1 + cnt a + cnt b
def cnt : Ts → Nat
  | .nil => 0
  | .cons x r => cntT x + cnt r
end
mutual
def flatT : T → List D
  | .mark x => [tD (.mark x)]
  | .leaf h r e => [tD (.leaf h r e)]
  | .whl t b => tD (.whl t b) :: flat b
  | .loop b => tD (.loop b) :: flat b
  | .iff t a b => tD (.iff t a b) :: (flat a ++ flat b)
def flat : Ts → List D
  | .nil => []
  | .cons x r => flatT x ++ flat r
end
/-- numbered -/
def numF : Ts → Nat → List D
  | .nil, _ => []
  | .cons (.mark _) r, p => numF r p
  | .cons (.leaf h q _) r, p => .tup [.int (p : Nat), .tup (.str h :: q)] :: numF r (p + 1)
  | .cons (.whl t b) r, p => .tup [.int (p : Nat), .tup [.str "while", eD t, .tup (numF b (p + 1))]] :: numF r (p + (1 + cnt b))
  | .cons (.loop b) r, p => .tup [.int (p : Nat), .tup [.str "loop", .tup (numF b (p + 1))]] :: numF r (p + (1 + cnt b))
  | .cons (.iff t a b) r, p => .tup [.int (p : Nat), .tup [.str "if", eD t, .tup (numF a (p + 1)), .tup (numF b (p + 1 + cnt a))]] :: numF r (p + (1 + cnt a + cnt b))
/-- where it goes on: the first step of what stands there, or behind it -/
def nxt (ts : Ts) (p b : Nat) : Nat := if 0 < cnt ts then p else b
/-- a leaf's step -/
def leafStep (h : Str) (q : List D) (after fin : Nat) : D :=
  if h = "stop" then .tup [.str "go", .int (fin : Nat)] else if h = "skip" then .tup [.str "go", .int (after : Nat)] else .tup (.str h :: q ++ [.int (after : Nat)])
/-- what is noted of the steps, in order -/
def wr : Ts → Nat → Nat → Nat → List (Key × D)
  | .nil, _, _, _ => []
  | .cons (.mark _) r, bh, fin, p => wr r bh fin p
  | .cons (.leaf h q _) r, bh, fin, p => (.inl (p : Nat), leafStep h q (nxt r (p + 1) bh) fin) :: wr r bh fin (p + 1)
  | .cons (.whl t b) r, bh, fin, p => (.inl (p : Nat), .tup [.str "if", eD t, .int (nxt b (p + 1) p : Nat), .int (nxt r (p + (1 + cnt b)) bh : Nat)]) :: (wr b p fin (p + 1) ++ wr r bh fin (p + (1 + cnt b)))
  | .cons (.loop b) r, bh, fin, p => (.inl (p : Nat), .tup [.str "go", .int (nxt b (p + 1) p : Nat)]) :: (wr b p fin (p + 1) ++ wr r bh fin (p + (1 + cnt b)))
  | .cons (.iff t a b) r, bh, fin, p => (.inl (p : Nat), .tup [.str "if", eD t, .int (nxt a (p + 1) (nxt r (p + (1 + cnt a + cnt b)) bh) : Nat), .int (nxt b (p + 1 + cnt a) (nxt r (p + (1 + cnt a + cnt b)) bh) : Nat)]) ::
      (wr a (nxt r (p + (1 + cnt a + cnt b)) bh) fin (p + 1) ++ wr b (nxt r (p + (1 + cnt a + cnt b)) bh) fin (p + 1 + cnt a) ++ wr r bh fin (p + (1 + cnt a + cnt b)))
/-- what is noted of the marks, in order -/
def mk : Ts → Nat → Nat → List (Key × D)
  | .nil, _, _ => []
  | .cons (.mark x) r, bh, p => (.inr x, .int (nxt r p bh : Nat)) :: mk r bh p
  | .cons (.leaf _ _ _) r, bh, p => mk r bh (p + 1)
  | .cons (.whl _ b) r, bh, p => mk b p (p + 1) ++ mk r bh (p + (1 + cnt b))
  | .cons (.loop b) r, bh, p => mk b p (p + 1) ++ mk r bh (p + (1 + cnt b))
  | .cons (.iff _ a b) r, bh, p => mk a (nxt r (p + (1 + cnt a + cnt b)) bh) (p + 1) ++ mk b (nxt r (p + (1 + cnt a + cnt b)) bh) (p + 1 + cnt a) ++ mk r bh (p + (1 + cnt a + cnt b))
/-- the dict that comes of it -/
def putAll (kvs : List (Key × D)) (ws : List (Key × D)) : List (Key × D) := ws.foldl (fun acc w => dPut acc w.1 w.2) kvs
theorem putAll_app (kvs ws vs : List (Key × D)) : putAll kvs (ws ++ vs) = putAll (putAll kvs ws) vs := List.foldl_append ..
theorem dPut_len (kvs : List (Key × D)) (k : Key) (v : D) : (dPut kvs k v).length ≤ kvs.length + 1 := by
  unfold dPut
  split
  · rw [List.length_map]; omega
  · simp
theorem putAll_len (kvs ws : List (Key × D)) : (putAll kvs ws).length ≤ kvs.length + ws.length := by
  induction ws generalizing kvs with
  | nil => exact Nat.le_refl _
  | cons w r ih =>
    have h1 := ih (dPut kvs w.1 w.2)
    have h2 := dPut_len kvs w.1 w.2
    show (putAll (dPut kvs w.1 w.2) r).length ≤ _
    rw [List.length_cons]
    omega
theorem cntT_pos {x : T} : (∃ y, x = .mark y) ∨ 1 ≤ cntT x := by
  cases x with
  | mark y => exact .inl ⟨y, rfl⟩
  | leaf h r e => exact .inr (Nat.le_refl _)
  | whl t b => right; unfold cntT; omega
  | loop b => right; unfold cntT; omega
  | iff t a b => right; unfold cntT; omega
/-- how many statements, at all levels -/
abbrev nod (ts : Ts) : Nat := (flat ts).length
mutual
theorem cntT_nod : ∀ x : T, cntT x ≤ (flatT x).length
  | .mark _ => by simp [cntT, flatT]
  | .leaf _ _ _ => by simp [cntT, flatT]
  | .whl _ b => by have := cnt_nod b; simp only [cntT, flatT, List.length_cons]; omega
  | .loop b => by have := cnt_nod b; simp only [cntT, flatT, List.length_cons]; omega
  | .iff _ a b => by have := cnt_nod a; have := cnt_nod b; simp only [cntT, flatT, List.length_cons, List.length_append]; omega
theorem cnt_nod : ∀ ts : Ts, cnt ts ≤ (flat ts).length
  | .nil => by simp [cnt]
  | .cons x r => by have := cntT_nod x; have := cnt_nod r; simp only [cnt, flat, List.length_append]; omega
end
theorem tsD_len : ∀ ts : Ts, (tsD ts).length ≤ nod ts
  | .nil => by simp [tsD]
  | .cons x r => by
    have := tsD_len r
    have : 1 ≤ (flatT x).length := by cases x <;> simp [flatT]
    simp only [tsD, List.length_cons, nod, flat, List.length_append] at *
    omega
theorem numF_len : ∀ (ts : Ts) (p : Nat), (numF ts p).length ≤ (tsD ts).length
  | .nil, _ => by simp [numF]
  | .cons (.mark _) r, p => by have := numF_len r p; simp only [numF, tsD, List.length_cons]; omega
  | .cons (.leaf h q e) r, p => by have := numF_len r (p + 1); simp only [numF, tsD, List.length_cons]; omega
  | .cons (.whl t b) r, p => by have := numF_len r (p + (1 + cnt b)); simp only [numF, tsD, List.length_cons]; omega
  | .cons (.loop b) r, p => by have := numF_len r (p + (1 + cnt b)); simp only [numF, tsD, List.length_cons]; omega
  | .cons (.iff t a b) r, p => by have := numF_len r (p + (1 + cnt a + cnt b)); simp only [numF, tsD, List.length_cons]; omega
theorem wr_len : ∀ (ts : Ts) (bh fin p : Nat), (wr ts bh fin p).length ≤ cnt ts
  | .nil, _, _, _ => by simp [wr]
  | .cons (.mark _) r, bh, fin, p => by have := wr_len r bh fin p; simp only [wr, cnt, cntT]; omega
  | .cons (.leaf h q e) r, bh, fin, p => by have := wr_len r bh fin (p + 1); simp only [wr, cnt, cntT, List.length_cons]; omega
  | .cons (.whl t b) r, bh, fin, p => by have := wr_len r bh fin (p + (1 + cnt b)); have := wr_len b p fin (p + 1); simp only [wr, cnt, cntT, List.length_cons, List.length_append]; omega
  | .cons (.loop b) r, bh, fin, p => by have := wr_len r bh fin (p + (1 + cnt b)); have := wr_len b p fin (p + 1); simp only [wr, cnt, cntT, List.length_cons, List.length_append]; omega
  | .cons (.iff t a b) r, bh, fin, p => by
    have := wr_len r bh fin (p + (1 + cnt a + cnt b))
    have := wr_len a (nxt r (p + (1 + cnt a + cnt b)) bh) fin (p + 1)
    have := wr_len b (nxt r (p + (1 + cnt a + cnt b)) bh) fin (p + 1 + cnt a)
    simp only [wr, cnt, cntT, List.length_cons, List.length_append]; omega
theorem mk_len : ∀ (ts : Ts) (bh p : Nat), (mk ts bh p).length ≤ nod ts
  | .nil, _, _ => by simp [mk]
  | .cons (.mark _) r, bh, p => by have := mk_len r bh p; simp only [mk, nod, flat, flatT, List.length_cons, List.length_append, List.length_nil] at *; omega
  | .cons (.leaf h q e) r, bh, p => by have := mk_len r bh (p + 1); simp only [mk, nod, flat, flatT, List.length_cons, List.length_append, List.length_nil] at *; omega
  | .cons (.whl t b) r, bh, p => by have := mk_len r bh (p + (1 + cnt b)); have := mk_len b p (p + 1); simp only [mk, nod, flat, flatT, List.length_cons, List.length_append] at *; omega
  | .cons (.loop b) r, bh, p => by have := mk_len r bh (p + (1 + cnt b)); have := mk_len b p (p + 1); simp only [mk, nod, flat, flatT, List.length_cons, List.length_append] at *; omega
  | .cons (.iff t a b) r, bh, p => by
    have := mk_len r bh (p + (1 + cnt a + cnt b))
    have := mk_len a (nxt r (p + (1 + cnt a + cnt b)) bh) (p + 1)
    have := mk_len b (nxt r (p + (1 + cnt a + cnt b)) bh) (p + 1 + cnt a)
    simp only [mk, nod, flat, flatT, List.length_cons, List.length_append] at *; omega
end K17
/-! K17B: law k17, bodies, statements in order, steps. -/
namespace K17
open PySem PySem.Spec PyProof.Rows L2 MP
local macro_rules | `(tactic| walk_at "look") => `(tactic| first | assumption | exact g_last | (with_reducible apply g_set; walk_at "look") | ((with_reducible refine g_setn ?h1 ?h2); (case h1 => first | assumption | omega | (apply Ne.symm; assumption)); (case h2 => walk_at "look")) | ((with_reducible refine g_app ?_); walk_at "look") | ((with_reducible refine' Fr.get ?h1 ?h2 ?h3); (case h1 => assumption); (case h2 => first | assumption | omega | (apply Ne.symm; assumption)); (case h3 => walk_at "look")) | ((with_reducible refine' Ch.get ?h1 ?h2 ?h3); (case h1 => assumption); (case h2 => first | assumption | (simp; done) | (simp only [List.mem_cons, List.not_mem_nil, or_false, not_or]; omega)); (case h3 => walk_at "look")))
local macro_rules | `(tactic| walk_at "kn") => `(tactic| first | assumption | omega | (simp; done) | decide)
local macro_rules | `(tactic| walk_at "sz") => `(tactic| first | assumption | (rw [sizeLine_eq]; first | omega | (simp; done) | (simp; omega)))
local macro_rules | `(tactic| walk_at "at") => `(tactic| first | exact rfl | assumption)
local macro_rules | `(tactic| walk_at "mp1") => `(tactic| first
  | with_reducible refine s_cons ?_ | with_reducible refine s_nil ?_ | with_reducible refine s_nm ?_ | with_reducible refine s_ix ?_ | with_reducible refine s_asg ?_ | with_reducible refine s_ex ?_ | with_reducible refine s_iff ?_ | with_reducible refine s_ret ?_ | with_reducible refine s_for ?_
  | ((with_reducible refine' e_var ?h1 ?_); (case h1 => exact rfl)) | with_reducible refine e_int ?_ | with_reducible refine e_bin ?_ | with_reducible refine e_cmp ?_ | with_reducible refine e_ix ?_ | with_reducible refine e_call ?_ | with_reducible refine e_blt ?_ | with_reducible refine e_bl ?_ | with_reducible refine e_and ?_ | with_reducible refine e_or ?_ | with_reducible refine e_not ?_ | with_reducible refine e_ite ?_
  | with_reducible refine es_cons ?_ | with_reducible refine es_nil ?_ | with_reducible refine e_tup ?_ | with_reducible refine e_lst ?_ | with_reducible refine e_meth ?_ | with_reducible refine e_comp ?_ | with_reducible refine e_sl ?_ | with_reducible refine e_neg ?_ | with_reducible refine e_isi ?_ | with_reducible refine e_lrg ?_ | with_reducible refine e_non ?_ | with_reducible refine e_str ?_ | with_reducible refine e_fnv ?_ | with_reducible refine e_orl ?_ | with_reducible refine e_dnew ?_ | with_reducible refine e_dget ?_ | with_reducible refine e_dget2 ?_
  | with_reducible refine o_no ?_ | with_reducible refine o_so ?_ | with_reducible refine i_rng ?_ | with_reducible refine i_seq ?_ | with_reducible refine i_enum ?_ | with_reducible refine if_nil ?_ | with_reducible refine if_cons ?_ | with_reducible refine rg_1 ?_ | with_reducible refine rg_2 ?_
  | with_reducible refine b_add ?_ | with_reducible refine b_sub ?_ | ((with_reducible refine' b_mul ?h1 ?_); (case h1 => first | assumption | mul_fits)) | ((with_reducible refine' b_fdiv ?h1 ?h2 ?_); (case h1 => walk_at "kn"); (case h2 => first | assumption | decide)) | ((with_reducible refine' b_mod ?h1 ?_); (case h1 => walk_at "kn")) | ((with_reducible refine' b_pow ?h1 ?_); (case h1 => first | assumption | exact ⟨by decide, by decide, by decide⟩)) | ((with_reducible refine' b_shr ?h1 ?_); (case h1 => walk_at "kn")) | ((with_reducible refine' b_shl ?h1 ?_); (case h1 => assumption)) | with_reducible refine b_and ?_ | with_reducible refine b_or ?_ | with_reducible refine b_xor ?_
  | with_reducible refine c_lt ?_ | with_reducible refine c_le ?_ | with_reducible refine c_gt ?_ | with_reducible refine c_ge ?_ | with_reducible refine c_eqi ?_ | with_reducible refine c_nei ?_ | with_reducible refine c_eqb ?_ | with_reducible refine c_neb ?_ | with_reducible refine c_eqs ?_ | with_reducible refine c_nes ?_
  | with_reducible refine t_bl ?_ | with_reducible refine t_int ?_ | with_reducible refine t_tup ?_ | with_reducible refine t_non ?_
  | ((with_reducible refine' x_ref ?h1 ?h2 ?_); (case h1 => walk_at "look"); (case h2 => walk_at "at")) | ((with_reducible refine' x_tup ?h1 ?_); (case h1 => walk_at "at")) | ((with_reducible refine' x_klst ?h1 ?_); (case h1 => walk_at "at"))
  | ((with_reducible refine' set_ref ?h1 ?h2 ?_); (case h1 => walk_at "look"); (case h2 => walk_at "at"))
  | ((with_reducible refine' f_lenr ?h1 ?_); (case h1 => walk_at "look")) | with_reducible refine f_lent ?_ | with_reducible refine f_lenk ?_ | with_reducible refine f_int ?_ | ((with_reducible refine' f_listr ?h1 ?_); (case h1 => walk_at "look")) | with_reducible refine f_listt ?_ | with_reducible refine f_listk ?_ | ((with_reducible refine' f_tupr ?h1 ?_); (case h1 => walk_at "look")) | with_reducible refine f_tupt ?_ | with_reducible refine f_max ?_ | with_reducible refine f_min ?_
  | with_reducible refine sl_klst ?_ | ((with_reducible refine' sl_ref ?h1 ?_); (case h1 => walk_at "look")) | with_reducible refine sl_tup ?_
  | ((with_reducible refine' m_app ?h1 ?h2 ?_); (case h1 => walk_at "look"); (case h2 => walk_at "sz")) | ((with_reducible refine' m_ext ?h1 ?h2 ?h3 ?_); (case h1 => walk_at "look"); (case h2 => walk_at "look"); (case h3 => walk_at "sz")) | ((with_reducible refine' m_extT ?h1 ?h3 ?_); (case h1 => walk_at "look"); (case h3 => walk_at "sz"))
  | with_reducible refine k_t ?_ | with_reducible refine k_f ?_ | with_reducible refine k_nt ?_ | with_reducible refine k_nf ?_
  | ((with_reducible refine' d_t ?h1 ?_); (case h1 => first | assumption | omega)) | ((with_reducible refine' d_f ?h1 ?_); (case h1 => first | assumption | omega)) | ((with_reducible refine' d_nt ?h1 ?_); (case h1 => first | assumption | omega)) | ((with_reducible refine' d_nf ?h1 ?_); (case h1 => first | assumption | omega))
  | ((with_reducible refine' And.intro (r_lst ?h1 ?h2) ?_); (case h1 => decide); (case h2 => walk_at "look")) | (with_reducible refine And.intro r_int ?_)
  | ((with_reducible refine And.intro ?h1 ?_); (case h1 => (with_reducible show List.length _ ≤ sizeLine); walk_at "sz"))
  | dsimp only
  | dsimp only [isTy_int, isTy_bl, isTy_str, isTy_non, isTy_tup])
local macro_rules | `(tactic| walk_at "mp") => `(tactic| repeat walk_at "mp1")

local macro_rules | `(tactic| walk_at "st") => `(tactic| repeat first | walk_at "mp1" | ((with_reducible refine' d_t ?h1 ?_); (case h1 => decide +kernel)) | ((with_reducible refine' d_f ?h1 ?_); (case h1 => decide +kernel)) | ((with_reducible refine' d_nt ?h1 ?_); (case h1 => decide +kernel)) | ((with_reducible refine' d_nf ?h1 ?_); (case h1 => decide +kernel)))
section
variable {k : Nat} {S : Sto} {Q : KD} {E : Ex → Sto → Prop}
theorem ch_drop {S0 S1 S' : Sto} {f : Nat} (h0 : Ch [] S0 S1) (h : Ch [f] S1 S') (hf : S0.length ≤ f) : Ch [] S0 S' :=
  ⟨Nat.le_trans h0.le h.le, fun i hi _ => (h.eq i (Nat.lt_of_lt_of_le hi h0.le) (by simp; omega)).trans (h0.eq i hi (by simp))⟩
theorem ch_up {X : List Nat} {S S' : Sto} (h : Ch [] S S') : Ch X S S' := h.mono fun i hi => by cases hi
/-- the bodies within -/
def innS : T → List Ts
  | .mark _ => []
  | .leaf _ _ _ => []
  | .whl _ b => [b]
  | .loop b => [b]
  | .iff _ a b => [a, b]
def bD (b : Ts) : D := .tup (tsD b)
abbrev innD (x : T) : List D := (innS x).map bD
def fls (bs : List Ts) : List D := (bs.map flat).flatten
theorem flatT_inn (x : T) : flatT x = tD x :: fls (innS x) := by cases x <;> simp [flatT, innS, fls]
theorem okT_inn {n : Nat} {x : T} (h : okT n x) : ∀ b ∈ innS x, ∃ m, n = m + 1 ∧ okS m b := by
  intro b hb
  cases x with
  | mark y => cases hb
  | leaf w r e => cases hb
  | whl t c => cases n with
    | zero => exact h.elim
    | succ n => simp only [innS, List.mem_singleton] at hb; subst hb; exact ⟨n, rfl, h.2⟩
  | loop c => cases n with
    | zero => exact h.elim
    | succ n => simp only [innS, List.mem_singleton] at hb; subst hb; exact ⟨n, rfl, h⟩
  | iff t a c => cases n with
    | zero => exact h.elim
    | succ n =>
      simp only [innS, List.mem_cons, List.not_mem_nil, or_false] at hb
      rcases hb with rfl | rfl
      · exact ⟨n, rfl, h.2.1⟩
      · exact ⟨n, rfl, h.2.2⟩
theorem at_head {h : Str} {r : List D} : atI (D.str h :: r) 0 = some (D.str h) := atI_nat (j := 0) rfl
theorem bodies_ok {n : Nat} {x : T} (hk : 1 ≤ k) (h : okT n x) (q : Q (.tup (innD x)) S) : C k fbodies_of [tD x] S Q E := by
  obtain ⟨k, rfl⟩ := up hk
  refine cbodies_of ?_
  unfold bbodies_of
  cases x with
  | mark y => unfold tD; walk_at "st"; exact q
  | leaf w r e =>
    have h' : LeafOk w r e := by cases n <;> exact h
    obtain ⟨n1, n2, n3, n4, _⟩ := h'
    have a0 : atI (D.str w :: r) 0 = some (D.str w) := at_head
    unfold tD
    walk_at "st"
    exact q
  | whl t b => unfold tD; walk_at "st"; exact q
  | loop b => unfold tD; walk_at "st"; exact q
  | iff t a b => unfold tD; walk_at "st"; exact q
theorem inner_ok {n : Nat} {x : T} (hk : 1 ≤ k) (h : okT n x) (q : Q (.ref S.length) (S ++ [.lst (innD x)])) : C k f_law_inner [tD x] S Q E := by
  obtain ⟨k, rfl⟩ := up hk
  refine c_law_inner ?_
  unfold b_law_inner
  cases x with
  | mark y =>
    unfold tD
    walk_at "st"
    refine c_int rfl rfl (t_bl (k_F (by decide +kernel) ?_))
    walk_at "st"
    exact q
  | leaf w r e =>
    have h' : LeafOk w r e := by cases n <;> exact h
    obtain ⟨n1, n2, n3, n4, _⟩ := h'
    have a0 : atI (D.str w :: r) 0 = some (D.str w) := at_head
    have e1 : inF (D.str w) [D.str "while", D.str "loop"] = false := by
      have x1 : (("while" : Str) == w) = false := beq_eq_false_iff_ne.mpr (Ne.symm n2)
      have x2 : (("loop" : Str) == w) = false := beq_eq_false_iff_ne.mpr (Ne.symm n3)
      simp [inF, eqF, x1, x2]
    unfold tD
    walk_at "st"
    refine c_int rfl rfl ?_
    rw [e1]
    walk_at "st"
    exact q
  | whl t b =>
    unfold tD
    walk_at "st"
    refine c_int rfl rfl (t_bl (k_T (by decide +kernel) ?_))
    walk_at "st"
    exact q
  | loop b =>
    unfold tD
    walk_at "st"
    refine c_int rfl rfl (t_bl (k_T (by decide +kernel) ?_))
    walk_at "st"
    exact q
  | iff t a b => unfold tD; walk_at "st"; exact q

/-! ### statements_of -/
def stB : MSs := match bstatements_of with
  | .cons _ (.cons (.for_ _ _ b) _) => b
  | _ => .nil
def stI : MSs := match stB with
  | .cons _ (.cons (.for_ _ _ b) _) => b
  | _ => .nil
def StS (k n : Nat) : Prop := ∀ (b : Ts) (S : Sto) (Q : KD) (E : Ex → Sto → Prop), okS n b → nod b ≤ 1000 → RetV S (.tup (flat b)) Q → C k fstatements_of [bD b] S Q E
section
variable {n f : Nat} {B : D} {rt : KD} {nx : MP.Env → Sto → Prop} {ex : Ex → MP.Env → Sto → Prop}
theorem st_inner (ih : ∀ m, n = m + 1 → StS k m) {s2 : Option D} : ∀ (bs : List Ts) (acc : List D) (S : Sto) (s3 : Option D), (∀ b ∈ bs, ∃ m, n = m + 1 ∧ okS m b) → acc.length + (fls bs).length ≤ 1000 → S[f]? = some (.lst acc) →
    (∀ S' s3, Ch [f] S S' → S'[f]? = some (.lst (acc ++ fls bs)) → nx [some B, some (.ref f), s2, s3] S') → wpFor [] (forB (C k) (.nm 3) stI rt nx ex) nx (bs.map bD) [some B, some (.ref f), s2, s3] S
  | [], acc, S, s3, _, _, g, q => for_n gd_nil (q S s3 Ch.refl (by simpa [fls] using g))
  | b :: r, acc, S, s3, ok, hl, g, q => by
    obtain ⟨m, hm, okb⟩ := ok b List.mem_cons_self
    have hl2 : acc.length + (flat b).length + (fls r).length ≤ 1000 := by simp only [fls, List.map_cons, List.flatten_cons, List.length_append] at hl ⊢; omega
    have sz : acc.length + (flat b).length ≤ sizeLine := by rw [sizeLine_eq]; omega
    rw [List.map_cons]
    refine for_c gd_nil ?_
    conv => arg 2; unfold stI stB bstatements_of
    dsimp only
    walk_at "mp"
    refine ih m hm b S _ _ okb (by show (flat b).length ≤ 1000; omega) fun S1 e1 => ?_
    have g1 : S1[f]? = some (.lst acc) := e1.get (by simp) g
    walk_at "mp"
    refine st_inner ih r (acc ++ flat b) _ _ (fun c hc => ok c (List.mem_cons_of_mem _ hc)) (by rw [List.length_append]; omega) (g_set g1) fun S2 s3 e2 g2 => q S2 s3 (((ch_up e1).set (by simp)).trans e2) ?_
    rw [g2]
    simp [fls]
theorem st_loop (hk : 1 ≤ k) (ih : ∀ m, n = m + 1 → StS k m) : ∀ (ts : Ts) (acc : List D) (S : Sto) (s2 s3 : Option D), okS n ts → acc.length + nod ts ≤ 1000 → S[f]? = some (.lst acc) →
    (∀ S' s2 s3, Ch [f] S S' → S'[f]? = some (.lst (acc ++ flat ts)) → nx [some B, some (.ref f), s2, s3] S') → wpFor [] (forB (C k) (.nm 2) stB rt nx ex) nx (tsD ts) [some B, some (.ref f), s2, s3] S
  | .nil, acc, S, s2, s3, ok, hl, g, q => for_n gd_nil (q S s2 s3 Ch.refl (by simpa [flat] using g))
  | .cons x r, acc, S, s2, s3, ok, hl, g, q => by
    have okx : okT n x := by cases n <;> exact ok.1
    have okr : okS n r := by cases n <;> exact ok.2
    have hl2 : acc.length + (1 + (fls (innS x)).length) + (flat r).length ≤ 1000 := by
      have : (flat (.cons x r)).length = (flatT x).length + (flat r).length := List.length_append ..
      rw [flatT_inn, List.length_cons] at this
      simp only [nod] at hl
      omega
    have sz : acc.length < sizeLine := by rw [sizeLine_eq]; omega
    unfold tsD
    refine for_c gd_nil ?_
    conv => arg 2; unfold stB bstatements_of
    dsimp only
    walk_at "mp"
    refine bodies_ok hk okx ?_
    have g1 := g_set (o := .lst (acc ++ [tD x])) g
    have e1 : Ch [f] S (S.set f (.lst (acc ++ [tD x]))) := Ch.refl.set (by simp)
    generalize S.set f (.lst (acc ++ [tD x])) = S1 at g1 e1 ⊢
    dsimp only
    refine st_inner ih (innS x) (acc ++ [tD x]) S1 _ (okT_inn okx) (by rw [List.length_append, List.length_singleton]; omega) g1 fun S2 s3 e2 g2 => ?_
    walk_at "mp"
    refine st_loop hk ih r _ S2 _ s3 okr (by simp only [List.length_append, List.length_singleton, nod]; omega) g2 fun S3 s2 s3 e3 g3 => q S3 s2 s3 ((e1.trans e2).trans e3) ?_
    rw [g3]
    simp [flat, flatT_inn]
end
theorem sts_step {n : Nat} (hk : 1 ≤ k) (ih : ∀ m, n = m + 1 → StS k m) : StS (k + 1) n := by
  intro b S Q E ok hl q
  refine cstatements_of ?_
  unfold bstatements_of
  walk_at "mp"
  unfold bD
  walk_at "mp"
  refine st_loop hk ih b [] _ none none ok (by simpa using hl) g_last fun S1 s2 s3 e1 g1 => ?_
  walk_at "mp"
  exact q S1 (ch_drop (Ch.refl.app (l := [.lst []])) e1 (Nat.le_refl _))
theorem sts_ok : ∀ (n : Nat) {k : Nat}, n + 2 ≤ k → StS k n
  | 0, k, hk => by
    obtain ⟨k, rfl⟩ := up (n := 1) (by omega : 1 ≤ k)
    exact sts_step (by omega) fun m hm => by cases hm
  | n + 1, k, hk => by
    obtain ⟨k, rfl⟩ := up (n := 1) (by omega : 1 ≤ k)
    refine sts_step (by omega) fun m hm => ?_
    cases hm
    exact sts_ok n (by omega)

/-! ### steps_in -/
def nmk : D → Bool
  | .tup (.str h :: _) => !decide (h = "mark")
  | _ => false
def headed : D → Prop
  | .tup (.str _ :: _) => True
  | _ => False
theorem tD_headed (x : T) : headed (tD x) := by cases x <;> exact trivial
mutual
theorem flatT_headed : ∀ (x : T), ∀ d ∈ flatT x, headed d
  | .mark y, d, h => by rw [flatT, List.mem_singleton] at h; rw [h]; exact tD_headed _
  | .leaf w r e, d, h => by rw [flatT, List.mem_singleton] at h; rw [h]; exact tD_headed _
  | .whl t b, d, h => by
    rw [flatT, List.mem_cons] at h
    rcases h with rfl | h
    · exact tD_headed _
    · exact flat_headed b d h
  | .loop b, d, h => by
    rw [flatT, List.mem_cons] at h
    rcases h with rfl | h
    · exact tD_headed _
    · exact flat_headed b d h
  | .iff t a b, d, h => by
    rw [flatT, List.mem_cons, List.mem_append] at h
    rcases h with rfl | h | h
    · exact tD_headed _
    · exact flat_headed a d h
    · exact flat_headed b d h
theorem flat_headed : ∀ (b : Ts), ∀ d ∈ flat b, headed d
  | .nil, d, h => by cases h
  | .cons x r, d, h => by
    rw [flat, List.mem_append] at h
    rcases h with h | h
    · exact flatT_headed x d h
    · exact flat_headed r d h
end
theorem nmk_mark {y : Str} : nmk (tD (.mark y)) = false := by simp [nmk, tD]
theorem nmk_leaf {w : Str} {r : List D} {e : EX} (h : w ≠ "mark") : nmk (tD (.leaf w r e)) = true := by simp [nmk, tD, h]
theorem nmk_whl {t : EX} {b : Ts} : nmk (tD (.whl t b)) = true := by show (!decide (("while" : Str) = "mark")) = true; decide +kernel
theorem nmk_loop {b : Ts} : nmk (tD (.loop b)) = true := by show (!decide (("loop" : Str) = "mark")) = true; decide +kernel
theorem nmk_iff {t : EX} {a b : Ts} : nmk (tD (.iff t a b)) = true := by show (!decide (("if" : Str) = "mark")) = true; decide +kernel
mutual
theorem filtT_len : ∀ (x : T) (n : Nat), okT n x → ((flatT x).filter nmk).length = cntT x
  | .mark y, n, ok => by rw [flatT, List.filter_cons_of_neg (by rw [nmk_mark]; exact Bool.false_ne_true)]; rfl
  | .leaf w r e, n, ok => by
    have h' : LeafOk w r e := by cases n <;> exact ok
    rw [flatT, List.filter_cons_of_pos (nmk_leaf h'.n4)]; rfl
  | .whl t b, 0, ok => ok.elim
  | .whl t b, n + 1, ok => by
    rw [flatT, List.filter_cons_of_pos nmk_whl, List.length_cons, filt_len b n ok.2, cntT, Nat.add_comm]
  | .loop b, 0, ok => ok.elim
  | .loop b, n + 1, ok => by
    rw [flatT, List.filter_cons_of_pos nmk_loop, List.length_cons, filt_len b n ok, cntT, Nat.add_comm]
  | .iff t a b, 0, ok => ok.elim
  | .iff t a b, n + 1, ok => by
    rw [flatT, List.filter_cons_of_pos nmk_iff, List.filter_append, List.length_cons, List.length_append, filt_len a n ok.2.1, filt_len b n ok.2.2, cntT]
    omega
theorem filt_len : ∀ (b : Ts) (n : Nat), okS n b → ((flat b).filter nmk).length = cnt b
  | .nil, n, ok => rfl
  | .cons x r, n, ok => by
    have okx : okT n x := by cases n <;> exact ok.1
    have okr : okS n r := by cases n <;> exact ok.2
    rw [flat, List.filter_append, List.length_append, filtT_len x n okx, filt_len r n okr, cnt]
end
theorem comp_filt {gs : List (Nat × List D)} {S : Sto} {body : D → Sto → (Option D → Sto → Prop) → Prop} (p : D → Bool) (gd : Gd gs S) : ∀ {xs : List D} {R : List D → Sto → Prop}, (∀ x ∈ xs, ∀ K : Option D → Sto → Prop, K (if p x = true then some x else none) S → body x S K) → R (xs.filter p) S → wpComp gs body xs S R
  | [], R, h, q => ⟨gd, q⟩
  | x :: r, R, h, q => by
    refine ⟨gd, h x List.mem_cons_self _ ?_⟩
    cases hp : p x with
    | true =>
      rw [if_pos rfl]
      exact comp_filt p gd (fun y hy => h y (List.mem_cons_of_mem _ hy)) (by rw [List.filter_cons_of_pos hp] at q; exact q)
    | false =>
      rw [if_neg Bool.false_ne_true]
      exact comp_filt p gd (fun y hy => h y (List.mem_cons_of_mem _ hy)) (by rw [List.filter_cons_of_neg (by rw [hp]; exact Bool.false_ne_true)] at q; exact q)
theorem nmk_body {vs : List Nat} {j : Nat} {σ : MP.Env} {x : D} {K : Option D → Sto → Prop} (hx : headed x) (hj : j < (wipeE σ vs).length) (q : K (if nmk x = true then some x else none) S) :
    cmpB (C k) vs (.nm j) (.cons (.cmp .ne (.ix (.var j) (.int 0)) (.str "mark")) .nil) (.var j) σ x S K := by
  refine cmp_nm ?_
  have hv : ((wipeE σ vs).set j (some x))[j]? = some (some x) := by rw [List.getElem?_set_self hj]
  match x, hx with
  | .tup (.str h :: r), _ =>
    refine if_cons (e_cmp (e_ix (e_var hv ?_)))
    have a0 : atI (D.str h :: r) 0 = some (D.str h) := at_head
    walk_at "mp"
    show (if nmk (.tup (.str h :: r)) = true then _ else _)
    cases hn : nmk (.tup (.str h :: r)) with
    | true =>
      rw [hn] at q
      rw [if_pos rfl] at q ⊢
      refine if_nil ?_
      rw [if_pos rfl]
      exact e_var hv q
    | false =>
      rw [hn] at q
      rw [if_neg Bool.false_ne_true] at q ⊢
      rw [if_neg Bool.false_ne_true]
      exact q
theorem steps_ok {n : Nat} (hk : n + 3 ≤ k) {b : Ts} (ok : okS n b) (hl : nod b ≤ 1000) (q : RetV S (.int (cnt b : Nat)) Q) : C k fsteps_in [bD b] S Q E := by
  obtain ⟨k, rfl⟩ := up (n := 1) (by omega : 1 ≤ k)
  refine csteps_in ?_
  unfold bsteps_in
  walk_at "mp"
  refine sts_ok n (by omega) b S _ _ ok hl fun S1 e1 => ?_
  dsimp only
  refine ⟨by rw [sizeLine_eq]; have : (flat b).length ≤ 1000 := hl; omega, ?_⟩
  refine comp_filt nmk gd_nil (fun x hx K h => nmk_body (flat_headed b x hx) (by show 1 < 2; decide) h) ?_
  walk_at "mp"
  rw [filt_len b n ok]
  exact q _ e1.app
/-- one statement alone -/
theorem steps_1 {n : Nat} (hk : n + 3 ≤ k) {x : T} (ok : okT n x) (hl : (flatT x).length ≤ 1000) (q : RetV S (.int (cntT x : Nat)) Q) : C k fsteps_in [.tup [tD x]] S Q E := by
  have h := steps_ok (k := k) (S := S) (Q := Q) (E := E) hk (b := .cons x .nil) (by cases n <;> exact ⟨ok, trivial⟩) (by simpa [nod, flat] using hl) (by simpa [cnt] using q)
  exact h
end
end K17
/-! K17C: law k17, numbered. -/
namespace K17
open PySem PySem.Spec PyProof.Rows L2 MP
local macro_rules | `(tactic| walk_at "look") => `(tactic| first | assumption | exact g_last | (with_reducible apply g_set; walk_at "look") | ((with_reducible refine g_setn ?h1 ?h2); (case h1 => first | assumption | omega | (apply Ne.symm; assumption)); (case h2 => walk_at "look")) | ((with_reducible refine g_app ?_); walk_at "look") | ((with_reducible refine' Fr.get ?h1 ?h2 ?h3); (case h1 => assumption); (case h2 => first | assumption | omega | (apply Ne.symm; assumption)); (case h3 => walk_at "look")) | ((with_reducible refine' Ch.get ?h1 ?h2 ?h3); (case h1 => assumption); (case h2 => first | assumption | (simp; done) | (simp only [List.mem_cons, List.not_mem_nil, or_false, not_or]; omega)); (case h3 => walk_at "look")))
local macro_rules | `(tactic| walk_at "kn") => `(tactic| first | assumption | omega | (simp; done) | decide)
local macro_rules | `(tactic| walk_at "sz") => `(tactic| first | assumption | (rw [sizeLine_eq]; first | omega | (simp; done) | (simp; omega)))
local macro_rules | `(tactic| walk_at "at") => `(tactic| first | exact rfl | assumption)
local macro_rules | `(tactic| walk_at "mp1") => `(tactic| first
  | with_reducible refine s_cons ?_ | with_reducible refine s_nil ?_ | with_reducible refine s_nm ?_ | with_reducible refine s_ix ?_ | with_reducible refine s_asg ?_ | with_reducible refine s_ex ?_ | with_reducible refine s_iff ?_ | with_reducible refine s_ret ?_ | with_reducible refine s_for ?_
  | ((with_reducible refine' e_var ?h1 ?_); (case h1 => exact rfl)) | with_reducible refine e_int ?_ | with_reducible refine e_bin ?_ | with_reducible refine e_cmp ?_ | with_reducible refine e_ix ?_ | with_reducible refine e_call ?_ | with_reducible refine e_blt ?_ | with_reducible refine e_bl ?_ | with_reducible refine e_and ?_ | with_reducible refine e_or ?_ | with_reducible refine e_not ?_ | with_reducible refine e_ite ?_
  | with_reducible refine es_cons ?_ | with_reducible refine es_nil ?_ | with_reducible refine e_tup ?_ | with_reducible refine e_lst ?_ | with_reducible refine e_meth ?_ | with_reducible refine e_comp ?_ | with_reducible refine e_sl ?_ | with_reducible refine e_neg ?_ | with_reducible refine e_isi ?_ | with_reducible refine e_lrg ?_ | with_reducible refine e_non ?_ | with_reducible refine e_str ?_ | with_reducible refine e_fnv ?_ | with_reducible refine e_orl ?_ | with_reducible refine e_dnew ?_ | with_reducible refine e_dget ?_ | with_reducible refine e_dget2 ?_
  | with_reducible refine o_no ?_ | with_reducible refine o_so ?_ | with_reducible refine i_rng ?_ | with_reducible refine i_seq ?_ | with_reducible refine i_enum ?_ | with_reducible refine if_nil ?_ | with_reducible refine if_cons ?_ | with_reducible refine rg_1 ?_ | with_reducible refine rg_2 ?_
  | with_reducible refine b_add ?_ | with_reducible refine b_sub ?_ | ((with_reducible refine' b_mul ?h1 ?_); (case h1 => first | assumption | mul_fits)) | ((with_reducible refine' b_fdiv ?h1 ?h2 ?_); (case h1 => walk_at "kn"); (case h2 => first | assumption | decide)) | ((with_reducible refine' b_mod ?h1 ?_); (case h1 => walk_at "kn")) | ((with_reducible refine' b_pow ?h1 ?_); (case h1 => first | assumption | exact ⟨by decide, by decide, by decide⟩)) | ((with_reducible refine' b_shr ?h1 ?_); (case h1 => walk_at "kn")) | ((with_reducible refine' b_shl ?h1 ?_); (case h1 => assumption)) | with_reducible refine b_and ?_ | with_reducible refine b_or ?_ | with_reducible refine b_xor ?_
  | with_reducible refine c_lt ?_ | with_reducible refine c_le ?_ | with_reducible refine c_gt ?_ | with_reducible refine c_ge ?_ | with_reducible refine c_eqi ?_ | with_reducible refine c_nei ?_ | with_reducible refine c_eqb ?_ | with_reducible refine c_neb ?_ | with_reducible refine c_eqs ?_ | with_reducible refine c_nes ?_
  | with_reducible refine t_bl ?_ | with_reducible refine t_int ?_ | with_reducible refine t_tup ?_ | with_reducible refine t_non ?_
  | ((with_reducible refine' x_ref ?h1 ?h2 ?_); (case h1 => walk_at "look"); (case h2 => walk_at "at")) | ((with_reducible refine' x_tup ?h1 ?_); (case h1 => walk_at "at")) | ((with_reducible refine' x_klst ?h1 ?_); (case h1 => walk_at "at"))
  | ((with_reducible refine' set_ref ?h1 ?h2 ?_); (case h1 => walk_at "look"); (case h2 => walk_at "at"))
  | ((with_reducible refine' f_lenr ?h1 ?_); (case h1 => walk_at "look")) | with_reducible refine f_lent ?_ | with_reducible refine f_lenk ?_ | with_reducible refine f_int ?_ | ((with_reducible refine' f_listr ?h1 ?_); (case h1 => walk_at "look")) | with_reducible refine f_listt ?_ | with_reducible refine f_listk ?_ | ((with_reducible refine' f_tupr ?h1 ?_); (case h1 => walk_at "look")) | with_reducible refine f_tupt ?_ | with_reducible refine f_max ?_ | with_reducible refine f_min ?_
  | with_reducible refine sl_klst ?_ | ((with_reducible refine' sl_ref ?h1 ?_); (case h1 => walk_at "look")) | with_reducible refine sl_tup ?_
  | ((with_reducible refine' m_app ?h1 ?h2 ?_); (case h1 => walk_at "look"); (case h2 => walk_at "sz")) | ((with_reducible refine' m_ext ?h1 ?h2 ?h3 ?_); (case h1 => walk_at "look"); (case h2 => walk_at "look"); (case h3 => walk_at "sz")) | ((with_reducible refine' m_extT ?h1 ?h3 ?_); (case h1 => walk_at "look"); (case h3 => walk_at "sz"))
  | with_reducible refine k_t ?_ | with_reducible refine k_f ?_ | with_reducible refine k_nt ?_ | with_reducible refine k_nf ?_
  | ((with_reducible refine' d_t ?h1 ?_); (case h1 => first | assumption | omega)) | ((with_reducible refine' d_f ?h1 ?_); (case h1 => first | assumption | omega)) | ((with_reducible refine' d_nt ?h1 ?_); (case h1 => first | assumption | omega)) | ((with_reducible refine' d_nf ?h1 ?_); (case h1 => first | assumption | omega))
  | ((with_reducible refine' And.intro (r_lst ?h1 ?h2) ?_); (case h1 => decide); (case h2 => walk_at "look")) | (with_reducible refine And.intro r_int ?_)
  | ((with_reducible refine And.intro ?h1 ?_); (case h1 => (with_reducible show List.length _ ≤ sizeLine); walk_at "sz"))
  | dsimp only
  | dsimp only [isTy_int, isTy_bl, isTy_str, isTy_non, isTy_tup])
local macro_rules | `(tactic| walk_at "mp") => `(tactic| repeat walk_at "mp1")

local macro_rules | `(tactic| walk_at "st") => `(tactic| repeat first | walk_at "mp1" | ((with_reducible refine' d_t ?h1 ?_); (case h1 => decide +kernel)) | ((with_reducible refine' d_f ?h1 ?_); (case h1 => decide +kernel)) | ((with_reducible refine' d_nt ?h1 ?_); (case h1 => decide +kernel)) | ((with_reducible refine' d_nf ?h1 ?_); (case h1 => decide +kernel)) | with_reducible refine s_cnt ?_)
section
variable {k : Nat} {S : Sto} {Q : KD} {E : Ex → Sto → Prop}
def nbB : MSs := match bnumbered_from with
  | .cons _ (.cons _ (.cons (.for_ _ _ b) _)) => b
  | _ => .nil
def NfS (k n : Nat) : Prop := ∀ (b : Ts) (p : Nat) (i : Int) (S : Sto) (Q : KD) (E : Ex → Sto → Prop), i = p → okS n b → nod b ≤ 1000 → RetV S (.tup (numF b p)) Q → C k fnumbered_from [bD b, .int i] S Q E
theorem nod_cons {x : T} {r : Ts} : nod (.cons x r) = (flatT x).length + nod r := List.length_append ..
theorem flatT_pos (x : T) : 1 ≤ (flatT x).length := by rw [flatT_inn]; simp
theorem inn_le {x : T} {b : Ts} (h : b ∈ innS x) : nod b + 1 ≤ (flatT x).length := by
  cases x with
  | mark y => cases h
  | leaf w r e => cases h
  | whl t c => simp only [innS, List.mem_singleton] at h; subst h; simp [flatT, nod]
  | loop c => simp only [innS, List.mem_singleton] at h; subst h; simp [flatT, nod]
  | iff t a c =>
    simp only [innS, List.mem_cons, List.not_mem_nil, or_false] at h
    rcases h with rfl | rfl
    · simp [flatT, nod]
    · simp [flatT, nod]
section
variable {n f : Nat} {B F : D} {rt : KD} {nx : MP.Env → Sto → Prop} {ex : Ex → MP.Env → Sto → Prop}
theorem nf_loop (hk : n + 3 ≤ k) (ih : ∀ m, n = m + 1 → NfS k m) : ∀ (ts : Ts) (acc : List D) (p : Nat) (i : Int) (S : Sto) (s4 s5 s6 : Option D), i = p → okS n ts → acc.length + nod ts ≤ 1000 → S[f]? = some (.lst acc) →
    (∀ S' s3 s4 s5 s6, Ch [f] S S' → S'[f]? = some (.lst (acc ++ numF ts p)) → nx [some B, some F, some (.ref f), s3, s4, s5, s6] S') → wpFor [] (forB (C k) (.nm 4) nbB rt nx ex) nx (tsD ts) [some B, some F, some (.ref f), some (.int i), s4, s5, s6] S
  | .nil, acc, p, i, S, s4, s5, s6, hi, ok, hl, g, q => for_n gd_nil (q S _ _ _ _ Ch.refl (by simpa [numF] using g))
  | .cons x r, acc, p, i, S, s4, s5, s6, hi, ok, hl, g, q => by
    have okx : okT n x := by cases n <;> exact ok.1
    have okr : okS n r := by cases n <;> exact ok.2
    have h1 := flatT_pos x
    rw [nod_cons] at hl
    have sz : acc.length < sizeLine := by rw [sizeLine_eq]; omega
    have hlr : ∀ d : D, (acc ++ [d]).length + nod r ≤ 1000 := fun d => by rw [List.length_append, List.length_singleton]; omega
    have hlx : (flatT x).length ≤ 1000 := by omega
    unfold tsD
    refine for_c gd_nil ?_
    conv => arg 2; unfold nbB bnumbered_from
    dsimp only
    cases x with
    | mark y =>
      unfold tD
      walk_at "st"
      exact nf_loop hk ih r acc p i S _ _ _ hi okr (by omega) g q
    | leaf w e u =>
      have h' : LeafOk w e u := by cases n <;> exact okx
      obtain ⟨n1, n2, n3, n4, _⟩ := h'
      have a0 : atI (D.str w :: e) 0 = some (D.str w) := at_head
      unfold tD
      walk_at "st"
      refine steps_1 (x := .leaf w e u) hk okx hlx fun S1 e1 => ?_
      have g1 := e1.get (by simp) (g_set (o := .lst (acc ++ [.tup [.int i, .tup (.str w :: e)]])) g)
      walk_at "st"
      refine nf_loop hk ih r _ (p + 1) _ S1 _ _ _ (by simp [cntT, hi]) okr (hlr _) g1 fun S2 s3 s4 s5 s6 e2 g2 => q S2 s3 s4 s5 s6 (((Ch.refl.set (by simp)).trans (ch_up e1)).trans e2) ?_
      rw [g2, hi]
      simp [numF]
    | whl t b =>
      obtain ⟨m, hm, okb⟩ := okT_inn okx b (by simp [innS])
      have hlb := inn_le (x := .whl t b) (b := b) (by simp [innS])
      unfold tD
      walk_at "st"
      refine ih m hm b (p + 1) _ S _ _ (by simp [hi]) okb (by omega) fun S1 e1 => ?_
      have g1 := e1.get (by simp) g
      walk_at "st"
      refine steps_1 (x := .whl t b) hk okx hlx fun S2 e2 => ?_
      have g2 := e2.get (by simp) (g_set (o := .lst (acc ++ [.tup [.int i, .tup [.str "while", eD t, .tup (numF b (p + 1))]]])) g1)
      walk_at "st"
      refine nf_loop hk ih r _ (p + (1 + cnt b)) _ S2 _ _ _ (by simp [cntT, hi]) okr (hlr _) g2 fun S3 s3 s4 s5 s6 e3 g3 => q S3 s3 s4 s5 s6 ((((ch_up e1).set (by simp)).trans (ch_up e2)).trans e3) ?_
      rw [g3, hi]
      simp [numF]
    | loop b =>
      obtain ⟨m, hm, okb⟩ := okT_inn okx b (by simp [innS])
      have hlb := inn_le (x := .loop b) (b := b) (by simp [innS])
      unfold tD
      walk_at "st"
      refine ih m hm b (p + 1) _ S _ _ (by simp [hi]) okb (by omega) fun S1 e1 => ?_
      have g1 := e1.get (by simp) g
      walk_at "st"
      refine steps_1 (x := .loop b) hk okx hlx fun S2 e2 => ?_
      have g2 := e2.get (by simp) (g_set (o := .lst (acc ++ [.tup [.int i, .tup [.str "loop", .tup (numF b (p + 1))]]])) g1)
      walk_at "st"
      refine nf_loop hk ih r _ (p + (1 + cnt b)) _ S2 _ _ _ (by simp [cntT, hi]) okr (hlr _) g2 fun S3 s3 s4 s5 s6 e3 g3 => q S3 s3 s4 s5 s6 ((((ch_up e1).set (by simp)).trans (ch_up e2)).trans e3) ?_
      rw [g3, hi]
      simp [numF]
    | iff t a b =>
      obtain ⟨m, hm, oka⟩ := okT_inn okx a (by simp [innS])
      obtain ⟨m', hm', okb⟩ := okT_inn okx b (by simp [innS])
      obtain rfl : m' = m := by omega
      have hla := inn_le (x := .iff t a b) (b := a) (by simp [innS])
      have hlb := inn_le (x := .iff t a b) (b := b) (by simp [innS])
      unfold tD
      walk_at "st"
      refine ih m' hm a (p + 1) _ S _ _ (by simp [hi]) oka (by omega) fun S1 e1 => ?_
      walk_at "st"
      refine steps_ok (n := m') (b := a) (by omega) oka (by omega) fun S2 e2 => ?_
      walk_at "st"
      refine ih m' hm b (p + 1 + cnt a) _ S2 _ _ (by simp [hi]) okb (by omega) fun S3 e3 => ?_
      have e13 := (e1.trans e2).trans e3
      have g3 := e13.get (by simp) g
      walk_at "st"
      refine steps_1 (x := .iff t a b) hk okx hlx fun S4 e4 => ?_
      have g4 := e4.get (by simp) (g_set (o := .lst (acc ++ [.tup [.int i, .tup [.str "if", eD t, .tup (numF a (p + 1)), .tup (numF b (p + 1 + cnt a))]]])) g3)
      walk_at "st"
      refine nf_loop hk ih r _ (p + (1 + cnt a + cnt b)) _ S4 _ _ _ (by simp [cntT, hi]) okr (hlr _) g4 fun S5 s3 s4 s5 s6 e5 g5 => q S5 s3 s4 s5 s6 ((((ch_up e13).set (by simp)).trans (ch_up e4)).trans e5) ?_
      rw [g5, hi]
      simp [numF]
end
theorem nf_step {n : Nat} (hk : n + 3 ≤ k) (ih : ∀ m, n = m + 1 → NfS k m) : NfS (k + 1) n := by
  intro b p i S Q E hi ok hl q
  refine cnumbered_from ?_
  unfold bnumbered_from
  walk_at "mp"
  unfold bD
  walk_at "mp"
  refine nf_loop hk ih b [] p _ _ none none none hi ok (by simpa using hl) g_last fun S1 s3 s4 s5 s6 e1 g1 => ?_
  walk_at "mp"
  exact q S1 (ch_drop (Ch.refl.app (l := [.lst []])) e1 (Nat.le_refl _))
theorem nf_ok : ∀ (n : Nat) {k : Nat}, n + 4 ≤ k → NfS k n
  | 0, k, hk => by
    obtain ⟨k, rfl⟩ := up (n := 1) (by omega : 1 ≤ k)
    exact nf_step (by omega) fun m hm => by cases hm
  | n + 1, k, hk => by
    obtain ⟨k, rfl⟩ := up (n := 1) (by omega : 1 ≤ k)
    refine nf_step (by omega) fun m hm => ?_
    cases hm
    exact nf_ok n (by omega)
theorem num_ok {n : Nat} (hk : n + 5 ≤ k) {b : Ts} (ok : okS n b) (hl : nod b ≤ 1000) (q : RetV S (.tup (numF b 0)) Q) : C k fnumbered [bD b] S Q E := by
  obtain ⟨k, rfl⟩ := up (n := 1) (by omega : 1 ≤ k)
  refine cnumbered ?_
  unfold bnumbered
  walk_at "mp"
  exact nf_ok n (by omega) b 0 0 S _ _ rfl ok hl q
end
end K17
/-! K17D: law k17, names of expressions. -/
namespace K17
open PySem PySem.Spec PyProof.Rows L2 MP
local macro_rules | `(tactic| walk_at "look") => `(tactic| first | assumption | exact g_last | (with_reducible apply g_set; walk_at "look") | ((with_reducible refine g_setn ?h1 ?h2); (case h1 => first | assumption | omega | (apply Ne.symm; assumption)); (case h2 => walk_at "look")) | ((with_reducible refine g_app ?_); walk_at "look") | ((with_reducible refine' Fr.get ?h1 ?h2 ?h3); (case h1 => assumption); (case h2 => first | assumption | omega | (apply Ne.symm; assumption)); (case h3 => walk_at "look")) | ((with_reducible refine' Ch.get ?h1 ?h2 ?h3); (case h1 => assumption); (case h2 => first | assumption | (simp; done) | (simp only [List.mem_cons, List.not_mem_nil, or_false, not_or]; omega)); (case h3 => walk_at "look")))
local macro_rules | `(tactic| walk_at "kn") => `(tactic| first | assumption | omega | (simp; done) | decide)
local macro_rules | `(tactic| walk_at "sz") => `(tactic| first | assumption | (rw [sizeLine_eq]; first | omega | (simp; done) | (simp; omega)))
local macro_rules | `(tactic| walk_at "at") => `(tactic| first | exact rfl | assumption)
local macro_rules | `(tactic| walk_at "mp1") => `(tactic| first
  | with_reducible refine s_cons ?_ | with_reducible refine s_nil ?_ | with_reducible refine s_nm ?_ | with_reducible refine s_ix ?_ | with_reducible refine s_asg ?_ | with_reducible refine s_ex ?_ | with_reducible refine s_iff ?_ | with_reducible refine s_ret ?_ | with_reducible refine s_for ?_
  | ((with_reducible refine' e_var ?h1 ?_); (case h1 => exact rfl)) | with_reducible refine e_int ?_ | with_reducible refine e_bin ?_ | with_reducible refine e_cmp ?_ | with_reducible refine e_ix ?_ | with_reducible refine e_call ?_ | with_reducible refine e_blt ?_ | with_reducible refine e_bl ?_ | with_reducible refine e_and ?_ | with_reducible refine e_or ?_ | with_reducible refine e_not ?_ | with_reducible refine e_ite ?_
  | with_reducible refine es_cons ?_ | with_reducible refine es_nil ?_ | with_reducible refine e_tup ?_ | with_reducible refine e_lst ?_ | with_reducible refine e_meth ?_ | with_reducible refine e_comp ?_ | with_reducible refine e_sl ?_ | with_reducible refine e_neg ?_ | with_reducible refine e_isi ?_ | with_reducible refine e_lrg ?_ | with_reducible refine e_non ?_ | with_reducible refine e_str ?_ | with_reducible refine e_fnv ?_ | with_reducible refine e_orl ?_ | with_reducible refine e_dnew ?_ | with_reducible refine e_dget ?_ | with_reducible refine e_dget2 ?_
  | with_reducible refine o_no ?_ | with_reducible refine o_so ?_ | with_reducible refine i_rng ?_ | with_reducible refine i_seq ?_ | with_reducible refine i_enum ?_ | with_reducible refine if_nil ?_ | with_reducible refine if_cons ?_ | with_reducible refine rg_1 ?_ | with_reducible refine rg_2 ?_
  | with_reducible refine b_add ?_ | with_reducible refine b_sub ?_ | ((with_reducible refine' b_mul ?h1 ?_); (case h1 => first | assumption | mul_fits)) | ((with_reducible refine' b_fdiv ?h1 ?h2 ?_); (case h1 => walk_at "kn"); (case h2 => first | assumption | decide)) | ((with_reducible refine' b_mod ?h1 ?_); (case h1 => walk_at "kn")) | ((with_reducible refine' b_pow ?h1 ?_); (case h1 => first | assumption | exact ⟨by decide, by decide, by decide⟩)) | ((with_reducible refine' b_shr ?h1 ?_); (case h1 => walk_at "kn")) | ((with_reducible refine' b_shl ?h1 ?_); (case h1 => assumption)) | with_reducible refine b_and ?_ | with_reducible refine b_or ?_ | with_reducible refine b_xor ?_
  | with_reducible refine c_lt ?_ | with_reducible refine c_le ?_ | with_reducible refine c_gt ?_ | with_reducible refine c_ge ?_ | with_reducible refine c_eqi ?_ | with_reducible refine c_nei ?_ | with_reducible refine c_eqb ?_ | with_reducible refine c_neb ?_ | with_reducible refine c_eqs ?_ | with_reducible refine c_nes ?_
  | with_reducible refine t_bl ?_ | with_reducible refine t_int ?_ | with_reducible refine t_tup ?_ | with_reducible refine t_non ?_
  | ((with_reducible refine' x_ref ?h1 ?h2 ?_); (case h1 => walk_at "look"); (case h2 => walk_at "at")) | ((with_reducible refine' x_tup ?h1 ?_); (case h1 => walk_at "at")) | ((with_reducible refine' x_klst ?h1 ?_); (case h1 => walk_at "at"))
  | ((with_reducible refine' set_ref ?h1 ?h2 ?_); (case h1 => walk_at "look"); (case h2 => walk_at "at"))
  | ((with_reducible refine' f_lenr ?h1 ?_); (case h1 => walk_at "look")) | with_reducible refine f_lent ?_ | with_reducible refine f_lenk ?_ | with_reducible refine f_int ?_ | ((with_reducible refine' f_listr ?h1 ?_); (case h1 => walk_at "look")) | with_reducible refine f_listt ?_ | with_reducible refine f_listk ?_ | ((with_reducible refine' f_tupr ?h1 ?_); (case h1 => walk_at "look")) | with_reducible refine f_tupt ?_ | with_reducible refine f_max ?_ | with_reducible refine f_min ?_
  | with_reducible refine sl_klst ?_ | ((with_reducible refine' sl_ref ?h1 ?_); (case h1 => walk_at "look")) | with_reducible refine sl_tup ?_
  | ((with_reducible refine' m_app ?h1 ?h2 ?_); (case h1 => walk_at "look"); (case h2 => walk_at "sz")) | ((with_reducible refine' m_ext ?h1 ?h2 ?h3 ?_); (case h1 => walk_at "look"); (case h2 => walk_at "look"); (case h3 => walk_at "sz")) | ((with_reducible refine' m_extT ?h1 ?h3 ?_); (case h1 => walk_at "look"); (case h3 => walk_at "sz"))
  | with_reducible refine k_t ?_ | with_reducible refine k_f ?_ | with_reducible refine k_nt ?_ | with_reducible refine k_nf ?_
  | ((with_reducible refine' d_t ?h1 ?_); (case h1 => first | assumption | omega)) | ((with_reducible refine' d_f ?h1 ?_); (case h1 => first | assumption | omega)) | ((with_reducible refine' d_nt ?h1 ?_); (case h1 => first | assumption | omega)) | ((with_reducible refine' d_nf ?h1 ?_); (case h1 => first | assumption | omega))
  | ((with_reducible refine' And.intro (r_lst ?h1 ?h2) ?_); (case h1 => decide); (case h2 => walk_at "look")) | (with_reducible refine And.intro r_int ?_)
  | ((with_reducible refine And.intro ?h1 ?_); (case h1 => (with_reducible show List.length _ ≤ sizeLine); walk_at "sz"))
  | dsimp only
  | dsimp only [isTy_int, isTy_bl, isTy_str, isTy_non, isTy_tup])
local macro_rules | `(tactic| walk_at "mp") => `(tactic| repeat walk_at "mp1")

local macro_rules | `(tactic| walk_at "st") => `(tactic| repeat first | walk_at "mp1" | ((with_reducible refine' d_t ?h1 ?_); (case h1 => decide +kernel)) | ((with_reducible refine' d_f ?h1 ?_); (case h1 => decide +kernel)) | ((with_reducible refine' d_nt ?h1 ?_); (case h1 => decide +kernel)) | ((with_reducible refine' d_nf ?h1 ?_); (case h1 => decide +kernel)) | with_reducible refine s_cnt ?_)
/-! ### each once -/
def dd (acc : List Str) : List Str → List Str
  | [] => acc
  | x :: r => dd (if x ∈ acc then acc else acc ++ [x]) r
theorem dd_app (acc l1 l2 : List Str) : dd acc (l1 ++ l2) = dd (dd acc l1) l2 := by
  induction l1 generalizing acc with
  | nil => rfl
  | cons x r ih => exact ih _
theorem mem_dd {x : Str} : ∀ {l acc : List Str}, x ∈ acc → x ∈ dd acc l
  | [], acc, h => h
  | y :: r, acc, h => mem_dd (l := r) (by split <;> simp [h])
theorem mem_dd2 {x : Str} : ∀ {l acc : List Str}, x ∈ l → x ∈ dd acc l
  | y :: r, acc, h => by
    rw [List.mem_cons] at h
    rcases h with rfl | h
    · exact mem_dd (l := r) (by split <;> simp [*])
    · exact mem_dd2 (l := r) h
theorem dd_dd : ∀ (l acc b : List Str), dd acc (dd b l) = dd (dd acc b) l
  | [], acc, b => rfl
  | x :: r, acc, b => by
    show dd acc (dd (if x ∈ b then b else b ++ [x]) r) = dd (if x ∈ dd acc b then dd acc b else dd acc b ++ [x]) r
    rw [dd_dd r]
    by_cases h : x ∈ b
    · rw [if_pos h, if_pos (mem_dd2 h)]
    · rw [if_neg h, dd_app]
      rfl
theorem dd_nil (l acc : List Str) : dd acc (dd [] l) = dd acc l := dd_dd l acc []
theorem dd_len : ∀ (l acc : List Str), (dd acc l).length ≤ acc.length + l.length
  | [], acc => Nat.le_refl _
  | x :: r, acc => by
    have := dd_len r (if x ∈ acc then acc else acc ++ [x])
    show (dd (if x ∈ acc then acc else acc ++ [x]) r).length ≤ _
    rw [List.length_cons]
    split at this <;> rename_i h
    · rw [if_pos h]; omega
    · rw [if_neg h]; rw [List.length_append, List.length_singleton] at this; omega
theorem dd_ok {P : Str → Prop} : ∀ {l acc : List Str}, (∀ x ∈ acc, P x) → (∀ x ∈ l, P x) → ∀ x ∈ dd acc l, P x
  | [], acc, h, _ => h
  | y :: r, acc, h, h2 => dd_ok (l := r) (by
      split
      · exact h
      · intro x hx
        rw [List.mem_append, List.mem_singleton] at hx
        rcases hx with hx | rfl
        · exact h x hx
        · exact h2 _ List.mem_cons_self) fun x hx => h2 x (List.mem_cons_of_mem _ hx)
theorem nms_len : ∀ {n : Nat} {e : EX}, okE n e → (nmsE e).length ≤ 2 ^ n
  | n, .num i, _ => by simp [nmsE]
  | n, .nm x, _ => Nat.one_le_two_pow
  | n + 1, .not e, h => by
    have := nms_len (n := n) (e := e) h
    have h2 : 2 ^ (n + 1) = 2 ^ n * 2 := Nat.pow_succ ..
    show (nmsE e).length ≤ _
    omega
  | n + 1, .bin o a b, h => by
    have h1 := nms_len (n := n) (e := a) h.2.1
    have h2 := nms_len (n := n) (e := b) h.2.2
    have h3 : 2 ^ (n + 1) = 2 ^ n * 2 := Nat.pow_succ ..
    show (nmsE a ++ nmsE b).length ≤ _
    rw [List.length_append]
    omega
  | 0, .not e, h => h.elim
  | 0, .bin o a b, h => h.elim
theorem nms_le {n : Nat} {e : EX} (hn : n ≤ 8) (h : okE n e) : (nmsE e).length ≤ 256 :=
  Nat.le_trans (nms_len h) (Nat.pow_le_pow_right (by decide) hn)
theorem nms_ok : ∀ {n : Nat} {e : EX}, okE n e → ∀ x ∈ nmsE e, PyData.strOk x = true
  | n, .num i, _ => fun x hx => by cases hx
  | n, .nm y, h => fun x hx => by
    rw [List.mem_singleton.mp hx]
    cases n <;> exact h
  | n + 1, .not e, h => nms_ok (n := n) (e := e) h
  | n + 1, .bin o a b, h => fun x hx => by
    rcases List.mem_append.mp hx with hx | hx
    · exact nms_ok (n := n) (e := a) h.2.1 x hx
    · exact nms_ok (n := n) (e := b) h.2.2 x hx
  | 0, .not e, h => h.elim
  | 0, .bin o a b, h => h.elim
section
variable {k : Nat} {S : Sto} {Q : KD} {E : Ex → Sto → Prop}
def enB : MSs := match bexpr_names with
  | .cons _ (.cons _ (.cons (.for_ _ _ b) _)) => b
  | _ => .nil
def enI : MSs := match enB with
  | .cons (.iff _ (.cons (.for_ _ _ b) _) _) _ => b
  | _ => .nil
section
variable {f : Nat} {B : D} {rt : KD} {nx : MP.Env → Sto → Prop} {ex : Ex → MP.Env → Sto → Prop}
theorem en_inner {s2 : Option D} : ∀ (l acc : List Str) (S : Sto) (s3 : Option D), acc.length + l.length ≤ 1000 → S[f]? = some (.lst (sl acc)) →
    (∀ S' s3, Ch [f] S S' → S'[f]? = some (.lst (sl (dd acc l))) → nx [some B, some (.ref f), s2, s3] S') → wpFor [] (forB (C k) (.nm 3) enI rt nx ex) nx (sl l) [some B, some (.ref f), s2, s3] S
  | [], acc, S, s3, hl, g, q => for_n gd_nil (q S s3 Ch.refl g)
  | x :: r, acc, S, s3, hl, g, q => by
    rw [List.length_cons] at hl
    refine for_c gd_nil ?_
    conv => arg 2; unfold enI enB bexpr_names
    dsimp only
    have sz : (sl acc).length < sizeLine := by rw [sizeLine_eq]; unfold sl; rw [List.length_map]; omega
    walk_at "mp"
    refine c_ninl g rfl (by simp [sl, flatD]) ?_
    rw [sl_in]
    walk_at "mp"
    by_cases h : x ∈ acc
    · refine d_nf h ?_
      walk_at "mp"
      refine en_inner r acc S _ (by omega) g fun S' s3 e g' => q S' s3 e ?_
      rw [g']
      show _ = some (O.lst (sl (dd (if x ∈ acc then acc else acc ++ [x]) r)))
      rw [if_pos h]
    · refine d_nt h ?_
      walk_at "mp"
      have g1 := g_set (o := .lst (sl acc ++ [.str x])) g
      refine en_inner r (acc ++ [x]) _ _ (by rw [List.length_append, List.length_singleton]; omega) (by rw [g1]; simp [sl]) fun S' s3 e g' => q S' s3 ((Ch.refl.set (by simp)).trans e) ?_
      rw [g']
      show _ = some (O.lst (sl (dd (if x ∈ acc then acc else acc ++ [x]) r)))
      rw [if_neg h]
end
def EnS (k n : Nat) : Prop := ∀ (e : EX) (S : Sto) (Q : KD) (E : Ex → Sto → Prop), okE n e → RetV S (.tup (sl (dd [] (nmsE e)))) Q → C k fexpr_names [eD e] S Q E
theorem isTy_eD (e : EX) : isTy (eD e) .tuple S = some true := by cases e <;> rfl
theorem en_part {n f : Nat} {B : D} {rt : KD} {nx : MP.Env → Sto → Prop} {ex : Ex → MP.Env → Sto → Prop} (ih : EnS k n) (hn : n ≤ 8) {e : EX} (ok : okE n e) {r : List D} {acc : List Str} {s2 s3 : Option D} (hl : acc.length ≤ 256) (g : S[f]? = some (.lst (sl acc)))
    (q : ∀ S' s2 s3, Ch [f] S S' → S'[f]? = some (.lst (sl (dd acc (nmsE e)))) → wpFor [] (forB (C k) (.nm 2) enB rt nx ex) nx r [some B, some (.ref f), s2, s3] S') : wpFor [] (forB (C k) (.nm 2) enB rt nx ex) nx (eD e :: r) [some B, some (.ref f), s2, s3] S := by
  refine for_c gd_nil ?_
  conv => arg 2; unfold enB bexpr_names
  dsimp only
  walk_at "mp"
  rw [isTy_eD]
  walk_at "mp"
  refine ih e S _ _ ok fun S1 e1 => ?_
  have l2 := nms_le hn ok
  have l1 := dd_len (nmsE e) []
  rw [List.length_nil] at l1
  dsimp only
  refine en_inner _ acc S1 s3 (by omega) (e1.get (by simp) g) fun S2 s3 e2 g2 => ?_
  rw [dd_nil] at g2
  walk_at "mp"
  exact q S2 _ s3 ((ch_up e1).trans e2) g2
theorem eD_not {e : EX} : eD (.not e) = .tup [.str "not", eD e] := rfl
theorem eD_bin {o : Str} {a b : EX} : eD (.bin o a b) = .tup [.str o, eD a, eD b] := rfl
theorem en_step {n : Nat} (hn : n ≤ 8) (ih : ∀ m, n = m + 1 → EnS k m) : EnS (k + 1) n := by
  intro e S Q E ok q
  refine cexpr_names ?_
  unfold bexpr_names
  cases e with
  | num i =>
    unfold eD
    walk_at "st"
    rw [show cutD [D.str "number", D.int i] (some 1) none = [.int i] from rfl]
    refine for_c gd_nil ?_
    walk_at "st"
    refine for_n gd_nil ?_
    walk_at "st"
    exact q _ Ch.refl.app
  | nm x =>
    unfold eD
    walk_at "st"
    exact q _ Ch.refl
  | not e => cases n with
    | zero => exact ok.elim
    | succ n =>
      have oke : okE n e := ok
      rw [eD_not]
      walk_at "st"
      rw [show cutD [D.str "not", eD e] (some 1) none = [eD e] from rfl]
      refine en_part (ih n rfl) (by omega) oke (acc := []) (by simp) g_last fun S1 s2 s3 e1 g1 => ?_
      refine for_n gd_nil ?_
      walk_at "st"
      exact q _ (ch_drop Ch.refl.app e1 (Nat.le_refl _))
  | bin o a b => cases n with
    | zero => exact ok.elim
    | succ n =>
      obtain ⟨⟨ok0, ok1⟩, oka, okb⟩ := ok
      rw [eD_bin]
      have a0 : atI [D.str o, eD a, eD b] 0 = some (D.str o) := rfl
      walk_at "st"
      rw [show cutD [D.str o, eD a, eD b] (some 1) none = [eD a, eD b] from rfl]
      have l2 := nms_le (by omega : n ≤ 8) oka
      have l1 := dd_len (nmsE a) []
      rw [List.length_nil] at l1
      refine en_part (ih n rfl) (by omega) oka (acc := []) (by simp) g_last fun S1 s2 s3 e1 g1 => ?_
      refine en_part (ih n rfl) (by omega) okb (by omega) g1 fun S2 s2 s3 e2 g2 => ?_
      refine for_n gd_nil ?_
      walk_at "st"
      rw [← dd_app]
      exact q _ (ch_drop Ch.refl.app (e1.trans e2) (Nat.le_refl _))
theorem en_ok : ∀ (n : Nat) {k : Nat}, n ≤ 8 → n + 1 ≤ k → EnS k n
  | 0, k, hn, hk => by
    obtain ⟨k, rfl⟩ := up (n := 1) (by omega : 1 ≤ k)
    exact en_step hn fun m hm => by cases hm
  | n + 1, k, hn, hk => by
    obtain ⟨k, rfl⟩ := up (n := 1) (by omega : 1 ≤ k)
    refine en_step hn fun m hm => ?_
    cases hm
    exact en_ok n (by omega) (by omega)

/-! ### the law's names -/
def noB : MSs := match b_law_names_of with
  | .cons _ (.cons (.for_ _ _ b) _) => b
  | _ => .nil
def NoS (k n : Nat) : Prop := ∀ (e : EX) (S : Sto) (Q : KD) (E : Ex → Sto → Prop), okE n e → RetL S (sl (nmsE e)) Q → C k f_law_names_of [eD e] S Q E
theorem no_part {n f : Nat} {B : D} {rt : KD} {nx : MP.Env → Sto → Prop} {ex : Ex → MP.Env → Sto → Prop} (ih : NoS k n) (hn : n ≤ 8) {e : EX} (ok : okE n e) {r : List D} {acc : List Str} {s2 : Option D} (hl : acc.length ≤ 256) (g : S[f]? = some (.lst (sl acc)))
    (q : ∀ S' f' s2, Ch [] S S' → S.length ≤ f' → S'[f']? = some (.lst (sl (acc ++ nmsE e))) → wpFor [] (forB (C k) (.nm 2) noB rt nx ex) nx r [some B, some (.ref f'), s2] S') : wpFor [] (forB (C k) (.nm 2) noB rt nx ex) nx (eD e :: r) [some B, some (.ref f), s2] S := by
  refine for_c gd_nil ?_
  conv => arg 2; unfold noB b_law_names_of
  dsimp only
  walk_at "mp"
  rw [isTy_eD]
  walk_at "mp"
  refine ih e S _ _ ok fun a S1 e1 ha g1 => ?_
  have l2 := nms_le hn ok
  walk_at "mp"
  refine b_addl (e1.get (by simp) g) g1 (by rw [sizeLine_eq, sl_len, sl_len]; omega) ?_
  walk_at "mp"
  refine q _ _ _ e1.app e1.le ?_
  rw [show sl acc ++ sl (nmsE e) = sl (acc ++ nmsE e) by simp [sl]]
  exact g_last
theorem no_step {n : Nat} (hn : n ≤ 8) (ih : ∀ m, n = m + 1 → NoS k m) : NoS (k + 1) n := by
  intro e S Q E ok q
  refine c_law_names_of ?_
  unfold b_law_names_of
  cases e with
  | num i =>
    unfold eD
    walk_at "st"
    rw [show cutD [D.str "number", D.int i] (some 1) none = [.int i] from rfl]
    refine for_c gd_nil ?_
    walk_at "st"
    refine for_n gd_nil ?_
    walk_at "st"
    exact q _ _ Ch.refl.app (Nat.le_refl _) g_last
  | nm x =>
    unfold eD
    walk_at "st"
    rw [show cutD [D.str "name", D.str x] (some 1) none = [.str x] from rfl]
    refine for_c gd_nil ?_
    walk_at "st"
    refine for_n gd_nil ?_
    walk_at "st"
    exact q _ _ Ch.refl.app (Nat.le_refl _) g_last
  | not e => cases n with
    | zero => exact ok.elim
    | succ n =>
      have oke : okE n e := ok
      rw [eD_not]
      walk_at "st"
      rw [show cutD [D.str "not", eD e] (some 1) none = [eD e] from rfl]
      refine no_part (ih n rfl) (by omega) oke (acc := []) (by simp) g_last fun S1 f1 s2 e1 h1 g1 => ?_
      refine for_n gd_nil ?_
      walk_at "st"
      exact q _ _ ((Ch.refl.app).trans e1) (by simp at h1; omega) g1
  | bin o a b => cases n with
    | zero => exact ok.elim
    | succ n =>
      obtain ⟨⟨ok0, ok1⟩, oka, okb⟩ := ok
      rw [eD_bin]
      have a0 : atI [D.str o, eD a, eD b] 0 = some (D.str o) := rfl
      walk_at "st"
      rw [show cutD [D.str o, eD a, eD b] (some 1) none = [eD a, eD b] from rfl]
      have l2 := nms_le (by omega : n ≤ 8) oka
      refine no_part (ih n rfl) (by omega) oka (acc := []) (by simp) g_last fun S1 f1 s2 e1 h1 g1 => ?_
      refine no_part (ih n rfl) (by omega) okb (by simpa using l2) g1 fun S2 f2 s2 e2 h2 g2 => ?_
      refine for_n gd_nil ?_
      walk_at "st"
      exact q _ _ (((Ch.refl.app).trans e1).trans e2) (by have := e1.le; simp at h1 this; omega) g2
theorem no_ok : ∀ (n : Nat) {k : Nat}, n ≤ 8 → n + 1 ≤ k → NoS k n
  | 0, k, hn, hk => by
    obtain ⟨k, rfl⟩ := up (n := 1) (by omega : 1 ≤ k)
    exact no_step hn fun m hm => by cases hm
  | n + 1, k, hn, hk => by
    obtain ⟨k, rfl⟩ := up (n := 1) (by omega : 1 ≤ k)
    refine no_step hn fun m hm => ?_
    cases hm
    exact no_ok n (by omega) (by omega)

/-! ### right names -/
def rnB : MSs := match b_law_right_names with
  | .cons _ (.cons _ (.cons _ (.cons _ (.cons (.for_ _ _ b) _)))) => b
  | _ => .nil
theorem rn_loop {f a : Nat} {B e : D} {rt : KD} {nx : MP.Env → Sto → Prop} {ex : Ex → MP.Env → Sto → Prop} {L : List D} (hfa : f ≠ a) : ∀ (l acc : List Str) (S : Sto) (s3 : Option D), acc.length + l.length ≤ 1000 → S[f]? = some (.lst (sl acc)) → S[a]? = some (.lst L) →
    (∀ S' s3, Ch [f] S S' → S'[f]? = some (.lst (sl (dd acc l))) → nx [some B, some e, some (.ref f), s3] S') → wpFor [(a, L)] (forB (C k) (.nm 3) rnB rt nx ex) nx (sl l) [some B, some e, some (.ref f), s3] S
  | [], acc, S, s3, hl, g, ga, q => for_n (gd_one ga) (q S s3 Ch.refl g)
  | x :: r, acc, S, s3, hl, g, ga, q => by
    rw [List.length_cons] at hl
    refine for_c (gd_one ga) ?_
    conv => arg 2; unfold rnB b_law_right_names
    dsimp only
    have sz : (sl acc).length < sizeLine := by rw [sizeLine_eq]; unfold sl; rw [List.length_map]; omega
    walk_at "mp"
    refine c_ninl g rfl (by simp [sl, flatD]) ?_
    rw [sl_in]
    walk_at "mp"
    by_cases h : x ∈ acc
    · refine d_nf h ?_
      walk_at "mp"
      refine rn_loop hfa r acc S _ (by omega) g ga fun S' s3 e g' => q S' s3 e ?_
      rw [g']
      show _ = some (O.lst (sl (dd (if x ∈ acc then acc else acc ++ [x]) r)))
      rw [if_pos h]
    · refine d_nt h ?_
      walk_at "mp"
      have g1 := g_set (o := .lst (sl acc ++ [.str x])) g
      refine rn_loop hfa r (acc ++ [x]) _ _ (by rw [List.length_append, List.length_singleton]; omega) (by rw [g1]; simp [sl]) (g_setn hfa ga) fun S' s3 e g' => q S' s3 ((Ch.refl.set (by simp)).trans e) ?_
      rw [g']
      show _ = some (O.lst (sl (dd (if x ∈ acc then acc else acc ++ [x]) r)))
      rw [if_neg h]
/-- a statement's expression -/
def exT : T → EX
  | .mark _ => .num 0
  | .leaf _ _ e => e
  | .whl t _ => t
  | .loop _ => .num 0
  | .iff t _ _ => t
theorem okT_ex {n : Nat} {x : T} (h : okT n x) : okE 4 (exT x) := by
  cases x with
  | mark y => trivial
  | leaf w r e => have h' : LeafOk w r e := by cases n <;> exact h
                  exact h'.ok
  | whl t b => cases n with
    | zero => exact h.elim
    | succ n => exact h.1
  | loop b => trivial
  | iff t a b => cases n with
    | zero => exact h.elim
    | succ n => exact h.1
end
end K17
/-! K17E: law k17, right names; the law's steps and rows. -/
namespace K17
open PySem PySem.Spec PyProof.Rows L2 MP
local macro_rules | `(tactic| walk_at "look") => `(tactic| first | assumption | exact g_last | (with_reducible apply g_set; walk_at "look") | ((with_reducible refine g_setn ?h1 ?h2); (case h1 => first | assumption | omega | (apply Ne.symm; assumption)); (case h2 => walk_at "look")) | ((with_reducible refine g_app ?_); walk_at "look") | ((with_reducible refine' Fr.get ?h1 ?h2 ?h3); (case h1 => assumption); (case h2 => first | assumption | omega | (apply Ne.symm; assumption)); (case h3 => walk_at "look")) | ((with_reducible refine' Ch.get ?h1 ?h2 ?h3); (case h1 => assumption); (case h2 => first | assumption | (simp; done) | (simp only [List.mem_cons, List.not_mem_nil, or_false, not_or]; omega)); (case h3 => walk_at "look")))
local macro_rules | `(tactic| walk_at "kn") => `(tactic| first | assumption | omega | (simp; done) | decide)
local macro_rules | `(tactic| walk_at "sz") => `(tactic| first | assumption | (rw [sizeLine_eq]; first | omega | (simp; done) | (simp; omega)))
local macro_rules | `(tactic| walk_at "at") => `(tactic| first | exact rfl | assumption)
local macro_rules | `(tactic| walk_at "mp1") => `(tactic| first
  | with_reducible refine s_cons ?_ | with_reducible refine s_nil ?_ | with_reducible refine s_nm ?_ | with_reducible refine s_ix ?_ | with_reducible refine s_asg ?_ | with_reducible refine s_ex ?_ | with_reducible refine s_iff ?_ | with_reducible refine s_ret ?_ | with_reducible refine s_for ?_
  | ((with_reducible refine' e_var ?h1 ?_); (case h1 => exact rfl)) | with_reducible refine e_int ?_ | with_reducible refine e_bin ?_ | with_reducible refine e_cmp ?_ | with_reducible refine e_ix ?_ | with_reducible refine e_call ?_ | with_reducible refine e_blt ?_ | with_reducible refine e_bl ?_ | with_reducible refine e_and ?_ | with_reducible refine e_or ?_ | with_reducible refine e_not ?_ | with_reducible refine e_ite ?_
  | with_reducible refine es_cons ?_ | with_reducible refine es_nil ?_ | with_reducible refine e_tup ?_ | with_reducible refine e_lst ?_ | with_reducible refine e_meth ?_ | with_reducible refine e_comp ?_ | with_reducible refine e_sl ?_ | with_reducible refine e_neg ?_ | with_reducible refine e_isi ?_ | with_reducible refine e_lrg ?_ | with_reducible refine e_non ?_ | with_reducible refine e_str ?_ | with_reducible refine e_fnv ?_ | with_reducible refine e_orl ?_ | with_reducible refine e_dnew ?_ | with_reducible refine e_dget ?_ | with_reducible refine e_dget2 ?_
  | with_reducible refine o_no ?_ | with_reducible refine o_so ?_ | with_reducible refine i_rng ?_ | with_reducible refine i_seq ?_ | with_reducible refine i_enum ?_ | with_reducible refine if_nil ?_ | with_reducible refine if_cons ?_ | with_reducible refine rg_1 ?_ | with_reducible refine rg_2 ?_
  | with_reducible refine b_add ?_ | with_reducible refine b_sub ?_ | ((with_reducible refine' b_mul ?h1 ?_); (case h1 => first | assumption | mul_fits)) | ((with_reducible refine' b_fdiv ?h1 ?h2 ?_); (case h1 => walk_at "kn"); (case h2 => first | assumption | decide)) | ((with_reducible refine' b_mod ?h1 ?_); (case h1 => walk_at "kn")) | ((with_reducible refine' b_pow ?h1 ?_); (case h1 => first | assumption | exact ⟨by decide, by decide, by decide⟩)) | ((with_reducible refine' b_shr ?h1 ?_); (case h1 => walk_at "kn")) | ((with_reducible refine' b_shl ?h1 ?_); (case h1 => assumption)) | with_reducible refine b_and ?_ | with_reducible refine b_or ?_ | with_reducible refine b_xor ?_
  | with_reducible refine c_lt ?_ | with_reducible refine c_le ?_ | with_reducible refine c_gt ?_ | with_reducible refine c_ge ?_ | with_reducible refine c_eqi ?_ | with_reducible refine c_nei ?_ | with_reducible refine c_eqb ?_ | with_reducible refine c_neb ?_ | with_reducible refine c_eqs ?_ | with_reducible refine c_nes ?_
  | with_reducible refine t_bl ?_ | with_reducible refine t_int ?_ | with_reducible refine t_tup ?_ | with_reducible refine t_non ?_
  | ((with_reducible refine' x_ref ?h1 ?h2 ?_); (case h1 => walk_at "look"); (case h2 => walk_at "at")) | ((with_reducible refine' x_tup ?h1 ?_); (case h1 => walk_at "at")) | ((with_reducible refine' x_klst ?h1 ?_); (case h1 => walk_at "at"))
  | ((with_reducible refine' set_ref ?h1 ?h2 ?_); (case h1 => walk_at "look"); (case h2 => walk_at "at"))
  | ((with_reducible refine' f_lenr ?h1 ?_); (case h1 => walk_at "look")) | with_reducible refine f_lent ?_ | with_reducible refine f_lenk ?_ | with_reducible refine f_int ?_ | ((with_reducible refine' f_listr ?h1 ?_); (case h1 => walk_at "look")) | with_reducible refine f_listt ?_ | with_reducible refine f_listk ?_ | ((with_reducible refine' f_tupr ?h1 ?_); (case h1 => walk_at "look")) | with_reducible refine f_tupt ?_ | with_reducible refine f_max ?_ | with_reducible refine f_min ?_
  | with_reducible refine sl_klst ?_ | ((with_reducible refine' sl_ref ?h1 ?_); (case h1 => walk_at "look")) | with_reducible refine sl_tup ?_
  | ((with_reducible refine' m_app ?h1 ?h2 ?_); (case h1 => walk_at "look"); (case h2 => walk_at "sz")) | ((with_reducible refine' m_ext ?h1 ?h2 ?h3 ?_); (case h1 => walk_at "look"); (case h2 => walk_at "look"); (case h3 => walk_at "sz")) | ((with_reducible refine' m_extT ?h1 ?h3 ?_); (case h1 => walk_at "look"); (case h3 => walk_at "sz"))
  | with_reducible refine k_t ?_ | with_reducible refine k_f ?_ | with_reducible refine k_nt ?_ | with_reducible refine k_nf ?_
  | ((with_reducible refine' d_t ?h1 ?_); (case h1 => first | assumption | omega)) | ((with_reducible refine' d_f ?h1 ?_); (case h1 => first | assumption | omega)) | ((with_reducible refine' d_nt ?h1 ?_); (case h1 => first | assumption | omega)) | ((with_reducible refine' d_nf ?h1 ?_); (case h1 => first | assumption | omega))
  | ((with_reducible refine' And.intro (r_lst ?h1 ?h2) ?_); (case h1 => decide); (case h2 => walk_at "look")) | (with_reducible refine And.intro r_int ?_)
  | ((with_reducible refine And.intro ?h1 ?_); (case h1 => (with_reducible show List.length _ ≤ sizeLine); walk_at "sz"))
  | dsimp only
  | dsimp only [isTy_int, isTy_bl, isTy_str, isTy_non, isTy_tup])
local macro_rules | `(tactic| walk_at "mp") => `(tactic| repeat walk_at "mp1")

local macro_rules | `(tactic| walk_at "st") => `(tactic| repeat first | walk_at "mp1" | ((with_reducible refine' d_t ?h1 ?_); (case h1 => decide +kernel)) | ((with_reducible refine' d_f ?h1 ?_); (case h1 => decide +kernel)) | ((with_reducible refine' d_nt ?h1 ?_); (case h1 => decide +kernel)) | ((with_reducible refine' d_nf ?h1 ?_); (case h1 => decide +kernel)) | with_reducible refine s_cnt ?_)
section
variable {k : Nat} {S : Sto} {Q : KD} {E : Ex → Sto → Prop}
theorem same_v {v : D} (h : puD 40 v = true) : ∃ d, (∀ S, Pd S v d) ∧ SeqAt.shaped d = true ∧ PyData.eqv d d = true := by
  obtain ⟨d, h2⟩ := da_of h
  refine ⟨d, h2.pd, ?_, h2.eq⟩
  unfold SeqAt.shaped
  rw [Bool.and_eq_true]
  refine ⟨h2.can, decide_eq_true ?_⟩
  have := h2.dep
  omega
theorem c_same {v : D} (h : puD 40 v = true) (q : Q (.bl true) S) : wpCmp .eq v v S Q := by
  obtain ⟨d, h1, h2, h3⟩ := same_v h
  exact c_eqd (h1 S) (h1 S) h2 h2 (by rw [h3]; exact q)
theorem c_nsame {v : D} (h : puD 40 v = true) (q : Q (.bl false) S) : wpCmp .ne v v S Q := by
  obtain ⟨d, h1, h2, h3⟩ := same_v h
  exact c_ned (h1 S) (h1 S) h2 h2 (by rw [h3]; exact q)
theorem pu_sl {l : List Str} (h : ∀ x ∈ l, PyData.strOk x = true) : puD 40 (.tup (sl l)) = true := by
  rw [puD_tup]
  intro v hv
  obtain ⟨x, hx, rfl⟩ := List.mem_map.mp hv
  exact puD_str (h x hx)
theorem rn_tail (hk : 5 ≤ k) {B : D} {e : EX} (ok : okE 4 e) {E : Ex → Sto → Prop} (q : ∀ S', Ch [] S S' → Q (.bl true) S') : wpSs (C k) (sk 3 b_law_right_names) (eG Q E) [some B, some (eD e), none, none] S := by
  unfold b_law_right_names sk sk sk sk eG
  walk_at "mp"
  refine no_ok 4 (by omega) (by omega) e _ _ _ ok fun a S1 e1 ha g1 => ?_
  walk_at "mp"
  rw [l_of g1]
  have l1 := nms_le (by decide) ok
  have ga : (S1)[S.length]? = some (.lst []) := e1.get (by simp) g_last
  refine rn_loop (by simp at ha; omega) (nmsE e) [] S1 none (by simp; omega) ga g1 fun S2 s3 e2 g2 => ?_
  walk_at "mp"
  refine en_ok 4 (by omega) (by omega) e _ _ _ ok fun S3 e3 => ?_
  walk_at "mp"
  have g3 := e3.get (by simp) g2
  walk_at "mp"
  refine c_same (pu_sl (dd_ok (by simp) (nms_ok ok))) ?_
  exact q _ ((ch_drop (Ch.refl.app.trans e1) e2 (Nat.le_refl _)).trans e3)
theorem right_names_ok (hk : 6 ≤ k) {n : Nat} {x : T} (ok : okT n x) (q : ∀ S', Ch [] S S' → Q (.bl true) S') : C k f_law_right_names [tD x] S Q E := by
  obtain ⟨k, rfl⟩ := up (n := 1) (by omega : 1 ≤ k)
  have oke := okT_ex ok
  have tl : wpSs (C k) (sk 3 b_law_right_names) (eG Q E) [some (tD x), some (eD (exT x)), none, none] S := rn_tail (by omega) oke q
  refine c_law_right_names ?_
  unfold b_law_right_names
  cases x with
  | mark y =>
    unfold tD
    walk_at "st"
    refine c_int rfl rfl (t_bl (k_F (by decide +kernel) (s_nil ?_)))
    exact tl
  | loop b =>
    unfold tD
    walk_at "st"
    refine c_int rfl rfl (t_bl (k_F (by decide +kernel) (s_nil ?_)))
    exact tl
  | whl t b =>
    unfold tD
    walk_at "st"
    refine c_int rfl rfl (t_bl (k_T (by decide +kernel) (s_cons (s_nm (e_ix (e_var rfl (e_int (x_tup rfl (s_nil ?_)))))))))
    exact tl
  | iff t a b =>
    unfold tD
    walk_at "st"
    refine c_int rfl rfl (t_bl (k_T (by decide +kernel) (s_cons (s_nm (e_ix (e_var rfl (e_int (x_tup rfl (s_nil ?_)))))))))
    exact tl
  | leaf w r e =>
    have h' : LeafOk w r e := by cases n <;> exact ok
    obtain ⟨n1, n2, n3, n4, _, _, _, _, at_⟩ := h'
    rcases at_ with ⟨rfl, x, rfl⟩ | ⟨hw, p, rfl⟩ | ⟨⟨h1, h2, h3⟩, rfl⟩
    · unfold tD
      walk_at "st"
      refine c_int rfl rfl (t_bl (k_F (by decide +kernel) (s_nil ?_)))
      exact tl
    · have a0 : atI (D.str w :: eD e :: p) 0 = some (D.str w) := at_head
      have a1 : atI (D.str w :: eD e :: p) 1 = some (eD e) := atI_nat (j := 1) rfl
      unfold tD
      rcases hw with rfl | rfl
      · walk_at "st"
        refine c_int rfl rfl (t_bl (k_T (by decide +kernel) (s_cons (s_nm (e_ix (e_var rfl (e_int (x_tup a1 (s_nil ?_)))))))))
        exact tl
      · walk_at "st"
        refine c_int rfl rfl (t_bl (k_T (by decide +kernel) (s_cons (s_nm (e_ix (e_var rfl (e_int (x_tup a1 (s_nil ?_)))))))))
        exact tl
    · have a0 : atI (D.str w :: r) 0 = some (D.str w) := at_head
      have e1 : inF (D.str w) [D.str "wait", D.str "if", D.str "while", D.str "send"] = false := by
        have x1 : (("while" : Str) == w) = false := beq_eq_false_iff_ne.mpr (Ne.symm n2)
        have x2 : (("if" : Str) == w) = false := beq_eq_false_iff_ne.mpr (Ne.symm n1)
        have x3 : (("wait" : Str) == w) = false := beq_eq_false_iff_ne.mpr (Ne.symm h2)
        have x4 : (("send" : Str) == w) = false := beq_eq_false_iff_ne.mpr (Ne.symm h3)
        simp [inF, eqF, x1, x2, x3, x4]
      unfold tD
      walk_at "st"
      refine c_int rfl rfl ?_
      rw [e1]
      refine t_bl (k_f (s_nil ?_))
      exact tl

/-! ### the law's steps -/
def lsB : MSs := match b_law_steps_in with
  | .cons _ (.cons (.for_ _ _ b) _) => b
  | _ => .nil
def lsI : MSs := match lsB with
  | .cons _ (.cons (.for_ _ _ b) _) => b
  | _ => .nil
def cns (bs : List Ts) : Nat := (bs.map cnt).sum
theorem cntT_inn {n : Nat} {x : T} (ok : okT n x) : cntT x = (if nmk (tD x) = true then 1 else 0) + cns (innS x) := by
  cases x with
  | mark y => rw [nmk_mark]; simp [cntT, innS, cns]
  | leaf w r e =>
    have h' : LeafOk w r e := by cases n <;> exact ok
    rw [nmk_leaf h'.n4]; simp [cntT, innS, cns]
  | whl t b => rw [nmk_whl]; simp [cntT, innS, cns]
  | loop b => rw [nmk_loop]; simp [cntT, innS, cns]
  | iff t a b => rw [nmk_iff]; simp [cntT, innS, cns]; omega
def LsS (k n : Nat) : Prop := ∀ (b : Ts) (S : Sto) (Q : KD) (E : Ex → Sto → Prop), okS n b → RetV S (.int (cnt b : Nat)) Q → C k f_law_steps_in [bD b] S Q E
section
variable {n f : Nat} {B : D} {rt : KD} {nx : MP.Env → Sto → Prop} {ex : Ex → MP.Env → Sto → Prop}
theorem ls_inner (ih : ∀ m, n = m + 1 → LsS k m) {L : List D} {s2 : Option D} : ∀ (bs : List Ts) (i : Int) (j : Nat) (S : Sto) (s3 : Option D), i = j → (∀ b ∈ bs, ∃ m, n = m + 1 ∧ okS m b) → S[f]? = some (.lst L) →
    (∀ S' s3, Ch [] S S' → nx [some B, some (.int (j + cns bs : Nat)), s2, s3] S') → wpFor [(f, L)] (forB (C k) (.nm 3) lsI rt nx ex) nx (bs.map bD) [some B, some (.int i), s2, s3] S
  | [], i, j, S, s3, hi, _, g, q => for_n (gd_one g) (by rw [hi]; exact q S s3 Ch.refl)
  | b :: r, i, j, S, s3, hi, ok, g, q => by
    obtain ⟨m, hm, okb⟩ := ok b List.mem_cons_self
    rw [List.map_cons]
    refine for_c (gd_one g) ?_
    conv => arg 2; unfold lsI lsB b_law_steps_in
    dsimp only
    walk_at "mp"
    refine ih m hm b S _ _ okb fun S1 e1 => ?_
    walk_at "mp"
    refine ls_inner ih r _ (j + cnt b) _ _ (by simp [hi]) (fun c hc => ok c (List.mem_cons_of_mem _ hc)) (e1.get (by simp) g) fun S2 s3 e2 => ?_
    have := q S2 s3 (e1.trans e2)
    rw [show cns (b :: r) = cnt b + cns r by simp [cns], ← Nat.add_assoc] at this
    exact this
theorem ls_loop (hk : 1 ≤ k) (ih : ∀ m, n = m + 1 → LsS k m) : ∀ (ts : Ts) (i : Int) (j : Nat) (S : Sto) (s2 s3 : Option D), i = j → okS n ts →
    (∀ S' s2 s3, Ch [] S S' → nx [some B, some (.int (j + cnt ts : Nat)), s2, s3] S') → wpFor [] (forB (C k) (.nm 2) lsB rt nx ex) nx (tsD ts) [some B, some (.int i), s2, s3] S
  | .nil, i, j, S, s2, s3, hi, ok, q => for_n gd_nil (by rw [hi]; exact q S s2 s3 Ch.refl)
  | .cons x r, i, j, S, s2, s3, hi, ok, q => by
    have okx : okT n x := by cases n <;> exact ok.1
    have okr : okS n r := by cases n <;> exact ok.2
    unfold tsD
    refine for_c gd_nil ?_
    conv => arg 2; unfold lsB b_law_steps_in
    dsimp only
    obtain ⟨h, w, hx⟩ : ∃ (h : Str) (w : List D), tD x = .tup (.str h :: w) := by cases x <;> exact ⟨_, _, rfl⟩
    have hn : nmk (tD x) = !decide (h = "mark") := by rw [hx]; rfl
    have go : ∀ (i' : Int), i' = ((j + (if nmk (tD x) = true then 1 else 0) : Nat) : Int) → wpFor [(S.length, innD x)] (forB (C k) (.nm 3) lsI rt (fun σ' S' => wpSs (C k) .nil ⟨wpFor [] (forB (C k) (.nm 2) lsB rt nx ex) nx (tsD r), rt, nx, wpFor [] (forB (C k) (.nm 2) lsB rt nx ex) nx (tsD r), ex⟩ σ' S') ex)
        (fun σ' S' => wpSs (C k) .nil ⟨wpFor [] (forB (C k) (.nm 2) lsB rt nx ex) nx (tsD r), rt, nx, wpFor [] (forB (C k) (.nm 2) lsB rt nx ex) nx (tsD r), ex⟩ σ' S') (innD x) [some B, some (.int i'), some (tD x), s3] (S ++ [.lst (innD x)]) := fun i' hi' => by
      refine ls_inner ih (innS x) i' _ _ _ hi' (okT_inn okx) g_last fun S1 s3 e1 => ?_
      refine s_nil ?_
      refine ls_loop hk ih r _ (j + cntT x) _ _ _ (by rw [cntT_inn okx, Nat.add_assoc]) okr fun S2 s2 s3 e2 => ?_
      have := q S2 s2 s3 ((Ch.refl.app.trans e1).trans e2)
      rw [show cnt (.cons x r) = cntT x + cnt r from rfl, ← Nat.add_assoc] at this
      exact this
    have a0 : atI (D.str h :: w) 0 = some (D.str h) := at_head
    by_cases hm : h = "mark"
    · rw [hn, decide_eq_true hm] at go
      rw [hx] at go ⊢
      walk_at "mp"
      rw [← hx] at go ⊢
      refine inner_ok hk okx ?_
      dsimp only
      rw [l_of (g_last (S := S) (o := .lst (innD x)))]
      exact go _ (by simp [hi])
    · rw [hn, decide_eq_false hm] at go
      rw [hx] at go ⊢
      walk_at "mp"
      rw [← hx] at go ⊢
      refine inner_ok hk okx ?_
      dsimp only
      rw [l_of (g_last (S := S) (o := .lst (innD x)))]
      exact go _ (by simp [hi])
end
theorem ls_step {n : Nat} (hk : 1 ≤ k) (ih : ∀ m, n = m + 1 → LsS k m) : LsS (k + 1) n := by
  intro b S Q E ok q
  refine c_law_steps_in ?_
  unfold b_law_steps_in
  walk_at "mp"
  unfold bD
  walk_at "mp"
  refine ls_loop hk ih b 0 0 S none none rfl ok fun S1 s2 s3 e1 => ?_
  walk_at "mp"
  rw [Nat.zero_add]
  exact q S1 e1
theorem ls_ok : ∀ (n : Nat) {k : Nat}, n + 2 ≤ k → LsS k n
  | 0, k, hk => by
    obtain ⟨k, rfl⟩ := up (n := 1) (by omega : 1 ≤ k)
    exact ls_step (by omega) fun m hm => by cases hm
  | n + 1, k, hk => by
    obtain ⟨k, rfl⟩ := up (n := 1) (by omega : 1 ≤ k)
    refine ls_step (by omega) fun m hm => ?_
    cases hm
    exact ls_ok n (by omega)
theorem ls_1 {n : Nat} (hk : n + 2 ≤ k) {x : T} (ok : okT n x) (q : RetV S (.int (cntT x : Nat)) Q) : C k f_law_steps_in [.tup [tD x]] S Q E :=
  ls_ok n hk (.cons x .nil) S Q E (by cases n <;> exact ⟨ok, trivial⟩) (by simpa [cnt] using q)
end
end K17
/-! K17F: law k17, the law's rows and entries. -/
namespace K17
open PySem PySem.Spec PyProof.Rows L2 MP
local macro_rules | `(tactic| walk_at "look") => `(tactic| first | assumption | exact g_last | (with_reducible apply g_set; walk_at "look") | ((with_reducible refine g_setn ?h1 ?h2); (case h1 => first | assumption | omega | (apply Ne.symm; assumption)); (case h2 => walk_at "look")) | ((with_reducible refine g_app ?_); walk_at "look") | ((with_reducible refine' Fr.get ?h1 ?h2 ?h3); (case h1 => assumption); (case h2 => first | assumption | omega | (apply Ne.symm; assumption)); (case h3 => walk_at "look")) | ((with_reducible refine' Ch.get ?h1 ?h2 ?h3); (case h1 => assumption); (case h2 => first | assumption | (simp; done) | (simp only [List.mem_cons, List.not_mem_nil, or_false, not_or]; omega)); (case h3 => walk_at "look")))
local macro_rules | `(tactic| walk_at "kn") => `(tactic| first | assumption | omega | (simp; done) | decide)
local macro_rules | `(tactic| walk_at "sz") => `(tactic| first | assumption | (rw [sizeLine_eq]; first | omega | (simp; done) | (simp; omega)))
local macro_rules | `(tactic| walk_at "at") => `(tactic| first | exact rfl | assumption)
local macro_rules | `(tactic| walk_at "mp1") => `(tactic| first
  | with_reducible refine s_cons ?_ | with_reducible refine s_nil ?_ | with_reducible refine s_nm ?_ | with_reducible refine s_ix ?_ | with_reducible refine s_asg ?_ | with_reducible refine s_ex ?_ | with_reducible refine s_iff ?_ | with_reducible refine s_ret ?_ | with_reducible refine s_for ?_
  | ((with_reducible refine' e_var ?h1 ?_); (case h1 => exact rfl)) | with_reducible refine e_int ?_ | with_reducible refine e_bin ?_ | with_reducible refine e_cmp ?_ | with_reducible refine e_ix ?_ | with_reducible refine e_call ?_ | with_reducible refine e_blt ?_ | with_reducible refine e_bl ?_ | with_reducible refine e_and ?_ | with_reducible refine e_or ?_ | with_reducible refine e_not ?_ | with_reducible refine e_ite ?_
  | with_reducible refine es_cons ?_ | with_reducible refine es_nil ?_ | with_reducible refine e_tup ?_ | with_reducible refine e_lst ?_ | with_reducible refine e_meth ?_ | with_reducible refine e_comp ?_ | with_reducible refine e_sl ?_ | with_reducible refine e_neg ?_ | with_reducible refine e_isi ?_ | with_reducible refine e_lrg ?_ | with_reducible refine e_non ?_ | with_reducible refine e_str ?_ | with_reducible refine e_fnv ?_ | with_reducible refine e_orl ?_ | with_reducible refine e_dnew ?_ | with_reducible refine e_dget ?_ | with_reducible refine e_dget2 ?_
  | with_reducible refine o_no ?_ | with_reducible refine o_so ?_ | with_reducible refine i_rng ?_ | with_reducible refine i_seq ?_ | with_reducible refine i_enum ?_ | with_reducible refine if_nil ?_ | with_reducible refine if_cons ?_ | with_reducible refine rg_1 ?_ | with_reducible refine rg_2 ?_
  | with_reducible refine b_add ?_ | with_reducible refine b_sub ?_ | ((with_reducible refine' b_mul ?h1 ?_); (case h1 => first | assumption | mul_fits)) | ((with_reducible refine' b_fdiv ?h1 ?h2 ?_); (case h1 => walk_at "kn"); (case h2 => first | assumption | decide)) | ((with_reducible refine' b_mod ?h1 ?_); (case h1 => walk_at "kn")) | ((with_reducible refine' b_pow ?h1 ?_); (case h1 => first | assumption | exact ⟨by decide, by decide, by decide⟩)) | ((with_reducible refine' b_shr ?h1 ?_); (case h1 => walk_at "kn")) | ((with_reducible refine' b_shl ?h1 ?_); (case h1 => assumption)) | with_reducible refine b_and ?_ | with_reducible refine b_or ?_ | with_reducible refine b_xor ?_
  | with_reducible refine c_lt ?_ | with_reducible refine c_le ?_ | with_reducible refine c_gt ?_ | with_reducible refine c_ge ?_ | with_reducible refine c_eqi ?_ | with_reducible refine c_nei ?_ | with_reducible refine c_eqb ?_ | with_reducible refine c_neb ?_ | with_reducible refine c_eqs ?_ | with_reducible refine c_nes ?_
  | with_reducible refine t_bl ?_ | with_reducible refine t_int ?_ | with_reducible refine t_tup ?_ | with_reducible refine t_non ?_
  | ((with_reducible refine' x_ref ?h1 ?h2 ?_); (case h1 => walk_at "look"); (case h2 => walk_at "at")) | ((with_reducible refine' x_tup ?h1 ?_); (case h1 => walk_at "at")) | ((with_reducible refine' x_klst ?h1 ?_); (case h1 => walk_at "at"))
  | ((with_reducible refine' set_ref ?h1 ?h2 ?_); (case h1 => walk_at "look"); (case h2 => walk_at "at"))
  | ((with_reducible refine' f_lenr ?h1 ?_); (case h1 => walk_at "look")) | with_reducible refine f_lent ?_ | with_reducible refine f_lenk ?_ | with_reducible refine f_int ?_ | ((with_reducible refine' f_listr ?h1 ?_); (case h1 => walk_at "look")) | with_reducible refine f_listt ?_ | with_reducible refine f_listk ?_ | ((with_reducible refine' f_tupr ?h1 ?_); (case h1 => walk_at "look")) | with_reducible refine f_tupt ?_ | with_reducible refine f_max ?_ | with_reducible refine f_min ?_
  | with_reducible refine sl_klst ?_ | ((with_reducible refine' sl_ref ?h1 ?_); (case h1 => walk_at "look")) | with_reducible refine sl_tup ?_
  | ((with_reducible refine' m_app ?h1 ?h2 ?_); (case h1 => walk_at "look"); (case h2 => walk_at "sz")) | ((with_reducible refine' m_ext ?h1 ?h2 ?h3 ?_); (case h1 => walk_at "look"); (case h2 => walk_at "look"); (case h3 => walk_at "sz")) | ((with_reducible refine' m_extT ?h1 ?h3 ?_); (case h1 => walk_at "look"); (case h3 => walk_at "sz"))
  | with_reducible refine k_t ?_ | with_reducible refine k_f ?_ | with_reducible refine k_nt ?_ | with_reducible refine k_nf ?_
  | ((with_reducible refine' d_t ?h1 ?_); (case h1 => first | assumption | omega)) | ((with_reducible refine' d_f ?h1 ?_); (case h1 => first | assumption | omega)) | ((with_reducible refine' d_nt ?h1 ?_); (case h1 => first | assumption | omega)) | ((with_reducible refine' d_nf ?h1 ?_); (case h1 => first | assumption | omega))
  | ((with_reducible refine' And.intro (r_lst ?h1 ?h2) ?_); (case h1 => decide); (case h2 => walk_at "look")) | (with_reducible refine And.intro r_int ?_)
  | ((with_reducible refine And.intro ?h1 ?_); (case h1 => (with_reducible show List.length _ ≤ sizeLine); walk_at "sz"))
  | dsimp only
  | dsimp only [isTy_int, isTy_bl, isTy_str, isTy_non, isTy_tup])
local macro_rules | `(tactic| walk_at "mp") => `(tactic| repeat walk_at "mp1")

local macro_rules | `(tactic| walk_at "st") => `(tactic| repeat first | walk_at "mp1" | ((with_reducible refine' d_t ?h1 ?_); (case h1 => decide +kernel)) | ((with_reducible refine' d_f ?h1 ?_); (case h1 => decide +kernel)) | ((with_reducible refine' d_nt ?h1 ?_); (case h1 => decide +kernel)) | ((with_reducible refine' d_nf ?h1 ?_); (case h1 => decide +kernel)) | with_reducible refine s_cnt ?_)
section
variable {k : Nat} {S : Sto} {Q : KD} {E : Ex → Sto → Prop}
/-! ### rows in order -/
def lfB : MSs := match b_law_flat with
  | .cons _ (.cons (.for_ _ _ b) _) => b
  | _ => .nil
def LfS (k n : Nat) : Prop := ∀ (b : Ts) (S : Sto) (Q : KD) (E : Ex → Sto → Prop), okS n b → nod b ≤ 1000 → RetL S (flat b) Q → C k f_law_flat [bD b] S Q E
section
variable {n : Nat} {B : D} {rt : KD} {nx : MP.Env → Sto → Prop} {ex : Ex → MP.Env → Sto → Prop} {S0 : Sto}
theorem lf_loop (ih : ∀ m, n = m + 1 → LfS k m) : ∀ (ts : Ts) (acc : List D) (f : Nat) (S : Sto) (s2 : Option D), okS n ts → acc.length + nod ts ≤ 1000 → S0.length ≤ f → Ch [] S0 S → S[f]? = some (.lst acc) →
    (∀ S' f' s2, Ch [] S0 S' → S0.length ≤ f' → S'[f']? = some (.lst (acc ++ flat ts)) → nx [some B, some (.ref f'), s2] S') → wpFor [] (forB (C k) (.nm 2) lfB rt nx ex) nx (tsD ts) [some B, some (.ref f), s2] S
  | .nil, acc, f, S, s2, ok, hl, hf, e0, g, q => for_n gd_nil (q S f s2 e0 hf (by simpa [flat] using g))
  | .cons x r, acc, f, S, s2, ok, hl, hf, e0, g, q => by
    have okx : okT n x := by cases n <;> exact ok.1
    have okr : okS n r := by cases n <;> exact ok.2
    have h1 := flatT_pos x
    rw [nod_cons] at hl
    have sz : acc.length < sizeLine := by rw [sizeLine_eq]; omega
    have e1 : Ch [] S0 (S.set f (.lst (acc ++ [tD x]))) := e0.setn hf
    have g1 := g_set (o := .lst (acc ++ [tD x])) g
    have qq : ∀ S' f' s2, Ch [] S0 S' → S0.length ≤ f' → S'[f']? = some (.lst (acc ++ flatT x)) → wpFor [] (forB (C k) (.nm 2) lfB rt nx ex) nx (tsD r) [some B, some (.ref f'), s2] S' := fun S' f' s2 e' h' g' => by
      refine lf_loop ih r _ f' S' s2 okr (by rw [List.length_append]; omega) h' e' g' fun S2 f2 s2 e2 h2 g2 => q S2 f2 s2 e2 h2 ?_
      rw [g2]
      simp [flat]
    unfold tsD
    refine for_c gd_nil ?_
    conv => arg 2; unfold lfB b_law_flat
    dsimp only
    cases x with
    | mark y =>
      unfold tD at *
      walk_at "st"
      exact qq _ _ _ e1 hf (by simpa [flatT, tD] using g1)
    | leaf w e u =>
      have h' : LeafOk w e u := by cases n <;> exact okx
      obtain ⟨n1, n2, n3, n4, _⟩ := h'
      have a0 : atI (D.str w :: e) 0 = some (D.str w) := at_head
      unfold tD at *
      walk_at "st"
      exact qq _ _ _ e1 hf (by simpa [flatT, tD] using g1)
    | whl t b =>
      obtain ⟨m, hm, okb⟩ := okT_inn okx b (by simp [innS])
      have hlb := inn_le (x := .whl t b) (b := b) (by simp [innS])
      have hz : acc.length + 1 + nod b ≤ 1000 := by omega
      unfold tD at *
      walk_at "st"
      refine ih m hm b _ _ _ okb (by omega) fun a1 S1 e2 h2 g2 => ?_
      walk_at "st"
      refine b_addl (e2.get (by simp) g1) g2 (by rw [sizeLine_eq, List.length_append, List.length_singleton]; have : (flat b).length = nod b := rfl; omega) ?_
      walk_at "st"
      exact qq _ _ _ (e1.trans e2).app (by have := e0.le; have := e2.le; simp at this; omega) (by rw [g_last]; simp [flatT, tD])
    | loop b =>
      obtain ⟨m, hm, okb⟩ := okT_inn okx b (by simp [innS])
      have hlb := inn_le (x := .loop b) (b := b) (by simp [innS])
      have hz : acc.length + 1 + nod b ≤ 1000 := by omega
      unfold tD at *
      walk_at "st"
      refine ih m hm b _ _ _ okb (by omega) fun a1 S1 e2 h2 g2 => ?_
      walk_at "st"
      refine b_addl (e2.get (by simp) g1) g2 (by rw [sizeLine_eq, List.length_append, List.length_singleton]; have : (flat b).length = nod b := rfl; omega) ?_
      walk_at "st"
      exact qq _ _ _ (e1.trans e2).app (by have := e0.le; have := e2.le; simp at this; omega) (by rw [g_last]; simp [flatT, tD])
    | iff t a b =>
      obtain ⟨m, hm, oka⟩ := okT_inn okx a (by simp [innS])
      obtain ⟨m', hm', okb⟩ := okT_inn okx b (by simp [innS])
      obtain rfl : m' = m := by omega
      have hz : acc.length + 1 + nod a + nod b ≤ 1000 := by
        have : (flatT (.iff t a b)).length = 1 + nod a + nod b := by simp [flatT, nod]; omega
        omega
      unfold tD at *
      walk_at "st"
      refine ih m' hm a _ _ _ oka (by omega) fun a1 S1 e2 h2 g2 => ?_
      walk_at "st"
      refine b_addl (e2.get (by simp) g1) g2 (by rw [sizeLine_eq, List.length_append, List.length_singleton]; have : (flat a).length = nod a := rfl; omega) ?_
      walk_at "st"
      refine ih m' hm b _ _ _ okb (by omega) fun a3 S3 e3 h3 g3 => ?_
      walk_at "st"
      refine b_addl (e3.get (by simp) g_last) g3 (by rw [sizeLine_eq]; simp only [List.length_append, List.length_singleton]; have : (flat a).length = nod a := rfl; have : (flat b).length = nod b := rfl; omega) ?_
      walk_at "st"
      exact qq _ _ _ ((e1.trans e2).app.trans e3).app (by have := e0.le; have := e2.le; have := e3.le; simp at *; omega) (by rw [g_last]; simp [flatT, tD])
end
theorem lf_step {n : Nat} (ih : ∀ m, n = m + 1 → LfS k m) : LfS (k + 1) n := by
  intro b S Q E ok hl q
  refine c_law_flat ?_
  unfold b_law_flat
  walk_at "mp"
  unfold bD
  walk_at "mp"
  refine lf_loop ih b [] S.length _ none ok (by simpa using hl) (Nat.le_refl _) Ch.refl.app g_last fun S1 f1 s2 e1 h1 g1 => ?_
  walk_at "mp"
  exact q f1 S1 e1 h1 (by simpa using g1)
theorem lf_ok : ∀ (n : Nat) {k : Nat}, n + 1 ≤ k → LfS k n
  | 0, k, hk => by
    obtain ⟨k, rfl⟩ := up (n := 1) (by omega : 1 ≤ k)
    exact lf_step fun m hm => by cases hm
  | n + 1, k, hk => by
    obtain ⟨k, rfl⟩ := up (n := 1) (by omega : 1 ≤ k)
    refine lf_step fun m hm => ?_
    cases hm
    exact lf_ok n (by omega)

/-! ### entries -/
mutual
def EntT (lo : Nat) (S : Sto) : T → Nat → D → Prop
  | .mark y, _, d => ∃ i, d = .tup [.int (-1), tD (.mark y), .ref i] ∧ lo ≤ i ∧ S[i]? = some (.lst [])
  | .leaf w r e, p, d => ∃ i, d = .tup [.int (p : Nat), tD (.leaf w r e), .ref i] ∧ lo ≤ i ∧ S[i]? = some (.lst [])
  | .whl t b, p, d => ∃ i a es, d = .tup [.int (p : Nat), tD (.whl t b), .ref i] ∧ lo ≤ i ∧ S[i]? = some (.lst [.ref a]) ∧ lo ≤ a ∧ S[a]? = some (.lst es) ∧ Ents lo S b (p + 1) es
  | .loop b, p, d => ∃ i a es, d = .tup [.int (p : Nat), tD (.loop b), .ref i] ∧ lo ≤ i ∧ S[i]? = some (.lst [.ref a]) ∧ lo ≤ a ∧ S[a]? = some (.lst es) ∧ Ents lo S b (p + 1) es
  | .iff t a b, p, d => ∃ i u v es ys, d = .tup [.int (p : Nat), tD (.iff t a b), .ref i] ∧ lo ≤ i ∧ S[i]? = some (.lst [.ref u, .ref v]) ∧ lo ≤ u ∧ S[u]? = some (.lst es) ∧ Ents lo S a (p + 1) es ∧ lo ≤ v ∧ S[v]? = some (.lst ys) ∧ Ents lo S b (p + 1 + cnt a) ys
def Ents (lo : Nat) (S : Sto) : Ts → Nat → List D → Prop
  | .nil, _, es => es = []
  | .cons x r, p, es => ∃ d es', es = d :: es' ∧ EntT lo S x p d ∧ Ents lo S r (p + cntT x) es'
end
def Kp (lo : Nat) (S S' : Sto) : Prop := ∀ i l, lo ≤ i → S[i]? = some (.lst l) → S'[i]? = some (.lst l)
theorem Kp.trans {lo : Nat} {S S1 S2 : Sto} (a : Kp lo S S1) (b : Kp lo S1 S2) : Kp lo S S2 := fun i l h g => b i l h (a i l h g)
theorem Kp.of {lo : Nat} {X : List Nat} {S S' : Sto} (e : Ch X S S') (h : ∀ x ∈ X, lo ≤ x → ∃ fz kvs, S[x]? = some (.dk fz kvs)) : Kp lo S S' := fun i l hi g => by
  refine e.get (fun hx => ?_) g
  obtain ⟨fz, kvs, h2⟩ := h i hx hi
  rw [g] at h2
  cases h2
mutual
theorem EntT.keep {lo lo' : Nat} {S S' : Sto} (hl : lo' ≤ lo) (e : Kp lo S S') : ∀ {x : T} {p : Nat} {d : D}, EntT lo S x p d → EntT lo' S' x p d
  | .mark y, p, d, h => by
    obtain ⟨i, h1, h2, h3⟩ := h
    exact ⟨i, h1, Nat.le_trans hl h2, e _ _ h2 h3⟩
  | .leaf w r u, p, d, h => by
    obtain ⟨i, h1, h2, h3⟩ := h
    exact ⟨i, h1, Nat.le_trans hl h2, e _ _ h2 h3⟩
  | .whl t b, p, d, h => by
    obtain ⟨i, a, es, h1, h2, h3, h4, h5, h6⟩ := h
    exact ⟨i, a, es, h1, Nat.le_trans hl h2, e _ _ h2 h3, Nat.le_trans hl h4, e _ _ h4 h5, Ents.keep hl e h6⟩
  | .loop b, p, d, h => by
    obtain ⟨i, a, es, h1, h2, h3, h4, h5, h6⟩ := h
    exact ⟨i, a, es, h1, Nat.le_trans hl h2, e _ _ h2 h3, Nat.le_trans hl h4, e _ _ h4 h5, Ents.keep hl e h6⟩
  | .iff t a b, p, d, h => by
    obtain ⟨i, u, v, es, ys, h1, h2, h3, h4, h5, h6, h7, h8, h9⟩ := h
    exact ⟨i, u, v, es, ys, h1, Nat.le_trans hl h2, e _ _ h2 h3, Nat.le_trans hl h4, e _ _ h4 h5, Ents.keep hl e h6, Nat.le_trans hl h7, e _ _ h7 h8, Ents.keep hl e h9⟩
theorem Ents.keep {lo lo' : Nat} {S S' : Sto} (hl : lo' ≤ lo) (e : Kp lo S S') : ∀ {ts : Ts} {p : Nat} {es : List D}, Ents lo S ts p es → Ents lo' S' ts p es
  | .nil, p, es, h => h
  | .cons x r, p, es, h => by
    obtain ⟨d, es', h1, h2, h3⟩ := h
    exact ⟨d, es', h1, EntT.keep hl e h2, Ents.keep hl e h3⟩
end
theorem Kp.ch {lo f : Nat} {S S' : Sto} (e : Ch [f] S S') (h : f < lo) : Kp lo S S' := Kp.of e fun x hx hl => by
  rw [List.mem_singleton] at hx
  omega
theorem Kp.c0 {lo : Nat} {S S' : Sto} (e : Ch [] S S') : Kp lo S S' := Kp.of e fun x hx => by cases hx
/-- a place -/
def plc (x : T) (p : Nat) : Int := match x with
  | .mark _ => -1
  | _ => p
def EnlS (k n : Nat) : Prop := ∀ (b : Ts) (p : Nat) (i : Int) (S : Sto) (Q : KD) (E : Ex → Sto → Prop), i = p → okS n b → nod b ≤ 1000 →
    (∀ a S' es, Ch [] S S' → S.length ≤ a → S'[a]? = some (.lst es) → Ents S.length S' b p es → Q (.ref a) S') → C k f_law_entries [bD b, .int i] S Q E
def elB : MSs := match b_law_entries with
  | .cons _ (.cons _ (.cons (.for_ _ _ b) _)) => b
  | _ => .nil
section
variable {n f : Nat} {B F : D} {rt : KD} {nx : MP.Env → Sto → Prop} {ex : Ex → MP.Env → Sto → Prop}
theorem el_loop (hk : n + 2 ≤ k) (ih : ∀ m, n = m + 1 → EnlS k m) : ∀ (ts : Ts) (acc : List D) (p : Nat) (i : Int) (S : Sto) (s4 s5 s6 : Option D), i = p → okS n ts → acc.length + nod ts ≤ 1000 → S[f]? = some (.lst acc) →
    (∀ S' es s3 s4 s5 s6, Ch [f] S S' → S'[f]? = some (.lst (acc ++ es)) → Ents (f + 1) S' ts p es → nx [some B, some F, some (.ref f), s3, s4, s5, s6] S') → wpFor [] (forB (C k) (.nm 4) elB rt nx ex) nx (tsD ts) [some B, some F, some (.ref f), some (.int i), s4, s5, s6] S
  | .nil, acc, p, i, S, s4, s5, s6, hi, ok, hl, g, q => for_n gd_nil (q S [] _ _ _ _ Ch.refl (by simpa using g) rfl)
  | .cons x r, acc, p, i, S, s4, s5, s6, hi, ok, hl, g, q => by
    have okx : okT n x := by cases n <;> exact ok.1
    have okr : okS n r := by cases n <;> exact ok.2
    have h1 := flatT_pos x
    rw [nod_cons] at hl
    have sz : acc.length < sizeLine := by rw [sizeLine_eq]; omega
    have hf : f < S.length := g_lt g
    have rest : ∀ (S1 : Sto) (d : D) (i' : Int) (s4 s5 s6 : Option D), i' = ((p + cntT x : Nat) : Int) → Ch [f] S S1 → S1[f]? = some (.lst (acc ++ [d])) → EntT (f + 1) S1 x p d → wpFor [] (forB (C k) (.nm 4) elB rt nx ex) nx (tsD r) [some B, some F, some (.ref f), some (.int i'), s4, s5, s6] S1 := fun S1 d i' s4 s5 s6 hi' e1 g1 en => by
      refine el_loop hk ih r (acc ++ [d]) (p + cntT x) i' S1 s4 s5 s6 hi' okr (by rw [List.length_append, List.length_singleton]; omega) g1 fun S2 es s3 s4 s5 s6 e2 g2 en2 => ?_
      exact q S2 (d :: es) s3 s4 s5 s6 (e1.trans e2) (by rw [g2]; simp) ⟨d, es, rfl, en.keep (Nat.le_refl _) (Kp.ch e2 (by omega)), en2⟩
    unfold tsD
    refine for_c gd_nil ?_
    conv => arg 2; unfold elB b_law_entries
    dsimp only
    cases x with
    | mark y =>
      unfold tD
      walk_at "st"
      refine ls_1 (x := .mark y) (n := n) hk okx fun S1 e1 => ?_
      walk_at "st"
      exact rest S1 _ _ _ _ _ (by simp [cntT, hi]) ((Ch.refl.app.set (by simp)).trans (ch_up e1)) (e1.get (by simp) (g_set (g_app g))) ⟨_, rfl, by omega, e1.get (by simp) (g_setn (by omega) g_last)⟩
    | leaf w e u =>
      have h' : LeafOk w e u := by cases n <;> exact okx
      obtain ⟨n1, n2, n3, n4, _⟩ := h'
      have a0 : atI (D.str w :: e) 0 = some (D.str w) := at_head
      unfold tD
      walk_at "st"
      refine ls_1 (x := .leaf w e u) (n := n) hk okx fun S1 e1 => ?_
      walk_at "st"
      exact rest S1 _ _ _ _ _ (by simp [cntT, hi]) ((Ch.refl.app.set (by simp)).trans (ch_up e1)) (e1.get (by simp) (g_set (g_app g))) ⟨_, by rw [hi]; rfl, by omega, e1.get (by simp) (g_setn (by omega) g_last)⟩
    | whl t b =>
      obtain ⟨m, hm, okb⟩ := okT_inn okx b (by simp [innS])
      have hlb := inn_le (x := .whl t b) (b := b) (by simp [innS])
      unfold tD
      walk_at "st"
      refine ih m hm b (p + 1) _ _ _ _ (by simp [hi]) okb (by omega) fun a S1 es e1 ha ga en => ?_
      have gf : S1[f]? = some (.lst acc) := e1.get (by simp) (g_app g)
      walk_at "st"
      have hS1 : f < S1.length := g_lt gf
      have hfa : f ≠ a := by simp at ha; omega
      have hla := g_lt ga
      refine ls_1 (x := .whl t b) (n := n) hk okx fun S2 e2 => ?_
      walk_at "st"
      have ch1 : Ch [f] S S1 := ch_up ((Ch.refl.app).trans e1)
      have fr : Kp S1.length S1 S2 := fun i l h g0 => absurd (g_lt g0) (by omega)
      refine rest S2 _ _ _ _ _ (by simp [cntT, hi]) ((ch1.app.set (by simp)).trans (ch_up e2)) (e2.get (by simp) (g_set (g_app gf))) ⟨_, a, es, by rw [hi]; rfl, by omega, e2.get (by simp) (g_setn (by omega) g_last), by simp at ha; omega, e2.get (by simp) (g_setn hfa (g_app ga)), ?_⟩
      refine en.keep (by simp; omega) ?_
      refine Kp.trans (Kp.c0 (Ch.refl.app (l := [.lst [.ref a]]))) (Kp.trans (Kp.ch (f := f) (Ch.refl.set (by simp)) (by simp; omega)) (Kp.c0 e2))
    | loop b =>
      obtain ⟨m, hm, okb⟩ := okT_inn okx b (by simp [innS])
      have hlb := inn_le (x := .loop b) (b := b) (by simp [innS])
      unfold tD
      walk_at "st"
      refine ih m hm b (p + 1) _ _ _ _ (by simp [hi]) okb (by omega) fun a S1 es e1 ha ga en => ?_
      have gf : S1[f]? = some (.lst acc) := e1.get (by simp) (g_app g)
      walk_at "st"
      have hS1 : f < S1.length := g_lt gf
      have hfa : f ≠ a := by simp at ha; omega
      have hla := g_lt ga
      refine ls_1 (x := .loop b) (n := n) hk okx fun S2 e2 => ?_
      walk_at "st"
      have ch1 : Ch [f] S S1 := ch_up ((Ch.refl.app).trans e1)
      refine rest S2 _ _ _ _ _ (by simp [cntT, hi]) ((ch1.app.set (by simp)).trans (ch_up e2)) (e2.get (by simp) (g_set (g_app gf))) ⟨_, a, es, by rw [hi]; rfl, by omega, e2.get (by simp) (g_setn (by omega) g_last), by simp at ha; omega, e2.get (by simp) (g_setn hfa (g_app ga)), ?_⟩
      refine en.keep (by simp; omega) ?_
      refine Kp.trans (Kp.c0 (Ch.refl.app (l := [.lst [.ref a]]))) (Kp.trans (Kp.ch (f := f) (Ch.refl.set (by simp)) (by simp; omega)) (Kp.c0 e2))
    | iff t a b =>
      obtain ⟨m, hm, oka⟩ := okT_inn okx a (by simp [innS])
      obtain ⟨m', hm', okb⟩ := okT_inn okx b (by simp [innS])
      obtain rfl : m' = m := by omega
      have hla := inn_le (x := .iff t a b) (b := a) (by simp [innS])
      have hlb := inn_le (x := .iff t a b) (b := b) (by simp [innS])
      unfold tD
      walk_at "st"
      refine ls_ok m' (by omega) a _ _ _ oka fun S0 e0 => ?_
      walk_at "st"
      refine ih m' hm a (p + 1) _ _ _ _ (by simp [hi]) oka (by omega) fun u S1 es e1 hu gu en1 => ?_
      walk_at "st"
      refine ih m' hm b (p + 1 + cnt a) _ _ _ _ (by simp [hi]) okb (by omega) fun v S2 ys e2 hv gv en2 => ?_
      have l0 := e0.le
      have l1 := e1.le
      have l2 := e2.le
      simp at l0
      have gf : S2[f]? = some (.lst acc) := e2.get (by simp) (e1.get (by simp) (e0.get (by simp) (g_app g)))
      walk_at "st"
      have hS2 : f < S2.length := g_lt gf
      refine ls_1 (x := .iff t a b) (n := n) hk okx fun S3 e3 => ?_
      walk_at "st"
      have ch1 : Ch [f] S S2 := ch_up (((Ch.refl.app).trans e0).trans (e1.trans e2))
      have kp : Kp (f + 1) S2 S3 := Kp.trans (Kp.c0 (Ch.refl.app (l := [.lst [.ref u, .ref v]]))) (Kp.trans (Kp.ch (f := f) (Ch.refl.set (by simp)) (by omega)) (Kp.c0 e3))
      refine rest S3 _ _ _ _ _ (by simp [cntT, hi]) ((ch1.app.set (by simp)).trans (ch_up e3)) (e3.get (by simp) (g_set (g_app gf))) ⟨_, u, v, es, ys, by rw [hi]; rfl, by omega, e3.get (by simp) (g_setn (by omega) g_last), by omega, kp _ _ (by omega) (e2.get (by simp) gu), ?_, by omega, kp _ _ (by omega) gv, ?_⟩
      · exact (en1.keep (lo' := f + 1) (by omega) (Kp.c0 e2)).keep (Nat.le_refl _) kp
      · exact (en2.keep (lo' := f + 1) (by omega) fun i l _ h => h).keep (Nat.le_refl _) kp
end
theorem el_step {n : Nat} (hk : n + 2 ≤ k) (ih : ∀ m, n = m + 1 → EnlS k m) : EnlS (k + 1) n := by
  intro b p i S Q E hi ok hl q
  refine c_law_entries ?_
  unfold b_law_entries
  walk_at "mp"
  unfold bD
  walk_at "mp"
  refine el_loop hk ih b [] p _ _ none none none hi ok (by simpa using hl) g_last fun S1 es s3 s4 s5 s6 e1 g1 en => ?_
  walk_at "mp"
  exact q _ S1 es (ch_drop Ch.refl.app e1 (Nat.le_refl _)) (Nat.le_refl _) (by simpa using g1) (en.keep (by omega) fun i l _ h => h)
theorem el_ok : ∀ (n : Nat) {k : Nat}, n + 3 ≤ k → EnlS k n
  | 0, k, hk => by
    obtain ⟨k, rfl⟩ := up (n := 1) (by omega : 1 ≤ k)
    exact el_step (by omega) fun m hm => by cases hm
  | n + 1, k, hk => by
    obtain ⟨k, rfl⟩ := up (n := 1) (by omega : 1 ≤ k)
    refine el_step (by omega) fun m hm => ?_
    cases hm
    exact el_ok n (by omega)
end
end K17
/-! K17G: law k17, what is told of entries. -/
namespace K17
open PySem PySem.Spec PyProof.Rows L2 MP
local macro_rules | `(tactic| walk_at "look") => `(tactic| first | assumption | exact g_last | (with_reducible apply g_set; walk_at "look") | ((with_reducible refine g_setn ?h1 ?h2); (case h1 => first | assumption | omega | (apply Ne.symm; assumption)); (case h2 => walk_at "look")) | ((with_reducible refine g_app ?_); walk_at "look") | ((with_reducible refine' Fr.get ?h1 ?h2 ?h3); (case h1 => assumption); (case h2 => first | assumption | omega | (apply Ne.symm; assumption)); (case h3 => walk_at "look")) | ((with_reducible refine' Ch.get ?h1 ?h2 ?h3); (case h1 => assumption); (case h2 => first | assumption | (simp; done) | (simp only [List.mem_cons, List.not_mem_nil, or_false, not_or]; omega)); (case h3 => walk_at "look")))
local macro_rules | `(tactic| walk_at "kn") => `(tactic| first | assumption | omega | (simp; done) | decide)
local macro_rules | `(tactic| walk_at "sz") => `(tactic| first | assumption | (rw [sizeLine_eq]; first | omega | (simp; done) | (simp; omega)))
local macro_rules | `(tactic| walk_at "at") => `(tactic| first | exact rfl | assumption)
local macro_rules | `(tactic| walk_at "mp1") => `(tactic| first
  | with_reducible refine s_cons ?_ | with_reducible refine s_nil ?_ | with_reducible refine s_nm ?_ | with_reducible refine s_ix ?_ | with_reducible refine s_asg ?_ | with_reducible refine s_ex ?_ | with_reducible refine s_iff ?_ | with_reducible refine s_ret ?_ | with_reducible refine s_for ?_
  | ((with_reducible refine' e_var ?h1 ?_); (case h1 => exact rfl)) | with_reducible refine e_int ?_ | with_reducible refine e_bin ?_ | with_reducible refine e_cmp ?_ | with_reducible refine e_ix ?_ | with_reducible refine e_call ?_ | with_reducible refine e_blt ?_ | with_reducible refine e_bl ?_ | with_reducible refine e_and ?_ | with_reducible refine e_or ?_ | with_reducible refine e_not ?_ | with_reducible refine e_ite ?_
  | with_reducible refine es_cons ?_ | with_reducible refine es_nil ?_ | with_reducible refine e_tup ?_ | with_reducible refine e_lst ?_ | with_reducible refine e_meth ?_ | with_reducible refine e_comp ?_ | with_reducible refine e_sl ?_ | with_reducible refine e_neg ?_ | with_reducible refine e_isi ?_ | with_reducible refine e_lrg ?_ | with_reducible refine e_non ?_ | with_reducible refine e_str ?_ | with_reducible refine e_fnv ?_ | with_reducible refine e_orl ?_ | with_reducible refine e_dnew ?_ | with_reducible refine e_dget ?_ | with_reducible refine e_dget2 ?_
  | with_reducible refine o_no ?_ | with_reducible refine o_so ?_ | with_reducible refine i_rng ?_ | with_reducible refine i_seq ?_ | with_reducible refine i_enum ?_ | with_reducible refine if_nil ?_ | with_reducible refine if_cons ?_ | with_reducible refine rg_1 ?_ | with_reducible refine rg_2 ?_
  | with_reducible refine b_add ?_ | with_reducible refine b_sub ?_ | ((with_reducible refine' b_mul ?h1 ?_); (case h1 => first | assumption | mul_fits)) | ((with_reducible refine' b_fdiv ?h1 ?h2 ?_); (case h1 => walk_at "kn"); (case h2 => first | assumption | decide)) | ((with_reducible refine' b_mod ?h1 ?_); (case h1 => walk_at "kn")) | ((with_reducible refine' b_pow ?h1 ?_); (case h1 => first | assumption | exact ⟨by decide, by decide, by decide⟩)) | ((with_reducible refine' b_shr ?h1 ?_); (case h1 => walk_at "kn")) | ((with_reducible refine' b_shl ?h1 ?_); (case h1 => assumption)) | with_reducible refine b_and ?_ | with_reducible refine b_or ?_ | with_reducible refine b_xor ?_
  | with_reducible refine c_lt ?_ | with_reducible refine c_le ?_ | with_reducible refine c_gt ?_ | with_reducible refine c_ge ?_ | with_reducible refine c_eqi ?_ | with_reducible refine c_nei ?_ | with_reducible refine c_eqb ?_ | with_reducible refine c_neb ?_ | with_reducible refine c_eqs ?_ | with_reducible refine c_nes ?_
  | with_reducible refine t_bl ?_ | with_reducible refine t_int ?_ | with_reducible refine t_tup ?_ | with_reducible refine t_non ?_
  | ((with_reducible refine' x_ref ?h1 ?h2 ?_); (case h1 => walk_at "look"); (case h2 => walk_at "at")) | ((with_reducible refine' x_tup ?h1 ?_); (case h1 => walk_at "at")) | ((with_reducible refine' x_klst ?h1 ?_); (case h1 => walk_at "at"))
  | ((with_reducible refine' set_ref ?h1 ?h2 ?_); (case h1 => walk_at "look"); (case h2 => walk_at "at"))
  | ((with_reducible refine' f_lenr ?h1 ?_); (case h1 => walk_at "look")) | with_reducible refine f_lent ?_ | with_reducible refine f_lenk ?_ | with_reducible refine f_int ?_ | ((with_reducible refine' f_listr ?h1 ?_); (case h1 => walk_at "look")) | with_reducible refine f_listt ?_ | with_reducible refine f_listk ?_ | ((with_reducible refine' f_tupr ?h1 ?_); (case h1 => walk_at "look")) | with_reducible refine f_tupt ?_ | with_reducible refine f_max ?_ | with_reducible refine f_min ?_
  | with_reducible refine sl_klst ?_ | ((with_reducible refine' sl_ref ?h1 ?_); (case h1 => walk_at "look")) | with_reducible refine sl_tup ?_
  | ((with_reducible refine' m_app ?h1 ?h2 ?_); (case h1 => walk_at "look"); (case h2 => walk_at "sz")) | ((with_reducible refine' m_ext ?h1 ?h2 ?h3 ?_); (case h1 => walk_at "look"); (case h2 => walk_at "look"); (case h3 => walk_at "sz")) | ((with_reducible refine' m_extT ?h1 ?h3 ?_); (case h1 => walk_at "look"); (case h3 => walk_at "sz"))
  | with_reducible refine k_t ?_ | with_reducible refine k_f ?_ | with_reducible refine k_nt ?_ | with_reducible refine k_nf ?_
  | ((with_reducible refine' d_t ?h1 ?_); (case h1 => first | assumption | omega)) | ((with_reducible refine' d_f ?h1 ?_); (case h1 => first | assumption | omega)) | ((with_reducible refine' d_nt ?h1 ?_); (case h1 => first | assumption | omega)) | ((with_reducible refine' d_nf ?h1 ?_); (case h1 => first | assumption | omega))
  | ((with_reducible refine' And.intro (r_lst ?h1 ?h2) ?_); (case h1 => decide); (case h2 => walk_at "look")) | (with_reducible refine And.intro r_int ?_)
  | ((with_reducible refine And.intro ?h1 ?_); (case h1 => (with_reducible show List.length _ ≤ sizeLine); walk_at "sz"))
  | dsimp only
  | dsimp only [isTy_int, isTy_bl, isTy_str, isTy_non, isTy_tup])
local macro_rules | `(tactic| walk_at "mp") => `(tactic| repeat walk_at "mp1")

local macro_rules | `(tactic| walk_at "st") => `(tactic| repeat first | walk_at "mp1" | ((with_reducible refine' d_t ?h1 ?_); (case h1 => decide +kernel)) | ((with_reducible refine' d_f ?h1 ?_); (case h1 => decide +kernel)) | ((with_reducible refine' d_nt ?h1 ?_); (case h1 => decide +kernel)) | ((with_reducible refine' d_nf ?h1 ?_); (case h1 => decide +kernel)) | with_reducible refine s_cnt ?_)
theorem for_c3 {c : CallT} {ss : MSs} {rt : KD} {nx : MP.Env → Sto → Prop} {ex : Ex → MP.Env → Sto → Prop} {gs : List (Nat × List D)} {i j k : Nat} {x y z : D} {r : List D} {σ : MP.Env} {S : Sto} (hg : Gd gs S)
    (h : wpSs c ss ⟨wpFor gs (forB c (.tp [.nm i, .nm j, .nm k]) ss rt nx ex) nx r, rt, nx, wpFor gs (forB c (.tp [.nm i, .nm j, .nm k]) ss rt nx ex) nx r, ex⟩ (((σ.set i (some x)).set j (some y)).set k (some z)) S) :
    wpFor gs (forB c (.tp [.nm i, .nm j, .nm k]) ss rt nx ex) nx (.tup [x, y, z] :: r) σ S := ⟨hg, h⟩
section
variable {k : Nat} {S : Sto} {Q : KD} {E : Ex → Sto → Prop}
def tbB : MSs := match b_law_told_body with
  | .cons _ (.cons (.for_ _ _ b) _) => b
  | _ => .nil
def TbS (k n : Nat) : Prop := ∀ (ts : Ts) (p lo a : Nat) (es : List D) (S : Sto) (Q : KD) (E : Ex → Sto → Prop), okS n ts → nod ts ≤ 1000 → S[a]? = some (.lst es) → Ents lo S ts p es → RetV S (.tup (numF ts p)) Q → C k f_law_told_body [.ref a] S Q E
section
variable {n f a lo : Nat} {B : D} {rt : KD} {nx : MP.Env → Sto → Prop} {ex : Ex → MP.Env → Sto → Prop} {S0 : Sto} {L : List D}
theorem tb_loop (ih : ∀ m, n = m + 1 → TbS k m) (ha : S0[a]? = some (.lst L)) (hf : S0.length ≤ f) : ∀ (ts : Ts) (p : Nat) (es acc : List D) (S : Sto) (s2 s3 s4 : Option D), okS n ts → Ents lo S0 ts p es → acc.length + nod ts ≤ 1000 → Ch [] S0 S → S[f]? = some (.lst acc) →
    (∀ S' s2 s3 s4, Ch [] S0 S' → S'[f]? = some (.lst (acc ++ numF ts p)) → nx [some B, some (.ref f), s2, s3, s4] S') → wpFor [(a, L)] (forB (C k) (.tp [.nm 2, .nm 3, .nm 4]) tbB rt nx ex) nx es [some B, some (.ref f), s2, s3, s4] S
  | .nil, p, es, acc, S, s2, s3, s4, ok, en, hl, e0, g, q => by
    cases en
    exact for_n (gd_one (e0.get (by simp) ha)) (q S _ _ _ e0 (by simpa [numF] using g))
  | .cons x r, p, es, acc, S, s2, s3, s4, ok, en, hl, e0, g, q => by
    have okx : okT n x := by cases n <;> exact ok.1
    have okr : okS n r := by cases n <;> exact ok.2
    obtain ⟨d, es', rfl, enx, enr⟩ := en
    have h1 := flatT_pos x
    rw [nod_cons] at hl
    have sz : acc.length < sizeLine := by rw [sizeLine_eq]; omega
    have hfl : f < S.length := g_lt g
    have e1 : ∀ o, Ch [] S0 (S.set f o) := fun o => e0.setn hf
    cases x with
    | mark y =>
      obtain ⟨i, rfl, hi, gi⟩ := enx
      refine for_c3 (gd_one (e0.get (by simp) ha)) ?_
      conv => arg 2; unfold tbB b_law_told_body
      dsimp only
      unfold tD
      walk_at "st"
      exact tb_loop ih ha hf r p es' acc S _ _ _ okr (by simpa [cntT] using enr) (by omega) e0 g q
    | leaf w e u =>
      have h' : LeafOk w e u := by cases n <;> exact okx
      obtain ⟨n1, n2, n3, n4, _⟩ := h'
      have a0 : atI (D.str w :: e) 0 = some (D.str w) := at_head
      obtain ⟨i, rfl, hi, gi⟩ := enx
      refine for_c3 (gd_one (e0.get (by simp) ha)) ?_
      conv => arg 2; unfold tbB b_law_told_body
      dsimp only
      unfold tD
      walk_at "st"
      refine tb_loop ih ha hf r (p + 1) es' _ _ _ _ _ okr (by simpa [cntT] using enr) (by rw [List.length_append, List.length_singleton]; omega) (e1 _) (g_set g) fun S2 s2 s3 s4 e2 g2 => q S2 s2 s3 s4 e2 ?_
      rw [g2]
      simp [numF]
    | whl t b =>
      obtain ⟨m, hm, okb⟩ := okT_inn okx b (by simp [innS])
      have hlb := inn_le (x := .whl t b) (b := b) (by simp [innS])
      obtain ⟨i, u, ys, rfl, hi, gi, hu, gu, enb⟩ := enx
      refine for_c3 (gd_one (e0.get (by simp) ha)) ?_
      conv => arg 2; unfold tbB b_law_told_body
      dsimp only
      unfold tD
      have gi' : S[i]? = some (.lst [.ref u]) := e0.get (by simp) gi
      walk_at "st"
      refine ih m hm b (p + 1) lo u ys S _ _ okb (by omega) (e0.get (by simp) gu) (enb.keep (Nat.le_refl _) (Kp.c0 e0)) fun S1 e1 => ?_
      have g1 := e1.get (by simp) g
      walk_at "st"
      refine tb_loop ih ha hf r (p + cntT (.whl t b)) es' _ _ _ _ _ okr enr (by rw [List.length_append, List.length_singleton]; omega) ((e0.trans e1).setn hf) (g_set g1) fun S2 s2 s3 s4 e2 g2 => q S2 s2 s3 s4 e2 ?_
      rw [g2]
      simp [numF, cntT]
    | loop b =>
      obtain ⟨m, hm, okb⟩ := okT_inn okx b (by simp [innS])
      have hlb := inn_le (x := .loop b) (b := b) (by simp [innS])
      obtain ⟨i, u, ys, rfl, hi, gi, hu, gu, enb⟩ := enx
      refine for_c3 (gd_one (e0.get (by simp) ha)) ?_
      conv => arg 2; unfold tbB b_law_told_body
      dsimp only
      unfold tD
      have gi' : S[i]? = some (.lst [.ref u]) := e0.get (by simp) gi
      walk_at "st"
      refine ih m hm b (p + 1) lo u ys S _ _ okb (by omega) (e0.get (by simp) gu) (enb.keep (Nat.le_refl _) (Kp.c0 e0)) fun S1 e1 => ?_
      have g1 := e1.get (by simp) g
      walk_at "st"
      refine tb_loop ih ha hf r (p + cntT (.loop b)) es' _ _ _ _ _ okr enr (by rw [List.length_append, List.length_singleton]; omega) ((e0.trans e1).setn hf) (g_set g1) fun S2 s2 s3 s4 e2 g2 => q S2 s2 s3 s4 e2 ?_
      rw [g2]
      simp [numF, cntT]
    | iff t b c =>
      obtain ⟨m, hm, okb⟩ := okT_inn okx b (by simp [innS])
      obtain ⟨m', hm', okc⟩ := okT_inn okx c (by simp [innS])
      obtain rfl : m' = m := by omega
      have hlb := inn_le (x := .iff t b c) (b := b) (by simp [innS])
      have hlc := inn_le (x := .iff t b c) (b := c) (by simp [innS])
      obtain ⟨i, u, v, ys, zs, rfl, hi, gi, hu, gu, enb, hv, gv, enc⟩ := enx
      refine for_c3 (gd_one (e0.get (by simp) ha)) ?_
      conv => arg 2; unfold tbB b_law_told_body
      dsimp only
      unfold tD
      have gi' : S[i]? = some (.lst [.ref u, .ref v]) := e0.get (by simp) gi
      walk_at "st"
      refine ih m' hm b (p + 1) lo u ys S _ _ okb (by omega) (e0.get (by simp) gu) (enb.keep (Nat.le_refl _) (Kp.c0 e0)) fun S1 e1 => ?_
      have gi2 := e1.get (by simp) gi'
      walk_at "st"
      have e01 := e0.trans e1
      refine ih m' hm c (p + 1 + cnt b) lo v zs S1 _ _ okc (by omega) (e01.get (by simp) gv) (enc.keep (Nat.le_refl _) (Kp.c0 e01)) fun S2 e2 => ?_
      have g2 := (e1.trans e2).get (by simp) g
      walk_at "st"
      refine tb_loop ih ha hf r (p + cntT (.iff t b c)) es' _ _ _ _ _ okr enr (by rw [List.length_append, List.length_singleton]; omega) ((e01.trans e2).setn hf) (g_set g2) fun S2 s2 s3 s4 e2 g2 => q S2 s2 s3 s4 e2 ?_
      rw [g2]
      simp [numF, cntT]
end
theorem tb_step {n : Nat} (ih : ∀ m, n = m + 1 → TbS k m) : TbS (k + 1) n := by
  intro ts p lo a es S Q E ok hl ga en q
  refine c_law_told_body ?_
  unfold b_law_told_body
  walk_at "mp"
  rw [l_of (g_app ga)]
  refine tb_loop ih ga (Nat.le_refl _) ts p es [] _ none none none ok en (by simpa using hl) Ch.refl.app g_last fun S1 s2 s3 s4 e1 g1 => ?_
  walk_at "mp"
  exact q S1 e1
theorem tb_ok : ∀ (n : Nat) {k : Nat}, n + 1 ≤ k → TbS k n
  | 0, k, hk => by
    obtain ⟨k, rfl⟩ := up (n := 1) (by omega : 1 ≤ k)
    exact tb_step fun m hm => by cases hm
  | n + 1, k, hk => by
    obtain ⟨k, rfl⟩ := up (n := 1) (by omega : 1 ≤ k)
    refine tb_step fun m hm => ?_
    cases hm
    exact tb_ok n (by omega)

/-! ### here -/
def Wf (es : List D) : Prop := ∀ d ∈ es, ∃ (i : Int) (r : List D), d = .tup (.int i :: r)
def plD : D → Int
  | .tup (.int i :: _) => i
  | _ => -1
def hereF : List D → Int → Int
  | [], e => e
  | d :: r, e => if 0 ≤ plD d then plD d else hereF r e
theorem hereF_app : ∀ (l1 l2 : List D) (e : Int), hereF (l1 ++ l2) e = hereF l1 (hereF l2 e)
  | [], l2, e => rfl
  | d :: r, l2, e => by
    show (if 0 ≤ plD d then plD d else hereF (r ++ l2) e) = (if 0 ≤ plD d then plD d else hereF r (hereF l2 e))
    rw [hereF_app r l2 e]
theorem Wf.app {l1 l2 : List D} (h1 : Wf l1) (h2 : Wf l2) : Wf (l1 ++ l2) := fun d hd => by
  rcases List.mem_append.mp hd with h | h
  · exact h1 d h
  · exact h2 d h
theorem Wf.drop {l : List D} {i : Nat} (h : Wf l) : Wf (l.drop i) := fun d hd => h d (List.mem_of_mem_drop hd)
theorem EntT.pl {lo : Nat} {S : Sto} {x : T} {p : Nat} {d : D} (h : EntT lo S x p d) : (∃ (i : Int) (r : List D), d = .tup (.int i :: r)) ∧ plD d = if 0 < cntT x then (p : Int) else -1 := by
  cases x with
  | mark y => obtain ⟨i, rfl, _⟩ := h; exact ⟨⟨_, _, rfl⟩, rfl⟩
  | leaf w r e => obtain ⟨i, rfl, _⟩ := h; exact ⟨⟨_, _, rfl⟩, rfl⟩
  | whl t b => obtain ⟨i, a, es, rfl, _⟩ := h; exact ⟨⟨_, _, rfl⟩, by rw [if_pos (by unfold cntT; omega)]; rfl⟩
  | loop b => obtain ⟨i, a, es, rfl, _⟩ := h; exact ⟨⟨_, _, rfl⟩, by rw [if_pos (by unfold cntT; omega)]; rfl⟩
  | iff t b c => obtain ⟨i, a, v, es, ys, rfl, _⟩ := h; exact ⟨⟨_, _, rfl⟩, by rw [if_pos (by unfold cntT; omega)]; rfl⟩
theorem Ents.wf {lo : Nat} {S : Sto} : ∀ {ts : Ts} {p : Nat} {es : List D}, Ents lo S ts p es → Wf es
  | .nil, p, es, h => by cases h; exact fun d hd => by cases hd
  | .cons x r, p, es, h => by
    obtain ⟨d, es', rfl, h1, h2⟩ := h
    intro y hy
    rcases List.mem_cons.mp hy with rfl | hy
    · exact h1.pl.1
    · exact h2.wf y hy
theorem Ents.len {lo : Nat} {S : Sto} : ∀ {ts : Ts} {p : Nat} {es : List D}, Ents lo S ts p es → es.length ≤ nod ts
  | .nil, p, es, h => by cases h; exact Nat.zero_le _
  | .cons x r, p, es, h => by
    obtain ⟨d, es', rfl, h1, h2⟩ := h
    have := h2.len
    have := flatT_pos x
    rw [nod_cons, List.length_cons]
    omega
theorem Ents.here {lo : Nat} {S : Sto} : ∀ {ts : Ts} {p bh : Nat} {es : List D} {e : Int}, Ents lo S ts p es → e = bh → hereF es e = (nxt ts p bh : Nat)
  | .nil, p, bh, es, e, h, he => by cases h; rw [he]; rfl
  | .cons x r, p, bh, es, e, h, he => by
    obtain ⟨d, es', rfl, h1, h2⟩ := h
    show (if 0 ≤ plD d then plD d else hereF es' e) = _
    rw [h1.pl.2]
    unfold nxt cnt
    by_cases hx : 0 < cntT x
    · rw [if_pos hx, if_pos (Int.natCast_nonneg _), if_pos (by omega)]
    · rw [if_neg hx, if_neg (by decide), h2.here he]
      have : cntT x = 0 := by omega
      unfold nxt
      rw [this]
      simp
theorem here_ok {a : Nat} {L : List D} {e : Int} (hk : 1 ≤ k) (g : S[a]? = some (.lst L)) (wf : Wf L) (q : Q (.int (hereF L e)) S) : C k f_law_here [.ref a, .int e] S Q E := by
  obtain ⟨k, rfl⟩ := up hk
  refine c_law_here ?_
  unfold b_law_here
  walk_at "mp"
  rw [l_of g]
  dsimp only
  have go : ∀ (es : List D) (s2 : Option D), Wf es → hereF es e = hereF L e → wpFor [(a, L)] (forB (C k) (.nm 2) (match b_law_here with
      | .cons (.for_ _ _ b) _ => b
      | _ => .nil) Q (fun σ' S' => wpSs (C k) (match b_law_here with
      | .cons _ b => b
      | _ => .nil) (eG Q E) σ' S') fun x _ S' => E x S') (fun σ' S' => wpSs (C k) (match b_law_here with
      | .cons _ b => b
      | _ => .nil) (eG Q E) σ' S') es [some (.ref a), some (.int e), s2] S := by
    intro es
    induction es with
    | nil =>
      intro s2 _ h
      refine for_n (gd_one g) ?_
      unfold b_law_here eG
      walk_at "mp"
      rw [show hereF L e = e from h.symm] at q
      exact q
    | cons d r ih =>
      intro s2 hw h
      obtain ⟨i, w, rfl⟩ := hw _ List.mem_cons_self
      have h' : (if 0 ≤ i then i else hereF r e) = hereF L e := h
      have a0 : atI (D.int i :: w) 0 = some (D.int i) := atI_nat (j := 0) rfl
      refine for_c (gd_one g) ?_
      conv => arg 2; unfold b_law_here
      dsimp only
      walk_at "mp"
      by_cases hi : 0 ≤ i
      · rw [if_pos hi] at h'
        refine d_t hi ?_
        walk_at "mp"
        rw [h']
        exact q
      · rw [if_neg hi] at h'
        refine d_f hi ?_
        walk_at "mp"
        exact ih _ (fun d hd => hw d (List.mem_cons_of_mem _ hd)) h'
  exact go L none wf rfl
end
end K17
/-! K17H: law k17, what the law notes. -/
namespace K17
open PySem PySem.Spec PyProof.Rows L2 MP
local macro_rules | `(tactic| walk_at "look") => `(tactic| first | assumption | exact g_last | (with_reducible apply g_set; walk_at "look") | ((with_reducible refine g_setn ?h1 ?h2); (case h1 => first | assumption | omega | (apply Ne.symm; assumption)); (case h2 => walk_at "look")) | ((with_reducible refine g_app ?_); walk_at "look") | ((with_reducible refine' Fr.get ?h1 ?h2 ?h3); (case h1 => assumption); (case h2 => first | assumption | omega | (apply Ne.symm; assumption)); (case h3 => walk_at "look")) | ((with_reducible refine' Ch.get ?h1 ?h2 ?h3); (case h1 => assumption); (case h2 => first | assumption | (simp; done) | (simp only [List.mem_cons, List.not_mem_nil, or_false, not_or]; omega)); (case h3 => walk_at "look")))
local macro_rules | `(tactic| walk_at "kn") => `(tactic| first | assumption | omega | (simp; done) | decide)
local macro_rules | `(tactic| walk_at "sz") => `(tactic| first | assumption | (rw [sizeLine_eq]; first | omega | (simp; done) | (simp; omega)))
local macro_rules | `(tactic| walk_at "at") => `(tactic| first | exact rfl | assumption)
local macro_rules | `(tactic| walk_at "mp1") => `(tactic| first
  | with_reducible refine s_cons ?_ | with_reducible refine s_nil ?_ | with_reducible refine s_nm ?_ | with_reducible refine s_ix ?_ | with_reducible refine s_asg ?_ | with_reducible refine s_ex ?_ | with_reducible refine s_iff ?_ | with_reducible refine s_ret ?_ | with_reducible refine s_for ?_
  | ((with_reducible refine' e_var ?h1 ?_); (case h1 => exact rfl)) | with_reducible refine e_int ?_ | with_reducible refine e_bin ?_ | with_reducible refine e_cmp ?_ | with_reducible refine e_ix ?_ | with_reducible refine e_call ?_ | with_reducible refine e_blt ?_ | with_reducible refine e_bl ?_ | with_reducible refine e_and ?_ | with_reducible refine e_or ?_ | with_reducible refine e_not ?_ | with_reducible refine e_ite ?_
  | with_reducible refine es_cons ?_ | with_reducible refine es_nil ?_ | with_reducible refine e_tup ?_ | with_reducible refine e_lst ?_ | with_reducible refine e_meth ?_ | with_reducible refine e_comp ?_ | with_reducible refine e_sl ?_ | with_reducible refine e_neg ?_ | with_reducible refine e_isi ?_ | with_reducible refine e_lrg ?_ | with_reducible refine e_non ?_ | with_reducible refine e_str ?_ | with_reducible refine e_fnv ?_ | with_reducible refine e_orl ?_ | with_reducible refine e_dnew ?_ | with_reducible refine e_dget ?_ | with_reducible refine e_dget2 ?_
  | with_reducible refine o_no ?_ | with_reducible refine o_so ?_ | with_reducible refine i_rng ?_ | with_reducible refine i_seq ?_ | with_reducible refine i_enum ?_ | with_reducible refine if_nil ?_ | with_reducible refine if_cons ?_ | with_reducible refine rg_1 ?_ | with_reducible refine rg_2 ?_
  | with_reducible refine b_add ?_ | with_reducible refine b_sub ?_ | ((with_reducible refine' b_mul ?h1 ?_); (case h1 => first | assumption | mul_fits)) | ((with_reducible refine' b_fdiv ?h1 ?h2 ?_); (case h1 => walk_at "kn"); (case h2 => first | assumption | decide)) | ((with_reducible refine' b_mod ?h1 ?_); (case h1 => walk_at "kn")) | ((with_reducible refine' b_pow ?h1 ?_); (case h1 => first | assumption | exact ⟨by decide, by decide, by decide⟩)) | ((with_reducible refine' b_shr ?h1 ?_); (case h1 => walk_at "kn")) | ((with_reducible refine' b_shl ?h1 ?_); (case h1 => assumption)) | with_reducible refine b_and ?_ | with_reducible refine b_or ?_ | with_reducible refine b_xor ?_
  | with_reducible refine c_lt ?_ | with_reducible refine c_le ?_ | with_reducible refine c_gt ?_ | with_reducible refine c_ge ?_ | with_reducible refine c_eqi ?_ | with_reducible refine c_nei ?_ | with_reducible refine c_eqb ?_ | with_reducible refine c_neb ?_ | with_reducible refine c_eqs ?_ | with_reducible refine c_nes ?_
  | with_reducible refine t_bl ?_ | with_reducible refine t_int ?_ | with_reducible refine t_tup ?_ | with_reducible refine t_non ?_
  | ((with_reducible refine' x_ref ?h1 ?h2 ?_); (case h1 => walk_at "look"); (case h2 => walk_at "at")) | ((with_reducible refine' x_tup ?h1 ?_); (case h1 => walk_at "at")) | ((with_reducible refine' x_klst ?h1 ?_); (case h1 => walk_at "at"))
  | ((with_reducible refine' set_ref ?h1 ?h2 ?_); (case h1 => walk_at "look"); (case h2 => walk_at "at"))
  | ((with_reducible refine' f_lenr ?h1 ?_); (case h1 => walk_at "look")) | with_reducible refine f_lent ?_ | with_reducible refine f_lenk ?_ | with_reducible refine f_int ?_ | ((with_reducible refine' f_listr ?h1 ?_); (case h1 => walk_at "look")) | with_reducible refine f_listt ?_ | with_reducible refine f_listk ?_ | ((with_reducible refine' f_tupr ?h1 ?_); (case h1 => walk_at "look")) | with_reducible refine f_tupt ?_ | with_reducible refine f_max ?_ | with_reducible refine f_min ?_
  | with_reducible refine sl_klst ?_ | ((with_reducible refine' sl_ref ?h1 ?_); (case h1 => walk_at "look")) | with_reducible refine sl_tup ?_
  | ((with_reducible refine' m_app ?h1 ?h2 ?_); (case h1 => walk_at "look"); (case h2 => walk_at "sz")) | ((with_reducible refine' m_ext ?h1 ?h2 ?h3 ?_); (case h1 => walk_at "look"); (case h2 => walk_at "look"); (case h3 => walk_at "sz")) | ((with_reducible refine' m_extT ?h1 ?h3 ?_); (case h1 => walk_at "look"); (case h3 => walk_at "sz"))
  | with_reducible refine k_t ?_ | with_reducible refine k_f ?_ | with_reducible refine k_nt ?_ | with_reducible refine k_nf ?_
  | ((with_reducible refine' d_t ?h1 ?_); (case h1 => first | assumption | omega)) | ((with_reducible refine' d_f ?h1 ?_); (case h1 => first | assumption | omega)) | ((with_reducible refine' d_nt ?h1 ?_); (case h1 => first | assumption | omega)) | ((with_reducible refine' d_nf ?h1 ?_); (case h1 => first | assumption | omega))
  | ((with_reducible refine' And.intro (r_lst ?h1 ?h2) ?_); (case h1 => decide); (case h2 => walk_at "look")) | (with_reducible refine And.intro r_int ?_)
  | ((with_reducible refine And.intro ?h1 ?_); (case h1 => (with_reducible show List.length _ ≤ sizeLine); walk_at "sz"))
  | dsimp only
  | dsimp only [isTy_int, isTy_bl, isTy_str, isTy_non, isTy_tup])
local macro_rules | `(tactic| walk_at "mp") => `(tactic| repeat walk_at "mp1")

local macro_rules | `(tactic| walk_at "st") => `(tactic| repeat first | walk_at "mp1" | ((with_reducible refine' d_t ?h1 ?_); (case h1 => decide +kernel)) | ((with_reducible refine' d_f ?h1 ?_); (case h1 => decide +kernel)) | ((with_reducible refine' d_nt ?h1 ?_); (case h1 => decide +kernel)) | ((with_reducible refine' d_nf ?h1 ?_); (case h1 => decide +kernel)) | with_reducible refine s_cnt ?_)
/-! ### ranges from the middle -/
def rgs (at_ m : Nat) : List D := (List.range' at_ m).map fun i => D.int (i : Nat)
theorem rgD_rgs (m : Nat) : rgD 0 (m : Int) = rgs 0 m := by rw [rgD_map, List.range_eq_range']; rfl
theorem rgs_c {at_ m : Nat} : rgs at_ (m + 1) = .int (at_ : Nat) :: rgs (at_ + 1) m := rfl
theorem drop_c {L : List D} {i : Nat} {d : D} {r : List D} (h : L.drop i = d :: r) : L[i]? = some d ∧ L.drop (i + 1) = r := by
  have h1 := congrArg (fun l => l[0]?) h
  have h2 := congrArg List.tail h
  exact ⟨by simpa using h1, by simpa using h2⟩
section
variable {k : Nat} {S : Sto} {Q : KD} {E : Ex → Sto → Prop}
def LnS (k n : Nat) : Prop := ∀ (ts : Ts) (p bh fn : Nat) (fin : Int) (es tl : List D) (a b sd md lo : Nat) (kvs ms : List (Key × D)) (S : Sto) (Q : KD) (E : Ex → Sto → Prop), fin = fn → okS n ts → nod ts + tl.length ≤ 1000 → Ents lo S ts p es → S[a]? = some (.lst es) → S[b]? = some (.lst tl) → Wf tl → hereF tl fin = bh →
    S[sd]? = some (.dk false kvs) → S[md]? = some (.dk false ms) → sd ≠ md → kvs.length + cnt ts ≤ 1000 → ms.length + nod ts ≤ 1000 →
    (∀ S', Ch [sd, md] S S' → S'[sd]? = some (.dk false (putAll kvs (wr ts bh fn p))) → S'[md]? = some (.dk false (putAll ms (mk ts bh p))) → Q .non S') → C k f_law_note [.ref a, .ref b, .int fin, .ref sd, .ref md] S Q E
def lnB : MSs := match b_law_note with
  | .cons (.for_ _ _ b) _ => b
  | _ => .nil
theorem ln_pre {a b sd md at_ i : Nat} {z fin : Int} {row d : D} {L es tl : List D} {en : MP.Ends} {s6 s7 s8 s9 s10 : Option D} (hd : d = .tup [.int z, row, .ref i]) (ha : S[a]? = some (.lst L)) (hb : S[b]? = some (.lst tl)) (hdr : L.drop at_ = d :: es) (hz : es.length + 1 + tl.length ≤ 1000)
    (q : ∀ S1 u v, Ch [] S S1 → S1[u]? = some (.lst (es ++ tl)) → S1[v]? = some (.lst (d :: es ++ tl)) → wpSs (C k) (sk 3 lnB) en [some (.ref a), some (.ref b), some (.int fin), some (.ref sd), some (.ref md), some (.int (at_ : Nat)), some (.int z), some row, some (.ref i), some (.ref u), some (.ref v)] S1) :
    wpSs (C k) lnB en [some (.ref a), some (.ref b), some (.int fin), some (.ref sd), some (.ref md), some (.int (at_ : Nat)), s6, s7, s8, s9, s10] S := by
  obtain ⟨nx, rt, bk, ct, ex⟩ := en
  obtain ⟨h1, h2⟩ := drop_c hdr
  have a0 : atI L (at_ : Int) = some d := atI_nat h1
  have lb := g_lt hb
  unfold lnB b_law_note
  dsimp only
  refine s_cons ?_
  refine s_asg ?_
  walk_at "mp"
  subst hd
  simp only [asg, asgs]
  dsimp only [List.set]
  walk_at "mp"
  rw [cut_from1, h2]
  refine b_addl g_last (g_app hb) (by rw [sizeLine_eq]; omega) ?_
  walk_at "mp"
  rw [cut_from, hdr]
  refine b_addl g_last (g_app (g_app (g_app hb))) (by rw [sizeLine_eq, List.length_cons]; omega) ?_
  refine q _ _ _ (((Ch.refl.app.app).app).app) ?_ ?_
  · exact g_app (g_app g_last)
  · exact g_last
theorem b_addl' {a b : Nat} {xs ys : List D} (h1 : S[a]? = some (.lst xs)) (h2 : S[b]? = some (.lst ys)) (h : xs.length + ys.length ≤ sizeLine) (q : ∀ S' r, Ch [] S S' → S'[r]? = some (.lst (xs ++ ys)) → Q (.ref r) S') : wpBin .add (.ref a) (.ref b) S Q :=
  b_addl h1 h2 h (q _ _ Ch.refl.app g_last)
theorem set_dk' {a : Nat} {y : D} {k : Key} {v : D} {kvs : List (Key × D)} {R : Sto → Prop} (h : S[a]? = some (.dk false kvs)) (hk : keyOf y = some k) (hl : kvs.length < sizeLine) (q : ∀ S', Ch [a] S S' → S'[a]? = some (.dk false (dPut kvs k v)) → R S') : wpSet (.ref a) y v S R :=
  set_dk h hk hl (q _ (Ch.refl.set (by simp)) (g_set h))
section
variable {n a b sd md lo fn bh : Nat} {fin : Int} {rt : KD} {nx : MP.Env → Sto → Prop} {ex : Ex → MP.Env → Sto → Prop} {S0 : Sto} {L tl : List D}
theorem ln_loop (hk : 1 ≤ k) (ih : ∀ m, n = m + 1 → LnS k m) (hfin : fin = fn) (ha : S0[a]? = some (.lst L)) (hb : S0[b]? = some (.lst tl)) (wt : Wf tl) (hbh : hereF tl fin = bh) (hsd : ∃ kvs, S0[sd]? = some (.dk false kvs)) (hmd : ∃ kvs, S0[md]? = some (.dk false kvs)) (ne : sd ≠ md) :
    ∀ (ts : Ts) (p at_ : Nat) (es : List D) (kvs ms : List (Key × D)) (S : Sto) (s5 s6 s7 s8 s9 s10 : Option D), okS n ts → nod ts + tl.length ≤ 1000 → Ents lo S0 ts p es → L.drop at_ = es → Ch [sd, md] S0 S → S[sd]? = some (.dk false kvs) → S[md]? = some (.dk false ms) →
    kvs.length + cnt ts ≤ 1000 → ms.length + nod ts ≤ 1000 →
    (∀ S' s5 s6 s7 s8 s9 s10, Ch [sd, md] S0 S' → S'[sd]? = some (.dk false (putAll kvs (wr ts bh fn p))) → S'[md]? = some (.dk false (putAll ms (mk ts bh p))) → nx [some (.ref a), some (.ref b), some (.int fin), some (.ref sd), some (.ref md), s5, s6, s7, s8, s9, s10] S') →
    wpFor [] (forB (C k) (.nm 5) lnB rt nx ex) nx (rgs at_ es.length) [some (.ref a), some (.ref b), some (.int fin), some (.ref sd), some (.ref md), s5, s6, s7, s8, s9, s10] S
  | .nil, p, at_, es, kvs, ms, S, s5, s6, s7, s8, s9, s10, ok, hz, en, hdr, e0, gs, gm, hks, hms, q => by
    cases en
    exact for_n gd_nil (q S _ _ _ _ _ _ e0 gs gm)
  | .cons x r, p, at_, es, kvs, ms, S, s5, s6, s7, s8, s9, s10, ok, hz, en, hdr, e0, gs, gm, hks, hms, q => by
    have okx : okT n x := by cases n <;> exact ok.1
    have okr : okS n r := by cases n <;> exact ok.2
    obtain ⟨d, es', rfl, enx, enr⟩ := en
    have h1 := flatT_pos x
    rw [nod_cons] at hz hms
    have hcn : cnt (.cons x r) = cntT x + cnt r := rfl
    rw [hcn] at hks
    have kp : ∀ {S' : Sto}, Ch [sd, md] S0 S' → Kp lo S0 S' := fun e => Kp.of e fun y hy _ => by
      simp only [List.mem_cons, List.not_mem_nil, or_false] at hy
      rcases hy with rfl | rfl
      · obtain ⟨v, hv⟩ := hsd; exact ⟨_, _, hv⟩
      · obtain ⟨v, hv⟩ := hmd; exact ⟨_, _, hv⟩
    have kpp : ∀ {S' : Sto} {i : Nat} {l : List D}, Ch [sd, md] S0 S' → S0[i]? = some (.lst l) → S'[i]? = some (.lst l) := fun {S' i l} e g => (Kp.of (lo := 0) e fun y hy _ => by
      simp only [List.mem_cons, List.not_mem_nil, or_false] at hy
      rcases hy with rfl | rfl
      · obtain ⟨v, hv⟩ := hsd; exact ⟨_, _, hv⟩
      · obtain ⟨v, hv⟩ := hmd; exact ⟨_, _, hv⟩) i l (Nat.zero_le _) g
    have lr := enr.len
    obtain ⟨hd1, hd2⟩ := drop_c hdr
    have rest : ∀ (S1 : Sto) (kvs' ms' : List (Key × D)) (s5 s6 s7 s8 s9 s10 : Option D), Ch [sd, md] S0 S1 → S1[sd]? = some (.dk false kvs') → S1[md]? = some (.dk false ms') → kvs'.length ≤ kvs.length + cntT x → ms'.length ≤ ms.length + (flatT x).length →
        putAll kvs' (wr r bh fn (p + cntT x)) = putAll kvs (wr (.cons x r) bh fn p) → putAll ms' (mk r bh (p + cntT x)) = putAll ms (mk (.cons x r) bh p) →
        wpFor [] (forB (C k) (.nm 5) lnB rt nx ex) nx (rgs (at_ + 1) es'.length) [some (.ref a), some (.ref b), some (.int fin), some (.ref sd), some (.ref md), s5, s6, s7, s8, s9, s10] S1 := fun S1 kvs' ms' s5 s6 s7 s8 s9 s10 e1 gs1 gm1 l1 l2 w1 w2 =>
      ln_loop hk ih hfin ha hb wt hbh hsd hmd ne r (p + cntT x) (at_ + 1) es' kvs' ms' S1 _ _ _ _ _ _ okr (by omega) enr hd2 e1 gs1 gm1 (by omega) (by omega) fun S2 s5 s6 s7 s8 s9 s10 e2 g2 g3 => q S2 _ _ _ _ _ _ e2 (by rw [g2, w1]) (by rw [g3, w2])
    have hH : hereF (es' ++ tl) fin = (nxt r (p + cntT x) bh : Nat) := by rw [hereF_app]; exact enr.here hbh
    have wfb : Wf (es' ++ tl) := enr.wf.app wt
    obtain ⟨⟨z0, r0, hdw⟩, hpl⟩ := enx.pl
    have hA : 0 < cntT x → hereF (d :: es' ++ tl) fin = (p : Nat) := fun h => by
      show (if 0 ≤ plD d then plD d else hereF (es' ++ tl) fin) = _
      rw [hpl, if_pos h, if_pos (Int.natCast_nonneg _)]
    have wfa : Wf (d :: es' ++ tl) := fun y hy => by
      rcases List.mem_cons.mp hy with rfl | hy
      · exact ⟨_, _, hdw⟩
      · exact wfb y hy
    have szk : 0 < cntT x → kvs.length < sizeLine := fun h => by rw [sizeLine_eq]; omega
    rw [List.length_cons, rgs_c]
    refine for_c gd_nil ?_
    dsimp only [List.set]
    cases x with
    | mark y =>
      obtain ⟨i, rfl, hi, gi⟩ := enx
      refine ln_pre rfl (kpp e0 ha) (kpp e0 hb) hdr (by omega) fun S1 u v e1 gu gv => ?_
      conv => arg 2; unfold lnB b_law_note sk sk sk sk
      unfold tD
      walk_at "st"
      refine here_ok hk gu wfb ?_
      have gm1 := e1.get (by simp) gm
      have gs1 := e1.get (by simp) gs
      walk_at "st"
      refine set_dk gm1 rfl (by rw [sizeLine_eq]; omega) ?_
      walk_at "st"
      have g2 : (S1.set md (.dk false (dPut ms (.inr y) (.int (hereF (es' ++ tl) fin)))))[md]? = _ := g_set gm1
      refine rest _ kvs _ _ _ _ _ _ _ ((e0.trans (ch_up e1)).set (by simp)) (g_setn (Ne.symm ne) gs1) g2 (by omega) (by have := dPut_len ms (.inr y) (.int (hereF (es' ++ tl) fin)); omega) ?_ ?_
      · simp [wr, cntT]
      · rw [hH]; simp [mk, cntT, putAll]
    | leaf w e u =>
      have h' : LeafOk w e u := by cases n <;> exact okx
      obtain ⟨n1, n2, n3, n4, _, _, lw, _, _⟩ := h'
      have a0 : atI (D.str w :: e) 0 = some (D.str w) := at_head
      obtain ⟨i, rfl, hi, gi⟩ := enx
      have fin_ : ∀ (S1 : Sto) (st : D) (s6 s7 s8 s9 s10 : Option D), Ch [] S S1 → st = leafStep w e (nxt r (p + 1) bh) fn → wpFor [] (forB (C k) (.nm 5) lnB rt nx ex) nx (rgs (at_ + 1) es'.length) [some (.ref a), some (.ref b), some (.int fin), some (.ref sd), some (.ref md), some (.int (at_ : Nat)), s6, s7, s8, s9, s10] (S1.set sd (.dk false (dPut kvs (.inl (p : Nat)) st))) := fun S1 st s6 s7 s8 s9 s10 e1 hst => by
        have gs1 := e1.get (by simp) gs
        have gm1 := e1.get (by simp) gm
        refine rest _ _ ms _ _ _ _ _ _ ((e0.trans (ch_up e1)).set (by simp)) (g_set gs1) (g_setn ne gm1) (by have := dPut_len kvs (.inl (p : Nat)) st; simpa [cntT] using this) (by omega) ?_ ?_
        · rw [hst]; simp [wr, cntT, putAll]
        · simp [mk, cntT]
      refine ln_pre rfl (kpp e0 ha) (kpp e0 hb) hdr (by omega) fun S1 u v e1 gu gv => ?_
      conv => arg 2; unfold lnB b_law_note sk sk sk sk
      unfold tD
      have gs1 := e1.get (by simp) gs
      walk_at "st"
      by_cases hs : w = "stop"
      · refine d_t hs ?_
        walk_at "st"
        refine set_dk gs1 rfl (szk (by simp [cntT])) ?_
        walk_at "st"
        exact fin_ S1 _ _ _ _ _ _ e1 (by rw [leafStep, if_pos hs, hfin])
      · refine d_f hs ?_
        walk_at "st"
        by_cases hs2 : w = "skip"
        · refine d_t hs2 ?_
          walk_at "st"
          refine here_ok hk gu wfb ?_
          walk_at "st"
          refine set_dk gs1 rfl (szk (by simp [cntT])) ?_
          walk_at "st"
          exact fin_ S1 _ _ _ _ _ _ e1 (by rw [leafStep, if_neg hs, if_pos hs2, hH]; rfl)
        · refine d_f hs2 ?_
          walk_at "st"
          refine here_ok hk gu wfb ?_
          walk_at "st"
          refine b_addt (by rw [sizeLine_eq, List.length_cons, List.length_singleton]; omega) ?_
          walk_at "st"
          refine set_dk gs1 rfl (szk (by simp [cntT])) ?_
          walk_at "st"
          exact fin_ S1 _ _ _ _ _ _ e1 (by rw [leafStep, if_neg hs, if_neg hs2, hH]; rfl)
    | whl t c =>
      obtain ⟨m, hm, okc⟩ := okT_inn okx c (by simp [innS])
      have hlc := inn_le (x := .whl t c) (b := c) (by simp [innS])
      have hct : cntT (.whl t c) = 1 + cnt c := rfl
      obtain ⟨i, w, ys, rfl, hi, gi, hw, gw, enc⟩ := enx
      have hA' := hA (by rw [hct]; omega)
      have szk' := szk (by rw [hct]; omega)
      refine ln_pre rfl (kpp e0 ha) (kpp e0 hb) hdr (by omega) fun S1 u v e1 gu gv => ?_
      have e01 := e0.trans (ch_up (X := [sd, md]) e1)
      have gi1 := kpp e01 gi
      have gw1 := kpp e01 gw
      have gs1 := e1.get (by simp) gs
      have gm1 := e1.get (by simp) gm
      have lc := enc.len
      conv => arg 2; unfold lnB b_law_note sk sk sk sk
      unfold tD
      walk_at "st"
      refine b_addl' gw1 gv (by rw [sizeLine_eq]; simp only [List.length_append, List.length_cons]; omega) fun S2 w2 e2 gw2 => ?_
      walk_at "st"
      refine here_ok hk gw2 (enc.wf.app wfa) ?_
      rw [hereF_app, enc.here hA']
      walk_at "st"
      refine here_ok hk (e2.get (by simp) gu) wfb ?_
      rw [hH]
      walk_at "st"
      refine set_dk' (e2.get (by simp) gs1) rfl szk' fun S3 e3 gs3 => ?_
      have e03 : Ch [sd, md] S0 S3 := (e01.trans (ch_up e2)).trans (e3.mono (by simp))
      have gi3 := kpp e03 gi
      walk_at "st"
      have gm3 := e3.get (by simpa using Ne.symm ne) (e2.get (by simp) gm1)
      have hvs : v ≠ sd := fun h => by rw [h, gs1] at gv; cases gv
      have gv3 := e3.get (by simpa using hvs) (e2.get (by simp) gv)
      have dl := dPut_len kvs (.inl (p : Nat)) (.tup [.str "if", eD t, .int (nxt c (p + 1) p : Nat), .int (nxt r (p + cntT (.whl t c)) bh : Nat)])
      generalize hK2 : dPut kvs (.inl ((p : Nat) : Int)) (.tup [.str "if", eD t, .int (nxt c (p + 1) p : Nat), .int (nxt r (p + cntT (.whl t c)) bh : Nat)]) = K2 at dl gs3
      refine ih m hm c (p + 1) p fn fin ys _ w v sd md lo K2 ms _ _ _ hfin okc (by simp only [List.length_append, List.length_cons]; omega) (enc.keep (Nat.le_refl _) (kp e03)) (kpp e03 gw) gv3 wfa hA' gs3 gm3 ne (by omega) (by omega) fun S4 e4 gs4 gm4 => ?_
      have l3 := putAll_len K2 (wr c p fn (p + 1))
      have l4 := wr_len c p fn (p + 1)
      have l5 := putAll_len ms (mk c p (p + 1))
      have l6 := mk_len c p (p + 1)
      walk_at "st"
      refine rest S4 _ _ _ _ _ _ _ _ (e03.trans e4) gs4 gm4 (by omega) (by omega) ?_ ?_
      · rw [← hK2]; simp [wr, cntT, putAll]
      · simp [mk, cntT, putAll]
    | loop c =>
      obtain ⟨m, hm, okc⟩ := okT_inn okx c (by simp [innS])
      have hlc := inn_le (x := .loop c) (b := c) (by simp [innS])
      have hct : cntT (.loop c) = 1 + cnt c := rfl
      obtain ⟨i, w, ys, rfl, hi, gi, hw, gw, enc⟩ := enx
      have hA' := hA (by rw [hct]; omega)
      have szk' := szk (by rw [hct]; omega)
      refine ln_pre rfl (kpp e0 ha) (kpp e0 hb) hdr (by omega) fun S1 u v e1 gu gv => ?_
      have e01 := e0.trans (ch_up (X := [sd, md]) e1)
      have gi1 := kpp e01 gi
      have gw1 := kpp e01 gw
      have gs1 := e1.get (by simp) gs
      have gm1 := e1.get (by simp) gm
      have lc := enc.len
      conv => arg 2; unfold lnB b_law_note sk sk sk sk
      unfold tD
      walk_at "st"
      refine b_addl' gw1 gv (by rw [sizeLine_eq]; simp only [List.length_append, List.length_cons]; omega) fun S2 w2 e2 gw2 => ?_
      walk_at "st"
      refine here_ok hk gw2 (enc.wf.app wfa) ?_
      rw [hereF_app, enc.here hA']
      walk_at "st"
      refine set_dk' (e2.get (by simp) gs1) rfl szk' fun S3 e3 gs3 => ?_
      have e03 : Ch [sd, md] S0 S3 := (e01.trans (ch_up e2)).trans (e3.mono (by simp))
      have gi3 := kpp e03 gi
      walk_at "st"
      have gm3 := e3.get (by simpa using Ne.symm ne) (e2.get (by simp) gm1)
      have hvs : v ≠ sd := fun h => by rw [h, gs1] at gv; cases gv
      have gv3 := e3.get (by simpa using hvs) (e2.get (by simp) gv)
      have dl := dPut_len kvs (.inl (p : Nat)) (.tup [.str "go", .int (nxt c (p + 1) p : Nat)])
      generalize hK2 : dPut kvs (.inl ((p : Nat) : Int)) (.tup [.str "go", .int (nxt c (p + 1) p : Nat)]) = K2 at dl gs3
      refine ih m hm c (p + 1) p fn fin ys _ w v sd md lo K2 ms _ _ _ hfin okc (by simp only [List.length_append, List.length_cons]; omega) (enc.keep (Nat.le_refl _) (kp e03)) (kpp e03 gw) gv3 wfa hA' gs3 gm3 ne (by omega) (by omega) fun S4 e4 gs4 gm4 => ?_
      have l3 := putAll_len K2 (wr c p fn (p + 1))
      have l4 := wr_len c p fn (p + 1)
      have l5 := putAll_len ms (mk c p (p + 1))
      have l6 := mk_len c p (p + 1)
      walk_at "st"
      refine rest S4 _ _ _ _ _ _ _ _ (e03.trans e4) gs4 gm4 (by omega) (by omega) ?_ ?_
      · rw [← hK2]; simp [wr, cntT, putAll]
      · simp [mk, cntT, putAll]
    | iff t c1 c2 =>
      obtain ⟨m, hm, okc⟩ := okT_inn okx c1 (by simp [innS])
      obtain ⟨m', hm', okd⟩ := okT_inn okx c2 (by simp [innS])
      obtain rfl : m' = m := by omega
      have hct : cntT (.iff t c1 c2) = 1 + cnt c1 + cnt c2 := rfl
      have hft : (flatT (.iff t c1 c2)).length = 1 + nod c1 + nod c2 := by simp [flatT, nod]; omega
      obtain ⟨i, w, w', ys, zs, rfl, hi, gi, hw, gw, enc, hw', gw', end_⟩ := enx
      have szk' := szk (by rw [hct]; omega)
      refine ln_pre rfl (kpp e0 ha) (kpp e0 hb) hdr (by omega) fun S1 u v e1 gu gv => ?_
      have e01 := e0.trans (ch_up (X := [sd, md]) e1)
      have gi1 := kpp e01 gi
      have gw1 := kpp e01 gw
      have gs1 := e1.get (by simp) gs
      have gm1 := e1.get (by simp) gm
      have lc := enc.len
      have ld := end_.len
      conv => arg 2; unfold lnB b_law_note sk sk sk sk
      unfold tD
      walk_at "st"
      refine b_addl' gw1 gu (by rw [sizeLine_eq]; simp only [List.length_append, List.length_cons]; omega) fun S2 w2 e2 gw2 => ?_
      walk_at "st"
      refine here_ok hk gw2 (enc.wf.app wfb) ?_
      rw [hereF_app, enc.here hH]
      have gi2 := e2.get (by simp) gi1
      walk_at "st"
      refine b_addl' (e2.get (by simp) (kpp e01 gw')) (e2.get (by simp) gu) (by rw [sizeLine_eq]; simp only [List.length_append, List.length_cons]; omega) fun S2' w2' e2' gw2' => ?_
      walk_at "st"
      refine here_ok hk gw2' (end_.wf.app wfb) ?_
      rw [hereF_app, end_.here hH]
      have e22 := e2.trans e2'
      walk_at "st"
      refine set_dk' (e22.get (by simp) gs1) rfl szk' fun S3 e3 gs3 => ?_
      have e03 : Ch [sd, md] S0 S3 := (e01.trans (ch_up e22)).trans (e3.mono (by simp))
      have gi3 := kpp e03 gi
      walk_at "st"
      have gm3 := e3.get (by simpa using Ne.symm ne) (e22.get (by simp) gm1)
      have hus : u ≠ sd := fun h => by rw [h, gs1] at gu; cases gu
      have hum : u ≠ md := fun h => by rw [h, gm1] at gu; cases gu
      have gu3 := e3.get (by simpa using hus) (e22.get (by simp) gu)
      have dl := dPut_len kvs (.inl (p : Nat)) (.tup [.str "if", eD t, .int (nxt c1 (p + 1) (nxt r (p + cntT (.iff t c1 c2)) bh) : Nat), .int (nxt c2 (p + 1 + cnt c1) (nxt r (p + cntT (.iff t c1 c2)) bh) : Nat)])
      generalize hK2 : dPut kvs (.inl ((p : Nat) : Int)) (.tup [.str "if", eD t, .int (nxt c1 (p + 1) (nxt r (p + cntT (.iff t c1 c2)) bh) : Nat), .int (nxt c2 (p + 1 + cnt c1) (nxt r (p + cntT (.iff t c1 c2)) bh) : Nat)]) = K2 at dl gs3
      refine ih m' hm c1 (p + 1) (nxt r (p + cntT (.iff t c1 c2)) bh) fn fin ys _ w u sd md lo K2 ms _ _ _ hfin okc (by simp only [List.length_append]; omega) (enc.keep (Nat.le_refl _) (kp e03)) (kpp e03 gw) gu3 wfb hH gs3 gm3 ne (by omega) (by omega) fun S4 e4 gs4 gm4 => ?_
      have l3 := putAll_len K2 (wr c1 (nxt r (p + cntT (.iff t c1 c2)) bh) fn (p + 1))
      have l4 := wr_len c1 (nxt r (p + cntT (.iff t c1 c2)) bh) fn (p + 1)
      have l5 := putAll_len ms (mk c1 (nxt r (p + cntT (.iff t c1 c2)) bh) (p + 1))
      have l6 := mk_len c1 (nxt r (p + cntT (.iff t c1 c2)) bh) (p + 1)
      have e04 := e03.trans e4
      have gi4 := kpp e04 gi
      have gu4 := e4.get (by simp [hus, hum]) gu3
      walk_at "st"
      generalize hK4 : putAll K2 (wr c1 (nxt r (p + cntT (.iff t c1 c2)) bh) fn (p + 1)) = K4 at gs4 l3
      generalize hM4 : putAll ms (mk c1 (nxt r (p + cntT (.iff t c1 c2)) bh) (p + 1)) = M4 at gm4 l5
      refine ih m' hm c2 (p + 1 + cnt c1) (nxt r (p + cntT (.iff t c1 c2)) bh) fn fin zs _ w' u sd md lo K4 M4 _ _ _ hfin okd (by simp only [List.length_append]; omega) (end_.keep (Nat.le_refl _) (kp e04)) (kpp e04 gw') gu4 wfb hH gs4 gm4 ne (by omega) (by omega) fun S5 e5 gs5 gm5 => ?_
      have l7 := putAll_len K4 (wr c2 (nxt r (p + cntT (.iff t c1 c2)) bh) fn (p + 1 + cnt c1))
      have l8 := wr_len c2 (nxt r (p + cntT (.iff t c1 c2)) bh) fn (p + 1 + cnt c1)
      have l9 := putAll_len M4 (mk c2 (nxt r (p + cntT (.iff t c1 c2)) bh) (p + 1 + cnt c1))
      have l0 := mk_len c2 (nxt r (p + cntT (.iff t c1 c2)) bh) (p + 1 + cnt c1)
      walk_at "st"
      refine rest S5 _ _ _ _ _ _ _ _ (e04.trans e5) gs5 gm5 (by omega) (by omega) ?_ ?_
      · rw [← hK4, ← hK2]; simp [wr, cntT, putAll]
      · rw [← hM4]; simp [mk, cntT, putAll]
end
theorem ln_step {n : Nat} (hk : 1 ≤ k) (ih : ∀ m, n = m + 1 → LnS k m) : LnS (k + 1) n := by
  intro ts p bh fn fin es tl a b sd md lo kvs ms S Q E hfin ok hz en ga gb wt hbh gs gm ne h1 h2 q
  refine c_law_note ?_
  unfold b_law_note
  walk_at "mp"
  have le := en.len
  refine ⟨rg_ok (by omega), ?_⟩
  rw [rgD_rgs]
  refine ln_loop hk ih hfin ga gb wt hbh ⟨_, gs⟩ ⟨_, gm⟩ ne ts p 0 es kvs ms S none none none none none none ok hz en rfl Ch.refl gs gm h1 h2 fun S1 s5 s6 s7 s8 s9 s10 e1 g1 g2 => ?_
  walk_at "mp"
  exact q S1 e1 g1 g2
theorem ln_ok : ∀ (n : Nat) {k : Nat}, n + 2 ≤ k → LnS k n
  | 0, k, hk => by
    obtain ⟨k, rfl⟩ := up (n := 1) (by omega : 1 ≤ k)
    exact ln_step (by omega) fun m hm => by cases hm
  | n + 1, k, hk => by
    obtain ⟨k, rfl⟩ := up (n := 1) (by omega : 1 ≤ k)
    refine ln_step (by omega) fun m hm => ?_
    cases hm
    exact ln_ok n (by omega)
end
end K17
/-! K17I: law k17, the places of marks. -/
namespace K17
open PySem PySem.Spec PyProof.Rows L2 MP
local macro_rules | `(tactic| walk_at "look") => `(tactic| first | assumption | exact g_last | (with_reducible apply g_set; walk_at "look") | ((with_reducible refine g_setn ?h1 ?h2); (case h1 => first | assumption | omega | (apply Ne.symm; assumption)); (case h2 => walk_at "look")) | ((with_reducible refine g_app ?_); walk_at "look") | ((with_reducible refine' Fr.get ?h1 ?h2 ?h3); (case h1 => assumption); (case h2 => first | assumption | omega | (apply Ne.symm; assumption)); (case h3 => walk_at "look")) | ((with_reducible refine' Ch.get ?h1 ?h2 ?h3); (case h1 => assumption); (case h2 => first | assumption | (simp; done) | (simp only [List.mem_cons, List.not_mem_nil, or_false, not_or]; omega)); (case h3 => walk_at "look")))
local macro_rules | `(tactic| walk_at "kn") => `(tactic| first | assumption | omega | (simp; done) | decide)
local macro_rules | `(tactic| walk_at "sz") => `(tactic| first | assumption | (rw [sizeLine_eq]; first | omega | (simp; done) | (simp; omega)))
local macro_rules | `(tactic| walk_at "at") => `(tactic| first | exact rfl | assumption)
local macro_rules | `(tactic| walk_at "mp1") => `(tactic| first
  | with_reducible refine s_cons ?_ | with_reducible refine s_nil ?_ | with_reducible refine s_nm ?_ | with_reducible refine s_ix ?_ | with_reducible refine s_asg ?_ | with_reducible refine s_ex ?_ | with_reducible refine s_iff ?_ | with_reducible refine s_ret ?_ | with_reducible refine s_for ?_
  | ((with_reducible refine' e_var ?h1 ?_); (case h1 => exact rfl)) | with_reducible refine e_int ?_ | with_reducible refine e_bin ?_ | with_reducible refine e_cmp ?_ | with_reducible refine e_ix ?_ | with_reducible refine e_call ?_ | with_reducible refine e_blt ?_ | with_reducible refine e_bl ?_ | with_reducible refine e_and ?_ | with_reducible refine e_or ?_ | with_reducible refine e_not ?_ | with_reducible refine e_ite ?_
  | with_reducible refine es_cons ?_ | with_reducible refine es_nil ?_ | with_reducible refine e_tup ?_ | with_reducible refine e_lst ?_ | with_reducible refine e_meth ?_ | with_reducible refine e_comp ?_ | with_reducible refine e_sl ?_ | with_reducible refine e_neg ?_ | with_reducible refine e_isi ?_ | with_reducible refine e_lrg ?_ | with_reducible refine e_non ?_ | with_reducible refine e_str ?_ | with_reducible refine e_fnv ?_ | with_reducible refine e_orl ?_ | with_reducible refine e_dnew ?_ | with_reducible refine e_dget ?_ | with_reducible refine e_dget2 ?_
  | with_reducible refine o_no ?_ | with_reducible refine o_so ?_ | with_reducible refine i_rng ?_ | with_reducible refine i_seq ?_ | with_reducible refine i_enum ?_ | with_reducible refine if_nil ?_ | with_reducible refine if_cons ?_ | with_reducible refine rg_1 ?_ | with_reducible refine rg_2 ?_
  | with_reducible refine b_add ?_ | with_reducible refine b_sub ?_ | ((with_reducible refine' b_mul ?h1 ?_); (case h1 => first | assumption | mul_fits)) | ((with_reducible refine' b_fdiv ?h1 ?h2 ?_); (case h1 => walk_at "kn"); (case h2 => first | assumption | decide)) | ((with_reducible refine' b_mod ?h1 ?_); (case h1 => walk_at "kn")) | ((with_reducible refine' b_pow ?h1 ?_); (case h1 => first | assumption | exact ⟨by decide, by decide, by decide⟩)) | ((with_reducible refine' b_shr ?h1 ?_); (case h1 => walk_at "kn")) | ((with_reducible refine' b_shl ?h1 ?_); (case h1 => assumption)) | with_reducible refine b_and ?_ | with_reducible refine b_or ?_ | with_reducible refine b_xor ?_
  | with_reducible refine c_lt ?_ | with_reducible refine c_le ?_ | with_reducible refine c_gt ?_ | with_reducible refine c_ge ?_ | with_reducible refine c_eqi ?_ | with_reducible refine c_nei ?_ | with_reducible refine c_eqb ?_ | with_reducible refine c_neb ?_ | with_reducible refine c_eqs ?_ | with_reducible refine c_nes ?_
  | with_reducible refine t_bl ?_ | with_reducible refine t_int ?_ | with_reducible refine t_tup ?_ | with_reducible refine t_non ?_
  | ((with_reducible refine' x_ref ?h1 ?h2 ?_); (case h1 => walk_at "look"); (case h2 => walk_at "at")) | ((with_reducible refine' x_tup ?h1 ?_); (case h1 => walk_at "at")) | ((with_reducible refine' x_klst ?h1 ?_); (case h1 => walk_at "at"))
  | ((with_reducible refine' set_ref ?h1 ?h2 ?_); (case h1 => walk_at "look"); (case h2 => walk_at "at"))
  | ((with_reducible refine' f_lenr ?h1 ?_); (case h1 => walk_at "look")) | with_reducible refine f_lent ?_ | with_reducible refine f_lenk ?_ | with_reducible refine f_int ?_ | ((with_reducible refine' f_listr ?h1 ?_); (case h1 => walk_at "look")) | with_reducible refine f_listt ?_ | with_reducible refine f_listk ?_ | ((with_reducible refine' f_tupr ?h1 ?_); (case h1 => walk_at "look")) | with_reducible refine f_tupt ?_ | with_reducible refine f_max ?_ | with_reducible refine f_min ?_
  | with_reducible refine sl_klst ?_ | ((with_reducible refine' sl_ref ?h1 ?_); (case h1 => walk_at "look")) | with_reducible refine sl_tup ?_
  | ((with_reducible refine' m_app ?h1 ?h2 ?_); (case h1 => walk_at "look"); (case h2 => walk_at "sz")) | ((with_reducible refine' m_ext ?h1 ?h2 ?h3 ?_); (case h1 => walk_at "look"); (case h2 => walk_at "look"); (case h3 => walk_at "sz")) | ((with_reducible refine' m_extT ?h1 ?h3 ?_); (case h1 => walk_at "look"); (case h3 => walk_at "sz"))
  | with_reducible refine k_t ?_ | with_reducible refine k_f ?_ | with_reducible refine k_nt ?_ | with_reducible refine k_nf ?_
  | ((with_reducible refine' d_t ?h1 ?_); (case h1 => first | assumption | omega)) | ((with_reducible refine' d_f ?h1 ?_); (case h1 => first | assumption | omega)) | ((with_reducible refine' d_nt ?h1 ?_); (case h1 => first | assumption | omega)) | ((with_reducible refine' d_nf ?h1 ?_); (case h1 => first | assumption | omega))
  | ((with_reducible refine' And.intro (r_lst ?h1 ?h2) ?_); (case h1 => decide); (case h2 => walk_at "look")) | (with_reducible refine And.intro r_int ?_)
  | ((with_reducible refine And.intro ?h1 ?_); (case h1 => (with_reducible show List.length _ ≤ sizeLine); walk_at "sz"))
  | dsimp only
  | dsimp only [isTy_int, isTy_bl, isTy_str, isTy_non, isTy_tup])
local macro_rules | `(tactic| walk_at "mp") => `(tactic| repeat walk_at "mp1")

local macro_rules | `(tactic| walk_at "st") => `(tactic| repeat first | walk_at "mp1" | ((with_reducible refine' d_t ?h1 ?_); (case h1 => decide +kernel)) | ((with_reducible refine' d_f ?h1 ?_); (case h1 => decide +kernel)) | ((with_reducible refine' d_nt ?h1 ?_); (case h1 => decide +kernel)) | ((with_reducible refine' d_nf ?h1 ?_); (case h1 => decide +kernel)) | with_reducible refine s_cnt ?_)
section
variable {k : Nat} {S : Sto} {Q : KD} {E : Ex → Sto → Prop}
def nmB : MSs := match bnote_marks with
  | .cons _ (.cons (.for_ _ _ b) _) => b
  | _ => .nil
def NmS (k n : Nat) : Prop := ∀ (ts : Ts) (p bh : Nat) (i j : Int) (md : Nat) (ms : List (Key × D)) (S : Sto) (Q : KD) (E : Ex → Sto → Prop), i = p → j = bh → okS n ts → nod ts ≤ 1000 → S[md]? = some (.dk false ms) → ms.length + nod ts ≤ 1000 →
    (∀ S', Ch [md] S S' → S'[md]? = some (.dk false (putAll ms (mk ts bh p))) → Q .non S') → C k fnote_marks [bD ts, .int i, .int j, .ref md] S Q E
section
variable {n md bh : Nat} {F : D} {j : Int} {rt : KD} {nx : MP.Env → Sto → Prop} {ex : Ex → MP.Env → Sto → Prop} {S0 : Sto} {L : List D}
theorem nm_loop (hk : n + 3 ≤ k) (ih : ∀ m, n = m + 1 → NmS k m) (hj : j = bh) :
    ∀ (ts : Ts) (p at_ : Nat) (i : Int) (ms : List (Key × D)) (S : Sto) (s5 s6 s7 s8 s9 : Option D), i = p → okS n ts → nod ts ≤ 1000 → L.drop at_ = tsD ts → S[md]? = some (.dk false ms) → ms.length + nod ts ≤ 1000 →
    (∀ S' s4 s5 s6 s7 s8 s9, Ch [md] S S' → S'[md]? = some (.dk false (putAll ms (mk ts bh p))) → nx [some (.tup L), some F, some (.int j), some (.ref md), s4, s5, s6, s7, s8, s9] S') →
    wpFor [] (forB (C k) (.nm 5) nmB rt nx ex) nx (rgs at_ (tsD ts).length) [some (.tup L), some F, some (.int j), some (.ref md), some (.int i), s5, s6, s7, s8, s9] S
  | .nil, p, at_, i, ms, S, s5, s6, s7, s8, s9, hi, ok, hz, hdr, gm, hms, q => for_n gd_nil (q S _ _ _ _ _ _ Ch.refl gm)
  | .cons x r, p, at_, i, ms, S, s5, s6, s7, s8, s9, hi, ok, hz, hdr, gm, hms, q => by
    have okx : okT n x := by cases n <;> exact ok.1
    have okr : okS n r := by cases n <;> exact ok.2
    have h1 := flatT_pos x
    rw [nod_cons] at hz hms
    have hdr' : L.drop at_ = tD x :: tsD r := hdr
    obtain ⟨hd1, hd2⟩ := drop_c hdr'
    have a0 : atI L (at_ : Int) = some (tD x) := atI_nat hd1
    have rest : ∀ (S1 : Sto) (i' : Int) (ms' : List (Key × D)) (s5 s6 s7 s8 s9 : Option D), i' = ((p + cntT x : Nat) : Int) → Ch [md] S S1 → S1[md]? = some (.dk false ms') → ms'.length ≤ ms.length + (flatT x).length →
        putAll ms' (mk r bh (p + cntT x)) = putAll ms (mk (.cons x r) bh p) →
        wpFor [] (forB (C k) (.nm 5) nmB rt nx ex) nx (rgs (at_ + 1) (tsD r).length) [some (.tup L), some F, some (.int j), some (.ref md), some (.int i'), s5, s6, s7, s8, s9] S1 := fun S1 i' ms' s5 s6 s7 s8 s9 hi' e1 gm1 l2 w2 =>
      nm_loop hk ih hj r (p + cntT x) (at_ + 1) i' ms' S1 _ _ _ _ _ hi' okr (by omega) hd2 gm1 (by omega) fun S2 s4 s5 s6 s7 s8 s9 e2 g3 => q S2 _ _ _ _ _ _ (e1.trans e2) (by rw [g3, w2])
    rw [show (tsD (.cons x r)).length = (tsD r).length + 1 from rfl, rgs_c]
    refine for_c gd_nil ?_
    dsimp only [List.set]
    have pre : ∀ {K : KD} {S1 : Sto} {E1 : Ex → Sto → Prop}, (∀ S2, Ch [] S1 S2 → K (.int (cnt r : Nat)) S2) → C k fsteps_in [.tup (cutD L (some ((at_ : Int) + 1)) none)] S1 K E1 := fun {K S1 E1} qq => by
      rw [cut_from1, hd2]
      exact steps_ok hk okr (by omega) qq
    conv => arg 2; unfold nmB bnote_marks
    dsimp only
    have aft : ∀ {K : KD} {E1 : Ex → Sto → Prop} {σ : MP.Env} {S1 : Sto}, σ[0]? = some (some (.tup L)) → σ[5]? = some (some (.int (at_ : Nat))) → σ[4]? = some (some (.int i)) → σ[8]? = some (some (.int (cntT x : Nat))) → σ[2]? = some (some (.int j)) →
        (∀ S2, Ch [] S1 S2 → K (.int (nxt r (p + cntT x) bh : Nat)) S2) → wpE (C k) (.ite (.cmp .gt (.call fsteps_in (.cons (.sl (.var 0) (.so (.bin .add (.var 5) (.int 1))) .no) .nil)) (.int 0)) (.bin .add (.var 4) (.var 8)) (.var 2)) E1 σ S1 K := fun {K E1 σ S1} h0 h5 h4 h8 h2 qq => by
      refine e_ite (e_cmp (e_call (es_cons (e_sl (e_var h0 (o_so (e_bin (e_var h5 (e_int (b_add ?_))))))))))
      dsimp only
      refine o_no (sl_tup (es_nil (pre fun S2 e2 => e_int (c_gt (t_bl ?_)))))
      unfold nxt at qq
      by_cases hc : 0 < cnt r
      · rw [if_pos hc] at qq
        refine d_t (by omega) (e_bin (e_var h4 (e_var h8 (b_add ?_))))
        rw [hi]
        exact qq S2 e2
      · rw [if_neg hc] at qq
        refine d_f (by omega) (e_var h2 ?_)
        rw [hj]
        exact qq S2 e2
    walk_at "mp"
    cases x with
    | mark y =>
      unfold tD
      walk_at "st"
      refine pre fun S1 e1 => ?_
      have gm1 := e1.get (by simp) gm
      walk_at "st"
      have fin_ : ∀ (z : Int) (s5 s6 s7 s8 s9 : Option D), z = (nxt r p bh : Nat) → wpSet (.ref md) (.str y) (.int z) S1 fun S4 => wpFor [] (forB (C k) (.nm 5) nmB rt nx ex) nx (rgs (at_ + 1) (tsD r).length) [some (.tup L), some F, some (.int j), some (.ref md), some (.int i), s5, s6, s7, s8, s9] S4 := fun z s5 s6 s7 s8 s9 hz2 => by
        refine set_dk' gm1 rfl (by rw [sizeLine_eq]; omega) fun S2 e2 g2 => ?_
        refine rest S2 _ _ _ _ _ _ _ (by simp [hi, cntT]) ((ch_up e1).trans e2) g2 (by have := dPut_len ms (.inr y) (.int z); omega) ?_
        rw [hz2]
        simp [mk, cntT, putAll]
      by_cases hc : 0 < cnt r
      · refine d_t (by omega) ?_
        walk_at "st"
        exact fin_ _ _ _ _ _ _ (by rw [hi, nxt, if_pos hc])
      · refine d_f (by omega) ?_
        walk_at "st"
        exact fin_ _ _ _ _ _ _ (by rw [hj, nxt, if_neg hc])
    | leaf w e u =>
      have h' : LeafOk w e u := by cases n <;> exact okx
      obtain ⟨n1, n2, n3, n4, _⟩ := h'
      have b0 : atI (D.str w :: e) 0 = some (D.str w) := at_head
      unfold tD
      walk_at "st"
      refine steps_1 (x := .leaf w e u) hk okx (by omega) fun S1 e1 => ?_
      refine s_cons (s_nm (aft rfl rfl rfl rfl rfl fun S2 e2 => ?_))
      dsimp only [List.set]
      walk_at "st"
      exact rest S2 _ ms _ _ _ _ _ (by simp [hi]) (ch_up (e1.trans e2)) ((e1.trans e2).get (by simp) gm) (by omega) (by simp [mk, cntT])
    | whl t c =>
      obtain ⟨m, hm, okc⟩ := okT_inn okx c (by simp [innS])
      have hlc := inn_le (x := .whl t c) (b := c) (by simp [innS])
      unfold tD
      walk_at "st"
      refine steps_1 (x := .whl t c) hk okx (by omega) fun S1 e1 => ?_
      refine s_cons (s_nm (aft rfl rfl rfl rfl rfl fun S2 e2 => ?_))
      dsimp only [List.set]
      have e12 := e1.trans e2
      have gm2 := e12.get (by simp) gm
      walk_at "st"
      refine ih m hm c (p + 1) p _ _ md ms _ _ _ (by simp [hi]) hi okc (by omega) gm2 (by omega) fun S3 e3 gm3 => ?_
      have l5 := putAll_len ms (mk c p (p + 1))
      have l6 := mk_len c p (p + 1)
      walk_at "st"
      exact rest S3 _ _ _ _ _ _ _ (by simp [hi]) ((ch_up e12).trans e3) gm3 (by omega) (by simp [mk, cntT, putAll])
    | loop c =>
      obtain ⟨m, hm, okc⟩ := okT_inn okx c (by simp [innS])
      have hlc := inn_le (x := .loop c) (b := c) (by simp [innS])
      unfold tD
      walk_at "st"
      refine steps_1 (x := .loop c) hk okx (by omega) fun S1 e1 => ?_
      refine s_cons (s_nm (aft rfl rfl rfl rfl rfl fun S2 e2 => ?_))
      dsimp only [List.set]
      have e12 := e1.trans e2
      have gm2 := e12.get (by simp) gm
      walk_at "st"
      refine ih m hm c (p + 1) p _ _ md ms _ _ _ (by simp [hi]) hi okc (by omega) gm2 (by omega) fun S3 e3 gm3 => ?_
      have l5 := putAll_len ms (mk c p (p + 1))
      have l6 := mk_len c p (p + 1)
      walk_at "st"
      exact rest S3 _ _ _ _ _ _ _ (by simp [hi]) ((ch_up e12).trans e3) gm3 (by omega) (by simp [mk, cntT, putAll])
    | iff t c1 c2 =>
      obtain ⟨m, hm, okc⟩ := okT_inn okx c1 (by simp [innS])
      obtain ⟨m', hm', okd⟩ := okT_inn okx c2 (by simp [innS])
      obtain rfl : m' = m := by omega
      have hft : (flatT (.iff t c1 c2)).length = 1 + nod c1 + nod c2 := by simp [flatT, nod]; omega
      unfold tD
      walk_at "st"
      refine steps_1 (x := .iff t c1 c2) hk okx (by omega) fun S1 e1 => ?_
      refine s_cons (s_nm (aft rfl rfl rfl rfl rfl fun S2 e2 => ?_))
      dsimp only [List.set]
      have e12 := e1.trans e2
      have gm2 := e12.get (by simp) gm
      walk_at "st"
      refine ih m' hm c1 (p + 1) _ _ _ md ms _ _ _ (by simp [hi]) rfl okc (by omega) gm2 (by omega) fun S3 e3 gm3 => ?_
      have l5 := putAll_len ms (mk c1 (nxt r (p + cntT (.iff t c1 c2)) bh) (p + 1))
      have l6 := mk_len c1 (nxt r (p + cntT (.iff t c1 c2)) bh) (p + 1)
      generalize hM : putAll ms (mk c1 (nxt r (p + cntT (.iff t c1 c2)) bh) (p + 1)) = M3 at gm3 l5
      walk_at "st"
      refine steps_ok (n := m') (b := c1) (by omega) okc (by omega) fun S4 e4 => ?_
      have gm4 := e4.get (by simp) gm3
      walk_at "st"
      refine ih m' hm c2 (p + 1 + cnt c1) _ _ _ md M3 _ _ _ (by simp [hi]) rfl okd (by omega) gm4 (by omega) fun S5 e5 gm5 => ?_
      have l7 := putAll_len M3 (mk c2 (nxt r (p + cntT (.iff t c1 c2)) bh) (p + 1 + cnt c1))
      have l8 := mk_len c2 (nxt r (p + cntT (.iff t c1 c2)) bh) (p + 1 + cnt c1)
      walk_at "st"
      refine rest S5 _ _ _ _ _ _ _ (by simp [hi]) ((((ch_up e12).trans e3).trans (ch_up e4)).trans e5) gm5 (by omega) ?_
      rw [← hM]
      simp [mk, cntT, putAll]
end
theorem nm_step {n : Nat} (hk : n + 3 ≤ k) (ih : ∀ m, n = m + 1 → NmS k m) : NmS (k + 1) n := by
  intro ts p bh i j md ms S Q E hi hj ok hz gm hms q
  refine cnote_marks ?_
  unfold bnote_marks
  unfold bD
  walk_at "mp"
  have le := tsD_len ts
  refine ⟨rg_ok (by omega), ?_⟩
  rw [rgD_rgs]
  refine nm_loop hk ih hj ts p 0 i ms S none none none none none hi ok hz rfl gm hms fun S1 s4 s5 s6 s7 s8 s9 e1 g1 => ?_
  walk_at "mp"
  exact q S1 e1 g1
theorem nm_ok : ∀ (n : Nat) {k : Nat}, n + 4 ≤ k → NmS k n
  | 0, k, hk => by
    obtain ⟨k, rfl⟩ := up (n := 1) (by omega : 1 ≤ k)
    exact nm_step (by omega) fun m hm => by cases hm
  | n + 1, k, hk => by
    obtain ⟨k, rfl⟩ := up (n := 1) (by omega : 1 ≤ k)
    refine nm_step (by omega) fun m hm => ?_
    cases hm
    exact nm_ok n (by omega)
theorem marks_ok {n : Nat} (hk : n + 5 ≤ k) {b : Ts} (ok : okS n b) (hl : nod b ≤ 1000) (q : ∀ a S', Ch [] S S' → S.length ≤ a → S'[a]? = some (.dk false (putAll [] (mk b (cnt b) 0))) → Q (.ref a) S') : C k fmarks_of [bD b] S Q E := by
  obtain ⟨k, rfl⟩ := up (n := 1) (by omega : 1 ≤ k)
  refine cmarks_of ?_
  unfold bmarks_of
  walk_at "mp"
  refine steps_ok (n := n) (by omega) ok hl fun S1 e1 => ?_
  walk_at "mp"
  refine nm_ok n (by omega) b 0 (cnt b) _ _ S.length [] _ _ _ rfl rfl ok hl (e1.get (by simp) g_last) (by simpa using hl) fun S2 e2 g2 => ?_
  walk_at "mp"
  exact q _ S2 (ch_drop (Ch.refl.app.trans e1) e2 (Nat.le_refl _)) (Nat.le_refl _) g2
end
end K17
/-! K17J: law k17, the steps of places. -/
namespace K17
open PySem PySem.Spec PyProof.Rows L2 MP
local macro_rules | `(tactic| walk_at "look") => `(tactic| first | assumption | exact g_last | (with_reducible apply g_set; walk_at "look") | ((with_reducible refine g_setn ?h1 ?h2); (case h1 => first | assumption | omega | (apply Ne.symm; assumption)); (case h2 => walk_at "look")) | ((with_reducible refine g_app ?_); walk_at "look") | ((with_reducible refine' Fr.get ?h1 ?h2 ?h3); (case h1 => assumption); (case h2 => first | assumption | omega | (apply Ne.symm; assumption)); (case h3 => walk_at "look")) | ((with_reducible refine' Ch.get ?h1 ?h2 ?h3); (case h1 => assumption); (case h2 => first | assumption | (simp; done) | (simp only [List.mem_cons, List.not_mem_nil, or_false, not_or]; omega)); (case h3 => walk_at "look")))
local macro_rules | `(tactic| walk_at "kn") => `(tactic| first | assumption | omega | (simp; done) | decide)
local macro_rules | `(tactic| walk_at "sz") => `(tactic| first | assumption | (rw [sizeLine_eq]; first | omega | (simp; done) | (simp; omega)))
local macro_rules | `(tactic| walk_at "at") => `(tactic| first | exact rfl | assumption)
local macro_rules | `(tactic| walk_at "mp1") => `(tactic| first
  | with_reducible refine s_cons ?_ | with_reducible refine s_nil ?_ | with_reducible refine s_nm ?_ | with_reducible refine s_ix ?_ | with_reducible refine s_asg ?_ | with_reducible refine s_ex ?_ | with_reducible refine s_iff ?_ | with_reducible refine s_ret ?_ | with_reducible refine s_for ?_
  | ((with_reducible refine' e_var ?h1 ?_); (case h1 => exact rfl)) | with_reducible refine e_int ?_ | with_reducible refine e_bin ?_ | with_reducible refine e_cmp ?_ | with_reducible refine e_ix ?_ | with_reducible refine e_call ?_ | with_reducible refine e_blt ?_ | with_reducible refine e_bl ?_ | with_reducible refine e_and ?_ | with_reducible refine e_or ?_ | with_reducible refine e_not ?_ | with_reducible refine e_ite ?_
  | with_reducible refine es_cons ?_ | with_reducible refine es_nil ?_ | with_reducible refine e_tup ?_ | with_reducible refine e_lst ?_ | with_reducible refine e_meth ?_ | with_reducible refine e_comp ?_ | with_reducible refine e_sl ?_ | with_reducible refine e_neg ?_ | with_reducible refine e_isi ?_ | with_reducible refine e_lrg ?_ | with_reducible refine e_non ?_ | with_reducible refine e_str ?_ | with_reducible refine e_fnv ?_ | with_reducible refine e_orl ?_ | with_reducible refine e_dnew ?_ | with_reducible refine e_dget ?_ | with_reducible refine e_dget2 ?_
  | with_reducible refine o_no ?_ | with_reducible refine o_so ?_ | with_reducible refine i_rng ?_ | with_reducible refine i_seq ?_ | with_reducible refine i_enum ?_ | with_reducible refine if_nil ?_ | with_reducible refine if_cons ?_ | with_reducible refine rg_1 ?_ | with_reducible refine rg_2 ?_
  | with_reducible refine b_add ?_ | with_reducible refine b_sub ?_ | ((with_reducible refine' b_mul ?h1 ?_); (case h1 => first | assumption | mul_fits)) | ((with_reducible refine' b_fdiv ?h1 ?h2 ?_); (case h1 => walk_at "kn"); (case h2 => first | assumption | decide)) | ((with_reducible refine' b_mod ?h1 ?_); (case h1 => walk_at "kn")) | ((with_reducible refine' b_pow ?h1 ?_); (case h1 => first | assumption | exact ⟨by decide, by decide, by decide⟩)) | ((with_reducible refine' b_shr ?h1 ?_); (case h1 => walk_at "kn")) | ((with_reducible refine' b_shl ?h1 ?_); (case h1 => assumption)) | with_reducible refine b_and ?_ | with_reducible refine b_or ?_ | with_reducible refine b_xor ?_
  | with_reducible refine c_lt ?_ | with_reducible refine c_le ?_ | with_reducible refine c_gt ?_ | with_reducible refine c_ge ?_ | with_reducible refine c_eqi ?_ | with_reducible refine c_nei ?_ | with_reducible refine c_eqb ?_ | with_reducible refine c_neb ?_ | with_reducible refine c_eqs ?_ | with_reducible refine c_nes ?_
  | with_reducible refine t_bl ?_ | with_reducible refine t_int ?_ | with_reducible refine t_tup ?_ | with_reducible refine t_non ?_
  | ((with_reducible refine' x_ref ?h1 ?h2 ?_); (case h1 => walk_at "look"); (case h2 => walk_at "at")) | ((with_reducible refine' x_tup ?h1 ?_); (case h1 => walk_at "at")) | ((with_reducible refine' x_klst ?h1 ?_); (case h1 => walk_at "at"))
  | ((with_reducible refine' set_ref ?h1 ?h2 ?_); (case h1 => walk_at "look"); (case h2 => walk_at "at"))
  | ((with_reducible refine' f_lenr ?h1 ?_); (case h1 => walk_at "look")) | with_reducible refine f_lent ?_ | with_reducible refine f_lenk ?_ | with_reducible refine f_int ?_ | ((with_reducible refine' f_listr ?h1 ?_); (case h1 => walk_at "look")) | with_reducible refine f_listt ?_ | with_reducible refine f_listk ?_ | ((with_reducible refine' f_tupr ?h1 ?_); (case h1 => walk_at "look")) | with_reducible refine f_tupt ?_ | with_reducible refine f_max ?_ | with_reducible refine f_min ?_
  | with_reducible refine sl_klst ?_ | ((with_reducible refine' sl_ref ?h1 ?_); (case h1 => walk_at "look")) | with_reducible refine sl_tup ?_
  | ((with_reducible refine' m_app ?h1 ?h2 ?_); (case h1 => walk_at "look"); (case h2 => walk_at "sz")) | ((with_reducible refine' m_ext ?h1 ?h2 ?h3 ?_); (case h1 => walk_at "look"); (case h2 => walk_at "look"); (case h3 => walk_at "sz")) | ((with_reducible refine' m_extT ?h1 ?h3 ?_); (case h1 => walk_at "look"); (case h3 => walk_at "sz"))
  | with_reducible refine k_t ?_ | with_reducible refine k_f ?_ | with_reducible refine k_nt ?_ | with_reducible refine k_nf ?_
  | ((with_reducible refine' d_t ?h1 ?_); (case h1 => first | assumption | omega)) | ((with_reducible refine' d_f ?h1 ?_); (case h1 => first | assumption | omega)) | ((with_reducible refine' d_nt ?h1 ?_); (case h1 => first | assumption | omega)) | ((with_reducible refine' d_nf ?h1 ?_); (case h1 => first | assumption | omega))
  | ((with_reducible refine' And.intro (r_lst ?h1 ?h2) ?_); (case h1 => decide); (case h2 => walk_at "look")) | (with_reducible refine And.intro r_int ?_)
  | ((with_reducible refine And.intro ?h1 ?_); (case h1 => (with_reducible show List.length _ ≤ sizeLine); walk_at "sz"))
  | dsimp only
  | dsimp only [isTy_int, isTy_bl, isTy_str, isTy_non, isTy_tup])
local macro_rules | `(tactic| walk_at "mp") => `(tactic| repeat walk_at "mp1")

local macro_rules | `(tactic| walk_at "st") => `(tactic| repeat first | walk_at "mp1" | ((with_reducible refine' d_t ?h1 ?_); (case h1 => decide +kernel)) | ((with_reducible refine' d_f ?h1 ?_); (case h1 => decide +kernel)) | ((with_reducible refine' d_nt ?h1 ?_); (case h1 => decide +kernel)) | ((with_reducible refine' d_nf ?h1 ?_); (case h1 => decide +kernel)) | with_reducible refine s_cnt ?_)
/-! ### what is numbered is data -/
theorem numF_pu : ∀ (ts : Ts) (n p : Nat), okS n ts → ∀ d ∈ numF ts p, puD (3 * n + 8) d = true
  | .nil, n, p, ok, d, h => by cases h
  | .cons x r, n, p, ok, d, h => by
    have okx : okT n x := by cases n <;> exact ok.1
    have okr : okS n r := by cases n <;> exact ok.2
    cases x with
    | mark y => exact numF_pu r n p okr d (by simpa [numF] using h)
    | leaf w q e =>
      have h' : LeafOk w q e := by cases n <;> exact okx
      simp only [numF, List.mem_cons] at h
      rcases h with rfl | h
      · refine puD_mono (by omega : 8 ≤ 3 * n + 8) (pu2 puD_int ?_)
        rw [puD_tup]
        intro v hv
        rcases List.mem_cons.mp hv with rfl | hv
        · exact puD_str h'.so
        · exact h'.pu v hv
      · exact numF_pu r n _ okr d h
    | whl t b => cases n with
      | zero => exact okx.elim
      | succ n =>
        simp only [numF, List.mem_cons] at h
        rcases h with rfl | h
        · refine puD_mono (by omega : (3 * n + 9) + 1 + 1 ≤ 3 * (n + 1) + 8) (pu2 puD_int (pu3 (puD_str (by decide +kernel)) (puD_mono (by omega) (okE_pu okx.1)) ?_))
          rw [puD_tup]
          exact numF_pu b n _ okx.2
        · exact numF_pu r (n + 1) _ okr d h
    | loop b => cases n with
      | zero => exact okx.elim
      | succ n =>
        simp only [numF, List.mem_cons] at h
        rcases h with rfl | h
        · refine puD_mono (by omega : (3 * n + 9) + 1 + 1 ≤ 3 * (n + 1) + 8) (pu2 puD_int (pu2 (puD_str (by decide +kernel)) ?_))
          rw [puD_tup]
          exact numF_pu b n _ okx
        · exact numF_pu r (n + 1) _ okr d h
    | iff t a b => cases n with
      | zero => exact okx.elim
      | succ n =>
        simp only [numF, List.mem_cons] at h
        rcases h with rfl | h
        · refine puD_mono (by omega : (3 * n + 9) + 1 + 1 ≤ 3 * (n + 1) + 8) (pu2 puD_int ?_)
          rw [puD_tup]
          intro v hv
          simp only [List.mem_cons, List.not_mem_nil, or_false] at hv
          rcases hv with rfl | rfl | rfl | rfl
          · exact puD_str (by decide +kernel)
          · exact puD_mono (by omega) (okE_pu okx.1)
          · rw [puD_tup]; exact numF_pu a n _ okx.2.1
          · rw [puD_tup]; exact numF_pu b n _ okx.2.2
        · exact numF_pu r (n + 1) _ okr d h
theorem numT_pu {ts : Ts} {n p : Nat} (hn : n ≤ 10) (ok : okS n ts) : puD 40 (.tup (numF ts p)) = true := by
  rw [puD_tup]
  exact fun d hd => puD_mono (by omega) (numF_pu ts n p ok d hd)
theorem numF_head : ∀ (ts : Ts) (p : Nat), (0 < cnt ts ∧ ∃ y tl, numF ts p = .tup [.int (p : Nat), y] :: tl) ∨ (cnt ts = 0 ∧ numF ts p = [])
  | .nil, p => .inr ⟨rfl, rfl⟩
  | .cons x r, p => by
    cases x with
    | mark y => simpa [cnt, cntT, numF] using numF_head r p
    | leaf w q e => exact .inl ⟨by simp [cnt, cntT]; omega, _, _, rfl⟩
    | whl t b => exact .inl ⟨by simp [cnt, cntT]; omega, _, _, rfl⟩
    | loop b => exact .inl ⟨by simp [cnt, cntT]; omega, _, _, rfl⟩
    | iff t a b => exact .inl ⟨by simp [cnt, cntT]; omega, _, _, rfl⟩
section
variable {k : Nat} {S : Sto} {Q : KD} {E : Ex → Sto → Prop}
theorem c_ne0 {xs : List D} (h : puD 40 (.tup xs) = true) (q : Q (.bl (!xs.isEmpty)) S) : wpCmp .ne (.tup xs) (.tup []) S Q := by
  obtain ⟨d, h1, h2, h3⟩ := same_v h
  obtain ⟨e, g1, g2, g3⟩ := same_v (v := .tup []) rfl
  have hd := h1 S
  have he := g1 S
  refine c_ned hd he h2 g2 ?_
  cases hd with
  | tup hds =>
    cases he with
    | tup hes =>
      cases hes
      cases hds with
      | nil => simpa [PyData.eqv, PyData.eqvAll] using q
      | cons a b => simpa [PyData.eqv, PyData.eqvAll] using q
theorem fst_ok {n v w : Nat} {b : Ts} {q e : Nat} {σ : MP.Env} {z : Int} (hn : n ≤ 10) (okb : okS n b) (hv : σ[v]? = some (some (.tup (numF b q)))) (hw : σ[w]? = some (some (.int z))) (hz : z = e) (qq : Q (.int (nxt b q e : Nat)) S) :
    wpCmp .ne (.tup (numF b q)) (.tup []) S fun x S1 => truK S1 x fun k1 => if k1 = true then wpE (C k) (.ix (.ix (.var v) (.int 0)) (.int 0)) E σ S1 Q else wpE (C k) (.var w) E σ S1 Q := by
  refine c_ne0 (numT_pu hn okb) (t_bl ?_)
  rcases numF_head b q with ⟨hc, y, tl, h⟩ | ⟨hc, h⟩
  · rw [h] at hv ⊢
    have a0 : atI (D.tup [.int (q : Nat), y] :: tl) 0 = some (D.tup [.int (q : Nat), y]) := atI_nat (j := 0) rfl
    refine k_T rfl (e_ix (e_ix (e_var hv (e_int (x_tup a0 (e_int (x_tup (atI_nat (j := 0) rfl) ?_)))))))
    rw [nxt, if_pos hc] at qq
    exact qq
  · rw [h] at hv ⊢
    refine k_F rfl (e_var hw ?_)
    rw [nxt, if_neg (by omega)] at qq
    rw [hz]
    exact qq
def nsB : MSs := match bnote_steps with
  | .cons (.for_ _ _ b) _ => b
  | _ => .nil
theorem ns_pre {at_ p p' bh sd : Nat} {i j : Int} {st : D} {r : Ts} {L : List D} {en : MP.Ends} {s5 s6 s7 s8 s9 s10 s11 : Option D} (hi : i = bh) (hdr : L.drop at_ = .tup [.int (p : Nat), st] :: numF r p')
    (q : wpSs (C k) (sk 2 nsB) en [some (.tup L), some (.int i), some (.int j), some (.ref sd), some (.int (at_ : Nat)), some (.int (p : Nat)), some st, some (.int (nxt r p' bh : Nat)), s8, s9, s10, s11] S) :
    wpSs (C k) nsB en [some (.tup L), some (.int i), some (.int j), some (.ref sd), some (.int (at_ : Nat)), s5, s6, s7, s8, s9, s10, s11] S := by
  obtain ⟨nx, rt, bk, ct, ex⟩ := en
  obtain ⟨hd1, hd2⟩ := drop_c hdr
  have a0 : atI L (at_ : Int) = some (.tup [.int (p : Nat), st]) := atI_nat hd1
  have hlt := (List.getElem?_eq_some_iff.mp hd1).1
  have hln : (L.drop (at_ + 1)).length = L.length - (at_ + 1) := List.length_drop ..
  rw [hd2] at hln
  conv => arg 2; unfold nsB bnote_steps
  dsimp only
  refine s_cons (s_asg ?_)
  walk_at "mp"
  simp only [asg, asgs]
  dsimp only [List.set]
  walk_at "mp"
  rcases numF_head r p' with ⟨hc, y, tl, h⟩ | ⟨hc, h⟩
  · rw [h] at hd2 hln
    rw [List.length_cons] at hln
    refine d_t (by omega) ?_
    have hd3 := (drop_c hd2).1
    have a1 : atI L ((at_ : Int) + 1) = some (.tup [.int (p' : Nat), y]) := atI_nat (j := at_ + 1) hd3
    rw [nxt, if_pos hc] at q
    refine e_ix (e_ix (e_var rfl (e_bin (e_var rfl (e_int (b_add (x_tup a1 (e_int (x_tup (atI_nat (j := 0) rfl) ?_)))))))))
    exact q
  · rw [h, List.length_nil] at hln
    refine d_f (by omega) (e_var rfl ?_)
    rw [nxt, if_neg (by omega)] at q
    rw [hi] at q ⊢
    exact q
def NsS (k n : Nat) : Prop := ∀ (ts : Ts) (p bh fn : Nat) (i j : Int) (sd : Nat) (kvs : List (Key × D)) (S : Sto) (Q : KD) (E : Ex → Sto → Prop), i = bh → j = fn → okS n ts → nod ts ≤ 1000 → S[sd]? = some (.dk false kvs) → kvs.length + cnt ts ≤ 1000 →
    (∀ S', Ch [sd] S S' → S'[sd]? = some (.dk false (putAll kvs (wr ts bh fn p))) → Q .non S') → C k fnote_steps [.tup (numF ts p), .int i, .int j, .ref sd] S Q E
section
variable {n sd bh fn : Nat} {i j : Int} {rt : KD} {nx : MP.Env → Sto → Prop} {ex : Ex → MP.Env → Sto → Prop} {L : List D}
theorem ns_loop (hk : 1 ≤ k) (hn : n ≤ 10) (ih : ∀ m, n = m + 1 → NsS k m) (hi : i = bh) (hj : j = fn) :
    ∀ (ts : Ts) (p at_ : Nat) (kvs : List (Key × D)) (S : Sto) (s4 s5 s6 s7 s8 s9 s10 s11 : Option D), okS n ts → nod ts ≤ 1000 → L.drop at_ = numF ts p → S[sd]? = some (.dk false kvs) → kvs.length + cnt ts ≤ 1000 →
    (∀ S' s4 s5 s6 s7 s8 s9 s10 s11, Ch [sd] S S' → S'[sd]? = some (.dk false (putAll kvs (wr ts bh fn p))) → nx [some (.tup L), some (.int i), some (.int j), some (.ref sd), s4, s5, s6, s7, s8, s9, s10, s11] S') →
    wpFor [] (forB (C k) (.nm 4) nsB rt nx ex) nx (rgs at_ (numF ts p).length) [some (.tup L), some (.int i), some (.int j), some (.ref sd), s4, s5, s6, s7, s8, s9, s10, s11] S
  | .nil, p, at_, kvs, S, s4, s5, s6, s7, s8, s9, s10, s11, ok, hz, hdr, gs, hks, q => for_n gd_nil (q S _ _ _ _ _ _ _ _ Ch.refl gs)
  | .cons x r, p, at_, kvs, S, s4, s5, s6, s7, s8, s9, s10, s11, ok, hz, hdr, gs, hks, q => by
    have okx : okT n x := by cases n <;> exact ok.1
    have okr : okS n r := by cases n <;> exact ok.2
    have h1 := flatT_pos x
    rw [nod_cons] at hz
    have hcn : cnt (.cons x r) = cntT x + cnt r := rfl
    rw [hcn] at hks
    have szk : 0 < cntT x → kvs.length < sizeLine := fun h => by rw [sizeLine_eq]; omega
    have rest : ∀ (st : D) (S1 : Sto) (kvs' : List (Key × D)) (s4 s5 s6 s7 s8 s9 s10 s11 : Option D), L.drop at_ = st :: numF r (p + cntT x) → Ch [sd] S S1 → S1[sd]? = some (.dk false kvs') → kvs'.length ≤ kvs.length + cntT x →
        putAll kvs' (wr r bh fn (p + cntT x)) = putAll kvs (wr (.cons x r) bh fn p) →
        wpFor [] (forB (C k) (.nm 4) nsB rt nx ex) nx (rgs (at_ + 1) (numF r (p + cntT x)).length) [some (.tup L), some (.int i), some (.int j), some (.ref sd), s4, s5, s6, s7, s8, s9, s10, s11] S1 := fun st S1 kvs' s4 s5 s6 s7 s8 s9 s10 s11 hd e1 gs1 l1 w1 =>
      ns_loop hk hn ih hi hj r (p + cntT x) (at_ + 1) kvs' S1 _ _ _ _ _ _ _ _ okr (by omega) (drop_c hd).2 gs1 (by omega) fun S2 s4 s5 s6 s7 s8 s9 s10 s11 e2 g2 => q S2 _ _ _ _ _ _ _ _ (e1.trans e2) (by rw [g2, w1])
    cases x with
    | mark y =>
      exact ns_loop hk hn ih hi hj r p at_ kvs S _ _ _ _ _ _ _ _ okr (by omega) hdr gs (by omega) q
    | leaf w e u =>
      have h' : LeafOk w e u := by cases n <;> exact okx
      obtain ⟨n1, n2, n3, n4, _, _, lw, _, _⟩ := h'
      have b0 : atI (D.str w :: e) 0 = some (D.str w) := at_head
      have hdr' : L.drop at_ = .tup [.int (p : Nat), .tup (.str w :: e)] :: numF r (p + 1) := hdr
      rw [show (numF (.cons (.leaf w e u) r) p).length = (numF r (p + 1)).length + 1 from rfl, rgs_c]
      refine for_c gd_nil ?_
      dsimp only [List.set]
      refine ns_pre hi hdr' ?_
      conv => arg 2; unfold nsB bnote_steps sk sk sk
      have fin_ : ∀ (st : D) (s4 s5 s6 s7 s8 s9 s10 s11 : Option D), st = leafStep w e (nxt r (p + 1) bh) fn → wpSet (.ref sd) (.int (p : Nat)) st S fun S4 => wpFor [] (forB (C k) (.nm 4) nsB rt nx ex) nx (rgs (at_ + 1) (numF r (p + 1)).length) [some (.tup L), some (.int i), some (.int j), some (.ref sd), s4, s5, s6, s7, s8, s9, s10, s11] S4 := fun st s4 s5 s6 s7 s8 s9 s10 s11 hst =>
        set_dk' gs rfl (szk (by simp [cntT])) fun S2 e2 g2 => rest _ S2 _ _ _ _ _ _ _ _ _ hdr' e2 g2 (by have := dPut_len kvs (.inl (p : Nat)) st; simpa [cntT] using this) (by rw [hst]; simp [wr, cntT, putAll])
      walk_at "st"
      by_cases hs : w = "stop"
      · refine d_t hs ?_
        walk_at "st"
        exact fin_ _ _ _ _ _ _ _ _ _ (by rw [leafStep, if_pos hs, hj])
      · refine d_f hs ?_
        walk_at "st"
        obtain ⟨k, rfl⟩ := up hk
        refine cstep_at ?_
        unfold bstep_at
        walk_at "st"
        by_cases hs2 : w = "skip"
        · refine d_t hs2 ?_
          walk_at "st"
          exact fin_ _ _ _ _ _ _ _ _ _ (by rw [leafStep, if_neg hs, if_pos hs2])
        · refine d_f hs2 ?_
          walk_at "st"
          refine b_addt (by rw [sizeLine_eq, List.length_cons, List.length_singleton]; omega) ?_
          walk_at "st"
          exact fin_ _ _ _ _ _ _ _ _ _ (by rw [leafStep, if_neg hs, if_neg hs2])
    | whl t c =>
      obtain ⟨m, hm, okc⟩ := okT_inn okx c (by simp [innS])
      have hlc := inn_le (x := .whl t c) (b := c) (by simp [innS])
      have hct : cntT (.whl t c) = 1 + cnt c := rfl
      have hdr' : L.drop at_ = .tup [.int (p : Nat), .tup [.str "while", eD t, .tup (numF c (p + 1))]] :: numF r (p + cntT (.whl t c)) := hdr
      rw [show (numF (.cons (.whl t c) r) p).length = (numF r (p + cntT (.whl t c))).length + 1 from rfl, rgs_c]
      refine for_c gd_nil ?_
      dsimp only [List.set]
      refine ns_pre hi hdr' ?_
      conv => arg 2; unfold nsB bnote_steps sk sk sk
      walk_at "st"
      refine fst_ok (by omega) (n := m) okc rfl rfl rfl ?_
      walk_at "st"
      refine set_dk' gs rfl (szk (by omega)) fun S2 e2 g2 => ?_
      walk_at "st"
      have dl := dPut_len kvs (.inl (p : Nat)) (.tup [.str "if", eD t, .int (nxt c (p + 1) p : Nat), .int (nxt r (p + cntT (.whl t c)) bh : Nat)])
      generalize hK2 : dPut kvs (.inl ((p : Nat) : Int)) (.tup [.str "if", eD t, .int (nxt c (p + 1) p : Nat), .int (nxt r (p + cntT (.whl t c)) bh : Nat)]) = K2 at dl g2
      refine ih m hm c (p + 1) p fn _ _ sd K2 _ _ _ rfl hj okc (by omega) g2 (by omega) fun S3 e3 g3 => ?_
      have l3 := putAll_len K2 (wr c p fn (p + 1))
      have l4 := wr_len c p fn (p + 1)
      walk_at "st"
      refine rest _ S3 _ _ _ _ _ _ _ _ _ hdr' (e2.trans e3) g3 (by omega) ?_
      rw [← hK2]
      simp [wr, cntT, putAll]
    | loop c =>
      obtain ⟨m, hm, okc⟩ := okT_inn okx c (by simp [innS])
      have hlc := inn_le (x := .loop c) (b := c) (by simp [innS])
      have hct : cntT (.loop c) = 1 + cnt c := rfl
      have hdr' : L.drop at_ = .tup [.int (p : Nat), .tup [.str "loop", .tup (numF c (p + 1))]] :: numF r (p + cntT (.loop c)) := hdr
      rw [show (numF (.cons (.loop c) r) p).length = (numF r (p + cntT (.loop c))).length + 1 from rfl, rgs_c]
      refine for_c gd_nil ?_
      dsimp only [List.set]
      refine ns_pre hi hdr' ?_
      conv => arg 2; unfold nsB bnote_steps sk sk sk
      walk_at "st"
      refine fst_ok (by omega) (n := m) okc rfl rfl rfl ?_
      walk_at "st"
      refine set_dk' gs rfl (szk (by omega)) fun S2 e2 g2 => ?_
      walk_at "st"
      have dl := dPut_len kvs (.inl (p : Nat)) (.tup [.str "go", .int (nxt c (p + 1) p : Nat)])
      generalize hK2 : dPut kvs (.inl ((p : Nat) : Int)) (.tup [.str "go", .int (nxt c (p + 1) p : Nat)]) = K2 at dl g2
      refine ih m hm c (p + 1) p fn _ _ sd K2 _ _ _ rfl hj okc (by omega) g2 (by omega) fun S3 e3 g3 => ?_
      have l3 := putAll_len K2 (wr c p fn (p + 1))
      have l4 := wr_len c p fn (p + 1)
      walk_at "st"
      refine rest _ S3 _ _ _ _ _ _ _ _ _ hdr' (e2.trans e3) g3 (by omega) ?_
      rw [← hK2]
      simp [wr, cntT, putAll]
    | iff t c1 c2 =>
      obtain ⟨m, hm, okc⟩ := okT_inn okx c1 (by simp [innS])
      obtain ⟨m', hm', okd⟩ := okT_inn okx c2 (by simp [innS])
      obtain rfl : m' = m := by omega
      have hct : cntT (.iff t c1 c2) = 1 + cnt c1 + cnt c2 := rfl
      have hft : (flatT (.iff t c1 c2)).length = 1 + nod c1 + nod c2 := by simp [flatT, nod]; omega
      have hdr' : L.drop at_ = .tup [.int (p : Nat), .tup [.str "if", eD t, .tup (numF c1 (p + 1)), .tup (numF c2 (p + 1 + cnt c1))]] :: numF r (p + cntT (.iff t c1 c2)) := hdr
      rw [show (numF (.cons (.iff t c1 c2) r) p).length = (numF r (p + cntT (.iff t c1 c2))).length + 1 from rfl, rgs_c]
      refine for_c gd_nil ?_
      dsimp only [List.set]
      refine ns_pre hi hdr' ?_
      conv => arg 2; unfold nsB bnote_steps sk sk sk
      walk_at "st"
      simp only [asg, asgs]
      dsimp only [List.set]
      walk_at "st"
      refine fst_ok (by omega) (n := m') okc rfl rfl rfl ?_
      walk_at "st"
      refine fst_ok (by omega) (n := m') okd rfl rfl rfl ?_
      walk_at "st"
      refine set_dk' gs rfl (szk (by omega)) fun S2 e2 g2 => ?_
      walk_at "st"
      have dl := dPut_len kvs (.inl (p : Nat)) (.tup [.str "if", eD t, .int (nxt c1 (p + 1) (nxt r (p + cntT (.iff t c1 c2)) bh) : Nat), .int (nxt c2 (p + 1 + cnt c1) (nxt r (p + cntT (.iff t c1 c2)) bh) : Nat)])
      generalize hK2 : dPut kvs (.inl ((p : Nat) : Int)) (.tup [.str "if", eD t, .int (nxt c1 (p + 1) (nxt r (p + cntT (.iff t c1 c2)) bh) : Nat), .int (nxt c2 (p + 1 + cnt c1) (nxt r (p + cntT (.iff t c1 c2)) bh) : Nat)]) = K2 at dl g2
      refine ih m' hm c1 (p + 1) _ fn _ _ sd K2 _ _ _ rfl hj okc (by omega) g2 (by omega) fun S3 e3 g3 => ?_
      have l3 := putAll_len K2 (wr c1 (nxt r (p + cntT (.iff t c1 c2)) bh) fn (p + 1))
      have l4 := wr_len c1 (nxt r (p + cntT (.iff t c1 c2)) bh) fn (p + 1)
      generalize hK4 : putAll K2 (wr c1 (nxt r (p + cntT (.iff t c1 c2)) bh) fn (p + 1)) = K4 at g3 l3
      walk_at "st"
      refine ih m' hm c2 (p + 1 + cnt c1) _ fn _ _ sd K4 _ _ _ rfl hj okd (by omega) g3 (by omega) fun S4 e4 g4 => ?_
      have l7 := putAll_len K4 (wr c2 (nxt r (p + cntT (.iff t c1 c2)) bh) fn (p + 1 + cnt c1))
      have l8 := wr_len c2 (nxt r (p + cntT (.iff t c1 c2)) bh) fn (p + 1 + cnt c1)
      walk_at "st"
      refine rest _ S4 _ _ _ _ _ _ _ _ _ hdr' ((e2.trans e3).trans e4) g4 (by omega) ?_
      rw [← hK4, ← hK2]
      simp [wr, cntT, putAll]
end
theorem ns_step {n : Nat} (hk : 1 ≤ k) (hn : n ≤ 10) (ih : ∀ m, n = m + 1 → NsS k m) : NsS (k + 1) n := by
  intro ts p bh fn i j sd kvs S Q E hi hj ok hz gs hks q
  refine cnote_steps ?_
  unfold bnote_steps
  walk_at "mp"
  have le := tsD_len ts
  have le2 := numF_len ts p
  refine ⟨rg_ok (by omega), ?_⟩
  rw [rgD_rgs]
  refine ns_loop hk hn ih hi hj ts p 0 kvs S none none none none none none none none ok hz rfl gs hks fun S1 s4 s5 s6 s7 s8 s9 s10 s11 e1 g1 => ?_
  walk_at "mp"
  exact q S1 e1 g1
theorem ns_ok : ∀ (n : Nat) {k : Nat}, n ≤ 10 → n + 2 ≤ k → NsS k n
  | 0, k, hn, hk => by
    obtain ⟨k, rfl⟩ := up (n := 1) (by omega : 1 ≤ k)
    exact ns_step (by omega) hn fun m hm => by cases hm
  | n + 1, k, hn, hk => by
    obtain ⟨k, rfl⟩ := up (n := 1) (by omega : 1 ≤ k)
    refine ns_step (by omega) hn fun m hm => ?_
    cases hm
    exact ns_ok n (by omega) (by omega)
end
end K17
/-! K17K: law k17, dicts that are written; steps told. -/
namespace K17
open PySem PySem.Spec PyProof.Rows L2 MP
local macro_rules | `(tactic| walk_at "look") => `(tactic| first | assumption | exact g_last | (with_reducible apply g_set; walk_at "look") | ((with_reducible refine g_setn ?h1 ?h2); (case h1 => first | assumption | omega | (apply Ne.symm; assumption)); (case h2 => walk_at "look")) | ((with_reducible refine g_app ?_); walk_at "look") | ((with_reducible refine' Fr.get ?h1 ?h2 ?h3); (case h1 => assumption); (case h2 => first | assumption | omega | (apply Ne.symm; assumption)); (case h3 => walk_at "look")) | ((with_reducible refine' Ch.get ?h1 ?h2 ?h3); (case h1 => assumption); (case h2 => first | assumption | (simp; done) | (simp only [List.mem_cons, List.not_mem_nil, or_false, not_or]; omega)); (case h3 => walk_at "look")))
local macro_rules | `(tactic| walk_at "kn") => `(tactic| first | assumption | omega | (simp; done) | decide)
local macro_rules | `(tactic| walk_at "sz") => `(tactic| first | assumption | (rw [sizeLine_eq]; first | omega | (simp; done) | (simp; omega)))
local macro_rules | `(tactic| walk_at "at") => `(tactic| first | exact rfl | assumption)
local macro_rules | `(tactic| walk_at "mp1") => `(tactic| first
  | with_reducible refine s_cons ?_ | with_reducible refine s_nil ?_ | with_reducible refine s_nm ?_ | with_reducible refine s_ix ?_ | with_reducible refine s_asg ?_ | with_reducible refine s_ex ?_ | with_reducible refine s_iff ?_ | with_reducible refine s_ret ?_ | with_reducible refine s_for ?_
  | ((with_reducible refine' e_var ?h1 ?_); (case h1 => exact rfl)) | with_reducible refine e_int ?_ | with_reducible refine e_bin ?_ | with_reducible refine e_cmp ?_ | with_reducible refine e_ix ?_ | with_reducible refine e_call ?_ | with_reducible refine e_blt ?_ | with_reducible refine e_bl ?_ | with_reducible refine e_and ?_ | with_reducible refine e_or ?_ | with_reducible refine e_not ?_ | with_reducible refine e_ite ?_
  | with_reducible refine es_cons ?_ | with_reducible refine es_nil ?_ | with_reducible refine e_tup ?_ | with_reducible refine e_lst ?_ | with_reducible refine e_meth ?_ | with_reducible refine e_comp ?_ | with_reducible refine e_sl ?_ | with_reducible refine e_neg ?_ | with_reducible refine e_isi ?_ | with_reducible refine e_lrg ?_ | with_reducible refine e_non ?_ | with_reducible refine e_str ?_ | with_reducible refine e_fnv ?_ | with_reducible refine e_orl ?_ | with_reducible refine e_dnew ?_ | with_reducible refine e_dget ?_ | with_reducible refine e_dget2 ?_
  | with_reducible refine o_no ?_ | with_reducible refine o_so ?_ | with_reducible refine i_rng ?_ | with_reducible refine i_seq ?_ | with_reducible refine i_enum ?_ | with_reducible refine if_nil ?_ | with_reducible refine if_cons ?_ | with_reducible refine rg_1 ?_ | with_reducible refine rg_2 ?_
  | with_reducible refine b_add ?_ | with_reducible refine b_sub ?_ | ((with_reducible refine' b_mul ?h1 ?_); (case h1 => first | assumption | mul_fits)) | ((with_reducible refine' b_fdiv ?h1 ?h2 ?_); (case h1 => walk_at "kn"); (case h2 => first | assumption | decide)) | ((with_reducible refine' b_mod ?h1 ?_); (case h1 => walk_at "kn")) | ((with_reducible refine' b_pow ?h1 ?_); (case h1 => first | assumption | exact ⟨by decide, by decide, by decide⟩)) | ((with_reducible refine' b_shr ?h1 ?_); (case h1 => walk_at "kn")) | ((with_reducible refine' b_shl ?h1 ?_); (case h1 => assumption)) | with_reducible refine b_and ?_ | with_reducible refine b_or ?_ | with_reducible refine b_xor ?_
  | with_reducible refine c_lt ?_ | with_reducible refine c_le ?_ | with_reducible refine c_gt ?_ | with_reducible refine c_ge ?_ | with_reducible refine c_eqi ?_ | with_reducible refine c_nei ?_ | with_reducible refine c_eqb ?_ | with_reducible refine c_neb ?_ | with_reducible refine c_eqs ?_ | with_reducible refine c_nes ?_
  | with_reducible refine t_bl ?_ | with_reducible refine t_int ?_ | with_reducible refine t_tup ?_ | with_reducible refine t_non ?_
  | ((with_reducible refine' x_ref ?h1 ?h2 ?_); (case h1 => walk_at "look"); (case h2 => walk_at "at")) | ((with_reducible refine' x_tup ?h1 ?_); (case h1 => walk_at "at")) | ((with_reducible refine' x_klst ?h1 ?_); (case h1 => walk_at "at"))
  | ((with_reducible refine' set_ref ?h1 ?h2 ?_); (case h1 => walk_at "look"); (case h2 => walk_at "at"))
  | ((with_reducible refine' f_lenr ?h1 ?_); (case h1 => walk_at "look")) | with_reducible refine f_lent ?_ | with_reducible refine f_lenk ?_ | with_reducible refine f_int ?_ | ((with_reducible refine' f_listr ?h1 ?_); (case h1 => walk_at "look")) | with_reducible refine f_listt ?_ | with_reducible refine f_listk ?_ | ((with_reducible refine' f_tupr ?h1 ?_); (case h1 => walk_at "look")) | with_reducible refine f_tupt ?_ | with_reducible refine f_max ?_ | with_reducible refine f_min ?_
  | with_reducible refine sl_klst ?_ | ((with_reducible refine' sl_ref ?h1 ?_); (case h1 => walk_at "look")) | with_reducible refine sl_tup ?_
  | ((with_reducible refine' m_app ?h1 ?h2 ?_); (case h1 => walk_at "look"); (case h2 => walk_at "sz")) | ((with_reducible refine' m_ext ?h1 ?h2 ?h3 ?_); (case h1 => walk_at "look"); (case h2 => walk_at "look"); (case h3 => walk_at "sz")) | ((with_reducible refine' m_extT ?h1 ?h3 ?_); (case h1 => walk_at "look"); (case h3 => walk_at "sz"))
  | with_reducible refine k_t ?_ | with_reducible refine k_f ?_ | with_reducible refine k_nt ?_ | with_reducible refine k_nf ?_
  | ((with_reducible refine' d_t ?h1 ?_); (case h1 => first | assumption | omega)) | ((with_reducible refine' d_f ?h1 ?_); (case h1 => first | assumption | omega)) | ((with_reducible refine' d_nt ?h1 ?_); (case h1 => first | assumption | omega)) | ((with_reducible refine' d_nf ?h1 ?_); (case h1 => first | assumption | omega))
  | ((with_reducible refine' And.intro (r_lst ?h1 ?h2) ?_); (case h1 => decide); (case h2 => walk_at "look")) | (with_reducible refine And.intro r_int ?_)
  | ((with_reducible refine And.intro ?h1 ?_); (case h1 => (with_reducible show List.length _ ≤ sizeLine); walk_at "sz"))
  | dsimp only
  | dsimp only [isTy_int, isTy_bl, isTy_str, isTy_non, isTy_tup])
local macro_rules | `(tactic| walk_at "mp") => `(tactic| repeat walk_at "mp1")

local macro_rules | `(tactic| walk_at "st") => `(tactic| repeat first | walk_at "mp1" | ((with_reducible refine' d_t ?h1 ?_); (case h1 => decide +kernel)) | ((with_reducible refine' d_f ?h1 ?_); (case h1 => decide +kernel)) | ((with_reducible refine' d_nt ?h1 ?_); (case h1 => decide +kernel)) | ((with_reducible refine' d_nf ?h1 ?_); (case h1 => decide +kernel)) | with_reducible refine s_cnt ?_)
/-! ### dicts -/
theorem keys_put (kvs : List (Key × D)) (k : Key) (v : D) : (k ∈ kvs.map (·.1) ∧ (dPut kvs k v).map (·.1) = kvs.map (·.1)) ∨ (k ∉ kvs.map (·.1) ∧ (dPut kvs k v).map (·.1) = kvs.map (·.1) ++ [k]) := by
  unfold dPut
  by_cases h : k ∈ kvs.map (·.1)
  · left
    refine ⟨h, ?_⟩
    rw [if_pos, List.map_map]
    · apply List.map_congr_left
      intro kv _
      show (if kv.1 = k then (kv.1, v) else kv).1 = kv.1
      split <;> rfl
    · rw [List.any_eq_true]
      obtain ⟨kv, h1, h2⟩ := List.mem_map.mp h
      exact ⟨kv, h1, by simpa using h2⟩
  · right
    refine ⟨h, ?_⟩
    rw [if_neg, List.map_append]
    · rfl
    · rw [List.any_eq_true]
      rintro ⟨kv, h1, h2⟩
      exact h (List.mem_map.mpr ⟨kv, h1, by simpa using h2⟩)
theorem key_put {kvs : List (Key × D)} {k k' : Key} {v : D} (h : k' ∈ kvs.map (·.1) ∨ k' = k) : k' ∈ (dPut kvs k v).map (·.1) := by
  rcases keys_put kvs k v with ⟨h1, h2⟩ | ⟨h1, h2⟩
  · rw [h2]
    rcases h with h | rfl
    · exact h
    · exact h1
  · rw [h2, List.mem_append, List.mem_singleton]
    exact h
theorem nodup_put {kvs : List (Key × D)} (k : Key) (v : D) (h : (kvs.map (·.1)).Nodup) : ((dPut kvs k v).map (·.1)).Nodup := by
  rcases keys_put kvs k v with ⟨h1, h2⟩ | ⟨h1, h2⟩
  · rw [h2]; exact h
  · rw [h2, List.nodup_append]
    refine ⟨h, by simp, fun a ha b hb e => ?_⟩
    rw [List.mem_singleton] at hb
    subst hb
    exact h1 (e ▸ ha)
theorem mem_put {kvs : List (Key × D)} {k : Key} {v : D} {kv : Key × D} (h : kv ∈ dPut kvs k v) : kv ∈ kvs ∨ kv = (k, v) := by
  unfold dPut at h
  split at h
  · obtain ⟨x, h1, h2⟩ := List.mem_map.mp h
    split at h2
    · rename_i hx
      right
      rw [← h2, hx]
    · left
      rw [← h2]
      exact h1
  · rw [List.mem_append, List.mem_singleton] at h
    exact h
theorem nodup_all : ∀ {ws kvs : List (Key × D)}, (kvs.map (·.1)).Nodup → ((putAll kvs ws).map (·.1)).Nodup
  | [], kvs, h => h
  | w :: r, kvs, h => nodup_all (ws := r) (nodup_put w.1 w.2 h)
theorem mem_all : ∀ {ws kvs : List (Key × D)} {kv : Key × D}, kv ∈ putAll kvs ws → kv ∈ kvs ∨ kv ∈ ws
  | [], kvs, kv, h => .inl h
  | w :: r, kvs, kv, h => by
    rcases mem_all (ws := r) h with h | h
    · rcases mem_put h with h | rfl
      · exact .inl h
      · exact .inr List.mem_cons_self
    · exact .inr (List.mem_cons_of_mem _ h)
theorem key_keep : ∀ {ws kvs : List (Key × D)} {k : Key}, k ∈ kvs.map (·.1) → k ∈ (putAll kvs ws).map (·.1)
  | [], kvs, k, h => h
  | w :: r, kvs, k, h => key_keep (ws := r) (key_put (.inl h))
theorem key_all : ∀ {ws kvs : List (Key × D)} {k : Key}, k ∈ ws.map (·.1) → k ∈ (putAll kvs ws).map (·.1)
  | w :: r, kvs, k, h => by
    rw [List.map_cons, List.mem_cons] at h
    rcases h with rfl | h
    · exact key_keep (ws := r) (key_put (.inr rfl))
    · exact key_all (ws := r) h
theorem dGet_of {kvs : List (Key × D)} {k : Key} (h : k ∈ kvs.map (·.1)) : ∃ v, dGet kvs k = some v ∧ (k, v) ∈ kvs := by
  unfold dGet
  cases hf : kvs.find? fun kv => decide (kv.1 = k) with
  | none =>
    rw [List.find?_eq_none] at hf
    obtain ⟨kv, h1, h2⟩ := List.mem_map.mp h
    exact absurd (by simpa using h2) (hf kv h1)
  | some kv =>
    have h1 := List.find?_some hf
    have h2 := List.mem_of_find?_eq_some hf
    refine ⟨kv.2, rfl, ?_⟩
    have : kv.1 = k := by simpa using h1
    rw [← this]
    exact h2
/-! ### what is written -/
theorem nxt_le {ts : Ts} {p bh F : Nat} (h1 : bh ≤ F) (h2 : p + cnt ts ≤ F) : nxt ts p bh ≤ F := by
  unfold nxt
  split <;> omega
theorem wr_key : ∀ (ts : Ts) (bh fn p i : Nat), p ≤ i → i < p + cnt ts → (.inl (i : Nat) : Key) ∈ (wr ts bh fn p).map (·.1)
  | .nil, bh, fn, p, i, h1, h2 => by simp [cnt] at h2; omega
  | .cons x r, bh, fn, p, i, h1, h2 => by
    cases x with
    | mark y => exact wr_key r bh fn p i h1 (by simpa [cnt, cntT] using h2)
    | leaf w q e =>
      simp only [wr, List.map_cons, List.mem_cons]
      simp only [cnt, cntT] at h2
      rcases Nat.lt_or_ge p i with h | h
      · exact .inr (wr_key r _ fn (p + 1) i (by omega) (by omega))
      · left; congr 2; omega
    | whl t b =>
      simp only [wr, List.map_cons, List.mem_cons, List.map_append, List.mem_append]
      simp only [cnt, cntT] at h2
      rcases Nat.lt_or_ge p i with h | h
      · right
        rcases Nat.lt_or_ge i (p + 1 + cnt b) with h3 | h3
        · exact .inl (wr_key b _ fn (p + 1) i (by omega) (by omega))
        · exact .inr (wr_key r _ fn _ i (by omega) (by omega))
      · left; congr 2; omega
    | loop b =>
      simp only [wr, List.map_cons, List.mem_cons, List.map_append, List.mem_append]
      simp only [cnt, cntT] at h2
      rcases Nat.lt_or_ge p i with h | h
      · right
        rcases Nat.lt_or_ge i (p + 1 + cnt b) with h3 | h3
        · exact .inl (wr_key b _ fn (p + 1) i (by omega) (by omega))
        · exact .inr (wr_key r _ fn _ i (by omega) (by omega))
      · left; congr 2; omega
    | iff t a b =>
      simp only [wr, List.map_cons, List.mem_cons, List.map_append, List.mem_append]
      simp only [cnt, cntT] at h2
      rcases Nat.lt_or_ge p i with h | h
      · right
        rcases Nat.lt_or_ge i (p + 1 + cnt a) with h3 | h3
        · exact .inl (.inl (wr_key a _ fn (p + 1) i (by omega) (by omega)))
        · rcases Nat.lt_or_ge i (p + 1 + cnt a + cnt b) with h4 | h4
          · exact .inl (.inr (wr_key b _ fn _ i (by omega) (by omega)))
          · exact .inr (wr_key r _ fn _ i (by omega) (by omega))
      · left; congr 2; omega
def StV (F : Nat) (v : D) : Prop := ∃ (xs : List D) (i : Nat), v = .tup (xs ++ [.int (i : Nat)]) ∧ i ≤ F ∧ ∀ x ∈ xs, puD 6 x = true
theorem StV.pu {F : Nat} {v : D} (h : StV F v) : puD 40 v = true := by
  obtain ⟨xs, i, rfl, _, hx⟩ := h
  rw [puD_tup]
  intro x hm
  rcases List.mem_append.mp hm with hm | hm
  · exact puD_mono (by decide) (hx x hm)
  · rw [List.mem_singleton.mp hm]; exact puD_int
theorem stv_leaf {w : Str} {q : List D} {e : EX} {F after fn : Nat} (ok : LeafOk w q e) (h1 : after ≤ F) (h2 : fn ≤ F) : StV F (leafStep w q after fn) := by
  unfold leafStep
  split
  · exact ⟨[.str "go"], fn, rfl, h2, by intro x hx; rw [List.mem_singleton.mp hx]; exact puD_str (by decide +kernel)⟩
  · split
    · exact ⟨[.str "go"], after, rfl, h1, by intro x hx; rw [List.mem_singleton.mp hx]; exact puD_str (by decide +kernel)⟩
    · refine ⟨.str w :: q, after, rfl, h1, ?_⟩
      intro x hx
      rcases List.mem_cons.mp hx with rfl | hx
      · exact puD_str ok.so
      · exact ok.pu x hx
theorem stv_if {t : EX} {a b F : Nat} (ok : okE 4 t) (h : b ≤ F) : StV F (.tup [.str "if", eD t, .int (a : Nat), .int (b : Nat)]) := by
  refine ⟨[.str "if", eD t, .int (a : Nat)], b, rfl, h, ?_⟩
  intro x hx
  simp only [List.mem_cons, List.not_mem_nil, or_false] at hx
  rcases hx with rfl | rfl | rfl
  · exact puD_str (by decide +kernel)
  · exact puD_mono (by decide) (okE_pu ok)
  · exact puD_int
theorem stv_go {b F : Nat} (h : b ≤ F) : StV F (.tup [.str "go", .int (b : Nat)]) :=
  ⟨[.str "go"], b, rfl, h, by intro x hx; rw [List.mem_singleton.mp hx]; exact puD_str (by decide +kernel)⟩
theorem wr_val : ∀ (ts : Ts) (n bh fn p F : Nat), okS n ts → bh ≤ F → fn ≤ F → p + cnt ts ≤ F → ∀ kv ∈ wr ts bh fn p, StV F kv.2
  | .nil, n, bh, fn, p, F, ok, h1, h2, h3, kv, h => by cases h
  | .cons x r, n, bh, fn, p, F, ok, h1, h2, h3, kv, h => by
    have okx : okT n x := by cases n <;> exact ok.1
    have okr : okS n r := by cases n <;> exact ok.2
    cases x with
    | mark y => exact wr_val r n bh fn p F okr h1 h2 (by simpa [cnt, cntT] using h3) kv h
    | leaf w q e =>
      have h' : LeafOk w q e := by cases n <;> exact okx
      simp only [wr, List.mem_cons] at h
      simp only [cnt, cntT] at h3
      rcases h with rfl | h
      · exact stv_leaf h' (nxt_le h1 (by omega)) h2
      · exact wr_val r n bh fn _ F okr h1 h2 (by omega) kv h
    | whl t b =>
      obtain ⟨m, rfl, okb⟩ := okT_inn okx b (by simp [innS])
      simp only [wr, List.mem_cons, List.mem_append] at h
      simp only [cnt, cntT] at h3
      rcases h with rfl | h | h
      · exact stv_if okx.1 (nxt_le h1 (by omega))
      · exact wr_val b m p fn _ F okb (by omega) h2 (by omega) kv h
      · exact wr_val r (m + 1) bh fn _ F okr h1 h2 (by omega) kv h
    | loop b =>
      obtain ⟨m, rfl, okb⟩ := okT_inn okx b (by simp [innS])
      simp only [wr, List.mem_cons, List.mem_append] at h
      simp only [cnt, cntT] at h3
      rcases h with rfl | h | h
      · exact stv_go (nxt_le (by omega) (by omega))
      · exact wr_val b m p fn _ F okb (by omega) h2 (by omega) kv h
      · exact wr_val r (m + 1) bh fn _ F okr h1 h2 (by omega) kv h
    | iff t a b =>
      obtain ⟨m, rfl, oka⟩ := okT_inn okx a (by simp [innS])
      obtain ⟨m', hm, okb⟩ := okT_inn okx b (by simp [innS])
      obtain rfl : m' = m := by omega
      simp only [wr, List.mem_cons, List.mem_append] at h
      simp only [cnt, cntT] at h3
      have hn : nxt r (p + (1 + cnt a + cnt b)) bh ≤ F := nxt_le h1 (by omega)
      rcases h with rfl | (h | h) | h
      · exact stv_if okx.1 (nxt_le hn (by omega))
      · exact wr_val a m' _ fn _ F oka hn h2 (by omega) kv h
      · exact wr_val b m' _ fn _ F okb hn h2 (by omega) kv h
      · exact wr_val r (m' + 1) bh fn _ F okr h1 h2 (by omega) kv h
theorem mk_val : ∀ (ts : Ts) (bh p F : Nat), bh ≤ F → p + cnt ts ≤ F → ∀ kv ∈ mk ts bh p, ∃ i : Nat, kv.2 = .int (i : Nat) ∧ i ≤ F
  | .nil, bh, p, F, h1, h3, kv, h => by cases h
  | .cons x r, bh, p, F, h1, h3, kv, h => by
    cases x with
    | mark y =>
      simp only [mk, List.mem_cons] at h
      simp only [cnt, cntT] at h3
      rcases h with rfl | h
      · exact ⟨_, rfl, nxt_le h1 (by omega)⟩
      · exact mk_val r bh p F h1 (by omega) kv h
    | leaf w q e =>
      simp only [cnt, cntT] at h3
      exact mk_val r bh _ F h1 (by omega) kv h
    | whl t b =>
      simp only [mk, List.mem_append] at h
      simp only [cnt, cntT] at h3
      rcases h with h | h
      · exact mk_val b p _ F (by omega) (by omega) kv h
      · exact mk_val r bh _ F h1 (by omega) kv h
    | loop b =>
      simp only [mk, List.mem_append] at h
      simp only [cnt, cntT] at h3
      rcases h with h | h
      · exact mk_val b p _ F (by omega) (by omega) kv h
      · exact mk_val r bh _ F h1 (by omega) kv h
    | iff t a b =>
      simp only [mk, List.mem_append] at h
      simp only [cnt, cntT] at h3
      have hn : nxt r (p + (1 + cnt a + cnt b)) bh ≤ F := nxt_le h1 (by omega)
      rcases h with (h | h) | h
      · exact mk_val a _ _ F hn (by omega) kv h
      · exact mk_val b _ _ F hn (by omega) kv h
      · exact mk_val r bh _ F h1 (by omega) kv h
/-! ### statements are data -/
mutual
theorem tD_pu : ∀ (x : T) (n : Nat), okT n x → puD (2 * n + 8) (tD x) = true
  | .mark y, n, ok => by
    have h' : PyData.strOk y = true := by cases n <;> exact ok
    exact pu2 (puD_str (by decide +kernel)) (puD_str h')
  | .leaf w q e, n, ok => by
    have h' : LeafOk w q e := by cases n <;> exact ok
    unfold tD
    refine puD_mono (by omega : 7 ≤ 2 * n + 8) ?_
    rw [puD_tup]
    intro x hx
    rcases List.mem_cons.mp hx with rfl | hx
    · exact puD_str h'.so
    · exact h'.pu x hx
  | .whl t b, 0, ok => ok.elim
  | .whl t b, n + 1, ok => by
    have hb := tsD_pu b n ok.2
    have : puD (2 * n + 10) (tD (.whl t b)) = true := pu3 (puD_str (by decide +kernel)) (puD_mono (by omega) (okE_pu ok.1)) (by rw [puD_tup]; exact hb)
    exact this
  | .loop b, 0, ok => ok.elim
  | .loop b, n + 1, ok => by
    have hb := tsD_pu b n ok
    have : puD (2 * n + 10) (tD (.loop b)) = true := pu2 (puD_str (by decide +kernel)) (by rw [puD_tup]; exact hb)
    exact this
  | .iff t a b, 0, ok => ok.elim
  | .iff t a b, n + 1, ok => by
    have ha := tsD_pu a n ok.2.1
    have hb := tsD_pu b n ok.2.2
    have : puD (2 * n + 10) (tD (.iff t a b)) = true := by
      unfold tD
      rw [puD_tup]
      intro x hx
      simp only [List.mem_cons, List.not_mem_nil, or_false] at hx
      rcases hx with rfl | rfl | rfl | rfl
      · exact puD_str (by decide +kernel)
      · exact puD_mono (by omega) (okE_pu ok.1)
      · rw [puD_tup]; exact ha
      · rw [puD_tup]; exact hb
    exact this
theorem tsD_pu : ∀ (b : Ts) (n : Nat), okS n b → ∀ d ∈ tsD b, puD (2 * n + 8) d = true
  | .nil, n, ok, d, h => by cases h
  | .cons x r, n, ok, d, h => by
    have okx : okT n x := by cases n <;> exact ok.1
    have okr : okS n r := by cases n <;> exact ok.2
    rw [tsD, List.mem_cons] at h
    rcases h with rfl | h
    · exact tD_pu x n okx
    · exact tsD_pu r n okr d h
end
mutual
theorem flatT_mem : ∀ (x : T) (n : Nat), okT n x → ∀ d ∈ flatT x, ∃ y m, d = tD y ∧ m ≤ n ∧ okT m y
  | .mark y, n, ok, d, h => by rw [flatT, List.mem_singleton] at h; exact ⟨_, n, h, Nat.le_refl _, ok⟩
  | .leaf w r e, n, ok, d, h => by rw [flatT, List.mem_singleton] at h; exact ⟨_, n, h, Nat.le_refl _, ok⟩
  | .whl t b, 0, ok, d, h => ok.elim
  | .whl t b, n + 1, ok, d, h => by
    rw [flatT, List.mem_cons] at h
    rcases h with h | h
    · exact ⟨_, n + 1, h, Nat.le_refl _, ok⟩
    · obtain ⟨y, m, h1, h2, h3⟩ := flat_mem b n ok.2 d h; exact ⟨y, m, h1, by omega, h3⟩
  | .loop b, 0, ok, d, h => ok.elim
  | .loop b, n + 1, ok, d, h => by
    rw [flatT, List.mem_cons] at h
    rcases h with h | h
    · exact ⟨_, n + 1, h, Nat.le_refl _, ok⟩
    · obtain ⟨y, m, h1, h2, h3⟩ := flat_mem b n ok d h; exact ⟨y, m, h1, by omega, h3⟩
  | .iff t a b, 0, ok, d, h => ok.elim
  | .iff t a b, n + 1, ok, d, h => by
    rw [flatT, List.mem_cons, List.mem_append] at h
    rcases h with h | h | h
    · exact ⟨_, n + 1, h, Nat.le_refl _, ok⟩
    · obtain ⟨y, m, h1, h2, h3⟩ := flat_mem a n ok.2.1 d h; exact ⟨y, m, h1, by omega, h3⟩
    · obtain ⟨y, m, h1, h2, h3⟩ := flat_mem b n ok.2.2 d h; exact ⟨y, m, h1, by omega, h3⟩
theorem flat_mem : ∀ (b : Ts) (n : Nat), okS n b → ∀ d ∈ flat b, ∃ y m, d = tD y ∧ m ≤ n ∧ okT m y
  | .nil, n, ok, d, h => by cases h
  | .cons x r, n, ok, d, h => by
    have okx : okT n x := by cases n <;> exact ok.1
    have okr : okS n r := by cases n <;> exact ok.2
    rw [flat, List.mem_append] at h
    rcases h with h | h
    · exact flatT_mem x n okx d h
    · exact flat_mem r n okr d h
end
theorem flat_pu {n : Nat} {b : Ts} (hn : n ≤ 10) (ok : okS n b) : ∀ d ∈ flat b, puD 40 d = true := fun d hd => by
  obtain ⟨y, m, rfl, h2, h3⟩ := flat_mem b n ok d hd
  exact puD_mono (by omega) (tD_pu y m h3)
end K17
/-! K17L: law k17, a body is right. -/
namespace K17
open PySem PySem.Spec PyProof.Rows L2 MP
local macro_rules | `(tactic| walk_at "look") => `(tactic| first | assumption | exact g_last | (with_reducible apply g_set; walk_at "look") | ((with_reducible refine g_setn ?h1 ?h2); (case h1 => first | assumption | omega | (apply Ne.symm; assumption)); (case h2 => walk_at "look")) | ((with_reducible refine g_app ?_); walk_at "look") | ((with_reducible refine' Fr.get ?h1 ?h2 ?h3); (case h1 => assumption); (case h2 => first | assumption | omega | (apply Ne.symm; assumption)); (case h3 => walk_at "look")) | ((with_reducible refine' Ch.get ?h1 ?h2 ?h3); (case h1 => assumption); (case h2 => first | assumption | (simp; done) | (simp only [List.mem_cons, List.not_mem_nil, or_false, not_or]; omega)); (case h3 => walk_at "look")))
local macro_rules | `(tactic| walk_at "kn") => `(tactic| first | assumption | omega | (simp; done) | decide)
local macro_rules | `(tactic| walk_at "sz") => `(tactic| first | assumption | (rw [sizeLine_eq]; first | omega | (simp; done) | (simp; omega)))
local macro_rules | `(tactic| walk_at "at") => `(tactic| first | exact rfl | assumption)
local macro_rules | `(tactic| walk_at "mp1") => `(tactic| first
  | with_reducible refine s_cons ?_ | with_reducible refine s_nil ?_ | with_reducible refine s_nm ?_ | with_reducible refine s_ix ?_ | with_reducible refine s_asg ?_ | with_reducible refine s_ex ?_ | with_reducible refine s_iff ?_ | with_reducible refine s_ret ?_ | with_reducible refine s_for ?_
  | ((with_reducible refine' e_var ?h1 ?_); (case h1 => exact rfl)) | with_reducible refine e_int ?_ | with_reducible refine e_bin ?_ | with_reducible refine e_cmp ?_ | with_reducible refine e_ix ?_ | with_reducible refine e_call ?_ | with_reducible refine e_blt ?_ | with_reducible refine e_bl ?_ | with_reducible refine e_and ?_ | with_reducible refine e_or ?_ | with_reducible refine e_not ?_ | with_reducible refine e_ite ?_
  | with_reducible refine es_cons ?_ | with_reducible refine es_nil ?_ | with_reducible refine e_tup ?_ | with_reducible refine e_lst ?_ | with_reducible refine e_meth ?_ | with_reducible refine e_comp ?_ | with_reducible refine e_sl ?_ | with_reducible refine e_neg ?_ | with_reducible refine e_isi ?_ | with_reducible refine e_lrg ?_ | with_reducible refine e_non ?_ | with_reducible refine e_str ?_ | with_reducible refine e_fnv ?_ | with_reducible refine e_orl ?_ | with_reducible refine e_dnew ?_ | with_reducible refine e_dget ?_ | with_reducible refine e_dget2 ?_
  | with_reducible refine o_no ?_ | with_reducible refine o_so ?_ | with_reducible refine i_rng ?_ | with_reducible refine i_seq ?_ | with_reducible refine i_enum ?_ | with_reducible refine if_nil ?_ | with_reducible refine if_cons ?_ | with_reducible refine rg_1 ?_ | with_reducible refine rg_2 ?_
  | with_reducible refine b_add ?_ | with_reducible refine b_sub ?_ | ((with_reducible refine' b_mul ?h1 ?_); (case h1 => first | assumption | mul_fits)) | ((with_reducible refine' b_fdiv ?h1 ?h2 ?_); (case h1 => walk_at "kn"); (case h2 => first | assumption | decide)) | ((with_reducible refine' b_mod ?h1 ?_); (case h1 => walk_at "kn")) | ((with_reducible refine' b_pow ?h1 ?_); (case h1 => first | assumption | exact ⟨by decide, by decide, by decide⟩)) | ((with_reducible refine' b_shr ?h1 ?_); (case h1 => walk_at "kn")) | ((with_reducible refine' b_shl ?h1 ?_); (case h1 => assumption)) | with_reducible refine b_and ?_ | with_reducible refine b_or ?_ | with_reducible refine b_xor ?_
  | with_reducible refine c_lt ?_ | with_reducible refine c_le ?_ | with_reducible refine c_gt ?_ | with_reducible refine c_ge ?_ | with_reducible refine c_eqi ?_ | with_reducible refine c_nei ?_ | with_reducible refine c_eqb ?_ | with_reducible refine c_neb ?_ | with_reducible refine c_eqs ?_ | with_reducible refine c_nes ?_
  | with_reducible refine t_bl ?_ | with_reducible refine t_int ?_ | with_reducible refine t_tup ?_ | with_reducible refine t_non ?_
  | ((with_reducible refine' x_ref ?h1 ?h2 ?_); (case h1 => walk_at "look"); (case h2 => walk_at "at")) | ((with_reducible refine' x_tup ?h1 ?_); (case h1 => walk_at "at")) | ((with_reducible refine' x_klst ?h1 ?_); (case h1 => walk_at "at"))
  | ((with_reducible refine' set_ref ?h1 ?h2 ?_); (case h1 => walk_at "look"); (case h2 => walk_at "at"))
  | ((with_reducible refine' f_lenr ?h1 ?_); (case h1 => walk_at "look")) | with_reducible refine f_lent ?_ | with_reducible refine f_lenk ?_ | with_reducible refine f_int ?_ | ((with_reducible refine' f_listr ?h1 ?_); (case h1 => walk_at "look")) | with_reducible refine f_listt ?_ | with_reducible refine f_listk ?_ | ((with_reducible refine' f_tupr ?h1 ?_); (case h1 => walk_at "look")) | with_reducible refine f_tupt ?_ | with_reducible refine f_max ?_ | with_reducible refine f_min ?_
  | with_reducible refine sl_klst ?_ | ((with_reducible refine' sl_ref ?h1 ?_); (case h1 => walk_at "look")) | with_reducible refine sl_tup ?_
  | ((with_reducible refine' m_app ?h1 ?h2 ?_); (case h1 => walk_at "look"); (case h2 => walk_at "sz")) | ((with_reducible refine' m_ext ?h1 ?h2 ?h3 ?_); (case h1 => walk_at "look"); (case h2 => walk_at "look"); (case h3 => walk_at "sz")) | ((with_reducible refine' m_extT ?h1 ?h3 ?_); (case h1 => walk_at "look"); (case h3 => walk_at "sz"))
  | with_reducible refine k_t ?_ | with_reducible refine k_f ?_ | with_reducible refine k_nt ?_ | with_reducible refine k_nf ?_
  | ((with_reducible refine' d_t ?h1 ?_); (case h1 => first | assumption | omega)) | ((with_reducible refine' d_f ?h1 ?_); (case h1 => first | assumption | omega)) | ((with_reducible refine' d_nt ?h1 ?_); (case h1 => first | assumption | omega)) | ((with_reducible refine' d_nf ?h1 ?_); (case h1 => first | assumption | omega))
  | ((with_reducible refine' And.intro (r_lst ?h1 ?h2) ?_); (case h1 => decide); (case h2 => walk_at "look")) | (with_reducible refine And.intro r_int ?_)
  | ((with_reducible refine And.intro ?h1 ?_); (case h1 => (with_reducible show List.length _ ≤ sizeLine); walk_at "sz"))
  | dsimp only
  | dsimp only [isTy_int, isTy_bl, isTy_str, isTy_non, isTy_tup])
local macro_rules | `(tactic| walk_at "mp") => `(tactic| repeat walk_at "mp1")

local macro_rules | `(tactic| walk_at "st") => `(tactic| repeat first | walk_at "mp1" | ((with_reducible refine' d_t ?h1 ?_); (case h1 => decide +kernel)) | ((with_reducible refine' d_f ?h1 ?_); (case h1 => decide +kernel)) | ((with_reducible refine' d_nt ?h1 ?_); (case h1 => decide +kernel)) | ((with_reducible refine' d_nf ?h1 ?_); (case h1 => decide +kernel)) | with_reducible refine s_cnt ?_)
section
variable {k : Nat} {S : Sto} {Q : KD} {E : Ex → Sto → Prop}
/-- the steps, one by one -/
def stpL (b : Ts) : List D := (List.range (cnt b)).map fun i => (dGet (putAll [] (wr b (cnt b) (cnt b) 0)) (.inl (i : Nat))).getD .non
theorem stp_get {b : Ts} {i : Nat} (h : i < cnt b) : ∃ v, dGet (putAll [] (wr b (cnt b) (cnt b) 0)) (.inl (i : Nat)) = some v ∧ ((.inl (i : Nat) : Key), v) ∈ putAll [] (wr b (cnt b) (cnt b) 0) :=
  dGet_of (key_all (wr_key b _ _ 0 i (Nat.zero_le _) (by omega)))
theorem stp_val {n : Nat} {b : Ts} (ok : okS n b) : ∀ v ∈ stpL b, StV (cnt b) v := by
  intro v hv
  obtain ⟨i, hi, rfl⟩ := List.mem_map.mp hv
  obtain ⟨w, h1, h2⟩ := stp_get (b := b) (List.mem_range.mp hi)
  rw [h1]
  rcases mem_all h2 with h | h
  · cases h
  · exact wr_val b n _ _ 0 _ ok (Nat.le_refl _) (Nat.le_refl _) (by omega) _ h
theorem stp_comp {j : Nat} {σ : MP.Env} {vs : List Nat} {d sd : Nat} {b : Ts} {R : List D → Sto → Prop} (hz : cnt b ≤ 1000) (hj : j < (wipeE σ vs).length) (hd : ∀ v, ((wipeE σ vs).set j (some v))[d]? = some (some (.ref sd))) (g : S[sd]? = some (.dk false (putAll [] (wr b (cnt b) (cnt b) 0)))) (q : R (stpL b) S) :
    wpComp [] (cmpB (C k) vs (.nm j) .nil (.ix (.var d) (.var j)) σ) (rgD 0 (cnt b : Nat)) S R := by
  rw [rgD_map]
  refine comp_map (fun i : Nat => D.int (i : Nat)) (fun i => (dGet (putAll [] (wr b (cnt b) (cnt b) 0)) (.inl (i : Nat))).getD .non) gd_nil (fun i hi K h => ?_) q
  obtain ⟨v, h1, h2⟩ := stp_get (b := b) (List.mem_range.mp hi)
  rw [h1] at h
  refine cmp_nm (if_nil ?_)
  refine k_t (e_ix (e_var (hd _) (e_var (List.getElem?_set_self hj) ?_)))
  exact x_dk g rfl h1 h
theorem steps_of_ok {n : Nat} (hn : n ≤ 10) (hk : n + 6 ≤ k) {b : Ts} (ok : okS n b) (hl : nod b ≤ 1000) (q : RetV S (.tup (stpL b)) Q) : C k fsteps_of [bD b] S Q E := by
  obtain ⟨k, rfl⟩ := up (n := 1) (by omega : 1 ≤ k)
  have hc : cnt b ≤ 1000 := Nat.le_trans (cnt_nod b) hl
  refine csteps_of ?_
  unfold bsteps_of
  walk_at "mp"
  refine steps_ok (n := n) (by omega) ok hl fun S1 e1 => ?_
  walk_at "mp"
  refine num_ok (n := n) (by omega) ok hl fun S2 e2 => ?_
  walk_at "mp"
  refine ns_ok n hn (by omega) b 0 (cnt b) (cnt b) _ _ S1.length [] _ _ _ rfl rfl ok hl (e2.get (by simp) g_last) (by simpa using hc) fun S3 e3 g3 => ?_
  walk_at "mp"
  refine ⟨rg_ok (by omega), ⟨by rw [sizeLine_eq, rgD_len]; omega, ?_⟩⟩
  refine stp_comp hc (by show 3 < 4; decide) (fun v => rfl) g3 ?_
  walk_at "mp"
  exact q _ (ch_drop (e1.app.trans e2) e3 e1.le).app
theorem isp_ok {i e : Int} (hk : 1 ≤ k) (h1 : 0 ≤ i) (h2 : i ≤ e) (q : Q (.bl true) S) : C k f_law_is_place [.int i, .int e] S Q E := by
  obtain ⟨k, rfl⟩ := up hk
  refine c_law_is_place ?_
  unfold b_law_is_place
  walk_at "mp"
  unfold wpE
  walk_at "mp"
  rw [decide_eq_true h1]
  dsimp only
  walk_at "mp"
  rw [decide_eq_true h2]
  exact q
theorem bls_rep {α : Type} : ∀ xs : List α, blsOf (xs.map fun _ => D.bl true) = some (xs.map fun _ => true)
  | [] => rfl
  | x :: r => by
    show (blsOf (r.map fun _ => D.bl true)).map (true :: ·) = _
    rw [bls_rep r]
    rfl
theorem all_rep {α : Type} (xs : List α) : (xs.map fun _ => true).all id = true := by simp
theorem comp_all {gs : List (Nat × List D)} {body : D → Sto → (Option D → Sto → Prop) → Prop} : ∀ {xs : List D} {S : Sto} {R : List D → Sto → Prop}, (∀ S', Ch [] S S' → Gd gs S') →
    (∀ x ∈ xs, ∀ (S' : Sto) (K : Option D → Sto → Prop), Ch [] S S' → (∀ S2, Ch [] S' S2 → K (some (.bl true)) S2) → body x S' K) → (∀ ys S', Ch [] S S' → (∀ y ∈ ys, y = .bl true) → R ys S') → wpComp gs body xs S R
  | [], S, R, hg, hs, q => ⟨hg S Ch.refl, q [] S Ch.refl (by simp)⟩
  | x :: r, S, R, hg, hs, q => by
    refine ⟨hg S Ch.refl, hs x List.mem_cons_self S _ Ch.refl fun S2 e2 => ?_⟩
    refine comp_all (fun S' e => hg S' (e2.trans e)) (fun y hy S' K e h => hs y (List.mem_cons_of_mem _ hy) S' K (e2.trans e) h) fun ys S' e h => ?_
    refine q _ S' (e2.trans e) fun y hy => ?_
    rcases List.mem_cons.mp hy with rfl | hy
    · rfl
    · exact h y hy
theorem bls_all : ∀ {xs : List D}, (∀ y ∈ xs, y = .bl true) → ∃ bs, blsOf xs = some bs ∧ bs.all id = true
  | [], _ => ⟨[], rfl, rfl⟩
  | x :: r, h => by
    obtain ⟨bs, h1, h2⟩ := bls_all (xs := r) fun y hy => h y (List.mem_cons_of_mem _ hy)
    rw [h x List.mem_cons_self]
    refine ⟨true :: bs, ?_, by simpa using h2⟩
    show (blsOf r).map (true :: ·) = _
    rw [h1]
    rfl
theorem key_of (k : Key) : keyOf (keyD k) = some k := by cases k <;> rfl
theorem right_ok {n : Nat} (hn : n ≤ 10) (hk : n + 8 ≤ k) {b : Ts} (ok : okS n b) (hl : nod b ≤ 1000) (q : ∀ S', Ch [] S S' → Q (.bl true) S') : C k f_law_right [bD b] S Q E := by
  obtain ⟨k, rfl⟩ := up (n := 1) (by omega : 1 ≤ k)
  have hc : cnt b ≤ 1000 := Nat.le_trans (cnt_nod b) hl
  have hl' : (flat b).length ≤ 1000 := hl
  refine c_law_right ?_
  unfold b_law_right
  walk_at "mp"
  refine lf_ok n (by omega) b _ _ _ ok hl fun r S1 e1 hr g1 => ?_
  walk_at "mp"
  rw [l_of g1]
  refine ⟨by rw [sizeLine_eq]; omega, ?_⟩
  refine comp_filt nmk (gd_one g1) (fun x hx K h => nmk_body (flat_headed b x hx) (by show 8 < 12; decide) h) ?_
  walk_at "mp"
  rw [filt_len b n ok]
  refine el_ok n (by omega) b 0 0 _ _ _ rfl ok hl fun a S2 es e2 ha ga en => ?_
  have e12 : Ch [] S S2 := (e1.app (l := [.lst ((flat b).filter nmk)])).trans e2
  have g2 : S2[r]? = some (.lst (flat b)) := e2.get (by simp) (g_app g1)
  walk_at "mp"
  have gs4 : (S2 ++ [O.dk false []] ++ [O.dk false []] ++ [O.lst []])[S2.length]? = some (O.dk false []) := g_app (g_app g_last)
  have gm4 : (S2 ++ [O.dk false []] ++ [O.dk false []] ++ [O.lst []])[(S2 ++ [O.dk false []]).length]? = some (O.dk false []) := g_app g_last
  refine ln_ok n (by omega) b 0 (cnt b) (cnt b) _ es [] a _ S2.length (S2 ++ [O.dk false []]).length _ [] [] _ _ _ rfl ok (by simpa using hl) (en.keep (Nat.le_refl _) (Kp.c0 (Ch.refl.app.app.app))) (g_app (g_app (g_app ga))) g_last (fun d hd => by cases hd) rfl gs4 gm4 (by simp) (by simpa using hc) (by simpa using hl) fun S5 e5 gs5 gm5 => ?_
  have sd_ne : ∀ i o, S2[i]? = some o → i ∉ [S2.length, (S2 ++ [O.dk false []]).length] := fun i o h => by
    have := g_lt h
    simp
    omega
  have e15 : Ch [] S S5 := ⟨by have := e12.le; have := e5.le; simp at this; omega, fun i hi _ => by
    rw [e5.eq i (by have := e12.le; simp; omega) (by have := e12.le; simp; omega), List.getElem?_append_left (by have := e12.le; simp; omega), List.getElem?_append_left (by have := e12.le; simp; omega), List.getElem?_append_left (by have := e12.le; omega)]
    exact e12.eq i hi (by simp)⟩
  have g5 : S5[r]? = some (.lst (flat b)) := e5.get (sd_ne _ _ g2) (g_app (g_app (g_app g2)))
  have ga5 : S5[a]? = some (.lst es) := e5.get (sd_ne _ _ ga) (g_app (g_app (g_app ga)))
  have en5 : Ents (S1 ++ [O.lst (List.filter nmk (flat b))]).length S5 b 0 es := by
    refine (en.keep (Nat.le_refl _) (Kp.c0 (Ch.refl.app.app.app))).keep (Nat.le_refl _) (Kp.of e5 fun x hx _ => ?_)
    simp only [List.mem_cons, List.not_mem_nil, or_false] at hx
    rcases hx with rfl | rfl
    · exact ⟨_, _, gs4⟩
    · exact ⟨_, _, gm4⟩
  have hsd : S2.length ≠ (S2 ++ [O.dk false []]).length := by simp
  have hmd : S.length ≤ (S2 ++ [O.dk false []]).length := by have := e12.le; simp; omega
  generalize S2.length = sd at gs5 hsd ⊢
  generalize (S2 ++ [O.dk false []]).length = md at gm5 hsd hmd ⊢
  clear gs4 gm4 e5 sd_ne
  walk_at "mp"
  refine steps_ok (n := n) (by omega) ok hl fun S6 e6 => ?_
  walk_at "mp"
  refine steps_ok (n := n) (by omega) ok hl fun S7 e7 => ?_
  walk_at "mp"
  refine sts_ok n (by omega) b _ _ _ ok hl fun S8 e8 => ?_
  have e58 := (e6.trans e7).trans e8
  have g8 := e58.get (by simp) g5
  walk_at "mp"
  obtain ⟨d, p1, p2, p3, p4⟩ := same_eq (flat_pu hn ok) g_last (g_app g8)
  refine c_ned p1 p2 p3 p3 ?_
  rw [p4]
  walk_at "mp"
  refine num_ok (n := n) (by omega) ok hl fun S9 e9 => ?_
  have e59 : Ch [] S5 S9 := e58.app.trans e9
  walk_at "mp"
  refine tb_ok n (by omega) b 0 _ a es _ _ _ ok hl (e59.get (by simp) ga5) (en5.keep (Nat.le_refl _) (Kp.c0 e59)) fun S10 e10 => ?_
  have e510 := e59.trans e10
  have g10 := e510.get (by simp) g5
  refine c_nsame (numT_pu hn ok) ?_
  walk_at "mp"
  rw [l_of g10]
  refine ⟨by rw [sizeLine_eq]; omega, ?_⟩
  refine comp_all (fun S' e => gd_one (e.get (by simp) g10)) (fun x hx S' K e h => ?_) fun ys S11 e11 hy => ?_
  · obtain ⟨y, m, rfl, h1, h2⟩ := flat_mem b n ok x hx
    refine cmp_nm (if_nil (k_t ?_))
    walk_at "mp"
    exact right_names_ok (by omega) h2 h
  have e511 := e510.trans e11
  obtain ⟨bs, hb1, hb2⟩ := bls_all hy
  walk_at "mp"
  refine f_all g_last hb1 ?_
  rw [hb2]
  walk_at "mp"
  refine steps_of_ok hn (by omega) ok hl fun S12 e12' => ?_
  have e512 := e511.app.trans e12'
  have lst : (stpL b).length = cnt b := by unfold stpL; rw [List.length_map, List.length_range]
  walk_at "mp"
  have gs12 := e512.get (by simp) gs5
  refine ⟨rg_ok (by omega), ⟨by rw [sizeLine_eq, rgD_len]; omega, ?_⟩⟩
  refine stp_comp (d := 4) (sd := sd) hc (by show 10 < 12; decide) (fun v => rfl) (g_app gs12) ?_
  obtain ⟨d, p1, p2, p3, p4⟩ := same_eq (S := S12 ++ [O.lst (stpL b)] ++ [O.lst (stpL b)]) (fun v hv => (stp_val ok v hv).pu) (g_app g_last) g_last
  refine c_ned p1 p2 p3 p3 ?_
  rw [p4]
  walk_at "mp"
  refine comp_all (fun S' e => gd_nil) (fun x hx S' K e h => ?_) fun ys S13 e13 hy2 => ?_
  · obtain ⟨xs, i, rfl, h1, h2⟩ := stp_val ok x hx
    refine cmp_nm (if_nil (k_t ?_))
    have al := atI_last xs (D.int (i : Nat))
    walk_at "mp"
    exact isp_ok (by omega) (Int.natCast_nonneg _) (by omega) (h S' Ch.refl)
  have e513 := (e512.app.app).trans e13
  obtain ⟨bs2, hb3, hb4⟩ := bls_all hy2
  walk_at "mp"
  refine f_all g_last hb3 ?_
  rw [hb4]
  walk_at "mp"
  refine marks_ok (n := n) (by omega) ok hl fun f S14 e14 hf gf => ?_
  have gm14 := (e513.app.trans e14).get (by simp) gm5
  walk_at "mp"
  rw [isTy_dk gf]
  walk_at "mp"
  have fl : ∀ kv ∈ putAll [] (mk b (cnt b) 0), ∃ i : Nat, kv.2 = .int (i : Nat) ∧ i ≤ cnt b := fun kv hkv => by
    rcases mem_all hkv with h | h
    · cases h
    · exact mk_val b _ 0 _ (Nat.le_refl _) (by omega) kv h
  have nd : ((putAll [] (mk b (cnt b) 0)).map (·.1)).Nodup := nodup_all List.nodup_nil
  refine c_nedk gf gm14 (fun kv hkv => by obtain ⟨i, h, _⟩ := fl kv hkv; rw [h]; rfl) nd ?_
  repeat first | with_reducible refine e_orr ?_ | walk_at "mp1"
  have lmk : (putAll [] (mk b (cnt b) 0)).length ≤ 1000 := by
    have h1 := putAll_len [] (mk b (cnt b) 0)
    have h2 := mk_len b (cnt b) 0
    simp at h1
    omega
  have hfm : f ≠ md := fun h => by have := g_lt gm14; have := e14.le; have h1 := g_lt ((e513.app).get (by simp) gm5 : (S13 ++ [O.lst ys])[md]? = _); omega
  refine e_compD rfl gm14 (by rw [sizeLine_eq]; omega) ?_
  refine comp_map (fun kv : Key × D => keyD kv.1) (fun _ => D.bl true) gd_nil (fun kv hkv K h => ?_) ⟨g_set gm14, ?_⟩
  · refine cmp_nm (if_nil (k_t ?_))
    obtain ⟨v, h1, h2⟩ := dGet_of (List.mem_map.mpr ⟨kv, hkv, rfl⟩)
    obtain ⟨i, h3, h4⟩ := fl _ h2
    have h3' : v = .int (i : Nat) := h3
    subst h3'
    refine e_call (es_cons (e_ix (e_var rfl (e_var rfl (x_dk (g_setn hfm.symm gf) (key_of kv.1) h1 ?_)))))
    walk_at "mp"
    exact isp_ok (by omega) (Int.natCast_nonneg _) (by omega) h
  walk_at "mp"
  have gl : ∀ (S2 : Sto) (o p : O), (S2.set md o ++ [p])[S2.length]? = some p := fun S2 o p => by simp
  refine f_all (gl _ _ _) (bls_rep _) ?_
  rw [all_rep]
  exact q _ ((((e15.trans e513).app.trans e14).setn hmd).setn hmd).app
end
end K17
/-! K17M: law k17, behind the bodies. -/
namespace K17
open PySem PySem.Spec PyProof.Rows L2 MP
local macro_rules | `(tactic| walk_at "look") => `(tactic| first | assumption | exact g_last | (with_reducible apply g_set; walk_at "look") | ((with_reducible refine g_setn ?h1 ?h2); (case h1 => first | assumption | omega | (apply Ne.symm; assumption)); (case h2 => walk_at "look")) | ((with_reducible refine g_app ?_); walk_at "look") | ((with_reducible refine' Fr.get ?h1 ?h2 ?h3); (case h1 => assumption); (case h2 => first | assumption | omega | (apply Ne.symm; assumption)); (case h3 => walk_at "look")) | ((with_reducible refine' Ch.get ?h1 ?h2 ?h3); (case h1 => assumption); (case h2 => first | assumption | (simp; done) | (simp only [List.mem_cons, List.not_mem_nil, or_false, not_or]; omega)); (case h3 => walk_at "look")))
local macro_rules | `(tactic| walk_at "kn") => `(tactic| first | assumption | omega | (simp; done) | decide)
local macro_rules | `(tactic| walk_at "sz") => `(tactic| first | assumption | (rw [sizeLine_eq]; first | omega | (simp; done) | (simp; omega)))
local macro_rules | `(tactic| walk_at "at") => `(tactic| first | exact rfl | assumption)
local macro_rules | `(tactic| walk_at "mp1") => `(tactic| first
  | with_reducible refine s_cons ?_ | with_reducible refine s_nil ?_ | with_reducible refine s_nm ?_ | with_reducible refine s_ix ?_ | with_reducible refine s_asg ?_ | with_reducible refine s_ex ?_ | with_reducible refine s_iff ?_ | with_reducible refine s_ret ?_ | with_reducible refine s_for ?_
  | ((with_reducible refine' e_var ?h1 ?_); (case h1 => exact rfl)) | with_reducible refine e_int ?_ | with_reducible refine e_bin ?_ | with_reducible refine e_cmp ?_ | with_reducible refine e_ix ?_ | with_reducible refine e_call ?_ | with_reducible refine e_blt ?_ | with_reducible refine e_bl ?_ | with_reducible refine e_and ?_ | with_reducible refine e_or ?_ | with_reducible refine e_not ?_ | with_reducible refine e_ite ?_
  | with_reducible refine es_cons ?_ | with_reducible refine es_nil ?_ | with_reducible refine e_tup ?_ | with_reducible refine e_lst ?_ | with_reducible refine e_meth ?_ | with_reducible refine e_comp ?_ | with_reducible refine e_sl ?_ | with_reducible refine e_neg ?_ | with_reducible refine e_isi ?_ | with_reducible refine e_lrg ?_ | with_reducible refine e_non ?_ | with_reducible refine e_str ?_ | with_reducible refine e_fnv ?_ | with_reducible refine e_orl ?_ | with_reducible refine e_dnew ?_ | with_reducible refine e_dget ?_ | with_reducible refine e_dget2 ?_
  | with_reducible refine o_no ?_ | with_reducible refine o_so ?_ | with_reducible refine i_rng ?_ | with_reducible refine i_seq ?_ | with_reducible refine i_enum ?_ | with_reducible refine if_nil ?_ | with_reducible refine if_cons ?_ | with_reducible refine rg_1 ?_ | with_reducible refine rg_2 ?_
  | with_reducible refine b_add ?_ | with_reducible refine b_sub ?_ | ((with_reducible refine' b_mul ?h1 ?_); (case h1 => first | assumption | mul_fits)) | ((with_reducible refine' b_fdiv ?h1 ?h2 ?_); (case h1 => walk_at "kn"); (case h2 => first | assumption | decide)) | ((with_reducible refine' b_mod ?h1 ?_); (case h1 => walk_at "kn")) | ((with_reducible refine' b_pow ?h1 ?_); (case h1 => first | assumption | exact ⟨by decide, by decide, by decide⟩)) | ((with_reducible refine' b_shr ?h1 ?_); (case h1 => walk_at "kn")) | ((with_reducible refine' b_shl ?h1 ?_); (case h1 => assumption)) | with_reducible refine b_and ?_ | with_reducible refine b_or ?_ | with_reducible refine b_xor ?_
  | with_reducible refine c_lt ?_ | with_reducible refine c_le ?_ | with_reducible refine c_gt ?_ | with_reducible refine c_ge ?_ | with_reducible refine c_eqi ?_ | with_reducible refine c_nei ?_ | with_reducible refine c_eqb ?_ | with_reducible refine c_neb ?_ | with_reducible refine c_eqs ?_ | with_reducible refine c_nes ?_
  | with_reducible refine t_bl ?_ | with_reducible refine t_int ?_ | with_reducible refine t_tup ?_ | with_reducible refine t_non ?_
  | ((with_reducible refine' x_ref ?h1 ?h2 ?_); (case h1 => walk_at "look"); (case h2 => walk_at "at")) | ((with_reducible refine' x_tup ?h1 ?_); (case h1 => walk_at "at")) | ((with_reducible refine' x_klst ?h1 ?_); (case h1 => walk_at "at"))
  | ((with_reducible refine' set_ref ?h1 ?h2 ?_); (case h1 => walk_at "look"); (case h2 => walk_at "at"))
  | ((with_reducible refine' f_lenr ?h1 ?_); (case h1 => walk_at "look")) | with_reducible refine f_lent ?_ | with_reducible refine f_lenk ?_ | with_reducible refine f_int ?_ | ((with_reducible refine' f_listr ?h1 ?_); (case h1 => walk_at "look")) | with_reducible refine f_listt ?_ | with_reducible refine f_listk ?_ | ((with_reducible refine' f_tupr ?h1 ?_); (case h1 => walk_at "look")) | with_reducible refine f_tupt ?_ | with_reducible refine f_max ?_ | with_reducible refine f_min ?_
  | with_reducible refine sl_klst ?_ | ((with_reducible refine' sl_ref ?h1 ?_); (case h1 => walk_at "look")) | with_reducible refine sl_tup ?_
  | ((with_reducible refine' m_app ?h1 ?h2 ?_); (case h1 => walk_at "look"); (case h2 => walk_at "sz")) | ((with_reducible refine' m_ext ?h1 ?h2 ?h3 ?_); (case h1 => walk_at "look"); (case h2 => walk_at "look"); (case h3 => walk_at "sz")) | ((with_reducible refine' m_extT ?h1 ?h3 ?_); (case h1 => walk_at "look"); (case h3 => walk_at "sz"))
  | with_reducible refine k_t ?_ | with_reducible refine k_f ?_ | with_reducible refine k_nt ?_ | with_reducible refine k_nf ?_
  | ((with_reducible refine' d_t ?h1 ?_); (case h1 => first | assumption | omega)) | ((with_reducible refine' d_f ?h1 ?_); (case h1 => first | assumption | omega)) | ((with_reducible refine' d_nt ?h1 ?_); (case h1 => first | assumption | omega)) | ((with_reducible refine' d_nf ?h1 ?_); (case h1 => first | assumption | omega))
  | ((with_reducible refine' And.intro (r_lst ?h1 ?h2) ?_); (case h1 => decide); (case h2 => walk_at "look")) | (with_reducible refine And.intro r_int ?_)
  | ((with_reducible refine And.intro ?h1 ?_); (case h1 => (with_reducible show List.length _ ≤ sizeLine); walk_at "sz"))
  | dsimp only
  | dsimp only [isTy_int, isTy_bl, isTy_str, isTy_non, isTy_tup])
local macro_rules | `(tactic| walk_at "mp") => `(tactic| repeat walk_at "mp1")

section
variable {k : Nat} {S : Sto} {Q : KD} {E : Ex → Sto → Prop}
def tkB : MSs := match blaw with
  | .cons _ (.cons _ (.cons _ (.cons _ (.cons _ (.cons (.for_ _ _ b) _))))) => b
  | _ => .nil
theorem len_put {kvs : List (Key × D)} {k : Key} {v : D} (h : k ∈ kvs.map (·.1)) : (dPut kvs k v).length = kvs.length := by
  rcases keys_put kvs k v with ⟨_, h2⟩ | ⟨h1, _⟩
  · have := congrArg List.length h2
    simpa using this
  · exact absurd h h1
theorem tk_loop {t l : Nat} {s0 s1 s2 s3 : Option D} {L : List D} {rt : KD} {nx : MP.Env → Sto → Prop} {ex : Ex → MP.Env → Sto → Prop} (ne : l ≠ t) : ∀ (ks : List Key) (kvs : List (Key × D)) (S : Sto) (s5 : Option D), S[t]? = some (.dk false kvs) → S[l]? = some (.lst L) → (∀ k ∈ ks, k ∈ kvs.map (·.1)) → (∀ kv ∈ kvs, ∃ i : Int, kv.2 = .int i) → kvs.length ≤ 1000 →
    (∀ S' s5 kvs', Ch [t] S S' → S'[t]? = some (.dk false kvs') → kvs'.length ≤ 1000 → nx [s0, s1, s2, s3, some (.ref t), s5] S') → wpFor [(l, L)] (forB (C k) (.nm 5) tkB rt nx ex) nx (ks.map keyD) [s0, s1, s2, s3, some (.ref t), s5] S
  | [], kvs, S, s5, g, gl, hk, hv, hz, q => for_n (gd_one gl) (q S _ kvs Ch.refl g hz)
  | kx :: r, kvs, S, s5, g, gl, hk, hv, hz, q => by
    obtain ⟨v, h1, h2⟩ := dGet_of (hk kx List.mem_cons_self)
    obtain ⟨i, hi⟩ := hv _ h2
    have hi' : v = .int i := hi
    subst hi'
    rw [List.map_cons]
    refine for_c (gd_one gl) ?_
    conv => arg 2; unfold tkB blaw
    dsimp only [List.set]
    refine s_cons (s_ix (e_bin (e_ix (e_var rfl (e_var rfl (x_dk g (key_of kx) h1 (e_int (b_add ?_))))))))
    refine e_var rfl (e_var rfl ?_)
    refine set_dk' g (key_of kx) (by rw [sizeLine_eq]; omega) fun S1 e1 g1 => ?_
    refine s_nil ?_
    have hkx := hk kx List.mem_cons_self
    refine tk_loop ne r _ S1 _ g1 (e1.get (by simpa using ne) gl) (fun k hkr => key_put (.inl (hk k (List.mem_cons_of_mem _ hkr)))) (fun kv hkv => ?_) (by rw [len_put hkx]; exact hz) fun S2 s5 kvs' e2 g2 l2 => q S2 s5 kvs' (e1.trans e2) g2 l2
    rcases mem_put hkv with h | rfl
    · exact hv _ h
    · exact ⟨_, rfl⟩
theorem law_tail {n : Nat} (hn : n ≤ 10) (hk : n + 8 ≤ k) {b c : Ts} {s0 s1 : Option D} (okb : okS n b) (hb : nod b ≤ 1000) (okc : okS n c) (hc : nod c ≤ 1000) (q : ∀ S', Q (.bl true) S') :
    wpSs (C k) (sk 3 blaw) (eG Q E) [s0, s1, some (bD b), some (bD c), none, none] S := by
  unfold blaw sk sk sk sk eG
  walk_at "mp"
  refine right_ok hn hk okb hb fun S1 e1 => ?_
  walk_at "mp"
  refine marks_ok (n := n) (by omega) okb hb fun t S2 e2 ht gt => ?_
  refine s_cons (s_for (i_seq (e_keysOf (e_var rfl ?_))))
  dsimp only
  rw [gt]
  dsimp only
  rw [l_of (g_last (S := S2) (o := .lst ((putAll [] (mk b (cnt b) 0)).map fun kv => keyD kv.1)))]
  dsimp only
  have lmk : (putAll [] (mk b (cnt b) 0)).length ≤ 1000 := by
    have h1 := putAll_len [] (mk b (cnt b) 0)
    have h2 := mk_len b (cnt b) 0
    simp at h1
    omega
  have ltt := g_lt gt
  have e : ((putAll [] (mk b (cnt b) 0)).map fun kv => keyD kv.1) = ((putAll [] (mk b (cnt b) 0)).map (·.1)).map keyD := by rw [List.map_map]; rfl
  rw [e]
  refine tk_loop (by omega) _ _ _ _ (g_app gt) g_last (fun k h => h) (fun kv hkv => ?_) lmk fun S3 s5 kvs' e3 g3 l3 => ?_
  · rcases mem_all hkv with h | h
    · cases h
    · obtain ⟨i, h1, _⟩ := mk_val b _ 0 _ (Nat.le_refl _) (Nat.le_of_eq (Nat.zero_add _)) kv h
      exact ⟨_, h1⟩
  walk_at "mp"
  refine set_dk' g3 rfl (by rw [sizeLine_eq]; omega) fun S4 e4 g4 => ?_
  walk_at "mp"
  refine right_ok hn hk okc hc fun S5 e5 => ?_
  walk_at "mp"
  refine right_ok hn hk okb hb fun S6 e6 => ?_
  exact q S6
end
end K17
/-! K17N: law k17, what is drawn: sums, truths, plain steps. -/
namespace K17
open PySem PySem.Spec PyProof.Rows L2 MP
local macro_rules | `(tactic| walk_at "look") => `(tactic| first | assumption | exact g_last | (with_reducible apply g_set; walk_at "look") | ((with_reducible refine g_setn ?h1 ?h2); (case h1 => first | assumption | omega | (apply Ne.symm; assumption)); (case h2 => walk_at "look")) | ((with_reducible refine g_app ?_); walk_at "look") | ((with_reducible refine' Fr.get ?h1 ?h2 ?h3); (case h1 => assumption); (case h2 => first | assumption | omega | (apply Ne.symm; assumption)); (case h3 => walk_at "look")) | ((with_reducible refine' Ch.get ?h1 ?h2 ?h3); (case h1 => assumption); (case h2 => first | assumption | (simp; done) | (simp only [List.mem_cons, List.not_mem_nil, or_false, not_or]; omega)); (case h3 => walk_at "look")))
local macro_rules | `(tactic| walk_at "kn") => `(tactic| first | assumption | omega | (simp; done) | decide)
local macro_rules | `(tactic| walk_at "sz") => `(tactic| first | assumption | (rw [sizeLine_eq]; first | omega | (simp; done) | (simp; omega)))
local macro_rules | `(tactic| walk_at "at") => `(tactic| first | exact rfl | assumption)
local macro_rules | `(tactic| walk_at "mp1") => `(tactic| first
  | with_reducible refine s_cons ?_ | with_reducible refine s_nil ?_ | with_reducible refine s_nm ?_ | with_reducible refine s_ix ?_ | with_reducible refine s_asg ?_ | with_reducible refine s_ex ?_ | with_reducible refine s_iff ?_ | with_reducible refine s_ret ?_ | with_reducible refine s_for ?_
  | ((with_reducible refine' e_var ?h1 ?_); (case h1 => exact rfl)) | with_reducible refine e_int ?_ | with_reducible refine e_bin ?_ | with_reducible refine e_cmp ?_ | with_reducible refine e_ix ?_ | with_reducible refine e_call ?_ | with_reducible refine e_blt ?_ | with_reducible refine e_bl ?_ | with_reducible refine e_and ?_ | with_reducible refine e_or ?_ | with_reducible refine e_not ?_ | with_reducible refine e_ite ?_
  | with_reducible refine es_cons ?_ | with_reducible refine es_nil ?_ | with_reducible refine e_tup ?_ | with_reducible refine e_lst ?_ | with_reducible refine e_meth ?_ | with_reducible refine e_comp ?_ | with_reducible refine e_sl ?_ | with_reducible refine e_neg ?_ | with_reducible refine e_isi ?_ | with_reducible refine e_lrg ?_ | with_reducible refine e_non ?_ | with_reducible refine e_str ?_ | with_reducible refine e_fnv ?_ | with_reducible refine e_orl ?_ | with_reducible refine e_dnew ?_ | with_reducible refine e_dget ?_ | with_reducible refine e_dget2 ?_
  | with_reducible refine o_no ?_ | with_reducible refine o_so ?_ | with_reducible refine i_rng ?_ | with_reducible refine i_seq ?_ | with_reducible refine i_enum ?_ | with_reducible refine if_nil ?_ | with_reducible refine if_cons ?_ | with_reducible refine rg_1 ?_ | with_reducible refine rg_2 ?_
  | with_reducible refine b_add ?_ | with_reducible refine b_sub ?_ | ((with_reducible refine' b_mul ?h1 ?_); (case h1 => first | assumption | mul_fits)) | ((with_reducible refine' b_fdiv ?h1 ?h2 ?_); (case h1 => walk_at "kn"); (case h2 => first | assumption | decide)) | ((with_reducible refine' b_mod ?h1 ?_); (case h1 => walk_at "kn")) | ((with_reducible refine' b_pow ?h1 ?_); (case h1 => first | assumption | exact ⟨by decide, by decide, by decide⟩)) | ((with_reducible refine' b_shr ?h1 ?_); (case h1 => walk_at "kn")) | ((with_reducible refine' b_shl ?h1 ?_); (case h1 => assumption)) | with_reducible refine b_and ?_ | with_reducible refine b_or ?_ | with_reducible refine b_xor ?_
  | with_reducible refine c_lt ?_ | with_reducible refine c_le ?_ | with_reducible refine c_gt ?_ | with_reducible refine c_ge ?_ | with_reducible refine c_eqi ?_ | with_reducible refine c_nei ?_ | with_reducible refine c_eqb ?_ | with_reducible refine c_neb ?_ | with_reducible refine c_eqs ?_ | with_reducible refine c_nes ?_
  | with_reducible refine t_bl ?_ | with_reducible refine t_int ?_ | with_reducible refine t_tup ?_ | with_reducible refine t_non ?_
  | ((with_reducible refine' x_ref ?h1 ?h2 ?_); (case h1 => walk_at "look"); (case h2 => walk_at "at")) | ((with_reducible refine' x_tup ?h1 ?_); (case h1 => walk_at "at")) | ((with_reducible refine' x_klst ?h1 ?_); (case h1 => walk_at "at"))
  | ((with_reducible refine' set_ref ?h1 ?h2 ?_); (case h1 => walk_at "look"); (case h2 => walk_at "at"))
  | ((with_reducible refine' f_lenr ?h1 ?_); (case h1 => walk_at "look")) | with_reducible refine f_lent ?_ | with_reducible refine f_lenk ?_ | with_reducible refine f_int ?_ | ((with_reducible refine' f_listr ?h1 ?_); (case h1 => walk_at "look")) | with_reducible refine f_listt ?_ | with_reducible refine f_listk ?_ | ((with_reducible refine' f_tupr ?h1 ?_); (case h1 => walk_at "look")) | with_reducible refine f_tupt ?_ | with_reducible refine f_max ?_ | with_reducible refine f_min ?_
  | with_reducible refine sl_klst ?_ | ((with_reducible refine' sl_ref ?h1 ?_); (case h1 => walk_at "look")) | with_reducible refine sl_tup ?_
  | ((with_reducible refine' m_app ?h1 ?h2 ?_); (case h1 => walk_at "look"); (case h2 => walk_at "sz")) | ((with_reducible refine' m_ext ?h1 ?h2 ?h3 ?_); (case h1 => walk_at "look"); (case h2 => walk_at "look"); (case h3 => walk_at "sz")) | ((with_reducible refine' m_extT ?h1 ?h3 ?_); (case h1 => walk_at "look"); (case h3 => walk_at "sz"))
  | with_reducible refine k_t ?_ | with_reducible refine k_f ?_ | with_reducible refine k_nt ?_ | with_reducible refine k_nf ?_
  | ((with_reducible refine' d_t ?h1 ?_); (case h1 => first | assumption | omega)) | ((with_reducible refine' d_f ?h1 ?_); (case h1 => first | assumption | omega)) | ((with_reducible refine' d_nt ?h1 ?_); (case h1 => first | assumption | omega)) | ((with_reducible refine' d_nf ?h1 ?_); (case h1 => first | assumption | omega))
  | ((with_reducible refine' And.intro (r_lst ?h1 ?h2) ?_); (case h1 => decide); (case h2 => walk_at "look")) | (with_reducible refine And.intro r_int ?_)
  | ((with_reducible refine And.intro ?h1 ?_); (case h1 => (with_reducible show List.length _ ≤ sizeLine); walk_at "sz"))
  | dsimp only
  | dsimp only [isTy_int, isTy_bl, isTy_str, isTy_non, isTy_tup])
local macro_rules | `(tactic| walk_at "mp") => `(tactic| repeat walk_at "mp1")

section
variable {k a b : Nat} {S : Sto} {Q : KD} {E : Ex → Sto → Prop}
theorem pick_is {row : D} {xs : List D} (hk : 2 ≤ k) (ds : DS S a b) (h0 : 0 < xs.length) (hl : xs.length < 2 ^ 64) (hr : row = .tup xs ∨ ∃ r, row = .ref r ∧ r ≠ a ∧ S[r]? = some (.lst xs))
    (q : ∀ (x : D) (S' : Sto), x ∈ xs → DS S' a b → Fr a S S' → S'.length = S.length → Q x S') : C k f_law_pick [.ref a, row] S Q E := by
  obtain ⟨k, rfl⟩ := up hk
  exact c_law_pick (pick_ok (draw_is (by omega)) ds h0 hl hr q)
theorem shuf_is {row : D} {xs : List D} (hk : 2 ≤ k) (ds : DS S a b) (hl : xs.length < 100000) (hr : row = .tup xs ∨ ∃ r, row = .ref r ∧ r ≠ a ∧ S[r]? = some (.lst xs))
    (q : ∀ (ys : List D) (p : Nat) (S' : Sto), ys.Perm xs → DS S' a b → Fr a S S' → S.length ≤ p → S'[p]? = some (.lst ys) → Q (.ref p) S') : C k f_law_shuffled [.ref a, row] S Q E := by
  obtain ⟨k, rfl⟩ := up hk
  exact c_law_shuffled (shuf_ok (hC _) (draw_is (by omega)) ds hl hr q)
/-- names that may be drawn -/
structure Nms (S : Sto) (r : Nat) (a : Nat) (l : List D) : Prop where
  ne : r ≠ a
  g : S[r]? = some (.lst l)
  st : Strs l
  len : l.length ≤ 100
theorem Nms.next {r : Nat} {l : List D} {S' : Sto} (h : Nms S r a l) (f : Fr a S S') : Nms S' r a l := ⟨h.ne, f.get h.ne h.g, h.st, h.len⟩
theorem mem_cut {xs : List D} {l h : Option Int} {x : D} (hx : x ∈ MP.cutD xs l h) : x ∈ xs := by
  unfold MP.cutD at hx
  exact List.mem_of_mem_drop (List.mem_of_mem_take hx)
theorem cut_le {xs : List D} {l h : Option Int} : (MP.cutD xs l h).length ≤ xs.length := by
  unfold MP.cutD
  rw [List.length_take, List.length_drop]
  omega
theorem some_is {r : Nat} {l : List D} (hk : 3 ≤ k) (ds : DS S a b) (hn : Nms S r a l) (q : ∀ p l' S', Nms S' p a l' → DS S' a b → Fr a S S' → Q (.ref p) S') : C k f_law_some [.ref a, .ref r] S Q E := by
  obtain ⟨k, rfl⟩ := up (n := 1) (by omega : 1 ≤ k)
  have la := ds.lta
  have ll := hn.len
  refine c_law_some ?_
  unfold b_law_some
  walk_at "mp"
  refine shuf_is (by omega) ds (by omega) (.inr ⟨r, rfl, hn.ne, hn.g⟩) fun ys p S1 pm ds1 fr1 hp gp => ?_
  walk_at "mp"
  refine draw_is (by omega) a b _ _ _ _ ds1 (by decide) fun v S2 v0 v1 ds2 fr2 len2 => ?_
  have gp2 := fr2.get (by omega) gp
  have lS := fr1.le
  walk_at "mp"
  refine q _ _ _ ⟨by omega, g_last, fun x hx => hn.st x (pm.subset (mem_cut hx)), ?_⟩ ds2.app ((fr1.trans fr2).appn)
  have := cut_le (xs := ys) (l := none) (h := some (1 + v))
  rw [pm.length_eq] at this
  omega
def opsN : List D := [.str "+", .str "-", .str "*"]
theorem opsN_ok : ∀ x ∈ opsN, ∃ s : Str, x = .str s ∧ PyData.strOk s = true ∧ s ≠ "name" := by
  intro x hx
  simp only [opsN, List.mem_cons, List.not_mem_nil, or_false] at hx
  rcases hx with rfl | rfl | rfl <;> exact ⟨_, rfl, by decide +kernel, by decide +kernel⟩
def opsT : List D := [.str "=", .str "!=", .str "<", .str "<=", .str ">", .str ">="]
theorem opsT_ok : ∀ x ∈ opsT, ∃ s : Str, x = .str s ∧ PyData.strOk s = true ∧ s ≠ "name" := by
  intro x hx
  simp only [opsT, List.mem_cons, List.not_mem_nil, or_false] at hx
  rcases hx with rfl | rfl | rfl | rfl | rfl | rfl <;> exact ⟨_, rfl, by decide +kernel, by decide +kernel⟩
def numsN : List D := [.int 0, .int 1, .int 2, .int 3, .int 7, .int 99]
theorem numsN_ok : ∀ x ∈ numsN, ∃ i : Int, x = .int i := by
  intro x hx
  simp only [numsN, List.mem_cons, List.not_mem_nil, or_false] at hx
  rcases hx with rfl | rfl | rfl | rfl | rfl | rfl <;> exact ⟨_, rfl⟩
def su2 : MSs := sk 2 b_law_sum_of
set_option maxHeartbeats 4000000 in
theorem sum_end {k r : Nat} {l : List D} {dp w : Int} {s4 s5 : Option D} (hk : 2 ≤ k) (ds : DS S a b) (hn : Nms S r a l) (q : ∀ e S', okE 0 e → DS S' a b → Fr a S S' → Q (eD e) S') :
    wpSs (C k) su2 (eG Q E) [some (.ref a), some (.ref r), some (.int dp), some (.int w), s4, s5] S := by
  have hg := hn.g
  unfold su2 b_law_sum_of sk sk sk eG
  walk_at "mp"
  refine d_2 (fun h => ?_) fun h => ?_
  · walk_at "mp"
    refine pick_is (xs := numsN) (by omega) ds (by decide) (by decide) (.inl rfl) fun x S2 hx ds2 fr2 len2 => ?_
    obtain ⟨i, rfl⟩ := numsN_ok x hx
    walk_at "mp"
    exact q (.num i) S2 trivial ds2 fr2
  · walk_at "mp"
    refine d_2 (fun h => ?_) fun h => ?_
    · walk_at "mp"
      refine pick_is (xs := numsN) (by omega) ds (by decide) (by decide) (.inl rfl) fun x S2 hx ds2 fr2 len2 => ?_
      obtain ⟨i, rfl⟩ := numsN_ok x hx
      walk_at "mp"
      exact q (.num i) S2 trivial ds2 fr2
    · walk_at "mp"
      refine pick_is (by omega) ds (by omega) (by have := hn.len; omega) (.inr ⟨r, rfl, hn.ne, hg⟩) fun x S2 hx ds2 fr2 len2 => ?_
      obtain ⟨s, rfl, hs⟩ := hn.st x hx
      walk_at "mp"
      exact q (.nm s) S2 hs ds2 fr2
set_option maxHeartbeats 4000000 in
theorem sum_ok : ∀ (dp k r : Nat) (l : List D) (S : Sto) (Q : KD) (E : Ex → Sto → Prop), dp + 3 ≤ k → DS S a b → Nms S r a l → (∀ e S', okE dp e → DS S' a b → Fr a S S' → Q (eD e) S') → C k f_law_sum_of [.ref a, .ref r, .int (dp : Nat)] S Q E := by
  intro dp
  induction dp with
  | zero =>
    intro k r l S Q E hk ds hn q
    obtain ⟨k, rfl⟩ := up (n := 1) (by omega : 1 ≤ k)
    refine c_law_sum_of ?_
    show wpSs (C k) (.cons (match b_law_sum_of with | .cons s _ => s | _ => .pas) (.cons (match sk 1 b_law_sum_of with | .cons s _ => s | _ => .pas) su2)) ⟨_, _, _, _, _⟩ _ _
    unfold b_law_sum_of
    dsimp only [sk]
    walk_at "mp"
    refine draw_is (by omega) a b _ _ _ _ ds (by decide) fun w S1 r0 r1 ds1 fr1 len1 => ?_
    walk_at "mp"
    exact sum_end (by omega) ds1 (hn.next fr1) fun e S2 ok ds2 fr2 => q e S2 ok ds2 (fr1.trans fr2)
  | succ dp ih =>
    intro k r l S Q E hk ds hn q
    obtain ⟨k, rfl⟩ := up (n := 1) (by omega : 1 ≤ k)
    have ed : ((dp + 1 : Nat) : Int) - 1 = (dp : Nat) := by omega
    refine c_law_sum_of ?_
    show wpSs (C k) (.cons (match b_law_sum_of with | .cons s _ => s | _ => .pas) (.cons (match sk 1 b_law_sum_of with | .cons s _ => s | _ => .pas) su2)) ⟨_, _, _, _, _⟩ _ _
    unfold b_law_sum_of
    dsimp only [sk]
    walk_at "mp"
    refine draw_is (by omega) a b _ _ _ _ ds (by decide) fun w S1 r0 r1 ds1 fr1 len1 => ?_
    have hn1 := hn.next fr1
    walk_at "mp"
    refine d_2 (fun hw => ?_) fun hw => ?_
    · walk_at "mp"
      refine pick_is (xs := opsN) (by omega) ds1 (by decide) (by decide) (.inl rfl) fun x S2 hx ds2 fr2 len2 => ?_
      obtain ⟨o, rfl, ho⟩ := opsN_ok x hx
      walk_at "mp"
      rw [ed]
      refine ih k r l S2 _ _ (by omega) ds2 (hn1.next fr2) fun e S3 ok3 ds3 fr3 => ?_
      walk_at "mp"
      rw [ed]
      refine ih k r l S3 _ _ (by omega) ds3 ((hn1.next fr2).next fr3) fun e' S4 ok4 ds4 fr4 => ?_
      walk_at "mp"
      exact q (.bin o e e') S4 ⟨ho, ok3, ok4⟩ ds4 (((fr1.trans fr2).trans fr3).trans fr4)
    · walk_at "mp"
      exact sum_end (by omega) ds1 hn1 fun e S2 ok ds2 fr2 => q e S2 (okE_mono (Nat.zero_le _) ok) ds2 (fr1.trans fr2)
def tr3 : MSs := sk 3 b_law_truth_of
set_option maxHeartbeats 4000000 in
theorem truth_end {k r : Nat} {l : List D} {dp w : Int} {s4 s5 : Option D} (hk : 4 ≤ k) (ds : DS S a b) (hn : Nms S r a l) (q : ∀ e S', okE 2 e → DS S' a b → Fr a S S' → Q (eD e) S') :
    wpSs (C k) tr3 (eG Q E) [some (.ref a), some (.ref r), some (.int dp), some (.int w), s4, s5] S := by
  unfold tr3 b_law_truth_of sk sk sk sk eG
  walk_at "mp"
  refine pick_is (xs := opsT) (by omega) ds (by decide) (by decide) (.inl rfl) fun x S1 hx ds1 fr1 len1 => ?_
  obtain ⟨o, rfl, ho⟩ := opsT_ok x hx
  walk_at "mp"
  refine sum_ok 1 k r l S1 _ _ (by omega) ds1 (hn.next fr1) fun e S2 ok2 ds2 fr2 => ?_
  walk_at "mp"
  refine sum_ok 1 k r l S2 _ _ (by omega) ds2 ((hn.next fr1).next fr2) fun e' S3 ok3 ds3 fr3 => ?_
  walk_at "mp"
  exact q (.bin o e e') S3 ⟨ho, ok2, ok3⟩ ds3 ((fr1.trans fr2).trans fr3)
set_option maxHeartbeats 8000000 in
theorem truth_ok : ∀ (dp k r : Nat) (l : List D) (S : Sto) (Q : KD) (E : Ex → Sto → Prop), dp + 5 ≤ k → DS S a b → Nms S r a l → (∀ e S', okE (dp + 2) e → DS S' a b → Fr a S S' → Q (eD e) S') → C k f_law_truth_of [.ref a, .ref r, .int (dp : Nat)] S Q E := by
  intro dp
  induction dp with
  | zero =>
    intro k r l S Q E hk ds hn q
    obtain ⟨k, rfl⟩ := up (n := 1) (by omega : 1 ≤ k)
    refine c_law_truth_of ?_
    show wpSs (C k) (.cons (match b_law_truth_of with | .cons s _ => s | _ => .pas) (.cons (match sk 1 b_law_truth_of with | .cons s _ => s | _ => .pas) (.cons (match sk 2 b_law_truth_of with | .cons s _ => s | _ => .pas) tr3))) ⟨_, _, _, _, _⟩ _ _
    unfold b_law_truth_of
    dsimp only [sk]
    walk_at "mp"
    refine draw_is (by omega) a b _ _ _ _ ds (by decide) fun w S1 r0 r1 ds1 fr1 len1 => ?_
    walk_at "mp"
    exact truth_end (by omega) ds1 (hn.next fr1) fun e S2 ok ds2 fr2 => q e S2 ok ds2 (fr1.trans fr2)
  | succ dp ih =>
    intro k r l S Q E hk ds hn q
    obtain ⟨k, rfl⟩ := up (n := 1) (by omega : 1 ≤ k)
    have ed : ((dp + 1 : Nat) : Int) - 1 = (dp : Nat) := by omega
    refine c_law_truth_of ?_
    show wpSs (C k) (.cons (match b_law_truth_of with | .cons s _ => s | _ => .pas) (.cons (match sk 1 b_law_truth_of with | .cons s _ => s | _ => .pas) (.cons (match sk 2 b_law_truth_of with | .cons s _ => s | _ => .pas) tr3))) ⟨_, _, _, _, _⟩ _ _
    unfold b_law_truth_of
    dsimp only [sk]
    walk_at "mp"
    refine draw_is (by omega) a b _ _ _ _ ds (by decide) fun w S1 r0 r1 ds1 fr1 len1 => ?_
    have hn1 := hn.next fr1
    walk_at "mp"
    refine d_2 (fun hw => ?_) fun hw => ?_
    · walk_at "mp"
      rw [ed]
      refine ih k r l S1 _ _ (by omega) ds1 hn1 fun e S2 ok2 ds2 fr2 => ?_
      walk_at "mp"
      exact q (.not e) S2 ok2 ds2 (fr1.trans fr2)
    · walk_at "mp"
      refine d_2 (fun hw => ?_) fun hw => ?_
      · walk_at "mp"
        rw [ed]
        refine ih k r l S1 _ _ (by omega) ds1 hn1 fun e S2 ok2 ds2 fr2 => ?_
        walk_at "mp"
        refine d_2 (fun h1 => ?_) fun h1 => ?_
        · walk_at "mp"
          rw [ed]
          refine ih k r l S2 _ _ (by omega) ds2 (hn1.next fr2) fun e' S3 ok3 ds3 fr3 => ?_
          walk_at "mp"
          exact q (.bin "and" e e') S3 ⟨⟨by decide +kernel, by decide +kernel⟩, ok2, ok3⟩ ds3 ((fr1.trans fr2).trans fr3)
        · walk_at "mp"
          rw [ed]
          refine ih k r l S2 _ _ (by omega) ds2 (hn1.next fr2) fun e' S3 ok3 ds3 fr3 => ?_
          walk_at "mp"
          exact q (.bin "or" e e') S3 ⟨⟨by decide +kernel, by decide +kernel⟩, ok2, ok3⟩ ds3 ((fr1.trans fr2).trans fr3)
      · walk_at "mp"
        exact truth_end (by omega) ds1 hn1 fun e S2 ok ds2 fr2 => q e S2 (okE_mono (by omega) ok) ds2 (fr1.trans fr2)
end
end K17
/-! K17O: law k17, what is drawn: plain steps. -/
namespace K17
open PySem PySem.Spec PyProof.Rows L2 MP
local macro_rules | `(tactic| walk_at "look") => `(tactic| first | assumption | exact g_last | (with_reducible apply g_set; walk_at "look") | ((with_reducible refine g_setn ?h1 ?h2); (case h1 => first | assumption | omega | (apply Ne.symm; assumption)); (case h2 => walk_at "look")) | ((with_reducible refine g_app ?_); walk_at "look") | ((with_reducible refine' Fr.get ?h1 ?h2 ?h3); (case h1 => assumption); (case h2 => first | assumption | omega | (apply Ne.symm; assumption)); (case h3 => walk_at "look")) | ((with_reducible refine' Ch.get ?h1 ?h2 ?h3); (case h1 => assumption); (case h2 => first | assumption | (simp; done) | (simp only [List.mem_cons, List.not_mem_nil, or_false, not_or]; omega)); (case h3 => walk_at "look")))
local macro_rules | `(tactic| walk_at "kn") => `(tactic| first | assumption | omega | (simp; done) | decide)
local macro_rules | `(tactic| walk_at "sz") => `(tactic| first | assumption | (rw [sizeLine_eq]; first | omega | (simp; done) | (simp; omega)))
local macro_rules | `(tactic| walk_at "at") => `(tactic| first | exact rfl | assumption)
local macro_rules | `(tactic| walk_at "mp1") => `(tactic| first
  | with_reducible refine s_cons ?_ | with_reducible refine s_nil ?_ | with_reducible refine s_nm ?_ | with_reducible refine s_ix ?_ | with_reducible refine s_asg ?_ | with_reducible refine s_ex ?_ | with_reducible refine s_iff ?_ | with_reducible refine s_ret ?_ | with_reducible refine s_for ?_
  | ((with_reducible refine' e_var ?h1 ?_); (case h1 => exact rfl)) | with_reducible refine e_int ?_ | with_reducible refine e_bin ?_ | with_reducible refine e_cmp ?_ | with_reducible refine e_ix ?_ | with_reducible refine e_call ?_ | with_reducible refine e_blt ?_ | with_reducible refine e_bl ?_ | with_reducible refine e_and ?_ | with_reducible refine e_or ?_ | with_reducible refine e_not ?_ | with_reducible refine e_ite ?_
  | with_reducible refine es_cons ?_ | with_reducible refine es_nil ?_ | with_reducible refine e_tup ?_ | with_reducible refine e_lst ?_ | with_reducible refine e_meth ?_ | with_reducible refine e_comp ?_ | with_reducible refine e_sl ?_ | with_reducible refine e_neg ?_ | with_reducible refine e_isi ?_ | with_reducible refine e_lrg ?_ | with_reducible refine e_non ?_ | with_reducible refine e_str ?_ | with_reducible refine e_fnv ?_ | with_reducible refine e_orl ?_ | with_reducible refine e_dnew ?_ | with_reducible refine e_dget ?_ | with_reducible refine e_dget2 ?_
  | with_reducible refine o_no ?_ | with_reducible refine o_so ?_ | with_reducible refine i_rng ?_ | with_reducible refine i_seq ?_ | with_reducible refine i_enum ?_ | with_reducible refine if_nil ?_ | with_reducible refine if_cons ?_ | with_reducible refine rg_1 ?_ | with_reducible refine rg_2 ?_
  | with_reducible refine b_add ?_ | with_reducible refine b_sub ?_ | ((with_reducible refine' b_mul ?h1 ?_); (case h1 => first | assumption | mul_fits)) | ((with_reducible refine' b_fdiv ?h1 ?h2 ?_); (case h1 => walk_at "kn"); (case h2 => first | assumption | decide)) | ((with_reducible refine' b_mod ?h1 ?_); (case h1 => walk_at "kn")) | ((with_reducible refine' b_pow ?h1 ?_); (case h1 => first | assumption | exact ⟨by decide, by decide, by decide⟩)) | ((with_reducible refine' b_shr ?h1 ?_); (case h1 => walk_at "kn")) | ((with_reducible refine' b_shl ?h1 ?_); (case h1 => assumption)) | with_reducible refine b_and ?_ | with_reducible refine b_or ?_ | with_reducible refine b_xor ?_
  | with_reducible refine c_lt ?_ | with_reducible refine c_le ?_ | with_reducible refine c_gt ?_ | with_reducible refine c_ge ?_ | with_reducible refine c_eqi ?_ | with_reducible refine c_nei ?_ | with_reducible refine c_eqb ?_ | with_reducible refine c_neb ?_ | with_reducible refine c_eqs ?_ | with_reducible refine c_nes ?_
  | with_reducible refine t_bl ?_ | with_reducible refine t_int ?_ | with_reducible refine t_tup ?_ | with_reducible refine t_non ?_
  | ((with_reducible refine' x_ref ?h1 ?h2 ?_); (case h1 => walk_at "look"); (case h2 => walk_at "at")) | ((with_reducible refine' x_tup ?h1 ?_); (case h1 => walk_at "at")) | ((with_reducible refine' x_klst ?h1 ?_); (case h1 => walk_at "at"))
  | ((with_reducible refine' set_ref ?h1 ?h2 ?_); (case h1 => walk_at "look"); (case h2 => walk_at "at"))
  | ((with_reducible refine' f_lenr ?h1 ?_); (case h1 => walk_at "look")) | with_reducible refine f_lent ?_ | with_reducible refine f_lenk ?_ | with_reducible refine f_int ?_ | ((with_reducible refine' f_listr ?h1 ?_); (case h1 => walk_at "look")) | with_reducible refine f_listt ?_ | with_reducible refine f_listk ?_ | ((with_reducible refine' f_tupr ?h1 ?_); (case h1 => walk_at "look")) | with_reducible refine f_tupt ?_ | with_reducible refine f_max ?_ | with_reducible refine f_min ?_
  | with_reducible refine sl_klst ?_ | ((with_reducible refine' sl_ref ?h1 ?_); (case h1 => walk_at "look")) | with_reducible refine sl_tup ?_
  | ((with_reducible refine' m_app ?h1 ?h2 ?_); (case h1 => walk_at "look"); (case h2 => walk_at "sz")) | ((with_reducible refine' m_ext ?h1 ?h2 ?h3 ?_); (case h1 => walk_at "look"); (case h2 => walk_at "look"); (case h3 => walk_at "sz")) | ((with_reducible refine' m_extT ?h1 ?h3 ?_); (case h1 => walk_at "look"); (case h3 => walk_at "sz"))
  | with_reducible refine k_t ?_ | with_reducible refine k_f ?_ | with_reducible refine k_nt ?_ | with_reducible refine k_nf ?_
  | ((with_reducible refine' d_t ?h1 ?_); (case h1 => first | assumption | omega)) | ((with_reducible refine' d_f ?h1 ?_); (case h1 => first | assumption | omega)) | ((with_reducible refine' d_nt ?h1 ?_); (case h1 => first | assumption | omega)) | ((with_reducible refine' d_nf ?h1 ?_); (case h1 => first | assumption | omega))
  | ((with_reducible refine' And.intro (r_lst ?h1 ?h2) ?_); (case h1 => decide); (case h2 => walk_at "look")) | (with_reducible refine And.intro r_int ?_)
  | ((with_reducible refine And.intro ?h1 ?_); (case h1 => (with_reducible show List.length _ ≤ sizeLine); walk_at "sz"))
  | dsimp only
  | dsimp only [isTy_int, isTy_bl, isTy_str, isTy_non, isTy_tup])
local macro_rules | `(tactic| walk_at "mp") => `(tactic| repeat walk_at "mp1")

/-- rows that begin with a text -/
def Hd (l : List D) : Prop := ∀ x ∈ l, ∃ s r, x = .tup (.str s :: r) ∧ PyData.strOk s = true
def fstD : D → Option D
  | .tup (y :: _) => some y
  | _ => none
theorem fsts : ∀ {l : List D}, Hd l → Strs (l.filterMap fstD) ∧ (l.filterMap fstD).length = l.length
  | [], _ => ⟨fun x hx => (by cases hx), rfl⟩
  | x :: r, hl => by
    obtain ⟨i1, i2⟩ := fsts (l := r) fun y hy => hl y (List.mem_cons_of_mem _ hy)
    obtain ⟨s, r', rfl, hs⟩ := hl x List.mem_cons_self
    have e : (D.tup (.str s :: r') :: r).filterMap fstD = .str s :: r.filterMap fstD := by
      rw [List.filterMap_cons]
      rfl
    rw [e]
    refine ⟨fun y hy => ?_, by simp [i2]⟩
    rcases List.mem_cons.mp hy with rfl | hy
    · exact ⟨s, rfl, hs⟩
    · exact i1 y hy
def wD (bx : D) (lk qs gs : List D) (nm w5 w6 w7 : Nat) : D := .tup [bx, .tup lk, .tup qs, .tup gs, .ref nm, .int (w5 : Nat), .int (w6 : Nat), .int (w7 : Nat)]
structure WOk (lk qs gs : List D) (w5 w6 w7 : Nat) : Prop where
  hlk : Strs lk
  ll : lk.length ≤ 10
  hq : Hd (qs ++ gs)
  ql : qs.length + gs.length ≤ 10
  h5 : w5 ≤ 12
  h6 : w6 ≤ 6
  h7 : w7 ≤ 100
theorem leaf_one {h : Str} {r : List D} (n : ((h ≠ "if" ∧ h ≠ "while" ∧ h ≠ "loop" ∧ h ≠ "mark") ∧ h ≠ "set" ∧ h ≠ "wait" ∧ h ≠ "send") ∧ PyData.strOk h = true) (hr : Strs r) (hl : r.length ≤ 10) : LeafOk h r (.num 0) :=
  ⟨n.1.1.1, n.1.1.2.1, n.1.1.2.2.1, n.1.1.2.2.2, n.2, fun x hx => pu_str (hr x hx), hl, trivial, .inr (.inr ⟨n.1.2, rfl⟩)⟩
theorem strs_0 : Strs [] := fun x hx => by cases hx
theorem strs_1 {x : D} (h : ∃ s, x = .str s ∧ PyData.strOk s = true) : Strs [x] := fun y hy => by rw [List.mem_singleton.mp hy]; exact h
theorem strs_2 {x y : D} (h : ∃ s, x = .str s ∧ PyData.strOk s = true) (h2 : ∃ s, y = .str s ∧ PyData.strOk s = true) : Strs [x, y] := fun z hz => by
  simp only [List.mem_cons, List.not_mem_nil, or_false] at hz
  rcases hz with rfl | rfl
  · exact h
  · exact h2
section
variable {k a b : Nat} {S : Sto} {Q : KD} {E : Ex → Sto → Prop}
def pl3 : MSs := sk 3 b_law_plain_step
def pl4 : MSs := sk 4 b_law_plain_step
def pl5 : MSs := sk 5 b_law_plain_step
def pl6 : MSs := sk 6 b_law_plain_step
def pl7 : MSs := sk 7 b_law_plain_step
def pl8 : MSs := sk 8 b_law_plain_step
set_option maxHeartbeats 8000000 in
theorem plain_end {h nm : Nat} {W : D} {hl l0 st : List D} {w : Int} {s6 : Option D} {sr : Nat} (hk : 7 ≤ k) (ds : DS S a b) (hn : Nms S nm a l0) (hsr : S[sr]? = some (.lst st)) (hsa : sr ≠ a) (hst : Strs st) (hsl : st.length ≤ 10) (hg : S[h]? = some (.lst hl))
    (q : ∀ w r e S', LeafOk w r e → DS S' a b → Fr a S S' → Q (.tup (.str w :: r)) S') :
    wpSs (C k) pl3 (eG Q E) [some (.ref a), some W, some (.ref h), some (.ref nm), some (.ref sr), some (.int w), s6] S := by
  have gn := hn.g
  have ln := hn.len
  have hln : 0 < l0.length → 0 < l0.length := id
  have t8 : wpSs (C k) pl8 (eG Q E) [some (.ref a), some W, some (.ref h), some (.ref nm), some (.ref sr), some (.int w), s6] S := by
    unfold pl8 b_law_plain_step eG
    simp only [sk]
    walk_at "mp"
    have st : LeafOk "stop" [] (.num 0) := leaf_one (by decide +kernel) strs_0 (by decide)
    have sp : LeafOk "skip" [] (.num 0) := leaf_one (by decide +kernel) strs_0 (by decide)
    refine d_2 (fun h1 => ?_) fun h1 => ?_
    · walk_at "mp"
      refine d_2 (fun h2 => ?_) fun h2 => ?_
      · walk_at "mp"
        exact q _ _ _ S st ds Fr.refl
      · walk_at "mp"
        exact q _ _ _ S sp ds Fr.refl
    · walk_at "mp"
      exact q _ _ _ S sp ds Fr.refl
  have t7 : wpSs (C k) pl7 (eG Q E) [some (.ref a), some W, some (.ref h), some (.ref nm), some (.ref sr), some (.int w), s6] S := by
    show wpSs (C k) (.cons (match sk 7 b_law_plain_step with | .cons s _ => s | _ => .pas) pl8) ⟨_, _, _, _, _⟩ _ _
    unfold b_law_plain_step
    dsimp only [sk]
    walk_at "mp"
    refine d_2 (fun h1 => ?_) fun h1 => ?_
    · walk_at "mp"
      refine d_2 (fun h2 => ?_) fun h2 => ?_
      · walk_at "mp"
        refine d_2 (fun h3 => ?_) fun h3 => ?_
        · walk_at "mp"
          refine pick_is (by omega) ds (by omega) (by omega) (.inr ⟨nm, rfl, hn.ne, gn⟩) fun x S1 hx ds1 fr1 _ => ?_
          obtain ⟨xs, rfl, hxs⟩ := hn.st x hx
          walk_at "mp"
          refine pick_is (by omega) ds1 (by omega) (by omega) (.inr ⟨sr, rfl, hsa, fr1.get hsa hsr⟩) fun y S2 hy ds2 fr2 _ => ?_
          walk_at "mp"
          exact q _ _ _ S2 (leaf_one (by decide +kernel) (strs_2 ⟨xs, rfl, hxs⟩ (hst y hy)) (by simp)) ds2 (fr1.trans fr2)
        · walk_at "mp"
          exact t8
      · walk_at "mp"
        exact t8
    · walk_at "mp"
      exact t8
  have t6 : wpSs (C k) pl6 (eG Q E) [some (.ref a), some W, some (.ref h), some (.ref nm), some (.ref sr), some (.int w), s6] S := by
    show wpSs (C k) (.cons (match sk 6 b_law_plain_step with | .cons s _ => s | _ => .pas) pl7) ⟨_, _, _, _, _⟩ _ _
    unfold b_law_plain_step
    dsimp only [sk]
    walk_at "mp"
    refine d_2 (fun h1 => ?_) fun h1 => ?_
    · walk_at "mp"
      refine d_2 (fun h2 => ?_) fun h2 => ?_
      · walk_at "mp"
        refine some_is (by omega) ds hn fun p l1 S1 n1 ds1 fr1 => ?_
        walk_at "mp"
        refine sum_ok 1 k p l1 S1 _ _ (by omega) ds1 n1 fun e S2 ok ds2 fr2 => ?_
        walk_at "mp"
        have fr12 := fr1.trans fr2
        refine pick_is (by omega) ds2 (by omega) (by omega) (.inr ⟨sr, rfl, hsa, fr12.get hsa hsr⟩) fun y S3 hy ds3 fr3 _ => ?_
        walk_at "mp"
        refine q "send" [eD e, y] e S3 ⟨by decide +kernel, by decide +kernel, by decide +kernel, by decide +kernel, by decide +kernel, fun z hz => ?_, by simp, okE_mono (by decide) ok, .inr (.inl ⟨.inr rfl, [y], rfl⟩)⟩ ds3 (fr12.trans fr3)
        simp only [List.mem_cons, List.not_mem_nil, or_false] at hz
        rcases hz with rfl | rfl
        · exact puD_mono (by decide) (okE_pu ok)
        · exact pu_str (hst z hy)
      · walk_at "mp"
        exact t7
    · walk_at "mp"
      exact t7
  have t5 : wpSs (C k) pl5 (eG Q E) [some (.ref a), some W, some (.ref h), some (.ref nm), some (.ref sr), some (.int w), s6] S := by
    show wpSs (C k) (.cons (match sk 5 b_law_plain_step with | .cons s _ => s | _ => .pas) pl6) ⟨_, _, _, _, _⟩ _ _
    unfold b_law_plain_step
    dsimp only [sk]
    walk_at "mp"
    refine d_2 (fun h1 => ?_) fun h1 => ?_
    · walk_at "mp"
      refine d_2 (fun h2 => ?_) fun h2 => ?_
      · walk_at "mp"
        refine pick_is (by omega) ds (by omega) (by omega) (.inr ⟨nm, rfl, hn.ne, gn⟩) fun x S1 hx ds1 fr1 _ => ?_
        walk_at "mp"
        exact q _ _ _ S1 (leaf_one (by decide +kernel) (strs_1 (hn.st x hx)) (by simp)) ds1 fr1
      · walk_at "mp"
        exact t6
    · walk_at "mp"
      exact t6
  have t4 : wpSs (C k) pl4 (eG Q E) [some (.ref a), some W, some (.ref h), some (.ref nm), some (.ref sr), some (.int w), s6] S := by
    show wpSs (C k) (.cons (match sk 4 b_law_plain_step with | .cons s _ => s | _ => .pas) pl5) ⟨_, _, _, _, _⟩ _ _
    unfold b_law_plain_step
    dsimp only [sk]
    walk_at "mp"
    refine d_2 (fun h1 => ?_) fun h1 => ?_
    · walk_at "mp"
      refine some_is (by omega) ds hn fun p l1 S1 n1 ds1 fr1 => ?_
      walk_at "mp"
      refine truth_ok 1 k p l1 S1 _ _ (by omega) ds1 n1 fun e S2 ok ds2 fr2 => ?_
      walk_at "mp"
      refine q "wait" [eD e] e S2 ⟨by decide +kernel, by decide +kernel, by decide +kernel, by decide +kernel, by decide +kernel, fun z hz => ?_, by simp, okE_mono (by decide) ok, .inr (.inl ⟨.inl rfl, [], rfl⟩)⟩ ds2 (fr1.trans fr2)
      rw [List.mem_singleton.mp hz]
      exact puD_mono (by decide) (okE_pu ok)
    · walk_at "mp"
      exact t5
  show wpSs (C k) (.cons (match sk 3 b_law_plain_step with | .cons s _ => s | _ => .pas) pl4) ⟨_, _, _, _, _⟩ _ _
  unfold b_law_plain_step
  dsimp only [sk]
  walk_at "mp"
  refine d_2 (fun h1 => ?_) fun h1 => ?_
  · walk_at "mp"
    refine d_2 (fun h2 => ?_) fun h2 => ?_
    · walk_at "mp"
      refine pick_is (by omega) ds (by omega) (by omega) (.inr ⟨nm, rfl, hn.ne, gn⟩) fun x S1 hx ds1 fr1 _ => ?_
      walk_at "mp"
      refine some_is (by omega) ds1 (hn.next fr1) fun p l1 S2 n2 ds2 fr2 => ?_
      walk_at "mp"
      refine sum_ok 2 k p l1 S2 _ _ (by omega) ds2 n2 fun e S3 ok ds3 fr3 => ?_
      walk_at "mp"
      refine q "set" [x, eD e] e S3 ⟨by decide +kernel, by decide +kernel, by decide +kernel, by decide +kernel, by decide +kernel, fun z hz => ?_, by simp, okE_mono (by decide) ok, .inl ⟨rfl, x, rfl⟩⟩ ds3 ((fr1.trans fr2).trans fr3)
      simp only [List.mem_cons, List.not_mem_nil, or_false] at hz
      rcases hz with rfl | rfl
      · exact pu_str (hn.st z hx)
      · exact puD_mono (by decide) (okE_pu ok)
    · walk_at "mp"
      exact t4
  · walk_at "mp"
    exact t4
set_option maxHeartbeats 8000000 in
theorem plain_ok {h nm w5 w6 w7 : Nat} {bx : D} {hl l0 lk qs gs : List D} (hk : 8 ≤ k) (ds : DS S a b) (hn : Nms S nm a l0) (hg : S[h]? = some (.lst hl)) (wo : WOk lk qs gs w5 w6 w7) (hha : h ≠ a)
    (q : ∀ w r e S', LeafOk w r e → DS S' a b → Fr a S S' → Q (.tup (.str w :: r)) S') : C k f_law_plain_step [.ref a, wD bx lk qs gs nm w5 w6 w7, .ref h] S Q E := by
  obtain ⟨k, rfl⟩ := up (n := 1) (by omega : 1 ≤ k)
  have la := ds.lta
  have ql := wo.ql
  obtain ⟨f1, f2⟩ := fsts wo.hq
  rw [List.length_append] at f2
  refine c_law_plain_step ?_
  show wpSs (C k) (.cons (match b_law_plain_step with | .cons s _ => s | _ => .pas) (.cons (match sk 1 b_law_plain_step with | .cons s _ => s | _ => .pas) (.cons (match sk 2 b_law_plain_step with | .cons s _ => s | _ => .pas) pl3))) ⟨_, _, _, _, _⟩ _ _
  unfold b_law_plain_step
  dsimp only [sk]
  unfold wD
  walk_at "mp"
  refine b_addt (by rw [sizeLine_eq]; omega) ?_
  dsimp only
  refine ⟨by rw [List.length_append, sizeLine_eq]; omega, ?_⟩
  refine comp_pure fstD gd_nil (fun x hx K hK => ?_) ?_
  · obtain ⟨s, r, rfl, _⟩ := wo.hq x hx
    have a0 : atI (D.str s :: r) 0 = some (D.str s) := at_head
    refine cmp_nm ?_
    walk_at "mp"
    exact hK
  walk_at "mp"
  refine draw_is (by omega) a b _ _ _ _ ds.app (by decide) fun v S1 v0 v1 ds1 fr1 len1 => ?_
  walk_at "mp"
  exact plain_end (by omega) ds1 ((hn.next Fr.app).next fr1) (fr1.get (by omega) g_last) (by omega) f1 (by omega) (fr1.get hha (g_app hg)) fun w r e S2 ok ds2 fr2 => q w r e S2 ok ds2 ((Fr.app.trans fr1).trans fr2)
end
end K17
/-! K17P: law k17, what is drawn: the store; marks. -/
namespace K17
open PySem PySem.Spec PyProof.Rows L2 MP
local macro_rules | `(tactic| walk_at "look") => `(tactic| first | assumption | exact g_last | (with_reducible apply g_set; walk_at "look") | ((with_reducible refine g_setn ?h1 ?h2); (case h1 => first | assumption | omega | (apply Ne.symm; assumption)); (case h2 => walk_at "look")) | ((with_reducible refine g_app ?_); walk_at "look") | ((with_reducible refine' Fr.get ?h1 ?h2 ?h3); (case h1 => assumption); (case h2 => first | assumption | omega | (apply Ne.symm; assumption)); (case h3 => walk_at "look")) | ((with_reducible refine' Ch.get ?h1 ?h2 ?h3); (case h1 => assumption); (case h2 => first | assumption | (simp; done) | (simp only [List.mem_cons, List.not_mem_nil, or_false, not_or]; omega)); (case h3 => walk_at "look")))
local macro_rules | `(tactic| walk_at "kn") => `(tactic| first | assumption | omega | (simp; done) | decide)
local macro_rules | `(tactic| walk_at "sz") => `(tactic| first | assumption | (rw [sizeLine_eq]; first | omega | (simp; done) | (simp; omega)))
local macro_rules | `(tactic| walk_at "at") => `(tactic| first | exact rfl | assumption)
local macro_rules | `(tactic| walk_at "mp1") => `(tactic| first
  | with_reducible refine s_cons ?_ | with_reducible refine s_nil ?_ | with_reducible refine s_nm ?_ | with_reducible refine s_ix ?_ | with_reducible refine s_asg ?_ | with_reducible refine s_ex ?_ | with_reducible refine s_iff ?_ | with_reducible refine s_ret ?_ | with_reducible refine s_for ?_
  | ((with_reducible refine' e_var ?h1 ?_); (case h1 => exact rfl)) | with_reducible refine e_int ?_ | with_reducible refine e_bin ?_ | with_reducible refine e_cmp ?_ | with_reducible refine e_ix ?_ | with_reducible refine e_call ?_ | with_reducible refine e_blt ?_ | with_reducible refine e_bl ?_ | with_reducible refine e_and ?_ | with_reducible refine e_or ?_ | with_reducible refine e_not ?_ | with_reducible refine e_ite ?_
  | with_reducible refine es_cons ?_ | with_reducible refine es_nil ?_ | with_reducible refine e_tup ?_ | with_reducible refine e_lst ?_ | with_reducible refine e_meth ?_ | with_reducible refine e_comp ?_ | with_reducible refine e_sl ?_ | with_reducible refine e_neg ?_ | with_reducible refine e_isi ?_ | with_reducible refine e_lrg ?_ | with_reducible refine e_non ?_ | with_reducible refine e_str ?_ | with_reducible refine e_fnv ?_ | with_reducible refine e_orl ?_ | with_reducible refine e_dnew ?_ | with_reducible refine e_dget ?_ | with_reducible refine e_dget2 ?_
  | with_reducible refine o_no ?_ | with_reducible refine o_so ?_ | with_reducible refine i_rng ?_ | with_reducible refine i_seq ?_ | with_reducible refine i_enum ?_ | with_reducible refine if_nil ?_ | with_reducible refine if_cons ?_ | with_reducible refine rg_1 ?_ | with_reducible refine rg_2 ?_
  | with_reducible refine b_add ?_ | with_reducible refine b_sub ?_ | ((with_reducible refine' b_mul ?h1 ?_); (case h1 => first | assumption | mul_fits)) | ((with_reducible refine' b_fdiv ?h1 ?h2 ?_); (case h1 => walk_at "kn"); (case h2 => first | assumption | decide)) | ((with_reducible refine' b_mod ?h1 ?_); (case h1 => walk_at "kn")) | ((with_reducible refine' b_pow ?h1 ?_); (case h1 => first | assumption | exact ⟨by decide, by decide, by decide⟩)) | ((with_reducible refine' b_shr ?h1 ?_); (case h1 => walk_at "kn")) | ((with_reducible refine' b_shl ?h1 ?_); (case h1 => assumption)) | with_reducible refine b_and ?_ | with_reducible refine b_or ?_ | with_reducible refine b_xor ?_
  | with_reducible refine c_lt ?_ | with_reducible refine c_le ?_ | with_reducible refine c_gt ?_ | with_reducible refine c_ge ?_ | with_reducible refine c_eqi ?_ | with_reducible refine c_nei ?_ | with_reducible refine c_eqb ?_ | with_reducible refine c_neb ?_ | with_reducible refine c_eqs ?_ | with_reducible refine c_nes ?_
  | with_reducible refine t_bl ?_ | with_reducible refine t_int ?_ | with_reducible refine t_tup ?_ | with_reducible refine t_non ?_
  | ((with_reducible refine' x_ref ?h1 ?h2 ?_); (case h1 => walk_at "look"); (case h2 => walk_at "at")) | ((with_reducible refine' x_tup ?h1 ?_); (case h1 => walk_at "at")) | ((with_reducible refine' x_klst ?h1 ?_); (case h1 => walk_at "at"))
  | ((with_reducible refine' set_ref ?h1 ?h2 ?_); (case h1 => walk_at "look"); (case h2 => walk_at "at"))
  | ((with_reducible refine' f_lenr ?h1 ?_); (case h1 => walk_at "look")) | with_reducible refine f_lent ?_ | with_reducible refine f_lenk ?_ | with_reducible refine f_int ?_ | ((with_reducible refine' f_listr ?h1 ?_); (case h1 => walk_at "look")) | with_reducible refine f_listt ?_ | with_reducible refine f_listk ?_ | ((with_reducible refine' f_tupr ?h1 ?_); (case h1 => walk_at "look")) | with_reducible refine f_tupt ?_ | with_reducible refine f_max ?_ | with_reducible refine f_min ?_
  | with_reducible refine sl_klst ?_ | ((with_reducible refine' sl_ref ?h1 ?_); (case h1 => walk_at "look")) | with_reducible refine sl_tup ?_
  | ((with_reducible refine' m_app ?h1 ?h2 ?_); (case h1 => walk_at "look"); (case h2 => walk_at "sz")) | ((with_reducible refine' m_ext ?h1 ?h2 ?h3 ?_); (case h1 => walk_at "look"); (case h2 => walk_at "look"); (case h3 => walk_at "sz")) | ((with_reducible refine' m_extT ?h1 ?h3 ?_); (case h1 => walk_at "look"); (case h3 => walk_at "sz"))
  | with_reducible refine k_t ?_ | with_reducible refine k_f ?_ | with_reducible refine k_nt ?_ | with_reducible refine k_nf ?_
  | ((with_reducible refine' d_t ?h1 ?_); (case h1 => first | assumption | omega)) | ((with_reducible refine' d_f ?h1 ?_); (case h1 => first | assumption | omega)) | ((with_reducible refine' d_nt ?h1 ?_); (case h1 => first | assumption | omega)) | ((with_reducible refine' d_nf ?h1 ?_); (case h1 => first | assumption | omega))
  | ((with_reducible refine' And.intro (r_lst ?h1 ?h2) ?_); (case h1 => decide); (case h2 => walk_at "look")) | (with_reducible refine And.intro r_int ?_)
  | ((with_reducible refine And.intro ?h1 ?_); (case h1 => (with_reducible show List.length _ ≤ sizeLine); walk_at "sz"))
  | dsimp only
  | dsimp only [isTy_int, isTy_bl, isTy_str, isTy_non, isTy_tup])
local macro_rules | `(tactic| walk_at "mp") => `(tactic| repeat walk_at "mp1")

/-! ### one behind the other -/
def apS : Ts → Ts → Ts
  | .nil, y => y
  | .cons x r, y => .cons x (apS r y)
theorem tsD_ap : ∀ x y : Ts, tsD (apS x y) = tsD x ++ tsD y
  | .nil, y => rfl
  | .cons x r, y => by simp [apS, tsD, tsD_ap r y]
theorem flat_ap : ∀ x y : Ts, flat (apS x y) = flat x ++ flat y
  | .nil, y => rfl
  | .cons x r, y => by simp [apS, flat, flat_ap r y]
theorem nod_ap (x y : Ts) : nod (apS x y) = nod x + nod y := by unfold nod; rw [flat_ap, List.length_append]
theorem okS_ap {n : Nat} : ∀ {x y : Ts}, okS n x → okS n y → okS n (apS x y)
  | .nil, y, _, h => h
  | .cons x r, y, h, h2 => by
    have h1 : okT n x := by cases n <;> exact h.1
    have h3 : okS n r := by cases n <;> exact h.2
    have := okS_ap h3 h2
    cases n <;> exact ⟨h1, this⟩
abbrev one (x : T) : Ts := .cons x .nil
theorem ok_one {n : Nat} {x : T} (h : okT n x) : okS n (one x) := by cases n <;> exact ⟨h, trivial⟩
theorem bD_ap (x y : Ts) : D.tup (tsD x ++ tsD y) = bD (apS x y) := by unfold bD; rw [tsD_ap]
structure Nd (a b bu mc nm : Nat) : Prop where
  n1 : b ≠ bu
  n2 : b ≠ mc
  n3 : nm ≠ a
  n4 : nm ≠ bu
  n5 : nm ≠ mc
  n6 : bu ≠ a
  n7 : mc ≠ a
  n8 : mc ≠ bu
structure Wo (a b bu mc nm : Nat) (S : Sto) (β m : Nat) : Prop where
  ds : DS S a b
  hb : S[bu]? = some (.lst [.int (β : Nat)])
  hm : ∃ l, S[mc]? = some (.lst l) ∧ Strs l ∧ l.length = m
  hn : ∃ l, Nms S nm a l
structure Held (a bu mc : Nat) (S : Sto) (h : Nat) (hl : List D) (β : Nat) : Prop where
  g : S[h]? = some (.lst hl)
  fl : hl.all flatD = true
  len : hl.length + β ≤ 100
  n1 : h ≠ a
  n2 : h ≠ bu
  n3 : h ≠ mc
section
variable {a b bu mc nm : Nat} {S S1 S' : Sto} {β β1 m m1 h : Nat} {hl : List D}
theorem Wo.fr (nd : Nd a b bu mc nm) (o : Wo a b bu mc nm S β m) (f : Fr a S S') (ds : DS S' a b) : Wo a b bu mc nm S' β m := by
  obtain ⟨l, h1, h2⟩ := o.hm
  obtain ⟨l', h3⟩ := o.hn
  exact ⟨ds, f.get nd.n6 o.hb, ⟨l, f.get nd.n7 h1, h2⟩, l', h3.next f⟩
theorem Wo.app {l : List O} (o : Wo a b bu mc nm S β m) : Wo a b bu mc nm (S ++ l) β m := by
  obtain ⟨l, h1, h2⟩ := o.hm
  obtain ⟨l', h3⟩ := o.hn
  exact ⟨o.ds.app, g_app o.hb, ⟨l, g_app h1, h2⟩, l', h3.next Fr.app⟩
theorem Wo.setb (nd : Nd a b bu mc nm) (o : Wo a b bu mc nm S β m) : Wo a b bu mc nm (S.set bu (.lst [.int (β1 : Nat)])) β1 m := by
  obtain ⟨l, h1, h2⟩ := o.hm
  obtain ⟨l', h3⟩ := o.hn
  exact ⟨o.ds.setn nd.n6 nd.n1.symm, g_set o.hb, ⟨l, g_setn nd.n8.symm h1, h2⟩, l', h3.ne, g_setn nd.n4.symm h3.g, h3.st, h3.len⟩
theorem Wo.setm (nd : Nd a b bu mc nm) {l : List D} (o : Wo a b bu mc nm S β m) (hl : Strs l) (hm : l.length = m1) : Wo a b bu mc nm (S.set mc (.lst l)) β m1 := by
  obtain ⟨l0, h1, h2⟩ := o.hm
  obtain ⟨l', h3⟩ := o.hn
  exact ⟨o.ds.setn nd.n7 nd.n2.symm, g_setn nd.n8 o.hb, ⟨l, g_set h1, hl, hm⟩, l', h3.ne, g_setn nd.n5.symm h3.g, h3.st, h3.len⟩
theorem Held.next (hd : Held a bu mc S h hl β) (e : Ch [a, bu, mc] S S') (hβ : β1 ≤ β) : Held a bu mc S' h hl β1 :=
  ⟨e.get (by simp [hd.n1, hd.n2, hd.n3]) hd.g, hd.fl, by have := hd.len; omega, hd.n1, hd.n2, hd.n3⟩
theorem chf (f : Fr a S S') : Ch [a, bu, mc] S S' := Ch.of f (by simp)
end
variable (a b bu mc nm : Nat) (W : D)
def BlS (k β dp : Nat) : Prop := ∀ (S : Sto) (m h : Nat) (hl : List D) (Q : KD) (E : Ex → Sto → Prop), Wo a b bu mc nm S β m → Held a bu mc S h hl β → β + m ≤ 100 →
  (∀ ts S' β' m', Ch [a, bu, mc] S S' → Wo a b bu mc nm S' β' m' → okS (6 - dp) ts → nod ts + β' + m' ≤ β + m → β' ≤ β → Q (bD ts) S') → C k f_law_block [.ref a, W, .ref bu, .int (dp : Nat), .ref h, .ref mc] S Q E
def SbS (k β dp : Nat) : Prop := ∀ (S : Sto) (m h : Nat) (hl : List D) (Q : KD) (E : Ex → Sto → Prop), Wo a b bu mc nm S β m → Held a bu mc S h hl β → β + m ≤ 100 →
  (∀ ts S' β' m', Ch [a, bu, mc] S S' → Wo a b bu mc nm S' β' m' → okS (6 - (dp + 1)) ts → nod ts + β' + m' ≤ β + m → β' ≤ β → Q (bD ts) S') → C k f_law_some_body [.ref a, W, .ref bu, .int (dp : Nat), .ref h, .ref mc] S Q E
def OsS (k β dp : Nat) : Prop := ∀ (S : Sto) (m h : Nat) (hl : List D) (Q : KD) (E : Ex → Sto → Prop), Wo a b bu mc nm S β m → Held a bu mc S h hl β → β + m ≤ 100 →
  (∀ ts S' β' m', Ch [a, bu, mc] S S' → Wo a b bu mc nm S' β' m' → okS (6 - dp) ts → nod ts + β' + m' ≤ β + 1 + m → β' ≤ β → Q (bD ts) S') → C k f_law_one_step [.ref a, W, .ref bu, .int (dp : Nat), .ref h, .ref mc] S Q E
variable {a b bu mc nm W}
theorem sb_step {k β dp : Nat} (nd : Nd a b bu mc nm) (hk : 1 ≤ k) (ih : BlS a b bu mc nm W k β (dp + 1)) : SbS a b bu mc nm W (k + 1) β dp := by
  intro S m h hl Q E o hd hz q
  refine c_law_some_body ?_
  unfold b_law_some_body
  walk_at "mp"
  refine draw_is hk a b _ _ _ _ o.ds (by decide) fun v S1 v0 v1 ds1 fr1 len1 => ?_
  walk_at "mp"
  refine d_2 (fun h1 => ?_) fun h1 => ?_
  · walk_at "mp"
    exact q .nil S1 β m (chf fr1) (o.fr nd fr1 ds1) (by cases (6 - (dp + 1)) <;> trivial) (by simp [nod, flat]) (Nat.le_refl _)
  · walk_at "mp"
    have e : ((dp : Nat) : Int) + 1 = ((dp + 1 : Nat) : Int) := by omega
    rw [e]
    exact ih S1 m h hl _ _ (o.fr nd fr1 ds1) (hd.next (chf fr1) (Nat.le_refl _)) hz fun ts S2 β' m' e2 o2 ok hn hb => q ts S2 β' m' ((chf fr1).trans e2) o2 ok hn hb
def mkS (c : Int) : MS := (.iff (.and (.cmp .gt (.blt .len (.cons (.var 5) .nil)) (.int 0)) (.cmp .eq (.call f_law_draw (.cons (.var 0) (.cons (.int c) .nil))) (.int 0)))
    (.cons (.asg (.tg (.nm 6)) (.bin .add (.var 6) (.tup (.cons (.tup (.cons (.str "mark") (.cons (.meth .pop (.var 5) .nil) .nil))) .nil)))) .nil)
    .nil)
set_option maxHeartbeats 4000000 in
theorem mark_ok {k n β m : Nat} {c : Int} {S : Sto} {ts : Ts} {dp W bu' h' : D} {s7 : Option D} {nx bk ct : MP.Env → Sto → Prop} {rt : KD} {ex : Ex → MP.Env → Sto → Prop} (nd : Nd a b bu mc nm) (hk : 1 ≤ k) (hc : c = 4 ∨ c = 5) (o : Wo a b bu mc nm S β m) (ok : okS n ts) (hz : nod ts + m ≤ 1000)
    (q : ∀ ts' S' m', Ch [a, bu, mc] S S' → Wo a b bu mc nm S' β m' → okS n ts' → nod ts' + m' = nod ts + m → nx [some (.ref a), some W, some bu', some dp, some h', some (.ref mc), some (bD ts'), s7] S') :
    wpS (C k) (mkS c) ⟨nx, rt, bk, ct, ex⟩ [some (.ref a), some W, some bu', some dp, some h', some (.ref mc), some (bD ts), s7] S := by
  obtain ⟨l, h1, h2, h3⟩ := o.hm
  unfold mkS
  walk_at "mp"
  refine d_2 (fun hl => ?_) fun hl => ?_
  · have hc2 : c.natAbs.log2 < 9000 := by rcases hc with rfl | rfl <;> decide
    walk_at "mp"
    refine draw_is hk a b _ _ _ _ o.ds hc2 fun v S1 v0 v1 ds1 fr1 len1 => ?_
    have o1 := o.fr nd fr1 ds1
    walk_at "mp"
    refine d_2 (fun hv => ?_) fun hv => ?_
    · have gl := fr1.get nd.n7 h1
      have hlt : l.length - 1 < l.length := by omega
      obtain ⟨x, hx, hxs⟩ := h2 l[l.length - 1] (List.getElem_mem hlt)
      have lt := tsD_len ts
      walk_at "mp"
      refine m_pop gl (List.getElem?_eq_getElem hlt) ?_
      unfold bD
      walk_at "mp"
      refine b_addt (by rw [sizeLine_eq, List.length_singleton]; omega) ?_
      walk_at "mp"
      rw [hx]
      rw [show D.tup (tsD ts ++ [D.tup [D.str "mark", D.str x]]) = bD (apS ts (one (.mark x))) by unfold bD; rw [tsD_ap]; rfl]
      refine q _ _ (m - 1) ((chf fr1).set (by simp)) (o1.setm nd (fun y hy => h2 y (List.dropLast_subset _ hy)) (by rw [List.length_dropLast]; omega)) (okS_ap ok (ok_one (by cases n <;> exact hxs))) ?_
      rw [nod_ap]
      have : nod (one (.mark x)) = 1 := by simp [nod, flat, flatT]
      omega
    · walk_at "mp"
      exact q ts S1 m (chf fr1) o1 ok rfl
  · walk_at "mp"
    exact q ts S m Ch.refl o ok rfl
end K17
/-! K17Q: law k17, what is drawn: steps. -/
namespace K17
open PySem PySem.Spec PyProof.Rows L2 MP
local macro_rules | `(tactic| walk_at "look") => `(tactic| first | assumption | exact g_last | (with_reducible apply g_set; walk_at "look") | ((with_reducible refine g_setn ?h1 ?h2); (case h1 => first | assumption | omega | (apply Ne.symm; assumption)); (case h2 => walk_at "look")) | ((with_reducible refine g_app ?_); walk_at "look") | ((with_reducible refine' Fr.get ?h1 ?h2 ?h3); (case h1 => assumption); (case h2 => first | assumption | omega | (apply Ne.symm; assumption)); (case h3 => walk_at "look")) | ((with_reducible refine' Ch.get ?h1 ?h2 ?h3); (case h1 => assumption); (case h2 => first | assumption | (simp; done) | (simp only [List.mem_cons, List.not_mem_nil, or_false, not_or]; omega)); (case h3 => walk_at "look")))
local macro_rules | `(tactic| walk_at "kn") => `(tactic| first | assumption | omega | (simp; done) | decide)
local macro_rules | `(tactic| walk_at "sz") => `(tactic| first | assumption | (rw [sizeLine_eq]; first | omega | (simp; done) | (simp; omega)))
local macro_rules | `(tactic| walk_at "at") => `(tactic| first | exact rfl | assumption)
local macro_rules | `(tactic| walk_at "mp1") => `(tactic| first
  | with_reducible refine s_cons ?_ | with_reducible refine s_nil ?_ | with_reducible refine s_nm ?_ | with_reducible refine s_ix ?_ | with_reducible refine s_asg ?_ | with_reducible refine s_ex ?_ | with_reducible refine s_iff ?_ | with_reducible refine s_ret ?_ | with_reducible refine s_for ?_
  | ((with_reducible refine' e_var ?h1 ?_); (case h1 => exact rfl)) | with_reducible refine e_int ?_ | with_reducible refine e_bin ?_ | with_reducible refine e_cmp ?_ | with_reducible refine e_ix ?_ | with_reducible refine e_call ?_ | with_reducible refine e_blt ?_ | with_reducible refine e_bl ?_ | with_reducible refine e_and ?_ | with_reducible refine e_or ?_ | with_reducible refine e_not ?_ | with_reducible refine e_ite ?_
  | with_reducible refine es_cons ?_ | with_reducible refine es_nil ?_ | with_reducible refine e_tup ?_ | with_reducible refine e_lst ?_ | with_reducible refine e_meth ?_ | with_reducible refine e_comp ?_ | with_reducible refine e_sl ?_ | with_reducible refine e_neg ?_ | with_reducible refine e_isi ?_ | with_reducible refine e_lrg ?_ | with_reducible refine e_non ?_ | with_reducible refine e_str ?_ | with_reducible refine e_fnv ?_ | with_reducible refine e_orl ?_ | with_reducible refine e_dnew ?_ | with_reducible refine e_dget ?_ | with_reducible refine e_dget2 ?_
  | with_reducible refine o_no ?_ | with_reducible refine o_so ?_ | with_reducible refine i_rng ?_ | with_reducible refine i_seq ?_ | with_reducible refine i_enum ?_ | with_reducible refine if_nil ?_ | with_reducible refine if_cons ?_ | with_reducible refine rg_1 ?_ | with_reducible refine rg_2 ?_
  | with_reducible refine b_add ?_ | with_reducible refine b_sub ?_ | ((with_reducible refine' b_mul ?h1 ?_); (case h1 => first | assumption | mul_fits)) | ((with_reducible refine' b_fdiv ?h1 ?h2 ?_); (case h1 => walk_at "kn"); (case h2 => first | assumption | decide)) | ((with_reducible refine' b_mod ?h1 ?_); (case h1 => walk_at "kn")) | ((with_reducible refine' b_pow ?h1 ?_); (case h1 => first | assumption | exact ⟨by decide, by decide, by decide⟩)) | ((with_reducible refine' b_shr ?h1 ?_); (case h1 => walk_at "kn")) | ((with_reducible refine' b_shl ?h1 ?_); (case h1 => assumption)) | with_reducible refine b_and ?_ | with_reducible refine b_or ?_ | with_reducible refine b_xor ?_
  | with_reducible refine c_lt ?_ | with_reducible refine c_le ?_ | with_reducible refine c_gt ?_ | with_reducible refine c_ge ?_ | with_reducible refine c_eqi ?_ | with_reducible refine c_nei ?_ | with_reducible refine c_eqb ?_ | with_reducible refine c_neb ?_ | with_reducible refine c_eqs ?_ | with_reducible refine c_nes ?_
  | with_reducible refine t_bl ?_ | with_reducible refine t_int ?_ | with_reducible refine t_tup ?_ | with_reducible refine t_non ?_
  | ((with_reducible refine' x_ref ?h1 ?h2 ?_); (case h1 => walk_at "look"); (case h2 => walk_at "at")) | ((with_reducible refine' x_tup ?h1 ?_); (case h1 => walk_at "at")) | ((with_reducible refine' x_klst ?h1 ?_); (case h1 => walk_at "at"))
  | ((with_reducible refine' set_ref ?h1 ?h2 ?_); (case h1 => walk_at "look"); (case h2 => walk_at "at"))
  | ((with_reducible refine' f_lenr ?h1 ?_); (case h1 => walk_at "look")) | with_reducible refine f_lent ?_ | with_reducible refine f_lenk ?_ | with_reducible refine f_int ?_ | ((with_reducible refine' f_listr ?h1 ?_); (case h1 => walk_at "look")) | with_reducible refine f_listt ?_ | with_reducible refine f_listk ?_ | ((with_reducible refine' f_tupr ?h1 ?_); (case h1 => walk_at "look")) | with_reducible refine f_tupt ?_ | with_reducible refine f_max ?_ | with_reducible refine f_min ?_
  | with_reducible refine sl_klst ?_ | ((with_reducible refine' sl_ref ?h1 ?_); (case h1 => walk_at "look")) | with_reducible refine sl_tup ?_
  | ((with_reducible refine' m_app ?h1 ?h2 ?_); (case h1 => walk_at "look"); (case h2 => walk_at "sz")) | ((with_reducible refine' m_ext ?h1 ?h2 ?h3 ?_); (case h1 => walk_at "look"); (case h2 => walk_at "look"); (case h3 => walk_at "sz")) | ((with_reducible refine' m_extT ?h1 ?h3 ?_); (case h1 => walk_at "look"); (case h3 => walk_at "sz"))
  | with_reducible refine k_t ?_ | with_reducible refine k_f ?_ | with_reducible refine k_nt ?_ | with_reducible refine k_nf ?_
  | ((with_reducible refine' d_t ?h1 ?_); (case h1 => first | assumption | omega)) | ((with_reducible refine' d_f ?h1 ?_); (case h1 => first | assumption | omega)) | ((with_reducible refine' d_nt ?h1 ?_); (case h1 => first | assumption | omega)) | ((with_reducible refine' d_nf ?h1 ?_); (case h1 => first | assumption | omega))
  | ((with_reducible refine' And.intro (r_lst ?h1 ?h2) ?_); (case h1 => decide); (case h2 => walk_at "look")) | (with_reducible refine And.intro r_int ?_)
  | ((with_reducible refine And.intro ?h1 ?_); (case h1 => (with_reducible show List.length _ ≤ sizeLine); walk_at "sz"))
  | dsimp only
  | dsimp only [isTy_int, isTy_bl, isTy_str, isTy_non, isTy_tup])
local macro_rules | `(tactic| walk_at "mp") => `(tactic| repeat walk_at "mp1")

section
variable {a b bu mc nm w5 w6 w7 : Nat} {lk qs gs : List D} {bx : D}
def os2 : MSs := sk 2 b_law_one_step
def os3 : MSs := sk 3 b_law_one_step
def os4 : MSs := sk 4 b_law_one_step
set_option maxHeartbeats 8000000 in
theorem os_step {k β dp : Nat} (nd : Nd a b bu mc nm) (wo : WOk lk qs gs w5 w6 w7) (hk : 8 ≤ k) (ihs : ∀ β1, β1 ≤ β → dp < 6 → SbS a b bu mc nm (wD bx lk qs gs nm w5 w6 w7) k β1 dp) (ihb : ∀ β1, β = β1 + 1 → BlS a b bu mc nm (wD bx lk qs gs nm w5 w6 w7) k β1 dp) : OsS a b bu mc nm (wD bx lk qs gs nm w5 w6 w7) (k + 1) β dp := by
  intro S m h hl Q E o hd hz q
  have ll := wo.ll
  refine c_law_one_step ?_
  have t4 : ∀ (S1 : Sto) (fr : Nat) (way : Int) (s8 s9 s10 : Option D), Fr a S S1 → DS S1 a b → wpSs (C k) os4 (eG Q E) [some (.ref a), some (wD bx lk qs gs nm w5 w6 w7), some (.ref bu), some (.int (dp : Nat)), some (.ref h), some (.ref mc), some (.ref fr), some (.int way), s8, s9, s10] S1 := fun S1 fr way s8 s9 s10 f1 ds1 => by
    have o1 := o.fr nd f1 ds1
    obtain ⟨l0, hn⟩ := o1.hn
    unfold os4 b_law_one_step eG
    simp only [sk]
    walk_at "mp"
    refine plain_ok (by omega) ds1 hn (f1.get hd.n1 hd.g) wo hd.n1 fun w r e S2 ok ds2 f2 => ?_
    walk_at "mp"
    have ff := f1.trans f2
    refine q (one (.leaf w r e)) S2 β m (chf ff) (o.fr nd ff ds2) (ok_one (by cases (6 - dp) <;> exact ok)) ?_ (Nat.le_refl _)
    have : nod (one (.leaf w r e)) = 1 := by simp [nod, flat, flatT]
    omega
  have t3 : ∀ (S1 : Sto) (fr : Nat) (way : Int) (s8 s9 s10 : Option D), Fr a S S1 → DS S1 a b → wpSs (C k) os3 (eG Q E) [some (.ref a), some (wD bx lk qs gs nm w5 w6 w7), some (.ref bu), some (.int (dp : Nat)), some (.ref h), some (.ref mc), some (.ref fr), some (.int way), s8, s9, s10] S1 := fun S1 fr way s8 s9 s10 f1 ds1 => by
    have o1 := o.fr nd f1 ds1
    have hd1 := hd.next (chf (mc := mc) (bu := bu) f1) (Nat.le_refl _)
    obtain ⟨l0, hn⟩ := o1.hn
    show wpSs (C k) (.cons (match sk 3 b_law_one_step with | .cons s _ => s | _ => .pas) os4) ⟨_, _, _, _, _⟩ _ _
    have t4' := t4 S1 fr way s8 s9 s10 f1 ds1
    unfold b_law_one_step
    dsimp only [sk]
    walk_at "mp"
    refine d_2 (fun hw => ?_) fun hw => ?_
    · unfold wD at *
      walk_at "mp"
      refine d_2 (fun hdp => ?_) fun hdp => ?_
      · have h6 := wo.h6
        have hdp6 : dp < 6 := by omega
        obtain ⟨n, hn6⟩ : ∃ n, 6 - dp = n + 1 := ⟨5 - dp, by omega⟩
        have hn5 : 6 - (dp + 1) = n := by omega
        walk_at "mp"
        refine some_is (by omega) ds1 hn fun p l1 S2 n2 ds2 f2 => ?_
        walk_at "mp"
        refine truth_ok 1 k p l1 S2 _ _ (by omega) ds2 n2 fun e S3 oke ds3 f3 => ?_
        have f13 := (f1.trans f2).trans f3
        have o3 := o.fr nd f13 ds3
        have hd3 := hd.next (chf (mc := mc) (bu := bu) f13) (Nat.le_refl _)
        have oke4 : okE 4 e := okE_mono (by decide) oke
        walk_at "mp"
        refine ihs β (Nat.le_refl _) hdp6 S3 m h hl _ _ o3 hd3 hz fun ts S4 β4 m4 e4 o4 ok4 hn4 hb4 => ?_
        rw [hn5] at ok4
        walk_at "mp"
        refine d_2 (fun h1 => ?_) fun h1 => ?_
        · walk_at "mp"
          refine q (one (.whl e ts)) S4 β4 m4 ((chf f13).trans e4) o4 ?_ ?_ hb4
          · rw [hn6]; exact ok_one (n := n + 1) ⟨oke4, ok4⟩
          · have : nod (one (.whl e ts)) = 1 + nod ts := by simp [nod, flat, flatT]; omega
            omega
        · walk_at "mp"
          refine d_2 (fun h2 => ?_) fun h2 => ?_
          · walk_at "mp"
            refine q (one (.loop ts)) S4 β4 m4 ((chf f13).trans e4) o4 ?_ ?_ hb4
            · rw [hn6]; exact ok_one (n := n + 1) ok4
            · have : nod (one (.loop ts)) = 1 + nod ts := by simp [nod, flat, flatT]; omega
              omega
          · walk_at "mp"
            refine ihs β4 hb4 hdp6 S4 m4 h hl _ _ o4 (hd3.next e4 hb4) (by omega) fun ts' S5 β5 m5 e5 o5 ok5 hn5' hb5 => ?_
            rw [hn5] at ok5
            walk_at "mp"
            refine q (one (.iff e ts ts')) S5 β5 m5 (((chf f13).trans e4).trans e5) o5 ?_ ?_ (by omega)
            · rw [hn6]; exact ok_one (n := n + 1) ⟨oke4, ok4, ok5⟩
            · have : nod (one (.iff e ts ts')) = 1 + nod ts + nod ts' := by simp [nod, flat, flatT]; omega
              omega
      · walk_at "mp"
        exact t4'
    · walk_at "mp"
      exact t4'
  show wpSs (C k) (.cons (match b_law_one_step with | .cons s _ => s | _ => .pas) (.cons (match sk 1 b_law_one_step with | .cons s _ => s | _ => .pas) (.cons (match sk 2 b_law_one_step with | .cons s _ => s | _ => .pas) os3))) ⟨_, _, _, _, _⟩ _ _
  unfold b_law_one_step
  dsimp only [sk]
  unfold wD at *
  walk_at "mp"
  refine comp_filt (fun x => !inF x hl) gd_nil (fun x hx K hK => ?_) ?_
  · obtain ⟨s, rfl, _⟩ := wo.hlk x hx
    refine cmp_nm ?_
    walk_at "mp"
    refine c_ninl hd.g rfl hd.fl ?_
    cases hi : inF (.str s) hl with
    | true =>
      rw [hi] at hK
      walk_at "mp"
      exact hK
    | false =>
      rw [hi] at hK
      walk_at "mp"
      exact hK
  have fs : Strs (lk.filter fun x => !inF x hl) := fun x hx => wo.hlk x (List.mem_filter.mp hx).1
  have fl_len : (lk.filter fun x => !inF x hl).length ≤ 100 := Nat.le_trans (List.length_filter_le _ _) (by omega)
  generalize (lk.filter fun x => !inF x hl) = free at fs fl_len ⊢
  have la := o.ds.lta
  walk_at "mp"
  refine draw_is (by omega) a b _ _ _ _ o.ds.app (log2_nat (n := w7) (by have := wo.h7; omega)) fun way S1 v0 v1 ds1 fr1 len1 => ?_
  have f1 := Fr.app.trans fr1
  have gf : S1[S.length]? = some (.lst free) := fr1.get (by omega) g_last
  have t3' := t3 S1 S.length way none none none f1 ds1
  have o1 := o.fr nd f1 ds1
  have hd1 := hd.next (chf (mc := mc) (bu := bu) f1) (Nat.le_refl _)
  have gb := o1.hb
  have gh := hd1.g
  walk_at "mp"
  refine d_2 (fun hw => ?_) fun hw => ?_
  · walk_at "mp"
    refine d_2 (fun hfl => ?_) fun hfl => ?_
    · walk_at "mp"
      refine d_2 (fun hb0 => ?_) fun hb0 => ?_
      · obtain ⟨β1, rfl⟩ : ∃ j, β = j + 1 := ⟨β - 1, by omega⟩
        have eb : ((β1 + 1 : Nat) : Int) - 1 = ((β1 : Nat) : Int) := by omega
        walk_at "mp"
        rw [eb]
        rw [show ([D.int ((β1 + 1 : Nat) : Int)].set (Int.toNat 0) (D.int ((β1 : Nat) : Int))) = [D.int (β1 : Nat)] from rfl]
        have o2 := o1.setb nd (β1 := β1)
        have e2 : Ch [a, bu, mc] S (S1.set bu (.lst [.int (β1 : Nat)])) := (chf f1).set (by simp)
        have hd2 := hd.next e2 (by omega : β1 ≤ β1 + 1)
        have hbl : S.length ≠ bu := by have := g_lt o.hb; omega
        have gf2 := g_setn (o' := O.lst [.int (β1 : Nat)]) hbl.symm gf
        generalize S1.set bu (.lst [.int (β1 : Nat)]) = S2 at o2 e2 hd2 gf2 ⊢
        refine pick_is (by omega) o2.ds (by omega) (by omega) (.inr ⟨S.length, rfl, by omega, gf2⟩) fun x S3 hx ds3 fr3 _ => ?_
        obtain ⟨s, rfl, hs⟩ := fs x hx
        have o3 := o2.fr nd fr3 ds3
        have hd3 := hd2.next (chf (mc := mc) (bu := bu) fr3) (Nat.le_refl _)
        have gh3 := hd3.g
        have hl3 := hd3.len
        walk_at "mp"
        refine b_addl (g_app gh3) g_last (by rw [sizeLine_eq, List.length_singleton]; omega) ?_
        walk_at "mp"
        have lS := g_lt gh3
        have lb := g_lt o3.hb
        have la3 := ds3.lta
        obtain ⟨lm, gm3, _⟩ := o3.hm
        have lmc := g_lt gm3
        refine ihb β1 rfl _ m (S3 ++ [O.lst [D.str s]]).length (hl ++ [.str s]) _ _ o3.app.app ⟨g_last, ?_, ?_, ?_, ?_, ?_⟩ (by omega) fun ts S4 β4 m4 e4 o4 ok4 hn4 hb4 => ?_
        · rw [List.all_append, hd.fl]; rfl
        · rw [List.length_append, List.length_singleton]; have := hd.len; omega
        · simp; omega
        · simp; omega
        · simp; omega
        have lt := tsD_len ts
        unfold bD
        walk_at "mp"
        refine b_addt (by rw [sizeLine_eq]; simp; omega) ?_
        walk_at "mp"
        refine b_addt (by rw [sizeLine_eq]; simp; omega) ?_
        have ok_l : ∀ h : Str, ((h ≠ "if" ∧ h ≠ "while" ∧ h ≠ "loop" ∧ h ≠ "mark") ∧ h ≠ "set" ∧ h ≠ "wait" ∧ h ≠ "send") ∧ PyData.strOk h = true → okS (6 - dp) (one (.leaf h [.str s] (.num 0))) := fun h hh => ok_one (by
          have := leaf_one hh (strs_1 ⟨s, rfl, hs⟩) (by simp)
          cases (6 - dp) <;> exact this)
        have e : D.tup ([D.tup [D.str "lock", D.str s]] ++ tsD ts ++ [D.tup [D.str "unlock", D.str s]]) = bD (apS (one (.leaf "lock" [.str s] (.num 0))) (apS ts (one (.leaf "unlock" [.str s] (.num 0))))) := by
          unfold bD
          rw [tsD_ap, tsD_ap]
          simp [tsD, tD]
        rw [e]
        refine q _ S4 β4 m4 (((e2.trans (chf fr3)).app.app).trans e4) o4 (okS_ap (ok_l _ (by decide +kernel)) (okS_ap ok4 (ok_l _ (by decide +kernel)))) ?_ (by omega)
        have n1 : ∀ h : Str, nod (one (.leaf h [.str s] (.num 0))) = 1 := fun h => by simp [nod, flat, flatT]
        rw [nod_ap, nod_ap, n1, n1]
        omega
      · walk_at "mp"
        exact t3'
    · walk_at "mp"
      exact t3'
  · walk_at "mp"
    exact t3'
end
end K17
/-! K17R: law k17, what is drawn: blocks. -/
namespace K17
open PySem PySem.Spec PyProof.Rows L2 MP
local macro_rules | `(tactic| walk_at "look") => `(tactic| first | assumption | exact g_last | (with_reducible apply g_set; walk_at "look") | ((with_reducible refine g_setn ?h1 ?h2); (case h1 => first | assumption | omega | (apply Ne.symm; assumption)); (case h2 => walk_at "look")) | ((with_reducible refine g_app ?_); walk_at "look") | ((with_reducible refine' Fr.get ?h1 ?h2 ?h3); (case h1 => assumption); (case h2 => first | assumption | omega | (apply Ne.symm; assumption)); (case h3 => walk_at "look")) | ((with_reducible refine' Ch.get ?h1 ?h2 ?h3); (case h1 => assumption); (case h2 => first | assumption | (simp; done) | (simp only [List.mem_cons, List.not_mem_nil, or_false, not_or]; omega)); (case h3 => walk_at "look")))
local macro_rules | `(tactic| walk_at "kn") => `(tactic| first | assumption | omega | (simp; done) | decide)
local macro_rules | `(tactic| walk_at "sz") => `(tactic| first | assumption | (rw [sizeLine_eq]; first | omega | (simp; done) | (simp; omega)))
local macro_rules | `(tactic| walk_at "at") => `(tactic| first | exact rfl | assumption)
local macro_rules | `(tactic| walk_at "mp1") => `(tactic| first
  | with_reducible refine s_cons ?_ | with_reducible refine s_nil ?_ | with_reducible refine s_nm ?_ | with_reducible refine s_ix ?_ | with_reducible refine s_asg ?_ | with_reducible refine s_ex ?_ | with_reducible refine s_iff ?_ | with_reducible refine s_ret ?_ | with_reducible refine s_for ?_
  | ((with_reducible refine' e_var ?h1 ?_); (case h1 => exact rfl)) | with_reducible refine e_int ?_ | with_reducible refine e_bin ?_ | with_reducible refine e_cmp ?_ | with_reducible refine e_ix ?_ | with_reducible refine e_call ?_ | with_reducible refine e_blt ?_ | with_reducible refine e_bl ?_ | with_reducible refine e_and ?_ | with_reducible refine e_or ?_ | with_reducible refine e_not ?_ | with_reducible refine e_ite ?_
  | with_reducible refine es_cons ?_ | with_reducible refine es_nil ?_ | with_reducible refine e_tup ?_ | with_reducible refine e_lst ?_ | with_reducible refine e_meth ?_ | with_reducible refine e_comp ?_ | with_reducible refine e_sl ?_ | with_reducible refine e_neg ?_ | with_reducible refine e_isi ?_ | with_reducible refine e_lrg ?_ | with_reducible refine e_non ?_ | with_reducible refine e_str ?_ | with_reducible refine e_fnv ?_ | with_reducible refine e_orl ?_ | with_reducible refine e_dnew ?_ | with_reducible refine e_dget ?_ | with_reducible refine e_dget2 ?_
  | with_reducible refine o_no ?_ | with_reducible refine o_so ?_ | with_reducible refine i_rng ?_ | with_reducible refine i_seq ?_ | with_reducible refine i_enum ?_ | with_reducible refine if_nil ?_ | with_reducible refine if_cons ?_ | with_reducible refine rg_1 ?_ | with_reducible refine rg_2 ?_
  | with_reducible refine b_add ?_ | with_reducible refine b_sub ?_ | ((with_reducible refine' b_mul ?h1 ?_); (case h1 => first | assumption | mul_fits)) | ((with_reducible refine' b_fdiv ?h1 ?h2 ?_); (case h1 => walk_at "kn"); (case h2 => first | assumption | decide)) | ((with_reducible refine' b_mod ?h1 ?_); (case h1 => walk_at "kn")) | ((with_reducible refine' b_pow ?h1 ?_); (case h1 => first | assumption | exact ⟨by decide, by decide, by decide⟩)) | ((with_reducible refine' b_shr ?h1 ?_); (case h1 => walk_at "kn")) | ((with_reducible refine' b_shl ?h1 ?_); (case h1 => assumption)) | with_reducible refine b_and ?_ | with_reducible refine b_or ?_ | with_reducible refine b_xor ?_
  | with_reducible refine c_lt ?_ | with_reducible refine c_le ?_ | with_reducible refine c_gt ?_ | with_reducible refine c_ge ?_ | with_reducible refine c_eqi ?_ | with_reducible refine c_nei ?_ | with_reducible refine c_eqb ?_ | with_reducible refine c_neb ?_ | with_reducible refine c_eqs ?_ | with_reducible refine c_nes ?_
  | with_reducible refine t_bl ?_ | with_reducible refine t_int ?_ | with_reducible refine t_tup ?_ | with_reducible refine t_non ?_
  | ((with_reducible refine' x_ref ?h1 ?h2 ?_); (case h1 => walk_at "look"); (case h2 => walk_at "at")) | ((with_reducible refine' x_tup ?h1 ?_); (case h1 => walk_at "at")) | ((with_reducible refine' x_klst ?h1 ?_); (case h1 => walk_at "at"))
  | ((with_reducible refine' set_ref ?h1 ?h2 ?_); (case h1 => walk_at "look"); (case h2 => walk_at "at"))
  | ((with_reducible refine' f_lenr ?h1 ?_); (case h1 => walk_at "look")) | with_reducible refine f_lent ?_ | with_reducible refine f_lenk ?_ | with_reducible refine f_int ?_ | ((with_reducible refine' f_listr ?h1 ?_); (case h1 => walk_at "look")) | with_reducible refine f_listt ?_ | with_reducible refine f_listk ?_ | ((with_reducible refine' f_tupr ?h1 ?_); (case h1 => walk_at "look")) | with_reducible refine f_tupt ?_ | with_reducible refine f_max ?_ | with_reducible refine f_min ?_
  | with_reducible refine sl_klst ?_ | ((with_reducible refine' sl_ref ?h1 ?_); (case h1 => walk_at "look")) | with_reducible refine sl_tup ?_
  | ((with_reducible refine' m_app ?h1 ?h2 ?_); (case h1 => walk_at "look"); (case h2 => walk_at "sz")) | ((with_reducible refine' m_ext ?h1 ?h2 ?h3 ?_); (case h1 => walk_at "look"); (case h2 => walk_at "look"); (case h3 => walk_at "sz")) | ((with_reducible refine' m_extT ?h1 ?h3 ?_); (case h1 => walk_at "look"); (case h3 => walk_at "sz"))
  | with_reducible refine k_t ?_ | with_reducible refine k_f ?_ | with_reducible refine k_nt ?_ | with_reducible refine k_nf ?_
  | ((with_reducible refine' d_t ?h1 ?_); (case h1 => first | assumption | omega)) | ((with_reducible refine' d_f ?h1 ?_); (case h1 => first | assumption | omega)) | ((with_reducible refine' d_nt ?h1 ?_); (case h1 => first | assumption | omega)) | ((with_reducible refine' d_nf ?h1 ?_); (case h1 => first | assumption | omega))
  | ((with_reducible refine' And.intro (r_lst ?h1 ?h2) ?_); (case h1 => decide); (case h2 => walk_at "look")) | (with_reducible refine And.intro r_int ?_)
  | ((with_reducible refine And.intro ?h1 ?_); (case h1 => (with_reducible show List.length _ ≤ sizeLine); walk_at "sz"))
  | dsimp only
  | dsimp only [isTy_int, isTy_bl, isTy_str, isTy_non, isTy_tup])
local macro_rules | `(tactic| walk_at "mp") => `(tactic| repeat walk_at "mp1")

section
variable {a b bu mc nm w5 w6 w7 : Nat} {lk qs gs : List D} {bx : D}
def bk2 : MSs := sk 2 b_law_block
def bkB : MSs := match sk 1 b_law_block with
  | .cons (.for_ _ _ b) _ => b
  | _ => .nil
def bkB1 : MSs := sk 1 bkB
set_option maxHeartbeats 8000000 in
theorem bl_step {k β dp : Nat} (nd : Nd a b bu mc nm) (wo : WOk lk qs gs w5 w6 w7) (hk : 1 ≤ k) (ih : ∀ β1, β1 < β → OsS a b bu mc nm (wD bx lk qs gs nm w5 w6 w7) k β1 dp) : BlS a b bu mc nm (wD bx lk qs gs nm w5 w6 w7) (k + 1) β dp := by
  intro S m h hl Q E o hd hz q
  refine c_law_block ?_
  have t2 : ∀ (ts : Ts) (S1 : Sto) (β1 m1 : Nat) (s7 : Option D), Ch [a, bu, mc] S S1 → Wo a b bu mc nm S1 β1 m1 → okS (6 - dp) ts → nod ts + β1 + m1 ≤ β + m → β1 ≤ β → wpSs (C k) bk2 (eG Q E) [some (.ref a), some (wD bx lk qs gs nm w5 w6 w7), some (.ref bu), some (.int (dp : Nat)), some (.ref h), some (.ref mc), some (bD ts), s7] S1 := fun ts S1 β1 m1 s7 e1 o1 ok1 hn1 hb1 => by
    unfold bk2 b_law_block eG
    simp only [sk]
    refine s_cons (mark_ok (c := 5) (n := 6 - dp) nd hk (.inr rfl) o1 ok1 (by omega) fun ts2 S2 m2 e2 o2 ok2 hn2 => ?_)
    walk_at "mp"
    exact q ts2 S2 β1 m2 (e1.trans e2) o2 ok2 (by omega) hb1
  show wpSs (C k) (.cons (match b_law_block with | .cons s _ => s | _ => .pas) (.cons (match sk 1 b_law_block with | .cons (.for_ t i _) _ => .for_ t i bkB | _ => .pas) bk2)) ⟨_, _, _, _, _⟩ _ _
  unfold b_law_block
  dsimp only [sk]
  refine s_cons (s_nm (e_tup (es_nil ⟨Nat.zero_le _, ?_⟩)))
  refine s_cons (s_for (i_rng (es_cons ?_)))
  have h5 := wo.h5
  unfold wD at *
  walk_at "mp"
  refine draw_is hk a b _ _ _ _ o.ds (log2_nat (n := w5) (by omega)) fun v S1 v0 v1 ds1 fr1 len1 => ?_
  obtain ⟨n, rfl⟩ := Int.eq_ofNat_of_zero_le v0
  have en : (1 : Int) + ((n : Nat) : Int) = ((1 + n : Nat) : Int) := by omega
  have hn : n ≤ 12 := by omega
  walk_at "mp"
  rw [en]
  refine ⟨rg_ok (by omega), ?_⟩
  refine for_rg (hC _) (fun i σ S' => ∃ ts β' m' s7, σ = [some (.ref a), some (D.tup [bx, D.tup lk, D.tup qs, D.tup gs, D.ref nm, D.int (w5 : Nat), D.int (w6 : Nat), D.int (w7 : Nat)]), some (.ref bu), some (.int (dp : Nat)), some (.ref h), some (.ref mc), some (bD ts), s7] ∧ Ch [a, bu, mc] S S' ∧ Wo a b bu mc nm S' β' m' ∧ okS (6 - dp) ts ∧ nod ts + β' + m' ≤ β + m ∧ β' ≤ β) ?_ ?_ ?_
  · exact ⟨.nil, β, m, none, rfl, chf fr1, o.fr nd fr1 ds1, by cases (6 - dp) <;> trivial, by simp [nod, flat], Nat.le_refl _⟩
  · rintro i σ S2 hi ⟨ts, β2, m2, s7, rfl, e2, o2, ok2, hn2, hb2⟩
    show wpSs (C k) (.cons (match sk 1 b_law_block with | .cons (.for_ _ _ (.cons s _)) _ => s | _ => .pas) bkB1) ⟨_, _, _, _, _⟩ _ _
    unfold b_law_block
    dsimp only [sk]
    refine s_cons (mark_ok (c := 4) (n := 6 - dp) nd hk (.inl rfl) o2 ok2 (by omega) fun ts3 S3 m3 e3 o3 ok3 hn3 => ?_)
    have e23 := e2.trans e3
    unfold bkB1 bkB b_law_block
    simp only [sk]
    have gb := o3.hb
    walk_at "mp"
    refine d_2 (fun h1 => ?_) fun h1 => ?_
    · walk_at "mp"
      refine s_brk ?_
      exact t2 ts3 S3 β2 m3 _ e23 o3 ok3 (by omega) hb2
    · obtain ⟨β3, rfl⟩ : ∃ j, β2 = j + 1 := ⟨β2 - 1, by omega⟩
      have eb : ((β3 + 1 : Nat) : Int) - 1 = ((β3 : Nat) : Int) := by omega
      walk_at "mp"
      rw [eb]
      rw [show ([D.int ((β3 + 1 : Nat) : Int)].set (Int.toNat 0) (D.int ((β3 : Nat) : Int))) = [D.int (β3 : Nat)] from rfl]
      have o4 := o3.setb nd (β1 := β3)
      have e4 : Ch [a, bu, mc] S (S3.set bu (.lst [.int (β3 : Nat)])) := e23.set (by simp)
      generalize S3.set bu (.lst [.int (β3 : Nat)]) = S4 at o4 e4 ⊢
      refine ih β3 (by omega) S4 m3 h hl _ _ o4 (hd.next e4 (by omega)) (by omega) fun ts5 S5 β5 m5 e5 o5 ok5 hn5 hb5 => ?_
      have l1 := tsD_len ts3
      have l2 := tsD_len ts5
      unfold bD
      walk_at "mp"
      refine b_addt (by rw [sizeLine_eq]; omega) ?_
      walk_at "mp"
      rw [bD_ap]
      refine ⟨apS ts3 ts5, β5, m5, _, rfl, e4.trans e5, o5, okS_ap ok3 ok5, ?_, by omega⟩
      rw [nod_ap]
      omega
  · rintro σ S2 ⟨ts, β2, m2, s7, rfl, e2, o2, ok2, hn2, hb2⟩
    exact t2 ts S2 β2 m2 s7 e2 o2 ok2 hn2 hb2
theorem bl_all (nd : Nd a b bu mc nm) (wo : WOk lk qs gs w5 w6 w7) : ∀ (β : Nat) (k dp : Nat), 3 * β + 12 ≤ k → BlS a b bu mc nm (wD bx lk qs gs nm w5 w6 w7) k β dp := by
  intro β
  induction β using Nat.strongRecOn with
  | _ β ih =>
    intro k dp hk
    obtain ⟨k, rfl⟩ := up (n := 3) (by omega : 3 ≤ k)
    refine bl_step nd wo (by omega) fun β1 h1 => ?_
    refine os_step nd wo (by omega) (fun β2 h2 hdp => ?_) fun β2 h2 => ?_
    · exact sb_step nd (by omega) (ih β2 (by omega) k (dp + 1) (by omega))
    · exact ih β2 (by omega) (k + 1) dp (by omega)
end
end K17
/-! K17S: law k17, what is drawn: bodies. -/
namespace K17
open PySem PySem.Spec PyProof.Rows L2 MP
local macro_rules | `(tactic| walk_at "look") => `(tactic| first | assumption | exact g_last | (with_reducible apply g_set; walk_at "look") | ((with_reducible refine g_setn ?h1 ?h2); (case h1 => first | assumption | omega | (apply Ne.symm; assumption)); (case h2 => walk_at "look")) | ((with_reducible refine g_app ?_); walk_at "look") | ((with_reducible refine' Fr.get ?h1 ?h2 ?h3); (case h1 => assumption); (case h2 => first | assumption | omega | (apply Ne.symm; assumption)); (case h3 => walk_at "look")) | ((with_reducible refine' Ch.get ?h1 ?h2 ?h3); (case h1 => assumption); (case h2 => first | assumption | (simp; done) | (simp only [List.mem_cons, List.not_mem_nil, or_false, not_or]; omega)); (case h3 => walk_at "look")))
local macro_rules | `(tactic| walk_at "kn") => `(tactic| first | assumption | omega | (simp; done) | decide)
local macro_rules | `(tactic| walk_at "sz") => `(tactic| first | assumption | (rw [sizeLine_eq]; first | omega | (simp; done) | (simp; omega)))
local macro_rules | `(tactic| walk_at "at") => `(tactic| first | exact rfl | assumption)
local macro_rules | `(tactic| walk_at "mp1") => `(tactic| first
  | with_reducible refine s_cons ?_ | with_reducible refine s_nil ?_ | with_reducible refine s_nm ?_ | with_reducible refine s_ix ?_ | with_reducible refine s_asg ?_ | with_reducible refine s_ex ?_ | with_reducible refine s_iff ?_ | with_reducible refine s_ret ?_ | with_reducible refine s_for ?_
  | ((with_reducible refine' e_var ?h1 ?_); (case h1 => exact rfl)) | with_reducible refine e_int ?_ | with_reducible refine e_bin ?_ | with_reducible refine e_cmp ?_ | with_reducible refine e_ix ?_ | with_reducible refine e_call ?_ | with_reducible refine e_blt ?_ | with_reducible refine e_bl ?_ | with_reducible refine e_and ?_ | with_reducible refine e_or ?_ | with_reducible refine e_not ?_ | with_reducible refine e_ite ?_
  | with_reducible refine es_cons ?_ | with_reducible refine es_nil ?_ | with_reducible refine e_tup ?_ | with_reducible refine e_lst ?_ | with_reducible refine e_meth ?_ | with_reducible refine e_comp ?_ | with_reducible refine e_sl ?_ | with_reducible refine e_neg ?_ | with_reducible refine e_isi ?_ | with_reducible refine e_lrg ?_ | with_reducible refine e_non ?_ | with_reducible refine e_str ?_ | with_reducible refine e_fnv ?_ | with_reducible refine e_orl ?_ | with_reducible refine e_dnew ?_ | with_reducible refine e_dget ?_ | with_reducible refine e_dget2 ?_
  | with_reducible refine o_no ?_ | with_reducible refine o_so ?_ | with_reducible refine i_rng ?_ | with_reducible refine i_seq ?_ | with_reducible refine i_enum ?_ | with_reducible refine if_nil ?_ | with_reducible refine if_cons ?_ | with_reducible refine rg_1 ?_ | with_reducible refine rg_2 ?_
  | with_reducible refine b_add ?_ | with_reducible refine b_sub ?_ | ((with_reducible refine' b_mul ?h1 ?_); (case h1 => first | assumption | mul_fits)) | ((with_reducible refine' b_fdiv ?h1 ?h2 ?_); (case h1 => walk_at "kn"); (case h2 => first | assumption | decide)) | ((with_reducible refine' b_mod ?h1 ?_); (case h1 => walk_at "kn")) | ((with_reducible refine' b_pow ?h1 ?_); (case h1 => first | assumption | exact ⟨by decide, by decide, by decide⟩)) | ((with_reducible refine' b_shr ?h1 ?_); (case h1 => walk_at "kn")) | ((with_reducible refine' b_shl ?h1 ?_); (case h1 => assumption)) | with_reducible refine b_and ?_ | with_reducible refine b_or ?_ | with_reducible refine b_xor ?_
  | with_reducible refine c_lt ?_ | with_reducible refine c_le ?_ | with_reducible refine c_gt ?_ | with_reducible refine c_ge ?_ | with_reducible refine c_eqi ?_ | with_reducible refine c_nei ?_ | with_reducible refine c_eqb ?_ | with_reducible refine c_neb ?_ | with_reducible refine c_eqs ?_ | with_reducible refine c_nes ?_
  | with_reducible refine t_bl ?_ | with_reducible refine t_int ?_ | with_reducible refine t_tup ?_ | with_reducible refine t_non ?_
  | ((with_reducible refine' x_ref ?h1 ?h2 ?_); (case h1 => walk_at "look"); (case h2 => walk_at "at")) | ((with_reducible refine' x_tup ?h1 ?_); (case h1 => walk_at "at")) | ((with_reducible refine' x_klst ?h1 ?_); (case h1 => walk_at "at"))
  | ((with_reducible refine' set_ref ?h1 ?h2 ?_); (case h1 => walk_at "look"); (case h2 => walk_at "at"))
  | ((with_reducible refine' f_lenr ?h1 ?_); (case h1 => walk_at "look")) | with_reducible refine f_lent ?_ | with_reducible refine f_lenk ?_ | with_reducible refine f_int ?_ | ((with_reducible refine' f_listr ?h1 ?_); (case h1 => walk_at "look")) | with_reducible refine f_listt ?_ | with_reducible refine f_listk ?_ | ((with_reducible refine' f_tupr ?h1 ?_); (case h1 => walk_at "look")) | with_reducible refine f_tupt ?_ | with_reducible refine f_max ?_ | with_reducible refine f_min ?_
  | with_reducible refine sl_klst ?_ | ((with_reducible refine' sl_ref ?h1 ?_); (case h1 => walk_at "look")) | with_reducible refine sl_tup ?_
  | ((with_reducible refine' m_app ?h1 ?h2 ?_); (case h1 => walk_at "look"); (case h2 => walk_at "sz")) | ((with_reducible refine' m_ext ?h1 ?h2 ?h3 ?_); (case h1 => walk_at "look"); (case h2 => walk_at "look"); (case h3 => walk_at "sz")) | ((with_reducible refine' m_extT ?h1 ?h3 ?_); (case h1 => walk_at "look"); (case h3 => walk_at "sz"))
  | with_reducible refine k_t ?_ | with_reducible refine k_f ?_ | with_reducible refine k_nt ?_ | with_reducible refine k_nf ?_
  | ((with_reducible refine' d_t ?h1 ?_); (case h1 => first | assumption | omega)) | ((with_reducible refine' d_f ?h1 ?_); (case h1 => first | assumption | omega)) | ((with_reducible refine' d_nt ?h1 ?_); (case h1 => first | assumption | omega)) | ((with_reducible refine' d_nf ?h1 ?_); (case h1 => first | assumption | omega))
  | ((with_reducible refine' And.intro (r_lst ?h1 ?h2) ?_); (case h1 => decide); (case h2 => walk_at "look")) | (with_reducible refine And.intro r_int ?_)
  | ((with_reducible refine And.intro ?h1 ?_); (case h1 => (with_reducible show List.length _ ≤ sizeLine); walk_at "sz"))
  | dsimp only
  | dsimp only [isTy_int, isTy_bl, isTy_str, isTy_non, isTy_tup])
local macro_rules | `(tactic| walk_at "mp") => `(tactic| repeat walk_at "mp1")

def strsB (l : List D) : Bool := l.all fun x => match x with
  | .str s => PyData.strOk s
  | _ => false
theorem strs_of {l : List D} (h : strsB l = true) : Strs l := fun x hx => by
  have := List.all_eq_true.mp h x hx
  cases x with
  | str s => exact ⟨s, rfl, this⟩
  | _ => cases this
section
variable {k a b : Nat} {S : Sto} {Q : KD} {E : Ex → Sto → Prop}
theorem pool_ok (hk : 1 ≤ k) (q : ∀ l, Strs l → l.length = 40 → Q (.tup l) S) : C k f_law_pool [] S Q E := by
  obtain ⟨k, rfl⟩ := up hk
  refine c_law_pool ?_
  unfold b_law_pool
  walk_at "mp"
  exact q _ (strs_of (by decide +kernel)) rfl
theorem spun_ok (hk : 2 ≤ k) (ds : DS S a b) (q : ∀ r l S', Strs l → l.length = 40 → S.length ≤ r → S'[r]? = some (.lst l) → DS S' a b → Fr a S S' → Q (.ref r) S') : C k f_law_spun [.ref a] S Q E := by
  obtain ⟨k, rfl⟩ := up (n := 1) (by omega : 1 ≤ k)
  refine c_law_spun ?_
  unfold b_law_spun
  walk_at "mp"
  refine draw_is (by omega) a b _ _ _ _ ds (by decide) fun v S1 v0 v1 ds1 fr1 len1 => ?_
  obtain ⟨n, rfl⟩ := Int.eq_ofNat_of_zero_le v0
  walk_at "mp"
  refine pool_ok (by omega) fun l hl ln => ?_
  walk_at "mp"
  rw [cut_from, cut_to]
  have g1 : (S1 ++ [O.lst l] ++ [O.lst (l.drop n)] ++ [O.lst (l.take n)])[(S1 ++ [O.lst l]).length]? = some (.lst (l.drop n)) := g_app g_last
  refine b_addl g1 g_last (by rw [sizeLine_eq, List.length_drop, List.length_take]; omega) ?_
  refine q _ _ _ (fun x hx => ?_) ?_ ?_ g_last ds1.app.app.app.app ((((fr1.trans Fr.app).trans Fr.app).trans Fr.app).trans Fr.app)
  · rcases List.mem_append.mp hx with hx | hx
    · exact hl x (List.mem_of_mem_drop hx)
    · exact hl x (List.mem_of_mem_take hx)
  · rw [List.length_append, List.length_drop, List.length_take]; omega
  · simp; omega
theorem ints_3 {x : D} (h : x ∈ [D.int 3, D.int 3, D.int 12]) : ∃ n : Nat, x = .int (n : Nat) ∧ n ≤ 12 := by
  simp only [List.mem_cons, List.not_mem_nil, or_false] at h
  rcases h with rfl | rfl | rfl
  · exact ⟨3, rfl, by decide⟩
  · exact ⟨3, rfl, by decide⟩
  · exact ⟨12, rfl, by decide⟩
theorem ints_6 {x : D} (h : x ∈ [D.int 2, D.int 6, D.int 6]) : ∃ n : Nat, x = .int (n : Nat) ∧ n ≤ 6 := by
  simp only [List.mem_cons, List.not_mem_nil, or_false] at h
  rcases h with rfl | rfl | rfl
  · exact ⟨2, rfl, by decide⟩
  · exact ⟨6, rfl, by decide⟩
  · exact ⟨6, rfl, by decide⟩
theorem ints_9 {x : D} (h : x ∈ [D.int 5, D.int 9]) : ∃ n : Nat, x = .int (n : Nat) ∧ n ≤ 100 := by
  simp only [List.mem_cons, List.not_mem_nil, or_false] at h
  rcases h with rfl | rfl
  · exact ⟨5, rfl, by decide⟩
  · exact ⟨9, rfl, by decide⟩
theorem ints_30 {x : D} (h : x ∈ [D.int 3, D.int 6, D.int 12, D.int 30]) : ∃ n : Nat, x = .int (n : Nat) ∧ n ≤ 30 := by
  simp only [List.mem_cons, List.not_mem_nil, or_false] at h
  rcases h with rfl | rfl | rfl | rfl
  · exact ⟨3, rfl, by decide⟩
  · exact ⟨6, rfl, by decide⟩
  · exact ⟨12, rfl, by decide⟩
  · exact ⟨30, rfl, by decide⟩
theorem ints_8 {x : D} (h : x ∈ [D.int 2, D.int 8]) : ∃ n : Nat, x = .int (n : Nat) ∧ n ≤ 8 := by
  simp only [List.mem_cons, List.not_mem_nil, or_false] at h
  rcases h with rfl | rfl
  · exact ⟨2, rfl, by decide⟩
  · exact ⟨8, rfl, by decide⟩
set_option maxHeartbeats 8000000 in
theorem body_ok (hk : 104 ≤ k) (ds : DS S a b) (q : ∀ ts S', okS 5 ts → nod ts ≤ 1000 → DS S' a b → Q (bD ts) S') : C k f_law_body [.ref a] S Q E := by
  obtain ⟨k, rfl⟩ := up (n := 1) (by omega : 1 ≤ k)
  have la := ds.lta
  have lb := ds.ltb
  refine c_law_body ?_
  unfold b_law_body
  walk_at "mp"
  refine draw_is (by omega) a b _ _ _ _ ds (by decide) fun v S1 v0 v1 ds1 fr1 len1 => ?_
  walk_at "mp"
  refine d_2 (fun h1 => ?_) fun h1 => ?_
  · walk_at "mp"
    exact q .nil S1 trivial (by simp [nod, flat]) ds1
  walk_at "mp"
  refine spun_ok (by omega) ds1 fun r l S2 hl ln hr gr ds2 fr2 => ?_
  have gl : ∀ i (h : i < 40), l[i]? = some (l[i]'(by omega)) := fun i h => List.getElem?_eq_getElem (by omega)
  have hs : ∀ i (h : i < 40), ∃ s, (l[i]'(by omega)) = .str s ∧ PyData.strOk s = true := fun i h => hl _ (List.getElem_mem _)
  obtain ⟨n0, e0, p0⟩ := hs 0 (by decide)
  obtain ⟨n1, e1, p1⟩ := hs 1 (by decide)
  obtain ⟨n2, e2, p2⟩ := hs 2 (by decide)
  obtain ⟨n3, e3, p3⟩ := hs 3 (by decide)
  obtain ⟨n4, e4, p4⟩ := hs 4 (by decide)
  obtain ⟨n5, e5, p5⟩ := hs 5 (by decide)
  have a0 : atI l 0 = some (.str n0) := atI_nat (j := 0) (by rw [gl 0 (by decide), e0])
  have a1 : atI l 1 = some (.str n1) := atI_nat (j := 1) (by rw [gl 1 (by decide), e1])
  have a2 : atI l 2 = some (.str n2) := atI_nat (j := 2) (by rw [gl 2 (by decide), e2])
  have a3 : atI l 3 = some (.str n3) := atI_nat (j := 3) (by rw [gl 3 (by decide), e3])
  have a4 : atI l 4 = some (.str n4) := atI_nat (j := 4) (by rw [gl 4 (by decide), e4])
  have a5 : atI l 5 = some (.str n5) := atI_nat (j := 5) (by rw [gl 5 (by decide), e5])
  walk_at "mp"
  have l12 := fr2.le
  refine pick_is (xs := [D.int 3, D.int 3, D.int 12]) (by omega) ds2.app (by decide) (by decide) (.inl rfl) fun x5 S3 hx5 ds3 fr3 len3 => ?_
  obtain ⟨w5, rfl, h5⟩ := ints_3 hx5
  walk_at "mp"
  refine pick_is (xs := [D.int 2, D.int 6, D.int 6]) (by omega) ds3 (by decide) (by decide) (.inl rfl) fun x6 S4 hx6 ds4 fr4 len4 => ?_
  obtain ⟨w6, rfl, h6⟩ := ints_6 hx6
  walk_at "mp"
  refine pick_is (xs := [D.int 5, D.int 9]) (by omega) ds4 (by decide) (by decide) (.inl rfl) fun x7 S5 hx7 ds5 fr5 len5 => ?_
  obtain ⟨w7, rfl, h7⟩ := ints_9 hx7
  walk_at "mp"
  refine pick_is (xs := [D.int 3, D.int 6, D.int 12, D.int 30]) (by omega) ds5 (by decide) (by decide) (.inl rfl) fun x8 S6 hx8 ds6 fr6 len6 => ?_
  obtain ⟨β, rfl, hβ⟩ := ints_30 hx8
  walk_at "mp"
  have lS6 : S6.length = S2.length + 1 := by rw [len6, len5, len4, len3]; simp
  have lS1 := fr1.le
  have gn6 : S6[S2.length]? = some (.lst [.str n0, .str n1]) := fr6.get (by omega) (fr5.get (by omega) (fr4.get (by omega) (fr3.get (by omega) g_last)))
  have gb7 : (S6 ++ [O.lst [D.int (β : Nat)]] ++ [O.lst []])[S6.length]? = some (.lst [.int (β : Nat)]) := g_app g_last
  have gh7 : (S6 ++ [O.lst [D.int (β : Nat)]] ++ [O.lst []])[(S6 ++ [O.lst [D.int (β : Nat)]]).length]? = some (.lst []) := g_last
  have hh : (S6 ++ [O.lst [D.int (β : Nat)]]).length = S6.length + 1 := by simp
  refine spun_ok (by omega) ds6.app.app fun r2 l2 S7 hl2 ln2 hr2 gr2 ds7 fr7 => ?_
  walk_at "mp"
  refine pick_is (xs := [D.int 2, D.int 8]) (by omega) ds7 (by decide) (by decide) (.inl rfl) fun x9 S8 hx9 ds8 fr8 len8 => ?_
  obtain ⟨m9, rfl, h9⟩ := ints_8 hx9
  have l7 := fr7.le
  have l8 := fr8.le
  simp at l7 hr2
  have gr8 := fr8.get (by omega) gr2
  have f78 := fr7.trans fr8
  walk_at "mp"
  rw [cut_to]
  have nd : Nd a b S6.length S8.length S2.length := by constructor <;> omega
  have wo : WOk [D.str n2, D.str n3] [D.tup [D.str n4, D.int 0, D.int 1, D.int 2]] [D.tup [D.str n5, D.int 0, D.int 1, D.int 1]] w5 w6 w7 := by
    refine ⟨strs_2 ⟨_, rfl, p2⟩ ⟨_, rfl, p3⟩, by simp, fun x hx => ?_, by simp, h5, h6, h7⟩
    simp only [List.cons_append, List.nil_append, List.mem_cons, List.not_mem_nil, or_false] at hx
    rcases hx with rfl | rfl
    · exact ⟨_, _, rfl, p4⟩
    · exact ⟨_, _, rfl, p5⟩
  have o : Wo a b S6.length S8.length S2.length (S8 ++ [O.lst (l2.take m9)]) β (l2.take m9).length := by
    refine ⟨ds8.app, g_app (f78.get (by omega) gb7), ⟨_, g_last, fun x hx => hl2 x (List.mem_of_mem_take hx), rfl⟩, _, by omega, g_app (f78.get (by omega) (g_app (g_app gn6))), strs_2 ⟨_, rfl, p0⟩ ⟨_, rfl, p1⟩, by simp⟩
  have lt : (l2.take m9).length ≤ 8 := by rw [List.length_take]; omega
  refine bl_all nd wo β k 1 (by omega) _ (l2.take m9).length _ [] _ _ o ⟨g_app (f78.get (by omega) gh7), rfl, by simp; omega, by omega, by omega, by omega⟩ (by omega) fun ts S9 β9 m9' e9 o9 ok9 hn9 hb9 => ?_
  exact q ts S9 ok9 (by omega) o9.ds
end
end K17
/-! K17Law: law k17. -/
namespace K17
open PySem PySem.Spec PyProof.Rows L2 MP
local macro_rules | `(tactic| walk_at "look") => `(tactic| first | assumption | exact g_last | (with_reducible apply g_set; walk_at "look") | ((with_reducible refine g_setn ?h1 ?h2); (case h1 => first | assumption | omega | (apply Ne.symm; assumption)); (case h2 => walk_at "look")) | ((with_reducible refine g_app ?_); walk_at "look") | ((with_reducible refine' Fr.get ?h1 ?h2 ?h3); (case h1 => assumption); (case h2 => first | assumption | omega | (apply Ne.symm; assumption)); (case h3 => walk_at "look")) | ((with_reducible refine' Ch.get ?h1 ?h2 ?h3); (case h1 => assumption); (case h2 => first | assumption | (simp; done) | (simp only [List.mem_cons, List.not_mem_nil, or_false, not_or]; omega)); (case h3 => walk_at "look")))
local macro_rules | `(tactic| walk_at "kn") => `(tactic| first | assumption | omega | (simp; done) | decide)
local macro_rules | `(tactic| walk_at "sz") => `(tactic| first | assumption | (rw [sizeLine_eq]; first | omega | (simp; done) | (simp; omega)))
local macro_rules | `(tactic| walk_at "at") => `(tactic| first | exact rfl | assumption)
local macro_rules | `(tactic| walk_at "mp1") => `(tactic| first
  | with_reducible refine s_cons ?_ | with_reducible refine s_nil ?_ | with_reducible refine s_nm ?_ | with_reducible refine s_ix ?_ | with_reducible refine s_asg ?_ | with_reducible refine s_ex ?_ | with_reducible refine s_iff ?_ | with_reducible refine s_ret ?_ | with_reducible refine s_for ?_
  | ((with_reducible refine' e_var ?h1 ?_); (case h1 => exact rfl)) | with_reducible refine e_int ?_ | with_reducible refine e_bin ?_ | with_reducible refine e_cmp ?_ | with_reducible refine e_ix ?_ | with_reducible refine e_call ?_ | with_reducible refine e_blt ?_ | with_reducible refine e_bl ?_ | with_reducible refine e_and ?_ | with_reducible refine e_or ?_ | with_reducible refine e_not ?_ | with_reducible refine e_ite ?_
  | with_reducible refine es_cons ?_ | with_reducible refine es_nil ?_ | with_reducible refine e_tup ?_ | with_reducible refine e_lst ?_ | with_reducible refine e_meth ?_ | with_reducible refine e_comp ?_ | with_reducible refine e_sl ?_ | with_reducible refine e_neg ?_ | with_reducible refine e_isi ?_ | with_reducible refine e_lrg ?_ | with_reducible refine e_non ?_ | with_reducible refine e_str ?_ | with_reducible refine e_fnv ?_ | with_reducible refine e_orl ?_ | with_reducible refine e_dnew ?_ | with_reducible refine e_dget ?_ | with_reducible refine e_dget2 ?_
  | with_reducible refine o_no ?_ | with_reducible refine o_so ?_ | with_reducible refine i_rng ?_ | with_reducible refine i_seq ?_ | with_reducible refine i_enum ?_ | with_reducible refine if_nil ?_ | with_reducible refine if_cons ?_ | with_reducible refine rg_1 ?_ | with_reducible refine rg_2 ?_
  | with_reducible refine b_add ?_ | with_reducible refine b_sub ?_ | ((with_reducible refine' b_mul ?h1 ?_); (case h1 => first | assumption | mul_fits)) | ((with_reducible refine' b_fdiv ?h1 ?h2 ?_); (case h1 => walk_at "kn"); (case h2 => first | assumption | decide)) | ((with_reducible refine' b_mod ?h1 ?_); (case h1 => walk_at "kn")) | ((with_reducible refine' b_pow ?h1 ?_); (case h1 => first | assumption | exact ⟨by decide, by decide, by decide⟩)) | ((with_reducible refine' b_shr ?h1 ?_); (case h1 => walk_at "kn")) | ((with_reducible refine' b_shl ?h1 ?_); (case h1 => assumption)) | with_reducible refine b_and ?_ | with_reducible refine b_or ?_ | with_reducible refine b_xor ?_
  | with_reducible refine c_lt ?_ | with_reducible refine c_le ?_ | with_reducible refine c_gt ?_ | with_reducible refine c_ge ?_ | with_reducible refine c_eqi ?_ | with_reducible refine c_nei ?_ | with_reducible refine c_eqb ?_ | with_reducible refine c_neb ?_ | with_reducible refine c_eqs ?_ | with_reducible refine c_nes ?_
  | with_reducible refine t_bl ?_ | with_reducible refine t_int ?_ | with_reducible refine t_tup ?_ | with_reducible refine t_non ?_
  | ((with_reducible refine' x_ref ?h1 ?h2 ?_); (case h1 => walk_at "look"); (case h2 => walk_at "at")) | ((with_reducible refine' x_tup ?h1 ?_); (case h1 => walk_at "at")) | ((with_reducible refine' x_klst ?h1 ?_); (case h1 => walk_at "at"))
  | ((with_reducible refine' set_ref ?h1 ?h2 ?_); (case h1 => walk_at "look"); (case h2 => walk_at "at"))
  | ((with_reducible refine' f_lenr ?h1 ?_); (case h1 => walk_at "look")) | with_reducible refine f_lent ?_ | with_reducible refine f_lenk ?_ | with_reducible refine f_int ?_ | ((with_reducible refine' f_listr ?h1 ?_); (case h1 => walk_at "look")) | with_reducible refine f_listt ?_ | with_reducible refine f_listk ?_ | ((with_reducible refine' f_tupr ?h1 ?_); (case h1 => walk_at "look")) | with_reducible refine f_tupt ?_ | with_reducible refine f_max ?_ | with_reducible refine f_min ?_
  | with_reducible refine sl_klst ?_ | ((with_reducible refine' sl_ref ?h1 ?_); (case h1 => walk_at "look")) | with_reducible refine sl_tup ?_
  | ((with_reducible refine' m_app ?h1 ?h2 ?_); (case h1 => walk_at "look"); (case h2 => walk_at "sz")) | ((with_reducible refine' m_ext ?h1 ?h2 ?h3 ?_); (case h1 => walk_at "look"); (case h2 => walk_at "look"); (case h3 => walk_at "sz")) | ((with_reducible refine' m_extT ?h1 ?h3 ?_); (case h1 => walk_at "look"); (case h3 => walk_at "sz"))
  | with_reducible refine k_t ?_ | with_reducible refine k_f ?_ | with_reducible refine k_nt ?_ | with_reducible refine k_nf ?_
  | ((with_reducible refine' d_t ?h1 ?_); (case h1 => first | assumption | omega)) | ((with_reducible refine' d_f ?h1 ?_); (case h1 => first | assumption | omega)) | ((with_reducible refine' d_nt ?h1 ?_); (case h1 => first | assumption | omega)) | ((with_reducible refine' d_nf ?h1 ?_); (case h1 => first | assumption | omega))
  | ((with_reducible refine' And.intro (r_lst ?h1 ?h2) ?_); (case h1 => decide); (case h2 => walk_at "look")) | (with_reducible refine And.intro r_int ?_)
  | ((with_reducible refine And.intro ?h1 ?_); (case h1 => (with_reducible show List.length _ ≤ sizeLine); walk_at "sz"))
  | dsimp only
  | dsimp only [isTy_int, isTy_bl, isTy_str, isTy_non, isTy_tup])
local macro_rules | `(tactic| walk_at "mp") => `(tactic| repeat walk_at "mp1")

def lw3 : MSs := sk 3 blaw
set_option maxHeartbeats 8000000 in
theorem law_ok : LawOk es 150 flaw := by
  intro ns hns
  refine claw (k := 149) ?_
  show wpSs (C 149) (.cons (match blaw with | .cons s _ => s | _ => .pas) (.cons (match sk 1 blaw with | .cons s _ => s | _ => .pas) (.cons (match sk 2 blaw with | .cons s _ => s | _ => .pas) lw3))) ⟨_, _, _, _, _⟩ _ _
  unfold blaw
  dsimp only [sk]
  walk_at "mp"
  refine c_law_begin (k := 148) (begin_ok fun S' ds hl => ?_)
  walk_at "mp"
  refine body_ok (by decide) ds fun one S1 ok1 hn1 ds1 => ?_
  walk_at "mp"
  refine body_ok (by decide) ds1 fun other S2 ok2 hn2 ds2 => ?_
  walk_at "mp"
  exact law_tail (E := fun _ _ => False) (n := 5) (by decide) (by decide) ok1 hn1 ok2 hn2 fun _ => rfl
end K17
namespace K17
open PySem PySem.Spec PyProof.Rows L2 MP
set_option maxHeartbeats 0 in
theorem all_mk {w : World} {K : PySem.W.Frag} {h : Heap} {mg : Str → Option Value} {fa g0 g1 g2 g3 g4 g5 g6 g7 g8 g9 g10 g11 g12 g13 g14 g15 g16 g17 g18 g19 g20 g21 g22 g23 g24 g25 g26 g27 g28 g29 g30 g31 g32 g33 g34 g35 g36 : Addr} (X : K.In h) (G : h.Ns mainGlobals mg) (hfa : mg "law" = some (.ref fa))
    {od0 an0 : Option Addr} {sl0 : Array (Option Value)} {oc0 kV0 dc0 pm0 cd0 ct0 : Value}
    (a0 : PySem.W.nsIn K mainGlobals "bodies_of" = some (some (.ref g0))) (l0 : K.lookup g0 = some ⟨oc0, od0, .func (PySem.W.fnOf "bodies_of" "bodies_of" (defArgs ebodies_of.st) (defBody ebodies_of.st) (defScope ebodies_of.st) .none kV0 dc0 pm0 an0 cd0 ct0), sl0⟩) (c0 : PySem.W.codeIn K cd0 "bodies_of" = true) (k0 : PySem.W.keepIn K (.ref g0) = true)
    {od1 an1 : Option Addr} {sl1 : Array (Option Value)} {oc1 kV1 dc1 pm1 cd1 ct1 : Value}
    (a1 : PySem.W.nsIn K mainGlobals "expr_names" = some (some (.ref g1))) (l1 : K.lookup g1 = some ⟨oc1, od1, .func (PySem.W.fnOf "expr_names" "expr_names" (defArgs eexpr_names.st) (defBody eexpr_names.st) (defScope eexpr_names.st) .none kV1 dc1 pm1 an1 cd1 ct1), sl1⟩) (c1 : PySem.W.codeIn K cd1 "expr_names" = true) (k1 : PySem.W.keepIn K (.ref g1) = true)
    {od2 an2 : Option Addr} {sl2 : Array (Option Value)} {oc2 kV2 dc2 pm2 cd2 ct2 : Value}
    (a2 : PySem.W.nsIn K mainGlobals "statements_of" = some (some (.ref g2))) (l2 : K.lookup g2 = some ⟨oc2, od2, .func (PySem.W.fnOf "statements_of" "statements_of" (defArgs estatements_of.st) (defBody estatements_of.st) (defScope estatements_of.st) .none kV2 dc2 pm2 an2 cd2 ct2), sl2⟩) (c2 : PySem.W.codeIn K cd2 "statements_of" = true) (k2 : PySem.W.keepIn K (.ref g2) = true)
    {od3 an3 : Option Addr} {sl3 : Array (Option Value)} {oc3 kV3 dc3 pm3 cd3 ct3 : Value}
    (a3 : PySem.W.nsIn K mainGlobals "steps_in" = some (some (.ref g3))) (l3 : K.lookup g3 = some ⟨oc3, od3, .func (PySem.W.fnOf "steps_in" "steps_in" (defArgs esteps_in.st) (defBody esteps_in.st) (defScope esteps_in.st) .none kV3 dc3 pm3 an3 cd3 ct3), sl3⟩) (c3 : PySem.W.codeIn K cd3 "steps_in" = true) (k3 : PySem.W.keepIn K (.ref g3) = true)
    {od4 an4 : Option Addr} {sl4 : Array (Option Value)} {oc4 kV4 dc4 pm4 cd4 ct4 : Value}
    (a4 : PySem.W.nsIn K mainGlobals "numbered_from" = some (some (.ref g4))) (l4 : K.lookup g4 = some ⟨oc4, od4, .func (PySem.W.fnOf "numbered_from" "numbered_from" (defArgs enumbered_from.st) (defBody enumbered_from.st) (defScope enumbered_from.st) .none kV4 dc4 pm4 an4 cd4 ct4), sl4⟩) (c4 : PySem.W.codeIn K cd4 "numbered_from" = true) (k4 : PySem.W.keepIn K (.ref g4) = true)
    {od5 an5 : Option Addr} {sl5 : Array (Option Value)} {oc5 kV5 dc5 pm5 cd5 ct5 : Value}
    (a5 : PySem.W.nsIn K mainGlobals "numbered" = some (some (.ref g5))) (l5 : K.lookup g5 = some ⟨oc5, od5, .func (PySem.W.fnOf "numbered" "numbered" (defArgs enumbered.st) (defBody enumbered.st) (defScope enumbered.st) .none kV5 dc5 pm5 an5 cd5 ct5), sl5⟩) (c5 : PySem.W.codeIn K cd5 "numbered" = true) (k5 : PySem.W.keepIn K (.ref g5) = true)
    {od6 an6 : Option Addr} {sl6 : Array (Option Value)} {oc6 kV6 dc6 pm6 cd6 ct6 : Value}
    (a6 : PySem.W.nsIn K mainGlobals "step_at" = some (some (.ref g6))) (l6 : K.lookup g6 = some ⟨oc6, od6, .func (PySem.W.fnOf "step_at" "step_at" (defArgs estep_at.st) (defBody estep_at.st) (defScope estep_at.st) .none kV6 dc6 pm6 an6 cd6 ct6), sl6⟩) (c6 : PySem.W.codeIn K cd6 "step_at" = true) (k6 : PySem.W.keepIn K (.ref g6) = true)
    {od7 an7 : Option Addr} {sl7 : Array (Option Value)} {oc7 kV7 dc7 pm7 cd7 ct7 : Value}
    (a7 : PySem.W.nsIn K mainGlobals "note_steps" = some (some (.ref g7))) (l7 : K.lookup g7 = some ⟨oc7, od7, .func (PySem.W.fnOf "note_steps" "note_steps" (defArgs enote_steps.st) (defBody enote_steps.st) (defScope enote_steps.st) .none kV7 dc7 pm7 an7 cd7 ct7), sl7⟩) (c7 : PySem.W.codeIn K cd7 "note_steps" = true) (k7 : PySem.W.keepIn K (.ref g7) = true)
    {od8 an8 : Option Addr} {sl8 : Array (Option Value)} {oc8 kV8 dc8 pm8 cd8 ct8 : Value}
    (a8 : PySem.W.nsIn K mainGlobals "steps_of" = some (some (.ref g8))) (l8 : K.lookup g8 = some ⟨oc8, od8, .func (PySem.W.fnOf "steps_of" "steps_of" (defArgs esteps_of.st) (defBody esteps_of.st) (defScope esteps_of.st) .none kV8 dc8 pm8 an8 cd8 ct8), sl8⟩) (c8 : PySem.W.codeIn K cd8 "steps_of" = true) (k8 : PySem.W.keepIn K (.ref g8) = true)
    {od9 an9 : Option Addr} {sl9 : Array (Option Value)} {oc9 kV9 dc9 pm9 cd9 ct9 : Value}
    (a9 : PySem.W.nsIn K mainGlobals "note_marks" = some (some (.ref g9))) (l9 : K.lookup g9 = some ⟨oc9, od9, .func (PySem.W.fnOf "note_marks" "note_marks" (defArgs enote_marks.st) (defBody enote_marks.st) (defScope enote_marks.st) .none kV9 dc9 pm9 an9 cd9 ct9), sl9⟩) (c9 : PySem.W.codeIn K cd9 "note_marks" = true) (k9 : PySem.W.keepIn K (.ref g9) = true)
    {od10 an10 : Option Addr} {sl10 : Array (Option Value)} {oc10 kV10 dc10 pm10 cd10 ct10 : Value}
    (a10 : PySem.W.nsIn K mainGlobals "marks_of" = some (some (.ref g10))) (l10 : K.lookup g10 = some ⟨oc10, od10, .func (PySem.W.fnOf "marks_of" "marks_of" (defArgs emarks_of.st) (defBody emarks_of.st) (defScope emarks_of.st) .none kV10 dc10 pm10 an10 cd10 ct10), sl10⟩) (c10 : PySem.W.codeIn K cd10 "marks_of" = true) (k10 : PySem.W.keepIn K (.ref g10) = true)
    {od11 an11 : Option Addr} {sl11 : Array (Option Value)} {oc11 kV11 dc11 pm11 cd11 ct11 : Value}
    (a11 : PySem.W.nsIn K mainGlobals "_law_begin" = some (some (.ref g11))) (l11 : K.lookup g11 = some ⟨oc11, od11, .func (PySem.W.fnOf "_law_begin" "_law_begin" (defArgs e_law_begin.st) (defBody e_law_begin.st) (defScope e_law_begin.st) .none kV11 dc11 pm11 an11 cd11 ct11), sl11⟩) (c11 : PySem.W.codeIn K cd11 "_law_begin" = true) (k11 : PySem.W.keepIn K (.ref g11) = true)
    {od12 an12 : Option Addr} {sl12 : Array (Option Value)} {oc12 kV12 dc12 pm12 cd12 ct12 : Value}
    (a12 : PySem.W.nsIn K mainGlobals "_law_draw" = some (some (.ref g12))) (l12 : K.lookup g12 = some ⟨oc12, od12, .func (PySem.W.fnOf "_law_draw" "_law_draw" (defArgs e_law_draw.st) (defBody e_law_draw.st) (defScope e_law_draw.st) .none kV12 dc12 pm12 an12 cd12 ct12), sl12⟩) (c12 : PySem.W.codeIn K cd12 "_law_draw" = true) (k12 : PySem.W.keepIn K (.ref g12) = true)
    {od13 an13 : Option Addr} {sl13 : Array (Option Value)} {oc13 kV13 dc13 pm13 cd13 ct13 : Value}
    (a13 : PySem.W.nsIn K mainGlobals "_law_pick" = some (some (.ref g13))) (l13 : K.lookup g13 = some ⟨oc13, od13, .func (PySem.W.fnOf "_law_pick" "_law_pick" (defArgs e_law_pick.st) (defBody e_law_pick.st) (defScope e_law_pick.st) .none kV13 dc13 pm13 an13 cd13 ct13), sl13⟩) (c13 : PySem.W.codeIn K cd13 "_law_pick" = true) (k13 : PySem.W.keepIn K (.ref g13) = true)
    {od14 an14 : Option Addr} {sl14 : Array (Option Value)} {oc14 kV14 dc14 pm14 cd14 ct14 : Value}
    (a14 : PySem.W.nsIn K mainGlobals "_law_shuffled" = some (some (.ref g14))) (l14 : K.lookup g14 = some ⟨oc14, od14, .func (PySem.W.fnOf "_law_shuffled" "_law_shuffled" (defArgs e_law_shuffled.st) (defBody e_law_shuffled.st) (defScope e_law_shuffled.st) .none kV14 dc14 pm14 an14 cd14 ct14), sl14⟩) (c14 : PySem.W.codeIn K cd14 "_law_shuffled" = true) (k14 : PySem.W.keepIn K (.ref g14) = true)
    {od15 an15 : Option Addr} {sl15 : Array (Option Value)} {oc15 kV15 dc15 pm15 cd15 ct15 : Value}
    (a15 : PySem.W.nsIn K mainGlobals "_law_pool" = some (some (.ref g15))) (l15 : K.lookup g15 = some ⟨oc15, od15, .func (PySem.W.fnOf "_law_pool" "_law_pool" (defArgs e_law_pool.st) (defBody e_law_pool.st) (defScope e_law_pool.st) .none kV15 dc15 pm15 an15 cd15 ct15), sl15⟩) (c15 : PySem.W.codeIn K cd15 "_law_pool" = true) (k15 : PySem.W.keepIn K (.ref g15) = true)
    {od16 an16 : Option Addr} {sl16 : Array (Option Value)} {oc16 kV16 dc16 pm16 cd16 ct16 : Value}
    (a16 : PySem.W.nsIn K mainGlobals "_law_steps_in" = some (some (.ref g16))) (l16 : K.lookup g16 = some ⟨oc16, od16, .func (PySem.W.fnOf "_law_steps_in" "_law_steps_in" (defArgs e_law_steps_in.st) (defBody e_law_steps_in.st) (defScope e_law_steps_in.st) .none kV16 dc16 pm16 an16 cd16 ct16), sl16⟩) (c16 : PySem.W.codeIn K cd16 "_law_steps_in" = true) (k16 : PySem.W.keepIn K (.ref g16) = true)
    {od17 an17 : Option Addr} {sl17 : Array (Option Value)} {oc17 kV17 dc17 pm17 cd17 ct17 : Value}
    (a17 : PySem.W.nsIn K mainGlobals "_law_inner" = some (some (.ref g17))) (l17 : K.lookup g17 = some ⟨oc17, od17, .func (PySem.W.fnOf "_law_inner" "_law_inner" (defArgs e_law_inner.st) (defBody e_law_inner.st) (defScope e_law_inner.st) .none kV17 dc17 pm17 an17 cd17 ct17), sl17⟩) (c17 : PySem.W.codeIn K cd17 "_law_inner" = true) (k17 : PySem.W.keepIn K (.ref g17) = true)
    {od18 an18 : Option Addr} {sl18 : Array (Option Value)} {oc18 kV18 dc18 pm18 cd18 ct18 : Value}
    (a18 : PySem.W.nsIn K mainGlobals "_law_names_of" = some (some (.ref g18))) (l18 : K.lookup g18 = some ⟨oc18, od18, .func (PySem.W.fnOf "_law_names_of" "_law_names_of" (defArgs e_law_names_of.st) (defBody e_law_names_of.st) (defScope e_law_names_of.st) .none kV18 dc18 pm18 an18 cd18 ct18), sl18⟩) (c18 : PySem.W.codeIn K cd18 "_law_names_of" = true) (k18 : PySem.W.keepIn K (.ref g18) = true)
    {od19 an19 : Option Addr} {sl19 : Array (Option Value)} {oc19 kV19 dc19 pm19 cd19 ct19 : Value}
    (a19 : PySem.W.nsIn K mainGlobals "_law_spun" = some (some (.ref g19))) (l19 : K.lookup g19 = some ⟨oc19, od19, .func (PySem.W.fnOf "_law_spun" "_law_spun" (defArgs e_law_spun.st) (defBody e_law_spun.st) (defScope e_law_spun.st) .none kV19 dc19 pm19 an19 cd19 ct19), sl19⟩) (c19 : PySem.W.codeIn K cd19 "_law_spun" = true) (k19 : PySem.W.keepIn K (.ref g19) = true)
    {od20 an20 : Option Addr} {sl20 : Array (Option Value)} {oc20 kV20 dc20 pm20 cd20 ct20 : Value}
    (a20 : PySem.W.nsIn K mainGlobals "_law_sum_of" = some (some (.ref g20))) (l20 : K.lookup g20 = some ⟨oc20, od20, .func (PySem.W.fnOf "_law_sum_of" "_law_sum_of" (defArgs e_law_sum_of.st) (defBody e_law_sum_of.st) (defScope e_law_sum_of.st) .none kV20 dc20 pm20 an20 cd20 ct20), sl20⟩) (c20 : PySem.W.codeIn K cd20 "_law_sum_of" = true) (k20 : PySem.W.keepIn K (.ref g20) = true)
    {od21 an21 : Option Addr} {sl21 : Array (Option Value)} {oc21 kV21 dc21 pm21 cd21 ct21 : Value}
    (a21 : PySem.W.nsIn K mainGlobals "_law_truth_of" = some (some (.ref g21))) (l21 : K.lookup g21 = some ⟨oc21, od21, .func (PySem.W.fnOf "_law_truth_of" "_law_truth_of" (defArgs e_law_truth_of.st) (defBody e_law_truth_of.st) (defScope e_law_truth_of.st) .none kV21 dc21 pm21 an21 cd21 ct21), sl21⟩) (c21 : PySem.W.codeIn K cd21 "_law_truth_of" = true) (k21 : PySem.W.keepIn K (.ref g21) = true)
    {od22 an22 : Option Addr} {sl22 : Array (Option Value)} {oc22 kV22 dc22 pm22 cd22 ct22 : Value}
    (a22 : PySem.W.nsIn K mainGlobals "_law_some" = some (some (.ref g22))) (l22 : K.lookup g22 = some ⟨oc22, od22, .func (PySem.W.fnOf "_law_some" "_law_some" (defArgs e_law_some.st) (defBody e_law_some.st) (defScope e_law_some.st) .none kV22 dc22 pm22 an22 cd22 ct22), sl22⟩) (c22 : PySem.W.codeIn K cd22 "_law_some" = true) (k22 : PySem.W.keepIn K (.ref g22) = true)
    {od23 an23 : Option Addr} {sl23 : Array (Option Value)} {oc23 kV23 dc23 pm23 cd23 ct23 : Value}
    (a23 : PySem.W.nsIn K mainGlobals "_law_plain_step" = some (some (.ref g23))) (l23 : K.lookup g23 = some ⟨oc23, od23, .func (PySem.W.fnOf "_law_plain_step" "_law_plain_step" (defArgs e_law_plain_step.st) (defBody e_law_plain_step.st) (defScope e_law_plain_step.st) .none kV23 dc23 pm23 an23 cd23 ct23), sl23⟩) (c23 : PySem.W.codeIn K cd23 "_law_plain_step" = true) (k23 : PySem.W.keepIn K (.ref g23) = true)
    {od24 an24 : Option Addr} {sl24 : Array (Option Value)} {oc24 kV24 dc24 pm24 cd24 ct24 : Value}
    (a24 : PySem.W.nsIn K mainGlobals "_law_some_body" = some (some (.ref g24))) (l24 : K.lookup g24 = some ⟨oc24, od24, .func (PySem.W.fnOf "_law_some_body" "_law_some_body" (defArgs e_law_some_body.st) (defBody e_law_some_body.st) (defScope e_law_some_body.st) .none kV24 dc24 pm24 an24 cd24 ct24), sl24⟩) (c24 : PySem.W.codeIn K cd24 "_law_some_body" = true) (k24 : PySem.W.keepIn K (.ref g24) = true)
    {od25 an25 : Option Addr} {sl25 : Array (Option Value)} {oc25 kV25 dc25 pm25 cd25 ct25 : Value}
    (a25 : PySem.W.nsIn K mainGlobals "_law_one_step" = some (some (.ref g25))) (l25 : K.lookup g25 = some ⟨oc25, od25, .func (PySem.W.fnOf "_law_one_step" "_law_one_step" (defArgs e_law_one_step.st) (defBody e_law_one_step.st) (defScope e_law_one_step.st) .none kV25 dc25 pm25 an25 cd25 ct25), sl25⟩) (c25 : PySem.W.codeIn K cd25 "_law_one_step" = true) (k25 : PySem.W.keepIn K (.ref g25) = true)
    {od26 an26 : Option Addr} {sl26 : Array (Option Value)} {oc26 kV26 dc26 pm26 cd26 ct26 : Value}
    (a26 : PySem.W.nsIn K mainGlobals "_law_block" = some (some (.ref g26))) (l26 : K.lookup g26 = some ⟨oc26, od26, .func (PySem.W.fnOf "_law_block" "_law_block" (defArgs e_law_block.st) (defBody e_law_block.st) (defScope e_law_block.st) .none kV26 dc26 pm26 an26 cd26 ct26), sl26⟩) (c26 : PySem.W.codeIn K cd26 "_law_block" = true) (k26 : PySem.W.keepIn K (.ref g26) = true)
    {od27 an27 : Option Addr} {sl27 : Array (Option Value)} {oc27 kV27 dc27 pm27 cd27 ct27 : Value}
    (a27 : PySem.W.nsIn K mainGlobals "_law_body" = some (some (.ref g27))) (l27 : K.lookup g27 = some ⟨oc27, od27, .func (PySem.W.fnOf "_law_body" "_law_body" (defArgs e_law_body.st) (defBody e_law_body.st) (defScope e_law_body.st) .none kV27 dc27 pm27 an27 cd27 ct27), sl27⟩) (c27 : PySem.W.codeIn K cd27 "_law_body" = true) (k27 : PySem.W.keepIn K (.ref g27) = true)
    {od28 an28 : Option Addr} {sl28 : Array (Option Value)} {oc28 kV28 dc28 pm28 cd28 ct28 : Value}
    (a28 : PySem.W.nsIn K mainGlobals "_law_entries" = some (some (.ref g28))) (l28 : K.lookup g28 = some ⟨oc28, od28, .func (PySem.W.fnOf "_law_entries" "_law_entries" (defArgs e_law_entries.st) (defBody e_law_entries.st) (defScope e_law_entries.st) .none kV28 dc28 pm28 an28 cd28 ct28), sl28⟩) (c28 : PySem.W.codeIn K cd28 "_law_entries" = true) (k28 : PySem.W.keepIn K (.ref g28) = true)
    {od29 an29 : Option Addr} {sl29 : Array (Option Value)} {oc29 kV29 dc29 pm29 cd29 ct29 : Value}
    (a29 : PySem.W.nsIn K mainGlobals "_law_told_body" = some (some (.ref g29))) (l29 : K.lookup g29 = some ⟨oc29, od29, .func (PySem.W.fnOf "_law_told_body" "_law_told_body" (defArgs e_law_told_body.st) (defBody e_law_told_body.st) (defScope e_law_told_body.st) .none kV29 dc29 pm29 an29 cd29 ct29), sl29⟩) (c29 : PySem.W.codeIn K cd29 "_law_told_body" = true) (k29 : PySem.W.keepIn K (.ref g29) = true)
    {od30 an30 : Option Addr} {sl30 : Array (Option Value)} {oc30 kV30 dc30 pm30 cd30 ct30 : Value}
    (a30 : PySem.W.nsIn K mainGlobals "_law_here" = some (some (.ref g30))) (l30 : K.lookup g30 = some ⟨oc30, od30, .func (PySem.W.fnOf "_law_here" "_law_here" (defArgs e_law_here.st) (defBody e_law_here.st) (defScope e_law_here.st) .none kV30 dc30 pm30 an30 cd30 ct30), sl30⟩) (c30 : PySem.W.codeIn K cd30 "_law_here" = true) (k30 : PySem.W.keepIn K (.ref g30) = true)
    {od31 an31 : Option Addr} {sl31 : Array (Option Value)} {oc31 kV31 dc31 pm31 cd31 ct31 : Value}
    (a31 : PySem.W.nsIn K mainGlobals "_law_note" = some (some (.ref g31))) (l31 : K.lookup g31 = some ⟨oc31, od31, .func (PySem.W.fnOf "_law_note" "_law_note" (defArgs e_law_note.st) (defBody e_law_note.st) (defScope e_law_note.st) .none kV31 dc31 pm31 an31 cd31 ct31), sl31⟩) (c31 : PySem.W.codeIn K cd31 "_law_note" = true) (k31 : PySem.W.keepIn K (.ref g31) = true)
    {od32 an32 : Option Addr} {sl32 : Array (Option Value)} {oc32 kV32 dc32 pm32 cd32 ct32 : Value}
    (a32 : PySem.W.nsIn K mainGlobals "_law_flat" = some (some (.ref g32))) (l32 : K.lookup g32 = some ⟨oc32, od32, .func (PySem.W.fnOf "_law_flat" "_law_flat" (defArgs e_law_flat.st) (defBody e_law_flat.st) (defScope e_law_flat.st) .none kV32 dc32 pm32 an32 cd32 ct32), sl32⟩) (c32 : PySem.W.codeIn K cd32 "_law_flat" = true) (k32 : PySem.W.keepIn K (.ref g32) = true)
    {od33 an33 : Option Addr} {sl33 : Array (Option Value)} {oc33 kV33 dc33 pm33 cd33 ct33 : Value}
    (a33 : PySem.W.nsIn K mainGlobals "_law_right_names" = some (some (.ref g33))) (l33 : K.lookup g33 = some ⟨oc33, od33, .func (PySem.W.fnOf "_law_right_names" "_law_right_names" (defArgs e_law_right_names.st) (defBody e_law_right_names.st) (defScope e_law_right_names.st) .none kV33 dc33 pm33 an33 cd33 ct33), sl33⟩) (c33 : PySem.W.codeIn K cd33 "_law_right_names" = true) (k33 : PySem.W.keepIn K (.ref g33) = true)
    {od34 an34 : Option Addr} {sl34 : Array (Option Value)} {oc34 kV34 dc34 pm34 cd34 ct34 : Value}
    (a34 : PySem.W.nsIn K mainGlobals "_law_is_place" = some (some (.ref g34))) (l34 : K.lookup g34 = some ⟨oc34, od34, .func (PySem.W.fnOf "_law_is_place" "_law_is_place" (defArgs e_law_is_place.st) (defBody e_law_is_place.st) (defScope e_law_is_place.st) .none kV34 dc34 pm34 an34 cd34 ct34), sl34⟩) (c34 : PySem.W.codeIn K cd34 "_law_is_place" = true) (k34 : PySem.W.keepIn K (.ref g34) = true)
    {od35 an35 : Option Addr} {sl35 : Array (Option Value)} {oc35 kV35 dc35 pm35 cd35 ct35 : Value}
    (a35 : PySem.W.nsIn K mainGlobals "_law_right" = some (some (.ref g35))) (l35 : K.lookup g35 = some ⟨oc35, od35, .func (PySem.W.fnOf "_law_right" "_law_right" (defArgs e_law_right.st) (defBody e_law_right.st) (defScope e_law_right.st) .none kV35 dc35 pm35 an35 cd35 ct35), sl35⟩) (c35 : PySem.W.codeIn K cd35 "_law_right" = true) (k35 : PySem.W.keepIn K (.ref g35) = true)
    {od36 an36 : Option Addr} {sl36 : Array (Option Value)} {oc36 kV36 dc36 pm36 cd36 ct36 : Value}
    (a36 : PySem.W.nsIn K mainGlobals "law" = some (some (.ref g36))) (l36 : K.lookup g36 = some ⟨oc36, od36, .func (PySem.W.fnOf "law" "law" (defArgs elaw.st) (defBody elaw.st) (defScope elaw.st) .none kV36 dc36 pm36 an36 cd36 ct36), sl36⟩) (c36 : PySem.W.codeIn K cd36 "law" = true) (k36 : PySem.W.keepIn K (.ref g36) = true)
    (z_len : PySem.W.nsIn K mainGlobals "len" = some none)
    (z_abs : PySem.W.nsIn K mainGlobals "abs" = some none)
    (z_max : PySem.W.nsIn K mainGlobals "max" = some none)
    (z_min : PySem.W.nsIn K mainGlobals "min" = some none)
    (z_sum : PySem.W.nsIn K mainGlobals "sum" = some none)
    (z_any : PySem.W.nsIn K mainGlobals "any" = some none)
    (z_all : PySem.W.nsIn K mainGlobals "all" = some none)
    (z_int : PySem.W.nsIn K mainGlobals "int" = some none)
    (z_bool : PySem.W.nsIn K mainGlobals "bool" = some none)
    (z_list : PySem.W.nsIn K mainGlobals "list" = some none)
    (z_tuple : PySem.W.nsIn K mainGlobals "tuple" = some none)
    (z_str : PySem.W.nsIn K mainGlobals "str" = some none)
    (z_isinstance : PySem.W.nsIn K mainGlobals "isinstance" = some none)
    (z_range : PySem.W.nsIn K mainGlobals "range" = some none)
    (z_dict : PySem.W.nsIn K mainGlobals "dict" = some none)
    (z_enumerate : PySem.W.nsIn K mainGlobals "enumerate" = some none)
    : ∃ fd : FuncData, (∀ (s : Shared) (v : Value), BindsTo s fd ⟨[v], []⟩ [("script", v)]) ∧ ∀ base : Heap, K.In base → base.Ns mainGlobals mg → FnOk PySem.Challenge.pw_weavewrit_k17_steps_and_marks w K mg base (L2.CX PySem.Challenge.pw_weavewrit_k17_steps_and_marks w) 150 fa fd ["script"] (spLaw es 150 flaw K) := by
  have e := hfa.symm.trans (PySem.W.mg_of X G a36)
  cases e
  have F0 := fun_mk (st := ebodies_of.st) l0 c0 k0
  have H0 : Has K mg ebodies_of _ _ := ⟨F0, PySem.W.mg_of X G a0, a0, F0.binds fun _ _ _ _ _ _ us hl => match us, hl with | [_], _ => rfl⟩
  have F1 := fun_mk (st := eexpr_names.st) l1 c1 k1
  have H1 : Has K mg eexpr_names _ _ := ⟨F1, PySem.W.mg_of X G a1, a1, F1.binds fun _ _ _ _ _ _ us hl => match us, hl with | [_], _ => rfl⟩
  have F2 := fun_mk (st := estatements_of.st) l2 c2 k2
  have H2 : Has K mg estatements_of _ _ := ⟨F2, PySem.W.mg_of X G a2, a2, F2.binds fun _ _ _ _ _ _ us hl => match us, hl with | [_], _ => rfl⟩
  have F3 := fun_mk (st := esteps_in.st) l3 c3 k3
  have H3 : Has K mg esteps_in _ _ := ⟨F3, PySem.W.mg_of X G a3, a3, F3.binds fun _ _ _ _ _ _ us hl => match us, hl with | [_], _ => rfl⟩
  have F4 := fun_mk (st := enumbered_from.st) l4 c4 k4
  have H4 : Has K mg enumbered_from _ _ := ⟨F4, PySem.W.mg_of X G a4, a4, F4.binds fun _ _ _ _ _ _ us hl => match us, hl with | [_, _], _ => rfl⟩
  have F5 := fun_mk (st := enumbered.st) l5 c5 k5
  have H5 : Has K mg enumbered _ _ := ⟨F5, PySem.W.mg_of X G a5, a5, F5.binds fun _ _ _ _ _ _ us hl => match us, hl with | [_], _ => rfl⟩
  have F6 := fun_mk (st := estep_at.st) l6 c6 k6
  have H6 : Has K mg estep_at _ _ := ⟨F6, PySem.W.mg_of X G a6, a6, F6.binds fun _ _ _ _ _ _ us hl => match us, hl with | [_, _, _], _ => rfl⟩
  have F7 := fun_mk (st := enote_steps.st) l7 c7 k7
  have H7 : Has K mg enote_steps _ _ := ⟨F7, PySem.W.mg_of X G a7, a7, F7.binds fun _ _ _ _ _ _ us hl => match us, hl with | [_, _, _, _], _ => rfl⟩
  have F8 := fun_mk (st := esteps_of.st) l8 c8 k8
  have H8 : Has K mg esteps_of _ _ := ⟨F8, PySem.W.mg_of X G a8, a8, F8.binds fun _ _ _ _ _ _ us hl => match us, hl with | [_], _ => rfl⟩
  have F9 := fun_mk (st := enote_marks.st) l9 c9 k9
  have H9 : Has K mg enote_marks _ _ := ⟨F9, PySem.W.mg_of X G a9, a9, F9.binds fun _ _ _ _ _ _ us hl => match us, hl with | [_, _, _, _], _ => rfl⟩
  have F10 := fun_mk (st := emarks_of.st) l10 c10 k10
  have H10 : Has K mg emarks_of _ _ := ⟨F10, PySem.W.mg_of X G a10, a10, F10.binds fun _ _ _ _ _ _ us hl => match us, hl with | [_], _ => rfl⟩
  have F11 := fun_mk (st := e_law_begin.st) l11 c11 k11
  have H11 : Has K mg e_law_begin _ _ := ⟨F11, PySem.W.mg_of X G a11, a11, F11.binds fun _ _ _ _ _ _ us hl => match us, hl with | [_], _ => rfl⟩
  have F12 := fun_mk (st := e_law_draw.st) l12 c12 k12
  have H12 : Has K mg e_law_draw _ _ := ⟨F12, PySem.W.mg_of X G a12, a12, F12.binds fun _ _ _ _ _ _ us hl => match us, hl with | [_, _], _ => rfl⟩
  have F13 := fun_mk (st := e_law_pick.st) l13 c13 k13
  have H13 : Has K mg e_law_pick _ _ := ⟨F13, PySem.W.mg_of X G a13, a13, F13.binds fun _ _ _ _ _ _ us hl => match us, hl with | [_, _], _ => rfl⟩
  have F14 := fun_mk (st := e_law_shuffled.st) l14 c14 k14
  have H14 : Has K mg e_law_shuffled _ _ := ⟨F14, PySem.W.mg_of X G a14, a14, F14.binds fun _ _ _ _ _ _ us hl => match us, hl with | [_, _], _ => rfl⟩
  have F15 := fun_mk (st := e_law_pool.st) l15 c15 k15
  have H15 : Has K mg e_law_pool _ _ := ⟨F15, PySem.W.mg_of X G a15, a15, F15.binds fun _ _ _ _ _ _ us hl => match us, hl with | [], _ => rfl⟩
  have F16 := fun_mk (st := e_law_steps_in.st) l16 c16 k16
  have H16 : Has K mg e_law_steps_in _ _ := ⟨F16, PySem.W.mg_of X G a16, a16, F16.binds fun _ _ _ _ _ _ us hl => match us, hl with | [_], _ => rfl⟩
  have F17 := fun_mk (st := e_law_inner.st) l17 c17 k17
  have H17 : Has K mg e_law_inner _ _ := ⟨F17, PySem.W.mg_of X G a17, a17, F17.binds fun _ _ _ _ _ _ us hl => match us, hl with | [_], _ => rfl⟩
  have F18 := fun_mk (st := e_law_names_of.st) l18 c18 k18
  have H18 : Has K mg e_law_names_of _ _ := ⟨F18, PySem.W.mg_of X G a18, a18, F18.binds fun _ _ _ _ _ _ us hl => match us, hl with | [_], _ => rfl⟩
  have F19 := fun_mk (st := e_law_spun.st) l19 c19 k19
  have H19 : Has K mg e_law_spun _ _ := ⟨F19, PySem.W.mg_of X G a19, a19, F19.binds fun _ _ _ _ _ _ us hl => match us, hl with | [_], _ => rfl⟩
  have F20 := fun_mk (st := e_law_sum_of.st) l20 c20 k20
  have H20 : Has K mg e_law_sum_of _ _ := ⟨F20, PySem.W.mg_of X G a20, a20, F20.binds fun _ _ _ _ _ _ us hl => match us, hl with | [_, _, _], _ => rfl⟩
  have F21 := fun_mk (st := e_law_truth_of.st) l21 c21 k21
  have H21 : Has K mg e_law_truth_of _ _ := ⟨F21, PySem.W.mg_of X G a21, a21, F21.binds fun _ _ _ _ _ _ us hl => match us, hl with | [_, _, _], _ => rfl⟩
  have F22 := fun_mk (st := e_law_some.st) l22 c22 k22
  have H22 : Has K mg e_law_some _ _ := ⟨F22, PySem.W.mg_of X G a22, a22, F22.binds fun _ _ _ _ _ _ us hl => match us, hl with | [_, _], _ => rfl⟩
  have F23 := fun_mk (st := e_law_plain_step.st) l23 c23 k23
  have H23 : Has K mg e_law_plain_step _ _ := ⟨F23, PySem.W.mg_of X G a23, a23, F23.binds fun _ _ _ _ _ _ us hl => match us, hl with | [_, _, _], _ => rfl⟩
  have F24 := fun_mk (st := e_law_some_body.st) l24 c24 k24
  have H24 : Has K mg e_law_some_body _ _ := ⟨F24, PySem.W.mg_of X G a24, a24, F24.binds fun _ _ _ _ _ _ us hl => match us, hl with | [_, _, _, _, _, _], _ => rfl⟩
  have F25 := fun_mk (st := e_law_one_step.st) l25 c25 k25
  have H25 : Has K mg e_law_one_step _ _ := ⟨F25, PySem.W.mg_of X G a25, a25, F25.binds fun _ _ _ _ _ _ us hl => match us, hl with | [_, _, _, _, _, _], _ => rfl⟩
  have F26 := fun_mk (st := e_law_block.st) l26 c26 k26
  have H26 : Has K mg e_law_block _ _ := ⟨F26, PySem.W.mg_of X G a26, a26, F26.binds fun _ _ _ _ _ _ us hl => match us, hl with | [_, _, _, _, _, _], _ => rfl⟩
  have F27 := fun_mk (st := e_law_body.st) l27 c27 k27
  have H27 : Has K mg e_law_body _ _ := ⟨F27, PySem.W.mg_of X G a27, a27, F27.binds fun _ _ _ _ _ _ us hl => match us, hl with | [_], _ => rfl⟩
  have F28 := fun_mk (st := e_law_entries.st) l28 c28 k28
  have H28 : Has K mg e_law_entries _ _ := ⟨F28, PySem.W.mg_of X G a28, a28, F28.binds fun _ _ _ _ _ _ us hl => match us, hl with | [_, _], _ => rfl⟩
  have F29 := fun_mk (st := e_law_told_body.st) l29 c29 k29
  have H29 : Has K mg e_law_told_body _ _ := ⟨F29, PySem.W.mg_of X G a29, a29, F29.binds fun _ _ _ _ _ _ us hl => match us, hl with | [_], _ => rfl⟩
  have F30 := fun_mk (st := e_law_here.st) l30 c30 k30
  have H30 : Has K mg e_law_here _ _ := ⟨F30, PySem.W.mg_of X G a30, a30, F30.binds fun _ _ _ _ _ _ us hl => match us, hl with | [_, _], _ => rfl⟩
  have F31 := fun_mk (st := e_law_note.st) l31 c31 k31
  have H31 : Has K mg e_law_note _ _ := ⟨F31, PySem.W.mg_of X G a31, a31, F31.binds fun _ _ _ _ _ _ us hl => match us, hl with | [_, _, _, _, _], _ => rfl⟩
  have F32 := fun_mk (st := e_law_flat.st) l32 c32 k32
  have H32 : Has K mg e_law_flat _ _ := ⟨F32, PySem.W.mg_of X G a32, a32, F32.binds fun _ _ _ _ _ _ us hl => match us, hl with | [_], _ => rfl⟩
  have F33 := fun_mk (st := e_law_right_names.st) l33 c33 k33
  have H33 : Has K mg e_law_right_names _ _ := ⟨F33, PySem.W.mg_of X G a33, a33, F33.binds fun _ _ _ _ _ _ us hl => match us, hl with | [_], _ => rfl⟩
  have F34 := fun_mk (st := e_law_is_place.st) l34 c34 k34
  have H34 : Has K mg e_law_is_place _ _ := ⟨F34, PySem.W.mg_of X G a34, a34, F34.binds fun _ _ _ _ _ _ us hl => match us, hl with | [_, _], _ => rfl⟩
  have F35 := fun_mk (st := e_law_right.st) l35 c35 k35
  have H35 : Has K mg e_law_right _ _ := ⟨F35, PySem.W.mg_of X G a35, a35, F35.binds fun _ _ _ _ _ _ us hl => match us, hl with | [_], _ => rfl⟩
  have F36 := fun_mk (st := elaw.st) l36 c36 k36
  have H36 : Has K mg elaw _ _ := ⟨F36, PySem.W.mg_of X G a36, a36, F36.binds fun _ _ _ _ _ _ us hl => match us, hl with | [_], _ => rfl⟩
  refine ⟨PySem.W.fnOf "law" "law" (defArgs elaw.st) (defBody elaw.st) (defScope elaw.st) .none kV36 dc36 pm36 an36 cd36 ct36, fun s v => .of_eq rfl, fun base _ _ => prog_ok (es := es) ?_ fit_all ?_ (by decide +kernel) 150 flaw elaw _ _ rfl H36⟩
  · simp only [es, List.forall_mem_cons]
    exact ⟨⟨_, _, H0⟩, ⟨_, _, H1⟩, ⟨_, _, H2⟩, ⟨_, _, H3⟩, ⟨_, _, H4⟩, ⟨_, _, H5⟩, ⟨_, _, H6⟩, ⟨_, _, H7⟩, ⟨_, _, H8⟩, ⟨_, _, H9⟩, ⟨_, _, H10⟩, ⟨_, _, H11⟩, ⟨_, _, H12⟩, ⟨_, _, H13⟩, ⟨_, _, H14⟩, ⟨_, _, H15⟩, ⟨_, _, H16⟩, ⟨_, _, H17⟩, ⟨_, _, H18⟩, ⟨_, _, H19⟩, ⟨_, _, H20⟩, ⟨_, _, H21⟩, ⟨_, _, H22⟩, ⟨_, _, H23⟩, ⟨_, _, H24⟩, ⟨_, _, H25⟩, ⟨_, _, H26⟩, ⟨_, _, H27⟩, ⟨_, _, H28⟩, ⟨_, _, H29⟩, ⟨_, _, H30⟩, ⟨_, _, H31⟩, ⟨_, _, H32⟩, ⟨_, _, H33⟩, ⟨_, _, H34⟩, ⟨_, _, H35⟩, ⟨_, _, H36⟩, fun _ h => by cases h⟩
  · simp only [bltNames, List.map, List.forall_mem_cons]
    exact ⟨PySem.W.mg_none_of X G z_len, PySem.W.mg_none_of X G z_abs, PySem.W.mg_none_of X G z_max, PySem.W.mg_none_of X G z_min, PySem.W.mg_none_of X G z_sum, PySem.W.mg_none_of X G z_any, PySem.W.mg_none_of X G z_all, PySem.W.mg_none_of X G z_int, PySem.W.mg_none_of X G z_bool, PySem.W.mg_none_of X G z_list, PySem.W.mg_none_of X G z_tuple, PySem.W.mg_none_of X G z_str, PySem.W.mg_none_of X G z_isinstance, PySem.W.mg_none_of X G z_range, PySem.W.mg_none_of X G z_dict, PySem.W.mg_none_of X G z_enumerate, fun _ h => by cases h⟩
end K17
open PySem PySem.W PyProof.Rows
set_option maxHeartbeats 0 in
theorem PySem.Challenge.cw_weavewrit_k17_steps_and_marks_holds : PySem.Challenge.rw_weavewrit_k17_steps_and_marks.Holds := by
  w_on; o_law; k_head; (case hw => w_witness2)
  k_fill
  refine L2.walk_of (l := PySem.Challenge.rw_weavewrit_k17_steps_and_marks) (n := 63) (k := 150) (x := "script") (CX := fun w => L2.CX PySem.Challenge.pw_weavewrit_k17_steps_and_marks w) (sp := fun w => MP.spLaw K17.es 150 K17.flaw _) rfl (by decide) rfl ⟨rfl, by decide, by decide⟩ (fun w h Y => PySem.W.kIn_of Y) ?F (fun _ _ _ _ hl ho hS => MP.law_sp K17.law_ok hl ho hS) (fun _ _ _ _ _ h => by obtain ⟨_, _, _, _, _, _, _, _, _, _, _, _, z⟩ := h; exact z)
  case F =>
    intro w mg fa h KX G hmg
    refine' K17.all_mk KX G hmg ?a0 ?l0 ?c0 ?k0 ?a1 ?l1 ?c1 ?k1 ?a2 ?l2 ?c2 ?k2 ?a3 ?l3 ?c3 ?k3 ?a4 ?l4 ?c4 ?k4 ?a5 ?l5 ?c5 ?k5 ?a6 ?l6 ?c6 ?k6 ?a7 ?l7 ?c7 ?k7 ?a8 ?l8 ?c8 ?k8 ?a9 ?l9 ?c9 ?k9 ?a10 ?l10 ?c10 ?k10 ?a11 ?l11 ?c11 ?k11 ?a12 ?l12 ?c12 ?k12 ?a13 ?l13 ?c13 ?k13 ?a14 ?l14 ?c14 ?k14 ?a15 ?l15 ?c15 ?k15 ?a16 ?l16 ?c16 ?k16 ?a17 ?l17 ?c17 ?k17 ?a18 ?l18 ?c18 ?k18 ?a19 ?l19 ?c19 ?k19 ?a20 ?l20 ?c20 ?k20 ?a21 ?l21 ?c21 ?k21 ?a22 ?l22 ?c22 ?k22 ?a23 ?l23 ?c23 ?k23 ?a24 ?l24 ?c24 ?k24 ?a25 ?l25 ?c25 ?k25 ?a26 ?l26 ?c26 ?k26 ?a27 ?l27 ?c27 ?k27 ?a28 ?l28 ?c28 ?k28 ?a29 ?l29 ?c29 ?k29 ?a30 ?l30 ?c30 ?k30 ?a31 ?l31 ?c31 ?k31 ?a32 ?l32 ?c32 ?k32 ?a33 ?l33 ?c33 ?k33 ?a34 ?l34 ?c34 ?k34 ?a35 ?l35 ?c35 ?k35 ?a36 ?l36 ?c36 ?k36 ?z_len ?z_abs ?z_max ?z_min ?z_sum ?z_any ?z_all ?z_int ?z_bool ?z_list ?z_tuple ?z_str ?z_isinstance ?z_range ?z_dict ?z_enumerate
    (case a0 => k_is); (case l0 => k_is); (case c0 => k_is); (case k0 => k_is); (case a1 => k_is); (case l1 => k_is); (case c1 => k_is); (case k1 => k_is); (case a2 => k_is); (case l2 => k_is); (case c2 => k_is); (case k2 => k_is); (case a3 => k_is); (case l3 => k_is); (case c3 => k_is); (case k3 => k_is); (case a4 => k_is); (case l4 => k_is); (case c4 => k_is); (case k4 => k_is); (case a5 => k_is); (case l5 => k_is); (case c5 => k_is); (case k5 => k_is); (case a6 => k_is); (case l6 => k_is); (case c6 => k_is); (case k6 => k_is); (case a7 => k_is); (case l7 => k_is); (case c7 => k_is); (case k7 => k_is); (case a8 => k_is); (case l8 => k_is); (case c8 => k_is); (case k8 => k_is); (case a9 => k_is); (case l9 => k_is); (case c9 => k_is); (case k9 => k_is); (case a10 => k_is); (case l10 => k_is); (case c10 => k_is); (case k10 => k_is); (case a11 => k_is); (case l11 => k_is); (case c11 => k_is); (case k11 => k_is); (case a12 => k_is); (case l12 => k_is); (case c12 => k_is); (case k12 => k_is); (case a13 => k_is); (case l13 => k_is); (case c13 => k_is); (case k13 => k_is); (case a14 => k_is); (case l14 => k_is); (case c14 => k_is); (case k14 => k_is); (case a15 => k_is); (case l15 => k_is); (case c15 => k_is); (case k15 => k_is); (case a16 => k_is); (case l16 => k_is); (case c16 => k_is); (case k16 => k_is); (case a17 => k_is); (case l17 => k_is); (case c17 => k_is); (case k17 => k_is); (case a18 => k_is); (case l18 => k_is); (case c18 => k_is); (case k18 => k_is); (case a19 => k_is); (case l19 => k_is); (case c19 => k_is); (case k19 => k_is); (case a20 => k_is); (case l20 => k_is); (case c20 => k_is); (case k20 => k_is); (case a21 => k_is); (case l21 => k_is); (case c21 => k_is); (case k21 => k_is); (case a22 => k_is); (case l22 => k_is); (case c22 => k_is); (case k22 => k_is); (case a23 => k_is); (case l23 => k_is); (case c23 => k_is); (case k23 => k_is); (case a24 => k_is); (case l24 => k_is); (case c24 => k_is); (case k24 => k_is); (case a25 => k_is); (case l25 => k_is); (case c25 => k_is); (case k25 => k_is); (case a26 => k_is); (case l26 => k_is); (case c26 => k_is); (case k26 => k_is); (case a27 => k_is); (case l27 => k_is); (case c27 => k_is); (case k27 => k_is); (case a28 => k_is); (case l28 => k_is); (case c28 => k_is); (case k28 => k_is); (case a29 => k_is); (case l29 => k_is); (case c29 => k_is); (case k29 => k_is); (case a30 => k_is); (case l30 => k_is); (case c30 => k_is); (case k30 => k_is); (case a31 => k_is); (case l31 => k_is); (case c31 => k_is); (case k31 => k_is); (case a32 => k_is); (case l32 => k_is); (case c32 => k_is); (case k32 => k_is); (case a33 => k_is); (case l33 => k_is); (case c33 => k_is); (case k33 => k_is); (case a34 => k_is); (case l34 => k_is); (case c34 => k_is); (case k34 => k_is); (case a35 => k_is); (case l35 => k_is); (case c35 => k_is); (case k35 => k_is); (case a36 => k_is); (case l36 => k_is); (case c36 => k_is); (case k36 => k_is); (case z_len => k_is); (case z_abs => k_is); (case z_max => k_is); (case z_min => k_is); (case z_sum => k_is); (case z_any => k_is); (case z_all => k_is); (case z_int => k_is); (case z_bool => k_is); (case z_list => k_is); (case z_tuple => k_is); (case z_str => k_is); (case z_isinstance => k_is); (case z_range => k_is); (case z_dict => k_is); (case z_enumerate => k_is)
