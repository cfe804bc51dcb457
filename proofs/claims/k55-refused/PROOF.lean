import PyProof.Rows.All
import Wide.All
import OpenK.AllK
import Wide.FinOn
import HandS.ForMost
import HandS.ForSpec
import HandS.IsInst
import HandS.Wide
import HandS.TupAny
import HandS.TryMany
import HandS.SortInts
import HandS.Conv
import HandS.Iter
import HandS.Style
import HandS.TupMul
import HandS.NoneIn
import HandS.Deep
import HandS.ExcValue
import HandS.ExcIs
import KE.DataMinMax
import PyProof.LongRange
import PyProof.ListRange
import HandS.Zip0
import HandS.Lambda
import HandS.EndTab
import PyProof.Draws
import PyProof.EnumMake
import PySem.Challenge.RW_arrivalcurves_k55_meters_refuse
set_option Elab.async false
set_option linter.all false
set_option maxRecDepth 100000
/-! PD: data as trees, mutable cells, heap-free weakest preconditions -/
namespace PD
open PySem PySem.Spec PyProof.Rows L2

inductive D where
  | non | bl (b : Bool) | int (i : Int) | str (s : Str) | tup (l : List D) | lst (l : List D)
  | dct (ks : List Key) (l : List D) | ref (a : Addr) | con (v : V) | scr (l : List D)
  | exc (nm : Str) | fn (nm : Str)
  | thk (v : V) (c : Addr) (q : Str) (l : List D) (ws : List V)

inductive Cell where
  | lst (l : List D) | dct (ks : List Key) (l : List D) | ins (c : Str) (fs : List (Str × D))
abbrev Mh := Addr → Option Cell
def mset (M : Mh) (a : Addr) (c : Cell) : Mh := fun b => if b = a then some c else M b
theorem mset_same {M : Mh} {a : Addr} {c : Cell} : mset M a c a = some c := if_pos rfl
theorem mset_ne {M : Mh} {a b : Addr} {c : Cell} (h : b ≠ a) : mset M a c b = M b := if_neg h
def mdel (M : Mh) (a : Addr) : Mh := fun b => if b = a then none else M b
theorem mdel_ne {M : Mh} {a b : Addr} (h : b ≠ a) : mdel M a b = M b := if_neg h

/-- what may be read of a datum -/
def view (M : Mh) : D → D
  | .ref a => match M a with
    | some (.lst l) => .lst l
    | some (.dct ks l) => .dct ks l
    | _ => .ref a
  | d => d

structure Exc where
  nm : Str
abbrev QD := D → Mh → Prop
abbrev XD := Exc → Mh → Prop
abbrev SpD := List D → Mh → XD → QD → Prop
abbrev EnvD := List (Option D)

inductive Tgt where
  | nm (i : Nat) | tp (is : List Nat)
inductive Bi where
  | len | abs | min2 | max2 | min1 | max1 | sum | all | any | tup | divmod | str | int | repr | lst0 | sorted | minp
inductive Me where
  | append | pop | popAt | extend | reverse | clear | insert | index | count | remove

mutual
inductive E where
  | v (i : Nat)
  | k (d : D)
  | g (n : Nat)
  | bin (o : Operator) (a b : E)
  | neg (a : E)
  | not (a : E)
  | bop (c : Bool) (es : Es)
  | cmp (o : CmpOp) (a b : E)
  | chain (o p : CmpOp) (a b c : E)
  | ife (c a b : E)
  | tup (es : Es)
  | fr (n : N)
  | ce (n : N)
  | dfr (ks : List Key) (es : Es)
  | dce (ks : List Key) (es : Es)
  | ix (a b : E)
  | sl (a : E) (lo hi : Es)
  | isi (a : E) (ty : String)
  | call (f : Nat) (es : Es)
  | bi (b : Bi) (es : Es)
  | me (m : Me) (a : E) (es : Es)
  | isc (a : E) (rs cs : List Str)
  | fv (nm : Str)
  | callv (i : Nat) (cs : List (Str × Nat)) (es : Es)
  | rvt (a : E)
  | fld (a : E) (c f : Str)
  | meth (a : E) (c m : Str) (j : Nat) (es : Es)
  | make (c : Str) (j : Nat) (es : Es)
  | lam (j : Nat) (b : E)
  | thk (i j : Nat)
  | idx (a : E) (es : Es)
inductive N where
  | lst (es : Es)
  | comp (e : E) (t : Tgt) (it : I) (c : Es)
  | cat (a b : E)
  | rep (a b : E)
  | sl (a : E) (lo hi : Es)
  | lof (a : E)
  | lrg (es : Es)
  | rev (a : E) (lo : Es)
inductive I where
  | seq (e : E)
  | rng (es : Es)
  | rdn (a b : E)
  | enum (e : E)
  | zip (a b : E)
inductive Es where
  | nil
  | cons (e : E) (r : Es)
end

mutual
inductive S where
  | set (t : Tgt) (e : E)
  | par (i j : Nat) (a b : E)
  | six (a b e : E)
  | exp (e : E)
  | ret (e : E)
  | ite (c : E) (a b : Ss)
  | for_ (t : Tgt) (it : I) (b : Ss)
  | whl (c : E) (b : Ss)
  | brk
  | cont
  | pass
  | nev
  | frz (i : Nat)
  | rse (c : Str)
  | tryo (rs : List Str) (c : Str) (b : Ss) (i : Nat) (d : D)
  | tryn (rs : List Str) (c : Str) (b : Ss) (e i : Nat)
  | sfld (a : E) (c f : Str) (e : E)
inductive Ss where
  | nil
  | cons (s : S) (r : Ss)
end

/-- the program's own errors, each below CurveError and ValueError -/
def subX (a b : Str) : Bool := decide (a = b) || decide (b = ("CurveError" : Str)) || decide (b = ("ValueError" : Str)) || decide (b = ("Exception" : Str))
@[irreducible] def iscD (x : D) (rs cs : List Str) (k : Bool → Prop) : Prop := match x with
  | .exc nm => nm ∈ rs ∧ k (cs.any (subX nm))
  | _ => False
@[irreducible] def calD (o : Option (Option D)) (cs : List (Str × Nat)) (k : Nat → Prop) : Prop := match o with
  | some (some (.fn nm)) => ∃ j, cs.lookup nm = some j ∧ k j
  | _ => False
/-- a local that holds a lambda, called -/
@[irreducible] def thkD (o : Option (Option D)) (k : D → Prop) : Prop := match o with
  | some (some (.thk v c q l ws)) => k (.thk v c q l ws)
  | _ => False
/-! ### instances of the program's own classes -/
@[irreducible] def fldD (x : D) (c f : Str) (M : Mh) (Q : QD) : Prop := match x with
  | .ref p => match M p with
    | some (.ins c' fs) => c' = c ∧ match fs.lookup f with
      | some d => Q d M
      | none => False
    | _ => False
  | _ => False
@[irreducible] def insD (x : D) (c m : Str) (M : Mh) (k : Prop) : Prop := match x with
  | .ref p => match M p with
    | some (.ins c' fs) => (c' = c ∧ fs.lookup m = none) ∧ k
    | _ => False
  | _ => False
def putD (f : Str) (v : D) : List (Str × D) → List (Str × D)
  | [] => [(f, v)]
  | (g, x) :: r => if g = f then (g, v) :: r else (g, x) :: putD f v r
@[irreducible] def sfldD (x : D) (c f : Str) (d : D) (M : Mh) (k : Mh → Prop) : Prop := match x with
  | .ref p => match M p with
    | some (.ins c' fs) => (c' = c ∧ fs.length < 1000) ∧ k (mset M p (.ins c (putD f d fs)))
    | _ => False
  | _ => False
/-! ### data -/
mutual
def toPy : D → Option PyData
  | .non => some .none
  | .bl b => some (.bool b)
  | .int i => some (.int i)
  | .str s => some (.str s)
  | .tup l => match toPys l with | some ds => some (.tuple ds) | none => none
  | .lst l => match toPys l with | some ds => some (.list ds) | none => none
  | _ => none
def toPys : List D → Option (List PyData)
  | [] => some []
  | d :: r => match toPy d, toPys r with | some x, some xs => some (x :: xs) | _, _ => none
end

def kP : Key → PyData
  | .inl i => .int i
  | .inr x => .str x
mutual
def toPyR : D → Option PyData
  | .non => some .none
  | .bl b => some (.bool b)
  | .int i => some (.int i)
  | .str s => some (.str s)
  | .tup l => match toPyRs l with | some ds => some (.tuple ds) | none => none
  | .lst l => match toPyRs l with | some ds => some (.list ds) | none => none
  | .dct ks l => match toPyRs l with | some ds => some (.dict ((ks.map kP).zip ds)) | none => none
  | _ => none
def toPyRs : List D → Option (List PyData)
  | [] => some []
  | d :: r => match toPyR d, toPyRs r with | some x, some xs => some (x :: xs) | _, _ => none
end

/-- the same of the parts, as they stand in their cells -/
def toPyVs (M : Mh) : List D → Option (List PyData)
  | [] => some []
  | d :: r => match toPyR (view M d), toPyVs M r with | some x, some xs => some (x :: xs) | _, _ => none
def toPyM (M : Mh) (d : D) : Option PyData := match view M d with
  | .tup l => match toPyVs M l with | some ds => some (.tuple ds) | none => none
  | .lst l => match toPyVs M l with | some ds => some (.list ds) | none => none
  | d => toPyR d
/-- the builtin type of a datum -/
def tyD : D → Option String
  | .non => some "NoneType" | .bl _ => some "bool" | .int _ => some "int" | .str _ => some "str"
  | .tup _ => some "tuple" | .lst _ => some "list" | .dct _ _ => some "dict" | _ => none

def mulOk (i j : Int) : Prop := CMul i j ∨ CMulW i j
def divOk (i j : Int) : Prop := CDiv i j ∨ CDivW i j

def rngL (lo : Int) (n : Nat) : List D := (List.range n).map fun (k : Nat) => D.int (lo + k)
def cutD (l : List D) (lo hi : Option Int) : List D := (l.drop (HT.sIx l.length 0 lo)).take (HT.sIx l.length l.length hi - HT.sIx l.length 0 lo)

def binD (o : Operator) (x y : D) (M : Mh) (Q : QD) : Prop :=
  match o, x, y with
  | .Add, .int i, .int j => Q (.int (i + j)) M
  | .Sub, .int i, .int j => Q (.int (i - j)) M
  | .Mult, .int i, .int j => mulOk i j ∧ Q (.int (i * j)) M
  | .FloorDiv, .int i, .int j => divOk i j ∧ Q (.int (i / j)) M
  | .Mod, .int i, .int j => 0 < j ∧ Q (.int (i % j)) M
  | .Pow, .int i, .int j => CPow i j ∧ Q (.int (i ^ j.toNat)) M
  | .Add, .str a, .str b => a.length + b.length ≤ sizeLine ∧ Q (.str (a ++ b)) M
  | .Add, .tup a, .tup b => a.length + b.length ≤ sizeLine ∧ Q (.tup (a ++ b)) M
  | .Add, .lst a, .lst b => a.length + b.length ≤ sizeLine ∧ Q (.lst (a ++ b)) M
  | .Mult, .lst a, .int k => (-(2 ^ 63) ≤ k ∧ k < 2 ^ 63 ∧ a.length * k.toNat ≤ sizeLine) ∧ Q (.lst (List.replicate k.toNat a).flatten) M
  | .Mult, .tup a, .int k => (0 < a.length ∧ 0 ≤ k ∧ k ≤ 1000 ∧ a.length ≤ 1000) ∧ Q (.tup (List.replicate k.toNat a).flatten) M
  | _, _, _ => False

def asB (Q : Bool → Mh → Prop) : QD := fun d M => match d with | .bl b => Q b M | _ => False

def eqQ (neg : Bool) (x y : D) (M : Mh) (Q : QD) : Prop :=
  match x, y with
  | .int i, .int j => Q (.bl (if neg then !decide (i = j) else decide (i = j))) M
  | .str i, .str j => Q (.bl (if neg then !decide (i = j) else decide (i = j))) M
  | .bl i, .bl j => Q (.bl (if neg then !decide (i = j) else decide (i = j))) M
  | x, y => match toPy x, toPy y with
    | some a, some b => SeqAt.shaped a = true ∧ SeqAt.shaped b = true ∧ Q (.bl (if neg then !PyData.eqv a b else PyData.eqv a b)) M
    | _, _ => False

def flatD : D → Bool
  | .non | .bl _ | .int _ | .str _ => true
  | _ => false
def eqF (x y : D) : Bool := match toPy x, toPy y with | some a, some b => PyData.eqv a b | _, _ => false
def inD (x : D) (l : List D) : Bool := l.any fun y => eqF y x

def isNon : D → Bool
  | .non => true
  | .con v => decide (v = V.non)
  | .thk v _ _ _ _ => decide (v = V.non)
  | _ => false

@[irreducible] def cmpD (o : CmpOp) (x y : D) (M : Mh) (Q : QD) : Prop :=
  match o with
  | .Eq => eqQ false (view M x) (view M y) M Q
  | .NotEq => eqQ true (view M x) (view M y) M Q
  | .Lt => match x, y with | .int i, .int j => Q (.bl (decide (i < j))) M | _, _ => False
  | .LtE => match x, y with | .int i, .int j => Q (.bl (decide (i ≤ j))) M | _, _ => False
  | .Gt => match x, y with | .int i, .int j => Q (.bl (decide (j < i))) M | _, _ => False
  | .GtE => match x, y with | .int i, .int j => Q (.bl (decide (j ≤ i))) M | _, _ => False
  | .Is => match y with
    | .non => Q (.bl (isNon x)) M
    | .bl c => match x with | .bl b => Q (.bl (decide (b = c))) M | _ => False
    | _ => False
  | .IsNot => match y with
    | .non => Q (.bl (!isNon x)) M
    | .bl c => match x with | .bl b => Q (.bl (!decide (b = c))) M | _ => False
    | _ => False
  | .In => match view M y with
    | .lst l => (flatD x = true ∧ l.all flatD = true ∧ Q (.bl (inD x l)) M) ∨ (∃ z zs, toPy x = some z ∧ toPy (.lst l) = some (.list zs) ∧ SeqAt.shaped z = true ∧ SeqAt.shaped (.list zs) = true ∧ Q (.bl (zs.any fun u => PyData.eqv u z)) M)
    | .tup l => flatD x = true ∧ l.all flatD = true ∧ Q (.bl (inD x l)) M
    | _ => False
  | .NotIn => match view M y with
    | .lst l => (flatD x = true ∧ l.all flatD = true ∧ Q (.bl (!inD x l)) M) ∨ (∃ z zs, toPy x = some z ∧ toPy (.lst l) = some (.list zs) ∧ SeqAt.shaped z = true ∧ SeqAt.shaped (.list zs) = true ∧ Q (.bl (!zs.any fun u => PyData.eqv u z)) M)
    | .tup l => flatD x = true ∧ l.all flatD = true ∧ Q (.bl (!inD x l)) M
    | _ => False

def keyD : D → Option Key
  | .int i => some (.inl i)
  | .str s => some (.inr s)
  | _ => none
def lookK : List Key → List D → Key → Option D
  | k :: ks, d :: ds, x => if k = x then some d else lookK ks ds x
  | _, _, _ => none
def setK : List Key → List D → Key → D → List D
  | k :: ks, y :: ys, x, d => (if k = x then d else y) :: setK ks ys x d
  | _, _, _, _ => []

@[irreducible] def ixD (x y : D) (M : Mh) (Q : QD) : Prop :=
  match view M x, y with
  | .lst l, .int i => match atI l i with | some d => Q d M | none => False
  | .scr l, .int i => match atI l i with | some d => Q d M | none => False
  | .tup l, .int i => match atI l i with | some d => Q d M | none => False
  | .str s, .int i => s.length ≤ sizeLine ∧ match atI s.cps.toList i with | some c => Q (.str ⟨#[c]⟩) M | none => False
  | .dct ks l, y => match keyD y with
    | some k => match lookK ks l k with | some d => Q d M | none => False
    | none => False
  | _, _ => False

@[irreducible] def sixD (x y d : D) (M : Mh) (Q : Mh → Prop) : Prop :=
  match x with
  | .ref a => match M a, y with
    | some (.lst l), .int i => match ixN l.length i with | some j => Q (mset M a (.lst (l.set j d))) | none => False
    | some (.dct ks l), y => match keyD y with
      | some k => l.length < sizeLine ∧ if (ks.any fun j => decide (j = k)) = true then Q (mset M a (.dct ks (setK ks l k d))) else Q (mset M a (.dct (ks ++ [k]) (l ++ [d])))
      | none => False
    | _, _ => False
  | _ => False

def optI : List D → Option (Option Int)
  | [] => some none
  | [.int i] => some (some i)
  | _ => none

def optQ (ds : List D) (k : Option Int → Prop) : Prop := match optI ds with
  | some o => k o
  | none => False
def revN (n : Nat) : Option Int → Option Nat
  | none => some n
  | some b => if 0 ≤ b ∧ b < n then some (b.toNat + 1) else none
@[irreducible] def revD (x : D) (lo : Option Int) (M : Mh) (Q : List D → Mh → Prop) : Prop := match view M x with
  | .lst xs => match revN xs.length lo with
    | some n => Q (xs.take n).reverse M
    | none => False
  | _ => False
@[irreducible] def rvtD (x : D) (M : Mh) (Q : QD) : Prop := match view M x with
  | .tup xs => Q (.tup xs.reverse) M
  | _ => False
def lrgD (ds : List D) (Q : List D → Prop) : Prop := match ds with
  | [.int j] => j ≤ 16777216 ∧ Q (rngL 0 j.toNat)
  | [.int i, .int j] => j - i ≤ 16777216 ∧ Q (rngL i (j - i).toNat)
  | _ => False
@[irreducible] def slD (x : D) (lo hi : Option Int) (M : Mh) (Q : QD) : Prop := match view M x with
  | .scr xs => Q (.lst (cutD xs lo hi)) M
  | .lst xs => Q (.lst (cutD xs lo hi)) M
  | .tup xs => Q (.tup (cutD xs lo hi)) M
  | _ => False
@[irreducible] def slN (x : D) (lo hi : Option Int) (M : Mh) (Q : List D → Mh → Prop) : Prop := match view M x with
  | .scr xs => Q (cutD xs lo hi) M
  | .lst xs => Q (cutD xs lo hi) M
  | _ => False
@[irreducible] def lofD (x : D) (M : Mh) (Q : List D → Mh → Prop) : Prop := match view M x with
  | .lst l => Q l M
  | .tup l => Q l M
  | _ => False

/-- the ints of a list of ints -/
def intsD : List D → Option (List Int)
  | [] => some []
  | .int i :: r => match intsD r with | some l => some (i :: l) | none => none
  | _ => none
def blsD : List D → Option (List Bool)
  | [] => some []
  | .bl i :: r => match blsD r with | some l => some (i :: l) | none => none
  | _ => none
def maxL : List Int → Int
  | [] => 0
  | [x] => x
  | x :: r => max x (maxL r)
def minL : List Int → Int
  | [] => 0
  | [x] => x
  | x :: r => min x (minL r)

def seqL (M : Mh) (d : D) : Option (List D) := match view M d with
  | .lst l => some l
  | .tup l => some l
  | _ => none

def tupP (p : Int × Int) : D := .tup [.int p.1, .int p.2]
@[irreducible] def biD (b : Bi) (ds : List D) (M : Mh) (Q : QD) : Prop :=
  match b, ds with
  | .len, [x] => match view M x with
    | .lst l => Q (.int l.length) M
    | .scr l => Q (.int l.length) M
    | .tup l => Q (.int l.length) M
    | .str s => s.length ≤ sizeLine ∧ Q (.int s.length) M
    | _ => False
  | .abs, [.int i] => Q (.int (if i < 0 then -i else i)) M
  | .min2, [.int i, .int j] => Q (.int (if j < i then j else i)) M
  | .max2, [.int i, .int j] => Q (.int (if j > i then j else i)) M
  | .min1, [x] => match view M x with
    | .lst l => match intsD l with | some ns => 0 < ns.length ∧ Q (.int (minL ns)) M | none => False
    | _ => False
  | .max1, [x] => match view M x with
    | .lst l => match intsD l with | some ns => 0 < ns.length ∧ Q (.int (maxL ns)) M | none => False
    | _ => False
  | .sum, [x] => match view M x with
    | .lst l => match intsD l with | some ns => Q (.int ns.sum) M | none => False
    | _ => False
  | .all, [x] => match view M x with
    | .lst l => match blsD l with | some bs => Q (.bl (bs.all id)) M | none => False
    | _ => False
  | .any, [x] => match view M x with
    | .lst l => match blsD l with | some bs => Q (.bl (bs.any id)) M | none => False
    | _ => False
  | .tup, [x] => match view M x with
    | .lst l => Q (.tup l) M
    | .tup l => Q (.tup l) M
    | _ => False
  | .divmod, [.int i, .int j] => CDiv i j ∧ Q (.tup [.int (i / j), .int (i % j)]) M
  | .str, [.int i] => i.natAbs.log2 < 1920 ∧ Q (.str (toString i)) M
  | .minp, [x] => match view M x with
    | .lst l => ∃ ps : List (Int × Int), l = ps.map tupP ∧ 0 < ps.length ∧ ∀ p ∈ ps, (∀ q ∈ ps, p.1 < q.1 ∨ p.1 = q.1 ∧ p.2 ≤ q.2) → Q (tupP p) M
    | _ => False
  | .repr, [x] => match toPyM M x with
    | some p => (p.showable = true ∧ p.depth ≤ 40 ∧ p.shown.length ≤ sizeLine) ∧ Q (.str p.shown) M
    | none => False
  | .int, [.int i] => Q (.int i) M
  | .int, [.bl b] => Q (.int (if b then 1 else 0)) M
  | .sorted, [x] => match view M x with
    | .lst l => match intsD l with | some ns => ∀ ns' : List Int, ns'.Perm ns → ns'.Pairwise (· ≤ ·) → Q (.lst (ns'.map .int)) M | none => False
    | _ => False
  | _, _ => False

@[irreducible] def meD (m : Me) (x : D) (ds : List D) (M : Mh) (Q : QD) : Prop :=
  match x with
  | .ref a => match M a with
    | some (.lst l) => match m, ds with
      | .append, [d] => l.length < sizeLine ∧ Q .non (mset M a (.lst (l ++ [d])))
      | .pop, [] => match l[l.length - 1]? with | some d => Q d (mset M a (.lst l.dropLast)) | none => False
      | .popAt, [.int i] => (-(2 ^ 63) ≤ i ∧ i < 2 ^ 63) ∧ match seqIndex? i l.length with
        | some k => match l[k]? with | some d => Q d (mset M a (.lst (l.eraseIdx k))) | none => False
        | none => False
      | .extend, [y] => match view M y with
        | .lst zs => l.length + zs.length ≤ sizeLine ∧ Q .non (mset M a (.lst (l ++ zs)))
        | _ => False
      | .reverse, [] => Q .non (mset M a (.lst l.reverse))
      | .clear, [] => Q .non (mset M a (.lst []))
      | .count, [y] => (flatD y = true ∧ l.all flatD = true) ∧ Q (.int ((l.countP fun z => eqF z y : Nat) : Int)) M
      | _, _ => False
    | _ => False
  | _ => False

/-- the first place of a datum in a list -/
def fstI (y : D) : List D → Option Nat
  | [] => none
  | z :: r => if eqF z y = true then some 0 else match fstI y r with | some j => some (j + 1) | none => none
@[irreducible] def idxD (x : D) (ds : List D) (M : Mh) (Q : QD) : Prop := match view M x, ds with
  | .lst l, [y] => (flatD y = true ∧ l.all flatD = true) ∧ match fstI y l with | some j => Q (.int j) M | none => False
  | _, _ => False
def isL (M : Mh) (x : D) : Bool := match view M x with | .lst _ => true | _ => false

def bindT (t : Tgt) (d : D) (env : EnvD) : Option EnvD :=
  match t with
  | .nm i => some (env.set i (some d))
  | .tp is => match d with
    | .tup l => match Nat.beq l.length is.length with
      | true => some ((is.zip l).foldl (fun e p => e.set p.1 (some p.2)) env)
      | false => none
    | .lst l => match Nat.beq l.length is.length with
      | true => some ((is.zip l).foldl (fun e p => e.set p.1 (some p.2)) env)
      | false => none
    | _ => none

def optE (o : Option EnvD) (k : EnvD → Prop) : Prop := match o with
  | some e => k e
  | none => False
/-- [e for t in ds if c], what is made so far -/
def compD0 (body : EnvD → Mh → (D → Mh → Prop) → Prop) (test : EnvD → Mh → (Bool → Mh → Prop) → Prop) (t : Tgt) (env : EnvD) (guard : Mh → Prop) : List D → List D → Mh → (List D → Mh → Prop) → Prop
  | [], acc, M, Q => guard M ∧ Q acc M
  | d :: r, acc, M, Q => guard M ∧ optE (bindT t d env) fun env' =>
    test env' M fun b M1 => if b = true then body env' M1 fun x M2 => acc.length < sizeLine ∧ compD0 body test t env guard r (acc ++ [x]) M2 Q else compD0 body test t env guard r acc M1 Q

@[irreducible] def compD (body : EnvD → Mh → (D → Mh → Prop) → Prop) (test : EnvD → Mh → (Bool → Mh → Prop) → Prop) (t : Tgt) (env : EnvD) (guard : Mh → Prop) (ds acc : List D) (M : Mh) (Q : List D → Mh → Prop) : Prop := compD0 body test t env guard ds acc M Q
theorem compD_nil {body : EnvD → Mh → (D → Mh → Prop) → Prop} {test : EnvD → Mh → (Bool → Mh → Prop) → Prop} {t : Tgt} {env : EnvD} {guard : Mh → Prop} {acc : List D} {M : Mh} {Q : List D → Mh → Prop} : compD body test t env guard [] acc M Q = (guard M ∧ Q acc M) := by
  unfold compD; rfl
theorem compD_cons {body : EnvD → Mh → (D → Mh → Prop) → Prop} {test : EnvD → Mh → (Bool → Mh → Prop) → Prop} {t : Tgt} {env : EnvD} {guard : Mh → Prop} {d : D} {r acc : List D} {M : Mh} {Q : List D → Mh → Prop} : compD body test t env guard (d :: r) acc M Q = (guard M ∧ optE (bindT t d env) fun env' =>
    test env' M fun b M1 => if b = true then body env' M1 fun x M2 => acc.length < sizeLine ∧ compD body test t env guard r (acc ++ [x]) M2 Q else compD body test t env guard r acc M1 Q) := by
  unfold compD; rfl

def varD (env : EnvD) (i : Nat) (k : D → Prop) : Prop := match env[i]? with
  | some (some d) => k d
  | _ => False
def negD (x : D) (k : D → Prop) : Prop := match x with
  | .int i => k (.int (-i))
  | _ => False
@[irreducible] def isiD (x : D) (ty : String) (k : D → Prop) : Prop := match tyD x with
  | some t => match kitB t ty with
    | some b => k (.bl b)
    | none => False
  | none => False
def catN (x y : D) (k : List D → Prop) : Prop := match x, y with
  | .lst l, .lst r => l.length + r.length ≤ sizeLine ∧ k (l ++ r)
  | _, _ => False
def repN (x y : D) (k : List D → Prop) : Prop := match x, y with
  | .lst l, .int n => (-(2 ^ 63) ≤ n ∧ n < 2 ^ 63 ∧ l.length * n.toNat ≤ sizeLine) ∧ k (List.replicate n.toNat l).flatten
  | _, _ => False
@[irreducible] def seqD (d : D) (M : Mh) (Q : List D → (Mh → Prop) → Mh → Prop) : Prop := match d with
  | .ref a => match M a with
    | some (.lst l) => Q l (fun M => M a = some (.lst l)) M
    | _ => False
  | .lst l => Q l (fun _ => True) M
  | .tup l => Q l (fun _ => True) M
  | _ => False
@[irreducible] def rngD (ds : List D) (k : List D → Prop) : Prop := match ds with
  | [.int j] => (-(2 ^ 62) ≤ j ∧ j < 2 ^ 62) ∧ k (rngL 0 j.toNat)
  | [.int i, .int j] => (-(2 ^ 62) ≤ i ∧ i < 2 ^ 62 ∧ -(2 ^ 62) ≤ j ∧ j < 2 ^ 62) ∧ k (rngL i (j - i).toNat)
  | _ => False
def dnL (i : Int) (n : Nat) : List D := (List.range n).map fun (k : Nat) => .int (i - k)
@[irreducible] def rdnD (x y : D) (k : List D → Prop) : Prop := match x, y with
  | .int i, .int j => (-(2 ^ 62) ≤ i ∧ i < 2 ^ 62 ∧ -(2 ^ 62) ≤ j ∧ j < 2 ^ 62) ∧ k (dnL i (i - j).toNat)
  | _, _ => False
def enumL (l : List D) : List D := l.mapIdx fun k x => .tup [.int k, x]
@[irreducible] def enumD (d : D) (M : Mh) (Q : List D → (Mh → Prop) → Mh → Prop) : Prop := match d with
  | .ref a => match M a with
    | some (.lst l) => Q (enumL l) (fun M => M a = some (.lst l)) M
    | _ => False
  | .lst l => Q (enumL l) (fun _ => True) M
  | .tup l => Q (enumL l) (fun _ => True) M
  | _ => False
@[irreducible] def zipD (x y : D) (k : List D → Prop) : Prop := match x, y with
  | .lst l, .lst r => k (l.zipWith (fun x y => .tup [x, y]) r)
  | _, _ => False

section
variable (G : Nat → SpD) (C : Nat → D)
mutual
def wpE : E → EnvD → Mh → XD → QD → Prop
  | .v i, env, M, _, Q => varD env i fun d => Q d M
  | .k d, _, M, _, Q => Q d M
  | .g n, _, M, _, Q => Q (C n) M
  | .bin o a b, env, M, X, Q => wpE a env M X fun x M1 => wpE b env M1 X fun y M2 => binD o (view M2 x) (view M2 y) M2 Q
  | .neg a, env, M, X, Q => wpE a env M X fun x M1 => negD x fun d => Q d M1
  | .not a, env, M, X, Q => wpE a env M X (asB fun b M1 => Q (.bl (!b)) M1)
  | .bop c es, env, M, X, Q => wpB c es env M X Q
  | .cmp o a b, env, M, X, Q => wpE a env M X fun x M1 => wpE b env M1 X fun y M2 => cmpD o x y M2 Q
  | .chain o p a b c, env, M, X, Q => wpE a env M X fun x M1 => wpE b env M1 X fun y M2 => cmpD o x y M2 (asB fun t M3 =>
      if t = true then wpE c env M3 X fun z M4 => cmpD p y z M4 Q else Q (.bl false) M3)
  | .ife c a b, env, M, X, Q => wpE c env M X (asB fun t M1 => if t = true then wpE a env M1 X Q else wpE b env M1 X Q)
  | .tup es, env, M, X, Q => wpEs es env M X fun ds M1 => ds.length ≤ sizeLine ∧ Q (.tup ds) M1
  | .fr n, env, M, X, Q => wpN n env M X fun ds M1 => Q (.lst ds) M1
  | .ce n, env, M, X, Q => wpN n env M X fun ds M1 => ∀ p, M1 p = none → Q (.ref p) (mset M1 p (.lst ds))
  | .dfr ks es, env, M, X, Q => wpEs es env M X fun ds M1 => Q (.dct ks ds) M1
  | .dce ks es, env, M, X, Q => wpEs es env M X fun ds M1 => ∀ p, M1 p = none → Q (.ref p) (mset M1 p (.dct ks ds))
  | .ix a b, env, M, X, Q => wpE a env M X fun x M1 => wpE b env M1 X fun y M2 => ixD x y M2 Q
  | .sl a lo hi, env, M, X, Q => wpE a env M X fun x M1 => wpEs lo env M1 X fun l M2 => optQ l fun l => wpEs hi env M2 X fun h M3 => optQ h fun h => slD x l h M3 Q
  | .isi a ty, env, M, X, Q => wpE a env M X fun x M1 => isiD (view M1 x) ty fun d => Q d M1
  | .call f es, env, M, X, Q => wpEs es env M X fun ds M1 => G f ds M1 X Q
  | .bi b es, env, M, X, Q => wpEs es env M X fun ds M1 => biD b ds M1 Q
  | .me m a es, env, M, X, Q => wpE a env M X fun x M1 => isL M1 x = true ∧ wpEs es env M1 X fun ds M2 => meD m x ds M2 Q
  | .rvt a, env, M, X, Q => wpE a env M X fun x M1 => rvtD x M1 Q
  | .isc a rs cs, env, M, X, Q => wpE a env M X fun x M1 => iscD x rs cs fun b => Q (.bl b) M1
  | .fv nm, env, M, X, Q => Q (.fn nm) M
  | .callv i cs es, env, M, X, Q => calD env[i]? cs fun j => wpEs es env M X fun ds M1 => G j ds M1 X Q
  | .fld a c f, env, M, X, Q => wpE a env M X fun x M1 => fldD x c f M1 Q
  | .meth a c m j es, env, M, X, Q => wpE a env M X fun x M1 => insD x c m M1 (wpEs es env M1 X fun ds M2 => G j (x :: ds) M2 X Q)
  | .make c j es, env, M, X, Q => wpEs es env M X fun ds M1 => ∀ p, M1 p = none → G j (.ref p :: ds) (mset M1 p (.ins c [])) X (fun d M2 => d = .non ∧ Q (.ref p) M2)
  | .lam j b, env, M, X, Q => wpE b env M (fun x M1 => G j [.exc x.nm, .non] M1 (fun _ _ => False) Q) (fun d M1 => G j [d] M1 (fun _ _ => False) Q)
  | .idx a es, env, M, X, Q => wpE a env M X fun x M1 => isL M1 x = true ∧ wpEs es env M1 X fun ds M2 => idxD x ds M2 Q
  | .thk i j, env, M, X, Q => thkD env[i]? fun d => G j [d] M X Q
def wpN : N → EnvD → Mh → XD → (List D → Mh → Prop) → Prop
  | .lst es, env, M, X, Q => wpEs es env M X fun ds M1 => ds.length ≤ sizeLine ∧ Q ds M1
  | .comp e t it c, env, M, X, Q => wpI it env M X fun ds g M1 => compD (fun env M Q => wpE e env M (fun _ _ => False) Q) (fun env M Q => wpT c env M Q) t env g ds [] M1 Q
  | .cat a b, env, M, X, Q => wpE a env M X fun x M1 => wpE b env M1 X fun y M2 => catN (view M2 x) (view M2 y) fun l => Q l M2
  | .rep a b, env, M, X, Q => wpE a env M X fun x M1 => wpE b env M1 X fun y M2 => repN (view M2 x) y fun l => Q l M2
  | .sl a lo hi, env, M, X, Q => wpE a env M X fun x M1 => wpEs lo env M1 X fun l M2 => optQ l fun l => wpEs hi env M2 X fun h M3 => optQ h fun h => slN x l h M3 Q
  | .lof a, env, M, X, Q => wpE a env M X fun x M1 => lofD x M1 Q
  | .lrg es, env, M, X, Q => wpEs es env M X fun ds M1 => lrgD ds fun l => Q l M1
  | .rev a lo, env, M, X, Q => wpE a env M X fun x M1 => wpEs lo env M1 X fun l M2 => optQ l fun l => revD x l M2 Q
def wpI : I → EnvD → Mh → XD → (List D → (Mh → Prop) → Mh → Prop) → Prop
  | .seq e, env, M, X, Q => wpE e env M X fun d M1 => seqD d M1 Q
  | .rng es, env, M, X, Q => wpEs es env M X fun ds M1 => rngD ds fun l => Q l (fun _ => True) M1
  | .rdn a b, env, M, X, Q => wpE a env M X fun x M1 => wpE b env M1 X fun y M2 => rdnD x y fun l => Q l (fun _ => True) M2
  | .enum e, env, M, X, Q => wpE e env M X fun d M1 => enumD d M1 Q
  | .zip a b, env, M, X, Q => wpE a env M X fun x M1 => wpE b env M1 X fun y M2 => zipD x y fun l => Q l (fun _ => True) M2
def wpEs : Es → EnvD → Mh → XD → (List D → Mh → Prop) → Prop
  | .nil, _, M, _, Q => Q [] M
  | .cons e r, env, M, X, Q => wpE e env M X fun d M1 => wpEs r env M1 X fun ds M2 => Q (d :: ds) M2
def wpB (c : Bool) : Es → EnvD → Mh → XD → QD → Prop
  | .nil, _, _, _, _ => False
  | .cons e r, env, M, X, Q => wpE e env M X (match r with
    | .nil => Q
    | .cons _ _ => asB fun b M1 => if b = c then wpB c r env M1 X Q else Q (.bl b) M1)
def wpT : Es → EnvD → Mh → (Bool → Mh → Prop) → Prop
  | .nil, _, M, Q => Q true M
  | .cons e _, env, M, Q => wpE e env M (fun _ _ => False) (asB Q)
end

structure EndsD where
  nx : EnvD → Mh → Prop
  rt : D → Mh → Prop
  bk : EnvD → Mh → Prop
  ct : EnvD → Mh → Prop
  ex : Exc → EnvD → Mh → Prop

@[irreducible] def frzD (env : EnvD) (i : Nat) (M : Mh) (k : EnvD → Mh → Prop) : Prop := match env[i]? with
  | some (some (.ref a)) => match M a with
    | some (.lst l) => k (env.set i (some (.lst l))) (mdel M a)
    | some (.dct ks l) => k (env.set i (some (.dct ks l))) (mdel M a)
    | _ => False
  | _ => False
/-- for t in ds: body -/
def forD0 (body : EnvD → Mh → EndsD → Prop) (t : Tgt) (guard : Mh → Prop) (K : EndsD) : List D → EnvD → Mh → Prop
  | [], env, M => guard M ∧ K.nx env M
  | d :: r, env, M => guard M ∧ optE (bindT t d env) fun env' => body env' M { K with nx := forD0 body t guard K r, ct := forD0 body t guard K r, bk := K.nx }
@[irreducible] def forD (body : EnvD → Mh → EndsD → Prop) (t : Tgt) (guard : Mh → Prop) (K : EndsD) (ds : List D) (env : EnvD) (M : Mh) : Prop := forD0 body t guard K ds env M
theorem forD_nil {body : EnvD → Mh → EndsD → Prop} {t : Tgt} {guard : Mh → Prop} {K : EndsD} {env : EnvD} {M : Mh} : forD body t guard K [] env M = (guard M ∧ K.nx env M) := by
  unfold forD; rfl
theorem forD_cons {body : EnvD → Mh → EndsD → Prop} {t : Tgt} {guard : Mh → Prop} {K : EndsD} {d : D} {r : List D} {env : EnvD} {M : Mh} : forD body t guard K (d :: r) env M = (guard M ∧ optE (bindT t d env) fun env' => body env' M { K with nx := forD body t guard K r, ct := forD body t guard K r, bk := K.nx }) := by
  have e : forD body t guard K r = forD0 body t guard K r := by funext e m; unfold forD; rfl
  rw [e]
  unfold forD; rfl

mutual
def wpS : S → EnvD → Mh → EndsD → Prop
  | .set t e, env, M, K => wpE G C e env M (fun x M => K.ex x env M) fun d M1 => optE (bindT t d env) fun env' => K.nx env' M1
  | .par i j a b, env, M, K => wpE G C a env M (fun x M => K.ex x env M) fun d M1 => wpE G C b env M1 (fun x M => K.ex x env M) fun e M2 => K.nx ((env.set i (some d)).set j (some e)) M2
  | .six a b e, env, M, K => wpE G C e env M (fun x M => K.ex x env M) fun d M1 => wpE G C a env M1 (fun x M => K.ex x env M) fun x M2 => wpE G C b env M2 (fun x M => K.ex x env M) fun y M3 =>
      sixD x y d M3 (K.nx env)
  | .exp e, env, M, K => wpE G C e env M (fun x M => K.ex x env M) fun _ M1 => K.nx env M1
  | .ret e, env, M, K => wpE G C e env M (fun x M => K.ex x env M) K.rt
  | .ite c a b, env, M, K => wpE G C c env M (fun x M => K.ex x env M) (asB fun t M1 => if t = true then wpSs a env M1 K else wpSs b env M1 K)
  | .for_ t it b, env, M, K => wpI G C it env M (fun x M => K.ex x env M) fun ds g M1 => forD (wpSs b) t g K ds env M1
  | .whl c b, env, M, K => ∃ J : Nat → EnvD → Mh → Prop, (∃ n, J n env M) ∧ ∀ n env M, J n env M → wpE G C c env M (fun x M => K.ex x env M) (asB fun t M1 =>
      if t = true then wpSs b env M1 { K with nx := fun e m => ∃ k, k < n ∧ J k e m, ct := fun e m => ∃ k, k < n ∧ J k e m, bk := K.nx } else K.nx env M1)
  | .brk, env, M, K => K.bk env M
  | .cont, env, M, K => K.ct env M
  | .pass, env, M, K => K.nx env M
  | .nev, _, _, _ => False
  | .frz i, env, M, K => frzD env i M K.nx
  | .rse c, env, M, K => K.ex ⟨c⟩ env M
  | .tryo rs c b i d, env, M, K => wpSs b env M ⟨K.nx, K.rt, K.bk, K.ct, fun x e m => x.nm ∈ rs ∧ if subX x.nm c = true then K.nx (e.set i (some d)) m else K.ex x e m⟩
  | .tryn rs c b j i, env, M, K => wpSs b env M ⟨K.nx, K.rt, K.bk, K.ct, fun x e m => (x.nm ∈ rs ∧ j < e.length) ∧ if subX x.nm c = true then K.nx ((e.set i (some (.exc x.nm))).set j none) m else K.ex x e m⟩
  | .sfld a c f e, env, M, K => wpE G C e env M (fun x M => K.ex x env M) fun d M1 => wpE G C a env M1 (fun x M => K.ex x env M) fun x M2 => sfldD x c f d M2 (K.nx env)
def wpSs : Ss → EnvD → Mh → EndsD → Prop
  | .nil, env, M, K => K.nx env M
  | .cons s r, env, M, K => wpS s env M { K with nx := fun e m => wpSs r e m K }
end
end
/-! equations -/
section
variable {G : Nat → SpD} {C : Nat → D}
theorem wpE_v {i : _} {env : EnvD} {M : Mh} {X : XD} {Q : QD} : wpE G C (E.v i) env M X Q = (varD env i fun d => Q d M) := rfl
theorem wpE_k {d : _} {env : EnvD} {M : Mh} {X : XD} {Q : QD} : wpE G C (E.k d) env M X Q = (Q d M) := rfl
theorem wpE_g {n : _} {env : EnvD} {M : Mh} {X : XD} {Q : QD} : wpE G C (E.g n) env M X Q = (Q (C n) M) := rfl
theorem wpE_bin {o : _} {a : _} {b : _} {env : EnvD} {M : Mh} {X : XD} {Q : QD} : wpE G C (E.bin o a b) env M X Q = (wpE G C a env M X fun x M1 => wpE G C b env M1 X fun y M2 => binD o (view M2 x) (view M2 y) M2 Q) := rfl
theorem wpE_neg {a : _} {env : EnvD} {M : Mh} {X : XD} {Q : QD} : wpE G C (E.neg a) env M X Q = (wpE G C a env M X fun x M1 => negD x fun d => Q d M1) := rfl
theorem wpE_not {a : _} {env : EnvD} {M : Mh} {X : XD} {Q : QD} : wpE G C (E.not a) env M X Q = (wpE G C a env M X (asB fun b M1 => Q (.bl (!b)) M1)) := rfl
theorem wpE_bop {c : _} {es : _} {env : EnvD} {M : Mh} {X : XD} {Q : QD} : wpE G C (E.bop c es) env M X Q = (wpB G C c es env M X Q) := rfl
theorem wpE_cmp {o : _} {a : _} {b : _} {env : EnvD} {M : Mh} {X : XD} {Q : QD} : wpE G C (E.cmp o a b) env M X Q = (wpE G C a env M X fun x M1 => wpE G C b env M1 X fun y M2 => cmpD o x y M2 Q) := rfl
theorem wpE_chain {o : _} {p : _} {a : _} {b : _} {c : _} {env : EnvD} {M : Mh} {X : XD} {Q : QD} : wpE G C (E.chain o p a b c) env M X Q = (wpE G C a env M X fun x M1 => wpE G C b env M1 X fun y M2 => cmpD o x y M2 (asB fun t M3 =>
      if t = true then wpE G C c env M3 X fun z M4 => cmpD p y z M4 Q else Q (.bl false) M3)) := rfl
theorem wpE_ife {c : _} {a : _} {b : _} {env : EnvD} {M : Mh} {X : XD} {Q : QD} : wpE G C (E.ife c a b) env M X Q = (wpE G C c env M X (asB fun t M1 => if t = true then wpE G C a env M1 X Q else wpE G C b env M1 X Q)) := rfl
theorem wpE_tup {es : _} {env : EnvD} {M : Mh} {X : XD} {Q : QD} : wpE G C (E.tup es) env M X Q = (wpEs G C es env M X fun ds M1 => ds.length ≤ sizeLine ∧ Q (.tup ds) M1) := rfl
theorem wpE_fr {n : _} {env : EnvD} {M : Mh} {X : XD} {Q : QD} : wpE G C (E.fr n) env M X Q = (wpN G C n env M X fun ds M1 => Q (.lst ds) M1) := rfl
theorem wpE_ce {n : _} {env : EnvD} {M : Mh} {X : XD} {Q : QD} : wpE G C (E.ce n) env M X Q = (wpN G C n env M X fun ds M1 => ∀ p, M1 p = none → Q (.ref p) (mset M1 p (.lst ds))) := rfl
theorem wpE_dfr {ks : _} {es : _} {env : EnvD} {M : Mh} {X : XD} {Q : QD} : wpE G C (E.dfr ks es) env M X Q = (wpEs G C es env M X fun ds M1 => Q (.dct ks ds) M1) := rfl
theorem wpE_dce {ks : _} {es : _} {env : EnvD} {M : Mh} {X : XD} {Q : QD} : wpE G C (E.dce ks es) env M X Q = (wpEs G C es env M X fun ds M1 => ∀ p, M1 p = none → Q (.ref p) (mset M1 p (.dct ks ds))) := rfl
theorem wpE_ix {a : _} {b : _} {env : EnvD} {M : Mh} {X : XD} {Q : QD} : wpE G C (E.ix a b) env M X Q = (wpE G C a env M X fun x M1 => wpE G C b env M1 X fun y M2 => ixD x y M2 Q) := rfl
theorem wpE_sl {a : _} {lo : _} {hi : _} {env : EnvD} {M : Mh} {X : XD} {Q : QD} : wpE G C (E.sl a lo hi) env M X Q = (wpE G C a env M X fun x M1 => wpEs G C lo env M1 X fun l M2 => optQ l fun l => wpEs G C hi env M2 X fun h M3 => optQ h fun h => slD x l h M3 Q) := rfl
theorem wpE_isi {a : _} {ty : _} {env : EnvD} {M : Mh} {X : XD} {Q : QD} : wpE G C (E.isi a ty) env M X Q = (wpE G C a env M X fun x M1 => isiD (view M1 x) ty fun d => Q d M1) := rfl
theorem wpE_call {f : _} {es : _} {env : EnvD} {M : Mh} {X : XD} {Q : QD} : wpE G C (E.call f es) env M X Q = (wpEs G C es env M X fun ds M1 => G f ds M1 X Q) := rfl
theorem wpE_bi {b : _} {es : _} {env : EnvD} {M : Mh} {X : XD} {Q : QD} : wpE G C (E.bi b es) env M X Q = (wpEs G C es env M X fun ds M1 => biD b ds M1 Q) := rfl
theorem wpE_me {m : _} {a : _} {es : _} {env : EnvD} {M : Mh} {X : XD} {Q : QD} : wpE G C (E.me m a es) env M X Q = (wpE G C a env M X fun x M1 => isL M1 x = true ∧ wpEs G C es env M1 X fun ds M2 => meD m x ds M2 Q) := rfl
theorem wpE_rvt {a : _} {env : EnvD} {M : Mh} {X : XD} {Q : QD} : wpE G C (E.rvt a) env M X Q = (wpE G C a env M X fun x M1 => rvtD x M1 Q) := rfl
theorem wpE_isc {a : _} {rs : _} {cs : _} {env : EnvD} {M : Mh} {X : XD} {Q : QD} : wpE G C (E.isc a rs cs) env M X Q = (wpE G C a env M X fun x M1 => iscD x rs cs fun b => Q (.bl b) M1) := rfl
theorem wpE_fv {nm : _} {env : EnvD} {M : Mh} {X : XD} {Q : QD} : wpE G C (E.fv nm) env M X Q = (Q (.fn nm) M) := rfl
theorem wpE_callv {i : _} {cs : _} {es : _} {env : EnvD} {M : Mh} {X : XD} {Q : QD} : wpE G C (E.callv i cs es) env M X Q = (calD env[i]? cs fun j => wpEs G C es env M X fun ds M1 => G j ds M1 X Q) := rfl
theorem wpE_fld {a : _} {c : _} {f : _} {env : EnvD} {M : Mh} {X : XD} {Q : QD} : wpE G C (E.fld a c f) env M X Q = (wpE G C a env M X fun x M1 => fldD x c f M1 Q) := rfl
theorem wpE_meth {a : _} {c : _} {m : _} {j : _} {es : _} {env : EnvD} {M : Mh} {X : XD} {Q : QD} : wpE G C (E.meth a c m j es) env M X Q = (wpE G C a env M X fun x M1 => insD x c m M1 (wpEs G C es env M1 X fun ds M2 => G j (x :: ds) M2 X Q)) := rfl
theorem wpE_make {c : _} {j : _} {es : _} {env : EnvD} {M : Mh} {X : XD} {Q : QD} : wpE G C (E.make c j es) env M X Q = (wpEs G C es env M X fun ds M1 => ∀ p, M1 p = none → G j (.ref p :: ds) (mset M1 p (.ins c [])) X (fun d M2 => d = .non ∧ Q (.ref p) M2)) := rfl
theorem wpE_lam {j : _} {b : _} {env : EnvD} {M : Mh} {X : XD} {Q : QD} : wpE G C (E.lam j b) env M X Q = (wpE G C b env M (fun x M1 => G j [.exc x.nm, .non] M1 (fun _ _ => False) Q) (fun d M1 => G j [d] M1 (fun _ _ => False) Q)) := rfl
theorem wpE_idx {a : _} {es : _} {env : EnvD} {M : Mh} {X : XD} {Q : QD} : wpE G C (E.idx a es) env M X Q = (wpE G C a env M X fun x M1 => isL M1 x = true ∧ wpEs G C es env M1 X fun ds M2 => idxD x ds M2 Q) := rfl
theorem wpE_thk {i : _} {j : _} {env : EnvD} {M : Mh} {X : XD} {Q : QD} : wpE G C (E.thk i j) env M X Q = (thkD env[i]? fun d => G j [d] M X Q) := rfl
theorem wpN_lst {es : _} {env : EnvD} {M : Mh} {X : XD} {Q : List D → Mh → Prop} : wpN G C (N.lst es) env M X Q = (wpEs G C es env M X fun ds M1 => ds.length ≤ sizeLine ∧ Q ds M1) := rfl
theorem wpN_comp {e : _} {t : _} {it : _} {c : _} {env : EnvD} {M : Mh} {X : XD} {Q : List D → Mh → Prop} : wpN G C (N.comp e t it c) env M X Q = (wpI G C it env M X fun ds g M1 => compD (fun env M Q => wpE G C e env M (fun _ _ => False) Q) (fun env M Q => wpT G C c env M Q) t env g ds [] M1 Q) := rfl
theorem wpN_cat {a : _} {b : _} {env : EnvD} {M : Mh} {X : XD} {Q : List D → Mh → Prop} : wpN G C (N.cat a b) env M X Q = (wpE G C a env M X fun x M1 => wpE G C b env M1 X fun y M2 => catN (view M2 x) (view M2 y) fun l => Q l M2) := rfl
theorem wpN_rep {a : _} {b : _} {env : EnvD} {M : Mh} {X : XD} {Q : List D → Mh → Prop} : wpN G C (N.rep a b) env M X Q = (wpE G C a env M X fun x M1 => wpE G C b env M1 X fun y M2 => repN (view M2 x) y fun l => Q l M2) := rfl
theorem wpN_sl {a : _} {lo : _} {hi : _} {env : EnvD} {M : Mh} {X : XD} {Q : List D → Mh → Prop} : wpN G C (N.sl a lo hi) env M X Q = (wpE G C a env M X fun x M1 => wpEs G C lo env M1 X fun l M2 => optQ l fun l => wpEs G C hi env M2 X fun h M3 => optQ h fun h => slN x l h M3 Q) := rfl
theorem wpN_lof {a : _} {env : EnvD} {M : Mh} {X : XD} {Q : List D → Mh → Prop} : wpN G C (N.lof a) env M X Q = (wpE G C a env M X fun x M1 => lofD x M1 Q) := rfl
theorem wpN_lrg {es : _} {env : EnvD} {M : Mh} {X : XD} {Q : List D → Mh → Prop} : wpN G C (N.lrg es) env M X Q = (wpEs G C es env M X fun ds M1 => lrgD ds fun l => Q l M1) := rfl
theorem wpN_rev {a : _} {lo : _} {env : EnvD} {M : Mh} {X : XD} {Q : List D → Mh → Prop} : wpN G C (N.rev a lo) env M X Q = (wpE G C a env M X fun x M1 => wpEs G C lo env M1 X fun l M2 => optQ l fun l => revD x l M2 Q) := rfl
theorem wpI_seq {e : _} {env : EnvD} {M : Mh} {X : XD} {Q : List D → (Mh → Prop) → Mh → Prop} : wpI G C (I.seq e) env M X Q = (wpE G C e env M X fun d M1 => seqD d M1 Q) := rfl
theorem wpI_rng {es : _} {env : EnvD} {M : Mh} {X : XD} {Q : List D → (Mh → Prop) → Mh → Prop} : wpI G C (I.rng es) env M X Q = (wpEs G C es env M X fun ds M1 => rngD ds fun l => Q l (fun _ => True) M1) := rfl
theorem wpI_rdn {a : _} {b : _} {env : EnvD} {M : Mh} {X : XD} {Q : List D → (Mh → Prop) → Mh → Prop} : wpI G C (I.rdn a b) env M X Q = (wpE G C a env M X fun x M1 => wpE G C b env M1 X fun y M2 => rdnD x y fun l => Q l (fun _ => True) M2) := rfl
theorem wpI_enum {e : _} {env : EnvD} {M : Mh} {X : XD} {Q : List D → (Mh → Prop) → Mh → Prop} : wpI G C (I.enum e) env M X Q = (wpE G C e env M X fun d M1 => enumD d M1 Q) := rfl
theorem wpI_zip {a : _} {b : _} {env : EnvD} {M : Mh} {X : XD} {Q : List D → (Mh → Prop) → Mh → Prop} : wpI G C (I.zip a b) env M X Q = (wpE G C a env M X fun x M1 => wpE G C b env M1 X fun y M2 => zipD x y fun l => Q l (fun _ => True) M2) := rfl
theorem wpEs_nil  {env : EnvD} {M : Mh} {X : XD} {Q : List D → Mh → Prop} : wpEs G C (Es.nil ) env M X Q = (Q [] M) := rfl
theorem wpEs_cons {e : _} {r : _} {env : EnvD} {M : Mh} {X : XD} {Q : List D → Mh → Prop} : wpEs G C (Es.cons e r) env M X Q = (wpE G C e env M X fun d M1 => wpEs G C r env M1 X fun ds M2 => Q (d :: ds) M2) := rfl
theorem wpB_nil {c : Bool}  {env : EnvD} {M : Mh} {X : XD} {Q : QD} : wpB G C c (Es.nil ) env M X Q = (False) := rfl
theorem wpB_cons {c : Bool} {e : _} {r : _} {env : EnvD} {M : Mh} {X : XD} {Q : QD} : wpB G C c (Es.cons e r) env M X Q = (wpE G C e env M X (match r with
    | .nil => Q
    | .cons _ _ => asB fun b M1 => if b = c then wpB G C c r env M1 X Q else Q (.bl b) M1)) := rfl
theorem wpT_nil  {env : EnvD} {M : Mh} {Q : Bool → Mh → Prop} : wpT G C (Es.nil ) env M Q = (Q true M) := rfl
theorem wpT_cons {e : _} {u1 : _} {env : EnvD} {M : Mh} {Q : Bool → Mh → Prop} : wpT G C (Es.cons e u1) env M Q = (wpE G C e env M (fun _ _ => False) (asB Q)) := rfl
theorem wpS_set {t : _} {e : _} {env : EnvD} {M : Mh} {K : EndsD} : wpS G C (S.set t e) env M K = (wpE G C e env M (fun x M => K.ex x env M) fun d M1 => optE (bindT t d env) fun env' => K.nx env' M1) := rfl
theorem wpS_par {i : _} {j : _} {a : _} {b : _} {env : EnvD} {M : Mh} {K : EndsD} : wpS G C (S.par i j a b) env M K = (wpE G C a env M (fun x M => K.ex x env M) fun d M1 => wpE G C b env M1 (fun x M => K.ex x env M) fun e M2 => K.nx ((env.set i (some d)).set j (some e)) M2) := rfl
theorem wpS_six {a : _} {b : _} {e : _} {env : EnvD} {M : Mh} {K : EndsD} : wpS G C (S.six a b e) env M K = (wpE G C e env M (fun x M => K.ex x env M) fun d M1 => wpE G C a env M1 (fun x M => K.ex x env M) fun x M2 => wpE G C b env M2 (fun x M => K.ex x env M) fun y M3 =>
      sixD x y d M3 (K.nx env)) := rfl
theorem wpS_exp {e : _} {env : EnvD} {M : Mh} {K : EndsD} : wpS G C (S.exp e) env M K = (wpE G C e env M (fun x M => K.ex x env M) fun _ M1 => K.nx env M1) := rfl
theorem wpS_ret {e : _} {env : EnvD} {M : Mh} {K : EndsD} : wpS G C (S.ret e) env M K = (wpE G C e env M (fun x M => K.ex x env M) K.rt) := rfl
theorem wpS_ite {c : _} {a : _} {b : _} {env : EnvD} {M : Mh} {K : EndsD} : wpS G C (S.ite c a b) env M K = (wpE G C c env M (fun x M => K.ex x env M) (asB fun t M1 => if t = true then wpSs G C a env M1 K else wpSs G C b env M1 K)) := rfl
theorem wpS_for {t : _} {it : _} {b : _} {env : EnvD} {M : Mh} {K : EndsD} : wpS G C (S.for_ t it b) env M K = (wpI G C it env M (fun x M => K.ex x env M) fun ds g M1 => forD (wpSs G C b) t g K ds env M1) := rfl
theorem wpS_whl {c : _} {b : _} {env : EnvD} {M : Mh} {K : EndsD} : wpS G C (S.whl c b) env M K = (∃ J : Nat → EnvD → Mh → Prop, (∃ n, J n env M) ∧ ∀ n env M, J n env M → wpE G C c env M (fun x M => K.ex x env M) (asB fun t M1 =>
      if t = true then wpSs G C b env M1 { K with nx := fun e m => ∃ k, k < n ∧ J k e m, ct := fun e m => ∃ k, k < n ∧ J k e m, bk := K.nx } else K.nx env M1)) := rfl
theorem wpS_brk  {env : EnvD} {M : Mh} {K : EndsD} : wpS G C (S.brk ) env M K = (K.bk env M) := rfl
theorem wpS_cont  {env : EnvD} {M : Mh} {K : EndsD} : wpS G C (S.cont ) env M K = (K.ct env M) := rfl
theorem wpS_pass  {env : EnvD} {M : Mh} {K : EndsD} : wpS G C (S.pass ) env M K = (K.nx env M) := rfl
theorem wpS_nev  {env : EnvD} {M : Mh} {K : EndsD} : wpS G C (S.nev ) env M K = (False) := rfl
theorem wpS_frz {i : _} {env : EnvD} {M : Mh} {K : EndsD} : wpS G C (S.frz i) env M K = (frzD env i M K.nx) := rfl
theorem wpS_rse {c : _} {env : EnvD} {M : Mh} {K : EndsD} : wpS G C (S.rse c) env M K = (K.ex ⟨c⟩ env M) := rfl
theorem wpS_tryo {rs : _} {c : _} {b : _} {i : _} {d : _} {env : EnvD} {M : Mh} {K : EndsD} : wpS G C (S.tryo rs c b i d) env M K = (wpSs G C b env M ⟨K.nx, K.rt, K.bk, K.ct, fun x e m => x.nm ∈ rs ∧ if subX x.nm c = true then K.nx (e.set i (some d)) m else K.ex x e m⟩) := rfl
theorem wpS_tryn {rs : _} {c : _} {b : _} {j : _} {i : _} {env : EnvD} {M : Mh} {K : EndsD} : wpS G C (S.tryn rs c b j i) env M K = (wpSs G C b env M ⟨K.nx, K.rt, K.bk, K.ct, fun x e m => (x.nm ∈ rs ∧ j < e.length) ∧ if subX x.nm c = true then K.nx ((e.set i (some (.exc x.nm))).set j none) m else K.ex x e m⟩) := rfl
theorem wpS_sfld {a : _} {c : _} {f : _} {e : _} {env : EnvD} {M : Mh} {K : EndsD} : wpS G C (S.sfld a c f e) env M K = (wpE G C e env M (fun x M => K.ex x env M) fun d M1 => wpE G C a env M1 (fun x M => K.ex x env M) fun x M2 => sfldD x c f d M2 (K.nx env)) := rfl
theorem wpSs_nil  {env : EnvD} {M : Mh} {K : EndsD} : wpSs G C (Ss.nil ) env M K = (K.nx env M) := rfl
theorem wpSs_cons {s : _} {r : _} {env : EnvD} {M : Mh} {K : EndsD} : wpSs G C (Ss.cons s r) env M K = (wpS G C s env M { K with nx := fun e m => wpSs G C r e m K }) := rfl
end
end PD

/-! PD: data and the abstract heap of HandS -/
namespace PD
open PySem PySem.Spec PyProof.Rows L2

/-- the caught exception's object, known from now on -/
def ExcO (a : Addr) (cls : Value) (d : Option Addr) : HO := .ext fun h => ∃ o vs, h.get? a = some o ∧ Zc cls d o ∧ o.data = .fields vs
theorem excO_ok {P : Program} {w : World} {H : Hp} {h : Heap} {a : Addr} {cls : Value} {d : Option Addr} {o : Obj} {vs : Array Value} (e : h.get? a = some o) (z : Zc cls d o) (f : o.data = .fields vs) : ObjOk P w H h a (ExcO a cls d) :=
  ⟨⟨o, vs, e, z, f⟩, ⟨o, e⟩, fun _ _ ⟨u, us, e1, z1, f1⟩ st => ⟨u, us, st _ e1, z1, f1⟩⟩
/-- neither a table of code objects nor a thing of one's own telling -/
def noT : HO → Bool
  | .tbl _ => false
  | .ext _ => false
  | _ => true
def isTbl : HO → Bool
  | .tbl _ => true
  | _ => false
/-- the defs that make lambdas -/
class Tb where
  xs : List Str
def tabsOf [Tb] (K : PySem.W.Frag) : List (Addr × Str) := Tb.xs.filterMap fun x => (PySem.W.tabIn K x).map fun p => (p.2, (x ++ ".<locals>." : Str) ++ "<lambda>")
/-- the tables of code objects, and what keeps them -/
structure Wt [Tb] (K : PySem.W.Frag) (F R H : Hp) : Prop where
  n : ∀ a ps, F a ≠ some (.tbl ps)
  rn : ∀ a o, R a = some o → noT o = true
  t : LamX.Tabs (tabsOf K) H
variable [Tb]
/-- what stands by a name of the program, at C -/
def ClsAt (K : PySem.W.Frag) (nm : Str) (C : Addr) : Prop := PySem.W.nsIn K mainGlobals nm = some (some (.ref C))
theorem ClsAt.eq {K : PySem.W.Frag} {nm : Str} {C C' : Addr} (h : ClsAt K nm C) (k : ClsAt K nm C') : C = C' := by
  unfold ClsAt at h k
  rw [h] at k
  cases k
  rfl
def RelX (K : PySem.W.Frag) (_ _ : Hp) (x : Exc) (c : Value) (d : Option Addr) : Prop := d = none ∧ ∃ C, c = .ref C ∧ ClsAt K x.nm C
section
variable (K : PySem.W.Frag) (F : Hp)
mutual
def RelD : D → V → Prop
  | .non, v => v = .non
  | .bl b, v => v = .bl b
  | .int i, v => v = .int i
  | .str s, v => v = .str s
  | .tup l, v => ∃ a vs, v = .ref a ∧ SqT K F a vs ∧ RelDs l vs
  | .lst l, v => ∃ a vs, v = .ref a ∧ Rd F a (.lst vs) ∧ RelDs l vs
  | .dct ks l, v => ∃ a kvs, v = .ref a ∧ Rd F a (.dK kvs) ∧ kvs.map (·.1) = ks ∧ RelDs l (kvs.map (·.2))
  | .ref a, v => v = .ref a
  | .con w, v => v = w
  | .scr l, v => ∃ a vs, v = .ref a ∧ SqL K F a vs ∧ RelDs l vs
  | .exc nm, v => ∃ a C, v = .ref a ∧ ClsAt K nm C ∧ F a = some (ExcO a (.ref C) none)
  | .fn nm, v => ∃ f, v = .ref f ∧ ClsAt K nm f
  | .thk w c q l ws, v => v = w ∧ F c = some (LamX.CodeO c q) ∧ RelDs l ws
def RelDs : List D → List V → Prop
  | [], vs => vs = []
  | d :: r, vs => ∃ v ws, vs = v :: ws ∧ RelD d v ∧ RelDs r ws
end
def RelC : Cell → HO → Prop
  | .lst l, o => ∃ vs, o = .lst vs ∧ RelDs K F l vs
  | .dct ks l, o => ∃ kvs, o = .dK kvs ∧ kvs.map (·.1) = ks ∧ RelDs K F l (kvs.map (·.2))
  | .ins c fs, o => ∃ C dx vfs, ClsAt K c C ∧ o = .ins C dx vfs ∧ vfs.map (·.1) = fs.map (·.1) ∧ RelDs K F (fs.map (·.2)) (vfs.map (·.2))
/-- the frozen heap F, the cells M, the frame R in H -/
structure Wd (M : Mh) (R H : Hp) : Prop where
  f : Same F H
  m : ∀ a c, M a = some c → F a = none ∧ ∃ o, H a = some o ∧ RelC K F c o
  r : ∀ a o, R a = some o → H a = some o ∧ F a = none ∧ M a = none
  x : Wt K F R H
def RelEnv (env : EnvD) (σ : L2.St) : Prop := env.length = σ.length ∧ ∀ (i : Nat) (d : D), env[i]? = some (some d) → ∃ v, σ[i]? = some (some v) ∧ RelD K F d v
/-- what may be read in H -/
def RelR (H : Hp) : D → V → Prop
  | .lst l, v => ∃ a vs, v = .ref a ∧ Rd H a (.lst vs) ∧ RelDs K F l vs
  | .dct ks l, v => ∃ a kvs, v = .ref a ∧ Rd H a (.dK kvs) ∧ kvs.map (·.1) = ks ∧ RelDs K F l (kvs.map (·.2))
  | d, v => RelD K F d v
def Lands (R : Hp) (Qd : QD) (Q : VK) : Prop := ∀ d M F' v H', Same F F' → Wd K F' M R H' → RelD K F' d v → Qd d M → Q v H'
def LandsL (R : Hp) (Qd : List D → Mh → Prop) (Q : List V → Hp → Prop) : Prop := ∀ d M F' v H', Same F F' → Wd K F' M R H' → RelDs K F' d v → Qd d M → Q v H'
def LandsX (R : Hp) (Xd : XD) (E : XK) : Prop := ∀ x M F' c d H', Same F F' → Wd K F' M R H' → RelX K F' H' x c d → Xd x M → E c d H'
end

section
variable {K : PySem.W.Frag} {F F' F1 H H' R : Hp} {M M' : Mh}
theorem Same.rd {a : Addr} {o : HO} (s : Same F F') (h : Rd F a o) : Rd F' a o := by
  rcases h with h | ⟨o', h⟩
  · exact .inl (s _ _ h)
  · exact .inr ⟨o', s _ _ h⟩
theorem Same.sqT {a : Addr} {xs : List V} (s : Same F F') (h : SqT K F a xs) : SqT K F' a xs := by
  rcases h with h | h
  · exact .inl (Same.rd s h)
  · exact .inr h
theorem Same.sqL {a : Addr} {xs : List V} (s : Same F F') (h : SqL K F a xs) : SqL K F' a xs := by
  rcases h with h | h
  · exact .inl (Same.rd s h)
  · exact .inr h
mutual
theorem RelD.mono (s : Same F F') : ∀ (d : D) (v : V), RelD K F d v → RelD K F' d v
  | .non, _, h => h
  | .bl _, _, h => h
  | .int _, _, h => h
  | .str _, _, h => h
  | .tup l, v, h => by
    obtain ⟨a, vs, e, q, r⟩ := h
    exact ⟨a, vs, e, Same.sqT s q, RelDs.mono s l vs r⟩
  | .lst l, v, h => by
    obtain ⟨a, vs, e, q, r⟩ := h
    exact ⟨a, vs, e, Same.rd s q, RelDs.mono s l vs r⟩
  | .dct ks l, v, h => by
    obtain ⟨a, kvs, e, q, k, r⟩ := h
    exact ⟨a, kvs, e, Same.rd s q, k, RelDs.mono s l _ r⟩
  | .ref _, _, h => h
  | .con _, _, h => h
  | .scr l, v, h => by
    obtain ⟨a, vs, e, q, r⟩ := h
    exact ⟨a, vs, e, Same.sqL s q, RelDs.mono s l vs r⟩
  | .exc _, _, h => by
    obtain ⟨a, C, e, q, r⟩ := h
    exact ⟨a, C, e, q, s _ _ r⟩
  | .fn _, _, h => h
  | .thk _ _ _ l ws, v, h => ⟨h.1, s _ _ h.2.1, RelDs.mono s l ws h.2.2⟩
theorem RelDs.mono (s : Same F F') : ∀ (l : List D) (vs : List V), RelDs K F l vs → RelDs K F' l vs
  | [], _, h => h
  | d :: r, vs, h => by
    obtain ⟨v, ws, e, q, t⟩ := h
    exact ⟨v, ws, e, RelD.mono s d v q, RelDs.mono s r ws t⟩
end
theorem RelC.mono (s : Same F F') {c : Cell} {o : HO} (h : RelC K F c o) : RelC K F' c o := by
  cases c with
  | lst l => obtain ⟨vs, e, r⟩ := h; exact ⟨vs, e, RelDs.mono s _ _ r⟩
  | dct ks l => obtain ⟨kvs, e, k, r⟩ := h; exact ⟨kvs, e, k, RelDs.mono s _ _ r⟩
  | ins c fs => obtain ⟨C, dx, vfs, n, e, k, r⟩ := h; exact ⟨C, dx, vfs, n, e, k, RelDs.mono s _ _ r⟩
theorem RelEnv.mono (s : Same F F') {env : EnvD} {σ : L2.St} (h : RelEnv K F env σ) : RelEnv K F' env σ :=
  ⟨h.1, fun i d e => let ⟨v, e2, r⟩ := h.2 i d e; ⟨v, e2, RelD.mono s d v r⟩⟩
theorem Lands.mono (s : Same F F') {Qd : QD} {Q : VK} (h : Lands K F R Qd Q) : Lands K F' R Qd Q := fun d M F2 v H' s2 w r q => h d M F2 v H' (s.trans s2) w r q
theorem LandsX.mono (s : Same F F') {Xd : XD} {E : XK} (h : LandsX K F R Xd E) : LandsX K F' R Xd E := fun x M F2 c d H' s2 w r q => h x M F2 c d H' (s.trans s2) w r q

/-! the parts of an instance -/
theorem fs_get {f : Str} {d : D} : ∀ {fs : List (Str × D)} {vfs : List (Str × V)}, vfs.map (·.1) = fs.map (·.1) → RelDs K F (fs.map (·.2)) (vfs.map (·.2)) → fs.lookup f = some d → ∃ v, vfs.lookup f = some v ∧ RelD K F d v
  | [], _, _, _, e => by simp at e
  | (g, x) :: r, [], k, _, _ => by simp at k
  | (g, x) :: r, (g', v) :: vr, k, ⟨v', ws, e1, q, h⟩, e => by
    simp only [List.map_cons, List.cons.injEq] at k e1
    obtain ⟨rfl, k⟩ := k
    obtain ⟨rfl, rfl⟩ := e1
    simp only [List.lookup_cons] at e ⊢
    split at e
    · cases e
      exact ⟨_, rfl, q⟩
    · exact fs_get k h e
theorem fs_none {f : Str} : ∀ {fs : List (Str × D)} {vfs : List (Str × V)}, vfs.map (·.1) = fs.map (·.1) → fs.lookup f = none → vfs.lookup f = none
  | [], [], _, _ => rfl
  | [], _ :: _, k, _ => by simp at k
  | (g, x) :: r, [], k, _ => by simp at k
  | (g, x) :: r, (g', v) :: vr, k, e => by
    simp only [List.map_cons, List.cons.injEq] at k
    obtain ⟨rfl, k⟩ := k
    simp only [List.lookup_cons] at e ⊢
    split at e
    · cases e
    · exact fs_none k e
theorem fs_put {f : Str} {d : D} {v : V} (q : RelD K F d v) : ∀ {fs : List (Str × D)} {vfs : List (Str × V)}, vfs.map (·.1) = fs.map (·.1) → RelDs K F (fs.map (·.2)) (vfs.map (·.2)) → (putF f v vfs).map (·.1) = (putD f d fs).map (·.1) ∧ RelDs K F ((putD f d fs).map (·.2)) ((putF f v vfs).map (·.2))
  | [], [], _, _ => ⟨rfl, v, [], rfl, q, rfl⟩
  | [], _ :: _, k, _ => by simp at k
  | (g, x) :: r, [], k, _ => by simp at k
  | (g, x) :: r, (g', w) :: vr, k, ⟨v', ws, e1, q', h⟩ => by
    simp only [List.map_cons, List.cons.injEq] at k e1
    obtain ⟨rfl, k⟩ := k
    obtain ⟨rfl, rfl⟩ := e1
    unfold putF putD
    by_cases z : g' = f
    · rw [if_pos z, if_pos z]
      exact ⟨by simp [k], v, _, rfl, q, h⟩
    · rw [if_neg z, if_neg z]
      obtain ⟨i1, i2⟩ := fs_put q k h
      exact ⟨by simp [i1], w, _, rfl, q', i2⟩
theorem fs_len {fs : List (Str × D)} {vfs : List (Str × V)} (k : vfs.map (·.1) = fs.map (·.1)) : vfs.length = fs.length := by
  have := congrArg List.length k
  simpa using this
/-! lists -/
theorem RelDs.length : ∀ {l : List D} {vs : List V}, RelDs K F l vs → l.length = vs.length
  | [], vs, h => by rw [show vs = [] from h]; rfl
  | _ :: r, _, ⟨v, ws, e, _, t⟩ => by rw [e, List.length_cons, List.length_cons, RelDs.length (l := r) t]
theorem RelDs.nil : RelDs K F [] [] := rfl
theorem RelDs.cons {d : D} {v : V} {l : List D} {vs : List V} (h : RelD K F d v) (t : RelDs K F l vs) : RelDs K F (d :: l) (v :: vs) := ⟨v, vs, rfl, h, t⟩
theorem RelDs.append : ∀ {l r : List D} {vs ws : List V}, RelDs K F l vs → RelDs K F r ws → RelDs K F (l ++ r) (vs ++ ws)
  | [], _, _, _, h, t => by rw [show _ = _ from h]; exact t
  | _ :: _, _, _, _, ⟨v, vs', e, q, h⟩, t => by rw [e]; exact ⟨v, _, rfl, q, RelDs.append h t⟩
theorem RelDs.get : ∀ {l : List D} {vs : List V} {i : Nat} {d : D}, RelDs K F l vs → l[i]? = some d → ∃ v, vs[i]? = some v ∧ RelD K F d v
  | [], _, _, _, _, e => by simp at e
  | x :: r, _, 0, d, ⟨v, vs', e', q, h⟩, e => by
    rw [e']
    have e1 : x = d := by simpa using e
    exact ⟨v, rfl, e1 ▸ q⟩
  | x :: r, _, i + 1, d, ⟨v, vs', e', q, h⟩, e => by
    rw [e']
    obtain ⟨w, h1, h2⟩ := RelDs.get (i := i) (d := d) h (by simpa using e)
    exact ⟨w, by simpa using h1, h2⟩
theorem RelDs.getV : ∀ {l : List D} {vs : List V} {i : Nat} {v : V}, RelDs K F l vs → vs[i]? = some v → ∃ d, l[i]? = some d ∧ RelD K F d v
  | [], vs, i, v, h, e => by rw [show vs = [] from h] at e; simp at e
  | x :: r, vs, 0, v, ⟨v', vs', e', q, h⟩, e => by
    rw [e'] at e
    have e1 : v' = v := by simpa using e
    exact ⟨x, rfl, e1 ▸ q⟩
  | x :: r, vs, i + 1, v, ⟨v', vs', e', q, h⟩, e => by
    rw [e'] at e
    obtain ⟨w, h1, h2⟩ := RelDs.getV (i := i) (v := v) h (by simpa using e)
    exact ⟨w, by simpa using h1, h2⟩
theorem RelDs.take : ∀ {l : List D} {vs : List V} (n : Nat), RelDs K F l vs → RelDs K F (l.take n) (vs.take n)
  | _, _, 0, _ => rfl
  | [], _, _ + 1, h => by rw [show _ = _ from h]; exact rfl
  | _ :: _, _, n + 1, ⟨v, vs', e, q, h⟩ => by rw [e]; exact ⟨v, _, rfl, q, RelDs.take n h⟩
theorem RelDs.drop : ∀ {l : List D} {vs : List V} (n : Nat), RelDs K F l vs → RelDs K F (l.drop n) (vs.drop n)
  | _, _, 0, h => h
  | [], _, _ + 1, h => by rw [show _ = _ from h]; exact rfl
  | _ :: _, _, n + 1, ⟨v, vs', e, q, h⟩ => by rw [e]; exact RelDs.drop n h
theorem RelDs.set {d : D} {v : V} (q : RelD K F d v) : ∀ {l : List D} {vs : List V} (n : Nat), RelDs K F l vs → RelDs K F (l.set n d) (vs.set n v)
  | [], _, _, h => by rw [show _ = _ from h]; exact rfl
  | _ :: _, _, 0, ⟨_, _, e, _, h⟩ => by rw [e]; exact ⟨v, _, rfl, q, h⟩
  | _ :: _, _, n + 1, ⟨w, _, e, p, h⟩ => by rw [e]; exact ⟨w, _, rfl, p, RelDs.set q n h⟩
theorem RelDs.dropLast : ∀ {l : List D} {vs : List V}, RelDs K F l vs → RelDs K F l.dropLast vs.dropLast := fun {l vs} h => by
  rw [List.dropLast_eq_take, List.dropLast_eq_take, h.length]
  exact h.take _
theorem RelDs.eraseIdx : ∀ {l : List D} {vs : List V} (n : Nat), RelDs K F l vs → RelDs K F (l.eraseIdx n) (vs.eraseIdx n)
  | [], _, _, h => by rw [show _ = _ from h]; exact rfl
  | _ :: _, _, 0, ⟨_, _, e, _, h⟩ => by rw [e]; exact h
  | _ :: _, _, n + 1, ⟨w, _, e, p, h⟩ => by rw [e]; exact ⟨w, _, rfl, p, RelDs.eraseIdx n h⟩
theorem RelDs.reverse : ∀ {l : List D} {vs : List V}, RelDs K F l vs → RelDs K F l.reverse vs.reverse
  | [], _, h => by rw [show _ = _ from h]; exact rfl
  | _ :: _, _, ⟨w, _, e, p, h⟩ => by
    rw [e, List.reverse_cons, List.reverse_cons]
    exact (RelDs.reverse h).append ⟨w, [], rfl, p, rfl⟩
theorem RelDs.rep {l : List D} {vs : List V} (h : RelDs K F l vs) : ∀ n : Nat, RelDs K F (List.replicate n l).flatten (List.replicate n vs).flatten
  | 0 => rfl
  | n + 1 => by
    rw [List.replicate_succ, List.replicate_succ, List.flatten_cons, List.flatten_cons]
    exact h.append (RelDs.rep h n)
theorem RelDs.ints : ∀ {l : List D} {vs : List V} {ns : List Int}, RelDs K F l vs → intsD l = some ns → vs = ns.map V.int
  | [], vs, ns, h, e => by
    rw [show vs = [] from h]
    cases e
    rfl
  | d :: r, vs, ns, ⟨v, ws, e', q, h⟩, e => by
    cases d with
    | int i =>
      unfold intsD at e
      cases e2 : intsD r with
      | none => rw [e2] at e; cases e
      | some m =>
        rw [e2] at e
        cases e
        rw [e', RelDs.ints h e2, show v = .int i from q]
        rfl
    | _ => cases e
theorem RelDs.bls : ∀ {l : List D} {vs : List V} {ns : List Bool}, RelDs K F l vs → blsD l = some ns → vs = ns.map V.bl
  | [], vs, ns, h, e => by
    rw [show vs = [] from h]
    cases e
    rfl
  | d :: r, vs, ns, ⟨v, ws, e', q, h⟩, e => by
    cases d with
    | bl i =>
      unfold blsD at e
      cases e2 : blsD r with
      | none => rw [e2] at e; cases e
      | some m =>
        rw [e2] at e
        cases e
        rw [e', RelDs.bls h e2, show v = .bl i from q]
        rfl
    | _ => cases e

/-! the world -/
theorem Wd.noneM (w : Wd K F M R H) {p : Addr} (h : H p = none) : F p = none ∧ M p = none ∧ R p = none := by
  refine ⟨w.f.free h, ?_, ?_⟩
  · cases e : M p with
    | none => rfl
    | some c =>
      obtain ⟨_, o, e2, _⟩ := w.m p c e
      rw [h] at e2; cases e2
  · cases e : R p with
    | none => rfl
    | some o =>
      obtain ⟨e2, _⟩ := w.r p o e
      rw [h] at e2; cases e2
theorem tbl_ne {o : HO} (h : noT o = true) (ps : Array Value) : o ≠ .tbl ps := fun z => by
  subst z
  cases h
theorem ext_ne {o : HO} (h : noT o = true) (c : Addr) (q : Str) : o ≠ LamX.CodeO c q := fun z => by
  subst z
  cases h
theorem tabs_put {T : List (Addr × Str)} {p : Addr} {o0 o : HO} (t : LamX.Tabs T H) (h : H p = some o0) (n : noT o0 = true) : LamX.Tabs T (upd H p o) := fun q hq => by
  obtain ⟨ps, h1, h2, h3⟩ := t q hq
  refine ⟨ps, ?_, h2, fun pos cv hc => ?_⟩
  · rw [upd_ne fun z => ?_]
    · exact h1
    · rw [z, h] at h1
      exact tbl_ne n ps (Option.some.inj h1)
  · obtain ⟨c, e1, e2⟩ := h3 pos cv hc
    refine ⟨c, e1, ?_⟩
    rw [upd_ne fun z => ?_]
    · exact e2
    · rw [z, h] at e2
      exact ext_ne n p _ (Option.some.inj e2)
theorem tabs_new {T : List (Addr × Str)} {p : Addr} {o : HO} (t : LamX.Tabs T H) (h : H p = none) : LamX.Tabs T (upd H p o) := t.ext fun b u e => by
  rw [upd_ne (ne_of_none e h)]
  exact e
theorem noT_c {c : Cell} {o : HO} (h : RelC K F c o) : noT o = true := by
  cases c with
  | lst l => obtain ⟨_, rfl, _⟩ := h; rfl
  | dct ks l => obtain ⟨_, rfl, _⟩ := h; rfl
  | ins c fs => obtain ⟨_, _, _, _, rfl, _⟩ := h; rfl
theorem Wt.laid (x : Wt K F R H) {p : Addr} {o : HO} (n : isTbl o = false) (h : LamX.Tabs (tabsOf K) H') : Wt K (upd F p o) R H' := by
  refine ⟨fun a ps e => ?_, x.rn, h⟩
  by_cases ha : a = p
  · subst ha
    rw [upd_same] at e
    cases e
    cases n
  · rw [upd_ne ha] at e
    exact x.n a ps e
theorem tbl_of {o : HO} (h : noT o = true) : isTbl o = false := by
  cases o <;> first | rfl | cases h
theorem same_upd {p : Addr} {o : HO} (h : F p = none) : Same F (upd F p o) := fun b x e => by
  rw [upd_ne (ne_of_none e h)]
  exact e
/-- a new frozen object -/
theorem Wd.laid (w : Wd K F M R H) {p : Addr} {o : HO} (h : H p = none) (n : isTbl o = false := by rfl) : Wd K (upd F p o) M R (upd H p o) := by
  obtain ⟨hF, hM, hR⟩ := w.noneM h
  refine ⟨fun b x e => ?_, fun a c e => ?_, fun a x e => ?_, w.x.laid n (tabs_new w.x.t h)⟩
  · by_cases hb : b = p
    · subst hb; rw [upd_same] at e ⊢; exact e
    · rw [upd_ne hb] at e ⊢; exact w.f b x e
  · have ha : a ≠ p := fun z => by subst z; rw [hM] at e; cases e
    obtain ⟨h1, u, h2, h3⟩ := w.m a c e
    exact ⟨by rw [upd_ne ha]; exact h1, u, by rw [upd_ne ha]; exact h2, h3.mono (same_upd hF)⟩
  · have ha : a ≠ p := fun z => by subst z; rw [hR] at e; cases e
    obtain ⟨h1, h2, h3⟩ := w.r a x e
    exact ⟨by rw [upd_ne ha]; exact h1, by rw [upd_ne ha]; exact h2, h3⟩
/-- a new cell -/
theorem Wd.cell (w : Wd K F M R H) {p : Addr} {o : HO} {c : Cell} (h : H p = none) (rc : RelC K F c o) : Wd K F (mset M p c) R (upd H p o) := by
  obtain ⟨hF, hM, hR⟩ := w.noneM h
  refine ⟨fun b x e => ?_, fun a c' e => ?_, fun a x e => ?_, w.x.n, w.x.rn, tabs_new w.x.t h⟩
  · have hb : b ≠ p := fun z => by subst z; rw [hF] at e; cases e
    rw [upd_ne hb]; exact w.f b x e
  · by_cases ha : a = p
    · subst ha
      rw [mset_same] at e
      cases e
      exact ⟨hF, o, upd_same, rc⟩
    · rw [mset_ne ha] at e
      obtain ⟨h1, u, h2, h3⟩ := w.m a c' e
      exact ⟨h1, u, by rw [upd_ne ha]; exact h2, h3⟩
  · have ha : a ≠ p := fun z => by subst z; rw [hR] at e; cases e
    obtain ⟨h1, h2, h3⟩ := w.r a x e
    exact ⟨by rw [upd_ne ha]; exact h1, h2, by rw [mset_ne ha]; exact h3⟩
/-- a cell written -/
theorem Wd.write (w : Wd K F M R H) {p : Addr} {o : HO} {c c0 : Cell} (h : M p = some c0) (rc : RelC K F c o) : Wd K F (mset M p c) R (upd H p o) := by
  have hF := (w.m p c0 h).1
  have ht : LamX.Tabs (tabsOf K) (upd H p o) := by
    obtain ⟨_, u, e1, e2⟩ := w.m p c0 h
    exact tabs_put w.x.t e1 (noT_c e2)
  refine ⟨fun b x e => ?_, fun a c' e => ?_, fun a x e => ?_, w.x.n, w.x.rn, ht⟩
  · have hb : b ≠ p := fun z => by subst z; rw [hF] at e; cases e
    rw [upd_ne hb]; exact w.f b x e
  · by_cases ha : a = p
    · subst ha
      rw [mset_same] at e
      cases e
      exact ⟨hF, o, upd_same, rc⟩
    · rw [mset_ne ha] at e
      obtain ⟨h1, u, h2, h3⟩ := w.m a c' e
      exact ⟨h1, u, by rw [upd_ne ha]; exact h2, h3⟩
  · have ha : a ≠ p := fun z => by subst z; rw [(w.r a x e).2.2] at h; cases h
    obtain ⟨h1, h2, h3⟩ := w.r a x e
    exact ⟨by rw [upd_ne ha]; exact h1, h2, by rw [mset_ne ha]; exact h3⟩
/-- a cell frozen -/
theorem Wd.freeze (w : Wd K F M R H) {p : Addr} {o : HO} {c : Cell} (h : M p = some c) (ho : H p = some o) : Wd K (upd F p o) (mdel M p) R H ∧ Same F (upd F p o) := by
  have hF := (w.m p c h).1
  have sm : Same F (upd F p o) := same_upd hF
  have nt : isTbl o = false := by
    obtain ⟨_, u, e1, e2⟩ := w.m p c h
    rw [ho] at e1
    cases e1
    exact tbl_of (noT_c e2)
  refine ⟨⟨fun b x e => ?_, fun a c' e => ?_, fun a x e => ?_, w.x.laid nt w.x.t⟩, sm⟩
  · by_cases hb : b = p
    · subst hb; rw [upd_same] at e; cases e; exact ho
    · rw [upd_ne hb] at e; exact w.f b x e
  · by_cases ha : a = p
    · subst ha
      simp [mdel] at e
    · rw [mdel_ne ha] at e
      obtain ⟨h1, u, h2, h3⟩ := w.m a c' e
      exact ⟨by rw [upd_ne ha]; exact h1, u, h2, h3.mono sm⟩
  · have ha : a ≠ p := fun z => by subst z; rw [(w.r a x e).2.2] at h; cases h
    obtain ⟨h1, h2, h3⟩ := w.r a x e
    exact ⟨h1, by rw [upd_ne ha]; exact h2, by rw [mdel_ne ha]; exact h3⟩
/-- a hidden object, new or written -/
theorem Wt.hide (x : Wt K F R H) {p : Addr} {o : HO} (n : noT o = true) (h : LamX.Tabs (tabsOf K) H') : Wt K F (upd R p o) H' := by
  refine ⟨x.n, fun a u e => ?_, h⟩
  by_cases ha : a = p
  · subst ha
    rw [upd_same] at e
    cases e
    exact n
  · rw [upd_ne ha] at e
    exact x.rn a u e
theorem Wt.out (x : Wt K F (upd R p o0) H) (hR : R p = none) : Wt K F R H :=
  ⟨x.n, fun a u e => x.rn a u (by
    have ha : a ≠ p := fun z => by rw [z, hR] at e; cases e
    rw [upd_ne ha]
    exact e), x.t⟩
theorem Wd.hide (w : Wd K F M R H) {p : Addr} {o : HO} (h : H p = none) (n : noT o = true := by rfl) : Wd K F M (upd R p o) (upd H p o) := by
  obtain ⟨hF, hM, hR⟩ := w.noneM h
  refine ⟨fun b x e => ?_, fun a c e => ?_, fun a x e => ?_, w.x.hide n (tabs_new w.x.t h)⟩
  · have hb : b ≠ p := fun z => by subst z; rw [hF] at e; cases e
    rw [upd_ne hb]; exact w.f b x e
  · have ha : a ≠ p := fun z => by subst z; rw [hM] at e; cases e
    obtain ⟨h1, u, h2, h3⟩ := w.m a c e
    exact ⟨h1, u, by rw [upd_ne ha]; exact h2, h3⟩
  · by_cases ha : a = p
    · subst ha
      rw [upd_same] at e ⊢
      exact ⟨e, hF, hM⟩
    · rw [upd_ne ha] at e
      obtain ⟨h1, h2, h3⟩ := w.r a x e
      exact ⟨by rw [upd_ne ha]; exact h1, h2, h3⟩
theorem Wd.rehide (w : Wd K F M (upd R p o0) H) {o : HO} (hR : R p = none) (n : noT o = true := by rfl) : Wd K F M (upd R p o) (upd H p o) := by
  obtain ⟨h0, hF, hM⟩ := w.r p o0 upd_same
  refine ⟨fun b x e => ?_, fun a c e => ?_, fun a x e => ?_, (w.x.out hR).hide n (tabs_put w.x.t h0 (w.x.rn p o0 upd_same))⟩
  · have hb : b ≠ p := fun z => by subst z; rw [hF] at e; cases e
    rw [upd_ne hb]; exact w.f b x e
  · have ha : a ≠ p := fun z => by subst z; rw [hM] at e; cases e
    obtain ⟨h1, u, h2, h3⟩ := w.m a c e
    exact ⟨h1, u, by rw [upd_ne ha]; exact h2, h3⟩
  · by_cases ha : a = p
    · subst ha
      rw [upd_same] at e ⊢
      exact ⟨e, hF, hM⟩
    · have e' : upd R p o0 a = some x := by rw [upd_ne ha] at e ⊢; exact e
      obtain ⟨h1, h2, h3⟩ := w.r a x e'
      exact ⟨by rw [upd_ne ha]; exact h1, h2, h3⟩
/-- a hidden object comes out: frozen -/
theorem Wd.unhideF (w : Wd K F M (upd R p o) H) (hR : R p = none) : Wd K (upd F p o) M R H ∧ Same F (upd F p o) := by
  obtain ⟨h0, hF, hM⟩ := w.r p o upd_same
  have sm : Same F (upd F p o) := same_upd hF
  refine ⟨⟨fun b x e => ?_, fun a c' e => ?_, fun a x e => ?_, (w.x.out hR).laid (tbl_of (w.x.rn p o upd_same)) w.x.t⟩, sm⟩
  · by_cases hb : b = p
    · subst hb; rw [upd_same] at e; cases e; exact h0
    · rw [upd_ne hb] at e; exact w.f b x e
  · have ha : a ≠ p := fun z => by subst z; rw [hM] at e; cases e
    obtain ⟨h1, u, h2, h3⟩ := w.m a c' e
    exact ⟨by rw [upd_ne ha]; exact h1, u, h2, h3.mono sm⟩
  · have ha : a ≠ p := fun z => by subst z; rw [hR] at e; cases e
    obtain ⟨h1, h2, h3⟩ := w.r a x (by rw [upd_ne ha]; exact e)
    exact ⟨h1, by rw [upd_ne ha]; exact h2, h3⟩
/-- .. as a cell -/
theorem Wd.unhideC (w : Wd K F M (upd R p o) H) (hR : R p = none) {c : Cell} (rc : RelC K F c o) : Wd K F (mset M p c) R H ∧ M p = none := by
  obtain ⟨h0, hF, hM⟩ := w.r p o upd_same
  refine ⟨⟨w.f, fun a c' e => ?_, fun a x e => ?_, w.x.out hR⟩, hM⟩
  · by_cases ha : a = p
    · subst ha
      rw [mset_same] at e
      cases e
      exact ⟨hF, o, h0, rc⟩
    · rw [mset_ne ha] at e
      exact w.m a c' e
  · have ha : a ≠ p := fun z => by subst z; rw [hR] at e; cases e
    obtain ⟨h1, h2, h3⟩ := w.r a x (by rw [upd_ne ha]; exact e)
    exact ⟨h1, h2, by rw [mset_ne ha]; exact h3⟩
theorem view_lst {a : Addr} {l : List D} (e : M a = some (.lst l)) : view M (.ref a) = .lst l := by simp only [PD.view, e]
theorem view_dct {a : Addr} {ks : List Key} {l : List D} (e : M a = some (.dct ks l)) : view M (.ref a) = .dct ks l := by simp only [PD.view, e]
theorem view_ins {a : Addr} {c : Str} {fs : List (Str × D)} (e : M a = some (.ins c fs)) : view M (.ref a) = .ref a := by simp only [PD.view, e]
theorem view_none {a : Addr} (e : M a = none) : view M (.ref a) = .ref a := by simp only [PD.view, e]
theorem RelD.view (w : Wd K F M R H) : ∀ {d : D} {v : V}, RelD K F d v → RelR K F H (view M d) v := fun {d v} h => by
  cases d with
  | ref a =>
    cases e : M a with
    | none => rw [view_none e]; exact h
    | some c =>
      obtain ⟨hF, o, hH, rc⟩ := w.m a c e
      cases c with
      | lst l =>
        obtain ⟨vs, rfl, r⟩ := rc
        rw [view_lst e]
        exact ⟨a, vs, h, .inl hH, r⟩
      | dct ks l =>
        obtain ⟨kvs, rfl, k, r⟩ := rc
        rw [view_dct e]
        exact ⟨a, kvs, h, .inl hH, k, r⟩
      | ins c fs => rw [view_ins e]; exact h
  | lst l =>
    obtain ⟨a, vs, e, q, r⟩ := h
    exact ⟨a, vs, e, Same.rd w.f q, r⟩
  | dct ks l =>
    obtain ⟨a, kvs, e, q, k, r⟩ := h
    exact ⟨a, kvs, e, Same.rd w.f q, k, r⟩
  | non => exact h
  | bl b => exact h
  | int i => exact h
  | str s => exact h
  | tup l => exact h
  | con v => exact h
  | scr l => exact h
  | exc nm => exact h
  | fn nm => exact h
  | thk w c q l ws => exact h
end
end PD

/-! PD: operators by data -/
namespace PD
open PySem PySem.Spec PyProof.Rows L2
variable [Tb]
section
variable {X : Cx} {pins : List (Addr × Obj)} {σ : L2.St} {H : Hp} {s : Shared}

theorem lstR {l : Addr} {xs : List V} (I : Inv X pins σ H s) (h : Rd H l (.lst xs)) :
    ∃ (its : List Value) (n : Nat), Vals xs its ∧ its.length = xs.length ∧ xs.length ≤ sizeLine ∧ s.heap.get? l = some { cls := .type "list", data := .seq its.toArray n } := by
  obtain ⟨z, its, n, r, e⟩ := h.ok I.hok
  exact ⟨its, n, r, r.length.symm, z, e⟩

/-- a new list of values -/
theorem newL {ys : List V} {its : List Value} {Q : VK} (I : Inv X pins σ H s) (hv : Vals ys its) (hz : ys.length ≤ sizeLine) (q : ∀ p, H p = none → Q (.ref p) (upd H p (.lst ys))) :
    EP X pins σ Q (.ref s.heap.objs.size) { s with heap := s.heap.push { cls := .type "list", data := .seq its.toArray } } :=
  ⟨.ref _, _, I.lnew (t' := s.toks) hv hz, rfl, q _ I.fresh⟩

def rCatR : R2 := fun x y H Q => ∃ a b xs ys, x = .ref a ∧ y = .ref b ∧ Rd H a (.lst xs) ∧ Rd H b (.lst ys) ∧ xs.length + ys.length ≤ sizeLine ∧ ∀ p, H p = none → Q (.ref p) (upd H p (.lst (xs ++ ys)))
theorem op_catR : OpR X (binaryOp .Add) rCatR := by
  rintro pins s σ H x y v u Q I rx ry ⟨a, b, xs, ys, rfl, rfl, ha, hb, hz, q⟩
  cases rx
  cases ry
  obtain ⟨it1, n1, r1, l1, _, e1⟩ := lstR I ha
  obtain ⟨it2, n2, r2, l2, _, e2⟩ := lstR I hb
  refine PySem.P.add_list e1 e2 ?_ (by simp only [List.size_toArray]; omega)
  rw [show it1.toArray ++ it2.toArray = (it1 ++ it2).toArray by simp]
  exact newL I (r1.append r2) (by rw [List.length_append]; exact hz) q

def rRepR : R2 := fun x y H Q => ∃ a k xs, x = .ref a ∧ y = .int k ∧ Rd H a (.lst xs) ∧ (-(2 ^ 63) ≤ k ∧ k < 2 ^ 63 ∧ xs.length * k.toNat ≤ sizeLine) ∧ ∀ p, H p = none → Q (.ref p) (upd H p (.lst (List.replicate k.toNat xs).flatten))
theorem op_repR : OpR X (binaryOp .Mult) rRepR := by
  rintro pins s σ H x y v u Q I rx ry ⟨a, k, xs, rfl, rfl, ha, ⟨h1, h2, hz⟩, q⟩
  cases rx
  obtain ⟨tk, rfl⟩ := ry
  obtain ⟨it, n, r, hl, _, e⟩ := lstR I ha
  have szz : it.toArray.size = xs.length := by rw [List.size_toArray, hl]
  have big : (sizeLine : Nat) ≤ (2 ^ 63 - 1) / 8 := by decide
  have c1 : ¬ it.toArray.size * k.toNat > (2 ^ 63 - 1) / 8 := by rw [szz]; omega
  have c2 : ¬ (!Builtin.List.listFitsIndex k) = true := by rw [fitsIndex_both h1 h2]; exact Bool.false_ne_true
  have c3 : ¬ Builtin.List.listTooLong (it.toArray.size * k.toNat) = true := by rw [szz, notLongL hz]; exact Bool.false_ne_true
  have fl : ∀ m : Nat, List.foldl (fun x1 x2 => x1 ++ x2) #[] (List.replicate m it.toArray) = (List.replicate m it).flatten.toArray := fun m => by
    simpa using foldl_rep it m []
  have c4 : List.foldl (fun x1 x2 => x1 ++ x2) #[] (List.replicate (if it.toArray.isEmpty = true then 0 else k.toNat) it.toArray) = (List.replicate k.toNat it).flatten.toArray := by
    rw [fl]
    cases it with
    | nil => simp
    | cons z zs => rw [if_neg (by simp)]
  refine wpAny_binaryOp_repeat_ref (T := "list") (U := "int") (by decide) ⟨_, e, rfl⟩ (fun s2 => typeIs_int s2 k tk) noFill_list_mul F.fills_int_mul F.slot_int_rmul repeat_list F.slot_int_index.lookup ?_
  refine call_meets F.slot_int_rmul (typeIs_int s k tk) F.entry_int_rmul (F.args_int_rmul_2 _ _) (int___rmul___int_list k tk a it.toArray n) ⟨e, rfl, ⟨_, e, rfl⟩, ?_⟩
  refine call_meets F.slot_list_mul ⟨_, e, rfl⟩ F.entry_list_mul (F.args_list_mul_2 _ _) (AutoListH.list___mul___list_int_3 a it.toArray n k tk c2 c1 c3) ⟨e, ?_⟩
  rw [c4]
  exact newL I (r.rep k.toNat) (by rw [PyProof.Rows.lm_len_rep_flat, Nat.mul_comm]; exact hz) q

/-! tuple * 1, tuple * 0 -/
theorem tuple_mul1 (l : Addr) (items : Array Value) (n : Nat) (dd : Option Addr) (sl : Array (Option Value)) (u : Tok) :
    Meets (Builtin.«tuple.__mul__» ⟨[.ref l, .int 1 u], []⟩) (fun _ R s => s.heap.get? l = some { cls := .type "tuple", dict := dd, data := .seq items n, slots := sl } ∧ R (.ok (.ret (Value.ref l))) s) :=
  .of_wp fun prog w A R s h => by
    obtain ⟨hp, g, d, tk, os⟩ := s
    obtain ⟨hl, h⟩ := h
    have f1 := AutoSeq1.idx_int
    wp_walk using wpAny_loadPart' hl
    exact ⟨_, rfl, h⟩
theorem tuple_mul0 (l : Addr) (items : Array Value) (n : Nat) (dd : Option Addr) (sl : Array (Option Value)) (u : Tok) (hi : items.isEmpty = false) :
    Meets (Builtin.«tuple.__mul__» ⟨[.ref l, .int 0 u], []⟩) (fun _ R s => s.heap.get? l = some { cls := .type "tuple", dict := dd, data := .seq items n, slots := sl } ∧ R (.ok (.ret (Value.ref s.heap.objs.size))) { s with heap := s.heap.push { cls := Value.type "tuple", data := Data.seq #[] }, toks := s.toks }) :=
  .of_wp fun prog w A R s h => by
    obtain ⟨hp, g, d, tk, os⟩ := s
    obtain ⟨hl, h⟩ := h
    have f1 := AutoSeq1.idx_int
    wp_walk using wpAny_loadPart' hl
    exact ⟨_, rfl, h⟩
def rRepT1 (K : PySem.W.Frag) : R2 := fun x y H Q => ∃ l xs, x = .ref l ∧ y = .int 1 ∧ SqT K H l xs ∧ Q (.ref l) H
theorem op_repT1 {X : Cx} : OpR X (binaryOp .Mult) (rRepT1 X.K) := by
  intro pins s σ H x y v u Q I rx ry h
  obtain ⟨l, xs, rfl, rfl, hT, q⟩ := h
  cases rx
  obtain ⟨t, rfl⟩ := ry
  obtain ⟨its, r, ⟨⟨cls, dd, data, sl⟩, ho, hc, n, hd⟩, hs⟩ := I.tuple hT
  simp only at hc hd
  subst hc hd
  exact wpAny_binaryOp_repeat_ref (T := "tuple") (U := "int") (by decide) ⟨_, ho, rfl⟩ (fun s' => typeIs_int s' 1 t) noFill_tuple_mul F.fills_int_mul F.slot_int_rmul repeat_tuple F.slot_int_index.lookup
    (call_meets F.slot_int_rmul (typeIs_int s 1 t) F.entry_int_rmul (F.args_int_rmul_2 _ _) (int_rmul_tuple 1 t l its.toArray n dd sl)
      ⟨ho, rfl, ⟨_, ho, rfl⟩, call_meets F.slot_tuple_mul ⟨_, ho, rfl⟩ F.entry_tuple_mul (F.args_tuple_mul_2 _ _) (tuple_mul1 l its.toArray n dd sl t) ⟨ho, ⟨.ref l, H, I, rfl, q⟩⟩⟩)
def rRepT0 (K : PySem.W.Frag) : R2 := fun x y H Q => ∃ l xs, x = .ref l ∧ y = .int 0 ∧ SqT K H l xs ∧ xs ≠ [] ∧ ∀ p, H p = none → Q (.ref p) (upd H p (.tup []))
theorem op_repT0 {X : Cx} : OpR X (binaryOp .Mult) (rRepT0 X.K) := by
  intro pins s σ H x y v u Q I rx ry h
  obtain ⟨l, xs, rfl, rfl, hT, hne, q⟩ := h
  cases rx
  obtain ⟨t, rfl⟩ := ry
  obtain ⟨its, r, ⟨⟨cls, dd, data, sl⟩, ho, hc, n, hd⟩, hs⟩ := I.tuple hT
  simp only at hc hd
  subst hc hd
  have hle : its.length = xs.length := r.length.symm
  have hi : its.toArray.isEmpty = false := by
    cases its with
    | nil => exact absurd (List.eq_nil_of_length_eq_zero hle.symm) hne
    | cons a b => rfl
  refine wpAny_binaryOp_repeat_ref (T := "tuple") (U := "int") (by decide) ⟨_, ho, rfl⟩ (fun s' => typeIs_int s' 0 t) noFill_tuple_mul F.fills_int_mul F.slot_int_rmul repeat_tuple F.slot_int_index.lookup
    (call_meets F.slot_int_rmul (typeIs_int s 0 t) F.entry_int_rmul (F.args_int_rmul_2 _ _) (int_rmul_tuple 0 t l its.toArray n dd sl)
      ⟨ho, rfl, ⟨_, ho, rfl⟩, call_meets F.slot_tuple_mul ⟨_, ho, rfl⟩ F.entry_tuple_mul (F.args_tuple_mul_2 _ _) (tuple_mul0 l its.toArray n dd sl t hi) ⟨ho, ?_⟩⟩)
  refine ⟨.ref s.heap.objs.size, _, I.laid (t' := s.toks) (o := .tup []) (fun b ob q => Heap.get?_push_of_some _ q) (Nat.le_refl _) ?_, rfl, q _ (I.hok.fresh (Nat.le_refl _))⟩
  exact ⟨by decide, [], .nil, IsTup.new _ _⟩
/-- d[k] -/
def rIxK : R2 := fun x y H Q => ∃ a v, x = .ref a ∧ DGet H a y (some v) ∧ Q v H

def rDiv : R2 := fun x y H Q => (rI CDiv fun i j => .int (i / j)) x y H Q ∨ (rI CDivW fun i j => .int (i / j)) x y H Q
theorem op_divA : OpR X (binaryOp .FloorDiv) rDiv := OpR.or op_fdiv op_fdivW
def rMul : R2 := fun x y H Q => (rI CMul fun i j => .int (i * j)) x y H Q ∨ (rI CMulW fun i j => .int (i * j)) x y H Q
theorem op_mulA : OpR X (binaryOp .Mult) rMul := OpR.or op_mul op_mulW

def rBin (K : PySem.W.Frag) (o : Operator) : R2 := fun x y H Q => ∃ F M R a b Qd, Wd K F M R H ∧ RelR K F H a x ∧ RelR K F H b y ∧ binD o a b M Qd ∧ Lands K F R Qd Q
theorem lands0 {K : PySem.W.Frag} {F R : Hp} {M : Mh} {Qd : QD} {Q : VK} {d : D} {v : V} (w : Wd K F M R H) (l : Lands K F R Qd Q) (r : RelD K F d v) (q : Qd d M) : Q v H := l d M F v H (Same.refl F) w r q
theorem landI {K : PySem.W.Frag} {F R : Hp} {M : Mh} {Qd : QD} {Q : VK} {i : Int} (w : Wd K F M R H) (l : Lands K F R Qd Q) (q : Qd (.int i) M) : Q (.int i) H := lands0 (d := .int i) w l rfl q
theorem landB {K : PySem.W.Frag} {F R : Hp} {M : Mh} {Qd : QD} {Q : VK} {i : Bool} (w : Wd K F M R H) (l : Lands K F R Qd Q) (q : Qd (.bl i) M) : Q (.bl i) H := lands0 (d := .bl i) w l rfl q
theorem landS {K : PySem.W.Frag} {F R : Hp} {M : Mh} {Qd : QD} {Q : VK} {i : Str} (w : Wd K F M R H) (l : Lands K F R Qd Q) (q : Qd (.str i) M) : Q (.str i) H := lands0 (d := .str i) w l rfl q
theorem landN {K : PySem.W.Frag} {F R : Hp} {M : Mh} {Qd : QD} {Q : VK} (w : Wd K F M R H) (l : Lands K F R Qd Q) (q : Qd .non M) : Q .non H := lands0 (d := .non) w l rfl q
theorem landsL {K : PySem.W.Frag} {F R : Hp} {M : Mh} {Qd : QD} {Q : VK} {ds : List D} {vs : List V} (w : Wd K F M R H) (l : Lands K F R Qd Q) (r : RelDs K F ds vs) (q : Qd (.lst ds) M) {p : Addr} (hp : H p = none) : Q (.ref p) (upd H p (.lst vs)) := by
  have sm := same_upd (o := HO.lst vs) (w.noneM hp).1
  exact l (.lst ds) M _ _ _ sm (w.laid hp) ⟨p, vs, rfl, .inl upd_same, RelDs.mono sm _ _ r⟩ q
theorem landsT {K : PySem.W.Frag} {F R : Hp} {M : Mh} {Qd : QD} {Q : VK} {ds : List D} {vs : List V} (w : Wd K F M R H) (l : Lands K F R Qd Q) (r : RelDs K F ds vs) (q : Qd (.tup ds) M) {p : Addr} (hp : H p = none) : Q (.ref p) (upd H p (.tup vs)) := by
  have sm := same_upd (o := HO.tup vs) (w.noneM hp).1
  exact l (.tup ds) M _ _ _ sm (w.laid hp) ⟨p, vs, rfl, .inl (.inl upd_same), RelDs.mono sm _ _ r⟩ q
theorem rd_of_frz {a : Addr} {o : HO} (h : Rd H a o) : H a = some o ∨ ∃ ob, H a = some (.frz ob o) := h

theorem op_bin (o : Operator) : OpR X (binaryOp o) (rBin X.K o) := by
  intro pins s σ H x y v u Q I rx ry h
  obtain ⟨F, M, R, a, b, Qd, w, ha, hb, h, l⟩ := h
  unfold binD at h
  split at h
  · cases (show x = _ from ha); cases (show y = _ from hb)
    exact op_add pins s σ H _ _ v u Q I rx ry ⟨_, _, rfl, rfl, landI w l h⟩
  · cases (show x = _ from ha); cases (show y = _ from hb)
    exact op_sub pins s σ H _ _ v u Q I rx ry ⟨_, _, rfl, rfl, landI w l h⟩
  · cases (show x = _ from ha); cases (show y = _ from hb)
    obtain ⟨c, h⟩ := h
    refine op_mulA pins s σ H _ _ v u Q I rx ry ?_
    rcases c with c | c
    · exact .inl ⟨_, _, rfl, rfl, c, landI w l h⟩
    · exact .inr ⟨_, _, rfl, rfl, c, landI w l h⟩
  · cases (show x = _ from ha); cases (show y = _ from hb)
    obtain ⟨c, h⟩ := h
    refine op_divA pins s σ H _ _ v u Q I rx ry ?_
    rcases c with c | c
    · exact .inl ⟨_, _, rfl, rfl, c, landI w l h⟩
    · exact .inr ⟨_, _, rfl, rfl, c, landI w l h⟩
  · cases (show x = _ from ha); cases (show y = _ from hb)
    obtain ⟨c, h⟩ := h
    exact op_mod pins s σ H _ _ v u Q I rx ry ⟨_, _, rfl, rfl, c, landI w l h⟩
  · cases (show x = _ from ha); cases (show y = _ from hb)
    obtain ⟨c, h⟩ := h
    exact op_pow pins s σ H _ _ v u Q I rx ry ⟨_, _, rfl, rfl, c, landI w l h⟩
  · cases (show x = _ from ha); cases (show y = _ from hb)
    obtain ⟨c, h⟩ := h
    exact op_add_str pins s σ H _ _ v u Q I rx ry ⟨_, _, rfl, rfl, c, landS w l h⟩
  · obtain ⟨p, xs, rfl, sx, rx'⟩ := ha
    obtain ⟨q, ys, rfl, sy, ry'⟩ := hb
    obtain ⟨c, h⟩ := h
    have l1 := rx'.length
    have l2 := ry'.length
    refine op_catA pins s σ H _ _ v u Q I rx ry ⟨p, q, xs, ys, rfl, rfl, Same.sqT w.f sx, Same.sqT w.f sy, by omega, fun e => ?_, fun _ e => ?_, fun _ _ t ht => ?_⟩
    · subst e
      refine lands0 (d := .tup _) w l ?_ h
      rw [List.length_nil] at l1
      rw [List.length_eq_zero_iff.mp l1, List.nil_append]
      exact ⟨q, ys, rfl, sy, ry'⟩
    · subst e
      refine lands0 (d := .tup _) w l ?_ h
      rw [List.length_nil] at l2
      rw [List.length_eq_zero_iff.mp l2, List.append_nil]
      exact ⟨p, xs, rfl, sx, rx'⟩
    · exact landsT w l (rx'.append ry') h ht
  · obtain ⟨p, xs, rfl, sx, rx'⟩ := ha
    obtain ⟨q, ys, rfl, sy, ry'⟩ := hb
    obtain ⟨c, h⟩ := h
    have l1 := rx'.length
    have l2 := ry'.length
    exact op_catR pins s σ H _ _ v u Q I rx ry ⟨p, q, xs, ys, rfl, rfl, sx, sy, by omega, fun t ht => landsL w l (rx'.append ry') h ht⟩
  · obtain ⟨p, xs, rfl, sx, rx'⟩ := ha
    cases (show y = _ from hb)
    obtain ⟨⟨c1, c2, c3⟩, h⟩ := h
    have l1 := rx'.length
    exact op_repR pins s σ H _ _ v u Q I rx ry ⟨p, _, xs, rfl, rfl, sx, ⟨c1, c2, by rw [← l1]; exact c3⟩, fun t ht => landsL w l (rx'.rep _) h ht⟩
  · obtain ⟨p, xs, rfl, sx, rx'⟩ := ha
    cases (show y = _ from hb)
    obtain ⟨⟨c1, c2, c3, c4⟩, h⟩ := h
    have l1 := rx'.length
    rename_i k
    have ne : xs ≠ [] := fun e => by rw [e, List.length_nil] at l1; omega
    by_cases k0 : k = 0
    · subst k0
      exact op_repT0 pins s σ H _ _ v u Q I rx ry ⟨p, xs, rfl, rfl, Same.sqT w.f sx, ne, fun t ht => landsT w l (rx'.rep 0) h ht⟩
    by_cases k1 : k = 1
    · subst k1
      refine op_repT1 pins s σ H _ _ v u Q I rx ry ⟨p, xs, rfl, rfl, Same.sqT w.f sx, lands0 (d := .tup _) w l ⟨p, xs, rfl, sx, rx'⟩ ?_⟩
      have e : ∀ a : List D, (List.replicate (Int.toNat 1) a).flatten = a := fun a => by
        show (List.replicate 1 a).flatten = a
        simp
      rw [e] at h
      exact h
    exact op_repT pins s σ H _ _ v u Q I rx ry ⟨p, _, xs, rfl, rfl, Same.sqT w.f sx, ne, by omega, c3, by omega, fun t ht => landsT w l (rx'.rep _) h ht⟩
  · exact h.elim
end
end PD

/-! PD: comparisons, items, slices, stores by data -/
namespace PD
open PySem PySem.Spec PyProof.Rows L2
variable [Tb]

section
variable {K : PySem.W.Frag} {F H R : Hp} {M : Mh}
mutual
theorem dp_of (sm : Same F H) : ∀ (d : D) (v : V) (p : PyData), RelD K F d v → toPy d = some p → Dp K H v p
  | .non, v, p, h, e => by cases (show v = _ from h); cases e; exact .non
  | .bl b, v, p, h, e => by cases (show v = _ from h); cases e; exact .bl b
  | .int i, v, p, h, e => by cases (show v = _ from h); cases e; exact .int i
  | .str s, v, p, h, e => by cases (show v = _ from h); cases e; exact .str s
  | .tup l, v, p, h, e => by
    obtain ⟨a, vs, rfl, q, r⟩ := h
    unfold toPy at e
    cases e2 : toPys l with
    | none => rw [e2] at e; cases e
    | some ds => rw [e2] at e; cases e; exact .tup (Same.sqT sm q) (dps_of sm l vs ds r e2)
  | .lst l, v, p, h, e => by
    obtain ⟨a, vs, rfl, q, r⟩ := h
    unfold toPy at e
    cases e2 : toPys l with
    | none => rw [e2] at e; cases e
    | some ds => rw [e2] at e; cases e; exact .lst (.inl (Same.rd sm q)) (dps_of sm l vs ds r e2)
  | .dct _ _, _, _, _, e => by cases e
  | .ref _, _, _, _, e => by cases e
  | .con _, _, _, _, e => by cases e
  | .scr _, _, _, _, e => by cases e
theorem dps_of (sm : Same F H) : ∀ (l : List D) (vs : List V) (ps : List PyData), RelDs K F l vs → toPys l = some ps → DpAll K H vs ps
  | [], vs, ps, h, e => by cases (show vs = _ from h); cases e; exact .nil
  | d :: r, vs, ps, h, e => by
    obtain ⟨v, ws, rfl, q, t⟩ := h
    unfold toPys at e
    cases e1 : toPy d with
    | none => rw [e1] at e; cases e
    | some x =>
      cases e2 : toPys r with
      | none => rw [e1, e2] at e; cases e
      | some xs => rw [e1, e2] at e; cases e; exact .cons (dp_of sm d v x q e1) (dps_of sm r ws xs t e2)
end
theorem dp_ofR (sm : Same F H) {d : D} {v : V} {p : PyData} (h : RelR K F H d v) (e : toPy d = some p) : Dp K H v p := by
  cases d with
  | lst l =>
    obtain ⟨a, vs, rfl, q, r⟩ := h
    unfold toPy at e
    cases e2 : toPys l with
    | none => rw [e2] at e; cases e
    | some ds => rw [e2] at e; cases e; exact .lst (.inl q) (dps_of sm l vs ds r e2)
  | dct ks l => cases e
  | non => exact dp_of (F := F) sm _ _ _ h e
  | bl b => exact dp_of (F := F) sm (.bl b) _ _ h e
  | int i => exact dp_of (F := F) sm (.int i) _ _ h e
  | str s => exact dp_of (F := F) sm (.str s) _ _ h e
  | tup l => exact dp_of (F := F) sm (.tup l) _ _ h e
  | ref a => cases e
  | con v => cases e
  | scr l => cases e
  | exc _ => cases e
  | fn _ => cases e
  | thk _ _ _ _ _ => cases e
theorem flat_of {d : D} {v : V} (h : RelD K F d v) (f : flatD d = true) : flatV v = true := by
  cases d with
  | non => cases (show v = _ from h); rfl
  | bl b => cases (show v = _ from h); rfl
  | int i => cases (show v = _ from h); rfl
  | str s => cases (show v = _ from h); rfl
  | tup l => cases f
  | lst l => cases f
  | dct ks l => cases f
  | ref a => cases f
  | con w => cases f
  | scr l => cases f
  | exc _ => cases f
  | fn _ => cases f
  | thk _ _ _ _ _ => cases f
theorem flats_of : ∀ {l : List D} {vs : List V}, RelDs K F l vs → l.all flatD = true → vs.all flatV = true
  | [], vs, h, _ => by cases (show vs = _ from h); rfl
  | d :: r, vs, h, f => by
    obtain ⟨v, ws, rfl, q, t⟩ := h
    rw [List.all_cons, Bool.and_eq_true] at f ⊢
    exact ⟨flat_of q f.1, flats_of t f.2⟩
theorem eqV_of {d e : D} {v w : V} (h : RelD K F d v) (h' : RelD K F e w) (f : flatD d = true) (f' : flatD e = true) : eqV v w = eqF d e := by
  cases d <;> first | (cases f; done) | skip
  all_goals (cases e <;> first | (cases f'; done) | skip)
  all_goals (cases (show v = _ from h); cases (show w = _ from h'); simp [eqV, eqF, toPy, PyData.eqv])
theorem inV_of {d : D} {v : V} (h : RelD K F d v) (f : flatD d = true) : ∀ {l : List D} {vs : List V}, RelDs K F l vs → l.all flatD = true → inV v vs = inD d l
  | [], vs, h', _ => by cases (show vs = _ from h'); rfl
  | e :: r, vs, h', f' => by
    obtain ⟨w, ws, rfl, q, t⟩ := h'
    rw [List.all_cons, Bool.and_eq_true] at f'
    unfold inV inD
    rw [List.any_cons, List.any_cons]
    have ih := inV_of h f t f'.2
    unfold inV inD at ih
    rw [ih, eqV_of q h f'.1 f]
end

section
variable {X : Cx} {pins : List (Addr × Obj)} {σ : L2.St} {H : Hp} {s : Shared}
def rCmp (K : PySem.W.Frag) (o : CmpOp) : R2 := fun x y H Q => ∃ F M R a b Qd, Wd K F M R H ∧ RelD K F a x ∧ RelD K F b y ∧ cmpD o a b M Qd ∧ Lands K F R Qd Q
theorem ite_neg {b c : Bool} : (if c = true then !b else b) = (if c then !b else b) := rfl
theorem eq_fin (hu : X.A.units + 64 < cLine) (neg : Bool) {op : CmpOp} (hop : op = (if neg then CmpOp.NotEq else CmpOp.Eq)) {F R : Hp} {M : Mh} {a b : D} {Qd : QD} {x y : V} {v u : Value} {Q : VK} (I : Inv X pins σ H s) (w : Wd X.K F M R H) (ha : RelR X.K F H a x) (hb : RelR X.K F H b y)
    (rx : RelV x v) (ry : RelV y u) (h : eqQ neg a b M Qd) (l : Lands X.K F R Qd Q) : wpAny (model X.prog X.w) X.A (compareOp op v u) (EP X pins σ Q) X.xe s := by
  subst hop
  have sc : ∀ {k : Bool}, scal x y = true → k = decide (x = y) → Qd (.bl (if neg then !k else k)) M → wpAny (model X.prog X.w) X.A (compareOp (if neg then CmpOp.NotEq else CmpOp.Eq) v u) (EP X pins σ Q) X.xe s := fun {k} sc e q => by
    subst e
    cases neg with
    | true => exact op_ne pins s σ H x y v u Q I rx ry ⟨sc, landB w l q⟩
    | false => exact op_eq pins s σ H x y v u Q I rx ry ⟨sc, landB w l q⟩
  unfold eqQ at h
  split at h
  · cases (show x = _ from ha); cases (show y = _ from hb)
    exact sc rfl (by simp) h
  · cases (show x = _ from ha); cases (show y = _ from hb)
    exact sc rfl (by simp) h
  · cases (show x = _ from ha); cases (show y = _ from hb)
    exact sc rfl (by simp) h
  · split at h
    · rename_i p q e1 e2
      obtain ⟨s1, s2, h⟩ := h
      have d1 := dp_ofR w.f ha e1
      have d2 := dp_ofR w.f hb e2
      cases neg with
      | true => exact op_neD hu pins s σ H x y v u Q I rx ry ⟨p, q, d1, d2, s1, s2, landB w l h⟩
      | false => exact op_eqD hu pins s σ H x y v u Q I rx ry ⟨p, q, d1, d2, s1, s2, landB w l h⟩
    · exact h.elim
theorem isNon_of {K : PySem.W.Frag} {F : Hp} {a : D} {x : V} (ha : RelD K F a x) : decide (x = V.non) = isNon a := by
  cases a with
  | non => cases (show x = _ from ha); rfl
  | bl b => cases (show x = _ from ha); rfl
  | int b => cases (show x = _ from ha); rfl
  | str b => cases (show x = _ from ha); rfl
  | tup b => obtain ⟨a', vs, rfl, _⟩ := ha; rfl
  | lst b => obtain ⟨a', vs, rfl, _⟩ := ha; rfl
  | dct ks b => obtain ⟨a', vs, rfl, _⟩ := ha; rfl
  | ref b => cases (show x = _ from ha); rfl
  | con b => cases (show x = _ from ha); rfl
  | scr b => obtain ⟨a', vs, rfl, _⟩ := ha; rfl
  | exc b => obtain ⟨a', C, rfl, _⟩ := ha; rfl
  | fn b => obtain ⟨a', rfl, _⟩ := ha; rfl
  | thk w c q l ws => obtain ⟨rfl, _⟩ := ha; rfl
theorem int_of {K : PySem.W.Frag} {F : Hp} {i : Int} {x : V} (h : RelD K F (.int i) x) : x = .int i := h
theorem op_cmp (hu : X.A.units + 65 < cLine) (o : CmpOp) : OpR X (compareOp o) (rCmp X.K o) := by
  intro pins s σ H x y v u Q I rx ry h
  obtain ⟨F, M, R, a, b, Qd, w, ha, hb, h, l⟩ := h
  unfold cmpD at h
  cases o with
  | Eq => exact eq_fin (Nat.lt_of_succ_lt hu) false rfl I w (RelD.view w ha) (RelD.view w hb) rx ry h l
  | NotEq => exact eq_fin (Nat.lt_of_succ_lt hu) true rfl I w (RelD.view w ha) (RelD.view w hb) rx ry h l
  | Lt =>
    dsimp only at h
    split at h
    · cases int_of ha; cases int_of hb
      exact op_lt pins s σ H _ _ v u Q I rx ry ⟨_, _, rfl, rfl, landB w l h⟩
    · exact h.elim
  | LtE =>
    dsimp only at h
    split at h
    · cases int_of ha; cases int_of hb
      exact op_le pins s σ H _ _ v u Q I rx ry ⟨_, _, rfl, rfl, landB w l h⟩
    · exact h.elim
  | Gt =>
    dsimp only at h
    split at h
    · cases int_of ha; cases int_of hb
      exact op_gt pins s σ H _ _ v u Q I rx ry ⟨_, _, rfl, rfl, landB w l h⟩
    · exact h.elim
  | GtE =>
    dsimp only at h
    split at h
    · cases int_of ha; cases int_of hb
      exact op_ge pins s σ H _ _ v u Q I rx ry ⟨_, _, rfl, rfl, landB w l h⟩
    · exact h.elim
  | Is =>
    dsimp only at h
    split at h
    · cases (show y = _ from hb)
      refine op_isN pins s σ H _ _ v u Q I rx ry ⟨rfl, ?_⟩
      rw [isNon_of ha]
      exact landB w l h
    · cases (show y = _ from hb)
      split at h
      · cases (show x = _ from ha)
        exact op_isBl pins s σ H _ _ v u Q I rx ry ⟨_, _, rfl, rfl, landB w l h⟩
      · exact h.elim
    · exact h.elim
  | IsNot =>
    dsimp only at h
    split at h
    · cases (show y = _ from hb)
      refine op_notN pins s σ H _ _ v u Q I rx ry ⟨rfl, ?_⟩
      rw [isNon_of ha]
      exact landB w l h
    · cases (show y = _ from hb)
      split at h
      · cases (show x = _ from ha)
        exact op_notBl pins s σ H _ _ v u Q I rx ry ⟨_, _, rfl, rfl, landB w l h⟩
      · exact h.elim
    · exact h.elim
  | In =>
    have hb' := RelD.view w hb
    dsimp only at h
    split at h
    · rename_i xs e
      rw [e] at hb'
      rcases h with ⟨f1, f2, h⟩ | ⟨z, zs, e1, e2, s1, s2, h⟩
      · obtain ⟨p, ys, rfl, q, r⟩ := hb'
        refine op_in_seq pins s σ H _ _ v u Q I rx ry ⟨p, ys, rfl, .inl (.inl q), flat_of ha f1, flats_of r f2, ?_⟩
        rw [if_neg Bool.false_ne_true, inV_of ha f1 r f2]
        exact landB w l h
      · exact op_inD (Nat.lt_of_le_of_lt (Nat.le_refl _) hu) pins s σ H _ _ v u Q I rx ry ⟨z, zs, dp_of w.f _ _ _ ha e1, dp_ofR w.f hb' e2, s1, s2, landB w l h⟩
    · rename_i xs e
      rw [e] at hb'
      obtain ⟨p, ys, rfl, q, r⟩ := hb'
      obtain ⟨f1, f2, h⟩ := h
      refine op_in_seq pins s σ H _ _ v u Q I rx ry ⟨p, ys, rfl, .inr (Same.sqT w.f q), flat_of ha f1, flats_of r f2, ?_⟩
      rw [if_neg Bool.false_ne_true, inV_of ha f1 r f2]
      exact landB w l h
    · exact h.elim
  | NotIn =>
    have hb' := RelD.view w hb
    dsimp only at h
    split at h
    · rename_i xs e
      rw [e] at hb'
      rcases h with ⟨f1, f2, h⟩ | ⟨z, zs, e1, e2, s1, s2, h⟩
      · obtain ⟨p, ys, rfl, q, r⟩ := hb'
        refine op_notIn_seq pins s σ H _ _ v u Q I rx ry ⟨p, ys, rfl, .inl (.inl q), flat_of ha f1, flats_of r f2, ?_⟩
        rw [if_pos rfl, inV_of ha f1 r f2]
        exact landB w l h
      · exact op_notInD (Nat.lt_of_le_of_lt (Nat.le_refl _) hu) pins s σ H _ _ v u Q I rx ry ⟨z, zs, dp_of w.f _ _ _ ha e1, dp_ofR w.f hb' e2, s1, s2, landB w l h⟩
    · rename_i xs e
      rw [e] at hb'
      obtain ⟨p, ys, rfl, q, r⟩ := hb'
      obtain ⟨f1, f2, h⟩ := h
      refine op_notIn_seq pins s σ H _ _ v u Q I rx ry ⟨p, ys, rfl, .inr (Same.sqT w.f q), flat_of ha f1, flats_of r f2, ?_⟩
      rw [if_pos rfl, inV_of ha f1 r f2]
      exact landB w l h
    · exact h.elim

/-! ### items -/
theorem ix_dict (hu : X.A.units + 1 < cLine) : IxR X rIxK := by
  rintro value slice pins s σ H x y v u Q I rx ry ⟨a, z, rfl, g, q⟩ hs
  cases rx
  exact tail_any (dict_typeIs I g) PySem.F.slot_dict_getitem.lookup (d_getItem hu I g ry fun w' s3 I3 rw' => ⟨z, H, I3, rw', q⟩) hs
theorem atI_rel {K : PySem.W.Frag} {F : Hp} {l : List D} {vs : List V} {i : Int} {d : D} (r : RelDs K F l vs) (e : atI l i = some d) : ∃ v, atI vs i = some v ∧ RelD K F d v := by
  unfold atI at e ⊢
  rw [← r.length]
  cases h : ixN l.length i with
  | none => rw [h] at e; cases e
  | some j =>
    rw [h] at e
    exact r.get e
theorem key_of {K : PySem.W.Frag} {F : Hp} {d : D} {v : V} {k : Key} (h : RelD K F d v) (e : keyD d = some k) : v = kV k := by
  cases d with
  | int i => cases e; exact h
  | str s => cases e; exact h
  | _ => cases e
theorem look_rel {K : PySem.W.Frag} {F : Hp} : ∀ {ks : List Key} {l : List D} {kvs : List (Key × V)} {k : Key} {d : D}, kvs.map (·.1) = ks → RelDs K F l (kvs.map (·.2)) → lookK ks l k = some d → ∃ v, valV kvs k = some v ∧ RelD K F d v
  | [], _, _, _, _, _, _, h => by simp [lookK] at h
  | k0 :: ks, [], _, _, _, _, _, h => by simp [lookK] at h
  | k0 :: ks, d0 :: ds, [], _, _, e, _, _ => by simp at e
  | k0 :: ks, d0 :: ds, (k1, v1) :: kvs, k, d, e, r, h => by
    simp only [List.map_cons, List.cons.injEq] at e
    obtain ⟨e1, e2⟩ := e
    subst e1
    obtain ⟨v, ws, e3, q, t⟩ := r
    simp only [List.map_cons, List.cons.injEq] at e3
    obtain ⟨e4, e5⟩ := e3
    subst e4
    rw [← e5] at t
    unfold lookK at h
    by_cases hk : k1 = k
    · rw [if_pos hk] at h
      cases h
      exact ⟨v1, valV_pos (p := (k1, v1)) hk, q⟩
    · rw [if_neg hk] at h
      rw [valV_neg (p := (k1, v1)) hk]
      exact look_rel e2 t h
def rIxD (K : PySem.W.Frag) : R2 := fun x y H Q => ∃ F M R a b Qd, Wd K F M R H ∧ RelD K F a x ∧ RelD K F b y ∧ ixD a b M Qd ∧ Lands K F R Qd Q
theorem ix_any (hu : X.A.units + 1 < cLine) : IxR X (rIxD X.K) := by
  intro value slice pins s σ H x y v u Q I rx ry h hs
  obtain ⟨F, M, R, a, b, Qd, w, ha, hb, h, l⟩ := h
  have ha' := RelD.view w ha
  unfold ixD at h
  split at h
  · rename_i xs i e
    rw [e] at ha'
    obtain ⟨p, vs, rfl, q, r⟩ := ha'
    cases int_of hb
    split at h
    · rename_i d e2
      obtain ⟨z, e3, rz⟩ := atI_rel r e2
      exact ix_list value slice pins s σ H _ _ v u Q I rx ry ⟨p, vs, i, z, rfl, rfl, .inl q, e3, lands0 w l rz h⟩ hs
    · exact h.elim
  · rename_i xs i e
    rw [e] at ha'
    obtain ⟨p, vs, rfl, q, r⟩ := ha'
    cases int_of hb
    split at h
    · rename_i d e2
      obtain ⟨z, e3, rz⟩ := atI_rel r e2
      exact ix_list value slice pins s σ H _ _ v u Q I rx ry ⟨p, vs, i, z, rfl, rfl, Same.sqL w.f q, e3, lands0 w l rz h⟩ hs
    · exact h.elim
  · rename_i xs i e
    rw [e] at ha'
    obtain ⟨p, vs, rfl, q, r⟩ := ha'
    cases int_of hb
    split at h
    · rename_i d e2
      obtain ⟨z, e3, rz⟩ := atI_rel r e2
      exact ix_tup value slice pins s σ H _ _ v u Q I rx ry ⟨p, vs, i, z, rfl, rfl, Same.sqT w.f q, e3, lands0 w l rz h⟩ hs
    · exact h.elim
  · rename_i z i e
    rw [e] at ha'
    cases (show x = _ from ha')
    cases int_of hb
    obtain ⟨hz, h⟩ := h
    split at h
    · rename_i c e2
      exact ix_str value slice pins s σ H _ _ v u Q I rx ry ⟨z, i, c, rfl, rfl, hz, e2, landS w l h⟩ hs
    · exact h.elim
  · rename_i ks xs e
    rw [e] at ha'
    obtain ⟨p, kvs, rfl, q, hk, r⟩ := ha'
    split at h
    · rename_i k e2
      cases key_of hb e2
      split at h
      · rename_i d e3
        obtain ⟨z, e4, rz⟩ := look_rel hk r e3
        refine ix_dict hu value slice pins s σ H _ _ v u Q I rx ry ⟨p, z, rfl, .inl ⟨kvs, k, q, rfl, e4.symm⟩, lands0 w l rz h⟩ hs
      · exact h.elim
    · exact h.elim
  · exact h.elim

/-! ### stores -/
def rSetK : V → V → V → Hp → (Hp → Prop) → Prop := fun o i v H Q => ∃ a H4, o = .ref a ∧ DPut H a i v H4 ∧ Q H4
theorem set_dict (hu : X.A.units + 1 < cLine) : PSet X rSetK := by
  rintro pins s σ H o i v ov iv u Q I ro ri rv ⟨a, H4, rfl, g, q⟩
  cases ro
  exact d_setItem hu I g ri rv fun s4 I4 => ⟨H4, I4, q⟩
theorem setK_rel {K : PySem.W.Frag} {F : Hp} {k : Key} {d : D} {v : V} (rd : RelD K F d v) : ∀ {ks : List Key} {l : List D} {kvs : List (Key × V)}, kvs.map (·.1) = ks → RelDs K F l (kvs.map (·.2)) →
    (kvs.map fun kv => if kv.1 = k then (kv.1, v) else kv).map (·.1) = ks ∧ RelDs K F (setK ks l k d) ((kvs.map fun kv => if kv.1 = k then (kv.1, v) else kv).map (·.2))
  | [], l, [], _, r => by cases l <;> exact ⟨rfl, rfl⟩
  | [], _, _ :: _, e, _ => by simp at e
  | _ :: _, _, [], e, _ => by simp at e
  | k0 :: ks, [], (k1, v1) :: kvs, e, r => by cases (show _ = _ from r)
  | k0 :: ks, d0 :: ds, (k1, v1) :: kvs, e, r => by
    simp only [List.map_cons, List.cons.injEq] at e
    obtain ⟨rfl, e2⟩ := e
    obtain ⟨v', ws, e3, q, t⟩ := r
    simp only [List.map_cons, List.cons.injEq] at e3
    obtain ⟨rfl, e5⟩ := e3
    rw [← e5] at t
    obtain ⟨i1, i2⟩ := setK_rel rd e2 t
    unfold setK
    by_cases hk : k1 = k
    · simp only [List.map_cons, if_pos hk]
      exact ⟨by rw [i1], RelDs.cons rd i2⟩
    · simp only [List.map_cons, if_neg hk]
      exact ⟨by rw [i1], RelDs.cons q i2⟩
def rSetD (K : PySem.W.Frag) : V → V → V → Hp → (Hp → Prop) → Prop := fun o i v H Q => ∃ F M R x y d Qd, Wd K F M R H ∧ RelD K F x o ∧ RelD K F y i ∧ RelD K F d v ∧ sixD x y d M Qd ∧ ∀ M' H', Wd K F M' R H' → Qd M' → Q H'
theorem set_any (hu : X.A.units + 1 < cLine) : PSet X (rSetD X.K) := by
  intro pins s σ H o i v ov iv u Q I ro ri rv h
  obtain ⟨F, M, R, x, y, d, Qd, w, hx, hy, hd, h, l⟩ := h
  unfold sixD at h
  split at h
  · rename_i a
    cases (show o = _ from hx)
    split at h
    · rename_i xs k e
      obtain ⟨hF, ob, hH, rc⟩ := w.m _ _ e
      obtain ⟨vs, rfl, r⟩ := rc
      cases int_of hy
      split at h
      · rename_i j ej
        rw [r.length] at ej
        exact set_list pins s σ H _ _ v ov iv u Q I ro ri rv ⟨a, vs, k, j, rfl, rfl, hH, ej, l _ _ (w.write (c := .lst (xs.set j d)) e ⟨_, rfl, RelDs.set hd j r⟩) h⟩
      · exact h.elim
    · rename_i ks xs e
      obtain ⟨hF, ob, hH, rc⟩ := w.m _ _ e
      obtain ⟨kvs, rfl, hk, r⟩ := rc
      split at h
      · rename_i k ek
        cases key_of hy ek
        obtain ⟨hz, h⟩ := h
        have hl : xs.length = kvs.length := by rw [r.length, List.length_map]
        refine set_dict hu pins s σ H _ _ v ov iv u Q I ro ri rv ⟨a, _, rfl, DPut.k hH (by omega), ?_⟩
        have any : (kvs.any fun kv => decide (kv.1 = k)) = (ks.any fun j => decide (j = k)) := by
          rw [← hk, List.any_map]
          rfl
        unfold L2.putK
        rw [any]
        by_cases hm : (ks.any fun j => decide (j = k)) = true
        · rw [if_pos hm] at h ⊢
          obtain ⟨i1, i2⟩ := setK_rel hd hk r
          exact l _ _ (w.write (c := .dct ks (setK ks xs k d)) e ⟨_, rfl, i1, i2⟩) h
        · rw [if_neg hm] at h ⊢
          refine l _ _ (w.write (c := .dct (ks ++ [k]) (xs ++ [d])) e ⟨_, rfl, by rw [List.map_append, hk]; rfl, ?_⟩) h
          rw [List.map_append]
          exact r.append (RelDs.cons hd RelDs.nil)
      · exact h.elim
    · exact h.elim
  · exact h.elim

/-! ### slices -/
theorem cutD_rel {K : PySem.W.Frag} {F : Hp} {l : List D} {vs : List V} (r : RelDs K F l vs) (lo hi : Option Int) : RelDs K F (cutD l lo hi) (cutV vs lo hi) := by
  unfold cutD cutV
  rw [r.length]
  exact (r.drop _).take _
theorem cutV_whole {vs : List V} {lo hi : Option Int} (h : HT.sIx vs.length 0 lo = 0 ∧ HT.sIx vs.length vs.length hi = vs.length) : cutV vs lo hi = vs := by
  unfold cutV
  rw [h.1, h.2]
  simp
def rSlD (K : PySem.W.Frag) : V → Option Int → Option Int → Hp → VK → Prop := fun x lo hi H Q => ∃ F M R a Qd, Wd K F M R H ∧ RelD K F a x ∧ slD a lo hi M Qd ∧ Lands K F R Qd Q
theorem sl_any : SlR X (rSlD X.K) := by
  intro pins s σ H x v vl vu lo hi sl Q I rx hs pl pu h
  obtain ⟨F, M, R, a, Qd, w, ha, h, l⟩ := h
  have ha' := RelD.view w ha
  unfold slD at h
  split at h
  · rename_i xs e
    rw [e] at ha'
    obtain ⟨p, vs, rfl, q, r⟩ := ha'
    exact sl_list pins s σ H _ v vl vu lo hi sl Q I rx hs pl pu ⟨p, vs, rfl, Same.sqL w.f q, fun t ht => landsL w l (cutD_rel r lo hi) h ht⟩
  · rename_i xs e
    rw [e] at ha'
    obtain ⟨p, vs, rfl, q, r⟩ := ha'
    exact sl_list pins s σ H _ v vl vu lo hi sl Q I rx hs pl pu ⟨p, vs, rfl, .inl q, fun t ht => landsL w l (cutD_rel r lo hi) h ht⟩
  · rename_i xs e
    rw [e] at ha'
    obtain ⟨p, vs, rfl, q, r⟩ := ha'
    refine sl_tupA pins s σ H _ v vl vu lo hi sl Q I rx hs pl pu ⟨p, vs, rfl, Same.sqT w.f q, fun hw => ?_, fun _ t ht => landsT w l (cutD_rel r lo hi) h ht⟩
    refine lands0 (d := .tup _) w l ⟨p, vs, rfl, q, ?_⟩ h
    have := cutD_rel r lo hi
    rw [cutV_whole hw] at this
    exact this
  · exact h.elim
/-- a new list (not in the data yet) -/
def LandsN (K : PySem.W.Frag) (F R : Hp) (Qd : List D → Mh → Prop) (Q : VK) : Prop := ∀ ds M F' vs p H', Same F F' → Wd K F' M R H' → H' p = none → RelDs K F' ds vs → Qd ds M → Q (.ref p) (upd H' p (.lst vs))
def rSlN (K : PySem.W.Frag) : V → Option Int → Option Int → Hp → VK → Prop := fun x lo hi H Q => ∃ F M R a Qd, Wd K F M R H ∧ RelD K F a x ∧ slN a lo hi M Qd ∧ LandsN K F R Qd Q
theorem sl_new : SlR X (rSlN X.K) := by
  intro pins s σ H x v vl vu lo hi sl Q I rx hs pl pu h
  obtain ⟨F, M, R, a, Qd, w, ha, h, l⟩ := h
  have ha' := RelD.view w ha
  unfold slN at h
  split at h
  · rename_i xs e
    rw [e] at ha'
    obtain ⟨p, vs, rfl, q, r⟩ := ha'
    exact sl_list pins s σ H _ v vl vu lo hi sl Q I rx hs pl pu ⟨p, vs, rfl, Same.sqL w.f q, fun t ht => l _ _ _ _ _ _ (Same.refl F) w ht (cutD_rel r lo hi) h⟩
  · rename_i xs e
    rw [e] at ha'
    obtain ⟨p, vs, rfl, q, r⟩ := ha'
    exact sl_list pins s σ H _ v vl vu lo hi sl Q I rx hs pl pu ⟨p, vs, rfl, .inl q, fun t ht => l _ _ _ _ _ _ (Same.refl F) w ht (cutD_rel r lo hi) h⟩
  · exact h.elim
/-! ### x[b::-1] -/
theorem bounds_rev {n : Nat} {lo : Option Int} {m : Nat} (h : revN n lo = some m) : sliceBounds lo none (some (-1)) n = ((m : Int) - 1, -1, -1) ∧ m ≤ n := by
  cases lo with
  | none => cases h; exact ⟨PySem.W.krv_bounds n, Nat.le_refl _⟩
  | some b =>
    by_cases hb : 0 ≤ b ∧ b < n
    · have h : (if 0 ≤ b ∧ b < n then some (b.toNat + 1) else none) = some m := h
      rw [if_pos hb] at h
      cases h
      refine ⟨?_, by omega⟩
      unfold sliceBounds
      simp
      omega
    · have h : (if 0 ≤ b ∧ b < n then some (b.toNat + 1) else none) = some m := h
      rw [if_neg hb] at h
      cases h
theorem fm_congr {α β : Type} {f g : α → Option β} : ∀ {l : List α}, (∀ x ∈ l, f x = g x) → l.filterMap f = l.filterMap g
  | [], _ => rfl
  | x :: r, h => by
    rw [List.filterMap_cons, List.filterMap_cons, h x (by simp), fm_congr fun y hy => h y (by simp [hy])]
theorem pick_rev (xs : Array Value) {lo : Option Int} {m : Nat} (h : revN xs.size lo = some m) : slicePick xs lo none (some (-1)) = (xs.toList.take m).reverse.toArray := by
  obtain ⟨h1, h2⟩ := bounds_rev h
  unfold slicePick
  rw [h1]
  show ((sliceRange ((m : Int) - 1) (-1) (-1)).filterMap (xs[·]?)).toArray = _
  rw [PySem.W.krv_sliceRange, PySem.W.krv_range, List.filterMap_reverse]
  have e := PySem.W.krv_all (xs.extract 0 m)
  have sz : (xs.extract 0 m).size = m := by rw [Array.size_extract]; omega
  rw [sz] at e
  have e2 : (List.range m).filterMap (xs[·]?) = (List.range m).filterMap ((xs.extract 0 m)[·]?) := by
    apply fm_congr
    intro i hi
    have hi := List.mem_range.mp hi
    rw [Array.getElem?_extract]
    simp
    omega
  rw [e2, e]
  simp
def tRv (K : PySem.W.Frag) (te : TE) (tl : TO) : TE := fun σ H Q => te σ H fun x H1 => tl σ H1 fun o H2 => ∃ a xs n, x = .ref a ∧ SqL K H2 a xs ∧ revN xs.length o = some n ∧ ∀ p, H2 p = none → Q (.ref p) (upd H2 p (.lst (xs.take n).reverse))
theorem pe_rv {e : Expr} {lo : Option Expr} {te : TE} {tl : TO} {k : Nat} {p1 p2 p3 pos : Pos} (he : PE X e te) (hl : PO X lo tl) : PE X (.Subscript e (.Slice lo none (some (.UnaryOp .USub (.Constant (.int 1) k p1) p2)) p3) pos) (tRv X.K te tl) := by
  refine ⟨fun pins s σ H Q I h => ?_⟩
  refine Subscript_ (thn (he.run pins s σ H _ I h) fun v s1 ⟨x, H1, I1, rx, q1⟩ => ?_)
  have hst : PO X (some (.UnaryOp .USub (.Constant (.int 1) k p1) p2)) (tPart (tUn (rU fun i => .int (-i)) (tC (.int 1)))) := po_some (pe_un un_neg pe_int)
  refine wpAny_Slice (thn (hl.run pins s1 σ H1 _ I1 q1) fun vl s2 ⟨l, H2, I2, pl, q2⟩ => ?_)
  obtain ⟨a, xs, n, ex, hx, hn, q⟩ := q2
  subst ex
  cases rx
  refine thn (po_none.run pins s2 σ H2 (fun o H3 => o = none ∧ H3 = H2) I2 ⟨rfl, rfl⟩) fun vu s3 ⟨u, H3, I3, pu, eu, e3⟩ => ?_
  subst eu e3
  refine thn (hst.run pins s3 σ H3 (fun o H4 => o = some (-1) ∧ H4 = H3) I3 ⟨1, rfl, -1, rfl, rfl, rfl⟩) fun vs s4 ⟨o, H4, I4, ps, eo, e4⟩ => ?_
  subst eo e4
  have J : Inv X pins σ H4 { s4 with heap := s4.heap.push { cls := .type "slice", data := .fields #[vl, vu, vs] } } := I4.kept (t' := s4.toks) fun b ob q => Heap.get?_push_of_some _ q
  obtain ⟨its, r, ht, hz⟩ := J.list hx
  have hlen := r.length
  show wpAny (model X.prog X.w) X.A (subscriptTail e _ _ (.ref s4.heap.objs.size)) (EP X pins σ Q) X.xe _
  refine tail_any (ops := [.ref a, .ref s4.heap.objs.size]) ht.isList.typeIs (PySem.slot_list_getitem.lookup) ?_ (by with_unfolding_all rfl)
  refine wpAny_getItem_list_slice ht.isList (Heap.IsSliceOf.new _ vl vu vs) pl pu ps (by decide) ?_ (by rw [List.size_toArray]; omega)
  have hn2 : revN its.toArray.size l = some n := by rw [List.size_toArray, ← hlen]; exact hn
  rw [pick_rev its.toArray hn2]
  have rr : Vals (xs.take n).reverse (its.take n).reverse := (r.take n).reverse
  refine ⟨.ref _, _, J.laid (t' := s4.toks) (o := .lst (xs.take n).reverse) (fun b ob q => Heap.get?_push_of_some _ q) (Nat.le_refl _) ?_, rfl, q _ (J.hok.fresh (Nat.le_refl _))⟩
  exact ⟨by rw [List.length_reverse, List.length_take]; omega, _, 0, rr, Heap.get?_push_size _ rfl⟩
/-! ### t[::-1] of a tuple -/
theorem adjust_back (n : Nat) : Builtin.Slice.sliceAdjust none none (-1) (n : Int) = ((n : Int) - 1, -1) := by
  unfold Builtin.Slice.sliceAdjust
  simp
theorem places_back (n : Nat) : Builtin.Slice.slicePlaces ((n : Int) - 1) (-1) (-1) = n := by
  unfold Builtin.Slice.slicePlaces
  have h1 : ¬ ((-1 : Int) > 0) := by omega
  simp only [h1, if_false]
  have e : ((n : Int) - 1 - -1 - 1) / (- -1) = (n : Int) - 1 := by
    rw [show (- -1 : Int) = 1 by decide, Int.ediv_one]
    omega
  rw [e]
  split <;> omega
theorem applied_back {prog : Program} {w : World} {A : Around} {E : Value → Shared → Prop} {s : Shared} {sl : Addr} {vs : Value} {n : Nat} {Q : Int × Int × Nat → Shared → Prop} (hs : s.heap.IsSliceOf sl .none .none vs) (ps : IsPart vs (some (-1)))
    (h : Q ((n : Int) - 1, -1, n) s) : wpAny (model prog w) A (Builtin.Slice.sliceApplied (.ref sl) (pure (n : Int))) Q E s := by
  obtain ⟨os, hos, hcs, hds⟩ := id hs
  unfold Builtin.Slice.sliceApplied Builtin.Slice.sliceFields
  refine wpAny_bind (wpAny_bind (wpAny_field hos hds (x := .none) rfl (wpAny_bind (wpAny_field hos hds (x := .none) rfl (wpAny_bind (wpAny_field hos hds (x := vs) rfl (wpAny_pure ?_)))))))
  refine wpAny_bind (HT.slicePart_ ps ?_)
  show wpAny _ _ (if ((-1 : Int) == 0) = true then _ else _) _ _ s
  rw [if_neg (by decide)]
  refine wpAny_bind (slicePart_none (wpAny_bind (slicePart_none (wpAny_bind (wpAny_pure ?_)))))
  show wpAny _ _ (match Builtin.Slice.sliceAdjust none none (-1) (n : Int) with | (lo, hi) => pure (lo, (-1 : Int), Builtin.Slice.slicePlaces lo hi (-1))) _ _ s
  rw [adjust_back]
  show wpAny _ _ (pure ((n : Int) - 1, (-1 : Int), Builtin.Slice.slicePlaces ((n : Int) - 1) (-1) (-1))) _ _ s
  rw [places_back]
  exact wpAny_pure h
theorem back_pick (xs : Array Value) : ((List.range xs.size).filterMap fun (m : Nat) => xs[((xs.size : Int) - 1 + (m : Int) * (-1)).toNat]?).toArray = xs.toList.reverse.toArray := by
  have key : ∀ n, n ≤ xs.size → ((List.range n).filterMap fun (m : Nat) => xs[((n : Int) - 1 + (m : Int) * (-1)).toNat]?) = (xs.toList.take n).reverse := by
    intro n hn
    induction n with
    | zero => simp
    | succ n ih =>
      rw [List.range_succ_eq_map, List.filterMap_cons]
      have e0 : xs[(((n + 1 : Nat) : Int) - 1 + ((0 : Nat) : Int) * (-1)).toNat]? = some xs[n] := by
        rw [show (((n + 1 : Nat) : Int) - 1 + ((0 : Nat) : Int) * (-1)).toNat = n by omega]
        exact Array.getElem?_eq_getElem (by omega)
      rw [e0]
      have e1 : (fun (m : Nat) => xs[(((n + 1 : Nat) : Int) - 1 + (m : Int) * (-1)).toNat]?) ∘ Nat.succ = fun (m : Nat) => xs[((n : Int) - 1 + (m : Int) * (-1)).toNat]? := by
        funext m
        show xs[(((n + 1 : Nat) : Int) - 1 + ((m + 1 : Nat) : Int) * (-1)).toNat]? = _
        rw [show (((n + 1 : Nat) : Int) - 1 + ((m + 1 : Nat) : Int) * (-1)).toNat = ((n : Int) - 1 + (m : Int) * (-1)).toNat by omega]
      rw [List.filterMap_map, e1, ih (by omega)]
      have e2 : xs.toList.take (n + 1) = xs.toList.take n ++ [xs[n]] := by
        rw [List.take_succ_eq_append_getElem (by rw [Array.length_toList]; omega)]
        rfl
      rw [e2, List.reverse_append]
      rfl
  rw [key _ (Nat.le_refl _), ← Array.length_toList, List.take_length]
theorem getItem_back {prog : Program} {w : World} {A : Around} {E : Value → Shared → Prop} {s : Shared} {t sl : Addr} {items : Array Value} {vs : Value} {Q : Value → Shared → Prop} (ht : IsTup s.heap t items) (hs : s.heap.IsSliceOf sl .none .none vs) (ps : IsPart vs (some (-1)))
    (h : Q (.ref s.heap.objs.size) { s with heap := s.heap.push { cls := .type "tuple", data := .seq items.toList.reverse.toArray } }) (hsz : items.size ≤ sizeLine) : wpAny (model prog w) A (getItem (.ref t) (.ref sl)) Q E s := by
  have htake : sizeOk (.seq items.toList.reverse.toArray) := by
    show items.toList.reverse.toArray.size ≤ sizeLine
    rw [List.size_toArray, List.length_reverse, Array.length_toList]
    exact hsz
  obtain ⟨os, hos, hcs, hds⟩ := id hs
  have hTs : s.TypeIs (.ref sl) "slice" := ⟨os, hos, hcs⟩
  unfold getItem
  try with_reducible refine wpAny_holding ?_
  first | refine wpAny_bind (wpAny_pure ?_) | skip
  refine wpAny_bind (wpAny_sequenceKey ht.typeIs (by decide) ?_)
  refine wpAny_bind (wpAny_callSpecial?_slot (name := Str.ofString "__getitem__") ht.typeIs PyProof.Rows.slot_tuple_getitem
    (wpAny_call_entry PyProof.Rows.slot_tuple_getitem ht.typeIs PyProof.Rows.entry_tuple_getitem ?_ (PyProof.Rows.args_tuple_getitem _ _)))
  show wpAny _ _ (Builtin.Tuple.tupleItemsOf (.ref t) >>= _) _ _ s
  refine wpAny_bind (PyProof.Rows.tupleItemsOf_ ht ?_)
  refine wpAny_bind (wpAny_typeOf hTs ?_)
  rw [if_pos (by decide)]
  refine wpAny_bind (applied_back hs ps ?_)
  have hno : ¬ ((((items.size : Int) - 1) == 0 && (-1 : Int) == 1 && items.size == items.size) = true) := by
    intro q
    rw [Bool.and_eq_true, Bool.and_eq_true] at q
    exact absurd q.1.2 (by decide)
  show wpAny _ _ (if (((items.size : Int) - 1) == 0 && (-1 : Int) == 1 && items.size == items.size) = true then _ else _) _ _ s
  rw [if_neg hno, back_pick]
  first
    | exact wpAny_bind (m := Builtin.Tuple.tupleExact _) (wpAny_newObj_type (wpAny_pure ⟨_, rfl, wpAny_pure h⟩) htake)
    | exact wpAny_bind (m := Builtin.Tuple.tupleExact _) (wpAny_newObj_type (wpAny_bind (wpAny_pure (wpAny_pure ⟨_, rfl, wpAny_pure h⟩))) htake)
    | exact wpAny_bind (wpAny_bind (m := Builtin.Tuple.tupleExact _) (wpAny_newObj_type (wpAny_pure (wpAny_pure ⟨_, rfl, wpAny_pure h⟩)) htake))
    | exact wpAny_bind (wpAny_bind (m := Builtin.Tuple.tupleExact _) (wpAny_newObj_type (wpAny_pure ⟨_, rfl, wpAny_pure h⟩) htake))
def tRvt (K : PySem.W.Frag) (te : TE) : TE := fun σ H Q => te σ H fun x H1 => ∃ a xs, x = .ref a ∧ SqT K H1 a xs ∧ ∀ p, H1 p = none → Q (.ref p) (upd H1 p (.tup xs.reverse))
theorem pe_rvt {X : Cx} {e : Expr} {te : TE} {k : Nat} {p1 p2 p3 pos : Pos} (he : PE X e te) : PE X (.Subscript e (.Slice none none (some (.UnaryOp .USub (.Constant (.int 1) k p1) p2)) p3) pos) (tRvt X.K te) := by
  refine ⟨fun pins s σ H Q I h => ?_⟩
  refine Subscript_ (thn (he.run pins s σ H _ I h) fun v s1 ⟨x, H1, I1, rx, q1⟩ => ?_)
  have hst : PO X (some (.UnaryOp .USub (.Constant (.int 1) k p1) p2)) (tPart (tUn (rU fun i => .int (-i)) (tC (.int 1)))) := po_some (pe_un un_neg pe_int)
  obtain ⟨a, xs, ex, hx, q⟩ := q1
  subst ex
  cases rx
  refine wpAny_Slice (thn (po_none.run pins s1 σ H1 (fun o H2 => o = none ∧ H2 = H1) I1 ⟨rfl, rfl⟩) fun vl s2 ⟨l, H2, I2, pl, el, e2⟩ => ?_)
  subst el e2
  refine thn (po_none.run pins s2 σ H2 (fun o H3 => o = none ∧ H3 = H2) I2 ⟨rfl, rfl⟩) fun vu s3 ⟨u, H3, I3, pu, eu, e3⟩ => ?_
  subst eu e3
  refine thn (hst.run pins s3 σ H3 (fun o H4 => o = some (-1) ∧ H4 = H3) I3 ⟨1, rfl, -1, rfl, rfl, rfl⟩) fun vs s4 ⟨o, H4, I4, ps, eo, e4⟩ => ?_
  subst eo e4
  cases pl
  cases pu
  have J : Inv X pins σ H4 { s4 with heap := s4.heap.push { cls := .type "slice", data := .fields #[.none, .none, vs] } } := I4.kept (t' := s4.toks) fun b ob q => Heap.get?_push_of_some _ q
  obtain ⟨its, r, ht, hz⟩ := J.tuple hx
  have hlen := r.length
  show wpAny (model X.prog X.w) X.A (subscriptTail e _ _ (.ref s4.heap.objs.size)) (EP X pins σ Q) X.xe _
  refine tail_any (ops := [.ref a, .ref s4.heap.objs.size]) ht.typeIs (PyProof.Rows.slot_tuple_getitem.lookup) ?_ (by with_unfolding_all rfl)
  refine getItem_back ht (Heap.IsSliceOf.new _ .none .none vs) ps ?_ (by rw [List.size_toArray]; omega)
  refine ⟨.ref _, _, J.laid (t' := s4.toks) (o := .tup xs.reverse) (fun b ob q => Heap.get?_push_of_some _ q) (Nat.le_refl _) ?_, rfl, q _ (J.hok.fresh (Nat.le_refl _))⟩
  exact ⟨by rw [List.length_reverse]; omega, _, r.reverse, IsTup.new _ _⟩
end
end PD

/-! PD: builtins and methods by data -/
namespace PD
open PySem PySem.Spec PyProof.Rows L2
variable [Tb]

theorem maxL_mem : ∀ {l : List Int}, 0 < l.length → maxL l ∈ l
  | [x], _ => by simp [maxL]
  | x :: y :: r, _ => by
    have ih := maxL_mem (l := y :: r) (by simp)
    show max x (maxL (y :: r)) ∈ _
    by_cases h : x ≤ maxL (y :: r)
    · rw [Int.max_eq_right h]; exact List.mem_cons_of_mem _ ih
    · rw [Int.max_eq_left (by omega)]; exact List.mem_cons_self
theorem le_maxL : ∀ {l : List Int} {y : Int}, y ∈ l → y ≤ maxL l
  | [x], y, h => by simp at h; simp [maxL, h]
  | x :: z :: r, y, h => by
    show y ≤ max x (maxL (z :: r))
    rcases List.mem_cons.mp h with h | h
    · omega
    · have := le_maxL h
      omega
theorem minL_mem : ∀ {l : List Int}, 0 < l.length → minL l ∈ l
  | [x], _ => by simp [minL]
  | x :: y :: r, _ => by
    have ih := minL_mem (l := y :: r) (by simp)
    show min x (minL (y :: r)) ∈ _
    by_cases h : x ≤ minL (y :: r)
    · rw [Int.min_eq_left h]; exact List.mem_cons_self
    · rw [Int.min_eq_right (by omega)]; exact List.mem_cons_of_mem _ ih
theorem minL_le : ∀ {l : List Int} {y : Int}, y ∈ l → minL l ≤ y
  | [x], y, h => by simp at h; simp [minL, h]
  | x :: z :: r, y, h => by
    show min x (minL (z :: r)) ≤ y
    rcases List.mem_cons.mp h with h | h
    · omega
    · have := minL_le h
      omega

def biF : Bi → Value
  | .len => .builtin "len" | .abs => .builtin "abs" | .min2 => .builtin "min" | .min1 => .builtin "min" | .max2 => .builtin "max" | .max1 => .builtin "max"
  | .sum => .builtin "sum" | .all => .builtin "all" | .any => .builtin "any" | .divmod => .builtin "divmod"
  | .tup => .type "tuple" | .str => .type "str" | .int => .type "int" | .repr => .builtin "repr" | .lst0 => .type "list" | .sorted => .builtin "sorted" | .minp => .builtin "min"
def biN : Bi → Str
  | .len => "len" | .abs => "abs" | .min2 => "min" | .min1 => "min" | .max2 => "max" | .max1 => "max"
  | .sum => "sum" | .all => "all" | .any => "any" | .divmod => "divmod"
  | .tup => "tuple" | .str => "str" | .int => "int" | .repr => "repr" | .lst0 => "list" | .sorted => "sorted" | .minp => "min"

section
variable {X : Cx} {pins : List (Addr × Obj)} {σ : L2.St} {H : Hp} {s : Shared}
def rBi (K : PySem.W.Frag) (b : Bi) : List V → Hp → VK → Prop := fun vs H Q => ∃ F M R ds Qd, Wd K F M R H ∧ RelDs K F ds vs ∧ biD b ds M Qd ∧ Lands K F R Qd Q
theorem one_of {K : PySem.W.Frag} {F : Hp} {d : D} {vs : List V} (h : RelDs K F [d] vs) : ∃ v, vs = [v] ∧ RelD K F d v := by
  obtain ⟨v, ws, rfl, q, t⟩ := h
  cases (show ws = _ from t)
  exact ⟨v, rfl, q⟩
theorem two_of {K : PySem.W.Frag} {F : Hp} {d e : D} {vs : List V} (h : RelDs K F [d, e] vs) : ∃ v w, vs = [v, w] ∧ RelD K F d v ∧ RelD K F e w := by
  obtain ⟨v, ws, rfl, q, w, us, rfl, q2, t⟩ := h
  cases (show us = _ from t)
  exact ⟨v, w, rfl, q, q2⟩
/-! ### what may be read, dicts too -/
theorem pairs_keys {P : Program} {w : World} : ∀ {es : List DictEntry} {kvs : List (Key × Value)} {h : Heap}, PySem.Pairs (mixKind P w) es kvs → ReadsAll h (es.map (·.key)) (kvs.map fun kv => kP kv.1) []
  | _, _, _, .nil => .nil
  | _, _, h, .cons (e := e) (kv := kv) h1 h2 t => by
    have k : ∃ as, as = [] ∧ Reads h e.key (kP kv.1) as := by
      rcases keyIs_shape (k := kv.1) (v := e.key) h1 with ⟨i, t, e1, e2⟩ | ⟨x, t, e1, e2⟩
      · rw [e1, e2]; exact ⟨_, rfl, .int i t⟩
      · rw [e1, e2]; exact ⟨_, rfl, .str x t⟩
    obtain ⟨_, rfl, k⟩ := k
    exact .cons k (pairs_keys t)
theorem pairs_vals {P : Program} {w : World} : ∀ {es : List DictEntry} {kvs : List (Key × Value)}, PySem.Pairs (mixKind P w) es kvs → es.map (·.val) = kvs.map (·.2)
  | _, _, .nil => rfl
  | _, _, .cons h1 h2 t => by rw [List.map_cons, List.map_cons, h2, pairs_vals t]
theorem kv_keys : ∀ {ps : List (Key × V)} {qs : List (Key × Value)}, KV ps qs → qs.map (·.1) = ps.map (·.1) ∧ Vals (ps.map (·.2)) (qs.map (·.2))
  | _, _, .nil => ⟨rfl, .nil⟩
  | _, _, .cons ⟨h1, h2⟩ t => by
    obtain ⟨a, b⟩ := kv_keys t
    exact ⟨by rw [List.map_cons, List.map_cons, a, h1], .cons h2 b⟩
theorem readsAll_len {h : Heap} : ∀ {us : List Value} {ds : List PyData} {as : List Addr}, ReadsAll h us ds as → us.length = ds.length
  | _, _, _, .nil => rfl
  | _, _, _, .cons _ t => by rw [List.length_cons, List.length_cons, readsAll_len t]
mutual
theorem reads_D {K : PySem.W.Frag} {F : Hp} (I : Inv X pins σ H s) (eK : X.K = K) (sm : Same F H) (hm : ∃ o es ep, s.heap.get? sysModules = some o ∧ o.data = .dict es ep) : ∀ (d : D) (v : V) (u : Value) (p : PyData), RelD K F d v → RelV v u → toPyR d = some p → ∃ as, Reads s.heap u p as ∧ sysModules ∉ as
  | .non, v, u, p, h, r, e => by cases (show v = _ from h); cases e; cases r; exact ⟨_, .none, by simp⟩
  | .bl b, v, u, p, h, r, e => by cases (show v = _ from h); cases e; cases r; exact ⟨_, .bool b, by simp⟩
  | .int i, v, u, p, h, r, e => by cases (show v = _ from h); cases e; obtain ⟨t, rfl⟩ := r; exact ⟨_, .int i t, by simp⟩
  | .str x, v, u, p, h, r, e => by cases (show v = _ from h); cases e; obtain ⟨t, rfl⟩ := r; exact ⟨_, .str x t, by simp⟩
  | .tup l, v, u, p, h, r, e => by
    obtain ⟨a, vs, rfl, q, rd⟩ := h
    unfold toPyR at e
    cases e2 : toPyRs l with
    | none => rw [e2] at e; cases e
    | some ds =>
      rw [e2] at e; cases e; cases r
      obtain ⟨its, rv, ⟨o, ho, hc, n, hd⟩, _⟩ := I.tuple (by rw [eK]; exact Same.sqT sm q)
      obtain ⟨as, h1, h2⟩ := reads_Ds I eK sm hm l vs its ds rd rv e2
      exact ⟨_, .tuple ho hc hd h1, h2⟩
  | .lst l, v, u, p, h, r, e => by
    obtain ⟨a, vs, rfl, q, rd⟩ := h
    unfold toPyR at e
    cases e2 : toPyRs l with
    | none => rw [e2] at e; cases e
    | some ds =>
      rw [e2] at e; cases e; cases r
      obtain ⟨its, rv, ⟨o, n, ho, hc, _, hd⟩, _⟩ := I.list (.inl (Same.rd sm q))
      obtain ⟨as, h1, h2⟩ := reads_Ds I eK sm hm l vs its ds rd rv e2
      refine ⟨_, .list ho hc hd h1, fun z => ?_⟩
      rcases List.mem_cons.mp z with z | z
      · obtain ⟨o', es, ep, h3, h4⟩ := hm
        rw [z, ho] at h3
        cases h3
        rw [hd] at h4
        cases h4
      · exact h2 z
  | .dct ks l, v, u, p, h, r, e => by
    obtain ⟨a, kvs, rfl, q, hk, rd⟩ := h
    unfold toPyR at e
    cases e2 : toPyRs l with
    | none => rw [e2] at e; cases e
    | some ds =>
      rw [e2] at e; cases e; cases r
      obtain ⟨_, hs, vs, kv, o, es, ep, ho, hx, hd, _, hp, _⟩ := (Same.rd sm q).ok I.hok
      obtain ⟨k1, k2⟩ := kv_keys kv
      obtain ⟨as, h1, h2⟩ := reads_Ds I eK sm hm l _ _ ds rd k2 e2
      have hl : (ks.map kP).length = ds.length := by
        have := readsAll_len h1
        rw [List.length_map] at this
        rw [List.length_map, ← hk, List.length_map, ← this]
        have := congrArg List.length k1
        simpa using this.symm
      have r1 : ReadsAll s.heap (es.toList.map (·.key)) (((ks.map kP).zip ds).map (·.1)) [] := by
        rw [List.map_fst_zip (by omega)]
        have := pairs_keys (h := s.heap) hp
        rw [show (vs.map fun kv => kP kv.1) = ks.map kP by rw [← hk, ← k1, List.map_map]; rfl] at this
        exact this
      have r2 : ReadsAll s.heap (es.toList.map (·.val)) (((ks.map kP).zip ds).map (·.2)) as := by
        rw [List.map_snd_zip (by omega), pairs_vals hp]
        exact h1
      refine ⟨_, .dict ho hx.1 hd r1 r2, fun z => ?_⟩
      rcases List.mem_append.mp z with z | z
      · rcases List.mem_cons.mp z with z | z
        · rw [← z] at hs
          simp at hs
        · cases z
      · exact h2 z
  | .ref _, _, _, _, _, _, e => by cases e
  | .con _, _, _, _, _, _, e => by cases e
  | .scr _, _, _, _, _, _, e => by cases e
theorem reads_Ds {K : PySem.W.Frag} {F : Hp} (I : Inv X pins σ H s) (eK : X.K = K) (sm : Same F H) (hm : ∃ o es ep, s.heap.get? sysModules = some o ∧ o.data = .dict es ep) : ∀ (l : List D) (vs : List V) (us : List Value) (ps : List PyData), RelDs K F l vs → Vals vs us → toPyRs l = some ps → ∃ as, ReadsAll s.heap us ps as ∧ sysModules ∉ as
  | [], vs, us, ps, h, r, e => by cases (show vs = _ from h); cases e; cases r; exact ⟨_, .nil, by simp⟩
  | d :: rr, vs, us, ps, h, r, e => by
    obtain ⟨v, ws, rfl, q, t⟩ := h
    unfold toPyRs at e
    cases e1 : toPyR d with
    | none => rw [e1] at e; cases e
    | some x =>
      cases e2 : toPyRs rr with
      | none => rw [e1, e2] at e; cases e
      | some xs =>
        rw [e1, e2] at e; cases e
        cases r with
        | cons r1 r2 =>
          obtain ⟨as, a1, a2⟩ := reads_D I eK sm hm d v _ x q r1 e1
          obtain ⟨bs, b1, b2⟩ := reads_Ds I eK sm hm rr ws _ xs t r2 e2
          exact ⟨_, .cons a1 b1, fun z => (List.mem_append.mp z).elim a2 b2⟩
end
/-- what is seen of a cell -/
theorem reads_R {F : Hp} (I : Inv X pins σ H s) (sm : Same F H) (hm : ∃ o es ep, s.heap.get? sysModules = some o ∧ o.data = .dict es ep) {d : D} {v : V} {u : Value} {p : PyData} (h : RelR X.K F H d v) (r : RelV v u) (e : toPyR d = some p) : ∃ as, Reads s.heap u p as ∧ sysModules ∉ as := by
  cases d with
  | lst l =>
    obtain ⟨a, vs, rfl, q, rd⟩ := h
    unfold toPyR at e
    cases e2 : toPyRs l with
    | none => rw [e2] at e; cases e
    | some ds =>
      rw [e2] at e; cases e; cases r
      obtain ⟨its, rv, ⟨o, n, ho, hc, _, hd⟩, _⟩ := I.list (.inl q)
      obtain ⟨as, h1, h2⟩ := reads_Ds I rfl sm hm l vs its ds rd rv e2
      refine ⟨_, .list ho hc hd h1, fun z => ?_⟩
      rcases List.mem_cons.mp z with z | z
      · obtain ⟨o', es, ep, h3, h4⟩ := hm
        rw [z, ho] at h3
        cases h3
        rw [hd] at h4
        cases h4
      · exact h2 z
  | dct ks l =>
    obtain ⟨a, kvs, rfl, q, hk, rd⟩ := h
    unfold toPyR at e
    cases e2 : toPyRs l with
    | none => rw [e2] at e; cases e
    | some ds =>
      rw [e2] at e; cases e; cases r
      obtain ⟨_, hs, vs, kv, o, es, ep, ho, hx, hd, _, hp, _⟩ := q.ok I.hok
      obtain ⟨k1, k2⟩ := kv_keys kv
      obtain ⟨as, h1, h2⟩ := reads_Ds I rfl sm hm l _ _ ds rd k2 e2
      have hl : (ks.map kP).length = ds.length := by
        have := readsAll_len h1
        rw [List.length_map] at this
        rw [List.length_map, ← hk, List.length_map, ← this]
        have := congrArg List.length k1
        simpa using this.symm
      have r1 : ReadsAll s.heap (es.toList.map (·.key)) (((ks.map kP).zip ds).map (·.1)) [] := by
        rw [List.map_fst_zip (by omega)]
        have := pairs_keys (h := s.heap) hp
        rw [show (vs.map fun kv => kP kv.1) = ks.map kP by rw [← hk, ← k1, List.map_map]; rfl] at this
        exact this
      have r2 : ReadsAll s.heap (es.toList.map (·.val)) (((ks.map kP).zip ds).map (·.2)) as := by
        rw [List.map_snd_zip (by omega), pairs_vals hp]
        exact h1
      refine ⟨_, .dict ho hx.1 hd r1 r2, fun z => ?_⟩
      rcases List.mem_append.mp z with z | z
      · rcases List.mem_cons.mp z with z | z
        · rw [← z] at hs
          simp at hs
        · cases z
      · exact h2 z
  | non => exact reads_D (F := F) I rfl sm hm .non _ _ _ h r e
  | bl b => exact reads_D (F := F) I rfl sm hm (.bl b) _ _ _ h r e
  | int i => exact reads_D (F := F) I rfl sm hm (.int i) _ _ _ h r e
  | str x => exact reads_D (F := F) I rfl sm hm (.str x) _ _ _ h r e
  | tup l => exact reads_D (F := F) I rfl sm hm (.tup l) _ _ _ h r e
  | ref a => cases e
  | con v => cases e
  | scr l => cases e
  | exc _ => cases e
  | fn _ => cases e
  | thk _ _ _ _ _ => cases e
theorem reads_Vs {F R : Hp} {M : Mh} (I : Inv X pins σ H s) (w : Wd X.K F M R H) (hm : ∃ o es ep, s.heap.get? sysModules = some o ∧ o.data = .dict es ep) : ∀ (l : List D) (vs : List V) (us : List Value) (ps : List PyData), RelDs X.K F l vs → Vals vs us → toPyVs M l = some ps → ∃ as, ReadsAll s.heap us ps as ∧ sysModules ∉ as
  | [], vs, us, ps, h, r, e => by cases (show vs = _ from h); cases e; cases r; exact ⟨_, .nil, by simp⟩
  | d :: rr, vs, us, ps, h, r, e => by
    obtain ⟨v, ws, rfl, q, t⟩ := h
    unfold toPyVs at e
    cases e1 : toPyR (view M d) with
    | none => rw [e1] at e; cases e
    | some x =>
      cases e2 : toPyVs M rr with
      | none => rw [e1, e2] at e; cases e
      | some xs =>
        rw [e1, e2] at e; cases e
        cases r with
        | cons r1 r2 =>
          obtain ⟨as, a1, a2⟩ := reads_R I w.f hm (RelD.view w q) r1 e1
          obtain ⟨bs, b1, b2⟩ := reads_Vs I w hm rr ws _ xs t r2 e2
          exact ⟨_, .cons a1 b1, fun z => (List.mem_append.mp z).elim a2 b2⟩
theorem reads_M {F R : Hp} {M : Mh} (I : Inv X pins σ H s) (w : Wd X.K F M R H) (hm : ∃ o es ep, s.heap.get? sysModules = some o ∧ o.data = .dict es ep) {d : D} {v : V} {u : Value} {p : PyData} (h : RelR X.K F H (view M d) v) (r : RelV v u) (e : toPyM M d = some p) : ∃ as, Reads s.heap u p as ∧ sysModules ∉ as := by
  unfold toPyM at e
  split at e
  · rename_i l e0
    rw [e0] at h
    obtain ⟨a, vs, rfl, q, rd⟩ := h
    cases e2 : toPyVs M l with
    | none => rw [e2] at e; cases e
    | some ds =>
      rw [e2] at e; cases e; cases r
      obtain ⟨its, rv, ⟨o, ho, hc, n, hd⟩, _⟩ := I.tuple (Same.sqT w.f q)
      obtain ⟨as, h1, h2⟩ := reads_Vs I w hm l vs its ds rd rv e2
      exact ⟨_, .tuple ho hc hd h1, h2⟩
  · rename_i l e0
    rw [e0] at h
    obtain ⟨a, vs, rfl, q, rd⟩ := h
    cases e2 : toPyVs M l with
    | none => rw [e2] at e; cases e
    | some ds =>
      rw [e2] at e; cases e; cases r
      obtain ⟨its, rv, ⟨o, n, ho, hc, _, hd⟩, _⟩ := I.list (.inl q)
      obtain ⟨as, h1, h2⟩ := reads_Vs I w hm l vs its ds rd rv e2
      refine ⟨_, .list ho hc hd h1, fun z => ?_⟩
      rcases List.mem_cons.mp z with z | z
      · obtain ⟨o', es, ep, h3, h4⟩ := hm
        rw [z, ho] at h3
        cases h3
        rw [hd] at h4
        cases h4
      · exact h2 z
  · exact reads_R I w.f hm h r e
theorem call_rep (hg : X.A.guards = some []) (hu : X.A.units + 64 < cLine) : CallR X (.builtin "repr") (fun vs H Q => ∃ x p, vs = [x] ∧ (∀ {pins : List (Addr × Obj)} {σ : L2.St} {s : Shared} {u : Value}, Inv X pins σ H s → RelV x u → ∃ as, Reads s.heap u p as ∧ sysModules ∉ as) ∧ (p.showable = true ∧ p.depth ≤ 40 ∧ p.shown.length ≤ sizeLine) ∧ Q (.str p.shown) H) := by
  rintro pins s σ H vs us Q I rv ⟨x, p, rfl, dp, ⟨h1, h3, h4⟩, q⟩
  obtain ⟨u, rfl, rx⟩ := vals1 rv
  obtain ⟨as, rd, ns⟩ := dp I rx
  cases rd with
  | none => exact PySem.P.repr_of_none ⟨.str _, H, I.tok _, ⟨_, rfl⟩, by simpa [PyData.shown] using q⟩
  | bool b => exact PySem.P.repr_of_bool ⟨.str _, H, I.tok _, ⟨_, rfl⟩, by simpa [PyData.shown] using q⟩
  | int i t => exact PySem.P.repr_of_int (by simpa [PyData.showable] using h1) ⟨.str _, H, I.tok _, ⟨_, rfl⟩, by simpa [PyData.shown] using q⟩
  | str z t => exact PySem.P.repr_of_str ⟨.str _, H, I.tok _, ⟨_, rfl⟩, by simpa [PyData.shown] using q⟩ (by simpa [PyData.shown] using h4)
  | list a1 a2 a3 a4 =>
    exact repr_of_reads' (.list a1 a2 a3 a4) h1 (fun _ => ns) hg (by omega) (fun _ _ e => e) (fun h' u tk hk => ⟨.str _, H, I.kept hk, ⟨_, rfl⟩, q⟩) h4
  | tuple a1 a2 a3 a4 =>
    exact repr_of_reads' (.tuple a1 a2 a3 a4) h1 (fun _ => ns) hg (by omega) (fun _ _ e => e) (fun h' u tk hk => ⟨.str _, H, I.kept hk, ⟨_, rfl⟩, q⟩) h4
  | dict a1 a2 a3 a4 a5 =>
    exact repr_of_reads' (.dict a1 a2 a3 a4 a5) h1 (fun _ => ns) hg (by omega) (fun _ _ e => e) (fun h' u tk hk => ⟨.str _, H, I.kept hk, ⟨_, rfl⟩, q⟩) h4
theorem sys_of {pins : List (Addr × Obj)} {σ : L2.St} {H : Hp} {s : Shared} (hb : ∃ mm, X.base.Ns sysModules mm) (I : Inv X pins σ H s) : ∃ o es ep, s.heap.get? sysModules = some o ∧ o.data = .dict es ep := by
  obtain ⟨mm, o, es, ep, h1, h2, _⟩ := hb
  exact ⟨o, es, ep, I.bk _ _ h1, h2⟩
theorem rel_ints {K : PySem.W.Frag} {F : Hp} : ∀ ns : List Int, RelDs K F (ns.map D.int) (ns.map V.int)
  | [] => RelDs.nil
  | n :: r => RelDs.cons (d := .int n) rfl (rel_ints r)
def pyP (p : Int × Int) : PyData := .tuple [.int p.1, .int p.2]
theorem dataLt_pair (p q : Int × Int) : PySem.W.dataLt (pyP p) (pyP q) = decide (p.1 < q.1 ∨ p.1 = q.1 ∧ p.2 < q.2) := by
  unfold pyP
  rw [PySem.W.dataLt_tuple]
  obtain ⟨p1, p2⟩ := p
  obtain ⟨q1, q2⟩ := q
  simp only [PySem.W.keyToksAll, PySem.W.keyToks, List.cons_append, List.nil_append]
  rw [PyProof.Rows.lex_self]
  by_cases e : p1 = q1
  · subst e
    rw [PyProof.Rows.lex_self, PyProof.Rows.lex_self]
    by_cases e2 : p2 = q2
    · subst e2
      rw [PyProof.Rows.lex_self, PyProof.Rows.lex_self]
      simp [PyProof.Rows.lexLt]
    · rw [PyProof.Rows.lex_diff (by intro z; cases z; exact e2 rfl)]
      show decide (p2 < q2) = _
      simp
  · rw [PyProof.Rows.lex_diff (by intro z; cases z; exact e rfl)]
    show decide (p1 < q1) = _
    simp [e]
theorem minD_pairs : ∀ (ps : List (Int × Int)) (p0 : Int × Int), ∃ p ∈ p0 :: ps, PySem.W.minD (pyP p0) (ps.map pyP) = pyP p ∧ ∀ q ∈ p0 :: ps, p.1 < q.1 ∨ p.1 = q.1 ∧ p.2 ≤ q.2
  | [], p0 => ⟨p0, List.mem_cons_self, rfl, fun q hq => by
    rw [List.mem_singleton.mp hq]
    exact .inr ⟨rfl, Int.le_refl _⟩⟩
  | p1 :: ps, p0 => by
    have e : PySem.W.minD (pyP p0) ((p1 :: ps).map pyP) = PySem.W.minD (if PySem.W.dataLt (pyP p1) (pyP p0) = true then pyP p1 else pyP p0) (ps.map pyP) := rfl
    rw [e, dataLt_pair]
    by_cases h : p1.1 < p0.1 ∨ p1.1 = p0.1 ∧ p1.2 < p0.2
    · rw [if_pos (decide_eq_true h)]
      obtain ⟨p, hp, he, hm⟩ := minD_pairs ps p1
      refine ⟨p, List.mem_cons_of_mem _ hp, he, fun q hq => ?_⟩
      rcases List.mem_cons.mp hq with rfl | hq
      · have := hm p1 List.mem_cons_self
        omega
      · exact hm q hq
    · rw [if_neg (by simpa using h)]
      obtain ⟨p, hp, he, hm⟩ := minD_pairs ps p0
      refine ⟨p, ?_, he, fun q hq => ?_⟩
      · rcases List.mem_cons.mp hp with rfl | hp
        · exact List.mem_cons_self
        · exact List.mem_cons_of_mem _ (List.mem_cons_of_mem _ hp)
      · rcases List.mem_cons.mp hq with rfl | hq
        · exact hm q List.mem_cons_self
        rcases List.mem_cons.mp hq with rfl | hq
        · have := hm p0 List.mem_cons_self
          omega
        · exact hm q (List.mem_cons_of_mem _ hq)
theorem toPyRs_ps : ∀ ps : List (Int × Int), toPyRs (ps.map tupP) = some (ps.map pyP)
  | [] => by unfold toPyRs; rfl
  | p :: ps => by
    rw [List.map_cons, List.map_cons]
    unfold toPyRs
    rw [toPyRs_ps ps]
    unfold tupP pyP
    simp [toPyR, toPyRs]
theorem alike_ps (ps : List (Int × Int)) : PySem.W.AlikeAll (ps.map pyP) := by
  refine ⟨fun x hx y hy => ?_, fun x hx e => ?_⟩
  · obtain ⟨p, _, rfl⟩ := List.mem_map.mp hx
    obtain ⟨q, _, rfl⟩ := List.mem_map.mp hy
    simp [pyP, PySem.W.alike, PySem.W.alikeAll]
  · obtain ⟨p, _, rfl⟩ := List.mem_map.mp hx
    cases e
theorem depth_ps : ∀ ps : List (Int × Int), PyData.depthAll (ps.map pyP) ≤ 10
  | [] => by simp [PyData.depthAll]
  | p :: ps => by
    have := depth_ps ps
    rw [List.map_cons]
    simp only [PyData.depthAll, pyP, PyData.depth]
    omega
theorem call_minp (hc : X.calm = true) (hb : ∃ mm, X.base.Ns sysModules mm) (hu : X.A.units + 64 < cLine) {F R : Hp} {M : Mh} {ps : List (Int × Int)} {a : Addr} {vs : List V} {Qd : QD} {Q : VK} {us : List Value} (I : Inv X pins σ H s) (w : Wd X.K F M R H) (rv : Vals [.ref a] us) (q : Rd H a (.lst vs)) (r : RelDs X.K F (ps.map tupP) vs) (h0 : 0 < ps.length)
    (h : ∀ p ∈ ps, (∀ q ∈ ps, p.1 < q.1 ∨ p.1 = q.1 ∧ p.2 ≤ q.2) → Qd (tupP p) M) (l : Lands X.K F R Qd Q) : wpAny (model X.prog X.w) X.A (call (.builtin "min") us) (EP X pins σ Q) X.xe s := by
  obtain ⟨its, rv2, hl, hz⟩ := I.list (.inl q)
  rw [Vals.ref1 rv]
  obtain ⟨as, rd, _⟩ := reads_Ds I rfl w.f (sys_of hb I) _ _ _ _ r rv2 (toPyRs_ps ps)
  cases ps with
  | nil => exact absurd h0 (by simp)
  | cons p0 ps =>
    have rd' : ReadsAll s.heap its.toArray.toList (pyP p0 :: ps.map pyP) as := by simpa using rd
    refine PySem.W.min_list_data (I.ok.hd hc) hl.isList rd' (alike_ps (p0 :: ps)) ?_ fun i u h' tk bs hi hr hk => ?_
    · have := depth_ps (p0 :: ps)
      have e : PyData.depthAll (pyP p0 :: ps.map pyP) ≤ 10 := this
      omega
    · obtain ⟨x, hx, rx⟩ : ∃ x, vs[i]? = some x ∧ RelV x u := by
        have hi' : its[i]? = some u := by simpa using hi
        have hlt : i < vs.length := by
          rw [rv2.length]
          exact (List.getElem?_eq_some_iff.mp hi').1
        obtain ⟨u', h1, h2⟩ := rv2.get (List.getElem?_eq_getElem hlt)
        rw [hi'] at h1
        cases h1
        exact ⟨_, List.getElem?_eq_getElem hlt, h2⟩
      obtain ⟨d, hd, rdw⟩ := r.getV hx
      obtain ⟨p, hp, rfl⟩ : ∃ p, (p0 :: ps)[i]? = some p ∧ d = tupP p := by
        rw [List.getElem?_map] at hd
        cases z : (p0 :: ps)[i]? with
        | none => rw [z] at hd; cases hd
        | some p => rw [z] at hd; cases hd; exact ⟨p, rfl, rfl⟩
      obtain ⟨as2, rp, _⟩ := reads_D (I.kept (t' := tk) hk) rfl w.f (sys_of hb (I.kept (t' := tk) hk)) (tupP p) x u (pyP p) rdw rx (by unfold tupP pyP; simp [toPyR, toPyRs])
      obtain ⟨p', hp', e', hm⟩ := minD_pairs ps p0
      rw [e'] at hr
      have e2 : pyP p = pyP p' := (Reads.unique rp _ _ hr).1
      have e3 : p = p' := by
        unfold pyP at e2
        obtain ⟨p1, p2⟩ := p
        obtain ⟨q1, q2⟩ := p'
        simpa using e2
      subst e3
      exact ⟨x, H, I.kept hk, rx, l (tupP p) M F _ H (Same.refl F) w rdw (h p hp' hm)⟩
theorem call_bi (hc : X.calm = true) (hb : ∃ mm, X.base.Ns sysModules mm) (hg : X.A.guards = some []) (hu : X.A.units + 64 < cLine) (b : Bi) : CallR X (biF b) (rBi X.K b) := by
  intro pins s σ H xs us Q I rv h
  obtain ⟨F, M, R, ds, Qd, w, hd, h, l⟩ := h
  unfold biD at h
  split at h
  · obtain ⟨v, rfl, hv⟩ := one_of hd
    have hv' := RelD.view w hv
    split at h
    · rename_i xs e
      rw [e] at hv'
      obtain ⟨a, vs, rfl, q, r⟩ := hv'
      exact call_len pins s σ H _ us Q I rv ⟨_, _, rfl, .inl ⟨vs, .inl q, r.length⟩, landI w l h⟩
    · rename_i xs e
      rw [e] at hv'
      obtain ⟨a, vs, rfl, q, r⟩ := hv'
      exact call_len pins s σ H _ us Q I rv ⟨_, _, rfl, .inl ⟨vs, Same.sqL w.f q, r.length⟩, landI w l h⟩
    · rename_i xs e
      rw [e] at hv'
      obtain ⟨a, vs, rfl, q, r⟩ := hv'
      exact call_len pins s σ H _ us Q I rv ⟨_, _, rfl, .inr ⟨vs, Same.sqT w.f q, r.length⟩, landI w l h⟩
    · rename_i z e
      rw [e] at hv'
      cases (show v = _ from hv')
      obtain ⟨hz, h⟩ := h
      exact call_len pins s σ H _ us Q I rv ⟨_, _, rfl, ⟨hz, rfl⟩, landI w l h⟩
    · exact h.elim
  · obtain ⟨v, rfl, hv⟩ := one_of hd
    cases int_of hv
    exact call_abs pins s σ H _ us Q I rv ⟨_, rfl, landI w l h⟩
  · obtain ⟨v, u, rfl, hv, hu'⟩ := two_of hd
    cases int_of hv; cases int_of hu'
    exact call_min2 hc pins s σ H _ us Q I rv ⟨_, _, rfl, landI w l h⟩
  · obtain ⟨v, u, rfl, hv, hu'⟩ := two_of hd
    cases int_of hv; cases int_of hu'
    exact call_max2 hc pins s σ H _ us Q I rv ⟨_, _, rfl, landI w l h⟩
  · obtain ⟨v, rfl, hv⟩ := one_of hd
    have hv' := RelD.view w hv
    split at h
    · rename_i xs e
      rw [e] at hv'
      obtain ⟨a, vs, rfl, q, r⟩ := hv'
      split at h
      · rename_i ns e2
        obtain ⟨h0, h⟩ := h
        cases r.ints e2
        refine cr_min hc pins s σ H _ us Q I rv ⟨_, ns, rfl, .inl q, h0, fun m hm hle => ?_⟩
        have : m = minL ns := by
          have h1 := minL_le hm
          have h2 := hle _ (minL_mem h0)
          omega
        rw [this]
        exact landI w l h
      · exact h.elim
    · exact h.elim
  · obtain ⟨v, rfl, hv⟩ := one_of hd
    have hv' := RelD.view w hv
    split at h
    · rename_i xs e
      rw [e] at hv'
      obtain ⟨a, vs, rfl, q, r⟩ := hv'
      split at h
      · rename_i ns e2
        obtain ⟨h0, h⟩ := h
        cases r.ints e2
        refine cr_max hc pins s σ H _ us Q I rv ⟨_, ns, rfl, .inl q, h0, fun m hm hle => ?_⟩
        have : m = maxL ns := by
          have h1 := le_maxL hm
          have h2 := hle _ (maxL_mem h0)
          omega
        rw [this]
        exact landI w l h
      · exact h.elim
    · exact h.elim
  · obtain ⟨v, rfl, hv⟩ := one_of hd
    have hv' := RelD.view w hv
    split at h
    · rename_i xs e
      rw [e] at hv'
      obtain ⟨a, vs, rfl, q, r⟩ := hv'
      split at h
      · rename_i ns e2
        cases r.ints e2
        exact cr_sum hc pins s σ H _ us Q I rv ⟨_, ns, rfl, .inl q, landI w l h⟩
      · exact h.elim
    · exact h.elim
  · obtain ⟨v, rfl, hv⟩ := one_of hd
    have hv' := RelD.view w hv
    split at h
    · rename_i xs e
      rw [e] at hv'
      obtain ⟨a, vs, rfl, q, r⟩ := hv'
      split at h
      · rename_i ns e2
        cases r.bls e2
        exact cr_all hc pins s σ H _ us Q I rv ⟨_, ns, rfl, .inl q, landB w l h⟩
      · exact h.elim
    · exact h.elim
  · obtain ⟨v, rfl, hv⟩ := one_of hd
    have hv' := RelD.view w hv
    split at h
    · rename_i xs e
      rw [e] at hv'
      obtain ⟨a, vs, rfl, q, r⟩ := hv'
      split at h
      · rename_i ns e2
        cases r.bls e2
        exact cr_any hc pins s σ H _ us Q I rv ⟨_, ns, rfl, .inl q, landB w l h⟩
      · exact h.elim
    · exact h.elim
  · obtain ⟨v, rfl, hv⟩ := one_of hd
    have hv' := RelD.view w hv
    split at h
    · rename_i xs e
      rw [e] at hv'
      obtain ⟨a, vs, rfl, q, r⟩ := hv'
      exact call_tuple_of pins s σ H _ us Q I rv ⟨a, vs, rfl, .inl ⟨.inl q, fun t ht => landsT w l r h ht⟩⟩
    · rename_i xs e
      rw [e] at hv'
      obtain ⟨a, vs, rfl, q, r⟩ := hv'
      exact call_tuple_of pins s σ H _ us Q I rv ⟨a, vs, rfl, .inr ⟨Same.sqT w.f q, lands0 (d := .tup xs) w l ⟨a, vs, rfl, q, r⟩ h⟩⟩
    · exact h.elim
  · obtain ⟨v, u, rfl, hv, hu'⟩ := two_of hd
    cases int_of hv; cases int_of hu'
    obtain ⟨c, h⟩ := h
    exact call_divmod pins s σ H _ us Q I rv ⟨_, _, rfl, c, fun p hp => landsT w l (RelDs.cons (d := .int _) rfl (RelDs.cons (d := .int _) rfl RelDs.nil)) h hp⟩
  · obtain ⟨v, rfl, hv⟩ := one_of hd
    cases int_of hv
    obtain ⟨c, h⟩ := h
    exact call_str_int pins s σ H _ us Q I rv ⟨_, rfl, c, landS w l h⟩
  · obtain ⟨v, rfl, hv⟩ := one_of hd
    have hv' := RelD.view w hv
    split at h
    · rename_i xs e
      rw [e] at hv'
      obtain ⟨a, vs, rfl, q, r⟩ := hv'
      obtain ⟨ps, rfl, h0, h⟩ := h
      exact call_minp hc hb hu I w rv q r h0 h l
    · exact h.elim
  · obtain ⟨v, rfl, hv⟩ := one_of hd
    have hv' := RelD.view w hv
    split at h
    · rename_i p e
      obtain ⟨c, h⟩ := h
      exact call_rep hg hu pins s σ H _ us Q I rv ⟨v, p, rfl, fun I2 rx => reads_M I2 w (sys_of hb I2) hv' rx e, c, landS w l h⟩
    · exact h.elim
  · obtain ⟨v, rfl, hv⟩ := one_of hd
    cases int_of hv
    exact call_int1 pins s σ H _ us Q I rv (.inl ⟨_, rfl, landI w l h⟩)
  · obtain ⟨v, rfl, hv⟩ := one_of hd
    cases (show v = _ from hv)
    exact call_int1 pins s σ H _ us Q I rv (.inr ⟨_, rfl, landI w l h⟩)
  · obtain ⟨v, rfl, hv⟩ := one_of hd
    have hv' := RelD.view w hv
    split at h
    · rename_i xs e
      rw [e] at hv'
      obtain ⟨a, vs, rfl, q, r⟩ := hv'
      split at h
      · rename_i ns e2
        cases r.ints e2
        exact cr_sortedI pins s σ H _ us Q I rv ⟨a, ns, rfl, .inl q, fun ns' p h1 h2 hp => landsL w l (rel_ints ns') (h ns' h1 h2) hp⟩
      · exact h.elim
    · exact h.elim
  · exact h.elim

/-! ### list(x), new -/
def rLof (K : PySem.W.Frag) : List V → Hp → VK → Prop := fun vs H Q => ∃ F M R x Qd, Wd K F M R H ∧ RelDs K F [x] vs ∧ lofD x M Qd ∧ LandsN K F R Qd Q
theorem call_lof : CallR X (.type "list") (rLof X.K) := by
  intro pins s σ H xs us Q I rv h
  obtain ⟨F, M, R, x, Qd, w, hd, h, l⟩ := h
  obtain ⟨v, rfl, hv⟩ := one_of hd
  have hv' := RelD.view w hv
  unfold lofD at h
  split at h
  · rename_i xs e
    rw [e] at hv'
    obtain ⟨a, vs, rfl, q, r⟩ := hv'
    exact call_list_of pins s σ H _ us Q I rv ⟨a, vs, rfl, .inl (.inl q), fun t ht => l _ _ _ _ _ _ (Same.refl F) w ht r h⟩
  · rename_i xs e
    rw [e] at hv'
    obtain ⟨a, vs, rfl, q, r⟩ := hv'
    exact call_list_of pins s σ H _ us Q I rv ⟨a, vs, rfl, .inr (Same.sqT w.f q), fun t ht => l _ _ _ _ _ _ (Same.refl F) w ht r h⟩
  · exact h.elim

/-! ### isinstance -/
theorem tyx_of {K : PySem.W.Frag} {F : Hp} {M : Mh} {R : Hp} (w : Wd K F M R H) {d : D} {v : V} {t : String} (h : RelD K F d v) (e : tyD (view M d) = some t) : TyX K H v (.type t) := by
  have h' := RelD.view w h
  generalize view M d = d' at h' e
  cases d' with
  | non => cases e; cases (show v = _ from h'); exact .base .non
  | bl b => cases e; cases (show v = _ from h'); exact .base (.bl b)
  | int i => cases e; cases (show v = _ from h'); exact .base (.int i)
  | str x => cases e; cases (show v = _ from h'); exact .base (.str x)
  | tup l =>
    cases e
    obtain ⟨a, vs, rfl, q, r⟩ := h'
    rcases Same.sqT w.f q with (q | ⟨o, q⟩) | ⟨o, its, n, hk, hc, _⟩
    · exact .base (.tup q)
    · exact .fTuple q
    · exact .kTuple hk hc
  | lst l =>
    cases e
    obtain ⟨a, vs, rfl, q, r⟩ := h'
    rcases q with q | ⟨o, q⟩
    · exact .base (.lst q)
    · exact .base (.frz q)
  | dct ks l =>
    cases e
    obtain ⟨a, kvs, rfl, q, _, r⟩ := h'
    rcases q with q | ⟨o, q⟩
    · exact .base (.dK q)
    · exact .fDict q
  | ref a => cases e
  | con w => cases e
  | scr w => cases e
  | exc _ => cases e
  | fn _ => cases e
  | thk _ _ _ _ _ => cases e
theorem call_isiD {ty : String} : CallR X (.builtin "isinstance") (fun vs H Q => ∃ F M R d v t b Qd, vs = [v, .ty ty] ∧ Wd X.K F M R H ∧ RelD X.K F d v ∧ tyD (view M d) = some t ∧ kitB t ty = some b ∧ Qd (.bl b) M ∧ Lands X.K F R Qd Q) := by
  intro pins s σ H xs us Q I rv h
  obtain ⟨F, M, R, d, v, t, b, Qd, rfl, w, hd, et, eb, h, l⟩ := h
  exact call_isi pins s σ H _ us Q I rv ⟨v, .ty ty, .type t, .type ty, b, rfl, .ty ty, tyx_of w hd et, kit_ty eb, landB w l h⟩

/-! ### methods of lists -/
def meId : Me → String
  | .append => "list.append" | .pop => "list.pop" | .popAt => "list.pop" | .extend => "list.extend" | .reverse => "list.reverse" | .clear => "list.clear"
  | .insert => "list.insert" | .index => "list.index" | .count => "list.count" | .remove => "list.remove"
def meN : Me → Str
  | .append => "append" | .pop => "pop" | .popAt => "pop" | .extend => "extend" | .reverse => "reverse" | .clear => "clear"
  | .insert => "insert" | .index => "index" | .count => "count" | .remove => "remove"
def rMe (K : PySem.W.Frag) (m : Me) : V → List V → Hp → VK → Prop := fun x vs H Q => ∃ F M R d ds Qd, Wd K F M R H ∧ RelD K F d x ∧ RelDs K F ds vs ∧ meD m d ds M Qd ∧ Lands K F R Qd Q
/-- extend, by a list of any kind -/
def rExtR : V → List V → Hp → VK → Prop := fun x vs H Q => ∃ l b xs zs, x = .ref l ∧ vs = [.ref b] ∧ H l = some (.lst xs) ∧ Rd H b (.lst zs) ∧ xs.length + zs.length ≤ sizeLine ∧ Q .non (upd H l (.lst (xs ++ zs)))
theorem mt_extR : MtR X "list.extend" rExtR := by
  intro pins s σ H x vs v us Q I rx rv h
  obtain ⟨l, b, xs, zs, rfl, rfl, hH, hB, hz, q⟩ := h
  cases rx
  obtain ⟨u, rfl, ru⟩ := rv.one
  cases ru
  obtain ⟨z, its, n, r, hl, e⟩ := I.lstM hH
  obtain ⟨z2, its2, n2, r2, e2⟩ := hB.ok I.hok
  have hl2 := r2.length
  have hsz : its.toArray.size + its2.toArray.size ≤ sizeLine := by rw [List.size_toArray, List.size_toArray]; omega
  have hlong : ¬ (!its.toArray.isEmpty && Builtin.List.listTooLong (its.toArray.size + its2.toArray.size)) = true := by
    rw [notLongL hsz, Bool.and_false]
    exact Bool.false_ne_true
  refine call_meets F.slot_list_extend ⟨_, e, rfl⟩ F.entry_list_extend (F.args_list_extend_2 _ _)
    (AutoSeq1.list_extend_list_list_0 l its.toArray n b its2.toArray n2 hlong (by rw [List.size_toArray]; omega) (by omega)) ⟨e, e2, ?_⟩
  refine ⟨.non, _, I.lset (its' := its ++ its2) hH e (by simp) (r.append r2) ?_, rfl, q⟩
  rw [List.length_append]
  omega
/-- count, flat items -/
theorem countP_rel {α β : Type} (p : α → Bool) (q : β → Bool) : ∀ (a : List α) (b : List β), a.length = b.length → (∀ (i : Nat) (x : α) (y : β), a[i]? = some x → b[i]? = some y → p x = q y) → a.countP p = b.countP q
  | [], [], _, _ => rfl
  | [], _ :: _, h, _ => by cases h
  | _ :: _, [], h, _ => by cases h
  | x :: a, y :: b, h, k => by
    have e := k 0 x y rfl rfl
    have ih := countP_rel p q a b (by simpa using h) fun i x' y' hx hy => k (i + 1) x' y' (by simpa using hx) (by simpa using hy)
    rw [List.countP_cons, List.countP_cons, ih, e]
def rCount : V → List V → Hp → VK → Prop := fun x vs H Q => ∃ l xs y, x = .ref l ∧ vs = [y] ∧ H l = some (.lst xs) ∧ flatV y = true ∧ xs.all flatV = true ∧ Q (.int ((xs.countP fun z => eqV z y : Nat) : Int)) H
theorem mt_count : MtR X "list.count" rCount := by
  intro pins s σ H x vs v us Q I rx rv h
  obtain ⟨l, xs, y, rfl, rfl, hH, fy, fxs, q⟩ := h
  cases rx
  obtain ⟨u, rfl, ru⟩ := rv.one
  obtain ⟨z, its, n, r, hl, e⟩ := I.lstM hH
  refine call_meets F.slot_list_count ⟨_, e, rfl⟩ F.entry_list_count (F.args_list_count_2 _ _) (SeqAt.list_countAt l its.toArray n none #[] u (eqU y)) ⟨e, fun u' hu' => mem_eqAt ru fy r fxs u' (by simpa using hu'), ?_⟩
  have ec : its.toArray.toList.countP (eqU y) = xs.countP fun z => eqV z y := by
    refine countP_rel _ _ _ _ hl.symm fun i a b ha hb => ?_
    obtain ⟨w, hw, rw'⟩ := r.get hb
    have ha : its[i]? = some a := ha
    rw [ha] at hw
    cases hw
    exact eqU_of rw' (List.all_eq_true.mp fxs b (List.mem_of_getElem? hb))
  rw [ec]
  exact ⟨.int ((xs.countP fun z => eqV z y : Nat) : Int), H, I.tok _, ⟨_, rfl⟩, q⟩
theorem mt_any (m : Me) : MtR X (meId m) (rMe X.K m) := by
  intro pins s σ H x vs v us Q I rx rv h
  obtain ⟨F, M, R, d, ds, Qd, w, hx, hd, h, l⟩ := h
  unfold meD at h
  split at h
  · rename_i a
    cases (show x = _ from hx)
    split at h
    · rename_i xs e
      obtain ⟨hF, ob, hH, rc⟩ := w.m _ _ e
      obtain ⟨ys, rfl, r⟩ := rc
      have hl := r.length
      have fin : ∀ {z : V} {dz : D} {l' : List D} {ys' : List V}, RelDs X.K F l' ys' → RelD X.K F dz z → Qd dz (mset M a (.lst l')) → Q z (upd H a (.lst ys')) := fun {z dz l' ys'} r' rz q =>
        l dz _ F z _ (Same.refl F) (w.write (c := .lst l') e ⟨_, rfl, r'⟩) rz q
      split at h
      · obtain ⟨y, rfl, hy⟩ := one_of hd
        obtain ⟨c, h⟩ := h
        exact mt_append pins s σ H _ _ v us Q I rx rv ⟨a, ys, y, rfl, rfl, hH, by omega, fin (dz := .non) (r.append (RelDs.cons hy RelDs.nil)) rfl h⟩
      · cases (show vs = _ from hd)
        split at h
        · rename_i dz ez
          obtain ⟨z, e2, rz⟩ := r.get ez
          rw [hl] at e2
          exact mt_pop pins s σ H _ _ v us Q I rx rv ⟨a, ys, z, rfl, rfl, hH, e2, fin r.dropLast rz h⟩
        · exact h.elim
      · obtain ⟨y, rfl, hy⟩ := one_of hd
        cases int_of hy
        obtain ⟨⟨c1, c2⟩, h⟩ := h
        split at h
        · rename_i k ek
          split at h
          · rename_i dz ez
            obtain ⟨z, e2, rz⟩ := r.get ez
            rw [hl] at ek
            exact mt_popAt pins s σ H _ _ v us Q I rx rv ⟨a, ys, _, k, z, rfl, rfl, hH, c1, c2, ek, e2, fin (r.eraseIdx k) rz h⟩
          · exact h.elim
        · exact h.elim
      · obtain ⟨y, rfl, hy⟩ := one_of hd
        have hy' := RelD.view w hy
        split at h
        · rename_i zs ez
          rw [ez] at hy'
          obtain ⟨b, vs', rfl, q, r2⟩ := hy'
          have hl2 := r2.length
          exact mt_extR pins s σ H _ _ v us Q I rx rv ⟨a, b, ys, vs', rfl, rfl, hH, q, by omega, fin (dz := .non) (r.append r2) rfl h.2⟩
        · exact h.elim
      · cases (show vs = _ from hd)
        exact mt_reverse pins s σ H _ _ v us Q I rx rv ⟨a, ys, rfl, rfl, hH, fin (dz := .non) r.reverse rfl h⟩
      · cases (show vs = _ from hd)
        exact mt_clear pins s σ H _ _ v us Q I rx rv ⟨a, ys, rfl, rfl, hH, fin (dz := .non) RelDs.nil rfl h⟩
      · obtain ⟨y, rfl, hy⟩ := one_of hd
        obtain ⟨⟨f1, f2⟩, h⟩ := h
        refine mt_count pins s σ H _ _ v us Q I rx rv ⟨a, ys, y, rfl, rfl, hH, flat_of hy f1, flats_of r f2, ?_⟩
        have e : ys.countP (fun z => eqV z y) = xs.countP (fun z => eqF z _) := countP_rel _ _ _ _ hl.symm fun i p q hp hq => by
          obtain ⟨w', hw', rw'⟩ := r.get hq
          rw [hp] at hw'
          cases hw'
          exact eqV_of rw' hy (List.all_eq_true.mp f2 q (List.mem_of_getElem? hq)) f1
        rw [e]
        exact landI w l h
      · exact h.elim
    · exact h.elim
  · exact h.elim
/-! ### calls amid no repr -/
/-- a def's promise where no repr is under way -/
structure FnG (P : Program) (w : World) (K : PySem.W.Frag) (mg : Str → Option Value) (B : Heap) (Z : CXT) (k : Nat) (f : Addr) (fd : FuncData) (ps : List Str) (sp : Sp) : Prop where
  len : ∀ vs H Q E, sp vs H Q E → vs.length = ps.length
  go : ∀ (A : Around) (O : List Env) (s : Shared) (H : Hp) (as : Args) (us : List Value) (vs : List V) (Q : VK) (E : XK), A.guards = some [] → Room k A → Env0 P w K mg B A O s H → BindsTo s fd as (ps.zip us) → Vals vs us → sp vs H Q E → codeAny (model P w) A (.call (.ref f) as) (CR Z O P w H s Q E) s
theorem FnG.weak {P : Program} {w : World} {K : PySem.W.Frag} {mg : Str → Option Value} {B : Heap} {Z : CXT} {k : Nat} {f : Addr} {fd : FuncData} {ps : List Str} {sp sp' : Sp} (F : FnG P w K mg B Z k f fd ps sp) (h : ∀ vs H Q E, sp' vs H Q E → sp vs H Q E) : FnG P w K mg B Z k f fd ps sp' :=
  ⟨fun _ _ _ _ q => F.len _ _ _ _ (h _ _ _ _ q), fun A O s H as us vs Q E g r e b v q => F.go A O s H as us vs Q E g r e b v (h _ _ _ _ q)⟩
section
variable {Z : CXT} {k : Nat} {f : Addr} {fd : FuncData} {ps : List Str} {sp : Sp} {E : L2.St → XK} {nm : Str} {p pos : Pos} {e : Expr} {es : List Expr} {t : TA}
theorem call_G (gd : X.A.guards = some []) (F : FnG X.prog X.w X.K X.mg X.base Z k f fd ps sp) (rm : Room k X.A) (bi : Binds X.K fd ps []) (ht : ∀ σ, PassesAt Z X σ (E σ)) (hg : Gl X nm) (hm : X.mg nm = some (.ref f)) (kp : PySem.W.keepIn X.K (.ref f) = true) (ha : PA X (e :: es) t) (nd : (nm == ("__debug__" : Str)) = false) (st : starEach (e :: es) X.env = (false, eval e X.env) :: starEach es X.env) (pl : (backTo pos (starEach es X.env)).any (·.1) = false) :
    PE X (.Call (.Name nm p) (e :: es) [] pos) (tCallS sp E t) := by
  constructor
  intro pins s0 σ H Q I0 h0
  refine wpAny_Call_Name_kw (ld_glob I0 hg hm (PySem.W.callWith_K (h₀ := X.base) I0.ok.mod.kin kp (thn (ha.run pos pins s0 σ H _ I0 h0) fun us s vv => ?_) st pl) nd)
  obtain ⟨vs, H, I, r, q⟩ := vv
  refine ⟨I.kIn, ?_⟩
  have lu : (us ++ []).length = ps.length := by rw [List.append_nil, ← r.length]; exact F.len _ _ _ _ q
  have bb := bi s us I.kIn lu
  rw [List.append_nil] at bb
  refine wpAny_call (codeAny_mono (F.go X.A X.stack s H _ us vs Q (E σ) gd rm I.env0 bb r q) fun o s' hq => ?_)
  match o, hq with
  | .error x, hq => exact ht σ pins H s x s' I hq
  | .ok (.ret u), hq => exact I.after hq
  | .ok .next, hq => exact hq.elim
  | .ok .brk, hq => exact hq.elim
  | .ok .cont, hq => exact hq.elim
/-- the same without arguments -/
theorem call_G0 (gd : X.A.guards = some []) (F : FnG X.prog X.w X.K X.mg X.base Z k f fd ps sp) (rm : Room k X.A) (bi : Binds X.K fd ps []) (ht : ∀ σ, PassesAt Z X σ (E σ)) (hg : Gl X nm) (hm : X.mg nm = some (.ref f)) (kp : PySem.W.keepIn X.K (.ref f) = true) (nd : (nm == ("__debug__" : Str)) = false) :
    PE X (.Call (.Name nm p) [] [] pos) (tCallS sp E tNil) := by
  constructor
  intro pins s0 σ H Q I0 h0
  refine wpAny_Call_Name_kw (ld_glob I0 hg hm (PySem.W.callWith_K0 I0.kIn kp ?_) nd)
  have q : sp [] H Q (E σ) := h0
  have lu : ([] : List Value).length = ps.length := F.len _ _ _ _ q
  have bb := bi s0 [] I0.kIn lu
  refine wpAny_call (codeAny_mono (F.go X.A X.stack s0 H _ [] [] Q (E σ) gd rm I0.env0 bb .nil q) fun o s' hq => ?_)
  match o, hq with
  | .error x, hq => exact ht σ pins H s0 x s' I0 hq
  | .ok (.ret u), hq => exact I0.after hq
  | .ok .next, hq => exact hq.elim
  | .ok .brk, hq => exact hq.elim
  | .ok .cont, hq => exact hq.elim
end
end
end PD

/-! PD: list(range(i, j)) with bounds of any size -/
namespace PD
open PySem PySem.Spec PyProof.Rows L2
variable [Tb]
section
variable {prog : Program} {w : World} {A : Around} {E : Value → Shared → Prop} {s : Shared}
def RgIt (i : Int) : Nat → Value → Prop := fun k v => ∃ t, v = .int (i + k * 1) t
/-- the walk of a long range fills an empty list -/
theorem grow_long {R : Result → Shared → Prop} {r S : Addr} {i j : Int} {t u v : Tok} {n c0 : Nat} {res : Value} (hd : A.handled = none)
    (er : IsRange s.heap r i j 1 t u v) (big : Builtin.Range.small i j 1 = false) (sz : Builtin.Range.rangeSize i j 1 = n) (le : n ≤ 2 ^ 24)
    (eS : s.heap.get? S = some { cls := .type "list", data := .seq #[] c0 })
    (fin : ∀ g k acc c, (∀ x o, x ≠ S → s.heap.get? x = some o → g.get? x = some o) →
      g.get? S = some { cls := .type "list", data := .seq acc c } → ItemsOf (RgIt i) acc n → R (.ok (.ret res)) { s with heap := g, toks := k }) :
    wpAny (model prog w) A.in1 (Builtin.List.listExtendWith (.ref S) (.ref r) res)
      (fun f z => match f with
        | .done f => R (.ok f) z
        | .again c => c.quiet = true ∧ codeAny (model prog w) A c R z)
      (fun e z => R (.error e) z) s := by
  have ne1 : S ≠ r := by
    intro e
    rw [e, er] at eS
    simp at eS
  have ltS := Heap.lt_size eS
  have ne2 : S ≠ s.heap.objs.size := Nat.ne_of_lt ltS
  have W := (Walks.longrange (prog := prog) (w := w) (A := A.in1) hd s.heap.objs.size i 1 n).toS
  have loop : ∀ (g : Heap) (c k : Nat), IsLongIter g s.heap.objs.size (i + ((0 : Nat) : Int) * 1) ((n : Int) - ((0 : Nat) : Int)) 1 →
      (∀ x o, x ≠ S → s.heap.get? x = some o → g.get? x = some o) → g.get? S = some { cls := .type "list", data := .seq #[] c } →
      codeAny (model prog w) A (.builtin "list.extend.loop" ⟨[.ref S, .ref s.heap.objs.size, res], []⟩) R { s with heap := g, toks := k } := by
    intro g c k h1 h2 h3
    refine codeAny_extend_loopS W (by rw [sizeLine_eq]; omega) S (fun m => ne2 (List.mem_singleton.mp m)) res n 0 _ #[] c rfl (Nat.zero_le _) h1 h3 (ItemsOf.nil _) ?_
    intro z acc c' mv q1 q2
    rw [Moved.eq_with mv]
    refine fin z.heap z.toks acc c' (fun x o hx e => mv.heap x o (fun m => ?_) (h2 x o hx e)) q1 q2
    rcases List.mem_cons.mp m with m | m
    · exact hx m
    · have := Heap.lt_size e
      rw [List.mem_singleton.mp m] at this
      exact Nat.lt_irrefl _ this
  unfold Builtin.List.listExtendWith
  refine wpAny_bind (wpAny_typeOf (T := "range") ⟨_, er, rfl⟩ ?_)
  have c1 : Builtin.List.listSameRef (.ref S) (.ref r) = false := by
    simp [Builtin.List.listSameRef, ne1]
  have c2 : (Value.type "range" == Value.type "list") = false ∧ (Value.type "range" == Value.type "tuple") = false := ⟨by decide, by decide⟩
  simp only [c1, c2.1, c2.2, Bool.or_false, Bool.false_eq_true, if_false]
  refine wpAny_bind (wpAny_pyIter_longrange er big ?_)
  have up : ∀ x o, s.heap.get? x = some o → (s.heap.push { cls := .type "longrange_iterator", data := .fields #[rawInt i, rawInt (Builtin.Range.rangeSize i j 1), rawInt 1] }).get? x = some o := fun x o e => Heap.get?_push_of_some _ e
  have it : IsLongIter (s.heap.push { cls := .type "longrange_iterator", data := .fields #[rawInt i, rawInt (Builtin.Range.rangeSize i j 1), rawInt 1] }) s.heap.objs.size (i + ((0 : Nat) : Int) * 1) ((n : Int) - ((0 : Nat) : Int)) 1 := by
    unfold IsLongIter
    rw [sz]
    simpa using Heap.get?_push_size s.heap rfl
  generalize hg : s.heap.push { cls := .type "longrange_iterator", data := .fields #[rawInt i, rawInt (Builtin.Range.rangeSize i j 1), rawInt 1] } = g at up it ⊢
  refine wpAny_bind (wpAny_holding (wpAny_hint_range (n := n) (up _ _ er) sz le ?_))
  have e1 := up _ _ eS
  refine wpAny_ite_split (fun _ => ?_) (fun _ => wpAny_pure ⟨plainId_quiet F.plain_extend_loop _, loop _ _ _ it (fun x o _ e => up x o e) e1⟩)
  refine wpAny_bind (wpAny_rule (wpAny_bind ?_))
  show wpAny _ _ (updateSeq S (·.push .none) >>= fun _ =>
    updateSeq S (·.pop)) _ _ _
  refine wpAny_bind (wpAny_updateSeq e1 rfl ?_)
  have e2 := Heap.get?_update_self (Obj.mapSeq (·.push Value.none)) e1 rfl
  refine wpAny_updateSeq (hz := by seq_fits) e2 rfl ?_
  have e3 := Heap.get?_update_self (Obj.mapSeq (·.pop)) e2 rfl
  have oth : ∀ x o, x ≠ S → g.get? x = some o → ((g.update S (Obj.mapSeq (·.push Value.none))).update S (Obj.mapSeq (·.pop))).get? x = some o := fun x o hx e =>
    (Heap.get?_update_other _ _ (Ne.symm hx)).trans ((Heap.get?_update_other _ _ (Ne.symm hx)).trans e)
  exact wpAny_pure ⟨plainId_quiet F.plain_extend_loop _, loop _ _ _ (oth _ _ (Ne.symm ne2) it) (fun x o hx e => oth x o hx (up x o e)) e3⟩
theorem init_long {R : Result → Shared → Prop} {r S : Addr} {i j : Int} {t u v : Tok} {n : Nat} (hd : A.handled = none)
    (er : IsRange s.heap r i j 1 t u v) (big : Builtin.Range.small i j 1 = false) (sz : Builtin.Range.rangeSize i j 1 = n) (le : n ≤ 2 ^ 24)
    (eS : s.heap.get? S = some { cls := .type "list", data := .seq #[] })
    (fin : ∀ g k acc c, (∀ x o, x ≠ S → s.heap.get? x = some o → g.get? x = some o) →
      g.get? S = some { cls := .type "list", data := .seq acc c } → ItemsOf (RgIt i) acc n → R (.ok (.ret .none)) { s with heap := g, toks := k }) :
    wpAny (model prog w) A.in1 (Builtin.«list.__init__» ⟨[.ref S, .ref r], []⟩)
      (fun f z => match f with
        | .done f => R (.ok f) z
        | .again c => c.quiet = true ∧ codeAny (model prog w) A c R z)
      (fun e z => R (.error e) z) s := by
  have ne1 : S ≠ r := by
    intro e
    rw [e, er] at eS
    simp at eS
  show wpAny _ _ (Builtin.List.listItems (.ref S) >>= fun old =>
    Builtin.List.listUpdate (.ref S) (fun _ => #[]) >>= fun _ =>
    letGo old.toList.reverse >>= fun _ =>
    Builtin.List.listExtendWith (.ref S) (.ref r) .none) _ _ s
  refine wpAny_bind ?_
  unfold Builtin.List.listItems
  refine wpAny_bind (wpAny_seqItems eS rfl (wpAny_pure ?_))
  refine wpAny_bind (m := updateSeq S (fun _ => #[])) (wpAny_updateSeq eS rfl ?_)
  have e2 := Heap.get?_update_self (Obj.mapSeq (fun _ => (#[] : Array Value))) eS rfl
  have oth : ∀ x o, x ≠ S → s.heap.get? x = some o → (s.heap.update S (Obj.mapSeq (fun _ => (#[] : Array Value)))).get? x = some o :=
    fun x o hx e => (Heap.get?_update_other _ _ (Ne.symm hx)).trans e
  refine wpAny_bind (m := letGo (#[] : Array Value).toList.reverse) (wpAny_letGo ?_)
  refine grow_long hd (oth _ _ (Ne.symm ne1) er) big sz le e2 fun g k acc c h1 h2 h3 => ?_
  exact fin g k acc c (fun x o hx e => h1 x o hx (oth x o hx e)) h2 h3
theorem call_list_any {Q : Value → Shared → Prop} {r : Addr} {i j : Int} {t u v : Tok} {n : Nat} (hd : A.handled = none)
    (er : IsRange s.heap r i j 1 t u v) (sz : Builtin.Range.rangeSize i j 1 = n) (le : n ≤ 2 ^ 24)
    (fin : ∀ g k acc c, (∀ x o, s.heap.get? x = some o → g.get? x = some o) →
      g.get? s.heap.objs.size = some { cls := .type "list", data := .seq acc c } → ItemsOf (RgIt i) acc n → Q (.ref s.heap.objs.size) { s with heap := g, toks := k }) :
    wpAny (model prog w) A (call (.type "list") [.ref r]) Q E s := by
  cases big : Builtin.Range.small i j 1 with
  | true => exact call_list_range hd er big sz le fin
  | false =>
    refine callType_codes (Q₁ := fun o z => o = .ref s.heap.objs.size ∧ z = { s with heap := s.heap.push { cls := .type "list", data := .seq #[] } })
      F.called_list (F.typeCall_list_1 _) F.entry_list_init (code_list_new _ ⟨rfl, rfl⟩) fun o z hz => ?_
    obtain ⟨rfl, rfl⟩ := hz
    have eS : (s.heap.push { cls := .type "list", data := .seq #[] }).get? s.heap.objs.size = some { cls := .type "list", data := .seq #[] } :=
      Heap.get?_push_size _ rfl
    refine ⟨⟨_, eS, rfl⟩, F.args_list_init_2 _ _, ?_⟩
    refine init_long (A := A.in1) hd (Heap.get?_push_of_some _ er) big sz le eS fun g k acc c h1 h2 h3 => ?_
    exact ⟨rfl, fin g k acc c (fun x o e => h1 x o (Nat.ne_of_lt (Heap.lt_size e)) (Heap.get?_push_of_some _ e)) h2 h3⟩
end
section
variable {X : Cx} {e : Expr} {te : L2.St → Hp → (Int → Int → Hp → Prop) → Prop}
def tLstAny (te : L2.St → Hp → (Int → Int → Hp → Prop) → Prop) : TE := fun σ H Q => te σ H fun a b H1 =>
  (b - a).toNat ≤ 2 ^ 24 ∧ ∀ q, H1 q = none → Q (.ref q) (upd H1 q (.lst (rgV a b)))
theorem pe_listAny {p pos : Pos} (hc : X.calm = true) (hg : Gl X "list") (hm : X.mg "list" = none) (he : PRg X e te)
    (na : starEach [e] X.env = (false, eval e X.env) :: starEach [] X.env := by rfl) : PE X (.Call (.Name "list" p) [e] [] pos) (tLstAny te) := by
  refine ⟨fun pins s σ H Q I h => ?_⟩
  refine Call_ (ld_blt I hg hm boot_list ?_)
  refine PyProof.Rows.callWith_type1 (args_cons (thn (he pins s σ H _ I h) ?_) na) na
  rintro _ s1 ⟨r, a, b, t, u, v, H1, rfl, hr, I1, le, q⟩
  refine args_nil (call_list_any (n := (b - a).toNat) (I1.ok.hd hc) hr (rangeSize_nat a b) le ?_)
  intro g k acc c h1 h2 h3
  have fr := I1.hok.fresh (Nat.le_refl s1.heap.objs.size)
  refine ⟨.ref s1.heap.objs.size, upd H1 s1.heap.objs.size (.lst (rgV a b)), I1.laid h1 (Nat.le_refl _) ?_, rfl, q _ fr⟩
  refine (⟨?_, acc.toList, c, vals_rg h3, ?_⟩ : ObjOk X.prog X.w _ _ _ (.lst (rgV a b)))
  · rw [rgV_length, sizeLine_eq]
    omega
  · rw [Array.toArray_toList]
    exact h2
end
end PD

set_option maxHeartbeats 4000000
/-! PD: an exception that is caught by name and noted in another name -/
namespace PD
open PySem PySem.Spec PyProof.Rows L2
variable [Tb]
def wNote (K : PySem.W.Frag) (c : Value) (i : Nat) (ts : Addr → TS) (Wo : WX) (D : Ends) : WX := fun cls d σ H =>
  ∃ b, PySem.W.exmOne K cls c = some b ∧
    (b = true → ∀ a, H a = none → ts a ⟨fun τ G => D.nx (τ.set i none) G, D.rt, fun τ G => D.bk (τ.set i none) G, fun τ G => D.ct (τ.set i none) G⟩ (σ.set i (some (.ref a))) (upd H a (ExcO a cls d))) ∧
    (b = false → Wo cls d σ H)
section
variable {X : Cx} {pins : List (Addr × Obj)} {σ : L2.St} {H : Hp} {s s' : Shared}
theorem toSuite (I : L2.Inv X pins σ H s) (a : Addr) : L2.Inv (X.suite a X.pn) pins σ H s where
  ok := I.ok.suite a X.pn
  os := I.os
  bare := I.bare
  base := I.base
  loc := I.loc
  cell := I.cell
  free := I.free
  freeC := I.freeC
  pin := I.pin
  hok := I.hok
  len := I.len
theorem ofSuite {a : Addr} (ok : X.Ok) (I : L2.Inv (X.suite a X.pn) pins σ H s) : L2.Inv X pins σ H s where
  ok := ok
  os := I.os
  bare := I.bare
  base := I.base
  loc := I.loc
  cell := I.cell
  free := I.free
  freeC := I.freeC
  pin := I.pin
  hok := I.hok
  len := I.len
/-- the state behind the catch, the exception tracked -/
theorem noted {sI : Shared} {B h : Heap} {a : Addr} {cls : Value} {d : Option Addr} {o : Obj} {vs : Array Value} (J : L2.Inv X pins σ H sI)
    (nb : ∀ b u, sI.heap.get? b = some u → b ∉ frs X.stack → B.get? b = some u) (st : B.StaysIn h) (up : sI.heap.UpToSlots h) (os : s'.os = sI.os) (ag : AllBare s'.gens)
    (nB : B.get? a = none) (nf : a ∉ frs X.stack) (na : H a = none) (e : h.get? a = some o) (z : Zc cls d o) (f : o.data = .fields vs) :
    L2.Inv X pins σ (upd H a (ExcO a cls d)) { s' with heap := h } := by
  obtain ⟨G, g1, g2⟩ := restrict h fun b => decide (b ≠ a)
  have gk : ∀ b, b ≠ a → G.get? b = h.get? b := fun b hb => g1 b (decide_eq_true hb)
  have ga : G.get? a = none := g2 a (by simp)
  have nI : sI.heap.get? a = none := by
    cases q : sI.heap.get? a with
    | none => rfl
    | some u =>
      rw [nb a u q nf] at nB
      cases nB
  have stG : B.StaysIn G := fun b u q => (gk b fun y => by rw [y, nB] at q; cases q).trans (st b u q)
  have upG : sI.heap.UpToSlots G := fun b u q => by
    have ne : b ≠ a := fun y => by rw [y, nI] at q; cases q
    intro x
    rw [gk b ne]
    exact up b u q x
  have JG : L2.Inv X pins σ H { s' with heap := G } := J.landed nb stG upG os ag
  refine JG.laidN (h' := h) (t' := s'.toks) (fun b u q => ?_) ga na (excO_ok e z f)
  have ne : b ≠ a := fun y => by
    have q : G.get? b = some u := q
    rw [y, ga] at q
    cases q
  exact (gk b ne).symm.trans q
end
section
variable {X : Cx} {x n : Str} {c : Value} {i : Nat} {body su : List Stmt} {b0 : Stmt} {np pos pos' : Pos} {tb : WX → TS} {ts : Addr → TS} {Wo : WX}
/-- try: body / except x as n: suite, the exception tracked in the suite and behind it -/
theorem ps_try_note (hs : X.stack = X.env :: X.outer) (hf : X.env.frame = some X.env.locals) (hN : X.N.Nodup) (hi : X.N[i]? = some n) (hln : X.env.kindOf n = some .local)
    (hc : Names X x c) (tk : Takes X Wo)
    (hb : ∀ (W : WX) (pn : List (Addr × Obj)) (xe : Value → Shared → Prop), Takes (X.tr pn xe) W → PassesOwn (model X.prog X.w) X.A X.env xe → PSs (X.tr pn xe) body (tb W))
    (hu : ∀ a : Addr, PSs (X.suite a X.pn) (b0 :: su) (ts a)) :
    PS X (.Try body [.ExceptHandler (some (.Name x np)) (some n) (b0 :: su) pos'] [] [] pos) (fun D σ H => tb (wNote X.K c i ts Wo D) D σ H) := by
  refine ⟨fun pins s σ H D I h => ?_⟩
  have ok := I.ok
  have hfr : X.A.frames = some (X.env :: X.outer) := ok.frames.trans (congrArg some hs)
  refine wpAny_Try_except ?_
  have run := (hb (wNote X.K c i ts Wo D) (X.pn ++ pins) (fun e s₁ =>
    wpAny (model X.prog X.w) X.A (noteFrame e X.env) (fun _ s₂ =>
      wpAny (model X.prog X.w) X.A (setFlight e none) (fun _ s₃ =>
        wpAny (model X.prog X.w) X.A (handleBy e X.env [.ExceptHandler (some (.Name x np)) (some n) (b0 :: su) pos']) (SP X pins D) X.xe s₃)
        X.xe s₂) X.xe s₁) ?air PassesOwn.looking).run [] s σ H D (I.toTry _) h
  case air =>
    intro u s' xx
    obtain ⟨a, B, sI, pins', τ, G, cls, d, rfl, J', nb, up, sky, na, os, ag, b, hb1, hyes, hno⟩ := xx
    have J : L2.Inv X pins τ G sI := J'.ofTry ok
    have sky : Sky B (X.env :: X.outer) a (Zc cls d) X.env.locals s'.heap := by
      rw [← hs]
      exact sky
    show wpAny (model X.prog X.w) X.A (noteFrame (.ref a) X.env) _ _ _
    refine Sky.land Zc.steady hfr hf sky fun h3 fl3 up3 => ?_
    have U3 := up.trans up3
    have J3 : L2.Inv X pins τ G { s' with heap := h3 } := J.landed nb fl3.1 U3 os ag
    obtain ⟨o3, v3, e3, z3, d3⟩ := fl3.there
    have nS : a ∉ frs X.stack := by
      rw [hs]
      intro hm
      obtain ⟨_, o', e', hnf⟩ := fl3.2.2.1.mem hm
      rw [e3] at e'
      cases e'
      exact hnf _ d3
    have nL : a ≠ X.env.locals := fun y => nS (by
      rw [hs]
      exact List.mem_filterMap.mpr ⟨X.env, List.mem_cons_self, by rw [hf, y]⟩)
    refine wpAny_handleBy_cons (codeAny_handlers_test ?_) (by intro q; cases q)
    have LT : PySem.W.Looks (model X.prog X.w) h3 (typeOf (.ref a)) cls := fun A Q E s k q =>
      wpAny_typeOf_ref (k _ _ e3) (by rw [z3.1]; exact q)
    have LM := PySem.W.exm_one (M := model X.prog X.w) (J3.kIn) LT hb1
    have test : ∀ {Q : Value → Shared → Prop} {E : Value → Shared → Prop}, Q c { s' with heap := h3 } →
        wpAny (model X.prog X.w) (X.A.mark (some (.ref a))) (eval (.Name x np) X.env) Q E { s' with heap := h3 } := by
      intro Q E q
      obtain ⟨hg, hdb, m1 | ⟨m1, m2, m3⟩⟩ := hc
      · exact ld_glob (X := X.suite a X.pn) (toSuite J3 a) hg m1 q hdb
      · exact ld_blt (X := X.suite a X.pn) (toSuite J3 a) hg m1 m2 q m3 hdb
    refine test (LM.here ?_)
    cases b with
    | true =>
      refine codeAny_handlers_suite_as ?_
      refine HandSPX.lands_againZ fl3 fun h4 fl4 up4 => ?_
      obtain ⟨o4, v4, e4, z4, d4⟩ := fl4.there
      have J4 : L2.Inv X pins τ (upd G a (ExcO a cls d)) { s' with heap := h4 } := noted J nb fl4.1 (U3.trans up4) os ag fl4.2.1 nS na e4 z4 d4
      refine store_ok (X := X.suite a X.pn) (v := .ref a) (toSuite J4 a) hN hi (.inl hln) rfl (fun s5 S5 => ?_) (.inr hln)
      refine wpAny_mono ((hu a).run pins s5 _ _ _ S5 (hyes rfl a na)) (fun f s6 q6 => ?_) (fun _ _ y => False.elim y)
      have fin : ∀ {τ6 : L2.St} {G6 : Hp} {Q : Shared → Prop}, L2.Inv (X.suite a X.pn) pins τ6 G6 s6 → (∀ s7, L2.Inv X pins (τ6.set i none) G6 s7 → Q s7) →
          wpAny (model X.prog X.w) X.A (do bindName X.env n .none; unbindBehindTheSuite X.env n pos') (fun _ s7 => Q s7) X.xe s6 :=
        fun S6 hq => gone_ok (ofSuite ok S6) hN hi hln hq
      cases f with
      | next =>
        obtain ⟨τ6, G6, S6, q⟩ := q6
        exact fin S6 fun _ J7 => ⟨_, _, J7, q⟩
      | brk =>
        obtain ⟨τ6, G6, S6, q⟩ := q6
        exact fin S6 fun _ J7 => ⟨_, _, J7, q⟩
      | cont =>
        obtain ⟨τ6, G6, S6, q⟩ := q6
        exact fin S6 fun _ J7 => ⟨_, _, J7, q⟩
      | ret u =>
        obtain ⟨v6, τ6, G6, S6, r6, q⟩ := q6
        exact fin S6 fun _ J7 => ⟨_, _, _, J7, r6, q⟩
    | false =>
      show wpAny _ X.A (handleBy (.ref a) X.env []) _ _ _
      refine wpAny_handleBy_nil ?_
      obtain ⟨_, _, _, oe, vs, T, oT, tv, he, hz, hd, h1, _⟩ := id fl3
      unfold PySem.passOn
      refine wpAny_bind (wpAny_field he hd h1 ?_)
      rw [if_neg (show ¬ ((Value.ref T == Value.none) = true) from by simp)]
      have fin : wpAny (model X.prog X.w) X.A (setFlight (.ref a) X.env.frame)
          (fun _ s4 => wpAny (model X.prog X.w) X.A (throw (.ref a) : Sem Flow) (SP X pins D) X.xe s4) X.xe { s' with heap := h3 } := by
        rw [hf]
        refine HandSPX.setFlight_upZ fl3 fun h4 hh4 up4 => wpAny_throw (tk _ _ ?_)
        refine ⟨a, B, sI, pins, τ, G, cls, d, rfl, J, nb, U3.trans up4, .inr (.inr ?_), na, os, ag, hno rfl⟩
        rw [hs]
        exact hh4
      first
        | exact wpAny_bind (wpAny_pure (wpAny_bind fin))
        | exact wpAny_bind fin
  refine wpAny_mono run (fun f s1 hsp => ?_) (fun e s1 he => he)
  cases f with
  | next =>
    obtain ⟨τ, G, J, q⟩ := hsp
    exact wpAny_execs_nil ⟨τ, G, J.ofTry ok, q⟩
  | brk =>
    obtain ⟨τ, G, J, q⟩ := hsp
    exact ⟨τ, G, J.ofTry ok, q⟩
  | cont =>
    obtain ⟨τ, G, J, q⟩ := hsp
    exact ⟨τ, G, J.ofTry ok, q⟩
  | ret u =>
    obtain ⟨v, τ, G, J, r, q⟩ := hsp
    exact ⟨v, τ, G, J.ofTry ok, r, q⟩
end
end PD

/-! PD: enumerate of a tuple -/
namespace PD
open PySem PySem.Spec PyProof.Rows L2
variable [Tb]
theorem drawsTuple {prog : Program} {w : World} {A : Around} (hh : A.handled = none) (it l : Addr) (hne : l ≠ it) (items : Array Value) :
    Draws prog w A it [it, l] items.size (fun i v => items[i]? = some v) (fun i h => h.IsTupleIter it l i ∧ h.IsTuple l items) where
  live := fun _ _ st => let ⟨o, ho, _⟩ := st.1; ⟨o, ho⟩
  frame := fun _ _ _ st hk => ⟨st.1.at fun o e => hk it (by simp) o e, st.2.at fun o e => hk l (by simp) o e⟩
  item := fun i s Q E hi st hQ => by
    refine RZ.nextOf_tuple_item st.1 st.2 (x := items[i]) (by simp [hi]) fun h' hit' hs' => ?_
    exact hQ _ h' s.toks (by simp [hi]) ⟨hit', st.2.extBut hs'.extBut hne⟩ hs'
  done := fun s Q E st hE => RZ.nextOf_tuple_end hh st.1 st.2 (by simp) hE
theorem meets_enumT (l : Addr) (items : Array Value) (n : Nat) (dct : Option Addr) (sl : Array (Option Value)) :
    Meets (Builtin.«enumerate.__new__» ⟨[.type "enumerate", .ref l], []⟩) (fun _ R s => s.heap.get? l = some { cls := .type "tuple", dict := dct, data := .seq items n, slots := sl } ∧
      R (.ok (.ret (.ref (s.heap.push { cls := .type "tuple_iterator", data := .fields #[.ref l, .int 0 0] }).objs.size)))
        { s with heap := (s.heap.push { cls := .type "tuple_iterator", data := .fields #[.ref l, .int 0 0] }).push { cls := .type "enumerate", data := .fields #[.none, .bool false, .ref s.heap.objs.size, rawInt 0, .none, .none] } }) :=
  .of_wp fun prog w A R s h => by
    obtain ⟨hp, g, d, tk, os⟩ := s; obtain ⟨hl, h⟩ := h
    have hsub := sub_enumerate
    have hL : Heap.IsTuple (Shared.heap ⟨hp, g, d, tk, os⟩) l items := ⟨_, hl, rfl, n, rfl⟩
    wp_walk using AutoSeq1.wpAny_loadPart' hl
    refine wpAny_stack_any fun st => wpAny_pure ?_
    split
    · rename_i c _ _ _ _ _
      cases (c == Value.type "enumerate")
      · wp_walk using AutoSeq1.wpAny_loadPart' hl, wpAny_pyIter_tuple hL
        exact ⟨_, rfl, h⟩
      · wp_walk using AutoSeq1.wpAny_loadPart' hl, wpAny_pyIter_tuple hL
        exact ⟨_, rfl, h⟩
    · wp_walk using AutoSeq1.wpAny_loadPart' hl, wpAny_pyIter_tuple hL
      exact ⟨_, rfl, h⟩
section
variable {prog : Program} {w : World} {A : Around} {E : Value → Shared → Prop} {s : Shared}
theorem call_enumT {l : Addr} {items : Array Value} {Q : Value → Shared → Prop} (hL : s.heap.IsTuple l items)
    (h : ∀ h', IsEnum h' (s.heap.objs.size + 1) s.heap.objs.size 0 .none → h'.IsTupleIter s.heap.objs.size l 0 → h'.objs.size = s.heap.objs.size + 2 →
      (∀ b o, s.heap.get? b = some o → h'.get? b = some o) → Q (.ref (s.heap.objs.size + 1)) { s with heap := h' }) :
    wpAny (model prog w) A (call (.type "enumerate") [.ref l]) Q E s := by
  obtain ⟨⟨c, dct, dt, sl⟩, hl, hc, n, hd⟩ := hL
  replace hc : c = .type "tuple" := hc
  replace hd : dt = .seq items n := hd
  subst hc hd
  refine callType_new F.called_enumerate (by decide) (F.typeCall_enumerate_1 _) (F.newCall_enumerate_1 _) (fun obj => F.args_object_init_2 obj _) F.entry_enumerate_new
    (meets_enumT l items n dct sl) ⟨hl, ?_⟩
  have hz : (s.heap.push { cls := .type "tuple_iterator", data := .fields #[.ref l, .int 0 0] }).objs.size = s.heap.objs.size + 1 := Heap.size_push ..
  show _ ∧ _
  rw [hz]
  have he : IsEnum ((s.heap.push { cls := .type "tuple_iterator", data := .fields #[.ref l, .int 0 0] }).push
      { cls := .type "enumerate", data := .fields #[.none, .bool false, .ref s.heap.objs.size, rawInt 0, .none, .none] }) (s.heap.objs.size + 1) s.heap.objs.size 0 .none := by
    have := Heap.get?_push_size (s.heap.push { cls := .type "tuple_iterator", data := .fields #[.ref l, .int 0 0] })
      (o := { cls := .type "enumerate", data := .fields #[.none, .bool false, .ref s.heap.objs.size, rawInt 0, .none, .none] }) rfl
    rw [hz] at this; exact this
  refine ⟨⟨_, he, rfl⟩, h _ he ⟨_, Heap.get?_push_of_some _ (Heap.get?_push_size _ rfl), rfl, rfl⟩ (by rw [Heap.size_push, hz]) fun b o x => Heap.get?_push_of_some _ (Heap.get?_push_of_some _ x)⟩
end
def IteT (K : PySem.W.Frag) (a : Addr) : It :=
  ⟨fun i H => ∃ (xs : List V) (x : V), SqT K H a xs ∧ xs[i]? = some x, fun i H v H' => ∃ T x, v = .ref T ∧ H T = none ∧ H' = upd H T (.tup [.int (i : Nat), x]) ∧ ∀ xs, SqT K H a xs → xs[i]? = some x, fun i H => ∃ xs : List V, SqT K H a xs ∧ xs.length ≤ i⟩
theorem turn_enumT {P : Program} {w : World} {K : PySem.W.Frag} {elts : List Expr} {kk : Nat} {tpos : Pos} (a e it : Addr) (hae : a ≠ e) (hai : a ≠ it) :
    Turn P w K (.Tuple elts kk tpos) (IteT K a) [e, it] e (fun i h => (∃ old, IsEnum h e it ((i : Nat) : Int) old) ∧ h.IsTupleIter it a i ∧ e ≠ it) where
  mem := by simp
  obj := fun i h st b hb => by
    obtain ⟨⟨old, he⟩, ⟨o, ho, hc, hd⟩, _⟩ := st
    have e' : b = e ∨ b = it := by simpa using hb
    rcases e' with z | z
    · rw [z]; exact ⟨_, he, fun v q => nomatch q⟩
    · rw [z]; exact ⟨o, ho, fun v q => by rw [hd] at q; cases q⟩
  keep := fun i h h' st k => let ⟨⟨old, he⟩, hi, hne⟩ := st; ⟨⟨old, k e (by simp) _ he⟩, hi.at fun o q => k it (by simp) o q, hne⟩
  item := by
    intro X hP hw hK hc i pins s σ H E I hf st hg
    subst hP hw hK
    obtain ⟨⟨old, he⟩, hit, hne⟩ := st
    obtain ⟨xs, x, hq, hx⟩ := hg
    obtain ⟨its, rv, p, hz⟩ := I.tuple hq
    obtain ⟨u, hu, ru⟩ := rv.get hx
    have hel : e < s.heap.objs.size := Heap.lt_size he
    have hil : it < s.heap.objs.size := by obtain ⟨_, q, _⟩ := hit; exact Heap.lt_size q
    have hlt : i < its.toArray.size := by
      have := (List.getElem?_eq_some_iff.mp hu).1
      simpa using this
    refine wpAny_pyNext_enum_itemD (drawsTuple (A := X.A.in1) (I.ok.hd hc) it a hai its.toArray) he ⟨hit, (show s.heap.IsTuple a its.toArray from p)⟩ hlt hne (by
      intro hm
      rcases List.mem_cons.mp hm with z | z
      · exact hne z
      · exact hae (List.mem_singleton.mp z).symm) fun y h' tk hy ho hit' hT hsz hk => ?_
    have ey : y = u := by
      have e1 : its.toArray[i]? = some u := by simpa using hu
      rw [e1] at hy
      exact (Option.some.inj hy).symm
    subst ey
    refine ⟨_, rfl, wpAny_letOwnedTupleGo_enum (s := { s with heap := h', toks := tk + 1 }) ho fun h'' he' sb => ?_⟩
    have hT2 : h''.get? s.heap.objs.size = some { cls := .type "tuple", data := .seq #[.int i tk, y] } := (sb.2 _ (Nat.ne_of_gt hel)).trans hT
    have new : ObjOk X.prog X.w (upd H s.heap.objs.size (.tup [.int (i : Nat), x])) h'' s.heap.objs.size (.tup [.int (i : Nat), x]) :=
      ⟨by show 2 ≤ sizeLine; decide, [.int i tk, y], .cons ⟨_, rfl⟩ (.cons ru .nil), ⟨_, hT2, rfl, _, rfl⟩⟩
    have I1 : Inv X pins σ (upd H s.heap.objs.size (.tup [.int (i : Nat), x])) { s with heap := h'', toks := tk + 1 } :=
      I.turnedNew (ch := [e, it]) (fun b ob hb q => (sb.2 b (fun z => hb (by simp [z]))).trans (hk b ob (fun z => hb (by simp [z])) (fun z => hb (by simp [z])) q)) hf (Nat.le_refl _) new
    refine ⟨.ref s.heap.objs.size, _, I1, rfl, ⟨_, x, rfl, I.hok.fresh (Nat.le_refl _), rfl, fun ys hy => by rw [I.tuple_inj hy hq]; exact hx⟩, ⟨⟨y, ?_⟩, hit'.1.at fun o q => (sb.2 it (Ne.symm hne)).trans q, hne⟩, fun b hb => ?_⟩
    · have e1 : ((i + 1 : Nat) : Int) = (i : Int) + 1 := by omega
      rw [e1]; exact he'
    · have hb' : b < s.heap.objs.size := by
        have e' : b = e ∨ b = it := by simpa using hb
        rcases e' with z | z
        · rw [z]; exact hel
        · rw [z]; exact hil
      rw [upd_ne (Nat.ne_of_lt hb')]
      exact (hf b hb).1
  done := by
    intro X hP hw hK hc i pins s σ H E I hf st hg
    subst hP hw hK
    obtain ⟨⟨old, he⟩, hit, hne⟩ := st
    obtain ⟨xs, hq, hx⟩ := hg
    obtain ⟨its, rv, p, hz⟩ := I.tuple hq
    obtain ⟨f0, f1, f2, f3, f4, f5⟩ := hf it (by simp)
    have hl := rv.length
    have hT : s.TypeIs (.ref e) "enumerate" := ⟨_, he, rfl⟩
    unfold pyNext
    refine wpAny_bind (wpAny_attempt (wpAny_callSpecial?_slot (name := Str.ofString "__next__") hT F.slot_enumerate_next
      (wpAny_call_entry F.slot_enumerate_next hT F.entry_enumerate_next ?_ (F.args_enumerate_next_1 _))))
    show wpAny _ _ (field (.ref e) 2 >>= _) _ _ _
    refine wpAny_bind (wpAny_field he rfl (x := .ref it) rfl ?_)
    refine wpAny_bind (RZ.nextOf_tuple_end (A := X.A.in1) (I.ok.hd hc) hit (show s.heap.IsTuple a its.toArray from p) (by simp; omega) fun h' x he' hx' => ?_)
    obtain ⟨o, ho, hc⟩ := hx'
    refine wpAny_bind (wpAny_isInstance (T := "StopIteration") (b := true) ⟨o, ho, hc⟩ isSubtype_stop ?_)
    exact wpAny_pure ⟨rfl, I.turned (t' := s.toks) (fun b o hb q => he' b o hb q) f0 f1 f3 f4 f5⟩
  self := fun A i s Q E st h => let ⟨⟨_, he⟩, _⟩ := st; wpAny_pyIter_enum he h
def iEnumA (K : PySem.W.Frag) (ta : TA) : TI := fun σ H R => ta σ H fun vs H1 => ∃ a xs, vs = [.ref a] ∧ ((SqL K H1 a xs ∧ R (Ite K a) H1) ∨ (SqT K H1 a xs ∧ R (IteT K a) H1))
theorem pi_enumA {X : Cx} {e : Expr} {ta : TA} {p pos tpos : Pos} {elts : List Expr} {kk : Nat} (hg : Gl X "enumerate") (hm : X.mg "enumerate" = none) (ha : PA X [e] ta) (hs : starEach [e] X.env = [(false, eval e X.env)]) :
    PI X (.Tuple elts kk tpos) (.Call (.Name "enumerate" p) [e] [] pos) (iEnumA X.K ta) := by
  refine ⟨fun pins s σ H R I h => ?_⟩
  refine Call_ (ld_blt I hg hm boot_enumerate (PyProof.Rows.callWith_type1 (thn (ha.run pos pins s σ H _ I h) fun us s1 ⟨vs, H1, I1, r1, q1⟩ => ?_) hs rfl))
  obtain ⟨a, xs, ex, hq⟩ := q1
  subst ex
  cases r1 with
  | cons r rr =>
    cases rr
    cases r
    rcases hq with ⟨hq, q⟩ | ⟨hq, q⟩
    · obtain ⟨its, rv, p', hz⟩ := I1.list hq
      refine call_enumerate_list p'.isList fun h' he hit hsz hk => wpAny_pyIter_enum he ?_
      have I2 : Inv X pins σ H1 { s1 with heap := h' } := I1.kept (t' := s1.toks) hk
      refine ⟨s1.heap.objs.size + 1, [s1.heap.objs.size + 1, s1.heap.objs.size], _, _, H1, rfl, I2, turn_enum a (s1.heap.objs.size + 1) s1.heap.objs.size, ⟨⟨.none, he⟩, hit, Nat.succ_ne_self _⟩, fun b hb => ?_, q⟩
      have e' : b = s1.heap.objs.size + 1 ∨ b = s1.heap.objs.size := by simpa using hb
      have hle : s1.heap.objs.size ≤ b := by
        rcases e' with z | z
        · rw [z]; exact Nat.le_add_right _ _
        · rw [z]; exact Nat.le_refl _
      exact I1.fpOk hle (I1.hok.fresh hle)
    · obtain ⟨its, rv, p', hz⟩ := I1.tuple hq
      have la : a < s1.heap.objs.size := by obtain ⟨_, e, _⟩ := p'; exact Heap.lt_size e
      refine call_enumT (show s1.heap.IsTuple a its.toArray from p') fun h' he hit hsz hk => wpAny_pyIter_enum he ?_
      have I2 : Inv X pins σ H1 { s1 with heap := h' } := I1.kept (t' := s1.toks) hk
      refine ⟨s1.heap.objs.size + 1, [s1.heap.objs.size + 1, s1.heap.objs.size], _, _, H1, rfl, I2, turn_enumT a (s1.heap.objs.size + 1) s1.heap.objs.size (Nat.ne_of_lt (Nat.lt_succ_of_lt la)) (Nat.ne_of_lt la), ⟨⟨.none, he⟩, hit, Nat.succ_ne_self _⟩, fun b hb => ?_, q⟩
      have e' : b = s1.heap.objs.size + 1 ∨ b = s1.heap.objs.size := by simpa using hb
      have hle : s1.heap.objs.size ≤ b := by
        rcases e' with z | z
        · rw [z]; exact Nat.le_add_right _ _
        · rw [z]; exact Nat.le_refl _
      exact I1.fpOk hle (I1.hok.fresh hle)
end PD

/-! PD: one node of the syntax at a time -/
namespace PD
open PySem PySem.Spec PyProof.Rows L2
variable [Tb]
section
variable (G : Nat → SpD) (C : Nat → D) (K : PySem.W.Frag) (W : WX)
def LE (e : E) : TE := fun σ H Q => ∃ F M R env Qd Xd, Wd K F M R H ∧ RelEnv K F env σ ∧ wpE G C e env M Xd Qd ∧ Lands K F R Qd Q ∧ LandsX K F R Xd (fun c d H' => W c d σ H')
def LN (e : N) : TE := fun σ H Q => ∃ F M R env Qd Xd, Wd K F M R H ∧ RelEnv K F env σ ∧ wpN G C e env M Xd Qd ∧ LandsN K F R Qd Q ∧ LandsX K F R Xd (fun c d H' => W c d σ H')
def LEs (es : Es) : TA := fun σ H Q => ∃ F M R env Qd Xd, Wd K F M R H ∧ RelEnv K F env σ ∧ wpEs G C es env M Xd Qd ∧ LandsL K F R Qd Q ∧ LandsX K F R Xd (fun c d H' => W c d σ H')
/-- a test -/
def LB (e : E) : TT := fun σ H Q => ∃ F M R env Qd Xd, Wd K F M R H ∧ RelEnv K F env σ ∧ wpE G C e env M Xd (asB Qd) ∧ (∀ b M' F' H', Same F F' → Wd K F' M' R H' → Qd b M' → Q b H') ∧ LandsX K F R Xd (fun c d H' => W c d σ H')
def LBs (c : Bool) (es : Es) : TT := fun σ H Q => ∃ F M R env Qd Xd, Wd K F M R H ∧ RelEnv K F env σ ∧ wpB G C c es env M Xd (asB Qd) ∧ (∀ b M' F' H', Same F F' → Wd K F' M' R H' → Qd b M' → Q b H') ∧ LandsX K F R Xd (fun c d H' => W c d σ H')
def LBe (c : Bool) (es : Es) : TE := fun σ H Q => ∃ F M R env Qd Xd, Wd K F M R H ∧ RelEnv K F env σ ∧ wpB G C c es env M Xd Qd ∧ Lands K F R Qd Q ∧ LandsX K F R Xd (fun c d H' => W c d σ H')
def LO (es : Es) : TO := fun σ H Q => ∃ F M R env Qd Xd, Wd K F M R H ∧ RelEnv K F env σ ∧ wpEs G C es env M Xd Qd ∧ (∀ ds M' F' H', Same F F' → Wd K F' M' R H' → Qd ds M' → ∃ o, optI ds = some o ∧ Q o H') ∧ LandsX K F R Xd (fun c d H' => W c d σ H')
def liftSp (s : SpD) : Sp := fun vs H Q E => ∃ F M R ds Qd Xd, Wd K F M R H ∧ RelDs K F ds vs ∧ s ds M Xd Qd ∧ Lands K F R Qd Q ∧ LandsX K F R Xd E
end

theorem _root_.L2.PE.wk {X : Cx} {e : Expr} {t t' : TE} (h : PE X e t) (k : ∀ σ H Q, t' σ H Q → t σ H Q) : PE X e t' := ⟨fun pins s σ H Q I q => h.run pins s σ H Q I (k σ H Q q)⟩
theorem _root_.L2.PT.wk {X : Cx} {e : Expr} {t t' : TT} (h : PT X e t) (k : ∀ σ H Q, t' σ H Q → t σ H Q) : PT X e t' := ⟨fun pins s σ H Q I q => h.run pins s σ H Q I (k σ H Q q)⟩
theorem _root_.L2.PW.wk {X : Cx} {e : Expr} {t t' : TT} (h : PW X e t) (k : ∀ σ H Q, t' σ H Q → t σ H Q) : PW X e t' := ⟨fun wh pins s σ H Q I q => h.run wh pins s σ H Q I (k σ H Q q)⟩
theorem _root_.L2.PA.wk {X : Cx} {e : List Expr} {t t' : TA} (h : PA X e t) (k : ∀ σ H Q, t' σ H Q → t σ H Q) : PA X e t' := ⟨fun pos pins s σ H Q I q => h.run pos pins s σ H Q I (k σ H Q q)⟩
theorem _root_.L2.PO.wk {X : Cx} {e : Option Expr} {t t' : TO} (h : PO X e t) (k : ∀ σ H Q, t' σ H Q → t σ H Q) : PO X e t' := ⟨fun pins s σ H Q I q => h.run pins s σ H Q I (k σ H Q q)⟩

section
variable {G : Nat → SpD} {C : Nat → D} {X : Cx} {W : WX} {x y z : Expr} {a b c : E} {pos : Pos}

theorem n_k {d : D} {v : V} (h : PE X x (tC v)) (r : ∀ F, RelD X.K F d v) : PE X x (LE G C X.K W (.k d)) := by
  refine h.wk fun σ H Q h => ?_
  obtain ⟨F, M, R, env, Qd, Xd, w, re, h, l, lx⟩ := h
  exact lands0 w l (r F) h
theorem n_g {n : Nat} {v : V} (h : PE X x (tC v)) (r : ∀ F, RelD X.K F (C n) v) : PE X x (LE G C X.K W (.g n)) := by
  refine h.wk fun σ H Q h => ?_
  obtain ⟨F, M, R, env, Qd, Xd, w, re, h, l, lx⟩ := h
  exact lands0 w l (r F) h
/-- a view of a related datum, which is no list or dict, is itself -/
theorem n_bin {o : Operator} (ha : PE X x (LE G C X.K W a)) (hb : PE X y (LE G C X.K W b)) : PE X (.BinOp x o y pos) (LE G C X.K W (.bin o a b)) := by
  refine (pe_op (op_bin o) ha hb).wk fun σ H Q h => ?_
  obtain ⟨F, M, R, env, Qd, Xd, w, re, h, l, lx⟩ := h
  rw [wpE_bin] at h
  refine ⟨F, M, R, env, _, Xd, w, re, h, fun d M1 F1 v H1 s1 w1 r1 h1 => ?_, lx⟩
  refine ⟨F1, M1, R, env, _, Xd, w1, re.mono s1, h1, fun e M2 F2 u H2 s2 w2 r2 h2 => ?_, lx.mono s1⟩
  exact ⟨F2, M2, R, _, _, Qd, w2, RelD.view w2 (RelD.mono s2 _ _ r1), RelD.view w2 r2, h2, l.mono (s1.trans s2)⟩
theorem n_cmp (hu : X.A.units + 65 < cLine) {o : CmpOp} (ha : PE X x (LE G C X.K W a)) (hb : PE X y (LE G C X.K W b)) (hm : behindInMarks o y = false) : PE X (.Compare x [o] [y] pos) (LE G C X.K W (.cmp o a b)) := by
  refine (pe_cmpR (op_cmp hu o) ha hb hm).wk fun σ H Q h => ?_
  obtain ⟨F, M, R, env, Qd, Xd, w, re, h, l, lx⟩ := h
  rw [wpE_cmp] at h
  refine ⟨F, M, R, env, _, Xd, w, re, h, fun d M1 F1 v H1 s1 w1 r1 h1 => ?_, lx⟩
  refine ⟨F1, M1, R, env, _, Xd, w1, re.mono s1, h1, fun e M2 F2 u H2 s2 w2 r2 h2 => ?_, lx.mono s1⟩
  exact ⟨F2, M2, R, _, _, Qd, w2, RelD.mono s2 _ _ r1, r2, h2, l.mono (s1.trans s2)⟩
theorem neg_of {x : D} {k : D → Prop} (h : negD x k) : ∃ i, x = .int i ∧ k (.int (-i)) := by
  unfold negD at h
  split at h
  · exact ⟨_, rfl, h⟩
  · exact h.elim
theorem var_of {env : EnvD} {i : Nat} {k : D → Prop} (h : varD env i k) : ∃ d, env[i]? = some (some d) ∧ k d := by
  unfold varD at h
  split at h
  · exact ⟨_, by assumption, h⟩
  · exact h.elim
theorem cat_of {x y : D} {k : List D → Prop} (h : catN x y k) : ∃ l r, x = .lst l ∧ y = .lst r ∧ l.length + r.length ≤ sizeLine ∧ k (l ++ r) := by
  unfold catN at h
  split at h
  · exact ⟨_, _, rfl, rfl, h⟩
  · exact h.elim
theorem rep_of {x y : D} {k : List D → Prop} (h : repN x y k) : ∃ l n, x = .lst l ∧ y = .int n ∧ (-(2 ^ 63) ≤ n ∧ n < 2 ^ 63 ∧ l.length * n.toNat ≤ sizeLine) ∧ k (List.replicate n.toNat l).flatten := by
  unfold repN at h
  split at h
  · exact ⟨_, _, rfl, rfl, h⟩
  · exact h.elim
theorem asB_of {Qd : Bool → Mh → Prop} {d : D} {M : Mh} (h : asB Qd d M) : ∃ b, d = .bl b ∧ Qd b M := by
  unfold asB at h
  split at h
  · exact ⟨_, rfl, h⟩
  · exact h.elim
theorem n_v {i : Nat} {nm : Str} (hN : X.N[i]? = some nm) (hv : Vis X.env.scope nm) (hd : (nm == ("__debug__" : Str)) = false) (hcd : (nm == ("__classdict__" : Str)) = false) : PE X (.Name nm pos) (LE G C X.K W (.v i)) := by
  refine (pe_var hN hv hd hcd).wk fun σ H Q h => ?_
  obtain ⟨F, M, R, env, Qd, Xd, w, re, h, l, lx⟩ := h
  rw [wpE_v] at h
  obtain ⟨d, e, q⟩ := var_of h
  obtain ⟨v, e2, r⟩ := re.2 i d e
  exact ⟨v, e2, lands0 w l r q⟩
theorem t_cmp (hu : X.A.units + 65 < cLine) {o : CmpOp} (ha : PE X x (LE G C X.K W a)) (hb : PE X y (LE G C X.K W b)) (hm : behindInMarks o y = false) : PT X (.Compare x [o] [y] pos) (LB G C X.K W (.cmp o a b)) := by
  refine (pt_cmpR (op_cmp hu o) ha hb hm).wk fun σ H Q h => ?_
  obtain ⟨F, M, R, env, Qd, Xd, w, re, h, l, lx⟩ := h
  rw [wpE_cmp] at h
  refine ⟨F, M, R, env, _, Xd, w, re, h, fun d M1 F1 v H1 s1 w1 r1 h1 => ?_, lx⟩
  refine ⟨F1, M1, R, env, _, Xd, w1, re.mono s1, h1, fun e M2 F2 u H2 s2 w2 r2 h2 => ?_, lx.mono s1⟩
  refine ⟨F2, M2, R, _, _, _, w2, RelD.mono s2 _ _ r1, r2, h2, fun d3 M3 F3 v3 H3 s3 w3 r3 h3 => ?_⟩
  obtain ⟨b, ek, q⟩ := asB_of h3
  subst ek
  exact ⟨b, r3, l b M3 F3 H3 (s1.trans (s2.trans s3)) w3 q⟩
/-- a value of True or False as a test -/
theorem t_val (h : PE X x (LE G C X.K W a)) (he : ∀ whole, isTrue x X.env whole = (do let v ← whole; standAt x.pos; holding [v] (truthy v))) : PT X x (LB G C X.K W a) := by
  refine (pt_val h he).wk fun σ H Q h => ?_
  obtain ⟨F, M, R, env, Qd, Xd, w, re, h, l, lx⟩ := h
  refine ⟨F, M, R, env, _, Xd, w, re, h, fun d M1 F1 v H1 s1 w1 r1 h1 => ?_, lx⟩
  obtain ⟨b, ek, q⟩ := asB_of h1
  subst ek
  exact ⟨b, r1, l b M1 F1 H1 s1 w1 q⟩
theorem n_chain (hu : X.A.units + 65 < cLine) {o p : CmpOp} (ha : PE X x (LE G C X.K W a)) (hb : PE X y (LE G C X.K W b)) (hc : PE X z (LE G C X.K W c)) (hm : lastMarks [o, p] [y, z] = false) : PE X (.Compare x [o, p] [y, z] pos) (LE G C X.K W (.chain o p a b c)) := by
  refine (pe_chain (op_cmp hu o) (op_cmp hu p) ha hb hc hm).wk fun σ H Q h => ?_
  obtain ⟨F, M, R, env, Qd, Xd, w, re, h, l, lx⟩ := h
  rw [wpE_chain] at h
  refine ⟨F, M, R, env, _, Xd, w, re, h, fun d M1 F1 v H1 s1 w1 r1 h1 => ?_, lx⟩
  refine ⟨F1, M1, R, env, _, Xd, w1, re.mono s1, h1, fun e M2 F2 u H2 s2 w2 r2 h2 => ?_, lx.mono s1⟩
  refine ⟨F2, M2, R, _, _, _, w2, RelD.mono s2 _ _ r1, r2, h2, fun d3 M3 F3 v3 H3 s3 w3 r3 h3 => ?_⟩
  obtain ⟨k, ek, q⟩ := asB_of h3
  subst ek
  refine ⟨k, r3, ?_⟩
  cases k with
  | false => exact iteF (landB w3 (l.mono (s1.trans (s2.trans s3))) (by simpa using q))
  | true =>
    refine iteT ⟨F3, M3, R, env, _, Xd, w3, re.mono (s1.trans (s2.trans s3)), by simpa using q, fun d4 M4 F4 v4 H4 s4 w4 r4 h4 => ?_, lx.mono (s1.trans (s2.trans s3))⟩
    exact ⟨F4, M4, R, _, _, Qd, w4, RelD.mono (s3.trans s4) _ _ r2, r4, h4, l.mono (s1.trans (s2.trans (s3.trans s4)))⟩
theorem t_chain (hu : X.A.units + 65 < cLine) {o p : CmpOp} (ha : PE X x (LE G C X.K W a)) (hb : PE X y (LE G C X.K W b)) (hc : PE X z (LE G C X.K W c)) (hm : lastMarks [o, p] [y, z] = false) : PT X (.Compare x [o, p] [y, z] pos) (LB G C X.K W (.chain o p a b c)) := by
  refine (pt_chain (op_cmp hu o) (op_cmp hu p) ha hb hc hm).wk fun σ H Q h => ?_
  obtain ⟨F, M, R, env, Qd, Xd, w, re, h, l, lx⟩ := h
  rw [wpE_chain] at h
  refine ⟨F, M, R, env, _, Xd, w, re, h, fun d M1 F1 v H1 s1 w1 r1 h1 => ?_, lx⟩
  refine ⟨F1, M1, R, env, _, Xd, w1, re.mono s1, h1, fun e M2 F2 u H2 s2 w2 r2 h2 => ?_, lx.mono s1⟩
  refine ⟨F2, M2, R, _, _, _, w2, RelD.mono s2 _ _ r1, r2, h2, fun d3 M3 F3 v3 H3 s3 w3 r3 h3 => ?_⟩
  obtain ⟨k, ek, q⟩ := asB_of h3
  subst ek
  refine ⟨k, r3, ?_⟩
  cases k with
  | false => exact iteF ⟨_, rfl, l _ M3 F3 H3 (s1.trans (s2.trans s3)) w3 (by simpa [asB] using q)⟩
  | true =>
    refine iteT ⟨F3, M3, R, env, _, Xd, w3, re.mono (s1.trans (s2.trans s3)), by simpa using q, fun d4 M4 F4 v4 H4 s4 w4 r4 h4 => ?_, lx.mono (s1.trans (s2.trans s3))⟩
    refine ⟨F4, M4, R, _, _, _, w4, RelD.mono (s3.trans s4) _ _ r2, r4, h4, fun d5 M5 F5 v5 H5 s5 w5 r5 h5 => ?_⟩
    obtain ⟨k, ek, q⟩ := asB_of h5
    subst ek
    exact ⟨k, r5, l k M5 F5 H5 (s1.trans (s2.trans (s3.trans (s4.trans s5)))) w5 q⟩
theorem n_neg (ha : PE X x (LE G C X.K W a)) : PE X (.UnaryOp .USub x pos) (LE G C X.K W (.neg a)) := by
  refine (pe_un un_neg ha).wk fun σ H Q h => ?_
  obtain ⟨F, M, R, env, Qd, Xd, w, re, h, l, lx⟩ := h
  rw [wpE_neg] at h
  refine ⟨F, M, R, env, _, Xd, w, re, h, fun d M1 F1 v H1 s1 w1 r1 h1 => ?_, lx⟩
  obtain ⟨i, ei, q⟩ := neg_of h1
  subst ei
  cases int_of r1
  exact ⟨_, rfl, landI w1 (l.mono s1) q⟩
theorem n_not (ha : PE X x (LE G C X.K W a)) : PE X (.UnaryOp .Not x pos) (LE G C X.K W (.not a)) := by
  refine (pe_not ha).wk fun σ H Q h => ?_
  obtain ⟨F, M, R, env, Qd, Xd, w, re, h, l, lx⟩ := h
  rw [wpE_not] at h
  refine ⟨F, M, R, env, _, Xd, w, re, h, fun d M1 F1 v H1 s1 w1 r1 h1 => ?_, lx⟩
  obtain ⟨k, ek, q⟩ := asB_of h1
  subst ek
  exact ⟨k, r1, landB w1 (l.mono s1) q⟩
theorem t_not (ha : PT X x (LB G C X.K W a)) : PT X (.UnaryOp .Not x pos) (LB G C X.K W (.not a)) := by
  refine (pt_not ha).wk fun σ H Q h => ?_
  obtain ⟨F, M, R, env, Qd, Xd, w, re, h, l, lx⟩ := h
  rw [wpE_not] at h
  exact ⟨F, M, R, env, _, Xd, w, re, h, fun b M1 F1 H1 s1 w1 h1 => l _ M1 F1 H1 s1 w1 h1, lx⟩
theorem n_ife (hc : PT X z (LB G C X.K W c)) (ha : PE X x (LE G C X.K W a)) (hb : PE X y (LE G C X.K W b)) : PE X (.IfExp z x y pos) (LE G C X.K W (.ife c a b)) := by
  refine (pe_ifExp hc ha hb).wk fun σ H Q h => ?_
  obtain ⟨F, M, R, env, Qd, Xd, w, re, h, l, lx⟩ := h
  rw [wpE_ife] at h
  refine ⟨F, M, R, env, _, Xd, w, re, h, fun k M1 F1 H1 s1 w1 h1 => ?_, lx⟩
  cases k with
  | true => exact iteT ⟨F1, M1, R, env, Qd, Xd, w1, re.mono s1, by simpa using h1, l.mono s1, lx.mono s1⟩
  | false => exact iteF ⟨F1, M1, R, env, Qd, Xd, w1, re.mono s1, by simpa using h1, l.mono s1, lx.mono s1⟩
/-! ### and, or -/
theorem b_one (op : BoolOp) {k : Bool} (ha : PE X x (LE G C X.K W a)) : PE X (.BoolOp op [x] pos) (LBe G C X.K W k (.cons a .nil)) := by
  refine (pe_one ha).wk fun σ H Q h => ?_
  obtain ⟨F, M, R, env, Qd, Xd, w, re, h, l, lx⟩ := h
  rw [wpB_cons] at h
  exact ⟨F, M, R, env, Qd, Xd, w, re, h, l, lx⟩
theorem b_and {r : Es} {ys : List Expr} (ha : PE X x (LE G C X.K W a)) (hb : PE X (.BoolOp .And (y :: ys) pos) (LBe G C X.K W true (.cons b r))) : PE X (.BoolOp .And (x :: y :: ys) pos) (LBe G C X.K W true (.cons a (.cons b r))) := by
  refine (pe_and ha hb).wk fun σ H Q h => ?_
  obtain ⟨F, M, R, env, Qd, Xd, w, re, h, l, lx⟩ := h
  rw [wpB_cons] at h
  refine ⟨F, M, R, env, _, Xd, w, re, h, fun d M1 F1 v H1 s1 w1 r1 h1 => ?_, lx⟩
  obtain ⟨k, ek, q⟩ := asB_of h1
  subst ek
  refine ⟨k, r1, ?_⟩
  cases k with
  | false => exact iteF (landB w1 (l.mono s1) (by simpa using q))
  | true => exact iteT ⟨F1, M1, R, env, Qd, Xd, w1, re.mono s1, by simpa using q, l.mono s1, lx.mono s1⟩
theorem b_or {r : Es} {ys : List Expr} (ha : PE X x (LE G C X.K W a)) (hb : PE X (.BoolOp .Or (y :: ys) pos) (LBe G C X.K W false (.cons b r))) : PE X (.BoolOp .Or (x :: y :: ys) pos) (LBe G C X.K W false (.cons a (.cons b r))) := by
  refine (pe_or ha hb).wk fun σ H Q h => ?_
  obtain ⟨F, M, R, env, Qd, Xd, w, re, h, l, lx⟩ := h
  rw [wpB_cons] at h
  refine ⟨F, M, R, env, _, Xd, w, re, h, fun d M1 F1 v H1 s1 w1 r1 h1 => ?_, lx⟩
  obtain ⟨k, ek, q⟩ := asB_of h1
  subst ek
  refine ⟨k, r1, ?_⟩
  cases k with
  | true => exact iteT (landB w1 (l.mono s1) (by simpa using q))
  | false => exact iteF ⟨F1, M1, R, env, Qd, Xd, w1, re.mono s1, by simpa using q, l.mono s1, lx.mono s1⟩
theorem n_bop {k : Bool} {es : Es} (h : PE X x (LBe G C X.K W k es)) : PE X x (LE G C X.K W (.bop k es)) := h.wk fun σ H Q ⟨F, M, R, env, Qd, Xd, w, re, h, l, lx⟩ => ⟨F, M, R, env, Qd, Xd, w, re, by rw [wpE_bop] at h; exact h, l, lx⟩
theorem w_one_and (ha : PT X x (LB G C X.K W a)) : PW X (.BoolOp .And [x] pos) (LBs G C X.K W true (.cons a .nil)) := by
  refine (pw_and1 ha).wk fun σ H Q h => ?_
  obtain ⟨F, M, R, env, Qd, Xd, w, re, h, l, lx⟩ := h
  rw [wpB_cons] at h
  exact ⟨F, M, R, env, Qd, Xd, w, re, h, l, lx⟩
theorem w_one_or (ha : PT X x (LB G C X.K W a)) : PW X (.BoolOp .Or [x] pos) (LBs G C X.K W false (.cons a .nil)) := by
  refine (pw_or1 ha).wk fun σ H Q h => ?_
  obtain ⟨F, M, R, env, Qd, Xd, w, re, h, l, lx⟩ := h
  rw [wpB_cons] at h
  exact ⟨F, M, R, env, Qd, Xd, w, re, h, l, lx⟩
theorem w_and {r : Es} {ys : List Expr} (ha : PT X x (LB G C X.K W a)) (hb : PW X (.BoolOp .And (y :: ys) pos) (LBs G C X.K W true (.cons b r))) : PW X (.BoolOp .And (x :: y :: ys) pos) (LBs G C X.K W true (.cons a (.cons b r))) := by
  refine (pw_and ha hb).wk fun σ H Q h => ?_
  obtain ⟨F, M, R, env, Qd, Xd, w, re, h, l, lx⟩ := h
  rw [wpB_cons] at h
  refine ⟨F, M, R, env, _, Xd, w, re, h, fun k M1 F1 H1 s1 w1 h1 => ?_, lx⟩
  cases k with
  | false => exact iteF (l _ M1 F1 H1 s1 w1 (by simpa [asB] using h1))
  | true => exact iteT ⟨F1, M1, R, env, Qd, Xd, w1, re.mono s1, by simpa using h1, fun b M2 F2 H2 s2 w2 h2 => l b M2 F2 H2 (s1.trans s2) w2 h2, lx.mono s1⟩
theorem w_or {r : Es} {ys : List Expr} (ha : PT X x (LB G C X.K W a)) (hb : PW X (.BoolOp .Or (y :: ys) pos) (LBs G C X.K W false (.cons b r))) : PW X (.BoolOp .Or (x :: y :: ys) pos) (LBs G C X.K W false (.cons a (.cons b r))) := by
  refine (pw_or ha hb).wk fun σ H Q h => ?_
  obtain ⟨F, M, R, env, Qd, Xd, w, re, h, l, lx⟩ := h
  rw [wpB_cons] at h
  refine ⟨F, M, R, env, _, Xd, w, re, h, fun k M1 F1 H1 s1 w1 h1 => ?_, lx⟩
  cases k with
  | true => exact iteT (l _ M1 F1 H1 s1 w1 (by simpa [asB] using h1))
  | false => exact iteF ⟨F1, M1, R, env, Qd, Xd, w1, re.mono s1, by simpa using h1, fun b M2 F2 H2 s2 w2 h2 => l b M2 F2 H2 (s1.trans s2) w2 h2, lx.mono s1⟩
theorem t_bop {k : Bool} {es : Es} (h : PW X x (LBs G C X.K W k es)) : PT X x (LB G C X.K W (.bop k es)) := h.pt.wk fun σ H Q ⟨F, M, R, env, Qd, Xd, w, re, h, l, lx⟩ => ⟨F, M, R, env, Qd, Xd, w, re, by rw [wpE_bop] at h; exact h, l, lx⟩

/-! ### arguments, displays -/
theorem a_nil : PA X [] (LEs G C X.K W .nil) := pa_nil.wk fun σ H Q ⟨F, M, R, env, Qd, Xd, w, re, h, l, lx⟩ => l [] M F [] H (Same.refl F) w RelDs.nil (by rw [wpEs_nil] at h; exact h)
theorem a_cons {r : Es} {ys : List Expr} (ha : PE X x (LE G C X.K W a)) (hr : PA X ys (LEs G C X.K W r)) (hs : starEach (x :: ys) X.env = (false, eval x X.env) :: starEach ys X.env) : PA X (x :: ys) (LEs G C X.K W (.cons a r)) := by
  refine (pa_cons ha hr hs).wk fun σ H Q h => ?_
  obtain ⟨F, M, R, env, Qd, Xd, w, re, h, l, lx⟩ := h
  rw [wpEs_cons] at h
  refine ⟨F, M, R, env, _, Xd, w, re, h, fun d M1 F1 v H1 s1 w1 r1 h1 => ?_, lx⟩
  refine ⟨F1, M1, R, env, _, Xd, w1, re.mono s1, h1, fun ds M2 F2 vs H2 s2 w2 r2 h2 => ?_, lx.mono s1⟩
  exact l _ M2 F2 _ H2 (s1.trans s2) w2 (RelDs.cons (RelD.mono s2 _ _ r1) r2) h2
theorem n_tup {es : Es} {xs : List Expr} {k : Nat} (h : PA X xs (LEs G C X.K W es)) : PE X (.Tuple xs k pos) (LE G C X.K W (.tup es)) := by
  refine (pe_tup h).wk fun σ H Q h => ?_
  obtain ⟨F, M, R, env, Qd, Xd, w, re, h, l, lx⟩ := h
  rw [wpE_tup] at h
  refine ⟨F, M, R, env, _, Xd, w, re, h, fun ds M1 F1 vs H1 s1 w1 r1 h1 => ?_, lx⟩
  exact ⟨by rw [← r1.length]; exact h1.1, fun p hp => landsT w1 (l.mono s1) r1 h1.2 hp⟩
theorem N_lst {es : Es} {xs : List Expr} (h : PA X xs (LEs G C X.K W es)) : PE X (.List xs pos) (LN G C X.K W (.lst es)) := by
  refine (pe_lst h).wk fun σ H Q h => ?_
  obtain ⟨F, M, R, env, Qd, Xd, w, re, h, l, lx⟩ := h
  rw [wpN_lst] at h
  refine ⟨F, M, R, env, _, Xd, w, re, h, fun ds M1 F1 vs H1 s1 w1 r1 h1 => ?_, lx⟩
  exact ⟨by rw [← r1.length]; exact h1.1, fun p hp => l _ _ _ _ _ _ s1 w1 hp r1 h1.2⟩
theorem n_fr {n : N} (h : PE X x (LN G C X.K W n)) : PE X x (LE G C X.K W (.fr n)) := by
  refine h.wk fun σ H Q h => ?_
  obtain ⟨F, M, R, env, Qd, Xd, w, re, h, l, lx⟩ := h
  rw [wpE_fr] at h
  refine ⟨F, M, R, env, _, Xd, w, re, h, fun ds M1 F1 vs p H1 s1 w1 hp r1 h1 => ?_, lx⟩
  exact landsL w1 (l.mono s1) r1 h1 hp
theorem n_ce {n : N} (h : PE X x (LN G C X.K W n)) : PE X x (LE G C X.K W (.ce n)) := by
  refine h.wk fun σ H Q h => ?_
  obtain ⟨F, M, R, env, Qd, Xd, w, re, h, l, lx⟩ := h
  rw [wpE_ce] at h
  refine ⟨F, M, R, env, _, Xd, w, re, h, fun ds M1 F1 vs p H1 s1 w1 hp r1 h1 => ?_, lx⟩
  exact l (.ref p) _ F1 _ _ s1 (w1.cell (c := .lst ds) hp ⟨vs, rfl, r1⟩) rfl (h1 p (w1.noneM hp).2.1)
theorem N_cat (ha : PE X x (LE G C X.K W a)) (hb : PE X y (LE G C X.K W b)) : PE X (.BinOp x .Add y pos) (LN G C X.K W (.cat a b)) := by
  refine (pe_op op_catR ha hb).wk fun σ H Q h => ?_
  obtain ⟨F, M, R, env, Qd, Xd, w, re, h, l, lx⟩ := h
  rw [wpN_cat] at h
  refine ⟨F, M, R, env, _, Xd, w, re, h, fun d M1 F1 v H1 s1 w1 r1 h1 => ?_, lx⟩
  refine ⟨F1, M1, R, env, _, Xd, w1, re.mono s1, h1, fun e M2 F2 u H2 s2 w2 r2 h2 => ?_, lx.mono s1⟩
  have v1 := RelD.view w2 (RelD.mono s2 _ _ r1)
  have v2 := RelD.view w2 r2
  obtain ⟨dl, dr, e1, e2, c, q⟩ := cat_of h2
  rw [e1] at v1
  rw [e2] at v2
  obtain ⟨p, xs, rfl, sx, rx⟩ := v1
  obtain ⟨p', ys, rfl, sy, ry⟩ := v2
  have l1 := rx.length
  have l2 := ry.length
  exact ⟨p, p', xs, ys, rfl, rfl, sx, sy, by omega, fun t ht => l _ _ _ _ _ _ (s1.trans s2) w2 ht (rx.append ry) q⟩
theorem N_rep (ha : PE X x (LE G C X.K W a)) (hb : PE X y (LE G C X.K W b)) : PE X (.BinOp x .Mult y pos) (LN G C X.K W (.rep a b)) := by
  refine (pe_op op_repR ha hb).wk fun σ H Q h => ?_
  obtain ⟨F, M, R, env, Qd, Xd, w, re, h, l, lx⟩ := h
  rw [wpN_rep] at h
  refine ⟨F, M, R, env, _, Xd, w, re, h, fun d M1 F1 v H1 s1 w1 r1 h1 => ?_, lx⟩
  refine ⟨F1, M1, R, env, _, Xd, w1, re.mono s1, h1, fun e M2 F2 u H2 s2 w2 r2 h2 => ?_, lx.mono s1⟩
  have v1 := RelD.view w2 (RelD.mono s2 _ _ r1)
  obtain ⟨dl, n, e1, e2, ⟨c1, c2, c3⟩, q⟩ := rep_of h2
  subst e2
  rw [e1] at v1
  obtain ⟨p, xs, rfl, sx, rx⟩ := v1
  cases int_of r2
  have l1 := rx.length
  exact ⟨p, _, xs, rfl, rfl, sx, ⟨c1, c2, by rw [← l1]; exact c3⟩, fun t ht => l _ _ _ _ _ _ (s1.trans s2) w2 ht (rx.rep _) q⟩
theorem n_ix (hu : X.A.units + 64 < cLine) (ha : PE X x (LE G C X.K W a)) (hb : PE X y (LE G C X.K W b)) (hp : PlainIx y) : PE X (.Subscript x y pos) (LE G C X.K W (.ix a b)) := by
  refine (pe_ix (ix_any (by omega)) ha hb hp).wk fun σ H Q h => ?_
  obtain ⟨F, M, R, env, Qd, Xd, w, re, h, l, lx⟩ := h
  rw [wpE_ix] at h
  refine ⟨F, M, R, env, _, Xd, w, re, h, fun d M1 F1 v H1 s1 w1 r1 h1 => ?_, lx⟩
  refine ⟨F1, M1, R, env, _, Xd, w1, re.mono s1, h1, fun e M2 F2 u H2 s2 w2 r2 h2 => ?_, lx.mono s1⟩
  exact ⟨F2, M2, R, _, _, Qd, w2, RelD.mono s2 _ _ r1, r2, h2, l.mono (s1.trans s2)⟩
/-! ### slices -/
theorem o_nil : PO X none (LO G C X.K W .nil) := po_none.wk fun σ H Q ⟨F, M, R, env, Qd, Xd, w, re, h, l, lx⟩ => by
  rw [wpEs_nil] at h
  obtain ⟨o, e, q⟩ := l _ M F H (Same.refl F) w h
  cases e
  exact q
theorem o_one (ha : PE X x (LE G C X.K W a)) : PO X (some x) (LO G C X.K W (.cons a .nil)) := by
  refine (po_some ha).wk fun σ H Q h => ?_
  obtain ⟨F, M, R, env, Qd, Xd, w, re, h, l, lx⟩ := h
  rw [wpEs_cons] at h
  refine ⟨F, M, R, env, _, Xd, w, re, h, fun d M1 F1 v H1 s1 w1 r1 h1 => ?_, lx⟩
  have h1' : Qd [d] M1 := h1
  obtain ⟨o, e, q⟩ := l _ M1 F1 H1 s1 w1 h1'
  cases d <;> first | (cases e; done) | skip
  cases e
  cases int_of r1
  exact ⟨_, rfl, q⟩
theorem opt_of {ds : List D} {k : Option Int → Prop} (h : optQ ds k) : ∃ o, optI ds = some o ∧ k o := by
  unfold optQ at h
  split at h
  · rename_i o e
    exact ⟨o, e, h⟩
  · exact h.elim
theorem LandsN.mono {K : PySem.W.Frag} {F F' R : Hp} (s : Same F F') {Qd : List D → Mh → Prop} {Q : VK} (h : LandsN K F R Qd Q) : LandsN K F' R Qd Q := fun ds M F2 vs p H' s2 w hp r q => h ds M F2 vs p H' (s.trans s2) w hp r q
theorem n_sl {lo hi : Option Expr} {el eh : Es} {p2 : Pos} (ha : PE X x (LE G C X.K W a)) (hl : PO X lo (LO G C X.K W el)) (hh : PO X hi (LO G C X.K W eh)) : PE X (.Subscript x (.Slice lo hi none p2) pos) (LE G C X.K W (.sl a el eh)) := by
  refine (pe_slice sl_any ha hl hh).wk fun σ H Q h => ?_
  obtain ⟨F, M, R, env, Qd, Xd, w, re, h, l, lx⟩ := h
  rw [wpE_sl] at h
  refine ⟨F, M, R, env, _, Xd, w, re, h, fun d M1 F1 v H1 s1 w1 r1 h1 => ?_, lx⟩
  refine ⟨F1, M1, R, env, _, Xd, w1, re.mono s1, h1, fun ds M2 F2 H2 s2 w2 h2 => ?_, lx.mono s1⟩
  obtain ⟨o, eo, h2⟩ := opt_of h2
  refine ⟨o, eo, F2, M2, R, env, _, Xd, w2, re.mono (s1.trans s2), h2, fun es M3 F3 H3 s3 w3 h3 => ?_, lx.mono (s1.trans s2)⟩
  obtain ⟨p, ep, h3⟩ := opt_of h3
  exact ⟨p, ep, F3, M3, R, d, Qd, w3, RelD.mono (s2.trans s3) _ _ r1, h3, l.mono (s1.trans (s2.trans s3))⟩
theorem n_rvt {k : Nat} {p1 p2 p3 : Pos} (ha : PE X x (LE G C X.K W a)) : PE X (.Subscript x (.Slice none none (some (.UnaryOp .USub (.Constant (.int 1) k p1) p2)) p3) pos) (LE G C X.K W (.rvt a)) := by
  refine (pe_rvt ha).wk fun σ H Q h => ?_
  obtain ⟨F, M, R, env, Qd, Xd, w, re, h, l, lx⟩ := h
  rw [wpE_rvt] at h
  refine ⟨F, M, R, env, _, Xd, w, re, h, fun d M1 F1 v H1 s1 w1 r1 h1 => ?_, lx⟩
  have rv := RelD.view w1 r1
  have h1 : rvtD d M1 Qd := h1
  unfold rvtD at h1
  split at h1
  · rename_i xs e
    rw [e] at rv
    obtain ⟨p, vs, rfl, q, r⟩ := rv
    exact ⟨p, vs, rfl, Same.sqT w1.f q, fun t ht => landsT w1 (l.mono s1) r.reverse h1 ht⟩
  · exact h1.elim
theorem N_sl {lo hi : Option Expr} {el eh : Es} {p2 : Pos} (ha : PE X x (LE G C X.K W a)) (hl : PO X lo (LO G C X.K W el)) (hh : PO X hi (LO G C X.K W eh)) : PE X (.Subscript x (.Slice lo hi none p2) pos) (LN G C X.K W (.sl a el eh)) := by
  refine (pe_slice sl_new ha hl hh).wk fun σ H Q h => ?_
  obtain ⟨F, M, R, env, Qd, Xd, w, re, h, l, lx⟩ := h
  rw [wpN_sl] at h
  refine ⟨F, M, R, env, _, Xd, w, re, h, fun d M1 F1 v H1 s1 w1 r1 h1 => ?_, lx⟩
  refine ⟨F1, M1, R, env, _, Xd, w1, re.mono s1, h1, fun ds M2 F2 H2 s2 w2 h2 => ?_, lx.mono s1⟩
  obtain ⟨o, eo, h2⟩ := opt_of h2
  refine ⟨o, eo, F2, M2, R, env, _, Xd, w2, re.mono (s1.trans s2), h2, fun es M3 F3 H3 s3 w3 h3 => ?_, lx.mono (s1.trans s2)⟩
  obtain ⟨p, ep, h3⟩ := opt_of h3
  exact ⟨p, ep, F3, M3, R, d, Qd, w3, RelD.mono (s2.trans s3) _ _ r1, h3, LandsN.mono (s1.trans (s2.trans s3)) l⟩
theorem N_rev {lo : Option Expr} {el : Es} {k : Nat} {p1 p2 p3 : Pos} (ha : PE X x (LE G C X.K W a)) (hl : PO X lo (LO G C X.K W el)) : PE X (.Subscript x (.Slice lo none (some (.UnaryOp .USub (.Constant (.int 1) k p1) p2)) p3) pos) (LN G C X.K W (.rev a el)) := by
  refine (pe_rv ha hl).wk fun σ H Q h => ?_
  obtain ⟨F, M, R, env, Qd, Xd, w, re, h, l, lx⟩ := h
  rw [wpN_rev] at h
  refine ⟨F, M, R, env, _, Xd, w, re, h, fun d M1 F1 v H1 s1 w1 r1 h1 => ?_, lx⟩
  refine ⟨F1, M1, R, env, _, Xd, w1, re.mono s1, h1, fun ds M2 F2 H2 s2 w2 h2 => ?_, lx.mono s1⟩
  obtain ⟨o, eo, h2⟩ := opt_of h2
  refine ⟨o, eo, ?_⟩
  have rv := RelD.view w2 (RelD.mono s2 _ _ r1)
  unfold revD at h2
  split at h2
  · rename_i xs e
    rw [e] at rv
    obtain ⟨p, vs, rfl, q, r⟩ := rv
    split at h2
    · rename_i n en
      rw [r.length] at en
      exact ⟨p, vs, n, rfl, .inl q, en, fun t ht => l _ _ _ _ _ _ (s1.trans s2) w2 ht (r.take n).reverse h2⟩
    · exact h2.elim
  · exact h2.elim
/-! ### calls -/
def noStar : Expr → Bool
  | .Starred _ _ => false
  | _ => true
theorem star_cons {x : Expr} {r : List Expr} {env : Env} (h : noStar x = true) : starEach (x :: r) env = (false, eval x env) :: starEach r env := by
  cases x <;> first | rfl | (cases h)
theorem star_any {env : Env} {pos : Pos} : ∀ {r : List Expr}, r.all noStar = true → (backTo pos (starEach r env)).any (·.1) = false
  | [], _ => rfl
  | x :: r, h => by
    rw [List.all_cons, Bool.and_eq_true] at h
    rw [star_cons h.1]
    show (false || (backTo pos (starEach r env)).any (·.1)) = false
    rw [star_any h.2]
    rfl
theorem star_all {env : Env} {pos : Pos} : ∀ {r : List Expr}, r.all noStar = true → (backTo pos (starEach r env)).all (fun x => !x.1) = true
  | [], _ => rfl
  | x :: r, h => by
    rw [List.all_cons, Bool.and_eq_true] at h
    rw [star_cons h.1]
    show (true && (backTo pos (starEach r env)).all (fun x => !x.1)) = true
    rw [star_all h.2]
    rfl
theorem n_bi {b : Bi} {es : Es} {r : List Expr} {f p : Pos} {nm : Str} (hc : X.calm = true) (sy : ∃ mm, X.base.Ns sysModules mm) (gd : X.A.guards = some []) (hu : X.A.units + 64 < cLine) (hn : nm = biN b) (hg : Gl X nm) (hm : X.mg nm = none) (h : PA X (x :: r) (LEs G C X.K W es)) (hs : (x :: r).all noStar = true) :
    PE X (.Call (.Name nm p) (x :: r) [] pos) (LE G C X.K W (.bi b es)) := by
  subst hn
  rw [List.all_cons, Bool.and_eq_true] at hs
  have he := star_cons (r := r) (env := X.env) hs.1
  have hpl := star_any (pos := pos) (env := X.env) hs.2
  have core : ∀ σ H Q, LE G C X.K W (.bi b es) σ H Q → tCB (rBi X.K b) (LEs G C X.K W es) σ H Q := fun σ H Q h => by
    obtain ⟨F, M, R, env, Qd, Xd, w, re, h, l, lx⟩ := h
    rw [wpE_bi] at h
    refine ⟨F, M, R, env, _, Xd, w, re, h, fun ds M1 F1 vs H1 s1 w1 r1 h1 => ?_, lx⟩
    exact ⟨F1, M1, R, ds, Qd, w1, r1, h1, l.mono s1⟩
  have cb := call_bi (X := X) hc sy gd hu b
  cases b
  case tup => exact (pe_callTy cb hg hm (by decide +kernel) h (by decide) (by decide) he hpl).wk core
  case str => exact (pe_callTy cb hg hm (by decide +kernel) h (by decide) (by decide) he hpl).wk core
  case int => exact (pe_callTy cb hg hm (by decide +kernel) h (by decide) (by decide) he hpl).wk core
  case lst0 => exact (pe_callTy cb hg hm (by decide +kernel) h (by decide) (by decide) he hpl).wk core
  all_goals exact (pe_callB cb hg hm (by decide +kernel) h (by decide) (by decide) he hpl).wk core
theorem N_lof {f p : Pos} (hg : Gl X "list") (hm : X.mg "list" = none) (ha : PE X x (LE G C X.K W a)) (hs : noStar x = true) : PE X (.Call (.Name "list" p) [x] [] pos) (LN G C X.K W (.lof a)) := by
  refine (pe_callTy call_lof hg hm (by decide +kernel) (pa_cons ha pa_nil (star_cons hs)) (by decide) (by decide) (star_cons hs) rfl).wk fun σ H Q h => ?_
  obtain ⟨F, M, R, env, Qd, Xd, w, re, h, l, lx⟩ := h
  rw [wpN_lof] at h
  refine ⟨F, M, R, env, _, Xd, w, re, h, fun d M1 F1 v H1 s1 w1 r1 h1 => ?_, lx⟩
  exact ⟨F1, M1, R, d, Qd, w1, RelDs.cons r1 RelDs.nil, h1, LandsN.mono s1 l⟩
theorem isi_of {d : D} {ty : String} {k : D → Prop} (h : isiD d ty k) : ∃ t b, tyD d = some t ∧ kitB t ty = some b ∧ k (.bl b) := by
  unfold isiD at h
  split at h
  · rename_i t e
    split at h
    · rename_i b e2
      exact ⟨t, b, e, e2, h⟩
    · exact h.elim
  · exact h.elim
theorem n_isi {ty : String} {nm : Str} {f p p2 : Pos} (hg : Gl X "isinstance") (hm : X.mg "isinstance" = none) (hg2 : Gl X nm) (hm2 : X.mg nm = none) (hv : bootBuiltins nm = some (.type ty)) (hn : nm ≠ "__name__") (hd : (nm == ("__debug__" : Str)) = false)
    (ha : PE X x (LE G C X.K W a)) (hs : noStar x = true) : PE X (.Call (.Name "isinstance" p) [x, .Name nm p2] [] pos) (LE G C X.K W (.isi a ty)) := by
  refine (pe_callB (call_isiD (ty := ty)) hg hm (by decide +kernel) (pa_cons ha (pa_cons (pe_bltn (v := .ty ty) hg2 hm2 hv rfl hn hd) pa_nil) (star_cons hs)) (by decide) (by decide) (star_cons hs) rfl).wk fun σ H Q h => ?_
  obtain ⟨F, M, R, env, Qd, Xd, w, re, h, l, lx⟩ := h
  rw [wpE_isi] at h
  refine ⟨F, M, R, env, _, Xd, w, re, h, fun d M1 F1 v H1 s1 w1 r1 h1 => ?_, lx⟩
  obtain ⟨t, b, e1, e2, q⟩ := isi_of h1
  exact ⟨F1, M1, R, d, v, t, b, Qd, rfl, w1, r1, e1, e2, q, l.mono s1⟩
theorem n_call {f : Addr} {fd : FuncData} {ps : List Str} {k i : Nat} {es : Es} {r : List Expr} {p : Pos} {nm : Str} (gd : X.A.guards = some []) (FO : FnG X.prog X.w X.K X.mg X.base (L2.CX X.prog X.w) k f fd ps (liftSp X.K (G i))) (hr : Room k X.A) (hg : Gl X nm) (hm : X.mg nm = some (.ref f))
    (hk : PySem.W.keepIn X.K (.ref f) = true) (hb : Binds X.K fd ps []) (tk : Takes X W) (hd : (nm == ("__debug__" : Str)) = false) (h : PA X (x :: r) (LEs G C X.K W es)) (hs : (x :: r).all noStar = true) :
    PE X (.Call (.Name nm p) (x :: r) [] pos) (LE G C X.K W (.call i es)) := by
  rw [List.all_cons, Bool.and_eq_true] at hs
  refine (call_G gd FO hr hb (fun σ => passAt tk σ) hg hm hk h hd (star_cons hs.1) (star_any hs.2)).wk fun σ H Q h => ?_
  obtain ⟨F, M, R, env, Qd, Xd, w, re, h, l, lx⟩ := h
  rw [wpE_call] at h
  refine ⟨F, M, R, env, _, Xd, w, re, h, fun ds M1 F1 vs H1 s1 w1 r1 h1 => ?_, lx⟩
  exact ⟨F1, M1, R, ds, Qd, Xd, w1, r1, h1, l.mono s1, lx.mono s1⟩
theorem n_call0 {f : Addr} {fd : FuncData} {ps : List Str} {k i : Nat} {p : Pos} {nm : Str} (gd : X.A.guards = some []) (FO : FnG X.prog X.w X.K X.mg X.base (L2.CX X.prog X.w) k f fd ps (liftSp X.K (G i))) (hr : Room k X.A) (hg : Gl X nm) (hm : X.mg nm = some (.ref f))
    (hk : PySem.W.keepIn X.K (.ref f) = true) (hb : Binds X.K fd ps []) (tk : Takes X W) (hd : (nm == ("__debug__" : Str)) = false) :
    PE X (.Call (.Name nm p) [] [] pos) (LE G C X.K W (.call i .nil)) := by
  refine (call_G0 gd FO hr hb (fun σ => passAt tk σ) hg hm hk hd).wk fun σ H Q h => ?_
  obtain ⟨F, M, R, env, Qd, Xd, w, re, h, l, lx⟩ := h
  rw [wpE_call] at h
  have h : G i [] M Xd Qd := h
  exact ⟨F, M, R, [], Qd, Xd, w, .nil, h, l, lx⟩
/-! ### methods of lists -/
def meSlot (m : Me) : Prop := PlainAttrs "list" ∧ Slot "list" (meN m) (meId m) ∧ typeOf (.builtin (meId m)) = pure (.type "method_descriptor")
def notCall0 : Expr → Bool
  | .Call (.Name _ _) [] [] _ => false
  | _ => true
theorem base_of {o : Expr} {n : Str} (h : notCall0 o = true) : attributeBase o n X.env (eval o X.env) = eval o X.env := by
  unfold attributeBase
  split
  · cases h
  · rfl
theorem isL_of {K : PySem.W.Frag} {F : Hp} {M : Mh} {R H : Hp} (w : Wd K F M R H) {d : D} {v : V} (r : RelD K F d v) (h : isL M d = true) : tyV K "list" v H := by
  have h' := RelD.view w r
  unfold isL at h
  split at h
  · rename_i l e
    rw [e] at h'
    obtain ⟨a, vs, rfl, q, _⟩ := h'
    exact .inl ⟨rfl, vs, .inl q⟩
  · cases h
theorem n_me {m : Me} {es : Es} {r : List Expr} {apos : Pos} {nm : Str} (hn : nm = meN m) (hm : m = .append ∨ m = .popAt ∨ m = .extend ∨ m = .count) (ha : PE X x (LE G C X.K W a)) (h : PA X r (LEs G C X.K W es)) (hs : r.all noStar = true) (hlen : r.length < 30) (hr : r ≠ [])
    (hb : notCall0 x = true) (hl : (apos.endLine == pos.line) = true) : PE X (.Call (.Attribute x nm apos) r [] pos) (LE G C X.K W (.me m a es)) := by
  subst hn
  have core : ∀ σ H Q, LE G C X.K W (.me m a es) σ H Q → tBM X.K "list" (rMe X.K m) (LE G C X.K W a) (LEs G C X.K W es) σ H Q := fun σ H Q h => by
    obtain ⟨F, M, R, env, Qd, Xd, w, re, h, l, lx⟩ := h
    rw [wpE_me] at h
    refine ⟨F, M, R, env, _, Xd, w, re, h, fun d M1 F1 v H1 s1 w1 r1 h1 => ?_, lx⟩
    refine ⟨isL_of w1 r1 h1.1, F1, M1, R, env, _, Xd, w1, re.mono s1, h1.2, fun ds M2 F2 vs H2 s2 w2 r2 h2 => ?_, lx.mono s1⟩
    exact ⟨F2, M2, R, d, ds, Qd, w2, RelD.mono s2 _ _ r1, r2, h2, l.mono (s1.trans s2)⟩
  cases r with
  | nil => exact absurd rfl hr
  | cons e r =>
    have hs' := hs
    rw [List.all_cons, Bool.and_eq_true] at hs'
    have few : ((backTo pos (starEach (e :: r) X.env)).all (fun x => !x.1) && (backToKw pos (keywordEach [] X.env)).all (fun x => x.1.isSome) && decide ((e :: r).length + ([] : List Keyword).length + (if ([] : List Keyword).isEmpty then 0 else 1) < 30)) = true := by
      rw [star_all hs]
      simpa [backToKw, keywordEach] using hlen
    rcases hm with rfl | rfl | rfl | rfl
    · exact (pe_bm PySem.F.plainAttrs_list PySem.F.slot_list_append PySem.F.type_list_append (mt_any .append) ha h (base_of hb) few hl (star_cons hs'.1) (star_any hs'.2)).wk core
    · exact (pe_bm PySem.F.plainAttrs_list PySem.F.slot_list_pop PySem.F.type_list_pop (mt_any .popAt) ha h (base_of hb) few hl (star_cons hs'.1) (star_any hs'.2)).wk core
    · exact (pe_bm PySem.F.plainAttrs_list PySem.F.slot_list_extend PySem.F.type_list_extend (mt_any .extend) ha h (base_of hb) few hl (star_cons hs'.1) (star_any hs'.2)).wk core
    · exact (pe_bm PySem.F.plainAttrs_list PySem.F.slot_list_count PySem.F.type_list_count (mt_any .count) ha h (base_of hb) few hl (star_cons hs'.1) (star_any hs'.2)).wk core
theorem fstI_some {y : D} : ∀ {l : List D} {j : Nat}, fstI y l = some j → ∃ z, l[j]? = some z ∧ eqF z y = true ∧ ∀ (m : Nat) (z' : D), m < j → l[m]? = some z' → eqF z' y = false
  | [], j, h => by cases h
  | x :: r, j, h => by
    unfold fstI at h
    by_cases e : eqF x y = true
    · rw [if_pos e] at h
      cases h
      exact ⟨x, rfl, e, fun m z' hm => absurd hm (Nat.not_lt_zero _)⟩
    · rw [if_neg e] at h
      split at h
      · rename_i i hi
        cases h
        obtain ⟨z, h1, h2, h3⟩ := fstI_some hi
        refine ⟨z, by simpa using h1, h2, fun m z' hm hz => ?_⟩
        cases m with
        | zero =>
          have hz : x = z' := by simpa using hz
          subst hz
          simpa using e
        | succ m => exact h3 m z' (by omega) (by simpa using hz)
      · cases h
def rIdx (K : PySem.W.Frag) : V → List V → Hp → VK → Prop := fun x vs H Q => ∃ F M R d ds Qd, Wd K F M R H ∧ RelD K F d x ∧ RelDs K F ds vs ∧ idxD d ds M Qd ∧ Lands K F R Qd Q
theorem mt_idx : MtR X "list.index" (rIdx X.K) := by
  intro pins s σ H x vs v us Q I rx rv h
  obtain ⟨F, M, R, d, ds, Qd, w, hx, hd, h, l⟩ := h
  have hx' := RelD.view w hx
  unfold idxD at h
  split at h
  · rename_i xs y e
    rw [e] at hx'
    obtain ⟨a, ys, rfl, q, r⟩ := hx'
    obtain ⟨yv, rfl, hy⟩ := one_of hd
    obtain ⟨⟨f1, f2⟩, h⟩ := h
    split at h
    · rename_i j ej
      obtain ⟨z, z1, z2, z3⟩ := fstI_some ej
      obtain ⟨zv, zv1, rz⟩ := r.get z1
      have fz : flatD z = true := List.all_eq_true.mp f2 z (List.mem_of_getElem? z1)
      refine mt_index pins s σ H _ _ v us Q I rx rv ⟨a, ys, yv, j, zv, rfl, rfl, .inl q, flat_of hy f1, flats_of r f2, zv1, by rw [eqV_of rz hy fz f1]; exact z2, fun m z' hm hz' => ?_, landI w l h⟩
      obtain ⟨d', d1, rd'⟩ := r.getV hz'
      rw [eqV_of rd' hy (List.all_eq_true.mp f2 d' (List.mem_of_getElem? d1)) f1]
      exact z3 m d' hm d1
    · exact h.elim
  · exact h.elim
theorem n_idx {es : Es} {r : List Expr} {apos : Pos} {nm : Str} (hn : nm = "index") (ha : PE X x (LE G C X.K W a)) (h : PA X r (LEs G C X.K W es)) (hs : r.all noStar = true) (hlen : r.length < 30) (hr : r ≠ [])
    (hb : notCall0 x = true) (hl : (apos.endLine == pos.line) = true) : PE X (.Call (.Attribute x nm apos) r [] pos) (LE G C X.K W (.idx a es)) := by
  subst hn
  have core : ∀ σ H Q, LE G C X.K W (.idx a es) σ H Q → tBM X.K "list" (rIdx X.K) (LE G C X.K W a) (LEs G C X.K W es) σ H Q := fun σ H Q h => by
    obtain ⟨F, M, R, env, Qd, Xd, w, re, h, l, lx⟩ := h
    rw [wpE_idx] at h
    refine ⟨F, M, R, env, _, Xd, w, re, h, fun d M1 F1 v H1 s1 w1 r1 h1 => ?_, lx⟩
    refine ⟨isL_of w1 r1 h1.1, F1, M1, R, env, _, Xd, w1, re.mono s1, h1.2, fun ds M2 F2 vs H2 s2 w2 r2 h2 => ?_, lx.mono s1⟩
    exact ⟨F2, M2, R, d, ds, Qd, w2, RelD.mono s2 _ _ r1, r2, h2, l.mono (s1.trans s2)⟩
  cases r with
  | nil => exact absurd rfl hr
  | cons e r =>
    have hs' := hs
    rw [List.all_cons, Bool.and_eq_true] at hs'
    have few : ((backTo pos (starEach (e :: r) X.env)).all (fun x => !x.1) && (backToKw pos (keywordEach [] X.env)).all (fun x => x.1.isSome) && decide ((e :: r).length + ([] : List Keyword).length + (if ([] : List Keyword).isEmpty then 0 else 1) < 30)) = true := by
      rw [star_all hs]
      simpa [backToKw, keywordEach] using hlen
    exact (pe_bm PySem.F.plainAttrs_list PySem.F.slot_list_index PySem.F.type_list_index mt_idx ha h (base_of hb) few hl (star_cons hs'.1) (star_any hs'.2)).wk core
theorem n_me0 {m : Me} {apos : Pos} {nm : Str} (hn : nm = meN m) (hm : m = .pop ∨ m = .reverse ∨ m = .clear) (ha : PE X x (LE G C X.K W a))
    (hb : notCall0 x = true) (hl : (apos.endLine == pos.line) = true) : PE X (.Call (.Attribute x nm apos) [] [] pos) (LE G C X.K W (.me m a .nil)) := by
  subst hn
  have core : ∀ σ H Q, LE G C X.K W (.me m a .nil) σ H Q → tBM0 X.K "list" (rMe X.K m) (LE G C X.K W a) σ H Q := fun σ H Q h => by
    obtain ⟨F, M, R, env, Qd, Xd, w, re, h, l, lx⟩ := h
    rw [wpE_me] at h
    refine ⟨F, M, R, env, _, Xd, w, re, h, fun d M1 F1 v H1 s1 w1 r1 h1 => ?_, lx⟩
    exact ⟨isL_of w1 r1 h1.1, F1, M1, R, d, [], Qd, w1, r1, RelDs.nil, h1.2, l.mono s1⟩
  rcases hm with rfl | rfl | rfl
  · exact (pe_bm0 PySem.F.plainAttrs_list PySem.F.slot_list_pop PySem.F.type_list_pop (mt_any .pop) ha (base_of hb) hl).wk core
  · exact (pe_bm0 PySem.F.plainAttrs_list PySem.F.slot_list_reverse PySem.F.type_list_reverse (mt_any .reverse) ha (base_of hb) hl).wk core
  · exact (pe_bm0 PySem.F.plainAttrs_list PySem.F.slot_list_clear PySem.F.type_list_clear (mt_any .clear) ha (base_of hb) hl).wk core
theorem rg_rel {K : PySem.W.Frag} {F : Hp} (a b : Int) : RelDs K F (rngL a (b - a).toNat) (rgV a b) := by
  unfold rngL rgV
  generalize (b - a).toNat = n
  suffices h : ∀ l : List Nat, RelDs K F (l.map fun (k : Nat) => D.int (a + k)) (l.map fun i => V.int (a + (i : Nat))) from h _
  intro l
  induction l with
  | nil => exact rfl
  | cons i r ih => exact ⟨_, _, rfl, rfl, ih⟩
theorem N_lrg1 {p f pos2 : Pos} (hc : X.calm = true) (hg : Gl X "list") (hm : X.mg "list" = none) (hg2 : Gl X "range") (hm2 : X.mg "range" = none) (ha : PE X x (LE G C X.K W a)) (hs : noStar x = true) :
    PE X (.Call (.Name "list" p) [.Call (.Name "range" f) [x] [] pos2] [] pos) (LN G C X.K W (.lrg (.cons a .nil))) := by
  refine (pe_listAny hc hg hm (prg_1 hg2 hm2 ha (star_cons hs))).wk fun σ H Q h => ?_
  obtain ⟨F, M, R, env, Qd, Xd, w, re, h, l, lx⟩ := h
  rw [wpN_lrg, wpEs_cons] at h
  refine ⟨F, M, R, env, _, Xd, w, re, h, fun d M1 F1 v H1 s1 w1 r1 h1 => ?_, lx⟩
  have h1 : lrgD [d] (fun l => Qd l M1) := h1
  unfold lrgD at h1
  split at h1
  · rename_i j e
    cases e
    obtain ⟨c1, h1⟩ := h1
    refine ⟨j, r1, by omega, fun q hq => l _ _ _ _ _ _ s1 w1 hq (rg_rel 0 j) (by rw [Int.sub_zero]; exact h1)⟩
  · rename_i e; cases e
  · exact h1.elim
theorem N_lrg2 {p f pos2 : Pos} (hc : X.calm = true) (hg : Gl X "list") (hm : X.mg "list" = none) (hg2 : Gl X "range") (hm2 : X.mg "range" = none) (ha : PE X x (LE G C X.K W a)) (hb : PE X y (LE G C X.K W b)) (hs : noStar x = true) (ht : noStar y = true) :
    PE X (.Call (.Name "list" p) [.Call (.Name "range" f) [x, y] [] pos2] [] pos) (LN G C X.K W (.lrg (.cons a (.cons b .nil)))) := by
  refine (pe_listAny hc hg hm (prg_2 hg2 hm2 ha hb (star_cons hs) (star_cons ht) (star_any (by simp [ht])))).wk fun σ H Q h => ?_
  obtain ⟨F, M, R, env, Qd, Xd, w, re, h, l, lx⟩ := h
  rw [wpN_lrg, wpEs_cons] at h
  refine ⟨F, M, R, env, _, Xd, w, re, h, fun d M1 F1 v H1 s1 w1 r1 h1 => ?_, lx⟩
  have h1 : wpE G C _ env M1 Xd (fun e M2 => lrgD [d, e] fun l => Qd l M2) := h1
  refine ⟨F1, M1, R, env, _, Xd, w1, re.mono s1, h1, fun e M2 F2 u H2 s2 w2 r2 h2 => ?_, lx.mono s1⟩
  have h2 : lrgD [d, e] (fun l => Qd l M2) := h2
  unfold lrgD at h2
  split at h2
  · rename_i e; cases e
  · rename_i i j e
    cases e
    obtain ⟨c1, h2⟩ := h2
    exact ⟨i, j, r1, r2, by omega, fun q hq => l _ _ _ _ _ _ (s1.trans s2) w2 hq (rg_rel i j) h2⟩
  · exact h2.elim
end
end PD

/-! PD: what is walked; comprehensions; dict displays -/
namespace PD
open PySem PySem.Spec PyProof.Rows L2
variable [Tb]

/-- the iterator J yields the data ds while g holds of the cells -/
structure Yl (K : PySem.W.Frag) (F0 : Hp) (J : It) (ds : List D) (g : Mh → Prop) : Prop where
  go : ∀ (i : Nat) F M R H, Same F0 F → Wd K F M R H → g M → i < ds.length → J.go i H
  yl : ∀ (i : Nat) F M R H x H' d, Same F0 F → Wd K F M R H → g M → ds[i]? = some d → J.yld i H x H' → ∃ F', Same F F' ∧ Wd K F' M R H' ∧ RelD K F' d x
  st : ∀ (i : Nat) F M R H, Same F0 F → Wd K F M R H → g M → ds.length ≤ i → J.stop i H

theorem Yl.mono {K : PySem.W.Frag} {F0 F1 : Hp} {J : It} {ds : List D} {g : Mh → Prop} (s : Same F0 F1) (y : Yl K F0 J ds g) : Yl K F1 J ds g :=
  ⟨fun i F M R H s1 => y.go i F M R H (s.trans s1), fun i F M R H x H' d s1 => y.yl i F M R H x H' d (s.trans s1), fun i F M R H s1 => y.st i F M R H (s.trans s1)⟩

def LandsI (K : PySem.W.Frag) (F R : Hp) (Qd : List D → (Mh → Prop) → Mh → Prop) (Q : It → Hp → Prop) : Prop := ∀ ds g M' F' J H', Same F F' → Wd K F' M' R H' → Yl K F' J ds g → Qd ds g M' → Q J H'
def LI (G : Nat → SpD) (C : Nat → D) (K : PySem.W.Frag) (W : WX) (it : I) : TI := fun σ H Q => ∃ F M R env Qd Xd, Wd K F M R H ∧ RelEnv K F env σ ∧ wpI G C it env M Xd Qd ∧ LandsI K F R Qd Q ∧ LandsX K F R Xd (fun c d H' => W c d σ H')
theorem _root_.L2.PI.wk {X : Cx} {tg e : Expr} {t t' : TI} (h : PI X tg e t) (k : ∀ σ H Q, t' σ H Q → t σ H Q) : PI X tg e t' := ⟨fun pins s σ H Q I q => h.run pins s σ H Q I (k σ H Q q)⟩

section
variable {K : PySem.W.Frag} {F R H : Hp} {M : Mh}
theorem sq_get {l : List D} {vs : List V} {i : Nat} {d : D} (r : RelDs K F l vs) (e : l[i]? = some d) : ∃ v, vs[i]? = some v ∧ RelD K F d v := r.get e
theorem lt_get {l : List D} {i : Nat} (h : i < l.length) : ∃ d, l[i]? = some d := ⟨l[i], List.getElem?_eq_getElem h⟩
/-- a list that is read wherever g holds -/
theorem yl_list {a : Addr} {l : List D} {g : Mh → Prop} (h : ∀ F1 M1 R1 H1, Same F F1 → Wd K F1 M1 R1 H1 → g M1 → ∃ vs, SqL K H1 a vs ∧ RelDs K F1 l vs) : Yl K F (Itl K a) l g where
  go := fun i F1 M1 R1 H1 s w hg hi => by
    obtain ⟨vs, q, r⟩ := h F1 M1 R1 H1 s w hg
    obtain ⟨d, e⟩ := lt_get hi
    obtain ⟨v, e2, _⟩ := r.get e
    exact ⟨vs, v, q, e2⟩
  yl := fun i F1 M1 R1 H1 x H' d s w hg e y => by
    obtain ⟨vs, q, r⟩ := h F1 M1 R1 H1 s w hg
    obtain ⟨rfl, y⟩ := y
    obtain ⟨v, e2, rv⟩ := r.get e
    have := (y vs q).symm.trans e2
    cases this
    exact ⟨F1, Same.refl _, w, rv⟩
  st := fun i F1 M1 R1 H1 s w hg hi => by
    obtain ⟨vs, q, r⟩ := h F1 M1 R1 H1 s w hg
    exact ⟨vs, q, by rw [← r.length]; exact hi⟩
theorem yl_tup {a : Addr} {l : List D} {g : Mh → Prop} (h : ∀ F1 M1 R1 H1, Same F F1 → Wd K F1 M1 R1 H1 → g M1 → ∃ vs, SqT K H1 a vs ∧ RelDs K F1 l vs) : Yl K F (Itt K a) l g where
  go := fun i F1 M1 R1 H1 s w hg hi => by
    obtain ⟨vs, q, r⟩ := h F1 M1 R1 H1 s w hg
    obtain ⟨d, e⟩ := lt_get hi
    obtain ⟨v, e2, _⟩ := r.get e
    exact ⟨vs, v, q, e2⟩
  yl := fun i F1 M1 R1 H1 x H' d s w hg e y => by
    obtain ⟨vs, q, r⟩ := h F1 M1 R1 H1 s w hg
    obtain ⟨rfl, y⟩ := y
    obtain ⟨v, e2, rv⟩ := r.get e
    have := (y vs q).symm.trans e2
    cases this
    exact ⟨F1, Same.refl _, w, rv⟩
  st := fun i F1 M1 R1 H1 s w hg hi => by
    obtain ⟨vs, q, r⟩ := h F1 M1 R1 H1 s w hg
    exact ⟨vs, q, by rw [← r.length]; exact hi⟩
theorem rng_get {lo : Int} {n i : Nat} {d : D} (e : (rngL lo n)[i]? = some d) : d = .int (lo + i) := by
  unfold rngL at e
  rw [List.getElem?_map] at e
  cases h : (List.range n)[i]? with
  | none => rw [h] at e; cases e
  | some k =>
    rw [h] at e
    cases e
    obtain ⟨h1, h2⟩ := List.getElem?_eq_some_iff.mp h
    rw [List.getElem_range] at h2
    rw [h2]
theorem rngL_length (lo : Int) (n : Nat) : (rngL lo n).length = n := by unfold rngL; simp
theorem yl_rng {lo : Int} {n : Nat} {g : Mh → Prop} : Yl K F (Itr lo n) (rngL lo n) g where
  go := fun i F1 M1 R1 H1 s w hg hi => by
    rw [rngL_length] at hi
    exact hi
  yl := fun i F1 M1 R1 H1 x H' d s w hg e y => by
    obtain ⟨rfl, rfl⟩ := y
    cases rng_get e
    exact ⟨F1, Same.refl _, w, rfl⟩
  st := fun i F1 M1 R1 H1 s w hg hi => by
    rw [rngL_length] at hi
    exact hi
theorem yl_dn {i0 : Int} {n : Nat} {g : Mh → Prop} : Yl K F (Itc i0 (-1) n) (dnL i0 n) g where
  go := fun i F1 M1 R1 H1 s w hg hi => by
    have e : (dnL i0 n).length = n := by unfold dnL; simp
    rw [e] at hi
    exact hi
  yl := fun i F1 M1 R1 H1 x H' d s w hg e y => by
    obtain ⟨rfl, rfl⟩ := y
    unfold dnL at e
    rw [List.getElem?_map] at e
    cases h : (List.range n)[i]? with
    | none => rw [h] at e; cases e
    | some k =>
      rw [h] at e
      cases e
      obtain ⟨h1, h2⟩ := List.getElem?_eq_some_iff.mp h
      rw [List.getElem_range] at h2
      subst h2
      exact ⟨F1, Same.refl _, w, by rw [show i0 + (i : Nat) * (-1 : Int) = i0 - (i : Nat) by omega]; rfl⟩
  st := fun i F1 M1 R1 H1 s w hg hi => by
    have e : (dnL i0 n).length = n := by unfold dnL; simp
    rw [e] at hi
    exact hi
theorem enumL_length (l : List D) : (enumL l).length = l.length := by unfold enumL; simp
theorem enum_get {l : List D} {i : Nat} {d : D} (e : (enumL l)[i]? = some d) : ∃ x, l[i]? = some x ∧ d = .tup [.int i, x] := by
  unfold enumL at e
  rw [List.getElem?_mapIdx] at e
  cases h : l[i]? with
  | none => rw [h] at e; cases e
  | some x => rw [h] at e; cases e; exact ⟨x, rfl, rfl⟩
theorem yl_enum {a : Addr} {l : List D} {g : Mh → Prop} (h : ∀ F1 M1 R1 H1, Same F F1 → Wd K F1 M1 R1 H1 → g M1 → ∃ vs, SqL K H1 a vs ∧ RelDs K F1 l vs) : Yl K F (Ite K a) (enumL l) g where
  go := fun i F1 M1 R1 H1 s w hg hi => by
    rw [enumL_length] at hi
    obtain ⟨vs, q, r⟩ := h F1 M1 R1 H1 s w hg
    obtain ⟨d, e⟩ := lt_get hi
    obtain ⟨v, e2, _⟩ := r.get e
    exact ⟨vs, v, q, e2⟩
  yl := fun i F1 M1 R1 H1 x H' d s w hg e y => by
    obtain ⟨vs, q, r⟩ := h F1 M1 R1 H1 s w hg
    obtain ⟨T, x1, rfl, hT, rfl, y⟩ := y
    obtain ⟨d1, e1, rfl⟩ := enum_get e
    obtain ⟨v, e2, rv⟩ := r.get e1
    have := (y vs q).symm.trans e2
    cases this
    have sm := same_upd (o := HO.tup [.int (i : Nat), x1]) (w.noneM hT).1
    refine ⟨_, sm, w.laid hT, T, _, rfl, .inl (.inl upd_same), RelDs.mono sm _ _ (RelDs.cons (d := .int i) rfl (RelDs.cons rv RelDs.nil))⟩
  st := fun i F1 M1 R1 H1 s w hg hi => by
    rw [enumL_length] at hi
    obtain ⟨vs, q, r⟩ := h F1 M1 R1 H1 s w hg
    exact ⟨vs, q, by rw [← r.length]; exact hi⟩
theorem yl_enumT {a : Addr} {l : List D} {g : Mh → Prop} (h : ∀ F1 M1 R1 H1, Same F F1 → Wd K F1 M1 R1 H1 → g M1 → ∃ vs, SqT K H1 a vs ∧ RelDs K F1 l vs) : Yl K F (IteT K a) (enumL l) g where
  go := fun i F1 M1 R1 H1 s w hg hi => by
    rw [enumL_length] at hi
    obtain ⟨vs, q, r⟩ := h F1 M1 R1 H1 s w hg
    obtain ⟨d, e⟩ := lt_get hi
    obtain ⟨v, e2, _⟩ := r.get e
    exact ⟨vs, v, q, e2⟩
  yl := fun i F1 M1 R1 H1 x H' d s w hg e y => by
    obtain ⟨vs, q, r⟩ := h F1 M1 R1 H1 s w hg
    obtain ⟨T, x1, rfl, hT, rfl, y⟩ := y
    obtain ⟨d1, e1, rfl⟩ := enum_get e
    obtain ⟨v, e2, rv⟩ := r.get e1
    have := (y vs q).symm.trans e2
    cases this
    have sm := same_upd (o := HO.tup [.int (i : Nat), x1]) (w.noneM hT).1
    refine ⟨_, sm, w.laid hT, T, _, rfl, .inl (.inl upd_same), RelDs.mono sm _ _ (RelDs.cons (d := .int i) rfl (RelDs.cons rv RelDs.nil))⟩
  st := fun i F1 M1 R1 H1 s w hg hi => by
    rw [enumL_length] at hi
    obtain ⟨vs, q, r⟩ := h F1 M1 R1 H1 s w hg
    exact ⟨vs, q, by rw [← r.length]; exact hi⟩
theorem yl_zip {a b : Addr} {l r : List D} {vs ws : List V} {g : Mh → Prop} (ha : Rd F a (.lst vs)) (hb : Rd F b (.lst ws)) (rl : RelDs K F l vs) (rr : RelDs K F r ws) : Yl K F (Itz K a b) (l.zipWith (fun x y => .tup [x, y]) r) g where
  go := fun i F1 M1 R1 H1 s w hg hi => by
    rw [List.length_zipWith] at hi
    obtain ⟨d, e⟩ := lt_get (l := l) (i := i) (by omega)
    obtain ⟨d', e'⟩ := lt_get (l := r) (i := i) (by omega)
    obtain ⟨v, e2, _⟩ := rl.get e
    obtain ⟨v', e2', _⟩ := rr.get e'
    exact ⟨vs, ws, v, v', .inl (Same.rd (s.trans w.f) ha), .inl (Same.rd (s.trans w.f) hb), e2, e2'⟩
  yl := fun i F1 M1 R1 H1 x H' d s w hg e y => by
    obtain ⟨T, x1, y1, rfl, hT, rfl, y2, y3⟩ := y
    rw [List.getElem?_zipWith] at e
    cases h1 : l[i]? with
    | none => rw [h1] at e; cases e
    | some d1 =>
      cases h2 : r[i]? with
      | none => rw [h1, h2] at e; cases e
      | some d2 =>
        rw [h1, h2] at e
        cases e
        obtain ⟨v, e2, rv⟩ := (RelDs.mono s _ _ rl).get h1
        obtain ⟨v', e2', rv'⟩ := (RelDs.mono s _ _ rr).get h2
        have e3 := (y2 vs (.inl (Same.rd (s.trans w.f) ha))).symm.trans e2
        have e4 := (y3 ws (.inl (Same.rd (s.trans w.f) hb))).symm.trans e2'
        cases e3
        cases e4
        have sm := same_upd (o := HO.tup [x1, y1]) (w.noneM hT).1
        exact ⟨_, sm, w.laid hT, T, _, rfl, .inl (.inl upd_same), RelDs.mono sm _ _ (RelDs.cons rv (RelDs.cons rv' RelDs.nil))⟩
  st := fun i F1 M1 R1 H1 s w hg hi => by
    rw [List.length_zipWith] at hi
    have l1 := rl.length
    have l2 := rr.length
    exact ⟨vs, ws, .inl (Same.rd (s.trans w.f) ha), .inl (Same.rd (s.trans w.f) hb), by omega⟩
end

section
variable {G : Nat → SpD} {C : Nat → D} {X : Cx} {W : WX} {x y z tg : Expr} {a b c : E} {pos : Pos}
def iSeq (K : PySem.W.Frag) (tl : TE) : TI := fun σ H R => tl σ H fun x H1 => ∃ a, x = .ref a ∧ (((∃ xs, SqL K H1 a xs) ∧ R (Itl K a) H1) ∨ ((∃ xs, SqT K H1 a xs) ∧ R (Itt K a) H1))
theorem pi_seq {tl : TE} (hl : PE X x tl) : PI X tg x (iSeq X.K tl) := by
  refine ⟨fun pins s σ H R I h => ?_⟩
  refine thn (hl.run pins s σ H _ I h) fun v s1 ⟨x, H1, I1, r1, q1⟩ => ?_
  obtain ⟨a, rfl, ⟨⟨xs, hq⟩, q⟩ | ⟨⟨xs, hq⟩, q⟩⟩ := q1
  · cases r1
    obtain ⟨its, _, p, _⟩ := I1.list hq
    exact wpAny_pyIter_list p.isList (pi_one (tk := s1.toks) I1 _ (turn_list a _) ⟨_, Heap.get?_push_size _ rfl, rfl, rfl⟩ q)
  · cases r1
    obtain ⟨its, _, p, _⟩ := I1.tuple hq
    exact wpAny_pyIter_tuple (show s1.heap.IsTuple a its.toArray from p) (pi_one (tk := s1.toks) I1 _ (turn_tuple a _) ⟨_, Heap.get?_push_size _ rfl, rfl, rfl⟩ q)
theorem i_seq (ha : PE X x (LE G C X.K W a)) : PI X tg x (LI G C X.K W (.seq a)) := by
  refine (pi_seq ha).wk fun σ H Q h => ?_
  obtain ⟨F, M, R, env, Qd, Xd, w, re, h, l, lx⟩ := h
  rw [wpI_seq] at h
  refine ⟨F, M, R, env, _, Xd, w, re, h, fun d M1 F1 v H1 s1 w1 r1 h1 => ?_, lx⟩
  have h1 : seqD d M1 Qd := h1
  unfold seqD at h1
  split at h1
  · rename_i p
    cases (show v = _ from r1)
    split at h1
    · rename_i ds e
      obtain ⟨_, o, hH, vs, rfl, r⟩ := w1.m _ _ e
      refine ⟨_, rfl, .inl ⟨⟨vs, .inl (.inl hH)⟩, l _ _ _ _ _ _ s1 w1 (yl_list fun F2 M2 R2 H2 s2 w2 g => ?_) h1⟩⟩
      obtain ⟨_, o', hH', vs', rfl, r'⟩ := w2.m _ _ g
      exact ⟨vs', .inl (.inl hH'), r'⟩
    · exact h1.elim
  · obtain ⟨p, vs, rfl, q, r⟩ := r1
    exact ⟨p, rfl, .inl ⟨⟨vs, .inl (Same.rd w1.f q)⟩, l _ _ _ _ _ _ s1 w1 (yl_list fun F2 M2 R2 H2 s2 w2 g => ⟨vs, .inl (Same.rd (s2.trans w2.f) q), RelDs.mono s2 _ _ r⟩) h1⟩⟩
  · obtain ⟨p, vs, rfl, q, r⟩ := r1
    exact ⟨p, rfl, .inr ⟨⟨vs, Same.sqT w1.f q⟩, l _ _ _ _ _ _ s1 w1 (yl_tup fun F2 M2 R2 H2 s2 w2 g => ⟨vs, Same.sqT (s2.trans w2.f) q, RelDs.mono s2 _ _ r⟩) h1⟩⟩
  · exact h1.elim
theorem rng_of {ds : List D} {k : List D → Prop} (h : rngD ds k) : (∃ j : Int, ds = [.int j] ∧ (-(2 ^ 62) ≤ j ∧ j < 2 ^ 62) ∧ k (rngL 0 j.toNat)) ∨ ∃ i j : Int, ds = [.int i, .int j] ∧ (-(2 ^ 62) ≤ i ∧ i < 2 ^ 62 ∧ -(2 ^ 62) ≤ j ∧ j < 2 ^ 62) ∧ k (rngL i (j - i).toNat) := by
  unfold rngD at h
  split at h
  · exact .inl ⟨_, rfl, h⟩
  · exact .inr ⟨_, _, rfl, h⟩
  · exact h.elim
theorem i_rng1 {p : Pos} (hg : Gl X "range") (hm : X.mg "range" = none) (ha : PE X x (LE G C X.K W a)) (hs : noStar x = true) : PI X tg (.Call (.Name "range" p) [x] [] pos) (LI G C X.K W (.rng (.cons a .nil))) := by
  refine (pi_range1 hg hm (pa_cons ha pa_nil (star_cons hs)) (star_cons hs)).wk fun σ H Q h => ?_
  obtain ⟨F, M, R, env, Qd, Xd, w, re, h, l, lx⟩ := h
  rw [wpI_rng, wpEs_cons] at h
  refine ⟨F, M, R, env, _, Xd, w, re, h, fun d M1 F1 v H1 s1 w1 r1 h1 => ?_, lx⟩
  have h1 : rngD [d] (fun l => Qd l (fun _ => True) M1) := h1
  rcases rng_of h1 with ⟨j, e, c, q⟩ | ⟨i, j, e, c, q⟩
  · cases e
    cases int_of r1
    exact ⟨j, rfl, c.1, c.2, l _ _ _ _ _ _ s1 w1 yl_rng q⟩
  · simp at e
theorem i_rng2 {p : Pos} (hg : Gl X "range") (hm : X.mg "range" = none) (ha : PE X x (LE G C X.K W a)) (hb : PE X y (LE G C X.K W b)) (hs : noStar x = true) (hs2 : noStar y = true) : PI X tg (.Call (.Name "range" p) [x, y] [] pos) (LI G C X.K W (.rng (.cons a (.cons b .nil)))) := by
  have e2 : starEach [y] X.env = [(false, eval y X.env)] := star_cons hs2
  have e1 : starEach [x, y] X.env = [(false, eval x X.env), (false, eval y X.env)] := by rw [star_cons hs, e2]
  refine (pi_range2 hg hm (pa_cons ha (pa_cons hb pa_nil e2) (star_cons hs)) e1 e2).wk fun σ H Q h => ?_
  obtain ⟨F, M, R, env, Qd, Xd, w, re, h, l, lx⟩ := h
  rw [wpI_rng, wpEs_cons] at h
  refine ⟨F, M, R, env, _, Xd, w, re, h, fun d M1 F1 v H1 s1 w1 r1 h1 => ?_, lx⟩
  have h1 : wpE G C b env M1 Xd (fun e M2 => rngD [d, e] (fun l => Qd l (fun _ => True) M2)) := h1
  refine ⟨F1, M1, R, env, _, Xd, w1, re.mono s1, h1, fun e M2 F2 u H2 s2 w2 r2 h2 => ?_, lx.mono s1⟩
  rcases rng_of h2 with ⟨j, ee, c, q⟩ | ⟨i, j, ee, c, q⟩
  · simp at ee
  · cases ee
    cases int_of r1
    cases int_of r2
    exact ⟨i, j, rfl, c, l _ _ _ _ _ _ (s1.trans s2) w2 yl_rng q⟩
theorem i_rdn {p pc pu : Pos} {kk : Nat} (hg : Gl X "range") (hm : X.mg "range" = none) (ha : PE X x (LE G C X.K W a)) (hb : PE X y (LE G C X.K W b)) (hs : noStar x = true) (hs2 : noStar y = true) : PI X tg (.Call (.Name "range" p) [x, y, .UnaryOp .USub (.Constant (.int 1) kk pc) pu] [] pos) (LI G C X.K W (.rdn a b)) := by
  have hc : PE X (.UnaryOp .USub (.Constant (.int 1) kk pc) pu) (LE G C X.K W (.neg (.k (.int 1)))) := n_neg (n_k (v := .int 1) pe_int fun _ => rfl)
  have e3 : starEach [.UnaryOp .USub (.Constant (.int 1) kk pc) pu] X.env = [(false, eval (.UnaryOp .USub (.Constant (.int 1) kk pc) pu) X.env)] := star_cons rfl
  have e2 : starEach [y, .UnaryOp .USub (.Constant (.int 1) kk pc) pu] X.env = [(false, eval y X.env), (false, eval (.UnaryOp .USub (.Constant (.int 1) kk pc) pu) X.env)] := by rw [star_cons hs2, e3]
  refine (pi_range3 hg hm (pa_cons ha (pa_cons hb (pa_cons hc pa_nil e3) (star_cons hs2)) (star_cons hs)) (star_cons hs) (star_any (by rw [List.all_cons, hs2]; rfl))).wk fun σ H Q h => ?_
  obtain ⟨F, M, R, env, Qd, Xd, w, re, h, l, lx⟩ := h
  rw [wpI_rdn] at h
  refine ⟨F, M, R, env, _, Xd, w, re, h, fun d M1 F1 v H1 s1 w1 r1 h1 => ?_, lx⟩
  refine ⟨F1, M1, R, env, _, Xd, w1, re.mono s1, h1, fun e M2 F2 u H2 s2 w2 r2 h2 => ?_, lx.mono s1⟩
  refine ⟨F2, M2, R, env, fun d3 M3 => d3 = .int (-1) ∧ M3 = M2, Xd, w2, re.mono (s1.trans s2), ⟨rfl, rfl⟩, fun d3 M3 F3 z H3 s3 w3 r3 h3 => ?_, lx.mono (s1.trans s2)⟩
  obtain ⟨rfl, rfl⟩ := h3
  have h2 : rdnD d e (fun l => Qd l (fun _ => True) M3) := h2
  unfold rdnD at h2
  split at h2
  · cases int_of r1
    cases int_of r2
    cases int_of r3
    obtain ⟨⟨c1, c2, c3, c4⟩, q⟩ := h2
    exact ⟨_, _, _, _, rfl, RgC.neg c1 c2 c3 c4, l _ _ _ _ _ _ (s1.trans (s2.trans s3)) w3 yl_dn q⟩
  · exact h2.elim
theorem i_enum {p tpos : Pos} {elts : List Expr} {kk : Nat} (hg : Gl X "enumerate") (hm : X.mg "enumerate" = none) (ha : PE X x (LE G C X.K W a)) (hs : noStar x = true) : PI X (.Tuple elts kk tpos) (.Call (.Name "enumerate" p) [x] [] pos) (LI G C X.K W (.enum a)) := by
  refine (pi_enumA hg hm (pa_cons ha pa_nil (star_cons hs)) (star_cons hs)).wk fun σ H Q h => ?_
  obtain ⟨F, M, R, env, Qd, Xd, w, re, h, l, lx⟩ := h
  rw [wpI_enum] at h
  refine ⟨F, M, R, env, _, Xd, w, re, h, fun d M1 F1 v H1 s1 w1 r1 h1 => ?_, lx⟩
  have h1 : enumD d M1 Qd := h1
  unfold enumD at h1
  split at h1
  · rename_i p
    cases (show v = _ from r1)
    split at h1
    · rename_i ds e
      obtain ⟨_, o, hH, vs, rfl, r⟩ := w1.m _ _ e
      refine ⟨_, vs, rfl, .inl ⟨.inl (.inl hH), l _ _ _ _ _ _ s1 w1 (yl_enum fun F2 M2 R2 H2 s2 w2 g => ?_) h1⟩⟩
      obtain ⟨_, o', hH', vs', rfl, r'⟩ := w2.m _ _ g
      exact ⟨vs', .inl (.inl hH'), r'⟩
    · exact h1.elim
  · obtain ⟨p, vs, rfl, q, r⟩ := r1
    exact ⟨p, vs, rfl, .inl ⟨.inl (Same.rd w1.f q), l _ _ _ _ _ _ s1 w1 (yl_enum fun F2 M2 R2 H2 s2 w2 g => ⟨vs, .inl (Same.rd (s2.trans w2.f) q), RelDs.mono s2 _ _ r⟩) h1⟩⟩
  · obtain ⟨p, vs, rfl, q, r⟩ := r1
    exact ⟨p, vs, rfl, .inr ⟨Same.sqT w1.f q, l _ _ _ _ _ _ s1 w1 (yl_enumT fun F2 M2 R2 H2 s2 w2 g => ⟨vs, Same.sqT (s2.trans w2.f) q, RelDs.mono s2 _ _ r⟩) h1⟩⟩
  · exact h1.elim
theorem i_zip {p tpos : Pos} {elts : List Expr} {kk : Nat} (hg : Gl X "zip") (hm : X.mg "zip" = none) (ha : PE X x (LE G C X.K W a)) (hb : PE X y (LE G C X.K W b)) (hs : noStar x = true) (hs2 : noStar y = true) : PI X (.Tuple elts kk tpos) (.Call (.Name "zip" p) [x, y] [] pos) (LI G C X.K W (.zip a b)) := by
  have e2 : starEach [y] X.env = [(false, eval y X.env)] := star_cons hs2
  refine (pi_zip hg hm (pa_cons ha (pa_cons hb pa_nil e2) (star_cons hs)) (star_cons hs) (by rw [e2]; rfl)).wk fun σ H Q h => ?_
  obtain ⟨F, M, R, env, Qd, Xd, w, re, h, l, lx⟩ := h
  rw [wpI_zip] at h
  refine ⟨F, M, R, env, _, Xd, w, re, h, fun d M1 F1 v H1 s1 w1 r1 h1 => ?_, lx⟩
  refine ⟨F1, M1, R, env, _, Xd, w1, re.mono s1, h1, fun e M2 F2 u H2 s2 w2 r2 h2 => ?_, lx.mono s1⟩
  have h2 : zipD d e (fun l => Qd l (fun _ => True) M2) := h2
  unfold zipD at h2
  split at h2
  · obtain ⟨p, vs, rfl, q, r⟩ := r1
    obtain ⟨p', vs', rfl, q', r'⟩ := r2
    exact ⟨p, p', vs, vs', rfl, .inl (Same.rd (s2.trans w2.f) q), .inl (Same.rd w2.f q'), l _ _ _ _ _ _ (s1.trans s2) w2 (yl_zip (Same.rd s2 q) q' (RelDs.mono s2 _ _ r) r') h2⟩
  · exact h2.elim
end
end PD

/-! PD: targets, comprehensions, dict displays -/
namespace PD
open PySem PySem.Spec PyProof.Rows L2
variable [Tb]

def tslots : Tgt → List Nat
  | .nm i => [i]
  | .tp is => is
def RelP (K : PySem.W.Frag) (F : Hp) (P : Nat → Prop) (env : EnvD) (σ : L2.St) : Prop := env.length = σ.length ∧ ∀ (i : Nat) (d : D), P i → env[i]? = some (some d) → ∃ v, σ[i]? = some (some v) ∧ RelD K F d v
section
variable {K : PySem.W.Frag} {F F' R H : Hp} {M : Mh}
theorem RelP.mono (s : Same F F') {P : Nat → Prop} {env : EnvD} {σ : L2.St} (h : RelP K F P env σ) : RelP K F' P env σ :=
  ⟨h.1, fun i d p e => let ⟨v, e2, r⟩ := h.2 i d p e; ⟨v, e2, RelD.mono s d v r⟩⟩
theorem RelP.set {P : Nat → Prop} {env : EnvD} {σ : L2.St} (h : RelP K F P env σ) {d : D} {v : V} (r : RelD K F d v) (i : Nat) : RelP K F (fun j => P j ∨ j = i) (env.set i (some d)) (σ.set i (some v)) := by
  refine ⟨by rw [List.length_set, List.length_set]; exact h.1, fun j e hp he => ?_⟩
  by_cases hj : j = i
  · subst hj
    have hlt : j < env.length := by
      obtain ⟨h1, _⟩ := List.getElem?_eq_some_iff.mp he
      rw [List.length_set] at h1
      exact h1
    rw [List.getElem?_set_self hlt] at he
    cases he
    exact ⟨v, List.getElem?_set_self (by rw [← h.1]; exact hlt), r⟩
  · rw [List.getElem?_set_ne (Ne.symm hj)] at he
    rcases hp with hp | hp
    · obtain ⟨u, e2, r2⟩ := h.2 j e hp he
      exact ⟨u, by rw [List.getElem?_set_ne (Ne.symm hj)]; exact e2, r2⟩
    · exact absurd hp hj
theorem RelP.env {P : Nat → Prop} {env : EnvD} {σ : L2.St} (h : RelP K F P env σ) (hp : ∀ i, P i) : RelEnv K F env σ := ⟨h.1, fun i d e => h.2 i d (hp i) e⟩
theorem RelEnv.p {P : Nat → Prop} {env : EnvD} {σ : L2.St} (h : RelEnv K F env σ) : RelP K F P env σ := ⟨h.1, fun i d _ e => h.2 i d e⟩
theorem wipe_in {σ : L2.St} {i : Nat} : ∀ {vs : List Nat}, i ∈ vs → i < σ.length → (wipe σ vs)[i]? = some none
  | v :: vs, h, hl => by
    unfold wipe
    by_cases hv : v = i
    · subst hv
      exact List.getElem?_set_self (by rw [wipe_length]; exact hl)
    · rw [List.getElem?_set_ne hv]
      rcases List.mem_cons.mp h with h | h
      · exact absurd h.symm hv
      · exact wipe_in h hl
theorem wipe_ext {σ σ' : L2.St} {vs : List Nat} (hl : σ'.length = σ.length) (h : ∀ j, j ∉ vs → σ'[j]? = (wipe σ vs)[j]?) : wipe σ' vs = wipe σ vs := by
  refine List.ext_getElem? fun j => ?_
  by_cases hj : j ∈ vs
  · by_cases hlt : j < σ.length
    · rw [wipe_in hj (by rw [hl]; exact hlt), wipe_in hj hlt]
    · rw [List.getElem?_eq_none (by rw [wipe_length]; omega), List.getElem?_eq_none (by rw [wipe_length]; omega)]
  · rw [wipe_out hj, h j hj]
def setsE (env : EnvD) (ps : List (Nat × D)) : EnvD := ps.foldl (fun e p => e.set p.1 (some p.2)) env
def setsV (σ : L2.St) (ps : List (Nat × V)) : L2.St := ps.foldl (fun e p => e.set p.1 (some p.2)) σ
theorem setsV_length : ∀ (ps : List (Nat × V)) (σ : L2.St), (setsV σ ps).length = σ.length
  | [], _ => rfl
  | p :: r, σ => by
    show (setsV (σ.set p.1 (some p.2)) r).length = _
    rw [setsV_length r, List.length_set]
theorem setsV_out : ∀ (is : List Nat) (vs : List V) (σ : L2.St) (j : Nat), j ∉ is → (setsV σ (is.zip vs))[j]? = σ[j]?
  | [], _, _, _, _ => rfl
  | _ :: _, [], _, _, _ => rfl
  | i :: is, v :: vs, σ, j, h => by
    rw [List.mem_cons, not_or] at h
    show (setsV (σ.set i (some v)) (is.zip vs))[j]? = _
    rw [setsV_out is vs _ j h.2, List.getElem?_set_ne (fun e => h.1 e.symm)]
theorem sets_rel : ∀ {is : List Nat} {ds : List D} {vs : List V} {P : Nat → Prop} {env : EnvD} {σ : L2.St}, ds.length = is.length → RelP K F P env σ → RelDs K F ds vs → RelP K F (fun j => P j ∨ j ∈ is) (setsE env (is.zip ds)) (setsV σ (is.zip vs))
  | [], _, _, P, env, σ, _, h, _ => ⟨h.1, fun i d p e => h.2 i d (by simpa using p) e⟩
  | i :: is, [], _, _, _, _, e, _, _ => by simp at e
  | i :: is, d :: ds, vs, P, env, σ, e, h, r => by
    obtain ⟨v, ws, rfl, q, t⟩ := r
    have := sets_rel (is := is) (ds := ds) (vs := ws) (by simpa using e) (h.set q i) t
    refine ⟨this.1, fun j d' p e' => this.2 j d' ?_ e'⟩
    rcases p with p | p
    · exact .inl (.inl p)
    · rcases List.mem_cons.mp p with p | p
      · exact .inl (.inr p)
      · exact .inr p
end

section
variable {G : Nat → SpD} {C : Nat → D} {X : Cx} {W : WX} {x y z tg : Expr} {a b c : E} {pos : Pos}
/-- a target -/
def LG (K : PySem.W.Frag) (t : Tgt) : TG := fun v σ H Q => ∃ F M R P d env env', Wd K F M R H ∧ RelP K F P env σ ∧ RelD K F d v ∧ bindT t d env = some env' ∧
  ∀ σ', RelP K F (fun j => P j ∨ j ∈ tslots t) env' σ' → σ'.length = σ.length → (∀ j, j ∉ tslots t → σ'[j]? = σ[j]?) → Q σ' H
theorem _root_.L2.PG.wk {X : Cx} {e : Expr} {t t' : TG} (h : PG X e t) (k : ∀ v σ H Q, t' v σ H Q → t v σ H Q) : PG X e t' := ⟨fun pins s σ H v u Q I r q => h.run pins s σ H v u Q I r (k v σ H Q q)⟩
theorem _root_.L2.PGs.wk {X : Cx} {e : List Expr} {t t' : TGs} (h : PGs X e t) (k : ∀ v σ H Q, t' v σ H Q → t v σ H Q) : PGs X e t' := ⟨fun pins s σ H v u Q I r q => h.run pins s σ H v u Q I r (k v σ H Q q)⟩
/-- one name of a target -/
def NameOk (X : Cx) (i : Nat) (e : Expr) : Prop := ∃ nm p, e = .Name nm p ∧ X.N[i]? = some nm ∧ Loc X.env.scope nm ∧ (X.fn nm = true ∨ X.env.scope.names.lookup nm = some .local)
theorem g_nm {i : Nat} (hN : X.N.Nodup) (h : NameOk X i x) : PG X x (LG X.K (.nm i)) := by
  obtain ⟨nm, p, rfl, hi, hl, hf⟩ := h
  refine (pg_name hN hi hl hf).wk fun v σ H Q h => ?_
  obtain ⟨F, M, R, P, d, env, env', w, rp, r, e, q⟩ := h
  cases e
  refine q _ ?_ (by rw [List.length_set]) fun j hj => ?_
  · have := rp.set r i
    exact ⟨this.1, fun j d p e => this.2 j d (by simpa [tslots] using p) e⟩
  · rw [List.getElem?_set_ne]
    intro e
    exact hj (by simp [tslots, e])
inductive NamesOk (X : Cx) : List Nat → List Expr → Prop
  | nil : NamesOk X [] []
  | cons {i : Nat} {e : Expr} {is : List Nat} {es : List Expr} : NameOk X i e → NamesOk X is es → NamesOk X (i :: is) (e :: es)
def gSets (is : List Nat) : TGs := fun vs σ H Q => vs.length = is.length ∧ Q (setsV σ (is.zip vs)) H
theorem gs_names (hN : X.N.Nodup) : ∀ {is : List Nat} {es : List Expr}, NamesOk X is es → PGs X es (gSets is)
  | _, _, .nil => pgs_nil.wk fun vs σ H Q h => by
    have e : vs = [] := List.length_eq_zero_iff.mp h.1
    subst e
    exact ⟨rfl, h.2⟩
  | _, _, .cons (i := i) (is := is) h t => by
    obtain ⟨nm, p, rfl, hi, hl, hf⟩ := h
    refine (pgs_cons (pg_name hN hi hl hf) (gs_names hN t)).wk fun vs σ H Q h => ?_
    cases vs with
    | nil => simp [gSets] at h
    | cons v r => exact ⟨v, r, rfl, by simpa using h.1, h.2⟩
theorem names_len {env : Env} : ∀ {is : List Nat} {es : List Expr}, NamesOk X is es → (assignEach es env).length = is.length
  | _, _, .nil => rfl
  | _, _, .cons h t => by
    obtain ⟨nm, p, rfl, _⟩ := h
    show (assignEach _ env).length + 1 = _
    rw [names_len t]
    rfl
theorem names_plain {env : Env} : ∀ {is : List Nat} {es : List Expr}, NamesOk X is es → (assignEach es env).findIdx? (·.1) = none
  | _, _, .nil => rfl
  | _, _, .cons h t => by
    obtain ⟨nm, p, rfl, _⟩ := h
    have := names_plain (env := env) t
    rw [List.findIdx?_eq_none_iff] at this ⊢
    intro q hq
    rcases List.mem_cons.mp hq with e | hq
    · rw [e]
    · exact this q hq
theorem _root_.L2.PG.or {X : Cx} {e : Expr} {t t' : TG} (h : PG X e t) (h' : PG X e t') : PG X e (fun v σ H Q => t v σ H Q ∨ t' v σ H Q) := ⟨fun pins s σ H v u Q I r q => q.elim (h.run pins s σ H v u Q I r) (h'.run pins s σ H v u Q I r)⟩
theorem g_tp {is : List Nat} {es : List Expr} {k : Nat} (hc : X.calm = true) (hN : X.N.Nodup) (h : NamesOk X is es) : PG X (.Tuple es k pos) (LG X.K (.tp is)) := by
  refine ((pg_tup hc (gs_names hN h) (names_len h) (names_plain h)).or (pg_unl hc (gs_names hN h) (names_len h) (names_plain h))).wk fun v σ H Q h' => ?_
  obtain ⟨F, M, R, P, d, env, env', w, rp, r, e, q⟩ := h'
  unfold bindT at e
  dsimp only at e
  split at e
  · rename_i l
    obtain ⟨p, vs, rfl, sq, rd⟩ := r
    split at e
    · rename_i hl
      have hl := Nat.eq_of_beq_eq_true hl
      cases e
      exact .inl ⟨p, vs, rfl, Same.sqT w.f sq, by rw [← rd.length]; exact hl, by rw [← rd.length]; exact hl, q _ (sets_rel hl rp rd) (setsV_length _ _) fun j hj => setsV_out _ _ _ _ hj⟩
    · cases e
  · rename_i l
    obtain ⟨p, vs, rfl, sq, rd⟩ := r
    split at e
    · rename_i hl
      have hl := Nat.eq_of_beq_eq_true hl
      cases e
      exact .inr ⟨p, vs, rfl, Same.sqL w.f (.inl sq), by rw [← rd.length]; exact hl, by rw [← rd.length]; exact hl, q _ (sets_rel hl rp rd) (setsV_length _ _) fun j hj => setsV_out _ _ _ _ hj⟩
    · cases e
  · cases e

/-! ### comprehensions -/
def L2del (H : Hp) (a : Addr) : Hp := fun b => if b = a then none else H b
theorem L2del_ne {H : Hp} {a b : Addr} (h : b ≠ a) : L2del H a b = H b := if_neg h
theorem L2del_same {H : Hp} {a : Addr} : L2del H a a = none := if_pos rfl
theorem tabs_del {T : List (Addr × Str)} {H : Hp} {p : Addr} {o0 : HO} (t : LamX.Tabs T H) (h : H p = some o0) (n : noT o0 = true) : LamX.Tabs T (L2del H p) := fun q hq => by
  obtain ⟨ps, h1, h2, h3⟩ := t q hq
  refine ⟨ps, ?_, h2, fun pos cv hc => ?_⟩
  · rw [L2del_ne fun z => ?_]
    · exact h1
    · rw [z, h] at h1
      exact tbl_ne n ps (Option.some.inj h1)
  · obtain ⟨c, e1, e2⟩ := h3 pos cv hc
    refine ⟨c, e1, ?_⟩
    rw [L2del_ne fun z => ?_]
    · exact e2
    · rw [z, h] at e2
      exact ext_ne n p _ (Option.some.inj e2)
theorem Wt.gone {K : PySem.W.Frag} {F R H : Hp} {p : Addr} {o0 : HO} (x : Wt K F (upd R p o0) H) (hR : R p = none) (h : H p = some o0) : Wt K F R (L2del H p) :=
  have y := x.out hR
  ⟨y.n, y.rn, tabs_del x.t h (x.rn p o0 upd_same)⟩

def LT (G : Nat → SpD) (C : Nat → D) (K : PySem.W.Frag) (c : Es) : TT := fun σ H Q => ∃ F M R env Qd, Wd K F M R H ∧ RelEnv K F env σ ∧ wpT G C c env M Qd ∧ (∀ b M' F' H', Same F F' → Wd K F' M' R H' → Qd b M' → Q b H')
def W0 : WX := fun _ _ _ _ => False
theorem T_nil : PTs X [] (LT G C X.K .nil) := ⟨fun pins s σ H Q I ⟨F, M, R, env, Qd, w, re, h, l⟩ => pts_nil.run pins s σ H Q I (l true M F H (Same.refl F) w h)⟩
theorem T_one {r : Es} (h : PT X x (LB G C X.K W0 a)) : PTs X [x] (LT G C X.K (.cons a r)) := ⟨fun pins s σ H Q I ⟨F, M, R, env, Qd, w, re, h', l⟩ => (pts_one h).run pins s σ H Q I ⟨F, M, R, env, Qd, _, w, re, h', l, fun _ _ _ _ _ _ _ _ _ z => z⟩⟩
theorem optE_of {o : Option EnvD} {k : EnvD → Prop} (h : optE o k) : ∃ e, o = some e ∧ k e := by
  unfold optE at h
  split at h
  · exact ⟨_, rfl, h⟩
  · exact h.elim
theorem drop_cons {α : Type} {l : List α} {i : Nat} (h : i < l.length) : l.drop i = l[i] :: l.drop (i + 1) := List.drop_eq_getElem_cons h
theorem N_comp {elt iter : Expr} {ifs : List Expr} {scope : Scope} {own : List (Str × Nat)} {t : Tgt} {it : I} {cs : Es} (hc : X.calm = true) (hN : X.N.Nodup) (hi : PI X tg iter (LI G C X.K W it)) (ok : BlkOk X.N X.env.scope scope own) (hown : own.map (·.2) = tslots t)
    (hg : ∀ (s : Shared) (H : Hp) (C : Addr) (cl : List (Str × Addr)) (fp : List Addr), PG (X.blk s H scope (compEnvC scope cl C X.env) fp) tg (LG X.K t))
    (ht : ∀ (s : Shared) (H : Hp) (D : Addr) (cl : List (Str × Addr)) (fp : List Addr), PTs (X.blk s H scope (compEnvC scope cl D X.env) fp) ifs (LT G C X.K cs))
    (he : ∀ (s : Shared) (H : Hp) (D : Addr) (cl : List (Str × Addr)) (fp : List Addr), PE (X.blk s H scope (compEnvC scope cl D X.env) fp) elt (LE G C X.K W0 a)) (hs : ∀ x, foldedSetIterable iter X.env x = pure x) :
    PE X (.ListComp elt [⟨tg, iter, ifs, 0⟩] scope pos) (LN G C X.K W (.comp a t it cs)) ∧
    (∀ σ H Q, LN G C X.K W (.comp a t it cs) σ H Q → tLc (LI G C X.K W it) (LG X.K t) (LT G C X.K cs) (LE G C X.K W0 a) (own.map (·.2)) σ H Q) := by
  have core : ∀ σ H Q, LN G C X.K W (.comp a t it cs) σ H Q → tLc (LI G C X.K W it) (LG X.K t) (LT G C X.K cs) (LE G C X.K W0 a) (own.map (·.2)) σ H Q := fun σ H Q h => by
    obtain ⟨F, M, R, env, Qd, Xd, w, re, h, l, lx⟩ := h
    rw [wpN_comp] at h
    refine ⟨F, M, R, env, _, Xd, w, re, h, fun ds g M1 F1 J H1 s1 w1 yl h1 => ?_, lx⟩
    intro D hD
    obtain ⟨hFD, hMD, hRD⟩ := w1.noneM hD
    rw [hown]
    refine ⟨fun i m H => m = ds.length - i ∧ i ≤ ds.length ∧ ∃ F2 M2 accD accV, Same F1 F2 ∧ Wd X.K F2 M2 (upd R D (.lst accV)) H ∧ RelDs X.K F2 accD accV ∧
      compD (fun env M Q => wpE G C a env M (fun _ _ => False) Q) (fun env M Q => wpT G C cs env M Q) t env g (ds.drop i) accD M2 Qd,
      ⟨ds.length, by omega, by omega, F1, M1, [], [], Same.refl F1, w1.hide hD, RelDs.nil, h1⟩, fun i m H2 hW => ?_⟩
    obtain ⟨rfl, hle, F2, M2, accD, accV, s2, w2, ra, hk⟩ := hW
    by_cases hlt : i < ds.length
    · rw [drop_cons hlt] at hk
      rw [compD_cons] at hk
      obtain ⟨hgd, hk⟩ := hk
      refine .inr ⟨yl.go i F2 M2 _ H2 s2 w2 hgd hlt, fun H' => ∃ F2 M2 accD accV, Same F1 F2 ∧ Wd X.K F2 M2 (upd R D (.lst accV)) H' ∧ RelDs X.K F2 accD accV ∧
        compD (fun env M Q => wpE G C a env M (fun _ _ => False) Q) (fun env M Q => wpT G C cs env M Q) t env g (ds.drop (i + 1)) accD M2 Qd, fun H' hn => ⟨ds.length - (i + 1), by omega, rfl, by omega, hn⟩, fun x H3 hy => ?_⟩
      obtain ⟨F3, s3, w3, rx⟩ := yl.yl i F2 M2 _ H2 x H3 _ s2 w2 hgd (List.getElem?_eq_getElem hlt) hy
      have re3 := (re.mono (s1.trans (s2.trans s3)))
      obtain ⟨env', eb, hk⟩ := optE_of hk
      · refine ⟨F3, M2, _, fun j => j ∉ tslots t, _, env, env', w3, ⟨by rw [wipe_length]; exact re3.1, fun j d hj e => ?_⟩, rx, eb, fun σ2 rp hl2 hout => ?_⟩
        · rw [wipe_out hj]
          exact re3.2 j d e
        · refine ⟨wipe_ext (by rw [hl2, wipe_length]) hout, ?_⟩
          have re4 : RelEnv X.K F3 env' σ2 := rp.env fun j => by
            by_cases hj : j ∈ tslots t
            · exact .inr hj
            · exact .inl hj
          refine ⟨F3, M2, _, env', _, w3, re4, hk, fun b M4 F4 H4 s4 w4 h4 => ?_⟩
          cases b with
          | false => exact iteF ⟨F4, M4, accD, accV, s2.trans (s3.trans s4), w4, RelDs.mono (s3.trans s4) _ _ ra, by simpa using h4⟩
          | true =>
            refine iteT ⟨F4, M4, _, env', _, fun _ _ => False, w4, re4.mono s4, by simpa using h4, fun d5 M5 F5 y5 H5 s5 w5 r5 h5 => ?_, fun _ _ _ _ _ _ _ _ _ z => z⟩
            refine ⟨accV, (w5.r D _ upd_same).1, by rw [← ra.length]; exact h5.1, F5, M5, accD ++ [d5], accV ++ [y5], s2.trans (s3.trans (s4.trans s5)), w5.rehide hRD, ?_, h5.2⟩
            exact (RelDs.mono (s3.trans (s4.trans s5)) _ _ ra).append (RelDs.cons r5 RelDs.nil)
    · have ei : i = ds.length := by omega
      subst ei
      rw [List.drop_length] at hk
      rw [compD_nil] at hk
      obtain ⟨hgd, hk⟩ := hk
      refine .inl ⟨yl.st _ F2 M2 _ H2 s2 w2 hgd (Nat.le_refl _), ?_⟩
      obtain ⟨hHD, hF2, hM2⟩ := w2.r D _ upd_same
      have eH : H2 = upd (L2del H2 D) D (.lst accV) := by
        funext b
        by_cases hb : b = D
        · rw [hb, upd_same]; exact hHD
        · rw [upd_ne hb, L2del_ne hb]
      rw [eH]
      refine l accD M2 F2 accV D _ (s1.trans s2) ⟨fun b x e => ?_, fun b c e => ?_, fun b x e => ?_, w2.x.gone hRD hHD⟩ (L2del_same) ra hk
      · have hb : b ≠ D := fun z => by rw [z, hF2] at e; cases e
        rw [L2del_ne hb]
        exact w2.f b x e
      · have hb : b ≠ D := fun z => by rw [z, hM2] at e; cases e
        obtain ⟨h1, o, h2, h3⟩ := w2.m b c e
        exact ⟨h1, o, by rw [L2del_ne hb]; exact h2, h3⟩
      · have hb : b ≠ D := fun z => by rw [z, hRD] at e; cases e
        obtain ⟨h1, h2, h3⟩ := w2.r b x (by rw [upd_ne hb]; exact e)
        exact ⟨by rw [L2del_ne hb]; exact h1, h2, h3⟩
  exact ⟨(pe_lc hc hN hi ok hg ht he hs).wk core, core⟩
/-! ### dict displays -/
inductive PairsOk (G : Nat → SpD) (C : Nat → D) (W : WX) (X : Cx) : List Key → Es → List (Option Expr) → List Expr → Prop
  | nil : PairsOk G C W X [] .nil [] []
  | cons {k : Key} {ks : List Key} {e : E} {r : Es} {kx vx : Expr} {keys : List (Option Expr)} {vals : List Expr} : PE X kx (tC (kV k)) → PE X vx (LE G C X.K W e) → PairsOk G C W X ks r keys vals → PairsOk G C W X (k :: ks) (.cons e r) (some kx :: keys) (vx :: vals)
def trsOf (G : Nat → SpD) (C : Nat → D) (K : PySem.W.Frag) (W : WX) : List Key → Es → List (TE × TE)
  | k :: ks, .cons e r => (tC (kV k), LE G C K W e) :: trsOf G C K W ks r
  | _, _ => []
theorem pairs_pps : ∀ {ks : List Key} {es : Es} {keys : List (Option Expr)} {vals : List Expr}, PairsOk G C W X ks es keys vals → PPs X pos keys vals (trsOf G C X.K W ks es)
  | _, _, _, _, .nil => pps_nil
  | _, _, _, _, .cons hk hv t => pps_cons hk hv (pairs_pps t)
theorem pairs_len : ∀ {ks : List Key} {es : Es} {keys : List (Option Expr)} {vals : List Expr}, PairsOk G C W X ks es keys vals → keys.length = ks.length ∧ vals.length = ks.length ∧ keys.all (·.isSome) = true
  | _, _, _, _, .nil => ⟨rfl, rfl, rfl⟩
  | _, _, _, _, .cons hk hv t => by
    obtain ⟨h1, h2, h3⟩ := pairs_len t
    exact ⟨by simp [h1], by simp [h2], by simpa using h3⟩
theorem pairs_read : ∀ {ks : List Key} {es : Es} {keys : List (Option Expr)} {vals : List Expr}, PairsOk G C W X ks es keys vals → ∀ {F M R env Qd Xd σ H} {Q : List (V × V) → Hp → Prop}, Wd X.K F M R H → RelEnv X.K F env σ → wpEs G C es env M Xd Qd →
    LandsX X.K F R Xd (fun c d H' => W c d σ H') → (∀ ds vs M' F' H', Same F F' → Wd X.K F' M' R H' → RelDs X.K F' ds vs → ds.length = ks.length → Qd ds M' → Q ((ks.map kV).zip vs) H') → tPairs (trsOf G C X.K W ks es) σ H Q
  | _, _, _, _, .nil, F, M, R, env, Qd, Xd, σ, H, Q, w, re, h, lx, l => by
    rw [wpEs_nil] at h
    exact l [] [] M F H (Same.refl F) w RelDs.nil rfl h
  | _, _, _, _, .cons (k := k) hk hv t, F, M, R, env, Qd, Xd, σ, H, Q, w, re, h, lx, l => by
    rw [wpEs_cons] at h
    refine ⟨F, M, R, env, _, Xd, w, re, h, fun d M1 F1 v H1 s1 w1 r1 h1 => ?_, lx⟩
    refine pairs_read t w1 (re.mono s1) h1 (lx.mono s1) fun ds vs M2 F2 H2 s2 w2 r2 e2 h2 => ?_
    exact l (d :: ds) (v :: vs) M2 F2 H2 (s1.trans s2) w2 (RelDs.cons (RelD.mono s2 _ _ r1) r2) (by simp [e2]) h2
theorem putK_new : ∀ {kvs : List (Key × V)} {k : Key} {v : V}, k ∉ kvs.map (·.1) → L2.putK kvs k v = kvs ++ [(k, v)] := fun {kvs k v} h => by
  unfold L2.putK
  rw [if_neg]
  intro hc
  rw [List.any_eq_true] at hc
  obtain ⟨p, hp, e⟩ := hc
  exact h (List.mem_map.mpr ⟨p, hp, of_decide_eq_true e⟩)
theorem mergeK_nodup : ∀ (more kvs : List (Key × V)), ((kvs ++ more).map (·.1)).Nodup → mergeK kvs more = kvs ++ more
  | [], kvs, _ => by show kvs = _; rw [List.append_nil]
  | p :: r, kvs, h => by
    show mergeK (L2.putK kvs p.1 p.2) r = _
    have hn : p.1 ∉ kvs.map (·.1) := by
      intro hm
      rw [List.map_append, List.map_cons] at h
      have := (List.nodup_append.mp h).2.2 _ hm _ List.mem_cons_self
      exact this rfl
    rw [putK_new hn, mergeK_nodup r (kvs ++ [(p.1, p.2)]) (by simpa using h)]
    simp
theorem dsp_core {ks : List Key} {es : Es} {keys : List (Option Expr)} {vals : List Expr} (ok : PairsOk G C W X ks es keys vals) (h0 : ks ≠ []) (nd : ks.Nodup) (h15 : ks.length ≤ 15) {t : TE}
    (k : ∀ σ H Q, t σ H Q → ∃ F M R env Qd Xd, Wd X.K F M R H ∧ RelEnv X.K F env σ ∧ wpEs G C es env M Xd Qd ∧ LandsX X.K F R Xd (fun c d H' => W c d σ H') ∧
      ∀ ds M' F' p kvs H', Same F F' → Wd X.K F' M' R H' → H' p = none → kvs.map (·.1) = ks → RelDs X.K F' ds (kvs.map (·.2)) → Qd ds M' → Q (.ref p) (upd H' p (.dK kvs))) : PE X (.Dict keys vals pos) t := by
  obtain ⟨h1, h2, h3⟩ := pairs_len ok
  refine (pe_disp (pairs_pps ok) h3 (by omega) (fun e => h0 (by rw [e] at h1; exact List.length_eq_zero_iff.mp h1.symm)) (by omega)).wk fun σ H Q h => ?_
  obtain ⟨F, M, R, env, Qd, Xd, w, re, h, lx, l⟩ := k σ H Q h
  intro p hp
  obtain ⟨hF, hM, hR⟩ := w.noneM hp
  refine pairs_read ok (w.hide (o := .dK []) hp) re h ?_ fun ds vs M2 F2 H2 s2 w2 r2 e2 h2 => ?_
  · intro x M' F' c d H' s w' r q
    refine lx x M' F' c d H' s ⟨w'.f, w'.m, fun b o e => ?_, w'.x.out hR⟩ r q
    have hb : b ≠ p := fun z => by rw [z, hR] at e; cases e
    exact w'.r b o (by rw [upd_ne hb]; exact e)
  · obtain ⟨hHp, hF2, hM2⟩ := w2.r p _ upd_same
    have el : vs.length = ks.length := by rw [← r2.length, e2]
    have em : (ks.zip vs).map (·.1) = ks := List.map_fst_zip (by omega)
    have es' : (ks.zip vs).map (·.2) = vs := List.map_snd_zip (by omega)
    refine ⟨hHp, ks.zip vs, ?_, by rw [List.length_zip]; omega, ?_⟩
    · rw [List.zip_map_left]
      rfl
    · rw [mergeK_nodup (ks.zip vs) [] (by rw [List.nil_append, em]; exact nd), List.nil_append]
      have eH : upd H2 p (.dK (ks.zip vs)) = upd (L2del H2 p) p (.dK (ks.zip vs)) := by
        funext b
        by_cases hb : b = p
        · rw [hb, upd_same, upd_same]
        · rw [upd_ne hb, upd_ne hb, L2del_ne hb]
      rw [eH]
      refine l ds M2 F2 p (ks.zip vs) _ s2 ⟨fun b x e => ?_, fun b c e => ?_, fun b x e => ?_, w2.x.gone hR hHp⟩ L2del_same em (by rw [es']; exact r2) h2
      · have hb : b ≠ p := fun z => by rw [z, hF2] at e; cases e
        rw [L2del_ne hb]
        exact w2.f b x e
      · have hb : b ≠ p := fun z => by rw [z, hM2] at e; cases e
        obtain ⟨h1, o, h2, h3⟩ := w2.m b c e
        exact ⟨h1, o, by rw [L2del_ne hb]; exact h2, h3⟩
      · have hb : b ≠ p := fun z => by rw [z, hR] at e; cases e
        obtain ⟨h1, h2, h3⟩ := w2.r b x (by rw [upd_ne hb]; exact e)
        exact ⟨by rw [L2del_ne hb]; exact h1, h2, h3⟩
theorem n_dfr {ks : List Key} {es : Es} {keys : List (Option Expr)} {vals : List Expr} (ok : PairsOk G C W X ks es keys vals) (h0 : ks ≠ []) (nd : ks.Nodup) (h15 : ks.length ≤ 15) : PE X (.Dict keys vals pos) (LE G C X.K W (.dfr ks es)) := by
  refine dsp_core ok h0 nd h15 fun σ H Q h => ?_
  obtain ⟨F, M, R, env, Qd, Xd, w, re, h, l, lx⟩ := h
  rw [wpE_dfr] at h
  refine ⟨F, M, R, env, _, Xd, w, re, h, lx, fun ds M' F' p kvs H' s w' hp ek rd q => ?_⟩
  have sm := same_upd (o := HO.dK kvs) (w'.noneM hp).1
  exact l (.dct ks ds) M' _ _ _ (s.trans sm) (w'.laid hp) ⟨p, kvs, rfl, .inl upd_same, ek, RelDs.mono sm _ _ rd⟩ q
theorem n_dce {ks : List Key} {es : Es} {keys : List (Option Expr)} {vals : List Expr} (ok : PairsOk G C W X ks es keys vals) (h0 : ks ≠ []) (nd : ks.Nodup) (h15 : ks.length ≤ 15) : PE X (.Dict keys vals pos) (LE G C X.K W (.dce ks es)) := by
  refine dsp_core ok h0 nd h15 fun σ H Q h => ?_
  obtain ⟨F, M, R, env, Qd, Xd, w, re, h, l, lx⟩ := h
  rw [wpE_dce] at h
  refine ⟨F, M, R, env, _, Xd, w, re, h, lx, fun ds M' F' p kvs H' s w' hp ek rd q => ?_⟩
  exact l (.ref p) _ F' _ _ s (w'.cell (c := .dct ks ds) hp ⟨kvs, rfl, ek, rd⟩) rfl (q p (w'.noneM hp).2.1)
theorem n_dfr0 : PE X (.Dict [] [] pos) (LE G C X.K W (.dfr [] .nil)) := by
  refine pe_dnewK.wk fun σ H Q h => ?_
  obtain ⟨F, M, R, env, Qd, Xd, w, re, h, l, lx⟩ := h
  rw [wpE_dfr, wpEs_nil] at h
  intro p hp
  have sm := same_upd (o := HO.dK []) (w.noneM hp).1
  exact l (.dct [] []) M _ _ _ sm (w.laid hp) ⟨p, [], rfl, .inl upd_same, rfl, rfl⟩ h
theorem n_dce0 : PE X (.Dict [] [] pos) (LE G C X.K W (.dce [] .nil)) := by
  refine pe_dnewK.wk fun σ H Q h => ?_
  obtain ⟨F, M, R, env, Qd, Xd, w, re, h, l, lx⟩ := h
  rw [wpE_dce, wpEs_nil] at h
  intro p hp
  exact l (.ref p) _ F _ _ (Same.refl F) (w.cell (c := .dct [] []) hp ⟨[], rfl, rfl, rfl⟩) rfl (h p (w.noneM hp).2.1)
end
end PD

/-! PD: statements, one node at a time -/
namespace PD
open PySem PySem.Spec PyProof.Rows L2
variable [Tb]

structure LandsK (K : PySem.W.Frag) (F R : Hp) (W : WX) (Kd : EndsD) (Dn : Ends) : Prop where
  nx : ∀ env M F' σ H', Same F F' → Wd K F' M R H' → RelEnv K F' env σ → Kd.nx env M → Dn.nx σ H'
  rt : Lands K F R Kd.rt Dn.rt
  bk : ∀ env M F' σ H', Same F F' → Wd K F' M R H' → RelEnv K F' env σ → Kd.bk env M → Dn.bk σ H'
  ct : ∀ env M F' σ H', Same F F' → Wd K F' M R H' → RelEnv K F' env σ → Kd.ct env M → Dn.ct σ H'
  ex : ∀ x env M F' σ c d H', Same F F' → Wd K F' M R H' → RelEnv K F' env σ → RelX K F' H' x c d → Kd.ex x env M → W c d σ H'
theorem LandsK.mono {K : PySem.W.Frag} {F F1 R : Hp} {W : WX} {Kd : EndsD} {Dn : Ends} (s : Same F F1) (l : LandsK K F R W Kd Dn) : LandsK K F1 R W Kd Dn :=
  ⟨fun env M F' σ H' s1 => l.nx env M F' σ H' (s.trans s1), l.rt.mono s, fun env M F' σ H' s1 => l.bk env M F' σ H' (s.trans s1), fun env M F' σ H' s1 => l.ct env M F' σ H' (s.trans s1), fun x env M F' σ c d H' s1 => l.ex x env M F' σ c d H' (s.trans s1)⟩
theorem LandsK.lx {K : PySem.W.Frag} {F R : Hp} {W : WX} {Kd : EndsD} {Dn : Ends} (l : LandsK K F R W Kd Dn) {env : EnvD} {σ : L2.St} (re : RelEnv K F env σ) : LandsX K F R (fun x M => Kd.ex x env M) (fun c d H' => W c d σ H') :=
  fun x M F' c d H' s w r q => l.ex x env M F' σ c d H' s w (re.mono s) r q

section
variable (G : Nat → SpD) (C : Nat → D) (K : PySem.W.Frag) (W : WX)
def LS (s : S) : TS := fun Dn σ H => ∃ F M R env Kd, Wd K F M R H ∧ RelEnv K F env σ ∧ wpS G C s env M Kd ∧ LandsK K F R W Kd Dn
def LSs (s : Ss) : TS := fun Dn σ H => ∃ F M R env Kd, Wd K F M R H ∧ RelEnv K F env σ ∧ wpSs G C s env M Kd ∧ LandsK K F R W Kd Dn
end
theorem _root_.L2.PS.wk {X : Cx} {e : Stmt} {t t' : TS} (h : PS X e t) (k : ∀ D σ H, t' D σ H → t D σ H) : PS X e t' := ⟨fun pins s σ H D I q => h.run pins s σ H D I (k D σ H q)⟩
theorem _root_.L2.PSs.wk {X : Cx} {e : List Stmt} {t t' : TS} (h : PSs X e t) (k : ∀ D σ H, t' D σ H → t D σ H) : PSs X e t' := ⟨fun pins s σ H D I q => h.run pins s σ H D I (k D σ H q)⟩

section
variable {G : Nat → SpD} {C : Nat → D} {X : Cx} {W : WX} {x y z tg : Expr} {a b c : E} {pos : Pos} {st : Stmt} {sts sts2 : List Stmt} {s : S} {r r2 : Ss}
theorem ss_nil : PSs X [] (LSs G C X.K W .nil) := pss_nil.wk fun D σ H ⟨F, M, R, env, Kd, w, re, h, l⟩ => l.nx env M F σ H (Same.refl F) w re (by rw [wpSs_nil] at h; exact h)
theorem ss_cons (h1 : PS X st (LS G C X.K W s)) (h2 : PSs X sts (LSs G C X.K W r)) : PSs X (st :: sts) (LSs G C X.K W (.cons s r)) := by
  refine (pss_cons h1 h2).wk fun D σ H h => ?_
  obtain ⟨F, M, R, env, Kd, w, re, h, l⟩ := h
  rw [wpSs_cons] at h
  exact ⟨F, M, R, env, _, w, re, h, ⟨fun e M1 F1 σ1 H1 s1 w1 re1 q => ⟨F1, M1, R, e, Kd, w1, re1, q, l.mono s1⟩, l.rt, l.bk, l.ct, l.ex⟩⟩
theorem ss_frz {i : Nat} (h2 : PSs X sts (LSs G C X.K W r)) : PSs X sts (LSs G C X.K W (.cons (.frz i) r)) := by
  refine h2.wk fun D σ H h => ?_
  obtain ⟨F, M, R, env, Kd, w, re, h, l⟩ := h
  rw [wpSs_cons, wpS_frz] at h
  unfold frzD at h
  split at h
  · rename_i p e
    obtain ⟨v, ev, rv⟩ := re.2 i _ e
    cases (show v = _ from rv)
    have setr : ∀ {F1 : Hp} {d : PD.D}, Same F F1 → RelD X.K F1 d (.ref p) → RelEnv X.K F1 (env.set i (some d)) σ := fun {F1 d} s1 rd => by
      refine ⟨by rw [List.length_set]; exact re.1, fun j d' e' => ?_⟩
      by_cases hj : j = i
      · subst hj
        have hlt : j < env.length := (List.getElem?_eq_some_iff.mp e).1
        rw [List.getElem?_set_self hlt] at e'
        cases e'
        exact ⟨_, ev, rd⟩
      · rw [List.getElem?_set_ne (Ne.symm hj)] at e'
        obtain ⟨v', h1, h2⟩ := re.2 j d' e'
        exact ⟨v', h1, RelD.mono s1 _ _ h2⟩
    split at h
    · rename_i l' em
      obtain ⟨hF, o, hH, vs, rfl, rr⟩ := w.m _ _ em
      obtain ⟨w', sm⟩ := w.freeze em hH
      exact ⟨_, _, R, _, Kd, w', setr (d := .lst l') sm ⟨p, vs, rfl, .inl upd_same, RelDs.mono sm _ _ rr⟩, h, l.mono sm⟩
    · rename_i ks l' em
      obtain ⟨hF, o, hH, kvs, rfl, ek, rr⟩ := w.m _ _ em
      obtain ⟨w', sm⟩ := w.freeze em hH
      exact ⟨_, _, R, _, Kd, w', setr (d := .dct ks l') sm ⟨p, kvs, rfl, .inl upd_same, ek, RelDs.mono sm _ _ rr⟩, h, l.mono sm⟩
    · exact h.elim
  · exact h.elim
/-! ### assignments -/
def notComp : Expr → Bool
  | .ListComp _ _ _ _ | .SetComp _ _ _ _ | .DictComp _ _ _ _ _ => false
  | _ => true
theorem sw_false {env : Env} {t : Option Expr} {l : Nat} (h : notComp x = true) : swapsWith x t l env = pure false := by
  cases x <;> first | rfl | (cases h)
def nameTgt : Expr → Bool
  | .Name _ _ => true
  | _ => false
def notTup : Expr → Bool
  | .Tuple _ _ _ => false
  | _ => true
theorem sole_false {env : Env} {l : Nat} (h : notComp x = true ∨ nameTgt tg = false) : swapsWithSole [tg] x l env = pure false := by
  show swapsWith x (some tg) l env = pure false
  rcases h with h | h
  · exact sw_false h
  · cases x <;> first | rfl | (cases tg <;> first | rfl | (cases h))
theorem st_none {env : Env} (h : nameTgt tg = true ∨ notTup x = true) : swappedStores [tg] x env = pure none := by
  rcases h with h | h
  · cases tg <;> first | (cases h; done) | skip
    cases x <;> rfl
  · cases x <;> first | (cases h; done) | skip
    all_goals (cases tg <;> rfl)
/-- a tuple of names, one of them a cell -/
theorem st_cell {env : Env} {ts : List Expr} {k : Nat} {p : Pos} {n : Str} {q : Pos} (hm : Expr.Name n q ∈ ts) (hc : env.kindOf n = some .cell) : swappedStores [.Tuple ts k p] x env = pure none := by
  cases x with
  | Tuple vs k2 p2 =>
    have lt : ((ts.filterMap fun
      | .Name id pos => if env.kindOf id == some .local && pos.line == (ts.head?.map (·.pos.line)).getD 0 then some id else none
      | _ => none).length != ts.length) = true := by
      rw [bne_iff_ne]
      intro e
      have := (List.filterMap_length_eq_length.mp e) _ hm
      simp only [hc] at this
      cases this
    unfold swappedStores
    dsimp only
    split
    · rfl
    · split
      · rfl
      · rw [if_pos (by rw [Bool.or_eq_true]; exact .inl lt)]
  | _ => rfl
/-- a tuple that is told ahead of all runs -/
def foldTup : Expr → Bool
  | .Tuple vs _ _ => vs.all (foldedForSure 8)
  | _ => false
theorem st_fold {env : Env} (h : foldTup x = true) : swappedStores [tg] x env = pure none := by
  cases x <;> first | (cases h; done) | skip
  rename_i vs k p
  have h : vs.all (foldedForSure 8) = true := h
  unfold swappedStores
  cases tg <;> first | rfl | skip
  all_goals
    dsimp only
    split
    · rfl
    · split
      · rfl
      · split
        · rfl
        · first | rfl | rw [if_pos h]
theorem each_one {env : Env} (h : noStar tg = true) : (assignEach [tg] env).map (·.2) = [assign tg env] := by
  cases tg <;> first | rfl | (cases h)
def noSlice : Expr → Bool
  | .Slice _ _ _ _ => false
  | _ => true
theorem set_read {t : Tgt} {D : Ends} {σ : L2.St} {H : Hp} (h : LS G C X.K W (.set t a) D σ H) : tAsg (LE G C X.K W a) (LG X.K t) D σ H := by
  obtain ⟨F, M, R, env, Kd, w, re, h, l⟩ := h
  rw [wpS_set] at h
  refine ⟨F, M, R, env, _, _, w, re, h, fun d M1 F1 v H1 s1 w1 r1 h1 => ?_, l.lx re⟩
  obtain ⟨env', eb, q⟩ := optE_of h1
  refine ⟨F1, M1, R, fun _ => True, d, env, env', w1, (re.mono s1).p, r1, eb, fun σ' rp _ _ => ?_⟩
  exact l.nx env' M1 F1 σ' H1 s1 w1 (rp.env fun _ => .inl trivial) q
theorem s_set {t : Tgt} (he : PE X x (LE G C X.K W a)) (hg : PG X tg (LG X.K t)) (h1 : notComp x = true ∨ nameTgt tg = false) (h2 : swappedStores [tg] x X.env = pure none) (hst : noStar tg = true) : PS X (.Assign [tg] x pos) (LS G C X.K W (.set t a)) :=
  (ps_asg he hg (sole_false h1) h2 (each_one hst)).wk fun D σ H h => set_read h
/-- [tg] = a comprehension of which the result is dropped: swapsWith false by the scope -/
theorem s_setW {t : Tgt} (he : PE X x (LE G C X.K W a)) (hg : PG X tg (LG X.K t)) (h1 : swapsWithSole [tg] x pos.line X.env = pure false) (h2 : swappedStores [tg] x X.env = pure none) (hst : noStar tg = true) : PS X (.Assign [tg] x pos) (LS G C X.K W (.set t a)) :=
  (ps_asg he hg h1 h2 (each_one hst)).wk fun D σ H h => set_read h
theorem s_six {o i : Expr} {p' : Pos} (hu : X.A.units + 64 < cLine) (he : PE X x (LE G C X.K W c)) (ho : PE X o (LE G C X.K W a)) (hi : PE X i (LE G C X.K W b)) (hsl : noSlice i = true) : PS X (.Assign [.Subscript o i p'] x pos) (LS G C X.K W (.six a b c)) := by
  refine (ps_asg he (pg_sub ho hi (set_any (by omega)) (by intro v; cases i <;> first | rfl | (cases hsl))) (sole_false (.inr rfl)) (by cases x <;> rfl)).wk fun D σ H h => ?_
  obtain ⟨F, M, R, env, Kd, w, re, h, l⟩ := h
  rw [wpS_six] at h
  refine ⟨F, M, R, env, _, _, w, re, h, fun d M1 F1 v H1 s1 w1 r1 h1 => ?_, l.lx re⟩
  refine ⟨F1, M1, R, env, _, _, w1, re.mono s1, h1, fun d2 M2 F2 v2 H2 s2 w2 r2 h2 => ?_, (l.lx re).mono s1⟩
  refine ⟨F2, M2, R, env, _, _, w2, re.mono (s1.trans s2), h2, fun d3 M3 F3 v3 H3 s3 w3 r3 h3 => ?_, (l.lx re).mono (s1.trans s2)⟩
  exact ⟨F3, M3, R, d2, d3, d, _, w3, RelD.mono s3 _ _ r2, r3, RelD.mono (s2.trans s3) _ _ r1, h3, fun M4 H4 w4 q => l.nx env M4 F3 σ H4 (s1.trans (s2.trans s3)) w4 (re.mono (s1.trans (s2.trans s3))) q⟩
theorem s_exp (he : PE X x (LE G C X.K W a)) (hn : notComp x = true) : PS X (.Expr x pos) (LS G C X.K W (.exp a)) := by
  refine (ps_expr he (sw_false hn)).wk fun D σ H h => ?_
  obtain ⟨F, M, R, env, Kd, w, re, h, l⟩ := h
  rw [wpS_exp] at h
  exact ⟨F, M, R, env, _, _, w, re, h, fun d M1 F1 v H1 s1 w1 r1 h1 => l.nx env M1 F1 σ H1 s1 w1 (re.mono s1) h1, l.lx re⟩
theorem s_ret (he : PE X x (LE G C X.K W a)) : PS X (.Return (some x) pos) (LS G C X.K W (.ret a)) := by
  refine (ps_ret he).wk fun D σ H h => ?_
  obtain ⟨F, M, R, env, Kd, w, re, h, l⟩ := h
  rw [wpS_ret] at h
  exact ⟨F, M, R, env, _, _, w, re, h, l.rt, l.lx re⟩
theorem s_ite (hc : PT X x (LB G C X.K W a)) (h1 : PSs X sts (LSs G C X.K W r)) (h2 : PSs X sts2 (LSs G C X.K W r2)) : PS X (.If x sts sts2 pos) (LS G C X.K W (.ite a r r2)) := by
  refine (ps_if hc h1 h2).wk fun D σ H h => ?_
  obtain ⟨F, M, R, env, Kd, w, re, h, l⟩ := h
  rw [wpS_ite] at h
  refine ⟨F, M, R, env, _, _, w, re, h, fun k M1 F1 H1 s1 w1 h1 => ?_, l.lx re⟩
  cases k with
  | true => exact iteT ⟨F1, M1, R, env, Kd, w1, re.mono s1, by simpa using h1, l.mono s1⟩
  | false => exact iteF ⟨F1, M1, R, env, Kd, w1, re.mono s1, by simpa using h1, l.mono s1⟩
theorem s_brk : PS X (.Break pos) (LS G C X.K W .brk) := ps_break.wk fun D σ H ⟨F, M, R, env, Kd, w, re, h, l⟩ => l.bk env M F σ H (Same.refl F) w re (by rw [wpS_brk] at h; exact h)
theorem s_cont : PS X (.Continue pos) (LS G C X.K W .cont) := ps_continue.wk fun D σ H ⟨F, M, R, env, Kd, w, re, h, l⟩ => l.ct env M F σ H (Same.refl F) w re (by rw [wpS_cont] at h; exact h)
theorem s_pass : PS X (.Pass pos) (LS G C X.K W .pass) := ps_pass.wk fun D σ H ⟨F, M, R, env, Kd, w, re, h, l⟩ => l.nx env M F σ H (Same.refl F) w re (by rw [wpS_pass] at h; exact h)
theorem s_nev : PS X st (LS G C X.K W .nev) := ps_never.wk fun D σ H ⟨F, M, R, env, Kd, w, re, h, l⟩ => by rw [wpS_nev] at h; exact h
/-! ### loops -/
theorem s_whl (hp : PassesOwn (model X.prog X.w) X.A X.env X.xe) (hc : PT X x (LB G C X.K W a)) (hb : PSs X sts (LSs G C X.K W r)) : PS X (.While x sts [] pos) (LS G C X.K W (.whl a r)) := by
  refine (ps_while hp hc hb).wk fun D σ H h => ?_
  obtain ⟨F, M, R, env, Kd, w, re, h, l⟩ := h
  rw [wpS_whl] at h
  obtain ⟨J, ⟨n0, j0⟩, turn⟩ := h
  refine ⟨fun m σ H => ∃ F2 M2 env2, Same F F2 ∧ Wd X.K F2 M2 R H ∧ RelEnv X.K F2 env2 σ ∧ J m env2 M2, ⟨n0, F, M, env, Same.refl F, w, re, j0⟩, fun m σ1 H1 hW => ?_⟩
  obtain ⟨F2, M2, env2, s2, w2, re2, j2⟩ := hW
  refine ⟨F2, M2, R, env2, _, _, w2, re2, turn m env2 M2 j2, fun k M3 F3 H3 s3 w3 h3 => ?_, (l.mono s2).lx re2⟩
  cases k with
  | false => exact iteF (l.nx env2 M3 F3 σ1 H3 (s2.trans s3) w3 (re2.mono s3) (by simpa using h3))
  | true =>
    refine iteT ⟨fun σ' H' => ∃ k, k < m ∧ ∃ F2 M2 env2, Same F F2 ∧ Wd X.K F2 M2 R H' ∧ RelEnv X.K F2 env2 σ' ∧ J k env2 M2, fun σ' H' hN => ?_, F3, M3, R, env2, _, w3, re2.mono s3, by simpa using h3, ?_⟩
    · obtain ⟨k, hk, q⟩ := hN
      exact ⟨k, hk, q⟩
    · refine ⟨fun e M4 F4 σ4 H4 s4 w4 re4 q => ?_, (l.mono (s2.trans s3)).rt, fun e M4 F4 σ4 H4 s4 w4 re4 q => l.nx e M4 F4 σ4 H4 (s2.trans (s3.trans s4)) w4 re4 q, fun e M4 F4 σ4 H4 s4 w4 re4 q => ?_, (l.mono (s2.trans s3)).ex⟩
      · obtain ⟨k, hk, j⟩ := q
        exact ⟨k, hk, F4, M4, e, s2.trans (s3.trans s4), w4, re4, j⟩
      · obtain ⟨k, hk, j⟩ := q
        exact ⟨k, hk, F4, M4, e, s2.trans (s3.trans s4), w4, re4, j⟩
theorem s_for {iter : Expr} {t : Tgt} {it : I} (hp : PassesOwn (model X.prog X.w) X.A X.env X.xe) (hc : X.calm = true) (hi : PI X tg iter (LI G C X.K W it)) (hg : PG X tg (LG X.K t)) (hb : PSs X sts (LSs G C X.K W r)) (hs : ∀ x, foldedSetIterable iter X.env x = pure x) :
    PS X (.For tg iter sts [] pos) (LS G C X.K W (.for_ t it r)) := by
  refine (ps_for hp hc hi hg hb hs).wk fun D σ H h => ?_
  obtain ⟨F, M, R, env, Kd, w, re, h, l⟩ := h
  rw [wpS_for] at h
  refine ⟨F, M, R, env, _, _, w, re, h, fun ds g M1 F1 J H1 s1 w1 yl h1 => ?_, l.lx re⟩
  refine ⟨fun i m σ H => m = ds.length - i ∧ i ≤ ds.length ∧ ∃ F2 M2 env2, Same F1 F2 ∧ Wd X.K F2 M2 R H ∧ RelEnv X.K F2 env2 σ ∧ forD (wpSs G C r) t g Kd (ds.drop i) env2 M2,
    ⟨ds.length, by omega, by omega, F1, M1, env, Same.refl F1, w1, re.mono s1, h1⟩, fun i m σ2 H2 hW => ?_⟩
  obtain ⟨rfl, hle, F2, M2, env2, s2, w2, re2, hk⟩ := hW
  by_cases hlt : i < ds.length
  · rw [drop_cons hlt] at hk
    rw [forD_cons] at hk
    obtain ⟨hgd, hk⟩ := hk
    refine .inr ⟨yl.go i F2 M2 _ H2 s2 w2 hgd hlt, fun σ' H' => ∃ F2 M2 env2, Same F1 F2 ∧ Wd X.K F2 M2 R H' ∧ RelEnv X.K F2 env2 σ' ∧ forD (wpSs G C r) t g Kd (ds.drop (i + 1)) env2 M2, fun σ' H' hn => ⟨ds.length - (i + 1), by omega, rfl, by omega, hn⟩, fun x H3 hy => ?_⟩
    obtain ⟨F3, s3, w3, rx⟩ := yl.yl i F2 M2 _ H2 x H3 _ s2 w2 hgd (List.getElem?_eq_getElem hlt) hy
    obtain ⟨env', eb, hk⟩ := optE_of hk
    refine ⟨F3, M2, R, fun _ => True, _, env2, env', w3, (re2.mono s3).p, rx, eb, fun σ3 rp _ _ => ?_⟩
    refine ⟨F3, M2, R, env', _, w3, rp.env fun _ => .inl trivial, hk, ?_⟩
    have sA := s1.trans (s2.trans s3)
    exact ⟨fun e M4 F4 σ4 H4 s4 w4 re4 q => ⟨F4, M4, e, s2.trans (s3.trans s4), w4, re4, q⟩, (l.mono sA).rt, fun e M4 F4 σ4 H4 s4 w4 re4 q => l.nx e M4 F4 σ4 H4 (sA.trans s4) w4 re4 q,
      fun e M4 F4 σ4 H4 s4 w4 re4 q => ⟨F4, M4, e, s2.trans (s3.trans s4), w4, re4, q⟩, (l.mono sA).ex⟩
  · have ei : i = ds.length := by omega
    subst ei
    rw [List.drop_length] at hk
    rw [forD_nil] at hk
    obtain ⟨hgd, hk⟩ := hk
    exact .inl ⟨yl.st _ F2 M2 _ H2 s2 w2 hgd (Nat.le_refl _), l.nx env2 M2 F2 σ2 H2 (s1.trans s2) w2 re2 hk⟩
/-! ### a, b = e1, e2 -/
theorem s_par {i j : Nat} {n1 n2 : Str} {px py pt pt2 : Pos} {kt k2 : Nat} (hc : X.calm = true) (hN : X.N.Nodup) (hi : X.N[i]? = some n1) (hj : X.N[j]? = some n2) (hij : i ≠ j)
    (hx : X.env.scope.names.lookup n1 = some .local) (hy : X.env.scope.names.lookup n2 = some .local) (ha : PE X x (LE G C X.K W a)) (hb : PE X y (LE G C X.K W b)) (hs1 : noStar x = true) (hs2 : noStar y = true)
    (hw : swappedStores [.Tuple [.Name n1 px, .Name n2 py] kt pt] (.Tuple [x, y] k2 pt2) X.env = pure (some [n1, n2])) :
    PS X (.Assign [.Tuple [.Name n1 px, .Name n2 py] kt pt] (.Tuple [x, y] k2 pt2) pos) (LS G C X.K W (.par i j a b)) := by
  refine (ps_par hc hN hi hj hij hx hy (pa_cons ha (pa_cons hb pa_nil (star_cons hs2)) (star_cons hs1)) hw).wk fun D σ H h => ?_
  obtain ⟨F, M, R, env, Kd, w, re, h, l⟩ := h
  rw [wpS_par] at h
  refine ⟨F, M, R, env, _, _, w, re, h, fun d M1 F1 v H1 s1 w1 r1 h1 => ?_, l.lx re⟩
  refine ⟨F1, M1, R, env, _, _, w1, re.mono s1, h1, fun d2 M2 F2 v2 H2 s2 w2 r2 h2 => ?_, (l.lx re).mono s1⟩
  refine ⟨v, v2, rfl, l.nx _ M2 F2 _ H2 (s1.trans s2) w2 ?_ h2⟩
  have := (((re.mono (s1.trans s2)).p (P := fun _ => True)).set (RelD.mono s2 _ _ r1) i).set r2 j
  exact this.env fun _ => .inl (.inl trivial)
end
end PD

set_option maxHeartbeats 4000000
/-! PD: errors raised, caught, asked; defs as values -/
namespace PD
open PySem PySem.Spec PyProof.Rows L2
variable [Tb]
/-- what is to be known of the program's errors and defs -/
inductive XF where
  | rse (c : Str) | exm (a b : Str) | kit (a b : Str) | exc (a : Str) | fnv (a : Str) | noat (c f : Str)
deriving DecidableEq
/-- what stands by a class's name: a class of the program, or a built-in one -/
def ClsVal (K : PySem.W.Frag) (b : Str) (u : Value) : Prop := (∃ B, ClsAt K b B ∧ u = .ref B) ∨ (PySem.W.nsIn K mainGlobals b = some none ∧ ∃ n, u = .type n ∧ bootBuiltins b = some (.type n) ∧ b ≠ "__name__")
def XFact (K : PySem.W.Frag) : XF → Prop
  | .rse c => ∃ C, ClsAt K c C ∧ PySem.W.excIn K C [.type "ValueError", .type "Exception", .type "BaseException", .type "object"] "ValueError.__new__" = true ∧ PySem.W.keepIn K (.ref C) = true ∧ PySem.W.subIn K (.ref C) (.type "BaseException") = some true ∧ PySem.W.typeIn K (.ref C) = some (.type "type")
  | .exm a b => ∃ A B, ClsAt K a A ∧ ClsAt K b B ∧ PySem.W.exmOne K (.ref A) (.ref B) = some (subX a b)
  | .kit a b => ∃ A u, ClsAt K a A ∧ ClsVal K b u ∧ PySem.W.kitOne K (.ref A) u = some (subX a b)
  | .exc a => ∃ A, ClsAt K a A ∧ ExcC K A
  | .fnv a => ∃ f, ClsAt K a f
  | .noat c f => ∃ A, ClsAt K c A ∧ Cls K A ∧ NoAttr K A f
def MgOk (K : PySem.W.Frag) (mg : Str → Option Value) : Prop := (∀ x v, PySem.W.nsIn K mainGlobals x = some (some v) → mg x = some v) ∧ ∀ x, PySem.W.nsIn K mainGlobals x = some none → mg x = none
theorem kit_ref {K : PySem.W.Frag} {A B : Addr} {b : Bool} (hd : PySem.W.hasDictIn K B = true) (ht : PySem.W.typeIn K (.ref B) = some (.type "type")) (hs : PySem.W.subIn K (.ref A) (.ref B) = some b) (hn : A = B → b = true) : PySem.W.kitOne K (.ref A) (.ref B) = some b := by
  obtain ⟨cd, hc, _⟩ := PySem.W.any_some hd
  unfold PySem.W.kitOne
  by_cases h : A = B
  · subst h
    rw [hn rfl, if_pos (by simp)]
  · rw [if_neg (by simpa using h)]
    unfold PySem.W.kitCls
    have e : ((PySem.W.clsIn K B).isSome && PySem.W.typeIn K (.ref B) == some (.type "type")) = true := by rw [hc, ht] <;> rfl
    dsimp only
    rw [if_pos e]
    exact hs
theorem kit_typ {K : PySem.W.Frag} {A : Addr} {T : String} {b : Bool} (hm : PySem.W.kitMeta T = true) (hs : PySem.W.subIn K (.ref A) (.type T) = some b) : PySem.W.kitOne K (.ref A) (.type T) = some b := by
  unfold PySem.W.kitOne
  rw [if_neg (by simp)]
  unfold PySem.W.kitCls
  dsimp only
  rw [if_pos hm]
  exact hs
theorem ClsVal.eq {K : PySem.W.Frag} {b : Str} {u u' : Value} (h : ClsVal K b u) (k : ClsVal K b u') : u = u' := by
  rcases h with ⟨B, h1, rfl⟩ | ⟨h1, n, rfl, h2, _⟩
  · rcases k with ⟨B', k1, rfl⟩ | ⟨k1, _⟩
    · rw [h1.eq k1]
    · unfold ClsAt at h1
      rw [h1] at k1
      cases k1
  · rcases k with ⟨B', k1, rfl⟩ | ⟨k1, n', rfl, k2, _⟩
    · unfold ClsAt at k1
      rw [h1] at k1
      cases k1
    · rw [h2] at k2
      cases k2
      rfl
section
variable {X : Cx}
/-- isinstance(e, c), e a caught error that is known -/
theorem call_isX : CallR X (.builtin "isinstance") (fun vs H Q => ∃ a A cv u b, vs = [.ref a, cv] ∧ H a = some (ExcO a (.ref A) none) ∧ ExcC X.K A ∧ ClsV cv u ∧ PySem.W.kitOne X.K (.ref A) u = some b ∧ Q (.bl b) H) := by
  intro pins s σ H xs us Q I r h
  obtain ⟨a, A, cv, u, b, rfl, hH, hE, hk, e, q⟩ := h
  obtain ⟨u1, u2, rfl, r1, r2⟩ := vals2 r
  cases r1
  have e2 := hk.eq r2
  subst e2
  obtain ⟨⟨oe, fv, g1, g2, g3⟩, _, _⟩ := I.hok a _ hH
  have J : PySem.W.InstAt s.heap a oe A none := by
    obtain ⟨oc, od, oda, osl⟩ := oe
    obtain ⟨k1, k2⟩ := g2
    dsimp only at k1 k2 g3
    subst k1 k2 g3
    exact ⟨g1, rfl, rfl, trivial⟩
  exact PySem.W.kia_one (PySem.W.handS_kitx_exc hE.hg hE.hk hE.hs hE.hd hE.ha hE.hn hE.ht hE.hm) I.kIn J e (fun z => nomatch z) fun tk => ⟨.bl b, H, I.tok tk, rfl, q⟩
/-- isinstance(e, (c1, c2, ..)) -/
theorem call_isXT : CallR X (.builtin "isinstance") (fun vs H Q => ∃ a A tp cs us b, vs = [.ref a, .ref tp] ∧ H a = some (ExcO a (.ref A) none) ∧ ExcC X.K A ∧ H tp = some (.tup cs) ∧ Paired ClsV cs us ∧ PySem.W.kitAny X.K (.ref A) us = some b ∧ Q (.bl b) H) := by
  intro pins s σ H xs ws Q I r h
  obtain ⟨a, A, tp, cs, us, b, rfl, hH, hE, hT, hk, e, q⟩ := h
  obtain ⟨u1, u2, rfl, r1, r2⟩ := vals2 r
  cases r1
  cases r2
  obtain ⟨⟨oe, fv, g1, g2, g3⟩, _, _⟩ := I.hok a _ hH
  have J : PySem.W.InstAt s.heap a oe A none := by
    obtain ⟨oc, od, oda, osl⟩ := oe
    obtain ⟨k1, k2⟩ := g2
    dsimp only at k1 k2 g3
    subst k1 k2 g3
    exact ⟨g1, rfl, rfl, trivial⟩
  obtain ⟨_, its, rv, o, h1, h2, n, h3⟩ := I.hok tp _ hT
  have e3 := ClsV.all hk rv
  subst e3
  obtain ⟨oc, od, dt, sl⟩ := o
  simp only at h2 h3
  subst h2 h3
  exact PySem.W.kia_tup (PySem.W.handS_kitx_exc hE.hg hE.hk hE.hs hE.hd hE.ha hE.hn hE.ht hE.hm) I.kIn J h1 e (fun z => nomatch z) fun tk => ⟨.bl b, H, I.tok tk, rfl, q⟩
/-- names of classes, one behind another -/
inductive NamesV (X : Cx) : List Str → List Expr → List V → List Value → Prop
  | nil : NamesV X [] [] [] []
  | cons {c : Str} {p : Pos} {v : V} {u : Value} {cs : List Str} {es : List Expr} {vs : List V} {us : List Value} : PE X (.Name c p) (tC v) → ClsV v u → ClsVal X.K c u → NamesV X cs es vs us → NamesV X (c :: cs) (.Name c p :: es) (v :: vs) (u :: us)
theorem NamesV.pa {X : Cx} : ∀ {cs : List Str} {es : List Expr} {vs : List V} {us : List Value}, NamesV X cs es vs us → PA X es (fun _ H Q => Q vs H)
  | _, _, _, _, .nil => pa_nil
  | _, _, _, _, .cons h _ _ t => by
    have := pa_cons h t.pa (star_cons rfl)
    exact this
theorem NamesV.cls {X : Cx} : ∀ {cs : List Str} {es : List Expr} {vs : List V} {us : List Value}, NamesV X cs es vs us → Paired ClsV vs us
  | _, _, _, _, .nil => .nil
  | _, _, _, _, .cons _ k _ t => .cons k t.cls
theorem NamesV.any {X : Cx} {r : Str} {A : Addr} : ∀ {cs : List Str} {es : List Expr} {vs : List V} {us : List Value}, NamesV X cs es vs us → (∀ c ∈ cs, ∃ u, ClsVal X.K c u ∧ PySem.W.kitOne X.K (.ref A) u = some (subX r c)) → PySem.W.kitAny X.K (.ref A) us = some (cs.any (subX r))
  | _, _, _, _, .nil, _ => rfl
  | _, _, _, _, .cons (c := c) (u := u) (cs := cs) _ _ hv t, h => by
    obtain ⟨u', hu, hk⟩ := h c List.mem_cons_self
    have := hv.eq hu
    subst this
    have ih := t.any (r := r) (A := A) fun c' hc => h c' (List.mem_cons_of_mem _ hc)
    unfold PySem.W.kitAny
    rw [hk, List.any_cons]
    cases subX r c with
    | true => rfl
    | false => exact ih
theorem NamesV.len {X : Cx} : ∀ {cs : List Str} {es : List Expr} {vs : List V} {us : List Value}, NamesV X cs es vs us → vs.length = es.length
  | _, _, _, _, .nil => rfl
  | _, _, _, _, .cons _ _ _ t => by rw [List.length_cons, List.length_cons, t.len]
end
section
variable {G : Nat → SpD} {C : Nat → D} {X : Cx} {W : WX} {x : Expr} {a : E} {pos : Pos}
theorem isc_of {d : D} {rs cs : List Str} {k : Bool → Prop} (h : iscD d rs cs k) : ∃ nm, d = .exc nm ∧ nm ∈ rs ∧ k (cs.any (subX nm)) := by
  unfold iscD at h
  split at h
  · exact ⟨_, rfl, h.1, h.2⟩
  · exact h.elim
theorem n_isc1 {rs : List Str} {c : Str} {p p2 : Pos} {v : V} {u : Value} (hg : Gl X "isinstance") (hm : X.mg "isinstance" = none) (hv : PE X (.Name c p2) (tC v)) (hk : ClsV v u) (hu : ClsVal X.K c u)
    (hf : ∀ r ∈ rs, XFact X.K (.kit r c) ∧ XFact X.K (.exc r)) (ha : PE X x (LE G C X.K W a)) (hs : noStar x = true) : PE X (.Call (.Name "isinstance" p) [x, .Name c p2] [] pos) (LE G C X.K W (.isc a rs [c])) := by
  refine (pe_callB call_isX hg hm (by decide +kernel) (pa_cons ha (pa_cons hv pa_nil (star_cons rfl)) (star_cons hs)) (by decide) (by decide) (star_cons hs) rfl).wk fun σ H Q h => ?_
  obtain ⟨F, M, R, env, Qd, Xd, w, re, h, l, lx⟩ := h
  rw [wpE_isc] at h
  refine ⟨F, M, R, env, _, Xd, w, re, h, fun d M1 F1 y H1 s1 w1 r1 h1 => ?_, lx⟩
  obtain ⟨nm, rfl, hr, q⟩ := isc_of h1
  obtain ⟨ad, A, rfl, hA, hF⟩ := r1
  obtain ⟨⟨A1, u1, k1, k2, k3⟩, A2, k4, k5⟩ := hf nm hr
  have e1 := hA.eq k1
  have e2 := hA.eq k4
  subst e1 e2
  have e3 := hu.eq k2
  subst e3
  refine ⟨ad, A, v, u, _, rfl, w1.f _ _ hF, k5, hk, k3, l (.bl (subX nm c)) M1 F1 _ H1 s1 w1 rfl ?_⟩
  simpa using q
theorem n_iscT {rs cs : List Str} {es : List Expr} {p p2 : Pos} {k : Nat} {vs : List V} {us : List Value} (hg : Gl X "isinstance") (hm : X.mg "isinstance" = none) (hn : NamesV X cs es vs us) (hl : es.length ≤ 100)
    (hf : ∀ r ∈ rs, (∀ c ∈ cs, XFact X.K (.kit r c)) ∧ XFact X.K (.exc r)) (ha : PE X x (LE G C X.K W a)) (hs : noStar x = true) : PE X (.Call (.Name "isinstance" p) [x, .Tuple es k p2] [] pos) (LE G C X.K W (.isc a rs cs)) := by
  refine (pe_callB call_isXT hg hm (by decide +kernel) (pa_cons ha (pa_cons (pe_tup hn.pa) pa_nil (star_cons rfl)) (star_cons hs)) (by decide) (by decide) (star_cons hs) rfl).wk fun σ H Q h => ?_
  obtain ⟨F, M, R, env, Qd, Xd, w, re, h, l, lx⟩ := h
  rw [wpE_isc] at h
  refine ⟨F, M, R, env, _, Xd, w, re, h, fun d M1 F1 y H1 s1 w1 r1 h1 => ?_, lx⟩
  obtain ⟨nm, rfl, hr, q⟩ := isc_of h1
  obtain ⟨ad, A, rfl, hA, hF⟩ := r1
  obtain ⟨hk, A2, k4, k5⟩ := hf nm hr
  have e2 := hA.eq k4
  subst e2
  have hH := w1.f _ _ hF
  refine ⟨by rw [hn.len, sizeLine_eq]; omega, fun tp hp => ?_⟩
  have ne : ad ≠ tp := fun z => by
    rw [z, hp] at hH
    cases hH
  have w2 : Wd X.K (upd F1 tp (.tup vs)) M1 R (upd H1 tp (.tup vs)) := w1.laid hp
  refine ⟨ad, A, tp, vs, us, _, rfl, by rw [upd_ne ne]; exact hH, k5, upd_same, hn.cls, hn.any fun c hc => ?_, l (.bl (cs.any (subX nm))) M1 _ _ _ (s1.trans fun b o e => ?_) w2 rfl q⟩
  · obtain ⟨A1, u1, j1, j2, j3⟩ := hk c hc
    have e1 := hA.eq j1
    subst e1
    exact ⟨u1, j2, j3⟩
  · rw [upd_ne fun z => ?_]
    · exact e
    · rw [z] at e
      rw [(w1.noneM hp).1] at e
      cases e
theorem n_fv {nm : Str} {p : Pos} {f : Addr} (hg : Gl X nm) (hm : X.mg nm = some (.ref f)) (hc : ClsAt X.K nm f) (hd : (nm == ("__debug__" : Str)) = false) : PE X (.Name nm p) (LE G C X.K W (.fv nm)) := by
  refine (pe_glob (v := .ref f) hg hm rfl hd).wk fun σ H Q h => ?_
  obtain ⟨F, M, R, env, Qd, Xd, w, re, h, l, lx⟩ := h
  rw [wpE_fv] at h
  exact l (.fn nm) M F _ H (Same.refl F) w ⟨f, rfl, hc⟩ h
/-- a def that a local name holds, called -/
theorem call_GV {Z : CXT} {k i : Nat} {f : Addr} {fd : FuncData} {ps : List Str} {sp : Sp} {E : L2.St → XK} {nm : Str} {p : Pos} {e : Expr} {es : List Expr} {t : TA} {pins : List (Addr × Obj)} {s0 : Shared} {σ : L2.St} {H : Hp} {Q : VK}
    (I0 : L2.Inv X pins σ H s0) (gd : X.A.guards = some []) (F : FnG X.prog X.w X.K X.mg X.base Z k f fd ps sp) (rm : Room k X.A) (bi : Binds X.K fd ps []) (ht : ∀ σ, PassesAt Z X σ (E σ)) (hN : X.N[i]? = some nm) (hv : Vis X.env.scope nm)
    (kp : PySem.W.keepIn X.K (.ref f) = true) (ha : PA X (e :: es) t) (nd : (nm == ("__debug__" : Str)) = false) (nc : (nm == ("__classdict__" : Str)) = false) (st : starEach (e :: es) X.env = (false, eval e X.env) :: starEach es X.env)
    (pl : (backTo pos (starEach es X.env)).any (·.1) = false) (hs : σ[i]? = some (some (.ref f))) (h0 : t σ H fun vs H1 => sp vs H1 Q (E σ)) :
    wpAny (model X.prog X.w) X.A (eval (.Call (.Name nm p) (e :: es) [] pos) X.env) (EP X pins σ Q) X.xe s0 := by
  refine wpAny_Call_Name_kw (thn ((pe_var (pos := p) hN hv nd nc).run pins s0 σ H (fun v G => v = .ref f ∧ G = H) I0 ⟨.ref f, hs, rfl, rfl⟩) fun u s1 vv => ?_)
  obtain ⟨_, _, I1, r1, rfl, rfl⟩ := vv
  cases r1
  refine PySem.W.callWith_K (h₀ := X.base) I1.ok.mod.kin kp (thn (ha.run pos pins s1 σ _ _ I1 h0) fun us s vv => ?_) st pl
  obtain ⟨vs, H, I, r, q⟩ := vv
  refine ⟨I.kIn, ?_⟩
  have lu : (us ++ []).length = ps.length := by rw [List.append_nil, ← r.length]; exact F.len _ _ _ _ q
  have bb := bi s us I.kIn lu
  rw [List.append_nil] at bb
  refine wpAny_call (codeAny_mono (F.go X.A X.stack s H _ us vs Q (E σ) gd rm I.env0 bb r q) fun o s' hq => ?_)
  match o, hq with
  | .error x, hq => exact ht σ pins H s x s' I hq
  | .ok (.ret u), hq => exact I.after hq
  | .ok .next, hq => exact hq.elim
  | .ok .brk, hq => exact hq.elim
  | .ok .cont, hq => exact hq.elim
theorem cal_of {o : Option (Option D)} {cs : List (Str × Nat)} {k : Nat → Prop} (h : calD o cs k) : ∃ nm j, o = some (some (.fn nm)) ∧ cs.lookup nm = some j ∧ k j := by
  unfold calD at h
  split at h
  · obtain ⟨j, h1, h2⟩ := h
    exact ⟨_, j, rfl, h1, h2⟩
  · exact h.elim
theorem n_callv {i : Nat} {cs : List (Str × Nat)} {es : Es} {r : List Expr} {p : Pos} {nm : Str} (gd : X.A.guards = some [])
    (FO : ∀ q j, cs.lookup q = some j → ∃ k f fd ps, FnG X.prog X.w X.K X.mg X.base (L2.CX X.prog X.w) k f fd ps (liftSp X.K (G j)) ∧ Room k X.A ∧ X.mg q = some (.ref f) ∧ PySem.W.keepIn X.K (.ref f) = true ∧ Binds X.K fd ps [])
    (mgk : MgOk X.K X.mg) (hN : X.N[i]? = some nm) (hv : Vis X.env.scope nm) (tk : Takes X W) (hd : (nm == ("__debug__" : Str)) = false) (hc : (nm == ("__classdict__" : Str)) = false) (h : PA X (x :: r) (LEs G C X.K W es)) (hs : (x :: r).all noStar = true) :
    PE X (.Call (.Name nm p) (x :: r) [] pos) (LE G C X.K W (.callv i cs es)) := by
  rw [List.all_cons, Bool.and_eq_true] at hs
  refine ⟨fun pins s σ H Q I hh => ?_⟩
  obtain ⟨F, M, R, env, Qd, Xd, w, re, hh, l, lx⟩ := hh
  rw [wpE_callv] at hh
  obtain ⟨q, j, e1, e2, hh⟩ := cal_of hh
  obtain ⟨v, ev, f', rfl, hcl⟩ := re.2 i _ e1
  obtain ⟨k, f, fd, ps, FG, hr, hm, hk, hb⟩ := FO q j e2
  have e3 := mgk.1 _ _ hcl
  rw [hm] at e3
  cases e3
  refine call_GV I gd FG hr hb (fun σ => passAt tk σ) hN hv hk h hd hc (star_cons hs.1) (star_any hs.2) ev ?_
  refine ⟨F, M, R, env, _, Xd, w, re, hh, fun ds M1 F1 vs H1 s1 w1 r1 h1 => ?_, lx⟩
  exact ⟨F1, M1, R, ds, Qd, Xd, w1, r1, h1, l.mono s1, lx.mono s1⟩
end
def spNever : SpD := fun _ _ _ _ => False
theorem FnG.never {P : Program} {w : World} {K : PySem.W.Frag} {mg : Str → Option Value} {B : Heap} {Z : CXT} {k : Nat} {f : Addr} {fd : FuncData} {ps : List Str} {x qual : Str} {st : Stmt} (_ : Fun K x qual st f fd) : FnG P w K mg B Z k f fd ps (liftSp K spNever) :=
  ⟨fun _ _ _ _ ⟨_, _, _, _, _, _, _, _, h, _⟩ => h.elim, fun _ _ _ _ _ _ _ _ _ _ _ _ _ _ ⟨_, _, _, _, _, _, _, _, h, _⟩ => h.elim⟩
/-! ### statements -/
section
variable {G : Nat → SpD} {C : Nat → D} {X : Cx} {W : WX} {pos : Pos}
theorem s_rse {c m : Str} {j : Nat} {p p2 p3 : Pos} (hc : X.calm = true) (tk : Takes X W) (mgk : MgOk X.K X.mg) (hg : Gl X c) (hf : XFact X.K (.rse c)) (hd : (c == ("__debug__" : Str)) = false) :
    PS X (.Raise (some (.Call (.Name c p) [.Constant (.str m) j p2] [] p3)) none pos) (LS G C X.K W (.rse c)) := by
  obtain ⟨A, hA, h1, h2, h3, h4⟩ := hf
  refine (ps_raise hc tk (pmk_own PySem.F.excBase_ValueError h1 (mgk.1 _ _ hA) h2 (raises_own h3 h4) hg hd)).wk fun D σ H h => ?_
  obtain ⟨F, M, R, env, Kd, w, re, h, l⟩ := h
  rw [wpS_rse] at h
  exact l.ex ⟨c⟩ env M F σ (.ref A) none H (Same.refl F) w re ⟨rfl, A, rfl, hA⟩ h
/-- the frame of a def's own statements -/
structure Frm (X : Cx) : Prop where
  stk : X.stack = X.env :: X.outer
  loc : X.env.frame = some X.env.locals
theorem relEnv_none {K : PySem.W.Frag} {F : Hp} {env : EnvD} {σ : L2.St} (h : RelEnv K F env σ) (j : Nat) : RelEnv K F (env.set j none) (σ.set j none) := by
  refine ⟨by rw [List.length_set, List.length_set]; exact h.1, fun i d e => ?_⟩
  by_cases hj : i = j
  · subst hj
    have hlt := (List.getElem?_eq_some_iff.mp e).1
    rw [List.length_set] at hlt
    rw [List.getElem?_set_self hlt] at e
    cases e
  · rw [List.getElem?_set_ne (Ne.symm hj)] at e ⊢
    exact h.2 i d e
theorem set_off {K : PySem.W.Frag} {F : Hp} {env : EnvD} {σ : L2.St} (h : RelEnv K F env σ) (j : Nat) (v : V) : RelEnv K F (env.set j none) (σ.set j (some v)) := by
  refine ⟨by rw [List.length_set, List.length_set]; exact h.1, fun i d e => ?_⟩
  by_cases hj : i = j
  · subst hj
    have hlt := (List.getElem?_eq_some_iff.mp e).1
    rw [List.length_set] at hlt
    rw [List.getElem?_set_self hlt] at e
    cases e
  · rw [List.getElem?_set_ne (Ne.symm hj)] at e ⊢
    exact h.2 i d e
theorem set_on {K : PySem.W.Frag} {F : Hp} {env : EnvD} {σ : L2.St} {d : D} {v : V} (h : RelEnv K F env σ) (i : Nat) (r : RelD K F d v) : RelEnv K F (env.set i (some d)) (σ.set i (some v)) :=
  (h.p (P := fun _ => True).set r i).env fun _ => .inl trivial
/-- try: body / except c: y = a constant -/
theorem s_tryo {rs : List Str} {c y : Str} {b : Ss} {i : Nat} {d : D} {v : V} {sts : List Stmt} {k : Const} {jk : Nat} {p1 p2 p3 p4 p5 : Pos} (fr : Frm X) (hN : X.N.Nodup) (hi : X.N[i]? = some y) (hy : X.env.scope.names.lookup y = some .local) (tk : Takes X W) (mgk : MgOk X.K X.mg)
    (hg : Gl X c) (hd : (c == ("__debug__" : Str)) = false) (hf : ∀ r ∈ rs, XFact X.K (.exm r c)) (hc : ∃ A, ClsAt X.K c A)
    (hk : ∀ Y : Cx, PE Y (.Constant k jk p1) (tC v)) (hv : ∀ F, RelD X.K F d v)
    (hb : ∀ (W' : WX) (pn : List (Addr × Obj)) (xe : Value → Shared → Prop), Takes (X.tr pn xe) W' → PassesOwn (model X.prog X.w) X.A X.env xe → PSs (X.tr pn xe) sts (LSs G C X.K W' b)) :
    PS X (.Try sts [.ExceptHandler (some (.Name c p2)) none [.Assign [.Name y p3] (.Constant k jk p1) p4] p5] [] [] pos) (LS G C X.K W (.tryo rs c b i d)) := by
  obtain ⟨A, hA⟩ := hc
  have su : ∀ (a : Addr) (oe : Obj) (cls : Value) (dd : Option Addr) (pn : List (Addr × Obj)), Zc cls dd oe → (∃ vs, oe.data = .fields vs) → PSs (X.suite a ((a, oe) :: pn)) [.Assign [.Name y p3] (.Constant k jk p1) p4] (fun D σ H => D.nx (σ.set i (some v)) H) := fun a oe cls dd pn _ _ =>
    pss_one ((ps_set (X := X.suite a ((a, oe) :: pn)) (i := i) hN hi (.inl hy) (hk _) (hf := .inr hy)).wk fun D σ H h => h)
  refine (ps_try_only fr.stk fr.loc ⟨hg, hd, .inl (mgk.1 _ _ hA)⟩ tk hb su).wk fun D σ H h => ?_
  obtain ⟨F, M, R, env, Kd, w, re, h, l⟩ := h
  rw [wpS_tryo] at h
  refine ⟨F, M, R, env, _, w, re, h, ⟨l.nx, l.rt, l.bk, l.ct, fun x e M1 F1 σ1 cv dv H1 s1 w1 re1 rx q => ?_⟩⟩
  obtain ⟨rfl, A1, rfl, hA1⟩ := rx
  obtain ⟨hr, q⟩ := q
  obtain ⟨A2, B2, k1, k2, k3⟩ := hf _ hr
  have e1 := hA1.eq k1
  have e2 := hA.eq k2
  subst e1 e2
  refine ⟨_, k3, fun hb a _ => ?_, fun hb => ?_⟩
  · rw [if_pos hb] at q
    exact l.nx _ M1 F1 _ H1 s1 w1 (set_on re1 i (hv F1)) q
  · rw [if_neg (by rw [hb]; decide)] at q
    exact l.ex x e M1 F1 σ1 _ _ H1 s1 w1 re1 ⟨rfl, A1, rfl, hA1⟩ q
/-- try: body / except c as n: y = n -/
theorem s_tryn {rs : List Str} {c y n : Str} {b : Ss} {i j : Nat} {sts : List Stmt} {p1 p2 p3 p4 p5 : Pos} (fr : Frm X) (hN : X.N.Nodup) (hi : X.N[i]? = some y) (hy : X.env.scope.names.lookup y = some .local) (hj : X.N[j]? = some n) (hn : X.env.scope.names.lookup n = some .local) (tk : Takes X W) (mgk : MgOk X.K X.mg)
    (hg : Gl X c) (hd : (c == ("__debug__" : Str)) = false) (hf : ∀ r ∈ rs, XFact X.K (.exm r c)) (hc : ∃ A, ClsAt X.K c A) (hd2 : (n == ("__debug__" : Str)) = false) (hc2 : (n == ("__classdict__" : Str)) = false) (ij : i ≠ j)
    (hb : ∀ (W' : WX) (pn : List (Addr × Obj)) (xe : Value → Shared → Prop), Takes (X.tr pn xe) W' → PassesOwn (model X.prog X.w) X.A X.env xe → PSs (X.tr pn xe) sts (LSs G C X.K W' b)) :
    PS X (.Try sts [.ExceptHandler (some (.Name c p2)) (some n) [.Assign [.Name y p3] (.Name n p1) p4] p5] [] [] pos) (LS G C X.K W (.tryn rs c b j i)) := by
  obtain ⟨A, hA⟩ := hc
  have su : ∀ a : Addr, PSs (X.suite a X.pn) [.Assign [.Name y p3] (.Name n p1) p4] (fun D σ H => ∃ v, σ[j]? = some (some v) ∧ D.nx (σ.set i (some v)) H) := fun a =>
    pss_one ((ps_set (X := X.suite a X.pn) (i := i) hN hi (.inl hy) (pe_var (X := X.suite a X.pn) (i := j) hj (.inl hn) hd2 hc2) (hf := .inr hy)).wk fun D σ H h => h)
  refine (ps_try_note fr.stk fr.loc hN hj hn ⟨hg, hd, .inl (mgk.1 _ _ hA)⟩ tk hb su).wk fun D σ H h => ?_
  obtain ⟨F, M, R, env, Kd, w, re, h, l⟩ := h
  rw [wpS_tryn] at h
  refine ⟨F, M, R, env, _, w, re, h, ⟨l.nx, l.rt, l.bk, l.ct, fun x e M1 F1 σ1 cv dv H1 s1 w1 re1 rx q => ?_⟩⟩
  obtain ⟨rfl, A1, rfl, hA1⟩ := rx
  obtain ⟨⟨hr, hlen⟩, q⟩ := q
  obtain ⟨A2, B2, k1, k2, k3⟩ := hf _ hr
  have e1 := hA1.eq k1
  have e2 := hA.eq k2
  subst e1 e2
  refine ⟨_, k3, fun hb a ha => ?_, fun hb => ?_⟩
  · rw [if_pos hb] at q
    have w2 := w1.laid (o := ExcO a (.ref A1) none) ha
    have sm : Same F1 (upd F1 a (ExcO a (.ref A1) none)) := fun b o e => by
      rw [upd_ne fun z => ?_]
      · exact e
      · rw [z, (w1.noneM ha).1] at e
        cases e
    have re2 := re1.mono sm
    have lj : j < σ1.length := by
      rw [← re1.1]
      exact hlen
    refine ⟨.ref a, List.getElem?_set_self lj, ?_⟩
    have rd : RelD X.K (upd F1 a (ExcO a (.ref A1) none)) (.exc x.nm) (.ref a) := ⟨a, A1, rfl, hA1, upd_same⟩
    have r3 := relEnv_none (set_on (set_off re2 j (.ref a)) i rd) j
    refine l.nx _ M1 _ _ _ (s1.trans sm) w2 ?_ q
    have e3 : ((e.set j none).set i (some (PD.D.exc x.nm))).set j none = (e.set i (some (PD.D.exc x.nm))).set j none := by
      rw [List.set_comm _ _ (Ne.symm ij), List.set_set]
    rw [e3] at r3
    exact r3
  · rw [if_neg (by rw [hb]; decide)] at q
    exact l.ex x e M1 F1 σ1 _ _ H1 s1 w1 re1 ⟨rfl, A1, rfl, hA1⟩ q
end
end PD

set_option maxHeartbeats 4000000
/-! PD: instances of the program's own classes -/
namespace PD
open PySem PySem.Spec PyProof.Rows L2
variable [Tb]
section
variable {G : Nat → SpD} {C : Nat → D} {X : Cx} {W : WX} {x : Expr} {a : E} {pos : Pos}
theorem fld_of {d : D} {c f : Str} {M : Mh} {Q : QD} (h : fldD d c f M Q) : ∃ p fs v, d = .ref p ∧ M p = some (.ins c fs) ∧ fs.lookup f = some v ∧ Q v M := by
  unfold fldD at h
  split at h
  · split at h
    · rename_i e
      obtain ⟨rfl, h⟩ := h
      split at h
      · rename_i e2
        exact ⟨_, _, _, rfl, e, e2, h⟩
      · exact h.elim
    · exact h.elim
  · exact h.elim
theorem ins_of {d : D} {c m : Str} {M : Mh} {k : Prop} (h : insD d c m M k) : ∃ p fs, d = .ref p ∧ M p = some (.ins c fs) ∧ fs.lookup m = none ∧ k := by
  unfold insD at h
  split at h
  · split at h
    · rename_i e
      obtain ⟨⟨rfl, h⟩, q⟩ := h
      exact ⟨_, _, rfl, e, h, q⟩
    · exact h.elim
  · exact h.elim
theorem sfld_of {d v : D} {c f : Str} {M : Mh} {k : Mh → Prop} (h : sfldD d c f v M k) : ∃ p fs, d = .ref p ∧ M p = some (.ins c fs) ∧ fs.length < 1000 ∧ k (mset M p (.ins c (putD f v fs))) := by
  unfold sfldD at h
  split at h
  · split at h
    · rename_i e
      obtain ⟨⟨rfl, h⟩, q⟩ := h
      exact ⟨_, _, rfl, e, h, q⟩
    · exact h.elim
  · exact h.elim
theorem n_fld {c f : Str} (hb : notCall0 x = true) (hc : XFact X.K (.noat c f)) (ha : PE X x (LE G C X.K W a)) : PE X (.Attribute x f pos) (LE G C X.K W (.fld a c f)) := by
  refine (pe_fld ha (base_of hb)).wk fun σ H Q h => ?_
  obtain ⟨F, M, R, env, Qd, Xd, w, re, h, l, lx⟩ := h
  rw [wpE_fld] at h
  refine ⟨F, M, R, env, _, Xd, w, re, h, fun d M1 F1 v H1 s1 w1 r1 h1 => ?_, lx⟩
  obtain ⟨p, fs, dv, rfl, hM, hl, q⟩ := fld_of h1
  cases (show v = _ from r1)
  obtain ⟨_, o, hH, Cc, dx, vfs, hcl, rfl, k, r⟩ := w1.m p _ hM
  obtain ⟨C', hC', cl, na⟩ := hc
  cases hcl.eq hC'
  obtain ⟨v, hv, rv⟩ := fs_get k r hl
  exact ⟨p, _, dx, vfs, v, rfl, hH, cl, na, hv, l _ M1 F1 _ H1 s1 w1 rv q⟩
theorem s_sfld {o : Expr} {c f : Str} {e : E} {p' : Pos} (hc : XFact X.K (.noat c f)) (he : PE X x (LE G C X.K W e)) (ho : PE X o (LE G C X.K W a)) : PS X (.Assign [.Attribute o f p'] x pos) (LS G C X.K W (.sfld a c f e)) := by
  refine (ps_fld ho he (show swapsWithSole [.Attribute o f p'] x pos.line X.env = pure false from sole_false (.inr rfl))).wk fun D σ H h => ?_
  obtain ⟨F, M, R, env, Kd, w, re, h, l⟩ := h
  rw [wpS_sfld] at h
  refine ⟨F, M, R, env, _, _, w, re, h, fun d M1 F1 v1 H1 s1 w1 r1 h1 => ?_, l.lx re⟩
  refine ⟨F1, M1, R, env, _, _, w1, re.mono s1, h1, fun d2 M2 F2 v2 H2 s2 w2 r2 h2 => ?_, (l.lx re).mono s1⟩
  obtain ⟨p, fs, rfl, hM, hl, q⟩ := sfld_of h2
  cases (show v2 = _ from r2)
  obtain ⟨hF, o, hH, Cc, dx, vfs, hcl, rfl, k, r⟩ := w2.m p _ hM
  obtain ⟨C', hC', cl, na⟩ := hc
  cases hcl.eq hC'
  obtain ⟨k2, r2⟩ := fs_put (RelD.mono s2 _ _ r1) k r (f := f)
  refine ⟨p, _, dx, vfs, rfl, hH, cl, na, by rw [fs_len k]; exact hl, ?_⟩
  have rc : RelC X.K F2 (.ins c (putD f d fs)) (.ins Cc dx (putF f v1 vfs)) := ⟨Cc, dx, _, hcl, rfl, k2, r2⟩
  exact l.nx env _ F2 σ _ (s1.trans s2) (w2.write hM rc) (re.mono (s1.trans s2)) q
/-! ### methods -/
theorem meth_eval {o : Expr} {m : Str} {apos pos : Pos} {args : List Expr} {env : Env} (hb : attributeBase o m env (eval o env) = eval o env)
    (few : methodCallForm (args.length + ([] : List Keyword).length) (backTo pos (starEach args env)) (backToKw pos (keywordEach [] env)) = true) (hl : (apos.endLine == pos.line) = true) :
    eval (.Call (.Attribute o m apos) args [] pos) env = (do
      let ov ← eval o env
      standAt apos.atName
      let (f, first) ← holding [ov] (getMethod ov m (do return (← importBound o env).getD true))
      callWith pos f first (backTo pos (starEach args env)) (backToKw pos (keywordEach [] env))) := by
  have e : eval (.Call (.Attribute o m apos) args [] pos) env = (do
      let ov ← attributeBase o m env (eval o env)
      standAt apos.atName
      methodCall o m apos pos env ov (args.length + ([] : List Keyword).length) (backTo pos (starEach args env)) (backToKw pos (keywordEach [] env))) := rfl
  rw [e, hb]
  unfold methodCall calleeOf methodCallPos
  rw [few, hl]
  rfl
section
variable {Z : CXT} {k : Nat} {f Cc : Addr} {fd : FuncData} {ps : List Str} {sp : Sp} {E : L2.St → XK} {nm m : Str} {p pos apos : Pos} {o e : Expr} {es : List Expr} {t : TA} {ta : TE}
/-- the callee runs, where no repr is under way -/
theorem run_G {pins : List (Addr × Obj)} {σ : L2.St} {H : Hp} {s : Shared} {Q : VK} {us : List Value} {vs : List V} (gd : X.A.guards = some []) (F : FnG X.prog X.w X.K X.mg X.base Z k f fd ps sp) (rm : Room k X.A) (bi : Binds X.K fd ps []) (ht : ∀ σ, PassesAt Z X σ (E σ))
    (I : L2.Inv X pins σ H s) (r : Vals vs us) (h : sp vs H Q (E σ)) : wpAny (model X.prog X.w) X.A (call (.ref f) us) (EP X pins σ Q) X.xe s := by
  have lu : (us ++ []).length = ps.length := by rw [List.append_nil, ← r.length]; exact F.len _ _ _ _ h
  have bb := bi s us I.kIn lu
  rw [List.append_nil] at bb
  refine wpAny_call (codeAny_mono (F.go X.A X.stack s H _ us vs Q (E σ) gd rm I.env0 bb r h) fun o s' hq => ?_)
  match o, hq with
  | .error x, hq => exact ht σ pins H s x s' I hq
  | .ok (.ret u), hq => exact I.after hq
  | .ok .next, hq => exact hq.elim
  | .ok .brk, hq => exact hq.elim
  | .ok .cont, hq => exact hq.elim
def tMethS (m : Str) (sp : Sp) (E : L2.St → XK) (ta : TE) (t : TA) : TE := fun σ H Q => ta σ H fun x H1 => ∃ a C dx fs, x = .ref a ∧ H1 a = some (.ins C dx fs) ∧ C = Cc ∧ fs.lookup m = none ∧
  t σ H1 fun vs H2 => sp (x :: vs) H2 Q (E σ)
theorem meth_G (gd : X.A.guards = some []) (he : PE X o ta) (c : Cls X.K Cc) (hm : Meth X.K Cc m f) (F : FnG X.prog X.w X.K X.mg X.base Z k f fd ps sp) (rm : Room k X.A) (bi : Binds X.K fd ps []) (ht : ∀ σ, PassesAt Z X σ (E σ)) (ha : PA X (e :: es) t)
    (hst : starEach (e :: es) X.env = (false, eval e X.env) :: starEach es X.env) (hpl : (backTo pos (starEach es X.env)).any (·.1) = false)
    (hb : attributeBase o m X.env (eval o X.env) = eval o X.env) (few : methodCallForm ((e :: es).length + ([] : List Keyword).length) (backTo pos (starEach (e :: es) X.env)) (backToKw pos (keywordEach [] X.env)) = true) (hl : (apos.endLine == pos.line) = true) :
    PE X (.Call (.Attribute o m apos) (e :: es) [] pos) (tMethS (Cc := Cc) m sp E ta t) := by
  refine ⟨fun pins s σ H Q I h => ?_⟩
  refine PySem.W.methodCall_KW (thn (he.run pins s σ H _ I h) fun u s1 ⟨x, H1, I1, rx, a, C, dx, fs, ex, ea, eC, l, q⟩ => ?_) (meth_eval hb few hl)
  subst ex
  subst eC
  obtain rfl : u = Value.ref a := rx
  refine getmeth_ok I1 ea c hm l ?_
  refine PySem.W.callWith_K (first := [.ref a]) (h₀ := X.base) I.ok.mod.kin hm.kp (thn (ha.run pos pins s1 σ H1 _ I1 q) fun us s2 ⟨vs, H2, I2, r, q2⟩ => ⟨I2.kIn, ?_⟩) hst hpl
  exact run_G (us := .ref a :: us) (vs := .ref a :: vs) gd F rm bi ht I2 (.cons rfl r) q2
/-- the same without arguments -/
theorem meth_G0 (gd : X.A.guards = some []) (he : PE X o ta) (c : Cls X.K Cc) (hm : Meth X.K Cc m f) (F : FnG X.prog X.w X.K X.mg X.base Z k f fd ps sp) (rm : Room k X.A) (bi : Binds X.K fd ps []) (ht : ∀ σ, PassesAt Z X σ (E σ))
    (hb : attributeBase o m X.env (eval o X.env) = eval o X.env) (few : methodCallForm (([] : List Expr).length + ([] : List Keyword).length) (backTo pos (starEach [] X.env)) (backToKw pos (keywordEach [] X.env)) = true) (hl : (apos.endLine == pos.line) = true) :
    PE X (.Call (.Attribute o m apos) [] [] pos) (tMethS (Cc := Cc) m sp E ta tNil) := by
  refine ⟨fun pins s σ H Q I h => ?_⟩
  refine PySem.W.methodCall_KW (thn (he.run pins s σ H _ I h) fun u s1 ⟨x, H1, I1, rx, a, C, dx, fs, ex, ea, eC, l, q⟩ => ?_) (meth_eval hb few hl)
  subst ex
  subst eC
  obtain rfl : u = Value.ref a := rx
  refine getmeth_ok I1 ea c hm l ?_
  refine PySem.W.callWith_K0 (first := [.ref a]) I1.kIn hm.kp ?_
  exact run_G (us := [.ref a]) (vs := [.ref a]) gd F rm bi ht I1 (.cons rfl .nil) q
def tMakeS (sp : Sp) (E : L2.St → XK) (t : TA) : TE := fun σ H Q => t σ H fun vs H1 => ∀ x dx, H1 x = none → H1 dx = none → dx ≠ x →
  sp (.ref x :: vs) (upd (upd H1 dx (.own x)) x (.ins Cc dx [])) (fun v H2 => v = .non ∧ Q (.ref x) H2) (E σ)
theorem make_GI (gd : X.A.guards = some []) (Mk : Mk X.K Cc f) (F : FnG X.prog X.w X.K X.mg X.base Z k f fd ps sp) (hr : Room (k + 1) X.A) (hb : Binds X.K fd ps []) (ht : ∀ σ, PassesAt Z X σ (E σ)) (hg : Gl X nm) (hm : X.mg nm = some (.ref Cc)) (ha : PA X (e :: es) t) (nd : (nm == ("__debug__" : Str)) = false) (st : starEach (e :: es) X.env = (false, eval e X.env) :: starEach es X.env) (pl : (backTo pos (starEach es X.env)).any (·.1) = false) :
    PE X (.Call (.Name nm p) (e :: es) [] pos) (tMakeS (Cc := Cc) sp E t) := by
  refine ⟨fun pins s σ H Q I h => ?_⟩
  refine wpAny_Call_Name_kw (ld_glob I hg hm ?_ nd)
  refine PySem.W.callWith_K (h₀ := X.base) I.ok.mod.kin Mk.kp (thn (ha.run pos pins s σ H _ I h) fun us s1 ⟨vs, H1, I1, r, q⟩ => ⟨I1.kIn, ?_⟩) st pl
  have hq := q (s1.heap.objs.size + 1) s1.heap.objs.size (I1.hok.fresh (Nat.le_succ _)) (I1.hok.fresh (Nat.le_refl _)) (Nat.ne_of_lt (Nat.lt_succ_self _))
  have I2 := Inv.made (C := Cc) I1
  have r2 : Vals (V.ref (s1.heap.objs.size + 1) :: vs) (Value.ref (s1.heap.objs.size + 1) :: us) := .cons rfl r
  have hl : (Value.ref (s1.heap.objs.size + 1) :: us ++ []).length = ps.length := by
    have e := r2.length
    rw [F.len _ _ _ _ hq] at e
    rw [List.append_nil]
    exact e.symm
  have bb := hb { s1 with heap := (s1.heap.push PySem.W.emptyDict).push (PySem.W.instObj Cc s1.heap.objs.size) } (Value.ref (s1.heap.objs.size + 1) :: us) I2.kIn hl
  rw [List.append_nil] at bb
  refine wpAny_call (make_map (f := f) I1.kIn Mk.makes Mk.init (beq_iff_eq.mp Mk.fn) (codeAny_mono (F.go _ X.stack _ _ ⟨Value.ref (s1.heap.objs.size + 1) :: us, []⟩ (Value.ref (s1.heap.objs.size + 1) :: us) _ _ (E σ) ?_ (hr.make Cc us [])
    (I2.env0.make Cc us []) bb r2 hq) fun r s' hq' => ?_))
  · exact gd
  match r, hq' with
  | .error x, hq => exact ht σ pins _ _ x s' I2 hq
  | .ok (.ret u), hq =>
    obtain ⟨v, H', I3, rv, ev, q3⟩ := I2.after hq
    subst ev
    exact ⟨rv, ⟨V.ref (s1.heap.objs.size + 1), H', I3, rfl, q3⟩⟩
  | .ok .next, hq => exact hq.elim
  | .ok .brk, hq => exact hq.elim
  | .ok .cont, hq => exact hq.elim
end
theorem few_of {x : Expr} {r : List Expr} {pos : Pos} {env : Env} (hs : (x :: r).all noStar = true) (hlen : (x :: r).length < 30) : methodCallForm ((x :: r).length + ([] : List Keyword).length) (backTo pos (starEach (x :: r) env)) (backToKw pos (keywordEach [] env)) = true := by
  unfold methodCallForm
  rw [star_all hs]
  simpa [backToKw, keywordEach] using hlen
theorem n_meth {f Cc : Addr} {fd : FuncData} {ps : List Str} {k j : Nat} {es : Es} {o e : Expr} {r : List Expr} {apos : Pos} {c m : Str} (gd : X.A.guards = some []) (FO : FnG X.prog X.w X.K X.mg X.base (L2.CX X.prog X.w) k f fd ps (liftSp X.K (G j))) (hr : Room k X.A)
    (hC : ClsAt X.K c Cc) (cl : Cls X.K Cc) (hm : Meth X.K Cc m f) (hb : Binds X.K fd ps []) (tk : Takes X W) (ho : PE X o (LE G C X.K W a)) (h : PA X (e :: r) (LEs G C X.K W es)) (hs : (e :: r).all noStar = true) (hlen : (e :: r).length < 30) (hn : notCall0 o = true) (hl : (apos.endLine == pos.line) = true) :
    PE X (.Call (.Attribute o m apos) (e :: r) [] pos) (LE G C X.K W (.meth a c m j es)) := by
  have hs' := hs
  rw [List.all_cons, Bool.and_eq_true] at hs'
  refine (meth_G (Cc := Cc) gd ho cl hm FO hr hb (fun σ => passAt tk σ) h (star_cons hs'.1) (star_any hs'.2) (base_of hn) (few_of hs hlen) hl).wk fun σ H Q h => ?_
  obtain ⟨F, M, R, env, Qd, Xd, w, re, h, l, lx⟩ := h
  rw [wpE_meth] at h
  refine ⟨F, M, R, env, _, Xd, w, re, h, fun d M1 F1 v H1 s1 w1 r1 h1 => ?_, lx⟩
  obtain ⟨p, fs, rfl, hM, hl, q⟩ := ins_of h1
  cases (show v = _ from r1)
  obtain ⟨hF, oo, hH, C', dx, vfs, hcl, rfl, k, rr⟩ := w1.m p _ hM
  cases hcl.eq hC
  refine ⟨p, _, dx, vfs, rfl, hH, rfl, fs_none k hl, F1, M1, R, env, _, Xd, w1, re.mono s1, q, fun ds M2 F2 vs H2 s2 w2 r2 h2 => ?_, lx.mono s1⟩
  exact ⟨F2, M2, R, .ref p :: ds, Qd, Xd, w2, ⟨_, _, rfl, rfl, r2⟩, h2, l.mono (s1.trans s2), lx.mono (s1.trans s2)⟩
theorem few_nil {pos : Pos} {env : Env} : methodCallForm (([] : List Expr).length + ([] : List Keyword).length) (backTo pos (starEach [] env)) (backToKw pos (keywordEach [] env)) = true := by
  unfold methodCallForm
  simp [backTo, starEach, backToKw, keywordEach]
theorem n_meth0 {f Cc : Addr} {fd : FuncData} {ps : List Str} {k j : Nat} {o : Expr} {apos : Pos} {c m : Str} (gd : X.A.guards = some []) (FO : FnG X.prog X.w X.K X.mg X.base (L2.CX X.prog X.w) k f fd ps (liftSp X.K (G j))) (hr : Room k X.A)
    (hC : ClsAt X.K c Cc) (cl : Cls X.K Cc) (hm : Meth X.K Cc m f) (hb : Binds X.K fd ps []) (tk : Takes X W) (ho : PE X o (LE G C X.K W a)) (hn : notCall0 o = true) (hl : (apos.endLine == pos.line) = true) :
    PE X (.Call (.Attribute o m apos) [] [] pos) (LE G C X.K W (.meth a c m j .nil)) := by
  refine (meth_G0 (Cc := Cc) gd ho cl hm FO hr hb (fun σ => passAt tk σ) (base_of hn) few_nil hl).wk fun σ H Q h => ?_
  obtain ⟨F, M, R, env, Qd, Xd, w, re, h, l, lx⟩ := h
  rw [wpE_meth] at h
  refine ⟨F, M, R, env, _, Xd, w, re, h, fun d M1 F1 v H1 s1 w1 r1 h1 => ?_, lx⟩
  obtain ⟨p, fs, rfl, hM, hl, q⟩ := ins_of h1
  cases (show v = _ from r1)
  obtain ⟨hF, oo, hH, C', dx, vfs, hcl, rfl, k, rr⟩ := w1.m p _ hM
  cases hcl.eq hC
  have q : G j [.ref p] M1 Xd Qd := q
  exact ⟨p, _, dx, vfs, rfl, hH, rfl, fs_none k hl, F1, M1, R, [.ref p], Qd, Xd, w1, ⟨_, _, rfl, rfl, rfl⟩, q, l.mono s1, lx.mono s1⟩
theorem n_make {f Cc : Addr} {fd : FuncData} {ps : List Str} {k j : Nat} {es : Es} {e : Expr} {r : List Expr} {p : Pos} {c : Str} (gd : X.A.guards = some []) (FO : FnG X.prog X.w X.K X.mg X.base (L2.CX X.prog X.w) k f fd ps (liftSp X.K (G j))) (hr : Room (k + 1) X.A)
    (hC : ClsAt X.K c Cc) (Mk : Mk X.K Cc f) (hb : Binds X.K fd ps []) (tk : Takes X W) (hg : Gl X c) (hm : X.mg c = some (.ref Cc)) (hd : (c == ("__debug__" : Str)) = false) (h : PA X (e :: r) (LEs G C X.K W es)) (hs : (e :: r).all noStar = true) :
    PE X (.Call (.Name c p) (e :: r) [] pos) (LE G C X.K W (.make c j es)) := by
  rw [List.all_cons, Bool.and_eq_true] at hs
  refine (make_GI gd Mk FO hr hb (fun σ => passAt tk σ) hg hm h hd (star_cons hs.1) (star_any hs.2)).wk fun σ H Q h => ?_
  obtain ⟨F, M, R, env, Qd, Xd, w, re, h, l, lx⟩ := h
  rw [wpE_make] at h
  refine ⟨F, M, R, env, _, Xd, w, re, h, fun ds M1 F1 vs H1 s1 w1 r1 h1 x dx hx hdx ne => ?_, lx⟩
  have w2 : Wd X.K (upd F1 dx (.own x)) M1 R (upd H1 dx (.own x)) := w1.laid hdx
  have sm : Same F1 (upd F1 dx (.own x)) := same_upd (w1.noneM hdx).1
  have rc : RelC X.K (upd F1 dx (.own x)) (.ins c []) (.ins Cc dx []) := ⟨Cc, dx, [], hC, rfl, rfl, rfl⟩
  have w3 := w2.cell (p := x) (by rw [upd_ne (Ne.symm ne)]; exact hx) rc
  have hq := h1 x (w1.noneM hx).2.1
  refine ⟨_, _, R, .ref x :: ds, _, Xd, w3, ⟨_, _, rfl, rfl, RelDs.mono sm _ _ r1⟩, hq, fun d M3 F3 v H3 s3 w4 r3 q => ?_, lx.mono (s1.trans sm)⟩
  obtain ⟨rfl, q⟩ := q
  exact ⟨r3, l (.ref x) M3 F3 _ H3 (s1.trans (sm.trans s3)) w4 rfl q⟩
end
end PD

/-! PD: a lambda without parameters, handed to a def that calls it -/
namespace PD
open PySem PySem.Spec PyProof.Rows L2
variable [Tb]
def lamW : Str := "<lambda>"
def takeW : Str := "take"
def thunkW : Str := "thunk"
/-- what a local's slots hold -/
def dsOf (env : EnvD) : List D := env.filterMap id
def wsOf : EnvD → L2.St → List V
  | some _ :: r, some v :: t => v :: wsOf r t
  | none :: r, _ :: t => wsOf r t
  | _, _ => []
section
variable {K : PySem.W.Frag} {F F' H H' R : Hp} {M : Mh}
theorem RelEnv.tl {o : Option D} {v : Option V} {env : EnvD} {σ : L2.St} (h : RelEnv K F (o :: env) (v :: σ)) : RelEnv K F env σ :=
  ⟨by simpa using h.1, fun i d e => by simpa using h.2 (i + 1) d (by simpa using e)⟩
theorem rel_out : ∀ {env : EnvD} {σ : L2.St}, RelEnv K F env σ → RelDs K F (dsOf env) (wsOf env σ)
  | [], _, _ => rfl
  | _ :: _, [], h => by have := h.1; simp at this
  | some d :: r, o :: t, h => by
    obtain ⟨v, e, rd⟩ := h.2 0 d rfl
    have e : o = some v := by simpa using e
    subst e
    exact ⟨v, wsOf r t, rfl, rd, rel_out h.tl⟩
  | none :: r, o :: t, h => by
    have := rel_out h.tl
    cases o <;> exact this
theorem rel_in : ∀ {env : EnvD} {σ : L2.St}, env.length = σ.length → RelDs K F (dsOf env) (wsOf env σ) → RelEnv K F env σ
  | [], σ, hl, _ => ⟨hl, fun i d e => by simp at e⟩
  | _ :: _, [], hl, _ => by simp at hl
  | some d :: r, none :: t, hl, h => by
    obtain ⟨v, ws, e, _⟩ := h
    cases e
  | some d :: r, some u :: t, hl, h => by
    obtain ⟨v, ws, e, rd, h⟩ := h
    have e : u :: wsOf r t = v :: ws := e
    cases e
    have ih := rel_in (env := r) (σ := t) (by simpa using hl) h
    refine ⟨hl, fun i d' e => ?_⟩
    cases i with
    | zero =>
      have e : d = d' := by simpa using e
      subst e
      exact ⟨u, rfl, rd⟩
    | succ i => simpa using ih.2 i d' (by simpa using e)
  | none :: r, o :: t, hl, h => by
    have h' : RelDs K F (dsOf r) (wsOf r t) := by cases o <;> exact h
    have ih := rel_in (env := r) (σ := t) (by simpa using hl) h'
    refine ⟨hl, fun i d' e => ?_⟩
    cases i with
    | zero => simp at e
    | succ i => simpa using ih.2 i d' (by simpa using e)
theorem thk_of {o : Option (Option D)} {k : D → Prop} (h : thkD o k) : ∃ v c q l ws, o = some (some (.thk v c q l ws)) ∧ k (.thk v c q l ws) := by
  unfold thkD at h
  split at h
  · exact ⟨_, _, _, _, _, rfl, h⟩
  · exact h.elim
/-- the world behind the making of a lambda -/
theorem Wd.made (w : Wd K F M R H) (x : LamX.ExtN H H') (t : LamX.Tabs (tabsOf K) H') : Wd K F M R H' := by
  refine ⟨fun a o e => x a o (w.f a o e) fun ps z => ?_, fun a c e => ?_, fun a o e => ?_, w.x.n, w.x.rn, t⟩
  · subst z
    exact w.x.n a ps e
  · obtain ⟨h1, o, h2, h3⟩ := w.m a c e
    exact ⟨h1, o, x a o h2 (tbl_ne (noT_c h3)), h3⟩
  · obtain ⟨h1, h2⟩ := w.r a o e
    exact ⟨x a o h1 (tbl_ne (w.x.rn a o e)), h2⟩
theorem Wd.known (w : Wd K F M R H) {c : Addr} {q : Str} (h : H c = some (LamX.CodeO c q)) : ∃ F1, Same F F1 ∧ Wd K F1 M R H ∧ F1 c = some (LamX.CodeO c q) := by
  cases e : F c with
  | some o =>
    have e2 := w.f c o e
    rw [h] at e2
    cases e2
    exact ⟨F, Same.refl F, w, e⟩
  | none =>
    have sm : Same F (upd F c (LamX.CodeO c q)) := same_upd e
    refine ⟨_, sm, ⟨fun b x z => ?_, fun a d z => ?_, fun a x z => ?_, w.x.laid rfl w.x.t⟩, upd_same⟩
    · by_cases hb : b = c
      · subst hb; rw [upd_same] at z; cases z; exact h
      · rw [upd_ne hb] at z; exact w.f b x z
    · obtain ⟨h1, u, h2, h3⟩ := w.m a d z
      have ha : a ≠ c := fun y => by
        rw [y, h] at h2
        exact ext_ne (noT_c h3) c q (Option.some.inj h2).symm
      exact ⟨by rw [upd_ne ha]; exact h1, u, h2, h3.mono sm⟩
    · obtain ⟨h1, h2, h3⟩ := w.r a x z
      have ha : a ≠ c := fun y => by
        rw [y, h] at h1
        exact ext_ne (w.x.rn a x z) c q (Option.some.inj h1).symm
      exact ⟨h1, by rw [upd_ne ha]; exact h2, h3⟩
end
/-- what a lambda promises to the def that calls it: it ends as sp's outcomes do -/
def thSp (sp : SpD) (d0 : D) (M0 : Mh) (Qd : QD) : SpD := fun as M X Q => as = [d0] ∧ M = M0 ∧ (∀ (x : Exc) M', sp [.exc x.nm, .non] M' (fun _ _ => False) Qd → X x M') ∧ (∀ d M', sp [d] M' (fun _ _ => False) Qd → Q d M')
/-- the context of the def that takes the lambda -/
abbrev takeCx (P : Program) (w : World) (K : PySem.W.Frag) (mg : Str → Option Value) (B : Heap) (N : List Str) (x : Str) (sg : Scope) (g : Addr) (cd : Value) (A : Around) (O : List Env) (s : Shared) (H : Hp) : Cx :=
  cxOf (L2.CX P w) P w K mg B N x sg g cd A O s H (fun _ _ _ => False)
/-- a def that takes a lambda and calls it -/
structure LamG (P : Program) (w : World) (K : PySem.W.Frag) (mg : Str → Option Value) (B : Heap) (k : Nat) (x : Str) (sp : SpD) : Prop where
  ex : ∃ (g : Addr) (a : Str) (N : List Str) (sg : Scope) (cd : Value), mg x = some (.ref g) ∧ PySem.W.keepIn K (.ref g) = true ∧ N[0]? = some a ∧ Vis sg a ∧ (a == ("__debug__" : Str)) = false ∧ (a == ("__classdict__" : Str)) = false ∧
    ∀ (A : Around) (O : List Env) (s : Shared) (H F R : Hp) (M : Mh) (f c : Addr) (q : Str) (ds : List D) (ws : List V) (Qd : QD) (Q : VK), A.guards = some [] → Room (k + 2) A → Env0 P w K mg B A O s H → Wd K F M R H → F c = some (LamX.CodeO c q) → RelDs K F ds ws → Lands K F R Qd Q →
      (∀ (G : Nat → SpD) (C : Nat → D) (j : Nat) (W : WX) (pn : List (Addr × Obj)) (xe : Value → Shared → Prop) (p1 p2 : Pos), G j = thSp sp (.thk (.ref f) c q ds ws) M Qd → Takes ((takeCx P w K mg B N x sg g cd A O s H).tr pn xe) W →
        PE ((takeCx P w K mg B N x sg g cd A O s H).tr pn xe) (.Call (.Name a p1) [] [] p2) (LE G C K W (.thk 0 j))) →
      codeAny (model P w) A (.call (.ref g) ⟨[.ref f], []⟩) (CR (L2.CX P w) O P w H s Q (fun _ _ _ => False)) s
section
variable {X : Cx} {pins : List (Addr × Obj)} {σ : L2.St} {H : Hp} {s : Shared}
/-- the lambda called, in the def that took it -/
theorem pe_thk {f c' g : Addr} {pm ctv cd : Value} {params : Arguments} {body : Expr} {scope sg : Scope} {N : List Str} {x a : Str} {k : Nat} {pn : List (Addr × Obj)} {xe : Value → Shared → Prop} {W : WX} {tb : XK → TE} {p1 p2 : Pos}
    (I0 : L2.Inv X pins σ H s) (L : LamX.LamS X.env.scope scope) (at0 : s.heap.get? f = some (PySem.W.kla_obj "<lambda>" (X.env.qual ++ "<lambda>") params body scope (cloFrom X.env.cells scope.names []) pm c' ctv)) (new : H f = none) (out : f ∉ frs X.stack)
    (np : bindArgs (PySem.W.kla_fn "<lambda>" (X.env.qual ++ "<lambda>") params body scope (cloFrom X.env.cells scope.names []) pm (.ref c') ctv) ⟨[], []⟩ = pure [])
    (tk : Takes ((takeCx X.prog X.w X.K X.mg X.base N x sg g cd X.A X.stack s H).tr pn xe) W) (gd : X.A.guards = some []) (rm : Room (k + 2) X.A)
    (hb : ∀ (A : Around) (O : List Env) (t : Shared) (G : Hp) (E : XK), A.guards = some [] → Room k (A.deeper (LamX.lamEnv X scope t.heap.objs.size f c')) → PE (LamX.lamCx X A O t G E scope f c') body (tb E))
    (hN : N[0]? = some a) (hv : Vis sg a) (nd : (a == ("__debug__" : Str)) = false) (nc : (a == ("__classdict__" : Str)) = false) :
    PE ((takeCx X.prog X.w X.K X.mg X.base N x sg g cd X.A X.stack s H).tr pn xe) (.Call (.Name a p1) [] [] p2)
      (fun σ1 G Q => σ1[0]? = some (some (.ref f)) ∧ G c' = some (LamX.CodeO c' (X.env.qual ++ "<lambda>")) ∧ tb (fun c d G' => W c d σ1 G') σ G Q) := by
  constructor
  intro pz sz σ1 G Q Iz hz
  obtain ⟨z1, z2, z3⟩ := hz
  refine wpAny_Call_Name_kw (thn ((pe_var (pos := p1) hN hv nd nc).run pz sz σ1 G (fun v G' => v = .ref f ∧ G' = G) Iz ⟨.ref f, z1, rfl, rfl⟩) fun u s1 vv => ?_)
  obtain ⟨_, _, I1, r1, rfl, e0⟩ := vv
  rw [e0] at I1
  cases r1
  have far : Un (frs X.stack) [] H G s.heap s1.heap := I1.base
  have at1 := far.keep f _ at0 new out (fun z => absurd z List.not_mem_nil)
  refine PySem.W.callWith_F0 ⟨_, _, _, _, at1⟩ ?_
  obtain ⟨⟨oc, us, tc, c1, c2, c3⟩, _⟩ := I1.hok c' _ z2
  refine wpAny_call (codeAny_mono (R := CR (L2.CX X.prog X.w) (envOfC x sg s.heap.objs.size g cd :: X.stack) X.prog X.w G s1 Q (fun c d G' => W c d σ1 G')) ?_ fun o s' hq => ?_)
  · have rd := rm.deeper (envOfC x sg s.heap.objs.size g cd)
    refine PySem.W.kla_callFunE rd.depth at1 rfl L.co L.gen rfl ⟨c', oc, us, tc, rfl, c1, c2, c3⟩ ?_
    rw [List.nil_append, np]
    refine wpAny_pure (wpAny_newFunctionEnv (fun y hy => (L.own y hy).2) (fun y hy => absurd hy List.not_mem_nil) (fun h1 ns bb => ⟨I1.nolimit.fresh _ bb, ?_⟩) L.kind)
    have kp : ∀ b o, s1.heap.get? b = some o → h1.get? b = some o := fun b o e => bb.extBut b o (fun z => absurd (Heap.lt_size e) (by rw [z]; exact Nat.lt_irrefl _)) (Heap.get?_push_of_some _ e)
    have J := LamX.lam_start2 (tk := s1.toks + ([] : List (Str × Value)).length) (E := fun c d G' => W c d σ1 G') (f := f) (c' := c') (A := X.A.deeper (envOfC x sg s.heap.objs.size g cd)) (outer := envOfC x sg s.heap.objs.size g cd :: X.stack) I0 L I1.env0 rd.hd far ns kp
    refine PySem.W.kla_codeExpr (wpAny_mono ((hb (X.A.deeper (envOfC x sg s.heap.objs.size g cd)) _ s1 _ _ gd (rd.deeper _)).run [] _ _ _ Q J z3) (fun v s' hq => ?_) fun e s' hq => hq)
    obtain ⟨y, G', J', rv, q⟩ := hq
    exact ⟨y, G', J'.os, J'.bare, J'.base, J'.hok, rv, q⟩
  · match o, hq with
    | .error e, hq => exact passAt tk σ1 pz G s1 e s' I1 hq
    | .ok (.ret u), hq => exact I1.after hq
    | .ok .next, hq => exact hq.elim
    | .ok .brk, hq => exact hq.elim
    | .ok .cont, hq => exact hq.elim
end
section
variable {G : Nat → SpD} {C : Nat → D} {X : Cx} {W : WX} {pos : Pos}
/-- x(lambda: body) -/
theorem n_lam {x : Str} {j k k' : Nat} {c Pt : Addr} {params : Arguments} {body : Expr} {scope : Scope} {b : E} {p lp : Pos} (gd : X.A.guards = some []) (hx : LamG X.prog X.w X.K X.mg X.base k' x (G j)) (hk : k' ≤ k) (rm : Room (k + 2) X.A) (hg : Gl X x) (nd : (x == ("__debug__" : Str)) = false)
    (TB : LamX.TabB X.base X.mg c Pt) (hc : X.env.code = .ref c) (hm : (Pt, X.env.qual ++ "<lambda>") ∈ tabsOf X.K) (hu : ∀ p ∈ tabsOf X.K, p.1 = Pt → p.2 = X.env.qual ++ "<lambda>") (L : LamX.LamS X.env.scope scope) (hd : defaultsOf params X.env = ([], []))
    (np : ∀ (q : Str) (cl : List (Str × Addr)) (pm cv ctv : Value), bindArgs (PySem.W.kla_fn "<lambda>" q params body scope cl pm cv ctv) ⟨[], []⟩ = pure [])
    (hb : ∀ (A : Around) (O : List Env) (t : Shared) (G' : Hp) (E : XK) (f c' : Addr), A.guards = some [] → Room k (A.deeper (LamX.lamEnv X scope t.heap.objs.size f c')) → PE (LamX.lamCx X A O t G' E scope f c') body (LE G C X.K (fun c d _ H => E c d H) b)) :
    PE X (.Call (.Name x p) [.Lambda params body scope lp] [] pos) (LE G C X.K W (.lam j b)) := by
  constructor
  intro pins s σ H Q I0 hh
  obtain ⟨F, M, R, env, Qd, Xd, w, re, hh, l, lx⟩ := hh
  rw [wpE_lam] at hh
  obtain ⟨g, a, N, sg, cd, g1, g2, g3, g4, g5, g6, go⟩ := hx.ex
  refine wpAny_Call_Name_kw (ld_glob I0 hg g1 (PySem.W.callWith_K (h₀ := X.base) I0.ok.mod.kin g2 ?_ rfl rfl) nd)
  show wpAny _ _ (spliced ((false, eval (.Lambda params body scope lp) X.env) :: backTo pos (starEach [] X.env))) _ _ s
  refine Calls.spliced_cons (LamX.lam_make2 I0 TB hc hm hu w.x.t hd (L.has I0.ok) fun f c' pm ctv H1 s1 I1 x1 t1 at0 new out kc => ?_)
  refine Calls.spliced_nil ⟨I1.kIn, ?_⟩
  obtain ⟨F1, s01, w1, fc⟩ := (w.made x1 t1).known kc
  have r1 := rel_out (re.mono s01)
  refine wpAny_call (codeAny_mono (go X.A X.stack s1 H1 F1 R M f c' _ (dsOf env) (wsOf env σ) Qd Q gd (rm.mono (by omega)) I1.env0 w1 fc r1 (l.mono s01) fun G' C' j' W' pn xe p1 p2 e tk => ?_) fun o s' hq => ?_)
  · refine (pe_thk (tb := fun E => LE G C X.K (fun c d _ H => E c d H) b) I1 L at0 new out (np _ _ _ _ _) tk gd rm (fun A O t G2 E gA rA => hb A O t G2 E f c' gA rA) g3 g4 g5 g6).wk fun σ2 H2 Q2 h2 => ?_
    obtain ⟨F2, M2, R2, env2, Qd2, Xd2, w2, re2, h2, l2, lx2⟩ := h2
    rw [wpE_thk] at h2
    obtain ⟨v, c0, q0, ds0, ws0, ee, h2⟩ := thk_of h2
    rw [e] at h2
    obtain ⟨e1, rfl, hxx, hdd⟩ := h2
    cases e1
    obtain ⟨v', ev, rfl, fc2, rr⟩ := re2.2 0 _ ee
    refine ⟨ev, w2.f _ _ fc2, F2, M2, R2, env, _, _, w2, rel_in re.1 rr, hh, fun d M' F' v H' s' w' r' q' => l2 d M' F' v H' s' w' r' (hdd d M' q'), fun y M' F' c d H' s' w' r' q' => lx2 y M' F' c d H' s' w' r' (hxx y M' q')⟩
  · match o, hq with
    | .error e, hq =>
      obtain ⟨_, _, _, _, _, _, _, _, _, _, _, _, z⟩ := hq
      exact z.elim
    | .ok (.ret u), hq => exact I1.after hq
    | .ok .next, hq => exact hq.elim
    | .ok .brk, hq => exact hq.elim
    | .ok .cont, hq => exact hq.elim
end
end PD

/-! PD: the small syntax beside the given one -/
namespace PD
open PySem PySem.Spec PyProof.Rows L2
variable [Tb]

structure Sta where
  N : List Str
  fns : List Str
  cns : List Str
  blts : List Str
  xs : List XF := []
  ms : List (Str × Str × Str) := []
  nm : List (Str × NameKind) := []
  thk : Option (Str × Nat × Nat) := none
abbrev Nms := List (Str × NameKind)
def isVar (nm : Nms) (x : Str) : Bool := match nm.lookup x with
  | some .local | some .cell | some .free => true
  | _ => false
def isTgt (nm : Nms) (x : Str) : Bool := match nm.lookup x with
  | some .local | some .cell => true
  | _ => false
def isGlo (nm : Nms) (x : Str) : Bool := match nm.lookup x with
  | some .globalImplicit => true
  | _ => false
def okN (x : Str) : Bool := !(x == ("__debug__" : Str)) && !(x == ("__classdict__" : Str)) && decide (x ≠ ("__name__" : Str))
def hasB (S : Sta) (x : Str) : Bool := S.blts.any fun y => decide (y = x)
def isB (S : Sta) (nm : Nms) (x b : Str) : Bool := decide (x = b) && isGlo nm x && hasB S x
def chkC : D → Const → Bool
  | .int i, .int j => decide (i = j)
  | .str i, .str j => decide (i = j)
  | .bl i, .bool j => decide (i = j)
  | .non, .none => true
  | _, _ => false
def chkTs (S : Sta) (nm : Nms) : List Nat → List Expr → Bool
  | [], [] => true
  | i :: is, .Name x _ :: es => decide (S.N[i]? = some x) && isTgt nm x && chkTs S nm is es
  | _, _ => false
def chkT (S : Sta) (nm : Nms) : Tgt → Expr → Bool
  | .nm i, .Name x _ => decide (S.N[i]? = some x) && isTgt nm x
  | .tp is, .Tuple es _ _ => chkTs S nm is es
  | _, _ => false
def ownTs : List Nat → List Expr → List (Str × Nat)
  | i :: is, .Name x _ :: es => (x, i) :: ownTs is es
  | _, _ => []
def ownT : Tgt → Expr → List (Str × Nat)
  | .nm i, .Name x _ => [(x, i)]
  | .tp is, .Tuple es _ _ => ownTs is es
  | _, _ => []
/-- a comprehension's scope -/
def blkS (N : List Str) (nm0 nm : Nms) (scope : Scope) (own : List (Str × Nat)) : Bool :=
  !decide (scope.names = nm0) && (match scope.kind with | .function => true | _ => false) && (scope.names.all fun y => decide (scope.names.lookup y.1 = some y.2)) && (own.all fun p => decide (N[p.2]? = some p.1)) &&
    (scope.names.all fun y => match y.2 with
      | .free => (match nm.lookup y.1 with | some .cell => true | some .free => true | _ => false)
      | .local => (own.any fun p => decide (p.1 = y.1)) || !(N.any fun p => decide (p = y.1))
      | .cell => (own.any fun p => decide (p.1 = y.1)) || !(N.any fun p => decide (p = y.1))
      | _ => true)
def plainT : Expr → Bool
  | .UnaryOp .Not _ _ | .BoolOp _ _ _ | .IfExp _ _ _ _ | .Compare _ _ _ _ => false
  | _ => true
def noSet : Expr → Bool
  | .Set _ _ _ => false
  | _ => true
def isTup : Expr → Bool
  | .Tuple _ _ _ => true
  | _ => false
def chkKs : List Key → List (Option Expr) → Bool
  | [], [] => true
  | .inl i :: ks, some (.Constant (.int j) _ _) :: es => decide (i = j) && chkKs ks es
  | .inr i :: ks, some (.Constant (.str j) _ _) :: es => decide (i = j) && chkKs ks es
  | _, _ => false
def nodupK : List Key → Bool
  | [] => true
  | k :: ks => !(ks.any fun j => decide (j = k)) && nodupK ks
def isNil : Es → Bool
  | .nil => true
  | _ => false
def meOk : Me → List Expr → Bool
  | .append, [_] => true
  | .popAt, [_] => true
  | .extend, [_] => true
  | .count, [_] => true
  | .pop, [] => true
  | .reverse, [] => true
  | .clear, [] => true
  | _, _ => false
def cellT (nm : Nms) : Expr → Bool
  | .Tuple ts _ _ => ts.any fun t => match t with
    | .Name x _ => (match nm.lookup x with | some .cell => true | _ => false)
    | _ => false
  | _ => false
def hasX (S : Sta) (f : XF) : Bool := S.xs.any fun g => decide (g = f)
def chkCs (S : Sta) (nm : Nms) (rs : List Str) : List Str → List Expr → Bool
  | [], [] => true
  | c :: cs, .Name t _ :: es => decide (c = t) && isGlo nm t && okN t && (rs.all fun r => hasX S (.kit r c)) && chkCs S nm rs cs es
  | _, _ => false
def isMs (S : Sta) (j : Nat) (c m : Str) : Bool := match S.fns[j]? with
  | some y => decide (S.ms.lookup y = some (c, m)) && decide (c ≠ lamW)
  | none => false
def noPar : Arguments → Bool
  | ⟨[], [], none, [], [], none, []⟩ => true
  | _ => false
/-- a lambda's scope -/
def lamN (nm : Nms) (scope : Scope) : Bool :=
  (match scope.kind with | .function => true | _ => false) && !scope.isCoroutine && !scope.isGenerator && scope.names.all fun y => !decide (y.2 = .local) && !decide (y.2 = .cell) && (!decide (y.2 = .free) || decide (nm.lookup y.1 = some .cell) || decide (nm.lookup y.1 = some .free))
def rsOk (S : Sta) (rs : List Str) : Bool := !rs.isEmpty && rs.all fun r => hasX S (.exc r)
mutual
def tst : E → Bool
  | .ife _ _ _ => false
  | .not a => tst a
  | .bop _ es => tsts es
  | _ => true
def tsts : Es → Bool
  | .nil => true
  | .cons e r => tst e && tsts r
end
section
variable (S : Sta)
mutual
def chkE : E → Nms → Expr → Bool
  | .v i, nm, z => match z with
    | .Name x _ => decide (S.N[i]? = some x) && isVar nm x && okN x
    | _ => false
  | .k d, _, z => match z with
    | .Constant c _ _ => chkC d c
    | _ => false
  | .g n, nm, z => match z with
    | .Name x _ => decide (S.cns[n]? = some x) && isGlo nm x && okN x
    | _ => false
  | .bin o a b, nm, z => match z with
    | .BinOp x p y _ => decide (o = p) && chkE a nm x && chkE b nm y
    | _ => false
  | .neg a, nm, z => match z with
    | .UnaryOp .USub x _ => chkE a nm x
    | _ => false
  | .not a, nm, z => match z with
    | .UnaryOp .Not x _ => chkE a nm x
    | _ => false
  | .bop c es, nm, z => match z with
    | .BoolOp op xs _ => decide (c = decide (op = .And)) && chkEs es nm xs && !isNil es
    | _ => false
  | .cmp o a b, nm, z => match z with
    | .Compare x [p] [y] _ => decide (o = p) && chkE a nm x && chkE b nm y && !behindInMarks o y
    | _ => false
  | .chain o p a b c, nm, z => match z with
    | .Compare x [o', p'] [y, z] _ => decide (o = o') && decide (p = p') && chkE a nm x && chkE b nm y && chkE c nm z && !lastMarks [o, p] [y, z]
    | _ => false
  | .ife c a b, nm, z => match z with
    | .IfExp z x y _ => tst c && chkE c nm z && chkE a nm x && chkE b nm y
    | _ => false
  | .tup es, nm, z => match z with
    | .Tuple xs _ _ => chkEs es nm xs
    | _ => false
  | .fr n, nm, x => plainT x && chkN n nm x
  | .ce n, nm, x => plainT x && chkN n nm x
  | .dfr ks es, nm, z => match z with
    | .Dict keys vals _ => chkKs ks keys && chkEs es nm vals && nodupK ks && decide (ks.length ≤ 15) && decide (ks.length = vals.length)
    | _ => false
  | .dce ks es, nm, z => match z with
    | .Dict keys vals _ => chkKs ks keys && chkEs es nm vals && nodupK ks && decide (ks.length ≤ 15) && decide (ks.length = vals.length)
    | _ => false
  | .ix a b, nm, z => match z with
    | .Subscript x y _ => noSlice y && chkE a nm x && chkE b nm y
    | _ => false
  | .sl a lo hi, nm, z => match z with
    | .Subscript x (.Slice l h none _) _ => chkE a nm x && chkO lo nm l && chkO hi nm h
    | _ => false
  | .rvt a, nm, z => match z with
    | .Subscript x (.Slice none none (some (.UnaryOp .USub (.Constant (.int 1) _ _) _)) _) _ => chkE a nm x
    | _ => false
  | .isi a ty, nm, z => match z with
    | .Call (.Name f _) [x, .Name t _] [] _ => isB S nm f "isinstance" && isGlo nm t && hasB S t && okN t && decide (bootBuiltins t = some (.type ty)) && noStar x && chkE a nm x
    | _ => false
  | .call f es, nm, z => match z with
    | .Call (.Name x _) as [] _ => decide (S.fns[f]? = some x) && isGlo nm x && okN x && chkEs es nm as && true && decide (S.ms.lookup x = none)
    | _ => false
  | .bi b es, nm, z => match z with
    | .Call (.Name x _) as [] _ => isB S nm x (biN b) && chkEs es nm as && !isNil es
    | _ => false
  | .me m a es, nm, z => match z with
    | .Call (.Attribute o n apos) as [] cpos => decide (n = meN m) && meOk m as && chkE a nm o && chkEs es nm as && (apos.endLine == cpos.line) && notCall0 o
    | _ => false
  | .isc a rs cs, nm, z => match z with
    | .Call (.Name f _) [x, .Tuple es _ _] [] _ => isB S nm f "isinstance" && noStar x && rsOk S rs && chkCs S nm rs cs es && decide (es.length ≤ 100) && chkE a nm x
    | .Call (.Name f _) [x, .Name t p] [] _ => isB S nm f "isinstance" && noStar x && rsOk S rs && chkCs S nm rs cs [.Name t p] && chkE a nm x
    | _ => false
  | .fv f, nm, z => match z with
    | .Name x _ => decide (f = x) && isGlo nm x && okN x && hasX S (.fnv f)
    | _ => false
  | .callv i cs es, nm, z => match z with
    | .Call (.Name x _) as [] _ => decide (S.N[i]? = some x) && isVar nm x && okN x && chkEs es nm as && !isNil es && cs.all fun p => decide (S.fns[p.2]? = some p.1) && decide (S.ms.lookup p.1 = none)
    | _ => false
  | .fld a c f, nm, z => match z with
    | .Attribute x n _ => decide (n = f) && hasX S (.noat c f) && notCall0 x && chkE a nm x
    | _ => false
  | .meth a c m j es, nm, z => match z with
    | .Call (.Attribute o n apos) as [] cpos => decide (n = m) && isMs S j c m && chkE a nm o && chkEs es nm as && (apos.endLine == cpos.line) && notCall0 o && decide (as.length < 30)
    | _ => false
  | .make c j es, nm, z => match z with
    | .Call (.Name x _) as [] _ => decide (x = c) && isGlo nm x && okN x && isMs S j c "__init__" && chkEs es nm as && !isNil es
    | _ => false
  | .lam j b, nm, z => match z with
    | .Call (.Name x _) [.Lambda params body scope _] [] _ => decide (S.fns[j]? = some x) && decide (S.ms.lookup x = some (lamW, takeW)) && isGlo nm x && okN x && decide (nm = S.nm) && noPar params && lamN nm scope && !decide (scope.names = S.nm) && chkE b scope.names body
    | _ => false
  | .idx a es, nm, z => match z with
    | .Call (.Attribute o n apos) [e] [] cpos => decide (n = "index") && chkE a nm o && chkEs es nm [e] && (apos.endLine == cpos.line) && notCall0 o
    | _ => false
  | .thk i j, nm, z => match z with
    | .Call (.Name x _) [] [] _ => decide (S.thk = some (x, i, j)) && decide (nm = S.nm)
    | _ => false
def chkN : N → Nms → Expr → Bool
  | .lst es, nm, z => match z with
    | .List xs _ => chkEs es nm xs
    | _ => false
  | .comp e t it c, nm, z => match z with
    | .ListComp elt [⟨tg, iter, ifs, 0⟩] scope _ => chkI it nm tg iter && noSet iter && chkT S scope.names t tg && chkE e scope.names elt && chkF c scope.names ifs && blkS S.N S.nm nm scope (ownT t tg)
    | _ => false
  | .cat a b, nm, z => match z with
    | .BinOp x .Add y _ => chkE a nm x && chkE b nm y
    | _ => false
  | .rep a b, nm, z => match z with
    | .BinOp x .Mult y _ => chkE a nm x && chkE b nm y
    | _ => false
  | .sl a lo hi, nm, z => match z with
    | .Subscript x (.Slice l h none _) _ => chkE a nm x && chkO lo nm l && chkO hi nm h
    | _ => false
  | .lof a, nm, z => match z with
    | .Call (.Name f _) [x] [] _ => isB S nm f "list" && noStar x && chkE a nm x
    | _ => false
  | .lrg es, nm, z => match z with
    | .Call (.Name f _) [.Call (.Name g _) as [] _] [] _ => isB S nm f "list" && isB S nm g "range" && chkEs es nm as && (decide (as.length = 1) || decide (as.length = 2))
    | _ => false
  | .rev a lo, nm, z => match z with
    | .Subscript x (.Slice l none (some (.UnaryOp .USub (.Constant (.int 1) _ _) _)) _) _ => chkE a nm x && chkO lo nm l
    | _ => false
def chkI : I → Nms → Expr → Expr → Bool
  | .seq e, nm, _, x => chkE e nm x
  | .rng es, nm, _, z => match z with
    | .Call (.Name f _) as [] _ => isB S nm f "range" && chkEs es nm as && (decide (as.length = 1) || decide (as.length = 2))
    | _ => false
  | .rdn a b, nm, _, z => match z with
    | .Call (.Name f _) [x, y, .UnaryOp .USub (.Constant (.int 1) _ _) _] [] _ => isB S nm f "range" && noStar x && noStar y && chkE a nm x && chkE b nm y
    | _ => false
  | .enum e, nm, tg, z => match z with
    | .Call (.Name f _) [x] [] _ => isTup tg && isB S nm f "enumerate" && noStar x && chkE e nm x
    | _ => false
  | .zip a b, nm, tg, z => match z with
    | .Call (.Name f _) [x, y] [] _ => isTup tg && isB S nm f "zip" && noStar x && noStar y && chkE a nm x && chkE b nm y
    | _ => false
def chkEs : Es → Nms → List Expr → Bool
  | .nil, _, z => match z with
    | [] => true
    | _ => false
  | .cons e r, nm, z => match z with
    | x :: xs => noStar x && chkE e nm x && chkEs r nm xs
    | _ => false
def chkO : Es → Nms → Option Expr → Bool
  | .nil, _, z => match z with
    | none => true
    | _ => false
  | .cons e r, nm, z => match r, z with
    | .nil, some x => chkE e nm x
    | _, _ => false
def chkF : Es → Nms → List Expr → Bool
  | .nil, _, z => match z with
    | [] => true
    | _ => false
  | .cons e r, nm, z => match r, z with
    | .nil, [x] => tst e && chkE e nm x
    | _, _ => false
end
/-- an assigned comprehension that is stored at once -/
def atOnce (nm : Nms) : Expr → Expr → Bool
  | .Name y py, .ListComp _ _ scope pos => (match nm.lookup y with | some .local => true | _ => false) && (py.line == pos.line) && !(scope.names.any fun (n, k) => n == y && (k == .local || k == .cell))
  | _, _ => false
def late (nm : Nms) : Expr → Expr → Bool
  | .Name y py, .ListComp _ _ _ pos => (match nm.lookup y with | some .cell => true | some .local => !(py.line == pos.line) | _ => false)
  | _, _ => false
def isNew : E → Bool
  | .fr (.comp _ _ _ _) => true
  | .ce (.comp _ _ _ _) => true
  | _ => false
def isLoc (nm : Nms) (x : Str) : Bool := match nm.lookup x with | some .local => true | _ => false
mutual
def chkS : PD.S → Nms → Stmt → Bool
  | .par i j a b, nm, z => match z with
    | .Assign [.Tuple [.Name x px, .Name y py] _ _] (.Tuple [u, v] _ _) _ => decide (S.N[i]? = some x) && decide (S.N[j]? = some y) && isLoc nm x && isLoc nm y && decide (i ≠ j) && decide (x ≠ y) && decide (px.line = py.line) && noStar u && noStar v && !([u, v].all (foldedForSure 8)) && !([u, v].all (constantsAlone 8)) && chkE S a nm u && chkE S b nm v
    | _ => false
  | .frz _, _, _ => false
  | .set t e, nm, z => match z with
    | .Assign [tg] x pos => chkT S nm t tg && chkE S e nm x && (nameTgt tg || notTup x || cellT nm tg || foldTup x) && (notComp x || !nameTgt tg || late nm tg x || (atOnce nm tg x && isNew e))
    | _ => false
  | .six a b c, nm, z => match z with
    | .Assign [.Subscript o i _] x _ => chkE S c nm x && chkE S a nm o && chkE S b nm i && noSlice i
    | _ => false
  | .sfld a c f e, nm, z => match z with
    | .Assign [.Attribute o n _] x _ => decide (n = f) && hasX S (.noat c f) && chkE S e nm x && chkE S a nm o
    | _ => false
  | .exp a, nm, z => match z with
    | .Expr x _ => notComp x && chkE S a nm x
    | _ => false
  | .ret a, nm, z => match z with
    | .Return (some x) _ => chkE S a nm x
    | _ => false
  | .ite c a b, nm, z => match z with
    | .If x p q _ => tst c && chkE S c nm x && chkSs a nm p && chkSs b nm q
    | _ => false
  | .for_ t it b, nm, z => match z with
    | .For tg iter body [] _ => chkT S nm t tg && chkI S it nm tg iter && noSet iter && chkSs b nm body
    | _ => false
  | .whl c b, nm, z => match z with
    | .While x body [] _ => tst c && chkE S c nm x && chkSs b nm body
    | _ => false
  | .brk, _, z => match z with
    | .Break _ => true
    | _ => false
  | .cont, _, z => match z with
    | .Continue _ => true
    | _ => false
  | .pass, _, z => match z with
    | .Pass _ => true
    | _ => false
  | .nev, _, _ => true
  | .rse c, nm, z => match z with
    | .Raise (some (.Call (.Name x _) [.Constant (.str _) _ _] [] _)) none _ => decide (c = x) && isGlo nm x && okN x && hasX S (.rse c)
    | _ => false
  | .tryo rs c b i d, nm, z => match z with
    | .Try body [.ExceptHandler (some (.Name x _)) none [.Assign [.Name y _] (.Constant k _ _) _] _] [] [] _ => decide (c = x) && isGlo nm x && okN x && decide (S.N[i]? = some y) && isLoc nm y && chkC d k && (!rs.isEmpty && rs.all fun r => hasX S (.exm r c)) && chkSs b nm body
    | _ => false
  | .tryn rs c b j i, nm, z => match z with
    | .Try body [.ExceptHandler (some (.Name x _)) (some n) [.Assign [.Name y _] (.Name n2 _) _] _] [] [] _ => decide (c = x) && isGlo nm x && okN x && decide (S.N[i]? = some y) && isLoc nm y && decide (n = n2) && decide (S.N[j]? = some n) && isLoc nm n && okN n && decide (i ≠ j) && (!rs.isEmpty && rs.all fun r => hasX S (.exm r c)) && chkSs b nm body
    | _ => false
def chkSs : Ss → Nms → List Stmt → Bool
  | .nil, _, z => match z with
    | [] => true
    | _ => false
  | .cons s r, nm, z => match s with
    | .frz _ => chkSs r nm z
    | s => match z with
      | st :: sts => chkS s nm st && chkSs r nm sts
      | [] => false
end
end
/-! equations -/
section
variable {S : Sta}
theorem chkE_v {i : _} {nm : Nms} {z : Expr} : chkE S (PD.E.v i) nm z = (match z with
    | .Name x _ => decide (S.N[i]? = some x) && isVar nm x && okN x
    | _ => false) := rfl
theorem chkE_k {d : _} {nm : Nms} {z : Expr} : chkE S (PD.E.k d) nm z = (match z with
    | .Constant c _ _ => chkC d c
    | _ => false) := rfl
theorem chkE_g {n : _} {nm : Nms} {z : Expr} : chkE S (PD.E.g n) nm z = (match z with
    | .Name x _ => decide (S.cns[n]? = some x) && isGlo nm x && okN x
    | _ => false) := rfl
theorem chkE_bin {o : _} {a : _} {b : _} {nm : Nms} {z : Expr} : chkE S (PD.E.bin o a b) nm z = (match z with
    | .BinOp x p y _ => decide (o = p) && chkE S a nm x && chkE S b nm y
    | _ => false) := rfl
theorem chkE_neg {a : _} {nm : Nms} {z : Expr} : chkE S (PD.E.neg a) nm z = (match z with
    | .UnaryOp .USub x _ => chkE S a nm x
    | _ => false) := rfl
theorem chkE_not {a : _} {nm : Nms} {z : Expr} : chkE S (PD.E.not a) nm z = (match z with
    | .UnaryOp .Not x _ => chkE S a nm x
    | _ => false) := rfl
theorem chkE_bop {c : _} {es : _} {nm : Nms} {z : Expr} : chkE S (PD.E.bop c es) nm z = (match z with
    | .BoolOp op xs _ => decide (c = decide (op = .And)) && chkEs S es nm xs && !isNil es
    | _ => false) := rfl
theorem chkE_cmp {o : _} {a : _} {b : _} {nm : Nms} {z : Expr} : chkE S (PD.E.cmp o a b) nm z = (match z with
    | .Compare x [p] [y] _ => decide (o = p) && chkE S a nm x && chkE S b nm y && !behindInMarks o y
    | _ => false) := rfl
theorem chkE_chain {o : _} {p : _} {a : _} {b : _} {c : _} {nm : Nms} {z : Expr} : chkE S (PD.E.chain o p a b c) nm z = (match z with
    | .Compare x [o', p'] [y, z] _ => decide (o = o') && decide (p = p') && chkE S a nm x && chkE S b nm y && chkE S c nm z && !lastMarks [o, p] [y, z]
    | _ => false) := rfl
theorem chkE_ife {c : _} {a : _} {b : _} {nm : Nms} {z : Expr} : chkE S (PD.E.ife c a b) nm z = (match z with
    | .IfExp z x y _ => tst c && chkE S c nm z && chkE S a nm x && chkE S b nm y
    | _ => false) := rfl
theorem chkE_tup {es : _} {nm : Nms} {z : Expr} : chkE S (PD.E.tup es) nm z = (match z with
    | .Tuple xs _ _ => chkEs S es nm xs
    | _ => false) := rfl
theorem chkE_fr {n : _} {nm : Nms} {x : Expr} : chkE S (PD.E.fr n) nm x = (plainT x && chkN S n nm x) := rfl
theorem chkE_ce {n : _} {nm : Nms} {x : Expr} : chkE S (PD.E.ce n) nm x = (plainT x && chkN S n nm x) := rfl
theorem chkE_dfr {ks : _} {es : _} {nm : Nms} {z : Expr} : chkE S (PD.E.dfr ks es) nm z = (match z with
    | .Dict keys vals _ => chkKs ks keys && chkEs S es nm vals && nodupK ks && decide (ks.length ≤ 15) && decide (ks.length = vals.length)
    | _ => false) := rfl
theorem chkE_dce {ks : _} {es : _} {nm : Nms} {z : Expr} : chkE S (PD.E.dce ks es) nm z = (match z with
    | .Dict keys vals _ => chkKs ks keys && chkEs S es nm vals && nodupK ks && decide (ks.length ≤ 15) && decide (ks.length = vals.length)
    | _ => false) := rfl
theorem chkE_ix {a : _} {b : _} {nm : Nms} {z : Expr} : chkE S (PD.E.ix a b) nm z = (match z with
    | .Subscript x y _ => noSlice y && chkE S a nm x && chkE S b nm y
    | _ => false) := rfl
theorem chkE_sl {a : _} {lo : _} {hi : _} {nm : Nms} {z : Expr} : chkE S (PD.E.sl a lo hi) nm z = (match z with
    | .Subscript x (.Slice l h none _) _ => chkE S a nm x && chkO S lo nm l && chkO S hi nm h
    | _ => false) := rfl
theorem chkE_isi {a : _} {ty : _} {nm : Nms} {z : Expr} : chkE S (PD.E.isi a ty) nm z = (match z with
    | .Call (.Name f _) [x, .Name t _] [] _ => isB S nm f "isinstance" && isGlo nm t && hasB S t && okN t && decide (bootBuiltins t = some (.type ty)) && noStar x && chkE S a nm x
    | _ => false) := rfl
theorem chkE_call {f : _} {es : _} {nm : Nms} {z : Expr} : chkE S (PD.E.call f es) nm z = (match z with
    | .Call (.Name x _) as [] _ => decide (S.fns[f]? = some x) && isGlo nm x && okN x && chkEs S es nm as && true && decide (S.ms.lookup x = none)
    | _ => false) := rfl
theorem chkE_bi {b : _} {es : _} {nm : Nms} {z : Expr} : chkE S (PD.E.bi b es) nm z = (match z with
    | .Call (.Name x _) as [] _ => isB S nm x (biN b) && chkEs S es nm as && !isNil es
    | _ => false) := rfl
theorem chkE_me {m : _} {a : _} {es : _} {nm : Nms} {z : Expr} : chkE S (PD.E.me m a es) nm z = (match z with
    | .Call (.Attribute o n apos) as [] cpos => decide (n = meN m) && meOk m as && chkE S a nm o && chkEs S es nm as && (apos.endLine == cpos.line) && notCall0 o
    | _ => false) := rfl
theorem chkE_lam {j : _} {b : _} {nm : Nms} {z : Expr} : chkE S (PD.E.lam j b) nm z = (match z with
    | .Call (.Name x _) [.Lambda params body scope _] [] _ => decide (S.fns[j]? = some x) && decide (S.ms.lookup x = some (lamW, takeW)) && isGlo nm x && okN x && decide (nm = S.nm) && noPar params && lamN nm scope && !decide (scope.names = S.nm) && chkE S b scope.names body
    | _ => false) := rfl
theorem chkE_idx {a : _} {es : _} {nm : Nms} {z : Expr} : chkE S (PD.E.idx a es) nm z = (match z with
    | .Call (.Attribute o n apos) [e] [] cpos => decide (n = "index") && chkE S a nm o && chkEs S es nm [e] && (apos.endLine == cpos.line) && notCall0 o
    | _ => false) := rfl
theorem chkE_thk {i : _} {j : _} {nm : Nms} {z : Expr} : chkE S (PD.E.thk i j) nm z = (match z with
    | .Call (.Name x _) [] [] _ => decide (S.thk = some (x, i, j)) && decide (nm = S.nm)
    | _ => false) := rfl
theorem chkN_lst {es : _} {nm : Nms} {z : Expr} : chkN S (PD.N.lst es) nm z = (match z with
    | .List xs _ => chkEs S es nm xs
    | _ => false) := rfl
theorem chkN_comp {e : _} {t : _} {it : _} {c : _} {nm : Nms} {z : Expr} : chkN S (PD.N.comp e t it c) nm z = (match z with
    | .ListComp elt [⟨tg, iter, ifs, 0⟩] scope _ => chkI S it nm tg iter && noSet iter && chkT S scope.names t tg && chkE S e scope.names elt && chkF S c scope.names ifs && blkS S.N S.nm nm scope (ownT t tg)
    | _ => false) := rfl
theorem chkN_cat {a : _} {b : _} {nm : Nms} {z : Expr} : chkN S (PD.N.cat a b) nm z = (match z with
    | .BinOp x .Add y _ => chkE S a nm x && chkE S b nm y
    | _ => false) := rfl
theorem chkN_rep {a : _} {b : _} {nm : Nms} {z : Expr} : chkN S (PD.N.rep a b) nm z = (match z with
    | .BinOp x .Mult y _ => chkE S a nm x && chkE S b nm y
    | _ => false) := rfl
theorem chkE_rvt {a : _} {nm : Nms} {z : Expr} : chkE S (PD.E.rvt a) nm z = (match z with
    | .Subscript x (.Slice none none (some (.UnaryOp .USub (.Constant (.int 1) _ _) _)) _) _ => chkE S a nm x
    | _ => false) := rfl
theorem chkN_sl {a : _} {lo : _} {hi : _} {nm : Nms} {z : Expr} : chkN S (PD.N.sl a lo hi) nm z = (match z with
    | .Subscript x (.Slice l h none _) _ => chkE S a nm x && chkO S lo nm l && chkO S hi nm h
    | _ => false) := rfl
theorem chkN_lof {a : _} {nm : Nms} {z : Expr} : chkN S (PD.N.lof a) nm z = (match z with
    | .Call (.Name f _) [x] [] _ => isB S nm f "list" && noStar x && chkE S a nm x
    | _ => false) := rfl
theorem chkN_lrg {es : _} {nm : Nms} {z : Expr} : chkN S (PD.N.lrg es) nm z = (match z with
    | .Call (.Name f _) [.Call (.Name g _) as [] _] [] _ => isB S nm f "list" && isB S nm g "range" && chkEs S es nm as && (decide (as.length = 1) || decide (as.length = 2))
    | _ => false) := rfl
theorem chkN_rev {a : _} {lo : _} {nm : Nms} {z : Expr} : chkN S (PD.N.rev a lo) nm z = (match z with
    | .Subscript x (.Slice l none (some (.UnaryOp .USub (.Constant (.int 1) _ _) _)) _) _ => chkE S a nm x && chkO S lo nm l
    | _ => false) := rfl
theorem chkI_seq {e : _} {nm : Nms} {tg : Expr} {x : Expr} : chkI S (PD.I.seq e) nm tg x = (chkE S e nm x) := rfl
theorem chkI_rng {es : _} {nm : Nms} {tg : Expr} {z : Expr} : chkI S (PD.I.rng es) nm tg z = (match z with
    | .Call (.Name f _) as [] _ => isB S nm f "range" && chkEs S es nm as && (decide (as.length = 1) || decide (as.length = 2))
    | _ => false) := rfl
theorem chkI_rdn {a : _} {b : _} {nm : Nms} {tg : Expr} {z : Expr} : chkI S (PD.I.rdn a b) nm tg z = (match z with
    | .Call (.Name f _) [x, y, .UnaryOp .USub (.Constant (.int 1) _ _) _] [] _ => isB S nm f "range" && noStar x && noStar y && chkE S a nm x && chkE S b nm y
    | _ => false) := rfl
theorem chkI_enum {e : _} {nm : Nms} {tg : Expr} {z : Expr} : chkI S (PD.I.enum e) nm tg z = (match z with
    | .Call (.Name f _) [x] [] _ => isTup tg && isB S nm f "enumerate" && noStar x && chkE S e nm x
    | _ => false) := rfl
theorem chkI_zip {a : _} {b : _} {nm : Nms} {tg : Expr} {z : Expr} : chkI S (PD.I.zip a b) nm tg z = (match z with
    | .Call (.Name f _) [x, y] [] _ => isTup tg && isB S nm f "zip" && noStar x && noStar y && chkE S a nm x && chkE S b nm y
    | _ => false) := rfl
theorem chkEs_nil  {nm : Nms} {z : List Expr} : chkEs S (PD.Es.nil) nm z = (match z with
    | [] => true
    | _ => false) := rfl
theorem chkEs_cons {e : _} {r : _} {nm : Nms} {z : List Expr} : chkEs S (PD.Es.cons e r) nm z = (match z with
    | x :: xs => noStar x && chkE S e nm x && chkEs S r nm xs
    | _ => false) := rfl
theorem chkO_nil  {nm : Nms} {z : Option Expr} : chkO S (PD.Es.nil) nm z = (match z with
    | none => true
    | _ => false) := rfl
theorem chkO_cons {e : _} {r : _} {nm : Nms} {z : Option Expr} : chkO S (PD.Es.cons e r) nm z = (match r, z with
    | .nil, some x => chkE S e nm x
    | _, _ => false) := rfl
theorem chkF_nil  {nm : Nms} {z : List Expr} : chkF S (PD.Es.nil) nm z = (match z with
    | [] => true
    | _ => false) := rfl
theorem chkF_cons {e : _} {r : _} {nm : Nms} {z : List Expr} : chkF S (PD.Es.cons e r) nm z = (match r, z with
    | .nil, [x] => tst e && chkE S e nm x
    | _, _ => false) := rfl
theorem chkS_set {t : _} {e : _} {nm : Nms} {z : Stmt} : chkS S (PD.S.set t e) nm z = (match z with
    | .Assign [tg] x pos => chkT S nm t tg && chkE S e nm x && (nameTgt tg || notTup x || cellT nm tg || foldTup x) && (notComp x || !nameTgt tg || late nm tg x || (atOnce nm tg x && isNew e))
    | _ => false) := rfl
theorem chkS_par {i j : Nat} {a : _} {b : _} {nm : Nms} {z : Stmt} : chkS S (PD.S.par i j a b) nm z = (match z with
    | .Assign [.Tuple [.Name x px, .Name y py] _ _] (.Tuple [u, v] _ _) _ => decide (S.N[i]? = some x) && decide (S.N[j]? = some y) && isLoc nm x && isLoc nm y && decide (i ≠ j) && decide (x ≠ y) && decide (px.line = py.line) && noStar u && noStar v && !([u, v].all (foldedForSure 8)) && !([u, v].all (constantsAlone 8)) && chkE S a nm u && chkE S b nm v
    | _ => false) := rfl
theorem chkS_six {a : _} {b : _} {c : _} {nm : Nms} {z : Stmt} : chkS S (PD.S.six a b c) nm z = (match z with
    | .Assign [.Subscript o i _] x _ => chkE S c nm x && chkE S a nm o && chkE S b nm i && noSlice i
    | _ => false) := rfl
theorem chkS_sfld {a : _} {c : _} {f : _} {e : _} {nm : Nms} {z : Stmt} : chkS S (PD.S.sfld a c f e) nm z = (match z with
    | .Assign [.Attribute o n _] x _ => decide (n = f) && hasX S (.noat c f) && chkE S e nm x && chkE S a nm o
    | _ => false) := rfl
theorem chkS_exp {a : _} {nm : Nms} {z : Stmt} : chkS S (PD.S.exp a) nm z = (match z with
    | .Expr x _ => notComp x && chkE S a nm x
    | _ => false) := rfl
theorem chkS_ret {a : _} {nm : Nms} {z : Stmt} : chkS S (PD.S.ret a) nm z = (match z with
    | .Return (some x) _ => chkE S a nm x
    | _ => false) := rfl
theorem chkS_ite {c : _} {a : _} {b : _} {nm : Nms} {z : Stmt} : chkS S (PD.S.ite c a b) nm z = (match z with
    | .If x p q _ => tst c && chkE S c nm x && chkSs S a nm p && chkSs S b nm q
    | _ => false) := rfl
theorem chkS_for {t : _} {it : _} {b : _} {nm : Nms} {z : Stmt} : chkS S (PD.S.for_ t it b) nm z = (match z with
    | .For tg iter body [] _ => chkT S nm t tg && chkI S it nm tg iter && noSet iter && chkSs S b nm body
    | _ => false) := rfl
theorem chkS_whl {c : _} {b : _} {nm : Nms} {z : Stmt} : chkS S (PD.S.whl c b) nm z = (match z with
    | .While x body [] _ => tst c && chkE S c nm x && chkSs S b nm body
    | _ => false) := rfl
theorem chkS_brk  {nm : Nms} {z : Stmt} : chkS S (PD.S.brk) nm z = (match z with
    | .Break _ => true
    | _ => false) := rfl
theorem chkS_cont  {nm : Nms} {z : Stmt} : chkS S (PD.S.cont) nm z = (match z with
    | .Continue _ => true
    | _ => false) := rfl
theorem chkS_pass  {nm : Nms} {z : Stmt} : chkS S (PD.S.pass) nm z = (match z with
    | .Pass _ => true
    | _ => false) := rfl
theorem chkS_nev  {nm : Nms} {z : Stmt} : chkS S (PD.S.nev) nm z = (true) := rfl
theorem chkE_isc {a : _} {rs : _} {cs : _} {nm : Nms} {z : Expr} : chkE S (PD.E.isc a rs cs) nm z = (match z with
    | .Call (.Name f _) [x, .Tuple es _ _] [] _ => isB S nm f "isinstance" && noStar x && rsOk S rs && chkCs S nm rs cs es && decide (es.length ≤ 100) && chkE S a nm x
    | .Call (.Name f _) [x, .Name t p] [] _ => isB S nm f "isinstance" && noStar x && rsOk S rs && chkCs S nm rs cs [.Name t p] && chkE S a nm x
    | _ => false) := rfl
theorem chkE_fv {f : _} {nm : Nms} {z : Expr} : chkE S (PD.E.fv f) nm z = (match z with
    | .Name x _ => decide (f = x) && isGlo nm x && okN x && hasX S (.fnv f)
    | _ => false) := rfl
theorem chkE_callv {i : _} {cs : _} {es : _} {nm : Nms} {z : Expr} : chkE S (PD.E.callv i cs es) nm z = (match z with
    | .Call (.Name x _) as [] _ => decide (S.N[i]? = some x) && isVar nm x && okN x && chkEs S es nm as && !isNil es && cs.all fun p => decide (S.fns[p.2]? = some p.1) && decide (S.ms.lookup p.1 = none)
    | _ => false) := rfl
theorem chkE_fld {a : _} {c : _} {f : _} {nm : Nms} {z : Expr} : chkE S (PD.E.fld a c f) nm z = (match z with
    | .Attribute x n _ => decide (n = f) && hasX S (.noat c f) && notCall0 x && chkE S a nm x
    | _ => false) := rfl
theorem chkE_meth {a : _} {c : _} {m : _} {j : _} {es : _} {nm : Nms} {z : Expr} : chkE S (PD.E.meth a c m j es) nm z = (match z with
    | .Call (.Attribute o n apos) as [] cpos => decide (n = m) && isMs S j c m && chkE S a nm o && chkEs S es nm as && (apos.endLine == cpos.line) && notCall0 o && decide (as.length < 30)
    | _ => false) := rfl
theorem chkE_make {c : _} {j : _} {es : _} {nm : Nms} {z : Expr} : chkE S (PD.E.make c j es) nm z = (match z with
    | .Call (.Name x _) as [] _ => decide (x = c) && isGlo nm x && okN x && isMs S j c "__init__" && chkEs S es nm as && !isNil es
    | _ => false) := rfl
theorem chkS_rse {c : _} {nm : Nms} {z : Stmt} : chkS S (PD.S.rse c) nm z = (match z with
    | .Raise (some (.Call (.Name x _) [.Constant (.str _) _ _] [] _)) none _ => decide (c = x) && isGlo nm x && okN x && hasX S (.rse c)
    | _ => false) := rfl
theorem chkS_tryo {rs : _} {c : _} {b : _} {i : _} {d : _} {nm : Nms} {z : Stmt} : chkS S (PD.S.tryo rs c b i d) nm z = (match z with
    | .Try body [.ExceptHandler (some (.Name x _)) none [.Assign [.Name y _] (.Constant k _ _) _] _] [] [] _ => decide (c = x) && isGlo nm x && okN x && decide (S.N[i]? = some y) && isLoc nm y && chkC d k && (!rs.isEmpty && rs.all fun r => hasX S (.exm r c)) && chkSs S b nm body
    | _ => false) := rfl
theorem chkS_tryn {rs : _} {c : _} {b : _} {j : _} {i : _} {nm : Nms} {z : Stmt} : chkS S (PD.S.tryn rs c b j i) nm z = (match z with
    | .Try body [.ExceptHandler (some (.Name x _)) (some n) [.Assign [.Name y _] (.Name n2 _) _] _] [] [] _ => decide (c = x) && isGlo nm x && okN x && decide (S.N[i]? = some y) && isLoc nm y && decide (n = n2) && decide (S.N[j]? = some n) && isLoc nm n && okN n && decide (i ≠ j) && (!rs.isEmpty && rs.all fun r => hasX S (.exm r c)) && chkSs S b nm body
    | _ => false) := rfl
end
end PD

/-! PD: what is checked is sound -/
namespace PD
open PySem PySem.Spec PyProof.Rows L2
variable [Tb]

/-- the maker of a lambda -/
structure LamM (S : Sta) (P : Program) (w : World) (K : PySem.W.Frag) (mg : Str → Option Value) (B : Heap) (A : Around) (env : Env) (G : Nat → SpD) : Prop where
  ex : ∃ k c Pt, Room (k + 2) A ∧ LamX.TabB B mg c Pt ∧ env.code = .ref c ∧ (Pt, env.qual ++ "<lambda>") ∈ tabsOf K ∧ (∀ p ∈ tabsOf K, p.1 = Pt → p.2 = env.qual ++ "<lambda>") ∧
    (∀ (i : Nat) x, S.fns[i]? = some x → S.ms.lookup x = some (lamW, takeW) → ∃ k', k' ≤ k ∧ LamG P w K mg B k' x (G i)) ∧
    (∀ (i : Nat) x, S.fns[i]? = some x → S.ms.lookup x = none → ∃ j f fd ps, j ≤ k ∧ FnG P w K mg B (L2.CX P w) j f fd ps (liftSp K (G i)) ∧ mg x = some (.ref f) ∧ PySem.W.keepIn K (.ref f) = true ∧ Binds K fd ps []) ∧
    (∀ (i : Nat) x c m, S.fns[i]? = some x → S.ms.lookup x = some (c, m) → c ≠ lamW → ∃ j f fd ps Cc, j + 1 ≤ k ∧ FnG P w K mg B (L2.CX P w) j f fd ps (liftSp K (G i)) ∧ ClsAt K c Cc ∧ Cls K Cc ∧ Meth K Cc m f ∧ (m = "__init__" → Mk K Cc f) ∧ Binds K fd ps [])
structure Ok (S : Sta) (G : Nat → SpD) (C : Nat → D) (nm : Nms) (W : WX) (X : Cx) : Prop where
  N : X.N = S.N
  nd : S.N.Nodup
  loc : ∀ x, nm.lookup x = some .local → X.env.scope.names.lookup x = some .local
  cel : ∀ x, nm.lookup x = some .cell → X.env.scope.names.lookup x = some .cell ∧ X.fn x = true
  fre : ∀ x, nm.lookup x = some .free → X.env.scope.names.lookup x = some .free ∨ X.env.scope.names.lookup x = some .cell
  glo : ∀ x, nm.lookup x = some .globalImplicit → Gl X x
  kind : X.env.scope.kind = .function
  calm : X.calm = true
  gd : X.A.guards = some []
  sy : ∃ mm, X.base.Ns sysModules mm
  hu : X.A.units + 65 < cLine
  tk : Takes X W
  po : PassesOwn (model X.prog X.w) X.A X.env X.xe
  blt : ∀ x, hasB S x = true → X.mg x = none
  cns : ∀ (i : Nat) x, S.cns[i]? = some x → ∃ u v, X.mg x = some u ∧ RelV v u ∧ ∀ F, RelD X.K F (C i) v
  fns : ∀ (i : Nat) x, S.fns[i]? = some x → S.ms.lookup x = none → ∃ k f fd ps, FnG X.prog X.w X.K X.mg X.base (L2.CX X.prog X.w) k f fd ps (liftSp X.K (G i)) ∧ Room k X.A ∧ X.mg x = some (.ref f) ∧ PySem.W.keepIn X.K (.ref f) = true ∧ Binds X.K fd ps []
  ms : ∀ (i : Nat) x c m, S.fns[i]? = some x → S.ms.lookup x = some (c, m) → c ≠ lamW → ∃ k f fd ps Cc, FnG X.prog X.w X.K X.mg X.base (L2.CX X.prog X.w) k f fd ps (liftSp X.K (G i)) ∧ Room (k + 1) X.A ∧ ClsAt X.K c Cc ∧ Cls X.K Cc ∧ Meth X.K Cc m f ∧ (m = "__init__" → Mk X.K Cc f) ∧ Binds X.K fd ps []
  mgk : MgOk X.K X.mg
  xf : ∀ f, hasX S f = true → XFact X.K f
  lm : nm = S.nm → ∀ (i : Nat) x, S.fns[i]? = some x → S.ms.lookup x = some (lamW, takeW) → LamM S X.prog X.w X.K X.mg X.base X.A X.env G
  th : nm = S.nm → ∀ x i j, S.thk = some (x, i, j) → ∀ (W' : WX) (pn : List (Addr × Obj)) (xe : Value → Shared → Prop) (p1 p2 : Pos), Takes (X.tr pn xe) W' → PE (X.tr pn xe) (.Call (.Name x p1) [] [] p2) (LE G C X.K W' (.thk i j))

section
variable {S : Sta} {G : Nat → SpD} {C : Nat → D} {nm : Nms} {W : WX} {X : Cx}
theorem lookup_relS_free {sc : Scope} : ∀ {names : Nms} {x : Str}, names.lookup x = some .free →
    (names.map fun (n, k) => if (k == NameKind.free && sc.kind == .function && sc.names.lookup n == some .cell) then (n, NameKind.cell) else (n, k)).lookup x = some .free ∨
    (names.map fun (n, k) => if (k == NameKind.free && sc.kind == .function && sc.names.lookup n == some .cell) then (n, NameKind.cell) else (n, k)).lookup x = some .cell
  | [], _, h => by simp at h
  | (n, k0) :: r, x, h => by
    have ih := @lookup_relS_free sc r x
    rw [List.map_cons]
    cases hx : x == n with
    | true =>
      simp only [List.lookup_cons, hx] at h
      cases h
      dsimp only
      split
      · right; simp [List.lookup_cons, hx]
      · left; simp [List.lookup_cons, hx]
    | false =>
      simp only [List.lookup_cons, hx] at h
      dsimp only
      split
      · simp only [List.lookup_cons, hx]; exact ih h
      · simp only [List.lookup_cons, hx]; exact ih h
theorem blk_names (scope : Scope) (cl : List (Str × Addr)) (D : Addr) (env : Env) : (compEnvC scope cl D env).scope = relS scope env.scope := rfl
theorem Ok.vis (o : Ok S G C nm W X) {x : Str} (h : isVar nm x = true) : Vis X.env.scope x := by
  unfold isVar at h
  split at h
  · exact .inl (o.loc x (by assumption))
  · exact .inr (.inl (o.cel x (by assumption)).1)
  · rcases o.fre x (by assumption) with e | e
    · exact .inr (.inr e)
    · exact .inr (.inl e)
  · cases h
theorem Ok.gl (o : Ok S G C nm W X) {x : Str} (h : isGlo nm x = true) : Gl X x := by
  unfold isGlo at h
  split at h
  · exact o.glo x (by assumption)
  · cases h
theorem Ok.tgt (o : Ok S G C nm W X) {x : Str} (h : isTgt nm x = true) : Loc X.env.scope x ∧ (X.fn x = true ∨ X.env.scope.names.lookup x = some .local) := by
  unfold isTgt at h
  split at h
  · exact ⟨.inl (o.loc x (by assumption)), .inr (o.loc x (by assumption))⟩
  · exact ⟨.inr (o.cel x (by assumption)).1, .inl (o.cel x (by assumption)).2⟩
  · cases h
theorem Ok.b (o : Ok S G C nm W X) {x b : Str} (h : isB S nm x b = true) : x = b ∧ Gl X b ∧ X.mg b = none := by
  unfold isB at h
  rw [Bool.and_eq_true, Bool.and_eq_true, decide_eq_true_eq] at h
  obtain ⟨⟨rfl, h2⟩, h3⟩ := h
  exact ⟨rfl, o.gl h2, o.blt _ h3⟩
theorem Ok.isMs (o : Ok S G C nm W X) {j : Nat} {c m : Str} (h : PD.isMs S j c m = true) : ∃ k f fd ps Cc, FnG X.prog X.w X.K X.mg X.base (L2.CX X.prog X.w) k f fd ps (liftSp X.K (G j)) ∧ Room (k + 1) X.A ∧ ClsAt X.K c Cc ∧ Cls X.K Cc ∧ Meth X.K Cc m f ∧ (m = "__init__" → Mk X.K Cc f) ∧ Binds X.K fd ps [] := by
  unfold PD.isMs at h
  split at h
  · rw [Bool.and_eq_true] at h
    exact o.ms j _ c m (by assumption) (of_decide_eq_true h.1) (of_decide_eq_true h.2)
  · cases h
theorem okN_of {x : Str} (h : okN x = true) : (x == ("__debug__" : Str)) = false ∧ (x == ("__classdict__" : Str)) = false ∧ x ≠ ("__name__" : Str) := by
  unfold okN at h
  rw [Bool.and_eq_true, Bool.and_eq_true, decide_eq_true_eq, Bool.not_eq_true', Bool.not_eq_true'] at h
  exact ⟨h.1.1, h.1.2, h.2⟩
theorem Ok.blk (o : Ok S G C nm W X) (scope : Scope) (hk : scope.kind = .function) (hs : scope.names ≠ S.nm) (s : Shared) (H : Hp) (D : Addr) (cl : List (Str × Addr)) (fp : List Addr) : Ok S G C scope.names W0 (X.blk s H scope (compEnvC scope cl D X.env) fp) where
  N := o.N
  nd := o.nd
  loc := fun x h => lookup_relS_keep (by decide) h
  cel := fun x h => ⟨lookup_relS_keep (by decide) h, by show (scope.names.lookup x == some .cell) = true; rw [h]; rfl⟩
  fre := fun x h => lookup_relS_free h
  glo := fun x h => lookup_relS_keep (by decide) h
  kind := hk
  calm := o.calm
  gd := o.gd
  sy := o.sy
  hu := o.hu
  tk := fun _ _ ⟨_, _, _, _, _, _, _, _, _, _, _, _, _, _, _, _, z⟩ => z.elim
  po := PassesOwn.never
  blt := o.blt
  cns := o.cns
  fns := o.fns
  ms := o.ms
  mgk := o.mgk
  xf := o.xf
  lm := fun e => absurd e hs
  th := fun e => absurd e hs
theorem Ok.try_ (o : Ok S G C nm W X) {W' : WX} {pn : List (Addr × Obj)} {xe : Value → Shared → Prop} (tk : Takes (X.tr pn xe) W') (po : PassesOwn (model X.prog X.w) X.A X.env xe) : Ok S G C nm W' (X.tr pn xe) where
  N := o.N
  nd := o.nd
  loc := o.loc
  cel := o.cel
  fre := o.fre
  glo := o.glo
  kind := o.kind
  calm := o.calm
  gd := o.gd
  sy := o.sy
  hu := o.hu
  tk := tk
  po := po
  blt := o.blt
  cns := o.cns
  fns := o.fns
  ms := o.ms
  mgk := o.mgk
  xf := o.xf
  lm := o.lm
  th := o.th
theorem Ok.lam (o : Ok S G C nm W X) {k : Nat} {scope : Scope} (L : LamX.LamS X.env.scope scope) (hs : scope.names ≠ S.nm) {A : Around} {O : List Env} {t : Shared} {G' : Hp} {E : XK} {f c' : Addr} (gA : A.guards = some []) (rA : Room k (A.deeper (LamX.lamEnv X scope t.heap.objs.size f c')))
    (fns : ∀ (i : Nat) x, S.fns[i]? = some x → S.ms.lookup x = none → ∃ j f fd ps, j ≤ k ∧ FnG X.prog X.w X.K X.mg X.base (L2.CX X.prog X.w) j f fd ps (liftSp X.K (G i)) ∧ X.mg x = some (.ref f) ∧ PySem.W.keepIn X.K (.ref f) = true ∧ Binds X.K fd ps [])
    (ms : ∀ (i : Nat) x c m, S.fns[i]? = some x → S.ms.lookup x = some (c, m) → c ≠ lamW → ∃ j f fd ps Cc, j + 1 ≤ k ∧ FnG X.prog X.w X.K X.mg X.base (L2.CX X.prog X.w) j f fd ps (liftSp X.K (G i)) ∧ ClsAt X.K c Cc ∧ Cls X.K Cc ∧ Meth X.K Cc m f ∧ (m = "__init__" → Mk X.K Cc f) ∧ Binds X.K fd ps []) :
    Ok S G C scope.names (fun c d _ H => E c d H) (LamX.lamCx X A O t G' E scope f c') where
  N := o.N
  nd := o.nd
  loc := fun x h => h
  cel := fun x h => absurd rfl (L.own _ (PySem.mem_of_lookup h)).2
  fre := fun x h => .inl h
  glo := fun x h => h
  kind := L.kind
  calm := rfl
  gd := gA
  sy := o.sy
  hu := Nat.lt_of_le_of_lt (Nat.le_trans (Nat.add_le_add_left (by decide : 65 ≤ 200) _) (Nat.add_le_add_right (Nat.le_add_right _ _) _)) rA.un
  tk := takes_of rfl rfl rfl rfl
  po := passes_of rfl
  blt := o.blt
  cns := o.cns
  fns := fun i x h1 h2 => by
    obtain ⟨j, f, fd, ps, a, b, c, d, e⟩ := fns i x h1 h2
    exact ⟨j, f, fd, ps, b, rA.mono a, c, d, e⟩
  ms := fun i x c m h1 h2 h3 => by
    obtain ⟨j, f, fd, ps, Cc, a, b, r⟩ := ms i x c m h1 h2 h3
    exact ⟨j, f, fd, ps, Cc, b, rA.mono a, r⟩
  mgk := o.mgk
  xf := o.xf
  lm := fun e => absurd e hs
  th := fun e => absurd e hs
theorem names_v {rs : List Str} {r0 : Str} (hr : r0 ∈ rs) : ∀ {cs : List Str} {es : List Expr}, chkCs S nm rs cs es = true → Ok S G C nm W X → ∃ vs us, NamesV X cs es vs us
  | [], [], _, _ => ⟨[], [], .nil⟩
  | c :: cs, .Name t p :: es, h, o => by
    unfold chkCs at h
    rw [Bool.and_eq_true, Bool.and_eq_true, Bool.and_eq_true, Bool.and_eq_true] at h
    obtain ⟨⟨⟨⟨h1, h2⟩, h3⟩, h4⟩, h5⟩ := h
    cases of_decide_eq_true h1
    obtain ⟨d1, d2, d3⟩ := okN_of h3
    obtain ⟨vs, us, t⟩ := names_v hr h5 o
    rw [List.all_eq_true] at h4
    obtain ⟨A, u, _, hv, _⟩ := o.xf _ (h4 r0 hr)
    have hv' := hv
    rcases hv' with ⟨B, k1, rfl⟩ | ⟨k1, n, rfl, k2, k3⟩
    · exact ⟨_, _, .cons (pe_glob (v := .ref B) (o.gl h2) (o.mgk.1 _ _ k1) rfl d1) (.own B) hv t⟩
    · exact ⟨_, _, .cons (pe_bltn (v := .ty n) (o.gl h2) (o.mgk.2 _ k1) k2 rfl d3 d1) (.ty n) hv t⟩
  | [], _ :: _, h, _ => by simp [chkCs] at h
  | _ :: _, [], h, _ => by simp [chkCs] at h
theorem blkS_ne {scope : Scope} {own : List (Str × Nat)} (h : blkS S.N S.nm nm scope own = true) : scope.names ≠ S.nm := by
  unfold blkS at h
  simp only [Bool.and_eq_true, Bool.not_eq_true', decide_eq_false_iff_not] at h
  exact h.1.1.1.1
theorem blkS_ok (o : Ok S G C nm W X) {scope : Scope} {own : List (Str × Nat)} (h : blkS S.N S.nm nm scope own = true) : BlkOk X.N X.env.scope scope own := by
  unfold blkS at h
  simp only [Bool.and_eq_true, List.all_eq_true, decide_eq_true_eq] at h
  obtain ⟨⟨⟨⟨_, h1⟩, h2⟩, h3⟩, h4⟩ := h
  refine ⟨?_, h2, fun p hp => by rw [o.N]; exact h3 p hp, fun y hy e => ?_, fun y hy e => ?_⟩
  · split at h1
    · assumption
    · cases h1
  · have q := h4 y hy
    simp only [e] at q
    split at q
    · exact .inl (o.cel _ (by assumption)).1
    · exact (o.fre _ (by assumption)).symm
    · cases q
  · have q := h4 y hy
    have key : ((own.any fun p => decide (p.1 = y.1)) || !(S.N.any fun p => decide (p = y.1))) = true := by
      rcases e with e | e <;> (simp only [e] at q; exact q)
    rw [Bool.or_eq_true] at key
    rcases key with k | k
    · rw [List.any_eq_true] at k
      obtain ⟨p, hp, e2⟩ := k
      exact .inl (List.mem_map.mpr ⟨p, hp, of_decide_eq_true e2⟩)
    · right
      rw [o.N]
      intro hm
      rw [Bool.not_eq_true', ← Bool.not_eq_true, List.any_eq_true] at k
      exact k ⟨y.1, hm, by simp⟩
/-- a lambda's body -/
theorem lamN_ok (o : Ok S G C nm W X) {scope : Scope} (h : lamN nm scope = true) : LamX.LamS X.env.scope scope := by
  unfold lamN at h
  simp only [Bool.and_eq_true, Bool.or_eq_true, Bool.not_eq_true', decide_eq_true_eq, decide_eq_false_iff_not, List.all_eq_true] at h
  obtain ⟨⟨⟨h1, h2⟩, h3⟩, h4⟩ := h
  refine ⟨?_, h2, h3, fun y hy => (h4 y hy).1, fun y hy e => ?_⟩
  · split at h1
    · assumption
    · cases h1
  · rcases (h4 y hy).2 with (z | z) | z
    · exact absurd e z
    · exact .inl (o.cel _ z).1
    · exact (o.fre _ z).symm
theorem names_ok (o : Ok S G C nm W X) : ∀ {is : List Nat} {es : List Expr}, chkTs S nm is es = true → NamesOk X is es
  | [], [], _ => .nil
  | i :: is, .Name x p :: es, h => by
    unfold chkTs at h
    rw [Bool.and_eq_true, Bool.and_eq_true, decide_eq_true_eq] at h
    obtain ⟨⟨h1, h2⟩, h3⟩ := h
    obtain ⟨t1, t2⟩ := o.tgt h2
    exact .cons ⟨x, p, rfl, by rw [o.N]; exact h1, t1, t2⟩ (names_ok o h3)
theorem tgt_ok (o : Ok S G C nm W X) {t : Tgt} {e : Expr} (h : chkT S nm t e = true) : PG X e (LG X.K t) ∧ noStar e = true ∧ (isTup e = false → nameTgt e = true) := by
  have hN : X.N.Nodup := by rw [o.N]; exact o.nd
  unfold chkT at h
  split at h
  · rename_i i x p
    rw [Bool.and_eq_true, decide_eq_true_eq] at h
    obtain ⟨t1, t2⟩ := o.tgt h.2
    exact ⟨g_nm hN ⟨x, p, rfl, by rw [o.N]; exact h.1, t1, t2⟩, rfl, fun _ => rfl⟩
  · exact ⟨g_tp o.calm hN (names_ok o h), rfl, fun z => by cases z⟩
  · cases h
theorem ownTs_slots : ∀ {is : List Nat} {es : List Expr}, chkTs S nm is es = true → (ownTs is es).map (·.2) = is
  | [], [], _ => rfl
  | i :: is, .Name x p :: es, h => by
    unfold chkTs at h
    rw [Bool.and_eq_true] at h
    show i :: (ownTs is es).map (·.2) = _
    rw [ownTs_slots h.2]
theorem ownT_slots {t : Tgt} {e : Expr} (h : chkT S nm t e = true) : (ownT t e).map (·.2) = tslots t := by
  unfold chkT at h
  split at h
  · rfl
  · exact ownTs_slots h
  · cases h
theorem plain_true {x : Expr} {env : Env} (h : plainT x = true) : ∀ whole, isTrue x env whole = (do let v ← whole; standAt x.pos; holding [v] (truthy v)) := by
  intro whole
  cases x with
  | UnaryOp op a p => cases op <;> first | rfl | (cases h)
  | BoolOp op vs p => cases h
  | IfExp a b c p => cases h
  | Compare a ops cs p => cases h
  | _ => rfl
theorem const_ok {d : D} {c : Const} {k : Nat} {pos : Pos} (h : chkC d c = true) : ∃ v, PE X (.Constant c k pos) (tC v) ∧ ∀ F, RelD X.K F d v := by
  unfold chkC at h
  split at h
  · cases of_decide_eq_true h
    exact ⟨_, pe_int, fun _ => rfl⟩
  · cases of_decide_eq_true h
    exact ⟨_, pe_str, fun _ => rfl⟩
  · cases of_decide_eq_true h
    exact ⟨_, pe_bl, fun _ => rfl⟩
  · exact ⟨_, pe_non, fun _ => rfl⟩
  · cases h
theorem set_ok {x : Expr} {env : Env} (h : noSet x = true) : ∀ v, foldedSetIterable x env v = pure v := by
  intro v
  cases x <;> first | rfl | (cases h)
theorem slice_ok {x : Expr} (h : noSlice x = true) : PlainIx x := by
  intro o i
  cases x <;> first | rfl | (cases h)
theorem nodupK_ok : ∀ {ks : List Key}, nodupK ks = true → ks.Nodup
  | [], _ => List.nodup_nil
  | k :: ks, h => by
    unfold nodupK at h
    rw [Bool.and_eq_true, Bool.not_eq_true', ← Bool.not_eq_true, List.any_eq_true] at h
    exact List.nodup_cons.mpr ⟨fun hm => h.1 ⟨k, hm, by simp⟩, nodupK_ok h.2⟩
theorem keys_ok : ∀ {ks : List Key} {keys : List (Option Expr)}, chkKs ks keys = true → keys.length = ks.length ∧ ∀ (i : Nat) k, ks[i]? = some k → ∃ e, keys[i]? = some (some e) ∧ PE X e (tC (kV k))
  | [], [], _ => ⟨rfl, fun i k e => by simp at e⟩
  | .inl i :: ks, some (.Constant (.int j) n p) :: es, h => by
    unfold chkKs at h
    rw [Bool.and_eq_true, decide_eq_true_eq] at h
    obtain ⟨rfl, h⟩ := h
    obtain ⟨h1, h2⟩ := keys_ok h
    refine ⟨by simp [h1], fun m k e => ?_⟩
    cases m with
    | zero => cases e; exact ⟨_, rfl, pe_int⟩
    | succ m => exact h2 m k (by simpa using e)
  | .inr i :: ks, some (.Constant (.str j) n p) :: es, h => by
    unfold chkKs at h
    rw [Bool.and_eq_true, decide_eq_true_eq] at h
    obtain ⟨rfl, h⟩ := h
    obtain ⟨h1, h2⟩ := keys_ok h
    refine ⟨by simp [h1], fun m k e => ?_⟩
    cases m with
    | zero => cases e; exact ⟨_, rfl, pe_str⟩
    | succ m => exact h2 m k (by simpa using e)
/-- parts of arguments, as they are checked -/
inductive EsOk (G : Nat → SpD) (C : Nat → D) (W : WX) (X : Cx) : Es → List Expr → Prop
  | nil : EsOk G C W X .nil []
  | cons {e : E} {r : Es} {x : Expr} {xs : List Expr} : noStar x = true → PE X x (LE G C X.K W e) → (tst e = true → PT X x (LB G C X.K W e)) → EsOk G C W X r xs → EsOk G C W X (.cons e r) (x :: xs)
theorem EsOk.pa : ∀ {es : Es} {xs : List Expr}, EsOk G C W X es xs → PA X xs (LEs G C X.K W es)
  | _, _, .nil => a_nil
  | _, _, .cons hs h _ t => a_cons h t.pa (star_cons hs)
theorem EsOk.star : ∀ {es : Es} {xs : List Expr}, EsOk G C W X es xs → xs.all noStar = true
  | _, _, .nil => rfl
  | _, _, .cons hs h _ t => by
    rw [List.all_cons, Bool.and_eq_true]
    exact ⟨hs, t.star⟩
theorem EsOk.pairs : ∀ {es : Es} {xs : List Expr}, EsOk G C W X es xs → ∀ {ks : List Key} {keys : List (Option Expr)}, chkKs ks keys = true → ks.length = xs.length → PairsOk G C W X ks es keys xs
  | _, _, .nil, ks, keys, hk, hl => by
    have e : ks = [] := List.length_eq_zero_iff.mp hl
    subst e
    have := (keys_ok (X := X) hk).1
    have e : keys = [] := List.length_eq_zero_iff.mp this
    subst e
    exact .nil
  | _, _, .cons hs h _ t, [], keys, hk, hl => by simp at hl
  | _, _, .cons hs h _ t, k :: ks, keys, hk, hl => by
    obtain ⟨h1, h2⟩ := keys_ok (X := X) hk
    obtain ⟨e, he, pe⟩ := h2 0 k rfl
    cases keys with
    | nil => simp at he
    | cons k0 keys =>
      have e0 : k0 = some e := by simpa using he
      subst e0
      refine .cons pe h (t.pairs ?_ (by simpa using hl))
      cases k with
      | inl i =>
        unfold chkKs at hk
        split at hk
        · simp at *
        · rename_i e1 e2
          cases e1; cases e2
          rw [Bool.and_eq_true] at hk
          exact hk.2
        · rename_i e1 e2
          cases e1
        · cases hk
      | inr i =>
        unfold chkKs at hk
        split at hk
        · simp at *
        · rename_i e1 e2
          cases e1
        · rename_i e1 e2
          cases e1; cases e2
          rw [Bool.and_eq_true] at hk
          exact hk.2
        · cases hk
theorem EsOk.band {pos : Pos} : ∀ {es : Es} {xs : List Expr}, EsOk G C W X es xs → isNil es = false → PE X (.BoolOp .And xs pos) (LBe G C X.K W true es)
  | _, _, .nil, h => by cases h
  | _, _, .cons hs h _ .nil, _ => b_one .And h
  | _, _, .cons hs h _ (.cons hs2 h2 q2 t), _ => b_and h (EsOk.band (.cons hs2 h2 q2 t) rfl)
theorem EsOk.bor {pos : Pos} : ∀ {es : Es} {xs : List Expr}, EsOk G C W X es xs → isNil es = false → PE X (.BoolOp .Or xs pos) (LBe G C X.K W false es)
  | _, _, .nil, h => by cases h
  | _, _, .cons hs h _ .nil, _ => b_one .Or h
  | _, _, .cons hs h _ (.cons hs2 h2 q2 t), _ => b_or h (EsOk.bor (.cons hs2 h2 q2 t) rfl)
theorem EsOk.wand {pos : Pos} : ∀ {es : Es} {xs : List Expr}, EsOk G C W X es xs → isNil es = false → tsts es = true → PW X (.BoolOp .And xs pos) (LBs G C X.K W true es)
  | _, _, .nil, h, _ => by cases h
  | _, _, .cons hs h q .nil, _, ht => w_one_and (q (by unfold tsts at ht; rw [Bool.and_eq_true] at ht; exact ht.1))
  | _, _, .cons hs h q (.cons hs2 h2 q2 t), _, ht => by
    unfold tsts at ht
    rw [Bool.and_eq_true] at ht
    exact w_and (q ht.1) (EsOk.wand (.cons hs2 h2 q2 t) rfl ht.2)
theorem EsOk.wor {pos : Pos} : ∀ {es : Es} {xs : List Expr}, EsOk G C W X es xs → isNil es = false → tsts es = true → PW X (.BoolOp .Or xs pos) (LBs G C X.K W false es)
  | _, _, .nil, h, _ => by cases h
  | _, _, .cons hs h q .nil, _, ht => w_one_or (q (by unfold tsts at ht; rw [Bool.and_eq_true] at ht; exact ht.1))
  | _, _, .cons hs h q (.cons hs2 h2 q2 t), _, ht => by
    unfold tsts at ht
    rw [Bool.and_eq_true] at ht
    exact w_or (q ht.1) (EsOk.wor (.cons hs2 h2 q2 t) rfl ht.2)
end
end PD

set_option maxHeartbeats 4000000
/-! PD: soundness of expressions -/
namespace PD
open PySem PySem.Spec PyProof.Rows L2
variable [Tb]
section
variable {S : Sta} {G : Nat → SpD} {C : Nat → D}
theorem and3 {a b : Bool} (h : (a && b) = true) : a = true ∧ b = true := by rwa [Bool.and_eq_true] at h
/-- a value as a test, where the form is plain -/
theorem both {X : Cx} {W : WX} {x : Expr} {a : E} (h : PE X x (LE G C X.K W a)) (hp : plainT x = true) : PE X x (LE G C X.K W a) ∧ (tst a = true → PT X x (LB G C X.K W a)) := ⟨h, fun _ => t_val h (plain_true hp)⟩
theorem rs_ok {nm : Nms} {W : WX} {X : Cx} {rs : List Str} (o : Ok S G C nm W X) (h : rsOk S rs = true) : ∃ r0, r0 ∈ rs ∧ ∀ r ∈ rs, XFact X.K (.exc r) := by
  unfold rsOk at h
  rw [Bool.and_eq_true, List.all_eq_true] at h
  cases rs with
  | nil => cases h.1
  | cons r0 rs => exact ⟨r0, List.mem_cons_self, fun r hr => o.xf _ (h.2 r hr)⟩
theorem cs_kit {nm : Nms} {W : WX} {X : Cx} {rs : List Str} {r : Str} (o : Ok S G C nm W X) : ∀ {cs : List Str} {es : List Expr} {c : Str}, chkCs S nm rs cs es = true → r ∈ rs → c ∈ cs → XFact X.K (.kit r c)
  | [], _, _, _, _, hc => by cases hc
  | c0 :: cs, [], _, h, _, _ => by simp [chkCs] at h
  | c0 :: cs, e :: es, c, h, hr, hc => by
    cases e with
    | Name t p =>
      unfold chkCs at h
      rw [Bool.and_eq_true, Bool.and_eq_true, Bool.and_eq_true, Bool.and_eq_true] at h
      obtain ⟨⟨⟨⟨h1, h2⟩, h3⟩, h4⟩, h5⟩ := h
      rcases List.mem_cons.mp hc with rfl | hc
      · rw [List.all_eq_true] at h4
        exact o.xf _ (h4 r hr)
      · exact cs_kit o h5 hr hc
    | _ => simp [chkCs] at h
mutual
theorem sndE : ∀ (e : E) {nm : Nms} {W : WX} {X : Cx} {x : Expr}, chkE S e nm x = true → Ok S G C nm W X → PE X x (LE G C X.K W e) ∧ (tst e = true → PT X x (LB G C X.K W e))
  | .v i, nm, W, X, x, h, o => by
    rw [chkE_v] at h
    split at h
    · obtain ⟨h, h3⟩ := and3 h
      obtain ⟨h1, h2⟩ := and3 h
      obtain ⟨d1, d2, _⟩ := okN_of h3
      exact both (n_v (by rw [o.N]; exact of_decide_eq_true h1) (o.vis h2) d1 d2) rfl
    · cases h
  | .k d, nm, W, X, x, h, o => by
    rw [chkE_k] at h
    split at h
    · obtain ⟨v, p, r⟩ := const_ok h
      exact both (n_k p r) rfl
    · cases h
  | .g n, nm, W, X, x, h, o => by
    rw [chkE_g] at h
    split at h
    · obtain ⟨h, h3⟩ := and3 h
      obtain ⟨h1, h2⟩ := and3 h
      obtain ⟨d1, d2, _⟩ := okN_of h3
      obtain ⟨u, v, m, r, rd⟩ := o.cns n _ (of_decide_eq_true h1)
      exact both (n_g (pe_glob (o.gl h2) m r d1) rd) rfl
    · cases h
  | .bin op a b, nm, W, X, x, h, o => by
    rw [chkE_bin] at h
    split at h
    · obtain ⟨h, h3⟩ := and3 h
      obtain ⟨h1, h2⟩ := and3 h
      cases of_decide_eq_true h1
      exact both (n_bin (sndE a h2 o).1 (sndE b h3 o).1) rfl
    · cases h
  | .neg a, nm, W, X, x, h, o => by
    rw [chkE_neg] at h
    split at h
    · exact both (n_neg (sndE a h o).1) rfl
    · cases h
  | .not a, nm, W, X, x, h, o => by
    rw [chkE_not] at h
    split at h
    · obtain ⟨p, q⟩ := sndE a h o
      exact ⟨n_not p, fun t => t_not (q (by simpa [tst] using t))⟩
    · cases h
  | .bop c es, nm, W, X, x, h, o => by
    rw [chkE_bop] at h
    split at h
    · rename_i op xs pos
      obtain ⟨h, h3⟩ := and3 h
      obtain ⟨h1, h2⟩ := and3 h
      have hc := of_decide_eq_true h1
      have hn : isNil es = false := by simpa using h3
      have eo := sndEs es h2 o
      cases op with
      | And =>
        have hc : c = true := hc
        subst hc
        exact ⟨n_bop (eo.band hn), fun t => t_bop (eo.wand hn (by simpa [tst] using t))⟩
      | Or =>
        have hc : c = false := hc
        subst hc
        exact ⟨n_bop (eo.bor hn), fun t => t_bop (eo.wor hn (by simpa [tst] using t))⟩
    · cases h
  | .cmp op a b, nm, W, X, x, h, o => by
    rw [chkE_cmp] at h
    split at h
    · obtain ⟨h, h4⟩ := and3 h
      obtain ⟨h, h3⟩ := and3 h
      obtain ⟨h1, h2⟩ := and3 h
      cases of_decide_eq_true h1
      have pa := (sndE a h2 o).1
      have pb := (sndE b h3 o).1
      have hm := (Bool.not_eq_true' _).mp h4
      exact ⟨n_cmp o.hu pa pb hm, fun _ => t_cmp o.hu pa pb hm⟩
    · cases h
  | .chain op p a b c, nm, W, X, x, h, o => by
    rw [chkE_chain] at h
    split at h
    · obtain ⟨h, h6⟩ := and3 h
      obtain ⟨h, h5⟩ := and3 h
      obtain ⟨h, h4⟩ := and3 h
      obtain ⟨h, h3⟩ := and3 h
      obtain ⟨h1, h2⟩ := and3 h
      cases of_decide_eq_true h1
      cases of_decide_eq_true h2
      have pa := (sndE a h3 o).1
      have pb := (sndE b h4 o).1
      have pc := (sndE c h5 o).1
      have hm := (Bool.not_eq_true' _).mp h6
      exact ⟨n_chain o.hu pa pb pc hm, fun _ => t_chain o.hu pa pb pc hm⟩
    · cases h
  | .ife c a b, nm, W, X, x, h, o => by
    rw [chkE_ife] at h
    split at h
    · obtain ⟨h, h4⟩ := and3 h
      obtain ⟨h, h3⟩ := and3 h
      obtain ⟨h1, h2⟩ := and3 h
      exact ⟨n_ife ((sndE c h2 o).2 h1) (sndE a h3 o).1 (sndE b h4 o).1, fun t => by cases t⟩
    · cases h
  | .tup es, nm, W, X, x, h, o => by
    rw [chkE_tup] at h
    split at h
    · exact both (n_tup (sndEs es h o).pa) rfl
    · cases h
  | .fr n, nm, W, X, x, h, o => by
    rw [chkE_fr] at h
    obtain ⟨h1, h2⟩ := and3 h
    exact both (n_fr (sndN n h2 o)) h1
  | .ce n, nm, W, X, x, h, o => by
    rw [chkE_ce] at h
    obtain ⟨h1, h2⟩ := and3 h
    exact both (n_ce (sndN n h2 o)) h1
  | .dfr ks es, nm, W, X, x, h, o => by
    rw [chkE_dfr] at h
    split at h
    · obtain ⟨h, h5⟩ := and3 h
      obtain ⟨h, h4⟩ := and3 h
      obtain ⟨h, h3⟩ := and3 h
      obtain ⟨h1, h2⟩ := and3 h
      have eo := sndEs es h2 o
      have ok := eo.pairs h1 (of_decide_eq_true h5)
      cases ks with
      | nil =>
        cases ok
        exact both n_dfr0 rfl
      | cons k ks => exact both (n_dfr ok (by simp) (nodupK_ok h3) (of_decide_eq_true h4)) rfl
    · cases h
  | .dce ks es, nm, W, X, x, h, o => by
    rw [chkE_dce] at h
    split at h
    · obtain ⟨h, h5⟩ := and3 h
      obtain ⟨h, h4⟩ := and3 h
      obtain ⟨h, h3⟩ := and3 h
      obtain ⟨h1, h2⟩ := and3 h
      have eo := sndEs es h2 o
      have ok := eo.pairs h1 (of_decide_eq_true h5)
      cases ks with
      | nil =>
        cases ok
        exact both n_dce0 rfl
      | cons k ks => exact both (n_dce ok (by simp) (nodupK_ok h3) (of_decide_eq_true h4)) rfl
    · cases h
  | .ix a b, nm, W, X, x, h, o => by
    rw [chkE_ix] at h
    split at h
    · obtain ⟨h, h3⟩ := and3 h
      obtain ⟨h1, h2⟩ := and3 h
      exact both (n_ix (Nat.lt_of_succ_lt o.hu) (sndE a h2 o).1 (sndE b h3 o).1 (slice_ok h1)) rfl
    · cases h
  | .sl a lo hi, nm, W, X, x, h, o => by
    rw [chkE_sl] at h
    split at h
    · obtain ⟨h, h3⟩ := and3 h
      obtain ⟨h1, h2⟩ := and3 h
      exact both (n_sl (sndE a h1 o).1 (sndO lo h2 o) (sndO hi h3 o)) rfl
    · cases h
  | .rvt a, nm, W, X, x, h, o => by
    rw [chkE_rvt] at h
    split at h
    · exact both (n_rvt (sndE a h o).1) rfl
    · cases h
  | .isi a ty, nm, W, X, x, h, o => by
    rw [chkE_isi] at h
    split at h
    · obtain ⟨h, h7⟩ := and3 h
      obtain ⟨h, h6⟩ := and3 h
      obtain ⟨h, h5⟩ := and3 h
      obtain ⟨h, h4⟩ := and3 h
      obtain ⟨h, h3⟩ := and3 h
      obtain ⟨h1, h2⟩ := and3 h
      obtain ⟨rfl, g1, m1⟩ := o.b h1
      obtain ⟨d1, d2, d3⟩ := okN_of h4
      exact both (n_isi (f := ⟨0, 0, 0, 0⟩) g1 m1 (o.gl h2) (o.blt _ h3) (of_decide_eq_true h5) d3 d1 (sndE a h7 o).1 h6) rfl
    · cases h
  | .call f es, nm, W, X, x, h, o => by
    rw [chkE_call] at h
    split at h
    · rename_i n p as q
      obtain ⟨h, h6⟩ := and3 h
      obtain ⟨h, h5⟩ := and3 h
      obtain ⟨h, h4⟩ := and3 h
      obtain ⟨h, h3⟩ := and3 h
      obtain ⟨h1, h2⟩ := and3 h
      obtain ⟨k, fa, fd, ps, FO, hr, hm, hk, hb⟩ := o.fns f _ (of_decide_eq_true h1) (of_decide_eq_true h6)
      obtain ⟨d1, _, _⟩ := okN_of h3
      have eo := sndEs es h4 o
      cases as with
      | nil => cases eo; exact both (n_call0 o.gd FO hr (o.gl h2) hm hk hb o.tk d1) rfl
      | cons a0 as => exact both (n_call o.gd FO hr (o.gl h2) hm hk hb o.tk d1 eo.pa eo.star) rfl
    · cases h
  | .bi b es, nm, W, X, x, h, o => by
    rw [chkE_bi] at h
    split at h
    · rename_i n p as q
      obtain ⟨h, h3⟩ := and3 h
      obtain ⟨h1, h2⟩ := and3 h
      obtain ⟨e, g1, m1⟩ := o.b h1
      have eo := sndEs es h2 o
      cases as with
      | nil => cases eo; cases h3
      | cons a0 as => exact both (n_bi (f := ⟨0, 0, 0, 0⟩) o.calm o.sy o.gd (Nat.lt_of_succ_lt o.hu) e (by rw [e]; exact g1) (by rw [e]; exact m1) eo.pa eo.star) rfl
    · cases h
  | .me m a es, nm, W, X, x, h, o => by
    rw [chkE_me] at h
    split at h
    · rename_i ob n apos as cpos
      obtain ⟨h, h6⟩ := and3 h
      obtain ⟨h, h5⟩ := and3 h
      obtain ⟨h, h4⟩ := and3 h
      obtain ⟨h, h3⟩ := and3 h
      obtain ⟨h1, h2⟩ := and3 h
      have en := of_decide_eq_true h1
      have eo := sndEs es h4 o
      have pa := (sndE a h3 o).1
      unfold meOk at h2
      split at h2
      · exact both (n_me en (.inl rfl) pa eo.pa eo.star (by simp) (by simp) h6 h5) rfl
      · exact both (n_me en (.inr (.inl rfl)) pa eo.pa eo.star (by simp) (by simp) h6 h5) rfl
      · exact both (n_me en (.inr (.inr (.inl rfl))) pa eo.pa eo.star (by simp) (by simp) h6 h5) rfl
      · exact both (n_me en (.inr (.inr (.inr rfl))) pa eo.pa eo.star (by simp) (by simp) h6 h5) rfl
      · cases eo; exact both (n_me0 en (.inl rfl) pa h6 h5) rfl
      · cases eo; exact both (n_me0 en (.inr (.inl rfl)) pa h6 h5) rfl
      · cases eo; exact both (n_me0 en (.inr (.inr rfl)) pa h6 h5) rfl
      · cases h2
    · cases h
  | .isc a rs cs, nm, W, X, x, h, o => by
    rw [chkE_isc] at h
    split at h
    · obtain ⟨h, h6⟩ := and3 h
      obtain ⟨h, h5⟩ := and3 h
      obtain ⟨h, h4⟩ := and3 h
      obtain ⟨h, h3⟩ := and3 h
      obtain ⟨h1, h2⟩ := and3 h
      obtain ⟨rfl, g1, m1⟩ := o.b h1
      obtain ⟨r0, hr0, hex⟩ := rs_ok o h3
      obtain ⟨vs, us, hn⟩ := names_v hr0 h4 o
      exact both (n_iscT g1 m1 hn (of_decide_eq_true h5) (fun r hr => ⟨fun c hc => cs_kit o h4 hr hc, hex r hr⟩) (sndE a h6 o).1 h2) rfl
    · obtain ⟨h, h5⟩ := and3 h
      obtain ⟨h, h4⟩ := and3 h
      obtain ⟨h, h3⟩ := and3 h
      obtain ⟨h1, h2⟩ := and3 h
      obtain ⟨rfl, g1, m1⟩ := o.b h1
      obtain ⟨r0, hr0, hex⟩ := rs_ok o h3
      obtain ⟨vs, us, hn⟩ := names_v hr0 h4 o
      cases hn with
      | cons q1 q2 q3 q4 =>
        cases q4
        exact both (n_isc1 g1 m1 q1 q2 q3 (fun r hr => ⟨cs_kit o h4 hr List.mem_cons_self, hex r hr⟩) (sndE a h5 o).1 h2) rfl
    · cases h
  | .fv f, nm, W, X, x, h, o => by
    rw [chkE_fv] at h
    split at h
    · obtain ⟨h, h4⟩ := and3 h
      obtain ⟨h, h3⟩ := and3 h
      obtain ⟨h1, h2⟩ := and3 h
      cases of_decide_eq_true h1
      obtain ⟨d1, _, _⟩ := okN_of h3
      obtain ⟨fa, hf⟩ := o.xf _ h4
      exact both (n_fv (o.gl h2) (o.mgk.1 _ _ hf) hf d1) rfl
    · cases h
  | .callv i cs es, nm, W, X, x, h, o => by
    rw [chkE_callv] at h
    split at h
    · rename_i n p as q
      obtain ⟨h, h6⟩ := and3 h
      obtain ⟨h, h5⟩ := and3 h
      obtain ⟨h, h4⟩ := and3 h
      obtain ⟨h, h3⟩ := and3 h
      obtain ⟨h1, h2⟩ := and3 h
      obtain ⟨d1, d2, _⟩ := okN_of h3
      have eo := sndEs es h4 o
      rw [List.all_eq_true] at h6
      cases as with
      | nil => cases eo; cases h5
      | cons a0 as => exact both (n_callv o.gd (fun q j e => o.fns j q (of_decide_eq_true (and3 (h6 (q, j) (PySem.mem_of_lookup e))).1) (of_decide_eq_true (and3 (h6 (q, j) (PySem.mem_of_lookup e))).2)) o.mgk (by rw [o.N]; exact of_decide_eq_true h1) (o.vis h2) o.tk d1 d2 eo.pa eo.star) rfl
    · cases h
  | .fld a c f, nm, W, X, x, h, o => by
    rw [chkE_fld] at h
    split at h
    · obtain ⟨h, h4⟩ := and3 h
      obtain ⟨h, h3⟩ := and3 h
      obtain ⟨h1, h2⟩ := and3 h
      cases of_decide_eq_true h1
      exact both (n_fld h3 (o.xf _ h2) (sndE a h4 o).1) rfl
    · cases h
  | .meth a c m j es, nm, W, X, x, h, o => by
    rw [chkE_meth] at h
    split at h
    · rename_i ob n apos as cpos
      obtain ⟨h, h8⟩ := and3 h
      obtain ⟨h, h6⟩ := and3 h
      obtain ⟨h, h5⟩ := and3 h
      obtain ⟨h, h4⟩ := and3 h
      obtain ⟨h, h3⟩ := and3 h
      obtain ⟨h1, h2⟩ := and3 h
      cases of_decide_eq_true h1
      obtain ⟨k, fa, fd, ps, Cc, FO, hr, hC, cl, hm, _, hb⟩ := o.isMs h2
      have eo := sndEs es h4 o
      cases as with
      | nil => cases eo; exact both (n_meth0 o.gd FO (hr.mono (Nat.le_succ _)) hC cl hm hb o.tk (sndE a h3 o).1 h6 h5) rfl
      | cons a0 as => exact both (n_meth o.gd FO (hr.mono (Nat.le_succ _)) hC cl hm hb o.tk (sndE a h3 o).1 eo.pa eo.star (of_decide_eq_true h8) h6 h5) rfl
    · cases h
  | .make c j es, nm, W, X, x, h, o => by
    rw [chkE_make] at h
    split at h
    · rename_i n p as q
      obtain ⟨h, h6⟩ := and3 h
      obtain ⟨h, h5⟩ := and3 h
      obtain ⟨h, h4⟩ := and3 h
      obtain ⟨h, h3⟩ := and3 h
      obtain ⟨h1, h2⟩ := and3 h
      cases of_decide_eq_true h1
      obtain ⟨k, fa, fd, ps, Cc, FO, hr, hC, cl, hm, mk, hb⟩ := o.isMs h4
      obtain ⟨d1, _, _⟩ := okN_of h3
      have eo := sndEs es h5 o
      cases as with
      | nil => cases eo; cases h6
      | cons a0 as => exact both (n_make o.gd FO hr hC (mk rfl) hb o.tk (o.gl h2) (o.mgk.1 _ _ hC) d1 eo.pa eo.star) rfl
    · cases h
  | .lam j b, nm, W, X, x, h, o => by
    rw [chkE_lam] at h
    split at h
    · rename_i n p params body scope lp q
      obtain ⟨h, h9⟩ := and3 h
      obtain ⟨h, h8⟩ := and3 h
      obtain ⟨h, h7⟩ := and3 h
      obtain ⟨h, h6⟩ := and3 h
      obtain ⟨h, h5⟩ := and3 h
      obtain ⟨h, h4⟩ := and3 h
      obtain ⟨h, h3⟩ := and3 h
      obtain ⟨h1, h2⟩ := and3 h
      obtain ⟨d1, _, _⟩ := okN_of h4
      obtain ⟨k, c, Pt, rm, TB, hc, hm, hu, lms, fns, ms⟩ := (o.lm (of_decide_eq_true h5) _ _ (of_decide_eq_true h1) (of_decide_eq_true h2)).ex
      obtain ⟨k', hk, LG⟩ := lms _ _ (of_decide_eq_true h1) (of_decide_eq_true h2)
      have L := lamN_ok o h7
      have hs : scope.names ≠ S.nm := by
        rw [Bool.not_eq_true', decide_eq_false_iff_not] at h8
        exact h8
      have ep : params = ⟨[], [], none, [], [], none, []⟩ := by
        unfold noPar at h6
        split at h6
        · rfl
        · cases h6
      subst ep
      exact both (n_lam o.gd LG hk rm (o.gl h3) d1 TB hc hm hu L rfl (fun _ _ _ _ _ => rfl) fun A O t G' E f c' gA rA => (sndE b h9 (o.lam L hs gA rA fns ms)).1) rfl
    · cases h
  | .idx a es, nm, W, X, x, h, o => by
    rw [chkE_idx] at h
    split at h
    · rename_i ob n apos e cpos
      obtain ⟨h, h5⟩ := and3 h
      obtain ⟨h, h4⟩ := and3 h
      obtain ⟨h, h3⟩ := and3 h
      obtain ⟨h1, h2⟩ := and3 h
      have eo := sndEs es h3 o
      exact both (n_idx (of_decide_eq_true h1) (sndE a h2 o).1 eo.pa eo.star (by simp) (by simp) h5 h4) rfl
    · cases h
  | .thk i j, nm, W, X, x, h, o => by
    rw [chkE_thk] at h
    split at h
    · obtain ⟨h1, h2⟩ := and3 h
      exact both (o.th (of_decide_eq_true h2) _ _ _ (of_decide_eq_true h1) W X.pn X.xe _ _ o.tk) rfl
    · cases h
theorem sndN : ∀ (n : N) {nm : Nms} {W : WX} {X : Cx} {x : Expr}, chkN S n nm x = true → Ok S G C nm W X → PE X x (LN G C X.K W n)
  | .lst es, nm, W, X, x, h, o => by
    rw [chkN_lst] at h
    split at h
    · exact N_lst (sndEs es h o).pa
    · cases h
  | .comp e t it c, nm, W, X, x, h, o => by
    rw [chkN_comp] at h
    split at h
    · rename_i elt tg iter ifs scope pos
      obtain ⟨h, h6⟩ := and3 h
      obtain ⟨h, h5⟩ := and3 h
      obtain ⟨h, h4⟩ := and3 h
      obtain ⟨h, h3⟩ := and3 h
      obtain ⟨h1, h2⟩ := and3 h
      have bo := blkS_ok o h6
      have hN : X.N.Nodup := by rw [o.N]; exact o.nd
      exact (N_comp o.calm hN (sndI it h1 o) bo (ownT_slots h3) (fun s H D cl fp => (tgt_ok (o.blk scope bo.kind (blkS_ne h6) s H D cl fp) h3).1) (fun s H D cl fp => sndF c h5 (o.blk scope bo.kind (blkS_ne h6) s H D cl fp)) (fun s H D cl fp => (sndE e h4 (o.blk scope bo.kind (blkS_ne h6) s H D cl fp)).1) (set_ok h2)).1
    · cases h
  | .cat a b, nm, W, X, x, h, o => by
    rw [chkN_cat] at h
    split at h
    · obtain ⟨h1, h2⟩ := and3 h
      exact N_cat (sndE a h1 o).1 (sndE b h2 o).1
    · cases h
  | .rep a b, nm, W, X, x, h, o => by
    rw [chkN_rep] at h
    split at h
    · obtain ⟨h1, h2⟩ := and3 h
      exact N_rep (sndE a h1 o).1 (sndE b h2 o).1
    · cases h
  | .sl a lo hi, nm, W, X, x, h, o => by
    rw [chkN_sl] at h
    split at h
    · obtain ⟨h, h3⟩ := and3 h
      obtain ⟨h1, h2⟩ := and3 h
      exact N_sl (sndE a h1 o).1 (sndO lo h2 o) (sndO hi h3 o)
    · cases h
  | .lof a, nm, W, X, x, h, o => by
    rw [chkN_lof] at h
    split at h
    · obtain ⟨h, h3⟩ := and3 h
      obtain ⟨h1, h2⟩ := and3 h
      obtain ⟨rfl, g1, m1⟩ := o.b h1
      exact N_lof (f := ⟨0, 0, 0, 0⟩) g1 m1 (sndE a h3 o).1 h2
    · cases h
  | .lrg es, nm, W, X, x, h, o => by
    rw [chkN_lrg] at h
    split at h
    · obtain ⟨h, h4⟩ := and3 h
      obtain ⟨h, h3⟩ := and3 h
      obtain ⟨h1, h2⟩ := and3 h
      obtain ⟨rfl, g1, m1⟩ := o.b h1
      obtain ⟨rfl, g2, m2⟩ := o.b h2
      have eo := sndEs es h3 o
      rw [Bool.or_eq_true, decide_eq_true_eq, decide_eq_true_eq] at h4
      cases eo with
      | nil => simp at h4
      | cons s1 p1 _ t =>
        cases t with
        | nil => exact N_lrg1 o.calm g1 m1 g2 m2 p1 s1
        | cons s2 p2 _ t =>
          cases t with
          | nil => exact N_lrg2 o.calm g1 m1 g2 m2 p1 p2 s1 s2
          | cons _ _ _ t => simp at h4
    · cases h
  | .rev a lo, nm, W, X, x, h, o => by
    rw [chkN_rev] at h
    split at h
    · obtain ⟨h1, h2⟩ := and3 h
      exact N_rev (sndE a h1 o).1 (sndO lo h2 o)
    · cases h
theorem sndI : ∀ (it : I) {nm : Nms} {W : WX} {X : Cx} {tg x : Expr}, chkI S it nm tg x = true → Ok S G C nm W X → PI X tg x (LI G C X.K W it)
  | .seq e, nm, W, X, tg, x, h, o => by
    rw [chkI_seq] at h
    exact i_seq (sndE e h o).1
  | .rng es, nm, W, X, tg, x, h, o => by
    rw [chkI_rng] at h
    split at h
    · rename_i f p as q
      obtain ⟨h, h3⟩ := and3 h
      obtain ⟨h1, h2⟩ := and3 h
      obtain ⟨rfl, g1, m1⟩ := o.b h1
      have eo := sndEs es h2 o
      rw [Bool.or_eq_true, decide_eq_true_eq, decide_eq_true_eq] at h3
      cases eo with
      | nil => simp at h3
      | cons s1 p1 _ t =>
        cases t with
        | nil => exact i_rng1 g1 m1 p1 s1
        | cons s2 p2 _ t =>
          cases t with
          | nil => exact i_rng2 g1 m1 p1 p2 s1 s2
          | cons _ _ _ t => simp at h3
    · cases h
  | .rdn a b, nm, W, X, tg, x, h, o => by
    rw [chkI_rdn] at h
    split at h
    · obtain ⟨h, h5⟩ := and3 h
      obtain ⟨h, h4⟩ := and3 h
      obtain ⟨h, h3⟩ := and3 h
      obtain ⟨h1, h2⟩ := and3 h
      obtain ⟨rfl, g1, m1⟩ := o.b h1
      exact i_rdn g1 m1 (sndE a h4 o).1 (sndE b h5 o).1 h2 h3
    · cases h
  | .enum e, nm, W, X, tg, x, h, o => by
    rw [chkI_enum] at h
    split at h
    · obtain ⟨h, h4⟩ := and3 h
      obtain ⟨h, h3⟩ := and3 h
      obtain ⟨h1, h2⟩ := and3 h
      obtain ⟨rfl, g1, m1⟩ := o.b h2
      unfold isTup at h1
      split at h1
      · exact i_enum g1 m1 (sndE e h4 o).1 h3
      · cases h1
    · cases h
  | .zip a b, nm, W, X, tg, x, h, o => by
    rw [chkI_zip] at h
    split at h
    · obtain ⟨h, h6⟩ := and3 h
      obtain ⟨h, h5⟩ := and3 h
      obtain ⟨h, h4⟩ := and3 h
      obtain ⟨h, h3⟩ := and3 h
      obtain ⟨h1, h2⟩ := and3 h
      obtain ⟨rfl, g1, m1⟩ := o.b h2
      unfold isTup at h1
      split at h1
      · exact i_zip g1 m1 (sndE a h5 o).1 (sndE b h6 o).1 h3 h4
      · cases h1
    · cases h
theorem sndEs : ∀ (es : Es) {nm : Nms} {W : WX} {X : Cx} {xs : List Expr}, chkEs S es nm xs = true → Ok S G C nm W X → EsOk G C W X es xs
  | .nil, nm, W, X, xs, h, o => by
    rw [chkEs_nil] at h
    split at h
    · exact .nil
    · cases h
  | .cons e r, nm, W, X, xs, h, o => by
    rw [chkEs_cons] at h
    split at h
    · obtain ⟨h, h3⟩ := and3 h
      obtain ⟨h1, h2⟩ := and3 h
      obtain ⟨p, q⟩ := sndE e h2 o
      exact .cons h1 p q (sndEs r h3 o)
    · cases h
theorem sndO : ∀ (es : Es) {nm : Nms} {W : WX} {X : Cx} {x : Option Expr}, chkO S es nm x = true → Ok S G C nm W X → PO X x (LO G C X.K W es)
  | .nil, nm, W, X, x, h, o => by
    rw [chkO_nil] at h
    split at h
    · exact o_nil
    · cases h
  | .cons e r, nm, W, X, x, h, o => by
    rw [chkO_cons] at h
    split at h
    · exact o_one (sndE e h o).1
    · cases h
theorem sndF : ∀ (es : Es) {nm : Nms} {X : Cx} {x : List Expr}, chkF S es nm x = true → Ok S G C nm W0 X → PTs X x (LT G C X.K es)
  | .nil, nm, X, x, h, o => by
    rw [chkF_nil] at h
    split at h
    · exact T_nil
    · cases h
  | .cons e r, nm, X, x, h, o => by
    rw [chkF_cons] at h
    split at h
    · obtain ⟨h1, h2⟩ := and3 h
      exact T_one ((sndE e h2 o).2 h1)
    · cases h
end
end
end PD

set_option maxHeartbeats 4000000
/-! PD: soundness of statements, of a def, of a law -/
namespace PD
open PySem PySem.Spec PyProof.Rows L2
variable [Tb]
section
variable {S : Sta} {G : Nat → SpD} {C : Nat → D} {nm : Nms} {W : WX} {X : Cx}
theorem LN.imp {K : PySem.W.Frag} {n : N} {σ : L2.St} {H : Hp} {Q Q' : VK} (h : LN G C K W n σ H Q) (k : ∀ v H, Q v H → Q' v H) : LN G C K W n σ H Q' := by
  obtain ⟨F, M, R, env, Qd, Xd, w, re, h, l, lx⟩ := h
  exact ⟨F, M, R, env, Qd, Xd, w, re, h, fun ds M' F' vs p H' s w' hp r q => k _ _ (l ds M' F' vs p H' s w' hp r q), lx⟩
theorem fr_read {K : PySem.W.Frag} {n : N} {σ : L2.St} {H : Hp} {Q : VK} (h : LE G C K W (.fr n) σ H Q) : LN G C K W n σ H Q := by
  obtain ⟨F, M, R, env, Qd, Xd, w, re, h, l, lx⟩ := h
  rw [wpE_fr] at h
  exact ⟨F, M, R, env, _, Xd, w, re, h, fun ds M1 F1 vs p H1 s1 w1 hp r1 h1 => landsL w1 (l.mono s1) r1 h1 hp, lx⟩
theorem ce_read {K : PySem.W.Frag} {n : N} {σ : L2.St} {H : Hp} {Q : VK} (h : LE G C K W (.ce n) σ H Q) : LN G C K W n σ H Q := by
  obtain ⟨F, M, R, env, Qd, Xd, w, re, h, l, lx⟩ := h
  rw [wpE_ce] at h
  exact ⟨F, M, R, env, _, Xd, w, re, h, fun ds M1 F1 vs p H1 s1 w1 hp r1 h1 => l (.ref p) _ F1 _ _ s1 (w1.cell (c := .lst ds) hp ⟨vs, rfl, r1⟩) rfl (h1 p (w1.noneM hp).2.1), lx⟩
theorem lg_nm {K : PySem.W.Frag} {i : Nat} {v : V} {σ : L2.St} {H : Hp} {Q : L2.St → Hp → Prop} (h : LG K (.nm i) v σ H Q) : gName i v σ H Q := by
  obtain ⟨F, M, R, P, d, env, env', w, rp, r, e, q⟩ := h
  cases e
  refine q _ ?_ (by rw [List.length_set]) fun j hj => ?_
  · have := rp.set r i
    exact ⟨this.1, fun j d p e => this.2 j d (by simpa [tslots] using p) e⟩
  · rw [List.getElem?_set_ne]
    intro e
    exact hj (by simp [tslots, e])
theorem cellT_of {tg : Expr} (h : cellT nm tg = true) : ∃ ts k p n q, tg = .Tuple ts k p ∧ Expr.Name n q ∈ ts ∧ nm.lookup n = some .cell := by
  cases tg with
  | Tuple ts k p =>
    unfold cellT at h
    rw [List.any_eq_true] at h
    obtain ⟨t, ht, h⟩ := h
    split at h
    · split at h
      · exact ⟨ts, k, p, _, _, rfl, ht, by assumption⟩
      · cases h
    · cases h
  | _ => cases h
theorem late_of {tg x : Expr} (h : late nm tg x = true) : ∃ y py elt gs scope p2, tg = .Name y py ∧ x = .ListComp elt gs scope p2 ∧ (nm.lookup y = some .cell ∨ (nm.lookup y = some .local ∧ (py.line == p2.line) = false)) := by
  unfold late at h
  split at h
  · refine ⟨_, _, _, _, _, _, rfl, rfl, ?_⟩
    split at h
    · exact .inl (by assumption)
    · exact .inr ⟨by assumption, (Bool.not_eq_true' _).mp h⟩
    · cases h
  · cases h
theorem once_of {tg x : Expr} (h : atOnce nm tg x = true) : ∃ y py, tg = .Name y py ∧ nm.lookup y = some .local := by
  unfold atOnce at h
  split at h
  · obtain ⟨h, _⟩ := and3 h
    obtain ⟨h, _⟩ := and3 h
    refine ⟨_, _, rfl, ?_⟩
    split at h
    · assumption
    · cases h
  · cases h
theorem tgt_nm {t : Tgt} {y : Str} {py : Pos} (h : chkT S nm t (.Name y py) = true) : ∃ i, t = .nm i ∧ S.N[i]? = some y := by
  cases t with
  | nm i => exact ⟨i, rfl, of_decide_eq_true (and3 h).1⟩
  | tp is => cases h
theorem comp_at {n : N} {e : E} {i : Nat} {y : Str} {py pos : Pos} {x : Expr} (o : Ok S G C nm W X) (hn : e = .fr n ∨ e = .ce n) (hc : ∃ a t it c, n = .comp a t it c) (h : chkN S n nm x = true) (hi : X.N[i]? = some y) (hl : X.env.scope.names.lookup y = some .local) (ha : atOnce nm (.Name y py) x = true) :
    PS X (.Assign [.Name y py] x pos) (LS G C X.K W (.set (.nm i) e)) := by
  obtain ⟨a, t, it, c, rfl⟩ := hc
  rw [chkN_comp] at h
  split at h
  · rename_i elt tg iter ifs scope p2
    obtain ⟨h, h6⟩ := and3 h
    obtain ⟨h, h5⟩ := and3 h
    obtain ⟨h, h4⟩ := and3 h
    obtain ⟨h, h3⟩ := and3 h
    obtain ⟨h1, h2⟩ := and3 h
    have bo := blkS_ok o h6
    have hN : X.N.Nodup := by rw [o.N]; exact o.nd
    unfold atOnce at ha
    obtain ⟨ha, a3⟩ := and3 ha
    obtain ⟨a1, a2⟩ := and3 ha
    have core := (N_comp o.calm hN (sndI it h1 o) bo (ownT_slots h3) (fun s H D cl fp => (tgt_ok (o.blk scope bo.kind (blkS_ne h6) s H D cl fp) h3).1) (fun s H D cl fp => sndF c h5 (o.blk scope bo.kind (blkS_ne h6) s H D cl fp)) (fun s H D cl fp => (sndE a h4 (o.blk scope bo.kind (blkS_ne h6) s H D cl fp)).1) (set_ok h2) (pos := p2)).2
    refine (ps_setLc (te := LE G C X.K W0 a) (tt := LT G C X.K c) (g := LG X.K t) o.calm hN hi hl (sw_true o.kind hl a2 ((Bool.not_eq_true' _).mp a3)) (sndI it h1 o) bo (fun s H D cl fp => (tgt_ok (o.blk scope bo.kind (blkS_ne h6) s H D cl fp) h3).1) (fun s H D cl fp => sndF c h5 (o.blk scope bo.kind (blkS_ne h6) s H D cl fp)) (fun s H D cl fp => (sndE a h4 (o.blk scope bo.kind (blkS_ne h6) s H D cl fp)).1) (set_ok h2)).wk fun D σ H h => ?_
    have h := set_read h
    have h' : LN G C X.K W (.comp a t it c) σ H (fun x H1 => LG X.K (.nm i) x σ H1 D.nx) := by
      rcases hn with rfl | rfl
      · exact fr_read h
      · exact ce_read h
    exact core σ H _ (h'.imp fun v H q => lg_nm q)
  · cases h
theorem loc_of {x : Str} (h : isLoc nm x = true) : nm.lookup x = some .local := by
  unfold isLoc at h
  split at h
  · assumption
  · cases h
theorem sw_two {env : Env} {x y : Str} {px py pt pt2 : Pos} {kt k2 : Nat} {u v : Expr} (hk : env.scope.kind = .function) (h1 : env.scope.names.lookup x = some .local) (h2 : env.scope.names.lookup y = some .local) (hn : x ≠ y) (hp : px.line = py.line) (h3 : noStar u = true) (h4 : noStar v = true) (h5 : [u, v].all (foldedForSure 8) = false) (h6 : [u, v].all (constantsAlone 8) = false) :
    swappedStores [.Tuple [.Name x px, .Name y py] kt pt] (.Tuple [u, v] k2 pt2) env = pure (some [x, y]) := by
  have k1 : env.kindOf x = some .local := h1
  have k2' : env.kindOf y = some .local := h2
  have kb : env.blockKind = .function := by
    unfold Env.blockKind
    rw [hk]
    rfl
  unfold swappedStores
  simp only [List.length_cons, List.length_nil, kb, h5, h6]
  simp [k1, k2', hp, Expr.pos]
  rw [if_neg]
  · have ed : [x, y].eraseDups.length = 2 := by
      have ne : (y == x) = false := by simpa using fun z => hn z.symm
      simp [List.eraseDups, List.eraseDupsBy, List.eraseDupsBy.loop, ne]
    rw [if_pos ed]
  · rintro (z | z)
    · cases u <;> first | (cases h3; done) | (cases z; done)
    · cases v <;> first | (cases h4; done) | (cases z; done)
theorem exm_ok {rs : List Str} {c : Str} (o : Ok S G C nm W X) (h1 : (!rs.isEmpty) = true) (h2 : (rs.all fun r => hasX S (.exm r c)) = true) : (∃ A, ClsAt X.K c A) ∧ ∀ r ∈ rs, XFact X.K (.exm r c) := by
  rw [List.all_eq_true] at h2
  have hx : ∀ r ∈ rs, XFact X.K (.exm r c) := fun r hr => o.xf _ (h2 r hr)
  refine ⟨?_, hx⟩
  cases rs with
  | nil => cases h1
  | cons r0 rs =>
    obtain ⟨A, B, _, k, _⟩ := hx r0 List.mem_cons_self
    exact ⟨B, k⟩
theorem const_okY {d : D} {c : Const} {k : Nat} {pos : Pos} (h : chkC d c = true) : ∃ v, (∀ Y : Cx, PE Y (.Constant c k pos) (tC v)) ∧ ∀ (K : PySem.W.Frag) F, RelD K F d v := by
  unfold chkC at h
  split at h
  · cases of_decide_eq_true h
    exact ⟨_, fun _ => pe_int, fun _ _ => rfl⟩
  · cases of_decide_eq_true h
    exact ⟨_, fun _ => pe_str, fun _ _ => rfl⟩
  · cases of_decide_eq_true h
    exact ⟨_, fun _ => pe_bl, fun _ _ => rfl⟩
  · exact ⟨_, fun _ => pe_non, fun _ _ => rfl⟩
  · cases h
mutual
theorem sndS : ∀ (s : PD.S) {W : WX} {X : Cx} {st : Stmt}, chkS S s nm st = true → Ok S G C nm W X → Frm X → PS X st (LS G C X.K W s)
  | .set t e, W, X, st, h, o, fr => by
    rw [chkS_set] at h
    split at h
    · rename_i tg x pos
      obtain ⟨h, h4⟩ := and3 h
      obtain ⟨h, h3⟩ := and3 h
      obtain ⟨h1, h2⟩ := and3 h
      obtain ⟨pg, ns, _⟩ := tgt_ok o h1
      have pe := (sndE e h2 o).1
      have h3' : swappedStores [tg] x X.env = pure none := by
        rw [Bool.or_eq_true, Bool.or_eq_true, Bool.or_eq_true] at h3
        rcases h3 with (h3 | h3) | h3
        · exact st_none h3
        · obtain ⟨ts, k, p, n, q, rfl, hm, hc⟩ := cellT_of h3
          exact st_cell hm (o.cel n hc).1
        · exact st_fold h3
      rw [Bool.or_eq_true, Bool.or_eq_true, Bool.or_eq_true] at h4
      rcases h4 with ((h4 | h4) | h4) | h4
      · exact s_set pe pg (.inl h4) h3' ns
      · exact s_set pe pg (.inr ((Bool.not_eq_true' _).mp h4)) h3' ns
      · refine s_setW pe pg ?_ h3' ns
        obtain ⟨y, py, elt, gs, scope, p2, rfl, rfl, q4⟩ := late_of h4
        show swapsWith (.ListComp elt gs scope p2) (some (.Name y py)) pos.line X.env = pure false
        rcases q4 with q4 | ⟨_, q4⟩
        · have k : X.env.kindOf y = some .cell := (o.cel y q4).1
          have ck : (NameKind.cell == NameKind.local) = false := rfl
          have ck2 : ((some NameKind.cell : Option NameKind) == some NameKind.local) = false := rfl
          unfold swapsWith
          simp only [k, ck, ck2]
          simp [ck]
        · have e' : (py.line == (Expr.ListComp elt gs scope p2).pos.line) = false := q4
          unfold swapsWith
          simp only [e']
          simp
      · obtain ⟨h5, h6⟩ := and3 h4
        obtain ⟨y, py, rfl, hy⟩ := once_of h5
        obtain ⟨i, rfl, hi⟩ := tgt_nm h1
        have hl := o.loc y hy
        have hi : X.N[i]? = some y := by rw [o.N]; exact hi
        unfold isNew at h6
        split at h6
        · rw [chkE_fr] at h2
          exact comp_at o (.inl rfl) ⟨_, _, _, _, rfl⟩ (and3 h2).2 hi hl h5
        · rw [chkE_ce] at h2
          exact comp_at o (.inr rfl) ⟨_, _, _, _, rfl⟩ (and3 h2).2 hi hl h5
        · cases h6
    · cases h
  | .par i j a b, W, X, st, h, o, fr => by
    rw [chkS_par] at h
    split at h
    · obtain ⟨h, h13⟩ := and3 h
      obtain ⟨h, h12⟩ := and3 h
      obtain ⟨h, h11⟩ := and3 h
      obtain ⟨h, h10⟩ := and3 h
      obtain ⟨h, h9⟩ := and3 h
      obtain ⟨h, h8⟩ := and3 h
      obtain ⟨h, h7⟩ := and3 h
      obtain ⟨h, h6⟩ := and3 h
      obtain ⟨h, h5⟩ := and3 h
      obtain ⟨h, h4⟩ := and3 h
      obtain ⟨h, h3⟩ := and3 h
      obtain ⟨h1, h2⟩ := and3 h
      have hN : X.N.Nodup := by rw [o.N]; exact o.nd
      have l1 := o.loc _ (loc_of h3)
      have l2 := o.loc _ (loc_of h4)
      refine s_par o.calm hN (by rw [o.N]; exact of_decide_eq_true h1) (by rw [o.N]; exact of_decide_eq_true h2) (of_decide_eq_true h5) l1 l2 (sndE a h12 o).1 (sndE b h13 o).1 h8 h9 ?_
      exact sw_two o.kind l1 l2 (of_decide_eq_true h6) (of_decide_eq_true h7) h8 h9 ((Bool.not_eq_true' _).mp h10) ((Bool.not_eq_true' _).mp h11)
    · cases h
  | .six a b c, W, X, st, h, o, fr => by
    rw [chkS_six] at h
    split at h
    · obtain ⟨h, h4⟩ := and3 h
      obtain ⟨h, h3⟩ := and3 h
      obtain ⟨h1, h2⟩ := and3 h
      exact s_six (Nat.lt_of_succ_lt o.hu) (sndE c h1 o).1 (sndE a h2 o).1 (sndE b h3 o).1 h4
    · cases h
  | .sfld a c f e, W, X, st, h, o, fr => by
    rw [chkS_sfld] at h
    split at h
    · obtain ⟨h, h4⟩ := and3 h
      obtain ⟨h, h3⟩ := and3 h
      obtain ⟨h1, h2⟩ := and3 h
      cases of_decide_eq_true h1
      exact s_sfld (o.xf _ h2) (sndE e h3 o).1 (sndE a h4 o).1
    · cases h
  | .exp a, W, X, st, h, o, fr => by
    rw [chkS_exp] at h
    split at h
    · obtain ⟨h1, h2⟩ := and3 h
      exact s_exp (sndE a h2 o).1 h1
    · cases h
  | .ret a, W, X, st, h, o, fr => by
    rw [chkS_ret] at h
    split at h
    · exact s_ret (sndE a h o).1
    · cases h
  | .ite c a b, W, X, st, h, o, fr => by
    rw [chkS_ite] at h
    split at h
    · obtain ⟨h, h4⟩ := and3 h
      obtain ⟨h, h3⟩ := and3 h
      obtain ⟨h1, h2⟩ := and3 h
      exact s_ite ((sndE c h2 o).2 h1) (sndSs a h3 o fr) (sndSs b h4 o fr)
    · cases h
  | .for_ t it b, W, X, st, h, o, fr => by
    rw [chkS_for] at h
    split at h
    · obtain ⟨h, h4⟩ := and3 h
      obtain ⟨h, h3⟩ := and3 h
      obtain ⟨h1, h2⟩ := and3 h
      exact s_for o.po o.calm (sndI it h2 o) (tgt_ok o h1).1 (sndSs b h4 o fr) (set_ok h3)
    · cases h
  | .whl c b, W, X, st, h, o, fr => by
    rw [chkS_whl] at h
    split at h
    · obtain ⟨h, h3⟩ := and3 h
      obtain ⟨h1, h2⟩ := and3 h
      exact s_whl o.po ((sndE c h2 o).2 h1) (sndSs b h3 o fr)
    · cases h
  | .brk, W, X, st, h, o, fr => by
    rw [chkS_brk] at h
    split at h
    · exact s_brk
    · cases h
  | .cont, W, X, st, h, o, fr => by
    rw [chkS_cont] at h
    split at h
    · exact s_cont
    · cases h
  | .pass, W, X, st, h, o, fr => by
    rw [chkS_pass] at h
    split at h
    · exact s_pass
    · cases h
  | .nev, W, X, st, h, o, fr => s_nev
  | .frz _, W, X, st, h, o, fr => by cases h
  | .rse c, W, X, st, h, o, fr => by
    rw [chkS_rse] at h
    split at h
    · obtain ⟨h, h4⟩ := and3 h
      obtain ⟨h, h3⟩ := and3 h
      obtain ⟨h1, h2⟩ := and3 h
      cases of_decide_eq_true h1
      exact s_rse o.calm o.tk o.mgk (o.gl h2) (o.xf _ h4) (okN_of h3).1
    · cases h
  | .tryo rs c b i d, W, X, st, h, o, fr => by
    rw [chkS_tryo] at h
    split at h
    · obtain ⟨h, h8⟩ := and3 h
      obtain ⟨h, h7⟩ := and3 h
      obtain ⟨h, h6⟩ := and3 h
      obtain ⟨h, h5⟩ := and3 h
      obtain ⟨h, h4⟩ := and3 h
      obtain ⟨h, h3⟩ := and3 h
      obtain ⟨h1, h2⟩ := and3 h
      cases of_decide_eq_true h1
      obtain ⟨h7, h9⟩ := and3 h7
      have hx := exm_ok o h7 h9
      obtain ⟨v, p, r⟩ := const_okY h6
      exact s_tryo fr (by rw [o.N]; exact o.nd) (by rw [o.N]; exact of_decide_eq_true h4) (o.loc _ (loc_of h5)) o.tk o.mgk (o.gl h2) (okN_of h3).1 hx.2 hx.1 p (r _) (fun W' pn xe tk po => sndSs b h8 (o.try_ tk po) ⟨fr.stk, fr.loc⟩)
    · cases h
  | .tryn rs c b j i, W, X, st, h, o, fr => by
    rw [chkS_tryn] at h
    split at h
    · obtain ⟨h, h12⟩ := and3 h
      obtain ⟨h, h11⟩ := and3 h
      obtain ⟨h, h10⟩ := and3 h
      obtain ⟨h, h9⟩ := and3 h
      obtain ⟨h, h8⟩ := and3 h
      obtain ⟨h, h7⟩ := and3 h
      obtain ⟨h, h6⟩ := and3 h
      obtain ⟨h, h5⟩ := and3 h
      obtain ⟨h, h4⟩ := and3 h
      obtain ⟨h, h3⟩ := and3 h
      obtain ⟨h1, h2⟩ := and3 h
      cases of_decide_eq_true h1
      cases of_decide_eq_true h6
      obtain ⟨q1, q2⟩ := and3 h11
      have hx := exm_ok o q1 q2
      obtain ⟨d1, d2, _⟩ := okN_of h9
      exact s_tryn fr (by rw [o.N]; exact o.nd) (by rw [o.N]; exact of_decide_eq_true h4) (o.loc _ (loc_of h5)) (by rw [o.N]; exact of_decide_eq_true h7) (o.loc _ (loc_of h8)) o.tk o.mgk (o.gl h2) (okN_of h3).1 hx.2 hx.1 d1 d2 (of_decide_eq_true h10) (fun W' pn xe tk po => sndSs b h12 (o.try_ tk po) ⟨fr.stk, fr.loc⟩)
    · cases h
theorem sndSs : ∀ (s : Ss) {W : WX} {X : Cx} {sts : List Stmt}, chkSs S s nm sts = true → Ok S G C nm W X → Frm X → PSs X sts (LSs G C X.K W s)
  | .nil, W, X, sts, h, o, fr => by
    unfold chkSs at h
    split at h
    · exact ss_nil
    · cases h
  | .cons s r, W, X, sts, h, o, fr => by
    unfold chkSs at h
    split at h
    · exact ss_frz (sndSs r h o fr)
    · split at h
      · obtain ⟨h1, h2⟩ := and3 h
        exact ss_cons (sndS s h1 o fr) (sndSs r h2 o fr)
      · cases h
end
end

/-! ### a def -/
inductive Cal (P : Program) (w : World) (K : PySem.W.Frag) (mg : Str → Option Value) (base : Heap) (ms : List (Str × Str × Str)) (k : Nat) : List Str → List SpD → Prop
  | nil : Cal P w K mg base ms k [] []
  | cons {x : Str} {sp : SpD} {xs : List Str} {sps : List SpD} {j : Nat} {f : Addr} {fd : FuncData} {ps : List Str} : FnG P w K mg base (L2.CX P w) j f fd ps (liftSp K sp) → j ≤ k → mg x = some (.ref f) → PySem.W.keepIn K (.ref f) = true → Binds K fd ps [] → ms.lookup x = none → Cal P w K mg base ms k xs sps → Cal P w K mg base ms k (x :: xs) (sp :: sps)
  | consM {x c m : Str} {Cc : Addr} {sp : SpD} {xs : List Str} {sps : List SpD} {j : Nat} {f : Addr} {fd : FuncData} {ps : List Str} : FnG P w K mg base (L2.CX P w) j f fd ps (liftSp K sp) → j + 1 ≤ k → ClsAt K c Cc → Cls K Cc → Meth K Cc m f → (m = "__init__" → Mk K Cc f) → Binds K fd ps [] → ms.lookup x = some (c, m) → Cal P w K mg base ms k xs sps → (cl : c ≠ lamW := by decide +kernel) → Cal P w K mg base ms k (x :: xs) (sp :: sps)
  | consL {x : Str} {sp : SpD} {xs : List Str} {sps : List SpD} {j : Nat} : LamG P w K mg base j x sp → j ≤ k → ms.lookup x = some (lamW, takeW) → Cal P w K mg base ms k xs sps → Cal P w K mg base ms k (x :: xs) (sp :: sps)
  | consT {x : Str} {sp : SpD} {xs : List Str} {sps : List SpD} : ms.lookup x = some (lamW, thunkW) → Cal P w K mg base ms k xs sps → Cal P w K mg base ms k (x :: xs) (sp :: sps)
inductive Cns (K : PySem.W.Frag) (mg : Str → Option Value) : List Str → List D → Prop
  | nil : Cns K mg [] []
  | cons {x : Str} {d : D} {xs : List Str} {ds : List D} {u : Value} {v : V} : mg x = some u → RelV v u → (∀ F, RelD K F d v) → Cns K mg xs ds → Cns K mg (x :: xs) (d :: ds)
def tabG (l : List SpD) : Nat → SpD := fun i => l.getD i (fun _ _ _ _ => False)
def tabC (l : List D) : Nat → D := fun i => l.getD i .non
theorem Cal.get {P : Program} {w : World} {K : PySem.W.Frag} {mg : Str → Option Value} {base : Heap} {ms : List (Str × Str × Str)} {k : Nat} : ∀ {xs : List Str} {sps : List SpD}, Cal P w K mg base ms k xs sps → ∀ (i : Nat) x, xs[i]? = some x →
    (∃ j f fd ps, FnG P w K mg base (L2.CX P w) j f fd ps (liftSp K (tabG sps i)) ∧ Binds K fd ps [] ∧ ((ms.lookup x = none ∧ j ≤ k ∧ mg x = some (.ref f) ∧ PySem.W.keepIn K (.ref f) = true) ∨ ∃ c m Cc, (ms.lookup x = some (c, m) ∧ c ≠ lamW) ∧ j + 1 ≤ k ∧ ClsAt K c Cc ∧ Cls K Cc ∧ Meth K Cc m f ∧ (m = "__init__" → Mk K Cc f))) ∨
    (∃ j, j ≤ k ∧ LamG P w K mg base j x (tabG sps i) ∧ ms.lookup x = some (lamW, takeW)) ∨ ms.lookup x = some (lamW, thunkW)
  | _, _, .nil, i, x, e => by simp at e
  | _, _, .cons a b c d e n t, 0, x, h => by
    cases h
    exact .inl ⟨_, _, _, _, a, e, .inl ⟨n, b, c, d⟩⟩
  | _, _, .consM a b c d e g z n t cl, 0, x, h => by
    cases h
    exact .inl ⟨_, _, _, _, a, z, .inr ⟨_, _, _, ⟨n, cl⟩, b, c, d, e, g⟩⟩
  | _, _, .consL a b c t, 0, x, h => by
    cases h
    exact .inr (.inl ⟨_, b, a, c⟩)
  | _, _, .consT c t, 0, x, h => by
    cases h
    exact .inr (.inr c)
  | _, _, .cons a b c d e n t, i + 1, x, h => Cal.get t i x (by simpa using h)
  | _, _, .consM a b c d e g z n t _, i + 1, x, h => Cal.get t i x (by simpa using h)
  | _, _, .consL a b c t, i + 1, x, h => Cal.get t i x (by simpa using h)
  | _, _, .consT c t, i + 1, x, h => Cal.get t i x (by simpa using h)
section
variable {P : Program} {w : World} {K : PySem.W.Frag} {mg : Str → Option Value} {base : Heap} {ms : List (Str × Str × Str)} {k : Nat} {xs : List Str} {sps : List SpD}
theorem Cal.fn (c : Cal P w K mg base ms k xs sps) (i : Nat) (x : Str) (h : xs[i]? = some x) (hn : ms.lookup x = none) : ∃ j f fd ps, j ≤ k ∧ FnG P w K mg base (L2.CX P w) j f fd ps (liftSp K (tabG sps i)) ∧ mg x = some (.ref f) ∧ PySem.W.keepIn K (.ref f) = true ∧ Binds K fd ps [] := by
  rcases c.get i x h with ⟨j, f, fd, ps, a, b, ⟨_, c, d, e⟩ | ⟨_, _, _, ⟨c, _⟩, _⟩⟩ | ⟨_, _, _, c⟩ | c
  · exact ⟨j, f, fd, ps, c, a, d, e, b⟩
  all_goals (rw [hn] at c; cases c)
theorem Cal.mt (c : Cal P w K mg base ms k xs sps) (i : Nat) (x y m : Str) (h : xs[i]? = some x) (hn : ms.lookup x = some (y, m)) (hy : y ≠ lamW) : ∃ j f fd ps Cc, j + 1 ≤ k ∧ FnG P w K mg base (L2.CX P w) j f fd ps (liftSp K (tabG sps i)) ∧ ClsAt K y Cc ∧ Cls K Cc ∧ Meth K Cc m f ∧ (m = "__init__" → Mk K Cc f) ∧ Binds K fd ps [] := by
  rcases c.get i x h with ⟨j, f, fd, ps, a, b, ⟨c, _⟩ | ⟨_, _, Cc, ⟨c, _⟩, d, e, g, z, u⟩⟩ | ⟨_, _, _, c⟩ | c
  · rw [hn] at c; cases c
  · rw [hn] at c
    cases c
    exact ⟨j, f, fd, ps, Cc, d, a, e, g, z, u, b⟩
  all_goals (rw [hn] at c; cases c; exact absurd rfl hy)
theorem Cal.tk (c : Cal P w K mg base ms k xs sps) (i : Nat) (x : Str) (h : xs[i]? = some x) (hn : ms.lookup x = some (lamW, takeW)) : ∃ j, j ≤ k ∧ LamG P w K mg base j x (tabG sps i) := by
  rcases c.get i x h with ⟨j, f, fd, ps, a, b, ⟨c, _⟩ | ⟨_, _, Cc, ⟨c, q⟩, _⟩⟩ | ⟨j, d, e, c⟩ | c
  · rw [hn] at c; cases c
  · rw [hn] at c
    cases c
    exact absurd rfl q
  · exact ⟨j, d, e⟩
  · rw [hn] at c
    exact absurd c (by decide +kernel)
end
theorem Cns.get {K : PySem.W.Frag} {mg : Str → Option Value} : ∀ {xs : List Str} {ds : List D}, Cns K mg xs ds → ∀ (i : Nat) x, xs[i]? = some x → ∃ u v, mg x = some u ∧ RelV v u ∧ ∀ F, RelD K F (tabC ds i) v
  | _, _, .nil, i, x, e => by simp at e
  | _, _, .cons a b c t, 0, x, h => by
    cases h
    exact ⟨_, _, a, b, c⟩
  | _, _, .cons a b c t, i + 1, x, h => Cns.get t i x (by simpa using h)
/-- a def's ends -/
def endsF (Q : QD) (X : XD) : EndsD := ⟨fun _ M => Q .non M, Q, fun _ _ => False, fun _ _ => False, fun x _ M => X x M⟩
def startD (n : Nat) (ds : List D) : EnvD := ds.map some ++ List.replicate (n - ds.length) none
theorem start_rel {K : PySem.W.Frag} {F : Hp} {N : List Str} {ds : List D} {vs : List V} (r : RelDs K F ds vs) : RelEnv K F (startD N.length ds) (L2.start N vs) := by
  unfold startD L2.start
  have hl := r.length
  refine ⟨by simp [hl], fun i d e => ?_⟩
  by_cases hi : i < ds.length
  · rw [List.getElem?_append_left (by simpa using hi), List.getElem?_map] at e
    cases h : ds[i]? with
    | none => rw [h] at e; cases e
    | some d' =>
      rw [h] at e
      cases e
      obtain ⟨v, e2, rv⟩ := r.get h
      refine ⟨v, ?_, rv⟩
      rw [List.getElem?_append_left (by simpa [← hl] using hi), List.getElem?_map, e2]
      rfl
  · rw [List.getElem?_append_right (by simpa using Nat.le_of_not_lt hi)] at e
    rw [List.getElem?_replicate] at e
    split at e <;> cases e
theorem nodup_fst {l : List (Addr × Str)} (h : (l.map (·.1)).Nodup) {p q : Addr × Str} (hp : p ∈ l) (hq : q ∈ l) (e : p.1 = q.1) : p = q := by
  induction l with
  | nil => cases hp
  | cons x r ih =>
    rw [List.map_cons, List.nodup_cons] at h
    rcases List.mem_cons.mp hp with rfl | hp1
    · rcases List.mem_cons.mp hq with rfl | hq1
      · rfl
      · exact absurd (show p.1 ∈ r.map (·.1) from List.mem_map.mpr ⟨q, hq1, e.symm⟩) h.1
    · rcases List.mem_cons.mp hq with rfl | hq1
      · exact absurd (show q.1 ∈ r.map (·.1) from List.mem_map.mpr ⟨p, hp1, e⟩) h.1
      · exact ih h.2 hp1 hq1
/-- a def's promise out of its body, where no repr is under way -/
theorem make_G {P : Program} {w : World} {K : PySem.W.Frag} {mg : Str → Option Value} {B : Heap} {x q : Str} {st : Stmt} {f : Addr} {fd : FuncData} {N ps : List Str} {k : Nat} {sp : Sp}
    (F : Fun K x q st f fd) (T : FnScope N ps (defScope st)) (len : ∀ vs H Q E, sp vs H Q E → vs.length = ps.length)
    (bd : ∀ (c : Value) (A : Around) (O : List Env) (s : Shared) (H : Hp) (vs : List V) (Q : VK) (E : XK), A.guards = some [] → c = fd.code → Room k (A.deeper (envOfC q (defScope st) s.heap.objs.size f c)) → sp vs H Q E →
      ∃ t, PSs (cxOf (L2.CX P w) P w K mg B N q (defScope st) f c A O s H E) (defBody st) t ∧ t { nx := fun _ H' => Q .non H', rt := Q } (L2.start N vs) H) : FnG P w K mg B (L2.CX P w) (k + 1) f fd ps sp := by
  obtain ⟨_, _, _, _, _, _, c, _, _, rfl, lk, hc⟩ := F.ex
  refine ⟨len, fun A O s H as us vs Q E gd rm e0 hb rv hs => ?_⟩
  have old : ∀ b o, B.get? b = some o → s.heap.get? b = some o := fun b o e => (e0.bs b o e).1
  have KI : K.In s.heap := e0.mod.kin.keeps old
  refine codeAny_call_function rm.depth (KI _ _ lk) rfl T.co T.gen rfl (PySem.W.codeRec_of KI hc) (hb _ _ _ _ ?_)
  refine wpAny_newFunctionEnv_cells T.kind (fun y hy => ?_) fun en he s1 ic => ?_
  · rcases T.par y.1 (List.of_mem_zip hy).1 with z | z
    · exact .inl z
    · exact .inr ⟨z, PySem.W.cellsFrom_some _ _ _ (.inl z)⟩
  cases he
  refine ⟨(e0.mod.nolimit.keeps old).keeps ic.toInCall.keep, codeAny_func ?_⟩
  obtain ⟨t, pt, ht⟩ := bd c A O s H vs Q E gd rfl (rm.deeper _) hs
  have J : L2.Inv (cxOf (L2.CX P w) P w K mg B N q (defScope st) f c A O s H E) [] (L2.start N vs) H s1 := inv_start T rm.hd e0 (len _ _ _ _ hs) rv ic
  refine wpAny_mono (pt.run [] s1 _ H _ J ht) (fun o s' ho => ?_) fun _ _ z => z
  match o, ho with
  | .ret u, ⟨v, _, H', J', r', q'⟩ => exact ⟨v, H', J'.os, J'.bare, J'.base, J'.hok, r', q'⟩
  | .next, ⟨_, H', J', q'⟩ => exact ⟨.non, H', J'.os, J'.bare, J'.base, J'.hok, rfl, q'⟩
  | .brk, ⟨_, _, _, q'⟩ => exact q'.elim
  | .cont, ⟨_, _, _, q'⟩ => exact q'.elim
theorem ok_at {P : Program} {w : World} {K : PySem.W.Frag} {mg : Str → Option Value} {base : Heap} {qual : Str} {scope : Scope} {f : Addr} {k k' : Nat} {sps : List SpD} {ds : List D} {S : Sta} {ps : List Str} {cdv : Value} {A : Around} {outer : List Env} {s : Shared} {H : Hp} {E : XK}
    (sy : ∃ mm, base.Ns sysModules mm) (sc : FnScope S.N ps scope) (cal : Cal P w K mg base S.ms k S.fns sps) (mgk : MgOk K mg) (xf : ∀ f ∈ S.xs, XFact K f) (cns : Cns K mg S.cns ds) (blt : ∀ y ∈ S.blts, mg y = none) (gd : A.guards = some []) (hk : k ≤ k') (hr : Room k' (A.deeper (envOfC qual scope s.heap.objs.size f cdv)))
    (lm : scope.names = S.nm → ∀ (i : Nat) x, S.fns[i]? = some x → S.ms.lookup x = some (lamW, takeW) → LamM S P w K mg base (A.deeper (envOfC qual scope s.heap.objs.size f cdv)) (envOfC qual scope s.heap.objs.size f cdv) (tabG sps))
    (th : scope.names = S.nm → ∀ x i j, S.thk = some (x, i, j) → ∀ (W' : WX) (pn : List (Addr × Obj)) (xe : Value → Shared → Prop) (p1 p2 : Pos), Takes ((cxOf (L2.CX P w) P w K mg base S.N qual scope f cdv A outer s H E).tr pn xe) W' → PE ((cxOf (L2.CX P w) P w K mg base S.N qual scope f cdv A outer s H E).tr pn xe) (.Call (.Name x p1) [] [] p2) (LE (tabG sps) (tabC ds) K W' (.thk i j))) :
    Ok S (tabG sps) (tabC ds) scope.names (fun cls d _ H => E cls d H) (cxOf (L2.CX P w) P w K mg base S.N qual scope f cdv A outer s H E) where
  N := rfl
  nd := sc.nd
  loc := fun x h => h
  cel := fun x h => ⟨h, rfl⟩
  fre := fun x h => .inl h
  glo := fun x h => h
  kind := sc.kind
  calm := rfl
  gd := gd
  sy := sy
  hu := Nat.lt_of_le_of_lt (Nat.le_trans (Nat.add_le_add_left (by decide : 65 ≤ 200) _) (Nat.add_le_add_right (Nat.le_add_right _ _) _)) hr.un
  tk := takes_of rfl rfl rfl rfl
  po := passes_of rfl
  blt := fun x h => by
    unfold hasB at h
    rw [List.any_eq_true] at h
    obtain ⟨y, hy, e⟩ := h
    cases of_decide_eq_true e
    exact blt _ hy
  cns := fun i x h => cns.get i x h
  fns := fun i x h hn => by
    obtain ⟨j, f, fd, ps, a, b, c, d, e⟩ := cal.fn i x h hn
    exact ⟨j, f, fd, ps, b, hr.mono (Nat.le_trans a hk), c, d, e⟩
  ms := fun i x c m h hn hc => by
    obtain ⟨j, f, fd, ps, Cc, a, b, r⟩ := cal.mt i x c m h hn hc
    exact ⟨j, f, fd, ps, Cc, b, hr.mono (Nat.le_trans a hk), r⟩
  mgk := mgk
  xf := fun f h => by
    unfold hasX at h
    rw [List.any_eq_true] at h
    obtain ⟨g, hg, e⟩ := h
    cases of_decide_eq_true e
    exact xf _ hg
  lm := lm
  th := th
def noTake (ms : List (Str × Str × Str)) : Bool := ms.all fun p => decide (p.2 ≠ (lamW, takeW))
theorem noTake_of {ms : List (Str × Str × Str)} {x : Str} (h : noTake ms = true) : ms.lookup x ≠ some (lamW, takeW) := fun z => by
  unfold noTake at h
  rw [List.all_eq_true] at h
  exact of_decide_eq_true (h _ (PySem.mem_of_lookup z)) rfl
theorem def_ok {P : Program} {w : World} {K : PySem.W.Frag} {mg : Str → Option Value} {base : Heap} {x qual : Str} {st : Stmt} {f : Addr} {fd : FuncData} {k : Nat} {sp : SpD} {sps : List SpD} {ds : List D} {S : Sta} {ps : List Str} {body : Ss}
    (sy : ∃ mm, base.Ns sysModules mm) (F : Fun K x qual st f fd) (sc : FnScope S.N ps (defScope st)) (ck : chkSs S body (defScope st).names (defBody st) = true)
    (cal : Cal P w K mg base S.ms k S.fns sps) (mgk : MgOk K mg) (xf : ∀ f ∈ S.xs, XFact K f) (cns : Cns K mg S.cns ds) (blt : ∀ y ∈ S.blts, mg y = none) (len : ∀ ds M X Q, sp ds M X Q → ds.length = ps.length)
    (hb : ∀ as M X Q, sp as M X Q → wpSs (tabG sps) (tabC ds) body (startD S.N.length as) M (endsF Q X)) (nt : noTake S.ms = true := by decide +kernel) (nh : S.thk = none := by rfl) : FnG P w K mg base (L2.CX P w) (k + 1) f fd ps (liftSp K sp) := by
  refine make_G F sc (fun vs H Q E h => ?_) (fun cdv A outer s H vs Q E gd _ hr h => ?_)
  · obtain ⟨F, M, R, ds, Qd, Xd, w, r, h, _⟩ := h
    rw [← r.length]
    exact len _ _ _ _ h
  · have o := ok_at (E := E) (outer := outer) (H := H) sy sc cal mgk xf cns blt gd (Nat.le_refl k) hr (fun _ i x _ z => absurd z (noTake_of nt)) (fun _ x i j z => by rw [nh] at z; cases z)
    refine ⟨_, sndSs body ck o ⟨rfl, rfl⟩, ?_⟩
    obtain ⟨F, M, R, ds', Qd, Xd, w', r, h, l, lx⟩ := h
    refine ⟨F, M, R, _, endsF Qd Xd, w', start_rel r, hb _ _ _ _ h, ⟨fun env M1 F1 σ H1 s1 w1 re q => l .non M1 F1 .non H1 s1 w1 rfl q, l, fun _ _ _ _ _ _ _ _ q => q.elim, fun _ _ _ _ _ _ _ _ q => q.elim, fun x env M1 F1 σ c d H1 s1 w1 re rx q => lx x M1 F1 c d H1 s1 w1 rx q⟩⟩
/-- the code object of a def by its name -/
theorem code_of {K : PySem.W.Frag} {x : Str} {f c Pt : Addr} {oc : Value} {od : Option Addr} {fd : FuncData} {osl : Array (Option Value)} (h : PySem.W.tabIn K x = some (c, Pt)) (a : PySem.W.nsIn K mainGlobals x = some (some (.ref f))) (l : K.lookup f = some ⟨oc, od, .func fd, osl⟩) : fd.code = .ref c := by
  unfold PySem.W.tabIn at h
  rw [a] at h
  dsimp only at h
  rw [l] at h
  dsimp only at h
  split at h
  · rename_i c2 e
    split at h
    · split at h
      · cases h
        exact e
      · cases h
    · cases h
  · cases h
/-- a def that makes lambdas -/
theorem def_okL {P : Program} {w : World} {K : PySem.W.Frag} {mg : Str → Option Value} {base : Heap} {x : Str} {st : Stmt} {f c Pt : Addr} {fd : FuncData} {k : Nat} {sp : SpD} {sps : List SpD} {ds : List D} {S : Sta} {ps : List Str} {body : Ss}
    (TBS : ∀ x c Pt, x ∈ Tb.xs → PySem.W.tabIn K x = some (c, Pt) → LamX.TabB base mg c Pt) (TU : ((tabsOf K).map (·.1)).Nodup) (hx : x ∈ Tb.xs) (ti : PySem.W.tabIn K x = some (c, Pt)) (a : PySem.W.nsIn K mainGlobals x = some (some (.ref f)))
    (sy : ∃ mm, base.Ns sysModules mm) (F : Fun K x x st f fd) (sc : FnScope S.N ps (defScope st)) (ck : chkSs S body (defScope st).names (defBody st) = true)
    (cal : Cal P w K mg base S.ms k S.fns sps) (mgk : MgOk K mg) (xf : ∀ f ∈ S.xs, XFact K f) (cns : Cns K mg S.cns ds) (blt : ∀ y ∈ S.blts, mg y = none) (len : ∀ ds M X Q, sp ds M X Q → ds.length = ps.length)
    (hb : ∀ as M X Q, sp as M X Q → wpSs (tabG sps) (tabC ds) body (startD S.N.length as) M (endsF Q X)) (nh : S.thk = none := by rfl) : FnG P w K mg base (L2.CX P w) (k + 3) f fd ps (liftSp K sp) := by
  refine make_G F sc (fun vs H Q E h => ?_) (fun cdv A outer s H vs Q E gd ec hr h => ?_)
  · obtain ⟨F, M, R, ds, Qd, Xd, w, r, h, _⟩ := h
    rw [← r.length]
    exact len _ _ _ _ h
  · have hc : cdv = .ref c := by
      obtain ⟨_, _, _, _, _, _, _, _, _, e, lk, _⟩ := F.ex
      rw [ec]
      exact code_of ti a lk
    have hm : (Pt, (x ++ ".<locals>." : Str) ++ "<lambda>") ∈ tabsOf K := List.mem_filterMap.mpr ⟨x, hx, by rw [ti]; rfl⟩
    have o := ok_at (E := E) (outer := outer) (H := H) sy sc cal mgk xf cns blt gd (Nat.le_add_right k 2) hr (fun _ i y hi hy => ⟨k, c, Pt, hr, TBS x c Pt hx ti, hc, hm, fun p hp e => ?_, fun i x h1 h2 => cal.tk i x h1 h2, fun i x h1 h2 => cal.fn i x h1 h2, fun i x c m h1 h2 h3 => cal.mt i x c m h1 h2 h3⟩) (fun _ x i j z => by rw [nh] at z; cases z)
    · refine ⟨_, sndSs body ck o ⟨rfl, rfl⟩, ?_⟩
      obtain ⟨F, M, R, ds', Qd, Xd, w', r, h, l, lx⟩ := h
      refine ⟨F, M, R, _, endsF Qd Xd, w', start_rel r, hb _ _ _ _ h, ⟨fun env M1 F1 σ H1 s1 w1 re q => l .non M1 F1 .non H1 s1 w1 rfl q, l, fun _ _ _ _ _ _ _ _ q => q.elim, fun _ _ _ _ _ _ _ _ q => q.elim, fun x env M1 F1 σ c d H1 s1 w1 re rx q => lx x M1 F1 c d H1 s1 w1 rx q⟩⟩
    · have := nodup_fst TU hp hm e
      rw [this]
      rfl
/-- a def that takes a lambda and calls it -/
theorem lam_ok {P : Program} {w : World} {K : PySem.W.Frag} {mg : Str → Option Value} {base : Heap} {x a : Str} {st : Stmt} {f : Addr} {fd : FuncData} {k : Nat} {sp : SpD} {sps : List SpD} {ds : List D} {S : Sta} {body : Ss}
    (hmg : mg x = some (.ref f)) (sy : ∃ mm, base.Ns sysModules mm) (F : Fun K x x st f fd) (sc : FnScope S.N [a] (defScope st)) (ck : chkSs S body (defScope st).names (defBody st) = true) (B : Binds K fd [a] [])
    (cal : ∀ th, Cal P w K mg base S.ms k S.fns (sps ++ [th])) (mgk : MgOk K mg) (xf : ∀ f ∈ S.xs, XFact K f) (cns : Cns K mg S.cns ds) (blt : ∀ y ∈ S.blts, mg y = none)
    (hb : ∀ v c q l ws M Qd th, (∀ X' Q', (∀ (x : Exc) M', sp [.exc x.nm, .non] M' (fun _ _ => False) Qd → X' x M') → (∀ d M', sp [d] M' (fun _ _ => False) Qd → Q' d M') → th [.thk v c q l ws] M X' Q') → wpSs (tabG (sps ++ [th])) (tabC ds) body (startD S.N.length [.thk v c q l ws]) M (endsF Qd (fun _ _ => False)))
    (h0 : S.N[0]? = some a := by rfl) (hv : isVar (defScope st).names a = true := by rfl) (ha : okN a = true := by decide +kernel) (nt : noTake S.ms = true := by decide +kernel) (nh : S.thk = some (a, 0, sps.length) := by rfl) : LamG P w K mg base k x sp := by
  obtain ⟨_, _, _, _, _, _, cdv, _, _, rfl, lk, hcd⟩ := F.ex
  obtain ⟨d1, d2, _⟩ := okN_of ha
  have va : Vis (defScope st) a := by
    unfold isVar at hv
    split at hv
    · exact .inl (by assumption)
    · exact .inr (.inl (by assumption))
    · exact .inr (.inr (by assumption))
    · cases hv
  refine ⟨f, a, S.N, defScope st, cdv, hmg, F.kp, h0, va, d1, d2, fun A O s H F1 R M fa c q l ws Qd Q gd rm e0 w1 fc rl la act => ?_⟩
  have old : ∀ b o, base.get? b = some o → s.heap.get? b = some o := fun b o e => (e0.bs b o e).1
  have KI : K.In s.heap := e0.mod.kin.keeps old
  have bb := B s [.ref fa] KI rfl
  refine codeAny_call_function rm.depth (KI _ _ lk) rfl sc.co sc.gen rfl (PySem.W.codeRec_of KI hcd) (bb _ _ _ _ ?_)
  refine wpAny_newFunctionEnv_cells sc.kind (fun y hy => ?_) fun en he s1 ic => ?_
  · rcases sc.par y.1 (List.of_mem_zip hy).1 with z | z
    · exact .inl z
    · exact .inr ⟨z, PySem.W.cellsFrom_some _ _ _ (.inl z)⟩
  cases he
  refine ⟨(e0.mod.nolimit.keeps old).keeps ic.toInCall.keep, codeAny_func ?_⟩
  have hr := rm.deeper (envOfC x (defScope st) s.heap.objs.size f cdv)
  have hg : tabG (sps ++ [thSp sp (.thk (.ref fa) c q l ws) M Qd]) sps.length = thSp sp (.thk (.ref fa) c q l ws) M Qd := by
    unfold tabG
    rw [List.getD_eq_getElem?_getD, List.getElem?_append_right (Nat.le_refl _), Nat.sub_self]
    rfl
  have o := ok_at (E := fun _ _ _ => False) (outer := O) (H := H) sy sc (cal (thSp sp (.thk (.ref fa) c q l ws) M Qd)) mgk xf cns blt gd (Nat.le_add_right k 1) hr (fun _ i x _ z => absurd z (noTake_of nt)) (fun _ y i j z => by
    rw [nh] at z
    cases z
    exact fun W' pn xe p1 p2 tk => act _ _ _ W' pn xe p1 p2 hg tk)
  have pt := sndSs body ck o ⟨rfl, rfl⟩
  have rv : RelDs K F1 [.thk (.ref fa) c q l ws] [V.ref fa] := ⟨_, [], rfl, ⟨rfl, fc, rl⟩, rfl⟩
  have J : L2.Inv (cxOf (L2.CX P w) P w K mg base S.N x (defScope st) f cdv A O s H (fun _ _ _ => False)) [] (L2.start S.N [V.ref fa]) H s1 := inv_start sc rm.hd e0 rfl (.cons rfl .nil) ic
  have ht := hb (.ref fa) c q l ws M Qd (thSp sp (.thk (.ref fa) c q l ws) M Qd) (fun X' Q' h1 h2 => ⟨rfl, rfl, h1, h2⟩)
  refine wpAny_mono (pt.run [] s1 _ H { nx := fun _ H' => Q .non H', rt := Q } J ⟨F1, M, R, _, endsF Qd (fun _ _ => False), w1, start_rel rv, ht, ⟨fun env M1 F1 σ H1 s1 w1 re q => la .non M1 F1 .non H1 s1 w1 rfl q, la, fun _ _ _ _ _ _ _ _ q => q.elim, fun _ _ _ _ _ _ _ _ q => q.elim, fun _ _ _ _ _ _ _ _ _ _ _ _ q => q.elim⟩⟩) (fun u s' hu => ?_) fun _ _ z => z
  match u, hu with
  | .ret u, ⟨v, _, H', J', r', q'⟩ => exact ⟨v, H', J'.os, J'.bare, J'.base, J'.hok, r', q'⟩
  | .next, ⟨_, H', J', q'⟩ => exact ⟨.non, H', J'.os, J'.bare, J'.base, J'.hok, rfl, q'⟩
  | .brk, ⟨_, _, _, q'⟩ => exact q'.elim
  | .cont, ⟨_, _, _, q'⟩ => exact q'.elim

/-! ### the law -/
def spLawD : SpD := fun ds M X Q => ∃ ns : List Int, ns.length ≤ 63 ∧ ds = [.scr (ns.map .int)] ∧ (∀ a, M a = none) ∧ ∀ M', Q (.bl true) M'
theorem spLaw_len (ds : List D) (M : Mh) (X : XD) (Q : QD) (h : spLawD ds M X Q) : ds.length = ["script"].length := by
  obtain ⟨ns, _, rfl, _⟩ := h
  rfl
def spLawV (K : PySem.W.Frag) : Sp := fun vs H Q E => ∃ (a : Addr) (ns : List Int), vs = [.ref a] ∧ ns.length ≤ 63 ∧ SqL K H a (ns.map V.int) ∧ LamX.Tabs (tabsOf K) H ∧ ∀ H', Q (.bl true) H'
theorem ints_rel {K : PySem.W.Frag} {F : Hp} : ∀ ns : List Int, RelDs K F (ns.map D.int) (ns.map V.int)
  | [] => rfl
  | n :: r => ⟨_, _, rfl, rfl, ints_rel r⟩
/-- what is no table -/
def noTb (H : Hp) : Hp := fun b => match H b with
  | some o => if isTbl o = true then none else some o
  | none => none
theorem noTb_of {H : Hp} {b : Addr} {o : HO} (h : noTb H b = some o) : H b = some o ∧ isTbl o = false := by
  unfold noTb at h
  split at h
  · rename_i u e
    by_cases z : isTbl u = true
    · rw [if_pos z] at h; cases h
    · rw [if_neg z] at h
      cases h
      exact ⟨e, by simpa using z⟩
  · cases h
theorem noTb_at {H : Hp} {b : Addr} {o : HO} (h : H b = some o) (n : isTbl o = false) : noTb H b = some o := by
  simp [noTb, h, n]
theorem law_lift {K : PySem.W.Frag} {vs : List V} {H : Hp} {Q : VK} {E : XK} (h : spLawV K vs H Q E) : liftSp K spLawD vs H Q E := by
  obtain ⟨a, ns, rfl, hl, hr, ht, q⟩ := h
  have hr' : SqL K (noTb H) a (ns.map V.int) := by
    rcases hr with (z | ⟨o, z⟩) | z
    · exact .inl (.inl (noTb_at z rfl))
    · exact .inl (.inr ⟨o, noTb_at z rfl⟩)
    · exact .inr z
  exact ⟨noTb H, fun _ => none, fun _ => none, [.scr (ns.map .int)], fun d _ => d = .bl true, fun _ _ => False,
    ⟨fun b o e => (noTb_of e).1, fun _ _ e => (by cases e), fun _ _ e => (by cases e), ⟨fun b ps e => (by have z := (noTb_of e).2; cases z), fun _ _ e => (by cases e), ht⟩⟩, ⟨_, _, rfl, ⟨a, _, rfl, hr', ints_rel ns⟩, rfl⟩, ⟨ns, hl, rfl, fun _ => rfl, fun _ => rfl⟩,
    fun d M F' v H' _ _ r e => by
      subst e
      cases (show v = _ from r)
      exact q H', fun _ _ _ _ _ _ _ _ _ z => z.elim⟩
theorem law_cx {P : Program} {w : World} {H : Hp} {s : Shared} {e : Value} {s' : Shared} (h : L2.CX P w [] H s (fun _ _ _ => False) e s') : False := by
  obtain ⟨_, _, _, _, _, _, _, _, _, _, _, _, z⟩ := h
  exact z
theorem law_sq {K : PySem.W.Frag} {H : Hp} {a : Addr} {ns : List Int} (hl : ns.length ≤ 63) (hs : SqL K H a (ns.map V.int)) (ht : LamX.Tabs (tabsOf K) H) : spLawV K [.ref a] H (fun v _ => v = .bl true) fun _ _ _ => False := ⟨a, ns, rfl, hl, hs, ht, fun _ => rfl⟩
/-- an empty table of code objects -/
abbrev tab0 : Obj := PySem.W.tabObj #[]
/-- the call of the law's def, at the heap behind the top -/
theorem top_G {P : Program} {w : World} {K : PySem.W.Frag} {mg mb : Str → Option Value} {Z : CXT} {k : Nat} {fa a : Addr} {fd : FuncData} {x : Str} {sp : Sp} {s : Shared} {us : List Value} {ns : List Int} {T : List (Addr × Addr)}
    (KI : K.In s.heap) (n1 : s.heap.Ns mainGlobals mg) (n2 : s.heap.Ns builtinsNs mb) (n3 : ∀ y : Str, y ≠ "__name__" → mb y = bootBuiltins y) (n4 : s.heap.NoLimit) (n6 : ∃ mm, s.heap.Ns sysModules mm) (n5 : s.gens = #[])
    (n7 : ∃ (bm : Addr) (ob : Obj), mg "__builtins__" = some (.ref bm) ∧ bm ≠ builtinsNs ∧ s.heap.get? bm = some ob ∧ ob.cls = .type "module" ∧ ob.dict = some builtinsNs ∧ ob.data = .plain)
    (t1 : ∀ q ∈ T, PySem.W.CodeHd s.heap q.1 q.2) (t2 : ∀ q ∈ T, s.heap.get? q.2 = some tab0) (t3 : ∀ q ∈ T, K.lookup q.2 = none)
    (ha : s.heap.get? a = some { cls := .type "list", data := .seq us.toArray }) (hi : IntsAre us ns) (hz : ns.length ≤ sizeLine) (rm : Room k callerA)
    (F : ∀ B : Heap, K.In B → B.Ns mainGlobals mg → (∃ mm, B.Ns sysModules mm) → (∀ q ∈ T, LamX.TabB B mg q.1 q.2) → FnG P w K mg B Z k fa fd [x] sp) (bi : ∀ (t : Shared) (u : Value), BindsTo t fd ⟨[u], []⟩ [(x, u)])
    (hs : ∀ H : Hp, SqL K H a (ns.map V.int) → (∀ q ∈ T, H q.2 = some (.tbl #[])) → sp [.ref a] H (fun v _ => v = .bl true) fun _ _ _ => False) (hZ : ∀ H e s', Z [] H s (fun _ _ _ => False) e s' → False) :
    codeAny (model P w) callerA (.call (.ref fa) ⟨[.ref a], []⟩) (fun r s' => r = .ok (.ret (.bool true)) ∧ OldK s.heap s'.heap ∧ s'.os = s.os ∧ AllBare s'.gens) s := by
  have rv := vals_ints hi
  have aT : ∀ q ∈ T, q.2 ≠ a := fun q hq z => by
    have e := t2 q hq
    rw [z, ha] at e
    have e := congrArg Obj.data (Option.some.inj e)
    cases e
  have go : ∀ H : Hp, SqL K H a (ns.map V.int) → HOk P w H s.heap → (∀ q ∈ T, H q.2 = some (.tbl #[])) → (∀ b u, H b = some u → (b = a ∧ K.lookup a = none ∧ ∃ o l, u = .frz o (.lst l)) ∨ (u = .tbl #[] ∧ ∃ q ∈ T, q.2 = b)) → codeAny (model P w) callerA (.call (.ref fa) ⟨[.ref a], []⟩) (fun r s' => r = .ok (.ret (.bool true)) ∧ OldK s.heap s'.heap ∧ s'.os = s.os ∧ AllBare s'.gens) s := by
    intro H sq ok ht only
    have kept : ∀ {b : Addr} {o : Obj}, s.heap.get? b = some o → b ≠ a → o ≠ tab0 → (hidT s.heap H).get? b = some o := fun {b o} e ne nt => hidT_get e (by
      cases z : H b with
      | none => rfl
      | some u =>
        rcases only b u z with ⟨y, _⟩ | ⟨_, q, hq, y⟩
        · exact absurd y ne
        · have e2 := t2 q hq
          rw [y, e] at e2
          exact absurd (Option.some.inj e2) nt)
    have nD : ∀ {o : Obj} {es : Array DictEntry} {ep : Nat}, o.data = .dict es ep → o ≠ tab0 := fun {o es ep} d z => by
      rw [z] at d
      cases d
    have ns : ∀ {b : Addr} {m : Str → Option Value}, s.heap.Ns b m → (hidT s.heap H).Ns b m := fun {b m} ⟨o, es, ep, e, d, r⟩ => ⟨o, es, ep, kept e (fun z => by
      subst z
      rw [ha] at e
      cases e
      cases d) (nD d), d, r⟩
    have KB : K.In (hidT s.heap H) := fun b o e => hidT_get (KI b o e) (by
      cases z : H b with
      | none => rfl
      | some u =>
        rcases only b u z with ⟨rfl, z2, _⟩ | ⟨_, q, hq, rfl⟩
        · rw [z2] at e
          cases e
        · rw [t3 q hq] at e
          cases e)
    have TB : ∀ q ∈ T, LamX.TabB (hidT s.heap H) mg q.1 q.2 := fun q hq => by
      obtain ⟨bm, ob, b1, b2, b3, b4, b5, b6⟩ := n7
      have bD : ∀ {o : Obj}, s.heap.get? bm = some o → o.data = .plain := fun {o} e => by
        rw [b3] at e
        cases e
        exact b6
      refine ⟨?_, ⟨bm, ob, b1, b2, fun z => ?_, fun z => ?_, kept b3 (fun z => ?_) (fun z => ?_), b4, b5, b6⟩, fun z => ?_⟩
      · obtain ⟨o, vs, fl, tf, fg, tg, nf, tx, tt, e1, e2, e3, e4, r⟩ := t1 q hq
        refine ⟨o, vs, fl, tf, fg, tg, nf, tx, tt, kept e1 (fun z => ?_) (fun z => ?_), e2, e3, e4, r⟩
        · rw [z, ha] at e1
          cases e1
          cases e3
        · rw [z] at e3
          cases e3
          simp at e4
      · obtain ⟨o, es, ep, e, d, _⟩ := n1
        rw [← z] at e
        rw [bD e] at d
        cases d
      · have e := t2 q hq
        rw [← z] at e
        have d := bD e
        cases d
      · have e := ha
        rw [← z] at e
        have d := bD e
        cases d
      · rw [z] at b6
        cases b6
      · obtain ⟨o, es, ep, e, d, _⟩ := n1
        rw [z, t2 q hq] at e
        cases e
        cases d
    obtain ⟨mc, c1, c2⟩ := n4
    have e0 : Env0 P w K mg (hidT s.heap H) callerA [] s H := ⟨rfl, ⟨KB, ns n1, ⟨mb, ns n2, n3⟩, ⟨mc, ns c1, c2⟩⟩, fun _ _ e => of_hidT e, Nat.le_of_eq (hidT_size _ _), trivial, fun b hb => absurd (show b ∈ ([] : List Addr) from hb) (by simp), ok, .of_eq n5⟩
    refine codeAny_mono ((F _ KB (ns n1) (n6.imp fun _ z => ns z) TB).go callerA [] s H _ [.ref a] [.ref a] _ _ rfl rm e0 (bi s (.ref a)) (.cons rfl .nil) (hs H sq ht)) fun r s' h => ?_
    match r, h with
    | .error e, h => exact (hZ H e s' h).elim
    | .ok .next, h => exact h.elim
    | .ok .brk, h => exact h.elim
    | .ok .cont, h => exact h.elim
    | .ok (.ret u), ⟨v, H', os, bare, un, ok', rv', q⟩ =>
      have q : v = .bl true := q
      subst q
      obtain rfl : u = Value.bool true := rv'
      have still : ∀ b o, s.heap.get? b = some o → (∀ q ∈ T, q.2 ≠ b) → s'.heap.get? b = some o := fun b o e nb => by
        cases z : H b with
        | none => exact un.keep b o e z (fun y => absurd (show b ∈ ([] : List Addr) from y) (by simp)) (by simp)
        | some t =>
          rcases only b t z with ⟨_, _, ob, l, rfl⟩ | ⟨_, q, hq, y⟩
          · obtain ⟨e1, _⟩ := ok b _ z
            obtain ⟨e2, _⟩ := ok' b _ (un.frzs b ob _ z)
            rw [e] at e1
            cases e1
            exact e2
          · exact absurd y (nb q hq)
      have more : ∀ q ∈ T, ∃ ps : Array Value, s'.heap.get? q.2 = some (PySem.W.tabObj ps) := fun q hq => by
        obtain ⟨ps, z⟩ := un.tbls q.2 #[] (ht q hq)
        exact ⟨_, ok' q.2 _ z⟩
      refine ⟨rfl, ⟨fun b o e => ?_, fun b o e => ?_⟩, os, bare⟩
      all_goals
        by_cases hb : ∃ q ∈ T, q.2 = b
        all_goals skip
      · obtain ⟨q, hq, rfl⟩ := hb
        obtain ⟨ps, hm⟩ := more q hq
        rw [t2 q hq] at e
        cases e
        exact .inr (.inl ⟨((t1 q hq).tab (t2 q hq)).isCodeTable, rfl, #[], ps, rfl, by rw [Array.empty_append]; exact hm⟩)
      · exact .inl (still b o e fun q hq z => hb ⟨q, hq, z⟩)
      · obtain ⟨q, hq, rfl⟩ := hb
        exact (more q hq).imp' _ fun _ z => z
      · exact ⟨o, still b o e fun q hq z => hb ⟨q, hq, z⟩⟩
  have isT : ∀ b, (∃ q ∈ T, q.2 = b) → s.heap.get? b = some tab0 := fun b ⟨q, hq, e⟩ => e ▸ t2 q hq
  cases hk : K.lookup a with
  | some o =>
    have e := KI a o hk
    rw [ha] at e
    cases e
    have at0 : ∀ b u, (if b ∈ T.map (·.2) then some (HO.tbl #[]) else none) = some u → u = .tbl #[] ∧ ∃ q ∈ T, q.2 = b := fun b u z => by
      by_cases hb : b ∈ T.map (·.2)
      · rw [if_pos hb] at z
        exact ⟨(Option.some.inj z).symm, List.mem_map.mp hb⟩
      · rw [if_neg hb] at z
        cases z
    refine go (fun b => if b ∈ T.map (·.2) then some (HO.tbl #[]) else none) (.inr ⟨_, us.toArray, _, hk, rfl, rfl, rfl, by rw [List.size_toArray, hi.length]; exact hz, by simpa using rv⟩) (fun b u z => ?_) (fun q hq => if_pos (List.mem_map.mpr ⟨q, hq, rfl⟩)) (fun b u z => .inr (at0 b u z))
    obtain ⟨rfl, hb⟩ := at0 b u z
    exact isT b hb
  | none =>
    have at1 : ∀ b u, (if b = a then some (HO.frz { cls := .type "list", data := .seq us.toArray } (.lst (ns.map V.int))) else if b ∈ T.map (·.2) then some (HO.tbl #[]) else none) = some u → (b = a ∧ u = HO.frz { cls := .type "list", data := .seq us.toArray } (.lst (ns.map V.int))) ∨ (u = .tbl #[] ∧ ∃ q ∈ T, q.2 = b) := fun b u z => by
      by_cases hb : b = a
      · rw [if_pos hb] at z
        exact .inl ⟨hb, (Option.some.inj z).symm⟩
      · rw [if_neg hb] at z
        by_cases hc : b ∈ T.map (·.2)
        · rw [if_pos hc] at z
          exact .inr ⟨(Option.some.inj z).symm, List.mem_map.mp hc⟩
        · rw [if_neg hc] at z
          cases z
    refine go (fun b => if b = a then some (HO.frz { cls := .type "list", data := .seq us.toArray } (.lst (ns.map V.int))) else if b ∈ T.map (·.2) then some (HO.tbl #[]) else none) (.inl (.inr ⟨_, if_pos rfl⟩)) (fun b u z => ?_)
      (fun q hq => (if_neg (aT q hq)).trans (if_pos (List.mem_map.mpr ⟨q, hq, rfl⟩))) (fun b u z => ?_)
    · rcases at1 b u z with ⟨rfl, rfl⟩ | ⟨rfl, hb⟩
      · exact ⟨ha, by rw [List.length_map]; exact hz, us, _, rv, ha⟩
      · exact isT b hb
    · rcases at1 b u z with ⟨rfl, rfl⟩ | y
      · exact .inl ⟨rfl, hk, _, _, rfl⟩
      · exact .inr y
theorem xs_mem {K : PySem.W.Frag} {xs : List Str} {q : Addr × Addr} (h : q ∈ xs.filterMap fun x => PySem.W.tabIn K x) : ∃ x ∈ xs, PySem.W.tabIn K x = some q := List.mem_filterMap.mp h
/-- what is known of the makers' tables -/
def tabCk (K : PySem.W.Frag) (q : Program) (xs : List Str) : Bool := xs.all fun x => ((recsOf q).find? fun e => e.name == x).isSome && match PySem.W.tabIn K x with
  | some p => (K.lookup p.2).isNone
  | none => true
/-- the goal of the head, from the promise of the law's def -/
theorem walk_G {l : PySem.W.OpenLaw} {k : Nat} {q : Program} {lo : List Str} {XP : (Str → Option Value) → Heap → Prop} {YP : World → Heap → Prop} {d : DefRec} {K : Params → PySem.W.Frag}
    (hn : l.most = some 63) (hdf : d.params.defaults = []) (nimp : importsNone q = true) (rm : Room k callerA) (hY : ∀ (w : World) (h : Heap), YP w h → (K w.params).In h) (tc : ∀ w : World, tabCk (K w.params) q Tb.xs = true)
    (F : ∀ (w : World) (mg : Str → Option Value) (fa : Addr) (h : Heap), (K w.params).In h → h.Ns mainGlobals mg → mg d.name = some (.ref fa) →
      ∃ fd : FuncData, (∀ (s : Shared) (u : Value), BindsTo s fd ⟨[u], []⟩ [("script", u)]) ∧ ∀ B : Heap, (K w.params).In B → B.Ns mainGlobals mg → (∃ mm, B.Ns sysModules mm) → (∀ x c Pt, x ∈ Tb.xs → PySem.W.tabIn (K w.params) x = some (c, Pt) → LamX.TabB B mg c Pt) → FnG l.prog w (K w.params) mg B (L2.CX l.prog w) k fa fd ["script"] (spLawV (K w.params))) :
    PySem.W.WalkO q lo XP YP l.row.toRowW d [] (fun f vs => PySem.call f vs) := by
  refine Att.attach_call hn hdf fun w s0 s mg mb fa o pm cd dc a us ns G Y ho hd hcd hmg hobj hints hlen hg => ?_
  obtain ⟨fd, hb, hF⟩ := F w mg fa _ (hY w _ Y) G.T.g hmg
  have ck := tc w
  unfold tabCk at ck
  rw [List.all_eq_true] at ck
  have tk : ∀ p ∈ (Tb.xs.filterMap fun x => PySem.W.tabIn (K w.params) x), (PySem.W.CodeHd s.heap p.1 p.2 ∧ s.heap.get? p.2 = some tab0) ∧ (K w.params).lookup p.2 = none := fun p hp => by
    obtain ⟨x, hx, e⟩ := xs_mem hp
    have c := ck x hx
    rw [e, Bool.and_eq_true] at c
    obtain ⟨r, hr⟩ := Option.isSome_iff_exists.mp c.1
    exact ⟨PySem.W.tab_of G.T (hY w _ Y) hr e, Option.isNone_iff_eq_none.mp c.2⟩
  refine top_G (T := Tb.xs.filterMap fun x => PySem.W.tabIn (K w.params) x) (hY w _ Y) G.T.g G.T.b G.T.builtins G.T.nolimit (let ⟨mm, z, _⟩ := (G.T.seer nimp).mods; ⟨mm, z⟩) hg G.T.bmain (fun p hp => (tk p hp).1.1) (fun p hp => (tk p hp).1.2) (fun p hp => (tk p hp).2) hobj hints (Nat.le_trans hlen (by decide)) rm
    (fun B b1 b2 b3 b4 => hF B b1 b2 b3 fun x c Pt hx e => b4 (c, Pt) (List.mem_filterMap.mpr ⟨x, hx, e⟩)) hb (fun H sq ht => law_sq hlen sq fun p hp => ?_) fun H e s' h => law_cx h
  obtain ⟨x, hx, e⟩ := List.mem_filterMap.mp hp
  cases e2 : PySem.W.tabIn (K w.params) x with
  | none => rw [e2] at e; cases e
  | some c =>
    rw [e2] at e
    cases e
    exact LamX.TabS.nil (ht c (List.mem_filterMap.mpr ⟨x, hx, e2⟩))
end PD
namespace PD
/-- no lambdas, unless the law says so -/
instance (priority := low) tb0 : Tb := ⟨[]⟩
end PD

/-! PD: rules for the plain part -/
namespace PD
open PySem PySem.Spec PyProof.Rows L2
section
variable {M : Mh} {Q : QD} {p : Addr} {l r : List Int} {d : D} {ds : List D} {i j : Int} {K : EndsD} {env : EnvD}
/-- a block without its first rows -/
def tlS : Nat → Ss → Ss
  | 0, s => s
  | n + 1, .cons _ r => tlS n r
  | _, .nil => .nil
def il (l : List Int) : List D := l.map D.int
def gt (l : List Int) (i : Int) : Int := l.getD i.toNat 0
theorem sz_le {n : Nat} (h : n ≤ 1000000) : n ≤ sizeLine := by rw [sizeLine_eq]; omega
theorem sz_lt {n : Nat} (h : n < 1000000) : n < sizeLine := by rw [sizeLine_eq]; omega
theorem il_len : (il l).length = l.length := by unfold il; rw [List.length_map]
theorem il_app : il l ++ il r = il (l ++ r) := by unfold il; rw [List.map_append]
theorem il_take {n : Nat} : (il l).take n = il (l.take n) := by unfold il; rw [List.map_take]
theorem il_drop {n : Nat} : (il l).drop n = il (l.drop n) := by unfold il; rw [List.map_drop]
theorem il_rev : (il l).reverse = il l.reverse := by unfold il; rw [List.map_reverse]
theorem il_one {x : Int} : [D.int x] = il [x] := rfl
theorem il_cons {x : Int} : D.int x :: il l = il (x :: l) := rfl
theorem il_nil : ([] : List D) = il [] := rfl
theorem il_lit {f : List D} (l : List Int) (h : f = il l) : f = il l := h
theorem il_get {n : Nat} (h : n < l.length) : (il l)[n]? = some (.int (gt l n)) := by
  unfold il gt
  rw [List.getElem?_map, List.getElem?_eq_getElem h]
  simp [List.getD, h]
theorem intsD_il : intsD (il l) = some l := by
  induction l with
  | nil => rfl
  | cons x r ih =>
    show (match intsD (il r) with | some l => some (x :: l) | none => none) = _
    rw [ih]
theorem rngL_il {lo : Int} {n : Nat} : rngL lo n = il ((List.range n).map fun (k : Nat) => lo + k) := by
  unfold rngL il
  rw [List.map_map]
  rfl
/-! tests -/
theorem if_t {A B : Prop} (h : A) : (if true = true then A else B) := by rw [if_pos rfl]; exact h
theorem if_f {A B : Prop} (h : B) : (if false = true then A else B) := by rw [if_neg (by decide)]; exact h
theorem if_d {c A B : Prop} [Decidable c] (h : c → A) (k : ¬ c → B) : (if decide c = true then A else B) := by
  by_cases e : c
  · rw [if_pos (decide_eq_true e)]; exact h e
  · rw [if_neg (by simpa using e)]; exact k e
theorem if_n {c A B : Prop} [Decidable c] (h : ¬ c → A) (k : c → B) : (if (!decide c) = true then A else B) := by
  by_cases e : c
  · rw [if_neg (by simp [e])]; exact k e
  · rw [if_pos (by simp [e])]; exact h e
theorem if_b {b : Bool} {A B : Prop} (h : b = true → A) (k : b = false → B) : (if b = true then A else B) := by
  cases b with
  | true => rw [if_pos rfl]; exact h rfl
  | false => rw [if_neg (by decide)]; exact k rfl
theorem and_t {b c : Bool} {A B : Prop} (h : b = c → A) (k : ¬ b = c → B) : (if b = c then A else B) := by
  by_cases e : b = c
  · rw [if_pos e]; exact h e
  · rw [if_neg e]; exact k e
/-! operators -/
theorem c_lt (q : Q (.bl (decide (i < j))) M) : cmpD .Lt (.int i) (.int j) M Q := by unfold cmpD; exact q
theorem c_le (q : Q (.bl (decide (i ≤ j))) M) : cmpD .LtE (.int i) (.int j) M Q := by unfold cmpD; exact q
theorem c_gt (q : Q (.bl (decide (j < i))) M) : cmpD .Gt (.int i) (.int j) M Q := by unfold cmpD; exact q
theorem c_ge (q : Q (.bl (decide (j ≤ i))) M) : cmpD .GtE (.int i) (.int j) M Q := by unfold cmpD; exact q
theorem c_eq (q : Q (.bl (decide (i = j))) M) : cmpD .Eq (.int i) (.int j) M Q := by unfold cmpD; exact q
theorem c_ne (q : Q (.bl (!decide (i = j))) M) : cmpD .NotEq (.int i) (.int j) M Q := by unfold cmpD; exact q
theorem b_lenT (q : Q (.int ds.length) M) : biD .len [.tup ds] M Q := by unfold biD; exact q
theorem b_lenL (q : Q (.int ds.length) M) : biD .len [.lst ds] M Q := by unfold biD; exact q
theorem b_lenTi (q : Q (.int l.length) M) : biD .len [.tup (il l)] M Q := b_lenT (by rw [il_len]; exact q)
theorem b_lenLi (q : Q (.int l.length) M) : biD .len [.lst (il l)] M Q := b_lenL (by rw [il_len]; exact q)
theorem b_lenC (h : M p = some (.lst ds)) (q : Q (.int ds.length) M) : biD .len [.ref p] M Q := by
  unfold biD
  simp only [view, h]
  exact q
theorem b_lenCi (h : M p = some (.lst (il l))) (q : Q (.int l.length) M) : biD .len [.ref p] M Q := b_lenC h (by rw [il_len]; exact q)
theorem b_tupL (q : Q (.tup ds) M) : biD .tup [.lst ds] M Q := by unfold biD; exact q
theorem b_tupT (q : Q (.tup ds) M) : biD .tup [.tup ds] M Q := by unfold biD; exact q
theorem b_tupC (h : M p = some (.lst ds)) (q : Q (.tup ds) M) : biD .tup [.ref p] M Q := by
  unfold biD
  simp only [view, h]
  exact q
theorem b_abs (q : Q (.int i.natAbs) M) : biD .abs [.int i] M Q := by
  have e : (if i < 0 then -i else i) = (i.natAbs : Int) := by split <;> omega
  unfold biD
  show Q (.int (if i < 0 then -i else i)) M
  rw [e]; exact q
theorem b_max2 (q : Q (.int (max i j)) M) : biD .max2 [.int i, .int j] M Q := by
  have e : (if j > i then j else i) = max i j := by split <;> omega
  unfold biD
  show Q (.int (if j > i then j else i)) M
  rw [e]; exact q
theorem b_min2 (q : Q (.int (min i j)) M) : biD .min2 [.int i, .int j] M Q := by
  have e : (if j < i then j else i) = min i j := by split <;> omega
  unfold biD
  show Q (.int (if j < i then j else i)) M
  rw [e]; exact q
theorem b_max1 (h : 0 < l.length) (q : Q (.int (maxL l)) M) : biD .max1 [.lst (il l)] M Q := by
  unfold biD
  show match intsD (il l) with | some ns => 0 < ns.length ∧ Q (.int (maxL ns)) M | none => False
  rw [intsD_il]
  exact ⟨h, q⟩
theorem b_min1 (h : 0 < l.length) (q : Q (.int (minL l)) M) : biD .min1 [.lst (il l)] M Q := by
  unfold biD
  show match intsD (il l) with | some ns => 0 < ns.length ∧ Q (.int (minL ns)) M | none => False
  rw [intsD_il]
  exact ⟨h, q⟩
theorem b_sum (q : Q (.int l.sum) M) : biD .sum [.lst (il l)] M Q := by
  unfold biD
  show match intsD (il l) with | some ns => Q (.int ns.sum) M | none => False
  rw [intsD_il]
  exact q
theorem b_divmod (h : 0 < j ∧ j < 1073741824) (q : Q (.tup [.int (i / j), .int (i % j)]) M) : biD .divmod [.int i, .int j] M Q := by unfold biD; exact ⟨h, q⟩
theorem isi_int {k : D → Prop} (q : k (.bl true)) : isiD (.int i) "int" k := by
  have e : kitB "int" "int" = some true := by decide +kernel
  unfold isiD
  show match kitB "int" "int" with | some b => k (.bl b) | none => False
  rw [e]; exact q
theorem isi_intb {k : D → Prop} (q : k (.bl false)) : isiD (.int i) "bool" k := by
  have e : kitB "int" "bool" = some false := by decide +kernel
  unfold isiD
  show match kitB "int" "bool" with | some b => k (.bl b) | none => False
  rw [e]; exact q
theorem dv {a b : Int} (h : 0 < b) (h2 : b < 1073741824) : divOk a b := .inl ⟨h, h2⟩
theorem ml {a b : Int} (h : -(2 ^ 64) < a) (h2 : a < 2 ^ 64) : mulOk a b := .inl (.inl ⟨h, h2⟩)
theorem mr {a b : Int} (h : -(2 ^ 64) < b) (h2 : b < 2 ^ 64) : mulOk a b := .inl (.inr ⟨h, h2⟩)
/-! items -/
theorem at_pos {n : Nat} (h : ds[n]? = some d) (hi : i = n) : atI ds i = some d := by rw [hi]; exact atI_nat h
theorem at_neg {n : Nat} (h : ds[n]? = some d) (h0 : i < 0) (hi : i + ds.length = n) : atI ds i = some d := by
  have hn := (List.getElem?_eq_some_iff.mp h).1
  unfold atI ixN
  rw [if_neg (by omega), if_pos (by omega)]
  show ds[(i + (ds.length : Int)).toNat]? = _
  rw [show (i + (ds.length : Int)).toNat = n by omega]
  exact h
theorem x_T (h : atI ds i = some d) (q : Q d M) : ixD (.tup ds) (.int i) M Q := by
  unfold ixD
  simp only [view]
  rw [h]
  exact q
theorem x_t0 {r : List D} (q : Q d M) : ixD (.tup (d :: r)) (.int 0) M Q := x_T (at_pos (n := 0) rfl rfl) q
theorem x_t1 {d0 : D} {r : List D} (q : Q d M) : ixD (.tup (d0 :: d :: r)) (.int 1) M Q := x_T (at_pos (n := 1) rfl rfl) q
theorem x_t2 {d0 d1 : D} {r : List D} (q : Q d M) : ixD (.tup (d0 :: d1 :: d :: r)) (.int 2) M Q := x_T (at_pos (n := 2) rfl rfl) q
theorem x_L (h : atI ds i = some d) (q : Q d M) : ixD (.lst ds) (.int i) M Q := by
  unfold ixD
  simp only [view]
  rw [h]
  exact q
theorem x_C (hM : M p = some (.lst ds)) (h : atI ds i = some d) (q : Q d M) : ixD (.ref p) (.int i) M Q := by
  unfold ixD
  simp only [view, hM]
  rw [h]
  exact q
theorem at_il (h0 : 0 ≤ i) (h1 : i < l.length) : atI (il l) i = some (.int (gt l i)) := by
  have := il_get (l := l) (n := i.toNat) (by omega)
  rw [show ((i.toNat : Nat) : Int) = i by omega] at this
  exact at_pos this (by omega)
theorem at_iln (h0 : i < 0) (h1 : 0 ≤ i + l.length) : atI (il l) i = some (.int (gt l (i + l.length))) := by
  have := il_get (l := l) (n := (i + l.length).toNat) (by omega)
  rw [show (((i + l.length).toNat : Nat) : Int) = i + l.length by omega] at this
  exact at_neg this h0 (by rw [il_len]; omega)
theorem x_Ti (h0 : 0 ≤ i) (h1 : i < l.length) (q : Q (.int (gt l i)) M) : ixD (.tup (il l)) (.int i) M Q := x_T (at_il h0 h1) q
theorem x_Li (h0 : 0 ≤ i) (h1 : i < l.length) (q : Q (.int (gt l i)) M) : ixD (.lst (il l)) (.int i) M Q := x_L (at_il h0 h1) q
theorem x_Ci (hM : M p = some (.lst (il l))) (h0 : 0 ≤ i) (h1 : i < l.length) (q : Q (.int (gt l i)) M) : ixD (.ref p) (.int i) M Q := x_C hM (at_il h0 h1) q
theorem x_Cn (hM : M p = some (.lst (il l))) (h0 : i < 0) (h1 : 0 ≤ i + l.length) (q : Q (.int (gt l (i + l.length))) M) : ixD (.ref p) (.int i) M Q := x_C hM (at_iln h0 h1) q
theorem x_Ln (h0 : i < 0) (h1 : 0 ≤ i + l.length) (q : Q (.int (gt l (i + l.length))) M) : ixD (.lst (il l)) (.int i) M Q := x_L (at_iln h0 h1) q
theorem x_Tn (h0 : i < 0) (h1 : 0 ≤ i + l.length) (q : Q (.int (gt l (i + l.length))) M) : ixD (.tup (il l)) (.int i) M Q := x_T (at_iln h0 h1) q
/-- some item -/
theorem at_mem (h0 : 0 ≤ i) (h1 : i < ds.length) : ∃ d, d ∈ ds ∧ atI ds i = some d := by
  have h : i.toNat < ds.length := by omega
  exact ⟨ds[i.toNat], List.getElem_mem h, at_pos (List.getElem?_eq_getElem h) (by omega)⟩
/-! slices -/
theorem cut_lo (h0 : 0 ≤ i) : cutD ds (some i) none = ds.drop i.toNat := by
  unfold cutD
  obtain ⟨n, rfl⟩ : ∃ n : Nat, i = n := ⟨i.toNat, by omega⟩
  rw [HT.sIx_nat, HT.sIx_none, Int.toNat_natCast]
  by_cases h : n ≤ ds.length
  · rw [Nat.min_eq_left h, List.take_of_length_le (by rw [List.length_drop]; omega)]
  · rw [Nat.min_eq_right (by omega), List.drop_of_length_le (by omega), List.drop_of_length_le (by omega)]
    simp
theorem cut_hi (h0 : 0 ≤ i) : cutD ds none (some i) = ds.take i.toNat := by
  unfold cutD
  obtain ⟨n, rfl⟩ : ∃ n : Nat, i = n := ⟨i.toNat, by omega⟩
  rw [HT.sIx_nat, HT.sIx_none, Int.toNat_natCast, List.drop_zero, Nat.sub_zero]
  by_cases h : n ≤ ds.length
  · rw [Nat.min_eq_left h]
  · rw [Nat.min_eq_right (by omega), List.take_of_length_le (by omega), List.take_of_length_le (by omega)]
theorem sl_loC (hM : M p = some (.lst ds)) (h0 : 0 ≤ i) (q : Q (.lst (ds.drop i.toNat)) M) : slD (.ref p) (some i) none M Q := by
  unfold slD
  simp only [view, hM]
  rw [cut_lo h0]; exact q
theorem sl_hiC (hM : M p = some (.lst ds)) (h0 : 0 ≤ i) (q : Q (.lst (ds.take i.toNat)) M) : slD (.ref p) none (some i) M Q := by
  unfold slD
  simp only [view, hM]
  rw [cut_hi h0]; exact q
theorem sl_loL (h0 : 0 ≤ i) (q : Q (.lst (ds.drop i.toNat)) M) : slD (.lst ds) (some i) none M Q := by
  unfold slD
  show Q (.lst (cutD ds (some i) none)) M
  rw [cut_lo h0]; exact q
theorem sl_hiL (h0 : 0 ≤ i) (q : Q (.lst (ds.take i.toNat)) M) : slD (.lst ds) none (some i) M Q := by
  unfold slD
  show Q (.lst (cutD ds none (some i))) M
  rw [cut_hi h0]; exact q
theorem sl_loLi (h0 : 0 ≤ i) (q : Q (.lst (il (l.drop i.toNat))) M) : slD (.lst (il l)) (some i) none M Q := sl_loL h0 (by rw [il_drop]; exact q)
theorem sl_hiLi (h0 : 0 ≤ i) (q : Q (.lst (il (l.take i.toNat))) M) : slD (.lst (il l)) none (some i) M Q := sl_hiL h0 (by rw [il_take]; exact q)
theorem sl_loCi (hM : M p = some (.lst (il l))) (h0 : 0 ≤ i) (q : Q (.lst (il (l.drop i.toNat))) M) : slD (.ref p) (some i) none M Q := sl_loC hM h0 (by rw [il_drop]; exact q)
theorem sl_hiCi (hM : M p = some (.lst (il l))) (h0 : 0 ≤ i) (q : Q (.lst (il (l.take i.toNat))) M) : slD (.ref p) none (some i) M Q := sl_hiC hM h0 (by rw [il_take]; exact q)
theorem sl_scr (h0 : 0 ≤ i) (q : Q (.lst (il (l.take i.toNat))) M) : slD (.scr (l.map .int)) none (some i) M Q := by
  unfold slD
  show Q (.lst (cutD (il l) none (some i))) M
  rw [cut_hi h0, il_take]; exact q
theorem lof_L {Qn : List D → Mh → Prop} (q : Qn ds M) : lofD (.lst ds) M Qn := by unfold lofD; exact q
theorem lof_T {Qn : List D → Mh → Prop} (q : Qn ds M) : lofD (.tup ds) M Qn := by unfold lofD; exact q
theorem rev_L {Qn : List D → Mh → Prop} (h0 : 0 ≤ i) (h1 : i < l.length) (q : Qn (il (l.take (i.toNat + 1)).reverse) M) : revD (.lst (il l)) (some i) M Qn := by
  have e : revN (il l).length (some i) = some (i.toNat + 1) := if_pos ⟨h0, by rw [il_len]; exact h1⟩
  unfold revD
  show match revN (il l).length (some i) with | some n => Qn ((il l).take n).reverse M | none => False
  rw [e]
  show Qn ((il l).take _).reverse M
  rw [il_take, il_rev]; exact q
theorem rev_L0 {Qn : List D → Mh → Prop} (q : Qn ds.reverse M) : revD (.lst ds) none M Qn := by
  unfold revD
  show Qn (ds.take ds.length).reverse M
  rw [List.take_length]; exact q
theorem sq_L {Qs : List D → (Mh → Prop) → Mh → Prop} (q : Qs ds (fun _ => True) M) : seqD (.lst ds) M Qs := by unfold seqD; exact q
theorem sq_T {Qs : List D → (Mh → Prop) → Mh → Prop} (q : Qs ds (fun _ => True) M) : seqD (.tup ds) M Qs := by unfold seqD; exact q
theorem catLi (q : Q (.lst (il (l ++ r))) M) (h : l.length + r.length ≤ 1000000) : binD .Add (.lst (il l)) (.lst (il r)) M Q := by
  refine ⟨sz_le (by rw [il_len, il_len]; exact h), ?_⟩
  rw [il_app]; exact q
theorem catLi1 {x : Int} (q : Q (.lst (il (l ++ [x]))) M) (h : l.length + 1 ≤ 1000000) : binD .Add (.lst (il l)) (.lst [.int x]) M Q := catLi (r := [x]) q h
theorem catTi (q : Q (.tup (il (l ++ r))) M) (h : l.length + r.length ≤ 1000000) : binD .Add (.tup (il l)) (.tup (il r)) M Q := by
  refine ⟨sz_le (by rw [il_len, il_len]; exact h), ?_⟩
  rw [il_app]; exact q
theorem rg1 {k : List D → Prop} (h0 : -(2 ^ 62) ≤ j) (h1 : j < 2 ^ 62) (q : k (rngL 0 j.toNat)) : rngD [.int j] k := by unfold rngD; exact ⟨⟨h0, h1⟩, q⟩
theorem rg1n {k : List D → Prop} (n : Nat) (e : j = n) (h1 : n < 1000000000) (q : k (rngL 0 n)) : rngD [.int j] k := by
  subst e
  unfold rngD
  exact ⟨⟨by omega, by omega⟩, by rw [Int.toNat_natCast]; exact q⟩
theorem rg2 {k : List D → Prop} (h0 : -(2 ^ 62) ≤ i) (h1 : i < 2 ^ 62) (h2 : -(2 ^ 62) ≤ j) (h3 : j < 2 ^ 62) (q : k (rngL i (j - i).toNat)) : rngD [.int i, .int j] k := by unfold rngD; exact ⟨⟨h0, h1, h2, h3⟩, q⟩
theorem lrg1 {k : List D → Prop} (h1 : j ≤ 16777216) (q : k (rngL 0 j.toNat)) : lrgD [.int j] k := ⟨h1, q⟩
theorem lrg2 {k : List D → Prop} {i : Int} (h1 : j - i ≤ 16777216) (q : k (rngL i (j - i).toNat)) : lrgD [.int i, .int j] k := ⟨h1, q⟩
theorem rngL_len {n : Nat} : (rngL i n).length = n := by unfold rngL; simp
theorem rngL_get {n k : Nat} (h : (rngL i n)[k]? = some d) : d = .int (i + k) ∧ k < n := by
  have hk : k < n := by rw [← rngL_len (i := i) (n := n)]; exact (List.getElem?_eq_some_iff.mp h).1
  unfold rngL at h
  rw [List.getElem?_map, List.getElem?_range hk] at h
  exact ⟨(Option.some.inj h).symm, hk⟩
/-! cells -/
theorem isL_C (h : M p = some (.lst ds)) : isL M (.ref p) = true := by
  unfold isL
  simp only [view, h]
theorem m_app (h : M p = some (.lst ds)) (h1 : ds.length < 1000000) (q : Q .non (mset M p (.lst (ds ++ [d])))) : meD .append (.ref p) [d] M Q := by
  unfold meD
  simp only [h]
  exact ⟨sz_lt h1, q⟩
theorem m_appi {x : Int} (h : M p = some (.lst (il l))) (h1 : l.length < 1000000) (q : Q .non (mset M p (.lst (il (l ++ [x]))))) : meD .append (.ref p) [.int x] M Q := m_app h (by rw [il_len]; exact h1) (by rw [il_one, il_app]; exact q)
theorem f_z {n : Nat} {k : EnvD → Mh → Prop} (he : env[n]? = some (some (.ref p))) (h : M p = some (.lst ds)) (q : k (env.set n (some (.lst ds))) (mdel M p)) : frzD env n M k := by
  unfold frzD
  simp only [he, h]
  exact q
/-! loops -/
theorem for_inv {body : EnvD → Mh → EndsD → Prop} {t : Tgt} {guard : Mh → Prop} (J : Nat → EnvD → Mh → Prop) : ∀ {ds : List D} {n : Nat}, J n env M →
    (∀ i env M (Kn : EnvD → Mh → Prop), (∀ e m, J (n + i + 1) e m → Kn e m) → ∀ d, ds[i]? = some d → J (n + i) env M → guard M ∧ optE (bindT t d env) fun env' => body env' M { K with nx := Kn, ct := Kn, bk := K.nx }) →
    (∀ env M, J (n + ds.length) env M → guard M ∧ K.nx env M) → forD body t guard K ds env M := by
  intro ds
  induction ds generalizing env M with
  | nil => intro n h0 _ hn; rw [forD_nil]; exact hn _ _ h0
  | cons d r ih =>
    intro n h0 hs hn
    rw [forD_cons]
    refine hs 0 env M (fun e m => forD body t guard K r e m) (fun e m hj => ?_) d rfl h0
    refine ih (n := n + 1) hj (fun i env M Kn hk d' hd hJ => hs (i + 1) env M Kn (fun e m q => hk e m ?_) d' (by simpa using hd) ?_) (fun env M hJ => hn env M ?_)
    · rw [show n + 1 + i + 1 = n + (i + 1) + 1 by omega]; exact q
    · rw [show n + (i + 1) = n + 1 + i by omega]; exact hJ
    · rw [List.length_cons, show n + (r.length + 1) = n + 1 + r.length by omega]; exact hJ
theorem comp_inv {body : EnvD → Mh → (D → Mh → Prop) → Prop} {test : EnvD → Mh → (Bool → Mh → Prop) → Prop} {t : Tgt} {guard : Mh → Prop} {Qn : List D → Mh → Prop} (J : Nat → List D → Mh → Prop) : ∀ {ds : List D} {n : Nat} {acc : List D}, J n acc M →
    (∀ i acc M (Kn : List D → Mh → Prop), (∀ a m, J (n + i + 1) a m → Kn a m) → ∀ d, ds[i]? = some d → J (n + i) acc M → guard M ∧ optE (bindT t d env) fun env' => test env' M fun b M1 => if b = true then body env' M1 fun x M2 => acc.length < sizeLine ∧ Kn (acc ++ [x]) M2 else Kn acc M1) →
    (∀ acc M, J (n + ds.length) acc M → guard M ∧ Qn acc M) → compD body test t env guard ds acc M Qn := by
  intro ds
  induction ds generalizing M with
  | nil => intro n acc h0 _ hn; rw [compD_nil]; exact hn _ _ h0
  | cons d r ih =>
    intro n acc h0 hs hn
    rw [compD_cons]
    refine hs 0 acc M (fun a m => compD body test t env guard r a m Qn) (fun e m hj => ?_) d rfl h0
    refine ih (n := n + 1) hj (fun i acc M Kn hk d' hd hJ => hs (i + 1) acc M Kn (fun e m q => hk e m ?_) d' (by simpa using hd) ?_) (fun acc M hJ => hn acc M ?_)
    · rw [show n + 1 + i + 1 = n + (i + 1) + 1 by omega]; exact q
    · rw [show n + (i + 1) = n + 1 + i by omega]; exact hJ
    · rw [List.length_cons, show n + (r.length + 1) = n + 1 + r.length by omega]; exact hJ
end
end PD

namespace PD
open PySem PySem.Spec PyProof.Rows L2
section
variable {M M' : Mh} {Q : QD} {p : Addr} {l r : List Int} {d e : D} {ds : List D} {i j : Int} {env : EnvD}
/-! lists, by their sight -/
def Vw (M : Mh) (d : D) (l : List Int) : Prop := view M d = .lst (il l) ∧ (d = .lst (il l) ∨ ∃ p, d = .ref p ∧ M p = some (.lst (il l)))
theorem Vw.L : Vw M (.lst (il l)) l := ⟨rfl, .inl rfl⟩
theorem Vw.C (h : M p = some (.lst (il l))) : Vw M (.ref p) l := ⟨by simp only [PD.view, h], .inr ⟨p, rfl, h⟩⟩
theorem Vw.keep (h : Vw M d l) (k : ∀ b, M b ≠ none → M' b = M b) : Vw M' d l := by
  rcases h.2 with rfl | ⟨p, rfl, hp⟩
  · exact .L
  · exact .C ((k p (by rw [hp]; simp)).trans hp)
theorem v_len (h : Vw M d l) (q : Q (.int l.length) M) : biD .len [d] M Q := by
  rcases h.2 with rfl | ⟨p, rfl, hp⟩
  · exact b_lenLi q
  · exact b_lenCi hp q
theorem v_ix (h : Vw M d l) (h0 : 0 ≤ i) (h1 : i < l.length) (q : Q (.int (gt l i)) M) : ixD d (.int i) M Q := by
  rcases h.2 with rfl | ⟨p, rfl, hp⟩
  · exact x_Li h0 h1 q
  · exact x_Ci hp h0 h1 q
/-! texts of data -/
def Shw (p : PyData) (n : Nat) : Prop := p.showable = true ∧ p.hasDict = false ∧ p.depth ≤ 20 ∧ p.shown.length ≤ n
theorem sh_none : Shw .none 10 := ⟨by simp [PyData.showable], by simp [PyData.hasDict], by simp [PyData.depth], by simp only [PyData.shown]; decide⟩
theorem sh_int (h : i.natAbs < 10 ^ 60) : (PyData.int i).showable = true ∧ (PyData.int i).shown.length ≤ 61 := by
  constructor
  · have : i.natAbs.log2 < 1920 := by
      have big : (10 : Nat) ^ 60 ≤ 2 ^ 200 := by decide
      by_cases h0 : i.natAbs = 0
      · rw [h0]; decide
      · have := (Nat.log2_lt h0 (k := 200)).mpr (Nat.lt_of_lt_of_le h big)
        omega
    simpa [PyData.showable] using this
  · simp only [PyData.shown]
    rw [PySem.ofString_length]
    exact int_text_length_le10 (by decide) h
theorem il_toPys : toPys (il l) = some (l.map PyData.int) := by
  unfold il
  induction l with
  | nil => rfl
  | cons x r ih =>
    show (match toPy (.int x), toPys (r.map D.int) with | some a, some b => some (a :: b) | _, _ => none) = _
    rw [ih]
    rfl
theorem toPy_lst : toPy (.lst (il l)) = some (.list (l.map PyData.int)) := by
  unfold toPy
  rw [il_toPys]
theorem toPy_tup : toPy (.tup (il l)) = some (.tuple (l.map PyData.int)) := by
  unfold toPy
  rw [il_toPys]
theorem show_ints (h : ∀ x ∈ l, x.natAbs < 10 ^ 60) : PyData.showableAll (l.map PyData.int) = true ∧ PyData.hasDictAll (l.map PyData.int) = false ∧ PyData.depthAll (l.map PyData.int) = 0 ∧ ((PyData.shownAll (l.map PyData.int)).map (·.length)).sum ≤ 61 * l.length ∧ (PyData.shownAll (l.map PyData.int)).length = l.length := by
  induction l with
  | nil => exact ⟨by simp [PyData.showableAll], by simp [PyData.hasDictAll], by simp [PyData.depthAll], by simp [PyData.shownAll], by simp [PyData.shownAll]⟩
  | cons x r ih =>
    obtain ⟨a, b, c, d, e⟩ := ih fun y hy => h y (List.mem_cons_of_mem _ hy)
    obtain ⟨s1, s2⟩ := sh_int (h x List.mem_cons_self)
    refine ⟨?_, ?_, ?_, ?_, ?_⟩
    · simp only [List.map_cons, PyData.showableAll, s1, a, Bool.and_self]
    · simp only [List.map_cons, PyData.hasDictAll, PyData.hasDict, b, Bool.or_self]
    · simp only [List.map_cons, PyData.depthAll, PyData.depth, c, Nat.max_self]
    · simp only [List.map_cons, PyData.shownAll, List.sum_cons, List.length_cons]
      omega
    · simp only [List.map_cons, PyData.shownAll, List.length_cons, e]
theorem sh_tup (h : ∀ x ∈ l, x.natAbs < 10 ^ 60) : Shw (.tuple (l.map PyData.int)) (63 * l.length + 3) := by
  obtain ⟨a, b, c, d, e⟩ := show_ints h
  refine ⟨by simpa [PyData.showable] using a, by simpa [PyData.hasDict] using b, by simp only [PyData.depth, c]; omega, ?_⟩
  have := tupleText_len_le (PyData.shownAll (l.map PyData.int))
  simp only [PyData.shown]
  omega
theorem sh_lst (h : ∀ x ∈ l, x.natAbs < 10 ^ 60) : Shw (.list (l.map PyData.int)) (63 * l.length + 3) := by
  obtain ⟨a, b, c, d, e⟩ := show_ints h
  refine ⟨by simpa [PyData.showable] using a, by simpa [PyData.hasDict] using b, by simp only [PyData.depth, c]; omega, ?_⟩
  have := listText_len_le (PyData.shownAll (l.map PyData.int))
  simp only [PyData.shown]
  omega
mutual
theorem toPyR_of : ∀ (d : D) {p : PyData}, toPy d = some p → toPyR d = some p
  | .non, _, h => h
  | .bl _, _, h => h
  | .int _, _, h => h
  | .str _, _, h => h
  | .tup l, p, h => by
    unfold toPy at h
    unfold toPyR
    cases e : toPys l with
    | none => rw [e] at h; cases h
    | some ds => rw [e] at h; rw [toPyRs_of l e]; exact h
  | .lst l, p, h => by
    unfold toPy at h
    unfold toPyR
    cases e : toPys l with
    | none => rw [e] at h; cases h
    | some ds => rw [e] at h; rw [toPyRs_of l e]; exact h
  | .dct _ _, _, h => by cases h
  | .ref _, _, h => by cases h
  | .con _, _, h => by cases h
  | .scr _, _, h => by cases h
theorem toPyRs_of : ∀ (l : List D) {ps : List PyData}, toPys l = some ps → toPyRs l = some ps
  | [], _, h => h
  | d :: r, ps, h => by
    unfold toPys at h
    unfold toPyRs
    cases e : toPy d with
    | none => rw [e] at h; cases h
    | some x =>
      cases e2 : toPys r with
      | none => rw [e, e2] at h; cases h
      | some xs => rw [e, e2] at h; rw [toPyR_of d e, toPyRs_of r e2]; exact h
end
/-- as Shw, dicts too -/
def Shx (p : PyData) (n : Nat) : Prop := p.showable = true ∧ p.depth ≤ 20 ∧ p.shown.length ≤ n
theorem Shw.x {p : PyData} {n : Nat} (h : Shw p n) : Shx p n := ⟨h.1, h.2.2.1, h.2.2.2⟩
theorem view_py {M : Mh} {d : D} {y : PyData} (h : toPyR d = some y) : toPyR (view M d) = some y := by
  cases d <;> first | exact h | cases h
theorem vs_py {M : Mh} : ∀ {l : List D} {ys : List PyData}, toPyRs l = some ys → toPyVs M l = some ys
  | [], _, h => h
  | d :: r, ys, h => by
    unfold toPyRs at h
    cases e1 : toPyR d with
    | none => rw [e1] at h; cases h
    | some x =>
      cases e2 : toPyRs r with
      | none => rw [e1, e2] at h; cases h
      | some xs =>
        rw [e1, e2] at h
        cases h
        unfold toPyVs
        rw [view_py e1, vs_py e2]
theorem m_py {M : Mh} {d : D} {y : PyData} (h : toPyR (view M d) = some y) : toPyM M d = some y := by
  unfold toPyM
  split
  · rename_i l e
    rw [e] at h
    unfold toPyR at h
    cases e2 : toPyRs l with
    | none => rw [e2] at h; cases h
    | some ds => rw [e2] at h; rw [vs_py e2]; exact h
  · rename_i l e
    rw [e] at h
    unfold toPyR at h
    cases e2 : toPyRs l with
    | none => rw [e2] at h; cases h
    | some ds => rw [e2] at h; rw [vs_py e2]; exact h
  · exact h
theorem b_reprM {y : PyData} {n : Nat} (h : toPyM M d = some y) (s : Shx y n) (hn : n ≤ 10000000) (q : Q (.str y.shown) M) : biD .repr [d] M Q := by
  unfold biD
  show match toPyM M d with | some p => (p.showable = true ∧ p.depth ≤ 40 ∧ p.shown.length ≤ sizeLine) ∧ Q (.str p.shown) M | none => False
  rw [h]
  obtain ⟨s1, s3, s4⟩ := s
  exact ⟨⟨s1, by omega, by rw [sizeLine_eq]; omega⟩, q⟩
theorem b_reprX {y : PyData} {n : Nat} (h : toPyR (view M d) = some y) (s : Shx y n) (hn : n ≤ 10000000) (q : Q (.str y.shown) M) : biD .repr [d] M Q := b_reprM (m_py h) s hn q
theorem b_repr {y : PyData} {n : Nat} (h : toPy (view M d) = some y) (s : Shw y n) (hn : n ≤ 1000000) (q : Q (.str y.shown) M) : biD .repr [d] M Q := b_reprX (toPyR_of _ h) s.x (by omega) q
/-! equality of data -/
theorem eqv_ints : ∀ {l r : List Int}, PyData.eqvAll (l.map PyData.int) (r.map PyData.int) = decide (l = r)
  | [], [] => by simp [PyData.eqvAll]
  | [], _ :: _ => by simp [PyData.eqvAll]
  | _ :: _, [] => by simp [PyData.eqvAll]
  | x :: l, y :: r => by
    rw [List.map_cons, List.map_cons, PyData.eqvAll, eqv_ints (l := l) (r := r)]
    by_cases h : x = y <;> simp [PyData.eqv, h]
theorem can_ints : PyData.canLayAll0 (l.map PyData.int) = true ∧ PyData.depthAll (l.map PyData.int) = 0 := by
  induction l with
  | nil => exact ⟨by simp [PyData.canLayAll0], by simp [PyData.depthAll]⟩
  | cons x r ih =>
    refine ⟨?_, ?_⟩
    · simp only [List.map_cons, PyData.canLayAll0, PyData.canLay0, ih.1, Bool.and_self]
    · simp only [List.map_cons, PyData.depthAll, PyData.depth, ih.2, Nat.max_self]
theorem shaped_lst : SeqAt.shaped (.list (l.map PyData.int)) = true := by
  unfold SeqAt.shaped
  simp only [PyData.canLay0, PyData.depth, can_ints.1, can_ints.2]
  decide
theorem shaped_tup : SeqAt.shaped (.tuple (l.map PyData.int)) = true := by
  unfold SeqAt.shaped
  simp only [PyData.canLay0, PyData.depth, can_ints.1, can_ints.2]
  decide
theorem c_eqL (h : view M d = .lst (il l)) (h' : view M e = .lst (il r)) (q : Q (.bl (decide (l = r))) M) : cmpD .Eq d e M Q := by
  unfold cmpD
  show eqQ false (view M d) (view M e) M Q
  rw [h, h']
  unfold eqQ
  show match toPy (.lst (il l)), toPy (.lst (il r)) with | some a, some b => SeqAt.shaped a = true ∧ SeqAt.shaped b = true ∧ Q (.bl (if false then !PyData.eqv a b else PyData.eqv a b)) M | _, _ => False
  rw [toPy_lst, toPy_lst]
  refine ⟨shaped_lst, shaped_lst, ?_⟩
  show Q (.bl (PyData.eqv (.list (l.map PyData.int)) (.list (r.map PyData.int)))) M
  rw [PyData.eqv, eqv_ints]
  exact q
theorem c_neL (h : view M d = .lst (il l)) (h' : view M e = .lst (il r)) (q : Q (.bl (!decide (l = r))) M) : cmpD .NotEq d e M Q := by
  unfold cmpD
  show eqQ true (view M d) (view M e) M Q
  rw [h, h']
  unfold eqQ
  show match toPy (.lst (il l)), toPy (.lst (il r)) with | some a, some b => SeqAt.shaped a = true ∧ SeqAt.shaped b = true ∧ Q (.bl (if true then !PyData.eqv a b else PyData.eqv a b)) M | _, _ => False
  rw [toPy_lst, toPy_lst]
  refine ⟨shaped_lst, shaped_lst, ?_⟩
  show Q (.bl (!PyData.eqv (.list (l.map PyData.int)) (.list (r.map PyData.int)))) M
  rw [PyData.eqv, eqv_ints]
  exact q
theorem c_eqT (q : Q (.bl (decide (l = r))) M) : cmpD .Eq (.tup (il l)) (.tup (il r)) M Q := by
  unfold cmpD
  show match toPy (.tup (il l)), toPy (.tup (il r)) with | some a, some b => SeqAt.shaped a = true ∧ SeqAt.shaped b = true ∧ Q (.bl (if false then !PyData.eqv a b else PyData.eqv a b)) M | _, _ => False
  rw [toPy_tup, toPy_tup]
  refine ⟨shaped_tup, shaped_tup, ?_⟩
  show Q (.bl (PyData.eqv (.tuple (l.map PyData.int)) (.tuple (r.map PyData.int)))) M
  rw [PyData.eqv, eqv_ints]
  exact q
theorem c_eqB {a b : Bool} (q : Q (.bl (decide (a = b))) M) : cmpD .Eq (.bl a) (.bl b) M Q := by unfold cmpD; exact q
theorem c_neB {a b : Bool} (q : Q (.bl (!decide (a = b))) M) : cmpD .NotEq (.bl a) (.bl b) M Q := by unfold cmpD; exact q
theorem c_neS {a b : Str} (q : Q (.bl (!decide (a = b))) M) : cmpD .NotEq (.str a) (.str b) M Q := by unfold cmpD; exact q
theorem c_eqS {a b : Str} (q : Q (.bl (decide (a = b))) M) : cmpD .Eq (.str a) (.str b) M Q := by unfold cmpD; exact q
theorem c_is (q : Q (.bl (isNon d)) M) : cmpD .Is d .non M Q := by unfold cmpD; exact q
theorem c_isn (q : Q (.bl (!isNon d)) M) : cmpD .IsNot d .non M Q := by unfold cmpD; exact q
theorem isi_any {t ty : String} {b : Bool} {k : D → Prop} (h : tyD d = some t) (h' : kitB t ty = some b) (q : k (.bl b)) : isiD d ty k := by
  unfold isiD
  show match tyD d with | some t => (match kitB t ty with | some b => k (.bl b) | none => False) | none => False
  rw [h]
  show match kitB t ty with | some b => k (.bl b) | none => False
  rw [h']
  exact q
theorem r_dn {k : List D → Prop} (h : -(2 ^ 62) ≤ i ∧ i < 2 ^ 62 ∧ -(2 ^ 62) ≤ j ∧ j < 2 ^ 62) (q : k (dnL i (i - j).toNat)) : rdnD (.int i) (.int j) k := by unfold rdnD; exact ⟨h, q⟩
theorem dnL_len {n : Nat} : (dnL i n).length = n := by unfold dnL; simp
theorem dnL_get {n k : Nat} (h : (dnL i n)[k]? = some d) : d = .int (i - k) ∧ k < n := by
  have hk : k < n := by rw [← dnL_len (i := i) (n := n)]; exact (List.getElem?_eq_some_iff.mp h).1
  unfold dnL at h
  rw [List.getElem?_map, List.getElem?_range hk] at h
  exact ⟨(Option.some.inj h).symm, hk⟩
theorem il_mem (h : d ∈ il l) : ∃ x, d = .int x ∧ x ∈ l := by
  unfold il at h
  obtain ⟨x, hx, rfl⟩ := List.mem_map.mp h
  exact ⟨x, rfl, hx⟩
theorem gt_mem (h0 : 0 ≤ i) (h : i < l.length) : gt l i ∈ l := by
  unfold gt
  have : i.toNat < l.length := by omega
  simp [List.getD, this]
/-- numbers[j] = v -/
theorem set_ci {v : Int} {Qm : Mh → Prop} {n : Nat} (h : M p = some (.lst (il l))) (hi : ixN l.length i = some n) (q : Qm (mset M p (.lst (il (l.set n v))))) : sixD (.ref p) (.int i) (.int v) M Qm := by
  unfold sixD
  simp only [h]
  rw [il_len, hi]
  show Qm (mset M p (.lst ((il l).set n (.int v))))
  have e : (il l).set n (.int v) = il (l.set n v) := by unfold il; rw [List.map_set]
  rw [e]; exact q
theorem b_lenS {l : List D} (q : Q (.int l.length) M) : biD .len [.scr l] M Q := by unfold biD; exact q
theorem x_S {l : List D} (h : atI l i = some d) (q : Q d M) : ixD (.scr l) (.int i) M Q := by
  unfold ixD
  simp only [view]
  rw [h]; exact q
end
end PD

namespace PD
open PySem PySem.Spec PyProof.Rows L2
/-! the drawing pen of the laws -/
def penC (c : List Int) (a f : Int) : Cell := .dct [.inr (Str.ofString "cells"), .inr (Str.ofString "at"), .inr (Str.ofString "left")] [.lst (il c), .int a, .int f]
def Pen (M : Mh) (p : Addr) (k : Nat) : Prop := ∃ c a f, M p = some (penC c a f) ∧ c.length ≤ 63 ∧ 0 ≤ a ∧ a + k ≤ 1000000000 ∧ 0 ≤ f
section
variable {M : Mh} {Q : QD} {p : Addr} {c : List Int} {a f v : Int} {Qm : Mh → Prop}
theorem pen_cells (h : M p = some (penC c a f)) (q : Q (.lst (il c)) M) : ixD (.ref p) (.str (Str.ofString "cells")) M Q := by
  unfold penC at h
  have e : lookK [.inr (Str.ofString "cells"), .inr (Str.ofString "at"), .inr (Str.ofString "left")] [.lst (il c), .int a, .int f] (.inr (Str.ofString "cells")) = some (.lst (il c)) := by
    simp only [lookK]; rw [if_pos trivial]
  unfold ixD
  simp only [view, h, keyD, e]
  exact q
theorem pen_at (h : M p = some (penC c a f)) (q : Q (.int a) M) : ixD (.ref p) (.str (Str.ofString "at")) M Q := by
  unfold penC at h
  have e : lookK [.inr (Str.ofString "cells"), .inr (Str.ofString "at"), .inr (Str.ofString "left")] [.lst (il c), .int a, .int f] (.inr (Str.ofString "at")) = some (.int a) := by
    simp only [lookK]; rw [if_neg (by decide), if_pos trivial]
  unfold ixD
  simp only [view, h, keyD, e]
  exact q
theorem pen_left (h : M p = some (penC c a f)) (q : Q (.int f) M) : ixD (.ref p) (.str (Str.ofString "left")) M Q := by
  unfold penC at h
  have e : lookK [.inr (Str.ofString "cells"), .inr (Str.ofString "at"), .inr (Str.ofString "left")] [.lst (il c), .int a, .int f] (.inr (Str.ofString "left")) = some (.int f) := by
    simp only [lookK]; rw [if_neg (by decide), if_neg (by decide), if_pos trivial]
  unfold ixD
  simp only [view, h, keyD, e]
  exact q
theorem pen_set_at (h : M p = some (penC c a f)) (q : Qm (mset M p (penC c v f))) : sixD (.ref p) (.str (Str.ofString "at")) (.int v) M Qm := by
  have h' := h
  unfold penC at h
  unfold sixD
  simp only [h, keyD]
  refine ⟨sz_lt (by show 3 < 1000000; decide), ?_⟩
  rw [if_pos (by decide)]
  simp only [setK]
  rw [if_neg (by decide), if_pos trivial, if_neg (by decide)]
  exact q
theorem pen_set_left (h : M p = some (penC c a f)) (q : Qm (mset M p (penC c a v))) : sixD (.ref p) (.str (Str.ofString "left")) (.int v) M Qm := by
  have h' := h
  unfold penC at h
  unfold sixD
  simp only [h, keyD]
  refine ⟨sz_lt (by show 3 < 1000000; decide), ?_⟩
  rw [if_pos (by decide)]
  simp only [setK]
  rw [if_neg (by decide), if_neg (by decide), if_pos trivial]
  exact q
end
/-- a number is drawn -/
def sp_draw : SpD := fun ds M X Q => ∃ p n k, ds = [.ref p, .int n] ∧ 0 < n ∧ n < 1073741824 ∧ Pen M p (k + 1) ∧ ∀ v M', 0 ≤ v → v < n → Pen M' p k → (∀ b, b ≠ p → M' b = M b) → Q (.int v) M'
/-- one of some is drawn -/
def sp_pick : SpD := fun ds M X Q => ∃ p l k, ds = [.ref p, .lst l] ∧ 0 < l.length ∧ l.length < 1000000 ∧ Pen M p (k + 1) ∧ ∀ d M', d ∈ l → Pen M' p k → (∀ b, b ≠ p → M' b = M b) → Q d M'
/-- a pen is made -/
def sp_pen : SpD := fun ds M X Q => ∃ ns : List Int, ns.length ≤ 63 ∧ ds = [.scr (ns.map .int)] ∧ ∀ p, M p = none → ∀ M', Pen M' p 1000000000 → (∀ b, b ≠ p → M' b = M b) → Q (.ref p) M'
theorem Pen.to {M : Mh} {p : Addr} {k j : Nat} (h : Pen M p k) (e : j ≤ k) : Pen M p j := by
  obtain ⟨c, a, f, h1, h2, h3, h4, h5⟩ := h
  exact ⟨c, a, f, h1, h2, h3, by omega, h5⟩
theorem Pen.keep {M M' : Mh} {p : Addr} {k : Nat} (h : Pen M p k) (e : M' p = M p) : Pen M' p k := by
  obtain ⟨c, a, f, h1, h2, h3, h4, h5⟩ := h
  exact ⟨c, a, f, e.trans h1, h2, h3, h4, h5⟩
theorem Pen.ne {M : Mh} {p q : Addr} {k : Nat} {l : List D} (h : Pen M p k) (e : M q = some (.lst l)) : q ≠ p := by
  obtain ⟨c, a, f, h1, _⟩ := h
  intro z
  rw [z, h1] at e
  unfold penC at e
  cases e
theorem pen_pow {b : Int} (h0 : 0 ≤ b) (h : b < 2 ^ 64) : CPow b 5 := ⟨by decide, by decide, by omega⟩
def primes : List Int := [2147483647, 2147483629, 2147483587, 2147483579, 2147483563, 2147483549, 2147483543, 2147483497, 2147483489, 2147483477, 2147483423, 2147483399, 2147483353, 2147483323, 2147483269]
theorem primes_pos {i : Int} (h0 : 0 ≤ i) (h1 : i < 15) : 0 < gt primes i ∧ gt primes i < 2 ^ 31 := by
  have : i = 0 ∨ i = 1 ∨ i = 2 ∨ i = 3 ∨ i = 4 ∨ i = 5 ∨ i = 6 ∨ i = 7 ∨ i = 8 ∨ i = 9 ∨ i = 10 ∨ i = 11 ∨ i = 12 ∨ i = 13 ∨ i = 14 := by omega
  rcases this with rfl | rfl | rfl | rfl | rfl | rfl | rfl | rfl | rfl | rfl | rfl | rfl | rfl | rfl | rfl <;> (unfold gt; decide)
theorem x_P {M : Mh} {Q : QD} {i : Int} (h0 : 0 ≤ i) (h1 : i < 15) (q : Q (.int (gt primes i)) M) : ixD (.lst (([2147483647, 2147483629, 2147483587, 2147483579, 2147483563, 2147483549].map D.int ++ [2147483543, 2147483497, 2147483489, 2147483477, 2147483423].map D.int) ++ [2147483399, 2147483353, 2147483323, 2147483269].map D.int)) (.int i) M Q := x_Li (l := primes) h0 h1 q

abbrev b_draw : Ss :=
    .cons (.ite (.cmp .GtE (.ix (.v 0) (.k (.str (Str.ofString "left")))) (.bin .Pow (.k (.int 10)) (.k (.int 9)))) (.cons (.set (.nm 2) (.bin .Mod (.ix (.v 0) (.k (.str (Str.ofString "left")))) (.v 1))) <|
    .cons (.six (.v 0) (.k (.str (Str.ofString "left"))) (.bin .FloorDiv (.ix (.v 0) (.k (.str (Str.ofString "left")))) (.v 1))) <|
    .cons (.ret (.v 2)) <|
    .nil) (.nil)) <|
    .cons (.set (.nm 3) (.ix (.v 0) (.k (.str (Str.ofString "at"))))) <|
    .cons (.six (.v 0) (.k (.str (Str.ofString "at"))) (.bin .Add (.v 3) (.k (.int 1)))) <|
    .cons (.set (.nm 4) (.bin .Add (.bin .Mult (.k (.int 40503)) (.v 3)) (.k (.int 77)))) <|
    .cons (.ite (.cmp .Gt (.bi .len (.cons (.ix (.v 0) (.k (.str (Str.ofString "cells")))) .nil)) (.k (.int 0))) (.cons (.set (.nm 4) (.ix (.ix (.v 0) (.k (.str (Str.ofString "cells")))) (.bin .Mod (.v 3) (.bi .len (.cons (.ix (.v 0) (.k (.str (Str.ofString "cells")))) .nil))))) <|
    .nil) (.nil)) <|
    .cons (.ite (.bop true (.cons (.cmp .Lt (.v 3) (.bi .len (.cons (.ix (.v 0) (.k (.str (Str.ofString "cells")))) .nil))) (.cons (.cmp .GtE (.bi .abs (.cons (.v 4) .nil)) (.bin .Pow (.k (.int 10)) (.k (.int 18)))) .nil))) (.cons (.six (.v 0) (.k (.str (Str.ofString "left"))) (.bin .FloorDiv (.bi .abs (.cons (.v 4) .nil)) (.v 1))) <|
    .cons (.ret (.bin .Mod (.bi .abs (.cons (.v 4) .nil)) (.v 1))) <|
    .nil) (.nil)) <|
    .cons (.set (.nm 5) (.fr (.lst (.cons (.k (.int 2147483647)) (.cons (.k (.int 2147483629)) (.cons (.k (.int 2147483587)) (.cons (.k (.int 2147483579)) (.cons (.k (.int 2147483563)) (.cons (.k (.int 2147483549)) .nil))))))))) <|
    .cons (.set (.nm 5) (.bin .Add (.v 5) (.fr (.lst (.cons (.k (.int 2147483543)) (.cons (.k (.int 2147483497)) (.cons (.k (.int 2147483489)) (.cons (.k (.int 2147483477)) (.cons (.k (.int 2147483423)) .nil))))))))) <|
    .cons (.set (.nm 5) (.bin .Add (.v 5) (.fr (.lst (.cons (.k (.int 2147483399)) (.cons (.k (.int 2147483353)) (.cons (.k (.int 2147483323)) (.cons (.k (.int 2147483269)) .nil)))))))) <|
    .cons (.set (.nm 6) (.bin .Mod (.bin .Pow (.bin .Add (.bin .Add (.bin .Mod (.v 4) (.k (.int 2147483647))) (.bin .Mult (.k (.int 7919)) (.v 3))) (.k (.int 1))) (.k (.int 5))) (.ix (.v 5) (.bin .Mod (.v 3) (.k (.int 15)))))) <|
    .cons (.set (.nm 6) (.bin .Mod (.bin .Add (.bin .Mult (.v 6) (.bin .Add (.bin .Mod (.v 6) (.k (.int 65521))) (.k (.int 3)))) (.v 3)) (.ix (.v 5) (.bin .Mod (.bin .Add (.v 3) (.k (.int 7))) (.k (.int 15)))))) <|
    .cons (.ret (.bin .Mod (.bin .FloorDiv (.v 6) (.k (.int 64))) (.v 1))) <|
    .nil
theorem draw_ok {G : Nat → SpD} {C : Nat → D} (as : List D) (M : Mh) (X : XD) (Q : QD) (h : sp_draw as M X Q) : wpSs G C b_draw (startD 7 as) M (endsF Q X) := by
  obtain ⟨p, n, k, rfl, h1, h2, hp, q⟩ := h
  have hp' := hp
  unfold Pen at hp
  obtain ⟨c, a, f, hM, hc, ha, hk, hf⟩ := hp
  have mk : ∀ (M' : Mh) (a' f' : Int), M' p = some (penC c a' f') → a ≤ a' → a' ≤ a + 1 → 0 ≤ f' → (∀ b, b ≠ p → M' b = M b) → ∀ v, 0 ≤ v → v < n → Q (.int v) M' := by
    intro M' a' f' e e1 e2 e3 e4 v e5 e6
    refine q v M' e5 e6 ?_ e4
    unfold Pen
    exact ⟨c, a', f', e, hc, by omega, by omega, e3⟩
  refine pen_left hM ?_
  refine And.intro ⟨by decide, by decide, by decide⟩ ?_
  refine c_ge ?_
  refine if_d (fun _ => ?_) (fun _ => ?_)
  · refine pen_left hM ?_
    refine And.intro h1 ?_
    refine pen_left hM ?_
    refine And.intro (dv h1 h2) ?_
    refine pen_set_left hM ?_
    refine mk _ a (f / n) mset_same (Int.le_refl _) (by omega) (Int.ediv_nonneg hf (by omega)) (fun b hb => mset_ne hb) _ (Int.emod_nonneg _ (by omega)) (Int.emod_lt_of_pos _ h1)
  · refine pen_at hM ?_
    refine pen_set_at hM ?_
    have hM1 : mset M p (penC c (a + 1) f) p = some (penC c (a + 1) f) := mset_same
    have key : ∀ (cell : Int) (M1 : Mh), M1 p = some (penC c (a + 1) f) → (∀ b, b ≠ p → M1 b = M b) → ∀ E : EnvD, E = [some (.ref p), some (.int n), none, some (.int a), some (.int cell), none, none] → wpSs G C
        (.cons (.ite (.bop true (.cons (.cmp .Lt (.v 3) (.bi .len (.cons (.ix (.v 0) (.k (.str (Str.ofString "cells")))) .nil))) (.cons (.cmp .GtE (.bi .abs (.cons (.v 4) .nil)) (.bin .Pow (.k (.int 10)) (.k (.int 18)))) .nil))) (.cons (.six (.v 0) (.k (.str (Str.ofString "left"))) (.bin .FloorDiv (.bi .abs (.cons (.v 4) .nil)) (.v 1))) <|
    .cons (.ret (.bin .Mod (.bi .abs (.cons (.v 4) .nil)) (.v 1))) <|
    .nil) (.nil)) <|
    .cons (.set (.nm 5) (.fr (.lst (.cons (.k (.int 2147483647)) (.cons (.k (.int 2147483629)) (.cons (.k (.int 2147483587)) (.cons (.k (.int 2147483579)) (.cons (.k (.int 2147483563)) (.cons (.k (.int 2147483549)) .nil))))))))) <|
    .cons (.set (.nm 5) (.bin .Add (.v 5) (.fr (.lst (.cons (.k (.int 2147483543)) (.cons (.k (.int 2147483497)) (.cons (.k (.int 2147483489)) (.cons (.k (.int 2147483477)) (.cons (.k (.int 2147483423)) .nil))))))))) <|
    .cons (.set (.nm 5) (.bin .Add (.v 5) (.fr (.lst (.cons (.k (.int 2147483399)) (.cons (.k (.int 2147483353)) (.cons (.k (.int 2147483323)) (.cons (.k (.int 2147483269)) .nil)))))))) <|
    .cons (.set (.nm 6) (.bin .Mod (.bin .Pow (.bin .Add (.bin .Add (.bin .Mod (.v 4) (.k (.int 2147483647))) (.bin .Mult (.k (.int 7919)) (.v 3))) (.k (.int 1))) (.k (.int 5))) (.ix (.v 5) (.bin .Mod (.v 3) (.k (.int 15)))))) <|
    .cons (.set (.nm 6) (.bin .Mod (.bin .Add (.bin .Mult (.v 6) (.bin .Add (.bin .Mod (.v 6) (.k (.int 65521))) (.k (.int 3)))) (.v 3)) (.ix (.v 5) (.bin .Mod (.bin .Add (.v 3) (.k (.int 7))) (.k (.int 15)))))) <|
    .cons (.ret (.bin .Mod (.bin .FloorDiv (.v 6) (.k (.int 64))) (.v 1))) <|
    .nil) E M1 (endsF Q X) := by
      intro cell M1 hM1 hfr E hE
      subst hE
      have rest : wpSs G C (.cons (.set (.nm 5) (.fr (.lst (.cons (.k (.int 2147483647)) (.cons (.k (.int 2147483629)) (.cons (.k (.int 2147483587)) (.cons (.k (.int 2147483579)) (.cons (.k (.int 2147483563)) (.cons (.k (.int 2147483549)) .nil))))))))) <|
    .cons (.set (.nm 5) (.bin .Add (.v 5) (.fr (.lst (.cons (.k (.int 2147483543)) (.cons (.k (.int 2147483497)) (.cons (.k (.int 2147483489)) (.cons (.k (.int 2147483477)) (.cons (.k (.int 2147483423)) .nil))))))))) <|
    .cons (.set (.nm 5) (.bin .Add (.v 5) (.fr (.lst (.cons (.k (.int 2147483399)) (.cons (.k (.int 2147483353)) (.cons (.k (.int 2147483323)) (.cons (.k (.int 2147483269)) .nil)))))))) <|
    .cons (.set (.nm 6) (.bin .Mod (.bin .Pow (.bin .Add (.bin .Add (.bin .Mod (.v 4) (.k (.int 2147483647))) (.bin .Mult (.k (.int 7919)) (.v 3))) (.k (.int 1))) (.k (.int 5))) (.ix (.v 5) (.bin .Mod (.v 3) (.k (.int 15)))))) <|
    .cons (.set (.nm 6) (.bin .Mod (.bin .Add (.bin .Mult (.v 6) (.bin .Add (.bin .Mod (.v 6) (.k (.int 65521))) (.k (.int 3)))) (.v 3)) (.ix (.v 5) (.bin .Mod (.bin .Add (.v 3) (.k (.int 7))) (.k (.int 15)))))) <|
    .cons (.ret (.bin .Mod (.bin .FloorDiv (.v 6) (.k (.int 64))) (.v 1))) <|
    .nil) [some (.ref p), some (.int n), none, some (.int a), some (.int cell), none, none] M1 (endsF Q X) := by
        have m15 : 0 ≤ a % 15 ∧ a % 15 < 15 := by omega
        have n15 : 0 ≤ (a + 7) % 15 ∧ (a + 7) % 15 < 15 := by omega
        refine And.intro (sz_le (by decide)) ?_
        refine And.intro (sz_le (by decide)) ?_
        refine And.intro (sz_le (by decide)) ?_
        refine And.intro (sz_le (by decide)) ?_
        refine And.intro (sz_le (by decide)) ?_
        refine And.intro (by decide) ?_
        refine And.intro (ml (by decide) (by decide)) ?_
        refine And.intro (pen_pow (by omega) (by omega)) ?_
        refine And.intro (by decide) ?_
        refine x_P m15.1 m15.2 ?_
        obtain ⟨p1, p2⟩ := primes_pos m15.1 m15.2
        refine And.intro p1 ?_
        have b0 := Int.emod_nonneg ((cell % 2147483647 + 7919 * a + 1) ^ 5) (show gt primes (a % 15) ≠ 0 by omega)
        have b1 := Int.emod_lt_of_pos ((cell % 2147483647 + 7919 * a + 1) ^ 5) p1
        refine And.intro (by decide) ?_
        refine And.intro (ml (by show -(2 ^ 64) < _; exact Int.lt_of_lt_of_le (by decide) b0) (by exact Int.lt_trans b1 (by omega))) ?_
        refine And.intro (by decide) ?_
        refine x_P n15.1 n15.2 ?_
        obtain ⟨r1, r2⟩ := primes_pos n15.1 n15.2
        refine And.intro r1 ?_
        refine And.intro (dv (by decide) (by decide)) ?_
        refine And.intro h1 ?_
        exact mk _ (a + 1) f hM1 (by omega) (Int.le_refl _) hf hfr _ (Int.emod_nonneg _ (by omega)) (Int.emod_lt_of_pos _ h1)
      refine pen_cells hM1 ?_
      refine b_lenLi ?_
      refine c_lt ?_
      refine and_t (fun _ => ?_) (fun _ => ?_)
      · refine b_abs ?_
        refine And.intro ⟨by decide, by decide, by decide⟩ ?_
        refine c_ge ?_
        refine if_d (fun _ => ?_) (fun _ => ?_)
        · refine b_abs ?_
          refine And.intro (dv h1 h2) ?_
          refine pen_set_left hM1 ?_
          refine b_abs ?_
          refine And.intro h1 ?_
          exact mk _ (a + 1) ((cell.natAbs : Int) / n) mset_same (by omega) (Int.le_refl _) (Int.ediv_nonneg (by omega) (by omega)) (fun b hb => (mset_ne hb).trans (hfr b hb)) _ (Int.emod_nonneg _ (by omega)) (Int.emod_lt_of_pos _ h1)
        · exact rest
      · refine if_b (fun e => ?_) (fun _ => rest)
        exact absurd e (by assumption)
    refine And.intro (ml (by decide) (by decide)) ?_
    refine pen_cells hM1 ?_
    refine b_lenLi ?_
    refine c_gt ?_
    refine if_d (fun hc0 => ?_) (fun _ => ?_)
    · refine pen_cells hM1 ?_
      refine pen_cells hM1 ?_
      refine b_lenLi ?_
      refine And.intro hc0 ?_
      refine x_Li (Int.emod_nonneg _ (by omega)) (Int.emod_lt_of_pos _ hc0) ?_
      exact key _ _ hM1 (fun b hb => mset_ne hb) _ rfl
    · exact key _ _ hM1 (fun b hb => mset_ne hb) _ rfl
abbrev b_pick : Ss :=
    .cons (.ret (.ix (.v 1) (.call 0 (.cons (.v 0) (.cons (.bi .len (.cons (.v 1) .nil)) .nil))))) <|
    .nil
theorem pick_ok {C : Nat → D} (as : List D) (M : Mh) (X : XD) (Q : QD) (h : sp_pick as M X Q) : wpSs (tabG [sp_draw]) C b_pick (startD 2 as) M (endsF Q X) := by
  obtain ⟨p, l, k, rfl, h1, h2, hp, q⟩ := h
  refine b_lenL ?_
  refine ⟨p, _, k, rfl, by omega, by omega, hp, fun v M' v0 v1 hp' hf => ?_⟩
  obtain ⟨d, hd, ea⟩ := at_mem (ds := l) v0 (by omega)
  exact x_L ea (q d M' hd hp' hf)
abbrev b_pen : Ss :=
    .cons (.ret (.dce [.inr (Str.ofString "cells"), .inr (Str.ofString "at"), .inr (Str.ofString "left")] (.cons (.fr (.lof (.sl (.v 0) (.nil) (.cons (.k (.int 63)) .nil)))) (.cons (.k (.int 0)) (.cons (.k (.int 0)) .nil))))) <|
    .nil
theorem pen_ok {G : Nat → SpD} {C : Nat → D} (as : List D) (M : Mh) (X : XD) (Q : QD) (h : sp_pen as M X Q) : wpSs G C b_pen (startD 1 as) M (endsF Q X) := by
  obtain ⟨ns, h1, rfl, q⟩ := h
  refine sl_scr (by decide) ?_
  refine lof_L ?_
  intro p hp
  refine q p hp _ ?_ (fun b hb => mset_ne hb)
  unfold Pen
  refine ⟨ns.take (Int.toNat 63), 0, 0, ?_, ?_, by decide, by decide, by decide⟩
  · unfold penC
    exact mset_same
  · rw [List.length_take]; omega
end PD

namespace PD
open PySem PySem.Spec PyProof.Rows L2
/-! curves -/
def cvD (a b : List Int) (r : Int) : D := .tup [.tup (il a), .tup (il b), .int r]
def val (a b : List Int) (r t : Int) : Int := if t < a.length then gt a t else gt b ((t - a.length) % b.length) + r * ((t - a.length) / b.length)
def Cv (a b : List Int) (r : Int) : Prop := a.length ≤ 24 ∧ 1 ≤ b.length ∧ b.length ≤ 12 ∧ -(2 ^ 40) < r ∧ r < 2 ^ 40 ∧ gt (a ++ b) 0 = 0
theorem val_lo {a b : List Int} {r t : Int} (h : t < a.length) : val a b r t = gt a t := if_pos h
theorem val_hi {a b : List Int} {r t : Int} (h : ¬ t < a.length) : val a b r t = gt b ((t - a.length) % b.length) + r * ((t - a.length) / b.length) := if_neg h
theorem val_more {a b : List Int} {r x : Int} (hb : 0 < b.length) (h : ¬ x < a.length) (m : Int) (hm : 0 ≤ m) : val a b r (x + m * b.length) = val a b r x + r * m := by
  have h0 : 0 ≤ m * b.length := Int.mul_nonneg hm (by omega)
  rw [val_hi h, val_hi (by omega), show x + m * b.length - a.length = (x - a.length) + m * b.length by omega, Int.add_mul_emod_self_right, Int.add_mul_ediv_right _ _ (by omega), Int.mul_add]
  omega
theorem gt_get {l : List Int} {n : Nat} (h : n < l.length) : gt l n = l[n] := by
  unfold gt
  rw [Int.toNat_natCast]
  simp [h]
theorem gt_app_lo {a b : List Int} {i : Int} (h0 : 0 ≤ i) (h : i < a.length) : gt (a ++ b) i = gt a i := by
  obtain ⟨n, rfl⟩ : ∃ n : Nat, i = n := ⟨i.toNat, by omega⟩
  rw [gt_get (by rw [List.length_append]; omega), gt_get (by omega), List.getElem_append_left]
theorem gt_app_hi {a b : List Int} {i : Int} (h : (a.length : Int) ≤ i) (h2 : i < a.length + b.length) : gt (a ++ b) i = gt b (i - a.length) := by
  obtain ⟨n, rfl⟩ : ∃ n : Nat, i = n := ⟨i.toNat, by omega⟩
  rw [show (n : Int) - a.length = ((n - a.length : Nat) : Int) by omega, gt_get (by rw [List.length_append]; omega), gt_get (by omega), List.getElem_append_right (by omega)]
theorem gt_take {l : List Int} {n : Nat} {i : Int} (h0 : 0 ≤ i) (h : i < n) (h2 : n ≤ l.length) : gt (l.take n) i = gt l i := by
  obtain ⟨m, rfl⟩ : ∃ m : Nat, i = m := ⟨i.toNat, by omega⟩
  rw [gt_get (by rw [List.length_take]; omega), gt_get (by omega), List.getElem_take]
theorem gt_drop {l : List Int} {n : Nat} {i : Int} (h0 : 0 ≤ i) (h : i + n < l.length) : gt (l.drop n) i = gt l (n + i) := by
  obtain ⟨m, rfl⟩ : ∃ m : Nat, i = m := ⟨i.toNat, by omega⟩
  rw [show (n : Int) + m = ((n + m : Nat) : Int) by omega, gt_get (by rw [List.length_drop]; omega), gt_get (by omega), List.getElem_drop]
theorem gt_map {f : Nat → Int} {n : Nat} {i : Int} (h0 : 0 ≤ i) (h : i < n) : gt ((List.range n).map f) i = f i.toNat := by
  obtain ⟨m, rfl⟩ : ∃ m : Nat, i = m := ⟨i.toNat, by omega⟩
  rw [gt_get (by simp; omega)]
  simp
/-- the numbers of the first turns -/
def vals (a b : List Int) (r : Int) (n : Nat) : List Int := (List.range n).map fun (k : Nat) => val a b r k
theorem vals_len {a b : List Int} {r : Int} {n : Nat} : (vals a b r n).length = n := by unfold vals; simp
theorem vals_get {a b : List Int} {r : Int} {n : Nat} {i : Int} (h0 : 0 ≤ i) (h : i < n) : gt (vals a b r n) i = val a b r i := by
  unfold vals
  rw [gt_map h0 h, show ((i.toNat : Nat) : Int) = i by omega]
theorem vals_succ {a b : List Int} {r : Int} {n : Nat} : vals a b r (n + 1) = vals a b r n ++ [val a b r n] := by
  unfold vals
  rw [List.range_succ, List.map_append]
  rfl
theorem vals_base {a b : List Int} {r : Int} (hb : 0 < b.length) : a ++ b = vals a b r (a.length + b.length) := by
  apply List.ext_getElem
  · rw [vals_len, List.length_append]
  · intro i h1 h2
    rw [List.length_append] at h1
    rw [← gt_get (l := a ++ b) (by rw [List.length_append]; exact h1), ← gt_get (l := vals a b r _) h2, vals_get (by omega) (by omega)]
    by_cases h : (i : Int) < a.length
    · rw [gt_app_lo (by omega) h, val_lo h]
    · rw [gt_app_hi (by omega) (by omega), val_hi h, Int.emod_eq_of_lt (by omega) (by omega), Int.ediv_eq_zero_of_lt (by omega) (by omega), Int.mul_zero, Int.add_zero]
/-- one form and another one -/
theorem other_form {a b : List Int} {r : Int} {n m : Nat} (hb : 0 < b.length) (hn : a.length ≤ n) (hm : 0 < m) : ∀ t : Int, 0 ≤ t →
    val ((vals a b r (n + m * b.length)).take n) ((vals a b r (n + m * b.length)).drop n) (m * r) t = val a b r t := by
  intro t ht
  have hmb : 0 < m * b.length := Nat.mul_pos hm hb
  have l1 : ((vals a b r (n + m * b.length)).take n).length = n := by rw [List.length_take, vals_len]; omega
  have l2 : ((vals a b r (n + m * b.length)).drop n).length = m * b.length := by rw [List.length_drop, vals_len]; omega
  by_cases h : t < n
  · rw [val_lo (by rw [l1]; exact h), gt_take ht h (by rw [vals_len]; omega), vals_get ht (by omega)]
  · rw [val_hi (by rw [l1]; exact h), l1, l2]
    have hp : (0 : Int) < ((m * b.length : Nat) : Int) := by omega
    have e0 := Int.emod_nonneg (t - n) (show ((m * b.length : Nat) : Int) ≠ 0 by omega)
    have e1 := Int.emod_lt_of_pos (t - n) hp
    have e2 := Int.mul_ediv_add_emod (t - n) ((m * b.length : Nat) : Int)
    have e3 : 0 ≤ (t - n) / ((m * b.length : Nat) : Int) := Int.ediv_nonneg (by omega) (by omega)
    rw [gt_drop e0 (by rw [vals_len]; omega), vals_get (by omega) (by omega)]
    generalize (t - n) / ((m * b.length : Nat) : Int) = q at *
    generalize (t - n) % ((m * b.length : Nat) : Int) = s at *
    have key := val_more (a := a) (b := b) (r := r) (x := n + s) hb (by omega) (m * q) (Int.mul_nonneg (by omega) e3)
    have et : t = n + s + m * q * b.length := by
      have : ((m * b.length : Nat) : Int) * q = m * q * b.length := by
        rw [Int.natCast_mul, Int.mul_assoc, Int.mul_comm (b.length : Int) q, ← Int.mul_assoc]
      omega
    rw [et, key]
    congr 1
    rw [Int.mul_comm (m : Int) r, Int.mul_assoc]
def sp_value : SpD := fun ds M X Q => ∃ a b r t, ds = [cvD a b r, .int t] ∧ 0 ≤ t ∧ 0 < b.length ∧ b.length < 1000000 ∧ -(2 ^ 60) < r ∧ r < 2 ^ 60 ∧ Q (.int (val a b r t)) M

abbrev b_val : Ss :=
    .cons (.set (.tp [2, 3, 4]) (.v 0)) <|
    .cons (.ite (.cmp .Lt (.v 1) (.bi .len (.cons (.v 2) .nil))) (.cons (.ret (.ix (.v 2) (.v 1))) <|
    .nil) (.nil)) <|
    .cons (.set (.nm 5) (.bin .Sub (.v 1) (.bi .len (.cons (.v 2) .nil)))) <|
    .cons (.ret (.bin .Add (.ix (.v 3) (.bin .Mod (.v 5) (.bi .len (.cons (.v 3) .nil)))) (.bin .Mult (.v 4) (.bin .FloorDiv (.v 5) (.bi .len (.cons (.v 3) .nil)))))) <|
    .nil
theorem value_ok {G : Nat → SpD} {C : Nat → D} (as : List D) (M : Mh) (X : XD) (Q : QD) (h : sp_value as M X Q) : wpSs G C b_val (startD 6 as) M (endsF Q X) := by
  obtain ⟨a, b, r, t, rfl, h1, h2, h3, h4, h5, q⟩ := h
  refine b_lenTi ?_
  refine c_lt ?_
  refine if_d (fun h => ?_) (fun h => ?_)
  · rw [val_lo h] at q
    exact x_Ti h1 h q
  · rw [val_hi h] at q
    have hb : (0 : Int) < b.length := by omega
    refine b_lenTi ?_
    refine b_lenTi ?_
    refine And.intro hb ?_
    refine x_Ti (Int.emod_nonneg _ (by omega)) (Int.emod_lt_of_pos _ hb) ?_
    refine b_lenTi ?_
    refine And.intro (dv hb (by omega)) ?_
    refine And.intro (ml (by omega) (by omega)) ?_
    exact q
abbrev b_at : Ss :=
    .cons (.set (.tp [2, 3, 4]) (.v 0)) <|
    .cons (.ite (.cmp .Lt (.v 1) (.bi .len (.cons (.v 2) .nil))) (.cons (.ret (.ix (.v 2) (.v 1))) <|
    .nil) (.nil)) <|
    .cons (.set (.tp [5, 6]) (.bi .divmod (.cons (.bin .Sub (.v 1) (.bi .len (.cons (.v 2) .nil))) (.cons (.bi .len (.cons (.v 3) .nil)) .nil)))) <|
    .cons (.ret (.bin .Add (.ix (.v 3) (.v 6)) (.bin .Mult (.v 5) (.v 4)))) <|
    .nil
theorem at_ok {G : Nat → SpD} {C : Nat → D} (as : List D) (M : Mh) (X : XD) (Q : QD) (h : sp_value as M X Q) : wpSs G C b_at (startD 7 as) M (endsF Q X) := by
  obtain ⟨a, b, r, t, rfl, h1, h2, h3, h4, h5, q⟩ := h
  refine b_lenTi ?_
  refine c_lt ?_
  refine if_d (fun h => ?_) (fun h => ?_)
  · rw [val_lo h] at q
    exact x_Ti h1 h q
  · rw [val_hi h] at q
    have hb : (0 : Int) < b.length := by omega
    refine b_lenTi ?_
    refine b_lenTi ?_
    refine b_divmod ⟨hb, by omega⟩ ?_
    refine x_Ti (Int.emod_nonneg _ (by omega)) (Int.emod_lt_of_pos _ hb) ?_
    refine And.intro (mr (by omega) (by omega)) ?_
    rw [Int.mul_comm] at q
    exact q
/-- the same, of a rise of any size, at turns that are not too far -/
def sp_valueW : SpD := fun ds M X Q => ∃ a b r t, ds = [cvD a b r, .int t] ∧ 0 ≤ t ∧ 0 < b.length ∧ b.length < 1000000 ∧ -(2 ^ 60) < t ∧ t < 2 ^ 60 ∧ Q (.int (val a b r t)) M
theorem value_okW {G : Nat → SpD} {C : Nat → D} (as : List D) (M : Mh) (X : XD) (Q : QD) (h : sp_valueW as M X Q) : wpSs G C b_val (startD 6 as) M (endsF Q X) := by
  obtain ⟨a, b, r, t, rfl, h1, h2, h3, h4, h5, q⟩ := h
  refine b_lenTi ?_
  refine c_lt ?_
  refine if_d (fun h => ?_) (fun h => ?_)
  · rw [val_lo h] at q
    exact x_Ti h1 h q
  · rw [val_hi h] at q
    have hb : (0 : Int) < b.length := by omega
    have q0 : 0 ≤ (t - (a.length : Int)) / b.length := Int.ediv_nonneg (by omega) (by omega)
    have q1 : (t - (a.length : Int)) / b.length ≤ t - a.length := Int.ediv_le_self _ (by omega)
    refine b_lenTi ?_
    refine b_lenTi ?_
    refine And.intro hb ?_
    refine x_Ti (Int.emod_nonneg _ (by omega)) (Int.emod_lt_of_pos _ hb) ?_
    refine b_lenTi ?_
    refine And.intro (dv hb (by omega)) ?_
    refine And.intro (mr (by omega) (by omega)) ?_
    exact q
theorem at_okW {G : Nat → SpD} {C : Nat → D} (as : List D) (M : Mh) (X : XD) (Q : QD) (h : sp_valueW as M X Q) : wpSs G C b_at (startD 7 as) M (endsF Q X) := by
  obtain ⟨a, b, r, t, rfl, h1, h2, h3, h4, h5, q⟩ := h
  refine b_lenTi ?_
  refine c_lt ?_
  refine if_d (fun h => ?_) (fun h => ?_)
  · rw [val_lo h] at q
    exact x_Ti h1 h q
  · rw [val_hi h] at q
    have hb : (0 : Int) < b.length := by omega
    have q0 : 0 ≤ (t - (a.length : Int)) / b.length := Int.ediv_nonneg (by omega) (by omega)
    have q1 : (t - (a.length : Int)) / b.length ≤ t - a.length := Int.ediv_le_self _ (by omega)
    refine b_lenTi ?_
    refine b_lenTi ?_
    refine b_divmod ⟨hb, by omega⟩ ?_
    refine x_Ti (Int.emod_nonneg _ (by omega)) (Int.emod_lt_of_pos _ hb) ?_
    refine And.intro (ml (by omega) (by omega)) ?_
    rw [Int.mul_comm] at q
    exact q
end PD

namespace PD
open PySem PySem.Spec PyProof.Rows L2
/-! the drawing pen that is a list -/
def lpC (ns : List Int) (a f : Int) : Cell := .lst [.scr (ns.map .int), .int a, .int f]
@[irreducible] def PenL (M : Mh) (p : Addr) (k : Nat) : Prop := ∃ ns a f, M p = some (lpC ns a f) ∧ ns.length ≤ 63 ∧ 0 ≤ a ∧ a + k ≤ 10000000 ∧ 0 ≤ f
section
variable {M : Mh} {Q : QD} {p : Addr} {ns : List Int} {a f v : Int} {Qm : Mh → Prop}
theorem lp_0 (h : M p = some (lpC ns a f)) (q : Q (.scr (ns.map .int)) M) : ixD (.ref p) (.int 0) M Q := x_C h (at_pos (n := 0) rfl rfl) q
theorem lp_1 (h : M p = some (lpC ns a f)) (q : Q (.int a) M) : ixD (.ref p) (.int 1) M Q := x_C h (at_pos (n := 1) rfl rfl) q
theorem lp_2 (h : M p = some (lpC ns a f)) (q : Q (.int f) M) : ixD (.ref p) (.int 2) M Q := x_C h (at_pos (n := 2) rfl rfl) q
theorem lp_s1 (h : M p = some (lpC ns a f)) (q : Qm (mset M p (lpC ns v f))) : sixD (.ref p) (.int 1) (.int v) M Qm := by
  unfold sixD
  unfold lpC at h
  simp only [h]
  have e : ixN [D.scr (ns.map .int), D.int a, D.int f].length 1 = some 1 := rfl
  rw [e]
  exact q
theorem lp_s2 (h : M p = some (lpC ns a f)) (q : Qm (mset M p (lpC ns a v))) : sixD (.ref p) (.int 2) (.int v) M Qm := by
  unfold sixD
  unfold lpC at h
  simp only [h]
  have e : ixN [D.scr (ns.map .int), D.int a, D.int f].length 2 = some 2 := rfl
  rw [e]
  exact q
end
/-- a number is drawn -/
def sp_drawL : SpD := fun ds M X Q => ∃ p n k, ds = [.ref p, .int n] ∧ 0 < n ∧ n.natAbs.log2 < 9000 ∧ PenL M p (k + 1) ∧ ∀ v M', 0 ≤ v → v < n → PenL M' p k → (∀ b, b ≠ p → M' b = M b) → Q (.int v) M'
def sp_penL : SpD := fun ds M X Q => ∃ ns : List Int, ns.length ≤ 63 ∧ ds = [.scr (ns.map .int)] ∧ ∀ p, M p = none → ∀ M', PenL M' p 10000000 → (∀ b, b ≠ p → M' b = M b) → Q (.ref p) M'
theorem PenL.to {M : Mh} {p : Addr} {k j : Nat} (h : PenL M p k) (e : j ≤ k) : PenL M p j := by
  unfold PenL at h ⊢
  obtain ⟨c, a, f, h1, h2, h3, h4, h5⟩ := h
  exact ⟨c, a, f, h1, h2, h3, by omega, h5⟩
theorem PenL.keep {M M' : Mh} {p : Addr} {k : Nat} (h : PenL M p k) (e : M' p = M p) : PenL M' p k := by
  unfold PenL at h ⊢
  obtain ⟨c, a, f, h1, h2, h3, h4, h5⟩ := h
  exact ⟨c, a, f, e.trans h1, h2, h3, h4, h5⟩
theorem PenL.some {M : Mh} {p : Addr} {k : Nat} (h : PenL M p k) : M p ≠ none := by
  unfold PenL at h
  obtain ⟨c, a, f, h1, _⟩ := h
  rw [h1]
  simp
theorem lg {n : Int} (h : n.natAbs < 2 ^ 200) : n.natAbs.log2 < 9000 := by
  by_cases h0 : n.natAbs = 0
  · rw [h0]; decide
  · have := (Nat.log2_lt h0 (k := 200)).mpr h
    omega
abbrev b_drawL : Ss :=
    .cons (.ite (.cmp .Gt (.ix (.v 0) (.k (.int 2))) (.k (.int 0))) (.cons (.set (.nm 2) (.bin .Mod (.ix (.v 0) (.k (.int 2))) (.v 1))) <|
    .cons (.six (.v 0) (.k (.int 2)) (.bin .FloorDiv (.ix (.v 0) (.k (.int 2))) (.v 1))) <|
    .cons (.ret (.v 2)) <|
    .nil) (.nil)) <|
    .cons (.set (.nm 3) (.ix (.v 0) (.k (.int 1)))) <|
    .cons (.six (.v 0) (.k (.int 1)) (.bin .Add (.v 3) (.k (.int 1)))) <|
    .cons (.set (.nm 4) (.k (.int 0))) <|
    .cons (.ite (.cmp .Gt (.bi .len (.cons (.ix (.v 0) (.k (.int 0))) .nil)) (.k (.int 0))) (.cons (.set (.nm 4) (.ix (.ix (.v 0) (.k (.int 0))) (.bin .Mod (.v 3) (.bi .len (.cons (.ix (.v 0) (.k (.int 0))) .nil))))) <|
    .nil) (.nil)) <|
    .cons (.ite (.bop true (.cons (.cmp .Lt (.v 3) (.bi .len (.cons (.ix (.v 0) (.k (.int 0))) .nil))) (.cons (.cmp .GtE (.bi .abs (.cons (.v 4) .nil)) (.bin .Pow (.k (.int 10)) (.k (.int 18)))) .nil))) (.cons (.six (.v 0) (.k (.int 2)) (.bin .FloorDiv (.bi .abs (.cons (.v 4) .nil)) (.v 1))) <|
    .cons (.ret (.bin .Mod (.bi .abs (.cons (.v 4) .nil)) (.v 1))) <|
    .nil) (.nil)) <|
    .cons (.set (.nm 5) (.bin .Add (.bin .Add (.bin .Mult (.bin .Add (.bin .Mod (.v 4) (.k (.int 2147483587))) (.k (.int 1))) (.bin .Add (.bin .Mult (.k (.int 2)) (.v 3)) (.k (.int 5)))) (.bin .Mult (.bin .Mult (.k (.int 48271)) (.v 3)) (.v 3))) (.k (.int 17)))) <|
    .cons (.set (.nm 5) (.bin .Mod (.bin .Pow (.v 5) (.k (.int 5))) (.k (.int 2147483647)))) <|
    .cons (.set (.nm 5) (.bin .Mod (.bin .Add (.bin .Add (.bin .Mult (.v 5) (.v 5)) (.bin .Mult (.k (.int 69621)) (.v 5))) (.v 3)) (.k (.int 2147483629)))) <|
    .cons (.ret (.bin .Mod (.bin .FloorDiv (.v 5) (.k (.int 64))) (.v 1))) <|
    .nil
theorem pow5 {b : Int} (h0 : 0 ≤ b) (h : b < 2 ^ 64) : CPow b 5 := ⟨by decide, by decide, by omega⟩
theorem drawL_ok {G : Nat → SpD} {C : Nat → D} (as : List D) (M : Mh) (X : XD) (Q : QD) (h : sp_drawL as M X Q) : wpSs G C b_drawL (startD 6 as) M (endsF Q X) := by
  obtain ⟨p, n, k, rfl, h1, h2, hp, q⟩ := h
  unfold PenL at hp
  obtain ⟨c, a, f, hM, hc, ha, hk, hf⟩ := hp
  have dn : ∀ x : Int, divOk x n := fun x => .inr ⟨h1, h2⟩
  have mk : ∀ (M' : Mh) (a' f' : Int), M' p = some (lpC c a' f') → a ≤ a' → a' ≤ a + 1 → 0 ≤ f' → (∀ b, b ≠ p → M' b = M b) → ∀ v, 0 ≤ v → v < n → Q (.int v) M' := by
    intro M' a' f' e e1 e2 e3 e4 v e5 e6
    refine q v M' e5 e6 ?_ e4
    unfold PenL
    exact ⟨c, a', f', e, hc, by omega, by omega, e3⟩
  refine lp_2 hM ?_
  refine c_gt ?_
  refine if_d (fun _ => ?_) (fun _ => ?_)
  · refine lp_2 hM ?_
    refine And.intro h1 ?_
    refine lp_2 hM ?_
    refine And.intro (dn _) ?_
    refine lp_s2 hM ?_
    refine mk _ a (f / n) mset_same (Int.le_refl _) (by omega) (Int.ediv_nonneg hf (by omega)) (fun b hb => mset_ne hb) _ (Int.emod_nonneg _ (by omega)) (Int.emod_lt_of_pos _ h1)
  · refine lp_1 hM ?_
    refine lp_s1 hM ?_
    have hM1 : mset M p (lpC c (a + 1) f) p = some (lpC c (a + 1) f) := mset_same
    have key : ∀ (cell : Int) (M1 : Mh), M1 p = some (lpC c (a + 1) f) → (∀ b, b ≠ p → M1 b = M b) → ∀ E : EnvD, E = [some (.ref p), some (.int n), none, some (.int a), some (.int cell), none] → wpSs G C (tlS 5 b_drawL) E M1 (endsF Q X) := by
      intro cell M1 hM1 hfr E hE
      subst hE
      have rest : wpSs G C (tlS 6 b_drawL) [some (.ref p), some (.int n), none, some (.int a), some (.int cell), none] M1 (endsF Q X) := by
        have m0 : 0 ≤ cell % 2147483587 ∧ cell % 2147483587 < 2147483587 := by omega
        refine And.intro (by decide) ?_
        refine And.intro (ml (by decide) (by decide)) ?_
        refine And.intro (ml (by omega) (by omega)) ?_
        refine And.intro (ml (by decide) (by decide)) ?_
        refine And.intro (ml (by omega) (by omega)) ?_
        have b1 : 0 ≤ (cell % 2147483587 + 1) * (2 * a + 5) := Int.mul_nonneg (by omega) (by omega)
        have b2 : (cell % 2147483587 + 1) * (2 * a + 5) ≤ 2147483587 * (2 * 10000000 + 5) := Int.mul_le_mul (by omega) (by omega) (by omega) (by decide)
        have b3 : 0 ≤ 48271 * a * a := Int.mul_nonneg (by omega) ha
        have b4 : 48271 * a * a ≤ 48271 * 10000000 * 10000000 := Int.mul_le_mul (by omega) (by omega) ha (by decide)
        refine And.intro (pow5 (by omega) (by omega)) ?_
        refine And.intro (by decide) ?_
        have c0 : 0 ≤ ((cell % 2147483587 + 1) * (2 * a + 5) + 48271 * a * a + 17) ^ 5 % 2147483647 ∧ ((cell % 2147483587 + 1) * (2 * a + 5) + 48271 * a * a + 17) ^ 5 % 2147483647 < 2147483647 := ⟨Int.emod_nonneg _ (by decide), Int.emod_lt_of_pos _ (by decide)⟩
        refine And.intro (ml (Int.lt_of_lt_of_le (by decide) c0.1) (Int.lt_trans c0.2 (by decide))) ?_
        refine And.intro (ml (by decide) (by decide)) ?_
        refine And.intro (by decide) ?_
        refine And.intro (dv (by decide) (by decide)) ?_
        refine And.intro h1 ?_
        exact mk _ (a + 1) f hM1 (by omega) (Int.le_refl _) hf hfr _ (Int.emod_nonneg _ (by omega)) (Int.emod_lt_of_pos _ h1)
      refine lp_0 hM1 ?_
      refine b_lenS ?_
      refine c_lt ?_
      refine and_t (fun _ => ?_) (fun _ => ?_)
      · refine b_abs ?_
        refine And.intro ⟨by decide, by decide, by decide⟩ ?_
        refine c_ge ?_
        refine if_d (fun _ => ?_) (fun _ => rest)
        refine b_abs ?_
        refine And.intro (dn _) ?_
        refine lp_s2 hM1 ?_
        refine b_abs ?_
        refine And.intro h1 ?_
        exact mk _ (a + 1) ((cell.natAbs : Int) / n) mset_same (by omega) (Int.le_refl _) (Int.ediv_nonneg (by omega) (by omega)) (fun b hb => (mset_ne hb).trans (hfr b hb)) _ (Int.emod_nonneg _ (by omega)) (Int.emod_lt_of_pos _ h1)
      · refine if_b (fun e => ?_) (fun _ => rest)
        exact absurd e (by assumption)
    refine lp_0 hM1 ?_
    refine b_lenS ?_
    refine c_gt ?_
    refine if_d (fun hc0 => ?_) (fun _ => ?_)
    · refine lp_0 hM1 ?_
      refine lp_0 hM1 ?_
      refine b_lenS ?_
      refine And.intro hc0 ?_
      have i0 := Int.emod_nonneg a (show ((c.map D.int).length : Int) ≠ 0 by omega)
      have i1 := Int.emod_lt_of_pos a hc0
      refine x_S (at_il (l := c) i0 (by rw [List.length_map] at i1 ⊢; exact i1)) ?_
      exact key _ _ hM1 (fun b hb => mset_ne hb) _ rfl
    · exact key _ _ hM1 (fun b hb => mset_ne hb) _ rfl
abbrev b_penL : Ss :=
    .cons (.ret (.ce (.lst (.cons (.v 0) (.cons (.k (.int 0)) (.cons (.k (.int 0)) .nil)))))) <|
    .nil
theorem penL_ok {G : Nat → SpD} {C : Nat → D} (as : List D) (M : Mh) (X : XD) (Q : QD) (h : sp_penL as M X Q) : wpSs G C b_penL (startD 1 as) M (endsF Q X) := by
  obtain ⟨ns, h1, rfl, q⟩ := h
  refine And.intro (sz_le (by show 3 ≤ 1000000; decide)) ?_
  intro p hp
  refine q p hp _ ?_ (fun b hb => mset_ne hb)
  unfold PenL
  exact ⟨ns, 0, 0, mset_same, h1, by decide, by decide, by decide⟩
end PD

namespace PD
open PySem PySem.Spec PyProof.Rows L2
/-! streams: what came, where a curve is broken -/
def cs (l : List Int) (t : Nat) : Int := (l.take t).sum
def tal (l : List Int) (n : Nat) : List Int := (List.range n).map fun k => cs l k
theorem tal_len {l : List Int} {n : Nat} : (tal l n).length = n := by unfold tal; simp
theorem tal_get {l : List Int} {n : Nat} {i : Int} (h0 : 0 ≤ i) (h : i < n) : gt (tal l n) i = cs l i.toNat := by unfold tal; exact gt_map h0 h
theorem tal_succ {l : List Int} {n : Nat} : tal l (n + 1) = tal l n ++ [cs l n] := by
  unfold tal
  rw [List.range_succ, List.map_append]
  rfl
theorem cs_succ {l : List Int} {t : Nat} (h : t < l.length) : cs l (t + 1) = cs l t + gt l t := by
  unfold cs
  rw [List.take_succ_eq_append_getElem h, List.sum_append, gt_get h]
  simp
theorem cs_stay {l : List Int} {t : Nat} (h : ¬ t < l.length) : cs l (t + 1) = cs l t := by
  unfold cs
  rw [List.take_of_length_le (by omega), List.take_of_length_le (by omega)]
theorem cs_zero {l : List Int} : cs l 0 = 0 := by unfold cs; simp
/-- the stretch s .. t has more than it may -/
def bad (g : Int → Int) (l : List Int) (s t : Nat) : Prop := g ((t : Int) - s) < cs l t - cs l s
def IsBrk (g : Int → Int) (l : List Int) : Option (Nat × Nat) → Prop
  | none => ∀ t, t ≤ l.length → ∀ s, s < t → ¬ bad g l s t
  | some (s, t) => t ≤ l.length ∧ s < t ∧ bad g l s t ∧ (∀ s', s < s' → s' < t → ¬ bad g l s' t) ∧ ∀ t', t' < t → ∀ s', s' < t' → ¬ bad g l s' t'
theorem IsBrk.one {g : Int → Int} {l : List Int} : ∀ {x y : Option (Nat × Nat)}, IsBrk g l x → IsBrk g l y → x = y
  | none, none, _, _ => rfl
  | none, some (s, t), h, ⟨a, b, c, _⟩ => absurd c (h t a s b)
  | some (s, t), none, ⟨a, b, c, _⟩, h => absurd c (h t a s b)
  | some (s, t), some (s', t'), ⟨a, b, c, d, e⟩, ⟨a', b', c', d', e'⟩ => by
    have ht : t = t' := by
      rcases Nat.lt_trichotomy t t' with h | h | h
      · exact absurd c (e' t h s b)
      · exact h
      · exact absurd c' (e t' h s' b')
    subst ht
    have hs : s = s' := by
      rcases Nat.lt_trichotomy s s' with h | h | h
      · exact absurd c' (d s' h b')
      · exact h
      · exact absurd c (d' s h b)
    rw [hs]
theorem bad_congr {g g' : Int → Int} {l : List Int} (h : ∀ i, 0 ≤ i → g i = g' i) {s t : Nat} (hs : s < t) : bad g l s t ↔ bad g' l s t := by
  unfold bad
  rw [h _ (by omega)]
theorem IsBrk.congr {g g' : Int → Int} {l : List Int} (h : ∀ i, 0 ≤ i → g i = g' i) : ∀ {x : Option (Nat × Nat)}, IsBrk g l x → IsBrk g' l x
  | none, k => fun t a s b c => k t a s b ((bad_congr h b).mpr c)
  | some (s, t), ⟨a, b, c, d, e⟩ => ⟨a, b, (bad_congr h b).mp c, fun s' p q z => d s' p q ((bad_congr h q).mpr z), fun t' p s' q z => e t' p s' q ((bad_congr h q).mpr z)⟩
def brD : Option (Nat × Nat) → D
  | none => .non
  | some (s, t) => .tup [.int s, .int t]
def Fr (M M' : Mh) : Prop := ∀ b, M b ≠ none → M' b = M b
theorem Fr.rfl {M : Mh} : Fr M M := fun _ _ => Eq.refl _
theorem Fr.tr {M M' M'' : Mh} (h : Fr M M') (k : Fr M' M'') : Fr M M'' := fun b hb => (k b (by rw [h b hb]; exact hb)).trans (h b hb)
theorem Fr.new {M M' : Mh} {p : Addr} {c : Cell} (hp : M p = none) (h : Fr M M') : Fr M (mset M' p c) := fun b hb => (mset_ne (fun z => hb (by rw [z]; exact hp))).trans (h b hb)
theorem Fr.del {M M' : Mh} {p : Addr} (hp : M p = none) (h : Fr M M') : Fr M (mdel M' p) := fun b hb => (mdel_ne (fun z => hb (by rw [z]; exact hp))).trans (h b hb)
theorem v_seq {M : Mh} {d : D} {l : List Int} {Qs : List D → (Mh → Prop) → Mh → Prop} (h : Vw M d l) (q : ∀ g : Mh → Prop, (∀ M', Fr M M' → g M') → Qs (il l) g M) : seqD d M Qs := by
  rcases h.2 with rfl | ⟨p, rfl, hp⟩
  · exact sq_L (q _ fun _ _ => trivial)
  · unfold seqD
    simp only [hp]
    exact q _ fun M' k => (k p (by rw [hp]; simp)).trans hp
theorem v_seq2 {M : Mh} {d : D} {l : List Int} {Qs : List D → (Mh → Prop) → Mh → Prop} (h : Vw M d l) (q : ∀ g : Mh → Prop, (∀ M', Vw M' d l → g M') → Qs (il l) g M) : seqD d M Qs := by
  rcases h.2 with rfl | ⟨p, rfl, hp⟩
  · exact sq_L (q _ fun _ _ => trivial)
  · unfold seqD
    simp only [hp]
    refine q _ fun M' k => ?_
    rcases k.2 with e | ⟨p', e, hp'⟩
    · cases e
    · cases e
      exact hp'
def badB (g : Int → Int) (l : List Int) (s t : Nat) : Bool := decide (g ((t : Int) - s) < cs l t - cs l s)
theorem badB_iff {g : Int → Int} {l : List Int} {s t : Nat} : badB g l s t = true ↔ bad g l s t := by unfold badB bad; exact decide_eq_true_iff
def flt (g : Int → Int) (l : List Int) (t i : Nat) : List Int := ((List.range i).filter fun s => badB g l s t).map fun (s : Nat) => (s : Int)
theorem flt_t {g : Int → Int} {l : List Int} {t i : Nat} (h : bad g l i t) : flt g l t (i + 1) = flt g l t i ++ [(i : Int)] := by
  unfold flt
  rw [List.range_succ, List.filter_append, List.map_append]
  congr 1
  have e : badB g l i t = true := badB_iff.mpr h
  simp [e]
theorem flt_f {g : Int → Int} {l : List Int} {t i : Nat} (h : ¬ bad g l i t) : flt g l t (i + 1) = flt g l t i := by
  unfold flt
  rw [List.range_succ, List.filter_append, List.map_append]
  have e : badB g l i t = false := by
    cases z : badB g l i t with
    | false => exact Eq.refl _
    | true => exact absurd (badB_iff.mp z) h
  simp [e]
theorem flt_mem {g : Int → Int} {l : List Int} {t i : Nat} {x : Int} : x ∈ flt g l t i ↔ ∃ s : Nat, s < i ∧ bad g l s t ∧ x = s := by
  unfold flt
  constructor
  · intro h
    obtain ⟨s, hs, rfl⟩ := List.mem_map.mp h
    obtain ⟨h1, h2⟩ := List.mem_filter.mp hs
    exact ⟨s, List.mem_range.mp h1, badB_iff.mp h2, Eq.refl _⟩
  · rintro ⟨s, h1, h2, rfl⟩
    exact List.mem_map.mpr ⟨s, List.mem_filter.mpr ⟨List.mem_range.mpr h1, badB_iff.mpr h2⟩, Eq.refl _⟩
theorem flt_len {g : Int → Int} {l : List Int} {t i : Nat} : (flt g l t i).length ≤ i := by
  unfold flt
  rw [List.length_map]
  exact Nat.le_trans (List.length_filter_le _ _) (by simp)
theorem x_Lm {ds : List D} {M : Mh} {Q : QD} {i : Int} (h0 : 0 ≤ i) (h1 : i < ds.length) (q : ∀ d, d ∈ ds → Q d M) : ixD (.lst ds) (.int i) M Q := by
  obtain ⟨d, hd, e⟩ := at_mem (ds := ds) h0 h1
  exact x_L e (q d hd)
theorem v_lof {M : Mh} {d : D} {l : List Int} {Qn : List D → Mh → Prop} (h : Vw M d l) (q : Qn (il l) M) : lofD d M Qn := by
  rcases h.2 with rfl | ⟨p, rfl, hp⟩
  · exact lof_L q
  · unfold lofD
    simp only [view, hp]
    exact q
theorem vals_take {a b : List Int} {r : Int} {n m : Nat} (h : m ≤ n) : (vals a b r n).take m = vals a b r m := by
  unfold vals
  rw [← List.map_take, List.take_range, Nat.min_eq_left h]
theorem vals_first {a b : List Int} {r : Int} (hb : 0 < b.length) : a = vals a b r a.length := by
  have h := congrArg (List.take a.length) (vals_base (a := a) (b := b) (r := r) hb)
  rw [vals_take (by omega), List.take_left] at h
  exact h
theorem vals_block {a b : List Int} {r : Int} {k : Nat} (hb : 0 < b.length) : vals a b r (a.length + (k + 1) * b.length) = vals a b r (a.length + k * b.length) ++ b.map fun x => x + r * k := by
  have e : a.length + (k + 1) * b.length = (a.length + k * b.length) + b.length := by rw [Nat.add_mul]; omega
  apply List.ext_getElem
  · rw [vals_len, List.length_append, vals_len, List.length_map, e]
  · intro i h1 h2
    rw [vals_len] at h1
    rw [← gt_get (l := vals a b r (a.length + (k + 1) * b.length)) (by rw [vals_len]; exact h1), vals_get (by omega) (by omega)]
    by_cases h : i < a.length + k * b.length
    · rw [List.getElem_append_left (by rw [vals_len]; exact h), ← gt_get (l := vals a b r _) (by rw [vals_len]; exact h), vals_get (by omega) (by omega)]
    · rw [List.getElem_append_right (by rw [vals_len]; omega), List.getElem_map]
      have hj : i - (vals a b r (a.length + k * b.length)).length = i - (a.length + k * b.length) := by rw [vals_len]
      have hj2 : i - (a.length + k * b.length) < b.length := by omega
      have ei : (i : Int) = ((a.length : Int) + (i - (a.length + k * b.length) : Nat)) + (k : Int) * b.length := by
        have : ((k * b.length : Nat) : Int) = (k : Int) * b.length := Int.natCast_mul _ _
        omega
      rw [ei, val_more hb (by omega) k (by omega), val_hi (by omega)]
      have ez : (a.length : Int) + ((i - (a.length + k * b.length) : Nat) : Int) - a.length = ((i - (a.length + k * b.length) : Nat) : Int) := by omega
      rw [ez, Int.emod_eq_of_lt (by omega) (by omega), Int.ediv_eq_zero_of_lt (by omega) (by omega), Int.mul_zero, Int.add_zero, gt_get hj2]
      simp only [hj]
end PD

namespace PD
open PySem PySem.Spec PyProof.Rows L2 PySem.StrLaws
/-! data with a text -/
def S1 (d : D) (k n : Nat) : Prop := ∃ y, toPyR d = some y ∧ y.showable = true ∧ y.depth ≤ k ∧ y.shown.length ≤ n
def SA (l : List D) (k N : Nat) : Prop := ∃ ys, toPyRs l = some ys ∧ PyData.showableAll ys = true ∧ PyData.depthAll ys ≤ k ∧ ((PyData.shownAll ys).map (·.length)).sum ≤ N ∧ (PyData.shownAll ys).length = l.length
theorem SA.nil {k : Nat} : SA [] k 0 := ⟨[], rfl, by simp [PyData.showableAll], by simp [PyData.depthAll], by simp [PyData.shownAll], by simp [PyData.shownAll]⟩
theorem SA.cons {d : D} {l : List D} {k n N : Nat} (h : S1 d k n) (t : SA l k N) : SA (d :: l) k (n + N) := by
  obtain ⟨y, a1, a2, a3, a4⟩ := h
  obtain ⟨ys, b1, b2, b3, b4, b5⟩ := t
  refine ⟨y :: ys, ?_, ?_, ?_, ?_, ?_⟩
  · unfold toPyRs
    rw [a1, b1]
  · simp only [PyData.showableAll, a2, b2, Bool.and_self]
  · simp only [PyData.depthAll]
    omega
  · simp only [PyData.shownAll, List.map_cons, List.sum_cons]
    omega
  · simp only [PyData.shownAll, List.length_cons, b5]
theorem SA.app : ∀ {l r : List D} {k N N' : Nat}, SA l k N → SA r k N' → SA (l ++ r) k (N + N')
  | [], r, k, N, N', h, t => by
    obtain ⟨ys, b1, b2, b3, b4, b5⟩ := t
    exact ⟨ys, b1, b2, b3, by omega, b5⟩
  | d :: l, r, k, N, N', ⟨ys, a1, a2, a3, a4, a5⟩, t => by
    unfold toPyRs at a1
    cases e1 : toPyR d with
    | none => rw [e1] at a1; cases a1
    | some y =>
      cases e2 : toPyRs l with
      | none => rw [e1, e2] at a1; cases a1
      | some zs =>
        rw [e1, e2] at a1
        cases a1
        simp only [PyData.showableAll, Bool.and_eq_true] at a2
        simp only [PyData.depthAll] at a3
        simp only [PyData.shownAll, List.map_cons, List.sum_cons, List.length_cons] at a4 a5
        have h1 : SA l k ((PyData.shownAll zs).map (·.length)).sum := ⟨zs, e2, a2.2, by omega, Nat.le_refl _, by omega⟩
        have := SA.cons (⟨y, e1, a2.1, by omega, Nat.le_refl _⟩ : S1 d k y.shown.length) (SA.app h1 t)
        obtain ⟨ws, c1, c2, c3, c4, c5⟩ := this
        exact ⟨ws, c1, c2, c3, by omega, c5⟩
theorem SA.il {l : List Int} {k : Nat} (h : ∀ x ∈ l, x.natAbs < 10 ^ 60) : SA (PD.il l) k (61 * l.length) := by
  obtain ⟨a, b, c, d, e⟩ := show_ints h
  exact ⟨_, toPyRs_of _ il_toPys, a, by omega, d, by rw [il_len]; exact e⟩
theorem S1.lst {l : List D} {k N : Nat} (h : SA l k N) : S1 (.lst l) (k + 1) (N + 2 * l.length + 3) := by
  obtain ⟨ys, a1, a2, a3, a4, a5⟩ := h
  refine ⟨.list ys, ?_, by simpa [PyData.showable] using a2, by simp only [PyData.depth]; omega, ?_⟩
  · unfold toPyR
    rw [a1]
  · have := listText_len_le (PyData.shownAll ys)
    simp only [PyData.shown]
    omega
theorem S1.tup {l : List D} {k N : Nat} (h : SA l k N) : S1 (.tup l) (k + 1) (N + 2 * l.length + 3) := by
  obtain ⟨ys, a1, a2, a3, a4, a5⟩ := h
  refine ⟨.tuple ys, ?_, by simpa [PyData.showable] using a2, by simp only [PyData.depth]; omega, ?_⟩
  · unfold toPyR
    rw [a1]
  · have := tupleText_len_le (PyData.shownAll ys)
    simp only [PyData.shown]
    omega
theorem S1.int {i : Int} {k : Nat} (h : i.natAbs < 10 ^ 60) : S1 (.int i) k 61 := ⟨.int i, rfl, (sh_int h).1, by simp [PyData.depth], (sh_int h).2⟩
theorem S1.non {k : Nat} : S1 .non k 10 := ⟨.none, rfl, sh_none.1, by simp [PyData.depth], sh_none.2.2.2⟩
theorem S1.bl {b : Bool} {k : Nat} : S1 (.bl b) k 10 := ⟨.bool b, rfl, by simp [PyData.showable], by simp [PyData.depth], by cases b <;> (simp only [PyData.shown]; decide)⟩
theorem S1.str {x : Str} {k n : Nat} (h : (reprText x).length ≤ n) : S1 (.str x) k n := ⟨.str x, rfl, by simp [PyData.showable], by simp [PyData.depth], by simp only [PyData.shown]; exact h⟩
theorem S1.dct0 {k : Nat} : S1 (.dct [] []) (k + 1) 10 := ⟨.dict [], rfl, by simp [PyData.showable, PyData.showableKv], by simp [PyData.depth, PyData.depthKv], by simp only [PyData.shown, PyData.shownKv]; decide⟩
theorem S1.dct1 {i : Int} {d : D} {k n : Nat} (hi : i.natAbs < 10 ^ 60) (h : S1 d k n) : S1 (.dct [.inl i] [d]) (k + 1) (n + 70) := by
  obtain ⟨y, a1, a2, a3, a4⟩ := h
  refine ⟨.dict [(.int i, y)], ?_, ?_, ?_, ?_⟩
  · unfold toPyR toPyRs
    rw [a1]
    rfl
  · simp [PyData.showable, PyData.showableKv, a2, (sh_int hi).1]
    have := (sh_int hi).1
    simpa [PyData.showable] using this
  · simp only [PyData.depth, PyData.depthKv]
    omega
  · have := dictText_len_le (PyData.shownKv [(.int i, y)])
    have e : ((PyData.int i).shown ++ ": " ++ y.shown).length = (PyData.int i).shown.length + 2 + y.shown.length := by
      rw [strLen_append, strLen_append]; rfl
    have hl := (sh_int hi).2
    simp only [PyData.shownKv, List.map_cons, List.map_nil, List.sum_cons, List.sum_nil, List.length_cons, List.length_nil, e] at this
    show (dictText (PyData.shownKv [(.int i, y)])).length ≤ _
    simp only [PyData.shownKv]
    omega
theorem S1.to {d : D} {k n k' n' : Nat} (h : S1 d k n) (h1 : k ≤ k') (h2 : n ≤ n') : S1 d k' n' := by
  obtain ⟨y, a1, a2, a3, a4⟩ := h
  exact ⟨y, a1, a2, by omega, by omega⟩
theorem SA.to {d : List D} {k n k' n' : Nat} (h : SA d k n) (h1 : k ≤ k') (h2 : n ≤ n') : SA d k' n' := by
  obtain ⟨y, a1, a2, a3, a4, a5⟩ := h
  exact ⟨y, a1, a2, by omega, by omega, a5⟩
/-! plain things -/
def Pl : D → Prop
  | .non | .bl _ | .int _ | .str _ | .tup _ | .lst _ | .dct _ _ => True
  | _ => False
theorem Pl.view {d : D} {M : Mh} (h : Pl d) : PD.view M d = d := by cases d <;> first | rfl | exact h.elim
def numB : D → Bool
  | .int i => decide (0 ≤ i)
  | _ => false
def strB : D → Bool
  | .lst l => decide (l.length ≤ 400) && l.all numB
  | _ => false
theorem kit_all : kitB "NoneType" "int" = some false ∧ kitB "bool" "int" = some true ∧ kitB "int" "int" = some true ∧ kitB "str" "int" = some false ∧ kitB "tuple" "int" = some false ∧ kitB "list" "int" = some false ∧ kitB "dict" "int" = some false ∧ kitB "bool" "bool" = some true ∧ kitB "int" "bool" = some false := by decide +kernel
theorem kit_lst : kitB "NoneType" "list" = some false ∧ kitB "bool" "list" = some false ∧ kitB "int" "list" = some false ∧ kitB "str" "list" = some false ∧ kitB "tuple" "list" = some false ∧ kitB "list" "list" = some true ∧ kitB "dict" "list" = some false := by decide +kernel
theorem b_all {M : Mh} {Q : QD} {bs : List Bool} (q : Q (.bl (bs.all id)) M) : biD .all [.lst (bs.map .bl)] M Q := by
  have e : blsD (bs.map .bl) = some bs := by
    clear q
    induction bs with
    | nil => rfl
    | cons b r ih =>
      show (match blsD (r.map D.bl) with | some l => some (b :: l) | none => none) = _
      rw [ih]
  unfold biD
  show match blsD (bs.map .bl) with | some bs => Q (.bl (bs.all id)) M | none => False
  rw [e]; exact q
theorem e_L {M : Mh} {ds : List D} {Qs : List D → (Mh → Prop) → Mh → Prop} (q : Qs (enumL ds) (fun _ => True) M) : enumD (.lst ds) M Qs := by unfold enumD; exact q
theorem e_T {M : Mh} {ds : List D} {Qs : List D → (Mh → Prop) → Mh → Prop} (q : Qs (enumL ds) (fun _ => True) M) : enumD (.tup ds) M Qs := by unfold enumD; exact q
theorem enumI_get {l : List Int} {i : Nat} {d : D} (h : (enumL (il l))[i]? = some d) : i < l.length ∧ d = .tup [.int i, .int (gt l i)] := by
  obtain ⟨x, e, rfl⟩ := enum_get h
  have hi : i < l.length := by
    have := (List.getElem?_eq_some_iff.mp e).1
    rwa [il_len] at this
  rw [il_get hi] at e
  cases e
  exact ⟨hi, rfl⟩
theorem enumI_len {l : List Int} : (enumL (il l)).length = l.length := by rw [enumL_length, il_len]
theorem rep_il (n : Nat) (v : Int) : (List.replicate n [D.int v]).flatten = il (List.replicate n v) := by
  unfold il
  induction n with
  | zero => rfl
  | succ n ih => rw [List.replicate_succ, List.flatten_cons, ih, List.replicate_succ, List.map_cons]; rfl
end PD

/-! one backward lemma for each node: the walk's steps, by sight alone -/
namespace Ev
open PySem PySem.Spec PyProof.Rows L2 PD
section
variable {G : Nat → SpD} {C : Nat → D} {env r : EnvD} {M : Mh} {X : XD} {Q : QD} {Qe : List D → Mh → Prop} {Qs : List D → (Mh → Prop) → Mh → Prop} {Qb : Bool → Mh → Prop} {K : EndsD} {i j : Nat} {d e x y z : D} {u v w : Option D} {P : Prop} {k : EnvD → Prop} {kd : D → Prop} {kl : List D → Prop} {n b c : EnvD → Mh → Prop} {t : D → Mh → Prop} {ex : Exc → EnvD → Mh → Prop}
theorem gE {e : E} (q : wpE G C e env M X Q) : wpE G C e env M X Q := q
theorem gEs {e : Es} (q : wpEs G C e env M X Qe) : wpEs G C e env M X Qe := q
theorem gN {e : N} (q : wpN G C e env M X Qe) : wpN G C e env M X Qe := q
theorem gS {e : S} {K : EndsD} (q : wpS G C e env M K) : wpS G C e env M K := q
theorem gSs {e : Ss} {K : EndsD} (q : wpSs G C e env M K) : wpSs G C e env M K := q
theorem gI {e : I} (q : wpI G C e env M X Qs) : wpI G C e env M X Qs := q
theorem gC {o : CmpOp} (q : cmpD o x y M Q) : cmpD o x y M Q := q
theorem gA {o : Operator} (q : binD o x y M Q) : binD o x y M Q := q
theorem gB {o : Bi} {ds : List D} (q : biD o ds M Q) : biD o ds M Q := q
theorem gX (q : ixD x y M Q) : ixD x y M Q := q
theorem gXC {p : Addr} (q : ixD (.ref p) y M Q) : ixD (.ref p) y M Q := q
theorem gBC {p : Addr} (q : biD .len [.ref p] M Q) : biD .len [.ref p] M Q := q
theorem gMC {m : Me} {p : Addr} {ds : List D} (q : meD m (.ref p) ds M Q) : meD m (.ref p) ds M Q := q
theorem gAC {p : Addr} {B : Prop} (q : isL M (.ref p) = true ∧ B) : isL M (.ref p) = true ∧ B := q
theorem gFC {p : Addr} {k : EnvD → Mh → Prop} (q : frzD (some (.ref p) :: r) 0 M k) : frzD (some (.ref p) :: r) 0 M k := q
theorem gIf {p A B : Prop} {di : Decidable p} (q : @ite Prop p di A B) : @ite Prop p di A B := q
theorem gF {k : EnvD → Mh → Prop} (q : frzD env i M k) : frzD env i M k := q
theorem gM {m : Me} {ds : List D} (q : meD m x ds M Q) : meD m x ds M Q := q
theorem gL (q : lofD x M Qe) : lofD x M Qe := q
theorem gD {lo hi : Option Int} (q : slD x lo hi M Q) : slD x lo hi M Q := q
theorem gAnd {A B : Prop} (q : A ∧ B) : A ∧ B := q
def setE (env : EnvD) (i : Nat) (d : D) (k : EnvD → Prop) : Prop := k (env.set i (some d))
theorem st0 (q : k (some d :: r)) : setE (u :: r) 0 d k := q
theorem sts (q : setE r i d fun e => k (u :: e)) : setE (u :: r) (i + 1) d k := q
theorem e_v0 (q : Q d M) : wpE G C (.v 0) (some d :: r) M X Q := q
theorem e_vs (q : wpE G C (.v i) r M X Q) : wpE G C (.v (i + 1)) (u :: r) M X Q := q
theorem e_k (q : Q d M) : wpE G C (.k d) env M X Q := q
theorem e_bin {op a b} (q : wpE G C a env M X fun x M1 => wpE G C b env M1 X fun y M2 => binD op (view M2 x) (view M2 y) M2 Q) : wpE G C (.bin op a b) env M X Q := q
theorem e_neg {a} (q : wpE G C a env M X fun x M1 => negD x fun d => Q d M1) : wpE G C (.neg a) env M X Q := q
theorem e_not {a} (q : wpE G C a env M X (asB fun b M1 => Q (.bl (!b)) M1)) : wpE G C (.not a) env M X Q := q
theorem e_bop {c es} (q : wpB G C c es env M X Q) : wpE G C (.bop c es) env M X Q := q
theorem e_cmp {op a b} (q : wpE G C a env M X fun x M1 => wpE G C b env M1 X fun y M2 => cmpD op x y M2 Q) : wpE G C (.cmp op a b) env M X Q := q
theorem e_chain {op p a b c} (q : wpE G C a env M X fun x M1 => wpE G C b env M1 X fun y M2 => cmpD op x y M2 (asB fun t M3 => if t = true then wpE G C c env M3 X fun z M4 => cmpD p y z M4 Q else Q (.bl false) M3)) : wpE G C (.chain op p a b c) env M X Q := q
theorem e_ife {c a b} (q : wpE G C c env M X (asB fun t M1 => if t = true then wpE G C a env M1 X Q else wpE G C b env M1 X Q)) : wpE G C (.ife c a b) env M X Q := q
theorem e_tup {es} (q : wpEs G C es env M X fun ds M1 => ds.length ≤ sizeLine ∧ Q (.tup ds) M1) : wpE G C (.tup es) env M X Q := q
theorem e_fr {n} (q : wpN G C n env M X fun ds M1 => Q (.lst ds) M1) : wpE G C (.fr n) env M X Q := q
theorem e_ce {n} (q : wpN G C n env M X fun ds M1 => ∀ p, M1 p = none → Q (.ref p) (mset M1 p (.lst ds))) : wpE G C (.ce n) env M X Q := q
theorem e_dfr {ks es} (q : wpEs G C es env M X fun ds M1 => Q (.dct ks ds) M1) : wpE G C (.dfr ks es) env M X Q := q
theorem e_dce {ks es} (q : wpEs G C es env M X fun ds M1 => ∀ p, M1 p = none → Q (.ref p) (mset M1 p (.dct ks ds))) : wpE G C (.dce ks es) env M X Q := q
theorem e_ix {a b} (q : wpE G C a env M X fun x M1 => wpE G C b env M1 X fun y M2 => ixD x y M2 Q) : wpE G C (.ix a b) env M X Q := q
theorem e_sl {a lo hi} (q : wpE G C a env M X fun x M1 => wpEs G C lo env M1 X fun l M2 => optQ l fun l => wpEs G C hi env M2 X fun h M3 => optQ h fun h => slD x l h M3 Q) : wpE G C (.sl a lo hi) env M X Q := q
theorem e_isi {a ty} (q : wpE G C a env M X fun x M1 => isiD (view M1 x) ty fun d => Q d M1) : wpE G C (.isi a ty) env M X Q := q
theorem e_call {f es} (q : wpEs G C es env M X fun ds M1 => G f ds M1 X Q) : wpE G C (.call f es) env M X Q := q
theorem e_bi {b es} (q : wpEs G C es env M X fun ds M1 => biD b ds M1 Q) : wpE G C (.bi b es) env M X Q := q
theorem e_me {m a es} (q : wpE G C a env M X fun x M1 => isL M1 x = true ∧ wpEs G C es env M1 X fun ds M2 => meD m x ds M2 Q) : wpE G C (.me m a es) env M X Q := q
theorem n_lst {es} (q : wpEs G C es env M X fun ds M1 => ds.length ≤ sizeLine ∧ Qe ds M1) : wpN G C (.lst es) env M X Qe := q
theorem n_comp {e t it c} (q : wpI G C it env M X fun ds g M1 => compD (fun env M Q => wpE G C e env M (fun _ _ => False) Q) (fun env M Q => wpT G C c env M Q) t env g ds [] M1 Qe) : wpN G C (.comp e t it c) env M X Qe := q
theorem n_cat {a b} (q : wpE G C a env M X fun x M1 => wpE G C b env M1 X fun y M2 => catN (view M2 x) (view M2 y) fun l => Qe l M2) : wpN G C (.cat a b) env M X Qe := q
theorem n_rep {a b} (q : wpE G C a env M X fun x M1 => wpE G C b env M1 X fun y M2 => repN (view M2 x) y fun l => Qe l M2) : wpN G C (.rep a b) env M X Qe := q
theorem n_sl {a lo hi} (q : wpE G C a env M X fun x M1 => wpEs G C lo env M1 X fun l M2 => optQ l fun l => wpEs G C hi env M2 X fun h M3 => optQ h fun h => slN x l h M3 Qe) : wpN G C (.sl a lo hi) env M X Qe := q
theorem n_lof {a} (q : wpE G C a env M X fun x M1 => lofD x M1 Qe) : wpN G C (.lof a) env M X Qe := q
theorem n_lrg {es} (q : wpEs G C es env M X fun ds M1 => lrgD ds fun l => Qe l M1) : wpN G C (.lrg es) env M X Qe := q
theorem n_rev {a lo} (q : wpE G C a env M X fun x M1 => wpEs G C lo env M1 X fun l M2 => optQ l fun l => revD x l M2 Qe) : wpN G C (.rev a lo) env M X Qe := q
theorem i_seq {a} (q : wpE G C a env M X fun d M1 => seqD d M1 Qs) : wpI G C (.seq a) env M X Qs := q
theorem i_rng {es} (q : wpEs G C es env M X fun ds M1 => rngD ds fun l => Qs l (fun _ => True) M1) : wpI G C (.rng es) env M X Qs := q
theorem i_rdn {a b} (q : wpE G C a env M X fun x M1 => wpE G C b env M1 X fun y M2 => rdnD x y fun l => Qs l (fun _ => True) M2) : wpI G C (.rdn a b) env M X Qs := q
theorem i_enum {a} (q : wpE G C a env M X fun d M1 => enumD d M1 Qs) : wpI G C (.enum a) env M X Qs := q
theorem i_zip {a b} (q : wpE G C a env M X fun x M1 => wpE G C b env M1 X fun y M2 => zipD x y fun l => Qs l (fun _ => True) M2) : wpI G C (.zip a b) env M X Qs := q
theorem es_n (q : Qe [] M) : wpEs G C .nil env M X Qe := q
theorem es_c {a r} (q : wpE G C a env M X fun d M1 => wpEs G C r env M1 X fun ds M2 => Qe (d :: ds) M2) : wpEs G C (.cons a r) env M X Qe := q
theorem t_n (q : Qb true M) : wpT G C .nil env M Qb := q
theorem t_c {a r} (q : wpE G C a env M (fun _ _ => False) (asB Qb)) : wpT G C (.cons a r) env M Qb := q
theorem b_1 {c a} (q : wpE G C a env M X Q) : wpB G C c (.cons a .nil) env M X Q := q
theorem b_2 {c a b r} (q : wpE G C a env M X (asB fun t M1 => if t = c then wpB G C c (.cons b r) env M1 X Q else Q (.bl t) M1)) : wpB G C c (.cons a (.cons b r)) env M X Q := q
theorem as_b {b} (q : Qb b M) : asB Qb (.bl b) M := q
theorem ng {n : Int} (q : kd (.int (-n))) : negD (.int n) kd := q
theorem oq_n {k : Option Int → Prop} (q : k none) : optQ [] k := q
theorem oq_s {k : Option Int → Prop} {n : Int} (q : k (some n)) : optQ [.int n] k := q
theorem s_n (q : n env M) : wpSs G C .nil env M ⟨n, t, b, c, ex⟩ := q
theorem s_c {s r} (q : wpS G C s env M ⟨fun e m => wpSs G C r e m ⟨n, t, b, c, ex⟩, t, b, c, ex⟩) : wpSs G C (.cons s r) env M ⟨n, t, b, c, ex⟩ := q
theorem s_set {a} (q : wpE G C a env M (fun y m => ex y env m) fun d M1 => setE env i d fun e => n e M1) : wpS G C (.set (.nm i) a) env M ⟨n, t, b, c, ex⟩ := q
theorem s_tp {a is} (q : wpE G C a env M (fun y m => ex y env m) fun d M1 => optE (bindT (.tp is) d env) fun e => n e M1) : wpS G C (.set (.tp is) a) env M ⟨n, t, b, c, ex⟩ := q
theorem s_par {a a2} (q : wpE G C a env M (fun y m => ex y env m) fun d M1 => wpE G C a2 env M1 (fun y m => ex y env m) fun e M2 => setE env i d fun e1 => setE e1 j e fun e2 => n e2 M2) : wpS G C (.par i j a a2) env M ⟨n, t, b, c, ex⟩ := q
theorem s_six {a a2 a3} (q : wpE G C a3 env M (fun y m => ex y env m) fun d M1 => wpE G C a env M1 (fun y m => ex y env m) fun x M2 => wpE G C a2 env M2 (fun y m => ex y env m) fun y M3 => sixD x y d M3 (n env)) : wpS G C (.six a a2 a3) env M ⟨n, t, b, c, ex⟩ := q
theorem s_exp {a} (q : wpE G C a env M (fun y m => ex y env m) fun _ M1 => n env M1) : wpS G C (.exp a) env M ⟨n, t, b, c, ex⟩ := q
theorem s_ret {a} (q : wpE G C a env M (fun y m => ex y env m) t) : wpS G C (.ret a) env M ⟨n, t, b, c, ex⟩ := q
theorem s_ite {a b1 b2} (q : wpE G C a env M (fun y m => ex y env m) (asB fun z M1 => if z = true then wpSs G C b1 env M1 ⟨n, t, b, c, ex⟩ else wpSs G C b2 env M1 ⟨n, t, b, c, ex⟩)) : wpS G C (.ite a b1 b2) env M ⟨n, t, b, c, ex⟩ := q
theorem s_for {tg it b1} (q : wpI G C it env M (fun y m => ex y env m) fun ds g M1 => forD (wpSs G C b1) tg g ⟨n, t, b, c, ex⟩ ds env M1) : wpS G C (.for_ tg it b1) env M ⟨n, t, b, c, ex⟩ := q
theorem s_whl {a b1} (J : Nat → EnvD → Mh → Prop) (k : Nat) (h : J k env M) (q : ∀ k env M, J k env M → wpE G C a env M (fun y m => ex y env m) (asB fun z M1 =>
      if z = true then wpSs G C b1 env M1 ⟨fun e m => ∃ j, j < k ∧ J j e m, t, n, fun e m => ∃ j, j < k ∧ J j e m, ex⟩ else n env M1)) : wpS G C (.whl a b1) env M ⟨n, t, b, c, ex⟩ := ⟨J, ⟨k, h⟩, q⟩
theorem s_brk (q : b env M) : wpS G C .brk env M ⟨n, t, b, c, ex⟩ := q
theorem s_cont (q : c env M) : wpS G C .cont env M ⟨n, t, b, c, ex⟩ := q
theorem s_pass (q : n env M) : wpS G C .pass env M ⟨n, t, b, c, ex⟩ := q
theorem e_rvt {a} (q : wpE G C a env M X fun x M1 => rvtD x M1 Q) : wpE G C (.rvt a) env M X Q := q
theorem rvt1 {l : List D} (q : Q (.tup l.reverse) M) : rvtD (.tup l) M Q := by
  unfold rvtD
  exact q
theorem e_fld {a c f} (q : wpE G C a env M X fun x M1 => fldD x c f M1 Q) : wpE G C (.fld a c f) env M X Q := q
theorem e_meth {a c m j es} (q : wpE G C a env M X fun x M1 => insD x c m M1 (wpEs G C es env M1 X fun ds M2 => G j (x :: ds) M2 X Q)) : wpE G C (.meth a c m j es) env M X Q := q
theorem e_make {c j es} (q : wpEs G C es env M X fun ds M1 => ∀ p, M1 p = none → G j (.ref p :: ds) (mset M1 p (.ins c [])) X (fun d M2 => d = .non ∧ Q (.ref p) M2)) : wpE G C (.make c j es) env M X Q := q
theorem s_sfld {a c' f e} (q : wpE G C e env M (fun y m => ex y env m) fun d M1 => wpE G C a env M1 (fun y m => ex y env m) fun x M2 => sfldD x c' f d M2 (n env)) : wpS G C (.sfld a c' f e) env M ⟨n, t, b, c, ex⟩ := q
theorem fld1 {p : Addr} {cl f : Str} {fs : List (Str × D)} (h : M p = some (.ins cl fs)) (l : fs.lookup f = some d) (q : Q d M) : fldD (.ref p) cl f M Q := by
  unfold fldD
  simp only [h, l]
  exact ⟨trivial, q⟩
theorem ins1 {p : Addr} {cl m : Str} {fs : List (Str × D)} {k : Prop} (h : M p = some (.ins cl fs)) (l : fs.lookup m = none) (q : k) : insD (.ref p) cl m M k := by
  unfold insD
  simp only [h]
  exact ⟨⟨trivial, l⟩, q⟩
theorem sf1 {p : Addr} {cl f : Str} {fs fs' : List (Str × D)} {k : Mh → Prop} (h : M p = some (.ins cl fs)) (hl : fs.length < 1000) (e : putD f d fs = fs') (q : k (mset M p (.ins cl fs'))) : sfldD (.ref p) cl f d M k := by
  unfold sfldD
  simp only [h]
  exact ⟨⟨trivial, hl⟩, by rw [e]; exact q⟩
theorem e_lam {j b} (q : wpE G C b env M (fun x M1 => G j [.exc x.nm, .non] M1 (fun _ _ => False) Q) (fun d M1 => G j [d] M1 (fun _ _ => False) Q)) : wpE G C (.lam j b) env M X Q := q
theorem e_thk {i j} {v : V} {cc : Addr} {qq : Str} {l : List D} {ws : List V} (h : env[i]? = some (some (.thk v cc qq l ws))) (q : G j [.thk v cc qq l ws] M X Q) : wpE G C (.thk i j) env M X Q := by
  show thkD env[i]? _
  unfold thkD
  rw [h]
  exact q
theorem e_idx {a es} (q : wpE G C a env M X fun x M1 => isL M1 x = true ∧ wpEs G C es env M1 X fun ds M2 => idxD x ds M2 Q) : wpE G C (.idx a es) env M X Q := q
theorem e_fv {nm} (q : Q (.fn nm) M) : wpE G C (.fv nm) env M X Q := q
theorem e_isc {a rs cs} (q : wpE G C a env M X fun x M1 => iscD x rs cs fun b => Q (.bl b) M1) : wpE G C (.isc a rs cs) env M X Q := q
theorem e_callv {i cs es} (q : calD env[i]? cs fun j => wpEs G C es env M X fun ds M1 => G j ds M1 X Q) : wpE G C (.callv i cs es) env M X Q := q
theorem isc1 {nm : Str} {rs cs : List Str} {k : Bool → Prop} (b : Bool) (h : nm ∈ rs) (e : cs.any (subX nm) = b) (q : k b) : iscD (.exc nm) rs cs k := by
  unfold iscD
  exact ⟨h, by rw [e]; exact q⟩
theorem cal1 {o : Option (Option D)} {cs : List (Str × Nat)} {k : Nat → Prop} {nm : Str} (j : Nat) (h : o = some (some (.fn nm))) (e : cs.lookup nm = some j) (q : k j) : calD o cs k := by
  subst h
  unfold calD
  exact ⟨j, e, q⟩
theorem s_rse {cl} (q : ex ⟨cl⟩ env M) : wpS G C (.rse cl) env M ⟨n, t, b, c, ex⟩ := q
theorem s_tryo {rs cl b1 i d} (q : wpSs G C b1 env M ⟨n, t, b, c, fun x e m => x.nm ∈ rs ∧ if subX x.nm cl = true then n (e.set i (some d)) m else ex x e m⟩) : wpS G C (.tryo rs cl b1 i d) env M ⟨n, t, b, c, ex⟩ := q
theorem s_tryn {rs cl b1 j i} (q : wpSs G C b1 env M ⟨n, t, b, c, fun x e m => (x.nm ∈ rs ∧ j < e.length) ∧ if subX x.nm cl = true then n ((e.set i (some (.exc x.nm))).set j none) m else ex x e m⟩) : wpS G C (.tryn rs cl b1 j i) env M ⟨n, t, b, c, ex⟩ := q
/-- an error that the try catches -/
theorem got {A B P : Prop} {nm cl : Str} {rs : List Str} (h : nm ∈ rs) (e : subX nm cl = true) (hp : P) (q : A) : (nm ∈ rs ∧ P) ∧ if subX nm cl = true then A else B := ⟨⟨h, hp⟩, by rw [if_pos e]; exact q⟩
theorem got0 {A B : Prop} {nm cl : Str} {rs : List Str} (h : nm ∈ rs) (e : subX nm cl = true) (q : A) : nm ∈ rs ∧ if subX nm cl = true then A else B := ⟨h, by rw [if_pos e]; exact q⟩
theorem c_inD {l : List D} {z : PyData} {zs : List PyData} (h1 : toPy x = some z) (h2 : toPys l = some zs) (s1 : SeqAt.shaped z = true) (s2 : SeqAt.shaped (.list zs) = true) (q : Q (.bl (zs.any fun u => PyData.eqv u z)) M) : cmpD .In x (.lst l) M Q := by
  unfold cmpD
  exact .inr ⟨z, zs, h1, by unfold toPy; rw [h2], s1, s2, q⟩
theorem c_ninD {l : List D} {z : PyData} {zs : List PyData} (h1 : toPy x = some z) (h2 : toPys l = some zs) (s1 : SeqAt.shaped z = true) (s2 : SeqAt.shaped (.list zs) = true) (q : Q (.bl (!zs.any fun u => PyData.eqv u z)) M) : cmpD .NotIn x (.lst l) M Q := by
  unfold cmpD
  exact .inr ⟨z, zs, h1, by unfold toPy; rw [h2], s1, s2, q⟩
theorem c_inF {l : List D} (h1 : flatD x = true) (h2 : l.all flatD = true) (q : Q (.bl (inD x l)) M) : cmpD .In x (.lst l) M Q := by
  unfold cmpD
  exact .inl ⟨h1, h2, q⟩
theorem c_ninF {l : List D} (h1 : flatD x = true) (h2 : l.all flatD = true) (q : Q (.bl (!inD x l)) M) : cmpD .NotIn x (.lst l) M Q := by
  unfold cmpD
  exact .inl ⟨h1, h2, q⟩
theorem c_inFt {l : List D} (h1 : flatD x = true) (h2 : l.all flatD = true) (q : Q (.bl (inD x l)) M) : cmpD .In x (.tup l) M Q := by
  unfold cmpD
  exact ⟨h1, h2, q⟩
theorem s_frz (q : frzD env i M n) : wpS G C (.frz i) env M ⟨n, t, b, c, ex⟩ := q
theorem o_nm (q : setE env i d k) : optE (bindT (.nm i) d env) k := q
theorem if_tt {A B : Prop} {di : Decidable (true = true)} (q : A) : @ite Prop (true = true) di A B := by rw [if_pos (by simp)]; exact q
theorem if_ff {A B : Prop} {di : Decidable (false = false)} (q : A) : @ite Prop (false = false) di A B := by rw [if_pos (by simp)]; exact q
theorem if_tf {A B : Prop} {di : Decidable (true = false)} (q : B) : @ite Prop (true = false) di A B := by rw [if_neg (by simp)]; exact q
theorem if_ft {A B : Prop} {di : Decidable (false = true)} (q : B) : @ite Prop (false = true) di A B := by rw [if_neg (by simp)]; exact q
theorem if_ntt {A B : Prop} {di : Decidable ((!true) = true)} (q : B) : @ite Prop ((!true) = true) di A B := by rw [if_neg (by simp)]; exact q
theorem if_ntf {A B : Prop} {di : Decidable ((!true) = false)} (q : A) : @ite Prop ((!true) = false) di A B := by rw [if_pos (by simp)]; exact q
theorem if_nft {A B : Prop} {di : Decidable ((!false) = true)} (q : A) : @ite Prop ((!false) = true) di A B := by rw [if_pos (by simp)]; exact q
theorem if_nff {A B : Prop} {di : Decidable ((!false) = false)} (q : B) : @ite Prop ((!false) = false) di A B := by rw [if_neg (by simp)]; exact q
theorem if_df {c A B : Prop} [Decidable c] (h : ¬ c → A) (k : c → B) : (if decide c = false then A else B) := by
  by_cases z : c
  · rw [decide_eq_true z, if_neg (by decide)]; exact k z
  · rw [decide_eq_false z, if_pos rfl]; exact h z
theorem if_nf' {c A B : Prop} [Decidable c] (h : c → A) (k : ¬ c → B) : (if (!decide c) = false then A else B) := by
  by_cases z : c
  · rw [decide_eq_true z, if_pos (by decide)]; exact h z
  · rw [decide_eq_false z, if_neg (by decide)]; exact k z
theorem if_a {c A B : Prop} {di : Decidable c} (h : c) (q : A) : (if decide c = true then A else B) := if_d (fun _ => q) fun k => absurd h k
theorem if_b {c A B : Prop} {di : Decidable c} (h : ¬ c) (q : B) : (if decide c = true then A else B) := if_d (fun k => absurd k h) fun _ => q
theorem if_c {c A B : Prop} {di : Decidable c} (h : c) (q : B) : (if decide c = false then A else B) := if_df (fun k => absurd h k) fun _ => q
theorem if_e {c A B : Prop} {di : Decidable c} (h : ¬ c) (q : A) : (if decide c = false then A else B) := if_df (fun _ => q) fun k => absurd k h
theorem if_na {c A B : Prop} {di : Decidable c} (h : c) (q : B) : (if (!decide c) = true then A else B) := if_n (fun k => absurd h k) fun _ => q
theorem if_nb {c A B : Prop} {di : Decidable c} (h : ¬ c) (q : A) : (if (!decide c) = true then A else B) := if_n (fun _ => q) fun k => absurd k h
theorem if_nc {c A B : Prop} {di : Decidable c} (h : c) (q : A) : (if (!decide c) = false then A else B) := if_nf' (fun _ => q) fun k => absurd h k
theorem if_ne {c A B : Prop} {di : Decidable c} (h : ¬ c) (q : B) : (if (!decide c) = false then A else B) := if_nf' (fun k => absurd k h) fun _ => q
theorem q_sz {n : Nat} (h : n ≤ 1000000) (q : P) : n ≤ sizeLine ∧ P := ⟨sz_le h, q⟩
theorem q_szl {n : Nat} (h : n < 1000000) (q : P) : n < sizeLine ∧ P := ⟨sz_lt h, q⟩
theorem q_tr (q : P) : True ∧ P := ⟨trivial, q⟩
theorem q_nt (q : Q (.bl false) M) : Q (.bl (!true)) M := q
theorem q_nf (q : Q (.bl true) M) : Q (.bl (!false)) M := q

theorem o_tp1 {d0 : D} {i0 : Nat} (q : setE env i0 d0 fun e0 => k e0) : optE (bindT (.tp [i0]) (.tup [d0]) env) k := q
theorem o_tp2 {d0 d1 : D} {i0 i1 : Nat} (q : setE env i0 d0 fun e0 => setE e0 i1 d1 fun e1 => k e1) : optE (bindT (.tp [i0, i1]) (.tup [d0, d1]) env) k := q
theorem o_tp3 {d0 d1 d2 : D} {i0 i1 i2 : Nat} (q : setE env i0 d0 fun e0 => setE e0 i1 d1 fun e1 => setE e1 i2 d2 fun e2 => k e2) : optE (bindT (.tp [i0, i1, i2]) (.tup [d0, d1, d2]) env) k := q
theorem o_tp4 {d0 d1 d2 d3 : D} {i0 i1 i2 i3 : Nat} (q : setE env i0 d0 fun e0 => setE e0 i1 d1 fun e1 => setE e1 i2 d2 fun e2 => setE e2 i3 d3 fun e3 => k e3) : optE (bindT (.tp [i0, i1, i2, i3]) (.tup [d0, d1, d2, d3]) env) k := q
theorem o_tp5 {d0 d1 d2 d3 d4 : D} {i0 i1 i2 i3 i4 : Nat} (q : setE env i0 d0 fun e0 => setE e0 i1 d1 fun e1 => setE e1 i2 d2 fun e2 => setE e2 i3 d3 fun e3 => setE e3 i4 d4 fun e4 => k e4) : optE (bindT (.tp [i0, i1, i2, i3, i4]) (.tup [d0, d1, d2, d3, d4]) env) k := q
theorem o_tp6 {d0 d1 d2 d3 d4 d5 : D} {i0 i1 i2 i3 i4 i5 : Nat} (q : setE env i0 d0 fun e0 => setE e0 i1 d1 fun e1 => setE e1 i2 d2 fun e2 => setE e2 i3 d3 fun e3 => setE e3 i4 d4 fun e4 => setE e4 i5 d5 fun e5 => k e5) : optE (bindT (.tp [i0, i1, i2, i3, i4, i5]) (.tup [d0, d1, d2, d3, d4, d5]) env) k := q
theorem o_tp7 {d0 d1 d2 d3 d4 d5 d6 : D} {i0 i1 i2 i3 i4 i5 i6 : Nat} (q : setE env i0 d0 fun e0 => setE e0 i1 d1 fun e1 => setE e1 i2 d2 fun e2 => setE e2 i3 d3 fun e3 => setE e3 i4 d4 fun e4 => setE e4 i5 d5 fun e5 => setE e5 i6 d6 fun e6 => k e6) : optE (bindT (.tp [i0, i1, i2, i3, i4, i5, i6]) (.tup [d0, d1, d2, d3, d4, d5, d6]) env) k := q
theorem o_tl2 {d0 d1 : D} {i0 i1 : Nat} (q : setE env i0 d0 fun e0 => setE e0 i1 d1 fun e1 => k e1) : optE (bindT (.tp [i0, i1]) (.lst [d0, d1]) env) k := q
theorem o_tl3 {d0 d1 d2 : D} {i0 i1 i2 : Nat} (q : setE env i0 d0 fun e0 => setE e0 i1 d1 fun e1 => setE e1 i2 d2 fun e2 => k e2) : optE (bindT (.tp [i0, i1, i2]) (.lst [d0, d1, d2]) env) k := q
theorem g_0 {s0 : SpD} {r : List SpD} {ds : List D} (q : s0 ds M X Q) : tabG (s0 :: r) 0 ds M X Q := q
theorem g_1 {s0 s1 : SpD} {r : List SpD} {ds : List D} (q : s1 ds M X Q) : tabG (s0 :: s1 :: r) 1 ds M X Q := q
theorem g_2 {s0 s1 s2 : SpD} {r : List SpD} {ds : List D} (q : s2 ds M X Q) : tabG (s0 :: s1 :: s2 :: r) 2 ds M X Q := q
theorem g_3 {s0 s1 s2 s3 : SpD} {r : List SpD} {ds : List D} (q : s3 ds M X Q) : tabG (s0 :: s1 :: s2 :: s3 :: r) 3 ds M X Q := q
theorem g_4 {s0 s1 s2 s3 s4 : SpD} {r : List SpD} {ds : List D} (q : s4 ds M X Q) : tabG (s0 :: s1 :: s2 :: s3 :: s4 :: r) 4 ds M X Q := q
theorem g_5 {s0 s1 s2 s3 s4 s5 : SpD} {r : List SpD} {ds : List D} (q : s5 ds M X Q) : tabG (s0 :: s1 :: s2 :: s3 :: s4 :: s5 :: r) 5 ds M X Q := q
theorem g_6 {s0 s1 s2 s3 s4 s5 s6 : SpD} {r : List SpD} {ds : List D} (q : s6 ds M X Q) : tabG (s0 :: s1 :: s2 :: s3 :: s4 :: s5 :: s6 :: r) 6 ds M X Q := q
theorem g_7 {s0 s1 s2 s3 s4 s5 s6 s7 : SpD} {r : List SpD} {ds : List D} (q : s7 ds M X Q) : tabG (s0 :: s1 :: s2 :: s3 :: s4 :: s5 :: s6 :: s7 :: r) 7 ds M X Q := q
theorem g_8 {s0 s1 s2 s3 s4 s5 s6 s7 s8 : SpD} {r : List SpD} {ds : List D} (q : s8 ds M X Q) : tabG (s0 :: s1 :: s2 :: s3 :: s4 :: s5 :: s6 :: s7 :: s8 :: r) 8 ds M X Q := q
theorem g_9 {s0 s1 s2 s3 s4 s5 s6 s7 s8 s9 : SpD} {r : List SpD} {ds : List D} (q : s9 ds M X Q) : tabG (s0 :: s1 :: s2 :: s3 :: s4 :: s5 :: s6 :: s7 :: s8 :: s9 :: r) 9 ds M X Q := q
theorem g_10 {s0 s1 s2 s3 s4 s5 s6 s7 s8 s9 s10 : SpD} {r : List SpD} {ds : List D} (q : s10 ds M X Q) : tabG (s0 :: s1 :: s2 :: s3 :: s4 :: s5 :: s6 :: s7 :: s8 :: s9 :: s10 :: r) 10 ds M X Q := q
theorem g_11 {s0 s1 s2 s3 s4 s5 s6 s7 s8 s9 s10 s11 : SpD} {r : List SpD} {ds : List D} (q : s11 ds M X Q) : tabG (s0 :: s1 :: s2 :: s3 :: s4 :: s5 :: s6 :: s7 :: s8 :: s9 :: s10 :: s11 :: r) 11 ds M X Q := q
theorem g_12 {s0 s1 s2 s3 s4 s5 s6 s7 s8 s9 s10 s11 s12 : SpD} {r : List SpD} {ds : List D} (q : s12 ds M X Q) : tabG (s0 :: s1 :: s2 :: s3 :: s4 :: s5 :: s6 :: s7 :: s8 :: s9 :: s10 :: s11 :: s12 :: r) 12 ds M X Q := q
theorem g_13 {s0 s1 s2 s3 s4 s5 s6 s7 s8 s9 s10 s11 s12 s13 : SpD} {r : List SpD} {ds : List D} (q : s13 ds M X Q) : tabG (s0 :: s1 :: s2 :: s3 :: s4 :: s5 :: s6 :: s7 :: s8 :: s9 :: s10 :: s11 :: s12 :: s13 :: r) 13 ds M X Q := q
theorem g_14 {s0 s1 s2 s3 s4 s5 s6 s7 s8 s9 s10 s11 s12 s13 s14 : SpD} {r : List SpD} {ds : List D} (q : s14 ds M X Q) : tabG (s0 :: s1 :: s2 :: s3 :: s4 :: s5 :: s6 :: s7 :: s8 :: s9 :: s10 :: s11 :: s12 :: s13 :: s14 :: r) 14 ds M X Q := q
theorem g_15 {s0 s1 s2 s3 s4 s5 s6 s7 s8 s9 s10 s11 s12 s13 s14 s15 : SpD} {r : List SpD} {ds : List D} (q : s15 ds M X Q) : tabG (s0 :: s1 :: s2 :: s3 :: s4 :: s5 :: s6 :: s7 :: s8 :: s9 :: s10 :: s11 :: s12 :: s13 :: s14 :: s15 :: r) 15 ds M X Q := q
theorem g_16 {s0 s1 s2 s3 s4 s5 s6 s7 s8 s9 s10 s11 s12 s13 s14 s15 s16 : SpD} {r : List SpD} {ds : List D} (q : s16 ds M X Q) : tabG (s0 :: s1 :: s2 :: s3 :: s4 :: s5 :: s6 :: s7 :: s8 :: s9 :: s10 :: s11 :: s12 :: s13 :: s14 :: s15 :: s16 :: r) 16 ds M X Q := q
theorem g_17 {s0 s1 s2 s3 s4 s5 s6 s7 s8 s9 s10 s11 s12 s13 s14 s15 s16 s17 : SpD} {r : List SpD} {ds : List D} (q : s17 ds M X Q) : tabG (s0 :: s1 :: s2 :: s3 :: s4 :: s5 :: s6 :: s7 :: s8 :: s9 :: s10 :: s11 :: s12 :: s13 :: s14 :: s15 :: s16 :: s17 :: r) 17 ds M X Q := q
theorem g_18 {s0 s1 s2 s3 s4 s5 s6 s7 s8 s9 s10 s11 s12 s13 s14 s15 s16 s17 s18 : SpD} {r : List SpD} {ds : List D} (q : s18 ds M X Q) : tabG (s0 :: s1 :: s2 :: s3 :: s4 :: s5 :: s6 :: s7 :: s8 :: s9 :: s10 :: s11 :: s12 :: s13 :: s14 :: s15 :: s16 :: s17 :: s18 :: r) 18 ds M X Q := q
theorem g_19 {s0 s1 s2 s3 s4 s5 s6 s7 s8 s9 s10 s11 s12 s13 s14 s15 s16 s17 s18 s19 : SpD} {r : List SpD} {ds : List D} (q : s19 ds M X Q) : tabG (s0 :: s1 :: s2 :: s3 :: s4 :: s5 :: s6 :: s7 :: s8 :: s9 :: s10 :: s11 :: s12 :: s13 :: s14 :: s15 :: s16 :: s17 :: s18 :: s19 :: r) 19 ds M X Q := q
theorem g_20 {s0 s1 s2 s3 s4 s5 s6 s7 s8 s9 s10 s11 s12 s13 s14 s15 s16 s17 s18 s19 s20 : SpD} {r : List SpD} {ds : List D} (q : s20 ds M X Q) : tabG (s0 :: s1 :: s2 :: s3 :: s4 :: s5 :: s6 :: s7 :: s8 :: s9 :: s10 :: s11 :: s12 :: s13 :: s14 :: s15 :: s16 :: s17 :: s18 :: s19 :: s20 :: r) 20 ds M X Q := q
theorem g_21 {s0 s1 s2 s3 s4 s5 s6 s7 s8 s9 s10 s11 s12 s13 s14 s15 s16 s17 s18 s19 s20 s21 : SpD} {r : List SpD} {ds : List D} (q : s21 ds M X Q) : tabG (s0 :: s1 :: s2 :: s3 :: s4 :: s5 :: s6 :: s7 :: s8 :: s9 :: s10 :: s11 :: s12 :: s13 :: s14 :: s15 :: s16 :: s17 :: s18 :: s19 :: s20 :: s21 :: r) 21 ds M X Q := q
theorem g_22 {s0 s1 s2 s3 s4 s5 s6 s7 s8 s9 s10 s11 s12 s13 s14 s15 s16 s17 s18 s19 s20 s21 s22 : SpD} {r : List SpD} {ds : List D} (q : s22 ds M X Q) : tabG (s0 :: s1 :: s2 :: s3 :: s4 :: s5 :: s6 :: s7 :: s8 :: s9 :: s10 :: s11 :: s12 :: s13 :: s14 :: s15 :: s16 :: s17 :: s18 :: s19 :: s20 :: s21 :: s22 :: r) 22 ds M X Q := q
theorem g_23 {s0 s1 s2 s3 s4 s5 s6 s7 s8 s9 s10 s11 s12 s13 s14 s15 s16 s17 s18 s19 s20 s21 s22 s23 : SpD} {r : List SpD} {ds : List D} (q : s23 ds M X Q) : tabG (s0 :: s1 :: s2 :: s3 :: s4 :: s5 :: s6 :: s7 :: s8 :: s9 :: s10 :: s11 :: s12 :: s13 :: s14 :: s15 :: s16 :: s17 :: s18 :: s19 :: s20 :: s21 :: s22 :: s23 :: r) 23 ds M X Q := q
theorem g_24 {s0 s1 s2 s3 s4 s5 s6 s7 s8 s9 s10 s11 s12 s13 s14 s15 s16 s17 s18 s19 s20 s21 s22 s23 s24 : SpD} {r : List SpD} {ds : List D} (q : s24 ds M X Q) : tabG (s0 :: s1 :: s2 :: s3 :: s4 :: s5 :: s6 :: s7 :: s8 :: s9 :: s10 :: s11 :: s12 :: s13 :: s14 :: s15 :: s16 :: s17 :: s18 :: s19 :: s20 :: s21 :: s22 :: s23 :: s24 :: r) 24 ds M X Q := q
theorem g_25 {s0 s1 s2 s3 s4 s5 s6 s7 s8 s9 s10 s11 s12 s13 s14 s15 s16 s17 s18 s19 s20 s21 s22 s23 s24 s25 : SpD} {r : List SpD} {ds : List D} (q : s25 ds M X Q) : tabG (s0 :: s1 :: s2 :: s3 :: s4 :: s5 :: s6 :: s7 :: s8 :: s9 :: s10 :: s11 :: s12 :: s13 :: s14 :: s15 :: s16 :: s17 :: s18 :: s19 :: s20 :: s21 :: s22 :: s23 :: s24 :: s25 :: r) 25 ds M X Q := q
theorem g_26 {s0 s1 s2 s3 s4 s5 s6 s7 s8 s9 s10 s11 s12 s13 s14 s15 s16 s17 s18 s19 s20 s21 s22 s23 s24 s25 s26 : SpD} {r : List SpD} {ds : List D} (q : s26 ds M X Q) : tabG (s0 :: s1 :: s2 :: s3 :: s4 :: s5 :: s6 :: s7 :: s8 :: s9 :: s10 :: s11 :: s12 :: s13 :: s14 :: s15 :: s16 :: s17 :: s18 :: s19 :: s20 :: s21 :: s22 :: s23 :: s24 :: s25 :: s26 :: r) 26 ds M X Q := q
theorem g_27 {s0 s1 s2 s3 s4 s5 s6 s7 s8 s9 s10 s11 s12 s13 s14 s15 s16 s17 s18 s19 s20 s21 s22 s23 s24 s25 s26 s27 : SpD} {r : List SpD} {ds : List D} (q : s27 ds M X Q) : tabG (s0 :: s1 :: s2 :: s3 :: s4 :: s5 :: s6 :: s7 :: s8 :: s9 :: s10 :: s11 :: s12 :: s13 :: s14 :: s15 :: s16 :: s17 :: s18 :: s19 :: s20 :: s21 :: s22 :: s23 :: s24 :: s25 :: s26 :: s27 :: r) 27 ds M X Q := q
theorem g_28 {s0 s1 s2 s3 s4 s5 s6 s7 s8 s9 s10 s11 s12 s13 s14 s15 s16 s17 s18 s19 s20 s21 s22 s23 s24 s25 s26 s27 s28 : SpD} {r : List SpD} {ds : List D} (q : s28 ds M X Q) : tabG (s0 :: s1 :: s2 :: s3 :: s4 :: s5 :: s6 :: s7 :: s8 :: s9 :: s10 :: s11 :: s12 :: s13 :: s14 :: s15 :: s16 :: s17 :: s18 :: s19 :: s20 :: s21 :: s22 :: s23 :: s24 :: s25 :: s26 :: s27 :: s28 :: r) 28 ds M X Q := q
theorem g_29 {s0 s1 s2 s3 s4 s5 s6 s7 s8 s9 s10 s11 s12 s13 s14 s15 s16 s17 s18 s19 s20 s21 s22 s23 s24 s25 s26 s27 s28 s29 : SpD} {r : List SpD} {ds : List D} (q : s29 ds M X Q) : tabG (s0 :: s1 :: s2 :: s3 :: s4 :: s5 :: s6 :: s7 :: s8 :: s9 :: s10 :: s11 :: s12 :: s13 :: s14 :: s15 :: s16 :: s17 :: s18 :: s19 :: s20 :: s21 :: s22 :: s23 :: s24 :: s25 :: s26 :: s27 :: s28 :: s29 :: r) 29 ds M X Q := q
theorem c_0 {d0 : D} {r : List D} (q : Q d0 M) : wpE G (tabC (d0 :: r)) (.g 0) env M X Q := q
theorem c_1 {d0 d1 : D} {r : List D} (q : Q d1 M) : wpE G (tabC (d0 :: d1 :: r)) (.g 1) env M X Q := q
theorem c_2 {d0 d1 d2 : D} {r : List D} (q : Q d2 M) : wpE G (tabC (d0 :: d1 :: d2 :: r)) (.g 2) env M X Q := q
theorem c_3 {d0 d1 d2 d3 : D} {r : List D} (q : Q d3 M) : wpE G (tabC (d0 :: d1 :: d2 :: d3 :: r)) (.g 3) env M X Q := q
theorem c_4 {d0 d1 d2 d3 d4 : D} {r : List D} (q : Q d4 M) : wpE G (tabC (d0 :: d1 :: d2 :: d3 :: d4 :: r)) (.g 4) env M X Q := q
theorem c_5 {d0 d1 d2 d3 d4 d5 : D} {r : List D} (q : Q d5 M) : wpE G (tabC (d0 :: d1 :: d2 :: d3 :: d4 :: d5 :: r)) (.g 5) env M X Q := q
theorem c_6 {d0 d1 d2 d3 d4 d5 d6 : D} {r : List D} (q : Q d6 M) : wpE G (tabC (d0 :: d1 :: d2 :: d3 :: d4 :: d5 :: d6 :: r)) (.g 6) env M X Q := q
theorem c_7 {d0 d1 d2 d3 d4 d5 d6 d7 : D} {r : List D} (q : Q d7 M) : wpE G (tabC (d0 :: d1 :: d2 :: d3 :: d4 :: d5 :: d6 :: d7 :: r)) (.g 7) env M X Q := q

theorem n_add {a b : Int} (q : Q (.int (a + b)) M) : binD .Add (view M (.int a)) (view M (.int b)) M Q := q
theorem n_sub {a b : Int} (q : Q (.int (a - b)) M) : binD .Sub (view M (.int a)) (view M (.int b)) M Q := q
theorem n_mul {a b : Int} (h : mulOk a b) (q : Q (.int (a * b)) M) : binD .Mult (view M (.int a)) (view M (.int b)) M Q := ⟨h, q⟩
theorem n_div {a b : Int} (h : divOk a b) (q : Q (.int (a / b)) M) : binD .FloorDiv (view M (.int a)) (view M (.int b)) M Q := ⟨h, q⟩
theorem n_mod {a b : Int} (h : 0 < b) (q : Q (.int (a % b)) M) : binD .Mod (view M (.int a)) (view M (.int b)) M Q := ⟨h, q⟩
theorem n_pow {a b : Int} (h : CPow a b) (q : Q (.int (a ^ b.toNat)) M) : binD .Pow (view M (.int a)) (view M (.int b)) M Q := ⟨h, q⟩
theorem n_adT {a b : List D} (h : a.length + b.length ≤ 1000000) (q : Q (.tup (a ++ b)) M) : binD .Add (view M (.tup a)) (view M (.tup b)) M Q := ⟨sz_le h, q⟩
theorem n_adL {a b : List D} (h : a.length + b.length ≤ 1000000) (q : Q (.lst (a ++ b)) M) : binD .Add (view M (.lst a)) (view M (.lst b)) M Q := ⟨sz_le h, q⟩
theorem n_adS {a b : Str} (h : a.length + b.length ≤ 1000000) (q : Q (.str (a ++ b)) M) : binD .Add (view M (.str a)) (view M (.str b)) M Q := ⟨sz_le h, q⟩
theorem n_adTi {a b : List Int} (h : a.length + b.length ≤ 1000000) (q : Q (.tup (il (a ++ b))) M) : binD .Add (view M (.tup (il a))) (view M (.tup (il b))) M Q := n_adT (by rw [il_len, il_len]; exact h) (by rw [il_app]; exact q)
theorem n_adLi {a b : List Int} (h : a.length + b.length ≤ 1000000) (q : Q (.lst (il (a ++ b))) M) : binD .Add (view M (.lst (il a))) (view M (.lst (il b))) M Q := n_adL (by rw [il_len, il_len]; exact h) (by rw [il_app]; exact q)
theorem n_adTi1 {a : List Int} {b : Int} (h : a.length + 1 ≤ 1000000) (q : Q (.tup (il (a ++ [b]))) M) : binD .Add (view M (.tup (il a))) (view M (.tup [.int b])) M Q := n_adTi (b := [b]) h q
theorem n_adLi1 {a : List Int} {b : Int} (h : a.length + 1 ≤ 1000000) (q : Q (.lst (il (a ++ [b]))) M) : binD .Add (view M (.lst (il a))) (view M (.lst [.int b])) M Q := n_adLi (b := [b]) h q
theorem n_adLi2 {a : List Int} {b b2 : Int} (h : a.length + 2 ≤ 1000000) (q : Q (.lst (il (a ++ [b, b2]))) M) : binD .Add (view M (.lst (il a))) (view M (.lst [.int b, .int b2])) M Q := n_adLi (b := [b, b2]) h q
theorem n_ad1i {a : Int} {b : List Int} (h : 1 + b.length ≤ 1000000) (q : Q (.lst (il (a :: b))) M) : binD .Add (view M (.lst [.int a])) (view M (.lst (il b))) M Q := n_adLi (a := [a]) (by simp; omega) q
theorem n_reL {a : List D} {b : Int} (h0 : 0 ≤ b) (h : a.length * b.toNat ≤ 1000000) (q : Q (.lst (List.replicate b.toNat a).flatten) M) (h1 : b < 2 ^ 63) : binD .Mult (view M (.lst a)) (view M (.int b)) M Q := ⟨⟨by omega, h1, sz_le h⟩, q⟩
theorem n_re1 {a b : Int} (h0 : 0 ≤ b) (h : b ≤ 1000000) (q : Q (.lst (il (List.replicate b.toNat a))) M) : binD .Mult (view M (.lst [.int a])) (view M (.int b)) M Q := n_reL h0 (by simp; omega) (by rw [rep_il]; exact q) (by omega)
theorem n_reT {a b : Int} (h0 : 0 ≤ b) (h : b ≤ 1000) (q : Q (.tup (il (List.replicate b.toNat a))) M) : binD .Mult (view M (.tup [.int a])) (view M (.int b)) M Q := ⟨⟨by simp, h0, h, by simp⟩, by rw [rep_il]; exact q⟩
theorem c_isb {a b : Bool} (q : Q (.bl (decide (a = b))) M) : cmpD .Is (.bl a) (.bl b) M Q := by unfold cmpD; exact q
theorem c_isnb {a b : Bool} (q : Q (.bl (!decide (a = b))) M) : cmpD .IsNot (.bl a) (.bl b) M Q := by unfold cmpD; exact q
theorem n_ca {a b : List D} (h : a.length + b.length ≤ 1000000) (q : kl (a ++ b)) : catN (view M (.lst a)) (view M (.lst b)) kl := ⟨sz_le h, q⟩
theorem n_cai {a b : List Int} (h : a.length + b.length ≤ 1000000) (q : kl (il (a ++ b))) : catN (view M (.lst (il a))) (view M (.lst (il b))) kl := n_ca (by rw [il_len, il_len]; exact h) (by rw [il_app]; exact q)
theorem n_cai1 {a : List Int} {b : Int} (h : a.length + 1 ≤ 1000000) (q : kl (il (a ++ [b]))) : catN (view M (.lst (il a))) (view M (.lst [.int b])) kl := n_cai (b := [b]) h q
theorem n_rp1 {a b : Int} (h0 : 0 ≤ b) (h : b ≤ 1000000) (q : kl (il (List.replicate b.toNat a))) : repN (view M (.lst [.int a])) (.int b) kl := ⟨⟨by omega, by omega, sz_le (by simp; omega)⟩, by rw [rep_il]; exact q⟩
theorem i_ii {M' : Mh} {a : Int} {k : D → Prop} (q : k (.bl true)) : isiD (view M' (.int a)) "int" k := isi_int q
theorem i_ib {M' : Mh} {a : Int} {k : D → Prop} (q : k (.bl false)) : isiD (view M' (.int a)) "bool" k := isi_intb q
theorem i_bb {M' : Mh} {a : Bool} {k : D → Prop} (q : k (.bl true)) : isiD (view M' (.bl a)) "bool" k := isi_any (t := "bool") rfl kit_all.2.2.2.2.2.2.2.1 q
theorem i_ll {M' : Mh} {a : List D} {k : D → Prop} (q : k (.bl true)) : isiD (view M' (.lst a)) "list" k := isi_any (t := "list") rfl kit_lst.2.2.2.2.2.1 q
theorem kit_more : kitB "tuple" "tuple" = some true ∧ kitB "NoneType" "tuple" = some false ∧ kitB "bool" "tuple" = some false ∧ kitB "int" "tuple" = some false ∧ kitB "str" "tuple" = some false ∧ kitB "list" "tuple" = some false ∧ kitB "dict" "tuple" = some false := by decide +kernel
theorem i_tt {M' : Mh} {a : List D} {k : D → Prop} (q : k (.bl true)) : isiD (view M' (.tup a)) "tuple" k := isi_any (t := "tuple") rfl kit_more.1 q
theorem m_len1 {s : Str} (h : s.length ≤ 1000000) (q : Q (.int s.length) M) : biD .len [.str s] M Q := by unfold biD; exact ⟨sz_le h, q⟩
theorem tupLi {l : List Int} (q : Q (.tup (il l)) M) : biD .tup [.lst (il l)] M Q := b_tupL q
theorem p_ap {p : Addr} {l : List Int} {a : Int} (h : M p = some (.lst (il l))) (h1 : l.length < 1000000) (q : Q .non (mset M p (.lst (il (l ++ [a]))))) : isL M (.ref p) = true ∧ meD .append (.ref p) [.int a] M Q := ⟨isL_C h, m_appi h h1 q⟩
theorem m_isl {p : Addr} {l : List D} (h : M p = some (.lst l)) (q : P) : isL M (.ref p) = true ∧ P := ⟨isL_C h, q⟩
theorem n_bi {b : Bool} (q : Q (.int (if b then 1 else 0)) M) : biD .int [.bl b] M Q := by unfold biD; exact q
theorem for_ok {body : EnvD → Mh → EndsD → Prop} {tg : Tgt} {guard : Mh → Prop} (J : Nat → EnvD → Mh → Prop) {ds : List D} (h0 : J 0 env M)
    (hs : ∀ i env M (Kn : EnvD → Mh → Prop), (∀ e m, J (i + 1) e m → Kn e m) → ∀ d, ds[i]? = some d → J i env M → guard M ∧ optE (bindT tg d env) fun env' => body env' M ⟨Kn, t, n, Kn, ex⟩)
    (hn : ∀ env M, J ds.length env M → guard M ∧ n env M) : forD body tg guard ⟨n, t, b, c, ex⟩ ds env M :=
  for_inv J (n := 0) h0 (fun i env M Kn hk d hd hJ => hs i env M Kn (fun e m q => hk e m (by rw [Nat.zero_add]; exact q)) d hd (by rw [Nat.zero_add] at hJ; exact hJ)) (fun env M hJ => hn env M (by rw [Nat.zero_add] at hJ; exact hJ))
theorem comp_ok {body : EnvD → Mh → (D → Mh → Prop) → Prop} {test : EnvD → Mh → (Bool → Mh → Prop) → Prop} {tg : Tgt} {guard : Mh → Prop} {Qn : List D → Mh → Prop} (J : Nat → List D → Mh → Prop) {ds : List D} (h0 : J 0 [] M)
    (hs : ∀ i acc M (Kn : List D → Mh → Prop), (∀ a m, J (i + 1) a m → Kn a m) → ∀ d, ds[i]? = some d → J i acc M → guard M ∧ optE (bindT tg d env) fun env' => test env' M fun b M1 => if b = true then body env' M1 fun x M2 => acc.length < sizeLine ∧ Kn (acc ++ [x]) M2 else Kn acc M1)
    (hn : ∀ acc M, J ds.length acc M → guard M ∧ Qn acc M) : compD body test tg env guard ds [] M Qn :=
  comp_inv J (n := 0) h0 (fun i acc M Kn hk d hd hJ => hs i acc M Kn (fun e m q => hk e m (by rw [Nat.zero_add]; exact q)) d hd (by rw [Nat.zero_add] at hJ; exact hJ)) (fun acc M hJ => hn acc M (by rw [Nat.zero_add] at hJ; exact hJ))
theorem fzs {k : EnvD → Mh → Prop} (q : frzD r i M fun e m => k (u :: e) m) : frzD (u :: r) (i + 1) M k := by
  unfold frzD at q ⊢
  exact q
theorem fz0 {k : EnvD → Mh → Prop} {p : Addr} {l : List D} (h : M p = some (.lst l)) (q : k (some (.lst l) :: r) (mdel M p)) : frzD (some (.ref p) :: r) 0 M k := f_z (n := 0) rfl h q
theorem comp_il {body : EnvD → Mh → (D → Mh → Prop) → Prop} {test : EnvD → Mh → (Bool → Mh → Prop) → Prop} {tg : Tgt} {guard : Mh → Prop} {Qn : List D → Mh → Prop} {ds : List D} (f : Nat → Int) (hz : ds.length ≤ 1000000) (I : Mh → Prop) (h0 : I M)
    (hs : ∀ i m d, ds[i]? = some d → I m → ∀ (Qn : QD) (Kf : Mh → Prop), (∀ m', I m' → Qn (.int (f i)) m') → guard m ∧ optE (bindT tg d env) fun env' => test env' m fun b M1 => if b = true then body env' M1 Qn else Kf M1)
    (hn : ∀ m, I m → guard m ∧ Qn (il ((List.range ds.length).map f)) m) : compD body test tg env guard ds [] M Qn := by
  refine comp_ok (fun i acc m => acc = il ((List.range i).map f) ∧ I m) ⟨rfl, h0⟩ ?_ ?_
  · rintro i acc m Kn hk d hd ⟨rfl, hI⟩
    have hi := (List.getElem?_eq_some_iff.mp hd).1
    refine hs i m d hd hI _ _ fun m' hI' => ⟨sz_lt (by rw [il_len]; simp; omega), hk _ _ ⟨?_, hI'⟩⟩
    rw [il_one, il_app, List.range_succ, List.map_append]
    rfl
  · rintro acc m ⟨rfl, hI⟩
    exact hn m hI
theorem il_at {l : List Int} {i : Nat} {d : D} (h : (il l)[i]? = some d) : i < l.length ∧ d = .int (gt l i) := by
  have hi := (List.getElem?_eq_some_iff.mp h).1
  rw [il_len] at hi
  rw [il_get hi] at h
  cases h
  exact ⟨hi, rfl⟩
theorem n_adV {a : List Int} {b : List Int} {d : D} (hv : Vw M d a) (h : a.length + b.length ≤ 1000000) (q : Q (.lst (il (a ++ b))) M) : binD .Add (view M d) (view M (.lst (il b))) M Q := by
  rw [hv.1]
  exact n_adLi (M := M) h q
theorem n_adV1 {a : List Int} {b : Int} {d : D} (hv : Vw M d a) (h : a.length + 1 ≤ 1000000) (q : Q (.lst (il (a ++ [b]))) M) : binD .Add (view M d) (view M (.lst [.int b])) M Q := n_adV (b := [b]) hv h q
theorem c_neN (q : Q (.bl false) M) : cmpD .NotEq .non .non M Q := by
  unfold cmpD
  exact ⟨by decide, by decide, q⟩
theorem c_neT {l r : List Int} (q : Q (.bl (!decide (l = r))) M) : cmpD .NotEq (.tup (il l)) (.tup (il r)) M Q := by
  unfold cmpD
  show eqQ true (.tup (il l)) (.tup (il r)) M Q
  unfold eqQ
  simp only [toPy_tup]
  refine ⟨shaped_tup, shaped_tup, ?_⟩
  rw [show PyData.eqv (.tuple (l.map PyData.int)) (.tuple (r.map PyData.int)) = decide (l = r) by rw [← eqv_ints]; simp only [PyData.eqv]]
  exact q
theorem t_slh {l : List Int} {i : Int} (h0 : 0 ≤ i) (q : Q (.tup (il (l.take i.toNat))) M) : slD (.tup (il l)) none (some i) M Q := by
  unfold slD
  show Q (.tup (PD.cutD (il l) none (some i))) M
  rw [cut_hi h0, il_take]
  exact q
theorem t_sll {l : List Int} {i : Int} (h0 : 0 ≤ i) (q : Q (.tup (il (l.drop i.toNat))) M) : slD (.tup (il l)) (some i) none M Q := by
  unfold slD
  show Q (.tup (PD.cutD (il l) (some i) none)) M
  rw [cut_lo h0, il_drop]
  exact q
theorem t_slg {l : List D} {i : Int} (h0 : 0 ≤ i) (q : Q (.tup (l.drop i.toNat)) M) : slD (.tup l) (some i) none M Q := by
  unfold slD
  show Q (.tup (PD.cutD l (some i) none)) M
  rw [cut_lo h0]
  exact q
theorem cut_both {l : List D} {i j : Int} (h0 : 0 ≤ i) (h1 : i ≤ j) (h2 : j ≤ l.length) : PD.cutD l (some i) (some j) = (l.drop i.toNat).take (j.toNat - i.toNat) := by
  unfold PD.cutD
  have e1 : HT.sIx l.length 0 (some i) = i.toNat := by
    show (if i < 0 then _ else min i.toNat l.length) = _
    rw [if_neg (by omega)]
    omega
  have e2 : HT.sIx l.length l.length (some j) = j.toNat := by
    show (if j < 0 then _ else min j.toNat l.length) = _
    rw [if_neg (by omega)]
    omega
  rw [e1, e2]
theorem l_slb {l : List Int} {i j : Int} (h0 : 0 ≤ i) (h1 : i ≤ j) (h2 : j ≤ l.length) (q : Q (.lst (il ((l.drop i.toNat).take (j.toNat - i.toNat)))) M) : slD (.lst (il l)) (some i) (some j) M Q := by
  unfold slD
  show Q (.lst (PD.cutD (il l) (some i) (some j))) M
  rw [cut_both h0 h1 (by rw [il_len]; exact h2), il_drop, il_take]
  exact q
theorem t_slb {l : List Int} {i j : Int} (h0 : 0 ≤ i) (h1 : i ≤ j) (h2 : j ≤ l.length) (q : Q (.tup (il ((l.drop i.toNat).take (j.toNat - i.toNat)))) M) : slD (.tup (il l)) (some i) (some j) M Q := by
  unfold slD
  show Q (.tup (PD.cutD (il l) (some i) (some j))) M
  rw [cut_both h0 h1 (by rw [il_len]; exact h2), il_drop, il_take]
  exact q
theorem t_tupi {l : List Int} (q : Q (.tup (il l)) M) : biD .tup [.tup (il l)] M Q := b_tupT q
theorem b_sorted {l : List Int} (q : ∀ l' : List Int, l'.Perm l → l'.Pairwise (· ≤ ·) → Q (.lst (il l')) M) : biD .sorted [.lst (il l)] M Q := by
  unfold biD
  show match intsD (il l) with | some ns => ∀ ns' : List Int, ns'.Perm ns → ns'.Pairwise (· ≤ ·) → Q (.lst (ns'.map .int)) M | none => False
  rw [intsD_il]
  exact q
/-- what stands behind a row, by what it asks alone -/
theorem s_J {s : S} (J : EnvD → Mh → Prop) (h2 : ∀ e m, J e m → n e m) (h1 : ∀ nn : EnvD → Mh → Prop, (∀ e m, J e m → nn e m) → wpS G C s env M ⟨nn, t, b, c, ex⟩) : wpS G C s env M ⟨n, t, b, c, ex⟩ := h1 n h2
theorem x_l0 {r : List D} (q : Q d M) : ixD (.lst (d :: r)) (.int 0) M Q := x_L (at_pos (n := 0) rfl rfl) q
theorem x_l1 {d0 : D} {r : List D} (q : Q d M) : ixD (.lst (d0 :: d :: r)) (.int 1) M Q := x_L (at_pos (n := 1) rfl rfl) q
theorem x_l2 {d0 d1 : D} {r : List D} (q : Q d M) : ixD (.lst (d0 :: d1 :: d :: r)) (.int 2) M Q := x_L (at_pos (n := 2) rfl rfl) q
theorem c_iN (q : Q (.bl true) M) : cmpD .Is .non .non M Q := c_is q
theorem c_nN (q : Q (.bl false) M) : cmpD .IsNot .non .non M Q := c_isn q
theorem c_iI {a : Int} (q : Q (.bl false) M) : cmpD .Is (.int a) .non M Q := c_is q
theorem c_nI {a : Int} (q : Q (.bl true) M) : cmpD .IsNot (.int a) .non M Q := c_isn q
theorem c_iT {a : List D} (q : Q (.bl false) M) : cmpD .Is (.tup a) .non M Q := c_is q
theorem c_nT {a : List D} (q : Q (.bl true) M) : cmpD .IsNot (.tup a) .non M Q := c_isn q
theorem c_iL {a : List D} (q : Q (.bl false) M) : cmpD .Is (.lst a) .non M Q := c_is q
theorem c_nL {a : List D} (q : Q (.bl true) M) : cmpD .IsNot (.lst a) .non M Q := c_isn q
theorem c_iB {a : Bool} (q : Q (.bl false) M) : cmpD .Is (.bl a) .non M Q := c_is q
theorem c_nB {a : Bool} (q : Q (.bl true) M) : cmpD .IsNot (.bl a) .non M Q := c_isn q
theorem c_iS {a : Str} (q : Q (.bl false) M) : cmpD .Is (.str a) .non M Q := c_is q
theorem c_nS {a : Str} (q : Q (.bl true) M) : cmpD .IsNot (.str a) .non M Q := c_isn q
theorem v_slh {l : List Int} {i : Int} {d : D} (hv : Vw M d l) (h0 : 0 ≤ i) (q : Q (.lst (il (l.take i.toNat))) M) : slD d none (some i) M Q := by
  rcases hv.2 with rfl | ⟨p, rfl, h⟩
  · exact sl_hiLi h0 q
  · exact sl_hiCi h h0 q
theorem v_sll {l : List Int} {i : Int} {d : D} (hv : Vw M d l) (h0 : 0 ≤ i) (q : Q (.lst (il (l.drop i.toNat))) M) : slD d (some i) none M Q := by
  rcases hv.2 with rfl | ⟨p, rfl, h⟩
  · exact sl_loLi h0 q
  · exact sl_loCi h h0 q
theorem v_min1 {l : List Int} {d : D} (hv : Vw M d l) (h : 0 < l.length) (q : Q (.int (minL l)) M) : biD .min1 [d] M Q := by
  unfold biD
  simp only [hv.1, intsD_il]
  exact ⟨h, q⟩
theorem v_max1 {l : List Int} {d : D} (hv : Vw M d l) (h : 0 < l.length) (q : Q (.int (maxL l)) M) : biD .max1 [d] M Q := by
  unfold biD
  simp only [hv.1, intsD_il]
  exact ⟨h, q⟩
theorem v_isl {l : List Int} {d : D} (hv : Vw M d l) {k : D → Prop} (q : k (.bl true)) : isiD (view M d) "list" k := by
  rw [hv.1]
  exact i_ll (M' := M) q
theorem m_rev {p : Addr} {l : List D} (h : M p = some (.lst l)) (q : Q .non (mset M p (.lst l.reverse))) : meD .reverse (.ref p) [] M Q := by
  unfold meD
  simp only [h]
  exact q
theorem ix_nn {n k : Nat} {i : Int} (e : i = k) (h : k < n) : ixN n i = some k := by
  rw [e]
  unfold ixN
  rw [if_pos (by omega), if_pos (by omega), Int.toNat_natCast]
theorem zi_get {l s : List Int} {n : Nat} {d : D} (h : ((il l).zipWith (fun x y => .tup [x, y]) (il s))[n]? = some d) : n < l.length ∧ n < s.length ∧ d = .tup [.int (gt l n), .int (gt s n)] := by
  obtain ⟨hn, e⟩ := List.getElem?_eq_some_iff.mp h
  rw [List.length_zipWith, il_len, il_len] at hn
  have h1 : n < l.length := by omega
  have h2 : n < s.length := by omega
  refine ⟨h1, h2, ?_⟩
  rw [← e, List.getElem_zipWith]
  have e1 := il_get (l := l) h1
  have e2 := il_get (l := s) h2
  rw [(List.getElem?_eq_some_iff.mp e1).2, (List.getElem?_eq_some_iff.mp e2).2]
theorem zi_len {l s : List Int} : ((il l).zipWith (fun x y => D.tup [x, y]) (il s)).length = min l.length s.length := by rw [List.length_zipWith, il_len, il_len]
theorem z_L {a b : List D} (q : kl (a.zipWith (fun x y => .tup [x, y]) b)) : zipD (.lst a) (.lst b) kl := by unfold zipD; exact q

theorem p_3 (q : Q (.int 1000) M) : binD .Pow (view M (.int 10)) (view M (.int 3)) M Q := ⟨⟨by decide, by decide, by decide⟩, q⟩
theorem p_5 (q : Q (.int 100000) M) : binD .Pow (view M (.int 10)) (view M (.int 5)) M Q := ⟨⟨by decide, by decide, by decide⟩, q⟩
theorem p_6 (q : Q (.int 1000000) M) : binD .Pow (view M (.int 10)) (view M (.int 6)) M Q := ⟨⟨by decide, by decide, by decide⟩, q⟩
theorem p_7 (q : Q (.int 10000000) M) : binD .Pow (view M (.int 10)) (view M (.int 7)) M Q := ⟨⟨by decide, by decide, by decide⟩, q⟩
theorem p_8 (q : Q (.int 100000000) M) : binD .Pow (view M (.int 10)) (view M (.int 8)) M Q := ⟨⟨by decide, by decide, by decide⟩, q⟩
theorem p_9 (q : Q (.int 1000000000) M) : binD .Pow (view M (.int 10)) (view M (.int 9)) M Q := ⟨⟨by decide, by decide, by decide⟩, q⟩
theorem p_10 (q : Q (.int 10000000000) M) : binD .Pow (view M (.int 10)) (view M (.int 10)) M Q := ⟨⟨by decide, by decide, by decide⟩, q⟩
theorem p_12 (q : Q (.int 1000000000000) M) : binD .Pow (view M (.int 10)) (view M (.int 12)) M Q := ⟨⟨by decide, by decide, by decide⟩, q⟩
theorem p_15 (q : Q (.int 1000000000000000) M) : binD .Pow (view M (.int 10)) (view M (.int 15)) M Q := ⟨⟨by decide, by decide, by decide⟩, q⟩
theorem p_18 (q : Q (.int 1000000000000000000) M) : binD .Pow (view M (.int 10)) (view M (.int 18)) M Q := ⟨⟨by decide, by decide, by decide⟩, q⟩
theorem p_20 (q : Q (.int 100000000000000000000) M) : binD .Pow (view M (.int 10)) (view M (.int 20)) M Q := ⟨⟨by decide, by decide, by decide⟩, q⟩
theorem p_22 (q : Q (.int 10000000000000000000000) M) : binD .Pow (view M (.int 10)) (view M (.int 22)) M Q := ⟨⟨by decide, by decide, by decide⟩, q⟩
theorem p_23 (q : Q (.int 100000000000000000000000) M) : binD .Pow (view M (.int 10)) (view M (.int 23)) M Q := ⟨⟨by decide, by decide, by decide⟩, q⟩
theorem p_24 (q : Q (.int 1000000000000000000000000) M) : binD .Pow (view M (.int 10)) (view M (.int 24)) M Q := ⟨⟨by decide, by decide, by decide⟩, q⟩
theorem p_25 (q : Q (.int 10000000000000000000000000) M) : binD .Pow (view M (.int 10)) (view M (.int 25)) M Q := ⟨⟨by decide, by decide, by decide⟩, q⟩
theorem p_26 (q : Q (.int 100000000000000000000000000) M) : binD .Pow (view M (.int 10)) (view M (.int 26)) M Q := ⟨⟨by decide, by decide, by decide⟩, q⟩
theorem p_27 (q : Q (.int 1000000000000000000000000000) M) : binD .Pow (view M (.int 10)) (view M (.int 27)) M Q := ⟨⟨by decide, by decide, by decide⟩, q⟩
theorem p_28 (q : Q (.int 10000000000000000000000000000) M) : binD .Pow (view M (.int 10)) (view M (.int 28)) M Q := ⟨⟨by decide, by decide, by decide⟩, q⟩
theorem p_29 (q : Q (.int 100000000000000000000000000000) M) : binD .Pow (view M (.int 10)) (view M (.int 29)) M Q := ⟨⟨by decide, by decide, by decide⟩, q⟩
theorem p_30 (q : Q (.int 1000000000000000000000000000000) M) : binD .Pow (view M (.int 10)) (view M (.int 30)) M Q := ⟨⟨by decide, by decide, by decide⟩, q⟩
theorem p_31 (q : Q (.int 10000000000000000000000000000000) M) : binD .Pow (view M (.int 10)) (view M (.int 31)) M Q := ⟨⟨by decide, by decide, by decide⟩, q⟩
end
end Ev

/-! least splits, first places -/
namespace PD
open PySem PySem.Spec PyProof.Rows L2
def mnf (f : Nat → Int) : Nat → Int
  | 0 => f 0
  | n + 1 => min (mnf f n) (f (n + 1))
theorem mnf_le {f : Nat → Int} : ∀ {n s : Nat}, s ≤ n → mnf f n ≤ f s
  | 0, s, h => by rw [show s = 0 by omega]; exact Int.le_refl _
  | n + 1, s, h => by
    show min (mnf f n) (f (n + 1)) ≤ f s
    by_cases e : s = n + 1
    · rw [e]; omega
    · have := mnf_le (f := f) (n := n) (s := s) (by omega)
      omega
theorem mnf_at {f : Nat → Int} : ∀ {n : Nat}, ∃ s, s ≤ n ∧ mnf f n = f s
  | 0 => ⟨0, Nat.le_refl _, rfl⟩
  | n + 1 => by
    obtain ⟨s, hs, e⟩ := mnf_at (f := f) (n := n)
    by_cases h : mnf f n ≤ f (n + 1)
    · exact ⟨s, by omega, by show min (mnf f n) (f (n + 1)) = _; omega⟩
    · exact ⟨n + 1, Nat.le_refl _, by show min (mnf f n) (f (n + 1)) = _; omega⟩
theorem mnf_congr {f g : Nat → Int} {n : Nat} (h : ∀ s, s ≤ n → f s = g s) : mnf f n = mnf g n := by
  obtain ⟨s, hs, e⟩ := mnf_at (f := f) (n := n)
  obtain ⟨t, ht, e2⟩ := mnf_at (f := g) (n := n)
  have h1 := mnf_le (f := f) ht
  have h2 := mnf_le (f := g) hs
  have h3 := h s hs
  have h4 := h t ht
  omega
theorem mnL_le : ∀ {l : List Int} {x : Int}, x ∈ l → minL l ≤ x
  | [], _, h => by cases h
  | [y], x, h => by simp only [List.mem_singleton] at h; rw [h]; exact Int.le_refl _
  | y :: z :: r, x, h => by
    show min y (minL (z :: r)) ≤ x
    rcases List.mem_cons.mp h with rfl | h
    · omega
    · have := mnL_le (l := z :: r) h
      omega
theorem mnL_mem : ∀ {l : List Int}, 0 < l.length → minL l ∈ l
  | [], h => by cases h
  | [y], _ => List.mem_singleton.mpr rfl
  | y :: z :: r, h => by
    show min y (minL (z :: r)) ∈ _
    have := mnL_mem (l := z :: r) (by simp)
    by_cases h : y ≤ minL (z :: r)
    · rw [show min y (minL (z :: r)) = y by omega]; exact List.mem_cons_self
    · rw [show min y (minL (z :: r)) = minL (z :: r) by omega]; exact List.mem_cons_of_mem _ this
theorem minL_eq {l : List Int} {b : Int} (h1 : ∀ x ∈ l, b ≤ x) (h2 : b ∈ l) : minL l = b := by
  have a := mnL_le h2
  have c := h1 _ (mnL_mem (l := l) (by cases l with | nil => cases h2 | cons => simp))
  omega
/-- of a curve: 0 at 0, nowhere below 0 -/
def Up (v : Int → Int) : Prop := v 0 = 0 ∧ ∀ t, 0 ≤ t → 0 ≤ v t
def spl (v : Int → Int) (l : List Int) (t s : Nat) : Int := cs l s + v ((t : Int) - s)
/-- what must be gone ahead of a turn -/
def mst (v : Int → Int) (l : List Int) (t : Nat) : Int := mnf (spl v l t) t
def msts (v : Int → Int) (l : List Int) (n : Nat) : List Int := (List.range n).map fun t => mst v l t
theorem msts_len {v : Int → Int} {l : List Int} {n : Nat} : (msts v l n).length = n := by unfold msts; simp
theorem msts_get {v : Int → Int} {l : List Int} {n : Nat} {i : Int} (h0 : 0 ≤ i) (h : i < n) : gt (msts v l n) i = mst v l i.toNat := by unfold msts; exact gt_map h0 h
theorem msts_succ {v : Int → Int} {l : List Int} {n : Nat} : msts v l (n + 1) = msts v l n ++ [mst v l n] := by
  unfold msts
  rw [List.range_succ, List.map_append]
  rfl
theorem mst_congr {v w : Int → Int} {l : List Int} {t : Nat} (h : ∀ i, 0 ≤ i → v i = w i) : mst v l t = mst w l t := mnf_congr fun s hs => by
  unfold spl
  rw [h _ (by omega)]
theorem mst_le {v : Int → Int} {l : List Int} {t : Nat} (h : Up v) : mst v l t ≤ cs l t := by
  have := mnf_le (f := spl v l t) (n := t) (s := t) (Nat.le_refl _)
  unfold spl at this
  rw [Int.sub_self, h.1] at this
  unfold mst
  unfold spl
  omega
theorem mst_nn {v : Int → Int} {l : List Int} {t : Nat} (h : Up v) (k : ∀ x ∈ l, 0 ≤ x) (hc : ∀ s, 0 ≤ cs l s) : 0 ≤ mst v l t := by
  obtain ⟨s, hs, e⟩ := mnf_at (f := spl v l t) (n := t)
  unfold mst
  rw [e]
  unfold spl
  have := hc s
  have := h.2 ((t : Int) - s) (by omega)
  omega
/-- over all splits -/
theorem min_all {v : Int → Int} {l : List Int} {t : Nat} : minL ((List.range (t + 1)).map fun (s : Nat) => spl v l t s) = mst v l t := by
  obtain ⟨s, hs, e⟩ := mnf_at (f := spl v l t) (n := t)
  refine minL_eq (fun x hx => ?_) ?_
  · obtain ⟨s, hs, rfl⟩ := List.mem_map.mp hx
    have := List.mem_range.mp hs
    exact mnf_le (by omega)
  · unfold mst
    rw [e]
    exact List.mem_map.mpr ⟨s, List.mem_range.mpr (by omega), rfl⟩
theorem cs_end {l : List Int} {s t : Nat} (h : l.length ≤ s) (h2 : l.length ≤ t) : cs l s = cs l t := by
  unfold cs
  rw [List.take_of_length_le h, List.take_of_length_le h2]
/-- the splits to the stream's end, and the turn itself -/
theorem min_few {v : Int → Int} {l : List Int} {t : Nat} (h : Up v) : minL (((List.range (min t l.length + 1)).map fun (s : Nat) => spl v l t s) ++ [cs l t]) = mst v l t := by
  obtain ⟨s, hs, e⟩ := mnf_at (f := spl v l t) (n := t)
  have le := mst_le (v := v) (l := l) (t := t) h
  refine minL_eq (fun x hx => ?_) ?_
  · rcases List.mem_append.mp hx with hx | hx
    · obtain ⟨s, hs, rfl⟩ := List.mem_map.mp hx
      have := List.mem_range.mp hs
      exact mnf_le (by omega)
    · simp only [List.mem_singleton] at hx
      rw [hx]; exact le
  · by_cases hl : s ≤ l.length
    · refine List.mem_append_left _ ?_
      unfold mst
      rw [e]
      exact List.mem_map.mpr ⟨s, List.mem_range.mpr (by omega), rfl⟩
    · refine List.mem_append_right _ (List.mem_singleton.mpr ?_)
      have e2 : mst v l t = spl v l t s := e
      have e3 := cs_end (l := l) (s := s) (t := t) (by omega) (by omega)
      have e4 := h.2 ((t : Int) - s) (by omega)
      unfold spl at e2
      omega
def fstN (P : Nat → Bool) (n : Nat) : Option Nat := (List.range n).find? P
theorem fst_none {P : Nat → Bool} {n : Nat} (h : ∀ t, t < n → P t = false) : fstN P n = none := by
  unfold fstN
  rw [List.find?_eq_none]
  intro x hx
  rw [h x (List.mem_range.mp hx)]
  decide
theorem fst_some {P : Nat → Bool} {n t : Nat} (ht : t < n) (hp : P t = true) (h : ∀ s, s < t → P s = false) : fstN P n = some t := by
  unfold fstN
  rw [List.find?_eq_some_iff_getElem]
  refine ⟨hp, t, by rw [List.length_range]; exact ht, by rw [List.getElem_range], fun j hj => ?_⟩
  rw [List.getElem_range, h j hj]
  rfl
theorem fst_congr {P R : Nat → Bool} {n : Nat} (h : ∀ t, t < n → P t = R t) : fstN P n = fstN R n := by
  by_cases z : ∃ t, t < n ∧ P t = true
  · obtain ⟨t, ht, hp⟩ := z
    induction t using Nat.strongRecOn with
    | _ t ih =>
      by_cases y : ∃ s, s < t ∧ P s = true
      · obtain ⟨s, hs, hps⟩ := y
        exact ih s hs (by omega) hps
      · have f : ∀ s, s < t → P s = false := fun s hs => by
          cases e : P s with
          | false => rfl
          | true => exact absurd ⟨s, hs, e⟩ y
        rw [fst_some ht hp f, fst_some ht (by rw [← h t ht]; exact hp) fun s hs => by rw [← h s (by omega)]; exact f s hs]
  · have f : ∀ s, s < n → P s = false := fun s hs => by
      cases e : P s with
      | false => rfl
      | true => exact absurd ⟨s, hs, e⟩ z
    rw [fst_none f, fst_none fun s hs => by rw [← h s hs]; exact f s hs]
theorem fst_lt {P : Nat → Bool} {n t : Nat} (h : fstN P n = some t) : t < n := by
  unfold fstN at h
  exact List.mem_range.mp (List.mem_of_find?_eq_some h)
theorem fst_is {P : Nat → Bool} {n t : Nat} (h : fstN P n = some t) : P t = true := by
  unfold fstN at h
  exact List.find?_some h
def oD : Option Nat → D
  | none => .non
  | some t => .int t
theorem oD_non {x : Option Nat} : isNon (oD x) = x.isNone := by cases x <;> rfl
/-- ([t .. if P t] + [None])[0] -/
theorem fst_filter {P : Nat → Bool} {n : Nat} : atI (il (((List.range n).filter P).map fun (s : Nat) => (s : Int)) ++ [.non]) 0 = some (oD (fstN P n)) := by
  have e : ((List.range n).filter P).head? = fstN P n := by
    unfold fstN
    rw [List.head?_filter]
  rw [← e]
  cases (List.range n).filter P with
  | nil => exact at_pos (n := 0) rfl rfl
  | cons t r => exact at_pos (n := 0) rfl rfl
/-- whether at a turn less is gone than must -/
def fP (v : Int → Int) (l o : List Int) (t : Nat) : Bool := decide (cs o t < mst v l t)
def fO (v : Int → Int) (l o : List Int) : Option Nat := fstN (fP v l o) (o.length + 1)
theorem fO_congr {v w : Int → Int} {l o : List Int} (h : ∀ i, 0 ≤ i → v i = w i) : fO v l o = fO w l o := fst_congr fun t _ => by
  unfold fP
  rw [mst_congr h]
theorem cs_app {o : List Int} {x : Int} {t : Nat} : cs (o ++ [x]) t = if t ≤ o.length then cs o t else cs o o.length + x := by
  unfold cs
  split
  · rw [List.take_append_of_le_length (by omega)]
  · rw [List.take_of_length_le (l := o ++ [x]) (by simp; omega), List.take_length]
    simp
theorem cs_mono {l : List Int} (h : ∀ x ∈ l, 0 ≤ x) : ∀ {s t : Nat}, s ≤ t → cs l s ≤ cs l t := by
  intro s t hst
  induction t with
  | zero => rw [show s = 0 by omega]; exact Int.le_refl _
  | succ t ih =>
    by_cases e : s = t + 1
    · rw [e]; exact Int.le_refl _
    · have := ih (by omega)
      by_cases hl : t < l.length
      · rw [cs_succ hl]
        have := h _ (gt_mem (l := l) (i := t) (by omega) (by omega))
        omega
      · rw [cs_stay hl]; exact this
theorem cs_le {l : List Int} {b : Int} (hb : 0 ≤ b) (h : ∀ x ∈ l, x ≤ b) : ∀ {t : Nat}, cs l t ≤ b * t := by
  intro t
  induction t with
  | zero => rw [cs_zero]; omega
  | succ t ih =>
    have e : b * ((t + 1 : Nat) : Int) = b * t + b := by rw [Int.natCast_add, Int.mul_add]; simp
    by_cases hl : t < l.length
    · rw [cs_succ hl]
      have := h _ (gt_mem (l := l) (i := t) (by omega) (by omega))
      omega
    · rw [cs_stay hl]; omega
theorem cs_nn {l : List Int} (h : ∀ x ∈ l, 0 ≤ x) {t : Nat} : 0 ≤ cs l t := by
  have := cs_mono h (s := 0) (t := t) (by omega)
  rw [cs_zero] at this
  exact this
/-- the steps of a row of numbers from 0 on -/
theorem cs_diff {g : Nat → Int} (h0 : g 0 = 0) {n : Nat} : ∀ {t : Nat}, t ≤ n → cs ((List.range n).map fun i => g (i + 1) - g i) t = g t := by
  intro t ht
  induction t with
  | zero => rw [cs_zero, h0]
  | succ t ih =>
    rw [cs_succ (by simp; omega), ih (by omega), gt_map (by omega) (by omega), Int.toNat_natCast]
    omega
/-- a curve never goes down -/
def Nd (v : Int → Int) : Prop := ∀ t, 0 ≤ t → v t ≤ v (t + 1)
theorem mst_nd {v : Int → Int} {l : List Int} {t : Nat} (h : Nd v) (k : ∀ x ∈ l, 0 ≤ x) : mst v l t ≤ mst v l (t + 1) := by
  obtain ⟨s, hs, e⟩ := mnf_at (f := spl v l (t + 1)) (n := t + 1)
  show _ ≤ mnf _ _
  rw [e]
  by_cases z : s = t + 1
  · have a := mnf_le (f := spl v l t) (n := t) (s := t) (Nat.le_refl _)
    have b := cs_mono k (s := t) (t := t + 1) (by omega)
    rw [z]
    unfold mst
    unfold spl at a ⊢
    rw [Int.sub_self] at a ⊢
    omega
  · have a := mnf_le (f := spl v l t) (n := t) (s := s) (by omega)
    have b := h ((t : Int) - s) (by omega)
    unfold mst
    unfold spl at a ⊢
    rw [show ((t + 1 : Nat) : Int) - s = (t : Int) - s + 1 by omega]
    omega
theorem mst_0 {v : Int → Int} {l : List Int} (h : Up v) : mst v l 0 = 0 := by
  show spl v l 0 0 = 0
  unfold spl
  rw [cs_zero]
  have := h.1
  simpa using this
/-- what the slowest server lets go -/
def slw (v : Int → Int) (l : List Int) (n : Nat) : List Int := (List.range n).map fun t => mst v l (t + 1) - mst v l t
theorem slw_len {v : Int → Int} {l : List Int} {n : Nat} : (slw v l n).length = n := by unfold slw; simp
theorem slw_cs {v : Int → Int} {l : List Int} {n t : Nat} (h : Up v) (ht : t ≤ n) : cs (slw v l n) t = mst v l t := cs_diff (g := fun t => mst v l t) (mst_0 h) ht
theorem slw_get {v : Int → Int} {l : List Int} {n t : Nat} (ht : t < n) : gt (slw v l n) t = mst v l (t + 1) - mst v l t := by
  unfold slw
  rw [gt_map (by omega) (by omega), Int.toNat_natCast]
theorem pen_fr {M M' : Mh} {p : Addr} {k : Nat} (h : PenL M p k) (f : Fr M M') : PenL M' p k := h.keep (f p h.some)
end PD

/-! the plain form -/
namespace PD
open PySem PySem.Spec PyProof.Rows L2
/-- a round going on either way -/
def ext (b : List Int) (r x : Int) : Int := gt b (x % b.length) + r * (x / b.length)
theorem val_ext {a b : List Int} {r t : Int} (h : ¬ t < a.length) : val a b r t = ext b r (t - a.length) := val_hi h
theorem ext_add {b : List Int} {r x m : Int} (hb : 0 < b.length) : ext b r (x + m * b.length) = ext b r x + r * m := by
  unfold ext
  rw [Int.add_mul_emod_self_right, Int.add_mul_ediv_right _ _ (by omega), Int.mul_add, Int.add_assoc]
theorem ext_in {b : List Int} {r x : Int} (h0 : 0 ≤ x) (h : x < b.length) : ext b r x = gt b x := by
  unfold ext
  rw [Int.emod_eq_of_lt h0 h, Int.ediv_eq_zero_of_lt h0 h]
  simp
/-- the round goes on by a shorter one -/
def GoB (b : List Int) (r : Int) (k : Nat) : Prop := (r * k) % b.length = 0 ∧ ∀ j : Nat, k ≤ j → j < b.length → gt b j = gt b ((j : Int) - k) + r * k / b.length
theorem GoB.step {b : List Int} {r : Int} {k : Nat} (h : GoB b r k) : ∀ {j i : Nat}, i < k → j * k + i < b.length → gt b ((j * k + i : Nat) : Int) = gt b i + r * k / b.length * j := by
  intro j
  induction j with
  | zero => intro i hi hl; simp
  | succ j ih =>
    intro i hi hl
    have e : (j + 1) * k = j * k + k := by rw [Nat.add_mul]; omega
    have := h.2 ((j + 1) * k + i) (by omega) hl
    rw [this, show (((j + 1) * k + i : Nat) : Int) - k = ((j * k + i : Nat) : Int) by omega, ih hi (by omega)]
    rw [show ((j + 1 : Nat) : Int) = (j : Int) + 1 by omega, Int.mul_add]
    omega
theorem ext_sub {b : List Int} {r : Int} {k : Nat} (hk : 0 < k) (hb : 0 < b.length) (hd : b.length % k = 0) (h : GoB b r k) (x : Int) : ext (b.take k) (r * k / b.length) x = ext b r x := by
  obtain ⟨q, hq⟩ : ∃ q : Nat, b.length = k * q := ⟨b.length / k, by have := Nat.div_add_mod b.length k; omega⟩
  have q0 : 0 < q := by
    rcases Nat.eq_zero_or_pos q with z | z
    · rw [z] at hq; omega
    · exact z
  have hkl : k ≤ b.length := by rw [hq]; exact Nat.le_mul_of_pos_right k q0
  generalize hs : r * k / (b.length : Int) = s
  have hr : r = s * q := by
    have e1 := Int.mul_ediv_add_emod (r * k) b.length
    rw [h.1, hs, hq] at e1
    have e2 : (k : Int) * (s * q) = k * r := by
      rw [Int.natCast_mul] at e1
      rw [Int.mul_comm (k : Int) r, ← e1, Int.add_zero, Int.mul_assoc, Int.mul_comm s]
    exact (Int.eq_of_mul_eq_mul_left (by omega) e2).symm
  have lt : ((b.take k).length : Int) = k := by rw [List.length_take]; omega
  have m0 := Int.emod_nonneg x (b := (b.length : Int)) (by omega)
  have m1 := Int.emod_lt_of_pos x (b := (b.length : Int)) (by omega)
  have m2 := Int.mul_ediv_add_emod x b.length
  generalize hy : x % (b.length : Int) = y at m0 m1 m2
  generalize hz : x / (b.length : Int) = z at m2
  have y2 := Int.mul_ediv_add_emod y k
  have y0 := Int.emod_nonneg y (b := (k : Int)) (by omega)
  have y1 := Int.emod_lt_of_pos y (b := (k : Int)) (by omega)
  have y3 : 0 ≤ y / (k : Int) := Int.ediv_nonneg m0 (by omega)
  have ek : x % (k : Int) = y % k := by
    rw [← m2, hq, Int.natCast_mul, Int.mul_assoc, Int.add_comm, Int.add_mul_emod_self_left]
  have ed : x / (k : Int) = y / k + q * z := by
    rw [← m2, hq, Int.natCast_mul, Int.mul_assoc, Int.add_comm, Int.add_mul_ediv_left _ _ (by omega)]
  unfold ext
  rw [lt, hy, hz, ek, ed]
  have g := h.step (j := (y / (k : Int)).toNat) (i := (y % (k : Int)).toNat) (by omega)
  have e3 : (((y / (k : Int)).toNat * k + (y % (k : Int)).toNat : Nat) : Int) = y := by
    rw [Int.natCast_add, Int.natCast_mul, Int.toNat_of_nonneg y3, Int.toNat_of_nonneg y0, Int.mul_comm]
    exact y2
  have g := g (by omega)
  rw [e3, Int.toNat_of_nonneg y0, Int.toNat_of_nonneg y3, hs] at g
  rw [g, gt_take y0 y1 hkl, hr, Int.mul_add, Int.mul_assoc]
  omega
/-- the same, as the law asks it -/
def Ups (b : List Int) (r : Int) (k : Nat) : Prop := ∀ j : Nat, j < b.length → ext b r ((j : Int) + k) - ext b r j = r * k / b.length
theorem goB_iff {b : List Int} {r : Int} {k : Nat} (hk : 0 < k) (hb : 0 < b.length) (hd : b.length % k = 0) (h0 : (r * k) % b.length = 0) : GoB b r k ↔ Ups b r k := by
  constructor
  · intro h j hj
    rw [← ext_sub hk hb hd h, ← ext_sub hk hb hd h]
    have hkl : k ≤ b.length := Nat.le_of_dvd hb (Nat.dvd_of_mod_eq_zero hd)
    have lt : ((b.take k).length : Int) = k := by rw [List.length_take]; omega
    have := ext_add (b := b.take k) (r := r * k / b.length) (x := j) (m := 1) (by rw [List.length_take]; omega)
    rw [lt, Int.one_mul, Int.mul_one] at this
    rw [this]
    omega
  · intro h
    refine ⟨h0, fun j h1 h2 => ?_⟩
    have := h (j - k) (by omega)
    rw [show (((j - k : Nat) : Int) + k) = (j : Int) by omega, ext_in (by omega) (by omega), ext_in (by omega) (by omega), show ((j - k : Nat) : Int) = (j : Int) - k by omega] at this
    omega
/-- the least of 1 .. n that does, else n -/
noncomputable def leastK (P : Nat → Prop) (n : Nat) : Nat := ((List.range n).find? fun k => @decide (0 < k ∧ P k) (Classical.propDecidable _)).getD n
theorem leastK_is {P : Nat → Prop} {n k : Nat} (h0 : 0 < k) (h : P k) (hk : k ≤ n) (hf : ∀ j, 0 < j → j < k → ¬ P j) : leastK P n = k := by
  unfold leastK
  by_cases z : k = n
  · subst z
    rw [List.find?_eq_none.mpr]
    · rfl
    · intro x hx
      have := List.mem_range.mp hx
      simp
      exact fun x0 => hf x x0 this
  · rw [show (List.range n).find? (fun j => @decide (0 < j ∧ P j) (Classical.propDecidable _)) = some k from ?_]
    · rfl
    · rw [List.find?_eq_some_iff_getElem]
      refine ⟨by simp; exact ⟨h0, h⟩, k, by rw [List.length_range]; omega, by rw [List.getElem_range], fun j hj => ?_⟩
      rw [List.getElem_range]
      simp
      exact fun x0 => hf j x0 hj
def RoundK (b : List Int) (r : Int) (k : Nat) : Prop := b.length % k = 0 ∧ GoB b r k
theorem RoundK.all {b : List Int} {r : Int} (hb : 0 < b.length) : RoundK b r b.length := ⟨Nat.mod_self _, by rw [Int.mul_emod_left], fun j h1 h2 => by omega⟩
noncomputable def shK (b : List Int) (r : Int) : Nat := leastK (RoundK b r) b.length
theorem shK_spec {b : List Int} {r : Int} (hb : 0 < b.length) : 0 < shK b r ∧ shK b r ≤ b.length ∧ RoundK b r (shK b r) ∧ ∀ j, 0 < j → j < shK b r → ¬ RoundK b r j := by
  have ex : ∃ k, 0 < k ∧ k ≤ b.length ∧ RoundK b r k := ⟨b.length, hb, Nat.le_refl _, RoundK.all hb⟩
  have : ∀ n, (∃ k, 0 < k ∧ k ≤ n ∧ k ≤ b.length ∧ RoundK b r k) → ∃ k, 0 < k ∧ k ≤ b.length ∧ RoundK b r k ∧ ∀ j, 0 < j → j < k → ¬ RoundK b r j := by
    intro n
    induction n with
    | zero => rintro ⟨k, a, c, _⟩; omega
    | succ n ih =>
      rintro ⟨k, a, c, d, e⟩
      by_cases z : ∃ j, 0 < j ∧ j < k ∧ RoundK b r j
      · obtain ⟨j, j0, j1, j2⟩ := z
        exact ih ⟨j, j0, by omega, by omega, j2⟩
      · exact ⟨k, a, d, e, fun j j0 j1 j2 => z ⟨j, j0, j1, j2⟩⟩
  obtain ⟨k, k0, k1, k2, k3⟩ := this b.length ⟨b.length, hb, Nat.le_refl _, Nat.le_refl _, RoundK.all hb⟩
  have : shK b r = k := leastK_is k0 k2 k1 k3
  rw [this]
  exact ⟨k0, k1, k2, k3⟩
noncomputable def rB (b : List Int) (r : Int) : List Int := b.take (shK b r)
noncomputable def rR (b : List Int) (r : Int) : Int := r * shK b r / b.length
theorem rB_len {b : List Int} {r : Int} (hb : 0 < b.length) : (rB b r).length = shK b r := by
  unfold rB
  rw [List.length_take]
  have := (shK_spec (r := r) hb).2.1
  omega
theorem rB_ext {b : List Int} {r : Int} (hb : 0 < b.length) (x : Int) : ext (rB b r) (rR b r) x = ext b r x := by
  obtain ⟨h0, h1, h2, h3⟩ := shK_spec (r := r) hb
  exact ext_sub h0 hb h2.1 h2.2 x
/-- how far first may be taken back -/
def bkN (a b : List Int) (r : Int) : Nat → Nat
  | 0 => 0
  | n + 1 => if gt a n = ext b r ((n : Int) - a.length) then bkN a b r n else n + 1
theorem bkN_le {a b : List Int} {r : Int} : ∀ {n : Nat}, bkN a b r n ≤ n
  | 0 => Nat.le_refl _
  | n + 1 => by
    unfold bkN
    split
    · have := bkN_le (a := a) (b := b) (r := r) (n := n); omega
    · exact Nat.le_refl _
theorem bkN_eq {a b : List Int} {r : Int} : ∀ {n t : Nat}, bkN a b r n ≤ t → t < n → gt a t = ext b r ((t : Int) - a.length)
  | 0, t, _, h => by omega
  | n + 1, t, h1, h2 => by
    unfold bkN at h1
    split at h1
    · rename_i e
      by_cases z : t = n
      · rw [z]; exact e
      · exact bkN_eq h1 (by omega)
    · omega
noncomputable def pN (a b : List Int) (r : Int) : Nat := bkN a b r a.length
noncomputable def pA (a b : List Int) (r : Int) : List Int := a.take (pN a b r)
noncomputable def pB (a b : List Int) (r : Int) : List Int := (List.range (shK b r)).map fun (k : Nat) => ext b r ((pN a b r : Int) - a.length + k)
theorem pN_le {a b : List Int} {r : Int} : pN a b r ≤ a.length := bkN_le
theorem pA_len {a b : List Int} {r : Int} : (pA a b r).length = pN a b r := by
  unfold pA
  rw [List.length_take]
  have := pN_le (a := a) (b := b) (r := r)
  omega
theorem pB_len {a b : List Int} {r : Int} : (pB a b r).length = shK b r := by unfold pB; simp
theorem val_pl {a b : List Int} {r : Int} (hb : 0 < b.length) {t : Int} (h0 : 0 ≤ t) (h : pN a b r ≤ t) : val a b r t = ext b r (t - a.length) := by
  by_cases z : t < a.length
  · rw [val_lo z]
    obtain ⟨n, rfl⟩ := Int.eq_ofNat_of_zero_le h0
    exact bkN_eq (n := a.length) (by unfold pN at h; omega) (by omega)
  · exact val_ext z
theorem pl_val {a b : List Int} {r : Int} (hb : 0 < b.length) {t : Int} (h0 : 0 ≤ t) : val (pA a b r) (pB a b r) (rR b r) t = val a b r t := by
  have lA := pA_len (a := a) (b := b) (r := r)
  have lB := pB_len (a := a) (b := b) (r := r)
  obtain ⟨s0, s1, s2, s3⟩ := shK_spec (r := r) hb
  have nl := pN_le (a := a) (b := b) (r := r)
  by_cases z : t < pN a b r
  · rw [val_lo (by rw [lA]; exact z), val_lo (by omega)]
    unfold pA
    exact gt_take h0 z nl
  · rw [val_pl hb h0 (by omega), val_hi (by rw [lA]; exact z), lA, lB]
    have e0 := Int.emod_nonneg (t - pN a b r) (b := (shK b r : Int)) (by omega)
    have e1 := Int.emod_lt_of_pos (t - pN a b r) (b := (shK b r : Int)) (by omega)
    have e2 := Int.mul_ediv_add_emod (t - pN a b r) (shK b r)
    unfold pB
    rw [gt_map e0 e1, Int.toNat_of_nonneg e0]
    have := ext_add (b := rB b r) (r := rR b r) (x := (pN a b r : Int) - a.length + (t - pN a b r) % shK b r) (m := (t - pN a b r) / shK b r) (by rw [rB_len hb]; omega)
    rw [rB_len hb, rB_ext hb, rB_ext hb] at this
    rw [← this]
    congr 1
    rw [Int.mul_comm] at e2
    omega
end PD

/-! least sums over all ways to part a turn -/
namespace PD
open PySem PySem.Spec PyProof.Rows L2
def sumsL (F : Int → Int) : Nat → List Int
  | 0 => [0]
  | n + 1 => sumsL F n ++ [minL ((List.range (n + 1)).map fun (s : Nat) => gt (sumsL F n) ((n : Int) - s) + F (s + 1))]
def Ls (F : Int → Int) (t : Nat) : Int := gt (sumsL F t) t
section
variable {F : Int → Int}
theorem sumsL_len : ∀ {n : Nat}, (sumsL F n).length = n + 1
  | 0 => rfl
  | n + 1 => by
    unfold sumsL
    rw [List.length_append, sumsL_len]
    rfl
theorem sumsL_get {i : Nat} : ∀ {n : Nat}, i ≤ n → gt (sumsL F n) i = Ls F i
  | 0, h => by
    obtain rfl : i = 0 := by omega
    rfl
  | n + 1, h => by
    by_cases e : i = n + 1
    · subst e; rfl
    · have ih := sumsL_get (i := i) (n := n) (by omega)
      rw [← ih]
      show gt (sumsL F n ++ _) i = _
      rw [gt_app_lo (by omega) (by rw [sumsL_len]; omega)]
theorem Ls_zero : Ls F 0 = 0 := rfl
theorem Ls_succ {n : Nat} : Ls F (n + 1) = minL ((List.range (n + 1)).map fun (s : Nat) => Ls F (n - s) + F (s + 1)) := by
  have e : (List.range (n + 1)).map (fun (s : Nat) => gt (sumsL F n) ((n : Int) - s) + F (s + 1)) = (List.range (n + 1)).map fun (s : Nat) => Ls F (n - s) + F (s + 1) := by
    refine List.map_congr_left fun s hs => ?_
    have hs := List.mem_range.mp hs
    rw [show (n : Int) - s = ((n - s : Nat) : Int) by omega, sumsL_get (by omega)]
  rw [← e]
  show gt (sumsL F n ++ _) ((n + 1 : Nat) : Int) = _
  rw [gt_app_hi (by rw [sumsL_len]; omega) (by rw [sumsL_len]; simp; omega), sumsL_len, Int.sub_self]
  rfl
theorem Ls_le {t s : Nat} (h1 : 1 ≤ s) (h : s ≤ t) : Ls F t ≤ Ls F (t - s) + F s := by
  obtain ⟨n, rfl⟩ : ∃ n, t = n + 1 := ⟨t - 1, by omega⟩
  rw [Ls_succ]
  refine minL_le (List.mem_map.mpr ⟨s - 1, List.mem_range.mpr (by omega), ?_⟩)
  rw [show n - (s - 1) = n + 1 - s by omega, show ((s - 1 : Nat) : Int) + 1 = s by omega]
theorem Ls_at {t : Nat} (h : 1 ≤ t) : ∃ s, 1 ≤ s ∧ s ≤ t ∧ Ls F t = Ls F (t - s) + F s := by
  obtain ⟨n, rfl⟩ : ∃ n, t = n + 1 := ⟨t - 1, by omega⟩
  have m := minL_mem (l := (List.range (n + 1)).map fun (s : Nat) => Ls F (n - s) + F (s + 1)) (by simp)
  rw [← Ls_succ] at m
  obtain ⟨s, hs, e⟩ := List.mem_map.mp m
  have hs := List.mem_range.mp hs
  refine ⟨s + 1, by omega, by omega, ?_⟩
  rw [← e, show n + 1 - (s + 1) = n - s by omega, show ((s + 1 : Nat) : Int) = (s : Int) + 1 by omega]
theorem Ls_is {t : Nat} {x : Int} (h : 1 ≤ t) (hl : ∀ s : Nat, 1 ≤ s → s ≤ t → x ≤ Ls F (t - s) + F s) (ha : ∃ s : Nat, 1 ≤ s ∧ s ≤ t ∧ x = Ls F (t - s) + F s) : x = Ls F t := by
  obtain ⟨s, s1, s2, e⟩ := ha
  obtain ⟨u, u1, u2, k⟩ := Ls_at (F := F) h
  have := hl u u1 u2
  have := Ls_le (F := F) s1 s2
  omega
/-- the least sum whose last turn is long -/
def LgP (F : Int → Int) (n t : Nat) (x : Int) : Prop := (∀ s : Nat, n ≤ s → s ≤ t → x ≤ Ls F (t - s) + F s) ∧ ∃ s : Nat, n ≤ s ∧ s ≤ t ∧ x = Ls F (t - s) + F s
theorem LgP.uniq {n t : Nat} {x y : Int} (h : LgP F n t x) (k : LgP F n t y) : x = y := by
  obtain ⟨h1, s, h2, h3, h4⟩ := h
  obtain ⟨k1, u, k2, k3, k4⟩ := k
  have := h1 u k2 k3
  have := k1 s h2 h3
  omega
theorem LgP.beg {n t : Nat} {x : Int} (h : LgP F n t x) : n ≤ t := by
  obtain ⟨_, s, h2, h3, _⟩ := h
  omega
/-- out of the first round of long turns, and of a round ahead -/
theorem LgP.of {n t R : Nat} {x r : Int} (per : ∀ s : Nat, n ≤ s → F ((s + R : Nat) : Int) = F s + r)
    (h1 : ∀ s : Nat, n ≤ s → s < n + R → s ≤ t → x ≤ Ls F (t - s) + F s) (h2 : n + R ≤ t → ∃ y, LgP F n (t - R) y ∧ x ≤ y + r)
    (h3 : (∃ s : Nat, n ≤ s ∧ s ≤ t ∧ x = Ls F (t - s) + F s) ∨ ∃ y, R ≤ t ∧ LgP F n (t - R) y ∧ x = y + r) : LgP F n t x := by
  refine ⟨fun s s1 s2 => ?_, ?_⟩
  · by_cases z : s < n + R
    · exact h1 s s1 z s2
    · obtain ⟨y, ⟨k1, _⟩, k2⟩ := h2 (by omega)
      have := k1 (s - R) (by omega) (by omega)
      have e := per (s - R) (by omega)
      rw [show s - R + R = s by omega] at e
      rw [show t - R - (s - R) = t - s by omega] at this
      omega
  · rcases h3 with h | ⟨y, hR, ⟨_, s, s1, s2, e⟩, k⟩
    · exact h
    · refine ⟨s + R, by omega, by omega, ?_⟩
      rw [per s s1, k, e, show t - (s + R) = t - R - s by omega]
      omega
end
/-! ### the object -/
def smF (f : D) (bg : Int) (own : List Int) (ls lg : Addr) : List (Str × D) := [(Str.ofString "curve", f), (Str.ofString "begin", .int bg), (Str.ofString "own", .lst (il own)), (Str.ofString "least", .ref ls), (Str.ofString "long", .ref lg)]
theorem sm_ne : (Str.ofString "begin" == Str.ofString "curve") = false ∧ (Str.ofString "own" == Str.ofString "curve") = false ∧ (Str.ofString "own" == Str.ofString "begin") = false ∧ (Str.ofString "least" == Str.ofString "curve") = false ∧ (Str.ofString "least" == Str.ofString "begin") = false ∧ (Str.ofString "least" == Str.ofString "own") = false ∧
    (Str.ofString "long" == Str.ofString "curve") = false ∧ (Str.ofString "long" == Str.ofString "begin") = false ∧ (Str.ofString "long" == Str.ofString "own") = false ∧ (Str.ofString "long" == Str.ofString "least") = false := by decide +kernel
section
variable {M : Mh} {Q : QD} {f : D} {bg : Int} {own : List Int} {ls lg p : Addr}
theorem x_curve (h : M p = some (.ins (Str.ofString "Sums") (smF f bg own ls lg))) (q : Q f M) : fldD (.ref p) (Str.ofString "Sums") (Str.ofString "curve") M Q :=
  Ev.fld1 h (by unfold smF; simp [List.lookup_cons]) q
theorem x_begin (h : M p = some (.ins (Str.ofString "Sums") (smF f bg own ls lg))) (q : Q (.int bg) M) : fldD (.ref p) (Str.ofString "Sums") (Str.ofString "begin") M Q :=
  Ev.fld1 h (by obtain ⟨h1, h2, h3, h4, h5, h6, h7, h8, h9, h10⟩ := sm_ne; unfold smF; simp [List.lookup_cons, h1]) q
theorem x_own (h : M p = some (.ins (Str.ofString "Sums") (smF f bg own ls lg))) (q : Q (.lst (il own)) M) : fldD (.ref p) (Str.ofString "Sums") (Str.ofString "own") M Q :=
  Ev.fld1 h (by obtain ⟨h1, h2, h3, h4, h5, h6, h7, h8, h9, h10⟩ := sm_ne; unfold smF; simp [List.lookup_cons, h2, h3]) q
theorem x_least (h : M p = some (.ins (Str.ofString "Sums") (smF f bg own ls lg))) (q : Q (.ref ls) M) : fldD (.ref p) (Str.ofString "Sums") (Str.ofString "least") M Q :=
  Ev.fld1 h (by obtain ⟨h1, h2, h3, h4, h5, h6, h7, h8, h9, h10⟩ := sm_ne; unfold smF; simp [List.lookup_cons, h4, h5, h6]) q
theorem x_long (h : M p = some (.ins (Str.ofString "Sums") (smF f bg own ls lg))) (q : Q (.ref lg) M) : fldD (.ref p) (Str.ofString "Sums") (Str.ofString "long") M Q :=
  Ev.fld1 h (by obtain ⟨h1, h2, h3, h4, h5, h6, h7, h8, h9, h10⟩ := sm_ne; unfold smF; simp [List.lookup_cons, h7, h8, h9, h10]) q
def smM : List Str := [Str.ofString "long_for", Str.ofString "go_on", Str.ofString "begin_of", Str.ofString "is_long", Str.ofString "long_round"]
theorem smF_no : ∀ m ∈ smM, (smF f bg own ls lg).lookup m = none := by
  have h : ∀ m ∈ smM, (m == Str.ofString "curve") = false ∧ (m == Str.ofString "begin") = false ∧ (m == Str.ofString "own") = false ∧ (m == Str.ofString "least") = false ∧ (m == Str.ofString "long") = false := by decide +kernel
  intro m hm
  obtain ⟨h1, h2, h3, h4, h5⟩ := h m hm
  unfold smF
  simp [List.lookup_cons, h1, h2, h3, h4, h5]
theorem i_sums {m : Str} {k : Prop} (h : M p = some (.ins (Str.ofString "Sums") (smF f bg own ls lg))) (hm : m ∈ smM) (q : k) : insD (.ref p) (Str.ofString "Sums") m M k := Ev.ins1 h (smF_no m hm) q
theorem gFldC {c g : Str} (q : fldD (.ref p) c g M Q) : fldD (.ref p) c g M Q := q
theorem gInsC {c m : Str} {k : Prop} (q : insD (.ref p) c m M k) : insD (.ref p) c m M k := q
end
/-- None, or a pair -/
def optP : Option (Int × Int) → D
  | none => .non
  | some p => tupP p
/-- the sums of a curve, as far as they go -/
structure SmAt (M : Mh) (p ls lg : Addr) (a b : List Int) (r : Int) (g n : Nat) : Prop where
  ge : g = max 1 a.length
  ob : M p = some (.ins (Str.ofString "Sums") (smF (.tup [.tup (il a), .tup (il b), .int r]) (g : Int) (vals a b r (g + b.length)) ls lg))
  hl : ∃ ss : Nat → Int, M ls = some (.lst ((List.range n).map fun t => tupP (Ls (val a b r) t, ss t)))
  hg : ∃ lo : Nat → Option (Int × Int), M lg = some (.lst ((List.range n).map fun t => optP (lo t))) ∧ ∀ t, t < n → (t < g → lo t = none) ∧ (g ≤ t → ∃ x s, lo t = some (x, s) ∧ LgP (val a b r) g t x)
  n1 : p ≠ ls
  n2 : p ≠ lg
  n3 : ls ≠ lg
theorem x_sl {M : Mh} {Q : QD} {ls : Addr} {g ss : Nat → Int} {n : Nat} {i : Int} (h : M ls = some (.lst ((List.range n).map fun t => tupP (g t, ss t)))) (h0 : 0 ≤ i) (h1 : i < n) (q : Q (.tup [.int (g i.toNat), .int (ss i.toNat)]) M) : ixD (.ref ls) (.int i) M Q := by
  refine x_C h (at_pos (n := i.toNat) ?_ (by omega)) q
  rw [List.getElem?_map, List.getElem?_range (by omega)]
  rfl
theorem x_sg {M : Mh} {Q : QD} {lg : Addr} {lo : Nat → Option (Int × Int)} {n : Nat} {i : Int} (h : M lg = some (.lst ((List.range n).map fun t => optP (lo t)))) (h0 : 0 ≤ i) (h1 : i < n) (q : Q (optP (lo i.toNat)) M) : ixD (.ref lg) (.int i) M Q := by
  refine x_C h (at_pos (n := i.toNat) ?_ (by omega)) q
  rw [List.getElem?_map, List.getElem?_range (by omega)]
  rfl
theorem toPys_ps : ∀ ps : List (Int × Int), toPys (ps.map tupP) = some (ps.map pyP)
  | [] => by unfold toPys; rfl
  | p :: ps => by
    rw [List.map_cons, List.map_cons]
    unfold toPys
    rw [toPys_ps ps]
    unfold tupP pyP
    simp [toPy, toPys]
theorem can_ps : ∀ ps : List (Int × Int), PyData.canLayAll0 (ps.map pyP) = true
  | [] => by simp [PyData.canLayAll0]
  | p :: ps => by
    rw [List.map_cons]
    simp only [PyData.canLayAll0, PyData.canLay0, pyP, can_ps ps, Bool.and_self]
theorem c_nilP {M : Mh} {Q : QD} {c : Addr} {ps : List (Int × Int)} (h : M c = some (.lst (ps.map tupP))) (q : Q (.bl (decide (ps = []))) M) : cmpD .Eq (.ref c) (.lst []) M Q := by
  unfold cmpD
  show eqQ false (view M (.ref c)) (view M (.lst [])) M Q
  have e1 : view M (.ref c) = .lst (ps.map tupP) := view_lst h
  rw [e1, show view M (.lst []) = .lst [] from rfl]
  unfold eqQ
  have e2 : toPy (.lst (ps.map tupP)) = some (.list (ps.map pyP)) := by unfold toPy; rw [toPys_ps]
  have e3 : toPy (.lst []) = some (.list []) := by unfold toPy toPys; rfl
  simp only [e2, e3]
  refine ⟨?_, by decide +kernel, ?_⟩
  · unfold SeqAt.shaped
    have := depth_ps ps
    simp only [PyData.canLay0, can_ps, PyData.depth]
    simp
    omega
  · cases ps with
    | nil => simpa [PyData.eqv, PyData.eqvAll] using q
    | cons p ps => simpa [PyData.eqv, PyData.eqvAll] using q
theorem b_minp {M : Mh} {Q : QD} {c : Addr} {ps : List (Int × Int)} (h : M c = some (.lst (ps.map tupP))) (h0 : 0 < ps.length) (q : ∀ p ∈ ps, (∀ q ∈ ps, p.1 < q.1 ∨ p.1 = q.1 ∧ p.2 ≤ q.2) → Q (tupP p) M) : biD .minp [.ref c] M Q := by
  unfold biD
  simp only [view, h]
  exact ⟨ps, rfl, h0, q⟩
theorem sm_put {a b c d e : D} : putD (Str.ofString "curve") a [] = [(Str.ofString "curve", a)] ∧ putD (Str.ofString "begin") b [(Str.ofString "curve", a)] = [(Str.ofString "curve", a), (Str.ofString "begin", b)] ∧
    putD (Str.ofString "own") c [(Str.ofString "curve", a), (Str.ofString "begin", b)] = [(Str.ofString "curve", a), (Str.ofString "begin", b), (Str.ofString "own", c)] ∧
    putD (Str.ofString "least") d [(Str.ofString "curve", a), (Str.ofString "begin", b), (Str.ofString "own", c)] = [(Str.ofString "curve", a), (Str.ofString "begin", b), (Str.ofString "own", c), (Str.ofString "least", d)] ∧
    putD (Str.ofString "long") e [(Str.ofString "curve", a), (Str.ofString "begin", b), (Str.ofString "own", c), (Str.ofString "least", d)] = [(Str.ofString "curve", a), (Str.ofString "begin", b), (Str.ofString "own", c), (Str.ofString "least", d), (Str.ofString "long", e)] := by
  have h : ¬ Str.ofString "curve" = Str.ofString "begin" ∧ ¬ Str.ofString "curve" = Str.ofString "own" ∧ ¬ Str.ofString "begin" = Str.ofString "own" ∧ ¬ Str.ofString "curve" = Str.ofString "least" ∧ ¬ Str.ofString "begin" = Str.ofString "least" ∧ ¬ Str.ofString "own" = Str.ofString "least" ∧
    ¬ Str.ofString "curve" = Str.ofString "long" ∧ ¬ Str.ofString "begin" = Str.ofString "long" ∧ ¬ Str.ofString "own" = Str.ofString "long" ∧ ¬ Str.ofString "least" = Str.ofString "long" := by decide +kernel
  obtain ⟨h1, h2, h3, h4, h5, h6, h7, h8, h9, h10⟩ := h
  simp only [putD, if_neg h1, if_neg h2, if_neg h3, if_neg h4, if_neg h5, if_neg h6, if_neg h7, if_neg h8, if_neg h9, if_neg h10]
  exact ⟨trivial, trivial, trivial, trivial, trivial⟩
theorem x_begin2 {M : Mh} {Q : QD} {p : Addr} {f : D} {bg : Int} (h : M p = some (.ins (Str.ofString "Sums") [(Str.ofString "curve", f), (Str.ofString "begin", .int bg)])) (q : Q (.int bg) M) : fldD (.ref p) (Str.ofString "Sums") (Str.ofString "begin") M Q :=
  Ev.fld1 h (by obtain ⟨h1, h2, h3, h4, h5, h6, h7, h8, h9, h10⟩ := sm_ne; simp [List.lookup_cons, h1]) q
end PD

/-! the object that tells a stream turn by turn -/
namespace PD
open PySem PySem.Spec PyProof.Rows L2
def mtN : Str := Str.ofString "Meter"
def mtF (f : D) (x y : Addr) : List (Str × D) := [(Str.ofString "curve", f), (Str.ofString "tallies", .ref x), (Str.ofString "most", .ref y)]
theorem mt_ne : (Str.ofString "tallies" == Str.ofString "curve") = false ∧ (Str.ofString "most" == Str.ofString "curve") = false ∧ (Str.ofString "most" == Str.ofString "tallies") = false := by decide +kernel
theorem mt_put {a b c : D} : putD (Str.ofString "curve") a [] = [(Str.ofString "curve", a)] ∧ putD (Str.ofString "tallies") b [(Str.ofString "curve", a)] = [(Str.ofString "curve", a), (Str.ofString "tallies", b)] ∧
    putD (Str.ofString "most") c [(Str.ofString "curve", a), (Str.ofString "tallies", b)] = [(Str.ofString "curve", a), (Str.ofString "tallies", b), (Str.ofString "most", c)] := by
  have h : ¬ Str.ofString "curve" = Str.ofString "tallies" ∧ ¬ Str.ofString "curve" = Str.ofString "most" ∧ ¬ Str.ofString "tallies" = Str.ofString "most" := by decide +kernel
  obtain ⟨h1, h2, h3⟩ := h
  simp only [putD, if_neg h1, if_neg h2, if_neg h3]
  exact ⟨trivial, trivial, trivial⟩
section
variable {M : Mh} {Q : QD} {f : D} {x y p : Addr}
theorem x_mcv (h : M p = some (.ins (Str.ofString "Meter") (mtF f x y))) (q : Q f M) : fldD (.ref p) (Str.ofString "Meter") (Str.ofString "curve") M Q :=
  Ev.fld1 h (by unfold mtF; simp [List.lookup_cons]) q
theorem x_mta (h : M p = some (.ins (Str.ofString "Meter") (mtF f x y))) (q : Q (.ref x) M) : fldD (.ref p) (Str.ofString "Meter") (Str.ofString "tallies") M Q :=
  Ev.fld1 h (by obtain ⟨h1, h2, h3⟩ := mt_ne; unfold mtF; simp [List.lookup_cons, h1]) q
theorem x_mmo (h : M p = some (.ins (Str.ofString "Meter") (mtF f x y))) (q : Q (.ref y) M) : fldD (.ref p) (Str.ofString "Meter") (Str.ofString "most") M Q :=
  Ev.fld1 h (by obtain ⟨h1, h2, h3⟩ := mt_ne; unfold mtF; simp [List.lookup_cons, h2, h3]) q
def mtM : List Str := [Str.ofString "need_room", Str.ofString "leave", Str.ofString "come", Str.ofString "rest", Str.ofString "back", Str.ofString "told"]
theorem mtF_no : ∀ m ∈ mtM, (mtF f x y).lookup m = none := by
  have h : ∀ m ∈ mtM, (m == Str.ofString "curve") = false ∧ (m == Str.ofString "tallies") = false ∧ (m == Str.ofString "most") = false := by decide +kernel
  intro m hm
  obtain ⟨h1, h2, h3⟩ := h m hm
  unfold mtF
  simp [List.lookup_cons, h1, h2, h3]
theorem i_met {m : Str} {k : Prop} (h : M p = some (.ins (Str.ofString "Meter") (mtF f x y))) (hm : m ∈ mtM) (q : k) : insD (.ref p) (Str.ofString "Meter") m M k := Ev.ins1 h (mtF_no m hm) q
/-- a list of numbers, put behind another one -/
theorem m_exi {l k : List Int} (h : M p = some (.lst (il l))) (hl : l.length + k.length ≤ 1000000) (q : Q .non (mset M p (.lst (il (l ++ k))))) : meD .extend (.ref p) [.lst (il k)] M Q := by
  unfold meD
  simp only [h, view]
  refine ⟨sz_le (by rw [il_len, il_len]; exact hl), ?_⟩
  rw [il_app]
  exact q
end
end PD

namespace Claim
open PySem PySem.Spec PyProof.Rows L2 PD
set_option maxHeartbeats 0
/-! ### the text by places -/
instance tbL : Tb := ⟨[(Str.ofString "_law_refused"), (Str.ofString "_law_filled"), (Str.ofString "law")]⟩
def topS (i : Nat) : Stmt := PySem.Challenge.pw_arrivalcurves_k55_meters_refuse.main.body.getD i (.Pass ⟨0, 0, 0, 0⟩)
abbrev s_is_number : Stmt := topS 1
def S_is_number : Sta := ⟨[(Str.ofString "thing")], [], [], [(Str.ofString "isinstance"), (Str.ofString "int"), (Str.ofString "bool")], [], [], [], none⟩
def b_is_number : Ss :=
    .cons (.ret (.bop true (.cons (.isi (.v 0) "int") (.cons (.not (.isi (.v 0) "bool")) (.cons (.cmp .GtE (.v 0) (.k (.int 0))) .nil))))) <|
    .nil
theorem sc_is_number : FnScope S_is_number.N [(Str.ofString "thing")] (defScope s_is_number) := ⟨rfl, rfl, rfl, by decide +kernel, rfl, by decide +kernel, by decide +kernel⟩
theorem ck_is_number : chkSs S_is_number b_is_number (defScope s_is_number).names (defBody s_is_number) = true := by decide +kernel
abbrev s_value : Stmt := topS 2
def S_value : Sta := ⟨[(Str.ofString "f"), (Str.ofString "t"), (Str.ofString "first"), (Str.ofString "again"), (Str.ofString "rise"), (Str.ofString "on")], [], [], [(Str.ofString "len")], [], [], [], none⟩
def b_value : Ss :=
    .cons (.set (.tp [2, 3, 4]) (.v 0)) <|
    .cons (.ite (.cmp .Lt (.v 1) (.bi .len (.cons (.v 2) .nil))) (.cons (.ret (.ix (.v 2) (.v 1))) <|
    .nil) (.nil)) <|
    .cons (.set (.nm 5) (.bin .Sub (.v 1) (.bi .len (.cons (.v 2) .nil)))) <|
    .cons (.ret (.bin .Add (.ix (.v 3) (.bin .Mod (.v 5) (.bi .len (.cons (.v 3) .nil)))) (.bin .Mult (.v 4) (.bin .FloorDiv (.v 5) (.bi .len (.cons (.v 3) .nil)))))) <|
    .nil
theorem sc_value : FnScope S_value.N [(Str.ofString "f"), (Str.ofString "t")] (defScope s_value) := ⟨rfl, rfl, rfl, by decide +kernel, rfl, by decide +kernel, by decide +kernel⟩
theorem ck_value : chkSs S_value b_value (defScope s_value).names (defBody s_value) = true := by decide +kernel
abbrev s_Meter_init : Stmt := inClass (topS 19) 0
def S_Meter_init : Sta := ⟨[(Str.ofString "self"), (Str.ofString "f")], [], [], [], [.noat (Str.ofString "Meter") (Str.ofString "curve"), .noat (Str.ofString "Meter") (Str.ofString "tallies"), .noat (Str.ofString "Meter") (Str.ofString "most")], [], [], none⟩
def b_Meter_init : Ss :=
    .cons (.sfld (.v 0) (Str.ofString "Meter") (Str.ofString "curve") (.v 1)) <|
    .cons (.sfld (.v 0) (Str.ofString "Meter") (Str.ofString "tallies") (.ce (.lst (.cons (.k (.int 0)) .nil)))) <|
    .cons (.sfld (.v 0) (Str.ofString "Meter") (Str.ofString "most") (.ce (.lst (.cons (.k (.int 0)) .nil)))) <|
    .nil
theorem sc_Meter_init : FnScope S_Meter_init.N [(Str.ofString "self"), (Str.ofString "f")] (defScope s_Meter_init) := ⟨rfl, rfl, rfl, by decide +kernel, rfl, by decide +kernel, by decide +kernel⟩
theorem ck_Meter_init : chkSs S_Meter_init b_Meter_init (defScope s_Meter_init).names (defBody s_Meter_init) = true := by decide +kernel
abbrev s_Meter_need_room : Stmt := inClass (topS 19) 1
def S_Meter_need_room : Sta := ⟨[(Str.ofString "self"), (Str.ofString "turns")], [(Str.ofString "is_number")], [(Str.ofString "MOST_TURNS")], [(Str.ofString "len")], [.rse (Str.ofString "NoStream"), .noat (Str.ofString "Meter") (Str.ofString "tallies"), .rse (Str.ofString "TooLong")], [], [], none⟩
def b_Meter_need_room : Ss :=
    .cons (.ite (.not (.call 0 (.cons (.v 1) .nil))) (.cons (.rse (Str.ofString "NoStream")) <|
    .nil) (.nil)) <|
    .cons (.ite (.cmp .Gt (.bin .Add (.bi .len (.cons (.fld (.v 0) (Str.ofString "Meter") (Str.ofString "tallies")) .nil)) (.v 1)) (.bin .Add (.g 0) (.k (.int 1)))) (.cons (.rse (Str.ofString "TooLong")) <|
    .nil) (.nil)) <|
    .nil
theorem sc_Meter_need_room : FnScope S_Meter_need_room.N [(Str.ofString "self"), (Str.ofString "turns")] (defScope s_Meter_need_room) := ⟨rfl, rfl, rfl, by decide +kernel, rfl, by decide +kernel, by decide +kernel⟩
theorem ck_Meter_need_room : chkSs S_Meter_need_room b_Meter_need_room (defScope s_Meter_need_room).names (defBody s_Meter_need_room) = true := by decide +kernel
abbrev s_Meter_leave : Stmt := inClass (topS 19) 2
def S_Meter_leave : Sta := ⟨[(Str.ofString "self"), (Str.ofString "long"), (Str.ofString "s")], [(Str.ofString "value")], [], [(Str.ofString "len"), (Str.ofString "min"), (Str.ofString "range")], [.noat (Str.ofString "Meter") (Str.ofString "tallies"), .noat (Str.ofString "Meter") (Str.ofString "most"), .noat (Str.ofString "Meter") (Str.ofString "curve")], [], [], none⟩
def b_Meter_leave : Ss :=
    .cons (.set (.nm 1) (.bi .len (.cons (.fld (.v 0) (Str.ofString "Meter") (Str.ofString "tallies")) .nil))) <|
    .cons (.whl (.cmp .LtE (.bi .len (.cons (.fld (.v 0) (Str.ofString "Meter") (Str.ofString "most")) .nil)) (.v 1)) (.cons (.exp (.me .append (.fld (.v 0) (Str.ofString "Meter") (Str.ofString "most")) (.cons (.call 0 (.cons (.fld (.v 0) (Str.ofString "Meter") (Str.ofString "curve")) (.cons (.bi .len (.cons (.fld (.v 0) (Str.ofString "Meter") (Str.ofString "most")) .nil)) .nil))) .nil))) <|
    .nil)) <|
    .cons (.ret (.bin .Sub (.bi .min1 (.cons (.fr (.comp (.bin .Add (.ix (.fld (.v 0) (Str.ofString "Meter") (Str.ofString "most")) (.bin .Sub (.v 1) (.v 2))) (.ix (.fld (.v 0) (Str.ofString "Meter") (Str.ofString "tallies")) (.v 2))) (.nm 2) (.rng (.cons (.v 1) .nil)) (.nil))) .nil)) (.ix (.fld (.v 0) (Str.ofString "Meter") (Str.ofString "tallies")) (.neg (.k (.int 1)))))) <|
    .nil
theorem sc_Meter_leave : FnScope S_Meter_leave.N [(Str.ofString "self")] (defScope s_Meter_leave) := ⟨rfl, rfl, rfl, by decide +kernel, rfl, by decide +kernel, by decide +kernel⟩
theorem ck_Meter_leave : chkSs S_Meter_leave b_Meter_leave (defScope s_Meter_leave).names (defBody s_Meter_leave) = true := by decide +kernel
abbrev s_Meter_come : Stmt := inClass (topS 19) 3
def S_Meter_come : Sta := ⟨[(Str.ofString "self"), (Str.ofString "many")], [(Str.ofString "is_number"), (Str.ofString "Meter.need_room"), (Str.ofString "Meter.leave")], [], [], [.rse (Str.ofString "NoStream"), .rse (Str.ofString "TooMuch"), .noat (Str.ofString "Meter") (Str.ofString "tallies")], [(Str.ofString "Meter.need_room", Str.ofString "Meter", Str.ofString "need_room"), (Str.ofString "Meter.leave", Str.ofString "Meter", Str.ofString "leave")], [], none⟩
def b_Meter_come : Ss :=
    .cons (.ite (.not (.call 0 (.cons (.v 1) .nil))) (.cons (.rse (Str.ofString "NoStream")) <|
    .nil) (.nil)) <|
    .cons (.exp (.meth (.v 0) (Str.ofString "Meter") (Str.ofString "need_room") 1 (.cons (.k (.int 1)) .nil))) <|
    .cons (.ite (.cmp .Gt (.v 1) (.meth (.v 0) (Str.ofString "Meter") (Str.ofString "leave") 2 (.nil))) (.cons (.rse (Str.ofString "TooMuch")) <|
    .nil) (.nil)) <|
    .cons (.exp (.me .append (.fld (.v 0) (Str.ofString "Meter") (Str.ofString "tallies")) (.cons (.bin .Add (.ix (.fld (.v 0) (Str.ofString "Meter") (Str.ofString "tallies")) (.neg (.k (.int 1)))) (.v 1)) .nil))) <|
    .cons (.ret (.meth (.v 0) (Str.ofString "Meter") (Str.ofString "leave") 2 (.nil))) <|
    .nil
theorem sc_Meter_come : FnScope S_Meter_come.N [(Str.ofString "self"), (Str.ofString "many")] (defScope s_Meter_come) := ⟨rfl, rfl, rfl, by decide +kernel, rfl, by decide +kernel, by decide +kernel⟩
theorem ck_Meter_come : chkSs S_Meter_come b_Meter_come (defScope s_Meter_come).names (defBody s_Meter_come) = true := by decide +kernel
abbrev s_Meter_rest : Stmt := inClass (topS 19) 4
def S_Meter_rest : Sta := ⟨[(Str.ofString "self"), (Str.ofString "turns")], [(Str.ofString "Meter.need_room"), (Str.ofString "Meter.leave")], [], [], [.noat (Str.ofString "Meter") (Str.ofString "tallies")], [(Str.ofString "Meter.need_room", Str.ofString "Meter", Str.ofString "need_room"), (Str.ofString "Meter.leave", Str.ofString "Meter", Str.ofString "leave")], [], none⟩
def b_Meter_rest : Ss :=
    .cons (.exp (.meth (.v 0) (Str.ofString "Meter") (Str.ofString "need_room") 0 (.cons (.v 1) .nil))) <|
    .cons (.exp (.me .extend (.fld (.v 0) (Str.ofString "Meter") (Str.ofString "tallies")) (.cons (.bin .Mult (.fr (.lst (.cons (.ix (.fld (.v 0) (Str.ofString "Meter") (Str.ofString "tallies")) (.neg (.k (.int 1)))) .nil))) (.v 1)) .nil))) <|
    .cons (.ret (.meth (.v 0) (Str.ofString "Meter") (Str.ofString "leave") 1 (.nil))) <|
    .nil
theorem sc_Meter_rest : FnScope S_Meter_rest.N [(Str.ofString "self"), (Str.ofString "turns")] (defScope s_Meter_rest) := ⟨rfl, rfl, rfl, by decide +kernel, rfl, by decide +kernel, by decide +kernel⟩
theorem ck_Meter_rest : chkSs S_Meter_rest b_Meter_rest (defScope s_Meter_rest).names (defBody s_Meter_rest) = true := by decide +kernel
abbrev s_Meter_back : Stmt := inClass (topS 19) 5
def S_Meter_back : Sta := ⟨[(Str.ofString "self"), (Str.ofString "last")], [], [], [(Str.ofString "len")], [.noat (Str.ofString "Meter") (Str.ofString "tallies"), .rse (Str.ofString "NoBack")], [], [], none⟩
def b_Meter_back : Ss :=
    .cons (.ite (.cmp .Eq (.bi .len (.cons (.fld (.v 0) (Str.ofString "Meter") (Str.ofString "tallies")) .nil)) (.k (.int 1))) (.cons (.rse (Str.ofString "NoBack")) <|
    .nil) (.nil)) <|
    .cons (.set (.nm 1) (.me .pop (.fld (.v 0) (Str.ofString "Meter") (Str.ofString "tallies")) (.nil))) <|
    .cons (.ret (.bin .Sub (.v 1) (.ix (.fld (.v 0) (Str.ofString "Meter") (Str.ofString "tallies")) (.neg (.k (.int 1)))))) <|
    .nil
theorem sc_Meter_back : FnScope S_Meter_back.N [(Str.ofString "self")] (defScope s_Meter_back) := ⟨rfl, rfl, rfl, by decide +kernel, rfl, by decide +kernel, by decide +kernel⟩
theorem ck_Meter_back : chkSs S_Meter_back b_Meter_back (defScope s_Meter_back).names (defBody s_Meter_back) = true := by decide +kernel
abbrev s_Meter_told : Stmt := inClass (topS 19) 6
def S_Meter_told : Sta := ⟨[(Str.ofString "self"), (Str.ofString "t")], [], [], [(Str.ofString "range"), (Str.ofString "len")], [.noat (Str.ofString "Meter") (Str.ofString "tallies")], [], [], none⟩
def b_Meter_told : Ss :=
    .cons (.ret (.ce (.comp (.bin .Sub (.ix (.fld (.v 0) (Str.ofString "Meter") (Str.ofString "tallies")) (.v 1)) (.ix (.fld (.v 0) (Str.ofString "Meter") (Str.ofString "tallies")) (.bin .Sub (.v 1) (.k (.int 1))))) (.nm 1) (.rng (.cons (.k (.int 1)) (.cons (.bi .len (.cons (.fld (.v 0) (Str.ofString "Meter") (Str.ofString "tallies")) .nil)) .nil))) (.nil)))) <|
    .nil
theorem sc_Meter_told : FnScope S_Meter_told.N [(Str.ofString "self")] (defScope s_Meter_told) := ⟨rfl, rfl, rfl, by decide +kernel, rfl, by decide +kernel, by decide +kernel⟩
theorem ck_Meter_told : chkSs S_Meter_told b_Meter_told (defScope s_Meter_told).names (defBody s_Meter_told) = true := by decide +kernel
abbrev s_law_pen : Stmt := topS 21
def S_law_pen : Sta := ⟨[(Str.ofString "script")], [], [], [(Str.ofString "list")], [], [], [], none⟩
def b_law_pen : Ss :=
    .cons (.ret (.ce (.lst (.cons (.fr (.lof (.sl (.v 0) (.nil) (.cons (.k (.int 63)) .nil)))) (.cons (.k (.int 0)) (.cons (.k (.int 0)) .nil)))))) <|
    .nil
theorem sc_law_pen : FnScope S_law_pen.N [(Str.ofString "script")] (defScope s_law_pen) := ⟨rfl, rfl, rfl, by decide +kernel, rfl, by decide +kernel, by decide +kernel⟩
theorem ck_law_pen : chkSs S_law_pen b_law_pen (defScope s_law_pen).names (defBody s_law_pen) = true := by decide +kernel
abbrev s_law_take : Stmt := topS 22
def S_law_take : Sta := ⟨[(Str.ofString "pen"), (Str.ofString "many"), (Str.ofString "digit"), (Str.ofString "at"), (Str.ofString "cell"), (Str.ofString "primes"), (Str.ofString "number")], [], [], [(Str.ofString "len"), (Str.ofString "abs")], [], [], [], none⟩
def b_law_take : Ss :=
    .cons (.ite (.cmp .Gt (.ix (.v 0) (.k (.int 2))) (.k (.int 0))) (.cons (.set (.nm 2) (.bin .Mod (.ix (.v 0) (.k (.int 2))) (.v 1))) <|
    .cons (.six (.v 0) (.k (.int 2)) (.bin .FloorDiv (.ix (.v 0) (.k (.int 2))) (.v 1))) <|
    .cons (.ret (.v 2)) <|
    .nil) (.nil)) <|
    .cons (.set (.nm 3) (.ix (.v 0) (.k (.int 1)))) <|
    .cons (.six (.v 0) (.k (.int 1)) (.bin .Add (.v 3) (.k (.int 1)))) <|
    .cons (.set (.nm 4) (.bin .Add (.bin .Mult (.k (.int 5003)) (.v 3)) (.k (.int 41)))) <|
    .cons (.ite (.cmp .NotEq (.ix (.v 0) (.k (.int 0))) (.fr (.lst (.nil)))) (.cons (.set (.nm 4) (.ix (.ix (.v 0) (.k (.int 0))) (.bin .Mod (.v 3) (.bi .len (.cons (.ix (.v 0) (.k (.int 0))) .nil))))) <|
    .nil) (.nil)) <|
    .cons (.ite (.bop true (.cons (.cmp .Lt (.v 3) (.bi .len (.cons (.ix (.v 0) (.k (.int 0))) .nil))) (.cons (.cmp .GtE (.bi .abs (.cons (.v 4) .nil)) (.bin .Pow (.k (.int 10)) (.k (.int 18)))) .nil))) (.cons (.six (.v 0) (.k (.int 2)) (.bin .FloorDiv (.bi .abs (.cons (.v 4) .nil)) (.v 1))) <|
    .cons (.ret (.bin .Mod (.bi .abs (.cons (.v 4) .nil)) (.v 1))) <|
    .nil) (.nil)) <|
    .cons (.set (.nm 5) (.fr (.lst (.cons (.k (.int 2147483647)) (.cons (.k (.int 2147483629)) (.cons (.k (.int 2147483587)) (.cons (.k (.int 2147483579)) (.cons (.k (.int 2147483563)) (.cons (.k (.int 2147483549)) (.cons (.k (.int 2147483543)) .nil)))))))))) <|
    .cons (.set (.nm 6) (.bin .Add (.bin .Add (.bin .Mod (.v 4) (.k (.int 2147483497))) (.bin .Mult (.k (.int 70001)) (.v 3))) (.k (.int 19)))) <|
    .cons (.set (.nm 6) (.bin .Mod (.bin .Mult (.v 6) (.bin .Add (.bin .Mult (.v 3) (.v 3)) (.k (.int 48271)))) (.ix (.v 5) (.bin .Mod (.v 3) (.k (.int 7)))))) <|
    .cons (.ret (.bin .Mod (.bin .FloorDiv (.bin .Mod (.bin .Pow (.v 6) (.k (.int 5))) (.ix (.v 5) (.bin .Mod (.bin .Add (.v 3) (.k (.int 3))) (.k (.int 7))))) (.k (.int 64))) (.v 1))) <|
    .nil
theorem sc_law_take : FnScope S_law_take.N [(Str.ofString "pen"), (Str.ofString "many")] (defScope s_law_take) := ⟨rfl, rfl, rfl, by decide +kernel, rfl, by decide +kernel, by decide +kernel⟩
theorem ck_law_take : chkSs S_law_take b_law_take (defScope s_law_take).names (defBody s_law_take) = true := by decide +kernel
abbrev s_law_at : Stmt := topS 23
def S_law_at : Sta := ⟨[(Str.ofString "f"), (Str.ofString "t"), (Str.ofString "first"), (Str.ofString "again"), (Str.ofString "rise"), (Str.ofString "on")], [], [], [(Str.ofString "len")], [], [], [], none⟩
def b_law_at : Ss :=
    .cons (.set (.tp [2, 3, 4]) (.v 0)) <|
    .cons (.ite (.cmp .Lt (.v 1) (.bi .len (.cons (.v 2) .nil))) (.cons (.ret (.ix (.v 2) (.v 1))) <|
    .nil) (.nil)) <|
    .cons (.set (.nm 5) (.bin .Sub (.v 1) (.bi .len (.cons (.v 2) .nil)))) <|
    .cons (.ret (.bin .Add (.ix (.v 3) (.bin .Mod (.v 5) (.bi .len (.cons (.v 3) .nil)))) (.bin .Mult (.bin .FloorDiv (.v 5) (.bi .len (.cons (.v 3) .nil))) (.v 4)))) <|
    .nil
theorem sc_law_at : FnScope S_law_at.N [(Str.ofString "f"), (Str.ofString "t")] (defScope s_law_at) := ⟨rfl, rfl, rfl, by decide +kernel, rfl, by decide +kernel, by decide +kernel⟩
theorem ck_law_at : chkSs S_law_at b_law_at (defScope s_law_at).names (defBody s_law_at) = true := by decide +kernel
abbrev s_law_curve : Stmt := topS 24
def S_law_curve : Sta := ⟨[(Str.ofString "pen"), (Str.ofString "way"), (Str.ofString "wide"), (Str.ofString "quick"), (Str.ofString "early"), (Str.ofString "long"), (Str.ofString "row"), (Str.ofString "t"), (Str.ofString "step")], [(Str.ofString "_law_take")], [], [(Str.ofString "range"), (Str.ofString "tuple")], [], [], [], none⟩
def b_law_curve : Ss :=
    .cons (.set (.nm 1) (.call 0 (.cons (.v 0) (.cons (.k (.int 7)) .nil)))) <|
    .cons (.set (.nm 2) (.bin .FloorDiv (.call 0 (.cons (.v 0) (.cons (.k (.int 16)) .nil))) (.k (.int 15)))) <|
    .cons (.set (.nm 3) (.bin .Add (.k (.int 1)) (.call 0 (.cons (.v 0) (.cons (.k (.int 6)) .nil))))) <|
    .cons (.set (.nm 4) (.bin .Add (.call 0 (.cons (.v 0) (.cons (.k (.int 8)) .nil))) (.bin .Mult (.k (.int 17)) (.v 2)))) <|
    .cons (.set (.nm 5) (.bin .Add (.bin .Add (.k (.int 1)) (.call 0 (.cons (.v 0) (.cons (.k (.int 5)) .nil)))) (.bin .Mult (.k (.int 7)) (.v 2)))) <|
    .cons (.set (.nm 6) (.ce (.lst (.cons (.k (.int 0)) .nil)))) <|
    .cons (.for_ (.nm 7) (.rng (.cons (.k (.int 1)) (.cons (.bin .Add (.bin .Add (.v 4) (.v 5)) (.k (.int 1))) .nil))) (.cons (.set (.nm 8) (.call 0 (.cons (.v 0) (.cons (.bin .Add (.bin .Mult (.k (.int 2)) (.v 3)) (.k (.int 1))) .nil)))) <|
    .cons (.ite (.cmp .Eq (.v 1) (.k (.int 0))) (.cons (.set (.nm 8) (.v 3)) <|
    .nil) (.nil)) <|
    .cons (.ite (.bop true (.cons (.cmp .Eq (.v 1) (.k (.int 1))) (.cons (.cmp .Lt (.v 7) (.v 4)) .nil))) (.cons (.set (.nm 8) (.k (.int 0))) <|
    .nil) (.nil)) <|
    .cons (.ite (.bop true (.cons (.cmp .Eq (.v 1) (.k (.int 2))) (.cons (.cmp .Eq (.v 7) (.k (.int 1))) .nil))) (.cons (.set (.nm 8) (.bin .Add (.v 8) (.bin .Mult (.k (.int 10)) (.v 3)))) <|
    .nil) (.nil)) <|
    .cons (.ite (.bop true (.cons (.cmp .Eq (.v 1) (.k (.int 3))) (.cons (.cmp .Gt (.bin .Mod (.v 8) (.k (.int 3))) (.k (.int 0))) .nil))) (.cons (.set (.nm 8) (.k (.int 0))) <|
    .nil) (.nil)) <|
    .cons (.ite (.cmp .Eq (.v 1) (.k (.int 4))) (.cons (.set (.nm 8) (.bin .Mult (.v 8) (.k (.int 999)))) <|
    .nil) (.nil)) <|
    .cons (.exp (.me .append (.v 6) (.cons (.bin .Add (.ix (.v 6) (.neg (.k (.int 1)))) (.v 8)) .nil))) <|
    .nil)) <|
    .cons (.ret (.tup (.cons (.bi .tup (.cons (.sl (.v 6) (.nil) (.cons (.v 4) .nil)) .nil)) (.cons (.bi .tup (.cons (.sl (.v 6) (.cons (.v 4) .nil) (.cons (.bin .Add (.v 4) (.v 5)) .nil)) .nil)) (.cons (.bin .Sub (.ix (.v 6) (.bin .Add (.v 4) (.v 5))) (.ix (.v 6) (.v 4))) .nil))))) <|
    .nil
theorem sc_law_curve : FnScope S_law_curve.N [(Str.ofString "pen")] (defScope s_law_curve) := ⟨rfl, rfl, rfl, by decide +kernel, rfl, by decide +kernel, by decide +kernel⟩
theorem ck_law_curve : chkSs S_law_curve b_law_curve (defScope s_law_curve).names (defBody s_law_curve) = true := by decide +kernel
abbrev s_law_word : Stmt := topS 25
def S_law_word : Sta := ⟨[(Str.ofString "asked"), (Str.ofString "caught"), (Str.ofString "e"), (Str.ofString "kinds")], [(Str.ofString "<thunk>")], [], [(Str.ofString "isinstance")], [.exm (Str.ofString "NoStream") (Str.ofString "CurveError"), .exm (Str.ofString "TooMuch") (Str.ofString "CurveError"), .exm (Str.ofString "TooLong") (Str.ofString "CurveError"), .exm (Str.ofString "NoBack") (Str.ofString "CurveError"), .exc (Str.ofString "NoStream"), .kit (Str.ofString "NoStream") (Str.ofString "Endless"), .kit (Str.ofString "NoStream") (Str.ofString "NoCurve"), .kit (Str.ofString "NoStream") (Str.ofString "NoName"), .kit (Str.ofString "NoStream") (Str.ofString "NoNet"), .kit (Str.ofString "NoStream") (Str.ofString "NoRow"), .kit (Str.ofString "NoStream") (Str.ofString "NoText"), .kit (Str.ofString "NoStream") (Str.ofString "Ring"), .kit (Str.ofString "NoStream") (Str.ofString "TooLittle"), .exc (Str.ofString "TooMuch"), .kit (Str.ofString "TooMuch") (Str.ofString "Endless"), .kit (Str.ofString "TooMuch") (Str.ofString "NoCurve"), .kit (Str.ofString "TooMuch") (Str.ofString "NoName"), .kit (Str.ofString "TooMuch") (Str.ofString "NoNet"), .kit (Str.ofString "TooMuch") (Str.ofString "NoRow"), .kit (Str.ofString "TooMuch") (Str.ofString "NoText"), .kit (Str.ofString "TooMuch") (Str.ofString "Ring"), .kit (Str.ofString "TooMuch") (Str.ofString "TooLittle"), .exc (Str.ofString "TooLong"), .kit (Str.ofString "TooLong") (Str.ofString "Endless"), .kit (Str.ofString "TooLong") (Str.ofString "NoCurve"), .kit (Str.ofString "TooLong") (Str.ofString "NoName"), .kit (Str.ofString "TooLong") (Str.ofString "NoNet"), .kit (Str.ofString "TooLong") (Str.ofString "NoRow"), .kit (Str.ofString "TooLong") (Str.ofString "NoText"), .kit (Str.ofString "TooLong") (Str.ofString "Ring"), .kit (Str.ofString "TooLong") (Str.ofString "TooLittle"), .exc (Str.ofString "NoBack"), .kit (Str.ofString "NoBack") (Str.ofString "Endless"), .kit (Str.ofString "NoBack") (Str.ofString "NoCurve"), .kit (Str.ofString "NoBack") (Str.ofString "NoName"), .kit (Str.ofString "NoBack") (Str.ofString "NoNet"), .kit (Str.ofString "NoBack") (Str.ofString "NoRow"), .kit (Str.ofString "NoBack") (Str.ofString "NoText"), .kit (Str.ofString "NoBack") (Str.ofString "Ring"), .kit (Str.ofString "NoBack") (Str.ofString "TooLittle"), .kit (Str.ofString "NoStream") (Str.ofString "TooMuch"), .kit (Str.ofString "TooMuch") (Str.ofString "TooMuch"), .kit (Str.ofString "TooLong") (Str.ofString "TooMuch"), .kit (Str.ofString "NoBack") (Str.ofString "TooMuch"), .kit (Str.ofString "NoStream") (Str.ofString "NoStream"), .kit (Str.ofString "TooMuch") (Str.ofString "NoStream"), .kit (Str.ofString "TooLong") (Str.ofString "NoStream"), .kit (Str.ofString "NoBack") (Str.ofString "NoStream"), .kit (Str.ofString "NoStream") (Str.ofString "NoBack"), .kit (Str.ofString "TooMuch") (Str.ofString "NoBack"), .kit (Str.ofString "TooLong") (Str.ofString "NoBack"), .kit (Str.ofString "NoBack") (Str.ofString "NoBack"), .kit (Str.ofString "NoStream") (Str.ofString "TooLong"), .kit (Str.ofString "TooMuch") (Str.ofString "TooLong"), .kit (Str.ofString "TooLong") (Str.ofString "TooLong"), .kit (Str.ofString "NoBack") (Str.ofString "TooLong"), .kit (Str.ofString "NoStream") (Str.ofString "ValueError"), .kit (Str.ofString "TooMuch") (Str.ofString "ValueError"), .kit (Str.ofString "TooLong") (Str.ofString "ValueError"), .kit (Str.ofString "NoBack") (Str.ofString "ValueError")], [(Str.ofString "<thunk>", lamW, thunkW)], (defScope s_law_word).names, some (Str.ofString "asked", 0, 0)⟩
def b_law_word : Ss :=
    .cons (.set (.nm 1) (.k .non)) <|
    .cons (.tryn [Str.ofString "NoStream", Str.ofString "TooMuch", Str.ofString "TooLong", Str.ofString "NoBack"] (Str.ofString "CurveError") (.cons (.exp (.thk 0 0)) <|
    .nil) 2 1) <|
    .cons (.ite (.cmp .Is (.v 1) (.k .non)) (.cons (.ret (.k (.str (Str.ofString "told")))) <|
    .nil) (.nil)) <|
    .cons (.ite (.isc (.v 1) [Str.ofString "NoStream", Str.ofString "TooMuch", Str.ofString "TooLong", Str.ofString "NoBack"] [Str.ofString "Endless", Str.ofString "NoCurve", Str.ofString "NoName", Str.ofString "NoNet", Str.ofString "NoRow", Str.ofString "NoText", Str.ofString "Ring", Str.ofString "TooLittle"]) (.cons (.ret (.k (.str (Str.ofString "other")))) <|
    .nil) (.nil)) <|
    .cons (.set (.nm 3) (.ce (.lst (.cons (.isc (.v 1) [Str.ofString "NoStream", Str.ofString "TooMuch", Str.ofString "TooLong", Str.ofString "NoBack"] [Str.ofString "TooMuch"]) (.cons (.isc (.v 1) [Str.ofString "NoStream", Str.ofString "TooMuch", Str.ofString "TooLong", Str.ofString "NoBack"] [Str.ofString "NoStream"]) (.cons (.isc (.v 1) [Str.ofString "NoStream", Str.ofString "TooMuch", Str.ofString "TooLong", Str.ofString "NoBack"] [Str.ofString "NoBack"]) .nil)))))) <|
    .cons (.exp (.me .append (.v 3) (.cons (.isc (.v 1) [Str.ofString "NoStream", Str.ofString "TooMuch", Str.ofString "TooLong", Str.ofString "NoBack"] [Str.ofString "TooLong"]) .nil))) <|
    .cons (.ite (.bop false (.cons (.cmp .NotEq (.me .count (.v 3) (.cons (.k (.bl true)) .nil)) (.k (.int 1))) (.cons (.not (.isc (.v 1) [Str.ofString "NoStream", Str.ofString "TooMuch", Str.ofString "TooLong", Str.ofString "NoBack"] [Str.ofString "ValueError"])) .nil))) (.cons (.ret (.k (.str (Str.ofString "other")))) <|
    .nil) (.nil)) <|
    .cons (.ret (.ix (.fr (.lst (.cons (.k (.str (Str.ofString "much"))) (.cons (.k (.str (Str.ofString "stream"))) (.cons (.k (.str (Str.ofString "back"))) (.cons (.k (.str (Str.ofString "long"))) .nil)))))) (.idx (.v 3) (.cons (.k (.bl true)) .nil)))) <|
    .nil
theorem sc_law_word : FnScope S_law_word.N [(Str.ofString "asked")] (defScope s_law_word) := ⟨rfl, rfl, rfl, by decide +kernel, rfl, by decide +kernel, by decide +kernel⟩
theorem ck_law_word : chkSs S_law_word b_law_word (defScope s_law_word).names (defBody s_law_word) = true := by decide +kernel
abbrev s_law_odd : Stmt := topS 26
def S_law_odd : Sta := ⟨[(Str.ofString "pen"), (Str.ofString "some")], [(Str.ofString "_law_take")], [], [(Str.ofString "len")], [], [], [], none⟩
def b_law_odd : Ss :=
    .cons (.set (.nm 1) (.fr (.lst (.cons (.k .non) (.cons (.k (.bl true)) (.cons (.k (.bl false)) (.cons (.k (.str (Str.ofString "1"))) (.cons (.neg (.k (.int 1))) (.cons (.fr (.lst (.cons (.k (.int 1)) .nil))) (.cons (.tup (.cons (.k (.int 1)) .nil)) (.cons (.dfr [] (.nil)) (.cons (.bin .Sub (.bin .Sub (.k (.int 0)) (.bin .Pow (.k (.int 10)) (.k (.int 29)))) (.call 0 (.cons (.v 0) (.cons (.k (.int 9)) .nil)))) (.cons (.k (.str (Str.ofString ""))) .nil))))))))))))) <|
    .cons (.ret (.ix (.v 1) (.call 0 (.cons (.v 0) (.cons (.bi .len (.cons (.v 1) .nil)) .nil))))) <|
    .nil
theorem sc_law_odd : FnScope S_law_odd.N [(Str.ofString "pen")] (defScope s_law_odd) := ⟨rfl, rfl, rfl, by decide +kernel, rfl, by decide +kernel, by decide +kernel⟩
theorem ck_law_odd : chkSs S_law_odd b_law_odd (defScope s_law_odd).names (defBody s_law_odd) = true := by decide +kernel
abbrev s_law_leave : Stmt := topS 27
def S_law_leave : Sta := ⟨[(Str.ofString "f"), (Str.ofString "counts"), (Str.ofString "here"), (Str.ofString "s")], [(Str.ofString "_law_at")], [], [(Str.ofString "len"), (Str.ofString "min"), (Str.ofString "range")], [], [], [], none⟩
def b_law_leave : Ss :=
    .cons (.set (.nm 2) (.bi .len (.cons (.v 1) .nil))) <|
    .cons (.ret (.bin .Sub (.bi .min1 (.cons (.fr (.comp (.bin .Add (.ix (.v 1) (.v 3)) (.call 0 (.cons (.v 0) (.cons (.bin .Sub (.v 2) (.v 3)) .nil)))) (.nm 3) (.rng (.cons (.v 2) .nil)) (.nil))) .nil)) (.ix (.v 1) (.neg (.k (.int 1)))))) <|
    .nil
theorem sc_law_leave : FnScope S_law_leave.N [(Str.ofString "f"), (Str.ofString "counts")] (defScope s_law_leave) := ⟨rfl, rfl, rfl, by decide +kernel, rfl, by decide +kernel, by decide +kernel⟩
theorem ck_law_leave : chkSs S_law_leave b_law_leave (defScope s_law_leave).names (defBody s_law_leave) = true := by decide +kernel
abbrev s_law_stands : Stmt := topS 28
def S_law_stands : Sta := ⟨[(Str.ofString "meter"), (Str.ofString "f"), (Str.ofString "counts"), (Str.ofString "t")], [(Str.ofString "Meter.told"), (Str.ofString "Meter.leave"), (Str.ofString "_law_leave")], [], [(Str.ofString "range"), (Str.ofString "len")], [], [(Str.ofString "Meter.told", Str.ofString "Meter", Str.ofString "told"), (Str.ofString "Meter.leave", Str.ofString "Meter", Str.ofString "leave")], [], none⟩
def b_law_stands : Ss :=
    .cons (.ite (.cmp .NotEq (.meth (.v 0) (Str.ofString "Meter") (Str.ofString "told") 0 (.nil)) (.fr (.comp (.bin .Sub (.ix (.v 2) (.v 3)) (.ix (.v 2) (.bin .Sub (.v 3) (.k (.int 1))))) (.nm 3) (.rng (.cons (.k (.int 1)) (.cons (.bi .len (.cons (.v 2) .nil)) .nil))) (.nil)))) (.cons (.ret (.k (.bl false))) <|
    .nil) (.nil)) <|
    .cons (.ret (.cmp .Eq (.meth (.v 0) (Str.ofString "Meter") (Str.ofString "leave") 1 (.nil)) (.call 2 (.cons (.v 1) (.cons (.v 2) .nil))))) <|
    .nil
theorem sc_law_stands : FnScope S_law_stands.N [(Str.ofString "meter"), (Str.ofString "f"), (Str.ofString "counts")] (defScope s_law_stands) := ⟨rfl, rfl, rfl, by decide +kernel, rfl, by decide +kernel, by decide +kernel⟩
theorem ck_law_stands : chkSs S_law_stands b_law_stands (defScope s_law_stands).names (defBody s_law_stands) = true := by decide +kernel
abbrev s_law_refused : Stmt := topS 29
def S_law_refused : Sta := ⟨[(Str.ofString "pen"), (Str.ofString "meter"), (Str.ofString "f"), (Str.ofString "counts"), (Str.ofString "way"), (Str.ofString "looked"), (Str.ofString "far"), (Str.ofString "odd"), (Str.ofString "most"), (Str.ofString "last")], [(Str.ofString "_law_take"), (Str.ofString "_law_odd"), (Str.ofString "_law_leave"), (Str.ofString "_law_word"), (Str.ofString "Meter.come"), (Str.ofString "Meter.rest"), (Str.ofString "Meter.back"), (Str.ofString "_law_stands")], [], [(Str.ofString "len")], [], [(Str.ofString "Meter.come", Str.ofString "Meter", Str.ofString "come"), (Str.ofString "Meter.rest", Str.ofString "Meter", Str.ofString "rest"), (Str.ofString "Meter.back", Str.ofString "Meter", Str.ofString "back"), (Str.ofString "_law_word", lamW, takeW)], (defScope s_law_refused).names, none⟩
def b_law_refused : Ss :=
    .cons (.set (.nm 4) (.call 0 (.cons (.v 0) (.cons (.k (.int 6)) .nil)))) <|
    .cons (.set (.nm 5) (.call 0 (.cons (.v 0) (.cons (.k (.int 3)) .nil)))) <|
    .cons (.set (.nm 6) (.ix (.fr (.lst (.cons (.k (.int 0)) (.cons (.k (.int 0)) (.cons (.k (.int 1)) (.cons (.k (.int 7)) (.cons (.bin .Pow (.k (.int 10)) (.k (.int 28))) .nil))))))) (.call 0 (.cons (.v 0) (.cons (.k (.int 5)) .nil))))) <|
    .cons (.set (.nm 7) (.call 1 (.cons (.v 0) .nil))) <|
    .cons (.set (.nm 8) (.call 2 (.cons (.v 2) (.cons (.v 3) .nil)))) <|
    .cons (.ite (.bop true (.cons (.cmp .Eq (.v 4) (.k (.int 0))) (.cons (.cmp .NotEq (.lam 3 (.meth (.v 1) (Str.ofString "Meter") (Str.ofString "come") 4 (.cons (.bin .Add (.bin .Add (.v 8) (.k (.int 1))) (.v 6)) .nil))) (.k (.str (Str.ofString "much")))) .nil))) (.cons (.ret (.k (.bl false))) <|
    .nil) (.nil)) <|
    .cons (.ite (.bop true (.cons (.cmp .Eq (.v 4) (.k (.int 1))) (.cons (.cmp .NotEq (.lam 3 (.meth (.v 1) (Str.ofString "Meter") (Str.ofString "come") 4 (.cons (.v 7) .nil))) (.k (.str (Str.ofString "stream")))) .nil))) (.cons (.ret (.k (.bl false))) <|
    .nil) (.nil)) <|
    .cons (.ite (.bop true (.cons (.cmp .Eq (.v 4) (.k (.int 2))) (.cons (.cmp .NotEq (.lam 3 (.meth (.v 1) (Str.ofString "Meter") (Str.ofString "rest") 5 (.cons (.v 7) .nil))) (.k (.str (Str.ofString "stream")))) .nil))) (.cons (.ret (.k (.bl false))) <|
    .nil) (.nil)) <|
    .cons (.ite (.bop true (.cons (.cmp .Eq (.v 4) (.k (.int 3))) (.cons (.cmp .Eq (.bi .len (.cons (.v 3) .nil)) (.k (.int 1))) (.cons (.cmp .NotEq (.lam 3 (.meth (.v 1) (Str.ofString "Meter") (Str.ofString "back") 6 (.nil))) (.k (.str (Str.ofString "back")))) .nil)))) (.cons (.ret (.k (.bl false))) <|
    .nil) (.nil)) <|
    .cons (.ite (.bop true (.cons (.cmp .Eq (.v 4) (.k (.int 3))) (.cons (.cmp .Gt (.bi .len (.cons (.v 3) .nil)) (.k (.int 1))) .nil))) (.cons (.set (.nm 9) (.me .pop (.v 3) (.nil))) <|
    .cons (.ite (.cmp .NotEq (.meth (.v 1) (Str.ofString "Meter") (Str.ofString "back") 6 (.nil)) (.bin .Sub (.v 9) (.ix (.v 3) (.neg (.k (.int 1)))))) (.cons (.ret (.k (.bl false))) <|
    .nil) (.nil)) <|
    .nil) (.nil)) <|
    .cons (.ite (.cmp .Gt (.v 4) (.k (.int 3))) (.cons (.exp (.me .append (.v 3) (.cons (.bin .Add (.ix (.v 3) (.neg (.k (.int 1)))) (.bin .Mult (.v 8) (.bin .Sub (.k (.int 5)) (.v 4)))) .nil))) <|
    .cons (.ite (.cmp .NotEq (.meth (.v 1) (Str.ofString "Meter") (Str.ofString "come") 4 (.cons (.bin .Mult (.v 8) (.bin .Sub (.k (.int 5)) (.v 4))) .nil)) (.call 2 (.cons (.v 2) (.cons (.v 3) .nil)))) (.cons (.ret (.k (.bl false))) <|
    .nil) (.nil)) <|
    .nil) (.nil)) <|
    .cons (.ret (.bop false (.cons (.cmp .Gt (.v 5) (.k (.int 0))) (.cons (.call 7 (.cons (.v 1) (.cons (.v 2) (.cons (.v 3) .nil)))) .nil)))) <|
    .nil
theorem sc_law_refused : FnScope S_law_refused.N [(Str.ofString "pen"), (Str.ofString "meter"), (Str.ofString "f"), (Str.ofString "counts")] (defScope s_law_refused) := ⟨rfl, rfl, rfl, by decide +kernel, rfl, by decide +kernel, by decide +kernel⟩
theorem ck_law_refused : chkSs S_law_refused b_law_refused (defScope s_law_refused).names (defBody s_law_refused) = true := by decide +kernel
abbrev s_law_filled : Stmt := topS 30
def S_law_filled : Sta := ⟨[(Str.ofString "pen"), (Str.ofString "meter"), (Str.ofString "f"), (Str.ofString "counts"), (Str.ofString "lack"), (Str.ofString "far"), (Str.ofString "odd"), (Str.ofString "more"), (Str.ofString "heard"), (Str.ofString "words"), (Str.ofString "turns"), (Str.ofString "much"), (Str.ofString "many")], [(Str.ofString "_law_take"), (Str.ofString "_law_odd"), (Str.ofString "Meter.rest"), (Str.ofString "_law_leave"), (Str.ofString "_law_word"), (Str.ofString "Meter.come"), (Str.ofString "_law_stands"), (Str.ofString "Meter.told")], [], [(Str.ofString "len")], [], [(Str.ofString "Meter.rest", Str.ofString "Meter", Str.ofString "rest"), (Str.ofString "Meter.come", Str.ofString "Meter", Str.ofString "come"), (Str.ofString "Meter.told", Str.ofString "Meter", Str.ofString "told"), (Str.ofString "_law_word", lamW, takeW)], (defScope s_law_filled).names, none⟩
def b_law_filled : Ss :=
    .cons (.set (.nm 4) (.call 0 (.cons (.v 0) (.cons (.k (.int 2)) .nil)))) <|
    .cons (.set (.nm 5) (.ix (.fr (.lst (.cons (.k (.int 1)) (.cons (.k (.int 2)) (.cons (.k (.int 10)) (.cons (.bin .Pow (.k (.int 10)) (.k (.int 29))) .nil)))))) (.call 0 (.cons (.v 0) (.cons (.k (.int 4)) .nil))))) <|
    .cons (.set (.nm 6) (.call 1 (.cons (.v 0) .nil))) <|
    .cons (.set (.nm 7) (.bin .Sub (.bin .Sub (.k (.int 401)) (.bi .len (.cons (.v 3) .nil))) (.v 4))) <|
    .cons (.set (.nm 8) (.meth (.v 1) (Str.ofString "Meter") (Str.ofString "rest") 2 (.cons (.v 7) .nil))) <|
    .cons (.exp (.me .extend (.v 3) (.cons (.bin .Mult (.fr (.lst (.cons (.ix (.v 3) (.neg (.k (.int 1)))) .nil))) (.v 7)) .nil))) <|
    .cons (.ite (.cmp .NotEq (.v 8) (.call 3 (.cons (.v 2) (.cons (.v 3) .nil)))) (.cons (.ret (.k (.bl false))) <|
    .nil) (.nil)) <|
    .cons (.set (.nm 9) (.ce (.lst (.nil)))) <|
    .cons (.for_ (.nm 10) (.seq (.fr (.lst (.cons (.bin .Add (.v 4) (.v 5)) (.cons (.v 6) .nil))))) (.cons (.exp (.me .append (.v 9) (.cons (.lam 4 (.meth (.v 1) (Str.ofString "Meter") (Str.ofString "rest") 2 (.cons (.v 10) .nil))) .nil))) <|
    .nil)) <|
    .cons (.exp (.me .append (.v 9) (.cons (.lam 4 (.meth (.v 1) (Str.ofString "Meter") (Str.ofString "come") 5 (.cons (.v 6) .nil))) .nil))) <|
    .cons (.ite (.cmp .NotEq (.v 9) (.fr (.lst (.cons (.k (.str (Str.ofString "long"))) (.cons (.k (.str (Str.ofString "stream"))) (.cons (.k (.str (Str.ofString "stream"))) .nil)))))) (.cons (.ret (.k (.bl false))) <|
    .nil) (.nil)) <|
    .cons (.ite (.cmp .Eq (.v 4) (.k (.int 1))) (.cons (.exp (.me .append (.v 3) (.cons (.bin .Add (.ix (.v 3) (.neg (.k (.int 1)))) (.call 3 (.cons (.v 2) (.cons (.v 3) .nil)))) .nil))) <|
    .cons (.ite (.cmp .NotEq (.meth (.v 1) (Str.ofString "Meter") (Str.ofString "come") 5 (.cons (.bin .Sub (.ix (.v 3) (.neg (.k (.int 1)))) (.ix (.v 3) (.neg (.k (.int 2))))) .nil)) (.call 3 (.cons (.v 2) (.cons (.v 3) .nil)))) (.cons (.ret (.k (.bl false))) <|
    .nil) (.nil)) <|
    .nil) (.nil)) <|
    .cons (.set (.nm 11) (.bin .Add (.call 3 (.cons (.v 2) (.cons (.v 3) .nil))) (.k (.int 1)))) <|
    .cons (.set (.nm 9) (.ce (.lst (.nil)))) <|
    .cons (.for_ (.nm 12) (.seq (.fr (.lst (.cons (.k (.int 0)) (.cons (.v 11) .nil))))) (.cons (.exp (.me .append (.v 9) (.cons (.lam 4 (.meth (.v 1) (Str.ofString "Meter") (Str.ofString "come") 5 (.cons (.v 12) .nil))) .nil))) <|
    .nil)) <|
    .cons (.ite (.cmp .NotEq (.meth (.v 1) (Str.ofString "Meter") (Str.ofString "rest") 2 (.cons (.k (.int 0)) .nil)) (.call 3 (.cons (.v 2) (.cons (.v 3) .nil)))) (.cons (.ret (.k (.bl false))) <|
    .nil) (.nil)) <|
    .cons (.ret (.bop true (.cons (.cmp .Eq (.v 9) (.fr (.lst (.cons (.k (.str (Str.ofString "long"))) (.cons (.k (.str (Str.ofString "long"))) .nil))))) (.cons (.call 6 (.cons (.v 1) (.cons (.v 2) (.cons (.v 3) .nil)))) (.cons (.cmp .Eq (.bi .len (.cons (.meth (.v 1) (Str.ofString "Meter") (Str.ofString "told") 7 (.nil)) .nil)) (.k (.int 400))) .nil))))) <|
    .nil
theorem sc_law_filled : FnScope S_law_filled.N [(Str.ofString "pen"), (Str.ofString "meter"), (Str.ofString "f"), (Str.ofString "counts")] (defScope s_law_filled) := ⟨rfl, rfl, rfl, by decide +kernel, rfl, by decide +kernel, by decide +kernel⟩
theorem ck_law_filled : chkSs S_law_filled b_law_filled (defScope s_law_filled).names (defBody s_law_filled) = true := by decide +kernel
abbrev s_law : Stmt := topS 31
def S_law : Sta := ⟨[(Str.ofString "script"), (Str.ofString "pen"), (Str.ofString "f"), (Str.ofString "meter"), (Str.ofString "counts"), (Str.ofString "turn"), (Str.ofString "last"), (Str.ofString "most"), (Str.ofString "lone")], [(Str.ofString "_law_pen"), (Str.ofString "_law_curve"), (Str.ofString "Meter.__init__"), (Str.ofString "_law_take"), (Str.ofString "_law_refused"), (Str.ofString "_law_filled"), (Str.ofString "Meter.back"), (Str.ofString "_law_leave"), (Str.ofString "_law_word"), (Str.ofString "Meter.come"), (Str.ofString "Meter.rest"), (Str.ofString "_law_stands"), (Str.ofString "Meter.told"), (Str.ofString "Meter.leave"), (Str.ofString "_law_at")], [], [(Str.ofString "range")], [], [(Str.ofString "Meter.__init__", Str.ofString "Meter", Str.ofString "__init__"), (Str.ofString "Meter.back", Str.ofString "Meter", Str.ofString "back"), (Str.ofString "Meter.come", Str.ofString "Meter", Str.ofString "come"), (Str.ofString "Meter.rest", Str.ofString "Meter", Str.ofString "rest"), (Str.ofString "Meter.told", Str.ofString "Meter", Str.ofString "told"), (Str.ofString "Meter.leave", Str.ofString "Meter", Str.ofString "leave"), (Str.ofString "_law_word", lamW, takeW)], (defScope s_law).names, none⟩
def b_law : Ss :=
    .cons (.set (.nm 1) (.call 0 (.cons (.v 0) .nil))) <|
    .cons (.set (.nm 2) (.call 1 (.cons (.v 1) .nil))) <|
    .cons (.set (.nm 3) (.make (Str.ofString "Meter") 2 (.cons (.v 2) .nil))) <|
    .cons (.set (.nm 4) (.ce (.lst (.cons (.k (.int 0)) .nil)))) <|
    .cons (.for_ (.nm 5) (.rng (.cons (.bin .Add (.k (.int 2)) (.call 3 (.cons (.v 1) (.cons (.k (.int 11)) .nil)))) .nil)) (.cons (.ite (.not (.call 4 (.cons (.v 1) (.cons (.v 3) (.cons (.v 2) (.cons (.v 4) .nil)))))) (.cons (.ret (.k (.bl false))) <|
    .nil) (.nil)) <|
    .nil)) <|
    .cons (.ite (.not (.call 5 (.cons (.v 1) (.cons (.v 3) (.cons (.v 2) (.cons (.v 4) .nil)))))) (.cons (.ret (.k (.bl false))) <|
    .nil) (.nil)) <|
    .cons (.for_ (.nm 5) (.rng (.cons (.k (.int 3)) .nil)) (.cons (.set (.nm 6) (.me .pop (.v 4) (.nil))) <|
    .cons (.ite (.cmp .NotEq (.meth (.v 3) (Str.ofString "Meter") (Str.ofString "back") 6 (.nil)) (.bin .Sub (.v 6) (.ix (.v 4) (.neg (.k (.int 1)))))) (.cons (.ret (.k (.bl false))) <|
    .nil) (.nil)) <|
    .nil)) <|
    .cons (.set (.nm 7) (.call 7 (.cons (.v 2) (.cons (.v 4) .nil)))) <|
    .cons (.ite (.cmp .NotEq (.lam 8 (.meth (.v 3) (Str.ofString "Meter") (Str.ofString "come") 9 (.cons (.bin .Add (.v 7) (.k (.int 1))) .nil))) (.k (.str (Str.ofString "much")))) (.cons (.ret (.k (.bl false))) <|
    .nil) (.nil)) <|
    .cons (.ite (.cmp .NotEq (.lam 8 (.meth (.v 3) (Str.ofString "Meter") (Str.ofString "rest") 10 (.cons (.k (.int 4)) .nil))) (.k (.str (Str.ofString "long")))) (.cons (.ret (.k (.bl false))) <|
    .nil) (.nil)) <|
    .cons (.exp (.me .append (.v 4) (.cons (.bin .Add (.ix (.v 4) (.neg (.k (.int 1)))) (.v 7)) .nil))) <|
    .cons (.ite (.bop false (.cons (.cmp .NotEq (.meth (.v 3) (Str.ofString "Meter") (Str.ofString "come") 9 (.cons (.v 7) .nil)) (.call 7 (.cons (.v 2) (.cons (.v 4) .nil)))) (.cons (.not (.call 11 (.cons (.v 3) (.cons (.v 2) (.cons (.v 4) .nil))))) .nil))) (.cons (.ret (.k (.bl false))) <|
    .nil) (.nil)) <|
    .cons (.set (.nm 8) (.make (Str.ofString "Meter") 2 (.cons (.v 2) .nil))) <|
    .cons (.ret (.bop true (.cons (.cmp .Eq (.lam 8 (.meth (.v 8) (Str.ofString "Meter") (Str.ofString "back") 6 (.nil))) (.k (.str (Str.ofString "back")))) (.cons (.cmp .Eq (.meth (.v 8) (Str.ofString "Meter") (Str.ofString "told") 12 (.nil)) (.fr (.lst (.nil)))) (.cons (.cmp .Eq (.meth (.v 8) (Str.ofString "Meter") (Str.ofString "leave") 13 (.nil)) (.call 14 (.cons (.v 2) (.cons (.k (.int 1)) .nil)))) .nil))))) <|
    .nil
theorem sc_law : FnScope S_law.N [(Str.ofString "script")] (defScope s_law) := ⟨rfl, rfl, rfl, by decide +kernel, rfl, by decide +kernel, by decide +kernel⟩
theorem ck_law : chkSs S_law b_law (defScope s_law).names (defBody s_law) = true := by decide +kernel
local macro_rules | `(tactic| walk_at "E") => `(tactic| (repeat (first | ((with_reducible refine Ev.gE ?_); first | (with_reducible first | refine Ev.e_v0 ?_ | refine Ev.e_vs ?_ | refine Ev.e_k ?_ | refine Ev.e_bi ?_ | refine Ev.e_bin ?_ | refine Ev.e_cmp ?_ | refine Ev.e_ix ?_ | refine Ev.e_call ?_ | refine Ev.e_not ?_ | refine Ev.e_bop ?_ | refine Ev.e_fr ?_ | refine Ev.e_tup ?_ | refine Ev.e_neg ?_ | refine Ev.e_ce ?_ | refine Ev.e_ife ?_ | refine Ev.e_isi ?_ | refine Ev.e_sl ?_ | refine Ev.e_me ?_ | refine Ev.e_chain ?_ | refine Ev.e_dfr ?_ | refine Ev.e_dce ?_ | refine Ev.e_fv ?_ | refine Ev.e_isc ?_ | refine Ev.e_rvt ?_ | refine Ev.e_fld ?_ | refine Ev.e_meth ?_ | refine Ev.e_make ?_ | refine Ev.e_lam ?_ | refine Ev.e_idx ?_ | refine Ev.c_0 ?_ | refine Ev.c_1 ?_ | refine Ev.c_2 ?_ | refine Ev.c_3 ?_ | refine Ev.c_4 ?_ | refine Ev.c_5 ?_ | refine Ev.c_6 ?_ | refine Ev.c_7 ?_)) | (with_reducible refine gInsC ?_; refine i_met (by with_reducible first | assumption | exact mset_same) (by decide +kernel) ?_) | (with_reducible refine gFldC ?_; refine x_mmo (by with_reducible first | assumption | exact mset_same) ?_) | (with_reducible refine gFldC ?_; refine x_mta (by with_reducible first | assumption | exact mset_same) ?_) | (with_reducible refine gFldC ?_; refine x_mcv (by with_reducible first | assumption | exact mset_same) ?_) | ((with_reducible refine Ev.gEs ?_); first | (with_reducible first | refine Ev.es_c ?_ | refine Ev.es_n ?_)) | ((with_reducible refine Ev.gSs ?_); first | (with_reducible first | refine Ev.s_c ?_ | refine Ev.s_n ?_)) | ((with_reducible refine Ev.gS ?_); first | (with_reducible first | refine Ev.s_set ?_ | refine Ev.s_ret ?_ | refine Ev.s_ite ?_ | refine Ev.s_for ?_ | refine Ev.s_exp ?_ | refine Ev.s_six ?_ | refine Ev.s_tp ?_ | refine Ev.s_par ?_ | refine Ev.s_cont ?_ | refine Ev.s_brk ?_ | refine Ev.s_pass ?_ | refine Ev.s_frz ?_ | refine Ev.s_rse ?_ | refine Ev.s_tryo ?_ | refine Ev.s_tryn ?_ | refine Ev.s_sfld ?_)) | (with_reducible first | refine Ev.st0 ?_ | refine Ev.sts ?_ | refine Ev.as_b ?_ | refine Ev.o_nm ?_ | refine Ev.b_1 ?_ | refine Ev.b_2 ?_ | refine Ev.ng ?_ | refine Ev.oq_n ?_ | refine Ev.oq_s ?_ | refine Ev.t_n ?_ | refine Ev.t_c ?_) | ((with_reducible refine Ev.gC ?_); first | (with_reducible first | refine c_lt ?_ | refine c_le ?_ | refine c_gt ?_ | refine c_ge ?_ | refine c_eq ?_ | refine c_ne ?_ | refine c_eqB ?_ | refine c_neB ?_ | refine c_eqS ?_ | refine c_neS ?_ | refine Ev.c_iN ?_ | refine Ev.c_iI ?_ | refine Ev.c_iT ?_ | refine Ev.c_iL ?_ | refine Ev.c_iB ?_ | refine Ev.c_iS ?_ | refine Ev.c_nN ?_ | refine Ev.c_nI ?_ | refine Ev.c_nT ?_ | refine Ev.c_nL ?_ | refine Ev.c_nB ?_ | refine Ev.c_nS ?_ | refine c_is ?_ | refine c_isn ?_ | refine Ev.c_isb ?_ | refine Ev.c_isnb ?_)) | ((with_reducible refine Ev.gA ?_); first | (with_reducible first | refine Ev.n_add ?_ | refine Ev.n_sub ?_ | refine Ev.p_3 ?_ | refine Ev.p_5 ?_ | refine Ev.p_6 ?_ | refine Ev.p_7 ?_ | refine Ev.p_8 ?_ | refine Ev.p_9 ?_ | refine Ev.p_10 ?_ | refine Ev.p_12 ?_ | refine Ev.p_15 ?_ | refine Ev.p_18 ?_ | refine Ev.p_20 ?_ | refine Ev.p_22 ?_ | refine Ev.p_23 ?_ | refine Ev.p_24 ?_ | refine Ev.p_25 ?_ | refine Ev.p_26 ?_ | refine Ev.p_27 ?_ | refine Ev.p_28 ?_ | refine Ev.p_29 ?_ | refine Ev.p_30 ?_ | refine Ev.p_31 ?_) | (with_reducible refine Ev.n_div ?_ ?_; (exact dv (by omega) (by omega))) | (with_reducible refine Ev.n_mod ?_ ?_; omega) | (with_reducible refine Ev.n_mul ?_ ?_; (first | exact ml (by omega) (by omega) | exact mr (by omega) (by omega))) | (with_reducible refine Ev.n_adTi ?_ ?_; (focus (first | omega | (simp only [List.length_cons, List.length_nil, List.length_append, List.length_take, List.length_drop, List.length_replicate, List.length_map, List.length_range, il_len] <;> omega)))) | (with_reducible refine Ev.n_adLi ?_ ?_; (focus (first | omega | (simp only [List.length_cons, List.length_nil, List.length_append, List.length_take, List.length_drop, List.length_replicate, List.length_map, List.length_range, il_len] <;> omega)))) | (with_reducible refine Ev.n_adTi1 ?_ ?_; (focus (first | omega | (simp only [List.length_cons, List.length_nil, List.length_append, List.length_take, List.length_drop, List.length_replicate, List.length_map, List.length_range, il_len] <;> omega)))) | (with_reducible refine Ev.n_adLi1 ?_ ?_; (focus (first | omega | (simp only [List.length_cons, List.length_nil, List.length_append, List.length_take, List.length_drop, List.length_replicate, List.length_map, List.length_range, il_len] <;> omega)))) | (with_reducible refine Ev.n_adLi2 ?_ ?_; (focus (first | omega | (simp only [List.length_cons, List.length_nil, List.length_append, List.length_take, List.length_drop, List.length_replicate, List.length_map, List.length_range, il_len] <;> omega)))) | (with_reducible refine Ev.n_ad1i ?_ ?_; (focus (first | omega | (simp only [List.length_cons, List.length_nil, List.length_append, List.length_take, List.length_drop, List.length_replicate, List.length_map, List.length_range, il_len] <;> omega)))) | (with_reducible refine Ev.n_adT ?_ ?_; (focus (first | omega | (simp only [List.length_cons, List.length_nil, List.length_append, List.length_take, List.length_drop, List.length_replicate, List.length_map, List.length_range, il_len] <;> omega)))) | (with_reducible refine Ev.n_adL ?_ ?_; (focus (first | omega | (simp only [List.length_cons, List.length_nil, List.length_append, List.length_take, List.length_drop, List.length_replicate, List.length_map, List.length_range, il_len] <;> omega)))) | (with_reducible refine Ev.n_adV (by with_reducible assumption) ?_ ?_; (focus (first | omega | (simp only [List.length_cons, List.length_nil, List.length_append, List.length_take, List.length_drop, List.length_replicate, List.length_map, List.length_range, il_len] <;> omega)))) | (with_reducible refine Ev.n_adV1 (by with_reducible assumption) ?_ ?_; (focus (first | omega | (simp only [List.length_cons, List.length_nil, List.length_append, List.length_take, List.length_drop, List.length_replicate, List.length_map, List.length_range, il_len] <;> omega)))) | (with_reducible refine Ev.n_re1 ?_ ?_ ?_; omega; omega) | (with_reducible refine Ev.n_reT ?_ ?_ ?_; omega; omega)) | ((with_reducible refine Ev.gB ?_); first | (with_reducible first | refine b_lenTi ?_ | refine b_lenLi ?_ | refine b_lenT ?_ | refine b_lenL ?_ | refine b_lenS ?_ | refine b_abs ?_ | refine b_max2 ?_ | refine b_min2 ?_ | refine b_sum ?_ | refine b_tupT ?_ | refine Ev.tupLi ?_ | refine b_tupL ?_ | refine Ev.n_bi ?_) | (with_reducible refine b_divmod ?_ ?_; (focus omega)) | (with_reducible refine Ev.gBC ?_; refine b_lenCi (by with_reducible first | assumption | exact mset_same) ?_) | (with_reducible refine v_len (by with_reducible assumption) ?_) | (with_reducible refine b_min1 ?_ ?_; (focus (first | omega | (simp only [List.length_cons, List.length_nil, List.length_append, List.length_take, List.length_drop, List.length_replicate, List.length_map, List.length_range, il_len] <;> omega)))) | (with_reducible refine b_max1 ?_ ?_; (focus (first | omega | (simp only [List.length_cons, List.length_nil, List.length_append, List.length_take, List.length_drop, List.length_replicate, List.length_map, List.length_range, il_len] <;> omega)))) | (with_reducible refine Ev.v_min1 (by with_reducible assumption) ?_ ?_; omega)) | ((with_reducible refine Ev.gX ?_); first | (with_reducible first | refine x_t0 ?_ | refine x_t1 ?_ | refine x_t2 ?_ | refine Ev.x_l0 ?_ | refine Ev.x_l1 ?_ | refine Ev.x_l2 ?_) | (with_reducible refine x_Ti ?_ ?_ ?_; omega; omega) | (with_reducible refine x_Li ?_ ?_ ?_; omega; omega) | (with_reducible refine x_Tn ?_ ?_ ?_; omega; omega) | (with_reducible refine x_Ln ?_ ?_ ?_; omega; omega) | (with_reducible refine Ev.gXC ?_; refine x_Ci (by with_reducible first | assumption | exact mset_same) ?_ ?_ ?_; omega; omega) | (with_reducible refine Ev.gXC ?_; refine x_Cn (by with_reducible first | assumption | exact mset_same) ?_ ?_ ?_; omega; omega) | (with_reducible refine v_ix (by with_reducible assumption) ?_ ?_ ?_; omega; omega)) | ((with_reducible refine Ev.gIf ?_); first | (with_reducible first | refine Ev.if_tt ?_ | refine Ev.if_tf ?_ | refine Ev.if_ft ?_ | refine Ev.if_ff ?_ | refine Ev.if_ntt ?_ | refine Ev.if_ntf ?_ | refine Ev.if_nft ?_ | refine Ev.if_nff ?_) | (with_reducible refine Ev.if_a ?_ ?_; (focus (first | exact rfl | omega | (simp; done)))) | (with_reducible refine Ev.if_b ?_ ?_; (focus (first | omega | (simp; done)))) | (with_reducible refine Ev.if_c ?_ ?_; (focus (first | exact rfl | omega | (simp; done)))) | (with_reducible refine Ev.if_e ?_ ?_; (focus (first | omega | (simp; done)))) | (with_reducible refine Ev.if_na ?_ ?_; (focus (first | exact rfl | omega | (simp; done)))) | (with_reducible refine Ev.if_nb ?_ ?_; (focus (first | omega | (simp; done)))) | (with_reducible refine Ev.if_nc ?_ ?_; (focus (first | exact rfl | omega | (simp; done)))) | (with_reducible refine Ev.if_ne ?_ ?_; (focus (first | omega | (simp; done))))) | ((with_reducible refine Ev.gAnd ?_); first | (with_reducible first | refine Ev.q_tr ?_) | (with_reducible refine Ev.q_sz ?_ ?_; (focus (first | omega | (simp only [List.length_cons, List.length_nil, List.length_append, List.length_take, List.length_drop, List.length_replicate, List.length_map, List.length_range, il_len] <;> omega)))) | (with_reducible refine Ev.q_szl ?_ ?_; (focus (first | omega | (simp only [List.length_cons, List.length_nil, List.length_append, List.length_take, List.length_drop, List.length_replicate, List.length_map, List.length_range, il_len] <;> omega)))) | (with_reducible refine Ev.gAC ?_; refine Ev.m_isl (by with_reducible first | assumption | exact mset_same) ?_)) | ((with_reducible refine Ev.gN ?_); first | (with_reducible first | refine Ev.n_lst ?_ | refine Ev.n_comp ?_ | refine Ev.n_cat ?_ | refine Ev.n_rep ?_ | refine Ev.n_sl ?_ | refine Ev.n_lof ?_ | refine Ev.n_lrg ?_ | refine Ev.n_rev ?_)) | ((with_reducible refine Ev.gI ?_); first | (with_reducible first | refine Ev.i_seq ?_ | refine Ev.i_rng ?_ | refine Ev.i_rdn ?_ | refine Ev.i_enum ?_ | refine Ev.i_zip ?_)) | (with_reducible first | refine Ev.rvt1 ?_ | refine Ev.i_ii ?_ | refine Ev.i_ib ?_ | refine Ev.i_bb ?_ | refine Ev.i_ll ?_ | refine Ev.i_tt ?_ | refine sq_L ?_ | refine sq_T ?_ | refine e_L ?_ | refine e_T ?_ | refine Ev.z_L ?_ | refine rev_L0 ?_ | refine Ev.o_tp1 ?_ | refine Ev.o_tp2 ?_ | refine Ev.o_tp3 ?_ | refine Ev.o_tp4 ?_ | refine Ev.o_tp5 ?_ | refine Ev.o_tp6 ?_ | refine Ev.o_tp7 ?_ | refine Ev.o_tl2 ?_ | refine Ev.o_tl3 ?_) | (with_reducible refine Ev.v_isl (by with_reducible assumption) ?_) | (with_reducible refine Ev.n_cai ?_ ?_; (focus (first | omega | (simp only [List.length_cons, List.length_nil, List.length_append, List.length_take, List.length_drop, List.length_replicate, List.length_map, List.length_range, il_len] <;> omega)))) | (with_reducible refine Ev.n_cai1 ?_ ?_; (focus (first | omega | (simp only [List.length_cons, List.length_nil, List.length_append, List.length_take, List.length_drop, List.length_replicate, List.length_map, List.length_range, il_len] <;> omega)))) | (with_reducible refine Ev.n_ca ?_ ?_; (focus (first | omega | (simp only [List.length_cons, List.length_nil, List.length_append, List.length_take, List.length_drop, List.length_replicate, List.length_map, List.length_range, il_len] <;> omega)))) | (with_reducible refine Ev.n_rp1 ?_ ?_ ?_; omega; omega) | (with_reducible refine rg1 ?_ ?_ ?_; omega; omega) | (with_reducible refine rg2 ?_ ?_ ?_ ?_ ?_; omega; omega; omega; omega) | (with_reducible refine lrg1 ?_ ?_; omega) | (with_reducible refine lrg2 ?_ ?_; omega) | ((with_reducible refine Ev.gD ?_); first | (with_reducible refine sl_hiLi ?_ ?_; omega) | (with_reducible refine sl_loLi ?_ ?_; omega) | (with_reducible refine Ev.t_slh ?_ ?_; omega) | (with_reducible refine Ev.t_sll ?_ ?_; omega) | (with_reducible refine Ev.v_slh (by with_reducible assumption) ?_ ?_; omega) | (with_reducible refine Ev.v_sll (by with_reducible assumption) ?_ ?_; omega)) | ((with_reducible refine Ev.gL ?_); first | (with_reducible first | refine lof_L ?_ | refine lof_T ?_) | (with_reducible refine v_lof (by with_reducible assumption) ?_)) | ((with_reducible refine Ev.gF ?_); first | (with_reducible first | refine Ev.fzs ?_) | (with_reducible refine Ev.gFC ?_; refine Ev.fz0 (by with_reducible first | assumption | exact mset_same) ?_)) | ((with_reducible refine Ev.gM ?_); first | (with_reducible refine Ev.gMC ?_; refine m_appi (by with_reducible first | assumption | exact mset_same) ?_ ?_; omega) | (with_reducible refine Ev.gMC ?_; refine m_app (by with_reducible first | assumption | exact mset_same) ?_ ?_; (focus (first | omega | (simp only [List.length_cons, List.length_nil, List.length_append, List.length_take, List.length_drop, List.length_replicate, List.length_map, List.length_range, il_len] <;> omega))))) | (with_reducible first | refine Ev.g_0 ?_ | refine Ev.g_1 ?_ | refine Ev.g_2 ?_ | refine Ev.g_3 ?_ | refine Ev.g_4 ?_ | refine Ev.g_5 ?_ | refine Ev.g_6 ?_ | refine Ev.g_7 ?_ | refine Ev.g_8 ?_ | refine Ev.g_9 ?_ | refine Ev.g_10 ?_ | refine Ev.g_11 ?_ | refine Ev.g_12 ?_ | refine Ev.g_13 ?_ | refine Ev.g_14 ?_ | refine Ev.g_15 ?_ | refine Ev.g_16 ?_ | refine Ev.g_17 ?_ | refine Ev.g_18 ?_ | refine Ev.g_19 ?_ | refine Ev.g_20 ?_ | refine Ev.g_21 ?_ | refine Ev.g_22 ?_ | refine Ev.g_23 ?_ | refine Ev.g_24 ?_ | refine Ev.g_25 ?_ | refine Ev.g_26 ?_ | refine Ev.g_27 ?_ | refine Ev.g_28 ?_ | refine Ev.g_29 ?_))))
local macro_rules | `(tactic| walk_at "I") => `(tactic| (repeat (first | ((with_reducible refine Ev.gE ?_); first | (with_reducible first | refine Ev.e_v0 ?_ | refine Ev.e_vs ?_ | refine Ev.e_k ?_ | refine Ev.e_bi ?_ | refine Ev.e_bin ?_ | refine Ev.e_cmp ?_ | refine Ev.e_ix ?_ | refine Ev.e_call ?_ | refine Ev.e_not ?_ | refine Ev.e_bop ?_ | refine Ev.e_fr ?_ | refine Ev.e_tup ?_ | refine Ev.e_neg ?_ | refine Ev.e_ce ?_ | refine Ev.e_ife ?_ | refine Ev.e_isi ?_ | refine Ev.e_sl ?_ | refine Ev.e_me ?_ | refine Ev.e_chain ?_ | refine Ev.e_dfr ?_ | refine Ev.e_dce ?_ | refine Ev.e_fv ?_ | refine Ev.e_isc ?_ | refine Ev.e_rvt ?_ | refine Ev.e_fld ?_ | refine Ev.e_meth ?_ | refine Ev.e_make ?_ | refine Ev.e_lam ?_ | refine Ev.e_idx ?_ | refine Ev.c_0 ?_ | refine Ev.c_1 ?_ | refine Ev.c_2 ?_ | refine Ev.c_3 ?_ | refine Ev.c_4 ?_ | refine Ev.c_5 ?_ | refine Ev.c_6 ?_ | refine Ev.c_7 ?_)) | (with_reducible refine gInsC ?_; refine i_met (by with_reducible first | assumption | exact mset_same) (by decide +kernel) ?_) | (with_reducible refine gFldC ?_; refine x_mmo (by with_reducible first | assumption | exact mset_same) ?_) | (with_reducible refine gFldC ?_; refine x_mta (by with_reducible first | assumption | exact mset_same) ?_) | (with_reducible refine gFldC ?_; refine x_mcv (by with_reducible first | assumption | exact mset_same) ?_) | ((with_reducible refine Ev.gEs ?_); first | (with_reducible first | refine Ev.es_c ?_ | refine Ev.es_n ?_)) | ((with_reducible refine Ev.gSs ?_); first | (with_reducible first | refine Ev.s_c ?_ | refine Ev.s_n ?_)) | ((with_reducible refine Ev.gS ?_); first | (with_reducible first | refine Ev.s_set ?_ | refine Ev.s_ret ?_ | refine Ev.s_for ?_ | refine Ev.s_exp ?_ | refine Ev.s_six ?_ | refine Ev.s_tp ?_ | refine Ev.s_par ?_ | refine Ev.s_cont ?_ | refine Ev.s_brk ?_ | refine Ev.s_pass ?_ | refine Ev.s_frz ?_ | refine Ev.s_rse ?_ | refine Ev.s_tryo ?_ | refine Ev.s_tryn ?_ | refine Ev.s_sfld ?_)) | (with_reducible first | refine Ev.st0 ?_ | refine Ev.sts ?_ | refine Ev.as_b ?_ | refine Ev.o_nm ?_ | refine Ev.b_1 ?_ | refine Ev.b_2 ?_ | refine Ev.ng ?_ | refine Ev.oq_n ?_ | refine Ev.oq_s ?_ | refine Ev.t_n ?_ | refine Ev.t_c ?_) | ((with_reducible refine Ev.gC ?_); first | (with_reducible first | refine c_lt ?_ | refine c_le ?_ | refine c_gt ?_ | refine c_ge ?_ | refine c_eq ?_ | refine c_ne ?_ | refine c_eqB ?_ | refine c_neB ?_ | refine c_eqS ?_ | refine c_neS ?_ | refine Ev.c_iN ?_ | refine Ev.c_iI ?_ | refine Ev.c_iT ?_ | refine Ev.c_iL ?_ | refine Ev.c_iB ?_ | refine Ev.c_iS ?_ | refine Ev.c_nN ?_ | refine Ev.c_nI ?_ | refine Ev.c_nT ?_ | refine Ev.c_nL ?_ | refine Ev.c_nB ?_ | refine Ev.c_nS ?_ | refine c_is ?_ | refine c_isn ?_ | refine Ev.c_isb ?_ | refine Ev.c_isnb ?_)) | ((with_reducible refine Ev.gA ?_); first | (with_reducible first | refine Ev.n_add ?_ | refine Ev.n_sub ?_ | refine Ev.p_3 ?_ | refine Ev.p_5 ?_ | refine Ev.p_6 ?_ | refine Ev.p_7 ?_ | refine Ev.p_8 ?_ | refine Ev.p_9 ?_ | refine Ev.p_10 ?_ | refine Ev.p_12 ?_ | refine Ev.p_15 ?_ | refine Ev.p_18 ?_ | refine Ev.p_20 ?_ | refine Ev.p_22 ?_ | refine Ev.p_23 ?_ | refine Ev.p_24 ?_ | refine Ev.p_25 ?_ | refine Ev.p_26 ?_ | refine Ev.p_27 ?_ | refine Ev.p_28 ?_ | refine Ev.p_29 ?_ | refine Ev.p_30 ?_ | refine Ev.p_31 ?_) | (with_reducible refine Ev.n_div ?_ ?_; (exact dv (by omega) (by omega))) | (with_reducible refine Ev.n_mod ?_ ?_; omega) | (with_reducible refine Ev.n_mul ?_ ?_; (first | exact ml (by omega) (by omega) | exact mr (by omega) (by omega))) | (with_reducible refine Ev.n_adTi ?_ ?_; (focus (first | omega | (simp only [List.length_cons, List.length_nil, List.length_append, List.length_take, List.length_drop, List.length_replicate, List.length_map, List.length_range, il_len] <;> omega)))) | (with_reducible refine Ev.n_adLi ?_ ?_; (focus (first | omega | (simp only [List.length_cons, List.length_nil, List.length_append, List.length_take, List.length_drop, List.length_replicate, List.length_map, List.length_range, il_len] <;> omega)))) | (with_reducible refine Ev.n_adTi1 ?_ ?_; (focus (first | omega | (simp only [List.length_cons, List.length_nil, List.length_append, List.length_take, List.length_drop, List.length_replicate, List.length_map, List.length_range, il_len] <;> omega)))) | (with_reducible refine Ev.n_adLi1 ?_ ?_; (focus (first | omega | (simp only [List.length_cons, List.length_nil, List.length_append, List.length_take, List.length_drop, List.length_replicate, List.length_map, List.length_range, il_len] <;> omega)))) | (with_reducible refine Ev.n_adLi2 ?_ ?_; (focus (first | omega | (simp only [List.length_cons, List.length_nil, List.length_append, List.length_take, List.length_drop, List.length_replicate, List.length_map, List.length_range, il_len] <;> omega)))) | (with_reducible refine Ev.n_ad1i ?_ ?_; (focus (first | omega | (simp only [List.length_cons, List.length_nil, List.length_append, List.length_take, List.length_drop, List.length_replicate, List.length_map, List.length_range, il_len] <;> omega)))) | (with_reducible refine Ev.n_adT ?_ ?_; (focus (first | omega | (simp only [List.length_cons, List.length_nil, List.length_append, List.length_take, List.length_drop, List.length_replicate, List.length_map, List.length_range, il_len] <;> omega)))) | (with_reducible refine Ev.n_adL ?_ ?_; (focus (first | omega | (simp only [List.length_cons, List.length_nil, List.length_append, List.length_take, List.length_drop, List.length_replicate, List.length_map, List.length_range, il_len] <;> omega)))) | (with_reducible refine Ev.n_adV (by with_reducible assumption) ?_ ?_; (focus (first | omega | (simp only [List.length_cons, List.length_nil, List.length_append, List.length_take, List.length_drop, List.length_replicate, List.length_map, List.length_range, il_len] <;> omega)))) | (with_reducible refine Ev.n_adV1 (by with_reducible assumption) ?_ ?_; (focus (first | omega | (simp only [List.length_cons, List.length_nil, List.length_append, List.length_take, List.length_drop, List.length_replicate, List.length_map, List.length_range, il_len] <;> omega)))) | (with_reducible refine Ev.n_re1 ?_ ?_ ?_; omega; omega) | (with_reducible refine Ev.n_reT ?_ ?_ ?_; omega; omega)) | ((with_reducible refine Ev.gB ?_); first | (with_reducible first | refine b_lenTi ?_ | refine b_lenLi ?_ | refine b_lenT ?_ | refine b_lenL ?_ | refine b_lenS ?_ | refine b_abs ?_ | refine b_max2 ?_ | refine b_min2 ?_ | refine b_sum ?_ | refine b_tupT ?_ | refine Ev.tupLi ?_ | refine b_tupL ?_ | refine Ev.n_bi ?_) | (with_reducible refine b_divmod ?_ ?_; (focus omega)) | (with_reducible refine Ev.gBC ?_; refine b_lenCi (by with_reducible first | assumption | exact mset_same) ?_) | (with_reducible refine v_len (by with_reducible assumption) ?_) | (with_reducible refine b_min1 ?_ ?_; (focus (first | omega | (simp only [List.length_cons, List.length_nil, List.length_append, List.length_take, List.length_drop, List.length_replicate, List.length_map, List.length_range, il_len] <;> omega)))) | (with_reducible refine b_max1 ?_ ?_; (focus (first | omega | (simp only [List.length_cons, List.length_nil, List.length_append, List.length_take, List.length_drop, List.length_replicate, List.length_map, List.length_range, il_len] <;> omega)))) | (with_reducible refine Ev.v_min1 (by with_reducible assumption) ?_ ?_; omega)) | ((with_reducible refine Ev.gX ?_); first | (with_reducible first | refine x_t0 ?_ | refine x_t1 ?_ | refine x_t2 ?_ | refine Ev.x_l0 ?_ | refine Ev.x_l1 ?_ | refine Ev.x_l2 ?_) | (with_reducible refine x_Ti ?_ ?_ ?_; omega; omega) | (with_reducible refine x_Li ?_ ?_ ?_; omega; omega) | (with_reducible refine x_Tn ?_ ?_ ?_; omega; omega) | (with_reducible refine x_Ln ?_ ?_ ?_; omega; omega) | (with_reducible refine Ev.gXC ?_; refine x_Ci (by with_reducible first | assumption | exact mset_same) ?_ ?_ ?_; omega; omega) | (with_reducible refine Ev.gXC ?_; refine x_Cn (by with_reducible first | assumption | exact mset_same) ?_ ?_ ?_; omega; omega) | (with_reducible refine v_ix (by with_reducible assumption) ?_ ?_ ?_; omega; omega)) | ((with_reducible refine Ev.gIf ?_); first | (with_reducible first | refine Ev.if_tt ?_ | refine Ev.if_tf ?_ | refine Ev.if_ft ?_ | refine Ev.if_ff ?_ | refine Ev.if_ntt ?_ | refine Ev.if_ntf ?_ | refine Ev.if_nft ?_ | refine Ev.if_nff ?_) | (with_reducible refine Ev.if_a ?_ ?_; (focus (first | exact rfl | omega | (simp; done)))) | (with_reducible refine Ev.if_b ?_ ?_; (focus (first | omega | (simp; done)))) | (with_reducible refine Ev.if_c ?_ ?_; (focus (first | exact rfl | omega | (simp; done)))) | (with_reducible refine Ev.if_e ?_ ?_; (focus (first | omega | (simp; done)))) | (with_reducible refine Ev.if_na ?_ ?_; (focus (first | exact rfl | omega | (simp; done)))) | (with_reducible refine Ev.if_nb ?_ ?_; (focus (first | omega | (simp; done)))) | (with_reducible refine Ev.if_nc ?_ ?_; (focus (first | exact rfl | omega | (simp; done)))) | (with_reducible refine Ev.if_ne ?_ ?_; (focus (first | omega | (simp; done))))) | ((with_reducible refine Ev.gAnd ?_); first | (with_reducible first | refine Ev.q_tr ?_) | (with_reducible refine Ev.q_sz ?_ ?_; (focus (first | omega | (simp only [List.length_cons, List.length_nil, List.length_append, List.length_take, List.length_drop, List.length_replicate, List.length_map, List.length_range, il_len] <;> omega)))) | (with_reducible refine Ev.q_szl ?_ ?_; (focus (first | omega | (simp only [List.length_cons, List.length_nil, List.length_append, List.length_take, List.length_drop, List.length_replicate, List.length_map, List.length_range, il_len] <;> omega)))) | (with_reducible refine Ev.gAC ?_; refine Ev.m_isl (by with_reducible first | assumption | exact mset_same) ?_)) | ((with_reducible refine Ev.gN ?_); first | (with_reducible first | refine Ev.n_lst ?_ | refine Ev.n_comp ?_ | refine Ev.n_cat ?_ | refine Ev.n_rep ?_ | refine Ev.n_sl ?_ | refine Ev.n_lof ?_ | refine Ev.n_lrg ?_ | refine Ev.n_rev ?_)) | ((with_reducible refine Ev.gI ?_); first | (with_reducible first | refine Ev.i_seq ?_ | refine Ev.i_rng ?_ | refine Ev.i_rdn ?_ | refine Ev.i_enum ?_ | refine Ev.i_zip ?_)) | (with_reducible first | refine Ev.rvt1 ?_ | refine Ev.i_ii ?_ | refine Ev.i_ib ?_ | refine Ev.i_bb ?_ | refine Ev.i_ll ?_ | refine Ev.i_tt ?_ | refine sq_L ?_ | refine sq_T ?_ | refine e_L ?_ | refine e_T ?_ | refine Ev.z_L ?_ | refine rev_L0 ?_ | refine Ev.o_tp1 ?_ | refine Ev.o_tp2 ?_ | refine Ev.o_tp3 ?_ | refine Ev.o_tp4 ?_ | refine Ev.o_tp5 ?_ | refine Ev.o_tp6 ?_ | refine Ev.o_tp7 ?_ | refine Ev.o_tl2 ?_ | refine Ev.o_tl3 ?_) | (with_reducible refine Ev.v_isl (by with_reducible assumption) ?_) | (with_reducible refine Ev.n_cai ?_ ?_; (focus (first | omega | (simp only [List.length_cons, List.length_nil, List.length_append, List.length_take, List.length_drop, List.length_replicate, List.length_map, List.length_range, il_len] <;> omega)))) | (with_reducible refine Ev.n_cai1 ?_ ?_; (focus (first | omega | (simp only [List.length_cons, List.length_nil, List.length_append, List.length_take, List.length_drop, List.length_replicate, List.length_map, List.length_range, il_len] <;> omega)))) | (with_reducible refine Ev.n_ca ?_ ?_; (focus (first | omega | (simp only [List.length_cons, List.length_nil, List.length_append, List.length_take, List.length_drop, List.length_replicate, List.length_map, List.length_range, il_len] <;> omega)))) | (with_reducible refine Ev.n_rp1 ?_ ?_ ?_; omega; omega) | (with_reducible refine rg1 ?_ ?_ ?_; omega; omega) | (with_reducible refine rg2 ?_ ?_ ?_ ?_ ?_; omega; omega; omega; omega) | (with_reducible refine lrg1 ?_ ?_; omega) | (with_reducible refine lrg2 ?_ ?_; omega) | ((with_reducible refine Ev.gD ?_); first | (with_reducible refine sl_hiLi ?_ ?_; omega) | (with_reducible refine sl_loLi ?_ ?_; omega) | (with_reducible refine Ev.t_slh ?_ ?_; omega) | (with_reducible refine Ev.t_sll ?_ ?_; omega) | (with_reducible refine Ev.v_slh (by with_reducible assumption) ?_ ?_; omega) | (with_reducible refine Ev.v_sll (by with_reducible assumption) ?_ ?_; omega)) | ((with_reducible refine Ev.gL ?_); first | (with_reducible first | refine lof_L ?_ | refine lof_T ?_) | (with_reducible refine v_lof (by with_reducible assumption) ?_)) | ((with_reducible refine Ev.gF ?_); first | (with_reducible first | refine Ev.fzs ?_) | (with_reducible refine Ev.gFC ?_; refine Ev.fz0 (by with_reducible first | assumption | exact mset_same) ?_)) | ((with_reducible refine Ev.gM ?_); first | (with_reducible refine Ev.gMC ?_; refine m_appi (by with_reducible first | assumption | exact mset_same) ?_ ?_; omega) | (with_reducible refine Ev.gMC ?_; refine m_app (by with_reducible first | assumption | exact mset_same) ?_ ?_; (focus (first | omega | (simp only [List.length_cons, List.length_nil, List.length_append, List.length_take, List.length_drop, List.length_replicate, List.length_map, List.length_range, il_len] <;> omega))))) | (with_reducible first | refine Ev.g_0 ?_ | refine Ev.g_1 ?_ | refine Ev.g_2 ?_ | refine Ev.g_3 ?_ | refine Ev.g_4 ?_ | refine Ev.g_5 ?_ | refine Ev.g_6 ?_ | refine Ev.g_7 ?_ | refine Ev.g_8 ?_ | refine Ev.g_9 ?_ | refine Ev.g_10 ?_ | refine Ev.g_11 ?_ | refine Ev.g_12 ?_ | refine Ev.g_13 ?_ | refine Ev.g_14 ?_ | refine Ev.g_15 ?_ | refine Ev.g_16 ?_ | refine Ev.g_17 ?_ | refine Ev.g_18 ?_ | refine Ev.g_19 ?_ | refine Ev.g_20 ?_ | refine Ev.g_21 ?_ | refine Ev.g_22 ?_ | refine Ev.g_23 ?_ | refine Ev.g_24 ?_ | refine Ev.g_25 ?_ | refine Ev.g_26 ?_ | refine Ev.g_27 ?_ | refine Ev.g_28 ?_ | refine Ev.g_29 ?_))))
abbrev sp_value : SpD := PD.sp_valueW
theorem len_value (ds : List D) (M : Mh) (X : XD) (Q : QD) (h : sp_value ds M X Q) : ds.length = ["f", "t"].length := by obtain ⟨_, _, _, _, rfl, _⟩ := h; rfl
theorem hb_value (as : List D) (M : Mh) (X : XD) (Q : QD) (h : sp_value as M X Q) : wpSs (tabG []) (tabC []) b_value (startD S_value.N.length as) M (endsF Q X) := value_okW as M X Q h
def sp_is_number : SpD := fun ds M X Q => ∃ d, ds = [d] ∧ Pl d ∧ Q (.bl (numB d)) M
theorem len_is_number (ds : List D) (M : Mh) (X : XD) (Q : QD) (h : sp_is_number ds M X Q) : ds.length = ["thing"].length := by obtain ⟨_, rfl, _⟩ := h; rfl
theorem hb_is_number (as : List D) (M : Mh) (X : XD) (Q : QD) (h : sp_is_number as M X Q) : wpSs (tabG []) (tabC []) b_is_number (startD S_is_number.N.length as) M (endsF Q X) := by
  obtain ⟨d, rfl, hp, q⟩ := h
  obtain ⟨k1, k2, k3, k4, k5, k6, k7, k8, k9⟩ := kit_all
  cases d with
  | non => exact isi_any rfl k1 q
  | bl b => exact isi_any rfl k2 (isi_any rfl k8 q)
  | int i => exact isi_any rfl k3 (isi_any rfl k9 (c_ge q))
  | str x => exact isi_any rfl k4 q
  | tup l => exact isi_any rfl k5 q
  | lst l => exact isi_any rfl k6 q
  | dct ks l => exact isi_any rfl k7 q
  | ref a => exact hp.elim
  | con v => exact hp.elim
  | scr l => exact hp.elim
  | exc l => exact hp.elim
  | fn l => exact hp.elim
  | thk _ _ _ _ _ => exact hp.elim
theorem gt_bd {l : List Int} {i lo hi : Int} (h0 : 0 ≤ i) (h1 : i < l.length) (h : ∀ x ∈ l, lo ≤ x ∧ x ≤ hi) : lo ≤ gt l i ∧ gt l i ≤ hi := h _ (gt_mem h0 h1)
/-- the drawing pen: a list of numbers, a place, what is left -/
def mpC (c : List Int) (a f : Int) : Cell := .lst [.lst (il c), .int a, .int f]
@[irreducible] def PenM (M : Mh) (p : Addr) (k : Nat) : Prop := ∃ c a f, M p = some (mpC c a f) ∧ c.length ≤ 63 ∧ 0 ≤ a ∧ a + k ≤ 10000000 ∧ 0 ≤ f
theorem mp_0 {M : Mh} {Q : QD} {p : Addr} {c : List Int} {a f : Int} (h : M p = some (mpC c a f)) (q : Q (.lst (il c)) M) : ixD (.ref p) (.int 0) M Q := x_C h (at_pos (n := 0) rfl rfl) q
theorem mp_1 {M : Mh} {Q : QD} {p : Addr} {c : List Int} {a f : Int} (h : M p = some (mpC c a f)) (q : Q (.int a) M) : ixD (.ref p) (.int 1) M Q := x_C h (at_pos (n := 1) rfl rfl) q
theorem mp_2 {M : Mh} {Q : QD} {p : Addr} {c : List Int} {a f : Int} (h : M p = some (mpC c a f)) (q : Q (.int f) M) : ixD (.ref p) (.int 2) M Q := x_C h (at_pos (n := 2) rfl rfl) q
theorem mp_s1 {M : Mh} {Qm : Mh → Prop} {p : Addr} {c : List Int} {a f v : Int} (h : M p = some (mpC c a f)) (q : Qm (mset M p (mpC c v f))) : sixD (.ref p) (.int 1) (.int v) M Qm := by
  unfold sixD
  unfold mpC at h
  simp only [h]
  have e : ixN [D.lst (il c), D.int a, D.int f].length 1 = some 1 := rfl
  rw [e]
  exact q
theorem mp_s2 {M : Mh} {Qm : Mh → Prop} {p : Addr} {c : List Int} {a f v : Int} (h : M p = some (mpC c a f)) (q : Qm (mset M p (mpC c a v))) : sixD (.ref p) (.int 2) (.int v) M Qm := by
  unfold sixD
  unfold mpC at h
  simp only [h]
  have e : ixN [D.lst (il c), D.int a, D.int f].length 2 = some 2 := rfl
  rw [e]
  exact q
theorem PenM.to {M : Mh} {p : Addr} {k j : Nat} (h : PenM M p k) (e : j ≤ k) : PenM M p j := by
  unfold PenM at h ⊢
  obtain ⟨c, a, f, h1, h2, h3, h4, h5⟩ := h
  exact ⟨c, a, f, h1, h2, h3, by omega, h5⟩
theorem PenM.keep {M M' : Mh} {p : Addr} {k : Nat} (h : PenM M p k) (e : M' p = M p) : PenM M' p k := by
  unfold PenM at h ⊢
  obtain ⟨c, a, f, h1, h2, h3, h4, h5⟩ := h
  exact ⟨c, a, f, e.trans h1, h2, h3, h4, h5⟩
theorem PenM.some {M : Mh} {p : Addr} {k : Nat} (h : PenM M p k) : M p ≠ none := by
  unfold PenM at h
  obtain ⟨c, a, f, h1, _⟩ := h
  rw [h1]
  simp
def sp_law_pen : SpD := fun ds M X Q => ∃ ns : List Int, ds = [.scr (ns.map .int)] ∧ ns.length ≤ 63 ∧ ∀ p, M p = none → ∀ M', PenM M' p 10000000 → (∀ b, b ≠ p → M' b = M b) → Q (.ref p) M'
theorem len_law_pen (ds : List D) (M : Mh) (X : XD) (Q : QD) (h : sp_law_pen ds M X Q) : ds.length = ["script"].length := by obtain ⟨_, rfl, _⟩ := h; rfl
theorem hb_law_pen (as : List D) (M : Mh) (X : XD) (Q : QD) (h : sp_law_pen as M X Q) : wpSs (tabG []) (tabC []) b_law_pen (startD S_law_pen.N.length as) M (endsF Q X) := by
  obtain ⟨ns, rfl, hl, q⟩ := h
  unfold b_law_pen endsF; change wpSs _ _ _ [some _] _ _
  walk_at "E"
  refine sl_scr (by decide) ?_
  walk_at "E"
  intro p hp
  walk_at "E"
  refine q p hp _ ?_ fun b hb => mset_ne hb
  unfold PenM
  exact ⟨_, 0, 0, mset_same, by rw [List.length_take]; omega, by decide, by decide, by decide⟩
def sp_law_take : SpD := fun ds M X Q => ∃ p n k, ds = [.ref p, .int n] ∧ 0 < n ∧ n.natAbs.log2 < 9000 ∧ PenM M p (k + 1) ∧ ∀ v M', 0 ≤ v → v < n → PenM M' p k → (∀ b, b ≠ p → M' b = M b) → Q (.int v) M'
theorem len_law_take (ds : List D) (M : Mh) (X : XD) (Q : QD) (h : sp_law_take ds M X Q) : ds.length = ["pen", "many"].length := by obtain ⟨_, _, _, rfl, _⟩ := h; rfl
theorem hb_law_take (as : List D) (M : Mh) (X : XD) (Q : QD) (h : sp_law_take as M X Q) : wpSs (tabG []) (tabC []) b_law_take (startD S_law_take.N.length as) M (endsF Q X) := by
  obtain ⟨p, n, k, rfl, h1, h2, hp, q⟩ := h
  unfold PenM at hp
  obtain ⟨c, a, f, hM, hc, ha, hk, hf⟩ := hp
  have dn : ∀ x : Int, divOk x n := fun x => .inr ⟨h1, h2⟩
  have mk : ∀ (M' : Mh) (a' f' : Int), M' p = some (mpC c a' f') → a ≤ a' → a' ≤ a + 1 → 0 ≤ f' → (∀ b, b ≠ p → M' b = M b) → ∀ v, 0 ≤ v → v < n → Q (.int v) M' := by
    intro M' a' f' e e1 e2 e3 e4 v e5 e6
    refine q v M' e5 e6 ?_ e4
    unfold PenM
    exact ⟨c, a', f', e, hc, by omega, by omega, e3⟩
  unfold b_law_take endsF; change wpSs _ _ _ [some _, some _, none, none, none, none, none] _ _
  walk_at "E"
  refine mp_2 hM ?_
  walk_at "E"
  refine if_d (fun _ => ?_) (fun _ => ?_)
  · walk_at "E"
    refine mp_2 hM ?_
    walk_at "E"
    refine mp_2 hM ?_
    walk_at "E"
    refine And.intro (dn _) ?_
    walk_at "E"
    refine mp_s2 hM ?_
    walk_at "E"
    exact mk _ a (f / n) mset_same (Int.le_refl _) (by omega) (Int.ediv_nonneg hf (by omega)) (fun b hb => mset_ne hb) _ (Int.emod_nonneg _ (by omega)) (Int.emod_lt_of_pos _ h1)
  · walk_at "E"
    refine mp_1 hM ?_
    walk_at "E"
    refine mp_s1 hM ?_
    have hM1 : mset M p (mpC c (a + 1) f) p = some (mpC c (a + 1) f) := mset_same
    have hf1 : ∀ b, b ≠ p → mset M p (mpC c (a + 1) f) b = M b := fun b hb => mset_ne hb
    generalize mset M p (mpC c (a + 1) f) = M1 at hM1 hf1
    walk_at "E"
    have rest : ∀ cell : Int, wpSs (tabG []) (tabC []) (tlS 6 b_law_take) [some (.ref p), some (.int n), none, some (.int a), some (.int cell), none, none] M1 (endsF Q X) := by
      intro cell
      unfold b_law_take tlS tlS tlS tlS tlS tlS tlS endsF
      have m0 : 0 ≤ cell % 2147483497 ∧ cell % 2147483497 < 2147483497 := by omega
      have aa : 0 ≤ a * a := Int.mul_nonneg ha ha
      walk_at "E"
      have i0 := Int.emod_nonneg a (b := 7) (by decide)
      have i1 := Int.emod_lt_of_pos a (b := 7) (by decide)
      refine x_Li (l := [2147483647, 2147483629, 2147483587, 2147483579, 2147483563, 2147483549, 2147483543]) i0 i1 ?_
      have g := gt_bd (l := [2147483647, 2147483629, 2147483587, 2147483579, 2147483563, 2147483549, 2147483543]) (lo := 1) (hi := 2147483647) i0 i1 (by decide)
      generalize gt [2147483647, 2147483629, 2147483587, 2147483579, 2147483563, 2147483549, 2147483543] (a % 7) = P at g ⊢
      walk_at "E"
      have b0 := Int.emod_nonneg ((cell % 2147483497 + 70001 * a + 19) * (a * a + 48271)) (b := P) (by omega)
      have b1 := Int.emod_lt_of_pos ((cell % 2147483497 + 70001 * a + 19) * (a * a + 48271)) (show 0 < P by omega)
      generalize (cell % 2147483497 + 70001 * a + 19) * (a * a + 48271) % P = Y at b0 b1 ⊢
      walk_at "E"
      refine And.intro (pow5 b0 (by omega)) ?_
      walk_at "E"
      have j0 := Int.emod_nonneg (a + 3) (b := 7) (by decide)
      have j1 := Int.emod_lt_of_pos (a + 3) (b := 7) (by decide)
      refine x_Li (l := [2147483647, 2147483629, 2147483587, 2147483579, 2147483563, 2147483549, 2147483543]) j0 j1 ?_
      have g2 := gt_bd (l := [2147483647, 2147483629, 2147483587, 2147483579, 2147483563, 2147483549, 2147483543]) (lo := 1) (hi := 2147483647) j0 j1 (by decide)
      generalize gt [2147483647, 2147483629, 2147483587, 2147483579, 2147483563, 2147483549, 2147483543] ((a + 3) % 7) = P2 at g2 ⊢
      walk_at "E"
      have y0 := Int.emod_nonneg (Y ^ Int.toNat 5) (b := P2) (by omega)
      have y1 := Int.emod_lt_of_pos (Y ^ Int.toNat 5) (show 0 < P2 by omega)
      generalize Y ^ Int.toNat 5 % P2 = Z at y0 y1 ⊢
      walk_at "E"
      exact mk _ (a + 1) f hM1 (by omega) (Int.le_refl _) hf hf1 _ (Int.emod_nonneg _ (by omega)) (Int.emod_lt_of_pos _ h1)
    have key : ∀ (cell : Int), wpSs (tabG []) (tabC []) (tlS 5 b_law_take) [some (.ref p), some (.int n), none, some (.int a), some (.int cell), none, none] M1 (endsF Q X) := by
      intro cell
      have rs := rest cell
      unfold b_law_take tlS tlS tlS tlS tlS tlS endsF
      unfold b_law_take tlS tlS tlS tlS tlS tlS tlS endsF at rs
      walk_at "E"
      refine mp_0 hM1 ?_
      walk_at "E"
      refine and_t (fun h => ?_) (fun h => ?_)
      · walk_at "E"
        refine if_d (fun h => ?_) (fun h => ?_)
        · walk_at "E"
          refine And.intro (dn _) ?_
          walk_at "E"
          refine mp_s2 hM1 ?_
          walk_at "E"
          exact mk _ (a + 1) _ mset_same (by omega) (Int.le_refl _) (Int.ediv_nonneg (by omega) (by omega)) (fun b hb => (mset_ne hb).trans (hf1 b hb)) _ (Int.emod_nonneg _ (by omega)) (Int.emod_lt_of_pos _ h1)
        ·          exact rs
      · refine if_b (fun e => absurd e h) fun _ => ?_
        exact rs
    refine mp_0 hM1 ?_
    walk_at "E"
    refine c_neL (l := c) (r := []) rfl rfl ?_
    have kc := key
    unfold b_law_take tlS tlS tlS tlS tlS tlS endsF at kc
    by_cases ce : c = []
    · rw [decide_eq_true ce]
      exact kc _
    · rw [decide_eq_false ce]
      have cl : 0 < c.length := List.length_pos_iff.mpr ce
      walk_at "E"
      refine mp_0 hM1 ?_
      walk_at "E"
      refine mp_0 hM1 ?_
      walk_at "E"
      have i0 := Int.emod_nonneg a (show (c.length : Int) ≠ 0 by omega)
      have i1 := Int.emod_lt_of_pos a (show (0 : Int) < c.length by omega)
      refine x_Li (l := c) i0 i1 ?_
      exact kc _

/-- how much may come in the next turn -/
def lv (F : Int → Int) (T : List Int) : Int := minL ((List.range T.length).map fun (s : Nat) => gt T s + F ((T.length : Int) - s)) - gt T (-1 + T.length)
def stL (T : List Int) : List Int := (List.range (T.length - 1)).map fun (t : Nat) => gt T (1 + t) - gt T t
def sp_law_at : SpD := fun ds M X Q => ∃ a b r t, ds = [cvD a b r, .int t] ∧ 0 < b.length ∧ b.length ≤ 1000 ∧ a.length ≤ 2000 ∧ 0 ≤ t ∧ t ≤ 100000 ∧ Q (.int (val a b r t)) M
theorem len_law_at (ds : List D) (M : Mh) (X : XD) (Q : QD) (h : sp_law_at ds M X Q) : ds.length = ["f", "t"].length := by obtain ⟨_, _, _, _, rfl, _⟩ := h; rfl
theorem hb_law_at (as : List D) (M : Mh) (X : XD) (Q : QD) (h : sp_law_at as M X Q) : wpSs (tabG []) (tabC []) b_law_at (startD S_law_at.N.length as) M (endsF Q X) := by
  obtain ⟨a, b, r, t, rfl, b0, b1, a1, t0, t1, q⟩ := h
  unfold b_law_at endsF; change wpSs _ _ _ [some _, some _, none, none, none, none] _ _
  unfold cvD
  walk_at "E"
  refine if_d (fun h => ?_) (fun h => ?_)
  · walk_at "E"
    rw [← val_lo (b := b) (r := r) h]
    exact q
  · have e0 := Int.emod_nonneg (t - a.length) (b := (b.length : Int)) (by omega)
    have e1 := Int.emod_lt_of_pos (t - a.length) (b := (b.length : Int)) (by omega)
    have d0 : 0 ≤ (t - (a.length : Int)) / b.length := Int.ediv_nonneg (by omega) (by omega)
    have d1 : (t - (a.length : Int)) / b.length ≤ t - a.length := Int.ediv_le_self _ (by omega)
    walk_at "E"
    rw [Int.mul_comm ((t - (a.length : Int)) / b.length) r, ← val_hi (a := a) (b := b) (r := r) h]
    exact q
def sp_law_leave : SpD := fun ds M X Q => ∃ a b r c T, ds = [cvD a b r, .ref c] ∧ M c = some (.lst (il T)) ∧ 0 < T.length ∧ T.length ≤ 900 ∧ 0 < b.length ∧ b.length ≤ 1000 ∧ a.length ≤ 2000 ∧ Q (.int (lv (val a b r) T)) M
theorem len_law_leave (ds : List D) (M : Mh) (X : XD) (Q : QD) (h : sp_law_leave ds M X Q) : ds.length = ["f", "counts"].length := by obtain ⟨_, _, _, _, _, rfl, _⟩ := h; rfl
theorem hb_law_leave (as : List D) (M : Mh) (X : XD) (Q : QD) (h : sp_law_leave as M X Q) : wpSs (tabG [sp_law_at]) (tabC []) b_law_leave (startD S_law_leave.N.length as) M (endsF Q X) := by
  obtain ⟨a, b, r, c, T, rfl, hc, T0, T1, b0, b1, a1, q⟩ := h
  unfold b_law_leave endsF; change wpSs _ _ _ [some _, some _, none, none] _ _
  walk_at "E"
  refine Ev.comp_il (fun (s : Nat) => gt T s + val a b r ((T.length : Int) - s)) (by rw [rngL_len]; omega) (· = M) rfl ?_ ?_
  · rintro i m d hd rfl Qn Kf hq
    obtain ⟨rfl, hi⟩ := rngL_get hd
    walk_at "E"
    refine ⟨a, b, r, _, rfl, by omega, by omega, by omega, by omega, by omega, ?_⟩
    walk_at "E"
    rw [Int.zero_add]
    exact hq _ rfl
  rintro m rfl
  rw [rngL_len, Int.toNat_natCast]
  have ll : ((List.range T.length).map fun (s : Nat) => gt T s + val a b r ((T.length : Int) - s)).length = T.length := by simp
  walk_at "E"
  exact q
/-- a meter's cells -/
structure Mt (M : Mh) (m x y : Addr) (a b : List Int) (r : Int) (T : List Int) (n : Nat) : Prop where
  hm : M m = some (.ins (Str.ofString "Meter") (mtF (cvD a b r) x y))
  hx : M x = some (.lst (il T))
  hy : M y = some (.lst (il (vals a b r n)))
  xy : x ≠ y
  mx : m ≠ x
  my : m ≠ y
  b0 : 0 < b.length
  b1 : b.length ≤ 1000
  a1 : a.length ≤ 1000
theorem Mt.tal {M : Mh} {m x y : Addr} {a b : List Int} {r : Int} {T T' : List Int} {n : Nat} (h : Mt M m x y a b r T n) : Mt (mset M x (Cell.lst (il T'))) m x y a b r T' n :=
  ⟨(mset_ne h.mx).trans h.hm, mset_same, (mset_ne (Ne.symm h.xy)).trans h.hy, h.xy, h.mx, h.my, h.b0, h.b1, h.a1⟩
theorem Mt.keep {M M' : Mh} {m x y : Addr} {a b : List Int} {r : Int} {T : List Int} {n : Nat} (h : Mt M m x y a b r T n) (f : ∀ z, z = m ∨ z = x ∨ z = y → M' z = M z) : Mt M' m x y a b r T n :=
  ⟨(f m (.inl rfl)).trans h.hm, (f x (.inr (.inl rfl))).trans h.hx, (f y (.inr (.inr rfl))).trans h.hy, h.xy, h.mx, h.my, h.b0, h.b1, h.a1⟩
theorem m_popi {M : Mh} {Q : QD} {x : Addr} {T : List Int} (h : M x = some (.lst (il T))) (h0 : 0 < T.length) (q : Q (.int (gt T (-1 + T.length))) (mset M x (.lst (il T.dropLast)))) : meD .pop (.ref x) [] M Q := by
  unfold meD
  simp only [h]
  rw [il_len, il_get (show T.length - 1 < T.length by omega)]
  show Q (.int (gt T ((T.length - 1 : Nat) : Int))) (mset M x (.lst (il T).dropLast))
  rw [show ((T.length - 1 : Nat) : Int) = -1 + (T.length : Int) by omega]
  have e : (il T).dropLast = il T.dropLast := by unfold il; rw [List.map_dropLast]
  rw [e]
  exact q
def sp_Meter_init : SpD := fun ds M X Q => ∃ p a b r, ds = [.ref p, cvD a b r] ∧ M p = some (.ins (Str.ofString "Meter") []) ∧ 0 < b.length ∧ b.length ≤ 1000 ∧ a.length ≤ 1000 ∧ val a b r 0 = 0 ∧ ∀ x y M', Mt M' p x y a b r [0] 1 → M x = none → M y = none → (∀ z, z ≠ p → M z ≠ none → M' z = M z) → Q .non M'
theorem len_Meter_init (ds : List D) (M : Mh) (X : XD) (Q : QD) (h : sp_Meter_init ds M X Q) : ds.length = ["self", "f"].length := by obtain ⟨_, _, _, _, rfl, _⟩ := h; rfl
theorem hb_Meter_init (as : List D) (M : Mh) (X : XD) (Q : QD) (h : sp_Meter_init as M X Q) : wpSs (tabG []) (tabC []) b_Meter_init (startD S_Meter_init.N.length as) M (endsF Q X) := by
  obtain ⟨p, a, b, r, rfl, hp, hb, hb1, ha, h0, q⟩ := h
  unfold b_Meter_init endsF; change wpSs _ _ _ [some _, some _] _ _
  walk_at "E"
  refine Ev.sf1 hp (by decide) (mt_put (b := .non) (c := .non)).1 ?_
  walk_at "E"
  intro x hx
  have n1 : p ≠ x := fun z => by rw [← z, mset_same] at hx; cases hx
  walk_at "E"
  refine Ev.sf1 ((mset_ne n1).trans mset_same) (by simp) (mt_put (c := .non)).2.1 ?_
  walk_at "E"
  intro y hy
  have n2 : p ≠ y := fun z => by rw [← z, mset_same] at hy; cases hy
  have n3 : x ≠ y := fun z => by rw [← z, mset_ne (Ne.symm n1), mset_same] at hy; cases hy
  walk_at "E"
  refine Ev.sf1 ((mset_ne n2).trans mset_same) (by simp) mt_put.2.2 ?_
  have l1 : M x = none := by rwa [mset_ne (Ne.symm n1)] at hx
  have l2 : M y = none := by rwa [mset_ne (Ne.symm n2), mset_ne (Ne.symm n3), mset_ne (Ne.symm n2)] at hy
  walk_at "E"
  refine q x y _ ⟨mset_same, ?_, ?_, n3, n1, n2, hb, hb1, ha⟩ l1 l2 fun z hz hn => ?_
  · rw [mset_ne (Ne.symm n1), mset_ne n3, mset_ne (Ne.symm n1), mset_same]
    rfl
  · rw [mset_ne (Ne.symm n2), mset_same]
    show _ = some (Cell.lst (il [val a b r ((0 : Nat) : Int)]))
    rw [show ((0 : Nat) : Int) = 0 from rfl, h0]
    rfl
  · rw [mset_ne hz, mset_ne (fun e => hn (by rw [e]; exact l2)), mset_ne hz, mset_ne (fun e => hn (by rw [e]; exact l1)), mset_ne hz]
def sp_Meter_leave : SpD := fun ds M X Q => ∃ m x y a b r T n, ds = [.ref m] ∧ Mt M m x y a b r T n ∧ 0 < T.length ∧ T.length ≤ 900 ∧ n ≤ 1000 ∧ ∀ M' n', Mt M' m x y a b r T n' → n' ≤ max n (T.length + 1) → (∀ z, z ≠ y → M' z = M z) → Q (.int (lv (val a b r) T)) M'
theorem len_Meter_leave (ds : List D) (M : Mh) (X : XD) (Q : QD) (h : sp_Meter_leave ds M X Q) : ds.length = ["self"].length := by obtain ⟨_, _, _, _, _, _, _, _, rfl, _⟩ := h; rfl
theorem hb_Meter_leave (as : List D) (M : Mh) (X : XD) (Q : QD) (h : sp_Meter_leave as M X Q) : wpSs (tabG [sp_value]) (tabC []) b_Meter_leave (startD S_Meter_leave.N.length as) M (endsF Q X) := by
  obtain ⟨m, x, y, a, b, r, T, n, rfl, mt, T0, T1, n1, q⟩ := h
  obtain ⟨hm, hx, hy, xy, mx, my, b0, b1, a1⟩ := mt
  unfold b_Meter_leave endsF; change wpSs _ _ _ [some _, none, none] _ _
  walk_at "E"
  refine Ev.s_whl (fun k e M1 => ∃ n', k = T.length + 1 - n' ∧ n' ≤ max n (T.length + 1) ∧ e = [some (.ref m), some (.int T.length), none] ∧ Mt M1 m x y a b r T n' ∧ ∀ z, z ≠ y → M1 z = M z) (T.length + 1 - n) ⟨n, rfl, by omega, rfl, ⟨hm, hx, hy, xy, mx, my, b0, b1, a1⟩, fun _ _ => rfl⟩ ?_
  rintro k e M1 ⟨n', rfl, h2, rfl, mt, fr⟩
  have mt' := mt
  obtain ⟨hm, hx, hy, _, _, _, _, _, _⟩ := mt
  have vl : (vals a b r n').length = n' := vals_len
  walk_at "E"
  refine if_d (fun h => ?_) (fun h => ?_)
  · walk_at "E"
    refine ⟨a, b, r, _, rfl, by omega, by omega, by omega, by omega, by omega, ?_⟩
    walk_at "E"
    refine ⟨T.length + 1 - (n' + 1), by omega, n' + 1, rfl, by omega, rfl, ⟨?_, ?_, ?_, xy, mx, my, b0, b1, a1⟩, fun z hz => ?_⟩
    · rw [mset_ne my]
      exact hm
    · rw [mset_ne xy]
      exact hx
    · rw [mset_same, vl, vals_succ]
    · rw [mset_ne hz]
      exact fr z hz
  · walk_at "E"
    refine Ev.comp_il (fun (s : Nat) => gt T s + val a b r ((T.length : Int) - s)) (by rw [rngL_len]; omega) (· = M1) rfl ?_ ?_
    · rintro i m2 d hd rfl Qn Kf hq
      obtain ⟨rfl, hi⟩ := rngL_get hd
      walk_at "E"
      rw [vals_get (by omega) (by omega), Int.add_comm (val a b r _), Int.zero_add]
      exact hq _ rfl
    rintro m2 rfl
    rw [rngL_len, Int.toNat_natCast]
    have ll : ((List.range T.length).map fun (s : Nat) => gt T s + val a b r ((T.length : Int) - s)).length = T.length := by simp
    walk_at "E"
    exact q _ n' mt' h2 fr
def sp_Meter_told : SpD := fun ds M X Q => ∃ m x y a b r T n, ds = [.ref m] ∧ Mt M m x y a b r T n ∧ 0 < T.length ∧ T.length ≤ 900 ∧ ∀ p M', M p = none → M' p = some (.lst (il (stL T))) → (∀ z, z ≠ p → M' z = M z) → Q (.ref p) M'
theorem len_Meter_told (ds : List D) (M : Mh) (X : XD) (Q : QD) (h : sp_Meter_told ds M X Q) : ds.length = ["self"].length := by obtain ⟨_, _, _, _, _, _, _, _, rfl, _⟩ := h; rfl
theorem hb_Meter_told (as : List D) (M : Mh) (X : XD) (Q : QD) (h : sp_Meter_told as M X Q) : wpSs (tabG []) (tabC []) b_Meter_told (startD S_Meter_told.N.length as) M (endsF Q X) := by
  obtain ⟨m, x, y, a, b, r, T, n, rfl, mt, T0, T1, q⟩ := h
  have hm := mt.hm
  have hx := mt.hx
  unfold b_Meter_told endsF; change wpSs _ _ _ [some _, none] _ _
  walk_at "E"
  refine Ev.comp_il (fun (t : Nat) => gt T (1 + t) - gt T t) (by rw [rngL_len]; omega) (· = M) rfl ?_ ?_
  · rintro i m2 d hd rfl Qn Kf hq
    obtain ⟨rfl, hi⟩ := rngL_get hd
    walk_at "E"
    rw [show (1 : Int) + i - 1 = i by omega]
    exact hq _ rfl
  rintro m2 rfl
  rw [rngL_len, show ((T.length : Int) - 1).toNat = T.length - 1 by omega]
  walk_at "E"
  intro p hp
  exact q p _ hp mset_same fun z hz => mset_ne hz

theorem val_nd {a b : List Int} {r : Int} (hb : 0 < b.length) (h1 : ∀ j : Int, 0 ≤ j → j + 1 < a.length + b.length → gt (a ++ b) j ≤ gt (a ++ b) (j + 1)) (h2 : gt b ((b.length : Int) - 1) ≤ gt b 0 + r) : Nd (val a b r) := by
  have base : ∀ j : Int, 0 ≤ j → j < a.length + b.length → val a b r j = gt (a ++ b) j := fun j j0 j1 => by
    rw [vals_base (a := a) (b := b) (r := r) hb, vals_get j0 (by omega)]
  intro t ht
  by_cases hl : t < a.length
  · rw [base t ht (by omega), base (t + 1) (by omega) (by omega)]
    exact h1 t ht (by omega)
  · have p : (0 : Int) < b.length := by omega
    have e0 := Int.emod_nonneg (t - a.length) (b := (b.length : Int)) (by omega)
    have e1 := Int.emod_lt_of_pos (t - a.length) p
    have e2 := Int.mul_ediv_add_emod (t - a.length) b.length
    have e3 : 0 ≤ (t - (a.length : Int)) / b.length := Int.ediv_nonneg (by omega) (by omega)
    generalize (t - (a.length : Int)) % b.length = j at e0 e1 e2
    generalize (t - (a.length : Int)) / b.length = m at e2 e3
    have et : t = (a.length + j) + m * b.length := by rw [Int.mul_comm m]; omega
    rw [show val a b r t = val a b r (a.length + j) + r * m by rw [et]; exact val_more hb (by omega) m e3]
    by_cases hj : j + 1 < b.length
    · rw [show val a b r (t + 1) = val a b r (a.length + j + 1) + r * m by rw [et, show (a.length + j) + m * b.length + 1 = (a.length + j + 1) + m * b.length by omega]; exact val_more hb (by omega) m e3]
      rw [base _ (by omega) (by omega), base _ (by omega) (by omega)]
      have := h1 (a.length + j) (by omega) (by omega)
      omega
    · have ej : j = b.length - 1 := by omega
      rw [show val a b r (t + 1) = val a b r a.length + r * (m + 1) by rw [show t + 1 = (a.length : Int) + (m + 1) * b.length by rw [Int.add_mul, et]; omega]; exact val_more hb (by omega) (m + 1) (by omega)]
      rw [base _ (by omega) (by omega), base _ (by omega) (by omega), gt_app_hi (by omega) (by omega), gt_app_hi (by omega) (by omega), Int.mul_add, Int.mul_one]
      rw [show (a.length : Int) + j - a.length = b.length - 1 by omega, show (a.length : Int) - a.length = 0 by omega]
      omega
theorem gt_set_ne {l : List Int} {n : Nat} {v : Int} {i : Int} (h0 : 0 ≤ i) (h : i < l.length) (hn : i ≠ n) : gt (l.set n v) i = gt l i := by
  obtain ⟨k, rfl⟩ := Int.eq_ofNat_of_zero_le h0
  rw [gt_get (by rw [List.length_set]; omega), List.getElem_set, if_neg (by omega), ← gt_get (by omega)]

/-- a stream that keeps a curve, by its tallies -/
structure Kp (F : Int → Int) (T : List Int) : Prop where
  len : 0 < T.length
  z0 : gt T 0 = 0
  nn : ∀ t : Nat, t < T.length → 0 ≤ gt T t
  le : ∀ s t : Nat, s ≤ t → t < T.length → gt T t ≤ gt T s + F ((t : Int) - s)
/-- what is asked of a curve -/
structure Fo (F : Int → Int) : Prop where
  f0 : F 0 = 0
  nd : Nd F
theorem Fo.up {F : Int → Int} (h : Fo F) : ∀ (k : Nat) {t : Int}, 0 ≤ t → F t ≤ F (t + k)
  | 0, t, _ => by rw [show ((0 : Nat) : Int) = 0 from rfl, Int.add_zero]; exact Int.le_refl _
  | k + 1, t, ht => by
    have h1 := h.up k ht
    have h2 := h.nd (t + k) (by omega)
    rw [show t + ((k + 1 : Nat) : Int) = t + k + 1 by omega]
    omega
theorem Fo.le {F : Int → Int} (h : Fo F) {s t : Int} (h0 : 0 ≤ s) (h1 : s ≤ t) : F s ≤ F t := by
  have := h.up (t - s).toNat h0
  rw [show s + ((t - s).toNat : Int) = t by omega] at this
  exact this
theorem Fo.nn {F : Int → Int} (h : Fo F) {t : Int} (h0 : 0 ≤ t) : 0 ≤ F t := by
  have := h.le (Int.le_refl 0) h0
  rw [h.f0] at this
  exact this
theorem lv_le {F : Int → Int} {T : List Int} {s : Nat} (h : s < T.length) : lv F T ≤ gt T s + F ((T.length : Int) - s) - gt T (-1 + T.length) := by
  have := minL_le (l := (List.range T.length).map fun (s : Nat) => gt T s + F ((T.length : Int) - s)) (List.mem_map.mpr ⟨s, List.mem_range.mpr h, rfl⟩)
  unfold lv
  omega
theorem Kp.lv0 {F : Int → Int} {T : List Int} (h : Kp F T) (f : Fo F) : 0 ≤ lv F T := by
  have h0 := h.len
  have m := minL_mem (l := (List.range T.length).map fun (s : Nat) => gt T s + F ((T.length : Int) - s)) (by simp; omega)
  obtain ⟨s, hs, e⟩ := List.mem_map.mp m
  have hs := List.mem_range.mp hs
  unfold lv
  rw [← e]
  have k := h.le s (T.length - 1) (by omega) (by omega)
  rw [show ((T.length - 1 : Nat) : Int) = -1 + (T.length : Int) by omega] at k
  have u := f.le (s := -1 + (T.length : Int) - s) (t := (T.length : Int) - s) (by omega) (by omega)
  omega
theorem Kp.come {F : Int → Int} {T : List Int} {k : Int} (h : Kp F T) (f : Fo F) (k0 : 0 ≤ k) (k1 : k ≤ lv F T) : Kp F (T ++ [gt T (-1 + T.length) + k]) := by
  have h0 := h.len
  have ll : (T ++ [gt T (-1 + T.length) + k]).length = T.length + 1 := by simp
  have lo : ∀ t : Nat, t < T.length → gt (T ++ [gt T (-1 + T.length) + k]) t = gt T t := fun t ht => gt_app_lo (by omega) (by omega)
  have hi : gt (T ++ [gt T (-1 + T.length) + k]) ((T.length : Nat) : Int) = gt T (-1 + T.length) + k := by
    rw [gt_app_hi (by omega) (by simp; omega), Int.sub_self]
    rfl
  have la := h.nn (T.length - 1) (by omega)
  rw [show ((T.length - 1 : Nat) : Int) = -1 + (T.length : Int) by omega] at la
  refine ⟨by omega, (lo 0 h0).trans h.z0, fun t ht => ?_, fun s t hs ht => ?_⟩
  · by_cases z : t < T.length
    · rw [lo t z]
      exact h.nn t z
    · rw [show t = T.length by omega, hi]
      omega
  · by_cases z : t < T.length
    · rw [lo t z, lo s (by omega)]
      exact h.le s t hs z
    · obtain rfl : t = T.length := by omega
      rw [hi]
      by_cases w : s < T.length
      · rw [lo s w]
        have := lv_le (F := F) w
        omega
      · obtain rfl : s = T.length := by omega
        rw [hi, Int.sub_self, f.f0]
        omega
theorem Kp.rest {F : Int → Int} {T : List Int} (h : Kp F T) (f : Fo F) (k : Nat) : Kp F (T ++ List.replicate k (gt T (-1 + T.length))) := by
  have h0 := h.len
  have ll : (T ++ List.replicate k (gt T (-1 + T.length))).length = T.length + k := by simp
  have lo : ∀ t : Nat, t < T.length → gt (T ++ List.replicate k (gt T (-1 + T.length))) t = gt T t := fun t ht => gt_app_lo (by omega) (by omega)
  have hi : ∀ t : Nat, T.length ≤ t → t < T.length + k → gt (T ++ List.replicate k (gt T (-1 + T.length))) t = gt T (-1 + T.length) := fun t t0 t1 => by
    rw [gt_app_hi (by omega) (by simp; omega), show (t : Int) - T.length = ((t - T.length : Nat) : Int) by omega, gt_get (by simp; omega), List.getElem_replicate]
  have la := h.nn (T.length - 1) (by omega)
  have e1 : ((T.length - 1 : Nat) : Int) = -1 + (T.length : Int) := by omega
  rw [e1] at la
  refine ⟨by omega, (lo 0 h0).trans h.z0, fun t ht => ?_, fun s t hs ht => ?_⟩
  · by_cases z : t < T.length
    · rw [lo t z]
      exact h.nn t z
    · rw [hi t (by omega) (by omega)]
      exact la
  · by_cases z : t < T.length
    · rw [lo t z, lo s (by omega)]
      exact h.le s t hs z
    · rw [hi t (by omega) (by omega)]
      by_cases w : s < T.length
      · rw [lo s w]
        have := h.le s (T.length - 1) (by omega) (by omega)
        rw [e1] at this
        have u := f.le (s := -1 + (T.length : Int) - s) (t := (t : Int) - s) (by omega) (by omega)
        omega
      · rw [hi s (by omega) (by omega)]
        have := f.nn (t := (t : Int) - s) (by omega)
        omega
theorem Kp.back {F : Int → Int} {T : List Int} (h : Kp F T) (h1 : 1 < T.length) : Kp F T.dropLast := by
  have ll : T.dropLast.length = T.length - 1 := List.length_dropLast
  have g : ∀ t : Nat, t < T.length - 1 → gt T.dropLast t = gt T t := fun t ht => by
    rw [gt_get (by omega), gt_get (by omega), List.getElem_dropLast]
  refine ⟨by omega, (g 0 (by omega)).trans h.z0, fun t ht => ?_, fun s t hs ht => ?_⟩
  · rw [g t (by omega)]
    exact h.nn t (by omega)
  · rw [g t (by omega), g s (by omega)]
    exact h.le s t hs (by omega)
theorem kp_one {F : Int → Int} (f : Fo F) : Kp F [0] := by
  refine ⟨by decide, rfl, fun t ht => ?_, fun s t hs ht => ?_⟩
  · have : t = 0 := by simp at ht; omega
    subst this
    decide
  · have : t = 0 := by simp at ht; omega
    subst this
    have : s = 0 := by omega
    subst this
    rw [Int.sub_self, f.f0]
    decide

def Cs (B : Int) (a b : List Int) (r : Int) : Prop := a.length ≤ 24 ∧ 1 ≤ b.length ∧ b.length ≤ 12 ∧ (∀ x ∈ a ++ b, -B ≤ x ∧ x ≤ B) ∧ -B ≤ r ∧ r ≤ B
theorem Cs.mo {B C : Int} {a b : List Int} {r : Int} (h : Cs B a b r) (e : B ≤ C) : Cs C a b r := by
  obtain ⟨h1, h2, h3, h4, h5, h6⟩ := h
  exact ⟨h1, h2, h3, fun x hx => by have := h4 x hx; omega, by omega, by omega⟩
theorem sl_bCi {M : Mh} {p : Addr} {l : List Int} {i j : Int} {Q : QD} (hM : M p = some (.lst (il l))) (h0 : 0 ≤ i) (h1 : i ≤ j) (h2 : j ≤ l.length) (q : Q (.lst (il ((l.drop i.toNat).take (j.toNat - i.toNat)))) M) : slD (.ref p) (some i) (some j) M Q := by
  unfold slD
  simp only [view, hM]
  rw [Ev.cut_both h0 h1 (by rw [il_len]; exact h2), il_drop, il_take]
  exact q
theorem at_last {l : List D} {d : D} : atI (l ++ [d]) (-1) = some d := by
  unfold atI ixN
  simp only [List.length_append, List.length_singleton]
  rw [if_neg (by decide), if_pos (by omega), show (-1 + ((l.length + 1 : Nat) : Int)).toNat = l.length by omega]
  simp
/-- the same, from nought on and never down -/
def Cn (B : Int) (a b : List Int) (r : Int) : Prop := Cs B a b r ∧ val a b r 0 = 0 ∧ Nd (val a b r)
theorem Cn.of {B : Int} {a b : List Int} {r : Int} (h : Cs B a b r) (h0 : gt (a ++ b) 0 = 0) (h1 : ∀ j : Nat, j + 1 < a.length + b.length → gt (a ++ b) j ≤ gt (a ++ b) ((j + 1 : Nat) : Int)) (h2 : gt b ((b.length : Int) - 1) ≤ gt b 0 + r) : Cn B a b r := by
  have h' := h
  obtain ⟨c1, c2, c3, _⟩ := h'
  refine ⟨h, ?_, val_nd (by omega) (fun j j0 j1 => ?_) h2⟩
  · rw [vals_base (a := a) (b := b) (r := r) (by omega), vals_get (by decide) (by omega)] at h0
    exact h0
  · have := h1 j.toNat (by omega)
    rw [show ((j.toNat + 1 : Nat) : Int) = j + 1 by omega, Int.toNat_of_nonneg j0] at this
    exact this
theorem gt_apps {a b : List Int} {j : Nat} : gt (a ++ b) j = if j < a.length then gt a j else gt b ((j - a.length : Nat) : Int) := by
  split
  · exact gt_app_lo (by omega) (by omega)
  · rename_i h
    by_cases z : j < a.length + b.length
    · rw [gt_app_hi (by omega) (by omega)]
      congr 1
      omega
    · unfold gt
      rw [Int.toNat_natCast, Int.toNat_natCast, List.getD_eq_getElem?_getD, List.getD_eq_getElem?_getD, List.getElem?_append_right (by omega)]
theorem gt_lst {f : Nat → Int} {N : Nat} (h : 0 < N) : gt ((List.range N).map f) ((N : Int) - 1) = f (N - 1) := by
  rw [gt_map (by omega) (by omega)]
  congr 1
  omega
theorem gt_fst {f : Nat → Int} {N : Nat} (h : 0 < N) : gt ((List.range N).map f) 0 = f 0 := by
  rw [gt_map (by decide) (by omega)]
  rfl

theorem rep_of {d : D} {n : Nat} (h : S1 d 12 n) (hn : n ≤ 1000000) : ∃ s : Str, ∀ (M : Mh) (Q : QD) (d' : D), view M d' = d → Q (.str s) M → biD .repr [d'] M Q := by
  obtain ⟨y, y1, y2, y3, y4⟩ := h
  exact ⟨y.shown, fun M Q d' hv q => b_reprX (n := n) (by rw [hv]; exact y1) ⟨y2, by omega, y4⟩ (by omega) q⟩
/-- numbers that can be shown -/
def Bd (F : Int → Int) : Prop := ∀ t : Int, 0 ≤ t → t ≤ 1000 → F t ≤ 10 ^ 50
theorem Kp.shown {F : Int → Int} {T : List Int} (h : Kp F T) (b : Bd F) (hl : T.length ≤ 900) : S1 (.lst (il (stL T))) 12 100000 := by
  have bd : ∀ t : Nat, t < T.length → 0 ≤ gt T t ∧ gt T t ≤ 10 ^ 50 := fun t ht => by
    have := h.le 0 t (by omega) ht
    rw [show ((0 : Nat) : Int) = 0 from rfl, h.z0, Int.sub_zero] at this
    have := b t (by omega) (by omega)
    have := h.nn t ht
    omega
  have hs : ∀ x ∈ stL T, x.natAbs < 10 ^ 60 := fun x hx => by
    obtain ⟨t, ht, rfl⟩ := List.mem_map.mp hx
    have ht := List.mem_range.mp ht
    have h1 := bd t (by omega)
    have h2 := bd (t + 1) (by omega)
    rw [show ((t + 1 : Nat) : Int) = 1 + (t : Int) by omega] at h2
    omega
  have ll : (stL T).length = T.length - 1 := by unfold stL; simp
  refine (S1.lst (SA.il (k := 5) hs)).to (by decide) ?_
  rw [il_len]
  omega
def sp_law_curve : SpD := fun ds M X Q => ∃ p k, ds = [.ref p] ∧ PenM M p (k + 60) ∧ ∀ a b r M', Cn 20000000 a b r → PenM M' p k → (∀ z, M z ≠ none → z ≠ p → M' z = M z) → Q (cvD a b r) M'
theorem len_law_curve (ds : List D) (M : Mh) (X : XD) (Q : QD) (h : sp_law_curve ds M X Q) : ds.length = ["pen"].length := by obtain ⟨_, _, rfl, _⟩ := h; rfl
theorem hb_law_curve (as : List D) (M : Mh) (X : XD) (Q : QD) (h : sp_law_curve as M X Q) : wpSs (tabG [sp_law_take]) (tabC []) b_law_curve (startD S_law_curve.N.length as) M (endsF Q X) := by
  obtain ⟨p, k, rfl, hp, q⟩ := h
  unfold b_law_curve endsF; change wpSs _ _ _ [some _, none, none, none, none, none, none, none, none] _ _
  walk_at "E"
  refine ⟨p, 7, k + 59, rfl, by decide, by decide, hp, fun way M1 w0 w1 hp f1 => ?_⟩
  walk_at "E"
  refine ⟨p, 16, k + 58, rfl, by decide, by decide, hp, fun wd M2 wd0 wd1 hp f2 => ?_⟩
  walk_at "E"
  have hw : 0 ≤ wd / 15 ∧ wd / 15 ≤ 1 := by omega
  generalize wd / 15 = wide at hw ⊢
  refine ⟨p, 6, k + 57, rfl, by decide, by decide, hp, fun qu M3 q0 q1 hp f3 => ?_⟩
  walk_at "E"
  refine ⟨p, 8, k + 56, rfl, by decide, by decide, hp, fun ea M4 ea0 ea1 hp f4 => ?_⟩
  walk_at "E"
  refine ⟨p, 5, k + 55, rfl, by decide, by decide, hp, fun lo M5 lo0 lo1 hp f5 => ?_⟩
  walk_at "E"
  intro c hc
  have fr : ∀ z, z ≠ p → M5 z = M z := fun z hz => (f5 z hz).trans ((f4 z hz).trans ((f3 z hz).trans ((f2 z hz).trans (f1 z hz))))
  have hcp : c ≠ p := fun z => hp.some (by rw [← z]; exact hc)
  walk_at "E"
  obtain ⟨E, hE⟩ : ∃ E, E = ea + 17 * wide := ⟨_, rfl⟩
  obtain ⟨G, hG⟩ : ∃ G, G = 1 + lo + 7 * wide := ⟨_, rfl⟩
  rw [← hE, ← hG]
  have bE : 0 ≤ E ∧ E ≤ 24 := by omega
  have bG : 1 ≤ G ∧ G ≤ 12 := by omega
  refine Ev.for_ok (fun i e m => (∃ (e7 e8 : Option D), e = [some (.ref p), some (.int way), some (.int wide), some (.int (1 + qu)), some (.int E), some (.int G), some (.ref c), e7, e8]) ∧ PenM m p (k + 54 - i) ∧ (∀ z, z ≠ p → z ≠ c → m z = M5 z) ∧ ∃ l : List Int, m c = some (.lst (il (l))) ∧ l.length = i + 1 ∧ (∀ x ∈ l, 0 ≤ x ∧ x ≤ 100000 * i) ∧ gt l 0 = 0 ∧ ∀ j : Nat, j < i → gt l j ≤ gt l ((j + 1 : Nat) : Int)) ⟨⟨_, _, rfl⟩, (hp.keep (mset_ne (Ne.symm hcp))).to (by omega), fun z z1 z2 => mset_ne z2, [0], mset_same, rfl, by simp, rfl, by omega⟩ ?_ ?_
  · rintro i e m Kn hk d hd ⟨⟨e7, e8, rfl⟩, hp, fr2, l, hm, hl, hx, l0, lm⟩
    obtain ⟨rfl, hi⟩ := rngL_get hd
    walk_at "E"
    refine ⟨p, _, k + 54 - i - 1, rfl, by omega, lg (by omega), hp.to (by omega), fun v M6 v0 v1 hp f6 => ?_⟩
    have hm6 : M6 c = some (.lst (il l)) := (f6 c hcp).trans hm
    walk_at "I"
    refine Ev.s_J (fun e m' => m' = M6 ∧ ∃ st : Int, 0 ≤ st ∧ st ≤ 12 ∧ e = [some (.ref p), some (.int way), some (.int wide), some (.int (1 + qu)), some (.int E), some (.int G), some (.ref c), some (.int (1 + (i : Int))), some (.int st)]) ?_ fun nn hnn => ?_
    · rintro e m' ⟨rfl, st, s0, s1, rfl⟩
      walk_at "I"
      refine Ev.s_J (fun e m2 => m2 = m' ∧ ∃ st : Int, 0 ≤ st ∧ st ≤ 12 ∧ e = [some (.ref p), some (.int way), some (.int wide), some (.int (1 + qu)), some (.int E), some (.int G), some (.ref c), some (.int (1 + (i : Int))), some (.int st)]) ?_ fun nn hnn => ?_
      · rintro e m2 ⟨rfl, st, s0, s1, rfl⟩
        walk_at "I"
        refine Ev.s_J (fun e m' => m' = m2 ∧ ∃ st : Int, 0 ≤ st ∧ st ≤ 72 ∧ e = [some (.ref p), some (.int way), some (.int wide), some (.int (1 + qu)), some (.int E), some (.int G), some (.ref c), some (.int (1 + (i : Int))), some (.int st)]) ?_ fun nn hnn => ?_
        · rintro e m' ⟨rfl, st, s0, s1, rfl⟩
          walk_at "I"
          refine Ev.s_J (fun e m2 => m2 = m' ∧ ∃ st : Int, 0 ≤ st ∧ st ≤ 72 ∧ e = [some (.ref p), some (.int way), some (.int wide), some (.int (1 + qu)), some (.int E), some (.int G), some (.ref c), some (.int (1 + (i : Int))), some (.int st)]) ?_ fun nn hnn => ?_
          · rintro e m2 ⟨rfl, st, s0, s1, rfl⟩
            walk_at "I"
            refine Ev.s_J (fun e m' => m' = m2 ∧ ∃ st : Int, 0 ≤ st ∧ st ≤ 100000 ∧ e = [some (.ref p), some (.int way), some (.int wide), some (.int (1 + qu)), some (.int E), some (.int G), some (.ref c), some (.int (1 + (i : Int))), some (.int st)]) ?_ fun nn hnn => ?_
            · rintro e m' ⟨rfl, st, s0, s1, rfl⟩
              have g := hx _ (gt_mem (l := l) (i := (-1 : Int) + l.length) (by omega) (by omega))
              walk_at "E"
              refine hk _ _ ⟨⟨_, _, rfl⟩, (hp.keep (mset_ne (Ne.symm hcp))).to (by omega), fun z z1 z2 => (mset_ne z2).trans ((f6 z z1).trans (fr2 z z1 z2)), _, mset_same, by simp; omega, fun x hx' => ?_, ?_, fun j hj => ?_⟩
              · rcases List.mem_append.mp hx' with h | h
                · have := hx x h
                  omega
                · simp only [List.mem_singleton] at h
                  omega
              · rw [gt_app_lo (by decide) (by omega)]
                exact l0
              · rw [gt_app_lo (i := (j : Int)) (by omega) (by omega)]
                by_cases z : j = i
                · subst z
                  rw [gt_app_hi (by omega) (by simp; omega), show ((j + 1 : Nat) : Int) - l.length = 0 by omega, show (-1 : Int) + l.length = (j : Int) by omega]
                  show gt l j ≤ gt l j + st
                  omega
                · rw [gt_app_lo (by omega) (by omega)]
                  exact lm j (by omega)
            · walk_at "E"
              refine if_d (fun h => ?_) (fun h => ?_)
              · walk_at "E"
                exact hnn _ _ ⟨rfl, _, by omega, by omega, rfl⟩
              · walk_at "E"
                exact hnn _ _ ⟨rfl, _, by omega, by omega, rfl⟩
          · walk_at "E"
            refine and_t (fun h => ?_) (fun h => ?_)
            · walk_at "E"
              refine and_t (fun h => ?_) (fun h => ?_)
              · walk_at "E"
                exact hnn _ _ ⟨rfl, _, by omega, by omega, rfl⟩
              · walk_at "E"
                exact hnn _ _ ⟨rfl, _, by omega, by omega, rfl⟩
            · refine if_b (fun e => absurd e h) fun _ => ?_
              walk_at "E"
              exact hnn _ _ ⟨rfl, _, by omega, by omega, rfl⟩
        · walk_at "E"
          refine and_t (fun h => ?_) (fun h => ?_)
          · walk_at "E"
            refine and_t (fun h => ?_) (fun h => ?_)
            · walk_at "E"
              exact hnn _ _ ⟨rfl, _, by omega, by omega, rfl⟩
            · walk_at "E"
              exact hnn _ _ ⟨rfl, _, by omega, by omega, rfl⟩
          · refine if_b (fun e => absurd e h) fun _ => ?_
            walk_at "E"
            exact hnn _ _ ⟨rfl, _, by omega, by omega, rfl⟩
      · walk_at "E"
        refine and_t (fun h => ?_) (fun h => ?_)
        · walk_at "E"
          refine and_t (fun h => ?_) (fun h => ?_)
          · walk_at "E"
            exact hnn _ _ ⟨rfl, _, by omega, by omega, rfl⟩
          · walk_at "E"
            exact hnn _ _ ⟨rfl, _, by omega, by omega, rfl⟩
        · refine if_b (fun e => absurd e h) fun _ => ?_
          walk_at "E"
          exact hnn _ _ ⟨rfl, _, by omega, by omega, rfl⟩
    · walk_at "E"
      refine if_d (fun h => ?_) (fun h => ?_)
      · walk_at "E"
        exact hnn _ _ ⟨rfl, _, by omega, by omega, rfl⟩
      · walk_at "E"
        exact hnn _ _ ⟨rfl, _, by omega, by omega, rfl⟩
  · rintro e m ⟨⟨e7, e8, rfl⟩, hp, fr2, l, hm, hl, hx, l0, lm⟩
    rw [rngL_len] at hp hl hx lm
    have hx2 : ∀ x ∈ l, 0 ≤ x ∧ x ≤ 20000000 := fun x h => by have := hx x h; omega
    walk_at "E"
    refine sl_hiCi hm bE.1 ?_
    walk_at "E"
    refine sl_bCi hm (by omega) (by omega) (by omega) ?_
    walk_at "E"
    have l1 : (l.take E.toNat).length = E.toNat := by rw [List.length_take]; omega
    have l2 : ((l.drop E.toNat).take ((E + G).toNat - E.toNat)).length = G.toNat := by rw [List.length_take, List.length_drop]; omega
    have x2 : ∀ x ∈ (l.drop E.toNat).take ((E + G).toNat - E.toNat), 0 ≤ x ∧ x ≤ 20000000 := fun x h => hx2 x (List.mem_of_mem_drop (List.mem_of_mem_take h))
    have x1 : ∀ x ∈ l.take E.toNat, 0 ≤ x ∧ x ≤ 20000000 := fun x h => hx2 x (List.mem_of_mem_take h)
    have eg : l.take E.toNat ++ (l.drop E.toNat).take ((E + G).toNat - E.toNat) = l.take (E + G).toNat := by
      rw [show (E + G).toNat = E.toNat + ((E + G).toNat - E.toNat) by omega, List.take_add]
      congr 2
      omega
    have sg : ∀ j : Nat, j < G.toNat → gt ((l.drop E.toNat).take ((E + G).toNat - E.toNat)) j = gt l ((E.toNat + j : Nat) : Int) := fun j hj => by
      rw [gt_get (by omega), gt_get (by omega), List.getElem_take, List.getElem_drop]
    generalize (l.drop E.toNat).take ((E + G).toNat - E.toNat) = s at l2 x2 eg sg ⊢
    have g1 := hx2 _ (gt_mem (l := l) (i := E + G) (by omega) (by omega))
    have g2 := hx2 _ (gt_mem (l := l) (i := E) (by omega) (by omega))
    have tg : ∀ j : Nat, j < (E + G).toNat → gt (l.take (E + G).toNat) j = gt l j := fun j hj => by
      rw [gt_get (by rw [List.length_take]; omega), gt_get (by omega), List.getElem_take]
    refine q _ _ _ _ (Cn.of ⟨by omega, by omega, by omega, fun x hx => by
      rcases List.mem_append.mp hx with h | h
      · have := x1 x h; omega
      · have := x2 x h; omega, by omega, by omega⟩ ?_ (fun j hj => ?_) ?_) (hp.to (by omega)) fun z hz zp => ?_
    · rw [eg]
      exact (tg 0 (by omega)).trans l0
    · rw [eg, tg j (by omega), tg (j + 1) (by omega)]
      exact lm j (by omega)
    · have e1 := sg (s.length - 1) (by omega)
      rw [show ((s.length - 1 : Nat) : Int) = (s.length : Int) - 1 by omega] at e1
      have e0 := sg 0 (by omega)
      rw [show ((0 : Nat) : Int) = 0 from rfl, show ((E.toNat + 0 : Nat) : Int) = E by omega] at e0
      have e2 := lm (E.toNat + (s.length - 1)) (by omega)
      rw [show ((E.toNat + (s.length - 1) + 1 : Nat) : Int) = E + G by omega] at e2
      omega
    · have zc : z ≠ c := fun e => hz (by rw [e, ← fr c hcp]; exact hc)
      rw [fr2 z zp zc, fr z zp]

def strX : Exc := ⟨("NoStream" : Str)⟩
def mucX : Exc := ⟨("TooMuch" : Str)⟩
def lonX : Exc := ⟨("TooLong" : Str)⟩
def bacX : Exc := ⟨("NoBack" : Str)⟩
theorem numB_int {d : D} (h : numB d = true) : ∃ k, d = .int k ∧ 0 ≤ k := by
  cases d with
  | int k => exact ⟨k, rfl, of_decide_eq_true h⟩
  | _ => cases h
def sp_Meter_need_room : SpD := fun ds M X Q => ∃ m x y a b r T n d, ds = [.ref m, d] ∧ Mt M m x y a b r T n ∧ Pl d ∧ T.length ≤ 900 ∧ (numB d = false → X strX M) ∧ ∀ k, d = .int k → 0 ≤ k → (401 < (T.length : Int) + k → X lonX M) ∧ ((T.length : Int) + k ≤ 401 → Q .non M)
theorem len_Meter_need_room (ds : List D) (M : Mh) (X : XD) (Q : QD) (h : sp_Meter_need_room ds M X Q) : ds.length = ["self", "turns"].length := by obtain ⟨_, _, _, _, _, _, _, _, _, rfl, _⟩ := h; rfl
theorem hb_Meter_need_room (as : List D) (M : Mh) (X : XD) (Q : QD) (h : sp_Meter_need_room as M X Q) : wpSs (tabG [sp_is_number]) (tabC [.int 400]) b_Meter_need_room (startD S_Meter_need_room.N.length as) M (endsF Q X) := by
  obtain ⟨m, x, y, a, b, r, T, n, d, rfl, mt, hd, T1, qx, q⟩ := h
  obtain ⟨hm, hx, hy, xy, mx, my, b0, b1, a1⟩ := mt
  unfold b_Meter_need_room endsF; change wpSs _ _ _ [some _, some _] _ _
  walk_at "E"
  refine ⟨d, rfl, hd, ?_⟩
  cases e : numB d with
  | false =>
    walk_at "E"
    exact qx e
  | true =>
    obtain ⟨k, rfl, k0⟩ := numB_int e
    obtain ⟨q1, q2⟩ := q k rfl k0
    walk_at "E"
    refine if_d (fun h => ?_) (fun h => ?_)
    · walk_at "E"
      exact q1 (by omega)
    · walk_at "E"
      exact q2 (by omega)
def sp_Meter_come : SpD := fun ds M X Q => ∃ m x y a b r T n d, ds = [.ref m, d] ∧ Mt M m x y a b r T n ∧ Pl d ∧ 0 < T.length ∧ T.length ≤ 401 ∧ n ≤ 1000 ∧ (numB d = false → X strX M) ∧ ∀ k, d = .int k → 0 ≤ k → (400 < T.length → X lonX M) ∧ (T.length ≤ 400 → (lv (val a b r) T < k → ∀ M' n', Mt M' m x y a b r T n' → n' ≤ 1000 → (∀ z, z ≠ y → M' z = M z) → X mucX M') ∧ (k ≤ lv (val a b r) T → ∀ M' n', Mt M' m x y a b r (T ++ [gt T (-1 + T.length) + k]) n' → n' ≤ 1000 → (∀ z, z ≠ x → z ≠ y → M' z = M z) → Q (.int (lv (val a b r) (T ++ [gt T (-1 + T.length) + k]))) M'))
theorem len_Meter_come (ds : List D) (M : Mh) (X : XD) (Q : QD) (h : sp_Meter_come ds M X Q) : ds.length = ["self", "many"].length := by obtain ⟨_, _, _, _, _, _, _, _, _, rfl, _⟩ := h; rfl
theorem hb_Meter_come (as : List D) (M : Mh) (X : XD) (Q : QD) (h : sp_Meter_come as M X Q) : wpSs (tabG [sp_is_number, sp_Meter_need_room, sp_Meter_leave]) (tabC []) b_Meter_come (startD S_Meter_come.N.length as) M (endsF Q X) := by
  obtain ⟨m, x, y, a, b, r, T, n, d, rfl, mt, hd, T0, T1, n1, qx, q⟩ := h
  have hm := mt.hm
  unfold b_Meter_come endsF; change wpSs _ _ _ [some _, some _] _ _
  walk_at "E"
  refine ⟨d, rfl, hd, ?_⟩
  cases e : numB d with
  | false =>
    walk_at "E"
    exact qx e
  | true =>
    obtain ⟨k, rfl, k0⟩ := numB_int e
    obtain ⟨q1, q2⟩ := q k rfl k0
    walk_at "E"
    refine ⟨m, x, y, a, b, r, T, n, .int 1, rfl, mt, trivial, by omega, (fun z => by cases z), fun k1 e1 _ => ?_⟩
    cases e1
    refine ⟨fun z => q1 (by omega), fun z => ?_⟩
    obtain ⟨q3, q4⟩ := q2 (by omega)
    walk_at "E"
    refine ⟨m, x, y, a, b, r, T, n, rfl, mt, T0, by omega, n1, fun M1 n' mt1 n'1 fr1 => ?_⟩
    have hm1 := mt1.hm
    have hx1 := mt1.hx
    walk_at "E"
    refine if_d (fun h => ?_) (fun h => ?_)
    · walk_at "E"
      exact q3 h M1 n' mt1 (by omega) fr1
    · walk_at "E"
      have mt2 := mt1.tal (T' := T ++ [gt T (-1 + T.length) + k])
      have hm2 := mt2.hm
      have l2 : (T ++ [gt T (-1 + T.length) + k]).length = T.length + 1 := by simp
      have fr2 : ∀ z, z ≠ x → mset M1 x (Cell.lst (il (T ++ [gt T (-1 + T.length) + k]))) z = M1 z := fun z hz => mset_ne hz
      generalize mset M1 x (Cell.lst (il (T ++ [gt T (-1 + T.length) + k]))) = M2 at mt2 hm2 fr2 ⊢
      walk_at "E"
      refine ⟨m, x, y, a, b, r, _, n', rfl, mt2, by omega, by omega, by omega, fun M3 n3 mt3 n3' fr3 => ?_⟩
      exact q4 (by omega) M3 n3 mt3 (by omega) fun z zx zy => (fr3 z zy).trans ((fr2 z zx).trans (fr1 z zy))
def sp_Meter_rest : SpD := fun ds M X Q => ∃ m x y a b r T n d, ds = [.ref m, d] ∧ Mt M m x y a b r T n ∧ Pl d ∧ 0 < T.length ∧ T.length ≤ 401 ∧ n ≤ 1000 ∧ (numB d = false → X strX M) ∧ ∀ k, d = .int k → 0 ≤ k → (401 < (T.length : Int) + k → X lonX M) ∧ ((T.length : Int) + k ≤ 401 → ∀ M' n', Mt M' m x y a b r (T ++ List.replicate k.toNat (gt T (-1 + T.length))) n' → n' ≤ 1000 → (∀ z, z ≠ x → z ≠ y → M' z = M z) → Q (.int (lv (val a b r) (T ++ List.replicate k.toNat (gt T (-1 + T.length))))) M')
theorem len_Meter_rest (ds : List D) (M : Mh) (X : XD) (Q : QD) (h : sp_Meter_rest ds M X Q) : ds.length = ["self", "turns"].length := by obtain ⟨_, _, _, _, _, _, _, _, _, rfl, _⟩ := h; rfl
theorem hb_Meter_rest (as : List D) (M : Mh) (X : XD) (Q : QD) (h : sp_Meter_rest as M X Q) : wpSs (tabG [sp_Meter_need_room, sp_Meter_leave]) (tabC []) b_Meter_rest (startD S_Meter_rest.N.length as) M (endsF Q X) := by
  obtain ⟨m, x, y, a, b, r, T, n, d, rfl, mt, hd, T0, T1, n1, qx, q⟩ := h
  have hm := mt.hm
  have hx := mt.hx
  unfold b_Meter_rest endsF; change wpSs _ _ _ [some _, some _] _ _
  walk_at "E"
  refine ⟨m, x, y, a, b, r, T, n, d, rfl, mt, hd, by omega, qx, fun k e k0 => ?_⟩
  subst e
  obtain ⟨q1, q2⟩ := q k rfl k0
  refine ⟨q1, fun z => ?_⟩
  walk_at "E"
  have lk : (List.replicate k.toNat (gt T (-1 + T.length))).length = k.toNat := List.length_replicate
  refine m_exi hx (by omega) ?_
  have mt2 := mt.tal (T' := T ++ List.replicate k.toNat (gt T (-1 + T.length)))
  have hm2 := mt2.hm
  have l2 : (T ++ List.replicate k.toNat (gt T (-1 + T.length))).length = T.length + k.toNat := by rw [List.length_append, lk]
  have fr2 : ∀ z, z ≠ x → mset M x (Cell.lst (il (T ++ List.replicate k.toNat (gt T (-1 + T.length))))) z = M z := fun z hz => mset_ne hz
  generalize mset M x (Cell.lst (il (T ++ List.replicate k.toNat (gt T (-1 + T.length))))) = M2 at mt2 hm2 fr2 ⊢
  walk_at "E"
  refine ⟨m, x, y, a, b, r, _, n, rfl, mt2, by omega, by omega, by omega, fun M3 n3 mt3 n3' fr3 => ?_⟩
  exact q2 z M3 n3 mt3 (by omega) fun z zx zy => (fr3 z zy).trans (fr2 z zx)
def sp_Meter_back : SpD := fun ds M X Q => ∃ m x y a b r T n, ds = [.ref m] ∧ Mt M m x y a b r T n ∧ 0 < T.length ∧ T.length ≤ 900 ∧ (T.length = 1 → X bacX M) ∧ (1 < T.length → ∀ M', Mt M' m x y a b r T.dropLast n → (∀ z, z ≠ x → M' z = M z) → Q (.int (gt T (-1 + T.length) - gt T.dropLast (-1 + T.dropLast.length))) M')
theorem len_Meter_back (ds : List D) (M : Mh) (X : XD) (Q : QD) (h : sp_Meter_back ds M X Q) : ds.length = ["self"].length := by obtain ⟨_, _, _, _, _, _, _, _, rfl, _⟩ := h; rfl
theorem hb_Meter_back (as : List D) (M : Mh) (X : XD) (Q : QD) (h : sp_Meter_back as M X Q) : wpSs (tabG []) (tabC []) b_Meter_back (startD S_Meter_back.N.length as) M (endsF Q X) := by
  obtain ⟨m, x, y, a, b, r, T, n, rfl, mt, T0, T1, qx, q⟩ := h
  have hm := mt.hm
  have hx := mt.hx
  unfold b_Meter_back endsF; change wpSs _ _ _ [some _, none] _ _
  walk_at "E"
  refine if_d (fun h => ?_) (fun h => ?_)
  · walk_at "E"
    exact qx (by omega)
  · walk_at "E"
    refine m_popi hx (by omega) ?_
    have mt2 := mt.tal (T' := T.dropLast)
    have hm2 := mt2.hm
    have hx2 := mt2.hx
    have l2 : T.dropLast.length = T.length - 1 := List.length_dropLast
    have fr2 : ∀ z, z ≠ x → mset M x (Cell.lst (il T.dropLast)) z = M z := fun z hz => mset_ne hz
    generalize mset M x (Cell.lst (il T.dropLast)) = M2 at mt2 hm2 hx2 fr2 ⊢
    walk_at "E"
    exact q (by omega) M2 mt2 fr2

/-- how often, of truths -/
theorem m_cntb {M : Mh} {Q : QD} {p : Addr} {bs : List Bool} (h : M p = some (.lst (bs.map D.bl))) (q : Q (.int ((bs.countP fun b => b == true : Nat) : Int)) M) : meD .count (.ref p) [.bl true] M Q := by
  unfold meD
  simp only [h]
  have e : ∀ b : Bool, eqF (.bl b) (.bl true) = (b == true) := by decide +kernel
  refine ⟨⟨rfl, ?_⟩, ?_⟩
  · rw [List.all_eq_true]
    intro d hd
    obtain ⟨b, _, rfl⟩ := List.mem_map.mp hd
    rfl
  · rw [List.countP_map, show ((fun z => eqF z (D.bl true)) ∘ D.bl) = (fun b : Bool => b == true) from funext e]
    exact q
theorem x_idb {M : Mh} {Q : QD} {p : Addr} {bs : List Bool} {k : Nat} (h : M p = some (.lst (bs.map D.bl))) (e : fstI (.bl true) (bs.map D.bl) = some k) (q : Q (.int (k : Nat)) M) : idxD (.ref p) [.bl true] M Q := by
  unfold idxD
  simp only [view, h]
  rw [e]
  refine ⟨⟨rfl, ?_⟩, q⟩
  rw [List.all_eq_true]
  intro d hd
  obtain ⟨b, _, rfl⟩ := List.mem_map.mp hd
  rfl
/-- the word of a refusal -/
def wdD (nm : Str) : Option Str := if nm = strX.nm then some (Str.ofString "stream") else if nm = mucX.nm then some (Str.ofString "much") else if nm = lonX.nm then some (Str.ofString "long") else if nm = bacX.nm then some (Str.ofString "back") else none
def sp_law_word : SpD := fun ds M X Q => (∃ d, ds = [d] ∧ Q (.str (Str.ofString "told")) M) ∨ (∃ x w, ds = [.exc x, .non] ∧ wdD x = some w ∧ ∀ M', (∀ z, M z ≠ none → M' z = M z) → Q (.str w) M')
theorem hb_law_word (v : V) (cc : Addr) (qq : Str) (l : List D) (ws : List V) (M : Mh) (Q : QD) (th : SpD) (ht : ∀ X1 Q1, (∀ (x : Exc) M1, sp_law_word [.exc x.nm, .non] M1 (fun _ _ => False) Q → X1 x M1) → (∀ d M1, sp_law_word [d] M1 (fun _ _ => False) Q → Q1 d M1) → th [.thk v cc qq l ws] M X1 Q1) : wpSs (tabG ([] ++ [th])) (tabC []) b_law_word (startD S_law_word.N.length [.thk v cc qq l ws]) M (endsF Q (fun _ _ => False)) := by
  unfold b_law_word endsF; change wpSs _ _ _ [some _, none, none, none] _ _
  walk_at "E"
  refine Ev.e_thk rfl ?_
  refine ht _ _ (fun x M1 hx => ?_) (fun d M1 hd => ?_)
  · rcases hx with ⟨d, e, _⟩ | ⟨x', w, e, hw, q⟩
    · cases e
    · have e : x.nm = x' := by
        have e := (List.cons.inj e).1
        exact D.exc.inj e
      cases x with
      | mk nm =>
      have e : nm = x' := e
      subst e
      unfold wdD at hw
      split at hw
      · rename_i e
        subst e
        cases hw
        refine Ev.got List.mem_cons_self (by decide +kernel) (by simp) ?_
        show wpSs _ _ _ [some (.thk v cc qq l ws), some (.exc strX.nm), none, none] _ _
        walk_at "E"
        rw [show isNon (.exc strX.nm) = false from rfl]
        walk_at "E"
        refine Ev.isc1 false List.mem_cons_self (by decide +kernel) ?_
        walk_at "E"
        refine Ev.isc1 false List.mem_cons_self (by decide +kernel) ?_
        walk_at "E"
        refine Ev.isc1 true List.mem_cons_self (by decide +kernel) ?_
        walk_at "E"
        refine Ev.isc1 false List.mem_cons_self (by decide +kernel) ?_
        walk_at "E"
        intro p hp
        walk_at "E"
        refine Ev.isc1 false List.mem_cons_self (by decide +kernel) ?_
        walk_at "E"
        have fr : ∀ z, M1 z ≠ none → mset (mset M1 p (Cell.lst [D.bl false, D.bl true, D.bl false])) p (Cell.lst ([D.bl false, D.bl true, D.bl false] ++ [D.bl false])) z = M1 z := fun z hz => by
          have zp : z ≠ p := fun e => hz (by rw [e]; exact hp)
          rw [mset_ne zp, mset_ne zp]
        have hp2 : mset (mset M1 p (Cell.lst [D.bl false, D.bl true, D.bl false])) p (Cell.lst ([D.bl false, D.bl true, D.bl false] ++ [D.bl false])) p = some (.lst ([false, true, false, false].map D.bl)) := mset_same
        generalize mset (mset M1 p (Cell.lst [D.bl false, D.bl true, D.bl false])) p (Cell.lst ([D.bl false, D.bl true, D.bl false] ++ [D.bl false])) = M2 at fr hp2 ⊢
        refine m_cntb hp2 ?_
        walk_at "E"
        refine Ev.isc1 true List.mem_cons_self (by decide +kernel) ?_
        walk_at "E"
        refine x_idb (k := 1) hp2 (by decide +kernel) ?_
        walk_at "E"
        exact x_L (at_pos rfl rfl) (q M2 fr)
      · split at hw
        · rename_i e
          subst e
          cases hw
          refine Ev.got (List.mem_cons_of_mem _ List.mem_cons_self) (by decide +kernel) (by simp) ?_
          show wpSs _ _ _ [some (.thk v cc qq l ws), some (.exc mucX.nm), none, none] _ _
          walk_at "E"
          rw [show isNon (.exc mucX.nm) = false from rfl]
          walk_at "E"
          refine Ev.isc1 false (List.mem_cons_of_mem _ List.mem_cons_self) (by decide +kernel) ?_
          walk_at "E"
          refine Ev.isc1 true (List.mem_cons_of_mem _ List.mem_cons_self) (by decide +kernel) ?_
          walk_at "E"
          refine Ev.isc1 false (List.mem_cons_of_mem _ List.mem_cons_self) (by decide +kernel) ?_
          walk_at "E"
          refine Ev.isc1 false (List.mem_cons_of_mem _ List.mem_cons_self) (by decide +kernel) ?_
          walk_at "E"
          intro p hp
          walk_at "E"
          refine Ev.isc1 false (List.mem_cons_of_mem _ List.mem_cons_self) (by decide +kernel) ?_
          walk_at "E"
          have fr : ∀ z, M1 z ≠ none → mset (mset M1 p (Cell.lst [D.bl true, D.bl false, D.bl false])) p (Cell.lst ([D.bl true, D.bl false, D.bl false] ++ [D.bl false])) z = M1 z := fun z hz => by
            have zp : z ≠ p := fun e => hz (by rw [e]; exact hp)
            rw [mset_ne zp, mset_ne zp]
          have hp2 : mset (mset M1 p (Cell.lst [D.bl true, D.bl false, D.bl false])) p (Cell.lst ([D.bl true, D.bl false, D.bl false] ++ [D.bl false])) p = some (.lst ([true, false, false, false].map D.bl)) := mset_same
          generalize mset (mset M1 p (Cell.lst [D.bl true, D.bl false, D.bl false])) p (Cell.lst ([D.bl true, D.bl false, D.bl false] ++ [D.bl false])) = M2 at fr hp2 ⊢
          refine m_cntb hp2 ?_
          walk_at "E"
          refine Ev.isc1 true (List.mem_cons_of_mem _ List.mem_cons_self) (by decide +kernel) ?_
          walk_at "E"
          refine x_idb (k := 0) hp2 (by decide +kernel) ?_
          walk_at "E"
          exact x_L (at_pos rfl rfl) (q M2 fr)
        · split at hw
          · rename_i e
            subst e
            cases hw
            refine Ev.got (List.mem_cons_of_mem _ (List.mem_cons_of_mem _ List.mem_cons_self)) (by decide +kernel) (by simp) ?_
            show wpSs _ _ _ [some (.thk v cc qq l ws), some (.exc lonX.nm), none, none] _ _
            walk_at "E"
            rw [show isNon (.exc lonX.nm) = false from rfl]
            walk_at "E"
            refine Ev.isc1 false (List.mem_cons_of_mem _ (List.mem_cons_of_mem _ List.mem_cons_self)) (by decide +kernel) ?_
            walk_at "E"
            refine Ev.isc1 false (List.mem_cons_of_mem _ (List.mem_cons_of_mem _ List.mem_cons_self)) (by decide +kernel) ?_
            walk_at "E"
            refine Ev.isc1 false (List.mem_cons_of_mem _ (List.mem_cons_of_mem _ List.mem_cons_self)) (by decide +kernel) ?_
            walk_at "E"
            refine Ev.isc1 false (List.mem_cons_of_mem _ (List.mem_cons_of_mem _ List.mem_cons_self)) (by decide +kernel) ?_
            walk_at "E"
            intro p hp
            walk_at "E"
            refine Ev.isc1 true (List.mem_cons_of_mem _ (List.mem_cons_of_mem _ List.mem_cons_self)) (by decide +kernel) ?_
            walk_at "E"
            have fr : ∀ z, M1 z ≠ none → mset (mset M1 p (Cell.lst [D.bl false, D.bl false, D.bl false])) p (Cell.lst ([D.bl false, D.bl false, D.bl false] ++ [D.bl true])) z = M1 z := fun z hz => by
              have zp : z ≠ p := fun e => hz (by rw [e]; exact hp)
              rw [mset_ne zp, mset_ne zp]
            have hp2 : mset (mset M1 p (Cell.lst [D.bl false, D.bl false, D.bl false])) p (Cell.lst ([D.bl false, D.bl false, D.bl false] ++ [D.bl true])) p = some (.lst ([false, false, false, true].map D.bl)) := mset_same
            generalize mset (mset M1 p (Cell.lst [D.bl false, D.bl false, D.bl false])) p (Cell.lst ([D.bl false, D.bl false, D.bl false] ++ [D.bl true])) = M2 at fr hp2 ⊢
            refine m_cntb hp2 ?_
            walk_at "E"
            refine Ev.isc1 true (List.mem_cons_of_mem _ (List.mem_cons_of_mem _ List.mem_cons_self)) (by decide +kernel) ?_
            walk_at "E"
            refine x_idb (k := 3) hp2 (by decide +kernel) ?_
            walk_at "E"
            exact x_L (at_pos rfl rfl) (q M2 fr)
          · split at hw
            · rename_i e
              subst e
              cases hw
              refine Ev.got (List.mem_cons_of_mem _ (List.mem_cons_of_mem _ (List.mem_cons_of_mem _ List.mem_cons_self))) (by decide +kernel) (by simp) ?_
              show wpSs _ _ _ [some (.thk v cc qq l ws), some (.exc bacX.nm), none, none] _ _
              walk_at "E"
              rw [show isNon (.exc bacX.nm) = false from rfl]
              walk_at "E"
              refine Ev.isc1 false (List.mem_cons_of_mem _ (List.mem_cons_of_mem _ (List.mem_cons_of_mem _ List.mem_cons_self))) (by decide +kernel) ?_
              walk_at "E"
              refine Ev.isc1 false (List.mem_cons_of_mem _ (List.mem_cons_of_mem _ (List.mem_cons_of_mem _ List.mem_cons_self))) (by decide +kernel) ?_
              walk_at "E"
              refine Ev.isc1 false (List.mem_cons_of_mem _ (List.mem_cons_of_mem _ (List.mem_cons_of_mem _ List.mem_cons_self))) (by decide +kernel) ?_
              walk_at "E"
              refine Ev.isc1 true (List.mem_cons_of_mem _ (List.mem_cons_of_mem _ (List.mem_cons_of_mem _ List.mem_cons_self))) (by decide +kernel) ?_
              walk_at "E"
              intro p hp
              walk_at "E"
              refine Ev.isc1 false (List.mem_cons_of_mem _ (List.mem_cons_of_mem _ (List.mem_cons_of_mem _ List.mem_cons_self))) (by decide +kernel) ?_
              walk_at "E"
              have fr : ∀ z, M1 z ≠ none → mset (mset M1 p (Cell.lst [D.bl false, D.bl false, D.bl true])) p (Cell.lst ([D.bl false, D.bl false, D.bl true] ++ [D.bl false])) z = M1 z := fun z hz => by
                have zp : z ≠ p := fun e => hz (by rw [e]; exact hp)
                rw [mset_ne zp, mset_ne zp]
              have hp2 : mset (mset M1 p (Cell.lst [D.bl false, D.bl false, D.bl true])) p (Cell.lst ([D.bl false, D.bl false, D.bl true] ++ [D.bl false])) p = some (.lst ([false, false, true, false].map D.bl)) := mset_same
              generalize mset (mset M1 p (Cell.lst [D.bl false, D.bl false, D.bl true])) p (Cell.lst ([D.bl false, D.bl false, D.bl true] ++ [D.bl false])) = M2 at fr hp2 ⊢
              refine m_cntb hp2 ?_
              walk_at "E"
              refine Ev.isc1 true (List.mem_cons_of_mem _ (List.mem_cons_of_mem _ (List.mem_cons_of_mem _ List.mem_cons_self))) (by decide +kernel) ?_
              walk_at "E"
              refine x_idb (k := 2) hp2 (by decide +kernel) ?_
              walk_at "E"
              exact x_L (at_pos rfl rfl) (q M2 fr)
            · cases hw
  · rcases hd with ⟨d', e, q⟩ | ⟨x', w, e, _⟩
    · cases e
      walk_at "E"
      exact q
    · cases e

/-- what is no whole number from 0 on -/
def sp_law_odd : SpD := fun ds M X Q => ∃ p k, ds = [.ref p] ∧ PenM M p (k + 2) ∧ ∀ d M', Pl d → numB d = false → PenM M' p k → (∀ z, z ≠ p → M' z = M z) → Q d M'
theorem len_law_odd (ds : List D) (M : Mh) (X : XD) (Q : QD) (h : sp_law_odd ds M X Q) : ds.length = ["pen"].length := by obtain ⟨_, _, rfl, _⟩ := h; rfl
theorem hb_law_odd (as : List D) (M : Mh) (X : XD) (Q : QD) (h : sp_law_odd as M X Q) : wpSs (tabG [sp_law_take]) (tabC []) b_law_odd (startD S_law_odd.N.length as) M (endsF Q X) := by
  obtain ⟨p, k, rfl, hp, q⟩ := h
  unfold b_law_odd endsF; change wpSs _ _ _ [some _, none] _ _
  walk_at "E"
  refine ⟨p, 9, k + 1, rfl, by decide, by decide, hp, fun w M1 w0 w1 hp f1 => ?_⟩
  walk_at "E"
  refine ⟨p, 10, k, rfl, by decide, by decide, hp, fun v M2 v0 v1 hp f2 => ?_⟩
  have all : ∀ d ∈ [D.non, D.bl true, D.bl false, D.str (Str.ofString "1"), D.int (-1), D.lst [D.int 1], D.tup [D.int 1], D.dct [] [], D.int (0 - 100000000000000000000000000000 - w), D.str (Str.ofString "")], Pl d ∧ numB d = false := by
    intro d hd
    simp only [List.mem_cons, List.not_mem_nil, or_false] at hd
    rcases hd with rfl | rfl | rfl | rfl | rfl | rfl | rfl | rfl | rfl | rfl
    all_goals first | exact ⟨trivial, rfl⟩ | exact ⟨trivial, decide_eq_false (by omega)⟩
  have hl : v.toNat < [D.non, D.bl true, D.bl false, D.str (Str.ofString "1"), D.int (-1), D.lst [D.int 1], D.tup [D.int 1], D.dct [] [], D.int (0 - 100000000000000000000000000000 - w), D.str (Str.ofString "")].length := by
    show v.toNat < 10
    omega
  refine x_L (at_pos (n := v.toNat) (List.getElem?_eq_getElem hl) (by omega)) ?_
  obtain ⟨a1, a2⟩ := all _ (List.getElem_mem hl)
  exact q _ M2 a1 a2 hp fun z hz => (f2 z hz).trans (f1 z hz)
def sp_law_stands : SpD := fun ds M X Q => ∃ m x y c a b r T n, ds = [.ref m, cvD a b r, .ref c] ∧ Mt M m x y a b r T n ∧ M c = some (.lst (il T)) ∧ (c ≠ x ∧ c ≠ y ∧ c ≠ m) ∧ 0 < T.length ∧ T.length ≤ 420 ∧ n ≤ 1000 ∧ ∀ M' n', Mt M' m x y a b r T n' → n' ≤ 1000 → (∀ z, M z ≠ none → z ≠ y → M' z = M z) → Q (.bl true) M'
theorem len_law_stands (ds : List D) (M : Mh) (X : XD) (Q : QD) (h : sp_law_stands ds M X Q) : ds.length = ["meter", "f", "counts"].length := by obtain ⟨_, _, _, _, _, _, _, _, _, rfl, _⟩ := h; rfl
theorem hb_law_stands (as : List D) (M : Mh) (X : XD) (Q : QD) (h : sp_law_stands as M X Q) : wpSs (tabG [sp_Meter_told, sp_Meter_leave, sp_law_leave]) (tabC []) b_law_stands (startD S_law_stands.N.length as) M (endsF Q X) := by
  obtain ⟨m, x, y, c, a, b, r, T, n, rfl, mt, hc, ⟨cx, cy, cm⟩, T0, T1, n1, q⟩ := h
  have hm := mt.hm
  unfold b_law_stands endsF; change wpSs _ _ _ [some _, some _, some _, none] _ _
  walk_at "E"
  refine ⟨m, x, y, a, b, r, T, n, rfl, mt, T0, by omega, fun p M1 hp hp1 fr1 => ?_⟩
  have ne : ∀ z, M z ≠ none → z ≠ p := fun z hz e => hz (by rw [e]; exact hp)
  have pm := ne m (by rw [mt.hm]; simp)
  have pxx := ne x (by rw [mt.hx]; simp)
  have pyy := ne y (by rw [mt.hy]; simp)
  have pc := ne c (by rw [hc]; simp)
  have mt1 := mt.keep (M' := M1) fun z hz => fr1 z (by rcases hz with rfl | rfl | rfl; exact pm; exact pxx; exact pyy)
  have hc1 : M1 c = some (.lst (il T)) := (fr1 c pc).trans hc
  have hm1 := mt1.hm
  walk_at "E"
  refine Ev.comp_il (fun (t : Nat) => gt T (1 + t) - gt T t) (by rw [rngL_len]; omega) (· = M1) rfl ?_ ?_
  · rintro i m2 d hd rfl Qn Kf hq
    obtain ⟨rfl, hi⟩ := rngL_get hd
    walk_at "E"
    rw [show (1 : Int) + i - 1 = i by omega]
    exact hq _ rfl
  rintro m2 rfl
  rw [rngL_len, show ((T.length : Int) - 1).toNat = T.length - 1 by omega]
  walk_at "E"
  refine c_neL (l := stL T) (r := stL T) (by simp only [view, hp1]) rfl ?_
  rw [decide_eq_true rfl, Bool.not_true]
  walk_at "E"
  refine ⟨m, x, y, a, b, r, T, n, rfl, mt1, T0, by omega, n1, fun M2 n2 mt2 n2' fr2 => ?_⟩
  have hc2 : M2 c = some (.lst (il T)) := (fr2 c cy).trans hc1
  walk_at "E"
  refine ⟨a, b, r, c, T, rfl, hc2, T0, by omega, mt.b0, mt.b1, by have := mt.a1; omega, ?_⟩
  walk_at "E"
  rw [decide_eq_true rfl]
  refine q M2 n2 mt2 (by omega) fun z hz zy => ?_
  have zp := ne z hz
  rw [fr2 z zy, fr1 z zp]
theorem Mt.non {M : Mh} {m x y : Addr} {a b : List Int} {r : Int} {T : List Int} {n : Nat} (h : Mt M m x y a b r T n) : ∀ z, z = m ∨ z = x ∨ z = y → M z ≠ none := fun z hz => by
  rcases hz with rfl | rfl | rfl
  · rw [h.hm]; simp
  · rw [h.hx]; simp
  · rw [h.hy]; simp
/-- the words of refused tellings -/
theorem w_much {W : SpD} (hW : W = sp_law_word) {M : Mh} {Q : QD} {m x y : Addr} {a b : List Int} {r : Int} {T : List Int} {n : Nat} {k : Int} (mt : Mt M m x y a b r T n) (T0 : 0 < T.length) (T1 : T.length ≤ 400) (n1 : n ≤ 1000) (k0 : 0 ≤ k) (h : lv (val a b r) T < k) (q : ∀ M' n', Mt M' m x y a b r T n' → n' ≤ 1000 → (∀ z, M z ≠ none → z ≠ y → M' z = M z) → Q (.str (Str.ofString "much")) M') :
    sp_Meter_come [.ref m, .int k] M (fun x M1 => W [.exc x.nm, .non] M1 (fun _ _ => False) Q) (fun d M1 => W [d] M1 (fun _ _ => False) Q) := by
  subst hW
  refine ⟨m, x, y, a, b, r, T, n, _, rfl, mt, trivial, T0, by omega, n1, (fun z => absurd (of_decide_eq_false z) (by omega)), fun k' e _ => ?_⟩
  cases e
  refine ⟨fun z => by omega, fun _ => ⟨fun _ M1 n' mt1 n1' fr => .inr ⟨mucX.nm, Str.ofString "much", rfl, by decide +kernel, fun M2 f2 => ?_⟩, fun z => by omega⟩⟩
  refine q M2 n' (mt1.keep fun z hz => f2 z (mt1.non z hz)) n1' fun z hz zy => ?_
  have e := fr z zy
  rw [f2 z (by rw [e]; exact hz), e]
theorem w_strC {W : SpD} (hW : W = sp_law_word) {M : Mh} {Q : QD} {m x y : Addr} {a b : List Int} {r : Int} {T : List Int} {n : Nat} {d : D} (mt : Mt M m x y a b r T n) (T0 : 0 < T.length) (T1 : T.length ≤ 401) (n1 : n ≤ 1000) (hp : Pl d) (hn : numB d = false) (q : ∀ M', (∀ z, M z ≠ none → M' z = M z) → Q (.str (Str.ofString "stream")) M') :
    sp_Meter_come [.ref m, d] M (fun x M1 => W [.exc x.nm, .non] M1 (fun _ _ => False) Q) (fun d M1 => W [d] M1 (fun _ _ => False) Q) := by
  subst hW
  refine ⟨m, x, y, a, b, r, T, n, _, rfl, mt, hp, T0, T1, n1, (fun _ => .inr ⟨strX.nm, Str.ofString "stream", rfl, by decide +kernel, q⟩), fun k' e k0 => ?_⟩
  subst e
  exact absurd (of_decide_eq_false hn) (by omega)
theorem w_strR {W : SpD} (hW : W = sp_law_word) {M : Mh} {Q : QD} {m x y : Addr} {a b : List Int} {r : Int} {T : List Int} {n : Nat} {d : D} (mt : Mt M m x y a b r T n) (T0 : 0 < T.length) (T1 : T.length ≤ 401) (n1 : n ≤ 1000) (hp : Pl d) (hn : numB d = false) (q : ∀ M', (∀ z, M z ≠ none → M' z = M z) → Q (.str (Str.ofString "stream")) M') :
    sp_Meter_rest [.ref m, d] M (fun x M1 => W [.exc x.nm, .non] M1 (fun _ _ => False) Q) (fun d M1 => W [d] M1 (fun _ _ => False) Q) := by
  subst hW
  refine ⟨m, x, y, a, b, r, T, n, _, rfl, mt, hp, T0, T1, n1, (fun _ => .inr ⟨strX.nm, Str.ofString "stream", rfl, by decide +kernel, q⟩), fun k' e k0 => ?_⟩
  subst e
  exact absurd (of_decide_eq_false hn) (by omega)
theorem w_lonR {W : SpD} (hW : W = sp_law_word) {M : Mh} {Q : QD} {m x y : Addr} {a b : List Int} {r : Int} {T : List Int} {n : Nat} {k : Int} (mt : Mt M m x y a b r T n) (T0 : 0 < T.length) (T1 : T.length ≤ 401) (n1 : n ≤ 1000) (k0 : 0 ≤ k) (h : 401 < (T.length : Int) + k) (q : ∀ M', (∀ z, M z ≠ none → M' z = M z) → Q (.str (Str.ofString "long")) M') :
    sp_Meter_rest [.ref m, .int k] M (fun x M1 => W [.exc x.nm, .non] M1 (fun _ _ => False) Q) (fun d M1 => W [d] M1 (fun _ _ => False) Q) := by
  subst hW
  refine ⟨m, x, y, a, b, r, T, n, _, rfl, mt, trivial, T0, T1, n1, (fun z => absurd (of_decide_eq_false z) (by omega)), fun k' e _ => ?_⟩
  cases e
  exact ⟨fun _ => .inr ⟨lonX.nm, Str.ofString "long", rfl, by decide +kernel, q⟩, fun z => by omega⟩
theorem w_lonC {W : SpD} (hW : W = sp_law_word) {M : Mh} {Q : QD} {m x y : Addr} {a b : List Int} {r : Int} {T : List Int} {n : Nat} {k : Int} (mt : Mt M m x y a b r T n) (T0 : 400 < T.length) (T1 : T.length ≤ 401) (n1 : n ≤ 1000) (k0 : 0 ≤ k) (q : ∀ M', (∀ z, M z ≠ none → M' z = M z) → Q (.str (Str.ofString "long")) M') :
    sp_Meter_come [.ref m, .int k] M (fun x M1 => W [.exc x.nm, .non] M1 (fun _ _ => False) Q) (fun d M1 => W [d] M1 (fun _ _ => False) Q) := by
  subst hW
  refine ⟨m, x, y, a, b, r, T, n, _, rfl, mt, trivial, by omega, T1, n1, (fun z => absurd (of_decide_eq_false z) (by omega)), fun k' e _ => ?_⟩
  cases e
  exact ⟨fun _ => .inr ⟨lonX.nm, Str.ofString "long", rfl, by decide +kernel, q⟩, fun z => by omega⟩
theorem w_back {W : SpD} (hW : W = sp_law_word) {M : Mh} {Q : QD} {m x y : Addr} {a b : List Int} {r : Int} {T : List Int} {n : Nat} (mt : Mt M m x y a b r T n) (T1 : T.length = 1) (q : ∀ M', (∀ z, M z ≠ none → M' z = M z) → Q (.str (Str.ofString "back")) M') :
    sp_Meter_back [.ref m] M (fun x M1 => W [.exc x.nm, .non] M1 (fun _ _ => False) Q) (fun d M1 => W [d] M1 (fun _ _ => False) Q) := by
  subst hW
  exact ⟨m, x, y, a, b, r, T, n, rfl, mt, by omega, by omega, fun _ => .inr ⟨bacX.nm, Str.ofString "back", rfl, by decide +kernel, q⟩, fun z => by omega⟩
def sp_law_refused : SpD := fun ds M X Q => ∃ p m x y c a b r T n k, ds = [.ref p, .ref m, cvD a b r, .ref c] ∧ PenM M p (k + 10) ∧ (p ≠ x ∧ p ≠ y ∧ p ≠ c ∧ p ≠ m) ∧ Mt M m x y a b r T n ∧ M c = some (.lst (il T)) ∧ (c ≠ x ∧ c ≠ y ∧ c ≠ m) ∧ Fo (val a b r) ∧ Kp (val a b r) T ∧ T.length ≤ 390 ∧ n ≤ 1000 ∧ ∀ M' T' n', PenM M' p k → Mt M' m x y a b r T' n' → M' c = some (.lst (il T')) → Kp (val a b r) T' → T'.length ≤ T.length + 1 → n' ≤ 1000 → Q (.bl true) M'
theorem len_law_refused (ds : List D) (M : Mh) (X : XD) (Q : QD) (h : sp_law_refused ds M X Q) : ds.length = ["pen", "meter", "f", "counts"].length := by obtain ⟨_, _, _, _, _, _, _, _, _, _, _, rfl, _⟩ := h; rfl
theorem hb_law_refused (as : List D) (M : Mh) (X : XD) (Q : QD) (h : sp_law_refused as M X Q) : wpSs (tabG [sp_law_take, sp_law_odd, sp_law_leave, sp_law_word, sp_Meter_come, sp_Meter_rest, sp_Meter_back, sp_law_stands]) (tabC []) b_law_refused (startD S_law_refused.N.length as) M (endsF Q X) := by
  obtain ⟨p, m, x, y, c, a, b, r, T, n, k, rfl, hp, ⟨px, py, pc, pm⟩, mt, hc, ⟨cx, cy, cm⟩, fo, kp, T1, n1, q⟩ := h
  have nz : ∀ z, z = m ∨ z = x ∨ z = y → z ≠ c := by
    intro z hz e
    rcases hz with hz | hz | hz
    · exact cm (e.symm.trans hz)
    · exact cx (e.symm.trans hz)
    · exact cy (e.symm.trans hz)
  have T0 := kp.len
  unfold b_law_refused endsF; change wpSs _ _ _ [some _, some _, some _, some _, none, none, none, none, none, none] _ _
  walk_at "E"
  refine ⟨p, 6, k + 9, rfl, by decide, by decide, hp, fun way M1 w0 w1 hp f1 => ?_⟩
  walk_at "E"
  refine ⟨p, 3, k + 8, rfl, by decide, by decide, hp, fun lk M2 p0 p1 hp f2 => ?_⟩
  walk_at "E"
  refine ⟨p, 5, k + 7, rfl, by decide, by decide, hp, fun w M3 w20 w21 hp f3 => ?_⟩
  refine x_Li (l := [0, 0, 1, 7, 10000000000000000000000000000]) w20 (by show w < ((5 : Nat) : Int); omega) ?_
  have gm := gt_bd (l := [0, 0, 1, 7, 10000000000000000000000000000]) (lo := 0) (hi := 10000000000000000000000000000) w20 (by show w < ((5 : Nat) : Int); omega) (by decide)
  generalize gt [0, 0, 1, 7, 10000000000000000000000000000] w = far at gm ⊢
  walk_at "E"
  refine ⟨p, k + 5, rfl, hp.to (by omega), fun odd M4 po no hp f4 => ?_⟩
  have fr : ∀ z, z ≠ p → M4 z = M z := fun z hz => (f4 z hz).trans ((f3 z hz).trans ((f2 z hz).trans (f1 z hz)))
  have mt := mt.keep (M' := M4) fun z hz => fr z (by rcases hz with rfl | rfl | rfl; exact Ne.symm pm; exact Ne.symm px; exact Ne.symm py)
  have hc : M4 c = some (.lst (il T)) := (fr c (Ne.symm pc)).trans hc
  have hm := mt.hm
  clear f1 f2 f3 f4 fr
  walk_at "E"
  refine ⟨a, b, r, c, T, rfl, hc, T0, by omega, mt.b0, mt.b1, by have := mt.a1; omega, ?_⟩
  have v0 := kp.lv0 fo
  walk_at "I"
  refine Ev.s_J (fun e m' => e = [some (.ref p), some (.ref m), some (cvD a b r), some (.ref c), some (.int way), some (.int lk), some (.int far), some odd, some (.int (lv (val a b r) T)), none] ∧ PenM m' p (k + 5) ∧ m' c = some (.lst (il T)) ∧ ∃ n', Mt m' m x y a b r T n' ∧ n' ≤ 1000) ?_ fun nn hnn => ?_
  · rintro e m' ⟨rfl, hp, hc, n, mt, n1⟩
    have hm := mt.hm
    walk_at "I"
    refine Ev.s_J (fun e m' => e = [some (.ref p), some (.ref m), some (cvD a b r), some (.ref c), some (.int way), some (.int lk), some (.int far), some odd, some (.int (lv (val a b r) T)), none] ∧ PenM m' p (k + 5) ∧ m' c = some (.lst (il T)) ∧ ∃ n', Mt m' m x y a b r T n' ∧ n' ≤ 1000) ?_ fun nn hnn => ?_
    · rintro e m' ⟨rfl, hp, hc, n, mt, n1⟩
      have hm := mt.hm
      walk_at "I"
      refine Ev.s_J (fun e m' => e = [some (.ref p), some (.ref m), some (cvD a b r), some (.ref c), some (.int way), some (.int lk), some (.int far), some odd, some (.int (lv (val a b r) T)), none] ∧ PenM m' p (k + 5) ∧ m' c = some (.lst (il T)) ∧ ∃ n', Mt m' m x y a b r T n' ∧ n' ≤ 1000) ?_ fun nn hnn => ?_
      · rintro e m' ⟨rfl, hp, hc, n, mt, n1⟩
        have hm := mt.hm
        walk_at "I"
        refine Ev.s_J (fun e m' => e = [some (.ref p), some (.ref m), some (cvD a b r), some (.ref c), some (.int way), some (.int lk), some (.int far), some odd, some (.int (lv (val a b r) T)), none] ∧ PenM m' p (k + 5) ∧ m' c = some (.lst (il T)) ∧ ∃ n', Mt m' m x y a b r T n' ∧ n' ≤ 1000) ?_ fun nn hnn => ?_
        · rintro e m' ⟨rfl, hp, hc, n, mt, n1⟩
          have hm := mt.hm
          walk_at "I"
          refine Ev.s_J (fun e m' => ∃ T', (∃ e9 : Option D, e = [some (.ref p), some (.ref m), some (cvD a b r), some (.ref c), some (.int way), some (.int lk), some (.int far), some odd, some (.int (lv (val a b r) T)), e9]) ∧ (3 < way → T' = T) ∧ PenM m' p (k + 5) ∧ m' c = some (.lst (il T')) ∧ Kp (val a b r) T' ∧ T'.length ≤ T.length ∧ ∃ n', Mt m' m x y a b r T' n' ∧ n' ≤ 1000) ?_ fun nn hnn => ?_
          · rintro e m' ⟨T', ⟨e9, rfl⟩, hT', hp, hc, kp', l', n, mt, n1⟩
            have hm := mt.hm
            walk_at "I"
            refine Ev.s_J (fun e m' => ∃ T', (∃ e9 : Option D, e = [some (.ref p), some (.ref m), some (cvD a b r), some (.ref c), some (.int way), some (.int lk), some (.int far), some odd, some (.int (lv (val a b r) T)), e9]) ∧ PenM m' p (k + 5) ∧ m' c = some (.lst (il T')) ∧ Kp (val a b r) T' ∧ T'.length ≤ T.length + 1 ∧ ∃ n', Mt m' m x y a b r T' n' ∧ n' ≤ 1000) ?_ fun nn hnn => ?_
            · rintro e m' ⟨T', ⟨e9, rfl⟩, hp, hc, kp', l', n, mt, n1⟩
              have hm := mt.hm
              walk_at "E"
              split
              · walk_at "E"
                refine ⟨m, x, y, c, a, b, r, T', n, rfl, mt, hc, ⟨cx, cy, cm⟩, kp'.len, by omega, n1, fun M6 n6 mt6 n6' fr6 => ?_⟩
                exact q M6 T' n6 ((hp.keep (fr6 p hp.some py)).to (by omega)) mt6 ((fr6 c (by rw [hc]; simp) cy).trans hc) kp' l' n6'
              · rename_i h
                rw [Bool.not_eq_false] at h
                rw [h]
                exact q _ T' n (hp.to (by omega)) mt hc kp' l' n1
            · walk_at "E"
              refine if_d (fun h => ?_) (fun h => ?_)
              · have e := (hT' h).symm
                subst e
                have lb : 0 ≤ lv (val a b r) T * (5 - way) ∧ lv (val a b r) T * (5 - way) ≤ lv (val a b r) T := by
                  rcases (show way = 4 ∨ way = 5 by omega) with rfl | rfl
                  · rw [show (5 : Int) - 4 = 1 by decide, Int.mul_one]
                    omega
                  · rw [show (5 : Int) - 5 = 0 by decide, Int.mul_zero]
                    omega
                walk_at "E"
                generalize hk2 : lv (val a b r) T * (5 - way) = k2 at lb ⊢
                have l2 : (T ++ [gt T (-1 + T.length) + k2]).length = T.length + 1 := by simp
                have kp2 := kp.come fo lb.1 lb.2
                have mt5 := mt.keep (M' := mset m' c (Cell.lst (il (T ++ [gt T (-1 + T.length) + k2])))) fun z hz => mset_ne (nz z hz)
                have hc5 : mset m' c (Cell.lst (il (T ++ [gt T (-1 + T.length) + k2]))) c = some (.lst (il (T ++ [gt T (-1 + T.length) + k2]))) := mset_same
                have hp5 := hp.keep (M' := mset m' c (Cell.lst (il (T ++ [gt T (-1 + T.length) + k2])))) (mset_ne pc)
                generalize mset m' c (Cell.lst (il (T ++ [gt T (-1 + T.length) + k2]))) = M5 at *
                have hm5 := mt5.hm
                walk_at "E"
                rw [hk2]
                refine ⟨m, x, y, a, b, r, T, n, .int k2, rfl, mt5, trivial, T0, by omega, n1, (fun z => absurd (of_decide_eq_false z) (by omega)), fun k' e _ => ?_⟩
                cases e
                refine ⟨fun z => by omega, fun _ => ⟨fun z => by omega, fun _ M6 n6 mt6 n6' fr6 => ?_⟩⟩
                have hc6 : M6 c = some (.lst (il (T ++ [gt T (-1 + T.length) + k2]))) := (fr6 c cx cy).trans hc5
                have hp6 := hp5.keep (fr6 p px py)
                walk_at "E"
                refine ⟨a, b, r, c, _, rfl, hc6, by omega, by omega, mt.b0, mt.b1, by have := mt.a1; omega, ?_⟩
                walk_at "E"
                exact hnn _ _ ⟨_, ⟨_, rfl⟩, hp6, hc6, kp2, by omega, n6, mt6, n6'⟩
              · walk_at "E"
                exact hnn _ _ ⟨T', ⟨_, rfl⟩, hp, hc, kp', by omega, n, mt, n1⟩
          · walk_at "E"
            have no9 : nn [some (.ref p), some (.ref m), some (cvD a b r), some (.ref c), some (.int way), some (.int lk), some (.int far), some odd, some (.int (lv (val a b r) T)), none] m' := hnn _ _ ⟨T, ⟨_, rfl⟩, fun _ => rfl, hp, hc, kp, Nat.le_refl _, n, mt, n1⟩
            refine and_t (fun h => ?_) (fun h => ?_)
            · walk_at "E"
              have hw := of_decide_eq_true h
              refine and_t (fun h => ?_) (fun h => ?_)
              · have h := of_decide_eq_true h
                walk_at "E"
                refine m_popi hc (by omega) ?_
                have l2 : T.dropLast.length = T.length - 1 := List.length_dropLast
                have kp2 := kp.back (by omega)
                have mt5 := mt.keep (M' := mset m' c (Cell.lst (il T.dropLast))) fun z hz => mset_ne (nz z hz)
                have hc5 : mset m' c (Cell.lst (il T.dropLast)) c = some (.lst (il T.dropLast)) := mset_same
                have hp5 := hp.keep (M' := mset m' c (Cell.lst (il T.dropLast))) (mset_ne pc)
                generalize mset m' c (Cell.lst (il T.dropLast)) = M5 at *
                have hm5 := mt5.hm
                walk_at "E"
                refine ⟨m, x, y, a, b, r, T, n, rfl, mt5, T0, by omega, (fun z => by omega), fun _ M6 mt6 fr6 => ?_⟩
                have hc6 : M6 c = some (.lst (il T.dropLast)) := (fr6 c cx).trans hc5
                have hp6 := hp5.keep (fr6 p px)
                walk_at "E"
                exact hnn _ _ ⟨T.dropLast, ⟨_, rfl⟩, fun z => by omega, hp6, hc6, kp2, by omega, n, mt6, n1⟩
              · walk_at "E"
                exact no9
            · refine if_b (fun e => absurd e h) fun _ => ?_
              walk_at "E"
              exact no9
        · walk_at "E"
          refine and_t (fun h => ?_) (fun h => ?_)
          · walk_at "E"
            refine and_t (fun h => ?_) (fun h => ?_)
            · walk_at "E"
              refine w_back (by rfl) mt (by have := of_decide_eq_true h; omega) fun M5 f5 => ?_
              walk_at "E"
              exact hnn _ _ ⟨rfl, hp.keep (f5 _ hp.some), (f5 _ (by rw [hc]; simp)).trans hc, n, mt.keep fun z hz => f5 z (mt.non z hz), n1⟩
            · refine if_b (fun e => absurd e h) fun _ => ?_
              walk_at "E"
              exact hnn _ _ ⟨rfl, hp, hc, n, mt, n1⟩
          · refine if_b (fun e => absurd e h) fun _ => ?_
            walk_at "E"
            exact hnn _ _ ⟨rfl, hp, hc, n, mt, n1⟩
      · walk_at "E"
        refine and_t (fun h => ?_) (fun h => ?_)
        · walk_at "E"
          refine w_strR (by rfl) mt T0 (by omega) n1 po no fun M5 f5 => ?_
          walk_at "E"
          exact hnn _ _ ⟨rfl, hp.keep (f5 _ hp.some), (f5 _ (by rw [hc]; simp)).trans hc, n, mt.keep fun z hz => f5 z (mt.non z hz), n1⟩
        · refine if_b (fun e => absurd e h) fun _ => ?_
          walk_at "E"
          exact hnn _ _ ⟨rfl, hp, hc, n, mt, n1⟩
    · walk_at "E"
      refine and_t (fun h => ?_) (fun h => ?_)
      · walk_at "E"
        refine w_strC (by rfl) mt T0 (by omega) n1 po no fun M5 f5 => ?_
        walk_at "E"
        exact hnn _ _ ⟨rfl, hp.keep (f5 _ hp.some), (f5 _ (by rw [hc]; simp)).trans hc, n, mt.keep fun z hz => f5 z (mt.non z hz), n1⟩
      · refine if_b (fun e => absurd e h) fun _ => ?_
        walk_at "E"
        exact hnn _ _ ⟨rfl, hp, hc, n, mt, n1⟩
  · walk_at "E"
    refine and_t (fun h => ?_) (fun h => ?_)
    · walk_at "E"
      refine w_much (by rfl) mt T0 (by omega) n1 (by omega) (by omega) fun M5 n5 mt5 n5' f5 => ?_
      walk_at "E"
      exact hnn _ _ ⟨rfl, hp.keep (f5 _ hp.some py), (f5 _ (by rw [hc]; simp) cy).trans hc, n5, mt5, n5'⟩
    · refine if_b (fun e => absurd e h) fun _ => ?_
      walk_at "E"
      exact hnn _ _ ⟨rfl, hp.to (by omega), hc, n, mt, n1⟩

/-- lists that are alike -/
theorem c_neD {M : Mh} {Q : QD} {w : Addr} {ds : List D} {v : PyData} (hw : M w = some (.lst ds)) (e3 : toPy (.lst ds) = some v) (sh : SeqAt.shaped v = true) (ev : PyData.eqv v v = true) (q : Q (.bl false) M) : cmpD .NotEq (.ref w) (.lst ds) M Q := by
  unfold cmpD
  have e1 : view M (.ref w) = .lst ds := by simp only [view, hw]
  have e2 : view M (.lst ds) = .lst ds := rfl
  rw [e1, e2]
  show eqQ true (.lst ds) (.lst ds) M Q
  unfold eqQ
  simp only [e3]
  refine ⟨sh, sh, ?_⟩
  simpa [ev] using q
theorem c_eqD {M : Mh} {Q : QD} {w : Addr} {ds : List D} {v : PyData} (hw : M w = some (.lst ds)) (e3 : toPy (.lst ds) = some v) (sh : SeqAt.shaped v = true) (ev : PyData.eqv v v = true) (q : Q (.bl true) M) : cmpD .Eq (.ref w) (.lst ds) M Q := by
  unfold cmpD
  have e1 : view M (.ref w) = .lst ds := by simp only [view, hw]
  have e2 : view M (.lst ds) = .lst ds := rfl
  rw [e1, e2]
  show eqQ false (.lst ds) (.lst ds) M Q
  unfold eqQ
  simp only [e3]
  refine ⟨sh, sh, ?_⟩
  simpa [ev] using q
def wL : D := .str (Str.ofString "long")
def wS : D := .str (Str.ofString "stream")
theorem w3 : toPy (.lst [wL, wS, wS]) = some (.list [.str (Str.ofString "long"), .str (Str.ofString "stream"), .str (Str.ofString "stream")]) := by simp [toPy, toPys, wL, wS]
theorem w3s : SeqAt.shaped (.list [.str (Str.ofString "long"), .str (Str.ofString "stream"), .str (Str.ofString "stream")]) = true := by decide +kernel
theorem w3e : PyData.eqv (.list [.str (Str.ofString "long"), .str (Str.ofString "stream"), .str (Str.ofString "stream")]) (.list [.str (Str.ofString "long"), .str (Str.ofString "stream"), .str (Str.ofString "stream")]) = true := by decide +kernel
theorem wt2 : toPy (.lst [wL, wL]) = some (.list [.str (Str.ofString "long"), .str (Str.ofString "long")]) := by simp [toPy, toPys, wL]
theorem w2s : SeqAt.shaped (.list [.str (Str.ofString "long"), .str (Str.ofString "long")]) = true := by decide +kernel
theorem w2e : PyData.eqv (.list [.str (Str.ofString "long"), .str (Str.ofString "long")]) (.list [.str (Str.ofString "long"), .str (Str.ofString "long")]) = true := by decide +kernel
/-- a meter that stands, with its counts -/
structure Sd (M : Mh) (p m x y c : Addr) (a b : List Int) (r : Int) (T : List Int) (k : Nat) : Prop where
  hp : PenM M p k
  mt : ∃ n, Mt M m x y a b r T n ∧ n ≤ 1000
  hc : M c = some (.lst (il T))
theorem Sd.keep {M M' : Mh} {p m x y c : Addr} {a b : List Int} {r : Int} {T : List Int} {k : Nat} (h : Sd M p m x y c a b r T k) (f : ∀ z, M z ≠ none → M' z = M z) : Sd M' p m x y c a b r T k := by
  obtain ⟨hp, ⟨n, mt, n1⟩, hc⟩ := h
  exact ⟨hp.keep (f _ hp.some), ⟨n, mt.keep fun z hz => f z (mt.non z hz), n1⟩, (f _ (by rw [hc]; simp)).trans hc⟩
def sp_law_filled : SpD := fun ds M X Q => ∃ p m x y c a b r T k, ds = [.ref p, .ref m, cvD a b r, .ref c] ∧ Sd M p m x y c a b r T (k + 10) ∧ (p ≠ x ∧ p ≠ y ∧ p ≠ c ∧ p ≠ m) ∧ (c ≠ x ∧ c ≠ y ∧ c ≠ m) ∧ Fo (val a b r) ∧ Kp (val a b r) T ∧ T.length ≤ 390 ∧ ∀ M' T', Sd M' p m x y c a b r T' k → Kp (val a b r) T' → T'.length = 401 → Q (.bl true) M'
theorem len_law_filled (ds : List D) (M : Mh) (X : XD) (Q : QD) (h : sp_law_filled ds M X Q) : ds.length = ["pen", "meter", "f", "counts"].length := by obtain ⟨_, _, _, _, _, _, _, _, _, _, rfl, _⟩ := h; rfl
theorem hb_law_filled (as : List D) (M : Mh) (X : XD) (Q : QD) (h : sp_law_filled as M X Q) : wpSs (tabG [sp_law_take, sp_law_odd, sp_Meter_rest, sp_law_leave, sp_law_word, sp_Meter_come, sp_law_stands, sp_Meter_told]) (tabC []) b_law_filled (startD S_law_filled.N.length as) M (endsF Q X) := by
  obtain ⟨p, m, x, y, c, a, b, r, T, k, rfl, ⟨hp, ⟨n, mt, n1⟩, hc⟩, ⟨px, py, pc, pm⟩, ⟨cx, cy, cm⟩, fo, kp, T1, q⟩ := h
  have nz : ∀ z, z = m ∨ z = x ∨ z = y → z ≠ c := by
    intro z hz e
    rcases hz with hz | hz | hz
    · exact cm (e.symm.trans hz)
    · exact cx (e.symm.trans hz)
    · exact cy (e.symm.trans hz)
  have np : ∀ z, z = m ∨ z = x ∨ z = y → z ≠ p := by
    intro z hz e
    rcases hz with hz | hz | hz
    · exact pm (e.symm.trans hz)
    · exact px (e.symm.trans hz)
    · exact py (e.symm.trans hz)
  have T0 := kp.len
  have lb := mt.b0
  have lb1 := mt.b1
  have la1 := mt.a1
  unfold b_law_filled endsF; change wpSs _ _ _ [some _, some _, some _, some _, none, none, none, none, none, none, none, none, none] _ _
  walk_at "E"
  refine ⟨p, 2, k + 9, rfl, by decide, by decide, hp, fun lack M1 lk0 lk1 hp f1 => ?_⟩
  walk_at "E"
  refine ⟨p, 4, k + 8, rfl, by decide, by decide, hp, fun w M3 w20 w21 hp f3 => ?_⟩
  refine x_Li (l := [1, 2, 10, 100000000000000000000000000000]) w20 (by show w < ((4 : Nat) : Int); omega) ?_
  have gm := gt_bd (l := [1, 2, 10, 100000000000000000000000000000]) (lo := 1) (hi := 100000000000000000000000000000) w20 (by show w < ((4 : Nat) : Int); omega) (by decide)
  generalize gt [1, 2, 10, 100000000000000000000000000000] w = far at gm ⊢
  walk_at "E"
  refine ⟨p, k + 6, rfl, hp.to (by omega), fun odd M4 po no hp f4 => ?_⟩
  have fr : ∀ z, z ≠ p → M4 z = M z := fun z hz => (f4 z hz).trans ((f3 z hz).trans (f1 z hz))
  have mt := mt.keep (M' := M4) fun z hz => fr z (np z hz)
  have hc : M4 c = some (.lst (il T)) := (fr c (Ne.symm pc)).trans hc
  have hm := mt.hm
  clear f1 f3 f4 fr
  walk_at "E"
  refine ⟨m, x, y, a, b, r, T, n, .int (401 - T.length - lack), rfl, mt, trivial, T0, by omega, n1, (fun z => absurd (of_decide_eq_false z) (by omega)), fun k' e _ => ?_⟩
  cases e
  refine ⟨fun z => by omega, fun _ M5 n5 mt5 n5' fr5 => ?_⟩
  have hc5 : M5 c = some (.lst (il T)) := (fr5 c cx cy).trans hc
  have hp5 := hp.keep (fr5 p px py)
  have lk : (List.replicate (401 - T.length - lack).toNat (gt T (-1 + T.length))).length = (401 - T.length - lack).toNat := List.length_replicate
  walk_at "E"
  refine m_exi hc5 (by omega) ?_
  have l2 : (T ++ List.replicate (401 - T.length - lack).toNat (gt T (-1 + T.length))).length = T.length + (401 - T.length - lack).toNat := by rw [List.length_append, lk]
  have kp2 := kp.rest fo (401 - (T.length : Int) - lack).toNat
  generalize T ++ List.replicate (401 - T.length - lack).toNat (gt T (-1 + T.length)) = T2 at *
  have sd : Sd (mset M5 c (Cell.lst (il T2))) p m x y c a b r T2 (k + 6) := ⟨hp5.keep (mset_ne pc), ⟨n5, mt5.keep fun z hz => mset_ne (nz z hz), n5'⟩, mset_same⟩
  generalize mset M5 c (Cell.lst (il T2)) = M6 at sd ⊢
  clear hp hp5 hc hc5 mt mt5 fr5 hm n1 n5'
  have hc := sd.hc
  walk_at "E"
  refine ⟨a, b, r, c, T2, rfl, hc, kp2.len, by omega, lb, lb1, by omega, ?_⟩
  walk_at "E"
  intro wd hwd
  have sd2 : Sd (mset M6 wd (Cell.lst [])) p m x y c a b r T2 (k + 6) := sd.keep fun z hz => mset_ne fun e => hz (by rw [e]; exact hwd)
  have ne : ∀ z, M6 z ≠ none → z ≠ wd := fun z hz e => hz (by rw [e]; exact hwd)
  obtain ⟨hpq, ⟨nn0, mtq, nnq⟩, hcq⟩ := sd
  have wp := ne p hpq.some
  have wc := ne c (by rw [hcq]; simp)
  have wm := ne m (mtq.non m (.inl rfl))
  have wx := ne x (mtq.non x (.inr (.inl rfl)))
  have wy := ne y (mtq.non y (.inr (.inr rfl)))
  have hw2 : mset M6 wd (Cell.lst []) wd = some (.lst []) := mset_same
  generalize mset M6 wd (Cell.lst []) = M7 at sd2 hw2 ⊢
  clear hpq mtq nnq hcq ne hc hwd
  have swd : ∀ {M : Mh} {T : List Int} {k : Nat} {l : List D}, Sd M p m x y c a b r T k → Sd (mset M wd (Cell.lst l)) p m x y c a b r T k := fun {M T k l} h => by
    obtain ⟨h1, ⟨n, h2, h3⟩, h4⟩ := h
    exact ⟨h1.keep (mset_ne wp), ⟨n, h2.keep fun z hz => mset_ne (by rcases hz with rfl | rfl | rfl; exact wm; exact wx; exact wy), h3⟩, (mset_ne wc).trans h4⟩
  have tl : (T2.length : Int) = 401 - lack := by omega
  walk_at "E"
  refine Ev.for_ok (fun i e m' => (∃ e10 : Option D, e = [some (.ref p), some (.ref m), some (cvD a b r), some (.ref c), some (.int lack), some (.int far), some odd, some (.int (401 - T.length - lack)), some (.int (lv (val a b r) T2)), some (.ref wd), e10, none, none]) ∧ Sd m' p m x y c a b r T2 (k + 6) ∧ m' wd = some (.lst ([wL, wS].take i))) ⟨⟨_, rfl⟩, sd2, hw2⟩ ?_ ?_
  · rintro i e m' Kn hk d hd ⟨⟨e10, rfl⟩, sd, hw⟩
    obtain ⟨n, mt, n1⟩ := sd.mt
    have hm := mt.hm
    rcases (show i = 0 ∨ i = 1 by have := (List.getElem?_eq_some_iff.mp hd).1; simp at this; omega) with rfl | rfl
    · cases hd
      have hw : m' wd = some (.lst []) := hw
      walk_at "E"
      refine w_lonR (by rfl) mt kp2.len (by omega) n1 (by omega) (by omega) fun M8 f8 => ?_
      have hw8 : M8 wd = some (.lst []) := (f8 wd (by rw [hw]; simp)).trans hw
      walk_at "E"
      exact hk _ _ ⟨⟨_, rfl⟩, swd (sd.keep f8), mset_same⟩
    · cases hd
      have hw : m' wd = some (.lst [wL]) := hw
      walk_at "E"
      refine w_strR (by rfl) mt kp2.len (by omega) n1 po no fun M8 f8 => ?_
      have hw8 : M8 wd = some (.lst [wL]) := (f8 wd (by rw [hw]; simp)).trans hw
      walk_at "E"
      exact hk _ _ ⟨⟨_, rfl⟩, swd (sd.keep f8), mset_same⟩
  · rintro e m' ⟨⟨e10, rfl⟩, sd, hw⟩
    obtain ⟨n, mt, n1⟩ := sd.mt
    have hm := mt.hm
    have hw : m' wd = some (.lst [wL, wS]) := hw
    walk_at "E"
    refine w_strC (by rfl) mt kp2.len (by omega) n1 po no fun M8 f8 => ?_
    have hw8 : M8 wd = some (.lst [wL, wS]) := (f8 wd (by rw [hw]; simp)).trans hw
    have sd8 := sd.keep f8
    walk_at "E"
    have hw9 : mset M8 wd (Cell.lst ([wL, wS] ++ [D.str (Str.ofString "stream")])) wd = some (.lst [wL, wS, wS]) := mset_same
    have sd9 := swd (l := [wL, wS] ++ [D.str (Str.ofString "stream")]) sd8
    refine c_neD (ds := [wL, wS, wS]) hw9 w3 w3s w3e ?_
    generalize mset M8 wd (Cell.lst ([wL, wS] ++ [D.str (Str.ofString "stream")])) = M9 at hw9 sd9 ⊢
    clear hw9 hw8 sd8 hw f8
    walk_at "I"
    refine Ev.s_J (fun e m' => ∃ T3, e = [some (.ref p), some (.ref m), some (cvD a b r), some (.ref c), some (.int lack), some (.int far), some odd, some (.int (401 - T.length - lack)), some (.int (lv (val a b r) T2)), some (.ref wd), e10, none, none] ∧ Sd m' p m x y c a b r T3 (k + 6) ∧ Kp (val a b r) T3 ∧ T3.length = 401) ?_ fun nn hnn => ?_
    · rintro e m3 ⟨T3, rfl, sd, kp3, l3⟩
      have hc := sd.hc
      walk_at "E"
      refine ⟨a, b, r, c, T3, rfl, hc, by omega, by omega, lb, lb1, by omega, ?_⟩
      have v3 := kp3.lv0 fo
      walk_at "E"
      intro w2 hwd
      have sd2 : Sd (mset m3 w2 (Cell.lst [])) p m x y c a b r T3 (k + 6) := sd.keep fun z hz => mset_ne fun e => hz (by rw [e]; exact hwd)
      have ne : ∀ z, m3 z ≠ none → z ≠ w2 := fun z hz e => hz (by rw [e]; exact hwd)
      obtain ⟨hpq, ⟨nn0, mtq, nnq⟩, hcq⟩ := sd
      have wp2 := ne p hpq.some
      have wc2 := ne c (by rw [hcq]; simp)
      have wm2 := ne m (mtq.non m (.inl rfl))
      have wx2 := ne x (mtq.non x (.inr (.inl rfl)))
      have wy2 := ne y (mtq.non y (.inr (.inr rfl)))
      have hw2 : mset m3 w2 (Cell.lst []) w2 = some (.lst []) := mset_same
      generalize mset m3 w2 (Cell.lst []) = M12 at sd2 hw2 ⊢
      clear hpq mtq nnq hcq ne hc hwd sd9
      have swd2 : ∀ {M : Mh} {T : List Int} {k : Nat} {l : List D}, Sd M p m x y c a b r T k → Sd (mset M w2 (Cell.lst l)) p m x y c a b r T k := fun {M T k l} h => by
        obtain ⟨h1, ⟨n, h2, h3⟩, h4⟩ := h
        exact ⟨h1.keep (mset_ne wp2), ⟨n, h2.keep fun z hz => mset_ne (by rcases hz with rfl | rfl | rfl; exact wm2; exact wx2; exact wy2), h3⟩, (mset_ne wc2).trans h4⟩
      walk_at "E"
      refine Ev.for_ok (fun i e m' => (∃ e12 : Option D, e = [some (.ref p), some (.ref m), some (cvD a b r), some (.ref c), some (.int lack), some (.int far), some odd, some (.int (401 - T.length - lack)), some (.int (lv (val a b r) T2)), some (.ref w2), e10, some (.int (lv (val a b r) T3 + 1)), e12]) ∧ Sd m' p m x y c a b r T3 (k + 6) ∧ m' w2 = some (.lst ([wL, wL].take i))) ⟨⟨_, rfl⟩, sd2, hw2⟩ ?_ ?_
      · rintro i e m' Kn hk d hd ⟨⟨e12, rfl⟩, sd, hw⟩
        obtain ⟨n, mt, n1⟩ := sd.mt
        have hm := mt.hm
        rcases (show i = 0 ∨ i = 1 by have := (List.getElem?_eq_some_iff.mp hd).1; simp at this; omega) with rfl | rfl
        · cases hd
          have hw : m' w2 = some (.lst []) := hw
          walk_at "E"
          refine w_lonC (by rfl) mt (by omega) (by omega) n1 (by omega) fun M8 f8 => ?_
          have hw8 : M8 w2 = some (.lst []) := (f8 w2 (by rw [hw]; simp)).trans hw
          walk_at "E"
          exact hk _ _ ⟨⟨_, rfl⟩, swd2 (sd.keep f8), mset_same⟩
        · cases hd
          have hw : m' w2 = some (.lst [wL]) := hw
          walk_at "E"
          refine w_lonC (by rfl) mt (by omega) (by omega) n1 (by omega) fun M8 f8 => ?_
          have hw8 : M8 w2 = some (.lst [wL]) := (f8 w2 (by rw [hw]; simp)).trans hw
          walk_at "E"
          exact hk _ _ ⟨⟨_, rfl⟩, swd2 (sd.keep f8), mset_same⟩
      · rintro e m' ⟨⟨e12, rfl⟩, sd, hw⟩
        obtain ⟨n, mt, n1⟩ := sd.mt
        have hm := mt.hm
        have hw : m' w2 = some (.lst [wL, wL]) := hw
        walk_at "E"
        refine ⟨m, x, y, a, b, r, T3, n, .int 0, rfl, mt, trivial, by omega, by omega, n1, (fun z => by cases z), fun k' e _ => ?_⟩
        cases e
        refine ⟨fun z => by omega, fun _ M5 n5 mt5 n5' fr5 => ?_⟩
        rw [show List.replicate (Int.toNat 0) (gt T3 (-1 + T3.length)) = [] from rfl, List.append_nil] at mt5 ⊢
        have hc5 : M5 c = some (.lst (il T3)) := (fr5 c cx cy).trans sd.hc
        have hp5 := sd.hp.keep (fr5 p px py)
        have w2x : w2 ≠ x := Ne.symm wx2
        have w2y : w2 ≠ y := Ne.symm wy2
        have hw5 : M5 w2 = some (.lst [wL, wL]) := (fr5 w2 w2x w2y).trans hw
        walk_at "E"
        refine ⟨a, b, r, c, T3, rfl, hc5, by omega, by omega, lb, lb1, by omega, ?_⟩
        walk_at "E"
        refine c_eqD (ds := [wL, wL]) hw5 wt2 w2s w2e ?_
        walk_at "E"
        refine ⟨m, x, y, c, a, b, r, T3, n5, rfl, mt5, hc5, ⟨cx, cy, cm⟩, by omega, by omega, n5', fun M6 n6 mt6 n6' fr6 => ?_⟩
        have hc6 : M6 c = some (.lst (il T3)) := (fr6 c (by rw [hc5]; simp) cy).trans hc5
        have hp6 := hp5.keep (fr6 p hp5.some py)
        have hm6 := mt6.hm
        walk_at "E"
        refine ⟨m, x, y, a, b, r, T3, n6, rfl, mt6, by omega, by omega, fun pt M7 hpt hpt1 fr7 => ?_⟩
        have ne : ∀ z, M6 z ≠ none → z ≠ pt := fun z hz e => hz (by rw [e]; exact hpt)
        have sl : (stL T3).length = 400 := by unfold stL; simp; omega
        walk_at "E"
        rw [decide_eq_true (by omega)]
        refine q M7 T3 ⟨(hp6.keep (fr7 p (ne p hp6.some))).to (by omega), ⟨n6, mt6.keep fun z hz => fr7 z (ne z (mt6.non z hz)), n6'⟩, (fr7 c (ne c (by rw [hc6]; simp))).trans hc6⟩ kp3 l3
    · walk_at "E"
      refine if_d (fun h => ?_) (fun h => ?_)
      · have hc := sd9.hc
        walk_at "E"
        refine ⟨a, b, r, c, T2, rfl, hc, kp2.len, by omega, lb, lb1, by omega, ?_⟩
        have v2 := kp2.lv0 fo
        walk_at "E"
        have kp3 := kp2.come fo v2 (Int.le_refl _)
        have l3 : (T2 ++ [gt T2 (-1 + T2.length) + lv (val a b r) T2]).length = T2.length + 1 := by simp
        have hk3 : gt (T2 ++ [gt T2 (-1 + T2.length) + lv (val a b r) T2]) (-1 + (T2 ++ [gt T2 (-1 + T2.length) + lv (val a b r) T2]).length) - gt (T2 ++ [gt T2 (-1 + T2.length) + lv (val a b r) T2]) (-2 + (T2 ++ [gt T2 (-1 + T2.length) + lv (val a b r) T2]).length) = lv (val a b r) T2 := by
          rw [l3, show (-1 : Int) + ((T2.length + 1 : Nat) : Int) = T2.length by omega, show (-2 : Int) + ((T2.length + 1 : Nat) : Int) = -1 + T2.length by omega, gt_app_hi (by omega) (by simp; omega), gt_app_lo (by omega) (by omega), Int.sub_self]
          show gt T2 (-1 + T2.length) + lv (val a b r) T2 - gt T2 (-1 + T2.length) = _
          omega
        generalize hT3 : T2 ++ [gt T2 (-1 + T2.length) + lv (val a b r) T2] = T3 at *
        have hc4 : mset M9 c (Cell.lst (il T3)) c = some (.lst (il T3)) := mset_same
        have hp4 := sd9.hp.keep (M' := mset M9 c (Cell.lst (il T3))) (mset_ne pc)
        obtain ⟨n9, mt9, n91⟩ := sd9.mt
        have mt4 := mt9.keep (M' := mset M9 c (Cell.lst (il T3))) fun z hz => mset_ne (nz z hz)
        generalize mset M9 c (Cell.lst (il T3)) = M10 at *
        have hm4 := mt4.hm
        walk_at "E"
        rw [hk3]
        refine ⟨m, x, y, a, b, r, T2, n9, .int (lv (val a b r) T2), rfl, mt4, trivial, kp2.len, by omega, n91, (fun z => absurd (of_decide_eq_false z) (by omega)), fun k' e _ => ?_⟩
        cases e
        refine ⟨fun z => by omega, fun _ => ⟨fun z => by omega, fun _ M11 n11 mt11 n11' fr11 => ?_⟩⟩
        rw [hT3] at mt11 ⊢
        have hc11 : M11 c = some (.lst (il T3)) := (fr11 c cx cy).trans hc4
        walk_at "E"
        refine ⟨a, b, r, c, T3, rfl, hc11, by omega, by omega, lb, lb1, by omega, ?_⟩
        walk_at "E"
        exact hnn _ _ ⟨T3, rfl, ⟨hp4.keep (fr11 p px py), ⟨n11, mt11, n11'⟩, hc11⟩, kp3, by omega⟩
      · walk_at "E"
        exact hnn _ _ ⟨T2, rfl, sd9, kp2, by omega⟩

theorem lv_one {F : Int → Int} : lv F [0] = F 1 := by
  unfold lv
  show minL [gt [0] ((0 : Nat) : Int) + F (((1 : Nat) : Int) - ((0 : Nat) : Int))] - gt [0] (-1 + ((1 : Nat) : Int)) = F 1
  show (0 + F 1) - 0 = F 1
  omega
theorem hb_law (as : List D) (M : Mh) (X : XD) (Q : QD) (h : spLawD as M X Q) : wpSs (tabG [sp_law_pen, sp_law_curve, sp_Meter_init, sp_law_take, sp_law_refused, sp_law_filled, sp_Meter_back, sp_law_leave, sp_law_word, sp_Meter_come, sp_Meter_rest, sp_law_stands, sp_Meter_told, sp_Meter_leave, sp_law_at]) (tabC []) b_law (startD S_law.N.length as) M (endsF Q X) := by
  obtain ⟨ns, hl, rfl, hM, q⟩ := h
  unfold b_law endsF; change wpSs _ _ _ [some _, none, none, none, none, none, none, none, none] _ _
  walk_at "E"
  refine ⟨ns, rfl, hl, fun p _ M1 hp _ => ?_⟩
  walk_at "E"
  refine ⟨p, 9999900, rfl, hp.to (by omega), fun a b r M2 cn hp fr2 => ?_⟩
  have fo : Fo (val a b r) := ⟨cn.2.1, cn.2.2⟩
  have cl := cn.1
  obtain ⟨c1, c2, c3, _⟩ := cl
  walk_at "E"
  intro mm hmm
  refine ⟨mm, a, b, r, rfl, mset_same, by omega, by omega, by omega, cn.2.1, fun x y M3 mt nx ny fr3 => ⟨rfl, ?_⟩⟩
  have xm : x ≠ mm := fun e => by rw [e, mset_same] at nx; cases nx
  have ym : y ≠ mm := fun e => by rw [e, mset_same] at ny; cases ny
  rw [mset_ne xm] at nx
  rw [mset_ne ym] at ny
  have fr3 : ∀ z, M2 z ≠ none → M3 z = M2 z := fun z hz => by
    have zm : z ≠ mm := fun e => hz (by rw [e]; exact hmm)
    have := fr3 z zm (by rw [mset_ne zm]; exact hz)
    rw [mset_ne zm] at this
    exact this
  have hp3 := hp.keep (fr3 p hp.some)
  have pm : p ≠ mm := fun e => hp.some (by rw [e]; exact hmm)
  have px : p ≠ x := fun e => hp.some (by rw [e]; exact nx)
  have py : p ≠ y := fun e => hp.some (by rw [e]; exact ny)
  walk_at "E"
  intro c hc
  have some3 : ∀ z, M3 z ≠ none → z ≠ c := fun z hz e => hz (by rw [e]; exact hc)
  have cx : c ≠ x := fun e => some3 x (mt.non x (.inr (.inl rfl))) e.symm
  have cy : c ≠ y := fun e => some3 y (mt.non y (.inr (.inr rfl))) e.symm
  have cm : c ≠ mm := fun e => some3 mm (mt.non mm (.inl rfl)) e.symm
  have pc : p ≠ c := some3 p hp3.some
  have sd : Sd (mset M3 c (Cell.lst [D.int 0])) p mm x y c a b r [0] 9999900 := ⟨hp3.keep (mset_ne pc), ⟨1, mt.keep fun z hz => mset_ne (some3 z (mt.non z hz)), by decide⟩, mset_same⟩
  generalize mset M3 c (Cell.lst [D.int 0]) = M4 at sd ⊢
  clear hp hp3 mt hc some3 fr3 fr2 hmm
  walk_at "E"
  refine ⟨p, 11, 9999899, rfl, by decide, by decide, sd.hp, fun w M5 w0 w1 hp f5 => ?_⟩
  have np : ∀ z, z = mm ∨ z = x ∨ z = y → z ≠ p := by
    intro z hz e
    rcases hz with hz | hz | hz
    · exact pm (e.symm.trans hz)
    · exact px (e.symm.trans hz)
    · exact py (e.symm.trans hz)
  have nz : ∀ z, z = mm ∨ z = x ∨ z = y → z ≠ c := by
    intro z hz e
    rcases hz with hz | hz | hz
    · exact cm (e.symm.trans hz)
    · exact cx (e.symm.trans hz)
    · exact cy (e.symm.trans hz)
  obtain ⟨_, ⟨n, mt, n1⟩, hc⟩ := sd
  have sd : Sd M5 p mm x y c a b r [0] 9999899 := ⟨hp, ⟨n, mt.keep fun z hz => f5 z (np z hz), n1⟩, (f5 c (Ne.symm pc)).trans hc⟩
  clear hp mt hc f5
  walk_at "E"
  refine Ev.for_ok (fun i e m => (∃ e5 : Option D, e = [some (.scr (ns.map .int)), some (.ref p), some (cvD a b r), some (.ref mm), some (.ref c), e5, none, none, none]) ∧ ∃ T, Sd m p mm x y c a b r T (9000000 - 20 * i) ∧ Kp (val a b r) T ∧ T.length ≤ 1 + i) ⟨⟨_, rfl⟩, [0], ⟨sd.hp.to (by omega), sd.mt, sd.hc⟩, kp_one fo, Nat.le_refl _⟩ ?_ ?_
  · rintro i e m Kn hk d hd ⟨⟨e5, rfl⟩, T, ⟨hp, ⟨n, mt, n1⟩, hc⟩, kp, l1⟩
    obtain ⟨rfl, hi⟩ := rngL_get hd
    walk_at "E"
    refine ⟨p, mm, x, y, c, a, b, r, T, n, 9000000 - 20 * i - 15, rfl, hp.to (by omega), ⟨px, py, pc, pm⟩, mt, hc, ⟨cx, cy, cm⟩, fo, kp, by omega, n1, fun M6 T' n' hp6 mt6 hc6 kp6 l6 n6 => ?_⟩
    walk_at "E"
    exact hk _ _ ⟨⟨_, rfl⟩, T', ⟨hp6.to (by omega), ⟨n', mt6, n6⟩, hc6⟩, kp6, by omega⟩
  · rintro e m ⟨⟨e5, rfl⟩, T, ⟨hp, ⟨n, mt, n1⟩, hc⟩, kp, l1⟩
    rw [rngL_len] at l1 hp
    walk_at "E"
    refine ⟨p, mm, x, y, c, a, b, r, T, 800000, rfl, ⟨hp.to (by omega), ⟨n, mt, n1⟩, hc⟩, ⟨px, py, pc, pm⟩, ⟨cx, cy, cm⟩, fo, kp, by omega, fun M7 T7 sd7 kp7 l7 => ?_⟩
    walk_at "E"
    refine Ev.for_ok (fun i e m => (∃ e5 e6 : Option D, e = [some (.scr (ns.map .int)), some (.ref p), some (cvD a b r), some (.ref mm), some (.ref c), e5, e6, none, none]) ∧ ∃ T, Sd m p mm x y c a b r T 800000 ∧ Kp (val a b r) T ∧ T.length + i = 401) ⟨⟨_, _, rfl⟩, T7, sd7, kp7, l7⟩ ?_ ?_
    · rintro i e m2 Kn hk d hd ⟨⟨e5', e6, rfl⟩, T, ⟨hp, ⟨n, mt, n1⟩, hc⟩, kp, l1⟩
      obtain ⟨rfl, hi⟩ := rngL_get hd
      have hi : i < 3 := hi
      walk_at "E"
      refine m_popi hc (by omega) ?_
      have l2 : T.dropLast.length = T.length - 1 := List.length_dropLast
      have kp2 := kp.back (by omega)
      have mt5 := mt.keep (M' := mset m2 c (Cell.lst (il T.dropLast))) fun z hz => mset_ne (nz z hz)
      have hc5 : mset m2 c (Cell.lst (il T.dropLast)) c = some (.lst (il T.dropLast)) := mset_same
      have hp5 := hp.keep (M' := mset m2 c (Cell.lst (il T.dropLast))) (mset_ne pc)
      generalize mset m2 c (Cell.lst (il T.dropLast)) = M5 at *
      have hm5 := mt5.hm
      walk_at "E"
      refine ⟨mm, x, y, a, b, r, T, n, rfl, mt5, by omega, by omega, (fun z => by omega), fun _ M6 mt6 fr6 => ?_⟩
      have hc6 : M6 c = some (.lst (il T.dropLast)) := (fr6 c cx).trans hc5
      have hp6 := hp5.keep (fr6 p px)
      walk_at "E"
      exact hk _ _ ⟨⟨_, _, rfl⟩, T.dropLast, ⟨hp6, ⟨n, mt6, n1⟩, hc6⟩, kp2, by omega⟩
    · rintro e m2 ⟨⟨e5', e6, rfl⟩, T, ⟨hp, ⟨n, mt, n1⟩, hc⟩, kp, l1⟩
      rw [rngL_len] at l1
      have l1 : T.length + 3 = 401 := l1
      walk_at "E"
      refine ⟨a, b, r, c, T, rfl, hc, by omega, by omega, by omega, by omega, by omega, ?_⟩
      have v0 := kp.lv0 fo
      have hm := mt.hm
      walk_at "E"
      refine w_much (by rfl) mt (by omega) (by omega) n1 (by omega) (by omega) fun M8 n8 mt8 n8' f8 => ?_
      have hc8 := (f8 c (by rw [hc]; simp) cy).trans hc
      have hp8 := hp.keep (f8 p hp.some py)
      have hm8 := mt8.hm
      walk_at "E"
      refine w_lonR (by rfl) mt8 (by omega) (by omega) n8' (by omega) (by omega) fun M9 f9 => ?_
      have hc9 := (f9 c (by rw [hc8]; simp)).trans hc8
      have hp9 := hp8.keep (f9 p hp8.some)
      have mt9 := mt8.keep (M' := M9) fun z hz => f9 z (mt8.non z hz)
      walk_at "E"
      have l2 : (T ++ [gt T (-1 + T.length) + lv (val a b r) T]).length = T.length + 1 := by simp
      generalize hT' : T ++ [gt T (-1 + T.length) + lv (val a b r) T] = T' at *
      have mt5 := mt9.keep (M' := mset M9 c (Cell.lst (il T'))) fun z hz => mset_ne (nz z hz)
      have hc5 : mset M9 c (Cell.lst (il T')) c = some (.lst (il T')) := mset_same
      generalize mset M9 c (Cell.lst (il T')) = M5 at *
      have hm5 := mt5.hm
      walk_at "E"
      refine ⟨mm, x, y, a, b, r, T, n8, .int (lv (val a b r) T), rfl, mt5, trivial, by omega, by omega, n8', (fun z => absurd (of_decide_eq_false z) (by omega)), fun k' e _ => ?_⟩
      cases e
      refine ⟨fun z => by omega, fun _ => ⟨fun z => by omega, fun _ M10 n10 mt10 n10' fr10 => ?_⟩⟩
      rw [hT'] at mt10 ⊢
      have hc10 : M10 c = some (.lst (il T')) := (fr10 c cx cy).trans hc5
      walk_at "E"
      refine ⟨a, b, r, c, T', rfl, hc10, by omega, by omega, by omega, by omega, by omega, ?_⟩
      walk_at "E"
      refine ⟨mm, x, y, c, a, b, r, T', n10, rfl, mt10, hc10, ⟨cx, cy, cm⟩, by omega, by omega, n10', fun M11 n11 mt11 n11' fr11 => ?_⟩
      walk_at "E"
      intro lo hlo
      refine ⟨lo, a, b, r, rfl, mset_same, by omega, by omega, by omega, cn.2.1, fun x2 y2 M12 mt12 nx2 ny2 fr12 => ⟨rfl, ?_⟩⟩
      have hm12 := mt12.hm
      walk_at "E"
      refine w_back (by rfl) mt12 rfl fun M13 f13 => ?_
      have mt13 := mt12.keep (M' := M13) fun z hz => f13 z (mt12.non z hz)
      have hm13 := mt13.hm
      walk_at "E"
      refine ⟨lo, x2, y2, a, b, r, [0], 1, rfl, mt13, by decide, by decide, fun pt M14 hpt hpt1 fr14 => ?_⟩
      have ne : ∀ z, M13 z ≠ none → z ≠ pt := fun z hz e => hz (by rw [e]; exact hpt)
      have mt14 := mt13.keep (M' := M14) fun z hz => fr14 z (ne z (mt13.non z hz))
      have hm14 := mt14.hm
      walk_at "E"
      refine c_eqL (l := stL [0]) (r := []) (by simp only [view, hpt1]) rfl ?_
      rw [decide_eq_true (show stL [0] = [] from rfl)]
      walk_at "E"
      refine ⟨lo, x2, y2, a, b, r, [0], 1, rfl, mt14, by decide, by decide, by decide, fun M15 n15 mt15 n15' fr15 => ?_⟩
      walk_at "E"
      refine ⟨a, b, r, 1, rfl, by omega, by omega, by omega, by decide, by decide, ?_⟩
      walk_at "E"
      rw [lv_one, decide_eq_true rfl]
      exact q _

theorem all_mk {l : PySem.W.OpenLaw} {w : World} {K : PySem.W.Frag} {h : Heap} {mg : Str → Option Value} {fa : Addr} (X : K.In h) (G : h.Ns mainGlobals mg) (hfa : mg "law" = some (.ref fa))
    {f0 : Addr} {od0 an0 : Option Addr} {sl0 : Array (Option Value)} {oc0 kV0 dc0 pm0 cd0 ct0 : Value}
    {f1 : Addr} {od1 an1 : Option Addr} {sl1 : Array (Option Value)} {oc1 kV1 dc1 pm1 cd1 ct1 : Value}
    {f2 : Addr} {od2 an2 : Option Addr} {sl2 : Array (Option Value)} {oc2 kV2 dc2 pm2 cd2 ct2 : Value}
    {f3 : Addr} {od3 an3 : Option Addr} {sl3 : Array (Option Value)} {oc3 kV3 dc3 pm3 cd3 ct3 : Value}
    {f4 : Addr} {od4 an4 : Option Addr} {sl4 : Array (Option Value)} {oc4 kV4 dc4 pm4 cd4 ct4 : Value}
    {f5 : Addr} {od5 an5 : Option Addr} {sl5 : Array (Option Value)} {oc5 kV5 dc5 pm5 cd5 ct5 : Value}
    {f6 : Addr} {od6 an6 : Option Addr} {sl6 : Array (Option Value)} {oc6 kV6 dc6 pm6 cd6 ct6 : Value}
    {f7 : Addr} {od7 an7 : Option Addr} {sl7 : Array (Option Value)} {oc7 kV7 dc7 pm7 cd7 ct7 : Value}
    {f8 : Addr} {od8 an8 : Option Addr} {sl8 : Array (Option Value)} {oc8 kV8 dc8 pm8 cd8 ct8 : Value}
    {f9 : Addr} {od9 an9 : Option Addr} {sl9 : Array (Option Value)} {oc9 kV9 dc9 pm9 cd9 ct9 : Value}
    {f10 : Addr} {od10 an10 : Option Addr} {sl10 : Array (Option Value)} {oc10 kV10 dc10 pm10 cd10 ct10 : Value}
    {f11 : Addr} {od11 an11 : Option Addr} {sl11 : Array (Option Value)} {oc11 kV11 dc11 pm11 cd11 ct11 : Value}
    {f12 : Addr} {od12 an12 : Option Addr} {sl12 : Array (Option Value)} {oc12 kV12 dc12 pm12 cd12 ct12 : Value}
    {f13 : Addr} {od13 an13 : Option Addr} {sl13 : Array (Option Value)} {oc13 kV13 dc13 pm13 cd13 ct13 : Value}
    {f14 : Addr} {od14 an14 : Option Addr} {sl14 : Array (Option Value)} {oc14 kV14 dc14 pm14 cd14 ct14 : Value}
    {f15 : Addr} {od15 an15 : Option Addr} {sl15 : Array (Option Value)} {oc15 kV15 dc15 pm15 cd15 ct15 : Value}
    {f16 : Addr} {od16 an16 : Option Addr} {sl16 : Array (Option Value)} {oc16 kV16 dc16 pm16 cd16 ct16 : Value}
    {f17 : Addr} {od17 an17 : Option Addr} {sl17 : Array (Option Value)} {oc17 kV17 dc17 pm17 cd17 ct17 : Value}
    {f18 : Addr} {od18 an18 : Option Addr} {sl18 : Array (Option Value)} {oc18 kV18 dc18 pm18 cd18 ct18 : Value}
    {f19 : Addr} {od19 an19 : Option Addr} {sl19 : Array (Option Value)} {oc19 kV19 dc19 pm19 cd19 ct19 : Value}
    {t0 : Tok}
    {tc0 tp0 : Addr}
    {tc1 tp1 : Addr}
    {tc2 tp2 : Addr}
    {CMeter : Addr}
    {CNoStream : Addr}
    {CTooLong : Addr}
    {CTooMuch : Addr}
    {CNoBack : Addr}
    {CCurveError : Addr}
    {CEndless : Addr}
    {CNoCurve : Addr}
    {CNoName : Addr}
    {CNoNet : Addr}
    {CNoRow : Addr}
    {CNoText : Addr}
    {CRing : Addr}
    {CTooLittle : Addr}
    (a0 : PySem.W.nsIn K mainGlobals "is_number" = some (some (.ref f0))) (l0 : K.lookup f0 = some ⟨oc0, od0, .func (PySem.W.fnOf "is_number" "is_number" (defArgs s_is_number) (defBody s_is_number) (defScope s_is_number) .none kV0 dc0 pm0 an0 cd0 ct0), sl0⟩) (c0 : PySem.W.codeIn K cd0 "is_number" = true) (k0 : PySem.W.keepIn K (.ref f0) = true)
    (a1 : PySem.W.nsIn K mainGlobals "value" = some (some (.ref f1))) (l1 : K.lookup f1 = some ⟨oc1, od1, .func (PySem.W.fnOf "value" "value" (defArgs s_value) (defBody s_value) (defScope s_value) .none kV1 dc1 pm1 an1 cd1 ct1), sl1⟩) (c1 : PySem.W.codeIn K cd1 "value" = true) (k1 : PySem.W.keepIn K (.ref f1) = true)
    (a2 : PySem.W.findIn K (.ref CMeter) "__init__" = some (some (.ref f2))) (i2 : PySem.W.isFn K (.ref f2) = true) (l2 : K.lookup f2 = some ⟨oc2, od2, .func (PySem.W.fnOf "__init__" "Meter.__init__" (defArgs s_Meter_init) (defBody s_Meter_init) (defScope s_Meter_init) .none kV2 dc2 pm2 an2 cd2 ct2), sl2⟩) (c2 : PySem.W.codeIn K cd2 "Meter.__init__" = true) (k2 : PySem.W.keepIn K (.ref f2) = true)
    (a3 : PySem.W.findIn K (.ref CMeter) "need_room" = some (some (.ref f3))) (i3 : PySem.W.isFn K (.ref f3) = true) (l3 : K.lookup f3 = some ⟨oc3, od3, .func (PySem.W.fnOf "need_room" "Meter.need_room" (defArgs s_Meter_need_room) (defBody s_Meter_need_room) (defScope s_Meter_need_room) .none kV3 dc3 pm3 an3 cd3 ct3), sl3⟩) (c3 : PySem.W.codeIn K cd3 "Meter.need_room" = true) (k3 : PySem.W.keepIn K (.ref f3) = true)
    (a4 : PySem.W.findIn K (.ref CMeter) "leave" = some (some (.ref f4))) (i4 : PySem.W.isFn K (.ref f4) = true) (l4 : K.lookup f4 = some ⟨oc4, od4, .func (PySem.W.fnOf "leave" "Meter.leave" (defArgs s_Meter_leave) (defBody s_Meter_leave) (defScope s_Meter_leave) .none kV4 dc4 pm4 an4 cd4 ct4), sl4⟩) (c4 : PySem.W.codeIn K cd4 "Meter.leave" = true) (k4 : PySem.W.keepIn K (.ref f4) = true)
    (a5 : PySem.W.findIn K (.ref CMeter) "come" = some (some (.ref f5))) (i5 : PySem.W.isFn K (.ref f5) = true) (l5 : K.lookup f5 = some ⟨oc5, od5, .func (PySem.W.fnOf "come" "Meter.come" (defArgs s_Meter_come) (defBody s_Meter_come) (defScope s_Meter_come) .none kV5 dc5 pm5 an5 cd5 ct5), sl5⟩) (c5 : PySem.W.codeIn K cd5 "Meter.come" = true) (k5 : PySem.W.keepIn K (.ref f5) = true)
    (a6 : PySem.W.findIn K (.ref CMeter) "rest" = some (some (.ref f6))) (i6 : PySem.W.isFn K (.ref f6) = true) (l6 : K.lookup f6 = some ⟨oc6, od6, .func (PySem.W.fnOf "rest" "Meter.rest" (defArgs s_Meter_rest) (defBody s_Meter_rest) (defScope s_Meter_rest) .none kV6 dc6 pm6 an6 cd6 ct6), sl6⟩) (c6 : PySem.W.codeIn K cd6 "Meter.rest" = true) (k6 : PySem.W.keepIn K (.ref f6) = true)
    (a7 : PySem.W.findIn K (.ref CMeter) "back" = some (some (.ref f7))) (i7 : PySem.W.isFn K (.ref f7) = true) (l7 : K.lookup f7 = some ⟨oc7, od7, .func (PySem.W.fnOf "back" "Meter.back" (defArgs s_Meter_back) (defBody s_Meter_back) (defScope s_Meter_back) .none kV7 dc7 pm7 an7 cd7 ct7), sl7⟩) (c7 : PySem.W.codeIn K cd7 "Meter.back" = true) (k7 : PySem.W.keepIn K (.ref f7) = true)
    (a8 : PySem.W.findIn K (.ref CMeter) "told" = some (some (.ref f8))) (i8 : PySem.W.isFn K (.ref f8) = true) (l8 : K.lookup f8 = some ⟨oc8, od8, .func (PySem.W.fnOf "told" "Meter.told" (defArgs s_Meter_told) (defBody s_Meter_told) (defScope s_Meter_told) .none kV8 dc8 pm8 an8 cd8 ct8), sl8⟩) (c8 : PySem.W.codeIn K cd8 "Meter.told" = true) (k8 : PySem.W.keepIn K (.ref f8) = true)
    (a9 : PySem.W.nsIn K mainGlobals "_law_pen" = some (some (.ref f9))) (l9 : K.lookup f9 = some ⟨oc9, od9, .func (PySem.W.fnOf "_law_pen" "_law_pen" (defArgs s_law_pen) (defBody s_law_pen) (defScope s_law_pen) .none kV9 dc9 pm9 an9 cd9 ct9), sl9⟩) (c9 : PySem.W.codeIn K cd9 "_law_pen" = true) (k9 : PySem.W.keepIn K (.ref f9) = true)
    (a10 : PySem.W.nsIn K mainGlobals "_law_take" = some (some (.ref f10))) (l10 : K.lookup f10 = some ⟨oc10, od10, .func (PySem.W.fnOf "_law_take" "_law_take" (defArgs s_law_take) (defBody s_law_take) (defScope s_law_take) .none kV10 dc10 pm10 an10 cd10 ct10), sl10⟩) (c10 : PySem.W.codeIn K cd10 "_law_take" = true) (k10 : PySem.W.keepIn K (.ref f10) = true)
    (a11 : PySem.W.nsIn K mainGlobals "_law_at" = some (some (.ref f11))) (l11 : K.lookup f11 = some ⟨oc11, od11, .func (PySem.W.fnOf "_law_at" "_law_at" (defArgs s_law_at) (defBody s_law_at) (defScope s_law_at) .none kV11 dc11 pm11 an11 cd11 ct11), sl11⟩) (c11 : PySem.W.codeIn K cd11 "_law_at" = true) (k11 : PySem.W.keepIn K (.ref f11) = true)
    (a12 : PySem.W.nsIn K mainGlobals "_law_curve" = some (some (.ref f12))) (l12 : K.lookup f12 = some ⟨oc12, od12, .func (PySem.W.fnOf "_law_curve" "_law_curve" (defArgs s_law_curve) (defBody s_law_curve) (defScope s_law_curve) .none kV12 dc12 pm12 an12 cd12 ct12), sl12⟩) (c12 : PySem.W.codeIn K cd12 "_law_curve" = true) (k12 : PySem.W.keepIn K (.ref f12) = true)
    (a13 : PySem.W.nsIn K mainGlobals "_law_word" = some (some (.ref f13))) (l13 : K.lookup f13 = some ⟨oc13, od13, .func (PySem.W.fnOf "_law_word" "_law_word" (defArgs s_law_word) (defBody s_law_word) (defScope s_law_word) .none kV13 dc13 pm13 an13 cd13 ct13), sl13⟩) (c13 : PySem.W.codeIn K cd13 "_law_word" = true) (k13 : PySem.W.keepIn K (.ref f13) = true)
    (a14 : PySem.W.nsIn K mainGlobals "_law_odd" = some (some (.ref f14))) (l14 : K.lookup f14 = some ⟨oc14, od14, .func (PySem.W.fnOf "_law_odd" "_law_odd" (defArgs s_law_odd) (defBody s_law_odd) (defScope s_law_odd) .none kV14 dc14 pm14 an14 cd14 ct14), sl14⟩) (c14 : PySem.W.codeIn K cd14 "_law_odd" = true) (k14 : PySem.W.keepIn K (.ref f14) = true)
    (a15 : PySem.W.nsIn K mainGlobals "_law_leave" = some (some (.ref f15))) (l15 : K.lookup f15 = some ⟨oc15, od15, .func (PySem.W.fnOf "_law_leave" "_law_leave" (defArgs s_law_leave) (defBody s_law_leave) (defScope s_law_leave) .none kV15 dc15 pm15 an15 cd15 ct15), sl15⟩) (c15 : PySem.W.codeIn K cd15 "_law_leave" = true) (k15 : PySem.W.keepIn K (.ref f15) = true)
    (a16 : PySem.W.nsIn K mainGlobals "_law_stands" = some (some (.ref f16))) (l16 : K.lookup f16 = some ⟨oc16, od16, .func (PySem.W.fnOf "_law_stands" "_law_stands" (defArgs s_law_stands) (defBody s_law_stands) (defScope s_law_stands) .none kV16 dc16 pm16 an16 cd16 ct16), sl16⟩) (c16 : PySem.W.codeIn K cd16 "_law_stands" = true) (k16 : PySem.W.keepIn K (.ref f16) = true)
    (a17 : PySem.W.nsIn K mainGlobals "_law_refused" = some (some (.ref f17))) (l17 : K.lookup f17 = some ⟨oc17, od17, .func (PySem.W.fnOf "_law_refused" "_law_refused" (defArgs s_law_refused) (defBody s_law_refused) (defScope s_law_refused) .none kV17 dc17 pm17 an17 cd17 ct17), sl17⟩) (c17 : PySem.W.codeIn K cd17 "_law_refused" = true) (k17 : PySem.W.keepIn K (.ref f17) = true)
    (a18 : PySem.W.nsIn K mainGlobals "_law_filled" = some (some (.ref f18))) (l18 : K.lookup f18 = some ⟨oc18, od18, .func (PySem.W.fnOf "_law_filled" "_law_filled" (defArgs s_law_filled) (defBody s_law_filled) (defScope s_law_filled) .none kV18 dc18 pm18 an18 cd18 ct18), sl18⟩) (c18 : PySem.W.codeIn K cd18 "_law_filled" = true) (k18 : PySem.W.keepIn K (.ref f18) = true)
    (a19 : PySem.W.nsIn K mainGlobals "law" = some (some (.ref f19))) (l19 : K.lookup f19 = some ⟨oc19, od19, .func (PySem.W.fnOf "law" "law" (defArgs s_law) (defBody s_law) (defScope s_law) .none kV19 dc19 pm19 an19 cd19 ct19), sl19⟩) (c19 : PySem.W.codeIn K cd19 "law" = true) (k19 : PySem.W.keepIn K (.ref f19) = true)
    (z0 : PySem.W.nsIn K mainGlobals "isinstance" = some none)
    (z1 : PySem.W.nsIn K mainGlobals "int" = some none)
    (z2 : PySem.W.nsIn K mainGlobals "bool" = some none)
    (z3 : PySem.W.nsIn K mainGlobals "len" = some none)
    (z4 : PySem.W.nsIn K mainGlobals "min" = some none)
    (z5 : PySem.W.nsIn K mainGlobals "range" = some none)
    (z6 : PySem.W.nsIn K mainGlobals "list" = some none)
    (z7 : PySem.W.nsIn K mainGlobals "abs" = some none)
    (z8 : PySem.W.nsIn K mainGlobals "tuple" = some none)
    (y0 : PySem.W.nsIn K mainGlobals "MOST_TURNS" = some (some (.int 400 t0)))
    (u0 : PySem.W.tabIn K "_law_refused" = some (tc0, tp0))
    (u1 : PySem.W.tabIn K "_law_filled" = some (tc1, tp1))
    (u2 : PySem.W.tabIn K "law" = some (tc2, tp2))
    (tq : ([tp0, tp1, tp2] : List Addr).Nodup)
    (aCMeter : PySem.W.nsIn K mainGlobals (Str.ofString "Meter") = some (some (.ref CMeter)))
    (aCNoStream : PySem.W.nsIn K mainGlobals (Str.ofString "NoStream") = some (some (.ref CNoStream)))
    (aCTooLong : PySem.W.nsIn K mainGlobals (Str.ofString "TooLong") = some (some (.ref CTooLong)))
    (aCTooMuch : PySem.W.nsIn K mainGlobals (Str.ofString "TooMuch") = some (some (.ref CTooMuch)))
    (aCNoBack : PySem.W.nsIn K mainGlobals (Str.ofString "NoBack") = some (some (.ref CNoBack)))
    (aCCurveError : PySem.W.nsIn K mainGlobals (Str.ofString "CurveError") = some (some (.ref CCurveError)))
    (aCEndless : PySem.W.nsIn K mainGlobals (Str.ofString "Endless") = some (some (.ref CEndless)))
    (aCNoCurve : PySem.W.nsIn K mainGlobals (Str.ofString "NoCurve") = some (some (.ref CNoCurve)))
    (aCNoName : PySem.W.nsIn K mainGlobals (Str.ofString "NoName") = some (some (.ref CNoName)))
    (aCNoNet : PySem.W.nsIn K mainGlobals (Str.ofString "NoNet") = some (some (.ref CNoNet)))
    (aCNoRow : PySem.W.nsIn K mainGlobals (Str.ofString "NoRow") = some (some (.ref CNoRow)))
    (aCNoText : PySem.W.nsIn K mainGlobals (Str.ofString "NoText") = some (some (.ref CNoText)))
    (aCRing : PySem.W.nsIn K mainGlobals (Str.ofString "Ring") = some (some (.ref CRing)))
    (aCTooLittle : PySem.W.nsIn K mainGlobals (Str.ofString "TooLittle") = some (some (.ref CTooLittle)))
    (zV : PySem.W.nsIn K mainGlobals "ValueError" = some none)
    (pgMeter : PySem.W.plainGet K CMeter Str.empty = true)
    (hdMeter : PySem.W.hasDictIn K CMeter = true)
    (poMeter : PySem.W.plainOver K CMeter = true)
    (saMeter : PySem.W.findIn K (.ref CMeter) "__setattr__" = some (some (.builtin "object.__setattr__")))
    (mkMeter : PySem.W.makesIn K CMeter = true)
    (kcMeter : PySem.W.keepIn K (.ref CMeter) = true)
    (nAMeter_curve : PySem.W.findIn K (.ref CMeter) (Str.ofString "curve") = some none)
    (nAMeter_tallies : PySem.W.findIn K (.ref CMeter) (Str.ofString "tallies") = some none)
    (nAMeter_most : PySem.W.findIn K (.ref CMeter) (Str.ofString "most") = some none)
    (rENoStream : PySem.W.excIn K CNoStream [.type "ValueError", .type "Exception", .type "BaseException", .type "object"] "ValueError.__new__" = true)
    (rKNoStream : PySem.W.keepIn K (.ref CNoStream) = true)
    (eSNoStream : PySem.W.subIn K (.ref CNoStream) (.type "BaseException") = some true)
    (eTNoStream : PySem.W.typeIn K (.ref CNoStream) = some (.type "type"))
    (rETooLong : PySem.W.excIn K CTooLong [.type "ValueError", .type "Exception", .type "BaseException", .type "object"] "ValueError.__new__" = true)
    (rKTooLong : PySem.W.keepIn K (.ref CTooLong) = true)
    (eSTooLong : PySem.W.subIn K (.ref CTooLong) (.type "BaseException") = some true)
    (eTTooLong : PySem.W.typeIn K (.ref CTooLong) = some (.type "type"))
    (rETooMuch : PySem.W.excIn K CTooMuch [.type "ValueError", .type "Exception", .type "BaseException", .type "object"] "ValueError.__new__" = true)
    (rKTooMuch : PySem.W.keepIn K (.ref CTooMuch) = true)
    (eSTooMuch : PySem.W.subIn K (.ref CTooMuch) (.type "BaseException") = some true)
    (eTTooMuch : PySem.W.typeIn K (.ref CTooMuch) = some (.type "type"))
    (rENoBack : PySem.W.excIn K CNoBack [.type "ValueError", .type "Exception", .type "BaseException", .type "object"] "ValueError.__new__" = true)
    (rKNoBack : PySem.W.keepIn K (.ref CNoBack) = true)
    (eSNoBack : PySem.W.subIn K (.ref CNoBack) (.type "BaseException") = some true)
    (eTNoBack : PySem.W.typeIn K (.ref CNoBack) = some (.type "type"))
    (eSCurveError : PySem.W.subIn K (.ref CCurveError) (.type "BaseException") = some true)
    (eTCurveError : PySem.W.typeIn K (.ref CCurveError) = some (.type "type"))
    (eDCurveError : PySem.W.hasDictIn K CCurveError = true)
    (eXNoStream_CurveError : PySem.W.subIn K (.ref CNoStream) (.ref CCurveError) = some true)
    (eXTooMuch_CurveError : PySem.W.subIn K (.ref CTooMuch) (.ref CCurveError) = some true)
    (eXTooLong_CurveError : PySem.W.subIn K (.ref CTooLong) (.ref CCurveError) = some true)
    (eXNoBack_CurveError : PySem.W.subIn K (.ref CNoBack) (.ref CCurveError) = some true)
    (q1NoStream : PySem.W.findIn K (.ref CNoStream) "__getattribute__" = some (some (.builtin "BaseException.__getattribute__")))
    (q2NoStream : PySem.W.findIn K (.ref CNoStream) "__getattr__" = some none)
    (eDNoStream : PySem.W.hasDictIn K CNoStream = true)
    (q5NoStream : PySem.W.findIn K (.ref CNoStream) "__class__" = some (some (.builtin "object.__class__")))
    (q6 : PySem.W.specialIn K (.builtin "object.__class__") "__get__" = some (some (.builtin "getset_descriptor.__get__")))
    (q7 : PySem.W.takesIn K (.builtin "object.__class__") = some true)
    (q8NoStream : PySem.W.mroIn K CNoStream (.type "object") = some true)
    (eTEndless : PySem.W.typeIn K (.ref CEndless) = some (.type "type"))
    (eDEndless : PySem.W.hasDictIn K CEndless = true)
    (eXNoStream_Endless : PySem.W.subIn K (.ref CNoStream) (.ref CEndless) = some false)
    (dXNoStream_Endless : (CNoStream == CEndless) = false)
    (eTNoCurve : PySem.W.typeIn K (.ref CNoCurve) = some (.type "type"))
    (eDNoCurve : PySem.W.hasDictIn K CNoCurve = true)
    (eXNoStream_NoCurve : PySem.W.subIn K (.ref CNoStream) (.ref CNoCurve) = some false)
    (dXNoStream_NoCurve : (CNoStream == CNoCurve) = false)
    (eTNoName : PySem.W.typeIn K (.ref CNoName) = some (.type "type"))
    (eDNoName : PySem.W.hasDictIn K CNoName = true)
    (eXNoStream_NoName : PySem.W.subIn K (.ref CNoStream) (.ref CNoName) = some false)
    (dXNoStream_NoName : (CNoStream == CNoName) = false)
    (eTNoNet : PySem.W.typeIn K (.ref CNoNet) = some (.type "type"))
    (eDNoNet : PySem.W.hasDictIn K CNoNet = true)
    (eXNoStream_NoNet : PySem.W.subIn K (.ref CNoStream) (.ref CNoNet) = some false)
    (dXNoStream_NoNet : (CNoStream == CNoNet) = false)
    (eTNoRow : PySem.W.typeIn K (.ref CNoRow) = some (.type "type"))
    (eDNoRow : PySem.W.hasDictIn K CNoRow = true)
    (eXNoStream_NoRow : PySem.W.subIn K (.ref CNoStream) (.ref CNoRow) = some false)
    (dXNoStream_NoRow : (CNoStream == CNoRow) = false)
    (eTNoText : PySem.W.typeIn K (.ref CNoText) = some (.type "type"))
    (eDNoText : PySem.W.hasDictIn K CNoText = true)
    (eXNoStream_NoText : PySem.W.subIn K (.ref CNoStream) (.ref CNoText) = some false)
    (dXNoStream_NoText : (CNoStream == CNoText) = false)
    (eTRing : PySem.W.typeIn K (.ref CRing) = some (.type "type"))
    (eDRing : PySem.W.hasDictIn K CRing = true)
    (eXNoStream_Ring : PySem.W.subIn K (.ref CNoStream) (.ref CRing) = some false)
    (dXNoStream_Ring : (CNoStream == CRing) = false)
    (eTTooLittle : PySem.W.typeIn K (.ref CTooLittle) = some (.type "type"))
    (eDTooLittle : PySem.W.hasDictIn K CTooLittle = true)
    (eXNoStream_TooLittle : PySem.W.subIn K (.ref CNoStream) (.ref CTooLittle) = some false)
    (dXNoStream_TooLittle : (CNoStream == CTooLittle) = false)
    (q1TooMuch : PySem.W.findIn K (.ref CTooMuch) "__getattribute__" = some (some (.builtin "BaseException.__getattribute__")))
    (q2TooMuch : PySem.W.findIn K (.ref CTooMuch) "__getattr__" = some none)
    (eDTooMuch : PySem.W.hasDictIn K CTooMuch = true)
    (q5TooMuch : PySem.W.findIn K (.ref CTooMuch) "__class__" = some (some (.builtin "object.__class__")))
    (q8TooMuch : PySem.W.mroIn K CTooMuch (.type "object") = some true)
    (eXTooMuch_Endless : PySem.W.subIn K (.ref CTooMuch) (.ref CEndless) = some false)
    (dXTooMuch_Endless : (CTooMuch == CEndless) = false)
    (eXTooMuch_NoCurve : PySem.W.subIn K (.ref CTooMuch) (.ref CNoCurve) = some false)
    (dXTooMuch_NoCurve : (CTooMuch == CNoCurve) = false)
    (eXTooMuch_NoName : PySem.W.subIn K (.ref CTooMuch) (.ref CNoName) = some false)
    (dXTooMuch_NoName : (CTooMuch == CNoName) = false)
    (eXTooMuch_NoNet : PySem.W.subIn K (.ref CTooMuch) (.ref CNoNet) = some false)
    (dXTooMuch_NoNet : (CTooMuch == CNoNet) = false)
    (eXTooMuch_NoRow : PySem.W.subIn K (.ref CTooMuch) (.ref CNoRow) = some false)
    (dXTooMuch_NoRow : (CTooMuch == CNoRow) = false)
    (eXTooMuch_NoText : PySem.W.subIn K (.ref CTooMuch) (.ref CNoText) = some false)
    (dXTooMuch_NoText : (CTooMuch == CNoText) = false)
    (eXTooMuch_Ring : PySem.W.subIn K (.ref CTooMuch) (.ref CRing) = some false)
    (dXTooMuch_Ring : (CTooMuch == CRing) = false)
    (eXTooMuch_TooLittle : PySem.W.subIn K (.ref CTooMuch) (.ref CTooLittle) = some false)
    (dXTooMuch_TooLittle : (CTooMuch == CTooLittle) = false)
    (q1TooLong : PySem.W.findIn K (.ref CTooLong) "__getattribute__" = some (some (.builtin "BaseException.__getattribute__")))
    (q2TooLong : PySem.W.findIn K (.ref CTooLong) "__getattr__" = some none)
    (eDTooLong : PySem.W.hasDictIn K CTooLong = true)
    (q5TooLong : PySem.W.findIn K (.ref CTooLong) "__class__" = some (some (.builtin "object.__class__")))
    (q8TooLong : PySem.W.mroIn K CTooLong (.type "object") = some true)
    (eXTooLong_Endless : PySem.W.subIn K (.ref CTooLong) (.ref CEndless) = some false)
    (dXTooLong_Endless : (CTooLong == CEndless) = false)
    (eXTooLong_NoCurve : PySem.W.subIn K (.ref CTooLong) (.ref CNoCurve) = some false)
    (dXTooLong_NoCurve : (CTooLong == CNoCurve) = false)
    (eXTooLong_NoName : PySem.W.subIn K (.ref CTooLong) (.ref CNoName) = some false)
    (dXTooLong_NoName : (CTooLong == CNoName) = false)
    (eXTooLong_NoNet : PySem.W.subIn K (.ref CTooLong) (.ref CNoNet) = some false)
    (dXTooLong_NoNet : (CTooLong == CNoNet) = false)
    (eXTooLong_NoRow : PySem.W.subIn K (.ref CTooLong) (.ref CNoRow) = some false)
    (dXTooLong_NoRow : (CTooLong == CNoRow) = false)
    (eXTooLong_NoText : PySem.W.subIn K (.ref CTooLong) (.ref CNoText) = some false)
    (dXTooLong_NoText : (CTooLong == CNoText) = false)
    (eXTooLong_Ring : PySem.W.subIn K (.ref CTooLong) (.ref CRing) = some false)
    (dXTooLong_Ring : (CTooLong == CRing) = false)
    (eXTooLong_TooLittle : PySem.W.subIn K (.ref CTooLong) (.ref CTooLittle) = some false)
    (dXTooLong_TooLittle : (CTooLong == CTooLittle) = false)
    (q1NoBack : PySem.W.findIn K (.ref CNoBack) "__getattribute__" = some (some (.builtin "BaseException.__getattribute__")))
    (q2NoBack : PySem.W.findIn K (.ref CNoBack) "__getattr__" = some none)
    (eDNoBack : PySem.W.hasDictIn K CNoBack = true)
    (q5NoBack : PySem.W.findIn K (.ref CNoBack) "__class__" = some (some (.builtin "object.__class__")))
    (q8NoBack : PySem.W.mroIn K CNoBack (.type "object") = some true)
    (eXNoBack_Endless : PySem.W.subIn K (.ref CNoBack) (.ref CEndless) = some false)
    (dXNoBack_Endless : (CNoBack == CEndless) = false)
    (eXNoBack_NoCurve : PySem.W.subIn K (.ref CNoBack) (.ref CNoCurve) = some false)
    (dXNoBack_NoCurve : (CNoBack == CNoCurve) = false)
    (eXNoBack_NoName : PySem.W.subIn K (.ref CNoBack) (.ref CNoName) = some false)
    (dXNoBack_NoName : (CNoBack == CNoName) = false)
    (eXNoBack_NoNet : PySem.W.subIn K (.ref CNoBack) (.ref CNoNet) = some false)
    (dXNoBack_NoNet : (CNoBack == CNoNet) = false)
    (eXNoBack_NoRow : PySem.W.subIn K (.ref CNoBack) (.ref CNoRow) = some false)
    (dXNoBack_NoRow : (CNoBack == CNoRow) = false)
    (eXNoBack_NoText : PySem.W.subIn K (.ref CNoBack) (.ref CNoText) = some false)
    (dXNoBack_NoText : (CNoBack == CNoText) = false)
    (eXNoBack_Ring : PySem.W.subIn K (.ref CNoBack) (.ref CRing) = some false)
    (dXNoBack_Ring : (CNoBack == CRing) = false)
    (eXNoBack_TooLittle : PySem.W.subIn K (.ref CNoBack) (.ref CTooLittle) = some false)
    (dXNoBack_TooLittle : (CNoBack == CTooLittle) = false)
    (eXNoStream_TooMuch : PySem.W.subIn K (.ref CNoStream) (.ref CTooMuch) = some false)
    (dXNoStream_TooMuch : (CNoStream == CTooMuch) = false)
    (eXTooMuch_TooMuch : PySem.W.subIn K (.ref CTooMuch) (.ref CTooMuch) = some true)
    (eXTooLong_TooMuch : PySem.W.subIn K (.ref CTooLong) (.ref CTooMuch) = some false)
    (dXTooLong_TooMuch : (CTooLong == CTooMuch) = false)
    (eXNoBack_TooMuch : PySem.W.subIn K (.ref CNoBack) (.ref CTooMuch) = some false)
    (dXNoBack_TooMuch : (CNoBack == CTooMuch) = false)
    (eXNoStream_NoStream : PySem.W.subIn K (.ref CNoStream) (.ref CNoStream) = some true)
    (eXTooMuch_NoStream : PySem.W.subIn K (.ref CTooMuch) (.ref CNoStream) = some false)
    (dXTooMuch_NoStream : (CTooMuch == CNoStream) = false)
    (eXTooLong_NoStream : PySem.W.subIn K (.ref CTooLong) (.ref CNoStream) = some false)
    (dXTooLong_NoStream : (CTooLong == CNoStream) = false)
    (eXNoBack_NoStream : PySem.W.subIn K (.ref CNoBack) (.ref CNoStream) = some false)
    (dXNoBack_NoStream : (CNoBack == CNoStream) = false)
    (eXNoStream_NoBack : PySem.W.subIn K (.ref CNoStream) (.ref CNoBack) = some false)
    (dXNoStream_NoBack : (CNoStream == CNoBack) = false)
    (eXTooMuch_NoBack : PySem.W.subIn K (.ref CTooMuch) (.ref CNoBack) = some false)
    (dXTooMuch_NoBack : (CTooMuch == CNoBack) = false)
    (eXTooLong_NoBack : PySem.W.subIn K (.ref CTooLong) (.ref CNoBack) = some false)
    (dXTooLong_NoBack : (CTooLong == CNoBack) = false)
    (eXNoBack_NoBack : PySem.W.subIn K (.ref CNoBack) (.ref CNoBack) = some true)
    (eXNoStream_TooLong : PySem.W.subIn K (.ref CNoStream) (.ref CTooLong) = some false)
    (dXNoStream_TooLong : (CNoStream == CTooLong) = false)
    (eXTooMuch_TooLong : PySem.W.subIn K (.ref CTooMuch) (.ref CTooLong) = some false)
    (dXTooMuch_TooLong : (CTooMuch == CTooLong) = false)
    (eXTooLong_TooLong : PySem.W.subIn K (.ref CTooLong) (.ref CTooLong) = some true)
    (eXNoBack_TooLong : PySem.W.subIn K (.ref CNoBack) (.ref CTooLong) = some false)
    (dXNoBack_TooLong : (CNoBack == CTooLong) = false)
    (kXNoStream_V : PySem.W.subIn K (.ref CNoStream) (.type "ValueError") = some true)
    (kXTooMuch_V : PySem.W.subIn K (.ref CTooMuch) (.type "ValueError") = some true)
    (kXTooLong_V : PySem.W.subIn K (.ref CTooLong) (.type "ValueError") = some true)
    (kXNoBack_V : PySem.W.subIn K (.ref CNoBack) (.type "ValueError") = some true) :
    ∃ fd : FuncData, (∀ (s : Shared) (v : Value), BindsTo s fd ⟨[v], []⟩ [("script", v)]) ∧ ∀ base : Heap, K.In base → base.Ns mainGlobals mg → (∃ mm, base.Ns sysModules mm) → (∀ x c Pt, x ∈ Tb.xs → PySem.W.tabIn K x = some (c, Pt) → LamX.TabB base mg c Pt) → FnG l.prog w K mg base (L2.CX l.prog w) 11 fa fd ["script"] (spLawV K) := by
  have e := hfa.symm.trans (PySem.W.mg_of X G a19)
  cases e
  have F0 := fun_mk (st := s_is_number) l0 c0 k0
  have B0 := F0.binds (ps := ["thing"]) fun _ _ _ _ _ _ us hl => match us, hl with | [_], _ => rfl
  have F1 := fun_mk (st := s_value) l1 c1 k1
  have B1 := F1.binds (ps := ["f", "t"]) fun _ _ _ _ _ _ us hl => match us, hl with | [_, _], _ => rfl
  have F2 := fun_mk (st := s_Meter_init) l2 c2 k2
  have B2 := F2.binds (ps := ["self", "f"]) fun _ _ _ _ _ _ us hl => match us, hl with | [_, _], _ => rfl
  have F3 := fun_mk (st := s_Meter_need_room) l3 c3 k3
  have B3 := F3.binds (ps := ["self", "turns"]) fun _ _ _ _ _ _ us hl => match us, hl with | [_, _], _ => rfl
  have F4 := fun_mk (st := s_Meter_leave) l4 c4 k4
  have B4 := F4.binds (ps := ["self"]) fun _ _ _ _ _ _ us hl => match us, hl with | [_], _ => rfl
  have F5 := fun_mk (st := s_Meter_come) l5 c5 k5
  have B5 := F5.binds (ps := ["self", "many"]) fun _ _ _ _ _ _ us hl => match us, hl with | [_, _], _ => rfl
  have F6 := fun_mk (st := s_Meter_rest) l6 c6 k6
  have B6 := F6.binds (ps := ["self", "turns"]) fun _ _ _ _ _ _ us hl => match us, hl with | [_, _], _ => rfl
  have F7 := fun_mk (st := s_Meter_back) l7 c7 k7
  have B7 := F7.binds (ps := ["self"]) fun _ _ _ _ _ _ us hl => match us, hl with | [_], _ => rfl
  have F8 := fun_mk (st := s_Meter_told) l8 c8 k8
  have B8 := F8.binds (ps := ["self"]) fun _ _ _ _ _ _ us hl => match us, hl with | [_], _ => rfl
  have F9 := fun_mk (st := s_law_pen) l9 c9 k9
  have B9 := F9.binds (ps := ["script"]) fun _ _ _ _ _ _ us hl => match us, hl with | [_], _ => rfl
  have F10 := fun_mk (st := s_law_take) l10 c10 k10
  have B10 := F10.binds (ps := ["pen", "many"]) fun _ _ _ _ _ _ us hl => match us, hl with | [_, _], _ => rfl
  have F11 := fun_mk (st := s_law_at) l11 c11 k11
  have B11 := F11.binds (ps := ["f", "t"]) fun _ _ _ _ _ _ us hl => match us, hl with | [_, _], _ => rfl
  have F12 := fun_mk (st := s_law_curve) l12 c12 k12
  have B12 := F12.binds (ps := ["pen"]) fun _ _ _ _ _ _ us hl => match us, hl with | [_], _ => rfl
  have F13 := fun_mk (st := s_law_word) l13 c13 k13
  have B13 := F13.binds (ps := ["asked"]) fun _ _ _ _ _ _ us hl => match us, hl with | [_], _ => rfl
  have F14 := fun_mk (st := s_law_odd) l14 c14 k14
  have B14 := F14.binds (ps := ["pen"]) fun _ _ _ _ _ _ us hl => match us, hl with | [_], _ => rfl
  have F15 := fun_mk (st := s_law_leave) l15 c15 k15
  have B15 := F15.binds (ps := ["f", "counts"]) fun _ _ _ _ _ _ us hl => match us, hl with | [_, _], _ => rfl
  have F16 := fun_mk (st := s_law_stands) l16 c16 k16
  have B16 := F16.binds (ps := ["meter", "f", "counts"]) fun _ _ _ _ _ _ us hl => match us, hl with | [_, _, _], _ => rfl
  have F17 := fun_mk (st := s_law_refused) l17 c17 k17
  have B17 := F17.binds (ps := ["pen", "meter", "f", "counts"]) fun _ _ _ _ _ _ us hl => match us, hl with | [_, _, _, _], _ => rfl
  have F18 := fun_mk (st := s_law_filled) l18 c18 k18
  have B18 := F18.binds (ps := ["pen", "meter", "f", "counts"]) fun _ _ _ _ _ _ us hl => match us, hl with | [_, _, _, _], _ => rfl
  have F19 := fun_mk (st := s_law) l19 c19 k19
  have B19 := F19.binds (ps := ["script"]) fun _ _ _ _ _ _ us hl => match us, hl with | [_], _ => rfl
  have Z0 := PySem.W.mg_none_of X G z0
  have Z1 := PySem.W.mg_none_of X G z1
  have Z2 := PySem.W.mg_none_of X G z2
  have Z3 := PySem.W.mg_none_of X G z3
  have Z4 := PySem.W.mg_none_of X G z4
  have Z5 := PySem.W.mg_none_of X G z5
  have Z6 := PySem.W.mg_none_of X G z6
  have Z7 := PySem.W.mg_none_of X G z7
  have Z8 := PySem.W.mg_none_of X G z8
  have MK : MgOk K mg := ⟨fun _ _ h => PySem.W.mg_of X G h, fun _ h => PySem.W.mg_none_of X G h⟩
  have CLMeter : Cls K CMeter := ⟨pgMeter, hdMeter, poMeter, saMeter⟩
  have X0 : XFact K (.noat (Str.ofString "Meter") (Str.ofString "curve")) := ⟨_, aCMeter, CLMeter, nAMeter_curve⟩
  have X1 : XFact K (.noat (Str.ofString "Meter") (Str.ofString "tallies")) := ⟨_, aCMeter, CLMeter, nAMeter_tallies⟩
  have X2 : XFact K (.noat (Str.ofString "Meter") (Str.ofString "most")) := ⟨_, aCMeter, CLMeter, nAMeter_most⟩
  have X3 : XFact K (.rse (Str.ofString "NoStream")) := ⟨_, aCNoStream, rENoStream, rKNoStream, eSNoStream, eTNoStream⟩
  have X4 : XFact K (.rse (Str.ofString "TooLong")) := ⟨_, aCTooLong, rETooLong, rKTooLong, eSTooLong, eTTooLong⟩
  have X5 : XFact K (.rse (Str.ofString "TooMuch")) := ⟨_, aCTooMuch, rETooMuch, rKTooMuch, eSTooMuch, eTTooMuch⟩
  have X6 : XFact K (.rse (Str.ofString "NoBack")) := ⟨_, aCNoBack, rENoBack, rKNoBack, eSNoBack, eTNoBack⟩
  have X7 : XFact K (.exm (Str.ofString "NoStream") (Str.ofString "CurveError")) := ⟨_, _, aCNoStream, aCCurveError, by rw [show subX (Str.ofString "NoStream") (Str.ofString "CurveError") = true from by decide +kernel]; exact PySem.W.exm_ref eSCurveError eDCurveError eTCurveError eXNoStream_CurveError⟩
  have X8 : XFact K (.exm (Str.ofString "TooMuch") (Str.ofString "CurveError")) := ⟨_, _, aCTooMuch, aCCurveError, by rw [show subX (Str.ofString "TooMuch") (Str.ofString "CurveError") = true from by decide +kernel]; exact PySem.W.exm_ref eSCurveError eDCurveError eTCurveError eXTooMuch_CurveError⟩
  have X9 : XFact K (.exm (Str.ofString "TooLong") (Str.ofString "CurveError")) := ⟨_, _, aCTooLong, aCCurveError, by rw [show subX (Str.ofString "TooLong") (Str.ofString "CurveError") = true from by decide +kernel]; exact PySem.W.exm_ref eSCurveError eDCurveError eTCurveError eXTooLong_CurveError⟩
  have X10 : XFact K (.exm (Str.ofString "NoBack") (Str.ofString "CurveError")) := ⟨_, _, aCNoBack, aCCurveError, by rw [show subX (Str.ofString "NoBack") (Str.ofString "CurveError") = true from by decide +kernel]; exact PySem.W.exm_ref eSCurveError eDCurveError eTCurveError eXNoBack_CurveError⟩
  have X11 : XFact K (.exc (Str.ofString "NoStream")) := ⟨_, aCNoStream, ⟨q1NoStream, q2NoStream, eSNoStream, eDNoStream, q5NoStream, q6, q7, q8NoStream⟩⟩
  have X12 : XFact K (.kit (Str.ofString "NoStream") (Str.ofString "Endless")) := ⟨_, _, aCNoStream, .inl ⟨_, aCEndless, rfl⟩, by rw [show subX (Str.ofString "NoStream") (Str.ofString "Endless") = false from by decide +kernel]; exact kit_ref eDEndless eTEndless eXNoStream_Endless fun h => by rw [h] at dXNoStream_Endless; simp at dXNoStream_Endless⟩
  have X13 : XFact K (.kit (Str.ofString "NoStream") (Str.ofString "NoCurve")) := ⟨_, _, aCNoStream, .inl ⟨_, aCNoCurve, rfl⟩, by rw [show subX (Str.ofString "NoStream") (Str.ofString "NoCurve") = false from by decide +kernel]; exact kit_ref eDNoCurve eTNoCurve eXNoStream_NoCurve fun h => by rw [h] at dXNoStream_NoCurve; simp at dXNoStream_NoCurve⟩
  have X14 : XFact K (.kit (Str.ofString "NoStream") (Str.ofString "NoName")) := ⟨_, _, aCNoStream, .inl ⟨_, aCNoName, rfl⟩, by rw [show subX (Str.ofString "NoStream") (Str.ofString "NoName") = false from by decide +kernel]; exact kit_ref eDNoName eTNoName eXNoStream_NoName fun h => by rw [h] at dXNoStream_NoName; simp at dXNoStream_NoName⟩
  have X15 : XFact K (.kit (Str.ofString "NoStream") (Str.ofString "NoNet")) := ⟨_, _, aCNoStream, .inl ⟨_, aCNoNet, rfl⟩, by rw [show subX (Str.ofString "NoStream") (Str.ofString "NoNet") = false from by decide +kernel]; exact kit_ref eDNoNet eTNoNet eXNoStream_NoNet fun h => by rw [h] at dXNoStream_NoNet; simp at dXNoStream_NoNet⟩
  have X16 : XFact K (.kit (Str.ofString "NoStream") (Str.ofString "NoRow")) := ⟨_, _, aCNoStream, .inl ⟨_, aCNoRow, rfl⟩, by rw [show subX (Str.ofString "NoStream") (Str.ofString "NoRow") = false from by decide +kernel]; exact kit_ref eDNoRow eTNoRow eXNoStream_NoRow fun h => by rw [h] at dXNoStream_NoRow; simp at dXNoStream_NoRow⟩
  have X17 : XFact K (.kit (Str.ofString "NoStream") (Str.ofString "NoText")) := ⟨_, _, aCNoStream, .inl ⟨_, aCNoText, rfl⟩, by rw [show subX (Str.ofString "NoStream") (Str.ofString "NoText") = false from by decide +kernel]; exact kit_ref eDNoText eTNoText eXNoStream_NoText fun h => by rw [h] at dXNoStream_NoText; simp at dXNoStream_NoText⟩
  have X18 : XFact K (.kit (Str.ofString "NoStream") (Str.ofString "Ring")) := ⟨_, _, aCNoStream, .inl ⟨_, aCRing, rfl⟩, by rw [show subX (Str.ofString "NoStream") (Str.ofString "Ring") = false from by decide +kernel]; exact kit_ref eDRing eTRing eXNoStream_Ring fun h => by rw [h] at dXNoStream_Ring; simp at dXNoStream_Ring⟩
  have X19 : XFact K (.kit (Str.ofString "NoStream") (Str.ofString "TooLittle")) := ⟨_, _, aCNoStream, .inl ⟨_, aCTooLittle, rfl⟩, by rw [show subX (Str.ofString "NoStream") (Str.ofString "TooLittle") = false from by decide +kernel]; exact kit_ref eDTooLittle eTTooLittle eXNoStream_TooLittle fun h => by rw [h] at dXNoStream_TooLittle; simp at dXNoStream_TooLittle⟩
  have X20 : XFact K (.exc (Str.ofString "TooMuch")) := ⟨_, aCTooMuch, ⟨q1TooMuch, q2TooMuch, eSTooMuch, eDTooMuch, q5TooMuch, q6, q7, q8TooMuch⟩⟩
  have X21 : XFact K (.kit (Str.ofString "TooMuch") (Str.ofString "Endless")) := ⟨_, _, aCTooMuch, .inl ⟨_, aCEndless, rfl⟩, by rw [show subX (Str.ofString "TooMuch") (Str.ofString "Endless") = false from by decide +kernel]; exact kit_ref eDEndless eTEndless eXTooMuch_Endless fun h => by rw [h] at dXTooMuch_Endless; simp at dXTooMuch_Endless⟩
  have X22 : XFact K (.kit (Str.ofString "TooMuch") (Str.ofString "NoCurve")) := ⟨_, _, aCTooMuch, .inl ⟨_, aCNoCurve, rfl⟩, by rw [show subX (Str.ofString "TooMuch") (Str.ofString "NoCurve") = false from by decide +kernel]; exact kit_ref eDNoCurve eTNoCurve eXTooMuch_NoCurve fun h => by rw [h] at dXTooMuch_NoCurve; simp at dXTooMuch_NoCurve⟩
  have X23 : XFact K (.kit (Str.ofString "TooMuch") (Str.ofString "NoName")) := ⟨_, _, aCTooMuch, .inl ⟨_, aCNoName, rfl⟩, by rw [show subX (Str.ofString "TooMuch") (Str.ofString "NoName") = false from by decide +kernel]; exact kit_ref eDNoName eTNoName eXTooMuch_NoName fun h => by rw [h] at dXTooMuch_NoName; simp at dXTooMuch_NoName⟩
  have X24 : XFact K (.kit (Str.ofString "TooMuch") (Str.ofString "NoNet")) := ⟨_, _, aCTooMuch, .inl ⟨_, aCNoNet, rfl⟩, by rw [show subX (Str.ofString "TooMuch") (Str.ofString "NoNet") = false from by decide +kernel]; exact kit_ref eDNoNet eTNoNet eXTooMuch_NoNet fun h => by rw [h] at dXTooMuch_NoNet; simp at dXTooMuch_NoNet⟩
  have X25 : XFact K (.kit (Str.ofString "TooMuch") (Str.ofString "NoRow")) := ⟨_, _, aCTooMuch, .inl ⟨_, aCNoRow, rfl⟩, by rw [show subX (Str.ofString "TooMuch") (Str.ofString "NoRow") = false from by decide +kernel]; exact kit_ref eDNoRow eTNoRow eXTooMuch_NoRow fun h => by rw [h] at dXTooMuch_NoRow; simp at dXTooMuch_NoRow⟩
  have X26 : XFact K (.kit (Str.ofString "TooMuch") (Str.ofString "NoText")) := ⟨_, _, aCTooMuch, .inl ⟨_, aCNoText, rfl⟩, by rw [show subX (Str.ofString "TooMuch") (Str.ofString "NoText") = false from by decide +kernel]; exact kit_ref eDNoText eTNoText eXTooMuch_NoText fun h => by rw [h] at dXTooMuch_NoText; simp at dXTooMuch_NoText⟩
  have X27 : XFact K (.kit (Str.ofString "TooMuch") (Str.ofString "Ring")) := ⟨_, _, aCTooMuch, .inl ⟨_, aCRing, rfl⟩, by rw [show subX (Str.ofString "TooMuch") (Str.ofString "Ring") = false from by decide +kernel]; exact kit_ref eDRing eTRing eXTooMuch_Ring fun h => by rw [h] at dXTooMuch_Ring; simp at dXTooMuch_Ring⟩
  have X28 : XFact K (.kit (Str.ofString "TooMuch") (Str.ofString "TooLittle")) := ⟨_, _, aCTooMuch, .inl ⟨_, aCTooLittle, rfl⟩, by rw [show subX (Str.ofString "TooMuch") (Str.ofString "TooLittle") = false from by decide +kernel]; exact kit_ref eDTooLittle eTTooLittle eXTooMuch_TooLittle fun h => by rw [h] at dXTooMuch_TooLittle; simp at dXTooMuch_TooLittle⟩
  have X29 : XFact K (.exc (Str.ofString "TooLong")) := ⟨_, aCTooLong, ⟨q1TooLong, q2TooLong, eSTooLong, eDTooLong, q5TooLong, q6, q7, q8TooLong⟩⟩
  have X30 : XFact K (.kit (Str.ofString "TooLong") (Str.ofString "Endless")) := ⟨_, _, aCTooLong, .inl ⟨_, aCEndless, rfl⟩, by rw [show subX (Str.ofString "TooLong") (Str.ofString "Endless") = false from by decide +kernel]; exact kit_ref eDEndless eTEndless eXTooLong_Endless fun h => by rw [h] at dXTooLong_Endless; simp at dXTooLong_Endless⟩
  have X31 : XFact K (.kit (Str.ofString "TooLong") (Str.ofString "NoCurve")) := ⟨_, _, aCTooLong, .inl ⟨_, aCNoCurve, rfl⟩, by rw [show subX (Str.ofString "TooLong") (Str.ofString "NoCurve") = false from by decide +kernel]; exact kit_ref eDNoCurve eTNoCurve eXTooLong_NoCurve fun h => by rw [h] at dXTooLong_NoCurve; simp at dXTooLong_NoCurve⟩
  have X32 : XFact K (.kit (Str.ofString "TooLong") (Str.ofString "NoName")) := ⟨_, _, aCTooLong, .inl ⟨_, aCNoName, rfl⟩, by rw [show subX (Str.ofString "TooLong") (Str.ofString "NoName") = false from by decide +kernel]; exact kit_ref eDNoName eTNoName eXTooLong_NoName fun h => by rw [h] at dXTooLong_NoName; simp at dXTooLong_NoName⟩
  have X33 : XFact K (.kit (Str.ofString "TooLong") (Str.ofString "NoNet")) := ⟨_, _, aCTooLong, .inl ⟨_, aCNoNet, rfl⟩, by rw [show subX (Str.ofString "TooLong") (Str.ofString "NoNet") = false from by decide +kernel]; exact kit_ref eDNoNet eTNoNet eXTooLong_NoNet fun h => by rw [h] at dXTooLong_NoNet; simp at dXTooLong_NoNet⟩
  have X34 : XFact K (.kit (Str.ofString "TooLong") (Str.ofString "NoRow")) := ⟨_, _, aCTooLong, .inl ⟨_, aCNoRow, rfl⟩, by rw [show subX (Str.ofString "TooLong") (Str.ofString "NoRow") = false from by decide +kernel]; exact kit_ref eDNoRow eTNoRow eXTooLong_NoRow fun h => by rw [h] at dXTooLong_NoRow; simp at dXTooLong_NoRow⟩
  have X35 : XFact K (.kit (Str.ofString "TooLong") (Str.ofString "NoText")) := ⟨_, _, aCTooLong, .inl ⟨_, aCNoText, rfl⟩, by rw [show subX (Str.ofString "TooLong") (Str.ofString "NoText") = false from by decide +kernel]; exact kit_ref eDNoText eTNoText eXTooLong_NoText fun h => by rw [h] at dXTooLong_NoText; simp at dXTooLong_NoText⟩
  have X36 : XFact K (.kit (Str.ofString "TooLong") (Str.ofString "Ring")) := ⟨_, _, aCTooLong, .inl ⟨_, aCRing, rfl⟩, by rw [show subX (Str.ofString "TooLong") (Str.ofString "Ring") = false from by decide +kernel]; exact kit_ref eDRing eTRing eXTooLong_Ring fun h => by rw [h] at dXTooLong_Ring; simp at dXTooLong_Ring⟩
  have X37 : XFact K (.kit (Str.ofString "TooLong") (Str.ofString "TooLittle")) := ⟨_, _, aCTooLong, .inl ⟨_, aCTooLittle, rfl⟩, by rw [show subX (Str.ofString "TooLong") (Str.ofString "TooLittle") = false from by decide +kernel]; exact kit_ref eDTooLittle eTTooLittle eXTooLong_TooLittle fun h => by rw [h] at dXTooLong_TooLittle; simp at dXTooLong_TooLittle⟩
  have X38 : XFact K (.exc (Str.ofString "NoBack")) := ⟨_, aCNoBack, ⟨q1NoBack, q2NoBack, eSNoBack, eDNoBack, q5NoBack, q6, q7, q8NoBack⟩⟩
  have X39 : XFact K (.kit (Str.ofString "NoBack") (Str.ofString "Endless")) := ⟨_, _, aCNoBack, .inl ⟨_, aCEndless, rfl⟩, by rw [show subX (Str.ofString "NoBack") (Str.ofString "Endless") = false from by decide +kernel]; exact kit_ref eDEndless eTEndless eXNoBack_Endless fun h => by rw [h] at dXNoBack_Endless; simp at dXNoBack_Endless⟩
  have X40 : XFact K (.kit (Str.ofString "NoBack") (Str.ofString "NoCurve")) := ⟨_, _, aCNoBack, .inl ⟨_, aCNoCurve, rfl⟩, by rw [show subX (Str.ofString "NoBack") (Str.ofString "NoCurve") = false from by decide +kernel]; exact kit_ref eDNoCurve eTNoCurve eXNoBack_NoCurve fun h => by rw [h] at dXNoBack_NoCurve; simp at dXNoBack_NoCurve⟩
  have X41 : XFact K (.kit (Str.ofString "NoBack") (Str.ofString "NoName")) := ⟨_, _, aCNoBack, .inl ⟨_, aCNoName, rfl⟩, by rw [show subX (Str.ofString "NoBack") (Str.ofString "NoName") = false from by decide +kernel]; exact kit_ref eDNoName eTNoName eXNoBack_NoName fun h => by rw [h] at dXNoBack_NoName; simp at dXNoBack_NoName⟩
  have X42 : XFact K (.kit (Str.ofString "NoBack") (Str.ofString "NoNet")) := ⟨_, _, aCNoBack, .inl ⟨_, aCNoNet, rfl⟩, by rw [show subX (Str.ofString "NoBack") (Str.ofString "NoNet") = false from by decide +kernel]; exact kit_ref eDNoNet eTNoNet eXNoBack_NoNet fun h => by rw [h] at dXNoBack_NoNet; simp at dXNoBack_NoNet⟩
  have X43 : XFact K (.kit (Str.ofString "NoBack") (Str.ofString "NoRow")) := ⟨_, _, aCNoBack, .inl ⟨_, aCNoRow, rfl⟩, by rw [show subX (Str.ofString "NoBack") (Str.ofString "NoRow") = false from by decide +kernel]; exact kit_ref eDNoRow eTNoRow eXNoBack_NoRow fun h => by rw [h] at dXNoBack_NoRow; simp at dXNoBack_NoRow⟩
  have X44 : XFact K (.kit (Str.ofString "NoBack") (Str.ofString "NoText")) := ⟨_, _, aCNoBack, .inl ⟨_, aCNoText, rfl⟩, by rw [show subX (Str.ofString "NoBack") (Str.ofString "NoText") = false from by decide +kernel]; exact kit_ref eDNoText eTNoText eXNoBack_NoText fun h => by rw [h] at dXNoBack_NoText; simp at dXNoBack_NoText⟩
  have X45 : XFact K (.kit (Str.ofString "NoBack") (Str.ofString "Ring")) := ⟨_, _, aCNoBack, .inl ⟨_, aCRing, rfl⟩, by rw [show subX (Str.ofString "NoBack") (Str.ofString "Ring") = false from by decide +kernel]; exact kit_ref eDRing eTRing eXNoBack_Ring fun h => by rw [h] at dXNoBack_Ring; simp at dXNoBack_Ring⟩
  have X46 : XFact K (.kit (Str.ofString "NoBack") (Str.ofString "TooLittle")) := ⟨_, _, aCNoBack, .inl ⟨_, aCTooLittle, rfl⟩, by rw [show subX (Str.ofString "NoBack") (Str.ofString "TooLittle") = false from by decide +kernel]; exact kit_ref eDTooLittle eTTooLittle eXNoBack_TooLittle fun h => by rw [h] at dXNoBack_TooLittle; simp at dXNoBack_TooLittle⟩
  have X47 : XFact K (.kit (Str.ofString "NoStream") (Str.ofString "TooMuch")) := ⟨_, _, aCNoStream, .inl ⟨_, aCTooMuch, rfl⟩, by rw [show subX (Str.ofString "NoStream") (Str.ofString "TooMuch") = false from by decide +kernel]; exact kit_ref eDTooMuch eTTooMuch eXNoStream_TooMuch fun h => by rw [h] at dXNoStream_TooMuch; simp at dXNoStream_TooMuch⟩
  have X48 : XFact K (.kit (Str.ofString "TooMuch") (Str.ofString "TooMuch")) := ⟨_, _, aCTooMuch, .inl ⟨_, aCTooMuch, rfl⟩, by rw [show subX (Str.ofString "TooMuch") (Str.ofString "TooMuch") = true from by decide +kernel]; exact kit_ref eDTooMuch eTTooMuch eXTooMuch_TooMuch fun _ => rfl⟩
  have X49 : XFact K (.kit (Str.ofString "TooLong") (Str.ofString "TooMuch")) := ⟨_, _, aCTooLong, .inl ⟨_, aCTooMuch, rfl⟩, by rw [show subX (Str.ofString "TooLong") (Str.ofString "TooMuch") = false from by decide +kernel]; exact kit_ref eDTooMuch eTTooMuch eXTooLong_TooMuch fun h => by rw [h] at dXTooLong_TooMuch; simp at dXTooLong_TooMuch⟩
  have X50 : XFact K (.kit (Str.ofString "NoBack") (Str.ofString "TooMuch")) := ⟨_, _, aCNoBack, .inl ⟨_, aCTooMuch, rfl⟩, by rw [show subX (Str.ofString "NoBack") (Str.ofString "TooMuch") = false from by decide +kernel]; exact kit_ref eDTooMuch eTTooMuch eXNoBack_TooMuch fun h => by rw [h] at dXNoBack_TooMuch; simp at dXNoBack_TooMuch⟩
  have X51 : XFact K (.kit (Str.ofString "NoStream") (Str.ofString "NoStream")) := ⟨_, _, aCNoStream, .inl ⟨_, aCNoStream, rfl⟩, by rw [show subX (Str.ofString "NoStream") (Str.ofString "NoStream") = true from by decide +kernel]; exact kit_ref eDNoStream eTNoStream eXNoStream_NoStream fun _ => rfl⟩
  have X52 : XFact K (.kit (Str.ofString "TooMuch") (Str.ofString "NoStream")) := ⟨_, _, aCTooMuch, .inl ⟨_, aCNoStream, rfl⟩, by rw [show subX (Str.ofString "TooMuch") (Str.ofString "NoStream") = false from by decide +kernel]; exact kit_ref eDNoStream eTNoStream eXTooMuch_NoStream fun h => by rw [h] at dXTooMuch_NoStream; simp at dXTooMuch_NoStream⟩
  have X53 : XFact K (.kit (Str.ofString "TooLong") (Str.ofString "NoStream")) := ⟨_, _, aCTooLong, .inl ⟨_, aCNoStream, rfl⟩, by rw [show subX (Str.ofString "TooLong") (Str.ofString "NoStream") = false from by decide +kernel]; exact kit_ref eDNoStream eTNoStream eXTooLong_NoStream fun h => by rw [h] at dXTooLong_NoStream; simp at dXTooLong_NoStream⟩
  have X54 : XFact K (.kit (Str.ofString "NoBack") (Str.ofString "NoStream")) := ⟨_, _, aCNoBack, .inl ⟨_, aCNoStream, rfl⟩, by rw [show subX (Str.ofString "NoBack") (Str.ofString "NoStream") = false from by decide +kernel]; exact kit_ref eDNoStream eTNoStream eXNoBack_NoStream fun h => by rw [h] at dXNoBack_NoStream; simp at dXNoBack_NoStream⟩
  have X55 : XFact K (.kit (Str.ofString "NoStream") (Str.ofString "NoBack")) := ⟨_, _, aCNoStream, .inl ⟨_, aCNoBack, rfl⟩, by rw [show subX (Str.ofString "NoStream") (Str.ofString "NoBack") = false from by decide +kernel]; exact kit_ref eDNoBack eTNoBack eXNoStream_NoBack fun h => by rw [h] at dXNoStream_NoBack; simp at dXNoStream_NoBack⟩
  have X56 : XFact K (.kit (Str.ofString "TooMuch") (Str.ofString "NoBack")) := ⟨_, _, aCTooMuch, .inl ⟨_, aCNoBack, rfl⟩, by rw [show subX (Str.ofString "TooMuch") (Str.ofString "NoBack") = false from by decide +kernel]; exact kit_ref eDNoBack eTNoBack eXTooMuch_NoBack fun h => by rw [h] at dXTooMuch_NoBack; simp at dXTooMuch_NoBack⟩
  have X57 : XFact K (.kit (Str.ofString "TooLong") (Str.ofString "NoBack")) := ⟨_, _, aCTooLong, .inl ⟨_, aCNoBack, rfl⟩, by rw [show subX (Str.ofString "TooLong") (Str.ofString "NoBack") = false from by decide +kernel]; exact kit_ref eDNoBack eTNoBack eXTooLong_NoBack fun h => by rw [h] at dXTooLong_NoBack; simp at dXTooLong_NoBack⟩
  have X58 : XFact K (.kit (Str.ofString "NoBack") (Str.ofString "NoBack")) := ⟨_, _, aCNoBack, .inl ⟨_, aCNoBack, rfl⟩, by rw [show subX (Str.ofString "NoBack") (Str.ofString "NoBack") = true from by decide +kernel]; exact kit_ref eDNoBack eTNoBack eXNoBack_NoBack fun _ => rfl⟩
  have X59 : XFact K (.kit (Str.ofString "NoStream") (Str.ofString "TooLong")) := ⟨_, _, aCNoStream, .inl ⟨_, aCTooLong, rfl⟩, by rw [show subX (Str.ofString "NoStream") (Str.ofString "TooLong") = false from by decide +kernel]; exact kit_ref eDTooLong eTTooLong eXNoStream_TooLong fun h => by rw [h] at dXNoStream_TooLong; simp at dXNoStream_TooLong⟩
  have X60 : XFact K (.kit (Str.ofString "TooMuch") (Str.ofString "TooLong")) := ⟨_, _, aCTooMuch, .inl ⟨_, aCTooLong, rfl⟩, by rw [show subX (Str.ofString "TooMuch") (Str.ofString "TooLong") = false from by decide +kernel]; exact kit_ref eDTooLong eTTooLong eXTooMuch_TooLong fun h => by rw [h] at dXTooMuch_TooLong; simp at dXTooMuch_TooLong⟩
  have X61 : XFact K (.kit (Str.ofString "TooLong") (Str.ofString "TooLong")) := ⟨_, _, aCTooLong, .inl ⟨_, aCTooLong, rfl⟩, by rw [show subX (Str.ofString "TooLong") (Str.ofString "TooLong") = true from by decide +kernel]; exact kit_ref eDTooLong eTTooLong eXTooLong_TooLong fun _ => rfl⟩
  have X62 : XFact K (.kit (Str.ofString "NoBack") (Str.ofString "TooLong")) := ⟨_, _, aCNoBack, .inl ⟨_, aCTooLong, rfl⟩, by rw [show subX (Str.ofString "NoBack") (Str.ofString "TooLong") = false from by decide +kernel]; exact kit_ref eDTooLong eTTooLong eXNoBack_TooLong fun h => by rw [h] at dXNoBack_TooLong; simp at dXNoBack_TooLong⟩
  have X63 : XFact K (.kit (Str.ofString "NoStream") (Str.ofString "ValueError")) := ⟨_, _, aCNoStream, .inr ⟨zV, "ValueError", rfl, by decide +kernel, by decide⟩, by rw [show subX (Str.ofString "NoStream") (Str.ofString "ValueError") = true from by decide +kernel]; exact kit_typ (by decide +kernel) kXNoStream_V⟩
  have X64 : XFact K (.kit (Str.ofString "TooMuch") (Str.ofString "ValueError")) := ⟨_, _, aCTooMuch, .inr ⟨zV, "ValueError", rfl, by decide +kernel, by decide⟩, by rw [show subX (Str.ofString "TooMuch") (Str.ofString "ValueError") = true from by decide +kernel]; exact kit_typ (by decide +kernel) kXTooMuch_V⟩
  have X65 : XFact K (.kit (Str.ofString "TooLong") (Str.ofString "ValueError")) := ⟨_, _, aCTooLong, .inr ⟨zV, "ValueError", rfl, by decide +kernel, by decide⟩, by rw [show subX (Str.ofString "TooLong") (Str.ofString "ValueError") = true from by decide +kernel]; exact kit_typ (by decide +kernel) kXTooLong_V⟩
  have X66 : XFact K (.kit (Str.ofString "NoBack") (Str.ofString "ValueError")) := ⟨_, _, aCNoBack, .inr ⟨zV, "ValueError", rfl, by decide +kernel, by decide⟩, by rw [show subX (Str.ofString "NoBack") (Str.ofString "ValueError") = true from by decide +kernel]; exact kit_typ (by decide +kernel) kXNoBack_V⟩
  have TU : ((tabsOf K).map (·.1)).Nodup := by
    have e : (tabsOf K).map (·.1) = [tp0, tp1, tp2] := by
      show (List.filterMap _ [Str.ofString "_law_refused", Str.ofString "_law_filled", Str.ofString "law"]).map _ = _
      simp only [List.filterMap_cons, List.filterMap_nil, u0, u1, u2, Option.map_some, List.map_cons, List.map_nil]
    rw [e]; exact tq
  refine ⟨PySem.W.fnOf "law" "law" (defArgs s_law) (defBody s_law) (defScope s_law) .none kV19 dc19 pm19 an19 cd19 ct19, fun s v => .of_eq rfl, fun base _ _ sy TBS => ?_⟩
  have O0 : FnG l.prog w K mg base (L2.CX l.prog w) 1 _ _ _ (liftSp K sp_is_number) := def_ok (S := S_is_number) (sps := []) (ds := []) sy F0 sc_is_number ck_is_number (.nil) MK (List.forall_mem_nil _) (.nil) (List.forall_mem_cons.mpr ⟨Z0, List.forall_mem_cons.mpr ⟨Z1, List.forall_mem_cons.mpr ⟨Z2, List.forall_mem_nil _⟩⟩⟩) len_is_number hb_is_number
  have O1 : FnG l.prog w K mg base (L2.CX l.prog w) 1 _ _ _ (liftSp K sp_value) := def_ok (S := S_value) (sps := []) (ds := []) sy F1 sc_value ck_value (.nil) MK (List.forall_mem_nil _) (.nil) (List.forall_mem_cons.mpr ⟨Z3, List.forall_mem_nil _⟩) len_value hb_value
  have O2 : FnG l.prog w K mg base (L2.CX l.prog w) 1 _ _ _ (liftSp K sp_Meter_init) := def_ok (S := S_Meter_init) (sps := []) (ds := []) sy F2 sc_Meter_init ck_Meter_init (.nil) MK (List.forall_mem_cons.mpr ⟨X0, List.forall_mem_cons.mpr ⟨X1, List.forall_mem_cons.mpr ⟨X2, List.forall_mem_nil _⟩⟩⟩) (.nil) (List.forall_mem_nil _) len_Meter_init hb_Meter_init
  have O3 : FnG l.prog w K mg base (L2.CX l.prog w) 2 _ _ _ (liftSp K sp_Meter_need_room) := def_ok (S := S_Meter_need_room) (sps := [sp_is_number]) (ds := [.int 400]) sy F3 sc_Meter_need_room ck_Meter_need_room (.cons O0 (by decide) (PySem.W.mg_of X G a0) F0.kp B0 (by decide +kernel) (.nil)) MK (List.forall_mem_cons.mpr ⟨X3, List.forall_mem_cons.mpr ⟨X1, List.forall_mem_cons.mpr ⟨X4, List.forall_mem_nil _⟩⟩⟩) (.cons (d := .int 400) (v := .int 400) (PySem.W.mg_of X G y0) ⟨_, rfl⟩ (fun _ => rfl) (.nil)) (List.forall_mem_cons.mpr ⟨Z3, List.forall_mem_nil _⟩) len_Meter_need_room hb_Meter_need_room
  have O4 : FnG l.prog w K mg base (L2.CX l.prog w) 2 _ _ _ (liftSp K sp_Meter_leave) := def_ok (S := S_Meter_leave) (sps := [sp_value]) (ds := []) sy F4 sc_Meter_leave ck_Meter_leave (.cons O1 (by decide) (PySem.W.mg_of X G a1) F1.kp B1 (by decide +kernel) (.nil)) MK (List.forall_mem_cons.mpr ⟨X1, List.forall_mem_cons.mpr ⟨X2, List.forall_mem_cons.mpr ⟨X0, List.forall_mem_nil _⟩⟩⟩) (.nil) (List.forall_mem_cons.mpr ⟨Z3, List.forall_mem_cons.mpr ⟨Z4, List.forall_mem_cons.mpr ⟨Z5, List.forall_mem_nil _⟩⟩⟩) len_Meter_leave hb_Meter_leave
  have O5 : FnG l.prog w K mg base (L2.CX l.prog w) 4 _ _ _ (liftSp K sp_Meter_come) := def_ok (S := S_Meter_come) (sps := [sp_is_number, sp_Meter_need_room, sp_Meter_leave]) (ds := []) sy F5 sc_Meter_come ck_Meter_come (.cons O0 (by decide) (PySem.W.mg_of X G a0) F0.kp B0 (by decide +kernel) (.consM O3 (by decide) aCMeter CLMeter ⟨a3, i3, F3.kp⟩ (fun h => absurd h (by decide +kernel)) B3 (by decide +kernel) (.consM O4 (by decide) aCMeter CLMeter ⟨a4, i4, F4.kp⟩ (fun h => absurd h (by decide +kernel)) B4 (by decide +kernel) (.nil)))) MK (List.forall_mem_cons.mpr ⟨X3, List.forall_mem_cons.mpr ⟨X5, List.forall_mem_cons.mpr ⟨X1, List.forall_mem_nil _⟩⟩⟩) (.nil) (List.forall_mem_nil _) len_Meter_come hb_Meter_come
  have O6 : FnG l.prog w K mg base (L2.CX l.prog w) 4 _ _ _ (liftSp K sp_Meter_rest) := def_ok (S := S_Meter_rest) (sps := [sp_Meter_need_room, sp_Meter_leave]) (ds := []) sy F6 sc_Meter_rest ck_Meter_rest (.consM O3 (by decide) aCMeter CLMeter ⟨a3, i3, F3.kp⟩ (fun h => absurd h (by decide +kernel)) B3 (by decide +kernel) (.consM O4 (by decide) aCMeter CLMeter ⟨a4, i4, F4.kp⟩ (fun h => absurd h (by decide +kernel)) B4 (by decide +kernel) (.nil))) MK (List.forall_mem_cons.mpr ⟨X1, List.forall_mem_nil _⟩) (.nil) (List.forall_mem_nil _) len_Meter_rest hb_Meter_rest
  have O7 : FnG l.prog w K mg base (L2.CX l.prog w) 1 _ _ _ (liftSp K sp_Meter_back) := def_ok (S := S_Meter_back) (sps := []) (ds := []) sy F7 sc_Meter_back ck_Meter_back (.nil) MK (List.forall_mem_cons.mpr ⟨X1, List.forall_mem_cons.mpr ⟨X6, List.forall_mem_nil _⟩⟩) (.nil) (List.forall_mem_cons.mpr ⟨Z3, List.forall_mem_nil _⟩) len_Meter_back hb_Meter_back
  have O8 : FnG l.prog w K mg base (L2.CX l.prog w) 1 _ _ _ (liftSp K sp_Meter_told) := def_ok (S := S_Meter_told) (sps := []) (ds := []) sy F8 sc_Meter_told ck_Meter_told (.nil) MK (List.forall_mem_cons.mpr ⟨X1, List.forall_mem_nil _⟩) (.nil) (List.forall_mem_cons.mpr ⟨Z5, List.forall_mem_cons.mpr ⟨Z3, List.forall_mem_nil _⟩⟩) len_Meter_told hb_Meter_told
  have O9 : FnG l.prog w K mg base (L2.CX l.prog w) 1 _ _ _ (liftSp K sp_law_pen) := def_ok (S := S_law_pen) (sps := []) (ds := []) sy F9 sc_law_pen ck_law_pen (.nil) MK (List.forall_mem_nil _) (.nil) (List.forall_mem_cons.mpr ⟨Z6, List.forall_mem_nil _⟩) len_law_pen hb_law_pen
  have O10 : FnG l.prog w K mg base (L2.CX l.prog w) 1 _ _ _ (liftSp K sp_law_take) := def_ok (S := S_law_take) (sps := []) (ds := []) sy F10 sc_law_take ck_law_take (.nil) MK (List.forall_mem_nil _) (.nil) (List.forall_mem_cons.mpr ⟨Z3, List.forall_mem_cons.mpr ⟨Z7, List.forall_mem_nil _⟩⟩) len_law_take hb_law_take
  have O11 : FnG l.prog w K mg base (L2.CX l.prog w) 1 _ _ _ (liftSp K sp_law_at) := def_ok (S := S_law_at) (sps := []) (ds := []) sy F11 sc_law_at ck_law_at (.nil) MK (List.forall_mem_nil _) (.nil) (List.forall_mem_cons.mpr ⟨Z3, List.forall_mem_nil _⟩) len_law_at hb_law_at
  have O12 : FnG l.prog w K mg base (L2.CX l.prog w) 2 _ _ _ (liftSp K sp_law_curve) := def_ok (S := S_law_curve) (sps := [sp_law_take]) (ds := []) sy F12 sc_law_curve ck_law_curve (.cons O10 (by decide) (PySem.W.mg_of X G a10) F10.kp B10 (by decide +kernel) (.nil)) MK (List.forall_mem_nil _) (.nil) (List.forall_mem_cons.mpr ⟨Z5, List.forall_mem_cons.mpr ⟨Z8, List.forall_mem_nil _⟩⟩) len_law_curve hb_law_curve
  have O13 : LamG l.prog w K mg base 0 "_law_word" sp_law_word := lam_ok (S := S_law_word) (sps := []) (ds := []) (PySem.W.mg_of X G a13) sy F13 sc_law_word ck_law_word B13 (fun th => .consT (by decide +kernel) .nil) MK (List.forall_mem_cons.mpr ⟨X7, List.forall_mem_cons.mpr ⟨X8, List.forall_mem_cons.mpr ⟨X9, List.forall_mem_cons.mpr ⟨X10, List.forall_mem_cons.mpr ⟨X11, List.forall_mem_cons.mpr ⟨X12, List.forall_mem_cons.mpr ⟨X13, List.forall_mem_cons.mpr ⟨X14, List.forall_mem_cons.mpr ⟨X15, List.forall_mem_cons.mpr ⟨X16, List.forall_mem_cons.mpr ⟨X17, List.forall_mem_cons.mpr ⟨X18, List.forall_mem_cons.mpr ⟨X19, List.forall_mem_cons.mpr ⟨X20, List.forall_mem_cons.mpr ⟨X21, List.forall_mem_cons.mpr ⟨X22, List.forall_mem_cons.mpr ⟨X23, List.forall_mem_cons.mpr ⟨X24, List.forall_mem_cons.mpr ⟨X25, List.forall_mem_cons.mpr ⟨X26, List.forall_mem_cons.mpr ⟨X27, List.forall_mem_cons.mpr ⟨X28, List.forall_mem_cons.mpr ⟨X29, List.forall_mem_cons.mpr ⟨X30, List.forall_mem_cons.mpr ⟨X31, List.forall_mem_cons.mpr ⟨X32, List.forall_mem_cons.mpr ⟨X33, List.forall_mem_cons.mpr ⟨X34, List.forall_mem_cons.mpr ⟨X35, List.forall_mem_cons.mpr ⟨X36, List.forall_mem_cons.mpr ⟨X37, List.forall_mem_cons.mpr ⟨X38, List.forall_mem_cons.mpr ⟨X39, List.forall_mem_cons.mpr ⟨X40, List.forall_mem_cons.mpr ⟨X41, List.forall_mem_cons.mpr ⟨X42, List.forall_mem_cons.mpr ⟨X43, List.forall_mem_cons.mpr ⟨X44, List.forall_mem_cons.mpr ⟨X45, List.forall_mem_cons.mpr ⟨X46, List.forall_mem_cons.mpr ⟨X47, List.forall_mem_cons.mpr ⟨X48, List.forall_mem_cons.mpr ⟨X49, List.forall_mem_cons.mpr ⟨X50, List.forall_mem_cons.mpr ⟨X51, List.forall_mem_cons.mpr ⟨X52, List.forall_mem_cons.mpr ⟨X53, List.forall_mem_cons.mpr ⟨X54, List.forall_mem_cons.mpr ⟨X55, List.forall_mem_cons.mpr ⟨X56, List.forall_mem_cons.mpr ⟨X57, List.forall_mem_cons.mpr ⟨X58, List.forall_mem_cons.mpr ⟨X59, List.forall_mem_cons.mpr ⟨X60, List.forall_mem_cons.mpr ⟨X61, List.forall_mem_cons.mpr ⟨X62, List.forall_mem_cons.mpr ⟨X63, List.forall_mem_cons.mpr ⟨X64, List.forall_mem_cons.mpr ⟨X65, List.forall_mem_cons.mpr ⟨X66, List.forall_mem_nil _⟩⟩⟩⟩⟩⟩⟩⟩⟩⟩⟩⟩⟩⟩⟩⟩⟩⟩⟩⟩⟩⟩⟩⟩⟩⟩⟩⟩⟩⟩⟩⟩⟩⟩⟩⟩⟩⟩⟩⟩⟩⟩⟩⟩⟩⟩⟩⟩⟩⟩⟩⟩⟩⟩⟩⟩⟩⟩⟩⟩) (.nil) (List.forall_mem_cons.mpr ⟨Z0, List.forall_mem_nil _⟩) hb_law_word
  have O14 : FnG l.prog w K mg base (L2.CX l.prog w) 2 _ _ _ (liftSp K sp_law_odd) := def_ok (S := S_law_odd) (sps := [sp_law_take]) (ds := []) sy F14 sc_law_odd ck_law_odd (.cons O10 (by decide) (PySem.W.mg_of X G a10) F10.kp B10 (by decide +kernel) (.nil)) MK (List.forall_mem_nil _) (.nil) (List.forall_mem_cons.mpr ⟨Z3, List.forall_mem_nil _⟩) len_law_odd hb_law_odd
  have O15 : FnG l.prog w K mg base (L2.CX l.prog w) 2 _ _ _ (liftSp K sp_law_leave) := def_ok (S := S_law_leave) (sps := [sp_law_at]) (ds := []) sy F15 sc_law_leave ck_law_leave (.cons O11 (by decide) (PySem.W.mg_of X G a11) F11.kp B11 (by decide +kernel) (.nil)) MK (List.forall_mem_nil _) (.nil) (List.forall_mem_cons.mpr ⟨Z3, List.forall_mem_cons.mpr ⟨Z4, List.forall_mem_cons.mpr ⟨Z5, List.forall_mem_nil _⟩⟩⟩) len_law_leave hb_law_leave
  have O16 : FnG l.prog w K mg base (L2.CX l.prog w) 4 _ _ _ (liftSp K sp_law_stands) := def_ok (S := S_law_stands) (sps := [sp_Meter_told, sp_Meter_leave, sp_law_leave]) (ds := []) sy F16 sc_law_stands ck_law_stands (.consM O8 (by decide) aCMeter CLMeter ⟨a8, i8, F8.kp⟩ (fun h => absurd h (by decide +kernel)) B8 (by decide +kernel) (.consM O4 (by decide) aCMeter CLMeter ⟨a4, i4, F4.kp⟩ (fun h => absurd h (by decide +kernel)) B4 (by decide +kernel) (.cons O15 (by decide) (PySem.W.mg_of X G a15) F15.kp B15 (by decide +kernel) (.nil)))) MK (List.forall_mem_nil _) (.nil) (List.forall_mem_cons.mpr ⟨Z5, List.forall_mem_cons.mpr ⟨Z3, List.forall_mem_nil _⟩⟩) len_law_stands hb_law_stands
  have O17 : FnG l.prog w K mg base (L2.CX l.prog w) 8 _ _ _ (liftSp K sp_law_refused) := def_okL (S := S_law_refused) (sps := [sp_law_take, sp_law_odd, sp_law_leave, sp_law_word, sp_Meter_come, sp_Meter_rest, sp_Meter_back, sp_law_stands]) (ds := []) TBS TU (by decide +kernel) u0 a17 sy F17 sc_law_refused ck_law_refused (.cons O10 (by decide) (PySem.W.mg_of X G a10) F10.kp B10 (by decide +kernel) (.cons O14 (by decide) (PySem.W.mg_of X G a14) F14.kp B14 (by decide +kernel) (.cons O15 (by decide) (PySem.W.mg_of X G a15) F15.kp B15 (by decide +kernel) (.consL O13 (by decide) (by decide +kernel) (.consM O5 (by decide) aCMeter CLMeter ⟨a5, i5, F5.kp⟩ (fun h => absurd h (by decide +kernel)) B5 (by decide +kernel) (.consM O6 (by decide) aCMeter CLMeter ⟨a6, i6, F6.kp⟩ (fun h => absurd h (by decide +kernel)) B6 (by decide +kernel) (.consM O7 (by decide) aCMeter CLMeter ⟨a7, i7, F7.kp⟩ (fun h => absurd h (by decide +kernel)) B7 (by decide +kernel) (.cons O16 (by decide) (PySem.W.mg_of X G a16) F16.kp B16 (by decide +kernel) (.nil))))))))) MK (List.forall_mem_nil _) (.nil) (List.forall_mem_cons.mpr ⟨Z3, List.forall_mem_nil _⟩) len_law_refused hb_law_refused
  have O18 : FnG l.prog w K mg base (L2.CX l.prog w) 8 _ _ _ (liftSp K sp_law_filled) := def_okL (S := S_law_filled) (sps := [sp_law_take, sp_law_odd, sp_Meter_rest, sp_law_leave, sp_law_word, sp_Meter_come, sp_law_stands, sp_Meter_told]) (ds := []) TBS TU (by decide +kernel) u1 a18 sy F18 sc_law_filled ck_law_filled (.cons O10 (by decide) (PySem.W.mg_of X G a10) F10.kp B10 (by decide +kernel) (.cons O14 (by decide) (PySem.W.mg_of X G a14) F14.kp B14 (by decide +kernel) (.consM O6 (by decide) aCMeter CLMeter ⟨a6, i6, F6.kp⟩ (fun h => absurd h (by decide +kernel)) B6 (by decide +kernel) (.cons O15 (by decide) (PySem.W.mg_of X G a15) F15.kp B15 (by decide +kernel) (.consL O13 (by decide) (by decide +kernel) (.consM O5 (by decide) aCMeter CLMeter ⟨a5, i5, F5.kp⟩ (fun h => absurd h (by decide +kernel)) B5 (by decide +kernel) (.cons O16 (by decide) (PySem.W.mg_of X G a16) F16.kp B16 (by decide +kernel) (.consM O8 (by decide) aCMeter CLMeter ⟨a8, i8, F8.kp⟩ (fun h => absurd h (by decide +kernel)) B8 (by decide +kernel) (.nil))))))))) MK (List.forall_mem_nil _) (.nil) (List.forall_mem_cons.mpr ⟨Z3, List.forall_mem_nil _⟩) len_law_filled hb_law_filled
  have O19 : FnG l.prog w K mg base (L2.CX l.prog w) 11 _ _ _ (liftSp K spLawD) := def_okL (S := S_law) (sps := [sp_law_pen, sp_law_curve, sp_Meter_init, sp_law_take, sp_law_refused, sp_law_filled, sp_Meter_back, sp_law_leave, sp_law_word, sp_Meter_come, sp_Meter_rest, sp_law_stands, sp_Meter_told, sp_Meter_leave, sp_law_at]) (ds := []) TBS TU (by decide +kernel) u2 a19 sy F19 sc_law ck_law (.cons O9 (by decide) (PySem.W.mg_of X G a9) F9.kp B9 (by decide +kernel) (.cons O12 (by decide) (PySem.W.mg_of X G a12) F12.kp B12 (by decide +kernel) (.consM O2 (by decide) aCMeter CLMeter ⟨a2, i2, F2.kp⟩ (fun _ => ⟨mkMeter, a2, i2, kcMeter⟩) B2 (by decide +kernel) (.cons O10 (by decide) (PySem.W.mg_of X G a10) F10.kp B10 (by decide +kernel) (.cons O17 (by decide) (PySem.W.mg_of X G a17) F17.kp B17 (by decide +kernel) (.cons O18 (by decide) (PySem.W.mg_of X G a18) F18.kp B18 (by decide +kernel) (.consM O7 (by decide) aCMeter CLMeter ⟨a7, i7, F7.kp⟩ (fun h => absurd h (by decide +kernel)) B7 (by decide +kernel) (.cons O15 (by decide) (PySem.W.mg_of X G a15) F15.kp B15 (by decide +kernel) (.consL O13 (by decide) (by decide +kernel) (.consM O5 (by decide) aCMeter CLMeter ⟨a5, i5, F5.kp⟩ (fun h => absurd h (by decide +kernel)) B5 (by decide +kernel) (.consM O6 (by decide) aCMeter CLMeter ⟨a6, i6, F6.kp⟩ (fun h => absurd h (by decide +kernel)) B6 (by decide +kernel) (.cons O16 (by decide) (PySem.W.mg_of X G a16) F16.kp B16 (by decide +kernel) (.consM O8 (by decide) aCMeter CLMeter ⟨a8, i8, F8.kp⟩ (fun h => absurd h (by decide +kernel)) B8 (by decide +kernel) (.consM O4 (by decide) aCMeter CLMeter ⟨a4, i4, F4.kp⟩ (fun h => absurd h (by decide +kernel)) B4 (by decide +kernel) (.cons O11 (by decide) (PySem.W.mg_of X G a11) F11.kp B11 (by decide +kernel) (.nil)))))))))))))))) MK (List.forall_mem_nil _) (.nil) (List.forall_mem_cons.mpr ⟨Z5, List.forall_mem_nil _⟩) spLaw_len hb_law
  exact O19.weak fun vs H Q E h => law_lift h

end Claim
open PySem PySem.W PyProof.Rows
set_option maxHeartbeats 0 in
theorem PySem.Challenge.cw_arrivalcurves_k55_meters_refuse_holds : PySem.Challenge.rw_arrivalcurves_k55_meters_refuse.Holds := by
  w_on; o_law; k_head; (case hw => w_witness2)
  k_fill
  refine PD.walk_G (l := PySem.Challenge.rw_arrivalcurves_k55_meters_refuse) (k := 11) rfl rfl (by decide +kernel) ⟨rfl, by decide, by decide⟩ (fun w h Y => PySem.W.km_in_of Y) (fun _ => by first | rfl | kernel_rfl) ?F
  case F =>
    intro w mg fa h KX G hmg
    refine' Claim.all_mk KX G hmg ?a0 ?l0 ?c0 ?k0 ?a1 ?l1 ?c1 ?k1 ?a2 ?i2 ?l2 ?c2 ?k2 ?a3 ?i3 ?l3 ?c3 ?k3 ?a4 ?i4 ?l4 ?c4 ?k4 ?a5 ?i5 ?l5 ?c5 ?k5 ?a6 ?i6 ?l6 ?c6 ?k6 ?a7 ?i7 ?l7 ?c7 ?k7 ?a8 ?i8 ?l8 ?c8 ?k8 ?a9 ?l9 ?c9 ?k9 ?a10 ?l10 ?c10 ?k10 ?a11 ?l11 ?c11 ?k11 ?a12 ?l12 ?c12 ?k12 ?a13 ?l13 ?c13 ?k13 ?a14 ?l14 ?c14 ?k14 ?a15 ?l15 ?c15 ?k15 ?a16 ?l16 ?c16 ?k16 ?a17 ?l17 ?c17 ?k17 ?a18 ?l18 ?c18 ?k18 ?a19 ?l19 ?c19 ?k19 ?z0 ?z1 ?z2 ?z3 ?z4 ?z5 ?z6 ?z7 ?z8 ?y0 ?u0 ?u1 ?u2 ?tq ?aCMeter ?aCNoStream ?aCTooLong ?aCTooMuch ?aCNoBack ?aCCurveError ?aCEndless ?aCNoCurve ?aCNoName ?aCNoNet ?aCNoRow ?aCNoText ?aCRing ?aCTooLittle ?zV ?pgMeter ?hdMeter ?poMeter ?saMeter ?mkMeter ?kcMeter ?nAMeter_curve ?nAMeter_tallies ?nAMeter_most ?rENoStream ?rKNoStream ?eSNoStream ?eTNoStream ?rETooLong ?rKTooLong ?eSTooLong ?eTTooLong ?rETooMuch ?rKTooMuch ?eSTooMuch ?eTTooMuch ?rENoBack ?rKNoBack ?eSNoBack ?eTNoBack ?eSCurveError ?eTCurveError ?eDCurveError ?eXNoStream_CurveError ?eXTooMuch_CurveError ?eXTooLong_CurveError ?eXNoBack_CurveError ?q1NoStream ?q2NoStream ?eDNoStream ?q5NoStream ?q6 ?q7 ?q8NoStream ?eTEndless ?eDEndless ?eXNoStream_Endless ?dXNoStream_Endless ?eTNoCurve ?eDNoCurve ?eXNoStream_NoCurve ?dXNoStream_NoCurve ?eTNoName ?eDNoName ?eXNoStream_NoName ?dXNoStream_NoName ?eTNoNet ?eDNoNet ?eXNoStream_NoNet ?dXNoStream_NoNet ?eTNoRow ?eDNoRow ?eXNoStream_NoRow ?dXNoStream_NoRow ?eTNoText ?eDNoText ?eXNoStream_NoText ?dXNoStream_NoText ?eTRing ?eDRing ?eXNoStream_Ring ?dXNoStream_Ring ?eTTooLittle ?eDTooLittle ?eXNoStream_TooLittle ?dXNoStream_TooLittle ?q1TooMuch ?q2TooMuch ?eDTooMuch ?q5TooMuch ?q8TooMuch ?eXTooMuch_Endless ?dXTooMuch_Endless ?eXTooMuch_NoCurve ?dXTooMuch_NoCurve ?eXTooMuch_NoName ?dXTooMuch_NoName ?eXTooMuch_NoNet ?dXTooMuch_NoNet ?eXTooMuch_NoRow ?dXTooMuch_NoRow ?eXTooMuch_NoText ?dXTooMuch_NoText ?eXTooMuch_Ring ?dXTooMuch_Ring ?eXTooMuch_TooLittle ?dXTooMuch_TooLittle ?q1TooLong ?q2TooLong ?eDTooLong ?q5TooLong ?q8TooLong ?eXTooLong_Endless ?dXTooLong_Endless ?eXTooLong_NoCurve ?dXTooLong_NoCurve ?eXTooLong_NoName ?dXTooLong_NoName ?eXTooLong_NoNet ?dXTooLong_NoNet ?eXTooLong_NoRow ?dXTooLong_NoRow ?eXTooLong_NoText ?dXTooLong_NoText ?eXTooLong_Ring ?dXTooLong_Ring ?eXTooLong_TooLittle ?dXTooLong_TooLittle ?q1NoBack ?q2NoBack ?eDNoBack ?q5NoBack ?q8NoBack ?eXNoBack_Endless ?dXNoBack_Endless ?eXNoBack_NoCurve ?dXNoBack_NoCurve ?eXNoBack_NoName ?dXNoBack_NoName ?eXNoBack_NoNet ?dXNoBack_NoNet ?eXNoBack_NoRow ?dXNoBack_NoRow ?eXNoBack_NoText ?dXNoBack_NoText ?eXNoBack_Ring ?dXNoBack_Ring ?eXNoBack_TooLittle ?dXNoBack_TooLittle ?eXNoStream_TooMuch ?dXNoStream_TooMuch ?eXTooMuch_TooMuch ?eXTooLong_TooMuch ?dXTooLong_TooMuch ?eXNoBack_TooMuch ?dXNoBack_TooMuch ?eXNoStream_NoStream ?eXTooMuch_NoStream ?dXTooMuch_NoStream ?eXTooLong_NoStream ?dXTooLong_NoStream ?eXNoBack_NoStream ?dXNoBack_NoStream ?eXNoStream_NoBack ?dXNoStream_NoBack ?eXTooMuch_NoBack ?dXTooMuch_NoBack ?eXTooLong_NoBack ?dXTooLong_NoBack ?eXNoBack_NoBack ?eXNoStream_TooLong ?dXNoStream_TooLong ?eXTooMuch_TooLong ?dXTooMuch_TooLong ?eXTooLong_TooLong ?eXNoBack_TooLong ?dXNoBack_TooLong ?kXNoStream_V ?kXTooMuch_V ?kXTooLong_V ?kXNoBack_V
    (case aCMeter => k_is); (case aCNoStream => k_is); (case aCTooLong => k_is); (case aCTooMuch => k_is); (case aCNoBack => k_is); (case aCCurveError => k_is); (case aCEndless => k_is); (case aCNoCurve => k_is); (case aCNoName => k_is); (case aCNoNet => k_is); (case aCNoRow => k_is); (case aCNoText => k_is); (case aCRing => k_is); (case aCTooLittle => k_is); (case a0 => k_is); (case l0 => k_is); (case c0 => k_is); (case k0 => k_is); (case a1 => k_is); (case l1 => k_is); (case c1 => k_is); (case k1 => k_is); (case a2 => k_is); (case i2 => k_is); (case l2 => k_is); (case c2 => k_is); (case k2 => k_is); (case a3 => k_is); (case i3 => k_is); (case l3 => k_is); (case c3 => k_is); (case k3 => k_is); (case a4 => k_is); (case i4 => k_is); (case l4 => k_is); (case c4 => k_is); (case k4 => k_is); (case a5 => k_is); (case i5 => k_is); (case l5 => k_is); (case c5 => k_is); (case k5 => k_is); (case a6 => k_is); (case i6 => k_is); (case l6 => k_is); (case c6 => k_is); (case k6 => k_is); (case a7 => k_is); (case i7 => k_is); (case l7 => k_is); (case c7 => k_is); (case k7 => k_is); (case a8 => k_is); (case i8 => k_is); (case l8 => k_is); (case c8 => k_is); (case k8 => k_is); (case a9 => k_is); (case l9 => k_is); (case c9 => k_is); (case k9 => k_is); (case a10 => k_is); (case l10 => k_is); (case c10 => k_is); (case k10 => k_is); (case a11 => k_is); (case l11 => k_is); (case c11 => k_is); (case k11 => k_is); (case a12 => k_is); (case l12 => k_is); (case c12 => k_is); (case k12 => k_is); (case a13 => k_is); (case l13 => k_is); (case c13 => k_is); (case k13 => k_is); (case a14 => k_is); (case l14 => k_is); (case c14 => k_is); (case k14 => k_is); (case a15 => k_is); (case l15 => k_is); (case c15 => k_is); (case k15 => k_is); (case a16 => k_is); (case l16 => k_is); (case c16 => k_is); (case k16 => k_is); (case a17 => k_is); (case l17 => k_is); (case c17 => k_is); (case k17 => k_is); (case a18 => k_is); (case l18 => k_is); (case c18 => k_is); (case k18 => k_is); (case a19 => k_is); (case l19 => k_is); (case c19 => k_is); (case k19 => k_is); (case z0 => k_is); (case z1 => k_is); (case z2 => k_is); (case z3 => k_is); (case z4 => k_is); (case z5 => k_is); (case z6 => k_is); (case z7 => k_is); (case z8 => k_is); (case y0 => k_is); (case u0 => first | rfl | k_is); (case u1 => first | rfl | k_is); (case u2 => first | rfl | k_is); (case tq => decide); (case zV => k_is); (case pgMeter => k_is); (case hdMeter => k_is); (case poMeter => k_is); (case saMeter => k_is); (case mkMeter => k_is); (case kcMeter => k_is); (case nAMeter_curve => k_is); (case nAMeter_tallies => k_is); (case nAMeter_most => k_is); (case rENoStream => k_exc); (case rKNoStream => k_is); (case eSNoStream => k_is); (case eTNoStream => k_is); (case rETooLong => k_exc); (case rKTooLong => k_is); (case eSTooLong => k_is); (case eTTooLong => k_is); (case rETooMuch => k_exc); (case rKTooMuch => k_is); (case eSTooMuch => k_is); (case eTTooMuch => k_is); (case rENoBack => k_exc); (case rKNoBack => k_is); (case eSNoBack => k_is); (case eTNoBack => k_is); (case eSCurveError => k_is); (case eTCurveError => k_is); (case eDCurveError => k_is); (case eXNoStream_CurveError => first | rfl | k_is); (case eXTooMuch_CurveError => first | rfl | k_is); (case eXTooLong_CurveError => first | rfl | k_is); (case eXNoBack_CurveError => first | rfl | k_is); (case q1NoStream => k_is); (case q2NoStream => k_is); (case eDNoStream => k_is); (case q5NoStream => k_is); (case q6 => k_is); (case q7 => k_is); (case q8NoStream => k_is); (case eTEndless => k_is); (case eDEndless => k_is); (case eXNoStream_Endless => first | rfl | k_is); (case dXNoStream_Endless => first | rfl | decide); (case eTNoCurve => k_is); (case eDNoCurve => k_is); (case eXNoStream_NoCurve => first | rfl | k_is); (case dXNoStream_NoCurve => first | rfl | decide); (case eTNoName => k_is); (case eDNoName => k_is); (case eXNoStream_NoName => first | rfl | k_is); (case dXNoStream_NoName => first | rfl | decide); (case eTNoNet => k_is); (case eDNoNet => k_is); (case eXNoStream_NoNet => first | rfl | k_is); (case dXNoStream_NoNet => first | rfl | decide); (case eTNoRow => k_is); (case eDNoRow => k_is); (case eXNoStream_NoRow => first | rfl | k_is); (case dXNoStream_NoRow => first | rfl | decide); (case eTNoText => k_is); (case eDNoText => k_is); (case eXNoStream_NoText => first | rfl | k_is); (case dXNoStream_NoText => first | rfl | decide); (case eTRing => k_is); (case eDRing => k_is); (case eXNoStream_Ring => first | rfl | k_is); (case dXNoStream_Ring => first | rfl | decide); (case eTTooLittle => k_is); (case eDTooLittle => k_is); (case eXNoStream_TooLittle => first | rfl | k_is); (case dXNoStream_TooLittle => first | rfl | decide); (case q1TooMuch => k_is); (case q2TooMuch => k_is); (case eDTooMuch => k_is); (case q5TooMuch => k_is); (case q8TooMuch => k_is); (case eXTooMuch_Endless => first | rfl | k_is); (case dXTooMuch_Endless => first | rfl | decide); (case eXTooMuch_NoCurve => first | rfl | k_is); (case dXTooMuch_NoCurve => first | rfl | decide); (case eXTooMuch_NoName => first | rfl | k_is); (case dXTooMuch_NoName => first | rfl | decide); (case eXTooMuch_NoNet => first | rfl | k_is); (case dXTooMuch_NoNet => first | rfl | decide); (case eXTooMuch_NoRow => first | rfl | k_is); (case dXTooMuch_NoRow => first | rfl | decide); (case eXTooMuch_NoText => first | rfl | k_is); (case dXTooMuch_NoText => first | rfl | decide); (case eXTooMuch_Ring => first | rfl | k_is); (case dXTooMuch_Ring => first | rfl | decide); (case eXTooMuch_TooLittle => first | rfl | k_is); (case dXTooMuch_TooLittle => first | rfl | decide); (case q1TooLong => k_is); (case q2TooLong => k_is); (case eDTooLong => k_is); (case q5TooLong => k_is); (case q8TooLong => k_is); (case eXTooLong_Endless => first | rfl | k_is); (case dXTooLong_Endless => first | rfl | decide); (case eXTooLong_NoCurve => first | rfl | k_is); (case dXTooLong_NoCurve => first | rfl | decide); (case eXTooLong_NoName => first | rfl | k_is); (case dXTooLong_NoName => first | rfl | decide); (case eXTooLong_NoNet => first | rfl | k_is); (case dXTooLong_NoNet => first | rfl | decide); (case eXTooLong_NoRow => first | rfl | k_is); (case dXTooLong_NoRow => first | rfl | decide); (case eXTooLong_NoText => first | rfl | k_is); (case dXTooLong_NoText => first | rfl | decide); (case eXTooLong_Ring => first | rfl | k_is); (case dXTooLong_Ring => first | rfl | decide); (case eXTooLong_TooLittle => first | rfl | k_is); (case dXTooLong_TooLittle => first | rfl | decide); (case q1NoBack => k_is); (case q2NoBack => k_is); (case eDNoBack => k_is); (case q5NoBack => k_is); (case q8NoBack => k_is); (case eXNoBack_Endless => first | rfl | k_is); (case dXNoBack_Endless => first | rfl | decide); (case eXNoBack_NoCurve => first | rfl | k_is); (case dXNoBack_NoCurve => first | rfl | decide); (case eXNoBack_NoName => first | rfl | k_is); (case dXNoBack_NoName => first | rfl | decide); (case eXNoBack_NoNet => first | rfl | k_is); (case dXNoBack_NoNet => first | rfl | decide); (case eXNoBack_NoRow => first | rfl | k_is); (case dXNoBack_NoRow => first | rfl | decide); (case eXNoBack_NoText => first | rfl | k_is); (case dXNoBack_NoText => first | rfl | decide); (case eXNoBack_Ring => first | rfl | k_is); (case dXNoBack_Ring => first | rfl | decide); (case eXNoBack_TooLittle => first | rfl | k_is); (case dXNoBack_TooLittle => first | rfl | decide); (case eXNoStream_TooMuch => first | rfl | k_is); (case dXNoStream_TooMuch => first | rfl | decide); (case eXTooMuch_TooMuch => first | rfl | k_is); (case eXTooLong_TooMuch => first | rfl | k_is); (case dXTooLong_TooMuch => first | rfl | decide); (case eXNoBack_TooMuch => first | rfl | k_is); (case dXNoBack_TooMuch => first | rfl | decide); (case eXNoStream_NoStream => first | rfl | k_is); (case eXTooMuch_NoStream => first | rfl | k_is); (case dXTooMuch_NoStream => first | rfl | decide); (case eXTooLong_NoStream => first | rfl | k_is); (case dXTooLong_NoStream => first | rfl | decide); (case eXNoBack_NoStream => first | rfl | k_is); (case dXNoBack_NoStream => first | rfl | decide); (case eXNoStream_NoBack => first | rfl | k_is); (case dXNoStream_NoBack => first | rfl | decide); (case eXTooMuch_NoBack => first | rfl | k_is); (case dXTooMuch_NoBack => first | rfl | decide); (case eXTooLong_NoBack => first | rfl | k_is); (case dXTooLong_NoBack => first | rfl | decide); (case eXNoBack_NoBack => first | rfl | k_is); (case eXNoStream_TooLong => first | rfl | k_is); (case dXNoStream_TooLong => first | rfl | decide); (case eXTooMuch_TooLong => first | rfl | k_is); (case dXTooMuch_TooLong => first | rfl | decide); (case eXTooLong_TooLong => first | rfl | k_is); (case eXNoBack_TooLong => first | rfl | k_is); (case dXNoBack_TooLong => first | rfl | decide); (case kXNoStream_V => k_is); (case kXTooMuch_V => k_is); (case kXTooLong_V => k_is); (case kXNoBack_V => k_is)
